import PyProof.Rows.All
import Wide.All
import OpenK.AllK
import Wide.FinOn
import HandS.ForMost
import HandS.ForExc
import HandS.Walk
import HandS.Wide
import HandS.ExcInit
import HandS.Flow
import HandS.TupAny
import HandS.TupMul
import HandS.TupLe
import HandS.Deep
import KE.GoesEnum
import KE.GoesMore
import HandS.Zip
import HandS.SortInts
import HandS.TupLen
import HandS.Base
import HandS.Call
import HandS.Ends
import HandS.Defaults
import HandS.ExcOwn
import HandS.HeadEnd
import HandS.Head0
import HandS.Head1
import HandS.Head2
import HandS.HeadHook1
import HandS.HeadHook2
import HandS.IsInst
import PyProof.StrBlock2
import HandS.Style
import HandS.Conv
import HandS.SortRule
import HandS.More
import HandS.Text
import HandS.RaiseMore
import PyProof.ReprRoads
import HandS.Codes
import PyProof.ReprLen
import PyProof.ReprBulk
import PyProof.P3Eq
import HandS.ClsMeth
import KE.KExcInit
import HandS.Comp
import HandS.DictComp
import HandS.Dict
import KE.KTryMore
import HandS.Exc
import HandS.TupSets
import HandS.SortOrd
import KE.KTupSum
import KE.DataMinMax
import KE.SortKeyHeap
import HandS.HeadHook3
import HandS.HeadHook4
import KE.KDictKeyed
import KE.KStateDown
import Lean
import PySem.Challenge.RW_gatecounts_k07_whole_first_and_last
set_option Elab.async false
set_option linter.all false
namespace Gr
variable {α : Type}
def insL (le : α → α → Bool) (x : α) : List α → List α
  | [] => [x]
  | y :: ys => if le x y = true then x :: y :: ys else y :: insL le x ys
def isort (le : α → α → Bool) : List α → List α
  | [] => []
  | x :: xs => insL le x (isort le xs)
variable {le : α → α → Bool}
theorem insL_perm (x : α) : ∀ ys : List α, (insL le x ys).Perm (x :: ys)
  | [] => .refl _
  | y :: ys => by
    unfold insL
    split
    · exact .refl _
    · exact ((insL_perm x ys).cons y).trans (.swap x y ys)
theorem isort_perm : ∀ xs : List α, (isort le xs).Perm xs
  | [] => .refl _
  | x :: xs => (insL_perm x _).trans ((isort_perm xs).cons x)
theorem insL_pw (tr : ∀ a b c, le a b = true → le b c = true → le a c = true) (tot : ∀ a b, (le a b || le b a) = true) (x : α) : ∀ {ys : List α}, ys.Pairwise (fun a b => le a b = true) → (insL le x ys).Pairwise fun a b => le a b = true
  | [], _ => List.pairwise_singleton _ _
  | y :: ys, h => by
    obtain ⟨h1, h2⟩ := List.pairwise_cons.mp h
    unfold insL
    split
    · rename_i e
      refine List.pairwise_cons.mpr ⟨fun z hz => ?_, h⟩
      rcases List.mem_cons.mp hz with rfl | hz
      · exact e
      · exact tr _ _ _ e (h1 z hz)
    · rename_i e
      refine List.pairwise_cons.mpr ⟨fun z hz => ?_, insL_pw tr tot x h2⟩
      rcases List.mem_cons.mp ((insL_perm x ys).mem_iff.mp hz) with rfl | hz
      · rcases Bool.or_eq_true _ _ ▸ tot y z with k | k
        · exact k
        · exact absurd k e
      · exact h1 z hz
theorem isort_pw (tr : ∀ a b c, le a b = true → le b c = true → le a c = true) (tot : ∀ a b, (le a b || le b a) = true) : ∀ xs : List α, (isort le xs).Pairwise fun a b => le a b = true
  | [] => .nil
  | x :: xs => insL_pw tr tot x (isort_pw tr tot xs)
end Gr

set_option Elab.async false
set_option linter.all false
namespace Gr
/-- joined by gates of E, taken in either direction -/
inductive Con (E : List (Int × Int)) : Int → Int → Prop
  | refl (a : Int) : Con E a a
  | fwd {a b c : Int} : Con E a b → (b, c) ∈ E → Con E a c
  | bwd {a b c : Int} : Con E a b → (c, b) ∈ E → Con E a c
variable {E E' : List (Int × Int)} {a b c x y : Int} {g : Int × Int}
theorem Con.trans (h : Con E a b) (k : Con E b c) : Con E a c := by
  induction k with
  | refl => exact h
  | fwd _ e ih => exact ih.fwd e
  | bwd _ e ih => exact ih.bwd e
theorem Con.symm (h : Con E a b) : Con E b a := by
  induction h with
  | refl => exact .refl _
  | fwd _ e ih => exact ((Con.refl _).bwd e).trans ih
  | bwd _ e ih => exact ((Con.refl _).fwd e).trans ih
theorem Con.mono (s : ∀ e, e ∈ E → e ∈ E') (h : Con E a b) : Con E' a b := by
  induction h with
  | refl => exact .refl _
  | fwd _ e ih => exact ih.fwd (s _ e)
  | bwd _ e ih => exact ih.bwd (s _ e)
/-- one gate more -/
theorem con_more (s : ∀ e, e ∈ E' ↔ e = g ∨ e ∈ E) : Con E' x y ↔ Con E x y ∨ (Con E x g.1 ∧ Con E g.2 y) ∨ (Con E x g.2 ∧ Con E g.1 y) := by
  have up : ∀ {a b}, Con E a b → Con E' a b := fun h => h.mono fun e he => (s e).mpr (.inr he)
  have hg : g ∈ E' := (s g).mpr (.inl rfl)
  constructor
  · intro h
    induction h with
    | refl => exact .inl (.refl _)
    | @fwd p q _ e ih =>
      rcases (s _).mp e with e | e
      · have e1 : p = g.1 := by rw [← e]
        have e2 : q = g.2 := by rw [← e]
        subst e1 e2
        rcases ih with h | ⟨h1, h2⟩ | ⟨h1, h2⟩
        · exact .inr (.inl ⟨h, .refl _⟩)
        · exact .inr (.inl ⟨h1, .refl _⟩)
        · exact .inl h1
      · rcases ih with h | ⟨h1, h2⟩ | ⟨h1, h2⟩
        · exact .inl (h.fwd e)
        · exact .inr (.inl ⟨h1, h2.fwd e⟩)
        · exact .inr (.inr ⟨h1, h2.fwd e⟩)
    | @bwd p q _ e ih =>
      rcases (s _).mp e with e | e
      · have e1 : q = g.1 := by rw [← e]
        have e2 : p = g.2 := by rw [← e]
        subst e1 e2
        rcases ih with h | ⟨h1, h2⟩ | ⟨h1, h2⟩
        · exact .inr (.inr ⟨h, .refl _⟩)
        · exact .inl h1
        · exact .inr (.inr ⟨h1, .refl _⟩)
      · rcases ih with h | ⟨h1, h2⟩ | ⟨h1, h2⟩
        · exact .inl (h.bwd e)
        · exact .inr (.inl ⟨h1, h2.bwd e⟩)
        · exact .inr (.inr ⟨h1, h2.bwd e⟩)
  · rintro (h | ⟨h1, h2⟩ | ⟨h1, h2⟩)
    · exact up h
    · exact ((up h1).fwd (b := g.1) (c := g.2) hg).trans (up h2)
    · exact ((up h1).bwd (b := g.2) (c := g.1) hg).trans (up h2)
/-- touched by a gate -/
def Tou (E : List (Int × Int)) (x : Int) : Prop := ∃ e, e ∈ E ∧ (x = e.1 ∨ x = e.2)
theorem con_tou (h : Con E x y) : x = y ∨ (Tou E x ∧ Tou E y) := by
  induction h with
  | refl => exact .inl rfl
  | @fwd p q _ e ih =>
    refine .inr ⟨?_, ⟨_, e, .inr rfl⟩⟩
    rcases ih with rfl | ⟨h, _⟩
    · exact ⟨_, e, .inl rfl⟩
    · exact h
  | @bwd p q _ e ih =>
    refine .inr ⟨?_, ⟨_, e, .inl rfl⟩⟩
    rcases ih with rfl | ⟨h, _⟩
    · exact ⟨_, e, .inr rfl⟩
    · exact h
theorem asc_ext : ∀ {xs ys : List Int}, xs.Pairwise (· < ·) → ys.Pairwise (· < ·) → (∀ x, x ∈ xs ↔ x ∈ ys) → xs = ys
  | [], [], _, _, _ => rfl
  | [], y :: ys, _, _, h => absurd ((h y).mpr List.mem_cons_self) List.not_mem_nil
  | x :: xs, [], _, _, h => absurd ((h x).mp List.mem_cons_self) List.not_mem_nil
  | x :: xs, y :: ys, p, q, h => by
    obtain ⟨p1, p2⟩ := List.pairwise_cons.mp p
    obtain ⟨q1, q2⟩ := List.pairwise_cons.mp q
    have e : x = y := by
      have h1 := (h x).mp List.mem_cons_self
      have h2 := (h y).mpr List.mem_cons_self
      rcases List.mem_cons.mp h1 with e | h1
      · exact e
      · rcases List.mem_cons.mp h2 with e | h2
        · exact e.symm
        · have := q1 x h1
          have := p1 y h2
          omega
    subst e
    congr 1
    refine asc_ext p2 q2 fun z => ⟨fun hz => ?_, fun hz => ?_⟩
    · rcases List.mem_cons.mp ((h z).mp (List.mem_cons_of_mem _ hz)) with e | k
      · have := p1 z hz; omega
      · exact k
    · rcases List.mem_cons.mp ((h z).mpr (List.mem_cons_of_mem _ hz)) with e | k
      · have := q1 z hz; omega
      · exact k
/-- the new ones of xs put behind acc -/
def addAll (acc xs : List Int) : List Int := xs.foldl (fun acc x => if x ∈ acc then acc else acc ++ [x]) acc
theorem mem_addAll : ∀ {xs acc : List Int}, x ∈ addAll acc xs ↔ x ∈ acc ∨ x ∈ xs
  | [], acc => by simp [addAll]
  | z :: xs, acc => by
    show x ∈ addAll (if z ∈ acc then acc else acc ++ [z]) xs ↔ _
    rw [mem_addAll]
    split
    · rename_i h
      constructor
      · rintro (k | k)
        · exact .inl k
        · exact .inr (List.mem_cons_of_mem _ k)
      · rintro (k | k)
        · exact .inl k
        · rcases List.mem_cons.mp k with rfl | k
          · exact .inl h
          · exact .inr k
    · simp [or_assoc]
theorem nodup_addAll : ∀ {xs acc : List Int}, acc.Nodup → (addAll acc xs).Nodup
  | [], acc, h => h
  | z :: xs, acc, h => by
    show (addAll (if z ∈ acc then acc else acc ++ [z]) xs).Nodup
    refine nodup_addAll ?_
    split
    · exact h
    · rename_i hz
      rw [List.nodup_append]
      refine ⟨h, by simp, fun p hp q hq => ?_⟩
      rw [List.mem_singleton] at hq
      subst hq
      exact fun e => hz (e ▸ hp)
def sortI (ns : List Int) : List Int := Gr.isort (fun a b => decide (a ≤ b)) ns
theorem mem_sortI {ns : List Int} : x ∈ sortI ns ↔ x ∈ ns := (Gr.isort_perm ns).mem_iff
theorem asc_sortI {ns : List Int} (h : ns.Nodup) : (sortI ns).Pairwise (· < ·) := by
  have p := Gr.isort_perm (le := fun a b : Int => decide (a ≤ b)) ns
  have s : (sortI ns).Pairwise fun a b => decide (a ≤ b) = true := Gr.isort_pw (fun a b c h1 h2 => by simp only [decide_eq_true_eq] at *; omega) (fun a b => by simp; omega) ns
  have n : (sortI ns).Nodup := p.nodup_iff.mpr h
  have n : (sortI ns).Pairwise (· ≠ ·) := n
  exact (List.pairwise_and_iff.mpr ⟨s, n⟩).imp fun h => by simp only [decide_eq_true_eq] at h; omega
def isNear (g : Int × Int) (p : List Int) : Bool := decide (g.1 ∈ p) || decide (g.2 ∈ p)
def fresh (found : List (List Int)) (g : Int × Int) : List Int := sortI (addAll [] ((found.filter (isNear g)).flatten ++ [g.1, g.2]))
def partStep (found : List (List Int)) (z : (Int × Int) × Int) : List (List Int) := if 0 < z.2 then found.filter (fun p => !isNear z.1 p) ++ [fresh found z.1] else found
/-- what the merged parts are: just the sets of places that belong together -/
structure Parts (E : List (Int × Int)) (found : List (List Int)) : Prop where
  asc : ∀ p, p ∈ found → p.Pairwise (· < ·)
  mem : ∀ p, p ∈ found → ∀ x, x ∈ p → Tou E x ∧ ∀ y, y ∈ p ↔ Con E x y
  all : ∀ x, Tou E x → ∃ p, p ∈ found ∧ x ∈ p
  ne : ∀ p, p ∈ found → p ≠ []
  nodup : found.Nodup
theorem isNear_iff {p : List Int} : isNear g p = true ↔ g.1 ∈ p ∨ g.2 ∈ p := by simp [isNear]
theorem Parts.more {found : List (List Int)} (P : Parts E found) (s : ∀ e, e ∈ E' ↔ e = g ∨ e ∈ E) : Parts E' (found.filter (fun p => !isNear g p) ++ [fresh found g]) := by
  have hg : g ∈ E' := (s g).mpr (.inl rfl)
  have tou_up : ∀ {x}, Tou E x → Tou E' x := fun ⟨e, he, h⟩ => ⟨e, (s e).mpr (.inr he), h⟩
  have tou_of : ∀ {x}, Tou E' x → x = g.1 ∨ x = g.2 ∨ Tou E x := fun ⟨e, he, h⟩ => by
    rcases (s e).mp he with rfl | he
    · rcases h with h | h
      · exact .inl h
      · exact .inr (.inl h)
    · exact .inr (.inr ⟨e, he, h⟩)
  have mf : ∀ z, z ∈ fresh found g ↔ Con E g.1 z ∨ Con E g.2 z := fun z => by
    unfold fresh
    rw [mem_sortI, mem_addAll]
    simp only [List.not_mem_nil, false_or, List.mem_append, List.mem_flatten, List.mem_filter, isNear_iff, List.mem_cons, or_false]
    constructor
    · rintro (⟨p, ⟨hp, h⟩, hz⟩ | rfl | rfl)
      · rcases h with h | h
        · exact .inl (((P.mem p hp _ h).2 z).mp hz)
        · exact .inr (((P.mem p hp _ h).2 z).mp hz)
      · exact .inl (.refl _)
      · exact .inr (.refl _)
    · rintro (h | h)
      · rcases con_tou h with e | ⟨t, _⟩
        · exact .inr (.inl e.symm)
        · obtain ⟨p, hp, hx⟩ := P.all _ t
          exact .inl ⟨p, ⟨hp, .inl hx⟩, ((P.mem p hp _ hx).2 z).mpr h⟩
      · rcases con_tou h with e | ⟨t, _⟩
        · exact .inr (.inr e.symm)
        · obtain ⟨p, hp, hx⟩ := P.all _ t
          exact .inl ⟨p, ⟨hp, .inr hx⟩, ((P.mem p hp _ hx).2 z).mpr h⟩
  have sf : (fresh found g).Pairwise (· < ·) := asc_sortI (nodup_addAll List.nodup_nil)
  -- an old part that is not near
  have far : ∀ p, p ∈ found → isNear g p = false → ∀ x, x ∈ p → ¬ Con E x g.1 ∧ ¬ Con E x g.2 := fun p hp hn x hx => by
    have n : ¬ (g.1 ∈ p ∨ g.2 ∈ p) := fun h => by rw [isNear_iff.mpr h] at hn; cases hn
    exact ⟨fun h => n (.inl (((P.mem p hp x hx).2 _).mpr h)), fun h => n (.inr (((P.mem p hp x hx).2 _).mpr h))⟩
  have inF : ∀ p, p ∈ found.filter (fun p => !isNear g p) ↔ p ∈ found ∧ isNear g p = false := fun p => by simp
  refine ⟨fun p hp => ?_, fun p hp x hx => ?_, fun x hx => ?_, fun p hp => ?_, ?_⟩
  · rcases List.mem_append.mp hp with hp | hp
    · exact P.asc p ((inF p).mp hp).1
    · rw [List.mem_singleton] at hp; subst hp; exact sf
  · rcases List.mem_append.mp hp with hp | hp
    · obtain ⟨hp, hn⟩ := (inF p).mp hp
      obtain ⟨t, h⟩ := P.mem p hp x hx
      obtain ⟨f1, f2⟩ := far p hp hn x hx
      refine ⟨tou_up t, fun y => (h y).trans ⟨fun k => (con_more s).mpr (.inl k), fun k => ?_⟩⟩
      rcases (con_more s).mp k with k | ⟨k, _⟩ | ⟨k, _⟩
      · exact k
      · exact absurd k f1
      · exact absurd k f2
    · rw [List.mem_singleton] at hp; subst hp
      rw [mf] at hx
      refine ⟨?_, fun y => ?_⟩
      · rcases hx with h | h <;> rcases con_tou h with e | ⟨_, t⟩
        · exact ⟨g, hg, .inl e.symm⟩
        · exact tou_up t
        · exact ⟨g, hg, .inr e.symm⟩
        · exact tou_up t
      · rw [mf, con_more s]
        constructor
        · rintro (h | h)
          · rcases hx with k | k
            · exact .inl (k.symm.trans h)
            · exact .inr (.inr ⟨k.symm, h⟩)
          · rcases hx with k | k
            · exact .inr (.inl ⟨k.symm, h⟩)
            · exact .inl (k.symm.trans h)
        · rintro (h | ⟨_, h⟩ | ⟨_, h⟩)
          · rcases hx with k | k
            · exact .inl (k.trans h)
            · exact .inr (k.trans h)
          · exact .inr h
          · exact .inl h
  · rcases tou_of hx with rfl | rfl | t
    · exact ⟨_, List.mem_append_right _ List.mem_cons_self, (mf _).mpr (.inl (.refl _))⟩
    · exact ⟨_, List.mem_append_right _ List.mem_cons_self, (mf _).mpr (.inr (.refl _))⟩
    · obtain ⟨p, hp, hx⟩ := P.all _ t
      cases hn : isNear g p with
      | false => exact ⟨p, List.mem_append_left _ ((inF p).mpr ⟨hp, hn⟩), hx⟩
      | true =>
        refine ⟨_, List.mem_append_right _ List.mem_cons_self, (mf _).mpr ?_⟩
        rcases isNear_iff.mp hn with k | k
        · exact .inl (((P.mem p hp _ k).2 x).mp hx)
        · exact .inr (((P.mem p hp _ k).2 x).mp hx)
  · rcases List.mem_append.mp hp with hp | hp
    · exact P.ne p ((inF p).mp hp).1
    · rw [List.mem_singleton] at hp; subst hp
      exact fun e => by
        have := (mf g.1).mpr (.inl (.refl _))
        rw [e] at this; exact List.not_mem_nil this
  · rw [List.nodup_append]
    refine ⟨P.nodup.sublist List.filter_sublist, by simp, fun p hp q hq e => ?_⟩
    rw [List.mem_singleton] at hq
    subst hq
    obtain ⟨hp, hn⟩ := (inF p).mp hp
    have k := (mf g.1).mpr (.inl (.refl _))
    rw [← e] at k
    rw [isNear_iff.mpr (.inl k)] at hn; cases hn
/-- the gates that were passed -/
def passedG (gc : List ((Int × Int) × Int)) : List (Int × Int) := (gc.filter fun z => decide (0 < z.2)).map (·.1)
theorem parts_fold : ∀ {gc : List ((Int × Int) × Int)} {E : List (Int × Int)} {found : List (List Int)}, Parts E found → ∀ {E' : List (Int × Int)}, (∀ e, e ∈ E' ↔ e ∈ E ∨ e ∈ passedG gc) → Parts E' (gc.foldl partStep found)
  | [], E, found, P, E', s => by
    have s : ∀ e, e ∈ E' ↔ e ∈ E := fun e => by simpa [passedG] using s e
    have t : ∀ x, Tou E' x ↔ Tou E x := fun x => ⟨fun ⟨e, h, k⟩ => ⟨e, (s e).mp h, k⟩, fun ⟨e, h, k⟩ => ⟨e, (s e).mpr h, k⟩⟩
    have c : ∀ x y, Con E' x y ↔ Con E x y := fun x y => ⟨fun h => h.mono fun e => (s e).mp, fun h => h.mono fun e => (s e).mpr⟩
    exact ⟨P.asc, fun p hp x hx => ⟨(t x).mpr (P.mem p hp x hx).1, fun y => ((P.mem p hp x hx).2 y).trans (c x y).symm⟩, fun x hx => P.all x ((t x).mp hx), P.ne, P.nodup⟩
  | z :: gc, E, found, P, E', s => by
    rw [List.foldl_cons]
    unfold partStep
    split
    · rename_i hz
      refine parts_fold (E := z.1 :: E) (P.more fun e => by simp) fun e => ?_
      rw [s e]
      simp only [passedG, List.filter_cons, hz, decide_true, if_true, List.map_cons, List.mem_cons]
      constructor
      · rintro (h | h | h)
        · exact .inl (.inr h)
        · exact .inl (.inl h)
        · exact .inr h
      · rintro ((h | h) | h)
        · exact .inr (.inl h)
        · exact .inl h
        · exact .inr (.inr h)
    · rename_i hz
      refine parts_fold P fun e => ?_
      rw [s e]
      simp [passedG, List.filter_cons, hz]
def partsL (gc : List ((Int × Int) × Int)) : List (List Int) := gc.foldl partStep []
theorem parts_ok (gc : List ((Int × Int) × Int)) : Parts (passedG gc) (partsL gc) :=
  parts_fold (E := []) ⟨fun p hp => absurd hp List.not_mem_nil, fun p hp => absurd hp List.not_mem_nil, fun x ⟨e, he, _⟩ => absurd he List.not_mem_nil, fun p hp => absurd hp List.not_mem_nil, List.nodup_nil⟩ fun e => by simp
end Gr

set_option Elab.async false
set_option linter.all false
namespace Gr
abbrev GL := List (Int × Int)
def netZ (χ : Int → Int) (z : List ((Int × Int) × Int)) : Int := (z.map fun x => x.2 * (χ x.1.2 - χ x.1.1)).sum
def net (gs : GL) (cs : List Int) (χ : Int → Int) : Int := netZ χ (gs.zip cs)
def dl (p x : Int) : Int := if x = p then 1 else 0
def passed (gs : GL) (cs : List Int) : GL := passedG (gs.zip cs)
theorem mem_passed {gs : GL} {cs : List Int} {e : Int × Int} : e ∈ passed gs cs ↔ ∃ (i : Nat) (c : Int), gs[i]? = some e ∧ cs[i]? = some c ∧ 0 < c := by
  unfold passed passedG
  rw [List.mem_map]
  constructor
  · rintro ⟨⟨g, c⟩, h, rfl⟩
    obtain ⟨h1, h2⟩ := List.mem_filter.mp h
    obtain ⟨i, hi⟩ := List.getElem?_of_mem h1
    rw [List.getElem?_zip_eq_some] at hi
    exact ⟨i, c, hi.1, hi.2, by simpa using h2⟩
  · rintro ⟨i, c, h1, h2, h3⟩
    refine ⟨(e, c), List.mem_filter.mpr ⟨List.mem_of_getElem? (i := i) (by rw [List.getElem?_zip_eq_some]; exact ⟨h1, h2⟩), by simpa using h3⟩, rfl⟩
/-- one pass less -/
def dec (cs : List Int) (i : Nat) : List Int := cs.set i (cs.getD i 0 - 1)
theorem netZ_set {χ : Int → Int} {d : Int} : ∀ {gs : GL} {cs : List Int} {i : Nat} {g : Int × Int} {c : Int}, gs[i]? = some g → cs[i]? = some c → net gs (cs.set i d) χ = net gs cs χ + (d - c) * (χ g.2 - χ g.1)
  | [], _, _, _, _, h, _ => by simp at h
  | _ :: _, [], _, _, _, _, h => by simp at h
  | a :: gs, x :: cs, 0, g, c, h1, h2 => by
    simp only [List.getElem?_cons_zero, Option.some.injEq] at h1 h2
    subst h1 h2
    unfold net netZ
    simp only [List.set_cons_zero, List.zip_cons_cons, List.map_cons, List.sum_cons]
    rw [Int.sub_mul]
    omega
  | a :: gs, x :: cs, i + 1, g, c, h1, h2 => by
    simp only [List.getElem?_cons_succ] at h1 h2
    have ih := netZ_set (χ := χ) (d := d) h1 h2
    unfold net netZ at ih ⊢
    simp only [List.set_cons_succ, List.zip_cons_cons, List.map_cons, List.sum_cons]
    rw [ih]
    omega
theorem net_dec {gs : GL} {cs : List Int} {i : Nat} {g : Int × Int} {c : Int} (χ : Int → Int) (h1 : gs[i]? = some g) (h2 : cs[i]? = some c) : net gs (dec cs i) χ = net gs cs χ - (χ g.2 - χ g.1) := by
  unfold dec
  rw [netZ_set h1 h2, List.getD_eq_getElem?_getD, h2]
  simp only [Option.getD_some]
  have : c - 1 - c = -1 := by omega
  rw [this]
  omega
theorem dec_get {cs : List Int} {i : Nat} {c : Int} (h2 : cs[i]? = some c) (j : Nat) : (dec cs i)[j]? = if i = j then some (c - 1) else cs[j]? := by
  unfold dec
  have hl := (List.getElem?_eq_some_iff.mp h2).1
  rw [List.getElem?_set, List.getD_eq_getElem?_getD, h2]
  by_cases e : i = j
  · rw [if_pos e, if_pos e, if_pos (by omega)]; rfl
  · rw [if_neg e, if_neg e]
theorem passed_dec {gs : GL} {cs : List Int} {i : Nat} {g : Int × Int} {c : Int} (h1 : gs[i]? = some g) (h2 : cs[i]? = some c) (hc : 0 < c) : ∀ e, e ∈ passed gs cs ↔ e = g ∨ e ∈ passed gs (dec cs i) := by
  intro e
  rw [mem_passed, mem_passed]
  constructor
  · rintro ⟨j, d, k1, k2, k3⟩
    by_cases hj : i = j
    · subst hj
      rw [h1] at k1
      exact .inl (Option.some.inj k1).symm
    · exact .inr ⟨j, d, k1, by rw [dec_get h2, if_neg hj]; exact k2, k3⟩
  · rintro (rfl | ⟨j, d, k1, k2, k3⟩)
    · exact ⟨i, c, h1, h2, hc⟩
    · rw [dec_get h2] at k2
      split at k2
      · rename_i e2
        subst e2
        rw [h1] at k1
        exact ⟨i, c, by rw [h1, k1], h2, hc⟩
      · exact ⟨j, d, k1, k2, k3⟩
theorem net_same {gs : GL} {cs : List Int} {χ : Int → Int} (hc : ∀ c, c ∈ cs → 0 ≤ c) (h : ∀ e, e ∈ passed gs cs → χ e.2 = χ e.1) : net gs cs χ = 0 := by
  have gen : ∀ z : List ((Int × Int) × Int), (∀ x, x ∈ z → 0 ≤ x.2) → (∀ x, x ∈ z → 0 < x.2 → χ x.1.2 = χ x.1.1) → netZ χ z = 0 := by
    intro z
    induction z with
    | nil => intro _ _; rfl
    | cons x z ih =>
      intro h1 h2
      unfold netZ at ih ⊢
      rw [List.map_cons, List.sum_cons, ih (fun y hy => h1 y (List.mem_cons_of_mem _ hy)) fun y hy => h2 y (List.mem_cons_of_mem _ hy)]
      have p := h1 x List.mem_cons_self
      by_cases q : 0 < x.2
      · rw [h2 x List.mem_cons_self q]; simp
      · have : x.2 = 0 := by omega
        rw [this]; simp
  refine gen _ (fun x hx => hc _ (List.of_mem_zip hx).2) fun x hx q => h _ ?_
  exact List.mem_map.mpr ⟨x, List.mem_filter.mpr ⟨hx, by simpa using q⟩, rfl⟩
def sumP (P : List Int) (f : Int → Int) : Int := (P.map f).sum
theorem sumP_add (f k : Int → Int) : ∀ P : List Int, sumP P (fun p => f p + k p) = sumP P f + sumP P k
  | [] => rfl
  | p :: P => by
    have ih := sumP_add f k P
    unfold sumP at *
    simp only [List.map_cons, List.sum_cons]
    omega
theorem sumP_dl {x : Int} : ∀ {P : List Int}, P.Nodup → sumP P (fun p => dl p x) = if x ∈ P then 1 else 0
  | [], _ => rfl
  | p :: P, h => by
    obtain ⟨h1, h2⟩ := List.nodup_cons.mp h
    have ih := sumP_dl (x := x) h2
    unfold sumP at *
    rw [List.map_cons, List.sum_cons, ih]
    unfold dl
    by_cases e : x = p
    · subst e
      rw [if_pos rfl, if_neg h1, if_pos List.mem_cons_self]; rfl
    · rw [if_neg e]
      by_cases m : x ∈ P
      · rw [if_pos m, if_pos (List.mem_cons_of_mem _ m)]; rfl
      · rw [if_neg m, if_neg (fun z => (List.mem_cons.mp z).elim e m)]; rfl
theorem sumP_net {gs : GL} {cs : List Int} {P : List Int} (hn : P.Nodup) : sumP P (fun p => net gs cs (dl p)) = net gs cs fun x => if x ∈ P then 1 else 0 := by
  unfold net
  generalize gs.zip cs = z
  induction z with
  | nil =>
    have : ∀ P : List Int, sumP P (fun p => netZ (dl p) []) = 0 := fun P => by
      induction P with
      | nil => rfl
      | cons p P ih => unfold sumP at *; rw [List.map_cons, List.sum_cons, ih]; rfl
    rw [this]; rfl
  | cons x z ih =>
    have e : ∀ χ : Int → Int, netZ χ (x :: z) = x.2 * (χ x.1.2 - χ x.1.1) + netZ χ z := fun χ => rfl
    simp only [e]
    rw [sumP_add, ih]
    have : ∀ P : List Int, sumP P (fun p => x.2 * (dl p x.1.2 - dl p x.1.1)) = x.2 * (sumP P (fun p => dl p x.1.2) - sumP P (fun p => dl p x.1.1)) := fun P => by
      induction P with
      | nil => simp [sumP]
      | cons p P ih =>
        unfold sumP at *
        simp only [List.map_cons, List.sum_cons]
        rw [ih, ← Int.mul_add]
        congr 1
        omega
    rw [this, sumP_dl hn, sumP_dl hn]
/-- somebody can go from there -/
def Al (H : Int → Int) (y : Int) : Prop := y < 0 ∨ 0 < H y
/-- a gate is passed -/
def mv (H : Int → Int) (g : Int × Int) : Int → Int := fun p => H p - dl p g.1 + dl p g.2
structure Fit (gs : GL) (n : Int) (cs : List Int) : Prop where
  place : ∀ g, g ∈ gs → -1 ≤ g.1 ∧ g.1 < n ∧ -1 ≤ g.2 ∧ g.2 < n ∧ g.1 ≠ g.2
  len : cs.length = gs.length
  pos : ∀ c, c ∈ cs → 0 ≤ c
structure Good (gs : GL) (n : Int) (H : Int → Int) (cs : List Int) : Prop where
  heads : ∀ p, 0 ≤ p → p < n → 0 ≤ H p
  bal : ∀ p, 0 ≤ p → p < n → 0 ≤ H p + net gs cs (dl p)
  con : ∀ e, e ∈ passed gs cs → ∃ y, Con (passed gs cs) e.1 y ∧ Al H y
theorem passed_mem {gs : GL} {cs : List Int} {e : Int × Int} (h : e ∈ passed gs cs) : e ∈ gs := by
  obtain ⟨i, c, h1, _⟩ := mem_passed.mp h
  exact List.mem_of_getElem? h1
theorem Fit.dec {gs : GL} {n : Int} {cs : List Int} {i : Nat} {c : Int} (F : Fit gs n cs) (h2 : cs[i]? = some c) (hc : 0 < c) : Fit gs n (dec cs i) := by
  refine ⟨F.place, ?_, fun d hd => ?_⟩
  · unfold Gr.dec
    rw [List.length_set]; exact F.len
  · obtain ⟨j, hj⟩ := List.getElem?_of_mem hd
    rw [dec_get h2] at hj
    split at hj
    · cases hj; omega
    · exact F.pos d (List.mem_of_getElem? hj)
theorem bal_mv {gs : GL} {cs : List Int} {H : Int → Int} {i : Nat} {g : Int × Int} {c : Int} (h1 : gs[i]? = some g) (h2 : cs[i]? = some c) (p : Int) : mv H g p + net gs (dec cs i) (dl p) = H p + net gs cs (dl p) := by
  rw [net_dec _ h1 h2]
  unfold mv
  omega
/-- the one way: what can be is good before -/
theorem Good.back {gs : GL} {n : Int} {H : Int → Int} {cs : List Int} {i : Nat} {g : Int × Int} {c : Int} (hH : ∀ p, 0 ≤ p → p < n → 0 ≤ H p) (h1 : gs[i]? = some g) (h2 : cs[i]? = some c) (hc : 0 < c) (ha : Al H g.1) (G : Good gs n (mv H g) (dec cs i)) : Good gs n H cs := by
  refine ⟨hH, fun p q1 q2 => by rw [← bal_mv h1 h2]; exact G.bal p q1 q2, fun e he => ?_⟩
  have up : ∀ x, x ∈ passed gs (dec cs i) → x ∈ passed gs cs := fun x hx => (passed_dec h1 h2 hc x).mpr (.inr hx)
  rcases (passed_dec h1 h2 hc e).mp he with rfl | he'
  · exact ⟨e.1, .refl _, ha⟩
  · obtain ⟨y, k1, k2⟩ := G.con e he'
    have k1 := k1.mono up
    rcases k2 with k2 | k2
    · exact ⟨y, k1, .inl k2⟩
    · by_cases hy : 0 < H y
      · exact ⟨y, k1, .inr hy⟩
      · have : y = g.2 := by
          unfold mv at k2
          by_cases e2 : y = g.2
          · exact e2
          · have : dl y g.2 = 0 := by unfold dl; rw [if_neg (Ne.symm e2)]
            have : 0 ≤ dl y g.1 := by unfold dl; split <;> omega
            omega
        subst this
        exact ⟨g.1, k1.bwd ((passed_dec h1 h2 hc g).mpr (.inl rfl)), ha⟩
/-- the sum of the balances in a set of rooms -/
theorem sum_bal {gs : GL} {n : Int} {cs : List Int} {H : Int → Int} {P : List Int} (hn : P.Nodup) : sumP P (fun p => H p + net gs cs (dl p)) = sumP P H + net gs cs fun x => if x ∈ P then 1 else 0 := by
  rw [sumP_add, sumP_net hn]
theorem sumP_zero {f : Int → Int} : ∀ {P : List Int}, (∀ p, p ∈ P → f p = 0) → sumP P f = 0
  | [], _ => rfl
  | p :: P, h => by
    unfold sumP
    rw [List.map_cons, List.sum_cons, h p List.mem_cons_self]
    have := sumP_zero (f := f) (P := P) fun q hq => h q (List.mem_cons_of_mem _ hq)
    unfold sumP at this
    omega
theorem sumP_nonneg {f : Int → Int} : ∀ {P : List Int}, (∀ p, p ∈ P → 0 ≤ f p) → 0 ≤ sumP P f
  | [], _ => Int.le_refl _
  | p :: P, h => by
    unfold sumP
    rw [List.map_cons, List.sum_cons]
    have := sumP_nonneg (f := f) (P := P) fun q hq => h q (List.mem_cons_of_mem _ hq)
    have := h p List.mem_cons_self
    unfold sumP at *
    omega
theorem sumP_all0 {f : Int → Int} : ∀ {P : List Int}, (∀ p, p ∈ P → 0 ≤ f p) → sumP P f = 0 → ∀ p, p ∈ P → f p = 0
  | [], _, _, p, hp => absurd hp List.not_mem_nil
  | q :: P, h, e, p, hp => by
    have h1 := h q List.mem_cons_self
    have h2 := sumP_nonneg (f := f) (P := P) fun r hr => h r (List.mem_cons_of_mem _ hr)
    unfold sumP at e h2
    rw [List.map_cons, List.sum_cons] at e
    rcases List.mem_cons.mp hp with rfl | hp
    · omega
    · exact sumP_all0 (fun r hr => h r (List.mem_cons_of_mem _ hr)) (by unfold sumP; omega) p hp
theorem net_mono {gs : GL} {cs : List Int} {χ : Int → Int} (hc : ∀ c, c ∈ cs → 0 ≤ c) (h : ∀ e, e ∈ passed gs cs → χ e.1 ≤ χ e.2) : 0 ≤ net gs cs χ ∧ (net gs cs χ = 0 → ∀ e, e ∈ passed gs cs → χ e.1 = χ e.2) := by
  have gen : ∀ z : List ((Int × Int) × Int), (∀ x, x ∈ z → 0 ≤ x.2) → (∀ x, x ∈ z → 0 < x.2 → χ x.1.1 ≤ χ x.1.2) → 0 ≤ netZ χ z ∧ (netZ χ z = 0 → ∀ x, x ∈ z → 0 < x.2 → χ x.1.1 = χ x.1.2) := by
    intro z
    induction z with
    | nil => exact fun _ _ => ⟨Int.le_refl _, fun _ x hx => absurd hx List.not_mem_nil⟩
    | cons x z ih =>
      intro h1 h2
      obtain ⟨i1, i2⟩ := ih (fun y hy => h1 y (List.mem_cons_of_mem _ hy)) fun y hy => h2 y (List.mem_cons_of_mem _ hy)
      have e : netZ χ (x :: z) = x.2 * (χ x.1.2 - χ x.1.1) + netZ χ z := rfl
      rw [e]
      have p := h1 x List.mem_cons_self
      have q : 0 ≤ x.2 * (χ x.1.2 - χ x.1.1) := by
        by_cases q : 0 < x.2
        · exact Int.mul_nonneg p (by have := h2 x List.mem_cons_self q; omega)
        · have : x.2 = 0 := by omega
          rw [this]; simp
      refine ⟨by omega, fun e0 y hy k => ?_⟩
      rcases List.mem_cons.mp hy with rfl | hy
      · have m : y.2 * (χ y.1.2 - χ y.1.1) = 0 := by omega
        rcases Int.mul_eq_zero.mp m with m | m <;> omega
      · exact i2 (by omega) y hy k
  obtain ⟨g1, g2⟩ := gen (gs.zip cs) (fun x hx => hc _ (List.of_mem_zip hx).2) fun x hx q => h _ (List.mem_map.mpr ⟨x, List.mem_filter.mpr ⟨hx, by simpa using q⟩, rfl⟩)
  refine ⟨g1, fun e0 e he => ?_⟩
  obtain ⟨x, hx, rfl⟩ := List.mem_map.mp he
  obtain ⟨k1, k2⟩ := List.mem_filter.mp hx
  exact g2 e0 x k1 (by simpa using k2)
theorem net_neg (gs : GL) (cs : List Int) (χ : Int → Int) : net gs cs (fun x => - χ x) = - net gs cs χ := by
  unfold net
  generalize gs.zip cs = z
  induction z with
  | nil => rfl
  | cons x z ih =>
    have e : ∀ χ : Int → Int, netZ χ (x :: z) = x.2 * (χ x.1.2 - χ x.1.1) + netZ χ z := fun χ => rfl
    rw [e, e, ih]
    have : - χ x.1.2 - - χ x.1.1 = -(χ x.1.2 - χ x.1.1) := by omega
    rw [this, Int.mul_neg]
    omega
def rooms (n : Int) : List Int := (List.range n.toNat).map fun i : Nat => (i : Int)
theorem mem_rooms {n p : Int} : p ∈ rooms n ↔ 0 ≤ p ∧ p < n := by
  unfold rooms
  rw [List.mem_map]
  constructor
  · rintro ⟨i, hi, rfl⟩
    have := List.mem_range.mp hi
    omega
  · rintro ⟨h1, h2⟩
    exact ⟨p.toNat, List.mem_range.mpr (by omega), by omega⟩
theorem nodup_rooms (n : Int) : (rooms n).Nodup := by
  unfold rooms
  rw [List.nodup_iff_pairwise_ne, List.pairwise_map]
  exact (List.nodup_range (n := n.toNat)).imp fun h e => h (by omega)
open Classical in
/-- the rooms of a kind -/
noncomputable def roomsOf (n : Int) (D : Int → Prop) : List Int := (rooms n).filter fun p => decide (D p)
theorem mem_roomsOf {n p : Int} {D : Int → Prop} : p ∈ roomsOf n D ↔ (0 ≤ p ∧ p < n) ∧ D p := by
  classical
  unfold roomsOf
  rw [List.mem_filter, mem_rooms]
  simp
theorem nodup_roomsOf (n : Int) (D : Int → Prop) : (roomsOf n D).Nodup := (nodup_rooms n).filter _
theorem exists_alive {gs : GL} {n : Int} {H : Int → Int} {cs : List Int} (F : Fit gs n cs) (G : Good gs n H cs) {e0 : Int × Int} (h0 : e0 ∈ passed gs cs) : ∃ e, e ∈ passed gs cs ∧ Al H e.1 := by
  refine Classical.byContradiction fun no => ?_
  have dead : ∀ e, e ∈ passed gs cs → ¬ Al H e.1 := fun e he ha => no ⟨e, he, ha⟩
  let P := roomsOf n fun p => H p ≤ 0
  have src : ∀ e, e ∈ passed gs cs → e.1 ∈ P := fun e he => by
    obtain ⟨q1, q2, _⟩ := F.place e (passed_mem he)
    have d := dead e he
    unfold Al at d
    exact mem_roomsOf.mpr ⟨⟨by omega, q2⟩, by omega⟩
  have hP : ∀ p, p ∈ P → H p = 0 := fun p hp => by
    obtain ⟨⟨q1, q2⟩, q3⟩ := mem_roomsOf.mp hp
    have := G.heads p q1 q2
    omega
  have s := sum_bal (gs := gs) (n := n) (cs := cs) (H := H) (nodup_roomsOf n fun p => H p ≤ 0)
  have s1 : 0 ≤ sumP P fun p => H p + net gs cs (dl p) := sumP_nonneg fun p hp => G.bal p (mem_roomsOf.mp hp).1.1 (mem_roomsOf.mp hp).1.2
  have s2 : sumP P H = 0 := sumP_zero hP
  have m := net_mono (χ := fun x => - if x ∈ P then (1 : Int) else 0) F.pos fun e he => by
    rw [if_pos (src e he)]
    split <;> omega
  rw [net_neg] at m
  have s : sumP P (fun p => H p + net gs cs (dl p)) = sumP P H + net gs cs fun x => if x ∈ P then 1 else 0 := s
  have z := m.2 (by have := m.1; omega)
  have tgt : ∀ e, e ∈ passed gs cs → e.2 ∈ P := fun e he => by
    have := z e he
    rw [if_pos (src e he)] at this
    refine Classical.byContradiction fun q => ?_
    rw [if_neg q] at this
    omega
  have notAl : ∀ p, p ∈ P → ¬ Al H p := fun p hp ha => by
    have := hP p hp
    have := (mem_roomsOf.mp hp).1.1
    unfold Al at ha
    omega
  obtain ⟨y, k1, k2⟩ := G.con e0 h0
  rcases con_tou k1 with k | ⟨_, e, he, k | k⟩
  · exact notAl _ (src e0 h0) (k ▸ k2)
  · exact notAl _ (src e he) (k ▸ k2)
  · exact notAl _ (tgt e he) (k ▸ k2)
theorem Good.step {gs : GL} {n : Int} {H : Int → Int} {cs : List Int} {i : Nat} {g : Int × Int} {c : Int} (F : Fit gs n cs) (G : Good gs n H cs) (h1 : gs[i]? = some g) (h2 : cs[i]? = some c) (hc : 0 < c) (ha : Al H g.1)
    (hU : ∀ e, e ∈ passed gs (Gr.dec cs i) → Con (passed gs (Gr.dec cs i)) e.1 g.1 → ∃ y, Con (passed gs (Gr.dec cs i)) g.1 y ∧ Al (mv H g) y) : Good gs n (mv H g) (Gr.dec cs i) := by
  obtain ⟨p1, p2, p3, p4, p5⟩ := F.place g (List.mem_of_getElem? h1)
  have tgt : Al (mv H g) g.2 := by
    unfold Al mv dl
    rw [if_neg (Ne.symm (Ne.symm p5)), if_pos rfl]
    by_cases q : g.2 < 0
    · exact .inl q
    · have := G.heads g.2 (by omega) p4
      exact .inr (by omega)
  have others : ∀ y, y ≠ g.1 → Al H y → Al (mv H g) y := fun y hy h => by
    unfold Al mv dl at *
    rw [if_neg (Ne.symm hy)]
    rcases h with h | h
    · exact .inl h
    · refine .inr ?_
      split <;> omega
  refine ⟨fun p q1 q2 => ?_, fun p q1 q2 => by rw [bal_mv h1 h2]; exact G.bal p q1 q2, fun e he => ?_⟩
  · have := G.heads p q1 q2
    unfold mv dl
    by_cases e : g.1 = p
    · rw [if_pos e]
      unfold Al at ha
      rw [e] at ha
      split <;> omega
    · rw [if_neg e]
      split <;> omega
  · obtain ⟨y, k1, k2⟩ := G.con e ((passed_dec h1 h2 hc e).mpr (.inr he))
    have viaU : Con (passed gs (Gr.dec cs i)) e.1 g.1 → ∃ y, Con (passed gs (Gr.dec cs i)) e.1 y ∧ Al (mv H g) y := fun k => by
      obtain ⟨y, z1, z2⟩ := hU e he k
      exact ⟨y, k.trans z1, z2⟩
    rcases (con_more (passed_dec h1 h2 hc)).mp k1 with k | ⟨k, _⟩ | ⟨k, _⟩
    · by_cases hy : y = g.1
      · exact viaU (hy ▸ k)
      · exact ⟨y, k, others y hy k2⟩
    · exact viaU k
    · exact ⟨g.2, k, tgt⟩
theorem Good.fwd {gs : GL} {n : Int} {H : Int → Int} {cs : List Int} (F : Fit gs n cs) (G : Good gs n H cs) {e0 : Int × Int} (h0 : e0 ∈ passed gs cs) : ∃ (i : Nat) (g : Int × Int) (c : Int), gs[i]? = some g ∧ cs[i]? = some c ∧ 0 < c ∧ Al H g.1 ∧ Good gs n (mv H g) (Gr.dec cs i) := by
  obtain ⟨g, hg, ha⟩ := exists_alive F G h0
  obtain ⟨i, c, h1, h2, hc⟩ := mem_passed.mp hg
  by_cases hU : ∀ e, e ∈ passed gs (Gr.dec cs i) → Con (passed gs (Gr.dec cs i)) e.1 g.1 → ∃ y, Con (passed gs (Gr.dec cs i)) g.1 y ∧ Al (mv H g) y
  · exact ⟨i, g, c, h1, h2, hc, ha, G.step F h1 h2 hc ha hU⟩
  · -- a bridge with nobody behind it: another gate from there
    have hU : ∃ e, e ∈ passed gs (Gr.dec cs i) ∧ Con (passed gs (Gr.dec cs i)) e.1 g.1 ∧ ∀ y, Con (passed gs (Gr.dec cs i)) g.1 y → ¬ Al (mv H g) y := by
      refine Classical.byContradiction fun no => hU fun e he k => Classical.byContradiction fun no2 => no ⟨e, he, k, fun y k1 k2 => no2 ⟨y, k1, k2⟩⟩
    obtain ⟨e1, he1, hk1, none⟩ := hU
    have F' := F.dec h2 hc
    obtain ⟨p1, p2, p3, p4, p5⟩ := F.place g (passed_mem hg)
    let P' := passed gs (Gr.dec cs i)
    let P := roomsOf n fun p => Con P' g.1 p
    have touch : ∀ y, Con P' g.1 y → y < n := fun y k => by
      rcases con_tou k with k | ⟨_, e, he, k | k⟩
      · omega
      · have := F.place e (passed_mem he); omega
      · have := F.place e (passed_mem he); omega
    have inP : ∀ y, y ∈ P ↔ Con P' g.1 y := fun y => by
      refine ⟨fun h => (mem_roomsOf.mp h).2, fun k => mem_roomsOf.mpr ⟨⟨?_, touch y k⟩, k⟩⟩
      have := none y k
      unfold Al at this
      omega
    have mv0 : ∀ p, p ∈ P → mv H g p = 0 := fun p hp => by
      obtain ⟨⟨q1, q2⟩, q3⟩ := mem_roomsOf.mp hp
      have d := none p q3
      have hh := G.heads p q1 q2
      unfold Al at d
      have : 0 ≤ mv H g p := by
        unfold mv dl
        by_cases e : g.1 = p
        · rw [if_pos e]
          unfold Al at ha
          rw [e] at ha
          split <;> omega
        · rw [if_neg e]
          split <;> omega
      omega
    have b0 : ∀ p, p ∈ P → net gs (Gr.dec cs i) (dl p) = 0 := by
      have s := sum_bal (gs := gs) (n := n) (cs := Gr.dec cs i) (H := mv H g) (nodup_roomsOf n fun p => Con P' g.1 p)
      have s : sumP P (fun p => mv H g p + net gs (Gr.dec cs i) (dl p)) = sumP P (mv H g) + net gs (Gr.dec cs i) fun x => if x ∈ P then 1 else 0 := s
      rw [sumP_zero mv0, net_same F'.pos fun e he => by
        have : e.2 ∈ P ↔ e.1 ∈ P := by
          rw [inP, inP]
          exact ⟨fun k => k.bwd he, fun k => k.fwd he⟩
        by_cases q : e.1 ∈ P
        · rw [if_pos q, if_pos (this.mpr q)]
        · rw [if_neg q, if_neg (fun z => q (this.mp z))]] at s
      have z := sumP_all0 (fun p hp => by
        rw [bal_mv h1 h2]
        exact G.bal p (mem_roomsOf.mp hp).1.1 (mem_roomsOf.mp hp).1.2) s
      intro p hp
      have := z p hp
      rw [mv0 p hp] at this
      omega
    have self : g.1 ∈ P := (inP _).mpr (.refl _)
    -- another gate from g.1
    obtain ⟨e2, he2, hs2⟩ : ∃ e2, e2 ∈ P' ∧ e2.1 = g.1 := by
      refine Classical.byContradiction fun no => ?_
      have no1 : ∀ e, e ∈ P' → e.1 ≠ g.1 := fun e he q => no ⟨e, he, q⟩
      have m := (net_mono (χ := dl g.1) F'.pos fun e he => by
        unfold dl
        rw [if_neg (no1 e he)]
        split <;> omega).2 (b0 _ self)
      have no2 : ∀ e, e ∈ P' → e.2 ≠ g.1 := fun e he q => by
        have := m e he
        unfold dl at this
        rw [if_neg (no1 e he), if_pos q] at this
        omega
      rcases con_tou hk1 with k | ⟨_, e, he, k | k⟩
      · exact no1 e1 he1 k
      · exact no1 e he k.symm
      · exact no2 e he k.symm
    obtain ⟨j, d, k1, k2, k3⟩ := mem_passed.mp he2
    have hij : i ≠ j := fun e => by
      subst e
      rw [h1] at k1
      cases k1
      have al : Al (mv H g) g.2 := by
        unfold Al mv dl
        rw [if_neg p5, if_pos rfl]
        by_cases q : g.2 < 0
        · exact .inl q
        · have := G.heads g.2 (by omega) p4
          exact .inr (by omega)
      exact none g.2 ((Con.refl g.1).fwd he2) al
    have k2' : cs[j]? = some d := by
      rw [dec_get h2, if_neg hij] at k2
      exact k2
    have ha2 : Al H e2.1 := hs2 ▸ ha
    refine ⟨j, e2, d, k1, k2', k3, ha2, G.step F k1 k2' k3 ha2 fun e he _ => ⟨e2.2, ?_, ?_⟩⟩
    · -- still joined
      have sub : ∀ x, x ∈ passed gs (Gr.dec (Gr.dec cs i) j) → x ∈ passed gs (Gr.dec cs j) := fun x hx => by
        obtain ⟨a, b, q1, q2, q3⟩ := mem_passed.mp hx
        rw [dec_get k2, dec_get h2] at q2
        refine mem_passed.mpr ⟨a, ?_⟩
        rw [dec_get k2']
        split at q2
        · rename_i e
          exact ⟨d - 1, q1, by rw [if_pos e], by have := Option.some.inj q2; omega⟩
        · rename_i e
          split at q2
          · rename_i e3
            subst e3
            exact ⟨c, q1, by rw [if_neg e]; exact h2, hc⟩
          · exact ⟨b, q1, by rw [if_neg e]; exact q2, q3⟩
      refine Con.mono sub (Con.symm ?_)
      refine Classical.byContradiction fun apart => ?_
      rw [hs2] at apart
      let P2 := passed gs (Gr.dec (Gr.dec cs i) j)
      let Q := roomsOf n fun p => Con P2 e2.2 p
      have up : ∀ x, x ∈ P2 → x ∈ P' := fun x hx => (passed_dec k1 k2 k3 x).mpr (.inr hx)
      have w : Con P' g.1 e2.2 := hs2 ▸ (Con.refl e2.1).fwd he2
      have QP : ∀ p, Con P2 e2.2 p → p ∈ P := fun p k => (inP p).mpr (w.trans (k.mono up))
      have inQ : ∀ p, p ∈ Q ↔ Con P2 e2.2 p := fun p => ⟨fun h => (mem_roomsOf.mp h).2, fun k => mem_roomsOf.mpr ⟨(mem_roomsOf.mp (QP p k)).1, k⟩⟩
      have s := sumP_net (gs := gs) (cs := Gr.dec cs i) (nodup_roomsOf n fun p => Con P2 e2.2 p)
      have s : sumP Q (fun p => net gs (Gr.dec cs i) (dl p)) = net gs (Gr.dec cs i) fun x => if x ∈ Q then 1 else 0 := s
      rw [sumP_zero fun p hp => b0 p (QP p ((inQ p).mp hp))] at s
      have t := net_dec (fun x => if x ∈ Q then (1 : Int) else 0) k1 k2
      rw [← s, net_same (F'.dec k2 k3).pos fun e he => by
        have : e.2 ∈ Q ↔ e.1 ∈ Q := by
          rw [inQ, inQ]
          exact ⟨fun k => k.bwd he, fun k => k.fwd he⟩
        by_cases q : e.1 ∈ Q
        · rw [if_pos q, if_pos (this.mpr q)]
        · rw [if_neg q, if_neg (fun z => q (this.mp z))], if_pos ((inQ _).mpr (.refl _)), if_neg (fun z => apart (hs2 ▸ (inQ _).mp z))] at t
      omega
    · have q := F.place e2 (List.mem_of_getElem? k1)
      unfold Al mv dl
      rw [if_neg q.2.2.2.2, if_pos rfl]
      by_cases z : e2.2 < 0
      · exact .inl z
      · have := G.heads e2.2 (by omega) q.2.2.2.1
        exact .inr (by omega)
end Gr

set_option Elab.async false
set_option linter.all false
set_option maxRecDepth 100000
set_option maxHeartbeats 2000000
namespace Ev
open PySem PySem.Spec PyProof.Rows L2

inductive Val where
  | non | bl (b : Bool) | int (i : Int) | str (s : Str)
  | tup (xs : List Val) | lst (xs : List Val) | dct (ks : List Key) (vs : List Val)
  | loc (n : Nat)
  | exc (c : Nat) (ns : List Str) (vs : List Val)

inductive Ob where
  | dead
  | lst (xs : List Val)
  | dK (kvs : List (Key × Val)) | dT (kvs : List (List Key × Val))
  | lkK (kvs : List (Key × Val)) | lkT (kvs : List (List Key × Val))
  | ins (c : Nat) (fs : List (Str × Val))
  | dN (kvs : List ((List Int × List Int) × Bool))

abbrev Sto := List Ob
inductive Res (α : Type) where
  | ok (a : α) (st : Sto)
  | ex (x : Val) (st : Sto)
  | bad
abbrev Env := List (Option Val)
abbrev E := Env → Sto → Res Val
abbrev EA := Env → Sto → Res (List Val)
abbrev ET := Env → Sto → Res Bool

structure Tab where
  K : PySem.W.Frag
  ca : Nat → Addr

structure Phi where
  l : List (Option Addr)
  hid : List Addr

/-- a live address of the store -/
def Live (φ : Phi) (a : Addr) : Prop := (∃ n : Nat, φ.l[n]? = some (some a)) ∨ a ∈ φ.hid
def Phi.add (φ : Phi) (p : Addr) : Phi := { φ with l := φ.l ++ [some p] }
def Phi.kill (φ : Phi) (n : Nat) : Phi := { φ with l := φ.l.set n none }
/-- an address that is kept apart -/
def Phi.hide (φ : Phi) (p : Addr) : Phi := { φ with hid := p :: φ.hid }

/-- an exception that is held as a value: its class, its own dict -/
def exv (C d : Addr) (a : Addr) : HO := .ext fun h => ∃ o vs, h.get? a = some o ∧ o.cls = .ref C ∧ o.dict = some d ∧ o.data = .fields vs

/-- a dict whose keys are pairs of tuples of ints, whose values are truth values -/
abbrev NK := List Int × List Int
def nkHash (k : NK) : Int := reduceHash (Builtin.Tuple.tupleHashOf [reduceHash (Builtin.Tuple.tupleHashOf (k.1.map hashInt)), reduceHash (Builtin.Tuple.tupleHashOf (k.2.map hashInt))])
def entN (x : NK × Addr × Bool) : DictEntry := ⟨nkHash x.1, .ref x.2.1, .bool x.2.2⟩
def rawN (a : Addr) (L : List (NK × Addr × Bool)) : HO := .ext fun h => ∃ o es ep, h.get? a = some o ∧ o.ExactDict ∧ o.data = .dict es ep ∧ es.toList = L.map entN ∧ (L.map (·.1)).Nodup ∧ (a == sysModules) = false
def IsNK (H : Hp) (k : NK) (b : Addr) : Prop := ∃ c d, H b = some (.tup [.ref c, .ref d]) ∧ H c = some (.tup (k.1.map V.int)) ∧ H d = some (.tup (k.2.map V.int))
/-- a list of the module's own -/
def LstK (K : PySem.W.Frag) (a : Addr) (xs : List V) : Prop :=
  ∃ (o : Obj) (its : Array Value) (n : Nat), K.lookup a = some o ∧ o.cls = .type "list" ∧ o.dict = none ∧ o.data = .seq its n ∧ its.size ≤ sizeLine ∧ Vals xs its.toList

mutual
inductive RelV (T : Tab) (φ : Phi) (H : Hp) : Val → V → Prop
  | non : RelV T φ H .non .non
  | bl (b : Bool) : RelV T φ H (.bl b) (.bl b)
  | int (i : Int) : RelV T φ H (.int i) (.int i)
  | str (s : Str) : RelV T φ H (.str s) (.str s)
  | tup {xs : List Val} {us : List V} {a : Addr} : H a = some (.tup us) → RelVs T φ H xs us → RelV T φ H (.tup xs) (.ref a)
  | lst {xs : List Val} {us : List V} {a : Addr} : ((¬ Live φ a ∧ Rd H a (.lst us)) ∨ LstK T.K a us) → RelVs T φ H xs us → RelV T φ H (.lst xs) (.ref a)
  | dct {ks : List Key} {vs : List Val} {us : List V} {a : Addr} : ¬ Live φ a → Rd H a (.dK (ks.zip us)) → ks.length = us.length → RelVs T φ H vs us → RelV T φ H (.dct ks vs) (.ref a)
  | loc {n : Nat} {u : V} : n < φ.l.length → (∀ a, φ.l[n]? = some (some a) → u = .ref a) → RelV T φ H (.loc n) u
  | exc {c : Nat} {ns : List Str} {vs : List Val} {us : List V} {a d : Addr} : ¬ Live φ a → ¬ Live φ d → Rd H a (exv (T.ca c) d a) → Rd H d (.xd (ns.zip us)) → ns.length = us.length →
      RelVs T φ H vs us → RelV T φ H (.exc c ns vs) (.ref a)
inductive RelVs (T : Tab) (φ : Phi) (H : Hp) : List Val → List V → Prop
  | nil : RelVs T φ H [] []
  | cons {x : Val} {u : V} {xs : List Val} {us : List V} : RelV T φ H x u → RelVs T φ H xs us → RelVs T φ H (x :: xs) (u :: us)
end

/-- pairs by name, by key -/
def RelF {κ : Type} (T : Tab) (φ : Phi) (H : Hp) : List (κ × Val) → List (κ × V) → Prop := Paired fun p q => p.1 = q.1 ∧ RelV T φ H p.2 q.2

def RelOb (T : Tab) (φ : Phi) (H : Hp) (o : Ob) (a : Addr) : Prop := match o with
  | .dead => False
  | .lst xs => ∃ us, H a = some (.lst us) ∧ RelVs T φ H xs us
  | .dK kvs => ∃ us, H a = some (.dK us) ∧ RelF T φ H kvs us
  | .dT kvs => ∃ us, H a = some (.dT us) ∧ RelF T φ H kvs us
  | .lkK kvs => ∃ o us, H a = some (.frz o (.dK us)) ∧ RelF T φ H kvs us
  | .lkT kvs => ∃ o us, H a = some (.frz o (.dT us)) ∧ RelF T φ H kvs us
  | .ins c fs => ∃ dx us, H a = some (.ins (T.ca c) dx us) ∧ RelF T φ H fs us
  | .dN kvs => ∃ L : List (NK × Addr × Bool), H a = some (rawN a L) ∧ L.map (fun x => (x.1, x.2.2)) = kvs ∧ ∀ x ∈ L, IsNK H x.1 x.2.1

structure Rst (T : Tab) (φ : Phi) (st : Sto) (H : Hp) : Prop where
  len : φ.l.length = st.length
  inj : ∀ (n m : Nat) a, φ.l[n]? = some (some a) → φ.l[m]? = some (some a) → n = m
  ob : ∀ (n : Nat) o, st[n]? = some o → (o = .dead ∧ φ.l[n]? = some none) ∨ ∃ a, φ.l[n]? = some (some a) ∧ RelOb T φ H o a
  hid : ∀ a, a ∈ φ.hid → H a ≠ none
  apart : ∀ (n : Nat) a, φ.l[n]? = some (some a) → a ∉ φ.hid

structure Ext (φ : Phi) (H : Hp) (φ' : Phi) (H' : Hp) : Prop where
  len : φ.l.length ≤ φ'.l.length
  old : ∀ (n : Nat) a, φ'.l[n]? = some (some a) → n < φ.l.length → φ.l[n]? = some (some a)
  new : ∀ (n : Nat) a, φ'.l[n]? = some (some a) → φ.l.length ≤ n → H a = none
  tups : ∀ a us, H a = some (.tup us) → H' a = some (.tup us)
  rd : ∀ a u, ¬ Live φ a → Rd H a u → Rd H' a u
  non : ∀ a, H a ≠ none → H' a ≠ none
  hid : φ'.hid = φ.hid
  hidk : ∀ a, a ∈ φ.hid → H' a = H a

theorem Ext.refl {φ : Phi} {H : Hp} : Ext φ H φ H where
  len := Nat.le_refl _
  old := fun _ _ h _ => h
  new := fun n a h hn => by
    have := (List.getElem?_eq_some_iff.mp h).1
    omega
  tups := fun _ _ h => h
  rd := fun _ _ _ h => h
  non := fun _ h => h
  hid := rfl
  hidk := fun _ _ => rfl
theorem rd_some {H : Hp} {a : Addr} {u : HO} (r : Rd H a u) : H a ≠ none := by
  rcases r with r | ⟨o, r⟩ <;> rw [r] <;> simp
theorem Ext.dead {φ φ' : Phi} {H H' : Hp} (e : Ext φ H φ' H') {a : Addr} (h : ¬ Live φ a) (hs : H a ≠ none) : ¬ Live φ' a := by
  rintro (⟨n, hn⟩ | hm)
  · by_cases hl : n < φ.l.length
    · exact h (.inl ⟨n, e.old n a hn hl⟩)
    · exact hs (e.new n a hn (by omega))
  · exact h (.inr (e.hid ▸ hm))
theorem Ext.trans {φ φ' φ'' : Phi} {H H' H'' : Hp} (e : Ext φ H φ' H') (f : Ext φ' H' φ'' H'') : Ext φ H φ'' H'' where
  len := Nat.le_trans e.len f.len
  old := fun n a h hn => e.old n a (f.old n a h (Nat.lt_of_lt_of_le hn e.len)) hn
  new := fun n a h hn => by
    by_cases hl : n < φ'.l.length
    · exact e.new n a (f.old n a h hl) hn
    · have z := f.new n a h (by omega)
      cases q : H a with
      | none => rfl
      | some o => exact absurd z (e.non a (by rw [q]; simp))
  tups := fun a us h => f.tups a us (e.tups a us h)
  rd := fun a u h r => f.rd a u (e.dead h (rd_some r)) (e.rd a u h r)
  non := fun a h => f.non a (e.non a h)
  hid := f.hid.trans e.hid
  hidk := fun a h => (f.hidk a (e.hid ▸ h)).trans (e.hidk a h)

section
variable {T : Tab} {φ φ' : Phi} {H H' : Hp}
mutual
theorem RelV.ext (e : Ext φ H φ' H') : ∀ {x : Val} {u : V}, RelV T φ H x u → RelV T φ' H' x u
  | _, _, .non => .non
  | _, _, .bl b => .bl b
  | _, _, .int i => .int i
  | _, _, .str s => .str s
  | _, _, .tup h r => .tup (e.tups _ _ h) (RelVs.ext e r)
  | _, _, .lst h r => .lst (h.elim (fun q => .inl ⟨e.dead q.1 (rd_some q.2), e.rd _ _ q.1 q.2⟩) .inr) (RelVs.ext e r)
  | _, _, .dct n h l r => .dct (e.dead n (rd_some h)) (e.rd _ _ n h) l (RelVs.ext e r)
  | _, _, .loc h r => .loc (Nat.lt_of_lt_of_le h e.len) (fun a q => r a (e.old _ a q h))
  | _, _, .exc n1 n2 h1 h2 l r => .exc (e.dead n1 (rd_some h1)) (e.dead n2 (rd_some h2)) (e.rd _ _ n1 h1) (e.rd _ _ n2 h2) l (RelVs.ext e r)
theorem RelVs.ext (e : Ext φ H φ' H') : ∀ {xs : List Val} {us : List V}, RelVs T φ H xs us → RelVs T φ' H' xs us
  | _, _, .nil => .nil
  | _, _, .cons a b => .cons (RelV.ext e a) (RelVs.ext e b)
end
theorem Paired.imp {α β : Type} {F G : α → β → Prop} : ∀ {l₁ : List α} {l₂ : List β}, Paired F l₁ l₂ → (∀ a b, F a b → G a b) → Paired G l₁ l₂
  | _, _, .nil, _ => .nil
  | _, _, .cons r t, f => .cons (f _ _ r) (Paired.imp t f)
theorem RelF.ext {κ : Type} (e : Ext φ H φ' H') {xs : List (κ × Val)} {us : List (κ × V)} (r : RelF T φ H xs us) : RelF T φ' H' xs us :=
  Paired.imp r fun _ _ h => ⟨h.1, h.2.ext e⟩
theorem RelVs.length : ∀ {xs : List Val} {us : List V}, RelVs T φ H xs us → xs.length = us.length
  | _, _, .nil => rfl
  | _, _, .cons _ b => by simp [RelVs.length b]
theorem RelVs.get : ∀ {xs : List Val} {us : List V} {i : Nat} {x : Val}, RelVs T φ H xs us → xs[i]? = some x → ∃ u, us[i]? = some u ∧ RelV T φ H x u
  | _, _, _, _, .nil, e => by simp at e
  | _, _, 0, _, .cons r _, e => by simp at e; subst e; exact ⟨_, rfl, r⟩
  | _, _, i + 1, x, .cons _ t, e => by
    obtain ⟨u, h1, h2⟩ := RelVs.get (i := i) (x := x) t (by simpa using e)
    exact ⟨u, by simpa using h1, h2⟩
theorem RelVs.got : ∀ {xs : List Val} {us : List V} {i : Nat} {u : V}, RelVs T φ H xs us → us[i]? = some u → ∃ x, xs[i]? = some x ∧ RelV T φ H x u
  | _, _, _, _, .nil, e => by simp at e
  | _, _, 0, _, .cons r _, e => by simp at e; subst e; exact ⟨_, rfl, r⟩
  | _, _, i + 1, x, .cons _ t, e => by
    obtain ⟨u, h1, h2⟩ := RelVs.got (i := i) (u := x) t (by simpa using e)
    exact ⟨u, by simpa using h1, h2⟩
theorem RelVs.append : ∀ {xs ys : List Val} {us ws : List V}, RelVs T φ H xs us → RelVs T φ H ys ws → RelVs T φ H (xs ++ ys) (us ++ ws)
  | _, _, _, _, .nil, s => s
  | _, _, _, _, .cons r t, s => .cons r (RelVs.append t s)
theorem RelVs.take : ∀ {xs : List Val} {us : List V} (n : Nat), RelVs T φ H xs us → RelVs T φ H (xs.take n) (us.take n)
  | _, _, 0, _ => .nil
  | _, _, _ + 1, .nil => .nil
  | _, _, n + 1, .cons r t => .cons r (RelVs.take n t)
theorem RelVs.drop : ∀ {xs : List Val} {us : List V} (n : Nat), RelVs T φ H xs us → RelVs T φ H (xs.drop n) (us.drop n)
  | _, _, 0, r => r
  | _, _, _ + 1, .nil => .nil
  | _, _, n + 1, .cons _ t => RelVs.drop n t
theorem RelVs.set {x : Val} {u : V} (r : RelV T φ H x u) : ∀ {xs : List Val} {us : List V} (i : Nat), RelVs T φ H xs us → RelVs T φ H (xs.set i x) (us.set i u)
  | _, _, _, .nil => .nil
  | _, _, 0, .cons _ t => .cons r t
  | _, _, i + 1, .cons q t => .cons q (RelVs.set r i t)
theorem RelVs.dropLast {xs : List Val} {us : List V} (r : RelVs T φ H xs us) : RelVs T φ H xs.dropLast us.dropLast := by
  rw [List.dropLast_eq_take, List.dropLast_eq_take, ← r.length]
  exact r.take _
theorem RelVs.reverse : ∀ {xs : List Val} {us : List V}, RelVs T φ H xs us → RelVs T φ H xs.reverse us.reverse
  | _, _, .nil => .nil
  | _, _, .cons r t => by
    rw [List.reverse_cons, List.reverse_cons]
    exact RelVs.append (RelVs.reverse t) (.cons r .nil)

theorem relOb_some {o : Ob} {a : Addr} (h : RelOb T φ H o a) : ∃ u, H a = some u := by
  cases o with
  | dead => exact h.elim
  | lst xs => obtain ⟨us, e, _⟩ := h; exact ⟨_, e⟩
  | dK kvs => obtain ⟨us, e, _⟩ := h; exact ⟨_, e⟩
  | dT kvs => obtain ⟨us, e, _⟩ := h; exact ⟨_, e⟩
  | lkK kvs => obtain ⟨o, us, e, _⟩ := h; exact ⟨_, e⟩
  | lkT kvs => obtain ⟨o, us, e, _⟩ := h; exact ⟨_, e⟩
  | ins c fs => obtain ⟨o, us, e, _⟩ := h; exact ⟨_, e⟩
  | dN kvs => obtain ⟨L, e, _⟩ := h; exact ⟨_, e⟩
theorem relOb_notup {o : Ob} {a : Addr} (h : RelOb T φ H o a) : ∀ us, H a ≠ some (.tup us) := by
  intro us z
  cases o with
  | dead => exact h.elim
  | lst xs => obtain ⟨us, e, _⟩ := h; rw [e] at z; cases z
  | dK kvs => obtain ⟨us, e, _⟩ := h; rw [e] at z; cases z
  | dT kvs => obtain ⟨us, e, _⟩ := h; rw [e] at z; cases z
  | lkK kvs => obtain ⟨o, us, e, _⟩ := h; rw [e] at z; cases z
  | lkT kvs => obtain ⟨o, us, e, _⟩ := h; rw [e] at z; cases z
  | ins c fs => obtain ⟨o, us, e, _⟩ := h; rw [e] at z; cases z
  | dN kvs => obtain ⟨L, e, _⟩ := h; rw [e] at z; cases z
theorem RelOb.ext (e : Ext φ H φ' H') {o : Ob} {a : Addr} (h : RelOb T φ H o a) (k : H' a = H a) : RelOb T φ' H' o a := by
  cases o with
  | dead => exact h
  | lst xs => obtain ⟨us, q, r⟩ := h; exact ⟨us, k.trans q, r.ext e⟩
  | dK kvs => obtain ⟨us, q, r⟩ := h; exact ⟨us, k.trans q, r.ext e⟩
  | dT kvs => obtain ⟨us, q, r⟩ := h; exact ⟨us, k.trans q, r.ext e⟩
  | lkK kvs => obtain ⟨o, us, q, r⟩ := h; exact ⟨o, us, k.trans q, r.ext e⟩
  | lkT kvs => obtain ⟨o, us, q, r⟩ := h; exact ⟨o, us, k.trans q, r.ext e⟩
  | ins c fs => obtain ⟨o, us, q, r⟩ := h; exact ⟨o, us, k.trans q, r.ext e⟩
  | dN kvs => obtain ⟨L, q, q2, r⟩ := h; exact ⟨L, k.trans q, q2, fun x hx => let ⟨c, d, h1, h2, h3⟩ := r x hx; ⟨c, d, e.tups _ _ h1, e.tups _ _ h2, e.tups _ _ h3⟩⟩
theorem Rst.has {st : Sto} (R : Rst T φ st H) {n : Nat} {a : Addr} (h : φ.l[n]? = some (some a)) : ∃ u, H a = some u := by
  have hl := (List.getElem?_eq_some_iff.mp h).1
  rw [R.len] at hl
  rcases R.ob n st[n] (by simp [hl]) with ⟨_, q⟩ | ⟨b, q, r⟩
  · rw [h] at q; cases q
  · rw [h] at q; cases q; exact relOb_some r
theorem Rst.notup {st : Sto} (R : Rst T φ st H) {n : Nat} {a : Addr} (h : φ.l[n]? = some (some a)) (us : List V) : H a ≠ some (.tup us) := by
  have hl := (List.getElem?_eq_some_iff.mp h).1
  rw [R.len] at hl
  rcases R.ob n st[n] (by simp [hl]) with ⟨_, q⟩ | ⟨b, q, r⟩
  · rw [h] at q; cases q
  · rw [h] at q; cases q; exact relOb_notup r us
theorem Rst.nolive {st : Sto} (R : Rst T φ st H) {a : Addr} (h : H a = none) : ¬ Live φ a := by
  rintro (⟨n, hn⟩ | hm)
  · obtain ⟨u, e⟩ := R.has hn
    rw [h] at e; cases e
  · exact R.hid a hm h
/-- what stands at a live place -/
theorem Rst.at {st : Sto} (R : Rst T φ st H) {n : Nat} {o : Ob} (h : st[n]? = some o) (hd : o ≠ .dead) : ∃ a, φ.l[n]? = some (some a) ∧ RelOb T φ H o a := by
  rcases R.ob n o h with ⟨e, _⟩ | q
  · exact absurd e hd
  · exact q
/-- a new object, not of the store -/
theorem Ext.fresh {st : Sto} (R : Rst T φ st H) {p : Addr} {ho : HO} (hp : H p = none) : Ext φ H φ (upd H p ho) where
  len := Nat.le_refl _
  old := fun _ _ h _ => h
  new := fun n a h hn => by
    have := (List.getElem?_eq_some_iff.mp h).1
    omega
  tups := fun a us h => by rw [upd_ne (ne_of_none h hp)]; exact h
  rd := fun a u _ r => by
    rcases r with r | ⟨o, r⟩
    · exact .inl (by rw [upd_ne (ne_of_none r hp)]; exact r)
    · exact .inr ⟨o, by rw [upd_ne (ne_of_none r hp)]; exact r⟩
  non := fun a h => by
    by_cases e : a = p
    · subst e; exact absurd hp h
    · rw [upd_ne e]; exact h
  hid := rfl
  hidk := fun a h => upd_ne fun e => R.hid a h (e ▸ hp)
theorem Rst.fresh {st : Sto} (R : Rst T φ st H) {p : Addr} {ho : HO} (hp : H p = none) : Rst T φ st (upd H p ho) where
  len := R.len
  inj := R.inj
  ob := fun n o h => by
    rcases R.ob n o h with q | ⟨a, q, r⟩
    · exact .inl q
    · refine .inr ⟨a, q, r.ext (Ext.fresh R hp) ?_⟩
      obtain ⟨u, e⟩ := relOb_some r
      rw [upd_ne (ne_of_none e hp)]
  hid := fun a h => (Ext.fresh R hp).non a (R.hid a h)
  apart := R.apart
theorem add_get {φ : Phi} {p a : Addr} {k : Nat} (h : (φ.add p).l[k]? = some (some a)) : (k < φ.l.length ∧ φ.l[k]? = some (some a)) ∨ (k = φ.l.length ∧ a = p) := by
  have h : (φ.l ++ [some p])[k]? = some (some a) := h
  by_cases hk : k < φ.l.length
  · rw [List.getElem?_append_left hk] at h; exact .inl ⟨hk, h⟩
  · rw [List.getElem?_append_right (by omega)] at h
    have e : k - φ.l.length = 0 := by
      have := (List.getElem?_eq_some_iff.mp h).1
      simp at this; omega
    rw [e] at h
    simp at h
    exact .inr ⟨by omega, h.symm⟩
theorem add_old {φ : Phi} {p : Addr} {k : Nat} {x : Option Addr} (h : φ.l[k]? = some x) : (φ.add p).l[k]? = some x := by
  show (φ.l ++ [some p])[k]? = _
  rw [List.getElem?_append_left (List.getElem?_eq_some_iff.mp h).1]
  exact h
/-- a new object of the store -/
theorem Ext.alloc {st : Sto} (R : Rst T φ st H) {p : Addr} {ho : HO} (hp : H p = none) : Ext φ H (φ.add p) (upd H p ho) where
  len := by show φ.l.length ≤ (φ.l ++ [some p]).length; simp
  old := fun n a h hn => by
    rcases add_get h with ⟨_, q⟩ | ⟨q, _⟩
    · exact q
    · omega
  new := fun n a h hn => by
    rcases add_get h with ⟨q, _⟩ | ⟨_, q⟩
    · omega
    · rw [q]; exact hp
  tups := (Ext.fresh (ho := ho) R hp).tups
  rd := (Ext.fresh (ho := ho) R hp).rd
  non := (Ext.fresh (ho := ho) R hp).non
  hid := rfl
  hidk := (Ext.fresh (ho := ho) R hp).hidk
theorem Rst.alloc {st : Sto} (R : Rst T φ st H) {p : Addr} {ho : HO} {o : Ob} (hp : H p = none) (hr : RelOb T (φ.add p) (upd H p ho) o p) : Rst T (φ.add p) (st ++ [o]) (upd H p ho) where
  len := by show (φ.l ++ [some p]).length = _; simp [R.len]
  inj := fun n m a h1 h2 => by
    rcases add_get h1 with ⟨_, q1⟩ | ⟨l1, e1⟩
    · rcases add_get h2 with ⟨_, q2⟩ | ⟨l2, e2⟩
      · exact R.inj n m a q1 q2
      · subst e2
        obtain ⟨u, e⟩ := R.has q1
        rw [hp] at e; cases e
    · rcases add_get h2 with ⟨_, q2⟩ | ⟨l2, e2⟩
      · subst e1
        obtain ⟨u, e⟩ := R.has q2
        rw [hp] at e; cases e
      · omega
  ob := fun n o' h => by
    by_cases hn : n < st.length
    · rw [List.getElem?_append_left hn] at h
      rcases R.ob n o' h with ⟨q1, q2⟩ | ⟨a, q, r⟩
      · exact .inl ⟨q1, add_old q2⟩
      · refine .inr ⟨a, add_old q, r.ext (Ext.alloc R hp) ?_⟩
        obtain ⟨u, e⟩ := relOb_some r
        rw [upd_ne (ne_of_none e hp)]
    · rw [List.getElem?_append_right (by omega)] at h
      have e : n - st.length = 0 := by
        have := (List.getElem?_eq_some_iff.mp h).1
        simp at this; omega
      rw [e] at h
      simp at h
      subst h
      refine .inr ⟨p, ?_, hr⟩
      have : n = φ.l.length := by rw [R.len]; omega
      subst this
      show (φ.l ++ [some p])[φ.l.length]? = _
      simp
  hid := fun a h => (Ext.alloc R hp).non a (R.hid a h)
  apart := fun n a h => by
    rcases add_get h with ⟨_, q⟩ | ⟨_, rfl⟩
    · exact R.apart n a q
    · exact fun z => R.hid a z hp
/-- a store's object is changed -/
theorem Ext.write {st : Sto} (R : Rst T φ st H) {n : Nat} {a : Addr} {ho : HO} (hn : φ.l[n]? = some (some a)) : Ext φ H φ (upd H a ho) where
  len := Nat.le_refl _
  old := fun _ _ h _ => h
  new := fun m b h hm => by
    have := (List.getElem?_eq_some_iff.mp h).1
    omega
  tups := fun b us h => by
    have : b ≠ a := fun z => by subst z; exact R.notup hn us h
    rw [upd_ne this]; exact h
  rd := fun b u hl r => by
    have : b ≠ a := fun z => by subst z; exact hl (.inl ⟨n, hn⟩)
    rcases r with r | ⟨o, r⟩
    · exact .inl (by rw [upd_ne this]; exact r)
    · exact .inr ⟨o, by rw [upd_ne this]; exact r⟩
  non := fun b h => by
    by_cases e : b = a
    · subst e; rw [upd_same]; simp
    · rw [upd_ne e]; exact h
  hid := rfl
  hidk := fun b h => upd_ne fun e => R.apart n a hn (e ▸ h)
theorem Rst.write {st : Sto} (R : Rst T φ st H) {n : Nat} {a : Addr} {ho : HO} {o : Ob} (hn : φ.l[n]? = some (some a)) (hr : RelOb T φ (upd H a ho) o a) : Rst T φ (st.set n o) (upd H a ho) where
  len := by simp [R.len]
  inj := R.inj
  ob := fun m o' h => by
    by_cases e : m = n
    · subst e
      have hl := (List.getElem?_eq_some_iff.mp hn).1
      rw [R.len] at hl
      rw [List.getElem?_set_self hl] at h
      cases h
      exact .inr ⟨a, hn, hr⟩
    · rw [List.getElem?_set_ne (Ne.symm e)] at h
      rcases R.ob m o' h with q | ⟨b, q, r⟩
      · exact .inl q
      · refine .inr ⟨b, q, r.ext (Ext.write R hn) ?_⟩
        have : b ≠ a := fun z => by subst z; exact e (R.inj m n b q hn)
        rw [upd_ne this]
  hid := fun a h => (Ext.write R hn).non a (R.hid a h)
  apart := R.apart
theorem kill_get {φ : Phi} {n j : Nat} {a : Addr} (h : (φ.kill n).l[j]? = some (some a)) : j ≠ n ∧ φ.l[j]? = some (some a) := by
  have h : (φ.l.set n none)[j]? = some (some a) := h
  by_cases e : j = n
  · subst e
    by_cases hl : j < φ.l.length
    · rw [List.getElem?_set_self hl] at h; cases h
    · rw [List.getElem?_eq_none (by simpa using hl)] at h; cases h
  · rw [List.getElem?_set_ne (Ne.symm e)] at h; exact ⟨e, h⟩
/-- a store's object becomes a value -/
theorem Ext.kill {st : Sto} (R : Rst T φ st H) {n : Nat} : Ext φ H (φ.kill n) H where
  len := by show φ.l.length ≤ (φ.l.set n none).length; simp
  old := fun m b h hm => (kill_get h).2
  new := fun m b h hm => by
    have := (List.getElem?_eq_some_iff.mp (kill_get h).2).1
    omega
  tups := fun _ _ h => h
  rd := fun _ _ _ r => r
  non := fun _ h => h
  hid := rfl
  hidk := fun _ _ => rfl
theorem Rst.kill {st : Sto} (R : Rst T φ st H) {n : Nat} : Rst T (φ.kill n) (st.set n .dead) H where
  len := by show (φ.l.set n none).length = _; simp [R.len]
  inj := fun m k a h1 h2 => R.inj m k a (kill_get h1).2 (kill_get h2).2
  ob := fun m o' h => by
    by_cases e : m = n
    · subst e
      have hl : m < st.length := by
        have := (List.getElem?_eq_some_iff.mp h).1
        simpa using this
      rw [List.getElem?_set_self hl] at h
      cases h
      refine .inl ⟨rfl, ?_⟩
      show (φ.l.set m none)[m]? = _
      rw [List.getElem?_set_self (by rw [R.len]; exact hl)]
    · rw [List.getElem?_set_ne (Ne.symm e)] at h
      have key : ∀ {x : Option Addr}, φ.l[m]? = some x → (φ.kill n).l[m]? = some x := fun {x} q => by
        show (φ.l.set n none)[m]? = _
        rw [List.getElem?_set_ne (Ne.symm e)]; exact q
      rcases R.ob m o' h with ⟨q1, q2⟩ | ⟨b, q, r⟩
      · exact .inl ⟨q1, key q2⟩
      · exact .inr ⟨b, key q, r.ext (Ext.kill R) rfl⟩
  hid := R.hid
  apart := fun m a h => R.apart m a (kill_get h).2
theorem nolive_kill {st : Sto} (R : Rst T φ st H) {n : Nat} {a : Addr} (h : φ.l[n]? = some (some a)) : ¬ Live (φ.kill n) a := by
  rintro (⟨m, hm⟩ | hm)
  · obtain ⟨e, q⟩ := kill_get hm
    exact e (R.inj m n a q h)
  · exact R.apart n a h hm
end
/-- what a value's meaning leans on -/
structure ExtV (φ : Phi) (H : Hp) (φ' : Phi) (H' : Hp) : Prop where
  len : φ.l.length ≤ φ'.l.length
  old : ∀ (n : Nat) a, φ'.l[n]? = some (some a) → n < φ.l.length → φ.l[n]? = some (some a)
  tups : ∀ a us, H a = some (.tup us) → H' a = some (.tup us)
  nl : ∀ a, ¬ Live φ a → H a ≠ none → ¬ Live φ' a
  rd : ∀ a u, ¬ Live φ a → Rd H a u → Rd H' a u
section
variable {T : Tab} {φ φ' : Phi} {H H' : Hp}
mutual
theorem RelV.extV (e : ExtV φ H φ' H') : ∀ {x : Val} {u : V}, RelV T φ H x u → RelV T φ' H' x u
  | _, _, .non => .non
  | _, _, .bl b => .bl b
  | _, _, .int i => .int i
  | _, _, .str s => .str s
  | _, _, .tup h r => .tup (e.tups _ _ h) (RelVs.extV e r)
  | _, _, .lst h r => .lst (h.elim (fun q => .inl ⟨e.nl _ q.1 (rd_some q.2), e.rd _ _ q.1 q.2⟩) .inr) (RelVs.extV e r)
  | _, _, .dct n h l r => .dct (e.nl _ n (rd_some h)) (e.rd _ _ n h) l (RelVs.extV e r)
  | _, _, .loc h r => .loc (Nat.lt_of_lt_of_le h e.len) (fun a q => r a (e.old _ a q h))
  | _, _, .exc n1 n2 h1 h2 l r => .exc (e.nl _ n1 (rd_some h1)) (e.nl _ n2 (rd_some h2)) (e.rd _ _ n1 h1) (e.rd _ _ n2 h2) l (RelVs.extV e r)
theorem RelVs.extV (e : ExtV φ H φ' H') : ∀ {xs : List Val} {us : List V}, RelVs T φ H xs us → RelVs T φ' H' xs us
  | _, _, .nil => .nil
  | _, _, .cons a b => .cons (RelV.extV e a) (RelVs.extV e b)
end
theorem RelF.extV {κ : Type} (e : ExtV φ H φ' H') {xs : List (κ × Val)} {us : List (κ × V)} (r : RelF T φ H xs us) : RelF T φ' H' xs us :=
  Paired.imp r fun _ _ h => ⟨h.1, h.2.extV e⟩
theorem RelOb.extV (e : ExtV φ H φ' H') {o : Ob} {a : Addr} (h : RelOb T φ H o a) (k : H' a = H a) : RelOb T φ' H' o a := by
  cases o with
  | dead => exact h
  | lst xs => obtain ⟨us, q, r⟩ := h; exact ⟨us, k.trans q, r.extV e⟩
  | dK kvs => obtain ⟨us, q, r⟩ := h; exact ⟨us, k.trans q, r.extV e⟩
  | dT kvs => obtain ⟨us, q, r⟩ := h; exact ⟨us, k.trans q, r.extV e⟩
  | lkK kvs => obtain ⟨o, us, q, r⟩ := h; exact ⟨o, us, k.trans q, r.extV e⟩
  | lkT kvs => obtain ⟨o, us, q, r⟩ := h; exact ⟨o, us, k.trans q, r.extV e⟩
  | ins c fs => obtain ⟨o, us, q, r⟩ := h; exact ⟨o, us, k.trans q, r.extV e⟩
  | dN kvs => obtain ⟨L, q, q2, r⟩ := h; exact ⟨L, k.trans q, q2, fun x hx => let ⟨c, d, h1, h2, h3⟩ := r x hx; ⟨c, d, e.tups _ _ h1, e.tups _ _ h2, e.tups _ _ h3⟩⟩
theorem Ext.v (e : Ext φ H φ' H') : ExtV φ H φ' H' := ⟨e.len, e.old, e.tups, fun _ => e.dead, e.rd⟩
theorem live_hide {φ : Phi} {D a : Addr} (h : ¬ Live (φ.hide D) a) : ¬ Live φ a ∧ a ≠ D := by
  refine ⟨fun q => h ?_, fun e => h (.inr (by subst e; exact List.mem_cons_self ..))⟩
  rcases q with q | q
  · exact .inl q
  · exact .inr (List.mem_cons_of_mem _ q)
theorem of_live_hide {φ : Phi} {D a : Addr} (h : ¬ Live φ a) (n : a ≠ D) : ¬ Live (φ.hide D) a := by
  rintro (q | q)
  · exact h (.inl q)
  · rcases List.mem_cons.mp q with e | q
    · exact n e
    · exact h (.inr q)
/-- into the block: D is kept apart -/
theorem Ext.intoV {D : Addr} (e : Ext φ H φ' H') (hD : H D = none) : ExtV φ H (φ'.hide D) H' :=
  ⟨e.len, e.old, e.tups, fun a h hs => of_live_hide (e.dead h hs) fun z => hs (z ▸ hD), e.rd⟩
theorem unhideV {D : Addr} : ExtV (φ.hide D) H φ H :=
  ⟨Nat.le_refl _, fun _ _ h _ => h, fun _ _ h => h, fun _ h _ => (live_hide h).1, fun _ _ _ r => r⟩
theorem Rst.unhide {st : Sto} {D : Addr} (R : Rst T (φ.hide D) st H) : Rst T φ st H where
  len := R.len
  inj := R.inj
  ob := fun n o h => by
    rcases R.ob n o h with q | ⟨a, q, r⟩
    · exact .inl q
    · exact .inr ⟨a, q, r.extV unhideV rfl⟩
  hid := fun a h => R.hid a (List.mem_cons_of_mem _ h)
  apart := fun n a h z => R.apart n a h (List.mem_cons_of_mem _ z)
theorem Rst.hide {st : Sto} {D : Addr} {o : HO} (R : Rst T φ st H) (hD : H D = none) : Rst T (φ.hide D) st (upd H D o) where
  len := R.len
  inj := R.inj
  ob := fun n ob h => by
    rcases R.ob n ob h with q | ⟨a, q, r⟩
    · exact .inl q
    · refine .inr ⟨a, q, r.extV ((Ext.fresh (ho := o) R hD).intoV hD) ?_⟩
      obtain ⟨u, e⟩ := relOb_some r
      rw [upd_ne (ne_of_none e hD)]
  hid := fun a h => by
    rcases List.mem_cons.mp h with e | h
    · rw [e, upd_same]; simp
    · exact (Ext.fresh R hD).non a (R.hid a h)
  apart := fun n a h z => by
    rcases List.mem_cons.mp z with e | z
    · obtain ⟨u, q⟩ := R.has h
      rw [e, hD] at q; cases q
    · exact R.apart n a h z
/-- the hidden thing is changed -/
theorem hidden_v {D : Addr} {o : HO} (ht : ∀ us, H D ≠ some (.tup us)) : ExtV (φ.hide D) H (φ.hide D) (upd H D o) where
  len := Nat.le_refl _
  old := fun _ _ h _ => h
  tups := fun a us h => by
    have : a ≠ D := fun z => ht us (z ▸ h)
    rw [upd_ne this]; exact h
  nl := fun _ h _ => h
  rd := fun a u h r => by
    have n := (live_hide h).2
    rcases r with r | ⟨ob, r⟩
    · exact .inl (by rw [upd_ne n]; exact r)
    · exact .inr ⟨ob, by rw [upd_ne n]; exact r⟩
theorem Rst.hidden {st : Sto} {D : Addr} {o : HO} (R : Rst T (φ.hide D) st H) (ht : ∀ us, H D ≠ some (.tup us)) : Rst T (φ.hide D) st (upd H D o) where
  len := R.len
  inj := R.inj
  ob := fun n ob h => by
    rcases R.ob n ob h with q | ⟨a, q, r⟩
    · exact .inl q
    · exact .inr ⟨a, q, r.extV (hidden_v ht) (upd_ne fun z => R.apart n a q (by rw [z]; exact List.mem_cons_self ..))⟩
  hid := fun a h => by
    by_cases e : a = D
    · rw [e, upd_same]; simp
    · rw [upd_ne e]; exact R.hid a h
  apart := R.apart
/-- what was run within, seen from without -/
theorem Ext.outof {φ1 φ φh : Phi} {H1 H H' : Hp} {D : Addr} (e : Ext φ1 H1 φ H) (f : Ext (φ.hide D) H φh H') (hD : H1 D = none) (h1 : ∀ a, a ∈ φ1.hid → a ≠ D) : ∃ φ', φh = φ'.hide D ∧ Ext φ1 H1 φ' H' ∧ ∀ o, Ext φ1 H1 φ' (upd H' D o) := by
  obtain ⟨l, hid⟩ := φh
  have hh : hid = D :: φ.hid := f.hid
  subst hh
  have base : Ext φ1 H1 ⟨l, φ.hid⟩ H' := {
    len := Nat.le_trans e.len f.len
    old := fun n a h hn => e.old n a (f.old n a h (Nat.lt_of_lt_of_le hn e.len)) hn
    new := fun n a h hn => by
      by_cases hl : n < φ.l.length
      · exact e.new n a (f.old n a h hl) hn
      · have z := f.new n a h (by show φ.l.length ≤ n; omega)
        cases q : H1 a with
        | none => rfl
        | some o => exact absurd z (e.non a (by rw [q]; simp))
    tups := fun a us h => f.tups a us (e.tups a us h)
    rd := fun a u h r => by
      have nD : a ≠ D := fun z => rd_some r (z ▸ hD)
      exact f.rd a u (of_live_hide (e.dead h (rd_some r)) nD) (e.rd a u h r)
    non := fun a h => f.non a (e.non a h)
    hid := e.hid
    hidk := fun a h => (f.hidk a (List.mem_cons_of_mem _ (e.hid ▸ h))).trans (e.hidk a h) }
  refine ⟨⟨l, φ.hid⟩, rfl, base, fun o => ?_⟩
  have nD : ∀ {a : Addr}, H1 a ≠ none → a ≠ D := fun {a} h z => h (z ▸ hD)
  exact {
    len := base.len
    old := base.old
    new := base.new
    tups := fun a us h => by rw [upd_ne (nD (by rw [h]; simp))]; exact base.tups a us h
    rd := fun a u h r => by
      have n := nD (rd_some r)
      rcases base.rd a u h r with q | ⟨ob, q⟩
      · exact .inl (by rw [upd_ne n]; exact q)
      · exact .inr ⟨ob, by rw [upd_ne n]; exact q⟩
    non := fun a h => by rw [upd_ne (nD h)]; exact base.non a h
    hid := base.hid
    hidk := fun a h => by rw [upd_ne (h1 a h)]; exact base.hidk a h }
end

end Ev

set_option Elab.async false
set_option linter.all false
set_option maxRecDepth 100000
set_option maxHeartbeats 2000000
namespace Ev
open PySem PySem.Spec PyProof.Rows L2

/-- the frame's slots -/
structure RelE (T : Tab) (φ : Phi) (ρ : Env) (st : Sto) (σ : L2.St) (H : Hp) : Prop where
  rst : Rst T φ st H
  len : ρ.length = σ.length
  get : ∀ (i : Nat) v, ρ[i]? = some (some v) → ∃ u, σ[i]? = some (some u) ∧ RelV T φ H v u

/-- an exception in the air -/
def RelX (T : Tab) (φ : Phi) (H : Hp) (x : Val) (c : Value) (d : Option Addr) : Prop :=
  ∃ (k : Nat) (ns : List Str) (vs : List Val) (us : List V) (dd : Addr), x = .exc k ns vs ∧ c = .ref (T.ca k) ∧ d = some dd ∧ ¬ Live φ dd ∧ Rd H dd (.xd (ns.zip us)) ∧ ns.length = us.length ∧ RelVs T φ H vs us

/-- what is wanted behind a result -/
def Post {α β : Type} (T : Tab) (R : Phi → Hp → α → β → Prop) (W : WX) (φ : Phi) (σ : L2.St) (H : Hp) (Q : β → Hp → Prop) : Res α → Prop
  | .ok v st => ∀ φ' H' u, Ext φ H φ' H' → Rst T φ' st H' → R φ' H' v u → Q u H'
  | .ex x st => ∀ φ' H' c d, Ext φ H φ' H' → Rst T φ' st H' → RelX T φ' H' x c d → W c d σ H'
  | .bad => False
/-- the reading of an evaluation -/
def tG {α β : Type} (T : Tab) (R : Phi → Hp → α → β → Prop) (W : WX) (e : Env → Sto → Res α) : L2.St → Hp → (β → Hp → Prop) → Prop := fun σ H Q =>
  ∃ φ ρ st, RelE T φ ρ st σ H ∧ Post T R W φ σ H Q (e ρ st)
abbrev tE (T : Tab) (W : WX) (e : E) : TE := tG T (RelV T) W e
abbrev tA (T : Tab) (W : WX) (e : EA) : TA := tG T (RelVs T) W e
abbrev tT (T : Tab) (W : WX) (e : ET) : TT := tG T (fun _ _ (a b : Bool) => a = b) W e

def bindR {α β : Type} (r : Res α) (f : α → Sto → Res β) : Res β := match r with
  | .ok a st => f a st
  | .ex x st => .ex x st
  | .bad => .bad
@[simp] theorem bindR_ok {α β : Type} (a : α) (st : Sto) (f : α → Sto → Res β) : bindR (.ok a st) f = f a st := (rfl)
@[simp] theorem bindR_ex {α β : Type} (x : Val) (st : Sto) (f : α → Sto → Res β) : bindR (.ex x st) f = .ex x st := (rfl)
@[simp] theorem bindR_bad {α β : Type} (f : α → Sto → Res β) : bindR .bad f = .bad := (rfl)
/-- a value that may be lacking -/
def optR {α : Type} (o : Option α) (st : Sto) : Res α := match o with
  | some a => .ok a st
  | none => .bad
@[simp] theorem optR_some {α : Type} (a : α) (st : Sto) : optR (some a) st = .ok a st := (rfl)
@[simp] theorem optR_none {α : Type} (st : Sto) : optR (none : Option α) st = .bad := (rfl)

section
variable {T : Tab} {φ φ' : Phi} {ρ : Env} {st st' : Sto} {σ : L2.St} {H H' : Hp} {W : WX}
theorem RelE.ext (r : RelE T φ ρ st σ H) (e : Ext φ H φ' H') (R : Rst T φ' st' H') : RelE T φ' ρ st' σ H' :=
  ⟨R, r.len, fun i v h => let ⟨u, h1, h2⟩ := r.get i v h; ⟨u, h1, h2.ext e⟩⟩
theorem Post.mono {α β : Type} {R : Phi → Hp → α → β → Prop} {Q Q' : β → Hp → Prop} {r : Res α} (p : Post T R W φ σ H Q r) (h : ∀ u H', Q u H' → Q' u H') : Post T R W φ σ H Q' r := by
  cases r with
  | ok v st => exact fun φ' H' u e s q => h u H' (p φ' H' u e s q)
  | ex x st => exact p
  | bad => exact p
/-- later -/
theorem Post.later {α β : Type} {R : Phi → Hp → α → β → Prop} {Q : β → Hp → Prop} {r : Res α} (p : Post T R W φ σ H Q r) (e : Ext φ H φ' H') : Post T R W φ' σ H' Q r := by
  cases r with
  | ok v st => exact fun φ2 H2 u e2 s q => p φ2 H2 u (e.trans e2) s q
  | ex x st => exact fun φ2 H2 c d e2 s q => p φ2 H2 c d (e.trans e2) s q
  | bad => exact p
/-- first e, then f -/
theorem post_bind {α β γ δ : Type} {R : Phi → Hp → α → β → Prop} {R' : Phi → Hp → γ → δ → Prop} {Q : δ → Hp → Prop} {r : Res α} {f : α → Sto → Res γ} (p : Post T R' W φ σ H Q (bindR r f)) {Q1 : β → Hp → Prop}
    (h : ∀ v st1 φ1 H1 u, r = .ok v st1 → Ext φ H φ1 H1 → Rst T φ1 st1 H1 → R φ1 H1 v u → Post T R' W φ1 σ H1 Q (f v st1) → Q1 u H1) : Post T R W φ σ H Q1 r := by
  cases r with
  | ok v st => exact fun φ' H' u e s q => h v st φ' H' u rfl e s q (Post.later p e)
  | ex x st => exact p
  | bad => exact p
theorem tG_bind {α β γ δ : Type} {R : Phi → Hp → α → β → Prop} {R' : Phi → Hp → γ → δ → Prop} {e : Env → Sto → Res α} {f : Env → α → Sto → Res γ} {Q : δ → Hp → Prop} {Q1 : β → Hp → Prop}
    (h : tG T R' W (fun ρ st => bindR (e ρ st) (f ρ)) σ H Q)
    (k : ∀ v ρ st1 φ1 H1 u, RelE T φ1 ρ st1 σ H1 → R φ1 H1 v u → Post T R' W φ1 σ H1 Q (f ρ v st1) → Q1 u H1) : tG T R W e σ H Q1 := by
  obtain ⟨φ, ρ, st, re, p⟩ := h
  exact ⟨φ, ρ, st, re, post_bind p fun v st1 φ1 H1 u _ e1 s1 q1 p1 => k v ρ st1 φ1 H1 u (re.ext e1 s1) q1 p1⟩
theorem tG_mono {α β : Type} {R : Phi → Hp → α → β → Prop} {e : Env → Sto → Res α} {Q Q' : β → Hp → Prop} (h : tG T R W e σ H Q) (k : ∀ u H', Q u H' → Q' u H') : tG T R W e σ H Q' := by
  obtain ⟨φ, ρ, st, re, p⟩ := h
  exact ⟨φ, ρ, st, re, p.mono k⟩
theorem Post.ok_self {α β : Type} {R : Phi → Hp → α → β → Prop} {Q : β → Hp → Prop} {v : α} {u : β} (p : Post T R W φ σ H Q (.ok v st)) (s : Rst T φ st H) (q : R φ H v u) : Q u H := p φ H u Ext.refl s q
end

section
variable {X : Cx} {T : Tab} {W : WX}
theorem pe_imp {e : Expr} {t t' : TE} (h : PE X e t) (k : ∀ σ H Q, t' σ H Q → t σ H Q) : PE X e t' := ⟨fun pins s σ H Q I q => h.run pins s σ H Q I (k _ _ _ q)⟩
theorem pt_imp {e : Expr} {t t' : TT} (h : PT X e t) (k : ∀ σ H Q, t' σ H Q → t σ H Q) : PT X e t' := ⟨fun pins s σ H Q I q => h.run pins s σ H Q I (k _ _ _ q)⟩
theorem pw_imp {e : Expr} {t t' : TT} (h : PW X e t) (k : ∀ σ H Q, t' σ H Q → t σ H Q) : PW X e t' := ⟨fun wh pins s σ H Q I q => h.run wh pins s σ H Q I (k _ _ _ q)⟩
theorem pa_imp {es : List Expr} {t t' : TA} (h : PA X es t) (k : ∀ σ H Q, t' σ H Q → t σ H Q) : PA X es t' := ⟨fun pos pins s σ H Q I q => h.run pos pins s σ H Q I (k _ _ _ q)⟩

def eV (i : Nat) : E := fun ρ st => match ρ[i]? with
  | some (some v) => .ok v st
  | _ => .bad
def eC (v : Val) : E := fun _ st => .ok v st
theorem e_v (i : Nat) {x : Str} {pos : Pos} (hN : X.N[i]? = some x := by rfl) (hv : Vis X.env.scope x := by first | exact Or.inl rfl | exact Or.inr (Or.inl rfl) | exact Or.inr (Or.inr rfl)) (hd : (x == ("__debug__" : Str)) = false := by decide)
    (hcd : (x == ("__classdict__" : Str)) = false := by decide) : PE X (.Name x pos) (tE T W (eV i)) := by
  refine pe_imp (pv i hN hv hd hcd) fun σ H Q h => ?_
  obtain ⟨φ, ρ, st, re, p⟩ := h
  unfold eV at p
  split at p
  · rename_i v hv
    obtain ⟨u, e1, e2⟩ := re.get i v hv
    exact ⟨u, e1, p.ok_self re.rst e2⟩
  · exact p.elim
theorem e_c {e : Expr} {v : V} {c : Val} (h : PE X e (tC v)) (hr : ∀ φ H, RelV T φ H c v) : PE X e (tE T W (eC c)) := by
  refine pe_imp h fun σ H Q h => ?_
  obtain ⟨φ, ρ, st, re, p⟩ := h
  exact p.ok_self re.rst (hr φ H)
theorem e_int {i j pos} : PE X (.Constant (.int i) j pos) (tE T W (eC (.int i))) := e_c pe_int fun _ _ => .int i
theorem e_bl {b j pos} : PE X (.Constant (.bool b) j pos) (tE T W (eC (.bl b))) := e_c pe_bl fun _ _ => .bl b
theorem e_non {j pos} : PE X (.Constant .none j pos) (tE T W (eC .non)) := e_c pe_non fun _ _ => .non
theorem e_str {x j pos} : PE X (.Constant (.str x) j pos) (tE T W (eC (.str x))) := e_c pe_str fun _ _ => .str x
theorem e_gint {x : Str} {i : Int} {t : Tok} {pos : Pos} (hm : X.mg x = some (.int i t)) (hg : Gl X x := by rfl) (hd : (x == ("__debug__" : Str)) = false := by decide) : PE X (.Name x pos) (tE T W (eC (.int i))) :=
  e_c (pe_glob (v := .int i) hg hm ⟨t, rfl⟩ hd) fun _ _ => .int i
theorem e_gstr {x : Str} {i : Str} {t : Tok} {pos : Pos} (hm : X.mg x = some (.str i t)) (hg : Gl X x := by rfl) (hd : (x == ("__debug__" : Str)) = false := by decide) : PE X (.Name x pos) (tE T W (eC (.str i))) :=
  e_c (pe_glob (v := .str i) hg hm ⟨t, rfl⟩ hd) fun _ _ => .str i

def eNil : EA := fun _ st => .ok [] st
def eCons (e : E) (es : EA) : EA := fun ρ st => bindR (e ρ st) fun v st1 => bindR (es ρ st1) fun vs st2 => .ok (v :: vs) st2
theorem a_nil : PA X [] (tA T W eNil) := by
  refine pa_imp pa_nil fun σ H Q h => ?_
  obtain ⟨φ, ρ, st, re, p⟩ := h
  exact p.ok_self re.rst .nil
theorem a_cons {e : Expr} {es : List Expr} {a : E} {as : EA} (ha : PE X e (tE T W a)) (hr : PA X es (tA T W as)) (hs : starEach (e :: es) X.env = (false, eval e X.env) :: starEach es X.env := by rfl) : PA X (e :: es) (tA T W (eCons a as)) := by
  refine pa_imp (pa_cons ha hr hs) fun σ H Q h => ?_
  refine tG_bind h fun v ρ st1 φ1 H1 u re1 q1 p1 => ?_
  refine ⟨φ1, ρ, st1, re1, post_bind p1 fun vs st2 φ2 H2 us _ e2 s2 q2 p2 => ?_⟩
  exact p2.ok_self s2 (.cons (q1.ext e2) q2)

/-- f tells the value of an operation that the rule r is of; nothing of the store changes -/
def SndB (T : Tab) (r : R2) (f : Sto → Val → Val → Option Val) : Prop :=
  ∀ φ st H v w z x y Q, Rst T φ st H → RelV T φ H v x → RelV T φ H w y → f st v w = some z →
    (∀ H' u, Ext φ H φ H' → Rst T φ st H' → RelV T φ H' z u → Q u H') → r x y H Q
def eB (f : Sto → Val → Val → Option Val) (a b : E) : E := fun ρ st => bindR (a ρ st) fun v st1 => bindR (b ρ st1) fun w st2 => optR (f st2 v w) st2
theorem bin_sound {r : R2} {f : Sto → Val → Val → Option Val} (hs : SndB T r f) {a b : E} {σ : L2.St} {H : Hp} {Q : VK} (h : tE T W (eB f a b) σ H Q) : tOp r (tE T W a) (tE T W b) σ H Q := by
  refine tG_bind h fun v ρ st1 φ1 H1 u re1 q1 p1 => ?_
  refine ⟨φ1, ρ, st1, re1, post_bind p1 fun w st2 φ2 H2 y _ e2 s2 q2 p2 => ?_⟩
  cases hf : f st2 v w with
  | none => rw [hf] at p2; exact p2.elim
  | some z =>
    rw [hf] at p2
    exact hs φ2 st2 H2 v w z u y Q s2 (q1.ext e2) q2 hf fun H' u' e3 s3 q3 => p2 φ2 H' u' e3 s3 q3
theorem e_op {a b : Expr} {op : Operator} {pos : Pos} {r : R2} {f : Sto → Val → Val → Option Val} {ea eb : E} (ho : OpR X (binaryOp op) r) (hs : SndB T r f) (ha : PE X a (tE T W ea)) (hb : PE X b (tE T W eb)) :
    PE X (.BinOp a op b pos) (tE T W (eB f ea eb)) := pe_imp (pe_op ho ha hb) fun _ _ _ h => bin_sound hs h
theorem e_cmp {a b : Expr} {op : CmpOp} {pos : Pos} {r : R2} {f : Sto → Val → Val → Option Val} {ea eb : E} (ho : OpR X (compareOp op) r) (hs : SndB T r f) (ha : PE X a (tE T W ea)) (hb : PE X b (tE T W eb)) (hm : behindInMarks op b = false) :
    PE X (.Compare a [op] [b] pos) (tE T W (eB f ea eb)) := pe_imp (pe_cmpR ho ha hb hm) fun _ _ _ h => bin_sound hs h
/-- an operation on two ints -/
def fI (C : Int → Int → Bool) (g : Int → Int → Val) : Sto → Val → Val → Option Val
  | _, .int i, .int j => if C i j = true then some (g i j) else none
  | _, _, _ => none
theorem snd_I {C : Int → Int → Prop} {c : Int → Int → Bool} {g : Int → Int → V} {g' : Int → Int → Val} (hc : ∀ i j, c i j = true → C i j) (hg : ∀ φ H i j, RelV T φ H (g' i j) (g i j)) : SndB T (rI C g) (fI c g') := by
  intro φ st H v w z x y Q s q1 q2 hf hq
  unfold fI at hf
  split at hf
  · rename_i i j
    split at hf
    · rename_i hh
      cases hf
      cases q1; cases q2
      exact ⟨i, j, rfl, rfl, hc i j hh, hq H _ Ext.refl s (hg φ H i j)⟩
    · cases hf
  · cases hf
def fI0 (g : Int → Int → Val) : Sto → Val → Val → Option Val
  | _, .int i, .int j => some (g i j)
  | _, _, _ => none
theorem snd_I0 {g : Int → Int → V} {g' : Int → Int → Val} (hg : ∀ φ H i j, RelV T φ H (g' i j) (g i j)) : SndB T (rI0 g) (fI0 g') := by
  intro φ st H v w z x y Q s q1 q2 hf hq
  unfold fI0 at hf
  split at hf
  · rename_i i j
    cases hf
    cases q1; cases q2
    exact ⟨i, j, rfl, rfl, hq H _ Ext.refl s (hg φ H i j)⟩
  · cases hf
abbrev fSub := fI0 fun i j => .int (i - j)
theorem e_sub {a b : Expr} {pos : Pos} {ea eb : E} (ha : PE X a (tE T W ea)) (hb : PE X b (tE T W eb)) : PE X (.BinOp a .Sub b pos) (tE T W (eB fSub ea eb)) :=
  e_op op_sub (snd_I0 fun _ _ i j => .int (i - j)) ha hb
/-- a product: one side within 2 ^ 64 -/
def cMul (i j : Int) : Bool := (decide (-(2 ^ 64) < i) && decide (i < 2 ^ 64)) || (decide (-(2 ^ 64) < j) && decide (j < 2 ^ 64))
theorem cMul_ok (i j : Int) (h : cMul i j = true) : CMul i j := by
  unfold cMul at h
  simpa [CMul, Bool.or_eq_true, Bool.and_eq_true] using h
def cDiv (_ j : Int) : Bool := decide (0 < j) && decide (j.natAbs < 2 ^ 2000)
theorem cDiv_ok (i j : Int) (h : cDiv i j = true) : CDivW i j := by
  unfold cDiv at h
  rw [Bool.and_eq_true, decide_eq_true_eq, decide_eq_true_eq] at h
  exact wide_div h.1 h.2 (by decide) (by decide)
abbrev fFdiv := fI cDiv fun i j => .int (i / j)
theorem e_fdiv {a b : Expr} {pos : Pos} {ea eb : E} (ha : PE X a (tE T W ea)) (hb : PE X b (tE T W eb)) : PE X (.BinOp a .FloorDiv b pos) (tE T W (eB fFdiv ea eb)) :=
  e_op op_fdivW (snd_I cDiv_ok fun _ _ i j => .int (i / j)) ha hb
abbrev fMod := fI (fun _ j => decide (0 < j)) fun i j => .int (i % j)
theorem e_mod {a b : Expr} {pos : Pos} {ea eb : E} (ha : PE X a (tE T W ea)) (hb : PE X b (tE T W eb)) : PE X (.BinOp a .Mod b pos) (tE T W (eB fMod ea eb)) :=
  e_op op_mod (snd_I (fun _ _ h => of_decide_eq_true h) fun _ _ i j => .int (i % j)) ha hb
def cPow (i j : Int) : Bool := decide (0 ≤ j) && decide (j ≤ 1000000) && decide (i.natAbs < 2 ^ 64)
theorem cPow_ok (i j : Int) (h : cPow i j = true) : CPow i j := by
  unfold cPow at h
  simp only [Bool.and_eq_true, decide_eq_true_eq] at h
  exact ⟨h.1.1, h.1.2, h.2⟩
abbrev fPow := fI cPow fun i j => .int (i ^ j.toNat)
theorem e_pow {a b : Expr} {pos : Pos} {ea eb : E} (ha : PE X a (tE T W ea)) (hb : PE X b (tE T W eb)) : PE X (.BinOp a .Pow b pos) (tE T W (eB fPow ea eb)) :=
  e_op op_pow (snd_I cPow_ok fun _ _ i j => .int (i ^ j.toNat)) ha hb

def eTest (e : E) : ET := fun ρ st => bindR (e ρ st) fun v st1 => match v with
  | .bl b => .ok b st1
  | _ => .bad
theorem t_val {e : Expr} {a : E} (h : PE X e (tE T W a)) (he : ∀ whole, isTrue e X.env whole = (do let v ← whole; standAt e.pos; holding [v] (truthy v)) := by intro _; rfl) : PT X e (tT T W (eTest a)) := by
  refine pt_imp (pt_val h he) fun σ H Q h => ?_
  refine tG_bind h fun v ρ st1 φ1 H1 u re1 q1 p1 => ?_
  split at p1
  · rename_i b
    cases q1
    exact ⟨b, rfl, p1.ok_self re1.rst rfl⟩
  · exact p1.elim
/-- a comparison as a test -/
theorem t_cmp {a b : Expr} {op : CmpOp} {pos : Pos} {r : R2} {f : Sto → Val → Val → Option Val} {ea eb : E} (ho : OpR X (compareOp op) r) (hs : SndB T r f) (ha : PE X a (tE T W ea)) (hb : PE X b (tE T W eb)) (hm : behindInMarks op b = false) :
    PT X (.Compare a [op] [b] pos) (tT T W (eTest (eB f ea eb))) := by
  refine pt_imp (pt_cmpR ho ha hb hm) fun σ H Q h => ?_
  have h' : tE T W (eB f ea eb) σ H (fun u H1 => ∃ k, u = .bl k ∧ Q k H1) := by
    refine tG_bind h fun v ρ st1 φ1 H1 u re1 q1 p1 => ?_
    split at p1
    · rename_i b
      cases q1
      exact ⟨b, rfl, p1.ok_self re1.rst rfl⟩
    · exact p1.elim
  exact bin_sound hs h'
def eNotT (t : ET) : ET := fun ρ st => bindR (t ρ st) fun b st1 => .ok (!b) st1
theorem t_not {a : Expr} {pos : Pos} {t : ET} (h : PT X a (tT T W t)) : PT X (.UnaryOp .Not a pos) (tT T W (eNotT t)) := by
  refine pt_imp (pt_not h) fun σ H Q h => ?_
  refine tG_bind h fun v ρ st1 φ1 H1 u re1 q1 p1 => ?_
  subst q1
  exact p1.ok_self re1.rst rfl
def eAndT (a b : ET) : ET := fun ρ st => bindR (a ρ st) fun c st1 => if c = true then b ρ st1 else .ok false st1
def eOrT (a b : ET) : ET := fun ρ st => bindR (a ρ st) fun c st1 => if c = true then .ok true st1 else b ρ st1
theorem w_and1 {a : Expr} {pos : Pos} {t : ET} (h : PT X a (tT T W t)) : PW X (.BoolOp .And [a] pos) (tT T W t) := pw_and1 h
theorem w_or1 {a : Expr} {pos : Pos} {t : ET} (h : PT X a (tT T W t)) : PW X (.BoolOp .Or [a] pos) (tT T W t) := pw_or1 h
theorem w_and {a b : Expr} {rest : List Expr} {pos : Pos} {t u : ET} (ha : PT X a (tT T W t)) (hb : PW X (.BoolOp .And (b :: rest) pos) (tT T W u)) : PW X (.BoolOp .And (a :: b :: rest) pos) (tT T W (eAndT t u)) := by
  refine pw_imp (pw_and ha hb) fun σ H Q h => ?_
  refine tG_bind h fun v ρ st1 φ1 H1 c re1 q1 p1 => ?_
  subst q1
  cases v with
  | true => exact iteT ⟨φ1, ρ, st1, re1, p1⟩
  | false => exact iteF (p1.ok_self re1.rst rfl)
theorem w_or {a b : Expr} {rest : List Expr} {pos : Pos} {t u : ET} (ha : PT X a (tT T W t)) (hb : PW X (.BoolOp .Or (b :: rest) pos) (tT T W u)) : PW X (.BoolOp .Or (a :: b :: rest) pos) (tT T W (eOrT t u)) := by
  refine pw_imp (pw_or ha hb) fun σ H Q h => ?_
  refine tG_bind h fun v ρ st1 φ1 H1 c re1 q1 p1 => ?_
  subst q1
  cases v with
  | true => exact iteT (p1.ok_self re1.rst rfl)
  | false => exact iteF ⟨φ1, ρ, st1, re1, p1⟩
/-- and, or, not as values: all but the last are bools -/
def eAnd (a b : E) : E := fun ρ st => bindR (eTest a ρ st) fun c st1 => if c = true then b ρ st1 else .ok (.bl false) st1
def eOr (a b : E) : E := fun ρ st => bindR (eTest a ρ st) fun c st1 => if c = true then .ok (.bl true) st1 else b ρ st1
def eNot (a : E) : E := fun ρ st => bindR (eTest a ρ st) fun c st1 => .ok (.bl (!c)) st1
theorem test_bind {α β : Type} {R : Phi → Hp → α → β → Prop} {a : E} {f : Env → Bool → Sto → Res α} {σ : L2.St} {H : Hp} {Q : β → Hp → Prop} {Q1 : VK} (h : tG T R W (fun ρ st => bindR (eTest a ρ st) (f ρ)) σ H Q)
    (k : ∀ c ρ st1 φ1 H1, RelE T φ1 ρ st1 σ H1 → Post T R W φ1 σ H1 Q (f ρ c st1) → Q1 (.bl c) H1) : tE T W a σ H Q1 := by
  obtain ⟨φ, ρ, st, re, p⟩ := h
  refine ⟨φ, ρ, st, re, ?_⟩
  dsimp only [eTest] at p
  cases ha : a ρ st with
  | ok v st1 =>
    rw [ha] at p
    intro φ1 H1 u e1 s1 q1
    cases v with
    | bl b => cases q1; exact k b ρ st1 φ1 H1 (re.ext e1 s1) (Post.later p e1)
    | _ => exact p.elim
  | ex x st1 => rw [ha] at p; exact p
  | bad => rw [ha] at p; exact p
theorem e_one {a : Expr} {op} {pos : Pos} {ea : E} (h : PE X a (tE T W ea)) : PE X (.BoolOp op [a] pos) (tE T W ea) := pe_one h
theorem e_and {a b : Expr} {rest : List Expr} {pos : Pos} {ea eb : E} (ha : PE X a (tE T W ea)) (hb : PE X (.BoolOp .And (b :: rest) pos) (tE T W eb)) : PE X (.BoolOp .And (a :: b :: rest) pos) (tE T W (eAnd ea eb)) := by
  refine pe_imp (pe_and ha hb) fun σ H Q h => ?_
  refine test_bind h fun c ρ st1 φ1 H1 re1 p1 => ⟨c, rfl, ?_⟩
  cases c with
  | true => exact iteT ⟨φ1, ρ, st1, re1, p1⟩
  | false => exact iteF (p1.ok_self re1.rst (.bl false))
theorem e_or {a b : Expr} {rest : List Expr} {pos : Pos} {ea eb : E} (ha : PE X a (tE T W ea)) (hb : PE X (.BoolOp .Or (b :: rest) pos) (tE T W eb)) : PE X (.BoolOp .Or (a :: b :: rest) pos) (tE T W (eOr ea eb)) := by
  refine pe_imp (pe_or ha hb) fun σ H Q h => ?_
  refine test_bind h fun c ρ st1 φ1 H1 re1 p1 => ⟨c, rfl, ?_⟩
  cases c with
  | true => exact iteT (p1.ok_self re1.rst (.bl true))
  | false => exact iteF ⟨φ1, ρ, st1, re1, p1⟩
theorem e_not {a : Expr} {pos : Pos} {ea : E} (ha : PE X a (tE T W ea)) : PE X (.UnaryOp .Not a pos) (tE T W (eNot ea)) := by
  refine pe_imp (pe_not ha) fun σ H Q h => ?_
  refine test_bind h fun c ρ st1 φ1 H1 re1 p1 => ⟨c, rfl, ?_⟩
  exact p1.ok_self re1.rst (.bl (!c))
def eIf (t : ET) (a b : E) : E := fun ρ st => bindR (t ρ st) fun c st1 => if c = true then a ρ st1 else b ρ st1
theorem e_if {c a b : Expr} {pos : Pos} {t : ET} {ea eb : E} (hc : PT X c (tT T W t)) (ha : PE X a (tE T W ea)) (hb : PE X b (tE T W eb)) : PE X (.IfExp c a b pos) (tE T W (eIf t ea eb)) := by
  refine pe_imp (pe_ifExp hc ha hb) fun σ H Q h => ?_
  refine tG_bind h fun v ρ st1 φ1 H1 u re1 q1 p1 => ?_
  subst q1
  cases v with
  | true => exact iteT ⟨φ1, ρ, st1, re1, p1⟩
  | false => exact iteF ⟨φ1, ρ, st1, re1, p1⟩
def fNeg : E → E := fun a ρ st => bindR (a ρ st) fun v st1 => match v with
  | .int i => .ok (.int (-i)) st1
  | _ => .bad
theorem e_neg {a : Expr} {pos : Pos} {ea : E} (ha : PE X a (tE T W ea)) : PE X (.UnaryOp .USub a pos) (tE T W (fNeg ea)) := by
  refine pe_imp (pe_un un_neg ha) fun σ H Q h => ?_
  refine tG_bind h fun v ρ st1 φ1 H1 u re1 q1 p1 => ?_
  split at p1
  · rename_i i
    cases q1
    exact ⟨i, rfl, p1.ok_self re1.rst (.int (-i))⟩
  · exact p1.elim

def eTup (as : EA) : E := fun ρ st => bindR (as ρ st) fun vs st1 => if vs.length ≤ sizeLine then .ok (.tup vs) st1 else .bad
def eLst (as : EA) : E := fun ρ st => bindR (as ρ st) fun vs st1 => if vs.length ≤ sizeLine then .ok (.lst vs) st1 else .bad
/-- a list that will be changed -/
def eNew (as : EA) : E := fun ρ st => bindR (as ρ st) fun vs st1 => if vs.length ≤ sizeLine then .ok (.loc st1.length) (st1 ++ [.lst vs]) else .bad
theorem e_tup {es : List Expr} {x1} {pos : Pos} {as : EA} (h : PA X es (tA T W as)) : PE X (.Tuple es x1 pos) (tE T W (eTup as)) := by
  refine pe_imp (pe_tup h) fun σ H Q h => ?_
  refine tG_bind h fun vs ρ st1 φ1 H1 us re1 q1 p1 => ?_
  split at p1
  · rename_i hz
    refine ⟨by rw [← RelVs.length q1]; exact hz, fun p hp => ?_⟩
    have e := Ext.fresh (ho := .tup us) re1.rst hp
    exact p1 φ1 _ _ e (re1.rst.fresh hp) (.tup upd_same (RelVs.ext e q1))
  · exact p1.elim
theorem e_lst {es : List Expr} {pos : Pos} {as : EA} (h : PA X es (tA T W as)) : PE X (.List es pos) (tE T W (eLst as)) := by
  refine pe_imp (pe_lst h) fun σ H Q h => ?_
  refine tG_bind h fun vs ρ st1 φ1 H1 us re1 q1 p1 => ?_
  split at p1
  · rename_i hz
    refine ⟨by rw [← RelVs.length q1]; exact hz, fun p hp => ?_⟩
    have e := Ext.fresh (ho := .lst us) re1.rst hp
    exact p1 φ1 _ _ e (re1.rst.fresh hp) (.lst (.inl ⟨re1.rst.nolive hp, .inl upd_same⟩) (RelVs.ext e q1))
  · exact p1.elim
theorem rel_loc {φ : Phi} {H : Hp} {st : Sto} (R : Rst T φ st H) {p : Addr} {H' : Hp} : RelV T (φ.add p) H' (.loc st.length) (.ref p) := by
  refine .loc (by rw [← R.len]; show _ < (φ.l ++ [some p]).length; simp) fun a q => ?_
  rcases add_get q with ⟨h, _⟩ | ⟨_, rfl⟩
  · rw [R.len] at h
    exact absurd h (Nat.lt_irrefl _)
  · rfl
theorem e_new {es : List Expr} {pos : Pos} {as : EA} (h : PA X es (tA T W as)) : PE X (.List es pos) (tE T W (eNew as)) := by
  refine pe_imp (pe_lst h) fun σ H Q h => ?_
  refine tG_bind h fun vs ρ st1 φ1 H1 us re1 q1 p1 => ?_
  split at p1
  · rename_i hz
    refine ⟨by rw [← RelVs.length q1]; exact hz, fun p hp => ?_⟩
    have e := Ext.alloc (ho := .lst us) re1.rst hp
    exact p1 _ _ _ e (re1.rst.alloc hp ⟨us, upd_same, RelVs.ext e q1⟩) (rel_loc re1.rst)
  · exact p1.elim
end
end Ev

set_option Elab.async false
set_option linter.all false
set_option maxRecDepth 100000
set_option maxHeartbeats 2000000
namespace Ev
open PySem PySem.Spec PyProof.Rows L2

/-- a store's list as a value -/
def dr (st : Sto) : Val → Val
  | .loc n => match st[n]? with
    | some (.lst xs) => .lst xs
    | _ => .loc n
  | v => v
def lstOf (st : Sto) (v : Val) : Option (List Val) := match dr st v with
  | .lst xs => some xs
  | _ => none
def tupOf : Val → Option (List Val)
  | .tup xs => some xs
  | _ => none
def seqOf (st : Sto) (v : Val) : Option (List Val) := match dr st v with
  | .lst xs => some xs
  | .tup xs => some xs
  | _ => none
mutual
def toD : Val → Option PyData
  | .non => some .none
  | .bl b => some (.bool b)
  | .int i => some (.int i)
  | .str s => some (.str s)
  | .tup xs => (toDs xs).map .tuple
  | .lst xs => (toDs xs).map .list
  | _ => none
def toDs : List Val → Option (List PyData)
  | [] => some []
  | x :: xs => match toD x, toDs xs with
    | some d, some ds => some (d :: ds)
    | _, _ => none
end
section
variable {T : Tab} {φ : Phi} {st : Sto} {H : Hp}
theorem sqL_of {a : Addr} {us : List V} (h : (¬ Live φ a ∧ Rd H a (.lst us)) ∨ LstK T.K a us) : SqL T.K H a us := h.elim (fun q => .inl q.2) .inr
theorem rel_lst (R : Rst T φ st H) {v : Val} {x : V} {xs : List Val} (r : RelV T φ H v x) (h : lstOf st v = some xs) : ∃ a us, x = .ref a ∧ SqL T.K H a us ∧ RelVs T φ H xs us := by
  unfold lstOf at h
  cases r with
  | lst h1 h2 => cases h; exact ⟨_, _, rfl, sqL_of h1, h2⟩
  | loc hn hu =>
    rename_i n
    unfold dr at h
    dsimp only at h
    split at h
    · rename_i ys e
      cases h
      split at e
      · rename_i zs q
        cases e
        obtain ⟨a, e1, us, e2, e3⟩ := R.at q (by simp)
        exact ⟨a, us, hu a e1, SqL.of e2, e3⟩
      · cases e
    · cases h
  | _ => cases h
theorem rel_tup {v : Val} {x : V} {xs : List Val} (r : RelV T φ H v x) (h : tupOf v = some xs) : ∃ a us, x = .ref a ∧ H a = some (.tup us) ∧ RelVs T φ H xs us := by
  cases r with
  | tup h1 h2 => cases h; exact ⟨_, _, rfl, h1, h2⟩
  | _ => cases h
theorem rel_seq (R : Rst T φ st H) {v : Val} {x : V} {xs : List Val} (r : RelV T φ H v x) (h : seqOf st v = some xs) : ∃ a us, x = .ref a ∧ (SqL T.K H a us ∨ SqT T.K H a us) ∧ RelVs T φ H xs us := by
  unfold seqOf at h
  split at h
  · rename_i ys e
    cases h
    obtain ⟨a, us, h1, h2, h3⟩ := rel_lst R r (show lstOf st v = some xs by unfold lstOf; rw [e])
    exact ⟨a, us, h1, .inl h2, h3⟩
  · rename_i ys e
    cases h
    cases r with
    | tup h1 h2 => cases e; exact ⟨_, _, rfl, .inr (SqT.of h1), h2⟩
    | loc hn hu =>
      unfold dr at e
      dsimp only at e
      split at e <;> cases e
    | _ => cases e
  · cases h
mutual
theorem rel_dp : ∀ {v : Val} {x : V} {d : PyData}, RelV T φ H v x → toD v = some d → Dp T.K H x d
  | _, _, _, .non, h => by cases h; exact .non
  | _, _, _, .bl b, h => by cases h; exact .bl b
  | _, _, _, .int i, h => by cases h; exact .int i
  | _, _, _, .str s, h => by cases h; exact .str s
  | _, _, _, .tup h1 h2, h => by
    simp only [toD, Option.map_eq_some_iff] at h
    obtain ⟨ds, e, rfl⟩ := h
    exact .tup (SqT.of h1) (rel_dps h2 e)
  | _, _, _, .lst h1 h2, h => by
    simp only [toD, Option.map_eq_some_iff] at h
    obtain ⟨ds, e, rfl⟩ := h
    exact .lst (sqL_of h1) (rel_dps h2 e)
  | _, _, _, .dct .., h => by cases h
  | _, _, _, .loc .., h => by cases h
  | _, _, _, .exc .., h => by cases h
theorem rel_dps : ∀ {vs : List Val} {xs : List V} {ds : List PyData}, RelVs T φ H vs xs → toDs vs = some ds → DpAll T.K H xs ds
  | _, _, _, .nil, h => by cases h; exact .nil
  | _, _, _, .cons a b, h => by
    rw [toDs] at h
    split at h
    · rename_i d ds e1 e2
      cases h
      exact .cons (rel_dp a e1) (rel_dps b e2)
    · cases h
end
theorem rel_dr (R : Rst T φ st H) {v : Val} {x : V} {d : PyData} (r : RelV T φ H v x) (h : toD (dr st v) = some d) : Dp T.K H x d := by
  cases r with
  | loc hn hu =>
    rename_i n
    unfold dr at h
    dsimp only at h
    split at h
    · rename_i ys q
      obtain ⟨a, e1, us, e2, e3⟩ := R.at q (by simp)
      simp only [toD, Option.map_eq_some_iff] at h
      obtain ⟨ds, e, rfl⟩ := h
      rw [hu a e1]
      exact .lst (SqL.of e2) (rel_dps e3 e)
    · cases h
  | non => exact rel_dp (T := T) (φ := φ) (H := H) .non h
  | bl b => exact rel_dp (T := T) (φ := φ) (H := H) (.bl b) h
  | int i => exact rel_dp (T := T) (φ := φ) (H := H) (.int i) h
  | str s => exact rel_dp (T := T) (φ := φ) (H := H) (.str s) h
  | tup h1 h2 => exact rel_dp (.tup h1 h2) h
  | lst h1 h2 => exact rel_dp (.lst h1 h2) h
  | dct h1 h2 h3 h4 => exact rel_dp (.dct h1 h2 h3 h4) h
  | exc h1 h2 h3 h4 h5 h6 => exact rel_dp (.exc h1 h2 h3 h4 h5 h6) h
end

def fEq (st : Sto) (v w : Val) : Option Val := match toD (dr st v), toD (dr st w) with
  | some d, some e => if SeqAt.shaped d && SeqAt.shaped e then some (.bl (PyData.eqv d e)) else none
  | _, _ => none
def fNe (st : Sto) (v w : Val) : Option Val := match toD (dr st v), toD (dr st w) with
  | some d, some e => if SeqAt.shaped d && SeqAt.shaped e then some (.bl (!PyData.eqv d e)) else none
  | _, _ => none
theorem snd_eq {T : Tab} : SndB T (rEqD T.K) fEq := by
  intro φ st H v w z x y Q R r1 r2 hf hq
  unfold fEq at hf
  split at hf
  · rename_i d e h1 h2
    split at hf
    · rename_i hs
      cases hf
      rw [Bool.and_eq_true] at hs
      exact ⟨d, e, rel_dr R r1 h1, rel_dr R r2 h2, hs.1, hs.2, hq H _ Ext.refl R (.bl _)⟩
    · cases hf
  · cases hf
theorem snd_ne {T : Tab} : SndB T (rNeD T.K) fNe := by
  intro φ st H v w z x y Q R r1 r2 hf hq
  unfold fNe at hf
  split at hf
  · rename_i d e h1 h2
    split at hf
    · rename_i hs
      cases hf
      rw [Bool.and_eq_true] at hs
      exact ⟨d, e, rel_dr R r1 h1, rel_dr R r2 h2, hs.1, hs.2, hq H _ Ext.refl R (.bl _)⟩
    · cases hf
  · cases hf

def fAdd (st : Sto) (v w : Val) : Option Val := match v, w with
  | .int i, .int j => some (.int (i + j))
  | .str a, .str b => if a.length + b.length ≤ sizeLine then some (.str (a ++ b)) else none
  | .tup xs, .tup ys => if xs.length + ys.length ≤ sizeLine then some (.tup (xs ++ ys)) else none
  | v, w => match lstOf st v, lstOf st w with
    | some xs, some ys => if xs.length + ys.length ≤ sizeLine then some (.lst (xs ++ ys)) else none
    | _, _ => none
/-- list + list, whatever the lists are -/
def rCatL (K : PySem.W.Frag) : R2 := fun x y H Q => ∃ l b xs zs, x = .ref l ∧ y = .ref b ∧ SqL K H l xs ∧ SqL K H b zs ∧ xs.length + zs.length ≤ sizeLine ∧ ∀ p, H p = none → Q (.ref p) (upd H p (.lst (xs ++ zs)))
theorem op_catL {X : Cx} : OpR X (binaryOp .Add) (rCatL X.K) := by
  intro pins s σ H x y v u Q I rx ry h
  obtain ⟨l, b, xs, zs, rfl, rfl, hH, hB, hz, q⟩ := h
  cases rx
  cases ry
  obtain ⟨its, r, pl, _⟩ := I.list hH
  obtain ⟨its2, r2, pl2, _⟩ := I.list hB
  have hl := pl.isList
  have hb := pl2.isList
  obtain ⟨⟨cls, dd, data, sl⟩, ho, hc, n, hd⟩ := id hl
  obtain ⟨⟨cls2, dd2, data2, sl2⟩, ho2, hc2, n2, hd2⟩ := id hb
  simp only at hc hd hc2 hd2
  subst hc hd hc2 hd2
  have e : its.toArray ++ its2.toArray = (its ++ its2).toArray := by simp
  have hz2 : its.toArray.size + its2.toArray.size ≤ sizeLine := by rw [List.size_toArray, List.size_toArray, ← r.length, ← r2.length]; exact hz
  refine concat_meets ⟨_, ho, rfl⟩ ⟨_, ho2, rfl⟩ noFill_list_add seq_list_add PySem.F.slot_list_add PySem.F.entry_list_add (PySem.F.args_list_add_2 _ _) (list_addW l b its.toArray its2.toArray n n2 dd dd2 sl sl2 hz2) ⟨ho, ho2, ?_⟩
  rw [e]
  exact ⟨.ref _, _, I.lnew (t' := s.toks) (r.append r2) (by rw [List.length_append]; omega), rfl, q _ I.fresh⟩
def rAddA (K : PySem.W.Frag) : R2 := fun x y H Q => (rI0 (fun i j => .int (i + j))) x y H Q ∨ (∃ i j, x = .str i ∧ y = .str j ∧ i.length + j.length ≤ sizeLine ∧ Q (.str (i ++ j)) H) ∨ rCatA K x y H Q ∨ rCatL K x y H Q
theorem op_addA {X : Cx} : OpR X (binaryOp .Add) (rAddA X.K) := op_add.or (op_add_str.or (op_catA.or op_catL))
theorem snd_add {T : Tab} : SndB T (rAddA T.K) fAdd := by
  intro φ st H v w z x y Q R r1 r2 hf hq
  have lists : ∀ xs ys, lstOf st v = some xs → lstOf st w = some ys → (if xs.length + ys.length ≤ sizeLine then some (Val.lst (xs ++ ys)) else none) = some z → rAddA T.K x y H Q := by
    intro xs ys h1 h2 hf
    split at hf
    · rename_i hz
      cases hf
      obtain ⟨a, us, rfl, s1, q1⟩ := rel_lst R r1 h1
      obtain ⟨b, ws, rfl, s2, q2⟩ := rel_lst R r2 h2
      refine .inr (.inr (.inr ⟨a, b, us, ws, rfl, rfl, s1, s2, by rw [← q1.length, ← q2.length]; exact hz, fun p hp => ?_⟩))
      have e := Ext.fresh (ho := .lst (us ++ ws)) R hp
      exact hq _ _ e (R.fresh hp) (.lst (.inl ⟨R.nolive hp, .inl upd_same⟩) ((q1.append q2).ext e))
    · cases hf
  unfold fAdd at hf
  split at hf
  · cases hf; cases r1; cases r2
    exact .inl ⟨_, _, rfl, rfl, hq H _ Ext.refl R (.int _)⟩
  · split at hf
    · rename_i hz
      cases hf; cases r1; cases r2
      exact .inr (.inl ⟨_, _, rfl, rfl, hz, hq H _ Ext.refl R (.str _)⟩)
    · cases hf
  · split at hf
    · rename_i hz
      cases hf
      cases r1 with
      | tup a1 b1 =>
        cases r2 with
        | tup a2 b2 =>
          rename_i xs ys us a ws b
          refine .inr (.inr (.inl ⟨a, b, us, ws, rfl, rfl, SqT.of a1, SqT.of a2, by rw [← b1.length, ← b2.length]; exact hz, fun e => ?_, fun e1 e2 => ?_, fun e1 e2 p hp => ?_⟩))
          · subst e
            cases b1
            exact hq H _ Ext.refl R (.tup a2 b2)
          · subst e2
            cases b2
            rw [List.append_nil] at hq
            exact hq H _ Ext.refl R (.tup a1 b1)
          · have e := Ext.fresh (ho := .tup (us ++ ws)) R hp
            exact hq _ _ e (R.fresh hp) (.tup upd_same ((b1.append b2).ext e))
    · cases hf
  · split at hf
    · rename_i xs ys h1 h2
      exact lists xs ys h1 h2 hf
    · cases hf

theorem RelVs.rep {T : Tab} {φ : Phi} {H : Hp} {xs : List Val} {us : List V} (r : RelVs T φ H xs us) : ∀ n : Nat, RelVs T φ H (List.replicate n xs).flatten (List.replicate n us).flatten
  | 0 => .nil
  | n + 1 => by
    rw [List.replicate_succ, List.replicate_succ, List.flatten_cons, List.flatten_cons]
    exact r.append (RelVs.rep r n)

abbrev fLt := fI0 fun i j => .bl (decide (i < j))
abbrev fLe := fI0 fun i j => .bl (decide (i ≤ j))
abbrev fGt := fI0 fun i j => .bl (decide (j < i))
abbrev fGe := fI0 fun i j => .bl (decide (j ≤ i))
section
variable {T : Tab}
theorem snd_lt : SndB T (rI0 fun i j => .bl (decide (i < j))) fLt := snd_I0 fun _ _ i j => .bl _
theorem snd_le : SndB T (rI0 fun i j => .bl (decide (i ≤ j))) fLe := snd_I0 fun _ _ i j => .bl _
theorem snd_gt : SndB T (rI0 fun i j => .bl (decide (j < i))) fGt := snd_I0 fun _ _ i j => .bl _
theorem snd_ge : SndB T (rI0 fun i j => .bl (decide (j ≤ i))) fGe := snd_I0 fun _ _ i j => .bl _
end
/-- tuples of ints -/
def intsOf : List Val → Option (List Int)
  | [] => some []
  | .int i :: r => (intsOf r).map (i :: ·)
  | _ => none
theorem rel_ints {T : Tab} {φ : Phi} {H : Hp} : ∀ {xs : List Val} {us : List V} {ns : List Int}, RelVs T φ H xs us → intsOf xs = some ns → us = ns.map V.int
  | _, _, _, .nil, h => by cases h; rfl
  | _, _, _, .cons a b, h => by
    cases a with
    | int i =>
      simp only [intsOf, Option.map_eq_some_iff] at h
      obtain ⟨ms, e, rfl⟩ := h
      rw [rel_ints b e]; rfl
    | _ => cases h
def fLtT (st : Sto) (v w : Val) : Option Val := match v, w with
  | .int i, .int j => some (.bl (decide (i < j)))
  | .tup xs, .tup ys => match intsOf xs, intsOf ys with
    | some ns, some ms => some (.bl (HT.lexLt ns ms))
    | _, _ => none
  | _, _ => none
def rLtA (K : PySem.W.Frag) : R2 := fun x y H Q => (rI0 fun i j => .bl (decide (i < j))) x y H Q ∨ rLtT K x y H Q
theorem op_ltA {X : Cx} (hu : X.A.units < cLine) : OpR X (compareOp .Lt) (rLtA X.K) := op_lt.or (op_ltT hu)
theorem snd_ltT {T : Tab} : SndB T (rLtA T.K) fLtT := by
  intro φ st H v w z x y Q R r1 r2 hf hq
  unfold fLtT at hf
  split at hf
  · cases hf; cases r1; cases r2
    exact .inl ⟨_, _, rfl, rfl, hq H _ Ext.refl R (.bl _)⟩
  · split at hf
    · rename_i h1 h2
      cases hf
      cases r1 with
      | tup a1 b1 =>
        cases r2 with
        | tup a2 b2 =>
          have e1 := rel_ints b1 h1
          have e2 := rel_ints b2 h2
          subst e1 e2
          exact .inr ⟨_, _, _, _, rfl, rfl, SqT.of a1, SqT.of a2, hq H _ Ext.refl R (.bl _)⟩
    · cases hf
  · cases hf

def keyOf : Val → Option Key
  | .int i => some (.inl i)
  | .str s => some (.inr s)
  | _ => none
def keysOf : List Val → Option (List Key)
  | [] => some []
  | x :: xs => match keyOf x, keysOf xs with
    | some k, some ks => some (k :: ks)
    | _, _ => none
theorem rel_key {T : Tab} {φ : Phi} {H : Hp} {v : Val} {x : V} {k : Key} (r : RelV T φ H v x) (h : keyOf v = some k) : x = kV k := by
  cases r <;> cases h <;> rfl
theorem rel_keys {T : Tab} {φ : Phi} {H : Hp} : ∀ {vs : List Val} {xs : List V} {ks : List Key}, RelVs T φ H vs xs → keysOf vs = some ks → xs = ks.map kV
  | _, _, _, .nil, h => by cases h; rfl
  | _, _, _, .cons a b, h => by
    rw [keysOf] at h
    split at h
    · rename_i k ks e1 e2
      cases h
      rw [rel_key a e1, rel_keys b e2]; rfl
    · cases h
def look {κ α : Type} [DecidableEq κ] (kvs : List (κ × α)) (k : κ) : Option α := (kvs.find? fun kv => decide (kv.1 = k)).map (·.2)
def put {κ α : Type} [DecidableEq κ] (kvs : List (κ × α)) (k : κ) (v : α) : List (κ × α) :=
  if (kvs.any fun kv => decide (kv.1 = k)) = true then kvs.map (fun kv => if kv.1 = k then (kv.1, v) else kv) else kvs ++ [(k, v)]
section
variable {T : Tab} {φ : Phi} {H : Hp} {κ : Type} [DecidableEq κ]
theorem rel_any {kvs : List (κ × Val)} {us : List (κ × V)} (r : RelF T φ H kvs us) (k : κ) : (kvs.any fun kv => decide (kv.1 = k)) = us.any fun kv => decide (kv.1 = k) := by
  induction r with
  | nil => rfl
  | cons a _ ih => simp only [List.any_cons, a.1, ih]
theorem rel_look {kvs : List (κ × Val)} {us : List (κ × V)} (r : RelF T φ H kvs us) (k : κ) : (look kvs k = none ∧ valV us k = none) ∨ ∃ v x, look kvs k = some v ∧ valV us k = some x ∧ RelV T φ H v x := by
  induction r with
  | nil => exact .inl ⟨rfl, rfl⟩
  | cons a _ ih =>
    rename_i p q r s _
    unfold look valV at *
    simp only [List.find?_cons]
    by_cases e : p.1 = k
    · have e2 : q.1 = k := a.1 ▸ e
      simp only [e, e2, decide_true, Option.map_some]
      exact .inr ⟨_, _, rfl, rfl, a.2⟩
    · have e2 : ¬ q.1 = k := a.1 ▸ e
      simp only [e, e2, decide_false]
      exact ih
theorem rel_put {kvs : List (κ × Val)} {us : List (κ × V)} (r : RelF T φ H kvs us) (k : κ) {v : Val} {x : V} (rv : RelV T φ H v x) : RelF T φ H (put kvs k v) (putK us k x) := by
  unfold put putK
  rw [rel_any r k]
  split
  · rename_i hh; clear hh
    induction r with
    | nil => exact .nil
    | cons a _ ih =>
      rename_i p q _ _ _
      refine .cons ?_ ih
      have hq : q.1 = p.1 := a.1.symm
      by_cases e : p.1 = k
      · have e2 : q.1 = k := hq.trans e
        simp only [e, e2, if_true]
        exact ⟨trivial, rv⟩
      · have e2 : ¬ q.1 = k := fun z => e (hq.symm.trans z)
        simp only [e, e2, if_false]
        exact a
  · exact Paired.snoc r ⟨rfl, rv⟩
theorem rel_zip : ∀ {ks : List κ} {vs : List Val} {us : List V}, ks.length = us.length → RelVs T φ H vs us → RelF T φ H (ks.zip vs) (ks.zip us)
  | _, _, _, _, .nil => by simp; exact .nil
  | [], _, _, _, .cons _ _ => .nil
  | k :: ks, _, _, h, .cons a b => .cons ⟨rfl, a⟩ (rel_zip (by simpa using h) b)
end
/-- what the dict v holds at the key w -/
def dGet (st : Sto) (v w : Val) : Option (Option Val) := match v with
  | .loc n => match st[n]? with
    | some (.dK kvs) => (keyOf w).map (look kvs)
    | some (.lkK kvs) => (keyOf w).map (look kvs)
    | some (.dT kvs) => (tupOf w).bind fun xs => (keysOf xs).map (look kvs)
    | some (.lkT kvs) => (tupOf w).bind fun xs => (keysOf xs).map (look kvs)
    | _ => none
  | .dct ks vs => (keyOf w).map (look (ks.zip vs))
  | _ => none
theorem rel_dget {T : Tab} {φ : Phi} {st : Sto} {H : Hp} (R : Rst T φ st H) {v w : Val} {x y : V} {o : Option Val} (r1 : RelV T φ H v x) (r2 : RelV T φ H w y) (h : dGet st v w = some o) :
    ∃ a r, x = .ref a ∧ DGet H a y r ∧ ((o = none ∧ r = none) ∨ ∃ z u, o = some z ∧ r = some u ∧ RelV T φ H z u) := by
  have one : ∀ {kvs us a}, Rd H a (.dK us) → RelF T φ H kvs us → x = .ref a → (keyOf w).map (look kvs) = some o → ∃ a r, x = .ref a ∧ DGet H a y r ∧ ((o = none ∧ r = none) ∨ ∃ z u, o = some z ∧ r = some u ∧ RelV T φ H z u) := by
    intro kvs us a h1 h2 hx h
    simp only [Option.map_eq_some_iff] at h
    obtain ⟨k, e, rfl⟩ := h
    exact ⟨a, valV us k, hx, .inl ⟨us, k, h1, rel_key r2 e, rfl⟩, rel_look h2 k⟩
  have two : ∀ {kvs us a}, Rd H a (.dT us) → RelF T φ H kvs us → x = .ref a → ((tupOf w).bind fun xs => (keysOf xs).map (look kvs)) = some o → ∃ a r, x = .ref a ∧ DGet H a y r ∧ ((o = none ∧ r = none) ∨ ∃ z u, o = some z ∧ r = some u ∧ RelV T φ H z u) := by
    intro kvs us a h1 h2 hx h
    simp only [Option.bind_eq_some_iff, Option.map_eq_some_iff] at h
    obtain ⟨xs, e, k, ek, rfl⟩ := h
    obtain ⟨b, ws, hy, hb, rv⟩ := rel_tup r2 e
    exact ⟨a, valV us k, hx, .inr ⟨us, k, b, h1, hy, by rw [hb, rel_keys rv ek], rfl⟩, rel_look h2 k⟩
  cases r1 with
  | loc hn hu =>
    unfold dGet at h
    dsimp only at h
    split at h
    · rename_i kvs q
      obtain ⟨a, e1, us, e2, e3⟩ := R.at q (by simp)
      exact one (.inl e2) e3 (hu a e1) h
    · rename_i kvs q
      obtain ⟨a, e1, o, us, e2, e3⟩ := R.at q (by simp)
      exact one (.inr ⟨o, e2⟩) e3 (hu a e1) h
    · rename_i kvs q
      obtain ⟨a, e1, us, e2, e3⟩ := R.at q (by simp)
      exact two (.inl e2) e3 (hu a e1) h
    · rename_i kvs q
      obtain ⟨a, e1, o, us, e2, e3⟩ := R.at q (by simp)
      exact two (.inr ⟨o, e2⟩) e3 (hu a e1) h
    · cases h
  | dct h1 h2 h3 h4 => exact one h2 (rel_zip h3 h4) rfl h
  | _ => cases h

def rIxD : R2 := fun x y H Q => ∃ a v, x = .ref a ∧ DGet H a y (some v) ∧ Q v H
theorem ix_dict {X : Cx} (hu : X.A.units + 1 < cLine) : IxR X rIxD := by
  intro value slice pins s σ H x y v u Q I rx ry h hs
  obtain ⟨a, z, rfl, g, q⟩ := h
  obtain rfl : v = Value.ref a := rx
  have hT := dict_typeIs I g
  unfold subscriptTail
  refine wpAny_bind ?_
  rw [getitemInPython_of_ne hT.not_modules]
  refine wpAny_bind (wpAny_specialOf hT PySem.F.slot_dict_getitem.lookup ?_)
  have fin : wpAny (model X.prog X.w) X.A (subscripted slice false (.ref a) u) (fun r s₃ => wpAny (model X.prog X.w) X.A (letTemporaryGo value (.ref a) r >>= fun _ => pure r) (EP X pins σ Q) X.xe s₃) X.xe s := by
    rw [hs]
    exact wpAny_operating (d_getItem hu I g ry fun w' s3 I3 rw' => wpAny_bind (wpAny_letTemporaryGo (wpAny_pure ⟨z, H, I3, rw', q⟩)))
  first
    | exact wpAny_pure (wpAny_bind fin)
    | exact wpAny_bind (wpAny_pure (wpAny_bind fin))
    | exact wpAny_bind fin
def rIxA (K : PySem.W.Frag) : R2 := fun x y H Q => rIx K x y H Q ∨ rIxD x y H Q
theorem ix_any {X : Cx} (hu : X.A.units + 1 < cLine) : IxR X (rIxA X.K) := ix_seq.or (ix_dict hu)
def fIx (st : Sto) (v w : Val) : Option Val := match seqOf st v with
  | some xs => match w with
    | .int i => atI xs i
    | _ => none
  | none => match v, w with
    | .str z, .int i => if z.length ≤ sizeLine then (atI z.cps.toList i).map fun c => .str ⟨#[c]⟩ else none
    | v, w => (dGet st v w).bind id
theorem RelVs.atI {T : Tab} {φ : Phi} {H : Hp} {xs : List Val} {us : List V} (r : RelVs T φ H xs us) {i : Int} {z : Val} (h : L2.atI xs i = some z) : ∃ u, L2.atI us i = some u ∧ RelV T φ H z u := by
  unfold L2.atI at *
  rw [← r.length]
  simp only [Option.bind_eq_some_iff] at h ⊢
  obtain ⟨j, e, h⟩ := h
  obtain ⟨u, e2, ru⟩ := r.get h
  exact ⟨u, ⟨j, e, e2⟩, ru⟩
theorem snd_ix {T : Tab} : SndB T (rIxA T.K) fIx := by
  intro φ st H v w z x y Q R r1 r2 hf hq
  unfold fIx at hf
  split at hf
  · rename_i xs hx
    split at hf
    · obtain ⟨a, us, rfl, hs, rv⟩ := rel_seq R r1 hx
      obtain ⟨u, e, ru⟩ := rv.atI hf
      cases r2
      rcases hs with hs | hs
      · exact .inl (.inl ⟨a, us, _, u, rfl, rfl, hs, e, hq H u Ext.refl R ru⟩)
      · exact .inl (.inr (.inl ⟨a, us, _, u, rfl, rfl, hs, e, hq H u Ext.refl R ru⟩))
    · cases hf
  · split at hf
    · split at hf
      · rename_i hz
        simp only [Option.map_eq_some_iff] at hf
        obtain ⟨c, e, rfl⟩ := hf
        cases r1; cases r2
        exact .inl (.inr (.inr ⟨_, _, c, rfl, rfl, hz, e, hq H _ Ext.refl R (.str _)⟩))
      · cases hf
    · simp only [Option.bind_eq_some_iff, id] at hf
      obtain ⟨o, e, rfl⟩ := hf
      obtain ⟨a, r, hx, hg, h⟩ := rel_dget R r1 r2 e
      rcases h with ⟨h, _⟩ | ⟨z', u, h1, h2, ru⟩
      · cases h
      · cases h1
        subst h2
        exact .inr ⟨a, u, hx, hg, hq H u Ext.refl R ru⟩
theorem e_ix {X : Cx} {W : WX} {T : Tab} {a b : Expr} {pos : Pos} {ea eb : E} (hK : T.K = X.K) (hu : X.A.units + 1 < cLine) (ha : PE X a (tE T W ea)) (hb : PE X b (tE T W eb)) (hs : PlainIx b := by intro _ _; rfl) : PE X (.Subscript a b pos) (tE T W (eB fIx ea eb)) :=
  pe_imp (pe_ix (ix_any hu) ha hb hs) fun _ _ _ h => by rw [← hK]; exact bin_sound snd_ix h

def rInDt (neg : Bool) : R2 := fun y x H Q => ∃ a o, x = .ref a ∧ DGet H a y o ∧ Q (.bl (if neg then !o.isSome else o.isSome)) H
theorem op_inDt {X : Cx} (hu : X.A.units + 1 < cLine) : OpR X (compareOp .In) (rInDt false) := by
  intro pins s σ H x y v u Q I rx ry h
  obtain ⟨a, o, rfl, g, q⟩ := h
  obtain rfl : u = Value.ref a := ry
  exact d_in hu I g rx fun s3 I3 => ⟨.bl o.isSome, H, I3, rfl, q⟩
theorem op_notInDt {X : Cx} (hu : X.A.units + 1 < cLine) : OpR X (compareOp .NotIn) (rInDt true) := by
  intro pins s σ H x y v u Q I rx ry h
  obtain ⟨a, o, rfl, g, q⟩ := h
  obtain rfl : u = Value.ref a := ry
  exact d_notIn hu I g rx fun s3 I3 => ⟨.bl (!o.isSome), H, I3, rfl, q⟩
def rInA (K : PySem.W.Frag) : R2 := fun x y H Q => rInD K x y H Q ∨ rIn K false x y H Q ∨ rInDt false x y H Q ∨ (∃ i j, x = .str i ∧ y = .str j ∧ Q (.bl (!(Builtin.Str.occurrences j i 0 j.length 1).isEmpty)) H)
def rNotInA (K : PySem.W.Frag) : R2 := fun x y H Q => rNotInD K x y H Q ∨ rIn K true x y H Q ∨ rInDt true x y H Q ∨ (∃ i j, x = .str i ∧ y = .str j ∧ Q (.bl (!(!(Builtin.Str.occurrences j i 0 j.length 1).isEmpty))) H)
theorem op_inA {X : Cx} (hu : X.A.units + 65 < cLine) : OpR X (compareOp .In) (rInA X.K) := (op_inD hu).or (op_in_seq.or ((op_inDt (by omega)).or op_in_str))
theorem op_notInA {X : Cx} (hu : X.A.units + 65 < cLine) : OpR X (compareOp .NotIn) (rNotInA X.K) := (op_notInD hu).or (op_notIn_seq.or ((op_notInDt (by omega)).or op_notin_str))
/-- a flat value -/
def flV : Val → Option V
  | .non => some .non
  | .bl b => some (.bl b)
  | .int i => some (.int i)
  | .str s => some (.str s)
  | _ => none
def flVs : List Val → Option (List V)
  | [] => some []
  | x :: xs => match flV x, flVs xs with
    | some k, some ks => some (k :: ks)
    | _, _ => none
theorem rel_fl {T : Tab} {φ : Phi} {H : Hp} {v : Val} {x u : V} (r : RelV T φ H v x) (h : flV v = some u) : x = u ∧ flatV x = true := by
  cases r <;> cases h <;> exact ⟨rfl, rfl⟩
theorem rel_fls {T : Tab} {φ : Phi} {H : Hp} : ∀ {vs : List Val} {xs us : List V}, RelVs T φ H vs xs → flVs vs = some us → xs = us ∧ xs.all flatV = true
  | _, _, _, .nil, h => by cases h; exact ⟨rfl, rfl⟩
  | _, _, _, .cons a b, h => by
    rw [flVs] at h
    split at h
    · rename_i k ks e1 e2
      cases h
      obtain ⟨h1, h2⟩ := rel_fl a e1
      obtain ⟨h3, h4⟩ := rel_fls b e2
      rw [h1, h3]
      exact ⟨rfl, by rw [List.all_cons, ← h1, ← h3, h2, h4]; rfl⟩
    · cases h
/-- whether v is in w -/
def isIn (st : Sto) (v w : Val) : Option Bool := match w with
  | .str j => match v with
    | .str i => some (!(Builtin.Str.occurrences j i 0 j.length 1).isEmpty)
    | _ => none
  | .tup ys => match flV v, flVs ys with
    | some x, some us => some (inV x us)
    | _, _ => none
  | w => match lstOf st w with
    | some ys => match toD (dr st v), toDs ys with
      | some d, some ds => if SeqAt.shaped d && SeqAt.shaped (.list ds) then some (ds.any fun z => PyData.eqv z d) else none
      | _, _ => none
    | none => (dGet st w v).map Option.isSome
def fIn (st : Sto) (v w : Val) : Option Val := (isIn st v w).map .bl
def fNotIn (st : Sto) (v w : Val) : Option Val := (isIn st v w).map fun b => .bl (!b)
theorem snd_isIn {T : Tab} {φ : Phi} {st : Sto} {H : Hp} {v w : Val} {x y : V} {b : Bool} (R : Rst T φ st H) (r1 : RelV T φ H v x) (r2 : RelV T φ H w y) (hf : isIn st v w = some b) :
    (∃ d ds, Dp T.K H x d ∧ Dp T.K H y (.list ds) ∧ SeqAt.shaped d = true ∧ SeqAt.shaped (.list ds) = true ∧ b = ds.any fun z => PyData.eqv z d) ∨
    (∃ p xs, y = .ref p ∧ (SqL T.K H p xs ∨ SqT T.K H p xs) ∧ flatV x = true ∧ xs.all flatV = true ∧ b = inV x xs) ∨ (∃ a o, y = .ref a ∧ DGet H a x o ∧ b = o.isSome) ∨
    ∃ i j, x = .str i ∧ y = .str j ∧ b = !(Builtin.Str.occurrences j i 0 j.length 1).isEmpty := by
  unfold isIn at hf
  split at hf
  · split at hf
    · cases hf; cases r1; cases r2
      exact .inr (.inr (.inr ⟨_, _, rfl, rfl, rfl⟩))
    · cases hf
  · split at hf
    · rename_i h1 h2
      cases hf
      cases r2 with
      | tup a2 b2 =>
        obtain ⟨e1, e2⟩ := rel_fl r1 h1
        obtain ⟨e3, e4⟩ := rel_fls b2 h2
        subst e1 e3
        exact .inr (.inl ⟨_, _, rfl, .inr (SqT.of a2), e2, e4, rfl⟩)
    · cases hf
  · split at hf
    · rename_i ys hy
      split at hf
      · rename_i d ds h1 h2
        split at hf
        · rename_i hs
          cases hf
          rw [Bool.and_eq_true] at hs
          obtain ⟨a, us, rfl, q1, q2⟩ := rel_lst R r2 hy
          exact .inl ⟨d, ds, rel_dr R r1 h1, .lst q1 (rel_dps q2 h2), hs.1, hs.2, rfl⟩
        · cases hf
      · cases hf
    · simp only [Option.map_eq_some_iff] at hf
      obtain ⟨o, e, rfl⟩ := hf
      obtain ⟨a, r, hx, hg, h⟩ := rel_dget R r2 r1 e
      refine .inr (.inr (.inl ⟨a, r, hx, hg, ?_⟩))
      rcases h with ⟨rfl, rfl⟩ | ⟨z', u, rfl, rfl, ru⟩ <;> rfl
theorem snd_in {T : Tab} : SndB T (rInA T.K) fIn := by
  intro φ st H v w z x y Q R r1 r2 hf hq
  unfold fIn at hf
  simp only [Option.map_eq_some_iff] at hf
  obtain ⟨b, e, rfl⟩ := hf
  have q := hq H (.bl b) Ext.refl R (.bl b)
  rcases snd_isIn R r1 r2 e with ⟨d, ds, h1, h2, h3, h4, rfl⟩ | ⟨p, xs, h1, h2, h3, h4, rfl⟩ | ⟨a, o, h1, h2, rfl⟩ | ⟨i, j, h1, h2, rfl⟩
  · exact .inl ⟨d, ds, h1, h2, h3, h4, q⟩
  · exact .inr (.inl ⟨p, xs, h1, h2, h3, h4, q⟩)
  · exact .inr (.inr (.inl ⟨a, o, h1, h2, q⟩))
  · exact .inr (.inr (.inr ⟨i, j, h1, h2, q⟩))
theorem snd_notIn {T : Tab} : SndB T (rNotInA T.K) fNotIn := by
  intro φ st H v w z x y Q R r1 r2 hf hq
  unfold fNotIn at hf
  simp only [Option.map_eq_some_iff] at hf
  obtain ⟨b, e, rfl⟩ := hf
  have q := hq H (.bl (!b)) Ext.refl R (.bl (!b))
  rcases snd_isIn R r1 r2 e with ⟨d, ds, h1, h2, h3, h4, rfl⟩ | ⟨p, xs, h1, h2, h3, h4, rfl⟩ | ⟨a, o, h1, h2, rfl⟩ | ⟨i, j, h1, h2, rfl⟩
  · exact .inl ⟨d, ds, h1, h2, h3, h4, q⟩
  · exact .inr (.inl ⟨p, xs, h1, h2, h3, h4, q⟩)
  · exact .inr (.inr (.inl ⟨a, o, h1, h2, q⟩))
  · exact .inr (.inr (.inr ⟨i, j, h1, h2, q⟩))

def fIs (_ : Sto) (v w : Val) : Option Val := match v, w with
  | .non, .non => some (.bl true)
  | .loc _, .non => none
  | _, .non => some (.bl false)
  | .bl a, .bl b => some (.bl (decide (a = b)))
  | _, _ => none
def fIsNot (_ : Sto) (v w : Val) : Option Val := match v, w with
  | .non, .non => some (.bl false)
  | .loc _, .non => none
  | _, .non => some (.bl true)
  | .bl a, .bl b => some (.bl (!decide (a = b)))
  | _, _ => none
def rIsA : R2 := fun x y H Q => (y = .non ∧ Q (.bl (decide (x = .non))) H) ∨ (∃ a b, x = .bl a ∧ y = .bl b ∧ Q (.bl (decide (a = b))) H)
def rIsNotA : R2 := fun x y H Q => (y = .non ∧ Q (.bl (!decide (x = .non))) H) ∨ (∃ a b, x = .bl a ∧ y = .bl b ∧ Q (.bl (!decide (a = b))) H)
theorem op_isA {X : Cx} : OpR X (compareOp .Is) rIsA := op_isN.or L2.op_is_bl
theorem op_isNotA {X : Cx} : OpR X (compareOp .IsNot) rIsNotA := op_notN.or L2.op_isnot_bl
end Ev

set_option Elab.async false
set_option linter.all false
set_option maxRecDepth 100000
set_option maxHeartbeats 2000000
namespace Ev
open PySem PySem.Spec PyProof.Rows L2

inductive SR where
  | nx (ρ : Env) (st : Sto)
  | rt (v : Val) (st : Sto)
  | bk (ρ : Env) (st : Sto)
  | ct (ρ : Env) (st : Sto)
  | ex (x : Val) (ρ : Env) (st : Sto)
  | bad
abbrev S := Env → Sto → SR
abbrev G := Val → Env → Sto → Option (Env × Sto)
abbrev GS := List Val → Env → Sto → Option (Env × Sto)

def PostS (T : Tab) (W : WX) (φ : Phi) (H : Hp) (D : Ends) : SR → Prop
  | .nx ρ st => ∀ φ' H' σ', Ext φ H φ' H' → RelE T φ' ρ st σ' H' → D.nx σ' H'
  | .bk ρ st => ∀ φ' H' σ', Ext φ H φ' H' → RelE T φ' ρ st σ' H' → D.bk σ' H'
  | .ct ρ st => ∀ φ' H' σ', Ext φ H φ' H' → RelE T φ' ρ st σ' H' → D.ct σ' H'
  | .rt v st => ∀ φ' H' u, Ext φ H φ' H' → Rst T φ' st H' → RelV T φ' H' v u → D.rt u H'
  | .ex x ρ st => ∀ φ' H' σ' c d, Ext φ H φ' H' → RelE T φ' ρ st σ' H' → RelX T φ' H' x c d → W c d σ' H'
  | .bad => False
def tS (T : Tab) (W : WX) (s : S) : TS := fun D σ H => ∃ φ ρ st, RelE T φ ρ st σ H ∧ PostS T W φ H D (s ρ st)
def PostGt (T : Tab) (φ : Phi) (H : Hp) (Q : L2.St → Hp → Prop) : Option (Env × Sto) → Prop
  | some (ρ, st) => ∀ φ' H' σ', Ext φ H φ' H' → RelE T φ' ρ st σ' H' → Q σ' H'
  | none => False
def tGt (T : Tab) (g : G) : TG := fun v σ H Q => ∃ φ ρ st w, RelE T φ ρ st σ H ∧ RelV T φ H w v ∧ PostGt T φ H Q (g w ρ st)
def tGs (T : Tab) (g : GS) : TGs := fun vs σ H Q => ∃ φ ρ st ws, RelE T φ ρ st σ H ∧ RelVs T φ H ws vs ∧ PostGt T φ H Q (g ws ρ st)

section
variable {T : Tab} {φ φ' : Phi} {ρ : Env} {st st' : Sto} {σ : L2.St} {H H' : Hp} {W : WX}
theorem PostS.later {D : Ends} {r : SR} (p : PostS T W φ H D r) (e : Ext φ H φ' H') : PostS T W φ' H' D r := by
  cases r with
  | nx ρ st => exact fun φ2 H2 σ2 e2 re => p φ2 H2 σ2 (e.trans e2) re
  | bk ρ st => exact fun φ2 H2 σ2 e2 re => p φ2 H2 σ2 (e.trans e2) re
  | ct ρ st => exact fun φ2 H2 σ2 e2 re => p φ2 H2 σ2 (e.trans e2) re
  | rt v st => exact fun φ2 H2 u e2 s q => p φ2 H2 u (e.trans e2) s q
  | ex x ρ st => exact fun φ2 H2 σ2 c d e2 re q => p φ2 H2 σ2 c d (e.trans e2) re q
  | bad => exact p
theorem PostGt.later {Q : L2.St → Hp → Prop} {r : Option (Env × Sto)} (p : PostGt T φ H Q r) (e : Ext φ H φ' H') : PostGt T φ' H' Q r := by
  cases r with
  | none => exact p
  | some r => exact fun φ2 H2 σ2 e2 re => p φ2 H2 σ2 (e.trans e2) re
theorem RelE.set (r : RelE T φ ρ st σ H) {v : Val} {u : V} (q : RelV T φ H v u) (i : Nat) : RelE T φ (ρ.set i (some v)) st (σ.set i (some u)) H where
  rst := r.rst
  len := by simp [r.len]
  get := fun j w h => by
    by_cases e : i = j
    · subst e
      by_cases hl : i < ρ.length
      · rw [List.getElem?_set_self hl] at h
        cases h
        exact ⟨u, List.getElem?_set_self (by rw [← r.len]; exact hl), q⟩
      · rw [List.getElem?_eq_none (by simpa using hl)] at h; cases h
    · rw [List.getElem?_set_ne e] at h
      obtain ⟨x, h1, h2⟩ := r.get j w h
      exact ⟨x, by rw [List.getElem?_set_ne e]; exact h1, h2⟩
end

section
variable {X : Cx} {T : Tab} {W : WX}
theorem ps_imp {s : Stmt} {t t' : TS} (h : PS X s t) (k : ∀ D σ H, t' D σ H → t D σ H) : PS X s t' := ⟨fun pins s σ H D I q => h.run pins s σ H D I (k _ _ _ q)⟩
theorem pss_imp {s : List Stmt} {t t' : TS} (h : PSs X s t) (k : ∀ D σ H, t' D σ H → t D σ H) : PSs X s t' := ⟨fun pins s σ H D I q => h.run pins s σ H D I (k _ _ _ q)⟩
theorem pg_imp {s : Expr} {t t' : TG} (h : PG X s t) (k : ∀ v σ H Q, t' v σ H Q → t v σ H Q) : PG X s t' := ⟨fun pins s σ H v u Q I r q => h.run pins s σ H v u Q I r (k _ _ _ _ q)⟩
theorem pgs_imp {s : List Expr} {t t' : TGs} (h : PGs X s t) (k : ∀ v σ H Q, t' v σ H Q → t v σ H Q) : PGs X s t' := ⟨fun pins s σ H v u Q I r q => h.run pins s σ H v u Q I r (k _ _ _ _ q)⟩

def gN (i : Nat) : G := fun v ρ st => some (ρ.set i (some v), st)
theorem g_name {i : Nat} {x : Str} {pos : Pos} (hN : X.N.Nodup) (hi : X.N[i]? = some x := by rfl) (hx : Loc X.env.scope x := by first | exact Or.inl rfl | exact Or.inr rfl) (hf : X.fn x = true ∨ X.env.scope.names.lookup x = some .local := by first | exact .inl rfl | exact .inr rfl | assumption) :
    PG X (.Name x pos) (tGt T (gN i)) := by
  refine pg_imp (pg_name (i := i) hN hi hx hf) fun v σ H Q h => ?_
  obtain ⟨φ, ρ, st, w, re, r, p⟩ := h
  exact p φ H _ Ext.refl (re.set r i)
def gNil' : GS := fun vs ρ st => match vs with
  | [] => some (ρ, st)
  | _ => none
def gCons' (g : G) (gs : GS) : GS := fun vs ρ st => match vs with
  | v :: r => match g v ρ st with
    | some (ρ1, st1) => gs r ρ1 st1
    | none => none
  | [] => none
theorem gs_nil : PGs X [] (tGs T gNil') := by
  refine pgs_imp pgs_nil fun v σ H Q h => ?_
  obtain ⟨φ, ρ, st, ws, re, r, p⟩ := h
  cases r with
  | nil => exact ⟨rfl, p φ H σ Ext.refl re⟩
  | cons a b => exact p.elim
theorem gs_cons {e : Expr} {es : List Expr} {g : G} {gs : GS} (h1 : PG X e (tGt T g)) (h2 : PGs X es (tGs T gs))
    (hs : (assignEach (e :: es) X.env).map (·.2) = assign e X.env :: (assignEach es X.env).map (·.2) := by rfl) : PGs X (e :: es) (tGs T (gCons' g gs)) := by
  refine pgs_imp (pgs_cons h1 h2 hs) fun v σ H Q h => ?_
  obtain ⟨φ, ρ, st, ws, re, r, p⟩ := h
  cases r with
  | nil => exact p.elim
  | cons a b =>
    rename_i w u ws us
    refine ⟨u, us, rfl, φ, ρ, st, w, re, a, ?_⟩
    unfold gCons' at p
    dsimp only at p
    cases hg : g w ρ st with
    | none => rw [hg] at p; exact p.elim
    | some q =>
      obtain ⟨ρ1, st1⟩ := q
      rw [hg] at p
      exact fun φ1 H1 σ1 e1 re1 => ⟨φ1, ρ1, st1, ws, re1, b.ext e1, PostGt.later p e1⟩
def gT (n : Nat) (gs : GS) : G := fun v ρ st => match v with
  | .tup xs => if xs.length = n then gs xs ρ st else none
  | _ => none
theorem g_tup {es : List Expr} {k : Nat} {pos : Pos} {gs : GS} {n : Nat} (hK : T.K = X.K) (hc : X.calm = true) (h : PGs X es (tGs T gs))
    (hn : (assignEach es X.env).length = n := by rfl) (hst : (assignEach es X.env).findIdx? (·.1) = none := by rfl) : PG X (.Tuple es k pos) (tGt T (gT n gs)) := by
  refine pg_imp (pg_tup hc h hn hst) fun v σ H Q h => ?_
  obtain ⟨φ, ρ, st, w, re, r, p⟩ := h
  unfold gT at p
  cases r with
  | tup a b =>
    dsimp only at p
    split at p
    · rename_i hl
      exact ⟨_, _, rfl, SqT.of a, by rw [← b.length]; exact hl, φ, ρ, st, _, re, b, p⟩
    · exact p.elim
  | _ => exact p.elim

/-- the store behind v[w] = z -/
def fSet (st : Sto) (v w z : Val) : Option Sto := match v with
  | .loc n => match st[n]? with
    | some (.lst xs) => match w with
      | .int k => (ixN xs.length k).map fun j => st.set n (.lst (xs.set j z))
      | _ => none
    | some (.dK kvs) => if kvs.length < sizeLine then (keyOf w).map fun k => st.set n (.dK (put kvs k z)) else none
    | some (.dT kvs) => if kvs.length < sizeLine then (tupOf w).bind fun xs => (keysOf xs).map fun k => st.set n (.dT (put kvs k z)) else none
    | _ => none
  | _ => none
def rSetA : TSet := fun o i v H Q => rSetL o i v H Q ∨ ∃ a H4, o = .ref a ∧ DPut H a i v H4 ∧ Q H4
theorem set_any (hu : X.A.units + 1 < cLine) : PSet X rSetA := by
  intro pins s σ H o i v ov iv u Q I ro ri rv h
  rcases h with h | ⟨a, H4, rfl, g, q⟩
  · exact set_list pins s σ H o i v ov iv u Q I ro ri rv h
  · obtain rfl : ov = Value.ref a := ro
    exact d_setItem hu I g ri rv fun s4 I4 => ⟨H4, I4, q⟩
theorem Paired.length_eq {α β : Type} {F : α → β → Prop} {l₁ : List α} {l₂ : List β} (h : Paired F l₁ l₂) : l₁.length = l₂.length := Paired.length h
theorem snd_set {φ : Phi} {st st' : Sto} {H : Hp} {v w z : Val} {x y u : V} {Q : Hp → Prop} (R : Rst T φ st H) (r1 : RelV T φ H v x) (r2 : RelV T φ H w y) (r3 : RelV T φ H z u) (hf : fSet st v w z = some st')
    (hq : ∀ H', Ext φ H φ H' → Rst T φ st' H' → Q H') : rSetA x y u H Q := by
  unfold fSet at hf
  split at hf
  · rename_i n
    cases r1 with
    | loc hn hu =>
      split at hf
      · rename_i xs e
        split at hf
        · rename_i k
          cases r2
          simp only [Option.map_eq_some_iff] at hf
          obtain ⟨j, ej, rfl⟩ := hf
          obtain ⟨a, e1, us, e2, e3⟩ := R.at e (by simp)
          have ext := Ext.write (ho := .lst (us.set j u)) R e1
          exact .inl ⟨a, us, k, j, hu a e1, rfl, e2, by rw [← e3.length]; exact ej, hq _ ext (R.write e1 ⟨_, upd_same, (e3.set r3 j).ext ext⟩)⟩
        · cases hf
      · rename_i kvs e
        split at hf
        · rename_i hz
          simp only [Option.map_eq_some_iff] at hf
          obtain ⟨k, ek, rfl⟩ := hf
          obtain ⟨a, e1, us, e2, e3⟩ := R.at e (by simp)
          have ext := Ext.write (ho := .dK (putK us k u)) R e1
          exact .inr ⟨a, _, hu a e1, .inl ⟨us, k, e2, rel_key r2 ek, by rw [← Paired.length_eq e3]; exact hz, rfl⟩, hq _ ext (R.write e1 ⟨_, upd_same, (rel_put e3 k r3).ext ext⟩)⟩
        · cases hf
      · rename_i kvs e
        split at hf
        · rename_i hz
          simp only [Option.bind_eq_some_iff, Option.map_eq_some_iff] at hf
          obtain ⟨xs, ex, k, ek, rfl⟩ := hf
          obtain ⟨a, e1, us, e2, e3⟩ := R.at e (by simp)
          obtain ⟨b, ws, hy, hb, rv⟩ := rel_tup r2 ex
          have ext := Ext.write (ho := .dT (putK us k u)) R e1
          exact .inr ⟨a, _, hu a e1, .inr ⟨us, k, b, e2, hy, by rw [hb, rel_keys rv ek], by rw [← Paired.length_eq e3]; exact hz, rfl⟩, hq _ ext (R.write e1 ⟨_, upd_same, (rel_put e3 k r3).ext ext⟩)⟩
        · cases hf
      · cases hf
  · cases hf
def gIx (o i : E) : G := fun v ρ st => match o ρ st with
  | .ok w st1 => match i ρ st1 with
    | .ok k st2 => (fSet st2 w k v).map fun st3 => (ρ, st3)
    | _ => none
  | _ => none
theorem g_sub {o i : Expr} {pos : Pos} {eo ei : E} (hu : X.A.units + 1 < cLine) (ho : PE X o (tE T W eo)) (hi : PE X i (tE T W ei))
    (ha : ∀ v, assign (.Subscript o i pos) X.env v = (do
      let ov ← holding [v] (eval o X.env)
      let iv ← holding [v, ov] (eval i X.env)
      standAt pos
      holding [v, ov, iv] (setItem ov iv v)
      release [v, ov, iv] []) := by intro _; rfl) : PG X (.Subscript o i pos) (tGt T (gIx eo ei)) := by
  refine pg_imp (pg_sub ho hi (set_any hu) ha) fun v σ H Q h => ?_
  obtain ⟨φ, ρ, st, w, re, r, p⟩ := h
  refine ⟨φ, ρ, st, re, ?_⟩
  unfold gIx at p
  cases h1 : eo ρ st with
  | ex x st1 => rw [h1] at p; exact p.elim
  | bad => rw [h1] at p; exact p.elim
  | ok z st1 =>
    rw [h1] at p
    dsimp only at p
    intro φ1 H1 a e1 s1 q1
    refine ⟨φ1, ρ, st1, re.ext e1 s1, ?_⟩
    cases h2 : ei ρ st1 with
    | ex x st2 => rw [h2] at p; exact p.elim
    | bad => rw [h2] at p; exact p.elim
    | ok k st2 =>
      rw [h2] at p
      dsimp only at p
      intro φ2 H2 b e2 s2 q2
      cases h3 : fSet st2 z k w with
      | none => rw [h3] at p; exact p.elim
      | some st3 =>
        rw [h3] at p
        refine snd_set s2 (q1.ext e2) q2 (r.ext (e1.trans e2)) h3 fun H3 e3 s3 => ?_
        exact p φ2 H3 σ ((e1.trans e2).trans e3) (re.ext ((e1.trans e2).trans e3) s3)

def sSkip : S := fun ρ st => .nx ρ st
def sSeq (a b : S) : S := fun ρ st => match a ρ st with
  | .nx ρ1 st1 => b ρ1 st1
  | r => r
theorem ss_nil : PSs X [] (tS T W sSkip) := by
  refine pss_imp pss_nil fun D σ H h => ?_
  obtain ⟨φ, ρ, st, re, p⟩ := h
  exact p φ H σ Ext.refl re
theorem seq_sound {a b : S} {u : TS} {D : Ends} {σ : L2.St} {H : Hp} (h : tS T W (sSeq a b) D σ H) (k : ∀ σ' H', tS T W b D σ' H' → u D σ' H') : tS T W a { D with nx := u D } σ H := by
  obtain ⟨φ, ρ, st, re, p⟩ := h
  refine ⟨φ, ρ, st, re, ?_⟩
  unfold sSeq at p
  cases ha : a ρ st with
  | nx ρ1 st1 =>
    rw [ha] at p
    exact fun φ1 H1 σ1 e1 re1 => k σ1 H1 ⟨φ1, ρ1, st1, re1, PostS.later p e1⟩
  | rt v st1 => rw [ha] at p; exact p
  | bk ρ1 st1 => rw [ha] at p; exact p
  | ct ρ1 st1 => rw [ha] at p; exact p
  | ex x ρ1 st1 => rw [ha] at p; exact p
  | bad => rw [ha] at p; exact p
theorem ss_cons {s : Stmt} {rest : List Stmt} {a b : S} (h1 : PS X s (tS T W a)) (h2 : PSs X rest (tS T W b)) : PSs X (s :: rest) (tS T W (sSeq a b)) :=
  pss_imp (pss_cons h1 h2) fun D σ H h => seq_sound h fun _ _ q => q
theorem ss_one {s : Stmt} {a : S} (h1 : PS X s (tS T W a)) : PSs X [s] (tS T W a) := pss_one h1
theorem s_pass {pos : Pos} : PS X (.Pass pos) (tS T W sSkip) := by
  refine ps_imp ps_pass fun D σ H h => ?_
  obtain ⟨φ, ρ, st, re, p⟩ := h
  exact p φ H σ Ext.refl re
theorem s_doc {x j pos pos'} : PS X (.Expr (.Constant (.str x) j pos) pos') (tS T W sSkip) := by
  refine ps_imp ps_doc fun D σ H h => ?_
  obtain ⟨φ, ρ, st, re, p⟩ := h
  exact p φ H σ Ext.refl re
def sBreak : S := fun ρ st => .bk ρ st
def sCont : S := fun ρ st => .ct ρ st
theorem s_break {pos : Pos} : PS X (.Break pos) (tS T W sBreak) := by
  refine ps_imp ps_break fun D σ H h => ?_
  obtain ⟨φ, ρ, st, re, p⟩ := h
  exact p φ H σ Ext.refl re
theorem s_cont {pos : Pos} : PS X (.Continue pos) (tS T W sCont) := by
  refine ps_imp ps_continue fun D σ H h => ?_
  obtain ⟨φ, ρ, st, re, p⟩ := h
  exact p φ H σ Ext.refl re
/-- behind an expression -/
def bindS {α : Type} (r : Res α) (ρ : Env) (f : α → Sto → SR) : SR := match r with
  | .ok v st => f v st
  | .ex x st => .ex x ρ st
  | .bad => .bad
theorem tS_bind {α β : Type} {R : Phi → Hp → α → β → Prop} {e : Env → Sto → Res α} {f : Env → α → Sto → SR} {D : Ends} {σ : L2.St} {H : Hp} {Q1 : β → Hp → Prop} (h : tS T W (fun ρ st => bindS (e ρ st) ρ (f ρ)) D σ H)
    (k : ∀ v ρ st1 φ1 H1 u, RelE T φ1 ρ st1 σ H1 → R φ1 H1 v u → PostS T W φ1 H1 D (f ρ v st1) → Q1 u H1) : tG T R W e σ H Q1 := by
  obtain ⟨φ, ρ, st, re, p⟩ := h
  refine ⟨φ, ρ, st, re, ?_⟩
  dsimp only at p
  cases he : e ρ st with
  | ok v st1 =>
    rw [he] at p
    exact fun φ1 H1 u e1 s1 q1 => k v ρ st1 φ1 H1 u (re.ext e1 s1) q1 (PostS.later p e1)
  | ex x st1 =>
    rw [he] at p
    exact fun φ1 H1 c d e1 s1 q1 => p φ1 H1 σ c d e1 (re.ext e1 s1) q1
  | bad => rw [he] at p; exact p
def sExpr (e : E) : S := fun ρ st => bindS (e ρ st) ρ fun _ st1 => .nx ρ st1
theorem s_expr {e : Expr} {pos : Pos} {ee : E} (he : PE X e (tE T W ee)) (hs : swapsWith e none pos.line X.env = pure false := by rfl) : PS X (.Expr e pos) (tS T W (sExpr ee)) := by
  refine ps_imp (ps_expr he hs) fun D σ H h => ?_
  exact tS_bind h fun v ρ st1 φ1 H1 u re1 _ p1 => p1 φ1 H1 σ Ext.refl re1
def sRet (e : E) : S := fun ρ st => bindS (e ρ st) ρ fun v st1 => .rt v st1
theorem s_ret {e : Expr} {pos : Pos} {ee : E} (he : PE X e (tE T W ee)) : PS X (.Return (some e) pos) (tS T W (sRet ee)) := by
  refine ps_imp (ps_ret he) fun D σ H h => ?_
  exact tS_bind h fun v ρ st1 φ1 H1 u re1 q1 p1 => p1 φ1 H1 u Ext.refl re1.rst q1
def sRetN : S := fun _ st => .rt .non st
theorem s_retN {pos : Pos} : PS X (.Return none pos) (tS T W sRetN) := by
  refine ps_imp ps_retN fun D σ H h => ?_
  obtain ⟨φ, ρ, st, re, p⟩ := h
  exact p φ H .non Ext.refl re.rst .non
def sIf (t : ET) (a b : S) : S := fun ρ st => bindS (t ρ st) ρ fun c st1 => if c = true then a ρ st1 else b ρ st1
theorem s_if {c : Expr} {a b : List Stmt} {pos : Pos} {t : ET} {sa sb : S} (hc : PT X c (tT T W t)) (ha : PSs X a (tS T W sa)) (hb : PSs X b (tS T W sb)) : PS X (.If c a b pos) (tS T W (sIf t sa sb)) := by
  refine ps_imp (ps_if hc ha hb) fun D σ H h => ?_
  refine tS_bind h fun v ρ st1 φ1 H1 u re1 q1 p1 => ?_
  subst q1
  cases v with
  | true => exact iteT ⟨φ1, ρ, st1, re1, p1⟩
  | false => exact iteF ⟨φ1, ρ, st1, re1, p1⟩
def sSet (i : Nat) (e : E) : S := fun ρ st => bindS (e ρ st) ρ fun v st1 => .nx (ρ.set i (some v)) st1
theorem s_set {i : Nat} {x : Str} {e : Expr} {pos pos' : Pos} {ee : E} (hN : X.N.Nodup) (he : PE X e (tE T W ee)) (hi : X.N[i]? = some x := by rfl) (hx : Loc X.env.scope x := by first | exact Or.inl rfl | exact Or.inr rfl) (hs : swapsWith e (some (.Name x pos')) pos.line X.env = pure false := by rfl)
    (hf : X.fn x = true ∨ X.env.scope.names.lookup x = some .local := by first | exact .inl rfl | exact .inr rfl | assumption) : PS X (.Assign [.Name x pos'] e pos) (tS T W (sSet i ee)) := by
  refine ps_imp (ps_set hN hi hx he hs hf) fun D σ H h => ?_
  exact tS_bind h fun v ρ st1 φ1 H1 u re1 q1 p1 => p1 φ1 H1 _ Ext.refl (re1.set q1 i)
/-- target = value -/
def sAsg (g : G) (e : E) : S := fun ρ st => bindS (e ρ st) ρ fun v st1 => match g v ρ st1 with
  | some (ρ2, st2) => .nx ρ2 st2
  | none => .bad
theorem postGt_of {D : Ends} {φ : Phi} {H : Hp} {r : Option (Env × Sto)} (p : PostS T W φ H D (match r with | some (ρ2, st2) => .nx ρ2 st2 | none => .bad)) : PostGt T φ H D.nx r := by
  cases r with
  | none => exact p
  | some q => exact p
theorem s_asg {tg e : Expr} {pos : Pos} {ee : E} {g : G} (he : PE X e (tE T W ee)) (hg : PG X tg (tGt T g)) (hs : swapsWithSole [tg] e pos.line X.env = pure false := by rfl) (hw : swappedStores [tg] e X.env = pure none := by rfl)
    (h1 : (assignEach [tg] X.env).map (·.2) = [assign tg X.env] := by rfl) : PS X (.Assign [tg] e pos) (tS T W (sAsg g ee)) := by
  refine ps_imp (ps_asg he hg hs hw h1) fun D σ H h => ?_
  exact tS_bind h fun v ρ st1 φ1 H1 u re1 q1 p1 => ⟨φ1, ρ, st1, v, re1, q1, postGt_of p1⟩
/-- a, b = x, y -/
def sPar (i j : Nat) (a : EA) : S := fun ρ st => bindS (a ρ st) ρ fun vs st1 => match vs with
  | [v, w] => .nx ((ρ.set i (some v)).set j (some w)) st1
  | _ => .bad
theorem s_par {i j : Nat} {x y : Str} {a b : Expr} {ta : EA} {px py pt pos : Pos} {kt k2 pt2} (hc : X.calm = true) (hN : X.N.Nodup) (ha : PA X [a, b] (tA T W ta)) (hi : X.N[i]? = some x := by rfl) (hj : X.N[j]? = some y := by rfl) (hij : i ≠ j := by decide)
    (hx : X.env.scope.names.lookup x = some .local := by rfl) (hy : X.env.scope.names.lookup y = some .local := by rfl)
    (hw : swappedStores [.Tuple [.Name x px, .Name y py] kt pt] (.Tuple [a, b] k2 pt2) X.env = pure (some [x, y]) := by rfl)
    (hs : swapsWithSole [.Tuple [.Name x px, .Name y py] kt pt] (.Tuple [a, b] k2 pt2) pos.line X.env = pure false := by rfl) :
    PS X (.Assign [.Tuple [.Name x px, .Name y py] kt pt] (.Tuple [a, b] k2 pt2) pos) (tS T W (sPar i j ta)) := by
  refine ps_imp (ps_par hc hN hi hj hij hx hy ha hw hs) fun D σ H h => ?_
  refine tS_bind h fun vs ρ st1 φ1 H1 us re1 q1 p1 => ?_
  split at p1
  · cases q1 with
    | cons a1 b1 =>
      cases b1 with
      | cons a2 b2 =>
        cases b2
        exact ⟨_, _, rfl, p1 φ1 H1 _ Ext.refl ((re1.set a1 i).set a2 j)⟩
  · exact p1.elim
end
end Ev

set_option Elab.async false
set_option linter.all false
set_option maxRecDepth 100000
set_option maxHeartbeats 4000000
namespace Ev
open PySem PySem.Spec PyProof.Rows L2

theorem meets_enum_new {v : Value} {o : Obj} {H : Heap → Prop} (B : Begins v o H) :
    Meets (Builtin.«enumerate.__new__» ⟨[.type "enumerate", v], []⟩) (fun _ R s => H s.heap ∧
      R (.ok (.ret (.ref (s.heap.push o).objs.size))) { s with heap := (s.heap.push o).push { cls := .type "enumerate", data := .fields #[.none, .bool false, .ref s.heap.objs.size, rawInt 0, .none, .none] } }) :=
  .of_wp fun prog w A R s h => by
    obtain ⟨hp, g, d, tk, os⟩ := s; obtain ⟨h1, h⟩ := h
    have hsub := sub_enumerate
    have q1 : ∀ {A' : Around} {E : Value → Shared → Prop} {Q : Value → Shared → Prop}, Q (.ref hp.objs.size) ⟨hp.push o, g, d, tk, os⟩ → wpAny (model prog w) A' (pyIter v) Q E ⟨hp, g, d, tk, os⟩ :=
      fun q => B.iter prog w _ _ ⟨hp, g, d, tk, os⟩ _ h1 q
    wp_walk using q1
    refine wpAny_stack_any fun st => wpAny_pure ?_
    split
    · rename_i c _ _ _ _ _
      cases (c == Value.type "enumerate")
      · wp_walk using q1
        exact ⟨_, rfl, h⟩
      · wp_walk using q1
        exact ⟨_, rfl, h⟩
    · wp_walk using q1
      exact ⟨_, rfl, h⟩
theorem call_enum {prog : Program} {w : World} {A : Around} {E : Value → Shared → Prop} {s : Shared} {v : Value} {o : Obj} {H : Heap → Prop} {Q : Value → Shared → Prop} (B : Begins v o H) (h1 : H s.heap)
    (h : ∀ h', IsEnum h' (s.heap.objs.size + 1) s.heap.objs.size 0 .none → h'.get? s.heap.objs.size = some o → h'.objs.size = s.heap.objs.size + 2 →
      (∀ b o, s.heap.get? b = some o → h'.get? b = some o) → Q (.ref (s.heap.objs.size + 1)) { s with heap := h' }) :
    wpAny (model prog w) A (call (.type "enumerate") [v]) Q E s := by
  refine callType_new F.called_enumerate (by decide) (F.typeCall_enumerate_1 _) (F.newCall_enumerate_1 _) (fun obj => F.args_object_init_2 obj _) F.entry_enumerate_new
    (meets_enum_new B) ⟨h1, ?_⟩
  have hz : (s.heap.push o).objs.size = s.heap.objs.size + 1 := Heap.size_push ..
  show _ ∧ _
  rw [hz]
  have he : IsEnum ((s.heap.push o).push { cls := .type "enumerate", data := .fields #[.none, .bool false, .ref s.heap.objs.size, rawInt 0, .none, .none] }) (s.heap.objs.size + 1) s.heap.objs.size 0 .none := by
    have := Heap.get?_push_size (s.heap.push o) (o := { cls := .type "enumerate", data := .fields #[.none, .bool false, .ref s.heap.objs.size, rawInt 0, .none, .none] }) rfl
    rw [hz] at this; exact this
  exact ⟨⟨_, he, rfl⟩, h _ he (Heap.get?_push_of_some _ (Heap.get?_push_size _ B.free)) (by rw [Heap.size_push, hz]) fun b o x => Heap.get?_push_of_some _ (Heap.get?_push_of_some _ x)⟩

/-- the tuple at a, each item in a new pair with its number -/
def IteT (K : PySem.W.Frag) (a : Addr) : It :=
  ⟨fun i H => ∃ (xs : List V) (x : V), SqT K H a xs ∧ xs[i]? = some x, fun i H v H' => ∃ T x, v = .ref T ∧ H T = none ∧ H' = upd H T (.tup [.int (i : Nat), x]) ∧ ∀ xs, SqT K H a xs → xs[i]? = some x, fun i H => ∃ xs : List V, SqT K H a xs ∧ xs.length = i⟩
theorem turn_enumT {P : Program} {w : World} {K : PySem.W.Frag} {elts : List Expr} {kk : Nat} {tpos : Pos} (a e it : Addr) (hae : a ≠ e) (hai : a ≠ it) :
    Turn P w K (.Tuple elts kk tpos) (IteT K a) [e, it] e (fun i h => (∃ old, IsEnum h e it ((i : Nat) : Int) old) ∧ h.IsTupleIter it a i ∧ e ≠ it) where
  mem := by simp
  obj := fun i h st b hb => by
    obtain ⟨⟨old, he⟩, ⟨o, ho, hc, hd⟩, _⟩ := st
    have e' : b = e ∨ b = it := by simpa using hb
    rcases e' with z | z
    · rw [z]; exact ⟨_, he, fun v q => nomatch q⟩
    · rw [z]; exact ⟨o, ho, fun v q => by rw [hd] at q; cases q⟩
  keep := fun i h h' st k => let ⟨⟨old, he⟩, hi, hne⟩ := st; ⟨⟨old, k e (by simp) _ he⟩, hi.at fun o q => k it (by simp) o q, hne⟩
  item := by
    intro X hP hw hK hc i pins s σ H E I hf st hg
    subst hP hw hK
    obtain ⟨⟨old, he⟩, hit, hne⟩ := st
    obtain ⟨xs, x, hq, hx⟩ := hg
    obtain ⟨its, rv, p, hz⟩ := I.tuple hq
    obtain ⟨u, hu, ru⟩ := rv.get hx
    have hel : e < s.heap.objs.size := Heap.lt_size he
    have hil : it < s.heap.objs.size := by obtain ⟨_, q, _⟩ := hit; exact Heap.lt_size q
    have hlt : i < its.toArray.size := by
      have := (List.getElem?_eq_some_iff.mp hu).1
      simpa using this
    refine wpAny_pyNext_enum_itemD (Draws.tuple (A := X.A.in1) (I.ok.hd hc) it a hai its.toArray) he ⟨hit, p⟩ hlt hne (by simp [hne, Ne.symm hae]) fun x' h' tk hx' ho hit' hT hsz hk => ?_
    have ex : x' = u := by
      have h2 : its.toArray[i]? = some u := by simpa using hu
      rw [h2] at hx'
      exact (Option.some.inj hx').symm
    subst ex
    refine ⟨_, rfl, wpAny_letOwnedTupleGo_enum (s := { s with heap := h', toks := tk + 1 }) ho fun h'' he' sb => ?_⟩
    have hT2 : h''.get? s.heap.objs.size = some { cls := .type "tuple", data := .seq #[.int i tk, x'] } := (sb.2 _ (Nat.ne_of_gt hel)).trans hT
    have new : ObjOk X.prog X.w (upd H s.heap.objs.size (.tup [.int (i : Nat), x])) h'' s.heap.objs.size (.tup [.int (i : Nat), x]) :=
      ⟨by show 2 ≤ sizeLine; decide, [.int i tk, x'], .cons ⟨_, rfl⟩ (.cons ru .nil), ⟨_, hT2, rfl, _, rfl⟩⟩
    have I1 : Inv X pins σ (upd H s.heap.objs.size (.tup [.int (i : Nat), x])) { s with heap := h'', toks := tk + 1 } :=
      I.turnedNew (ch := [e, it]) (fun b ob hb q => (sb.2 b (fun z => hb (by simp [z]))).trans (hk b ob (fun z => hb (by simp [z])) (fun z => hb (by simp [z])) q)) hf (Nat.le_refl _) new
    refine ⟨.ref s.heap.objs.size, _, I1, rfl, ⟨_, x, rfl, I.hok.fresh (Nat.le_refl _), rfl, fun ys hy => by rw [I.tuple_inj hy hq]; exact hx⟩, ⟨⟨x', ?_⟩, hit'.1.at fun o q => (sb.2 it (Ne.symm hne)).trans q, hne⟩, fun b hb => ?_⟩
    · have e1 : ((i + 1 : Nat) : Int) = (i : Int) + 1 := by omega
      rw [e1]; exact he'
    · have hb' : b < s.heap.objs.size := by
        have e' : b = e ∨ b = it := by simpa using hb
        rcases e' with z | z
        · rw [z]; exact hel
        · rw [z]; exact hil
      rw [upd_ne (Nat.ne_of_lt hb')]
      exact (hf b hb).1
  done := by
    intro X hP hw hK hc i pins s σ H E I hf st hg
    subst hP hw hK
    obtain ⟨⟨old, he⟩, hit, hne⟩ := st
    obtain ⟨xs, hq, hx⟩ := hg
    obtain ⟨its, rv, p, hz⟩ := I.tuple hq
    obtain ⟨f0, f1, f2, f3, f4, f5⟩ := hf it (by simp)
    have hl : its.toArray.size = i := by rw [List.size_toArray, ← rv.length]; exact hx
    refine wpAny_pyNext_enum_endD (Draws.tuple (A := X.A.in1) (I.ok.hd hc) it a hai its.toArray) he (by rw [hl]; exact ⟨hit, p⟩) fun h' eb => ⟨rfl, I.turned (t' := s.toks) (fun b o hb q => eb b o hb q) f0 f1 f3 f4 f5⟩
  self := fun A i s Q E st h => let ⟨⟨_, he⟩, _⟩ := st; wpAny_pyIter_enum he h
def iEnumA (K : PySem.W.Frag) (ta : TA) : TI := fun σ H R => ta σ H fun vs H1 => ∃ a xs, vs = [.ref a] ∧ ((SqL K H1 a xs ∧ R (Ite K a) H1) ∨ (H1 a = some (.tup xs) ∧ R (IteT K a) H1))
theorem pi_enumA {X : Cx} {e : Expr} {ta : TA} {p pos tpos : Pos} {elts : List Expr} {kk : Nat} (hg : Gl X "enumerate") (hm : X.mg "enumerate" = none) (ha : PA X [e] ta) (hs : starEach [e] X.env = [(false, eval e X.env)] := by rfl) :
    PI X (.Tuple elts kk tpos) (.Call (.Name "enumerate" p) [e] [] pos) (iEnumA X.K ta) := by
  refine ⟨fun pins s σ H R I h => ?_⟩
  refine Call_ (ld_blt I hg hm boot_enumerate (PyProof.Rows.callWith_type1 (thn (ha.run pos pins s σ H _ I h) fun us s1 ⟨vs, H1, I1, r1, q1⟩ => ?_) hs rfl))
  obtain ⟨a, xs, ex, q⟩ := q1
  subst ex
  cases r1 with
  | cons r rr =>
    cases rr
    cases r
    have fp : ∀ b ∈ [s1.heap.objs.size + 1, s1.heap.objs.size], FpOk X pins H1 b := fun b hb => by
      have e' : b = s1.heap.objs.size + 1 ∨ b = s1.heap.objs.size := by simpa using hb
      have hle : s1.heap.objs.size ≤ b := by
        rcases e' with z | z
        · rw [z]; exact Nat.le_add_right _ _
        · rw [z]; exact Nat.le_refl _
      exact I1.fpOk hle (I1.hok.fresh hle)
    rcases q with ⟨hq, q⟩ | ⟨hq, q⟩
    · obtain ⟨its, rv, p', hz⟩ := I1.list hq
      refine call_enumerate_list p'.isList fun h' he hit hsz hk => wpAny_pyIter_enum he ?_
      have I2 : Inv X pins σ H1 { s1 with heap := h' } := I1.kept (t' := s1.toks) hk
      exact ⟨s1.heap.objs.size + 1, [s1.heap.objs.size + 1, s1.heap.objs.size], _, _, H1, rfl, I2, turn_enum a (s1.heap.objs.size + 1) s1.heap.objs.size, ⟨⟨.none, he⟩, hit, Nat.succ_ne_self _⟩, fp, q⟩
    · obtain ⟨its, rv, p', hz⟩ := I1.tuple (SqT.of hq)
      have hal : a < s1.heap.objs.size := by obtain ⟨_, z, _⟩ := p'; exact Heap.lt_size z
      refine call_enum (begins_tuple a its.toArray) p' fun h' he hit hsz hk => wpAny_pyIter_enum he ?_
      have I2 : Inv X pins σ H1 { s1 with heap := h' } := I1.kept (t' := s1.toks) hk
      exact ⟨s1.heap.objs.size + 1, [s1.heap.objs.size + 1, s1.heap.objs.size], _, _, H1, rfl, I2, turn_enumT a (s1.heap.objs.size + 1) s1.heap.objs.size (Nat.ne_of_lt (Nat.lt_succ_of_lt hal)) (Nat.ne_of_lt hal), ⟨⟨.none, he⟩, ⟨_, hit, rfl, rfl⟩, Nat.succ_ne_self _⟩, fp, q⟩

/-- a list, a tuple or a text -/
def iSeq (K : PySem.W.Frag) (tl : TE) : TI := fun σ H R => tl σ H fun x H1 => (∃ a, x = .ref a ∧ (((∃ xs, SqL K H1 a xs) ∧ R (Itl K a) H1) ∨ ((∃ xs, SqT K H1 a xs) ∧ R (Itt K a) H1))) ∨ ∃ z, x = .str z ∧ R (Its z) H1
theorem pi_seq {X : Cx} {tg l : Expr} {tl : TE} (hl : PE X l tl) : PI X tg l (iSeq X.K tl) := by
  refine ⟨fun pins s σ H R I h => ?_⟩
  refine thn (hl.run pins s σ H _ I h) fun v s1 ⟨x, H1, I1, r1, q1⟩ => ?_
  have fp : ∀ b ∈ [s1.heap.objs.size], FpOk X pins H1 b := fun b hb => by
    have e : b = s1.heap.objs.size := by simpa using hb
    subst e
    exact I1.fpOk (Nat.le_refl _) (I1.hok.fresh (Nat.le_refl _))
  rcases q1 with ⟨a, e, ⟨⟨xs, hq⟩, q⟩ | ⟨⟨xs, hq⟩, q⟩⟩ | ⟨z, e, q⟩
  · subst e
    cases r1
    obtain ⟨its, rv, p, hz⟩ := I1.list hq
    refine wpAny_pyIter_list p.isList ?_
    exact ⟨s1.heap.objs.size, [s1.heap.objs.size], _, _, H1, rfl, I1.kept (t' := s1.toks) fun b o e => Heap.get?_push_of_some _ e, turn_list a _, ⟨_, Heap.get?_push_size _ rfl, rfl, rfl⟩, fp, q⟩
  · subst e
    cases r1
    obtain ⟨its, rv, p, hz⟩ := I1.tuple hq
    refine wpAny_pyIter_tuple (show s1.heap.IsTuple a its.toArray from p) ?_
    exact ⟨s1.heap.objs.size, [s1.heap.objs.size], _, _, H1, rfl, I1.kept (t' := s1.toks) fun b o e => Heap.get?_push_of_some _ e, turn_tuple a _, ⟨_, Heap.get?_push_size _ rfl, rfl, rfl⟩, fp, q⟩
  · subst e
    obtain ⟨t, rfl⟩ := r1
    cases ha : z.cps.all (· < 128)
    · exact wpAny_pyIter_wide ha (pi_one (tk := s1.toks) I1 _ (turn_str _ z t "str_iterator" (.inr rfl)) ⟨_, Heap.get?_push_size _ rfl, rfl, rfl⟩ q)
    · exact wpAny_pyIter_ascii ha (pi_one (tk := s1.toks) I1 _ (turn_str _ z t "str_ascii_iterator" (.inl rfl)) ⟨_, Heap.get?_push_size _ rfl, rfl, rfl⟩ q)
end Ev

set_option Elab.async false
set_option linter.all false
set_option maxRecDepth 100000
set_option maxHeartbeats 2000000
namespace Ev
open PySem PySem.Spec PyProof.Rows L2

section
variable {X : Cx} {T : Tab} {W : WX}
/-- the value behind an operation in place -/
def SndI (T : Tab) (t : TIp) (f : Sto → Val → Val → Option Val) : Prop := SndB T t f
def sAug (f : Sto → Val → Val → Option Val) (i : Nat) (e : E) : S := fun ρ st => match ρ[i]? with
  | some (some v) => bindS (e ρ st) ρ fun w st1 => match f st1 v w with
    | some z => .nx (ρ.set i (some z)) st1
    | none => .bad
  | _ => .bad
theorem s_aug {i : Nat} {x : Str} {e : Expr} {ee : E} {op : Operator} {ti : TIp} {f : Sto → Val → Val → Option Val} {pos pos' : Pos} (hN : X.N.Nodup) (ho : PIp X op ti) (hs : SndB T ti f) (he : PE X e (tE T W ee)) (hi : X.N[i]? = some x := by rfl)
    (hx : Loc X.env.scope x := by first | exact Or.inl rfl | exact Or.inr rfl) (hf : X.fn x = true ∨ X.env.scope.names.lookup x = some .local := by first | exact .inl rfl | exact .inr rfl | assumption) :
    PS X (.AugAssign (.Name x pos') op e pos) (tS T W (sAug f i ee)) := by
  refine ps_imp (ps_aug hN hi hx he ho hf) fun D σ H h => ?_
  obtain ⟨φ, ρ, st, re, p⟩ := h
  unfold sAug at p
  split at p
  · rename_i v hv
    obtain ⟨u, e1, r1⟩ := re.get i v hv
    refine ⟨u, e1, φ, ρ, st, re, ?_⟩
    cases hw : ee ρ st with
    | ok w st1 =>
      rw [hw] at p
      intro φ1 H1 y e2 s1 q1
      dsimp only [bindS] at p
      cases hz : f st1 v w with
      | none => rw [hz] at p; exact p.elim
      | some z =>
        rw [hz] at p
        refine hs φ1 st1 H1 v w z u y _ s1 (r1.ext e2) q1 hz fun H2 x2 e3 s2 q2 => ?_
        exact p φ1 H2 _ (e2.trans e3) ((re.ext (e2.trans e3) s2).set q2 i)
    | ex x st1 =>
      rw [hw] at p
      exact fun φ1 H1 c d e1 s1 q1 => p φ1 H1 σ c d e1 (re.ext e1 s1) q1
    | bad => rw [hw] at p; exact p
  · exact p.elim
/-- o[i], by values -/
def rGetA (K : PySem.W.Frag) : R2 := fun x y H Q => rIxL K x y H Q ∨ rIxD x y H Q
theorem get_any (hu : X.A.units + 1 < cLine) : PGet X (rGetA X.K) := by
  intro pins s σ H o i ov iv Q I ro ri h
  rcases h with ⟨p, xs, k, z, rfl, rfl, hq, he, q⟩ | ⟨a, z, rfl, g, q⟩
  · cases ro
    obtain ⟨t, rfl⟩ := ri
    obtain ⟨its, r, pl, hz⟩ := I.list hq
    obtain ⟨j, h1, h2, h3, h4, h5⟩ := atI_get he
    obtain ⟨w, ew, rw'⟩ := r.get h2
    have hl := r.length
    have hn := line63
    by_cases h0 : 0 ≤ k
    · have hj : k.toNat = j := by
        rw [seqIndex_of h0 h5] at h1
        exact Option.some.inj h1
      exact wpAny_getItem_list pl.isList h0 (by omega) (by rw [hj]; simpa using ew) ⟨z, H, I, rw', q⟩
    · have hj : (k + (its.toArray.size : Int)).toNat = j := by
        rw [seqIndex_neg (by omega) h4] at h1
        rw [List.size_toArray, ← hl]
        exact Option.some.inj h1
      exact wpAny_getItem_list_neg pl.isList (by omega) (by rw [List.size_toArray] <;> omega) (by omega) (by rw [hj]; simpa using ew) ⟨z, H, I, rw', q⟩
  · obtain rfl : ov = Value.ref a := ro
    exact d_getItem hu I g ri fun w' s3 I3 rw' => ⟨z, H, I3, rw', q⟩
/-- what a list or a dict holds -/
def fGet (st : Sto) (v w : Val) : Option Val := match lstOf st v with
  | some xs => match w with
    | .int i => atI xs i
    | _ => none
  | none => (dGet st v w).bind id
theorem snd_get : SndB T (rGetA T.K) fGet := by
  intro φ st H v w z x y Q R r1 r2 hf hq
  unfold fGet at hf
  split at hf
  · rename_i xs hx
    split at hf
    · obtain ⟨a, us, rfl, hs, rv⟩ := rel_lst R r1 hx
      obtain ⟨u, e, ru⟩ := rv.atI hf
      cases r2
      exact .inl ⟨a, us, _, u, rfl, rfl, hs, e, hq H u Ext.refl R ru⟩
    · cases hf
  · simp only [Option.bind_eq_some_iff, id] at hf
    obtain ⟨o, e, rfl⟩ := hf
    obtain ⟨a, r, hx, hg, h⟩ := rel_dget R r1 r2 e
    rcases h with ⟨h, _⟩ | ⟨z', u, h1, h2, ru⟩
    · cases h
    · cases h1
      subst h2
      exact .inr ⟨a, u, hx, hg, hq H u Ext.refl R ru⟩
def sAugI (f : Sto → Val → Val → Option Val) (o i e : E) : S := fun ρ st => match o ρ st with
  | .ok v st1 => match i ρ st1 with
    | .ok k st2 => match fGet st2 v k with
      | some z => match e ρ st2 with
        | .ok w st3 => match f st3 z w with
          | some y => match fSet st3 v k y with
            | some st4 => .nx ρ st4
            | none => .bad
          | none => .bad
        | _ => .bad
      | none => .bad
    | _ => .bad
  | _ => .bad
theorem s_augI {o i e : Expr} {eo ei ee : E} {op : Operator} {ti : TIp} {f : Sto → Val → Val → Option Val} {pos tpos : Pos} (hK : T.K = X.K) (hu : X.A.units + 1 < cLine) (hp : PIp X op ti) (hs : SndB T ti f) (ho : PE X o (tE T W eo)) (hi : PE X i (tE T W ei)) (he : PE X e (tE T W ee))
    (ha : ∀ ov iv new, augStore i ov iv new = (do holding [new, ov, iv] (setItem ov iv new); release [new, ov, iv] []; pure .next) := by intros; rfl) : PS X (.AugAssign (.Subscript o i tpos) op e pos) (tS T W (sAugI f eo ei ee)) := by
  refine ps_imp (ps_augS ho hi (get_any hu) he hp (set_any hu) ha) fun D σ H h => ?_
  rw [← hK]
  obtain ⟨φ, ρ, st, re, p⟩ := h
  refine ⟨φ, ρ, st, re, ?_⟩
  unfold sAugI at p
  cases h1 : eo ρ st with
  | ex x st1 => rw [h1] at p; exact p.elim
  | bad => rw [h1] at p; exact p.elim
  | ok v st1 =>
    rw [h1] at p; dsimp only at p
    intro φ1 H1 a e1 s1 q1
    refine ⟨φ1, ρ, st1, re.ext e1 s1, ?_⟩
    cases h2 : ei ρ st1 with
    | ex x st2 => rw [h2] at p; exact p.elim
    | bad => rw [h2] at p; exact p.elim
    | ok k st2 =>
      rw [h2] at p; dsimp only at p
      intro φ2 H2 b e2 s2 q2
      cases h3 : fGet st2 v k with
      | none => rw [h3] at p; exact p.elim
      | some z =>
        rw [h3] at p; dsimp only at p
        refine snd_get φ2 st2 H2 v k z a b _ s2 (q1.ext e2) q2 h3 fun H3 c e3 s3 q3 => ?_
        refine ⟨φ2, ρ, st2, re.ext ((e1.trans e2).trans e3) s3, ?_⟩
        cases h4 : ee ρ st2 with
        | ex x st3 => rw [h4] at p; exact p.elim
        | bad => rw [h4] at p; exact p.elim
        | ok w st3 =>
          rw [h4] at p; dsimp only at p
          intro φ4 H4 d e4 s4 q4
          cases h5 : f st3 z w with
          | none => rw [h5] at p; exact p.elim
          | some y =>
            rw [h5] at p; dsimp only at p
            refine hs φ4 st3 H4 z w y c d _ s4 (q3.ext e4) q4 h5 fun H5 u e5 s5 q5 => ?_
            cases h6 : fSet st3 v k y with
            | none => rw [h6] at p; exact p.elim
            | some st4 =>
              rw [h6] at p
              have e25 := (e2.trans e3).trans (e4.trans e5)
              refine snd_set s5 (q1.ext e25) (q2.ext (e3.trans (e4.trans e5))) q5 h6 fun H6 e6 s6 => ?_
              exact p φ4 H6 σ ((e1.trans e25).trans e6) (re.ext ((e1.trans e25).trans e6) s6)
def rIpA (K : PySem.W.Frag) : R2 := fun x y H Q => ipI (fun i j => i + j) x y H Q
theorem snd_ipadd : SndB T (ipI fun i j => i + j) (fI0 fun i j => .int (i + j)) := by
  intro φ st H v w z x y Q R r1 r2 hf hq
  unfold fI0 at hf
  split at hf
  · cases hf; cases r1; cases r2
    exact ⟨_, _, rfl, rfl, hq H _ Ext.refl R (.int _)⟩
  · cases hf
theorem snd_ipsub : SndB T (ipI fun i j => i - j) (fI0 fun i j => .int (i - j)) := by
  intro φ st H v w z x y Q R r1 r2 hf hq
  unfold fI0 at hf
  split at hf
  · cases hf; cases r1; cases r2
    exact ⟨_, _, rfl, rfl, hq H _ Ext.refl R (.int _)⟩
  · cases hf
abbrev fIadd := fI0 fun i j => .int (i + j)
abbrev fIsub := fI0 fun i j => .int (i - j)
end

abbrev EI := Env → Sto → Res (List Val)
/-- J gives the items, one by one, whatever happens meanwhile -/
def Wk (T : Tab) (φ : Phi) (H : Hp) (J : It) (items : List Val) : Prop :=
  ∃ (Gd : Hp → Prop) (Y : Nat → Hp → V → Hp → Prop), Walk J items.length Gd Y ∧ (∀ φ' H', ExtV φ H φ' H' → Gd H') ∧
    ∀ i H1 x H2 φ1 st1, i < items.length → ExtV φ H φ1 H1 → Rst T φ1 st1 H1 → Y i H1 x H2 → Ext φ1 H1 φ1 H2 ∧ Rst T φ1 st1 H2 ∧ ∃ v, items[i]? = some v ∧ RelV T φ1 H2 v x
abbrev tI (T : Tab) (W : WX) (e : EI) : TI := fun σ H R => tG T (fun φ H items J => Wk T φ H J items) W e σ H R

section
variable {X : Cx} {T : Tab} {W : WX}
theorem pi_imp {tg it : Expr} {t t' : TI} (h : PI X tg it t) (k : ∀ σ H R, t' σ H R → t σ H R) : PI X tg it t' := ⟨fun pins s σ H R I q => h.run pins s σ H R I (k _ _ _ q)⟩
theorem wk_list {φ : Phi} {H : Hp} {xs : List Val} {us : List V} {a : Addr} (h : (¬ Live φ a ∧ Rd H a (.lst us)) ∨ LstK T.K a us) (r : RelVs T φ H xs us) : Wk T φ H (Itl T.K a) xs := by
  refine ⟨_, _, r.length ▸ walk_list (K := T.K) (a := a) (xs := us), fun φ' H' e => ?_, fun i H1 x H2 φ1 st1 _ e s y => ?_⟩
  · rcases h with ⟨h1, h2⟩ | h
    · exact .inl (e.rd a _ h1 h2)
    · exact .inr h
  · obtain ⟨rfl, hx⟩ := y
    obtain ⟨v, hv, rv⟩ := r.got hx
    exact ⟨Ext.refl, s, v, hv, rv.extV e⟩
theorem wk_tup {φ : Phi} {H : Hp} {xs : List Val} {us : List V} {a : Addr} (h : H a = some (.tup us)) (r : RelVs T φ H xs us) : Wk T φ H (Itt T.K a) xs := by
  refine ⟨_, _, r.length ▸ walk_tup (K := T.K) (a := a) (xs := us), fun φ' H' e => SqT.of (e.tups a us h), fun i H1 x H2 φ1 st1 _ e s y => ?_⟩
  obtain ⟨rfl, hx⟩ := y
  obtain ⟨v, hv, rv⟩ := r.got hx
  exact ⟨Ext.refl, s, v, hv, rv.extV e⟩
def rangeV (lo : Int) (n : Nat) : List Val := (List.range n).map fun i => .int (lo + (i : Nat))
theorem wk_range {φ : Phi} {H : Hp} {lo : Int} {n : Nat} : Wk T φ H (Itr lo n) (rangeV lo n) := by
  refine ⟨fun _ => True, YFn fun i => .int (lo + i), ?_, fun _ _ _ => trivial, fun i H1 x H2 φ1 st1 hi e s y => ?_⟩
  · have := walk_range (lo := lo) (n := n)
    simpa [rangeV] using this
  · obtain ⟨rfl, rfl⟩ := y
    have hi' : i < n := by simpa [rangeV] using hi
    exact ⟨Ext.refl, s, .int (lo + i), by simp [rangeV, hi'], .int _⟩
def strV (z : Str) : List Val := z.cps.toList.map fun c => .str ⟨#[c]⟩
theorem wk_str {φ : Phi} {H : Hp} {z : Str} : Wk T φ H (Its z) (strV z) := by
  refine ⟨fun _ => True, _, by simpa [strV] using walk_str (z := z), fun _ _ _ => trivial, fun i H1 x H2 φ1 st1 hi e s y => ?_⟩
  obtain ⟨rfl, c, hc, rfl⟩ := y
  exact ⟨Ext.refl, s, .str ⟨#[c]⟩, by simp [strV, hc], .str _⟩
/-- new pairs -/
theorem wk_pairs {φ : Phi} {H : Hp} {J : It} {n : Nat} {Gd : Hp → Prop} {f g : Nat → Option V} {items : List Val} (hn : items.length = n) (w : Walk J n Gd (YPair f g)) (hG : ∀ φ' H', ExtV φ H φ' H' → Gd H')
    (hr : ∀ i x y, i < n → f i = some x → g i = some y → ∃ v w, items[i]? = some (.tup [v, w]) ∧ RelV T φ H v x ∧ RelV T φ H w y) : Wk T φ H J items := by
  subst hn
  refine ⟨Gd, _, w, hG, fun i H1 x H2 φ1 st1 hi e s y => ?_⟩
  obtain ⟨p, a, b, rfl, hp, rfl, ha, hb⟩ := y
  obtain ⟨v, w, h1, h2, h3⟩ := hr i a b hi ha hb
  have e2 := Ext.fresh (ho := .tup [a, b]) s hp
  exact ⟨e2, s.fresh hp, _, h1, .tup upd_same (.cons ((h2.extV e).ext e2) (.cons ((h3.extV e).ext e2) .nil))⟩
def enumV : Nat → List Val → List Val
  | _, [] => []
  | n, x :: xs => .tup [.int (n : Nat), x] :: enumV (n + 1) xs
theorem enumV_len : ∀ (xs : List Val) (n : Nat), (enumV n xs).length = xs.length
  | [], _ => rfl
  | _ :: xs, n => by simp [enumV, enumV_len xs]
theorem enumV_get : ∀ (xs : List Val) (n i : Nat) (x : Val), xs[i]? = some x → (enumV n xs)[i]? = some (.tup [.int ((n + i : Nat)), x])
  | [], _, _, _, h => by simp at h
  | y :: ys, n, 0, x, h => by simp at h; subst h; simp [enumV]
  | y :: ys, n, i + 1, x, h => by
    have := enumV_get ys (n + 1) i x (by simpa using h)
    simp only [enumV, List.getElem?_cons_succ, this]
    congr 5
    omega
def zipV : List Val → List Val → List Val
  | x :: xs, y :: ys => .tup [x, y] :: zipV xs ys
  | _, _ => []
theorem zipV_len : ∀ (xs ys : List Val), (zipV xs ys).length = min xs.length ys.length
  | [], _ => by simp [zipV]
  | _ :: _, [] => by simp [zipV]
  | _ :: xs, _ :: ys => by simp [zipV, zipV_len xs ys]
theorem zipV_get : ∀ (xs ys : List Val) (i : Nat) (x y : Val), xs[i]? = some x → ys[i]? = some y → (zipV xs ys)[i]? = some (.tup [x, y])
  | [], _, _, _, _, h, _ => by simp at h
  | _ :: _, [], _, _, _, _, h => by simp at h
  | a :: xs, b :: ys, 0, x, y, h1, h2 => by simp at h1 h2; subst h1; subst h2; rfl
  | a :: xs, b :: ys, i + 1, x, y, h1, h2 => by
    simp only [zipV, List.getElem?_cons_succ]
    exact zipV_get xs ys i x y (by simpa using h1) (by simpa using h2)

/-- for x in e -/
def itV (e : E) : EI := fun ρ st => bindR (e ρ st) fun v st1 => match v with
  | .lst xs => .ok xs st1
  | .tup xs => .ok xs st1
  | .str z => .ok (strV z) st1
  | _ => .bad
theorem i_seq {tg l : Expr} {e : E} (hK : T.K = X.K) (hl : PE X l (tE T W e)) : PI X tg l (tI T W (itV e)) := by
  refine pi_imp (pi_seq hl) fun σ H R h => ?_
  refine tG_bind h fun v ρ st1 φ1 H1 u re1 q1 p1 => ?_
  cases q1 with
  | lst h1 h2 =>
    have w := wk_list h1 h2
    rw [hK] at w
    exact .inl ⟨_, rfl, .inl ⟨⟨_, by rw [← hK]; exact sqL_of h1⟩, p1.ok_self re1.rst w⟩⟩
  | tup h1 h2 =>
    have w := wk_tup h1 h2
    rw [hK] at w
    exact .inl ⟨_, rfl, .inr ⟨⟨_, SqT.of h1⟩, p1.ok_self re1.rst w⟩⟩
  | str z => exact .inr ⟨z, rfl, p1.ok_self re1.rst wk_str⟩
  | _ => exact p1.elim
/-- for i, x in enumerate(e) -/
def itEnum (a : EA) : EI := fun ρ st => bindR (a ρ st) fun vs st1 => match vs with
  | [.lst xs] => .ok (enumV 0 xs) st1
  | [.tup xs] => .ok (enumV 0 xs) st1
  | _ => .bad
theorem i_enum {e : Expr} {p pos tpos : Pos} {elts : List Expr} {kk : Nat} {a : EA} (hK : T.K = X.K) (hm : X.mg "enumerate" = none) (ha : PA X [e] (tA T W a)) (hg : Gl X "enumerate" := by rfl) (hs : starEach [e] X.env = [(false, eval e X.env)] := by rfl) :
    PI X (.Tuple elts kk tpos) (.Call (.Name "enumerate" p) [e] [] pos) (tI T W (itEnum a)) := by
  refine pi_imp (pi_enumA hg hm ha hs) fun σ H R h => ?_
  refine tG_bind h fun vs ρ st1 φ1 H1 us re1 q1 p1 => ?_
  split at p1
  · cases q1 with
    | cons r rr =>
      cases rr
      cases r with
      | lst h1 h2 =>
        rename_i xs us a
        refine ⟨_, _, rfl, .inl ⟨by rw [← hK]; exact sqL_of h1, p1.ok_self re1.rst ?_⟩⟩
        rw [← hK]
        refine wk_pairs (enumV_len xs 0) (h2.length ▸ walk_enum (K := T.K) (a := a) (xs := us)) (fun φ' H' e => ?_) fun i x y hi h3 h4 => ?_
        · rcases h1 with ⟨h5, h6⟩ | h5
          · exact .inl (e.rd a _ h5 h6)
          · exact .inr h5
        · cases h3
          obtain ⟨v, hv, rv⟩ := h2.got h4
          exact ⟨_, v, enumV_get xs 0 i v hv, by simpa using RelV.int _, rv⟩
  · cases q1 with
    | cons r rr =>
      cases rr
      cases r with
      | tup h1 h2 =>
        rename_i xs us a
        refine ⟨_, _, rfl, .inr ⟨h1, p1.ok_self re1.rst ?_⟩⟩
        rw [← hK]
        have w : Walk (IteT T.K a) us.length (fun H => SqT T.K H a us) (YPair (fun i => some (.int (i : Nat))) (fun i => us[i]?)) := by
          refine ⟨fun i _ hi q => ⟨us, us[i], q, by simp [hi]⟩, fun _ q => ⟨us, q, rfl⟩, fun i H v H' _ q y => ?_⟩
          obtain ⟨p, x, h1, h2, h3, h4⟩ := y
          exact ⟨p, .int (i : Nat), x, h1, h2, h3, rfl, h4 us q⟩
        refine wk_pairs (enumV_len xs 0) (h2.length ▸ w) (fun φ' H' e => SqT.of (e.tups a us h1)) fun i x y hi h3 h4 => ?_
        cases h3
        obtain ⟨v, hv, rv⟩ := h2.got h4
        exact ⟨_, v, enumV_get xs 0 i v hv, by simpa using RelV.int _, rv⟩
  · exact p1.elim
/-- for x, y in zip(a, b) -/
def itZip (a : EA) : EI := fun ρ st => bindR (a ρ st) fun vs st1 => match vs with
  | [.lst xs, .lst ys] => .ok (zipV xs ys) st1
  | [.tup xs, .tup ys] => .ok (zipV xs ys) st1
  | _ => .bad
theorem i_zip {e e2 : Expr} {p pos tpos : Pos} {elts : List Expr} {kk : Nat} {a : EA} (hK : T.K = X.K) (hm : X.mg "zip" = none) (ha : PA X [e, e2] (tA T W a)) (hg : Gl X "zip" := by rfl)
    (hs : starEach [e, e2] X.env = (false, eval e X.env) :: starEach [e2] X.env := by rfl) (hpl : (backTo pos (starEach [e2] X.env)).any (·.1) = false := by rfl) :
    PI X (.Tuple elts kk tpos) (.Call (.Name "zip" p) [e, e2] [] pos) (tI T W (itZip a)) := by
  refine pi_imp (RZ.pi_zipA hg hm ha hs hpl) fun σ H R h => ?_
  refine tG_bind h fun vs ρ st1 φ1 H1 us re1 q1 p1 => ?_
  split at p1
  · cases q1 with
    | cons r rr =>
      cases rr with
      | cons r' rr =>
        cases rr
        cases r with
        | lst h1 h2 =>
          cases r' with
          | lst h3 h4 =>
            rename_i xs ys us a ws b
            refine ⟨_, _, _, _, rfl, .inl ⟨by rw [← hK]; exact sqL_of h1, by rw [← hK]; exact sqL_of h3, p1.ok_self re1.rst ?_⟩⟩
            rw [← hK]
            have st : ∀ {c : Addr} {zs : List V}, ((¬ Live φ1 c ∧ Rd H1 c (.lst zs)) ∨ LstK T.K c zs) → ∀ φ' H', ExtV φ1 H1 φ' H' → SqL T.K H' c zs := fun {c zs} h φ' H' e => by
              rcases h with ⟨h5, h6⟩ | h5
              · exact .inl (e.rd c _ h5 h6)
              · exact .inr h5
            refine wk_pairs (zipV_len xs ys) (walk_zip (K := T.K) (a := a) (b := b) (xs := us) (ys := ws) (by rw [h2.length, h4.length])) (fun φ' H' e => ⟨st h1 φ' H' e, st h3 φ' H' e⟩) fun i x y hi h5 h6 => ?_
            obtain ⟨v, hv, rv⟩ := h2.got h5
            obtain ⟨w, hw, rw'⟩ := h4.got h6
            exact ⟨v, w, zipV_get xs ys i v w hv hw, rv, rw'⟩
  · cases q1 with
    | cons r rr =>
      cases rr with
      | cons r' rr =>
        cases rr
        cases r with
        | tup h1 h2 =>
          cases r' with
          | tup h3 h4 =>
            rename_i xs ys us a ws b
            refine ⟨_, _, _, _, rfl, .inr ⟨SqT.of h1, SqT.of h3, p1.ok_self re1.rst ?_⟩⟩
            rw [← hK]
            have w : Walk (RZ.ItzT T.K a b) (min us.length ws.length) (fun H => SqT T.K H a us ∧ SqT T.K H b ws) (YPair (fun i => us[i]?) (fun i => ws[i]?)) := by
              refine ⟨fun i _ hi q => ?_, fun _ q => ⟨us, ws, q.1, q.2, by omega⟩, fun i H v H' _ q y => ?_⟩
              · have h1 : i < us.length := by omega
                have h2 : i < ws.length := by omega
                exact ⟨us, ws, us[i], ws[i], q.1, q.2, by simp [h1], by simp [h2]⟩
              · obtain ⟨p, x, z, h1, h2, h3, h4, h5⟩ := y
                exact ⟨p, x, z, h1, h2, h3, h4 us q.1, h5 ws q.2⟩
            refine wk_pairs (by rw [zipV_len, h2.length, h4.length]) w (fun φ' H' e => ⟨SqT.of (e.tups a us h1), SqT.of (e.tups b ws h3)⟩) fun i x y hi h5 h6 => ?_
            obtain ⟨v, hv, rv⟩ := h2.got h5
            obtain ⟨w, hw, rw'⟩ := h4.got h6
            exact ⟨v, w, zipV_get xs ys i v w hv hw, rv, rw'⟩
  · exact p1.elim
/-- range(n), range(a, b) -/
def itRange1 (a : EA) : EI := fun ρ st => bindR (a ρ st) fun vs st1 => match vs with
  | [.int j] => if -(2 ^ 62) ≤ j ∧ j < 2 ^ 62 then .ok (rangeV 0 j.toNat) st1 else .bad
  | _ => .bad
theorem i_range1 {tg e : Expr} {p pos : Pos} {a : EA} (hm : X.mg "range" = none) (ha : PA X [e] (tA T W a)) (hg : Gl X "range" := by rfl) (hs : starEach [e] X.env = [(false, eval e X.env)] := by rfl) : PI X tg (.Call (.Name "range" p) [e] [] pos) (tI T W (itRange1 a)) := by
  refine pi_imp (pi_range1 hg hm ha hs) fun σ H R h => ?_
  refine tG_bind h fun vs ρ st1 φ1 H1 us re1 q1 p1 => ?_
  split at p1
  · split at p1
    · rename_i hh
      cases q1 with
      | cons r rr =>
        cases rr
        cases r
        exact ⟨_, rfl, hh.1, hh.2, p1.ok_self re1.rst wk_range⟩
    · exact p1.elim
  · exact p1.elim
def itRange2 (a : EA) : EI := fun ρ st => bindR (a ρ st) fun vs st1 => match vs with
  | [.int i, .int j] => if -(2 ^ 62) ≤ i ∧ i < 2 ^ 62 ∧ -(2 ^ 62) ≤ j ∧ j < 2 ^ 62 then .ok (rangeV i (j - i).toNat) st1 else .bad
  | _ => .bad
theorem i_range2 {tg e e2 : Expr} {p pos : Pos} {a : EA} (hm : X.mg "range" = none) (ha : PA X [e, e2] (tA T W a)) (hg : Gl X "range" := by rfl) (hs : starEach [e, e2] X.env = [(false, eval e X.env), (false, eval e2 X.env)] := by rfl) (hs2 : starEach [e2] X.env = [(false, eval e2 X.env)] := by rfl) :
    PI X tg (.Call (.Name "range" p) [e, e2] [] pos) (tI T W (itRange2 a)) := by
  refine pi_imp (pi_range2 hg hm ha hs hs2) fun σ H R h => ?_
  refine tG_bind h fun vs ρ st1 φ1 H1 us re1 q1 p1 => ?_
  split at p1
  · split at p1
    · rename_i hh
      cases q1 with
      | cons r rr =>
        cases rr with
        | cons r' rr =>
          cases rr
          cases r; cases r'
          exact ⟨_, _, rfl, hh, p1.ok_self re1.rst wk_range⟩
    · exact p1.elim
  · exact p1.elim

def forL (g : G) (b : S) : List Val → Env → Sto → SR
  | [], ρ, st => .nx ρ st
  | v :: vs, ρ, st => match g v ρ st with
    | some (ρ1, st1) => match b ρ1 st1 with
      | .nx ρ2 st2 => forL g b vs ρ2 st2
      | .ct ρ2 st2 => forL g b vs ρ2 st2
      | .bk ρ2 st2 => .nx ρ2 st2
      | .rt v st2 => .rt v st2
      | .ex x ρ2 st2 => .ex x ρ2 st2
      | .bad => .bad
    | none => .bad
def sFor (it : EI) (g : G) (b : S) : S := fun ρ st => bindS (it ρ st) ρ fun vs st1 => forL g b vs ρ st1
theorem s_for {tg iter : Expr} {body : List Stmt} {pos : Pos} {it : EI} {g : G} {b : S} (hp : PassesOwn (model X.prog X.w) X.A X.env X.xe) (hc : X.calm = true) (hi : PI X tg iter (tI T W it)) (hg : PG X tg (tGt T g)) (hb : PSs X body (tS T W b))
    (hs : ∀ x, foldedSetIterable iter X.env x = pure x := by intro _; rfl) : PS X (.For tg iter body [] pos) (tS T W (sFor it g b)) := by
  refine ps_imp (ps_for hp hc hi hg hb hs) fun D σ H h => ?_
  refine tS_bind h fun vs ρ st1 φ1 H1 J re1 q1 p1 => ?_
  obtain ⟨Gd, Y, w1, w2, w3⟩ := q1
  refine for_it w1 (fun i σ' H' => ∃ φ' ρ' st', Ext φ1 H1 φ' H' ∧ RelE T φ' ρ' st' σ' H' ∧ PostS T W φ' H' D (forL g b (vs.drop i) ρ' st')) ⟨φ1, ρ, st1, Ext.refl, re1, p1⟩ (fun i σ' H' _ ⟨φ', _, _, e, _, _⟩ => w2 φ' H' e.v) (fun i x σ' H' H2 hi ⟨φ', ρ', st', e, re, p⟩ y => ?_) (fun σ' H' ⟨φ', ρ', st', e, re, p⟩ => ?_)
  · obtain ⟨e2, s2, v, hv, rv⟩ := w3 i H' x H2 φ' st' hi e.v re.rst y
    have hd : vs.drop i = v :: vs.drop (i + 1) := by
      obtain ⟨hl, hv⟩ := List.getElem?_eq_some_iff.mp hv
      rw [List.drop_eq_getElem_cons hl, hv]
    rw [hd] at p
    refine ⟨φ', ρ', st', v, re.ext e2 s2, rv, ?_⟩
    unfold forL at p
    cases hgv : g v ρ' st' with
    | none => rw [hgv] at p; exact p.elim
    | some q =>
      obtain ⟨ρ3, st3⟩ := q
      rw [hgv] at p
      dsimp only at p
      intro φ3 H3 σ3 e3 re3
      refine ⟨φ3, ρ3, st3, re3, ?_⟩
      have e23 := e2.trans e3
      cases hb3 : b ρ3 st3 with
      | nx ρ4 st4 =>
        rw [hb3] at p
        exact fun φ4 H4 σ4 e4 re4 => ⟨φ4, ρ4, st4, (e.trans e23).trans e4, re4, PostS.later p (e23.trans e4)⟩
      | ct ρ4 st4 =>
        rw [hb3] at p
        exact fun φ4 H4 σ4 e4 re4 => ⟨φ4, ρ4, st4, (e.trans e23).trans e4, re4, PostS.later p (e23.trans e4)⟩
      | bk ρ4 st4 => rw [hb3] at p; exact PostS.later p e23
      | rt v st4 => rw [hb3] at p; exact PostS.later (D := D) p e23
      | ex x ρ4 st4 => rw [hb3] at p; exact PostS.later (D := D) p e23
      | bad => rw [hb3] at p; exact p
  · rw [List.drop_length] at p
    exact p φ' H' σ' Ext.refl re
def whileN (t : ET) (b : S) : Nat → Env → Sto → SR
  | 0, _, _ => .bad
  | n + 1, ρ, st => bindS (t ρ st) ρ fun c st1 => if c = true then (match b ρ st1 with
      | .nx ρ2 st2 => whileN t b n ρ2 st2
      | .ct ρ2 st2 => whileN t b n ρ2 st2
      | .bk ρ2 st2 => .nx ρ2 st2
      | .rt v st2 => .rt v st2
      | .ex x ρ2 st2 => .ex x ρ2 st2
      | .bad => .bad) else .nx ρ st1
def manyTurns : Nat := 1000000
def sWhile (t : ET) (b : S) : S := whileN t b manyTurns
theorem s_while {c : Expr} {body : List Stmt} {pos : Pos} {t : ET} {b : S} (hp : PassesOwn (model X.prog X.w) X.A X.env X.xe) (hc : PT X c (tT T W t)) (hb : PSs X body (tS T W b)) : PS X (.While c body [] pos) (tS T W (sWhile t b)) := by
  refine ps_imp (ps_while hp hc hb) fun D σ H h => ?_
  refine ⟨fun m σ' H' => tS T W (whileN t b m) D σ' H', ⟨manyTurns, h⟩, fun m σ' H' h' => ?_⟩
  cases m with
  | zero => obtain ⟨φ, ρ, st, re, p⟩ := h'; exact p.elim
  | succ m =>
    have h2 : tS T W (fun ρ st => bindS (t ρ st) ρ fun c st1 => if c = true then (match b ρ st1 with
      | .nx ρ2 st2 => whileN t b m ρ2 st2
      | .ct ρ2 st2 => whileN t b m ρ2 st2
      | .bk ρ2 st2 => .nx ρ2 st2
      | .rt v st2 => .rt v st2
      | .ex x ρ2 st2 => .ex x ρ2 st2
      | .bad => .bad) else .nx ρ st1) D σ' H' := h'
    refine tS_bind h2 fun c ρ st1 φ1 H1 k re1 q1 p1 => ?_
    subst q1
    cases c with
    | false => exact iteF (p1 φ1 H1 σ' Ext.refl re1)
    | true =>
      refine iteT ⟨fun σ2 H2 => tS T W (whileN t b m) D σ2 H2, fun σ2 H2 q => ⟨m, Nat.lt_succ_self m, q⟩, φ1, ρ, st1, re1, ?_⟩
      rw [if_pos rfl] at p1
      cases hb3 : b ρ st1 with
      | nx ρ4 st4 =>
        rw [hb3] at p1
        exact fun φ4 H4 σ4 e4 re4 => ⟨φ4, ρ4, st4, re4, PostS.later p1 e4⟩
      | ct ρ4 st4 =>
        rw [hb3] at p1
        exact fun φ4 H4 σ4 e4 re4 => ⟨φ4, ρ4, st4, re4, PostS.later p1 e4⟩
      | bk ρ4 st4 => rw [hb3] at p1; exact p1
      | rt v st4 => rw [hb3] at p1; exact p1
      | ex x ρ4 st4 => rw [hb3] at p1; exact p1
      | bad => rw [hb3] at p1; exact p1
end
end Ev

set_option Elab.async false
set_option linter.all false
set_option maxRecDepth 100000
set_option maxHeartbeats 2000000
namespace Ev
open PySem PySem.Spec PyProof.Rows L2

def PostGw (T : Tab) (φ : Phi) (H : Hp) (vs : List Nat) (σ : L2.St) (Q : L2.St → Hp → Prop) : Option (Env × Sto) → Prop
  | some (ρ, st) => ∀ φ' H' σ', Ext φ H φ' H' → RelE T φ' ρ st σ' H' → wipe σ' vs = wipe σ vs → Q σ' H'
  | none => False
def tGw (T : Tab) (vs : List Nat) (g : G) : TG := fun v σ H Q => ∃ φ ρ st w, RelE T φ ρ st σ H ∧ RelV T φ H w v ∧ PostGw T φ H vs σ Q (g w ρ st)
def tGws (T : Tab) (vs : List Nat) (g : GS) : TGs := fun us σ H Q => ∃ φ ρ st ws, RelE T φ ρ st σ H ∧ RelVs T φ H ws us ∧ PostGw T φ H vs σ Q (g ws ρ st)
theorem wipe_get {σ : L2.St} : ∀ {vs : List Nat} {i : Nat}, (wipe σ vs)[i]? = if i ∈ vs then (if i < σ.length then some none else none) else σ[i]?
  | [], i => by simp [wipe]
  | v :: vs, i => by
    unfold wipe
    by_cases e : v = i
    · subst e
      by_cases h : v < σ.length
      · rw [List.getElem?_set_self (by rw [wipe_length]; exact h)]
        simp [h]
      · rw [List.getElem?_eq_none (by rw [List.length_set, wipe_length]; omega)]
        simp [h]
    · rw [List.getElem?_set_ne e, wipe_get (vs := vs)]
      have : (i ∈ v :: vs) ↔ i ∈ vs := by
        rw [List.mem_cons]
        exact ⟨fun h => h.elim (fun z => absurd z.symm e) id, .inr⟩
      by_cases hm : i ∈ vs
      · rw [if_pos hm, if_pos (this.mpr hm)]
      · rw [if_neg hm, if_neg (fun z => hm (this.mp z))]
theorem wipe_set {σ : L2.St} {vs : List Nat} {i : Nat} {x : Option V} (h : i ∈ vs) : wipe (σ.set i x) vs = wipe σ vs := by
  apply List.ext_getElem?
  intro j
  rw [wipe_get, wipe_get, List.length_set]
  by_cases hj : j ∈ vs
  · rw [if_pos hj, if_pos hj]
  · rw [if_neg hj, if_neg hj, List.getElem?_set_ne (fun e : i = j => hj (e ▸ h))]
section
variable {X : Cx} {T : Tab} {W : WX} {vs : List Nat}
theorem gw_name {i : Nat} {x : Str} {pos : Pos} (hN : X.N.Nodup) (hm : i ∈ vs := by decide) (hi : X.N[i]? = some x := by rfl) (hx : Loc X.env.scope x := by first | exact Or.inl rfl | exact Or.inr rfl) (hf : X.fn x = true ∨ X.env.scope.names.lookup x = some .local := by first | exact .inl rfl | exact .inr rfl | assumption) :
    PG X (.Name x pos) (tGw T vs (gN i)) := by
  refine pg_imp (pg_name (i := i) hN hi hx hf) fun v σ H Q h => ?_
  obtain ⟨φ, ρ, st, w, re, r, p⟩ := h
  exact p φ H _ Ext.refl (re.set r i) (wipe_set hm)
theorem gws_nil : PGs X [] (tGws T vs gNil') := by
  refine pgs_imp pgs_nil fun v σ H Q h => ?_
  obtain ⟨φ, ρ, st, ws, re, r, p⟩ := h
  cases r with
  | nil => exact ⟨rfl, p φ H σ Ext.refl re rfl⟩
  | cons a b => exact p.elim
theorem gws_cons {e : Expr} {es : List Expr} {g : G} {gs : GS} (h1 : PG X e (tGw T vs g)) (h2 : PGs X es (tGws T vs gs))
    (hs : (assignEach (e :: es) X.env).map (·.2) = assign e X.env :: (assignEach es X.env).map (·.2) := by rfl) : PGs X (e :: es) (tGws T vs (gCons' g gs)) := by
  refine pgs_imp (pgs_cons h1 h2 hs) fun v σ H Q h => ?_
  obtain ⟨φ, ρ, st, ws, re, r, p⟩ := h
  cases r with
  | nil => exact p.elim
  | cons a b =>
    rename_i w u ws us
    refine ⟨u, us, rfl, φ, ρ, st, w, re, a, ?_⟩
    unfold gCons' at p
    dsimp only at p
    cases hg : g w ρ st with
    | none => rw [hg] at p; exact p.elim
    | some q =>
      obtain ⟨ρ1, st1⟩ := q
      rw [hg] at p
      dsimp only at p
      intro φ1 H1 σ1 e1 re1 hw
      refine ⟨φ1, ρ1, st1, ws, re1, b.ext e1, ?_⟩
      cases hg2 : gs ws ρ1 st1 with
      | none => rw [hg2] at p; exact p.elim
      | some q =>
        rw [hg2] at p
        exact fun φ2 H2 σ2 e2 re2 hw2 => p φ2 H2 σ2 (e1.trans e2) re2 (hw2.trans hw)
theorem gw_tup {es : List Expr} {k : Nat} {pos : Pos} {gs : GS} {n : Nat} (hK : T.K = X.K) (hc : X.calm = true) (h : PGs X es (tGws T vs gs))
    (hn : (assignEach es X.env).length = n := by rfl) (hst : (assignEach es X.env).findIdx? (·.1) = none := by rfl) : PG X (.Tuple es k pos) (tGw T vs (gT n gs)) := by
  refine pg_imp (pg_tup hc h hn hst) fun v σ H Q h => ?_
  obtain ⟨φ, ρ, st, w, re, r, p⟩ := h
  unfold gT at p
  cases r with
  | tup a b =>
    dsimp only at p
    split at p
    · rename_i hl
      exact ⟨_, _, rfl, SqT.of a, by rw [← b.length]; exact hl, φ, ρ, st, _, re, b, p⟩
    · exact p.elim
  | _ => exact p.elim

def wipeE (ρ : Env) : List Nat → Env
  | [] => ρ
  | v :: vs => (wipeE ρ vs).set v none
theorem wipeE_length (ρ : Env) : ∀ vs : List Nat, (wipeE ρ vs).length = ρ.length
  | [] => rfl
  | v :: vs => by unfold wipeE; rw [List.length_set, wipeE_length ρ vs]
theorem wipeE_some {ρ : Env} {i : Nat} {x : Val} : ∀ {vs : List Nat}, (wipeE ρ vs)[i]? = some (some x) → ρ[i]? = some (some x) ∧ i ∉ vs
  | [], h => ⟨h, by simp⟩
  | v :: vs, h => by
    unfold wipeE at h
    by_cases hi : v = i
    · subst hi
      by_cases hv : v < (wipeE ρ vs).length
      · rw [List.getElem?_set_self hv] at h; cases h
      · rw [List.getElem?_eq_none (by simpa using hv)] at h; cases h
    · rw [List.getElem?_set_ne hi] at h
      obtain ⟨h1, h2⟩ := wipeE_some h
      exact ⟨h1, by simp only [List.mem_cons, not_or]; exact ⟨fun e => hi e.symm, h2⟩⟩
def lcL (g : G) (c : ET) (e : E) (ρ : Env) : List Val → Sto → Res (List Val)
  | [], st => .ok [] st
  | v :: vs, st => match g v ρ st with
    | some (ρ1, st1) => match c ρ1 st1 with
      | .ok true st2 => match e ρ1 st2 with
        | .ok y st3 => match lcL g c e ρ vs st3 with
          | .ok ys st4 => .ok (y :: ys) st4
          | _ => .bad
        | _ => .bad
      | .ok false st2 => lcL g c e ρ vs st2
      | _ => .bad
    | none => .bad
def eYes : ET := fun _ st => .ok true st
/-- .lst: a value; else a thing of the store -/
def lcR (new : Bool) (ys : List Val) (st : Sto) : Res Val := if new then .ok (.loc st.length) (st ++ [.lst ys]) else .ok (.lst ys) st
def lcE (new : Bool) (own : List Nat) (g : G) (c : ET) (e : E) (ρ : Env) (items : List Val) (st : Sto) : Res Val :=
  if items.length < sizeLine then (match lcL g c e (wipeE ρ own) items st with
    | .ok ys st2 => lcR new ys st2
    | _ => .bad) else .bad
def eLc (new : Bool) (own : List Nat) (it : EI) (g : G) (c : ET) (e : E) : E := fun ρ st => bindR (it ρ st) fun items st1 => lcE new own g c e ρ items st1
theorem t_yes {φ : Phi} {ρ : Env} {st : Sto} {σ : L2.St} {H : Hp} {Q : Bool → Hp → Prop} (h : tT T W eYes σ H Q) : tYes σ H Q := by
  obtain ⟨φ, ρ, st, re, p⟩ := h
  exact p.ok_self re.rst rfl
theorem pts_imp {ifs : List Expr} {t t' : TT} (h : PTs X ifs t) (k : ∀ σ H Q, t' σ H Q → t σ H Q) : PTs X ifs t' := ⟨fun pins s σ H Q I q => h.run pins s σ H Q I (k _ _ _ q)⟩
theorem ts_nil : PTs X [] (tT T W eYes) := pts_imp pts_nil fun _ _ _ h => by
  obtain ⟨φ, ρ, st, re, p⟩ := h
  exact p.ok_self re.rst rfl
theorem ts_one {c : Expr} {t : ET} (h : PT X c (tT T W t)) : PTs X [c] (tT T W t) := pts_one h
/-- nothing is let out -/
abbrev W0 : WX := fun _ _ _ _ => False
/-- what is left of a comprehension -/
def RestL (T : Tab) (W : WX) (φ1 : Phi) (σ : L2.St) (H1 : Hp) (Q : VK) (new : Bool) (g : G) (c : ET) (e : E) (ρ : Env) (items ys : List Val) (st : Sto) : Prop := match lcL g c e ρ items st with
  | .ok zs st' => Post T (RelV T) W φ1 σ H1 Q (lcR new (ys ++ zs) st')
  | _ => False
theorem wipe_wipe {σ : L2.St} {vs : List Nat} : wipe (wipe σ vs) vs = wipe σ vs := by
  apply List.ext_getElem?
  intro j
  rw [wipe_get, wipe_length, wipe_get]
  by_cases hj : j ∈ vs
  · rw [if_pos hj, if_pos hj]
  · rw [if_neg hj, if_neg hj]
/-- the reading of a comprehension -/
theorem lc_sound {new : Bool} {own : List Nat} {it : EI} {g : G} {c : ET} {e : E} {σ : L2.St} {H : Hp} {Q : VK} (h : tE T W (eLc new own it g c e) σ H Q) :
    tLc (tI T W it) (tGw T own g) (tT T W0 c) (tE T W0 e) own σ H Q := by
  unfold tLc
  refine tG_bind h fun items ρ st1 φ1 H1 J re1 w p => fun D hD => ?_
  obtain ⟨Gd, Y, w1, w2, w3⟩ := w
  unfold lcE at p
  split at p
  rename_i hz
  · -- the invariant
    have hR1 := re1.rst
    have nhD : ∀ a, a ∈ φ1.hid → a ≠ D := fun a h z => hR1.hid a h (z ▸ hD)
    have rest0 : RestL T W φ1 σ H1 Q new g c e (wipeE ρ own) (items.drop 0) [] st1 := by
      unfold RestL
      rw [List.drop_zero]
      cases hl : lcL g c e (wipeE ρ own) items st1 with
      | ok zs st' => rw [hl] at p; exact p
      | ex x st' => rw [hl] at p; exact p
      | bad => rw [hl] at p; exact p
    refine lc_it w1 (fun i H' => ∃ φ st ys us, Ext φ1 H1 φ H' ∧ Rst T (φ.hide D) st H' ∧ H' D = some (.lst us) ∧ RelVs T (φ.hide D) H' ys us ∧ ys.length ≤ i ∧ RestL T W φ1 σ H1 Q new g c e (wipeE ρ own) (items.drop i) ys st) ?_ (fun i H' _ ⟨φ, _, _, _, e, _⟩ => w2 φ H' e.v) ?_ ?_
    · exact ⟨φ1, st1, [], [], Ext.fresh hR1 hD, hR1.hide hD, upd_same, .nil, Nat.le_refl _, rest0⟩
    · intro i x H' H2 hi ⟨φ, st, ys, us, e1, R, hDl, rv, hl, rest⟩ y
      have ev1 := e1.intoV hD
      obtain ⟨e2, s2, v, hv, rx⟩ := w3 i H' x H2 (φ.hide D) st hi ev1 R y
      have hd : items.drop i = v :: items.drop (i + 1) := by
        obtain ⟨hl, hv⟩ := List.getElem?_eq_some_iff.mp hv
        rw [List.drop_eq_getElem_cons hl, hv]
      rw [hd] at rest
      have re2 : RelE T (φ.hide D) (wipeE ρ own) st (wipe σ own) H2 := by
        refine ⟨s2, by rw [wipeE_length, wipe_length]; exact re1.len, fun k w hw => ?_⟩
        obtain ⟨h1, h2⟩ := wipeE_some hw
        obtain ⟨u, h3, h4⟩ := re1.get k w h1
        exact ⟨u, by rw [wipe_get, if_neg h2]; exact h3, (h4.extV ev1).ext e2⟩
      refine ⟨φ.hide D, wipeE ρ own, st, v, re2, rx, ?_⟩
      unfold RestL lcL at rest
      cases hg : g v (wipeE ρ own) st with
      | none => rw [hg] at rest; exact rest
      | some q =>
        obtain ⟨ρ3, st3⟩ := q
        rw [hg] at rest
        dsimp only at rest
        intro φ3 H3 σ3 e3 re3 hw3
        refine ⟨by rw [hw3, wipe_wipe], φ3, ρ3, st3, re3, ?_⟩
        cases hc : c ρ3 st3 with
        | ex x st4 => rw [hc] at rest; exact rest.elim
        | bad => rw [hc] at rest; exact rest.elim
        | ok b st4 =>
          rw [hc] at rest
          intro φ4 H4 b' e4 s4 hb
          subst hb
          have e24 := (e2.trans e3).trans e4
          cases b with
          | false =>
            refine iteF ?_
            obtain ⟨φ', rfl, ex1, _⟩ := Ext.outof e1 e24 hD nhD
            exact ⟨φ', st4, ys, us, ex1, s4, (e24.hidk D (List.mem_cons_self ..)).trans hDl, rv.ext e24, Nat.le_succ_of_le hl, rest⟩
          | true =>
            refine iteT ⟨φ4, ρ3, st4, re3.ext e4 s4, ?_⟩
            dsimp only at rest
            cases he : e ρ3 st4 with
            | ex x st5 => rw [he] at rest; exact rest.elim
            | bad => rw [he] at rest; exact rest.elim
            | ok y st5 =>
              rw [he] at rest
              dsimp only at rest
              intro φ5 H5 u5 e5 s5 r5
              have e25 := e24.trans e5
              obtain ⟨φ', rfl, ex1, ex2⟩ := Ext.outof e1 e25 hD nhD
              have hD5 : H5 D = some (.lst us) := (e25.hidk D (List.mem_cons_self ..)).trans hDl
              have hnt : ∀ ws, H5 D ≠ some (.tup ws) := fun ws z => by rw [hD5] at z; cases z
              refine ⟨us, hD5, ?_, φ', st5, ys ++ [y], us ++ [u5], ex2 _, s5.hidden hnt, upd_same, ((rv.ext e25).append (.cons r5 .nil)).extV (hidden_v hnt), ?_, ?_⟩
              · rw [← rv.length]
                exact Nat.lt_of_le_of_lt hl (Nat.lt_trans hi hz)
              · rw [List.length_append]
                exact Nat.succ_le_succ hl
              · unfold RestL
                cases hr : lcL g c e (wipeE ρ own) (items.drop (i + 1)) st5 with
                | ex x st6 => rw [hr] at rest; exact rest.elim
                | bad => rw [hr] at rest; exact rest.elim
                | ok zs st6 =>
                  rw [hr] at rest
                  dsimp only at rest ⊢
                  rw [List.append_assoc]
                  exact rest
    · intro H' ⟨φ, st, ys, us, e1, R, hDl, rv, hl, rest⟩
      rw [List.drop_length] at rest
      unfold RestL lcL at rest
      dsimp only at rest
      rw [List.append_nil] at rest
      have nD : ¬ Live φ D := by
        rintro (⟨n, hn⟩ | hm)
        · exact R.apart n D hn (List.mem_cons_self ..)
        · exact nhD D (e1.hid ▸ hm) rfl
      have R' := R.unhide
      have rv' := rv.extV unhideV
      unfold lcR at rest
      cases new with
      | false => exact rest φ H' _ e1 R' (.lst (.inl ⟨nD, .inl hDl⟩) rv')
      | true =>
        have rest : Post T (RelV T) W φ1 σ H1 Q (.ok (.loc st.length) (st ++ [.lst ys])) := rest
        have exA : Ext φ1 H1 (φ.add D) H' := {
          len := Nat.le_trans e1.len (by show φ.l.length ≤ (φ.l ++ [some D]).length; simp)
          old := fun n a h hn => by
            rcases add_get h with ⟨_, q⟩ | ⟨q, _⟩
            · exact e1.old n a q hn
            · have := e1.len; omega
          new := fun n a h hn => by
            rcases add_get h with ⟨_, q⟩ | ⟨_, q⟩
            · exact e1.new n a q hn
            · rw [q]; exact hD
          tups := e1.tups
          rd := e1.rd
          non := e1.non
          hid := e1.hid
          hidk := e1.hidk }
        have evA : ExtV (φ.hide D) H' (φ.add D) H' := {
          len := by show φ.l.length ≤ (φ.l ++ [some D]).length; simp
          old := fun n a h hn => by
            rcases add_get h with ⟨_, q⟩ | ⟨q, _⟩
            · exact q
            · have : n < φ.l.length := hn; omega
          tups := fun _ _ h => h
          nl := fun a h _ => by
            obtain ⟨h1, h2⟩ := live_hide h
            rintro (⟨n, hn⟩ | hm)
            · rcases add_get hn with ⟨_, q⟩ | ⟨_, q⟩
              · exact h1 (.inl ⟨n, q⟩)
              · exact h2 q
            · exact h1 (.inr hm)
          rd := fun _ _ _ r => r }
        have RA : Rst T (φ.add D) (st ++ [.lst ys]) H' := {
          len := by show (φ.l ++ [some D]).length = _; simp [R'.len]
          inj := fun n m a h1 h2 => by
            rcases add_get h1 with ⟨_, q1⟩ | ⟨l1, q1⟩
            · rcases add_get h2 with ⟨_, q2⟩ | ⟨l2, q2⟩
              · exact R'.inj n m a q1 q2
              · subst q2; exact absurd (.inl ⟨n, q1⟩) nD
            · rcases add_get h2 with ⟨_, q2⟩ | ⟨l2, q2⟩
              · subst q1; exact absurd (.inl ⟨m, q2⟩) nD
              · omega
          ob := fun n o h => by
            by_cases hn : n < st.length
            · rw [List.getElem?_append_left hn] at h
              rcases R.ob n o h with ⟨q1, q2⟩ | ⟨a, q, r⟩
              · exact .inl ⟨q1, add_old q2⟩
              · exact .inr ⟨a, add_old q, r.extV evA rfl⟩
            · rw [List.getElem?_append_right (by omega)] at h
              have e : n - st.length = 0 := by
                have := (List.getElem?_eq_some_iff.mp h).1
                simp at this; omega
              rw [e] at h
              simp at h
              subst h
              refine .inr ⟨D, ?_, us, hDl, rv.extV evA⟩
              have : n = φ.l.length := by rw [R'.len]; omega
              subst this
              show (φ.l ++ [some D])[φ.l.length]? = _
              simp
          hid := R'.hid
          apart := fun n a h z => by
            rcases add_get h with ⟨_, q⟩ | ⟨_, q⟩
            · exact R'.apart n a q z
            · subst q; exact nD (.inr z) }
        exact rest _ H' _ exA RA (rel_loc R')
  · exact p.elim
theorem e_lc {new : Bool} {elt tg iter : Expr} {ifs : List Expr} {scope : Scope} (own : List (Str × Nat)) {pos : Pos} {it : EI} {g : G} {c : ET} {e : E} (hc : X.calm = true) (hN : X.N.Nodup) (hi : PI X tg iter (tI T W it)) (ok : BlkOk X.N X.env.scope scope own)
    (hg : ∀ (s : Shared) (H : Hp) (C : Addr) (cl : List (Str × Addr)) (fp : List Addr), PG (X.blk s H scope (compEnvC scope cl C X.env) fp) tg (tGw T (own.map (·.2)) g))
    (ht : ∀ (s : Shared) (H : Hp) (C : Addr) (cl : List (Str × Addr)) (fp : List Addr), PTs (X.blk s H scope (compEnvC scope cl C X.env) fp) ifs (tT T W0 c))
    (he : ∀ (s : Shared) (H : Hp) (C : Addr) (cl : List (Str × Addr)) (fp : List Addr), PE (X.blk s H scope (compEnvC scope cl C X.env) fp) elt (tE T W0 e)) (hs : ∀ x, foldedSetIterable iter X.env x = pure x := by intro _; rfl) :
    PE X (.ListComp elt [⟨tg, iter, ifs, 0⟩] scope pos) (tE T W (eLc new (own.map (·.2)) it g c e)) := pe_imp (pe_lc hc hN hi ok hg ht he hs) fun _ _ _ h => lc_sound h
/-- name = [..] on one line -/
theorem s_setLc {new : Bool} {i : Nat} {y : Str} {py : Pos} {elt tg iter : Expr} {ifs : List Expr} {scope : Scope} (own : List (Str × Nat)) {pos spos : Pos} {it : EI} {g : G} {c : ET} {e : E} (hc : X.calm = true) (hN : X.N.Nodup) (hi : PI X tg iter (tI T W it)) (ok : BlkOk X.N X.env.scope scope own)
    (hg : ∀ (s : Shared) (H : Hp) (C : Addr) (cl : List (Str × Addr)) (fp : List Addr), PG (X.blk s H scope (compEnvC scope cl C X.env) fp) tg (tGw T (own.map (·.2)) g))
    (ht : ∀ (s : Shared) (H : Hp) (C : Addr) (cl : List (Str × Addr)) (fp : List Addr), PTs (X.blk s H scope (compEnvC scope cl C X.env) fp) ifs (tT T W0 c))
    (he : ∀ (s : Shared) (H : Hp) (C : Addr) (cl : List (Str × Addr)) (fp : List Addr), PE (X.blk s H scope (compEnvC scope cl C X.env) fp) elt (tE T W0 e))
    (hsw : swapsWith (.ListComp elt [⟨tg, iter, ifs, 0⟩] scope pos) (some (.Name y py)) spos.line X.env = pure true)
    (hy : X.N[i]? = some y := by rfl) (hyl : X.env.scope.names.lookup y = some .local := by rfl) (hs : ∀ x, foldedSetIterable iter X.env x = pure x := by intro _; rfl) :
    PS X (.Assign [.Name y py] (.ListComp elt [⟨tg, iter, ifs, 0⟩] scope pos) spos) (tS T W (sSet i (eLc new (own.map (·.2)) it g c e))) := by
  refine ps_imp (ps_setLc hc hN hy hyl hsw hi ok hg ht he hs) fun D σ H h => ?_
  refine lc_sound (new := new) (W := W) ?_
  exact tS_bind h fun v ρ st1 φ1 H1 u re1 q1 p1 => p1 φ1 H1 _ Ext.refl (re1.set q1 i)
end
end Ev

set_option Elab.async false
set_option linter.all false
set_option maxRecDepth 100000
set_option maxHeartbeats 2000000
namespace Ev
open PySem PySem.Spec PyProof.Rows L2

mutual
def Val.same : Val → Val → Bool
  | .non, .non => true
  | .bl a, .bl b => a == b
  | .int a, .int b => decide (a = b)
  | .str a, .str b => decide (a = b)
  | .tup a, .tup b => Val.sames a b
  | .lst a, .lst b => Val.sames a b
  | .dct k a, .dct l b => decide (k = l) && Val.sames a b
  | .loc a, .loc b => a == b
  | .exc c k a, .exc d l b => c == d && decide (k = l) && Val.sames a b
  | _, _ => false
def Val.sames : List Val → List Val → Bool
  | [], [] => true
  | x :: xs, y :: ys => Val.same x y && Val.sames xs ys
  | _, _ => false
end
mutual
theorem Val.same_refl : ∀ v : Val, Val.same v v = true
  | .non => rfl
  | .bl b => by simp [Val.same]
  | .int i => by simp [Val.same]
  | .str s => by simp [Val.same]
  | .tup xs => by simp [Val.same, Val.sames_refl xs]
  | .lst xs => by simp [Val.same, Val.sames_refl xs]
  | .dct k xs => by simp [Val.same, Val.sames_refl xs]
  | .loc n => by simp [Val.same]
  | .exc c k xs => by simp [Val.same, Val.sames_refl xs]
theorem Val.sames_refl : ∀ vs : List Val, Val.sames vs vs = true
  | [] => rfl
  | v :: vs => by simp [Val.sames, Val.same_refl v, Val.sames_refl vs]
end
mutual
theorem Val.eq_of_same : ∀ {v w : Val}, Val.same v w = true → v = w
  | .non, w, h => by cases w <;> simp_all [Val.same]
  | .bl b, w, h => by cases w <;> simp_all [Val.same]
  | .int i, w, h => by cases w <;> simp_all [Val.same]
  | .str s, w, h => by cases w <;> simp_all [Val.same]
  | .loc n, w, h => by cases w <;> simp_all [Val.same]
  | .tup xs, w, h => by
    cases w <;> simp only [Val.same] at h <;> first | cases h | rw [Val.eq_of_sames h]
  | .lst xs, w, h => by
    cases w <;> simp only [Val.same] at h <;> first | cases h | rw [Val.eq_of_sames h]
  | .dct k xs, w, h => by
    cases w <;> simp only [Val.same, Bool.and_eq_true, decide_eq_true_eq] at h <;> first | cases h; done | (obtain ⟨h1, h2⟩ := h; rw [h1, Val.eq_of_sames h2])
  | .exc c k xs, w, h => by
    cases w <;> simp only [Val.same, Bool.and_eq_true, decide_eq_true_eq, beq_iff_eq] at h <;> first | cases h; done | (obtain ⟨⟨h0, h1⟩, h2⟩ := h; rw [h0, h1, Val.eq_of_sames h2])
theorem Val.eq_of_sames : ∀ {v w : List Val}, Val.sames v w = true → v = w
  | [], w, h => by cases w <;> simp_all [Val.sames]
  | x :: xs, w, h => by
    cases w with
    | nil => cases h
    | cons y ys =>
      simp only [Val.sames, Bool.and_eq_true] at h
      rw [Val.eq_of_same h.1, Val.eq_of_sames h.2]
end
def pairsSame {κ : Type} [DecidableEq κ] : List (κ × Val) → List (κ × Val) → Bool
  | [], [] => true
  | x :: xs, y :: ys => decide (x.1 = y.1) && Val.same x.2 y.2 && pairsSame xs ys
  | _, _ => false
theorem pairsSame_refl {κ : Type} [DecidableEq κ] : ∀ xs : List (κ × Val), pairsSame xs xs = true
  | [] => rfl
  | x :: xs => by simp [pairsSame, Val.same_refl, pairsSame_refl xs]
theorem eq_of_pairs {κ : Type} [DecidableEq κ] : ∀ {xs ys : List (κ × Val)}, pairsSame xs ys = true → xs = ys
  | [], ys, h => by cases ys <;> simp_all [pairsSame]
  | x :: xs, ys, h => by
    cases ys with
    | nil => cases h
    | cons y ys =>
      simp only [pairsSame, Bool.and_eq_true, decide_eq_true_eq] at h
      obtain ⟨⟨h1, h2⟩, h3⟩ := h
      obtain ⟨a, b⟩ := x
      obtain ⟨c, d⟩ := y
      dsimp only at h1 h2
      rw [h1, Val.eq_of_same h2, eq_of_pairs h3]
def Ob.same : Ob → Ob → Bool
  | .dead, .dead => true
  | .lst a, .lst b => Val.sames a b
  | .dK a, .dK b => pairsSame a b
  | .dT a, .dT b => pairsSame a b
  | .lkK a, .lkK b => pairsSame a b
  | .lkT a, .lkT b => pairsSame a b
  | .ins c a, .ins d b => c == d && pairsSame a b
  | .dN a, .dN b => a == b
  | _, _ => false
theorem Ob.same_refl : ∀ o : Ob, Ob.same o o = true
  | .dead => rfl
  | .lst a => Val.sames_refl a
  | .dK a => pairsSame_refl a
  | .dT a => pairsSame_refl a
  | .lkK a => pairsSame_refl a
  | .lkT a => pairsSame_refl a
  | .ins c a => by simp [Ob.same, pairsSame_refl a]
  | .dN a => by simp [Ob.same]
theorem Ob.eq_of_same {o p : Ob} (h : Ob.same o p = true) : o = p := by
  cases o <;> cases p <;> simp only [Ob.same, Bool.and_eq_true, beq_iff_eq] at h <;> first | cases h; done | rfl | rw [h] | rw [Val.eq_of_sames h] | rw [eq_of_pairs h] | (rw [h.1, eq_of_pairs h.2])

mutual
def belV (n : Nat) : Val → Bool
  | .tup xs => belVs n xs
  | .lst xs => belVs n xs
  | .dct _ xs => belVs n xs
  | .exc _ _ xs => belVs n xs
  | .loc m => decide (m < n)
  | _ => true
def belVs (n : Nat) : List Val → Bool
  | [] => true
  | x :: xs => belV n x && belVs n xs
end
def belOb (n : Nat) : Ob → Bool
  | .dead => true
  | .lst a => belVs n a
  | .dK a => a.all fun p => belV n p.2
  | .dT a => a.all fun p => belV n p.2
  | .lkK a => a.all fun p => belV n p.2
  | .lkT a => a.all fun p => belV n p.2
  | .ins _ a => a.all fun p => belV n p.2
  | .dN _ => true
def Phi.tk (φ : Phi) (n : Nat) : Phi := { φ with l := φ.l.take n }
section
variable {T : Tab} {φ : Phi} {H : Hp}
mutual
theorem bel_of_rel : ∀ {v : Val} {u : V}, RelV T φ H v u → belV φ.l.length v = true
  | _, _, .non => rfl
  | _, _, .bl _ => rfl
  | _, _, .int _ => rfl
  | _, _, .str _ => rfl
  | _, _, .tup _ r => bels_of_rel r
  | _, _, .lst _ r => bels_of_rel r
  | _, _, .dct _ _ _ r => bels_of_rel r
  | _, _, .exc _ _ _ _ _ r => bels_of_rel r
  | _, _, .loc h _ => decide_eq_true h
theorem bels_of_rel : ∀ {v : List Val} {u : List V}, RelVs T φ H v u → belVs φ.l.length v = true
  | _, _, .nil => rfl
  | _, _, .cons a b => by rw [belVs, bel_of_rel a, bels_of_rel b]; rfl
end
theorem tk_get {n k : Nat} {a : Addr} (h : (φ.tk n).l[k]? = some (some a)) : k < n ∧ φ.l[k]? = some (some a) := by
  have h : (φ.l.take n)[k]? = some (some a) := h
  rw [List.getElem?_take] at h
  split at h
  · exact ⟨by assumption, h⟩
  · cases h
theorem live_tk {n : Nat} {a : Addr} (h : ¬ Live φ a) : ¬ Live (φ.tk n) a := by
  rintro (⟨k, hk⟩ | hm)
  · exact h (.inl ⟨k, (tk_get hk).2⟩)
  · exact h (.inr hm)
mutual
theorem rel_tk {n : Nat} (hn : n ≤ φ.l.length) : ∀ {v : Val} {u : V}, RelV T φ H v u → belV n v = true → RelV T (φ.tk n) H v u
  | _, _, .non, _ => .non
  | _, _, .bl b, _ => .bl b
  | _, _, .int i, _ => .int i
  | _, _, .str s, _ => .str s
  | _, _, .tup h r, q => .tup h (rels_tk hn r q)
  | _, _, .lst h r, q => .lst (h.elim (fun z => .inl ⟨live_tk z.1, z.2⟩) .inr) (rels_tk hn r q)
  | _, _, .dct n1 h l r, q => .dct (live_tk n1) h l (rels_tk hn r q)
  | _, _, .exc n1 n2 h1 h2 l r, q => .exc (live_tk n1) (live_tk n2) h1 h2 l (rels_tk hn r q)
  | _, _, .loc h r, q => .loc (by
      have q := of_decide_eq_true q
      show _ < (φ.l.take n).length
      rw [List.length_take]; omega) (fun a z => r a (tk_get z).2)
theorem rels_tk {n : Nat} (hn : n ≤ φ.l.length) : ∀ {v : List Val} {u : List V}, RelVs T φ H v u → belVs n v = true → RelVs T (φ.tk n) H v u
  | _, _, .nil, _ => .nil
  | _, _, .cons a b, q => by
    rw [belVs, Bool.and_eq_true] at q
    exact .cons (rel_tk hn a q.1) (rels_tk hn b q.2)
end
theorem relF_tk {κ : Type} {n : Nat} (hn : n ≤ φ.l.length) {xs : List (κ × Val)} {us : List (κ × V)} (r : RelF T φ H xs us) (h : (xs.all fun p => belV n p.2) = true) : RelF T (φ.tk n) H xs us := by
  induction r with
  | nil => exact .nil
  | cons a _ ih =>
    rw [List.all_cons, Bool.and_eq_true] at h
    exact .cons ⟨a.1, rel_tk hn a.2 h.1⟩ (ih h.2)
theorem relF_bel {κ : Type} {xs : List (κ × Val)} {us : List (κ × V)} (r : RelF T φ H xs us) : (xs.all fun p => belV φ.l.length p.2) = true := by
  induction r with
  | nil => rfl
  | cons a _ ih => rw [List.all_cons, bel_of_rel a.2, ih]; rfl
theorem relOb_tk {n : Nat} (hn : n ≤ φ.l.length) {o : Ob} {a : Addr} (r : RelOb T φ H o a) (h : belOb n o = true) : RelOb T (φ.tk n) H o a := by
  cases o with
  | dead => exact r
  | lst xs => obtain ⟨us, q, r⟩ := r; exact ⟨us, q, rels_tk hn r h⟩
  | dK kvs => obtain ⟨us, q, r⟩ := r; exact ⟨us, q, relF_tk hn r h⟩
  | dT kvs => obtain ⟨us, q, r⟩ := r; exact ⟨us, q, relF_tk hn r h⟩
  | lkK kvs => obtain ⟨o, us, q, r⟩ := r; exact ⟨o, us, q, relF_tk hn r h⟩
  | lkT kvs => obtain ⟨o, us, q, r⟩ := r; exact ⟨o, us, q, relF_tk hn r h⟩
  | ins c fs => obtain ⟨o, us, q, r⟩ := r; exact ⟨o, us, q, relF_tk hn r h⟩
  | dN kvs => exact r
theorem relOb_bel {o : Ob} {a : Addr} (r : RelOb T φ H o a) : belOb φ.l.length o = true := by
  cases o with
  | dead => rfl
  | lst xs => obtain ⟨us, q, r⟩ := r; exact bels_of_rel r
  | dK kvs => obtain ⟨us, q, r⟩ := r; exact relF_bel r
  | dT kvs => obtain ⟨us, q, r⟩ := r; exact relF_bel r
  | lkK kvs => obtain ⟨o, us, q, r⟩ := r; exact relF_bel r
  | lkT kvs => obtain ⟨o, us, q, r⟩ := r; exact relF_bel r
  | ins c fs => obtain ⟨o, us, q, r⟩ := r; exact relF_bel r
  | dN kvs => rfl
end
/-- the store's first things are as they were, or reach no new thing -/
def okOld (st0 st : Sto) : Bool := (List.range st0.length).all fun i => match st0[i]?, st[i]? with
  | some a, some b => Ob.same a b || belOb st0.length b
  | _, _ => false
/-- a store's list or dict, let go -/
def frz1 (n : Nat) (st : Sto) (v : Val) : Option Val := if belV n v then some v else match v with
  | .loc m => match st[m]? with
    | some (.lst xs) => if belVs n xs then some (.lst xs) else none
    | some (.dK kvs) => if (kvs.all fun p => belV n p.2) then some (.dct (kvs.map (·.1)) (kvs.map (·.2))) else none
    | _ => none
  | _ => none
def frzs (n : Nat) (st : Sto) : List Val → Option (List Val)
  | [] => some []
  | x :: xs => match frz1 n st x, frzs n st xs with
    | some y, some ys => some (y :: ys)
    | _, _ => none
def frzV (n : Nat) (st : Sto) (v : Val) : Option Val := match frz1 n st v with
  | some w => some w
  | none => match v with
    | .tup xs => (frzs n st xs).map .tup
    | _ => none
/-- what a call leaves -/
def fin (st0 : Sto) (v : Val) (st : Sto) : Res Val := if okOld st0 st then (match frzV st0.length st v with
  | some w => .ok w (st.take st0.length)
  | none => .ok v st) else .ok v st
def finX (st0 : Sto) (x : Val) (st : Sto) : Res Val := if okOld st0 st && belV st0.length x then .ex x (st.take st0.length) else .ex x st
def outF (st0 : Sto) : SR → Res Val
  | .nx _ st => fin st0 .non st
  | .rt v st => fin st0 v st
  | .ex x _ st => finX st0 x st
  | _ => .bad
def startE (n : Nat) (args : List Val) : Env := args.map some ++ List.replicate (n - args.length) none
abbrev Fn := List Val → Sto → Res Val
def runF (n : Nat) (body : S) : Fn := fun args st => outF st (body (startE n args) st)

section
variable {T : Tab} {φ φ' : Phi} {H H' : Hp} {st st' : Sto}
theorem okOld_get (h : okOld st st' = true) {i : Nat} {b : Ob} (hi : i < st.length) (hb : st'[i]? = some b) : st[i]? = some b ∨ belOb st.length b = true := by
  unfold okOld at h
  rw [List.all_eq_true] at h
  have q := h i (List.mem_range.mpr hi)
  rw [List.getElem?_eq_getElem hi, hb] at q
  dsimp only at q
  rw [Bool.or_eq_true] at q
  rcases q with q | q
  · exact .inl (by rw [List.getElem?_eq_getElem hi, Ob.eq_of_same q])
  · exact .inr q
theorem Ext.tk (R : Rst T φ st H) (e : Ext φ H φ' H') : Ext φ H (φ'.tk st.length) H' where
  len := by
    show φ.l.length ≤ (φ'.l.take st.length).length
    rw [List.length_take, ← R.len]
    have := e.len
    omega
  old := fun n a h hn => e.old n a (tk_get h).2 hn
  new := fun n a h hn => e.new n a (tk_get h).2 hn
  tups := e.tups
  rd := e.rd
  non := e.non
  hid := e.hid
  hidk := e.hidk
theorem Rst.tk (R : Rst T φ st H) (e : Ext φ H φ' H') (R' : Rst T φ' st' H') (h : okOld st st' = true) : Rst T (φ'.tk st.length) (st'.take st.length) H' where
  len := by
    show (φ'.l.take st.length).length = _
    rw [List.length_take, List.length_take, R'.len]
  inj := fun n m a h1 h2 => R'.inj n m a (tk_get h1).2 (tk_get h2).2
  ob := fun n o ho => by
    have hn : n < st.length := by
      have := (List.getElem?_eq_some_iff.mp ho).1
      rw [List.length_take] at this
      omega
    rw [List.getElem?_take_of_lt hn] at ho
    have hle : st.length ≤ φ'.l.length := by rw [← R.len]; exact e.len
    have keep : ∀ {x : Option Addr}, φ'.l[n]? = some x → (φ'.tk st.length).l[n]? = some x := fun {x} q => by
      show (φ'.l.take st.length)[n]? = _
      rw [List.getElem?_take_of_lt hn]; exact q
    rcases R'.ob n o ho with ⟨q1, q2⟩ | ⟨a, q, r⟩
    · exact .inl ⟨q1, keep q2⟩
    · refine .inr ⟨a, keep q, relOb_tk hle r ?_⟩
      rcases okOld_get h hn ho with z | z
      · rcases R.ob n o z with ⟨rfl, _⟩ | ⟨b, _, r2⟩
        · rfl
        · rw [← R.len]; exact relOb_bel r2
      · exact z
  hid := R'.hid
  apart := fun n a h1 => R'.apart n a (tk_get h1).2
theorem rel_frz1 (R : Rst T φ st H) (e : Ext φ H φ' H') (R' : Rst T φ' st' H') {v w : Val} {u : V} (r : RelV T φ' H' v u) (h : frz1 st.length st' v = some w) : RelV T (φ'.tk st.length) H' w u := by
  have hle : st.length ≤ φ'.l.length := by rw [← R.len]; exact e.len
  unfold frz1 at h
  split at h
  · rename_i hb
    cases h
    exact rel_tk hle r hb
  · rename_i hnb
    split at h
    · rename_i m
      have hm : st.length ≤ m := by
        refine Nat.le_of_not_lt fun z => hnb ?_
        exact decide_eq_true z
      have nl : ∀ a, φ'.l[m]? = some (some a) → ¬ Live (φ'.tk st.length) a := fun a ha => by
        rintro (⟨k, hk⟩ | hh)
        · obtain ⟨h1, h2⟩ := tk_get hk
          have := R'.inj k m a h2 ha
          omega
        · exact R'.apart m a ha hh
      cases r with
      | loc hn hu =>
        split at h
        · rename_i xs q
          split at h
          · rename_i hb
            cases h
            obtain ⟨a, e1, us, e2, e3⟩ := R'.at q (by simp)
            rw [hu a e1]
            exact .lst (.inl ⟨nl a e1, .inl e2⟩) (rels_tk hle e3 hb)
          · cases h
        · rename_i kvs q
          split at h
          · rename_i hb
            cases h
            obtain ⟨a, e1, us, e2, e3⟩ := R'.at q (by simp)
            rw [hu a e1]
            have hk : us = (kvs.map (·.1)).zip (us.map (·.2)) := by
              clear hb q e2
              induction e3 with
              | nil => rfl
              | cons a _ ih =>
                rename_i p q _ _ _
                obtain ⟨x, y⟩ := q
                have h1 : p.1 = x := a.1
                simp only [List.map_cons, List.zip_cons_cons, h1, ← ih]
            have hv : RelVs T (φ'.tk st.length) H' (kvs.map (·.2)) (us.map (·.2)) := by
              clear hk q e2
              have e4 := relF_tk hle e3 hb
              clear hb e3
              induction e4 with
              | nil => exact .nil
              | cons a _ ih => exact .cons a.2 ih
            refine .dct (nl a e1) (.inl (by rw [← hk]; exact e2)) ?_ hv
            rw [List.length_map, List.length_map]
            exact Paired.length e3
          · cases h
        · cases h
    · cases h
theorem rel_frzs (R : Rst T φ st H) (e : Ext φ H φ' H') (R' : Rst T φ' st' H') : ∀ {vs ws : List Val} {us : List V}, RelVs T φ' H' vs us → frzs st.length st' vs = some ws → RelVs T (φ'.tk st.length) H' ws us
  | _, _, _, .nil, h => by cases h; exact .nil
  | _, _, _, .cons a b, h => by
    rw [frzs] at h
    split at h
    · rename_i y ys e1 e2
      cases h
      exact .cons (rel_frz1 R e R' a e1) (rel_frzs R e R' b e2)
    · cases h
theorem rel_frzV (R : Rst T φ st H) (e : Ext φ H φ' H') (R' : Rst T φ' st' H') {v w : Val} {u : V} (r : RelV T φ' H' v u) (h : frzV st.length st' v = some w) : RelV T (φ'.tk st.length) H' w u := by
  unfold frzV at h
  split at h
  · rename_i z e1
    cases h
    exact rel_frz1 R e R' r e1
  · split at h
    · simp only [Option.map_eq_some_iff] at h
      obtain ⟨ws, e1, rfl⟩ := h
      cases r with
      | tup h1 h2 => exact .tup h1 (rel_frzs R e R' h2 e1)
    · cases h
end

def PostF (T : Tab) (φ : Phi) (H : Hp) (Q : VK) (E : XK) : Res Val → Prop
  | .ok v st => ∀ φ' H' u, Ext φ H φ' H' → Rst T φ' st H' → RelV T φ' H' v u → Q u H'
  | .ex x st => ∀ φ' H' c d, Ext φ H φ' H' → Rst T φ' st H' → RelX T φ' H' x c d → E c d H'
  | .bad => False
def spF (T : Tab) (np : Nat) (m : Fn) : Sp := fun vs H Q E => vs.length = np ∧ ∃ φ args st, Rst T φ st H ∧ RelVs T φ H args vs ∧ PostF T φ H Q E (m args st)
section
variable {T : Tab}
theorem relX_tk {φ : Phi} {H : Hp} {n : Nat} {x : Val} {c : Value} {d : Option Addr} (hn : n ≤ φ.l.length) (r : RelX T φ H x c d) (h : belV n x = true) : RelX T (φ.tk n) H x c d := by
  obtain ⟨k, ns, vs, us, dd, rfl, h1, h2, h3, h4, h5, h6⟩ := r
  exact ⟨k, ns, vs, us, dd, rfl, h1, h2, live_tk h3, h4, h5, rels_tk hn h6 h⟩
theorem relE_start {φ : Phi} {st : Sto} {H : Hp} {N : List Str} {args : List Val} {vs : List V} (R : Rst T φ st H) (r : RelVs T φ H args vs) (hl : vs.length ≤ N.length) : RelE T φ (startE N.length args) st (L2.start N vs) H := by
  have hlen := r.length
  refine ⟨R, ?_, fun i v h => ?_⟩
  · unfold startE L2.start
    simp only [List.length_append, List.length_map, List.length_replicate]
    omega
  · unfold startE at h
    unfold L2.start
    by_cases hi : i < args.length
    · rw [List.getElem?_append_left (by simpa using hi), List.getElem?_map] at h
      cases e : args[i]? with
      | none => rw [e] at h; cases h
      | some a =>
        rw [e] at h
        cases h
        obtain ⟨u, h1, h2⟩ := r.get e
        exact ⟨u, by rw [List.getElem?_append_left (by simp; omega), List.getElem?_map, h1]; rfl, h2⟩
    · rw [List.getElem?_append_right (by simp; omega), List.getElem?_replicate] at h
      split at h <;> cases h
theorem body_sound {N : List Str} {np : Nat} {body : S} {vs : List V} {H : Hp} {Q : VK} {E : XK} (hn : np ≤ N.length) (h : spF T np (runF N.length body) vs H Q E) :
    tS T (fun c d _ H' => E c d H') body { nx := fun _ H' => Q .non H', rt := Q } (L2.start N vs) H := by
  obtain ⟨hl, φ, args, st, R, r, p⟩ := h
  refine ⟨φ, startE N.length args, st, relE_start R r (by omega), ?_⟩
  unfold runF at p
  have done : ∀ v st' φ' H' u, PostF T φ H Q E (fin st v st') → Ext φ H φ' H' → Rst T φ' st' H' → RelV T φ' H' v u → Q u H' := by
    intro v st' φ' H' u p e R' rv
    unfold fin at p
    split at p
    · rename_i ho
      split at p
      · rename_i w hw
        exact p _ H' u (Ext.tk R e) (Rst.tk R e R' ho) (rel_frzV R e R' rv hw)
      · exact p φ' H' u e R' rv
    · exact p φ' H' u e R' rv
  cases hb : body (startE N.length args) st with
  | nx ρ st' => rw [hb] at p; exact fun φ' H' σ' e re => done .non st' φ' H' .non p e re.rst .non
  | rt v st' => rw [hb] at p; exact fun φ' H' u e s q => done v st' φ' H' u p e s q
  | bk ρ st' => rw [hb] at p; exact p.elim
  | ct ρ st' => rw [hb] at p; exact p.elim
  | bad => rw [hb] at p; exact p.elim
  | ex x ρ st' =>
    rw [hb] at p
    intro φ' H' σ' c d e re rx
    have p : PostF T φ H Q E (finX st x st') := p
    unfold finX at p
    split at p
    · rename_i hh
      rw [Bool.and_eq_true] at hh
      have hle : st.length ≤ φ'.l.length := by rw [← R.len]; exact e.len
      exact p _ H' c d (Ext.tk R e) (Rst.tk R e re.rst hh.1) (relX_tk hle rx hh.2)
    · exact p φ' H' c d e re.rst rx
/-- a def whose new things are not let go -/
def outK : SR → Res Val
  | .nx _ st => .ok .non st
  | .rt v st => .ok v st
  | .ex x _ st => .ex x st
  | _ => .bad
def runK (n : Nat) (body : S) : Fn := fun args st => outK (body (startE n args) st)
inductive IsRun (n : Nat) (body : S) : Fn → Prop
  | f : IsRun n body (runF n body)
  | k : IsRun n body (runK n body)
theorem body_soundR {N : List Str} {np : Nat} {body : S} {m : Fn} (hm : IsRun N.length body m) {vs : List V} {H : Hp} {Q : VK} {E : XK} (hn : np ≤ N.length) (h : spF T np m vs H Q E) :
    tS T (fun c d _ H' => E c d H') body { nx := fun _ H' => Q .non H', rt := Q } (L2.start N vs) H := by
  cases hm with
  | f => exact body_sound hn h
  | k =>
    obtain ⟨hl, φ, args, st, R, r, p⟩ := h
    refine ⟨φ, startE N.length args, st, relE_start R r (by omega), ?_⟩
    unfold runK at p
    cases hb : body (startE N.length args) st with
    | nx ρ st' => rw [hb] at p; exact fun φ' H' σ' e re => p φ' H' .non e re.rst .non
    | rt v st' => rw [hb] at p; exact fun φ' H' u e s q => p φ' H' u e s q
    | bk ρ st' => rw [hb] at p; exact p.elim
    | ct ρ st' => rw [hb] at p; exact p.elim
    | bad => rw [hb] at p; exact p.elim
    | ex x ρ st' => rw [hb] at p; exact fun φ' H' σ' c d e re rx => p φ' H' c d e re.rst rx
/-- THE RULE for a def -/
theorem fn_ok {P : Program} {w : World} {K : PySem.W.Frag} {mg : Str → Option Value} {base : Heap} {x qual : Str} {st : Stmt} {f : Addr} {fd : FuncData} {N ps : List Str} {k : Nat} {body : S} (F : Fun K x qual st f fd) (Sc : FnScope N ps (defScope st))
    (hb : ∀ (cdv : Value) (A : Around) (outer : List PySem.Env) (s : Shared) (H : Hp) (E : XK), Room k (A.deeper (envOfC qual (defScope st) s.heap.objs.size f cdv)) →
      PSs (cxOf (L2.CX P w) P w K mg base N qual (defScope st) f cdv A outer s H E) (defBody st) (tS T (fun c d _ H' => E c d H') body)) : FnOk P w K mg base (L2.CX P w) (k + 1) f fd ps (spF T ps.length (runF N.length body)) := by
  have hpl : ps.length ≤ N.length := by have := congrArg List.length Sc.pre; rw [List.length_take] at this; omega
  exact F.okX Sc (fun vs H Q E h => h.1) fun cdv A outer s H vs Q E hr h => ⟨_, hb cdv A outer s H E hr, body_sound hpl h⟩
end

section
variable {X : Cx} {T : Tab} {W : WX}
def eCall (np : Nat) (m : Fn) (a : EA) : E := fun ρ st => bindR (a ρ st) fun vs st1 => if vs.length = np then m vs st1 else .bad
theorem call_sound {m : Fn} {np : Nat} {vs : List Val} {us : List V} {φ : Phi} {st : Sto} {σ : L2.St} {H : Hp} {Q : VK} (R : Rst T φ st H) (r : RelVs T φ H vs us) (p : Post T (RelV T) W φ σ H Q (if vs.length = np then m vs st else .bad)) :
    spF T np m us H Q (fun c d H' => W c d σ H') := by
  split at p
  · rename_i hn
    refine ⟨by rw [← r.length]; exact hn, φ, vs, st, R, r, ?_⟩
    cases h : m vs st with
    | ok v st' => rw [h] at p; exact p
    | ex x st' => rw [h] at p; exact p
    | bad => rw [h] at p; exact p
  · exact p.elim
/-- f(a, ..) -/
theorem e_call {k : Nat} {f : Addr} {fd : FuncData} {ps : List Str} {m : Fn} {x : Str} {p pos : Pos} {e : Expr} {es : List Expr} {as : EA} (F : FnOk X.prog X.w X.K X.mg X.base (CX X.prog X.w) k f fd ps (spF T ps.length m)) (hr : Room k X.A) (hm : X.mg x = some (.ref f))
    (hk : PySem.W.keepIn X.K (.ref f) = true) (hb : Binds X.K fd ps []) (tk : Takes X W) (ha : PA X (e :: es) (tA T W as)) (hg : Gl X x := by rfl) (hdb : (x == ("__debug__" : Str)) = false := by decide)
    (he : starEach (e :: es) X.env = (false, eval e X.env) :: starEach es X.env := by rfl) (hpl : (backTo pos (starEach es X.env)).any (·.1) = false := by rfl) :
    PE X (.Call (.Name x p) (e :: es) [] pos) (tE T W (eCall ps.length m as)) := by
  refine pe_imp (pe_callS (E := fun σ c d H' => W c d σ H') F hr hg hm hk hb (fun σ => passAt tk σ) ha hdb he hpl) fun σ H Q h => ?_
  obtain ⟨φ, ρ, st, re, pp⟩ := h
  exact ⟨φ, ρ, st, re, post_bind pp fun vs st1 φ1 H1 us eq e1 s1 q1 p1 => call_sound s1 q1 p1⟩
/-- f() -/
theorem e_call0 {k : Nat} {f : Addr} {fd : FuncData} {m : Fn} {x : Str} {p pos : Pos} {E : XK} (F : FnOk X.prog X.w X.K X.mg X.base (CX X.prog X.w) k f fd [] (spF T 0 m)) (hr : Room k X.A) (hm : X.mg x = some (.ref f))
    (hk : PySem.W.keepIn X.K (.ref f) = true) (hb : Binds X.K fd [] []) (hx : Passes (CX X.prog X.w) X E) (hW : ∀ c d H' σ, W c d σ H' → E c d H') (hg : Gl X x := by rfl) (hdb : (x == ("__debug__" : Str)) = false := by decide) :
    PE X (.Call (.Name x p) [] [] pos) (tE T W (eCall 0 m eNil)) := by
  refine pe_imp (pe_call0 (E := E) F hr hg hm hk hb .nil hx hdb) fun σ H Q h => ?_
  obtain ⟨φ, ρ, st, re, pp⟩ := h
  have q := call_sound (np := 0) re.rst .nil pp
  obtain ⟨a1, φ1, args, st1, R1, r1, p1⟩ := q
  refine ⟨a1, φ1, args, st1, R1, r1, ?_⟩
  cases hm : m args st1 with
  | ok v st' => rw [hm] at p1; exact p1
  | ex x st' => rw [hm] at p1; exact fun φ' H' c d e s q => hW c d H' σ (p1 φ' H' c d e s q)
  | bad => rw [hm] at p1; exact p1

def SndC (T : Tab) (r : List V → Hp → VK → Prop) (f : Sto → List Val → Option Val) : Prop :=
  ∀ φ st H vs us z Q, Rst T φ st H → RelVs T φ H vs us → f st vs = some z →
    (∀ H' u, Ext φ H φ H' → Rst T φ st H' → RelV T φ H' z u → Q u H') → r us H Q
def eBf (f : Sto → List Val → Option Val) (a : EA) : E := fun ρ st => bindR (a ρ st) fun vs st1 => optR (f st1 vs) st1
theorem bf_sound {r : List V → Hp → VK → Prop} {f : Sto → List Val → Option Val} (hs : SndC T r f) {a : EA} {σ : L2.St} {H : Hp} {Q : VK} (h : tE T W (eBf f a) σ H Q) : tCB r (tA T W a) σ H Q := by
  refine tG_bind h fun vs ρ st1 φ1 H1 us re1 q1 p1 => ?_
  cases hf : f st1 vs with
  | none => rw [hf] at p1; exact p1.elim
  | some z =>
    rw [hf] at p1
    exact hs φ1 st1 H1 vs us z Q re1.rst q1 hf fun H' u e s q => p1 φ1 H' u e s q
theorem e_bf {id : String} {x : Str} {r : List V → Hp → VK → Prop} {f : Sto → List Val → Option Val} {e : Expr} {es : List Expr} {as : EA} {p pos : Pos} (hc : CallR X (.builtin id) r) (hs : SndC T r f) (hv : bootBuiltins x = some (.builtin id)) (hm : X.mg x = none) (ha : PA X (e :: es) (tA T W as)) (hg : Gl X x := by rfl)
    (hn : x ≠ "__name__" := by decide) (hdb : (x == ("__debug__" : Str)) = false := by decide) (he : starEach (e :: es) X.env = (false, eval e X.env) :: starEach es X.env := by rfl) (hpl : (backTo pos (starEach es X.env)).any (·.1) = false := by rfl) :
    PE X (.Call (.Name x p) (e :: es) [] pos) (tE T W (eBf f as)) := pe_imp (pe_callB hc hg hm hv ha hn hdb he hpl) fun _ _ _ h => bf_sound hs h
theorem e_bt {id : String} {x : Str} {r : List V → Hp → VK → Prop} {f : Sto → List Val → Option Val} {e : Expr} {es : List Expr} {as : EA} {p pos : Pos} (hc : CallR X (.type id) r) (hs : SndC T r f) (hv : bootBuiltins x = some (.type id)) (hm : X.mg x = none) (ha : PA X (e :: es) (tA T W as)) (hg : Gl X x := by rfl)
    (hn : x ≠ "__name__" := by decide) (hdb : (x == ("__debug__" : Str)) = false := by decide) (he : starEach (e :: es) X.env = (false, eval e X.env) :: starEach es X.env := by rfl) (hpl : (backTo pos (starEach es X.env)).any (·.1) = false := by rfl) :
    PE X (.Call (.Name x p) (e :: es) [] pos) (tE T W (eBf f as)) := pe_imp (pe_callTy hc hg hm hv ha hn hdb he hpl) fun _ _ _ h => bf_sound hs h
end
end Ev

set_option Elab.async false
set_option linter.all false
set_option maxRecDepth 100000
set_option maxHeartbeats 2000000
namespace Ev
open PySem PySem.Spec PyProof.Rows L2
section
variable {X : Cx} {T : Tab} {W : WX}

def eNewK : E := fun _ st => .ok (.loc st.length) (st ++ [.dK []])
def eNewT : E := fun _ st => .ok (.loc st.length) (st ++ [.dT []])
theorem e_newK {pos : Pos} : PE X (.Dict [] [] pos) (tE T W eNewK) := by
  refine pe_imp pe_dnewK fun σ H Q h => ?_
  obtain ⟨φ, ρ, st, re, p⟩ := h
  intro a ha
  exact p _ _ _ (Ext.alloc re.rst ha) (re.rst.alloc ha ⟨[], upd_same, .nil⟩) (rel_loc re.rst)
theorem e_newT {pos : Pos} : PE X (.Dict [] [] pos) (tE T W eNewT) := by
  refine pe_imp pe_dnewT fun σ H Q h => ?_
  obtain ⟨φ, ρ, st, re, p⟩ := h
  intro a ha
  exact p _ _ _ (Ext.alloc re.rst ha) (re.rst.alloc ha ⟨[], upd_same, .nil⟩) (rel_loc re.rst)
def mergeV (kvs more : List (Key × Val)) : List (Key × Val) := more.foldl (fun acc kv => put acc kv.1 kv.2) kvs
theorem rel_merge {φ : Phi} {H : Hp} : ∀ {more : List (Key × Val)} {rs : List (Key × V)} {kvs : List (Key × Val)} {us : List (Key × V)}, RelF T φ H more rs → RelF T φ H kvs us → RelF T φ H (mergeV kvs more) (mergeK us rs) := by
  intro more rs kvs us r
  unfold RelF at r
  induction r generalizing kvs us with
  | nil => intro q; exact q
  | @cons p q ps qs h t ih =>
    intro r0
    have e : RelF T φ H (put kvs p.1 p.2) (putK us q.1 q.2) := by
      have := rel_put r0 p.1 h.2
      rw [← h.1]; exact this
    exact ih e
/-- the pairs of a display: the keys are written -/
abbrev EP := Env → Sto → Res (List (Key × Val))
def epNil : EP := fun _ st => .ok [] st
def epCons (k : E) (v : E) (r : EP) : EP := fun ρ st => match k ρ st with
  | .ok kk st0 => match keyOf kk with
    | some k' => match v ρ st0 with
      | .ok z st1 => match r ρ st1 with
        | .ok zs st2 => .ok ((k', z) :: zs) st2
        | _ => .bad
      | _ => .bad
    | none => .bad
  | _ => .bad
def tP (T : Tab) (W : WX) (r : EP) : L2.St → Hp → (List (V × V) → Hp → Prop) → Prop := fun σ H Q =>
  tG T (fun φ H (kvs : List (Key × Val)) (ps : List (V × V)) => ∃ us : List (Key × V), ps = us.map (fun kv => (kV kv.1, kv.2)) ∧ RelF T φ H kvs us) W r σ H Q
/-- the readings of the pairs hold as the evaluation says -/
def PRd (T : Tab) (W : WX) (trs : List (TE × TE)) (r : EP) : Prop := ∀ σ H Q, tP T W r σ H Q → tPairs trs σ H Q
theorem prd_nil : PRd T W [] epNil := fun σ H Q h => by
  obtain ⟨φ, ρ, st, re, p⟩ := h
  exact p.ok_self re.rst ⟨[], rfl, .nil⟩
theorem prd_cons {k v : E} {trs : List (TE × TE)} {r : EP} (h : PRd T W trs r) : PRd T W ((tE T W k, tE T W v) :: trs) (epCons k v r) := fun σ H Q h' => by
  obtain ⟨φ, ρ, st, re, p⟩ := h'
  refine ⟨φ, ρ, st, re, ?_⟩
  unfold epCons at p
  cases h1 : k ρ st with
  | ex x st1 => rw [h1] at p; exact p.elim
  | bad => rw [h1] at p; exact p.elim
  | ok kk st0 =>
    rw [h1] at p; dsimp only at p
    intro φ1 H1 u e1 s1 q1
    refine ⟨φ1, ρ, st0, re.ext e1 s1, ?_⟩
    cases h2 : keyOf kk with
    | none => rw [h2] at p; exact p.elim
    | some k' =>
      rw [h2] at p; dsimp only at p
      cases h3 : v ρ st0 with
      | ex x st1 => rw [h3] at p; exact p.elim
      | bad => rw [h3] at p; exact p.elim
      | ok z st1 =>
        rw [h3] at p; dsimp only at p
        intro φ2 H2 w e2 s2 q2
        refine h σ H2 _ ⟨φ2, ρ, st1, re.ext (e1.trans e2) s2, ?_⟩
        cases h4 : r ρ st1 with
        | ex x st1 => rw [h4] at p; exact p.elim
        | bad => rw [h4] at p; exact p.elim
        | ok zs st2 =>
          rw [h4] at p; dsimp only at p
          intro φ3 H3 ps e3 s3 ⟨us, eu, rf⟩
          exact p φ3 H3 _ ((e1.trans e2).trans e3) s3 ⟨(k', w) :: us, by rw [eu, rel_key q1 h2]; rfl, .cons ⟨rfl, q2.ext e3⟩ rf⟩
def eDisp (r : EP) : E := fun ρ st => match r ρ (st ++ [.dK []]) with
  | .ok kvs st1 => match st1[st.length]? with
    | some (.dK []) => if kvs.length ≤ 15 then .ok (.loc st.length) (st1.set st.length (.dK (mergeV [] kvs))) else .bad
    | _ => .bad
  | _ => .bad
theorem e_disp {pos : Pos} {keys : List (Option Expr)} {values : List Expr} {trs : List (TE × TE)} {r : EP} (h : PPs X pos keys values trs) (hr : PRd T W trs r) (hall : keys.all (·.isSome) = true := by rfl) (hl : keys.length = values.length := by rfl) (h0 : keys ≠ [] := by intro z; cases z)
    (h15 : keys.length ≤ 15 := by decide) : PE X (.Dict keys values pos) (tE T W (eDisp r)) := by
  refine pe_imp (pe_disp h hall hl h0 h15) fun σ H Q h' => ?_
  obtain ⟨φ, ρ, st, re, p⟩ := h'
  intro a ha
  have e0 := Ext.alloc (ho := .dK []) re.rst ha
  have s0 : Rst T (φ.add a) (st ++ [.dK []]) (upd H a (.dK [])) := re.rst.alloc ha ⟨[], upd_same, .nil⟩
  refine hr σ _ _ ⟨φ.add a, ρ, st ++ [.dK []], re.ext e0 s0, ?_⟩
  unfold eDisp at p
  cases h1 : r ρ (st ++ [.dK []]) with
  | ex x st1 => rw [h1] at p; exact p.elim
  | bad => rw [h1] at p; exact p.elim
  | ok kvs st1 =>
    rw [h1] at p; dsimp only at p
    split at p
    · rename_i hd
      split at p
      · rename_i h15'
        intro φ1 H1 ps e1 s1 ⟨us, eu, rf⟩
        obtain ⟨b, hb, us0, hb1, hb2⟩ := s1.at hd (by simp)
        cases hb2
        have hlen : st.length < (φ.add a).l.length := by show _ < (φ.l ++ [some a]).length; rw [List.length_append, ← re.rst.len]; simp
        have hba : b = a := by
          rcases add_get (e1.old st.length b hb hlen) with ⟨z, _⟩ | ⟨_, z⟩
          · rw [re.rst.len] at z; exact absurd z (Nat.lt_irrefl _)
          · exact z
        subst hba
        refine ⟨hb1, us, eu, by rw [← Paired.length rf]; exact h15', ?_⟩
        have e2 := Ext.write (ho := .dK (mergeK [] us)) s1 hb
        refine p φ1 _ _ ((e0.trans e1).trans e2) (s1.write hb ⟨_, upd_same, (rel_merge rf .nil).ext e2⟩) ?_
        exact .loc (by rw [s1.len]; exact (List.getElem?_eq_some_iff.mp hd).1) fun c hc => by rw [hb] at hc; cases hc; rfl
      · exact p.elim
    · exact p.elim

def fLen (st : Sto) (vs : List Val) : Option Val := match vs with
  | [.str z] => if z.length ≤ sizeLine then some (.int z.length) else none
  | [.loc n] => match st[n]? with
    | some (.lst xs) => some (.int xs.length)
    | some (.dK kvs) => some (.int kvs.length)
    | some (.dT kvs) => some (.int kvs.length)
    | _ => none
  | [v] => (seqOf st v).map fun xs => .int xs.length
  | _ => none
def rLenA (K : PySem.W.Frag) : List V → Hp → VK → Prop := fun xs H Q => (∃ x n, xs = [x] ∧ LenV K x H n ∧ Q (.int n) H) ∨ (∃ a kvs, xs = [V.ref a] ∧ H a = some (.dK kvs) ∧ Q (.int kvs.length) H) ∨ L2.rLenT xs H Q
theorem call_lenA : CallR X (.builtin "len") (rLenA X.K) := call_len.or (call_lenD.or L2.call_len_dT)
theorem snd_len : SndC T (rLenA T.K) fLen := by
  intro φ st H vs us z Q R r hf hq
  unfold fLen at hf
  split at hf
  · cases r with
    | cons a b =>
      cases b; cases a
      split at hf
      · rename_i hz
        cases hf
        exact .inl ⟨_, _, rfl, ⟨hz, rfl⟩, hq H _ Ext.refl R (.int _)⟩
      · cases hf
  · cases r with
    | cons a b =>
      cases b
      cases a with
      | loc hn hu =>
        split at hf
        · rename_i xs q
          cases hf
          obtain ⟨a, e1, us, e2, e3⟩ := R.at q (by simp)
          refine .inl ⟨_, us.length, rfl, ?_, ?_⟩
          · rw [hu a e1]; exact .inl ⟨us, SqL.of e2, rfl⟩
          · rw [← e3.length]; exact hq H _ Ext.refl R (.int _)
        · rename_i kvs q
          cases hf
          obtain ⟨a, e1, us, e2, e3⟩ := R.at q (by simp)
          refine .inr (.inl ⟨a, us, by rw [hu a e1], e2, ?_⟩)
          rw [← Paired.length e3]; exact hq H _ Ext.refl R (.int _)
        · rename_i kvs q
          cases hf
          obtain ⟨a, e1, us, e2, e3⟩ := R.at q (by simp)
          refine .inr (.inr ⟨a, us, by rw [hu a e1], e2, ?_⟩)
          rw [← Paired.length e3]; exact hq H _ Ext.refl R (.int _)
        · cases hf
  · cases r with
    | cons a b =>
      cases b
      simp only [Option.map_eq_some_iff] at hf
      obtain ⟨xs, e, rfl⟩ := hf
      obtain ⟨p, ws, rfl, hs, rv⟩ := rel_seq R a e
      refine .inl ⟨_, ws.length, rfl, ?_, by rw [← rv.length]; exact hq H _ Ext.refl R (.int _)⟩
      rcases hs with hs | hs
      · exact .inl ⟨ws, hs, rfl⟩
      · exact .inr ⟨ws, hs, rfl⟩
  · cases hf
def fTuple (st : Sto) (vs : List Val) : Option Val := match vs with
  | [v] => (seqOf st v).map .tup
  | _ => none
theorem snd_tuple : SndC T (fun xs H Q => ∃ p ys, xs = [.ref p] ∧ ((SqL T.K H p ys ∧ ∀ l, H l = none → Q (.ref l) (upd H l (.tup ys))) ∨ (SqT T.K H p ys ∧ Q (.ref p) H))) fTuple := by
  intro φ st H vs us z Q R r hf hq
  unfold fTuple at hf
  split at hf
  · cases r with
    | cons a b =>
      cases b
      simp only [Option.map_eq_some_iff] at hf
      obtain ⟨xs, e, rfl⟩ := hf
      rename_i v u
      cases hv : tupOf v with
      | some ys =>
        obtain ⟨p, ws, rfl, hs, rv⟩ := rel_tup a hv
        cases a with
        | tup h1 h2 =>
          cases hv
          cases e
          exact ⟨_, _, rfl, .inr ⟨SqT.of h1, hq H _ Ext.refl R (.tup h1 h2)⟩⟩
        | _ => cases hv
      | none =>
        have hl : lstOf st v = some xs := by
          unfold seqOf at e
          unfold lstOf
          split at e
          · rename_i h; cases e; rw [h]
          · rename_i ys h
            exfalso
            cases a with
            | tup h1 h2 => cases hv
            | loc h1 h2 =>
              unfold dr at h
              dsimp only at h
              split at h <;> cases h
            | _ => cases h
          · cases e
        obtain ⟨p, ws, rfl, hs, rv⟩ := rel_lst R a hl
        refine ⟨p, ws, rfl, .inl ⟨hs, fun l hl => ?_⟩⟩
        have ex := Ext.fresh (ho := .tup ws) R hl
        exact hq _ _ ex (R.fresh hl) (.tup upd_same (rv.ext ex))
  · cases hf
/-- a copy, a value -/
def fList (st : Sto) (vs : List Val) : Option Val := match vs with
  | [v] => (seqOf st v).map .lst
  | _ => none
theorem snd_list : SndC T (fun xs H Q => ∃ p ys, xs = [.ref p] ∧ (SqL T.K H p ys ∨ SqT T.K H p ys) ∧ ∀ l, H l = none → Q (.ref l) (upd H l (.lst ys))) fList := by
  intro φ st H vs us z Q R r hf hq
  unfold fList at hf
  split at hf
  · cases r with
    | cons a b =>
      cases b
      simp only [Option.map_eq_some_iff] at hf
      obtain ⟨xs, e, rfl⟩ := hf
      obtain ⟨p, ws, rfl, hs, rv⟩ := rel_seq R a e
      refine ⟨p, ws, rfl, hs, fun l hl => ?_⟩
      have ex := Ext.fresh (ho := .lst ws) R hl
      exact hq _ _ ex (R.fresh hl) (.lst (.inl ⟨R.nolive hl, .inl upd_same⟩) (rv.ext ex))
  · cases hf
/-- list(x), to be changed -/
def eListN (a : EA) : E := fun ρ st => bindR (a ρ st) fun vs st1 => match vs with
  | [v] => match seqOf st1 v with
    | some xs => .ok (.loc st1.length) (st1 ++ [.lst xs])
    | none => .bad
  | _ => .bad
theorem e_listN {x : Str} {e : Expr} {as : EA} {p pos : Pos} (hK : T.K = X.K) (hv : bootBuiltins x = some (.type "list")) (hm : X.mg x = none) (ha : PA X [e] (tA T W as)) (hg : Gl X x := by rfl)
    (hn : x ≠ "__name__" := by decide) (hdb : (x == ("__debug__" : Str)) = false := by decide) (he : starEach [e] X.env = (false, eval e X.env) :: starEach [] X.env := by rfl) (hpl : (backTo pos (starEach [] X.env)).any (·.1) = false := by rfl) :
    PE X (.Call (.Name x p) [e] [] pos) (tE T W (eListN as)) := by
  refine pe_imp (pe_callTy call_list_of hg hm hv ha hn hdb he hpl) fun σ H Q h => ?_
  refine tG_bind h fun vs ρ st1 φ1 H1 us re1 q1 p1 => ?_
  split at p1
  · split at p1
    · rename_i xs e
      cases q1 with
      | cons a b =>
        cases b
        obtain ⟨q, ws, rfl, hs, rv⟩ := rel_seq re1.rst a e
        refine ⟨q, ws, rfl, by rw [← hK]; exact hs, fun l hl => ?_⟩
        have ex := Ext.alloc (ho := .lst ws) re1.rst hl
        exact p1 _ _ _ ex (re1.rst.alloc hl ⟨ws, upd_same, rv.ext ex⟩) (rel_loc re1.rst)
    · exact p1.elim
  · exact p1.elim
def fSum (st : Sto) (vs : List Val) : Option Val := match vs with
  | [v] => (lstOf st v).bind fun xs => (intsOf xs).map fun ns => .int ns.sum
  | _ => none
theorem snd_sum : SndC T (rSum T.K) fSum := by
  intro φ st H vs us z Q R r hf hq
  unfold fSum at hf
  split at hf
  · cases r with
    | cons a b =>
      cases b
      simp only [Option.bind_eq_some_iff, Option.map_eq_some_iff] at hf
      obtain ⟨xs, e, ns, en, rfl⟩ := hf
      obtain ⟨p, ws, rfl, hs, rv⟩ := rel_lst R a e
      exact ⟨p, ns, rfl, by rw [← rel_ints rv en]; exact hs, hq H _ Ext.refl R (.int _)⟩
  · cases hf
def maxI : List Int → Int
  | [] => 0
  | x :: xs => xs.foldl (fun a b => if b > a then b else a) x
def minI : List Int → Int
  | [] => 0
  | x :: xs => xs.foldl (fun a b => if b < a then b else a) x
theorem foldl_max (xs : List Int) : ∀ x : Int, (xs.foldl (fun a b => if b > a then b else a) x = x ∨ xs.foldl (fun a b => if b > a then b else a) x ∈ xs) ∧ x ≤ xs.foldl (fun a b => if b > a then b else a) x ∧ ∀ y ∈ xs, y ≤ xs.foldl (fun a b => if b > a then b else a) x := by
  induction xs with
  | nil => intro x; simp
  | cons z zs ih =>
    intro x
    simp only [List.foldl_cons]
    by_cases hz : z > x
    · rw [if_pos hz]
      obtain ⟨h1, h2, h3⟩ := ih z
      generalize hm : zs.foldl (fun a b => if b > a then b else a) z = m at h1 h2 h3 ⊢
      refine ⟨?_, by omega, ?_⟩
      · rcases h1 with h1 | h1
        · right; rw [h1]; simp
        · right; simp [h1]
      · intro y hy
        rcases List.mem_cons.mp hy with rfl | hy
        · exact h2
        · exact h3 y hy
    · rw [if_neg hz]
      obtain ⟨h1, h2, h3⟩ := ih x
      generalize hm : zs.foldl (fun a b => if b > a then b else a) x = m at h1 h2 h3 ⊢
      refine ⟨?_, h2, ?_⟩
      · rcases h1 with h1 | h1
        · left; exact h1
        · right; simp [h1]
      · intro y hy
        rcases List.mem_cons.mp hy with rfl | hy
        · omega
        · exact h3 y hy
theorem foldl_min (xs : List Int) : ∀ x : Int, (xs.foldl (fun a b => if b < a then b else a) x = x ∨ xs.foldl (fun a b => if b < a then b else a) x ∈ xs) ∧ xs.foldl (fun a b => if b < a then b else a) x ≤ x ∧ ∀ y ∈ xs, xs.foldl (fun a b => if b < a then b else a) x ≤ y := by
  induction xs with
  | nil => intro x; simp
  | cons z zs ih =>
    intro x
    simp only [List.foldl_cons]
    by_cases hz : z < x
    · rw [if_pos hz]
      obtain ⟨h1, h2, h3⟩ := ih z
      generalize hm : zs.foldl (fun a b => if b < a then b else a) z = m at h1 h2 h3 ⊢
      refine ⟨?_, by omega, ?_⟩
      · rcases h1 with h1 | h1
        · right; rw [h1]; simp
        · right; simp [h1]
      · intro y hy
        rcases List.mem_cons.mp hy with rfl | hy
        · exact h2
        · exact h3 y hy
    · rw [if_neg hz]
      obtain ⟨h1, h2, h3⟩ := ih x
      generalize hm : zs.foldl (fun a b => if b < a then b else a) x = m at h1 h2 h3 ⊢
      refine ⟨?_, h2, ?_⟩
      · rcases h1 with h1 | h1
        · left; exact h1
        · right; simp [h1]
      · intro y hy
        rcases List.mem_cons.mp hy with rfl | hy
        · omega
        · exact h3 y hy
theorem maxI_is {ns : List Int} {m : Int} (h : m ∈ ns) (hm : ∀ y, y ∈ ns → y ≤ m) : m = maxI ns := by
  cases ns with
  | nil => cases h
  | cons x xs =>
    obtain ⟨h1, h2, h3⟩ := foldl_max xs x
    have a : maxI (x :: xs) ≤ m := by
      rcases h1 with h1 | h1
      · exact hm _ (by rw [maxI, h1]; simp)
      · exact hm _ (List.mem_cons_of_mem _ h1)
    have b : m ≤ maxI (x :: xs) := by
      rcases List.mem_cons.mp h with rfl | h
      · exact h2
      · exact h3 m h
    omega
theorem minI_is {ns : List Int} {m : Int} (h : m ∈ ns) (hm : ∀ y, y ∈ ns → m ≤ y) : m = minI ns := by
  cases ns with
  | nil => cases h
  | cons x xs =>
    obtain ⟨h1, h2, h3⟩ := foldl_min xs x
    have a : m ≤ minI (x :: xs) := by
      rcases h1 with h1 | h1
      · exact hm _ (by rw [minI, h1]; simp)
      · exact hm _ (List.mem_cons_of_mem _ h1)
    have b : minI (x :: xs) ≤ m := by
      rcases List.mem_cons.mp h with rfl | h
      · exact h2
      · exact h3 m h
    omega
def fMax (st : Sto) (vs : List Val) : Option Val := match vs with
  | [.int i, .int j] => some (.int (if j > i then j else i))
  | [v] => (lstOf st v).bind fun xs => (intsOf xs).bind fun ns => if 0 < ns.length then some (.int (maxI ns)) else none
  | _ => none
def fMin (st : Sto) (vs : List Val) : Option Val := match vs with
  | [.int i, .int j] => some (.int (if j < i then j else i))
  | [v] => (lstOf st v).bind fun xs => (intsOf xs).bind fun ns => if 0 < ns.length then some (.int (minI ns)) else none
  | _ => none
def rMaxA (K : PySem.W.Frag) : List V → Hp → VK → Prop := fun vs H Q => rMax K vs H Q ∨ ∃ i j, vs = [.int i, .int j] ∧ Q (.int (if j > i then j else i)) H
def rMinA (K : PySem.W.Frag) : List V → Hp → VK → Prop := fun vs H Q => rMin K vs H Q ∨ ∃ i j, vs = [.int i, .int j] ∧ Q (.int (if j < i then j else i)) H
theorem call_maxA (hc : X.calm = true) : CallR X (.builtin "max") (rMaxA X.K) := (cr_max hc).or (call_max2 hc)
theorem call_minA (hc : X.calm = true) : CallR X (.builtin "min") (rMinA X.K) := (cr_min hc).or (call_min2 hc)
theorem snd_max : SndC T (rMaxA T.K) fMax := by
  intro φ st H vs us z Q R r hf hq
  unfold fMax at hf
  split at hf
  · cases hf
    cases r with
    | cons a b =>
      cases b with
      | cons a' b' =>
        cases b'; cases a; cases a'
        exact .inr ⟨_, _, rfl, hq H _ Ext.refl R (.int _)⟩
  · cases r with
    | cons a b =>
      cases b
      simp only [Option.bind_eq_some_iff] at hf
      obtain ⟨xs, e, ns, en, hf⟩ := hf
      split at hf
      · rename_i hp
        cases hf
        obtain ⟨p, ws, rfl, hs, rv⟩ := rel_lst R a e
        exact .inl ⟨p, ns, rfl, by rw [← rel_ints rv en]; exact hs, hp, fun m h1 h2 => by rw [maxI_is h1 h2]; exact hq H _ Ext.refl R (.int _)⟩
      · cases hf
  · cases hf
theorem snd_min : SndC T (rMinA T.K) fMin := by
  intro φ st H vs us z Q R r hf hq
  unfold fMin at hf
  split at hf
  · cases hf
    cases r with
    | cons a b =>
      cases b with
      | cons a' b' =>
        cases b'; cases a; cases a'
        exact .inr ⟨_, _, rfl, hq H _ Ext.refl R (.int _)⟩
  · cases r with
    | cons a b =>
      cases b
      simp only [Option.bind_eq_some_iff] at hf
      obtain ⟨xs, e, ns, en, hf⟩ := hf
      split at hf
      · rename_i hp
        cases hf
        obtain ⟨p, ws, rfl, hs, rv⟩ := rel_lst R a e
        exact .inl ⟨p, ns, rfl, by rw [← rel_ints rv en]; exact hs, hp, fun m h1 h2 => by rw [minI_is h1 h2]; exact hq H _ Ext.refl R (.int _)⟩
      · cases hf
  · cases hf
def boolsOf : List Val → Option (List Bool)
  | [] => some []
  | .bl i :: r => (boolsOf r).map (i :: ·)
  | _ => none
theorem rel_bools {φ : Phi} {H : Hp} : ∀ {xs : List Val} {us : List V} {ns : List Bool}, RelVs T φ H xs us → boolsOf xs = some ns → us = ns.map V.bl
  | _, _, _, .nil, h => by cases h; rfl
  | _, _, _, .cons a b, h => by
    cases a with
    | bl i =>
      simp only [boolsOf, Option.map_eq_some_iff] at h
      obtain ⟨ms, e, rfl⟩ := h
      rw [rel_bools b e]; rfl
    | _ => cases h
def fAll (st : Sto) (vs : List Val) : Option Val := match vs with
  | [v] => (lstOf st v).bind fun xs => (boolsOf xs).map fun ns => .bl (ns.all id)
  | _ => none
def fAny (st : Sto) (vs : List Val) : Option Val := match vs with
  | [v] => (lstOf st v).bind fun xs => (boolsOf xs).map fun ns => .bl (ns.any id)
  | _ => none
theorem snd_all : SndC T (rAll T.K) fAll := by
  intro φ st H vs us z Q R r hf hq
  unfold fAll at hf
  split at hf
  · cases r with
    | cons a b =>
      cases b
      simp only [Option.bind_eq_some_iff, Option.map_eq_some_iff] at hf
      obtain ⟨xs, e, ns, en, rfl⟩ := hf
      obtain ⟨p, ws, rfl, hs, rv⟩ := rel_lst R a e
      exact ⟨p, ns, rfl, by rw [← rel_bools rv en]; exact hs, hq H _ Ext.refl R (.bl _)⟩
  · cases hf
theorem snd_any : SndC T (rAny T.K) fAny := by
  intro φ st H vs us z Q R r hf hq
  unfold fAny at hf
  split at hf
  · cases r with
    | cons a b =>
      cases b
      simp only [Option.bind_eq_some_iff, Option.map_eq_some_iff] at hf
      obtain ⟨xs, e, ns, en, rfl⟩ := hf
      obtain ⟨p, ws, rfl, hs, rv⟩ := rel_lst R a e
      exact ⟨p, ns, rfl, by rw [← rel_bools rv en]; exact hs, hq H _ Ext.refl R (.bl _)⟩
  · cases hf
def fInt (_ : Sto) (vs : List Val) : Option Val := match vs with
  | [.int i] => some (.int i)
  | [.bl b] => some (.int (if b then 1 else 0))
  | _ => none
theorem snd_int : SndC T (fun xs H Q => (∃ i, xs = [.int i] ∧ Q (.int i) H) ∨ ∃ k, xs = [.bl k] ∧ Q (.int (if k then 1 else 0)) H) fInt := by
  intro φ st H vs us z Q R r hf hq
  unfold fInt at hf
  split at hf
  · cases hf
    cases r with
    | cons a b =>
      cases b; cases a
      exact .inl ⟨_, rfl, hq H _ Ext.refl R (.int _)⟩
  · cases hf
    cases r with
    | cons a b =>
      cases b; cases a
      exact .inr ⟨_, rfl, hq H _ Ext.refl R (.int _)⟩
  · cases hf

/-- a method of a list of the store: f tells the answer and the list behind it -/
def eLm (f : Sto → List Val → List Val → Option (Val × List Val)) (o : E) (a : EA) : E := fun ρ st => bindR (o ρ st) fun v st1 => match v with
  | .loc n => match st1[n]? with
    | some (.lst _) => bindR (a ρ st1) fun vs st2 => match st2[n]? with
      | some (.lst xs) => match f st2 xs vs with
        | some (z, ys) => .ok z (st2.set n (.lst ys))
        | none => .bad
      | _ => .bad
    | _ => .bad
  | _ => .bad
def SndM (T : Tab) (r : V → List V → Hp → VK → Prop) (f : Sto → List Val → List Val → Option (Val × List Val)) : Prop :=
  ∀ φ st H xs us vs ws z ys l Q, Rst T φ st H → H l = some (.lst us) → RelVs T φ H xs us → RelVs T φ H vs ws → f st xs vs = some (z, ys) →
    (∀ us', (∀ H', ExtV φ H φ H' → RelVs T φ H' ys us') → ∀ u, (∀ H', ExtV φ H φ H' → RelV T φ H' z u) → Q u (upd H l (.lst us'))) → r (.ref l) ws H Q
theorem lm_sound {r : V → List V → Hp → VK → Prop} {f : Sto → List Val → List Val → Option (Val × List Val)} {eo : E} {as : EA} {K : PySem.W.Frag} (hs : SndM T r f) {σ : L2.St} {H : Hp} {Q : VK} (h : tE T W (eLm f eo as) σ H Q) :
    tE T W eo σ H fun x H1 => tyV K "list" x H1 ∧ tA T W as σ H1 fun xs H2 => r x xs H2 Q := by
  refine tG_bind h fun v ρ st1 φ1 H1 u re1 q1 p1 => ?_
  split at p1
  · split at p1
    · rename_i n _ xs0 hx0
      cases q1 with
      | loc hn hu =>
        obtain ⟨a, e1, us0, e2, e3⟩ := re1.rst.at hx0 (by simp)
        have hua := hu a e1
        subst hua
        refine ⟨.inl ⟨rfl, us0, SqL.of e2⟩, φ1, ρ, st1, re1, post_bind p1 fun vs st2 φ2 H2 ws _ e4 s2 q2 p2 => ?_⟩
        split at p2
        · rename_i xs hx
          split at p2
          · rename_i z ys hf
            obtain ⟨b, e5, us, e6, e7⟩ := s2.at hx (by simp)
            have hab : b = a := by
              have := e4.old n b e5 hn
              rw [e1] at this; cases this; rfl
            subst hab
            refine hs φ2 st2 H2 xs us vs ws z ys b Q s2 e6 e7 q2 hf fun us' r1 u r2 => ?_
            have ex := Ext.write (ho := .lst us') s2 e5
            exact p2 φ2 _ u ex (s2.write e5 ⟨us', upd_same, r1 _ ex.v⟩) (r2 _ ex.v)
          · exact p2.elim
        · exact p2.elim
    · exact p1.elim
  · exact p1.elim
theorem e_lm {id : String} {name : Str} {r : V → List V → Hp → VK → Prop} {f : Sto → List Val → List Val → Option (Val × List Val)} {o e : Expr} {es : List Expr} {eo : E} {as : EA} {apos cpos : Pos} (slot : Slot "list" name id) (hty : typeOf (.builtin id) = pure (.type "method_descriptor")) (hm : MtR X id r) (hs : SndM T r f)
    (ho : PE X o (tE T W eo)) (ha : PA X (e :: es) (tA T W as)) (hbase : attributeBase o name X.env (eval o X.env) = eval o X.env := by rfl)
    (hfew : ((backTo cpos (starEach (e :: es) X.env)).all (fun x => !x.1) && (backToKw cpos (keywordEach [] X.env)).all (fun x => x.1.isSome)
      && decide ((e :: es).length + ([] : List Keyword).length + (if ([] : List Keyword).isEmpty then 0 else 1) < 30)) = true := by rfl)
    (hline : (apos.endLine == cpos.line) = true := by rfl) (hst : starEach (e :: es) X.env = (false, eval e X.env) :: starEach es X.env := by rfl) (hplain : (backTo cpos (starEach es X.env)).any (·.1) = false := by rfl) :
    PE X (.Call (.Attribute o name apos) (e :: es) [] cpos) (tE T W (eLm f eo as)) :=
  pe_imp (pe_bm PySem.F.plainAttrs_list slot hty hm ho ha hbase hfew hline hst hplain) fun _ _ _ h => lm_sound hs h
theorem e_lm0 {id : String} {name : Str} {r : V → List V → Hp → VK → Prop} {f : Sto → List Val → List Val → Option (Val × List Val)} {o : Expr} {eo : E} {apos cpos : Pos} (slot : Slot "list" name id) (hty : typeOf (.builtin id) = pure (.type "method_descriptor")) (hm : MtR X id r) (hs : SndM T r f)
    (ho : PE X o (tE T W eo)) (hbase : attributeBase o name X.env (eval o X.env) = eval o X.env := by rfl) (hline : (apos.endLine == cpos.line) = true := by rfl) :
    PE X (.Call (.Attribute o name apos) [] [] cpos) (tE T W (eLm f eo eNil)) :=
  pe_imp (pe_bm0 PySem.F.plainAttrs_list slot hty hm ho hbase hline) fun _ _ _ h => by
    refine tG_mono (lm_sound (K := X.K) hs h) fun u H1 ⟨ty, φ, ρ, st, re, p⟩ => ⟨ty, ?_⟩
    exact p.ok_self re.rst .nil
def fAppend (_ : Sto) (xs vs : List Val) : Option (Val × List Val) := match vs with
  | [w] => if xs.length < sizeLine then some (.non, xs ++ [w]) else none
  | _ => none
theorem snd_append : SndM T rAppend fAppend := by
  intro φ st H xs us vs ws z ys l Q R h1 h2 h3 hf hq
  unfold fAppend at hf
  split at hf
  · split at hf
    · rename_i hz
      cases hf
      cases h3 with
      | cons a b =>
        cases b
        exact ⟨l, us, _, rfl, rfl, h1, by rw [← h2.length]; exact hz, hq _ (fun H' e => (h2.extV e).append (.cons (a.extV e) .nil)) _ fun _ _ => .non⟩
    · cases hf
  · cases hf
theorem e_append {o e : Expr} {eo : E} {as : EA} {apos cpos : Pos} (ho : PE X o (tE T W eo)) (ha : PA X [e] (tA T W as)) (hbase : attributeBase o "append" X.env (eval o X.env) = eval o X.env := by rfl)
    (hfew : ((backTo cpos (starEach [e] X.env)).all (fun x => !x.1) && (backToKw cpos (keywordEach [] X.env)).all (fun x => x.1.isSome)
      && decide (([e] : List Expr).length + ([] : List Keyword).length + (if ([] : List Keyword).isEmpty then 0 else 1) < 30)) = true := by rfl)
    (hline : (apos.endLine == cpos.line) = true := by rfl) (hst : starEach [e] X.env = (false, eval e X.env) :: starEach [] X.env := by rfl) (hplain : (backTo cpos (starEach [] X.env)).any (·.1) = false := by rfl) :
    PE X (.Call (.Attribute o "append" apos) [e] [] cpos) (tE T W (eLm fAppend eo as)) :=
  e_lm PySem.F.slot_list_append PySem.F.type_list_append mt_append snd_append ho ha hbase hfew hline hst hplain
def fPop (_ : Sto) (xs vs : List Val) : Option (Val × List Val) := match vs with
  | [] => (xs[xs.length - 1]?).map fun y => (y, xs.dropLast)
  | _ => none
theorem snd_pop : SndM T rPop fPop := by
  intro φ st H xs us vs ws z ys l Q R h1 h2 h3 hf hq
  unfold fPop at hf
  split at hf
  · simp only [Option.map_eq_some_iff] at hf
    obtain ⟨y, e, hh⟩ := hf
    cases hh
    cases h3
    obtain ⟨u, hu, ru⟩ := h2.get e
    exact ⟨l, us, u, rfl, rfl, h1, by rw [← h2.length]; exact hu, hq _ (fun H' e => (h2.extV e).dropLast) u fun H' e => ru.extV e⟩
  · cases hf
theorem e_pop {o : Expr} {eo : E} {apos cpos : Pos} (ho : PE X o (tE T W eo)) (hbase : attributeBase o "pop" X.env (eval o X.env) = eval o X.env := by rfl) (hline : (apos.endLine == cpos.line) = true := by rfl) :
    PE X (.Call (.Attribute o "pop" apos) [] [] cpos) (tE T W (eLm fPop eo eNil)) :=
  e_lm0 PySem.F.slot_list_pop PySem.F.type_list_pop mt_pop snd_pop ho hbase hline
end
end Ev

set_option Elab.async false
set_option linter.all false
set_option maxRecDepth 100000
set_option maxHeartbeats 2000000
namespace Ev
open PySem PySem.Spec PyProof.Rows L2
structure FnG (P : Program) (w : World) (K : PySem.W.Frag) (mg : Str → Option Value) (base : Heap) (k : Nat) (f : Addr) (fd : FuncData) (ps : List Str) (sp : Sp) : Prop where
  len : ∀ vs H Q E, sp vs H Q E → vs.length = ps.length
  run : ∀ (A : Around) (outer : List PySem.Env) (s : Shared) (H : Hp) (args : Args) (us : List Value) (vs : List V) (Q : VK) (E : XK), Room k A → A.guards = some [] → Env0 P w K mg base A outer s H → BindsTo s fd args (ps.zip us) → Vals vs us → sp vs H Q E →
    codeAny (model P w) A (.call (.ref f) args) (CR (L2.CX P w) outer P w H s Q E) s
section
variable {P : Program} {w : World} {K : PySem.W.Frag} {mg mb : Str → Option Value} {base : Heap} {k : Nat} {f : Addr} {fd : FuncData} {ps : List Str} {sp : Sp}
theorem FnG.mono {j : Nat} (F : FnG P w K mg base j f fd ps sp) (h : j ≤ k) : FnG P w K mg base k f fd ps sp :=
  ⟨F.len, fun A outer s H args us vs Q E hr hg => F.run A outer s H args us vs Q E (hr.mono h) hg⟩
theorem fnG_of {x qual : Str} {params : Arguments} {body : List Stmt} {scope : Scope} {dvs : List V} {kws : List (Str × V)} {N : List Str} (F : FunD K x qual params body scope dvs kws f fd) (S : FnScope N ps scope)
    (len : ∀ vs H Q E, sp vs H Q E → vs.length = ps.length)
    (hbody : ∀ (cdv : Value) (A : Around) (outer : List PySem.Env) (s : Shared) (H : Hp) (vs : List V) (Q : VK) (E : XK), Room k (A.deeper (envOfC qual scope s.heap.objs.size f cdv)) → A.guards = some [] → sp vs H Q E →
      ∃ t, PSs (cxOf (L2.CX P w) P w K mg base N qual scope f cdv A outer s H E) body t ∧ t { nx := fun _ H' => Q .non H', rt := Q } (start N vs) H) : FnG P w K mg base (k + 1) f fd ps sp := by
  obtain ⟨oc, od, dV, kV, doc, pm, an, cdv, ct, osl, rfl, lk, hcd, _, _⟩ := F.ex
  refine ⟨len, fun A outer s H args us vs Q E hr hg e0 hb r hsp => ?_⟩
  have sub : ∀ b o, base.get? b = some o → s.heap.get? b = some o := fun b o e => (e0.bs b o e).1
  have KX : K.In s.heap := e0.mod.kin.keeps sub
  have kinds : ∀ y ∈ ps.zip us, scope.names.lookup y.1 = some .local ∨ (scope.names.lookup y.1 = some .cell ∧ ((cellsFrom (s.heap.objs.size + 1) scope.names []).lookup y.1).isSome = true) := fun ⟨n, v⟩ hy =>
    (S.par n (List.of_mem_zip hy).1).imp id fun q => ⟨q, PySem.W.cellsFrom_some _ _ _ (.inl q)⟩
  refine codeAny_call_function hr.depth (KX _ _ lk) rfl S.co S.gen rfl (PySem.W.codeRec_of KX hcd) (hb _ _ _ _ ?_)
  refine wpAny_newFunctionEnv_cells S.kind kinds fun env he s1 x => ?_
  subst he
  refine ⟨(e0.mod.nolimit.keeps sub).keeps x.toInCall.keep, codeAny_func ?_⟩
  obtain ⟨t, ht, hq⟩ := hbody cdv A outer s H vs Q E (hr.deeper _) hg hsp
  refine wpAny_mono (ht.run [] s1 (start N vs) H _ (inv_start S hr.hd e0 (len _ _ _ _ hsp) r x) hq) (fun fl s' hs => ?_) fun e s' hs => hs
  cases fl with
  | ret u =>
    obtain ⟨v, σ', H', J, rv, q⟩ := hs
    exact ⟨v, H', J.os, J.bare, J.base, J.hok, rv, q⟩
  | next =>
    obtain ⟨σ', H', J, q⟩ := hs
    exact ⟨V.non, H', J.os, J.bare, J.base, J.hok, rfl, q⟩
  | brk =>
    obtain ⟨_, _, _, q⟩ := hs
    exact q.elim
  | cont =>
    obtain ⟨_, _, _, q⟩ := hs
    exact q.elim
/-- a call of such a def -/
theorem run_fnG {X : Cx} {E : L2.St → XK} {pins : List (Addr × Obj)} {σ : L2.St} {H : Hp} {s : Shared} {Q : VK} {args : Args} {us : List Value} {vs : List V} (F : FnG X.prog X.w X.K X.mg X.base k f fd ps sp) (hr : Room k X.A) (hg : X.A.guards = some []) (hx : PassesAt (L2.CX X.prog X.w) X σ (E σ))
    (I : Inv X pins σ H s) (hb : BindsTo s fd args (ps.zip us)) (r : Vals vs us) (h : sp vs H Q (E σ)) : wpAny (model X.prog X.w) X.A (call (.ref f) args.pos args.kw) (L2.EP X pins σ Q) X.xe s := by
  refine wpAny_call (codeAny_mono (F.run X.A X.stack s H args us vs Q (E σ) hr hg I.env0 hb r h) fun r s' hq => ?_)
  cases r with
  | error e => exact hx pins H s e s' I hq
  | ok fl =>
    cases fl with
    | ret u => exact I.after hq
    | next => exact hq.elim
    | brk => exact hq.elim
    | cont => exact hq.elim
end
/-- the law's def, called on the script -/
theorem law_callG {P : Program} {w : World} {K : PySem.W.Frag} {mg mb : Str → Option Value} {k : Nat} {fa a : Addr} {fd : FuncData} {x : Str} {sp : Sp} {s₁ : Shared} {vs : List Value} {ns : List Int}
    (KX : K.In s₁.heap) (hns : s₁.heap.Ns mainGlobals mg) (hb : s₁.heap.Ns builtinsNs mb) (hbb : ∀ x : Str, x ≠ "__name__" → mb x = bootBuiltins x) (hlim : s₁.heap.NoLimit) (hg : s₁.gens = #[])
    (ha : s₁.heap.get? a = some { cls := .type "list", data := .seq vs.toArray }) (hi : IntsAre vs ns) (hl : ns.length ≤ sizeLine) (hr : Room k callerA)
    (F : ∀ base : Heap, K.In base → base.Ns mainGlobals mg → FnG P w K mg base k fa fd [x] sp) (hbind : ∀ (s : Shared) (u : Value), BindsTo s fd ⟨[u], []⟩ [(x, u)])
    (hsp : ∀ H : Hp, Only H → SqL K H a (ns.map V.int) → sp [.ref a] H (fun v _ => v = .bl true) fun _ _ _ => False) :
    codeAny (model P w) callerA (.call (.ref fa) ⟨[.ref a], []⟩) (fun r s' => r = .ok (.ret (.bool true)) ∧ OldK s₁.heap s'.heap ∧ s'.os = s₁.os ∧ AllBare s'.gens) s₁ := by
  have rv := vals_ints hi
  have lenV := hi.length
  -- H tracks at most the script
  have from_ : ∀ H : Hp, Only H → SqL K H a (ns.map V.int) → HOk P w H s₁.heap → (∀ b, H b ≠ none → b = a ∧ K.lookup a = none) →
      codeAny (model P w) callerA (.call (.ref fa) ⟨[.ref a], []⟩) (fun r s' => r = .ok (.ret (.bool true)) ∧ OldK s₁.heap s'.heap ∧ s'.os = s₁.os ∧ AllBare s'.gens) s₁ := by
    intro H hO hS hok hA
    have low : ∀ {b : Addr} {o : Obj}, s₁.heap.get? b = some o → H b = none → (hidT s₁.heap H).get? b = some o := fun e n => hidT_get e n
    have dicts : ∀ {b : Addr} {o : Obj} {es : Array DictEntry} {ep : Nat}, s₁.heap.get? b = some o → o.data = .dict es ep → H b = none := fun {b o es ep} e d => Classical.byContradiction fun n => by
      have z := (hA b n).1
      subst z
      rw [ha] at e
      cases e
      cases (show Data.seq vs.toArray _ = Data.dict es ep from d)
    have spaces : ∀ {b : Addr} {m : Str → Option Value}, s₁.heap.Ns b m → (hidT s₁.heap H).Ns b m := fun {b m} ⟨o, es, ep, e, d, r⟩ => ⟨o, es, ep, low e (dicts e d), d, r⟩
    have hKb : K.In (hidT s₁.heap H) := fun b o e => low (KX b o e) (Classical.byContradiction fun n => by
      obtain ⟨z, q⟩ := hA b n
      subst z
      rw [q] at e
      cases e)
    have hM : Mod K mg (hidT s₁.heap H) := ⟨hKb, spaces hns, ⟨mb, spaces hb, hbb⟩, let ⟨mc, h1, h2⟩ := hlim; ⟨mc, spaces h1, h2⟩⟩
    have e0 : Env0 P w K mg (hidT s₁.heap H) callerA [] s₁ H := ⟨rfl, hM, fun b o e => of_hidT e, Nat.le_of_eq (hidT_size _ _), trivial, fun b hb => absurd hb List.not_mem_nil, hok, .of_eq hg⟩
    refine codeAny_mono ((F _ hKb (spaces hns)).run callerA [] s₁ H ⟨[.ref a], []⟩ [.ref a] [.ref a] _ _ hr rfl e0 (hbind s₁ (.ref a)) (.cons rfl .nil) (hsp H hO hS)) fun r s' h => ?_
    cases r with
    | error e =>
      obtain ⟨_, _, _, _, _, _, _, _, _, _, _, _, z⟩ := h
      exact z.elim
    | ok fl =>
      cases fl with
      | next => exact h.elim
      | brk => exact h.elim
      | cont => exact h.elim
      | ret u =>
        obtain ⟨v, H', os, bare, un, hok', r', q⟩ := h
        cases (show v = .bl true from q)
        cases (show u = Value.bool true from r')
        refine ⟨rfl, OldK.of_keep fun b o e => ?_, os, bare⟩
        rcases hO b with z | ⟨ob, xs, z⟩
        · exact un.keep b o e z List.not_mem_nil List.not_mem_nil
        · obtain ⟨e1, _⟩ := hok b _ z
          obtain ⟨e2, _⟩ := hok' b _ (un.frzs b ob _ z)
          rw [e] at e1
          cases e1
          exact e2
  cases hk : K.lookup a with
  | some o =>
    have e := KX a o hk
    rw [ha] at e
    cases e
    exact from_ (fun _ => none) (fun _ => .inl rfl) (.inr ⟨_, vs.toArray, _, hk, rfl, rfl, rfl, by rw [List.size_toArray, lenV]; exact hl, rv⟩) (fun b u z => nomatch (show (none : Option HO) = some u from z)) fun b z => absurd rfl z
  | none =>
    have at_ : ∀ b u, (if b = a then some (HO.frz { cls := .type "list", data := .seq vs.toArray } (.lst (ns.map V.int))) else none) = some u → b = a ∧ u = .frz { cls := .type "list", data := .seq vs.toArray } (.lst (ns.map V.int)) := fun b u z => by
      by_cases hb : b = a
      · rw [if_pos hb] at z; exact ⟨hb, (Option.some.inj z).symm⟩
      · rw [if_neg hb] at z; cases z
    refine from_ (fun b => if b = a then some (.frz { cls := .type "list", data := .seq vs.toArray } (.lst (ns.map V.int))) else none) (fun b => ?_) (.inl (.inr ⟨{ cls := .type "list", data := .seq vs.toArray }, if_pos rfl⟩)) (fun b u z => ?_) fun b z => ?_
    · by_cases hb : b = a
      · exact .inr ⟨_, _, if_pos hb⟩
      · exact .inl (if_neg hb)
    · obtain ⟨rfl, rfl⟩ := at_ b u z
      exact ⟨ha, by rw [List.length_map]; exact hl, vs, _, rv, ha⟩
    · exact ⟨Classical.byContradiction fun hb => z (if_neg hb), hk⟩
theorem walk_ofG {l : PySem.W.OpenLaw} {n k : Nat} {q : Program} {loose : List Str} {XP : (Str → Option Value) → Heap → Prop} {YP : World → Heap → Prop} {d : DefRec} {x : Str}
    (hn : l.most = some n) (hn2 : n ≤ sizeLine) (hdf : d.params.defaults = []) (hr : Room k callerA)
    (F : ∀ (w : World) (mg : Str → Option Value) (fa : Addr) (h : Heap), YP w h → h.Ns mainGlobals mg → mg d.name = some (.ref fa) →
      ∃ (K : PySem.W.Frag) (fd : FuncData) (sp : Sp), K.In h ∧ (∀ (s : Shared) (u : Value), BindsTo s fd ⟨[u], []⟩ [(x, u)]) ∧
        (∀ (H : Hp) (a : Addr) (ns : List Int), ns.length ≤ n → Only H → SqL K H a (ns.map V.int) → sp [.ref a] H (fun v _ => v = .bl true) fun _ _ _ => False) ∧
        ∀ base : Heap, K.In base → base.Ns mainGlobals mg → FnG l.prog w K mg base k fa fd [x] sp) :
    PySem.W.WalkO q loose XP YP l.row.toRowW d [] (fun f vs => PySem.call f vs) := by
  refine Att.attach_call hn hdf fun w s₀ s₁ mg mb fa o pm cd doc a vs ns G Y ho hd hcd hmg hobj hints hlen hg => ?_
  obtain ⟨K, fd, sp, KX, hb, hsp, hF⟩ := F w mg fa _ Y G.T.g hmg
  exact law_callG KX G.T.g G.T.b G.T.builtins G.T.nolimit hg hobj hints (Nat.le_trans hlen hn2) hr hF hb fun H hO hS => hsp H a ns hlen hO hS
end Ev

set_option Elab.async false
set_option linter.all false
set_option maxRecDepth 100000
set_option maxHeartbeats 2000000
namespace Ev
open PySem PySem.Spec PyProof.Rows L2
/-- the values put in the parameters' order -/
def permL {α : Type} (perm : List Nat) (xs : List α) : List α := perm.filterMap fun i => xs[i]?
def KwOk (x : Str) (st : Stmt) (ps ks : List Str) (perm : List Nat) : Prop := ∀ (kV doc pm : Value) (an : Option Addr) (cdv ct : Value) (ws : List Value), ws.length = ks.length → bindArgs (PySem.W.fnOf x x (defArgs st) (defBody st) (defScope st) .none kV doc pm an cdv ct) ⟨[], ks.zip ws⟩ = pure (ps.zip (permL perm ws))
theorem permL_paired {α β : Type} {R : α → β → Prop} {xs : List α} {ys : List β} (h : Paired R xs ys) : ∀ perm : List Nat, Paired R (permL perm xs) (permL perm ys)
  | [] => .nil
  | i :: perm => by
    have ih := permL_paired h perm
    unfold permL at ih ⊢
    rw [List.filterMap_cons, List.filterMap_cons]
    have g : (xs[i]? = none ∧ ys[i]? = none) ∨ ∃ a b, xs[i]? = some a ∧ ys[i]? = some b ∧ R a b := by
      clear ih
      induction h generalizing i with
      | nil => exact .inl ⟨rfl, rfl⟩
      | cons a _ ih =>
        cases i with
        | zero => exact .inr ⟨_, _, rfl, rfl, a⟩
        | succ i => exact ih i
    rcases g with ⟨e1, e2⟩ | ⟨a, b, e1, e2, r⟩
    · rw [e1, e2]; exact ih
    · rw [e1, e2]; exact .cons r ih
theorem relVs_paired {T : Tab} {φ : Phi} {H : Hp} : ∀ {xs : List Val} {us : List V}, RelVs T φ H xs us → Paired (RelV T φ H) xs us
  | _, _, .nil => .nil
  | _, _, .cons a b => .cons a (relVs_paired b)
theorem relVs_of {T : Tab} {φ : Phi} {H : Hp} : ∀ {xs : List Val} {us : List V}, Paired (RelV T φ H) xs us → RelVs T φ H xs us
  | _, _, .nil => .nil
  | _, _, .cons a b => .cons a (relVs_of b)
structure FnAt (P : Program) (w : World) (K : PySem.W.Frag) (mg : Str → Option Value) (base : Heap) (T : Tab) (k : Nat) (x : Str) (s : Stmt) (ps : List Str) (m : Fn) : Prop where
  ex : ∃ f fd, mg x = some (.ref f) ∧ PySem.W.keepIn K (.ref f) = true ∧ Binds K fd ps [] ∧ FnG P w K mg base k f fd ps (spF T ps.length m) ∧
    ∀ ks perm, KwOk x s ps ks perm → ∀ (sh : Shared) (ws : List Value), ws.length = ks.length → BindsTo sh fd ⟨[], ks.zip ws⟩ (ps.zip (permL perm ws))
structure Cnd (fa : List He.Fa) (fn : List He.DefD) (ex : PySem.W.Frag → Bool) (K : PySem.W.Frag) (mg : Str → Option Value) : Prop where
  c : He.SaysD fa fn K
  hh : ∃ h : Heap, K.In h ∧ h.Ns mainGlobals mg
  m : ex K = true
section
variable {fa : List He.Fa} {fn : List He.DefD} {ex : PySem.W.Frag → Bool} {K : PySem.W.Frag} {mg : Str → Option Value}
theorem Cnd.glo (Z : Cnd fa fn ex K mg) {x : Str} (i : Nat) (h : fa[i]? = some (.glo x) := by rfl) : mg x = some (.ref (He.ga K x)) := by
  obtain ⟨hp, X, G⟩ := Z.hh
  exact He.glo_ok X G (Z.c.fact i h)
theorem Cnd.free (Z : Cnd fa fn ex K mg) {x : Str} (i : Nat) (h : fa[i]? = some (.free x) := by rfl) : mg x = none := by
  obtain ⟨hp, X, G⟩ := Z.hh
  exact He.free_ok X G (Z.c.fact i h)
theorem Cnd.int (Z : Cnd fa fn ex K mg) {x : Str} {n : Int} (i : Nat) (h : fa[i]? = some (.int x n) := by rfl) : ∃ t, mg x = some (.int n t) := by
  obtain ⟨hp, X, G⟩ := Z.hh
  exact He.int_ok X G (Z.c.fact i h)
theorem Cnd.str (Z : Cnd fa fn ex K mg) {x z : Str} (i : Nat) (h : fa[i]? = some (.str x z) := by rfl) : ∃ t, mg x = some (.str z t) := by
  obtain ⟨hp, X, G⟩ := Z.hh
  exact He.str_ok X G (Z.c.fact i h)
abbrev dOf (x : Str) (st : Stmt) : He.DefD := ⟨(x, none), x, x, defArgs st, defBody st, defScope st, [], []⟩
def BindOk (x : Str) (st : Stmt) (ps : List Str) : Prop := ∀ (kV doc pm : Value) (an : Option Addr) (cdv ct : Value) (us : List Value), us.length = ps.length → bindArgs (PySem.W.fnOf x x (defArgs st) (defBody st) (defScope st) .none kV doc pm an cdv ct) ⟨us, []⟩ = pure (ps.zip us)
theorem fnAt_of {P : Program} {w : World} {base : Heap} {T : Tab} (Z : Cnd fa fn ex K mg) {x : Str} {st : Stmt} {N ps : List Str} {k n : Nat} {body : S} {m : Fn} (Sc : FnScope N ps (defScope st)) (i j : Nat) 
    (hb : BindOk x st ps) (hm : IsRun n body m)
    (h : ∀ (cdv : Value) (A : Around) (outer : List PySem.Env) (s : Shared) (H : Hp) (E : XK), Room k (A.deeper (envOfC x (defScope st) s.heap.objs.size (He.ga K x) cdv)) → A.guards = some [] →
      Takes (cxOf (L2.CX P w) P w K mg base N x (defScope st) (He.ga K x) cdv A outer s H E) (fun c d _ H' => E c d H') →
      PassesOwn (model P w) (cxOf (L2.CX P w) P w K mg base N x (defScope st) (He.ga K x) cdv A outer s H E).A (cxOf (L2.CX P w) P w K mg base N x (defScope st) (He.ga K x) cdv A outer s H E).env (cxOf (L2.CX P w) P w K mg base N x (defScope st) (He.ga K x) cdv A outer s H E).xe →
      PSs (cxOf (L2.CX P w) P w K mg base N x (defScope st) (He.ga K x) cdv A outer s H E) (defBody st) (tS T (fun c d _ H' => E c d H') body))
    (hi : fa[i]? = some (.glo x) := by rfl) (hj : fn[j]? = some (dOf x st) := by rfl) (hn : N.length = n := by rfl) :
    FnAt P w K mg base T (k + 1) x st ps m := by
  subst hn
  obtain ⟨fd, F⟩ := Z.c.def_ j hj
  have hpl : ps.length ≤ N.length := by have := congrArg List.length Sc.pre; rw [List.length_take] at this; omega
  refine ⟨He.ga K x, fd, Z.glo i hi, F.kp, F.bindsN hb, ?_, ?_⟩
  rotate_left
  · obtain ⟨oc, od, dV, kV, doc, pm, an, cdv, ct, osl, rfl, lk, hcd, hD, hK⟩ := F.ex
    rcases hD with ⟨_, rfl⟩ | ⟨e, _⟩
    · exact fun ks perm hk sh ws hl => .of_eq (hk kV doc pm an cdv ct ws hl)
    · exact absurd rfl e
  exact fnG_of F Sc (fun vs H Q E h => h.1) fun cdv A outer s H vs Q E hr hg hsp => ⟨_, h cdv A outer s H E hr hg (takes_of rfl rfl rfl rfl) (passes_of rfl), body_soundR hm hpl hsp⟩
/-- the law's def -/
theorem lawAt_of {P : Program} {w : World} {T : Tab} (Z : Cnd fa fn ex K mg) {x p : Str} {st : Stmt} {N : List Str} {k n : Nat} {body : S} {m : Fn} (Sc : FnScope N [p] (defScope st)) (j : Nat)
    (hb : BindOk x st [p]) (hm : IsRun n body m)
    (h : ∀ (base : Heap) (cdv : Value) (A : Around) (outer : List PySem.Env) (s : Shared) (H : Hp) (E : XK), Room k (A.deeper (envOfC x (defScope st) s.heap.objs.size (He.ga K x) cdv)) → A.guards = some [] →
      Takes (cxOf (L2.CX P w) P w K mg base N x (defScope st) (He.ga K x) cdv A outer s H E) (fun c d _ H' => E c d H') →
      PassesOwn (model P w) (cxOf (L2.CX P w) P w K mg base N x (defScope st) (He.ga K x) cdv A outer s H E).A (cxOf (L2.CX P w) P w K mg base N x (defScope st) (He.ga K x) cdv A outer s H E).env (cxOf (L2.CX P w) P w K mg base N x (defScope st) (He.ga K x) cdv A outer s H E).xe →
      PSs (cxOf (L2.CX P w) P w K mg base N x (defScope st) (He.ga K x) cdv A outer s H E) (defBody st) (tS T (fun c d _ H' => E c d H') body))
    (hj : fn[j]? = some (dOf x st) := by rfl) (hn : N.length = n := by rfl) :
    ∃ fd : FuncData, (∀ (s : Shared) (u : Value), BindsTo s fd ⟨[u], []⟩ [(p, u)]) ∧ ∀ base : Heap, FnG P w K mg base (k + 1) (He.ga K x) fd [p] (spF T 1 m) := by
  subst hn
  obtain ⟨fd, F⟩ := Z.c.def_ j hj
  have hpl : 1 ≤ N.length := by have := congrArg List.length Sc.pre; rw [List.length_take] at this; simp at this; omega
  refine ⟨fd, fun s u => F.bindsA (ps := [p]) hb s [u] rfl, fun base => ?_⟩
  exact fnG_of F Sc (fun vs H Q E h => h.1) fun cdv A outer s H vs Q E hr hg hsp => ⟨_, h base cdv A outer s H E hr hg (takes_of rfl rfl rfl rfl) (passes_of rfl), body_soundR hm hpl hsp⟩
/-- what the law's def answers is what its meaning answers -/
theorem law_sp {T : Tab} {m : Fn} {a : Addr} {ns : List Int} {H : Hp} (hS : SqL T.K H a (ns.map V.int)) (h : ∃ st, m [.lst (ns.map .int)] [] = .ok (.bl true) st) : spF T 1 m [.ref a] H (fun v _ => v = .bl true) fun _ _ _ => False := by
  obtain ⟨st, h⟩ := h
  refine ⟨rfl, ⟨[], []⟩, [.lst (ns.map .int)], [], ?_, ?_, ?_⟩
  · refine ⟨rfl, fun n m a h => ?_, fun n o h => ?_, fun a h => absurd h List.not_mem_nil, fun n a h => ?_⟩
    · exact absurd h (by simp)
    · exact absurd h (by simp)
    · exact absurd h (by simp)
  · have intsR : ∀ ns : List Int, RelVs T ⟨[], []⟩ H (ns.map Val.int) (ns.map V.int) := fun ns => by
      induction ns with
      | nil => exact .nil
      | cons n ns ih => exact .cons (.int n) ih
    refine .cons (.lst (us := ns.map V.int) ?_ (intsR ns)) .nil
    rcases hS with z | z
    · refine .inl ⟨?_, z⟩
      rintro (⟨n, hn⟩ | hn)
      · exact absurd hn (by simp)
      · exact absurd hn List.not_mem_nil
    · exact .inr z
  · rw [h]
    intro φ' H' u e s q
    cases q
    rfl
end
section
variable {X : Cx} {T : Tab} {W : WX}
theorem takesB : Takes X W0 := fun u s' ⟨a, B, sI, pins, σ, H, cls, d, e, I, nb, up, sky, na, os, ag, w⟩ => w.elim
theorem e_callF {k j : Nat} {ps : List Str} {m : Fn} {x : Str} {p pos : Pos} {e : Expr} {es : List Expr} {as : EA} {sx : Stmt} (F : FnAt X.prog X.w X.K X.mg X.base T j x sx ps m) (hr : Room k X.A) (hgd : X.A.guards = some []) (tk : Takes X W) (ha : PA X (e :: es) (tA T W as)) (hjk : j ≤ k := by decide) (hg : Gl X x := by rfl) (hdb : (x == ("__debug__" : Str)) = false := by decide)
    (he : starEach (e :: es) X.env = (false, eval e X.env) :: starEach es X.env := by rfl) (hpl : (backTo pos (starEach es X.env)).any (·.1) = false := by rfl) :
    PE X (.Call (.Name x p) (e :: es) [] pos) (tE T W (eCall ps.length m as)) := by
  obtain ⟨f, fd, hm, hk, hb, F, _⟩ := F.ex
  refine ⟨fun pins s σ H Q I h => ?_⟩
  refine wpAny_Call_Name_kw (ld_glob I hg hm ?_ hdb)
  have h' : tA T W as σ H (fun us H1 => spF T ps.length m us H1 Q (fun c d H' => W c d σ H')) := by
    obtain ⟨φ, ρ, st, re, pp⟩ := h
    exact ⟨φ, ρ, st, re, post_bind pp fun vs st1 φ1 H1 us eq e1 s1 q1 p1 => call_sound s1 q1 p1⟩
  refine PySem.W.callWith_K (h₀ := X.base) I.ok.mod.kin hk (thn (ha.run pos pins s σ H _ I h') fun us s1 ⟨vs, H1, I1, r, q⟩ => ⟨I1.kIn, ?_⟩) he hpl
  have b := hb s1 us I1.kIn (by rw [List.append_nil, ← r.length]; exact q.1)
  rw [List.append_nil] at b
  exact run_fnG (args := ⟨us, []⟩) (E := fun σ c d H' => W c d σ H') (F.mono hjk) hr hgd (fun pins H s e s' I c => passAt tk σ pins H s e s' I c) I1 b r q
/-- f(k = v, ..) -/
theorem k_nil : PK X [] (tA T W eNil) := ⟨fun pos pins s σ H Q I ⟨φ, ρ, st, re, p⟩ => pk_nil.run pos pins s σ H Q I (p.ok_self re.rst .nil)⟩
theorem k_cons {nm : Option Str} {e : Expr} {kpos : Pos} {kws : List Keyword} {a : E} {as : EA} (ha : PE X e (tE T W a)) (hr : PK X kws (tA T W as)) : PK X (⟨nm, e, kpos⟩ :: kws) (tA T W (eCons a as)) := by
  refine ⟨fun pos pins s σ H Q I h => (pk_cons ha hr).run pos pins s σ H Q I ?_⟩
  refine tG_bind h fun v ρ st1 φ1 H1 u re1 q1 p1 => ?_
  refine ⟨φ1, ρ, st1, re1, post_bind p1 fun vs st2 φ2 H2 us _ e2 s2 q2 p2 => ?_⟩
  exact p2.ok_self s2 (.cons (q1.ext e2) q2)
def eCallK (np kn : Nat) (perm : List Nat) (m : Fn) (a : EA) : E := fun ρ st => bindR (a ρ st) fun zs st1 => if zs.length = kn ∧ (permL perm zs).length = np then m (permL perm zs) st1 else .bad
theorem e_callK {k j : Nat} {ps ks : List Str} {perm : List Nat} {m : Fn} {x : Str} {p pos : Pos} {kws : List Keyword} {as : EA} {sx : Stmt} (F : FnAt X.prog X.w X.K X.mg X.base T j x sx ps m) (hkw : KwOk x sx ps ks perm) (hr : Room k X.A) (hgd : X.A.guards = some []) (tk : Takes X W) (ha : PK X kws (tA T W as)) (hjk : j ≤ k := by decide) (hg : Gl X x := by rfl) (hdb : (x == ("__debug__" : Str)) = false := by decide)
    (hlk : ks.length = kws.length := by rfl)
    (hall : (backToKw pos (keywordEach kws X.env)).all (·.1.isSome) = true := by rfl) (hks : (backToKw pos (keywordEach kws X.env)).filterMap (·.1) = ks := by rfl) 
    (hpl : ((backTo pos (starEach [] X.env)).any (·.1) || (backToKw pos (keywordEach kws X.env)).any (·.1.isNone)) = false := by rfl) :
    PE X (.Call (.Name x p) [] kws pos) (tE T W (eCallK ps.length ks.length perm m as)) := by
  obtain ⟨f, fd, hm, hk, _, F, hb⟩ := F.ex
  refine ⟨fun pins s σ H Q I h => ?_⟩
  refine wpAny_Call_Name_kw (ld_glob I hg hm ?_ hdb)
  refine PySem.W.callWith_KW0 (h₀ := X.base) I.ok.mod.kin hk hall ?_ hpl
  have h' : tA T W as σ H (fun us H1 => us.length = ks.length ∧ spF T ps.length m (permL perm us) H1 Q (fun c d H' => W c d σ H')) := by
    refine tG_bind h fun vs ρ st1 φ1 H1 us re1 q1 p1 => ?_
    split at p1
    · rename_i hn
      have q2 := permL_paired (relVs_paired q1) perm
      refine ⟨q1.length.symm.trans hn.1, by rw [← Paired.length q2]; exact hn.2, φ1, permL perm vs, st1, re1.rst, relVs_of q2, ?_⟩
      cases hm2 : m (permL perm vs) st1 with
      | ok v st' => rw [hm2] at p1; exact p1
      | ex x st' => rw [hm2] at p1; exact p1
      | bad => rw [hm2] at p1; exact p1
    · exact p1.elim
  refine thn (ha.run pos pins s σ H _ I h') fun ws s2 ⟨zs, H2, I2, rz, q0, q2⟩ => ⟨I2.kIn, ?_⟩
  rw [hks]
  have lw : ws.length = ks.length := rz.length.symm.trans q0
  have r2 : Vals (permL perm zs) (permL perm ws) := permL_paired rz perm
  exact run_fnG (args := ⟨[], ks.zip ws⟩) (E := fun σ c d H' => W c d σ H') (F.mono hjk) hr hgd (fun pins H s e s' I c => passAt tk σ pins H s e s' I c) I2 (hb ks perm hkw s2 ws lw) r2 q2
theorem e_gintE {x : Str} {i : Int} {pos : Pos} (hm : ∃ t, X.mg x = some (.int i t)) (hg : Gl X x := by rfl) (hd : (x == ("__debug__" : Str)) = false := by decide) : PE X (.Name x pos) (tE T W (eC (.int i))) := by
  obtain ⟨t, h⟩ := hm
  exact e_gint h hg hd
theorem e_gstrE {x : Str} {i : Str} {pos : Pos} (hm : ∃ t, X.mg x = some (.str i t)) (hg : Gl X x := by rfl) (hd : (x == ("__debug__" : Str)) = false := by decide) : PE X (.Name x pos) (tE T W (eC (.str i))) := by
  obtain ⟨t, h⟩ := hm
  exact e_gstr h hg hd
/-- what is not promised -/
def eBad : E := fun _ _ => .bad
def sBad : S := fun _ _ => .bad
theorem e_bad {e : Expr} : PE X e (tE T W eBad) := ⟨fun _ _ _ _ _ _ ⟨_, _, _, _, p⟩ => p.elim⟩
theorem s_bad {s : Stmt} : PS X s (tS T W sBad) := ⟨fun _ _ _ _ _ _ ⟨_, _, _, _, p⟩ => p.elim⟩
theorem hu65 {k : Nat} (hr : Room k X.A) : X.A.units + 65 < cLine := by have := hr.un; omega
theorem hu1 {k : Nat} (hr : Room k X.A) : X.A.units + 1 < cLine := by have := hr.un; omega
theorem hu0 {k : Nat} (hr : Room k X.A) : X.A.units < cLine := by have := hr.un; omega
theorem hu64 {k : Nat} (hr : Room k X.A) : X.A.units + 64 < cLine := by have := hr.un; omega
/-- a < b < c -/
def eChain (f g : Sto → Val → Val → Option Val) (a b c : E) : E := fun ρ st => bindR (a ρ st) fun v st1 => bindR (b ρ st1) fun u st2 => match f st2 v u with
  | some (.bl true) => bindR (c ρ st2) fun w st3 => optR (g st3 u w) st3
  | some (.bl false) => .ok (.bl false) st2
  | _ => .bad
theorem chain_sound {r r' : R2} {f g : Sto → Val → Val → Option Val} (hs : SndB T r f) (hs' : SndB T r' g) {a b c : E} {σ : L2.St} {H : Hp} {Q : VK} (h : tE T W (eChain f g a b c) σ H Q) : tChain r r' (tE T W a) (tE T W b) (tE T W c) σ H Q := by
  refine tG_bind h fun v ρ st1 φ1 H1 x re1 q1 p1 => ?_
  refine ⟨φ1, ρ, st1, re1, post_bind p1 fun u st2 φ2 H2 y eq2 e2 s2 q2 p2 => ?_⟩
  cases hf : f st2 v u with
  | none => rw [hf] at p2; exact p2.elim
  | some z =>
    rw [hf] at p2
    refine hs φ2 st2 H2 v u z x y _ s2 (q1.ext e2) q2 hf fun H3 z' e3 s3 q3 => ?_
    cases z with
    | bl k =>
      cases q3
      refine ⟨k, rfl, ?_⟩
      cases k with
      | true =>
        rw [if_pos rfl]
        refine ⟨φ2, ρ, st2, (re1.ext e2 s2).ext e3 s3, post_bind (Post.later p2 e3) fun w' st4 φ4 H4 y' eq4 e4 s4 q4 p4 => ?_⟩
        cases hg : g st4 u w' with
        | none => rw [hg] at p4; exact p4.elim
        | some t =>
          rw [hg] at p4
          exact hs' φ4 st4 H4 u w' t y y' Q s4 ((q2.ext e3).ext e4) q4 hg fun H' uu e5 s5 q5 => p4 φ4 H' uu e5 s5 q5
      | false => rw [if_neg (by decide)]; exact p2 φ2 H3 _ e3 s3 (.bl false)
    | _ => exact p2.elim
theorem e_chain {a b c : Expr} {op op' : CmpOp} {pos : Pos} {r r' : R2} {f g : Sto → Val → Val → Option Val} {ea eb ec : E} (ho : OpR X (compareOp op) r) (hs : SndB T r f) (ho' : OpR X (compareOp op') r') (hs' : SndB T r' g)
    (ha : PE X a (tE T W ea)) (hb : PE X b (tE T W eb)) (hc : PE X c (tE T W ec)) (hm : lastMarks [op, op'] [b, c] = false := by with_unfolding_all rfl) :
    PE X (.Compare a [op, op'] [b, c] pos) (tE T W (eChain f g ea eb ec)) := pe_imp (pe_chain ho ho' ha hb hc hm) fun _ _ _ h => chain_sound hs hs' h
theorem t_chain {a b c : Expr} {op op' : CmpOp} {pos : Pos} {r r' : R2} {f g : Sto → Val → Val → Option Val} {ea eb ec : E} (ho : OpR X (compareOp op) r) (hs : SndB T r f) (ho' : OpR X (compareOp op') r') (hs' : SndB T r' g)
    (ha : PE X a (tE T W ea)) (hb : PE X b (tE T W eb)) (hc : PE X c (tE T W ec)) (hm : lastMarks [op, op'] [b, c] = false := by with_unfolding_all rfl) :
    PT X (.Compare a [op, op'] [b, c] pos) (tT T W (eTest (eChain f g ea eb ec))) := by
  refine pt_imp (pt_chain ho ho' ha hb hc hm) fun σ H Q h => ?_
  have h' : tE T W (eChain f g ea eb ec) σ H (fun u H1 => ∃ k, u = .bl k ∧ Q k H1) := by
    refine tG_bind h fun v ρ st1 φ1 H1 u re1 q1 p1 => ?_
    split at p1
    · rename_i b
      cases q1
      exact ⟨b, rfl, p1.ok_self re1.rst rfl⟩
    · exact p1.elim
  exact chain_sound hs hs' h'
end
end Ev

set_option Elab.async false
set_option linter.all false
set_option maxRecDepth 100000
set_option maxHeartbeats 2000000
namespace Ev
open PySem PySem.Spec PyProof.Rows L2
section
variable {X : Cx} {T : Tab} {W : WX}
theorem rel_non {φ : Phi} {H : Hp} {v : Val} (r : RelV T φ H v .non) : v = .non ∨ ∃ n, v = .loc n := by
  cases r with
  | non => exact .inl rfl
  | loc => exact .inr ⟨_, rfl⟩
theorem isNon {st : Sto} {φ : Phi} {H : Hp} {v : Val} {x : V} {b : Bool} (r : RelV T φ H v x) (h : fIs st v .non = some (.bl b)) : decide (x = .non) = b := by
  cases b with
  | true =>
    unfold fIs at h
    split at h <;> first | (cases h; done) | (cases r; rfl) | (rename_i q; cases q)
  | false =>
    refine decide_eq_false fun z => ?_
    subst z
    rcases rel_non r with rfl | ⟨n, rfl⟩ <;> cases h
theorem fIs_non {st : Sto} {v z : Val} (h : fIs st v .non = some z) : ∃ b, z = .bl b := by
  unfold fIs at h
  split at h <;> cases h <;> exact ⟨_, rfl⟩
theorem fIs_bl {st : Sto} {v w z : Val} (h : fIs st v w = some z) : w = .non ∨ ∃ a b, v = .bl a ∧ w = .bl b ∧ z = .bl (decide (a = b)) := by
  unfold fIs at h
  split at h <;> cases h <;> first | exact .inl rfl | exact .inr ⟨_, _, rfl, rfl, rfl⟩
theorem fIsNot_eq {st : Sto} {v w : Val} : fIsNot st v w = (fIs st v w).map fun z => match z with | .bl b => .bl (!b) | z => z := by
  unfold fIsNot fIs
  split <;> rfl
theorem snd_is : SndB T rIsA fIs := by
  intro φ st H v w z x y Q R r1 r2 hf hq
  rcases fIs_bl hf with rfl | ⟨a, b, rfl, rfl, rfl⟩
  · obtain ⟨b, rfl⟩ := fIs_non hf
    cases r2
    refine .inl ⟨rfl, ?_⟩
    rw [isNon r1 hf]
    exact hq H _ Ext.refl R (.bl _)
  · cases r1
    cases r2
    exact .inr ⟨_, _, rfl, rfl, hq H _ Ext.refl R (.bl _)⟩
theorem snd_isNot : SndB T rIsNotA fIsNot := by
  intro φ st H v w z x y Q R r1 r2 hf hq
  rw [fIsNot_eq] at hf
  cases h : fIs st v w with
  | none => rw [h] at hf; cases hf
  | some z' =>
    rw [h] at hf
    rcases fIs_bl h with rfl | ⟨a, b, rfl, rfl, rfl⟩
    · obtain ⟨b, rfl⟩ := fIs_non h
      cases hf
      cases r2
      refine .inl ⟨rfl, ?_⟩
      rw [isNon r1 h]
      exact hq H _ Ext.refl R (.bl _)
    · cases hf
      cases r1
      cases r2
      exact .inr ⟨_, _, rfl, rfl, hq H _ Ext.refl R (.bl _)⟩

inductive Ty6 where
  | int | bool | str | tuple | list | dict
def Ty6.nm : Ty6 → String
  | .int => "int" | .bool => "bool" | .str => "str" | .tuple => "tuple" | .list => "list" | .dict => "dict"
def isTy (t : Ty6) (st : Sto) (v : Val) : Option Bool := match v with
  | .non => some false
  | .bl _ => some (match t with | .int | .bool => true | _ => false)
  | .int _ => some (match t with | .int => true | _ => false)
  | .str _ => some (match t with | .str => true | _ => false)
  | .tup _ => some (match t with | .tuple => true | _ => false)
  | .lst _ => some (match t with | .list => true | _ => false)
  | .dct _ _ => some (match t with | .dict => true | _ => false)
  | .loc n => match st[n]? with
    | some (.lst _) => some (match t with | .list => true | _ => false)
    | some (.dK _) => some (match t with | .dict => true | _ => false)
    | some (.dT _) => some (match t with | .dict => true | _ => false)
    | _ => none
  | _ => none
def tyName (st : Sto) (v : Val) : Option String := match v with
  | .non => some "NoneType"
  | .bl _ => some "bool"
  | .int _ => some "int"
  | .str _ => some "str"
  | .tup _ => some "tuple"
  | .lst _ => some "list"
  | .dct _ _ => some "dict"
  | .loc n => match st[n]? with
    | some (.lst _) => some "list"
    | some (.dK _) => some "dict"
    | some (.dT _) => some "dict"
    | _ => none
  | _ => none
theorem tyX_of {φ : Phi} {st : Sto} {H : Hp} {v : Val} {x : V} {n : String} (R : Rst T φ st H) (r : RelV T φ H v x) (h : tyName st v = some n) : L2.TyX T.K H x (.type n) := by
  cases r with
  | non => cases h; exact .base .non
  | bl b => cases h; exact .base (.bl b)
  | int i => cases h; exact .base (.int i)
  | str s => cases h; exact .base (.str s)
  | tup e _ => cases h; exact .base (.tup e)
  | lst e _ =>
    cases h
    rcases e with ⟨_, e | ⟨o, e⟩⟩ | ⟨o, its, n, e, c, _⟩
    · exact .base (.lst e)
    · exact .base (.frz e)
    · exact .kList e c
  | dct _ e _ _ =>
    cases h
    rcases e with e | ⟨o, e⟩
    · exact .base (.dK e)
    · exact .fDict e
  | exc => cases h
  | @loc n u hn hu =>
    unfold tyName at h
    dsimp only at h
    split at h
    · rename_i q
      cases h
      obtain ⟨a, e1, us, e2, e3⟩ := R.at q (by simp)
      rw [hu a e1]; exact .base (.lst e2)
    · rename_i q
      cases h
      obtain ⟨a, e1, us, e2, e3⟩ := R.at q (by simp)
      rw [hu a e1]; exact .base (.dK e2)
    · rename_i q
      cases h
      obtain ⟨a, e1, us, e2, e3⟩ := R.at q (by simp)
      rw [hu a e1]; exact .base (.dT e2)
    · cases h
theorem isTy_kit {t : Ty6} {st : Sto} {v : Val} {b : Bool} (h : isTy t st v = some b) : ∃ n, tyName st v = some n ∧ L2.kitB n t.nm = some b := by
  cases v with
  | loc n =>
    unfold isTy at h
    unfold tyName
    dsimp only at h ⊢
    split at h <;> first | cases h | skip
    all_goals
      rename_i q
      refine ⟨_, rfl, ?_⟩
      cases t <;> decide +kernel
  | exc => cases h
  | _ => refine ⟨_, rfl, ?_⟩; cases t <;> cases h <;> decide +kernel
def eIsi (t : Ty6) (a : E) : E := fun ρ st => bindR (a ρ st) fun v st1 => match isTy t st1 v with
  | some b => .ok (.bl b) st1
  | none => .bad
theorem e_isi {t : Ty6} {e : Expr} {x : Str} {a : E} {p p2 pos : Pos} (hm : X.mg "isinstance" = none) (hmT : X.mg x = none) (hv : bootBuiltins x = some (.type t.nm)) (hK : T.K = X.K) (ha : PE X e (tE T W a)) (hg : Gl X "isinstance" := by rfl) (hgT : Gl X x := by rfl)
    (hn : x ≠ "__name__" := by decide) (hdb : (x == ("__debug__" : Str)) = false := by decide)
    (he : starEach [e, .Name x p2] X.env = (false, eval e X.env) :: starEach [.Name x p2] X.env := by rfl) (he2 : starEach [.Name x p2] X.env = [(false, eval (.Name x p2) X.env)] := by rfl) (hpl : (backTo pos (starEach [.Name x p2] X.env)).any (·.1) = false := by rfl) :
    PE X (.Call (.Name "isinstance" p) [e, .Name x p2] [] pos) (tE T W (eIsi t a)) := by
  refine pe_imp (pe_callB call_isi hg hm (by decide +kernel) (pa_cons ha (pa_cons (pe_bltn (v := .ty t.nm) hgT hmT hv rfl hn hdb) pa_nil he2) he) (by decide) (by decide) he hpl) fun σ H Q h => ?_
  refine tG_bind h fun v ρ st1 φ1 H1 u re1 q1 p1 => ?_
  cases hf : isTy t st1 v with
  | none => rw [hf] at p1; exact p1.elim
  | some b =>
    rw [hf] at p1
    obtain ⟨n, h1, h2⟩ := isTy_kit hf
    exact ⟨u, _, _, _, b, rfl, .ty _, hK ▸ tyX_of re1.rst q1 h1, L2.kit_ty h2, p1.ok_self re1.rst (.bl b)⟩
end
end Ev

set_option Elab.async false
set_option linter.all false
set_option maxRecDepth 100000
set_option maxHeartbeats 2000000
namespace Ev
open PySem PySem.Spec PyProof.Rows L2
theorem q_rmul_il (a : Int) (t : Tok) (l : Addr) (items : Array Value) (n : Nat) (d : Option Addr) (sl : Array (Option Value)) :
    Meets (Builtin.«int.__rmul__» ⟨[.int a t, .ref l], []⟩) (fun _ R s => s.heap.get? l = some { cls := .type "list", dict := d, data := .seq items n, slots := sl } ∧ R (.ok (.ret Value.notImplemented)) s) :=
  .of_wp fun prog w A R s h => by obtain ⟨hp, g, d, tk, os⟩ := s; obtain ⟨hl, h⟩ := h; wp_walk; exact ⟨_, rfl, h⟩
theorem q_mul_il (l : Addr) (items : Array Value) (n : Nat) (d : Option Addr) (sl : Array (Option Value)) (x : Int) (u : Tok) (hc0 : ¬(!Builtin.List.listFitsIndex x) = true) (hc1 : ¬items.size * x.toNat > (2 ^ 63 - 1) / 8) (hc2 : ¬Builtin.List.listTooLong (items.size * x.toNat) = true) :
    Meets (Builtin.«list.__mul__» ⟨[.ref l, .int x u], []⟩) (fun _ R s => s.heap.get? l = some { cls := .type "list", dict := d, data := .seq items n, slots := sl } ∧ R (.ok (.ret (Value.ref s.heap.objs.size))) { s with heap := s.heap.push { cls := Value.type "list", data := Data.seq (List.foldl (fun x1 x2 => x1 ++ x2) #[] (List.replicate (if items.isEmpty = true then 0 else x.toNat) items)) }, toks := s.toks }) :=
  .of_wp fun prog w A R s h => by
    obtain ⟨hp, g, d, tk, os⟩ := s; obtain ⟨hl, h⟩ := h
    have hsz := PySem.AutoListH.joined_fits hc2
    wp_walk; refine wpAny_ite_false (decide_eq_false (Nat.not_lt.mpr hsz)) ?_; wp_walk; exact ⟨_, rfl, h⟩
def rRepL (K : PySem.W.Frag) : R2 := fun x y H Q => ∃ l k xs, x = .ref l ∧ y = .int k ∧ SqL K H l xs ∧ -(2 ^ 63) ≤ k ∧ k < 2 ^ 63 ∧ xs.length * k.toNat ≤ sizeLine ∧
  ∀ p, H p = none → Q (.ref p) (upd H p (.lst (List.replicate k.toNat xs).flatten))
section
variable {X : Cx} {T : Tab} {W : WX}
theorem op_repL : OpR X (binaryOp .Mult) (rRepL X.K) := by
  intro pins s σ H x y v u Q I rx ry h
  obtain ⟨l, k, xs, rfl, rfl, hS, h1, h2, hz, q⟩ := h
  obtain rfl : v = Value.ref l := rx
  obtain ⟨t, rfl⟩ := ry
  obtain ⟨its, r, ⟨⟨cls, dd, data, sl⟩, n, ho, hc, hdn, hd⟩, hlen0⟩ := I.list hS
  have hc1 : cls = Value.type "list" := hc
  have hd1 : data = Data.seq its.toArray n := hd
  subst hc1 hd1
  have hlen : its.toArray.size * k.toNat ≤ sizeLine := by rw [List.size_toArray, ← r.length]; exact hz
  have hcap : ¬ its.toArray.size * k.toNat > (2 ^ 63 - 1) / 8 := by
    have : (sizeLine : Nat) ≤ (2 ^ 63 - 1) / 8 := by decide
    omega
  have hfit : ¬ (!Builtin.List.listFitsIndex k) = true := by
    rw [fitsIndex_both h1 h2]
    exact Bool.false_ne_true
  have hlong : ¬ Builtin.List.listTooLong (its.toArray.size * k.toNat) = true := by
    rw [notLongL hlen]
    exact Bool.false_ne_true
  have hnew : List.foldl (fun x1 x2 => x1 ++ x2) #[] (List.replicate (if its.toArray.isEmpty = true then 0 else k.toNat) its.toArray) = (List.replicate k.toNat its).flatten.toArray := by
    rw [L2.size_rep]
    cases its with
    | nil => simp
    | cons a r' => rw [if_neg (by simp)]
  refine wpAny_binaryOp_repeat_ref (T := "list") (U := "int") (by decide) ⟨_, ho, rfl⟩ (fun s' => typeIs_int s' k t) noFill_list_mul F.fills_int_mul F.slot_int_rmul repeat_list F.slot_int_index.lookup
    (call_meets F.slot_int_rmul (typeIs_int s k t) F.entry_int_rmul (F.args_int_rmul_2 _ _) (q_rmul_il k t l its.toArray n dd sl)
      ⟨ho, rfl, ⟨_, ho, rfl⟩, call_meets F.slot_list_mul ⟨_, ho, rfl⟩ F.entry_list_mul (F.args_list_mul_2 _ _) (q_mul_il l its.toArray n dd sl k t hfit hcap hlong) ⟨ho, ?_⟩⟩)
  rw [hnew]
  refine ⟨.ref s.heap.objs.size, _, I.laid (t' := s.toks) (o := .lst (List.replicate k.toNat xs).flatten) (fun b ob q => Heap.get?_push_of_some _ q) (Nat.le_refl _) ?_, rfl, q _ (I.hok.fresh (Nat.le_refl _))⟩
  exact ⟨by rw [PyProof.Rows.lm_len_rep_flat, Nat.mul_comm]; exact hz, _, 0, r.rep k.toNat, Heap.get?_push_size _ rfl⟩
def rRepS : R2 := fun x y H Q => ∃ z k, x = .str z ∧ y = .int k ∧ 1 ≤ k ∧ k ≤ 1000 ∧ z.length ≤ 1000 ∧ Q (.str (Txt.mul z k)) H
theorem op_repS : OpR X (binaryOp .Mult) rRepS := by
  intro pins s σ H x y v u Q I rx ry h
  obtain ⟨z, k, rfl, rfl, h1, h2, h3, q⟩ := h
  obtain ⟨t, rfl⟩ := rx
  obtain ⟨t', rfl⟩ := ry
  refine PySem.SB.mul ⟨?_, fun _ _ => ?_, fun _ _ => ?_⟩ fun t2 k2 => ⟨.str _, H, I.tok _, ⟨_, rfl⟩, q⟩
  · rw [decide_eq_false (by omega), decide_eq_false (by omega)]
    rfl
  · have h4 : (1000 : Int) ≤ (2 ^ 63 - 1) / k := by
      refine (Int.le_ediv_iff_mul_le (by omega)).mpr ?_
      omega
    omega
  · unfold Builtin.Str.tooLong
    have h5 : z.length * k.toNat ≤ 1000 * 1000 := Nat.mul_le_mul h3 (by omega)
    rw [sizeLine_eq]
    exact decide_eq_false (by omega)
def fMul (st : Sto) (v w : Val) : Option Val := match v, w with
  | .int i, .int j => if cMul i j = true then some (.int (i * j)) else none
  | .tup xs, .int k => if 2 ≤ k ∧ k ≤ 1000 ∧ xs.length ≤ 1000 ∧ xs ≠ [] then some (.tup (List.replicate k.toNat xs).flatten) else none
  | .lst xs, .int k => if -(2 ^ 63) ≤ k ∧ k < 2 ^ 63 ∧ xs.length * k.toNat ≤ sizeLine then some (.lst (List.replicate k.toNat xs).flatten) else none
  | .str z, .int k => if 1 ≤ k ∧ k ≤ 1000 ∧ z.length ≤ 1000 then some (.str (Txt.mul z k)) else none
  | _, _ => none
def rMulA (K : PySem.W.Frag) : R2 := fun x y H Q => (rI CMul fun i j => .int (i * j)) x y H Q ∨ rRepL K x y H Q ∨ rRepT K x y H Q ∨ rRepS x y H Q
theorem op_mulA : OpR X (binaryOp .Mult) (rMulA X.K) := op_mul.or (op_repL.or (op_repT.or op_repS))
theorem snd_mul : SndB T (rMulA T.K) fMul := by
  intro φ st H v w z x y Q R r1 r2 hf hq
  unfold fMul at hf
  split at hf
  · split at hf
    · rename_i hc
      cases hf; cases r1; cases r2
      exact .inl ⟨_, _, rfl, rfl, cMul_ok _ _ hc, hq H _ Ext.refl R (.int _)⟩
    · cases hf
  · split at hf
    · rename_i hc
      cases hf
      cases r2
      cases r1 with
      | tup a1 b1 =>
        rename_i us a
        refine .inr (.inr (.inl ⟨a, _, us, rfl, rfl, SqT.of a1, ?_, hc.1, hc.2.1, by rw [← b1.length]; exact hc.2.2.1, fun p hp => ?_⟩))
        · intro z; subst z; cases b1; exact hc.2.2.2 rfl
        · exact hq _ _ (Ext.fresh R hp) (R.fresh hp) (.tup upd_same ((b1.rep _).ext (Ext.fresh R hp)))
    · cases hf
  · split at hf
    · rename_i hc
      cases hf
      cases r2
      obtain ⟨a, us, rfl, s1, q1⟩ := rel_lst (xs := _) R r1 rfl
      refine .inr (.inl ⟨a, _, us, rfl, rfl, s1, hc.1, hc.2.1, by rw [← q1.length]; exact hc.2.2, fun p hp => ?_⟩)
      exact hq _ _ (Ext.fresh R hp) (R.fresh hp) (.lst (.inl ⟨R.nolive hp, .inl upd_same⟩) ((q1.rep _).ext (Ext.fresh R hp)))
    · cases hf
  · split at hf
    · rename_i hc
      cases hf
      cases r1; cases r2
      exact .inr (.inr (.inr ⟨_, _, rfl, rfl, hc.1, hc.2.1, hc.2.2, hq H _ Ext.refl R (.str _)⟩))
    · cases hf
  · cases hf
/-- xs * k, a new thing of the store -/
def eMulN (a b : E) : E := fun ρ st => bindR (a ρ st) fun v st1 => bindR (b ρ st1) fun w st2 => match v, w with
  | .lst xs, .int k => if -(2 ^ 63) ≤ k ∧ k < 2 ^ 63 ∧ xs.length * k.toNat ≤ sizeLine then .ok (.loc st2.length) (st2 ++ [.lst (List.replicate k.toNat xs).flatten]) else .bad
  | _, _ => .bad
theorem e_mulN {a b : Expr} {pos : Pos} {ea eb : E} (hK : T.K = X.K) (ha : PE X a (tE T W ea)) (hb : PE X b (tE T W eb)) : PE X (.BinOp a .Mult b pos) (tE T W (eMulN ea eb)) := by
  refine pe_imp (pe_op op_repL ha hb) fun σ H Q h => ?_
  refine tG_bind h fun v ρ st1 φ1 H1 u re1 q1 p1 => ?_
  refine ⟨φ1, ρ, st1, re1, post_bind p1 fun w st2 φ2 H2 y eq2 e2 s2 q2 p2 => ?_⟩
  split at p2
  · split at p2
    · rename_i hc
      cases q2
      obtain ⟨a, us, rfl, s1, q1⟩ := rel_lst (xs := _) s2 (q1.ext e2) rfl
      refine ⟨a, _, us, rfl, rfl, hK ▸ s1, hc.1, hc.2.1, by rw [← q1.length]; exact hc.2.2, fun p hp => ?_⟩
      exact p2 _ _ _ (Ext.alloc s2 hp) (s2.alloc hp ⟨_, upd_same, (q1.rep _).ext (Ext.alloc s2 hp)⟩) (rel_loc s2)
    · exact p2.elim
  · exact p2.elim
end
end Ev

set_option Elab.async false
set_option linter.all false
set_option maxRecDepth 100000
set_option maxHeartbeats 2000000
namespace Ev
open PySem PySem.Spec PyProof.Rows L2
section
variable {prog : Program} {w : World} {A : Around} {E : Value → Shared → Prop} {s : Shared}
theorem sliceApplied_rev {sl : Addr} {vl vu vs : Value} {n : Nat} {Q : Int × Int × Nat → Shared → Prop} (hs : s.heap.IsSliceOf sl vl vu vs) (pl : IsPart vl none) (pu : IsPart vu none) (ps : IsPart vs (some (-1)))
    (h : Q ((n : Int) - 1, -1, n) s) : wpAny (model prog w) A (Builtin.Slice.sliceApplied (.ref sl) (pure (n : Int))) Q E s := by
  obtain ⟨os, hos, hcs, hds⟩ := id hs
  unfold Builtin.Slice.sliceApplied Builtin.Slice.sliceFields
  refine wpAny_bind (wpAny_bind (wpAny_field hos hds (x := vl) rfl (wpAny_bind (wpAny_field hos hds (x := vu) rfl (wpAny_bind (wpAny_field hos hds (x := vs) rfl (wpAny_pure ?_)))))))
  refine wpAny_bind (HT.slicePart_ ps ?_)
  show wpAny _ _ (if ((-1 : Int) == 0) = true then _ else _) _ _ s
  rw [if_neg (by decide)]
  refine wpAny_bind (HT.slicePart_ pl (wpAny_bind (HT.slicePart_ pu (wpAny_bind (wpAny_pure ?_)))))
  have e : Builtin.Slice.sliceAdjust none none (-1) (n : Int) = ((n : Int) - 1, -1) := by
    unfold Builtin.Slice.sliceAdjust
    simp
  have e2 : Builtin.Slice.slicePlaces ((n : Int) - 1) (-1) (-1) = n := by
    unfold Builtin.Slice.slicePlaces
    simp only [show ¬ ((-1 : Int) > 0) by decide, if_false]
    split
    · rw [show (- -1 : Int) = 1 by decide, Int.ediv_one]; omega
    · omega
  show wpAny _ _ (match Builtin.Slice.sliceAdjust none none (-1) (n : Int) with | (lo, hi) => pure (lo, (-1 : Int), Builtin.Slice.slicePlaces lo hi (-1))) _ _ s
  rw [e]
  show wpAny _ _ (pure ((n : Int) - 1, (-1 : Int), Builtin.Slice.slicePlaces ((n : Int) - 1) (-1) (-1))) _ _ s
  rw [e2]
  exact wpAny_pure h
theorem fm_map {α β : Type} {f : α → Option β} {g : α → β} : ∀ {l : List α}, (∀ m, m ∈ l → f m = some (g m)) → l.filterMap f = l.map g
  | [], _ => rfl
  | a :: l, h => by
    rw [List.filterMap_cons, h a List.mem_cons_self, List.map_cons]
    exact congrArg _ (fm_map fun m hm => h m (List.mem_cons_of_mem _ hm))
theorem pick_rev (xs : Array Value) : ((List.range xs.size).filterMap fun (m : Nat) => xs[(((xs.size : Int) - 1) + (m : Int) * (-1)).toNat]?).toArray = xs.toList.reverse.toArray := by
  congr 1
  apply List.ext_getElem?
  intro i
  have e : ((List.range xs.size).filterMap fun (m : Nat) => xs[(((xs.size : Int) - 1) + (m : Int) * (-1)).toNat]?) = (List.range xs.size).map fun m => xs.toList.getD (xs.size - 1 - m) (.none) := by
    refine fm_map fun m hm => ?_
    have hm := List.mem_range.mp hm
    have e1 : (((xs.size : Int) - 1) + (m : Int) * (-1)).toNat = xs.size - 1 - m := by omega
    have e2 : xs.size - 1 - m < xs.size := by omega
    rw [e1, List.getD_eq_getElem?_getD, Array.getElem?_toList, Array.getElem?_eq_getElem e2]
    rfl
  rw [e]
  by_cases hi : i < xs.size
  · have e2 : xs.size - 1 - i < xs.size := by omega
    rw [List.getElem?_reverse (by simpa using hi), List.getElem?_map, List.getElem?_range hi]
    show some (xs.toList.getD (xs.size - 1 - i) .none) = xs.toList[xs.toList.length - 1 - i]?
    rw [Array.length_toList, List.getD_eq_getElem?_getD, Array.getElem?_toList, Array.getElem?_eq_getElem e2]
    rfl
  · rw [List.getElem?_eq_none (by simpa using hi), List.getElem?_eq_none (by simpa using hi)]
theorem getItem_tuple_rev {t sl : Addr} {items : Array Value} {vl vu vs : Value} {Q : Value → Shared → Prop} (ht : IsTup s.heap t items) (hs : s.heap.IsSliceOf sl vl vu vs) (pl : IsPart vl none) (pu : IsPart vu none) (ps : IsPart vs (some (-1)))
    (h : Q (.ref s.heap.objs.size) { s with heap := s.heap.push { cls := .type "tuple", data := .seq items.toList.reverse.toArray } })
    (hsz : items.size ≤ sizeLine) : wpAny (model prog w) A (getItem (.ref t) (.ref sl)) Q E s := by
  have htake : sizeOk (.seq items.toList.reverse.toArray) := by
    show items.toList.reverse.toArray.size ≤ sizeLine
    rw [List.size_toArray, List.length_reverse, Array.length_toList]
    exact hsz
  obtain ⟨os, hos, hcs, hds⟩ := id hs
  have hTs : s.TypeIs (.ref sl) "slice" := ⟨os, hos, hcs⟩
  unfold getItem
  try with_reducible refine wpAny_holding ?_
  first | refine wpAny_bind (wpAny_pure ?_) | skip
  refine wpAny_bind (wpAny_sequenceKey ht.typeIs (by decide) ?_)
  refine wpAny_bind (wpAny_callSpecial?_slot (name := Str.ofString "__getitem__") ht.typeIs PyProof.Rows.slot_tuple_getitem
    (wpAny_call_entry PyProof.Rows.slot_tuple_getitem ht.typeIs entry_tuple_getitem ?_ (args_tuple_getitem _ _)))
  show wpAny _ _ (Builtin.Tuple.tupleItemsOf (.ref t) >>= _) _ _ s
  refine wpAny_bind (tupleItemsOf_ ht ?_)
  refine wpAny_bind (wpAny_typeOf hTs ?_)
  rw [if_pos (by decide)]
  refine wpAny_bind (sliceApplied_rev hs pl pu ps ?_)
  have hno : ¬ ((((items.size : Int) - 1) == 0 && (-1 : Int) == 1 && items.size == items.size) = true) := by
    intro q
    rw [Bool.and_eq_true, Bool.and_eq_true] at q
    exact absurd q.1.2 (by decide)
  show wpAny _ _ (if (((items.size : Int) - 1) == 0 && (-1 : Int) == 1 && items.size == items.size) = true then _ else _) _ _ s
  rw [if_neg hno, pick_rev]
  first
    | exact wpAny_bind (m := Builtin.Tuple.tupleExact _) (wpAny_newObj_type (wpAny_pure ⟨_, rfl, wpAny_pure h⟩) htake)
    | exact wpAny_bind (m := Builtin.Tuple.tupleExact _) (wpAny_newObj_type (wpAny_bind (wpAny_pure (wpAny_pure ⟨_, rfl, wpAny_pure h⟩))) htake)
    | exact wpAny_bind (wpAny_bind (m := Builtin.Tuple.tupleExact _) (wpAny_newObj_type (wpAny_pure (wpAny_pure ⟨_, rfl, wpAny_pure h⟩)) htake))
    | exact wpAny_bind (wpAny_bind (m := Builtin.Tuple.tupleExact _) (wpAny_newObj_type (wpAny_pure ⟨_, rfl, wpAny_pure h⟩) htake))
end
section
variable {X : Cx} {T : Tab} {W : WX}
def tRevT (K : PySem.W.Frag) (te : TE) : TE := fun σ H Q => te σ H fun x H1 => ∃ a xs, x = .ref a ∧ SqT K H1 a xs ∧ ∀ p, H1 p = none → Q (.ref p) (upd H1 p (.tup xs.reverse))
theorem pe_revT {e : Expr} {te : TE} {k : Nat} {p1 p2 p3 pos : Pos} (he : PE X e te) : PE X (.Subscript e (.Slice none none (some (.UnaryOp .USub (.Constant (.int 1) k p1) p2)) p3) pos) (tRevT X.K te) := by
  refine ⟨fun pins s σ H Q I h => ?_⟩
  refine Subscript_ (thn (he.run pins s σ H _ I h) fun v s1 ⟨x, H1, I1, r1, q1⟩ => ?_)
  obtain ⟨a, xs, ex, hx, q⟩ := q1
  subst ex
  cases r1
  have hst : PO X (some (.UnaryOp .USub (.Constant (.int 1) k p1) p2)) (tPart (tUn (rU fun i => .int (-i)) (tC (.int 1)))) := po_some (pe_un un_neg pe_int)
  refine wpAny_Slice (thn (po_none.run pins s1 σ H1 (fun o H2 => o = none ∧ H2 = H1) I1 ⟨rfl, rfl⟩) fun vl s2 ⟨l, H2, I2, pl, el, e2⟩ => ?_)
  subst el e2
  refine thn (po_none.run pins s2 σ H2 (fun o H3 => o = none ∧ H3 = H2) I2 ⟨rfl, rfl⟩) fun vu s3 ⟨u, H3, I3, pu, eu, e3⟩ => ?_
  subst eu e3
  refine thn (hst.run pins s3 σ H3 (fun o H4 => o = some (-1) ∧ H4 = H3) I3 ⟨1, rfl, -1, rfl, rfl, rfl⟩) fun vs s4 ⟨o, H4, I4, ps, eo, e4⟩ => ?_
  subst eo e4
  have I5 : Inv X pins σ H4 { s4 with heap := s4.heap.push { cls := .type "slice", data := .fields #[vl, vu, vs] } } := I4.kept (t' := s4.toks) fun b ob q => Heap.get?_push_of_some _ q
  obtain ⟨its, r, ht, hz⟩ := I5.tuple hx
  have hlen := r.length
  show wpAny (model X.prog X.w) X.A (subscriptTail e (.Slice none none (some (.UnaryOp .USub (.Constant (.int 1) k p1) p2)) p3) (.ref a) (.ref s4.heap.objs.size)) (L2.EP X pins σ Q) X.xe { s4 with heap := s4.heap.push { cls := .type "slice", data := .fields #[vl, vu, vs] } }
  refine tail_any (ops := [.ref a, .ref s4.heap.objs.size]) ht.typeIs (PyProof.Rows.slot_tuple_getitem.lookup) ?_ (by with_unfolding_all rfl)
  refine getItem_tuple_rev ht (Heap.IsSliceOf.new _ vl vu vs) pl pu ps ?_ (by rw [List.size_toArray]; omega)
  refine ⟨.ref _, _, I5.laid (t' := s4.toks) (o := .tup xs.reverse) (fun b ob q => Heap.get?_push_of_some _ q) (Nat.le_refl _) ?_, rfl, q _ (I5.hok.fresh (Nat.le_refl _))⟩
  exact ⟨by rw [List.length_reverse]; exact hz, _, r.reverse, IsTup.new _ _⟩
def eRevT (a : E) : E := fun ρ st => bindR (a ρ st) fun v st1 => match v with
  | .tup xs => .ok (.tup xs.reverse) st1
  | _ => .bad
theorem e_revT {e : Expr} {a : E} {k : Nat} {p1 p2 p3 pos : Pos} (he : PE X e (tE T W a)) : PE X (.Subscript e (.Slice none none (some (.UnaryOp .USub (.Constant (.int 1) k p1) p2)) p3) pos) (tE T W (eRevT a)) := by
  refine pe_imp (pe_revT he) fun σ H Q h => ?_
  refine tG_bind h fun v ρ st1 φ1 H1 u re1 q1 p1 => ?_
  split at p1
  · cases q1 with
    | tup a1 b1 =>
      rename_i xs us ad
      refine ⟨ad, us, rfl, SqT.of a1, fun p hp => ?_⟩
      exact p1 _ _ _ (Ext.fresh re1.rst hp) (re1.rst.fresh hp) (.tup upd_same ((RelVs.reverse b1).ext (Ext.fresh re1.rst hp)))
  · exact p1.elim
abbrev EO := Env → Sto → Res (Option Int)
abbrev tO (T : Tab) (W : WX) (e : EO) : TO := fun σ H Q => tG T (fun _ _ (a b : Option Int) => a = b) W e σ H Q
def oNone : EO := fun _ st => .ok none st
def oSome (a : E) : EO := fun ρ st => bindR (a ρ st) fun v st1 => match v with
  | .int i => .ok (some i) st1
  | _ => .bad
theorem o_none : PO X none (tO T W oNone) := ⟨fun pins s σ H Q I ⟨φ, ρ, st, re, p⟩ => po_none.run pins s σ H Q I (p.ok_self re.rst rfl)⟩
theorem o_some {e : Expr} {a : E} (h : PE X e (tE T W a)) : PO X (some e) (tO T W (oSome a)) := by
  refine ⟨fun pins s σ H Q I q => (po_some h).run pins s σ H Q I ?_⟩
  refine tG_bind q fun v ρ st1 φ1 H1 u re1 q1 p1 => ?_
  split at p1
  · cases q1
    exact ⟨_, rfl, p1.ok_self re1.rst rfl⟩
  · exact p1.elim
def cutG {α : Type} (xs : List α) (lo hi : Option Int) : List α := (xs.drop (HT.sIx xs.length 0 lo)).take (HT.sIx xs.length xs.length hi - HT.sIx xs.length 0 lo)
def rSlAll (K : PySem.W.Frag) : V → Option Int → Option Int → Hp → VK → Prop := fun x lo hi H Q => rSlA K x lo hi H Q ∨ rSlL K x lo hi H Q ∨ rSlS x lo hi H Q
theorem sl_all : SlR X (rSlAll X.K) := sl_tupA.or (sl_list.or sl_str)
def eSl (a : E) (lo hi : EO) : E := fun ρ st => bindR (a ρ st) fun v st1 => bindR (lo ρ st1) fun l st2 => bindR (hi ρ st2) fun h st3 => match v with
  | .tup xs => .ok (.tup (cutG xs l h)) st3
  | .str z => if z.length ≤ sizeLine then .ok (.str (cutS z l h)) st3 else .bad
  | v => match lstOf st3 v with
    | some xs => .ok (.lst (cutG xs l h)) st3
    | none => .bad
theorem RelVs.cut {φ : Phi} {H : Hp} {xs : List Val} {us : List V} (r : RelVs T φ H xs us) (lo hi : Option Int) : RelVs T φ H (cutG xs lo hi) (cutV us lo hi) := by
  unfold cutG cutV
  rw [r.length]
  exact RelVs.take _ (RelVs.drop _ r)
theorem cutG_whole {α : Type} {xs : List α} {lo hi : Option Int} (h : HT.sIx xs.length 0 lo = 0 ∧ HT.sIx xs.length xs.length hi = xs.length) : cutG xs lo hi = xs := by
  unfold cutG
  rw [h.1, h.2, List.drop_zero, Nat.sub_zero, List.take_length]
theorem e_slice {e : Expr} {lo hi : Option Expr} {p2 pos : Pos} {a : E} {l h : EO} (hK : T.K = X.K) (he : PE X e (tE T W a)) (hl : PO X lo (tO T W l)) (hu : PO X hi (tO T W h)) : PE X (.Subscript e (.Slice lo hi none p2) pos) (tE T W (eSl a l h)) := by
  refine pe_imp (pe_slice sl_all he hl hu) fun σ H Q q => ?_
  rw [← hK]
  refine tG_bind q fun v ρ st1 φ1 H1 u re1 q1 p1 => ?_
  refine ⟨φ1, ρ, st1, re1, post_bind p1 fun lo st2 φ2 H2 lo' eq2 e2 s2 q2 p2 => ?_⟩
  have re2 := re1.ext e2 s2
  refine ⟨φ2, ρ, st2, re2, post_bind p2 fun hi st3 φ3 H3 hi' eq3 e3 s3 q3 p3 => ?_⟩
  subst q2 q3
  have q1 := (q1.ext e2).ext e3
  split at p3
  · cases q1 with
    | tup a1 b1 =>
      rename_i xs us ad
      refine .inl ⟨ad, us, rfl, SqT.of a1, fun hw => ?_, fun hw p hp => ?_⟩
      · rw [cutG_whole (by rw [b1.length]; exact hw)] at p3
        exact p3.ok_self s3 (.tup a1 b1)
      · exact p3 _ _ _ (Ext.fresh s3 hp) (s3.fresh hp) (.tup upd_same ((RelVs.cut b1 _ _).ext (Ext.fresh s3 hp)))
  · split at p3
    · rename_i hz
      cases q1
      exact .inr (.inr ⟨_, rfl, hz, p3.ok_self s3 (.str _)⟩)
    · exact p3.elim
  · split at p3
    · rename_i xs hx
      obtain ⟨ad, us, rfl, hs, hr⟩ := rel_lst s3 q1 hx
      refine .inr (.inl ⟨ad, us, rfl, hs, fun p hp => ?_⟩)
      exact p3 _ _ _ (Ext.fresh s3 hp) (s3.fresh hp) (.lst (.inl ⟨s3.nolive hp, .inl upd_same⟩) ((RelVs.cut hr _ _).ext (Ext.fresh s3 hp)))
    · exact p3.elim
end
end Ev

set_option Elab.async false
set_option linter.all false
set_option maxRecDepth 100000
set_option maxHeartbeats 2000000
namespace Ev
open PySem PySem.Spec PyProof.Rows L2
def kVal : Key → Val
  | .inl i => .int i
  | .inr s => .str s
section
variable {X : Cx} {T : Tab} {W : WX}
theorem relV_key {φ : Phi} {H : Hp} (k : Key) : RelV T φ H (kVal k) (kV k) := by
  cases k with
  | inl i => exact .int i
  | inr s => exact .str s
theorem relVs_keys {φ : Phi} {H : Hp} : ∀ ks : List Key, RelVs T φ H (ks.map kVal) (ks.map kV)
  | [] => .nil
  | k :: ks => .cons (relV_key k) (relVs_keys ks)
theorem relVs_isKeys {φ : Phi} {H : Hp} {kvs : List (List Key × Val)} {us : List (List Key × V)} {bs : List Addr} (r : RelF T φ H kvs us) (h : L2.IsKeys H us bs) : RelVs T φ H (kvs.map fun kv => .tup (kv.1.map kVal)) (bs.map V.ref) := by
  unfold L2.IsKeys at h
  unfold RelF at r
  induction h generalizing kvs with
  | nil => cases r; exact .nil
  | cons a _ ih =>
    cases r with
    | cons b c =>
      refine .cons ?_ (ih c)
      dsimp only
      rw [b.1]
      exact .tup a (relVs_keys _)
theorem relVs_keysK {φ : Phi} {H : Hp} {kvs : List (Key × Val)} {us : List (Key × V)} (r : RelF T φ H kvs us) : RelVs T φ H (kvs.map fun kv => kVal kv.1) (us.map fun kv => kV kv.1) := by
  unfold RelF at r
  induction r with
  | nil => exact .nil
  | cons a _ ih =>
    refine .cons ?_ ih
    dsimp only
    rw [a.1]
    exact relV_key _
/-- list(x), x a dict, a list or a tuple -/
def fListA (st : Sto) (vs : List Val) : Option Val := match vs with
  | [.loc n] => match st[n]? with
    | some (.dT kvs) => some (.lst (kvs.map fun kv => .tup (kv.1.map kVal)))
    | some (.dK kvs) => some (.lst (kvs.map fun kv => kVal kv.1))
    | _ => fList st vs
  | _ => fList st vs
def rListA (K : PySem.W.Frag) : List V → Hp → VK → Prop := fun xs H Q => (∃ p ys, xs = [.ref p] ∧ (SqL K H p ys ∨ SqT K H p ys) ∧ ∀ l, H l = none → Q (.ref l) (upd H l (.lst ys))) ∨
  (∃ d kvs, xs = [V.ref d] ∧ Rd H d (.dT kvs) ∧ ∀ p bs, H p = none → L2.IsKeys H kvs bs → Q (.ref p) (upd H p (.lst (bs.map V.ref)))) ∨
  (∃ (a : Addr) (kvs : List (Key × V)), xs = [.ref a] ∧ Rd H a (.dK kvs) ∧ ∀ p, H p = none → Q (.ref p) (upd H p (.lst (kvs.map fun kv => kV kv.1))))
theorem call_listA (hc : X.calm = true) : CallR X (.type "list") (rListA X.K) := call_list_of.or ((call_list_dT hc).or (call_listD hc))
theorem snd_listA : SndC T (rListA T.K) fListA := by
  intro φ st H vs us z Q R r hf hq
  have hold : fList st vs = some z → rListA T.K us H Q := fun h => .inl (snd_list φ st H vs us z Q R r h hq)
  unfold fListA at hf
  split at hf
  · rename_i n
    split at hf
    · rename_i kvs hn
      cases hf
      obtain ⟨a, h1, us', h2, h3⟩ := R.at hn (by simp)
      cases r with
      | cons a1 b1 =>
        cases b1
        cases a1 with
        | loc q1 q2 =>
          rw [q2 a h1]
          refine .inr (.inl ⟨a, us', rfl, .inl h2, fun p bs hp hk => ?_⟩)
          exact hq _ _ (Ext.fresh R hp) (R.fresh hp) (.lst (.inl ⟨R.nolive hp, .inl upd_same⟩) ((relVs_isKeys h3 hk).ext (Ext.fresh R hp)))
    · rename_i kvs hn
      cases hf
      obtain ⟨a, h1, us', h2, h3⟩ := R.at hn (by simp)
      cases r with
      | cons a1 b1 =>
        cases b1
        cases a1 with
        | loc q1 q2 =>
          rw [q2 a h1]
          refine .inr (.inr ⟨a, us', rfl, .inl h2, fun p hp => ?_⟩)
          exact hq _ _ (Ext.fresh R hp) (R.fresh hp) (.lst (.inl ⟨R.nolive hp, .inl upd_same⟩) ((relVs_keysK h3).ext (Ext.fresh R hp)))
    · exact hold hf
  · exact hold hf

def pairsOf : List Val → Option (List (Int × Int))
  | [] => some []
  | .tup [.int i, .int j] :: xs => (pairsOf xs).map ((i, j) :: ·)
  | _ => none
def pV (p : Int × Int) : Val := .tup [.int p.1, .int p.2]
def leP (p q : Int × Int) : Bool := decide (p.1 < q.1) || (decide (p.1 = q.1) && decide (p.2 ≤ q.2))
def sortI (ns : List Int) : List Int := Gr.isort (fun a b => decide (a ≤ b)) ns
def sortP (ns : List (Int × Int)) : List (Int × Int) := Gr.isort leP ns
def kOf (H : Hp) : V → Int × Int
  | .ref t => match H t with
    | some (.tup [.int i, .int j]) => (i, j)
    | _ => (0, 0)
  | _ => (0, 0)
theorem kOf_ref {H : Hp} {t : Addr} {i j : Int} (h : H t = some (.tup [.int i, .int j])) : kOf H (.ref t) = (i, j) := by
  show (match H t with | some (.tup [.int i, .int j]) => (i, j) | _ => (0, 0)) = _
  rw [h]
theorem rel_pairs {φ : Phi} {H : Hp} : ∀ {xs : List Val} {us : List V} {ps : List (Int × Int)}, RelVs T φ H xs us → pairsOf xs = some ps → us.map (kOf H) = ps ∧ ∀ u, u ∈ us → ∃ t, u = .ref t ∧ H t = some (.tup [.int (kOf H u).1, .int (kOf H u).2])
  | _, _, _, .nil, h => by cases h; exact ⟨rfl, fun u hu => absurd hu List.not_mem_nil⟩
  | _, _, ps, .cons a b, h => by
    unfold pairsOf at h
    split at h
    · cases ‹_ :: _ = []›
    · rename_i e
      cases e
      rw [Option.map_eq_some_iff] at h
      obtain ⟨qs, h1, rfl⟩ := h
      obtain ⟨ih1, ih2⟩ := rel_pairs b h1
      cases a with
      | tup a1 a2 =>
        cases a2 with
        | cons c1 c2 =>
          cases c1
          cases c2 with
          | cons d1 d2 =>
            cases d1
            cases d2
            have ek := kOf_ref a1
            refine ⟨by rw [List.map_cons, ih1, ek], fun u hu => ?_⟩
            rcases List.mem_cons.mp hu with rfl | hu
            · exact ⟨_, rfl, by rw [ek]; exact a1⟩
            · exact ih2 u hu
    · cases h
theorem rel_ofPairs {φ : Phi} {H : Hp} : ∀ {us : List V}, (∀ u, u ∈ us → ∃ t, u = .ref t ∧ H t = some (.tup [.int (kOf H u).1, .int (kOf H u).2])) → RelVs T φ H ((us.map (kOf H)).map pV) us
  | [], _ => .nil
  | u :: us, h => by
    obtain ⟨t, e1, e2⟩ := h u List.mem_cons_self
    refine .cons ?_ (rel_ofPairs fun v hv => h v (List.mem_cons_of_mem _ hv))
    rw [e1] at e2 ⊢
    exact .tup e2 (.cons (.int _) (.cons (.int _) .nil))
theorem rel_ofInts {φ : Phi} {H : Hp} : ∀ ns : List Int, RelVs T φ H (ns.map Val.int) (ns.map V.int)
  | [] => .nil
  | n :: ns => .cons (.int n) (rel_ofInts ns)
theorem sortI_is {ns ms : List Int} (p : ms.Perm ns) (s : ms.Pairwise (· ≤ ·)) : ms = sortI ns := by
  refine List.Perm.eq_of_pairwise (le := fun a b => a ≤ b) (fun a b _ _ h1 h2 => Int.le_antisymm h1 h2) s ?_ (p.trans (Gr.isort_perm ns).symm)
  have := Gr.isort_pw (le := fun a b : Int => decide (a ≤ b)) (fun a b c h1 h2 => by simp only [decide_eq_true_eq] at *; omega) (fun a b => by simp only [Bool.or_eq_true, decide_eq_true_eq]; omega) ns
  exact this.imp fun h => by simpa using h
theorem leP_iff {p q : Int × Int} : leP p q = true ↔ p.1 < q.1 ∨ (p.1 = q.1 ∧ p.2 ≤ q.2) := by
  unfold leP
  simp only [Bool.or_eq_true, Bool.and_eq_true, decide_eq_true_eq]
theorem sortP_pw (ns : List (Int × Int)) : (sortP ns).Pairwise fun a b => leP a b = true :=
  Gr.isort_pw (le := leP) (fun a b c h1 h2 => by rw [leP_iff] at *; omega) (fun a b => by rw [Bool.or_eq_true, leP_iff, leP_iff]; omega) ns
theorem sortP_is {ns ms : List (Int × Int)} (p : ms.Perm ns) (s : ms.Pairwise fun a b => leP a b = true) : ms = sortP ns := by
  refine List.Perm.eq_of_pairwise (le := fun a b => leP a b = true) (fun a b _ _ h1 h2 => ?_) s (sortP_pw ns) (p.trans (Gr.isort_perm ns).symm)
  rw [leP_iff] at h1 h2
  exact Prod.ext (by omega) (by omega)
def fSorted (st : Sto) (vs : List Val) : Option Val := match vs with
  | [v] => match lstOf st v with
    | some xs => match intsOf xs with
      | some ns => some (.lst ((sortI ns).map .int))
      | none => (pairsOf xs).map fun ps => .lst ((sortP ps).map pV)
    | none => none
  | _ => none
def rSortA (K : PySem.W.Frag) : List V → Hp → VK → Prop := fun xs H Q => rSortedI K xs H Q ∨ rSortedPO K xs H Q
theorem call_sortA : CallR X (.builtin "sorted") (rSortA X.K) := cr_sortedI.or cr_sortedPO
theorem snd_sorted : SndC T (rSortA T.K) fSorted := by
  intro φ st H vs us z Q R r hf hq
  unfold fSorted at hf
  split at hf
  · split at hf
    · rename_i xs hx
      cases r with
      | cons a1 b1 =>
        cases b1
        obtain ⟨a, us', rfl, hs, hr⟩ := rel_lst R a1 hx
        split at hf
        · rename_i ns hi
          cases hf
          have e := rel_ints hr hi
          subst e
          refine .inl ⟨a, ns, rfl, hs, fun ns' p hp hw hn => ?_⟩
          rw [sortI_is hp hw]
          exact hq _ _ (Ext.fresh R hn) (R.fresh hn) (.lst (.inl ⟨R.nolive hn, .inl upd_same⟩) (rel_ofInts _))
        · rw [Option.map_eq_some_iff] at hf
          obtain ⟨ps, hp, rfl⟩ := hf
          obtain ⟨e1, e2⟩ := rel_pairs hr hp
          refine .inr ⟨a, us', kOf H, rfl, hs, e2, fun ys p h1 h2 hn => ?_⟩
          have e3 : ∀ u, u ∈ ys → ∃ t, u = .ref t ∧ H t = some (.tup [.int (kOf H u).1, .int (kOf H u).2]) := fun u hu => e2 u (h2.perm.mem_iff.mp hu)
          have e4 : ys.map (kOf H) = sortP ps := by
            refine sortP_is (by rw [← e1]; exact h2.perm.map _) ?_
            rw [List.pairwise_map]
            refine h1.imp fun {x y} h => ?_
            have := SrtO.lexB_no.mp h
            rw [leP_iff]
            omega
          have e5 := rel_ofPairs (T := T) (φ := φ) e3
          rw [e4] at e5
          exact hq _ _ (Ext.fresh R hn) (R.fresh hn) (.lst (.inl ⟨R.nolive hn, .inl upd_same⟩) (e5.ext (Ext.fresh R hn)))
    · cases hf
  · cases hf
end
end Ev

set_option Elab.async false
set_option linter.all false
set_option maxRecDepth 100000
set_option maxHeartbeats 2000000
namespace Ev
open PySem PySem.Spec PyProof.Rows L2
section
variable {X : Cx} {T : Tab} {W : WX}
def rRepr (K : PySem.W.Frag) : List V → Hp → VK → Prop := fun xs H Q => ∃ x d, xs = [x] ∧ Dp K H x d ∧ PyData.showable d = true ∧ PyData.hasDict d = false ∧ d.depth ≤ 60 ∧ d.shown.length ≤ sizeLine ∧ Q (.str d.shown) H
theorem call_reprA (hgd : X.A.guards = some []) (hu : X.A.units + 65 < cLine) : CallR X (.builtin "repr") (rRepr X.K) := by
  intro pins s σ H xs us Q I r h
  obtain ⟨x, d, rfl, hd, h1, h2, h3, h4, q⟩ := h
  obtain ⟨u, rfl, rx⟩ := vals1 r
  obtain ⟨as, rd⟩ := Dp.reads I d x u hd rx
  cases hd with
  | non =>
    cases rx
    exact PySem.P.repr_of_none ⟨.str _, H, I.tok _, ⟨_, rfl⟩, by rw [PyData.shown_none] at q; exact q⟩
  | bl b =>
    cases rx
    exact PySem.P.repr_of_bool ⟨.str _, H, I.tok _, ⟨_, rfl⟩, by rw [PyData.shown_bool] at q; exact q⟩
  | int i =>
    obtain ⟨t, rfl⟩ := rx
    exact PySem.P.repr_of_int (by rw [PyData.showable] at h1; exact of_decide_eq_true h1) ⟨.str _, H, I.tok _, ⟨_, rfl⟩, by rw [PyData.shown_int] at q; exact q⟩
  | str z =>
    obtain ⟨t, rfl⟩ := rx
    exact PySem.P.repr_of_str (by exact ⟨.str _, H, I.tok _, ⟨_, rfl⟩, by rw [PyData.shown_str] at q; exact q⟩) (by rw [PyData.shown_str] at h4; exact h4)
  | lst e1 e2 =>
    obtain rfl : u = Value.ref _ := rx
    exact repr_of_reads' rd h1 (fun z => by rw [h2] at z; cases z) hgd (by omega) (fun b o e => e) (fun h' u tk k => ⟨.str _, H, I.kept k, ⟨_, rfl⟩, q⟩) h4
  | tup e1 e2 =>
    obtain rfl : u = Value.ref _ := rx
    exact repr_of_reads' rd h1 (fun z => by rw [h2] at z; cases z) hgd (by omega) (fun b o e => e) (fun h' u tk k => ⟨.str _, H, I.kept k, ⟨_, rfl⟩, q⟩) h4
def reprOk (d : PyData) : Bool := PyData.showable d && !PyData.hasDict d && decide (d.depth ≤ 60) && decide (d.shown.length ≤ sizeLine)
def fRepr (st : Sto) (vs : List Val) : Option Val := match vs with
  | [v] => match toD (dr st v) with
    | some d => if reprOk d = true then some (.str d.shown) else none
    | none => none
  | _ => none
theorem snd_repr : SndC T (rRepr T.K) fRepr := by
  intro φ st H vs us z Q R r hf hq
  unfold fRepr at hf
  split at hf
  · split at hf
    · rename_i d hd
      split at hf
      · rename_i hk
        cases hf
        cases r with
        | cons a1 b1 =>
          cases b1
          unfold reprOk at hk
          rw [Bool.and_eq_true, Bool.and_eq_true, Bool.and_eq_true, Bool.not_eq_true', decide_eq_true_eq, decide_eq_true_eq] at hk
          exact ⟨_, d, rfl, rel_dr R a1 hd, hk.1.1.1, hk.1.1.2, hk.1.2, hk.2, hq H _ Ext.refl R (.str _)⟩
      · cases hf
    · cases hf
  · cases hf
def rStr : List V → Hp → VK → Prop := fun xs H Q => (∃ i : Int, xs = [V.int i] ∧ i.natAbs.log2 < 1920 ∧ Q (.str (toString i)) H) ∨ ∃ a, xs = [.str a] ∧ Q (.str a) H
theorem call_strA : CallR X (.type "str") rStr := call_str_int.or SkE.call_str_str
def iStr (i : Int) : Str := toString i
def fStr (_ : Sto) (vs : List Val) : Option Val := match vs with
  | [.int i] => if i.natAbs.log2 < 1920 then some (.str (iStr i)) else none
  | [.str a] => some (.str a)
  | _ => none
theorem snd_str : SndC T rStr fStr := by
  intro φ st H vs us z Q R r hf hq
  unfold fStr at hf
  split at hf
  · split at hf
    · rename_i h
      cases hf
      cases r with
      | cons a1 b1 =>
        cases a1; cases b1
        exact .inl ⟨_, rfl, h, hq H _ Ext.refl R (.str _)⟩
    · cases hf
  · cases hf
    cases r with
    | cons a1 b1 =>
      cases a1; cases b1
      exact .inr ⟨_, rfl, hq H _ Ext.refl R (.str _)⟩
  · cases hf
def fEqA (st : Sto) (v w : Val) : Option Val := match v, w with
  | .str a, .str b => some (.bl (decide (a = b)))
  | .int a, .int b => some (.bl (decide (a = b)))
  | v, w => fEq st v w
def fNeA (st : Sto) (v w : Val) : Option Val := match v, w with
  | .str a, .str b => some (.bl (!decide (a = b)))
  | .int a, .int b => some (.bl (!decide (a = b)))
  | v, w => fNe st v w
def rEqA (K : PySem.W.Frag) : R2 := fun x y H Q => rEq x y H Q ∨ rEqD K x y H Q
def rNeA (K : PySem.W.Frag) : R2 := fun x y H Q => rNe x y H Q ∨ rNeD K x y H Q
theorem op_eqA (hu : X.A.units + 64 < cLine) : OpR X (compareOp .Eq) (rEqA X.K) := op_eq.or (op_eqD hu)
theorem op_neA (hu : X.A.units + 64 < cLine) : OpR X (compareOp .NotEq) (rNeA X.K) := op_ne.or (op_neD hu)
theorem dec_str (a b : Str) : decide (V.str a = V.str b) = decide (a = b) := by
  rw [Bool.eq_iff_iff]
  simp
theorem dec_int' (a b : Int) : decide (V.int a = V.int b) = decide (a = b) := by
  rw [Bool.eq_iff_iff]
  simp
theorem snd_eqA : SndB T (rEqA T.K) fEqA := by
  intro φ st H v w z x y Q R r1 r2 hf hq
  unfold fEqA at hf
  split at hf
  · cases hf; cases r1; cases r2
    exact .inl ⟨rfl, by rw [dec_str]; exact hq H _ Ext.refl R (.bl _)⟩
  · cases hf; cases r1; cases r2
    exact .inl ⟨rfl, by rw [dec_int']; exact hq H _ Ext.refl R (.bl _)⟩
  · exact .inr (snd_eq φ st H v w z x y Q R r1 r2 hf hq)
theorem snd_neA : SndB T (rNeA T.K) fNeA := by
  intro φ st H v w z x y Q R r1 r2 hf hq
  unfold fNeA at hf
  split at hf
  · cases hf; cases r1; cases r2
    exact .inl ⟨rfl, by rw [dec_str]; exact hq H _ Ext.refl R (.bl _)⟩
  · cases hf; cases r1; cases r2
    exact .inl ⟨rfl, by rw [dec_int']; exact hq H _ Ext.refl R (.bl _)⟩
  · exact .inr (snd_ne φ st H v w z x y Q R r1 r2 hf hq)
def rIntA : List V → Hp → VK → Prop := fun xs H Q => ((∃ i, xs = [.int i] ∧ Q (.int i) H) ∨ ∃ k, xs = [.bl k] ∧ Q (.int (if k then 1 else 0)) H) ∨ (∃ a n, xs = [.str a] ∧ PySem.intText? a = some n ∧ a.length ≤ 640 ∧ Q (.int n) H)
theorem call_intA : CallR X (.type "int") rIntA := call_int1.or L2.call_int_str
def fIntA (st : Sto) (vs : List Val) : Option Val := match vs with
  | [.str a] => if a.length ≤ 640 then (PySem.intText? a).map .int else none
  | _ => fInt st vs
theorem snd_intA : SndC T rIntA fIntA := by
  intro φ st H vs us z Q R r hf hq
  unfold fIntA at hf
  split at hf
  · split at hf
    · rename_i hl
      rw [Option.map_eq_some_iff] at hf
      obtain ⟨n, h1, rfl⟩ := hf
      cases r with
      | cons a1 b1 =>
        cases a1; cases b1
        exact .inr ⟨_, n, rfl, h1, hl, hq H _ Ext.refl R (.int _)⟩
    · cases hf
  · exact .inl (snd_int φ st H vs us z Q R r hf hq)
def SndB1 (T : Tab) (r : V → List V → Hp → VK → Prop) (f : Sto → Val → Val → Option Val) : Prop :=
  ∀ φ st H v w z x y Q, Rst T φ st H → RelV T φ H v x → RelV T φ H w y → f st v w = some z → (∀ H' u, Ext φ H φ H' → Rst T φ st H' → RelV T φ H' z u → Q u H') → r x [y] H Q
def strsOf : List Val → Option (List Str)
  | [] => some []
  | .str s :: xs => (strsOf xs).map (s :: ·)
  | _ => none
theorem rel_strs {φ : Phi} {H : Hp} : ∀ {xs : List Val} {us : List V} {ns : List Str}, RelVs T φ H xs us → strsOf xs = some ns → us = ns.map V.str
  | _, _, _, .nil, h => by cases h; rfl
  | _, _, _, .cons a b, h => by
    unfold strsOf at h
    split at h
    · cases ‹_ :: _ = []›
    · rename_i e
      cases e
      rw [Option.map_eq_some_iff] at h
      obtain ⟨qs, h1, rfl⟩ := h
      cases a
      rw [rel_strs b h1]
      rfl
    · cases h
theorem rel_ofStrs {φ : Phi} {H : Hp} : ∀ ns : List Str, RelVs T φ H (ns.map Val.str) (ns.map V.str)
  | [] => .nil
  | n :: ns => .cons (.str n) (rel_ofStrs ns)
def fJoin (st : Sto) (v w : Val) : Option Val := match v with
  | .str a => match (seqOf st w).bind strsOf with
    | some ys => if (ys.map (·.length)).sum + ys.length * a.length ≤ 16777216 then some (.str (Txt.join a ys)) else none
    | none => none
  | _ => none
def rJoinA (K : PySem.W.Frag) : V → List V → Hp → VK → Prop := fun x xs H Q => ∃ a p, ∃ ys : List Str, x = .str a ∧ xs = [.ref p] ∧ (SqL K H p (ys.map V.str) ∨ SqT K H p (ys.map V.str)) ∧
    (ys.map (·.length)).sum + ys.length * a.length ≤ 16777216 ∧ Q (.str (Txt.join a ys)) H
theorem snd_join : SndB1 T (rJoinA T.K) fJoin := by
  intro φ st H v w z x y Q R r1 r2 hf hq
  unfold fJoin at hf
  split at hf
  · split at hf
    · rename_i ys hy
      split at hf
      · rename_i hz
        cases hf
        cases r1
        rw [Option.bind_eq_some_iff] at hy
        obtain ⟨xs, h1, h2⟩ := hy
        obtain ⟨a, us, rfl, hs, hr⟩ := rel_seq R r2 h1
        have e := rel_strs hr h2
        subst e
        exact ⟨_, a, ys, rfl, rfl, hs, hz, hq H _ Ext.refl R (.str _)⟩
      · cases hf
    · cases hf
  · cases hf
def fSplit (_ : Sto) (v w : Val) : Option Val := match v, w with
  | .str a, .str b => if b.length ≠ 0 ∧ a.length + 2 ≤ sizeLine then some (.lst ((Txt.split a b).map .str)) else none
  | _, _ => none
def rSplitA : V → List V → Hp → VK → Prop := fun x xs H Q => ∃ a b, x = .str a ∧ xs = [.str b] ∧ (b.length == 0) = false ∧ a.length + 2 ≤ sizeLine ∧ rNewStrs (Txt.split a b) H Q
theorem snd_split : SndB1 T rSplitA fSplit := by
  intro φ st H v w z x y Q R r1 r2 hf hq
  unfold fSplit at hf
  split at hf
  · split at hf
    · rename_i hz
      cases hf
      cases r1
      cases r2
      refine ⟨_, _, rfl, rfl, by simpa using hz.1, hz.2, fun p hp => ?_⟩
      exact hq _ _ (Ext.fresh R hp) (R.fresh hp) (.lst (.inl ⟨R.nolive hp, .inl upd_same⟩) (rel_ofStrs _))
    · cases hf
  · cases hf
def eM1 (f : Sto → Val → Val → Option Val) (a b : E) : E := fun ρ st => bindR (a ρ st) fun v st1 => match v with
  | .str z => bindR (b ρ st1) fun w st2 => optR (f st2 (.str z) w) st2
  | _ => .bad
theorem m1_sound {r : V → List V → Hp → VK → Prop} {f : Sto → Val → Val → Option Val} (hs : SndB1 T r f) {a b : E} {σ : L2.St} {H : Hp} {Q : VK} (h : tE T W (eM1 f a b) σ H Q) : tM1 r (tE T W a) (tE T W b) σ H Q := by
  refine tG_bind h fun v ρ st1 φ1 H1 u re1 q1 p1 => ?_
  split at p1
  · rename_i zz
    refine ⟨by cases q1; exact ⟨_, rfl⟩, φ1, ρ, st1, re1, post_bind p1 fun w st2 φ2 H2 y _ e2 s2 q2 p2 => ?_⟩
    cases hf : f st2 (.str zz) w with
    | none => rw [hf] at p2; exact p2.elim
    | some z =>
      rw [hf] at p2
      exact hs φ2 st2 H2 (.str zz) w z u y Q s2 (q1.ext e2) q2 hf fun H' u' e3 s3 q3 => p2 φ2 H' u' e3 s3 q3
  · exact p1.elim
theorem e_m1 {name : Str} {id : String} {r : V → List V → Hp → VK → Prop} {f : Sto → Val → Val → Option Val} {o e : Expr} {eo ee : E} {apos pos : Pos} (slot : Slot "str" name id) (hty : typeOf (.builtin id) = pure (.type "method_descriptor")) (hm : MtR X id r) (hs : SndB1 T r f)
    (ho : PE X o (tE T W eo)) (he : PE X e (tE T W ee)) (hse : starEach [e] X.env = [(false, eval e X.env)] := by rfl)
    (hbase : attributeBase o name X.env (eval o X.env) = eval o X.env := by rfl) (hline : (apos.endLine == pos.line) = true := by rfl) : PE X (.Call (.Attribute o name apos) [e] [] pos) (tE T W (eM1 f eo ee)) :=
  pe_imp (pe_m1 slot hty hm ho he hse hbase hline) fun _ _ _ h => m1_sound hs h
theorem e_join {o e : Expr} {eo ee : E} {apos pos : Pos} (hK : T.K = X.K) (ho : PE X o (tE T W eo)) (he : PE X e (tE T W ee)) (hse : starEach [e] X.env = [(false, eval e X.env)] := by rfl)
    (hbase : attributeBase o "join" X.env (eval o X.env) = eval o X.env := by rfl) (hline : (apos.endLine == pos.line) = true := by rfl) : PE X (.Call (.Attribute o "join" apos) [e] [] pos) (tE T W (eM1 fJoin eo ee)) :=
  e_m1 F.slot_str_join F.type_str_join (mt_join (X := X)) (hK ▸ snd_join (T := T)) ho he hse hbase hline
theorem e_split {o e : Expr} {eo ee : E} {apos pos : Pos} (ho : PE X o (tE T W eo)) (he : PE X e (tE T W ee)) (hse : starEach [e] X.env = [(false, eval e X.env)] := by rfl)
    (hbase : attributeBase o "split" X.env (eval o X.env) = eval o X.env := by rfl) (hline : (apos.endLine == pos.line) = true := by rfl) : PE X (.Call (.Attribute o "split" apos) [e] [] pos) (tE T W (eM1 fSplit eo ee)) :=
  e_m1 F.slot_str_split F.type_str_split (mt_split (X := X)) snd_split ho he hse hbase hline
end
end Ev

set_option Elab.async false
set_option linter.all false
set_option maxRecDepth 100000
set_option maxHeartbeats 2000000
namespace Ev
open PySem PySem.Spec PyProof.Rows L2
def Ok {α : Type} (r : Res α) (P : α → Sto → Prop) : Prop := ∃ a st, r = .ok a st ∧ P a st
theorem Ok.mk {α : Type} {a : α} {st : Sto} {P : α → Sto → Prop} (h : P a st) : Ok (.ok a st) P := ⟨a, st, rfl, h⟩
theorem Ok.bind {α β : Type} {r : Res α} {f : α → Sto → Res β} {P : α → Sto → Prop} {Q : β → Sto → Prop} (h : Ok r P) (k : ∀ a st, P a st → Ok (f a st) Q) : Ok (bindR r f) Q := by
  obtain ⟨a, st, rfl, p⟩ := h
  exact k a st p
theorem Ok.imp {α : Type} {r : Res α} {P Q : α → Sto → Prop} (h : Ok r P) (k : ∀ a st, P a st → Q a st) : Ok r Q := by
  obtain ⟨a, st, e, p⟩ := h
  exact ⟨a, st, e, k a st p⟩
/-- a statement goes on, or returns -/
def So (r : SR) (N : Env → Sto → Prop) (R : Val → Sto → Prop) : Prop := match r with
  | .nx ρ st => N ρ st
  | .rt v st => R v st
  | _ => False
theorem So.imp {r : SR} {N N' : Env → Sto → Prop} {R R' : Val → Sto → Prop} (h : So r N R) (k : ∀ ρ st, N ρ st → N' ρ st) (k' : ∀ v st, R v st → R' v st) : So r N' R' := by
  cases r with
  | nx ρ st => exact k _ _ h
  | rt v st => exact k' _ _ h
  | _ => exact h
theorem So.seq {a b : S} {ρ : Env} {st : Sto} {M N : Env → Sto → Prop} {R : Val → Sto → Prop} (h : So (a ρ st) M R) (k : ∀ ρ' st', M ρ' st' → So (b ρ' st') N R) : So (sSeq a b ρ st) N R := by
  unfold sSeq
  cases e : a ρ st with
  | nx ρ' st' => rw [e] at h; exact k _ _ h
  | rt v st' => rw [e] at h; exact h
  | _ => rw [e] at h; exact h.elim
theorem So.bind {α : Type} {r : Res α} {ρ : Env} {f : α → Sto → SR} {P : α → Sto → Prop} {N : Env → Sto → Prop} {R : Val → Sto → Prop} (h : Ok r P) (k : ∀ a st, P a st → So (f a st) N R) : So (bindS r ρ f) N R := by
  obtain ⟨a, st, rfl, p⟩ := h
  exact k a st p
/-- a loop with what holds before each turn -/
theorem So.loop {g : G} {b : S} {N : Env → Sto → Prop} {R : Val → Sto → Prop} (I : List Val → Env → Sto → Prop) : ∀ {vs : List Val} {ρ : Env} {st : Sto}, I vs ρ st → (∀ ρ st, I [] ρ st → N ρ st) →
    (∀ v vs ρ st, I (v :: vs) ρ st → ∃ ρ1 st1, g v ρ st = some (ρ1, st1) ∧ So (b ρ1 st1) (I vs) R) → So (forL g b vs ρ st) N R
  | [], ρ, st, h, h0, _ => h0 ρ st h
  | v :: vs, ρ, st, h, h0, hs => by
    obtain ⟨ρ1, st1, e, p⟩ := hs v vs ρ st h
    unfold forL
    rw [e]
    dsimp only
    cases e2 : b ρ1 st1 with
    | nx ρ2 st2 => rw [e2] at p; exact So.loop I p h0 hs
    | rt v st2 => rw [e2] at p; exact p
    | _ => rw [e2] at p; exact p.elim
theorem okOld_refl (st : Sto) : okOld st st = true := by
  unfold okOld
  rw [List.all_eq_true]
  intro i hi
  rw [List.getElem?_eq_getElem (List.mem_range.mp hi)]
  dsimp only
  rw [Ob.same_refl, Bool.true_or]
theorem okOld_set {st : Sto} {d : Nat} {o : Ob} (h : belOb st.length o = true) : okOld st (st.set d o) = true := by
  unfold okOld
  rw [List.all_eq_true]
  intro i hi
  have hi := List.mem_range.mp hi
  rw [List.getElem?_eq_getElem hi]
  by_cases e : d = i
  · subst e
    rw [List.getElem?_set_self hi]
    dsimp only
    rw [h, Bool.or_true]
  · rw [List.getElem?_set_ne e, List.getElem?_eq_getElem hi]
    dsimp only
    rw [Ob.same_refl, Bool.true_or]
theorem okOld_app {st st' : Sto} (h : okOld st st' = true) (more : Sto) : okOld st (st' ++ more) = true := by
  unfold okOld at h ⊢
  rw [List.all_eq_true] at h ⊢
  intro i hi
  have q := h i hi
  cases e : st'[i]? with
  | none => rw [e] at q; rw [List.getElem?_eq_getElem (List.mem_range.mp hi)] at q; cases q
  | some o =>
    rw [e] at q
    rw [List.getElem?_append_left (List.getElem?_eq_some_iff.mp e).1, e]
    exact q
theorem fin_bel {st st' : Sto} {v : Val} (h : okOld st st' = true) (hv : belV st.length v = true) : fin st v st' = .ok v (st'.take st.length) := by
  unfold fin frzV frz1
  rw [if_pos h, if_pos hv]
theorem fin_set {st : Sto} {d : Nat} {o : Ob} {v : Val} (h : belOb st.length o = true) (hv : belV st.length v = true) : fin st v (st.set d o) = .ok v (st.set d o) := by
  rw [fin_bel (okOld_set h) hv, List.take_of_length_le (by rw [List.length_set]; exact Nat.le_refl _)]
theorem fin_same {st : Sto} {v : Val} (hv : belV st.length v = true) : fin st v st = .ok v st := by
  rw [fin_bel (okOld_refl st) hv, List.take_length]
def drawOb (cs : List Int) (a l u : Int) : Ob := .dK [(.inr "cells", .lst (cs.map .int)), (.inr "at", .int a), (.inr "left", .int l), (.inr "used", .int u)]
section
variable {st : Sto} {d : Nat} {cs : List Int} {a l u : Int}
theorem bel_intsL {n : Nat} : ∀ cs : List Int, belVs n (cs.map Val.int) = true
  | [] => rfl
  | c :: cs => by rw [List.map_cons]; simp only [belVs, belV, bel_intsL cs, Bool.and_self]
theorem bel_draw {n : Nat} : belOb n (drawOb cs a l u) = true := by
  simp [drawOb, belOb, belV, bel_intsL]
theorem seqOf_draw (h : st[d]? = some (drawOb cs a l u)) : seqOf st (.loc d) = none := by
  unfold seqOf dr
  dsimp only
  rw [h]
  rfl
theorem dGet_draw (h : st[d]? = some (drawOb cs a l u)) {k : Str} : dGet st (.loc d) (.str k) = some (look [(.inr "cells", Val.lst (cs.map .int)), (.inr "at", .int a), (.inr "left", .int l), (.inr "used", .int u)] (.inr k : Key)) := by
  unfold dGet
  dsimp only
  rw [h]
  rfl
theorem ix_draw (h : st[d]? = some (drawOb cs a l u)) {k : Str} {v : Val} (hk : look [(.inr "cells", Val.lst (cs.map .int)), (.inr "at", .int a), (.inr "left", .int l), (.inr "used", .int u)] (.inr k : Key) = some v) : fIx st (.loc d) (.str k) = some v := by
  unfold fIx
  rw [seqOf_draw h]
  dsimp only
  rw [dGet_draw h, hk]
  rfl
theorem ix_cells (h : st[d]? = some (drawOb cs a l u)) : fIx st (.loc d) (.str "cells") = some (.lst (cs.map .int)) := ix_draw h rfl
theorem ix_at (h : st[d]? = some (drawOb cs a l u)) : fIx st (.loc d) (.str "at") = some (.int a) := ix_draw h rfl
theorem ix_left (h : st[d]? = some (drawOb cs a l u)) : fIx st (.loc d) (.str "left") = some (.int l) := ix_draw h rfl
theorem ix_used (h : st[d]? = some (drawOb cs a l u)) : fIx st (.loc d) (.str "used") = some (.int u) := ix_draw h rfl
theorem set_at (h : st[d]? = some (drawOb cs a l u)) (x : Int) : fSet st (.loc d) (.str "at") (.int x) = some (st.set d (drawOb cs x l u)) := by
  unfold fSet
  dsimp only
  rw [h]
  rfl
theorem set_left (h : st[d]? = some (drawOb cs a l u)) (x : Int) : fSet st (.loc d) (.str "left") (.int x) = some (st.set d (drawOb cs a x u)) := by
  unfold fSet
  dsimp only
  rw [h]
  rfl
theorem set_used (h : st[d]? = some (drawOb cs a l u)) (x : Int) : fSet st (.loc d) (.str "used") (.int x) = some (st.set d (drawOb cs a l x)) := by
  unfold fSet
  dsimp only
  rw [h]
  rfl
end
def nextS : S := (sSeq (sIf (eTest (eB fGt (eB fIx (eV 0) (eC (.str "left"))) (eC (.int 0)))) (sSeq (sAsg (gT 2 (gCons' (gN 2) (gCons' (gIx (eV 0) (eC (.str "left"))) gNil'))) (eTup (eCons (eB fIx (eV 0) (eC (.str "left"))) (eCons (eB fFdiv (eB fIx (eV 0) (eC (.str "left"))) (eV 1)) eNil))))
  (sRet (eB fMod (eV 2) (eV 1)))) sSkip)
  (sSeq (sSet 3 (eB fIx (eV 0) (eC (.str "cells"))))
  (sSeq (sSet 2 (eB fIx (eV 3) (eB fMod (eB fIx (eV 0) (eC (.str "at"))) (eBf fLen (eCons (eV 3) eNil)))))
  (sSeq (sAsg (gIx (eV 0) (eC (.str "at"))) (eB fAdd (eB fIx (eV 0) (eC (.str "at"))) (eC (.int 1))))
  (sSeq (sIf (eAndT (eTest (eB fGe (eV 2) (eB fPow (eC (.int 10)) (eC (.int 18))))) (eTest (eB fLe (eB fIx (eV 0) (eC (.str "at"))) (eBf fLen (eCons (eV 3) eNil))))) (sSeq (sAsg (gIx (eV 0) (eC (.str "left"))) (eB fFdiv (eV 2) (eV 1)))
  (sRet (eB fMod (eV 2) (eV 1)))) sSkip)
  (sSeq (sAsg (gIx (eV 0) (eC (.str "used"))) (eB fAdd (eB fIx (eV 0) (eC (.str "used"))) (eC (.int 1))))
  (sSeq (sSet 4 (eB fAdd (eB fMod (eV 2) (eC (.int 1000000007))) (eB fMul (eB fMul (eC (.int 7919)) (eB fIx (eV 0) (eC (.str "used")))) (eB fIx (eV 0) (eC (.str "used"))))))
  (sSeq (sFor (itV (eTup (eCons (eB fIx (eV 0) (eC (.str "at"))) (eCons (eB fIx (eV 0) (eC (.str "used"))) eNil)))) (gN 5) (sSeq (sSet 4 (eB fMod (eB fMul (eB fAdd (eB fAdd (eV 4) (eB fMul (eC (.int 31)) (eV 5))) (eC (.int 7))) (eC (.int 48271))) (eC (.int 2147483647))))
  (sSet 4 (eB fMod (eB fMul (eV 4) (eB fAdd (eC (.int 69621)) (eB fMul (eC (.int 2)) (eB fMod (eV 5) (eC (.int 1000)))))) (eC (.int 2147483629))))))
  (sRet (eB fMod (eB fFdiv (eV 4) (eC (.int 7))) (eV 1)))))))))))



section
variable {st : Sto} {d : Nat} {cs : List Int} {a l u : Int}
theorem sx_cells (h : d < st.length) : fIx (st.set d (drawOb cs a l u)) (.loc d) (.str "cells") = some (.lst (cs.map .int)) := ix_cells (List.getElem?_set_self h)
theorem sx_at (h : d < st.length) : fIx (st.set d (drawOb cs a l u)) (.loc d) (.str "at") = some (.int a) := ix_at (List.getElem?_set_self h)
theorem sx_left (h : d < st.length) : fIx (st.set d (drawOb cs a l u)) (.loc d) (.str "left") = some (.int l) := ix_left (List.getElem?_set_self h)
theorem sx_used (h : d < st.length) : fIx (st.set d (drawOb cs a l u)) (.loc d) (.str "used") = some (.int u) := ix_used (List.getElem?_set_self h)
theorem ss_at (h : d < st.length) (x : Int) : fSet (st.set d (drawOb cs a l u)) (.loc d) (.str "at") (.int x) = some (st.set d (drawOb cs x l u)) := by rw [set_at (List.getElem?_set_self h), List.set_set]
theorem ss_left (h : d < st.length) (x : Int) : fSet (st.set d (drawOb cs a l u)) (.loc d) (.str "left") (.int x) = some (st.set d (drawOb cs a x u)) := by rw [set_left (List.getElem?_set_self h), List.set_set]
theorem ss_used (h : d < st.length) (x : Int) : fSet (st.set d (drawOb cs a l u)) (.loc d) (.str "used") (.int x) = some (st.set d (drawOb cs a l x)) := by rw [set_used (List.getElem?_set_self h), List.set_set]
theorem set_draw (h : st[d]? = some (drawOb cs a l u)) : st = st.set d (drawOb cs a l u) := by
  apply List.ext_getElem?
  intro i
  by_cases e : d = i
  · subst e
    rw [h, List.getElem?_set_self (List.getElem?_eq_some_iff.mp h).1]
  · rw [List.getElem?_set_ne e]
end
theorem two_le : (2 ≤ sizeLine) = True := eq_true (by decide)
theorem one_le : (1 ≤ sizeLine) = True := eq_true (by decide)
theorem fGt_eq {st : Sto} {i j : Int} : fGt st (.int i) (.int j) = some (.bl (decide (j < i))) := rfl
theorem fGe_eq {st : Sto} {i j : Int} : fGe st (.int i) (.int j) = some (.bl (decide (j ≤ i))) := rfl
theorem fLe_eq {st : Sto} {i j : Int} : fLe st (.int i) (.int j) = some (.bl (decide (i ≤ j))) := rfl
theorem fLtT_eq {st : Sto} {i j : Int} : fLtT st (.int i) (.int j) = some (.bl (decide (i < j))) := rfl
theorem fSub_eq {st : Sto} {i j : Int} : fSub st (.int i) (.int j) = some (.int (i - j)) := rfl
theorem fAdd_int {st : Sto} {i j : Int} : fAdd st (.int i) (.int j) = some (.int (i + j)) := rfl
theorem fMul_int {st : Sto} {i j : Int} (h : cMul i j = true) : fMul st (.int i) (.int j) = some (.int (i * j)) := by
  simp [fMul, h]
theorem fPow_18 {st : Sto} : fPow st (.int 10) (.int 18) = some (.int 1000000000000000000) := by
  simp [fI, cPow]
theorem fLen_lst {st : Sto} {xs : List Val} (h : xs.length ≤ sizeLine) : fLen st [.lst xs] = some (.int xs.length) := by
  simp [fLen, seqOf, dr, h]
theorem cMul_left {i j : Int} (h1 : -(2 ^ 64) < i) (h2 : i < 2 ^ 64) : cMul i j = true := by
  simp only [cMul, h1, h2, decide_true, Bool.and_self, Bool.true_or]
theorem cMul_right {i j : Int} (h1 : -(2 ^ 64) < j) (h2 : j < 2 ^ 64) : cMul i j = true := by
  simp only [cMul, h1, h2, decide_true, Bool.and_self, Bool.or_true]
theorem atI_ok {α : Type} {xs : List α} {i : Int} (h1 : 0 ≤ i) (h2 : i < xs.length) : L2.atI xs i = xs[i.toNat]? := by
  unfold L2.atI L2.ixN
  rw [if_pos h1, if_pos h2]
  rfl
theorem ix_lst {st : Sto} {xs : List Val} {i : Int} {v : Val} (h1 : 0 ≤ i) (h2 : xs[i.toNat]? = some v) : fIx st (.lst xs) (.int i) = some v := by
  have h3 : i < xs.length := by
    have := (List.getElem?_eq_some_iff.mp h2).1
    omega
  show L2.atI xs i = _
  rw [atI_ok h1 h3, h2]
theorem ix_tup {st : Sto} {xs : List Val} {i : Int} {v : Val} (h1 : 0 ≤ i) (h2 : xs[i.toNat]? = some v) : fIx st (.tup xs) (.int i) = some v := by
  have h3 : i < xs.length := by
    have := (List.getElem?_eq_some_iff.mp h2).1
    omega
  show L2.atI xs i = _
  rw [atI_ok h1 h3, h2]
theorem fMod_eq {st : Sto} {i j : Int} (h : 0 < j) : fMod st (.int i) (.int j) = some (.int (i % j)) := by
  simp [fI, h]
theorem fFdiv_eq {st : Sto} {i j : Int} (h : cDiv i j = true) : fFdiv st (.int i) (.int j) = some (.int (i / j)) := by
  simp [fI, h]
/-- one draw: any number below `many` may come -/
theorem next_set {st : Sto} {d : Nat} {cs : List Int} {a l u many : Int} (hdl : d < st.length) (hcs : cs ≠ []) (hlen : cs.length ≤ 1000) (ha : 0 ≤ a) (hl : 0 ≤ l) (hu : 0 ≤ u) (hub : u < 2 ^ 60) (hm : 0 < many) (hmb : many.natAbs < 2 ^ 2000) :
    ∃ r a' l' u', runF 6 nextS [.loc d, .int many] (st.set d (drawOb cs a l u)) = .ok (.int r) (st.set d (drawOb cs a' l' u')) ∧ 0 ≤ r ∧ r < many ∧ 0 ≤ a' ∧ 0 ≤ l' ∧ 0 ≤ u' ∧ u' ≤ u + 1 := by
  have hdiv : ∀ i : Int, cDiv i many = true := fun i => by
    unfold cDiv
    rw [Bool.and_eq_true, decide_eq_true_eq, decide_eq_true_eq]
    exact ⟨hm, hmb⟩
  have hmod : ∀ i : Int, 0 ≤ i % many ∧ i % many < many := fun i => ⟨Int.emod_nonneg _ (by omega), Int.emod_lt_of_pos _ hm⟩
  have fin' : ∀ (r : Int) (o : Ob), belOb st.length o = true → outF (st.set d (drawOb cs a l u)) (.rt (.int r) (st.set d o)) = .ok (.int r) (st.set d o) := fun r o ho => by
    show fin (st.set d (drawOb cs a l u)) (.int r) (st.set d o) = _
    have e : st.set d o = (st.set d (drawOb cs a l u)).set d o := by rw [List.set_set]
    rw [e]
    exact fin_set (by rw [List.length_set]; exact ho) rfl
  unfold runF
  by_cases h0 : 0 < l
  · refine ⟨l % many, a, l / many, u, ?_, (hmod l).1, (hmod l).2, ha, Int.ediv_nonneg hl (by omega), hu, by omega⟩
    have e : nextS (startE 6 [.loc d, .int many]) (st.set d (drawOb cs a l u)) = .rt (.int (l % many)) (st.set d (drawOb cs a (l / many) u)) := by
      simp [nextS, startE, sSeq, sIf, eTest, eB, eV, eC, bindR, bindS, optR, sx_left hdl, sAsg, gT, gCons', gNil', gN, gIx, eTup, eCons, eNil, fFdiv_eq (hdiv _), ss_left hdl, sRet, h0, hm, two_le, fMod_eq hm, List.replicate, fGt_eq]
    rw [e]
    exact fin' _ _ bel_draw
  · have hn : 0 < cs.length := List.length_pos_iff.mpr hcs
    have hln : (cs.map Val.int).length ≤ sizeLine := by rw [List.length_map, sizeLine_eq]; omega
    obtain ⟨c, hc⟩ : ∃ c, fIx (st.set d (drawOb cs a l u)) (.lst (cs.map Val.int)) (.int (a % ((cs.map Val.int).length : Int))) = some (.int c) := by
      have h1 : 0 ≤ a % (cs.length : Int) := Int.emod_nonneg _ (by omega)
      have h2 : a % (cs.length : Int) < cs.length := Int.emod_lt_of_pos _ (by omega)
      have h3 : (a % (cs.length : Int)).toNat < cs.length := by omega
      refine ⟨cs[(a % (cs.length : Int)).toNat], ix_lst (by rw [List.length_map]; exact h1) ?_⟩
      rw [List.length_map, List.getElem?_map, List.getElem?_eq_getElem h3]
      rfl
    have hn' : 0 < ((cs.map Val.int).length : Int) := by rw [List.length_map]; omega
    by_cases h1 : 1000000000000000000 ≤ c ∧ a + 1 ≤ ((cs.map Val.int).length : Int)
    · refine ⟨c % many, a + 1, c / many, u, ?_, (hmod c).1, (hmod c).2, by omega, Int.ediv_nonneg (by omega) (by omega), hu, by omega⟩
      have e : nextS (startE 6 [.loc d, .int many]) (st.set d (drawOb cs a l u)) = .rt (.int (c % many)) (st.set d (drawOb cs (a + 1) (c / many) u)) := by
        simp [nextS, startE, sSeq, sIf, sSkip, sSet, eTest, eB, eV, eC, eBf, bindR, bindS, optR, sx_left hdl, sx_cells hdl, sx_at hdl, sAsg, gT, gCons', gNil', gN, gIx, eTup, eCons, eNil, fFdiv_eq (hdiv _), ss_left hdl, ss_at hdl, sRet, h0, hm, two_le, fMod_eq hm, fMod_eq hn', hc,
          fLen_lst hln, List.replicate, fGt_eq, fGe_eq, fLe_eq, fAdd_int, fPow_18, eAndT, h1.1, h1.2, -List.length_map]
      rw [e]
      exact fin' _ _ bel_draw
    · have c1 : ∀ k, cMul 7919 k = true := fun k => cMul_left (by decide) (by decide)
      have c2 : ∀ k, cMul k (u + 1) = true := fun k => cMul_right (by omega) (by omega)
      have c3 : ∀ k, cMul 31 k = true := fun k => cMul_left (by decide) (by decide)
      have c4 : ∀ k, cMul k 48271 = true := fun k => cMul_right (by decide) (by decide)
      have c5 : ∀ k, cMul 2 k = true := fun k => cMul_left (by decide) (by decide)
      have c6 : ∀ n k : Int, cMul n (69621 + 2 * (k % 1000)) = true := fun n k => cMul_right (by omega) (by omega)
      have p1 : (0 : Int) < 1000000007 := by decide
      have p2 : (0 : Int) < 2147483647 := by decide
      have p3 : (0 : Int) < 2147483629 := by decide
      have p4 : (0 : Int) < 1000 := by decide
      have p5 : cDiv 0 7 = true := by decide
      have p6 : ∀ x, fFdiv (st.set d (drawOb cs (a + 1) l (u + 1))) (.int x) (.int 7) = some (.int (x / 7)) := fun x => fFdiv_eq (by exact p5)
      let f : Int → Int → Int := fun x k => (x + 31 * k + 7) * 48271 % 2147483647 * (69621 + 2 * (k % 1000)) % 2147483629
      refine ⟨f (f (c % 1000000007 + 7919 * (u + 1) * (u + 1)) (a + 1)) (u + 1) / 7 % many, a + 1, l, u + 1, ?_, (hmod _).1, (hmod _).2, by omega, hl, by omega, by omega⟩
      have e : nextS (startE 6 [.loc d, .int many]) (st.set d (drawOb cs a l u)) = .rt (.int (f (f (c % 1000000007 + 7919 * (u + 1) * (u + 1)) (a + 1)) (u + 1) / 7 % many)) (st.set d (drawOb cs (a + 1) l (u + 1))) := by
        have h2 : (decide (1000000000000000000 ≤ c) && decide (a + 1 ≤ ((cs.map Val.int).length : Int))) = false := by
          rw [← Bool.not_eq_true, Bool.and_eq_true, decide_eq_true_eq, decide_eq_true_eq]
          exact h1
        by_cases h3 : 1000000000000000000 ≤ c
        · have h4 : ¬ a + 1 ≤ ((cs.map Val.int).length : Int) := fun z => h1 ⟨h3, z⟩
          simp [f, nextS, startE, sSeq, sIf, sSkip, sSet, sFor, forL, itV, eTest, eB, eV, eC, eBf, bindR, bindS, optR, sx_left hdl, sx_cells hdl, sx_at hdl, sx_used hdl, sAsg, gT, gCons', gNil', gN, gIx, eTup, eCons, eNil, ss_used hdl, ss_at hdl, sRet, h0, hm, two_le, fMod_eq hm, fMod_eq hn',
            fMod_eq p1, fMod_eq p2, fMod_eq p3, fMod_eq p4, p6, hc, fLen_lst hln, List.replicate, fGt_eq, fGe_eq, fLe_eq, fAdd_int, fPow_18, eAndT, h3, h4, fMul_int (c1 _), fMul_int (c2 _), fMul_int (c3 _), fMul_int (c4 _), fMul_int (c5 _), fMul_int (c6 _ _), -List.length_map]
        · simp [f, nextS, startE, sSeq, sIf, sSkip, sSet, sFor, forL, itV, eTest, eB, eV, eC, eBf, bindR, bindS, optR, sx_left hdl, sx_cells hdl, sx_at hdl, sx_used hdl, sAsg, gT, gCons', gNil', gN, gIx, eTup, eCons, eNil, ss_used hdl, ss_at hdl, sRet, h0, hm, two_le, fMod_eq hm, fMod_eq hn',
            fMod_eq p1, fMod_eq p2, fMod_eq p3, fMod_eq p4, p6, hc, fLen_lst hln, List.replicate, fGt_eq, fGe_eq, fLe_eq, fAdd_int, fPow_18, eAndT, h3, fMul_int (c1 _), fMul_int (c2 _), fMul_int (c3 _), fMul_int (c4 _), fMul_int (c5 _), fMul_int (c6 _ _), -List.length_map]
      rw [e]
      exact fin' _ _ bel_draw
end Ev

set_option Elab.async false
set_option linter.all false
set_option maxRecDepth 100000
set_option maxHeartbeats 2000000
namespace Ev
open PySem PySem.Spec PyProof.Rows L2
theorem lcL_map {g : G} {e : E} {ρ : Env} {f : Val → Val} {st : Sto} : ∀ {vs : List Val}, (∀ v, v ∈ vs → ∃ ρ1, g v ρ st = some (ρ1, st) ∧ e ρ1 st = .ok (f v) st) → lcL g eYes e ρ vs st = .ok (vs.map f) st
  | [], _ => rfl
  | v :: vs, h => by
    obtain ⟨ρ1, h1, h2⟩ := h v List.mem_cons_self
    have ih := lcL_map (vs := vs) fun w hw => h w (List.mem_cons_of_mem _ hw)
    unfold lcL
    rw [h1]
    dsimp only [eYes]
    rw [h2]
    dsimp only
    rw [ih]
    rfl
theorem lc_map {own : List Nat} {it : EI} {g : G} {e : E} {ρ : Env} {f : Val → Val} {st : Sto} {vs : List Val} (hi : it ρ st = .ok vs st) (hl : vs.length ≤ 1000) (h : ∀ v, v ∈ vs → ∃ ρ1, g v (wipeE ρ own) st = some (ρ1, st) ∧ e ρ1 st = .ok (f v) st) :
    eLc false own it g eYes e ρ st = .ok (.lst (vs.map f)) st := by
  unfold eLc lcE
  rw [hi]
  dsimp only [bindR]
  rw [if_pos (by rw [sizeLine_eq]; omega), lcL_map h]
  rfl
theorem runF_rt {n : Nat} {b : S} {args : List Val} {st st' : Sto} {v : Val} (h : b (startE n args) st = .rt v st') (hs : ∃ more, st' = st ++ more) (hv : belV st.length v = true) : runF n b args st = .ok v st := by
  obtain ⟨more, rfl⟩ := hs
  unfold runF
  rw [h]
  show fin st v (st ++ more) = _
  rw [fin_bel (okOld_app (okOld_refl st) more) hv, List.take_left]
theorem runF_same {n : Nat} {b : S} {args : List Val} {st : Sto} {v : Val} (h : b (startE n args) st = .rt v st) (hv : belV st.length v = true) : runF n b args st = .ok v st :=
  runF_rt h ⟨[], (List.append_nil st).symm⟩ hv
theorem runF_nx {n : Nat} {b : S} {args : List Val} {st : Sto} {ρ : Env} (h : b (startE n args) st = .nx ρ st) : runF n b args st = .ok .non st := by
  unfold runF
  rw [h]
  show fin st .non st = _
  exact fin_same rfl
theorem toDs_ints : ∀ ns : List Int, toDs (ns.map Val.int) = some (ns.map PyData.int)
  | [] => rfl
  | n :: ns => by simp [toDs, toD, toDs_ints ns]
theorem toDs_map {α : Type} {f : α → Val} {d : α → PyData} : ∀ {xs : List α}, (∀ x, x ∈ xs → toD (f x) = some (d x)) → toDs (xs.map f) = some (xs.map d)
  | [], _ => rfl
  | x :: xs, h => by
    rw [List.map_cons, toDs, h x List.mem_cons_self, toDs_map fun y hy => h y (List.mem_cons_of_mem _ hy)]
    rfl
theorem fNe_self {st : Sto} {v : Val} {d : PyData} (h : toD (dr st v) = some d) (hs : SeqAt.shaped d = true) : fNe st v v = some (.bl false) := by
  unfold fNe
  rw [h]
  dsimp only
  rw [if_pos (by rw [hs]; rfl), PySem.SeqAt.eqv_refl d (SeqAt.canLay_of_shaped hs)]
  rfl
theorem fEq_self {st : Sto} {v : Val} {d : PyData} (h : toD (dr st v) = some d) (hs : SeqAt.shaped d = true) : fEq st v v = some (.bl true) := by
  unfold fEq
  rw [h]
  dsimp only
  rw [if_pos (by rw [hs]; rfl), PySem.SeqAt.eqv_refl d (SeqAt.canLay_of_shaped hs)]
theorem fRepr_ok {st : Sto} {v : Val} {d : PyData} (h : toD (dr st v) = some d) (hr : reprOk d = true) : fRepr st [v] = some (.str d.shown) := by
  unfold fRepr
  dsimp only
  rw [h]
  dsimp only
  rw [if_pos hr]
abbrev nS (l : List Nat) : Str := SX.S l
/-- the signs of a number from -1 on -/
def wI (i : Int) : List Nat := if i < 0 then [45, 49] else TL.numL i.toNat
theorem iStr_w {i : Int} (h : -1 ≤ i) : iStr i = nS (wI i) := by
  unfold wI
  by_cases h0 : i < 0
  · rw [if_pos h0]
    have e : i = -1 := by omega
    subst e
    decide
  · rw [if_neg h0]
    obtain ⟨n, rfl⟩ := Int.eq_ofNat_of_zero_le (show 0 ≤ i by omega)
    exact SX.num_S n
theorem wI_nat (n : Nat) : wI (n : Int) = TL.numL n := by
  unfold wI
  rw [if_neg (by omega), Int.toNat_natCast]
theorem wI_signs {i : Int} {c : Nat} (h : c ∈ wI i) : c = 45 ∨ (48 ≤ c ∧ c ≤ 57) := by
  unfold wI at h
  split at h
  · simp at h; omega
  · exact .inr (TL.numL_digits _ c h)
theorem wI_ne (i : Int) : wI i ≠ [] := by
  unfold wI
  split
  · simp
  · exact TL.numL_ne _
theorem wI_len {i : Int} (h : i ≤ 10 ^ 30) : (wI i).length ≤ 31 := by
  unfold wI
  split
  · decide
  · exact TL.numL_len (by decide) (by omega)
theorem str_blank : (" " : Str) = nS [32] := by decide
theorem str_line : ("\n" : Str) = nS [10] := by decide
theorem split_join {c : Nat} (hc : c < 256) {parts : List (List Nat)} (hne : parts ≠ []) (h : ∀ p, p ∈ parts → c ∉ p) : Txt.split (nS (TL.joinL [c] parts)) (nS [c]) = parts.map nS := by
  have e := SX.split_S (a := TL.joinL [c] parts) (b := [c]) (by simp) (by simp [hc])
  rw [e, SX.spl_join hne h]
theorem joinL_len (c : Nat) : ∀ parts : List (List Nat), (TL.joinL [c] parts).length ≤ (parts.map (·.length)).sum + parts.length
  | [] => by simp [TL.joinL]
  | [p] => by simp [TL.joinL]
  | p :: q :: r => by
    have := joinL_len c (q :: r)
    simp only [TL.joinL, List.length_append, List.map_cons, List.sum_cons, List.length_cons, List.length_nil] at this ⊢
    omega
theorem sum_le {l : List Nat} {k : Nat} (h : ∀ x, x ∈ l → x ≤ k) : l.sum ≤ l.length * k := by
  induction l with
  | nil => simp
  | cons a l ih =>
    have h1 := h a List.mem_cons_self
    have h2 := ih fun x hx => h x (List.mem_cons_of_mem _ hx)
    rw [List.sum_cons, List.length_cons, Nat.add_mul]
    omega
theorem mem_joinL {c d : Nat} : ∀ {parts : List (List Nat)}, d ∈ TL.joinL [c] parts → d = c ∨ ∃ p, p ∈ parts ∧ d ∈ p
  | [], h => by simp [TL.joinL] at h
  | [p], h => .inr ⟨p, by simp, h⟩
  | p :: q :: r, h => by
    simp only [TL.joinL, List.mem_append, List.mem_singleton] at h
    rcases h with h | h | h
    · exact .inr ⟨p, by simp, h⟩
    · exact .inl h
    · rcases mem_joinL h with e | ⟨x, h1, h2⟩
      · exact .inl e
      · exact .inr ⟨x, List.mem_cons_of_mem _ h1, h2⟩
/-- the first sign of a number -/
theorem numL_head : ∀ n : Nat, 0 < n → ∃ c r, TL.numL n = c :: r ∧ c ≠ 48 := by
  intro n
  induction n using Nat.strongRecOn with
  | ind n ih =>
    intro h
    by_cases h10 : n < 10
    · exact ⟨48 + n, [], TL.numL_lt h10, by omega⟩
    · obtain ⟨c, r, e, hc⟩ := ih (n / 10) (by omega) (by omega)
      exact ⟨c, r ++ [48 + n % 10], by rw [TL.numL_step (by omega), e]; rfl, hc⟩
end Ev

set_option Elab.async false
set_option linter.all false
set_option maxRecDepth 100000
set_option maxHeartbeats 2000000
namespace Ev
open PySem PySem.Spec PyProof.Rows L2
structure Sm (d : PyData) (k b : Nat) : Prop where
  lv : PyData.leavesShort 100 d = true
  sh : PyData.showable d = true
  nd : PyData.hasDict d = false
  ly : PyData.canLay0 d = true
  dp : d.depth ≤ k
  bk : d.bulk ≤ b
structure SmAll (ds : List PyData) (k b : Nat) : Prop where
  lv : PyData.leavesShortAll 100 ds = true
  sh : PyData.showableAll ds = true
  nd : PyData.hasDictAll ds = false
  ly : PyData.canLayAll0 ds = true
  dp : PyData.depthAll ds ≤ k
  bk : PyData.bulkAll ds ≤ ds.length * (b + 1)
theorem Sm.all {k b : Nat} : ∀ {ds : List PyData}, (∀ d, d ∈ ds → Sm d k b) → SmAll ds k b
  | [], _ => ⟨rfl, rfl, rfl, rfl, Nat.zero_le _, Nat.zero_le _⟩
  | d :: ds, h => by
    have h1 := h d List.mem_cons_self
    have h2 := Sm.all fun e he => h e (List.mem_cons_of_mem _ he)
    refine ⟨?_, ?_, ?_, ?_, ?_, ?_⟩
    · rw [PyData.leavesShortAll, h1.lv, h2.lv]; rfl
    · rw [PyData.showableAll, h1.sh, h2.sh]; rfl
    · rw [PyData.hasDictAll, h1.nd, h2.nd]; rfl
    · rw [PyData.canLayAll0, h1.ly, h2.ly]; rfl
    · rw [PyData.depthAll]; exact Nat.max_le.mpr ⟨h1.dp, h2.dp⟩
    · rw [PyData.bulkAll, List.length_cons, Nat.add_mul]
      have := h1.bk
      have := h2.bk
      omega
theorem SmAll.tup {ds : List PyData} {k b : Nat} (h : SmAll ds k b) : Sm (.tuple ds) (k + 1) (ds.length * (b + 1)) :=
  ⟨by rw [PyData.leavesShort]; exact h.lv, by rw [PyData.showable]; exact h.sh, by rw [PyData.hasDict]; exact h.nd, by rw [PyData.canLay0]; exact h.ly, by rw [PyData.depth]; exact Nat.add_le_add_right h.dp 1, by rw [PyData.bulk]; exact h.bk⟩
theorem SmAll.lst {ds : List PyData} {k b : Nat} (h : SmAll ds k b) : Sm (.list ds) (k + 1) (ds.length * (b + 1)) :=
  ⟨by rw [PyData.leavesShort]; exact h.lv, by rw [PyData.showable]; exact h.sh, by rw [PyData.hasDict]; exact h.nd, by rw [PyData.canLay0]; exact h.ly, by rw [PyData.depth]; exact Nat.add_le_add_right h.dp 1, by rw [PyData.bulk]; exact h.bk⟩
theorem Sm.le {d : PyData} {k b k' b' : Nat} (h : Sm d k b) (hk : k ≤ k') (hb : b ≤ b') : Sm d k' b' := ⟨h.lv, h.sh, h.nd, h.ly, Nat.le_trans h.dp hk, Nat.le_trans h.bk hb⟩
theorem log_small {i : Int} (h1 : -1 ≤ i) (h2 : i ≤ 10 ^ 30) : i.natAbs.log2 < 1920 := by
  have h4 : i.natAbs < 2 ^ 100 := by
    have : (2 : Nat) ^ 100 = 1267650600228229401496703205376 := by decide
    omega
  by_cases h0 : i.natAbs = 0
  · rw [h0]; decide
  · have := (Nat.log2_lt h0).mpr h4
    omega
theorem Sm.int {i : Int} (h1 : -1 ≤ i) (h2 : i ≤ 10 ^ 30) : Sm (.int i) 0 0 := by
  refine ⟨?_, ?_, rfl, rfl, Nat.le_refl _, Nat.le_refl _⟩
  · rw [PyData.leavesShort, decide_eq_true_eq, PyData.shown_int]
    show (iStr i).length ≤ 100
    rw [iStr_w h1, SX.S_len]
    have := wI_len h2
    omega
  · rw [PyData.showable, decide_eq_true_eq]
    exact log_small h1 h2
theorem Sm.str {l : List Nat} {b : Nat} (h : ∀ c, c ∈ l → c < 128) (hl : l.length ≤ b) : Sm (.str (nS l)) 0 b := by
  refine ⟨?_, rfl, rfl, ?_, Nat.le_refl _, ?_⟩
  · rw [PyData.leavesShort, List.all_eq_true]
    intro c hc
    rw [decide_eq_true_eq]
    have := h c (by simpa using hc)
    omega
  · rw [PyData.canLay0]
    unfold PyData.strOk
    rw [← Array.all_toList, List.all_eq_true]
    intro c hc
    rw [decide_eq_true_eq]
    have := h c (by simpa using hc)
    omega
  · rw [PyData.bulk]
    simpa using hl
theorem Sm.shaped {d : PyData} {k b : Nat} (h : Sm d k b) (hk : k ≤ 60) : SeqAt.shaped d = true := by
  unfold SeqAt.shaped
  rw [h.ly, decide_eq_true (show d.depth ≤ 64 by have := h.dp; omega)]
  rfl
theorem Sm.repr {d : PyData} {k b : Nat} (h : Sm d k b) (hk : k ≤ 60) (hb : b ≤ 100000) : reprOk d = true := by
  have e := PyData.shown_le_bulk 100 (by decide) d h.lv
  have e2 : d.shown.length ≤ sizeLine := by
    rw [sizeLine_eq]
    have := h.bk
    omega
  unfold reprOk
  rw [h.sh, h.nd, decide_eq_true (show d.depth ≤ 60 by have := h.dp; omega), decide_eq_true e2]
  rfl
/-- the same on both sides -/
theorem neA_self {st : Sto} {v : Val} {d : PyData} {k b : Nat} (h : toD (dr st v) = some d) (hs : Sm d k b) (hk : k ≤ 60) : fNeA st v v = some (.bl false) := by
  unfold fNeA
  split
  · simp
  · simp
  · exact fNe_self h (hs.shaped hk)
theorem eqA_self {st : Sto} {v : Val} {d : PyData} {k b : Nat} (h : toD (dr st v) = some d) (hs : Sm d k b) (hk : k ≤ 60) : fEqA st v v = some (.bl true) := by
  unfold fEqA
  split
  · simp
  · simp
  · exact fEq_self h (hs.shaped hk)
theorem neA_str {st : Sto} {a : Str} : fNeA st (.str a) (.str a) = some (.bl false) := by
  simp [fNeA]
end Ev

set_option Elab.async false
set_option linter.all false
set_option maxRecDepth 100000
set_option maxHeartbeats 2000000
namespace Ev
open PySem PySem.Spec PyProof.Rows L2
section
variable {X : Cx} {T : Tab} {W : WX}
/-- B.__init__(self, ..), B an own class over ValueError without an __init__ of its own -/
theorem pe_oinit {x : Str} {B : Addr} {mc : Value} {e : Expr} {es : List Expr} {ta : TA} {p1 p2 pos : Pos} {pl : Sem Bool} (hm : X.mg x = some (.ref B)) (r : ClX.CRead X.K B mc) (vV : PySem.W.findCls X.K (.ref B) mc "__init__" = some (.val (.builtin "ValueError.__init__"))) (ha : PA X (e :: es) ta) (hg : Gl X x := by rfl)
    (hc : eval (.Call (.Attribute (.Name x p1) "__init__" p2) (e :: es) [] pos) X.env = (do
      let ov ← eval (.Name x p1) X.env
      standAt p2.atName
      let (f, first) ← holding [ov] (getMethod ov "__init__" pl)
      callWith pos f first (backTo pos (starEach (e :: es) X.env)) (backToKw pos (keywordEach [] X.env))) := by rfl)
    (he : starEach (e :: es) X.env = (false, eval e X.env) :: starEach es X.env := by rfl) (hpl : (backTo pos (starEach es X.env)).any (·.1) = false := by rfl) (hdb : (x == ("__debug__" : Str)) = false := by decide) :
    PE X (.Call (.Attribute (.Name x p1) "__init__" p2) (e :: es) [] pos) (tVeI X.K ta) := by
  refine ⟨fun pins s σ H Q I h => ?_⟩
  refine PySem.W.methodCall_KW (ld_glob I hg hm ?_ hdb) hc
  refine PySem.W.method_cls I.kIn r.ga (PySem.W.cls_value I.kIn r.rd vV (by decide +kernel) ?_)
  show wpAny _ _ (callWith pos (Value.builtin "ValueError.__init__") [] (backTo pos (starEach (e :: es) X.env)) []) _ _ _
  refine PyProof.Rows.callWith_method1 (thn (ha.run pos pins _ σ H _ (I.tok _) h) fun us s1 ⟨vs, H1, I1, r1, a, C, ws, ev, hl, T, ea, q⟩ => ?_) he hpl
  subst ev
  cases r1 with
  | @cons _ u0 _ ur ra rw' =>
    obtain rfl : u0 = Value.ref a := ra
    exact oinit_ok T I1 ea (by rw [← Paired.length rw', sizeLine_eq]; omega) fun s' J => ⟨.non, H1, J, rfl, q⟩
/-- what such an __init__ keeps: it lays the fields down -/
def spI (C : Addr) (ns : List Str) : Sp := fun vs H Q _ => ∃ (a : Addr) (ys : List V), vs = .ref a :: ys ∧ ys.length = ns.length ∧ H a = some (exo a C none) ∧ ∀ dx, H dx = none → dx ≠ a → Q .non (upd (upd H dx (exd dx (ns.zip ys).reverse)) a (exo a C (some dx)))
/-- the class's own facts, by computing -/
def oexB (K : PySem.W.Frag) (C : Addr) : Bool := (match K.lookup C with
  | some ⟨.type "type", dd, .cls cd, sl⟩ => (match cd.mro, sl.toList with
    | .ref C' :: bm, [_, _, _, _, some (.builtin n), _] => C' == C && n == "ValueError.__new__" && !cd.hasDel && cd.hasDict && PySem.HandSPX.refsVE bm
    | _, _ => false)
  | _ => false) && decide (PySem.W.findIn K (.ref C) "__setattr__" = some (some (.builtin "object.__setattr__"))) && decide (PySem.W.subIn K (.ref C) (.type "BaseException") = some true) && decide (PySem.W.typeIn K (.ref C) = some (.type "type")) && PySem.W.keepIn K (.ref C)
theorem oexC_of {K : PySem.W.Frag} {C : Addr} (h : oexB K C = true) : OexC K C := by
  unfold oexB at h
  rw [Bool.and_eq_true, Bool.and_eq_true, Bool.and_eq_true, Bool.and_eq_true, decide_eq_true_eq, decide_eq_true_eq, decide_eq_true_eq] at h
  obtain ⟨⟨⟨⟨h, h2⟩, h3⟩, h4⟩, h5⟩ := h
  refine ⟨?_, h2, h3, h4, h5⟩
  split at h
  · rename_i dd cd sl ho
    split at h
    · rename_i C' bm k0 k1 k2 k3 n k5 hm hs
      simp only [Bool.and_eq_true, beq_iff_eq, Bool.not_eq_true'] at h
      obtain ⟨⟨⟨⟨rfl, rfl⟩, hdel⟩, hdict⟩, ht⟩ := h
      obtain ⟨nm, bs, mro, ns, qn, hd, sn, sub, ab, col, del⟩ := cd
      dsimp only at hm hdel hdict
      subst hm hdel hdict
      have hsl : sl = #[k0, k1, k2, k3, some (.builtin "ValueError.__new__"), k5] := by
        obtain ⟨l⟩ := sl
        simp only at hs
        rw [hs]
      subst hsl
      exact ⟨_, _, _, _, _, _, _, _, _, _, _, _, _, _, _, ho, ht⟩
    · cases h
  · cases h
structure InitAt (P : Program) (w : World) (K : PySem.W.Frag) (mg : Str → Option Value) (base : Heap) (x : Str) (C : Addr) (ns : List Str) : Prop where
  ex : ∃ fI fd ps, mg x = some (.ref C) ∧ OexC K C ∧ PySem.W.findIn K (.ref C) "__init__" = some (some (.ref fI)) ∧ PySem.W.typeIn K (.ref fI) = some (.type "function") ∧ Binds K fd ps [] ∧ ps.length = ns.length + 1 ∧ FnOk P w K mg base (L2.CX P w) 1 fI fd ps (spI C ns)
theorem init1_read {K : PySem.W.Frag} {C : Addr} {z f : Str} {N : List Str} {vs : List V} {H : Hp} {Q : VK} {E : XK} (T : OexC K C) (hf : PySem.W.findIn K (.ref C) f = some none) (h : spI C [f] vs H Q E) :
    tSeq (tDrop (tVeI K (tCons (tVar 0) (tCons (tC (.str z)) tNil)))) (tOst K f (tVar 0) (tVar 1)) { nx := fun _ H' => Q .non H', rt := Q } (L2.start N vs) H := by
  obtain ⟨a, ys, rfl, hl, ha, q⟩ := h
  obtain ⟨y, rfl⟩ : ∃ y, ys = [y] := by
    match ys, hl with
    | [y], _ => exact ⟨y, rfl⟩
  refine ⟨.ref a, rfl, a, C, [.str z], rfl, by simp, T, ha, ?_⟩
  exact ⟨y, rfl, .ref a, rfl, a, C, rfl, T, hf, .inl ⟨ha, fun dx h1 h2 => q dx h1 h2⟩⟩
theorem init2_read {K : PySem.W.Frag} {C : Addr} {z f g : Str} {N : List Str} {vs : List V} {H : Hp} {Q : VK} {E : XK} (T : OexC K C) (hf : PySem.W.findIn K (.ref C) f = some none) (hg : PySem.W.findIn K (.ref C) g = some none) (h : spI C [f, g] vs H Q E) :
    tSeq (tDrop (tVeI K (tCons (tVar 0) (tCons (tC (.str z)) tNil)))) (tSeq (tOst K f (tVar 0) (tVar 1)) (tOst K g (tVar 0) (tVar 2))) { nx := fun _ H' => Q .non H', rt := Q } (L2.start N vs) H := by
  obtain ⟨a, ys, rfl, hl, ha, q⟩ := h
  obtain ⟨y, y2, rfl⟩ : ∃ y y2, ys = [y, y2] := by
    match ys, hl with
    | [y, y2], _ => exact ⟨y, y2, rfl⟩
  refine ⟨.ref a, rfl, a, C, [.str z], rfl, by simp, T, ha, ?_⟩
  refine ⟨y, rfl, .ref a, rfl, a, C, rfl, T, hf, .inl ⟨ha, fun dx h1 h2 => ?_⟩⟩
  refine ⟨y2, rfl, .ref a, rfl, a, C, rfl, T, hg, .inr ⟨dx, [(f, y)], upd_same, by rw [upd_ne h2, upd_same], by simp, ?_⟩⟩
  have e : upd (upd (upd H dx (exd dx [(f, y)])) a (exo a C (some dx))) dx (exd dx [(g, y2), (f, y)]) = upd (upd H dx (exd dx [(g, y2), (f, y)])) a (exo a C (some dx)) := by
    funext b
    by_cases hb : b = dx
    · subst hb
      rw [upd_same, upd_ne h2, upd_same]
    · rw [upd_ne hb]
      by_cases hb2 : b = a
      · subst hb2; rw [upd_same, upd_same]
      · rw [upd_ne hb2, upd_ne hb, upd_ne hb2, upd_ne hb]
  show Q .non _
  rw [e]
  exact q dx h1 h2
def sRaise (c : Nat) (ns : List Str) (a : EA) : S := fun ρ st => bindS (a ρ st) ρ fun vs st1 => if vs.length = ns.length then .ex (.exc c ns.reverse vs.reverse) ρ st1 else .bad
theorem s_raise {c k : Nat} {x : Str} {ns : List Str} {e : Expr} {es : List Expr} {as : EA} {p pos pos' : Pos} (F : InitAt X.prog X.w X.K X.mg X.base x (T.ca c) ns) (hns : ns.length ≤ 10) (hc : X.calm = true) (hr : Room (k + 2) X.A) (tk : Takes X W) (ha : PA X (e :: es) (tA T W as)) (hg : Gl X x := by rfl)
    (hdb : (x == ("__debug__" : Str)) = false := by decide) (he : starEach (e :: es) X.env = (false, eval e X.env) :: starEach es X.env := by rfl) (hpl : (backTo pos (starEach es X.env)).any (·.1) = false := by rfl) :
    PS X (.Raise (some (.Call (.Name x p) (e :: es) [] pos)) none pos') (tS T W (sRaise c ns as)) := by
  obtain ⟨fI, fd, ps, hm, O, iC, tI, hb, hl, F1⟩ := F.ex
  have hx : Passes (L2.CX X.prog X.w) X (fun _ _ _ => False) := fun pins σ H s e s' I ⟨_, _, _, _, _, _, _, _, _, _, _, _, z⟩ => z.elim
  refine ps_imp (ps_raise hc tk (pmk_oex O iC tI F1 (hr.mono (by omega)) hb .nil hx hg hm ha hdb he hpl)) fun D σ H h => ?_
  refine tS_bind h fun vs ρ st1 φ1 H1 us re1 q1 p1 => ?_
  split at p1
  · rename_i hlen
    refine ⟨by rw [← q1.length]; omega, fun a hna => ?_⟩
    rw [List.append_nil]
    refine ⟨a, us, rfl, by rw [← q1.length]; exact hlen, upd_same, fun dx h1 h2 => ?_⟩
    have hd : H1 dx = none := by rw [upd_ne h2] at h1; exact h1
    refine ⟨rfl, dx, (ns.zip us).reverse, upd_same, by rw [upd_ne h2, upd_same], hd, ?_⟩
    have eH : upd (del (upd (upd (upd H1 a (exo a (T.ca c) none)) dx (exd dx (ns.zip us).reverse)) a (exo a (T.ca c) (some dx))) a) dx (.xd (ns.zip us).reverse) = upd H1 dx (.xd (ns.zip us).reverse) := by
      funext b
      by_cases hb : b = dx
      · subst hb; rw [upd_same, upd_same]
      · rw [upd_ne hb, upd_ne hb]
        by_cases hb2 : b = a
        · subst hb2; rw [del_same, hna]
        · rw [del_ne hb2, upd_ne hb2, upd_ne hb, upd_ne hb2]
    rw [eH]
    have ez : (ns.zip us).reverse = ns.reverse.zip us.reverse := by
      have hl2 : ns.length = us.length := by rw [← q1.length]; exact hlen.symm
      rw [List.zip_eq_zipWith, List.zip_eq_zipWith, List.reverse_zipWith hl2]
    have e1 := Ext.fresh (ho := .xd (ns.zip us).reverse) re1.rst hd
    refine p1 φ1 _ σ _ _ e1 (re1.ext e1 (re1.rst.fresh hd)) ⟨c, ns.reverse, vs.reverse, us.reverse, dx, rfl, rfl, rfl, re1.rst.nolive hd, .inl (by rw [ez]; exact upd_same), ?_, ?_⟩
    · rw [List.length_reverse, List.length_reverse, ← q1.length]; exact hlen.symm
    · exact (RelVs.reverse q1).ext e1
  · exact p1.elim
/-- the j-th statement of a class -/
def inCls (st : Stmt) (j : Nat) : Stmt := match st with
  | .ClassDef (body := b) .. => b.getD j (.Pass ⟨0, 0, 0, 0⟩)
  | _ => .Pass ⟨0, 0, 0, 0⟩
abbrev mOf (x m q : Str) (st : Stmt) : He.DefD := ⟨(x, some m), m, q, defArgs st, defBody st, defScope st, [], []⟩
/-- what the head must tell of a class with such an __init__: its base B, its fields -/
def initB (K : PySem.W.Frag) (x b : Str) (fs : List Str) : Bool := oexB K (He.ga K x) && decide (PySem.W.findIn K (.ref (He.ga K x)) "__init__" = some (some (.ref (He.fAd K (x, some "__init__"))))) && decide (PySem.W.typeIn K (.ref (He.fAd K (x, some "__init__"))) = some (.type "function"))
  && fs.all (fun f => decide (PySem.W.findIn K (.ref (He.ga K x)) f = some none)) && PySem.W.readsIn K (He.ga K b) (.type "type") && decide (PySem.W.specialIn K (.ref (He.ga K b)) "__getattribute__" = some (some (.builtin "type.__getattribute__")))
  && (match PySem.W.findCls K (.ref (He.ga K b)) (.type "type") "__init__" with
    | some (.val v) => v == .builtin "ValueError.__init__"
    | _ => false)
structure InitF (K : PySem.W.Frag) (x b : Str) (fs : List Str) : Prop where
  oex : OexC K (He.ga K x)
  fi : PySem.W.findIn K (.ref (He.ga K x)) "__init__" = some (some (.ref (He.fAd K (x, some "__init__"))))
  ty : PySem.W.typeIn K (.ref (He.fAd K (x, some "__init__"))) = some (.type "function")
  fs : ∀ f, f ∈ fs → PySem.W.findIn K (.ref (He.ga K x)) f = some none
  rd : ClX.CRead K (He.ga K b) (.type "type")
  vi : PySem.W.findCls K (.ref (He.ga K b)) (.type "type") "__init__" = some (.val (.builtin "ValueError.__init__"))
theorem initF_of {K : PySem.W.Frag} {x b : Str} {fs : List Str} (h : initB K x b fs = true) : InitF K x b fs := by
  unfold initB at h
  simp only [Bool.and_eq_true, decide_eq_true_eq, List.all_eq_true] at h
  obtain ⟨⟨⟨⟨⟨⟨h1, h2⟩, h3⟩, h4⟩, h5⟩, h6⟩, h7⟩ := h
  refine ⟨oexC_of h1, h2, h3, h4, ⟨h5, h6⟩, ?_⟩
  split at h7
  · rename_i v hv
    rw [hv, eq_of_beq h7]
  · cases h7
end
end Ev

set_option Elab.async false
set_option linter.all false
set_option maxRecDepth 100000
namespace Ev
open PySem PySem.Spec PyProof.Rows L2
abbrev dc2 (kx vx ta ia tb ib : Expr) (fa fb : List Expr) (sc : Scope) (p : Pos) : Expr := .DictComp kx vx [⟨ta, ia, fa, 0⟩, ⟨tb, ib, fb, 0⟩] sc p
section
variable (kx vx ta ia tb ib : Expr) (fa fb : List Expr) (sc : Scope) (p : Pos) (it : Value) (D : Addr) (env : PySem.Env)
theorem turnA : compTurn (dc2 kx vx ta ia tb ib fa fb sc p) 0 it (.ref D) env = (do
    standAt ia.pos
    match ← pyNext it with
    | none => pure (.done .next)
    | some v =>
      letOwnedTupleGo ta it v
      assign ta env v
      let mut ok := true
      for t in fa do
        if ok then ok ← isTrue t env (eval t env)
      if ok then
        let y ← eval ib env
        standAt ib.pos
        let y ← foldedSetIterable ib env y
        let _ ← runOwn (.compStart (dc2 kx vx ta ia tb ib fa fb sc p) 1 (← holding [y] (pyIter y)) (.ref D) env) env
      again (.compLoop (dc2 kx vx ta ia tb ib fa fb sc p) 0 it (.ref D) env)) := by rfl
theorem turnB : compTurn (dc2 kx vx ta ia tb ib fa fb sc p) 1 it (.ref D) env = (do
    standAt ib.pos
    match ← pyNext it with
    | none => pure (.done .next)
    | some v =>
      letOwnedTupleGo tb it v
      assign tb env v
      let mut ok := true
      for t in fb do
        if ok then ok ← isTrue t env (eval t env)
      if ok then
        (do
          let k ← eval kx env
          let u ← holding [k] (eval vx env)
          standAt { kx.pos with endLine := vx.pos.endLine, endCol := vx.pos.endCol }
          holding [k, u] (dictSet D k u))
      again (.compLoop (dc2 kx vx ta ia tb ib fa fb sc p) 1 it (.ref D) env)) := by rfl
end
section
variable {prog : Program} {w : World} {A : Around} {R : Result → Shared → Prop} {s : Shared} {kx vx ta ia tb ib : Expr} {fa fb : List Expr} {sc : Scope} {p : Pos} {it : Value} {D : Addr} {env : PySem.Env}
/-- what is left behind by an exception within the block -/
abbrev Out (prog : Program) (w : World) (A : Around) (env : PySem.Env) (R : Result → Shared → Prop) : Value → Shared → Prop := notedBy (model prog w) A env fun e t => R (.error e) t
/-- a block's tests -/
abbrev testsM (fs : List Expr) (env : PySem.Env) : Sem Bool :=
  forIn fs true fun c r => if r = true then do let ok ← isTrue c env (eval c env); pure (ForInStep.yield ok) else pure (ForInStep.yield r)
/-- one clause's turn, up to its tests: go is what is left behind them -/
def Turn (prog : Program) (w : World) (A : Around) (env : PySem.Env) (R : Result → Shared → Prop) (tg : Expr) (fs : List Expr) (it : Value) (go : Shared → Prop) (skip : Shared → Prop) (s : Shared) : Prop :=
  wpAny (model prog w) A (pyNext it) (fun r s1 => match r with
    | none => R (.ok .next) s1
    | some v => wpAny (model prog w) A (letOwnedTupleGo tg it v) (fun _ s2 => wpAny (model prog w) A (assign tg env v) (fun _ s3 =>
        wpAny (model prog w) A (testsM fs env) (fun ok s4 => if ok = true then go s4 else skip s4) (Out prog w A env R) s3) (Out prog w A env R) s2) (Out prog w A env R) s1) (Out prog w A env R) s
theorem loopB (I : Nat → Shared → Prop)
    (turn : ∀ n s, I n s → Turn prog w A env R tb fb it
      (fun s4 => wpAny (model prog w) A (eval kx env) (fun k s5 => wpAny (model prog w) A (eval vx env) (fun u s6 =>
        wpAny (model prog w) A (dictSet D k u) (fun _ s7 => ∃ m, m < n ∧ I m s7) (Out prog w A env R) s6) (Out prog w A env R) s5) (Out prog w A env R) s4)
      (fun s4 => ∃ m, m < n ∧ I m s4) s)
    (n : Nat) (h : I n s) : codeAny (model prog w) A (.compLoop (dc2 kx vx ta ia tb ib fa fb sc p) 1 it (.ref D) env) R s := by
  refine codeAny_loop rfl I (fun n s hI => ?_) n h
  show wpAny _ A ((compTurn (dc2 kx vx ta ia tb ib fa fb sc p) 1 it (.ref D) env).onRaise _) _ _ s
  refine wpAny_noted ?_
  rw [turnB]
  refine wpAny_bind (wpAny_standAt (wpAny_bind (wpAny_mono (turn n s hI) (fun r s1 h1 => ?_) fun _ _ z => z)))
  cases r with
  | none => exact wpAny_pure h1
  | some v =>
    refine wpAny_bind (wpAny_mono h1 (fun _ s2 h2 => wpAny_bind (wpAny_mono h2 (fun _ s3 h3 => wpAny_bind (wpAny_mono h3 (fun ok s4 h4 => ?_) fun _ _ z => z)) fun _ _ z => z)) fun _ _ z => z)
    cases ok with
    | false => exact wpAny_pure ⟨rfl, h4⟩
    | true =>
      exact wpAny_bind (wpAny_bind (wpAny_mono h4 (fun k s5 h5 => wpAny_bind (wpAny_holding (wpAny_mono h5 (fun u s6 h6 => wpAny_bind (wpAny_standAt (wpAny_holding (wpAny_mono h6 (fun _ s7 h7 => wpAny_pure ⟨rfl, h7⟩) fun _ _ z => z)))) fun _ _ z => z))) fun _ _ z => z))
theorem loopA (hs : ∀ x, foldedSetIterable ib env x = pure x) (I : Nat → Shared → Prop)
    (turn : ∀ n s, I n s → Turn prog w A env R ta fa it
      (fun s4 => wpAny (model prog w) A (eval ib env) (fun x s5 => wpAny (model prog w) A (pyIter x) (fun jt s6 =>
        codeAny (model prog w) A (.compStart (dc2 kx vx ta ia tb ib fa fb sc p) 1 jt (.ref D) env) (fun r t => match r with
          | .ok _ => ∃ m, m < n ∧ I m t
          | .error _ => False) s6) (Out prog w A env R) s5) (Out prog w A env R) s4)
      (fun s4 => ∃ m, m < n ∧ I m s4) s)
    (n : Nat) (h : I n s) : codeAny (model prog w) A (.compLoop (dc2 kx vx ta ia tb ib fa fb sc p) 0 it (.ref D) env) R s := by
  refine codeAny_loop rfl I (fun n s hI => ?_) n h
  show wpAny _ A ((compTurn (dc2 kx vx ta ia tb ib fa fb sc p) 0 it (.ref D) env).onRaise _) _ _ s
  refine wpAny_noted ?_
  rw [turnA]
  refine wpAny_bind (wpAny_standAt (wpAny_bind (wpAny_mono (turn n s hI) (fun r s1 h1 => ?_) fun _ _ z => z)))
  cases r with
  | none => exact wpAny_pure h1
  | some v =>
    refine wpAny_bind (wpAny_mono h1 (fun _ s2 h2 => wpAny_bind (wpAny_mono h2 (fun _ s3 h3 => wpAny_bind (wpAny_mono h3 (fun ok s4 h4 => ?_) fun _ _ z => z)) fun _ _ z => z)) fun _ _ z => z)
    cases ok with
    | false => exact wpAny_pure ⟨rfl, h4⟩
    | true =>
      refine wpAny_bind (wpAny_mono h4 (fun x s5 h5 => wpAny_bind (wpAny_standAt (wpAny_bind (wpAny_of_eq (hs x) (wpAny_bind (wpAny_holding (wpAny_mono h5 (fun jt s6 h6 => wpAny_bind (wpAny_runOwn ?_)) fun _ _ z => z))))))) fun _ _ z => z)
      rw [Around.mark_none]
      refine codeAny_mono h6 fun r t hr => ?_
      cases r with
      | error e => exact hr.elim
      | ok f =>
        first
          | exact wpAny_pure ⟨rfl, hr⟩
          | exact wpAny_bind (wpAny_pure (wpAny_pure ⟨rfl, hr⟩))
/-- the second clause's start -/
theorem startB (h0 : codeAny (model prog w) A (.compLoop (dc2 kx vx ta ia tb ib fa fb sc p) 1 it (.ref D) env) R s)
    (h : wpAny (model prog w) A (pyIter it) (fun jt t => codeAny (model prog w) A (.compLoop (dc2 kx vx ta ia tb ib fa fb sc p) 1 jt (.ref D) env) R t) (Out prog w A env R) s) :
    codeAny (model prog w) A (.compStart (dc2 kx vx ta ia tb ib fa fb sc p) 1 it (.ref D) env) R s := by
  refine codeAny_of_tree ?_
  show wpAny _ _ ((compStart (dc2 kx vx ta ia tb ib fa fb sc p) 1 it (.ref D) env).onRaise _) _ _ s
  refine wpAny_notedAt ?_
  unfold compStart
  show wpAny _ _ (ask >>= _) _ _ s
  refine wpAny_bind (wpAny_askSetting (wpAny_ite ?_))
  split
  · first
      | exact wpAny_pure ⟨rfl, h0⟩
      | exact wpAny_bind (wpAny_pure (wpAny_pure ⟨rfl, h0⟩))
  · refine wpAny_bind (wpAny_rule ?_)
    first
      | exact wpAny_bind (wpAny_standAt (wpAny_bind (wpAny_mono h (fun jt t q => wpAny_pure ⟨rfl, q⟩) fun _ _ z => z)))
      | (show wpAny _ _ (standAt ib.pos >>= _) _ _ s; exact wpAny_bind (wpAny_standAt (wpAny_bind (wpAny_mono h (fun jt t q => wpAny_pure ⟨rfl, q⟩) fun _ _ z => z))))
end
end Ev

set_option Elab.async false
set_option linter.all false
set_option maxRecDepth 100000
namespace Ev
open PySem PySem.Spec PyProof.Rows L2
theorem clause_turn {B : Cx} (hc : B.calm = true) {pins : List (Addr × Obj)} {σ0 : L2.St} {H : Hp} {s : Shared} {it : Addr} {fp : List Addr} {tn : Nat → Heap → Prop} {J : It} {tg : Expr} {ifs : List Expr} {g : TG} {tt : TT} {i : Nat} {R : Result → Shared → Prop} {go skip : Shared → Prop}
    (I : Inv B pins σ0 H s) (T : L2.Turn B.prog B.w B.K tg J fp it tn) (st : tn i s.heap) (f : ∀ b ∈ fp, FpOk B pins H b) (pg : PG B tg g) (pt : PTs B ifs tt) (hx : ∀ e s', B.xe e s' → False)
    (C : L2.St → Prop) (Z : L2.St → Bool → Hp → Prop)
    (h : (J.stop i H ∧ ∀ s', Inv B pins σ0 H s' → R (.ok .next) s') ∨ (J.go i H ∧ ∀ x H', J.yld i H x H' → g x σ0 H' fun σ2 H2 => C σ2 ∧ tt σ2 H2 fun b H3 => Z σ2 b H3))
    (next : ∀ (b : Bool) (pl : List (Addr × Obj)) (σ2 : L2.St) (H3 : Hp) (s3 : Shared), Inv B (pins ++ pl) σ2 H3 s3 →
      (∀ (σ' : L2.St) (H' : Hp) (s' : Shared), Inv B (pins ++ pl) σ' H' s' → tn (i + 1) s'.heap ∧ ∀ b ∈ fp, H' b = none) → C σ2 → Z σ2 b H3 → if b = true then go s3 else skip s3) :
    Ev.Turn B.prog B.w B.A B.env R tg ifs (.ref it) go skip s := by
  unfold Ev.Turn
  rcases h with ⟨stop, hR⟩ | ⟨hgo, step⟩
  · refine thnF (T.done B rfl rfl rfl hc i pins s σ0 H (fun _ _ => False) I f st stop) fun r s1 ⟨hr, I1⟩ => ?_
    subst hr
    exact hR s1 I1
  · refine thnF (T.item B rfl rfl rfl hc i pins s σ0 H (fun _ _ => False) I f st hgo) fun r s1 ⟨u, hr, h1⟩ => ?_
    subst hr
    refine thnF h1 fun _ s2 ⟨x, H2, I2, rx, y, st2, n2⟩ => ?_
    have f2 : ∀ b ∈ fp, FpOk B pins H2 b := fun b hb => ⟨n2 b hb, (f b hb).2⟩
    have P2 := I2.pinned f2 (T.obj _ _ st2)
    refine wpAny_mono (pg.run _ s2 σ0 H2 x u _ P2 rx (step x H2 y)) (fun _ s3 q3 => ?_) fun e s' z => (hx e s' z).elim
    obtain ⟨σ2, H3, I3, c3, q3⟩ := q3
    refine wpAny_mono (pt.run _ s3 σ2 H3 _ I3 q3) (fun b s4 q4 => ?_) fun e s' z => (hx e s' z).elim
    obtain ⟨H4, I4, q4⟩ := q4
    refine next b _ σ2 H4 s4 I4 (fun σ' H' s' I' => ?_) c3 q4
    have at_ : ∀ b ∈ fp, ∀ o, s2.heap.get? b = some o → s'.heap.get? b = some o ∧ H' b = none := fun b hb o e =>
      have z := I'.pin (b, o) (List.mem_append_right _ (List.mem_append_right _ (mem_pinsAt hb e)))
      ⟨z.1, z.2.1⟩
    refine ⟨T.keep _ _ _ st2 fun b hb o e => (at_ b hb o e).1, fun b hb => ?_⟩
    obtain ⟨o, e, _⟩ := T.obj _ _ st2 b hb
    exact (at_ b hb o e).2
end Ev

set_option Elab.async false
set_option linter.all false
set_option maxRecDepth 100000
namespace Ev
open PySem PySem.Spec PyProof.Rows L2
/-- one clause's own loop, from H0; step: one item's wish, from which Nx is reached; stop: what is left behind the last -/
def tClause (J : It) (H0 : Hp) (stop : Hp → Prop) (step : (Hp → Prop) → V → Hp → Prop) : Prop := ∃ W : Nat → Nat → Hp → Prop, (∃ m, W 0 m H0) ∧ ∀ i m H, W i m H →
  (J.stop i H ∧ stop H) ∨ (J.go i H ∧ ∃ Nx : Hp → Prop, (∀ H', Nx H' → ∃ m', m' < m ∧ W (i + 1) m' H') ∧ ∀ x H', J.yld i H x H' → step Nx x H')
/-- the second clause's step: D takes the pair -/
def stepB (g : TG) (tt : TT) (tk tv : TE) (σ : L2.St) (vs : List Nat) (D : Addr) (Nx : Hp → Prop) (x : V) (H : Hp) : Prop := g x (wipe σ vs) H fun σ2 H2 => wipe σ2 vs = wipe σ vs ∧ tt σ2 H2 fun b H3 =>
  if b = true then tk σ2 H3 fun y H4 => tv σ2 H4 fun z H5 => ∃ kvs k, y = kV k ∧ H5 D = some (.dK kvs) ∧ kvs.length < sizeLine ∧ Nx (upd H5 D (.dK (putK kvs k z))) else Nx H3
theorem second {B : Cx} (hc : B.calm = true) (hx : ∀ e s', B.xe e s' → False) {pins : List (Addr × Obj)} {σ : L2.St} {H : Hp} {s : Shared} {it D : Addr} {fp : List Addr} {tn : Nat → Heap → Prop} {J : It} {kx vx ta ia tb ib : Expr} {fa fb : List Expr} {sc : Scope} {p : Pos} {g : TG} {tt : TT} {tk tv : TE} {vs : List Nat}
    {R : Result → Shared → Prop} {stop : Hp → Prop}
    (I : Inv B pins σ H s) (T : L2.Turn B.prog B.w B.K tb J fp it tn) (st : tn 0 s.heap) (f : ∀ b ∈ fp, FpOk B pins H b) (pg : PG B tb g) (pt : PTs B fb tt) (pk : PE B kx tk) (pv : PE B vx tv)
    (hR : ∀ H' s', Inv B pins (wipe σ vs) H' s' → stop H' → R (.ok .next) s')
    (h : tClause J H stop (stepB g tt tk tv σ vs D)) :
    codeAny (model B.prog B.w) B.A (.compStart (dc2 kx vx ta ia tb ib fa fb sc p) 1 (.ref it) (.ref D) B.env) R s := by
  obtain ⟨W, ⟨m0, w0⟩, turn⟩ := h
  have loop : codeAny (model B.prog B.w) B.A (.compLoop (dc2 kx vx ta ia tb ib fa fb sc p) 1 (.ref it) (.ref D) B.env) R s := by
    refine loopB (fun m s' => ∃ i H', Inv B pins (wipe σ vs) H' s' ∧ tn i s'.heap ∧ (∀ b ∈ fp, H' b = none) ∧ W i m H') ?_ m0 ⟨0, H, I.weak (wipe_length _ _) (fun j v e => (wipe_some e).1), st, fun b hb => (f b hb).1, w0⟩
    rintro m s1 ⟨i, H1, I1, st1, n1, w1⟩
    have f1 : ∀ b ∈ fp, FpOk B pins H1 b := fun b hb => ⟨n1 b hb, (f b hb).2⟩
    rcases turn i m H1 w1 with ⟨hs, hq⟩ | ⟨hg, Nx, hNx, step⟩
    · exact clause_turn hc I1 T st1 f1 pg pt hx (fun _ => True) (fun _ _ _ => False) (.inl ⟨hs, fun s' I' => hR H1 s' I' hq⟩) fun _ _ _ _ _ _ _ _ z => z.elim
    · refine clause_turn hc I1 T st1 f1 pg pt hx (fun σ2 => wipe σ2 vs = wipe σ vs) (fun σ2 b H3 => if b = true then tk σ2 H3 fun y H4 => tv σ2 H4 fun z H5 => ∃ kvs k, y = kV k ∧ H5 D = some (.dK kvs) ∧ kvs.length < sizeLine ∧ Nx (upd H5 D (.dK (putK kvs k z))) else Nx H3)
        (.inr ⟨hg, fun x H' y => step x H' y⟩) fun b pl σ2 H3 s3 I3 back hw z => ?_
      · have fin : ∀ (H' : Hp) (s' : Shared), Inv B (pins ++ pl) σ2 H' s' → Nx H' → ∃ m', m' < m ∧ ∃ i H', Inv B pins (wipe σ vs) H' s' ∧ tn i s'.heap ∧ (∀ b ∈ fp, H' b = none) ∧ W i m' H' := fun H' s' I' nx => by
          obtain ⟨m', hm, w'⟩ := hNx H' nx
          obtain ⟨a, b⟩ := back σ2 H' s' I'
          exact ⟨m', hm, i + 1, H', I'.unpinned.weak (by rw [← hw, wipe_length]) (fun j v e => by rw [← hw] at e; exact (wipe_some e).1), a, b, w'⟩
        cases b with
        | false => exact fin H3 s3 I3 z
        | true =>
          refine wpAny_mono (pk.run _ s3 σ2 H3 _ I3 z) (fun u s4 q4 => ?_) fun e s' z => (hx e s' z).elim
          obtain ⟨y, H4, I4, r4, q4⟩ := q4
          refine wpAny_mono (pv.run _ s4 σ2 H4 _ I4 q4) (fun u2 s5 q5 => ?_) fun e s' z => (hx e s' z).elim
          obtain ⟨y2, H5, I5, r5, kvs, k, ek, hD, hz, nx⟩ := q5
          subst ek
          exact d_dictSet I5 hD hz r4 r5 fun s6 I6 => fin _ s6 I6 nx
  exact startB loop (T.self B.A 0 s _ _ st loop)
end Ev

set_option Elab.async false
set_option linter.all false
set_option maxRecDepth 100000
namespace Ev
open PySem PySem.Spec PyProof.Rows L2
/-- the first clause's step -/
def stepA (g : TG) (tt : TT) (wj : TI) (gj : TG) (tj : TT) (tk tv : TE) (σ : L2.St) (vs vj : List Nat) (D : Addr) (Nx : Hp → Prop) (x : V) (H : Hp) : Prop := g x (wipe σ vs) H fun σ2 H2 => wipe σ2 vs = wipe σ vs ∧ tt σ2 H2 fun b H3 =>
  if b = true then wj σ2 H3 fun J H4 => tClause J H4 Nx (stepB gj tj tk tv σ2 vj D) else Nx H3
theorem first_ {B : Cx} (hc : B.calm = true) (hx : ∀ e s', B.xe e s' → False) {σ : L2.St} {H : Hp} {s : Shared} {it D : Addr} {fp : List Addr} {tn : Nat → Heap → Prop} {J : It} {kx vx ta ia tb ib : Expr} {fa fb : List Expr} {sc : Scope} {p : Pos} {g gj : TG} {tt tj : TT} {wj : TI} {tk tv : TE} {vs vj : List Nat}
    {R : Result → Shared → Prop} {stop : Hp → Prop} (hv : ∀ i ∈ vj, i ∈ vs) (hs1 : ∀ x, foldedSetIterable ib B.env x = pure x)
    (I : Inv B [] (wipe σ vs) H s) (T : L2.Turn B.prog B.w B.K ta J fp it tn) (st : tn 0 s.heap) (f : ∀ H', (∀ b ∈ fp, H' b = none) → ∀ b ∈ fp, FpOk B [] H' b) (f0 : ∀ b ∈ fp, H b = none) (pg : PG B ta g) (pt : PTs B fa tt) (pi : PI B tb ib wj) (pgj : PG B tb gj) (ptj : PTs B fb tj) (pk : PE B kx tk) (pv : PE B vx tv)
    (hR : ∀ H' s', Inv B [] (wipe σ vs) H' s' → stop H' → R (.ok .next) s')
    (h : tClause J H stop (stepA g tt wj gj tj tk tv σ vs vj D)) :
    codeAny (model B.prog B.w) B.A (.compLoop (dc2 kx vx ta ia tb ib fa fb sc p) 0 (.ref it) (.ref D) B.env) R s := by
  obtain ⟨W, ⟨m0, w0⟩, turn⟩ := h
  refine loopA hs1 (fun m s' => ∃ i H', Inv B [] (wipe σ vs) H' s' ∧ tn i s'.heap ∧ (∀ b ∈ fp, H' b = none) ∧ W i m H') ?_ m0 ⟨0, H, I, st, f0, w0⟩
  rintro m s1 ⟨i, H1, I1, st1, n1, w1⟩
  rcases turn i m H1 w1 with ⟨hs, hq⟩ | ⟨hg, Nx, hNx, step⟩
  · exact clause_turn hc I1 T st1 (f H1 n1) pg pt hx (fun _ => True) (fun _ _ _ => False) (.inl ⟨hs, fun s' I' => hR H1 s' I' hq⟩) fun _ _ _ _ _ _ _ _ z => z.elim
  · refine clause_turn hc I1 T st1 (f H1 n1) pg pt hx (fun σ2 => wipe σ2 vs = wipe σ vs) (fun σ2 b H3 => if b = true then wj σ2 H3 fun J H4 => tClause J H4 Nx (stepB gj tj tk tv σ2 vj D) else Nx H3)
      (.inr ⟨hg, fun x H' y => step x H' y⟩) fun b pl σ2 H3 s3 I3 back hw z => ?_
    have fin : ∀ (σ' : L2.St) (H' : Hp) (s' : Shared), Inv B ([] ++ pl) σ' H' s' → (wipe σ vs).length = σ'.length → (∀ (j : Nat) v, (wipe σ vs)[j]? = some (some v) → σ'[j]? = some (some v)) → Nx H' →
        ∃ m', m' < m ∧ ∃ i H', Inv B [] (wipe σ vs) H' s' ∧ tn i s'.heap ∧ (∀ b ∈ fp, H' b = none) ∧ W i m' H' := fun σ' H' s' I' hl hk nx => by
      obtain ⟨m', hm, w'⟩ := hNx H' nx
      obtain ⟨a, b⟩ := back σ' H' s' I'
      exact ⟨m', hm, i + 1, H', (I'.unpinned (pins := [])).weak hl hk, a, b, w'⟩
    have hl2 : (wipe σ vs).length = σ2.length := by rw [← hw, wipe_length]
    cases b with
    | false => exact fin σ2 H3 s3 I3 hl2 (fun j v e => by rw [← hw] at e; exact (wipe_some e).1) z
    | true =>
      refine wpAny_mono (pi.run _ s3 σ2 H3 _ I3 z) (fun x s4 q4 => ?_) fun e s' z => (hx e s' z).elim
      refine wpAny_mono q4 (fun jt s5 q5 => ?_) fun e s' z => (hx e s' z).elim
      obtain ⟨jt', fj, tj', Jj, H5, e5, I5, Tj, stj, fj5, q5⟩ := q5
      subst e5
      refine second hc hx I5 Tj stj fj5 pgj ptj pk pv (fun H' s' I' nx => ?_) q5
      refine fin (wipe σ2 vj) H' s' I' (hl2.trans (wipe_length _ _).symm) (fun j v e => ?_) nx
      rw [← hw] at e
      obtain ⟨e1, e2⟩ := wipe_some e
      rw [wipe_out fun z => e2 (hv j z)]
      exact e1
end Ev

set_option Elab.async false
set_option linter.all false
set_option maxRecDepth 100000
namespace Ev
open PySem PySem.Spec PyProof.Rows L2
def tDc2 (wi : TI) (g : TG) (tt : TT) (wj : TI) (gj : TG) (tj : TT) (tk tv : TE) (vs vj : List Nat) : TE := fun σ H Q => wi σ H fun J H1 => ∀ D, H1 D = none → tClause J (upd H1 D (.dK [])) (fun H' => Q (.ref D) H') (stepA g tt wj gj tj tk tv σ vs vj D)
/-- what holds in every block of this comprehension -/
abbrev InBlk (X : Cx) (scope : Scope) (F : Cx → Prop) : Prop := ∀ (s : Shared) (H : Hp) (C : Addr) (cl : List (Str × Addr)) (fp : List Addr), F (X.blk s H scope (compEnvC scope cl C X.env) fp)
theorem pe_dc2 {X : Cx} {kx vx ta ia tb ib : Expr} {fa fb : List Expr} {sc : Scope} {p : Pos} {own : List (Str × Nat)} {vj : List Nat} {wi wj : TI} {g gj : TG} {tt tj : TT} {tk tv : TE} (hc : X.calm = true) (hN : X.N.Nodup) (hi : PI X ta ia wi) (ok : BlkOk X.N X.env.scope sc own) (hv : ∀ i ∈ vj, i ∈ own.map (·.2))
    (hg : InBlk X sc fun B => PG B ta g) (ht : InBlk X sc fun B => PTs B fa tt) (hj : InBlk X sc fun B => PI B tb ib wj) (hgj : InBlk X sc fun B => PG B tb gj) (htj : InBlk X sc fun B => PTs B fb tj) (hk : InBlk X sc fun B => PE B kx tk) (he : InBlk X sc fun B => PE B vx tv)
    (hs : ∀ x, foldedSetIterable ia X.env x = pure x := by intro _; rfl) (hs1 : ∀ env x, foldedSetIterable ib env x = pure x := by intro _ _; rfl) :
    PE X (dc2 kx vx ta ia tb ib fa fb sc p) (tDc2 wi g tt wj gj tj tk tv (own.map (·.2)) vj) := by
  refine ⟨fun pins s σ H Q I h => ?_⟩
  rw [arm_eval_DictComp]
  have hfree : ∀ y ∈ sc.names, y.2 = .free → ∃ c, X.env.cells.lookup y.1 = some c := fun y hy e =>
    (ok.free y hy e).elim (fun k => I.ok.has _ (.inl k)) fun k => I.ok.has _ (.inr k)
  refine wpAny_comprehension_free rfl hs (closure_ok hfree) ok.kind (fun y hy e => by rw [ok.uniq y hy, e]) (thn (hi.run pins s σ H _ I h) fun xv s1 hx => thn hx fun itv s2 h2 => ?_)
  obtain ⟨it, fp, tn, J, H2, e, I2, T, st2, f2, q⟩ := h2
  subst e
  refine wpAny_newObj_type (newEnv_comp ?_)
  generalize hD : s2.heap.objs.size = D
  have hDn : H2 D = none := I2.hok.fresh (Nat.le_of_eq hD)
  have tl := q D hDn
  generalize hs3 : ({ s2 with heap := s2.heap.push { cls := .type "dict", data := .dict #[] } } : Shared) = s3
  have h3 : s3.heap = s2.heap.push { cls := .type "dict", data := .dict #[] } := by rw [← hs3]
  have I3 : Inv X pins σ (upd H2 D (.dK [])) s3 := by
    rw [← hs3]
    exact I2.laid (t' := s2.toks) (fun b o e => Heap.get?_push_of_some _ e) (Nat.le_of_eq hD) (by rw [← hD]; exact dk_empty s2.heap I2.big)
  have f3 : ∀ b ∈ fp, FpOk X pins (upd H2 D (.dK [])) b ∧ b < s3.heap.objs.size := fun b hb => by
    obtain ⟨o, eb, _⟩ := T.obj _ _ st2 b hb
    have hlt := Heap.lt_size eb
    refine ⟨⟨?_, (f2 b hb).2⟩, by rw [h3, Heap.size_push]; exact Nat.lt_succ_of_lt hlt⟩
    rw [upd_ne (by rw [← hD]; exact Nat.ne_of_lt hlt)]
    exact (f2 b hb).1
  have I4 := block_start I3 ok hN f3
  have nfp : ∀ b ∈ fp, (upd H2 D (.dK [])) b = none := fun b hb => (f3 b hb).1.1
  have st3 : tn 0 s3.heap := T.keep _ _ _ st2 fun b _ o e => by rw [h3]; exact Heap.get?_push_of_some _ e
  generalize hH3 : upd H2 D (.dK []) = H3 at I3 I4 nfp f3 tl
  have st4 : tn 0 (pushCells (s3.heap.push { cls := .type "dict", data := .dict #[] }) sc.names) := T.keep _ _ _ st3 fun b _ o e => pushCells_keeps _ _ _ _ (Heap.get?_push_of_some _ e)
  refine codeAny_compStart_dict (?loop) (T.self X.A 0 _ _ _ st4 ?loop)
  refine first_ (B := X.blk s3 H3 sc _ fp) hc (fun _ _ z => z) hv (hs1 _) I4 T st4 (fun H' hn b hb => ⟨hn b hb, (I4.ok.exf b hb).1, I4.ok.exfs b hb, .inl hb, fun x c e => (I4.ok.exf b hb).2 x c e, fun p hp => absurd (show p ∈ ([] : List (Addr × Obj)) ++ [] from hp) (by simp)⟩) nfp
    (hg _ _ _ _ _) (ht _ _ _ _ _) (hj _ _ _ _ _) (hgj _ _ _ _ _) (htj _ _ _ _ _) (hk _ _ _ _ _) (he _ _ _ _ _) (fun H' s6 I6 qq => ?_) tl
  have I7 : Inv X pins σ H' s6 := I3.call' (ch := fp) I6.os I6.base I6.hok I6.bare fun b hb => ⟨(f3 b hb).1.2.2.2.1, (f3 b hb).1.2.1, (f3 b hb).1.2.2.2.2.1, (f3 b hb).1.2.2.2.2.2⟩
  have nC : H' s3.heap.objs.size = none := I6.free
  obtain ⟨m, hn, _⟩ := I6.loc
  obtain ⟨z0, z1, z2, z3, z4, z5⟩ := I3.fpOk (H' := H') (Nat.le_refl _) nC
  exact ⟨m, hn, fun h'' sb => ⟨.ref D, H', I7.turned (t' := s6.toks) (fun b o hb e => (sb.2 b hb).trans e) z0 z1 z3 z4 z5, rfl, qq⟩⟩
end Ev

set_option Elab.async false
set_option linter.all false
set_option maxRecDepth 100000
set_option maxHeartbeats 2000000
namespace Ev
open PySem PySem.Spec PyProof.Rows L2
section
variable {X : Cx} {T : Tab} {W : WX}
def fPart (_ : Sto) (v w : Val) : Option Val := match v, w with
  | .str a, .str b => if b.length ≠ 0 ∧ a.length ≤ sizeLine then some (.tup [.str (Txt.partition a b).1, .str (Txt.partition a b).2.1, .str (Txt.partition a b).2.2]) else none
  | _, _ => none
def rPart : V → List V → Hp → VK → Prop := fun x xs H Q => ∃ a b, x = .str a ∧ xs = [.str b] ∧ (b.length == 0) = false ∧ a.length ≤ sizeLine ∧
    ∀ p, H p = none → Q (.ref p) (upd H p (.tup [.str (Txt.partition a b).1, .str (Txt.partition a b).2.1, .str (Txt.partition a b).2.2]))
theorem snd_part : SndB1 T rPart fPart := by
  intro φ st H v w z x y Q R r1 r2 hf hq
  unfold fPart at hf
  split at hf
  · split at hf
    · rename_i hz
      cases hf
      cases r1
      cases r2
      refine ⟨_, _, rfl, rfl, by simpa using hz.1, hz.2, fun p hp => ?_⟩
      exact hq _ _ (Ext.fresh R hp) (R.fresh hp) (.tup upd_same (.cons (.str _) (.cons (.str _) (.cons (.str _) .nil))))
    · cases hf
  · cases hf
theorem e_part {o e : Expr} {eo ee : E} {apos pos : Pos} (ho : PE X o (tE T W eo)) (he : PE X e (tE T W ee)) (hse : starEach [e] X.env = [(false, eval e X.env)] := by rfl)
    (hbase : attributeBase o "partition" X.env (eval o X.env) = eval o X.env := by rfl) (hline : (apos.endLine == pos.line) = true := by rfl) : PE X (.Call (.Attribute o "partition" apos) [e] [] pos) (tE T W (eM1 fPart eo ee)) :=
  e_m1 F.slot_str_partition F.type_str_partition (mt_partition (X := X)) snd_part ho he hse hbase hline
/-- d.get(k, x) -/
def isDV (st : Sto) : Val → Bool
  | .loc n => match st[n]? with
    | some (.dK _) => true
    | some (.dT _) => true
    | some (.lkK _) => true
    | some (.lkT _) => true
    | _ => false
  | .dct _ _ => true
  | _ => false
def eGet2 (o k x : E) : E := fun ρ st => bindR (o ρ st) fun v st1 => if isDV st1 v = true then bindR (k ρ st1) fun w st2 => bindR (x ρ st2) fun z st3 => match dGet st3 v w with
  | some (some y) => .ok y st3
  | some none => .ok z st3
  | none => .bad else .bad
theorem e_get2 {o e f : Expr} {eo ee ef : E} {apos cpos : Pos} (hu : X.A.units + 1 < cLine) (ho : PE X o (tE T W eo)) (he : PE X e (tE T W ee)) (hf : PE X f (tE T W ef)) (m : M2 X o "get" apos e f cpos) :
    PE X (.Call (.Attribute o "get" apos) [e, f] [] cpos) (tE T W (eGet2 eo ee ef)) := by
  refine pe_imp (pe_dget2 hu ho he hf m) fun σ H Q h => ?_
  refine tG_bind h fun v ρ st1 φ1 H1 u re1 q1 p1 => ?_
  split at p1
  · rename_i hd
    obtain ⟨a, rfl, hD⟩ : ∃ a, u = .ref a ∧ IsD H1 a := by
      cases q1 with
      | @loc n u hn hu2 =>
        unfold isDV at hd
        dsimp only at hd
        split at hd
        · rename_i q
          obtain ⟨a, e1, us, e2, e3⟩ := re1.rst.at q (by simp)
          exact ⟨a, hu2 a e1, .inl ⟨_, .inl e2⟩⟩
        · rename_i q
          obtain ⟨a, e1, us, e2, e3⟩ := re1.rst.at q (by simp)
          exact ⟨a, hu2 a e1, .inr ⟨_, .inl e2⟩⟩
        · rename_i q
          obtain ⟨a, e1, ob, us, e2, e3⟩ := re1.rst.at q (by simp)
          exact ⟨a, hu2 a e1, .inl ⟨_, .inr ⟨ob, e2⟩⟩⟩
        · rename_i q
          obtain ⟨a, e1, ob, us, e2, e3⟩ := re1.rst.at q (by simp)
          exact ⟨a, hu2 a e1, .inr ⟨_, .inr ⟨ob, e2⟩⟩⟩
        · cases hd
      | dct h1 h2 h3 h4 => exact ⟨_, rfl, .inl ⟨_, h2⟩⟩
      | _ => cases hd
    refine ⟨a, rfl, hD, φ1, ρ, st1, re1, post_bind p1 fun w st2 φ2 H2 y _ e2 s2 q2 p2 => ?_⟩
    refine ⟨φ2, ρ, st2, re1.ext e2 s2, post_bind p2 fun z st3 φ3 H3 uz _ e3 s3 q3 p3 => ?_⟩
    have r1 := (q1.ext e2).ext e3
    have r2 := q2.ext e3
    cases hg : dGet st3 v w with
    | none => rw [hg] at p3; exact p3.elim
    | some oo =>
      obtain ⟨b, rr, hb, hD3, hz⟩ := rel_dget s3 r1 r2 hg
      cases hb
      refine ⟨rr, hD3, ?_⟩
      rw [hg] at p3
      rcases hz with ⟨rfl, rfl⟩ | ⟨y', u', rfl, rfl, ry⟩
      · exact p3.ok_self s3 q3
      · exact p3.ok_self s3 ry
  · exact p1.elim
end
end Ev

set_option Elab.async false
set_option linter.all false
set_option maxRecDepth 100000
set_option maxHeartbeats 2000000
namespace Ev
open PySem PySem.Spec PyProof.Rows L2
section
variable {M : Model} {K : PySem.W.Frag}
theorem for_each {A : Around} {E : Value → Shared → Prop} {s : Shared} {body : Value → PUnit → Sem (ForInStep PUnit)} {Q : PUnit → Shared → Prop} : ∀ {cs : List Value},
    (∀ c, c ∈ cs → ∀ R : ForInStep PUnit → Shared → Prop, R (.yield ⟨⟩) s → wpAny M A (body c ⟨⟩) R E s) → Q ⟨⟩ s → wpAny M A (forIn cs PUnit.unit body) Q E s
  | [], _, q => by
    rw [List.forIn_nil]
    exact wpAny_pure q
  | c :: cs, h, q => by
    rw [List.forIn_cons]
    exact wpAny_bind (h c List.mem_cons_self _ (for_each (cs := cs) (fun d hd => h d (List.mem_cons_of_mem _ hd)) q))
theorem for_any {A : Around} {E : Value → Shared → Prop} {s : Shared} {f : Value → Bool} {body : Value → Option Bool × PUnit → Sem (ForInStep (Option Bool × PUnit))} {Q : Option Bool × PUnit → Shared → Prop} : ∀ {cs : List Value},
    (∀ c, c ∈ cs → ∀ R : ForInStep (Option Bool × PUnit) → Shared → Prop, R (if f c = true then .done (some true, ⟨⟩) else .yield (none, ⟨⟩)) s → wpAny M A (body c (none, ⟨⟩)) R E s) →
    Q (if cs.any f = true then (some true, ⟨⟩) else (none, ⟨⟩)) s → wpAny M A (forIn cs (none, PUnit.unit) body) Q E s
  | [], _, q => by
    rw [List.forIn_nil]
    exact wpAny_pure q
  | c :: cs, h, q => by
    rw [List.forIn_cons]
    refine wpAny_bind (h c List.mem_cons_self _ ?_)
    cases hc : f c with
    | true =>
      rw [List.any_cons, hc] at q
      exact wpAny_pure q
    | false =>
      rw [List.any_cons, hc, Bool.false_or] at q
      exact for_any (cs := cs) (fun d hd => h d (List.mem_cons_of_mem _ hd)) q
/-- an exception against a tuple of classes, any number of them -/
theorem exm_tups {cls : Value} {tp e : Addr} {cs : List Value} {f : Value → Bool} {h : Heap} {n : Nat} (X : K.In h) (LT : PySem.W.Looks M h (typeOf (.ref e)) cls) (hp : h.get? tp = some { cls := .type "tuple", data := .seq cs.toArray n })
    (hx : ∀ c, c ∈ cs → PySem.W.exmOne K cls c = some (f c)) : PySem.W.Looks M h (excMatches (.ref e) (.ref tp)) (cs.any f) := by
  intro A Q E s k q
  have L0 : PySem.W.Looks M h (isInstance (.ref tp) (.type "tuple")) true := ((PySem.W.Looks.ld hp).andThen .now).andThen (PySem.W.Looks.of_pure isSubtype_tuple_tuple)
  have hp' := k _ _ hp
  unfold excMatches
  refine wpAny_bind ((L0.keeps k).here ?_)
  dsimp only
  rw [if_pos rfl]
  refine wpAny_bind (wpAny_seqItems hp' rfl ?_)
  refine wpAny_bind (wpAny_pure ?_)
  dsimp only [Option.getD_some, Option.getD]
  refine wpAny_bind (for_each (fun c hc R r => ?_) ?_)
  · obtain ⟨e1, _⟩ := PySem.W.exm_cls (M := M) X (hx c hc)
    refine wpAny_bind ((e1.keeps k).here ?_)
    exact wpAny_pure r
  · refine wpAny_bind ((LT.keeps k).here ?_)
    refine wpAny_bind (for_any (f := f) (fun c hc R r => ?_) ?_)
    · obtain ⟨_, e2⟩ := PySem.W.exm_cls (M := M) X (hx c hc)
      refine wpAny_bind ((e2.keeps k).here ?_)
      cases hf : f c with
      | true => rw [hf] at r; exact wpAny_pure r
      | false => rw [hf] at r; exact wpAny_pure r
    · cases ha : cs.any f with
      | true => rw [ha] at q; exact wpAny_pure q
      | false => rw [ha] at q; exact wpAny_pure q
end
section
variable {X : Cx} {pins : List (Addr × Obj)} {σ : L2.St} {H : Hp} {s : Shared}
/-- an object that stands untracked, younger than the frame's beginning, is tracked from now on -/
theorem track {a : Addr} {o : HO} {oe : Obj} {vs : Array Value} (I : Inv X pins σ H s) (na : H a = none) (hx : s.heap.get? a = some oe) (hd : oe.data = .fields vs) (h0 : X.s_0.heap.get? a = none) (nL : a ≠ X.env.locals)
    (nP : ∀ p, p ∈ X.pn ++ pins → p.1 ≠ a) (ok : ObjOk X.prog X.w (upd H a o) s.heap a o) : Inv X pins σ (upd H a o) s := by
  have off : ∀ {b : Addr} {u : HO}, H b = some u → b ≠ a := fun {b u} e z => by rw [z, na] at e; cases e
  refine ⟨I.ok, I.os, I.bare, ⟨I.base.keep, I.base.slot, fun b ob e n hb => ?_, I.base.there, fun b xs e => ?_, fun b ob u e => ?_, fun b ps e => ?_⟩, I.loc, I.cell, ?_, fun x c e => ?_, fun p hp => ?_, fun b u e => ?_, I.len⟩
  · have hba : b ≠ a := fun z => by rw [z, h0] at e; cases e
    rw [upd_ne hba]
    exact I.base.free b ob e n hb
  · have q := I.base.tups b xs e
    rw [upd_ne (off q)]
    exact q
  · have q := I.base.frzs b ob u e
    rw [upd_ne (off q)]
    exact q
  · obtain ⟨more, q⟩ := I.base.tbls b ps e
    exact ⟨more, by rw [upd_ne (off q)]; exact q⟩
  · rw [upd_ne (Ne.symm nL)]
    exact I.free
  · have hca : c ≠ a := fun z => by
      obtain ⟨v, oc, h1, h2⟩ := I.cell x c e
      rw [z, hx] at h1
      cases h1
      rw [hd] at h2
      cases h2
    rw [upd_ne hca]
    exact I.freeC x c e
  · obtain ⟨h1, h2, h3, h4, h5⟩ := I.pin p hp
    exact ⟨h1, by rw [upd_ne (nP p hp)]; exact h2, h3, h4, h5⟩
  · by_cases hb : b = a
    · subst hb
      rw [upd_same] at e
      cases e
      exact ok
    · rw [upd_ne hb] at e
      exact (I.hok b u e).stay (fun c v _ z => z) (fun c hc => by rw [upd_ne (off hc)]; exact hc) (fun c xs hc => by rw [upd_ne (off hc)]; exact hc)
/-- the object of a caught exception, as a thing that is held -/
theorem exv_ok {P : Program} {w : World} {H : Hp} {h : Heap} {C d a : Addr} {oe : Obj} {vs : Array Value} (hx : h.get? a = some oe) (hc : oe.cls = .ref C) (hd : oe.dict = some d) (hf : oe.data = .fields vs) : ObjOk P w H h a (exv C d a) := by
  refine ⟨⟨oe, vs, hx, hc, hd, hf⟩, ⟨oe, hx⟩, fun h1 h2 p k => ?_⟩
  obtain ⟨o, ws, q1, q2, q3, q4⟩ := p
  exact ⟨o, ws, k o q1, q2, q3, q4⟩
end
end Ev

set_option Elab.async false
set_option linter.all false
set_option maxRecDepth 100000
set_option maxHeartbeats 2000000
namespace Ev
open PySem PySem.Spec PyProof.Rows L2
theorem fly_more {base h h' : Heap} {l : List PySem.Env} {e : Addr} {Z : Obj → Prop} (x : HandSPX.FlyingZ base l e Z h) (k : ∀ b o, h.get? b = some o → h'.get? b = some o) : HandSPX.FlyingZ base l e Z h' := by
  obtain ⟨f1, f2, f3, oe, vs, T, oT, ts, h1, h2, h3, h4, h5, h6, h7, h8, h9⟩ := x
  exact ⟨fun b o q => k b o (f1 b o q), f2, Heap.FunFrames.of_keeps (fun b o q _ => ⟨o, k b o q, rfl⟩) f3, oe, vs, T, oT, ts, k _ _ h1, h2, h3, h4, h5, h6, k _ _ h7, h8, h9⟩
structure Cl where
  cs : List Value
  i : Nat
  j : Nat
/-- a clause's classes, asked of the exception at a -/
def TestOk (X : Cx) (t : Expr) (cs : List Value) : Prop := ∀ (a : Addr) (pn : List (Addr × Obj)) (σ : L2.St) (H : Hp) (s : Shared) (cls : Value) (f : Value → Bool) (Q : Bool → Shared → Prop) (E : Value → Shared → Prop), Inv (X.suite a pn) [] σ H s →
  PySem.W.Looks (model X.prog X.w) s.heap (typeOf (.ref a)) cls → (∀ c, c ∈ cs → PySem.W.exmOne X.K cls c = some (f c)) → (∀ h', (∀ b o, s.heap.get? b = some o → h'.get? b = some o) → Q (cs.any f) { s with heap := h' }) →
  wpAny (model X.prog X.w) (X.A.mark (some (.ref a))) (eval t X.env) (fun c s1 => wpAny (model X.prog X.w) (X.A.mark (some (.ref a))) (excMatches (.ref a) c) Q E s1) E s
/-- x = e, e the clause's own name -/
def tTake (i j : Nat) : TS := fun D σ H => ∃ v, σ[j]? = some (some v) ∧ D.nx (σ.set i (some v)) H
inductive ClsOk (X : Cx) : List ExceptHandler → List Cl → Prop
  | nil : ClsOk X [] []
  | cons {t : Expr} {n : Str} {st : Stmt} {pos : Pos} {c : Cl} {hds : List ExceptHandler} {l : List Cl} (ht : TestOk X t c.cs) (hj : X.N[c.j]? = some n) (hn : X.env.kindOf n = some .local)
      (hsu : ∀ (a : Addr) (pn : List (Addr × Obj)), PSs (X.suite a pn) [st] (tTake c.i c.j)) (r : ClsOk X hds l) : ClsOk X (.ExceptHandler (some t) (some n) [st] pos :: hds) (c :: l)
/-- what the clauses wish -/
def wCatch (K : PySem.W.Frag) (Wout : WX) (D : Ends) : List Cl → WX
  | [] => Wout
  | c :: r => fun cls d σ H => ∃ f : Value → Bool, (∀ x, x ∈ c.cs → PySem.W.exmOne K cls x = some (f x)) ∧
      (c.cs.any f = true → ∃ C dd, cls = .ref C ∧ d = some dd ∧ ∀ a, H a = none → D.nx (((σ.set c.j (some (.ref a))).set c.i (some (.ref a))).set c.j none) (upd H a (exv C dd a))) ∧ (c.cs.any f = false → wCatch K Wout D r cls d σ H)
section
variable {X : Cx} {pins : List (Addr × Obj)} {σ : L2.St} {H : Hp} {s : Shared}
theorem unpin {a : Addr} {oe : Obj} (I : Inv X ((a, oe) :: pins) σ H s) : Inv X pins σ H s :=
  ⟨I.ok, I.os, I.bare, I.base, I.loc, I.cell, I.free, I.freeC, fun p hp => I.pin p (by
    rcases List.mem_append.mp hp with h | h
    · exact List.mem_append_left _ h
    · exact List.mem_append_right _ (List.mem_cons_of_mem _ h)), I.hok, I.len⟩
theorem outSuite {a : Addr} {oe : Obj} (I : Inv (X.suite a ((a, oe) :: (X.pn ++ pins))) [] σ H s) (ok : X.Ok) : Inv X ((a, oe) :: pins) σ H s :=
  ⟨ok, I.os, I.bare, I.base, I.loc, I.cell, I.free, I.freeC, fun p hp => I.pin p (by
    show p ∈ ((a, oe) :: (X.pn ++ pins)) ++ []
    rw [List.append_nil]
    rcases List.mem_append.mp hp with h | h
    · exact List.mem_cons_of_mem _ (List.mem_append_left _ h)
    · rcases List.mem_cons.mp h with e | h
      · rw [e]; exact List.mem_cons_self
      · exact List.mem_cons_of_mem _ (List.mem_append_right _ h)), I.hok, I.len⟩
variable {body : List Stmt} {hd0 : ExceptHandler} {hds : List ExceptHandler} {l : List Cl} {pos : Pos} {tb : WX → TS} {Wout : WX}
theorem ps_catch (hs : X.stack = X.env :: X.outer) (hf : X.env.frame = some X.env.locals) (hex : X.ex = []) (hN : X.N.Nodup) (tk : Takes X Wout)
    (hb : ∀ (W : WX) (pn : List (Addr × Obj)) (xe : Value → Shared → Prop), Takes (X.tr pn xe) W → PassesOwn (model X.prog X.w) X.A X.env xe → PSs (X.tr pn xe) body (tb W))
    (hc : ClsOk X (hd0 :: hds) l) : PS X (.Try body (hd0 :: hds) [] [] pos) (fun D σ H => tb (wCatch X.K Wout D l) D σ H) := by
  refine ⟨fun pins s σ H D I h => ?_⟩
  have okX := I.ok
  have frames : X.A.frames = some (X.env :: X.outer) := okX.frames.trans (by rw [hs])
  refine wpAny_Try_except (wpAny_mono ((hb (wCatch X.K Wout D l) (X.pn ++ pins) _ (fun u t up => ?caught) PassesOwn.looking).run [] s σ H D (I.toTry _) h) (fun fl t ht => ?through) fun e t he => he)
  case through =>
    cases fl with
    | next => obtain ⟨σ1, H1, J, q⟩ := ht; exact wpAny_execs_nil ⟨σ1, H1, J.ofTry okX, q⟩
    | brk => obtain ⟨σ1, H1, J, q⟩ := ht; exact ⟨σ1, H1, J.ofTry okX, q⟩
    | cont => obtain ⟨σ1, H1, J, q⟩ := ht; exact ⟨σ1, H1, J.ofTry okX, q⟩
    | ret v => obtain ⟨y, σ1, H1, J, r, q⟩ := ht; exact ⟨y, σ1, H1, J.ofTry okX, r, q⟩
  case caught =>
    obtain ⟨a, B, sI, p1, σ1, H1, cls, d, rfl, J0, nb, up0, sky, na, os, ag, wish⟩ := up
    have J : Inv X pins σ1 H1 sI := J0.ofTry okX
    refine Sky.land Zc.steady frames hf (by rw [← hs]; exact sky) fun hL fly upL => ?_
    -- a is no frame of ours, and younger than our beginning
    have noFrame : a ∉ frs (X.env :: X.outer) := fun hm => by
      obtain ⟨oe, vs, q1, _, q3⟩ := fly.there
      obtain ⟨_, o', q4, nf⟩ := fly.2.2.1.mem hm
      rw [q1] at q4
      cases q4
      exact nf _ q3
    have young : sI.heap.get? a = none := by
      cases e : sI.heap.get? a with
      | none => rfl
      | some o =>
        have z := nb a o e (by show a ∉ frs X.stack; rw [hs]; exact noFrame)
        rw [fly.2.1] at z
        cases z
    have young0 : X.s_0.heap.get? a = none := by
      cases e : X.s_0.heap.get? a with
      | none => rfl
      | some o =>
        obtain ⟨o', z⟩ := J.base.there a o e (by rw [hex]; exact List.not_mem_nil)
        rw [young] at z
        cases z
    have notLoc : a ≠ X.env.locals := fun z => noFrame (List.mem_filterMap.mpr ⟨X.env, List.mem_cons_self, by rw [hf, z]⟩)
    have notFs : a ∉ X.fs := fun hm => by
      obtain ⟨v, hv, z⟩ := List.mem_filterMap.mp hm
      exact noFrame (List.mem_filterMap.mpr ⟨v, List.mem_cons_of_mem _ hv, z⟩)
    have notPin : ∀ p, p ∈ X.pn ++ pins → p.1 ≠ a := fun p hp z => by
      have e := (J.pin p hp).1
      rw [z, young] at e
      cases e
    -- clause by clause; the heap may grow by the tuples of classes
    have clauses : ∀ {hs2 : List ExceptHandler} {l2 : List Cl}, ClsOk X hs2 l2 → wCatch X.K Wout D l2 cls d σ1 H1 → ∀ h3 : Heap, HandSPX.FlyingZ B (X.env :: X.outer) a (Zc cls d) h3 → sI.heap.UpToSlots h3 →
        wpAny (model X.prog X.w) X.A (handleBy (.ref a) X.env hs2) (L2.SP X pins D) X.xe { t with heap := h3 } := by
      intro hs2 l2 hk
      induction hk with
      | nil =>
        intro w h3 fly3 up3
        refine wpAny_handleBy_nil ?_
        obtain ⟨_, _, _, oe, vs, T, oT, ts, q1, q2, q3, q4, _⟩ := id fly3
        unfold PySem.passOn
        refine wpAny_bind (wpAny_field q1 q3 q4 ?_)
        rw [if_neg (by simp)]
        have away : wpAny (model X.prog X.w) X.A (setFlight (.ref a) X.env.frame) (fun _ s4 => wpAny (model X.prog X.w) X.A (throw (.ref a) : Sem Flow) (L2.SP X pins D) X.xe s4) X.xe { t with heap := h3 } := by
          rw [hf]
          exact HandSPX.setFlight_upZ fly3 fun h4 held up4 => wpAny_throw (tk _ _ ⟨a, B, sI, pins, σ1, H1, cls, d, rfl, J, nb, up3.trans up4, .inr (.inr (by rw [hs]; exact held)), na, os, ag, w⟩)
        first
          | exact wpAny_bind (wpAny_pure (wpAny_bind away))
          | exact wpAny_bind away
      | @cons tx n st hp c hs3 l3 ht hj hn hsu r ih =>
        intro w h3 fly3 up3
        obtain ⟨f, hx, yes, no⟩ := w
        obtain ⟨oe3, vs3, e3, z3, d3⟩ := fly3.there
        have J3 : Inv X pins σ1 H1 { t with heap := h3 } := J.landed nb fly3.1 up3 os ag
        have cls3 : PySem.W.Looks (model X.prog X.w) h3 (typeOf (.ref a)) cls := fun A Q E s k q => wpAny_typeOf_ref (k _ _ e3) (by rw [z3.1]; exact q)
        refine wpAny_handleBy_cons (codeAny_handlers_test (ht a _ σ1 H1 _ cls f _ _ (J3.suite e3 d3 na notLoc notFs) cls3 hx fun h4 k4 => ?_)) (by intro q; cases q)
        have fly4 := fly_more fly3 k4
        have up4 : sI.heap.UpToSlots h4 := up3.trans (Heap.UpToSlots.of_keeps k4)
        cases hany : c.cs.any f with
        | false => exact ih (no hany) h4 fly4 up4
        | true =>
          obtain ⟨C, dd, rfl, rfl, go⟩ := yes hany
          refine codeAny_handlers_suite_as (HandSPX.lands_againZ fly4 fun h5 fly5 up5 => ?_)
          have J5 : Inv X pins σ1 H1 { t with heap := h5 } := J.landed nb fly5.1 (up4.trans up5) os ag
          obtain ⟨oe5, vs5, e5, z5, d5⟩ := fly5.there
          refine store_ok (X := X.suite a ((a, oe5) :: (X.pn ++ pins))) (v := .ref a) (J5.suite e5 d5 na notLoc notFs) hN hj (.inl hn) rfl (fun s6 J6 => ?_) (.inr hn)
          have slot : (σ1.set c.j (some (V.ref a)))[c.j]? = some (some (.ref a)) := List.getElem?_set_self (by rw [J5.len]; exact (List.getElem?_eq_some_iff.mp hj).1)
          refine wpAny_mono ((hsu a _).run [] s6 _ H1 { nx := fun σ' H' => σ' = (σ1.set c.j (some (.ref a))).set c.i (some (.ref a)) ∧ H' = H1, bk := fun _ _ => False, ct := fun _ _ => False, rt := fun _ _ => False } J6 ⟨_, slot, rfl, rfl⟩) (fun fl s7 h7 => ?_) (fun _ _ z => z.elim)
          have land : ∀ s8, Inv X ((a, oe5) :: pins) (((σ1.set c.j (some (.ref a))).set c.i (some (.ref a))).set c.j none) H1 s8 → L2.SP X pins D .next s8 := fun s8 J8 => by
            have e8 := (J8.pin (a, oe5) (List.mem_append_right _ List.mem_cons_self)).1
            exact ⟨_, _, track (unpin J8) na e8 d5 young0 notLoc notPin (exv_ok e8 z5.1 z5.2 d5), go a na⟩
          cases fl with
          | next =>
            obtain ⟨σ7, H7, J7, rfl, rfl⟩ := h7
            exact gone_ok (outSuite J7 okX) hN hj hn land
          | brk => obtain ⟨_, _, _, q⟩ := h7; exact q.elim
          | cont => obtain ⟨_, _, _, q⟩ := h7; exact q.elim
          | ret u => obtain ⟨_, _, _, _, _, q⟩ := h7; exact q.elim
    exact clauses hc wish hL fly (up0.trans upL)
end
end Ev

set_option Elab.async false
set_option linter.all false
set_option maxRecDepth 100000
set_option maxHeartbeats 2000000
namespace Ev
open PySem PySem.Spec PyProof.Rows L2
section
variable {X : Cx} {T : Tab} {W : WX}
theorem RelE.unset {φ : Phi} {ρ : Env} {st : Sto} {σ : L2.St} {H : Hp} (r : RelE T φ ρ st σ H) (i : Nat) : RelE T φ (ρ.set i none) st (σ.set i none) H where
  rst := r.rst
  len := by rw [List.length_set, List.length_set]; exact r.len
  get := fun k v h => by
    by_cases e : i = k
    · subst e
      by_cases hi : i < ρ.length
      · rw [List.getElem?_set_self hi] at h; cases h
      · rw [List.getElem?_eq_none (by rw [List.length_set]; omega)] at h; cases h
    · rw [List.getElem?_set_ne e] at h
      obtain ⟨u, h1, h2⟩ := r.get k v h
      exact ⟨u, by rw [List.getElem?_set_ne e]; exact h1, h2⟩
structure Ce where
  cs : List Str
  i : Nat
  j : Nat
def catchR (tbl : Nat → Str → Bool) (k : Nat) (x : Val) : List Ce → Env → Sto → SR
  | [], ρ, st => .ex x ρ st
  | c :: r, ρ, st => if c.cs.any (tbl k) = true then .nx (((ρ.set c.j (some x)).set c.i (some x)).set c.j none) st else catchR tbl k x r ρ st
def sTry (tbl : Nat → Str → Bool) (nk : Nat) (l : List Ce) (b : S) : S := fun ρ st => match b ρ st with
  | .ex (.exc k ns vs) ρ1 st1 => if k < nk then catchR tbl k (.exc k ns vs) l ρ1 st1 else .bad
  | .ex _ _ _ => .bad
  | r => r
def clK (K : PySem.W.Frag) (c : Ce) : Cl := ⟨c.cs.map fun x => .ref (He.ga K x), c.i, c.j⟩
theorem s_try {tbl : Nat → Str → Bool} {nk : Nat} {l : List Ce} {b : S} {body : List Stmt} {hd0 : ExceptHandler} {hds : List ExceptHandler} {pos : Pos} (hs : X.stack = X.env :: X.outer) (hf : X.env.frame = some X.env.locals) (hex : X.ex = []) (hN : X.N.Nodup) (tk : Takes X W)
    (hx : ∀ k, k < nk → ∀ c, c ∈ l → ∀ x, x ∈ c.cs → PySem.W.exmOne X.K (.ref (T.ca k)) (.ref (He.ga X.K x)) = some (tbl k x))
    (hb : ∀ (W' : WX) (pn : List (Addr × Obj)) (xe : Value → Shared → Prop), Takes (X.tr pn xe) W' → PassesOwn (model X.prog X.w) X.A X.env xe → PSs (X.tr pn xe) body (tS T W' b))
    (hc : ClsOk X (hd0 :: hds) (l.map (clK X.K))) : PS X (.Try body (hd0 :: hds) [] [] pos) (tS T W (sTry tbl nk l b)) := by
  refine ps_imp (ps_catch (tb := fun W' => tS T W' b) hs hf hex hN tk hb hc) fun D σ H h => ?_
  obtain ⟨φ, ρ, st, re, p⟩ := h
  refine ⟨φ, ρ, st, re, ?_⟩
  unfold sTry at p
  cases hr : b ρ st with
  | nx ρ1 st1 => rw [hr] at p; exact p
  | rt v st1 => rw [hr] at p; exact p
  | bk ρ1 st1 => rw [hr] at p; exact p
  | ct ρ1 st1 => rw [hr] at p; exact p
  | bad => rw [hr] at p; exact p
  | ex x ρ1 st1 =>
    rw [hr] at p
    intro φ1 H1 σ1 c d e1 re1 rx
    obtain ⟨k, ns, vs, us, dd, rfl, rfl, rfl, q1, q2, q3, q4⟩ := rx
    dsimp only at p
    split at p
    · rename_i hk
      clear hc hr
      induction l with
      | nil => exact p φ1 H1 σ1 _ _ e1 re1 ⟨k, ns, vs, us, dd, rfl, rfl, rfl, q1, q2, q3, q4⟩
      | cons c r ih =>
        have known : ∀ x, x ∈ c.cs → PySem.W.exmOne X.K (.ref (T.ca k)) (.ref (He.ga X.K x)) = some (tbl k x) := hx k hk c List.mem_cons_self
        refine ⟨fun v => (PySem.W.exmOne X.K (.ref (T.ca k)) v).getD false, fun v hv => ?_, fun hany => ?_, fun hany => ?_⟩
        · obtain ⟨x, hx', rfl⟩ := List.mem_map.mp hv
          simp only [known x hx', Option.getD_some]
        · have ht : c.cs.any (tbl k) = true := by
            obtain ⟨v, hv, hv2⟩ := List.any_eq_true.mp hany
            obtain ⟨x, hx', rfl⟩ := List.mem_map.mp hv
            rw [known x hx'] at hv2
            exact List.any_eq_true.mpr ⟨x, hx', hv2⟩
          refine ⟨T.ca k, dd, rfl, rfl, fun a hna => ?_⟩
          have p : PostS T W φ H D (.nx (((ρ1.set c.j (some (.exc k ns vs))).set c.i (some (.exc k ns vs))).set c.j none) st1) := by
            have := p
            unfold catchR at this
            rw [if_pos ht] at this
            exact this
          have e2 := Ext.fresh (ho := exv (T.ca k) dd a) re1.rst hna
          have re2 := re1.ext e2 (re1.rst.fresh hna)
          have rv : RelV T φ1 (upd H1 a (exv (T.ca k) dd a)) (.exc k ns vs) (.ref a) := .exc (re1.rst.nolive hna) q1 (.inl upd_same) (e2.rd dd _ q1 q2) q3 (q4.ext e2)
          exact p φ1 _ _ (e1.trans e2) (((re2.set rv c.j).set rv c.i).unset c.j)
        · have ht : ¬ c.cs.any (tbl k) = true := fun z => by
            obtain ⟨x, hx', hx2⟩ := List.any_eq_true.mp z
            have : ((c.cs.map fun x => Value.ref (He.ga X.K x)).any fun v => (PySem.W.exmOne X.K (.ref (T.ca k)) v).getD false) = true := List.any_eq_true.mpr ⟨_, List.mem_map_of_mem hx', by rw [known x hx']; exact hx2⟩
            exact absurd (this.symm.trans hany) (by decide)
          refine ih (fun k hk c hc => hx k hk c (List.mem_cons_of_mem _ hc)) ?_
          have := p
          unfold catchR at this
          rw [if_neg ht] at this
          exact this
    · exact p.elim
theorem test_one {x : Str} {p : Pos} {C : Addr} (hm : X.mg x = some (.ref C)) (hg : Gl X x) (hdb : (x == ("__debug__" : Str)) = false := by decide) : TestOk X (.Name x p) [.ref C] := by
  intro a pn σ H s cls f Q E I lt hx q
  refine ld_glob (X := X.suite a pn) I hg hm ?_ hdb
  have e := hx _ List.mem_cons_self
  have q' := q s.heap fun _ _ z => z
  rw [List.any_cons, List.any_nil, Bool.or_false] at q'
  exact (PySem.W.exm_one I.kIn lt e).here q'
theorem names_items {es : List Expr} {cs : List Value} {pos : Pos} {a : Addr} {pn : List (Addr × Obj)} {σ : L2.St} {H : Hp} {s : Shared} {E : Value → Shared → Prop} (I : Inv (X.suite a pn) [] σ H s)
    (h : Paired (fun e c => ∃ x p C, e = Expr.Name x p ∧ c = Value.ref C ∧ Gl X x ∧ X.mg x = some (.ref C) ∧ (x == ("__debug__" : Str)) = false) es cs) : ∀ {Q : List Value → Shared → Prop}, Q cs s → wpAny (model X.prog X.w) (X.A.mark (some (.ref a))) (spliced (backTo pos (starEach es X.env))) Q E s := by
  induction h with
  | nil => intro Q q; exact wpAny_items_nil q
  | cons hd _ ih =>
    intro Q q
    obtain ⟨x, p, C, rfl, rfl, hg, hm, hdb⟩ := hd
    exact wpAny_items_cons (ld_glob (X := X.suite a pn) I hg hm (ih q) hdb)
theorem test_many {es : List Expr} {cs : List Value} {k : Nat} {pos : Pos} (hl : cs.length ≤ 1000)
    (h : Paired (fun e c => ∃ x p C, e = Expr.Name x p ∧ c = Value.ref C ∧ Gl X x ∧ X.mg x = some (.ref C) ∧ (x == ("__debug__" : Str)) = false) es cs) : TestOk X (.Tuple es k pos) cs := by
  intro a pn σ H s cls f Q E I lt hx q
  refine wpAny_Tuple (names_items I h ⟨by rw [sizeLine_eq]; omega, ?_⟩)
  have kp : ∀ b o, s.heap.get? b = some o → (s.heap.push { cls := .type "tuple", data := .seq cs.toArray }).get? b = some o := fun _ _ z => Heap.get?_push_of_some _ z
  exact (exm_tups (I.kIn.keeps kp) (lt.keeps kp) (Heap.get?_push_size s.heap rfl) hx).here (q _ kp)
theorem take_ok {i j : Nat} {x n : Str} {p q pos : Pos} (hN : X.N.Nodup) (hi : X.N[i]? = some x) (hx : Loc X.env.scope x) (he : PE X (.Name n q) (tVar j)) (hs : swapsWith (.Name n q) (some (.Name x p)) pos.line X.env = pure false := by rfl)
    (hf : X.fn x = true ∨ X.env.scope.names.lookup x = some .local := by first | exact .inl rfl | exact .inr rfl) : PSs X [.Assign [.Name x p] (.Name n q) pos] (tTake i j) :=
  pss_imp (pss_one (ps_set hN hi hx he hs hf)) fun D σ H h => h
end
end Ev

set_option Elab.async false
set_option linter.all false
set_option maxRecDepth 100000
set_option maxHeartbeats 2000000
namespace Ev
open PySem PySem.Spec PyProof.Rows L2
theorem lex_irr : ∀ a : List Int, HT.lexLt a a = false
  | [] => rfl
  | x :: a => by rw [HT.lexLt_cons, if_pos rfl]; exact lex_irr a
theorem lex_asym : ∀ {a b : List Int}, HT.lexLt a b = true → HT.lexLt b a = false
  | [], [], h => by cases h
  | [], _ :: _, _ => rfl
  | _ :: _, [], h => by cases h
  | x :: a, y :: b, h => by
    rw [HT.lexLt_cons] at h ⊢
    by_cases e : x = y
    · rw [if_pos e] at h; rw [if_pos e.symm]; exact lex_asym h
    · rw [if_neg e] at h; rw [if_neg (Ne.symm e)]
      have := of_decide_eq_true h
      exact decide_eq_false (by omega)
theorem lex_conn : ∀ {a b : List Int}, HT.lexLt a b = false → HT.lexLt b a = false → a = b
  | [], [], _, _ => rfl
  | [], _ :: _, h, _ => by cases h
  | _ :: _, [], _, h => by cases h
  | x :: a, y :: b, h, k => by
    rw [HT.lexLt_cons] at h k
    by_cases e : x = y
    · rw [if_pos e] at h; rw [if_pos e.symm] at k; rw [e, lex_conn h k]
    · rw [if_neg e] at h; rw [if_neg (Ne.symm e)] at k
      have h1 := of_decide_eq_false h
      have h2 := of_decide_eq_false k
      omega
theorem lex_trans : ∀ {a b c : List Int}, HT.lexLt a b = true → HT.lexLt b c = true → HT.lexLt a c = true
  | [], [], _, h, _ => by cases h
  | [], _ :: _, [], _, h => by cases h
  | [], _ :: _, _ :: _, _, _ => rfl
  | _ :: _, [], _, h, _ => by cases h
  | _ :: _, _ :: _, [], _, h => by cases h
  | x :: a, y :: b, z :: c, h, k => by
    rw [HT.lexLt_cons] at h k ⊢
    by_cases e : x = y
    · rw [if_pos e] at h
      subst e
      by_cases e2 : x = z
      · rw [if_pos e2] at k ⊢; exact lex_trans h k
      · rw [if_neg e2] at k ⊢; exact k
    · rw [if_neg e] at h
      have h1 := of_decide_eq_true h
      by_cases e2 : y = z
      · subst e2; rw [if_neg e]; exact h
      · rw [if_neg e2] at k
        have h2 := of_decide_eq_true k
        rw [if_neg (by omega)]
        exact decide_eq_true (by omega)
theorem lex_swo {α : Type} (f : α → List Int) : SrtO.Swo fun x y => HT.lexLt (f x) (f y) := by
  refine ⟨fun x y h => lex_asym h, fun x y z h1 h2 => ?_⟩
  cases h : HT.lexLt (f z) (f x) with
  | false => rfl
  | true =>
    cases k : HT.lexLt (f x) (f y) with
    | true => rw [lex_trans h k] at h2; cases h2
    | false => rw [← lex_conn h1 k, h2] at h; cases h
/-- a list of lists, sorted -/
def leL (a b : List Int) : Bool := !HT.lexLt b a
def sortLL (xs : List (List Int)) : List (List Int) := Gr.isort leL xs
theorem leL_total (a b : List Int) : (leL a b || leL b a) = true := by
  unfold leL
  cases h : HT.lexLt b a with
  | false => rfl
  | true => rw [lex_asym h]; rfl
theorem leL_trans (a b c : List Int) (h1 : leL a b = true) (h2 : leL b c = true) : leL a c = true := by
  unfold leL at *
  rw [Bool.not_eq_true'] at *
  exact (lex_swo (α := List Int) id).tr a b c h1 h2
theorem sortLL_pw (xs : List (List Int)) : (sortLL xs).Pairwise fun a b => leL a b = true := Gr.isort_pw leL_trans leL_total xs
theorem sortLL_perm (xs : List (List Int)) : (sortLL xs).Perm xs := Gr.isort_perm xs
theorem leL_anti {a b : List Int} (h1 : leL a b = true) (h2 : leL b a = true) : a = b := by
  unfold leL at *
  rw [Bool.not_eq_true'] at *
  exact lex_conn h2 h1
theorem sortLL_is {xs ys : List (List Int)} (p : ys.Perm xs) (s : ys.Pairwise fun a b => leL a b = true) : ys = sortLL xs :=
  List.Perm.eq_of_pairwise (le := fun a b => leL a b = true) (fun a b _ _ h1 h2 => leL_anti h1 h2) s (sortLL_pw xs) (p.trans (sortLL_perm xs).symm)
section
variable {prog : Program} {w : World} {A : Around} {E : Value → Shared → Prop} {s : Shared}
theorem kat_lex {b : Bool} {Q : Bool → Shared → Prop} {us ws : List Value} {ns ms : List Int} (hx : IntsAre us ns) : ∀ {ws : List Value} {ms : List Int} (i : Nat), IntsAre ws ms → Q (HT.lexLt ns ms) s → PySem.W.KatLex prog w A b (decide (us.length < ws.length)) Q (us.zip ws) i s := by
  have gen : ∀ {us : List Value} {ns : List Int}, IntsAre us ns → ∀ {ws : List Value} {ms : List Int} (i : Nat) (m : Nat) , IntsAre ws ms → Q (HT.lexLt ns ms) s → PySem.W.KatLex prog w A b (decide (us.length + m < ws.length + m)) Q (us.zip ws) i s := by
    intro us ns hx
    induction hx with
    | nil =>
      intro ws ms i m hy h
      cases hy with
      | nil =>
        refine PySem.W.kat_nil ?_
        rw [HT.lexLt_nil_nil] at h
        simpa using h
      | @cons q u ws ms hy =>
        refine PySem.W.kat_nil ?_
        rw [HT.lexLt_nil_cons] at h
        have e : decide (([] : List Value).length + m < (Value.int q u :: ws).length + m) = true := decide_eq_true (by simp)
        rw [e]
        exact h
    | @cons p t us ns hx ih =>
      intro ws ms i m hy h
      cases hy with
      | nil =>
        refine PySem.W.kat_nil ?_
        rw [HT.lexLt_cons_nil] at h
        have e : decide ((Value.int p t :: us).length + m < ([] : List Value).length + m) = false := decide_eq_false (by simp)
        rw [e]
        exact h
      | @cons q u ws ms hy =>
        rw [HT.lexLt_cons] at h
        refine PySem.W.kat_cons (wpAny_eqBool_int ?_)
        by_cases e : p = q
        · subst e
          rw [beq_self_eq_true]
          rw [if_pos rfl] at h
          refine PySem.W.kat_yes ?_
          have z := ih (i + 1) (m + 1) hy h
          have e2 : decide ((Value.int p t :: us).length + m < (Value.int p u :: ws).length + m) = decide (us.length + (m + 1) < ws.length + (m + 1)) := by
            refine decide_eq_decide.mpr ?_
            simp only [List.length_cons]
            omega
          rw [e2]
          exact z
        · rw [show (p == q) = false from beq_eq_false_iff_ne.mpr e]
          rw [if_neg e] at h
          exact PySem.W.kat_no (TS.oneLt_ints _ h)
  intro ws ms i hy h
  exact gen hx i 0 hy h
/-- what is sorted: tuples of ints, none of them empty -/
def TupsNe (h : Heap) (vs : List Value) : Prop := ∀ v, v ∈ vs → ∃ ns, TS.TupInts h v ns ∧ ns ≠ []
theorem TupsNe.keeps {h h' : Heap} {vs : List Value} (x : TupsNe h vs) (k : ∀ b o, h.get? b = some o → o.cls = .type "tuple" → h'.get? b = some o) : TupsNe h' vs := fun v hv =>
  let ⟨ns, t, r⟩ := x v hv
  ⟨ns, t.keeps k, r⟩
theorem ne_firsts {h : Heap} : ∀ vs : List Value, TupsNe h vs → ∃ fs, PySem.W.KatTups h vs fs ∧ fs.length = vs.length ∧ ∀ f, f ∈ fs → ∃ n t, f = Value.int n t
  | [], _ => ⟨[], PySem.W.KatTups.nil, rfl, fun f hf => absurd hf List.not_mem_nil⟩
  | v :: vs, x => by
    obtain ⟨fs, k, hl, hi⟩ := ne_firsts vs fun u hu => x u (List.mem_cons_of_mem _ hu)
    obtain ⟨ns, ⟨a, xs, rfl, ⟨o, ho, hc, n, hdt⟩, i⟩, hn⟩ := x v List.mem_cons_self
    obtain ⟨l⟩ := xs
    have i : IntsAre l ns := i
    cases i with
    | nil => exact absurd rfl hn
    | @cons p t r q i =>
      refine ⟨.int p t :: fs, PySem.W.KatTups.cons ho hc hdt rfl k, by rw [List.length_cons, hl, List.length_cons], fun f hf => ?_⟩
      rcases List.mem_cons.mp hf with e | hf
      · exact ⟨p, t, e⟩
      · exact hi f hf
theorem lex_cmp {vs : List Value} {k : Value → List Int} (hp : ∀ v ∈ vs, TS.TupInts s.heap v (k v)) : SrtO.Cmp prog w A s (tuples' true) (fun p => p.1 ∈ vs) (SrtO.lt2 fun v u => HT.lexLt (k v) (k u)) := by
  intro p q hm hm'
  obtain ⟨a, xs, e, ⟨o, ho, _, n, hd⟩, i⟩ := hp _ hm
  obtain ⟨a', xs', e', ⟨o', ho', _, n', hd'⟩, i'⟩ := hp _ hm'
  show wpAny (model prog w) A (keyLt' (tuples' true) p.1 q.1) (fun r s' => s' = s ∧ r = HT.lexLt (k p.1) (k q.1)) (fun _ _ => False) s
  generalize k p.1 = ks at i ⊢
  generalize k q.1 = ks' at i' ⊢
  rw [e, e']
  refine PySem.W.kat_lt ho hd ho' hd' ?_
  rw [← Array.length_toList, ← Array.length_toList]
  exact kat_lex (us := xs.toList) (ws := xs'.toList) (ms := ks') i 0 i' ⟨rfl, rfl⟩
theorem lex_sortable {a : Addr} {vs : List Value} {k : Value → List Int} (h0 : 0 < vs.length) (hp : ∀ v ∈ vs, TS.TupInts s.heap v (k v)) (hne : ∀ v ∈ vs, k v ≠ []) (ha : ∀ o, s.heap.get? a = some o → o.cls ≠ .type "tuple") : SrtO.SortableO prog w A s a vs fun v u => HT.lexLt (k v) (k u) := by
  intro h' keep
  have hp' : ∀ v ∈ vs, TS.TupInts h' v (k v) := fun v hm => (hp v hm).keeps fun b o e c => keep b o (fun z => by subst z; exact ha o e c) e
  obtain ⟨fs, h1, h2, h3⟩ := ne_firsts (h := h') vs fun v hm => ⟨_, hp' v hm, hne v hm⟩
  refine ⟨tuples' true, fun Q E hq => ?_, lex_cmp hp'⟩
  refine PySem.W.kat_kind (T := .type "int") h1 (by omega) (fun f hm => ?_) (by rfl) ?_
  · obtain ⟨x, t, rfl⟩ := h3 f hm
    exact PySem.W.Looks.now
  · have e : (Value.type "int" != Value.type "tuple") = true := by first | decide +kernel | rfl | decide
    rw [e]
    exact hq
/-- sorted of a list of such tuples -/
theorem sorted_lex {l : Addr} {vs : List Value} {k : Value → List Int} {Q : Value → Shared → Prop} (hl : s.heap.IsList l vs.toArray) (hz : vs.length ≤ sizeLine) (hp : ∀ v ∈ vs, TS.TupInts s.heap v (k v)) (hne : ∀ v ∈ vs, k v ≠ [])
    (h : ∀ (h' : Heap) (d : Addr) (out : List Value), SrtO.Srtd (fun v u => HT.lexLt (k v) (k u)) out → out.Perm vs → (∀ b o, s.heap.get? b = some o → h'.get? b = some o) → s.heap.objs.size ≤ d → (∃ n, h'.get? d = some (seqObj "list" out.toArray n)) → Q (.ref d) { s with heap := h' }) :
    wpAny (model prog w) A (call (.builtin "sorted") [.ref l]) Q E s := by
  refine SrtO.sorted_ord (lex_swo k) hl hz (fun h2 h₁ a ha kk => ?_) fun out hs hb => ?_
  · refine lex_sortable (s := { s with heap := h₁ }) (by omega) (fun v hm => (hp v hm).keeps fun b o e _ => (kk b o e).2) hne fun o e => ?_
    have e' : some o = some (seqObj "list" vs.toArray 0) := e.symm.trans ha
    cases e'
    intro c
    exact absurd (Value.type.inj c) (by decide)
  · exact h _ _ out hs hb.perm (fun b o e => sortedAll_old e) (Nat.le_succ _) (sortedAll_at s.heap vs out.toArray)
/-- sorted of a set of such tuples -/
theorem sorted_setL {P : Program} {a : Addr} {L : List (Addr × List Int)} {es : Array (Int × Value)} {ep : Nat} {t : SetTable} {Q : Value → Shared → Prop} (R : SetTR P w s.heap a L es ep t) (hh : A.handled = none) (hne : ∀ p ∈ L, p.2 ≠ [])
    (hQ : ∀ s' p (out : List Value) (c : Nat) (M : List (Addr × List Int)), (∀ b o, s.heap.get? b = some o → s'.heap.get? b = some o) → s'.gens = s.gens → s'.os = s.os → s.heap.objs.size ≤ p →
      s'.heap.get? p = some (seqObj "list" out.toArray c) → out = M.map (fun q => Value.ref q.1) → M.Perm L → M.Pairwise (fun q r => HT.lexLt r.2 q.2 = false) → Q (.ref p) s') :
    wpAny (model P w) A (call (.builtin "sorted") [.ref a]) Q E s := by
  obtain ⟨o, ho, hex, hd⟩ := R.ob
  have rsz := R.size
  have rfew := R.few
  refine Calls.call_function_entry kind_sorted plain_sorted entry_sorted (args_sorted1 _) ?_
  unfold Builtin.«sorted»
  refine wpAny_bind (m := checkCount "sorted" 1 1 _) (wpAny_pure ?_)
  refine wpAny_bind (collect_set (A := A.in1) hh ⟨o, ho, hex.1, hd⟩ R.fits (by unfold scanBound; omega) R.tab.ris R.led fun s1 us k1 hz g1 o1 pm => ?_)
  have eus : es.toList.map (·.2) = L.map fun q => Value.ref q.1 := by
    rw [R.rows]
    unfold rowsOf
    rw [List.map_map] <;> rfl
  rw [eus] at pm
  -- the rows behind the values
  have rows : ∀ xs : List Value, (∀ v ∈ xs, ∃ q ∈ L, v = Value.ref q.1) → ∃ M : List (Addr × List Int), xs = M.map (fun q => Value.ref q.1) ∧ ∀ q ∈ M, q ∈ L := by
    intro xs
    induction xs with
    | nil => intro _; exact ⟨[], rfl, fun q hq => absurd hq List.not_mem_nil⟩
    | cons v xs ih =>
      intro hv
      obtain ⟨q, hq, e⟩ := hv v List.mem_cons_self
      obtain ⟨M, e1, hs⟩ := ih fun u hu => hv u (List.mem_cons_of_mem _ hu)
      refine ⟨q :: M, by rw [e, e1]; rfl, fun r hr => ?_⟩
      rcases List.mem_cons.mp hr with rfl | z
      · exact hq
      · exact hs r z
  have uniq : ∀ q ∈ L, ∀ r ∈ L, q.1 = r.1 → q = r := fun q hq r hr e => by
    have a1 := R.tup q hq
    rw [e] at a1
    exact Prod.ext e (a1.inj (R.tup r hr))
  have back : ∀ M : List (Addr × List Int), (∀ q ∈ M, q ∈ L) → (M.map (fun q => Value.ref q.1)).Perm (L.map fun q => Value.ref q.1) → M.Perm L := by
    intro M hs pm1
    have nL : L.Nodup := nodup_of_map R.nd
    have nref : (L.map fun q => Value.ref q.1).Nodup := List.pairwise_map.mpr (List.Pairwise.imp_of_mem (fun {q r} hq hr ne e => ne (uniq q hq r hr (Value.ref.inj e))) nL)
    refine (List.perm_ext_iff_of_nodup (nodup_of_map (pm1.nodup_iff.mpr nref)) nL).mpr fun q => ⟨hs q, fun hq => ?_⟩
    obtain ⟨r, hr, e⟩ := List.mem_map.mp (pm1.mem_iff.mpr (List.mem_map.mpr ⟨q, hq, rfl⟩))
    rw [← uniq r (hs r hr) q hq (Value.ref.inj e)]
    exact hr
  have lus : us.length < 64 := by rw [pm.length_eq, List.length_map]; exact rfew
  refine wpAny_bind (wpAny_newList ?_ (by rw [sizeLine_eq]; omega))
  have new : (s1.heap.push (seqObj "list" us.toArray 0)).get? s1.heap.objs.size = some (seqObj "list" us.toArray 0) := Heap.get?_push_size _ rfl
  have tk : ∀ q ∈ L, TS.TupInts (s1.heap.push (seqObj "list" us.toArray 0)) (.ref q.1) q.2 := fun q hq => tupInts_of (P := P) (w := w) (isT_keep (R.tup q hq) fun b u e => Heap.get?_push_of_some _ (k1 b u e))
  have of_v : ∀ v ∈ us, ∃ q ∈ L, v = Value.ref q.1 := fun v hv => by
    obtain ⟨q, hq, e⟩ := List.mem_map.mp (pm.mem_iff.mp hv)
    exact ⟨q, hq, e.symm⟩
  refine wpAny_bind (wpAny_holding (wpAny_call_entry slot_list_sort ⟨_, new, rfl⟩ entry_list_sort (SrtO.list_sort_ord (s := { s1 with heap := s1.heap.push (seqObj "list" us.toArray 0) }) (lex_swo (TS.intsOf (s1.heap.push (seqObj "list" us.toArray 0)))) new (by rw [sizeLine_eq]; omega) (fun h2 => ?_) fun out hs hb => ⟨_, rfl, ?_⟩) (args_list_sort _)))
  · refine lex_sortable (s := { s1 with heap := s1.heap.push (seqObj "list" us.toArray 0) }) (by omega) (fun v hv => ?_) (fun v hv => ?_) fun o' e => ?_
    · obtain ⟨q, hq, rfl⟩ := of_v v hv
      rw [(tk q hq).ints]
      exact tk q hq
    · obtain ⟨q, hq, rfl⟩ := of_v v hv
      rw [(tk q hq).ints]
      exact hne q hq
    · rw [new] at e
      cases e
      intro c
      exact absurd (Value.type.inj c) (by decide)
  · obtain ⟨c, hc⟩ := sortedHeap_at (vs := us) (out := out.toArray) new
    obtain ⟨M, e', hs'⟩ := rows out fun v hv => of_v v (hb.perm.mem_iff.mp hv)
    have pL : M.Perm L := back M hs' (by rw [← e']; exact hb.perm.trans pm)
    refine wpAny_pure ⟨_, rfl, hQ _ s1.heap.objs.size out c M (fun b u e => ?_) g1 o1 hz hc e' pL ?_⟩
    · have hlt := Heap.lt_size (k1 b u e)
      show (sortedHeap (s1.heap.push (seqObj "list" us.toArray 0)) s1.heap.objs.size us out.toArray).get? b = some u
      rw [sortedHeap_old (Nat.ne_of_lt hlt) (by rw [size_push']; exact Nat.lt_succ_of_lt hlt)]
      exact Heap.get?_push_of_some _ (k1 b u e)
    · rw [e'] at hs
      refine List.Pairwise.imp_of_mem (fun {q r} hq hr z => ?_) (List.pairwise_map.mp hs)
      have z : HT.lexLt (TS.intsOf (s1.heap.push (seqObj "list" us.toArray 0)) (.ref r.1)) (TS.intsOf (s1.heap.push (seqObj "list" us.toArray 0)) (.ref q.1)) = false := z
      rw [(tk q (hs' q hq)).ints, (tk r (hs' r hr)).ints] at z
      exact z
end
end Ev

set_option Elab.async false
set_option linter.all false
set_option maxRecDepth 100000
set_option maxHeartbeats 2000000
namespace Ev
open PySem PySem.Spec PyProof.Rows L2
abbrev KVs := List (Key × Val)
section
variable {T : Tab} {φ φ' φ'' φ1 ψ ψ' : Phi} {H H' H'' H1 : Hp} {st st' : Sto} {D : Addr}
theorem ExtV.trans (e : ExtV φ H φ' H') (n : ∀ a, H a ≠ none → H' a ≠ none) (f : ExtV φ' H' φ'' H'') : ExtV φ H φ'' H'' where
  len := Nat.le_trans e.len f.len
  old := fun k a h hn => e.old k a (f.old k a h (Nat.lt_of_lt_of_le hn e.len)) hn
  tups := fun a us h => f.tups a us (e.tups a us h)
  nl := fun a h hs => f.nl a (e.nl a h hs) (n a hs)
  rd := fun a u h r => f.rd a u (e.nl a h (rd_some r)) (e.rd a u h r)
/-- what was kept apart becomes a thing of the store -/
theorem addLoc {o : Ob} (e1 : Ext φ1 H1 φ H) (hD : H1 D = none) (nh : ∀ a, a ∈ φ1.hid → a ≠ D) (R : Rst T (φ.hide D) st H) (ro : RelOb T (φ.hide D) H o D) : Ext φ1 H1 (φ.add D) H ∧ Rst T (φ.add D) (st ++ [o]) H := by
  have nD : ¬ Live φ D := by
    rintro (⟨n, hn⟩ | hm)
    · exact R.apart n D hn List.mem_cons_self
    · exact nh D (e1.hid ▸ hm) rfl
  have R0 := R.unhide
  have ev : ExtV (φ.hide D) H (φ.add D) H := {
    len := by show φ.l.length ≤ (φ.l ++ [some D]).length; simp
    old := fun n a h hn => by
      rcases add_get h with ⟨_, q⟩ | ⟨q, _⟩
      · exact q
      · have : n < φ.l.length := hn
        omega
    tups := fun _ _ h => h
    nl := fun a h _ => by
      obtain ⟨h1, h2⟩ := live_hide h
      rintro (⟨n, hn⟩ | hm)
      · rcases add_get hn with ⟨_, q⟩ | ⟨_, q⟩
        · exact h1 (.inl ⟨n, q⟩)
        · exact h2 q
      · exact h1 (.inr hm)
    rd := fun _ _ _ r => r }
  refine ⟨⟨Nat.le_trans e1.len (by show φ.l.length ≤ (φ.l ++ [some D]).length; simp), fun n a h hn => ?_, fun n a h hn => ?_, e1.tups, e1.rd, e1.non, e1.hid, e1.hidk⟩, ?_, fun n m a h1 h2 => ?_, fun n ob h => ?_, R0.hid, fun n a h z => ?_⟩
  · rcases add_get h with ⟨_, q⟩ | ⟨q, _⟩
    · exact e1.old n a q hn
    · have := e1.len
      omega
  · rcases add_get h with ⟨_, q⟩ | ⟨_, q⟩
    · exact e1.new n a q hn
    · rw [q]; exact hD
  · show (φ.l ++ [some D]).length = _
    have : φ.l.length = st.length := R0.len
    simp [this]
  · rcases add_get h1 with ⟨_, q1⟩ | ⟨l1, q1⟩
    · rcases add_get h2 with ⟨_, q2⟩ | ⟨l2, q2⟩
      · exact R0.inj n m a q1 q2
      · subst q2; exact absurd (.inl ⟨n, q1⟩) nD
    · rcases add_get h2 with ⟨_, q2⟩ | ⟨l2, q2⟩
      · subst q1; exact absurd (.inl ⟨m, q2⟩) nD
      · omega
  · by_cases hn : n < st.length
    · rw [List.getElem?_append_left hn] at h
      rcases R.ob n ob h with ⟨q1, q2⟩ | ⟨a, q, r⟩
      · exact .inl ⟨q1, add_old q2⟩
      · exact .inr ⟨a, add_old q, r.extV ev rfl⟩
    · have hz : n = st.length := by
        have := (List.getElem?_eq_some_iff.mp h).1
        simp at this
        omega
      subst hz
      rw [List.getElem?_append_right (Nat.le_refl _), Nat.sub_self] at h
      cases h
      refine .inr ⟨D, ?_, ro.extV ev rfl⟩
      have e : st.length = φ.l.length := R0.len.symm
      rw [e]
      show (φ.l ++ [some D])[φ.l.length]? = _
      simp
  · rcases add_get h with ⟨_, q⟩ | ⟨_, q⟩
    · exact R0.apart n a q z
    · subst q; exact nD (.inr z)
/-- D is the dict that grows -/
def DState (T : Tab) (φ1 : Phi) (H1 : Hp) (D : Addr) (ψ : Phi) (st : Sto) (H : Hp) (kvs : KVs) : Prop := ∃ φ us, ψ = φ.hide D ∧ Ext φ1 H1 φ H ∧ Rst T ψ st H ∧ H D = some (.dK us) ∧ RelF T ψ H kvs us
theorem DState.step {kvs : KVs} (d : DState T φ1 H1 D ψ st H kvs) (hD : H1 D = none) (nh : ∀ a, a ∈ φ1.hid → a ≠ D) (e : Ext ψ H ψ' H') (R : Rst T ψ' st' H') : DState T φ1 H1 D ψ' st' H' kvs := by
  obtain ⟨φ, us, rfl, e1, _, h1, h2⟩ := d
  obtain ⟨φ', rfl, e2, _⟩ := Ext.outof e1 e hD nh
  exact ⟨φ', us, rfl, e2, R, (e.hidk D List.mem_cons_self).trans h1, h2.ext e⟩
theorem DState.put {kvs : KVs} {k : Key} {v : Val} {z : V} (d : DState T φ1 H1 D ψ st H kvs) (hD : H1 D = none) (nh : ∀ a, a ∈ φ1.hid → a ≠ D) (r : RelV T ψ H v z) : ∃ us, H D = some (.dK us) ∧ us.length = kvs.length ∧ ExtV ψ H ψ (upd H D (.dK (putK us k z))) ∧ DState T φ1 H1 D ψ st (upd H D (.dK (putK us k z))) (put kvs k v) := by
  obtain ⟨φ, us, rfl, e1, R, h1, h2⟩ := d
  have ht : ∀ ws, H D ≠ some (.tup ws) := fun ws q => by rw [h1] at q; cases q
  obtain ⟨φ', e, _, e3⟩ := Ext.outof e1 (Ext.refl (φ := φ.hide D) (H := H)) hD nh
  have e : φ = φ' := by
    have e1 := congrArg Phi.l e
    have e2 := congrArg Phi.hid e
    cases φ; cases φ'
    simp only [Phi.hide, List.cons.injEq, true_and] at e1 e2
    rw [e1, e2]
  subst e
  exact ⟨us, h1, (Paired.length h2).symm, hidden_v ht, φ, _, rfl, e3 _, R.hidden ht, upd_same, (rel_put h2 k r).extV (hidden_v ht)⟩
end
/-- a clause over a walk -/
theorem clause_it {J : It} {n : Nat} {Gd : Hp → Prop} {Y : Nat → Hp → V → Hp → Prop} {H0 : Hp} {stop : Hp → Prop} {step : (Hp → Prop) → V → Hp → Prop} (w : Walk J n Gd Y) (Pv : Nat → Hp → Prop) (h0 : Pv 0 H0) (hG : ∀ i H, Pv i H → Gd H)
    (hs : ∀ i x H H', i < n → Pv i H → Y i H x H' → step (Pv (i + 1)) x H') (hd : ∀ H, Pv n H → stop H) : tClause J H0 stop step := by
  refine ⟨fun i m H => m + i = n ∧ Pv i H, ⟨n, rfl, h0⟩, ?_⟩
  rintro i m H ⟨e, p⟩
  have q := hG i H p
  by_cases hlt : i < n
  · exact .inr ⟨w.goes i H hlt q, Pv (i + 1), fun H' p' => ⟨n - (i + 1), by omega, by omega, p'⟩, fun x H' y => hs i x H H' hlt p (w.yields i H x H' hlt q y)⟩
  · have e : i = n := by omega
    subst e
    exact .inl ⟨w.stops H q, hd H p⟩
def dcIn (g : G) (c : ET) (k v : E) (ρ : Env) : List Val → KVs → Sto → Res KVs
  | [], kvs, st => .ok kvs st
  | x :: xs, kvs, st => match g x ρ st with
    | some (ρ1, st1) => match c ρ1 st1 with
      | .ok true st2 => match k ρ1 st2 with
        | .ok y st3 => match keyOf y with
          | some kk => match v ρ1 st3 with
            | .ok z st4 => if kvs.length < sizeLine then dcIn g c k v ρ xs (put kvs kk z) st4 else .bad
            | _ => .bad
          | none => .bad
        | _ => .bad
      | .ok false st2 => dcIn g c k v ρ xs kvs st2
      | _ => .bad
    | none => .bad
def dcOut (g : G) (c : ET) (itj : EI) (gj : G) (cj : ET) (k v : E) (vj : List Nat) (ρ : Env) : List Val → KVs → Sto → Res KVs
  | [], kvs, st => .ok kvs st
  | x :: xs, kvs, st => match g x ρ st with
    | some (ρ1, st1) => match c ρ1 st1 with
      | .ok true st2 => match itj ρ1 st2 with
        | .ok items st3 => match dcIn gj cj k v (wipeE ρ1 vj) items kvs st3 with
          | .ok kvs2 st4 => dcOut g c itj gj cj k v vj ρ xs kvs2 st4
          | _ => .bad
        | _ => .bad
      | .ok false st2 => dcOut g c itj gj cj k v vj ρ xs kvs st2
      | _ => .bad
    | none => .bad
def eDc2 (own vj : List Nat) (it : EI) (g : G) (c : ET) (itj : EI) (gj : G) (cj : ET) (k v : E) : E := fun ρ st => bindR (it ρ st) fun items st1 => match dcOut g c itj gj cj k v vj (wipeE ρ own) items [] st1 with
  | .ok kvs st2 => .ok (.loc st2.length) (st2 ++ [.dK kvs])
  | _ => .bad
def okR {α : Type} (r : Res α) (P : α → Sto → Prop) : Prop := match r with
  | .ok a st => P a st
  | _ => False
theorem drop_at {α : Type} {xs : List α} {i : Nat} {v : α} (h : xs[i]? = some v) : xs.drop i = v :: xs.drop (i + 1) := by
  obtain ⟨hl, rfl⟩ := List.getElem?_eq_some_iff.mp h
  rw [List.drop_eq_getElem_cons hl]
section
variable {X : Cx} {T : Tab} {W : WX}
theorem dc_sound {own vj : List Nat} {it itj : EI} {g gj : G} {c cj : ET} {k v : E} {σ : L2.St} {H : Hp} {Q : VK} (h : tE T W (eDc2 own vj it g c itj gj cj k v) σ H Q) :
    tDc2 (tI T W it) (tGw T own g) (tT T W0 c) (tI T W0 itj) (tGw T vj gj) (tT T W0 cj) (tE T W0 k) (tE T W0 v) own vj σ H Q := by
  unfold tDc2
  refine tG_bind h fun items ρ st1 φ1 H1 J re1 w p => fun D hD => ?_
  obtain ⟨Gd, Y, w1, w2, w3⟩ := w
  have hR1 := re1.rst
  have nh : ∀ a, a ∈ φ1.hid → a ≠ D := fun a h z => hR1.hid a h (z ▸ hD)
  let Fin : KVs → Sto → Prop := fun kvs st => Post T (RelV T) W φ1 σ H1 Q (.ok (.loc st.length) (st ++ [.dK kvs]))
  have rest0 : okR (dcOut g c itj gj cj k v vj (wipeE ρ own) (items.drop 0) [] st1) Fin := by
    rw [List.drop_zero]
    cases hl : dcOut g c itj gj cj k v vj (wipeE ρ own) items [] st1 with
    | ok kvs st' => rw [hl] at p; exact p
    | ex x st' => rw [hl] at p; exact p.elim
    | bad => rw [hl] at p; exact p.elim
  refine clause_it w1 (fun i H' => ∃ ψ st kvs, DState T φ1 H1 D ψ st H' kvs ∧ okR (dcOut g c itj gj cj k v vj (wipeE ρ own) (items.drop i) kvs st) Fin) ?_ ?_ ?_ ?_
  · exact ⟨φ1.hide D, st1, [], ⟨φ1, [], rfl, Ext.fresh hR1 hD, hR1.hide hD, upd_same, .nil⟩, rest0⟩
  · rintro i H' ⟨ψ, st, kvs, ⟨φ, us, rfl, e1, _⟩, _⟩
    exact w2 φ H' e1.v
  · rintro i x H' H2 hi ⟨ψ, st, kvs, d, rest⟩ y
    have ev1 : ExtV φ1 H1 ψ H' := by
      obtain ⟨φ, us, rfl, e1, _⟩ := id d
      exact e1.intoV hD
    have R : Rst T ψ st H' := by
      obtain ⟨φ, us, rfl, _, R, _⟩ := id d
      exact R
    obtain ⟨e2, s2, vx, hv, rx⟩ := w3 i H' x H2 ψ st hi ev1 R y
    rw [drop_at hv] at rest
    have re2 : RelE T ψ (wipeE ρ own) st (wipe σ own) H2 := by
      refine ⟨s2, by rw [wipeE_length, wipe_length]; exact re1.len, fun j w hw => ?_⟩
      obtain ⟨h1, h2⟩ := wipeE_some hw
      obtain ⟨u, h3, h4⟩ := re1.get j w h1
      exact ⟨u, by rw [wipe_get, if_neg h2]; exact h3, (h4.extV ev1).ext e2⟩
    refine ⟨ψ, wipeE ρ own, st, vx, re2, rx, ?_⟩
    unfold dcOut at rest
    cases hg : g vx (wipeE ρ own) st with
    | none => rw [hg] at rest; exact rest.elim
    | some q =>
      obtain ⟨ρ3, st3⟩ := q
      rw [hg] at rest
      dsimp only at rest
      intro φ3 H3 σ3 e3 re3 hw3
      refine ⟨by rw [hw3, wipe_wipe], φ3, ρ3, st3, re3, ?_⟩
      cases hc : c ρ3 st3 with
      | ex x st4 => rw [hc] at rest; exact rest.elim
      | bad => rw [hc] at rest; exact rest.elim
      | ok b st4 =>
        rw [hc] at rest
        intro φ4 H4 b' e4 s4 hb
        subst hb
        have e24 := (e2.trans e3).trans e4
        have d4 := d.step hD nh e24 s4
        have re4 := re3.ext e4 s4
        cases b with
        | false => exact iteF ⟨φ4, st4, kvs, d4, rest⟩
        | true =>
          refine iteT ⟨φ4, ρ3, st4, re4, ?_⟩
          dsimp only at rest
          cases hj : itj ρ3 st4 with
          | ex x st5 => rw [hj] at rest; exact rest.elim
          | bad => rw [hj] at rest; exact rest.elim
          | ok items2 st5 =>
            rw [hj] at rest
            dsimp only at rest
            intro φ5 H5 Jj e5 s5 wk
            obtain ⟨Gj, Yj, v1, v2, v3⟩ := wk
            have d5 := d4.step hD nh e5 s5
            have re5 := re4.ext e5 s5
            have rest5 : okR (dcIn gj cj k v (wipeE ρ3 vj) (items2.drop 0) kvs st5) fun kvs2 st6 => okR (dcOut g c itj gj cj k v vj (wipeE ρ own) (items.drop (i + 1)) kvs2 st6) Fin := by
              rw [List.drop_zero]
              cases hl : dcIn gj cj k v (wipeE ρ3 vj) items2 kvs st5 with
              | ok kvs2 st6 => rw [hl] at rest; exact rest
              | ex x st' => rw [hl] at rest; exact rest.elim
              | bad => rw [hl] at rest; exact rest.elim
            refine clause_it v1 (fun j H' => ∃ ψ st kvs, DState T φ1 H1 D ψ st H' kvs ∧ ExtV φ5 H5 ψ H' ∧ (∀ a, H5 a ≠ none → H' a ≠ none) ∧ okR (dcIn gj cj k v (wipeE ρ3 vj) (items2.drop j) kvs st) fun kvs2 st6 => okR (dcOut g c itj gj cj k v vj (wipeE ρ own) (items.drop (i + 1)) kvs2 st6) Fin) ?_ ?_ ?_ ?_
            · exact ⟨φ5, st5, kvs, d5, Ext.refl.v, fun _ h => h, rest5⟩
            · rintro j H' ⟨ψ, st, kvs, _, ev, _, _⟩
              exact v2 ψ H' ev
            · rintro j x2 H6 H7 hj2 ⟨ψ6, st6, kvs6, d6, ev6, n6, rest6⟩ y6
              have R6 : Rst T ψ6 st6 H6 := by
                obtain ⟨φ, us, rfl, _, R, _⟩ := id d6
                exact R
              obtain ⟨e7, s7, vx2, hv2, rx2⟩ := v3 j H6 x2 H7 ψ6 st6 hj2 ev6 R6 y6
              rw [drop_at hv2] at rest6
              have re7 : RelE T ψ6 (wipeE ρ3 vj) st6 (wipe σ3 vj) H7 := by
                refine ⟨s7, by rw [wipeE_length, wipe_length]; exact re5.len, fun j w hw => ?_⟩
                obtain ⟨h1, h2⟩ := wipeE_some hw
                obtain ⟨u, h3, h4⟩ := re5.get j w h1
                exact ⟨u, by rw [wipe_get, if_neg h2]; exact h3, (h4.extV ev6).ext e7⟩
              refine ⟨ψ6, wipeE ρ3 vj, st6, vx2, re7, rx2, ?_⟩
              unfold dcIn at rest6
              cases hg2 : gj vx2 (wipeE ρ3 vj) st6 with
              | none => rw [hg2] at rest6; exact rest6.elim
              | some q =>
                obtain ⟨ρ8, st8⟩ := q
                rw [hg2] at rest6
                dsimp only at rest6
                intro φ8 H8 σ8 e8 re8 hw8
                refine ⟨by rw [hw8, wipe_wipe], φ8, ρ8, st8, re8, ?_⟩
                cases hc2 : cj ρ8 st8 with
                | ex x st9 => rw [hc2] at rest6; exact rest6.elim
                | bad => rw [hc2] at rest6; exact rest6.elim
                | ok b2 st9 =>
                  rw [hc2] at rest6
                  intro φ9 H9 b' e9 s9 hb
                  subst hb
                  have e79 := (e7.trans e8).trans e9
                  have re9 := re8.ext e9 s9
                  cases b2 with
                  | false => exact iteF ⟨φ9, st9, kvs6, d6.step hD nh e79 s9, ev6.trans n6 e79.v, fun a h => e79.non a (n6 a h), rest6⟩
                  | true =>
                    refine iteT ⟨φ9, ρ8, st9, re9, ?_⟩
                    dsimp only at rest6
                    cases hk : k ρ8 st9 with
                    | ex x st' => rw [hk] at rest6; exact rest6.elim
                    | bad => rw [hk] at rest6; exact rest6.elim
                    | ok yv st10 =>
                      rw [hk] at rest6
                      dsimp only at rest6
                      intro φ10 H10 u10 e10 s10 r10
                      cases hkk : keyOf yv with
                      | none => rw [hkk] at rest6; exact rest6.elim
                      | some kk =>
                        rw [hkk] at rest6
                        dsimp only at rest6
                        refine ⟨φ10, ρ8, st10, re9.ext e10 s10, ?_⟩
                        cases hvv : v ρ8 st10 with
                        | ex x st' => rw [hvv] at rest6; exact rest6.elim
                        | bad => rw [hvv] at rest6; exact rest6.elim
                        | ok zv st11 =>
                          rw [hvv] at rest6
                          dsimp only at rest6
                          intro φ11 H11 u11 e11 s11 r11
                          have e711 := (e79.trans e10).trans e11
                          have d11 := d6.step hD nh e711 s11
                          obtain ⟨us, hu1, hu2, hu3, hu4⟩ := d11.put (k := kk) hD nh r11
                          split at rest6
                          · rename_i hz
                            refine ⟨us, kk, rel_key r10 hkk, hu1, by rw [hu2]; exact hz, φ11, st11, _, hu4, (ev6.trans n6 e711.v).trans (fun a h => e711.non a (n6 a h)) hu3, fun a h => ?_, rest6⟩
                            by_cases e : a = D
                            · rw [e, upd_same]; simp
                            · rw [upd_ne e]; exact e711.non a (n6 a h)
                          · exact rest6.elim
            · rintro H' ⟨ψ, st, kvs, d, _, _, r⟩
              rw [List.drop_length] at r
              exact ⟨ψ, st, kvs, d, r⟩
  · rintro H' ⟨ψ, st, kvs, ⟨φ, us, rfl, e1, R, h1, h2⟩, r⟩
    rw [List.drop_length] at r
    have r : Fin kvs st := r
    obtain ⟨a, b⟩ := addLoc e1 hD nh R (o := .dK kvs) ⟨us, h1, h2⟩
    exact r _ H' _ a b (rel_loc R.unhide)
theorem e_dc2 {kx vx ta ia tb ib : Expr} {fa fb : List Expr} {sc : Scope} {p : Pos} (own : List (Str × Nat)) {vj : List Nat} {it itj : EI} {g gj : G} {c cj : ET} {k v : E} (hc : X.calm = true) (hN : X.N.Nodup) (hi : PI X ta ia (tI T W it)) (ok : BlkOk X.N X.env.scope sc own) (hv : ∀ i ∈ vj, i ∈ own.map (·.2))
    (hg : InBlk X sc fun B => PG B ta (tGw T (own.map (·.2)) g)) (ht : InBlk X sc fun B => PTs B fa (tT T W0 c)) (hj : InBlk X sc fun B => PI B tb ib (tI T W0 itj)) (hgj : InBlk X sc fun B => PG B tb (tGw T vj gj)) (htj : InBlk X sc fun B => PTs B fb (tT T W0 cj)) (hk : InBlk X sc fun B => PE B kx (tE T W0 k)) (he : InBlk X sc fun B => PE B vx (tE T W0 v))
    (hs : ∀ x, foldedSetIterable ia X.env x = pure x := by intro _; rfl) (hs1 : ∀ env x, foldedSetIterable ib env x = pure x := by intro _ _; rfl) :
    PE X (dc2 kx vx ta ia tb ib fa fb sc p) (tE T W (eDc2 (own.map (·.2)) vj it g c itj gj cj k v)) := pe_imp (pe_dc2 hc hN hi ok hv hg ht hj hgj htj hk he hs hs1) fun _ _ _ h => dc_sound h
end
end Ev

set_option Elab.async false
set_option linter.all false
set_option maxRecDepth 100000
set_option maxHeartbeats 2000000
namespace Ev
open PySem PySem.Spec PyProof.Rows L2
/-- tuples of ints, none of them empty -/
def tupsOf : List Val → Option (List (List Int))
  | [] => some []
  | .tup xs :: r => match intsOf xs, tupsOf r with
    | some ns, some t => if ns = [] then none else some (ns :: t)
    | _, _ => none
  | _ => none
def tV (ns : List Int) : Val := .tup (ns.map .int)
def tOf (H : Hp) : V → List Int
  | .ref a => match H a with
    | some (.tup us) => us.filterMap fun u => match u with | .int i => some i | _ => none
    | _ => []
  | _ => []
theorem fm_ints : ∀ ns : List Int, ((ns.map V.int).filterMap fun u => match u with | .int i => some i | _ => none) = ns
  | [] => rfl
  | n :: ns => by rw [List.map_cons, List.filterMap_cons]; simp only [fm_ints ns]
section
variable {X : Cx} {T : Tab} {W : WX}
theorem rel_tups {φ : Phi} {H : Hp} : ∀ {xs : List Val} {us : List V} {ts : List (List Int)}, RelVs T φ H xs us → tupsOf xs = some ts → us.map (tOf H) = ts ∧ ∀ u, u ∈ us → ∃ t, u = .ref t ∧ H t = some (.tup ((tOf H u).map V.int)) ∧ tOf H u ≠ []
  | _, _, _, .nil, h => by cases h; exact ⟨rfl, fun u hu => absurd hu List.not_mem_nil⟩
  | _, _, ts, .cons a b, h => by
    unfold tupsOf at h
    split at h
    · cases ‹_ :: _ = []›
    · rename_i e
      cases e
      split at h
      · rename_i ns t e1 e2
        split at h
        · cases h
        · rename_i hne
          cases h
          obtain ⟨i1, i2⟩ := rel_tups b e2
          cases a with
          | tup a1 a2 =>
            have eu := rel_ints a2 e1
            subst eu
            rename_i ad
            have ez : tOf H (.ref ad) = ns := by unfold tOf; dsimp only; rw [a1]; exact fm_ints ns
            refine ⟨by rw [List.map_cons, ez, i1], fun u hu => ?_⟩
            rcases List.mem_cons.mp hu with rfl | hu
            · exact ⟨ad, rfl, by rw [ez]; exact a1, by rw [ez]; exact hne⟩
            · exact i2 u hu
      · cases h
    · cases h
theorem rel_ofTups {φ : Phi} {H : Hp} : ∀ {us : List V}, (∀ u, u ∈ us → ∃ t, u = .ref t ∧ H t = some (.tup ((tOf H u).map V.int))) → RelVs T φ H ((us.map (tOf H)).map tV) us
  | [], _ => .nil
  | u :: us, h => by
    obtain ⟨t, e1, e2⟩ := h u List.mem_cons_self
    refine .cons ?_ (rel_ofTups fun v hv => h v (List.mem_cons_of_mem _ hv))
    rw [e1] at e2 ⊢
    exact .tup e2 (rel_ofInts _)
def rSortL (K : PySem.W.Frag) : List V → Hp → VK → Prop := fun vs H Q => ∃ (a : Addr) (xs : List V), vs = [V.ref a] ∧ SqL K H a xs ∧ (∀ x ∈ xs, ∃ t, x = V.ref t ∧ H t = some (.tup ((tOf H x).map V.int)) ∧ tOf H x ≠ []) ∧
  ∀ ys p, ys.Perm xs → ys.Pairwise (fun x y => HT.lexLt (tOf H y) (tOf H x) = false) → H p = none → Q (.ref p) (upd H p (.lst ys))
theorem cr_sortL : CallR X (.builtin "sorted") (rSortL X.K) := by
  intro pins s σ H vs us Q I r h
  obtain ⟨a, xs, rfl, hs, hx, q⟩ := h
  obtain ⟨its, rv, hl, hz⟩ := I.list hs
  rw [Vals.ref1 r]
  obtain ⟨e1, e2⟩ := bkV_refs rv fun x m => by
    obtain ⟨t, e, _⟩ := hx x m
    exact ⟨t, e⟩
  have at_ : ∀ v ∈ its, ∃ t, v = Value.ref t ∧ H t = some (.tup ((tOf H (bkV v)).map V.int)) ∧ tOf H (bkV v) ≠ [] := fun v hv => by
    obtain ⟨t, rfl⟩ := e2 v hv
    have hm : V.ref t ∈ xs := by rw [e1]; exact List.mem_map.mpr ⟨_, hv, rfl⟩
    obtain ⟨t', e, ht, hn⟩ := hx _ hm
    cases e
    exact ⟨t, rfl, ht, hn⟩
  refine sorted_lex (k := fun v => tOf H (bkV v)) hl.isList (by rw [← rv.length]; exact hz) (fun v hv => ?_) (fun v hv => (at_ v hv).choose_spec.2.2) fun h' d out h1 h2 kp hd hn => ?_
  · obtain ⟨t, rfl, ht, _⟩ := at_ v hv
    exact tupI_raw I (SqT.of ht)
  · obtain ⟨n, hn⟩ := hn
    have h3 : ∀ u ∈ out, ∃ a, u = Value.ref a := fun u hu => e2 u (h2.mem_iff.mp hu)
    have hp : (out.map bkV).Perm xs := by
      rw [e1]
      exact h2.map bkV
    refine ⟨.ref d, upd H d (.lst (out.map bkV)), I.laid (t' := s.toks) kp hd ⟨?_, out, n, bkV_vals h3, hn⟩, rfl, q _ d hp (List.pairwise_map.mpr h1) (I.hok.fresh hd)⟩
    rw [hp.length_eq]
    exact hz
def fSortedB (st : Sto) (vs : List Val) : Option Val := match fSorted st vs with
  | some z => some z
  | none => match vs with
    | [v] => (lstOf st v).bind fun xs => (tupsOf xs).map fun ts => .lst ((sortLL ts).map tV)
    | _ => none
def rSortB (K : PySem.W.Frag) : List V → Hp → VK → Prop := fun xs H Q => rSortA K xs H Q ∨ rSortL K xs H Q
theorem call_sortB : CallR X (.builtin "sorted") (rSortB X.K) := call_sortA.or cr_sortL
theorem snd_sortedB : SndC T (rSortB T.K) fSortedB := by
  intro φ st H vs us z Q R r hf hq
  unfold fSortedB at hf
  split at hf
  · rename_i w hw
    cases hf
    exact .inl (snd_sorted φ st H vs us _ Q R r hw hq)
  · split at hf
    · rename_i v
      cases r with
      | cons r1 r2 =>
        cases r2
        rw [Option.bind_eq_some_iff] at hf
        obtain ⟨xs, hx, hf⟩ := hf
        rw [Option.map_eq_some_iff] at hf
        obtain ⟨ts, ht, rfl⟩ := hf
        obtain ⟨a, ys, rfl, hs, rv⟩ := rel_lst R r1 hx
        obtain ⟨i1, i2⟩ := rel_tups rv ht
        refine .inr ⟨a, ys, rfl, hs, i2, fun zs p hp hw hn => ?_⟩
        have e1 := Ext.fresh (ho := .lst zs) R hn
        refine hq _ _ e1 (R.fresh hn) (.lst (.inl ⟨R.nolive hn, .inl upd_same⟩) ?_)
        have ez : zs.map (tOf H) = sortLL ts := by
          refine sortLL_is (by rw [← i1]; exact hp.map _) (List.pairwise_map.mpr (hw.imp fun h => ?_))
          unfold leL
          rw [h]; rfl
        rw [← ez]
        exact (rel_ofTups fun u hu => (i2 u (hp.mem_iff.mp hu)).imp fun t z => ⟨z.1, z.2.1⟩).ext e1
    · cases hf
def dedupL : List (List Int) → List (List Int)
  | [] => []
  | x :: xs => if x ∈ xs then dedupL xs else x :: dedupL xs
theorem mem_dedupL {x : List Int} : ∀ {xs : List (List Int)}, x ∈ dedupL xs ↔ x ∈ xs
  | [] => Iff.rfl
  | y :: xs => by
    unfold dedupL
    split
    · rename_i h
      rw [mem_dedupL, List.mem_cons]
      exact ⟨.inr, fun k => k.elim (fun e => e ▸ h) id⟩
    · rw [List.mem_cons, List.mem_cons, mem_dedupL]
theorem nodup_dedupL : ∀ xs : List (List Int), (dedupL xs).Nodup
  | [] => List.nodup_nil
  | y :: xs => by
    unfold dedupL
    split
    · exact nodup_dedupL xs
    · rename_i h
      exact List.nodup_cons.mpr ⟨fun k => h (mem_dedupL.mp k), nodup_dedupL xs⟩
/-- sorted(set), the tuples not empty -/
def rSortSet (K : PySem.W.Frag) (P : Program) (w : World) : List V → Hp → VK → Prop := fun vs H Q => ∃ (a : Addr) (L : List (Addr × List Int)), vs = [V.ref a] ∧ H a = some (SetTO P w a L) ∧ (∀ p ∈ L, SqT K H p.1 (p.2.map V.int)) ∧ (∀ p ∈ L, p.2 ≠ []) ∧
  ∀ (M : List (Addr × List Int)) (p : Addr), M.Perm L → (M.map (·.2)).Nodup → M.Pairwise (fun q r => HT.lexLt r.2 q.2 = false) → H p = none → Q (.ref p) (upd H p (.lst (M.map fun q => V.ref q.1)))
theorem cr_sortSet (hc : X.calm = true) : CallR X (.builtin "sorted") (rSortSet X.K X.prog X.w) := by
  intro pins s σ H vs us Q I r h
  obtain ⟨a, L, rfl, ha, hk, hne, q⟩ := h
  have R0 : SetT0 X.prog X.w s.heap a L := (I.hok a _ ha).1
  obtain ⟨es, ep, t, R⟩ := R0.full fun p hp => I.isT (hk p hp)
  rw [Vals.ref1 r]
  refine sorted_setL R (I.ok.hd hc) hne fun s' p out c M k g o hp hg hout pm pw => ?_
  subst hout
  have few : M.length < 64 := by rw [pm.length_eq]; exact R.few
  have hlen : (M.map fun q => V.ref q.1).length ≤ sizeLine := by rw [List.length_map, sizeLine_eq]; omega
  have hn : H p = none := I.hok.fresh hp
  have J : Inv X pins σ (upd H p (.lst (M.map fun q => V.ref q.1))) { s with heap := s'.heap, gens := s'.gens, drawn := s'.drawn, toks := s'.toks } :=
    I.call (ch := []) (Un.laid k hp hn) (I.hok.laid k hp ⟨hlen, _, c, vals_of_refs M, hg⟩) (by rw [g]; exact I.bare) (fun _ z => nomatch z)
  have e : s' = { s with heap := s'.heap, gens := s'.gens, drawn := s'.drawn, toks := s'.toks } := by
    cases s'
    cases s
    cases o
    rfl
  rw [e]
  exact ⟨.ref p, _, J, rfl, q M p pm ((pm.map (·.2)).nodup_iff.mpr R.nd) pw hn⟩
def eSortSet (a : EA) : E := fun ρ st => bindR (a ρ st) fun vs st1 => match vs with
  | [v] => match (lstOf st1 v).bind tupsOf with
    | some ts => if ts.length < 64 then .ok (.lst ((sortLL (dedupL ts)).map tV)) st1 else .bad
    | none => .bad
  | _ => .bad
theorem map_snd {H : Hp} {us : List V} : (us.map fun u => ((match u with | .ref a => a | _ => 0 : Addr), tOf H u)).map (·.2) = us.map (tOf H) := by
  rw [List.map_map]; rfl
theorem e_sortSet {e : Expr} {as : EA} {p1 p2 q1 q2 : Pos} (hK : T.K = X.K) (hc : X.calm = true) (hu : X.A.units + 64 < cLine) (hm : X.mg "sorted" = none) (hms : X.mg "set" = none) (ha : PA X [e] (tA T W as)) (hg : Gl X "sorted" := by rfl) (hgs : Gl X "set" := by rfl)
    (he : starEach [e] X.env = (false, eval e X.env) :: starEach [] X.env := by rfl) (hpl : (backTo q2 (starEach [] X.env)).any (·.1) = false := by rfl)
    (he2 : starEach [.Call (.Name "set" q1) [e] [] q2] X.env = (false, eval (.Call (.Name "set" q1) [e] [] q2) X.env) :: starEach [] X.env := by rfl) (hpl2 : (backTo p2 (starEach [] X.env)).any (·.1) = false := by rfl) :
    PE X (.Call (.Name "sorted" p1) [.Call (.Name "set" q1) [e] [] q2] [] p2) (tE T W (eSortSet as)) := by
  have ps := pe_callTy (cr_setOfT hc hu) hgs hms (by decide +kernel) ha (by decide) (by decide) he hpl (pos := q2) (p := q1)
  refine pe_imp (pe_callB (cr_sortSet hc) hg hm (by decide +kernel) (pa_cons ps pa_nil he2) (by decide) (by decide) he2 hpl2) fun σ H Q h => ?_
  show (tCB (rSetOfT X.K X.prog X.w) (tA T W as)) σ H fun v H1 => rSortSet X.K X.prog X.w [v] H1 Q
  refine tG_bind h fun vs ρ st1 φ1 H1 us re1 q1 p1 => ?_
  split at p1
  · rename_i v
    cases q1 with
    | cons r1 r2 =>
      cases r2
      split at p1
      · rename_i ts hts
        split at p1
        · rename_i hlen
          rw [Option.bind_eq_some_iff] at hts
          obtain ⟨xs, hx, ht⟩ := hts
          obtain ⟨l, ys, rfl, hs, rv⟩ := rel_lst re1.rst r1 hx
          obtain ⟨i1, i2⟩ := rel_tups rv ht
          let ks : List (Addr × List Int) := ys.map fun u => ((match u with | .ref a => a | _ => 0 : Addr), tOf H1 u)
          have ek : ks.map (fun p => V.ref p.1) = ys := by
            show (ys.map _).map _ = ys
            rw [List.map_map]
            refine (List.map_congr_left fun u hu => ?_).trans (List.map_id' ys)
            obtain ⟨t, rfl, _⟩ := i2 u hu
            rfl
          have e2 : ks.map (·.2) = ts := map_snd.trans i1
          have inK : ∀ p ∈ ks, H1 p.1 = some (.tup (p.2.map V.int)) ∧ p.2 ≠ [] := fun p hp => by
            obtain ⟨u, hu, rfl⟩ := List.mem_map.mp hp
            obtain ⟨t, rfl, h1, h2⟩ := i2 u hu
            exact ⟨h1, h2⟩
          refine ⟨l, ks, rfl, by rw [ek, ← hK]; exact hs, fun p hp => SqT.of (inK p hp).1, ?_, fun a L hna sub cov => ?_⟩
          · have := congrArg List.length e2
            rw [List.length_map] at this
            rw [this]; exact hlen
          · have f1 := Ext.fresh (ho := SetTO X.prog X.w a L) re1.rst hna
            refine ⟨a, L, rfl, upd_same, fun p hp => SqT.of (f1.tups _ _ (inK p (sub p hp)).1), fun p hp => (inK p (sub p hp)).2, fun M p pm nd pw hn => ?_⟩
            have R1 := re1.rst.fresh (ho := SetTO X.prog X.w a L) hna
            have f2 := Ext.fresh (ho := .lst (M.map fun q => V.ref q.1)) R1 hn
            refine p1 φ1 _ _ (f1.trans f2) (R1.fresh hn) (.lst (.inl ⟨R1.nolive hn, .inl upd_same⟩) ?_)
            have e3 : M.map (·.2) = sortLL (dedupL ts) := by
              refine sortLL_is ((List.perm_ext_iff_of_nodup nd (nodup_dedupL ts)).mpr fun x => ?_) (List.pairwise_map.mpr (pw.imp fun h => ?_))
              · rw [mem_dedupL, ← e2]
                constructor
                · intro hx
                  obtain ⟨q, hq, rfl⟩ := List.mem_map.mp hx
                  exact List.mem_map_of_mem (sub q (pm.mem_iff.mp hq))
                · intro hx
                  obtain ⟨q, hq, rfl⟩ := List.mem_map.mp hx
                  exact (pm.map (·.2)).mem_iff.mpr (cov q hq)
              · unfold leL
                rw [h]; rfl
            rw [← e3]
            have inM : ∀ q ∈ M, H1 q.1 = some (.tup (q.2.map V.int)) := fun q hq => (inK q (sub q (pm.mem_iff.mp hq))).1
            have all : ∀ M : List (Addr × List Int), (∀ q ∈ M, H1 q.1 = some (.tup (q.2.map V.int))) → RelVs T φ1 H1 ((M.map (·.2)).map tV) (M.map fun q => V.ref q.1) := fun M => by
              induction M with
              | nil => exact fun _ => .nil
              | cons q M ih => exact fun hM => .cons (.tup (hM q List.mem_cons_self) (rel_ofInts _)) (ih fun r hr => hM r (List.mem_cons_of_mem _ hr))
            exact ((all M inM).ext f1).ext f2
        · exact p1.elim
      · exact p1.elim
  · exact p1.elim
end
end Ev

set_option Elab.async false
set_option linter.all false
set_option maxRecDepth 100000
set_option maxHeartbeats 2000000
namespace L2
open PySem PySem.Spec PyProof.Rows
section
variable {prog : Program} {w : World} {A : Around} {E : Value → Shared → Prop} {s : Shared} {t : Addr}
theorem max_tupI {xs : Array (Int × Tok)} {Q : Value → Shared → Prop} (hh : A.handled = none) (ht : s.heap.IsTuple t (intItems xs)) (hne : 0 < xs.size)
    (h : ∀ v h' tk, (intItems xs)[argBest (fun i j => decide (numAt xs i > numAt xs j)) (xs.size - 1)]? = some v → (∀ b o, s.heap.get? b = some o → h'.get? b = some o) → Q v { s with heap := h', toks := tk }) :
    wpAny (model prog w) A (call (.builtin "max") [.ref t]) Q E s := by
  obtain ⟨o, ho, hc, n, hd⟩ := id ht
  have hnt : t ≠ s.heap.objs.size := Nat.ne_of_lt (Heap.lt_size ho)
  refine call_max_walk (wpAny_pyIter_tuple ht ?_)
  refine ⟨s.heap.objs.size, _, _, _, _, _, _, rfl, Walks.tuple (A := A.in1) hh _ t hnt (intItems xs), ⟨⟨_, Heap.get?_push_size _ rfl, rfl, rfl⟩, ht.push _⟩, fun b hb => ?_, by simpa [intItems] using hne, CmpOf.ints_gt (numAt xs) (fun _ _ => intItems_at), fun v h' tk hP hk => ?_⟩
  · rcases List.mem_cons.mp hb with rfl | hb
    · exact Heap.lt_size (Heap.get?_push_size _ rfl)
    · cases List.mem_singleton.mp hb
      exact Heap.lt_size (Heap.get?_push_of_some _ ho)
  · refine h v h' tk (by simpa [intItems] using hP) fun b o e => hk b o (fun hb => ?_) (Heap.get?_push_of_some _ e)
    exact absurd (Heap.lt_size e) ((List.mem_singleton.mp hb) ▸ Nat.lt_irrefl _)
theorem max_tupR {l : Addr} {its : List Value} {ns : List Int} {Q : Value → Shared → Prop} (hh : A.handled = none) (hl : s.heap.IsTuple l its.toArray) (hi : IntsAre its ns) (hne : 0 < ns.length)
    (h : ∀ h' tk M t', (∀ b o, s.heap.get? b = some o → h'.get? b = some o) → M ∈ ns → (∀ a, a ∈ ns → a ≤ M) → Q (.int M t') { s with heap := h', toks := tk }) : wpAny (model prog w) A (call (.builtin "max") [.ref l]) Q E s := by
  obtain ⟨xs, e⟩ := hi.allInts.items
  have en : numsOf (intItems xs).toList = ns := e ▸ hi.numsOf
  rw [nums_intItems] at en
  subst en
  rw [e] at hl
  have hp : 0 < xs.size := by simpa using hne
  refine max_tupI hh hl hp fun v h' tk hv hk => ?_
  obtain ⟨t, rfl⟩ := intItems_at hv
  obtain ⟨h1, h2⟩ := argBest_gt (numAt xs) (xs.size - 1)
  refine h h' tk _ t hk ?_ fun a ha => ?_
  · rw [numAt_eq]; exact PySem.getD_mem (by rw [List.length_map, Array.length_toList]; exact Nat.lt_of_le_of_lt h1 (by omega))
  · obtain ⟨j, hj, e2⟩ := List.mem_iff_getElem.mp ha
    rw [List.length_map, Array.length_toList] at hj
    have e3 : a = numAt xs j := by
      rw [numAt_eq, List.getD_eq_getElem?_getD, ← e2, List.getElem?_eq_getElem (by simpa using hj)]
      rfl
    rw [e3]
    exact h2 j (by omega)
end
section
variable {X : Cx}
def rSumT (K : PySem.W.Frag) : List V → Hp → VK → Prop := fun vs H Q => ∃ (a : Addr) (ns : List Int), vs = [V.ref a] ∧ SqT K H a (ns.map V.int) ∧ Q (.int ns.sum) H
theorem sum_tupR {P : Program} {w : World} {A : Around} {E : Value → Shared → Prop} {s : Shared} {l : Addr} {its : List Value} {ns : List Int} {Q : Value → Shared → Prop} (hh : A.handled = none) (hl : s.heap.IsTuple l its.toArray) (hi : IntsAre its ns)
    (h : ∀ h' tk t', (∀ b o, s.heap.get? b = some o → h'.get? b = some o) → Q (.int ns.sum t') { s with heap := h', toks := tk }) : wpAny (model P w) A (call (.builtin "sum") [.ref l]) Q E s := by
  obtain ⟨xs, e⟩ := hi.allInts.items
  have en : numsOf its.toArray.toList = ns := hi.numsOf
  rw [e] at hl en
  rw [nums_intItems] at en
  refine PySem.W.ktm_sumG hh hl fun h' tk t' hk => ?_
  have z := h h' tk t' hk
  rw [preSum_eq, List.take_of_length_le (by simp), en]
  exact z
theorem cr_sumT (hc : X.calm = true) : CallR X (.builtin "sum") (rSumT X.K) := by
  intro pins s σ H vs us Q I r h
  obtain ⟨a, ns, rfl, hs, q⟩ := h
  obtain ⟨its, rv, hl, _⟩ := I.tuple hs
  rw [Vals.ref1 r]
  exact sum_tupR (I.ok.hd hc) hl rv.ints fun h' tk t' k => ⟨.int _, H, I.kept k, ⟨_, rfl⟩, q⟩
def rMaxT (K : PySem.W.Frag) : List V → Hp → VK → Prop := fun vs H Q => ∃ (a : Addr) (ns : List Int), vs = [V.ref a] ∧ SqT K H a (ns.map V.int) ∧ 0 < ns.length ∧ ∀ m, m ∈ ns → (∀ y, y ∈ ns → y ≤ m) → Q (.int m) H
theorem cr_maxT (hc : X.calm = true) : CallR X (.builtin "max") (rMaxT X.K) := by
  intro pins s σ H vs us Q I r h
  obtain ⟨a, ns, rfl, hs, hne, q⟩ := h
  obtain ⟨its, rv, hl, _⟩ := I.tuple hs
  rw [Vals.ref1 r]
  exact max_tupR (I.ok.hd hc) hl rv.ints hne fun h' tk m t' k h1 h2 => ⟨.int _, H, I.kept k, ⟨_, rfl⟩, q m h1 h2⟩
/-- sorted(l, key=sum), l a list of tuples of ints -/
def bySum (p q : Addr × List Int) : Bool := decide (p.2.sum ≤ q.2.sum)
def rSortSum (K : PySem.W.Frag) : List V → Hp → VK → Prop := fun vs H Q => ∃ (l : Addr) (rows : List (Addr × List Int)), vs = [V.ref l] ∧ SqL K H l (rows.map fun p => V.ref p.1) ∧ (∀ p ∈ rows, SqT K H p.1 (p.2.map V.int)) ∧
  ∀ p, H p = none → Q (.ref p) (upd H p (.lst ((rows.mergeSort bySum).map fun q => V.ref q.1)))
theorem each_refs : ∀ {rows : List (Addr × List Int)}, PySem.W.EachIs (fun (v : Value) (p : Addr × List Int) => v = .ref p.1) (rows.map fun p => Value.ref p.1) rows
  | [] => .nil
  | _ :: _ => .cons rfl each_refs
theorem refs_each : ∀ {out : List Value} {rows : List (Addr × List Int)}, PySem.W.EachIs (fun (v : Value) (p : Addr × List Int) => v = .ref p.1) out rows → out = rows.map fun p => Value.ref p.1
  | _, _, .nil => rfl
  | _, _, .cons e t => by rw [List.map_cons, e, refs_each t]
theorem sort_sum_run {pins : List (Addr × Obj)} {s : Shared} {σ : St} {H : Hp} {vs : List V} {us : List Value} {Q : VK} (hc : X.calm = true) (hu : X.A.units + 64 < cLine) (I : Inv X pins σ H s) (r : Vals vs us) (h : rSortSum X.K vs H Q) :
    wpAny (model X.prog X.w) X.A (call (.builtin "sorted") us [(Str.ofString "key", .builtin "sum")]) (EP X pins σ Q) X.xe s := by
  obtain ⟨l, rows, rfl, hl, gk, q⟩ := h
  rw [Vals.ref1 r]
  obtain ⟨its, rv, pl, hz⟩ := I.list hl
  obtain rfl := refs_of_vals rv
  rw [List.length_map] at hz
  refine PySem.W.sorted_key_data (b := false) (R := fun (v : Value) (p : Addr × List Int) => v = .ref p.1) (bs := rows) (fun p => .int p.2.sum) pl.isList each_refs (PySem.W.AllAlike.of fun _ _ => by simp [PySem.W.alike]) (PySem.W.Sortable.others fun _ => ⟨by simp, by simp⟩) hz (fun p _ => ?_)
    (PyProof.Rows.ksk_s1 _ _) (fun _ => PyProof.Rows.ksk_l1 _ _) (fun _ => PyProof.Rows.ksk_t4 _ _) (fun v p e hp h tk kp => ?_) fun out c h' tk kp _ hD hlen eo => ?_
  · have : (PyData.int p.2.sum).depth = 0 := by simp [PyData.depth]
    omega
  · subst e
    obtain ⟨its, rv2, pl2, _⟩ := I.tuple (gk p hp)
    have pl3 : h.IsTuple p.1 its.toArray := by
      obtain ⟨o, ho, w1, w2⟩ := pl2
      exact ⟨o, kp _ _ ho, w1, w2⟩
    refine sum_tupR (A := X.A.in1.in1) (by simp [I.ok.hd hc]) pl3 rv2.ints fun h2 tk2 t2 k2 => ?_
    exact ⟨h2, tk2, rfl, k2, by first | exact ⟨_, rfl⟩ | constructor⟩
  · rw [PySem.W.dataLe_int (fun p : Addr × List Int => p.2.sum)] at eo
    have e := refs_each eo
    subst e
    exact ⟨.ref _, upd H (s.heap.objs.size + 1) (.lst ((rows.mergeSort bySum).map fun q => V.ref q.1)), I.laid (t' := tk) kp (Nat.le_succ _) ⟨by rw [List.length_map, List.length_mergeSort]; exact hz, _, c, vals_of_refs _, hD⟩, rfl, q _ (I.hok.fresh (Nat.le_succ _))⟩
theorem pe_sortSum {p q pos kpos : Pos} {e : Expr} {t : TA} (hc : X.calm = true) (hu : X.A.units + 64 < cLine) (hm : X.mg "sorted" = none) (hs : X.mg "sum" = none) (ha : PA X [e] t) (hg : Gl X "sorted" := by rfl) (hgs : Gl X "sum" := by rfl)
    (he : backTo pos (starEach [e] X.env) = (false, eval e X.env) :: backTo pos (starEach [] X.env) := by rfl) (hpl : (backTo pos (starEach [e] X.env)).any (·.1) = false := by rfl) :
    PE X (.Call (.Name "sorted" p) [e] [⟨some "key", .Name "sum" q, kpos⟩] pos) (tCB (rSortSum X.K) t) := by
  refine ⟨fun pins s σ H Q I h => ?_⟩
  refine wpAny_Call_Name_kw (ld_blt I hg hm (u := .builtin "sorted") (by decide +kernel) ?_ (by decide) (by decide))
  refine PyProof.Rows.callWith_kw (thn (ha.run pos pins s σ H _ I h) fun us s1 ⟨vs, H1, I1, r1, q1⟩ => ?_) he hpl (by rfl) (by rfl)
  show wpAny _ _ (evalAll [(do let v ← eval (.Name "sum" q) X.env; standAt pos; pure v)]) _ _ s1
  refine wpAny_evalAll_cons (wpAny_bind (ld_blt I1 hgs hs (u := .builtin "sum") (by decide +kernel) (wpAny_bind (wpAny_standAt (wpAny_pure ?_))) (by decide) (by decide)))
  refine wpAny_evalAll_nil ?_
  show wpAny _ _ (call (.builtin "sorted") us [(Str.ofString "key", .builtin "sum")]) _ _ _
  exact sort_sum_run hc hu I1 r1 q1
end
end L2

set_option Elab.async false
set_option linter.all false
set_option maxRecDepth 100000
namespace Ev
open PySem PySem.Spec PyProof.Rows L2
def seenY (g : Addr → Option Obj) (n : Nat) : List Addr := He.asD g n ++ [cStatics]
def obsY (n : Nat) (fa : List He.Fa) (fn : List He.DefD) (tf : List He.Defn) (ex : PySem.W.Frag → Bool) (g : Addr → Option Obj) : He.AlX :=
  (He.obsT fa fn [] (He.frT g (seenY g n)), ex (He.frT g (seenY g n)) && He.tabsB g tf (He.frT g (seenY g n)))
theorem saysY {n : Nat} {fa : List He.Fa} {fn : List He.DefD} {tf : List He.Defn} {ex : PySem.W.Frag → Bool} {w : World} {h : Heap} (e : obsY n fa fn tf ex h.get? = He.valX fn [] w) : He.SaysX fa fn [] tf ex w h (He.frT h.get? (seenY h.get? n)) := by
  unfold obsY at e
  generalize hF : He.frT h.get? (seenY h.get? n) = F at e
  have none_of : ∀ {a : Addr} {o : Obj}, h.get? a = some o → He.emptyTab o = true → F.lookup a = none := fun {a o} q z => hF ▸ He.frT_none q z
  clear hF
  obtain ⟨m, t⟩ := Bool.and_eq_true_iff.mp (congrArg Prod.snd e)
  have tab : ∀ p ∈ tf, PySem.W.codeHdIn F (He.cT F p).1 (He.cT F p).2 = true ∧ ∃ o, h.get? (He.cT F p).2 = some o ∧ He.emptyTab o = true := fun p hp => by
    obtain ⟨a, b⟩ := Bool.and_eq_true_iff.mp (List.all_eq_true.mp t p hp)
    refine ⟨a, ?_⟩
    split at b
    · rename_i o q
      exact ⟨o, q, b⟩
    · cases b
  refine ⟨congrArg Prod.fst e, m, fun p hp => (tab p hp).1, fun p hp => ?_, fun p hp => ?_⟩
  · obtain ⟨_, o, q, z⟩ := tab p hp
    exact none_of q z
  · obtain ⟨_, o, q, z⟩ := tab p hp
    rw [q, He.emptyTab_eq z]
def hookY (n : Nat) (fa : List He.Fa) (fn : List He.DefD) (tf : List He.Defn) (ex : PySem.W.Frag → Bool) : PySem.W.Hook where
  α := He.AlX
  obs := fun s => obsY n fa fn tf ex s.heap.get?
  val := He.valX fn []
  says := fun w h => ∃ F : PySem.W.Frag, F.In h ∧ He.SaysX fa fn [] tf ex w h F
  of := fun _ _ e => ⟨_, He.frT_in, saysY e⟩
  keeps := fun _ _ _ ⟨F, hF, c⟩ k => ⟨F, hF.keeps k, c.t, c.more, c.hd, c.out, fun p hp => k _ _ (c.empty p hp)⟩
theorem obsY_eq {n : Nat} {fa : List He.Fa} {fn : List He.DefD} {tf : List He.Defn} {ex : PySem.W.Frag → Bool} {g : Addr → Option Obj} {s : Shared} (h : ∀ a, g a = s.heap.get? a) : obsY n fa fn tf ex g = (hookY n fa fn tf ex).obs s := by
  obtain rfl : g = s.heap.get? := funext h
  rfl
end Ev

set_option Elab.async false
set_option linter.all false
set_option maxRecDepth 100000
set_option maxHeartbeats 2000000
namespace Ev
open PySem PySem.Spec PyProof.Rows L2
section
variable {T : Tab}
def fSumT (_ : Sto) (vs : List Val) : Option Val := match vs with
  | [.tup xs] => (intsOf xs).map fun ns => .int ns.sum
  | _ => none
theorem snd_sumT : SndC T (rSumT T.K) fSumT := by
  intro φ st H vs us z Q R r hf hq
  unfold fSumT at hf
  split at hf
  · cases r with
    | cons a b =>
      cases b
      simp only [Option.map_eq_some_iff] at hf
      obtain ⟨ns, en, rfl⟩ := hf
      obtain ⟨p, ws, rfl, hs, rv⟩ := rel_tup a rfl
      exact ⟨p, ns, rfl, by rw [← rel_ints rv en]; exact SqT.of hs, hq H _ Ext.refl R (.int _)⟩
  · cases hf
def fMaxT (_ : Sto) (vs : List Val) : Option Val := match vs with
  | [.tup xs] => (intsOf xs).bind fun ns => if 0 < ns.length then some (.int (maxI ns)) else none
  | _ => none
theorem snd_maxT : SndC T (rMaxT T.K) fMaxT := by
  intro φ st H vs us z Q R r hf hq
  unfold fMaxT at hf
  split at hf
  · cases r with
    | cons a b =>
      cases b
      simp only [Option.bind_eq_some_iff] at hf
      obtain ⟨ns, en, hf⟩ := hf
      split at hf
      · rename_i hp
        cases hf
        obtain ⟨p, ws, rfl, hs, rv⟩ := rel_tup a rfl
        exact ⟨p, ns, rfl, by rw [← rel_ints rv en]; exact SqT.of hs, hp, fun m h1 h2 => by rw [maxI_is h1 h2]; exact hq H _ Ext.refl R (.int _)⟩
      · cases hf
  · cases hf
def leSum (a b : List Int) : Bool := decide (a.sum ≤ b.sum)
def sortSum (ts : List (List Int)) : List (List Int) := Gr.isort leSum ts
theorem ins_mid {α : Type} {le : α → α → Bool} {a : α} {l2 : List α} (h2 : ∀ b, b ∈ l2 → le a b = true) : ∀ {l1 : List α}, (∀ b, b ∈ l1 → (!le a b) = true) → Gr.insL le a (l1 ++ l2) = l1 ++ a :: l2
  | [], _ => by
    cases l2 with
    | nil => rfl
    | cons b l2 =>
      show (if le a b = true then a :: b :: l2 else b :: Gr.insL le a l2) = _
      rw [if_pos (h2 b List.mem_cons_self)]; rfl
  | c :: l1, h1 => by
    have hc : le a c = false := by simpa using h1 c List.mem_cons_self
    show (if le a c = true then _ else c :: Gr.insL le a (l1 ++ l2)) = _
    rw [if_neg (by rw [hc]; decide), ins_mid h2 fun b hb => h1 b (List.mem_cons_of_mem _ hb)]; rfl
theorem isort_merge {α : Type} {le : α → α → Bool} (tr : ∀ a b c, le a b = true → le b c = true → le a c = true) (tot : ∀ a b, (le a b || le b a) = true) : ∀ xs : List α, Gr.isort le xs = xs.mergeSort le
  | [] => by simp [Gr.isort]
  | a :: xs => by
    obtain ⟨l1, l2, e1, e2, h⟩ := List.mergeSort_cons (le := le) tr tot a xs
    have pw := List.pairwise_mergeSort (le := le) tr tot (a :: xs)
    rw [e1] at pw ⊢
    show Gr.insL le a (Gr.isort le xs) = _
    rw [isort_merge tr tot xs, e2]
    refine ins_mid (fun b hb => ?_) h
    exact (List.pairwise_cons.mp (List.pairwise_append.mp pw).2.1).1 b hb
theorem sortSum_rows (rows : List (Addr × List Int)) : sortSum (rows.map (·.2)) = (rows.mergeSort bySum).map (·.2) := by
  unfold sortSum
  rw [isort_merge (fun a b c h1 h2 => by unfold leSum at *; simp only [decide_eq_true_eq] at *; omega) (fun a b => by unfold leSum; simp only [Bool.or_eq_true, decide_eq_true_eq]; omega)]
  exact (List.map_mergeSort (f := (·.2)) (r := bySum) (s := leSum) (l := rows) fun a _ b _ => rfl).symm
def rowOf (H : Hp) (u : V) : Addr × List Int := ((match u with | .ref a => a | _ => 0 : Addr), tOf H u)
/-- what stands in a list of tuples -/
theorem rows_of {φ : Phi} {H : Hp} {xs : List Val} {ys : List V} {ts : List (List Int)} (rv : RelVs T φ H xs ys) (ht : tupsOf xs = some ts) : (ys.map (rowOf H)).map (fun p => V.ref p.1) = ys ∧ (ys.map (rowOf H)).map (·.2) = ts ∧ ∀ p ∈ ys.map (rowOf H), H p.1 = some (.tup (p.2.map V.int)) ∧ p.2 ≠ [] := by
  obtain ⟨i1, i2⟩ := rel_tups rv ht
  refine ⟨?_, by rw [List.map_map]; exact i1, fun p hp => ?_⟩
  · rw [List.map_map]
    refine (List.map_congr_left fun u hu => ?_).trans (List.map_id' ys)
    obtain ⟨t, rfl, _⟩ := i2 u hu
    rfl
  · obtain ⟨u, hu, rfl⟩ := List.mem_map.mp hp
    obtain ⟨t, rfl, h1, h2⟩ := i2 u hu
    exact ⟨h1, h2⟩
theorem rows_rel {φ : Phi} {H : Hp} : ∀ (M : List (Addr × List Int)), (∀ q ∈ M, H q.1 = some (.tup (q.2.map V.int))) → RelVs T φ H ((M.map (·.2)).map tV) (M.map fun q => V.ref q.1)
  | [], _ => .nil
  | q :: M, h => .cons (.tup (h q List.mem_cons_self) (rel_ofInts _)) (rows_rel M fun r hr => h r (List.mem_cons_of_mem _ hr))
end
section
variable {X : Cx} {T : Tab} {W : WX}
def eSortSum (a : EA) : E := fun ρ st => bindR (a ρ st) fun vs st1 => match vs with
  | [v] => match (lstOf st1 v).bind tupsOf with
    | some ts => .ok (.lst ((sortSum ts).map tV)) st1
    | none => .bad
  | _ => .bad
theorem e_sortSum {e : Expr} {as : EA} {p q pos kpos : Pos} (hK : T.K = X.K) (hc : X.calm = true) (hu : X.A.units + 64 < cLine) (hm : X.mg "sorted" = none) (hs : X.mg "sum" = none) (ha : PA X [e] (tA T W as)) (hg : Gl X "sorted" := by rfl) (hgs : Gl X "sum" := by rfl)
    (he : backTo pos (starEach [e] X.env) = (false, eval e X.env) :: backTo pos (starEach [] X.env) := by rfl) (hpl : (backTo pos (starEach [e] X.env)).any (·.1) = false := by rfl) :
    PE X (.Call (.Name "sorted" p) [e] [⟨some "key", .Name "sum" q, kpos⟩] pos) (tE T W (eSortSum as)) := by
  refine pe_imp (pe_sortSum hc hu hm hs ha hg hgs he hpl) fun σ H Q h => ?_
  refine tG_bind h fun vs ρ st1 φ1 H1 us re1 q1 p1 => ?_
  split at p1
  · rename_i v
    cases q1 with
    | cons r1 r2 =>
      cases r2
      split at p1
      · rename_i ts hts
        rw [Option.bind_eq_some_iff] at hts
        obtain ⟨xs, hx, ht⟩ := hts
        obtain ⟨l, ys, rfl, hl, rv⟩ := rel_lst re1.rst r1 hx
        obtain ⟨w1, w2, w3⟩ := rows_of rv ht
        refine ⟨l, ys.map (rowOf H1), rfl, by rw [w1, ← hK]; exact hl, fun p hp => SqT.of (w3 p hp).1, fun p hp => ?_⟩
        have f1 := Ext.fresh (ho := .lst (((ys.map (rowOf H1)).mergeSort bySum).map fun q => V.ref q.1)) re1.rst hp
        refine p1 φ1 _ _ f1 (re1.rst.fresh hp) (.lst (.inl ⟨re1.rst.nolive hp, .inl upd_same⟩) ?_)
        rw [← w2, sortSum_rows]
        exact (rows_rel _ fun q hq => (w3 q ((List.mergeSort_perm _ _).mem_iff.mp hq)).1).ext f1
      · exact p1.elim
  · exact p1.elim
/-- f() of a def of the text -/
theorem e_callF0 {k j : Nat} {m : Fn} {x : Str} {p pos : Pos} {sx : Stmt} (F : FnAt X.prog X.w X.K X.mg X.base T j x sx [] m) (hr : Room k X.A) (hgd : X.A.guards = some []) (tk : Takes X W) (hjk : j ≤ k := by decide) (hg : Gl X x := by rfl) (hdb : (x == ("__debug__" : Str)) = false := by decide) :
    PE X (.Call (.Name x p) [] [] pos) (tE T W (eCall 0 m eNil)) := by
  obtain ⟨f, fd, hm, hk, hb, F, _⟩ := F.ex
  refine ⟨fun pins s σ H Q I h => ?_⟩
  refine wpAny_Call_Name_kw (ld_glob I hg hm ?_ hdb)
  obtain ⟨φ, ρ, st, re, pp⟩ := h
  have q := call_sound (np := 0) re.rst .nil pp
  refine PySem.W.callWith_K0 I.kIn hk ?_
  exact run_fnG (args := ⟨[], []⟩) (E := fun σ c d H' => W c d σ H') (F.mono hjk) hr hgd (fun pins H s e s' I c => passAt tk σ pins H s e s' I c) I (hb s [] I.kIn rfl) .nil q
end
end Ev

set_option Elab.async false
set_option linter.all false
set_option maxRecDepth 100000
set_option maxHeartbeats 2000000
namespace Ev
open PySem PySem.Spec PyProof.Rows L2
section
variable {T : Tab} {φ φ' φ'' φ1 ψ ψ' : Phi} {H H' H'' H1 : Hp} {st st' : Sto} {D : Addr}
/-- D is the list that grows -/
def LState (T : Tab) (φ1 : Phi) (H1 : Hp) (D : Addr) (ψ : Phi) (st : Sto) (H : Hp) (ys : List Val) : Prop := ∃ φ us, ψ = φ.hide D ∧ Ext φ1 H1 φ H ∧ Rst T ψ st H ∧ H D = some (.lst us) ∧ RelVs T ψ H ys us
theorem LState.step {ys : List Val} (d : LState T φ1 H1 D ψ st H ys) (hD : H1 D = none) (nh : ∀ a, a ∈ φ1.hid → a ≠ D) (e : Ext ψ H ψ' H') (R : Rst T ψ' st' H') : LState T φ1 H1 D ψ' st' H' ys := by
  obtain ⟨φ, us, rfl, e1, _, h1, h2⟩ := d
  obtain ⟨φ', rfl, e2, _⟩ := Ext.outof e1 e hD nh
  exact ⟨φ', us, rfl, e2, R, (e.hidk D List.mem_cons_self).trans h1, h2.ext e⟩
theorem LState.put {ys : List Val} {v : Val} {z : V} (d : LState T φ1 H1 D ψ st H ys) (hD : H1 D = none) (nh : ∀ a, a ∈ φ1.hid → a ≠ D) (r : RelV T ψ H v z) : ∃ us, H D = some (.lst us) ∧ us.length = ys.length ∧ ExtV ψ H ψ (upd H D (.lst (us ++ [z]))) ∧ LState T φ1 H1 D ψ st (upd H D (.lst (us ++ [z]))) (ys ++ [v]) := by
  obtain ⟨φ, us, rfl, e1, R, h1, h2⟩ := d
  have ht : ∀ ws, H D ≠ some (.tup ws) := fun ws q => by rw [h1] at q; cases q
  obtain ⟨φ', e, _, e3⟩ := Ext.outof e1 (Ext.refl (φ := φ.hide D) (H := H)) hD nh
  have e : φ = φ' := by
    have q1 := congrArg Phi.l e
    have q2 := congrArg Phi.hid e
    cases φ; cases φ'
    simp only [Phi.hide, List.cons.injEq, true_and] at q1 q2
    rw [q1, q2]
  subst e
  exact ⟨us, h1, h2.length.symm, hidden_v ht, φ, _, rfl, e3 _, R.hidden ht, upd_same, (h2.append (.cons r .nil)).extV (hidden_v ht)⟩
end
def lcIn (g : G) (c : ET) (k : E) (ρ : Env) : List Val → List Val → Sto → Res (List Val)
  | [], ys, st => .ok ys st
  | x :: xs, ys, st => match g x ρ st with
    | some (ρ1, st1) => match c ρ1 st1 with
      | .ok true st2 => match k ρ1 st2 with
        | .ok y st3 => if ys.length < sizeLine then lcIn g c k ρ xs (ys ++ [y]) st3 else .bad
        | _ => .bad
      | .ok false st2 => lcIn g c k ρ xs ys st2
      | _ => .bad
    | none => .bad
def lcOut (g : G) (c : ET) (itj : EI) (gj : G) (cj : ET) (k : E) (vj : List Nat) (ρ : Env) : List Val → List Val → Sto → Res (List Val)
  | [], ys, st => .ok ys st
  | x :: xs, ys, st => match g x ρ st with
    | some (ρ1, st1) => match c ρ1 st1 with
      | .ok true st2 => match itj ρ1 st2 with
        | .ok items st3 => match lcIn gj cj k (wipeE ρ1 vj) items ys st3 with
          | .ok ys2 st4 => lcOut g c itj gj cj k vj ρ xs ys2 st4
          | _ => .bad
        | _ => .bad
      | .ok false st2 => lcOut g c itj gj cj k vj ρ xs ys st2
      | _ => .bad
    | none => .bad
def eLc2 (own vj : List Nat) (it : EI) (g : G) (c : ET) (itj : EI) (gj : G) (cj : ET) (k : E) : E := fun ρ st => bindR (it ρ st) fun items st1 => match lcOut g c itj gj cj k vj (wipeE ρ own) items [] st1 with
  | .ok ys st2 => .ok (.lst ys) st2
  | _ => .bad
section
variable {X : Cx} {T : Tab} {W : WX}
theorem lc2_sound {own vj : List Nat} {it itj : EI} {g gj : G} {c cj : ET} {k : E} {σ : L2.St} {H : Hp} {Q : VK} (h : tE T W (eLc2 own vj it g c itj gj cj k) σ H Q) :
    tLc2 (tI T W it) (tGw T own g) (tT T W0 c) (tI T W0 itj) (tGw T vj gj) (tT T W0 cj) (tE T W0 k) own vj σ H Q := by
  unfold tLc2
  refine tG_bind h fun items ρ st1 φ1 H1 J re1 w p => fun D hD => ?_
  obtain ⟨Gd, Y, w1, w2, w3⟩ := w
  have hR1 := re1.rst
  have nh : ∀ a, a ∈ φ1.hid → a ≠ D := fun a h z => hR1.hid a h (z ▸ hD)
  let Fin : List Val → Sto → Prop := fun ys st => Post T (RelV T) W φ1 σ H1 Q (.ok (.lst ys) st)
  have rest0 : okR (lcOut g c itj gj cj k vj (wipeE ρ own) (items.drop 0) [] st1) Fin := by
    rw [List.drop_zero]
    cases hl : lcOut g c itj gj cj k vj (wipeE ρ own) items [] st1 with
    | ok ys st' => rw [hl] at p; exact p
    | ex x st' => rw [hl] at p; exact p.elim
    | bad => rw [hl] at p; exact p.elim
  refine clause_it w1 (stop := fun H' => Q (.ref D) H') (step := fun Nx x H' => tGw T own g x (wipe σ own) H' fun σ2 H2 => wipe σ2 own = wipe σ own ∧ tT T W0 c σ2 H2 fun b H3 =>
    if b = true then tI T W0 itj σ2 H3 fun J1 H4 => tClause J1 H4 Nx fun Nx1 x H' => tGw T vj gj x (wipe σ2 vj) H' fun σ3 H5 => wipe σ3 vj = wipe σ2 vj ∧ tT T W0 cj σ3 H5 fun b H6 =>
        if b = true then tE T W0 k σ3 H6 fun y H7 => ∃ acc, H7 D = some (.lst acc) ∧ acc.length < sizeLine ∧ Nx1 (upd H7 D (.lst (acc ++ [y]))) else Nx1 H6
    else Nx H3) (fun i H' => ∃ ψ st ys, LState T φ1 H1 D ψ st H' ys ∧ okR (lcOut g c itj gj cj k vj (wipeE ρ own) (items.drop i) ys st) Fin) ?_ ?_ ?_ ?_
  · exact ⟨φ1.hide D, st1, [], ⟨φ1, [], rfl, Ext.fresh hR1 hD, hR1.hide hD, upd_same, .nil⟩, rest0⟩
  · rintro i H' ⟨ψ, st, ys, ⟨φ, us, rfl, e1, _⟩, _⟩
    exact w2 φ H' e1.v
  · rintro i x H' H2 hi ⟨ψ, st, ys, d, rest⟩ y
    have ev1 : ExtV φ1 H1 ψ H' := by
      obtain ⟨φ, us, rfl, e1, _⟩ := id d
      exact e1.intoV hD
    have R : Rst T ψ st H' := by
      obtain ⟨φ, us, rfl, _, R, _⟩ := id d
      exact R
    obtain ⟨e2, s2, vx, hv, rx⟩ := w3 i H' x H2 ψ st hi ev1 R y
    rw [drop_at hv] at rest
    have re2 : RelE T ψ (wipeE ρ own) st (wipe σ own) H2 := by
      refine ⟨s2, by rw [wipeE_length, wipe_length]; exact re1.len, fun j w hw => ?_⟩
      obtain ⟨h1, h2⟩ := wipeE_some hw
      obtain ⟨u, h3, h4⟩ := re1.get j w h1
      exact ⟨u, by rw [wipe_get, if_neg h2]; exact h3, (h4.extV ev1).ext e2⟩
    refine ⟨ψ, wipeE ρ own, st, vx, re2, rx, ?_⟩
    unfold lcOut at rest
    cases hg : g vx (wipeE ρ own) st with
    | none => rw [hg] at rest; exact rest.elim
    | some q =>
      obtain ⟨ρ3, st3⟩ := q
      rw [hg] at rest
      dsimp only at rest
      intro φ3 H3 σ3 e3 re3 hw3
      refine ⟨by rw [hw3, wipe_wipe], φ3, ρ3, st3, re3, ?_⟩
      cases hc : c ρ3 st3 with
      | ex x st4 => rw [hc] at rest; exact rest.elim
      | bad => rw [hc] at rest; exact rest.elim
      | ok b st4 =>
        rw [hc] at rest
        intro φ4 H4 b' e4 s4 hb
        subst hb
        have e24 := (e2.trans e3).trans e4
        have d4 := d.step hD nh e24 s4
        have re4 := re3.ext e4 s4
        cases b with
        | false => exact iteF ⟨φ4, st4, ys, d4, rest⟩
        | true =>
          refine iteT ⟨φ4, ρ3, st4, re4, ?_⟩
          dsimp only at rest
          cases hj : itj ρ3 st4 with
          | ex x st5 => rw [hj] at rest; exact rest.elim
          | bad => rw [hj] at rest; exact rest.elim
          | ok items2 st5 =>
            rw [hj] at rest
            dsimp only at rest
            intro φ5 H5 Jj e5 s5 wk
            obtain ⟨Gj, Yj, v1, v2, v3⟩ := wk
            have d5 := d4.step hD nh e5 s5
            have re5 := re4.ext e5 s5
            have rest5 : okR (lcIn gj cj k (wipeE ρ3 vj) (items2.drop 0) ys st5) fun ys2 st6 => okR (lcOut g c itj gj cj k vj (wipeE ρ own) (items.drop (i + 1)) ys2 st6) Fin := by
              rw [List.drop_zero]
              cases hl : lcIn gj cj k (wipeE ρ3 vj) items2 ys st5 with
              | ok ys2 st6 => rw [hl] at rest; exact rest
              | ex x st' => rw [hl] at rest; exact rest.elim
              | bad => rw [hl] at rest; exact rest.elim
            refine clause_it v1 (fun j H' => ∃ ψ st ys, LState T φ1 H1 D ψ st H' ys ∧ ExtV φ5 H5 ψ H' ∧ (∀ a, H5 a ≠ none → H' a ≠ none) ∧ okR (lcIn gj cj k (wipeE ρ3 vj) (items2.drop j) ys st) fun ys2 st6 => okR (lcOut g c itj gj cj k vj (wipeE ρ own) (items.drop (i + 1)) ys2 st6) Fin) ?_ ?_ ?_ ?_
            · exact ⟨φ5, st5, ys, d5, Ext.refl.v, fun _ h => h, rest5⟩
            · rintro j H' ⟨ψ, st, ys, _, ev, _, _⟩
              exact v2 ψ H' ev
            · rintro j x2 H6 H7 hj2 ⟨ψ6, st6, ys6, d6, ev6, n6, rest6⟩ y6
              have R6 : Rst T ψ6 st6 H6 := by
                obtain ⟨φ, us, rfl, _, R, _⟩ := id d6
                exact R
              obtain ⟨e7, s7, vx2, hv2, rx2⟩ := v3 j H6 x2 H7 ψ6 st6 hj2 ev6 R6 y6
              rw [drop_at hv2] at rest6
              have re7 : RelE T ψ6 (wipeE ρ3 vj) st6 (wipe σ3 vj) H7 := by
                refine ⟨s7, by rw [wipeE_length, wipe_length]; exact re5.len, fun j w hw => ?_⟩
                obtain ⟨h1, h2⟩ := wipeE_some hw
                obtain ⟨u, h3, h4⟩ := re5.get j w h1
                exact ⟨u, by rw [wipe_get, if_neg h2]; exact h3, (h4.extV ev6).ext e7⟩
              refine ⟨ψ6, wipeE ρ3 vj, st6, vx2, re7, rx2, ?_⟩
              unfold lcIn at rest6
              cases hg2 : gj vx2 (wipeE ρ3 vj) st6 with
              | none => rw [hg2] at rest6; exact rest6.elim
              | some q =>
                obtain ⟨ρ8, st8⟩ := q
                rw [hg2] at rest6
                dsimp only at rest6
                intro φ8 H8 σ8 e8 re8 hw8
                refine ⟨by rw [hw8, wipe_wipe], φ8, ρ8, st8, re8, ?_⟩
                cases hc2 : cj ρ8 st8 with
                | ex x st9 => rw [hc2] at rest6; exact rest6.elim
                | bad => rw [hc2] at rest6; exact rest6.elim
                | ok b2 st9 =>
                  rw [hc2] at rest6
                  intro φ9 H9 b' e9 s9 hb
                  subst hb
                  have e79 := (e7.trans e8).trans e9
                  have re9 := re8.ext e9 s9
                  cases b2 with
                  | false => exact iteF ⟨φ9, st9, ys6, d6.step hD nh e79 s9, ev6.trans n6 e79.v, fun a h => e79.non a (n6 a h), rest6⟩
                  | true =>
                    refine iteT ⟨φ9, ρ8, st9, re9, ?_⟩
                    dsimp only at rest6
                    cases hk : k ρ8 st9 with
                    | ex x st' => rw [hk] at rest6; exact rest6.elim
                    | bad => rw [hk] at rest6; exact rest6.elim
                    | ok yv st10 =>
                      rw [hk] at rest6
                      dsimp only at rest6
                      intro φ10 H10 u10 e10 s10 r10
                      have e710 := e79.trans e10
                      have d10 := d6.step hD nh e710 s10
                      obtain ⟨us, hus, hlen, evp, dp⟩ := d10.put hD nh r10
                      split at rest6
                      · rename_i hsz
                        refine ⟨us, hus, by rw [hlen]; exact hsz, φ10, st10, ys6 ++ [yv], dp, (ev6.trans n6 e710.v).trans (fun a h => e710.non a (n6 a h)) evp, fun a h => ?_, rest6⟩
                        by_cases ha : a = D
                        · subst ha; rw [upd_same]; exact fun z => nomatch z
                        · rw [upd_ne ha]; exact e710.non a (n6 a h)
                      · exact rest6.elim
            · rintro H' ⟨ψ6, st6, ys6, d6, ev6, n6, rest6⟩
              rw [List.drop_length] at rest6
              unfold lcIn at rest6
              exact ⟨ψ6, st6, ys6, d6, rest6⟩
  · rintro H' ⟨ψ, st, ys, d, rest⟩
    rw [List.drop_length] at rest
    unfold lcOut at rest
    obtain ⟨φ, us, rfl, e1, R, hDl, rv⟩ := d
    have nD : ¬ Live φ D := by
      rintro (⟨n, hn⟩ | hm)
      · exact R.apart n D hn List.mem_cons_self
      · exact nh D (e1.hid ▸ hm) rfl
    exact rest φ H' _ e1 R.unhide (.lst (.inl ⟨nD, .inl hDl⟩) (rv.extV unhideV))
theorem e_lc2 {elt ta ia tb ib : Expr} {fa fb : List Expr} {sc : Scope} {p : Pos} (own : List (Str × Nat)) {vj : List Nat} {it itj : EI} {g gj : G} {c cj : ET} {k : E} (hc : X.calm = true) (hN : X.N.Nodup) (hi : PI X ta ia (tI T W it)) (ok : BlkOk X.N X.env.scope sc own) (hv : ∀ i ∈ vj, i ∈ own.map (·.2))
    (hg : InBlk X sc fun B => PG B ta (tGw T (own.map (·.2)) g)) (ht : InBlk X sc fun B => PTs B fa (tT T W0 c)) (hj : InBlk X sc fun B => PI B tb ib (tI T W0 itj)) (hgj : InBlk X sc fun B => PG B tb (tGw T vj gj)) (htj : InBlk X sc fun B => PTs B fb (tT T W0 cj)) (he : InBlk X sc fun B => PE B elt (tE T W0 k))
    (hs : ∀ x, foldedSetIterable ia X.env x = pure x := by intro _; rfl) (hs1 : ∀ env x, foldedSetIterable ib env x = pure x := by intro _ _; rfl) :
    PE X (.ListComp elt [⟨ta, ia, fa, 0⟩, ⟨tb, ib, fb, 0⟩] sc p) (tE T W (eLc2 (own.map (·.2)) vj it g c itj gj cj k)) := pe_imp (pe_lc2 hc hN hi ok hv hg ht hj hgj htj he hs hs1) fun _ _ _ h => lc2_sound h
/-- name = [.. for .. for ..] on one line -/
theorem s_setLc2 {i : Nat} {y : Str} {py : Pos} {elt ta ia tb ib : Expr} {fa fb : List Expr} {sc : Scope} {p spos : Pos} (own : List (Str × Nat)) {vj : List Nat} {it itj : EI} {g gj : G} {c cj : ET} {k : E} (hc : X.calm = true) (hN : X.N.Nodup) (hi : PI X ta ia (tI T W it)) (ok : BlkOk X.N X.env.scope sc own) (hv : ∀ i ∈ vj, i ∈ own.map (·.2))
    (hg : InBlk X sc fun B => PG B ta (tGw T (own.map (·.2)) g)) (ht : InBlk X sc fun B => PTs B fa (tT T W0 c)) (hj : InBlk X sc fun B => PI B tb ib (tI T W0 itj)) (hgj : InBlk X sc fun B => PG B tb (tGw T vj gj)) (htj : InBlk X sc fun B => PTs B fb (tT T W0 cj)) (he : InBlk X sc fun B => PE B elt (tE T W0 k))
    (hsw : swapsWith (.ListComp elt [⟨ta, ia, fa, 0⟩, ⟨tb, ib, fb, 0⟩] sc p) (some (.Name y py)) spos.line X.env = pure true)
    (hy : X.N[i]? = some y := by rfl) (hyl : X.env.scope.names.lookup y = some .local := by rfl) (hs : ∀ x, foldedSetIterable ia X.env x = pure x := by intro _; rfl) (hs1 : ∀ env x, foldedSetIterable ib env x = pure x := by intro _ _; rfl) :
    PS X (.Assign [.Name y py] (.ListComp elt [⟨ta, ia, fa, 0⟩, ⟨tb, ib, fb, 0⟩] sc p) spos) (tS T W (sSet i (eLc2 (own.map (·.2)) vj it g c itj gj cj k))) := by
  refine ps_imp (ps_setLc2 hc hN hy hyl hsw hi ok hv hg ht hj hgj htj he hs hs1) fun D σ H h => ?_
  refine lc2_sound (W := W) ?_
  exact tS_bind h fun v ρ st1 φ1 H1 u re1 q1 p1 => p1 φ1 H1 _ Ext.refl (re1.set q1 i)
end
end Ev

set_option Elab.async false
set_option linter.all false
set_option maxRecDepth 100000
set_option maxHeartbeats 2000000
namespace Ev
open PySem PySem.Spec PyProof.Rows L2
def nk (k : NK) : NestedKey := .tup [.tup (k.1.map .num), .tup (k.2.map .num)]
theorem nums_inj : ∀ {xs ys : List Int}, xs.map NestedKey.num = ys.map NestedKey.num → xs = ys
  | [], [], _ => rfl
  | [], _ :: _, h => by cases h
  | _ :: _, [], h => by cases h
  | x :: xs, y :: ys, h => by
    rw [List.map_cons, List.map_cons] at h
    injection h with h1 h2
    injection h1 with h1
    rw [h1, nums_inj h2]
theorem nk_inj {k l : NK} (h : nk k = nk l) : k = l := by
  unfold nk at h
  injection h with h
  injection h with h1 h2
  injection h2 with h2 _
  injection h1 with h1
  injection h2 with h2
  exact Prod.ext (nums_inj h1) (nums_inj h2)
theorem nk_eq {k l : NK} : (nk k = nk l) = (k = l) := propext ⟨nk_inj, fun h => by rw [h]⟩
theorem hashes_nums (w : World) : ∀ xs : List Int, NestedKey.hashes w (xs.map .num) = xs.map hashInt
  | [] => rfl
  | x :: xs => by
    show NestedKey.hash w (.num x) :: NestedKey.hashes w (xs.map .num) = _
    rw [hashes_nums w xs]; rfl
theorem nk_hash (w : World) (k : NK) : (nk k).hash w = nkHash k := by
  unfold nk nkHash
  simp only [NestedKey.hash, NestedKey.hashes, hashes_nums]
theorem depth_nums : ∀ xs : List Int, NestedKey.depthAll (xs.map .num) = 0
  | [] => rfl
  | x :: xs => by
    show max (NestedKey.depth (.num x)) (NestedKey.depthAll (xs.map .num)) = 0
    rw [depth_nums xs]; rfl
theorem nk_depth (k : NK) : (nk k).depth ≤ 8 := by
  unfold nk
  simp only [NestedKey.depth, NestedKey.depthAll, depth_nums]
  decide
theorem all_nums {h : Heap} : ∀ {xs : List Int} {vs : List Value}, Vals (xs.map V.int) vs → NestedAll h (xs.map .num) vs
  | [], _, .nil => .nil
  | x :: xs, _, .cons r t => by
    obtain ⟨z, rfl⟩ := r
    exact .cons (.int x z) (all_nums t)
theorem is_nums {P : Program} {w : World} {H : Hp} {h : Heap} {c : Addr} {xs : List Int} (ok : HOk P w H h) (e : H c = some (.tup (xs.map V.int))) : NestedIs h (.tup (xs.map .num)) (.ref c) := by
  obtain ⟨_, its, r, o, ho, hc, n, hd⟩ := ok c _ e
  exact .tup ho hc hd (all_nums r)
theorem is_nk {P : Program} {w : World} {H : Hp} {h : Heap} {b : Addr} {k : NK} (ok : HOk P w H h) (e : IsNK H k b) : (nestedKind P w).is h (nk k) b := by
  obtain ⟨c, d, e1, e2, e3⟩ := e
  refine ⟨?_, nk_depth k⟩
  obtain ⟨_, its, r, o, ho, hc, n, hd⟩ := ok b _ e1
  refine .tup ho hc hd ?_
  match its, r with
  | _, .cons q (.cons q2 .nil) =>
    cases q; cases q2
    exact .cons (is_nums ok e2) (.cons (is_nums ok e3) .nil)
def toX (x : NK × Addr × Bool) : NestedKey × Addr × Value := (nk x.1, x.2.1, .bool x.2.2)
theorem entN_eq (P : Program) (w : World) (x : NK × Addr × Bool) : entN x = entryOfKey (nestedKind P w) (toX x) := by
  unfold entN entryOfKey toX
  dsimp only
  rw [← nk_hash w]
  rfl
abbrev NL := List (NK × Addr × Bool)
theorem ents_eq (P : Program) (w : World) (L : NL) : L.map entN = (L.map toX).map (entryOfKey (nestedKind P w)) := by
  rw [List.map_map]
  exact List.map_congr_left fun x _ => entN_eq P w x
theorem keys_nodup {L : NL} : ((L.map toX).map (·.1)).Nodup ↔ (L.map (·.1)).Nodup := by
  have e : (L.map toX).map (·.1) = (L.map (·.1)).map nk := by
    rw [List.map_map, List.map_map]; rfl
  rw [e]
  constructor
  · intro h
    exact List.Pairwise.of_map _ (fun a b q z => q (by rw [z])) h
  · intro h
    exact List.Pairwise.map _ (fun a b q z => q (nk_inj z)) h
def rawP (a : Addr) (L : NL) (h : Heap) : Prop := ∃ o es ep, h.get? a = some o ∧ o.ExactDict ∧ o.data = .dict es ep ∧ es.toList = L.map entN ∧ (L.map (·.1)).Nodup ∧ (a == sysModules) = false
theorem rawN_ok {P : Program} {w : World} {H : Hp} {h : Heap} {a : Addr} {L : NL} (p : rawP a L h) : ObjOk P w H h a (rawN a L) := by
  refine ⟨p, ?_, fun h1 h2 q k => ?_⟩
  · obtain ⟨o, es, ep, e, _⟩ := p
    exact ⟨o, e⟩
  · obtain ⟨o, es, ep, e, r⟩ := q
    exact ⟨o, es, ep, k _ e, r⟩
theorem rawN_dict {P : Program} {w : World} {H : Hp} {h : Heap} {a : Addr} {L : NL} (ok : HOk P w H h) (e : H a = some (rawN a L)) (hk : ∀ x ∈ L, IsNK H x.1 x.2.1) : h.DictOfH (nestedKind P w) a (L.map toX) ∧ (a == sysModules) = false := by
  obtain ⟨⟨o, es, ep, e1, e2, e3, e4, e5, e6⟩, _⟩ := ok a _ e
  refine ⟨⟨o, es, ep, e1, e2, e3, by rw [e4, ents_eq P w], fun x hx => ?_, keys_nodup.mpr e5⟩, e6⟩
  obtain ⟨y, hy, rfl⟩ := List.mem_map.mp hx
  exact is_nk ok (hk y hy)
/-- the value there -/
def getN (kvs : List (NK × Bool)) (k : NK) : Option Bool := (kvs.find? fun x => decide (x.1 = k)).map (·.2)
def putN (kvs : List (NK × Bool)) (k : NK) (v : Bool) : List (NK × Bool) := if (getN kvs k).isSome then kvs.map fun x => if x.1 = k then (x.1, v) else x else kvs ++ [(k, v)]
def putL (L : NL) (k : NK) (b : Addr) (v : Bool) : NL := if (getN (L.map fun x => (x.1, x.2.2)) k).isSome then L.map fun x => if x.1 = k then (x.1, x.2.1, v) else x else L ++ [(k, b, v)]
theorem at_toX (k : NK) : ∀ L : NL, (atKey (L.map toX) (nk k)).map (·.2) = (getN (L.map fun x => (x.1, x.2.2)) k).map Value.bool
  | [] => rfl
  | x :: L => by
    have ih := at_toX k L
    unfold atKey getN at *
    rw [List.map_cons, List.map_cons, List.find?_cons, List.find?_cons]
    have e : decide ((toX x).1 = nk k) = decide (x.1 = k) := decide_eq_decide.mpr (by show nk x.1 = nk k ↔ _; rw [nk_eq])
    rw [e]
    dsimp only
    cases decide (x.1 = k) with
    | true => rfl
    | false => exact ih
theorem isSome_toX (k : NK) (L : NL) : (atKey (L.map toX) (nk k)).isSome = (getN (L.map fun x => (x.1, x.2.2)) k).isSome := by
  have e := congrArg Option.isSome (at_toX k L)
  rwa [Option.isSome_map, Option.isSome_map] at e
theorem storedL (L : NL) (k : NK) (b : Addr) (v : Bool) : storedH (L.map toX) (nk k) b (.bool v) = (putL L k b v).map toX := by
  unfold storedH putL
  rw [isSome_toX]
  split
  · rw [List.map_map, List.map_map]
    refine List.map_congr_left fun x _ => ?_
    show putAt (nk k) (.bool v) (toX x) = toX (if x.1 = k then (x.1, x.2.1, v) else x)
    unfold putAt
    by_cases e : x.1 = k
    · rw [if_pos e, if_pos (show (toX x).1 = nk k by show nk x.1 = _; rw [e])]; rfl
    · rw [if_neg e, if_neg (show ¬ (toX x).1 = nk k from fun z => e (nk_inj z))]
  · rw [List.map_append]; rfl
theorem putL_vals (L : NL) (k : NK) (b : Addr) (v : Bool) : (putL L k b v).map (fun x => (x.1, x.2.2)) = putN (L.map fun x => (x.1, x.2.2)) k v := by
  unfold putL putN
  split
  · rw [List.map_map, List.map_map]
    refine List.map_congr_left fun x _ => ?_
    show (fun x : NK × Addr × Bool => (x.1, x.2.2)) (if x.1 = k then (x.1, x.2.1, v) else x) = (if x.1 = k then (x.1, v) else (x.1, x.2.2))
    by_cases e : x.1 = k
    · rw [if_pos e, if_pos e]
    · rw [if_neg e, if_neg e]
  · rw [List.map_append]; rfl
theorem putL_mem {L : NL} {k : NK} {b : Addr} {v : Bool} {x : NK × Addr × Bool} (h : x ∈ putL L k b v) : (x.1 = k ∧ x.2.1 = b) ∨ ∃ y ∈ L, y.1 = x.1 ∧ y.2.1 = x.2.1 := by
  unfold putL at h
  split at h
  · obtain ⟨y, hy, rfl⟩ := List.mem_map.mp h
    refine .inr ⟨y, hy, ?_⟩
    split <;> exact ⟨rfl, rfl⟩
  · rcases List.mem_append.mp h with h | h
    · exact .inr ⟨x, h, rfl, rfl⟩
    · cases List.mem_singleton.mp h
      exact .inl ⟨rfl, rfl⟩
section
variable {X : Cx}
/-- k not in d -/
def rNotInN : R2 := fun x y H Q => ∃ (b a : Addr) (k : NK) (L : NL), x = .ref b ∧ y = .ref a ∧ IsNK H k b ∧ H a = some (rawN a L) ∧ (∀ z ∈ L, IsNK H z.1 z.2.1) ∧ Q (.bl (!(getN (L.map fun z => (z.1, z.2.2)) k).isSome)) H
theorem op_notInN (hu : X.A.units + 64 < cLine) : OpR X (compareOp .NotIn) rNotInN := by
  intro pins s σ H x y v u Q I rx ry h
  obtain ⟨b, a, k, L, rfl, rfl, hk, ha, hL, q⟩ := h
  obtain rfl : v = Value.ref b := rx
  obtain rfl : u = Value.ref a := ry
  obtain ⟨hd, hs⟩ := rawN_dict I.hok ha hL
  have hu2 : (nestedKind X.prog X.w).room X.A.in1 := by
    show X.A.in1.units + 8 < cLine
    have : X.A.in1.units = X.A.units + 1 := rfl
    omega
  show wpAny _ _ (do return Value.bool (!(← contains (Value.ref a) (Value.ref b)))) _ _ s
  refine wpAny_bind (wpAny_contains_heap hu2 (is_nk I.hok hk) hs hd (wpAny_pure ?_))
  rw [isSome_toX]
  exact ⟨.bl _, H, I.tok _, rfl, q⟩
/-- d[k] -/
def rIxN : R2 := fun x y H Q => ∃ (b a : Addr) (k : NK) (L : NL) (v : Bool), x = .ref a ∧ y = .ref b ∧ IsNK H k b ∧ H a = some (rawN a L) ∧ (∀ z ∈ L, IsNK H z.1 z.2.1) ∧ getN (L.map fun z => (z.1, z.2.2)) k = some v ∧ Q (.bl v) H
theorem getN_run {pins : List (Addr × Obj)} {s : Shared} {σ : L2.St} {H : Hp} {a b : Addr} {k : NK} {L : NL} {v : Bool} {Q : Value → Shared → Prop} {E : Value → Shared → Prop} (hu : X.A.units + 64 < cLine) (I : Inv X pins σ H s) (hk : IsNK H k b) (ha : H a = some (rawN a L)) (hL : ∀ z ∈ L, IsNK H z.1 z.2.1) (hv : getN (L.map fun z => (z.1, z.2.2)) k = some v)
    (h : ∀ s', Inv X pins σ H s' → Q (.bool v) s') : wpAny (model X.prog X.w) X.A (getItem (.ref a) (.ref b)) Q E s := by
  obtain ⟨hd, hs⟩ := rawN_dict I.hok ha hL
  have hu2 : (nestedKind X.prog X.w).room X.A.in1 := by
    show X.A.in1.units + 8 < cLine
    have : X.A.in1.units = X.A.units + 1 := rfl
    omega
  have e := at_toX k L
  rw [hv] at e
  obtain ⟨p, hp, e2⟩ := Option.map_eq_some_iff.mp e
  refine wpAny_getItem_heap hu2 (is_nk I.hok hk) hd hp ?_
  rw [e2]
  exact h _ (I.tok _)
theorem dictN_typeIs {pins : List (Addr × Obj)} {σ : L2.St} {H : Hp} {s : Shared} {a : Addr} {L : NL} (I : Inv X pins σ H s) (ha : H a = some (rawN a L)) : s.TypeIs (.ref a) "dict" := by
  obtain ⟨⟨o, es, ep, e1, e2, _⟩, _⟩ := I.hok a _ ha
  exact ⟨o, e1, e2.1⟩
theorem ix_N (hu : X.A.units + 64 < cLine) : IxR X rIxN := by
  intro value slice pins s σ H x y v u Q I rx ry h hs
  obtain ⟨b, a, k, L, z, rfl, rfl, hk, ha, hL, hv, q⟩ := h
  obtain rfl : v = Value.ref a := rx
  obtain rfl : u = Value.ref b := ry
  have hT := dictN_typeIs I ha
  unfold subscriptTail
  refine wpAny_bind ?_
  rw [getitemInPython_of_ne hT.not_modules]
  refine wpAny_bind (wpAny_specialOf hT PySem.F.slot_dict_getitem.lookup ?_)
  have fin : wpAny (model X.prog X.w) X.A (subscripted slice false (.ref a) (.ref b)) (fun r s₃ => wpAny (model X.prog X.w) X.A (letTemporaryGo value (.ref a) r >>= fun _ => pure r) (L2.EP X pins σ Q) X.xe s₃) X.xe s := by
    rw [hs]
    exact wpAny_operating (getN_run hu I hk ha hL hv fun s3 I3 => wpAny_bind (wpAny_letTemporaryGo (wpAny_pure ⟨.bl z, H, I3, rfl, q⟩)))
  first
    | exact wpAny_pure (wpAny_bind fin)
    | exact wpAny_bind (wpAny_pure (wpAny_bind fin))
    | exact wpAny_bind fin
/-- d[k] = v -/
def rSetN : TSet := fun o i v H Q => ∃ (b a : Addr) (k : NK) (L : NL) (z : Bool), o = .ref a ∧ i = .ref b ∧ v = .bl z ∧ IsNK H k b ∧ H a = some (rawN a L) ∧ (∀ x ∈ L, IsNK H x.1 x.2.1) ∧ L.length ≤ sizeLine ∧ Q (upd H a (rawN a (putL L k b z)))
theorem set_N (hu : X.A.units + 64 < cLine) : PSet X rSetN := by
  intro pins s σ H o i v ov iv u Q I ro ri rv h
  obtain ⟨b, a, k, L, z, rfl, rfl, rfl, hk, ha, hL, hz, q⟩ := h
  obtain rfl : ov = Value.ref a := ro
  obtain rfl : iv = Value.ref b := ri
  obtain rfl : u = Value.bool z := rv
  obtain ⟨hd, hs⟩ := rawN_dict I.hok ha hL
  have hu2 : (nestedKind X.prog X.w).room X.A.in1 := by
    show X.A.in1.units + 8 < cLine
    have : X.A.in1.units = X.A.units + 1 := rfl
    omega
  refine wpAny_setItem_heap (hsz := by rw [List.length_map]; exact hz) hu2 (is_nk I.hok hk) hd fun h' dd sb => ?_
  rw [storedL] at dd
  obtain ⟨oo, es, ep, e1, e2, e3, e4, _, e5⟩ := dd
  refine ⟨_, I.write (x := a) (e := a) (by rw [ha]; exact True.intro) (.inl rfl) (fun c w hc e => (sb.2 c hc).trans e) ⟨oo, e1⟩ (rawN_ok ⟨oo, es, ep, e1, e2, e3, by rw [e4, ents_eq X.prog X.w], keys_nodup.mp e5, hs⟩), q⟩
/-- {} -/
def tDNewN : TE := fun _ H Q => ∀ p, H p = none → Q (.ref p) (upd H p (rawN p []))
theorem pe_dnewN {pos : Pos} : PE X (.Dict [] [] pos) tDNewN := ⟨fun pins s σ H Q I h => by
  refine wpAny_Dict_empty ⟨.ref s.heap.objs.size, _, I.laid (a := s.heap.objs.size) (o := rawN s.heap.objs.size []) (t' := s.toks) (fun _ _ q => Heap.get?_push_of_some _ q) (Nat.le_refl _) (rawN_ok ⟨_, #[], 0, Heap.get?_push_size _ rfl, ⟨rfl, rfl, rfl⟩, rfl, rfl, List.nodup_nil, ?_⟩), rfl, h _ (I.hok.fresh (Nat.le_refl _))⟩
  exact beq_eq_false_iff_ne.mpr (Ne.symm (Nat.ne_of_lt I.big))⟩
end
def nkOf : Val → Option NK
  | .tup [.tup xs, .tup ys] => match intsOf xs, intsOf ys with
    | some a, some b => some (a, b)
    | _, _ => none
  | _ => none
section
variable {X : Cx} {T : Tab} {W : WX}
theorem rel_nk {φ : Phi} {H : Hp} {v : Val} {x : V} {k : NK} (r : RelV T φ H v x) (h : nkOf v = some k) : ∃ b, x = .ref b ∧ IsNK H k b := by
  unfold nkOf at h
  split at h
  · rename_i xs ys
    split at h
    · rename_i a b ha hb
      cases h
      cases r with
      | tup e rv =>
        cases rv with
        | cons r1 rv =>
          cases rv with
          | cons r2 rv =>
            cases rv
            cases r1 with
            | tup e1 q1 =>
              cases r2 with
              | tup e2 q2 =>
                rw [rel_ints q1 ha] at e1
                rw [rel_ints q2 hb] at e2
                exact ⟨_, rfl, _, _, e, e1, e2⟩
    · cases h
  · cases h
def dNOf (st : Sto) : Val → Option (List (NK × Bool))
  | .loc n => match st[n]? with
    | some (.dN kvs) => some kvs
    | _ => none
  | _ => none
theorem rel_dN {φ : Phi} {st : Sto} {H : Hp} {v : Val} {x : V} {kvs : List (NK × Bool)} (R : Rst T φ st H) (r : RelV T φ H v x) (h : dNOf st v = some kvs) : ∃ (n : Nat) (a : Addr) (L : NL), v = .loc n ∧ st[n]? = some (.dN kvs) ∧ φ.l[n]? = some (some a) ∧ x = .ref a ∧ H a = some (rawN a L) ∧ L.map (fun z => (z.1, z.2.2)) = kvs ∧ ∀ z ∈ L, IsNK H z.1 z.2.1 := by
  unfold dNOf at h
  split at h
  · rename_i n
    split at h
    · rename_i w e
      cases h
      cases r with
      | loc hn hu =>
        obtain ⟨a, e1, L, e2, e3, e4⟩ := R.at e (by simp)
        exact ⟨n, a, L, rfl, e, e1, hu a e1, e2, e3, e4⟩
    · cases h
  · cases h
def fNotInN (st : Sto) (v w : Val) : Option Val := match nkOf v, dNOf st w with
  | some k, some kvs => some (.bl (!(getN kvs k).isSome))
  | _, _ => none
theorem snd_notInN : SndB T rNotInN fNotInN := by
  intro φ st H v w z x y Q R r1 r2 hf hq
  unfold fNotInN at hf
  split at hf
  · rename_i k kvs h1 h2
    cases hf
    obtain ⟨b, rfl, hk⟩ := rel_nk r1 h1
    obtain ⟨n, a, L, rfl, _, _, rfl, e1, e2, e3⟩ := rel_dN R r2 h2
    refine ⟨b, a, k, L, rfl, rfl, hk, e1, e3, ?_⟩
    rw [e2]
    exact hq H _ Ext.refl R (.bl _)
  · cases hf
def fIxN (st : Sto) (v w : Val) : Option Val := match dNOf st v, nkOf w with
  | some kvs, some k => (getN kvs k).map .bl
  | _, _ => none
theorem snd_ixN : SndB T rIxN fIxN := by
  intro φ st H v w z x y Q R r1 r2 hf hq
  unfold fIxN at hf
  split at hf
  · rename_i kvs k h2 h1
    obtain ⟨c, hc, rfl⟩ := Option.map_eq_some_iff.mp hf
    obtain ⟨b, rfl, hk⟩ := rel_nk r2 h1
    obtain ⟨n, a, L, rfl, _, _, rfl, e1, e2, e3⟩ := rel_dN R r1 h2
    exact ⟨b, a, k, L, c, rfl, rfl, hk, e1, e3, by rw [e2]; exact hc, hq H _ Ext.refl R (.bl _)⟩
  · cases hf
theorem e_ixN {a b : Expr} {pos : Pos} {ea eb : E} (hu : X.A.units + 64 < cLine) (ha : PE X a (tE T W ea)) (hb : PE X b (tE T W eb)) (hs : PlainIx b := by intro _ _; rfl) : PE X (.Subscript a b pos) (tE T W (eB fIxN ea eb)) :=
  pe_imp (pe_ix (ix_N hu) ha hb hs) fun _ _ _ h => bin_sound snd_ixN h
def fSetN (st : Sto) (v w z : Val) : Option Sto := match dNOf st v, nkOf w, v, z with
  | some kvs, some k, .loc n, .bl b => if kvs.length < sizeLine then some (st.set n (.dN (putN kvs k b))) else none
  | _, _, _, _ => none
theorem snd_setN {φ : Phi} {st st' : Sto} {H : Hp} {v w z : Val} {x y u : V} {Q : Hp → Prop} (R : Rst T φ st H) (r1 : RelV T φ H v x) (r2 : RelV T φ H w y) (r3 : RelV T φ H z u) (hf : fSetN st v w z = some st')
    (hq : ∀ H', Ext φ H φ H' → Rst T φ st' H' → Q H') : rSetN x y u H Q := by
  unfold fSetN at hf
  split at hf
  · rename_i kvs k n c h2 h1
    split at hf
    · rename_i hl
      cases hf
      obtain ⟨b, rfl, hk⟩ := rel_nk r2 (by assumption)
      obtain ⟨m, a, L, e0, _, en, rfl, e1, e2, e3⟩ := rel_dN (kvs := kvs) R r1 (by assumption)
      cases e0
      cases r3
      have ext := Ext.write (ho := rawN a (putL L k b c)) R en
      have hz : L.length ≤ sizeLine := by
        have := congrArg List.length e2
        rw [List.length_map] at this
        omega
      refine ⟨b, a, k, L, c, rfl, rfl, rfl, hk, e1, e3, hz, hq _ ext (R.write en ⟨_, upd_same, by rw [putL_vals, e2], fun x hx => ?_⟩)⟩
      have nt : ∀ {d us}, H d = some (.tup us) → d ≠ a := fun {d us} e z => by rw [z, e1] at e; cases e
      have keep : ∀ {k' b'}, IsNK H k' b' → IsNK (upd H a (rawN a (putL L k b c))) k' b' := fun {k' b'} ⟨p, q, z1, z2, z3⟩ =>
        ⟨p, q, by rw [upd_ne (nt z1)]; exact z1, by rw [upd_ne (nt z2)]; exact z2, by rw [upd_ne (nt z3)]; exact z3⟩
      rcases putL_mem hx with ⟨q1, q2⟩ | ⟨y, hy, q1, q2⟩
      · rw [q1, q2]; exact keep hk
      · rw [← q1, ← q2]; exact keep (e3 y hy)
    · cases hf
  · cases hf
def gIxN (o i : E) : G := fun v ρ st => match o ρ st with
  | .ok w st1 => match i ρ st1 with
    | .ok k st2 => (fSetN st2 w k v).map fun st3 => (ρ, st3)
    | _ => none
  | _ => none
theorem g_subN {o i : Expr} {pos : Pos} {eo ei : E} (hu : X.A.units + 64 < cLine) (ho : PE X o (tE T W eo)) (hi : PE X i (tE T W ei))
    (ha : ∀ v, assign (.Subscript o i pos) X.env v = (do
      let ov ← holding [v] (eval o X.env)
      let iv ← holding [v, ov] (eval i X.env)
      standAt pos
      holding [v, ov, iv] (setItem ov iv v)
      release [v, ov, iv] []) := by intro _; rfl) : PG X (.Subscript o i pos) (tGt T (gIxN eo ei)) := by
  refine pg_imp (pg_sub ho hi (set_N hu) ha) fun v σ H Q h => ?_
  obtain ⟨φ, ρ, st, w, re, r, p⟩ := h
  refine ⟨φ, ρ, st, re, ?_⟩
  unfold gIxN at p
  cases h1 : eo ρ st with
  | ex x st1 => rw [h1] at p; exact p.elim
  | bad => rw [h1] at p; exact p.elim
  | ok z st1 =>
    rw [h1] at p
    dsimp only at p
    intro φ1 H1 a e1 s1 q1
    refine ⟨φ1, ρ, st1, re.ext e1 s1, ?_⟩
    cases h2 : ei ρ st1 with
    | ex x st2 => rw [h2] at p; exact p.elim
    | bad => rw [h2] at p; exact p.elim
    | ok k st2 =>
      rw [h2] at p
      dsimp only at p
      intro φ2 H2 b e2 s2 q2
      cases h3 : fSetN st2 z k w with
      | none => rw [h3] at p; exact p.elim
      | some st3 =>
        rw [h3] at p
        refine snd_setN s2 (q1.ext e2) q2 (r.ext (e1.trans e2)) h3 fun H3 e3 s3 => ?_
        exact p φ2 H3 σ ((e1.trans e2).trans e3) (re.ext ((e1.trans e2).trans e3) s3)
def eNewN : E := fun _ st => .ok (.loc st.length) (st ++ [.dN []])
theorem e_newN {pos : Pos} : PE X (.Dict [] [] pos) (tE T W eNewN) := by
  refine pe_imp pe_dnewN fun σ H Q h => ?_
  obtain ⟨φ, ρ, st, re, p⟩ := h
  intro a ha
  exact p _ _ _ (Ext.alloc re.rst ha) (re.rst.alloc ha ⟨[], upd_same, rfl, fun _ z => absurd z List.not_mem_nil⟩) (rel_loc re.rst)
theorem ss_bad {b : List Stmt} : PSs X b (tS T W sBad) := ⟨fun _ _ _ _ _ _ ⟨_, _, _, _, p⟩ => p.elim⟩
/-- a, b, c = x, y, z -/
def sPar3 (i j l : Nat) (a : EA) : S := fun ρ st => bindS (a ρ st) ρ fun vs st1 => match vs with
  | [u, v, w] => .nx (((ρ.set i (some u)).set j (some v)).set l (some w)) st1
  | _ => .bad
theorem s_par3 {i j l : Nat} {x y z : Str} {a b c : Expr} {ta : EA} {px py pz pt pos : Pos} {kt k2 pt2} (hc : X.calm = true) (hN : X.N.Nodup) (ha : PA X [a, b, c] (tA T W ta)) (hi : X.N[i]? = some x := by rfl) (hj : X.N[j]? = some y := by rfl) (hl : X.N[l]? = some z := by rfl) (hij : i ≠ j := by decide) (hil : i ≠ l := by decide) (hjl : j ≠ l := by decide)
    (hx : X.env.scope.names.lookup x = some .local := by rfl) (hy : X.env.scope.names.lookup y = some .local := by rfl) (hz : X.env.scope.names.lookup z = some .local := by rfl)
    (hw : swappedStores [.Tuple [.Name x px, .Name y py, .Name z pz] kt pt] (.Tuple [a, b, c] k2 pt2) X.env = pure (some [x, y, z]) := by rfl)
    (hs : swapsWithSole [.Tuple [.Name x px, .Name y py, .Name z pz] kt pt] (.Tuple [a, b, c] k2 pt2) pos.line X.env = pure false := by rfl) :
    PS X (.Assign [.Tuple [.Name x px, .Name y py, .Name z pz] kt pt] (.Tuple [a, b, c] k2 pt2) pos) (tS T W (sPar3 i j l ta)) := by
  refine ps_imp (ps_par3 hc hN hi hj hl hij hil hjl hx hy hz ha hw hs) fun D σ H h => ?_
  refine tS_bind h fun vs ρ st1 φ1 H1 us re1 q1 p1 => ?_
  split at p1
  · cases q1 with
    | cons a1 b1 =>
      cases b1 with
      | cons a2 b2 =>
        cases b2 with
        | cons a3 b3 =>
          cases b3
          exact ⟨_, _, _, rfl, p1 φ1 H1 _ Ext.refl (((re1.set a1 i).set a2 j).set a3 l)⟩
  · exact p1.elim
end
end Ev

set_option Elab.async false
set_option linter.all false
set_option maxRecDepth 100000
set_option maxHeartbeats 2000000
namespace Gc
open PySem PySem.Spec PyProof.Rows L2 Ev
def b_is_integer : S := (sRet (eAnd (eIsi .int (eV 0)) (eNot (eIsi .bool (eV 0)))))
def m_is_integer : Fn := runF 1 b_is_integer
def b_is_whole : S := (sRet (eAnd (eCall 1 m_is_integer (eCons (eV 0) eNil)) (eChain fLe fLe (eV 1) (eV 0) (eV 2))))
def m_is_whole : Fn := runF 3 b_is_whole
def b_is_gate : S := (sSeq (sIf (eOrT (eNotT (eTest (eIsi .tuple (eV 1)))) (eTest (eB fNeA (eBf fLen (eCons (eV 1) eNil)) (eC (.int 2))))) (sRet (eC (.bl false))) sSkip)
  (sRet (eAnd (eBf fAll (eCons (eLc false [2] (itV (eV 1)) (gN 2) eYes (eCall 3 m_is_whole (eCons (eV 2) (eCons (eC (.int (-1))) (eCons (eB fSub (eV 0) (eC (.int 1))) eNil))))) eNil)) (eB fNeA (eB fIx (eV 1) (eC (.int 0))) (eB fIx (eV 1) (eC (.int 1)))))))
def m_is_gate : Fn := runF 3 b_is_gate
def b_need_house : S := (sSeq (sIf (eOrT (eNotT (eTest (eIsi .tuple (eV 0)))) (eTest (eB fNeA (eBf fLen (eCons (eV 0) eNil)) (eC (.int 2))))) (sRaise 1 ["part"] (eCons (eC (.str "form")) eNil)) sSkip)
  (sSeq (sAsg (gT 2 (gCons' (gN 1) (gCons' (gN 2) gNil'))) (eV 0))
  (sSeq (sIf (eNotT (eTest (eCall 3 m_is_whole (eCons (eV 1) (eCons (eC (.int 1)) (eCons (eC (.int (8))) eNil)))))) (sRaise 1 ["part"] (eCons (eC (.str "rooms")) eNil)) sSkip)
  (sSeq (sIf (eOrT (eNotT (eTest (eIsi .tuple (eV 2)))) (eOrT (eTest (eB fGt (eBf fLen (eCons (eV 2) eNil)) (eC (.int (16))))) (eNotT (eTest (eBf fAll (eCons (eLc false [3] (itV (eV 2)) (gN 3) eYes (eCall 2 m_is_gate (eCons (eV 1) (eCons (eV 3) eNil)))) eNil)))))) (sRaise 1 ["part"] (eCons (eC (.str "gates")) eNil)) sSkip)
  (sSeq (sIf (eNotT (eTest (eBf fAll (eCons (eLc false [4, 5] (itZip (eCons (eV 2) (eCons (eSl (eV 2) (oSome (eC (.int 1))) oNone) eNil))) (gT 2 (gCons' (gN 4) (gCons' (gN 5) gNil'))) eYes (eB fLtT (eV 4) (eV 5))) eNil)))) (sRaise 1 ["part"] (eCons (eC (.str "gates")) eNil)) sSkip)
  (sRet (eV 0)))))))
def m_need_house : Fn := runF 6 b_need_house
def b_numbers_fault : S := (sSeq (sIf (eOrT (eNotT (eTest (eIsi .tuple (eV 0)))) (eTest (eB fNeA (eBf fLen (eCons (eV 0) eNil)) (eV 1)))) (sRet (eLst (eCons (eC .non) eNil))) sSkip)
  (sSeq (sFor (itEnum (eCons (eV 0) eNil)) (gT 2 (gCons' (gN 2) (gCons' (gN 3) gNil'))) (sIf (eNotT (eTest (eCall 3 m_is_whole (eCons (eV 3) (eCons (eC (.int 0)) (eCons (eC (.int (1000000000000000000000000000000))) eNil)))))) (sRet (eLst (eCons (eV 2) eNil))) sSkip))
  (sRet (eLst eNil))))
def m_numbers_fault : Fn := runF 4 b_numbers_fault
def b_need_heads : S := (sSeq (sFor (itV (eCall 2 m_numbers_fault (eCons (eV 1) (eCons (eB fIx (eCall 1 m_need_house (eCons (eV 0) eNil)) (eC (.int 0))) eNil)))) (gN 2) (sRaise 2 ["number"] (eCons (eV 2) eNil)))
  (sRet (eV 1)))
def m_need_heads : Fn := runF 3 b_need_heads
def b_need_counts : S := (sSeq (sFor (itV (eCall 2 m_numbers_fault (eCons (eV 1) (eCons (eBf fLen (eCons (eB fIx (eCall 1 m_need_house (eCons (eV 0) eNil)) (eC (.int 1))) eNil)) eNil)))) (gN 2) (sRaise 3 ["number"] (eCons (eV 2) eNil)))
  (sRet (eV 1)))
def m_need_counts : Fn := runF 3 b_need_counts
def b_from_place : S := (sRet (eBf fSum (eCons (eLc false [3, 4] (itZip (eCons (eB fIx (eV 0) (eC (.int 1))) (eCons (eV 1) eNil))) (gT 2 (gCons' (gN 3) (gCons' (gN 4) gNil'))) (eTest (eB fEqA (eB fIx (eV 3) (eC (.int 0))) (eV 2))) (eV 4)) eNil)))
def m_from_place : Fn := runF 5 b_from_place
def b_to_place : S := (sRet (eBf fSum (eCons (eLc false [3, 4] (itZip (eCons (eB fIx (eV 0) (eC (.int 1))) (eCons (eV 1) eNil))) (gT 2 (gCons' (gN 3) (gCons' (gN 4) gNil'))) (eTest (eB fEqA (eB fIx (eV 3) (eC (.int 1))) (eV 2))) (eV 4)) eNil)))
def m_to_place : Fn := runF 5 b_to_place
def b_balances_of : S := (sSeq (sSet 3 (eNew eNil))
  (sSeq (sFor (itEnum (eCons (eV 1) eNil)) (gT 2 (gCons' (gN 4) (gCons' (gN 5) gNil'))) (sExpr (eLm fAppend (eV 3) (eCons (eB fSub (eB fAdd (eV 5) (eCall 3 m_to_place (eCons (eV 0) (eCons (eV 2) (eCons (eV 4) eNil))))) (eCall 3 m_from_place (eCons (eV 0) (eCons (eV 2) (eCons (eV 4) eNil))))) eNil))))
  (sRet (eBf fTuple (eCons (eV 3) eNil)))))
def m_balances_of : Fn := runF 6 b_balances_of
def b_balances : S := (sSeq (sExpr (eCall 2 m_need_heads (eCons (eV 0) (eCons (eV 1) eNil))))
  (sRet (eCall 3 m_balances_of (eCons (eV 0) (eCons (eV 1) (eCons (eCall 2 m_need_counts (eCons (eV 0) (eCons (eV 2) eNil))) eNil))))))
def m_balances : Fn := runF 3 b_balances
def b_parts_of : S := (sSeq (sSet 2 (eLst eNil))
  (sSeq (sFor (itZip (eCons (eB fIx (eV 0) (eC (.int 1))) (eCons (eV 1) eNil))) (gT 2 (gCons' (gN 3) (gCons' (gN 4) gNil'))) (sIf (eTest (eB fGt (eV 4) (eC (.int 0)))) (sSeq (sSet 5 (eLc false [6] (itV (eV 2)) (gN 6) (eOrT (eTest (eB fIn (eB fIx (eV 3) (eC (.int 0))) (eV 6))) (eTest (eB fIn (eB fIx (eV 3) (eC (.int 1))) (eV 6)))) (eV 6)))
  (sSeq (sSet 7 (eBf fSortedB (eCons (eBf fListA (eCons (eDc2 [6, 8] [8] (itV (eB fAdd (eV 5) (eLst (eCons (eV 3) eNil)))) (gN 6) eYes (itV (eV 6)) (gN 8) eYes (eV 8) (eC (.bl true))) eNil)) eNil)))
  (sSet 2 (eB fAdd (eLc false [6] (itV (eV 2)) (gN 6) (eTest (eB fNotIn (eV 6) (eV 5))) (eV 6)) (eLst (eCons (eV 7) eNil)))))) sSkip))
  (sRet (eBf fSortedB (eCons (eLc false [6] (itV (eV 2)) (gN 6) eYes (eBf fTuple (eCons (eV 6) eNil))) eNil)))))
def m_parts_of : Fn := runF 9 b_parts_of
def b_parts : S := (sSeq (sExpr (eCall 1 m_need_house (eCons (eV 0) eNil)))
  (sRet (eBf fTuple (eCons (eCall 2 m_parts_of (eCons (eV 0) (eCons (eCall 2 m_need_counts (eCons (eV 0) (eCons (eV 1) eNil))) eNil))) eNil))))
def m_parts : Fn := runF 2 b_parts
def b__law_begin : S := (sRet (eDisp (epCons (eC (.str "cells")) (eB fAdd (eV 0) (eLst (eCons (eC (.int 0)) eNil))) (epCons (eC (.str "at")) (eC (.int 0)) (epCons (eC (.str "left")) (eC (.int 0)) (epCons (eC (.str "used")) (eC (.int 0)) epNil))))))
def m__law_begin : Fn := runK 1 b__law_begin
def b__law_next : S := (sSeq (sIf (eTest (eB fGt (eB fIx (eV 0) (eC (.str "left"))) (eC (.int 0)))) (sSeq (sAsg (gT 2 (gCons' (gN 2) (gCons' (gIx (eV 0) (eC (.str "left"))) gNil'))) (eTup (eCons (eB fIx (eV 0) (eC (.str "left"))) (eCons (eB fFdiv (eB fIx (eV 0) (eC (.str "left"))) (eV 1)) eNil))))
  (sRet (eB fMod (eV 2) (eV 1)))) sSkip)
  (sSeq (sSet 3 (eB fIx (eV 0) (eC (.str "cells"))))
  (sSeq (sSet 2 (eB fIx (eV 3) (eB fMod (eB fIx (eV 0) (eC (.str "at"))) (eBf fLen (eCons (eV 3) eNil)))))
  (sSeq (sAsg (gIx (eV 0) (eC (.str "at"))) (eB fAdd (eB fIx (eV 0) (eC (.str "at"))) (eC (.int 1))))
  (sSeq (sIf (eAndT (eTest (eB fGe (eV 2) (eB fPow (eC (.int 10)) (eC (.int 18))))) (eTest (eB fLe (eB fIx (eV 0) (eC (.str "at"))) (eBf fLen (eCons (eV 3) eNil))))) (sSeq (sAsg (gIx (eV 0) (eC (.str "left"))) (eB fFdiv (eV 2) (eV 1)))
  (sRet (eB fMod (eV 2) (eV 1)))) sSkip)
  (sSeq (sAsg (gIx (eV 0) (eC (.str "used"))) (eB fAdd (eB fIx (eV 0) (eC (.str "used"))) (eC (.int 1))))
  (sSeq (sSet 4 (eB fAdd (eB fMod (eV 2) (eC (.int 1000000007))) (eB fMul (eB fMul (eC (.int 7919)) (eB fIx (eV 0) (eC (.str "used")))) (eB fIx (eV 0) (eC (.str "used"))))))
  (sSeq (sFor (itV (eTup (eCons (eB fIx (eV 0) (eC (.str "at"))) (eCons (eB fIx (eV 0) (eC (.str "used"))) eNil)))) (gN 5) (sSeq (sSet 4 (eB fMod (eB fMul (eB fAdd (eB fAdd (eV 4) (eB fMul (eC (.int 31)) (eV 5))) (eC (.int 7))) (eC (.int 48271))) (eC (.int 2147483647))))
  (sSet 4 (eB fMod (eB fMul (eV 4) (eB fAdd (eC (.int 69621)) (eB fMul (eC (.int 2)) (eB fMod (eV 5) (eC (.int 1000)))))) (eC (.int 2147483629))))))
  (sRet (eB fMod (eB fFdiv (eV 4) (eC (.int 7))) (eV 1)))))))))))
def m__law_next : Fn := runF 6 b__law_next
def b__law_pick : S := (sRet (eB fIx (eV 1) (eCall 2 m__law_next (eCons (eV 0) (eCons (eBf fLen (eCons (eV 1) eNil)) eNil)))))
def m__law_pick : Fn := runF 2 b__law_pick
def b__law_house : S := (sSeq (sPar 3 4 (eCons (eB fAdd (eC (.int 1)) (eCall 2 m__law_next (eCons (eV 0) (eCons (eV 1) eNil)))) (eCons eNewT eNil)))
  (sSeq (sFor (itRange1 (eCons (eCall 2 m__law_next (eCons (eV 0) (eCons (eB fAdd (eV 2) (eC (.int 1))) eNil))) eNil)) (gN 5) (sSeq (sSet 6 (eB fSub (eCall 2 m__law_next (eCons (eV 0) (eCons (eB fAdd (eV 3) (eC (.int 1))) eNil))) (eC (.int 1))))
  (sSeq (sSet 7 (eB fSub (eB fMod (eBf fIntA (eCons (eB fAdd (eB fAdd (eB fAdd (eV 6) (eC (.int 1))) (eC (.int 1))) (eCall 2 m__law_next (eCons (eV 0) (eCons (eV 3) eNil)))) eNil)) (eB fAdd (eV 3) (eC (.int 1)))) (eC (.int 1))))
  (sSeq (sIf (eTest (eB fLtT (eBf fLen (eCons (eV 4) eNil)) (eV 2))) (sAsg (gIx (eV 4) (eTup (eCons (eV 6) (eCons (eV 7) eNil)))) (eC (.bl true))) sSkip)
  (sIf (eAndT (eTest (eB fEqA (eCall 2 m__law_next (eCons (eV 0) (eCons (eC (.int 3)) eNil))) (eC (.int 0)))) (eTest (eB fLtT (eBf fLen (eCons (eV 4) eNil)) (eV 2)))) (sAsg (gIx (eV 4) (eTup (eCons (eV 7) (eCons (eV 6) eNil)))) (eC (.bl true))) sSkip)))))
  (sRet (eTup (eCons (eV 3) (eCons (eBf fTuple (eCons (eBf fSortedB (eCons (eBf fListA (eCons (eV 4) eNil)) eNil)) eNil)) eNil))))))
def m__law_house : Fn := runF 8 b__law_house
def b__law_few : S := (sSeq (sSet 3 (eMulN (eLst (eCons (eC (.int 0)) eNil)) (eV 1)))
  (sSeq (sFor (itRange1 (eCons (eCall 2 m__law_next (eCons (eV 0) (eCons (eB fAdd (eV 2) (eC (.int 1))) eNil))) eNil)) (gN 4) (sIf (eTest (eB fGt (eV 1) (eC (.int 0)))) (sAugI fIadd (eV 3) (eCall 2 m__law_next (eCons (eV 0) (eCons (eV 1) eNil))) (eC (.int 1))) sSkip))
  (sRet (eBf fTuple (eCons (eV 3) eNil)))))
def m__law_few : Fn := runF 5 b__law_few
def b__law_spread : S := (sSeq (sPar 3 4 (eCons (eDisp (epCons (eV 2) (eC (.bl true)) epNil)) (eCons (eNew (eCons (eV 2) eNil)) eNil)))
  (sSeq (sWhile (eTest (eB fNeA (eV 4) (eLst eNil))) (sSeq (sSet 5 (eLm fPop (eV 4) eNil))
  (sFor (itZip (eCons (eB fIx (eV 0) (eC (.int 1))) (eCons (eV 1) eNil))) (gT 2 (gCons' (gN 6) (gCons' (gN 7) gNil'))) (sFor (itV (eTup (eCons (eV 6) (eCons (eRevT (eV 6)) eNil)))) (gT 2 (gCons' (gN 8) (gCons' (gN 9) gNil'))) (sIf (eAndT (eTest (eB fGt (eV 7) (eC (.int 0)))) (eAndT (eTest (eB fEqA (eV 8) (eV 5))) (eTest (eB fNotIn (eV 9) (eV 3))))) (sSeq (sAsg (gIx (eV 3) (eV 9)) (eC (.bl true)))
  (sExpr (eLm fAppend (eV 4) (eCons (eV 9) eNil)))) sSkip)))))
  (sRet (eBf fTuple (eCons (eBf fSortedB (eCons (eBf fListA (eCons (eV 3) eNil)) eNil)) eNil)))))
def m__law_spread : Fn := runF 10 b__law_spread
def b_short_rooms : S := (sRet (eLc false [3, 4] (itEnum (eCons (eCall 3 m_balances_of (eCons (eV 0) (eCons (eV 1) (eCons (eV 2) eNil)))) eNil)) (gT 2 (gCons' (gN 3) (gCons' (gN 4) gNil'))) (eTest (eB fLtT (eV 4) (eC (.int 0)))) (eV 3)))
def m_short_rooms : Fn := runF 5 b_short_rooms
def b_lonely_parts : S := (sSeq (sSet 3 (eLc false [4] (itV (eCall 2 m_parts_of (eCons (eV 0) (eCons (eV 2) eNil)))) (gN 4) (eTest (eB fNotIn (eC (.int (-1))) (eV 4))) (eV 4)))
  (sRet (eLc false [4] (itV (eV 3)) (gN 4) (eTest (eBf fAll (eCons (eLc false [5] (itV (eV 4)) (gN 5) eYes (eB fEqA (eB fIx (eV 1) (eV 5)) (eC (.int 0)))) eNil))) (eV 4))))
def m_lonely_parts : Fn := runF 6 b_lonely_parts
def b_is_possible_of : S := (sRet (eAnd (eB fEqA (eCall 3 m_short_rooms (eCons (eV 0) (eCons (eV 1) (eCons (eV 2) eNil)))) (eLst eNil)) (eB fEqA (eCall 3 m_lonely_parts (eCons (eV 0) (eCons (eV 1) (eCons (eV 2) eNil)))) (eLst eNil))))
def m_is_possible_of : Fn := runF 3 b_is_possible_of
def b_need_asked : S := (sSeq (sExpr (eCall 2 m_need_heads (eCons (eV 0) (eCons (eV 1) eNil))))
  (sExpr (eCall 2 m_need_counts (eCons (eV 0) (eCons (eV 2) eNil)))))
def m_need_asked : Fn := runF 3 b_need_asked
def b_is_possible : S := (sSeq (sExpr (eCall 3 m_need_asked (eCons (eV 0) (eCons (eV 1) (eCons (eV 2) eNil)))))
  (sRet (eCall 3 m_is_possible_of (eCons (eV 0) (eCons (eV 1) (eCons (eV 2) eNil))))))
def m_is_possible : Fn := runF 3 b_is_possible
def b__law_walked : S := (sSeq (sAsg (gT 2 (gCons' (gN 4) (gCons' (gN 5) gNil'))) (eTup (eCons (eListN (eCons (eV 2) eNil)) (eCons (eMulN (eLst (eCons (eC (.int 0)) eNil)) (eBf fLen (eCons (eB fIx (eV 1) (eC (.int 1))) eNil))) eNil))))
  (sSeq (sFor (itRange1 (eCons (eV 3) eNil)) (gN 6) (sSeq (sSet 7 (eLc false [6] (itRange1 (eCons (eBf fLen (eCons (eB fIx (eV 1) (eC (.int 1))) eNil)) eNil)) (gN 6) (eOrT (eTest (eB fLtT (eB fIx (eB fIx (eB fIx (eV 1) (eC (.int 1))) (eV 6)) (eC (.int 0))) (eC (.int 0)))) (eTest (eB fGt (eB fIx (eV 4) (eB fIx (eB fIx (eB fIx (eV 1) (eC (.int 1))) (eV 6)) (eC (.int 0)))) (eC (.int 0))))) (eV 6)))
  (sIf (eTest (eB fNeA (eV 7) (eLst eNil))) (sSeq (sSet 8 (eCall 2 m__law_pick (eCons (eV 0) (eCons (eV 7) eNil))))
  (sSeq (sAugI fIadd (eV 5) (eV 8) (eC (.int 1)))
  (sSeq (sAsg (gT 2 (gCons' (gN 9) (gCons' (gN 10) gNil'))) (eB fIx (eB fIx (eV 1) (eC (.int 1))) (eV 8)))
  (sSeq (sIf (eTest (eB fGe (eV 9) (eC (.int 0)))) (sAugI fIsub (eV 4) (eV 9) (eC (.int 1))) sSkip)
  (sIf (eTest (eB fGe (eV 10) (eC (.int 0)))) (sAugI fIadd (eV 4) (eV 10) (eC (.int 1))) sSkip))))) sSkip)))
  (sRet (eBf fTuple (eCons (eV 5) eNil)))))
def m__law_walked : Fn := runF 11 b__law_walked
def b__law_asked : S := (sSeq (sSet 1 (eCall 3 m__law_house (eCons (eV 0) (eCons (eC (.int 3)) (eCons (eC (.int 5)) eNil)))))
  (sSeq (sSet 2 (eCall 3 m__law_few (eCons (eV 0) (eCons (eB fIx (eV 1) (eC (.int 0))) (eCons (eC (.int 3)) eNil)))))
  (sSeq (sSet 3 (eCall 4 m__law_walked (eCons (eV 0) (eCons (eV 1) (eCons (eV 2) (eCons (eCall 2 m__law_next (eCons (eV 0) (eCons (eC (.int 7)) eNil))) eNil))))))
  (sSeq (sIf (eTest (eB fEqA (eCall 2 m__law_next (eCons (eV 0) (eCons (eC (.int 3)) eNil))) (eC (.int 0)))) (sSet 3 (eCall 3 m__law_few (eCons (eV 0) (eCons (eBf fLen (eCons (eB fIx (eV 1) (eC (.int 1))) eNil)) (eCons (eC (.int 6)) eNil))))) sSkip)
  (sRet (eTup (eCons (eV 1) (eCons (eV 2) (eCons (eV 3) eNil)))))))))
def m__law_asked : Fn := runF 4 b__law_asked
def b__law_passed : S := (sSeq (sAsg (gT 2 (gCons' (gN 3) (gCons' (gN 4) gNil'))) (eB fIx (eB fIx (eV 0) (eC (.int 1))) (eV 2)))
  (sSeq (sIf (eAndT (eTest (eB fGe (eV 3) (eC (.int 0)))) (eTest (eB fEqA (eB fIx (eV 1) (eV 3)) (eC (.int 0))))) (sRet (eC .non)) sSkip)
  (sRet (eBf fTuple (eCons (eLc false [5] (itRange1 (eCons (eBf fLen (eCons (eV 1) eNil)) eNil)) (gN 5) eYes (eB fAdd (eB fSub (eB fIx (eV 1) (eV 5)) (eBf fIntA (eCons (eB fEqA (eV 5) (eV 3)) eNil))) (eBf fIntA (eCons (eB fEqA (eV 5) (eV 4)) eNil)))) eNil)))))
def m__law_passed : Fn := runF 6 b__law_passed
def b__law_less : S := (sRet (eB fAdd (eB fAdd (eSl (eV 0) oNone (oSome (eV 1))) (eTup (eCons (eB fSub (eB fIx (eV 0) (eV 1)) (eC (.int 1))) eNil))) (eSl (eV 0) (oSome (eB fAdd (eV 1) (eC (.int 1)))) oNone)))
def m__law_less : Fn := runF 2 b__law_less
def b__law_can (mf : Fn) : S := (sSeq (sIf (eTest (eB fEqA (eBf fSumT (eCons (eV 2) eNil)) (eC (.int 0)))) (sRet (eC (.bl true))) sSkip)
  (sSeq (sSet 4 (eTup (eCons (eV 1) (eCons (eV 2) eNil))))
  (sSeq (sIf (eTest (eB fNotInN (eV 4) (eV 3))) (sSeq (sAsg (gIxN (eV 3) (eV 4)) (eC (.bl false)))
  (sFor (itRange1 (eCons (eBf fLen (eCons (eV 2) eNil)) eNil)) (gN 5) (sSeq (sSet 6 (eIf (eTest (eB fGt (eB fIx (eV 2) (eV 5)) (eC (.int 0)))) (eCall 3 m__law_passed (eCons (eV 0) (eCons (eV 1) (eCons (eV 5) eNil)))) (eC .non)))
  (sIf (eAndT (eTest (eB fIsNot (eV 6) (eC .non))) (eNotT (eTest (eB fIxN (eV 3) (eV 4))))) (sAsg (gIxN (eV 3) (eV 4)) (eCall 4 mf (eCons (eV 0) (eCons (eV 6) (eCons (eCall 2 m__law_less (eCons (eV 2) (eCons (eV 5) eNil))) (eCons (eV 3) eNil)))))) sSkip)))) sSkip)
  (sRet (eB fIxN (eV 3) (eV 4))))))
def r__law_can : Nat → Fn
  | 0 => runF 7 sBad
  | n + 1 => runF 7 (b__law_can (r__law_can n))
def m__law_can : Fn := r__law_can 8
def b_need_room : S := (sSeq (sIf (eNotT (eTest (eCall 3 m_is_whole (eCons (eV 1) (eCons (eC (.int 0)) (eCons (eB fSub (eB fIx (eV 0) (eC (.int 0))) (eC (.int 1))) eNil)))))) (sRaise 5 ["given"] (eCons (eV 1) eNil)) sSkip)
  (sRet (eV 1)))
def m_need_room : Fn := runF 2 b_need_room
def b_need_order : S := (sSeq (sIf (eTest (eB fNeA (eCall 3 m_short_rooms (eCons (eV 0) (eCons (eV 1) (eCons (eV 2) eNil)))) (eLst eNil))) (sRaise 8 ["word"] (eCons (eC (.str "short")) eNil)) sSkip)
  (sIf (eTest (eB fNeA (eCall 3 m_lonely_parts (eCons (eV 0) (eCons (eV 1) (eCons (eV 2) eNil)))) (eLst eNil))) (sRaise 8 ["word"] (eCons (eC (.str "lonely")) eNil)) sSkip))
def m_need_order : Fn := runF 3 b_need_order
def b_one_less : S := (sRet (eB fAdd (eB fAdd (eSl (eV 0) oNone (oSome (eV 1))) (eTup (eCons (eB fSub (eB fIx (eV 0) (eV 1)) (eC (.int 1))) eNil))) (eSl (eV 0) (oSome (eB fAdd (eV 1) (eC (.int 1)))) oNone)))
def m_one_less : Fn := runF 2 b_one_less
def b_heads_behind : S := (sRet (eBf fTuple (eCons (eLc false [2, 3] (itEnum (eCons (eV 0) eNil)) (gT 2 (gCons' (gN 2) (gCons' (gN 3) gNil'))) eYes (eB fAdd (eB fSub (eV 3) (eBf fIntA (eCons (eB fEqA (eV 2) (eB fIx (eV 1) (eC (.int 0)))) eNil))) (eBf fIntA (eCons (eB fEqA (eV 2) (eB fIx (eV 1) (eC (.int 1)))) eNil)))) eNil)))
def m_heads_behind : Fn := runF 4 b_heads_behind
def b_can_begin : S := (sSeq (sSet 4 (eB fIx (eB fIx (eV 0) (eC (.int 1))) (eV 3)))
  (sSeq (sIf (eOrT (eTest (eB fEqA (eB fIx (eV 2) (eV 3)) (eC (.int 0)))) (eAndT (eTest (eB fNeA (eB fIx (eV 4) (eC (.int 0))) (eC (.int (-1))))) (eTest (eB fEqA (eB fIx (eV 1) (eB fIx (eV 4) (eC (.int 0)))) (eC (.int 0)))))) (sRet (eC (.bl false))) sSkip)
  (sRet (eCall 3 m_is_possible_of (eCons (eV 0) (eCons (eCall 2 m_heads_behind (eCons (eV 1) (eCons (eV 4) eNil))) (eCons (eCall 2 m_one_less (eCons (eV 2) (eCons (eV 3) eNil))) eNil)))))))
def m_can_begin : Fn := runF 5 b_can_begin
def b_first_gates : S := (sSeq (sExpr (eCall 3 m_need_asked (eCons (eV 0) (eCons (eV 1) (eCons (eV 2) eNil)))))
  (sSeq (sExpr (eCall 3 m_need_order (eCons (eV 0) (eCons (eV 1) (eCons (eV 2) eNil)))))
  (sRet (eBf fTuple (eCons (eLc false [3] (itRange1 (eCons (eBf fLen (eCons (eV 2) eNil)) eNil)) (gN 3) (eTest (eCall 4 m_can_begin (eCons (eV 0) (eCons (eV 1) (eCons (eV 2) (eCons (eV 3) eNil)))))) (eV 3)) eNil)))))
def m_first_gates : Fn := runF 4 b_first_gates
def b_last_gates : S := (sSeq (sExpr (eCall 3 m_need_asked (eCons (eV 0) (eCons (eV 1) (eCons (eV 2) eNil)))))
  (sSeq (sExpr (eCall 3 m_need_order (eCons (eV 0) (eCons (eV 1) (eCons (eV 2) eNil)))))
  (sSeq (sSet 3 (eLc false [4, 5] (itEnum (eCons (eV 2) eNil)) (gT 2 (gCons' (gN 4) (gCons' (gN 5) gNil'))) (eTest (eB fGt (eV 5) (eC (.int 0)))) (eV 4)))
  (sRet (eBf fTuple (eCons (eLc false [4] (itV (eV 3)) (gN 4) (eTest (eCall 3 m_is_possible_of (eCons (eV 0) (eCons (eV 1) (eCons (eCall 2 m_one_less (eCons (eV 2) (eCons (eV 4) eNil))) eNil))))) (eV 4)) eNil))))))
def m_last_gates : Fn := runF 6 b_last_gates
def b__law_firsts : S := (sSeq (sSet 3 (eNew eNil))
  (sSeq (sFor (itRange1 (eCons (eBf fLen (eCons (eV 2) eNil)) eNil)) (gN 4) (sSeq (sSet 5 (eIf (eTest (eB fGt (eB fIx (eV 2) (eV 4)) (eC (.int 0)))) (eCall 3 m__law_passed (eCons (eV 0) (eCons (eV 1) (eCons (eV 4) eNil)))) (eC .non)))
  (sIf (eAndT (eTest (eB fIsNot (eV 5) (eC .non))) (eTest (eCall 4 m__law_can (eCons (eV 0) (eCons (eV 5) (eCons (eCall 2 m__law_less (eCons (eV 2) (eCons (eV 4) eNil))) (eCons eNewN eNil))))))) (sExpr (eLm fAppend (eV 3) (eCons (eV 4) eNil))) sSkip)))
  (sRet (eBf fTuple (eCons (eV 3) eNil)))))
def m__law_firsts : Fn := runF 6 b__law_firsts
def b__law_lasts : S := (sSeq (sSet 3 (eNew eNil))
  (sSeq (sFor (itRange1 (eCons (eBf fLen (eCons (eV 2) eNil)) eNil)) (gN 4) (sIf (eAndT (eTest (eB fGt (eB fIx (eV 2) (eV 4)) (eC (.int 0)))) (eTest (eCall 4 m__law_can (eCons (eV 0) (eCons (eV 1) (eCons (eCall 2 m__law_less (eCons (eV 2) (eCons (eV 4) eNil))) (eCons eNewN eNil))))))) (sSeq (sSet 5 (eListN (eCons (eV 1) eNil)))
  (sSeq (sFor (itZip (eCons (eB fIx (eV 0) (eC (.int 1))) (eCons (eCall 2 m__law_less (eCons (eV 2) (eCons (eV 4) eNil))) eNil))) (gT 2 (gCons' (gN 6) (gCons' (gN 7) gNil'))) (sFor (itV (eTup (eCons (eTup (eCons (eB fIx (eV 6) (eC (.int 0))) (eCons (fNeg (eC (.int 1))) eNil))) (eCons (eTup (eCons (eB fIx (eV 6) (eC (.int 1))) (eCons (eC (.int 1)) eNil))) eNil)))) (gT 2 (gCons' (gN 8) (gCons' (gN 9) gNil'))) (sIf (eTest (eB fGe (eV 8) (eC (.int 0)))) (sAugI fIadd (eV 5) (eV 8) (eB fMul (eV 9) (eV 7))) sSkip)))
  (sIf (eTest (eB fIsNot (eCall 3 m__law_passed (eCons (eV 0) (eCons (eBf fTuple (eCons (eV 5) eNil)) (eCons (eV 4) eNil)))) (eC .non))) (sExpr (eLm fAppend (eV 3) (eCons (eV 4) eNil))) sSkip))) sSkip))
  (sRet (eBf fTuple (eCons (eV 3) eNil)))))
def m__law_lasts : Fn := runF 10 b__law_lasts
def b_need_notes : S := (sSeq (sExpr (eCall 1 m_need_house (eCons (eV 0) eNil)))
  (sSeq (sIf (eOrT (eNotT (eTest (eIsi .tuple (eV 1)))) (eNotT (eTest (eChain fLe fLe (eC (.int 1)) (eBf fLen (eCons (eV 1) eNil)) (eC (.int (40))))))) (sRaise 4 ["number"] (eCons (eC .non) eNil)) sSkip)
  (sSeq (sFor (itEnum (eCons (eV 1) eNil)) (gT 2 (gCons' (gN 2) (gCons' (gN 3) gNil'))) (sIf (eTest (eB fNeA (eCall 2 m_numbers_fault (eCons (eV 3) (eCons (eBf fLen (eCons (eB fIx (eV 0) (eC (.int 1))) eNil)) eNil))) (eLst eNil))) (sRaise 4 ["number"] (eCons (eV 2) eNil)) sSkip))
  (sRet (eV 1)))))
def m_need_notes : Fn := runF 4 b_need_notes
def b_is_filling : S := (sSeq (sExpr (eCall 2 m_need_notes (eCons (eV 0) (eCons (eV 1) eNil))))
  (sSeq (sSet 3 (eCall 2 m_need_heads (eCons (eV 0) (eCons (eV 2) eNil))))
  (sSeq (sFor (itV (eV 1)) (gN 4) (sSeq (sIf (eNotT (eTest (eCall 3 m_is_possible_of (eCons (eV 0) (eCons (eV 3) (eCons (eV 4) eNil)))))) (sRet (eC (.bl false))) sSkip)
  (sSet 3 (eCall 3 m_balances_of (eCons (eV 0) (eCons (eV 3) (eCons (eV 4) eNil)))))))
  (sRet (eC (.bl true))))))
def m_is_filling : Fn := runF 5 b_is_filling
def b_changes_of : S := (sSeq (sSet 2 (eNew (eCons (eB fMul (eTup (eCons (eC (.int 0)) eNil)) (eB fIx (eV 0) (eC (.int 0)))) eNil)))
  (sSeq (sFor (itV (eV 1)) (gN 3) (sExpr (eLm fAppend (eV 2) (eCons (eCall 3 m_balances_of (eCons (eV 0) (eCons (eB fIx (eV 2) (fNeg (eC (.int 1)))) (eCons (eV 3) eNil)))) eNil))))
  (sRet (eV 2))))
def m_changes_of : Fn := runF 4 b_changes_of
def b_floor_of : S := (sSeq (sSet 2 (eCall 2 m_changes_of (eCons (eV 0) (eCons (eV 1) eNil))))
  (sRet (eBf fTuple (eCons (eLc false [4] (itRange1 (eCons (eB fIx (eV 0) (eC (.int 0))) eNil)) (gN 4) eYes (eBf fMax (eCons (eLc false [3] (itV (eV 2)) (gN 3) eYes (eB fSub (eC (.int 0)) (eB fIx (eV 3) (eV 4)))) eNil))) eNil))))
def m_floor_of : Fn := runF 5 b_floor_of
def b_wants_of : S := (sSeq (sAsg (gT 3 (gCons' (gN 2) (gCons' (gN 3) (gCons' (gN 4) gNil')))) (eTup (eCons (eCall 2 m_floor_of (eCons (eV 0) (eCons (eV 1) eNil))) (eCons (eCall 2 m_changes_of (eCons (eV 0) (eCons (eV 1) eNil))) (eCons (eNew eNil) eNil)))))
  (sSeq (sFor (itEnum (eCons (eV 1) eNil)) (gT 2 (gCons' (gN 5) (gCons' (gN 6) gNil'))) (sFor (itV (eCall 2 m_parts_of (eCons (eV 0) (eCons (eV 6) eNil)))) (gN 7) (sIf (eAndT (eTest (eB fNotIn (eC (.int (-1))) (eV 7))) (eTest (eBf fAll (eCons (eLc false [8] (itV (eV 7)) (gN 8) eYes (eB fEqA (eB fAdd (eB fIx (eV 2) (eV 8)) (eB fIx (eB fIx (eV 3) (eV 5)) (eV 8))) (eC (.int 0)))) eNil)))) (sExpr (eLm fAppend (eV 4) (eCons (eV 7) eNil))) sSkip)))
  (sRet (eV 4))))
def m_wants_of : Fn := runF 9 b_wants_of
def b_subsets_of : S := (sSeq (sSet 1 (eLst (eCons (eTup eNil) eNil)))
  (sSeq (sFor (itRange1 (eCons (eV 0) eNil)) (gN 2) (sSet 1 (eLc2 [3, 4] [4] (itV (eV 1)) (gN 3) eYes (itV (eTup (eCons (eC (.int 0)) (eCons (eC (.int 1)) eNil)))) (gN 4) eYes (eB fAdd (eV 3) (eTup (eCons (eV 4) eNil))))))
  (sRet (eSortSum (eCons (eV 1) eNil)))))
def m_subsets_of : Fn := runF 5 b_subsets_of
def b_least_hits : S := (sSeq (sSet 2 (eNew eNil))
  (sSeq (sFor (itV (eCall 1 m_subsets_of (eCons (eB fIx (eV 0) (eC (.int 0))) eNil))) (gN 3) (sSeq (sSet 4 (eBf fAny (eCons (eLc false [7] (itV (eV 2)) (gN 7) eYes (eBf fAll (eCons (eLc false [5, 6] (itZip (eCons (eV 7) (eCons (eV 3) eNil))) (gT 2 (gCons' (gN 5) (gCons' (gN 6) gNil'))) eYes (eB fLe (eV 5) (eV 6))) eNil))) eNil)))
  (sIf (eAndT (eNotT (eTest (eV 4))) (eTest (eBf fAll (eCons (eLc false [9] (itV (eV 1)) (gN 9) eYes (eBf fAny (eCons (eLc false [8] (itV (eV 9)) (gN 8) eYes (eB fEqA (eB fIx (eV 3) (eV 8)) (eC (.int 1)))) eNil))) eNil)))) (sExpr (eLm fAppend (eV 2) (eCons (eV 3) eNil))) sSkip)))
  (sRet (eV 2))))
def m_least_hits : Fn := runF 10 b_least_hits
def b_least_in : S := (sSeq (sAsg (gT 2 (gCons' (gN 2) (gCons' (gN 3) gNil'))) (eTup (eCons (eCall 2 m_floor_of (eCons (eV 0) (eCons (eV 1) eNil))) (eCons (eCall 2 m_least_hits (eCons (eV 0) (eCons (eCall 2 m_wants_of (eCons (eV 0) (eCons (eV 1) eNil))) eNil))) eNil))))
  (sRet (eBf fSortedB (eCons (eLc false [6] (itV (eV 3)) (gN 6) eYes (eBf fTuple (eCons (eLc false [4, 5] (itZip (eCons (eV 2) (eCons (eV 6) eNil))) (gT 2 (gCons' (gN 4) (gCons' (gN 5) gNil'))) eYes (eB fAdd (eV 4) (eV 5))) eNil))) eNil))))
def m_least_in : Fn := runF 7 b_least_in
def b_least_fillings : S := (sSeq (sExpr (eCall 2 m_need_notes (eCons (eV 0) (eCons (eV 1) eNil))))
  (sRet (eBf fTuple (eCons (eCall 2 m_least_in (eCons (eV 0) (eCons (eV 1) eNil))) eNil))))
def m_least_fillings : Fn := runF 2 b_least_fillings
def b_fewest : S := (sSeq (sExpr (eCall 2 m_need_notes (eCons (eV 0) (eCons (eV 1) eNil))))
  (sRet (eBf fMin (eCons (eLc false [2] (itV (eCall 2 m_least_in (eCons (eV 0) (eCons (eV 1) eNil)))) (gN 2) eYes (eBf fSumT (eCons (eV 2) eNil))) eNil))))
def m_fewest : Fn := runF 3 b_fewest
def b__law_is_filling : S := (sSeq (sSet 3 (eV 2))
  (sSeq (sFor (itV (eV 1)) (gN 4) (sSeq (sIf (eNotT (eTest (eCall 4 m__law_can (eCons (eV 0) (eCons (eV 3) (eCons (eV 4) (eCons eNewN eNil))))))) (sRet (eC (.bl false))) sSkip)
  (sSeq (sSet 5 (eListN (eCons (eV 3) eNil)))
  (sSeq (sFor (itZip (eCons (eB fIx (eV 0) (eC (.int 1))) (eCons (eV 4) eNil))) (gT 2 (gCons' (gN 6) (gCons' (gN 7) gNil'))) (sFor (itV (eTup (eCons (eTup (eCons (eB fIx (eV 6) (eC (.int 0))) (eCons (fNeg (eC (.int 1))) eNil))) (eCons (eTup (eCons (eB fIx (eV 6) (eC (.int 1))) (eCons (eC (.int 1)) eNil))) eNil)))) (gT 2 (gCons' (gN 8) (gCons' (gN 9) gNil'))) (sIf (eTest (eB fGe (eV 8) (eC (.int 0)))) (sAugI fIadd (eV 5) (eV 8) (eB fMul (eV 9) (eV 7))) sSkip)))
  (sSet 3 (eBf fTuple (eCons (eV 5) eNil)))))))
  (sRet (eC (.bl true)))))
def m__law_is_filling : Fn := runF 10 b__law_is_filling
def b__law_notes : S := (sSeq (sPar3 2 3 4 (eCons (eCall 3 m__law_few (eCons (eV 0) (eCons (eB fIx (eV 1) (eC (.int 0))) (eCons (eC (.int 5)) eNil)))) (eCons (eTup eNil) (eCons (eCall 2 m__law_pick (eCons (eV 0) (eCons (eLst (eCons (eC (.int 0)) (eCons (eC (.int 0)) (eCons (eC (.int 1)) (eCons (eB fPow (eC (.int 10)) (eC (.int 27))) eNil))))) eNil))) eNil))))
  (sSeq (sFor (itRange1 (eCons (eB fAdd (eC (.int 1)) (eCall 2 m__law_next (eCons (eV 0) (eCons (eC (.int 9)) eNil)))) eNil)) (gN 5) (sSeq (sSet 6 (eCall 4 m__law_walked (eCons (eV 0) (eCons (eV 1) (eCons (eV 2) (eCons (eCall 2 m__law_next (eCons (eV 0) (eCons (eC (.int 7)) eNil))) eNil))))))
  (sSeq (sIf (eTest (eB fEqA (eCall 2 m__law_next (eCons (eV 0) (eCons (eC (.int 3)) eNil))) (eC (.int 0)))) (sSet 6 (eCall 3 m__law_few (eCons (eV 0) (eCons (eBf fLen (eCons (eB fIx (eV 1) (eC (.int 1))) eNil)) (eCons (eC (.int 5)) eNil))))) sSkip)
  (sSeq (sSet 7 (eTup eNil))
  (sSeq (sFor (itV (eV 6)) (gN 8) (sSet 7 (eB fAdd (eV 7) (eTup (eCons (eB fAdd (eV 8) (eB fMul (eB fMul (eV 4) (eCall 2 m__law_next (eCons (eV 0) (eCons (eC (.int 3)) eNil)))) (eBf fIntA (eCons (eB fGt (eV 8) (eC (.int 0))) eNil)))) eNil)))))
  (sSet 3 (eB fAdd (eV 3) (eTup (eCons (eV 7) eNil)))))))))
  (sRet (eV 3))))
def m__law_notes : Fn := runF 9 b__law_notes
def b__law_is_under : S := (sRet (eB fEqA (eLc false [2, 3] (itZip (eCons (eV 0) (eCons (eV 1) eNil))) (gT 2 (gCons' (gN 2) (gCons' (gN 3) gNil'))) (eTest (eB fGt (eV 2) (eV 3))) (eC (.int 1))) (eLst eNil)))
def m__law_is_under : Fn := runF 4 b__law_is_under
def b__law_right : S := (sSeq (sFor (itV (eV 3)) (gN 4) (sSeq (sIf (eNotT (eTest (eCall 3 m_is_filling (eCons (eV 1) (eCons (eV 2) (eCons (eV 4) eNil)))))) (sRet (eC (.bl false))) sSkip)
  (sSeq (sIf (eTest (eB fNeA (eLc false [5] (itV (eV 3)) (gN 5) (eAndT (eTest (eB fNeA (eV 5) (eV 4))) (eTest (eCall 2 m__law_is_under (eCons (eV 5) (eCons (eV 4) eNil))))) (eV 5)) (eLst eNil))) (sRet (eC (.bl false))) sSkip)
  (sFor (itRange1 (eCons (eB fIx (eV 1) (eC (.int 0))) eNil)) (gN 6) (sSeq (sSet 7 (eB fAdd (eB fAdd (eSl (eV 4) oNone (oSome (eV 6))) (eTup (eCons (eB fSub (eB fIx (eV 4) (eV 6)) (eC (.int 1))) eNil))) (eSl (eV 4) (oSome (eB fAdd (eV 6) (eC (.int 1)))) oNone)))
  (sSeq (sSet 8 (eB fAdd (eB fAdd (eSl (eV 4) oNone (oSome (eV 6))) (eTup (eCons (eB fAdd (eB fAdd (eB fIx (eV 4) (eV 6)) (eC (.int 1))) (eCall 2 m__law_next (eCons (eV 0) (eCons (eC (.int 9)) eNil)))) eNil))) (eSl (eV 4) (oSome (eB fAdd (eV 6) (eC (.int 1)))) oNone)))
  (sSeq (sIf (eAndT (eTest (eB fGe (eB fIx (eV 7) (eV 6)) (eC (.int 0)))) (eTest (eCall 3 m_is_filling (eCons (eV 1) (eCons (eV 2) (eCons (eV 7) eNil)))))) (sRet (eC (.bl false))) sSkip)
  (sIf (eNotT (eTest (eCall 3 m_is_filling (eCons (eV 1) (eCons (eV 2) (eCons (eV 8) eNil)))))) (sRet (eC (.bl false))) sSkip))))))))
  (sSeq (sFor (itRange1 (eCons (eC (.int 5)) eNil)) (gN 9) (sSeq (sSet 10 (eCall 2 m__law_pick (eCons (eV 0) (eCons (eV 3) eNil))))
  (sSeq (sSet 4 (eBf fTuple (eCons (eLc false [5] (itV (eV 10)) (gN 5) eYes (eBf fMax (eCons (eC (.int 0)) (eCons (eB fAdd (eV 5) (eCall 2 m__law_pick (eCons (eV 0) (eCons (eLst (eCons (eC (.int 0)) (eCons (eC (.int 0)) (eCons (eC (.int 1)) (eCons (fNeg (eC (.int 1))) (eCons (eC (.int 3)) eNil)))))) eNil)))) eNil)))) eNil)))
  (sSeq (sSet 11 (eB fNeA (eLc false [5] (itV (eV 3)) (gN 5) (eTest (eCall 2 m__law_is_under (eCons (eV 5) (eCons (eV 4) eNil)))) (eV 5)) (eLst eNil)))
  (sIf (eTest (eB fNeA (eBf fRepr (eCons (eCall 3 m_is_filling (eCons (eV 1) (eCons (eV 2) (eCons (eV 4) eNil)))) eNil)) (eBf fRepr (eCons (eV 11) eNil)))) (sRet (eC (.bl false))) sSkip)))))
  (sRet (eC (.bl true)))))
def m__law_right : Fn := runF 12 b__law_right
def b__law_star_right : S := (sSeq (sSet 0 (eTup (eCons (eC (.int 8)) (eCons (eBf fTuple (eCons (eB fAdd (eLc false [1] (itRange2 (eCons (eC (.int 1)) (eCons (eC (.int 8)) eNil))) (gN 1) eYes (eTup (eCons (eC (.int 0)) (eCons (eV 1) eNil)))) (eLc false [1] (itRange2 (eCons (eC (.int 1)) (eCons (eC (.int 8)) eNil))) (gN 1) eYes (eTup (eCons (eV 1) (eCons (eC (.int 0)) eNil))))) eNil)) eNil))))
  (sSeq (sSet 2 (eTup eNil))
  (sSeq (sFor (itRange1 (eCons (eC (.int 7)) eNil)) (gN 1) (sSeq (sSet 3 (eB fAdd (eB fAdd (eB fMul (eTup (eCons (eC (.int 0)) eNil)) (eV 1)) (eTup (eCons (eC (.int 1)) eNil))) (eB fMul (eTup (eCons (eC (.int 0)) eNil)) (eB fSub (eC (.int 6)) (eV 1)))))
  (sSet 2 (eB fAdd (eV 2) (eTup (eCons (eB fAdd (eV 3) (eV 3)) eNil))))))
  (sSeq (sIf (eOrT (eTest (eB fNeA (eCall 2 m_least_fillings (eCons (eV 0) (eCons (eV 2) eNil))) (eTup (eCons (eB fAdd (eTup (eCons (eC (.int 0)) eNil)) (eB fMul (eTup (eCons (eC (.int 1)) eNil)) (eC (.int 7)))) (eCons (eB fAdd (eTup (eCons (eC (.int 1)) eNil)) (eB fMul (eTup (eCons (eC (.int 0)) eNil)) (eC (.int 7)))) eNil))))) (eTest (eB fNeA (eCall 2 m_fewest (eCons (eV 0) (eCons (eV 2) eNil))) (eC (.int 1))))) (sRet (eC (.bl false))) sSkip)
  (sSeq (sPar 0 4 (eCons (eTup (eCons (eC (.int 2)) (eCons (eTup (eCons (eTup (eCons (fNeg (eC (.int 1))) (eCons (eC (.int 0)) eNil))) (eCons (eTup (eCons (eC (.int 0)) (eCons (eC (.int 1)) eNil))) eNil))) eNil))) (eCons (eB fPow (eC (.int 10)) (eC (.int 30))) eNil)))
  (sSeq (sSet 2 (eTup (eCons (eTup (eCons (eV 4) (eCons (eC (.int 0)) eNil))) (eCons (eTup (eCons (eV 4) (eCons (eC (.int 0)) eNil))) (eCons (eTup (eCons (eC (.int 0)) (eCons (eV 4) eNil))) (eCons (eTup (eCons (eC (.int 0)) (eCons (eV 4) eNil))) eNil))))))
  (sRet (eAnd (eCall 3 m_is_filling (eCons (eV 0) (eCons (eV 2) (eCons (eTup (eCons (eC (.int 0)) (eCons (eC (.int 0)) eNil))) eNil)))) (eNot (eCall 3 m_is_filling (eCons (eV 0) (eCons (eB fAdd (eV 2) (eTup (eCons (eTup (eCons (eC (.int 0)) (eCons (eC (.int 1)) eNil))) eNil))) (eCons (eTup (eCons (eC (.int 0)) (eCons (eC (.int 0)) eNil))) eNil)))))))))))))
def m__law_star_right : Fn := runF 5 b__law_star_right
def b_numbers_text : S := (sRet (eIf (eTest (eB fGt (eBf fLen (eCons (eV 0) eNil)) (eC (.int 0)))) (eM1 fJoin (eC (.str " ")) (eLc false [1] (itV (eV 0)) (gN 1) eYes (eBf fStr (eCons (eV 1) eNil)))) (eC (.str "-"))))
def m_numbers_text : Fn := runF 2 b_numbers_text
def b_house_text : S := (sSeq (sAsg (gT 2 (gCons' (gN 1) (gCons' (gN 2) gNil'))) (eCall 1 m_need_house (eCons (eV 0) eNil)))
  (sRet (eM1 fJoin (eC (.str "\n")) (eB fAdd (eLst (eCons (eBf fStr (eCons (eV 1) eNil)) eNil)) (eLc false [3] (itV (eV 2)) (gN 3) eYes (eCall 1 m_numbers_text (eCons (eV 3) eNil)))))))
def m_house_text : Fn := runF 4 b_house_text
def b_counts_text : S := (sRet (eCall 1 m_numbers_text (eCons (eCall 2 m_need_counts (eCons (eV 0) (eCons (eV 1) eNil))) eNil)))
def m_counts_text : Fn := runF 2 b_counts_text
def b_number_in : S := (sSeq (sIf (eOrT (eNotT (eTest (eChain fLe fLe (eC (.int 1)) (eBf fLen (eCons (eV 0) eNil)) (eC (.int (31)))))) (eNotT (eTest (eBf fAll (eCons (eLc false [1] (itV (eV 0)) (gN 1) eYes (eB fIn (eV 1) (eC (.str "0123456789")))) eNil))))) (sRet (eC .non)) sSkip)
  (sRet (eIf (eOrT (eTest (eB fEqA (eV 0) (eC (.str "0")))) (eTest (eB fNeA (eB fIx (eV 0) (eC (.int 0))) (eC (.str "0"))))) (eBf fIntA (eCons (eV 0) eNil)) (eC .non))))
def m_number_in : Fn := runF 2 b_number_in
def b_need_string : S := (sIf (eNotT (eTest (eIsi .str (eV 0)))) (sRaise 7 ["line", "word"] (eCons (fNeg (eC (.int 1))) (eCons (fNeg (eC (.int 1))) eNil))) sSkip)
def m_need_string : Fn := runF 1 b_need_string
def b_places_in : S := (sSeq (sSet 2 (eNew eNil))
  (sSeq (sFor (itEnum (eCons (eM1 fSplit (eV 0) (eC (.str " "))) eNil)) (gT 2 (gCons' (gN 3) (gCons' (gN 4) gNil'))) (sSeq (sSet 5 (eIf (eTest (eB fEqA (eV 4) (eC (.str "-1")))) (fNeg (eC (.int 1))) (eCall 1 m_number_in (eCons (eV 4) eNil))))
  (sSeq (sIf (eOrT (eTest (eB fIs (eV 5) (eC .non))) (eTest (eB fGt (eV 3) (eC (.int 1))))) (sRaise 7 ["line", "word"] (eCons (eV 1) (eCons (eV 3) eNil))) sSkip)
  (sExpr (eLm fAppend (eV 2) (eCons (eV 5) eNil))))))
  (sSeq (sIf (eTest (eB fLtT (eBf fLen (eCons (eV 2) eNil)) (eC (.int 2)))) (sRaise 7 ["line", "word"] (eCons (eV 1) (eCons (eBf fLen (eCons (eV 2) eNil)) eNil))) sSkip)
  (sRet (eBf fTuple (eCons (eV 2) eNil))))))
def m_places_in : Fn := runF 6 b_places_in
def b_read_house : S := (sSeq (sExpr (eCall 1 m_need_string (eCons (eV 0) eNil)))
  (sSeq (sSet 1 (eM1 fSplit (eV 0) (eC (.str "\n"))))
  (sSeq (sSet 2 (eM1 fSplit (eB fIx (eV 1) (eC (.int 0))) (eC (.str " "))))
  (sSeq (sIf (eTest (eB fIs (eCall 1 m_number_in (eCons (eB fIx (eV 2) (eC (.int 0))) eNil)) (eC .non))) (sRaise 7 ["line", "word"] (eCons (eC (.int 0)) (eCons (eC (.int 0)) eNil))) sSkip)
  (sSeq (sIf (eTest (eB fGt (eBf fLen (eCons (eV 2) eNil)) (eC (.int 1)))) (sRaise 7 ["line", "word"] (eCons (eC (.int 0)) (eCons (eC (.int 1)) eNil))) sSkip)
  (sSeq (sSet 3 (eLc false [4, 5] (itEnum (eCons (eSl (eV 1) (oSome (eC (.int 1))) oNone) eNil)) (gT 2 (gCons' (gN 4) (gCons' (gN 5) gNil'))) eYes (eCall 2 m_places_in (eCons (eV 5) (eCons (eB fAdd (eV 4) (eC (.int 1))) eNil)))))
  (sRet (eCall 1 m_need_house (eCons (eTup (eCons (eCall 1 m_number_in (eCons (eB fIx (eV 2) (eC (.int 0))) eNil)) (eCons (eBf fTuple (eCons (eV 3) eNil)) eNil))) eNil)))))))))
def m_read_house : Fn := runF 6 b_read_house
def b_numbers_in : S := (sSeq (sIf (eTest (eB fEqA (eB fIx (eV 0) (eC (.int 0))) (eC (.str "-")))) (sSeq (sIf (eTest (eB fGt (eBf fLen (eCons (eV 0) eNil)) (eC (.int 1)))) (sRaise 7 ["line", "word"] (eCons (eC (.int 0)) (eCons (eC (.int 1)) eNil))) sSkip)
  (sRet (eTup eNil))) sSkip)
  (sSeq (sSet 1 (eNew eNil))
  (sSeq (sFor (itEnum (eCons (eV 0) eNil)) (gT 2 (gCons' (gN 2) (gCons' (gN 3) gNil'))) (sSeq (sSet 4 (eCall 1 m_number_in (eCons (eV 3) eNil)))
  (sSeq (sIf (eTest (eB fIs (eV 4) (eC .non))) (sRaise 7 ["line", "word"] (eCons (eC (.int 0)) (eCons (eV 2) eNil))) sSkip)
  (sExpr (eLm fAppend (eV 1) (eCons (eV 4) eNil))))))
  (sRet (eBf fTuple (eCons (eV 1) eNil))))))
def m_numbers_in : Fn := runF 5 b_numbers_in
def b_read_counts : S := (sSeq (sExpr (eCall 1 m_need_house (eCons (eV 0) eNil)))
  (sSeq (sExpr (eCall 1 m_need_string (eCons (eV 1) eNil)))
  (sSeq (sSet 2 (eM1 fSplit (eV 1) (eC (.str "\n"))))
  (sSeq (sSet 3 (eCall 1 m_numbers_in (eCons (eM1 fSplit (eB fIx (eV 2) (eC (.int 0))) (eC (.str " "))) eNil)))
  (sSeq (sIf (eTest (eB fGt (eBf fLen (eCons (eV 2) eNil)) (eC (.int 1)))) (sRaise 7 ["line", "word"] (eCons (eC (.int 1)) (eCons (eC (.int 0)) eNil))) sSkip)
  (sRet (eCall 2 m_need_counts (eCons (eV 0) (eCons (eV 3) eNil)))))))))
def m_read_counts : Fn := runF 4 b_read_counts
def b__law_number : S := (sSeq (sIf (eOrT (eNotT (eTest (eChain fLe fLe (eC (.int 1)) (eBf fLen (eCons (eV 0) eNil)) (eC (.int 31))))) (eTest (eB fNeA (eLc false [1] (itV (eV 0)) (gN 1) (eTest (eB fNotIn (eV 1) (eC (.str "0123456789")))) (eV 1)) (eLst eNil)))) (sRet (eLst eNil)) sSkip)
  (sRet (eIf (eTest (eB fEqA (eBf fStr (eCons (eBf fIntA (eCons (eV 0) eNil)) eNil)) (eV 0))) (eLst (eCons (eBf fIntA (eCons (eV 0) eNil)) eNil)) (eLst eNil))))
def m__law_number : Fn := runF 2 b__law_number
def b__law_bent : S := (sSeq (sSet 2 (eLc true [3] (itV (eM1 fSplit (eV 1) (eC (.str "\n")))) (gN 3) eYes (eM1 fSplit (eV 3) (eC (.str " ")))))
  (sSeq (sPar 4 5 (eCons (eCall 2 m__law_next (eCons (eV 0) (eCons (eBf fLen (eCons (eV 2) eNil)) eNil))) (eCons (eCall 2 m__law_next (eCons (eV 0) (eCons (eC (.int 8)) eNil))) eNil)))
  (sSeq (sSet 6 (eB fIx (eV 2) (eV 4)))
  (sSeq (sPar 7 8 (eCons (eCall 2 m__law_next (eCons (eV 0) (eCons (eBf fLen (eCons (eV 6) eNil)) eNil))) (eCons (eCall 2 m__law_next (eCons (eV 0) (eCons (eB fAdd (eBf fLen (eCons (eV 6) eNil)) (eC (.int 1))) eNil))) eNil)))
  (sSeq (sSet 9 (eLst (eCons (eC (.str "")) (eCons (eC (.str "0")) (eCons (eC (.str "1")) (eCons (eC (.str "01")) (eCons (eC (.str "-1")) (eCons (eC (.str "-")) (eCons (eC (.str "-2")) (eCons (eC (.str "--1")) (eCons (eC (.str "x")) (eCons (eC (.str "9")) eNil))))))))))))
  (sSeq (sSet 9 (eB fAdd (eV 9) (eLst (eCons (eB fMul (eC (.str "9")) (eC (.int 31))) (eCons (eB fMul (eC (.str "9")) (eC (.int 32))) (eCons (eC (.str "+1")) (eCons (eC (.str "7\n8")) (eCons (eC (.str "\n")) (eCons (eC (.str "1_0")) eNil)))))))))
  (sSeq (sSet 10 (eCall 2 m__law_pick (eCons (eV 0) (eCons (eV 9) eNil))))
  (sSeq (sIf (eTest (eB fEqA (eV 5) (eC (.int 0)))) (sAsg (gIx (eV 2) (eV 4)) (eB fAdd (eSl (eV 6) oNone (oSome (eV 7))) (eSl (eV 6) (oSome (eB fAdd (eV 7) (eC (.int 1)))) oNone))) (sIf (eTest (eB fEqA (eV 5) (eC (.int 1)))) (sAsg (gIx (eV 2) (eV 4)) (eB fAdd (eB fAdd (eSl (eV 6) oNone (oSome (eV 8))) (eLst (eCons (eB fIx (eV 6) (eV 7)) eNil))) (eSl (eV 6) (oSome (eV 8)) oNone))) (sIf (eTest (eB fEqA (eV 5) (eC (.int 2)))) (sSet 2 (eB fAdd (eB fAdd (eSl (eV 2) oNone (oSome (eV 4))) (eLst (eCons (eV 6) eNil))) (eSl (eV 2) (oSome (eV 4)) oNone))) (sIf (eTest (eB fEqA (eV 5) (eC (.int 3)))) (sSet 2 (eB fAdd (eSl (eV 2) oNone (oSome (eV 4))) (eSl (eV 2) (oSome (eB fAdd (eV 4) (eC (.int 1)))) oNone))) (sIf (eTest (eB fLtT (eV 5) (eC (.int 6)))) (sAsg (gIx (eV 2) (eV 4)) (eB fAdd (eB fAdd (eSl (eV 6) oNone (oSome (eV 8))) (eLst (eCons (eV 10) eNil))) (eSl (eV 6) (oSome (eV 8)) oNone))) (sAsg (gIx (eV 2) (eV 4)) (eB fAdd (eB fAdd (eSl (eV 6) oNone (oSome (eV 7))) (eLst (eCons (eV 10) eNil))) (eSl (eV 6) (oSome (eB fAdd (eV 7) (eC (.int 1)))) oNone))))))))
  (sRet (eM1 fJoin (eC (.str "\n")) (eLc false [3] (itV (eV 2)) (gN 3) eYes (eM1 fJoin (eC (.str " ")) (eV 3)))))))))))))
def m__law_bent : Fn := runF 11 b__law_bent
def b_least_moved : S := (sSeq (sSet 2 (eC (.int 0)))
  (sSeq (sFor (itV (eCall 2 m_parts_of (eCons (eV 0) (eCons (eV 1) eNil)))) (gN 3) (sSeq (sSet 4 (eBf fSum (eCons (eLc false [5] (itV (eV 3)) (gN 5) eYes (eBf fMax (eCons (eC (.int 0)) (eCons (eB fSub (eCall 3 m_from_place (eCons (eV 0) (eCons (eV 1) (eCons (eV 5) eNil)))) (eCall 3 m_to_place (eCons (eV 0) (eCons (eV 1) (eCons (eV 5) eNil))))) eNil)))) eNil)))
  (sAug fIadd 2 (eBf fMax (eCons (eC (.int 1)) (eCons (eV 4) eNil))))))
  (sRet (eV 2))))
def m_least_moved : Fn := runF 6 b_least_moved
def b_moved : S := (sSeq (sExpr (eCall 3 m_need_asked (eCons (eV 0) (eCons (eV 1) (eCons (eV 2) eNil)))))
  (sSeq (sExpr (eCall 3 m_need_order (eCons (eV 0) (eCons (eV 1) (eCons (eV 2) eNil)))))
  (sSeq (sSet 3 (eLc false [4, 5] (itEnum (eCons (eV 1) eNil)) (gT 2 (gCons' (gN 4) (gCons' (gN 5) gNil'))) eYes (eBf fMin (eCons (eV 5) (eCons (eCall 3 m_from_place (eCons (eV 0) (eCons (eV 2) (eCons (eV 4) eNil)))) eNil)))))
  (sRet (eTup (eCons (eCall 2 m_least_moved (eCons (eV 0) (eCons (eV 2) eNil))) (eCons (eB fAdd (eCall 3 m_from_place (eCons (eV 0) (eCons (eV 2) (eCons (eC (.int (-1))) eNil)))) (eBf fSum (eCons (eV 3) eNil))) eNil)))))))
def m_moved : Fn := runF 6 b_moved
def b__law_far : S := (sRet (eBf fTuple (eCons (eLc false [2] (itV (eV 1)) (gN 2) eYes (eIf (eTest (eB fGe (eV 2) (eC (.int 0)))) (eB fSub (eV 0) (eV 2)) (fNeg (eC (.int 1))))) eNil)))
def m__law_far : Fn := runF 3 b__law_far
end Gc

set_option Elab.async false
set_option linter.all false
set_option maxRecDepth 100000
set_option maxHeartbeats 2000000
namespace Gc
open PySem PySem.Spec PyProof.Rows L2 Ev
section
variable {ρ : Ev.Env} {st : Sto}
@[simp] theorem c_V {i : Nat} : eV i ρ st = (match ρ[i]? with | some (some v) => .ok v st | _ => .bad) := (rfl)
@[simp] theorem c_C {v : Val} : eC v ρ st = .ok v st := (rfl)
@[simp] theorem c_Nil : eNil ρ st = .ok [] st := (rfl)
@[simp] theorem c_Cons {e : E} {es : EA} : eCons e es ρ st = bindR (e ρ st) fun v st1 => bindR (es ρ st1) fun vs st2 => .ok (v :: vs) st2 := (rfl)
@[simp] theorem c_B {f : Sto → Val → Val → Option Val} {a b : E} : eB f a b ρ st = bindR (a ρ st) fun v st1 => bindR (b ρ st1) fun w st2 => optR (f st2 v w) st2 := (rfl)
@[simp] theorem c_Bf {f : Sto → List Val → Option Val} {a : EA} : eBf f a ρ st = bindR (a ρ st) fun vs st1 => optR (f st1 vs) st1 := (rfl)
@[simp] theorem c_Test {e : E} : eTest e ρ st = bindR (e ρ st) fun v st1 => match v with | .bl b => .ok b st1 | _ => .bad := (rfl)
@[simp] theorem c_NotT {t : ET} : eNotT t ρ st = bindR (t ρ st) fun b st1 => .ok (!b) st1 := (rfl)
@[simp] theorem c_AndT {a b : ET} : eAndT a b ρ st = bindR (a ρ st) fun c st1 => if c = true then b ρ st1 else .ok false st1 := (rfl)
@[simp] theorem c_OrT {a b : ET} : eOrT a b ρ st = bindR (a ρ st) fun c st1 => if c = true then .ok true st1 else b ρ st1 := (rfl)
@[simp] theorem c_And {a b : E} : eAnd a b ρ st = bindR (eTest a ρ st) fun c st1 => if c = true then b ρ st1 else .ok (.bl false) st1 := (rfl)
@[simp] theorem c_Or {a b : E} : eOr a b ρ st = bindR (eTest a ρ st) fun c st1 => if c = true then .ok (.bl true) st1 else b ρ st1 := (rfl)
@[simp] theorem c_Not {a : E} : eNot a ρ st = bindR (eTest a ρ st) fun c st1 => .ok (.bl (!c)) st1 := (rfl)
@[simp] theorem c_If {t : ET} {a b : E} : eIf t a b ρ st = bindR (t ρ st) fun c st1 => if c = true then a ρ st1 else b ρ st1 := (rfl)
@[simp] theorem c_Neg {a : E} : fNeg a ρ st = bindR (a ρ st) fun v st1 => match v with | .int i => .ok (.int (-i)) st1 | _ => .bad := (rfl)
@[simp] theorem c_Tup {as : EA} : eTup as ρ st = bindR (as ρ st) fun vs st1 => if vs.length ≤ sizeLine then .ok (.tup vs) st1 else .bad := (rfl)
@[simp] theorem c_Lst {as : EA} : eLst as ρ st = bindR (as ρ st) fun vs st1 => if vs.length ≤ sizeLine then .ok (.lst vs) st1 else .bad := (rfl)
@[simp] theorem c_New {as : EA} : eNew as ρ st = bindR (as ρ st) fun vs st1 => if vs.length ≤ sizeLine then .ok (.loc st1.length) (st1 ++ [.lst vs]) else .bad := (rfl)
@[simp] theorem c_NewK : eNewK ρ st = .ok (.loc st.length) (st ++ [.dK []]) := (rfl)
@[simp] theorem c_NewT : eNewT ρ st = .ok (.loc st.length) (st ++ [.dT []]) := (rfl)
@[simp] theorem c_ListN {a : EA} : eListN a ρ st = bindR (a ρ st) fun vs st1 => match vs with
  | [v] => match seqOf st1 v with
    | some xs => .ok (.loc st1.length) (st1 ++ [.lst xs])
    | none => .bad
  | _ => .bad := (rfl)
@[simp] theorem c_MulN {a b : E} : eMulN a b ρ st = bindR (a ρ st) fun v st1 => bindR (b ρ st1) fun w st2 => match v, w with
  | .lst xs, .int k => if -(2 ^ 63) ≤ k ∧ k < 2 ^ 63 ∧ xs.length * k.toNat ≤ sizeLine then .ok (.loc st2.length) (st2 ++ [.lst (List.replicate k.toNat xs).flatten]) else .bad
  | _, _ => .bad := (rfl)
@[simp] theorem c_Call {np : Nat} {m : Fn} {a : EA} : eCall np m a ρ st = bindR (a ρ st) fun vs st1 => if vs.length = np then m vs st1 else .bad := (rfl)
@[simp] theorem c_CallK {np kn : Nat} {perm : List Nat} {m : Fn} {a : EA} : eCallK np kn perm m a ρ st = bindR (a ρ st) fun zs st1 => if zs.length = kn ∧ (permL perm zs).length = np then m (permL perm zs) st1 else .bad := (rfl)
@[simp] theorem c_Isi {t : Ty6} {a : E} : eIsi t a ρ st = bindR (a ρ st) fun v st1 => match isTy t st1 v with | some b => .ok (.bl b) st1 | none => .bad := (rfl)
@[simp] theorem c_Lm {f : Sto → List Val → List Val → Option (Val × List Val)} {o : E} {a : EA} : eLm f o a ρ st = bindR (o ρ st) fun v st1 => match v with
  | .loc n => match st1[n]? with
    | some (.lst _) => bindR (a ρ st1) fun vs st2 => match st2[n]? with
      | some (.lst xs) => match f st2 xs vs with
        | some (z, ys) => .ok z (st2.set n (.lst ys))
        | none => .bad
      | _ => .bad
    | _ => .bad
  | _ => .bad := (rfl)
@[simp] theorem c_Sl {a : E} {lo hi : EO} : eSl a lo hi ρ st = bindR (a ρ st) fun v st1 => bindR (lo ρ st1) fun l st2 => bindR (hi ρ st2) fun h st3 => match v with
  | .tup xs => .ok (.tup (cutG xs l h)) st3
  | .str z => if z.length ≤ sizeLine then .ok (.str (cutS z l h)) st3 else .bad
  | v => match lstOf st3 v with
    | some xs => .ok (.lst (cutG xs l h)) st3
    | none => .bad := (rfl)
@[simp] theorem c_oNone : oNone ρ st = .ok none st := (rfl)
@[simp] theorem c_oSome {a : E} : oSome a ρ st = bindR (a ρ st) fun v st1 => match v with | .int i => .ok (some i) st1 | _ => .bad := (rfl)
@[simp] theorem c_RevT {a : E} : eRevT a ρ st = bindR (a ρ st) fun v st1 => match v with | .tup xs => .ok (.tup xs.reverse) st1 | _ => .bad := (rfl)
@[simp] theorem c_itV {e : E} : itV e ρ st = bindR (e ρ st) fun v st1 => match v with | .lst xs => .ok xs st1 | .tup xs => .ok xs st1 | .str z => .ok (strV z) st1 | _ => .bad := (rfl)
@[simp] theorem c_itEnum {a : EA} : itEnum a ρ st = bindR (a ρ st) fun vs st1 => match vs with | [.lst xs] => .ok (enumV 0 xs) st1 | [.tup xs] => .ok (enumV 0 xs) st1 | _ => .bad := (rfl)
@[simp] theorem c_itZip {a : EA} : itZip a ρ st = bindR (a ρ st) fun vs st1 => match vs with | [.lst xs, .lst ys] => .ok (zipV xs ys) st1 | [.tup xs, .tup ys] => .ok (zipV xs ys) st1 | _ => .bad := (rfl)
@[simp] theorem c_itRange1 {a : EA} : itRange1 a ρ st = bindR (a ρ st) fun vs st1 => match vs with | [.int j] => if -(2 ^ 62) ≤ j ∧ j < 2 ^ 62 then .ok (rangeV 0 j.toNat) st1 else .bad | _ => .bad := (rfl)
@[simp] theorem c_itRange2 {a : EA} : itRange2 a ρ st = bindR (a ρ st) fun vs st1 => match vs with | [.int i, .int j] => if -(2 ^ 62) ≤ i ∧ i < 2 ^ 62 ∧ -(2 ^ 62) ≤ j ∧ j < 2 ^ 62 then .ok (rangeV i (j - i).toNat) st1 else .bad | _ => .bad := (rfl)
@[simp] theorem c_Yes : eYes ρ st = .ok true st := (rfl)
@[simp] theorem c_Lc {new : Bool} {own : List Nat} {it : EI} {g : G} {c : ET} {e : E} : eLc new own it g c e ρ st = bindR (it ρ st) fun items st1 => lcE new own g c e ρ items st1 := (rfl)
@[simp] theorem c_gN {i : Nat} {v : Val} : gN i v ρ st = some (ρ.set i (some v), st) := (rfl)
@[simp] theorem c_gNil : gNil' [] ρ st = some (ρ, st) := (rfl)
@[simp] theorem c_gCons {g : G} {gs : GS} {v : Val} {r : List Val} : gCons' g gs (v :: r) ρ st = (match g v ρ st with | some (ρ1, st1) => gs r ρ1 st1 | none => none) := (rfl)
@[simp] theorem c_gT {n : Nat} {gs : GS} {xs : List Val} : gT n gs (.tup xs) ρ st = if xs.length = n then gs xs ρ st else none := (rfl)
@[simp] theorem c_gIx {o i : E} {v : Val} : gIx o i v ρ st = (match o ρ st with
  | .ok w st1 => match i ρ st1 with
    | .ok k st2 => (fSet st2 w k v).map fun st3 => (ρ, st3)
    | _ => none
  | _ => none) := (rfl)
@[simp] theorem d_Skip : sSkip ρ st = .nx ρ st := (rfl)
@[simp] theorem d_Seq {a b : S} : sSeq a b ρ st = (match a ρ st with | .nx ρ1 st1 => b ρ1 st1 | r => r) := (rfl)
@[simp] theorem d_bindS_ok {α : Type} {a : α} {f : α → Sto → SR} : bindS (.ok a st) ρ f = f a st := (rfl)
@[simp] theorem d_Expr {e : E} : sExpr e ρ st = bindS (e ρ st) ρ fun _ st1 => .nx ρ st1 := (rfl)
@[simp] theorem d_Ret {e : E} : sRet e ρ st = bindS (e ρ st) ρ fun v st1 => .rt v st1 := (rfl)
@[simp] theorem d_RetN : sRetN ρ st = .rt .non st := (rfl)
@[simp] theorem d_If {t : ET} {a b : S} : sIf t a b ρ st = bindS (t ρ st) ρ fun c st1 => if c = true then a ρ st1 else b ρ st1 := (rfl)
@[simp] theorem d_Set {i : Nat} {e : E} : sSet i e ρ st = bindS (e ρ st) ρ fun v st1 => .nx (ρ.set i (some v)) st1 := (rfl)
@[simp] theorem d_Asg {g : G} {e : E} : sAsg g e ρ st = bindS (e ρ st) ρ fun v st1 => match g v ρ st1 with | some (ρ2, st2) => .nx ρ2 st2 | none => .bad := (rfl)
@[simp] theorem d_Par {i j : Nat} {a : EA} : sPar i j a ρ st = bindS (a ρ st) ρ fun vs st1 => match vs with | [v, w] => .nx ((ρ.set i (some v)).set j (some w)) st1 | _ => .bad := (rfl)
@[simp] theorem d_For {it : EI} {g : G} {b : S} : sFor it g b ρ st = bindS (it ρ st) ρ fun vs st1 => forL g b vs ρ st1 := (rfl)
@[simp] theorem d_Aug {f : Sto → Val → Val → Option Val} {i : Nat} {e : E} : sAug f i e ρ st = (match ρ[i]? with
  | some (some v) => bindS (e ρ st) ρ fun w st1 => match f st1 v w with
    | some z => .nx (ρ.set i (some z)) st1
    | none => .bad
  | _ => .bad) := (rfl)
@[simp] theorem d_forNil {g : G} {b : S} : forL g b [] ρ st = .nx ρ st := (rfl)
theorem forL_cons {g : G} {b : S} {v : Val} {vs : List Val} : forL g b (v :: vs) ρ st = (match g v ρ st with
    | some (ρ1, st1) => match b ρ1 st1 with
      | .nx ρ2 st2 => forL g b vs ρ2 st2
      | .ct ρ2 st2 => forL g b vs ρ2 st2
      | .bk ρ2 st2 => .nx ρ2 st2
      | .rt v st2 => .rt v st2
      | .ex x ρ2 st2 => .ex x ρ2 st2
      | .bad => .bad
    | none => .bad) := (rfl)
@[simp] theorem k_fI0 {g : Int → Int → Val} {i j : Int} : fI0 g st (.int i) (.int j) = some (g i j) := (rfl)
@[simp] theorem k_lt {i j : Int} : fLt st (.int i) (.int j) = some (.bl (decide (i < j))) := (rfl)
@[simp] theorem k_ltT {i j : Int} : fLtT st (.int i) (.int j) = some (.bl (decide (i < j))) := (rfl)
@[simp] theorem k_le {i j : Int} : fLe st (.int i) (.int j) = some (.bl (decide (i ≤ j))) := (rfl)
@[simp] theorem k_gt {i j : Int} : fGt st (.int i) (.int j) = some (.bl (decide (j < i))) := (rfl)
@[simp] theorem k_ge {i j : Int} : fGe st (.int i) (.int j) = some (.bl (decide (j ≤ i))) := (rfl)
@[simp] theorem k_sub {i j : Int} : fSub st (.int i) (.int j) = some (.int (i - j)) := (rfl)
@[simp] theorem k_add {i j : Int} : fAdd st (.int i) (.int j) = some (.int (i + j)) := (rfl)
@[simp] theorem k_eqI {i j : Int} : fEqA st (.int i) (.int j) = some (.bl (decide (i = j))) := (rfl)
@[simp] theorem k_neI {i j : Int} : fNeA st (.int i) (.int j) = some (.bl (!decide (i = j))) := (rfl)
@[simp] theorem k_eqS {i j : Str} : fEqA st (.str i) (.str j) = some (.bl (decide (i = j))) := (rfl)
@[simp] theorem k_neS {i j : Str} : fNeA st (.str i) (.str j) = some (.bl (!decide (i = j))) := (rfl)
@[simp] theorem k_int {i : Int} : fIntA st [.int i] = some (.int i) := (rfl)
@[simp] theorem k_intB {b : Bool} : fIntA st [.bl b] = some (.int (if b then 1 else 0)) := (rfl)
@[simp] theorem k_tupT {xs : List Val} : fTuple st [.tup xs] = some (.tup xs) := (rfl)
@[simp] theorem k_tupL {xs : List Val} : fTuple st [.lst xs] = some (.tup xs) := (rfl)
@[simp] theorem k_lstT {xs : List Val} : fListA st [.tup xs] = some (.lst xs) := (rfl)
@[simp] theorem k_lstL {xs : List Val} : fListA st [.lst xs] = some (.lst xs) := (rfl)
@[simp] theorem k_seqT {xs : List Val} : seqOf st (.tup xs) = some xs := (rfl)
@[simp] theorem k_seqL {xs : List Val} : seqOf st (.lst xs) = some xs := (rfl)
@[simp] theorem k_lstOf {xs : List Val} : lstOf st (.lst xs) = some xs := (rfl)
theorem k_lenT {xs : List Val} : fLen st [.tup xs] = some (.int xs.length) := (rfl)
theorem k_lenL {xs : List Val} : fLen st [.lst xs] = some (.int xs.length) := (rfl)
@[simp] theorem k_isiT {t : Ty6} {xs : List Val} : isTy t st (.tup xs) = some (match t with | .tuple => true | _ => false) := (rfl)
@[simp] theorem k_isiI {t : Ty6} {i : Int} : isTy t st (.int i) = some (match t with | .int => true | _ => false) := (rfl)
theorem sz {n : Nat} (h : n ≤ 16777216) : n ≤ sizeLine := by rw [sizeLine_eq]; exact h
@[simp] theorem k_ix0 {x : Val} {xs : List Val} : fIx st (.tup (x :: xs)) (.int 0) = some x := ix_tup (by decide) rfl
@[simp] theorem k_ix1 {x y : Val} {xs : List Val} : fIx st (.tup (x :: y :: xs)) (.int 1) = some y := ix_tup (by decide) rfl
@[simp] theorem k_ixL0 {x : Val} {xs : List Val} : fIx st (.lst (x :: xs)) (.int 0) = some x := ix_lst (by decide) rfl
end
theorem runF_of {n : Nat} {b : S} {args : List Val} {st st' more : Sto} {v : Val} (h : b (startE n args) st = .rt v (st' ++ more)) (hl : st'.length = st.length) (ho : okOld st st' = true) (hv : belV st.length v = true) : runF n b args st = .ok v st' := by
  unfold runF
  rw [h]
  show fin st v (st' ++ more) = _
  rw [fin_bel (okOld_app ho more) hv, ← hl, List.take_left]
theorem runF_of0 {n : Nat} {b : S} {args : List Val} {st st' : Sto} {v : Val} (h : b (startE n args) st = .rt v st') (hl : st'.length = st.length) (ho : okOld st st' = true) (hv : belV st.length v = true) : runF n b args st = .ok v st' :=
  runF_of (more := []) (by rw [List.append_nil]; exact h) hl ho hv
/-- the draw alone is changed -/
theorem okOld_draw {cs cs' : List Int} {a l u a' l' u' : Int} (rest : Sto) : okOld (drawOb cs a l u :: rest) (drawOb cs' a' l' u' :: rest) = true := by
  have e : drawOb cs' a' l' u' :: rest = (drawOb cs a l u :: rest).set 0 (drawOb cs' a' l' u') := (rfl)
  rw [e]
  exact okOld_set bel_draw
end Gc

set_option Elab.async false
set_option linter.all false
set_option maxRecDepth 100000
set_option maxHeartbeats 4000000
namespace Gc
open PySem PySem.Spec PyProof.Rows L2 Ev
/-- the state of the draws; B bounds how many were mixed -/
structure DrOk (cs : List Int) (a l u : Int) (B : Int) : Prop where
  ne : cs ≠ []
  len : cs.length ≤ 1000
  a0 : 0 ≤ a
  l0 : 0 ≤ l
  u0 : 0 ≤ u
  ub : u ≤ B
theorem DrOk.le {cs : List Int} {a l u B B' : Int} (h : DrOk cs a l u B) (hb : B ≤ B') : DrOk cs a l u B' := ⟨h.ne, h.len, h.a0, h.l0, h.u0, by have := h.ub; omega⟩
theorem next_ok {cs : List Int} {a l u B many : Int} (rest : Sto) (h : DrOk cs a l u B) (hB : B < 2 ^ 59) (hm : 0 < many) (hmb : many ≤ 10 ^ 40) :
    ∃ r a' l' u', m__law_next [.loc 0, .int many] (drawOb cs a l u :: rest) = .ok (.int r) (drawOb cs a' l' u' :: rest) ∧ 0 ≤ r ∧ r < many ∧ DrOk cs a' l' u' (B + 1) := by
  have hb2 : many.natAbs < 2 ^ 2000 := by
    have h1 : many.natAbs ≤ 10 ^ 40 := by omega
    have h2 : (10 : Nat) ^ 40 < 2 ^ 134 := by decide
    have h3 : (2 : Nat) ^ 134 ≤ 2 ^ 2000 := Nat.pow_le_pow_right (by decide) (by decide)
    omega
  have := h.ub
  obtain ⟨r, a', l', u', e, h1, h2, h3, h4, h5, h6⟩ := next_set (st := drawOb cs a l u :: rest) (d := 0) (many := many) (by simp) h.ne h.len h.a0 h.l0 h.u0 (by omega) hm hb2
  exact ⟨r, a', l', u', e, h1, h2, ⟨h.ne, h.len, h3, h4, h5, by omega⟩⟩
/-- one item of a list -/
theorem pick_ok {cs : List Int} {a l u B : Int} {xs : List Val} (rest : Sto) (h : DrOk cs a l u B) (hB : B < 2 ^ 59) (hx : xs ≠ []) (hl : xs.length ≤ 100000) (hb : ∀ x, x ∈ xs → belV (rest.length + 1) x = true) :
    ∃ x a' l' u', x ∈ xs ∧ m__law_pick [.loc 0, .lst xs] (drawOb cs a l u :: rest) = .ok x (drawOb cs a' l' u' :: rest) ∧ DrOk cs a' l' u' (B + 1) := by
  have hp := List.length_pos_iff.mpr hx
  obtain ⟨r, a', l', u', e, h1, h2, h3⟩ := next_ok (many := (xs.length : Int)) rest h hB (by omega) (by omega)
  have hr : r.toNat < xs.length := by omega
  refine ⟨xs[r.toNat], a', l', u', List.getElem_mem hr, ?_, h3⟩
  have e2 : ∀ st, fIx st (.lst xs) (.int r) = some xs[r.toNat] := fun st => ix_lst h1 (List.getElem?_eq_getElem hr)
  refine runF_of0 ?_ rfl (okOld_draw rest) (hb _ (List.getElem_mem hr))
  simp [b__law_pick, startE, bindR, bindS, optR, k_lenL, e, e2]
theorem begin_ok (ns : List Int) (hl : ns.length ≤ 63) (rest : Sto) : ∃ cs, m__law_begin [.lst (ns.map .int)] [] = .ok (.loc 0) [drawOb cs 0 0 0] ∧ DrOk cs 0 0 0 0 := by
  refine ⟨ns ++ [0], ?_, ⟨by simp, by simp; omega, by decide, by decide, by decide, by decide⟩⟩
  unfold m__law_begin runK
  have hz : ((ns.map Val.int).length + 1 ≤ sizeLine) = True := eq_true (by rw [List.length_map]; exact sz (by omega))
  have e : fAdd [.dK []] (.lst (ns.map Val.int)) (.lst [.int 0]) = some (.lst ((ns ++ [0]).map .int)) := by
    simp only [fAdd, lstOf, dr, List.length_cons, List.length_nil, Nat.zero_add, hz, if_true, List.map_append, List.map_cons, List.map_nil]
  have e1 : (1 ≤ sizeLine) = True := eq_true (sz (by decide))
  have e2 : b__law_begin (startE 1 [.lst (ns.map .int)]) [] = .rt (.loc 0) [drawOb (ns ++ [0]) 0 0 0] := by
    simp [b__law_begin, startE, bindR, bindS, eDisp, epCons, epNil, Ev.keyOf, e1, optR, e, -List.map_append]
    rfl
  rw [e2]
  rfl
def gh (rooms : Int) (gs : List (Int × Int)) : Val := .tup [.int rooms, .tup (gs.map pV)]
def ltG (a b : Int × Int) : Prop := a.1 < b.1 ∨ (a.1 = b.1 ∧ a.2 < b.2)
def okG (rooms : Int) (g : Int × Int) : Prop := -1 ≤ g.1 ∧ g.1 ≤ rooms - 1 ∧ -1 ≤ g.2 ∧ g.2 ≤ rooms - 1 ∧ g.1 ≠ g.2
structure GoodH (rooms : Int) (gs : List (Int × Int)) : Prop where
  lo : 1 ≤ rooms
  hi : rooms ≤ 8
  len : gs.length ≤ 16
  at_ : ∀ g, g ∈ gs → okG rooms g
  srt : gs.Pairwise ltG
theorem bel_pV {n : Nat} : ∀ gs : List (Int × Int), belVs n (gs.map pV) = true
  | [] => rfl
  | g :: gs => by simp [belVs, belV, pV, bel_pV gs]
theorem bel_gh {n : Nat} {rooms : Int} {gs : List (Int × Int)} : belV n (gh rooms gs) = true := by
  simp [gh, belV, belVs, bel_pV]
theorem bel_ints {n : Nat} (cs : List Int) : belV n (.tup (cs.map .int)) = true := by
  simp [belV, bel_intsL]
theorem rangeV_length (a : Int) : ∀ n : Nat, (rangeV a n).length = n := by
  intro n
  simp [rangeV]
def kG (g : Int × Int) : List Key := [.inl g.1, .inl g.2]
structure Found (size : Nat) (rooms : Int) (kvs : List (List Key × Val)) (gs : List (Int × Int)) : Prop where
  keys : kvs.map (·.1) = gs.map kG
  nd : gs.Nodup
  len : gs.length ≤ size
  at_ : ∀ g, g ∈ gs → okG rooms g
theorem Found.klen {size : Nat} {rooms : Int} {kvs : List (List Key × Val)} {gs : List (Int × Int)} (h : Found size rooms kvs gs) : kvs.length = gs.length := by
  have := congrArg List.length h.keys
  simpa using this
theorem put_found {size : Nat} {rooms : Int} {kvs : List (List Key × Val)} {gs : List (Int × Int)} (h : Found size rooms kvs gs) (hl : gs.length < size) {g : Int × Int} (hg : okG rooms g) (v : Val) : ∃ gs', Found size rooms (put kvs (kG g) v) gs' := by
  unfold put
  by_cases hm : (kvs.any fun kv => decide (kv.1 = kG g)) = true
  · rw [if_pos hm]
    refine ⟨gs, ?_, h.nd, h.len, h.at_⟩
    rw [← h.keys, List.map_map]
    apply List.map_congr_left
    intro kv _
    show (if kv.1 = kG g then (kv.1, v) else kv).1 = kv.1
    split <;> rfl
  · rw [if_neg hm]
    refine ⟨gs ++ [g], ?_, ?_, ?_, ?_⟩
    · rw [List.map_append, List.map_append, h.keys]
      rfl
    · rw [List.nodup_append]
      refine ⟨h.nd, by simp, fun a ha b hb => ?_⟩
      rw [List.mem_singleton] at hb
      subst hb
      intro e
      subst e
      refine hm ?_
      have : kG a ∈ kvs.map (·.1) := by rw [h.keys]; exact List.mem_map_of_mem ha
      obtain ⟨kv, hk, e⟩ := List.mem_map.mp this
      rw [List.any_eq_true]
      exact ⟨kv, hk, decide_eq_true e⟩
    · simp; omega
    · intro x hx
      rcases List.mem_append.mp hx with hx | hx
      · exact h.at_ x hx
      · rw [List.mem_singleton] at hx
        subst hx
        exact hg
theorem keys_pV {size : Nat} {rooms : Int} {kvs : List (List Key × Val)} {gs : List (Int × Int)} (h : Found size rooms kvs gs) : (kvs.map fun kv => Val.tup (kv.1.map kVal)) = gs.map pV := by
  have e : (kvs.map fun kv => Val.tup (kv.1.map kVal)) = (kvs.map (·.1)).map fun k => Val.tup (k.map kVal) := by rw [List.map_map]; rfl
  rw [e, h.keys, List.map_map]
  rfl
theorem pairsOf_pV : ∀ gs : List (Int × Int), pairsOf (gs.map pV) = some gs
  | [] => rfl
  | g :: gs => by
    rw [List.map_cons]
    show (pairsOf (gs.map pV)).map _ = _
    rw [pairsOf_pV gs]
    rfl
theorem sorted_pV {st : Sto} (gs : List (Int × Int)) : fSortedB st [.lst (gs.map pV)] = some (.lst ((sortP gs).map pV)) := by
  have e : fSorted st [.lst (gs.map pV)] = some (.lst ((sortP gs).map pV)) := by
    cases gs with
    | nil => simp [fSorted, lstOf, dr, intsOf, sortI, sortP, Gr.isort]
    | cons g gs =>
      have e : intsOf ((g :: gs).map pV) = none := rfl
      simp only [fSorted, lstOf, dr, e, pairsOf_pV, Option.map_some]
  unfold fSortedB
  rw [e]
theorem good_sort {size : Nat} {rooms : Int} {kvs : List (List Key × Val)} {gs : List (Int × Int)} (hs : size ≤ 16) (h1 : 1 ≤ rooms) (h8 : rooms ≤ 8) (h : Found size rooms kvs gs) : GoodH rooms (sortP gs) ∧ (sortP gs).length ≤ size := by
  have p : (sortP gs).Perm gs := Gr.isort_perm gs
  refine ⟨⟨h1, h8, by rw [p.length_eq]; exact Nat.le_trans h.len hs, fun g hg => h.at_ g (p.mem_iff.mp hg), ?_⟩, by rw [p.length_eq]; exact h.len⟩
  have nd : (sortP gs).Nodup := p.nodup_iff.mpr h.nd
  refine ((sortP_pw gs).and nd).imp fun {a b} ⟨hab, hne⟩ => ?_
  rw [leP_iff] at hab
  unfold ltG
  rcases hab with hab | ⟨h1, h2⟩
  · exact .inl hab
  · refine .inr ⟨h1, ?_⟩
    have : a.2 ≠ b.2 := fun e => hne (Prod.ext h1 e)
    omega
theorem other_ok {rooms r1 r2 : Int} (h1 : 0 ≤ r1) (h2 : r1 < rooms + 1) (h3 : 0 ≤ r2) (h4 : r2 < rooms) : ∃ o, (r1 - 1 + 1 + 1 + r2) % (rooms + 1) - 1 = o ∧ -1 ≤ o ∧ o ≤ rooms - 1 ∧ r1 - 1 ≠ o := by
  by_cases h : r1 - 1 + 1 + 1 + r2 < rooms + 1
  · rw [Int.emod_eq_of_lt (by omega) h]
    exact ⟨_, rfl, by omega, by omega, by omega⟩
  · have e : (r1 - 1 + 1 + 1 + r2) % (rooms + 1) = (r1 - 1 + 1 + 1 + r2 - (rooms + 1)) % (rooms + 1) := by rw [Int.sub_emod_right]
    rw [e, Int.emod_eq_of_lt (by omega) (by omega)]
    exact ⟨_, rfl, by omega, by omega, by omega⟩
/-- the place behind all -/
theorem snoc_get {d : Ob} {rest : Sto} {o : Ob} : (d :: (rest ++ [o]))[rest.length + 1]? = some o := by simp
theorem snoc_set {d : Ob} {rest : Sto} {o p : Ob} : (d :: (rest ++ [o])).set (rest.length + 1) p = d :: (rest ++ [p]) := by simp
theorem fSet_dT {d : Ob} {rest : Sto} {kvs : List (List Key × Val)} {a b : Int} {v : Val} (h : kvs.length ≤ 1000) : fSet (d :: (rest ++ [.dT kvs])) (.loc (rest.length + 1)) (.tup [.int a, .int b]) v = some (d :: (rest ++ [.dT (put kvs (kG (a, b)) v)])) := by
  have h2 : kvs.length < sizeLine := by rw [sizeLine_eq]; omega
  unfold fSet
  simp only [snoc_get]
  rw [if_pos h2]
  simp only [tupOf, Option.bind_some, keysOf, Ev.keyOf, Option.map_some, snoc_set]
  rfl
theorem fLen_dT {st : Sto} {n : Nat} {kvs : List (List Key × Val)} (h : st[n]? = some (.dT kvs)) : fLen st [.loc n] = some (.int kvs.length) := by
  simp [fLen, h]
theorem fMod_ok {st : Sto} {i j : Int} (h : 0 < j) : fMod st (.int i) (.int j) = some (.int (i % j)) := fMod_eq h
def houseLoop : S := sSeq (sSet 6 (eB fSub (eCall 2 m__law_next (eCons (eV 0) (eCons (eB fAdd (eV 3) (eC (.int 1))) eNil))) (eC (.int 1))))
  (sSeq (sSet 7 (eB fSub (eB fMod (eBf fIntA (eCons (eB fAdd (eB fAdd (eB fAdd (eV 6) (eC (.int 1))) (eC (.int 1))) (eCall 2 m__law_next (eCons (eV 0) (eCons (eV 3) eNil)))) eNil)) (eB fAdd (eV 3) (eC (.int 1)))) (eC (.int 1))))
  (sSeq (sIf (eTest (eB fLtT (eBf fLen (eCons (eV 4) eNil)) (eV 2))) (sAsg (gIx (eV 4) (eTup (eCons (eV 6) (eCons (eV 7) eNil)))) (eC (.bl true))) sSkip)
  (sIf (eAndT (eTest (eB fEqA (eCall 2 m__law_next (eCons (eV 0) (eCons (eC (.int 3)) eNil))) (eC (.int 0)))) (eTest (eB fLtT (eBf fLen (eCons (eV 4) eNil)) (eV 2)))) (sAsg (gIx (eV 4) (eTup (eCons (eV 7) (eCons (eV 6) eNil)))) (eC (.bl true))) sSkip)))
theorem put_step {size : Nat} (hs : size ≤ 16) {rooms : Int} {kvs : List (List Key × Val)} {gs : List (Int × Int)} (hf : Found size rooms kvs gs) {x y : Int} (hg : okG rooms (x, y)) {i j : Nat} : ∃ kvs1 gs1, Found size rooms kvs1 gs1 ∧ ∀ (d : Ob) (rest : Sto) (ρ : Ev.Env), ρ[2]? = some (some (.int size)) → ρ[4]? = some (some (.loc (rest.length + 1))) → ρ[i]? = some (some (.int x)) → ρ[j]? = some (some (.int y)) →
      sIf (eTest (eB fLtT (eBf fLen (eCons (eV 4) eNil)) (eV 2))) (sAsg (gIx (eV 4) (eTup (eCons (eV i) (eCons (eV j) eNil)))) (eC (.bl true))) sSkip ρ (d :: (rest ++ [.dT kvs])) = .nx ρ (d :: (rest ++ [.dT kvs1])) := by
  have hk := hf.klen
  by_cases hl : gs.length < size
  · obtain ⟨gs', f⟩ := put_found hf hl hg (.bl true)
    refine ⟨_, gs', f, fun d rest ρ h2 h4 h6 h7 => ?_⟩
    have hl' : ((kvs.length : Nat) : Int) < size := by omega
    simp [bindR, bindS, optR, h2, h4, h6, h7, fLen_dT snoc_get, hk, hl, fSet_dT (show kvs.length ≤ 1000 by omega), two_le]
  · refine ⟨kvs, gs, hf, fun d rest ρ h2 h4 h6 h7 => ?_⟩
    have hl' : ¬ ((kvs.length : Nat) : Int) < size := by omega
    simp [bindR, bindS, optR, h2, h4, fLen_dT snoc_get, hk, hl]
theorem turn_ok {size : Nat} (hs : size ≤ 16) {cs : List Int} {a l u B rooms : Int} {most : Val} {kvs : List (List Key × Val)} {gs : List (Int × Int)} {k : Val} {x6 x7 : Option Val} (rest : Sto) (hd : DrOk cs a l u B) (hB : B < 2 ^ 58) (h1 : 1 ≤ rooms) (h8 : rooms ≤ 8) (hf : Found size rooms kvs gs) :
    ∃ a' l' u' kvs' gs' y6 y7, houseLoop [some (.loc 0), some most, some (.int size), some (.int rooms), some (.loc (rest.length + 1)), some k, x6, x7] (drawOb cs a l u :: (rest ++ [.dT kvs])) = .nx [some (.loc 0), some most, some (.int size), some (.int rooms), some (.loc (rest.length + 1)), some k, y6, y7] (drawOb cs a' l' u' :: (rest ++ [.dT kvs']))
      ∧ DrOk cs a' l' u' (B + 3) ∧ Found size rooms kvs' gs' := by
  obtain ⟨r1, a1, l1, u1, e1, p1, q1, d1⟩ := next_ok (many := rooms + 1) (rest ++ [.dT kvs]) hd (by omega) (by omega) (by omega)
  obtain ⟨r2, a2, l2, u2, e2, p2, q2, d2⟩ := next_ok (many := rooms) (rest ++ [.dT kvs]) d1 (by omega) (by omega) (by omega)
  obtain ⟨o, ho, ho1, ho2, ho3⟩ := other_ok p1 q1 p2 q2
  have hg1 : okG rooms (r1 - 1, o) := ⟨by simp; omega, by simp; omega, ho1, ho2, ho3⟩
  have hg2 : okG rooms (o, r1 - 1) := ⟨ho1, ho2, by simp; omega, by simp; omega, fun e => ho3 e.symm⟩
  have hm : (0 : Int) < rooms + 1 := by omega
  obtain ⟨kvs1, gs1, f1, e3⟩ := put_step hs hf hg1 (i := 6) (j := 7)
  obtain ⟨r3, a3, l3, u3, e4, p3, q3, d3⟩ := next_ok (many := 3) (rest ++ [.dT kvs1]) d2 (by omega) (by omega) (by omega)
  obtain ⟨kvs2, gs2, f2, e5⟩ := put_step hs f1 hg2 (i := 7) (j := 6)
  have s1 : ∀ ρ : Ev.Env, ρ[0]? = some (some (.loc 0)) → ρ[3]? = some (some (.int rooms)) → sSet 6 (eB fSub (eCall 2 m__law_next (eCons (eV 0) (eCons (eB fAdd (eV 3) (eC (.int 1))) eNil))) (eC (.int 1))) ρ (drawOb cs a l u :: (rest ++ [.dT kvs])) = .nx (ρ.set 6 (some (.int (r1 - 1)))) (drawOb cs a1 l1 u1 :: (rest ++ [.dT kvs])) := fun ρ h0 h3 => by
    simp [bindR, bindS, optR, h0, h3, e1]
  have s2 : ∀ ρ : Ev.Env, ρ[0]? = some (some (.loc 0)) → ρ[3]? = some (some (.int rooms)) → ρ[6]? = some (some (.int (r1 - 1))) → sSet 7 (eB fSub (eB fMod (eBf fIntA (eCons (eB fAdd (eB fAdd (eB fAdd (eV 6) (eC (.int 1))) (eC (.int 1))) (eCall 2 m__law_next (eCons (eV 0) (eCons (eV 3) eNil)))) eNil)) (eB fAdd (eV 3) (eC (.int 1)))) (eC (.int 1))) ρ (drawOb cs a1 l1 u1 :: (rest ++ [.dT kvs])) = .nx (ρ.set 7 (some (.int o))) (drawOb cs a2 l2 u2 :: (rest ++ [.dT kvs])) := fun ρ h0 h3 h6 => by
    simp only [d_Set, c_B, c_Bf, c_Call, c_Cons, c_Nil, c_V, c_C, bindR_ok, d_bindS_ok, optR_some, h0, h3, h6, k_add, k_int, List.length_cons, List.length_nil, Nat.zero_add, Nat.reduceAdd, if_true, e2, fMod_ok hm, k_sub, ho]
  by_cases hr : r3 = 0
  · refine ⟨a3, l3, u3, kvs2, gs2, some (.int (r1 - 1)), some (.int o), ?_, ⟨d3.ne, d3.len, d3.a0, d3.l0, d3.u0, by have := d3.ub; omega⟩, f2⟩
    unfold houseLoop
    rw [d_Seq, s1 _ rfl rfl]
    dsimp only
    rw [d_Seq, s2 _ rfl rfl rfl]
    dsimp only
    rw [d_Seq, e3 _ _ _ rfl rfl rfl rfl]
    dsimp only
    have e6 := e5 (drawOb cs a3 l3 u3) rest [some (.loc 0), some most, some (.int size), some (.int rooms), some (.loc (rest.length + 1)), some k, some (.int (r1 - 1)), some (.int o)] rfl rfl rfl rfl
    rw [d_If] at e6
    rw [d_If, c_AndT]
    have e7 : eTest (eB fEqA (eCall 2 m__law_next (eCons (eV 0) (eCons (eC (.int 3)) eNil))) (eC (.int 0))) [some (.loc 0), some most, some (.int size), some (.int rooms), some (.loc (rest.length + 1)), some k, some (.int (r1 - 1)), some (.int o)] (drawOb cs a2 l2 u2 :: (rest ++ [.dT kvs1])) = .ok true (drawOb cs a3 l3 u3 :: (rest ++ [.dT kvs1])) := by
      simp [bindR, optR, e4, hr]
    show bindS (bindR (eTest _ [some (.loc 0), some most, some (.int size), some (.int rooms), some (.loc (rest.length + 1)), some k, some (.int (r1 - 1)), some (.int o)] _) _) _ _ = _
    rw [e7, bindR_ok, if_pos rfl]
    exact e6
  · refine ⟨a3, l3, u3, kvs1, gs1, some (.int (r1 - 1)), some (.int o), ?_, ⟨d3.ne, d3.len, d3.a0, d3.l0, d3.u0, by have := d3.ub; omega⟩, f1⟩
    unfold houseLoop
    rw [d_Seq, s1 _ rfl rfl]
    dsimp only
    rw [d_Seq, s2 _ rfl rfl rfl]
    dsimp only
    rw [d_Seq, e3 _ _ _ rfl rfl rfl rfl]
    dsimp only
    rw [d_If, c_AndT]
    have e7 : eTest (eB fEqA (eCall 2 m__law_next (eCons (eV 0) (eCons (eC (.int 3)) eNil))) (eC (.int 0))) [some (.loc 0), some most, some (.int size), some (.int rooms), some (.loc (rest.length + 1)), some k, some (.int (r1 - 1)), some (.int o)] (drawOb cs a2 l2 u2 :: (rest ++ [.dT kvs1])) = .ok false (drawOb cs a3 l3 u3 :: (rest ++ [.dT kvs1])) := by
      simp [bindR, optR, e4, hr]
    show bindS (bindR (eTest _ [some (.loc 0), some most, some (.int size), some (.int rooms), some (.loc (rest.length + 1)), some k, some (.int (r1 - 1)), some (.int o)] _) _) _ _ = _
    rw [e7, bindR_ok, if_neg (by decide)]
    rfl
theorem house_ok {most size : Nat} (hm1 : 1 ≤ most) (hm8 : most ≤ 8) (hs : size ≤ 16) {cs : List Int} {a l u B : Int} (rest : Sto) (hd : DrOk cs a l u B) (hB : B < 2 ^ 50) : ∃ rooms gs a' l' u', m__law_house [.loc 0, .int most, .int size] (drawOb cs a l u :: rest) = .ok (gh rooms gs) (drawOb cs a' l' u' :: rest) ∧ GoodH rooms gs ∧ rooms ≤ most ∧ gs.length ≤ size ∧ DrOk cs a' l' u' (B + 100) := by
  obtain ⟨r, a1, l1, u1, e1, p1, q1, d1⟩ := next_ok (many := most) rest hd (by omega) (by omega) (by omega)
  obtain ⟨n, a2, l2, u2, e2, p2, q2, d2⟩ := next_ok (many := size + 1) (rest ++ [.dT []]) d1 (by omega) (by omega) (by omega)
  have h1 : 1 ≤ 1 + r := by omega
  have h8 : 1 + r ≤ 8 := by omega
  have loop : ∀ (ks : List Val) (a l u B : Int) (kvs : List (List Key × Val)) (gs : List (Int × Int)) (x5 x6 x7 : Option Val), ks.length ≤ 16 → DrOk cs a l u B → B + 3 * (ks.length : Int) < 2 ^ 55 → Found size (1 + r) kvs gs → ∃ a' l' u' kvs' gs' y5 y6 y7,
      forL (gN 5) houseLoop ks [some (.loc 0), some (.int most), some (.int size), some (.int (1 + r)), some (.loc (rest.length + 1)), x5, x6, x7] (drawOb cs a l u :: (rest ++ [.dT kvs])) = .nx [some (.loc 0), some (.int most), some (.int size), some (.int (1 + r)), some (.loc (rest.length + 1)), y5, y6, y7] (drawOb cs a' l' u' :: (rest ++ [.dT kvs']))
        ∧ DrOk cs a' l' u' (B + 3 * (ks.length : Int)) ∧ Found size (1 + r) kvs' gs' := fun ks => by
    induction ks with
    | nil => intro a l u B kvs gs x5 x6 x7 _ hd _ hf; exact ⟨a, l, u, kvs, gs, x5, x6, x7, rfl, by simpa using hd, hf⟩
    | cons k ks ih =>
      intro a l u B kvs gs x5 x6 x7 hl hd hB hf
      simp only [List.length_cons] at hl hB
      obtain ⟨a', l', u', kvs', gs', y6, y7, e, d', f'⟩ := turn_ok hs (most := .int most) (k := k) (x6 := x6) (x7 := x7) rest hd (by omega) h1 h8 hf
      obtain ⟨a2, l2, u2, kvs2, gs2, z5, z6, z7, e2, d2, f2⟩ := ih a' l' u' (B + 3) kvs' gs' (some k) y6 y7 (by omega) d' (by omega) f'
      refine ⟨a2, l2, u2, kvs2, gs2, z5, z6, z7, ?_, d2.le (by rw [List.length_cons]; omega), f2⟩
      rw [forL_cons, c_gN]
      show (match houseLoop [some (.loc 0), some (.int most), some (.int size), some (.int (1 + r)), some (.loc (rest.length + 1)), some k, x6, x7] _ with | .nx ρ2 st2 => _ | .ct ρ2 st2 => _ | .bk ρ2 st2 => _ | .rt v st2 => _ | .ex x ρ2 st2 => _ | .bad => _) = _
      rw [e]
      exact e2
  obtain ⟨a3, l3, u3, kvs, gs, y5, y6, y7, e3, d3, f3⟩ := loop (rangeV 0 n.toNat) a2 l2 u2 (B + 1 + 1) [] [] none none none (by rw [rangeV_length]; omega) d2 (by rw [rangeV_length]; omega) ⟨rfl, by simp, by simp, by simp⟩
  obtain ⟨gd, gl⟩ := good_sort hs h1 h8 f3
  refine ⟨1 + r, sortP gs, a3, l3, u3, ?_, gd, by omega, gl, d3.le (by rw [rangeV_length]; omega)⟩
  refine runF_of (more := [.dT kvs]) ?_ rfl (okOld_draw rest) bel_gh
  have hn : -4611686018427387904 ≤ n ∧ n < 4611686018427387904 := by omega
  have hk := keys_pV f3
  have hla : ∀ d : Ob, fListA (d :: (rest ++ [.dT kvs])) [.loc (rest.length + 1)] = some (.lst (gs.map pV)) := fun d => by
    unfold fListA
    simp only [snoc_get, hk]
  have eL : houseLoop = houseLoop := rfl
  conv at eL => lhs; unfold houseLoop
  unfold b__law_house
  rw [eL]
  simp [startE, bindR, bindS, optR, e1, e2, hn, e3, hla, sorted_pV, two_le, gh]
end Gc

set_option Elab.async false
set_option linter.all false
set_option maxRecDepth 100000
set_option maxHeartbeats 4000000
namespace Gc
open PySem PySem.Spec PyProof.Rows L2 Ev
structure GoodF (many total : Nat) (cs : List Int) : Prop where
  len : cs.length = many
  pos : ∀ c, c ∈ cs → 0 ≤ c
  sum : cs.sum ≤ total
theorem sum_set : ∀ (cs : List Int) (i : Nat) (c : Int), cs[i]? = some c → (cs.set i (c + 1)).sum = cs.sum + 1
  | [], i, c, h => by simp at h
  | x :: cs, 0, c, h => by simp at h; subst h; simp; omega
  | x :: cs, i + 1, c, h => by
    have := sum_set cs i c (by simpa using h)
    simp only [List.set_cons_succ, List.sum_cons]
    omega
theorem sum_pos : ∀ {cs : List Int}, (∀ c, c ∈ cs → 0 ≤ c) → 0 ≤ cs.sum ∧ ∀ c, c ∈ cs → c ≤ cs.sum
  | [], _ => ⟨by simp, by simp⟩
  | x :: cs, h => by
    obtain ⟨h1, h2⟩ := sum_pos (cs := cs) fun c hc => h c (List.mem_cons_of_mem _ hc)
    have := h x List.mem_cons_self
    refine ⟨by rw [List.sum_cons]; omega, fun c hc => ?_⟩
    rw [List.sum_cons]
    rcases List.mem_cons.mp hc with rfl | hc
    · omega
    · have := h2 c hc; omega
theorem ixN_in {n : Nat} {k : Int} (h1 : 0 ≤ k) (h2 : k < n) : ixN n k = some k.toNat := by
  unfold ixN
  simp [h1, h2]
theorem sum_rep : ∀ k : Nat, (List.replicate k (0 : Int)).sum = 0
  | 0 => rfl
  | k + 1 => by rw [List.replicate_succ, List.sum_cons, sum_rep k]; rfl
theorem flat_rep : ∀ k : Nat, (List.replicate k [Val.int 0]).flatten = List.replicate k (Val.int 0)
  | 0 => rfl
  | k + 1 => by rw [List.replicate_succ, List.flatten_cons, flat_rep k]; rfl
theorem few_ok {many total : Nat} (hm : many ≤ 100) (ht : total ≤ 1000) {cs : List Int} {a l u B : Int} (rest : Sto) (hd : DrOk cs a l u B) (hB : B < 2 ^ 50) : ∃ ns a' l' u', m__law_few [.loc 0, .int many, .int total] (drawOb cs a l u :: rest) = .ok (.tup (ns.map .int)) (drawOb cs a' l' u' :: rest) ∧ GoodF many total ns ∧ DrOk cs a' l' u' (B + 1100) := by
  obtain ⟨n, a1, l1, u1, e1, p1, q1, d1⟩ := next_ok (many := total + 1) (rest ++ [.lst ((List.replicate many (0 : Int)).map .int)]) hd (by omega) (by omega) (by omega)
  have loop : ∀ (ks : List Val) (a l u B : Int) (ns : List Int) (x4 : Option Val), ks.length ≤ 1000 → DrOk cs a l u B → B + (ks.length : Int) < 2 ^ 55 → ns.length = many → (∀ c, c ∈ ns → 0 ≤ c) → ∃ a' l' u', ∃ ns' : List Int, ∃ y4 : Option Val,
      forL (gN 4) (sIf (eTest (eB fGt (eV 1) (eC (.int 0)))) (sAugI fIadd (eV 3) (eCall 2 m__law_next (eCons (eV 0) (eCons (eV 1) eNil))) (eC (.int 1))) sSkip) ks [some (.loc 0), some (.int many), some (.int total), some (.loc (rest.length + 1)), x4] (drawOb cs a l u :: (rest ++ [.lst (ns.map .int)])) = .nx [some (.loc 0), some (.int many), some (.int total), some (.loc (rest.length + 1)), y4] (drawOb cs a' l' u' :: (rest ++ [.lst (ns'.map .int)]))
        ∧ DrOk cs a' l' u' (B + (ks.length : Int)) ∧ ns'.length = many ∧ (∀ c, c ∈ ns' → 0 ≤ c) ∧ ns'.sum ≤ ns.sum + ks.length := fun ks => by
    induction ks with
    | nil => intro a l u B ns x4 _ hd _ h1 h2; exact ⟨a, l, u, ns, x4, rfl, by simpa using hd, h1, h2, by simp⟩
    | cons k ks ih =>
      intro a l u B ns x4 hl hd hB h1 h2
      simp only [List.length_cons] at hl hB
      by_cases h0 : 0 < many
      · obtain ⟨r, a', l', u', e, p, q, d'⟩ := next_ok (many := many) (rest ++ [.lst (ns.map .int)]) hd (by omega) (by omega) (by omega)
        have hr : r.toNat < ns.length := by omega
        have eg : ns[r.toNat]? = some ns[r.toNat] := List.getElem?_eq_getElem hr
        obtain ⟨a2, l2, u2, ns2, z4, e2, d2, f1, f2, f3⟩ := ih a' l' u' (B + 1) (ns.set r.toNat (ns[r.toNat] + 1)) (some k) (by omega) d' (by omega) (by simpa using h1) (fun c hc => by
          rcases List.mem_or_eq_of_mem_set hc with hc | rfl
          · exact h2 c hc
          · have := h2 _ (List.getElem_mem hr); omega)
        refine ⟨a2, l2, u2, ns2, z4, ?_, d2.le (by rw [List.length_cons]; omega), f1, f2, ?_⟩
        · rw [forL_cons, c_gN]
          have h0' : (0 : Int) < many := by omega
          have em : ((ns.map Val.int)[r.toNat]?) = some (.int ns[r.toNat]) := by rw [List.getElem?_map, eg]; rfl
          have e3 : (sIf (eTest (eB fGt (eV 1) (eC (.int 0)))) (sAugI fIadd (eV 3) (eCall 2 m__law_next (eCons (eV 0) (eCons (eV 1) eNil))) (eC (.int 1))) sSkip) [some (.loc 0), some (.int many), some (.int total), some (.loc (rest.length + 1)), some k] (drawOb cs a l u :: (rest ++ [.lst (ns.map .int)])) = .nx [some (.loc 0), some (.int many), some (.int total), some (.loc (rest.length + 1)), some k] (drawOb cs a' l' u' :: (rest ++ [.lst ((ns.set r.toNat (ns[r.toNat] + 1)).map .int)])) := by
            have el : fGet (drawOb cs a' l' u' :: (rest ++ [.lst (ns.map .int)])) (.loc (rest.length + 1)) (.int r) = some (.int ns[r.toNat]) := by
              unfold fGet lstOf dr
              simp only [snoc_get]
              rw [atI_ok p (by rw [List.length_map]; omega), em]
            have ew : fSet (drawOb cs a' l' u' :: (rest ++ [.lst (ns.map .int)])) (.loc (rest.length + 1)) (.int r) (.int (ns[r.toNat] + 1)) = some (drawOb cs a' l' u' :: (rest ++ [.lst ((ns.set r.toNat (ns[r.toNat] + 1)).map .int)])) := by
              unfold fSet
              simp only [snoc_get]
              rw [ixN_in p (by rw [List.length_map]; omega)]
              simp only [Option.map_some, snoc_set, List.map_set]
            simp only [d_If, c_Test, c_B, c_V, c_C, bindR_ok, optR_some, k_gt, d_bindS_ok, List.getElem?_cons_succ, List.getElem?_cons_zero, h0', decide_true, if_true, sAugI, c_Call, c_Cons, c_Nil, List.length_cons, List.length_nil, Nat.zero_add, Nat.reduceAdd, e, el]
            simp only [k_fI0, ew]
          show (match (sIf _ _ _) [some (.loc 0), some (.int many), some (.int total), some (.loc (rest.length + 1)), some k] _ with | .nx ρ2 st2 => _ | .ct ρ2 st2 => _ | .bk ρ2 st2 => _ | .rt v st2 => _ | .ex x ρ2 st2 => _ | .bad => _) = _
          rw [e3]
          exact e2
        · have := sum_set ns r.toNat _ eg
          rw [List.length_cons]
          omega
      · have hz : many = 0 := by omega
        subst hz
        obtain ⟨a2, l2, u2, ns2, z4, e2, d2, f1, f2, f3⟩ := ih a l u B ns (some k) (by omega) hd (by omega) h1 h2
        refine ⟨a2, l2, u2, ns2, z4, ?_, d2.le (by rw [List.length_cons]; omega), f1, f2, by rw [List.length_cons]; omega⟩
        rw [← e2, forL_cons, c_gN]
        simp [bindR, bindS, optR]
  obtain ⟨a3, l3, u3, ns, y4, e3, d3, g1, g2, g3⟩ := loop (rangeV 0 n.toNat) a1 l1 u1 (B + 1) (List.replicate many 0) none (by rw [rangeV_length]; omega) d1 (by rw [rangeV_length]; omega) (by simp) (fun c hc => by rw [List.eq_of_mem_replicate hc]; exact Int.le_refl _)
  refine ⟨ns, a3, l3, u3, ?_, ⟨g1, g2, ?_⟩, d3.le (by rw [rangeV_length]; omega)⟩
  · refine runF_of (more := [.lst (ns.map .int)]) ?_ rfl (okOld_draw rest) (bel_ints ns)
    have s1 : sSet 3 (eMulN (eLst (eCons (eC (.int 0)) eNil)) (eV 1)) (startE 5 [.loc 0, .int many, .int total]) (drawOb cs a l u :: rest) = .nx [some (.loc 0), some (.int many), some (.int total), some (.loc (rest.length + 1)), none] (drawOb cs a l u :: (rest ++ [.lst ((List.replicate many (0 : Int)).map .int)])) := by
      have er : (List.replicate many [Val.int 0]).flatten = (List.replicate many (0 : Int)).map Val.int := by
        rw [List.map_replicate]
        exact flat_rep many
      have hc : -(2 ^ 63) ≤ (many : Int) ∧ (many : Int) < 2 ^ 63 ∧ ([Val.int 0] : List Val).length * (many : Int).toNat ≤ sizeLine := ⟨by omega, by omega, by simp; exact sz (by omega)⟩
      have e : eMulN (eLst (eCons (eC (.int 0)) eNil)) (eV 1) (startE 5 [.loc 0, .int many, .int total]) (drawOb cs a l u :: rest) = .ok (.loc (rest.length + 1)) (drawOb cs a l u :: (rest ++ [.lst ((List.replicate many (0 : Int)).map .int)])) := by
        rw [c_MulN]
        have e1 : eLst (eCons (eC (.int 0)) eNil) (startE 5 [.loc 0, .int many, .int total]) (drawOb cs a l u :: rest) = .ok (.lst [.int 0]) (drawOb cs a l u :: rest) := by
          simp [bindR, one_le]
        have e2 : eV 1 (startE 5 [.loc 0, .int many, .int total]) (drawOb cs a l u :: rest) = .ok (.int many) (drawOb cs a l u :: rest) := rfl
        rw [e1, bindR_ok, e2, bindR_ok]
        dsimp only
        rw [if_pos hc, Int.toNat_natCast, er]
        rfl
      rw [d_Set, e]
      rfl
    have s2 : itRange1 (eCons (eCall 2 m__law_next (eCons (eV 0) (eCons (eB fAdd (eV 2) (eC (.int 1))) eNil))) eNil) [some (.loc 0), some (.int many), some (.int total), some (.loc (rest.length + 1)), none] (drawOb cs a l u :: (rest ++ [.lst ((List.replicate many (0 : Int)).map .int)])) = .ok (rangeV 0 n.toNat) (drawOb cs a1 l1 u1 :: (rest ++ [.lst ((List.replicate many (0 : Int)).map .int)])) := by
      have hn : -(2 ^ 62) ≤ n ∧ n < 2 ^ 62 := ⟨by omega, by omega⟩
      have e : eCons (eCall 2 m__law_next (eCons (eV 0) (eCons (eB fAdd (eV 2) (eC (.int 1))) eNil))) eNil [some (.loc 0), some (.int many), some (.int total), some (.loc (rest.length + 1)), none] (drawOb cs a l u :: (rest ++ [.lst ((List.replicate many (0 : Int)).map .int)])) = .ok [.int n] (drawOb cs a1 l1 u1 :: (rest ++ [.lst ((List.replicate many (0 : Int)).map .int)])) := by
        generalize (List.replicate many (0 : Int)).map Val.int = zs at e1 ⊢
        simp [bindR, optR, e1]
      rw [c_itRange1, e, bindR_ok]
      dsimp only
      rw [if_pos hn]
    unfold b__law_few
    rw [d_Seq, s1]
    dsimp only
    rw [d_Seq, d_For, s2, d_bindS_ok, e3]
    dsimp only
    generalize ns.map Val.int = zs
    simp [bindR, optR, fTuple, seqOf, dr, snoc_get]
  · rw [sum_rep, rangeV_length] at g3
    omega
end Gc

set_option Elab.async false
set_option linter.all false
set_option maxRecDepth 100000
set_option maxHeartbeats 4000000
namespace Gc
open PySem PySem.Spec PyProof.Rows L2 Ev
theorem lcL_fm {α : Type} {g : G} {c : ET} {e : E} {ρ : Ev.Env} {st : Sto} {h : α → Val} {p : α → Bool} {f : α → Val} : ∀ {xs : List α}, (∀ x, x ∈ xs → ∃ ρ1, g (h x) ρ st = some (ρ1, st) ∧ c ρ1 st = .ok (p x) st ∧ (p x = true → e ρ1 st = .ok (f x) st)) →
    lcL g c e ρ (xs.map h) st = .ok ((xs.filter p).map f) st
  | [], _ => rfl
  | x :: xs, hx => by
    obtain ⟨ρ1, h1, h2, h3⟩ := hx x List.mem_cons_self
    have ih := lcL_fm (xs := xs) fun y hy => hx y (List.mem_cons_of_mem _ hy)
    rw [List.map_cons]
    unfold lcL
    rw [h1]
    dsimp only
    rw [h2]
    cases hp : p x with
    | true =>
      dsimp only
      rw [h3 hp]
      dsimp only
      rw [ih, List.filter_cons_of_pos hp]
      rfl
    | false =>
      dsimp only
      rw [ih, List.filter_cons_of_neg (by rw [hp]; decide)]
/-- [f x for x in xs if p x] -/
theorem lc_fm {α : Type} {own : List Nat} {it : EI} {g : G} {c : ET} {e : E} {ρ : Ev.Env} {st0 st : Sto} {xs : List α} (h : α → Val) (p : α → Bool) (f : α → Val) (hi : it ρ st0 = .ok (xs.map h) st) (hl : xs.length ≤ 1000000)
    (hx : ∀ x, x ∈ xs → ∃ ρ1, g (h x) (wipeE ρ own) st = some (ρ1, st) ∧ c ρ1 st = .ok (p x) st ∧ (p x = true → e ρ1 st = .ok (f x) st)) : eLc false own it g c e ρ st0 = .ok (.lst ((xs.filter p).map f)) st := by
  rw [c_Lc, hi, bindR_ok]
  unfold lcE
  rw [if_pos (by rw [List.length_map, sizeLine_eq]; omega), lcL_fm hx]
  rfl
/-- [f x for x in xs] -/
theorem lc_mp {α : Type} {own : List Nat} {it : EI} {g : G} {e : E} {ρ : Ev.Env} {st0 st : Sto} {xs : List α} (h : α → Val) (f : α → Val) (hi : it ρ st0 = .ok (xs.map h) st) (hl : xs.length ≤ 1000000)
    (hx : ∀ x, x ∈ xs → ∃ ρ1, g (h x) (wipeE ρ own) st = some (ρ1, st) ∧ e ρ1 st = .ok (f x) st) : eLc false own it g eYes e ρ st0 = .ok (.lst (xs.map f)) st := by
  have := lc_fm (own := own) (c := eYes) (xs := xs) h (fun _ => true) f hi hl fun x hm => by
    obtain ⟨ρ1, h1, h2⟩ := hx x hm
    exact ⟨ρ1, h1, rfl, fun _ => h2⟩
  rw [this, List.filter_eq_self.mpr fun _ _ => rfl]
theorem intsOf_map : ∀ ns : List Int, intsOf (ns.map Val.int) = some ns
  | [] => rfl
  | n :: ns => by rw [List.map_cons, intsOf, intsOf_map ns]; rfl
theorem k_sum {st : Sto} (ns : List Int) : fSum st [.lst (ns.map .int)] = some (.int ns.sum) := by
  simp [fSum, intsOf_map]
theorem boolsOf_map : ∀ bs : List Bool, boolsOf (bs.map Val.bl) = some bs
  | [] => rfl
  | b :: bs => by rw [List.map_cons, boolsOf, boolsOf_map bs]; rfl
theorem k_all {st : Sto} (bs : List Bool) : fAll st [.lst (bs.map .bl)] = some (.bl (bs.all id)) := by
  simp [fAll, boolsOf_map]
theorem k_any {st : Sto} (bs : List Bool) : fAny st [.lst (bs.map .bl)] = some (.bl (bs.any id)) := by
  simp [fAny, boolsOf_map]
theorem k_sortI {st : Sto} (ns : List Int) : fSortedB st [.lst (ns.map .int)] = some (.lst ((sortI ns).map .int)) := by
  unfold fSortedB fSorted
  simp [intsOf_map]
theorem enumV_map {α : Type} (h : α → Val) : ∀ (xs : List α) (n : Nat), enumV n (xs.map h) = (xs.zipIdx n).map fun z => .tup [.int z.2, h z.1]
  | [], _ => rfl
  | x :: xs, n => by rw [List.map_cons, enumV, enumV_map h xs (n + 1)]; rfl
theorem zipV_map {α β : Type} (h : α → Val) (k : β → Val) : ∀ (xs : List α) (ys : List β), zipV (xs.map h) (ys.map k) = (xs.zip ys).map fun z => .tup [h z.1, k z.2]
  | [], _ => by simp [zipV]
  | _ :: _, [] => by simp [zipV]
  | x :: xs, y :: ys => by rw [List.map_cons, List.map_cons, zipV, zipV_map h k xs ys]; rfl
theorem rangeV_map (lo : Int) (n : Nat) : rangeV lo n = (List.range n).map fun i : Nat => .int (lo + i) := rfl
theorem eqv_ints : ∀ a b : List Int, PyData.eqvAll (a.map .int) (b.map .int) = decide (a = b)
  | [], [] => rfl
  | [], _ :: _ => rfl
  | _ :: _, [] => rfl
  | x :: a, y :: b => by
    rw [List.map_cons, List.map_cons, PyData.eqvAll, eqv_ints a b]
    show ((x == y) && _) = _
    by_cases h : x = y
    · subst h; simp
    · simp [h]
theorem lay_ints : ∀ a : List Int, PyData.canLayAll0 (a.map PyData.int) = true
  | [] => rfl
  | x :: a => by rw [List.map_cons, PyData.canLayAll0, lay_ints a]; rfl
theorem dep_ints : ∀ a : List Int, PyData.depthAll (a.map PyData.int) = 0
  | [] => rfl
  | x :: a => by rw [List.map_cons, PyData.depthAll, dep_ints a]; rfl
theorem shp_ints (a : List Int) : SeqAt.shaped (.list (a.map .int)) = true := by
  unfold SeqAt.shaped
  rw [Bool.and_eq_true, decide_eq_true_eq]
  refine ⟨lay_ints a, ?_⟩
  show PyData.depthAll _ + 1 ≤ 64
  rw [dep_ints]
  decide
theorem shp_intsT (a : List Int) : SeqAt.shaped (.tuple (a.map .int)) = true := shp_ints a
theorem in_ints {st : Sto} (i : Int) (ns : List Int) : isIn st (.int i) (.lst (ns.map .int)) = some (decide (i ∈ ns)) := by
  have hs : SeqAt.shaped (.int i) = true := rfl
  have he : ((ns.map PyData.int).any fun z => PyData.eqv z (.int i)) = decide (i ∈ ns) := by
    rw [List.any_map]
    by_cases h : i ∈ ns
    · rw [decide_eq_true h, List.any_eq_true]
      exact ⟨i, h, by show (i == i) = true; simp⟩
    · rw [decide_eq_false h, List.any_eq_false]
      intro x hx
      show ¬ (x == i) = true
      rw [beq_iff_eq]
      exact fun e => h (e ▸ hx)
  simp [isIn, dr, toD, toDs_ints, hs, shp_ints, he]
def lI (ns : List Int) : Val := .lst (ns.map .int)
theorem toDs_lI : ∀ ps : List (List Int), toDs (ps.map lI) = some (ps.map fun p => .list (p.map .int))
  | [] => rfl
  | p :: ps => by rw [List.map_cons, toDs, toDs_lI ps]; simp [lI, toD, toDs_ints]
theorem lay_ll : ∀ ps : List (List Int), PyData.canLayAll0 (ps.map fun p => PyData.list (p.map .int)) = true ∧ PyData.depthAll (ps.map fun p => PyData.list (p.map .int)) ≤ 1
  | [] => ⟨rfl, Nat.zero_le _⟩
  | p :: ps => by
    obtain ⟨h1, h2⟩ := lay_ll ps
    rw [List.map_cons, PyData.canLayAll0, PyData.depthAll, h1]
    refine ⟨by rw [Bool.and_true]; exact lay_ints p, Nat.max_le.mpr ⟨?_, h2⟩⟩
    show PyData.depthAll _ + 1 ≤ 1
    rw [dep_ints]
    decide
theorem in_lists {st : Sto} (p : List Int) (ps : List (List Int)) : isIn st (lI p) (.lst (ps.map lI)) = some (decide (p ∈ ps)) := by
  have he : ((ps.map fun p => PyData.list (p.map .int)).any fun z => PyData.eqv z (.list (p.map .int))) = decide (p ∈ ps) := by
    rw [List.any_map]
    by_cases h : p ∈ ps
    · rw [decide_eq_true h, List.any_eq_true]
      exact ⟨p, h, by show PyData.eqvAll _ _ = true; rw [eqv_ints]; simp⟩
    · rw [decide_eq_false h, List.any_eq_false]
      intro x hx
      show ¬ PyData.eqvAll (x.map .int) (p.map .int) = true
      rw [eqv_ints, decide_eq_true_eq]
      exact fun e => h (e ▸ hx)
  have hs : SeqAt.shaped (.list (ps.map fun p => .list (p.map .int))) = true := by
    unfold SeqAt.shaped
    rw [Bool.and_eq_true, decide_eq_true_eq]
    refine ⟨(lay_ll ps).1, ?_⟩
    show PyData.depthAll _ + 1 ≤ 64
    have := (lay_ll ps).2
    omega
  have e1 : toD (lI p) = some (.list (p.map .int)) := by simp [lI, toD, toDs_ints]
  have e2 : dr st (lI p) = lI p := rfl
  unfold isIn
  simp only [k_lstOf, toDs_lI, e2, e1, shp_ints, hs, Bool.and_self, if_true, he]
theorem k_in {st : Sto} {v w : Val} {b : Bool} (h : isIn st v w = some b) : fIn st v w = some (.bl b) := by
  unfold fIn
  rw [h]
  rfl
theorem k_notIn {st : Sto} {v w : Val} {b : Bool} (h : isIn st v w = some b) : fNotIn st v w = some (.bl !b) := by
  unfold fNotIn
  rw [h]
  rfl
end Gc

set_option Elab.async false
set_option linter.all false
set_option maxRecDepth 100000
set_option maxHeartbeats 4000000
namespace Gc
open PySem PySem.Spec PyProof.Rows L2 Ev
/-- numbers between 0 and 10 ** 30 -/
structure GoodN (many : Nat) (cs : List Int) : Prop where
  len : cs.length = many
  at_ : ∀ c, c ∈ cs → 0 ≤ c ∧ c ≤ 10 ^ 30
theorem is_integer_ok {st : Sto} (i : Int) : m_is_integer [.int i] st = .ok (.bl true) st := by
  refine runF_same ?_ rfl
  simp [b_is_integer, startE, bindR, bindS]
theorem is_whole_ok {st : Sto} (i a b : Int) : m_is_whole [.int i, .int a, .int b] st = .ok (.bl (decide (a ≤ i) && decide (i ≤ b))) st := by
  refine runF_same ?_ rfl
  simp [b_is_whole, startE, bindR, bindS, is_integer_ok, eChain, optR]
  by_cases h : a ≤ i <;> simp [h]
theorem all_true {α : Type} {st : Sto} (xs : List α) : fAll st [.lst (xs.map fun _ => .bl true)] = some (.bl true) := by
  have e : (xs.map fun _ => Val.bl true) = (xs.map fun _ => true).map .bl := by rw [List.map_map]; rfl
  rw [e, k_all]
  congr 2
  rw [List.all_eq_true]
  intro x hx
  obtain ⟨_, _, rfl⟩ := List.mem_map.mp hx
  rfl
theorem is_gate_ok {st : Sto} {rooms : Int} {g : Int × Int} (h : okG rooms g) : m_is_gate [.int rooms, pV g] st = .ok (.bl true) st := by
  obtain ⟨h1, h2, h3, h4, h5⟩ := h
  refine runF_same ?_ rfl
  have e3 : eLc false [2] (itV (eV 1)) (gN 2) eYes (eCall 3 m_is_whole (eCons (eV 2) (eCons (eC (.int (-1))) (eCons (eB fSub (eV 0) (eC (.int 1))) eNil)))) [some (.int rooms), some (.tup [.int g.1, .int g.2]), none] st = .ok (.lst ([g.1, g.2].map fun _ => .bl true)) st := by
    refine lc_mp (xs := [g.1, g.2]) .int (fun _ => .bl true) (by simp [bindR]) (by simp) fun i hi => ?_
    have hi : -1 ≤ i ∧ i ≤ rooms - 1 := by
      simp only [List.mem_cons, List.not_mem_nil, or_false] at hi
      rcases hi with rfl | rfl
      · exact ⟨h1, h2⟩
      · exact ⟨h3, h4⟩
    refine ⟨_, rfl, ?_⟩
    simp [bindR, optR, wipeE, is_whole_ok, hi.1, hi.2]
  have ea := all_true (st := st) [g.1, g.2]
  generalize ([g.1, g.2].map fun _ => Val.bl true) = zs at e3 ea
  simp [b_is_gate, startE, pV, bindR, bindS, optR, k_lenT, e3, ea, h5, -c_Lc]
theorem cut_tail {α : Type} (xs : List α) : cutG xs (some 1) none = xs.drop 1 := by
  unfold cutG
  have h1 : HT.sIx xs.length 0 (some 1) = min 1 xs.length := HT.sIx_nat _ _ 1
  rw [h1, HT.sIx_none]
  cases xs with
  | nil => rfl
  | cons a r =>
    have e : min 1 (a :: r).length = 1 := by simp
    rw [e, List.take_of_length_le]
    simp
theorem lex2 {a b : Int × Int} (h : ltG a b) : HT.lexLt [a.1, a.2] [b.1, b.2] = true := by
  unfold ltG at h
  rw [HT.lexLt_cons, HT.lexLt_cons]
  rcases h with h | ⟨h1, h2⟩
  · rw [if_neg (by omega)]
    exact decide_eq_true h
  · rw [if_pos h1, if_neg (by omega)]
    exact decide_eq_true h2
theorem zip_tail {α : Type} {R : α → α → Prop} : ∀ {xs : List α}, xs.Pairwise R → ∀ z, z ∈ xs.zip (xs.drop 1) → R z.1 z.2
  | [], _, z, h => by simp at h
  | [a], _, z, h => by simp at h
  | a :: b :: r, p, z, h => by
    simp only [List.drop_succ_cons, List.drop_zero, List.zip_cons_cons, List.mem_cons] at h
    rcases h with rfl | h
    · exact (List.pairwise_cons.mp p).1 b List.mem_cons_self
    · exact zip_tail (List.pairwise_cons.mp p).2 z (by simpa using h)
theorem need_house_ok {st : Sto} {rooms : Int} {gs : List (Int × Int)} (h : GoodH rooms gs) : m_need_house [gh rooms gs] st = .ok (gh rooms gs) st := by
  refine runF_same ?_ bel_gh
  have h16 : ¬ (16 : Int) < (gs.map pV).length := by have := h.len; rw [List.length_map]; omega
  have e2 : ∀ x y, eLc false [3] (itV (eV 2)) (gN 3) eYes (eCall 2 m_is_gate (eCons (eV 1) (eCons (eV 3) eNil))) [some x, some (.int rooms), some (.tup (gs.map pV)), y, none, none] st = .ok (.lst (gs.map fun _ => .bl true)) st := fun x y => by
    refine lc_mp (xs := gs) pV (fun _ => .bl true) (by simp [bindR]) (by have := h.len; omega) fun g hg => ⟨_, rfl, ?_⟩
    simp [bindR, wipeE, is_gate_ok (h.at_ g hg)]
  have e3 : ∀ x y, eLc false [4, 5] (itZip (eCons (eV 2) (eCons (eSl (eV 2) (oSome (eC (.int 1))) oNone) eNil))) (gT 2 (gCons' (gN 4) (gCons' (gN 5) gNil'))) eYes (eB fLtT (eV 4) (eV 5)) [some x, some (.int rooms), some (.tup (gs.map pV)), y, none, none] st = .ok (.lst ((gs.zip (gs.drop 1)).map fun _ => .bl true)) st := fun x y => by
    refine lc_mp (xs := gs.zip (gs.drop 1)) (fun z => .tup [pV z.1, pV z.2]) (fun _ => .bl true) ?_ (by have := h.len; rw [List.length_zip]; omega) fun z hz => ⟨_, rfl, ?_⟩
    · simp only [c_itZip, c_Cons, c_V, c_Sl, c_oSome, c_oNone, c_C, c_Nil, bindR_ok, List.getElem?_cons_succ, List.getElem?_cons_zero, cut_tail, ← List.map_drop, zipV_map]
    · have := zip_tail h.srt z hz
      simp [bindR, optR, wipeE, pV, fLtT, intsOf, lex2 this]
  have a1 := all_true (st := st) gs
  have a2 := all_true (st := st) (gs.zip (gs.drop 1))
  generalize (gs.map fun _ => Val.bl true) = y1 at e2 a1
  generalize ((gs.zip (gs.drop 1)).map fun _ => Val.bl true) = y2 at e3 a2
  unfold gh
  generalize gs.map pV = zs at h16 e2 e3 ⊢
  simp [b_need_house, startE, bindR, bindS, optR, k_lenT, is_whole_ok, h.lo, h.hi, h16, e2, e3, a1, a2, -c_Lc]
theorem fault_ok {st : Sto} {cs : List Int} {many : Nat} (h : GoodN many cs) (hl : many ≤ 1000) : m_numbers_fault [.tup (cs.map .int), .int many] st = .ok (.lst []) st := by
  refine runF_same ?_ rfl
  have loop : ∀ (ks : List (Int × Nat)) (x y : Option Val), (∀ k, k ∈ ks → 0 ≤ k.1 ∧ k.1 ≤ 10 ^ 30) → ∃ x' y',
      forL (gT 2 (gCons' (gN 2) (gCons' (gN 3) gNil'))) (sIf (eNotT (eTest (eCall 3 m_is_whole (eCons (eV 3) (eCons (eC (.int 0)) (eCons (eC (.int (1000000000000000000000000000000))) eNil)))))) (sRet (eLst (eCons (eV 2) eNil))) sSkip) (ks.map fun z => .tup [.int z.2, .int z.1]) [some (.tup (cs.map .int)), some (.int many), x, y] st = .nx [some (.tup (cs.map .int)), some (.int many), x', y'] st := fun ks => by
    induction ks with
    | nil => intro x y _; exact ⟨x, y, rfl⟩
    | cons v vs ih =>
      intro x y hv
      obtain ⟨h1, h2⟩ := hv v List.mem_cons_self
      have h3 : v.1 ≤ 1000000000000000000000000000000 := by omega
      obtain ⟨x', y', e⟩ := ih (some (.int v.2)) (some (.int v.1)) fun w hw => hv w (List.mem_cons_of_mem _ hw)
      refine ⟨x', y', ?_⟩
      rw [← e, List.map_cons, forL_cons]
      generalize vs.map _ = us
      generalize cs.map Val.int = zs
      simp [bindR, bindS, is_whole_ok, h1, h3]
  obtain ⟨x', y', e2⟩ := loop (cs.zipIdx 0) none none fun k hk => h.at_ _ (List.fst_mem_of_mem_zipIdx hk)
  have e3 := enumV_map Val.int cs 0
  have hlen : (cs.map Val.int).length = many := by rw [List.length_map]; exact h.len
  rw [← e3] at e2
  generalize cs.map Val.int = zs at e2 hlen
  simp [b_numbers_fault, startE, bindR, bindS, optR, k_lenT, hlen, e2]
theorem need_counts_ok {st : Sto} {rooms : Int} {gs : List (Int × Int)} {cs : List Int} (h : GoodH rooms gs) (hc : GoodN gs.length cs) : m_need_counts [gh rooms gs, .tup (cs.map .int)] st = .ok (.tup (cs.map .int)) st := by
  refine runF_same ?_ (bel_ints cs)
  have e2 : ∀ st : Sto, fIx st (gh rooms gs) (.int 1) = some (.tup (gs.map pV)) := fun st => ix_tup (by decide) rfl
  have e1 : ∀ st : Sto, fLen st [.tup (gs.map pV)] = some (.int gs.length) := fun st => by rw [k_lenT, List.length_map]
  have e3 : ∀ st : Sto, m_numbers_fault [.tup (cs.map .int), .int gs.length] st = .ok (.lst []) st := fun st => fault_ok hc (by have := h.len; omega)
  generalize cs.map Val.int = zs at e3 ⊢
  simp [b_need_counts, startE, bindR, bindS, optR, need_house_ok h, e1, e2, e3]
theorem need_heads_ok {st : Sto} {rooms : Int} {gs : List (Int × Int)} {hs : List Int} (h : GoodH rooms gs) (hc : GoodN rooms.toNat hs) : m_need_heads [gh rooms gs, .tup (hs.map .int)] st = .ok (.tup (hs.map .int)) st := by
  refine runF_same ?_ (bel_ints hs)
  have e2 : ∀ st : Sto, fIx st (gh rooms gs) (.int 0) = some (.int rooms) := fun st => ix_tup (by decide) rfl
  have e3 : ∀ st : Sto, m_numbers_fault [.tup (hs.map .int), .int rooms] st = .ok (.lst []) st := fun st => by
    have := fault_ok (st := st) hc (by have := h.hi; omega)
    rwa [Int.toNat_of_nonneg (by have := h.lo; omega)] at this
  generalize hs.map Val.int = zs at e3 ⊢
  simp [b_need_heads, startE, bindR, bindS, optR, need_house_ok h, e2, e3]
def fromP (gs : List (Int × Int)) (cs : List Int) (p : Int) : Int := (((gs.zip cs).filter fun z => decide (z.1.1 = p)).map (·.2)).sum
def toP (gs : List (Int × Int)) (cs : List Int) (p : Int) : Int := (((gs.zip cs).filter fun z => decide (z.1.2 = p)).map (·.2)).sum
def balL (gs : List (Int × Int)) (hs cs : List Int) : List Int := (hs.zipIdx).map fun z => z.1 + toP gs cs z.2 - fromP gs cs z.2
theorem gh_gates {st : Sto} {rooms : Int} {gs : List (Int × Int)} : fIx st (gh rooms gs) (.int 1) = some (.tup (gs.map pV)) := ix_tup (by decide) rfl
theorem gh_rooms {st : Sto} {rooms : Int} {gs : List (Int × Int)} : fIx st (gh rooms gs) (.int 0) = some (.int rooms) := ix_tup (by decide) rfl
theorem pV_0 {st : Sto} {g : Int × Int} : fIx st (pV g) (.int 0) = some (.int g.1) := ix_tup (by decide) rfl
theorem pV_1 {st : Sto} {g : Int × Int} : fIx st (pV g) (.int 1) = some (.int g.2) := ix_tup (by decide) rfl
theorem from_place_ok {st : Sto} {rooms : Int} {gs : List (Int × Int)} {cs : List Int} (hl : gs.length ≤ 1000) (p : Int) : m_from_place [gh rooms gs, .tup (cs.map .int), .int p] st = .ok (.int (fromP gs cs p)) st := by
  refine runF_same ?_ rfl
  have e := lc_fm (own := [3, 4]) (it := itZip (eCons (eB fIx (eV 0) (eC (.int 1))) (eCons (eV 1) eNil))) (g := gT 2 (gCons' (gN 3) (gCons' (gN 4) gNil'))) (c := eTest (eB fEqA (eB fIx (eV 3) (eC (.int 0))) (eV 2))) (e := eV 4) (ρ := [some (gh rooms gs), some (.tup (cs.map .int)), some (.int p), none, none]) (st0 := st) (st := st)
    (xs := gs.zip cs) (fun z => .tup [pV z.1, .int z.2]) (fun z => decide (z.1.1 = p)) (fun z => .int z.2) (by simp [bindR, optR, gh_gates, zipV_map]) (by rw [List.length_zip]; omega) fun z hz => ⟨_, rfl, by simp [bindR, optR, wipeE, pV_0], fun _ => by simp [wipeE]⟩
  have e2 : ∀ l : List ((Int × Int) × Int), (l.map fun z => Val.int z.2) = (l.map (·.2)).map .int := fun l => by rw [List.map_map]; rfl
  rw [e2] at e
  generalize cs.map Val.int = zs at e ⊢
  simp [b_from_place, startE, bindR, bindS, optR, e, k_sum, fromP, -c_Lc, -List.map_map]
theorem to_place_ok {st : Sto} {rooms : Int} {gs : List (Int × Int)} {cs : List Int} (hl : gs.length ≤ 1000) (p : Int) : m_to_place [gh rooms gs, .tup (cs.map .int), .int p] st = .ok (.int (toP gs cs p)) st := by
  refine runF_same ?_ rfl
  have e := lc_fm (own := [3, 4]) (it := itZip (eCons (eB fIx (eV 0) (eC (.int 1))) (eCons (eV 1) eNil))) (g := gT 2 (gCons' (gN 3) (gCons' (gN 4) gNil'))) (c := eTest (eB fEqA (eB fIx (eV 3) (eC (.int 1))) (eV 2))) (e := eV 4) (ρ := [some (gh rooms gs), some (.tup (cs.map .int)), some (.int p), none, none]) (st0 := st) (st := st)
    (xs := gs.zip cs) (fun z => .tup [pV z.1, .int z.2]) (fun z => decide (z.1.2 = p)) (fun z => .int z.2) (by simp [bindR, optR, gh_gates, zipV_map]) (by rw [List.length_zip]; omega) fun z hz => ⟨_, rfl, by simp [bindR, optR, wipeE, pV_1], fun _ => by simp [wipeE]⟩
  have e2 : ∀ l : List ((Int × Int) × Int), (l.map fun z => Val.int z.2) = (l.map (·.2)).map .int := fun l => by rw [List.map_map]; rfl
  rw [e2] at e
  generalize cs.map Val.int = zs at e ⊢
  simp [b_to_place, startE, bindR, bindS, optR, e, k_sum, toP, -c_Lc, -List.map_map]
theorem app_get (st : Sto) (o : Ob) : (st ++ [o])[st.length]? = some o := by simp
theorem app_set (st : Sto) (o p : Ob) : (st ++ [o]).set st.length p = st ++ [p] := by simp
theorem fAppend_ok {st : Sto} {xs : List Val} {w : Val} (h : xs.length ≤ 1000000) : fAppend st xs [w] = some (.non, xs ++ [w]) := by
  unfold fAppend
  dsimp only
  rw [if_pos (by rw [sizeLine_eq]; omega)]
theorem balances_of_ok {st : Sto} {rooms : Int} {gs : List (Int × Int)} {hs cs : List Int} (hl : gs.length ≤ 1000) (hh : hs.length ≤ 1000) : m_balances_of [gh rooms gs, .tup (hs.map .int), .tup (cs.map .int)] st = .ok (.tup ((balL gs hs cs).map .int)) st := by
  have tp : ∀ (st : Sto) (p : Int), m_to_place [gh rooms gs, .tup (cs.map .int), .int p] st = .ok (.int (toP gs cs p)) st := fun st p => to_place_ok hl p
  have fp : ∀ (st : Sto) (p : Int), m_from_place [gh rooms gs, .tup (cs.map .int), .int p] st = .ok (.int (fromP gs cs p)) st := fun st p => from_place_ok hl p
  have loop : ∀ (ks : List (Int × Nat)) (acc : List Int) (x y : Option Val), acc.length + ks.length ≤ 1000 → ∃ x' y',
      forL (gT 2 (gCons' (gN 4) (gCons' (gN 5) gNil'))) (sExpr (eLm fAppend (eV 3) (eCons (eB fSub (eB fAdd (eV 5) (eCall 3 m_to_place (eCons (eV 0) (eCons (eV 2) (eCons (eV 4) eNil))))) (eCall 3 m_from_place (eCons (eV 0) (eCons (eV 2) (eCons (eV 4) eNil))))) eNil))) (ks.map fun z => .tup [.int z.2, .int z.1]) [some (gh rooms gs), some (.tup (hs.map .int)), some (.tup (cs.map .int)), some (.loc st.length), x, y] (st ++ [.lst (acc.map .int)])
        = .nx [some (gh rooms gs), some (.tup (hs.map .int)), some (.tup (cs.map .int)), some (.loc st.length), x', y'] (st ++ [.lst ((acc ++ ks.map fun z => z.1 + toP gs cs z.2 - fromP gs cs z.2).map .int)]) := fun ks => by
    induction ks with
    | nil => intro acc x y _; exact ⟨x, y, by simp⟩
    | cons k ks ih =>
      intro acc x y hl
      simp only [List.length_cons] at hl
      obtain ⟨x', y', e⟩ := ih (acc ++ [k.1 + toP gs cs k.2 - fromP gs cs k.2]) (some (.int k.2)) (some (.int k.1)) (by simp; omega)
      refine ⟨x', y', ?_⟩
      rw [List.append_assoc, List.singleton_append] at e
      rw [List.map_cons, forL_cons, List.map_cons]
      rw [← e]
      have ha : ∀ st w, fAppend st (acc.map Val.int) [w] = some (.non, acc.map .int ++ [w]) := fun st w => fAppend_ok (by simp; omega)
      rw [List.map_append (l₁ := acc), List.map_cons, List.map_nil]
      generalize cs.map Val.int = zs at tp fp ⊢
      generalize hs.map Val.int = ys
      generalize acc.map Val.int = as at ha ⊢
      simp [bindR, bindS, optR, tp, fp, app_get, app_set, ha]
  obtain ⟨x', y', e⟩ := loop (hs.zipIdx 0) [] none none (by simp; omega)
  refine runF_of (more := [.lst ((balL gs hs cs).map .int)]) ?_ rfl (okOld_refl st) (bel_ints _)
  have e3 := enumV_map Val.int hs 0
  rw [← e3, List.nil_append] at e
  have e4 : (hs.zipIdx 0).map (fun z => z.1 + toP gs cs z.2 - fromP gs cs z.2) = balL gs hs cs := rfl
  rw [e4] at e
  have ez : (0 ≤ sizeLine) = True := eq_true (Nat.zero_le _)
  generalize cs.map Val.int = zs at e ⊢
  generalize hs.map Val.int = ys at e ⊢
  generalize (balL gs hs cs).map Val.int = bs at e ⊢
  rw [List.map_nil] at e
  simp [b_balances_of, startE, bindR, bindS, optR, e, fTuple, seqOf, dr, ez]
theorem balances_ok {st : Sto} {rooms : Int} {gs : List (Int × Int)} {hs cs : List Int} (h : GoodH rooms gs) (hh : GoodN rooms.toNat hs) (hc : GoodN gs.length cs) : m_balances [gh rooms gs, .tup (hs.map .int), .tup (cs.map .int)] st = .ok (.tup ((balL gs hs cs).map .int)) st := by
  refine runF_same ?_ (bel_ints _)
  have e1 := need_heads_ok (st := st) h hh
  have e2 := need_counts_ok (st := st) h hc
  have e3 := balances_of_ok (st := st) (rooms := rooms) (gs := gs) (hs := hs) (cs := cs) (by have := h.len; omega) (by have := hh.len; have := h.hi; omega)
  generalize cs.map Val.int = zs at e1 e2 e3 ⊢
  generalize hs.map Val.int = ys at e1 e2 e3 ⊢
  simp [b_balances, startE, bindR, bindS, e1, e2, e3]
end Gc

set_option Elab.async false
set_option linter.all false
set_option maxRecDepth 100000
set_option maxHeartbeats 4000000
namespace Gc
open PySem PySem.Spec PyProof.Rows L2 Ev
def kvI (ks : List Int) : KVs := ks.map fun i => (Sum.inl i, Val.bl true)
theorem put_kvI (ks : List Int) (x : Int) : put (kvI ks) (Sum.inl x) (Val.bl true) = kvI (if x ∈ ks then ks else ks ++ [x]) := by
  unfold put kvI
  by_cases h : x ∈ ks
  · rw [if_pos h, if_pos]
    · rw [List.map_map]
      refine List.map_congr_left fun i _ => ?_
      show (if (Sum.inl i : Key) = Sum.inl x then ((Sum.inl i : Key), Val.bl true) else (Sum.inl i, Val.bl true)) = _
      split <;> rfl
    · rw [List.any_eq_true]
      exact ⟨_, List.mem_map_of_mem h, decide_eq_true rfl⟩
  · rw [if_neg h, if_neg, List.map_append]
    · rfl
    · rw [List.any_eq_true]
      rintro ⟨kv, hk, e⟩
      obtain ⟨i, hi, rfl⟩ := List.mem_map.mp hk
      have e := of_decide_eq_true e
      exact h (Sum.inl.inj e ▸ hi)
theorem get_set {α : Type} {xs : List α} {i : Nat} {x : α} (h : i < xs.length) : (xs.set i x)[i]? = some x := List.getElem?_set_self h
theorem dcIn_ints {i : Nat} {ρ : Ev.Env} (hρ : i < ρ.length) {st : Sto} : ∀ (ns ks : List Int), ks.length + ns.length ≤ 1000 → dcIn (gN i) eYes (eV i) (eC (.bl true)) ρ (ns.map .int) (kvI ks) st = .ok (kvI (Gr.addAll ks ns)) st
  | [], ks, _ => rfl
  | n :: ns, ks, h => by
    simp only [List.length_cons] at h
    have h2 : (kvI ks).length < sizeLine := by rw [sizeLine_eq, kvI, List.length_map]; omega
    rw [List.map_cons]
    unfold dcIn
    simp only [c_gN, c_Yes, c_V, get_set hρ, c_C, Ev.keyOf, if_pos h2, put_kvI]
    rw [dcIn_ints hρ ns _ (by split <;> (try simp) <;> omega)]
    rfl
/-- a list or a tuple of ints -/
def sqV (z : Bool × List Int) : Val := if z.1 = true then .lst (z.2.map .int) else .tup (z.2.map .int)
theorem dcOut_seqs {i j : Nat} {ρ : Ev.Env} (hi : i < ρ.length) (hj : j < ρ.length) {st : Sto} : ∀ (its : List (Bool × List Int)) (ks : List Int), ks.length + ((its.map (·.2)).flatten).length ≤ 1000 → dcOut (gN i) eYes (itV (eV i)) (gN j) eYes (eV j) (eC (.bl true)) [j] ρ (its.map sqV) (kvI ks) st = .ok (kvI (Gr.addAll ks (its.map (·.2)).flatten)) st
  | [], ks, _ => rfl
  | z :: its, ks, h => by
    simp only [List.map_cons, List.flatten_cons, List.length_append] at h
    rw [List.map_cons]
    unfold dcOut
    have e : itV (eV i) (ρ.set i (some (sqV z))) st = .ok (z.2.map .int) st := by
      simp only [c_itV, c_V, get_set hi, bindR_ok]
      unfold sqV
      by_cases hz : z.1 = true
      · rw [if_pos hz]
      · rw [if_neg hz]
    have hw : j < (wipeE (ρ.set i (some (sqV z))) [j]).length := by rw [wipeE_length, List.length_set]; exact hj
    simp only [c_gN, c_Yes, e]
    rw [dcIn_ints hw z.2 ks (by omega)]
    dsimp only
    have hl : (Gr.addAll ks z.2).length ≤ ks.length + z.2.length := by
      have : ∀ (xs acc : List Int), (Gr.addAll acc xs).length ≤ acc.length + xs.length := fun xs => by
        induction xs with
        | nil => intro acc; exact Nat.le_refl _
        | cons x xs ih =>
          intro acc
          show (Gr.addAll (if x ∈ acc then acc else acc ++ [x]) xs).length ≤ _
          have h1 := ih (if x ∈ acc then acc else acc ++ [x])
          have h2 : (if x ∈ acc then acc else acc ++ [x]).length ≤ acc.length + 1 := by split <;> simp
          rw [List.length_cons]
          omega
      exact this z.2 ks
    rw [dcOut_seqs hi hj its _ (by omega)]
    rw [List.map_cons, List.flatten_cons]
    have : ∀ (xs ys acc : List Int), Gr.addAll (Gr.addAll acc xs) ys = Gr.addAll acc (xs ++ ys) := fun xs ys acc => by
      unfold Gr.addAll; rw [List.foldl_append]
    rw [this]
theorem flat_filter {α : Type} {p : List α → Bool} : ∀ l : List (List α), ((l.filter p).flatten).length ≤ l.flatten.length
  | [] => Nat.le_refl _
  | x :: l => by
    have ih := flat_filter (p := p) l
    rw [List.filter_cons]
    split
    · simp only [List.flatten_cons, List.length_append]; omega
    · rw [List.flatten_cons, List.length_append]; omega
/-- the parts in the loop -/
def nearL (found : List (List Int)) (g : Int × Int) : List (List Int) := found.filter (Gr.isNear g)
theorem near_ok {st : Sto} {ρ : Ev.Env} {found : List (List Int)} {g : Int × Int} (hl : found.length ≤ 1000) (hρ : 8 < ρ.length) (h2 : ρ[2]? = some (some (.lst (found.map lI)))) (h3 : ρ[3]? = some (some (pV g))) :
    eLc false [6] (itV (eV 2)) (gN 6) (eOrT (eTest (eB fIn (eB fIx (eV 3) (eC (.int 0))) (eV 6))) (eTest (eB fIn (eB fIx (eV 3) (eC (.int 1))) (eV 6)))) (eV 6) ρ st = .ok (.lst ((nearL found g).map lI)) st := by
  refine lc_fm lI (Gr.isNear g) lI (by simp [h2, bindR]) (by omega) fun p _ => ⟨_, rfl, ?_, fun _ => ?_⟩
  · have k6 : ((ρ.set 6 none).set 6 (some (lI p)))[6]? = some (some (lI p)) := get_set (by simp; omega)
    have k3 : ((ρ.set 6 none).set 6 (some (lI p)))[3]? = some (some (pV g)) := by rw [List.getElem?_set_ne (by decide), List.getElem?_set_ne (by decide)]; exact h3
    have i1 : fIn st (.int g.1) (lI p) = some (.bl (decide (g.1 ∈ p))) := k_in (in_ints g.1 p)
    have i2 : fIn st (.int g.2) (lI p) = some (.bl (decide (g.2 ∈ p))) := k_in (in_ints g.2 p)
    show eOrT _ _ ((ρ.set 6 none).set 6 (some (lI p))) st = _
    simp only [c_OrT, c_Test, c_B, c_V, c_C, k6, k3, bindR_ok, pV_0, pV_1, optR_some, i1, i2]
    unfold Gr.isNear
    by_cases h : g.1 ∈ p <;> simp [h]
  · show eV 6 ((ρ.set 6 none).set 6 (some (lI p))) st = _
    rw [c_V, get_set (by simp; omega)]
theorem far_ok {st : Sto} {ρ : Ev.Env} {found : List (List Int)} {g : Int × Int} (hl : found.length ≤ 1000) (hρ : 8 < ρ.length) (h2 : ρ[2]? = some (some (.lst (found.map lI)))) (h5 : ρ[5]? = some (some (.lst ((nearL found g).map lI)))) :
    eLc false [6] (itV (eV 2)) (gN 6) (eTest (eB fNotIn (eV 6) (eV 5))) (eV 6) ρ st = .ok (.lst ((found.filter fun p => !Gr.isNear g p).map lI)) st := by
  refine lc_fm lI (fun p => !Gr.isNear g p) lI (by simp [h2, bindR]) (by omega) fun p hp => ⟨_, rfl, ?_, fun _ => ?_⟩
  · have k6 : ((ρ.set 6 none).set 6 (some (lI p)))[6]? = some (some (lI p)) := get_set (by simp; omega)
    have k5 : ((ρ.set 6 none).set 6 (some (lI p)))[5]? = some (some (.lst ((nearL found g).map lI))) := by rw [List.getElem?_set_ne (by decide), List.getElem?_set_ne (by decide)]; exact h5
    have i1 : fNotIn st (lI p) (.lst ((nearL found g).map lI)) = some (.bl !decide (p ∈ nearL found g)) := k_notIn (in_lists p _)
    show eTest _ ((ρ.set 6 none).set 6 (some (lI p))) st = _
    simp only [c_Test, c_B, c_V, k6, k5, bindR_ok, optR_some, i1]
    have e : decide (p ∈ nearL found g) = Gr.isNear g p := by
      unfold nearL
      cases h : Gr.isNear g p with
      | true => exact decide_eq_true (List.mem_filter.mpr ⟨hp, h⟩)
      | false => exact decide_eq_false fun z => by rw [(List.mem_filter.mp z).2] at h; cases h
    rw [e]
  · show eV 6 ((ρ.set 6 none).set 6 (some (lI p))) st = _
    rw [c_V, get_set (by simp; omega)]
theorem fresh_ok {st : Sto} {ρ : Ev.Env} {found : List (List Int)} {g : Int × Int} (hl : ((nearL found g).flatten).length ≤ 900) (hl2 : (nearL found g).length ≤ 1000) (hρ : 8 < ρ.length) (h3 : ρ[3]? = some (some (pV g))) (h5 : ρ[5]? = some (some (.lst ((nearL found g).map lI)))) :
    ∃ more, eBf fSortedB (eCons (eBf fListA (eCons (eDc2 [6, 8] [8] (itV (eB fAdd (eV 5) (eLst (eCons (eV 3) eNil)))) (gN 6) eYes (itV (eV 6)) (gN 8) eYes (eV 8) (eC (.bl true))) eNil)) eNil) ρ st = .ok (lI (Gr.fresh found g)) (st ++ more) := by
  have e1 : itV (eB fAdd (eV 5) (eLst (eCons (eV 3) eNil))) ρ st = .ok (((nearL found g).map (fun p => (true, p)) ++ [(false, [g.1, g.2])]).map sqV) st := by
    have ea : fAdd st (.lst ((nearL found g).map lI)) (.lst [pV g]) = some (.lst (((nearL found g).map (fun p => (true, p)) ++ [(false, [g.1, g.2])]).map sqV)) := by
      simp only [fAdd, lstOf, dr]
      rw [if_pos (by rw [List.length_map, sizeLine_eq]; simp; omega), List.map_append, List.map_map]
      rfl
    simp only [c_itV, c_B, c_V, h5, bindR_ok, c_Lst, c_Cons, h3, c_Nil, List.length_cons, List.length_nil, Nat.zero_add, one_le, if_true, ea, optR_some]
  have hw : ∀ k, k < 9 → k < (wipeE ρ [6, 8]).length := fun k hk => by rw [wipeE_length]; omega
  have ef : (((nearL found g).map (fun p => (true, p)) ++ [(false, [g.1, g.2])]).map (·.2)).flatten = (nearL found g).flatten ++ [g.1, g.2] := by
    rw [List.map_append, List.map_map, List.flatten_append]
    have : (List.map ((fun x => x.2) ∘ fun p => (true, p)) (nearL found g)) = nearL found g := List.map_id _
    rw [this]
    rfl
  have e2 := dcOut_seqs (i := 6) (j := 8) (hw 6 (by decide)) (hw 8 (by decide)) (st := st) ((nearL found g).map (fun p => (true, p)) ++ [(false, [g.1, g.2])]) [] (by rw [ef]; simp at hl ⊢; omega)
  rw [ef] at e2
  have e3 : eDc2 [6, 8] [8] (itV (eB fAdd (eV 5) (eLst (eCons (eV 3) eNil)))) (gN 6) eYes (itV (eV 6)) (gN 8) eYes (eV 8) (eC (.bl true)) ρ st = .ok (.loc st.length) (st ++ [.dK (kvI (Gr.addAll [] ((nearL found g).flatten ++ [g.1, g.2])))]) := by
    unfold eDc2
    rw [e1, bindR_ok]
    rw [show ([] : KVs) = kvI [] from rfl, e2]
  refine ⟨[.dK (kvI (Gr.addAll [] ((nearL found g).flatten ++ [g.1, g.2])))], ?_⟩
  have e4 : ∀ ks : List Int, fListA (st ++ [.dK (kvI ks)]) [.loc st.length] = some (.lst (ks.map .int)) := fun ks => by
    unfold fListA
    simp only [app_get, kvI, List.map_map]
    rfl
  simp only [c_Bf, c_Cons, c_Nil, e3, bindR_ok, e4, optR_some, k_sortI]
  rfl
theorem fold_len : ∀ (gc : List ((Int × Int) × Int)) (found : List (List Int)), (gc.foldl Gr.partStep found).length ≤ found.length + gc.length
  | [], _ => Nat.le_refl _
  | z :: gc, found => by
    rw [List.foldl_cons]
    have h1 := fold_len gc (Gr.partStep found z)
    have h2 : (Gr.partStep found z).length ≤ found.length + 1 := by
      unfold Gr.partStep
      split
      · rw [List.length_append]
        have := List.length_filter_le (fun p => !Gr.isNear z.1 p) found
        simp; omega
      · omega
    rw [List.length_cons]
    omega
theorem pigeon {α : Type} [DecidableEq α] : ∀ {l d : List α}, l.Nodup → (∀ x, x ∈ l → x ∈ d) → l.length ≤ d.length
  | [], _, _, _ => Nat.zero_le _
  | x :: l, d, hn, hs => by
    obtain ⟨h1, h2⟩ := List.nodup_cons.mp hn
    have hx := hs x List.mem_cons_self
    have ih := pigeon (d := d.erase x) h2 fun y hy => (List.mem_erase_of_ne (a := y) (b := x) fun e => h1 (by rw [← e]; exact hy)).mpr (hs y (List.mem_cons_of_mem _ hy))
    rw [List.length_erase_of_mem hx] at ih
    have := List.length_pos_of_mem hx
    rw [List.length_cons]
    omega
/-- disjoint parts of touched places are few -/
theorem flat_small {E : List (Int × Int)} {found : List (List Int)} (P : Gr.Parts E found) (hE : ∀ e, e ∈ E → okG 8 e) : found.flatten.length ≤ 9 := by
  have nd : found.flatten.Nodup := by
    rw [List.nodup_iff_pairwise_ne, List.pairwise_flatten]
    refine ⟨fun p hp => (P.asc p hp).imp fun h => by omega, ?_⟩
    refine P.nodup.imp_of_mem fun {p q} hp hq hne x hx y hy e => hne ?_
    subst e
    exact Gr.asc_ext (P.asc p hp) (P.asc q hq) fun z => ((P.mem p hp x hx).2 z).trans ((P.mem q hq x hy).2 z).symm
  have sub : ∀ x, x ∈ found.flatten → x ∈ [(-1 : Int), 0, 1, 2, 3, 4, 5, 6, 7] := fun x hx => by
    obtain ⟨p, hp, hx⟩ := List.mem_flatten.mp hx
    obtain ⟨e, he, h⟩ := (P.mem p hp x hx).1
    have := hE e he
    unfold okG at this
    simp only [List.mem_cons, List.not_mem_nil, or_false]
    omega
  exact pigeon nd sub
theorem okG_8 {rooms : Int} (h : rooms ≤ 8) {g : Int × Int} (k : okG rooms g) : okG 8 g := by
  unfold okG at *
  omega
def tN (ns : List Int) : Val := .tup (ns.map .int)
/-- the parts, sorted -/
def partsS (gs : List (Int × Int)) (cs : List Int) : List (List Int) := sortLL (Gr.partsL (gs.zip cs))
theorem tupsOf_map : ∀ ps : List (List Int), (∀ p, p ∈ ps → p ≠ []) → tupsOf (ps.map tN) = some ps
  | [], _ => rfl
  | p :: ps, h => by
    rw [List.map_cons]
    unfold tupsOf tN
    dsimp only
    have := tupsOf_map ps fun q hq => h q (List.mem_cons_of_mem _ hq)
    unfold tN at this
    rw [intsOf_map, this]
    dsimp only
    rw [if_neg (h p List.mem_cons_self)]
theorem sortB_tups {st : Sto} {ps : List (List Int)} (h : ∀ p, p ∈ ps → p ≠ []) : fSortedB st [.lst (ps.map tN)] = some (.lst ((sortLL ps).map tN)) := by
  unfold fSortedB
  have pair : ∀ (ps : List (List Int)) (qs : List (Int × Int)), pairsOf (ps.map tN) = some qs → ps = qs.map fun q => [q.1, q.2] := fun ps => by
    induction ps with
    | nil => intro qs hq; cases hq; rfl
    | cons p ps ih =>
      intro qs hq
      rw [List.map_cons] at hq
      match p, hq with
      | [], hq => cases hq
      | [a], hq => cases hq
      | [a, b], hq =>
        have hq : (pairsOf (ps.map tN)).map ((a, b) :: ·) = some qs := hq
        rw [Option.map_eq_some_iff] at hq
        obtain ⟨rs, h1, rfl⟩ := hq
        rw [ih rs h1]
        rfl
      | a :: b :: c :: r, hq => cases hq
  cases hf : fSorted st [.lst (ps.map tN)] with
  | none =>
    dsimp only
    rw [k_lstOf, Option.bind_some, tupsOf_map ps h]
    rfl
  | some z =>
    dsimp only
    unfold fSorted at hf
    dsimp only at hf
    rw [k_lstOf] at hf
    dsimp only at hf
    cases hi : intsOf (ps.map tN) with
    | some ns =>
      rw [hi] at hf
      cases ps with
      | nil => cases hi; cases hf; rfl
      | cons p ps => cases hi
    | none =>
      rw [hi] at hf
      rw [Option.map_eq_some_iff] at hf
      obtain ⟨qs, h1, rfl⟩ := hf
      have e := pair ps qs h1
      subst e
      have e2 : (sortP qs).map (fun q => [q.1, q.2]) = sortLL (qs.map fun q => [q.1, q.2]) := by
        refine sortLL_is ((Gr.isort_perm qs).map _) (List.pairwise_map.mpr ((sortP_pw qs).imp fun {a b} h => ?_))
        rw [leP_iff] at h
        unfold leL
        rw [Bool.not_eq_true', HT.lexLt_cons, HT.lexLt_cons]
        by_cases e1 : b.1 = a.1
        · rw [if_pos e1]
          by_cases e2 : b.2 = a.2
          · rw [if_pos e2]; rfl
          · rw [if_neg e2]; exact decide_eq_false (by omega)
        · rw [if_neg e1]; exact decide_eq_false (by omega)
      rw [← e2, List.map_map]
      rfl
theorem parts_of_ok {st : Sto} {rooms : Int} {gs : List (Int × Int)} {cs : List Int} (h : GoodH rooms gs) : m_parts_of [gh rooms gs, .tup (cs.map .int)] st = .ok (.lst ((partsS gs cs).map tN)) st := by
  have loop : ∀ (gc pre : List ((Int × Int) × Int)) (found : List (List Int)) (more : Sto) (x3 x4 x5 x6 x7 x8 : Option Val), Gr.Parts (Gr.passedG pre) found → (∀ z, z ∈ pre ++ gc → okG 8 z.1) → ∃ more' y3 y4 y5 y6 y7 y8,
      forL (gT 2 (gCons' (gN 3) (gCons' (gN 4) gNil'))) (sIf (eTest (eB fGt (eV 4) (eC (.int 0)))) (sSeq (sSet 5 (eLc false [6] (itV (eV 2)) (gN 6) (eOrT (eTest (eB fIn (eB fIx (eV 3) (eC (.int 0))) (eV 6))) (eTest (eB fIn (eB fIx (eV 3) (eC (.int 1))) (eV 6)))) (eV 6)))
  (sSeq (sSet 7 (eBf fSortedB (eCons (eBf fListA (eCons (eDc2 [6, 8] [8] (itV (eB fAdd (eV 5) (eLst (eCons (eV 3) eNil)))) (gN 6) eYes (itV (eV 6)) (gN 8) eYes (eV 8) (eC (.bl true))) eNil)) eNil)))
  (sSet 2 (eB fAdd (eLc false [6] (itV (eV 2)) (gN 6) (eTest (eB fNotIn (eV 6) (eV 5))) (eV 6)) (eLst (eCons (eV 7) eNil)))))) sSkip) (gc.map fun z => .tup [pV z.1, .int z.2])
        [some (gh rooms gs), some (.tup (cs.map .int)), some (.lst (found.map lI)), x3, x4, x5, x6, x7, x8] (st ++ more) = .nx [some (gh rooms gs), some (.tup (cs.map .int)), some (.lst ((gc.foldl Gr.partStep found).map lI)), y3, y4, y5, y6, y7, y8] (st ++ more') := fun gc => by
    induction gc with
    | nil => intro pre found more x3 x4 x5 x6 x7 x8 _ _; exact ⟨more, x3, x4, x5, x6, x7, x8, rfl⟩
    | cons z gc ih =>
      intro pre found more x3 x4 x5 x6 x7 x8 P hE
      rw [List.map_cons, forL_cons, List.foldl_cons]
      have P' : Gr.Parts (Gr.passedG (pre ++ [z])) (Gr.partStep found z) := by
        have := Gr.parts_fold (gc := [z]) P (E' := Gr.passedG (pre ++ [z])) fun e => by
          unfold Gr.passedG
          rw [List.filter_append, List.map_append, List.mem_append]
        exact this
      have sm := flat_small P fun e he => by
        unfold Gr.passedG at he
        obtain ⟨w, hw, rfl⟩ := List.mem_map.mp he
        exact hE w (List.mem_append_left _ (List.mem_filter.mp hw).1)
      have ls : ∀ l : List (List Int), (∀ p, p ∈ l → p ≠ []) → l.length ≤ l.flatten.length := fun l => by
        induction l with
        | nil => intro _; exact Nat.le_refl _
        | cons p l ih =>
          intro hl
          have := List.length_pos_iff.mpr (hl p List.mem_cons_self)
          have := ih fun q hq => hl q (List.mem_cons_of_mem _ hq)
          simp only [List.length_cons, List.flatten_cons, List.length_append]
          omega
      have fl : found.length ≤ 9 := by have := ls found P.ne; omega
      have nl : (nearL found z.1).flatten.length ≤ 9 := Nat.le_trans (flat_filter found) sm
      by_cases hz : 0 < z.2
      · have n1 := near_ok (st := st ++ more) (ρ := [some (gh rooms gs), some (.tup (cs.map .int)), some (.lst (found.map lI)), some (pV z.1), some (.int z.2), x5, x6, x7, x8]) (found := found) (g := z.1) (by omega) (by simp) rfl rfl
        obtain ⟨m2, n2⟩ := fresh_ok (st := st ++ more) (ρ := [some (gh rooms gs), some (.tup (cs.map .int)), some (.lst (found.map lI)), some (pV z.1), some (.int z.2), some (.lst ((nearL found z.1).map lI)), x6, x7, x8]) (found := found) (g := z.1) (by omega) (by have := List.length_filter_le (Gr.isNear z.1) found; unfold nearL; omega) (by simp) rfl rfl
        have n3 := far_ok (st := st ++ (more ++ m2)) (ρ := [some (gh rooms gs), some (.tup (cs.map .int)), some (.lst (found.map lI)), some (pV z.1), some (.int z.2), some (.lst ((nearL found z.1).map lI)), x6, some (lI (Gr.fresh found z.1)), x8]) (found := found) (g := z.1) (by omega) (by simp) rfl rfl
        have ps : Gr.partStep found z = found.filter (fun p => !Gr.isNear z.1 p) ++ [Gr.fresh found z.1] := by unfold Gr.partStep; rw [if_pos hz]
        obtain ⟨more', y3, y4, y5, y6, y7, y8, e⟩ := ih (pre ++ [z]) (Gr.partStep found z) (more ++ m2) (some (pV z.1)) (some (.int z.2)) (some (.lst ((nearL found z.1).map lI))) x6 (some (lI (Gr.fresh found z.1))) x8 P' (by simpa using hE)
        refine ⟨more', y3, y4, y5, y6, y7, y8, ?_⟩
        rw [← e]
        have ea : ∀ st, fAdd st (.lst ((found.filter fun p => !Gr.isNear z.1 p).map lI)) (.lst [lI (Gr.fresh found z.1)]) = some (.lst ((Gr.partStep found z).map lI)) := fun st => by
          rw [ps, List.map_append]
          simp only [fAdd, lstOf, dr]
          rw [if_pos (by rw [List.length_map, sizeLine_eq]; have := List.length_filter_le (fun p => !Gr.isNear z.1 p) found; simp; omega)]
          rfl
        have hz' : decide (0 < z.2) = true := decide_eq_true hz
        rw [List.append_assoc] at n2
        generalize cs.map Val.int = zs at n1 n2 n3 ⊢
        generalize List.map lI (List.filter (fun p => !Gr.isNear z.1 p) found) = f2 at n3 ea
        generalize (Gr.partStep found z).map lI = f3 at ea ⊢
        generalize (nearL found z.1).map lI = f4 at n1 n2 n3 ⊢
        generalize found.map lI = f1 at n1 n2 n3 ⊢
        simp only [c_gT, c_gCons, c_gN, c_gNil, List.length_cons, List.length_nil, Nat.zero_add, Nat.reduceAdd, if_true, List.set_cons_succ, List.set_cons_zero, d_If, c_Test, c_B, c_V, c_C, List.getElem?_cons_succ, List.getElem?_cons_zero, bindR_ok, k_gt, optR_some, d_bindS_ok, hz', d_Seq, d_Set, n1, n2, n3, c_Lst, c_Cons, c_Nil, one_le, ea]
      · obtain ⟨more', y3, y4, y5, y6, y7, y8, e⟩ := ih (pre ++ [z]) (Gr.partStep found z) more (some (pV z.1)) (some (.int z.2)) x5 x6 x7 x8 P' (by simpa using hE)
        refine ⟨more', y3, y4, y5, y6, y7, y8, ?_⟩
        rw [← e]
        have ps : Gr.partStep found z = found := by unfold Gr.partStep; rw [if_neg hz]
        have hz' : decide (0 < z.2) = false := decide_eq_false hz
        rw [ps]
        generalize cs.map Val.int = zs
        simp [bindR, bindS, optR, hz']
  obtain ⟨more, y3, y4, y5, y6, y7, y8, e⟩ := loop (gs.zip cs) [] [] [] none none none none none none ⟨fun p hp => absurd hp List.not_mem_nil, fun p hp => absurd hp List.not_mem_nil, fun x ⟨e, he, _⟩ => absurd he List.not_mem_nil, fun p hp => absurd hp List.not_mem_nil, List.nodup_nil⟩ (fun z hz => okG_8 h.hi (h.at_ _ (List.of_mem_zip (by simpa using hz)).1))
  have hfl : (Gr.partsL (gs.zip cs)).length ≤ 1000 := by
    have k1 := fold_len (gs.zip cs) []
    rw [List.length_zip, List.length_nil] at k1
    have k2 := h.len
    unfold Gr.partsL
    omega
  have e5 : eLc false [6] (itV (eV 2)) (gN 6) eYes (eBf fTuple (eCons (eV 6) eNil)) [some (gh rooms gs), some (.tup (cs.map .int)), some (.lst ((Gr.partsL (gs.zip cs)).map lI)), y3, y4, y5, y6, y7, y8] (st ++ more) = .ok (.lst ((Gr.partsL (gs.zip cs)).map tN)) (st ++ more) :=
    lc_mp lI tN (by simp [bindR]) (by omega) fun p _ => ⟨_, rfl, by simp [wipeE, bindR, optR, lI, tN]⟩
  have e6 := sortB_tups (st := st ++ more) (ps := Gr.partsL (gs.zip cs)) (Gr.parts_ok (gs.zip cs)).ne
  have bel : ∀ ps : List (List Int), belVs st.length (ps.map tN) = true := fun ps => by
    induction ps with
    | nil => rfl
    | cons p ps ih =>
      rw [List.map_cons, belVs, ih, Bool.and_true]
      exact bel_ints p
  refine runF_of (more := more) ?_ rfl (okOld_refl st) (bel _)
  have ez : (0 ≤ sizeLine) = True := eq_true (Nat.zero_le _)
  have e7 : itZip (eCons (eB fIx (eV 0) (eC (.int 1))) (eCons (eV 1) eNil)) [some (gh rooms gs), some (.tup (cs.map .int)), some (.lst []), none, none, none, none, none, none] st = .ok ((gs.zip cs).map fun z => .tup [pV z.1, .int z.2]) st := by
    simp [bindR, optR, gh_gates, zipV_map]
  rw [List.append_nil] at e
  have e : forL _ _ ((gs.zip cs).map fun z => .tup [pV z.1, .int z.2]) [some (gh rooms gs), some (.tup (cs.map .int)), some (.lst []), none, none, none, none, none, none] st = .nx [some (gh rooms gs), some (.tup (cs.map .int)), some (.lst ((Gr.partsL (gs.zip cs)).map lI)), y3, y4, y5, y6, y7, y8] (st ++ more) := e
  unfold b_parts_of
  have e0 : sSet 2 (eLst eNil) (startE 9 [gh rooms gs, .tup (cs.map .int)]) st = .nx [some (gh rooms gs), some (.tup (cs.map .int)), some (.lst []), none, none, none, none, none, none] st := by
    generalize cs.map Val.int = zs
    simp [startE, bindR, bindS, ez]
  rw [d_Seq, e0]
  dsimp only
  rw [d_Seq, d_For, e7, d_bindS_ok, e]
  dsimp only
  rw [d_Ret, c_Bf, c_Cons, e5, bindR_ok, c_Nil, bindR_ok, bindR_ok, e6, optR_some, d_bindS_ok]
  rfl
theorem parts_ok {st : Sto} {rooms : Int} {gs : List (Int × Int)} {cs : List Int} (h : GoodH rooms gs) (hc : GoodN gs.length cs) : m_parts [gh rooms gs, .tup (cs.map .int)] st = .ok (.tup ((partsS gs cs).map tN)) st := by
  have bel : ∀ ps : List (List Int), belVs st.length (ps.map tN) = true := fun ps => by
    induction ps with
    | nil => rfl
    | cons p ps ih =>
      rw [List.map_cons, belVs, ih, Bool.and_true]
      exact bel_ints p
  refine runF_same ?_ (bel _)
  have e1 := need_house_ok (st := st) h
  have e2 := need_counts_ok (st := st) h hc
  have e3 := parts_of_ok (st := st) (cs := cs) h
  generalize cs.map Val.int = zs at e1 e2 e3 ⊢
  generalize (partsS gs cs).map tN = ps at e3 ⊢
  simp [b_parts, startE, bindR, bindS, optR, e1, e2, e3]
end Gc

set_option Elab.async false
set_option linter.all false
set_option maxRecDepth 100000
set_option maxHeartbeats 4000000
namespace Gc
open PySem PySem.Spec PyProof.Rows L2 Ev
abbrev Pr := Int × Int × Int
/-- one look along a gate -/
def lookS (here : Int) (s : List Int × List Int) (t : Pr) : List Int × List Int := if 0 < t.2.2 ∧ t.1 = here ∧ t.2.1 ∉ s.1 then (s.1 ++ [t.2.1], s.2 ++ [t.2.1]) else s
def both (gc : List ((Int × Int) × Int)) : List Pr := (gc.map fun z => [(z.1.1, z.1.2, z.2), (z.1.2, z.1.1, z.2)]).flatten
theorem look_new {here : Int} : ∀ (ts : List Pr) (f w : List Int), f.Nodup → ∃ new, ts.foldl (lookS here) (f, w) = (f ++ new, w ++ new) ∧ (f ++ new).Nodup ∧ (∀ x, x ∈ new → ∃ t, t ∈ ts ∧ 0 < t.2.2 ∧ t.1 = here ∧ t.2.1 = x) ∧ ∀ t, t ∈ ts → 0 < t.2.2 → t.1 = here → t.2.1 ∈ f ++ new
  | [], f, w, hn => ⟨[], by simp, by simpa using hn, by simp, by simp⟩
  | t :: ts, f, w, hn => by
    rw [List.foldl_cons]
    unfold lookS
    by_cases h : 0 < t.2.2 ∧ t.1 = here ∧ t.2.1 ∉ f
    · rw [if_pos h]
      have hn2 : (f ++ [t.2.1]).Nodup := by
        rw [List.nodup_append]
        refine ⟨hn, by simp, fun a ha b hb e => ?_⟩
        rw [List.mem_singleton] at hb
        subst hb
        exact h.2.2 (e ▸ ha)
      obtain ⟨new, e, n1, n2, n3⟩ := look_new (here := here) ts (f ++ [t.2.1]) (w ++ [t.2.1]) hn2
      refine ⟨t.2.1 :: new, ?_, ?_, fun x hx => ?_, fun q hq h1 h2 => ?_⟩
      · show ts.foldl (lookS here) _ = _
        rw [e]
        simp
      · simpa using n1
      · rcases List.mem_cons.mp hx with rfl | hx
        · exact ⟨t, List.mem_cons_self, h.1, h.2.1, rfl⟩
        · obtain ⟨q, hq, r⟩ := n2 x hx
          exact ⟨q, List.mem_cons_of_mem _ hq, r⟩
      · rcases List.mem_cons.mp hq with rfl | hq
        · simp
        · have := n3 q hq h1 h2
          simpa using this
    · rw [if_neg h]
      obtain ⟨new, e, n1, n2, n3⟩ := look_new (here := here) ts f w hn
      refine ⟨new, e, n1, fun x hx => ?_, fun q hq h1 h2 => ?_⟩
      · obtain ⟨q, hq, r⟩ := n2 x hx
        exact ⟨q, List.mem_cons_of_mem _ hq, r⟩
      · rcases List.mem_cons.mp hq with rfl | hq
        · exact List.mem_append_left _ (Classical.byContradiction fun z => h ⟨h1, h2, z⟩)
        · exact n3 q hq h1 h2
theorem mem_both {gc : List ((Int × Int) × Int)} {t : Pr} : t ∈ both gc ↔ ∃ z, z ∈ gc ∧ (t = (z.1.1, z.1.2, z.2) ∨ t = (z.1.2, z.1.1, z.2)) := by
  unfold both
  simp only [List.mem_flatten, List.mem_map]
  constructor
  · rintro ⟨l, ⟨z, hz, rfl⟩, ht⟩
    simp only [List.mem_cons, List.not_mem_nil, or_false] at ht
    exact ⟨z, hz, ht⟩
  · rintro ⟨z, hz, h⟩
    refine ⟨_, ⟨z, hz, rfl⟩, ?_⟩
    simp only [List.mem_cons, List.not_mem_nil, or_false]
    exact h
theorem mem_passed {gc : List ((Int × Int) × Int)} {e : Int × Int} : e ∈ Gr.passedG gc ↔ ∃ z, z ∈ gc ∧ 0 < z.2 ∧ z.1 = e := by
  unfold Gr.passedG
  simp only [List.mem_map, List.mem_filter, decide_eq_true_eq]
  constructor
  · rintro ⟨z, ⟨h1, h2⟩, h3⟩; exact ⟨z, h1, h2, h3⟩
  · rintro ⟨z, h1, h2, h3⟩; exact ⟨z, ⟨h1, h2⟩, h3⟩
/-- what a search has found -/
structure Srch (gc : List ((Int × Int) × Int)) (x0 : Int) (f w : List Int) : Prop where
  nd : f.Nodup
  beg : x0 ∈ f
  con : ∀ x, x ∈ f → Gr.Con (Gr.passedG gc) x0 x
  sub : ∀ x, x ∈ w → x ∈ f
  done : ∀ x, x ∈ f → x ∉ w → ∀ t, t ∈ both gc → 0 < t.2.2 → t.1 = x → t.2.1 ∈ f
theorem Srch.turn {gc : List ((Int × Int) × Int)} {x0 here : Int} {f w : List Int} (S : Srch gc x0 f (w ++ [here])) : ∃ new, (both gc).foldl (lookS here) (f, w) = (f ++ new, w ++ new) ∧ Srch gc x0 (f ++ new) (w ++ new) := by
  obtain ⟨new, e, n1, n2, n3⟩ := look_new (here := here) (both gc) f w S.nd
  have hin : here ∈ f := S.sub here (by simp)
  refine ⟨new, e, n1, List.mem_append_left _ S.beg, fun x hx => ?_, fun x hx => ?_, fun x hx hw t ht h1 h2 => ?_⟩
  · rcases List.mem_append.mp hx with hx | hx
    · exact S.con x hx
    · obtain ⟨t, ht, h1, h2, h3⟩ := n2 x hx
      obtain ⟨z, hz, k⟩ := mem_both.mp ht
      have c := S.con here hin
      rcases k with rfl | rfl
      · have h2 : z.1.1 = here := h2
        have h3 : z.1.2 = x := h3
        exact c.fwd (mem_passed.mpr ⟨z, hz, h1, Prod.ext h2 h3⟩)
      · have h2 : z.1.2 = here := h2
        have h3 : z.1.1 = x := h3
        exact c.bwd (mem_passed.mpr ⟨z, hz, h1, Prod.ext h3 h2⟩)
  · rcases List.mem_append.mp hx with hx | hx
    · exact List.mem_append_left _ (S.sub x (List.mem_append_left _ hx))
    · exact List.mem_append_right _ hx
  · rcases List.mem_append.mp hx with hx | hx
    · by_cases he : x = here
      · subst he; exact n3 t ht h1 h2
      · refine List.mem_append_left _ (S.done x hx (fun z => ?_) t ht h1 h2)
        rcases List.mem_append.mp z with z | z
        · exact hw (List.mem_append_left _ z)
        · exact he (List.mem_singleton.mp z)
    · exact absurd (List.mem_append_right _ hx) hw
theorem Srch.whole {gc : List ((Int × Int) × Int)} {x0 : Int} {f : List Int} (S : Srch gc x0 f []) (x : Int) : x ∈ f ↔ Gr.Con (Gr.passedG gc) x0 x := by
  refine ⟨S.con x, fun h => ?_⟩
  induction h with
  | refl => exact S.beg
  | @fwd b c _ e ih =>
    obtain ⟨z, hz, h1, h2⟩ := mem_passed.mp e
    have e1 : z.1.1 = b := by rw [h2]
    have e2 : z.1.2 = c := by rw [h2]
    have := S.done b ih List.not_mem_nil (z.1.1, z.1.2, z.2) (mem_both.mpr ⟨z, hz, .inl rfl⟩) h1 e1
    rwa [← e2]
  | @bwd b c _ e ih =>
    obtain ⟨z, hz, h1, h2⟩ := mem_passed.mp e
    have e1 : z.1.1 = c := by rw [h2]
    have e2 : z.1.2 = b := by rw [h2]
    have := S.done b ih List.not_mem_nil (z.1.2, z.1.1, z.2) (mem_both.mpr ⟨z, hz, .inr rfl⟩) h1 e2
    rwa [← e1]
/-- the search, turn by turn -/
def searchL (gc : List ((Int × Int) × Int)) : Nat → List Int → List Int → List Int
  | 0, f, _ => f
  | n + 1, f, w => match w.getLast? with
    | none => f
    | some here => searchL gc n ((both gc).foldl (lookS here) (f, w.dropLast)).1 ((both gc).foldl (lookS here) (f, w.dropLast)).2
section
variable {st : Sto}
def sp2 (f w : List Int) : Sto := [.dK (kvI f), .lst (w.map .int)]
theorem sp_f {f w : List Int} : (st ++ sp2 f w)[st.length]? = some (.dK (kvI f)) := by simp [sp2]
theorem sp_w {f w : List Int} : (st ++ sp2 f w)[st.length + 1]? = some (.lst (w.map .int)) := by simp [sp2]
theorem sp_setF {f f' w : List Int} : (st ++ sp2 f w).set st.length (.dK (kvI f')) = st ++ sp2 f' w := by simp [sp2]
theorem sp_setW {f w w' : List Int} : (st ++ sp2 f w).set (st.length + 1) (.lst (w'.map .int)) = st ++ sp2 f w' := by simp [sp2]
theorem look_kvI (f : List Int) (x : Int) : (look (kvI f) (Sum.inl x)).isSome = decide (x ∈ f) := by
  unfold look kvI
  by_cases h : x ∈ f
  · rw [decide_eq_true h]
    have : (List.find? (fun kv : Key × Val => decide (kv.1 = Sum.inl x)) (f.map fun i => (Sum.inl i, Val.bl true))).isSome = true := by
      rw [List.find?_isSome]
      exact ⟨_, List.mem_map_of_mem h, decide_eq_true rfl⟩
    simpa using this
  · rw [decide_eq_false h]
    have : List.find? (fun kv : Key × Val => decide (kv.1 = Sum.inl x)) (f.map fun i => (Sum.inl i, Val.bl true)) = none := by
      rw [List.find?_eq_none]
      intro kv hk e
      obtain ⟨i, hi, rfl⟩ := List.mem_map.mp hk
      have e := of_decide_eq_true e
      exact h (Sum.inl.inj e ▸ hi)
    rw [this]
    rfl
theorem sp_notIn {f w : List Int} {x : Int} : fNotIn (st ++ sp2 f w) (.int x) (.loc st.length) = some (.bl !decide (x ∈ f)) := by
  refine k_notIn ?_
  have h1 : lstOf (st ++ sp2 f w) (.loc st.length) = none := by unfold lstOf dr; simp only [sp_f]
  unfold isIn
  simp only [h1]
  unfold dGet
  simp only [sp_f, Ev.keyOf, Option.map_some, look_kvI]
def lookSt : S := sIf (eAndT (eTest (eB fGt (eV 7) (eC (.int 0)))) (eAndT (eTest (eB fEqA (eV 8) (eV 5))) (eTest (eB fNotIn (eV 9) (eV 3))))) (sSeq (sAsg (gIx (eV 3) (eV 9)) (eC (.bl true)))
  (sExpr (eLm fAppend (eV 4) (eCons (eV 9) eNil)))) sSkip
theorem look_ok {ρ : Ev.Env} {f w : List Int} {here one other c : Int} (hf : f.length ≤ 1000) (hw : w.length ≤ 1000) (h3 : ρ[3]? = some (some (.loc st.length))) (h4 : ρ[4]? = some (some (.loc (st.length + 1)))) (h5 : ρ[5]? = some (some (.int here))) (h7 : ρ[7]? = some (some (.int c))) (h8 : ρ[8]? = some (some (.int one))) (h9 : ρ[9]? = some (some (.int other))) :
    lookSt ρ (st ++ sp2 f w) = .nx ρ (st ++ sp2 (lookS here (f, w) (one, other, c)).1 (lookS here (f, w) (one, other, c)).2) := by
  have t : eAndT (eTest (eB fGt (eV 7) (eC (.int 0)))) (eAndT (eTest (eB fEqA (eV 8) (eV 5))) (eTest (eB fNotIn (eV 9) (eV 3)))) ρ (st ++ sp2 f w) = .ok (decide (0 < c ∧ one = here ∧ other ∉ f)) (st ++ sp2 f w) := by
    simp only [c_AndT, c_Test, c_B, c_V, c_C, h7, h8, h5, h9, h3, bindR_ok, k_gt, k_eqI, optR_some, sp_notIn]
    by_cases k1 : 0 < c
    · by_cases k2 : one = here
      · by_cases k3 : other ∈ f <;> simp [k1, k2, k3]
      · simp [k1, k2]
    · simp [k1]
  unfold lookSt
  rw [d_If, t, d_bindS_ok]
  unfold lookS
  dsimp only
  by_cases h : 0 < c ∧ one = here ∧ other ∉ f
  · rw [if_pos (decide_eq_true h), if_pos h]
    have e1 : fSet (st ++ sp2 f w) (.loc st.length) (.int other) (.bl true) = some (st ++ sp2 (f ++ [other]) w) := by
      unfold fSet
      simp only [sp_f]
      rw [if_pos (by rw [sizeLine_eq, kvI, List.length_map]; omega)]
      simp only [Ev.keyOf, Option.map_some, put_kvI, if_neg h.2.2, sp_setF]
    have e2 : fAppend (st ++ sp2 (f ++ [other]) w) (w.map .int) [.int other] = some (.non, (w ++ [other]).map .int) := by
      rw [fAppend_ok (by rw [List.length_map]; omega), List.map_append]
      rfl
    simp only [d_Seq, d_Asg, c_C, d_bindS_ok, c_gIx, c_V, h3, h9, e1, Option.map_some, d_Expr, c_Lm, h4, bindR_ok, sp_w, c_Cons, c_Nil, e2, sp_setW]
  · rw [if_neg (by simpa using h), if_neg h]
    rfl
def gateSt : S := sFor (itV (eTup (eCons (eV 6) (eCons (eRevT (eV 6)) eNil)))) (gT 2 (gCons' (gN 8) (gCons' (gN 9) gNil'))) lookSt
theorem lookS_len {here : Int} {f w : List Int} {t : Pr} : (lookS here (f, w) t).1.length ≤ f.length + 1 ∧ (lookS here (f, w) t).2.length ≤ w.length + 1 := by
  unfold lookS
  split <;> simp
/-- the slots but for 6 to 9 -/
abbrev spE (st : Sto) (h0 h1 h2 : Val) (here : Option Val) (x6 x7 x8 x9 : Option Val) : Ev.Env := [some h0, some h1, some h2, some (.loc st.length), some (.loc (st.length + 1)), here, x6, x7, x8, x9]
theorem gate_ok {h0 h1 h2 : Val} {here c : Int} {g : Int × Int} {x8 x9 : Option Val} {f w : List Int} (hf : f.length ≤ 900) (hw : w.length ≤ 900) :
    gateSt (spE st h0 h1 h2 (some (.int here)) (some (pV g)) (some (.int c)) x8 x9) (st ++ sp2 f w) = .nx (spE st h0 h1 h2 (some (.int here)) (some (pV g)) (some (.int c)) (some (.int g.2)) (some (.int g.1)))
      (st ++ sp2 ([(g.1, g.2, c), (g.2, g.1, c)].foldl (lookS here) (f, w)).1 ([(g.1, g.2, c), (g.2, g.1, c)].foldl (lookS here) (f, w)).2) := by
  have e1 : itV (eTup (eCons (eV 6) (eCons (eRevT (eV 6)) eNil))) (spE st h0 h1 h2 (some (.int here)) (some (pV g)) (some (.int c)) x8 x9) (st ++ sp2 f w) = .ok [pV g, pV (g.2, g.1)] (st ++ sp2 f w) := by
    simp [bindR, two_le, pV]
  have l1 := look_ok (st := st) (ρ := spE st h0 h1 h2 (some (.int here)) (some (pV g)) (some (.int c)) (some (.int g.1)) (some (.int g.2))) (f := f) (w := w) (here := here) (one := g.1) (other := g.2) (c := c) (by omega) (by omega) rfl rfl rfl rfl rfl rfl
  obtain ⟨k1, k2⟩ := lookS_len (here := here) (f := f) (w := w) (t := (g.1, g.2, c))
  generalize hs : lookS here (f, w) (g.1, g.2, c) = s1 at l1 k1 k2
  obtain ⟨f1, w1⟩ := s1
  simp only at k1 k2
  have l2 := look_ok (st := st) (ρ := spE st h0 h1 h2 (some (.int here)) (some (pV g)) (some (.int c)) (some (.int g.2)) (some (.int g.1))) (f := f1) (w := w1) (here := here) (one := g.2) (other := g.1) (c := c) (by omega) (by omega) rfl rfl rfl rfl rfl rfl
  unfold gateSt
  rw [d_For, e1, d_bindS_ok, forL_cons]
  rw [show gT 2 (gCons' (gN 8) (gCons' (gN 9) gNil')) (pV g) (spE st h0 h1 h2 (some (.int here)) (some (pV g)) (some (.int c)) x8 x9) (st ++ sp2 f w) = some (spE st h0 h1 h2 (some (.int here)) (some (pV g)) (some (.int c)) (some (.int g.1)) (some (.int g.2)), st ++ sp2 f w) from rfl]
  dsimp only
  rw [l1]
  dsimp only
  rw [forL_cons]
  rw [show gT 2 (gCons' (gN 8) (gCons' (gN 9) gNil')) (pV (g.2, g.1)) (spE st h0 h1 h2 (some (.int here)) (some (pV g)) (some (.int c)) (some (.int g.1)) (some (.int g.2))) (st ++ sp2 f1 w1) = some (spE st h0 h1 h2 (some (.int here)) (some (pV g)) (some (.int c)) (some (.int g.2)) (some (.int g.1)), st ++ sp2 f1 w1) from rfl]
  dsimp only
  rw [l2]
  simp only [d_forNil, List.foldl_cons, List.foldl_nil, hs]
theorem gates_ok {h0 h1 h2 : Val} {here : Int} : ∀ (gc : List ((Int × Int) × Int)) (f w : List Int) (x6 x7 x8 x9 : Option Val), f.length + 2 * gc.length ≤ 900 → w.length + 2 * gc.length ≤ 900 → ∃ y6 y7 y8 y9,
    forL (gT 2 (gCons' (gN 6) (gCons' (gN 7) gNil'))) gateSt (gc.map fun z => .tup [pV z.1, .int z.2]) (spE st h0 h1 h2 (some (.int here)) x6 x7 x8 x9) (st ++ sp2 f w) = .nx (spE st h0 h1 h2 (some (.int here)) y6 y7 y8 y9) (st ++ sp2 ((both gc).foldl (lookS here) (f, w)).1 ((both gc).foldl (lookS here) (f, w)).2)
  | [], f, w, x6, x7, x8, x9, _, _ => ⟨x6, x7, x8, x9, rfl⟩
  | z :: gc, f, w, x6, x7, x8, x9, hf, hw => by
    simp only [List.length_cons] at hf hw
    have e1 := gate_ok (st := st) (h0 := h0) (h1 := h1) (h2 := h2) (here := here) (c := z.2) (g := z.1) (x8 := x8) (x9 := x9) (f := f) (w := w) (by omega) (by omega)
    have k1 := lookS_len (here := here) (f := f) (w := w) (t := (z.1.1, z.1.2, z.2))
    have eb : (both (z :: gc)).foldl (lookS here) (f, w) = (both gc).foldl (lookS here) ([(z.1.1, z.1.2, z.2), (z.1.2, z.1.1, z.2)].foldl (lookS here) (f, w)) := by
      unfold both
      rw [List.map_cons, List.flatten_cons, List.foldl_append]
    rw [eb]
    generalize hs : [(z.1.1, z.1.2, z.2), (z.1.2, z.1.1, z.2)].foldl (lookS here) (f, w) = s1 at e1
    have k2 : s1.1.length ≤ f.length + 2 ∧ s1.2.length ≤ w.length + 2 := by
      rw [← hs]
      simp only [List.foldl_cons, List.foldl_nil]
      generalize lookS here (f, w) (z.1.1, z.1.2, z.2) = s2 at k1
      obtain ⟨f2, w2⟩ := s2
      have k2 := lookS_len (here := here) (f := f2) (w := w2) (t := (z.1.2, z.1.1, z.2))
      simp only at k1
      omega
    obtain ⟨f1, w1⟩ := s1
    simp only at k2
    obtain ⟨y6, y7, y8, y9, e⟩ := gates_ok gc f1 w1 (some (pV z.1)) (some (.int z.2)) (some (.int z.1.2)) (some (.int z.1.1)) (by omega) (by omega)
    refine ⟨y6, y7, y8, y9, ?_⟩
    rw [← e, List.map_cons, forL_cons]
    rw [show gT 2 (gCons' (gN 6) (gCons' (gN 7) gNil')) (.tup [pV z.1, .int z.2]) (spE st h0 h1 h2 (some (.int here)) x6 x7 x8 x9) (st ++ sp2 f w) = some (spE st h0 h1 h2 (some (.int here)) (some (pV z.1)) (some (.int z.2)) x8 x9, st ++ sp2 f w) from rfl]
    dsimp only
    rw [e1]
def spT : ET := eTest (eB fNeA (eV 4) (eLst eNil))
def spB : S := sSeq (sSet 5 (eLm fPop (eV 4) eNil)) (sFor (itZip (eCons (eB fIx (eV 0) (eC (.int 1))) (eCons (eV 1) eNil))) (gT 2 (gCons' (gN 6) (gCons' (gN 7) gNil'))) gateSt)
theorem spT_ok {ρ : Ev.Env} {f w : List Int} (h4 : ρ[4]? = some (some (.loc (st.length + 1)))) : spT ρ (st ++ sp2 f w) = .ok (decide (w ≠ [])) (st ++ sp2 f w) := by
  have e : fNeA (st ++ sp2 f w) (.loc (st.length + 1)) (.lst []) = some (.bl (decide (w ≠ []))) := by
    have e1 : dr (st ++ sp2 f w) (.loc (st.length + 1)) = .lst (w.map .int) := by unfold dr; simp only [sp_w]
    have e2 : toD (.lst (w.map .int)) = some (.list (w.map .int)) := by simp [toD, toDs_ints]
    show fNe _ _ _ = _
    unfold fNe
    rw [e1, e2]
    show (if (SeqAt.shaped (.list (w.map .int)) && SeqAt.shaped (.list (([] : List Int).map .int))) = true then some (Val.bl (!PyData.eqvAll (w.map .int) (([] : List Int).map .int))) else none) = _
    rw [shp_ints, shp_ints, Bool.and_self, if_pos rfl, eqv_ints]
    by_cases h : w = [] <;> simp [h]
  unfold spT
  have ez : (0 ≤ sizeLine) = True := eq_true (Nat.zero_le _)
  simp only [c_Test, c_B, c_V, h4, bindR_ok, c_Lst, c_Nil, List.length_nil, ez, if_true, e, optR_some]
/-- the whole search -/
theorem search_ok {rooms : Int} {gs : List (Int × Int)} {cs : List Int} {h2 : Val} {x0 : Int} (hg : GoodH rooms gs) (hx : -1 ≤ x0 ∧ x0 ≤ rooms - 1) : ∀ (m n : Nat) (f w : List Int) (x5 x6 x7 x8 x9 : Option Val), Srch (gs.zip cs) x0 f w → 2 * (9 - f.length) + w.length ≤ m → m < n → (∀ x, x ∈ f → -1 ≤ x ∧ x ≤ 7) → w.Nodup → ∃ f' y5 y6 y7 y8 y9,
    whileN spT spB n (spE st (gh rooms gs) (.tup (cs.map .int)) h2 x5 x6 x7 x8 x9) (st ++ sp2 f w) = .nx (spE st (gh rooms gs) (.tup (cs.map .int)) h2 y5 y6 y7 y8 y9) (st ++ sp2 f' []) ∧ Srch (gs.zip cs) x0 f' [] := by
  intro m
  induction m with
  | zero =>
    intro n f w x5 x6 x7 x8 x9 S hm hn hr hw
    have : w = [] := List.eq_nil_of_length_eq_zero (by omega)
    subst this
    refine ⟨f, x5, x6, x7, x8, x9, ?_, S⟩
    obtain ⟨n, rfl⟩ : ∃ k, n = k + 1 := ⟨n - 1, by omega⟩
    unfold whileN
    rw [spT_ok rfl, d_bindS_ok, if_neg (by simp)]
  | succ m ih =>
    intro n f w x5 x6 x7 x8 x9 S hm hn hr hw
    obtain ⟨n, rfl⟩ : ∃ k, n = k + 1 := ⟨n - 1, by omega⟩
    unfold whileN
    rw [spT_ok rfl, d_bindS_ok]
    by_cases h0 : w = []
    · subst h0
      rw [if_neg (by simp)]
      exact ⟨f, x5, x6, x7, x8, x9, rfl, S⟩
    · rw [if_pos (by simpa using h0)]
      obtain ⟨w0, here, rfl⟩ : ∃ w0 here, w = w0 ++ [here] := ⟨w.dropLast, w.getLast h0, (List.dropLast_concat_getLast h0).symm⟩
      obtain ⟨new, e, S'⟩ := S.turn
      have l9 : ∀ {l : List Int}, l.Nodup → (∀ x, x ∈ l → -1 ≤ x ∧ x ≤ 7) → l.length ≤ 9 := fun {l} h k => pigeon (d := [(-1 : Int), 0, 1, 2, 3, 4, 5, 6, 7]) h fun x hx => by
        have := k x hx
        simp only [List.mem_cons, List.not_mem_nil, or_false]
        omega
      have fl := l9 S.nd hr
      have wl : (w0 ++ [here]).length ≤ 9 := l9 hw fun x hx => hr x (S.sub x hx)
      have hgl := hg.len
      have gl : (gs.zip cs).length ≤ 16 := by rw [List.length_zip]; omega
      have hr' : ∀ x, x ∈ f ++ new → -1 ≤ x ∧ x ≤ 7 := fun x hx => by
        rcases Gr.con_tou (S'.con x hx) with rfl | ⟨_, t⟩
        · have := hg.hi; omega
        · obtain ⟨e, he, h⟩ := t
          obtain ⟨z, hz, _, rfl⟩ := mem_passed.mp he
          have := hg.at_ _ (List.of_mem_zip hz).1
          have := hg.hi
          unfold okG at *
          omega
      have nl := l9 S'.nd hr'
      rw [List.length_append] at nl wl
      have w0n : w0.Nodup := (List.nodup_append.mp hw).1
      have hw' : (w0 ++ new).Nodup := by
        rw [List.nodup_append]
        refine ⟨w0n, (List.nodup_append.mp S'.nd).2.1, fun a ha b hb => ?_⟩
        exact (List.nodup_append.mp S'.nd).2.2 a (S.sub a (List.mem_append_left _ ha)) b hb
      obtain ⟨y6, y7, y8, y9, e2⟩ := gates_ok (st := st) (h0 := gh rooms gs) (h1 := .tup (cs.map .int)) (h2 := h2) (here := here) (gs.zip cs) f w0 x6 x7 x8 x9 (by omega) (by omega)
      rw [e] at e2
      obtain ⟨f', z5, z6, z7, z8, z9, e3, S''⟩ := ih n (f ++ new) (w0 ++ new) (some (.int here)) y6 y7 y8 y9 S' (by
        rw [List.length_append] at hm ⊢
        rw [List.length_append]
        simp only [List.length_cons, List.length_nil] at hm
        omega) (by omega) hr' hw'
      refine ⟨f', z5, z6, z7, z8, z9, ?_, S''⟩
      rw [← e3]
      have pop : sSet 5 (eLm fPop (eV 4) eNil) (spE st (gh rooms gs) (.tup (cs.map .int)) h2 x5 x6 x7 x8 x9) (st ++ sp2 f (w0 ++ [here])) = .nx (spE st (gh rooms gs) (.tup (cs.map .int)) h2 (some (.int here)) x6 x7 x8 x9) (st ++ sp2 f w0) := by
        have ep : ∀ st, fPop st ((w0 ++ [here]).map Val.int) [] = some (.int here, w0.map .int) := fun st => by
          unfold fPop
          dsimp only
          rw [List.map_append, List.map_cons, List.map_nil, List.dropLast_concat]
          simp
        have : eLm fPop (eV 4) eNil (spE st (gh rooms gs) (.tup (cs.map .int)) h2 x5 x6 x7 x8 x9) (st ++ sp2 f (w0 ++ [here])) = .ok (.int here) (st ++ sp2 f w0) := by
          rw [c_Lm, show eV 4 (spE st (gh rooms gs) (.tup (cs.map .int)) h2 x5 x6 x7 x8 x9) (st ++ sp2 f (w0 ++ [here])) = .ok (.loc (st.length + 1)) (st ++ sp2 f (w0 ++ [here])) from rfl, bindR_ok]
          dsimp only
          rw [sp_w]
          dsimp only
          rw [c_Nil, bindR_ok, sp_w]
          dsimp only
          rw [ep]
          dsimp only
          rw [sp_setW]
        rw [d_Set, this]
        rfl
      have ez : itZip (eCons (eB fIx (eV 0) (eC (.int 1))) (eCons (eV 1) eNil)) (spE st (gh rooms gs) (.tup (cs.map .int)) h2 (some (.int here)) x6 x7 x8 x9) (st ++ sp2 f w0) = .ok ((gs.zip cs).map fun z => .tup [pV z.1, .int z.2]) (st ++ sp2 f w0) := by
        simp [bindR, optR, gh_gates, zipV_map]
      unfold spB
      rw [d_Seq, pop]
      dsimp only
      rw [d_For, ez, d_bindS_ok, e2]
theorem spread_ok {rooms : Int} {gs : List (Int × Int)} {cs : List Int} {x0 : Int} (hg : GoodH rooms gs) (hx : -1 ≤ x0 ∧ x0 ≤ rooms - 1) : ∃ f : List Int, f.Pairwise (· < ·) ∧ (∀ x, x ∈ f ↔ Gr.Con (Gr.passedG (gs.zip cs)) x0 x) ∧ m__law_spread [gh rooms gs, .tup (cs.map .int), .int x0] st = .ok (tN f) st := by
  obtain ⟨f, y5, y6, y7, y8, y9, e, S⟩ := search_ok (st := st) (cs := cs) (h2 := .int x0) hg hx 17 manyTurns [x0] [x0] none none none none none ⟨by simp, by simp, fun x h => by rw [List.mem_singleton.mp h]; exact .refl _, fun x h => h, fun x h k => absurd h k⟩ (by simp) (by decide) (fun x h => by rw [List.mem_singleton.mp h]; have := hg.hi; omega) (by simp)
  refine ⟨Gr.sortI f, Gr.asc_sortI S.nd, fun x => Gr.mem_sortI.trans (S.whole x), ?_⟩
  refine runF_of (more := sp2 f []) ?_ rfl (okOld_refl st) (bel_ints _)
  have e0 : sPar 3 4 (eCons (eDisp (epCons (eV 2) (eC (.bl true)) epNil)) (eCons (eNew (eCons (eV 2) eNil)) eNil)) (startE 10 [gh rooms gs, .tup (cs.map .int), .int x0]) st = .nx (spE st (gh rooms gs) (.tup (cs.map .int)) (.int x0) none none none none none) (st ++ sp2 [x0] [x0]) := by
    have e1 : eDisp (epCons (eV 2) (eC (.bl true)) epNil) (startE 10 [gh rooms gs, .tup (cs.map .int), .int x0]) st = .ok (.loc st.length) (st ++ [.dK (kvI [x0])]) := by
      generalize cs.map Val.int = zs
      simp [eDisp, epCons, epNil, startE, Ev.keyOf, app_get, app_set, mergeV, put, kvI]
    have e2 : eNew (eCons (eV 2) eNil) (startE 10 [gh rooms gs, .tup (cs.map .int), .int x0]) (st ++ [.dK (kvI [x0])]) = .ok (.loc (st.length + 1)) (st ++ sp2 [x0] [x0]) := by
      generalize cs.map Val.int = zs
      simp [startE, bindR, one_le, sp2]
    rw [d_Par, c_Cons, e1, bindR_ok, c_Cons, e2, bindR_ok, c_Nil, bindR_ok, bindR_ok, d_bindS_ok]
    rfl
  have e4 : fListA (st ++ sp2 f []) [.loc st.length] = some (.lst (f.map .int)) := by
    unfold fListA
    simp only [sp_f, kvI, List.map_map]
    rfl
  show (sSeq _ (sSeq (sWhile spT spB) (sRet _))) _ _ = _
  rw [d_Seq, e0]
  dsimp only
  rw [d_Seq]
  unfold sWhile
  rw [e]
  dsimp only
  rw [d_Ret, c_Bf, c_Cons, c_Bf, c_Cons, c_Bf, c_Cons, c_V]
  rw [show (spE st (gh rooms gs) (.tup (cs.map .int)) (.int x0) y5 y6 y7 y8 y9)[3]? = some (some (.loc st.length)) from rfl]
  dsimp only
  rw [bindR_ok, c_Nil, bindR_ok, bindR_ok, e4, optR_some, bindR_ok, c_Nil, bindR_ok, bindR_ok, k_sortI, optR_some, bindR_ok, c_Nil, bindR_ok, bindR_ok, k_tupL, optR_some, d_bindS_ok]
  rfl
end
end Gc

set_option Elab.async false
set_option linter.all false
set_option maxRecDepth 100000
set_option maxHeartbeats 4000000
namespace Gc
open PySem PySem.Spec PyProof.Rows L2 Ev
theorem iStr_len {i : Int} (h : i.natAbs ≤ 10 ^ 40) : (iStr i).length ≤ 60 := by
  cases i with
  | ofNat n =>
    have e : iStr (Int.ofNat n) = nS (TL.numL n) := SX.num_S n
    rw [e, SX.S_len]
    have : (TL.numL n).length ≤ 41 := TL.numL_len (by decide) (by
      have : (Int.ofNat n).natAbs = n := rfl
      rw [this] at h
      omega)
    omega
  | negSucc m =>
    have e : iStr (Int.negSucc m) = ("-" : Str) ++ nS (TL.numL (m + 1)) := by
      have e2 : nS (TL.numL (m + 1)) = Str.ofString (toString (((m + 1 : Nat)) : Int)) := (SX.num_S (m + 1)).symm
      rw [e2]
      show Str.ofString ("-" ++ toString (m + 1)) = Str.ofString "-" ++ Str.ofString (toString (m + 1))
      apply TL.ext_tl
      rw [TL.tl_append, TL.tl_ofString, TL.tl_ofString, TL.tl_ofString, String.toList_append, List.map_append]
    have h2 : (m + 1) ≤ 10 ^ 40 := h
    have : (TL.numL (m + 1)).length ≤ 41 := TL.numL_len (by decide) (by omega)
    have el : (("-" : Str) ++ nS (TL.numL (m + 1))).length = 1 + (TL.numL (m + 1)).length := by
      have z : ("-" : Str) = nS [45] := by decide
      rw [z, SX.S_cat, SX.S_len, List.length_append]
      rfl
    rw [e, el]
    omega
theorem log_40 {i : Int} (h : i.natAbs ≤ 10 ^ 40) : i.natAbs.log2 < 1920 := by
  have h4 : i.natAbs < 2 ^ 140 := by
    have : (10 : Nat) ^ 40 < 2 ^ 140 := by decide
    omega
  by_cases h0 : i.natAbs = 0
  · rw [h0]; decide
  · have := (Nat.log2_lt h0).mpr h4
    omega
theorem sm_int {i : Int} (h : i.natAbs ≤ 10 ^ 40) : Sm (.int i) 0 0 := by
  refine ⟨?_, ?_, rfl, rfl, Nat.le_refl _, Nat.le_refl _⟩
  · rw [PyData.leavesShort, decide_eq_true_eq, PyData.shown_int]
    show (iStr i).length ≤ 100
    have := iStr_len h
    omega
  · rw [PyData.showable, decide_eq_true_eq]
    exact log_40 h
theorem sm_ints {ns : List Int} {k : Nat} (hl : ns.length ≤ k) (h : ∀ n, n ∈ ns → n.natAbs ≤ 10 ^ 40) : Sm (.tuple (ns.map .int)) 1 k := by
  refine (SmAll.tup (Sm.all (k := 0) (b := 0) fun d hd => ?_)).le (by decide) (by rw [List.length_map]; omega)
  obtain ⟨c, hc, rfl⟩ := List.mem_map.mp hd
  exact sm_int (h c hc)
theorem toD_tN (ns : List Int) : toD (tN ns) = some (.tuple (ns.map .int)) := by simp [tN, toD, toDs_ints]
theorem toDs_tN : ∀ ps : List (List Int), toDs (ps.map tN) = some (ps.map fun p => .tuple (p.map .int))
  | [] => rfl
  | p :: ps => by rw [List.map_cons, toDs, toD_tN, toDs_tN ps]; rfl
theorem sm_ll {ps : List (List Int)} {k m : Nat} (hl : ps.length ≤ k) (h : ∀ p, p ∈ ps → p.length ≤ m ∧ ∀ n, n ∈ p → n.natAbs ≤ 10 ^ 40) : Sm (.tuple (ps.map fun p => .tuple (p.map .int))) 2 (k * (m + 1)) := by
  refine (SmAll.tup (Sm.all (k := 1) (b := m) fun d hd => ?_)).le (by decide) ?_
  · obtain ⟨p, hp, rfl⟩ := List.mem_map.mp hd
    exact sm_ints (h p hp).1 (h p hp).2
  · rw [List.length_map]
    exact Nat.mul_le_mul_right _ hl
/-- repr of a small value is a text -/
theorem repr_ok {st : Sto} {v : Val} {d : PyData} {k b : Nat} (h : toD (dr st v) = some d) (hs : Sm d k b) (hk : k ≤ 60) (hb : b ≤ 100000) : fRepr st [v] = some (.str d.shown) := fRepr_ok h (hs.repr hk hb)
end Gc

set_option Elab.async false
set_option linter.all false
set_option maxRecDepth 100000
set_option maxHeartbeats 0
namespace K07
open PySem PySem.Spec PyProof.Rows L2 Ev Gc
def b_law : S := (sSeq (sSet 1 (eCall 1 m__law_begin (eCons (eV 0) eNil)))
  (sSeq (sFor (itRange1 (eCons (eC (.int 6)) eNil)) (gN 2) (sSeq (sAsg (gT 3 (gCons' (gN 3) (gCons' (gN 4) (gCons' (gN 5) gNil')))) (eCall 1 m__law_asked (eCons (eV 1) eNil)))
  (sIf (eTest (eCall 3 m_is_possible (eCons (eV 3) (eCons (eV 4) (eCons (eV 5) eNil))))) (sSeq (sSet 6 (eLst (eCons (eCall 3 m_first_gates (eCons (eV 3) (eCons (eV 4) (eCons (eV 5) eNil)))) eNil)))
  (sSeq (sSet 6 (eB fAdd (eV 6) (eLst (eCons (eCallK 3 3 [2, 1, 0] m_first_gates (eCons (eV 5) (eCons (eV 4) (eCons (eV 3) eNil)))) eNil))))
  (sSeq (sIf (eTest (eB fNeA (eBf fRepr (eCons (eV 6) eNil)) (eBf fRepr (eCons (eB fMul (eLst (eCons (eCall 3 m__law_firsts (eCons (eV 3) (eCons (eV 4) (eCons (eV 5) eNil)))) eNil)) (eC (.int 2))) eNil)))) (sRet (eC (.bl false))) sSkip)
  (sSeq (sSet 6 (eLst (eCons (eCall 3 m_last_gates (eCons (eV 3) (eCons (eV 4) (eCons (eV 5) eNil)))) eNil)))
  (sSeq (sSet 6 (eB fAdd (eV 6) (eLst (eCons (eCallK 3 3 [2, 1, 0] m_last_gates (eCons (eV 5) (eCons (eV 4) (eCons (eV 3) eNil)))) eNil))))
  (sIf (eTest (eB fNeA (eBf fRepr (eCons (eV 6) eNil)) (eBf fRepr (eCons (eB fMul (eLst (eCons (eCall 3 m__law_lasts (eCons (eV 3) (eCons (eV 4) (eCons (eV 5) eNil)))) eNil)) (eC (.int 2))) eNil)))) (sRet (eC (.bl false))) sSkip)))))) sSkip)))
  (sSeq (sSet 3 (eTup (eCons (eC (.int 3)) (eCons (eTup (eCons (eTup (eCons (fNeg (eC (.int 1))) (eCons (eC (.int 0)) eNil))) (eCons (eTup (eCons (eC (.int 0)) (eCons (fNeg (eC (.int 1))) eNil))) (eCons (eTup (eCons (eC (.int 0)) (eCons (eC (.int 1)) eNil))) (eCons (eTup (eCons (eC (.int 1)) (eCons (eC (.int 0)) eNil))) (eCons (eTup (eCons (eC (.int 1)) (eCons (eC (.int 2)) eNil))) (eCons (eTup (eCons (eC (.int 2)) (eCons (eC (.int 1)) eNil))) eNil))))))) eNil))))
  (sSeq (sSet 6 (eLst (eCons (eCall 3 m_first_gates (eCons (eV 3) (eCons (eTup (eCons (eC (.int 1)) (eCons (eC (.int 0)) (eCons (eC (.int 0)) eNil)))) (eCons (eTup (eCons (eC (.int 0)) (eCons (eC (.int 0)) (eCons (eC (.int 2)) (eCons (eC (.int 1)) (eCons (eC (.int 1)) (eCons (eC (.int 1)) eNil))))))) eNil)))) eNil)))
  (sSeq (sSet 6 (eB fAdd (eV 6) (eLst (eCons (eCall 3 m_last_gates (eCons (eV 3) (eCons (eTup (eCons (eC (.int 1)) (eCons (eC (.int 0)) (eCons (eC (.int 0)) eNil)))) (eCons (eTup (eCons (eC (.int 0)) (eCons (eC (.int 0)) (eCons (eC (.int 2)) (eCons (eC (.int 1)) (eCons (eC (.int 1)) (eCons (eC (.int 1)) eNil))))))) eNil)))) eNil))))
  (sSeq (sIf (eOrT (eTest (eB fNeA (eV 6) (eLst (eCons (eTup (eCons (eC (.int 2)) eNil)) (eCons (eTup (eCons (eC (.int 2)) (eCons (eC (.int 5)) eNil))) eNil))))) (eTest (eB fNeA (eCall 3 m_first_gates (eCons (eV 3) (eCons (eTup (eCons (eC (.int 0)) (eCons (eC (.int 0)) (eCons (eC (.int 0)) eNil)))) (eCons (eB fMul (eTup (eCons (eC (.int 0)) eNil)) (eC (.int 6))) eNil)))) (eTup eNil)))) (sRet (eC (.bl false))) sSkip)
  (sRet (eB fEqA (eCall 3 m_first_gates (eCons (eV 3) (eCons (eTup (eCons (eC (.int 1)) (eCons (eC (.int 0)) (eCons (eC (.int 0)) eNil)))) (eCons (eTup (eCons (eC (.int 0)) (eCons (eC (.int 1)) (eCons (eC (.int 1)) (eCons (eC (.int 1)) (eCons (eC (.int 0)) (eCons (eC (.int 0)) eNil))))))) eNil)))) (eTup (eCons (eC (.int 2)) eNil))))))))))
def m_law : Fn := runF 7 b_law
end K07

set_option Elab.async false
set_option linter.all false
set_option maxRecDepth 100000
set_option maxHeartbeats 0
namespace K07
open PySem PySem.Spec PyProof.Rows L2 Ev Gc
def top (i : Nat) : Stmt := PySem.Challenge.pw_gatecounts_k07_whole_first_and_last.main.body.getD i (.Pass ⟨0, 0, 0, 0⟩)
def clsN : List Str := ("GateError" : Str) :: ("BadHouse" : Str) :: ("BadHeads" : Str) :: ("BadCounts" : Str) :: ("BadNotes" : Str) :: ("BadNumber" : Str) :: ("BadPaper" : Str) :: ("BadText" : Str) :: ("NoOrder" : Str) :: ("TooMany" : Str) :: ("NothingLeft" : Str) :: ("Going" : Str) :: ("Trial" : Str) :: ("Book" : Str) :: ("Desk" : Str) :: []
abbrev tab (K : PySem.W.Frag) : Tab := ⟨K, fun i => He.ga K (clsN.getD i "")⟩
abbrev d__law_begin : He.DefD := dOf "_law_begin" (top 38)
abbrev d__law_next : He.DefD := dOf "_law_next" (top 39)
abbrev d__law_house : He.DefD := dOf "_law_house" (top 41)
abbrev d__law_few : He.DefD := dOf "_law_few" (top 42)
abbrev d__law_pick : He.DefD := dOf "_law_pick" (top 40)
abbrev d__law_walked : He.DefD := dOf "_law_walked" (top 43)
abbrev d__law_asked : He.DefD := dOf "_law_asked" (top 44)
abbrev d_is_integer : He.DefD := dOf "is_integer" (top 11)
abbrev d_is_whole : He.DefD := dOf "is_whole" (top 12)
abbrev d_numbers_fault : He.DefD := dOf "numbers_fault" (top 15)
abbrev d_BadHouse_init : He.DefD := mOf "BadHouse" "__init__" "BadHouse.__init__" (inCls (top 2) 0)
abbrev d_is_gate : He.DefD := dOf "is_gate" (top 13)
abbrev d_need_house : He.DefD := dOf "need_house" (top 14)
abbrev d_BadHeads_init : He.DefD := mOf "BadHeads" "__init__" "BadHeads.__init__" (inCls (top 3) 0)
abbrev d_need_heads : He.DefD := dOf "need_heads" (top 16)
abbrev d_BadCounts_init : He.DefD := mOf "BadCounts" "__init__" "BadCounts.__init__" (inCls (top 4) 0)
abbrev d_need_counts : He.DefD := dOf "need_counts" (top 17)
abbrev d_need_asked : He.DefD := dOf "need_asked" (top 28)
abbrev d_to_place : He.DefD := dOf "to_place" (top 19)
abbrev d_from_place : He.DefD := dOf "from_place" (top 18)
abbrev d_balances_of : He.DefD := dOf "balances_of" (top 20)
abbrev d_short_rooms : He.DefD := dOf "short_rooms" (top 25)
abbrev d_parts_of : He.DefD := dOf "parts_of" (top 21)
abbrev d_lonely_parts : He.DefD := dOf "lonely_parts" (top 26)
abbrev d_is_possible_of : He.DefD := dOf "is_possible_of" (top 27)
abbrev d_is_possible : He.DefD := dOf "is_possible" (top 30)
abbrev d_NoOrder_init : He.DefD := mOf "NoOrder" "__init__" "NoOrder.__init__" (inCls (top 5) 0)
abbrev d_need_order : He.DefD := dOf "need_order" (top 29)
abbrev d_one_less : He.DefD := dOf "one_less" (top 32)
abbrev d_heads_behind : He.DefD := dOf "heads_behind" (top 33)
abbrev d_can_begin : He.DefD := dOf "can_begin" (top 34)
abbrev d_first_gates : He.DefD := dOf "first_gates" (top 35)
abbrev d__law_passed : He.DefD := dOf "_law_passed" (top 45)
abbrev d__law_less : He.DefD := dOf "_law_less" (top 46)
abbrev d__law_can : He.DefD := dOf "_law_can" (top 47)
abbrev d__law_firsts : He.DefD := dOf "_law_firsts" (top 48)
abbrev d_last_gates : He.DefD := dOf "last_gates" (top 36)
abbrev d__law_lasts : He.DefD := dOf "_law_lasts" (top 49)
abbrev d_law : He.DefD := dOf "law" (top 50)
def ex : PySem.W.Frag → Bool := fun K => initB K "BadHouse" "GateError" ["part"] && initB K "BadHeads" "GateError" ["number"] && initB K "BadCounts" "GateError" ["number"] && initB K "NoOrder" "GateError" ["word"]
def fa : List He.Fa := [.glo "_law_begin", .free "range", .free "len", .glo "_law_next", .free "int", .free "list", .free "sorted", .free "tuple", .glo "_law_house", .glo "_law_few", .glo "_law_pick", .glo "_law_walked", .glo "_law_asked", .free "isinstance", .free "enumerate", .free "bool", .glo "is_integer", .glo "is_whole", .int "MOST_NUMBER" (1000000000000000000000000000000), .glo "numbers_fault", .glo "BadHouse", .glo "GateError", .int "MOST_ROOMS" (8), .int "MOST_GATES" (16), .int "OUTSIDE" (-1), .free "all", .glo "is_gate", .free "zip", .glo "need_house", .glo "BadHeads", .glo "need_heads", .glo "BadCounts", .glo "need_counts", .glo "need_asked", .free "sum", .glo "to_place", .glo "from_place", .glo "balances_of", .glo "short_rooms", .glo "parts_of", .glo "lonely_parts", .glo "is_possible_of", .glo "is_possible", .glo "NoOrder", .str "SHORT" "short", .str "LONELY" "lonely", .glo "need_order", .glo "one_less", .glo "heads_behind", .glo "can_begin", .glo "first_gates", .free "repr", .glo "_law_passed", .glo "_law_less", .glo "_law_can", .glo "_law_firsts", .glo "last_gates", .glo "_law_lasts", .glo "law"]
def fn : List He.DefD := [d__law_begin, d__law_next, d__law_house, d__law_few, d__law_pick, d__law_walked, d__law_asked, d_is_integer, d_is_whole, d_numbers_fault, d_BadHouse_init, d_is_gate, d_need_house, d_BadHeads_init, d_need_heads, d_BadCounts_init, d_need_counts, d_need_asked, d_to_place, d_from_place, d_balances_of, d_short_rooms, d_parts_of, d_lonely_parts, d_is_possible_of, d_is_possible, d_NoOrder_init, d_need_order, d_one_less, d_heads_behind, d_can_begin, d_first_gates, d__law_passed, d__law_less, d__law_can, d__law_firsts, d_last_gates, d__law_lasts, d_law]
theorem exs_0 {K : PySem.W.Frag} (h : ex K = true) : initB K "BadHouse" "GateError" ["part"] = true := (Bool.and_eq_true_iff.mp (Bool.and_eq_true_iff.mp (Bool.and_eq_true_iff.mp h).1).1).1
theorem exs_1 {K : PySem.W.Frag} (h : ex K = true) : initB K "BadHeads" "GateError" ["number"] = true := (Bool.and_eq_true_iff.mp (Bool.and_eq_true_iff.mp (Bool.and_eq_true_iff.mp h).1).1).2
theorem exs_2 {K : PySem.W.Frag} (h : ex K = true) : initB K "BadCounts" "GateError" ["number"] = true := (Bool.and_eq_true_iff.mp (Bool.and_eq_true_iff.mp h).1).2
theorem exs_3 {K : PySem.W.Frag} (h : ex K = true) : initB K "NoOrder" "GateError" ["word"] = true := (Bool.and_eq_true_iff.mp h).2
abbrev s__law_begin : Stmt := top 38
theorem sc__law_begin : FnScope ["_law_script"] ["_law_script"] (defScope s__law_begin) := ⟨rfl, rfl, rfl, by decide +kernel, rfl, by decide +kernel, by decide +kernel⟩
theorem bind__law_begin : BindOk "_law_begin" s__law_begin ["_law_script"] := fun _ _ _ _ _ _ us hl => match us, hl with | [_], _ => rfl
theorem ok__law_begin {P : Program} {w : World} {base : Heap} {K : PySem.W.Frag} {mg : Str → Option Value} (Z : Cnd fa fn ex K mg) : FnAt P w K mg base (tab K) 1 "_law_begin" s__law_begin ["_law_script"] m__law_begin := by
  refine fnAt_of (body := b__law_begin) Z sc__law_begin 0 0 bind__law_begin .k fun cdv A outer s H E hr hgd tk hp => ?_
  exact (ss_one (s_ret (e_disp (pps_cons e_str (e_op op_addA snd_add (e_v 0) (e_lst (a_cons e_int a_nil))) (pps_cons e_str e_int (pps_cons e_str e_int (pps_cons e_str e_int pps_nil)))) (prd_cons (prd_cons (prd_cons (prd_cons prd_nil)))))))
abbrev s__law_next : Stmt := top 39
theorem sc__law_next : FnScope ["_law_draw", "_law_many", "_law_cell", "_law_cells", "_law_number", "_law_k"] ["_law_draw", "_law_many"] (defScope s__law_next) := ⟨rfl, rfl, rfl, by decide +kernel, rfl, by decide +kernel, by decide +kernel⟩
theorem bind__law_next : BindOk "_law_next" s__law_next ["_law_draw", "_law_many"] := fun _ _ _ _ _ _ us hl => match us, hl with | [_, _], _ => rfl
theorem ok__law_next {P : Program} {w : World} {base : Heap} {K : PySem.W.Frag} {mg : Str → Option Value} (Z : Cnd fa fn ex K mg) : FnAt P w K mg base (tab K) 1 "_law_next" s__law_next ["_law_draw", "_law_many"] m__law_next := by
  refine fnAt_of (body := b__law_next) Z sc__law_next 3 1 bind__law_next .f fun cdv A outer s H E hr hgd tk hp => ?_
  exact (ss_cons (s_if (t_cmp op_gt snd_gt (e_ix rfl (hu1 hr) (e_v 0) e_str) e_int (nomark _)) (ss_cons (s_asg (e_tup (a_cons (e_ix rfl (hu1 hr) (e_v 0) e_str) (a_cons (e_fdiv (e_ix rfl (hu1 hr) (e_v 0) e_str) (e_v 1)) a_nil))) (g_tup rfl rfl (gs_cons (g_name sc__law_next.nd) (gs_cons (g_sub (W := fun c d _ H' => E c d H') (hu1 hr) (e_v 0) e_str) gs_nil))))
  (ss_one (s_ret (e_mod (e_v 2) (e_v 1))))) ss_nil)
  (ss_cons (s_set sc__law_next.nd (e_ix rfl (hu1 hr) (e_v 0) e_str))
  (ss_cons (s_set sc__law_next.nd (e_ix rfl (hu1 hr) (e_v 3) (e_mod (e_ix rfl (hu1 hr) (e_v 0) e_str) (e_bf call_lenA snd_len (by decide +kernel) (Z.free 2) (a_cons (e_v 3) a_nil)))))
  (ss_cons (s_asg (e_op op_addA snd_add (e_ix rfl (hu1 hr) (e_v 0) e_str) e_int) (g_sub (W := fun c d _ H' => E c d H') (hu1 hr) (e_v 0) e_str))
  (ss_cons (s_if (PW.pt (w_and (t_cmp op_ge snd_ge (e_v 2) (e_pow e_int e_int) (nomark _)) (w_and1 (t_cmp op_le snd_le (e_ix rfl (hu1 hr) (e_v 0) e_str) (e_bf call_lenA snd_len (by decide +kernel) (Z.free 2) (a_cons (e_v 3) a_nil)) (nomark _))))) (ss_cons (s_asg (e_fdiv (e_v 2) (e_v 1)) (g_sub (W := fun c d _ H' => E c d H') (hu1 hr) (e_v 0) e_str))
  (ss_one (s_ret (e_mod (e_v 2) (e_v 1))))) ss_nil)
  (ss_cons (s_asg (e_op op_addA snd_add (e_ix rfl (hu1 hr) (e_v 0) e_str) e_int) (g_sub (W := fun c d _ H' => E c d H') (hu1 hr) (e_v 0) e_str))
  (ss_cons (s_set sc__law_next.nd (e_op op_addA snd_add (e_mod (e_v 2) e_int) (e_op op_mulA snd_mul (e_op op_mulA snd_mul e_int (e_ix rfl (hu1 hr) (e_v 0) e_str)) (e_ix rfl (hu1 hr) (e_v 0) e_str))))
  (ss_cons (s_for hp rfl (i_seq rfl (e_tup (a_cons (e_ix rfl (hu1 hr) (e_v 0) e_str) (a_cons (e_ix rfl (hu1 hr) (e_v 0) e_str) a_nil)))) (g_name sc__law_next.nd) (ss_cons (s_set sc__law_next.nd (e_mod (e_op op_mulA snd_mul (e_op op_addA snd_add (e_op op_addA snd_add (e_v 4) (e_op op_mulA snd_mul e_int (e_v 5))) e_int) e_int) e_int))
  (ss_one (s_set sc__law_next.nd (e_mod (e_op op_mulA snd_mul (e_v 4) (e_op op_addA snd_add e_int (e_op op_mulA snd_mul e_int (e_mod (e_v 5) e_int)))) e_int)))))
  (ss_one (s_ret (e_mod (e_fdiv (e_v 4) e_int) (e_v 1))))))))))))
abbrev s__law_house : Stmt := top 41
theorem sc__law_house : FnScope ["_law_draw", "_law_most", "_law_size", "_law_rooms", "_law_found", "_law_k", "_law_one", "_law_other"] ["_law_draw", "_law_most", "_law_size"] (defScope s__law_house) := ⟨rfl, rfl, rfl, by decide +kernel, rfl, by decide +kernel, by decide +kernel⟩
theorem bind__law_house : BindOk "_law_house" s__law_house ["_law_draw", "_law_most", "_law_size"] := fun _ _ _ _ _ _ us hl => match us, hl with | [_, _, _], _ => rfl
theorem ok__law_house {P : Program} {w : World} {base : Heap} {K : PySem.W.Frag} {mg : Str → Option Value} (Z : Cnd fa fn ex K mg) : FnAt P w K mg base (tab K) 2 "_law_house" s__law_house ["_law_draw", "_law_most", "_law_size"] m__law_house := by
  refine fnAt_of (body := b__law_house) Z sc__law_house 8 2 bind__law_house .f fun cdv A outer s H E hr hgd tk hp => ?_
  exact (ss_cons (s_par rfl sc__law_house.nd (a_cons (e_op op_addA snd_add e_int (e_callF (ok__law_next Z) hr hgd tk (a_cons (e_v 0) (a_cons (e_v 1) a_nil)))) (a_cons e_newT a_nil)))
  (ss_cons (s_for hp rfl (i_range1 (Z.free 1) (a_cons (e_callF (ok__law_next Z) hr hgd tk (a_cons (e_v 0) (a_cons (e_op op_addA snd_add (e_v 2) e_int) a_nil))) a_nil)) (g_name sc__law_house.nd) (ss_cons (s_set sc__law_house.nd (e_sub (e_callF (ok__law_next Z) hr hgd tk (a_cons (e_v 0) (a_cons (e_op op_addA snd_add (e_v 3) e_int) a_nil))) e_int))
  (ss_cons (s_set sc__law_house.nd (e_sub (e_mod (e_bt call_intA snd_intA (by decide +kernel) (Z.free 4) (a_cons (e_op op_addA snd_add (e_op op_addA snd_add (e_op op_addA snd_add (e_v 6) e_int) e_int) (e_callF (ok__law_next Z) hr hgd tk (a_cons (e_v 0) (a_cons (e_v 3) a_nil)))) a_nil)) (e_op op_addA snd_add (e_v 3) e_int)) e_int))
  (ss_cons (s_if (t_cmp (op_ltA (hu0 hr)) snd_ltT (e_bf call_lenA snd_len (by decide +kernel) (Z.free 2) (a_cons (e_v 4) a_nil)) (e_v 2) (nomark _)) (ss_one (s_asg e_bl (g_sub (W := fun c d _ H' => E c d H') (hu1 hr) (e_v 4) (e_tup (a_cons (e_v 6) (a_cons (e_v 7) a_nil)))))) ss_nil)
  (ss_one (s_if (PW.pt (w_and (t_cmp (op_eqA (hu64 hr)) snd_eqA (e_callF (ok__law_next Z) hr hgd tk (a_cons (e_v 0) (a_cons e_int a_nil))) e_int (nomark _)) (w_and1 (t_cmp (op_ltA (hu0 hr)) snd_ltT (e_bf call_lenA snd_len (by decide +kernel) (Z.free 2) (a_cons (e_v 4) a_nil)) (e_v 2) (nomark _))))) (ss_one (s_asg e_bl (g_sub (W := fun c d _ H' => E c d H') (hu1 hr) (e_v 4) (e_tup (a_cons (e_v 7) (a_cons (e_v 6) a_nil)))))) ss_nil))))))
  (ss_one (s_ret (e_tup (a_cons (e_v 3) (a_cons (e_bt call_tuple_of snd_tuple (by decide +kernel) (Z.free 7) (a_cons (e_bf call_sortB snd_sortedB (by decide +kernel) (Z.free 6) (a_cons (e_bt (call_listA rfl) snd_listA (by decide +kernel) (Z.free 5) (a_cons (e_v 4) a_nil)) a_nil)) a_nil)) a_nil)))))))
abbrev s__law_few : Stmt := top 42
theorem sc__law_few : FnScope ["_law_draw", "_law_many", "_law_total", "_law_found", "_law_k"] ["_law_draw", "_law_many", "_law_total"] (defScope s__law_few) := ⟨rfl, rfl, rfl, by decide +kernel, rfl, by decide +kernel, by decide +kernel⟩
theorem bind__law_few : BindOk "_law_few" s__law_few ["_law_draw", "_law_many", "_law_total"] := fun _ _ _ _ _ _ us hl => match us, hl with | [_, _, _], _ => rfl
theorem ok__law_few {P : Program} {w : World} {base : Heap} {K : PySem.W.Frag} {mg : Str → Option Value} (Z : Cnd fa fn ex K mg) : FnAt P w K mg base (tab K) 2 "_law_few" s__law_few ["_law_draw", "_law_many", "_law_total"] m__law_few := by
  refine fnAt_of (body := b__law_few) Z sc__law_few 9 3 bind__law_few .f fun cdv A outer s H E hr hgd tk hp => ?_
  exact (ss_cons (s_set sc__law_few.nd (e_mulN rfl (e_lst (a_cons e_int a_nil)) (e_v 1)))
  (ss_cons (s_for hp rfl (i_range1 (Z.free 1) (a_cons (e_callF (ok__law_next Z) hr hgd tk (a_cons (e_v 0) (a_cons (e_op op_addA snd_add (e_v 2) e_int) a_nil))) a_nil)) (g_name sc__law_few.nd) (ss_one (s_if (t_cmp op_gt snd_gt (e_v 1) e_int (nomark _)) (ss_one (s_augI rfl (hu1 hr) ip_add snd_ipadd (e_v 3) (e_callF (ok__law_next Z) hr hgd tk (a_cons (e_v 0) (a_cons (e_v 1) a_nil))) e_int)) ss_nil)))
  (ss_one (s_ret (e_bt call_tuple_of snd_tuple (by decide +kernel) (Z.free 7) (a_cons (e_v 3) a_nil))))))
abbrev s__law_pick : Stmt := top 40
theorem sc__law_pick : FnScope ["_law_draw", "_law_some"] ["_law_draw", "_law_some"] (defScope s__law_pick) := ⟨rfl, rfl, rfl, by decide +kernel, rfl, by decide +kernel, by decide +kernel⟩
theorem bind__law_pick : BindOk "_law_pick" s__law_pick ["_law_draw", "_law_some"] := fun _ _ _ _ _ _ us hl => match us, hl with | [_, _], _ => rfl
theorem ok__law_pick {P : Program} {w : World} {base : Heap} {K : PySem.W.Frag} {mg : Str → Option Value} (Z : Cnd fa fn ex K mg) : FnAt P w K mg base (tab K) 2 "_law_pick" s__law_pick ["_law_draw", "_law_some"] m__law_pick := by
  refine fnAt_of (body := b__law_pick) Z sc__law_pick 10 4 bind__law_pick .f fun cdv A outer s H E hr hgd tk hp => ?_
  exact (ss_one (s_ret (e_ix rfl (hu1 hr) (e_v 1) (e_callF (ok__law_next Z) hr hgd tk (a_cons (e_v 0) (a_cons (e_bf call_lenA snd_len (by decide +kernel) (Z.free 2) (a_cons (e_v 1) a_nil)) a_nil))))))
abbrev s__law_walked : Stmt := top 43
theorem sc__law_walked : FnScope ["_law_draw", "_law_home_so", "_law_folk", "_law_many", "_law_here", "_law_found", "_law_k", "_law_some", "_law_number", "_law_one", "_law_other"] ["_law_draw", "_law_home_so", "_law_folk", "_law_many"] (defScope s__law_walked) := ⟨rfl, rfl, rfl, by decide +kernel, rfl, by decide +kernel, by decide +kernel⟩
theorem bind__law_walked : BindOk "_law_walked" s__law_walked ["_law_draw", "_law_home_so", "_law_folk", "_law_many"] := fun _ _ _ _ _ _ us hl => match us, hl with | [_, _, _, _], _ => rfl
theorem ok__law_walked {P : Program} {w : World} {base : Heap} {K : PySem.W.Frag} {mg : Str → Option Value} (Z : Cnd fa fn ex K mg) : FnAt P w K mg base (tab K) 3 "_law_walked" s__law_walked ["_law_draw", "_law_home_so", "_law_folk", "_law_many"] m__law_walked := by
  refine fnAt_of (body := b__law_walked) Z sc__law_walked 11 5 bind__law_walked .f fun cdv A outer s H E hr hgd tk hp => ?_
  exact (ss_cons (s_asg (e_tup (a_cons (e_listN rfl boot_list (Z.free 5) (a_cons (e_v 2) a_nil)) (a_cons (e_mulN rfl (e_lst (a_cons e_int a_nil)) (e_bf call_lenA snd_len (by decide +kernel) (Z.free 2) (a_cons (e_ix rfl (hu1 hr) (e_v 1) e_int) a_nil))) a_nil))) (g_tup rfl rfl (gs_cons (g_name sc__law_walked.nd) (gs_cons (g_name sc__law_walked.nd) gs_nil))))
  (ss_cons (s_for hp rfl (i_range1 (Z.free 1) (a_cons (e_v 3) a_nil)) (g_name sc__law_walked.nd) (ss_cons (s_setLc (new := false) [("_law_k", 6)] rfl sc__law_walked.nd (i_range1 (Z.free 1) (a_cons (e_bf call_lenA snd_len (by decide +kernel) (Z.free 2) (a_cons (e_ix rfl (hu1 hr) (e_v 1) e_int) a_nil)) a_nil)) (blkOk_by (by kernel_rfl)) (fun _ _ _ _ _ => (gw_name sc__law_walked.nd)) (fun _ _ _ _ _ => (ts_one (PW.pt (w_or (t_cmp (op_ltA (hu0 hr)) snd_ltT (e_ix rfl (hu1 hr) (e_ix rfl (hu1 hr) (e_ix rfl (hu1 hr) (e_v 1) e_int) (e_v 6)) e_int) e_int (nomark _)) (w_or1 (t_cmp op_gt snd_gt (e_ix rfl (hu1 hr) (e_v 4) (e_ix rfl (hu1 hr) (e_ix rfl (hu1 hr) (e_ix rfl (hu1 hr) (e_v 1) e_int) (e_v 6)) e_int)) e_int (nomark _))))))) (fun _ _ _ _ _ => (e_v 6)) (sw_true rfl rfl rfl rfl))
  (ss_one (s_if (t_cmp (op_neA (hu64 hr)) snd_neA (e_v 7) (e_lst a_nil) (nomark _)) (ss_cons (s_set sc__law_walked.nd (e_callF (ok__law_pick Z) hr hgd tk (a_cons (e_v 0) (a_cons (e_v 7) a_nil))))
  (ss_cons (s_augI rfl (hu1 hr) ip_add snd_ipadd (e_v 5) (e_v 8) e_int)
  (ss_cons (s_asg (e_ix rfl (hu1 hr) (e_ix rfl (hu1 hr) (e_v 1) e_int) (e_v 8)) (g_tup rfl rfl (gs_cons (g_name sc__law_walked.nd) (gs_cons (g_name sc__law_walked.nd) gs_nil))))
  (ss_cons (s_if (t_cmp op_ge snd_ge (e_v 9) e_int (nomark _)) (ss_one (s_augI rfl (hu1 hr) ip_sub snd_ipsub (e_v 4) (e_v 9) e_int)) ss_nil)
  (ss_one (s_if (t_cmp op_ge snd_ge (e_v 10) e_int (nomark _)) (ss_one (s_augI rfl (hu1 hr) ip_add snd_ipadd (e_v 4) (e_v 10) e_int)) ss_nil)))))) ss_nil))))
  (ss_one (s_ret (e_bt call_tuple_of snd_tuple (by decide +kernel) (Z.free 7) (a_cons (e_v 5) a_nil))))))
abbrev s__law_asked : Stmt := top 44
theorem sc__law_asked : FnScope ["_law_draw", "_law_home_so", "_law_folk", "_law_passes"] ["_law_draw"] (defScope s__law_asked) := ⟨rfl, rfl, rfl, by decide +kernel, rfl, by decide +kernel, by decide +kernel⟩
theorem bind__law_asked : BindOk "_law_asked" s__law_asked ["_law_draw"] := fun _ _ _ _ _ _ us hl => match us, hl with | [_], _ => rfl
theorem ok__law_asked {P : Program} {w : World} {base : Heap} {K : PySem.W.Frag} {mg : Str → Option Value} (Z : Cnd fa fn ex K mg) : FnAt P w K mg base (tab K) 4 "_law_asked" s__law_asked ["_law_draw"] m__law_asked := by
  refine fnAt_of (body := b__law_asked) Z sc__law_asked 12 6 bind__law_asked .f fun cdv A outer s H E hr hgd tk hp => ?_
  exact (ss_cons (s_set sc__law_asked.nd (e_callF (ok__law_house Z) hr hgd tk (a_cons (e_v 0) (a_cons e_int (a_cons e_int a_nil)))))
  (ss_cons (s_set sc__law_asked.nd (e_callF (ok__law_few Z) hr hgd tk (a_cons (e_v 0) (a_cons (e_ix rfl (hu1 hr) (e_v 1) e_int) (a_cons e_int a_nil)))))
  (ss_cons (s_set sc__law_asked.nd (e_callF (ok__law_walked Z) hr hgd tk (a_cons (e_v 0) (a_cons (e_v 1) (a_cons (e_v 2) (a_cons (e_callF (ok__law_next Z) hr hgd tk (a_cons (e_v 0) (a_cons e_int a_nil))) a_nil))))))
  (ss_cons (s_if (t_cmp (op_eqA (hu64 hr)) snd_eqA (e_callF (ok__law_next Z) hr hgd tk (a_cons (e_v 0) (a_cons e_int a_nil))) e_int (nomark _)) (ss_one (s_set sc__law_asked.nd (e_callF (ok__law_few Z) hr hgd tk (a_cons (e_v 0) (a_cons (e_bf call_lenA snd_len (by decide +kernel) (Z.free 2) (a_cons (e_ix rfl (hu1 hr) (e_v 1) e_int) a_nil)) (a_cons e_int a_nil)))))) ss_nil)
  (ss_one (s_ret (e_tup (a_cons (e_v 1) (a_cons (e_v 2) (a_cons (e_v 3) a_nil))))))))))
abbrev s_is_integer : Stmt := top 11
theorem sc_is_integer : FnScope ["thing"] ["thing"] (defScope s_is_integer) := ⟨rfl, rfl, rfl, by decide +kernel, rfl, by decide +kernel, by decide +kernel⟩
theorem bind_is_integer : BindOk "is_integer" s_is_integer ["thing"] := fun _ _ _ _ _ _ us hl => match us, hl with | [_], _ => rfl
theorem ok_is_integer {P : Program} {w : World} {base : Heap} {K : PySem.W.Frag} {mg : Str → Option Value} (Z : Cnd fa fn ex K mg) : FnAt P w K mg base (tab K) 1 "is_integer" s_is_integer ["thing"] m_is_integer := by
  refine fnAt_of (body := b_is_integer) Z sc_is_integer 16 7 bind_is_integer .f fun cdv A outer s H E hr hgd tk hp => ?_
  exact (ss_one (s_ret (e_and (e_isi (t := .int) (Z.free 13) (Z.free 4) (by decide +kernel) rfl (e_v 0)) (e_one (e_not (e_isi (t := .bool) (Z.free 13) (Z.free 15) (by decide +kernel) rfl (e_v 0)))))))
abbrev s_is_whole : Stmt := top 12
theorem sc_is_whole : FnScope ["thing", "least", "most"] ["thing", "least", "most"] (defScope s_is_whole) := ⟨rfl, rfl, rfl, by decide +kernel, rfl, by decide +kernel, by decide +kernel⟩
theorem bind_is_whole : BindOk "is_whole" s_is_whole ["thing", "least", "most"] := fun _ _ _ _ _ _ us hl => match us, hl with | [_, _, _], _ => rfl
theorem ok_is_whole {P : Program} {w : World} {base : Heap} {K : PySem.W.Frag} {mg : Str → Option Value} (Z : Cnd fa fn ex K mg) : FnAt P w K mg base (tab K) 2 "is_whole" s_is_whole ["thing", "least", "most"] m_is_whole := by
  refine fnAt_of (body := b_is_whole) Z sc_is_whole 17 8 bind_is_whole .f fun cdv A outer s H E hr hgd tk hp => ?_
  exact (ss_one (s_ret (e_and (e_callF (ok_is_integer Z) hr hgd tk (a_cons (e_v 0) a_nil)) (e_one (e_chain op_le snd_le op_le snd_le (e_v 1) (e_v 0) (e_v 2))))))
abbrev s_numbers_fault : Stmt := top 15
theorem sc_numbers_fault : FnScope ["thing", "many", "place", "number"] ["thing", "many"] (defScope s_numbers_fault) := ⟨rfl, rfl, rfl, by decide +kernel, rfl, by decide +kernel, by decide +kernel⟩
theorem bind_numbers_fault : BindOk "numbers_fault" s_numbers_fault ["thing", "many"] := fun _ _ _ _ _ _ us hl => match us, hl with | [_, _], _ => rfl
theorem ok_numbers_fault {P : Program} {w : World} {base : Heap} {K : PySem.W.Frag} {mg : Str → Option Value} (Z : Cnd fa fn ex K mg) : FnAt P w K mg base (tab K) 3 "numbers_fault" s_numbers_fault ["thing", "many"] m_numbers_fault := by
  refine fnAt_of (body := b_numbers_fault) Z sc_numbers_fault 19 9 bind_numbers_fault .f fun cdv A outer s H E hr hgd tk hp => ?_
  exact (ss_cons (s_if (PW.pt (w_or (t_not (t_val (e_isi (t := .tuple) (Z.free 13) (Z.free 7) (by decide +kernel) rfl (e_v 0)))) (w_or1 (t_cmp (op_neA (hu64 hr)) snd_neA (e_bf call_lenA snd_len (by decide +kernel) (Z.free 2) (a_cons (e_v 0) a_nil)) (e_v 1) (nomark _))))) (ss_one (s_ret (e_lst (a_cons e_non a_nil)))) ss_nil)
  (ss_cons (s_for hp rfl (i_enum rfl (Z.free 14) (a_cons (e_v 0) a_nil)) (g_tup rfl rfl (gs_cons (g_name sc_numbers_fault.nd) (gs_cons (g_name sc_numbers_fault.nd) gs_nil))) (ss_one (s_if (t_not (t_val (e_callF (ok_is_whole Z) hr hgd tk (a_cons (e_v 3) (a_cons e_int (a_cons (e_gintE (Z.int 18)) a_nil)))))) (ss_one (s_ret (e_lst (a_cons (e_v 2) a_nil)))) ss_nil)))
  (ss_one (s_ret (e_lst a_nil)))))
abbrev s_BadHouse_init : Stmt := inCls (top 2) 0
theorem sc_BadHouse_init : FnScope ["self", "part"] ["self", "part"] (defScope s_BadHouse_init) := ⟨rfl, rfl, rfl, by decide +kernel, rfl, by decide +kernel, by decide +kernel⟩
theorem ok_BadHouse_init {P : Program} {w : World} {base : Heap} {K : PySem.W.Frag} {mg : Str → Option Value} (Z : Cnd fa fn ex K mg) : InitAt P w K mg base "BadHouse" (He.ga K "BadHouse") ["part"] := by
  have I : InitF K "BadHouse" "GateError" ["part"] := initF_of (exs_0 Z.m)
  obtain ⟨fd, F⟩ := Z.c.def_ 10 (d := d_BadHouse_init) rfl
  refine ⟨_, fd, ["self", "part"], Z.glo 20, I.oex, I.fi, I.ty, F.bindsN (fun _ _ _ _ _ _ us hl => match us, hl with | [_, _], _ => rfl), rfl, F.ok sc_BadHouse_init (fun vs H Q E ⟨a, ys, e, hl, _⟩ => by rw [e, List.length_cons, hl]; rfl) fun cdv A outer s H vs Q E hr h => ⟨_, ?_, init1_read (z := "no house") I.oex (I.fs _ (by simp)) h⟩⟩
  exact pss_cons (ps_expr (pe_oinit (Z.glo 21) I.rd I.vi (pa_cons (pv 0) (pa_cons pe_str pa_nil)))) (pss_one (ps_ost (pv 0) (pv 1)))
abbrev s_is_gate : Stmt := top 13
theorem sc_is_gate : FnScope ["rooms", "thing", "place"] ["rooms", "thing"] (defScope s_is_gate) := ⟨rfl, rfl, rfl, by decide +kernel, rfl, by decide +kernel, by decide +kernel⟩
theorem bind_is_gate : BindOk "is_gate" s_is_gate ["rooms", "thing"] := fun _ _ _ _ _ _ us hl => match us, hl with | [_, _], _ => rfl
theorem ok_is_gate {P : Program} {w : World} {base : Heap} {K : PySem.W.Frag} {mg : Str → Option Value} (Z : Cnd fa fn ex K mg) : FnAt P w K mg base (tab K) 3 "is_gate" s_is_gate ["rooms", "thing"] m_is_gate := by
  refine fnAt_of (body := b_is_gate) Z sc_is_gate 26 11 bind_is_gate .f fun cdv A outer s H E hr hgd tk hp => ?_
  exact (ss_cons (s_if (PW.pt (w_or (t_not (t_val (e_isi (t := .tuple) (Z.free 13) (Z.free 7) (by decide +kernel) rfl (e_v 1)))) (w_or1 (t_cmp (op_neA (hu64 hr)) snd_neA (e_bf call_lenA snd_len (by decide +kernel) (Z.free 2) (a_cons (e_v 1) a_nil)) e_int (nomark _))))) (ss_one (s_ret e_bl)) ss_nil)
  (ss_one (s_ret (e_and (e_bf (cr_all rfl) snd_all (by decide +kernel) (Z.free 25) (a_cons (e_lc (new := false) [("place", 2)] rfl sc_is_gate.nd (i_seq rfl (e_v 1)) (blkOk_by (by kernel_rfl)) (fun _ _ _ _ _ => (gw_name sc_is_gate.nd)) (fun _ _ _ _ _ => ts_nil) (fun _ _ _ _ _ => (e_callF (ok_is_whole Z) hr hgd takesB (a_cons (e_v 2) (a_cons (e_gintE (Z.int 24)) (a_cons (e_sub (e_v 0) e_int) a_nil)))))) a_nil)) (e_one (e_cmp (op_neA (hu64 hr)) snd_neA (e_ix rfl (hu1 hr) (e_v 1) e_int) (e_ix rfl (hu1 hr) (e_v 1) e_int) (nomark _)))))))
abbrev s_need_house : Stmt := top 14
theorem sc_need_house : FnScope ["thing", "rooms", "gates", "gate", "one", "other"] ["thing"] (defScope s_need_house) := ⟨rfl, rfl, rfl, by decide +kernel, rfl, by decide +kernel, by decide +kernel⟩
theorem bind_need_house : BindOk "need_house" s_need_house ["thing"] := fun _ _ _ _ _ _ us hl => match us, hl with | [_], _ => rfl
theorem ok_need_house {P : Program} {w : World} {base : Heap} {K : PySem.W.Frag} {mg : Str → Option Value} (Z : Cnd fa fn ex K mg) : FnAt P w K mg base (tab K) 4 "need_house" s_need_house ["thing"] m_need_house := by
  refine fnAt_of (body := b_need_house) Z sc_need_house 28 12 bind_need_house .f fun cdv A outer s H E hr hgd tk hp => ?_
  exact (ss_cons (s_if (PW.pt (w_or (t_not (t_val (e_isi (t := .tuple) (Z.free 13) (Z.free 7) (by decide +kernel) rfl (e_v 0)))) (w_or1 (t_cmp (op_neA (hu64 hr)) snd_neA (e_bf call_lenA snd_len (by decide +kernel) (Z.free 2) (a_cons (e_v 0) a_nil)) e_int (nomark _))))) (ss_one (s_raise (T := tab K) (c := 1) (k := 0) (ok_BadHouse_init Z) (by decide) rfl (hr.mono (by decide)) tk (a_cons e_str a_nil))) ss_nil)
  (ss_cons (s_asg (e_v 0) (g_tup rfl rfl (gs_cons (g_name sc_need_house.nd) (gs_cons (g_name sc_need_house.nd) gs_nil))))
  (ss_cons (s_if (t_not (t_val (e_callF (ok_is_whole Z) hr hgd tk (a_cons (e_v 1) (a_cons e_int (a_cons (e_gintE (Z.int 22)) a_nil)))))) (ss_one (s_raise (T := tab K) (c := 1) (k := 0) (ok_BadHouse_init Z) (by decide) rfl (hr.mono (by decide)) tk (a_cons e_str a_nil))) ss_nil)
  (ss_cons (s_if (PW.pt (w_or (t_not (t_val (e_isi (t := .tuple) (Z.free 13) (Z.free 7) (by decide +kernel) rfl (e_v 2)))) (w_or (t_cmp op_gt snd_gt (e_bf call_lenA snd_len (by decide +kernel) (Z.free 2) (a_cons (e_v 2) a_nil)) (e_gintE (Z.int 23)) (nomark _)) (w_or1 (t_not (t_val (e_bf (cr_all rfl) snd_all (by decide +kernel) (Z.free 25) (a_cons (e_lc (new := false) [("gate", 3)] rfl sc_need_house.nd (i_seq rfl (e_v 2)) (blkOk_by (by kernel_rfl)) (fun _ _ _ _ _ => (gw_name sc_need_house.nd)) (fun _ _ _ _ _ => ts_nil) (fun _ _ _ _ _ => (e_callF (ok_is_gate Z) hr hgd takesB (a_cons (e_v 1) (a_cons (e_v 3) a_nil))))) a_nil)))))))) (ss_one (s_raise (T := tab K) (c := 1) (k := 0) (ok_BadHouse_init Z) (by decide) rfl (hr.mono (by decide)) tk (a_cons e_str a_nil))) ss_nil)
  (ss_cons (s_if (t_not (t_val (e_bf (cr_all rfl) snd_all (by decide +kernel) (Z.free 25) (a_cons (e_lc (new := false) [("one", 4), ("other", 5)] rfl sc_need_house.nd (i_zip rfl (Z.free 27) (a_cons (e_v 2) (a_cons (e_slice rfl (e_v 2) (o_some e_int) o_none) a_nil))) (blkOk_by (by kernel_rfl)) (fun _ _ _ _ _ => (gw_tup rfl rfl (gws_cons (gw_name sc_need_house.nd) (gws_cons (gw_name sc_need_house.nd) gws_nil)))) (fun _ _ _ _ _ => ts_nil) (fun _ _ _ _ _ => (e_cmp (op_ltA (hu0 hr)) snd_ltT (e_v 4) (e_v 5) (nomark _)))) a_nil)))) (ss_one (s_raise (T := tab K) (c := 1) (k := 0) (ok_BadHouse_init Z) (by decide) rfl (hr.mono (by decide)) tk (a_cons e_str a_nil))) ss_nil)
  (ss_one (s_ret (e_v 0))))))))
abbrev s_BadHeads_init : Stmt := inCls (top 3) 0
theorem sc_BadHeads_init : FnScope ["self", "number"] ["self", "number"] (defScope s_BadHeads_init) := ⟨rfl, rfl, rfl, by decide +kernel, rfl, by decide +kernel, by decide +kernel⟩
theorem ok_BadHeads_init {P : Program} {w : World} {base : Heap} {K : PySem.W.Frag} {mg : Str → Option Value} (Z : Cnd fa fn ex K mg) : InitAt P w K mg base "BadHeads" (He.ga K "BadHeads") ["number"] := by
  have I : InitF K "BadHeads" "GateError" ["number"] := initF_of (exs_1 Z.m)
  obtain ⟨fd, F⟩ := Z.c.def_ 13 (d := d_BadHeads_init) rfl
  refine ⟨_, fd, ["self", "number"], Z.glo 29, I.oex, I.fi, I.ty, F.bindsN (fun _ _ _ _ _ _ us hl => match us, hl with | [_, _], _ => rfl), rfl, F.ok sc_BadHeads_init (fun vs H Q E ⟨a, ys, e, hl, _⟩ => by rw [e, List.length_cons, hl]; rfl) fun cdv A outer s H vs Q E hr h => ⟨_, ?_, init1_read (z := "no heads") I.oex (I.fs _ (by simp)) h⟩⟩
  exact pss_cons (ps_expr (pe_oinit (Z.glo 21) I.rd I.vi (pa_cons (pv 0) (pa_cons pe_str pa_nil)))) (pss_one (ps_ost (pv 0) (pv 1)))
abbrev s_need_heads : Stmt := top 16
theorem sc_need_heads : FnScope ["house", "thing", "number"] ["house", "thing"] (defScope s_need_heads) := ⟨rfl, rfl, rfl, by decide +kernel, rfl, by decide +kernel, by decide +kernel⟩
theorem bind_need_heads : BindOk "need_heads" s_need_heads ["house", "thing"] := fun _ _ _ _ _ _ us hl => match us, hl with | [_, _], _ => rfl
theorem ok_need_heads {P : Program} {w : World} {base : Heap} {K : PySem.W.Frag} {mg : Str → Option Value} (Z : Cnd fa fn ex K mg) : FnAt P w K mg base (tab K) 5 "need_heads" s_need_heads ["house", "thing"] m_need_heads := by
  refine fnAt_of (body := b_need_heads) Z sc_need_heads 30 14 bind_need_heads .f fun cdv A outer s H E hr hgd tk hp => ?_
  exact (ss_cons (s_for hp rfl (i_seq rfl (e_callF (ok_numbers_fault Z) hr hgd tk (a_cons (e_v 1) (a_cons (e_ix rfl (hu1 hr) (e_callF (ok_need_house Z) hr hgd tk (a_cons (e_v 0) a_nil)) e_int) a_nil)))) (g_name sc_need_heads.nd) (ss_one (s_raise (T := tab K) (c := 2) (k := 0) (ok_BadHeads_init Z) (by decide) rfl (hr.mono (by decide)) tk (a_cons (e_v 2) a_nil))))
  (ss_one (s_ret (e_v 1))))
abbrev s_BadCounts_init : Stmt := inCls (top 4) 0
theorem sc_BadCounts_init : FnScope ["self", "number"] ["self", "number"] (defScope s_BadCounts_init) := ⟨rfl, rfl, rfl, by decide +kernel, rfl, by decide +kernel, by decide +kernel⟩
theorem ok_BadCounts_init {P : Program} {w : World} {base : Heap} {K : PySem.W.Frag} {mg : Str → Option Value} (Z : Cnd fa fn ex K mg) : InitAt P w K mg base "BadCounts" (He.ga K "BadCounts") ["number"] := by
  have I : InitF K "BadCounts" "GateError" ["number"] := initF_of (exs_2 Z.m)
  obtain ⟨fd, F⟩ := Z.c.def_ 15 (d := d_BadCounts_init) rfl
  refine ⟨_, fd, ["self", "number"], Z.glo 31, I.oex, I.fi, I.ty, F.bindsN (fun _ _ _ _ _ _ us hl => match us, hl with | [_, _], _ => rfl), rfl, F.ok sc_BadCounts_init (fun vs H Q E ⟨a, ys, e, hl, _⟩ => by rw [e, List.length_cons, hl]; rfl) fun cdv A outer s H vs Q E hr h => ⟨_, ?_, init1_read (z := "no counts") I.oex (I.fs _ (by simp)) h⟩⟩
  exact pss_cons (ps_expr (pe_oinit (Z.glo 21) I.rd I.vi (pa_cons (pv 0) (pa_cons pe_str pa_nil)))) (pss_one (ps_ost (pv 0) (pv 1)))
abbrev s_need_counts : Stmt := top 17
theorem sc_need_counts : FnScope ["house", "thing", "number"] ["house", "thing"] (defScope s_need_counts) := ⟨rfl, rfl, rfl, by decide +kernel, rfl, by decide +kernel, by decide +kernel⟩
theorem bind_need_counts : BindOk "need_counts" s_need_counts ["house", "thing"] := fun _ _ _ _ _ _ us hl => match us, hl with | [_, _], _ => rfl
theorem ok_need_counts {P : Program} {w : World} {base : Heap} {K : PySem.W.Frag} {mg : Str → Option Value} (Z : Cnd fa fn ex K mg) : FnAt P w K mg base (tab K) 5 "need_counts" s_need_counts ["house", "thing"] m_need_counts := by
  refine fnAt_of (body := b_need_counts) Z sc_need_counts 32 16 bind_need_counts .f fun cdv A outer s H E hr hgd tk hp => ?_
  exact (ss_cons (s_for hp rfl (i_seq rfl (e_callF (ok_numbers_fault Z) hr hgd tk (a_cons (e_v 1) (a_cons (e_bf call_lenA snd_len (by decide +kernel) (Z.free 2) (a_cons (e_ix rfl (hu1 hr) (e_callF (ok_need_house Z) hr hgd tk (a_cons (e_v 0) a_nil)) e_int) a_nil)) a_nil)))) (g_name sc_need_counts.nd) (ss_one (s_raise (T := tab K) (c := 3) (k := 0) (ok_BadCounts_init Z) (by decide) rfl (hr.mono (by decide)) tk (a_cons (e_v 2) a_nil))))
  (ss_one (s_ret (e_v 1))))
abbrev s_need_asked : Stmt := top 28
theorem sc_need_asked : FnScope ["house", "heads", "counts"] ["house", "heads", "counts"] (defScope s_need_asked) := ⟨rfl, rfl, rfl, by decide +kernel, rfl, by decide +kernel, by decide +kernel⟩
theorem bind_need_asked : BindOk "need_asked" s_need_asked ["house", "heads", "counts"] := fun _ _ _ _ _ _ us hl => match us, hl with | [_, _, _], _ => rfl
theorem ok_need_asked {P : Program} {w : World} {base : Heap} {K : PySem.W.Frag} {mg : Str → Option Value} (Z : Cnd fa fn ex K mg) : FnAt P w K mg base (tab K) 6 "need_asked" s_need_asked ["house", "heads", "counts"] m_need_asked := by
  refine fnAt_of (body := b_need_asked) Z sc_need_asked 33 17 bind_need_asked .f fun cdv A outer s H E hr hgd tk hp => ?_
  exact (ss_cons (s_expr (e_callF (ok_need_heads Z) hr hgd tk (a_cons (e_v 0) (a_cons (e_v 1) a_nil))))
  (ss_one (s_expr (e_callF (ok_need_counts Z) hr hgd tk (a_cons (e_v 0) (a_cons (e_v 2) a_nil))))))
abbrev s_to_place : Stmt := top 19
theorem sc_to_place : FnScope ["house", "counts", "place", "gate", "count"] ["house", "counts", "place"] (defScope s_to_place) := ⟨rfl, rfl, rfl, by decide +kernel, rfl, by decide +kernel, by decide +kernel⟩
theorem bind_to_place : BindOk "to_place" s_to_place ["house", "counts", "place"] := fun _ _ _ _ _ _ us hl => match us, hl with | [_, _, _], _ => rfl
theorem ok_to_place {P : Program} {w : World} {base : Heap} {K : PySem.W.Frag} {mg : Str → Option Value} (Z : Cnd fa fn ex K mg) : FnAt P w K mg base (tab K) 1 "to_place" s_to_place ["house", "counts", "place"] m_to_place := by
  refine fnAt_of (body := b_to_place) Z sc_to_place 35 18 bind_to_place .f fun cdv A outer s H E hr hgd tk hp => ?_
  exact (ss_one (s_ret (e_bf (cr_sum rfl) snd_sum (by decide +kernel) (Z.free 34) (a_cons (e_lc (new := false) [("gate", 3), ("count", 4)] rfl sc_to_place.nd (i_zip rfl (Z.free 27) (a_cons (e_ix rfl (hu1 hr) (e_v 0) e_int) (a_cons (e_v 1) a_nil))) (blkOk_by (by kernel_rfl)) (fun _ _ _ _ _ => (gw_tup rfl rfl (gws_cons (gw_name sc_to_place.nd) (gws_cons (gw_name sc_to_place.nd) gws_nil)))) (fun _ _ _ _ _ => (ts_one (t_cmp (op_eqA (hu64 hr)) snd_eqA (e_ix rfl (hu1 hr) (e_v 3) e_int) (e_v 2) (nomark _)))) (fun _ _ _ _ _ => (e_v 4))) a_nil))))
abbrev s_from_place : Stmt := top 18
theorem sc_from_place : FnScope ["house", "counts", "place", "gate", "count"] ["house", "counts", "place"] (defScope s_from_place) := ⟨rfl, rfl, rfl, by decide +kernel, rfl, by decide +kernel, by decide +kernel⟩
theorem bind_from_place : BindOk "from_place" s_from_place ["house", "counts", "place"] := fun _ _ _ _ _ _ us hl => match us, hl with | [_, _, _], _ => rfl
theorem ok_from_place {P : Program} {w : World} {base : Heap} {K : PySem.W.Frag} {mg : Str → Option Value} (Z : Cnd fa fn ex K mg) : FnAt P w K mg base (tab K) 1 "from_place" s_from_place ["house", "counts", "place"] m_from_place := by
  refine fnAt_of (body := b_from_place) Z sc_from_place 36 19 bind_from_place .f fun cdv A outer s H E hr hgd tk hp => ?_
  exact (ss_one (s_ret (e_bf (cr_sum rfl) snd_sum (by decide +kernel) (Z.free 34) (a_cons (e_lc (new := false) [("gate", 3), ("count", 4)] rfl sc_from_place.nd (i_zip rfl (Z.free 27) (a_cons (e_ix rfl (hu1 hr) (e_v 0) e_int) (a_cons (e_v 1) a_nil))) (blkOk_by (by kernel_rfl)) (fun _ _ _ _ _ => (gw_tup rfl rfl (gws_cons (gw_name sc_from_place.nd) (gws_cons (gw_name sc_from_place.nd) gws_nil)))) (fun _ _ _ _ _ => (ts_one (t_cmp (op_eqA (hu64 hr)) snd_eqA (e_ix rfl (hu1 hr) (e_v 3) e_int) (e_v 2) (nomark _)))) (fun _ _ _ _ _ => (e_v 4))) a_nil))))
abbrev s_balances_of : Stmt := top 20
theorem sc_balances_of : FnScope ["house", "heads", "counts", "found", "room", "many"] ["house", "heads", "counts"] (defScope s_balances_of) := ⟨rfl, rfl, rfl, by decide +kernel, rfl, by decide +kernel, by decide +kernel⟩
theorem bind_balances_of : BindOk "balances_of" s_balances_of ["house", "heads", "counts"] := fun _ _ _ _ _ _ us hl => match us, hl with | [_, _, _], _ => rfl
theorem ok_balances_of {P : Program} {w : World} {base : Heap} {K : PySem.W.Frag} {mg : Str → Option Value} (Z : Cnd fa fn ex K mg) : FnAt P w K mg base (tab K) 2 "balances_of" s_balances_of ["house", "heads", "counts"] m_balances_of := by
  refine fnAt_of (body := b_balances_of) Z sc_balances_of 37 20 bind_balances_of .f fun cdv A outer s H E hr hgd tk hp => ?_
  exact (ss_cons (s_set sc_balances_of.nd (e_new a_nil))
  (ss_cons (s_for hp rfl (i_enum rfl (Z.free 14) (a_cons (e_v 1) a_nil)) (g_tup rfl rfl (gs_cons (g_name sc_balances_of.nd) (gs_cons (g_name sc_balances_of.nd) gs_nil))) (ss_one (s_expr (e_append (e_v 3) (a_cons (e_sub (e_op op_addA snd_add (e_v 5) (e_callF (ok_to_place Z) hr hgd tk (a_cons (e_v 0) (a_cons (e_v 2) (a_cons (e_v 4) a_nil))))) (e_callF (ok_from_place Z) hr hgd tk (a_cons (e_v 0) (a_cons (e_v 2) (a_cons (e_v 4) a_nil))))) a_nil)))))
  (ss_one (s_ret (e_bt call_tuple_of snd_tuple (by decide +kernel) (Z.free 7) (a_cons (e_v 3) a_nil))))))
abbrev s_short_rooms : Stmt := top 25
theorem sc_short_rooms : FnScope ["house", "heads", "counts", "room", "many"] ["house", "heads", "counts"] (defScope s_short_rooms) := ⟨rfl, rfl, rfl, by decide +kernel, rfl, by decide +kernel, by decide +kernel⟩
theorem bind_short_rooms : BindOk "short_rooms" s_short_rooms ["house", "heads", "counts"] := fun _ _ _ _ _ _ us hl => match us, hl with | [_, _, _], _ => rfl
theorem ok_short_rooms {P : Program} {w : World} {base : Heap} {K : PySem.W.Frag} {mg : Str → Option Value} (Z : Cnd fa fn ex K mg) : FnAt P w K mg base (tab K) 3 "short_rooms" s_short_rooms ["house", "heads", "counts"] m_short_rooms := by
  refine fnAt_of (body := b_short_rooms) Z sc_short_rooms 38 21 bind_short_rooms .f fun cdv A outer s H E hr hgd tk hp => ?_
  exact (ss_one (s_ret (e_lc (new := false) [("room", 3), ("many", 4)] rfl sc_short_rooms.nd (i_enum rfl (Z.free 14) (a_cons (e_callF (ok_balances_of Z) hr hgd tk (a_cons (e_v 0) (a_cons (e_v 1) (a_cons (e_v 2) a_nil)))) a_nil)) (blkOk_by (by kernel_rfl)) (fun _ _ _ _ _ => (gw_tup rfl rfl (gws_cons (gw_name sc_short_rooms.nd) (gws_cons (gw_name sc_short_rooms.nd) gws_nil)))) (fun _ _ _ _ _ => (ts_one (t_cmp (op_ltA (hu0 hr)) snd_ltT (e_v 4) e_int (nomark _)))) (fun _ _ _ _ _ => (e_v 3)))))
abbrev s_parts_of : Stmt := top 21
theorem sc_parts_of : FnScope ["house", "counts", "found", "gate", "count", "near", "part", "fresh", "place"] ["house", "counts"] (defScope s_parts_of) := ⟨rfl, rfl, rfl, by decide +kernel, rfl, by decide +kernel, by decide +kernel⟩
theorem bind_parts_of : BindOk "parts_of" s_parts_of ["house", "counts"] := fun _ _ _ _ _ _ us hl => match us, hl with | [_, _], _ => rfl
theorem ok_parts_of {P : Program} {w : World} {base : Heap} {K : PySem.W.Frag} {mg : Str → Option Value} (Z : Cnd fa fn ex K mg) : FnAt P w K mg base (tab K) 1 "parts_of" s_parts_of ["house", "counts"] m_parts_of := by
  refine fnAt_of (body := b_parts_of) Z sc_parts_of 39 22 bind_parts_of .f fun cdv A outer s H E hr hgd tk hp => ?_
  exact (ss_cons (s_set sc_parts_of.nd (e_lst a_nil))
  (ss_cons (s_for hp rfl (i_zip rfl (Z.free 27) (a_cons (e_ix rfl (hu1 hr) (e_v 0) e_int) (a_cons (e_v 1) a_nil))) (g_tup rfl rfl (gs_cons (g_name sc_parts_of.nd) (gs_cons (g_name sc_parts_of.nd) gs_nil))) (ss_one (s_if (t_cmp op_gt snd_gt (e_v 4) e_int (nomark _)) (ss_cons (s_set sc_parts_of.nd (e_lc (new := false) [("part", 6)] rfl sc_parts_of.nd (i_seq rfl (e_v 2)) (blkOk_by (by kernel_rfl)) (fun _ _ _ _ _ => (gw_name sc_parts_of.nd)) (fun _ _ _ _ _ => (ts_one (PW.pt (w_or (t_cmp (op_inA (hu65 hr)) snd_in (e_ix rfl (hu1 hr) (e_v 3) e_int) (e_v 6) (by rfl)) (w_or1 (t_cmp (op_inA (hu65 hr)) snd_in (e_ix rfl (hu1 hr) (e_v 3) e_int) (e_v 6) (by rfl))))))) (fun _ _ _ _ _ => (e_v 6))))
  (ss_cons (s_set sc_parts_of.nd (e_bf call_sortB snd_sortedB (by decide +kernel) (Z.free 6) (a_cons (e_bt (call_listA rfl) snd_listA (by decide +kernel) (Z.free 5) (a_cons (e_dc2 (vj := [8]) [("part", 6), ("place", 8)] rfl sc_parts_of.nd (i_seq rfl (e_op op_addA snd_add (e_v 5) (e_lst (a_cons (e_v 3) a_nil)))) (blkOk_by (by kernel_rfl)) (by decide) (fun _ _ _ _ _ => (gw_name sc_parts_of.nd)) (fun _ _ _ _ _ => ts_nil) (fun _ _ _ _ _ => (i_seq rfl (e_v 6))) (fun _ _ _ _ _ => (gw_name sc_parts_of.nd)) (fun _ _ _ _ _ => ts_nil) (fun _ _ _ _ _ => (e_v 8)) (fun _ _ _ _ _ => e_bl)) a_nil)) a_nil)))
  (ss_one (s_set sc_parts_of.nd (e_op op_addA snd_add (e_lc (new := false) [("part", 6)] rfl sc_parts_of.nd (i_seq rfl (e_v 2)) (blkOk_by (by kernel_rfl)) (fun _ _ _ _ _ => (gw_name sc_parts_of.nd)) (fun _ _ _ _ _ => (ts_one (t_cmp (op_notInA (hu65 hr)) snd_notIn (e_v 6) (e_v 5) (by rfl)))) (fun _ _ _ _ _ => (e_v 6))) (e_lst (a_cons (e_v 7) a_nil))))))) ss_nil)))
  (ss_one (s_ret (e_bf call_sortB snd_sortedB (by decide +kernel) (Z.free 6) (a_cons (e_lc (new := false) [("part", 6)] rfl sc_parts_of.nd (i_seq rfl (e_v 2)) (blkOk_by (by kernel_rfl)) (fun _ _ _ _ _ => (gw_name sc_parts_of.nd)) (fun _ _ _ _ _ => ts_nil) (fun _ _ _ _ _ => (e_bt call_tuple_of snd_tuple (by decide +kernel) (Z.free 7) (a_cons (e_v 6) a_nil)))) a_nil))))))
abbrev s_lonely_parts : Stmt := top 26
theorem sc_lonely_parts : FnScope ["house", "heads", "counts", "found", "part", "room"] ["house", "heads", "counts"] (defScope s_lonely_parts) := ⟨rfl, rfl, rfl, by decide +kernel, rfl, by decide +kernel, by decide +kernel⟩
theorem bind_lonely_parts : BindOk "lonely_parts" s_lonely_parts ["house", "heads", "counts"] := fun _ _ _ _ _ _ us hl => match us, hl with | [_, _, _], _ => rfl
theorem ok_lonely_parts {P : Program} {w : World} {base : Heap} {K : PySem.W.Frag} {mg : Str → Option Value} (Z : Cnd fa fn ex K mg) : FnAt P w K mg base (tab K) 2 "lonely_parts" s_lonely_parts ["house", "heads", "counts"] m_lonely_parts := by
  refine fnAt_of (body := b_lonely_parts) Z sc_lonely_parts 40 23 bind_lonely_parts .f fun cdv A outer s H E hr hgd tk hp => ?_
  exact (ss_cons (s_setLc (new := false) [("part", 4)] rfl sc_lonely_parts.nd (i_seq rfl (e_callF (ok_parts_of Z) hr hgd tk (a_cons (e_v 0) (a_cons (e_v 2) a_nil)))) (blkOk_by (by kernel_rfl)) (fun _ _ _ _ _ => (gw_name sc_lonely_parts.nd)) (fun _ _ _ _ _ => (ts_one (t_cmp (op_notInA (hu65 hr)) snd_notIn (e_gintE (Z.int 24)) (e_v 4) (by rfl)))) (fun _ _ _ _ _ => (e_v 4)) (sw_true rfl rfl rfl rfl))
  (ss_one (s_ret (e_lc (new := false) [("part", 4)] rfl sc_lonely_parts.nd (i_seq rfl (e_v 3)) (blkOk_by (by kernel_rfl)) (fun _ _ _ _ _ => (gw_name sc_lonely_parts.nd)) (fun _ _ _ _ _ => (ts_one (t_val (e_bf (cr_all rfl) snd_all (by decide +kernel) (Z.free 25) (a_cons (e_lc (new := false) [("room", 5)] rfl sc_lonely_parts.nd (i_seq rfl (e_v 4)) (blkOk_by (by kernel_rfl)) (fun _ _ _ _ _ => (gw_name sc_lonely_parts.nd)) (fun _ _ _ _ _ => ts_nil) (fun _ _ _ _ _ => (e_cmp (op_eqA (hu64 hr)) snd_eqA (e_ix rfl (hu1 hr) (e_v 1) (e_v 5)) e_int (nomark _)))) a_nil))))) (fun _ _ _ _ _ => (e_v 4))))))
abbrev s_is_possible_of : Stmt := top 27
theorem sc_is_possible_of : FnScope ["house", "heads", "counts"] ["house", "heads", "counts"] (defScope s_is_possible_of) := ⟨rfl, rfl, rfl, by decide +kernel, rfl, by decide +kernel, by decide +kernel⟩
theorem bind_is_possible_of : BindOk "is_possible_of" s_is_possible_of ["house", "heads", "counts"] := fun _ _ _ _ _ _ us hl => match us, hl with | [_, _, _], _ => rfl
theorem ok_is_possible_of {P : Program} {w : World} {base : Heap} {K : PySem.W.Frag} {mg : Str → Option Value} (Z : Cnd fa fn ex K mg) : FnAt P w K mg base (tab K) 4 "is_possible_of" s_is_possible_of ["house", "heads", "counts"] m_is_possible_of := by
  refine fnAt_of (body := b_is_possible_of) Z sc_is_possible_of 41 24 bind_is_possible_of .f fun cdv A outer s H E hr hgd tk hp => ?_
  exact (ss_one (s_ret (e_and (e_cmp (op_eqA (hu64 hr)) snd_eqA (e_callF (ok_short_rooms Z) hr hgd tk (a_cons (e_v 0) (a_cons (e_v 1) (a_cons (e_v 2) a_nil)))) (e_lst a_nil) (nomark _)) (e_one (e_cmp (op_eqA (hu64 hr)) snd_eqA (e_callF (ok_lonely_parts Z) hr hgd tk (a_cons (e_v 0) (a_cons (e_v 1) (a_cons (e_v 2) a_nil)))) (e_lst a_nil) (nomark _))))))
abbrev s_is_possible : Stmt := top 30
theorem sc_is_possible : FnScope ["house", "heads", "counts"] ["house", "heads", "counts"] (defScope s_is_possible) := ⟨rfl, rfl, rfl, by decide +kernel, rfl, by decide +kernel, by decide +kernel⟩
theorem bind_is_possible : BindOk "is_possible" s_is_possible ["house", "heads", "counts"] := fun _ _ _ _ _ _ us hl => match us, hl with | [_, _, _], _ => rfl
theorem ok_is_possible {P : Program} {w : World} {base : Heap} {K : PySem.W.Frag} {mg : Str → Option Value} (Z : Cnd fa fn ex K mg) : FnAt P w K mg base (tab K) 7 "is_possible" s_is_possible ["house", "heads", "counts"] m_is_possible := by
  refine fnAt_of (body := b_is_possible) Z sc_is_possible 42 25 bind_is_possible .f fun cdv A outer s H E hr hgd tk hp => ?_
  exact (ss_cons (s_expr (e_callF (ok_need_asked Z) hr hgd tk (a_cons (e_v 0) (a_cons (e_v 1) (a_cons (e_v 2) a_nil)))))
  (ss_one (s_ret (e_callF (ok_is_possible_of Z) hr hgd tk (a_cons (e_v 0) (a_cons (e_v 1) (a_cons (e_v 2) a_nil)))))))
abbrev s_NoOrder_init : Stmt := inCls (top 5) 0
theorem sc_NoOrder_init : FnScope ["self", "word"] ["self", "word"] (defScope s_NoOrder_init) := ⟨rfl, rfl, rfl, by decide +kernel, rfl, by decide +kernel, by decide +kernel⟩
theorem ok_NoOrder_init {P : Program} {w : World} {base : Heap} {K : PySem.W.Frag} {mg : Str → Option Value} (Z : Cnd fa fn ex K mg) : InitAt P w K mg base "NoOrder" (He.ga K "NoOrder") ["word"] := by
  have I : InitF K "NoOrder" "GateError" ["word"] := initF_of (exs_3 Z.m)
  obtain ⟨fd, F⟩ := Z.c.def_ 26 (d := d_NoOrder_init) rfl
  refine ⟨_, fd, ["self", "word"], Z.glo 43, I.oex, I.fi, I.ty, F.bindsN (fun _ _ _ _ _ _ us hl => match us, hl with | [_, _], _ => rfl), rfl, F.ok sc_NoOrder_init (fun vs H Q E ⟨a, ys, e, hl, _⟩ => by rw [e, List.length_cons, hl]; rfl) fun cdv A outer s H vs Q E hr h => ⟨_, ?_, init1_read (z := "no order") I.oex (I.fs _ (by simp)) h⟩⟩
  exact pss_cons (ps_expr (pe_oinit (Z.glo 21) I.rd I.vi (pa_cons (pv 0) (pa_cons pe_str pa_nil)))) (pss_one (ps_ost (pv 0) (pv 1)))
abbrev s_need_order : Stmt := top 29
theorem sc_need_order : FnScope ["house", "heads", "counts"] ["house", "heads", "counts"] (defScope s_need_order) := ⟨rfl, rfl, rfl, by decide +kernel, rfl, by decide +kernel, by decide +kernel⟩
theorem bind_need_order : BindOk "need_order" s_need_order ["house", "heads", "counts"] := fun _ _ _ _ _ _ us hl => match us, hl with | [_, _, _], _ => rfl
theorem ok_need_order {P : Program} {w : World} {base : Heap} {K : PySem.W.Frag} {mg : Str → Option Value} (Z : Cnd fa fn ex K mg) : FnAt P w K mg base (tab K) 4 "need_order" s_need_order ["house", "heads", "counts"] m_need_order := by
  refine fnAt_of (body := b_need_order) Z sc_need_order 46 27 bind_need_order .f fun cdv A outer s H E hr hgd tk hp => ?_
  exact (ss_cons (s_if (t_cmp (op_neA (hu64 hr)) snd_neA (e_callF (ok_short_rooms Z) hr hgd tk (a_cons (e_v 0) (a_cons (e_v 1) (a_cons (e_v 2) a_nil)))) (e_lst a_nil) (nomark _)) (ss_one (s_raise (T := tab K) (c := 8) (k := 0) (ok_NoOrder_init Z) (by decide) rfl (hr.mono (by decide)) tk (a_cons (e_gstrE (Z.str 44)) a_nil))) ss_nil)
  (ss_one (s_if (t_cmp (op_neA (hu64 hr)) snd_neA (e_callF (ok_lonely_parts Z) hr hgd tk (a_cons (e_v 0) (a_cons (e_v 1) (a_cons (e_v 2) a_nil)))) (e_lst a_nil) (nomark _)) (ss_one (s_raise (T := tab K) (c := 8) (k := 0) (ok_NoOrder_init Z) (by decide) rfl (hr.mono (by decide)) tk (a_cons (e_gstrE (Z.str 45)) a_nil))) ss_nil)))
abbrev s_one_less : Stmt := top 32
theorem sc_one_less : FnScope ["counts", "number"] ["counts", "number"] (defScope s_one_less) := ⟨rfl, rfl, rfl, by decide +kernel, rfl, by decide +kernel, by decide +kernel⟩
theorem bind_one_less : BindOk "one_less" s_one_less ["counts", "number"] := fun _ _ _ _ _ _ us hl => match us, hl with | [_, _], _ => rfl
theorem ok_one_less {P : Program} {w : World} {base : Heap} {K : PySem.W.Frag} {mg : Str → Option Value} (Z : Cnd fa fn ex K mg) : FnAt P w K mg base (tab K) 1 "one_less" s_one_less ["counts", "number"] m_one_less := by
  refine fnAt_of (body := b_one_less) Z sc_one_less 47 28 bind_one_less .f fun cdv A outer s H E hr hgd tk hp => ?_
  exact (ss_one (s_ret (e_op op_addA snd_add (e_op op_addA snd_add (e_slice rfl (e_v 0) o_none (o_some (e_v 1))) (e_tup (a_cons (e_sub (e_ix rfl (hu1 hr) (e_v 0) (e_v 1)) e_int) a_nil))) (e_slice rfl (e_v 0) (o_some (e_op op_addA snd_add (e_v 1) e_int)) o_none))))
abbrev s_heads_behind : Stmt := top 33
theorem sc_heads_behind : FnScope ["heads", "gate", "room", "many"] ["heads", "gate"] (defScope s_heads_behind) := ⟨rfl, rfl, rfl, by decide +kernel, rfl, by decide +kernel, by decide +kernel⟩
theorem bind_heads_behind : BindOk "heads_behind" s_heads_behind ["heads", "gate"] := fun _ _ _ _ _ _ us hl => match us, hl with | [_, _], _ => rfl
theorem ok_heads_behind {P : Program} {w : World} {base : Heap} {K : PySem.W.Frag} {mg : Str → Option Value} (Z : Cnd fa fn ex K mg) : FnAt P w K mg base (tab K) 1 "heads_behind" s_heads_behind ["heads", "gate"] m_heads_behind := by
  refine fnAt_of (body := b_heads_behind) Z sc_heads_behind 48 29 bind_heads_behind .f fun cdv A outer s H E hr hgd tk hp => ?_
  exact (ss_one (s_ret (e_bt call_tuple_of snd_tuple (by decide +kernel) (Z.free 7) (a_cons (e_lc (new := false) [("room", 2), ("many", 3)] rfl sc_heads_behind.nd (i_enum rfl (Z.free 14) (a_cons (e_v 0) a_nil)) (blkOk_by (by kernel_rfl)) (fun _ _ _ _ _ => (gw_tup rfl rfl (gws_cons (gw_name sc_heads_behind.nd) (gws_cons (gw_name sc_heads_behind.nd) gws_nil)))) (fun _ _ _ _ _ => ts_nil) (fun _ _ _ _ _ => (e_op op_addA snd_add (e_sub (e_v 3) (e_bt call_intA snd_intA (by decide +kernel) (Z.free 4) (a_cons (e_cmp (op_eqA (hu64 hr)) snd_eqA (e_v 2) (e_ix rfl (hu1 hr) (e_v 1) e_int) (nomark _)) a_nil))) (e_bt call_intA snd_intA (by decide +kernel) (Z.free 4) (a_cons (e_cmp (op_eqA (hu64 hr)) snd_eqA (e_v 2) (e_ix rfl (hu1 hr) (e_v 1) e_int) (nomark _)) a_nil))))) a_nil))))
abbrev s_can_begin : Stmt := top 34
theorem sc_can_begin : FnScope ["house", "heads", "counts", "number", "gate"] ["house", "heads", "counts", "number"] (defScope s_can_begin) := ⟨rfl, rfl, rfl, by decide +kernel, rfl, by decide +kernel, by decide +kernel⟩
theorem bind_can_begin : BindOk "can_begin" s_can_begin ["house", "heads", "counts", "number"] := fun _ _ _ _ _ _ us hl => match us, hl with | [_, _, _, _], _ => rfl
theorem ok_can_begin {P : Program} {w : World} {base : Heap} {K : PySem.W.Frag} {mg : Str → Option Value} (Z : Cnd fa fn ex K mg) : FnAt P w K mg base (tab K) 5 "can_begin" s_can_begin ["house", "heads", "counts", "number"] m_can_begin := by
  refine fnAt_of (body := b_can_begin) Z sc_can_begin 49 30 bind_can_begin .f fun cdv A outer s H E hr hgd tk hp => ?_
  exact (ss_cons (s_set sc_can_begin.nd (e_ix rfl (hu1 hr) (e_ix rfl (hu1 hr) (e_v 0) e_int) (e_v 3)))
  (ss_cons (s_if (PW.pt (w_or (t_cmp (op_eqA (hu64 hr)) snd_eqA (e_ix rfl (hu1 hr) (e_v 2) (e_v 3)) e_int (nomark _)) (w_or1 (PW.pt (w_and (t_cmp (op_neA (hu64 hr)) snd_neA (e_ix rfl (hu1 hr) (e_v 4) e_int) (e_gintE (Z.int 24)) (nomark _)) (w_and1 (t_cmp (op_eqA (hu64 hr)) snd_eqA (e_ix rfl (hu1 hr) (e_v 1) (e_ix rfl (hu1 hr) (e_v 4) e_int)) e_int (nomark _)))))))) (ss_one (s_ret e_bl)) ss_nil)
  (ss_one (s_ret (e_callF (ok_is_possible_of Z) hr hgd tk (a_cons (e_v 0) (a_cons (e_callF (ok_heads_behind Z) hr hgd tk (a_cons (e_v 1) (a_cons (e_v 4) a_nil))) (a_cons (e_callF (ok_one_less Z) hr hgd tk (a_cons (e_v 2) (a_cons (e_v 3) a_nil))) a_nil))))))))
abbrev s_first_gates : Stmt := top 35
theorem sc_first_gates : FnScope ["house", "heads", "counts", "number"] ["house", "heads", "counts"] (defScope s_first_gates) := ⟨rfl, rfl, rfl, by decide +kernel, rfl, by decide +kernel, by decide +kernel⟩
theorem bind_first_gates : BindOk "first_gates" s_first_gates ["house", "heads", "counts"] := fun _ _ _ _ _ _ us hl => match us, hl with | [_, _, _], _ => rfl
theorem ok_first_gates {P : Program} {w : World} {base : Heap} {K : PySem.W.Frag} {mg : Str → Option Value} (Z : Cnd fa fn ex K mg) : FnAt P w K mg base (tab K) 7 "first_gates" s_first_gates ["house", "heads", "counts"] m_first_gates := by
  refine fnAt_of (body := b_first_gates) Z sc_first_gates 50 31 bind_first_gates .f fun cdv A outer s H E hr hgd tk hp => ?_
  exact (ss_cons (s_expr (e_callF (ok_need_asked Z) hr hgd tk (a_cons (e_v 0) (a_cons (e_v 1) (a_cons (e_v 2) a_nil)))))
  (ss_cons (s_expr (e_callF (ok_need_order Z) hr hgd tk (a_cons (e_v 0) (a_cons (e_v 1) (a_cons (e_v 2) a_nil)))))
  (ss_one (s_ret (e_bt call_tuple_of snd_tuple (by decide +kernel) (Z.free 7) (a_cons (e_lc (new := false) [("number", 3)] rfl sc_first_gates.nd (i_range1 (Z.free 1) (a_cons (e_bf call_lenA snd_len (by decide +kernel) (Z.free 2) (a_cons (e_v 2) a_nil)) a_nil)) (blkOk_by (by kernel_rfl)) (fun _ _ _ _ _ => (gw_name sc_first_gates.nd)) (fun _ _ _ _ _ => (ts_one (t_val (e_callF (ok_can_begin Z) hr hgd takesB (a_cons (e_v 0) (a_cons (e_v 1) (a_cons (e_v 2) (a_cons (e_v 3) a_nil)))))))) (fun _ _ _ _ _ => (e_v 3))) a_nil))))))
abbrev s__law_passed : Stmt := top 45
theorem sc__law_passed : FnScope ["_law_home_so", "_law_folk", "_law_number", "_law_one", "_law_other", "_law_k"] ["_law_home_so", "_law_folk", "_law_number"] (defScope s__law_passed) := ⟨rfl, rfl, rfl, by decide +kernel, rfl, by decide +kernel, by decide +kernel⟩
theorem bind__law_passed : BindOk "_law_passed" s__law_passed ["_law_home_so", "_law_folk", "_law_number"] := fun _ _ _ _ _ _ us hl => match us, hl with | [_, _, _], _ => rfl
theorem ok__law_passed {P : Program} {w : World} {base : Heap} {K : PySem.W.Frag} {mg : Str → Option Value} (Z : Cnd fa fn ex K mg) : FnAt P w K mg base (tab K) 1 "_law_passed" s__law_passed ["_law_home_so", "_law_folk", "_law_number"] m__law_passed := by
  refine fnAt_of (body := b__law_passed) Z sc__law_passed 52 32 bind__law_passed .f fun cdv A outer s H E hr hgd tk hp => ?_
  exact (ss_cons (s_asg (e_ix rfl (hu1 hr) (e_ix rfl (hu1 hr) (e_v 0) e_int) (e_v 2)) (g_tup rfl rfl (gs_cons (g_name sc__law_passed.nd) (gs_cons (g_name sc__law_passed.nd) gs_nil))))
  (ss_cons (s_if (PW.pt (w_and (t_cmp op_ge snd_ge (e_v 3) e_int (nomark _)) (w_and1 (t_cmp (op_eqA (hu64 hr)) snd_eqA (e_ix rfl (hu1 hr) (e_v 1) (e_v 3)) e_int (nomark _))))) (ss_one (s_ret e_non)) ss_nil)
  (ss_one (s_ret (e_bt call_tuple_of snd_tuple (by decide +kernel) (Z.free 7) (a_cons (e_lc (new := false) [("_law_k", 5)] rfl sc__law_passed.nd (i_range1 (Z.free 1) (a_cons (e_bf call_lenA snd_len (by decide +kernel) (Z.free 2) (a_cons (e_v 1) a_nil)) a_nil)) (blkOk_by (by kernel_rfl)) (fun _ _ _ _ _ => (gw_name sc__law_passed.nd)) (fun _ _ _ _ _ => ts_nil) (fun _ _ _ _ _ => (e_op op_addA snd_add (e_sub (e_ix rfl (hu1 hr) (e_v 1) (e_v 5)) (e_bt call_intA snd_intA (by decide +kernel) (Z.free 4) (a_cons (e_cmp (op_eqA (hu64 hr)) snd_eqA (e_v 5) (e_v 3) (nomark _)) a_nil))) (e_bt call_intA snd_intA (by decide +kernel) (Z.free 4) (a_cons (e_cmp (op_eqA (hu64 hr)) snd_eqA (e_v 5) (e_v 4) (nomark _)) a_nil))))) a_nil))))))
abbrev s__law_less : Stmt := top 46
theorem sc__law_less : FnScope ["_law_passes", "_law_number"] ["_law_passes", "_law_number"] (defScope s__law_less) := ⟨rfl, rfl, rfl, by decide +kernel, rfl, by decide +kernel, by decide +kernel⟩
theorem bind__law_less : BindOk "_law_less" s__law_less ["_law_passes", "_law_number"] := fun _ _ _ _ _ _ us hl => match us, hl with | [_, _], _ => rfl
theorem ok__law_less {P : Program} {w : World} {base : Heap} {K : PySem.W.Frag} {mg : Str → Option Value} (Z : Cnd fa fn ex K mg) : FnAt P w K mg base (tab K) 1 "_law_less" s__law_less ["_law_passes", "_law_number"] m__law_less := by
  refine fnAt_of (body := b__law_less) Z sc__law_less 53 33 bind__law_less .f fun cdv A outer s H E hr hgd tk hp => ?_
  exact (ss_one (s_ret (e_op op_addA snd_add (e_op op_addA snd_add (e_slice rfl (e_v 0) o_none (o_some (e_v 1))) (e_tup (a_cons (e_sub (e_ix rfl (hu1 hr) (e_v 0) (e_v 1)) e_int) a_nil))) (e_slice rfl (e_v 0) (o_some (e_op op_addA snd_add (e_v 1) e_int)) o_none))))
abbrev s__law_can : Stmt := top 47
theorem sc__law_can : FnScope ["_law_home_so", "_law_folk", "_law_passes", "_law_known", "_law_key", "_law_number", "_law_later"] ["_law_home_so", "_law_folk", "_law_passes", "_law_known"] (defScope s__law_can) := ⟨rfl, rfl, rfl, by decide +kernel, rfl, by decide +kernel, by decide +kernel⟩
theorem bind__law_can : BindOk "_law_can" s__law_can ["_law_home_so", "_law_folk", "_law_passes", "_law_known"] := fun _ _ _ _ _ _ us hl => match us, hl with | [_, _, _, _], _ => rfl
theorem okr__law_can {P : Program} {w : World} {base : Heap} {K : PySem.W.Frag} {mg : Str → Option Value} (Z : Cnd fa fn ex K mg) : ∀ n : Nat, FnAt P w K mg base (tab K) (1 + n + 1) "_law_can" s__law_can ["_law_home_so", "_law_folk", "_law_passes", "_law_known"] (r__law_can n)
  | 0 => fnAt_of (body := sBad) Z sc__law_can 54 34 bind__law_can .f fun cdv A outer s H E hr hgd tk hp => ss_bad
  | n + 1 => by
    have ih := okr__law_can (P := P) (w := w) (base := base) Z n
    refine fnAt_of (k := 1 + (n + 1)) (body := b__law_can (r__law_can n)) Z sc__law_can 54 34 bind__law_can .f fun cdv A outer s H E hr hgd tk hp => ?_
    exact (ss_cons (s_if (t_cmp (op_eqA (hu64 hr)) snd_eqA (e_bf (cr_sumT rfl) snd_sumT (by decide +kernel) (Z.free 34) (a_cons (e_v 2) a_nil)) e_int (nomark _)) (ss_one (s_ret e_bl)) ss_nil)
  (ss_cons (s_set sc__law_can.nd (e_tup (a_cons (e_v 1) (a_cons (e_v 2) a_nil))))
  (ss_cons (s_if (t_cmp (op_notInN (hu64 hr)) snd_notInN (e_v 4) (e_v 3) (by rfl)) (ss_cons (s_asg e_bl (g_subN (W := fun c d _ H' => E c d H') (hu64 hr) (e_v 3) (e_v 4)))
  (ss_one (s_for hp rfl (i_range1 (Z.free 1) (a_cons (e_bf call_lenA snd_len (by decide +kernel) (Z.free 2) (a_cons (e_v 2) a_nil)) a_nil)) (g_name sc__law_can.nd) (ss_cons (s_set sc__law_can.nd (e_if (t_cmp op_gt snd_gt (e_ix rfl (hu1 hr) (e_v 2) (e_v 5)) e_int (nomark _)) (e_callF (hjk := by omega) (ok__law_passed Z) hr hgd tk (a_cons (e_v 0) (a_cons (e_v 1) (a_cons (e_v 5) a_nil)))) e_non))
  (ss_one (s_if (PW.pt (w_and (t_cmp op_isNotA snd_isNot (e_v 6) e_non (nomark _)) (w_and1 (t_not (t_val (e_ixN (hu64 hr) (e_v 3) (e_v 4))))))) (ss_one (s_asg (e_callF ih hr hgd tk (a_cons (e_v 0) (a_cons (e_v 6) (a_cons (e_callF (hjk := by omega) (ok__law_less Z) hr hgd tk (a_cons (e_v 2) (a_cons (e_v 5) a_nil))) (a_cons (e_v 3) a_nil)))) (by omega)) (g_subN (W := fun c d _ H' => E c d H') (hu64 hr) (e_v 3) (e_v 4)))) ss_nil)))))) ss_nil)
  (ss_one (s_ret (e_ixN (hu64 hr) (e_v 3) (e_v 4)))))))
theorem ok__law_can {P : Program} {w : World} {base : Heap} {K : PySem.W.Frag} {mg : Str → Option Value} (Z : Cnd fa fn ex K mg) : FnAt P w K mg base (tab K) 10 "_law_can" s__law_can ["_law_home_so", "_law_folk", "_law_passes", "_law_known"] m__law_can := okr__law_can Z 8
abbrev s__law_firsts : Stmt := top 48
theorem sc__law_firsts : FnScope ["_law_home_so", "_law_folk", "_law_passes", "_law_found", "_law_number", "_law_later"] ["_law_home_so", "_law_folk", "_law_passes"] (defScope s__law_firsts) := ⟨rfl, rfl, rfl, by decide +kernel, rfl, by decide +kernel, by decide +kernel⟩
theorem bind__law_firsts : BindOk "_law_firsts" s__law_firsts ["_law_home_so", "_law_folk", "_law_passes"] := fun _ _ _ _ _ _ us hl => match us, hl with | [_, _, _], _ => rfl
theorem ok__law_firsts {P : Program} {w : World} {base : Heap} {K : PySem.W.Frag} {mg : Str → Option Value} (Z : Cnd fa fn ex K mg) : FnAt P w K mg base (tab K) 11 "_law_firsts" s__law_firsts ["_law_home_so", "_law_folk", "_law_passes"] m__law_firsts := by
  refine fnAt_of (body := b__law_firsts) Z sc__law_firsts 55 35 bind__law_firsts .f fun cdv A outer s H E hr hgd tk hp => ?_
  exact (ss_cons (s_set sc__law_firsts.nd (e_new a_nil))
  (ss_cons (s_for hp rfl (i_range1 (Z.free 1) (a_cons (e_bf call_lenA snd_len (by decide +kernel) (Z.free 2) (a_cons (e_v 2) a_nil)) a_nil)) (g_name sc__law_firsts.nd) (ss_cons (s_set sc__law_firsts.nd (e_if (t_cmp op_gt snd_gt (e_ix rfl (hu1 hr) (e_v 2) (e_v 4)) e_int (nomark _)) (e_callF (ok__law_passed Z) hr hgd tk (a_cons (e_v 0) (a_cons (e_v 1) (a_cons (e_v 4) a_nil)))) e_non))
  (ss_one (s_if (PW.pt (w_and (t_cmp op_isNotA snd_isNot (e_v 5) e_non (nomark _)) (w_and1 (t_val (e_callF (ok__law_can Z) hr hgd tk (a_cons (e_v 0) (a_cons (e_v 5) (a_cons (e_callF (ok__law_less Z) hr hgd tk (a_cons (e_v 2) (a_cons (e_v 4) a_nil))) (a_cons e_newN a_nil))))))))) (ss_one (s_expr (e_append (e_v 3) (a_cons (e_v 4) a_nil)))) ss_nil))))
  (ss_one (s_ret (e_bt call_tuple_of snd_tuple (by decide +kernel) (Z.free 7) (a_cons (e_v 3) a_nil))))))
abbrev s_last_gates : Stmt := top 36
theorem sc_last_gates : FnScope ["house", "heads", "counts", "some", "number", "count"] ["house", "heads", "counts"] (defScope s_last_gates) := ⟨rfl, rfl, rfl, by decide +kernel, rfl, by decide +kernel, by decide +kernel⟩
theorem bind_last_gates : BindOk "last_gates" s_last_gates ["house", "heads", "counts"] := fun _ _ _ _ _ _ us hl => match us, hl with | [_, _, _], _ => rfl
theorem ok_last_gates {P : Program} {w : World} {base : Heap} {K : PySem.W.Frag} {mg : Str → Option Value} (Z : Cnd fa fn ex K mg) : FnAt P w K mg base (tab K) 7 "last_gates" s_last_gates ["house", "heads", "counts"] m_last_gates := by
  refine fnAt_of (body := b_last_gates) Z sc_last_gates 56 36 bind_last_gates .f fun cdv A outer s H E hr hgd tk hp => ?_
  exact (ss_cons (s_expr (e_callF (ok_need_asked Z) hr hgd tk (a_cons (e_v 0) (a_cons (e_v 1) (a_cons (e_v 2) a_nil)))))
  (ss_cons (s_expr (e_callF (ok_need_order Z) hr hgd tk (a_cons (e_v 0) (a_cons (e_v 1) (a_cons (e_v 2) a_nil)))))
  (ss_cons (s_setLc (new := false) [("number", 4), ("count", 5)] rfl sc_last_gates.nd (i_enum rfl (Z.free 14) (a_cons (e_v 2) a_nil)) (blkOk_by (by kernel_rfl)) (fun _ _ _ _ _ => (gw_tup rfl rfl (gws_cons (gw_name sc_last_gates.nd) (gws_cons (gw_name sc_last_gates.nd) gws_nil)))) (fun _ _ _ _ _ => (ts_one (t_cmp op_gt snd_gt (e_v 5) e_int (nomark _)))) (fun _ _ _ _ _ => (e_v 4)) (sw_true rfl rfl rfl rfl))
  (ss_one (s_ret (e_bt call_tuple_of snd_tuple (by decide +kernel) (Z.free 7) (a_cons (e_lc (new := false) [("number", 4)] rfl sc_last_gates.nd (i_seq rfl (e_v 3)) (blkOk_by (by kernel_rfl)) (fun _ _ _ _ _ => (gw_name sc_last_gates.nd)) (fun _ _ _ _ _ => (ts_one (t_val (e_callF (ok_is_possible_of Z) hr hgd takesB (a_cons (e_v 0) (a_cons (e_v 1) (a_cons (e_callF (ok_one_less Z) hr hgd takesB (a_cons (e_v 2) (a_cons (e_v 4) a_nil))) a_nil))))))) (fun _ _ _ _ _ => (e_v 4))) a_nil)))))))
abbrev s__law_lasts : Stmt := top 49
theorem sc__law_lasts : FnScope ["_law_home_so", "_law_folk", "_law_passes", "_law_found", "_law_number", "_law_here", "_law_gate", "_law_count", "_law_place", "_law_sign"] ["_law_home_so", "_law_folk", "_law_passes"] (defScope s__law_lasts) := ⟨rfl, rfl, rfl, by decide +kernel, rfl, by decide +kernel, by decide +kernel⟩
theorem bind__law_lasts : BindOk "_law_lasts" s__law_lasts ["_law_home_so", "_law_folk", "_law_passes"] := fun _ _ _ _ _ _ us hl => match us, hl with | [_, _, _], _ => rfl
theorem ok__law_lasts {P : Program} {w : World} {base : Heap} {K : PySem.W.Frag} {mg : Str → Option Value} (Z : Cnd fa fn ex K mg) : FnAt P w K mg base (tab K) 11 "_law_lasts" s__law_lasts ["_law_home_so", "_law_folk", "_law_passes"] m__law_lasts := by
  refine fnAt_of (body := b__law_lasts) Z sc__law_lasts 57 37 bind__law_lasts .f fun cdv A outer s H E hr hgd tk hp => ?_
  exact (ss_cons (s_set sc__law_lasts.nd (e_new a_nil))
  (ss_cons (s_for hp rfl (i_range1 (Z.free 1) (a_cons (e_bf call_lenA snd_len (by decide +kernel) (Z.free 2) (a_cons (e_v 2) a_nil)) a_nil)) (g_name sc__law_lasts.nd) (ss_one (s_if (PW.pt (w_and (t_cmp op_gt snd_gt (e_ix rfl (hu1 hr) (e_v 2) (e_v 4)) e_int (nomark _)) (w_and1 (t_val (e_callF (ok__law_can Z) hr hgd tk (a_cons (e_v 0) (a_cons (e_v 1) (a_cons (e_callF (ok__law_less Z) hr hgd tk (a_cons (e_v 2) (a_cons (e_v 4) a_nil))) (a_cons e_newN a_nil))))))))) (ss_cons (s_set sc__law_lasts.nd (e_listN rfl boot_list (Z.free 5) (a_cons (e_v 1) a_nil)))
  (ss_cons (s_for hp rfl (i_zip rfl (Z.free 27) (a_cons (e_ix rfl (hu1 hr) (e_v 0) e_int) (a_cons (e_callF (ok__law_less Z) hr hgd tk (a_cons (e_v 2) (a_cons (e_v 4) a_nil))) a_nil))) (g_tup rfl rfl (gs_cons (g_name sc__law_lasts.nd) (gs_cons (g_name sc__law_lasts.nd) gs_nil))) (ss_one (s_for hp rfl (i_seq rfl (e_tup (a_cons (e_tup (a_cons (e_ix rfl (hu1 hr) (e_v 6) e_int) (a_cons (e_neg e_int) a_nil))) (a_cons (e_tup (a_cons (e_ix rfl (hu1 hr) (e_v 6) e_int) (a_cons e_int a_nil))) a_nil)))) (g_tup rfl rfl (gs_cons (g_name sc__law_lasts.nd) (gs_cons (g_name sc__law_lasts.nd) gs_nil))) (ss_one (s_if (t_cmp op_ge snd_ge (e_v 8) e_int (nomark _)) (ss_one (s_augI rfl (hu1 hr) ip_add snd_ipadd (e_v 5) (e_v 8) (e_op op_mulA snd_mul (e_v 9) (e_v 7)))) ss_nil)))))
  (ss_one (s_if (t_cmp op_isNotA snd_isNot (e_callF (ok__law_passed Z) hr hgd tk (a_cons (e_v 0) (a_cons (e_bt call_tuple_of snd_tuple (by decide +kernel) (Z.free 7) (a_cons (e_v 5) a_nil)) (a_cons (e_v 4) a_nil)))) e_non (nomark _)) (ss_one (s_expr (e_append (e_v 3) (a_cons (e_v 4) a_nil)))) ss_nil)))) ss_nil)))
  (ss_one (s_ret (e_bt call_tuple_of snd_tuple (by decide +kernel) (Z.free 7) (a_cons (e_v 3) a_nil))))))
abbrev s_law : Stmt := top 50
theorem sc_law : FnScope ["_law_script", "_law_draw", "_law_turn", "_law_home_so", "_law_folk", "_law_passes", "_law_told"] ["_law_script"] (defScope s_law) := ⟨rfl, rfl, rfl, by decide +kernel, rfl, by decide +kernel, by decide +kernel⟩
theorem bind_law : BindOk "law" s_law ["_law_script"] := fun _ _ _ _ _ _ us hl => match us, hl with | [_], _ => rfl
theorem ok_law {P : Program} {w : World} {K : PySem.W.Frag} {mg : Str → Option Value} (Z : Cnd fa fn ex K mg) : ∃ fd : FuncData, (∀ (s : Shared) (u : Value), BindsTo s fd ⟨[u], []⟩ [("_law_script", u)]) ∧ ∀ base : Heap, FnG P w K mg base 12 (He.ga K "law") fd ["_law_script"] (spF (tab K) 1 m_law) := by
  refine lawAt_of (body := b_law) Z sc_law 38 bind_law .f fun base cdv A outer s H E hr hgd tk hp => ?_
  exact (ss_cons (s_set sc_law.nd (e_callF (ok__law_begin Z) hr hgd tk (a_cons (e_v 0) a_nil)))
  (ss_cons (s_for hp rfl (i_range1 (Z.free 1) (a_cons e_int a_nil)) (g_name sc_law.nd) (ss_cons (s_asg (e_callF (ok__law_asked Z) hr hgd tk (a_cons (e_v 1) a_nil)) (g_tup rfl rfl (gs_cons (g_name sc_law.nd) (gs_cons (g_name sc_law.nd) (gs_cons (g_name sc_law.nd) gs_nil)))))
  (ss_one (s_if (t_val (e_callF (ok_is_possible Z) hr hgd tk (a_cons (e_v 3) (a_cons (e_v 4) (a_cons (e_v 5) a_nil))))) (ss_cons (s_set sc_law.nd (e_lst (a_cons (e_callF (ok_first_gates Z) hr hgd tk (a_cons (e_v 3) (a_cons (e_v 4) (a_cons (e_v 5) a_nil)))) a_nil)))
  (ss_cons (s_set sc_law.nd (e_op op_addA snd_add (e_v 6) (e_lst (a_cons (e_callK (ks := ["counts", "heads", "house"]) (perm := [2, 1, 0]) (ok_first_gates Z) (fun _ _ _ _ _ _ ws hl => match ws, hl with | [_, _, _], _ => rfl) hr hgd tk (k_cons (e_v 5) (k_cons (e_v 4) (k_cons (e_v 3) k_nil)))) a_nil))))
  (ss_cons (s_if (t_cmp (op_neA (hu64 hr)) snd_neA (e_bf (call_reprA hgd (hu65 hr)) snd_repr (by decide +kernel) (Z.free 51) (a_cons (e_v 6) a_nil)) (e_bf (call_reprA hgd (hu65 hr)) snd_repr (by decide +kernel) (Z.free 51) (a_cons (e_op op_mulA snd_mul (e_lst (a_cons (e_callF (ok__law_firsts Z) hr hgd tk (a_cons (e_v 3) (a_cons (e_v 4) (a_cons (e_v 5) a_nil)))) a_nil)) e_int) a_nil)) (nomark _)) (ss_one (s_ret e_bl)) ss_nil)
  (ss_cons (s_set sc_law.nd (e_lst (a_cons (e_callF (ok_last_gates Z) hr hgd tk (a_cons (e_v 3) (a_cons (e_v 4) (a_cons (e_v 5) a_nil)))) a_nil)))
  (ss_cons (s_set sc_law.nd (e_op op_addA snd_add (e_v 6) (e_lst (a_cons (e_callK (ks := ["counts", "heads", "house"]) (perm := [2, 1, 0]) (ok_last_gates Z) (fun _ _ _ _ _ _ ws hl => match ws, hl with | [_, _, _], _ => rfl) hr hgd tk (k_cons (e_v 5) (k_cons (e_v 4) (k_cons (e_v 3) k_nil)))) a_nil))))
  (ss_one (s_if (t_cmp (op_neA (hu64 hr)) snd_neA (e_bf (call_reprA hgd (hu65 hr)) snd_repr (by decide +kernel) (Z.free 51) (a_cons (e_v 6) a_nil)) (e_bf (call_reprA hgd (hu65 hr)) snd_repr (by decide +kernel) (Z.free 51) (a_cons (e_op op_mulA snd_mul (e_lst (a_cons (e_callF (ok__law_lasts Z) hr hgd tk (a_cons (e_v 3) (a_cons (e_v 4) (a_cons (e_v 5) a_nil)))) a_nil)) e_int) a_nil)) (nomark _)) (ss_one (s_ret e_bl)) ss_nil))))))) ss_nil))))
  (ss_cons (s_set sc_law.nd (e_tup (a_cons e_int (a_cons (e_tup (a_cons (e_tup (a_cons (e_neg e_int) (a_cons e_int a_nil))) (a_cons (e_tup (a_cons e_int (a_cons (e_neg e_int) a_nil))) (a_cons (e_tup (a_cons e_int (a_cons e_int a_nil))) (a_cons (e_tup (a_cons e_int (a_cons e_int a_nil))) (a_cons (e_tup (a_cons e_int (a_cons e_int a_nil))) (a_cons (e_tup (a_cons e_int (a_cons e_int a_nil))) a_nil))))))) a_nil))))
  (ss_cons (s_set sc_law.nd (e_lst (a_cons (e_callF (ok_first_gates Z) hr hgd tk (a_cons (e_v 3) (a_cons (e_tup (a_cons e_int (a_cons e_int (a_cons e_int a_nil)))) (a_cons (e_tup (a_cons e_int (a_cons e_int (a_cons e_int (a_cons e_int (a_cons e_int (a_cons e_int a_nil))))))) a_nil)))) a_nil)))
  (ss_cons (s_set sc_law.nd (e_op op_addA snd_add (e_v 6) (e_lst (a_cons (e_callF (ok_last_gates Z) hr hgd tk (a_cons (e_v 3) (a_cons (e_tup (a_cons e_int (a_cons e_int (a_cons e_int a_nil)))) (a_cons (e_tup (a_cons e_int (a_cons e_int (a_cons e_int (a_cons e_int (a_cons e_int (a_cons e_int a_nil))))))) a_nil)))) a_nil))))
  (ss_cons (s_if (PW.pt (w_or (t_cmp (op_neA (hu64 hr)) snd_neA (e_v 6) (e_lst (a_cons (e_tup (a_cons e_int a_nil)) (a_cons (e_tup (a_cons e_int (a_cons e_int a_nil))) a_nil))) (nomark _)) (w_or1 (t_cmp (op_neA (hu64 hr)) snd_neA (e_callF (ok_first_gates Z) hr hgd tk (a_cons (e_v 3) (a_cons (e_tup (a_cons e_int (a_cons e_int (a_cons e_int a_nil)))) (a_cons (e_op op_mulA snd_mul (e_tup (a_cons e_int a_nil)) e_int) a_nil)))) (e_tup a_nil) (nomark _))))) (ss_one (s_ret e_bl)) ss_nil)
  (ss_one (s_ret (e_cmp (op_eqA (hu64 hr)) snd_eqA (e_callF (ok_first_gates Z) hr hgd tk (a_cons (e_v 3) (a_cons (e_tup (a_cons e_int (a_cons e_int (a_cons e_int a_nil)))) (a_cons (e_tup (a_cons e_int (a_cons e_int (a_cons e_int (a_cons e_int (a_cons e_int (a_cons e_int a_nil))))))) a_nil)))) (e_tup (a_cons e_int a_nil)) (nomark _))))))))))

abbrev R : PySem.W.OpenRow := PySem.W.OpenLaw.row PySem.Challenge.rw_gatecounts_k07_whole_first_and_last
abbrev hk : PySem.W.Hook := Ev.hookY 4 fa fn [] ex
def ob (s : PySem.W.SharedT) : He.AlX := Ev.obsY 4 fa fn [] ex (HandSHeadRun.getT s)
theorem ob_eq (s : PySem.W.SharedT) : ob s = hk.obs s.abs := Ev.obsY_eq (HandSHeadRun.getT_eq s)
def loose : List Str := ("GateError" : Str) :: ("BadHouse" : Str) :: ("BadHeads" : Str) :: ("BadCounts" : Str) :: ("NoOrder" : Str) :: ("OUTSIDE" : Str) :: ("MOST_ROOMS" : Str) :: ("MOST_GATES" : Str) :: ("MOST_NUMBER" : Str) :: ("is_integer" : Str) :: ("is_whole" : Str) :: ("is_gate" : Str) :: ("need_house" : Str) :: ("numbers_fault" : Str) :: ("need_heads" : Str) :: ("need_counts" : Str) :: ("from_place" : Str) :: ("to_place" : Str) :: ("balances_of" : Str) :: ("parts_of" : Str) :: ("SHORT" : Str) :: ("LONELY" : Str) :: ("short_rooms" : Str) :: ("lonely_parts" : Str) :: ("is_possible_of" : Str) :: ("need_asked" : Str) :: ("need_order" : Str) :: ("is_possible" : Str) :: ("one_less" : Str) :: ("heads_behind" : Str) :: ("can_begin" : Str) :: ("first_gates" : Str) :: ("last_gates" : Str) :: ("_law_begin" : Str) :: ("_law_next" : Str) :: ("_law_pick" : Str) :: ("_law_house" : Str) :: ("_law_few" : Str) :: ("_law_walked" : Str) :: ("_law_asked" : Str) :: ("_law_passed" : Str) :: ("_law_less" : Str) :: ("_law_can" : Str) :: ("_law_firsts" : Str) :: ("_law_lasts" : Str) :: []
theorem run (w : World) : HandSHeadRun.RunEq R (PySem.W.view R.prog [50]) hk ob 4000 loose w := by
  intro os
  kernel_rfl

theorem holds_of (plain : ∀ ns : List Int, ns.length ≤ 63 → ∃ st, m_law [.lst (ns.map .int)] [] = .ok (.bl true) st) : PySem.Challenge.rw_gatecounts_k07_whole_first_and_last.Holds := by
  w_on; o_law
  refine HandSHeadRun.head_any (r := PySem.W.OpenLaw.row PySem.Challenge.rw_gatecounts_k07_whole_first_and_last) (q := PySem.W.view (PySem.W.OpenLaw.row PySem.Challenge.rw_gatecounts_k07_whole_first_and_last).prog [50]) (H := hk) (ob := ob) (M := 4000) (loose := loose) (d := HandSHeadRun.topDef (PySem.W.OpenLaw.row PySem.Challenge.rw_gatecounts_k07_whole_first_and_last).prog 50) (kwd := []) ob_eq
    (by kernel_rfl) (fun s => by kernel_rfl) run (by kernel_rfl) (by kernel_rfl) (by kernel_rfl) (by rfl) (by first | assumption | decide +kernel) (by decide +kernel) ⟨rfl, rfl, rfl, rfl, rfl, by decide +kernel⟩ ?hw ?hc
  case hw => w_witness2
  case hc =>
    refine Ev.walk_ofG (l := PySem.Challenge.rw_gatecounts_k07_whole_first_and_last) (n := 63) (k := 12) (x := "_law_script") rfl (by decide) (by kernel_rfl) ⟨rfl, by decide, by decide⟩ ?F
    intro w mg f h Y G hmg0
    obtain ⟨K, KX, c⟩ := Y
    have hmg : mg ("law" : PySem.Str) = some (.ref f) := by
      have e : (HandSHeadRun.topDef (PySem.W.OpenLaw.row PySem.Challenge.rw_gatecounts_k07_whole_first_and_last).prog 50).name = ("law" : PySem.Str) := by kernel_rfl
      rw [← e]
      exact hmg0
    have Z : Cnd fa fn ex K mg := ⟨c.t.d, ⟨h, KX, G⟩, c.more⟩
    cases hmg.symm.trans (Z.glo 58)
    obtain ⟨fd, hb, hF⟩ := ok_law (P := (PySem.Challenge.rw_gatecounts_k07_whole_first_and_last).prog) (w := w) Z
    exact ⟨K, fd, _, KX, hb, fun H a ns hl _ hS => law_sp (T := tab K) hS (plain ns hl), fun base _ _ => hF base⟩
end K07

set_option Elab.async false
set_option linter.all false
set_option maxRecDepth 100000
set_option maxHeartbeats 2000000
namespace Gc
open PySem PySem.Spec PyProof.Rows L2 Ev
open Gr (Fit Good Al Con GL net dl mv dec passed)
def hf (hs : List Int) (p : Int) : Int := if p < 0 then 0 else hs.getD p.toNat 0
def mvL (hs : List Int) (g : Int × Int) : List Int := (List.range hs.length).map fun k => hs.getD k 0 - (if (k : Int) = g.1 then 1 else 0) + (if (k : Int) = g.2 then 1 else 0)
theorem mvL_len (hs : List Int) (g : Int × Int) : (mvL hs g).length = hs.length := by unfold mvL; simp
theorem hf_mv {hs : List Int} {g : Int × Int} {p : Int} (h0 : 0 ≤ p) (h1 : p < hs.length) : hf (mvL hs g) p = mv (hf hs) g p := by
  have hp : p.toNat < hs.length := by omega
  have e : ((p.toNat : Nat) : Int) = p := by omega
  have n0 : ¬ p < 0 := by omega
  unfold hf mv mvL Gr.dl
  rw [if_neg n0]
  dsimp only
  rw [if_neg n0]
  simp only [List.getD_eq_getElem?_getD, List.getElem?_map, List.getElem?_range hp, Option.map_some, Option.getD_some, e]
  have c1 : (if p = g.1 then (1 : Int) else 0) = if g.1 = p then 1 else 0 := by
    by_cases q : p = g.1
    · rw [if_pos q, if_pos q.symm]
    · rw [if_neg q, if_neg (Ne.symm q)]
  have c2 : (if p = g.2 then (1 : Int) else 0) = if g.2 = p then 1 else 0 := by
    by_cases q : p = g.2
    · rw [if_pos q, if_pos q.symm]
    · rw [if_neg q, if_neg (Ne.symm q)]
  rw [c1, c2]
theorem good_congr {gs : GL} {n : Int} {H H' : Int → Int} {cs : List Int} (F : Fit gs n cs) (e : ∀ p, 0 ≤ p → p < n → H p = H' p) (G : Good gs n H cs) : Good gs n H' cs := by
  refine ⟨fun p q1 q2 => by rw [← e p q1 q2]; exact G.heads p q1 q2, fun p q1 q2 => by rw [← e p q1 q2]; exact G.bal p q1 q2, fun x hx => ?_⟩
  obtain ⟨y, k1, k2⟩ := G.con x hx
  refine ⟨y, k1, ?_⟩
  have hy : y < n := by
    rcases Gr.con_tou k1 with k | ⟨_, z, hz, k | k⟩
    · have := F.place x (Gr.passed_mem hx); omega
    · have := F.place z (Gr.passed_mem hz); omega
    · have := F.place z (Gr.passed_mem hz); omega
  unfold Al at *
  by_cases q : y < 0
  · exact .inl q
  · rw [← e y (by omega) hy]; exact k2
def GoodL (gs : GL) (hs cs : List Int) : Prop := Good gs hs.length (hf hs) cs
/-- a gate that can be passed now -/
def Use (gs : GL) (hs cs : List Int) (i : Nat) (g : Int × Int) : Prop := gs[i]? = some g ∧ (∃ c, cs[i]? = some c ∧ 0 < c) ∧ (g.1 < 0 ∨ hs.getD g.1.toNat 0 ≠ 0)
theorem hs_pos {hs : List Int} (hp : ∀ h, h ∈ hs → 0 ≤ h) (k : Nat) : 0 ≤ hs.getD k 0 := by
  rw [List.getD_eq_getElem?_getD]
  cases e : hs[k]? with
  | none => exact Int.le_refl _
  | some v => exact hp v (List.mem_of_getElem? e)
theorem use_al {gs : GL} {hs cs : List Int} {i : Nat} {g : Int × Int} (hp : ∀ h, h ∈ hs → 0 ≤ h) (U : Use gs hs cs i g) : Al (hf hs) g.1 := by
  rcases U.2.2 with h | h
  · exact .inl h
  · by_cases q : g.1 < 0
    · exact .inl q
    · refine .inr ?_
      unfold hf
      rw [if_neg q]
      have := hs_pos hp g.1.toNat
      omega
theorem mv_pos {gs : GL} {hs cs : List Int} {i : Nat} {g : Int × Int} (F : Fit gs hs.length cs) (hp : ∀ h, h ∈ hs → 0 ≤ h) (U : Use gs hs cs i g) : ∀ h, h ∈ mvL hs g → 0 ≤ h := by
  intro h hh
  unfold mvL at hh
  obtain ⟨k, hk, rfl⟩ := List.mem_map.mp hh
  have h0 := hs_pos hp k
  have hk := List.mem_range.mp hk
  by_cases e : (k : Int) = g.1
  · rw [if_pos e]
    have : k = g.1.toNat := by omega
    rcases U.2.2 with q | q
    · omega
    · rw [← this] at q
      split <;> omega
  · rw [if_neg e]
    split <;> omega
theorem good_iff {gs : GL} {hs cs : List Int} (F : Fit gs hs.length cs) (hp : ∀ h, h ∈ hs → 0 ≤ h) : GoodL gs hs cs ↔ cs.sum = 0 ∨ ∃ i g, Use gs hs cs i g ∧ GoodL gs (mvL hs g) (dec cs i) := by
  have hH : ∀ p, 0 ≤ p → p < (hs.length : Int) → 0 ≤ hf hs p := fun p q1 q2 => by
    unfold hf
    rw [if_neg (by omega)]
    exact hs_pos hp _
  have zero : cs.sum = 0 → ∀ c, c ∈ cs → c = 0 := fun h => Gr.sumP_all0 (f := fun c => c) (P := cs) F.pos (by unfold Gr.sumP; simpa using h)
  constructor
  · intro G
    by_cases h : ∃ e, e ∈ passed gs cs
    · obtain ⟨e, he⟩ := h
      obtain ⟨i, g, c, h1, h2, h3, h4, G'⟩ := Good.fwd F G he
      have U : Use gs hs cs i g := ⟨h1, ⟨c, h2, h3⟩, by
        rcases h4 with h4 | h4
        · exact .inl h4
        · by_cases q : g.1 < 0
          · exact .inl q
          · refine .inr ?_
            unfold hf at h4
            rw [if_neg q] at h4
            omega⟩
      refine .inr ⟨i, g, U, ?_⟩
      unfold GoodL
      rw [mvL_len]
      exact good_congr (F.dec h2 h3) (fun p q1 q2 => (hf_mv q1 q2).symm) G'
    · left
      have : ∀ c, c ∈ cs → c = 0 := fun c hc => by
        obtain ⟨i, hi⟩ := List.getElem?_of_mem hc
        have hl := (List.getElem?_eq_some_iff.mp hi).1
        have hlen := F.len
        have p := F.pos c hc
        refine Classical.byContradiction fun q => h ?_
        exact ⟨gs[i]'(by omega), Gr.mem_passed.mpr ⟨i, c, List.getElem?_eq_getElem (by omega), hi, by omega⟩⟩
      have := Gr.sumP_zero (f := fun c => c) (P := cs) this
      unfold Gr.sumP at this
      simpa using this
  · rintro (h | ⟨i, g, U, G⟩)
    · have z := zero h
      have none : ∀ e, e ∈ passed gs cs → False := fun e he => by
        obtain ⟨i, c, _, h2, h3⟩ := Gr.mem_passed.mp he
        have := z c (List.mem_of_getElem? h2)
        omega
      refine ⟨hH, fun p q1 q2 => ?_, fun e he => (none e he).elim⟩
      rw [Gr.net_same F.pos fun e he => (none e he).elim]
      have := hH p q1 q2
      omega
    · obtain ⟨c, h2, h3⟩ := U.2.1
      unfold GoodL at G
      rw [mvL_len] at G
      exact Good.back hH U.1 h2 h3 (use_al hp U) (good_congr (F.dec h2 h3) (fun p q1 q2 => hf_mv q1 q2) G)
open Classical in
noncomputable def goodB (gs : GL) (hs cs : List Int) : Bool := decide (GoodL gs hs cs)
theorem goodB_iff {gs : GL} {hs cs : List Int} : goodB gs hs cs = true ↔ GoodL gs hs cs := by
  classical
  unfold goodB
  simp
def lonelyL (gs : GL) (hs cs : List Int) : List (List Int) := ((partsS gs cs).filter fun p => !decide (-1 ∈ p)).filter fun p => (p.map fun r => decide (hs.getD r.toNat 0 = 0)).all id
theorem net_io (gs : GL) (cs : List Int) (p : Int) : toP gs cs p - fromP gs cs p = net gs cs (dl p) := by
  unfold toP fromP net
  generalize gs.zip cs = z
  induction z with
  | nil => rfl
  | cons x z ih =>
    have e : Gr.netZ (dl p) (x :: z) = x.2 * (dl p x.1.2 - dl p x.1.1) + Gr.netZ (dl p) z := rfl
    rw [e, ← ih]
    unfold Gr.dl
    simp only [List.filter_cons, decide_eq_true_eq]
    by_cases h1 : x.1.2 = p
    · by_cases h2 : x.1.1 = p
      · rw [if_pos h1, if_pos h2, if_pos h1, if_pos h2]; simp; omega
      · rw [if_pos h1, if_neg h2, if_pos h1, if_neg h2]; simp; omega
    · by_cases h2 : x.1.1 = p
      · rw [if_neg h1, if_pos h2, if_neg h1, if_pos h2]; simp; omega
      · rw [if_neg h1, if_neg h2, if_neg h1, if_neg h2]; simp
theorem good_prog {gs : GL} {hs cs : List Int} (F : Fit gs hs.length cs) (hp : ∀ h, h ∈ hs → 0 ≤ h) : GoodL gs hs cs ↔ (∀ b, b ∈ balL gs hs cs → 0 ≤ b) ∧ lonelyL gs hs cs = [] := by
  have hH : ∀ p, 0 ≤ p → p < (hs.length : Int) → 0 ≤ hf hs p := fun p q1 q2 => by
    unfold hf
    rw [if_neg (by omega)]
    exact hs_pos hp _
  have P := Gr.parts_ok (gs.zip cs)
  have mem : ∀ p, p ∈ partsS gs cs ↔ p ∈ Gr.partsL (gs.zip cs) := fun p => (sortLL_perm _).mem_iff
  have b1 : (∀ b, b ∈ balL gs hs cs → 0 ≤ b) ↔ ∀ p, 0 ≤ p → p < (hs.length : Int) → 0 ≤ hf hs p + net gs cs (dl p) := by
    unfold balL
    constructor
    · intro h p q1 q2
      have := h (hf hs p + toP gs cs p - fromP gs cs p) (List.mem_map.mpr ⟨(hf hs p, p.toNat), ?_, ?_⟩)
      · rw [← net_io]; omega
      · rw [List.mem_zipIdx_iff_getElem?]
        unfold hf
        rw [if_neg (by omega), List.getD_eq_getElem?_getD, List.getElem?_eq_getElem (by omega : p.toNat < hs.length)]
        rfl
      · have : ((p.toNat : Nat) : Int) = p := by omega
        show hf hs p + toP gs cs ((p.toNat : Nat) : Int) - fromP gs cs ((p.toNat : Nat) : Int) = _
        rw [this]
    · intro h b hb
      obtain ⟨⟨v, k⟩, hz, rfl⟩ := List.mem_map.mp hb
      rw [List.mem_zipIdx_iff_getElem?] at hz
      have hz : hs[k]? = some v := hz
      have hk := (List.getElem?_eq_some_iff.mp hz).1
      have := h k (by omega) (by omega)
      rw [← net_io] at this
      have e : hf hs (k : Int) = v := by
        unfold hf
        rw [if_neg (by omega), List.getD_eq_getElem?_getD, Int.toNat_natCast, hz]; rfl
      rw [e] at this
      show 0 ≤ v + toP gs cs (k : Int) - fromP gs cs (k : Int)
      omega
  have rng : ∀ x y, Gr.Tou (passed gs cs) x → Con (passed gs cs) x y → -1 ≤ y := fun x y hx k => by
    rcases Gr.con_tou k with k | ⟨_, e, he, k | k⟩
    · obtain ⟨e, he, q | q⟩ := hx
      · have := F.place e (Gr.passed_mem he); omega
      · have := F.place e (Gr.passed_mem he); omega
    · have := F.place e (Gr.passed_mem he); omega
    · have := F.place e (Gr.passed_mem he); omega
  have b2 : lonelyL gs hs cs = [] ↔ ∀ e, e ∈ passed gs cs → ∃ y, Con (passed gs cs) e.1 y ∧ Al (hf hs) y := by
    have lon : ∀ p, p ∈ lonelyL gs hs cs ↔ (p ∈ partsS gs cs ∧ -1 ∉ p) ∧ ∀ r, r ∈ p → hs.getD r.toNat 0 = 0 := fun p => by
      unfold lonelyL
      rw [List.mem_filter, List.mem_filter]
      simp
    constructor
    · intro h e he
      refine Classical.byContradiction fun no => ?_
      have t : Gr.Tou (passed gs cs) e.1 := ⟨e, he, .inl rfl⟩
      obtain ⟨p, hp1, hp2⟩ := P.all e.1 t
      have hp3 := (P.mem p hp1 e.1 hp2).2
      have dead : ∀ y, y ∈ p → ¬ Al (hf hs) y := fun y hy ha => no ⟨y, (hp3 y).mp hy, ha⟩
      have : p ∈ lonelyL gs hs cs := (lon p).mpr ⟨⟨(mem p).mpr hp1, fun z => dead _ z (.inl (by omega))⟩, fun r hr => by
        have d := dead r hr
        unfold Al hf at d
        have q : ¬ r < 0 := fun z => d (.inl z)
        rw [if_neg q] at d
        have := hs_pos hp r.toNat
        omega⟩
      rw [h] at this
      cases this
    · intro h
      refine List.eq_nil_iff_forall_not_mem.mpr fun p hpl => ?_
      obtain ⟨⟨h1, h2⟩, h3⟩ := (lon p).mp hpl
      have h1 := (mem p).mp h1
      obtain ⟨x, hx⟩ := List.exists_mem_of_ne_nil p (P.ne p h1)
      obtain ⟨⟨e, he, hxe⟩, m⟩ := P.mem p h1 x hx
      have e1 : e.1 ∈ p := (m _).mpr (by
        rcases hxe with q | q
        · rw [q]; exact .refl _
        · rw [q]; exact (Con.refl _).bwd he)
      obtain ⟨y, k1, k2⟩ := h e he
      have hy : y ∈ p := (m y).mpr (((m _).mp e1).trans k1)
      rcases k2 with k2 | k2
      · have := rng e.1 y ⟨e, he, .inl rfl⟩ k1
        exact h2 (by rw [show (-1 : Int) = y by omega]; exact hy)
      · by_cases q : y < 0
        · have := rng e.1 y ⟨e, he, .inl rfl⟩ k1
          exact h2 (by rw [show (-1 : Int) = y by omega]; exact hy)
        · unfold hf at k2
          rw [if_neg q, h3 y hy] at k2
          omega
  constructor
  · intro G
    exact ⟨b1.mpr G.bal, b2.mpr G.con⟩
  · rintro ⟨h1, h2⟩
    exact ⟨hH, b1.mp h1, b2.mp h2⟩
end Gc

set_option Elab.async false
set_option linter.all false
set_option maxRecDepth 100000
set_option maxHeartbeats 2000000
namespace Gc
open PySem PySem.Spec PyProof.Rows L2 Ev
open Gr (Fit Good)
theorem fitL {rooms : Int} {gs : List (Int × Int)} {hs cs : List Int} (h : GoodH rooms gs) (hl : hs.length = rooms.toNat) (hc : cs.length = gs.length) (hp : ∀ c, c ∈ cs → 0 ≤ c) : Fit gs hs.length cs := by
  refine ⟨fun g hg => ?_, hc, hp⟩
  have e : (hs.length : Int) = rooms := by have := h.lo; omega
  obtain ⟨a, b, c, d, k⟩ := h.at_ g hg
  rw [e]
  exact ⟨a, by omega, c, by omega, k⟩
theorem eq_nil_ints {st : Sto} (ns : List Int) : fEqA st (.lst (ns.map .int)) (.lst []) = some (.bl (decide (ns = []))) := by
  have e1 : toD (dr st (.lst (ns.map Val.int))) = some (.list (ns.map .int)) := by
    show toD (.lst (ns.map .int)) = _
    simp [toD, toDs_ints]
  have e2 : toD (dr st (.lst [])) = some (.list []) := rfl
  have s2 : SeqAt.shaped (.list []) = true := shp_ints []
  have e3 : PyData.eqv (.list (ns.map PyData.int)) (.list []) = decide (ns = []) := by
    show PyData.eqvAll (ns.map .int) [] = _
    exact eqv_ints ns []
  show fEq st _ _ = _
  unfold fEq
  rw [e1, e2]
  dsimp only
  rw [shp_ints, s2, e3]
  rfl
theorem lay_tt : ∀ ps : List (List Int), PyData.canLayAll0 (ps.map fun p => PyData.tuple (p.map .int)) = true ∧ PyData.depthAll (ps.map fun p => PyData.tuple (p.map .int)) ≤ 1
  | [] => ⟨rfl, Nat.zero_le _⟩
  | p :: ps => by
    obtain ⟨h1, h2⟩ := lay_tt ps
    rw [List.map_cons, PyData.canLayAll0, PyData.depthAll, h1]
    refine ⟨by rw [Bool.and_true]; exact lay_ints p, Nat.max_le.mpr ⟨?_, h2⟩⟩
    show PyData.depthAll _ + 1 ≤ 1
    rw [dep_ints]
    decide
theorem eq_nil_tups {st : Sto} (ps : List (List Int)) : fEqA st (.lst (ps.map tN)) (.lst []) = some (.bl (decide (ps = []))) := by
  have e1 : toD (dr st (.lst (ps.map tN))) = some (.list (ps.map fun p => .tuple (p.map .int))) := by
    show toD (.lst (ps.map tN)) = _
    simp [toD, toDs_tN]
  have e2 : toD (dr st (.lst [])) = some (.list []) := rfl
  have s2 : SeqAt.shaped (.list []) = true := shp_ints []
  have s1 : SeqAt.shaped (.list (ps.map fun p => .tuple (p.map .int))) = true := by
    unfold SeqAt.shaped
    rw [Bool.and_eq_true, decide_eq_true_eq]
    refine ⟨(lay_tt ps).1, ?_⟩
    show PyData.depthAll _ + 1 ≤ 64
    have := (lay_tt ps).2
    omega
  have e3 : PyData.eqv (.list (ps.map fun p => PyData.tuple (p.map .int))) (.list []) = decide (ps = []) := by
    cases ps <;> rfl
  show fEq st _ _ = _
  unfold fEq
  rw [e1, e2]
  dsimp only
  rw [s1, s2, e3]
  rfl
def shortL (gs : List (Int × Int)) (hs cs : List Int) : List Int := (((balL gs hs cs).zipIdx).filter fun z => decide (z.1 < 0)).map fun z => (z.2 : Int)
theorem bal_len (gs : List (Int × Int)) (hs cs : List Int) : (balL gs hs cs).length = hs.length := by unfold balL; simp
theorem short_ok {st : Sto} {rooms : Int} {gs : List (Int × Int)} {hs cs : List Int} (h : GoodH rooms gs) (hl : hs.length = rooms.toNat) : m_short_rooms [gh rooms gs, .tup (hs.map .int), .tup (cs.map .int)] st = .ok (.lst ((shortL gs hs cs).map .int)) st := by
  have hh : hs.length ≤ 1000 := by have := h.hi; omega
  have e3 := balances_of_ok (st := st) (rooms := rooms) (gs := gs) (hs := hs) (cs := cs) (by have := h.len; omega) hh
  have lc := lc_fm (own := [3, 4]) (it := itEnum (eCons (eCall 3 m_balances_of (eCons (eV 0) (eCons (eV 1) (eCons (eV 2) eNil)))) eNil)) (g := gT 2 (gCons' (gN 3) (gCons' (gN 4) gNil'))) (c := eTest (eB fLtT (eV 4) (eC (.int 0)))) (e := eV 3)
    (ρ := [some (gh rooms gs), some (.tup (hs.map .int)), some (.tup (cs.map .int)), none, none]) (st0 := st) (st := st) (xs := (balL gs hs cs).zipIdx) (fun z => .tup [.int z.2, .int z.1]) (fun z => decide (z.1 < 0)) (fun z => .int z.2) ?_ ?_ ?_
  · have e4 : ((((balL gs hs cs).zipIdx).filter fun z => decide (z.1 < 0)).map fun z => Val.int (z.2 : Int)) = (shortL gs hs cs).map Val.int := by
      unfold shortL
      rw [List.map_map]; rfl
    rw [e4] at lc
    refine runF_same ?_ (bel_ints (n := st.length) _)
    generalize hs.map Val.int = ys at lc ⊢
    generalize cs.map Val.int = zs at lc ⊢
    generalize (shortL gs hs cs).map Val.int = ws at lc ⊢
    simp only [b_short_rooms, startE, d_Ret, List.map_cons, List.map_nil, List.length_cons, List.length_nil, List.replicate, List.cons_append, List.nil_append]
    rw [lc]
    rfl
  · have e5 := enumV_map Val.int (balL gs hs cs) 0
    generalize hs.map Val.int = ys at e3 ⊢
    generalize cs.map Val.int = zs at e3 ⊢
    rw [← e5]
    generalize (balL gs hs cs).map Val.int = ws at e3 ⊢
    simp [bindR, e3]
  · rw [List.length_zipIdx, bal_len]; omega
  · intro z hz
    refine ⟨[some (gh rooms gs), some (.tup (hs.map .int)), some (.tup (cs.map .int)), some (.int z.2), some (.int z.1)], ?_, ?_, fun _ => ?_⟩
    · simp [wipeE]
    · simp [bindR, optR]
    · simp
theorem part_room {rooms : Int} {gs : List (Int × Int)} {cs : List Int} (h : GoodH rooms gs) {p : List Int} (hp : p ∈ partsS gs cs) {r : Int} (hr : r ∈ p) : -1 ≤ r ∧ r ≤ rooms - 1 := by
  have P := Gr.parts_ok (gs.zip cs)
  have hp : p ∈ Gr.partsL (gs.zip cs) := (sortLL_perm _).mem_iff.mp hp
  obtain ⟨⟨e, he, q⟩, _⟩ := P.mem p hp r hr
  obtain ⟨a, b, c, d, _⟩ := h.at_ e (Gr.passed_mem (gs := gs) (cs := cs) he)
  rcases q with q | q <;> omega
theorem ix_room {st : Sto} {hs : List Int} {r : Int} (h0 : 0 ≤ r) (h1 : r < hs.length) (hl : hs.length ≤ 1000) : fIx st (.tup (hs.map .int)) (.int r) = some (.int (hs.getD r.toNat 0)) := by
  have hr : r.toNat < hs.length := by omega
  have e : (hs.map Val.int)[r.toNat]? = some (.int (hs.getD r.toNat 0)) := by
    rw [List.getElem?_map, List.getD_eq_getElem?_getD, List.getElem?_eq_getElem hr]; rfl
  exact ix_tup h0 e
theorem flVs_ints : ∀ ns : List Int, flVs (ns.map Val.int) = some (ns.map V.int)
  | [] => rfl
  | n :: ns => by rw [List.map_cons, flVs, flVs_ints ns]; rfl
theorem in_tupI {st : Sto} (i : Int) (ns : List Int) : isIn st (.int i) (.tup (ns.map .int)) = some (decide (i ∈ ns)) := by
  have e : inV (V.int i) (ns.map V.int) = decide (i ∈ ns) := by
    unfold inV
    by_cases h : i ∈ ns
    · rw [decide_eq_true h, List.any_eq_true]
      exact ⟨.int i, List.mem_map_of_mem h, decide_eq_true rfl⟩
    · rw [decide_eq_false h, List.any_eq_false]
      intro y hy
      obtain ⟨n, hn, rfl⟩ := List.mem_map.mp hy
      intro z
      have z : n = i := of_decide_eq_true z
      exact h (z ▸ hn)
  show (match flV (.int i), flVs (ns.map .int) with
    | some x, some us => some (inV x us)
    | _, _ => none) = _
  rw [flVs_ints]
  show some (inV (V.int i) (ns.map V.int)) = _
  rw [e]
def insL' (gs : List (Int × Int)) (cs : List Int) : List (List Int) := (partsS gs cs).filter fun p => !decide (-1 ∈ p)
theorem lonely_ok {st : Sto} {rooms : Int} {gs : List (Int × Int)} {hs cs : List Int} (h : GoodH rooms gs) (hl : hs.length = rooms.toNat) : m_lonely_parts [gh rooms gs, .tup (hs.map .int), .tup (cs.map .int)] st = .ok (.lst ((lonelyL gs hs cs).map tN)) st := by
  have hh : hs.length ≤ 1000 := by have := h.hi; omega
  have P := Gr.parts_ok (gs.zip cs)
  have e3 := parts_of_ok (st := st) (rooms := rooms) (gs := gs) (cs := cs) h
  have small : (partsS gs cs).length ≤ 1000 := by
    have e1 : (partsS gs cs).length = (Gr.partsL (gs.zip cs)).length := (sortLL_perm _).length_eq
    have e2 := fold_len (gs.zip cs) []
    have e4 : (gs.zip cs).length ≤ gs.length := by rw [List.length_zip]; exact Nat.min_le_left _ _
    have : (Gr.partsL (gs.zip cs)).length ≤ 0 + (gs.zip cs).length := e2
    have := h.len
    omega
  have lc1 := lc_fm (own := [4]) (it := itV (eCall 2 m_parts_of (eCons (eV 0) (eCons (eV 2) eNil)))) (g := gN 4) (c := eTest (eB fNotIn (eC (.int (-1))) (eV 4))) (e := eV 4)
    (ρ := [some (gh rooms gs), some (.tup (hs.map .int)), some (.tup (cs.map .int)), none, none, none]) (st0 := st) (st := st) (xs := partsS gs cs) tN (fun p => !decide (-1 ∈ p)) tN ?_ (by omega) ?_
  rotate_left
  · generalize hs.map Val.int = ys
    generalize cs.map Val.int = zs at e3 ⊢
    generalize (partsS gs cs).map tN = ws at e3 ⊢
    simp [bindR, e3]
  · intro p hp
    refine ⟨[some (gh rooms gs), some (.tup (hs.map .int)), some (.tup (cs.map .int)), none, some (tN p), none], ?_, ?_, fun _ => ?_⟩
    · simp [wipeE]
    · have := k_notIn (in_tupI (st := st) (-1) p)
      have this : fNotIn st (.int (-1)) (tN p) = _ := this
      simp [bindR, optR, this]
    · simp
  have lc2 := lc_fm (own := [4]) (it := itV (eV 3)) (g := gN 4) (c := eTest (eBf fAll (eCons (eLc false [5] (itV (eV 4)) (gN 5) eYes (eB fEqA (eB fIx (eV 1) (eV 5)) (eC (.int 0)))) eNil))) (e := eV 4)
    (ρ := [some (gh rooms gs), some (.tup (hs.map .int)), some (.tup (cs.map .int)), some (.lst ((insL' gs cs).map tN)), none, none]) (st0 := st) (st := st) (xs := insL' gs cs) tN (fun p => (p.map fun r => decide (hs.getD r.toNat 0 = 0)).all id) tN ?_ ?_ ?_
  rotate_left
  · simp
  · have := List.length_filter_le (fun p => !decide (-1 ∈ p)) (partsS gs cs)
    unfold insL'
    omega
  · intro p hp
    obtain ⟨hp1, hp2⟩ := List.mem_filter.mp hp
    have hp2 : -1 ∉ p := by simpa using hp2
    have lc3 := lc_mp (own := [5]) (it := itV (eV 4)) (g := gN 5) (e := eB fEqA (eB fIx (eV 1) (eV 5)) (eC (.int 0)))
      (ρ := [some (gh rooms gs), some (.tup (hs.map .int)), some (.tup (cs.map .int)), some (.lst ((insL' gs cs).map tN)), some (tN p), none]) (st0 := st) (st := st) (xs := p) Val.int (fun r => .bl (decide (hs.getD r.toNat 0 = 0))) ?_ ?_ ?_
    · refine ⟨[some (gh rooms gs), some (.tup (hs.map .int)), some (.tup (cs.map .int)), some (.lst ((insL' gs cs).map tN)), some (tN p), none], ?_, ?_, fun _ => ?_⟩
      · simp [wipeE]
      · have e7 := k_all (st := st) (p.map fun r => decide (hs.getD r.toNat 0 = 0))
        rw [List.map_map] at e7
        have e7 : fAll st [.lst (p.map fun r => .bl (decide (hs.getD r.toNat 0 = 0)))] = _ := e7
        generalize (p.map fun r => Val.bl (decide (hs.getD r.toNat 0 = 0))) = bs at lc3 e7
        rw [c_Test, c_Bf, c_Cons, lc3]
        simp [bindR, optR, e7]
      · simp
    · simp [tN, bindR]
    · have e1 : p ∈ Gr.partsL (gs.zip cs) := (sortLL_perm _).mem_iff.mp hp1
      have asc := P.asc p e1
      have := pigeon (l := p) (d := Gr.rooms rooms) (asc.imp fun h => by omega) fun r hr => by
        obtain ⟨q1, q2⟩ := part_room h hp1 hr
        refine Gr.mem_rooms.mpr ⟨?_, by omega⟩
        rcases (show r < 0 ∨ 0 ≤ r by omega) with q | q
        · exact absurd (by rw [show (-1 : Int) = r by omega]; exact hr) hp2
        · exact q
      have : (Gr.rooms rooms).length = rooms.toNat := by unfold Gr.rooms; simp
      have := h.hi
      omega
    · intro r hr
      obtain ⟨q1, q2⟩ := part_room h hp1 hr
      have r0 : 0 ≤ r := by
        rcases (show r < 0 ∨ 0 ≤ r by omega) with q | q
        · exact absurd (by rw [show (-1 : Int) = r by omega]; exact hr) hp2
        · exact q
      have ix := ix_room (st := st) (hs := hs) (r := r) r0 (by have := h.lo; omega) hh
      refine ⟨[some (gh rooms gs), some (.tup (hs.map .int)), some (.tup (cs.map .int)), some (.lst ((insL' gs cs).map tN)), some (tN p), some (.int r)], ?_, ?_⟩
      · simp [wipeE]
      · generalize hs.map Val.int = ys at ix ⊢
        simp [bindR, optR, ix]
  have bel : ∀ ps : List (List Int), belV st.length (.lst (ps.map tN)) = true := fun ps => by
    induction ps with
    | nil => rfl
    | cons p ps ih =>
      have ih : belVs st.length (ps.map tN) = true := ih
      show belVs st.length (tN p :: ps.map tN) = true
      rw [belVs, ih, Bool.and_true]
      exact bel_ints p
  have er : ((insL' gs cs).filter fun p => (p.map fun r => decide (hs.getD r.toNat 0 = 0)).all id) = lonelyL gs hs cs := rfl
  rw [er] at lc2
  have el : ((partsS gs cs).filter fun p => !decide (-1 ∈ p)) = insL' gs cs := rfl
  rw [el] at lc1
  refine runF_same ?_ (bel _)
  generalize hs.map Val.int = ys at lc1 lc2 ⊢
  generalize cs.map Val.int = zs at lc1 lc2 ⊢
  generalize (insL' gs cs).map tN = w1 at lc1 lc2 ⊢
  generalize (lonelyL gs hs cs).map tN = w2 at lc2 ⊢
  simp only [b_lonely_parts, startE, d_Seq, d_Set, d_Ret, List.map_cons, List.map_nil, List.length_cons, List.length_nil, List.replicate, List.cons_append, List.nil_append]
  rw [lc1]
  simp only [d_bindS_ok, List.set_cons_succ, List.set_cons_zero]
  rw [lc2]
  rfl
def possB (gs : List (Int × Int)) (hs cs : List Int) : Bool := decide (shortL gs hs cs = []) && decide (lonelyL gs hs cs = [])
theorem possible_of_ok {st : Sto} {rooms : Int} {gs : List (Int × Int)} {hs cs : List Int} (h : GoodH rooms gs) (hl : hs.length = rooms.toNat) : m_is_possible_of [gh rooms gs, .tup (hs.map .int), .tup (cs.map .int)] st = .ok (.bl (possB gs hs cs)) st := by
  have e1 := short_ok (st := st) (cs := cs) h hl
  have e2 := lonely_ok (st := st) (cs := cs) h hl
  have e3 := eq_nil_ints (st := st) (shortL gs hs cs)
  have e4 := eq_nil_tups (st := st) (lonelyL gs hs cs)
  refine runF_same ?_ rfl
  unfold possB
  have ez : (0 ≤ sizeLine) = True := eq_true (Nat.zero_le _)
  generalize hs.map Val.int = ys at e1 e2 ⊢
  generalize cs.map Val.int = zs at e1 e2 ⊢
  generalize (shortL gs hs cs).map Val.int = w1 at e1 e3 ⊢
  generalize (lonelyL gs hs cs).map tN = w2 at e2 e4 ⊢
  by_cases q : shortL gs hs cs = []
  · simp [b_is_possible_of, startE, bindR, bindS, optR, e1, e2, e3, e4, ez, q]
  · simp [b_is_possible_of, startE, bindR, bindS, optR, e1, e2, e3, e4, ez, q]
theorem possible_ok {st : Sto} {rooms : Int} {gs : List (Int × Int)} {hs cs : List Int} (h : GoodH rooms gs) (hh : GoodN rooms.toNat hs) (hc : GoodN gs.length cs) : m_is_possible [gh rooms gs, .tup (hs.map .int), .tup (cs.map .int)] st = .ok (.bl (possB gs hs cs)) st := by
  have e1 := need_heads_ok (st := st) h hh
  have e2 := need_counts_ok (st := st) h hc
  have e3 := possible_of_ok (st := st) (cs := cs) h hh.len
  have ea : m_need_asked [gh rooms gs, .tup (hs.map .int), .tup (cs.map .int)] st = .ok .non st := by
    generalize hs.map Val.int = ys at e1 ⊢
    generalize cs.map Val.int = zs at e2 ⊢
    refine (show outF st (b_need_asked (startE 3 [gh rooms gs, .tup ys, .tup zs]) st) = _ from ?_)
    have : b_need_asked (startE 3 [gh rooms gs, .tup ys, .tup zs]) st = .nx (startE 3 [gh rooms gs, .tup ys, .tup zs]) st := by
      simp [b_need_asked, startE, bindR, bindS, e1, e2]
    rw [this]
    show fin st .non st = _
    unfold fin
    rw [okOld_refl, if_pos rfl]
    simp [frzV, frz1, belV]
  refine runF_same ?_ rfl
  generalize hs.map Val.int = ys at e3 ea ⊢
  generalize cs.map Val.int = zs at e3 ea ⊢
  simp [b_is_possible, startE, bindR, bindS, e3, ea]
theorem possB_good {rooms : Int} {gs : List (Int × Int)} {hs cs : List Int} (h : GoodH rooms gs) (hl : hs.length = rooms.toNat) (hp : ∀ x, x ∈ hs → 0 ≤ x) (hc : cs.length = gs.length) (hcp : ∀ c, c ∈ cs → 0 ≤ c) : possB gs hs cs = goodB gs hs cs := by
  have F := fitL h hl hc hcp
  have e1 : shortL gs hs cs = [] ↔ ∀ b, b ∈ balL gs hs cs → 0 ≤ b := by
    unfold shortL
    rw [List.map_eq_nil_iff, List.filter_eq_nil_iff]
    constructor
    · intro q b hb
      obtain ⟨i, hi⟩ := List.getElem?_of_mem hb
      have := q (b, i) (List.mem_zipIdx_iff_getElem?.mpr hi)
      simpa using this
    · rintro q ⟨b, i⟩ hz
      rw [List.mem_zipIdx_iff_getElem?] at hz
      have := q b (List.mem_of_getElem? hz)
      simpa using this
  have e2 := good_prog F hp
  rw [← e1] at e2
  rw [Bool.eq_iff_iff, goodB_iff, e2]
  unfold possB
  simp
end Gc

set_option Elab.async false
set_option linter.all false
set_option maxRecDepth 100000
set_option maxHeartbeats 2000000
namespace Gc
open PySem PySem.Spec PyProof.Rows L2 Ev
open Gr (Fit Good dec)
section
variable {ρ : Ev.Env} {st : Sto}
@[simp] theorem c_gIxN {o i : E} {v : Val} : gIxN o i v ρ st = (match o ρ st with
  | .ok w st1 => match i ρ st1 with
    | .ok k st2 => (fSetN st2 w k v).map fun st3 => (ρ, st3)
    | _ => none
  | _ => none) := (rfl)
@[simp] theorem c_NewN : eNewN ρ st = .ok (.loc st.length) (st ++ [.dN []]) := (rfl)
end
theorem sumT_ok {st : Sto} (ns : List Int) : fSumT st [.tup (ns.map .int)] = some (.int ns.sum) := by
  show (intsOf (ns.map .int)).map _ = _
  rw [intsOf_map]; rfl
theorem passed_none {st : Sto} {rooms : Int} {gs : List (Int × Int)} {hs : List Int} {i : Nat} {g : Int × Int} (hg : gs[i]? = some g) (h0 : 0 ≤ g.1) (h1 : g.1 < hs.length) (hl : hs.length ≤ 1000) (hz : hs.getD g.1.toNat 0 = 0) :
    m__law_passed [gh rooms gs, .tup (hs.map .int), .int i] st = .ok .non st := by
  have e1 : fIx st (.tup (gs.map pV)) (.int i) = some (pV g) := ix_tup (by omega) (by rw [Int.toNat_natCast, List.getElem?_map, hg]; rfl)
  have e2 := ix_room (st := st) h0 h1 hl
  rw [hz] at e2
  have e0 := gh_gates (st := st) (rooms := rooms) (gs := gs)
  have tst : (eAndT (eTest (eB fGe (eV 3) (eC (.int 0)))) (eTest (eB fEqA (eB fIx (eV 1) (eV 3)) (eC (.int 0))))) [some (gh rooms gs), some (.tup (hs.map .int)), some (.int i), some (.int g.1), some (.int g.2), none] st = .ok true st := by
    generalize hs.map Val.int = ys at e2 ⊢
    simp [bindR, optR, e2, h0]
  refine runF_same ?_ rfl
  generalize hs.map Val.int = ys at tst ⊢
  have first : sAsg (gT 2 (gCons' (gN 3) (gCons' (gN 4) gNil'))) (eB fIx (eB fIx (eV 0) (eC (.int 1))) (eV 2)) [some (gh rooms gs), some (.tup ys), some (.int i), none, none, none] st = .nx [some (gh rooms gs), some (.tup ys), some (.int i), some (.int g.1), some (.int g.2), none] st := by
    simp [bindR, bindS, optR, e0, e1, pV]
  simp only [b__law_passed, startE, d_Seq, List.map_cons, List.map_nil, List.length_cons, List.length_nil, List.replicate, List.cons_append, List.nil_append]
  rw [first]
  dsimp only
  rw [d_If, tst, d_bindS_ok, if_pos rfl, d_Ret, c_C, d_bindS_ok]
theorem range_len {st : Sto} {ρ : Ev.Env} {i : Nat} {ys : List Val} (h : ρ[i]? = some (some (.tup ys))) (hl : ys.length ≤ 1000) : itRange1 (eCons (eBf fLen (eCons (eV i) eNil)) eNil) ρ st = .ok ((List.range ys.length).map fun k : Nat => Val.int (0 + k)) st := by
  have e : eCons (eBf fLen (eCons (eV i) eNil)) eNil ρ st = .ok [.int ys.length] st := by
    rw [c_Cons, c_Bf, c_Cons, c_V, h]
    rfl
  have hn : -(2 ^ 62) ≤ (ys.length : Int) ∧ (ys.length : Int) < 2 ^ 62 := ⟨by omega, by omega⟩
  rw [c_itRange1, e, bindR_ok]
  dsimp only
  rw [if_pos hn, Int.toNat_natCast, rangeV_map]
theorem passed_some {st : Sto} {rooms : Int} {gs : List (Int × Int)} {hs : List Int} {i : Nat} {g : Int × Int} (hg : gs[i]? = some g) (h1 : g.1 < hs.length) (hl : hs.length ≤ 1000) (hz : g.1 < 0 ∨ hs.getD g.1.toNat 0 ≠ 0) :
    m__law_passed [gh rooms gs, .tup (hs.map .int), .int i] st = .ok (.tup ((mvL hs g).map .int)) st := by
  have e1 : fIx st (.tup (gs.map pV)) (.int i) = some (pV g) := ix_tup (by omega) (by rw [Int.toNat_natCast, List.getElem?_map, hg]; rfl)
  have e0 := gh_gates (st := st) (rooms := rooms) (gs := gs)
  have lc := lc_mp (own := [5]) (it := itRange1 (eCons (eBf fLen (eCons (eV 1) eNil)) eNil)) (g := gN 5) (e := eB fAdd (eB fSub (eB fIx (eV 1) (eV 5)) (eBf fIntA (eCons (eB fEqA (eV 5) (eV 3)) eNil))) (eBf fIntA (eCons (eB fEqA (eV 5) (eV 4)) eNil)))
    (ρ := [some (gh rooms gs), some (.tup (hs.map .int)), some (.int i), some (.int g.1), some (.int g.2), none]) (st0 := st) (st := st) (xs := List.range hs.length) (fun k => .int (0 + k)) (fun k => .int (hs.getD k 0 - (if (k : Int) = g.1 then 1 else 0) + (if (k : Int) = g.2 then 1 else 0))) ?_ ?_ ?_
  · have ex : (List.range hs.length).map (fun k : Nat => Val.int (hs.getD k 0 - (if (k : Int) = g.1 then 1 else 0) + (if (k : Int) = g.2 then 1 else 0))) = (mvL hs g).map Val.int := by
      unfold mvL
      rw [List.map_map]; rfl
    rw [ex] at lc
    have tst : (eAndT (eTest (eB fGe (eV 3) (eC (.int 0)))) (eTest (eB fEqA (eB fIx (eV 1) (eV 3)) (eC (.int 0))))) [some (gh rooms gs), some (.tup (hs.map .int)), some (.int i), some (.int g.1), some (.int g.2), none] st = .ok false st := by
      by_cases q : 0 ≤ g.1
      · have e2 := ix_room (st := st) q h1 hl
        have q2 : hs.getD g.1.toNat 0 ≠ 0 := by rcases hz with z | z; omega; exact z
        generalize hs.getD g.1.toNat 0 = d at e2 q2
        generalize hs.map Val.int = ys at e2 ⊢
        simp [bindR, optR, e2, q, q2]
      · simp [bindR, optR, q]
    refine runF_same ?_ (bel_ints _)
    generalize hs.map Val.int = ys at lc tst ⊢
    generalize (mvL hs g).map Val.int = zs at lc ⊢
    have first : sAsg (gT 2 (gCons' (gN 3) (gCons' (gN 4) gNil'))) (eB fIx (eB fIx (eV 0) (eC (.int 1))) (eV 2)) [some (gh rooms gs), some (.tup ys), some (.int i), none, none, none] st = .nx [some (gh rooms gs), some (.tup ys), some (.int i), some (.int g.1), some (.int g.2), none] st := by
      simp [bindR, bindS, optR, e0, e1, pV]
    simp only [b__law_passed, startE, d_Seq, List.map_cons, List.map_nil, List.length_cons, List.length_nil, List.replicate, List.cons_append, List.nil_append]
    rw [first]
    dsimp only
    rw [d_If, tst, d_bindS_ok]
    simp only [Bool.false_eq_true, if_false, d_Skip, d_Ret, c_Bf, c_Cons]
    rw [lc]
    simp [bindR, bindS, optR]
  · have := range_len (st := st) (i := 1) (ρ := [some (gh rooms gs), some (.tup (hs.map .int)), some (.int i), some (.int g.1), some (.int g.2), none]) (ys := hs.map Val.int) rfl (by rw [List.length_map]; exact hl)
    rw [List.length_map] at this
    exact this
  · rw [List.length_range]; omega
  · intro k hk
    have hk := List.mem_range.mp hk
    have ix := ix_room (st := st) (hs := hs) (r := k) (by omega) (by omega) hl
    rw [Int.toNat_natCast] at ix
    refine ⟨[some (gh rooms gs), some (.tup (hs.map .int)), some (.int i), some (.int g.1), some (.int g.2), some (.int (0 + k))], ?_, ?_⟩
    · simp [wipeE]
    · generalize hs.getD k 0 = d at ix ⊢
      generalize hs.map Val.int = ys at ix ⊢
      have z : (0 : Int) + (k : Int) = k := by omega
      rw [z]
      simp [bindR, optR, ix]
theorem cut_pre {α : Type} (xs : List α) (i : Nat) : cutG xs none (some (i : Int)) = xs.take i := by
  unfold cutG
  rw [HT.sIx_none, HT.sIx_nat]
  rw [List.drop_zero, Nat.sub_zero]
  exact List.take_eq_take_iff.mpr (by omega)
theorem cut_post {α : Type} (xs : List α) (i : Nat) : cutG xs (some (i : Int)) none = xs.drop i := by
  unfold cutG
  rw [HT.sIx_none, HT.sIx_nat]
  by_cases h : i ≤ xs.length
  · rw [Nat.min_eq_left h, List.take_of_length_le (by rw [List.length_drop]; omega)]
  · rw [Nat.min_eq_right (by omega), List.drop_of_length_le (Nat.le_refl _), List.drop_of_length_le (by omega : xs.length ≤ i)]
    simp
theorem add_tups {st : Sto} {xs ys : List Val} (h : xs.length + ys.length ≤ 1000000) : fAdd st (.tup xs) (.tup ys) = some (.tup (xs ++ ys)) := if_pos (sz (by omega))
theorem less_ok {st : Sto} {cs : List Int} {i : Nat} {c : Int} (h : cs[i]? = some c) (hl : cs.length ≤ 1000) : m__law_less [.tup (cs.map .int), .int i] st = .ok (.tup ((dec cs i).map .int)) st := by
  have hi := (List.getElem?_eq_some_iff.mp h).1
  have e1 : fIx st (.tup (cs.map Val.int)) (.int i) = some (.int c) := ix_tup (by omega) (by rw [Int.toNat_natCast, List.getElem?_map, h]; rfl)
  have e2 : (dec cs i).map Val.int = (cs.map Val.int).take i ++ [.int (c - 1)] ++ (cs.map Val.int).drop (i + 1) := by
    unfold dec
    rw [List.getD_eq_getElem?_getD, h, Option.getD_some, List.set_eq_take_append_cons_drop, if_pos hi, List.map_append, List.map_cons, List.map_take, List.map_drop]
    simp
  have l1 : ((cs.map Val.int).take i).length + 1 + ((cs.map Val.int).drop (i + 1)).length ≤ 1000 := by
    rw [List.length_take, List.length_drop, List.length_map]; omega
  have p1 := cut_pre (cs.map Val.int) i
  have p2 := cut_post (cs.map Val.int) (i + 1)
  have ei : ((i + 1 : Nat) : Int) = (i : Int) + 1 := by omega
  rw [ei] at p2
  refine runF_same ?_ (bel_ints _)
  rw [e2]
  generalize (cs.map Val.int).take i = ws at p1 l1 ⊢
  generalize (cs.map Val.int).drop (i + 1) = us at p2 l1 ⊢
  generalize cs.map Val.int = zs at e1 p1 p2 ⊢
  have a1 : fAdd st (.tup ws) (.tup [.int (c - 1)]) = some (.tup (ws ++ [.int (c - 1)])) := add_tups (by simp; omega)
  have a2 : fAdd st (.tup (ws ++ [.int (c - 1)])) (.tup us) = some (.tup (ws ++ [.int (c - 1)] ++ us)) := add_tups (by simp; omega)
  have s1 : (eSl (eV 0) oNone (oSome (eV 1))) [some (.tup zs), some (.int i)] st = .ok (.tup ws) st := by
    simp [bindR, p1]
  have s2 : (eSl (eV 0) (oSome (eB fAdd (eV 1) (eC (.int 1)))) oNone) [some (.tup zs), some (.int i)] st = .ok (.tup us) st := by
    simp [bindR, optR, p2]
  have s3 : (eTup (eCons (eB fSub (eB fIx (eV 0) (eV 1)) (eC (.int 1))) eNil)) [some (.tup zs), some (.int i)] st = .ok (.tup [.int (c - 1)]) st := by
    have ez : (1 ≤ sizeLine) = True := eq_true (sz (by decide))
    simp [bindR, optR, e1, ez]
  show (sRet (eB fAdd (eB fAdd (eSl (eV 0) oNone (oSome (eV 1))) (eTup (eCons (eB fSub (eB fIx (eV 0) (eV 1)) (eC (.int 1))) eNil))) (eSl (eV 0) (oSome (eB fAdd (eV 1) (eC (.int 1)))) oNone))) [some (.tup zs), some (.int i)] st = _
  rw [d_Ret, c_B, c_B, s1, bindR_ok, s3, bindR_ok, a1, optR_some, bindR_ok, s2, bindR_ok, a2, optR_some, d_bindS_ok]
end Gc

set_option Elab.async false
set_option linter.all false
set_option maxRecDepth 100000
set_option maxHeartbeats 2000000
namespace Gc
open PySem PySem.Spec PyProof.Rows L2 Ev
open Gr (Fit Good dec)
theorem getN_put (kvs : List (NK × Bool)) (k : NK) (v : Bool) (j : NK) : getN (putN kvs k v) j = if k = j then some v else getN kvs j := by
  have app : ∀ kvs : List (NK × Bool), getN kvs k = none → getN (kvs ++ [(k, v)]) j = if k = j then some v else getN kvs j := fun kvs => by
    induction kvs with
    | nil =>
      intro _
      unfold getN
      by_cases e : k = j
      · simp [e]
      · simp [e]
    | cons x kvs ih =>
      intro h
      unfold getN at h ih ⊢
      rw [List.find?_cons] at h
      by_cases e : x.1 = k
      · rw [decide_eq_true e] at h; simp at h
      · rw [decide_eq_false e] at h
        rw [List.cons_append, List.find?_cons, List.find?_cons]
        by_cases e2 : x.1 = j
        · rw [decide_eq_true e2, if_neg (fun z => e (e2.trans z.symm))]
        · rw [decide_eq_false e2]; exact ih h
  have mp : ∀ kvs : List (NK × Bool), (getN kvs k).isSome = true → getN (kvs.map fun x => if x.1 = k then (x.1, v) else x) j = if k = j then some v else getN kvs j := fun kvs => by
    induction kvs with
    | nil => intro h; cases h
    | cons x kvs ih =>
      intro h
      unfold getN at h ih ⊢
      rw [List.map_cons, List.find?_cons, List.find?_cons]
      rw [List.find?_cons] at h
      by_cases e : x.1 = k
      · rw [if_pos e]
        by_cases e2 : k = j
        · rw [decide_eq_true (show x.1 = j from e.trans e2), if_pos e2]; rfl
        · have e3 : ¬ x.1 = j := fun z => e2 (e.symm.trans z)
          rw [decide_eq_false e3, if_neg e2]
          dsimp only
          by_cases h2 : ((kvs.find? fun x => decide (x.1 = k)).map (·.2)).isSome = true
          · have := ih h2
            rw [if_neg e2] at this
            exact this
          · have hn : ∀ y, y ∈ kvs → y.1 ≠ k := fun y hy z => h2 (by
              rw [Option.isSome_map, List.find?_isSome]
              exact ⟨y, hy, decide_eq_true z⟩)
            have : kvs.map (fun x => if x.1 = k then (x.1, v) else x) = kvs := by
              refine (List.map_congr_left fun y hy => ?_).trans (List.map_id' kvs)
              rw [if_neg (hn y hy)]
            rw [this]
      · rw [if_neg e]
        rw [decide_eq_false e] at h
        by_cases e2 : x.1 = j
        · rw [decide_eq_true e2, if_neg (fun z => e (e2.trans z.symm))]
        · rw [decide_eq_false e2]; exact ih h
  unfold putN
  split
  · rename_i h; exact mp kvs h
  · rename_i h
    refine app kvs ?_
    cases q : getN kvs k with
    | none => rfl
    | some b => rw [q] at h; exact absurd rfl h
theorem putN_len (kvs : List (NK × Bool)) (k : NK) (v : Bool) : (putN kvs k v).length ≤ kvs.length + 1 ∧ ((getN kvs k).isSome = true → (putN kvs k v).length = kvs.length) := by
  unfold putN
  split
  · rename_i h; rw [List.length_map]; exact ⟨by omega, fun _ => rfl⟩
  · rename_i h; exact ⟨by simp, fun z => absurd z h⟩
/-- how many more are kept at most -/
def more (L : Nat) : Nat → Nat
  | 0 => 0
  | m + 1 => 1 + L * more L m
theorem sum_dec : ∀ {cs : List Int} {i : Nat} {c : Int}, cs[i]? = some c → (dec cs i).sum = cs.sum - 1
  | [], i, c, h => by simp at h
  | x :: cs, 0, c, h => by simp [dec]; omega
  | x :: cs, i + 1, c, h => by
    have h : cs[i]? = some c := by simpa using h
    have ih := sum_dec h
    unfold dec at ih ⊢
    simp only [List.set_cons_succ, List.sum_cons, List.getD_cons_succ]
    omega
structure Ok (gs : List (Int × Int)) (N : Nat) (hs cs : List Int) : Prop where
  hl : hs.length = N
  hp : ∀ x, x ∈ hs → 0 ≤ x
  cl : cs.length = gs.length
  cp : ∀ x, x ∈ cs → 0 ≤ x
def Mem (gs : List (Int × Int)) (N : Nat) (m : Int) (kvs : List (NK × Bool)) : Prop := ∀ hs cs v, getN kvs (hs, cs) = some v → Ok gs N hs cs → cs.sum ≤ m → v = goodB gs hs cs
theorem Ok.pass {rooms : Int} {gs : List (Int × Int)} {hs cs : List Int} (h : GoodH rooms gs) (O : Ok gs rooms.toNat hs cs) {i : Nat} {g : Int × Int} (U : Use gs hs cs i g) : Ok gs rooms.toNat (mvL hs g) (dec cs i) := by
  have F := fitL h O.hl O.cl O.cp
  obtain ⟨c, h2, h3⟩ := U.2.1
  have F2 := F.dec h2 h3
  exact ⟨by rw [mvL_len]; exact O.hl, mv_pos F O.hp U, F2.len, F2.pos⟩
def OkI (gs : List (Int × Int)) (hs cs : List Int) (i : Nat) : Prop := ∃ g, Use gs hs cs i g ∧ GoodL gs (mvL hs g) (dec cs i)
open Classical in
noncomputable def upTo (gs : List (Int × Int)) (hs cs : List Int) (j : Nat) : Bool := decide (∃ i, i < j ∧ OkI gs hs cs i)
theorem upTo_iff {gs : List (Int × Int)} {hs cs : List Int} {j : Nat} : upTo gs hs cs j = true ↔ ∃ i, i < j ∧ OkI gs hs cs i := by
  classical
  unfold upTo
  simp
theorem upTo_all {rooms : Int} {gs : List (Int × Int)} {hs cs : List Int} (h : GoodH rooms gs) (O : Ok gs rooms.toNat hs cs) (hs0 : cs.sum ≠ 0) : upTo gs hs cs cs.length = goodB gs hs cs := by
  rw [Bool.eq_iff_iff, upTo_iff, goodB_iff, good_iff (fitL h O.hl O.cl O.cp) O.hp]
  constructor
  · rintro ⟨i, _, g, U, G⟩
    exact .inr ⟨i, g, U, G⟩
  · rintro (z | ⟨i, g, U, G⟩)
    · exact absurd z hs0
    · obtain ⟨c, h2, _⟩ := U.2.1
      exact ⟨i, (List.getElem?_eq_some_iff.mp h2).1, g, U, G⟩
theorem nk_of (hs cs : List Int) : nkOf (.tup [.tup (hs.map .int), .tup (cs.map .int)]) = some (hs, cs) := by
  show (match intsOf (hs.map Val.int), intsOf (cs.map Val.int) with
    | some a, some b => some (a, b)
    | _, _ => none) = _
  rw [intsOf_map, intsOf_map]
theorem okOld_dN {st : Sto} {n : Nat} {kvs : List (NK × Bool)} : okOld st (st.set n (.dN kvs)) = true := by
  unfold okOld
  rw [List.all_eq_true]
  intro i hi
  have hi := List.mem_range.mp hi
  by_cases e : n = i
  · subst e
    rw [List.getElem?_set_self hi, List.getElem?_eq_getElem hi]
    simp [belOb]
  · rw [List.getElem?_set_ne e, List.getElem?_eq_getElem hi]
    simp [Ob.same_refl]
end Gc

set_option Elab.async false
set_option linter.all false
set_option maxRecDepth 100000
set_option maxHeartbeats 4000000
namespace Gc
open PySem PySem.Spec PyProof.Rows L2 Ev
open Gr (Fit Good dec)
def stepV : S := sSet 6 (eIf (eTest (eB fGt (eB fIx (eV 2) (eV 5)) (eC (.int 0)))) (eCall 3 m__law_passed (eCons (eV 0) (eCons (eV 1) (eCons (eV 5) eNil)))) (eC .non))
def stepK (mf : Fn) : S := sIf (eAndT (eTest (eB fIsNot (eV 6) (eC .non))) (eNotT (eTest (eB fIxN (eV 3) (eV 4))))) (sAsg (gIxN (eV 3) (eV 4)) (eCall 4 mf (eCons (eV 0) (eCons (eV 6) (eCons (eCall 2 m__law_less (eCons (eV 2) (eCons (eV 5) eNil))) (eCons (eV 3) eNil)))))) sSkip
theorem b_can_eq (mf : Fn) : b__law_can mf = sSeq (sIf (eTest (eB fEqA (eBf fSumT (eCons (eV 2) eNil)) (eC (.int 0)))) (sRet (eC (.bl true))) sSkip)
  (sSeq (sSet 4 (eTup (eCons (eV 1) (eCons (eV 2) eNil))))
  (sSeq (sIf (eTest (eB fNotInN (eV 4) (eV 3))) (sSeq (sAsg (gIxN (eV 3) (eV 4)) (eC (.bl false)))
  (sFor (itRange1 (eCons (eBf fLen (eCons (eV 2) eNil)) eNil)) (gN 5) (sSeq stepV (stepK mf)))) sSkip)
  (sRet (eB fIxN (eV 3) (eV 4))))) := rfl
section
variable {st : Sto} {n : Nat} {kvs : List (NK × Bool)}
theorem dN_of (h : st[n]? = some (.dN kvs)) : dNOf st (.loc n) = some kvs := by
  unfold dNOf
  dsimp only
  rw [h]
theorem notInN_ok {hs cs : List Int} (h : st[n]? = some (.dN kvs)) : fNotInN st (.tup [.tup (hs.map .int), .tup (cs.map .int)]) (.loc n) = some (.bl (!(getN kvs (hs, cs)).isSome)) := by
  unfold fNotInN
  rw [nk_of, dN_of h]
theorem ixN_ok {hs cs : List Int} {b : Bool} (h : st[n]? = some (.dN kvs)) (hv : getN kvs (hs, cs) = some b) : fIxN st (.loc n) (.tup [.tup (hs.map .int), .tup (cs.map .int)]) = some (.bl b) := by
  unfold fIxN
  rw [nk_of, dN_of h]
  dsimp only
  rw [hv]; rfl
theorem setN_ok {hs cs : List Int} {b : Bool} (h : st[n]? = some (.dN kvs)) (hl : kvs.length ≤ 1000000) : fSetN st (.loc n) (.tup [.tup (hs.map .int), .tup (cs.map .int)]) (.bl b) = some (st.set n (.dN (putN kvs (hs, cs) b))) := by
  unfold fSetN
  rw [nk_of, dN_of h]
  dsimp only
  rw [if_pos]
  have := sz (n := 1000001) (by decide)
  omega
theorem set_again {x y : Ob} : (st.set n x).set n y = st.set n y := by
  rw [List.set_set]
theorem get_again {x : Ob} (h : st[n]? = some y) : (st.set n x)[n]? = some x := List.getElem?_set_self (List.getElem?_eq_some_iff.mp h).1
theorem set_same {x : Ob} (h : st[n]? = some x) : st.set n x = st := by
  obtain ⟨h1, h2⟩ := List.getElem?_eq_some_iff.mp h
  rw [← h2, List.set_getElem_self]
end
def kV2 (hs cs : List Int) : Val := .tup [.tup (hs.map .int), .tup (cs.map .int)]
def envC (rooms : Int) (gs : List (Int × Int)) (hs cs : List Int) (n : Nat) (x5 x6 : Option Val) : Ev.Env := [some (gh rooms gs), some (.tup (hs.map .int)), some (.tup (cs.map .int)), some (.loc n), some (kV2 hs cs), x5, x6]
/-- the value of the next heads, if the gate can be passed -/
theorem stepV_ok {rooms : Int} {gs : List (Int × Int)} {hs cs : List Int} (h : GoodH rooms gs) (O : Ok gs rooms.toNat hs cs) {n : Nat} {x6 : Option Val} {i : Nat} (hi : i < cs.length) (st : Sto) :
    (∃ g, Use gs hs cs i g ∧ stepV (envC rooms gs hs cs n (some (.int (0 + i))) x6) st = .nx (envC rooms gs hs cs n (some (.int (0 + i))) (some (.tup ((mvL hs g).map .int)))) st) ∨
    ((∀ g, ¬ Use gs hs cs i g) ∧ stepV (envC rooms gs hs cs n (some (.int (0 + i))) x6) st = .nx (envC rooms gs hs cs n (some (.int (0 + i))) (some .non)) st) := by
  have hg : gs[i]? = some (gs[i]'(by have := O.cl; omega)) := List.getElem?_eq_getElem _
  generalize (gs[i]'(by have := O.cl; omega)) = g at hg
  have hc : cs[i]? = some cs[i] := List.getElem?_eq_getElem _
  generalize cs[i] = c at hc
  have hz : (0 : Int) + (i : Int) = i := by omega
  have hlen : hs.length ≤ 1000 := by have := O.hl; have := h.hi; omega
  have hN : (hs.length : Int) = rooms := by have := O.hl; have := h.lo; omega
  have g1 : g.1 < hs.length := by have := (h.at_ g (List.mem_of_getElem? hg)).2.1; omega
  have e1 : fIx st (.tup (cs.map Val.int)) (.int i) = some (.int c) := ix_tup (by omega) (by rw [Int.toNat_natCast, List.getElem?_map, hc]; rfl)
  have tst : (eTest (eB fGt (eB fIx (eV 2) (eV 5)) (eC (.int 0)))) (envC rooms gs hs cs n (some (.int (0 + i))) x6) st = .ok (decide (0 < c)) st := by
    unfold envC
    rw [hz]
    generalize cs.map Val.int = zs at e1 ⊢
    generalize hs.map Val.int = ys
    generalize kV2 hs cs = kk
    simp only [c_Test, c_B, c_V, List.getElem?_cons_succ, List.getElem?_cons_zero, bindR_ok, e1, optR_some, c_C, k_gt]
  have args : eCons (eV 0) (eCons (eV 1) (eCons (eV 5) eNil)) (envC rooms gs hs cs n (some (.int (0 + i))) x6) st = .ok [gh rooms gs, .tup (hs.map .int), .int i] st := by
    unfold envC
    rw [hz]
    generalize cs.map Val.int = zs
    generalize hs.map Val.int = ys
    generalize kV2 hs cs = kk
    simp only [c_Cons, c_V, c_Nil, List.getElem?_cons_succ, List.getElem?_cons_zero, bindR_ok]
  have fin : ∀ v, stepV (envC rooms gs hs cs n (some (.int (0 + i))) x6) st = (bindS (.ok v st) (envC rooms gs hs cs n (some (.int (0 + i))) x6) fun v st1 => .nx ((envC rooms gs hs cs n (some (.int (0 + i))) x6).set 6 (some v)) st1) → stepV (envC rooms gs hs cs n (some (.int (0 + i))) x6) st = .nx (envC rooms gs hs cs n (some (.int (0 + i))) (some v)) st := fun v e => by
    rw [e, d_bindS_ok]
    rfl
  by_cases q : 0 < c
  · by_cases u : g.1 < 0 ∨ hs.getD g.1.toNat 0 ≠ 0
    · refine .inl ⟨g, ⟨hg, ⟨c, hc, q⟩, u⟩, fin _ ?_⟩
      unfold stepV
      rw [d_Set, c_If, tst, bindR_ok, decide_eq_true q, if_pos rfl, c_Call, args, bindR_ok, if_pos (show ([gh rooms gs, Val.tup (hs.map .int), Val.int i] : List Val).length = 3 from rfl), passed_some hg g1 hlen u]
    · have u2 : 0 ≤ g.1 ∧ hs.getD g.1.toNat 0 = 0 := by
        refine ⟨?_, ?_⟩
        · rcases (show g.1 < 0 ∨ 0 ≤ g.1 by omega) with z | z
          · exact absurd (.inl z) u
          · exact z
        · exact Classical.byContradiction fun z => u (.inr z)
      refine .inr ⟨fun g' U => ?_, fin _ ?_⟩
      · have := U.1
        rw [hg] at this
        cases this
        exact u U.2.2
      · unfold stepV
        rw [d_Set, c_If, tst, bindR_ok, decide_eq_true q, if_pos rfl, c_Call, args, bindR_ok, if_pos (show ([gh rooms gs, Val.tup (hs.map .int), Val.int i] : List Val).length = 3 from rfl), passed_none hg u2.1 g1 hlen u2.2]
  · refine .inr ⟨fun g' U => ?_, fin _ ?_⟩
    · obtain ⟨c', h1, h2⟩ := U.2.1
      rw [hc] at h1
      cases h1
      exact q h2
    · unfold stepV
      rw [d_Set, c_If, tst, bindR_ok, decide_eq_false q, if_neg (by decide), c_C]
end Gc

set_option Elab.async false
set_option linter.all false
set_option maxRecDepth 100000
set_option maxHeartbeats 4000000
namespace Gc
open PySem PySem.Spec PyProof.Rows L2 Ev
open Gr (Fit Good dec)
theorem upTo_use {gs : List (Int × Int)} {hs cs : List Int} {j : Nat} {g : Int × Int} (U : Use gs hs cs j g) : upTo gs hs cs (j + 1) = (upTo gs hs cs j || goodB gs (mvL hs g) (dec cs j)) := by
  rw [Bool.eq_iff_iff, Bool.or_eq_true, upTo_iff, upTo_iff, goodB_iff]
  constructor
  · rintro ⟨i, hi, O⟩
    by_cases e : i = j
    · subst e
      obtain ⟨g', U', G⟩ := O
      have : g' = g := by have := U'.1; rw [U.1] at this; exact (Option.some.inj this).symm
      exact .inr (this ▸ G)
    · exact .inl ⟨i, by omega, O⟩
  · rintro (⟨i, hi, O⟩ | G)
    · exact ⟨i, by omega, O⟩
    · exact ⟨j, by omega, g, U, G⟩
theorem upTo_none {gs : List (Int × Int)} {hs cs : List Int} {j : Nat} (U : ∀ g, ¬ Use gs hs cs j g) : upTo gs hs cs (j + 1) = upTo gs hs cs j := by
  rw [Bool.eq_iff_iff, upTo_iff, upTo_iff]
  constructor
  · rintro ⟨i, hi, O⟩
    by_cases e : i = j
    · subst e
      obtain ⟨g', U', G⟩ := O
      exact absurd U' (U g')
    · exact ⟨i, by omega, O⟩
  · rintro ⟨i, hi, O⟩
    exact ⟨i, by omega, O⟩
theorem upTo_0 {gs : List (Int × Int)} {hs cs : List Int} : upTo gs hs cs 0 = false := by
  cases e : upTo gs hs cs 0 with
  | false => rfl
  | true => obtain ⟨i, hi, _⟩ := upTo_iff.mp e; omega
theorem more_mono (L : Nat) : ∀ {m m' : Nat}, m ≤ m' → more L m ≤ more L m'
  | 0, m', _ => Nat.zero_le _
  | m + 1, 0, h => by omega
  | m + 1, m' + 1, h => by
    have := more_mono L (m := m) (m' := m') (by omega)
    have := Nat.mul_le_mul_left L this
    show 1 + L * more L m ≤ 1 + L * more L m'
    omega
theorem can_ok {rooms : Int} {gs : List (Int × Int)} (h : GoodH rooms gs) : ∀ (k : Nat) (hs cs : List Int) (kvs : List (NK × Bool)) (st : Sto) (n : Nat), Ok gs rooms.toNat hs cs → cs.sum < k → st[n]? = some (.dN kvs) → Mem gs rooms.toNat cs.sum kvs → kvs.length + more gs.length cs.sum.toNat ≤ 1000000 →
    ∃ kvs', r__law_can k [gh rooms gs, .tup (hs.map .int), .tup (cs.map .int), .loc n] st = .ok (.bl (goodB gs hs cs)) (st.set n (.dN kvs')) ∧ Mem gs rooms.toNat cs.sum kvs' ∧ kvs'.length ≤ kvs.length + more gs.length cs.sum.toNat ∧ ∀ key : NK, cs.sum < key.2.sum → getN kvs' key = getN kvs key
  | 0, hs, cs, kvs, st, n, O, hk, _, _, _ => by
    have : 0 ≤ cs.sum := by
      have := Gr.sumP_nonneg (f := fun c => c) (P := cs) O.cp
      unfold Gr.sumP at this
      simpa using this
    omega
  | k + 1, hs, cs, kvs, st, n, O, hk, hst, M, hz => by
    have pos : 0 ≤ cs.sum := by
      have := Gr.sumP_nonneg (f := fun c => c) (P := cs) O.cp
      unfold Gr.sumP at this
      simpa using this
    have F := fitL h O.hl O.cl O.cp
    have hstart : startE 7 [gh rooms gs, .tup (hs.map .int), .tup (cs.map .int), .loc n] = [some (gh rooms gs), some (.tup (hs.map .int)), some (.tup (cs.map .int)), some (.loc n), none, none, none] := rfl
    have s0 : eTest (eB fEqA (eBf fSumT (eCons (eV 2) eNil)) (eC (.int 0))) [some (gh rooms gs), some (.tup (hs.map .int)), some (.tup (cs.map .int)), some (.loc n), none, none, none] st = .ok (decide (cs.sum = 0)) st := by
      have e := sumT_ok (st := st) cs
      generalize cs.map Val.int = zs at e ⊢
      simp only [c_Test, c_B, c_Bf, c_Cons, c_V, c_Nil, List.getElem?_cons_succ, List.getElem?_cons_zero, bindR_ok, e, optR_some, c_C, k_eqI]
    by_cases z0 : cs.sum = 0
    · -- nobody passes any more
      refine ⟨kvs, ?_, M, by omega, fun _ _ => rfl⟩
      rw [set_same hst]
      have g1 : goodB gs hs cs = true := goodB_iff.mpr ((good_iff F O.hp).mpr (.inl z0))
      rw [g1]
      show runF 7 (b__law_can (r__law_can k)) _ st = _
      refine runF_same ?_ rfl
      rw [hstart, b_can_eq, d_Seq, d_If, s0, d_bindS_ok, decide_eq_true z0, if_pos rfl, d_Ret, c_C, d_bindS_ok]
    · obtain ⟨m, hm⟩ : ∃ m : Nat, cs.sum = (m : Int) + 1 := ⟨(cs.sum - 1).toNat, by omega⟩
      have hmN : cs.sum.toNat = m + 1 := by omega
      rw [hmN] at hz ⊢
      have hM : more gs.length (m + 1) = 1 + gs.length * more gs.length m := rfl
      have key : kV2 hs cs = .tup [.tup (hs.map .int), .tup (cs.map .int)] := rfl
      have clen : cs.length = gs.length := O.cl
      have s1 : sSet 4 (eTup (eCons (eV 1) (eCons (eV 2) eNil))) [some (gh rooms gs), some (.tup (hs.map .int)), some (.tup (cs.map .int)), some (.loc n), none, none, none] st = .nx (envC rooms gs hs cs n none none) st := by
        unfold envC
        rw [key]
        generalize hs.map Val.int = ys
        generalize cs.map Val.int = zs
        simp only [d_Set, c_Tup, c_Cons, c_V, c_Nil, List.getElem?_cons_succ, List.getElem?_cons_zero, bindR_ok, List.length_cons, List.length_nil]
        rw [if_pos (sz (by decide)), d_bindS_ok]
        rfl
      have tNot : eTest (eB fNotInN (eV 4) (eV 3)) (envC rooms gs hs cs n none none) st = .ok (!(getN kvs (hs, cs)).isSome) st := by
        have e := notInN_ok (hs := hs) (cs := cs) hst
        rw [← key] at e
        unfold envC
        generalize hs.map Val.int = ys
        generalize cs.map Val.int = zs
        generalize kV2 hs cs = kk at e ⊢
        simp only [c_Test, c_B, c_V, List.getElem?_cons_succ, List.getElem?_cons_zero, bindR_ok, e, optR_some]
      -- what stands behind it
      have fin : ∀ (kf : List (NK × Bool)) (y5 y6 : Option Val), getN kf (hs, cs) = some (goodB gs hs cs) → sIf (eTest (eB fNotInN (eV 4) (eV 3))) (sSeq (sAsg (gIxN (eV 3) (eV 4)) (eC (.bl false)))
          (sFor (itRange1 (eCons (eBf fLen (eCons (eV 2) eNil)) eNil)) (gN 5) (sSeq stepV (stepK (r__law_can k))))) sSkip (envC rooms gs hs cs n none none) st = .nx (envC rooms gs hs cs n y5 y6) (st.set n (.dN kf)) →
          r__law_can (k + 1) [gh rooms gs, .tup (hs.map .int), .tup (cs.map .int), .loc n] st = .ok (.bl (goodB gs hs cs)) (st.set n (.dN kf)) := fun kf y5 y6 hv e => by
        show runF 7 (b__law_can (r__law_can k)) _ st = _
        refine runF_of0 ?_ (by rw [List.length_set]) okOld_dN rfl
        have last : eB fIxN (eV 3) (eV 4) (envC rooms gs hs cs n y5 y6) (st.set n (.dN kf)) = .ok (.bl (goodB gs hs cs)) (st.set n (.dN kf)) := by
          have e := ixN_ok (hs := hs) (cs := cs) (get_again (x := .dN kf) hst) hv
          rw [← key] at e
          unfold envC
          generalize hs.map Val.int = ys
          generalize cs.map Val.int = zs
          generalize kV2 hs cs = kk at e ⊢
          simp only [c_B, c_V, List.getElem?_cons_succ, List.getElem?_cons_zero, bindR_ok, e, optR_some]
        rw [hstart, b_can_eq, d_Seq, d_If, s0, d_bindS_ok, decide_eq_false z0, if_neg (by decide), d_Skip]
        dsimp only
        rw [d_Seq, s1]
        dsimp only
        rw [d_Seq, e]
        dsimp only
        rw [d_Ret, last, d_bindS_ok]
      cases hq : getN kvs (hs, cs) with
      | some b =>
        -- it is known
        have hb := M hs cs b hq O (Int.le_refl _)
        subst hb
        refine ⟨kvs, fin kvs none none hq ?_, M, by omega, fun _ _ => rfl⟩
        rw [d_If, tNot, d_bindS_ok, hq, set_same hst]
        rfl
      | none =>
        let k0 := putN kvs (hs, cs) false
        have k0l : k0.length ≤ kvs.length + 1 := (putN_len kvs (hs, cs) false).1
        have setF : sAsg (gIxN (eV 3) (eV 4)) (eC (.bl false)) (envC rooms gs hs cs n none none) st = .nx (envC rooms gs hs cs n none none) (st.set n (.dN k0)) := by
          have e := setN_ok (hs := hs) (cs := cs) (b := false) hst (by omega)
          rw [← key] at e
          unfold envC
          generalize hs.map Val.int = ys
          generalize cs.map Val.int = zs
          show bindS _ _ _ = _
          generalize kV2 hs cs = kk at e ⊢
          simp only [c_C, d_bindS_ok, c_gIxN, c_V, List.getElem?_cons_succ, List.getElem?_cons_zero, e, Option.map_some]
          rfl
        have rng : itRange1 (eCons (eBf fLen (eCons (eV 2) eNil)) eNil) (envC rooms gs hs cs n none none) (st.set n (.dN k0)) = .ok ((List.range cs.length).map fun k : Nat => Val.int (0 + k)) (st.set n (.dN k0)) := by
          have := range_len (st := st.set n (.dN k0)) (i := 2) (ρ := envC rooms gs hs cs n none none) (ys := cs.map Val.int) rfl (by rw [List.length_map, clen]; have := h.len; omega)
          rw [List.length_map] at this
          exact this
        have loop : ∀ (d j : Nat), j + d = cs.length → ∀ (kj : List (NK × Bool)) (x5 x6 : Option Val), getN kj (hs, cs) = some (upTo gs hs cs j) → Mem gs rooms.toNat m kj → (∀ key : NK, (m : Int) < key.2.sum → key ≠ (hs, cs) → getN kj key = getN kvs key) → kj.length ≤ kvs.length + 1 + j * more gs.length m →
            ∃ kf y5 y6, forL (gN 5) (sSeq stepV (stepK (r__law_can k))) ((List.range' j d).map fun i : Nat => Val.int (0 + i)) (envC rooms gs hs cs n x5 x6) (st.set n (.dN kj)) = .nx (envC rooms gs hs cs n y5 y6) (st.set n (.dN kf)) ∧ getN kf (hs, cs) = some (upTo gs hs cs cs.length) ∧ Mem gs rooms.toNat m kf ∧
              (∀ key : NK, (m : Int) < key.2.sum → key ≠ (hs, cs) → getN kf key = getN kvs key) ∧ kf.length ≤ kvs.length + 1 + cs.length * more gs.length m := fun d => by
          induction d with
          | zero =>
            intro j hj kj x5 x6 h1 h2 h3 h4
            have : j = cs.length := by omega
            subst this
            exact ⟨kj, x5, x6, rfl, h1, h2, h3, h4⟩
          | succ d ih =>
            intro j hj kj x5 x6 h1 h2 h3 h4
            rw [List.range'_succ, List.map_cons, forL_cons]
            have eg : gN 5 (Val.int (0 + (j : Int))) (envC rooms gs hs cs n x5 x6) (st.set n (.dN kj)) = some (envC rooms gs hs cs n (some (.int (0 + j))) x6, st.set n (.dN kj)) := rfl
            rw [eg]
            dsimp only
            rw [d_Seq]
            have hj2 : j < cs.length := by omega
            have mulj : (j + 1) * more gs.length m ≤ gs.length * more gs.length m := Nat.mul_le_mul_right _ (by omega)
            have mul1 : (j + 1) * more gs.length m = j * more gs.length m + more gs.length m := Nat.succ_mul _ _
            have known : ∀ v6, eTest (eB fIxN (eV 3) (eV 4)) (envC rooms gs hs cs n (some (.int (0 + j))) v6) (st.set n (.dN kj)) = .ok (upTo gs hs cs j) (st.set n (.dN kj)) := fun v6 => by
              have e := ixN_ok (hs := hs) (cs := cs) (get_again (x := .dN kj) hst) h1
              rw [← key] at e
              unfold envC
              generalize hs.map Val.int = ys
              generalize cs.map Val.int = zs
              generalize kV2 hs cs = kk at e ⊢
              simp only [c_Test, c_B, c_V, List.getElem?_cons_succ, List.getElem?_cons_zero, bindR_ok, e, optR_some]
            rcases stepV_ok h O (n := n) (x6 := x6) hj2 (st.set n (.dN kj)) with ⟨g, U, e⟩ | ⟨U, e⟩
            · rw [e]
              dsimp only
              have tst : (eAndT (eTest (eB fIsNot (eV 6) (eC .non))) (eNotT (eTest (eB fIxN (eV 3) (eV 4))))) (envC rooms gs hs cs n (some (.int (0 + j))) (some (.tup ((mvL hs g).map .int)))) (st.set n (.dN kj)) = .ok (!upTo gs hs cs j) (st.set n (.dN kj)) := by
                have i1 : eTest (eB fIsNot (eV 6) (eC .non)) (envC rooms gs hs cs n (some (.int (0 + j))) (some (.tup ((mvL hs g).map .int)))) (st.set n (.dN kj)) = .ok true (st.set n (.dN kj)) := rfl
                rw [c_AndT, i1, bindR_ok, if_pos rfl, c_NotT, known, bindR_ok]
              cases hu : upTo gs hs cs j with
              | true =>
                have sk : stepK (r__law_can k) (envC rooms gs hs cs n (some (.int (0 + j))) (some (.tup ((mvL hs g).map .int)))) (st.set n (.dN kj)) = .nx (envC rooms gs hs cs n (some (.int (0 + j))) (some (.tup ((mvL hs g).map .int)))) (st.set n (.dN kj)) := by
                  unfold stepK
                  rw [d_If, tst, d_bindS_ok, hu]
                  rfl
                rw [sk]
                dsimp only
                exact ih (j + 1) (by omega) kj _ _ (by rw [h1, upTo_use U, hu]; rfl) h2 h3 (by omega)
              | false =>
                obtain ⟨c, hc1, hc2⟩ := U.2.1
                have O' := O.pass h U
                have sd := sum_dec hc1
                have sd2 : (dec cs j).sum = (m : Int) := by omega
                obtain ⟨kr, r1, r2, r3, r4⟩ := can_ok h k (mvL hs g) (dec cs j) kj (st.set n (.dN kj)) n O' (by omega) (get_again hst) (by rw [sd2]; exact h2) (by rw [sd2, Int.toNat_natCast]; omega)
                rw [set_again] at r1
                rw [sd2] at r2 r4
                rw [sd2, Int.toNat_natCast] at r3
                have hkey : getN kr (hs, cs) = some false := by
                  rw [r4 (hs, cs) (by show (m : Int) < cs.sum; omega), h1, hu]
                let v := goodB gs (mvL hs g) (dec cs j)
                have args : eCons (eV 0) (eCons (eV 6) (eCons (eCall 2 m__law_less (eCons (eV 2) (eCons (eV 5) eNil))) (eCons (eV 3) eNil))) (envC rooms gs hs cs n (some (.int (0 + j))) (some (.tup ((mvL hs g).map .int)))) (st.set n (.dN kj)) = .ok [gh rooms gs, .tup ((mvL hs g).map .int), .tup ((dec cs j).map .int), .loc n] (st.set n (.dN kj)) := by
                  have el := less_ok (st := st.set n (.dN kj)) hc1 (by rw [clen]; have := h.len; omega)
                  have z : (0 : Int) + (j : Int) = j := by omega
                  rw [z]
                  unfold envC
                  generalize hs.map Val.int = ys
                  generalize cs.map Val.int = zs at el ⊢
                  generalize (mvL hs g).map Val.int = ws
                  generalize (dec cs j).map Val.int = us at el ⊢
                  generalize kV2 hs cs = kk
                  have l2 : ([Val.tup zs, Val.int (j : Int)] : List Val).length = 2 := rfl
                  simp only [c_Cons, c_V, c_Nil, c_Call, List.getElem?_cons_succ, List.getElem?_cons_zero, bindR_ok, l2, if_true, el]
                have sk : stepK (r__law_can k) (envC rooms gs hs cs n (some (.int (0 + j))) (some (.tup ((mvL hs g).map .int)))) (st.set n (.dN kj)) = .nx (envC rooms gs hs cs n (some (.int (0 + j))) (some (.tup ((mvL hs g).map .int)))) (st.set n (.dN (putN kr (hs, cs) v))) := by
                  unfold stepK
                  rw [d_If, tst, d_bindS_ok, hu]
                  rw [if_pos (show (!false) = true from rfl), d_Asg, c_Call, args, bindR_ok, if_pos (show ([gh rooms gs, Val.tup ((mvL hs g).map .int), Val.tup ((dec cs j).map .int), Val.loc n] : List Val).length = 4 from rfl), r1, d_bindS_ok, c_gIxN]
                  have e := setN_ok (hs := hs) (cs := cs) (b := v) (get_again (x := .dN kr) hst) (by omega)
                  rw [← key, set_again] at e
                  have v3 : eV 3 (envC rooms gs hs cs n (some (.int (0 + j))) (some (.tup ((mvL hs g).map .int)))) (st.set n (.dN kr)) = .ok (.loc n) (st.set n (.dN kr)) := rfl
                  have v4 : eV 4 (envC rooms gs hs cs n (some (.int (0 + j))) (some (.tup ((mvL hs g).map .int)))) (st.set n (.dN kr)) = .ok (kV2 hs cs) (st.set n (.dN kr)) := rfl
                  rw [v3]
                  dsimp only
                  rw [v4]
                  dsimp only
                  rw [e]
                  rfl
                rw [sk]
                dsimp only
                refine ih (j + 1) (by omega) (putN kr (hs, cs) v) _ _ ?_ ?_ ?_ ?_
                · rw [getN_put, if_pos rfl, upTo_use U, hu]; rfl
                · intro hs2 cs2 b hb O2 hle
                  rw [getN_put] at hb
                  by_cases e2 : (hs, cs) = (hs2, cs2)
                  · cases e2; omega
                  · rw [if_neg e2] at hb
                    exact r2 hs2 cs2 b hb O2 hle
                · intro key2 k1 k2
                  rw [getN_put, if_neg (fun z => k2 z.symm), r4 key2 k1]
                  exact h3 key2 k1 k2
                · rw [(putN_len kr (hs, cs) v).2 (by rw [hkey]; rfl)]
                  omega
            · rw [e]
              dsimp only
              have sk : stepK (r__law_can k) (envC rooms gs hs cs n (some (.int (0 + j))) (some .non)) (st.set n (.dN kj)) = .nx (envC rooms gs hs cs n (some (.int (0 + j))) (some .non)) (st.set n (.dN kj)) := by
                have i1 : eTest (eB fIsNot (eV 6) (eC .non)) (envC rooms gs hs cs n (some (.int (0 + j))) (some .non)) (st.set n (.dN kj)) = .ok false (st.set n (.dN kj)) := rfl
                unfold stepK
                rw [d_If, c_AndT, i1, bindR_ok, if_neg (by decide), d_bindS_ok, if_neg (by decide), d_Skip]
              rw [sk]
              dsimp only
              exact ih (j + 1) (by omega) kj _ _ (by rw [h1, upTo_none U]) h2 h3 (by omega)
        obtain ⟨kf, y5, y6, e, w1, w2, w3, w4⟩ := loop cs.length 0 (by omega) k0 none none (by rw [getN_put, if_pos rfl, upTo_0]) (fun hs2 cs2 b hb O2 hle => by
            rw [getN_put] at hb
            by_cases e2 : (hs, cs) = (hs2, cs2)
            · cases e2; omega
            · rw [if_neg e2] at hb
              exact M hs2 cs2 b hb O2 (by omega)) (fun key2 _ k2 => by rw [getN_put, if_neg (fun z => k2 z.symm)]) (by omega)
        rw [upTo_all h O z0] at w1
        refine ⟨kf, fin kf y5 y6 w1 ?_, ?_, by rw [clen] at w4; omega, fun key2 hk2 => ?_⟩
        · rw [d_If, tNot, d_bindS_ok, hq]
          rw [if_pos (show (!(none : Option Bool).isSome) = true from rfl), d_Seq, setF]
          dsimp only
          rw [d_For, rng, d_bindS_ok, List.range_eq_range', e]
        · intro hs2 cs2 b hb O2 hle
          by_cases e2 : (hs2, cs2) = (hs, cs)
          · cases e2
            rw [w1] at hb
            exact (Option.some.inj hb).symm
          · by_cases q : cs2.sum ≤ (m : Int)
            · exact w2 hs2 cs2 b hb O2 q
            · rw [w3 (hs2, cs2) (by show (m : Int) < cs2.sum; omega) e2] at hb
              exact M hs2 cs2 b hb O2 hle
        · refine w3 key2 (by omega) fun z => ?_
          rw [z] at hk2
          have : cs.sum < cs.sum := hk2
          omega
end Gc

set_option Elab.async false
set_option linter.all false
set_option maxRecDepth 100000
set_option maxHeartbeats 4000000
namespace Gc
open PySem PySem.Spec PyProof.Rows L2 Ev
section
variable {d : Ob} {rest : Sto} {x y z : Ob}
theorem get2a : (d :: (rest ++ [x, y]))[rest.length + 1]? = some x := by simp
theorem get2b : (d :: (rest ++ [x, y]))[rest.length + 2]? = some y := by
  rw [List.getElem?_cons_succ, List.getElem?_append_right (by omega)]
  simp
theorem set2a : (d :: (rest ++ [x, y])).set (rest.length + 1) z = d :: (rest ++ [z, y]) := by simp
theorem set2b : (d :: (rest ++ [x, y])).set (rest.length + 2) z = d :: (rest ++ [x, z]) := by
  rw [List.set_cons_succ, List.set_append_right _ _ (by omega)]
  simp
end
theorem forL_step {g : G} {b : S} {v : Val} {vs : List Val} {ρ ρ1 ρ2 : Ev.Env} {st st1 st2 : Sto} (h1 : g v ρ st = some (ρ1, st1)) (h2 : b ρ1 st1 = .nx ρ2 st2) : forL g b (v :: vs) ρ st = forL g b vs ρ2 st2 := by
  rw [forL_cons, h1]
  dsimp only
  rw [h2]
theorem seq_nx {a b : S} {ρ ρ1 : Ev.Env} {st st1 : Sto} (h : a ρ st = .nx ρ1 st1) : sSeq a b ρ st = b ρ1 st1 := by
  rw [d_Seq, h]
theorem at_ints {ns : List Int} {r : Int} (h0 : 0 ≤ r) (h1 : r < ns.length) : L2.atI (ns.map Val.int) r = some (.int (ns.getD r.toNat 0)) := by
  have hr : r.toNat < ns.length := by omega
  rw [atI_ok h0 (by rw [List.length_map]; omega), List.getElem?_map, List.getD_eq_getElem?_getD, List.getElem?_eq_getElem hr]
  rfl
theorem ix_loc {st : Sto} {n : Nat} {ns : List Int} {r : Int} (h : st[n]? = some (.lst (ns.map .int))) (h0 : 0 ≤ r) (h1 : r < ns.length) : fIx st (.loc n) (.int r) = some (.int (ns.getD r.toNat 0)) := by
  have e : seqOf st (.loc n) = some (ns.map .int) := by
    unfold seqOf dr
    simp only [h]
  unfold fIx
  rw [e]
  exact at_ints h0 h1
theorem augI_ok {f : Sto → Val → Val → Option Val} {ρ : Ev.Env} {st : Sto} {a b n : Nat} {ns : List Int} {r v : Int} (ha : ρ[a]? = some (some (.loc n))) (hb : ρ[b]? = some (some (.int r))) (h : st[n]? = some (.lst (ns.map .int))) (h0 : 0 ≤ r) (h1 : r < ns.length)
    (hf : f st (.int (ns.getD r.toNat 0)) (.int 1) = some (.int v)) : sAugI f (eV a) (eV b) (eC (.int 1)) ρ st = .nx ρ (st.set n (.lst ((ns.set r.toNat v).map .int))) := by
  have e1 : eV a ρ st = .ok (.loc n) st := by rw [c_V, ha]
  have e2 : eV b ρ st = .ok (.int r) st := by rw [c_V, hb]
  have e3 : fGet st (.loc n) (.int r) = some (.int (ns.getD r.toNat 0)) := by
    unfold fGet lstOf dr
    simp only [h]
    exact at_ints h0 h1
  have e4 : fSet st (.loc n) (.int r) (.int v) = some (st.set n (.lst ((ns.set r.toNat v).map .int))) := by
    unfold fSet
    simp only [h]
    rw [ixN_in h0 (by rw [List.length_map]; omega)]
    simp only [Option.map_some, List.map_set]
  unfold sAugI
  rw [e1]
  dsimp only
  rw [e2]
  dsimp only
  rw [e3]
  dsimp only
  rw [c_C]
  dsimp only
  rw [hf]
  dsimp only
  rw [e4]
theorem range_lenE {st : Sto} {ρ : Ev.Env} {e : E} {ys : List Val} (he : e ρ st = .ok (.tup ys) st) (hl : ys.length ≤ 1000) : itRange1 (eCons (eBf fLen (eCons e eNil)) eNil) ρ st = .ok ((List.range ys.length).map fun k : Nat => Val.int (0 + k)) st := by
  have e : eCons (eBf fLen (eCons e eNil)) eNil ρ st = .ok [.int ys.length] st := by
    rw [c_Cons, c_Bf, c_Cons, he]
    rfl
  have hn : -(2 ^ 62) ≤ (ys.length : Int) ∧ (ys.length : Int) < 2 ^ 62 := ⟨by omega, by omega⟩
  rw [c_itRange1, e, bindR_ok]
  dsimp only
  rw [if_pos hn, Int.toNat_natCast, rangeV_map]
theorem ne_nil_ints {st : Sto} (ns : List Int) : fNeA st (.lst (ns.map .int)) (.lst []) = some (.bl (!decide (ns = []))) := by
  have e1 : toD (dr st (.lst (ns.map Val.int))) = some (.list (ns.map .int)) := by
    show toD (.lst (ns.map .int)) = _
    simp [toD, toDs_ints]
  have e2 : toD (dr st (.lst [])) = some (.list []) := rfl
  have s2 : SeqAt.shaped (.list []) = true := shp_ints []
  have e3 : PyData.eqv (.list (ns.map PyData.int)) (.list []) = decide (ns = []) := eqv_ints ns []
  show fNe st _ _ = _
  unfold fNe
  rw [e1, e2]
  dsimp only
  rw [shp_ints, s2, e3]
  rfl
def wTest : ET := eOrT (eTest (eB fLtT (eB fIx (eB fIx (eB fIx (eV 1) (eC (.int 1))) (eV 6)) (eC (.int 0))) (eC (.int 0)))) (eTest (eB fGt (eB fIx (eV 4) (eB fIx (eB fIx (eB fIx (eV 1) (eC (.int 1))) (eV 6)) (eC (.int 0)))) (eC (.int 0))))
def wSome : S := sSet 7 (eLc false [6] (itRange1 (eCons (eBf fLen (eCons (eB fIx (eV 1) (eC (.int 1))) eNil)) eNil)) (gN 6) wTest (eV 6))
def wThen : S := sSeq (sSet 8 (eCall 2 m__law_pick (eCons (eV 0) (eCons (eV 7) eNil))))
  (sSeq (sAugI fIadd (eV 5) (eV 8) (eC (.int 1)))
  (sSeq (sAsg (gT 2 (gCons' (gN 9) (gCons' (gN 10) gNil'))) (eB fIx (eB fIx (eV 1) (eC (.int 1))) (eV 8)))
  (sSeq (sIf (eTest (eB fGe (eV 9) (eC (.int 0)))) (sAugI fIsub (eV 4) (eV 9) (eC (.int 1))) sSkip)
  (sIf (eTest (eB fGe (eV 10) (eC (.int 0)))) (sAugI fIadd (eV 4) (eV 10) (eC (.int 1))) sSkip))))
def wBody : S := sSeq wSome (sIf (eTest (eB fNeA (eV 7) (eLst eNil))) wThen sSkip)
theorem b_walked_eq : b__law_walked = sSeq (sAsg (gT 2 (gCons' (gN 4) (gCons' (gN 5) gNil'))) (eTup (eCons (eListN (eCons (eV 2) eNil)) (eCons (eMulN (eLst (eCons (eC (.int 0)) eNil)) (eBf fLen (eCons (eB fIx (eV 1) (eC (.int 1))) eNil))) eNil))))
  (sSeq (sFor (itRange1 (eCons (eV 3) eNil)) (gN 6) wBody) (sRet (eBf fTuple (eCons (eV 5) eNil)))) := rfl
section
variable {rooms : Int} {gs : List (Int × Int)} {hs : List Int} {rest : Sto} {many : Nat}
def wEnv (rooms : Int) (gs : List (Int × Int)) (hs : List Int) (many : Nat) (n : Nat) (x6 x7 x8 x9 x10 : Option Val) : Ev.Env := [some (.loc 0), some (gh rooms gs), some (.tup (hs.map .int)), some (.int many), some (.loc (n + 1)), some (.loc (n + 2)), x6, x7, x8, x9, x10]
def wSto (d : Ob) (rest : Sto) (here found : List Int) : Sto := d :: (rest ++ [.lst (here.map .int), .lst (found.map .int)])
/-- a step of the walk -/
theorem walk_step (h : GoodH rooms gs) {cs : List Int} {a l u B : Int} (hd : DrOk cs a l u B) (hB : B < 2 ^ 55) {here found : List Int} (hh : (here.length : Int) = rooms) (hf : found.length = gs.length) (hp : ∀ c, c ∈ found → 0 ≤ c) (x6 x7 x8 x9 x10 : Option Val) :
    ∃ a' l' u' here' found' y6 y7 y8 y9 y10, wBody (wEnv rooms gs hs many rest.length x6 x7 x8 x9 x10) (wSto (drawOb cs a l u) rest here found) = .nx (wEnv rooms gs hs many rest.length y6 y7 y8 y9 y10) (wSto (drawOb cs a' l' u') rest here' found') ∧
      DrOk cs a' l' u' (B + 1) ∧ (here'.length : Int) = rooms ∧ found'.length = gs.length ∧ (∀ c, c ∈ found' → 0 ≤ c) ∧ found'.sum ≤ found.sum + 1 := by
  have gl : gs.length ≤ 16 := h.len
  let pk : Nat → Bool := fun k => decide ((gs.getD k (0, 0)).1 < 0) || decide (0 < here.getD (gs.getD k (0, 0)).1.toNat 0)
  let ks : List Int := ((List.range gs.length).filter pk).map fun k : Nat => 0 + (k : Int)
  have gk : ∀ k, k < gs.length → gs[k]? = some (gs.getD k (0, 0)) := fun k hk => by
    rw [List.getD_eq_getElem?_getD, List.getElem?_eq_getElem hk]; rfl
  have lc := lc_fm (own := [6]) (it := itRange1 (eCons (eBf fLen (eCons (eB fIx (eV 1) (eC (.int 1))) eNil)) eNil)) (g := gN 6) (c := wTest) (e := eV 6) (ρ := wEnv rooms gs hs many rest.length x6 x7 x8 x9 x10) (st0 := wSto (drawOb cs a l u) rest here found) (st := wSto (drawOb cs a l u) rest here found)
    (xs := List.range gs.length) (fun k => .int (0 + k)) pk (fun k => .int (0 + k)) ?_ (by rw [List.length_range]; omega) ?_
  rotate_left
  · have e := range_lenE (st := wSto (drawOb cs a l u) rest here found) (ρ := wEnv rooms gs hs many rest.length x6 x7 x8 x9 x10) (e := eB fIx (eV 1) (eC (.int 1))) (ys := gs.map pV) (by
      have e0 := gh_gates (st := wSto (drawOb cs a l u) rest here found) (rooms := rooms) (gs := gs)
      unfold wEnv
      generalize hs.map Val.int = ys
      simp only [c_B, c_V, c_C, List.getElem?_cons_succ, List.getElem?_cons_zero, bindR_ok, e0, optR_some]) (by rw [List.length_map]; omega)
    rw [List.length_map] at e
    exact e
  · intro k hk
    have hk := List.mem_range.mp hk
    have hg := gk k hk
    have ok := h.at_ _ (List.mem_of_getElem? hg)
    refine ⟨wEnv rooms gs hs many rest.length (some (.int (0 + k))) x7 x8 x9 x10, rfl, ?_, fun _ => rfl⟩
    show wTest _ _ = .ok (decide ((gs.getD k (0, 0)).1 < 0) || decide (0 < here.getD (gs.getD k (0, 0)).1.toNat 0)) _
    generalize gs.getD k (0, 0) = g at hg ok ⊢
    have e0 := gh_gates (st := wSto (drawOb cs a l u) rest here found) (rooms := rooms) (gs := gs)
    have e1 : fIx (wSto (drawOb cs a l u) rest here found) (.tup (gs.map pV)) (.int (0 + k)) = some (pV g) := ix_tup (by omega) (by rw [show (0 + (k : Int)).toNat = k by omega, List.getElem?_map, hg]; rfl)
    have e2 := pV_0 (st := wSto (drawOb cs a l u) rest here found) (g := g)
    have src : eB fIx (eB fIx (eB fIx (eV 1) (eC (.int 1))) (eV 6)) (eC (.int 0)) (wEnv rooms gs hs many rest.length (some (.int (0 + k))) x7 x8 x9 x10) (wSto (drawOb cs a l u) rest here found) = .ok (.int g.1) (wSto (drawOb cs a l u) rest here found) := by
      unfold wEnv
      generalize hs.map Val.int = ys
      simp only [c_B, c_V, c_C, List.getElem?_cons_succ, List.getElem?_cons_zero, bindR_ok, e0, e1, e2, optR_some]
    have t1 : eTest (eB fLtT (eB fIx (eB fIx (eB fIx (eV 1) (eC (.int 1))) (eV 6)) (eC (.int 0))) (eC (.int 0))) (wEnv rooms gs hs many rest.length (some (.int (0 + k))) x7 x8 x9 x10) (wSto (drawOb cs a l u) rest here found) = .ok (decide (g.1 < 0)) (wSto (drawOb cs a l u) rest here found) := by
      rw [c_Test, c_B, src, bindR_ok, c_C, bindR_ok, k_ltT, optR_some, bindR_ok]
    unfold wTest
    rw [c_OrT, t1, bindR_ok]
    by_cases q : g.1 < 0
    · rw [decide_eq_true q, if_pos rfl]; rfl
    · rw [decide_eq_false q, if_neg (by decide), Bool.false_or]
      have e4 := ix_loc (st := wSto (drawOb cs a l u) rest here found) (n := rest.length + 1) (ns := here) (r := g.1) get2a (by omega) (by have := ok.2.1; omega)
      have v4 : eV 4 (wEnv rooms gs hs many rest.length (some (.int (0 + k))) x7 x8 x9 x10) (wSto (drawOb cs a l u) rest here found) = .ok (.loc (rest.length + 1)) (wSto (drawOb cs a l u) rest here found) := rfl
      rw [c_Test, c_B, c_B, v4, bindR_ok, src, bindR_ok, e4, optR_some, bindR_ok, c_C, bindR_ok, k_gt, optR_some, bindR_ok]
  have eks : ((List.range gs.length).filter pk).map (fun k : Nat => Val.int (0 + (k : Int))) = ks.map Val.int := by
    show _ = List.map Val.int (List.map (fun k : Nat => 0 + (k : Int)) ((List.range gs.length).filter pk))
    rw [List.map_map]; rfl
  rw [eks] at lc
  have sm : wSome (wEnv rooms gs hs many rest.length x6 x7 x8 x9 x10) (wSto (drawOb cs a l u) rest here found) = .nx (wEnv rooms gs hs many rest.length x6 (some (.lst (ks.map .int))) x8 x9 x10) (wSto (drawOb cs a l u) rest here found) := by
    unfold wSome
    rw [d_Set, lc, d_bindS_ok]
    rfl
  have tst : eTest (eB fNeA (eV 7) (eLst eNil)) (wEnv rooms gs hs many rest.length x6 (some (.lst (ks.map .int))) x8 x9 x10) (wSto (drawOb cs a l u) rest here found) = .ok (!decide (ks = [])) (wSto (drawOb cs a l u) rest here found) := by
    have e := ne_nil_ints (st := wSto (drawOb cs a l u) rest here found) ks
    unfold wEnv
    generalize hs.map Val.int = ys
    generalize ks.map Val.int = zs at e ⊢
    have ez : (0 ≤ sizeLine) := Nat.zero_le _
    simp only [c_Test, c_B, c_V, c_Lst, c_Nil, List.getElem?_cons_succ, List.getElem?_cons_zero, bindR_ok, List.length_nil, if_pos ez, e, optR_some]
  unfold wBody
  by_cases hk : ks = []
  · refine ⟨a, l, u, here, found, x6, some (.lst (ks.map .int)), x8, x9, x10, ?_, hd.le (by omega), hh, hf, hp, by omega⟩
    rw [d_Seq, sm]
    dsimp only
    rw [d_If, tst, d_bindS_ok, decide_eq_true hk, if_neg (by decide), d_Skip]
  · obtain ⟨x, a', l', u', hx, ep, dp⟩ := pick_ok (xs := ks.map .int) (rest ++ [.lst (here.map .int), .lst (found.map .int)]) hd (by omega) (fun z => hk (List.map_eq_nil_iff.mp z)) (by
        rw [List.length_map]
        show (((List.range gs.length).filter pk).map fun k : Nat => 0 + (k : Int)).length ≤ _
        rw [List.length_map]
        have := List.length_filter_le pk (List.range gs.length)
        rw [List.length_range] at this
        omega) (fun x hx => by obtain ⟨i, _, rfl⟩ := List.mem_map.mp hx; rfl)
    obtain ⟨i, hi, rfl⟩ := List.mem_map.mp hx
    obtain ⟨k, hk2, rfl⟩ := List.mem_map.mp hi
    have hk3 : k < gs.length := List.mem_range.mp (List.mem_filter.mp hk2).1
    have hg := gk k hk3
    have ok := h.at_ _ (List.mem_of_getElem? hg)
    generalize gs.getD k (0, 0) = g at hg ok
    have hz : (0 : Int) + (k : Int) = k := by omega
    rw [hz] at ep
    have hkf : k < found.length := by omega
    let found' := found.set k (found.getD k 0 + 1)
    have f0 : found[k]? = some (found.getD k 0) := by rw [List.getD_eq_getElem?_getD, List.getElem?_eq_getElem hkf]; rfl
    have u1 : sSet 8 (eCall 2 m__law_pick (eCons (eV 0) (eCons (eV 7) eNil))) (wEnv rooms gs hs many rest.length x6 (some (.lst (ks.map .int))) x8 x9 x10) (wSto (drawOb cs a l u) rest here found) = .nx (wEnv rooms gs hs many rest.length x6 (some (.lst (ks.map .int))) (some (.int k)) x9 x10) (wSto (drawOb cs a' l' u') rest here found) := by
      have ar : eCons (eV 0) (eCons (eV 7) eNil) (wEnv rooms gs hs many rest.length x6 (some (.lst (ks.map .int))) x8 x9 x10) (wSto (drawOb cs a l u) rest here found) = .ok [.loc 0, .lst (ks.map .int)] (wSto (drawOb cs a l u) rest here found) := rfl
      rw [d_Set, c_Call, ar, bindR_ok, if_pos (show ([Val.loc 0, Val.lst (ks.map .int)] : List Val).length = 2 from rfl)]
      unfold wSto
      rw [ep, d_bindS_ok]
      rfl
    have u2 : sAugI fIadd (eV 5) (eV 8) (eC (.int 1)) (wEnv rooms gs hs many rest.length x6 (some (.lst (ks.map .int))) (some (.int k)) x9 x10) (wSto (drawOb cs a' l' u') rest here found) = .nx (wEnv rooms gs hs many rest.length x6 (some (.lst (ks.map .int))) (some (.int k)) x9 x10) (wSto (drawOb cs a' l' u') rest here found') := by
      have e := augI_ok (f := fIadd) (ρ := wEnv rooms gs hs many rest.length x6 (some (.lst (ks.map .int))) (some (.int k)) x9 x10) (st := wSto (drawOb cs a' l' u') rest here found) (a := 5) (b := 8) (n := rest.length + 2) (ns := found) (r := k) (v := found.getD k 0 + 1) rfl rfl get2b (by omega) (by omega) (by rw [Int.toNat_natCast]; rfl)
      rw [e, Int.toNat_natCast]
      unfold wSto
      rw [set2b]
    have u3 : sAsg (gT 2 (gCons' (gN 9) (gCons' (gN 10) gNil'))) (eB fIx (eB fIx (eV 1) (eC (.int 1))) (eV 8)) (wEnv rooms gs hs many rest.length x6 (some (.lst (ks.map .int))) (some (.int k)) x9 x10) (wSto (drawOb cs a' l' u') rest here found') = .nx (wEnv rooms gs hs many rest.length x6 (some (.lst (ks.map .int))) (some (.int k)) (some (.int g.1)) (some (.int g.2))) (wSto (drawOb cs a' l' u') rest here found') := by
      have e0 := gh_gates (st := wSto (drawOb cs a' l' u') rest here found') (rooms := rooms) (gs := gs)
      have e1 : fIx (wSto (drawOb cs a' l' u') rest here found') (.tup (gs.map pV)) (.int k) = some (pV g) := ix_tup (by omega) (by rw [Int.toNat_natCast, List.getElem?_map, hg]; rfl)
      have ev : eB fIx (eB fIx (eV 1) (eC (.int 1))) (eV 8) (wEnv rooms gs hs many rest.length x6 (some (.lst (ks.map .int))) (some (.int k)) x9 x10) (wSto (drawOb cs a' l' u') rest here found') = .ok (pV g) (wSto (drawOb cs a' l' u') rest here found') := by
        unfold wEnv
        generalize hs.map Val.int = ys
        generalize ks.map Val.int = zs
        simp only [c_B, c_V, c_C, List.getElem?_cons_succ, List.getElem?_cons_zero, bindR_ok, e0, e1, optR_some]
      rw [d_Asg, ev, d_bindS_ok]
      rfl
    let E5 := wEnv rooms gs hs many rest.length x6 (some (.lst (ks.map .int))) (some (.int k)) (some (.int g.1)) (some (.int g.2))
    have side : ∀ (sl : Nat) (f : Sto → Val → Val → Option Val) (op : Int → Int → Int) (p : Int) (hr : List Int), (hr.length : Int) = rooms → p ≤ rooms - 1 → E5[sl]? = some (some (.int p)) → (∀ st i j, f st (.int i) (.int j) = some (.int (op i j))) → ∃ hr', (hr'.length : Int) = rooms ∧
        sIf (eTest (eB fGe (eV sl) (eC (.int 0)))) (sAugI f (eV 4) (eV sl) (eC (.int 1))) sSkip E5 (wSto (drawOb cs a' l' u') rest hr found') = .nx E5 (wSto (drawOb cs a' l' u') rest hr' found') := fun sl f op p hr hl hle hE hop => by
      have t : eTest (eB fGe (eV sl) (eC (.int 0))) E5 (wSto (drawOb cs a' l' u') rest hr found') = .ok (decide (0 ≤ p)) (wSto (drawOb cs a' l' u') rest hr found') := by
        rw [c_Test, c_B, c_V, hE]
        dsimp only
        rw [bindR_ok, c_C, bindR_ok, k_ge, optR_some, bindR_ok]
      by_cases q : 0 ≤ p
      · refine ⟨hr.set p.toNat (op (hr.getD p.toNat 0) 1), by rw [List.length_set]; exact hl, ?_⟩
        rw [d_If, t, d_bindS_ok, decide_eq_true q, if_pos rfl]
        have e := augI_ok (f := f) (ρ := E5) (st := wSto (drawOb cs a' l' u') rest hr found') (a := 4) (b := sl) (n := rest.length + 1) (ns := hr) (r := p) (v := op (hr.getD p.toNat 0) 1) rfl hE get2a q (by omega) (hop _ _ _)
        rw [e]
        unfold wSto
        rw [set2a]
      · refine ⟨hr, hl, ?_⟩
        rw [d_If, t, d_bindS_ok, decide_eq_false q, if_neg (by decide), d_Skip]
    obtain ⟨h1, l1, e1⟩ := side 9 fIsub (fun i j => i - j) g.1 here hh ok.2.1 rfl (fun _ _ _ => rfl)
    obtain ⟨h2, l2, e2⟩ := side 10 fIadd (fun i j => i + j) g.2 h1 l1 ok.2.2.2.1 rfl (fun _ _ _ => rfl)
    refine ⟨a', l', u', h2, found', x6, some (.lst (ks.map .int)), some (.int k), some (.int g.1), some (.int g.2), ?_, dp, l2, by show (found.set _ _).length = _; rw [List.length_set]; exact hf, ?_, ?_⟩
    · rw [d_Seq, sm]
      dsimp only
      rw [d_If, tst, d_bindS_ok, decide_eq_false hk, if_pos (show (!false) = true from rfl)]
      unfold wThen
      rw [d_Seq, u1]
      dsimp only
      rw [d_Seq, u2]
      dsimp only
      rw [d_Seq, u3]
      dsimp only
      rw [d_Seq, e1]
      dsimp only
      exact e2
    · intro c hc
      rcases List.mem_or_eq_of_mem_set hc with hc | hc
      · exact hp c hc
      · have := hs_pos hp k; omega
    · have := sum_set found k _ f0
      show (found.set k (found.getD k 0 + 1)).sum ≤ _
      omega
theorem walk_loop (h : GoodH rooms gs) (ks : List Val) : ∀ {cs : List Int} {a l u B : Int}, DrOk cs a l u B → B + ks.length < 2 ^ 55 → ∀ {here found : List Int}, (here.length : Int) = rooms → found.length = gs.length → (∀ c, c ∈ found → 0 ≤ c) → ∀ (x6 x7 x8 x9 x10 : Option Val),
    ∃ a' l' u' here' found' y6 y7 y8 y9 y10, forL (gN 6) wBody ks (wEnv rooms gs hs many rest.length x6 x7 x8 x9 x10) (wSto (drawOb cs a l u) rest here found) = .nx (wEnv rooms gs hs many rest.length y6 y7 y8 y9 y10) (wSto (drawOb cs a' l' u') rest here' found') ∧
      DrOk cs a' l' u' (B + ks.length) ∧ (here'.length : Int) = rooms ∧ found'.length = gs.length ∧ (∀ c, c ∈ found' → 0 ≤ c) ∧ found'.sum ≤ found.sum + ks.length := by
  induction ks with
  | nil =>
    intro cs a l u B hd hB here found hh hf hp x6 x7 x8 x9 x10
    exact ⟨a, l, u, here, found, x6, x7, x8, x9, x10, d_forNil, hd.le (by rw [List.length_nil]; omega), hh, hf, hp, by rw [List.length_nil]; omega⟩
  | cons k ks ih =>
    intro cs a l u B hd hB here found hh hf hp x6 x7 x8 x9 x10
    rw [List.length_cons] at hB
    obtain ⟨a1, l1, u1, h1, f1, y6, y7, y8, y9, y10, e1, d1, q1, q2, q3, q4⟩ := walk_step (many := many) (hs := hs) (rest := rest) h hd (by omega) hh hf hp (some k) x7 x8 x9 x10
    obtain ⟨a2, l2, u2, h2, f2, z6, z7, z8, z9, z10, e2, d2, r1, r2, r3, r4⟩ := ih d1 (by omega) q1 q2 q3 y6 y7 y8 y9 y10
    refine ⟨a2, l2, u2, h2, f2, z6, z7, z8, z9, z10, ?_, d2.le (by rw [List.length_cons]; omega), r1, r2, r3, by rw [List.length_cons]; omega⟩
    have eg : gN 6 k (wEnv rooms gs hs many rest.length x6 x7 x8 x9 x10) (wSto (drawOb cs a l u) rest here found) = some (wEnv rooms gs hs many rest.length (some k) x7 x8 x9 x10, wSto (drawOb cs a l u) rest here found) := rfl
    rw [forL_step eg e1, e2]
end
end Gc

set_option Elab.async false
set_option linter.all false
set_option maxRecDepth 100000
set_option maxHeartbeats 4000000
namespace Gc
open PySem PySem.Spec PyProof.Rows L2 Ev
section
variable {rooms : Int} {gs : List (Int × Int)} {hs : List Int} {rest : Sto} {many : Nat}
theorem for_nx {it : EI} {g : G} {b : S} {ρ ρ2 : Ev.Env} {st st1 st2 : Sto} {vs : List Val} (h1 : it ρ st = .ok vs st1) (h2 : forL g b vs ρ st1 = .nx ρ2 st2) : sFor it g b ρ st = .nx ρ2 st2 := by
  rw [d_For, h1, d_bindS_ok, h2]
theorem ret_ok {e : E} {ρ : Ev.Env} {st st1 : Sto} {v : Val} (h : e ρ st = .ok v st1) : sRet e ρ st = .rt v st1 := by
  rw [d_Ret, h, d_bindS_ok]
theorem set_ok {e : E} {i : Nat} {ρ : Ev.Env} {st st1 : Sto} {v : Val} (h : e ρ st = .ok v st1) : sSet i e ρ st = .nx (ρ.set i (some v)) st1 := by
  rw [d_Set, h, d_bindS_ok]
theorem if_ok {t : ET} {a b : S} {ρ : Ev.Env} {st st1 : Sto} {c : Bool} (h : t ρ st = .ok c st1) : sIf t a b ρ st = if c = true then a ρ st1 else b ρ st1 := by
  rw [d_If, h, d_bindS_ok]
theorem call_ok {np : Nat} {m : Fn} {a : EA} {ρ : Ev.Env} {st st1 : Sto} {vs : List Val} (h : a ρ st = .ok vs st1) (hl : vs.length = np) : eCall np m a ρ st = m vs st1 := by
  rw [c_Call, h, bindR_ok, if_pos hl]
theorem walked_ok (h : GoodH rooms gs) (hl : (hs.length : Int) = rooms) (hm : many ≤ 1000) {cs : List Int} {a l u B : Int} (hd : DrOk cs a l u B) (hB : B < 2 ^ 50) :
    ∃ ns a' l' u', m__law_walked [.loc 0, gh rooms gs, .tup (hs.map .int), .int many] (drawOb cs a l u :: rest) = .ok (.tup (ns.map .int)) (drawOb cs a' l' u' :: rest) ∧ GoodF gs.length many ns ∧ DrOk cs a' l' u' (B + 1000) := by
  obtain ⟨a2, l2, u2, h2, f2, z6, z7, z8, z9, z10, e2, d2, r1, r2, r3, r4⟩ := walk_loop (many := many) (hs := hs) (rest := rest) h (rangeV 0 many) hd (by rw [rangeV_length]; omega) (here := hs) (found := List.replicate gs.length 0) hl (by simp) (fun c hc => by rw [List.eq_of_mem_replicate hc]; exact Int.le_refl _) none none none none none
  rw [rangeV_length] at d2 r4
  rw [sum_rep] at r4
  refine ⟨f2, a2, l2, u2, ?_, ⟨r2, r3, by omega⟩, d2.le (by omega)⟩
  refine runF_of (more := [.lst (h2.map .int), .lst (f2.map .int)]) ?_ rfl (okOld_draw rest) (bel_ints f2)
  have hst : startE 11 [.loc 0, gh rooms gs, .tup (hs.map .int), .int many] = [some (.loc 0), some (gh rooms gs), some (.tup (hs.map .int)), some (.int many), none, none, none, none, none, none, none] := rfl
  have er : (List.replicate gs.length [Val.int 0]).flatten = (List.replicate gs.length (0 : Int)).map Val.int := by
    rw [List.map_replicate]
    exact flat_rep gs.length
  have s1 : sAsg (gT 2 (gCons' (gN 4) (gCons' (gN 5) gNil'))) (eTup (eCons (eListN (eCons (eV 2) eNil)) (eCons (eMulN (eLst (eCons (eC (.int 0)) eNil)) (eBf fLen (eCons (eB fIx (eV 1) (eC (.int 1))) eNil))) eNil))) [some (.loc 0), some (gh rooms gs), some (.tup (hs.map .int)), some (.int many), none, none, none, none, none, none, none] (drawOb cs a l u :: rest) = .nx (wEnv rooms gs hs many rest.length none none none none none) (wSto (drawOb cs a l u) rest hs (List.replicate gs.length 0)) := by
    have p1 : eListN (eCons (eV 2) eNil) [some (.loc 0), some (gh rooms gs), some (.tup (hs.map .int)), some (.int many), none, none, none, none, none, none, none] (drawOb cs a l u :: rest) = .ok (.loc (rest.length + 1)) (drawOb cs a l u :: (rest ++ [.lst (hs.map .int)])) := rfl
    have p2 : eMulN (eLst (eCons (eC (.int 0)) eNil)) (eBf fLen (eCons (eB fIx (eV 1) (eC (.int 1))) eNil)) [some (.loc 0), some (gh rooms gs), some (.tup (hs.map .int)), some (.int many), none, none, none, none, none, none, none] (drawOb cs a l u :: (rest ++ [.lst (hs.map .int)])) = .ok (.loc (rest.length + 2)) (wSto (drawOb cs a l u) rest hs (List.replicate gs.length 0)) := by
      have gl := h.len
      have hc : -(2 ^ 63) ≤ (gs.length : Int) ∧ (gs.length : Int) < 2 ^ 63 ∧ ([Val.int 0] : List Val).length * (gs.length : Int).toNat ≤ sizeLine := ⟨by omega, by omega, by simp; exact sz (by omega)⟩
      have e1 : eLst (eCons (eC (.int 0)) eNil) [some (.loc 0), some (gh rooms gs), some (.tup (hs.map .int)), some (.int many), none, none, none, none, none, none, none] (drawOb cs a l u :: (rest ++ [.lst (hs.map .int)])) = .ok (.lst [.int 0]) (drawOb cs a l u :: (rest ++ [.lst (hs.map .int)])) := by
        rw [c_Lst, c_Cons, c_C, bindR_ok, c_Nil, bindR_ok, bindR_ok, if_pos (sz (by decide))]
      have e3 : eBf fLen (eCons (eB fIx (eV 1) (eC (.int 1))) eNil) [some (.loc 0), some (gh rooms gs), some (.tup (hs.map .int)), some (.int many), none, none, none, none, none, none, none] (drawOb cs a l u :: (rest ++ [.lst (hs.map .int)])) = .ok (.int gs.length) (drawOb cs a l u :: (rest ++ [.lst (hs.map .int)])) := by
        have e0 := gh_gates (st := drawOb cs a l u :: (rest ++ [.lst (hs.map .int)])) (rooms := rooms) (gs := gs)
        have e4 : fLen (drawOb cs a l u :: (rest ++ [.lst (hs.map .int)])) [.tup (gs.map pV)] = some (.int gs.length) := by rw [k_lenT, List.length_map]
        generalize hs.map Val.int = ys at e0 e4 ⊢
        simp only [c_Bf, c_Cons, c_Nil, c_B, c_V, c_C, List.getElem?_cons_succ, List.getElem?_cons_zero, bindR_ok, e0, e4, optR_some]
      rw [c_MulN, e1, bindR_ok, e3, bindR_ok]
      dsimp only
      rw [if_pos hc, Int.toNat_natCast, er]
      unfold wSto
      simp
    rw [d_Asg, c_Tup, c_Cons, p1, bindR_ok, c_Cons, p2, bindR_ok, c_Nil, bindR_ok, bindR_ok, bindR_ok, if_pos (sz (by simp)), d_bindS_ok]
    rfl
  have s2 : itRange1 (eCons (eV 3) eNil) (wEnv rooms gs hs many rest.length none none none none none) (wSto (drawOb cs a l u) rest hs (List.replicate gs.length 0)) = .ok (rangeV 0 many) (wSto (drawOb cs a l u) rest hs (List.replicate gs.length 0)) := by
    have hn : -(2 ^ 62) ≤ (many : Int) ∧ (many : Int) < 2 ^ 62 := ⟨by omega, by omega⟩
    have e : eCons (eV 3) eNil (wEnv rooms gs hs many rest.length none none none none none) (wSto (drawOb cs a l u) rest hs (List.replicate gs.length 0)) = .ok [.int many] (wSto (drawOb cs a l u) rest hs (List.replicate gs.length 0)) := rfl
    rw [c_itRange1, e, bindR_ok]
    dsimp only
    rw [if_pos hn, Int.toNat_natCast]
  have s3 : eBf fTuple (eCons (eV 5) eNil) (wEnv rooms gs hs many rest.length z6 z7 z8 z9 z10) (wSto (drawOb cs a2 l2 u2) rest h2 f2) = .ok (.tup (f2.map .int)) (wSto (drawOb cs a2 l2 u2) rest h2 f2) := by
    have e : fTuple (wSto (drawOb cs a2 l2 u2) rest h2 f2) [.loc (rest.length + 2)] = some (.tup (f2.map .int)) := by
      unfold fTuple
      dsimp only
      have : seqOf (wSto (drawOb cs a2 l2 u2) rest h2 f2) (.loc (rest.length + 2)) = some (f2.map .int) := by
        unfold seqOf dr wSto
        simp only [get2b]
      rw [this]; rfl
    have ar : eCons (eV 5) eNil (wEnv rooms gs hs many rest.length z6 z7 z8 z9 z10) (wSto (drawOb cs a2 l2 u2) rest h2 f2) = .ok [.loc (rest.length + 2)] (wSto (drawOb cs a2 l2 u2) rest h2 f2) := rfl
    rw [c_Bf, ar, bindR_ok, e, optR_some]
  have fin : b__law_walked [some (.loc 0), some (gh rooms gs), some (.tup (hs.map .int)), some (.int many), none, none, none, none, none, none, none] (drawOb cs a l u :: rest) = .rt (.tup (f2.map .int)) (wSto (drawOb cs a2 l2 u2) rest h2 f2) := by
    rw [b_walked_eq, seq_nx s1, seq_nx (for_nx s2 e2)]
    exact ret_ok s3
  rw [hst, fin]
  rfl
end
end Gc

set_option Elab.async false
set_option linter.all false
set_option maxRecDepth 100000
set_option maxHeartbeats 4000000
namespace Gc
open PySem PySem.Spec PyProof.Rows L2 Ev
theorem goodF_N {many total : Nat} {ns : List Int} (h : GoodF many total ns) (ht : total ≤ 1000) : GoodN many ns := by
  refine ⟨h.len, fun c hc => ?_⟩
  have := (sum_pos h.pos).2 c hc
  have := h.pos c hc
  have := h.sum
  exact ⟨by omega, by omega⟩
theorem more_le {L L' : Nat} (h : L ≤ L') : ∀ m, more L m ≤ more L' m
  | 0 => Nat.le_refl _
  | m + 1 => by
    have := Nat.mul_le_mul h (more_le h m)
    show 1 + L * more L m ≤ 1 + L' * more L' m
    omega
theorem can_new {rooms : Int} {gs : List (Int × Int)} {hs ps : List Int} {N : Nat} (h : GoodH rooms gs) (h5 : gs.length ≤ 5) (hh : GoodF rooms.toNat N hs) (hp : GoodF gs.length 6 ps) (st : Sto) : ∃ kvs, m__law_can [gh rooms gs, .tup (hs.map .int), .tup (ps.map .int), .loc st.length] (st ++ [.dN []]) = .ok (.bl (goodB gs hs ps)) (st ++ [.dN kvs]) := by
  have O : Ok gs rooms.toNat hs ps := ⟨hh.len, hh.pos, hp.len, hp.pos⟩
  have hsum := hp.sum
  obtain ⟨kvs, e, _⟩ := can_ok h 8 hs ps [] (st ++ [.dN []]) st.length O (by omega) (app_get st _) (fun _ _ _ hb => by cases hb) (by
    have e1 := more_mono gs.length (m := ps.sum.toNat) (m' := 6) (by omega)
    have e2 := more_le (L := gs.length) (L' := 5) h5 6
    have e3 : more 5 6 = 3906 := by decide
    simp only [List.length_nil]
    omega)
  rw [app_set] at e
  exact ⟨kvs, e⟩
theorem tests_ok {t : ET} {ρ : Ev.Env} {st st1 : Sto} {e : E} {r : Int} (he : e ρ st = .ok (.int r) st1) : eTest (eB fEqA e (eC (.int 0))) ρ st = .ok (decide (r = 0)) st1 := by
  rw [c_Test, c_B, he, bindR_ok, c_C, bindR_ok, k_eqI, optR_some, bindR_ok]
theorem asked_ok {cs : List Int} {a l u B : Int} (rest : Sto) (hd : DrOk cs a l u B) (hB : B < 2 ^ 49) : ∃ rooms gs hs ps a' l' u', m__law_asked [.loc 0] (drawOb cs a l u :: rest) = .ok (.tup [gh rooms gs, .tup (hs.map .int), .tup (ps.map .int)]) (drawOb cs a' l' u' :: rest) ∧
    GoodH rooms gs ∧ gs.length ≤ 5 ∧ GoodF rooms.toNat 3 hs ∧ GoodF gs.length 6 ps ∧ DrOk cs a' l' u' (B + 5000) := by
  obtain ⟨rooms, gs, a1, l1, u1, e1, hg, hr, hl, d1⟩ := house_ok (most := 3) (size := 5) (by omega) (by omega) (by omega) rest hd (by omega)
  obtain ⟨hs, a2, l2, u2, e2, g2, d2⟩ := few_ok (many := rooms.toNat) (total := 3) (by have := hg.hi; omega) (by omega) rest d1 (by omega)
  rw [show ((rooms.toNat : Nat) : Int) = rooms by have := hg.lo; omega] at e2
  obtain ⟨w, a3, l3, u3, e3, w0, w1, d3⟩ := next_ok (many := 7) rest d2 (by omega) (by omega) (by omega)
  obtain ⟨ps, a4, l4, u4, e4, g4, d4⟩ := walked_ok (many := w.toNat) (rest := rest) (hs := hs) hg (by have := g2.len; have := hg.lo; omega) (by omega) d3 (by omega)
  rw [show ((w.toNat : Nat) : Int) = w by omega] at e4
  obtain ⟨z, a5, l5, u5, e5, z0, z1, d5⟩ := next_ok (many := 3) rest d4 (by omega) (by omega) (by omega)
  have e1 : m__law_house [.loc 0, .int 3, .int 5] (drawOb cs a l u :: rest) = .ok (gh rooms gs) (drawOb cs a1 l1 u1 :: rest) := e1
  have e2 : m__law_few [.loc 0, .int rooms, .int 3] (drawOb cs a1 l1 u1 :: rest) = .ok (.tup (hs.map .int)) (drawOb cs a2 l2 u2 :: rest) := e2
  have gr := fun st => gh_rooms (st := st) (rooms := rooms) (gs := gs)
  have gg := fun st => gh_gates (st := st) (rooms := rooms) (gs := gs)
  have s1 : sSet 1 (eCall 3 m__law_house (eCons (eV 0) (eCons (eC (.int 3)) (eCons (eC (.int 5)) eNil)))) [some (.loc 0), none, none, none] (drawOb cs a l u :: rest) = .nx [some (.loc 0), some (gh rooms gs), none, none] (drawOb cs a1 l1 u1 :: rest) := by
    have ar : eCons (eV 0) (eCons (eC (.int 3)) (eCons (eC (.int 5)) eNil)) [some (.loc 0), none, none, none] (drawOb cs a l u :: rest) = .ok [.loc 0, .int 3, .int 5] (drawOb cs a l u :: rest) := rfl
    exact set_ok ((call_ok ar rfl).trans e1)
  have s2 : sSet 2 (eCall 3 m__law_few (eCons (eV 0) (eCons (eB fIx (eV 1) (eC (.int 0))) (eCons (eC (.int 3)) eNil)))) [some (.loc 0), some (gh rooms gs), none, none] (drawOb cs a1 l1 u1 :: rest) = .nx [some (.loc 0), some (gh rooms gs), some (.tup (hs.map .int)), none] (drawOb cs a2 l2 u2 :: rest) := by
    have ar : eCons (eV 0) (eCons (eB fIx (eV 1) (eC (.int 0))) (eCons (eC (.int 3)) eNil)) [some (.loc 0), some (gh rooms gs), none, none] (drawOb cs a1 l1 u1 :: rest) = .ok [.loc 0, .int rooms, .int 3] (drawOb cs a1 l1 u1 :: rest) := by
      simp only [c_Cons, c_V, c_B, c_C, c_Nil, List.getElem?_cons_succ, List.getElem?_cons_zero, bindR_ok, gr, optR_some]
    exact set_ok ((call_ok ar rfl).trans e2)
  have s3 : sSet 3 (eCall 4 m__law_walked (eCons (eV 0) (eCons (eV 1) (eCons (eV 2) (eCons (eCall 2 m__law_next (eCons (eV 0) (eCons (eC (.int 7)) eNil))) eNil))))) [some (.loc 0), some (gh rooms gs), some (.tup (hs.map .int)), none] (drawOb cs a2 l2 u2 :: rest) = .nx [some (.loc 0), some (gh rooms gs), some (.tup (hs.map .int)), some (.tup (ps.map .int))] (drawOb cs a4 l4 u4 :: rest) := by
    have a0 : eCons (eV 0) (eCons (eC (.int 7)) eNil) [some (.loc 0), some (gh rooms gs), some (.tup (hs.map .int)), none] (drawOb cs a2 l2 u2 :: rest) = .ok [.loc 0, .int 7] (drawOb cs a2 l2 u2 :: rest) := rfl
    have nx : eCall 2 m__law_next (eCons (eV 0) (eCons (eC (.int 7)) eNil)) [some (.loc 0), some (gh rooms gs), some (.tup (hs.map .int)), none] (drawOb cs a2 l2 u2 :: rest) = .ok (.int w) (drawOb cs a3 l3 u3 :: rest) := (call_ok a0 rfl).trans e3
    have ar : eCons (eV 0) (eCons (eV 1) (eCons (eV 2) (eCons (eCall 2 m__law_next (eCons (eV 0) (eCons (eC (.int 7)) eNil))) eNil))) [some (.loc 0), some (gh rooms gs), some (.tup (hs.map .int)), none] (drawOb cs a2 l2 u2 :: rest) = .ok [.loc 0, gh rooms gs, .tup (hs.map .int), .int w] (drawOb cs a3 l3 u3 :: rest) := by
      generalize hs.map Val.int = ys at nx ⊢
      rw [c_Cons, c_V]
      simp only [List.getElem?_cons_succ, List.getElem?_cons_zero, bindR_ok]
      rw [c_Cons, c_V]
      simp only [List.getElem?_cons_succ, List.getElem?_cons_zero, bindR_ok]
      rw [c_Cons, c_V]
      simp only [List.getElem?_cons_succ, List.getElem?_cons_zero, bindR_ok]
      rw [c_Cons, nx, bindR_ok, c_Nil]
      simp only [bindR_ok]
    exact set_ok ((call_ok ar rfl).trans e4)
  have t4 : eTest (eB fEqA (eCall 2 m__law_next (eCons (eV 0) (eCons (eC (.int 3)) eNil))) (eC (.int 0))) [some (.loc 0), some (gh rooms gs), some (.tup (hs.map .int)), some (.tup (ps.map .int))] (drawOb cs a4 l4 u4 :: rest) = .ok (decide (z = 0)) (drawOb cs a5 l5 u5 :: rest) := by
    have a0 : eCons (eV 0) (eCons (eC (.int 3)) eNil) [some (.loc 0), some (gh rooms gs), some (.tup (hs.map .int)), some (.tup (ps.map .int))] (drawOb cs a4 l4 u4 :: rest) = .ok [.loc 0, .int 3] (drawOb cs a4 l4 u4 :: rest) := rfl
    exact tests_ok (t := eYes) ((call_ok a0 rfl).trans e5)
  have last : ∀ (qs : List Int) (d : Ob), sRet (eTup (eCons (eV 1) (eCons (eV 2) (eCons (eV 3) eNil)))) [some (.loc 0), some (gh rooms gs), some (.tup (hs.map .int)), some (.tup (qs.map .int))] (d :: rest) = .rt (.tup [gh rooms gs, .tup (hs.map .int), .tup (qs.map .int)]) (d :: rest) := fun qs d => by
    have ar : eCons (eV 1) (eCons (eV 2) (eCons (eV 3) eNil)) [some (.loc 0), some (gh rooms gs), some (.tup (hs.map .int)), some (.tup (qs.map .int))] (d :: rest) = .ok [gh rooms gs, .tup (hs.map .int), .tup (qs.map .int)] (d :: rest) := rfl
    refine ret_ok ?_
    rw [c_Tup, ar, bindR_ok, if_pos (sz (by simp))]
  have bel : ∀ (n : Nat) (qs : List Int), belV n (.tup [gh rooms gs, .tup (hs.map .int), .tup (qs.map .int)]) = true := fun n qs => by
    show (belV n (gh rooms gs) && (belV n (.tup (hs.map .int)) && (belV n (.tup (qs.map .int)) && true))) = true
    rw [bel_gh, bel_ints, bel_ints]; rfl
  have hst : startE 4 [.loc 0] = [some (.loc 0), none, none, none] := rfl
  by_cases hz : z = 0
  · obtain ⟨qs, a6, l6, u6, e6, g6, d6⟩ := few_ok (many := gs.length) (total := 6) (by omega) (by omega) rest d5 (by omega)
    have e6 : m__law_few [.loc 0, .int gs.length, .int 6] (drawOb cs a5 l5 u5 :: rest) = .ok (.tup (qs.map .int)) (drawOb cs a6 l6 u6 :: rest) := e6
    refine ⟨rooms, gs, hs, qs, a6, l6, u6, ?_, hg, hl, g2, g6, d6.le (by omega)⟩
    refine runF_of0 ?_ rfl (okOld_draw rest) (bel _ qs)
    have s4 : sIf (eTest (eB fEqA (eCall 2 m__law_next (eCons (eV 0) (eCons (eC (.int 3)) eNil))) (eC (.int 0)))) (sSet 3 (eCall 3 m__law_few (eCons (eV 0) (eCons (eBf fLen (eCons (eB fIx (eV 1) (eC (.int 1))) eNil)) (eCons (eC (.int 6)) eNil))))) sSkip [some (.loc 0), some (gh rooms gs), some (.tup (hs.map .int)), some (.tup (ps.map .int))] (drawOb cs a4 l4 u4 :: rest) = .nx [some (.loc 0), some (gh rooms gs), some (.tup (hs.map .int)), some (.tup (qs.map .int))] (drawOb cs a6 l6 u6 :: rest) := by
      rw [if_ok t4, decide_eq_true hz, if_pos rfl]
      have ln : ∀ st, fLen st [.tup (gs.map pV)] = some (.int gs.length) := fun st => by rw [k_lenT, List.length_map]
      have ar : eCons (eV 0) (eCons (eBf fLen (eCons (eB fIx (eV 1) (eC (.int 1))) eNil)) (eCons (eC (.int 6)) eNil)) [some (.loc 0), some (gh rooms gs), some (.tup (hs.map .int)), some (.tup (ps.map .int))] (drawOb cs a5 l5 u5 :: rest) = .ok [.loc 0, .int gs.length, .int 6] (drawOb cs a5 l5 u5 :: rest) := by
        generalize hs.map Val.int = ys
        generalize ps.map Val.int = zs
        simp only [c_Cons, c_V, c_B, c_Bf, c_C, c_Nil, List.getElem?_cons_succ, List.getElem?_cons_zero, bindR_ok, gg, ln, optR_some]
      exact set_ok ((call_ok ar rfl).trans e6)
    unfold b__law_asked
    rw [hst, seq_nx s1, seq_nx s2, seq_nx s3, seq_nx s4]
    exact last qs _
  · refine ⟨rooms, gs, hs, ps, a5, l5, u5, ?_, hg, hl, g2, ⟨g4.len, g4.pos, by have := g4.sum; omega⟩, d5.le (by omega)⟩
    refine runF_of0 ?_ rfl (okOld_draw rest) (bel _ ps)
    have s4 : sIf (eTest (eB fEqA (eCall 2 m__law_next (eCons (eV 0) (eCons (eC (.int 3)) eNil))) (eC (.int 0)))) (sSet 3 (eCall 3 m__law_few (eCons (eV 0) (eCons (eBf fLen (eCons (eB fIx (eV 1) (eC (.int 1))) eNil)) (eCons (eC (.int 6)) eNil))))) sSkip [some (.loc 0), some (gh rooms gs), some (.tup (hs.map .int)), some (.tup (ps.map .int))] (drawOb cs a4 l4 u4 :: rest) = .nx [some (.loc 0), some (gh rooms gs), some (.tup (hs.map .int)), some (.tup (ps.map .int))] (drawOb cs a5 l5 u5 :: rest) := by
      rw [if_ok t4, decide_eq_false hz, if_neg (by decide), d_Skip]
    unfold b__law_asked
    rw [hst, seq_nx s1, seq_nx s2, seq_nx s3, seq_nx s4]
    exact last ps _
end Gc

set_option Elab.async false
set_option linter.all false
set_option maxRecDepth 100000
set_option maxHeartbeats 4000000
namespace Gc
open PySem PySem.Spec PyProof.Rows L2 Ev
open Gr (Fit Good dec)
theorem one_less_ok {st : Sto} {cs : List Int} {i : Nat} {c : Int} (h : cs[i]? = some c) (hl : cs.length ≤ 1000) : m_one_less [.tup (cs.map .int), .int i] st = .ok (.tup ((dec cs i).map .int)) st := less_ok h hl
theorem mvL_zip (hs : List Int) (g : Int × Int) : (hs.zipIdx.map fun z => z.1 - (if (z.2 : Int) = g.1 then 1 else 0) + (if (z.2 : Int) = g.2 then 1 else 0)) = mvL hs g := by
  unfold mvL
  refine List.ext_getElem? fun i => ?_
  rw [List.getElem?_map, List.getElem?_map, List.getElem?_zipIdx]
  by_cases h : i < hs.length
  · rw [List.getElem?_range h, List.getElem?_eq_getElem h]
    simp only [Option.map_some, Nat.zero_add, List.getD_eq_getElem?_getD, List.getElem?_eq_getElem h, Option.getD_some]
  · have e1 : hs[i]? = none := List.getElem?_eq_none (by omega)
    have e2 : (List.range hs.length)[i]? = none := List.getElem?_eq_none (by rw [List.length_range]; omega)
    rw [e1, e2]
    rfl
theorem behind_ok {st : Sto} {hs : List Int} {g : Int × Int} (hl : hs.length ≤ 1000) : m_heads_behind [.tup (hs.map .int), pV g] st = .ok (.tup ((mvL hs g).map .int)) st := by
  have lc := lc_mp (own := [2, 3]) (it := itEnum (eCons (eV 0) eNil)) (g := gT 2 (gCons' (gN 2) (gCons' (gN 3) gNil'))) (e := eB fAdd (eB fSub (eV 3) (eBf fIntA (eCons (eB fEqA (eV 2) (eB fIx (eV 1) (eC (.int 0)))) eNil))) (eBf fIntA (eCons (eB fEqA (eV 2) (eB fIx (eV 1) (eC (.int 1)))) eNil)))
    (ρ := [some (.tup (hs.map .int)), some (pV g), none, none]) (st0 := st) (st := st) (xs := hs.zipIdx) (fun z => .tup [.int z.2, .int z.1]) (fun z => .int (z.1 - (if (z.2 : Int) = g.1 then 1 else 0) + (if (z.2 : Int) = g.2 then 1 else 0))) ?_ (by rw [List.length_zipIdx]; omega) ?_
  · have ex : (hs.zipIdx.map fun z => Val.int (z.1 - (if (z.2 : Int) = g.1 then 1 else 0) + (if (z.2 : Int) = g.2 then 1 else 0))) = (mvL hs g).map Val.int := by
      rw [← mvL_zip, List.map_map]; rfl
    rw [ex] at lc
    refine runF_same ?_ (bel_ints _)
    have hst : startE 4 [.tup (hs.map .int), pV g] = [some (.tup (hs.map .int)), some (pV g), none, none] := rfl
    rw [hst]
    unfold b_heads_behind
    refine ret_ok ?_
    rw [c_Bf, c_Cons, lc, bindR_ok, c_Nil, bindR_ok, bindR_ok, k_tupL, optR_some]
  · have e := enumV_map Val.int hs 0
    rw [c_itEnum, c_Cons, c_V]
    simp only [List.getElem?_cons_zero, bindR_ok, c_Nil]
    rw [e]
  · intro z hz
    refine ⟨[some (.tup (hs.map .int)), some (pV g), some (.int z.2), some (.int z.1)], rfl, ?_⟩
    have e0 := pV_0 (st := st) (g := g)
    have e1 := pV_1 (st := st) (g := g)
    generalize hs.map Val.int = ys
    generalize pV g = w at e0 e1 ⊢
    simp only [c_B, c_Bf, c_Cons, c_Nil, c_V, c_C, List.getElem?_cons_succ, List.getElem?_cons_zero, bindR_ok, e0, e1, optR_some, k_eqI, k_intB, k_sub, k_add, decide_eq_true_eq]
def gAt (gs : List (Int × Int)) (i : Nat) : Int × Int := gs.getD i (0, 0)
theorem gAt_get {gs : List (Int × Int)} {i : Nat} (h : i < gs.length) : gs[i]? = some (gAt gs i) := by
  unfold gAt
  rw [List.getD_eq_getElem?_getD, List.getElem?_eq_getElem h]; rfl
def useB (gs : List (Int × Int)) (hs cs : List Int) (i : Nat) : Bool := decide (0 < cs.getD i 0) && (decide ((gAt gs i).1 < 0) || !decide (hs.getD (gAt gs i).1.toNat 0 = 0))
noncomputable def firstB (gs : List (Int × Int)) (hs cs : List Int) (i : Nat) : Bool := useB gs hs cs i && goodB gs (mvL hs (gAt gs i)) (dec cs i)
noncomputable def firstsL (gs : List (Int × Int)) (hs cs : List Int) : List Int := ((List.range cs.length).filter (firstB gs hs cs)).map fun k : Nat => 0 + (k : Int)
theorem useB_iff {gs : List (Int × Int)} {hs cs : List Int} {i : Nat} (hi : i < cs.length) (hl : cs.length = gs.length) : useB gs hs cs i = true ↔ Use gs hs cs i (gAt gs i) := by
  unfold useB Use
  have h1 : cs[i]? = some (cs.getD i 0) := by rw [List.getD_eq_getElem?_getD, List.getElem?_eq_getElem hi]; rfl
  simp only [Bool.and_eq_true, Bool.or_eq_true, decide_eq_true_eq, Bool.not_eq_true', decide_eq_false_iff_not]
  constructor
  · rintro ⟨a, b⟩
    exact ⟨gAt_get (by omega), ⟨_, h1, a⟩, b⟩
  · rintro ⟨_, ⟨c, h2, h3⟩, b⟩
    rw [h1] at h2
    cases h2
    exact ⟨h3, b⟩
theorem begin_gate_ok {st : Sto} {rooms : Int} {gs : List (Int × Int)} {hs cs : List Int} (h : GoodH rooms gs) (O : Ok gs rooms.toNat hs cs) {i : Nat} (hi : i < cs.length) : m_can_begin [gh rooms gs, .tup (hs.map .int), .tup (cs.map .int), .int i] st = .ok (.bl (firstB gs hs cs i)) st := by
  have gl := h.len
  have cl := O.cl
  have hN : (hs.length : Int) = rooms := by have := O.hl; have := h.lo; omega
  have hlen : hs.length ≤ 1000 := by have := h.hi; omega
  have hg := gAt_get (gs := gs) (i := i) (by omega)
  have ok := h.at_ _ (List.mem_of_getElem? hg)
  have h1 : cs[i]? = some (cs.getD i 0) := by rw [List.getD_eq_getElem?_getD, List.getElem?_eq_getElem hi]; rfl
  have cpos := O.cp _ (List.mem_of_getElem? h1)
  have F := fitL h O.hl O.cl O.cp
  have gg := gh_gates (st := st) (rooms := rooms) (gs := gs)
  have e1 : fIx st (.tup (gs.map pV)) (.int i) = some (pV (gAt gs i)) := ix_tup (by omega) (by rw [Int.toNat_natCast, List.getElem?_map, hg]; rfl)
  have ec : fIx st (.tup (cs.map Val.int)) (.int i) = some (.int (cs.getD i 0)) := ix_tup (by omega) (by rw [Int.toNat_natCast, List.getElem?_map, h1]; rfl)
  have ep := pV_0 (st := st) (g := gAt gs i)
  have el := one_less_ok (st := st) h1 (by omega)
  have eb := behind_ok (st := st) (hs := hs) (g := gAt gs i) hlen
  let E := [some (gh rooms gs), some (.tup (hs.map .int)), some (.tup (cs.map .int)), some (.int i), some (pV (gAt gs i))]
  have s1 : sSet 4 (eB fIx (eB fIx (eV 0) (eC (.int 1))) (eV 3)) [some (gh rooms gs), some (.tup (hs.map .int)), some (.tup (cs.map .int)), some (.int i), none] st = .nx E st := by
    refine set_ok (v := pV (gAt gs i)) ?_
    generalize hs.map Val.int = ys
    generalize cs.map Val.int = zs
    simp only [c_B, c_V, c_C, List.getElem?_cons_succ, List.getElem?_cons_zero, bindR_ok, gg, e1, optR_some]
  have src : eB fIx (eV 4) (eC (.int 0)) E st = .ok (.int (gAt gs i).1) st := by
    show eB fIx (eV 4) (eC (.int 0)) [some (gh rooms gs), some (.tup (hs.map .int)), some (.tup (cs.map .int)), some (.int i), some (pV (gAt gs i))] st = _
    generalize hs.map Val.int = ys
    generalize cs.map Val.int = zs
    generalize pV (gAt gs i) = w at ep ⊢
    simp only [c_B, c_V, c_C, List.getElem?_cons_succ, List.getElem?_cons_zero, bindR_ok, ep, optR_some]
  have t1 : eTest (eB fEqA (eB fIx (eV 2) (eV 3)) (eC (.int 0))) E st = .ok (decide (cs.getD i 0 = 0)) st := by
    show eTest _ [some (gh rooms gs), some (.tup (hs.map .int)), some (.tup (cs.map .int)), some (.int i), some (pV (gAt gs i))] st = _
    generalize hs.map Val.int = ys
    generalize cs.map Val.int = zs at ec ⊢
    generalize pV (gAt gs i) = w
    simp only [c_Test, c_B, c_V, c_C, List.getElem?_cons_succ, List.getElem?_cons_zero, bindR_ok, ec, optR_some, k_eqI]
  have t2 : eTest (eB fNeA (eB fIx (eV 4) (eC (.int 0))) (eC (.int (-1)))) E st = .ok (!decide ((gAt gs i).1 = -1)) st := by
    rw [c_Test, c_B, src, bindR_ok, c_C, bindR_ok, k_neI, optR_some, bindR_ok]
  have t3 : 0 ≤ (gAt gs i).1 → eTest (eB fEqA (eB fIx (eV 1) (eB fIx (eV 4) (eC (.int 0)))) (eC (.int 0))) E st = .ok (decide (hs.getD (gAt gs i).1.toNat 0 = 0)) st := fun q => by
    have ix := ix_room (st := st) (hs := hs) (r := (gAt gs i).1) q (by have := ok.2.1; omega) hlen
    have v1 : eV 1 E st = .ok (.tup (hs.map .int)) st := rfl
    rw [c_Test, c_B, c_B, v1, bindR_ok, src, bindR_ok, ix, optR_some, bindR_ok, c_C, bindR_ok, k_eqI, optR_some, bindR_ok]
  have tst : (eOrT (eTest (eB fEqA (eB fIx (eV 2) (eV 3)) (eC (.int 0)))) (eAndT (eTest (eB fNeA (eB fIx (eV 4) (eC (.int 0))) (eC (.int (-1))))) (eTest (eB fEqA (eB fIx (eV 1) (eB fIx (eV 4) (eC (.int 0)))) (eC (.int 0)))))) E st = .ok (!useB gs hs cs i) st := by
    rw [c_OrT, t1, bindR_ok]
    unfold useB
    by_cases q : cs.getD i 0 = 0
    · rw [decide_eq_true q, if_pos rfl, decide_eq_false (by omega : ¬ 0 < cs.getD i 0)]; rfl
    · rw [decide_eq_false q, if_neg (by decide), c_AndT, t2, bindR_ok, decide_eq_true (by omega : 0 < cs.getD i 0)]
      by_cases q2 : (gAt gs i).1 = -1
      · rw [decide_eq_true q2, if_neg (by decide), decide_eq_true (by omega : (gAt gs i).1 < 0)]; rfl
      · rw [decide_eq_false q2, if_pos (show (!false) = true from rfl), t3 (by have := ok.1; omega), decide_eq_false (by have := ok.1; omega : ¬ (gAt gs i).1 < 0)]
        cases decide (hs.getD (gAt gs i).1.toNat 0 = 0) <;> rfl
  refine runF_same ?_ rfl
  have hst : startE 5 [gh rooms gs, .tup (hs.map .int), .tup (cs.map .int), .int i] = [some (gh rooms gs), some (.tup (hs.map .int)), some (.tup (cs.map .int)), some (.int i), none] := rfl
  rw [hst]
  unfold b_can_begin
  rw [seq_nx s1]
  unfold firstB
  cases hu : useB gs hs cs i with
  | false =>
    rw [d_Seq, if_ok tst, hu, if_pos (show (!false) = true from rfl), d_Ret, c_C, d_bindS_ok]
    rfl
  | true =>
    have U := (useB_iff hi cl).mp hu
    have O' := O.pass h U
    have ep2 := possible_of_ok (st := st) (cs := dec cs i) h O'.hl
    rw [possB_good h O'.hl O'.hp O'.cl O'.cp] at ep2
    have sk : sIf (eOrT (eTest (eB fEqA (eB fIx (eV 2) (eV 3)) (eC (.int 0)))) (eAndT (eTest (eB fNeA (eB fIx (eV 4) (eC (.int 0))) (eC (.int (-1))))) (eTest (eB fEqA (eB fIx (eV 1) (eB fIx (eV 4) (eC (.int 0)))) (eC (.int 0)))))) (sRet (eC (.bl false))) sSkip E st = .nx E st := by
      rw [if_ok tst, hu, if_neg (by decide), d_Skip]
    rw [seq_nx sk]
    refine ret_ok ?_
    have a1 : eCons (eV 1) (eCons (eV 4) eNil) E st = .ok [.tup (hs.map .int), pV (gAt gs i)] st := rfl
    have a2 : eCons (eV 2) (eCons (eV 3) eNil) E st = .ok [.tup (cs.map .int), .int i] st := rfl
    have b1 := (call_ok (np := 2) (m := m_heads_behind) a1 rfl).trans eb
    have b2 := (call_ok (np := 2) (m := m_one_less) a2 rfl).trans el
    have v0 : eV 0 E st = .ok (gh rooms gs) st := rfl
    have ar : eCons (eV 0) (eCons (eCall 2 m_heads_behind (eCons (eV 1) (eCons (eV 4) eNil))) (eCons (eCall 2 m_one_less (eCons (eV 2) (eCons (eV 3) eNil))) eNil)) E st = .ok [gh rooms gs, .tup ((mvL hs (gAt gs i)).map .int), .tup ((dec cs i).map .int)] st := by
      rw [c_Cons, v0, bindR_ok, c_Cons, b1, bindR_ok, c_Cons, b2, bindR_ok, c_Nil, bindR_ok, bindR_ok, bindR_ok]
    rw [call_ok (np := 3) ar rfl, ep2, Bool.true_and]
end Gc

set_option Elab.async false
set_option linter.all false
set_option maxRecDepth 100000
set_option maxHeartbeats 4000000
namespace Gc
open PySem PySem.Spec PyProof.Rows L2 Ev
open Gr (Fit Good dec)
theorem out_nx {st : Sto} {ρ : Ev.Env} {n : Nat} {b : S} {args : List Val} (h : b (startE n args) st = .nx ρ st) : runF n b args st = .ok .non st := by
  show outF st (b (startE n args) st) = _
  rw [h]
  show fin st .non st = _
  unfold fin
  rw [okOld_refl, if_pos rfl]
  simp [frzV, frz1, belV]
theorem expr_ok {e : E} {ρ : Ev.Env} {st st1 : Sto} {v : Val} (h : e ρ st = .ok v st1) : sExpr e ρ st = .nx ρ st1 := by
  rw [d_Expr, h, d_bindS_ok]
theorem need_asked_ok {st : Sto} {rooms : Int} {gs : List (Int × Int)} {hs cs : List Int} (h : GoodH rooms gs) (hh : GoodN rooms.toNat hs) (hc : GoodN gs.length cs) : m_need_asked [gh rooms gs, .tup (hs.map .int), .tup (cs.map .int)] st = .ok .non st := by
  have e1 := need_heads_ok (st := st) h hh
  have e2 := need_counts_ok (st := st) h hc
  have hst : startE 3 [gh rooms gs, .tup (hs.map .int), .tup (cs.map .int)] = [some (gh rooms gs), some (.tup (hs.map .int)), some (.tup (cs.map .int))] := rfl
  have a1 : eCons (eV 0) (eCons (eV 1) eNil) [some (gh rooms gs), some (.tup (hs.map .int)), some (.tup (cs.map .int))] st = .ok [gh rooms gs, .tup (hs.map .int)] st := rfl
  have a2 : eCons (eV 0) (eCons (eV 2) eNil) [some (gh rooms gs), some (.tup (hs.map .int)), some (.tup (cs.map .int))] st = .ok [gh rooms gs, .tup (cs.map .int)] st := rfl
  refine out_nx (ρ := [some (gh rooms gs), some (.tup (hs.map .int)), some (.tup (cs.map .int))]) ?_
  rw [hst]
  unfold b_need_asked
  rw [seq_nx (expr_ok ((call_ok (np := 2) a1 rfl).trans e1))]
  exact expr_ok ((call_ok (np := 2) a2 rfl).trans e2)
theorem ne_nil_tups {st : Sto} {ps : List (List Int)} (h : ps = []) : fNeA st (.lst (ps.map tN)) (.lst []) = some (.bl false) := by
  subst h
  exact ne_nil_ints []
theorem need_order_ok {st : Sto} {rooms : Int} {gs : List (Int × Int)} {hs cs : List Int} (h : GoodH rooms gs) (hl : hs.length = rooms.toNat) (hp : possB gs hs cs = true) : m_need_order [gh rooms gs, .tup (hs.map .int), .tup (cs.map .int)] st = .ok .non st := by
  unfold possB at hp
  rw [Bool.and_eq_true, decide_eq_true_eq, decide_eq_true_eq] at hp
  have e1 := short_ok (st := st) (cs := cs) h hl
  have e2 := lonely_ok (st := st) (cs := cs) h hl
  have n1 := ne_nil_ints (st := st) (shortL gs hs cs)
  rw [decide_eq_true hp.1] at n1
  have n2 := ne_nil_tups (st := st) hp.2
  have hst : startE 3 [gh rooms gs, .tup (hs.map .int), .tup (cs.map .int)] = [some (gh rooms gs), some (.tup (hs.map .int)), some (.tup (cs.map .int))] := rfl
  have ar : eCons (eV 0) (eCons (eV 1) (eCons (eV 2) eNil)) [some (gh rooms gs), some (.tup (hs.map .int)), some (.tup (cs.map .int))] st = .ok [gh rooms gs, .tup (hs.map .int), .tup (cs.map .int)] st := rfl
  have c1 := (call_ok (np := 3) (m := m_short_rooms) ar rfl).trans e1
  have c2 := (call_ok (np := 3) (m := m_lonely_parts) ar rfl).trans e2
  have z : eLst eNil [some (gh rooms gs), some (.tup (hs.map .int)), some (.tup (cs.map .int))] st = .ok (.lst []) st := by
    rw [c_Lst, c_Nil, bindR_ok, if_pos (sz (by simp))]
  have t1 : eTest (eB fNeA (eCall 3 m_short_rooms (eCons (eV 0) (eCons (eV 1) (eCons (eV 2) eNil)))) (eLst eNil)) [some (gh rooms gs), some (.tup (hs.map .int)), some (.tup (cs.map .int))] st = .ok false st := by
    rw [c_Test, c_B, c1, bindR_ok, z, bindR_ok, n1, optR_some, bindR_ok]
    rfl
  have t2 : eTest (eB fNeA (eCall 3 m_lonely_parts (eCons (eV 0) (eCons (eV 1) (eCons (eV 2) eNil)))) (eLst eNil)) [some (gh rooms gs), some (.tup (hs.map .int)), some (.tup (cs.map .int))] st = .ok false st := by
    rw [c_Test, c_B, c2, bindR_ok, z, bindR_ok, n2, optR_some, bindR_ok]
  refine out_nx (ρ := [some (gh rooms gs), some (.tup (hs.map .int)), some (.tup (cs.map .int))]) ?_
  rw [hst]
  unfold b_need_order
  rw [d_Seq, if_ok t1, if_neg (by decide), d_Skip]
  dsimp only
  rw [if_ok t2, if_neg (by decide), d_Skip]
section
variable {rooms : Int} {gs : List (Int × Int)} {hs cs : List Int}
theorem first_gates_ok {st : Sto} (h : GoodH rooms gs) (hh : GoodN rooms.toNat hs) (hc : GoodN gs.length cs) (hp : possB gs hs cs = true) : m_first_gates [gh rooms gs, .tup (hs.map .int), .tup (cs.map .int)] st = .ok (.tup ((firstsL gs hs cs).map .int)) st := by
  have O : Ok gs rooms.toNat hs cs := ⟨hh.len, fun x hx => (hh.at_ x hx).1, hc.len, fun x hx => (hc.at_ x hx).1⟩
  have gl := h.len
  have cl := O.cl
  let E0 : Ev.Env := [some (gh rooms gs), some (.tup (hs.map .int)), some (.tup (cs.map .int)), none]
  have ar : eCons (eV 0) (eCons (eV 1) (eCons (eV 2) eNil)) E0 st = .ok [gh rooms gs, .tup (hs.map .int), .tup (cs.map .int)] st := rfl
  have lc := lc_fm (own := [3]) (it := itRange1 (eCons (eBf fLen (eCons (eV 2) eNil)) eNil)) (g := gN 3) (c := eTest (eCall 4 m_can_begin (eCons (eV 0) (eCons (eV 1) (eCons (eV 2) (eCons (eV 3) eNil)))))) (e := eV 3) (ρ := E0) (st0 := st) (st := st)
    (xs := List.range cs.length) (fun k => .int (0 + k)) (firstB gs hs cs) (fun k => .int (0 + k)) ?_ (by rw [List.length_range]; omega) ?_
  · have ex : ((List.range cs.length).filter (firstB gs hs cs)).map (fun k : Nat => Val.int (0 + (k : Int))) = (firstsL gs hs cs).map Val.int := by
      unfold firstsL
      rw [List.map_map]; rfl
    rw [ex] at lc
    have hst : startE 4 [gh rooms gs, .tup (hs.map .int), .tup (cs.map .int)] = E0 := rfl
    refine runF_same ?_ (bel_ints _)
    rw [hst]
    unfold b_first_gates
    rw [seq_nx (expr_ok ((call_ok (np := 3) ar rfl).trans (need_asked_ok h hh hc))), seq_nx (expr_ok ((call_ok (np := 3) ar rfl).trans (need_order_ok h hh.len hp)))]
    refine ret_ok ?_
    rw [c_Bf, c_Cons, lc, bindR_ok, c_Nil, bindR_ok, bindR_ok, k_tupL, optR_some]
  · have e := range_len (st := st) (i := 2) (ρ := E0) (ys := cs.map Val.int) rfl (by rw [List.length_map]; omega)
    rw [List.length_map] at e
    exact e
  · intro k hk
    have hk := List.mem_range.mp hk
    have e := begin_gate_ok (st := st) h O hk
    have z : (0 : Int) + (k : Int) = k := by omega
    refine ⟨[some (gh rooms gs), some (.tup (hs.map .int)), some (.tup (cs.map .int)), some (.int (0 + k))], rfl, ?_, fun _ => rfl⟩
    rw [z]
    have a4 : eCons (eV 0) (eCons (eV 1) (eCons (eV 2) (eCons (eV 3) eNil))) [some (gh rooms gs), some (.tup (hs.map .int)), some (.tup (cs.map .int)), some (.int k)] st = .ok [gh rooms gs, .tup (hs.map .int), .tup (cs.map .int), .int k] st := rfl
    rw [c_Test, call_ok (np := 4) a4 rfl, e, bindR_ok]
theorem zip_range (cs : List Int) : cs.zipIdx = (List.range cs.length).map fun k => (cs.getD k 0, k) := by
  refine List.ext_getElem? fun i => ?_
  rw [List.getElem?_map, List.getElem?_zipIdx]
  by_cases h : i < cs.length
  · rw [List.getElem?_range h, List.getElem?_eq_getElem h]
    simp only [Option.map_some, Nat.zero_add, List.getD_eq_getElem?_getD, List.getElem?_eq_getElem h, Option.getD_some]
  · have e1 : cs[i]? = none := List.getElem?_eq_none (by omega)
    have e2 : (List.range cs.length)[i]? = none := List.getElem?_eq_none (by rw [List.length_range]; omega)
    rw [e1, e2]
    rfl
noncomputable def lastB (gs : List (Int × Int)) (hs cs : List Int) (i : Nat) : Bool := decide (0 < cs.getD i 0) && goodB gs hs (dec cs i)
noncomputable def lastsL (gs : List (Int × Int)) (hs cs : List Int) : List Int := ((List.range cs.length).filter (lastB gs hs cs)).map fun k : Nat => 0 + (k : Int)
def someL (cs : List Int) : List Nat := (List.range cs.length).filter fun k => decide (0 < cs.getD k 0)
theorem last_gates_ok {st : Sto} (h : GoodH rooms gs) (hh : GoodN rooms.toNat hs) (hc : GoodN gs.length cs) (hp : possB gs hs cs = true) : m_last_gates [gh rooms gs, .tup (hs.map .int), .tup (cs.map .int)] st = .ok (.tup ((lastsL gs hs cs).map .int)) st := by
  have O : Ok gs rooms.toNat hs cs := ⟨hh.len, fun x hx => (hh.at_ x hx).1, hc.len, fun x hx => (hc.at_ x hx).1⟩
  have gl := h.len
  have cl := O.cl
  have F := fitL h O.hl O.cl O.cp
  let E0 : Ev.Env := [some (gh rooms gs), some (.tup (hs.map .int)), some (.tup (cs.map .int)), none, none, none]
  have ar : eCons (eV 0) (eCons (eV 1) (eCons (eV 2) eNil)) E0 st = .ok [gh rooms gs, .tup (hs.map .int), .tup (cs.map .int)] st := rfl
  have lc1 := lc_fm (own := [4, 5]) (it := itEnum (eCons (eV 2) eNil)) (g := gT 2 (gCons' (gN 4) (gCons' (gN 5) gNil'))) (c := eTest (eB fGt (eV 5) (eC (.int 0)))) (e := eV 4) (ρ := E0) (st0 := st) (st := st)
    (xs := List.range cs.length) (fun k : Nat => .tup [.int (k : Int), .int (cs.getD k 0)]) (fun k => decide (0 < cs.getD k 0)) (fun k : Nat => .int (k : Int)) ?_ (by rw [List.length_range]; omega) ?_
  rotate_left
  · have e := enumV_map Val.int cs 0
    rw [zip_range, List.map_map] at e
    rw [c_itEnum, c_Cons, c_V]
    show bindR (bindR (Res.ok (Val.tup (cs.map .int)) st) _) _ = _
    simp only [bindR_ok, c_Nil]
    rw [e]
    rfl
  · intro k hk
    refine ⟨[some (gh rooms gs), some (.tup (hs.map .int)), some (.tup (cs.map .int)), none, some (.int k), some (.int (cs.getD k 0))], rfl, ?_, fun _ => rfl⟩
    generalize hs.map Val.int = ys
    generalize cs.map Val.int = zs
    simp only [c_Test, c_B, c_V, c_C, List.getElem?_cons_succ, List.getElem?_cons_zero, bindR_ok, k_gt, optR_some]
  let E1 : Ev.Env := [some (gh rooms gs), some (.tup (hs.map .int)), some (.tup (cs.map .int)), some (.lst ((someL cs).map fun k : Nat => Val.int (k : Int))), none, none]
  have lc2 := lc_fm (own := [4]) (it := itV (eV 3)) (g := gN 4) (c := eTest (eCall 3 m_is_possible_of (eCons (eV 0) (eCons (eV 1) (eCons (eCall 2 m_one_less (eCons (eV 2) (eCons (eV 4) eNil))) eNil))))) (e := eV 4) (ρ := E1) (st0 := st) (st := st)
    (xs := someL cs) (fun k : Nat => .int (k : Int)) (fun k => goodB gs hs (dec cs k)) (fun k : Nat => .int (k : Int)) rfl (by
      have := List.length_filter_le (fun k => decide (0 < cs.getD k 0)) (List.range cs.length)
      rw [List.length_range] at this
      unfold someL
      omega) ?_
  rotate_left
  · intro k hk
    obtain ⟨k1, k2⟩ := List.mem_filter.mp hk
    have k1 := List.mem_range.mp k1
    have k2 : 0 < cs.getD k 0 := of_decide_eq_true k2
    have h1 : cs[k]? = some (cs.getD k 0) := by rw [List.getD_eq_getElem?_getD, List.getElem?_eq_getElem k1]; rfl
    have F2 := F.dec h1 k2
    have el := one_less_ok (st := st) h1 (by omega)
    have ep2 := possible_of_ok (st := st) (cs := dec cs k) h O.hl
    rw [possB_good h O.hl O.hp F2.len F2.pos] at ep2
    let E2 : Ev.Env := [some (gh rooms gs), some (.tup (hs.map .int)), some (.tup (cs.map .int)), some (.lst ((someL cs).map fun k : Nat => Val.int (k : Int))), some (.int k), none]
    have a2 : eCons (eV 2) (eCons (eV 4) eNil) E2 st = .ok [.tup (cs.map .int), .int k] st := rfl
    have b2 := (call_ok (np := 2) (m := m_one_less) a2 rfl).trans el
    have v0 : eV 0 E2 st = .ok (gh rooms gs) st := rfl
    have v1 : eV 1 E2 st = .ok (.tup (hs.map .int)) st := rfl
    have a3 : eCons (eV 0) (eCons (eV 1) (eCons (eCall 2 m_one_less (eCons (eV 2) (eCons (eV 4) eNil))) eNil)) E2 st = .ok [gh rooms gs, .tup (hs.map .int), .tup ((dec cs k).map .int)] st := by
      rw [c_Cons, v0, bindR_ok, c_Cons, v1, bindR_ok, c_Cons, b2, bindR_ok, c_Nil, bindR_ok, bindR_ok, bindR_ok]
    refine ⟨E2, rfl, ?_, fun _ => rfl⟩
    rw [c_Test, call_ok (np := 3) a3 rfl, ep2, bindR_ok]
  have ex : ((someL cs).filter fun k => goodB gs hs (dec cs k)).map (fun k : Nat => Val.int (k : Int)) = (lastsL gs hs cs).map Val.int := by
    unfold lastsL someL
    rw [List.filter_filter, List.map_map]
    have e1 : (fun a => goodB gs hs (dec cs a) && decide (0 < cs.getD a 0)) = lastB gs hs cs := by
      funext a
      unfold lastB
      rw [Bool.and_comm]
    rw [e1]
    refine List.map_congr_left fun k _ => ?_
    show Val.int (k : Int) = Val.int (0 + (k : Int))
    rw [Int.zero_add]
  rw [ex] at lc2
  have hst : startE 6 [gh rooms gs, .tup (hs.map .int), .tup (cs.map .int)] = E0 := rfl
  refine runF_same ?_ (bel_ints _)
  rw [hst]
  unfold b_last_gates
  have s3 : sSet 3 (eLc false [4, 5] (itEnum (eCons (eV 2) eNil)) (gT 2 (gCons' (gN 4) (gCons' (gN 5) gNil'))) (eTest (eB fGt (eV 5) (eC (.int 0)))) (eV 4)) E0 st = .nx E1 st := set_ok lc1
  rw [seq_nx (expr_ok ((call_ok (np := 3) ar rfl).trans (need_asked_ok h hh hc))), seq_nx (expr_ok ((call_ok (np := 3) ar rfl).trans (need_order_ok h hh.len hp))), seq_nx s3]
  refine ret_ok ?_
  rw [c_Bf, c_Cons, lc2, bindR_ok, c_Nil, bindR_ok, bindR_ok, k_tupL, optR_some]
end
end Gc

set_option Elab.async false
set_option linter.all false
set_option maxRecDepth 100000
set_option maxHeartbeats 4000000
namespace Gc
open PySem PySem.Spec PyProof.Rows L2 Ev
open Gr (Fit Good dec)
section
variable {st more : Sto} {x y : Ob}
theorem mid_get : (st ++ x :: more)[st.length]? = some x := by simp
theorem mid_set : (st ++ x :: more).set st.length y = st ++ y :: more := by simp
end
theorem can_newO {rooms : Int} {gs : List (Int × Int)} {hs ps : List Int} (h : GoodH rooms gs) (h5 : gs.length ≤ 5) (O : Ok gs rooms.toNat hs ps) (hsum : ps.sum ≤ 6) (st : Sto) : ∃ kvs, m__law_can [gh rooms gs, .tup (hs.map .int), .tup (ps.map .int), .loc st.length] (st ++ [.dN []]) = .ok (.bl (goodB gs hs ps)) (st ++ [.dN kvs]) := by
  obtain ⟨kvs, e, _⟩ := can_ok h 8 hs ps [] (st ++ [.dN []]) st.length O (by omega) (app_get st _) (fun _ _ _ hb => by cases hb) (by
    have e1 := more_mono gs.length (m := ps.sum.toNat) (m' := 6) (by omega)
    have e2 := more_le (L := gs.length) (L' := 5) h5 6
    have e3 : Gc.more 5 6 = 3906 := by decide
    simp only [List.length_nil]
    omega)
  rw [app_set] at e
  exact ⟨kvs, e⟩
theorem append_ok {ρ : Ev.Env} {st more : Sto} {a : Nat} {F : List Int} {i : Int} {b : Nat} (ha : ρ[a]? = some (some (.loc st.length))) (hb : ρ[b]? = some (some (.int i))) (hl : F.length ≤ 1000) : sExpr (eLm fAppend (eV a) (eCons (eV b) eNil)) ρ (st ++ .lst (F.map .int) :: more) = .nx ρ (st ++ .lst ((F ++ [i]).map .int) :: more) := by
  have e1 : eV a ρ (st ++ .lst (F.map .int) :: more) = .ok (.loc st.length) (st ++ .lst (F.map .int) :: more) := by rw [c_V, ha]
  have e2 : eCons (eV b) eNil ρ (st ++ .lst (F.map .int) :: more) = .ok [.int i] (st ++ .lst (F.map .int) :: more) := by
    rw [c_Cons, c_V, hb]
    rfl
  have e3 : fAppend (st ++ .lst (F.map .int) :: more) (F.map .int) [.int i] = some (.non, F.map .int ++ [.int i]) := fAppend_ok (by rw [List.length_map]; omega)
  refine expr_ok (v := .non) ?_
  rw [c_Lm, e1, bindR_ok]
  dsimp only
  rw [mid_get]
  dsimp only
  rw [e2, bindR_ok, mid_get]
  dsimp only
  rw [e3]
  dsimp only
  rw [mid_set, List.map_append]
  rfl
def laterE : E := eIf (eTest (eB fGt (eB fIx (eV 2) (eV 4)) (eC (.int 0)))) (eCall 3 m__law_passed (eCons (eV 0) (eCons (eV 1) (eCons (eV 4) eNil)))) (eC .non)
def firstT : ET := eAndT (eTest (eB fIsNot (eV 5) (eC .non))) (eTest (eCall 4 m__law_can (eCons (eV 0) (eCons (eV 5) (eCons (eCall 2 m__law_less (eCons (eV 2) (eCons (eV 4) eNil))) (eCons eNewN eNil))))))
def firstB1 : S := sSeq (sSet 5 laterE) (sIf firstT (sExpr (eLm fAppend (eV 3) (eCons (eV 4) eNil))) sSkip)
theorem b_firsts_eq : b__law_firsts = sSeq (sSet 3 (eNew eNil)) (sSeq (sFor (itRange1 (eCons (eBf fLen (eCons (eV 2) eNil)) eNil)) (gN 4) firstB1) (sRet (eBf fTuple (eCons (eV 3) eNil)))) := rfl
def envF (rooms : Int) (gs : List (Int × Int)) (hs cs : List Int) (n : Nat) (x4 x5 : Option Val) : Ev.Env := [some (gh rooms gs), some (.tup (hs.map .int)), some (.tup (cs.map .int)), some (.loc n), x4, x5]
section
variable {rooms : Int} {gs : List (Int × Int)} {hs cs : List Int}
theorem passed_gate (h : GoodH rooms gs) (O : Ok gs rooms.toNat hs cs) {i : Nat} (hi : i < cs.length) (st : Sto) : m__law_passed [gh rooms gs, .tup (hs.map .int), .int i] st = .ok (if (gAt gs i).1 < 0 ∨ hs.getD (gAt gs i).1.toNat 0 ≠ 0 then .tup ((mvL hs (gAt gs i)).map .int) else .non) st := by
  have cl := O.cl
  have hN : (hs.length : Int) = rooms := by have := O.hl; have := h.lo; omega
  have hlen : hs.length ≤ 1000 := by have := h.hi; omega
  have hg := gAt_get (gs := gs) (i := i) (by omega)
  have ok := h.at_ _ (List.mem_of_getElem? hg)
  have g1 : (gAt gs i).1 < hs.length := by have := ok.2.1; omega
  by_cases u : (gAt gs i).1 < 0 ∨ hs.getD (gAt gs i).1.toNat 0 ≠ 0
  · rw [if_pos u]
    exact passed_some hg g1 hlen u
  · rw [if_neg u]
    refine passed_none hg ?_ g1 hlen (Classical.byContradiction fun z => u (.inr z))
    rcases (show (gAt gs i).1 < 0 ∨ 0 ≤ (gAt gs i).1 by omega) with z | z
    · exact absurd (.inl z) u
    · exact z
theorem later_ok (h : GoodH rooms gs) (O : Ok gs rooms.toNat hs cs) {i : Nat} (hi : i < cs.length) (n : Nat) (x5 : Option Val) (st : Sto) : laterE (envF rooms gs hs cs n (some (.int i)) x5) st = .ok (if useB gs hs cs i = true then .tup ((mvL hs (gAt gs i)).map .int) else .non) st := by
  have h1 : cs[i]? = some (cs.getD i 0) := by rw [List.getD_eq_getElem?_getD, List.getElem?_eq_getElem hi]; rfl
  have ec : fIx st (.tup (cs.map Val.int)) (.int i) = some (.int (cs.getD i 0)) := ix_tup (by omega) (by rw [Int.toNat_natCast, List.getElem?_map, h1]; rfl)
  have tst : eTest (eB fGt (eB fIx (eV 2) (eV 4)) (eC (.int 0))) (envF rooms gs hs cs n (some (.int i)) x5) st = .ok (decide (0 < cs.getD i 0)) st := by
    unfold envF
    generalize hs.map Val.int = ys
    generalize cs.map Val.int = zs at ec ⊢
    simp only [c_Test, c_B, c_V, c_C, List.getElem?_cons_succ, List.getElem?_cons_zero, bindR_ok, ec, optR_some, k_gt]
  have ar : eCons (eV 0) (eCons (eV 1) (eCons (eV 4) eNil)) (envF rooms gs hs cs n (some (.int i)) x5) st = .ok [gh rooms gs, .tup (hs.map .int), .int i] st := rfl
  unfold laterE
  rw [c_If, tst, bindR_ok]
  unfold useB
  by_cases q : 0 < cs.getD i 0
  · rw [decide_eq_true q, if_pos rfl, call_ok (np := 3) ar rfl, passed_gate h O hi, Bool.true_and]
    congr 1
    by_cases u : (gAt gs i).1 < 0 ∨ hs.getD (gAt gs i).1.toNat 0 ≠ 0
    · rw [if_pos u, if_pos (by simpa using u)]
    · rw [if_neg u, if_neg (by simpa using u)]
  · rw [decide_eq_false q, if_neg (by decide), c_C, Bool.false_and, if_neg (by decide)]
theorem firsts_step (h : GoodH rooms gs) (h5 : gs.length ≤ 5) (O : Ok gs rooms.toNat hs cs) (hsum : cs.sum ≤ 6) {i : Nat} (hi : i < cs.length) (F : List Int) (hF : F.length ≤ 900) (st more : Sto) (x5 : Option Val) :
    ∃ more' y5, firstB1 (envF rooms gs hs cs st.length (some (.int (0 + i))) x5) (st ++ .lst (F.map .int) :: more) = .nx (envF rooms gs hs cs st.length (some (.int (0 + i))) y5) (st ++ .lst ((if firstB gs hs cs i = true then F ++ [0 + (i : Int)] else F).map .int) :: more') := by
  have z : (0 : Int) + (i : Int) = i := by omega
  rw [z]
  have cl := O.cl
  have gl := h.len
  have hset : sSet 5 laterE (envF rooms gs hs cs st.length (some (.int i)) x5) (st ++ .lst (F.map .int) :: more) = .nx (envF rooms gs hs cs st.length (some (.int i)) (some (if useB gs hs cs i = true then .tup ((mvL hs (gAt gs i)).map .int) else .non))) (st ++ .lst (F.map .int) :: more) := set_ok (later_ok h O hi st.length x5 _)
  unfold firstB1
  rw [seq_nx hset]
  unfold firstB
  cases hu : useB gs hs cs i with
  | false =>
    refine ⟨more, some .non, ?_⟩
    rw [if_neg (by decide)]
    have t : firstT (envF rooms gs hs cs st.length (some (.int i)) (some .non)) (st ++ .lst (F.map .int) :: more) = .ok false (st ++ .lst (F.map .int) :: more) := by
      have i1 : eTest (eB fIsNot (eV 5) (eC .non)) (envF rooms gs hs cs st.length (some (.int i)) (some .non)) (st ++ .lst (F.map .int) :: more) = .ok false (st ++ .lst (F.map .int) :: more) := rfl
      unfold firstT
      rw [c_AndT, i1, bindR_ok, if_neg (by decide)]
    rw [if_ok t, if_neg (by decide), d_Skip, Bool.false_and, if_neg (by decide)]
  | true =>
    have U := (useB_iff hi cl).mp hu
    have O' := O.pass h U
    obtain ⟨c, hc1, hc2⟩ := U.2.1
    have sd := sum_dec hc1
    rw [if_pos rfl, Bool.true_and]
    let v5 : Val := .tup ((mvL hs (gAt gs i)).map .int)
    obtain ⟨kvs, ek⟩ := can_newO h h5 O' (by omega) (st ++ .lst (F.map .int) :: more)
    have el := less_ok (st := st ++ .lst (F.map .int) :: more) hc1 (by omega)
    have a2 : eCons (eV 2) (eCons (eV 4) eNil) (envF rooms gs hs cs st.length (some (.int i)) (some v5)) (st ++ .lst (F.map .int) :: more) = .ok [.tup (cs.map .int), .int i] (st ++ .lst (F.map .int) :: more) := rfl
    have b2 := (call_ok (np := 2) (m := m__law_less) a2 rfl).trans el
    have v0 : eV 0 (envF rooms gs hs cs st.length (some (.int i)) (some v5)) (st ++ .lst (F.map .int) :: more) = .ok (gh rooms gs) (st ++ .lst (F.map .int) :: more) := rfl
    have v1 : eV 5 (envF rooms gs hs cs st.length (some (.int i)) (some v5)) (st ++ .lst (F.map .int) :: more) = .ok v5 (st ++ .lst (F.map .int) :: more) := rfl
    have ar : eCons (eV 0) (eCons (eV 5) (eCons (eCall 2 m__law_less (eCons (eV 2) (eCons (eV 4) eNil))) (eCons eNewN eNil))) (envF rooms gs hs cs st.length (some (.int i)) (some v5)) (st ++ .lst (F.map .int) :: more) = .ok [gh rooms gs, v5, .tup ((dec cs i).map .int), .loc (st ++ .lst (F.map .int) :: more).length] ((st ++ .lst (F.map .int) :: more) ++ [.dN []]) := by
      rw [c_Cons, v0, bindR_ok, c_Cons, v1, bindR_ok, c_Cons, b2, bindR_ok, c_Cons, c_NewN, bindR_ok, c_Nil, bindR_ok, bindR_ok, bindR_ok, bindR_ok]
    have t : firstT (envF rooms gs hs cs st.length (some (.int i)) (some v5)) (st ++ .lst (F.map .int) :: more) = .ok (goodB gs (mvL hs (gAt gs i)) (dec cs i)) ((st ++ .lst (F.map .int) :: more) ++ [.dN kvs]) := by
      have i1 : eTest (eB fIsNot (eV 5) (eC .non)) (envF rooms gs hs cs st.length (some (.int i)) (some v5)) (st ++ .lst (F.map .int) :: more) = .ok true (st ++ .lst (F.map .int) :: more) := rfl
      unfold firstT
      rw [c_AndT, i1, bindR_ok, if_pos rfl, c_Test, call_ok (np := 4) ar rfl, ek, bindR_ok]
    have es : (st ++ .lst (F.map .int) :: more) ++ [.dN kvs] = st ++ .lst (F.map .int) :: (more ++ [.dN kvs]) := by simp
    rw [es] at t
    refine ⟨more ++ [.dN kvs], some v5, ?_⟩
    rw [if_ok t]
    cases goodB gs (mvL hs (gAt gs i)) (dec cs i) with
    | true =>
      rw [if_pos rfl, if_pos rfl]
      exact append_ok rfl rfl (by omega)
    | false =>
      rw [if_neg (by decide), if_neg (by decide), d_Skip]
theorem firsts_loop (h : GoodH rooms gs) (h5 : gs.length ≤ 5) (O : Ok gs rooms.toNat hs cs) (hsum : cs.sum ≤ 6) (st : Sto) (d : Nat) : ∀ (j : Nat), j + d = cs.length → ∀ (F : List Int), F.length ≤ j → ∀ (more : Sto) (x4 x5 : Option Val),
    ∃ more' y4 y5, forL (gN 4) firstB1 ((List.range' j d).map fun i : Nat => Val.int (0 + i)) (envF rooms gs hs cs st.length x4 x5) (st ++ .lst (F.map .int) :: more) = .nx (envF rooms gs hs cs st.length y4 y5) (st ++ .lst ((F ++ ((List.range' j d).filter (firstB gs hs cs)).map fun k : Nat => 0 + (k : Int)).map .int) :: more') := by
  induction d with
  | zero =>
    intro j hj F hF more x4 x5
    refine ⟨more, x4, x5, ?_⟩
    simp
  | succ d ih =>
    intro j hj F hF more x4 x5
    have gl := h.len
    have cl := O.cl
    obtain ⟨m1, y5, e1⟩ := firsts_step h h5 O hsum (i := j) (by omega) F (by omega) st more x5
    obtain ⟨m2, z4, z5, e2⟩ := ih (j + 1) (by omega) (if firstB gs hs cs j = true then F ++ [0 + (j : Int)] else F) (by
      split
      · rw [List.length_append, List.length_singleton]; omega
      · omega) m1 (some (.int (0 + j))) y5
    refine ⟨m2, z4, z5, ?_⟩
    rw [List.range'_succ, List.map_cons]
    have eg : gN 4 (Val.int (0 + (j : Int))) (envF rooms gs hs cs st.length x4 x5) (st ++ .lst (F.map .int) :: more) = some (envF rooms gs hs cs st.length (some (.int (0 + j))) x5, st ++ .lst (F.map .int) :: more) := rfl
    rw [forL_step eg e1, e2, List.filter_cons]
    cases firstB gs hs cs j with
    | true => rw [if_pos rfl, if_pos rfl, List.map_cons, List.append_assoc, List.singleton_append]
    | false => rw [if_neg (by decide), if_neg (by decide)]
theorem tuple_mid {ρ : Ev.Env} {st more : Sto} {a : Nat} {F : List Int} (ha : ρ[a]? = some (some (.loc st.length))) : eBf fTuple (eCons (eV a) eNil) ρ (st ++ .lst (F.map .int) :: more) = .ok (.tup (F.map .int)) (st ++ .lst (F.map .int) :: more) := by
  have e : fTuple (st ++ .lst (F.map .int) :: more) [.loc st.length] = some (.tup (F.map .int)) := by
    unfold fTuple
    dsimp only
    have : seqOf (st ++ .lst (F.map .int) :: more) (.loc st.length) = some (F.map .int) := by
      unfold seqOf dr
      simp only [mid_get]
    rw [this]; rfl
  rw [c_Bf, c_Cons, c_V, ha]
  dsimp only
  rw [bindR_ok, c_Nil, bindR_ok, bindR_ok, e, optR_some]
theorem firsts_ok (h : GoodH rooms gs) (h5 : gs.length ≤ 5) (O : Ok gs rooms.toNat hs cs) (hsum : cs.sum ≤ 6) (st : Sto) : m__law_firsts [gh rooms gs, .tup (hs.map .int), .tup (cs.map .int)] st = .ok (.tup ((firstsL gs hs cs).map .int)) st := by
  have gl := h.len
  have cl := O.cl
  obtain ⟨more, y4, y5, e⟩ := firsts_loop h h5 O hsum st cs.length 0 (by omega) [] (by simp) [] none none
  rw [← List.range_eq_range', List.nil_append] at e
  have ef : ((List.range cs.length).filter (firstB gs hs cs)).map (fun k : Nat => 0 + (k : Int)) = firstsL gs hs cs := rfl
  rw [ef] at e
  refine runF_of (more := .lst ((firstsL gs hs cs).map .int) :: more) ?_ rfl (okOld_refl st) (bel_ints _)
  have hst : startE 6 [gh rooms gs, .tup (hs.map .int), .tup (cs.map .int)] = [some (gh rooms gs), some (.tup (hs.map .int)), some (.tup (cs.map .int)), none, none, none] := rfl
  have s1 : sSet 3 (eNew eNil) [some (gh rooms gs), some (.tup (hs.map .int)), some (.tup (cs.map .int)), none, none, none] st = .nx (envF rooms gs hs cs st.length none none) (st ++ [.lst []]) := by
    refine set_ok (v := .loc st.length) ?_
    rw [c_New, c_Nil, bindR_ok, if_pos (sz (by simp))]
  have s2 : itRange1 (eCons (eBf fLen (eCons (eV 2) eNil)) eNil) (envF rooms gs hs cs st.length none none) (st ++ [.lst []]) = .ok ((List.range cs.length).map fun k : Nat => Val.int (0 + k)) (st ++ [.lst []]) := by
    have := range_len (st := st ++ [.lst []]) (i := 2) (ρ := envF rooms gs hs cs st.length none none) (ys := cs.map Val.int) rfl (by rw [List.length_map]; omega)
    rw [List.length_map] at this
    exact this
  rw [hst, b_firsts_eq, seq_nx s1, seq_nx (for_nx s2 e)]
  exact ret_ok (tuple_mid rfl)
end
end Gc

set_option Elab.async false
set_option linter.all false
set_option maxRecDepth 100000
set_option maxHeartbeats 4000000
namespace Gc
open PySem PySem.Spec PyProof.Rows L2 Ev
open Gr (Fit Good dec net netZ dl)
theorem mulS_ok {st : Sto} {i j : Int} (h1 : 0 ≤ j) (h2 : j ≤ 1000) : fMul st (.int i) (.int j) = some (.int (i * j)) := by
  have : cMul i j = true := cMul_right (by omega) (by omega)
  show (if cMul i j = true then some (Val.int (i * j)) else none) = _
  rw [if_pos this]
def pass1 (here : List Int) (q s : Int) : List Int := if 0 ≤ q then here.set q.toNat (here.getD q.toNat 0 + s) else here
theorem pass1_len (here : List Int) (q s : Int) : (pass1 here q s).length = here.length := by
  unfold pass1
  split
  · rw [List.length_set]
  · rfl
theorem pass1_get {here : List Int} {q s p : Int} (hq : q < here.length) (hp : 0 ≤ p) : (pass1 here q s).getD p.toNat 0 = here.getD p.toNat 0 + s * Gr.dl p q := by
  unfold pass1 Gr.dl
  by_cases h0 : 0 ≤ q
  · rw [if_pos h0]
    by_cases e : q = p
    · subst e
      rw [if_pos rfl, List.getD_eq_getElem?_getD, List.getElem?_set_self (by omega)]
      simp
    · rw [if_neg e, List.getD_eq_getElem?_getD, List.getElem?_set_ne (by omega), List.getD_eq_getElem?_getD]
      simp
  · rw [if_neg h0, if_neg (by omega)]
    simp
def accL (z : List ((Int × Int) × Int)) (here : List Int) : List Int := z.foldl (fun hr x => pass1 (pass1 hr x.1.1 (-1 * x.2)) x.1.2 (1 * x.2)) here
theorem accL_len : ∀ (z : List ((Int × Int) × Int)) (here : List Int), (accL z here).length = here.length
  | [], _ => rfl
  | x :: z, here => by
    show (accL z _).length = _
    rw [accL_len z, pass1_len, pass1_len]
theorem accL_get {n : Nat} {p : Int} (hp : 0 ≤ p) : ∀ (z : List ((Int × Int) × Int)) (here : List Int), here.length = n → (∀ x, x ∈ z → x.1.1 < n ∧ x.1.2 < n) → (accL z here).getD p.toNat 0 = here.getD p.toNat 0 + netZ (Gr.dl p) z
  | [], here, _, _ => by
    show here.getD p.toNat 0 = _ + 0
    omega
  | x :: z, here, hl, hz => by
    obtain ⟨a, b⟩ := hz x List.mem_cons_self
    have e : netZ (Gr.dl p) (x :: z) = x.2 * (Gr.dl p x.1.2 - Gr.dl p x.1.1) + netZ (Gr.dl p) z := rfl
    show (accL z (pass1 (pass1 here x.1.1 (-1 * x.2)) x.1.2 (1 * x.2))).getD p.toNat 0 = _
    rw [accL_get hp z _ (by rw [pass1_len, pass1_len]; exact hl) fun y hy => hz y (List.mem_cons_of_mem _ hy), pass1_get (by rw [pass1_len]; omega) hp, pass1_get (by omega) hp, e, Int.mul_sub, Int.one_mul, Int.neg_mul, Int.one_mul, Int.neg_mul]
    omega
def innB : S := sIf (eTest (eB fGe (eV 8) (eC (.int 0)))) (sAugI fIadd (eV 5) (eV 8) (eB fMul (eV 9) (eV 7))) sSkip
def innFor : S := sFor (itV (eTup (eCons (eTup (eCons (eB fIx (eV 6) (eC (.int 0))) (eCons (fNeg (eC (.int 1))) eNil))) (eCons (eTup (eCons (eB fIx (eV 6) (eC (.int 1))) (eCons (eC (.int 1)) eNil))) eNil)))) (gT 2 (gCons' (gN 8) (gCons' (gN 9) gNil'))) innB
def lastFor : S := sFor (itZip (eCons (eB fIx (eV 0) (eC (.int 1))) (eCons (eCall 2 m__law_less (eCons (eV 2) (eCons (eV 4) eNil))) eNil))) (gT 2 (gCons' (gN 6) (gCons' (gN 7) gNil'))) innFor
def lastT : ET := eAndT (eTest (eB fGt (eB fIx (eV 2) (eV 4)) (eC (.int 0)))) (eTest (eCall 4 m__law_can (eCons (eV 0) (eCons (eV 1) (eCons (eCall 2 m__law_less (eCons (eV 2) (eCons (eV 4) eNil))) (eCons eNewN eNil))))))
def lastEnd : S := sIf (eTest (eB fIsNot (eCall 3 m__law_passed (eCons (eV 0) (eCons (eBf fTuple (eCons (eV 5) eNil)) (eCons (eV 4) eNil)))) (eC .non))) (sExpr (eLm fAppend (eV 3) (eCons (eV 4) eNil))) sSkip
def lastB1 : S := sIf lastT (sSeq (sSet 5 (eListN (eCons (eV 1) eNil))) (sSeq lastFor lastEnd)) sSkip
theorem b_lasts_eq : b__law_lasts = sSeq (sSet 3 (eNew eNil)) (sSeq (sFor (itRange1 (eCons (eBf fLen (eCons (eV 2) eNil)) eNil)) (gN 4) lastB1) (sRet (eBf fTuple (eCons (eV 3) eNil)))) := rfl
def envL (rooms : Int) (gs : List (Int × Int)) (hs cs : List Int) (n : Nat) (x4 x5 x6 x7 x8 x9 : Option Val) : Ev.Env := [some (gh rooms gs), some (.tup (hs.map .int)), some (.tup (cs.map .int)), some (.loc n), x4, x5, x6, x7, x8, x9]
theorem augE_ok {f : Sto → Val → Val → Option Val} {ρ : Ev.Env} {st : Sto} {a b n : Nat} {e : E} {ns : List Int} {r v w : Int} (ha : ρ[a]? = some (some (.loc n))) (hb : ρ[b]? = some (some (.int r))) (h : st[n]? = some (.lst (ns.map .int))) (h0 : 0 ≤ r) (h1 : r < ns.length) (he : e ρ st = .ok (.int w) st)
    (hf : f st (.int (ns.getD r.toNat 0)) (.int w) = some (.int v)) : sAugI f (eV a) (eV b) e ρ st = .nx ρ (st.set n (.lst ((ns.set r.toNat v).map .int))) := by
  have e1 : eV a ρ st = .ok (.loc n) st := by rw [c_V, ha]
  have e2 : eV b ρ st = .ok (.int r) st := by rw [c_V, hb]
  have e3 : fGet st (.loc n) (.int r) = some (.int (ns.getD r.toNat 0)) := by
    unfold fGet lstOf dr
    simp only [h]
    exact at_ints h0 h1
  have e4 : fSet st (.loc n) (.int r) (.int v) = some (st.set n (.lst ((ns.set r.toNat v).map .int))) := by
    unfold fSet
    simp only [h]
    rw [ixN_in h0 (by rw [List.length_map]; omega)]
    simp only [Option.map_some, List.map_set]
  unfold sAugI
  rw [e1]
  dsimp only
  rw [e2]
  dsimp only
  rw [e3]
  dsimp only
  rw [he]
  dsimp only
  rw [hf]
  dsimp only
  rw [e4]
section
variable {rooms : Int} {gs : List (Int × Int)} {hs cs : List Int} {n : Nat} {x4 : Option Val}
theorem innB_ok {S0 : Sto} {here : List Int} {q s c : Int} (hq : q < here.length) (hc : 0 ≤ c ∧ c ≤ 1000) (x6 : Option Val) : innB (envL rooms gs hs cs n x4 (some (.loc S0.length)) x6 (some (.int c)) (some (.int q)) (some (.int s))) (S0 ++ [.lst (here.map .int)]) = .nx (envL rooms gs hs cs n x4 (some (.loc S0.length)) x6 (some (.int c)) (some (.int q)) (some (.int s))) (S0 ++ [.lst ((pass1 here q (s * c)).map .int)]) := by
  have t : eTest (eB fGe (eV 8) (eC (.int 0))) (envL rooms gs hs cs n x4 (some (.loc S0.length)) x6 (some (.int c)) (some (.int q)) (some (.int s))) (S0 ++ [.lst (here.map .int)]) = .ok (decide (0 ≤ q)) (S0 ++ [.lst (here.map .int)]) := by
    have v : eV 8 (envL rooms gs hs cs n x4 (some (.loc S0.length)) x6 (some (.int c)) (some (.int q)) (some (.int s))) (S0 ++ [.lst (here.map .int)]) = .ok (.int q) (S0 ++ [.lst (here.map .int)]) := rfl
    rw [c_Test, c_B, v, bindR_ok, c_C, bindR_ok, k_ge, optR_some, bindR_ok]
  unfold innB
  rw [if_ok t]
  unfold pass1
  by_cases h0 : 0 ≤ q
  · rw [decide_eq_true h0, if_pos rfl, if_pos h0]
    have em : eB fMul (eV 9) (eV 7) (envL rooms gs hs cs n x4 (some (.loc S0.length)) x6 (some (.int c)) (some (.int q)) (some (.int s))) (S0 ++ [.lst (here.map .int)]) = .ok (.int (s * c)) (S0 ++ [.lst (here.map .int)]) := by
      have v9 : eV 9 (envL rooms gs hs cs n x4 (some (.loc S0.length)) x6 (some (.int c)) (some (.int q)) (some (.int s))) (S0 ++ [.lst (here.map .int)]) = .ok (.int s) (S0 ++ [.lst (here.map .int)]) := rfl
      have v7 : eV 7 (envL rooms gs hs cs n x4 (some (.loc S0.length)) x6 (some (.int c)) (some (.int q)) (some (.int s))) (S0 ++ [.lst (here.map .int)]) = .ok (.int c) (S0 ++ [.lst (here.map .int)]) := rfl
      rw [c_B, v9, bindR_ok, v7, bindR_ok, mulS_ok hc.1 hc.2, optR_some]
    have e := augE_ok (f := fIadd) (ρ := envL rooms gs hs cs n x4 (some (.loc S0.length)) x6 (some (.int c)) (some (.int q)) (some (.int s))) (st := S0 ++ [.lst (here.map .int)]) (a := 5) (b := 8) (n := S0.length) (ns := here) (r := q) (v := here.getD q.toNat 0 + s * c) (w := s * c) rfl rfl (app_get S0 _) h0 hq em rfl
    rw [e, app_set]
  · rw [decide_eq_false h0, if_neg (by decide), if_neg h0, d_Skip]
theorem innFor_ok {S0 : Sto} {here : List Int} {g : Int × Int} {c : Int} (hg : g.1 < here.length ∧ g.2 < here.length) (hc : 0 ≤ c ∧ c ≤ 1000) (x8 x9 : Option Val) : ∃ y8 y9, innFor (envL rooms gs hs cs n x4 (some (.loc S0.length)) (some (pV g)) (some (.int c)) x8 x9) (S0 ++ [.lst (here.map .int)]) = .nx (envL rooms gs hs cs n x4 (some (.loc S0.length)) (some (pV g)) (some (.int c)) y8 y9) (S0 ++ [.lst ((pass1 (pass1 here g.1 (-1 * c)) g.2 (1 * c)).map .int)]) := by
  refine ⟨some (.int g.2), some (.int 1), ?_⟩
  have i1 := innB_ok (rooms := rooms) (gs := gs) (hs := hs) (cs := cs) (n := n) (x4 := x4) (S0 := S0) (here := here) (q := g.1) (s := -1) (c := c) hg.1 hc (some (pV g))
  have i2 := innB_ok (rooms := rooms) (gs := gs) (hs := hs) (cs := cs) (n := n) (x4 := x4) (S0 := S0) (here := pass1 here g.1 (-1 * c)) (q := g.2) (s := 1) (c := c) (by rw [pass1_len]; exact hg.2) hc (some (pV g))
  have it : itV (eTup (eCons (eTup (eCons (eB fIx (eV 6) (eC (.int 0))) (eCons (fNeg (eC (.int 1))) eNil))) (eCons (eTup (eCons (eB fIx (eV 6) (eC (.int 1))) (eCons (eC (.int 1)) eNil))) eNil))) (envL rooms gs hs cs n x4 (some (.loc S0.length)) (some (pV g)) (some (.int c)) x8 x9) (S0 ++ [.lst (here.map .int)]) = .ok [.tup [.int g.1, .int (-1)], .tup [.int g.2, .int 1]] (S0 ++ [.lst (here.map .int)]) := by
    have v6 : eV 6 (envL rooms gs hs cs n x4 (some (.loc S0.length)) (some (pV g)) (some (.int c)) x8 x9) (S0 ++ [.lst (here.map .int)]) = .ok (pV g) (S0 ++ [.lst (here.map .int)]) := rfl
    have b0 : eB fIx (eV 6) (eC (.int 0)) (envL rooms gs hs cs n x4 (some (.loc S0.length)) (some (pV g)) (some (.int c)) x8 x9) (S0 ++ [.lst (here.map .int)]) = .ok (.int g.1) (S0 ++ [.lst (here.map .int)]) := by
      rw [c_B, v6, bindR_ok, c_C, bindR_ok, pV_0, optR_some]
    have b1 : eB fIx (eV 6) (eC (.int 1)) (envL rooms gs hs cs n x4 (some (.loc S0.length)) (some (pV g)) (some (.int c)) x8 x9) (S0 ++ [.lst (here.map .int)]) = .ok (.int g.2) (S0 ++ [.lst (here.map .int)]) := by
      rw [c_B, v6, bindR_ok, c_C, bindR_ok, pV_1, optR_some]
    have ng : fNeg (eC (.int 1)) (envL rooms gs hs cs n x4 (some (.loc S0.length)) (some (pV g)) (some (.int c)) x8 x9) (S0 ++ [.lst (here.map .int)]) = .ok (.int (-1)) (S0 ++ [.lst (here.map .int)]) := by
      rw [c_Neg, c_C, bindR_ok]
    have t0 : eTup (eCons (eB fIx (eV 6) (eC (.int 0))) (eCons (fNeg (eC (.int 1))) eNil)) (envL rooms gs hs cs n x4 (some (.loc S0.length)) (some (pV g)) (some (.int c)) x8 x9) (S0 ++ [.lst (here.map .int)]) = .ok (.tup [.int g.1, .int (-1)]) (S0 ++ [.lst (here.map .int)]) := by
      rw [c_Tup, c_Cons, b0, bindR_ok, c_Cons, ng, bindR_ok, c_Nil, bindR_ok, bindR_ok, bindR_ok, if_pos (sz (by simp))]
    have t1 : eTup (eCons (eB fIx (eV 6) (eC (.int 1))) (eCons (eC (.int 1)) eNil)) (envL rooms gs hs cs n x4 (some (.loc S0.length)) (some (pV g)) (some (.int c)) x8 x9) (S0 ++ [.lst (here.map .int)]) = .ok (.tup [.int g.2, .int 1]) (S0 ++ [.lst (here.map .int)]) := by
      rw [c_Tup, c_Cons, b1, bindR_ok, c_Cons, c_C, bindR_ok, c_Nil, bindR_ok, bindR_ok, bindR_ok, if_pos (sz (by simp))]
    rw [c_itV, c_Tup, c_Cons, t0, bindR_ok, c_Cons, t1, bindR_ok, c_Nil, bindR_ok, bindR_ok, bindR_ok, if_pos (sz (by simp)), bindR_ok]
  unfold innFor
  refine for_nx it ?_
  have g1 : gT 2 (gCons' (gN 8) (gCons' (gN 9) gNil')) (.tup [.int g.1, .int (-1)]) (envL rooms gs hs cs n x4 (some (.loc S0.length)) (some (pV g)) (some (.int c)) x8 x9) (S0 ++ [.lst (here.map .int)]) = some (envL rooms gs hs cs n x4 (some (.loc S0.length)) (some (pV g)) (some (.int c)) (some (.int g.1)) (some (.int (-1))), S0 ++ [.lst (here.map .int)]) := rfl
  have g2 : gT 2 (gCons' (gN 8) (gCons' (gN 9) gNil')) (.tup [.int g.2, .int 1]) (envL rooms gs hs cs n x4 (some (.loc S0.length)) (some (pV g)) (some (.int c)) (some (.int g.1)) (some (.int (-1)))) (S0 ++ [.lst ((pass1 here g.1 (-1 * c)).map .int)]) = some (envL rooms gs hs cs n x4 (some (.loc S0.length)) (some (pV g)) (some (.int c)) (some (.int g.2)) (some (.int 1)), S0 ++ [.lst ((pass1 here g.1 (-1 * c)).map .int)]) := rfl
  rw [forL_step g1 i1, forL_step g2 i2, d_forNil]
theorem lastFor_loop {S0 : Sto} (z : List ((Int × Int) × Int)) : ∀ {here : List Int}, (∀ x, x ∈ z → (x.1.1 < here.length ∧ x.1.2 < here.length) ∧ 0 ≤ x.2 ∧ x.2 ≤ 1000) → ∀ (x6 x7 x8 x9 : Option Val), ∃ y6 y7 y8 y9,
    forL (gT 2 (gCons' (gN 6) (gCons' (gN 7) gNil'))) innFor (z.map fun x => .tup [pV x.1, .int x.2]) (envL rooms gs hs cs n x4 (some (.loc S0.length)) x6 x7 x8 x9) (S0 ++ [.lst (here.map .int)]) = .nx (envL rooms gs hs cs n x4 (some (.loc S0.length)) y6 y7 y8 y9) (S0 ++ [.lst ((accL z here).map .int)]) := by
  induction z with
  | nil =>
    intro here _ x6 x7 x8 x9
    exact ⟨x6, x7, x8, x9, d_forNil⟩
  | cons x z ih =>
    intro here hz x6 x7 x8 x9
    obtain ⟨h1, h2⟩ := hz x List.mem_cons_self
    obtain ⟨y8, y9, e1⟩ := innFor_ok (rooms := rooms) (gs := gs) (hs := hs) (cs := cs) (n := n) (x4 := x4) (S0 := S0) h1 h2 x8 x9
    obtain ⟨z6, z7, z8, z9, e2⟩ := ih (here := pass1 (pass1 here x.1.1 (-1 * x.2)) x.1.2 (1 * x.2)) (fun y hy => by rw [pass1_len, pass1_len]; exact hz y (List.mem_cons_of_mem _ hy)) (some (pV x.1)) (some (.int x.2)) y8 y9
    refine ⟨z6, z7, z8, z9, ?_⟩
    have eg : gT 2 (gCons' (gN 6) (gCons' (gN 7) gNil')) (.tup [pV x.1, .int x.2]) (envL rooms gs hs cs n x4 (some (.loc S0.length)) x6 x7 x8 x9) (S0 ++ [.lst (here.map .int)]) = some (envL rooms gs hs cs n x4 (some (.loc S0.length)) (some (pV x.1)) (some (.int x.2)) x8 x9, S0 ++ [.lst (here.map .int)]) := rfl
    rw [List.map_cons, forL_step eg e1, e2]
    rfl
end
end Gc

set_option Elab.async false
set_option linter.all false
set_option maxRecDepth 100000
set_option maxHeartbeats 4000000
namespace Gc
open PySem PySem.Spec PyProof.Rows L2 Ev
open Gr (Fit Good dec net netZ)
section
variable {rooms : Int} {gs : List (Int × Int)} {hs cs : List Int}
theorem passed_gate2 (h : GoodH rooms gs) (hl : (hs.length : Int) = rooms) {i : Nat} (hi : i < gs.length) (st : Sto) : m__law_passed [gh rooms gs, .tup (hs.map .int), .int i] st = .ok (if (gAt gs i).1 < 0 ∨ hs.getD (gAt gs i).1.toNat 0 ≠ 0 then .tup ((mvL hs (gAt gs i)).map .int) else .non) st := by
  have hlen : hs.length ≤ 1000 := by have := h.hi; omega
  have hg := gAt_get (gs := gs) (i := i) hi
  have ok := h.at_ _ (List.mem_of_getElem? hg)
  have g1 : (gAt gs i).1 < hs.length := by have := ok.2.1; omega
  by_cases u : (gAt gs i).1 < 0 ∨ hs.getD (gAt gs i).1.toNat 0 ≠ 0
  · rw [if_pos u]
    exact passed_some hg g1 hlen u
  · rw [if_neg u]
    refine passed_none hg ?_ g1 hlen (Classical.byContradiction fun z => u (.inr z))
    rcases (show (gAt gs i).1 < 0 ∨ 0 ≤ (gAt gs i).1 by omega) with z | z
    · exact absurd (.inl z) u
    · exact z
/-- behind all other passes the last one can be made -/
theorem last_can (h : GoodH rooms gs) (O : Ok gs rooms.toNat hs cs) (G : GoodL gs hs cs) {i : Nat} (hi : i < cs.length) (hc : 0 < cs.getD i 0) : (gAt gs i).1 < 0 ∨ (accL (gs.zip (dec cs i)) hs).getD (gAt gs i).1.toNat 0 ≠ 0 := by
  have cl := O.cl
  have hN : (hs.length : Int) = rooms := by have := O.hl; have := h.lo; omega
  have hg := gAt_get (gs := gs) (i := i) (by omega)
  have ok := h.at_ _ (List.mem_of_getElem? hg)
  have h1 : cs[i]? = some (cs.getD i 0) := by rw [List.getD_eq_getElem?_getD, List.getElem?_eq_getElem hi]; rfl
  rcases (show (gAt gs i).1 < 0 ∨ 0 ≤ (gAt gs i).1 by omega) with q | q
  · exact .inl q
  · refine .inr ?_
    have b := G.bal (gAt gs i).1 q (by have := ok.2.1; omega)
    have nd := Gr.net_dec (Gr.dl (gAt gs i).1) hg h1
    have d1 : Gr.dl (gAt gs i).1 (gAt gs i).2 = 0 := by unfold Gr.dl; rw [if_neg (Ne.symm ok.2.2.2.2)]
    have d2 : Gr.dl (gAt gs i).1 (gAt gs i).1 = 1 := by unfold Gr.dl; rw [if_pos rfl]
    rw [d1, d2] at nd
    have g := accL_get (n := hs.length) q (gs.zip (dec cs i)) hs rfl (fun x hx => by
      have := h.at_ _ (List.of_mem_zip hx).1
      obtain ⟨_, k1, _, k2, _⟩ := this
      omega)
    have eh : hf hs (gAt gs i).1 = hs.getD (gAt gs i).1.toNat 0 := by unfold hf; rw [if_neg (by omega)]
    rw [eh] at b
    have en : netZ (Gr.dl (gAt gs i).1) (gs.zip (dec cs i)) = net gs (dec cs i) (Gr.dl (gAt gs i).1) := rfl
    rw [en, nd] at g
    omega
theorem lasts_step (h : GoodH rooms gs) (h5 : gs.length ≤ 5) (O : Ok gs rooms.toNat hs cs) (hsum : cs.sum ≤ 6) (G : GoodL gs hs cs) {i : Nat} (hi : i < cs.length) (F : List Int) (hF : F.length ≤ 900) (st more : Sto) (x5 x6 x7 x8 x9 : Option Val) :
    ∃ more' y5 y6 y7 y8 y9, lastB1 (envL rooms gs hs cs st.length (some (.int (0 + i))) x5 x6 x7 x8 x9) (st ++ .lst (F.map .int) :: more) = .nx (envL rooms gs hs cs st.length (some (.int (0 + i))) y5 y6 y7 y8 y9) (st ++ .lst ((if lastB gs hs cs i = true then F ++ [0 + (i : Int)] else F).map .int) :: more') := by
  have z : (0 : Int) + (i : Int) = i := by omega
  rw [z]
  have cl := O.cl
  have gl := h.len
  have F0 := fitL h O.hl O.cl O.cp
  have hN : (hs.length : Int) = rooms := by have := O.hl; have := h.lo; omega
  have h1 : cs[i]? = some (cs.getD i 0) := by rw [List.getD_eq_getElem?_getD, List.getElem?_eq_getElem hi]; rfl
  have S1 : ∀ S : Sto, eTest (eB fGt (eB fIx (eV 2) (eV 4)) (eC (.int 0))) (envL rooms gs hs cs st.length (some (.int i)) x5 x6 x7 x8 x9) S = .ok (decide (0 < cs.getD i 0)) S := fun S => by
    have ec : fIx S (.tup (cs.map Val.int)) (.int i) = some (.int (cs.getD i 0)) := ix_tup (by omega) (by rw [Int.toNat_natCast, List.getElem?_map, h1]; rfl)
    have v2 : eV 2 (envL rooms gs hs cs st.length (some (.int i)) x5 x6 x7 x8 x9) S = .ok (.tup (cs.map .int)) S := rfl
    have v4 : eV 4 (envL rooms gs hs cs st.length (some (.int i)) x5 x6 x7 x8 x9) S = .ok (.int i) S := rfl
    rw [c_Test, c_B, c_B, v2, bindR_ok, v4, bindR_ok, ec, optR_some, bindR_ok, c_C, bindR_ok, k_gt, optR_some, bindR_ok]
  unfold lastB1 lastB
  by_cases q : 0 < cs.getD i 0
  · rw [decide_eq_true q, Bool.true_and]
    have F2 := F0.dec h1 q
    have O2 : Ok gs rooms.toNat hs (dec cs i) := ⟨O.hl, O.hp, F2.len, F2.pos⟩
    have sd := sum_dec h1
    obtain ⟨kvs, ek⟩ := can_newO h h5 O2 (by omega) (st ++ .lst (F.map .int) :: more)
    have el := fun S : Sto => less_ok (st := S) h1 (by omega)
    have less : ∀ (S : Sto) (x5 x6 x7 x8 x9 : Option Val), eCall 2 m__law_less (eCons (eV 2) (eCons (eV 4) eNil)) (envL rooms gs hs cs st.length (some (.int i)) x5 x6 x7 x8 x9) S = .ok (.tup ((dec cs i).map .int)) S := fun S x5 x6 x7 x8 x9 => by
      have a2 : eCons (eV 2) (eCons (eV 4) eNil) (envL rooms gs hs cs st.length (some (.int i)) x5 x6 x7 x8 x9) S = .ok [.tup (cs.map .int), .int i] S := rfl
      exact (call_ok (np := 2) (m := m__law_less) a2 rfl).trans (el S)
    have v0 : ∀ (S : Sto) (x5 x6 x7 x8 x9 : Option Val), eV 0 (envL rooms gs hs cs st.length (some (.int i)) x5 x6 x7 x8 x9) S = .ok (gh rooms gs) S := fun _ _ _ _ _ _ => rfl
    have v1 : ∀ (S : Sto) (x5 x6 x7 x8 x9 : Option Val), eV 1 (envL rooms gs hs cs st.length (some (.int i)) x5 x6 x7 x8 x9) S = .ok (.tup (hs.map .int)) S := fun _ _ _ _ _ _ => rfl
    have ar : eCons (eV 0) (eCons (eV 1) (eCons (eCall 2 m__law_less (eCons (eV 2) (eCons (eV 4) eNil))) (eCons eNewN eNil))) (envL rooms gs hs cs st.length (some (.int i)) x5 x6 x7 x8 x9) (st ++ .lst (F.map .int) :: more) = .ok [gh rooms gs, .tup (hs.map .int), .tup ((dec cs i).map .int), .loc (st ++ .lst (F.map .int) :: more).length] ((st ++ .lst (F.map .int) :: more) ++ [.dN []]) := by
      rw [c_Cons, v0, bindR_ok, c_Cons, v1, bindR_ok, c_Cons, less, bindR_ok, c_Cons, c_NewN, bindR_ok, c_Nil, bindR_ok, bindR_ok, bindR_ok, bindR_ok]
    have t : lastT (envL rooms gs hs cs st.length (some (.int i)) x5 x6 x7 x8 x9) (st ++ .lst (F.map .int) :: more) = .ok (goodB gs hs (dec cs i)) ((st ++ .lst (F.map .int) :: more) ++ [.dN kvs]) := by
      unfold lastT
      rw [c_AndT, S1, bindR_ok, decide_eq_true q, if_pos rfl, c_Test, call_ok (np := 4) ar rfl, ek, bindR_ok]
    have es : (st ++ .lst (F.map .int) :: more) ++ [.dN kvs] = st ++ .lst (F.map .int) :: (more ++ [.dN kvs]) := by simp
    rw [es] at t
    generalize hm : more ++ [.dN kvs] = m1 at t
    cases hb : goodB gs hs (dec cs i) with
    | false =>
      refine ⟨m1, x5, x6, x7, x8, x9, ?_⟩
      rw [if_ok t, hb, if_neg (by decide), if_neg (by decide), d_Skip]
    | true =>
      let S0 : Sto := st ++ .lst (F.map .int) :: m1
      have s5 : sSet 5 (eListN (eCons (eV 1) eNil)) (envL rooms gs hs cs st.length (some (.int i)) x5 x6 x7 x8 x9) S0 = .nx (envL rooms gs hs cs st.length (some (.int i)) (some (.loc S0.length)) x6 x7 x8 x9) (S0 ++ [.lst (hs.map .int)]) := rfl
      obtain ⟨y6, y7, y8, y9, ef⟩ := lastFor_loop (rooms := rooms) (gs := gs) (hs := hs) (cs := cs) (n := st.length) (x4 := some (.int i)) (S0 := S0) (gs.zip (dec cs i)) (here := hs) (fun x hx => by
        obtain ⟨_, k1, _, k2, _⟩ := h.at_ _ (List.of_mem_zip hx).1
        have k3 := F2.pos _ (List.of_mem_zip hx).2
        have k4 := (sum_pos F2.pos).2 _ (List.of_mem_zip hx).2
        exact ⟨⟨by omega, by omega⟩, k3, by omega⟩) x6 x7 x8 x9
      have itz : itZip (eCons (eB fIx (eV 0) (eC (.int 1))) (eCons (eCall 2 m__law_less (eCons (eV 2) (eCons (eV 4) eNil))) eNil)) (envL rooms gs hs cs st.length (some (.int i)) (some (.loc S0.length)) x6 x7 x8 x9) (S0 ++ [.lst (hs.map .int)]) = .ok ((gs.zip (dec cs i)).map fun x => .tup [pV x.1, .int x.2]) (S0 ++ [.lst (hs.map .int)]) := by
        have b0 : eB fIx (eV 0) (eC (.int 1)) (envL rooms gs hs cs st.length (some (.int i)) (some (.loc S0.length)) x6 x7 x8 x9) (S0 ++ [.lst (hs.map .int)]) = .ok (.tup (gs.map pV)) (S0 ++ [.lst (hs.map .int)]) := by
          rw [c_B, v0, bindR_ok, c_C, bindR_ok, gh_gates, optR_some]
        rw [c_itZip, c_Cons, b0, bindR_ok, c_Cons, less, bindR_ok, c_Nil, bindR_ok, bindR_ok, bindR_ok]
        dsimp only
        rw [zipV_map]
      have s6 : lastFor (envL rooms gs hs cs st.length (some (.int i)) (some (.loc S0.length)) x6 x7 x8 x9) (S0 ++ [.lst (hs.map .int)]) = .nx (envL rooms gs hs cs st.length (some (.int i)) (some (.loc S0.length)) y6 y7 y8 y9) (S0 ++ [.lst ((accL (gs.zip (dec cs i)) hs).map .int)]) := for_nx itz ef
      have tup := tuple_mid (ρ := envL rooms gs hs cs st.length (some (.int i)) (some (.loc S0.length)) y6 y7 y8 y9) (st := S0) (more := []) (a := 5) (F := accL (gs.zip (dec cs i)) hs) rfl
      have pg := passed_gate2 (hs := accL (gs.zip (dec cs i)) hs) h (by rw [accL_len]; exact hN) (i := i) (by omega) (S0 ++ [.lst ((accL (gs.zip (dec cs i)) hs).map .int)])
      rw [if_pos (last_can h O G hi q)] at pg
      have v4 : eV 4 (envL rooms gs hs cs st.length (some (.int i)) (some (.loc S0.length)) y6 y7 y8 y9) (S0 ++ [.lst ((accL (gs.zip (dec cs i)) hs).map .int)]) = .ok (.int i) (S0 ++ [.lst ((accL (gs.zip (dec cs i)) hs).map .int)]) := rfl
      have a3 : eCons (eV 0) (eCons (eBf fTuple (eCons (eV 5) eNil)) (eCons (eV 4) eNil)) (envL rooms gs hs cs st.length (some (.int i)) (some (.loc S0.length)) y6 y7 y8 y9) (S0 ++ [.lst ((accL (gs.zip (dec cs i)) hs).map .int)]) = .ok [gh rooms gs, .tup ((accL (gs.zip (dec cs i)) hs).map .int), .int i] (S0 ++ [.lst ((accL (gs.zip (dec cs i)) hs).map .int)]) := by
        rw [c_Cons, v0, bindR_ok, c_Cons, tup, bindR_ok, c_Cons, v4, bindR_ok, c_Nil, bindR_ok, bindR_ok, bindR_ok]
      have te : eTest (eB fIsNot (eCall 3 m__law_passed (eCons (eV 0) (eCons (eBf fTuple (eCons (eV 5) eNil)) (eCons (eV 4) eNil)))) (eC .non)) (envL rooms gs hs cs st.length (some (.int i)) (some (.loc S0.length)) y6 y7 y8 y9) (S0 ++ [.lst ((accL (gs.zip (dec cs i)) hs).map .int)]) = .ok true (S0 ++ [.lst ((accL (gs.zip (dec cs i)) hs).map .int)]) := by
        have ii : ∀ (S : Sto) (w : List Val), fIsNot S (.tup w) .non = some (.bl true) := fun _ _ => rfl
        rw [c_Test, c_B, call_ok (np := 3) a3 rfl, pg, bindR_ok, c_C, bindR_ok, ii, optR_some, bindR_ok]
      have eS : S0 ++ [.lst ((accL (gs.zip (dec cs i)) hs).map .int)] = st ++ .lst (F.map .int) :: (m1 ++ [.lst ((accL (gs.zip (dec cs i)) hs).map .int)]) := by
        show (st ++ .lst (F.map .int) :: m1) ++ _ = _
        simp
      refine ⟨m1 ++ [.lst ((accL (gs.zip (dec cs i)) hs).map .int)], some (.loc S0.length), y6, y7, y8, y9, ?_⟩
      rw [if_ok t, hb, if_pos rfl, if_pos rfl, seq_nx s5, seq_nx s6]
      unfold lastEnd
      rw [if_ok te, if_pos rfl, eS]
      exact append_ok rfl rfl (by omega)
  · refine ⟨more, x5, x6, x7, x8, x9, ?_⟩
    have t : lastT (envL rooms gs hs cs st.length (some (.int i)) x5 x6 x7 x8 x9) (st ++ .lst (F.map .int) :: more) = .ok false (st ++ .lst (F.map .int) :: more) := by
      unfold lastT
      rw [c_AndT, S1, bindR_ok, decide_eq_false q, if_neg (by decide)]
    rw [if_ok t, if_neg (by decide), d_Skip, decide_eq_false q, Bool.false_and, if_neg (by decide)]
theorem lasts_loop (h : GoodH rooms gs) (h5 : gs.length ≤ 5) (O : Ok gs rooms.toNat hs cs) (hsum : cs.sum ≤ 6) (G : GoodL gs hs cs) (st : Sto) (d : Nat) : ∀ (j : Nat), j + d = cs.length → ∀ (F : List Int), F.length ≤ j → ∀ (more : Sto) (x4 x5 x6 x7 x8 x9 : Option Val),
    ∃ more' y4 y5 y6 y7 y8 y9, forL (gN 4) lastB1 ((List.range' j d).map fun i : Nat => Val.int (0 + i)) (envL rooms gs hs cs st.length x4 x5 x6 x7 x8 x9) (st ++ .lst (F.map .int) :: more) = .nx (envL rooms gs hs cs st.length y4 y5 y6 y7 y8 y9) (st ++ .lst ((F ++ ((List.range' j d).filter (lastB gs hs cs)).map fun k : Nat => 0 + (k : Int)).map .int) :: more') := by
  induction d with
  | zero =>
    intro j hj F hF more x4 x5 x6 x7 x8 x9
    refine ⟨more, x4, x5, x6, x7, x8, x9, ?_⟩
    simp
  | succ d ih =>
    intro j hj F hF more x4 x5 x6 x7 x8 x9
    have gl := h.len
    have cl := O.cl
    obtain ⟨m1, y5, y6, y7, y8, y9, e1⟩ := lasts_step h h5 O hsum G (i := j) (by omega) F (by omega) st more x5 x6 x7 x8 x9
    obtain ⟨m2, z4, z5, z6, z7, z8, z9, e2⟩ := ih (j + 1) (by omega) (if lastB gs hs cs j = true then F ++ [0 + (j : Int)] else F) (by
      split
      · rw [List.length_append, List.length_singleton]; omega
      · omega) m1 (some (.int (0 + j))) y5 y6 y7 y8 y9
    refine ⟨m2, z4, z5, z6, z7, z8, z9, ?_⟩
    rw [List.range'_succ, List.map_cons]
    have eg : gN 4 (Val.int (0 + (j : Int))) (envL rooms gs hs cs st.length x4 x5 x6 x7 x8 x9) (st ++ .lst (F.map .int) :: more) = some (envL rooms gs hs cs st.length (some (.int (0 + j))) x5 x6 x7 x8 x9, st ++ .lst (F.map .int) :: more) := rfl
    rw [forL_step eg e1, e2, List.filter_cons]
    cases lastB gs hs cs j with
    | true => rw [if_pos rfl, if_pos rfl, List.map_cons, List.append_assoc, List.singleton_append]
    | false => rw [if_neg (by decide), if_neg (by decide)]
theorem lasts_ok (h : GoodH rooms gs) (h5 : gs.length ≤ 5) (O : Ok gs rooms.toNat hs cs) (hsum : cs.sum ≤ 6) (G : GoodL gs hs cs) (st : Sto) : m__law_lasts [gh rooms gs, .tup (hs.map .int), .tup (cs.map .int)] st = .ok (.tup ((lastsL gs hs cs).map .int)) st := by
  have gl := h.len
  have cl := O.cl
  obtain ⟨more, y4, y5, y6, y7, y8, y9, e⟩ := lasts_loop h h5 O hsum G st cs.length 0 (by omega) [] (by simp) [] none none none none none none
  rw [← List.range_eq_range', List.nil_append] at e
  have ef : ((List.range cs.length).filter (lastB gs hs cs)).map (fun k : Nat => 0 + (k : Int)) = lastsL gs hs cs := rfl
  rw [ef] at e
  refine runF_of (more := .lst ((lastsL gs hs cs).map .int) :: more) ?_ rfl (okOld_refl st) (bel_ints _)
  have hst : startE 10 [gh rooms gs, .tup (hs.map .int), .tup (cs.map .int)] = [some (gh rooms gs), some (.tup (hs.map .int)), some (.tup (cs.map .int)), none, none, none, none, none, none, none] := rfl
  have s1 : sSet 3 (eNew eNil) [some (gh rooms gs), some (.tup (hs.map .int)), some (.tup (cs.map .int)), none, none, none, none, none, none, none] st = .nx (envL rooms gs hs cs st.length none none none none none none) (st ++ [.lst []]) := by
    refine set_ok (v := .loc st.length) ?_
    rw [c_New, c_Nil, bindR_ok, if_pos (sz (by simp))]
  have s2 : itRange1 (eCons (eBf fLen (eCons (eV 2) eNil)) eNil) (envL rooms gs hs cs st.length none none none none none none) (st ++ [.lst []]) = .ok ((List.range cs.length).map fun k : Nat => Val.int (0 + k)) (st ++ [.lst []]) := by
    have := range_len (st := st ++ [.lst []]) (i := 2) (ρ := envL rooms gs hs cs st.length none none none none none none) (ys := cs.map Val.int) rfl (by rw [List.length_map]; omega)
    rw [List.length_map] at this
    exact this
  rw [hst, b_lasts_eq, seq_nx s1, seq_nx (for_nx s2 e)]
  exact ret_ok (tuple_mid rfl)
end
end Gc

set_option Elab.async false
set_option linter.all false
set_option maxRecDepth 100000
set_option maxHeartbeats 4000000
namespace K07
open PySem PySem.Spec PyProof.Rows L2 Ev Gc
def T0 : S := (sSet 6 (eLst (eCons (eCall 3 m_first_gates (eCons (eV 3) (eCons (eV 4) (eCons (eV 5) eNil)))) eNil)))
def T1 : S := (sSet 6 (eB fAdd (eV 6) (eLst (eCons (eCallK 3 3 [2, 1, 0] m_first_gates (eCons (eV 5) (eCons (eV 4) (eCons (eV 3) eNil)))) eNil))))
def T2 : S := (sIf (eTest (eB fNeA (eBf fRepr (eCons (eV 6) eNil)) (eBf fRepr (eCons (eB fMul (eLst (eCons (eCall 3 m__law_firsts (eCons (eV 3) (eCons (eV 4) (eCons (eV 5) eNil)))) eNil)) (eC (.int 2))) eNil)))) (sRet (eC (.bl false))) sSkip)
def T3 : S := (sSet 6 (eLst (eCons (eCall 3 m_last_gates (eCons (eV 3) (eCons (eV 4) (eCons (eV 5) eNil)))) eNil)))
def T4 : S := (sSet 6 (eB fAdd (eV 6) (eLst (eCons (eCallK 3 3 [2, 1, 0] m_last_gates (eCons (eV 5) (eCons (eV 4) (eCons (eV 3) eNil)))) eNil))))
def T5 : S := (sIf (eTest (eB fNeA (eBf fRepr (eCons (eV 6) eNil)) (eBf fRepr (eCons (eB fMul (eLst (eCons (eCall 3 m__law_lasts (eCons (eV 3) (eCons (eV 4) (eCons (eV 5) eNil)))) eNil)) (eC (.int 2))) eNil)))) (sRet (eC (.bl false))) sSkip)
def L0 : S := (sSet 1 (eCall 1 m__law_begin (eCons (eV 0) eNil)))
def L1_0 : S := (sAsg (gT 3 (gCons' (gN 3) (gCons' (gN 4) (gCons' (gN 5) gNil')))) (eCall 1 m__law_asked (eCons (eV 1) eNil)))
def L1_1 : S := sIf (eTest (eCall 3 m_is_possible (eCons (eV 3) (eCons (eV 4) (eCons (eV 5) eNil))))) (sSeq T0 (sSeq T1 (sSeq T2 (sSeq T3 (sSeq T4 T5))))) sSkip
def L1B : S := (sSeq L1_0 L1_1)
def L1 : S := sFor (itRange1 (eCons (eC (.int 6)) eNil)) (gN 2) L1B
def L2 : S := (sSet 3 (eTup (eCons (eC (.int 3)) (eCons (eTup (eCons (eTup (eCons (fNeg (eC (.int 1))) (eCons (eC (.int 0)) eNil))) (eCons (eTup (eCons (eC (.int 0)) (eCons (fNeg (eC (.int 1))) eNil))) (eCons (eTup (eCons (eC (.int 0)) (eCons (eC (.int 1)) eNil))) (eCons (eTup (eCons (eC (.int 1)) (eCons (eC (.int 0)) eNil))) (eCons (eTup (eCons (eC (.int 1)) (eCons (eC (.int 2)) eNil))) (eCons (eTup (eCons (eC (.int 2)) (eCons (eC (.int 1)) eNil))) eNil))))))) eNil))))
def L3 : S := (sSet 6 (eLst (eCons (eCall 3 m_first_gates (eCons (eV 3) (eCons (eTup (eCons (eC (.int 1)) (eCons (eC (.int 0)) (eCons (eC (.int 0)) eNil)))) (eCons (eTup (eCons (eC (.int 0)) (eCons (eC (.int 0)) (eCons (eC (.int 2)) (eCons (eC (.int 1)) (eCons (eC (.int 1)) (eCons (eC (.int 1)) eNil))))))) eNil)))) eNil)))
def L4 : S := (sSet 6 (eB fAdd (eV 6) (eLst (eCons (eCall 3 m_last_gates (eCons (eV 3) (eCons (eTup (eCons (eC (.int 1)) (eCons (eC (.int 0)) (eCons (eC (.int 0)) eNil)))) (eCons (eTup (eCons (eC (.int 0)) (eCons (eC (.int 0)) (eCons (eC (.int 2)) (eCons (eC (.int 1)) (eCons (eC (.int 1)) (eCons (eC (.int 1)) eNil))))))) eNil)))) eNil))))
def L5 : S := (sIf (eOrT (eTest (eB fNeA (eV 6) (eLst (eCons (eTup (eCons (eC (.int 2)) eNil)) (eCons (eTup (eCons (eC (.int 2)) (eCons (eC (.int 5)) eNil))) eNil))))) (eTest (eB fNeA (eCall 3 m_first_gates (eCons (eV 3) (eCons (eTup (eCons (eC (.int 0)) (eCons (eC (.int 0)) (eCons (eC (.int 0)) eNil)))) (eCons (eB fMul (eTup (eCons (eC (.int 0)) eNil)) (eC (.int 6))) eNil)))) (eTup eNil)))) (sRet (eC (.bl false))) sSkip)
def L6 : S := (sRet (eB fEqA (eCall 3 m_first_gates (eCons (eV 3) (eCons (eTup (eCons (eC (.int 1)) (eCons (eC (.int 0)) (eCons (eC (.int 0)) eNil)))) (eCons (eTup (eCons (eC (.int 0)) (eCons (eC (.int 1)) (eCons (eC (.int 1)) (eCons (eC (.int 1)) (eCons (eC (.int 0)) (eCons (eC (.int 0)) eNil))))))) eNil)))) (eTup (eCons (eC (.int 2)) eNil))))
theorem Lall : b_law = (sSeq L0 (sSeq L1 (sSeq L2 (sSeq L3 (sSeq L4 (sSeq L5 L6)))))) := rfl
def ev (x0 x2 x3 x4 x5 x6 : Option Val) : Ev.Env := [x0, some (.loc 0), x2, x3, x4, x5, x6]
theorem pair_repr {st : Sto} {v : Val} {d : PyData} {k b : Nat} (h : toD v = some d) (hs : Sm d k b) (hk : k ≤ 50) (hb : b ≤ 10000) : fRepr st [.lst [v, v]] = some (.str (PyData.shown (.list [d, d]))) := by
  refine repr_ok (k := k + 1) (b := 2 * (b + 1)) ?_ (SmAll.lst (ds := [d, d]) (Sm.all fun e he => ?_)) (by omega) (by omega)
  · simp [dr, toD, toDs, h]
  · simp only [List.mem_cons, List.not_mem_nil, or_false, or_self] at he
    subst he
    exact hs
theorem repr_two (st : Sto) {m : Nat} (hm : m ≤ 16) (p : Nat → Bool) : fRepr st [.lst [.tup ((((List.range m).filter p).map fun k : Nat => 0 + (k : Int)).map .int), .tup ((((List.range m).filter p).map fun k : Nat => 0 + (k : Int)).map .int)]] = some (.str (PyData.shown (.list [.tuple ((((List.range m).filter p).map fun k : Nat => 0 + (k : Int)).map .int), .tuple ((((List.range m).filter p).map fun k : Nat => 0 + (k : Int)).map .int)]))) := by
  refine pair_repr (k := 1) (b := 16) (toD_tN _) (sm_ints ?_ fun n hn => ?_) (by decide) (by decide)
  · rw [List.length_map]
    have := List.length_filter_le p (List.range m)
    rw [List.length_range] at this
    omega
  · obtain ⟨k, hk, rfl⟩ := List.mem_map.mp hn
    have := List.mem_range.mp (List.mem_filter.mp hk).1
    have e : (0 + (k : Int)).natAbs = k := by omega
    rw [e]
    omega
theorem add_lsts (st : Sto) (xs ys : List Val) (h : xs.length + ys.length ≤ 1000) : fAdd st (.lst xs) (.lst ys) = some (.lst (xs ++ ys)) := by
  show (if xs.length + ys.length ≤ sizeLine then some (Val.lst (xs ++ ys)) else none) = _
  rw [if_pos (sz (by omega))]
theorem mul_two (st : Sto) (v : Val) : fMul st (.lst [v]) (.int 2) = some (.lst [v, v]) := rfl
theorem turn_ok {cs : List Int} {a l u B : Int} (rest : Sto) (hd : DrOk cs a l u B) (hB : B < 2 ^ 47) (x0 x2 x3 x4 x5 x6 : Option Val) : ∃ a' l' u' y3 y4 y5 y6,
    L1B (ev x0 x2 x3 x4 x5 x6) (drawOb cs a l u :: rest) = .nx (ev x0 x2 y3 y4 y5 y6) (drawOb cs a' l' u' :: rest) ∧ DrOk cs a' l' u' (B + 10000) := by
  obtain ⟨rooms, gs, hs, ps, a1, l1, u1, e1, h, h5, hh, hp, d1⟩ := asked_ok rest hd (by omega)
  have O : Ok gs rooms.toNat hs ps := ⟨hh.len, hh.pos, hp.len, hp.pos⟩
  have hN := goodF_N hh (by decide)
  have pN := goodF_N hp (by decide)
  have S := drawOb cs a1 l1 u1 :: rest
  have t0 : L1_0 (ev x0 x2 x3 x4 x5 x6) (drawOb cs a l u :: rest) = .nx (ev x0 x2 (some (gh rooms gs)) (some (.tup (hs.map .int))) (some (.tup (ps.map .int))) x6) (drawOb cs a1 l1 u1 :: rest) := by
    have ar : eCons (eV 1) eNil (ev x0 x2 x3 x4 x5 x6) (drawOb cs a l u :: rest) = .ok [.loc 0] (drawOb cs a l u :: rest) := rfl
    unfold L1_0
    rw [d_Asg, (call_ok (np := 1) ar rfl).trans e1, d_bindS_ok]
    rfl
  let E : Option Val → Ev.Env := fun w => ev x0 x2 (some (gh rooms gs)) (some (.tup (hs.map .int))) (some (.tup (ps.map .int))) w
  have ar : ∀ w, eCons (eV 3) (eCons (eV 4) (eCons (eV 5) eNil)) (E w) (drawOb cs a1 l1 u1 :: rest) = .ok [gh rooms gs, .tup (hs.map .int), .tup (ps.map .int)] (drawOb cs a1 l1 u1 :: rest) := fun _ => rfl
  have ar2 : ∀ w, eCons (eV 5) (eCons (eV 4) (eCons (eV 3) eNil)) (E w) (drawOb cs a1 l1 u1 :: rest) = .ok [.tup (ps.map .int), .tup (hs.map .int), gh rooms gs] (drawOb cs a1 l1 u1 :: rest) := fun _ => rfl
  have pl : permL [2, 1, 0] [Val.tup (ps.map .int), Val.tup (hs.map .int), gh rooms gs] = [gh rooms gs, .tup (hs.map .int), .tup (ps.map .int)] := rfl
  have ip : ∀ w, eTest (eCall 3 m_is_possible (eCons (eV 3) (eCons (eV 4) (eCons (eV 5) eNil)))) (E w) (drawOb cs a1 l1 u1 :: rest) = .ok (possB gs hs ps) (drawOb cs a1 l1 u1 :: rest) := fun w => by
    rw [c_Test, call_ok (np := 3) (ar w) rfl, possible_ok h hN pN, bindR_ok]
  cases hb : possB gs hs ps with
  | false =>
    refine ⟨a1, l1, u1, some (gh rooms gs), some (.tup (hs.map .int)), some (.tup (ps.map .int)), x6, ?_, d1.le (by omega)⟩
    unfold L1B
    rw [seq_nx t0]
    unfold L1_1
    show sIf _ _ _ (E x6) _ = _
    rw [if_ok (ip x6), hb, if_neg (by decide), d_Skip]
  | true =>
    have G : GoodL gs hs ps := goodB_iff.mp (by rw [← possB_good h hh.len hh.pos hp.len hp.pos]; exact hb)
    have ef := first_gates_ok (st := drawOb cs a1 l1 u1 :: rest) h hN pN hb
    have el := last_gates_ok (st := drawOb cs a1 l1 u1 :: rest) h hN pN hb
    have lf := firsts_ok h h5 O hp.sum (drawOb cs a1 l1 u1 :: rest)
    have ll := lasts_ok h h5 O hp.sum G (drawOb cs a1 l1 u1 :: rest)
    have plen : ps.length ≤ 16 := by have := hp.len; omega
    have rf := fun st => repr_two st plen (firstB gs hs ps)
    have rl := fun st => repr_two st plen (lastB gs hs ps)
    have part : ∀ (m q : Fn) (V : Val) (sh : Str) (w : Option Val), m [gh rooms gs, .tup (hs.map .int), .tup (ps.map .int)] (drawOb cs a1 l1 u1 :: rest) = .ok V (drawOb cs a1 l1 u1 :: rest) → q [gh rooms gs, .tup (hs.map .int), .tup (ps.map .int)] (drawOb cs a1 l1 u1 :: rest) = .ok V (drawOb cs a1 l1 u1 :: rest) → (∀ st, fRepr st [.lst [V, V]] = some (.str sh)) →
        sSet 6 (eLst (eCons (eCall 3 m (eCons (eV 3) (eCons (eV 4) (eCons (eV 5) eNil)))) eNil)) (E w) (drawOb cs a1 l1 u1 :: rest) = .nx (E (some (.lst [V]))) (drawOb cs a1 l1 u1 :: rest) ∧
        sSet 6 (eB fAdd (eV 6) (eLst (eCons (eCallK 3 3 [2, 1, 0] m (eCons (eV 5) (eCons (eV 4) (eCons (eV 3) eNil)))) eNil))) (E (some (.lst [V]))) (drawOb cs a1 l1 u1 :: rest) = .nx (E (some (.lst [V, V]))) (drawOb cs a1 l1 u1 :: rest) ∧
        sIf (eTest (eB fNeA (eBf fRepr (eCons (eV 6) eNil)) (eBf fRepr (eCons (eB fMul (eLst (eCons (eCall 3 q (eCons (eV 3) (eCons (eV 4) (eCons (eV 5) eNil)))) eNil)) (eC (.int 2))) eNil)))) (sRet (eC (.bl false))) sSkip (E (some (.lst [V, V]))) (drawOb cs a1 l1 u1 :: rest) = .nx (E (some (.lst [V, V]))) (drawOb cs a1 l1 u1 :: rest) := fun m q V sh w hm hq hr => by
      refine ⟨set_ok ?_, set_ok ?_, ?_⟩
      · rw [c_Lst, c_Cons, call_ok (np := 3) (ar w) rfl, hm, bindR_ok, c_Nil, bindR_ok, bindR_ok, if_pos (sz (by simp))]
      · have v6 : eV 6 (E (some (.lst [V]))) (drawOb cs a1 l1 u1 :: rest) = .ok (.lst [V]) (drawOb cs a1 l1 u1 :: rest) := rfl
        rw [c_B, v6, bindR_ok, c_Lst, c_Cons, c_CallK, ar2, bindR_ok, pl, if_pos ⟨rfl, rfl⟩, hm, bindR_ok, c_Nil, bindR_ok, bindR_ok, if_pos (sz (by simp)), bindR_ok, add_lsts _ [V] [V] (by simp), optR_some]
        rfl
      · have v6 : eV 6 (E (some (.lst [V, V]))) (drawOb cs a1 l1 u1 :: rest) = .ok (.lst [V, V]) (drawOb cs a1 l1 u1 :: rest) := rfl
        have t : eTest (eB fNeA (eBf fRepr (eCons (eV 6) eNil)) (eBf fRepr (eCons (eB fMul (eLst (eCons (eCall 3 q (eCons (eV 3) (eCons (eV 4) (eCons (eV 5) eNil)))) eNil)) (eC (.int 2))) eNil))) (E (some (.lst [V, V]))) (drawOb cs a1 l1 u1 :: rest) = .ok false (drawOb cs a1 l1 u1 :: rest) := by
          rw [c_Test, c_B, c_Bf, c_Cons, v6, bindR_ok, c_Nil, bindR_ok, bindR_ok, hr, optR_some, bindR_ok, c_Bf, c_Cons, c_B, c_Lst, c_Cons, call_ok (np := 3) (ar _) rfl, hq, bindR_ok, c_Nil, bindR_ok, bindR_ok, if_pos (sz (by simp)), bindR_ok, c_C, bindR_ok, mul_two, optR_some, bindR_ok, c_Nil, bindR_ok, bindR_ok, hr, optR_some, bindR_ok, neA_str, optR_some, bindR_ok]
        rw [if_ok t, if_neg (by decide), d_Skip]
    obtain ⟨p0, p1, p2⟩ := part m_first_gates m__law_firsts _ _ x6 ef lf rf
    obtain ⟨p3, p4, p5⟩ := part m_last_gates m__law_lasts _ _ (some (.lst [.tup ((firstsL gs hs ps).map .int), .tup ((firstsL gs hs ps).map .int)])) el ll rl
    refine ⟨a1, l1, u1, some (gh rooms gs), some (.tup (hs.map .int)), some (.tup (ps.map .int)), some (.lst [.tup ((lastsL gs hs ps).map .int), .tup ((lastsL gs hs ps).map .int)]), ?_, d1.le (by omega)⟩
    unfold L1B
    rw [seq_nx t0]
    unfold L1_1
    show sIf _ _ _ (E x6) _ = _
    rw [if_ok (ip x6), hb, if_pos rfl]
    unfold T0 T1 T2 T3 T4 T5
    rw [seq_nx p0, seq_nx p1, seq_nx p2, seq_nx p3, seq_nx p4]
    exact p5
theorem turns_ok {cs : List Int} (ks : List Val) : ∀ {a l u B : Int} (rest : Sto), DrOk cs a l u B → B + 10000 * (ks.length : Int) < 2 ^ 46 → ∀ (x0 x2 x3 x4 x5 x6 : Option Val), ∃ st' y2 y3 y4 y5 y6,
    forL (gN 2) L1B ks (ev x0 x2 x3 x4 x5 x6) (drawOb cs a l u :: rest) = .nx (ev x0 y2 y3 y4 y5 y6) st' := by
  induction ks with
  | nil =>
    intro a l u B rest hd hB x0 x2 x3 x4 x5 x6
    exact ⟨_, x2, x3, x4, x5, x6, d_forNil⟩
  | cons k ks ih =>
    intro a l u B rest hd hB x0 x2 x3 x4 x5 x6
    rw [List.length_cons] at hB
    obtain ⟨a1, l1, u1, y3, y4, y5, y6, e1, d1⟩ := turn_ok rest hd (by omega) x0 (some k) x3 x4 x5 x6
    obtain ⟨st', z2, z3, z4, z5, z6, e2⟩ := ih rest d1 (by omega) x0 (some k) y3 y4 y5 y6
    refine ⟨st', z2, z3, z4, z5, z6, ?_⟩
    have eg : gN 2 k (ev x0 x2 x3 x4 x5 x6) (drawOb cs a l u :: rest) = some (ev x0 (some k) x3 x4 x5 x6, drawOb cs a l u :: rest) := rfl
    rw [forL_step eg e1, e2]
def firstP (gs : List (Int × Int)) (hs cs : List Int) (i : Nat) : Bool := useB gs hs cs i && possB gs (mvL hs (gAt gs i)) (Gr.dec cs i)
def lastP (gs : List (Int × Int)) (hs cs : List Int) (i : Nat) : Bool := decide (0 < cs.getD i 0) && possB gs hs (Gr.dec cs i)
theorem firsts_P {rooms : Int} {gs : List (Int × Int)} {hs cs : List Int} (h : GoodH rooms gs) (O : Ok gs rooms.toNat hs cs) : firstsL gs hs cs = ((List.range cs.length).filter (firstP gs hs cs)).map fun k : Nat => 0 + (k : Int) := by
  unfold firstsL
  rw [List.filter_congr fun i hi => ?_]
  have hi := List.mem_range.mp hi
  unfold firstB firstP
  cases hu : useB gs hs cs i with
  | false => rfl
  | true =>
    have O' := O.pass h ((useB_iff hi O.cl).mp hu)
    rw [possB_good h O'.hl O'.hp O'.cl O'.cp]
theorem lasts_P {rooms : Int} {gs : List (Int × Int)} {hs cs : List Int} (h : GoodH rooms gs) (O : Ok gs rooms.toNat hs cs) : lastsL gs hs cs = ((List.range cs.length).filter (lastP gs hs cs)).map fun k : Nat => 0 + (k : Int) := by
  unfold lastsL
  rw [List.filter_congr fun i hi => ?_]
  have hi := List.mem_range.mp hi
  unfold lastB lastP
  by_cases q : 0 < cs.getD i 0
  · have h1 : cs[i]? = some (cs.getD i 0) := by rw [List.getD_eq_getElem?_getD, List.getElem?_eq_getElem hi]; rfl
    have F2 := (fitL h O.hl O.cl O.cp).dec h1 q
    rw [possB_good h O.hl O.hp F2.len F2.pos]
  · rw [decide_eq_false q]; rfl
def hG : List (Int × Int) := [(-1, 0), (0, -1), (0, 1), (1, 0), (1, 2), (2, 1)]
theorem good_hand : GoodH 3 hG := by
  refine ⟨by decide, by decide, by decide, fun g hg => ?_, ?_⟩
  · simp only [hG, List.mem_cons, List.not_mem_nil, or_false] at hg
    unfold okG
    rcases hg with rfl | rfl | rfl | rfl | rfl | rfl <;> decide
  · unfold hG ltG
    simp
theorem goodN_of {many : Nat} {cs : List Int} (h : (decide (cs.length = many) && cs.all fun c => decide (0 ≤ c) && decide (c ≤ 10 ^ 30)) = true) : GoodN many cs := by
  rw [Bool.and_eq_true, decide_eq_true_eq, List.all_eq_true] at h
  refine ⟨h.1, fun c hc => ?_⟩
  have := h.2 c hc
  rw [Bool.and_eq_true, decide_eq_true_eq, decide_eq_true_eq] at this
  exact this
theorem ok_of {hs cs : List Int} (h1 : GoodN 3 hs) (h2 : GoodN 6 cs) : Ok hG (3 : Int).toNat hs cs := ⟨h1.len, fun x hx => (h1.at_ x hx).1, h2.len, fun x hx => (h2.at_ x hx).1⟩
theorem first_hand {hs cs : List Int} {r : List Int} (h1 : GoodN 3 hs) (h2 : GoodN 6 cs) (hb : possB hG hs cs = true) (e : ((List.range cs.length).filter (firstP hG hs cs)).map (fun k : Nat => 0 + (k : Int)) = r) (st : Sto) : m_first_gates [gh 3 hG, .tup (hs.map .int), .tup (cs.map .int)] st = .ok (.tup (r.map .int)) st := by
  have := first_gates_ok (st := st) good_hand h1 h2 hb
  rw [firsts_P good_hand (ok_of h1 h2), e] at this
  exact this
theorem last_hand {hs cs : List Int} {r : List Int} (h1 : GoodN 3 hs) (h2 : GoodN 6 cs) (hb : possB hG hs cs = true) (e : ((List.range cs.length).filter (lastP hG hs cs)).map (fun k : Nat => 0 + (k : Int)) = r) (st : Sto) : m_last_gates [gh 3 hG, .tup (hs.map .int), .tup (cs.map .int)] st = .ok (.tup (r.map .int)) st := by
  have := last_gates_ok (st := st) good_hand h1 h2 hb
  rw [lasts_P good_hand (ok_of h1 h2), e] at this
  exact this
theorem plain (ns : List Int) (hl : ns.length ≤ 63) : ∃ st, m_law [.lst (ns.map .int)] [] = .ok (.bl true) st := by
  obtain ⟨cs, e0, d0⟩ := begin_ok ns hl []
  obtain ⟨st', y2, y3, y4, y5, y6, e1⟩ := turns_ok (rangeV 0 6) [] d0 (by rw [rangeV_length]; decide) (some (.lst (ns.map .int))) none none none none none
  generalize hx : some (Val.lst (ns.map .int)) = x0 at e1
  have hh : gh 3 hG = .tup [.int 3, .tup [.tup [.int (-1), .int 0], .tup [.int 0, .int (-1)], .tup [.int 0, .int 1], .tup [.int 1, .int 0], .tup [.int 1, .int 2], .tup [.int 2, .int 1]]] := rfl
  have q1 : ∀ st, m_first_gates [gh 3 hG, .tup [.int 1, .int 0, .int 0], .tup [.int 0, .int 0, .int 2, .int 1, .int 1, .int 1]] st = .ok (.tup [.int 2]) st := first_hand (hs := [1, 0, 0]) (cs := [0, 0, 2, 1, 1, 1]) (r := [2]) (goodN_of (by decide +kernel)) (goodN_of (by decide +kernel)) (by decide +kernel) (by decide +kernel)
  have q2 : ∀ st, m_last_gates [gh 3 hG, .tup [.int 1, .int 0, .int 0], .tup [.int 0, .int 0, .int 2, .int 1, .int 1, .int 1]] st = .ok (.tup [.int 2, .int 5]) st := last_hand (hs := [1, 0, 0]) (cs := [0, 0, 2, 1, 1, 1]) (r := [2, 5]) (goodN_of (by decide +kernel)) (goodN_of (by decide +kernel)) (by decide +kernel) (by decide +kernel)
  have q3 : ∀ st, m_first_gates [gh 3 hG, .tup [.int 0, .int 0, .int 0], .tup [.int 0, .int 0, .int 0, .int 0, .int 0, .int 0]] st = .ok (.tup []) st := first_hand (hs := [0, 0, 0]) (cs := [0, 0, 0, 0, 0, 0]) (r := []) (goodN_of (by decide +kernel)) (goodN_of (by decide +kernel)) (by decide +kernel) (by decide +kernel)
  have q4 : ∀ st, m_first_gates [gh 3 hG, .tup [.int 1, .int 0, .int 0], .tup [.int 0, .int 1, .int 1, .int 1, .int 0, .int 0]] st = .ok (.tup [.int 2]) st := first_hand (hs := [1, 0, 0]) (cs := [0, 1, 1, 1, 0, 0]) (r := [2]) (goodN_of (by decide +kernel)) (goodN_of (by decide +kernel)) (by decide +kernel) (by decide +kernel)
  rw [hh] at q1 q2 q3 q4
  have zz : ∀ n, n ≤ 10 → (n ≤ sizeLine) = True := fun n hn => eq_true (sz (by omega))
  have c1 : ∀ st, fNeA st (.lst [.tup [.int 2], .tup [.int 2, .int 5]]) (.lst [.tup [.int 2], .tup [.int 2, .int 5]]) = some (.bl false) := fun st => rfl
  have c2 : ∀ st, fNeA st (.tup []) (.tup []) = some (.bl false) := fun st => rfl
  have c3 : ∀ st, fEqA st (.tup [.int 2]) (.tup [.int 2]) = some (.bl true) := fun st => rfl
  have a1 : ∀ st (x y : Val), fAdd st (.lst [x]) (.lst [y]) = some (.lst [x, y]) := fun st x y => add_lsts st [x] [y] (by simp)
  have m6 : ∀ st, fMul st (.tup [.int 0]) (.int 6) = some (.tup [.int 0, .int 0, .int 0, .int 0, .int 0, .int 0]) := fun st => rfl
  have s0 : L0 (startE 7 [.lst (ns.map .int)]) [] = .nx (ev x0 none none none none none) [drawOb cs 0 0 0] := by
    rw [← hx]
    have ar : eCons (eV 0) eNil (startE 7 [.lst (ns.map .int)]) [] = .ok [.lst (ns.map .int)] [] := rfl
    exact set_ok ((call_ok ar rfl).trans e0)
  have s1 : L1 (ev x0 none none none none none) [drawOb cs 0 0 0] = .nx (ev x0 y2 y3 y4 y5 y6) st' := by
    refine for_nx (vs := rangeV 0 6) ?_ e1
    simp
  have key : b_law (startE 7 [.lst (ns.map .int)]) [] = .rt (.bl true) st' := by
    rw [Lall, seq_nx s0, seq_nx s1]
    unfold ev
    simp [L2, L3, L4, L5, L6, zz, q1, q2, q3, q4, c1, c2, c3, a1, m6]
  unfold m_law runF
  rw [key]
  show ∃ st, fin [] (.bl true) st' = _
  unfold fin
  by_cases h : okOld [] st' = true
  · rw [if_pos h]
    exact ⟨_, rfl⟩
  · rw [if_neg h]
    exact ⟨_, rfl⟩
end K07

theorem PySem.Challenge.cw_gatecounts_k07_whole_first_and_last_holds : PySem.Challenge.rw_gatecounts_k07_whole_first_and_last.Holds := by
  exact K07.holds_of K07.plain
