import PyProof.Rows.All
import Wide.All
import OpenK.AllK
import Wide.FinOn
import HandS.ForMost
import HandS.ForExc
import HandS.Walk
import HandS.Wide
import HandS.ExcInit
import HandS.Flow
import HandS.TupAny
import HandS.TupMul
import HandS.TupLe
import HandS.Deep
import KE.GoesEnum
import KE.GoesMore
import HandS.Zip
import HandS.SortInts
import HandS.TupLen
import HandS.Base
import HandS.Call
import HandS.Ends
import HandS.Defaults
import HandS.ExcOwn
import HandS.HeadEnd
import HandS.Head0
import HandS.Head1
import HandS.Head2
import HandS.HeadHook1
import HandS.HeadHook2
import HandS.IsInst
import PyProof.StrBlock2
import HandS.Style
import HandS.Conv
import HandS.SortRule
import HandS.More
import HandS.Text
import HandS.RaiseMore
import PyProof.ReprRoads
import HandS.Codes
import PyProof.ReprLen
import PyProof.ReprBulk
import PyProof.P3Eq
import KE.KStateDown
import Lean
import PySem.Challenge.RW_gatecounts_k12_whole_texts
set_option Elab.async false
set_option linter.all false
set_option maxRecDepth 100000
set_option maxHeartbeats 2000000
namespace Ev
open PySem PySem.Spec PyProof.Rows L2

inductive Val where
  | non | bl (b : Bool) | int (i : Int) | str (s : Str)
  | tup (xs : List Val) | lst (xs : List Val) | dct (ks : List Key) (vs : List Val)
  | loc (n : Nat)
  | exc (c : Nat) (ns : List Str) (vs : List Val)

inductive Ob where
  | dead
  | lst (xs : List Val)
  | dK (kvs : List (Key × Val)) | dT (kvs : List (List Key × Val))
  | lkK (kvs : List (Key × Val)) | lkT (kvs : List (List Key × Val))
  | ins (c : Nat) (fs : List (Str × Val))

abbrev Sto := List Ob
inductive Res (α : Type) where
  | ok (a : α) (st : Sto)
  | ex (x : Val) (st : Sto)
  | bad
abbrev Env := List (Option Val)
abbrev E := Env → Sto → Res Val
abbrev EA := Env → Sto → Res (List Val)
abbrev ET := Env → Sto → Res Bool

structure Tab where
  K : PySem.W.Frag
  ca : Nat → Addr

structure Phi where
  l : List (Option Addr)
  hid : List Addr

/-- a live address of the store -/
def Live (φ : Phi) (a : Addr) : Prop := (∃ n : Nat, φ.l[n]? = some (some a)) ∨ a ∈ φ.hid
def Phi.add (φ : Phi) (p : Addr) : Phi := { φ with l := φ.l ++ [some p] }
def Phi.kill (φ : Phi) (n : Nat) : Phi := { φ with l := φ.l.set n none }
/-- an address that is kept apart -/
def Phi.hide (φ : Phi) (p : Addr) : Phi := { φ with hid := p :: φ.hid }

/-- an exception that is held as a value: its class, its own dict -/
def exv (C d : Addr) (a : Addr) : HO := .ext fun h => ∃ o vs, h.get? a = some o ∧ o.cls = .ref C ∧ o.dict = some d ∧ o.data = .fields vs

/-- a list of the module's own -/
def LstK (K : PySem.W.Frag) (a : Addr) (xs : List V) : Prop :=
  ∃ (o : Obj) (its : Array Value) (n : Nat), K.lookup a = some o ∧ o.cls = .type "list" ∧ o.dict = none ∧ o.data = .seq its n ∧ its.size ≤ sizeLine ∧ Vals xs its.toList

mutual
inductive RelV (T : Tab) (φ : Phi) (H : Hp) : Val → V → Prop
  | non : RelV T φ H .non .non
  | bl (b : Bool) : RelV T φ H (.bl b) (.bl b)
  | int (i : Int) : RelV T φ H (.int i) (.int i)
  | str (s : Str) : RelV T φ H (.str s) (.str s)
  | tup {xs : List Val} {us : List V} {a : Addr} : H a = some (.tup us) → RelVs T φ H xs us → RelV T φ H (.tup xs) (.ref a)
  | lst {xs : List Val} {us : List V} {a : Addr} : ((¬ Live φ a ∧ Rd H a (.lst us)) ∨ LstK T.K a us) → RelVs T φ H xs us → RelV T φ H (.lst xs) (.ref a)
  | dct {ks : List Key} {vs : List Val} {us : List V} {a : Addr} : ¬ Live φ a → Rd H a (.dK (ks.zip us)) → ks.length = us.length → RelVs T φ H vs us → RelV T φ H (.dct ks vs) (.ref a)
  | loc {n : Nat} {u : V} : n < φ.l.length → (∀ a, φ.l[n]? = some (some a) → u = .ref a) → RelV T φ H (.loc n) u
  | exc {c : Nat} {ns : List Str} {vs : List Val} {us : List V} {a d : Addr} : ¬ Live φ a → ¬ Live φ d → Rd H a (exv (T.ca c) d a) → Rd H d (.xd (ns.zip us)) → ns.length = us.length →
      RelVs T φ H vs us → RelV T φ H (.exc c ns vs) (.ref a)
inductive RelVs (T : Tab) (φ : Phi) (H : Hp) : List Val → List V → Prop
  | nil : RelVs T φ H [] []
  | cons {x : Val} {u : V} {xs : List Val} {us : List V} : RelV T φ H x u → RelVs T φ H xs us → RelVs T φ H (x :: xs) (u :: us)
end

/-- pairs by name, by key -/
def RelF {κ : Type} (T : Tab) (φ : Phi) (H : Hp) : List (κ × Val) → List (κ × V) → Prop := Paired fun p q => p.1 = q.1 ∧ RelV T φ H p.2 q.2

def RelOb (T : Tab) (φ : Phi) (H : Hp) (o : Ob) (a : Addr) : Prop := match o with
  | .dead => False
  | .lst xs => ∃ us, H a = some (.lst us) ∧ RelVs T φ H xs us
  | .dK kvs => ∃ us, H a = some (.dK us) ∧ RelF T φ H kvs us
  | .dT kvs => ∃ us, H a = some (.dT us) ∧ RelF T φ H kvs us
  | .lkK kvs => ∃ o us, H a = some (.frz o (.dK us)) ∧ RelF T φ H kvs us
  | .lkT kvs => ∃ o us, H a = some (.frz o (.dT us)) ∧ RelF T φ H kvs us
  | .ins c fs => ∃ dx us, H a = some (.ins (T.ca c) dx us) ∧ RelF T φ H fs us

structure Rst (T : Tab) (φ : Phi) (st : Sto) (H : Hp) : Prop where
  len : φ.l.length = st.length
  inj : ∀ (n m : Nat) a, φ.l[n]? = some (some a) → φ.l[m]? = some (some a) → n = m
  ob : ∀ (n : Nat) o, st[n]? = some o → (o = .dead ∧ φ.l[n]? = some none) ∨ ∃ a, φ.l[n]? = some (some a) ∧ RelOb T φ H o a
  hid : ∀ a, a ∈ φ.hid → H a ≠ none
  apart : ∀ (n : Nat) a, φ.l[n]? = some (some a) → a ∉ φ.hid

structure Ext (φ : Phi) (H : Hp) (φ' : Phi) (H' : Hp) : Prop where
  len : φ.l.length ≤ φ'.l.length
  old : ∀ (n : Nat) a, φ'.l[n]? = some (some a) → n < φ.l.length → φ.l[n]? = some (some a)
  new : ∀ (n : Nat) a, φ'.l[n]? = some (some a) → φ.l.length ≤ n → H a = none
  tups : ∀ a us, H a = some (.tup us) → H' a = some (.tup us)
  rd : ∀ a u, ¬ Live φ a → Rd H a u → Rd H' a u
  non : ∀ a, H a ≠ none → H' a ≠ none
  hid : φ'.hid = φ.hid
  hidk : ∀ a, a ∈ φ.hid → H' a = H a

theorem Ext.refl {φ : Phi} {H : Hp} : Ext φ H φ H where
  len := Nat.le_refl _
  old := fun _ _ h _ => h
  new := fun n a h hn => by
    have := (List.getElem?_eq_some_iff.mp h).1
    omega
  tups := fun _ _ h => h
  rd := fun _ _ _ h => h
  non := fun _ h => h
  hid := rfl
  hidk := fun _ _ => rfl
theorem rd_some {H : Hp} {a : Addr} {u : HO} (r : Rd H a u) : H a ≠ none := by
  rcases r with r | ⟨o, r⟩ <;> rw [r] <;> simp
theorem Ext.dead {φ φ' : Phi} {H H' : Hp} (e : Ext φ H φ' H') {a : Addr} (h : ¬ Live φ a) (hs : H a ≠ none) : ¬ Live φ' a := by
  rintro (⟨n, hn⟩ | hm)
  · by_cases hl : n < φ.l.length
    · exact h (.inl ⟨n, e.old n a hn hl⟩)
    · exact hs (e.new n a hn (by omega))
  · exact h (.inr (e.hid ▸ hm))
theorem Ext.trans {φ φ' φ'' : Phi} {H H' H'' : Hp} (e : Ext φ H φ' H') (f : Ext φ' H' φ'' H'') : Ext φ H φ'' H'' where
  len := Nat.le_trans e.len f.len
  old := fun n a h hn => e.old n a (f.old n a h (Nat.lt_of_lt_of_le hn e.len)) hn
  new := fun n a h hn => by
    by_cases hl : n < φ'.l.length
    · exact e.new n a (f.old n a h hl) hn
    · have z := f.new n a h (by omega)
      cases q : H a with
      | none => rfl
      | some o => exact absurd z (e.non a (by rw [q]; simp))
  tups := fun a us h => f.tups a us (e.tups a us h)
  rd := fun a u h r => f.rd a u (e.dead h (rd_some r)) (e.rd a u h r)
  non := fun a h => f.non a (e.non a h)
  hid := f.hid.trans e.hid
  hidk := fun a h => (f.hidk a (e.hid ▸ h)).trans (e.hidk a h)

section
variable {T : Tab} {φ φ' : Phi} {H H' : Hp}
mutual
theorem RelV.ext (e : Ext φ H φ' H') : ∀ {x : Val} {u : V}, RelV T φ H x u → RelV T φ' H' x u
  | _, _, .non => .non
  | _, _, .bl b => .bl b
  | _, _, .int i => .int i
  | _, _, .str s => .str s
  | _, _, .tup h r => .tup (e.tups _ _ h) (RelVs.ext e r)
  | _, _, .lst h r => .lst (h.elim (fun q => .inl ⟨e.dead q.1 (rd_some q.2), e.rd _ _ q.1 q.2⟩) .inr) (RelVs.ext e r)
  | _, _, .dct n h l r => .dct (e.dead n (rd_some h)) (e.rd _ _ n h) l (RelVs.ext e r)
  | _, _, .loc h r => .loc (Nat.lt_of_lt_of_le h e.len) (fun a q => r a (e.old _ a q h))
  | _, _, .exc n1 n2 h1 h2 l r => .exc (e.dead n1 (rd_some h1)) (e.dead n2 (rd_some h2)) (e.rd _ _ n1 h1) (e.rd _ _ n2 h2) l (RelVs.ext e r)
theorem RelVs.ext (e : Ext φ H φ' H') : ∀ {xs : List Val} {us : List V}, RelVs T φ H xs us → RelVs T φ' H' xs us
  | _, _, .nil => .nil
  | _, _, .cons a b => .cons (RelV.ext e a) (RelVs.ext e b)
end
theorem Paired.imp {α β : Type} {F G : α → β → Prop} : ∀ {l₁ : List α} {l₂ : List β}, Paired F l₁ l₂ → (∀ a b, F a b → G a b) → Paired G l₁ l₂
  | _, _, .nil, _ => .nil
  | _, _, .cons r t, f => .cons (f _ _ r) (Paired.imp t f)
theorem RelF.ext {κ : Type} (e : Ext φ H φ' H') {xs : List (κ × Val)} {us : List (κ × V)} (r : RelF T φ H xs us) : RelF T φ' H' xs us :=
  Paired.imp r fun _ _ h => ⟨h.1, h.2.ext e⟩
theorem RelVs.length : ∀ {xs : List Val} {us : List V}, RelVs T φ H xs us → xs.length = us.length
  | _, _, .nil => rfl
  | _, _, .cons _ b => by simp [RelVs.length b]
theorem RelVs.get : ∀ {xs : List Val} {us : List V} {i : Nat} {x : Val}, RelVs T φ H xs us → xs[i]? = some x → ∃ u, us[i]? = some u ∧ RelV T φ H x u
  | _, _, _, _, .nil, e => by simp at e
  | _, _, 0, _, .cons r _, e => by simp at e; subst e; exact ⟨_, rfl, r⟩
  | _, _, i + 1, x, .cons _ t, e => by
    obtain ⟨u, h1, h2⟩ := RelVs.get (i := i) (x := x) t (by simpa using e)
    exact ⟨u, by simpa using h1, h2⟩
theorem RelVs.got : ∀ {xs : List Val} {us : List V} {i : Nat} {u : V}, RelVs T φ H xs us → us[i]? = some u → ∃ x, xs[i]? = some x ∧ RelV T φ H x u
  | _, _, _, _, .nil, e => by simp at e
  | _, _, 0, _, .cons r _, e => by simp at e; subst e; exact ⟨_, rfl, r⟩
  | _, _, i + 1, x, .cons _ t, e => by
    obtain ⟨u, h1, h2⟩ := RelVs.got (i := i) (u := x) t (by simpa using e)
    exact ⟨u, by simpa using h1, h2⟩
theorem RelVs.append : ∀ {xs ys : List Val} {us ws : List V}, RelVs T φ H xs us → RelVs T φ H ys ws → RelVs T φ H (xs ++ ys) (us ++ ws)
  | _, _, _, _, .nil, s => s
  | _, _, _, _, .cons r t, s => .cons r (RelVs.append t s)
theorem RelVs.take : ∀ {xs : List Val} {us : List V} (n : Nat), RelVs T φ H xs us → RelVs T φ H (xs.take n) (us.take n)
  | _, _, 0, _ => .nil
  | _, _, _ + 1, .nil => .nil
  | _, _, n + 1, .cons r t => .cons r (RelVs.take n t)
theorem RelVs.drop : ∀ {xs : List Val} {us : List V} (n : Nat), RelVs T φ H xs us → RelVs T φ H (xs.drop n) (us.drop n)
  | _, _, 0, r => r
  | _, _, _ + 1, .nil => .nil
  | _, _, n + 1, .cons _ t => RelVs.drop n t
theorem RelVs.set {x : Val} {u : V} (r : RelV T φ H x u) : ∀ {xs : List Val} {us : List V} (i : Nat), RelVs T φ H xs us → RelVs T φ H (xs.set i x) (us.set i u)
  | _, _, _, .nil => .nil
  | _, _, 0, .cons _ t => .cons r t
  | _, _, i + 1, .cons q t => .cons q (RelVs.set r i t)
theorem RelVs.dropLast {xs : List Val} {us : List V} (r : RelVs T φ H xs us) : RelVs T φ H xs.dropLast us.dropLast := by
  rw [List.dropLast_eq_take, List.dropLast_eq_take, ← r.length]
  exact r.take _
theorem RelVs.reverse : ∀ {xs : List Val} {us : List V}, RelVs T φ H xs us → RelVs T φ H xs.reverse us.reverse
  | _, _, .nil => .nil
  | _, _, .cons r t => by
    rw [List.reverse_cons, List.reverse_cons]
    exact RelVs.append (RelVs.reverse t) (.cons r .nil)

theorem relOb_some {o : Ob} {a : Addr} (h : RelOb T φ H o a) : ∃ u, H a = some u := by
  cases o with
  | dead => exact h.elim
  | lst xs => obtain ⟨us, e, _⟩ := h; exact ⟨_, e⟩
  | dK kvs => obtain ⟨us, e, _⟩ := h; exact ⟨_, e⟩
  | dT kvs => obtain ⟨us, e, _⟩ := h; exact ⟨_, e⟩
  | lkK kvs => obtain ⟨o, us, e, _⟩ := h; exact ⟨_, e⟩
  | lkT kvs => obtain ⟨o, us, e, _⟩ := h; exact ⟨_, e⟩
  | ins c fs => obtain ⟨o, us, e, _⟩ := h; exact ⟨_, e⟩
theorem relOb_notup {o : Ob} {a : Addr} (h : RelOb T φ H o a) : ∀ us, H a ≠ some (.tup us) := by
  intro us z
  cases o with
  | dead => exact h.elim
  | lst xs => obtain ⟨us, e, _⟩ := h; rw [e] at z; cases z
  | dK kvs => obtain ⟨us, e, _⟩ := h; rw [e] at z; cases z
  | dT kvs => obtain ⟨us, e, _⟩ := h; rw [e] at z; cases z
  | lkK kvs => obtain ⟨o, us, e, _⟩ := h; rw [e] at z; cases z
  | lkT kvs => obtain ⟨o, us, e, _⟩ := h; rw [e] at z; cases z
  | ins c fs => obtain ⟨o, us, e, _⟩ := h; rw [e] at z; cases z
theorem RelOb.ext (e : Ext φ H φ' H') {o : Ob} {a : Addr} (h : RelOb T φ H o a) (k : H' a = H a) : RelOb T φ' H' o a := by
  cases o with
  | dead => exact h
  | lst xs => obtain ⟨us, q, r⟩ := h; exact ⟨us, k.trans q, r.ext e⟩
  | dK kvs => obtain ⟨us, q, r⟩ := h; exact ⟨us, k.trans q, r.ext e⟩
  | dT kvs => obtain ⟨us, q, r⟩ := h; exact ⟨us, k.trans q, r.ext e⟩
  | lkK kvs => obtain ⟨o, us, q, r⟩ := h; exact ⟨o, us, k.trans q, r.ext e⟩
  | lkT kvs => obtain ⟨o, us, q, r⟩ := h; exact ⟨o, us, k.trans q, r.ext e⟩
  | ins c fs => obtain ⟨o, us, q, r⟩ := h; exact ⟨o, us, k.trans q, r.ext e⟩
theorem Rst.has {st : Sto} (R : Rst T φ st H) {n : Nat} {a : Addr} (h : φ.l[n]? = some (some a)) : ∃ u, H a = some u := by
  have hl := (List.getElem?_eq_some_iff.mp h).1
  rw [R.len] at hl
  rcases R.ob n st[n] (by simp [hl]) with ⟨_, q⟩ | ⟨b, q, r⟩
  · rw [h] at q; cases q
  · rw [h] at q; cases q; exact relOb_some r
theorem Rst.notup {st : Sto} (R : Rst T φ st H) {n : Nat} {a : Addr} (h : φ.l[n]? = some (some a)) (us : List V) : H a ≠ some (.tup us) := by
  have hl := (List.getElem?_eq_some_iff.mp h).1
  rw [R.len] at hl
  rcases R.ob n st[n] (by simp [hl]) with ⟨_, q⟩ | ⟨b, q, r⟩
  · rw [h] at q; cases q
  · rw [h] at q; cases q; exact relOb_notup r us
theorem Rst.nolive {st : Sto} (R : Rst T φ st H) {a : Addr} (h : H a = none) : ¬ Live φ a := by
  rintro (⟨n, hn⟩ | hm)
  · obtain ⟨u, e⟩ := R.has hn
    rw [h] at e; cases e
  · exact R.hid a hm h
/-- what stands at a live place -/
theorem Rst.at {st : Sto} (R : Rst T φ st H) {n : Nat} {o : Ob} (h : st[n]? = some o) (hd : o ≠ .dead) : ∃ a, φ.l[n]? = some (some a) ∧ RelOb T φ H o a := by
  rcases R.ob n o h with ⟨e, _⟩ | q
  · exact absurd e hd
  · exact q
/-- a new object, not of the store -/
theorem Ext.fresh {st : Sto} (R : Rst T φ st H) {p : Addr} {ho : HO} (hp : H p = none) : Ext φ H φ (upd H p ho) where
  len := Nat.le_refl _
  old := fun _ _ h _ => h
  new := fun n a h hn => by
    have := (List.getElem?_eq_some_iff.mp h).1
    omega
  tups := fun a us h => by rw [upd_ne (ne_of_none h hp)]; exact h
  rd := fun a u _ r => by
    rcases r with r | ⟨o, r⟩
    · exact .inl (by rw [upd_ne (ne_of_none r hp)]; exact r)
    · exact .inr ⟨o, by rw [upd_ne (ne_of_none r hp)]; exact r⟩
  non := fun a h => by
    by_cases e : a = p
    · subst e; exact absurd hp h
    · rw [upd_ne e]; exact h
  hid := rfl
  hidk := fun a h => upd_ne fun e => R.hid a h (e ▸ hp)
theorem Rst.fresh {st : Sto} (R : Rst T φ st H) {p : Addr} {ho : HO} (hp : H p = none) : Rst T φ st (upd H p ho) where
  len := R.len
  inj := R.inj
  ob := fun n o h => by
    rcases R.ob n o h with q | ⟨a, q, r⟩
    · exact .inl q
    · refine .inr ⟨a, q, r.ext (Ext.fresh R hp) ?_⟩
      obtain ⟨u, e⟩ := relOb_some r
      rw [upd_ne (ne_of_none e hp)]
  hid := fun a h => (Ext.fresh R hp).non a (R.hid a h)
  apart := R.apart
theorem add_get {φ : Phi} {p a : Addr} {k : Nat} (h : (φ.add p).l[k]? = some (some a)) : (k < φ.l.length ∧ φ.l[k]? = some (some a)) ∨ (k = φ.l.length ∧ a = p) := by
  have h : (φ.l ++ [some p])[k]? = some (some a) := h
  by_cases hk : k < φ.l.length
  · rw [List.getElem?_append_left hk] at h; exact .inl ⟨hk, h⟩
  · rw [List.getElem?_append_right (by omega)] at h
    have e : k - φ.l.length = 0 := by
      have := (List.getElem?_eq_some_iff.mp h).1
      simp at this; omega
    rw [e] at h
    simp at h
    exact .inr ⟨by omega, h.symm⟩
theorem add_old {φ : Phi} {p : Addr} {k : Nat} {x : Option Addr} (h : φ.l[k]? = some x) : (φ.add p).l[k]? = some x := by
  show (φ.l ++ [some p])[k]? = _
  rw [List.getElem?_append_left (List.getElem?_eq_some_iff.mp h).1]
  exact h
/-- a new object of the store -/
theorem Ext.alloc {st : Sto} (R : Rst T φ st H) {p : Addr} {ho : HO} (hp : H p = none) : Ext φ H (φ.add p) (upd H p ho) where
  len := by show φ.l.length ≤ (φ.l ++ [some p]).length; simp
  old := fun n a h hn => by
    rcases add_get h with ⟨_, q⟩ | ⟨q, _⟩
    · exact q
    · omega
  new := fun n a h hn => by
    rcases add_get h with ⟨q, _⟩ | ⟨_, q⟩
    · omega
    · rw [q]; exact hp
  tups := (Ext.fresh (ho := ho) R hp).tups
  rd := (Ext.fresh (ho := ho) R hp).rd
  non := (Ext.fresh (ho := ho) R hp).non
  hid := rfl
  hidk := (Ext.fresh (ho := ho) R hp).hidk
theorem Rst.alloc {st : Sto} (R : Rst T φ st H) {p : Addr} {ho : HO} {o : Ob} (hp : H p = none) (hr : RelOb T (φ.add p) (upd H p ho) o p) : Rst T (φ.add p) (st ++ [o]) (upd H p ho) where
  len := by show (φ.l ++ [some p]).length = _; simp [R.len]
  inj := fun n m a h1 h2 => by
    rcases add_get h1 with ⟨_, q1⟩ | ⟨l1, e1⟩
    · rcases add_get h2 with ⟨_, q2⟩ | ⟨l2, e2⟩
      · exact R.inj n m a q1 q2
      · subst e2
        obtain ⟨u, e⟩ := R.has q1
        rw [hp] at e; cases e
    · rcases add_get h2 with ⟨_, q2⟩ | ⟨l2, e2⟩
      · subst e1
        obtain ⟨u, e⟩ := R.has q2
        rw [hp] at e; cases e
      · omega
  ob := fun n o' h => by
    by_cases hn : n < st.length
    · rw [List.getElem?_append_left hn] at h
      rcases R.ob n o' h with ⟨q1, q2⟩ | ⟨a, q, r⟩
      · exact .inl ⟨q1, add_old q2⟩
      · refine .inr ⟨a, add_old q, r.ext (Ext.alloc R hp) ?_⟩
        obtain ⟨u, e⟩ := relOb_some r
        rw [upd_ne (ne_of_none e hp)]
    · rw [List.getElem?_append_right (by omega)] at h
      have e : n - st.length = 0 := by
        have := (List.getElem?_eq_some_iff.mp h).1
        simp at this; omega
      rw [e] at h
      simp at h
      subst h
      refine .inr ⟨p, ?_, hr⟩
      have : n = φ.l.length := by rw [R.len]; omega
      subst this
      show (φ.l ++ [some p])[φ.l.length]? = _
      simp
  hid := fun a h => (Ext.alloc R hp).non a (R.hid a h)
  apart := fun n a h => by
    rcases add_get h with ⟨_, q⟩ | ⟨_, rfl⟩
    · exact R.apart n a q
    · exact fun z => R.hid a z hp
/-- a store's object is changed -/
theorem Ext.write {st : Sto} (R : Rst T φ st H) {n : Nat} {a : Addr} {ho : HO} (hn : φ.l[n]? = some (some a)) : Ext φ H φ (upd H a ho) where
  len := Nat.le_refl _
  old := fun _ _ h _ => h
  new := fun m b h hm => by
    have := (List.getElem?_eq_some_iff.mp h).1
    omega
  tups := fun b us h => by
    have : b ≠ a := fun z => by subst z; exact R.notup hn us h
    rw [upd_ne this]; exact h
  rd := fun b u hl r => by
    have : b ≠ a := fun z => by subst z; exact hl (.inl ⟨n, hn⟩)
    rcases r with r | ⟨o, r⟩
    · exact .inl (by rw [upd_ne this]; exact r)
    · exact .inr ⟨o, by rw [upd_ne this]; exact r⟩
  non := fun b h => by
    by_cases e : b = a
    · subst e; rw [upd_same]; simp
    · rw [upd_ne e]; exact h
  hid := rfl
  hidk := fun b h => upd_ne fun e => R.apart n a hn (e ▸ h)
theorem Rst.write {st : Sto} (R : Rst T φ st H) {n : Nat} {a : Addr} {ho : HO} {o : Ob} (hn : φ.l[n]? = some (some a)) (hr : RelOb T φ (upd H a ho) o a) : Rst T φ (st.set n o) (upd H a ho) where
  len := by simp [R.len]
  inj := R.inj
  ob := fun m o' h => by
    by_cases e : m = n
    · subst e
      have hl := (List.getElem?_eq_some_iff.mp hn).1
      rw [R.len] at hl
      rw [List.getElem?_set_self hl] at h
      cases h
      exact .inr ⟨a, hn, hr⟩
    · rw [List.getElem?_set_ne (Ne.symm e)] at h
      rcases R.ob m o' h with q | ⟨b, q, r⟩
      · exact .inl q
      · refine .inr ⟨b, q, r.ext (Ext.write R hn) ?_⟩
        have : b ≠ a := fun z => by subst z; exact e (R.inj m n b q hn)
        rw [upd_ne this]
  hid := fun a h => (Ext.write R hn).non a (R.hid a h)
  apart := R.apart
theorem kill_get {φ : Phi} {n j : Nat} {a : Addr} (h : (φ.kill n).l[j]? = some (some a)) : j ≠ n ∧ φ.l[j]? = some (some a) := by
  have h : (φ.l.set n none)[j]? = some (some a) := h
  by_cases e : j = n
  · subst e
    by_cases hl : j < φ.l.length
    · rw [List.getElem?_set_self hl] at h; cases h
    · rw [List.getElem?_eq_none (by simpa using hl)] at h; cases h
  · rw [List.getElem?_set_ne (Ne.symm e)] at h; exact ⟨e, h⟩
/-- a store's object becomes a value -/
theorem Ext.kill {st : Sto} (R : Rst T φ st H) {n : Nat} : Ext φ H (φ.kill n) H where
  len := by show φ.l.length ≤ (φ.l.set n none).length; simp
  old := fun m b h hm => (kill_get h).2
  new := fun m b h hm => by
    have := (List.getElem?_eq_some_iff.mp (kill_get h).2).1
    omega
  tups := fun _ _ h => h
  rd := fun _ _ _ r => r
  non := fun _ h => h
  hid := rfl
  hidk := fun _ _ => rfl
theorem Rst.kill {st : Sto} (R : Rst T φ st H) {n : Nat} : Rst T (φ.kill n) (st.set n .dead) H where
  len := by show (φ.l.set n none).length = _; simp [R.len]
  inj := fun m k a h1 h2 => R.inj m k a (kill_get h1).2 (kill_get h2).2
  ob := fun m o' h => by
    by_cases e : m = n
    · subst e
      have hl : m < st.length := by
        have := (List.getElem?_eq_some_iff.mp h).1
        simpa using this
      rw [List.getElem?_set_self hl] at h
      cases h
      refine .inl ⟨rfl, ?_⟩
      show (φ.l.set m none)[m]? = _
      rw [List.getElem?_set_self (by rw [R.len]; exact hl)]
    · rw [List.getElem?_set_ne (Ne.symm e)] at h
      have key : ∀ {x : Option Addr}, φ.l[m]? = some x → (φ.kill n).l[m]? = some x := fun {x} q => by
        show (φ.l.set n none)[m]? = _
        rw [List.getElem?_set_ne (Ne.symm e)]; exact q
      rcases R.ob m o' h with ⟨q1, q2⟩ | ⟨b, q, r⟩
      · exact .inl ⟨q1, key q2⟩
      · exact .inr ⟨b, key q, r.ext (Ext.kill R) rfl⟩
  hid := R.hid
  apart := fun m a h => R.apart m a (kill_get h).2
theorem nolive_kill {st : Sto} (R : Rst T φ st H) {n : Nat} {a : Addr} (h : φ.l[n]? = some (some a)) : ¬ Live (φ.kill n) a := by
  rintro (⟨m, hm⟩ | hm)
  · obtain ⟨e, q⟩ := kill_get hm
    exact e (R.inj m n a q h)
  · exact R.apart n a h hm
end
/-- what a value's meaning leans on -/
structure ExtV (φ : Phi) (H : Hp) (φ' : Phi) (H' : Hp) : Prop where
  len : φ.l.length ≤ φ'.l.length
  old : ∀ (n : Nat) a, φ'.l[n]? = some (some a) → n < φ.l.length → φ.l[n]? = some (some a)
  tups : ∀ a us, H a = some (.tup us) → H' a = some (.tup us)
  nl : ∀ a, ¬ Live φ a → H a ≠ none → ¬ Live φ' a
  rd : ∀ a u, ¬ Live φ a → Rd H a u → Rd H' a u
section
variable {T : Tab} {φ φ' : Phi} {H H' : Hp}
mutual
theorem RelV.extV (e : ExtV φ H φ' H') : ∀ {x : Val} {u : V}, RelV T φ H x u → RelV T φ' H' x u
  | _, _, .non => .non
  | _, _, .bl b => .bl b
  | _, _, .int i => .int i
  | _, _, .str s => .str s
  | _, _, .tup h r => .tup (e.tups _ _ h) (RelVs.extV e r)
  | _, _, .lst h r => .lst (h.elim (fun q => .inl ⟨e.nl _ q.1 (rd_some q.2), e.rd _ _ q.1 q.2⟩) .inr) (RelVs.extV e r)
  | _, _, .dct n h l r => .dct (e.nl _ n (rd_some h)) (e.rd _ _ n h) l (RelVs.extV e r)
  | _, _, .loc h r => .loc (Nat.lt_of_lt_of_le h e.len) (fun a q => r a (e.old _ a q h))
  | _, _, .exc n1 n2 h1 h2 l r => .exc (e.nl _ n1 (rd_some h1)) (e.nl _ n2 (rd_some h2)) (e.rd _ _ n1 h1) (e.rd _ _ n2 h2) l (RelVs.extV e r)
theorem RelVs.extV (e : ExtV φ H φ' H') : ∀ {xs : List Val} {us : List V}, RelVs T φ H xs us → RelVs T φ' H' xs us
  | _, _, .nil => .nil
  | _, _, .cons a b => .cons (RelV.extV e a) (RelVs.extV e b)
end
theorem RelF.extV {κ : Type} (e : ExtV φ H φ' H') {xs : List (κ × Val)} {us : List (κ × V)} (r : RelF T φ H xs us) : RelF T φ' H' xs us :=
  Paired.imp r fun _ _ h => ⟨h.1, h.2.extV e⟩
theorem RelOb.extV (e : ExtV φ H φ' H') {o : Ob} {a : Addr} (h : RelOb T φ H o a) (k : H' a = H a) : RelOb T φ' H' o a := by
  cases o with
  | dead => exact h
  | lst xs => obtain ⟨us, q, r⟩ := h; exact ⟨us, k.trans q, r.extV e⟩
  | dK kvs => obtain ⟨us, q, r⟩ := h; exact ⟨us, k.trans q, r.extV e⟩
  | dT kvs => obtain ⟨us, q, r⟩ := h; exact ⟨us, k.trans q, r.extV e⟩
  | lkK kvs => obtain ⟨o, us, q, r⟩ := h; exact ⟨o, us, k.trans q, r.extV e⟩
  | lkT kvs => obtain ⟨o, us, q, r⟩ := h; exact ⟨o, us, k.trans q, r.extV e⟩
  | ins c fs => obtain ⟨o, us, q, r⟩ := h; exact ⟨o, us, k.trans q, r.extV e⟩
theorem Ext.v (e : Ext φ H φ' H') : ExtV φ H φ' H' := ⟨e.len, e.old, e.tups, fun _ => e.dead, e.rd⟩
theorem live_hide {φ : Phi} {D a : Addr} (h : ¬ Live (φ.hide D) a) : ¬ Live φ a ∧ a ≠ D := by
  refine ⟨fun q => h ?_, fun e => h (.inr (by subst e; exact List.mem_cons_self ..))⟩
  rcases q with q | q
  · exact .inl q
  · exact .inr (List.mem_cons_of_mem _ q)
theorem of_live_hide {φ : Phi} {D a : Addr} (h : ¬ Live φ a) (n : a ≠ D) : ¬ Live (φ.hide D) a := by
  rintro (q | q)
  · exact h (.inl q)
  · rcases List.mem_cons.mp q with e | q
    · exact n e
    · exact h (.inr q)
/-- into the block: D is kept apart -/
theorem Ext.intoV {D : Addr} (e : Ext φ H φ' H') (hD : H D = none) : ExtV φ H (φ'.hide D) H' :=
  ⟨e.len, e.old, e.tups, fun a h hs => of_live_hide (e.dead h hs) fun z => hs (z ▸ hD), e.rd⟩
theorem unhideV {D : Addr} : ExtV (φ.hide D) H φ H :=
  ⟨Nat.le_refl _, fun _ _ h _ => h, fun _ _ h => h, fun _ h _ => (live_hide h).1, fun _ _ _ r => r⟩
theorem Rst.unhide {st : Sto} {D : Addr} (R : Rst T (φ.hide D) st H) : Rst T φ st H where
  len := R.len
  inj := R.inj
  ob := fun n o h => by
    rcases R.ob n o h with q | ⟨a, q, r⟩
    · exact .inl q
    · exact .inr ⟨a, q, r.extV unhideV rfl⟩
  hid := fun a h => R.hid a (List.mem_cons_of_mem _ h)
  apart := fun n a h z => R.apart n a h (List.mem_cons_of_mem _ z)
theorem Rst.hide {st : Sto} {D : Addr} {o : HO} (R : Rst T φ st H) (hD : H D = none) : Rst T (φ.hide D) st (upd H D o) where
  len := R.len
  inj := R.inj
  ob := fun n ob h => by
    rcases R.ob n ob h with q | ⟨a, q, r⟩
    · exact .inl q
    · refine .inr ⟨a, q, r.extV ((Ext.fresh (ho := o) R hD).intoV hD) ?_⟩
      obtain ⟨u, e⟩ := relOb_some r
      rw [upd_ne (ne_of_none e hD)]
  hid := fun a h => by
    rcases List.mem_cons.mp h with e | h
    · rw [e, upd_same]; simp
    · exact (Ext.fresh R hD).non a (R.hid a h)
  apart := fun n a h z => by
    rcases List.mem_cons.mp z with e | z
    · obtain ⟨u, q⟩ := R.has h
      rw [e, hD] at q; cases q
    · exact R.apart n a h z
/-- the hidden thing is changed -/
theorem hidden_v {D : Addr} {o : HO} (ht : ∀ us, H D ≠ some (.tup us)) : ExtV (φ.hide D) H (φ.hide D) (upd H D o) where
  len := Nat.le_refl _
  old := fun _ _ h _ => h
  tups := fun a us h => by
    have : a ≠ D := fun z => ht us (z ▸ h)
    rw [upd_ne this]; exact h
  nl := fun _ h _ => h
  rd := fun a u h r => by
    have n := (live_hide h).2
    rcases r with r | ⟨ob, r⟩
    · exact .inl (by rw [upd_ne n]; exact r)
    · exact .inr ⟨ob, by rw [upd_ne n]; exact r⟩
theorem Rst.hidden {st : Sto} {D : Addr} {o : HO} (R : Rst T (φ.hide D) st H) (ht : ∀ us, H D ≠ some (.tup us)) : Rst T (φ.hide D) st (upd H D o) where
  len := R.len
  inj := R.inj
  ob := fun n ob h => by
    rcases R.ob n ob h with q | ⟨a, q, r⟩
    · exact .inl q
    · exact .inr ⟨a, q, r.extV (hidden_v ht) (upd_ne fun z => R.apart n a q (by rw [z]; exact List.mem_cons_self ..))⟩
  hid := fun a h => by
    by_cases e : a = D
    · rw [e, upd_same]; simp
    · rw [upd_ne e]; exact R.hid a h
  apart := R.apart
/-- what was run within, seen from without -/
theorem Ext.outof {φ1 φ φh : Phi} {H1 H H' : Hp} {D : Addr} (e : Ext φ1 H1 φ H) (f : Ext (φ.hide D) H φh H') (hD : H1 D = none) (h1 : ∀ a, a ∈ φ1.hid → a ≠ D) : ∃ φ', φh = φ'.hide D ∧ Ext φ1 H1 φ' H' ∧ ∀ o, Ext φ1 H1 φ' (upd H' D o) := by
  obtain ⟨l, hid⟩ := φh
  have hh : hid = D :: φ.hid := f.hid
  subst hh
  have base : Ext φ1 H1 ⟨l, φ.hid⟩ H' := {
    len := Nat.le_trans e.len f.len
    old := fun n a h hn => e.old n a (f.old n a h (Nat.lt_of_lt_of_le hn e.len)) hn
    new := fun n a h hn => by
      by_cases hl : n < φ.l.length
      · exact e.new n a (f.old n a h hl) hn
      · have z := f.new n a h (by show φ.l.length ≤ n; omega)
        cases q : H1 a with
        | none => rfl
        | some o => exact absurd z (e.non a (by rw [q]; simp))
    tups := fun a us h => f.tups a us (e.tups a us h)
    rd := fun a u h r => by
      have nD : a ≠ D := fun z => rd_some r (z ▸ hD)
      exact f.rd a u (of_live_hide (e.dead h (rd_some r)) nD) (e.rd a u h r)
    non := fun a h => f.non a (e.non a h)
    hid := e.hid
    hidk := fun a h => (f.hidk a (List.mem_cons_of_mem _ (e.hid ▸ h))).trans (e.hidk a h) }
  refine ⟨⟨l, φ.hid⟩, rfl, base, fun o => ?_⟩
  have nD : ∀ {a : Addr}, H1 a ≠ none → a ≠ D := fun {a} h z => h (z ▸ hD)
  exact {
    len := base.len
    old := base.old
    new := base.new
    tups := fun a us h => by rw [upd_ne (nD (by rw [h]; simp))]; exact base.tups a us h
    rd := fun a u h r => by
      have n := nD (rd_some r)
      rcases base.rd a u h r with q | ⟨ob, q⟩
      · exact .inl (by rw [upd_ne n]; exact q)
      · exact .inr ⟨ob, by rw [upd_ne n]; exact q⟩
    non := fun a h => by rw [upd_ne (nD h)]; exact base.non a h
    hid := base.hid
    hidk := fun a h => by rw [upd_ne (h1 a h)]; exact base.hidk a h }
end

end Ev

set_option Elab.async false
set_option linter.all false
set_option maxRecDepth 100000
set_option maxHeartbeats 2000000
namespace Ev
open PySem PySem.Spec PyProof.Rows L2

/-- the frame's slots -/
structure RelE (T : Tab) (φ : Phi) (ρ : Env) (st : Sto) (σ : L2.St) (H : Hp) : Prop where
  rst : Rst T φ st H
  len : ρ.length = σ.length
  get : ∀ (i : Nat) v, ρ[i]? = some (some v) → ∃ u, σ[i]? = some (some u) ∧ RelV T φ H v u

/-- an exception in the air -/
def RelX (T : Tab) (φ : Phi) (H : Hp) (x : Val) (c : Value) (d : Option Addr) : Prop :=
  ∃ (k : Nat) (ns : List Str) (vs : List Val) (us : List V) (dd : Addr), x = .exc k ns vs ∧ c = .ref (T.ca k) ∧ d = some dd ∧ ¬ Live φ dd ∧ Rd H dd (.xd (ns.zip us)) ∧ ns.length = us.length ∧ RelVs T φ H vs us

/-- what is wanted behind a result -/
def Post {α β : Type} (T : Tab) (R : Phi → Hp → α → β → Prop) (W : WX) (φ : Phi) (σ : L2.St) (H : Hp) (Q : β → Hp → Prop) : Res α → Prop
  | .ok v st => ∀ φ' H' u, Ext φ H φ' H' → Rst T φ' st H' → R φ' H' v u → Q u H'
  | .ex x st => ∀ φ' H' c d, Ext φ H φ' H' → Rst T φ' st H' → RelX T φ' H' x c d → W c d σ H'
  | .bad => False
/-- the reading of an evaluation -/
def tG {α β : Type} (T : Tab) (R : Phi → Hp → α → β → Prop) (W : WX) (e : Env → Sto → Res α) : L2.St → Hp → (β → Hp → Prop) → Prop := fun σ H Q =>
  ∃ φ ρ st, RelE T φ ρ st σ H ∧ Post T R W φ σ H Q (e ρ st)
abbrev tE (T : Tab) (W : WX) (e : E) : TE := tG T (RelV T) W e
abbrev tA (T : Tab) (W : WX) (e : EA) : TA := tG T (RelVs T) W e
abbrev tT (T : Tab) (W : WX) (e : ET) : TT := tG T (fun _ _ (a b : Bool) => a = b) W e

def bindR {α β : Type} (r : Res α) (f : α → Sto → Res β) : Res β := match r with
  | .ok a st => f a st
  | .ex x st => .ex x st
  | .bad => .bad
@[simp] theorem bindR_ok {α β : Type} (a : α) (st : Sto) (f : α → Sto → Res β) : bindR (.ok a st) f = f a st := rfl
@[simp] theorem bindR_ex {α β : Type} (x : Val) (st : Sto) (f : α → Sto → Res β) : bindR (.ex x st) f = .ex x st := rfl
@[simp] theorem bindR_bad {α β : Type} (f : α → Sto → Res β) : bindR .bad f = .bad := rfl
/-- a value that may be lacking -/
def optR {α : Type} (o : Option α) (st : Sto) : Res α := match o with
  | some a => .ok a st
  | none => .bad
@[simp] theorem optR_some {α : Type} (a : α) (st : Sto) : optR (some a) st = .ok a st := rfl
@[simp] theorem optR_none {α : Type} (st : Sto) : optR (none : Option α) st = .bad := rfl

section
variable {T : Tab} {φ φ' : Phi} {ρ : Env} {st st' : Sto} {σ : L2.St} {H H' : Hp} {W : WX}
theorem RelE.ext (r : RelE T φ ρ st σ H) (e : Ext φ H φ' H') (R : Rst T φ' st' H') : RelE T φ' ρ st' σ H' :=
  ⟨R, r.len, fun i v h => let ⟨u, h1, h2⟩ := r.get i v h; ⟨u, h1, h2.ext e⟩⟩
theorem Post.mono {α β : Type} {R : Phi → Hp → α → β → Prop} {Q Q' : β → Hp → Prop} {r : Res α} (p : Post T R W φ σ H Q r) (h : ∀ u H', Q u H' → Q' u H') : Post T R W φ σ H Q' r := by
  cases r with
  | ok v st => exact fun φ' H' u e s q => h u H' (p φ' H' u e s q)
  | ex x st => exact p
  | bad => exact p
/-- later -/
theorem Post.later {α β : Type} {R : Phi → Hp → α → β → Prop} {Q : β → Hp → Prop} {r : Res α} (p : Post T R W φ σ H Q r) (e : Ext φ H φ' H') : Post T R W φ' σ H' Q r := by
  cases r with
  | ok v st => exact fun φ2 H2 u e2 s q => p φ2 H2 u (e.trans e2) s q
  | ex x st => exact fun φ2 H2 c d e2 s q => p φ2 H2 c d (e.trans e2) s q
  | bad => exact p
/-- first e, then f -/
theorem post_bind {α β γ δ : Type} {R : Phi → Hp → α → β → Prop} {R' : Phi → Hp → γ → δ → Prop} {Q : δ → Hp → Prop} {r : Res α} {f : α → Sto → Res γ} (p : Post T R' W φ σ H Q (bindR r f)) {Q1 : β → Hp → Prop}
    (h : ∀ v st1 φ1 H1 u, r = .ok v st1 → Ext φ H φ1 H1 → Rst T φ1 st1 H1 → R φ1 H1 v u → Post T R' W φ1 σ H1 Q (f v st1) → Q1 u H1) : Post T R W φ σ H Q1 r := by
  cases r with
  | ok v st => exact fun φ' H' u e s q => h v st φ' H' u rfl e s q (Post.later p e)
  | ex x st => exact p
  | bad => exact p
theorem tG_bind {α β γ δ : Type} {R : Phi → Hp → α → β → Prop} {R' : Phi → Hp → γ → δ → Prop} {e : Env → Sto → Res α} {f : Env → α → Sto → Res γ} {Q : δ → Hp → Prop} {Q1 : β → Hp → Prop}
    (h : tG T R' W (fun ρ st => bindR (e ρ st) (f ρ)) σ H Q)
    (k : ∀ v ρ st1 φ1 H1 u, RelE T φ1 ρ st1 σ H1 → R φ1 H1 v u → Post T R' W φ1 σ H1 Q (f ρ v st1) → Q1 u H1) : tG T R W e σ H Q1 := by
  obtain ⟨φ, ρ, st, re, p⟩ := h
  exact ⟨φ, ρ, st, re, post_bind p fun v st1 φ1 H1 u _ e1 s1 q1 p1 => k v ρ st1 φ1 H1 u (re.ext e1 s1) q1 p1⟩
theorem tG_mono {α β : Type} {R : Phi → Hp → α → β → Prop} {e : Env → Sto → Res α} {Q Q' : β → Hp → Prop} (h : tG T R W e σ H Q) (k : ∀ u H', Q u H' → Q' u H') : tG T R W e σ H Q' := by
  obtain ⟨φ, ρ, st, re, p⟩ := h
  exact ⟨φ, ρ, st, re, p.mono k⟩
theorem Post.ok_self {α β : Type} {R : Phi → Hp → α → β → Prop} {Q : β → Hp → Prop} {v : α} {u : β} (p : Post T R W φ σ H Q (.ok v st)) (s : Rst T φ st H) (q : R φ H v u) : Q u H := p φ H u Ext.refl s q
end

section
variable {X : Cx} {T : Tab} {W : WX}
theorem pe_imp {e : Expr} {t t' : TE} (h : PE X e t) (k : ∀ σ H Q, t' σ H Q → t σ H Q) : PE X e t' := ⟨fun pins s σ H Q I q => h.run pins s σ H Q I (k _ _ _ q)⟩
theorem pt_imp {e : Expr} {t t' : TT} (h : PT X e t) (k : ∀ σ H Q, t' σ H Q → t σ H Q) : PT X e t' := ⟨fun pins s σ H Q I q => h.run pins s σ H Q I (k _ _ _ q)⟩
theorem pw_imp {e : Expr} {t t' : TT} (h : PW X e t) (k : ∀ σ H Q, t' σ H Q → t σ H Q) : PW X e t' := ⟨fun wh pins s σ H Q I q => h.run wh pins s σ H Q I (k _ _ _ q)⟩
theorem pa_imp {es : List Expr} {t t' : TA} (h : PA X es t) (k : ∀ σ H Q, t' σ H Q → t σ H Q) : PA X es t' := ⟨fun pos pins s σ H Q I q => h.run pos pins s σ H Q I (k _ _ _ q)⟩

def eV (i : Nat) : E := fun ρ st => match ρ[i]? with
  | some (some v) => .ok v st
  | _ => .bad
def eC (v : Val) : E := fun _ st => .ok v st
theorem e_v (i : Nat) {x : Str} {pos : Pos} (hN : X.N[i]? = some x := by rfl) (hv : Vis X.env.scope x := by first | exact Or.inl rfl | exact Or.inr (Or.inl rfl) | exact Or.inr (Or.inr rfl)) (hd : (x == ("__debug__" : Str)) = false := by decide)
    (hcd : (x == ("__classdict__" : Str)) = false := by decide) : PE X (.Name x pos) (tE T W (eV i)) := by
  refine pe_imp (pv i hN hv hd hcd) fun σ H Q h => ?_
  obtain ⟨φ, ρ, st, re, p⟩ := h
  unfold eV at p
  split at p
  · rename_i v hv
    obtain ⟨u, e1, e2⟩ := re.get i v hv
    exact ⟨u, e1, p.ok_self re.rst e2⟩
  · exact p.elim
theorem e_c {e : Expr} {v : V} {c : Val} (h : PE X e (tC v)) (hr : ∀ φ H, RelV T φ H c v) : PE X e (tE T W (eC c)) := by
  refine pe_imp h fun σ H Q h => ?_
  obtain ⟨φ, ρ, st, re, p⟩ := h
  exact p.ok_self re.rst (hr φ H)
theorem e_int {i j pos} : PE X (.Constant (.int i) j pos) (tE T W (eC (.int i))) := e_c pe_int fun _ _ => .int i
theorem e_bl {b j pos} : PE X (.Constant (.bool b) j pos) (tE T W (eC (.bl b))) := e_c pe_bl fun _ _ => .bl b
theorem e_non {j pos} : PE X (.Constant .none j pos) (tE T W (eC .non)) := e_c pe_non fun _ _ => .non
theorem e_str {x j pos} : PE X (.Constant (.str x) j pos) (tE T W (eC (.str x))) := e_c pe_str fun _ _ => .str x
theorem e_gint {x : Str} {i : Int} {t : Tok} {pos : Pos} (hm : X.mg x = some (.int i t)) (hg : Gl X x := by rfl) (hd : (x == ("__debug__" : Str)) = false := by decide) : PE X (.Name x pos) (tE T W (eC (.int i))) :=
  e_c (pe_glob (v := .int i) hg hm ⟨t, rfl⟩ hd) fun _ _ => .int i
theorem e_gstr {x : Str} {i : Str} {t : Tok} {pos : Pos} (hm : X.mg x = some (.str i t)) (hg : Gl X x := by rfl) (hd : (x == ("__debug__" : Str)) = false := by decide) : PE X (.Name x pos) (tE T W (eC (.str i))) :=
  e_c (pe_glob (v := .str i) hg hm ⟨t, rfl⟩ hd) fun _ _ => .str i

def eNil : EA := fun _ st => .ok [] st
def eCons (e : E) (es : EA) : EA := fun ρ st => bindR (e ρ st) fun v st1 => bindR (es ρ st1) fun vs st2 => .ok (v :: vs) st2
theorem a_nil : PA X [] (tA T W eNil) := by
  refine pa_imp pa_nil fun σ H Q h => ?_
  obtain ⟨φ, ρ, st, re, p⟩ := h
  exact p.ok_self re.rst .nil
theorem a_cons {e : Expr} {es : List Expr} {a : E} {as : EA} (ha : PE X e (tE T W a)) (hr : PA X es (tA T W as)) (hs : starEach (e :: es) X.env = (false, eval e X.env) :: starEach es X.env := by rfl) : PA X (e :: es) (tA T W (eCons a as)) := by
  refine pa_imp (pa_cons ha hr hs) fun σ H Q h => ?_
  refine tG_bind h fun v ρ st1 φ1 H1 u re1 q1 p1 => ?_
  refine ⟨φ1, ρ, st1, re1, post_bind p1 fun vs st2 φ2 H2 us _ e2 s2 q2 p2 => ?_⟩
  exact p2.ok_self s2 (.cons (q1.ext e2) q2)

/-- f tells the value of an operation that the rule r is of; nothing of the store changes -/
def SndB (T : Tab) (r : R2) (f : Sto → Val → Val → Option Val) : Prop :=
  ∀ φ st H v w z x y Q, Rst T φ st H → RelV T φ H v x → RelV T φ H w y → f st v w = some z →
    (∀ H' u, Ext φ H φ H' → Rst T φ st H' → RelV T φ H' z u → Q u H') → r x y H Q
def eB (f : Sto → Val → Val → Option Val) (a b : E) : E := fun ρ st => bindR (a ρ st) fun v st1 => bindR (b ρ st1) fun w st2 => optR (f st2 v w) st2
theorem bin_sound {r : R2} {f : Sto → Val → Val → Option Val} (hs : SndB T r f) {a b : E} {σ : L2.St} {H : Hp} {Q : VK} (h : tE T W (eB f a b) σ H Q) : tOp r (tE T W a) (tE T W b) σ H Q := by
  refine tG_bind h fun v ρ st1 φ1 H1 u re1 q1 p1 => ?_
  refine ⟨φ1, ρ, st1, re1, post_bind p1 fun w st2 φ2 H2 y _ e2 s2 q2 p2 => ?_⟩
  cases hf : f st2 v w with
  | none => rw [hf] at p2; exact p2.elim
  | some z =>
    rw [hf] at p2
    exact hs φ2 st2 H2 v w z u y Q s2 (q1.ext e2) q2 hf fun H' u' e3 s3 q3 => p2 φ2 H' u' e3 s3 q3
theorem e_op {a b : Expr} {op : Operator} {pos : Pos} {r : R2} {f : Sto → Val → Val → Option Val} {ea eb : E} (ho : OpR X (binaryOp op) r) (hs : SndB T r f) (ha : PE X a (tE T W ea)) (hb : PE X b (tE T W eb)) :
    PE X (.BinOp a op b pos) (tE T W (eB f ea eb)) := pe_imp (pe_op ho ha hb) fun _ _ _ h => bin_sound hs h
theorem e_cmp {a b : Expr} {op : CmpOp} {pos : Pos} {r : R2} {f : Sto → Val → Val → Option Val} {ea eb : E} (ho : OpR X (compareOp op) r) (hs : SndB T r f) (ha : PE X a (tE T W ea)) (hb : PE X b (tE T W eb)) (hm : behindInMarks op b = false) :
    PE X (.Compare a [op] [b] pos) (tE T W (eB f ea eb)) := pe_imp (pe_cmpR ho ha hb hm) fun _ _ _ h => bin_sound hs h
/-- an operation on two ints -/
def fI (C : Int → Int → Bool) (g : Int → Int → Val) : Sto → Val → Val → Option Val
  | _, .int i, .int j => if C i j = true then some (g i j) else none
  | _, _, _ => none
theorem snd_I {C : Int → Int → Prop} {c : Int → Int → Bool} {g : Int → Int → V} {g' : Int → Int → Val} (hc : ∀ i j, c i j = true → C i j) (hg : ∀ φ H i j, RelV T φ H (g' i j) (g i j)) : SndB T (rI C g) (fI c g') := by
  intro φ st H v w z x y Q s q1 q2 hf hq
  unfold fI at hf
  split at hf
  · rename_i i j
    split at hf
    · rename_i hh
      cases hf
      cases q1; cases q2
      exact ⟨i, j, rfl, rfl, hc i j hh, hq H _ Ext.refl s (hg φ H i j)⟩
    · cases hf
  · cases hf
def fI0 (g : Int → Int → Val) : Sto → Val → Val → Option Val
  | _, .int i, .int j => some (g i j)
  | _, _, _ => none
theorem snd_I0 {g : Int → Int → V} {g' : Int → Int → Val} (hg : ∀ φ H i j, RelV T φ H (g' i j) (g i j)) : SndB T (rI0 g) (fI0 g') := by
  intro φ st H v w z x y Q s q1 q2 hf hq
  unfold fI0 at hf
  split at hf
  · rename_i i j
    cases hf
    cases q1; cases q2
    exact ⟨i, j, rfl, rfl, hq H _ Ext.refl s (hg φ H i j)⟩
  · cases hf
abbrev fSub := fI0 fun i j => .int (i - j)
theorem e_sub {a b : Expr} {pos : Pos} {ea eb : E} (ha : PE X a (tE T W ea)) (hb : PE X b (tE T W eb)) : PE X (.BinOp a .Sub b pos) (tE T W (eB fSub ea eb)) :=
  e_op op_sub (snd_I0 fun _ _ i j => .int (i - j)) ha hb
/-- a product: one side within 2 ^ 64 -/
def cMul (i j : Int) : Bool := (decide (-(2 ^ 64) < i) && decide (i < 2 ^ 64)) || (decide (-(2 ^ 64) < j) && decide (j < 2 ^ 64))
theorem cMul_ok (i j : Int) (h : cMul i j = true) : CMul i j := by
  unfold cMul at h
  simpa [CMul, Bool.or_eq_true, Bool.and_eq_true] using h
def cDiv (_ j : Int) : Bool := decide (0 < j) && decide (j.natAbs < 2 ^ 2000)
theorem cDiv_ok (i j : Int) (h : cDiv i j = true) : CDivW i j := by
  unfold cDiv at h
  rw [Bool.and_eq_true, decide_eq_true_eq, decide_eq_true_eq] at h
  exact wide_div h.1 h.2 (by decide) (by decide)
abbrev fFdiv := fI cDiv fun i j => .int (i / j)
theorem e_fdiv {a b : Expr} {pos : Pos} {ea eb : E} (ha : PE X a (tE T W ea)) (hb : PE X b (tE T W eb)) : PE X (.BinOp a .FloorDiv b pos) (tE T W (eB fFdiv ea eb)) :=
  e_op op_fdivW (snd_I cDiv_ok fun _ _ i j => .int (i / j)) ha hb
abbrev fMod := fI (fun _ j => decide (0 < j)) fun i j => .int (i % j)
theorem e_mod {a b : Expr} {pos : Pos} {ea eb : E} (ha : PE X a (tE T W ea)) (hb : PE X b (tE T W eb)) : PE X (.BinOp a .Mod b pos) (tE T W (eB fMod ea eb)) :=
  e_op op_mod (snd_I (fun _ _ h => of_decide_eq_true h) fun _ _ i j => .int (i % j)) ha hb
def cPow (i j : Int) : Bool := decide (0 ≤ j) && decide (j ≤ 1000000) && decide (i.natAbs < 2 ^ 64)
theorem cPow_ok (i j : Int) (h : cPow i j = true) : CPow i j := by
  unfold cPow at h
  simp only [Bool.and_eq_true, decide_eq_true_eq] at h
  exact ⟨h.1.1, h.1.2, h.2⟩
abbrev fPow := fI cPow fun i j => .int (i ^ j.toNat)
theorem e_pow {a b : Expr} {pos : Pos} {ea eb : E} (ha : PE X a (tE T W ea)) (hb : PE X b (tE T W eb)) : PE X (.BinOp a .Pow b pos) (tE T W (eB fPow ea eb)) :=
  e_op op_pow (snd_I cPow_ok fun _ _ i j => .int (i ^ j.toNat)) ha hb

def eTest (e : E) : ET := fun ρ st => bindR (e ρ st) fun v st1 => match v with
  | .bl b => .ok b st1
  | _ => .bad
theorem t_val {e : Expr} {a : E} (h : PE X e (tE T W a)) (he : ∀ whole, isTrue e X.env whole = (do let v ← whole; standAt e.pos; holding [v] (truthy v)) := by intro _; rfl) : PT X e (tT T W (eTest a)) := by
  refine pt_imp (pt_val h he) fun σ H Q h => ?_
  refine tG_bind h fun v ρ st1 φ1 H1 u re1 q1 p1 => ?_
  split at p1
  · rename_i b
    cases q1
    exact ⟨b, rfl, p1.ok_self re1.rst rfl⟩
  · exact p1.elim
/-- a comparison as a test -/
theorem t_cmp {a b : Expr} {op : CmpOp} {pos : Pos} {r : R2} {f : Sto → Val → Val → Option Val} {ea eb : E} (ho : OpR X (compareOp op) r) (hs : SndB T r f) (ha : PE X a (tE T W ea)) (hb : PE X b (tE T W eb)) (hm : behindInMarks op b = false) :
    PT X (.Compare a [op] [b] pos) (tT T W (eTest (eB f ea eb))) := by
  refine pt_imp (pt_cmpR ho ha hb hm) fun σ H Q h => ?_
  have h' : tE T W (eB f ea eb) σ H (fun u H1 => ∃ k, u = .bl k ∧ Q k H1) := by
    refine tG_bind h fun v ρ st1 φ1 H1 u re1 q1 p1 => ?_
    split at p1
    · rename_i b
      cases q1
      exact ⟨b, rfl, p1.ok_self re1.rst rfl⟩
    · exact p1.elim
  exact bin_sound hs h'
def eNotT (t : ET) : ET := fun ρ st => bindR (t ρ st) fun b st1 => .ok (!b) st1
theorem t_not {a : Expr} {pos : Pos} {t : ET} (h : PT X a (tT T W t)) : PT X (.UnaryOp .Not a pos) (tT T W (eNotT t)) := by
  refine pt_imp (pt_not h) fun σ H Q h => ?_
  refine tG_bind h fun v ρ st1 φ1 H1 u re1 q1 p1 => ?_
  subst q1
  exact p1.ok_self re1.rst rfl
def eAndT (a b : ET) : ET := fun ρ st => bindR (a ρ st) fun c st1 => if c = true then b ρ st1 else .ok false st1
def eOrT (a b : ET) : ET := fun ρ st => bindR (a ρ st) fun c st1 => if c = true then .ok true st1 else b ρ st1
theorem w_and1 {a : Expr} {pos : Pos} {t : ET} (h : PT X a (tT T W t)) : PW X (.BoolOp .And [a] pos) (tT T W t) := pw_and1 h
theorem w_or1 {a : Expr} {pos : Pos} {t : ET} (h : PT X a (tT T W t)) : PW X (.BoolOp .Or [a] pos) (tT T W t) := pw_or1 h
theorem w_and {a b : Expr} {rest : List Expr} {pos : Pos} {t u : ET} (ha : PT X a (tT T W t)) (hb : PW X (.BoolOp .And (b :: rest) pos) (tT T W u)) : PW X (.BoolOp .And (a :: b :: rest) pos) (tT T W (eAndT t u)) := by
  refine pw_imp (pw_and ha hb) fun σ H Q h => ?_
  refine tG_bind h fun v ρ st1 φ1 H1 c re1 q1 p1 => ?_
  subst q1
  cases v with
  | true => exact iteT ⟨φ1, ρ, st1, re1, p1⟩
  | false => exact iteF (p1.ok_self re1.rst rfl)
theorem w_or {a b : Expr} {rest : List Expr} {pos : Pos} {t u : ET} (ha : PT X a (tT T W t)) (hb : PW X (.BoolOp .Or (b :: rest) pos) (tT T W u)) : PW X (.BoolOp .Or (a :: b :: rest) pos) (tT T W (eOrT t u)) := by
  refine pw_imp (pw_or ha hb) fun σ H Q h => ?_
  refine tG_bind h fun v ρ st1 φ1 H1 c re1 q1 p1 => ?_
  subst q1
  cases v with
  | true => exact iteT (p1.ok_self re1.rst rfl)
  | false => exact iteF ⟨φ1, ρ, st1, re1, p1⟩
/-- and, or, not as values: all but the last are bools -/
def eAnd (a b : E) : E := fun ρ st => bindR (eTest a ρ st) fun c st1 => if c = true then b ρ st1 else .ok (.bl false) st1
def eOr (a b : E) : E := fun ρ st => bindR (eTest a ρ st) fun c st1 => if c = true then .ok (.bl true) st1 else b ρ st1
def eNot (a : E) : E := fun ρ st => bindR (eTest a ρ st) fun c st1 => .ok (.bl (!c)) st1
theorem test_bind {α β : Type} {R : Phi → Hp → α → β → Prop} {a : E} {f : Env → Bool → Sto → Res α} {σ : L2.St} {H : Hp} {Q : β → Hp → Prop} {Q1 : VK} (h : tG T R W (fun ρ st => bindR (eTest a ρ st) (f ρ)) σ H Q)
    (k : ∀ c ρ st1 φ1 H1, RelE T φ1 ρ st1 σ H1 → Post T R W φ1 σ H1 Q (f ρ c st1) → Q1 (.bl c) H1) : tE T W a σ H Q1 := by
  obtain ⟨φ, ρ, st, re, p⟩ := h
  refine ⟨φ, ρ, st, re, ?_⟩
  dsimp only [eTest] at p
  cases ha : a ρ st with
  | ok v st1 =>
    rw [ha] at p
    intro φ1 H1 u e1 s1 q1
    cases v with
    | bl b => cases q1; exact k b ρ st1 φ1 H1 (re.ext e1 s1) (Post.later p e1)
    | _ => exact p.elim
  | ex x st1 => rw [ha] at p; exact p
  | bad => rw [ha] at p; exact p
theorem e_one {a : Expr} {op} {pos : Pos} {ea : E} (h : PE X a (tE T W ea)) : PE X (.BoolOp op [a] pos) (tE T W ea) := pe_one h
theorem e_and {a b : Expr} {rest : List Expr} {pos : Pos} {ea eb : E} (ha : PE X a (tE T W ea)) (hb : PE X (.BoolOp .And (b :: rest) pos) (tE T W eb)) : PE X (.BoolOp .And (a :: b :: rest) pos) (tE T W (eAnd ea eb)) := by
  refine pe_imp (pe_and ha hb) fun σ H Q h => ?_
  refine test_bind h fun c ρ st1 φ1 H1 re1 p1 => ⟨c, rfl, ?_⟩
  cases c with
  | true => exact iteT ⟨φ1, ρ, st1, re1, p1⟩
  | false => exact iteF (p1.ok_self re1.rst (.bl false))
theorem e_or {a b : Expr} {rest : List Expr} {pos : Pos} {ea eb : E} (ha : PE X a (tE T W ea)) (hb : PE X (.BoolOp .Or (b :: rest) pos) (tE T W eb)) : PE X (.BoolOp .Or (a :: b :: rest) pos) (tE T W (eOr ea eb)) := by
  refine pe_imp (pe_or ha hb) fun σ H Q h => ?_
  refine test_bind h fun c ρ st1 φ1 H1 re1 p1 => ⟨c, rfl, ?_⟩
  cases c with
  | true => exact iteT (p1.ok_self re1.rst (.bl true))
  | false => exact iteF ⟨φ1, ρ, st1, re1, p1⟩
theorem e_not {a : Expr} {pos : Pos} {ea : E} (ha : PE X a (tE T W ea)) : PE X (.UnaryOp .Not a pos) (tE T W (eNot ea)) := by
  refine pe_imp (pe_not ha) fun σ H Q h => ?_
  refine test_bind h fun c ρ st1 φ1 H1 re1 p1 => ⟨c, rfl, ?_⟩
  exact p1.ok_self re1.rst (.bl (!c))
def eIf (t : ET) (a b : E) : E := fun ρ st => bindR (t ρ st) fun c st1 => if c = true then a ρ st1 else b ρ st1
theorem e_if {c a b : Expr} {pos : Pos} {t : ET} {ea eb : E} (hc : PT X c (tT T W t)) (ha : PE X a (tE T W ea)) (hb : PE X b (tE T W eb)) : PE X (.IfExp c a b pos) (tE T W (eIf t ea eb)) := by
  refine pe_imp (pe_ifExp hc ha hb) fun σ H Q h => ?_
  refine tG_bind h fun v ρ st1 φ1 H1 u re1 q1 p1 => ?_
  subst q1
  cases v with
  | true => exact iteT ⟨φ1, ρ, st1, re1, p1⟩
  | false => exact iteF ⟨φ1, ρ, st1, re1, p1⟩
def fNeg : E → E := fun a ρ st => bindR (a ρ st) fun v st1 => match v with
  | .int i => .ok (.int (-i)) st1
  | _ => .bad
theorem e_neg {a : Expr} {pos : Pos} {ea : E} (ha : PE X a (tE T W ea)) : PE X (.UnaryOp .USub a pos) (tE T W (fNeg ea)) := by
  refine pe_imp (pe_un un_neg ha) fun σ H Q h => ?_
  refine tG_bind h fun v ρ st1 φ1 H1 u re1 q1 p1 => ?_
  split at p1
  · rename_i i
    cases q1
    exact ⟨i, rfl, p1.ok_self re1.rst (.int (-i))⟩
  · exact p1.elim

def eTup (as : EA) : E := fun ρ st => bindR (as ρ st) fun vs st1 => if vs.length ≤ sizeLine then .ok (.tup vs) st1 else .bad
def eLst (as : EA) : E := fun ρ st => bindR (as ρ st) fun vs st1 => if vs.length ≤ sizeLine then .ok (.lst vs) st1 else .bad
/-- a list that will be changed -/
def eNew (as : EA) : E := fun ρ st => bindR (as ρ st) fun vs st1 => if vs.length ≤ sizeLine then .ok (.loc st1.length) (st1 ++ [.lst vs]) else .bad
theorem e_tup {es : List Expr} {x1} {pos : Pos} {as : EA} (h : PA X es (tA T W as)) : PE X (.Tuple es x1 pos) (tE T W (eTup as)) := by
  refine pe_imp (pe_tup h) fun σ H Q h => ?_
  refine tG_bind h fun vs ρ st1 φ1 H1 us re1 q1 p1 => ?_
  split at p1
  · rename_i hz
    refine ⟨by rw [← RelVs.length q1]; exact hz, fun p hp => ?_⟩
    have e := Ext.fresh (ho := .tup us) re1.rst hp
    exact p1 φ1 _ _ e (re1.rst.fresh hp) (.tup upd_same (RelVs.ext e q1))
  · exact p1.elim
theorem e_lst {es : List Expr} {pos : Pos} {as : EA} (h : PA X es (tA T W as)) : PE X (.List es pos) (tE T W (eLst as)) := by
  refine pe_imp (pe_lst h) fun σ H Q h => ?_
  refine tG_bind h fun vs ρ st1 φ1 H1 us re1 q1 p1 => ?_
  split at p1
  · rename_i hz
    refine ⟨by rw [← RelVs.length q1]; exact hz, fun p hp => ?_⟩
    have e := Ext.fresh (ho := .lst us) re1.rst hp
    exact p1 φ1 _ _ e (re1.rst.fresh hp) (.lst (.inl ⟨re1.rst.nolive hp, .inl upd_same⟩) (RelVs.ext e q1))
  · exact p1.elim
theorem rel_loc {φ : Phi} {H : Hp} {st : Sto} (R : Rst T φ st H) {p : Addr} {H' : Hp} : RelV T (φ.add p) H' (.loc st.length) (.ref p) := by
  refine .loc (by rw [← R.len]; show _ < (φ.l ++ [some p]).length; simp) fun a q => ?_
  rcases add_get q with ⟨h, _⟩ | ⟨_, rfl⟩
  · rw [R.len] at h
    exact absurd h (Nat.lt_irrefl _)
  · rfl
theorem e_new {es : List Expr} {pos : Pos} {as : EA} (h : PA X es (tA T W as)) : PE X (.List es pos) (tE T W (eNew as)) := by
  refine pe_imp (pe_lst h) fun σ H Q h => ?_
  refine tG_bind h fun vs ρ st1 φ1 H1 us re1 q1 p1 => ?_
  split at p1
  · rename_i hz
    refine ⟨by rw [← RelVs.length q1]; exact hz, fun p hp => ?_⟩
    have e := Ext.alloc (ho := .lst us) re1.rst hp
    exact p1 _ _ _ e (re1.rst.alloc hp ⟨us, upd_same, RelVs.ext e q1⟩) (rel_loc re1.rst)
  · exact p1.elim
end
end Ev

set_option Elab.async false
set_option linter.all false
set_option maxRecDepth 100000
set_option maxHeartbeats 2000000
namespace Ev
open PySem PySem.Spec PyProof.Rows L2

/-- a store's list as a value -/
def dr (st : Sto) : Val → Val
  | .loc n => match st[n]? with
    | some (.lst xs) => .lst xs
    | _ => .loc n
  | v => v
def lstOf (st : Sto) (v : Val) : Option (List Val) := match dr st v with
  | .lst xs => some xs
  | _ => none
def tupOf : Val → Option (List Val)
  | .tup xs => some xs
  | _ => none
def seqOf (st : Sto) (v : Val) : Option (List Val) := match dr st v with
  | .lst xs => some xs
  | .tup xs => some xs
  | _ => none
mutual
def toD : Val → Option PyData
  | .non => some .none
  | .bl b => some (.bool b)
  | .int i => some (.int i)
  | .str s => some (.str s)
  | .tup xs => (toDs xs).map .tuple
  | .lst xs => (toDs xs).map .list
  | _ => none
def toDs : List Val → Option (List PyData)
  | [] => some []
  | x :: xs => match toD x, toDs xs with
    | some d, some ds => some (d :: ds)
    | _, _ => none
end
section
variable {T : Tab} {φ : Phi} {st : Sto} {H : Hp}
theorem sqL_of {a : Addr} {us : List V} (h : (¬ Live φ a ∧ Rd H a (.lst us)) ∨ LstK T.K a us) : SqL T.K H a us := h.elim (fun q => .inl q.2) .inr
theorem rel_lst (R : Rst T φ st H) {v : Val} {x : V} {xs : List Val} (r : RelV T φ H v x) (h : lstOf st v = some xs) : ∃ a us, x = .ref a ∧ SqL T.K H a us ∧ RelVs T φ H xs us := by
  unfold lstOf at h
  cases r with
  | lst h1 h2 => cases h; exact ⟨_, _, rfl, sqL_of h1, h2⟩
  | loc hn hu =>
    rename_i n
    unfold dr at h
    dsimp only at h
    split at h
    · rename_i ys e
      cases h
      split at e
      · rename_i zs q
        cases e
        obtain ⟨a, e1, us, e2, e3⟩ := R.at q (by simp)
        exact ⟨a, us, hu a e1, SqL.of e2, e3⟩
      · cases e
    · cases h
  | _ => cases h
theorem rel_tup {v : Val} {x : V} {xs : List Val} (r : RelV T φ H v x) (h : tupOf v = some xs) : ∃ a us, x = .ref a ∧ H a = some (.tup us) ∧ RelVs T φ H xs us := by
  cases r with
  | tup h1 h2 => cases h; exact ⟨_, _, rfl, h1, h2⟩
  | _ => cases h
theorem rel_seq (R : Rst T φ st H) {v : Val} {x : V} {xs : List Val} (r : RelV T φ H v x) (h : seqOf st v = some xs) : ∃ a us, x = .ref a ∧ (SqL T.K H a us ∨ SqT T.K H a us) ∧ RelVs T φ H xs us := by
  unfold seqOf at h
  split at h
  · rename_i ys e
    cases h
    obtain ⟨a, us, h1, h2, h3⟩ := rel_lst R r (show lstOf st v = some xs by unfold lstOf; rw [e])
    exact ⟨a, us, h1, .inl h2, h3⟩
  · rename_i ys e
    cases h
    cases r with
    | tup h1 h2 => cases e; exact ⟨_, _, rfl, .inr (SqT.of h1), h2⟩
    | loc hn hu =>
      unfold dr at e
      dsimp only at e
      split at e <;> cases e
    | _ => cases e
  · cases h
mutual
theorem rel_dp : ∀ {v : Val} {x : V} {d : PyData}, RelV T φ H v x → toD v = some d → Dp T.K H x d
  | _, _, _, .non, h => by cases h; exact .non
  | _, _, _, .bl b, h => by cases h; exact .bl b
  | _, _, _, .int i, h => by cases h; exact .int i
  | _, _, _, .str s, h => by cases h; exact .str s
  | _, _, _, .tup h1 h2, h => by
    simp only [toD, Option.map_eq_some_iff] at h
    obtain ⟨ds, e, rfl⟩ := h
    exact .tup (SqT.of h1) (rel_dps h2 e)
  | _, _, _, .lst h1 h2, h => by
    simp only [toD, Option.map_eq_some_iff] at h
    obtain ⟨ds, e, rfl⟩ := h
    exact .lst (sqL_of h1) (rel_dps h2 e)
  | _, _, _, .dct .., h => by cases h
  | _, _, _, .loc .., h => by cases h
  | _, _, _, .exc .., h => by cases h
theorem rel_dps : ∀ {vs : List Val} {xs : List V} {ds : List PyData}, RelVs T φ H vs xs → toDs vs = some ds → DpAll T.K H xs ds
  | _, _, _, .nil, h => by cases h; exact .nil
  | _, _, _, .cons a b, h => by
    rw [toDs] at h
    split at h
    · rename_i d ds e1 e2
      cases h
      exact .cons (rel_dp a e1) (rel_dps b e2)
    · cases h
end
theorem rel_dr (R : Rst T φ st H) {v : Val} {x : V} {d : PyData} (r : RelV T φ H v x) (h : toD (dr st v) = some d) : Dp T.K H x d := by
  cases r with
  | loc hn hu =>
    rename_i n
    unfold dr at h
    dsimp only at h
    split at h
    · rename_i ys q
      obtain ⟨a, e1, us, e2, e3⟩ := R.at q (by simp)
      simp only [toD, Option.map_eq_some_iff] at h
      obtain ⟨ds, e, rfl⟩ := h
      rw [hu a e1]
      exact .lst (SqL.of e2) (rel_dps e3 e)
    · cases h
  | non => exact rel_dp (T := T) (φ := φ) (H := H) .non h
  | bl b => exact rel_dp (T := T) (φ := φ) (H := H) (.bl b) h
  | int i => exact rel_dp (T := T) (φ := φ) (H := H) (.int i) h
  | str s => exact rel_dp (T := T) (φ := φ) (H := H) (.str s) h
  | tup h1 h2 => exact rel_dp (.tup h1 h2) h
  | lst h1 h2 => exact rel_dp (.lst h1 h2) h
  | dct h1 h2 h3 h4 => exact rel_dp (.dct h1 h2 h3 h4) h
  | exc h1 h2 h3 h4 h5 h6 => exact rel_dp (.exc h1 h2 h3 h4 h5 h6) h
end

def fEq (st : Sto) (v w : Val) : Option Val := match toD (dr st v), toD (dr st w) with
  | some d, some e => if SeqAt.shaped d && SeqAt.shaped e then some (.bl (PyData.eqv d e)) else none
  | _, _ => none
def fNe (st : Sto) (v w : Val) : Option Val := match toD (dr st v), toD (dr st w) with
  | some d, some e => if SeqAt.shaped d && SeqAt.shaped e then some (.bl (!PyData.eqv d e)) else none
  | _, _ => none
theorem snd_eq {T : Tab} : SndB T (rEqD T.K) fEq := by
  intro φ st H v w z x y Q R r1 r2 hf hq
  unfold fEq at hf
  split at hf
  · rename_i d e h1 h2
    split at hf
    · rename_i hs
      cases hf
      rw [Bool.and_eq_true] at hs
      exact ⟨d, e, rel_dr R r1 h1, rel_dr R r2 h2, hs.1, hs.2, hq H _ Ext.refl R (.bl _)⟩
    · cases hf
  · cases hf
theorem snd_ne {T : Tab} : SndB T (rNeD T.K) fNe := by
  intro φ st H v w z x y Q R r1 r2 hf hq
  unfold fNe at hf
  split at hf
  · rename_i d e h1 h2
    split at hf
    · rename_i hs
      cases hf
      rw [Bool.and_eq_true] at hs
      exact ⟨d, e, rel_dr R r1 h1, rel_dr R r2 h2, hs.1, hs.2, hq H _ Ext.refl R (.bl _)⟩
    · cases hf
  · cases hf

def fAdd (st : Sto) (v w : Val) : Option Val := match v, w with
  | .int i, .int j => some (.int (i + j))
  | .str a, .str b => if a.length + b.length ≤ sizeLine then some (.str (a ++ b)) else none
  | .tup xs, .tup ys => if xs.length + ys.length ≤ sizeLine then some (.tup (xs ++ ys)) else none
  | v, w => match lstOf st v, lstOf st w with
    | some xs, some ys => if xs.length + ys.length ≤ sizeLine then some (.lst (xs ++ ys)) else none
    | _, _ => none
/-- list + list, whatever the lists are -/
def rCatL (K : PySem.W.Frag) : R2 := fun x y H Q => ∃ l b xs zs, x = .ref l ∧ y = .ref b ∧ SqL K H l xs ∧ SqL K H b zs ∧ xs.length + zs.length ≤ sizeLine ∧ ∀ p, H p = none → Q (.ref p) (upd H p (.lst (xs ++ zs)))
theorem op_catL {X : Cx} : OpR X (binaryOp .Add) (rCatL X.K) := by
  intro pins s σ H x y v u Q I rx ry h
  obtain ⟨l, b, xs, zs, rfl, rfl, hH, hB, hz, q⟩ := h
  cases rx
  cases ry
  obtain ⟨its, r, pl, _⟩ := I.list hH
  obtain ⟨its2, r2, pl2, _⟩ := I.list hB
  have hl := pl.isList
  have hb := pl2.isList
  obtain ⟨⟨cls, dd, data, sl⟩, ho, hc, n, hd⟩ := id hl
  obtain ⟨⟨cls2, dd2, data2, sl2⟩, ho2, hc2, n2, hd2⟩ := id hb
  simp only at hc hd hc2 hd2
  subst hc hd hc2 hd2
  have e : its.toArray ++ its2.toArray = (its ++ its2).toArray := by simp
  have hz2 : its.toArray.size + its2.toArray.size ≤ sizeLine := by rw [List.size_toArray, List.size_toArray, ← r.length, ← r2.length]; exact hz
  refine concat_meets ⟨_, ho, rfl⟩ ⟨_, ho2, rfl⟩ noFill_list_add seq_list_add PySem.F.slot_list_add PySem.F.entry_list_add (PySem.F.args_list_add_2 _ _) (list_addW l b its.toArray its2.toArray n n2 dd dd2 sl sl2 hz2) ⟨ho, ho2, ?_⟩
  rw [e]
  exact ⟨.ref _, _, I.lnew (t' := s.toks) (r.append r2) (by rw [List.length_append]; omega), rfl, q _ I.fresh⟩
def rAddA (K : PySem.W.Frag) : R2 := fun x y H Q => (rI0 (fun i j => .int (i + j))) x y H Q ∨ (∃ i j, x = .str i ∧ y = .str j ∧ i.length + j.length ≤ sizeLine ∧ Q (.str (i ++ j)) H) ∨ rCatA K x y H Q ∨ rCatL K x y H Q
theorem op_addA {X : Cx} : OpR X (binaryOp .Add) (rAddA X.K) := op_add.or (op_add_str.or (op_catA.or op_catL))
theorem snd_add {T : Tab} : SndB T (rAddA T.K) fAdd := by
  intro φ st H v w z x y Q R r1 r2 hf hq
  have lists : ∀ xs ys, lstOf st v = some xs → lstOf st w = some ys → (if xs.length + ys.length ≤ sizeLine then some (Val.lst (xs ++ ys)) else none) = some z → rAddA T.K x y H Q := by
    intro xs ys h1 h2 hf
    split at hf
    · rename_i hz
      cases hf
      obtain ⟨a, us, rfl, s1, q1⟩ := rel_lst R r1 h1
      obtain ⟨b, ws, rfl, s2, q2⟩ := rel_lst R r2 h2
      refine .inr (.inr (.inr ⟨a, b, us, ws, rfl, rfl, s1, s2, by rw [← q1.length, ← q2.length]; exact hz, fun p hp => ?_⟩))
      have e := Ext.fresh (ho := .lst (us ++ ws)) R hp
      exact hq _ _ e (R.fresh hp) (.lst (.inl ⟨R.nolive hp, .inl upd_same⟩) ((q1.append q2).ext e))
    · cases hf
  unfold fAdd at hf
  split at hf
  · cases hf; cases r1; cases r2
    exact .inl ⟨_, _, rfl, rfl, hq H _ Ext.refl R (.int _)⟩
  · split at hf
    · rename_i hz
      cases hf; cases r1; cases r2
      exact .inr (.inl ⟨_, _, rfl, rfl, hz, hq H _ Ext.refl R (.str _)⟩)
    · cases hf
  · split at hf
    · rename_i hz
      cases hf
      cases r1 with
      | tup a1 b1 =>
        cases r2 with
        | tup a2 b2 =>
          rename_i xs ys us a ws b
          refine .inr (.inr (.inl ⟨a, b, us, ws, rfl, rfl, SqT.of a1, SqT.of a2, by rw [← b1.length, ← b2.length]; exact hz, fun e => ?_, fun e1 e2 => ?_, fun e1 e2 p hp => ?_⟩))
          · subst e
            cases b1
            exact hq H _ Ext.refl R (.tup a2 b2)
          · subst e2
            cases b2
            rw [List.append_nil] at hq
            exact hq H _ Ext.refl R (.tup a1 b1)
          · have e := Ext.fresh (ho := .tup (us ++ ws)) R hp
            exact hq _ _ e (R.fresh hp) (.tup upd_same ((b1.append b2).ext e))
    · cases hf
  · split at hf
    · rename_i xs ys h1 h2
      exact lists xs ys h1 h2 hf
    · cases hf

theorem RelVs.rep {T : Tab} {φ : Phi} {H : Hp} {xs : List Val} {us : List V} (r : RelVs T φ H xs us) : ∀ n : Nat, RelVs T φ H (List.replicate n xs).flatten (List.replicate n us).flatten
  | 0 => .nil
  | n + 1 => by
    rw [List.replicate_succ, List.replicate_succ, List.flatten_cons, List.flatten_cons]
    exact r.append (RelVs.rep r n)

abbrev fLt := fI0 fun i j => .bl (decide (i < j))
abbrev fLe := fI0 fun i j => .bl (decide (i ≤ j))
abbrev fGt := fI0 fun i j => .bl (decide (j < i))
abbrev fGe := fI0 fun i j => .bl (decide (j ≤ i))
section
variable {T : Tab}
theorem snd_lt : SndB T (rI0 fun i j => .bl (decide (i < j))) fLt := snd_I0 fun _ _ i j => .bl _
theorem snd_le : SndB T (rI0 fun i j => .bl (decide (i ≤ j))) fLe := snd_I0 fun _ _ i j => .bl _
theorem snd_gt : SndB T (rI0 fun i j => .bl (decide (j < i))) fGt := snd_I0 fun _ _ i j => .bl _
theorem snd_ge : SndB T (rI0 fun i j => .bl (decide (j ≤ i))) fGe := snd_I0 fun _ _ i j => .bl _
end
/-- tuples of ints -/
def intsOf : List Val → Option (List Int)
  | [] => some []
  | .int i :: r => (intsOf r).map (i :: ·)
  | _ => none
theorem rel_ints {T : Tab} {φ : Phi} {H : Hp} : ∀ {xs : List Val} {us : List V} {ns : List Int}, RelVs T φ H xs us → intsOf xs = some ns → us = ns.map V.int
  | _, _, _, .nil, h => by cases h; rfl
  | _, _, _, .cons a b, h => by
    cases a with
    | int i =>
      simp only [intsOf, Option.map_eq_some_iff] at h
      obtain ⟨ms, e, rfl⟩ := h
      rw [rel_ints b e]; rfl
    | _ => cases h
def fLtT (st : Sto) (v w : Val) : Option Val := match v, w with
  | .int i, .int j => some (.bl (decide (i < j)))
  | .tup xs, .tup ys => match intsOf xs, intsOf ys with
    | some ns, some ms => some (.bl (HT.lexLt ns ms))
    | _, _ => none
  | _, _ => none
def rLtA (K : PySem.W.Frag) : R2 := fun x y H Q => (rI0 fun i j => .bl (decide (i < j))) x y H Q ∨ rLtT K x y H Q
theorem op_ltA {X : Cx} (hu : X.A.units < cLine) : OpR X (compareOp .Lt) (rLtA X.K) := op_lt.or (op_ltT hu)
theorem snd_ltT {T : Tab} : SndB T (rLtA T.K) fLtT := by
  intro φ st H v w z x y Q R r1 r2 hf hq
  unfold fLtT at hf
  split at hf
  · cases hf; cases r1; cases r2
    exact .inl ⟨_, _, rfl, rfl, hq H _ Ext.refl R (.bl _)⟩
  · split at hf
    · rename_i h1 h2
      cases hf
      cases r1 with
      | tup a1 b1 =>
        cases r2 with
        | tup a2 b2 =>
          have e1 := rel_ints b1 h1
          have e2 := rel_ints b2 h2
          subst e1 e2
          exact .inr ⟨_, _, _, _, rfl, rfl, SqT.of a1, SqT.of a2, hq H _ Ext.refl R (.bl _)⟩
    · cases hf
  · cases hf

def keyOf : Val → Option Key
  | .int i => some (.inl i)
  | .str s => some (.inr s)
  | _ => none
def keysOf : List Val → Option (List Key)
  | [] => some []
  | x :: xs => match keyOf x, keysOf xs with
    | some k, some ks => some (k :: ks)
    | _, _ => none
theorem rel_key {T : Tab} {φ : Phi} {H : Hp} {v : Val} {x : V} {k : Key} (r : RelV T φ H v x) (h : keyOf v = some k) : x = kV k := by
  cases r <;> cases h <;> rfl
theorem rel_keys {T : Tab} {φ : Phi} {H : Hp} : ∀ {vs : List Val} {xs : List V} {ks : List Key}, RelVs T φ H vs xs → keysOf vs = some ks → xs = ks.map kV
  | _, _, _, .nil, h => by cases h; rfl
  | _, _, _, .cons a b, h => by
    rw [keysOf] at h
    split at h
    · rename_i k ks e1 e2
      cases h
      rw [rel_key a e1, rel_keys b e2]; rfl
    · cases h
def look {κ α : Type} [DecidableEq κ] (kvs : List (κ × α)) (k : κ) : Option α := (kvs.find? fun kv => decide (kv.1 = k)).map (·.2)
def put {κ α : Type} [DecidableEq κ] (kvs : List (κ × α)) (k : κ) (v : α) : List (κ × α) :=
  if (kvs.any fun kv => decide (kv.1 = k)) = true then kvs.map (fun kv => if kv.1 = k then (kv.1, v) else kv) else kvs ++ [(k, v)]
section
variable {T : Tab} {φ : Phi} {H : Hp} {κ : Type} [DecidableEq κ]
theorem rel_any {kvs : List (κ × Val)} {us : List (κ × V)} (r : RelF T φ H kvs us) (k : κ) : (kvs.any fun kv => decide (kv.1 = k)) = us.any fun kv => decide (kv.1 = k) := by
  induction r with
  | nil => rfl
  | cons a _ ih => simp only [List.any_cons, a.1, ih]
theorem rel_look {kvs : List (κ × Val)} {us : List (κ × V)} (r : RelF T φ H kvs us) (k : κ) : (look kvs k = none ∧ valV us k = none) ∨ ∃ v x, look kvs k = some v ∧ valV us k = some x ∧ RelV T φ H v x := by
  induction r with
  | nil => exact .inl ⟨rfl, rfl⟩
  | cons a _ ih =>
    rename_i p q r s _
    unfold look valV at *
    simp only [List.find?_cons]
    by_cases e : p.1 = k
    · have e2 : q.1 = k := a.1 ▸ e
      simp only [e, e2, decide_true, Option.map_some]
      exact .inr ⟨_, _, rfl, rfl, a.2⟩
    · have e2 : ¬ q.1 = k := a.1 ▸ e
      simp only [e, e2, decide_false]
      exact ih
theorem rel_put {kvs : List (κ × Val)} {us : List (κ × V)} (r : RelF T φ H kvs us) (k : κ) {v : Val} {x : V} (rv : RelV T φ H v x) : RelF T φ H (put kvs k v) (putK us k x) := by
  unfold put putK
  rw [rel_any r k]
  split
  · rename_i hh; clear hh
    induction r with
    | nil => exact .nil
    | cons a _ ih =>
      rename_i p q _ _ _
      refine .cons ?_ ih
      have hq : q.1 = p.1 := a.1.symm
      by_cases e : p.1 = k
      · have e2 : q.1 = k := hq.trans e
        simp only [e, e2, if_true]
        exact ⟨trivial, rv⟩
      · have e2 : ¬ q.1 = k := fun z => e (hq.symm.trans z)
        simp only [e, e2, if_false]
        exact a
  · exact Paired.snoc r ⟨rfl, rv⟩
theorem rel_zip : ∀ {ks : List κ} {vs : List Val} {us : List V}, ks.length = us.length → RelVs T φ H vs us → RelF T φ H (ks.zip vs) (ks.zip us)
  | _, _, _, _, .nil => by simp; exact .nil
  | [], _, _, _, .cons _ _ => .nil
  | k :: ks, _, _, h, .cons a b => .cons ⟨rfl, a⟩ (rel_zip (by simpa using h) b)
end
/-- what the dict v holds at the key w -/
def dGet (st : Sto) (v w : Val) : Option (Option Val) := match v with
  | .loc n => match st[n]? with
    | some (.dK kvs) => (keyOf w).map (look kvs)
    | some (.lkK kvs) => (keyOf w).map (look kvs)
    | some (.dT kvs) => (tupOf w).bind fun xs => (keysOf xs).map (look kvs)
    | some (.lkT kvs) => (tupOf w).bind fun xs => (keysOf xs).map (look kvs)
    | _ => none
  | .dct ks vs => (keyOf w).map (look (ks.zip vs))
  | _ => none
theorem rel_dget {T : Tab} {φ : Phi} {st : Sto} {H : Hp} (R : Rst T φ st H) {v w : Val} {x y : V} {o : Option Val} (r1 : RelV T φ H v x) (r2 : RelV T φ H w y) (h : dGet st v w = some o) :
    ∃ a r, x = .ref a ∧ DGet H a y r ∧ ((o = none ∧ r = none) ∨ ∃ z u, o = some z ∧ r = some u ∧ RelV T φ H z u) := by
  have one : ∀ {kvs us a}, Rd H a (.dK us) → RelF T φ H kvs us → x = .ref a → (keyOf w).map (look kvs) = some o → ∃ a r, x = .ref a ∧ DGet H a y r ∧ ((o = none ∧ r = none) ∨ ∃ z u, o = some z ∧ r = some u ∧ RelV T φ H z u) := by
    intro kvs us a h1 h2 hx h
    simp only [Option.map_eq_some_iff] at h
    obtain ⟨k, e, rfl⟩ := h
    exact ⟨a, valV us k, hx, .inl ⟨us, k, h1, rel_key r2 e, rfl⟩, rel_look h2 k⟩
  have two : ∀ {kvs us a}, Rd H a (.dT us) → RelF T φ H kvs us → x = .ref a → ((tupOf w).bind fun xs => (keysOf xs).map (look kvs)) = some o → ∃ a r, x = .ref a ∧ DGet H a y r ∧ ((o = none ∧ r = none) ∨ ∃ z u, o = some z ∧ r = some u ∧ RelV T φ H z u) := by
    intro kvs us a h1 h2 hx h
    simp only [Option.bind_eq_some_iff, Option.map_eq_some_iff] at h
    obtain ⟨xs, e, k, ek, rfl⟩ := h
    obtain ⟨b, ws, hy, hb, rv⟩ := rel_tup r2 e
    exact ⟨a, valV us k, hx, .inr ⟨us, k, b, h1, hy, by rw [hb, rel_keys rv ek], rfl⟩, rel_look h2 k⟩
  cases r1 with
  | loc hn hu =>
    unfold dGet at h
    dsimp only at h
    split at h
    · rename_i kvs q
      obtain ⟨a, e1, us, e2, e3⟩ := R.at q (by simp)
      exact one (.inl e2) e3 (hu a e1) h
    · rename_i kvs q
      obtain ⟨a, e1, o, us, e2, e3⟩ := R.at q (by simp)
      exact one (.inr ⟨o, e2⟩) e3 (hu a e1) h
    · rename_i kvs q
      obtain ⟨a, e1, us, e2, e3⟩ := R.at q (by simp)
      exact two (.inl e2) e3 (hu a e1) h
    · rename_i kvs q
      obtain ⟨a, e1, o, us, e2, e3⟩ := R.at q (by simp)
      exact two (.inr ⟨o, e2⟩) e3 (hu a e1) h
    · cases h
  | dct h1 h2 h3 h4 => exact one h2 (rel_zip h3 h4) rfl h
  | _ => cases h

def rIxD : R2 := fun x y H Q => ∃ a v, x = .ref a ∧ DGet H a y (some v) ∧ Q v H
theorem ix_dict {X : Cx} (hu : X.A.units + 1 < cLine) : IxR X rIxD := by
  intro value slice pins s σ H x y v u Q I rx ry h hs
  obtain ⟨a, z, rfl, g, q⟩ := h
  obtain rfl : v = Value.ref a := rx
  have hT := dict_typeIs I g
  unfold subscriptTail
  refine wpAny_bind ?_
  rw [getitemInPython_of_ne hT.not_modules]
  refine wpAny_bind (wpAny_specialOf hT PySem.F.slot_dict_getitem.lookup ?_)
  have fin : wpAny (model X.prog X.w) X.A (subscripted slice false (.ref a) u) (fun r s₃ => wpAny (model X.prog X.w) X.A (letTemporaryGo value (.ref a) r >>= fun _ => pure r) (EP X pins σ Q) X.xe s₃) X.xe s := by
    rw [hs]
    exact wpAny_operating (d_getItem hu I g ry fun w' s3 I3 rw' => wpAny_bind (wpAny_letTemporaryGo (wpAny_pure ⟨z, H, I3, rw', q⟩)))
  first
    | exact wpAny_pure (wpAny_bind fin)
    | exact wpAny_bind (wpAny_pure (wpAny_bind fin))
    | exact wpAny_bind fin
def rIxA (K : PySem.W.Frag) : R2 := fun x y H Q => rIx K x y H Q ∨ rIxD x y H Q
theorem ix_any {X : Cx} (hu : X.A.units + 1 < cLine) : IxR X (rIxA X.K) := ix_seq.or (ix_dict hu)
def fIx (st : Sto) (v w : Val) : Option Val := match seqOf st v with
  | some xs => match w with
    | .int i => atI xs i
    | _ => none
  | none => match v, w with
    | .str z, .int i => if z.length ≤ sizeLine then (atI z.cps.toList i).map fun c => .str ⟨#[c]⟩ else none
    | v, w => (dGet st v w).bind id
theorem RelVs.atI {T : Tab} {φ : Phi} {H : Hp} {xs : List Val} {us : List V} (r : RelVs T φ H xs us) {i : Int} {z : Val} (h : L2.atI xs i = some z) : ∃ u, L2.atI us i = some u ∧ RelV T φ H z u := by
  unfold L2.atI at *
  rw [← r.length]
  simp only [Option.bind_eq_some_iff] at h ⊢
  obtain ⟨j, e, h⟩ := h
  obtain ⟨u, e2, ru⟩ := r.get h
  exact ⟨u, ⟨j, e, e2⟩, ru⟩
theorem snd_ix {T : Tab} : SndB T (rIxA T.K) fIx := by
  intro φ st H v w z x y Q R r1 r2 hf hq
  unfold fIx at hf
  split at hf
  · rename_i xs hx
    split at hf
    · obtain ⟨a, us, rfl, hs, rv⟩ := rel_seq R r1 hx
      obtain ⟨u, e, ru⟩ := rv.atI hf
      cases r2
      rcases hs with hs | hs
      · exact .inl (.inl ⟨a, us, _, u, rfl, rfl, hs, e, hq H u Ext.refl R ru⟩)
      · exact .inl (.inr (.inl ⟨a, us, _, u, rfl, rfl, hs, e, hq H u Ext.refl R ru⟩))
    · cases hf
  · split at hf
    · split at hf
      · rename_i hz
        simp only [Option.map_eq_some_iff] at hf
        obtain ⟨c, e, rfl⟩ := hf
        cases r1; cases r2
        exact .inl (.inr (.inr ⟨_, _, c, rfl, rfl, hz, e, hq H _ Ext.refl R (.str _)⟩))
      · cases hf
    · simp only [Option.bind_eq_some_iff, id] at hf
      obtain ⟨o, e, rfl⟩ := hf
      obtain ⟨a, r, hx, hg, h⟩ := rel_dget R r1 r2 e
      rcases h with ⟨h, _⟩ | ⟨z', u, h1, h2, ru⟩
      · cases h
      · cases h1
        subst h2
        exact .inr ⟨a, u, hx, hg, hq H u Ext.refl R ru⟩
theorem e_ix {X : Cx} {W : WX} {T : Tab} {a b : Expr} {pos : Pos} {ea eb : E} (hK : T.K = X.K) (hu : X.A.units + 1 < cLine) (ha : PE X a (tE T W ea)) (hb : PE X b (tE T W eb)) (hs : PlainIx b := by intro _ _; rfl) : PE X (.Subscript a b pos) (tE T W (eB fIx ea eb)) :=
  pe_imp (pe_ix (ix_any hu) ha hb hs) fun _ _ _ h => by rw [← hK]; exact bin_sound snd_ix h

def rInDt (neg : Bool) : R2 := fun y x H Q => ∃ a o, x = .ref a ∧ DGet H a y o ∧ Q (.bl (if neg then !o.isSome else o.isSome)) H
theorem op_inDt {X : Cx} (hu : X.A.units + 1 < cLine) : OpR X (compareOp .In) (rInDt false) := by
  intro pins s σ H x y v u Q I rx ry h
  obtain ⟨a, o, rfl, g, q⟩ := h
  obtain rfl : u = Value.ref a := ry
  exact d_in hu I g rx fun s3 I3 => ⟨.bl o.isSome, H, I3, rfl, q⟩
theorem op_notInDt {X : Cx} (hu : X.A.units + 1 < cLine) : OpR X (compareOp .NotIn) (rInDt true) := by
  intro pins s σ H x y v u Q I rx ry h
  obtain ⟨a, o, rfl, g, q⟩ := h
  obtain rfl : u = Value.ref a := ry
  exact d_notIn hu I g rx fun s3 I3 => ⟨.bl (!o.isSome), H, I3, rfl, q⟩
def rInA (K : PySem.W.Frag) : R2 := fun x y H Q => rInD K x y H Q ∨ rIn K false x y H Q ∨ rInDt false x y H Q ∨ (∃ i j, x = .str i ∧ y = .str j ∧ Q (.bl (!(Builtin.Str.occurrences j i 0 j.length 1).isEmpty)) H)
def rNotInA (K : PySem.W.Frag) : R2 := fun x y H Q => rNotInD K x y H Q ∨ rIn K true x y H Q ∨ rInDt true x y H Q ∨ (∃ i j, x = .str i ∧ y = .str j ∧ Q (.bl (!(!(Builtin.Str.occurrences j i 0 j.length 1).isEmpty))) H)
theorem op_inA {X : Cx} (hu : X.A.units + 65 < cLine) : OpR X (compareOp .In) (rInA X.K) := (op_inD hu).or (op_in_seq.or ((op_inDt (by omega)).or op_in_str))
theorem op_notInA {X : Cx} (hu : X.A.units + 65 < cLine) : OpR X (compareOp .NotIn) (rNotInA X.K) := (op_notInD hu).or (op_notIn_seq.or ((op_notInDt (by omega)).or op_notin_str))
/-- a flat value -/
def flV : Val → Option V
  | .non => some .non
  | .bl b => some (.bl b)
  | .int i => some (.int i)
  | .str s => some (.str s)
  | _ => none
def flVs : List Val → Option (List V)
  | [] => some []
  | x :: xs => match flV x, flVs xs with
    | some k, some ks => some (k :: ks)
    | _, _ => none
theorem rel_fl {T : Tab} {φ : Phi} {H : Hp} {v : Val} {x u : V} (r : RelV T φ H v x) (h : flV v = some u) : x = u ∧ flatV x = true := by
  cases r <;> cases h <;> exact ⟨rfl, rfl⟩
theorem rel_fls {T : Tab} {φ : Phi} {H : Hp} : ∀ {vs : List Val} {xs us : List V}, RelVs T φ H vs xs → flVs vs = some us → xs = us ∧ xs.all flatV = true
  | _, _, _, .nil, h => by cases h; exact ⟨rfl, rfl⟩
  | _, _, _, .cons a b, h => by
    rw [flVs] at h
    split at h
    · rename_i k ks e1 e2
      cases h
      obtain ⟨h1, h2⟩ := rel_fl a e1
      obtain ⟨h3, h4⟩ := rel_fls b e2
      rw [h1, h3]
      exact ⟨rfl, by rw [List.all_cons, ← h1, ← h3, h2, h4]; rfl⟩
    · cases h
/-- whether v is in w -/
def isIn (st : Sto) (v w : Val) : Option Bool := match w with
  | .str j => match v with
    | .str i => some (!(Builtin.Str.occurrences j i 0 j.length 1).isEmpty)
    | _ => none
  | .tup ys => match flV v, flVs ys with
    | some x, some us => some (inV x us)
    | _, _ => none
  | w => match lstOf st w with
    | some ys => match toD (dr st v), toDs ys with
      | some d, some ds => if SeqAt.shaped d && SeqAt.shaped (.list ds) then some (ds.any fun z => PyData.eqv z d) else none
      | _, _ => none
    | none => (dGet st w v).map Option.isSome
def fIn (st : Sto) (v w : Val) : Option Val := (isIn st v w).map .bl
def fNotIn (st : Sto) (v w : Val) : Option Val := (isIn st v w).map fun b => .bl (!b)
theorem snd_isIn {T : Tab} {φ : Phi} {st : Sto} {H : Hp} {v w : Val} {x y : V} {b : Bool} (R : Rst T φ st H) (r1 : RelV T φ H v x) (r2 : RelV T φ H w y) (hf : isIn st v w = some b) :
    (∃ d ds, Dp T.K H x d ∧ Dp T.K H y (.list ds) ∧ SeqAt.shaped d = true ∧ SeqAt.shaped (.list ds) = true ∧ b = ds.any fun z => PyData.eqv z d) ∨
    (∃ p xs, y = .ref p ∧ (SqL T.K H p xs ∨ SqT T.K H p xs) ∧ flatV x = true ∧ xs.all flatV = true ∧ b = inV x xs) ∨ (∃ a o, y = .ref a ∧ DGet H a x o ∧ b = o.isSome) ∨
    ∃ i j, x = .str i ∧ y = .str j ∧ b = !(Builtin.Str.occurrences j i 0 j.length 1).isEmpty := by
  unfold isIn at hf
  split at hf
  · split at hf
    · cases hf; cases r1; cases r2
      exact .inr (.inr (.inr ⟨_, _, rfl, rfl, rfl⟩))
    · cases hf
  · split at hf
    · rename_i h1 h2
      cases hf
      cases r2 with
      | tup a2 b2 =>
        obtain ⟨e1, e2⟩ := rel_fl r1 h1
        obtain ⟨e3, e4⟩ := rel_fls b2 h2
        subst e1 e3
        exact .inr (.inl ⟨_, _, rfl, .inr (SqT.of a2), e2, e4, rfl⟩)
    · cases hf
  · split at hf
    · rename_i ys hy
      split at hf
      · rename_i d ds h1 h2
        split at hf
        · rename_i hs
          cases hf
          rw [Bool.and_eq_true] at hs
          obtain ⟨a, us, rfl, q1, q2⟩ := rel_lst R r2 hy
          exact .inl ⟨d, ds, rel_dr R r1 h1, .lst q1 (rel_dps q2 h2), hs.1, hs.2, rfl⟩
        · cases hf
      · cases hf
    · simp only [Option.map_eq_some_iff] at hf
      obtain ⟨o, e, rfl⟩ := hf
      obtain ⟨a, r, hx, hg, h⟩ := rel_dget R r2 r1 e
      refine .inr (.inr (.inl ⟨a, r, hx, hg, ?_⟩))
      rcases h with ⟨rfl, rfl⟩ | ⟨z', u, rfl, rfl, ru⟩ <;> rfl
theorem snd_in {T : Tab} : SndB T (rInA T.K) fIn := by
  intro φ st H v w z x y Q R r1 r2 hf hq
  unfold fIn at hf
  simp only [Option.map_eq_some_iff] at hf
  obtain ⟨b, e, rfl⟩ := hf
  have q := hq H (.bl b) Ext.refl R (.bl b)
  rcases snd_isIn R r1 r2 e with ⟨d, ds, h1, h2, h3, h4, rfl⟩ | ⟨p, xs, h1, h2, h3, h4, rfl⟩ | ⟨a, o, h1, h2, rfl⟩ | ⟨i, j, h1, h2, rfl⟩
  · exact .inl ⟨d, ds, h1, h2, h3, h4, q⟩
  · exact .inr (.inl ⟨p, xs, h1, h2, h3, h4, q⟩)
  · exact .inr (.inr (.inl ⟨a, o, h1, h2, q⟩))
  · exact .inr (.inr (.inr ⟨i, j, h1, h2, q⟩))
theorem snd_notIn {T : Tab} : SndB T (rNotInA T.K) fNotIn := by
  intro φ st H v w z x y Q R r1 r2 hf hq
  unfold fNotIn at hf
  simp only [Option.map_eq_some_iff] at hf
  obtain ⟨b, e, rfl⟩ := hf
  have q := hq H (.bl (!b)) Ext.refl R (.bl (!b))
  rcases snd_isIn R r1 r2 e with ⟨d, ds, h1, h2, h3, h4, rfl⟩ | ⟨p, xs, h1, h2, h3, h4, rfl⟩ | ⟨a, o, h1, h2, rfl⟩ | ⟨i, j, h1, h2, rfl⟩
  · exact .inl ⟨d, ds, h1, h2, h3, h4, q⟩
  · exact .inr (.inl ⟨p, xs, h1, h2, h3, h4, q⟩)
  · exact .inr (.inr (.inl ⟨a, o, h1, h2, q⟩))
  · exact .inr (.inr (.inr ⟨i, j, h1, h2, q⟩))

def fIs (_ : Sto) (v w : Val) : Option Val := match v, w with
  | .non, .non => some (.bl true)
  | .loc _, .non => none
  | _, .non => some (.bl false)
  | .bl a, .bl b => some (.bl (decide (a = b)))
  | _, _ => none
def fIsNot (_ : Sto) (v w : Val) : Option Val := match v, w with
  | .non, .non => some (.bl false)
  | .loc _, .non => none
  | _, .non => some (.bl true)
  | .bl a, .bl b => some (.bl (!decide (a = b)))
  | _, _ => none
def rIsA : R2 := fun x y H Q => (y = .non ∧ Q (.bl (decide (x = .non))) H) ∨ (∃ a b, x = .bl a ∧ y = .bl b ∧ Q (.bl (decide (a = b))) H)
def rIsNotA : R2 := fun x y H Q => (y = .non ∧ Q (.bl (!decide (x = .non))) H) ∨ (∃ a b, x = .bl a ∧ y = .bl b ∧ Q (.bl (!decide (a = b))) H)
theorem op_isA {X : Cx} : OpR X (compareOp .Is) rIsA := op_isN.or L2.op_is_bl
theorem op_isNotA {X : Cx} : OpR X (compareOp .IsNot) rIsNotA := op_notN.or L2.op_isnot_bl
end Ev

set_option Elab.async false
set_option linter.all false
set_option maxRecDepth 100000
set_option maxHeartbeats 2000000
namespace Ev
open PySem PySem.Spec PyProof.Rows L2

inductive SR where
  | nx (ρ : Env) (st : Sto)
  | rt (v : Val) (st : Sto)
  | bk (ρ : Env) (st : Sto)
  | ct (ρ : Env) (st : Sto)
  | ex (x : Val) (ρ : Env) (st : Sto)
  | bad
abbrev S := Env → Sto → SR
abbrev G := Val → Env → Sto → Option (Env × Sto)
abbrev GS := List Val → Env → Sto → Option (Env × Sto)

def PostS (T : Tab) (W : WX) (φ : Phi) (H : Hp) (D : Ends) : SR → Prop
  | .nx ρ st => ∀ φ' H' σ', Ext φ H φ' H' → RelE T φ' ρ st σ' H' → D.nx σ' H'
  | .bk ρ st => ∀ φ' H' σ', Ext φ H φ' H' → RelE T φ' ρ st σ' H' → D.bk σ' H'
  | .ct ρ st => ∀ φ' H' σ', Ext φ H φ' H' → RelE T φ' ρ st σ' H' → D.ct σ' H'
  | .rt v st => ∀ φ' H' u, Ext φ H φ' H' → Rst T φ' st H' → RelV T φ' H' v u → D.rt u H'
  | .ex x ρ st => ∀ φ' H' σ' c d, Ext φ H φ' H' → RelE T φ' ρ st σ' H' → RelX T φ' H' x c d → W c d σ' H'
  | .bad => False
def tS (T : Tab) (W : WX) (s : S) : TS := fun D σ H => ∃ φ ρ st, RelE T φ ρ st σ H ∧ PostS T W φ H D (s ρ st)
def PostGt (T : Tab) (φ : Phi) (H : Hp) (Q : L2.St → Hp → Prop) : Option (Env × Sto) → Prop
  | some (ρ, st) => ∀ φ' H' σ', Ext φ H φ' H' → RelE T φ' ρ st σ' H' → Q σ' H'
  | none => False
def tGt (T : Tab) (g : G) : TG := fun v σ H Q => ∃ φ ρ st w, RelE T φ ρ st σ H ∧ RelV T φ H w v ∧ PostGt T φ H Q (g w ρ st)
def tGs (T : Tab) (g : GS) : TGs := fun vs σ H Q => ∃ φ ρ st ws, RelE T φ ρ st σ H ∧ RelVs T φ H ws vs ∧ PostGt T φ H Q (g ws ρ st)

section
variable {T : Tab} {φ φ' : Phi} {ρ : Env} {st st' : Sto} {σ : L2.St} {H H' : Hp} {W : WX}
theorem PostS.later {D : Ends} {r : SR} (p : PostS T W φ H D r) (e : Ext φ H φ' H') : PostS T W φ' H' D r := by
  cases r with
  | nx ρ st => exact fun φ2 H2 σ2 e2 re => p φ2 H2 σ2 (e.trans e2) re
  | bk ρ st => exact fun φ2 H2 σ2 e2 re => p φ2 H2 σ2 (e.trans e2) re
  | ct ρ st => exact fun φ2 H2 σ2 e2 re => p φ2 H2 σ2 (e.trans e2) re
  | rt v st => exact fun φ2 H2 u e2 s q => p φ2 H2 u (e.trans e2) s q
  | ex x ρ st => exact fun φ2 H2 σ2 c d e2 re q => p φ2 H2 σ2 c d (e.trans e2) re q
  | bad => exact p
theorem PostGt.later {Q : L2.St → Hp → Prop} {r : Option (Env × Sto)} (p : PostGt T φ H Q r) (e : Ext φ H φ' H') : PostGt T φ' H' Q r := by
  cases r with
  | none => exact p
  | some r => exact fun φ2 H2 σ2 e2 re => p φ2 H2 σ2 (e.trans e2) re
theorem RelE.set (r : RelE T φ ρ st σ H) {v : Val} {u : V} (q : RelV T φ H v u) (i : Nat) : RelE T φ (ρ.set i (some v)) st (σ.set i (some u)) H where
  rst := r.rst
  len := by simp [r.len]
  get := fun j w h => by
    by_cases e : i = j
    · subst e
      by_cases hl : i < ρ.length
      · rw [List.getElem?_set_self hl] at h
        cases h
        exact ⟨u, List.getElem?_set_self (by rw [← r.len]; exact hl), q⟩
      · rw [List.getElem?_eq_none (by simpa using hl)] at h; cases h
    · rw [List.getElem?_set_ne e] at h
      obtain ⟨x, h1, h2⟩ := r.get j w h
      exact ⟨x, by rw [List.getElem?_set_ne e]; exact h1, h2⟩
end

section
variable {X : Cx} {T : Tab} {W : WX}
theorem ps_imp {s : Stmt} {t t' : TS} (h : PS X s t) (k : ∀ D σ H, t' D σ H → t D σ H) : PS X s t' := ⟨fun pins s σ H D I q => h.run pins s σ H D I (k _ _ _ q)⟩
theorem pss_imp {s : List Stmt} {t t' : TS} (h : PSs X s t) (k : ∀ D σ H, t' D σ H → t D σ H) : PSs X s t' := ⟨fun pins s σ H D I q => h.run pins s σ H D I (k _ _ _ q)⟩
theorem pg_imp {s : Expr} {t t' : TG} (h : PG X s t) (k : ∀ v σ H Q, t' v σ H Q → t v σ H Q) : PG X s t' := ⟨fun pins s σ H v u Q I r q => h.run pins s σ H v u Q I r (k _ _ _ _ q)⟩
theorem pgs_imp {s : List Expr} {t t' : TGs} (h : PGs X s t) (k : ∀ v σ H Q, t' v σ H Q → t v σ H Q) : PGs X s t' := ⟨fun pins s σ H v u Q I r q => h.run pins s σ H v u Q I r (k _ _ _ _ q)⟩

def gN (i : Nat) : G := fun v ρ st => some (ρ.set i (some v), st)
theorem g_name {i : Nat} {x : Str} {pos : Pos} (hN : X.N.Nodup) (hi : X.N[i]? = some x := by rfl) (hx : Loc X.env.scope x := by first | exact Or.inl rfl | exact Or.inr rfl) (hf : X.fn x = true ∨ X.env.scope.names.lookup x = some .local := by first | exact .inl rfl | exact .inr rfl | assumption) :
    PG X (.Name x pos) (tGt T (gN i)) := by
  refine pg_imp (pg_name (i := i) hN hi hx hf) fun v σ H Q h => ?_
  obtain ⟨φ, ρ, st, w, re, r, p⟩ := h
  exact p φ H _ Ext.refl (re.set r i)
def gNil' : GS := fun vs ρ st => match vs with
  | [] => some (ρ, st)
  | _ => none
def gCons' (g : G) (gs : GS) : GS := fun vs ρ st => match vs with
  | v :: r => match g v ρ st with
    | some (ρ1, st1) => gs r ρ1 st1
    | none => none
  | [] => none
theorem gs_nil : PGs X [] (tGs T gNil') := by
  refine pgs_imp pgs_nil fun v σ H Q h => ?_
  obtain ⟨φ, ρ, st, ws, re, r, p⟩ := h
  cases r with
  | nil => exact ⟨rfl, p φ H σ Ext.refl re⟩
  | cons a b => exact p.elim
theorem gs_cons {e : Expr} {es : List Expr} {g : G} {gs : GS} (h1 : PG X e (tGt T g)) (h2 : PGs X es (tGs T gs))
    (hs : (assignEach (e :: es) X.env).map (·.2) = assign e X.env :: (assignEach es X.env).map (·.2) := by rfl) : PGs X (e :: es) (tGs T (gCons' g gs)) := by
  refine pgs_imp (pgs_cons h1 h2 hs) fun v σ H Q h => ?_
  obtain ⟨φ, ρ, st, ws, re, r, p⟩ := h
  cases r with
  | nil => exact p.elim
  | cons a b =>
    rename_i w u ws us
    refine ⟨u, us, rfl, φ, ρ, st, w, re, a, ?_⟩
    unfold gCons' at p
    dsimp only at p
    cases hg : g w ρ st with
    | none => rw [hg] at p; exact p.elim
    | some q =>
      obtain ⟨ρ1, st1⟩ := q
      rw [hg] at p
      exact fun φ1 H1 σ1 e1 re1 => ⟨φ1, ρ1, st1, ws, re1, b.ext e1, PostGt.later p e1⟩
def gT (n : Nat) (gs : GS) : G := fun v ρ st => match v with
  | .tup xs => if xs.length = n then gs xs ρ st else none
  | _ => none
theorem g_tup {es : List Expr} {k : Nat} {pos : Pos} {gs : GS} {n : Nat} (hK : T.K = X.K) (hc : X.calm = true) (h : PGs X es (tGs T gs))
    (hn : (assignEach es X.env).length = n := by rfl) (hst : (assignEach es X.env).findIdx? (·.1) = none := by rfl) : PG X (.Tuple es k pos) (tGt T (gT n gs)) := by
  refine pg_imp (pg_tup hc h hn hst) fun v σ H Q h => ?_
  obtain ⟨φ, ρ, st, w, re, r, p⟩ := h
  unfold gT at p
  cases r with
  | tup a b =>
    dsimp only at p
    split at p
    · rename_i hl
      exact ⟨_, _, rfl, SqT.of a, by rw [← b.length]; exact hl, φ, ρ, st, _, re, b, p⟩
    · exact p.elim
  | _ => exact p.elim

/-- the store behind v[w] = z -/
def fSet (st : Sto) (v w z : Val) : Option Sto := match v with
  | .loc n => match st[n]? with
    | some (.lst xs) => match w with
      | .int k => (ixN xs.length k).map fun j => st.set n (.lst (xs.set j z))
      | _ => none
    | some (.dK kvs) => if kvs.length < sizeLine then (keyOf w).map fun k => st.set n (.dK (put kvs k z)) else none
    | some (.dT kvs) => if kvs.length < sizeLine then (tupOf w).bind fun xs => (keysOf xs).map fun k => st.set n (.dT (put kvs k z)) else none
    | _ => none
  | _ => none
def rSetA : TSet := fun o i v H Q => rSetL o i v H Q ∨ ∃ a H4, o = .ref a ∧ DPut H a i v H4 ∧ Q H4
theorem set_any (hu : X.A.units + 1 < cLine) : PSet X rSetA := by
  intro pins s σ H o i v ov iv u Q I ro ri rv h
  rcases h with h | ⟨a, H4, rfl, g, q⟩
  · exact set_list pins s σ H o i v ov iv u Q I ro ri rv h
  · obtain rfl : ov = Value.ref a := ro
    exact d_setItem hu I g ri rv fun s4 I4 => ⟨H4, I4, q⟩
theorem Paired.length_eq {α β : Type} {F : α → β → Prop} {l₁ : List α} {l₂ : List β} (h : Paired F l₁ l₂) : l₁.length = l₂.length := Paired.length h
theorem snd_set {φ : Phi} {st st' : Sto} {H : Hp} {v w z : Val} {x y u : V} {Q : Hp → Prop} (R : Rst T φ st H) (r1 : RelV T φ H v x) (r2 : RelV T φ H w y) (r3 : RelV T φ H z u) (hf : fSet st v w z = some st')
    (hq : ∀ H', Ext φ H φ H' → Rst T φ st' H' → Q H') : rSetA x y u H Q := by
  unfold fSet at hf
  split at hf
  · rename_i n
    cases r1 with
    | loc hn hu =>
      split at hf
      · rename_i xs e
        split at hf
        · rename_i k
          cases r2
          simp only [Option.map_eq_some_iff] at hf
          obtain ⟨j, ej, rfl⟩ := hf
          obtain ⟨a, e1, us, e2, e3⟩ := R.at e (by simp)
          have ext := Ext.write (ho := .lst (us.set j u)) R e1
          exact .inl ⟨a, us, k, j, hu a e1, rfl, e2, by rw [← e3.length]; exact ej, hq _ ext (R.write e1 ⟨_, upd_same, (e3.set r3 j).ext ext⟩)⟩
        · cases hf
      · rename_i kvs e
        split at hf
        · rename_i hz
          simp only [Option.map_eq_some_iff] at hf
          obtain ⟨k, ek, rfl⟩ := hf
          obtain ⟨a, e1, us, e2, e3⟩ := R.at e (by simp)
          have ext := Ext.write (ho := .dK (putK us k u)) R e1
          exact .inr ⟨a, _, hu a e1, .inl ⟨us, k, e2, rel_key r2 ek, by rw [← Paired.length_eq e3]; exact hz, rfl⟩, hq _ ext (R.write e1 ⟨_, upd_same, (rel_put e3 k r3).ext ext⟩)⟩
        · cases hf
      · rename_i kvs e
        split at hf
        · rename_i hz
          simp only [Option.bind_eq_some_iff, Option.map_eq_some_iff] at hf
          obtain ⟨xs, ex, k, ek, rfl⟩ := hf
          obtain ⟨a, e1, us, e2, e3⟩ := R.at e (by simp)
          obtain ⟨b, ws, hy, hb, rv⟩ := rel_tup r2 ex
          have ext := Ext.write (ho := .dT (putK us k u)) R e1
          exact .inr ⟨a, _, hu a e1, .inr ⟨us, k, b, e2, hy, by rw [hb, rel_keys rv ek], by rw [← Paired.length_eq e3]; exact hz, rfl⟩, hq _ ext (R.write e1 ⟨_, upd_same, (rel_put e3 k r3).ext ext⟩)⟩
        · cases hf
      · cases hf
  · cases hf
def gIx (o i : E) : G := fun v ρ st => match o ρ st with
  | .ok w st1 => match i ρ st1 with
    | .ok k st2 => (fSet st2 w k v).map fun st3 => (ρ, st3)
    | _ => none
  | _ => none
theorem g_sub {o i : Expr} {pos : Pos} {eo ei : E} (hu : X.A.units + 1 < cLine) (ho : PE X o (tE T W eo)) (hi : PE X i (tE T W ei))
    (ha : ∀ v, assign (.Subscript o i pos) X.env v = (do
      let ov ← holding [v] (eval o X.env)
      let iv ← holding [v, ov] (eval i X.env)
      standAt pos
      holding [v, ov, iv] (setItem ov iv v)
      release [v, ov, iv] []) := by intro _; rfl) : PG X (.Subscript o i pos) (tGt T (gIx eo ei)) := by
  refine pg_imp (pg_sub ho hi (set_any hu) ha) fun v σ H Q h => ?_
  obtain ⟨φ, ρ, st, w, re, r, p⟩ := h
  refine ⟨φ, ρ, st, re, ?_⟩
  unfold gIx at p
  cases h1 : eo ρ st with
  | ex x st1 => rw [h1] at p; exact p.elim
  | bad => rw [h1] at p; exact p.elim
  | ok z st1 =>
    rw [h1] at p
    dsimp only at p
    intro φ1 H1 a e1 s1 q1
    refine ⟨φ1, ρ, st1, re.ext e1 s1, ?_⟩
    cases h2 : ei ρ st1 with
    | ex x st2 => rw [h2] at p; exact p.elim
    | bad => rw [h2] at p; exact p.elim
    | ok k st2 =>
      rw [h2] at p
      dsimp only at p
      intro φ2 H2 b e2 s2 q2
      cases h3 : fSet st2 z k w with
      | none => rw [h3] at p; exact p.elim
      | some st3 =>
        rw [h3] at p
        refine snd_set s2 (q1.ext e2) q2 (r.ext (e1.trans e2)) h3 fun H3 e3 s3 => ?_
        exact p φ2 H3 σ ((e1.trans e2).trans e3) (re.ext ((e1.trans e2).trans e3) s3)

def sSkip : S := fun ρ st => .nx ρ st
def sSeq (a b : S) : S := fun ρ st => match a ρ st with
  | .nx ρ1 st1 => b ρ1 st1
  | r => r
theorem ss_nil : PSs X [] (tS T W sSkip) := by
  refine pss_imp pss_nil fun D σ H h => ?_
  obtain ⟨φ, ρ, st, re, p⟩ := h
  exact p φ H σ Ext.refl re
theorem seq_sound {a b : S} {u : TS} {D : Ends} {σ : L2.St} {H : Hp} (h : tS T W (sSeq a b) D σ H) (k : ∀ σ' H', tS T W b D σ' H' → u D σ' H') : tS T W a { D with nx := u D } σ H := by
  obtain ⟨φ, ρ, st, re, p⟩ := h
  refine ⟨φ, ρ, st, re, ?_⟩
  unfold sSeq at p
  cases ha : a ρ st with
  | nx ρ1 st1 =>
    rw [ha] at p
    exact fun φ1 H1 σ1 e1 re1 => k σ1 H1 ⟨φ1, ρ1, st1, re1, PostS.later p e1⟩
  | rt v st1 => rw [ha] at p; exact p
  | bk ρ1 st1 => rw [ha] at p; exact p
  | ct ρ1 st1 => rw [ha] at p; exact p
  | ex x ρ1 st1 => rw [ha] at p; exact p
  | bad => rw [ha] at p; exact p
theorem ss_cons {s : Stmt} {rest : List Stmt} {a b : S} (h1 : PS X s (tS T W a)) (h2 : PSs X rest (tS T W b)) : PSs X (s :: rest) (tS T W (sSeq a b)) :=
  pss_imp (pss_cons h1 h2) fun D σ H h => seq_sound h fun _ _ q => q
theorem ss_one {s : Stmt} {a : S} (h1 : PS X s (tS T W a)) : PSs X [s] (tS T W a) := pss_one h1
theorem s_pass {pos : Pos} : PS X (.Pass pos) (tS T W sSkip) := by
  refine ps_imp ps_pass fun D σ H h => ?_
  obtain ⟨φ, ρ, st, re, p⟩ := h
  exact p φ H σ Ext.refl re
theorem s_doc {x j pos pos'} : PS X (.Expr (.Constant (.str x) j pos) pos') (tS T W sSkip) := by
  refine ps_imp ps_doc fun D σ H h => ?_
  obtain ⟨φ, ρ, st, re, p⟩ := h
  exact p φ H σ Ext.refl re
def sBreak : S := fun ρ st => .bk ρ st
def sCont : S := fun ρ st => .ct ρ st
theorem s_break {pos : Pos} : PS X (.Break pos) (tS T W sBreak) := by
  refine ps_imp ps_break fun D σ H h => ?_
  obtain ⟨φ, ρ, st, re, p⟩ := h
  exact p φ H σ Ext.refl re
theorem s_cont {pos : Pos} : PS X (.Continue pos) (tS T W sCont) := by
  refine ps_imp ps_continue fun D σ H h => ?_
  obtain ⟨φ, ρ, st, re, p⟩ := h
  exact p φ H σ Ext.refl re
/-- behind an expression -/
def bindS {α : Type} (r : Res α) (ρ : Env) (f : α → Sto → SR) : SR := match r with
  | .ok v st => f v st
  | .ex x st => .ex x ρ st
  | .bad => .bad
theorem tS_bind {α β : Type} {R : Phi → Hp → α → β → Prop} {e : Env → Sto → Res α} {f : Env → α → Sto → SR} {D : Ends} {σ : L2.St} {H : Hp} {Q1 : β → Hp → Prop} (h : tS T W (fun ρ st => bindS (e ρ st) ρ (f ρ)) D σ H)
    (k : ∀ v ρ st1 φ1 H1 u, RelE T φ1 ρ st1 σ H1 → R φ1 H1 v u → PostS T W φ1 H1 D (f ρ v st1) → Q1 u H1) : tG T R W e σ H Q1 := by
  obtain ⟨φ, ρ, st, re, p⟩ := h
  refine ⟨φ, ρ, st, re, ?_⟩
  dsimp only at p
  cases he : e ρ st with
  | ok v st1 =>
    rw [he] at p
    exact fun φ1 H1 u e1 s1 q1 => k v ρ st1 φ1 H1 u (re.ext e1 s1) q1 (PostS.later p e1)
  | ex x st1 =>
    rw [he] at p
    exact fun φ1 H1 c d e1 s1 q1 => p φ1 H1 σ c d e1 (re.ext e1 s1) q1
  | bad => rw [he] at p; exact p
def sExpr (e : E) : S := fun ρ st => bindS (e ρ st) ρ fun _ st1 => .nx ρ st1
theorem s_expr {e : Expr} {pos : Pos} {ee : E} (he : PE X e (tE T W ee)) (hs : swapsWith e none pos.line X.env = pure false := by rfl) : PS X (.Expr e pos) (tS T W (sExpr ee)) := by
  refine ps_imp (ps_expr he hs) fun D σ H h => ?_
  exact tS_bind h fun v ρ st1 φ1 H1 u re1 _ p1 => p1 φ1 H1 σ Ext.refl re1
def sRet (e : E) : S := fun ρ st => bindS (e ρ st) ρ fun v st1 => .rt v st1
theorem s_ret {e : Expr} {pos : Pos} {ee : E} (he : PE X e (tE T W ee)) : PS X (.Return (some e) pos) (tS T W (sRet ee)) := by
  refine ps_imp (ps_ret he) fun D σ H h => ?_
  exact tS_bind h fun v ρ st1 φ1 H1 u re1 q1 p1 => p1 φ1 H1 u Ext.refl re1.rst q1
def sRetN : S := fun _ st => .rt .non st
theorem s_retN {pos : Pos} : PS X (.Return none pos) (tS T W sRetN) := by
  refine ps_imp ps_retN fun D σ H h => ?_
  obtain ⟨φ, ρ, st, re, p⟩ := h
  exact p φ H .non Ext.refl re.rst .non
def sIf (t : ET) (a b : S) : S := fun ρ st => bindS (t ρ st) ρ fun c st1 => if c = true then a ρ st1 else b ρ st1
theorem s_if {c : Expr} {a b : List Stmt} {pos : Pos} {t : ET} {sa sb : S} (hc : PT X c (tT T W t)) (ha : PSs X a (tS T W sa)) (hb : PSs X b (tS T W sb)) : PS X (.If c a b pos) (tS T W (sIf t sa sb)) := by
  refine ps_imp (ps_if hc ha hb) fun D σ H h => ?_
  refine tS_bind h fun v ρ st1 φ1 H1 u re1 q1 p1 => ?_
  subst q1
  cases v with
  | true => exact iteT ⟨φ1, ρ, st1, re1, p1⟩
  | false => exact iteF ⟨φ1, ρ, st1, re1, p1⟩
def sSet (i : Nat) (e : E) : S := fun ρ st => bindS (e ρ st) ρ fun v st1 => .nx (ρ.set i (some v)) st1
theorem s_set {i : Nat} {x : Str} {e : Expr} {pos pos' : Pos} {ee : E} (hN : X.N.Nodup) (he : PE X e (tE T W ee)) (hi : X.N[i]? = some x := by rfl) (hx : Loc X.env.scope x := by first | exact Or.inl rfl | exact Or.inr rfl) (hs : swapsWith e (some (.Name x pos')) pos.line X.env = pure false := by rfl)
    (hf : X.fn x = true ∨ X.env.scope.names.lookup x = some .local := by first | exact .inl rfl | exact .inr rfl | assumption) : PS X (.Assign [.Name x pos'] e pos) (tS T W (sSet i ee)) := by
  refine ps_imp (ps_set hN hi hx he hs hf) fun D σ H h => ?_
  exact tS_bind h fun v ρ st1 φ1 H1 u re1 q1 p1 => p1 φ1 H1 _ Ext.refl (re1.set q1 i)
/-- target = value -/
def sAsg (g : G) (e : E) : S := fun ρ st => bindS (e ρ st) ρ fun v st1 => match g v ρ st1 with
  | some (ρ2, st2) => .nx ρ2 st2
  | none => .bad
theorem postGt_of {D : Ends} {φ : Phi} {H : Hp} {r : Option (Env × Sto)} (p : PostS T W φ H D (match r with | some (ρ2, st2) => .nx ρ2 st2 | none => .bad)) : PostGt T φ H D.nx r := by
  cases r with
  | none => exact p
  | some q => exact p
theorem s_asg {tg e : Expr} {pos : Pos} {ee : E} {g : G} (he : PE X e (tE T W ee)) (hg : PG X tg (tGt T g)) (hs : swapsWithSole [tg] e pos.line X.env = pure false := by rfl) (hw : swappedStores [tg] e X.env = pure none := by rfl)
    (h1 : (assignEach [tg] X.env).map (·.2) = [assign tg X.env] := by rfl) : PS X (.Assign [tg] e pos) (tS T W (sAsg g ee)) := by
  refine ps_imp (ps_asg he hg hs hw h1) fun D σ H h => ?_
  exact tS_bind h fun v ρ st1 φ1 H1 u re1 q1 p1 => ⟨φ1, ρ, st1, v, re1, q1, postGt_of p1⟩
/-- a, b = x, y -/
def sPar (i j : Nat) (a : EA) : S := fun ρ st => bindS (a ρ st) ρ fun vs st1 => match vs with
  | [v, w] => .nx ((ρ.set i (some v)).set j (some w)) st1
  | _ => .bad
theorem s_par {i j : Nat} {x y : Str} {a b : Expr} {ta : EA} {px py pt pos : Pos} {kt k2 pt2} (hc : X.calm = true) (hN : X.N.Nodup) (ha : PA X [a, b] (tA T W ta)) (hi : X.N[i]? = some x := by rfl) (hj : X.N[j]? = some y := by rfl) (hij : i ≠ j := by decide)
    (hx : X.env.scope.names.lookup x = some .local := by rfl) (hy : X.env.scope.names.lookup y = some .local := by rfl)
    (hw : swappedStores [.Tuple [.Name x px, .Name y py] kt pt] (.Tuple [a, b] k2 pt2) X.env = pure (some [x, y]) := by rfl)
    (hs : swapsWithSole [.Tuple [.Name x px, .Name y py] kt pt] (.Tuple [a, b] k2 pt2) pos.line X.env = pure false := by rfl) :
    PS X (.Assign [.Tuple [.Name x px, .Name y py] kt pt] (.Tuple [a, b] k2 pt2) pos) (tS T W (sPar i j ta)) := by
  refine ps_imp (ps_par hc hN hi hj hij hx hy ha hw hs) fun D σ H h => ?_
  refine tS_bind h fun vs ρ st1 φ1 H1 us re1 q1 p1 => ?_
  split at p1
  · cases q1 with
    | cons a1 b1 =>
      cases b1 with
      | cons a2 b2 =>
        cases b2
        exact ⟨_, _, rfl, p1 φ1 H1 _ Ext.refl ((re1.set a1 i).set a2 j)⟩
  · exact p1.elim
end
end Ev

set_option Elab.async false
set_option linter.all false
set_option maxRecDepth 100000
set_option maxHeartbeats 4000000
namespace Ev
open PySem PySem.Spec PyProof.Rows L2

theorem meets_enum_new {v : Value} {o : Obj} {H : Heap → Prop} (B : Begins v o H) :
    Meets (Builtin.«enumerate.__new__» ⟨[.type "enumerate", v], []⟩) (fun _ R s => H s.heap ∧
      R (.ok (.ret (.ref (s.heap.push o).objs.size))) { s with heap := (s.heap.push o).push { cls := .type "enumerate", data := .fields #[.none, .bool false, .ref s.heap.objs.size, rawInt 0, .none, .none] } }) :=
  .of_wp fun prog w A R s h => by
    obtain ⟨hp, g, d, tk, os⟩ := s; obtain ⟨h1, h⟩ := h
    have hsub := sub_enumerate
    have q1 : ∀ {A' : Around} {E : Value → Shared → Prop} {Q : Value → Shared → Prop}, Q (.ref hp.objs.size) ⟨hp.push o, g, d, tk, os⟩ → wpAny (model prog w) A' (pyIter v) Q E ⟨hp, g, d, tk, os⟩ :=
      fun q => B.iter prog w _ _ ⟨hp, g, d, tk, os⟩ _ h1 q
    wp_walk using q1
    refine wpAny_stack_any fun st => wpAny_pure ?_
    split
    · rename_i c _ _ _ _ _
      cases (c == Value.type "enumerate")
      · wp_walk using q1
        exact ⟨_, rfl, h⟩
      · wp_walk using q1
        exact ⟨_, rfl, h⟩
    · wp_walk using q1
      exact ⟨_, rfl, h⟩
theorem call_enum {prog : Program} {w : World} {A : Around} {E : Value → Shared → Prop} {s : Shared} {v : Value} {o : Obj} {H : Heap → Prop} {Q : Value → Shared → Prop} (B : Begins v o H) (h1 : H s.heap)
    (h : ∀ h', IsEnum h' (s.heap.objs.size + 1) s.heap.objs.size 0 .none → h'.get? s.heap.objs.size = some o → h'.objs.size = s.heap.objs.size + 2 →
      (∀ b o, s.heap.get? b = some o → h'.get? b = some o) → Q (.ref (s.heap.objs.size + 1)) { s with heap := h' }) :
    wpAny (model prog w) A (call (.type "enumerate") [v]) Q E s := by
  refine callType_new F.called_enumerate (by decide) (F.typeCall_enumerate_1 _) (F.newCall_enumerate_1 _) (fun obj => F.args_object_init_2 obj _) F.entry_enumerate_new
    (meets_enum_new B) ⟨h1, ?_⟩
  have hz : (s.heap.push o).objs.size = s.heap.objs.size + 1 := Heap.size_push ..
  show _ ∧ _
  rw [hz]
  have he : IsEnum ((s.heap.push o).push { cls := .type "enumerate", data := .fields #[.none, .bool false, .ref s.heap.objs.size, rawInt 0, .none, .none] }) (s.heap.objs.size + 1) s.heap.objs.size 0 .none := by
    have := Heap.get?_push_size (s.heap.push o) (o := { cls := .type "enumerate", data := .fields #[.none, .bool false, .ref s.heap.objs.size, rawInt 0, .none, .none] }) rfl
    rw [hz] at this; exact this
  exact ⟨⟨_, he, rfl⟩, h _ he (Heap.get?_push_of_some _ (Heap.get?_push_size _ B.free)) (by rw [Heap.size_push, hz]) fun b o x => Heap.get?_push_of_some _ (Heap.get?_push_of_some _ x)⟩

/-- the tuple at a, each item in a new pair with its number -/
def IteT (K : PySem.W.Frag) (a : Addr) : It :=
  ⟨fun i H => ∃ (xs : List V) (x : V), SqT K H a xs ∧ xs[i]? = some x, fun i H v H' => ∃ T x, v = .ref T ∧ H T = none ∧ H' = upd H T (.tup [.int (i : Nat), x]) ∧ ∀ xs, SqT K H a xs → xs[i]? = some x, fun i H => ∃ xs : List V, SqT K H a xs ∧ xs.length = i⟩
theorem turn_enumT {P : Program} {w : World} {K : PySem.W.Frag} {elts : List Expr} {kk : Nat} {tpos : Pos} (a e it : Addr) (hae : a ≠ e) (hai : a ≠ it) :
    Turn P w K (.Tuple elts kk tpos) (IteT K a) [e, it] e (fun i h => (∃ old, IsEnum h e it ((i : Nat) : Int) old) ∧ h.IsTupleIter it a i ∧ e ≠ it) where
  mem := by simp
  obj := fun i h st b hb => by
    obtain ⟨⟨old, he⟩, ⟨o, ho, hc, hd⟩, _⟩ := st
    have e' : b = e ∨ b = it := by simpa using hb
    rcases e' with z | z
    · rw [z]; exact ⟨_, he, fun v q => nomatch q⟩
    · rw [z]; exact ⟨o, ho, fun v q => by rw [hd] at q; cases q⟩
  keep := fun i h h' st k => let ⟨⟨old, he⟩, hi, hne⟩ := st; ⟨⟨old, k e (by simp) _ he⟩, hi.at fun o q => k it (by simp) o q, hne⟩
  item := by
    intro X hP hw hK hc i pins s σ H E I hf st hg
    subst hP hw hK
    obtain ⟨⟨old, he⟩, hit, hne⟩ := st
    obtain ⟨xs, x, hq, hx⟩ := hg
    obtain ⟨its, rv, p, hz⟩ := I.tuple hq
    obtain ⟨u, hu, ru⟩ := rv.get hx
    have hel : e < s.heap.objs.size := Heap.lt_size he
    have hil : it < s.heap.objs.size := by obtain ⟨_, q, _⟩ := hit; exact Heap.lt_size q
    have hlt : i < its.toArray.size := by
      have := (List.getElem?_eq_some_iff.mp hu).1
      simpa using this
    refine wpAny_pyNext_enum_itemD (Draws.tuple (A := X.A.in1) (I.ok.hd hc) it a hai its.toArray) he ⟨hit, p⟩ hlt hne (by simp [hne, Ne.symm hae]) fun x' h' tk hx' ho hit' hT hsz hk => ?_
    have ex : x' = u := by
      have h2 : its.toArray[i]? = some u := by simpa using hu
      rw [h2] at hx'
      exact (Option.some.inj hx').symm
    subst ex
    refine ⟨_, rfl, wpAny_letOwnedTupleGo_enum (s := { s with heap := h', toks := tk + 1 }) ho fun h'' he' sb => ?_⟩
    have hT2 : h''.get? s.heap.objs.size = some { cls := .type "tuple", data := .seq #[.int i tk, x'] } := (sb.2 _ (Nat.ne_of_gt hel)).trans hT
    have new : ObjOk X.prog X.w (upd H s.heap.objs.size (.tup [.int (i : Nat), x])) h'' s.heap.objs.size (.tup [.int (i : Nat), x]) :=
      ⟨by show 2 ≤ sizeLine; decide, [.int i tk, x'], .cons ⟨_, rfl⟩ (.cons ru .nil), ⟨_, hT2, rfl, _, rfl⟩⟩
    have I1 : Inv X pins σ (upd H s.heap.objs.size (.tup [.int (i : Nat), x])) { s with heap := h'', toks := tk + 1 } :=
      I.turnedNew (ch := [e, it]) (fun b ob hb q => (sb.2 b (fun z => hb (by simp [z]))).trans (hk b ob (fun z => hb (by simp [z])) (fun z => hb (by simp [z])) q)) hf (Nat.le_refl _) new
    refine ⟨.ref s.heap.objs.size, _, I1, rfl, ⟨_, x, rfl, I.hok.fresh (Nat.le_refl _), rfl, fun ys hy => by rw [I.tuple_inj hy hq]; exact hx⟩, ⟨⟨x', ?_⟩, hit'.1.at fun o q => (sb.2 it (Ne.symm hne)).trans q, hne⟩, fun b hb => ?_⟩
    · have e1 : ((i + 1 : Nat) : Int) = (i : Int) + 1 := by omega
      rw [e1]; exact he'
    · have hb' : b < s.heap.objs.size := by
        have e' : b = e ∨ b = it := by simpa using hb
        rcases e' with z | z
        · rw [z]; exact hel
        · rw [z]; exact hil
      rw [upd_ne (Nat.ne_of_lt hb')]
      exact (hf b hb).1
  done := by
    intro X hP hw hK hc i pins s σ H E I hf st hg
    subst hP hw hK
    obtain ⟨⟨old, he⟩, hit, hne⟩ := st
    obtain ⟨xs, hq, hx⟩ := hg
    obtain ⟨its, rv, p, hz⟩ := I.tuple hq
    obtain ⟨f0, f1, f2, f3, f4, f5⟩ := hf it (by simp)
    have hl : its.toArray.size = i := by rw [List.size_toArray, ← rv.length]; exact hx
    refine wpAny_pyNext_enum_endD (Draws.tuple (A := X.A.in1) (I.ok.hd hc) it a hai its.toArray) he (by rw [hl]; exact ⟨hit, p⟩) fun h' eb => ⟨rfl, I.turned (t' := s.toks) (fun b o hb q => eb b o hb q) f0 f1 f3 f4 f5⟩
  self := fun A i s Q E st h => let ⟨⟨_, he⟩, _⟩ := st; wpAny_pyIter_enum he h
def iEnumA (K : PySem.W.Frag) (ta : TA) : TI := fun σ H R => ta σ H fun vs H1 => ∃ a xs, vs = [.ref a] ∧ ((SqL K H1 a xs ∧ R (Ite K a) H1) ∨ (H1 a = some (.tup xs) ∧ R (IteT K a) H1))
theorem pi_enumA {X : Cx} {e : Expr} {ta : TA} {p pos tpos : Pos} {elts : List Expr} {kk : Nat} (hg : Gl X "enumerate") (hm : X.mg "enumerate" = none) (ha : PA X [e] ta) (hs : starEach [e] X.env = [(false, eval e X.env)] := by rfl) :
    PI X (.Tuple elts kk tpos) (.Call (.Name "enumerate" p) [e] [] pos) (iEnumA X.K ta) := by
  refine ⟨fun pins s σ H R I h => ?_⟩
  refine Call_ (ld_blt I hg hm boot_enumerate (PyProof.Rows.callWith_type1 (thn (ha.run pos pins s σ H _ I h) fun us s1 ⟨vs, H1, I1, r1, q1⟩ => ?_) hs rfl))
  obtain ⟨a, xs, ex, q⟩ := q1
  subst ex
  cases r1 with
  | cons r rr =>
    cases rr
    cases r
    have fp : ∀ b ∈ [s1.heap.objs.size + 1, s1.heap.objs.size], FpOk X pins H1 b := fun b hb => by
      have e' : b = s1.heap.objs.size + 1 ∨ b = s1.heap.objs.size := by simpa using hb
      have hle : s1.heap.objs.size ≤ b := by
        rcases e' with z | z
        · rw [z]; exact Nat.le_add_right _ _
        · rw [z]; exact Nat.le_refl _
      exact I1.fpOk hle (I1.hok.fresh hle)
    rcases q with ⟨hq, q⟩ | ⟨hq, q⟩
    · obtain ⟨its, rv, p', hz⟩ := I1.list hq
      refine call_enumerate_list p'.isList fun h' he hit hsz hk => wpAny_pyIter_enum he ?_
      have I2 : Inv X pins σ H1 { s1 with heap := h' } := I1.kept (t' := s1.toks) hk
      exact ⟨s1.heap.objs.size + 1, [s1.heap.objs.size + 1, s1.heap.objs.size], _, _, H1, rfl, I2, turn_enum a (s1.heap.objs.size + 1) s1.heap.objs.size, ⟨⟨.none, he⟩, hit, Nat.succ_ne_self _⟩, fp, q⟩
    · obtain ⟨its, rv, p', hz⟩ := I1.tuple (SqT.of hq)
      have hal : a < s1.heap.objs.size := by obtain ⟨_, z, _⟩ := p'; exact Heap.lt_size z
      refine call_enum (begins_tuple a its.toArray) p' fun h' he hit hsz hk => wpAny_pyIter_enum he ?_
      have I2 : Inv X pins σ H1 { s1 with heap := h' } := I1.kept (t' := s1.toks) hk
      exact ⟨s1.heap.objs.size + 1, [s1.heap.objs.size + 1, s1.heap.objs.size], _, _, H1, rfl, I2, turn_enumT a (s1.heap.objs.size + 1) s1.heap.objs.size (Nat.ne_of_lt (Nat.lt_succ_of_lt hal)) (Nat.ne_of_lt hal), ⟨⟨.none, he⟩, ⟨_, hit, rfl, rfl⟩, Nat.succ_ne_self _⟩, fp, q⟩

/-- a list, a tuple or a text -/
def iSeq (K : PySem.W.Frag) (tl : TE) : TI := fun σ H R => tl σ H fun x H1 => (∃ a, x = .ref a ∧ (((∃ xs, SqL K H1 a xs) ∧ R (Itl K a) H1) ∨ ((∃ xs, SqT K H1 a xs) ∧ R (Itt K a) H1))) ∨ ∃ z, x = .str z ∧ R (Its z) H1
theorem pi_seq {X : Cx} {tg l : Expr} {tl : TE} (hl : PE X l tl) : PI X tg l (iSeq X.K tl) := by
  refine ⟨fun pins s σ H R I h => ?_⟩
  refine thn (hl.run pins s σ H _ I h) fun v s1 ⟨x, H1, I1, r1, q1⟩ => ?_
  have fp : ∀ b ∈ [s1.heap.objs.size], FpOk X pins H1 b := fun b hb => by
    have e : b = s1.heap.objs.size := by simpa using hb
    subst e
    exact I1.fpOk (Nat.le_refl _) (I1.hok.fresh (Nat.le_refl _))
  rcases q1 with ⟨a, e, ⟨⟨xs, hq⟩, q⟩ | ⟨⟨xs, hq⟩, q⟩⟩ | ⟨z, e, q⟩
  · subst e
    cases r1
    obtain ⟨its, rv, p, hz⟩ := I1.list hq
    refine wpAny_pyIter_list p.isList ?_
    exact ⟨s1.heap.objs.size, [s1.heap.objs.size], _, _, H1, rfl, I1.kept (t' := s1.toks) fun b o e => Heap.get?_push_of_some _ e, turn_list a _, ⟨_, Heap.get?_push_size _ rfl, rfl, rfl⟩, fp, q⟩
  · subst e
    cases r1
    obtain ⟨its, rv, p, hz⟩ := I1.tuple hq
    refine wpAny_pyIter_tuple (show s1.heap.IsTuple a its.toArray from p) ?_
    exact ⟨s1.heap.objs.size, [s1.heap.objs.size], _, _, H1, rfl, I1.kept (t' := s1.toks) fun b o e => Heap.get?_push_of_some _ e, turn_tuple a _, ⟨_, Heap.get?_push_size _ rfl, rfl, rfl⟩, fp, q⟩
  · subst e
    obtain ⟨t, rfl⟩ := r1
    cases ha : z.cps.all (· < 128)
    · exact wpAny_pyIter_wide ha (pi_one (tk := s1.toks) I1 _ (turn_str _ z t "str_iterator" (.inr rfl)) ⟨_, Heap.get?_push_size _ rfl, rfl, rfl⟩ q)
    · exact wpAny_pyIter_ascii ha (pi_one (tk := s1.toks) I1 _ (turn_str _ z t "str_ascii_iterator" (.inl rfl)) ⟨_, Heap.get?_push_size _ rfl, rfl, rfl⟩ q)
end Ev

set_option Elab.async false
set_option linter.all false
set_option maxRecDepth 100000
set_option maxHeartbeats 2000000
namespace Ev
open PySem PySem.Spec PyProof.Rows L2

section
variable {X : Cx} {T : Tab} {W : WX}
/-- the value behind an operation in place -/
def SndI (T : Tab) (t : TIp) (f : Sto → Val → Val → Option Val) : Prop := SndB T t f
def sAug (f : Sto → Val → Val → Option Val) (i : Nat) (e : E) : S := fun ρ st => match ρ[i]? with
  | some (some v) => bindS (e ρ st) ρ fun w st1 => match f st1 v w with
    | some z => .nx (ρ.set i (some z)) st1
    | none => .bad
  | _ => .bad
theorem s_aug {i : Nat} {x : Str} {e : Expr} {ee : E} {op : Operator} {ti : TIp} {f : Sto → Val → Val → Option Val} {pos pos' : Pos} (hN : X.N.Nodup) (ho : PIp X op ti) (hs : SndB T ti f) (he : PE X e (tE T W ee)) (hi : X.N[i]? = some x := by rfl)
    (hx : Loc X.env.scope x := by first | exact Or.inl rfl | exact Or.inr rfl) (hf : X.fn x = true ∨ X.env.scope.names.lookup x = some .local := by first | exact .inl rfl | exact .inr rfl | assumption) :
    PS X (.AugAssign (.Name x pos') op e pos) (tS T W (sAug f i ee)) := by
  refine ps_imp (ps_aug hN hi hx he ho hf) fun D σ H h => ?_
  obtain ⟨φ, ρ, st, re, p⟩ := h
  unfold sAug at p
  split at p
  · rename_i v hv
    obtain ⟨u, e1, r1⟩ := re.get i v hv
    refine ⟨u, e1, φ, ρ, st, re, ?_⟩
    cases hw : ee ρ st with
    | ok w st1 =>
      rw [hw] at p
      intro φ1 H1 y e2 s1 q1
      dsimp only [bindS] at p
      cases hz : f st1 v w with
      | none => rw [hz] at p; exact p.elim
      | some z =>
        rw [hz] at p
        refine hs φ1 st1 H1 v w z u y _ s1 (r1.ext e2) q1 hz fun H2 x2 e3 s2 q2 => ?_
        exact p φ1 H2 _ (e2.trans e3) ((re.ext (e2.trans e3) s2).set q2 i)
    | ex x st1 =>
      rw [hw] at p
      exact fun φ1 H1 c d e1 s1 q1 => p φ1 H1 σ c d e1 (re.ext e1 s1) q1
    | bad => rw [hw] at p; exact p
  · exact p.elim
/-- o[i], by values -/
def rGetA (K : PySem.W.Frag) : R2 := fun x y H Q => rIxL K x y H Q ∨ rIxD x y H Q
theorem get_any (hu : X.A.units + 1 < cLine) : PGet X (rGetA X.K) := by
  intro pins s σ H o i ov iv Q I ro ri h
  rcases h with ⟨p, xs, k, z, rfl, rfl, hq, he, q⟩ | ⟨a, z, rfl, g, q⟩
  · cases ro
    obtain ⟨t, rfl⟩ := ri
    obtain ⟨its, r, pl, hz⟩ := I.list hq
    obtain ⟨j, h1, h2, h3, h4, h5⟩ := atI_get he
    obtain ⟨w, ew, rw'⟩ := r.get h2
    have hl := r.length
    have hn := line63
    by_cases h0 : 0 ≤ k
    · have hj : k.toNat = j := by
        rw [seqIndex_of h0 h5] at h1
        exact Option.some.inj h1
      exact wpAny_getItem_list pl.isList h0 (by omega) (by rw [hj]; simpa using ew) ⟨z, H, I, rw', q⟩
    · have hj : (k + (its.toArray.size : Int)).toNat = j := by
        rw [seqIndex_neg (by omega) h4] at h1
        rw [List.size_toArray, ← hl]
        exact Option.some.inj h1
      exact wpAny_getItem_list_neg pl.isList (by omega) (by rw [List.size_toArray] <;> omega) (by omega) (by rw [hj]; simpa using ew) ⟨z, H, I, rw', q⟩
  · obtain rfl : ov = Value.ref a := ro
    exact d_getItem hu I g ri fun w' s3 I3 rw' => ⟨z, H, I3, rw', q⟩
/-- what a list or a dict holds -/
def fGet (st : Sto) (v w : Val) : Option Val := match lstOf st v with
  | some xs => match w with
    | .int i => atI xs i
    | _ => none
  | none => (dGet st v w).bind id
theorem snd_get : SndB T (rGetA T.K) fGet := by
  intro φ st H v w z x y Q R r1 r2 hf hq
  unfold fGet at hf
  split at hf
  · rename_i xs hx
    split at hf
    · obtain ⟨a, us, rfl, hs, rv⟩ := rel_lst R r1 hx
      obtain ⟨u, e, ru⟩ := rv.atI hf
      cases r2
      exact .inl ⟨a, us, _, u, rfl, rfl, hs, e, hq H u Ext.refl R ru⟩
    · cases hf
  · simp only [Option.bind_eq_some_iff, id] at hf
    obtain ⟨o, e, rfl⟩ := hf
    obtain ⟨a, r, hx, hg, h⟩ := rel_dget R r1 r2 e
    rcases h with ⟨h, _⟩ | ⟨z', u, h1, h2, ru⟩
    · cases h
    · cases h1
      subst h2
      exact .inr ⟨a, u, hx, hg, hq H u Ext.refl R ru⟩
def sAugI (f : Sto → Val → Val → Option Val) (o i e : E) : S := fun ρ st => match o ρ st with
  | .ok v st1 => match i ρ st1 with
    | .ok k st2 => match fGet st2 v k with
      | some z => match e ρ st2 with
        | .ok w st3 => match f st3 z w with
          | some y => match fSet st3 v k y with
            | some st4 => .nx ρ st4
            | none => .bad
          | none => .bad
        | _ => .bad
      | none => .bad
    | _ => .bad
  | _ => .bad
theorem s_augI {o i e : Expr} {eo ei ee : E} {op : Operator} {ti : TIp} {f : Sto → Val → Val → Option Val} {pos tpos : Pos} (hK : T.K = X.K) (hu : X.A.units + 1 < cLine) (hp : PIp X op ti) (hs : SndB T ti f) (ho : PE X o (tE T W eo)) (hi : PE X i (tE T W ei)) (he : PE X e (tE T W ee))
    (ha : ∀ ov iv new, augStore i ov iv new = (do holding [new, ov, iv] (setItem ov iv new); release [new, ov, iv] []; pure .next) := by intros; rfl) : PS X (.AugAssign (.Subscript o i tpos) op e pos) (tS T W (sAugI f eo ei ee)) := by
  refine ps_imp (ps_augS ho hi (get_any hu) he hp (set_any hu) ha) fun D σ H h => ?_
  rw [← hK]
  obtain ⟨φ, ρ, st, re, p⟩ := h
  refine ⟨φ, ρ, st, re, ?_⟩
  unfold sAugI at p
  cases h1 : eo ρ st with
  | ex x st1 => rw [h1] at p; exact p.elim
  | bad => rw [h1] at p; exact p.elim
  | ok v st1 =>
    rw [h1] at p; dsimp only at p
    intro φ1 H1 a e1 s1 q1
    refine ⟨φ1, ρ, st1, re.ext e1 s1, ?_⟩
    cases h2 : ei ρ st1 with
    | ex x st2 => rw [h2] at p; exact p.elim
    | bad => rw [h2] at p; exact p.elim
    | ok k st2 =>
      rw [h2] at p; dsimp only at p
      intro φ2 H2 b e2 s2 q2
      cases h3 : fGet st2 v k with
      | none => rw [h3] at p; exact p.elim
      | some z =>
        rw [h3] at p; dsimp only at p
        refine snd_get φ2 st2 H2 v k z a b _ s2 (q1.ext e2) q2 h3 fun H3 c e3 s3 q3 => ?_
        refine ⟨φ2, ρ, st2, re.ext ((e1.trans e2).trans e3) s3, ?_⟩
        cases h4 : ee ρ st2 with
        | ex x st3 => rw [h4] at p; exact p.elim
        | bad => rw [h4] at p; exact p.elim
        | ok w st3 =>
          rw [h4] at p; dsimp only at p
          intro φ4 H4 d e4 s4 q4
          cases h5 : f st3 z w with
          | none => rw [h5] at p; exact p.elim
          | some y =>
            rw [h5] at p; dsimp only at p
            refine hs φ4 st3 H4 z w y c d _ s4 (q3.ext e4) q4 h5 fun H5 u e5 s5 q5 => ?_
            cases h6 : fSet st3 v k y with
            | none => rw [h6] at p; exact p.elim
            | some st4 =>
              rw [h6] at p
              have e25 := (e2.trans e3).trans (e4.trans e5)
              refine snd_set s5 (q1.ext e25) (q2.ext (e3.trans (e4.trans e5))) q5 h6 fun H6 e6 s6 => ?_
              exact p φ4 H6 σ ((e1.trans e25).trans e6) (re.ext ((e1.trans e25).trans e6) s6)
def rIpA (K : PySem.W.Frag) : R2 := fun x y H Q => ipI (fun i j => i + j) x y H Q
theorem snd_ipadd : SndB T (ipI fun i j => i + j) (fI0 fun i j => .int (i + j)) := by
  intro φ st H v w z x y Q R r1 r2 hf hq
  unfold fI0 at hf
  split at hf
  · cases hf; cases r1; cases r2
    exact ⟨_, _, rfl, rfl, hq H _ Ext.refl R (.int _)⟩
  · cases hf
theorem snd_ipsub : SndB T (ipI fun i j => i - j) (fI0 fun i j => .int (i - j)) := by
  intro φ st H v w z x y Q R r1 r2 hf hq
  unfold fI0 at hf
  split at hf
  · cases hf; cases r1; cases r2
    exact ⟨_, _, rfl, rfl, hq H _ Ext.refl R (.int _)⟩
  · cases hf
abbrev fIadd := fI0 fun i j => .int (i + j)
abbrev fIsub := fI0 fun i j => .int (i - j)
end

abbrev EI := Env → Sto → Res (List Val)
/-- J gives the items, one by one, whatever happens meanwhile -/
def Wk (T : Tab) (φ : Phi) (H : Hp) (J : It) (items : List Val) : Prop :=
  ∃ (Gd : Hp → Prop) (Y : Nat → Hp → V → Hp → Prop), Walk J items.length Gd Y ∧ (∀ φ' H', Ext φ H φ' H' → Gd H') ∧
    ∀ i H1 x H2 φ1 st1, i < items.length → ExtV φ H φ1 H1 → Rst T φ1 st1 H1 → Y i H1 x H2 → Ext φ1 H1 φ1 H2 ∧ Rst T φ1 st1 H2 ∧ ∃ v, items[i]? = some v ∧ RelV T φ1 H2 v x
abbrev tI (T : Tab) (W : WX) (e : EI) : TI := fun σ H R => tG T (fun φ H items J => Wk T φ H J items) W e σ H R

section
variable {X : Cx} {T : Tab} {W : WX}
theorem pi_imp {tg it : Expr} {t t' : TI} (h : PI X tg it t) (k : ∀ σ H R, t' σ H R → t σ H R) : PI X tg it t' := ⟨fun pins s σ H R I q => h.run pins s σ H R I (k _ _ _ q)⟩
theorem wk_list {φ : Phi} {H : Hp} {xs : List Val} {us : List V} {a : Addr} (h : (¬ Live φ a ∧ Rd H a (.lst us)) ∨ LstK T.K a us) (r : RelVs T φ H xs us) : Wk T φ H (Itl T.K a) xs := by
  refine ⟨_, _, r.length ▸ walk_list (K := T.K) (a := a) (xs := us), fun φ' H' e => ?_, fun i H1 x H2 φ1 st1 _ e s y => ?_⟩
  · rcases h with ⟨h1, h2⟩ | h
    · exact .inl (e.rd a _ h1 h2)
    · exact .inr h
  · obtain ⟨rfl, hx⟩ := y
    obtain ⟨v, hv, rv⟩ := r.got hx
    exact ⟨Ext.refl, s, v, hv, rv.extV e⟩
theorem wk_tup {φ : Phi} {H : Hp} {xs : List Val} {us : List V} {a : Addr} (h : H a = some (.tup us)) (r : RelVs T φ H xs us) : Wk T φ H (Itt T.K a) xs := by
  refine ⟨_, _, r.length ▸ walk_tup (K := T.K) (a := a) (xs := us), fun φ' H' e => SqT.of (e.tups a us h), fun i H1 x H2 φ1 st1 _ e s y => ?_⟩
  obtain ⟨rfl, hx⟩ := y
  obtain ⟨v, hv, rv⟩ := r.got hx
  exact ⟨Ext.refl, s, v, hv, rv.extV e⟩
def rangeV (lo : Int) (n : Nat) : List Val := (List.range n).map fun i => .int (lo + (i : Nat))
theorem wk_range {φ : Phi} {H : Hp} {lo : Int} {n : Nat} : Wk T φ H (Itr lo n) (rangeV lo n) := by
  refine ⟨fun _ => True, YFn fun i => .int (lo + i), ?_, fun _ _ _ => trivial, fun i H1 x H2 φ1 st1 hi e s y => ?_⟩
  · have := walk_range (lo := lo) (n := n)
    simpa [rangeV] using this
  · obtain ⟨rfl, rfl⟩ := y
    have hi' : i < n := by simpa [rangeV] using hi
    exact ⟨Ext.refl, s, .int (lo + i), by simp [rangeV, hi'], .int _⟩
def strV (z : Str) : List Val := z.cps.toList.map fun c => .str ⟨#[c]⟩
theorem wk_str {φ : Phi} {H : Hp} {z : Str} : Wk T φ H (Its z) (strV z) := by
  refine ⟨fun _ => True, _, by simpa [strV] using walk_str (z := z), fun _ _ _ => trivial, fun i H1 x H2 φ1 st1 hi e s y => ?_⟩
  obtain ⟨rfl, c, hc, rfl⟩ := y
  exact ⟨Ext.refl, s, .str ⟨#[c]⟩, by simp [strV, hc], .str _⟩
/-- new pairs -/
theorem wk_pairs {φ : Phi} {H : Hp} {J : It} {n : Nat} {Gd : Hp → Prop} {f g : Nat → Option V} {items : List Val} (hn : items.length = n) (w : Walk J n Gd (YPair f g)) (hG : ∀ φ' H', Ext φ H φ' H' → Gd H')
    (hr : ∀ i x y, i < n → f i = some x → g i = some y → ∃ v w, items[i]? = some (.tup [v, w]) ∧ RelV T φ H v x ∧ RelV T φ H w y) : Wk T φ H J items := by
  subst hn
  refine ⟨Gd, _, w, hG, fun i H1 x H2 φ1 st1 hi e s y => ?_⟩
  obtain ⟨p, a, b, rfl, hp, rfl, ha, hb⟩ := y
  obtain ⟨v, w, h1, h2, h3⟩ := hr i a b hi ha hb
  have e2 := Ext.fresh (ho := .tup [a, b]) s hp
  exact ⟨e2, s.fresh hp, _, h1, .tup upd_same (.cons ((h2.extV e).ext e2) (.cons ((h3.extV e).ext e2) .nil))⟩
def enumV : Nat → List Val → List Val
  | _, [] => []
  | n, x :: xs => .tup [.int (n : Nat), x] :: enumV (n + 1) xs
theorem enumV_len : ∀ (xs : List Val) (n : Nat), (enumV n xs).length = xs.length
  | [], _ => rfl
  | _ :: xs, n => by simp [enumV, enumV_len xs]
theorem enumV_get : ∀ (xs : List Val) (n i : Nat) (x : Val), xs[i]? = some x → (enumV n xs)[i]? = some (.tup [.int ((n + i : Nat)), x])
  | [], _, _, _, h => by simp at h
  | y :: ys, n, 0, x, h => by simp at h; subst h; simp [enumV]
  | y :: ys, n, i + 1, x, h => by
    have := enumV_get ys (n + 1) i x (by simpa using h)
    simp only [enumV, List.getElem?_cons_succ, this]
    congr 5
    omega
def zipV : List Val → List Val → List Val
  | x :: xs, y :: ys => .tup [x, y] :: zipV xs ys
  | _, _ => []
theorem zipV_len : ∀ (xs ys : List Val), (zipV xs ys).length = min xs.length ys.length
  | [], _ => by simp [zipV]
  | _ :: _, [] => by simp [zipV]
  | _ :: xs, _ :: ys => by simp [zipV, zipV_len xs ys]
theorem zipV_get : ∀ (xs ys : List Val) (i : Nat) (x y : Val), xs[i]? = some x → ys[i]? = some y → (zipV xs ys)[i]? = some (.tup [x, y])
  | [], _, _, _, _, h, _ => by simp at h
  | _ :: _, [], _, _, _, _, h => by simp at h
  | a :: xs, b :: ys, 0, x, y, h1, h2 => by simp at h1 h2; subst h1; subst h2; rfl
  | a :: xs, b :: ys, i + 1, x, y, h1, h2 => by
    simp only [zipV, List.getElem?_cons_succ]
    exact zipV_get xs ys i x y (by simpa using h1) (by simpa using h2)

/-- for x in e -/
def itV (e : E) : EI := fun ρ st => bindR (e ρ st) fun v st1 => match v with
  | .lst xs => .ok xs st1
  | .tup xs => .ok xs st1
  | .str z => .ok (strV z) st1
  | _ => .bad
theorem i_seq {tg l : Expr} {e : E} (hK : T.K = X.K) (hl : PE X l (tE T W e)) : PI X tg l (tI T W (itV e)) := by
  refine pi_imp (pi_seq hl) fun σ H R h => ?_
  refine tG_bind h fun v ρ st1 φ1 H1 u re1 q1 p1 => ?_
  cases q1 with
  | lst h1 h2 =>
    have w := wk_list h1 h2
    rw [hK] at w
    exact .inl ⟨_, rfl, .inl ⟨⟨_, by rw [← hK]; exact sqL_of h1⟩, p1.ok_self re1.rst w⟩⟩
  | tup h1 h2 =>
    have w := wk_tup h1 h2
    rw [hK] at w
    exact .inl ⟨_, rfl, .inr ⟨⟨_, SqT.of h1⟩, p1.ok_self re1.rst w⟩⟩
  | str z => exact .inr ⟨z, rfl, p1.ok_self re1.rst wk_str⟩
  | _ => exact p1.elim
/-- for i, x in enumerate(e) -/
def itEnum (a : EA) : EI := fun ρ st => bindR (a ρ st) fun vs st1 => match vs with
  | [.lst xs] => .ok (enumV 0 xs) st1
  | [.tup xs] => .ok (enumV 0 xs) st1
  | _ => .bad
theorem i_enum {e : Expr} {p pos tpos : Pos} {elts : List Expr} {kk : Nat} {a : EA} (hK : T.K = X.K) (hm : X.mg "enumerate" = none) (ha : PA X [e] (tA T W a)) (hg : Gl X "enumerate" := by rfl) (hs : starEach [e] X.env = [(false, eval e X.env)] := by rfl) :
    PI X (.Tuple elts kk tpos) (.Call (.Name "enumerate" p) [e] [] pos) (tI T W (itEnum a)) := by
  refine pi_imp (pi_enumA hg hm ha hs) fun σ H R h => ?_
  refine tG_bind h fun vs ρ st1 φ1 H1 us re1 q1 p1 => ?_
  split at p1
  · cases q1 with
    | cons r rr =>
      cases rr
      cases r with
      | lst h1 h2 =>
        rename_i xs us a
        refine ⟨_, _, rfl, .inl ⟨by rw [← hK]; exact sqL_of h1, p1.ok_self re1.rst ?_⟩⟩
        rw [← hK]
        refine wk_pairs (enumV_len xs 0) (h2.length ▸ walk_enum (K := T.K) (a := a) (xs := us)) (fun φ' H' e => ?_) fun i x y hi h3 h4 => ?_
        · rcases h1 with ⟨h5, h6⟩ | h5
          · exact .inl (e.rd a _ h5 h6)
          · exact .inr h5
        · cases h3
          obtain ⟨v, hv, rv⟩ := h2.got h4
          exact ⟨_, v, enumV_get xs 0 i v hv, by simpa using RelV.int _, rv⟩
  · cases q1 with
    | cons r rr =>
      cases rr
      cases r with
      | tup h1 h2 =>
        rename_i xs us a
        refine ⟨_, _, rfl, .inr ⟨h1, p1.ok_self re1.rst ?_⟩⟩
        rw [← hK]
        have w : Walk (IteT T.K a) us.length (fun H => SqT T.K H a us) (YPair (fun i => some (.int (i : Nat))) (fun i => us[i]?)) := by
          refine ⟨fun i _ hi q => ⟨us, us[i], q, by simp [hi]⟩, fun _ q => ⟨us, q, rfl⟩, fun i H v H' _ q y => ?_⟩
          obtain ⟨p, x, h1, h2, h3, h4⟩ := y
          exact ⟨p, .int (i : Nat), x, h1, h2, h3, rfl, h4 us q⟩
        refine wk_pairs (enumV_len xs 0) (h2.length ▸ w) (fun φ' H' e => SqT.of (e.tups a us h1)) fun i x y hi h3 h4 => ?_
        cases h3
        obtain ⟨v, hv, rv⟩ := h2.got h4
        exact ⟨_, v, enumV_get xs 0 i v hv, by simpa using RelV.int _, rv⟩
  · exact p1.elim
/-- for x, y in zip(a, b) -/
def itZip (a : EA) : EI := fun ρ st => bindR (a ρ st) fun vs st1 => match vs with
  | [.lst xs, .lst ys] => .ok (zipV xs ys) st1
  | [.tup xs, .tup ys] => .ok (zipV xs ys) st1
  | _ => .bad
theorem i_zip {e e2 : Expr} {p pos tpos : Pos} {elts : List Expr} {kk : Nat} {a : EA} (hK : T.K = X.K) (hm : X.mg "zip" = none) (ha : PA X [e, e2] (tA T W a)) (hg : Gl X "zip" := by rfl)
    (hs : starEach [e, e2] X.env = (false, eval e X.env) :: starEach [e2] X.env := by rfl) (hpl : (backTo pos (starEach [e2] X.env)).any (·.1) = false := by rfl) :
    PI X (.Tuple elts kk tpos) (.Call (.Name "zip" p) [e, e2] [] pos) (tI T W (itZip a)) := by
  refine pi_imp (RZ.pi_zipA hg hm ha hs hpl) fun σ H R h => ?_
  refine tG_bind h fun vs ρ st1 φ1 H1 us re1 q1 p1 => ?_
  split at p1
  · cases q1 with
    | cons r rr =>
      cases rr with
      | cons r' rr =>
        cases rr
        cases r with
        | lst h1 h2 =>
          cases r' with
          | lst h3 h4 =>
            rename_i xs ys us a ws b
            refine ⟨_, _, _, _, rfl, .inl ⟨by rw [← hK]; exact sqL_of h1, by rw [← hK]; exact sqL_of h3, p1.ok_self re1.rst ?_⟩⟩
            rw [← hK]
            have st : ∀ {c : Addr} {zs : List V}, ((¬ Live φ1 c ∧ Rd H1 c (.lst zs)) ∨ LstK T.K c zs) → ∀ φ' H', Ext φ1 H1 φ' H' → SqL T.K H' c zs := fun {c zs} h φ' H' e => by
              rcases h with ⟨h5, h6⟩ | h5
              · exact .inl (e.rd c _ h5 h6)
              · exact .inr h5
            refine wk_pairs (zipV_len xs ys) (walk_zip (K := T.K) (a := a) (b := b) (xs := us) (ys := ws) (by rw [h2.length, h4.length])) (fun φ' H' e => ⟨st h1 φ' H' e, st h3 φ' H' e⟩) fun i x y hi h5 h6 => ?_
            obtain ⟨v, hv, rv⟩ := h2.got h5
            obtain ⟨w, hw, rw'⟩ := h4.got h6
            exact ⟨v, w, zipV_get xs ys i v w hv hw, rv, rw'⟩
  · cases q1 with
    | cons r rr =>
      cases rr with
      | cons r' rr =>
        cases rr
        cases r with
        | tup h1 h2 =>
          cases r' with
          | tup h3 h4 =>
            rename_i xs ys us a ws b
            refine ⟨_, _, _, _, rfl, .inr ⟨SqT.of h1, SqT.of h3, p1.ok_self re1.rst ?_⟩⟩
            rw [← hK]
            have w : Walk (RZ.ItzT T.K a b) (min us.length ws.length) (fun H => SqT T.K H a us ∧ SqT T.K H b ws) (YPair (fun i => us[i]?) (fun i => ws[i]?)) := by
              refine ⟨fun i _ hi q => ?_, fun _ q => ⟨us, ws, q.1, q.2, by omega⟩, fun i H v H' _ q y => ?_⟩
              · have h1 : i < us.length := by omega
                have h2 : i < ws.length := by omega
                exact ⟨us, ws, us[i], ws[i], q.1, q.2, by simp [h1], by simp [h2]⟩
              · obtain ⟨p, x, z, h1, h2, h3, h4, h5⟩ := y
                exact ⟨p, x, z, h1, h2, h3, h4 us q.1, h5 ws q.2⟩
            refine wk_pairs (by rw [zipV_len, h2.length, h4.length]) w (fun φ' H' e => ⟨SqT.of (e.tups a us h1), SqT.of (e.tups b ws h3)⟩) fun i x y hi h5 h6 => ?_
            obtain ⟨v, hv, rv⟩ := h2.got h5
            obtain ⟨w, hw, rw'⟩ := h4.got h6
            exact ⟨v, w, zipV_get xs ys i v w hv hw, rv, rw'⟩
  · exact p1.elim
/-- range(n), range(a, b) -/
def itRange1 (a : EA) : EI := fun ρ st => bindR (a ρ st) fun vs st1 => match vs with
  | [.int j] => if -(2 ^ 62) ≤ j ∧ j < 2 ^ 62 then .ok (rangeV 0 j.toNat) st1 else .bad
  | _ => .bad
theorem i_range1 {tg e : Expr} {p pos : Pos} {a : EA} (hm : X.mg "range" = none) (ha : PA X [e] (tA T W a)) (hg : Gl X "range" := by rfl) (hs : starEach [e] X.env = [(false, eval e X.env)] := by rfl) : PI X tg (.Call (.Name "range" p) [e] [] pos) (tI T W (itRange1 a)) := by
  refine pi_imp (pi_range1 hg hm ha hs) fun σ H R h => ?_
  refine tG_bind h fun vs ρ st1 φ1 H1 us re1 q1 p1 => ?_
  split at p1
  · split at p1
    · rename_i hh
      cases q1 with
      | cons r rr =>
        cases rr
        cases r
        exact ⟨_, rfl, hh.1, hh.2, p1.ok_self re1.rst wk_range⟩
    · exact p1.elim
  · exact p1.elim
def itRange2 (a : EA) : EI := fun ρ st => bindR (a ρ st) fun vs st1 => match vs with
  | [.int i, .int j] => if -(2 ^ 62) ≤ i ∧ i < 2 ^ 62 ∧ -(2 ^ 62) ≤ j ∧ j < 2 ^ 62 then .ok (rangeV i (j - i).toNat) st1 else .bad
  | _ => .bad
theorem i_range2 {tg e e2 : Expr} {p pos : Pos} {a : EA} (hm : X.mg "range" = none) (ha : PA X [e, e2] (tA T W a)) (hg : Gl X "range" := by rfl) (hs : starEach [e, e2] X.env = [(false, eval e X.env), (false, eval e2 X.env)] := by rfl) (hs2 : starEach [e2] X.env = [(false, eval e2 X.env)] := by rfl) :
    PI X tg (.Call (.Name "range" p) [e, e2] [] pos) (tI T W (itRange2 a)) := by
  refine pi_imp (pi_range2 hg hm ha hs hs2) fun σ H R h => ?_
  refine tG_bind h fun vs ρ st1 φ1 H1 us re1 q1 p1 => ?_
  split at p1
  · split at p1
    · rename_i hh
      cases q1 with
      | cons r rr =>
        cases rr with
        | cons r' rr =>
          cases rr
          cases r; cases r'
          exact ⟨_, _, rfl, hh, p1.ok_self re1.rst wk_range⟩
    · exact p1.elim
  · exact p1.elim

def forL (g : G) (b : S) : List Val → Env → Sto → SR
  | [], ρ, st => .nx ρ st
  | v :: vs, ρ, st => match g v ρ st with
    | some (ρ1, st1) => match b ρ1 st1 with
      | .nx ρ2 st2 => forL g b vs ρ2 st2
      | .ct ρ2 st2 => forL g b vs ρ2 st2
      | .bk ρ2 st2 => .nx ρ2 st2
      | .rt v st2 => .rt v st2
      | .ex x ρ2 st2 => .ex x ρ2 st2
      | .bad => .bad
    | none => .bad
def sFor (it : EI) (g : G) (b : S) : S := fun ρ st => bindS (it ρ st) ρ fun vs st1 => forL g b vs ρ st1
theorem s_for {tg iter : Expr} {body : List Stmt} {pos : Pos} {it : EI} {g : G} {b : S} (hp : PassesOwn (model X.prog X.w) X.A X.env X.xe) (hc : X.calm = true) (hi : PI X tg iter (tI T W it)) (hg : PG X tg (tGt T g)) (hb : PSs X body (tS T W b))
    (hs : ∀ x, foldedSetIterable iter X.env x = pure x := by intro _; rfl) : PS X (.For tg iter body [] pos) (tS T W (sFor it g b)) := by
  refine ps_imp (ps_for hp hc hi hg hb hs) fun D σ H h => ?_
  refine tS_bind h fun vs ρ st1 φ1 H1 J re1 q1 p1 => ?_
  obtain ⟨Gd, Y, w1, w2, w3⟩ := q1
  refine for_it w1 (fun i σ' H' => ∃ φ' ρ' st', Ext φ1 H1 φ' H' ∧ RelE T φ' ρ' st' σ' H' ∧ PostS T W φ' H' D (forL g b (vs.drop i) ρ' st')) ⟨φ1, ρ, st1, Ext.refl, re1, p1⟩ (fun i σ' H' _ ⟨φ', _, _, e, _, _⟩ => w2 φ' H' e) (fun i x σ' H' H2 hi ⟨φ', ρ', st', e, re, p⟩ y => ?_) (fun σ' H' ⟨φ', ρ', st', e, re, p⟩ => ?_)
  · obtain ⟨e2, s2, v, hv, rv⟩ := w3 i H' x H2 φ' st' hi e.v re.rst y
    have hd : vs.drop i = v :: vs.drop (i + 1) := by
      obtain ⟨hl, hv⟩ := List.getElem?_eq_some_iff.mp hv
      rw [List.drop_eq_getElem_cons hl, hv]
    rw [hd] at p
    refine ⟨φ', ρ', st', v, re.ext e2 s2, rv, ?_⟩
    unfold forL at p
    cases hgv : g v ρ' st' with
    | none => rw [hgv] at p; exact p.elim
    | some q =>
      obtain ⟨ρ3, st3⟩ := q
      rw [hgv] at p
      dsimp only at p
      intro φ3 H3 σ3 e3 re3
      refine ⟨φ3, ρ3, st3, re3, ?_⟩
      have e23 := e2.trans e3
      cases hb3 : b ρ3 st3 with
      | nx ρ4 st4 =>
        rw [hb3] at p
        exact fun φ4 H4 σ4 e4 re4 => ⟨φ4, ρ4, st4, (e.trans e23).trans e4, re4, PostS.later p (e23.trans e4)⟩
      | ct ρ4 st4 =>
        rw [hb3] at p
        exact fun φ4 H4 σ4 e4 re4 => ⟨φ4, ρ4, st4, (e.trans e23).trans e4, re4, PostS.later p (e23.trans e4)⟩
      | bk ρ4 st4 => rw [hb3] at p; exact PostS.later p e23
      | rt v st4 => rw [hb3] at p; exact PostS.later (D := D) p e23
      | ex x ρ4 st4 => rw [hb3] at p; exact PostS.later (D := D) p e23
      | bad => rw [hb3] at p; exact p
  · rw [List.drop_length] at p
    exact p φ' H' σ' Ext.refl re
def whileN (t : ET) (b : S) : Nat → Env → Sto → SR
  | 0, _, _ => .bad
  | n + 1, ρ, st => bindS (t ρ st) ρ fun c st1 => if c = true then (match b ρ st1 with
      | .nx ρ2 st2 => whileN t b n ρ2 st2
      | .ct ρ2 st2 => whileN t b n ρ2 st2
      | .bk ρ2 st2 => .nx ρ2 st2
      | .rt v st2 => .rt v st2
      | .ex x ρ2 st2 => .ex x ρ2 st2
      | .bad => .bad) else .nx ρ st1
def manyTurns : Nat := 1000000
def sWhile (t : ET) (b : S) : S := whileN t b manyTurns
theorem s_while {c : Expr} {body : List Stmt} {pos : Pos} {t : ET} {b : S} (hp : PassesOwn (model X.prog X.w) X.A X.env X.xe) (hc : PT X c (tT T W t)) (hb : PSs X body (tS T W b)) : PS X (.While c body [] pos) (tS T W (sWhile t b)) := by
  refine ps_imp (ps_while hp hc hb) fun D σ H h => ?_
  refine ⟨fun m σ' H' => tS T W (whileN t b m) D σ' H', ⟨manyTurns, h⟩, fun m σ' H' h' => ?_⟩
  cases m with
  | zero => obtain ⟨φ, ρ, st, re, p⟩ := h'; exact p.elim
  | succ m =>
    have h2 : tS T W (fun ρ st => bindS (t ρ st) ρ fun c st1 => if c = true then (match b ρ st1 with
      | .nx ρ2 st2 => whileN t b m ρ2 st2
      | .ct ρ2 st2 => whileN t b m ρ2 st2
      | .bk ρ2 st2 => .nx ρ2 st2
      | .rt v st2 => .rt v st2
      | .ex x ρ2 st2 => .ex x ρ2 st2
      | .bad => .bad) else .nx ρ st1) D σ' H' := h'
    refine tS_bind h2 fun c ρ st1 φ1 H1 k re1 q1 p1 => ?_
    subst q1
    cases c with
    | false => exact iteF (p1 φ1 H1 σ' Ext.refl re1)
    | true =>
      refine iteT ⟨fun σ2 H2 => tS T W (whileN t b m) D σ2 H2, fun σ2 H2 q => ⟨m, Nat.lt_succ_self m, q⟩, φ1, ρ, st1, re1, ?_⟩
      rw [if_pos rfl] at p1
      cases hb3 : b ρ st1 with
      | nx ρ4 st4 =>
        rw [hb3] at p1
        exact fun φ4 H4 σ4 e4 re4 => ⟨φ4, ρ4, st4, re4, PostS.later p1 e4⟩
      | ct ρ4 st4 =>
        rw [hb3] at p1
        exact fun φ4 H4 σ4 e4 re4 => ⟨φ4, ρ4, st4, re4, PostS.later p1 e4⟩
      | bk ρ4 st4 => rw [hb3] at p1; exact p1
      | rt v st4 => rw [hb3] at p1; exact p1
      | ex x ρ4 st4 => rw [hb3] at p1; exact p1
      | bad => rw [hb3] at p1; exact p1
end
end Ev

set_option Elab.async false
set_option linter.all false
set_option maxRecDepth 100000
set_option maxHeartbeats 2000000
namespace Ev
open PySem PySem.Spec PyProof.Rows L2

def PostGw (T : Tab) (φ : Phi) (H : Hp) (vs : List Nat) (σ : L2.St) (Q : L2.St → Hp → Prop) : Option (Env × Sto) → Prop
  | some (ρ, st) => ∀ φ' H' σ', Ext φ H φ' H' → RelE T φ' ρ st σ' H' → wipe σ' vs = wipe σ vs → Q σ' H'
  | none => False
def tGw (T : Tab) (vs : List Nat) (g : G) : TG := fun v σ H Q => ∃ φ ρ st w, RelE T φ ρ st σ H ∧ RelV T φ H w v ∧ PostGw T φ H vs σ Q (g w ρ st)
def tGws (T : Tab) (vs : List Nat) (g : GS) : TGs := fun us σ H Q => ∃ φ ρ st ws, RelE T φ ρ st σ H ∧ RelVs T φ H ws us ∧ PostGw T φ H vs σ Q (g ws ρ st)
theorem wipe_get {σ : L2.St} : ∀ {vs : List Nat} {i : Nat}, (wipe σ vs)[i]? = if i ∈ vs then (if i < σ.length then some none else none) else σ[i]?
  | [], i => by simp [wipe]
  | v :: vs, i => by
    unfold wipe
    by_cases e : v = i
    · subst e
      by_cases h : v < σ.length
      · rw [List.getElem?_set_self (by rw [wipe_length]; exact h)]
        simp [h]
      · rw [List.getElem?_eq_none (by rw [List.length_set, wipe_length]; omega)]
        simp [h]
    · rw [List.getElem?_set_ne e, wipe_get (vs := vs)]
      have : (i ∈ v :: vs) ↔ i ∈ vs := by
        rw [List.mem_cons]
        exact ⟨fun h => h.elim (fun z => absurd z.symm e) id, .inr⟩
      by_cases hm : i ∈ vs
      · rw [if_pos hm, if_pos (this.mpr hm)]
      · rw [if_neg hm, if_neg (fun z => hm (this.mp z))]
theorem wipe_set {σ : L2.St} {vs : List Nat} {i : Nat} {x : Option V} (h : i ∈ vs) : wipe (σ.set i x) vs = wipe σ vs := by
  apply List.ext_getElem?
  intro j
  rw [wipe_get, wipe_get, List.length_set]
  by_cases hj : j ∈ vs
  · rw [if_pos hj, if_pos hj]
  · rw [if_neg hj, if_neg hj, List.getElem?_set_ne (fun e : i = j => hj (e ▸ h))]
section
variable {X : Cx} {T : Tab} {W : WX} {vs : List Nat}
theorem gw_name {i : Nat} {x : Str} {pos : Pos} (hN : X.N.Nodup) (hm : i ∈ vs := by decide) (hi : X.N[i]? = some x := by rfl) (hx : Loc X.env.scope x := by first | exact Or.inl rfl | exact Or.inr rfl) (hf : X.fn x = true ∨ X.env.scope.names.lookup x = some .local := by first | exact .inl rfl | exact .inr rfl | assumption) :
    PG X (.Name x pos) (tGw T vs (gN i)) := by
  refine pg_imp (pg_name (i := i) hN hi hx hf) fun v σ H Q h => ?_
  obtain ⟨φ, ρ, st, w, re, r, p⟩ := h
  exact p φ H _ Ext.refl (re.set r i) (wipe_set hm)
theorem gws_nil : PGs X [] (tGws T vs gNil') := by
  refine pgs_imp pgs_nil fun v σ H Q h => ?_
  obtain ⟨φ, ρ, st, ws, re, r, p⟩ := h
  cases r with
  | nil => exact ⟨rfl, p φ H σ Ext.refl re rfl⟩
  | cons a b => exact p.elim
theorem gws_cons {e : Expr} {es : List Expr} {g : G} {gs : GS} (h1 : PG X e (tGw T vs g)) (h2 : PGs X es (tGws T vs gs))
    (hs : (assignEach (e :: es) X.env).map (·.2) = assign e X.env :: (assignEach es X.env).map (·.2) := by rfl) : PGs X (e :: es) (tGws T vs (gCons' g gs)) := by
  refine pgs_imp (pgs_cons h1 h2 hs) fun v σ H Q h => ?_
  obtain ⟨φ, ρ, st, ws, re, r, p⟩ := h
  cases r with
  | nil => exact p.elim
  | cons a b =>
    rename_i w u ws us
    refine ⟨u, us, rfl, φ, ρ, st, w, re, a, ?_⟩
    unfold gCons' at p
    dsimp only at p
    cases hg : g w ρ st with
    | none => rw [hg] at p; exact p.elim
    | some q =>
      obtain ⟨ρ1, st1⟩ := q
      rw [hg] at p
      dsimp only at p
      intro φ1 H1 σ1 e1 re1 hw
      refine ⟨φ1, ρ1, st1, ws, re1, b.ext e1, ?_⟩
      cases hg2 : gs ws ρ1 st1 with
      | none => rw [hg2] at p; exact p.elim
      | some q =>
        rw [hg2] at p
        exact fun φ2 H2 σ2 e2 re2 hw2 => p φ2 H2 σ2 (e1.trans e2) re2 (hw2.trans hw)
theorem gw_tup {es : List Expr} {k : Nat} {pos : Pos} {gs : GS} {n : Nat} (hK : T.K = X.K) (hc : X.calm = true) (h : PGs X es (tGws T vs gs))
    (hn : (assignEach es X.env).length = n := by rfl) (hst : (assignEach es X.env).findIdx? (·.1) = none := by rfl) : PG X (.Tuple es k pos) (tGw T vs (gT n gs)) := by
  refine pg_imp (pg_tup hc h hn hst) fun v σ H Q h => ?_
  obtain ⟨φ, ρ, st, w, re, r, p⟩ := h
  unfold gT at p
  cases r with
  | tup a b =>
    dsimp only at p
    split at p
    · rename_i hl
      exact ⟨_, _, rfl, SqT.of a, by rw [← b.length]; exact hl, φ, ρ, st, _, re, b, p⟩
    · exact p.elim
  | _ => exact p.elim

def wipeE (ρ : Env) : List Nat → Env
  | [] => ρ
  | v :: vs => (wipeE ρ vs).set v none
theorem wipeE_length (ρ : Env) : ∀ vs : List Nat, (wipeE ρ vs).length = ρ.length
  | [] => rfl
  | v :: vs => by unfold wipeE; rw [List.length_set, wipeE_length ρ vs]
theorem wipeE_some {ρ : Env} {i : Nat} {x : Val} : ∀ {vs : List Nat}, (wipeE ρ vs)[i]? = some (some x) → ρ[i]? = some (some x) ∧ i ∉ vs
  | [], h => ⟨h, by simp⟩
  | v :: vs, h => by
    unfold wipeE at h
    by_cases hi : v = i
    · subst hi
      by_cases hv : v < (wipeE ρ vs).length
      · rw [List.getElem?_set_self hv] at h; cases h
      · rw [List.getElem?_eq_none (by simpa using hv)] at h; cases h
    · rw [List.getElem?_set_ne hi] at h
      obtain ⟨h1, h2⟩ := wipeE_some h
      exact ⟨h1, by simp only [List.mem_cons, not_or]; exact ⟨fun e => hi e.symm, h2⟩⟩
def lcL (g : G) (c : ET) (e : E) (ρ : Env) : List Val → Sto → Res (List Val)
  | [], st => .ok [] st
  | v :: vs, st => match g v ρ st with
    | some (ρ1, st1) => match c ρ1 st1 with
      | .ok true st2 => match e ρ1 st2 with
        | .ok y st3 => match lcL g c e ρ vs st3 with
          | .ok ys st4 => .ok (y :: ys) st4
          | _ => .bad
        | _ => .bad
      | .ok false st2 => lcL g c e ρ vs st2
      | _ => .bad
    | none => .bad
def eYes : ET := fun _ st => .ok true st
/-- .lst: a value; else a thing of the store -/
def lcR (new : Bool) (ys : List Val) (st : Sto) : Res Val := if new then .ok (.loc st.length) (st ++ [.lst ys]) else .ok (.lst ys) st
def lcE (new : Bool) (own : List Nat) (g : G) (c : ET) (e : E) (ρ : Env) (items : List Val) (st : Sto) : Res Val :=
  if items.length < sizeLine then (match lcL g c e (wipeE ρ own) items st with
    | .ok ys st2 => lcR new ys st2
    | _ => .bad) else .bad
def eLc (new : Bool) (own : List Nat) (it : EI) (g : G) (c : ET) (e : E) : E := fun ρ st => bindR (it ρ st) fun items st1 => lcE new own g c e ρ items st1
theorem t_yes {φ : Phi} {ρ : Env} {st : Sto} {σ : L2.St} {H : Hp} {Q : Bool → Hp → Prop} (h : tT T W eYes σ H Q) : tYes σ H Q := by
  obtain ⟨φ, ρ, st, re, p⟩ := h
  exact p.ok_self re.rst rfl
theorem pts_imp {ifs : List Expr} {t t' : TT} (h : PTs X ifs t) (k : ∀ σ H Q, t' σ H Q → t σ H Q) : PTs X ifs t' := ⟨fun pins s σ H Q I q => h.run pins s σ H Q I (k _ _ _ q)⟩
theorem ts_nil : PTs X [] (tT T W eYes) := pts_imp pts_nil fun _ _ _ h => by
  obtain ⟨φ, ρ, st, re, p⟩ := h
  exact p.ok_self re.rst rfl
theorem ts_one {c : Expr} {t : ET} (h : PT X c (tT T W t)) : PTs X [c] (tT T W t) := pts_one h
/-- nothing is let out -/
abbrev W0 : WX := fun _ _ _ _ => False
/-- what is left of a comprehension -/
def RestL (T : Tab) (W : WX) (φ1 : Phi) (σ : L2.St) (H1 : Hp) (Q : VK) (new : Bool) (g : G) (c : ET) (e : E) (ρ : Env) (items ys : List Val) (st : Sto) : Prop := match lcL g c e ρ items st with
  | .ok zs st' => Post T (RelV T) W φ1 σ H1 Q (lcR new (ys ++ zs) st')
  | _ => False
theorem wipe_wipe {σ : L2.St} {vs : List Nat} : wipe (wipe σ vs) vs = wipe σ vs := by
  apply List.ext_getElem?
  intro j
  rw [wipe_get, wipe_length, wipe_get]
  by_cases hj : j ∈ vs
  · rw [if_pos hj, if_pos hj]
  · rw [if_neg hj, if_neg hj]
/-- the reading of a comprehension -/
theorem lc_sound {new : Bool} {own : List Nat} {it : EI} {g : G} {c : ET} {e : E} {σ : L2.St} {H : Hp} {Q : VK} (h : tE T W (eLc new own it g c e) σ H Q) :
    tLc (tI T W it) (tGw T own g) (tT T W0 c) (tE T W0 e) own σ H Q := by
  unfold tLc
  refine tG_bind h fun items ρ st1 φ1 H1 J re1 w p => fun D hD => ?_
  obtain ⟨Gd, Y, w1, w2, w3⟩ := w
  unfold lcE at p
  split at p
  rename_i hz
  · -- the invariant
    have hR1 := re1.rst
    have nhD : ∀ a, a ∈ φ1.hid → a ≠ D := fun a h z => hR1.hid a h (z ▸ hD)
    have rest0 : RestL T W φ1 σ H1 Q new g c e (wipeE ρ own) (items.drop 0) [] st1 := by
      unfold RestL
      rw [List.drop_zero]
      cases hl : lcL g c e (wipeE ρ own) items st1 with
      | ok zs st' => rw [hl] at p; exact p
      | ex x st' => rw [hl] at p; exact p
      | bad => rw [hl] at p; exact p
    refine lc_it w1 (fun i H' => ∃ φ st ys us, Ext φ1 H1 φ H' ∧ Rst T (φ.hide D) st H' ∧ H' D = some (.lst us) ∧ RelVs T (φ.hide D) H' ys us ∧ ys.length ≤ i ∧ RestL T W φ1 σ H1 Q new g c e (wipeE ρ own) (items.drop i) ys st) ?_ (fun i H' _ ⟨φ, _, _, _, e, _⟩ => w2 φ H' e) ?_ ?_
    · exact ⟨φ1, st1, [], [], Ext.fresh hR1 hD, hR1.hide hD, upd_same, .nil, Nat.le_refl _, rest0⟩
    · intro i x H' H2 hi ⟨φ, st, ys, us, e1, R, hDl, rv, hl, rest⟩ y
      have ev1 := e1.intoV hD
      obtain ⟨e2, s2, v, hv, rx⟩ := w3 i H' x H2 (φ.hide D) st hi ev1 R y
      have hd : items.drop i = v :: items.drop (i + 1) := by
        obtain ⟨hl, hv⟩ := List.getElem?_eq_some_iff.mp hv
        rw [List.drop_eq_getElem_cons hl, hv]
      rw [hd] at rest
      have re2 : RelE T (φ.hide D) (wipeE ρ own) st (wipe σ own) H2 := by
        refine ⟨s2, by rw [wipeE_length, wipe_length]; exact re1.len, fun k w hw => ?_⟩
        obtain ⟨h1, h2⟩ := wipeE_some hw
        obtain ⟨u, h3, h4⟩ := re1.get k w h1
        exact ⟨u, by rw [wipe_get, if_neg h2]; exact h3, (h4.extV ev1).ext e2⟩
      refine ⟨φ.hide D, wipeE ρ own, st, v, re2, rx, ?_⟩
      unfold RestL lcL at rest
      cases hg : g v (wipeE ρ own) st with
      | none => rw [hg] at rest; exact rest
      | some q =>
        obtain ⟨ρ3, st3⟩ := q
        rw [hg] at rest
        dsimp only at rest
        intro φ3 H3 σ3 e3 re3 hw3
        refine ⟨by rw [hw3, wipe_wipe], φ3, ρ3, st3, re3, ?_⟩
        cases hc : c ρ3 st3 with
        | ex x st4 => rw [hc] at rest; exact rest.elim
        | bad => rw [hc] at rest; exact rest.elim
        | ok b st4 =>
          rw [hc] at rest
          intro φ4 H4 b' e4 s4 hb
          subst hb
          have e24 := (e2.trans e3).trans e4
          cases b with
          | false =>
            refine iteF ?_
            obtain ⟨φ', rfl, ex1, _⟩ := Ext.outof e1 e24 hD nhD
            exact ⟨φ', st4, ys, us, ex1, s4, (e24.hidk D (List.mem_cons_self ..)).trans hDl, rv.ext e24, Nat.le_succ_of_le hl, rest⟩
          | true =>
            refine iteT ⟨φ4, ρ3, st4, re3.ext e4 s4, ?_⟩
            dsimp only at rest
            cases he : e ρ3 st4 with
            | ex x st5 => rw [he] at rest; exact rest.elim
            | bad => rw [he] at rest; exact rest.elim
            | ok y st5 =>
              rw [he] at rest
              dsimp only at rest
              intro φ5 H5 u5 e5 s5 r5
              have e25 := e24.trans e5
              obtain ⟨φ', rfl, ex1, ex2⟩ := Ext.outof e1 e25 hD nhD
              have hD5 : H5 D = some (.lst us) := (e25.hidk D (List.mem_cons_self ..)).trans hDl
              have hnt : ∀ ws, H5 D ≠ some (.tup ws) := fun ws z => by rw [hD5] at z; cases z
              refine ⟨us, hD5, ?_, φ', st5, ys ++ [y], us ++ [u5], ex2 _, s5.hidden hnt, upd_same, ((rv.ext e25).append (.cons r5 .nil)).extV (hidden_v hnt), ?_, ?_⟩
              · rw [← rv.length]
                exact Nat.lt_of_le_of_lt hl (Nat.lt_trans hi hz)
              · rw [List.length_append]
                exact Nat.succ_le_succ hl
              · unfold RestL
                cases hr : lcL g c e (wipeE ρ own) (items.drop (i + 1)) st5 with
                | ex x st6 => rw [hr] at rest; exact rest.elim
                | bad => rw [hr] at rest; exact rest.elim
                | ok zs st6 =>
                  rw [hr] at rest
                  dsimp only at rest ⊢
                  rw [List.append_assoc]
                  exact rest
    · intro H' ⟨φ, st, ys, us, e1, R, hDl, rv, hl, rest⟩
      rw [List.drop_length] at rest
      unfold RestL lcL at rest
      dsimp only at rest
      rw [List.append_nil] at rest
      have nD : ¬ Live φ D := by
        rintro (⟨n, hn⟩ | hm)
        · exact R.apart n D hn (List.mem_cons_self ..)
        · exact nhD D (e1.hid ▸ hm) rfl
      have R' := R.unhide
      have rv' := rv.extV unhideV
      unfold lcR at rest
      cases new with
      | false => exact rest φ H' _ e1 R' (.lst (.inl ⟨nD, .inl hDl⟩) rv')
      | true =>
        have rest : Post T (RelV T) W φ1 σ H1 Q (.ok (.loc st.length) (st ++ [.lst ys])) := rest
        have exA : Ext φ1 H1 (φ.add D) H' := {
          len := Nat.le_trans e1.len (by show φ.l.length ≤ (φ.l ++ [some D]).length; simp)
          old := fun n a h hn => by
            rcases add_get h with ⟨_, q⟩ | ⟨q, _⟩
            · exact e1.old n a q hn
            · have := e1.len; omega
          new := fun n a h hn => by
            rcases add_get h with ⟨_, q⟩ | ⟨_, q⟩
            · exact e1.new n a q hn
            · rw [q]; exact hD
          tups := e1.tups
          rd := e1.rd
          non := e1.non
          hid := e1.hid
          hidk := e1.hidk }
        have evA : ExtV (φ.hide D) H' (φ.add D) H' := {
          len := by show φ.l.length ≤ (φ.l ++ [some D]).length; simp
          old := fun n a h hn => by
            rcases add_get h with ⟨_, q⟩ | ⟨q, _⟩
            · exact q
            · have : n < φ.l.length := hn; omega
          tups := fun _ _ h => h
          nl := fun a h _ => by
            obtain ⟨h1, h2⟩ := live_hide h
            rintro (⟨n, hn⟩ | hm)
            · rcases add_get hn with ⟨_, q⟩ | ⟨_, q⟩
              · exact h1 (.inl ⟨n, q⟩)
              · exact h2 q
            · exact h1 (.inr hm)
          rd := fun _ _ _ r => r }
        have RA : Rst T (φ.add D) (st ++ [.lst ys]) H' := {
          len := by show (φ.l ++ [some D]).length = _; simp [R'.len]
          inj := fun n m a h1 h2 => by
            rcases add_get h1 with ⟨_, q1⟩ | ⟨l1, q1⟩
            · rcases add_get h2 with ⟨_, q2⟩ | ⟨l2, q2⟩
              · exact R'.inj n m a q1 q2
              · subst q2; exact absurd (.inl ⟨n, q1⟩) nD
            · rcases add_get h2 with ⟨_, q2⟩ | ⟨l2, q2⟩
              · subst q1; exact absurd (.inl ⟨m, q2⟩) nD
              · omega
          ob := fun n o h => by
            by_cases hn : n < st.length
            · rw [List.getElem?_append_left hn] at h
              rcases R.ob n o h with ⟨q1, q2⟩ | ⟨a, q, r⟩
              · exact .inl ⟨q1, add_old q2⟩
              · exact .inr ⟨a, add_old q, r.extV evA rfl⟩
            · rw [List.getElem?_append_right (by omega)] at h
              have e : n - st.length = 0 := by
                have := (List.getElem?_eq_some_iff.mp h).1
                simp at this; omega
              rw [e] at h
              simp at h
              subst h
              refine .inr ⟨D, ?_, us, hDl, rv.extV evA⟩
              have : n = φ.l.length := by rw [R'.len]; omega
              subst this
              show (φ.l ++ [some D])[φ.l.length]? = _
              simp
          hid := R'.hid
          apart := fun n a h z => by
            rcases add_get h with ⟨_, q⟩ | ⟨_, q⟩
            · exact R'.apart n a q z
            · subst q; exact nD (.inr z) }
        exact rest _ H' _ exA RA (rel_loc R')
  · exact p.elim
theorem e_lc {new : Bool} {elt tg iter : Expr} {ifs : List Expr} {scope : Scope} (own : List (Str × Nat)) {pos : Pos} {it : EI} {g : G} {c : ET} {e : E} (hc : X.calm = true) (hN : X.N.Nodup) (hi : PI X tg iter (tI T W it)) (ok : BlkOk X.N X.env.scope scope own)
    (hg : ∀ (s : Shared) (H : Hp) (C : Addr) (cl : List (Str × Addr)) (fp : List Addr), PG (X.blk s H scope (compEnvC scope cl C X.env) fp) tg (tGw T (own.map (·.2)) g))
    (ht : ∀ (s : Shared) (H : Hp) (C : Addr) (cl : List (Str × Addr)) (fp : List Addr), PTs (X.blk s H scope (compEnvC scope cl C X.env) fp) ifs (tT T W0 c))
    (he : ∀ (s : Shared) (H : Hp) (C : Addr) (cl : List (Str × Addr)) (fp : List Addr), PE (X.blk s H scope (compEnvC scope cl C X.env) fp) elt (tE T W0 e)) (hs : ∀ x, foldedSetIterable iter X.env x = pure x := by intro _; rfl) :
    PE X (.ListComp elt [⟨tg, iter, ifs, 0⟩] scope pos) (tE T W (eLc new (own.map (·.2)) it g c e)) := pe_imp (pe_lc hc hN hi ok hg ht he hs) fun _ _ _ h => lc_sound h
/-- name = [..] on one line -/
theorem s_setLc {new : Bool} {i : Nat} {y : Str} {py : Pos} {elt tg iter : Expr} {ifs : List Expr} {scope : Scope} (own : List (Str × Nat)) {pos spos : Pos} {it : EI} {g : G} {c : ET} {e : E} (hc : X.calm = true) (hN : X.N.Nodup) (hi : PI X tg iter (tI T W it)) (ok : BlkOk X.N X.env.scope scope own)
    (hg : ∀ (s : Shared) (H : Hp) (C : Addr) (cl : List (Str × Addr)) (fp : List Addr), PG (X.blk s H scope (compEnvC scope cl C X.env) fp) tg (tGw T (own.map (·.2)) g))
    (ht : ∀ (s : Shared) (H : Hp) (C : Addr) (cl : List (Str × Addr)) (fp : List Addr), PTs (X.blk s H scope (compEnvC scope cl C X.env) fp) ifs (tT T W0 c))
    (he : ∀ (s : Shared) (H : Hp) (C : Addr) (cl : List (Str × Addr)) (fp : List Addr), PE (X.blk s H scope (compEnvC scope cl C X.env) fp) elt (tE T W0 e))
    (hsw : swapsWith (.ListComp elt [⟨tg, iter, ifs, 0⟩] scope pos) (some (.Name y py)) spos.line X.env = pure true)
    (hy : X.N[i]? = some y := by rfl) (hyl : X.env.scope.names.lookup y = some .local := by rfl) (hs : ∀ x, foldedSetIterable iter X.env x = pure x := by intro _; rfl) :
    PS X (.Assign [.Name y py] (.ListComp elt [⟨tg, iter, ifs, 0⟩] scope pos) spos) (tS T W (sSet i (eLc new (own.map (·.2)) it g c e))) := by
  refine ps_imp (ps_setLc hc hN hy hyl hsw hi ok hg ht he hs) fun D σ H h => ?_
  refine lc_sound (new := new) (W := W) ?_
  exact tS_bind h fun v ρ st1 φ1 H1 u re1 q1 p1 => p1 φ1 H1 _ Ext.refl (re1.set q1 i)
end
end Ev

set_option Elab.async false
set_option linter.all false
set_option maxRecDepth 100000
set_option maxHeartbeats 2000000
namespace Ev
open PySem PySem.Spec PyProof.Rows L2

mutual
def Val.same : Val → Val → Bool
  | .non, .non => true
  | .bl a, .bl b => a == b
  | .int a, .int b => decide (a = b)
  | .str a, .str b => decide (a = b)
  | .tup a, .tup b => Val.sames a b
  | .lst a, .lst b => Val.sames a b
  | .dct k a, .dct l b => decide (k = l) && Val.sames a b
  | .loc a, .loc b => a == b
  | .exc c k a, .exc d l b => c == d && decide (k = l) && Val.sames a b
  | _, _ => false
def Val.sames : List Val → List Val → Bool
  | [], [] => true
  | x :: xs, y :: ys => Val.same x y && Val.sames xs ys
  | _, _ => false
end
mutual
theorem Val.same_refl : ∀ v : Val, Val.same v v = true
  | .non => rfl
  | .bl b => by simp [Val.same]
  | .int i => by simp [Val.same]
  | .str s => by simp [Val.same]
  | .tup xs => by simp [Val.same, Val.sames_refl xs]
  | .lst xs => by simp [Val.same, Val.sames_refl xs]
  | .dct k xs => by simp [Val.same, Val.sames_refl xs]
  | .loc n => by simp [Val.same]
  | .exc c k xs => by simp [Val.same, Val.sames_refl xs]
theorem Val.sames_refl : ∀ vs : List Val, Val.sames vs vs = true
  | [] => rfl
  | v :: vs => by simp [Val.sames, Val.same_refl v, Val.sames_refl vs]
end
mutual
theorem Val.eq_of_same : ∀ {v w : Val}, Val.same v w = true → v = w
  | .non, w, h => by cases w <;> simp_all [Val.same]
  | .bl b, w, h => by cases w <;> simp_all [Val.same]
  | .int i, w, h => by cases w <;> simp_all [Val.same]
  | .str s, w, h => by cases w <;> simp_all [Val.same]
  | .loc n, w, h => by cases w <;> simp_all [Val.same]
  | .tup xs, w, h => by
    cases w <;> simp only [Val.same] at h <;> first | cases h | rw [Val.eq_of_sames h]
  | .lst xs, w, h => by
    cases w <;> simp only [Val.same] at h <;> first | cases h | rw [Val.eq_of_sames h]
  | .dct k xs, w, h => by
    cases w <;> simp only [Val.same, Bool.and_eq_true, decide_eq_true_eq] at h <;> first | cases h; done | (obtain ⟨h1, h2⟩ := h; rw [h1, Val.eq_of_sames h2])
  | .exc c k xs, w, h => by
    cases w <;> simp only [Val.same, Bool.and_eq_true, decide_eq_true_eq, beq_iff_eq] at h <;> first | cases h; done | (obtain ⟨⟨h0, h1⟩, h2⟩ := h; rw [h0, h1, Val.eq_of_sames h2])
theorem Val.eq_of_sames : ∀ {v w : List Val}, Val.sames v w = true → v = w
  | [], w, h => by cases w <;> simp_all [Val.sames]
  | x :: xs, w, h => by
    cases w with
    | nil => cases h
    | cons y ys =>
      simp only [Val.sames, Bool.and_eq_true] at h
      rw [Val.eq_of_same h.1, Val.eq_of_sames h.2]
end
def pairsSame {κ : Type} [DecidableEq κ] : List (κ × Val) → List (κ × Val) → Bool
  | [], [] => true
  | x :: xs, y :: ys => decide (x.1 = y.1) && Val.same x.2 y.2 && pairsSame xs ys
  | _, _ => false
theorem pairsSame_refl {κ : Type} [DecidableEq κ] : ∀ xs : List (κ × Val), pairsSame xs xs = true
  | [] => rfl
  | x :: xs => by simp [pairsSame, Val.same_refl, pairsSame_refl xs]
theorem eq_of_pairs {κ : Type} [DecidableEq κ] : ∀ {xs ys : List (κ × Val)}, pairsSame xs ys = true → xs = ys
  | [], ys, h => by cases ys <;> simp_all [pairsSame]
  | x :: xs, ys, h => by
    cases ys with
    | nil => cases h
    | cons y ys =>
      simp only [pairsSame, Bool.and_eq_true, decide_eq_true_eq] at h
      obtain ⟨⟨h1, h2⟩, h3⟩ := h
      obtain ⟨a, b⟩ := x
      obtain ⟨c, d⟩ := y
      dsimp only at h1 h2
      rw [h1, Val.eq_of_same h2, eq_of_pairs h3]
def Ob.same : Ob → Ob → Bool
  | .dead, .dead => true
  | .lst a, .lst b => Val.sames a b
  | .dK a, .dK b => pairsSame a b
  | .dT a, .dT b => pairsSame a b
  | .lkK a, .lkK b => pairsSame a b
  | .lkT a, .lkT b => pairsSame a b
  | .ins c a, .ins d b => c == d && pairsSame a b
  | _, _ => false
theorem Ob.same_refl : ∀ o : Ob, Ob.same o o = true
  | .dead => rfl
  | .lst a => Val.sames_refl a
  | .dK a => pairsSame_refl a
  | .dT a => pairsSame_refl a
  | .lkK a => pairsSame_refl a
  | .lkT a => pairsSame_refl a
  | .ins c a => by simp [Ob.same, pairsSame_refl a]
theorem Ob.eq_of_same {o p : Ob} (h : Ob.same o p = true) : o = p := by
  cases o <;> cases p <;> simp only [Ob.same, Bool.and_eq_true, beq_iff_eq] at h <;> first | cases h; done | rfl | rw [Val.eq_of_sames h] | rw [eq_of_pairs h] | (rw [h.1, eq_of_pairs h.2])

mutual
def belV (n : Nat) : Val → Bool
  | .tup xs => belVs n xs
  | .lst xs => belVs n xs
  | .dct _ xs => belVs n xs
  | .exc _ _ xs => belVs n xs
  | .loc m => decide (m < n)
  | _ => true
def belVs (n : Nat) : List Val → Bool
  | [] => true
  | x :: xs => belV n x && belVs n xs
end
def belOb (n : Nat) : Ob → Bool
  | .dead => true
  | .lst a => belVs n a
  | .dK a => a.all fun p => belV n p.2
  | .dT a => a.all fun p => belV n p.2
  | .lkK a => a.all fun p => belV n p.2
  | .lkT a => a.all fun p => belV n p.2
  | .ins _ a => a.all fun p => belV n p.2
def Phi.tk (φ : Phi) (n : Nat) : Phi := { φ with l := φ.l.take n }
section
variable {T : Tab} {φ : Phi} {H : Hp}
mutual
theorem bel_of_rel : ∀ {v : Val} {u : V}, RelV T φ H v u → belV φ.l.length v = true
  | _, _, .non => rfl
  | _, _, .bl _ => rfl
  | _, _, .int _ => rfl
  | _, _, .str _ => rfl
  | _, _, .tup _ r => bels_of_rel r
  | _, _, .lst _ r => bels_of_rel r
  | _, _, .dct _ _ _ r => bels_of_rel r
  | _, _, .exc _ _ _ _ _ r => bels_of_rel r
  | _, _, .loc h _ => decide_eq_true h
theorem bels_of_rel : ∀ {v : List Val} {u : List V}, RelVs T φ H v u → belVs φ.l.length v = true
  | _, _, .nil => rfl
  | _, _, .cons a b => by rw [belVs, bel_of_rel a, bels_of_rel b]; rfl
end
theorem tk_get {n k : Nat} {a : Addr} (h : (φ.tk n).l[k]? = some (some a)) : k < n ∧ φ.l[k]? = some (some a) := by
  have h : (φ.l.take n)[k]? = some (some a) := h
  rw [List.getElem?_take] at h
  split at h
  · exact ⟨by assumption, h⟩
  · cases h
theorem live_tk {n : Nat} {a : Addr} (h : ¬ Live φ a) : ¬ Live (φ.tk n) a := by
  rintro (⟨k, hk⟩ | hm)
  · exact h (.inl ⟨k, (tk_get hk).2⟩)
  · exact h (.inr hm)
mutual
theorem rel_tk {n : Nat} (hn : n ≤ φ.l.length) : ∀ {v : Val} {u : V}, RelV T φ H v u → belV n v = true → RelV T (φ.tk n) H v u
  | _, _, .non, _ => .non
  | _, _, .bl b, _ => .bl b
  | _, _, .int i, _ => .int i
  | _, _, .str s, _ => .str s
  | _, _, .tup h r, q => .tup h (rels_tk hn r q)
  | _, _, .lst h r, q => .lst (h.elim (fun z => .inl ⟨live_tk z.1, z.2⟩) .inr) (rels_tk hn r q)
  | _, _, .dct n1 h l r, q => .dct (live_tk n1) h l (rels_tk hn r q)
  | _, _, .exc n1 n2 h1 h2 l r, q => .exc (live_tk n1) (live_tk n2) h1 h2 l (rels_tk hn r q)
  | _, _, .loc h r, q => .loc (by
      have q := of_decide_eq_true q
      show _ < (φ.l.take n).length
      rw [List.length_take]; omega) (fun a z => r a (tk_get z).2)
theorem rels_tk {n : Nat} (hn : n ≤ φ.l.length) : ∀ {v : List Val} {u : List V}, RelVs T φ H v u → belVs n v = true → RelVs T (φ.tk n) H v u
  | _, _, .nil, _ => .nil
  | _, _, .cons a b, q => by
    rw [belVs, Bool.and_eq_true] at q
    exact .cons (rel_tk hn a q.1) (rels_tk hn b q.2)
end
theorem relF_tk {κ : Type} {n : Nat} (hn : n ≤ φ.l.length) {xs : List (κ × Val)} {us : List (κ × V)} (r : RelF T φ H xs us) (h : (xs.all fun p => belV n p.2) = true) : RelF T (φ.tk n) H xs us := by
  induction r with
  | nil => exact .nil
  | cons a _ ih =>
    rw [List.all_cons, Bool.and_eq_true] at h
    exact .cons ⟨a.1, rel_tk hn a.2 h.1⟩ (ih h.2)
theorem relF_bel {κ : Type} {xs : List (κ × Val)} {us : List (κ × V)} (r : RelF T φ H xs us) : (xs.all fun p => belV φ.l.length p.2) = true := by
  induction r with
  | nil => rfl
  | cons a _ ih => rw [List.all_cons, bel_of_rel a.2, ih]; rfl
theorem relOb_tk {n : Nat} (hn : n ≤ φ.l.length) {o : Ob} {a : Addr} (r : RelOb T φ H o a) (h : belOb n o = true) : RelOb T (φ.tk n) H o a := by
  cases o with
  | dead => exact r
  | lst xs => obtain ⟨us, q, r⟩ := r; exact ⟨us, q, rels_tk hn r h⟩
  | dK kvs => obtain ⟨us, q, r⟩ := r; exact ⟨us, q, relF_tk hn r h⟩
  | dT kvs => obtain ⟨us, q, r⟩ := r; exact ⟨us, q, relF_tk hn r h⟩
  | lkK kvs => obtain ⟨o, us, q, r⟩ := r; exact ⟨o, us, q, relF_tk hn r h⟩
  | lkT kvs => obtain ⟨o, us, q, r⟩ := r; exact ⟨o, us, q, relF_tk hn r h⟩
  | ins c fs => obtain ⟨o, us, q, r⟩ := r; exact ⟨o, us, q, relF_tk hn r h⟩
theorem relOb_bel {o : Ob} {a : Addr} (r : RelOb T φ H o a) : belOb φ.l.length o = true := by
  cases o with
  | dead => rfl
  | lst xs => obtain ⟨us, q, r⟩ := r; exact bels_of_rel r
  | dK kvs => obtain ⟨us, q, r⟩ := r; exact relF_bel r
  | dT kvs => obtain ⟨us, q, r⟩ := r; exact relF_bel r
  | lkK kvs => obtain ⟨o, us, q, r⟩ := r; exact relF_bel r
  | lkT kvs => obtain ⟨o, us, q, r⟩ := r; exact relF_bel r
  | ins c fs => obtain ⟨o, us, q, r⟩ := r; exact relF_bel r
end
/-- the store's first things are as they were, or reach no new thing -/
def okOld (st0 st : Sto) : Bool := (List.range st0.length).all fun i => match st0[i]?, st[i]? with
  | some a, some b => Ob.same a b || belOb st0.length b
  | _, _ => false
/-- a store's list or dict, let go -/
def frz1 (n : Nat) (st : Sto) (v : Val) : Option Val := if belV n v then some v else match v with
  | .loc m => match st[m]? with
    | some (.lst xs) => if belVs n xs then some (.lst xs) else none
    | some (.dK kvs) => if (kvs.all fun p => belV n p.2) then some (.dct (kvs.map (·.1)) (kvs.map (·.2))) else none
    | _ => none
  | _ => none
def frzs (n : Nat) (st : Sto) : List Val → Option (List Val)
  | [] => some []
  | x :: xs => match frz1 n st x, frzs n st xs with
    | some y, some ys => some (y :: ys)
    | _, _ => none
def frzV (n : Nat) (st : Sto) (v : Val) : Option Val := match frz1 n st v with
  | some w => some w
  | none => match v with
    | .tup xs => (frzs n st xs).map .tup
    | _ => none
/-- what a call leaves -/
def fin (st0 : Sto) (v : Val) (st : Sto) : Res Val := if okOld st0 st then (match frzV st0.length st v with
  | some w => .ok w (st.take st0.length)
  | none => .ok v st) else .ok v st
def finX (st0 : Sto) (x : Val) (st : Sto) : Res Val := if okOld st0 st && belV st0.length x then .ex x (st.take st0.length) else .ex x st
def outF (st0 : Sto) : SR → Res Val
  | .nx _ st => fin st0 .non st
  | .rt v st => fin st0 v st
  | .ex x _ st => finX st0 x st
  | _ => .bad
def startE (n : Nat) (args : List Val) : Env := args.map some ++ List.replicate (n - args.length) none
abbrev Fn := List Val → Sto → Res Val
def runF (n : Nat) (body : S) : Fn := fun args st => outF st (body (startE n args) st)

section
variable {T : Tab} {φ φ' : Phi} {H H' : Hp} {st st' : Sto}
theorem okOld_get (h : okOld st st' = true) {i : Nat} {b : Ob} (hi : i < st.length) (hb : st'[i]? = some b) : st[i]? = some b ∨ belOb st.length b = true := by
  unfold okOld at h
  rw [List.all_eq_true] at h
  have q := h i (List.mem_range.mpr hi)
  rw [List.getElem?_eq_getElem hi, hb] at q
  dsimp only at q
  rw [Bool.or_eq_true] at q
  rcases q with q | q
  · exact .inl (by rw [List.getElem?_eq_getElem hi, Ob.eq_of_same q])
  · exact .inr q
theorem Ext.tk (R : Rst T φ st H) (e : Ext φ H φ' H') : Ext φ H (φ'.tk st.length) H' where
  len := by
    show φ.l.length ≤ (φ'.l.take st.length).length
    rw [List.length_take, ← R.len]
    have := e.len
    omega
  old := fun n a h hn => e.old n a (tk_get h).2 hn
  new := fun n a h hn => e.new n a (tk_get h).2 hn
  tups := e.tups
  rd := e.rd
  non := e.non
  hid := e.hid
  hidk := e.hidk
theorem Rst.tk (R : Rst T φ st H) (e : Ext φ H φ' H') (R' : Rst T φ' st' H') (h : okOld st st' = true) : Rst T (φ'.tk st.length) (st'.take st.length) H' where
  len := by
    show (φ'.l.take st.length).length = _
    rw [List.length_take, List.length_take, R'.len]
  inj := fun n m a h1 h2 => R'.inj n m a (tk_get h1).2 (tk_get h2).2
  ob := fun n o ho => by
    have hn : n < st.length := by
      have := (List.getElem?_eq_some_iff.mp ho).1
      rw [List.length_take] at this
      omega
    rw [List.getElem?_take_of_lt hn] at ho
    have hle : st.length ≤ φ'.l.length := by rw [← R.len]; exact e.len
    have keep : ∀ {x : Option Addr}, φ'.l[n]? = some x → (φ'.tk st.length).l[n]? = some x := fun {x} q => by
      show (φ'.l.take st.length)[n]? = _
      rw [List.getElem?_take_of_lt hn]; exact q
    rcases R'.ob n o ho with ⟨q1, q2⟩ | ⟨a, q, r⟩
    · exact .inl ⟨q1, keep q2⟩
    · refine .inr ⟨a, keep q, relOb_tk hle r ?_⟩
      rcases okOld_get h hn ho with z | z
      · rcases R.ob n o z with ⟨rfl, _⟩ | ⟨b, _, r2⟩
        · rfl
        · rw [← R.len]; exact relOb_bel r2
      · exact z
  hid := R'.hid
  apart := fun n a h1 => R'.apart n a (tk_get h1).2
theorem rel_frz1 (R : Rst T φ st H) (e : Ext φ H φ' H') (R' : Rst T φ' st' H') {v w : Val} {u : V} (r : RelV T φ' H' v u) (h : frz1 st.length st' v = some w) : RelV T (φ'.tk st.length) H' w u := by
  have hle : st.length ≤ φ'.l.length := by rw [← R.len]; exact e.len
  unfold frz1 at h
  split at h
  · rename_i hb
    cases h
    exact rel_tk hle r hb
  · rename_i hnb
    split at h
    · rename_i m
      have hm : st.length ≤ m := by
        refine Nat.le_of_not_lt fun z => hnb ?_
        exact decide_eq_true z
      have nl : ∀ a, φ'.l[m]? = some (some a) → ¬ Live (φ'.tk st.length) a := fun a ha => by
        rintro (⟨k, hk⟩ | hh)
        · obtain ⟨h1, h2⟩ := tk_get hk
          have := R'.inj k m a h2 ha
          omega
        · exact R'.apart m a ha hh
      cases r with
      | loc hn hu =>
        split at h
        · rename_i xs q
          split at h
          · rename_i hb
            cases h
            obtain ⟨a, e1, us, e2, e3⟩ := R'.at q (by simp)
            rw [hu a e1]
            exact .lst (.inl ⟨nl a e1, .inl e2⟩) (rels_tk hle e3 hb)
          · cases h
        · rename_i kvs q
          split at h
          · rename_i hb
            cases h
            obtain ⟨a, e1, us, e2, e3⟩ := R'.at q (by simp)
            rw [hu a e1]
            have hk : us = (kvs.map (·.1)).zip (us.map (·.2)) := by
              clear hb q e2
              induction e3 with
              | nil => rfl
              | cons a _ ih =>
                rename_i p q _ _ _
                obtain ⟨x, y⟩ := q
                have h1 : p.1 = x := a.1
                simp only [List.map_cons, List.zip_cons_cons, h1, ← ih]
            have hv : RelVs T (φ'.tk st.length) H' (kvs.map (·.2)) (us.map (·.2)) := by
              clear hk q e2
              have e4 := relF_tk hle e3 hb
              clear hb e3
              induction e4 with
              | nil => exact .nil
              | cons a _ ih => exact .cons a.2 ih
            refine .dct (nl a e1) (.inl (by rw [← hk]; exact e2)) ?_ hv
            rw [List.length_map, List.length_map]
            exact Paired.length e3
          · cases h
        · cases h
    · cases h
theorem rel_frzs (R : Rst T φ st H) (e : Ext φ H φ' H') (R' : Rst T φ' st' H') : ∀ {vs ws : List Val} {us : List V}, RelVs T φ' H' vs us → frzs st.length st' vs = some ws → RelVs T (φ'.tk st.length) H' ws us
  | _, _, _, .nil, h => by cases h; exact .nil
  | _, _, _, .cons a b, h => by
    rw [frzs] at h
    split at h
    · rename_i y ys e1 e2
      cases h
      exact .cons (rel_frz1 R e R' a e1) (rel_frzs R e R' b e2)
    · cases h
theorem rel_frzV (R : Rst T φ st H) (e : Ext φ H φ' H') (R' : Rst T φ' st' H') {v w : Val} {u : V} (r : RelV T φ' H' v u) (h : frzV st.length st' v = some w) : RelV T (φ'.tk st.length) H' w u := by
  unfold frzV at h
  split at h
  · rename_i z e1
    cases h
    exact rel_frz1 R e R' r e1
  · split at h
    · simp only [Option.map_eq_some_iff] at h
      obtain ⟨ws, e1, rfl⟩ := h
      cases r with
      | tup h1 h2 => exact .tup h1 (rel_frzs R e R' h2 e1)
    · cases h
end

def PostF (T : Tab) (φ : Phi) (H : Hp) (Q : VK) (E : XK) : Res Val → Prop
  | .ok v st => ∀ φ' H' u, Ext φ H φ' H' → Rst T φ' st H' → RelV T φ' H' v u → Q u H'
  | .ex x st => ∀ φ' H' c d, Ext φ H φ' H' → Rst T φ' st H' → RelX T φ' H' x c d → E c d H'
  | .bad => False
def spF (T : Tab) (np : Nat) (m : Fn) : Sp := fun vs H Q E => vs.length = np ∧ ∃ φ args st, Rst T φ st H ∧ RelVs T φ H args vs ∧ PostF T φ H Q E (m args st)
section
variable {T : Tab}
theorem relX_tk {φ : Phi} {H : Hp} {n : Nat} {x : Val} {c : Value} {d : Option Addr} (hn : n ≤ φ.l.length) (r : RelX T φ H x c d) (h : belV n x = true) : RelX T (φ.tk n) H x c d := by
  obtain ⟨k, ns, vs, us, dd, rfl, h1, h2, h3, h4, h5, h6⟩ := r
  exact ⟨k, ns, vs, us, dd, rfl, h1, h2, live_tk h3, h4, h5, rels_tk hn h6 h⟩
theorem relE_start {φ : Phi} {st : Sto} {H : Hp} {N : List Str} {args : List Val} {vs : List V} (R : Rst T φ st H) (r : RelVs T φ H args vs) (hl : vs.length ≤ N.length) : RelE T φ (startE N.length args) st (L2.start N vs) H := by
  have hlen := r.length
  refine ⟨R, ?_, fun i v h => ?_⟩
  · unfold startE L2.start
    simp only [List.length_append, List.length_map, List.length_replicate]
    omega
  · unfold startE at h
    unfold L2.start
    by_cases hi : i < args.length
    · rw [List.getElem?_append_left (by simpa using hi), List.getElem?_map] at h
      cases e : args[i]? with
      | none => rw [e] at h; cases h
      | some a =>
        rw [e] at h
        cases h
        obtain ⟨u, h1, h2⟩ := r.get e
        exact ⟨u, by rw [List.getElem?_append_left (by simp; omega), List.getElem?_map, h1]; rfl, h2⟩
    · rw [List.getElem?_append_right (by simp; omega), List.getElem?_replicate] at h
      split at h <;> cases h
theorem body_sound {N : List Str} {np : Nat} {body : S} {vs : List V} {H : Hp} {Q : VK} {E : XK} (hn : np ≤ N.length) (h : spF T np (runF N.length body) vs H Q E) :
    tS T (fun c d _ H' => E c d H') body { nx := fun _ H' => Q .non H', rt := Q } (L2.start N vs) H := by
  obtain ⟨hl, φ, args, st, R, r, p⟩ := h
  refine ⟨φ, startE N.length args, st, relE_start R r (by omega), ?_⟩
  unfold runF at p
  have done : ∀ v st' φ' H' u, PostF T φ H Q E (fin st v st') → Ext φ H φ' H' → Rst T φ' st' H' → RelV T φ' H' v u → Q u H' := by
    intro v st' φ' H' u p e R' rv
    unfold fin at p
    split at p
    · rename_i ho
      split at p
      · rename_i w hw
        exact p _ H' u (Ext.tk R e) (Rst.tk R e R' ho) (rel_frzV R e R' rv hw)
      · exact p φ' H' u e R' rv
    · exact p φ' H' u e R' rv
  cases hb : body (startE N.length args) st with
  | nx ρ st' => rw [hb] at p; exact fun φ' H' σ' e re => done .non st' φ' H' .non p e re.rst .non
  | rt v st' => rw [hb] at p; exact fun φ' H' u e s q => done v st' φ' H' u p e s q
  | bk ρ st' => rw [hb] at p; exact p.elim
  | ct ρ st' => rw [hb] at p; exact p.elim
  | bad => rw [hb] at p; exact p.elim
  | ex x ρ st' =>
    rw [hb] at p
    intro φ' H' σ' c d e re rx
    have p : PostF T φ H Q E (finX st x st') := p
    unfold finX at p
    split at p
    · rename_i hh
      rw [Bool.and_eq_true] at hh
      have hle : st.length ≤ φ'.l.length := by rw [← R.len]; exact e.len
      exact p _ H' c d (Ext.tk R e) (Rst.tk R e re.rst hh.1) (relX_tk hle rx hh.2)
    · exact p φ' H' c d e re.rst rx
/-- a def whose new things are not let go -/
def outK : SR → Res Val
  | .nx _ st => .ok .non st
  | .rt v st => .ok v st
  | .ex x _ st => .ex x st
  | _ => .bad
def runK (n : Nat) (body : S) : Fn := fun args st => outK (body (startE n args) st)
inductive IsRun (n : Nat) (body : S) : Fn → Prop
  | f : IsRun n body (runF n body)
  | k : IsRun n body (runK n body)
theorem body_soundR {N : List Str} {np : Nat} {body : S} {m : Fn} (hm : IsRun N.length body m) {vs : List V} {H : Hp} {Q : VK} {E : XK} (hn : np ≤ N.length) (h : spF T np m vs H Q E) :
    tS T (fun c d _ H' => E c d H') body { nx := fun _ H' => Q .non H', rt := Q } (L2.start N vs) H := by
  cases hm with
  | f => exact body_sound hn h
  | k =>
    obtain ⟨hl, φ, args, st, R, r, p⟩ := h
    refine ⟨φ, startE N.length args, st, relE_start R r (by omega), ?_⟩
    unfold runK at p
    cases hb : body (startE N.length args) st with
    | nx ρ st' => rw [hb] at p; exact fun φ' H' σ' e re => p φ' H' .non e re.rst .non
    | rt v st' => rw [hb] at p; exact fun φ' H' u e s q => p φ' H' u e s q
    | bk ρ st' => rw [hb] at p; exact p.elim
    | ct ρ st' => rw [hb] at p; exact p.elim
    | bad => rw [hb] at p; exact p.elim
    | ex x ρ st' => rw [hb] at p; exact fun φ' H' σ' c d e re rx => p φ' H' c d e re.rst rx
/-- THE RULE for a def -/
theorem fn_ok {P : Program} {w : World} {K : PySem.W.Frag} {mg : Str → Option Value} {base : Heap} {x qual : Str} {st : Stmt} {f : Addr} {fd : FuncData} {N ps : List Str} {k : Nat} {body : S} (F : Fun K x qual st f fd) (Sc : FnScope N ps (defScope st))
    (hb : ∀ (cdv : Value) (A : Around) (outer : List PySem.Env) (s : Shared) (H : Hp) (E : XK), Room k (A.deeper (envOfC qual (defScope st) s.heap.objs.size f cdv)) →
      PSs (cxOf (L2.CX P w) P w K mg base N qual (defScope st) f cdv A outer s H E) (defBody st) (tS T (fun c d _ H' => E c d H') body)) : FnOk P w K mg base (L2.CX P w) (k + 1) f fd ps (spF T ps.length (runF N.length body)) := by
  have hpl : ps.length ≤ N.length := by have := congrArg List.length Sc.pre; rw [List.length_take] at this; omega
  exact F.okX Sc (fun vs H Q E h => h.1) fun cdv A outer s H vs Q E hr h => ⟨_, hb cdv A outer s H E hr, body_sound hpl h⟩
end

section
variable {X : Cx} {T : Tab} {W : WX}
def eCall (np : Nat) (m : Fn) (a : EA) : E := fun ρ st => bindR (a ρ st) fun vs st1 => if vs.length = np then m vs st1 else .bad
theorem call_sound {m : Fn} {np : Nat} {vs : List Val} {us : List V} {φ : Phi} {st : Sto} {σ : L2.St} {H : Hp} {Q : VK} (R : Rst T φ st H) (r : RelVs T φ H vs us) (p : Post T (RelV T) W φ σ H Q (if vs.length = np then m vs st else .bad)) :
    spF T np m us H Q (fun c d H' => W c d σ H') := by
  split at p
  · rename_i hn
    refine ⟨by rw [← r.length]; exact hn, φ, vs, st, R, r, ?_⟩
    cases h : m vs st with
    | ok v st' => rw [h] at p; exact p
    | ex x st' => rw [h] at p; exact p
    | bad => rw [h] at p; exact p
  · exact p.elim
/-- f(a, ..) -/
theorem e_call {k : Nat} {f : Addr} {fd : FuncData} {ps : List Str} {m : Fn} {x : Str} {p pos : Pos} {e : Expr} {es : List Expr} {as : EA} (F : FnOk X.prog X.w X.K X.mg X.base (CX X.prog X.w) k f fd ps (spF T ps.length m)) (hr : Room k X.A) (hm : X.mg x = some (.ref f))
    (hk : PySem.W.keepIn X.K (.ref f) = true) (hb : Binds X.K fd ps []) (tk : Takes X W) (ha : PA X (e :: es) (tA T W as)) (hg : Gl X x := by rfl) (hdb : (x == ("__debug__" : Str)) = false := by decide)
    (he : starEach (e :: es) X.env = (false, eval e X.env) :: starEach es X.env := by rfl) (hpl : (backTo pos (starEach es X.env)).any (·.1) = false := by rfl) :
    PE X (.Call (.Name x p) (e :: es) [] pos) (tE T W (eCall ps.length m as)) := by
  refine pe_imp (pe_callS (E := fun σ c d H' => W c d σ H') F hr hg hm hk hb (fun σ => passAt tk σ) ha hdb he hpl) fun σ H Q h => ?_
  obtain ⟨φ, ρ, st, re, pp⟩ := h
  exact ⟨φ, ρ, st, re, post_bind pp fun vs st1 φ1 H1 us eq e1 s1 q1 p1 => call_sound s1 q1 p1⟩
/-- f() -/
theorem e_call0 {k : Nat} {f : Addr} {fd : FuncData} {m : Fn} {x : Str} {p pos : Pos} {E : XK} (F : FnOk X.prog X.w X.K X.mg X.base (CX X.prog X.w) k f fd [] (spF T 0 m)) (hr : Room k X.A) (hm : X.mg x = some (.ref f))
    (hk : PySem.W.keepIn X.K (.ref f) = true) (hb : Binds X.K fd [] []) (hx : Passes (CX X.prog X.w) X E) (hW : ∀ c d H' σ, W c d σ H' → E c d H') (hg : Gl X x := by rfl) (hdb : (x == ("__debug__" : Str)) = false := by decide) :
    PE X (.Call (.Name x p) [] [] pos) (tE T W (eCall 0 m eNil)) := by
  refine pe_imp (pe_call0 (E := E) F hr hg hm hk hb .nil hx hdb) fun σ H Q h => ?_
  obtain ⟨φ, ρ, st, re, pp⟩ := h
  have q := call_sound (np := 0) re.rst .nil pp
  obtain ⟨a1, φ1, args, st1, R1, r1, p1⟩ := q
  refine ⟨a1, φ1, args, st1, R1, r1, ?_⟩
  cases hm : m args st1 with
  | ok v st' => rw [hm] at p1; exact p1
  | ex x st' => rw [hm] at p1; exact fun φ' H' c d e s q => hW c d H' σ (p1 φ' H' c d e s q)
  | bad => rw [hm] at p1; exact p1

def SndC (T : Tab) (r : List V → Hp → VK → Prop) (f : Sto → List Val → Option Val) : Prop :=
  ∀ φ st H vs us z Q, Rst T φ st H → RelVs T φ H vs us → f st vs = some z →
    (∀ H' u, Ext φ H φ H' → Rst T φ st H' → RelV T φ H' z u → Q u H') → r us H Q
def eBf (f : Sto → List Val → Option Val) (a : EA) : E := fun ρ st => bindR (a ρ st) fun vs st1 => optR (f st1 vs) st1
theorem bf_sound {r : List V → Hp → VK → Prop} {f : Sto → List Val → Option Val} (hs : SndC T r f) {a : EA} {σ : L2.St} {H : Hp} {Q : VK} (h : tE T W (eBf f a) σ H Q) : tCB r (tA T W a) σ H Q := by
  refine tG_bind h fun vs ρ st1 φ1 H1 us re1 q1 p1 => ?_
  cases hf : f st1 vs with
  | none => rw [hf] at p1; exact p1.elim
  | some z =>
    rw [hf] at p1
    exact hs φ1 st1 H1 vs us z Q re1.rst q1 hf fun H' u e s q => p1 φ1 H' u e s q
theorem e_bf {id : String} {x : Str} {r : List V → Hp → VK → Prop} {f : Sto → List Val → Option Val} {e : Expr} {es : List Expr} {as : EA} {p pos : Pos} (hc : CallR X (.builtin id) r) (hs : SndC T r f) (hv : bootBuiltins x = some (.builtin id)) (hm : X.mg x = none) (ha : PA X (e :: es) (tA T W as)) (hg : Gl X x := by rfl)
    (hn : x ≠ "__name__" := by decide) (hdb : (x == ("__debug__" : Str)) = false := by decide) (he : starEach (e :: es) X.env = (false, eval e X.env) :: starEach es X.env := by rfl) (hpl : (backTo pos (starEach es X.env)).any (·.1) = false := by rfl) :
    PE X (.Call (.Name x p) (e :: es) [] pos) (tE T W (eBf f as)) := pe_imp (pe_callB hc hg hm hv ha hn hdb he hpl) fun _ _ _ h => bf_sound hs h
theorem e_bt {id : String} {x : Str} {r : List V → Hp → VK → Prop} {f : Sto → List Val → Option Val} {e : Expr} {es : List Expr} {as : EA} {p pos : Pos} (hc : CallR X (.type id) r) (hs : SndC T r f) (hv : bootBuiltins x = some (.type id)) (hm : X.mg x = none) (ha : PA X (e :: es) (tA T W as)) (hg : Gl X x := by rfl)
    (hn : x ≠ "__name__" := by decide) (hdb : (x == ("__debug__" : Str)) = false := by decide) (he : starEach (e :: es) X.env = (false, eval e X.env) :: starEach es X.env := by rfl) (hpl : (backTo pos (starEach es X.env)).any (·.1) = false := by rfl) :
    PE X (.Call (.Name x p) (e :: es) [] pos) (tE T W (eBf f as)) := pe_imp (pe_callTy hc hg hm hv ha hn hdb he hpl) fun _ _ _ h => bf_sound hs h
end
end Ev

set_option Elab.async false
set_option linter.all false
set_option maxRecDepth 100000
set_option maxHeartbeats 2000000
namespace Ev
open PySem PySem.Spec PyProof.Rows L2
section
variable {X : Cx} {T : Tab} {W : WX}

def eNewK : E := fun _ st => .ok (.loc st.length) (st ++ [.dK []])
def eNewT : E := fun _ st => .ok (.loc st.length) (st ++ [.dT []])
theorem e_newK {pos : Pos} : PE X (.Dict [] [] pos) (tE T W eNewK) := by
  refine pe_imp pe_dnewK fun σ H Q h => ?_
  obtain ⟨φ, ρ, st, re, p⟩ := h
  intro a ha
  exact p _ _ _ (Ext.alloc re.rst ha) (re.rst.alloc ha ⟨[], upd_same, .nil⟩) (rel_loc re.rst)
theorem e_newT {pos : Pos} : PE X (.Dict [] [] pos) (tE T W eNewT) := by
  refine pe_imp pe_dnewT fun σ H Q h => ?_
  obtain ⟨φ, ρ, st, re, p⟩ := h
  intro a ha
  exact p _ _ _ (Ext.alloc re.rst ha) (re.rst.alloc ha ⟨[], upd_same, .nil⟩) (rel_loc re.rst)
def mergeV (kvs more : List (Key × Val)) : List (Key × Val) := more.foldl (fun acc kv => put acc kv.1 kv.2) kvs
theorem rel_merge {φ : Phi} {H : Hp} : ∀ {more : List (Key × Val)} {rs : List (Key × V)} {kvs : List (Key × Val)} {us : List (Key × V)}, RelF T φ H more rs → RelF T φ H kvs us → RelF T φ H (mergeV kvs more) (mergeK us rs) := by
  intro more rs kvs us r
  unfold RelF at r
  induction r generalizing kvs us with
  | nil => intro q; exact q
  | @cons p q ps qs h t ih =>
    intro r0
    have e : RelF T φ H (put kvs p.1 p.2) (putK us q.1 q.2) := by
      have := rel_put r0 p.1 h.2
      rw [← h.1]; exact this
    exact ih e
/-- the pairs of a display: the keys are written -/
abbrev EP := Env → Sto → Res (List (Key × Val))
def epNil : EP := fun _ st => .ok [] st
def epCons (k : E) (v : E) (r : EP) : EP := fun ρ st => match k ρ st with
  | .ok kk st0 => match keyOf kk with
    | some k' => match v ρ st0 with
      | .ok z st1 => match r ρ st1 with
        | .ok zs st2 => .ok ((k', z) :: zs) st2
        | _ => .bad
      | _ => .bad
    | none => .bad
  | _ => .bad
def tP (T : Tab) (W : WX) (r : EP) : L2.St → Hp → (List (V × V) → Hp → Prop) → Prop := fun σ H Q =>
  tG T (fun φ H (kvs : List (Key × Val)) (ps : List (V × V)) => ∃ us : List (Key × V), ps = us.map (fun kv => (kV kv.1, kv.2)) ∧ RelF T φ H kvs us) W r σ H Q
/-- the readings of the pairs hold as the evaluation says -/
def PRd (T : Tab) (W : WX) (trs : List (TE × TE)) (r : EP) : Prop := ∀ σ H Q, tP T W r σ H Q → tPairs trs σ H Q
theorem prd_nil : PRd T W [] epNil := fun σ H Q h => by
  obtain ⟨φ, ρ, st, re, p⟩ := h
  exact p.ok_self re.rst ⟨[], rfl, .nil⟩
theorem prd_cons {k v : E} {trs : List (TE × TE)} {r : EP} (h : PRd T W trs r) : PRd T W ((tE T W k, tE T W v) :: trs) (epCons k v r) := fun σ H Q h' => by
  obtain ⟨φ, ρ, st, re, p⟩ := h'
  refine ⟨φ, ρ, st, re, ?_⟩
  unfold epCons at p
  cases h1 : k ρ st with
  | ex x st1 => rw [h1] at p; exact p.elim
  | bad => rw [h1] at p; exact p.elim
  | ok kk st0 =>
    rw [h1] at p; dsimp only at p
    intro φ1 H1 u e1 s1 q1
    refine ⟨φ1, ρ, st0, re.ext e1 s1, ?_⟩
    cases h2 : keyOf kk with
    | none => rw [h2] at p; exact p.elim
    | some k' =>
      rw [h2] at p; dsimp only at p
      cases h3 : v ρ st0 with
      | ex x st1 => rw [h3] at p; exact p.elim
      | bad => rw [h3] at p; exact p.elim
      | ok z st1 =>
        rw [h3] at p; dsimp only at p
        intro φ2 H2 w e2 s2 q2
        refine h σ H2 _ ⟨φ2, ρ, st1, re.ext (e1.trans e2) s2, ?_⟩
        cases h4 : r ρ st1 with
        | ex x st1 => rw [h4] at p; exact p.elim
        | bad => rw [h4] at p; exact p.elim
        | ok zs st2 =>
          rw [h4] at p; dsimp only at p
          intro φ3 H3 ps e3 s3 ⟨us, eu, rf⟩
          exact p φ3 H3 _ ((e1.trans e2).trans e3) s3 ⟨(k', w) :: us, by rw [eu, rel_key q1 h2]; rfl, .cons ⟨rfl, q2.ext e3⟩ rf⟩
def eDisp (r : EP) : E := fun ρ st => match r ρ (st ++ [.dK []]) with
  | .ok kvs st1 => match st1[st.length]? with
    | some (.dK []) => if kvs.length ≤ 15 then .ok (.loc st.length) (st1.set st.length (.dK (mergeV [] kvs))) else .bad
    | _ => .bad
  | _ => .bad
theorem e_disp {pos : Pos} {keys : List (Option Expr)} {values : List Expr} {trs : List (TE × TE)} {r : EP} (h : PPs X pos keys values trs) (hr : PRd T W trs r) (hall : keys.all (·.isSome) = true := by rfl) (hl : keys.length = values.length := by rfl) (h0 : keys ≠ [] := by intro z; cases z)
    (h15 : keys.length ≤ 15 := by decide) : PE X (.Dict keys values pos) (tE T W (eDisp r)) := by
  refine pe_imp (pe_disp h hall hl h0 h15) fun σ H Q h' => ?_
  obtain ⟨φ, ρ, st, re, p⟩ := h'
  intro a ha
  have e0 := Ext.alloc (ho := .dK []) re.rst ha
  have s0 : Rst T (φ.add a) (st ++ [.dK []]) (upd H a (.dK [])) := re.rst.alloc ha ⟨[], upd_same, .nil⟩
  refine hr σ _ _ ⟨φ.add a, ρ, st ++ [.dK []], re.ext e0 s0, ?_⟩
  unfold eDisp at p
  cases h1 : r ρ (st ++ [.dK []]) with
  | ex x st1 => rw [h1] at p; exact p.elim
  | bad => rw [h1] at p; exact p.elim
  | ok kvs st1 =>
    rw [h1] at p; dsimp only at p
    split at p
    · rename_i hd
      split at p
      · rename_i h15'
        intro φ1 H1 ps e1 s1 ⟨us, eu, rf⟩
        obtain ⟨b, hb, us0, hb1, hb2⟩ := s1.at hd (by simp)
        cases hb2
        have hlen : st.length < (φ.add a).l.length := by show _ < (φ.l ++ [some a]).length; rw [List.length_append, ← re.rst.len]; simp
        have hba : b = a := by
          rcases add_get (e1.old st.length b hb hlen) with ⟨z, _⟩ | ⟨_, z⟩
          · rw [re.rst.len] at z; exact absurd z (Nat.lt_irrefl _)
          · exact z
        subst hba
        refine ⟨hb1, us, eu, by rw [← Paired.length rf]; exact h15', ?_⟩
        have e2 := Ext.write (ho := .dK (mergeK [] us)) s1 hb
        refine p φ1 _ _ ((e0.trans e1).trans e2) (s1.write hb ⟨_, upd_same, (rel_merge rf .nil).ext e2⟩) ?_
        exact .loc (by rw [s1.len]; exact (List.getElem?_eq_some_iff.mp hd).1) fun c hc => by rw [hb] at hc; cases hc; rfl
      · exact p.elim
    · exact p.elim

def fLen (st : Sto) (vs : List Val) : Option Val := match vs with
  | [.str z] => if z.length ≤ sizeLine then some (.int z.length) else none
  | [.loc n] => match st[n]? with
    | some (.lst xs) => some (.int xs.length)
    | some (.dK kvs) => some (.int kvs.length)
    | some (.dT kvs) => some (.int kvs.length)
    | _ => none
  | [v] => (seqOf st v).map fun xs => .int xs.length
  | _ => none
def rLenA (K : PySem.W.Frag) : List V → Hp → VK → Prop := fun xs H Q => (∃ x n, xs = [x] ∧ LenV K x H n ∧ Q (.int n) H) ∨ (∃ a kvs, xs = [V.ref a] ∧ H a = some (.dK kvs) ∧ Q (.int kvs.length) H) ∨ L2.rLenT xs H Q
theorem call_lenA : CallR X (.builtin "len") (rLenA X.K) := call_len.or (call_lenD.or L2.call_len_dT)
theorem snd_len : SndC T (rLenA T.K) fLen := by
  intro φ st H vs us z Q R r hf hq
  unfold fLen at hf
  split at hf
  · cases r with
    | cons a b =>
      cases b; cases a
      split at hf
      · rename_i hz
        cases hf
        exact .inl ⟨_, _, rfl, ⟨hz, rfl⟩, hq H _ Ext.refl R (.int _)⟩
      · cases hf
  · cases r with
    | cons a b =>
      cases b
      cases a with
      | loc hn hu =>
        split at hf
        · rename_i xs q
          cases hf
          obtain ⟨a, e1, us, e2, e3⟩ := R.at q (by simp)
          refine .inl ⟨_, us.length, rfl, ?_, ?_⟩
          · rw [hu a e1]; exact .inl ⟨us, SqL.of e2, rfl⟩
          · rw [← e3.length]; exact hq H _ Ext.refl R (.int _)
        · rename_i kvs q
          cases hf
          obtain ⟨a, e1, us, e2, e3⟩ := R.at q (by simp)
          refine .inr (.inl ⟨a, us, by rw [hu a e1], e2, ?_⟩)
          rw [← Paired.length e3]; exact hq H _ Ext.refl R (.int _)
        · rename_i kvs q
          cases hf
          obtain ⟨a, e1, us, e2, e3⟩ := R.at q (by simp)
          refine .inr (.inr ⟨a, us, by rw [hu a e1], e2, ?_⟩)
          rw [← Paired.length e3]; exact hq H _ Ext.refl R (.int _)
        · cases hf
  · cases r with
    | cons a b =>
      cases b
      simp only [Option.map_eq_some_iff] at hf
      obtain ⟨xs, e, rfl⟩ := hf
      obtain ⟨p, ws, rfl, hs, rv⟩ := rel_seq R a e
      refine .inl ⟨_, ws.length, rfl, ?_, by rw [← rv.length]; exact hq H _ Ext.refl R (.int _)⟩
      rcases hs with hs | hs
      · exact .inl ⟨ws, hs, rfl⟩
      · exact .inr ⟨ws, hs, rfl⟩
  · cases hf
def fTuple (st : Sto) (vs : List Val) : Option Val := match vs with
  | [v] => (seqOf st v).map .tup
  | _ => none
theorem snd_tuple : SndC T (fun xs H Q => ∃ p ys, xs = [.ref p] ∧ ((SqL T.K H p ys ∧ ∀ l, H l = none → Q (.ref l) (upd H l (.tup ys))) ∨ (SqT T.K H p ys ∧ Q (.ref p) H))) fTuple := by
  intro φ st H vs us z Q R r hf hq
  unfold fTuple at hf
  split at hf
  · cases r with
    | cons a b =>
      cases b
      simp only [Option.map_eq_some_iff] at hf
      obtain ⟨xs, e, rfl⟩ := hf
      rename_i v u
      cases hv : tupOf v with
      | some ys =>
        obtain ⟨p, ws, rfl, hs, rv⟩ := rel_tup a hv
        cases a with
        | tup h1 h2 =>
          cases hv
          cases e
          exact ⟨_, _, rfl, .inr ⟨SqT.of h1, hq H _ Ext.refl R (.tup h1 h2)⟩⟩
        | _ => cases hv
      | none =>
        have hl : lstOf st v = some xs := by
          unfold seqOf at e
          unfold lstOf
          split at e
          · rename_i h; cases e; rw [h]
          · rename_i ys h
            exfalso
            cases a with
            | tup h1 h2 => cases hv
            | loc h1 h2 =>
              unfold dr at h
              dsimp only at h
              split at h <;> cases h
            | _ => cases h
          · cases e
        obtain ⟨p, ws, rfl, hs, rv⟩ := rel_lst R a hl
        refine ⟨p, ws, rfl, .inl ⟨hs, fun l hl => ?_⟩⟩
        have ex := Ext.fresh (ho := .tup ws) R hl
        exact hq _ _ ex (R.fresh hl) (.tup upd_same (rv.ext ex))
  · cases hf
/-- a copy, a value -/
def fList (st : Sto) (vs : List Val) : Option Val := match vs with
  | [v] => (seqOf st v).map .lst
  | _ => none
theorem snd_list : SndC T (fun xs H Q => ∃ p ys, xs = [.ref p] ∧ (SqL T.K H p ys ∨ SqT T.K H p ys) ∧ ∀ l, H l = none → Q (.ref l) (upd H l (.lst ys))) fList := by
  intro φ st H vs us z Q R r hf hq
  unfold fList at hf
  split at hf
  · cases r with
    | cons a b =>
      cases b
      simp only [Option.map_eq_some_iff] at hf
      obtain ⟨xs, e, rfl⟩ := hf
      obtain ⟨p, ws, rfl, hs, rv⟩ := rel_seq R a e
      refine ⟨p, ws, rfl, hs, fun l hl => ?_⟩
      have ex := Ext.fresh (ho := .lst ws) R hl
      exact hq _ _ ex (R.fresh hl) (.lst (.inl ⟨R.nolive hl, .inl upd_same⟩) (rv.ext ex))
  · cases hf
/-- list(x), to be changed -/
def eListN (a : EA) : E := fun ρ st => bindR (a ρ st) fun vs st1 => match vs with
  | [v] => match seqOf st1 v with
    | some xs => .ok (.loc st1.length) (st1 ++ [.lst xs])
    | none => .bad
  | _ => .bad
theorem e_listN {x : Str} {e : Expr} {as : EA} {p pos : Pos} (hK : T.K = X.K) (hv : bootBuiltins x = some (.type "list")) (hm : X.mg x = none) (ha : PA X [e] (tA T W as)) (hg : Gl X x := by rfl)
    (hn : x ≠ "__name__" := by decide) (hdb : (x == ("__debug__" : Str)) = false := by decide) (he : starEach [e] X.env = (false, eval e X.env) :: starEach [] X.env := by rfl) (hpl : (backTo pos (starEach [] X.env)).any (·.1) = false := by rfl) :
    PE X (.Call (.Name x p) [e] [] pos) (tE T W (eListN as)) := by
  refine pe_imp (pe_callTy call_list_of hg hm hv ha hn hdb he hpl) fun σ H Q h => ?_
  refine tG_bind h fun vs ρ st1 φ1 H1 us re1 q1 p1 => ?_
  split at p1
  · split at p1
    · rename_i xs e
      cases q1 with
      | cons a b =>
        cases b
        obtain ⟨q, ws, rfl, hs, rv⟩ := rel_seq re1.rst a e
        refine ⟨q, ws, rfl, by rw [← hK]; exact hs, fun l hl => ?_⟩
        have ex := Ext.alloc (ho := .lst ws) re1.rst hl
        exact p1 _ _ _ ex (re1.rst.alloc hl ⟨ws, upd_same, rv.ext ex⟩) (rel_loc re1.rst)
    · exact p1.elim
  · exact p1.elim
def fSum (st : Sto) (vs : List Val) : Option Val := match vs with
  | [v] => (lstOf st v).bind fun xs => (intsOf xs).map fun ns => .int ns.sum
  | _ => none
theorem snd_sum : SndC T (rSum T.K) fSum := by
  intro φ st H vs us z Q R r hf hq
  unfold fSum at hf
  split at hf
  · cases r with
    | cons a b =>
      cases b
      simp only [Option.bind_eq_some_iff, Option.map_eq_some_iff] at hf
      obtain ⟨xs, e, ns, en, rfl⟩ := hf
      obtain ⟨p, ws, rfl, hs, rv⟩ := rel_lst R a e
      exact ⟨p, ns, rfl, by rw [← rel_ints rv en]; exact hs, hq H _ Ext.refl R (.int _)⟩
  · cases hf
def maxI : List Int → Int
  | [] => 0
  | x :: xs => xs.foldl (fun a b => if b > a then b else a) x
def minI : List Int → Int
  | [] => 0
  | x :: xs => xs.foldl (fun a b => if b < a then b else a) x
theorem foldl_max (xs : List Int) : ∀ x : Int, (xs.foldl (fun a b => if b > a then b else a) x = x ∨ xs.foldl (fun a b => if b > a then b else a) x ∈ xs) ∧ x ≤ xs.foldl (fun a b => if b > a then b else a) x ∧ ∀ y ∈ xs, y ≤ xs.foldl (fun a b => if b > a then b else a) x := by
  induction xs with
  | nil => intro x; simp
  | cons z zs ih =>
    intro x
    simp only [List.foldl_cons]
    by_cases hz : z > x
    · rw [if_pos hz]
      obtain ⟨h1, h2, h3⟩ := ih z
      generalize hm : zs.foldl (fun a b => if b > a then b else a) z = m at h1 h2 h3 ⊢
      refine ⟨?_, by omega, ?_⟩
      · rcases h1 with h1 | h1
        · right; rw [h1]; simp
        · right; simp [h1]
      · intro y hy
        rcases List.mem_cons.mp hy with rfl | hy
        · exact h2
        · exact h3 y hy
    · rw [if_neg hz]
      obtain ⟨h1, h2, h3⟩ := ih x
      generalize hm : zs.foldl (fun a b => if b > a then b else a) x = m at h1 h2 h3 ⊢
      refine ⟨?_, h2, ?_⟩
      · rcases h1 with h1 | h1
        · left; exact h1
        · right; simp [h1]
      · intro y hy
        rcases List.mem_cons.mp hy with rfl | hy
        · omega
        · exact h3 y hy
theorem foldl_min (xs : List Int) : ∀ x : Int, (xs.foldl (fun a b => if b < a then b else a) x = x ∨ xs.foldl (fun a b => if b < a then b else a) x ∈ xs) ∧ xs.foldl (fun a b => if b < a then b else a) x ≤ x ∧ ∀ y ∈ xs, xs.foldl (fun a b => if b < a then b else a) x ≤ y := by
  induction xs with
  | nil => intro x; simp
  | cons z zs ih =>
    intro x
    simp only [List.foldl_cons]
    by_cases hz : z < x
    · rw [if_pos hz]
      obtain ⟨h1, h2, h3⟩ := ih z
      generalize hm : zs.foldl (fun a b => if b < a then b else a) z = m at h1 h2 h3 ⊢
      refine ⟨?_, by omega, ?_⟩
      · rcases h1 with h1 | h1
        · right; rw [h1]; simp
        · right; simp [h1]
      · intro y hy
        rcases List.mem_cons.mp hy with rfl | hy
        · exact h2
        · exact h3 y hy
    · rw [if_neg hz]
      obtain ⟨h1, h2, h3⟩ := ih x
      generalize hm : zs.foldl (fun a b => if b < a then b else a) x = m at h1 h2 h3 ⊢
      refine ⟨?_, h2, ?_⟩
      · rcases h1 with h1 | h1
        · left; exact h1
        · right; simp [h1]
      · intro y hy
        rcases List.mem_cons.mp hy with rfl | hy
        · omega
        · exact h3 y hy
theorem maxI_is {ns : List Int} {m : Int} (h : m ∈ ns) (hm : ∀ y, y ∈ ns → y ≤ m) : m = maxI ns := by
  cases ns with
  | nil => cases h
  | cons x xs =>
    obtain ⟨h1, h2, h3⟩ := foldl_max xs x
    have a : maxI (x :: xs) ≤ m := by
      rcases h1 with h1 | h1
      · exact hm _ (by rw [maxI, h1]; simp)
      · exact hm _ (List.mem_cons_of_mem _ h1)
    have b : m ≤ maxI (x :: xs) := by
      rcases List.mem_cons.mp h with rfl | h
      · exact h2
      · exact h3 m h
    omega
theorem minI_is {ns : List Int} {m : Int} (h : m ∈ ns) (hm : ∀ y, y ∈ ns → m ≤ y) : m = minI ns := by
  cases ns with
  | nil => cases h
  | cons x xs =>
    obtain ⟨h1, h2, h3⟩ := foldl_min xs x
    have a : m ≤ minI (x :: xs) := by
      rcases h1 with h1 | h1
      · exact hm _ (by rw [minI, h1]; simp)
      · exact hm _ (List.mem_cons_of_mem _ h1)
    have b : minI (x :: xs) ≤ m := by
      rcases List.mem_cons.mp h with rfl | h
      · exact h2
      · exact h3 m h
    omega
def fMax (st : Sto) (vs : List Val) : Option Val := match vs with
  | [.int i, .int j] => some (.int (if j > i then j else i))
  | [v] => (lstOf st v).bind fun xs => (intsOf xs).bind fun ns => if 0 < ns.length then some (.int (maxI ns)) else none
  | _ => none
def fMin (st : Sto) (vs : List Val) : Option Val := match vs with
  | [.int i, .int j] => some (.int (if j < i then j else i))
  | [v] => (lstOf st v).bind fun xs => (intsOf xs).bind fun ns => if 0 < ns.length then some (.int (minI ns)) else none
  | _ => none
def rMaxA (K : PySem.W.Frag) : List V → Hp → VK → Prop := fun vs H Q => rMax K vs H Q ∨ ∃ i j, vs = [.int i, .int j] ∧ Q (.int (if j > i then j else i)) H
def rMinA (K : PySem.W.Frag) : List V → Hp → VK → Prop := fun vs H Q => rMin K vs H Q ∨ ∃ i j, vs = [.int i, .int j] ∧ Q (.int (if j < i then j else i)) H
theorem call_maxA (hc : X.calm = true) : CallR X (.builtin "max") (rMaxA X.K) := (cr_max hc).or (call_max2 hc)
theorem call_minA (hc : X.calm = true) : CallR X (.builtin "min") (rMinA X.K) := (cr_min hc).or (call_min2 hc)
theorem snd_max : SndC T (rMaxA T.K) fMax := by
  intro φ st H vs us z Q R r hf hq
  unfold fMax at hf
  split at hf
  · cases hf
    cases r with
    | cons a b =>
      cases b with
      | cons a' b' =>
        cases b'; cases a; cases a'
        exact .inr ⟨_, _, rfl, hq H _ Ext.refl R (.int _)⟩
  · cases r with
    | cons a b =>
      cases b
      simp only [Option.bind_eq_some_iff] at hf
      obtain ⟨xs, e, ns, en, hf⟩ := hf
      split at hf
      · rename_i hp
        cases hf
        obtain ⟨p, ws, rfl, hs, rv⟩ := rel_lst R a e
        exact .inl ⟨p, ns, rfl, by rw [← rel_ints rv en]; exact hs, hp, fun m h1 h2 => by rw [maxI_is h1 h2]; exact hq H _ Ext.refl R (.int _)⟩
      · cases hf
  · cases hf
theorem snd_min : SndC T (rMinA T.K) fMin := by
  intro φ st H vs us z Q R r hf hq
  unfold fMin at hf
  split at hf
  · cases hf
    cases r with
    | cons a b =>
      cases b with
      | cons a' b' =>
        cases b'; cases a; cases a'
        exact .inr ⟨_, _, rfl, hq H _ Ext.refl R (.int _)⟩
  · cases r with
    | cons a b =>
      cases b
      simp only [Option.bind_eq_some_iff] at hf
      obtain ⟨xs, e, ns, en, hf⟩ := hf
      split at hf
      · rename_i hp
        cases hf
        obtain ⟨p, ws, rfl, hs, rv⟩ := rel_lst R a e
        exact .inl ⟨p, ns, rfl, by rw [← rel_ints rv en]; exact hs, hp, fun m h1 h2 => by rw [minI_is h1 h2]; exact hq H _ Ext.refl R (.int _)⟩
      · cases hf
  · cases hf
def boolsOf : List Val → Option (List Bool)
  | [] => some []
  | .bl i :: r => (boolsOf r).map (i :: ·)
  | _ => none
theorem rel_bools {φ : Phi} {H : Hp} : ∀ {xs : List Val} {us : List V} {ns : List Bool}, RelVs T φ H xs us → boolsOf xs = some ns → us = ns.map V.bl
  | _, _, _, .nil, h => by cases h; rfl
  | _, _, _, .cons a b, h => by
    cases a with
    | bl i =>
      simp only [boolsOf, Option.map_eq_some_iff] at h
      obtain ⟨ms, e, rfl⟩ := h
      rw [rel_bools b e]; rfl
    | _ => cases h
def fAll (st : Sto) (vs : List Val) : Option Val := match vs with
  | [v] => (lstOf st v).bind fun xs => (boolsOf xs).map fun ns => .bl (ns.all id)
  | _ => none
def fAny (st : Sto) (vs : List Val) : Option Val := match vs with
  | [v] => (lstOf st v).bind fun xs => (boolsOf xs).map fun ns => .bl (ns.any id)
  | _ => none
theorem snd_all : SndC T (rAll T.K) fAll := by
  intro φ st H vs us z Q R r hf hq
  unfold fAll at hf
  split at hf
  · cases r with
    | cons a b =>
      cases b
      simp only [Option.bind_eq_some_iff, Option.map_eq_some_iff] at hf
      obtain ⟨xs, e, ns, en, rfl⟩ := hf
      obtain ⟨p, ws, rfl, hs, rv⟩ := rel_lst R a e
      exact ⟨p, ns, rfl, by rw [← rel_bools rv en]; exact hs, hq H _ Ext.refl R (.bl _)⟩
  · cases hf
theorem snd_any : SndC T (rAny T.K) fAny := by
  intro φ st H vs us z Q R r hf hq
  unfold fAny at hf
  split at hf
  · cases r with
    | cons a b =>
      cases b
      simp only [Option.bind_eq_some_iff, Option.map_eq_some_iff] at hf
      obtain ⟨xs, e, ns, en, rfl⟩ := hf
      obtain ⟨p, ws, rfl, hs, rv⟩ := rel_lst R a e
      exact ⟨p, ns, rfl, by rw [← rel_bools rv en]; exact hs, hq H _ Ext.refl R (.bl _)⟩
  · cases hf
def fInt (_ : Sto) (vs : List Val) : Option Val := match vs with
  | [.int i] => some (.int i)
  | [.bl b] => some (.int (if b then 1 else 0))
  | _ => none
theorem snd_int : SndC T (fun xs H Q => (∃ i, xs = [.int i] ∧ Q (.int i) H) ∨ ∃ k, xs = [.bl k] ∧ Q (.int (if k then 1 else 0)) H) fInt := by
  intro φ st H vs us z Q R r hf hq
  unfold fInt at hf
  split at hf
  · cases hf
    cases r with
    | cons a b =>
      cases b; cases a
      exact .inl ⟨_, rfl, hq H _ Ext.refl R (.int _)⟩
  · cases hf
    cases r with
    | cons a b =>
      cases b; cases a
      exact .inr ⟨_, rfl, hq H _ Ext.refl R (.int _)⟩
  · cases hf

/-- a method of a list of the store: f tells the answer and the list behind it -/
def eLm (f : Sto → List Val → List Val → Option (Val × List Val)) (o : E) (a : EA) : E := fun ρ st => bindR (o ρ st) fun v st1 => match v with
  | .loc n => match st1[n]? with
    | some (.lst _) => bindR (a ρ st1) fun vs st2 => match st2[n]? with
      | some (.lst xs) => match f st2 xs vs with
        | some (z, ys) => .ok z (st2.set n (.lst ys))
        | none => .bad
      | _ => .bad
    | _ => .bad
  | _ => .bad
def SndM (T : Tab) (r : V → List V → Hp → VK → Prop) (f : Sto → List Val → List Val → Option (Val × List Val)) : Prop :=
  ∀ φ st H xs us vs ws z ys l Q, Rst T φ st H → H l = some (.lst us) → RelVs T φ H xs us → RelVs T φ H vs ws → f st xs vs = some (z, ys) →
    (∀ us', (∀ H', ExtV φ H φ H' → RelVs T φ H' ys us') → ∀ u, (∀ H', ExtV φ H φ H' → RelV T φ H' z u) → Q u (upd H l (.lst us'))) → r (.ref l) ws H Q
theorem lm_sound {r : V → List V → Hp → VK → Prop} {f : Sto → List Val → List Val → Option (Val × List Val)} {eo : E} {as : EA} {K : PySem.W.Frag} (hs : SndM T r f) {σ : L2.St} {H : Hp} {Q : VK} (h : tE T W (eLm f eo as) σ H Q) :
    tE T W eo σ H fun x H1 => tyV K "list" x H1 ∧ tA T W as σ H1 fun xs H2 => r x xs H2 Q := by
  refine tG_bind h fun v ρ st1 φ1 H1 u re1 q1 p1 => ?_
  split at p1
  · split at p1
    · rename_i n _ xs0 hx0
      cases q1 with
      | loc hn hu =>
        obtain ⟨a, e1, us0, e2, e3⟩ := re1.rst.at hx0 (by simp)
        have hua := hu a e1
        subst hua
        refine ⟨.inl ⟨rfl, us0, SqL.of e2⟩, φ1, ρ, st1, re1, post_bind p1 fun vs st2 φ2 H2 ws _ e4 s2 q2 p2 => ?_⟩
        split at p2
        · rename_i xs hx
          split at p2
          · rename_i z ys hf
            obtain ⟨b, e5, us, e6, e7⟩ := s2.at hx (by simp)
            have hab : b = a := by
              have := e4.old n b e5 hn
              rw [e1] at this; cases this; rfl
            subst hab
            refine hs φ2 st2 H2 xs us vs ws z ys b Q s2 e6 e7 q2 hf fun us' r1 u r2 => ?_
            have ex := Ext.write (ho := .lst us') s2 e5
            exact p2 φ2 _ u ex (s2.write e5 ⟨us', upd_same, r1 _ ex.v⟩) (r2 _ ex.v)
          · exact p2.elim
        · exact p2.elim
    · exact p1.elim
  · exact p1.elim
theorem e_lm {id : String} {name : Str} {r : V → List V → Hp → VK → Prop} {f : Sto → List Val → List Val → Option (Val × List Val)} {o e : Expr} {es : List Expr} {eo : E} {as : EA} {apos cpos : Pos} (slot : Slot "list" name id) (hty : typeOf (.builtin id) = pure (.type "method_descriptor")) (hm : MtR X id r) (hs : SndM T r f)
    (ho : PE X o (tE T W eo)) (ha : PA X (e :: es) (tA T W as)) (hbase : attributeBase o name X.env (eval o X.env) = eval o X.env := by rfl)
    (hfew : ((backTo cpos (starEach (e :: es) X.env)).all (fun x => !x.1) && (backToKw cpos (keywordEach [] X.env)).all (fun x => x.1.isSome)
      && decide ((e :: es).length + ([] : List Keyword).length + (if ([] : List Keyword).isEmpty then 0 else 1) < 30)) = true := by rfl)
    (hline : (apos.endLine == cpos.line) = true := by rfl) (hst : starEach (e :: es) X.env = (false, eval e X.env) :: starEach es X.env := by rfl) (hplain : (backTo cpos (starEach es X.env)).any (·.1) = false := by rfl) :
    PE X (.Call (.Attribute o name apos) (e :: es) [] cpos) (tE T W (eLm f eo as)) :=
  pe_imp (pe_bm PySem.F.plainAttrs_list slot hty hm ho ha hbase hfew hline hst hplain) fun _ _ _ h => lm_sound hs h
theorem e_lm0 {id : String} {name : Str} {r : V → List V → Hp → VK → Prop} {f : Sto → List Val → List Val → Option (Val × List Val)} {o : Expr} {eo : E} {apos cpos : Pos} (slot : Slot "list" name id) (hty : typeOf (.builtin id) = pure (.type "method_descriptor")) (hm : MtR X id r) (hs : SndM T r f)
    (ho : PE X o (tE T W eo)) (hbase : attributeBase o name X.env (eval o X.env) = eval o X.env := by rfl) (hline : (apos.endLine == cpos.line) = true := by rfl) :
    PE X (.Call (.Attribute o name apos) [] [] cpos) (tE T W (eLm f eo eNil)) :=
  pe_imp (pe_bm0 PySem.F.plainAttrs_list slot hty hm ho hbase hline) fun _ _ _ h => by
    refine tG_mono (lm_sound (K := X.K) hs h) fun u H1 ⟨ty, φ, ρ, st, re, p⟩ => ⟨ty, ?_⟩
    exact p.ok_self re.rst .nil
def fAppend (_ : Sto) (xs vs : List Val) : Option (Val × List Val) := match vs with
  | [w] => if xs.length < sizeLine then some (.non, xs ++ [w]) else none
  | _ => none
theorem snd_append : SndM T rAppend fAppend := by
  intro φ st H xs us vs ws z ys l Q R h1 h2 h3 hf hq
  unfold fAppend at hf
  split at hf
  · split at hf
    · rename_i hz
      cases hf
      cases h3 with
      | cons a b =>
        cases b
        exact ⟨l, us, _, rfl, rfl, h1, by rw [← h2.length]; exact hz, hq _ (fun H' e => (h2.extV e).append (.cons (a.extV e) .nil)) _ fun _ _ => .non⟩
    · cases hf
  · cases hf
theorem e_append {o e : Expr} {eo : E} {as : EA} {apos cpos : Pos} (ho : PE X o (tE T W eo)) (ha : PA X [e] (tA T W as)) (hbase : attributeBase o "append" X.env (eval o X.env) = eval o X.env := by rfl)
    (hfew : ((backTo cpos (starEach [e] X.env)).all (fun x => !x.1) && (backToKw cpos (keywordEach [] X.env)).all (fun x => x.1.isSome)
      && decide (([e] : List Expr).length + ([] : List Keyword).length + (if ([] : List Keyword).isEmpty then 0 else 1) < 30)) = true := by rfl)
    (hline : (apos.endLine == cpos.line) = true := by rfl) (hst : starEach [e] X.env = (false, eval e X.env) :: starEach [] X.env := by rfl) (hplain : (backTo cpos (starEach [] X.env)).any (·.1) = false := by rfl) :
    PE X (.Call (.Attribute o "append" apos) [e] [] cpos) (tE T W (eLm fAppend eo as)) :=
  e_lm PySem.F.slot_list_append PySem.F.type_list_append mt_append snd_append ho ha hbase hfew hline hst hplain
def fPop (_ : Sto) (xs vs : List Val) : Option (Val × List Val) := match vs with
  | [] => (xs[xs.length - 1]?).map fun y => (y, xs.dropLast)
  | _ => none
theorem snd_pop : SndM T rPop fPop := by
  intro φ st H xs us vs ws z ys l Q R h1 h2 h3 hf hq
  unfold fPop at hf
  split at hf
  · simp only [Option.map_eq_some_iff] at hf
    obtain ⟨y, e, hh⟩ := hf
    cases hh
    cases h3
    obtain ⟨u, hu, ru⟩ := h2.get e
    exact ⟨l, us, u, rfl, rfl, h1, by rw [← h2.length]; exact hu, hq _ (fun H' e => (h2.extV e).dropLast) u fun H' e => ru.extV e⟩
  · cases hf
theorem e_pop {o : Expr} {eo : E} {apos cpos : Pos} (ho : PE X o (tE T W eo)) (hbase : attributeBase o "pop" X.env (eval o X.env) = eval o X.env := by rfl) (hline : (apos.endLine == cpos.line) = true := by rfl) :
    PE X (.Call (.Attribute o "pop" apos) [] [] cpos) (tE T W (eLm fPop eo eNil)) :=
  e_lm0 PySem.F.slot_list_pop PySem.F.type_list_pop mt_pop snd_pop ho hbase hline
end
end Ev

set_option Elab.async false
set_option linter.all false
set_option maxRecDepth 100000
set_option maxHeartbeats 2000000
namespace Ev
open PySem PySem.Spec PyProof.Rows L2
structure FnG (P : Program) (w : World) (K : PySem.W.Frag) (mg : Str → Option Value) (base : Heap) (k : Nat) (f : Addr) (fd : FuncData) (ps : List Str) (sp : Sp) : Prop where
  len : ∀ vs H Q E, sp vs H Q E → vs.length = ps.length
  run : ∀ (A : Around) (outer : List PySem.Env) (s : Shared) (H : Hp) (args : Args) (us : List Value) (vs : List V) (Q : VK) (E : XK), Room k A → A.guards = some [] → Env0 P w K mg base A outer s H → BindsTo s fd args (ps.zip us) → Vals vs us → sp vs H Q E →
    codeAny (model P w) A (.call (.ref f) args) (CR (L2.CX P w) outer P w H s Q E) s
section
variable {P : Program} {w : World} {K : PySem.W.Frag} {mg mb : Str → Option Value} {base : Heap} {k : Nat} {f : Addr} {fd : FuncData} {ps : List Str} {sp : Sp}
theorem FnG.mono {j : Nat} (F : FnG P w K mg base j f fd ps sp) (h : j ≤ k) : FnG P w K mg base k f fd ps sp :=
  ⟨F.len, fun A outer s H args us vs Q E hr hg => F.run A outer s H args us vs Q E (hr.mono h) hg⟩
theorem fnG_of {x qual : Str} {params : Arguments} {body : List Stmt} {scope : Scope} {dvs : List V} {kws : List (Str × V)} {N : List Str} (F : FunD K x qual params body scope dvs kws f fd) (S : FnScope N ps scope)
    (len : ∀ vs H Q E, sp vs H Q E → vs.length = ps.length)
    (hbody : ∀ (cdv : Value) (A : Around) (outer : List PySem.Env) (s : Shared) (H : Hp) (vs : List V) (Q : VK) (E : XK), Room k (A.deeper (envOfC qual scope s.heap.objs.size f cdv)) → A.guards = some [] → sp vs H Q E →
      ∃ t, PSs (cxOf (L2.CX P w) P w K mg base N qual scope f cdv A outer s H E) body t ∧ t { nx := fun _ H' => Q .non H', rt := Q } (start N vs) H) : FnG P w K mg base (k + 1) f fd ps sp := by
  obtain ⟨oc, od, dV, kV, doc, pm, an, cdv, ct, osl, rfl, lk, hcd, _, _⟩ := F.ex
  refine ⟨len, fun A outer s H args us vs Q E hr hg e0 hb r hsp => ?_⟩
  have sub : ∀ b o, base.get? b = some o → s.heap.get? b = some o := fun b o e => (e0.bs b o e).1
  have KX : K.In s.heap := e0.mod.kin.keeps sub
  have kinds : ∀ y ∈ ps.zip us, scope.names.lookup y.1 = some .local ∨ (scope.names.lookup y.1 = some .cell ∧ ((cellsFrom (s.heap.objs.size + 1) scope.names []).lookup y.1).isSome = true) := fun ⟨n, v⟩ hy =>
    (S.par n (List.of_mem_zip hy).1).imp id fun q => ⟨q, PySem.W.cellsFrom_some _ _ _ (.inl q)⟩
  refine codeAny_call_function hr.depth (KX _ _ lk) rfl S.co S.gen rfl (PySem.W.codeRec_of KX hcd) (hb _ _ _ _ ?_)
  refine wpAny_newFunctionEnv_cells S.kind kinds fun env he s1 x => ?_
  subst he
  refine ⟨(e0.mod.nolimit.keeps sub).keeps x.toInCall.keep, codeAny_func ?_⟩
  obtain ⟨t, ht, hq⟩ := hbody cdv A outer s H vs Q E (hr.deeper _) hg hsp
  refine wpAny_mono (ht.run [] s1 (start N vs) H _ (inv_start S hr.hd e0 (len _ _ _ _ hsp) r x) hq) (fun fl s' hs => ?_) fun e s' hs => hs
  cases fl with
  | ret u =>
    obtain ⟨v, σ', H', J, rv, q⟩ := hs
    exact ⟨v, H', J.os, J.bare, J.base, J.hok, rv, q⟩
  | next =>
    obtain ⟨σ', H', J, q⟩ := hs
    exact ⟨V.non, H', J.os, J.bare, J.base, J.hok, rfl, q⟩
  | brk =>
    obtain ⟨_, _, _, q⟩ := hs
    exact q.elim
  | cont =>
    obtain ⟨_, _, _, q⟩ := hs
    exact q.elim
/-- a call of such a def -/
theorem run_fnG {X : Cx} {E : L2.St → XK} {pins : List (Addr × Obj)} {σ : L2.St} {H : Hp} {s : Shared} {Q : VK} {args : Args} {us : List Value} {vs : List V} (F : FnG X.prog X.w X.K X.mg X.base k f fd ps sp) (hr : Room k X.A) (hg : X.A.guards = some []) (hx : PassesAt (L2.CX X.prog X.w) X σ (E σ))
    (I : Inv X pins σ H s) (hb : BindsTo s fd args (ps.zip us)) (r : Vals vs us) (h : sp vs H Q (E σ)) : wpAny (model X.prog X.w) X.A (call (.ref f) args.pos args.kw) (L2.EP X pins σ Q) X.xe s := by
  refine wpAny_call (codeAny_mono (F.run X.A X.stack s H args us vs Q (E σ) hr hg I.env0 hb r h) fun r s' hq => ?_)
  cases r with
  | error e => exact hx pins H s e s' I hq
  | ok fl =>
    cases fl with
    | ret u => exact I.after hq
    | next => exact hq.elim
    | brk => exact hq.elim
    | cont => exact hq.elim
end
/-- the law's def, called on the script -/
theorem law_callG {P : Program} {w : World} {K : PySem.W.Frag} {mg mb : Str → Option Value} {k : Nat} {fa a : Addr} {fd : FuncData} {x : Str} {sp : Sp} {s₁ : Shared} {vs : List Value} {ns : List Int}
    (KX : K.In s₁.heap) (hns : s₁.heap.Ns mainGlobals mg) (hb : s₁.heap.Ns builtinsNs mb) (hbb : ∀ x : Str, x ≠ "__name__" → mb x = bootBuiltins x) (hlim : s₁.heap.NoLimit) (hg : s₁.gens = #[])
    (ha : s₁.heap.get? a = some { cls := .type "list", data := .seq vs.toArray }) (hi : IntsAre vs ns) (hl : ns.length ≤ sizeLine) (hr : Room k callerA)
    (F : ∀ base : Heap, K.In base → base.Ns mainGlobals mg → FnG P w K mg base k fa fd [x] sp) (hbind : ∀ (s : Shared) (u : Value), BindsTo s fd ⟨[u], []⟩ [(x, u)])
    (hsp : ∀ H : Hp, Only H → SqL K H a (ns.map V.int) → sp [.ref a] H (fun v _ => v = .bl true) fun _ _ _ => False) :
    codeAny (model P w) callerA (.call (.ref fa) ⟨[.ref a], []⟩) (fun r s' => r = .ok (.ret (.bool true)) ∧ OldK s₁.heap s'.heap ∧ s'.os = s₁.os ∧ AllBare s'.gens) s₁ := by
  have rv := vals_ints hi
  have lenV := hi.length
  -- H tracks at most the script
  have from_ : ∀ H : Hp, Only H → SqL K H a (ns.map V.int) → HOk P w H s₁.heap → (∀ b, H b ≠ none → b = a ∧ K.lookup a = none) →
      codeAny (model P w) callerA (.call (.ref fa) ⟨[.ref a], []⟩) (fun r s' => r = .ok (.ret (.bool true)) ∧ OldK s₁.heap s'.heap ∧ s'.os = s₁.os ∧ AllBare s'.gens) s₁ := by
    intro H hO hS hok hA
    have low : ∀ {b : Addr} {o : Obj}, s₁.heap.get? b = some o → H b = none → (hidT s₁.heap H).get? b = some o := fun e n => hidT_get e n
    have dicts : ∀ {b : Addr} {o : Obj} {es : Array DictEntry} {ep : Nat}, s₁.heap.get? b = some o → o.data = .dict es ep → H b = none := fun {b o es ep} e d => Classical.byContradiction fun n => by
      have z := (hA b n).1
      subst z
      rw [ha] at e
      cases e
      cases (show Data.seq vs.toArray _ = Data.dict es ep from d)
    have spaces : ∀ {b : Addr} {m : Str → Option Value}, s₁.heap.Ns b m → (hidT s₁.heap H).Ns b m := fun {b m} ⟨o, es, ep, e, d, r⟩ => ⟨o, es, ep, low e (dicts e d), d, r⟩
    have hKb : K.In (hidT s₁.heap H) := fun b o e => low (KX b o e) (Classical.byContradiction fun n => by
      obtain ⟨z, q⟩ := hA b n
      subst z
      rw [q] at e
      cases e)
    have hM : Mod K mg (hidT s₁.heap H) := ⟨hKb, spaces hns, ⟨mb, spaces hb, hbb⟩, let ⟨mc, h1, h2⟩ := hlim; ⟨mc, spaces h1, h2⟩⟩
    have e0 : Env0 P w K mg (hidT s₁.heap H) callerA [] s₁ H := ⟨rfl, hM, fun b o e => of_hidT e, Nat.le_of_eq (hidT_size _ _), trivial, fun b hb => absurd hb List.not_mem_nil, hok, .of_eq hg⟩
    refine codeAny_mono ((F _ hKb (spaces hns)).run callerA [] s₁ H ⟨[.ref a], []⟩ [.ref a] [.ref a] _ _ hr rfl e0 (hbind s₁ (.ref a)) (.cons rfl .nil) (hsp H hO hS)) fun r s' h => ?_
    cases r with
    | error e =>
      obtain ⟨_, _, _, _, _, _, _, _, _, _, _, _, z⟩ := h
      exact z.elim
    | ok fl =>
      cases fl with
      | next => exact h.elim
      | brk => exact h.elim
      | cont => exact h.elim
      | ret u =>
        obtain ⟨v, H', os, bare, un, hok', r', q⟩ := h
        cases (show v = .bl true from q)
        cases (show u = Value.bool true from r')
        refine ⟨rfl, OldK.of_keep fun b o e => ?_, os, bare⟩
        rcases hO b with z | ⟨ob, xs, z⟩
        · exact un.keep b o e z List.not_mem_nil List.not_mem_nil
        · obtain ⟨e1, _⟩ := hok b _ z
          obtain ⟨e2, _⟩ := hok' b _ (un.frzs b ob _ z)
          rw [e] at e1
          cases e1
          exact e2
  cases hk : K.lookup a with
  | some o =>
    have e := KX a o hk
    rw [ha] at e
    cases e
    exact from_ (fun _ => none) (fun _ => .inl rfl) (.inr ⟨_, vs.toArray, _, hk, rfl, rfl, rfl, by rw [List.size_toArray, lenV]; exact hl, rv⟩) (fun b u z => nomatch (show (none : Option HO) = some u from z)) fun b z => absurd rfl z
  | none =>
    have at_ : ∀ b u, (if b = a then some (HO.frz { cls := .type "list", data := .seq vs.toArray } (.lst (ns.map V.int))) else none) = some u → b = a ∧ u = .frz { cls := .type "list", data := .seq vs.toArray } (.lst (ns.map V.int)) := fun b u z => by
      by_cases hb : b = a
      · rw [if_pos hb] at z; exact ⟨hb, (Option.some.inj z).symm⟩
      · rw [if_neg hb] at z; cases z
    refine from_ (fun b => if b = a then some (.frz { cls := .type "list", data := .seq vs.toArray } (.lst (ns.map V.int))) else none) (fun b => ?_) (.inl (.inr ⟨{ cls := .type "list", data := .seq vs.toArray }, if_pos rfl⟩)) (fun b u z => ?_) fun b z => ?_
    · by_cases hb : b = a
      · exact .inr ⟨_, _, if_pos hb⟩
      · exact .inl (if_neg hb)
    · obtain ⟨rfl, rfl⟩ := at_ b u z
      exact ⟨ha, by rw [List.length_map]; exact hl, vs, _, rv, ha⟩
    · exact ⟨Classical.byContradiction fun hb => z (if_neg hb), hk⟩
theorem walk_ofG {l : PySem.W.OpenLaw} {n k : Nat} {q : Program} {loose : List Str} {XP : (Str → Option Value) → Heap → Prop} {YP : World → Heap → Prop} {d : DefRec} {x : Str}
    (hn : l.most = some n) (hn2 : n ≤ sizeLine) (hdf : d.params.defaults = []) (hr : Room k callerA)
    (F : ∀ (w : World) (mg : Str → Option Value) (fa : Addr) (h : Heap), YP w h → h.Ns mainGlobals mg → mg d.name = some (.ref fa) →
      ∃ (K : PySem.W.Frag) (fd : FuncData) (sp : Sp), K.In h ∧ (∀ (s : Shared) (u : Value), BindsTo s fd ⟨[u], []⟩ [(x, u)]) ∧
        (∀ (H : Hp) (a : Addr) (ns : List Int), ns.length ≤ n → Only H → SqL K H a (ns.map V.int) → sp [.ref a] H (fun v _ => v = .bl true) fun _ _ _ => False) ∧
        ∀ base : Heap, K.In base → base.Ns mainGlobals mg → FnG l.prog w K mg base k fa fd [x] sp) :
    PySem.W.WalkO q loose XP YP l.row.toRowW d [] (fun f vs => PySem.call f vs) := by
  refine Att.attach_call hn hdf fun w s₀ s₁ mg mb fa o pm cd doc a vs ns G Y ho hd hcd hmg hobj hints hlen hg => ?_
  obtain ⟨K, fd, sp, KX, hb, hsp, hF⟩ := F w mg fa _ Y G.T.g hmg
  exact law_callG KX G.T.g G.T.b G.T.builtins G.T.nolimit hg hobj hints (Nat.le_trans hlen hn2) hr hF hb fun H hO hS => hsp H a ns hlen hO hS
end Ev

set_option Elab.async false
set_option linter.all false
set_option maxRecDepth 100000
set_option maxHeartbeats 2000000
namespace Ev
open PySem PySem.Spec PyProof.Rows L2
/-- the values put in the parameters' order -/
def permL {α : Type} (perm : List Nat) (xs : List α) : List α := perm.filterMap fun i => xs[i]?
def KwOk (x : Str) (st : Stmt) (ps ks : List Str) (perm : List Nat) : Prop := ∀ (kV doc pm : Value) (an : Option Addr) (cdv ct : Value) (ws : List Value), ws.length = ks.length → bindArgs (PySem.W.fnOf x x (defArgs st) (defBody st) (defScope st) .none kV doc pm an cdv ct) ⟨[], ks.zip ws⟩ = pure (ps.zip (permL perm ws))
theorem permL_paired {α β : Type} {R : α → β → Prop} {xs : List α} {ys : List β} (h : Paired R xs ys) : ∀ perm : List Nat, Paired R (permL perm xs) (permL perm ys)
  | [] => .nil
  | i :: perm => by
    have ih := permL_paired h perm
    unfold permL at ih ⊢
    rw [List.filterMap_cons, List.filterMap_cons]
    have g : (xs[i]? = none ∧ ys[i]? = none) ∨ ∃ a b, xs[i]? = some a ∧ ys[i]? = some b ∧ R a b := by
      clear ih
      induction h generalizing i with
      | nil => exact .inl ⟨rfl, rfl⟩
      | cons a _ ih =>
        cases i with
        | zero => exact .inr ⟨_, _, rfl, rfl, a⟩
        | succ i => exact ih i
    rcases g with ⟨e1, e2⟩ | ⟨a, b, e1, e2, r⟩
    · rw [e1, e2]; exact ih
    · rw [e1, e2]; exact .cons r ih
theorem relVs_paired {T : Tab} {φ : Phi} {H : Hp} : ∀ {xs : List Val} {us : List V}, RelVs T φ H xs us → Paired (RelV T φ H) xs us
  | _, _, .nil => .nil
  | _, _, .cons a b => .cons a (relVs_paired b)
theorem relVs_of {T : Tab} {φ : Phi} {H : Hp} : ∀ {xs : List Val} {us : List V}, Paired (RelV T φ H) xs us → RelVs T φ H xs us
  | _, _, .nil => .nil
  | _, _, .cons a b => .cons a (relVs_of b)
structure FnAt (P : Program) (w : World) (K : PySem.W.Frag) (mg : Str → Option Value) (base : Heap) (T : Tab) (k : Nat) (x : Str) (s : Stmt) (ps : List Str) (m : Fn) : Prop where
  ex : ∃ f fd, mg x = some (.ref f) ∧ PySem.W.keepIn K (.ref f) = true ∧ Binds K fd ps [] ∧ FnG P w K mg base k f fd ps (spF T ps.length m) ∧
    ∀ ks perm, KwOk x s ps ks perm → ∀ (sh : Shared) (ws : List Value), ws.length = ks.length → BindsTo sh fd ⟨[], ks.zip ws⟩ (ps.zip (permL perm ws))
structure Cnd (fa : List He.Fa) (fn : List He.DefD) (K : PySem.W.Frag) (mg : Str → Option Value) : Prop where
  c : He.SaysD fa fn K
  hh : ∃ h : Heap, K.In h ∧ h.Ns mainGlobals mg
section
variable {fa : List He.Fa} {fn : List He.DefD} {K : PySem.W.Frag} {mg : Str → Option Value}
theorem Cnd.glo (Z : Cnd fa fn K mg) {x : Str} (i : Nat) (h : fa[i]? = some (.glo x) := by rfl) : mg x = some (.ref (He.ga K x)) := by
  obtain ⟨hp, X, G⟩ := Z.hh
  exact He.glo_ok X G (Z.c.fact i h)
theorem Cnd.free (Z : Cnd fa fn K mg) {x : Str} (i : Nat) (h : fa[i]? = some (.free x) := by rfl) : mg x = none := by
  obtain ⟨hp, X, G⟩ := Z.hh
  exact He.free_ok X G (Z.c.fact i h)
theorem Cnd.int (Z : Cnd fa fn K mg) {x : Str} {n : Int} (i : Nat) (h : fa[i]? = some (.int x n) := by rfl) : ∃ t, mg x = some (.int n t) := by
  obtain ⟨hp, X, G⟩ := Z.hh
  exact He.int_ok X G (Z.c.fact i h)
theorem Cnd.str (Z : Cnd fa fn K mg) {x z : Str} (i : Nat) (h : fa[i]? = some (.str x z) := by rfl) : ∃ t, mg x = some (.str z t) := by
  obtain ⟨hp, X, G⟩ := Z.hh
  exact He.str_ok X G (Z.c.fact i h)
abbrev dOf (x : Str) (st : Stmt) : He.DefD := ⟨(x, none), x, x, defArgs st, defBody st, defScope st, [], []⟩
def BindOk (x : Str) (st : Stmt) (ps : List Str) : Prop := ∀ (kV doc pm : Value) (an : Option Addr) (cdv ct : Value) (us : List Value), us.length = ps.length → bindArgs (PySem.W.fnOf x x (defArgs st) (defBody st) (defScope st) .none kV doc pm an cdv ct) ⟨us, []⟩ = pure (ps.zip us)
theorem fnAt_of {P : Program} {w : World} {base : Heap} {T : Tab} (Z : Cnd fa fn K mg) {x : Str} {st : Stmt} {N ps : List Str} {k n : Nat} {body : S} {m : Fn} (Sc : FnScope N ps (defScope st)) (i j : Nat) 
    (hb : BindOk x st ps) (hm : IsRun n body m)
    (h : ∀ (cdv : Value) (A : Around) (outer : List PySem.Env) (s : Shared) (H : Hp) (E : XK), Room k (A.deeper (envOfC x (defScope st) s.heap.objs.size (He.ga K x) cdv)) → A.guards = some [] →
      Takes (cxOf (L2.CX P w) P w K mg base N x (defScope st) (He.ga K x) cdv A outer s H E) (fun c d _ H' => E c d H') →
      PassesOwn (model P w) (cxOf (L2.CX P w) P w K mg base N x (defScope st) (He.ga K x) cdv A outer s H E).A (cxOf (L2.CX P w) P w K mg base N x (defScope st) (He.ga K x) cdv A outer s H E).env (cxOf (L2.CX P w) P w K mg base N x (defScope st) (He.ga K x) cdv A outer s H E).xe →
      PSs (cxOf (L2.CX P w) P w K mg base N x (defScope st) (He.ga K x) cdv A outer s H E) (defBody st) (tS T (fun c d _ H' => E c d H') body))
    (hi : fa[i]? = some (.glo x) := by rfl) (hj : fn[j]? = some (dOf x st) := by rfl) (hn : N.length = n := by rfl) :
    FnAt P w K mg base T (k + 1) x st ps m := by
  subst hn
  obtain ⟨fd, F⟩ := Z.c.def_ j hj
  have hpl : ps.length ≤ N.length := by have := congrArg List.length Sc.pre; rw [List.length_take] at this; omega
  refine ⟨He.ga K x, fd, Z.glo i hi, F.kp, F.bindsN hb, ?_, ?_⟩
  rotate_left
  · obtain ⟨oc, od, dV, kV, doc, pm, an, cdv, ct, osl, rfl, lk, hcd, hD, hK⟩ := F.ex
    rcases hD with ⟨_, rfl⟩ | ⟨e, _⟩
    · exact fun ks perm hk sh ws hl => .of_eq (hk kV doc pm an cdv ct ws hl)
    · exact absurd rfl e
  exact fnG_of F Sc (fun vs H Q E h => h.1) fun cdv A outer s H vs Q E hr hg hsp => ⟨_, h cdv A outer s H E hr hg (takes_of rfl rfl rfl rfl) (passes_of rfl), body_soundR hm hpl hsp⟩
/-- the law's def -/
theorem lawAt_of {P : Program} {w : World} {T : Tab} (Z : Cnd fa fn K mg) {x p : Str} {st : Stmt} {N : List Str} {k n : Nat} {body : S} {m : Fn} (Sc : FnScope N [p] (defScope st)) (j : Nat)
    (hb : BindOk x st [p]) (hm : IsRun n body m)
    (h : ∀ (base : Heap) (cdv : Value) (A : Around) (outer : List PySem.Env) (s : Shared) (H : Hp) (E : XK), Room k (A.deeper (envOfC x (defScope st) s.heap.objs.size (He.ga K x) cdv)) → A.guards = some [] →
      Takes (cxOf (L2.CX P w) P w K mg base N x (defScope st) (He.ga K x) cdv A outer s H E) (fun c d _ H' => E c d H') →
      PassesOwn (model P w) (cxOf (L2.CX P w) P w K mg base N x (defScope st) (He.ga K x) cdv A outer s H E).A (cxOf (L2.CX P w) P w K mg base N x (defScope st) (He.ga K x) cdv A outer s H E).env (cxOf (L2.CX P w) P w K mg base N x (defScope st) (He.ga K x) cdv A outer s H E).xe →
      PSs (cxOf (L2.CX P w) P w K mg base N x (defScope st) (He.ga K x) cdv A outer s H E) (defBody st) (tS T (fun c d _ H' => E c d H') body))
    (hj : fn[j]? = some (dOf x st) := by rfl) (hn : N.length = n := by rfl) :
    ∃ fd : FuncData, (∀ (s : Shared) (u : Value), BindsTo s fd ⟨[u], []⟩ [(p, u)]) ∧ ∀ base : Heap, FnG P w K mg base (k + 1) (He.ga K x) fd [p] (spF T 1 m) := by
  subst hn
  obtain ⟨fd, F⟩ := Z.c.def_ j hj
  have hpl : 1 ≤ N.length := by have := congrArg List.length Sc.pre; rw [List.length_take] at this; simp at this; omega
  refine ⟨fd, fun s u => F.bindsA (ps := [p]) hb s [u] rfl, fun base => ?_⟩
  exact fnG_of F Sc (fun vs H Q E h => h.1) fun cdv A outer s H vs Q E hr hg hsp => ⟨_, h base cdv A outer s H E hr hg (takes_of rfl rfl rfl rfl) (passes_of rfl), body_soundR hm hpl hsp⟩
/-- what the law's def answers is what its meaning answers -/
theorem law_sp {T : Tab} {m : Fn} {a : Addr} {ns : List Int} {H : Hp} (hS : SqL T.K H a (ns.map V.int)) (h : ∃ st, m [.lst (ns.map .int)] [] = .ok (.bl true) st) : spF T 1 m [.ref a] H (fun v _ => v = .bl true) fun _ _ _ => False := by
  obtain ⟨st, h⟩ := h
  refine ⟨rfl, ⟨[], []⟩, [.lst (ns.map .int)], [], ?_, ?_, ?_⟩
  · refine ⟨rfl, fun n m a h => ?_, fun n o h => ?_, fun a h => absurd h List.not_mem_nil, fun n a h => ?_⟩
    · exact absurd h (by simp)
    · exact absurd h (by simp)
    · exact absurd h (by simp)
  · have intsR : ∀ ns : List Int, RelVs T ⟨[], []⟩ H (ns.map Val.int) (ns.map V.int) := fun ns => by
      induction ns with
      | nil => exact .nil
      | cons n ns ih => exact .cons (.int n) ih
    refine .cons (.lst (us := ns.map V.int) ?_ (intsR ns)) .nil
    rcases hS with z | z
    · refine .inl ⟨?_, z⟩
      rintro (⟨n, hn⟩ | hn)
      · exact absurd hn (by simp)
      · exact absurd hn List.not_mem_nil
    · exact .inr z
  · rw [h]
    intro φ' H' u e s q
    cases q
    rfl
end
section
variable {X : Cx} {T : Tab} {W : WX}
theorem takesB : Takes X W0 := fun u s' ⟨a, B, sI, pins, σ, H, cls, d, e, I, nb, up, sky, na, os, ag, w⟩ => w.elim
theorem e_callF {k j : Nat} {ps : List Str} {m : Fn} {x : Str} {p pos : Pos} {e : Expr} {es : List Expr} {as : EA} {sx : Stmt} (F : FnAt X.prog X.w X.K X.mg X.base T j x sx ps m) (hr : Room k X.A) (hgd : X.A.guards = some []) (tk : Takes X W) (ha : PA X (e :: es) (tA T W as)) (hjk : j ≤ k := by decide) (hg : Gl X x := by rfl) (hdb : (x == ("__debug__" : Str)) = false := by decide)
    (he : starEach (e :: es) X.env = (false, eval e X.env) :: starEach es X.env := by rfl) (hpl : (backTo pos (starEach es X.env)).any (·.1) = false := by rfl) :
    PE X (.Call (.Name x p) (e :: es) [] pos) (tE T W (eCall ps.length m as)) := by
  obtain ⟨f, fd, hm, hk, hb, F, _⟩ := F.ex
  refine ⟨fun pins s σ H Q I h => ?_⟩
  refine wpAny_Call_Name_kw (ld_glob I hg hm ?_ hdb)
  have h' : tA T W as σ H (fun us H1 => spF T ps.length m us H1 Q (fun c d H' => W c d σ H')) := by
    obtain ⟨φ, ρ, st, re, pp⟩ := h
    exact ⟨φ, ρ, st, re, post_bind pp fun vs st1 φ1 H1 us eq e1 s1 q1 p1 => call_sound s1 q1 p1⟩
  refine PySem.W.callWith_K (h₀ := X.base) I.ok.mod.kin hk (thn (ha.run pos pins s σ H _ I h') fun us s1 ⟨vs, H1, I1, r, q⟩ => ⟨I1.kIn, ?_⟩) he hpl
  have b := hb s1 us I1.kIn (by rw [List.append_nil, ← r.length]; exact q.1)
  rw [List.append_nil] at b
  exact run_fnG (args := ⟨us, []⟩) (E := fun σ c d H' => W c d σ H') (F.mono hjk) hr hgd (fun pins H s e s' I c => passAt tk σ pins H s e s' I c) I1 b r q
/-- f(k = v, ..) -/
theorem k_nil : PK X [] (tA T W eNil) := ⟨fun pos pins s σ H Q I ⟨φ, ρ, st, re, p⟩ => pk_nil.run pos pins s σ H Q I (p.ok_self re.rst .nil)⟩
theorem k_cons {nm : Option Str} {e : Expr} {kpos : Pos} {kws : List Keyword} {a : E} {as : EA} (ha : PE X e (tE T W a)) (hr : PK X kws (tA T W as)) : PK X (⟨nm, e, kpos⟩ :: kws) (tA T W (eCons a as)) := by
  refine ⟨fun pos pins s σ H Q I h => (pk_cons ha hr).run pos pins s σ H Q I ?_⟩
  refine tG_bind h fun v ρ st1 φ1 H1 u re1 q1 p1 => ?_
  refine ⟨φ1, ρ, st1, re1, post_bind p1 fun vs st2 φ2 H2 us _ e2 s2 q2 p2 => ?_⟩
  exact p2.ok_self s2 (.cons (q1.ext e2) q2)
def eCallK (np kn : Nat) (perm : List Nat) (m : Fn) (a : EA) : E := fun ρ st => bindR (a ρ st) fun zs st1 => if zs.length = kn ∧ (permL perm zs).length = np then m (permL perm zs) st1 else .bad
theorem e_callK {k j : Nat} {ps ks : List Str} {perm : List Nat} {m : Fn} {x : Str} {p pos : Pos} {kws : List Keyword} {as : EA} {sx : Stmt} (F : FnAt X.prog X.w X.K X.mg X.base T j x sx ps m) (hkw : KwOk x sx ps ks perm) (hr : Room k X.A) (hgd : X.A.guards = some []) (tk : Takes X W) (ha : PK X kws (tA T W as)) (hjk : j ≤ k := by decide) (hg : Gl X x := by rfl) (hdb : (x == ("__debug__" : Str)) = false := by decide)
    (hlk : ks.length = kws.length := by rfl)
    (hall : (backToKw pos (keywordEach kws X.env)).all (·.1.isSome) = true := by rfl) (hks : (backToKw pos (keywordEach kws X.env)).filterMap (·.1) = ks := by rfl) 
    (hpl : ((backTo pos (starEach [] X.env)).any (·.1) || (backToKw pos (keywordEach kws X.env)).any (·.1.isNone)) = false := by rfl) :
    PE X (.Call (.Name x p) [] kws pos) (tE T W (eCallK ps.length ks.length perm m as)) := by
  obtain ⟨f, fd, hm, hk, _, F, hb⟩ := F.ex
  refine ⟨fun pins s σ H Q I h => ?_⟩
  refine wpAny_Call_Name_kw (ld_glob I hg hm ?_ hdb)
  refine PySem.W.callWith_KW0 (h₀ := X.base) I.ok.mod.kin hk hall ?_ hpl
  have h' : tA T W as σ H (fun us H1 => us.length = ks.length ∧ spF T ps.length m (permL perm us) H1 Q (fun c d H' => W c d σ H')) := by
    refine tG_bind h fun vs ρ st1 φ1 H1 us re1 q1 p1 => ?_
    split at p1
    · rename_i hn
      have q2 := permL_paired (relVs_paired q1) perm
      refine ⟨q1.length.symm.trans hn.1, by rw [← Paired.length q2]; exact hn.2, φ1, permL perm vs, st1, re1.rst, relVs_of q2, ?_⟩
      cases hm2 : m (permL perm vs) st1 with
      | ok v st' => rw [hm2] at p1; exact p1
      | ex x st' => rw [hm2] at p1; exact p1
      | bad => rw [hm2] at p1; exact p1
    · exact p1.elim
  refine thn (ha.run pos pins s σ H _ I h') fun ws s2 ⟨zs, H2, I2, rz, q0, q2⟩ => ⟨I2.kIn, ?_⟩
  rw [hks]
  have lw : ws.length = ks.length := rz.length.symm.trans q0
  have r2 : Vals (permL perm zs) (permL perm ws) := permL_paired rz perm
  exact run_fnG (args := ⟨[], ks.zip ws⟩) (E := fun σ c d H' => W c d σ H') (F.mono hjk) hr hgd (fun pins H s e s' I c => passAt tk σ pins H s e s' I c) I2 (hb ks perm hkw s2 ws lw) r2 q2
theorem e_gintE {x : Str} {i : Int} {pos : Pos} (hm : ∃ t, X.mg x = some (.int i t)) (hg : Gl X x := by rfl) (hd : (x == ("__debug__" : Str)) = false := by decide) : PE X (.Name x pos) (tE T W (eC (.int i))) := by
  obtain ⟨t, h⟩ := hm
  exact e_gint h hg hd
theorem e_gstrE {x : Str} {i : Str} {pos : Pos} (hm : ∃ t, X.mg x = some (.str i t)) (hg : Gl X x := by rfl) (hd : (x == ("__debug__" : Str)) = false := by decide) : PE X (.Name x pos) (tE T W (eC (.str i))) := by
  obtain ⟨t, h⟩ := hm
  exact e_gstr h hg hd
/-- what is not promised -/
def eBad : E := fun _ _ => .bad
def sBad : S := fun _ _ => .bad
theorem e_bad {e : Expr} : PE X e (tE T W eBad) := ⟨fun _ _ _ _ _ _ ⟨_, _, _, _, p⟩ => p.elim⟩
theorem s_bad {s : Stmt} : PS X s (tS T W sBad) := ⟨fun _ _ _ _ _ _ ⟨_, _, _, _, p⟩ => p.elim⟩
theorem hu65 {k : Nat} (hr : Room k X.A) : X.A.units + 65 < cLine := by have := hr.un; omega
theorem hu1 {k : Nat} (hr : Room k X.A) : X.A.units + 1 < cLine := by have := hr.un; omega
theorem hu0 {k : Nat} (hr : Room k X.A) : X.A.units < cLine := by have := hr.un; omega
theorem hu64 {k : Nat} (hr : Room k X.A) : X.A.units + 64 < cLine := by have := hr.un; omega
/-- a < b < c -/
def eChain (f g : Sto → Val → Val → Option Val) (a b c : E) : E := fun ρ st => bindR (a ρ st) fun v st1 => bindR (b ρ st1) fun u st2 => match f st2 v u with
  | some (.bl true) => bindR (c ρ st2) fun w st3 => optR (g st3 u w) st3
  | some (.bl false) => .ok (.bl false) st2
  | _ => .bad
theorem chain_sound {r r' : R2} {f g : Sto → Val → Val → Option Val} (hs : SndB T r f) (hs' : SndB T r' g) {a b c : E} {σ : L2.St} {H : Hp} {Q : VK} (h : tE T W (eChain f g a b c) σ H Q) : tChain r r' (tE T W a) (tE T W b) (tE T W c) σ H Q := by
  refine tG_bind h fun v ρ st1 φ1 H1 x re1 q1 p1 => ?_
  refine ⟨φ1, ρ, st1, re1, post_bind p1 fun u st2 φ2 H2 y eq2 e2 s2 q2 p2 => ?_⟩
  cases hf : f st2 v u with
  | none => rw [hf] at p2; exact p2.elim
  | some z =>
    rw [hf] at p2
    refine hs φ2 st2 H2 v u z x y _ s2 (q1.ext e2) q2 hf fun H3 z' e3 s3 q3 => ?_
    cases z with
    | bl k =>
      cases q3
      refine ⟨k, rfl, ?_⟩
      cases k with
      | true =>
        rw [if_pos rfl]
        refine ⟨φ2, ρ, st2, (re1.ext e2 s2).ext e3 s3, post_bind (Post.later p2 e3) fun w' st4 φ4 H4 y' eq4 e4 s4 q4 p4 => ?_⟩
        cases hg : g st4 u w' with
        | none => rw [hg] at p4; exact p4.elim
        | some t =>
          rw [hg] at p4
          exact hs' φ4 st4 H4 u w' t y y' Q s4 ((q2.ext e3).ext e4) q4 hg fun H' uu e5 s5 q5 => p4 φ4 H' uu e5 s5 q5
      | false => rw [if_neg (by decide)]; exact p2 φ2 H3 _ e3 s3 (.bl false)
    | _ => exact p2.elim
theorem e_chain {a b c : Expr} {op op' : CmpOp} {pos : Pos} {r r' : R2} {f g : Sto → Val → Val → Option Val} {ea eb ec : E} (ho : OpR X (compareOp op) r) (hs : SndB T r f) (ho' : OpR X (compareOp op') r') (hs' : SndB T r' g)
    (ha : PE X a (tE T W ea)) (hb : PE X b (tE T W eb)) (hc : PE X c (tE T W ec)) (hm : lastMarks [op, op'] [b, c] = false := by with_unfolding_all rfl) :
    PE X (.Compare a [op, op'] [b, c] pos) (tE T W (eChain f g ea eb ec)) := pe_imp (pe_chain ho ho' ha hb hc hm) fun _ _ _ h => chain_sound hs hs' h
theorem t_chain {a b c : Expr} {op op' : CmpOp} {pos : Pos} {r r' : R2} {f g : Sto → Val → Val → Option Val} {ea eb ec : E} (ho : OpR X (compareOp op) r) (hs : SndB T r f) (ho' : OpR X (compareOp op') r') (hs' : SndB T r' g)
    (ha : PE X a (tE T W ea)) (hb : PE X b (tE T W eb)) (hc : PE X c (tE T W ec)) (hm : lastMarks [op, op'] [b, c] = false := by with_unfolding_all rfl) :
    PT X (.Compare a [op, op'] [b, c] pos) (tT T W (eTest (eChain f g ea eb ec))) := by
  refine pt_imp (pt_chain ho ho' ha hb hc hm) fun σ H Q h => ?_
  have h' : tE T W (eChain f g ea eb ec) σ H (fun u H1 => ∃ k, u = .bl k ∧ Q k H1) := by
    refine tG_bind h fun v ρ st1 φ1 H1 u re1 q1 p1 => ?_
    split at p1
    · rename_i b
      cases q1
      exact ⟨b, rfl, p1.ok_self re1.rst rfl⟩
    · exact p1.elim
  exact chain_sound hs hs' h'
end
end Ev

set_option Elab.async false
set_option linter.all false
set_option maxRecDepth 100000
set_option maxHeartbeats 2000000
namespace Ev
open PySem PySem.Spec PyProof.Rows L2
section
variable {X : Cx} {T : Tab} {W : WX}
theorem rel_non {φ : Phi} {H : Hp} {v : Val} (r : RelV T φ H v .non) : v = .non ∨ ∃ n, v = .loc n := by
  cases r with
  | non => exact .inl rfl
  | loc => exact .inr ⟨_, rfl⟩
theorem isNon {st : Sto} {φ : Phi} {H : Hp} {v : Val} {x : V} {b : Bool} (r : RelV T φ H v x) (h : fIs st v .non = some (.bl b)) : decide (x = .non) = b := by
  cases b with
  | true =>
    unfold fIs at h
    split at h <;> first | (cases h; done) | (cases r; rfl) | (rename_i q; cases q)
  | false =>
    refine decide_eq_false fun z => ?_
    subst z
    rcases rel_non r with rfl | ⟨n, rfl⟩ <;> cases h
theorem fIs_non {st : Sto} {v z : Val} (h : fIs st v .non = some z) : ∃ b, z = .bl b := by
  unfold fIs at h
  split at h <;> cases h <;> exact ⟨_, rfl⟩
theorem fIs_bl {st : Sto} {v w z : Val} (h : fIs st v w = some z) : w = .non ∨ ∃ a b, v = .bl a ∧ w = .bl b ∧ z = .bl (decide (a = b)) := by
  unfold fIs at h
  split at h <;> cases h <;> first | exact .inl rfl | exact .inr ⟨_, _, rfl, rfl, rfl⟩
theorem fIsNot_eq {st : Sto} {v w : Val} : fIsNot st v w = (fIs st v w).map fun z => match z with | .bl b => .bl (!b) | z => z := by
  unfold fIsNot fIs
  split <;> rfl
theorem snd_is : SndB T rIsA fIs := by
  intro φ st H v w z x y Q R r1 r2 hf hq
  rcases fIs_bl hf with rfl | ⟨a, b, rfl, rfl, rfl⟩
  · obtain ⟨b, rfl⟩ := fIs_non hf
    cases r2
    refine .inl ⟨rfl, ?_⟩
    rw [isNon r1 hf]
    exact hq H _ Ext.refl R (.bl _)
  · cases r1
    cases r2
    exact .inr ⟨_, _, rfl, rfl, hq H _ Ext.refl R (.bl _)⟩
theorem snd_isNot : SndB T rIsNotA fIsNot := by
  intro φ st H v w z x y Q R r1 r2 hf hq
  rw [fIsNot_eq] at hf
  cases h : fIs st v w with
  | none => rw [h] at hf; cases hf
  | some z' =>
    rw [h] at hf
    rcases fIs_bl h with rfl | ⟨a, b, rfl, rfl, rfl⟩
    · obtain ⟨b, rfl⟩ := fIs_non h
      cases hf
      cases r2
      refine .inl ⟨rfl, ?_⟩
      rw [isNon r1 h]
      exact hq H _ Ext.refl R (.bl _)
    · cases hf
      cases r1
      cases r2
      exact .inr ⟨_, _, rfl, rfl, hq H _ Ext.refl R (.bl _)⟩

inductive Ty6 where
  | int | bool | str | tuple | list | dict
def Ty6.nm : Ty6 → String
  | .int => "int" | .bool => "bool" | .str => "str" | .tuple => "tuple" | .list => "list" | .dict => "dict"
def isTy (t : Ty6) (st : Sto) (v : Val) : Option Bool := match v with
  | .non => some false
  | .bl _ => some (match t with | .int | .bool => true | _ => false)
  | .int _ => some (match t with | .int => true | _ => false)
  | .str _ => some (match t with | .str => true | _ => false)
  | .tup _ => some (match t with | .tuple => true | _ => false)
  | .lst _ => some (match t with | .list => true | _ => false)
  | .dct _ _ => some (match t with | .dict => true | _ => false)
  | .loc n => match st[n]? with
    | some (.lst _) => some (match t with | .list => true | _ => false)
    | some (.dK _) => some (match t with | .dict => true | _ => false)
    | some (.dT _) => some (match t with | .dict => true | _ => false)
    | _ => none
  | _ => none
def tyName (st : Sto) (v : Val) : Option String := match v with
  | .non => some "NoneType"
  | .bl _ => some "bool"
  | .int _ => some "int"
  | .str _ => some "str"
  | .tup _ => some "tuple"
  | .lst _ => some "list"
  | .dct _ _ => some "dict"
  | .loc n => match st[n]? with
    | some (.lst _) => some "list"
    | some (.dK _) => some "dict"
    | some (.dT _) => some "dict"
    | _ => none
  | _ => none
theorem tyX_of {φ : Phi} {st : Sto} {H : Hp} {v : Val} {x : V} {n : String} (R : Rst T φ st H) (r : RelV T φ H v x) (h : tyName st v = some n) : L2.TyX T.K H x (.type n) := by
  cases r with
  | non => cases h; exact .base .non
  | bl b => cases h; exact .base (.bl b)
  | int i => cases h; exact .base (.int i)
  | str s => cases h; exact .base (.str s)
  | tup e _ => cases h; exact .base (.tup e)
  | lst e _ =>
    cases h
    rcases e with ⟨_, e | ⟨o, e⟩⟩ | ⟨o, its, n, e, c, _⟩
    · exact .base (.lst e)
    · exact .base (.frz e)
    · exact .kList e c
  | dct _ e _ _ =>
    cases h
    rcases e with e | ⟨o, e⟩
    · exact .base (.dK e)
    · exact .fDict e
  | exc => cases h
  | @loc n u hn hu =>
    unfold tyName at h
    dsimp only at h
    split at h
    · rename_i q
      cases h
      obtain ⟨a, e1, us, e2, e3⟩ := R.at q (by simp)
      rw [hu a e1]; exact .base (.lst e2)
    · rename_i q
      cases h
      obtain ⟨a, e1, us, e2, e3⟩ := R.at q (by simp)
      rw [hu a e1]; exact .base (.dK e2)
    · rename_i q
      cases h
      obtain ⟨a, e1, us, e2, e3⟩ := R.at q (by simp)
      rw [hu a e1]; exact .base (.dT e2)
    · cases h
theorem isTy_kit {t : Ty6} {st : Sto} {v : Val} {b : Bool} (h : isTy t st v = some b) : ∃ n, tyName st v = some n ∧ L2.kitB n t.nm = some b := by
  cases v with
  | loc n =>
    unfold isTy at h
    unfold tyName
    dsimp only at h ⊢
    split at h <;> first | cases h | skip
    all_goals
      rename_i q
      refine ⟨_, rfl, ?_⟩
      cases t <;> decide +kernel
  | exc => cases h
  | _ => refine ⟨_, rfl, ?_⟩; cases t <;> cases h <;> decide +kernel
def eIsi (t : Ty6) (a : E) : E := fun ρ st => bindR (a ρ st) fun v st1 => match isTy t st1 v with
  | some b => .ok (.bl b) st1
  | none => .bad
theorem e_isi {t : Ty6} {e : Expr} {x : Str} {a : E} {p p2 pos : Pos} (hm : X.mg "isinstance" = none) (hmT : X.mg x = none) (hv : bootBuiltins x = some (.type t.nm)) (hK : T.K = X.K) (ha : PE X e (tE T W a)) (hg : Gl X "isinstance" := by rfl) (hgT : Gl X x := by rfl)
    (hn : x ≠ "__name__" := by decide) (hdb : (x == ("__debug__" : Str)) = false := by decide)
    (he : starEach [e, .Name x p2] X.env = (false, eval e X.env) :: starEach [.Name x p2] X.env := by rfl) (he2 : starEach [.Name x p2] X.env = [(false, eval (.Name x p2) X.env)] := by rfl) (hpl : (backTo pos (starEach [.Name x p2] X.env)).any (·.1) = false := by rfl) :
    PE X (.Call (.Name "isinstance" p) [e, .Name x p2] [] pos) (tE T W (eIsi t a)) := by
  refine pe_imp (pe_callB call_isi hg hm (by decide +kernel) (pa_cons ha (pa_cons (pe_bltn (v := .ty t.nm) hgT hmT hv rfl hn hdb) pa_nil he2) he) (by decide) (by decide) he hpl) fun σ H Q h => ?_
  refine tG_bind h fun v ρ st1 φ1 H1 u re1 q1 p1 => ?_
  cases hf : isTy t st1 v with
  | none => rw [hf] at p1; exact p1.elim
  | some b =>
    rw [hf] at p1
    obtain ⟨n, h1, h2⟩ := isTy_kit hf
    exact ⟨u, _, _, _, b, rfl, .ty _, hK ▸ tyX_of re1.rst q1 h1, L2.kit_ty h2, p1.ok_self re1.rst (.bl b)⟩
end
end Ev

set_option Elab.async false
set_option linter.all false
set_option maxRecDepth 100000
set_option maxHeartbeats 2000000
namespace Ev
open PySem PySem.Spec PyProof.Rows L2
theorem q_rmul_il (a : Int) (t : Tok) (l : Addr) (items : Array Value) (n : Nat) (d : Option Addr) (sl : Array (Option Value)) :
    Meets (Builtin.«int.__rmul__» ⟨[.int a t, .ref l], []⟩) (fun _ R s => s.heap.get? l = some { cls := .type "list", dict := d, data := .seq items n, slots := sl } ∧ R (.ok (.ret Value.notImplemented)) s) :=
  .of_wp fun prog w A R s h => by obtain ⟨hp, g, d, tk, os⟩ := s; obtain ⟨hl, h⟩ := h; wp_walk; exact ⟨_, rfl, h⟩
theorem q_mul_il (l : Addr) (items : Array Value) (n : Nat) (d : Option Addr) (sl : Array (Option Value)) (x : Int) (u : Tok) (hc0 : ¬(!Builtin.List.listFitsIndex x) = true) (hc1 : ¬items.size * x.toNat > (2 ^ 63 - 1) / 8) (hc2 : ¬Builtin.List.listTooLong (items.size * x.toNat) = true) :
    Meets (Builtin.«list.__mul__» ⟨[.ref l, .int x u], []⟩) (fun _ R s => s.heap.get? l = some { cls := .type "list", dict := d, data := .seq items n, slots := sl } ∧ R (.ok (.ret (Value.ref s.heap.objs.size))) { s with heap := s.heap.push { cls := Value.type "list", data := Data.seq (List.foldl (fun x1 x2 => x1 ++ x2) #[] (List.replicate (if items.isEmpty = true then 0 else x.toNat) items)) }, toks := s.toks }) :=
  .of_wp fun prog w A R s h => by
    obtain ⟨hp, g, d, tk, os⟩ := s; obtain ⟨hl, h⟩ := h
    have hsz := PySem.AutoListH.joined_fits hc2
    wp_walk; refine wpAny_ite_false (decide_eq_false (Nat.not_lt.mpr hsz)) ?_; wp_walk; exact ⟨_, rfl, h⟩
def rRepL (K : PySem.W.Frag) : R2 := fun x y H Q => ∃ l k xs, x = .ref l ∧ y = .int k ∧ SqL K H l xs ∧ -(2 ^ 63) ≤ k ∧ k < 2 ^ 63 ∧ xs.length * k.toNat ≤ sizeLine ∧
  ∀ p, H p = none → Q (.ref p) (upd H p (.lst (List.replicate k.toNat xs).flatten))
section
variable {X : Cx} {T : Tab} {W : WX}
theorem op_repL : OpR X (binaryOp .Mult) (rRepL X.K) := by
  intro pins s σ H x y v u Q I rx ry h
  obtain ⟨l, k, xs, rfl, rfl, hS, h1, h2, hz, q⟩ := h
  obtain rfl : v = Value.ref l := rx
  obtain ⟨t, rfl⟩ := ry
  obtain ⟨its, r, ⟨⟨cls, dd, data, sl⟩, n, ho, hc, hdn, hd⟩, hlen0⟩ := I.list hS
  have hc1 : cls = Value.type "list" := hc
  have hd1 : data = Data.seq its.toArray n := hd
  subst hc1 hd1
  have hlen : its.toArray.size * k.toNat ≤ sizeLine := by rw [List.size_toArray, ← r.length]; exact hz
  have hcap : ¬ its.toArray.size * k.toNat > (2 ^ 63 - 1) / 8 := by
    have : (sizeLine : Nat) ≤ (2 ^ 63 - 1) / 8 := by decide
    omega
  have hfit : ¬ (!Builtin.List.listFitsIndex k) = true := by
    rw [fitsIndex_both h1 h2]
    exact Bool.false_ne_true
  have hlong : ¬ Builtin.List.listTooLong (its.toArray.size * k.toNat) = true := by
    rw [notLongL hlen]
    exact Bool.false_ne_true
  have hnew : List.foldl (fun x1 x2 => x1 ++ x2) #[] (List.replicate (if its.toArray.isEmpty = true then 0 else k.toNat) its.toArray) = (List.replicate k.toNat its).flatten.toArray := by
    rw [L2.size_rep]
    cases its with
    | nil => simp
    | cons a r' => rw [if_neg (by simp)]
  refine wpAny_binaryOp_repeat_ref (T := "list") (U := "int") (by decide) ⟨_, ho, rfl⟩ (fun s' => typeIs_int s' k t) noFill_list_mul F.fills_int_mul F.slot_int_rmul repeat_list F.slot_int_index.lookup
    (call_meets F.slot_int_rmul (typeIs_int s k t) F.entry_int_rmul (F.args_int_rmul_2 _ _) (q_rmul_il k t l its.toArray n dd sl)
      ⟨ho, rfl, ⟨_, ho, rfl⟩, call_meets F.slot_list_mul ⟨_, ho, rfl⟩ F.entry_list_mul (F.args_list_mul_2 _ _) (q_mul_il l its.toArray n dd sl k t hfit hcap hlong) ⟨ho, ?_⟩⟩)
  rw [hnew]
  refine ⟨.ref s.heap.objs.size, _, I.laid (t' := s.toks) (o := .lst (List.replicate k.toNat xs).flatten) (fun b ob q => Heap.get?_push_of_some _ q) (Nat.le_refl _) ?_, rfl, q _ (I.hok.fresh (Nat.le_refl _))⟩
  exact ⟨by rw [PyProof.Rows.lm_len_rep_flat, Nat.mul_comm]; exact hz, _, 0, r.rep k.toNat, Heap.get?_push_size _ rfl⟩
def rRepS : R2 := fun x y H Q => ∃ z k, x = .str z ∧ y = .int k ∧ 1 ≤ k ∧ k ≤ 1000 ∧ z.length ≤ 1000 ∧ Q (.str (Txt.mul z k)) H
theorem op_repS : OpR X (binaryOp .Mult) rRepS := by
  intro pins s σ H x y v u Q I rx ry h
  obtain ⟨z, k, rfl, rfl, h1, h2, h3, q⟩ := h
  obtain ⟨t, rfl⟩ := rx
  obtain ⟨t', rfl⟩ := ry
  refine PySem.SB.mul ⟨?_, fun _ _ => ?_, fun _ _ => ?_⟩ fun t2 k2 => ⟨.str _, H, I.tok _, ⟨_, rfl⟩, q⟩
  · rw [decide_eq_false (by omega), decide_eq_false (by omega)]
    rfl
  · have h4 : (1000 : Int) ≤ (2 ^ 63 - 1) / k := by
      refine (Int.le_ediv_iff_mul_le (by omega)).mpr ?_
      omega
    omega
  · unfold Builtin.Str.tooLong
    have h5 : z.length * k.toNat ≤ 1000 * 1000 := Nat.mul_le_mul h3 (by omega)
    rw [sizeLine_eq]
    exact decide_eq_false (by omega)
def fMul (st : Sto) (v w : Val) : Option Val := match v, w with
  | .int i, .int j => if cMul i j = true then some (.int (i * j)) else none
  | .tup xs, .int k => if 2 ≤ k ∧ k ≤ 1000 ∧ xs.length ≤ 1000 ∧ xs ≠ [] then some (.tup (List.replicate k.toNat xs).flatten) else none
  | .lst xs, .int k => if -(2 ^ 63) ≤ k ∧ k < 2 ^ 63 ∧ xs.length * k.toNat ≤ sizeLine then some (.lst (List.replicate k.toNat xs).flatten) else none
  | .str z, .int k => if 1 ≤ k ∧ k ≤ 1000 ∧ z.length ≤ 1000 then some (.str (Txt.mul z k)) else none
  | _, _ => none
def rMulA (K : PySem.W.Frag) : R2 := fun x y H Q => (rI CMul fun i j => .int (i * j)) x y H Q ∨ rRepL K x y H Q ∨ rRepT K x y H Q ∨ rRepS x y H Q
theorem op_mulA : OpR X (binaryOp .Mult) (rMulA X.K) := op_mul.or (op_repL.or (op_repT.or op_repS))
theorem snd_mul : SndB T (rMulA T.K) fMul := by
  intro φ st H v w z x y Q R r1 r2 hf hq
  unfold fMul at hf
  split at hf
  · split at hf
    · rename_i hc
      cases hf; cases r1; cases r2
      exact .inl ⟨_, _, rfl, rfl, cMul_ok _ _ hc, hq H _ Ext.refl R (.int _)⟩
    · cases hf
  · split at hf
    · rename_i hc
      cases hf
      cases r2
      cases r1 with
      | tup a1 b1 =>
        rename_i us a
        refine .inr (.inr (.inl ⟨a, _, us, rfl, rfl, SqT.of a1, ?_, hc.1, hc.2.1, by rw [← b1.length]; exact hc.2.2.1, fun p hp => ?_⟩))
        · intro z; subst z; cases b1; exact hc.2.2.2 rfl
        · exact hq _ _ (Ext.fresh R hp) (R.fresh hp) (.tup upd_same ((b1.rep _).ext (Ext.fresh R hp)))
    · cases hf
  · split at hf
    · rename_i hc
      cases hf
      cases r2
      obtain ⟨a, us, rfl, s1, q1⟩ := rel_lst (xs := _) R r1 rfl
      refine .inr (.inl ⟨a, _, us, rfl, rfl, s1, hc.1, hc.2.1, by rw [← q1.length]; exact hc.2.2, fun p hp => ?_⟩)
      exact hq _ _ (Ext.fresh R hp) (R.fresh hp) (.lst (.inl ⟨R.nolive hp, .inl upd_same⟩) ((q1.rep _).ext (Ext.fresh R hp)))
    · cases hf
  · split at hf
    · rename_i hc
      cases hf
      cases r1; cases r2
      exact .inr (.inr (.inr ⟨_, _, rfl, rfl, hc.1, hc.2.1, hc.2.2, hq H _ Ext.refl R (.str _)⟩))
    · cases hf
  · cases hf
/-- xs * k, a new thing of the store -/
def eMulN (a b : E) : E := fun ρ st => bindR (a ρ st) fun v st1 => bindR (b ρ st1) fun w st2 => match v, w with
  | .lst xs, .int k => if -(2 ^ 63) ≤ k ∧ k < 2 ^ 63 ∧ xs.length * k.toNat ≤ sizeLine then .ok (.loc st2.length) (st2 ++ [.lst (List.replicate k.toNat xs).flatten]) else .bad
  | _, _ => .bad
theorem e_mulN {a b : Expr} {pos : Pos} {ea eb : E} (hK : T.K = X.K) (ha : PE X a (tE T W ea)) (hb : PE X b (tE T W eb)) : PE X (.BinOp a .Mult b pos) (tE T W (eMulN ea eb)) := by
  refine pe_imp (pe_op op_repL ha hb) fun σ H Q h => ?_
  refine tG_bind h fun v ρ st1 φ1 H1 u re1 q1 p1 => ?_
  refine ⟨φ1, ρ, st1, re1, post_bind p1 fun w st2 φ2 H2 y eq2 e2 s2 q2 p2 => ?_⟩
  split at p2
  · split at p2
    · rename_i hc
      cases q2
      obtain ⟨a, us, rfl, s1, q1⟩ := rel_lst (xs := _) s2 (q1.ext e2) rfl
      refine ⟨a, _, us, rfl, rfl, hK ▸ s1, hc.1, hc.2.1, by rw [← q1.length]; exact hc.2.2, fun p hp => ?_⟩
      exact p2 _ _ _ (Ext.alloc s2 hp) (s2.alloc hp ⟨_, upd_same, (q1.rep _).ext (Ext.alloc s2 hp)⟩) (rel_loc s2)
    · exact p2.elim
  · exact p2.elim
end
end Ev

set_option Elab.async false
set_option linter.all false
set_option maxRecDepth 100000
set_option maxHeartbeats 2000000
namespace Ev
open PySem PySem.Spec PyProof.Rows L2
section
variable {prog : Program} {w : World} {A : Around} {E : Value → Shared → Prop} {s : Shared}
theorem sliceApplied_rev {sl : Addr} {vl vu vs : Value} {n : Nat} {Q : Int × Int × Nat → Shared → Prop} (hs : s.heap.IsSliceOf sl vl vu vs) (pl : IsPart vl none) (pu : IsPart vu none) (ps : IsPart vs (some (-1)))
    (h : Q ((n : Int) - 1, -1, n) s) : wpAny (model prog w) A (Builtin.Slice.sliceApplied (.ref sl) (pure (n : Int))) Q E s := by
  obtain ⟨os, hos, hcs, hds⟩ := id hs
  unfold Builtin.Slice.sliceApplied Builtin.Slice.sliceFields
  refine wpAny_bind (wpAny_bind (wpAny_field hos hds (x := vl) rfl (wpAny_bind (wpAny_field hos hds (x := vu) rfl (wpAny_bind (wpAny_field hos hds (x := vs) rfl (wpAny_pure ?_)))))))
  refine wpAny_bind (HT.slicePart_ ps ?_)
  show wpAny _ _ (if ((-1 : Int) == 0) = true then _ else _) _ _ s
  rw [if_neg (by decide)]
  refine wpAny_bind (HT.slicePart_ pl (wpAny_bind (HT.slicePart_ pu (wpAny_bind (wpAny_pure ?_)))))
  have e : Builtin.Slice.sliceAdjust none none (-1) (n : Int) = ((n : Int) - 1, -1) := by
    unfold Builtin.Slice.sliceAdjust
    simp
  have e2 : Builtin.Slice.slicePlaces ((n : Int) - 1) (-1) (-1) = n := by
    unfold Builtin.Slice.slicePlaces
    simp only [show ¬ ((-1 : Int) > 0) by decide, if_false]
    split
    · rw [show (- -1 : Int) = 1 by decide, Int.ediv_one]; omega
    · omega
  show wpAny _ _ (match Builtin.Slice.sliceAdjust none none (-1) (n : Int) with | (lo, hi) => pure (lo, (-1 : Int), Builtin.Slice.slicePlaces lo hi (-1))) _ _ s
  rw [e]
  show wpAny _ _ (pure ((n : Int) - 1, (-1 : Int), Builtin.Slice.slicePlaces ((n : Int) - 1) (-1) (-1))) _ _ s
  rw [e2]
  exact wpAny_pure h
theorem fm_map {α β : Type} {f : α → Option β} {g : α → β} : ∀ {l : List α}, (∀ m, m ∈ l → f m = some (g m)) → l.filterMap f = l.map g
  | [], _ => rfl
  | a :: l, h => by
    rw [List.filterMap_cons, h a List.mem_cons_self, List.map_cons]
    exact congrArg _ (fm_map fun m hm => h m (List.mem_cons_of_mem _ hm))
theorem pick_rev (xs : Array Value) : ((List.range xs.size).filterMap fun (m : Nat) => xs[(((xs.size : Int) - 1) + (m : Int) * (-1)).toNat]?).toArray = xs.toList.reverse.toArray := by
  congr 1
  apply List.ext_getElem?
  intro i
  have e : ((List.range xs.size).filterMap fun (m : Nat) => xs[(((xs.size : Int) - 1) + (m : Int) * (-1)).toNat]?) = (List.range xs.size).map fun m => xs.toList.getD (xs.size - 1 - m) (.none) := by
    refine fm_map fun m hm => ?_
    have hm := List.mem_range.mp hm
    have e1 : (((xs.size : Int) - 1) + (m : Int) * (-1)).toNat = xs.size - 1 - m := by omega
    have e2 : xs.size - 1 - m < xs.size := by omega
    rw [e1, List.getD_eq_getElem?_getD, Array.getElem?_toList, Array.getElem?_eq_getElem e2]
    rfl
  rw [e]
  by_cases hi : i < xs.size
  · have e2 : xs.size - 1 - i < xs.size := by omega
    rw [List.getElem?_reverse (by simpa using hi), List.getElem?_map, List.getElem?_range hi]
    show some (xs.toList.getD (xs.size - 1 - i) .none) = xs.toList[xs.toList.length - 1 - i]?
    rw [Array.length_toList, List.getD_eq_getElem?_getD, Array.getElem?_toList, Array.getElem?_eq_getElem e2]
    rfl
  · rw [List.getElem?_eq_none (by simpa using hi), List.getElem?_eq_none (by simpa using hi)]
theorem getItem_tuple_rev {t sl : Addr} {items : Array Value} {vl vu vs : Value} {Q : Value → Shared → Prop} (ht : IsTup s.heap t items) (hs : s.heap.IsSliceOf sl vl vu vs) (pl : IsPart vl none) (pu : IsPart vu none) (ps : IsPart vs (some (-1)))
    (h : Q (.ref s.heap.objs.size) { s with heap := s.heap.push { cls := .type "tuple", data := .seq items.toList.reverse.toArray } })
    (hsz : items.size ≤ sizeLine) : wpAny (model prog w) A (getItem (.ref t) (.ref sl)) Q E s := by
  have htake : sizeOk (.seq items.toList.reverse.toArray) := by
    show items.toList.reverse.toArray.size ≤ sizeLine
    rw [List.size_toArray, List.length_reverse, Array.length_toList]
    exact hsz
  obtain ⟨os, hos, hcs, hds⟩ := id hs
  have hTs : s.TypeIs (.ref sl) "slice" := ⟨os, hos, hcs⟩
  unfold getItem
  try with_reducible refine wpAny_holding ?_
  first | refine wpAny_bind (wpAny_pure ?_) | skip
  refine wpAny_bind (wpAny_sequenceKey ht.typeIs (by decide) ?_)
  refine wpAny_bind (wpAny_callSpecial?_slot (name := Str.ofString "__getitem__") ht.typeIs PyProof.Rows.slot_tuple_getitem
    (wpAny_call_entry PyProof.Rows.slot_tuple_getitem ht.typeIs entry_tuple_getitem ?_ (args_tuple_getitem _ _)))
  show wpAny _ _ (Builtin.Tuple.tupleItemsOf (.ref t) >>= _) _ _ s
  refine wpAny_bind (tupleItemsOf_ ht ?_)
  refine wpAny_bind (wpAny_typeOf hTs ?_)
  rw [if_pos (by decide)]
  refine wpAny_bind (sliceApplied_rev hs pl pu ps ?_)
  have hno : ¬ ((((items.size : Int) - 1) == 0 && (-1 : Int) == 1 && items.size == items.size) = true) := by
    intro q
    rw [Bool.and_eq_true, Bool.and_eq_true] at q
    exact absurd q.1.2 (by decide)
  show wpAny _ _ (if (((items.size : Int) - 1) == 0 && (-1 : Int) == 1 && items.size == items.size) = true then _ else _) _ _ s
  rw [if_neg hno, pick_rev]
  first
    | exact wpAny_bind (m := Builtin.Tuple.tupleExact _) (wpAny_newObj_type (wpAny_pure ⟨_, rfl, wpAny_pure h⟩) htake)
    | exact wpAny_bind (m := Builtin.Tuple.tupleExact _) (wpAny_newObj_type (wpAny_bind (wpAny_pure (wpAny_pure ⟨_, rfl, wpAny_pure h⟩))) htake)
    | exact wpAny_bind (wpAny_bind (m := Builtin.Tuple.tupleExact _) (wpAny_newObj_type (wpAny_pure (wpAny_pure ⟨_, rfl, wpAny_pure h⟩)) htake))
    | exact wpAny_bind (wpAny_bind (m := Builtin.Tuple.tupleExact _) (wpAny_newObj_type (wpAny_pure ⟨_, rfl, wpAny_pure h⟩) htake))
end
section
variable {X : Cx} {T : Tab} {W : WX}
def tRevT (K : PySem.W.Frag) (te : TE) : TE := fun σ H Q => te σ H fun x H1 => ∃ a xs, x = .ref a ∧ SqT K H1 a xs ∧ ∀ p, H1 p = none → Q (.ref p) (upd H1 p (.tup xs.reverse))
theorem pe_revT {e : Expr} {te : TE} {k : Nat} {p1 p2 p3 pos : Pos} (he : PE X e te) : PE X (.Subscript e (.Slice none none (some (.UnaryOp .USub (.Constant (.int 1) k p1) p2)) p3) pos) (tRevT X.K te) := by
  refine ⟨fun pins s σ H Q I h => ?_⟩
  refine Subscript_ (thn (he.run pins s σ H _ I h) fun v s1 ⟨x, H1, I1, r1, q1⟩ => ?_)
  obtain ⟨a, xs, ex, hx, q⟩ := q1
  subst ex
  cases r1
  have hst : PO X (some (.UnaryOp .USub (.Constant (.int 1) k p1) p2)) (tPart (tUn (rU fun i => .int (-i)) (tC (.int 1)))) := po_some (pe_un un_neg pe_int)
  refine wpAny_Slice (thn (po_none.run pins s1 σ H1 (fun o H2 => o = none ∧ H2 = H1) I1 ⟨rfl, rfl⟩) fun vl s2 ⟨l, H2, I2, pl, el, e2⟩ => ?_)
  subst el e2
  refine thn (po_none.run pins s2 σ H2 (fun o H3 => o = none ∧ H3 = H2) I2 ⟨rfl, rfl⟩) fun vu s3 ⟨u, H3, I3, pu, eu, e3⟩ => ?_
  subst eu e3
  refine thn (hst.run pins s3 σ H3 (fun o H4 => o = some (-1) ∧ H4 = H3) I3 ⟨1, rfl, -1, rfl, rfl, rfl⟩) fun vs s4 ⟨o, H4, I4, ps, eo, e4⟩ => ?_
  subst eo e4
  have I5 : Inv X pins σ H4 { s4 with heap := s4.heap.push { cls := .type "slice", data := .fields #[vl, vu, vs] } } := I4.kept (t' := s4.toks) fun b ob q => Heap.get?_push_of_some _ q
  obtain ⟨its, r, ht, hz⟩ := I5.tuple hx
  have hlen := r.length
  show wpAny (model X.prog X.w) X.A (subscriptTail e (.Slice none none (some (.UnaryOp .USub (.Constant (.int 1) k p1) p2)) p3) (.ref a) (.ref s4.heap.objs.size)) (L2.EP X pins σ Q) X.xe { s4 with heap := s4.heap.push { cls := .type "slice", data := .fields #[vl, vu, vs] } }
  refine tail_any (ops := [.ref a, .ref s4.heap.objs.size]) ht.typeIs (PyProof.Rows.slot_tuple_getitem.lookup) ?_ (by with_unfolding_all rfl)
  refine getItem_tuple_rev ht (Heap.IsSliceOf.new _ vl vu vs) pl pu ps ?_ (by rw [List.size_toArray]; omega)
  refine ⟨.ref _, _, I5.laid (t' := s4.toks) (o := .tup xs.reverse) (fun b ob q => Heap.get?_push_of_some _ q) (Nat.le_refl _) ?_, rfl, q _ (I5.hok.fresh (Nat.le_refl _))⟩
  exact ⟨by rw [List.length_reverse]; exact hz, _, r.reverse, IsTup.new _ _⟩
def eRevT (a : E) : E := fun ρ st => bindR (a ρ st) fun v st1 => match v with
  | .tup xs => .ok (.tup xs.reverse) st1
  | _ => .bad
theorem e_revT {e : Expr} {a : E} {k : Nat} {p1 p2 p3 pos : Pos} (he : PE X e (tE T W a)) : PE X (.Subscript e (.Slice none none (some (.UnaryOp .USub (.Constant (.int 1) k p1) p2)) p3) pos) (tE T W (eRevT a)) := by
  refine pe_imp (pe_revT he) fun σ H Q h => ?_
  refine tG_bind h fun v ρ st1 φ1 H1 u re1 q1 p1 => ?_
  split at p1
  · cases q1 with
    | tup a1 b1 =>
      rename_i xs us ad
      refine ⟨ad, us, rfl, SqT.of a1, fun p hp => ?_⟩
      exact p1 _ _ _ (Ext.fresh re1.rst hp) (re1.rst.fresh hp) (.tup upd_same ((RelVs.reverse b1).ext (Ext.fresh re1.rst hp)))
  · exact p1.elim
abbrev EO := Env → Sto → Res (Option Int)
abbrev tO (T : Tab) (W : WX) (e : EO) : TO := fun σ H Q => tG T (fun _ _ (a b : Option Int) => a = b) W e σ H Q
def oNone : EO := fun _ st => .ok none st
def oSome (a : E) : EO := fun ρ st => bindR (a ρ st) fun v st1 => match v with
  | .int i => .ok (some i) st1
  | _ => .bad
theorem o_none : PO X none (tO T W oNone) := ⟨fun pins s σ H Q I ⟨φ, ρ, st, re, p⟩ => po_none.run pins s σ H Q I (p.ok_self re.rst rfl)⟩
theorem o_some {e : Expr} {a : E} (h : PE X e (tE T W a)) : PO X (some e) (tO T W (oSome a)) := by
  refine ⟨fun pins s σ H Q I q => (po_some h).run pins s σ H Q I ?_⟩
  refine tG_bind q fun v ρ st1 φ1 H1 u re1 q1 p1 => ?_
  split at p1
  · cases q1
    exact ⟨_, rfl, p1.ok_self re1.rst rfl⟩
  · exact p1.elim
def cutG {α : Type} (xs : List α) (lo hi : Option Int) : List α := (xs.drop (HT.sIx xs.length 0 lo)).take (HT.sIx xs.length xs.length hi - HT.sIx xs.length 0 lo)
def rSlAll (K : PySem.W.Frag) : V → Option Int → Option Int → Hp → VK → Prop := fun x lo hi H Q => rSlA K x lo hi H Q ∨ rSlL K x lo hi H Q ∨ rSlS x lo hi H Q
theorem sl_all : SlR X (rSlAll X.K) := sl_tupA.or (sl_list.or sl_str)
def eSl (a : E) (lo hi : EO) : E := fun ρ st => bindR (a ρ st) fun v st1 => bindR (lo ρ st1) fun l st2 => bindR (hi ρ st2) fun h st3 => match v with
  | .tup xs => .ok (.tup (cutG xs l h)) st3
  | .str z => if z.length ≤ sizeLine then .ok (.str (cutS z l h)) st3 else .bad
  | v => match lstOf st3 v with
    | some xs => .ok (.lst (cutG xs l h)) st3
    | none => .bad
theorem RelVs.cut {φ : Phi} {H : Hp} {xs : List Val} {us : List V} (r : RelVs T φ H xs us) (lo hi : Option Int) : RelVs T φ H (cutG xs lo hi) (cutV us lo hi) := by
  unfold cutG cutV
  rw [r.length]
  exact RelVs.take _ (RelVs.drop _ r)
theorem cutG_whole {α : Type} {xs : List α} {lo hi : Option Int} (h : HT.sIx xs.length 0 lo = 0 ∧ HT.sIx xs.length xs.length hi = xs.length) : cutG xs lo hi = xs := by
  unfold cutG
  rw [h.1, h.2, List.drop_zero, Nat.sub_zero, List.take_length]
theorem e_slice {e : Expr} {lo hi : Option Expr} {p2 pos : Pos} {a : E} {l h : EO} (hK : T.K = X.K) (he : PE X e (tE T W a)) (hl : PO X lo (tO T W l)) (hu : PO X hi (tO T W h)) : PE X (.Subscript e (.Slice lo hi none p2) pos) (tE T W (eSl a l h)) := by
  refine pe_imp (pe_slice sl_all he hl hu) fun σ H Q q => ?_
  rw [← hK]
  refine tG_bind q fun v ρ st1 φ1 H1 u re1 q1 p1 => ?_
  refine ⟨φ1, ρ, st1, re1, post_bind p1 fun lo st2 φ2 H2 lo' eq2 e2 s2 q2 p2 => ?_⟩
  have re2 := re1.ext e2 s2
  refine ⟨φ2, ρ, st2, re2, post_bind p2 fun hi st3 φ3 H3 hi' eq3 e3 s3 q3 p3 => ?_⟩
  subst q2 q3
  have q1 := (q1.ext e2).ext e3
  split at p3
  · cases q1 with
    | tup a1 b1 =>
      rename_i xs us ad
      refine .inl ⟨ad, us, rfl, SqT.of a1, fun hw => ?_, fun hw p hp => ?_⟩
      · rw [cutG_whole (by rw [b1.length]; exact hw)] at p3
        exact p3.ok_self s3 (.tup a1 b1)
      · exact p3 _ _ _ (Ext.fresh s3 hp) (s3.fresh hp) (.tup upd_same ((RelVs.cut b1 _ _).ext (Ext.fresh s3 hp)))
  · split at p3
    · rename_i hz
      cases q1
      exact .inr (.inr ⟨_, rfl, hz, p3.ok_self s3 (.str _)⟩)
    · exact p3.elim
  · split at p3
    · rename_i xs hx
      obtain ⟨ad, us, rfl, hs, hr⟩ := rel_lst s3 q1 hx
      refine .inr (.inl ⟨ad, us, rfl, hs, fun p hp => ?_⟩)
      exact p3 _ _ _ (Ext.fresh s3 hp) (s3.fresh hp) (.lst (.inl ⟨s3.nolive hp, .inl upd_same⟩) ((RelVs.cut hr _ _).ext (Ext.fresh s3 hp)))
    · exact p3.elim
end
end Ev

set_option Elab.async false
set_option linter.all false
set_option maxRecDepth 100000
set_option maxHeartbeats 2000000
namespace Ev
open PySem PySem.Spec PyProof.Rows L2
def kVal : Key → Val
  | .inl i => .int i
  | .inr s => .str s
section
variable {X : Cx} {T : Tab} {W : WX}
theorem relV_key {φ : Phi} {H : Hp} (k : Key) : RelV T φ H (kVal k) (kV k) := by
  cases k with
  | inl i => exact .int i
  | inr s => exact .str s
theorem relVs_keys {φ : Phi} {H : Hp} : ∀ ks : List Key, RelVs T φ H (ks.map kVal) (ks.map kV)
  | [] => .nil
  | k :: ks => .cons (relV_key k) (relVs_keys ks)
theorem relVs_isKeys {φ : Phi} {H : Hp} {kvs : List (List Key × Val)} {us : List (List Key × V)} {bs : List Addr} (r : RelF T φ H kvs us) (h : L2.IsKeys H us bs) : RelVs T φ H (kvs.map fun kv => .tup (kv.1.map kVal)) (bs.map V.ref) := by
  unfold L2.IsKeys at h
  unfold RelF at r
  induction h generalizing kvs with
  | nil => cases r; exact .nil
  | cons a _ ih =>
    cases r with
    | cons b c =>
      refine .cons ?_ (ih c)
      dsimp only
      rw [b.1]
      exact .tup a (relVs_keys _)
theorem relVs_keysK {φ : Phi} {H : Hp} {kvs : List (Key × Val)} {us : List (Key × V)} (r : RelF T φ H kvs us) : RelVs T φ H (kvs.map fun kv => kVal kv.1) (us.map fun kv => kV kv.1) := by
  unfold RelF at r
  induction r with
  | nil => exact .nil
  | cons a _ ih =>
    refine .cons ?_ ih
    dsimp only
    rw [a.1]
    exact relV_key _
/-- list(x), x a dict, a list or a tuple -/
def fListA (st : Sto) (vs : List Val) : Option Val := match vs with
  | [.loc n] => match st[n]? with
    | some (.dT kvs) => some (.lst (kvs.map fun kv => .tup (kv.1.map kVal)))
    | some (.dK kvs) => some (.lst (kvs.map fun kv => kVal kv.1))
    | _ => fList st vs
  | _ => fList st vs
def rListA (K : PySem.W.Frag) : List V → Hp → VK → Prop := fun xs H Q => (∃ p ys, xs = [.ref p] ∧ (SqL K H p ys ∨ SqT K H p ys) ∧ ∀ l, H l = none → Q (.ref l) (upd H l (.lst ys))) ∨
  (∃ d kvs, xs = [V.ref d] ∧ Rd H d (.dT kvs) ∧ ∀ p bs, H p = none → L2.IsKeys H kvs bs → Q (.ref p) (upd H p (.lst (bs.map V.ref)))) ∨
  (∃ (a : Addr) (kvs : List (Key × V)), xs = [.ref a] ∧ Rd H a (.dK kvs) ∧ ∀ p, H p = none → Q (.ref p) (upd H p (.lst (kvs.map fun kv => kV kv.1))))
theorem call_listA (hc : X.calm = true) : CallR X (.type "list") (rListA X.K) := call_list_of.or ((call_list_dT hc).or (call_listD hc))
theorem snd_listA : SndC T (rListA T.K) fListA := by
  intro φ st H vs us z Q R r hf hq
  have hold : fList st vs = some z → rListA T.K us H Q := fun h => .inl (snd_list φ st H vs us z Q R r h hq)
  unfold fListA at hf
  split at hf
  · rename_i n
    split at hf
    · rename_i kvs hn
      cases hf
      obtain ⟨a, h1, us', h2, h3⟩ := R.at hn (by simp)
      cases r with
      | cons a1 b1 =>
        cases b1
        cases a1 with
        | loc q1 q2 =>
          rw [q2 a h1]
          refine .inr (.inl ⟨a, us', rfl, .inl h2, fun p bs hp hk => ?_⟩)
          exact hq _ _ (Ext.fresh R hp) (R.fresh hp) (.lst (.inl ⟨R.nolive hp, .inl upd_same⟩) ((relVs_isKeys h3 hk).ext (Ext.fresh R hp)))
    · rename_i kvs hn
      cases hf
      obtain ⟨a, h1, us', h2, h3⟩ := R.at hn (by simp)
      cases r with
      | cons a1 b1 =>
        cases b1
        cases a1 with
        | loc q1 q2 =>
          rw [q2 a h1]
          refine .inr (.inr ⟨a, us', rfl, .inl h2, fun p hp => ?_⟩)
          exact hq _ _ (Ext.fresh R hp) (R.fresh hp) (.lst (.inl ⟨R.nolive hp, .inl upd_same⟩) ((relVs_keysK h3).ext (Ext.fresh R hp)))
    · exact hold hf
  · exact hold hf

def pairsOf : List Val → Option (List (Int × Int))
  | [] => some []
  | .tup [.int i, .int j] :: xs => (pairsOf xs).map ((i, j) :: ·)
  | _ => none
def pV (p : Int × Int) : Val := .tup [.int p.1, .int p.2]
def leP (p q : Int × Int) : Bool := decide (p.1 < q.1) || (decide (p.1 = q.1) && decide (p.2 ≤ q.2))
def sortI (ns : List Int) : List Int := ns.mergeSort fun a b => decide (a ≤ b)
def sortP (ns : List (Int × Int)) : List (Int × Int) := ns.mergeSort leP
def kOf (H : Hp) : V → Int × Int
  | .ref t => match H t with
    | some (.tup [.int i, .int j]) => (i, j)
    | _ => (0, 0)
  | _ => (0, 0)
theorem kOf_ref {H : Hp} {t : Addr} {i j : Int} (h : H t = some (.tup [.int i, .int j])) : kOf H (.ref t) = (i, j) := by
  show (match H t with | some (.tup [.int i, .int j]) => (i, j) | _ => (0, 0)) = _
  rw [h]
theorem rel_pairs {φ : Phi} {H : Hp} : ∀ {xs : List Val} {us : List V} {ps : List (Int × Int)}, RelVs T φ H xs us → pairsOf xs = some ps → us.map (kOf H) = ps ∧ ∀ u, u ∈ us → ∃ t, u = .ref t ∧ H t = some (.tup [.int (kOf H u).1, .int (kOf H u).2])
  | _, _, _, .nil, h => by cases h; exact ⟨rfl, fun u hu => absurd hu List.not_mem_nil⟩
  | _, _, ps, .cons a b, h => by
    unfold pairsOf at h
    split at h
    · cases ‹_ :: _ = []›
    · rename_i e
      cases e
      rw [Option.map_eq_some_iff] at h
      obtain ⟨qs, h1, rfl⟩ := h
      obtain ⟨ih1, ih2⟩ := rel_pairs b h1
      cases a with
      | tup a1 a2 =>
        cases a2 with
        | cons c1 c2 =>
          cases c1
          cases c2 with
          | cons d1 d2 =>
            cases d1
            cases d2
            have ek := kOf_ref a1
            refine ⟨by rw [List.map_cons, ih1, ek], fun u hu => ?_⟩
            rcases List.mem_cons.mp hu with rfl | hu
            · exact ⟨_, rfl, by rw [ek]; exact a1⟩
            · exact ih2 u hu
    · cases h
theorem rel_ofPairs {φ : Phi} {H : Hp} : ∀ {us : List V}, (∀ u, u ∈ us → ∃ t, u = .ref t ∧ H t = some (.tup [.int (kOf H u).1, .int (kOf H u).2])) → RelVs T φ H ((us.map (kOf H)).map pV) us
  | [], _ => .nil
  | u :: us, h => by
    obtain ⟨t, e1, e2⟩ := h u List.mem_cons_self
    refine .cons ?_ (rel_ofPairs fun v hv => h v (List.mem_cons_of_mem _ hv))
    rw [e1] at e2 ⊢
    exact .tup e2 (.cons (.int _) (.cons (.int _) .nil))
theorem rel_ofInts {φ : Phi} {H : Hp} : ∀ ns : List Int, RelVs T φ H (ns.map Val.int) (ns.map V.int)
  | [] => .nil
  | n :: ns => .cons (.int n) (rel_ofInts ns)
theorem sortI_is {ns ms : List Int} (p : ms.Perm ns) (s : ms.Pairwise (· ≤ ·)) : ms = sortI ns := by
  refine List.Perm.eq_of_pairwise (le := fun a b => a ≤ b) (fun a b _ _ h1 h2 => Int.le_antisymm h1 h2) s ?_ (p.trans (List.mergeSort_perm ns _).symm)
  have := List.pairwise_mergeSort (le := fun a b : Int => decide (a ≤ b)) (fun a b c h1 h2 => by simp only [decide_eq_true_eq] at *; omega) (fun a b => by simp only [Bool.or_eq_true, decide_eq_true_eq]; omega) ns
  exact this.imp fun h => by simpa using h
theorem leP_iff {p q : Int × Int} : leP p q = true ↔ p.1 < q.1 ∨ (p.1 = q.1 ∧ p.2 ≤ q.2) := by
  unfold leP
  simp only [Bool.or_eq_true, Bool.and_eq_true, decide_eq_true_eq]
theorem sortP_pw (ns : List (Int × Int)) : (sortP ns).Pairwise fun a b => leP a b = true :=
  List.pairwise_mergeSort (le := leP) (fun a b c h1 h2 => by rw [leP_iff] at *; omega) (fun a b => by rw [Bool.or_eq_true, leP_iff, leP_iff]; omega) ns
theorem sortP_is {ns ms : List (Int × Int)} (p : ms.Perm ns) (s : ms.Pairwise fun a b => leP a b = true) : ms = sortP ns := by
  refine List.Perm.eq_of_pairwise (le := fun a b => leP a b = true) (fun a b _ _ h1 h2 => ?_) s (sortP_pw ns) (p.trans (List.mergeSort_perm ns _).symm)
  rw [leP_iff] at h1 h2
  exact Prod.ext (by omega) (by omega)
def fSorted (st : Sto) (vs : List Val) : Option Val := match vs with
  | [v] => match lstOf st v with
    | some xs => match intsOf xs with
      | some ns => some (.lst ((sortI ns).map .int))
      | none => (pairsOf xs).map fun ps => .lst ((sortP ps).map pV)
    | none => none
  | _ => none
def rSortA (K : PySem.W.Frag) : List V → Hp → VK → Prop := fun xs H Q => rSortedI K xs H Q ∨ rSortedPO K xs H Q
theorem call_sortA : CallR X (.builtin "sorted") (rSortA X.K) := cr_sortedI.or cr_sortedPO
theorem snd_sorted : SndC T (rSortA T.K) fSorted := by
  intro φ st H vs us z Q R r hf hq
  unfold fSorted at hf
  split at hf
  · split at hf
    · rename_i xs hx
      cases r with
      | cons a1 b1 =>
        cases b1
        obtain ⟨a, us', rfl, hs, hr⟩ := rel_lst R a1 hx
        split at hf
        · rename_i ns hi
          cases hf
          have e := rel_ints hr hi
          subst e
          refine .inl ⟨a, ns, rfl, hs, fun ns' p hp hw hn => ?_⟩
          rw [sortI_is hp hw]
          exact hq _ _ (Ext.fresh R hn) (R.fresh hn) (.lst (.inl ⟨R.nolive hn, .inl upd_same⟩) (rel_ofInts _))
        · rw [Option.map_eq_some_iff] at hf
          obtain ⟨ps, hp, rfl⟩ := hf
          obtain ⟨e1, e2⟩ := rel_pairs hr hp
          refine .inr ⟨a, us', kOf H, rfl, hs, e2, fun ys p h1 h2 hn => ?_⟩
          have e3 : ∀ u, u ∈ ys → ∃ t, u = .ref t ∧ H t = some (.tup [.int (kOf H u).1, .int (kOf H u).2]) := fun u hu => e2 u (h2.perm.mem_iff.mp hu)
          have e4 : ys.map (kOf H) = sortP ps := by
            refine sortP_is (by rw [← e1]; exact h2.perm.map _) ?_
            rw [List.pairwise_map]
            refine h1.imp fun {x y} h => ?_
            have := SrtO.lexB_no.mp h
            rw [leP_iff]
            omega
          have e5 := rel_ofPairs (T := T) (φ := φ) e3
          rw [e4] at e5
          exact hq _ _ (Ext.fresh R hn) (R.fresh hn) (.lst (.inl ⟨R.nolive hn, .inl upd_same⟩) (e5.ext (Ext.fresh R hn)))
    · cases hf
  · cases hf
end
end Ev

set_option Elab.async false
set_option linter.all false
set_option maxRecDepth 100000
set_option maxHeartbeats 2000000
namespace Ev
open PySem PySem.Spec PyProof.Rows L2
section
variable {X : Cx} {T : Tab} {W : WX}
def rRepr (K : PySem.W.Frag) : List V → Hp → VK → Prop := fun xs H Q => ∃ x d, xs = [x] ∧ Dp K H x d ∧ PyData.showable d = true ∧ PyData.hasDict d = false ∧ d.depth ≤ 60 ∧ d.shown.length ≤ sizeLine ∧ Q (.str d.shown) H
theorem call_reprA (hgd : X.A.guards = some []) (hu : X.A.units + 65 < cLine) : CallR X (.builtin "repr") (rRepr X.K) := by
  intro pins s σ H xs us Q I r h
  obtain ⟨x, d, rfl, hd, h1, h2, h3, h4, q⟩ := h
  obtain ⟨u, rfl, rx⟩ := vals1 r
  obtain ⟨as, rd⟩ := Dp.reads I d x u hd rx
  cases hd with
  | non =>
    cases rx
    exact PySem.P.repr_of_none ⟨.str _, H, I.tok _, ⟨_, rfl⟩, by rw [PyData.shown_none] at q; exact q⟩
  | bl b =>
    cases rx
    exact PySem.P.repr_of_bool ⟨.str _, H, I.tok _, ⟨_, rfl⟩, by rw [PyData.shown_bool] at q; exact q⟩
  | int i =>
    obtain ⟨t, rfl⟩ := rx
    exact PySem.P.repr_of_int (by rw [PyData.showable] at h1; exact of_decide_eq_true h1) ⟨.str _, H, I.tok _, ⟨_, rfl⟩, by rw [PyData.shown_int] at q; exact q⟩
  | str z =>
    obtain ⟨t, rfl⟩ := rx
    exact PySem.P.repr_of_str (by exact ⟨.str _, H, I.tok _, ⟨_, rfl⟩, by rw [PyData.shown_str] at q; exact q⟩) (by rw [PyData.shown_str] at h4; exact h4)
  | lst e1 e2 =>
    obtain rfl : u = Value.ref _ := rx
    exact repr_of_reads' rd h1 (fun z => by rw [h2] at z; cases z) hgd (by omega) (fun b o e => e) (fun h' u tk k => ⟨.str _, H, I.kept k, ⟨_, rfl⟩, q⟩) h4
  | tup e1 e2 =>
    obtain rfl : u = Value.ref _ := rx
    exact repr_of_reads' rd h1 (fun z => by rw [h2] at z; cases z) hgd (by omega) (fun b o e => e) (fun h' u tk k => ⟨.str _, H, I.kept k, ⟨_, rfl⟩, q⟩) h4
def reprOk (d : PyData) : Bool := PyData.showable d && !PyData.hasDict d && decide (d.depth ≤ 60) && decide (d.shown.length ≤ sizeLine)
def fRepr (st : Sto) (vs : List Val) : Option Val := match vs with
  | [v] => match toD (dr st v) with
    | some d => if reprOk d = true then some (.str d.shown) else none
    | none => none
  | _ => none
theorem snd_repr : SndC T (rRepr T.K) fRepr := by
  intro φ st H vs us z Q R r hf hq
  unfold fRepr at hf
  split at hf
  · split at hf
    · rename_i d hd
      split at hf
      · rename_i hk
        cases hf
        cases r with
        | cons a1 b1 =>
          cases b1
          unfold reprOk at hk
          rw [Bool.and_eq_true, Bool.and_eq_true, Bool.and_eq_true, Bool.not_eq_true', decide_eq_true_eq, decide_eq_true_eq] at hk
          exact ⟨_, d, rfl, rel_dr R a1 hd, hk.1.1.1, hk.1.1.2, hk.1.2, hk.2, hq H _ Ext.refl R (.str _)⟩
      · cases hf
    · cases hf
  · cases hf
def rStr : List V → Hp → VK → Prop := fun xs H Q => (∃ i : Int, xs = [V.int i] ∧ i.natAbs.log2 < 1920 ∧ Q (.str (toString i)) H) ∨ ∃ a, xs = [.str a] ∧ Q (.str a) H
theorem call_strA : CallR X (.type "str") rStr := call_str_int.or SkE.call_str_str
def iStr (i : Int) : Str := toString i
def fStr (_ : Sto) (vs : List Val) : Option Val := match vs with
  | [.int i] => if i.natAbs.log2 < 1920 then some (.str (iStr i)) else none
  | [.str a] => some (.str a)
  | _ => none
theorem snd_str : SndC T rStr fStr := by
  intro φ st H vs us z Q R r hf hq
  unfold fStr at hf
  split at hf
  · split at hf
    · rename_i h
      cases hf
      cases r with
      | cons a1 b1 =>
        cases a1; cases b1
        exact .inl ⟨_, rfl, h, hq H _ Ext.refl R (.str _)⟩
    · cases hf
  · cases hf
    cases r with
    | cons a1 b1 =>
      cases a1; cases b1
      exact .inr ⟨_, rfl, hq H _ Ext.refl R (.str _)⟩
  · cases hf
def fEqA (st : Sto) (v w : Val) : Option Val := match v, w with
  | .str a, .str b => some (.bl (decide (a = b)))
  | .int a, .int b => some (.bl (decide (a = b)))
  | v, w => fEq st v w
def fNeA (st : Sto) (v w : Val) : Option Val := match v, w with
  | .str a, .str b => some (.bl (!decide (a = b)))
  | .int a, .int b => some (.bl (!decide (a = b)))
  | v, w => fNe st v w
def rEqA (K : PySem.W.Frag) : R2 := fun x y H Q => rEq x y H Q ∨ rEqD K x y H Q
def rNeA (K : PySem.W.Frag) : R2 := fun x y H Q => rNe x y H Q ∨ rNeD K x y H Q
theorem op_eqA (hu : X.A.units + 64 < cLine) : OpR X (compareOp .Eq) (rEqA X.K) := op_eq.or (op_eqD hu)
theorem op_neA (hu : X.A.units + 64 < cLine) : OpR X (compareOp .NotEq) (rNeA X.K) := op_ne.or (op_neD hu)
theorem dec_str (a b : Str) : decide (V.str a = V.str b) = decide (a = b) := by
  rw [Bool.eq_iff_iff]
  simp
theorem dec_int' (a b : Int) : decide (V.int a = V.int b) = decide (a = b) := by
  rw [Bool.eq_iff_iff]
  simp
theorem snd_eqA : SndB T (rEqA T.K) fEqA := by
  intro φ st H v w z x y Q R r1 r2 hf hq
  unfold fEqA at hf
  split at hf
  · cases hf; cases r1; cases r2
    exact .inl ⟨rfl, by rw [dec_str]; exact hq H _ Ext.refl R (.bl _)⟩
  · cases hf; cases r1; cases r2
    exact .inl ⟨rfl, by rw [dec_int']; exact hq H _ Ext.refl R (.bl _)⟩
  · exact .inr (snd_eq φ st H v w z x y Q R r1 r2 hf hq)
theorem snd_neA : SndB T (rNeA T.K) fNeA := by
  intro φ st H v w z x y Q R r1 r2 hf hq
  unfold fNeA at hf
  split at hf
  · cases hf; cases r1; cases r2
    exact .inl ⟨rfl, by rw [dec_str]; exact hq H _ Ext.refl R (.bl _)⟩
  · cases hf; cases r1; cases r2
    exact .inl ⟨rfl, by rw [dec_int']; exact hq H _ Ext.refl R (.bl _)⟩
  · exact .inr (snd_ne φ st H v w z x y Q R r1 r2 hf hq)
def rIntA : List V → Hp → VK → Prop := fun xs H Q => ((∃ i, xs = [.int i] ∧ Q (.int i) H) ∨ ∃ k, xs = [.bl k] ∧ Q (.int (if k then 1 else 0)) H) ∨ (∃ a n, xs = [.str a] ∧ PySem.intText? a = some n ∧ a.length ≤ 640 ∧ Q (.int n) H)
theorem call_intA : CallR X (.type "int") rIntA := call_int1.or L2.call_int_str
def fIntA (st : Sto) (vs : List Val) : Option Val := match vs with
  | [.str a] => if a.length ≤ 640 then (PySem.intText? a).map .int else none
  | _ => fInt st vs
theorem snd_intA : SndC T rIntA fIntA := by
  intro φ st H vs us z Q R r hf hq
  unfold fIntA at hf
  split at hf
  · split at hf
    · rename_i hl
      rw [Option.map_eq_some_iff] at hf
      obtain ⟨n, h1, rfl⟩ := hf
      cases r with
      | cons a1 b1 =>
        cases a1; cases b1
        exact .inr ⟨_, n, rfl, h1, hl, hq H _ Ext.refl R (.int _)⟩
    · cases hf
  · exact .inl (snd_int φ st H vs us z Q R r hf hq)
def SndB1 (T : Tab) (r : V → List V → Hp → VK → Prop) (f : Sto → Val → Val → Option Val) : Prop :=
  ∀ φ st H v w z x y Q, Rst T φ st H → RelV T φ H v x → RelV T φ H w y → f st v w = some z → (∀ H' u, Ext φ H φ H' → Rst T φ st H' → RelV T φ H' z u → Q u H') → r x [y] H Q
def strsOf : List Val → Option (List Str)
  | [] => some []
  | .str s :: xs => (strsOf xs).map (s :: ·)
  | _ => none
theorem rel_strs {φ : Phi} {H : Hp} : ∀ {xs : List Val} {us : List V} {ns : List Str}, RelVs T φ H xs us → strsOf xs = some ns → us = ns.map V.str
  | _, _, _, .nil, h => by cases h; rfl
  | _, _, _, .cons a b, h => by
    unfold strsOf at h
    split at h
    · cases ‹_ :: _ = []›
    · rename_i e
      cases e
      rw [Option.map_eq_some_iff] at h
      obtain ⟨qs, h1, rfl⟩ := h
      cases a
      rw [rel_strs b h1]
      rfl
    · cases h
theorem rel_ofStrs {φ : Phi} {H : Hp} : ∀ ns : List Str, RelVs T φ H (ns.map Val.str) (ns.map V.str)
  | [] => .nil
  | n :: ns => .cons (.str n) (rel_ofStrs ns)
def fJoin (st : Sto) (v w : Val) : Option Val := match v with
  | .str a => match (seqOf st w).bind strsOf with
    | some ys => if (ys.map (·.length)).sum + ys.length * a.length ≤ 16777216 then some (.str (Txt.join a ys)) else none
    | none => none
  | _ => none
def rJoinA (K : PySem.W.Frag) : V → List V → Hp → VK → Prop := fun x xs H Q => ∃ a p, ∃ ys : List Str, x = .str a ∧ xs = [.ref p] ∧ (SqL K H p (ys.map V.str) ∨ SqT K H p (ys.map V.str)) ∧
    (ys.map (·.length)).sum + ys.length * a.length ≤ 16777216 ∧ Q (.str (Txt.join a ys)) H
theorem snd_join : SndB1 T (rJoinA T.K) fJoin := by
  intro φ st H v w z x y Q R r1 r2 hf hq
  unfold fJoin at hf
  split at hf
  · split at hf
    · rename_i ys hy
      split at hf
      · rename_i hz
        cases hf
        cases r1
        rw [Option.bind_eq_some_iff] at hy
        obtain ⟨xs, h1, h2⟩ := hy
        obtain ⟨a, us, rfl, hs, hr⟩ := rel_seq R r2 h1
        have e := rel_strs hr h2
        subst e
        exact ⟨_, a, ys, rfl, rfl, hs, hz, hq H _ Ext.refl R (.str _)⟩
      · cases hf
    · cases hf
  · cases hf
def fSplit (_ : Sto) (v w : Val) : Option Val := match v, w with
  | .str a, .str b => if b.length ≠ 0 ∧ a.length + 2 ≤ sizeLine then some (.lst ((Txt.split a b).map .str)) else none
  | _, _ => none
def rSplitA : V → List V → Hp → VK → Prop := fun x xs H Q => ∃ a b, x = .str a ∧ xs = [.str b] ∧ (b.length == 0) = false ∧ a.length + 2 ≤ sizeLine ∧ rNewStrs (Txt.split a b) H Q
theorem snd_split : SndB1 T rSplitA fSplit := by
  intro φ st H v w z x y Q R r1 r2 hf hq
  unfold fSplit at hf
  split at hf
  · split at hf
    · rename_i hz
      cases hf
      cases r1
      cases r2
      refine ⟨_, _, rfl, rfl, by simpa using hz.1, hz.2, fun p hp => ?_⟩
      exact hq _ _ (Ext.fresh R hp) (R.fresh hp) (.lst (.inl ⟨R.nolive hp, .inl upd_same⟩) (rel_ofStrs _))
    · cases hf
  · cases hf
def eM1 (f : Sto → Val → Val → Option Val) (a b : E) : E := fun ρ st => bindR (a ρ st) fun v st1 => match v with
  | .str z => bindR (b ρ st1) fun w st2 => optR (f st2 (.str z) w) st2
  | _ => .bad
theorem m1_sound {r : V → List V → Hp → VK → Prop} {f : Sto → Val → Val → Option Val} (hs : SndB1 T r f) {a b : E} {σ : L2.St} {H : Hp} {Q : VK} (h : tE T W (eM1 f a b) σ H Q) : tM1 r (tE T W a) (tE T W b) σ H Q := by
  refine tG_bind h fun v ρ st1 φ1 H1 u re1 q1 p1 => ?_
  split at p1
  · rename_i zz
    refine ⟨by cases q1; exact ⟨_, rfl⟩, φ1, ρ, st1, re1, post_bind p1 fun w st2 φ2 H2 y _ e2 s2 q2 p2 => ?_⟩
    cases hf : f st2 (.str zz) w with
    | none => rw [hf] at p2; exact p2.elim
    | some z =>
      rw [hf] at p2
      exact hs φ2 st2 H2 (.str zz) w z u y Q s2 (q1.ext e2) q2 hf fun H' u' e3 s3 q3 => p2 φ2 H' u' e3 s3 q3
  · exact p1.elim
theorem e_m1 {name : Str} {id : String} {r : V → List V → Hp → VK → Prop} {f : Sto → Val → Val → Option Val} {o e : Expr} {eo ee : E} {apos pos : Pos} (slot : Slot "str" name id) (hty : typeOf (.builtin id) = pure (.type "method_descriptor")) (hm : MtR X id r) (hs : SndB1 T r f)
    (ho : PE X o (tE T W eo)) (he : PE X e (tE T W ee)) (hse : starEach [e] X.env = [(false, eval e X.env)] := by rfl)
    (hbase : attributeBase o name X.env (eval o X.env) = eval o X.env := by rfl) (hline : (apos.endLine == pos.line) = true := by rfl) : PE X (.Call (.Attribute o name apos) [e] [] pos) (tE T W (eM1 f eo ee)) :=
  pe_imp (pe_m1 slot hty hm ho he hse hbase hline) fun _ _ _ h => m1_sound hs h
theorem e_join {o e : Expr} {eo ee : E} {apos pos : Pos} (hK : T.K = X.K) (ho : PE X o (tE T W eo)) (he : PE X e (tE T W ee)) (hse : starEach [e] X.env = [(false, eval e X.env)] := by rfl)
    (hbase : attributeBase o "join" X.env (eval o X.env) = eval o X.env := by rfl) (hline : (apos.endLine == pos.line) = true := by rfl) : PE X (.Call (.Attribute o "join" apos) [e] [] pos) (tE T W (eM1 fJoin eo ee)) :=
  e_m1 F.slot_str_join F.type_str_join (mt_join (X := X)) (hK ▸ snd_join (T := T)) ho he hse hbase hline
theorem e_split {o e : Expr} {eo ee : E} {apos pos : Pos} (ho : PE X o (tE T W eo)) (he : PE X e (tE T W ee)) (hse : starEach [e] X.env = [(false, eval e X.env)] := by rfl)
    (hbase : attributeBase o "split" X.env (eval o X.env) = eval o X.env := by rfl) (hline : (apos.endLine == pos.line) = true := by rfl) : PE X (.Call (.Attribute o "split" apos) [e] [] pos) (tE T W (eM1 fSplit eo ee)) :=
  e_m1 F.slot_str_split F.type_str_split (mt_split (X := X)) snd_split ho he hse hbase hline
end
end Ev

set_option Elab.async false
set_option linter.all false
set_option maxRecDepth 100000
set_option maxHeartbeats 2000000
namespace Ev
open PySem PySem.Spec PyProof.Rows L2
def Ok {α : Type} (r : Res α) (P : α → Sto → Prop) : Prop := ∃ a st, r = .ok a st ∧ P a st
theorem Ok.mk {α : Type} {a : α} {st : Sto} {P : α → Sto → Prop} (h : P a st) : Ok (.ok a st) P := ⟨a, st, rfl, h⟩
theorem Ok.bind {α β : Type} {r : Res α} {f : α → Sto → Res β} {P : α → Sto → Prop} {Q : β → Sto → Prop} (h : Ok r P) (k : ∀ a st, P a st → Ok (f a st) Q) : Ok (bindR r f) Q := by
  obtain ⟨a, st, rfl, p⟩ := h
  exact k a st p
theorem Ok.imp {α : Type} {r : Res α} {P Q : α → Sto → Prop} (h : Ok r P) (k : ∀ a st, P a st → Q a st) : Ok r Q := by
  obtain ⟨a, st, e, p⟩ := h
  exact ⟨a, st, e, k a st p⟩
/-- a statement goes on, or returns -/
def So (r : SR) (N : Env → Sto → Prop) (R : Val → Sto → Prop) : Prop := match r with
  | .nx ρ st => N ρ st
  | .rt v st => R v st
  | _ => False
theorem So.imp {r : SR} {N N' : Env → Sto → Prop} {R R' : Val → Sto → Prop} (h : So r N R) (k : ∀ ρ st, N ρ st → N' ρ st) (k' : ∀ v st, R v st → R' v st) : So r N' R' := by
  cases r with
  | nx ρ st => exact k _ _ h
  | rt v st => exact k' _ _ h
  | _ => exact h
theorem So.seq {a b : S} {ρ : Env} {st : Sto} {M N : Env → Sto → Prop} {R : Val → Sto → Prop} (h : So (a ρ st) M R) (k : ∀ ρ' st', M ρ' st' → So (b ρ' st') N R) : So (sSeq a b ρ st) N R := by
  unfold sSeq
  cases e : a ρ st with
  | nx ρ' st' => rw [e] at h; exact k _ _ h
  | rt v st' => rw [e] at h; exact h
  | _ => rw [e] at h; exact h.elim
theorem So.bind {α : Type} {r : Res α} {ρ : Env} {f : α → Sto → SR} {P : α → Sto → Prop} {N : Env → Sto → Prop} {R : Val → Sto → Prop} (h : Ok r P) (k : ∀ a st, P a st → So (f a st) N R) : So (bindS r ρ f) N R := by
  obtain ⟨a, st, rfl, p⟩ := h
  exact k a st p
/-- a loop with what holds before each turn -/
theorem So.loop {g : G} {b : S} {N : Env → Sto → Prop} {R : Val → Sto → Prop} (I : List Val → Env → Sto → Prop) : ∀ {vs : List Val} {ρ : Env} {st : Sto}, I vs ρ st → (∀ ρ st, I [] ρ st → N ρ st) →
    (∀ v vs ρ st, I (v :: vs) ρ st → ∃ ρ1 st1, g v ρ st = some (ρ1, st1) ∧ So (b ρ1 st1) (I vs) R) → So (forL g b vs ρ st) N R
  | [], ρ, st, h, h0, _ => h0 ρ st h
  | v :: vs, ρ, st, h, h0, hs => by
    obtain ⟨ρ1, st1, e, p⟩ := hs v vs ρ st h
    unfold forL
    rw [e]
    dsimp only
    cases e2 : b ρ1 st1 with
    | nx ρ2 st2 => rw [e2] at p; exact So.loop I p h0 hs
    | rt v st2 => rw [e2] at p; exact p
    | _ => rw [e2] at p; exact p.elim
theorem okOld_refl (st : Sto) : okOld st st = true := by
  unfold okOld
  rw [List.all_eq_true]
  intro i hi
  rw [List.getElem?_eq_getElem (List.mem_range.mp hi)]
  dsimp only
  rw [Ob.same_refl, Bool.true_or]
theorem okOld_set {st : Sto} {d : Nat} {o : Ob} (h : belOb st.length o = true) : okOld st (st.set d o) = true := by
  unfold okOld
  rw [List.all_eq_true]
  intro i hi
  have hi := List.mem_range.mp hi
  rw [List.getElem?_eq_getElem hi]
  by_cases e : d = i
  · subst e
    rw [List.getElem?_set_self hi]
    dsimp only
    rw [h, Bool.or_true]
  · rw [List.getElem?_set_ne e, List.getElem?_eq_getElem hi]
    dsimp only
    rw [Ob.same_refl, Bool.true_or]
theorem okOld_app {st st' : Sto} (h : okOld st st' = true) (more : Sto) : okOld st (st' ++ more) = true := by
  unfold okOld at h ⊢
  rw [List.all_eq_true] at h ⊢
  intro i hi
  have q := h i hi
  cases e : st'[i]? with
  | none => rw [e] at q; rw [List.getElem?_eq_getElem (List.mem_range.mp hi)] at q; cases q
  | some o =>
    rw [e] at q
    rw [List.getElem?_append_left (List.getElem?_eq_some_iff.mp e).1, e]
    exact q
theorem fin_bel {st st' : Sto} {v : Val} (h : okOld st st' = true) (hv : belV st.length v = true) : fin st v st' = .ok v (st'.take st.length) := by
  unfold fin frzV frz1
  rw [if_pos h, if_pos hv]
theorem fin_set {st : Sto} {d : Nat} {o : Ob} {v : Val} (h : belOb st.length o = true) (hv : belV st.length v = true) : fin st v (st.set d o) = .ok v (st.set d o) := by
  rw [fin_bel (okOld_set h) hv, List.take_of_length_le (by rw [List.length_set]; exact Nat.le_refl _)]
theorem fin_same {st : Sto} {v : Val} (hv : belV st.length v = true) : fin st v st = .ok v st := by
  rw [fin_bel (okOld_refl st) hv, List.take_length]
def drawOb (cs : List Int) (a l u : Int) : Ob := .dK [(.inr "cells", .lst (cs.map .int)), (.inr "at", .int a), (.inr "left", .int l), (.inr "used", .int u)]
section
variable {st : Sto} {d : Nat} {cs : List Int} {a l u : Int}
theorem bel_intsL {n : Nat} : ∀ cs : List Int, belVs n (cs.map Val.int) = true
  | [] => rfl
  | c :: cs => by rw [List.map_cons]; simp only [belVs, belV, bel_intsL cs, Bool.and_self]
theorem bel_draw {n : Nat} : belOb n (drawOb cs a l u) = true := by
  simp [drawOb, belOb, belV, bel_intsL]
theorem seqOf_draw (h : st[d]? = some (drawOb cs a l u)) : seqOf st (.loc d) = none := by
  unfold seqOf dr
  dsimp only
  rw [h]
  rfl
theorem dGet_draw (h : st[d]? = some (drawOb cs a l u)) {k : Str} : dGet st (.loc d) (.str k) = some (look [(.inr "cells", Val.lst (cs.map .int)), (.inr "at", .int a), (.inr "left", .int l), (.inr "used", .int u)] (.inr k : Key)) := by
  unfold dGet
  dsimp only
  rw [h]
  rfl
theorem ix_draw (h : st[d]? = some (drawOb cs a l u)) {k : Str} {v : Val} (hk : look [(.inr "cells", Val.lst (cs.map .int)), (.inr "at", .int a), (.inr "left", .int l), (.inr "used", .int u)] (.inr k : Key) = some v) : fIx st (.loc d) (.str k) = some v := by
  unfold fIx
  rw [seqOf_draw h]
  dsimp only
  rw [dGet_draw h, hk]
  rfl
theorem ix_cells (h : st[d]? = some (drawOb cs a l u)) : fIx st (.loc d) (.str "cells") = some (.lst (cs.map .int)) := ix_draw h rfl
theorem ix_at (h : st[d]? = some (drawOb cs a l u)) : fIx st (.loc d) (.str "at") = some (.int a) := ix_draw h rfl
theorem ix_left (h : st[d]? = some (drawOb cs a l u)) : fIx st (.loc d) (.str "left") = some (.int l) := ix_draw h rfl
theorem ix_used (h : st[d]? = some (drawOb cs a l u)) : fIx st (.loc d) (.str "used") = some (.int u) := ix_draw h rfl
theorem set_at (h : st[d]? = some (drawOb cs a l u)) (x : Int) : fSet st (.loc d) (.str "at") (.int x) = some (st.set d (drawOb cs x l u)) := by
  unfold fSet
  dsimp only
  rw [h]
  rfl
theorem set_left (h : st[d]? = some (drawOb cs a l u)) (x : Int) : fSet st (.loc d) (.str "left") (.int x) = some (st.set d (drawOb cs a x u)) := by
  unfold fSet
  dsimp only
  rw [h]
  rfl
theorem set_used (h : st[d]? = some (drawOb cs a l u)) (x : Int) : fSet st (.loc d) (.str "used") (.int x) = some (st.set d (drawOb cs a l x)) := by
  unfold fSet
  dsimp only
  rw [h]
  rfl
end
def nextS : S := (sSeq (sIf (eTest (eB fGt (eB fIx (eV 0) (eC (.str "left"))) (eC (.int 0)))) (sSeq (sAsg (gT 2 (gCons' (gN 2) (gCons' (gIx (eV 0) (eC (.str "left"))) gNil'))) (eTup (eCons (eB fIx (eV 0) (eC (.str "left"))) (eCons (eB fFdiv (eB fIx (eV 0) (eC (.str "left"))) (eV 1)) eNil))))
  (sRet (eB fMod (eV 2) (eV 1)))) sSkip)
  (sSeq (sSet 3 (eB fIx (eV 0) (eC (.str "cells"))))
  (sSeq (sSet 2 (eB fIx (eV 3) (eB fMod (eB fIx (eV 0) (eC (.str "at"))) (eBf fLen (eCons (eV 3) eNil)))))
  (sSeq (sAsg (gIx (eV 0) (eC (.str "at"))) (eB fAdd (eB fIx (eV 0) (eC (.str "at"))) (eC (.int 1))))
  (sSeq (sIf (eAndT (eTest (eB fGe (eV 2) (eB fPow (eC (.int 10)) (eC (.int 18))))) (eTest (eB fLe (eB fIx (eV 0) (eC (.str "at"))) (eBf fLen (eCons (eV 3) eNil))))) (sSeq (sAsg (gIx (eV 0) (eC (.str "left"))) (eB fFdiv (eV 2) (eV 1)))
  (sRet (eB fMod (eV 2) (eV 1)))) sSkip)
  (sSeq (sAsg (gIx (eV 0) (eC (.str "used"))) (eB fAdd (eB fIx (eV 0) (eC (.str "used"))) (eC (.int 1))))
  (sSeq (sSet 4 (eB fAdd (eB fMod (eV 2) (eC (.int 1000000007))) (eB fMul (eB fMul (eC (.int 7919)) (eB fIx (eV 0) (eC (.str "used")))) (eB fIx (eV 0) (eC (.str "used"))))))
  (sSeq (sFor (itV (eTup (eCons (eB fIx (eV 0) (eC (.str "at"))) (eCons (eB fIx (eV 0) (eC (.str "used"))) eNil)))) (gN 5) (sSeq (sSet 4 (eB fMod (eB fMul (eB fAdd (eB fAdd (eV 4) (eB fMul (eC (.int 31)) (eV 5))) (eC (.int 7))) (eC (.int 48271))) (eC (.int 2147483647))))
  (sSet 4 (eB fMod (eB fMul (eV 4) (eB fAdd (eC (.int 69621)) (eB fMul (eC (.int 2)) (eB fMod (eV 5) (eC (.int 1000)))))) (eC (.int 2147483629))))))
  (sRet (eB fMod (eB fFdiv (eV 4) (eC (.int 7))) (eV 1)))))))))))



section
variable {st : Sto} {d : Nat} {cs : List Int} {a l u : Int}
theorem sx_cells (h : d < st.length) : fIx (st.set d (drawOb cs a l u)) (.loc d) (.str "cells") = some (.lst (cs.map .int)) := ix_cells (List.getElem?_set_self h)
theorem sx_at (h : d < st.length) : fIx (st.set d (drawOb cs a l u)) (.loc d) (.str "at") = some (.int a) := ix_at (List.getElem?_set_self h)
theorem sx_left (h : d < st.length) : fIx (st.set d (drawOb cs a l u)) (.loc d) (.str "left") = some (.int l) := ix_left (List.getElem?_set_self h)
theorem sx_used (h : d < st.length) : fIx (st.set d (drawOb cs a l u)) (.loc d) (.str "used") = some (.int u) := ix_used (List.getElem?_set_self h)
theorem ss_at (h : d < st.length) (x : Int) : fSet (st.set d (drawOb cs a l u)) (.loc d) (.str "at") (.int x) = some (st.set d (drawOb cs x l u)) := by rw [set_at (List.getElem?_set_self h), List.set_set]
theorem ss_left (h : d < st.length) (x : Int) : fSet (st.set d (drawOb cs a l u)) (.loc d) (.str "left") (.int x) = some (st.set d (drawOb cs a x u)) := by rw [set_left (List.getElem?_set_self h), List.set_set]
theorem ss_used (h : d < st.length) (x : Int) : fSet (st.set d (drawOb cs a l u)) (.loc d) (.str "used") (.int x) = some (st.set d (drawOb cs a l x)) := by rw [set_used (List.getElem?_set_self h), List.set_set]
theorem set_draw (h : st[d]? = some (drawOb cs a l u)) : st = st.set d (drawOb cs a l u) := by
  apply List.ext_getElem?
  intro i
  by_cases e : d = i
  · subst e
    rw [h, List.getElem?_set_self (List.getElem?_eq_some_iff.mp h).1]
  · rw [List.getElem?_set_ne e]
end
theorem two_le : (2 ≤ sizeLine) = True := eq_true (by decide)
theorem one_le : (1 ≤ sizeLine) = True := eq_true (by decide)
theorem fGt_eq {st : Sto} {i j : Int} : fGt st (.int i) (.int j) = some (.bl (decide (j < i))) := rfl
theorem fGe_eq {st : Sto} {i j : Int} : fGe st (.int i) (.int j) = some (.bl (decide (j ≤ i))) := rfl
theorem fLe_eq {st : Sto} {i j : Int} : fLe st (.int i) (.int j) = some (.bl (decide (i ≤ j))) := rfl
theorem fLtT_eq {st : Sto} {i j : Int} : fLtT st (.int i) (.int j) = some (.bl (decide (i < j))) := rfl
theorem fSub_eq {st : Sto} {i j : Int} : fSub st (.int i) (.int j) = some (.int (i - j)) := rfl
theorem fAdd_int {st : Sto} {i j : Int} : fAdd st (.int i) (.int j) = some (.int (i + j)) := rfl
theorem fMul_int {st : Sto} {i j : Int} (h : cMul i j = true) : fMul st (.int i) (.int j) = some (.int (i * j)) := by
  simp [fMul, h]
theorem fPow_18 {st : Sto} : fPow st (.int 10) (.int 18) = some (.int 1000000000000000000) := by
  simp [fI, cPow]
theorem fLen_lst {st : Sto} {xs : List Val} (h : xs.length ≤ sizeLine) : fLen st [.lst xs] = some (.int xs.length) := by
  simp [fLen, seqOf, dr, h]
theorem cMul_left {i j : Int} (h1 : -(2 ^ 64) < i) (h2 : i < 2 ^ 64) : cMul i j = true := by
  simp only [cMul, h1, h2, decide_true, Bool.and_self, Bool.true_or]
theorem cMul_right {i j : Int} (h1 : -(2 ^ 64) < j) (h2 : j < 2 ^ 64) : cMul i j = true := by
  simp only [cMul, h1, h2, decide_true, Bool.and_self, Bool.or_true]
theorem atI_ok {α : Type} {xs : List α} {i : Int} (h1 : 0 ≤ i) (h2 : i < xs.length) : L2.atI xs i = xs[i.toNat]? := by
  unfold L2.atI L2.ixN
  rw [if_pos h1, if_pos h2]
  rfl
theorem ix_lst {st : Sto} {xs : List Val} {i : Int} {v : Val} (h1 : 0 ≤ i) (h2 : xs[i.toNat]? = some v) : fIx st (.lst xs) (.int i) = some v := by
  have h3 : i < xs.length := by
    have := (List.getElem?_eq_some_iff.mp h2).1
    omega
  show L2.atI xs i = _
  rw [atI_ok h1 h3, h2]
theorem ix_tup {st : Sto} {xs : List Val} {i : Int} {v : Val} (h1 : 0 ≤ i) (h2 : xs[i.toNat]? = some v) : fIx st (.tup xs) (.int i) = some v := by
  have h3 : i < xs.length := by
    have := (List.getElem?_eq_some_iff.mp h2).1
    omega
  show L2.atI xs i = _
  rw [atI_ok h1 h3, h2]
theorem fMod_eq {st : Sto} {i j : Int} (h : 0 < j) : fMod st (.int i) (.int j) = some (.int (i % j)) := by
  simp [fI, h]
theorem fFdiv_eq {st : Sto} {i j : Int} (h : cDiv i j = true) : fFdiv st (.int i) (.int j) = some (.int (i / j)) := by
  simp [fI, h]
/-- one draw: any number below `many` may come -/
theorem next_set {st : Sto} {d : Nat} {cs : List Int} {a l u many : Int} (hdl : d < st.length) (hcs : cs ≠ []) (hlen : cs.length ≤ 1000) (ha : 0 ≤ a) (hl : 0 ≤ l) (hu : 0 ≤ u) (hub : u < 2 ^ 60) (hm : 0 < many) (hmb : many.natAbs < 2 ^ 2000) :
    ∃ r a' l' u', runF 6 nextS [.loc d, .int many] (st.set d (drawOb cs a l u)) = .ok (.int r) (st.set d (drawOb cs a' l' u')) ∧ 0 ≤ r ∧ r < many ∧ 0 ≤ a' ∧ 0 ≤ l' ∧ 0 ≤ u' ∧ u' ≤ u + 1 := by
  have hdiv : ∀ i : Int, cDiv i many = true := fun i => by
    unfold cDiv
    rw [Bool.and_eq_true, decide_eq_true_eq, decide_eq_true_eq]
    exact ⟨hm, hmb⟩
  have hmod : ∀ i : Int, 0 ≤ i % many ∧ i % many < many := fun i => ⟨Int.emod_nonneg _ (by omega), Int.emod_lt_of_pos _ hm⟩
  have fin' : ∀ (r : Int) (o : Ob), belOb st.length o = true → outF (st.set d (drawOb cs a l u)) (.rt (.int r) (st.set d o)) = .ok (.int r) (st.set d o) := fun r o ho => by
    show fin (st.set d (drawOb cs a l u)) (.int r) (st.set d o) = _
    have e : st.set d o = (st.set d (drawOb cs a l u)).set d o := by rw [List.set_set]
    rw [e]
    exact fin_set (by rw [List.length_set]; exact ho) rfl
  unfold runF
  by_cases h0 : 0 < l
  · refine ⟨l % many, a, l / many, u, ?_, (hmod l).1, (hmod l).2, ha, Int.ediv_nonneg hl (by omega), hu, by omega⟩
    have e : nextS (startE 6 [.loc d, .int many]) (st.set d (drawOb cs a l u)) = .rt (.int (l % many)) (st.set d (drawOb cs a (l / many) u)) := by
      simp [nextS, startE, sSeq, sIf, eTest, eB, eV, eC, bindR, bindS, optR, sx_left hdl, sAsg, gT, gCons', gNil', gN, gIx, eTup, eCons, eNil, fFdiv_eq (hdiv _), ss_left hdl, sRet, h0, hm, two_le, fMod_eq hm, List.replicate, fGt_eq]
    rw [e]
    exact fin' _ _ bel_draw
  · have hn : 0 < cs.length := List.length_pos_iff.mpr hcs
    have hln : (cs.map Val.int).length ≤ sizeLine := by rw [List.length_map, sizeLine_eq]; omega
    obtain ⟨c, hc⟩ : ∃ c, fIx (st.set d (drawOb cs a l u)) (.lst (cs.map Val.int)) (.int (a % ((cs.map Val.int).length : Int))) = some (.int c) := by
      have h1 : 0 ≤ a % (cs.length : Int) := Int.emod_nonneg _ (by omega)
      have h2 : a % (cs.length : Int) < cs.length := Int.emod_lt_of_pos _ (by omega)
      have h3 : (a % (cs.length : Int)).toNat < cs.length := by omega
      refine ⟨cs[(a % (cs.length : Int)).toNat], ix_lst (by rw [List.length_map]; exact h1) ?_⟩
      rw [List.length_map, List.getElem?_map, List.getElem?_eq_getElem h3]
      rfl
    have hn' : 0 < ((cs.map Val.int).length : Int) := by rw [List.length_map]; omega
    by_cases h1 : 1000000000000000000 ≤ c ∧ a + 1 ≤ ((cs.map Val.int).length : Int)
    · refine ⟨c % many, a + 1, c / many, u, ?_, (hmod c).1, (hmod c).2, by omega, Int.ediv_nonneg (by omega) (by omega), hu, by omega⟩
      have e : nextS (startE 6 [.loc d, .int many]) (st.set d (drawOb cs a l u)) = .rt (.int (c % many)) (st.set d (drawOb cs (a + 1) (c / many) u)) := by
        simp [nextS, startE, sSeq, sIf, sSkip, sSet, eTest, eB, eV, eC, eBf, bindR, bindS, optR, sx_left hdl, sx_cells hdl, sx_at hdl, sAsg, gT, gCons', gNil', gN, gIx, eTup, eCons, eNil, fFdiv_eq (hdiv _), ss_left hdl, ss_at hdl, sRet, h0, hm, two_le, fMod_eq hm, fMod_eq hn', hc,
          fLen_lst hln, List.replicate, fGt_eq, fGe_eq, fLe_eq, fAdd_int, fPow_18, eAndT, h1.1, h1.2, -List.length_map]
      rw [e]
      exact fin' _ _ bel_draw
    · have c1 : ∀ k, cMul 7919 k = true := fun k => cMul_left (by decide) (by decide)
      have c2 : ∀ k, cMul k (u + 1) = true := fun k => cMul_right (by omega) (by omega)
      have c3 : ∀ k, cMul 31 k = true := fun k => cMul_left (by decide) (by decide)
      have c4 : ∀ k, cMul k 48271 = true := fun k => cMul_right (by decide) (by decide)
      have c5 : ∀ k, cMul 2 k = true := fun k => cMul_left (by decide) (by decide)
      have c6 : ∀ n k : Int, cMul n (69621 + 2 * (k % 1000)) = true := fun n k => cMul_right (by omega) (by omega)
      have p1 : (0 : Int) < 1000000007 := by decide
      have p2 : (0 : Int) < 2147483647 := by decide
      have p3 : (0 : Int) < 2147483629 := by decide
      have p4 : (0 : Int) < 1000 := by decide
      have p5 : cDiv 0 7 = true := by decide
      have p6 : ∀ x, fFdiv (st.set d (drawOb cs (a + 1) l (u + 1))) (.int x) (.int 7) = some (.int (x / 7)) := fun x => fFdiv_eq (by exact p5)
      let f : Int → Int → Int := fun x k => (x + 31 * k + 7) * 48271 % 2147483647 * (69621 + 2 * (k % 1000)) % 2147483629
      refine ⟨f (f (c % 1000000007 + 7919 * (u + 1) * (u + 1)) (a + 1)) (u + 1) / 7 % many, a + 1, l, u + 1, ?_, (hmod _).1, (hmod _).2, by omega, hl, by omega, by omega⟩
      have e : nextS (startE 6 [.loc d, .int many]) (st.set d (drawOb cs a l u)) = .rt (.int (f (f (c % 1000000007 + 7919 * (u + 1) * (u + 1)) (a + 1)) (u + 1) / 7 % many)) (st.set d (drawOb cs (a + 1) l (u + 1))) := by
        have h2 : (decide (1000000000000000000 ≤ c) && decide (a + 1 ≤ ((cs.map Val.int).length : Int))) = false := by
          rw [← Bool.not_eq_true, Bool.and_eq_true, decide_eq_true_eq, decide_eq_true_eq]
          exact h1
        by_cases h3 : 1000000000000000000 ≤ c
        · have h4 : ¬ a + 1 ≤ ((cs.map Val.int).length : Int) := fun z => h1 ⟨h3, z⟩
          simp [f, nextS, startE, sSeq, sIf, sSkip, sSet, sFor, forL, itV, eTest, eB, eV, eC, eBf, bindR, bindS, optR, sx_left hdl, sx_cells hdl, sx_at hdl, sx_used hdl, sAsg, gT, gCons', gNil', gN, gIx, eTup, eCons, eNil, ss_used hdl, ss_at hdl, sRet, h0, hm, two_le, fMod_eq hm, fMod_eq hn',
            fMod_eq p1, fMod_eq p2, fMod_eq p3, fMod_eq p4, p6, hc, fLen_lst hln, List.replicate, fGt_eq, fGe_eq, fLe_eq, fAdd_int, fPow_18, eAndT, h3, h4, fMul_int (c1 _), fMul_int (c2 _), fMul_int (c3 _), fMul_int (c4 _), fMul_int (c5 _), fMul_int (c6 _ _), -List.length_map]
        · simp [f, nextS, startE, sSeq, sIf, sSkip, sSet, sFor, forL, itV, eTest, eB, eV, eC, eBf, bindR, bindS, optR, sx_left hdl, sx_cells hdl, sx_at hdl, sx_used hdl, sAsg, gT, gCons', gNil', gN, gIx, eTup, eCons, eNil, ss_used hdl, ss_at hdl, sRet, h0, hm, two_le, fMod_eq hm, fMod_eq hn',
            fMod_eq p1, fMod_eq p2, fMod_eq p3, fMod_eq p4, p6, hc, fLen_lst hln, List.replicate, fGt_eq, fGe_eq, fLe_eq, fAdd_int, fPow_18, eAndT, h3, fMul_int (c1 _), fMul_int (c2 _), fMul_int (c3 _), fMul_int (c4 _), fMul_int (c5 _), fMul_int (c6 _ _), -List.length_map]
      rw [e]
      exact fin' _ _ bel_draw
end Ev

set_option Elab.async false
set_option linter.all false
set_option maxRecDepth 100000
set_option maxHeartbeats 2000000
namespace Ev
open PySem PySem.Spec PyProof.Rows L2
theorem lcL_map {g : G} {e : E} {ρ : Env} {f : Val → Val} {st : Sto} : ∀ {vs : List Val}, (∀ v, v ∈ vs → ∃ ρ1, g v ρ st = some (ρ1, st) ∧ e ρ1 st = .ok (f v) st) → lcL g eYes e ρ vs st = .ok (vs.map f) st
  | [], _ => rfl
  | v :: vs, h => by
    obtain ⟨ρ1, h1, h2⟩ := h v List.mem_cons_self
    have ih := lcL_map (vs := vs) fun w hw => h w (List.mem_cons_of_mem _ hw)
    unfold lcL
    rw [h1]
    dsimp only [eYes]
    rw [h2]
    dsimp only
    rw [ih]
    rfl
theorem lc_map {own : List Nat} {it : EI} {g : G} {e : E} {ρ : Env} {f : Val → Val} {st : Sto} {vs : List Val} (hi : it ρ st = .ok vs st) (hl : vs.length ≤ 1000) (h : ∀ v, v ∈ vs → ∃ ρ1, g v (wipeE ρ own) st = some (ρ1, st) ∧ e ρ1 st = .ok (f v) st) :
    eLc false own it g eYes e ρ st = .ok (.lst (vs.map f)) st := by
  unfold eLc lcE
  rw [hi]
  dsimp only [bindR]
  rw [if_pos (by rw [sizeLine_eq]; omega), lcL_map h]
  rfl
theorem runF_rt {n : Nat} {b : S} {args : List Val} {st st' : Sto} {v : Val} (h : b (startE n args) st = .rt v st') (hs : ∃ more, st' = st ++ more) (hv : belV st.length v = true) : runF n b args st = .ok v st := by
  obtain ⟨more, rfl⟩ := hs
  unfold runF
  rw [h]
  show fin st v (st ++ more) = _
  rw [fin_bel (okOld_app (okOld_refl st) more) hv, List.take_left]
theorem runF_same {n : Nat} {b : S} {args : List Val} {st : Sto} {v : Val} (h : b (startE n args) st = .rt v st) (hv : belV st.length v = true) : runF n b args st = .ok v st :=
  runF_rt h ⟨[], (List.append_nil st).symm⟩ hv
theorem runF_nx {n : Nat} {b : S} {args : List Val} {st : Sto} {ρ : Env} (h : b (startE n args) st = .nx ρ st) : runF n b args st = .ok .non st := by
  unfold runF
  rw [h]
  show fin st .non st = _
  exact fin_same rfl
theorem toDs_ints : ∀ ns : List Int, toDs (ns.map Val.int) = some (ns.map PyData.int)
  | [] => rfl
  | n :: ns => by simp [toDs, toD, toDs_ints ns]
theorem toDs_map {α : Type} {f : α → Val} {d : α → PyData} : ∀ {xs : List α}, (∀ x, x ∈ xs → toD (f x) = some (d x)) → toDs (xs.map f) = some (xs.map d)
  | [], _ => rfl
  | x :: xs, h => by
    rw [List.map_cons, toDs, h x List.mem_cons_self, toDs_map fun y hy => h y (List.mem_cons_of_mem _ hy)]
    rfl
theorem fNe_self {st : Sto} {v : Val} {d : PyData} (h : toD (dr st v) = some d) (hs : SeqAt.shaped d = true) : fNe st v v = some (.bl false) := by
  unfold fNe
  rw [h]
  dsimp only
  rw [if_pos (by rw [hs]; rfl), PySem.SeqAt.eqv_refl d (SeqAt.canLay_of_shaped hs)]
  rfl
theorem fEq_self {st : Sto} {v : Val} {d : PyData} (h : toD (dr st v) = some d) (hs : SeqAt.shaped d = true) : fEq st v v = some (.bl true) := by
  unfold fEq
  rw [h]
  dsimp only
  rw [if_pos (by rw [hs]; rfl), PySem.SeqAt.eqv_refl d (SeqAt.canLay_of_shaped hs)]
theorem fRepr_ok {st : Sto} {v : Val} {d : PyData} (h : toD (dr st v) = some d) (hr : reprOk d = true) : fRepr st [v] = some (.str d.shown) := by
  unfold fRepr
  dsimp only
  rw [h]
  dsimp only
  rw [if_pos hr]
abbrev nS (l : List Nat) : Str := SX.S l
/-- the signs of a number from -1 on -/
def wI (i : Int) : List Nat := if i < 0 then [45, 49] else TL.numL i.toNat
theorem iStr_w {i : Int} (h : -1 ≤ i) : iStr i = nS (wI i) := by
  unfold wI
  by_cases h0 : i < 0
  · rw [if_pos h0]
    have e : i = -1 := by omega
    subst e
    decide
  · rw [if_neg h0]
    obtain ⟨n, rfl⟩ := Int.eq_ofNat_of_zero_le (show 0 ≤ i by omega)
    exact SX.num_S n
theorem wI_nat (n : Nat) : wI (n : Int) = TL.numL n := by
  unfold wI
  rw [if_neg (by omega), Int.toNat_natCast]
theorem wI_signs {i : Int} {c : Nat} (h : c ∈ wI i) : c = 45 ∨ (48 ≤ c ∧ c ≤ 57) := by
  unfold wI at h
  split at h
  · simp at h; omega
  · exact .inr (TL.numL_digits _ c h)
theorem wI_ne (i : Int) : wI i ≠ [] := by
  unfold wI
  split
  · simp
  · exact TL.numL_ne _
theorem wI_len {i : Int} (h : i ≤ 10 ^ 30) : (wI i).length ≤ 31 := by
  unfold wI
  split
  · decide
  · exact TL.numL_len (by decide) (by omega)
theorem str_blank : (" " : Str) = nS [32] := by decide
theorem str_line : ("\n" : Str) = nS [10] := by decide
theorem split_join {c : Nat} (hc : c < 256) {parts : List (List Nat)} (hne : parts ≠ []) (h : ∀ p, p ∈ parts → c ∉ p) : Txt.split (nS (TL.joinL [c] parts)) (nS [c]) = parts.map nS := by
  have e := SX.split_S (a := TL.joinL [c] parts) (b := [c]) (by simp) (by simp [hc])
  rw [e, SX.spl_join hne h]
theorem joinL_len (c : Nat) : ∀ parts : List (List Nat), (TL.joinL [c] parts).length ≤ (parts.map (·.length)).sum + parts.length
  | [] => by simp [TL.joinL]
  | [p] => by simp [TL.joinL]
  | p :: q :: r => by
    have := joinL_len c (q :: r)
    simp only [TL.joinL, List.length_append, List.map_cons, List.sum_cons, List.length_cons, List.length_nil] at this ⊢
    omega
theorem sum_le {l : List Nat} {k : Nat} (h : ∀ x, x ∈ l → x ≤ k) : l.sum ≤ l.length * k := by
  induction l with
  | nil => simp
  | cons a l ih =>
    have h1 := h a List.mem_cons_self
    have h2 := ih fun x hx => h x (List.mem_cons_of_mem _ hx)
    rw [List.sum_cons, List.length_cons, Nat.add_mul]
    omega
theorem mem_joinL {c d : Nat} : ∀ {parts : List (List Nat)}, d ∈ TL.joinL [c] parts → d = c ∨ ∃ p, p ∈ parts ∧ d ∈ p
  | [], h => by simp [TL.joinL] at h
  | [p], h => .inr ⟨p, by simp, h⟩
  | p :: q :: r, h => by
    simp only [TL.joinL, List.mem_append, List.mem_singleton] at h
    rcases h with h | h | h
    · exact .inr ⟨p, by simp, h⟩
    · exact .inl h
    · rcases mem_joinL h with e | ⟨x, h1, h2⟩
      · exact .inl e
      · exact .inr ⟨x, List.mem_cons_of_mem _ h1, h2⟩
/-- the first sign of a number -/
theorem numL_head : ∀ n : Nat, 0 < n → ∃ c r, TL.numL n = c :: r ∧ c ≠ 48 := by
  intro n
  induction n using Nat.strongRecOn with
  | ind n ih =>
    intro h
    by_cases h10 : n < 10
    · exact ⟨48 + n, [], TL.numL_lt h10, by omega⟩
    · obtain ⟨c, r, e, hc⟩ := ih (n / 10) (by omega) (by omega)
      exact ⟨c, r ++ [48 + n % 10], by rw [TL.numL_step (by omega), e]; rfl, hc⟩
end Ev

set_option Elab.async false
set_option linter.all false
set_option maxRecDepth 100000
set_option maxHeartbeats 2000000
namespace Ev
open PySem PySem.Spec PyProof.Rows L2
structure Sm (d : PyData) (k b : Nat) : Prop where
  lv : PyData.leavesShort 100 d = true
  sh : PyData.showable d = true
  nd : PyData.hasDict d = false
  ly : PyData.canLay0 d = true
  dp : d.depth ≤ k
  bk : d.bulk ≤ b
structure SmAll (ds : List PyData) (k b : Nat) : Prop where
  lv : PyData.leavesShortAll 100 ds = true
  sh : PyData.showableAll ds = true
  nd : PyData.hasDictAll ds = false
  ly : PyData.canLayAll0 ds = true
  dp : PyData.depthAll ds ≤ k
  bk : PyData.bulkAll ds ≤ ds.length * (b + 1)
theorem Sm.all {k b : Nat} : ∀ {ds : List PyData}, (∀ d, d ∈ ds → Sm d k b) → SmAll ds k b
  | [], _ => ⟨rfl, rfl, rfl, rfl, Nat.zero_le _, Nat.zero_le _⟩
  | d :: ds, h => by
    have h1 := h d List.mem_cons_self
    have h2 := Sm.all fun e he => h e (List.mem_cons_of_mem _ he)
    refine ⟨?_, ?_, ?_, ?_, ?_, ?_⟩
    · rw [PyData.leavesShortAll, h1.lv, h2.lv]; rfl
    · rw [PyData.showableAll, h1.sh, h2.sh]; rfl
    · rw [PyData.hasDictAll, h1.nd, h2.nd]; rfl
    · rw [PyData.canLayAll0, h1.ly, h2.ly]; rfl
    · rw [PyData.depthAll]; exact Nat.max_le.mpr ⟨h1.dp, h2.dp⟩
    · rw [PyData.bulkAll, List.length_cons, Nat.add_mul]
      have := h1.bk
      have := h2.bk
      omega
theorem SmAll.tup {ds : List PyData} {k b : Nat} (h : SmAll ds k b) : Sm (.tuple ds) (k + 1) (ds.length * (b + 1)) :=
  ⟨by rw [PyData.leavesShort]; exact h.lv, by rw [PyData.showable]; exact h.sh, by rw [PyData.hasDict]; exact h.nd, by rw [PyData.canLay0]; exact h.ly, by rw [PyData.depth]; exact Nat.add_le_add_right h.dp 1, by rw [PyData.bulk]; exact h.bk⟩
theorem SmAll.lst {ds : List PyData} {k b : Nat} (h : SmAll ds k b) : Sm (.list ds) (k + 1) (ds.length * (b + 1)) :=
  ⟨by rw [PyData.leavesShort]; exact h.lv, by rw [PyData.showable]; exact h.sh, by rw [PyData.hasDict]; exact h.nd, by rw [PyData.canLay0]; exact h.ly, by rw [PyData.depth]; exact Nat.add_le_add_right h.dp 1, by rw [PyData.bulk]; exact h.bk⟩
theorem Sm.le {d : PyData} {k b k' b' : Nat} (h : Sm d k b) (hk : k ≤ k') (hb : b ≤ b') : Sm d k' b' := ⟨h.lv, h.sh, h.nd, h.ly, Nat.le_trans h.dp hk, Nat.le_trans h.bk hb⟩
theorem log_small {i : Int} (h1 : -1 ≤ i) (h2 : i ≤ 10 ^ 30) : i.natAbs.log2 < 1920 := by
  have h4 : i.natAbs < 2 ^ 100 := by
    have : (2 : Nat) ^ 100 = 1267650600228229401496703205376 := by decide
    omega
  by_cases h0 : i.natAbs = 0
  · rw [h0]; decide
  · have := (Nat.log2_lt h0).mpr h4
    omega
theorem Sm.int {i : Int} (h1 : -1 ≤ i) (h2 : i ≤ 10 ^ 30) : Sm (.int i) 0 0 := by
  refine ⟨?_, ?_, rfl, rfl, Nat.le_refl _, Nat.le_refl _⟩
  · rw [PyData.leavesShort, decide_eq_true_eq, PyData.shown_int]
    show (iStr i).length ≤ 100
    rw [iStr_w h1, SX.S_len]
    have := wI_len h2
    omega
  · rw [PyData.showable, decide_eq_true_eq]
    exact log_small h1 h2
theorem Sm.str {l : List Nat} {b : Nat} (h : ∀ c, c ∈ l → c < 128) (hl : l.length ≤ b) : Sm (.str (nS l)) 0 b := by
  refine ⟨?_, rfl, rfl, ?_, Nat.le_refl _, ?_⟩
  · rw [PyData.leavesShort, List.all_eq_true]
    intro c hc
    rw [decide_eq_true_eq]
    have := h c (by simpa using hc)
    omega
  · rw [PyData.canLay0]
    unfold PyData.strOk
    rw [← Array.all_toList, List.all_eq_true]
    intro c hc
    rw [decide_eq_true_eq]
    have := h c (by simpa using hc)
    omega
  · rw [PyData.bulk]
    simpa using hl
theorem Sm.shaped {d : PyData} {k b : Nat} (h : Sm d k b) (hk : k ≤ 60) : SeqAt.shaped d = true := by
  unfold SeqAt.shaped
  rw [h.ly, decide_eq_true (show d.depth ≤ 64 by have := h.dp; omega)]
  rfl
theorem Sm.repr {d : PyData} {k b : Nat} (h : Sm d k b) (hk : k ≤ 60) (hb : b ≤ 100000) : reprOk d = true := by
  have e := PyData.shown_le_bulk 100 (by decide) d h.lv
  have e2 : d.shown.length ≤ sizeLine := by
    rw [sizeLine_eq]
    have := h.bk
    omega
  unfold reprOk
  rw [h.sh, h.nd, decide_eq_true (show d.depth ≤ 60 by have := h.dp; omega), decide_eq_true e2]
  rfl
/-- the same on both sides -/
theorem neA_self {st : Sto} {v : Val} {d : PyData} {k b : Nat} (h : toD (dr st v) = some d) (hs : Sm d k b) (hk : k ≤ 60) : fNeA st v v = some (.bl false) := by
  unfold fNeA
  split
  · simp
  · simp
  · exact fNe_self h (hs.shaped hk)
theorem eqA_self {st : Sto} {v : Val} {d : PyData} {k b : Nat} (h : toD (dr st v) = some d) (hs : Sm d k b) (hk : k ≤ 60) : fEqA st v v = some (.bl true) := by
  unfold fEqA
  split
  · simp
  · simp
  · exact fEq_self h (hs.shaped hk)
theorem neA_str {st : Sto} {a : Str} : fNeA st (.str a) (.str a) = some (.bl false) := by
  simp [fNeA]
end Ev

set_option Elab.async false
set_option linter.all false
set_option maxRecDepth 100000
set_option maxHeartbeats 0
namespace K12
open PySem PySem.Spec PyProof.Rows L2 Ev
def b__law_begin : S := (sRet (eDisp (epCons (eC (.str "cells")) (eB fAdd (eV 0) (eLst (eCons (eC (.int 0)) eNil))) (epCons (eC (.str "at")) (eC (.int 0)) (epCons (eC (.str "left")) (eC (.int 0)) (epCons (eC (.str "used")) (eC (.int 0)) epNil))))))
def m__law_begin : Fn := runK 1 b__law_begin
def b__law_next : S := (sSeq (sIf (eTest (eB fGt (eB fIx (eV 0) (eC (.str "left"))) (eC (.int 0)))) (sSeq (sAsg (gT 2 (gCons' (gN 2) (gCons' (gIx (eV 0) (eC (.str "left"))) gNil'))) (eTup (eCons (eB fIx (eV 0) (eC (.str "left"))) (eCons (eB fFdiv (eB fIx (eV 0) (eC (.str "left"))) (eV 1)) eNil))))
  (sRet (eB fMod (eV 2) (eV 1)))) sSkip)
  (sSeq (sSet 3 (eB fIx (eV 0) (eC (.str "cells"))))
  (sSeq (sSet 2 (eB fIx (eV 3) (eB fMod (eB fIx (eV 0) (eC (.str "at"))) (eBf fLen (eCons (eV 3) eNil)))))
  (sSeq (sAsg (gIx (eV 0) (eC (.str "at"))) (eB fAdd (eB fIx (eV 0) (eC (.str "at"))) (eC (.int 1))))
  (sSeq (sIf (eAndT (eTest (eB fGe (eV 2) (eB fPow (eC (.int 10)) (eC (.int 18))))) (eTest (eB fLe (eB fIx (eV 0) (eC (.str "at"))) (eBf fLen (eCons (eV 3) eNil))))) (sSeq (sAsg (gIx (eV 0) (eC (.str "left"))) (eB fFdiv (eV 2) (eV 1)))
  (sRet (eB fMod (eV 2) (eV 1)))) sSkip)
  (sSeq (sAsg (gIx (eV 0) (eC (.str "used"))) (eB fAdd (eB fIx (eV 0) (eC (.str "used"))) (eC (.int 1))))
  (sSeq (sSet 4 (eB fAdd (eB fMod (eV 2) (eC (.int 1000000007))) (eB fMul (eB fMul (eC (.int 7919)) (eB fIx (eV 0) (eC (.str "used")))) (eB fIx (eV 0) (eC (.str "used"))))))
  (sSeq (sFor (itV (eTup (eCons (eB fIx (eV 0) (eC (.str "at"))) (eCons (eB fIx (eV 0) (eC (.str "used"))) eNil)))) (gN 5) (sSeq (sSet 4 (eB fMod (eB fMul (eB fAdd (eB fAdd (eV 4) (eB fMul (eC (.int 31)) (eV 5))) (eC (.int 7))) (eC (.int 48271))) (eC (.int 2147483647))))
  (sSet 4 (eB fMod (eB fMul (eV 4) (eB fAdd (eC (.int 69621)) (eB fMul (eC (.int 2)) (eB fMod (eV 5) (eC (.int 1000)))))) (eC (.int 2147483629))))))
  (sRet (eB fMod (eB fFdiv (eV 4) (eC (.int 7))) (eV 1)))))))))))
def m__law_next : Fn := runF 6 b__law_next
def b__law_house : S := (sSeq (sPar 3 4 (eCons (eB fAdd (eC (.int 1)) (eCall 2 m__law_next (eCons (eV 0) (eCons (eV 1) eNil)))) (eCons eNewT eNil)))
  (sSeq (sFor (itRange1 (eCons (eCall 2 m__law_next (eCons (eV 0) (eCons (eB fAdd (eV 2) (eC (.int 1))) eNil))) eNil)) (gN 5) (sSeq (sSet 6 (eB fSub (eCall 2 m__law_next (eCons (eV 0) (eCons (eB fAdd (eV 3) (eC (.int 1))) eNil))) (eC (.int 1))))
  (sSeq (sSet 7 (eB fSub (eB fMod (eBf fIntA (eCons (eB fAdd (eB fAdd (eB fAdd (eV 6) (eC (.int 1))) (eC (.int 1))) (eCall 2 m__law_next (eCons (eV 0) (eCons (eV 3) eNil)))) eNil)) (eB fAdd (eV 3) (eC (.int 1)))) (eC (.int 1))))
  (sSeq (sIf (eTest (eB fLtT (eBf fLen (eCons (eV 4) eNil)) (eV 2))) (sAsg (gIx (eV 4) (eTup (eCons (eV 6) (eCons (eV 7) eNil)))) (eC (.bl true))) sSkip)
  (sIf (eAndT (eTest (eB fEqA (eCall 2 m__law_next (eCons (eV 0) (eCons (eC (.int 3)) eNil))) (eC (.int 0)))) (eTest (eB fLtT (eBf fLen (eCons (eV 4) eNil)) (eV 2)))) (sAsg (gIx (eV 4) (eTup (eCons (eV 7) (eCons (eV 6) eNil)))) (eC (.bl true))) sSkip)))))
  (sRet (eTup (eCons (eV 3) (eCons (eBf fTuple (eCons (eBf fSorted (eCons (eBf fListA (eCons (eV 4) eNil)) eNil)) eNil)) eNil))))))
def m__law_house : Fn := runF 8 b__law_house
def b__law_pick : S := (sRet (eB fIx (eV 1) (eCall 2 m__law_next (eCons (eV 0) (eCons (eBf fLen (eCons (eV 1) eNil)) eNil)))))
def m__law_pick : Fn := runF 2 b__law_pick
def b_numbers_text : S := (sRet (eIf (eTest (eB fGt (eBf fLen (eCons (eV 0) eNil)) (eC (.int 0)))) (eM1 fJoin (eC (.str " ")) (eLc false [1] (itV (eV 0)) (gN 1) eYes (eBf fStr (eCons (eV 1) eNil)))) (eC (.str "-"))))
def m_numbers_text : Fn := runF 2 b_numbers_text
def b_is_integer : S := (sRet (eAnd (eIsi .int (eV 0)) (eNot (eIsi .bool (eV 0)))))
def m_is_integer : Fn := runF 1 b_is_integer
def b_is_whole : S := (sRet (eAnd (eCall 1 m_is_integer (eCons (eV 0) eNil)) (eChain fLe fLe (eV 1) (eV 0) (eV 2))))
def m_is_whole : Fn := runF 3 b_is_whole
def b_numbers_fault : S := (sSeq (sIf (eOrT (eNotT (eTest (eIsi .tuple (eV 0)))) (eTest (eB fNeA (eBf fLen (eCons (eV 0) eNil)) (eV 1)))) (sRet (eLst (eCons (eC .non) eNil))) sSkip)
  (sSeq (sFor (itEnum (eCons (eV 0) eNil)) (gT 2 (gCons' (gN 2) (gCons' (gN 3) gNil'))) (sIf (eNotT (eTest (eCall 3 m_is_whole (eCons (eV 3) (eCons (eC (.int 0)) (eCons (eC (.int (1000000000000000000000000000000))) eNil)))))) (sRet (eLst (eCons (eV 2) eNil))) sSkip))
  (sRet (eLst eNil))))
def m_numbers_fault : Fn := runF 4 b_numbers_fault
def b_is_gate : S := (sSeq (sIf (eOrT (eNotT (eTest (eIsi .tuple (eV 1)))) (eTest (eB fNeA (eBf fLen (eCons (eV 1) eNil)) (eC (.int 2))))) (sRet (eC (.bl false))) sSkip)
  (sRet (eAnd (eBf fAll (eCons (eLc false [2] (itV (eV 1)) (gN 2) eYes (eCall 3 m_is_whole (eCons (eV 2) (eCons (eC (.int (-1))) (eCons (eB fSub (eV 0) (eC (.int 1))) eNil))))) eNil)) (eB fNeA (eB fIx (eV 1) (eC (.int 0))) (eB fIx (eV 1) (eC (.int 1)))))))
def m_is_gate : Fn := runF 3 b_is_gate
def b_need_house : S := (sSeq (sIf (eOrT (eNotT (eTest (eIsi .tuple (eV 0)))) (eTest (eB fNeA (eBf fLen (eCons (eV 0) eNil)) (eC (.int 2))))) sBad sSkip)
  (sSeq (sAsg (gT 2 (gCons' (gN 1) (gCons' (gN 2) gNil'))) (eV 0))
  (sSeq (sIf (eNotT (eTest (eCall 3 m_is_whole (eCons (eV 1) (eCons (eC (.int 1)) (eCons (eC (.int (8))) eNil)))))) sBad sSkip)
  (sSeq (sIf (eOrT (eNotT (eTest (eIsi .tuple (eV 2)))) (eOrT (eTest (eB fGt (eBf fLen (eCons (eV 2) eNil)) (eC (.int (16))))) (eNotT (eTest (eBf fAll (eCons (eLc false [3] (itV (eV 2)) (gN 3) eYes (eCall 2 m_is_gate (eCons (eV 1) (eCons (eV 3) eNil)))) eNil)))))) sBad sSkip)
  (sSeq (sIf (eNotT (eTest (eBf fAll (eCons (eLc false [4, 5] (itZip (eCons (eV 2) (eCons (eSl (eV 2) (oSome (eC (.int 1))) oNone) eNil))) (gT 2 (gCons' (gN 4) (gCons' (gN 5) gNil'))) eYes (eB fLtT (eV 4) (eV 5))) eNil)))) sBad sSkip)
  (sRet (eV 0)))))))
def m_need_house : Fn := runF 6 b_need_house
def b_need_counts : S := (sSeq (sFor (itV (eCall 2 m_numbers_fault (eCons (eV 1) (eCons (eBf fLen (eCons (eB fIx (eCall 1 m_need_house (eCons (eV 0) eNil)) (eC (.int 1))) eNil)) eNil)))) (gN 2) sBad)
  (sRet (eV 1)))
def m_need_counts : Fn := runF 3 b_need_counts
def b_counts_text : S := (sRet (eCall 1 m_numbers_text (eCons (eCall 2 m_need_counts (eCons (eV 0) (eCons (eV 1) eNil))) eNil)))
def m_counts_text : Fn := runF 2 b_counts_text
def b_house_text : S := (sSeq (sAsg (gT 2 (gCons' (gN 1) (gCons' (gN 2) gNil'))) (eCall 1 m_need_house (eCons (eV 0) eNil)))
  (sRet (eM1 fJoin (eC (.str "\n")) (eB fAdd (eLst (eCons (eBf fStr (eCons (eV 1) eNil)) eNil)) (eLc false [3] (itV (eV 2)) (gN 3) eYes (eCall 1 m_numbers_text (eCons (eV 3) eNil)))))))
def m_house_text : Fn := runF 4 b_house_text
def b_need_string : S := (sIf (eNotT (eTest (eIsi .str (eV 0)))) sBad sSkip)
def m_need_string : Fn := runF 1 b_need_string
def b_number_in : S := (sSeq (sIf (eOrT (eNotT (eTest (eChain fLe fLe (eC (.int 1)) (eBf fLen (eCons (eV 0) eNil)) (eC (.int (31)))))) (eNotT (eTest (eBf fAll (eCons (eLc false [1] (itV (eV 0)) (gN 1) eYes (eB fIn (eV 1) (eC (.str "0123456789")))) eNil))))) (sRet (eC .non)) sSkip)
  (sRet (eIf (eOrT (eTest (eB fEqA (eV 0) (eC (.str "0")))) (eTest (eB fNeA (eB fIx (eV 0) (eC (.int 0))) (eC (.str "0"))))) (eBf fIntA (eCons (eV 0) eNil)) (eC .non))))
def m_number_in : Fn := runF 2 b_number_in
def b_numbers_in : S := (sSeq (sIf (eTest (eB fEqA (eB fIx (eV 0) (eC (.int 0))) (eC (.str "-")))) (sSeq (sIf (eTest (eB fGt (eBf fLen (eCons (eV 0) eNil)) (eC (.int 1)))) sBad sSkip)
  (sRet (eTup eNil))) sSkip)
  (sSeq (sSet 1 (eNew eNil))
  (sSeq (sFor (itEnum (eCons (eV 0) eNil)) (gT 2 (gCons' (gN 2) (gCons' (gN 3) gNil'))) (sSeq (sSet 4 (eCall 1 m_number_in (eCons (eV 3) eNil)))
  (sSeq (sIf (eTest (eB fIs (eV 4) (eC .non))) sBad sSkip)
  (sExpr (eLm fAppend (eV 1) (eCons (eV 4) eNil))))))
  (sRet (eBf fTuple (eCons (eV 1) eNil))))))
def m_numbers_in : Fn := runF 5 b_numbers_in
def b_read_counts : S := (sSeq (sExpr (eCall 1 m_need_house (eCons (eV 0) eNil)))
  (sSeq (sExpr (eCall 1 m_need_string (eCons (eV 1) eNil)))
  (sSeq (sSet 2 (eM1 fSplit (eV 1) (eC (.str "\n"))))
  (sSeq (sSet 3 (eCall 1 m_numbers_in (eCons (eM1 fSplit (eB fIx (eV 2) (eC (.int 0))) (eC (.str " "))) eNil)))
  (sSeq (sIf (eTest (eB fGt (eBf fLen (eCons (eV 2) eNil)) (eC (.int 1)))) sBad sSkip)
  (sRet (eCall 2 m_need_counts (eCons (eV 0) (eCons (eV 3) eNil)))))))))
def m_read_counts : Fn := runF 4 b_read_counts
def b_places_in : S := (sSeq (sSet 2 (eNew eNil))
  (sSeq (sFor (itEnum (eCons (eM1 fSplit (eV 0) (eC (.str " "))) eNil)) (gT 2 (gCons' (gN 3) (gCons' (gN 4) gNil'))) (sSeq (sSet 5 (eIf (eTest (eB fEqA (eV 4) (eC (.str "-1")))) (fNeg (eC (.int 1))) (eCall 1 m_number_in (eCons (eV 4) eNil))))
  (sSeq (sIf (eOrT (eTest (eB fIs (eV 5) (eC .non))) (eTest (eB fGt (eV 3) (eC (.int 1))))) sBad sSkip)
  (sExpr (eLm fAppend (eV 2) (eCons (eV 5) eNil))))))
  (sSeq (sIf (eTest (eB fLtT (eBf fLen (eCons (eV 2) eNil)) (eC (.int 2)))) sBad sSkip)
  (sRet (eBf fTuple (eCons (eV 2) eNil))))))
def m_places_in : Fn := runF 6 b_places_in
def b_read_house : S := (sSeq (sExpr (eCall 1 m_need_string (eCons (eV 0) eNil)))
  (sSeq (sSet 1 (eM1 fSplit (eV 0) (eC (.str "\n"))))
  (sSeq (sSet 2 (eM1 fSplit (eB fIx (eV 1) (eC (.int 0))) (eC (.str " "))))
  (sSeq (sIf (eTest (eB fIs (eCall 1 m_number_in (eCons (eB fIx (eV 2) (eC (.int 0))) eNil)) (eC .non))) sBad sSkip)
  (sSeq (sIf (eTest (eB fGt (eBf fLen (eCons (eV 2) eNil)) (eC (.int 1)))) sBad sSkip)
  (sSeq (sSet 3 (eLc false [4, 5] (itEnum (eCons (eSl (eV 1) (oSome (eC (.int 1))) oNone) eNil)) (gT 2 (gCons' (gN 4) (gCons' (gN 5) gNil'))) eYes (eCall 2 m_places_in (eCons (eV 5) (eCons (eB fAdd (eV 4) (eC (.int 1))) eNil)))))
  (sRet (eCall 1 m_need_house (eCons (eTup (eCons (eCall 1 m_number_in (eCons (eB fIx (eV 2) (eC (.int 0))) eNil)) (eCons (eBf fTuple (eCons (eV 3) eNil)) eNil))) eNil)))))))))
def m_read_house : Fn := runF 6 b_read_house
def b_law : S := (sSeq (sSet 1 (eCall 1 m__law_begin (eCons (eV 0) eNil)))
  (sSeq (sFor (itRange1 (eCons (eC (.int 10)) eNil)) (gN 2) (sSeq (sSet 3 (eCall 3 m__law_house (eCons (eV 1) (eCons (eC (.int 8)) (eCons (eC (.int 16)) eNil)))))
  (sSeq (sSet 4 (eTup eNil))
  (sSeq (sFor (itV (eB fIx (eV 3) (eC (.int 1)))) (gN 5) (sSet 4 (eB fAdd (eV 4) (eTup (eCons (eCall 2 m__law_pick (eCons (eV 1) (eCons (eLst (eCons (eC (.int 0)) (eCons (eC (.int 1)) (eCons (eCall 2 m__law_next (eCons (eV 1) (eCons (eC (.int 99)) eNil))) (eCons (eCall 2 m__law_next (eCons (eV 1) (eCons (eB fAdd (eB fPow (eC (.int 10)) (eC (.int 30))) (eC (.int 1))) eNil))) eNil))))) eNil))) eNil)))))
  (sSeq (sSet 6 (eB fAdd (eLst (eCons (eBf fStr (eCons (eB fIx (eV 3) (eC (.int 0))) eNil)) eNil)) (eLc false [7, 8] (itV (eB fIx (eV 3) (eC (.int 1)))) (gT 2 (gCons' (gN 7) (gCons' (gN 8) gNil'))) eYes (eB fAdd (eB fAdd (eBf fStr (eCons (eV 7) eNil)) (eC (.str " "))) (eBf fStr (eCons (eV 8) eNil))))))
  (sSeq (sSet 9 (eLc false [10] (itV (eV 4)) (gN 10) eYes (eBf fStr (eCons (eV 10) eNil))))
  (sSeq (sSet 11 (eLst (eCons (eM1 fJoin (eC (.str "\n")) (eV 6)) (eCons (eIf (eTest (eB fNeA (eV 9) (eLst eNil))) (eM1 fJoin (eC (.str " ")) (eV 9)) (eC (.str "-"))) eNil))))
  (sSeq (sSet 12 (eLst (eCons (eCall 1 m_house_text (eCons (eV 3) eNil)) (eCons (eCall 2 m_counts_text (eCons (eV 3) (eCons (eV 4) eNil))) eNil))))
  (sSeq (sIf (eTest (eB fNeA (eBf fRepr (eCons (eV 12) eNil)) (eBf fRepr (eCons (eV 11) eNil)))) (sRet (eC (.bl false))) sSkip)
  (sSeq (sIf (eTest (eB fNeA (eLst (eCons (eCallK 1 1 [0] m_house_text (eCons (eV 3) eNil)) (eCons (eCallK 2 2 [1, 0] m_counts_text (eCons (eV 4) (eCons (eV 3) eNil))) eNil))) (eV 11))) (sRet (eC (.bl false))) sSkip)
  (sSeq (sIf (eTest (eB fNeA (eBf fRepr (eCons (eLst (eCons (eCall 1 m_read_house (eCons (eB fIx (eV 11) (eC (.int 0))) eNil)) (eCons (eCall 2 m_read_counts (eCons (eV 3) (eCons (eB fIx (eV 11) (eC (.int 1))) eNil))) eNil))) eNil)) (eBf fRepr (eCons (eLst (eCons (eV 3) (eCons (eV 4) eNil))) eNil)))) (sRet (eC (.bl false))) sSkip)
  (sIf (eOrT (eTest (eB fNeA (eCallK 1 1 [0] m_read_house (eCons (eB fIx (eV 11) (eC (.int 0))) eNil)) (eV 3))) (eTest (eB fNeA (eCallK 2 2 [1, 0] m_read_counts (eCons (eB fIx (eV 11) (eC (.int 1))) (eCons (eV 3) eNil))) (eV 4)))) (sRet (eC (.bl false))) sSkip))))))))))))
  (sSeq (sSet 3 (eTup (eCons (eC (.int 2)) (eCons (eTup (eCons (eTup (eCons (fNeg (eC (.int 1))) (eCons (eC (.int 0)) eNil))) (eCons (eTup (eCons (eC (.int 0)) (eCons (fNeg (eC (.int 1))) eNil))) (eCons (eTup (eCons (eC (.int 0)) (eCons (eC (.int 1)) eNil))) eNil)))) eNil))))
  (sSeq (sIf (eOrT (eTest (eB fNeA (eCall 1 m_house_text (eCons (eV 3) eNil)) (eC (.str "2\n-1 0\n0 -1\n0 1")))) (eTest (eB fNeA (eCall 1 m_read_house (eCons (eC (.str "8")) eNil)) (eTup (eCons (eC (.int 8)) (eCons (eTup eNil) eNil)))))) (sRet (eC (.bl false))) sSkip)
  (sSeq (sIf (eTest (eB fNeA (eCall 2 m_read_counts (eCons (eTup (eCons (eC (.int 3)) (eCons (eTup eNil) eNil))) (eCons (eC (.str "-")) eNil))) (eTup eNil))) (sRet (eC (.bl false))) sSkip)
  (sRet (eB fEqA (eCall 2 m_read_counts (eCons (eV 3) (eCons (eB fAdd (eC (.str "0 1 1")) (eB fMul (eC (.str "0")) (eC (.int 30)))) eNil))) (eTup (eCons (eC (.int 0)) (eCons (eC (.int 1)) (eCons (eB fPow (eC (.int 10)) (eC (.int 30))) eNil)))))))))))
def m_law : Fn := runF 13 b_law
end K12

set_option Elab.async false
set_option linter.all false
set_option maxRecDepth 100000
set_option maxHeartbeats 0
namespace K12
open PySem PySem.Spec PyProof.Rows L2 Ev
def top (i : Nat) : Stmt := PySem.Challenge.pw_gatecounts_k12_whole_texts.main.body.getD i (.Pass ⟨0, 0, 0, 0⟩)
abbrev tab (K : PySem.W.Frag) : Tab := ⟨K, fun _ => 0⟩
abbrev d__law_begin : He.DefD := dOf "_law_begin" (top 33)
abbrev d__law_next : He.DefD := dOf "_law_next" (top 34)
abbrev d__law_house : He.DefD := dOf "_law_house" (top 36)
abbrev d__law_pick : He.DefD := dOf "_law_pick" (top 35)
abbrev d_numbers_text : He.DefD := dOf "numbers_text" (top 23)
abbrev d_is_integer : He.DefD := dOf "is_integer" (top 10)
abbrev d_is_whole : He.DefD := dOf "is_whole" (top 11)
abbrev d_numbers_fault : He.DefD := dOf "numbers_fault" (top 14)
abbrev d_is_gate : He.DefD := dOf "is_gate" (top 12)
abbrev d_need_house : He.DefD := dOf "need_house" (top 13)
abbrev d_need_counts : He.DefD := dOf "need_counts" (top 15)
abbrev d_counts_text : He.DefD := dOf "counts_text" (top 25)
abbrev d_house_text : He.DefD := dOf "house_text" (top 24)
abbrev d_need_string : He.DefD := dOf "need_string" (top 27)
abbrev d_number_in : He.DefD := dOf "number_in" (top 26)
abbrev d_numbers_in : He.DefD := dOf "numbers_in" (top 30)
abbrev d_read_counts : He.DefD := dOf "read_counts" (top 31)
abbrev d_places_in : He.DefD := dOf "places_in" (top 28)
abbrev d_read_house : He.DefD := dOf "read_house" (top 29)
abbrev d_law : He.DefD := dOf "law" (top 37)
def fa : List He.Fa := [.glo "_law_begin", .free "range", .free "len", .glo "_law_next", .free "int", .free "list", .free "sorted", .free "tuple", .glo "_law_house", .glo "_law_pick", .free "str", .str "BLANK" " ", .str "NONE" "-", .glo "numbers_text", .free "isinstance", .free "enumerate", .free "bool", .glo "is_integer", .glo "is_whole", .int "MOST_NUMBER" (1000000000000000000000000000000), .glo "numbers_fault", .int "MOST_ROOMS" (8), .int "MOST_GATES" (16), .int "OUTSIDE" (-1), .free "all", .glo "is_gate", .free "zip", .glo "need_house", .glo "need_counts", .glo "counts_text", .str "LINE_END" "\n", .glo "house_text", .free "repr", .glo "need_string", .int "MOST_FIGURES" (31), .str "FIGURES" "0123456789", .glo "number_in", .glo "numbers_in", .glo "read_counts", .str "OUT" "-1", .glo "places_in", .glo "read_house", .glo "law"]
def fn : List He.DefD := [d__law_begin, d__law_next, d__law_house, d__law_pick, d_numbers_text, d_is_integer, d_is_whole, d_numbers_fault, d_is_gate, d_need_house, d_need_counts, d_counts_text, d_house_text, d_need_string, d_number_in, d_numbers_in, d_read_counts, d_places_in, d_read_house, d_law]
abbrev s__law_begin : Stmt := top 33
theorem sc__law_begin : FnScope ["_law_script"] ["_law_script"] (defScope s__law_begin) := ⟨rfl, rfl, rfl, by decide +kernel, rfl, by decide +kernel, by decide +kernel⟩
theorem bind__law_begin : BindOk "_law_begin" s__law_begin ["_law_script"] := fun _ _ _ _ _ _ us hl => match us, hl with | [_], _ => rfl
theorem ok__law_begin {P : Program} {w : World} {base : Heap} {K : PySem.W.Frag} {mg : Str → Option Value} (Z : Cnd fa fn K mg) : FnAt P w K mg base (tab K) 1 "_law_begin" s__law_begin ["_law_script"] m__law_begin := by
  refine fnAt_of (body := b__law_begin) Z sc__law_begin 0 0 bind__law_begin .k fun cdv A outer s H E hr hgd tk hp => ?_
  exact (ss_one (s_ret (e_disp (pps_cons e_str (e_op op_addA snd_add (e_v 0) (e_lst (a_cons e_int a_nil))) (pps_cons e_str e_int (pps_cons e_str e_int (pps_cons e_str e_int pps_nil)))) (prd_cons (prd_cons (prd_cons (prd_cons prd_nil)))))))
abbrev s__law_next : Stmt := top 34
theorem sc__law_next : FnScope ["_law_draw", "_law_many", "_law_cell", "_law_cells", "_law_number", "_law_k"] ["_law_draw", "_law_many"] (defScope s__law_next) := ⟨rfl, rfl, rfl, by decide +kernel, rfl, by decide +kernel, by decide +kernel⟩
theorem bind__law_next : BindOk "_law_next" s__law_next ["_law_draw", "_law_many"] := fun _ _ _ _ _ _ us hl => match us, hl with | [_, _], _ => rfl
theorem ok__law_next {P : Program} {w : World} {base : Heap} {K : PySem.W.Frag} {mg : Str → Option Value} (Z : Cnd fa fn K mg) : FnAt P w K mg base (tab K) 1 "_law_next" s__law_next ["_law_draw", "_law_many"] m__law_next := by
  refine fnAt_of (body := b__law_next) Z sc__law_next 3 1 bind__law_next .f fun cdv A outer s H E hr hgd tk hp => ?_
  exact (ss_cons (s_if (t_cmp op_gt snd_gt (e_ix rfl (hu1 hr) (e_v 0) e_str) e_int (nomark _)) (ss_cons (s_asg (e_tup (a_cons (e_ix rfl (hu1 hr) (e_v 0) e_str) (a_cons (e_fdiv (e_ix rfl (hu1 hr) (e_v 0) e_str) (e_v 1)) a_nil))) (g_tup rfl rfl (gs_cons (g_name sc__law_next.nd) (gs_cons (g_sub (W := fun c d _ H' => E c d H') (hu1 hr) (e_v 0) e_str) gs_nil))))
  (ss_one (s_ret (e_mod (e_v 2) (e_v 1))))) ss_nil)
  (ss_cons (s_set sc__law_next.nd (e_ix rfl (hu1 hr) (e_v 0) e_str))
  (ss_cons (s_set sc__law_next.nd (e_ix rfl (hu1 hr) (e_v 3) (e_mod (e_ix rfl (hu1 hr) (e_v 0) e_str) (e_bf call_lenA snd_len (by decide +kernel) (Z.free 2) (a_cons (e_v 3) a_nil)))))
  (ss_cons (s_asg (e_op op_addA snd_add (e_ix rfl (hu1 hr) (e_v 0) e_str) e_int) (g_sub (W := fun c d _ H' => E c d H') (hu1 hr) (e_v 0) e_str))
  (ss_cons (s_if (PW.pt (w_and (t_cmp op_ge snd_ge (e_v 2) (e_pow e_int e_int) (nomark _)) (w_and1 (t_cmp op_le snd_le (e_ix rfl (hu1 hr) (e_v 0) e_str) (e_bf call_lenA snd_len (by decide +kernel) (Z.free 2) (a_cons (e_v 3) a_nil)) (nomark _))))) (ss_cons (s_asg (e_fdiv (e_v 2) (e_v 1)) (g_sub (W := fun c d _ H' => E c d H') (hu1 hr) (e_v 0) e_str))
  (ss_one (s_ret (e_mod (e_v 2) (e_v 1))))) ss_nil)
  (ss_cons (s_asg (e_op op_addA snd_add (e_ix rfl (hu1 hr) (e_v 0) e_str) e_int) (g_sub (W := fun c d _ H' => E c d H') (hu1 hr) (e_v 0) e_str))
  (ss_cons (s_set sc__law_next.nd (e_op op_addA snd_add (e_mod (e_v 2) e_int) (e_op op_mulA snd_mul (e_op op_mulA snd_mul e_int (e_ix rfl (hu1 hr) (e_v 0) e_str)) (e_ix rfl (hu1 hr) (e_v 0) e_str))))
  (ss_cons (s_for hp rfl (i_seq rfl (e_tup (a_cons (e_ix rfl (hu1 hr) (e_v 0) e_str) (a_cons (e_ix rfl (hu1 hr) (e_v 0) e_str) a_nil)))) (g_name sc__law_next.nd) (ss_cons (s_set sc__law_next.nd (e_mod (e_op op_mulA snd_mul (e_op op_addA snd_add (e_op op_addA snd_add (e_v 4) (e_op op_mulA snd_mul e_int (e_v 5))) e_int) e_int) e_int))
  (ss_one (s_set sc__law_next.nd (e_mod (e_op op_mulA snd_mul (e_v 4) (e_op op_addA snd_add e_int (e_op op_mulA snd_mul e_int (e_mod (e_v 5) e_int)))) e_int)))))
  (ss_one (s_ret (e_mod (e_fdiv (e_v 4) e_int) (e_v 1))))))))))))
abbrev s__law_house : Stmt := top 36
theorem sc__law_house : FnScope ["_law_draw", "_law_most", "_law_size", "_law_rooms", "_law_found", "_law_k", "_law_one", "_law_other"] ["_law_draw", "_law_most", "_law_size"] (defScope s__law_house) := ⟨rfl, rfl, rfl, by decide +kernel, rfl, by decide +kernel, by decide +kernel⟩
theorem bind__law_house : BindOk "_law_house" s__law_house ["_law_draw", "_law_most", "_law_size"] := fun _ _ _ _ _ _ us hl => match us, hl with | [_, _, _], _ => rfl
theorem ok__law_house {P : Program} {w : World} {base : Heap} {K : PySem.W.Frag} {mg : Str → Option Value} (Z : Cnd fa fn K mg) : FnAt P w K mg base (tab K) 2 "_law_house" s__law_house ["_law_draw", "_law_most", "_law_size"] m__law_house := by
  refine fnAt_of (body := b__law_house) Z sc__law_house 8 2 bind__law_house .f fun cdv A outer s H E hr hgd tk hp => ?_
  exact (ss_cons (s_par rfl sc__law_house.nd (a_cons (e_op op_addA snd_add e_int (e_callF (ok__law_next Z) hr hgd tk (a_cons (e_v 0) (a_cons (e_v 1) a_nil)))) (a_cons e_newT a_nil)))
  (ss_cons (s_for hp rfl (i_range1 (Z.free 1) (a_cons (e_callF (ok__law_next Z) hr hgd tk (a_cons (e_v 0) (a_cons (e_op op_addA snd_add (e_v 2) e_int) a_nil))) a_nil)) (g_name sc__law_house.nd) (ss_cons (s_set sc__law_house.nd (e_sub (e_callF (ok__law_next Z) hr hgd tk (a_cons (e_v 0) (a_cons (e_op op_addA snd_add (e_v 3) e_int) a_nil))) e_int))
  (ss_cons (s_set sc__law_house.nd (e_sub (e_mod (e_bt call_intA snd_intA (by decide +kernel) (Z.free 4) (a_cons (e_op op_addA snd_add (e_op op_addA snd_add (e_op op_addA snd_add (e_v 6) e_int) e_int) (e_callF (ok__law_next Z) hr hgd tk (a_cons (e_v 0) (a_cons (e_v 3) a_nil)))) a_nil)) (e_op op_addA snd_add (e_v 3) e_int)) e_int))
  (ss_cons (s_if (t_cmp (op_ltA (hu0 hr)) snd_ltT (e_bf call_lenA snd_len (by decide +kernel) (Z.free 2) (a_cons (e_v 4) a_nil)) (e_v 2) (nomark _)) (ss_one (s_asg e_bl (g_sub (W := fun c d _ H' => E c d H') (hu1 hr) (e_v 4) (e_tup (a_cons (e_v 6) (a_cons (e_v 7) a_nil)))))) ss_nil)
  (ss_one (s_if (PW.pt (w_and (t_cmp (op_eqA (hu64 hr)) snd_eqA (e_callF (ok__law_next Z) hr hgd tk (a_cons (e_v 0) (a_cons e_int a_nil))) e_int (nomark _)) (w_and1 (t_cmp (op_ltA (hu0 hr)) snd_ltT (e_bf call_lenA snd_len (by decide +kernel) (Z.free 2) (a_cons (e_v 4) a_nil)) (e_v 2) (nomark _))))) (ss_one (s_asg e_bl (g_sub (W := fun c d _ H' => E c d H') (hu1 hr) (e_v 4) (e_tup (a_cons (e_v 7) (a_cons (e_v 6) a_nil)))))) ss_nil))))))
  (ss_one (s_ret (e_tup (a_cons (e_v 3) (a_cons (e_bt call_tuple_of snd_tuple (by decide +kernel) (Z.free 7) (a_cons (e_bf call_sortA snd_sorted (by decide +kernel) (Z.free 6) (a_cons (e_bt (call_listA rfl) snd_listA (by decide +kernel) (Z.free 5) (a_cons (e_v 4) a_nil)) a_nil)) a_nil)) a_nil)))))))
abbrev s__law_pick : Stmt := top 35
theorem sc__law_pick : FnScope ["_law_draw", "_law_some"] ["_law_draw", "_law_some"] (defScope s__law_pick) := ⟨rfl, rfl, rfl, by decide +kernel, rfl, by decide +kernel, by decide +kernel⟩
theorem bind__law_pick : BindOk "_law_pick" s__law_pick ["_law_draw", "_law_some"] := fun _ _ _ _ _ _ us hl => match us, hl with | [_, _], _ => rfl
theorem ok__law_pick {P : Program} {w : World} {base : Heap} {K : PySem.W.Frag} {mg : Str → Option Value} (Z : Cnd fa fn K mg) : FnAt P w K mg base (tab K) 2 "_law_pick" s__law_pick ["_law_draw", "_law_some"] m__law_pick := by
  refine fnAt_of (body := b__law_pick) Z sc__law_pick 9 3 bind__law_pick .f fun cdv A outer s H E hr hgd tk hp => ?_
  exact (ss_one (s_ret (e_ix rfl (hu1 hr) (e_v 1) (e_callF (ok__law_next Z) hr hgd tk (a_cons (e_v 0) (a_cons (e_bf call_lenA snd_len (by decide +kernel) (Z.free 2) (a_cons (e_v 1) a_nil)) a_nil))))))
abbrev s_numbers_text : Stmt := top 23
theorem sc_numbers_text : FnScope ["numbers", "number"] ["numbers"] (defScope s_numbers_text) := ⟨rfl, rfl, rfl, by decide +kernel, rfl, by decide +kernel, by decide +kernel⟩
theorem bind_numbers_text : BindOk "numbers_text" s_numbers_text ["numbers"] := fun _ _ _ _ _ _ us hl => match us, hl with | [_], _ => rfl
theorem ok_numbers_text {P : Program} {w : World} {base : Heap} {K : PySem.W.Frag} {mg : Str → Option Value} (Z : Cnd fa fn K mg) : FnAt P w K mg base (tab K) 1 "numbers_text" s_numbers_text ["numbers"] m_numbers_text := by
  refine fnAt_of (body := b_numbers_text) Z sc_numbers_text 13 4 bind_numbers_text .f fun cdv A outer s H E hr hgd tk hp => ?_
  exact (ss_one (s_ret (e_if (t_cmp op_gt snd_gt (e_bf call_lenA snd_len (by decide +kernel) (Z.free 2) (a_cons (e_v 0) a_nil)) e_int (nomark _)) (e_join rfl (e_gstrE (Z.str 11)) (e_lc (new := false) [("number", 1)] rfl sc_numbers_text.nd (i_seq rfl (e_v 0)) (blkOk_by (by kernel_rfl)) (fun _ _ _ _ _ => (gw_name sc_numbers_text.nd)) (fun _ _ _ _ _ => ts_nil) (fun _ _ _ _ _ => (e_bt call_strA snd_str (by decide +kernel) (Z.free 10) (a_cons (e_v 1) a_nil))))) (e_gstrE (Z.str 12)))))
abbrev s_is_integer : Stmt := top 10
theorem sc_is_integer : FnScope ["thing"] ["thing"] (defScope s_is_integer) := ⟨rfl, rfl, rfl, by decide +kernel, rfl, by decide +kernel, by decide +kernel⟩
theorem bind_is_integer : BindOk "is_integer" s_is_integer ["thing"] := fun _ _ _ _ _ _ us hl => match us, hl with | [_], _ => rfl
theorem ok_is_integer {P : Program} {w : World} {base : Heap} {K : PySem.W.Frag} {mg : Str → Option Value} (Z : Cnd fa fn K mg) : FnAt P w K mg base (tab K) 1 "is_integer" s_is_integer ["thing"] m_is_integer := by
  refine fnAt_of (body := b_is_integer) Z sc_is_integer 17 5 bind_is_integer .f fun cdv A outer s H E hr hgd tk hp => ?_
  exact (ss_one (s_ret (e_and (e_isi (t := .int) (Z.free 14) (Z.free 4) (by decide +kernel) rfl (e_v 0)) (e_one (e_not (e_isi (t := .bool) (Z.free 14) (Z.free 16) (by decide +kernel) rfl (e_v 0)))))))
abbrev s_is_whole : Stmt := top 11
theorem sc_is_whole : FnScope ["thing", "least", "most"] ["thing", "least", "most"] (defScope s_is_whole) := ⟨rfl, rfl, rfl, by decide +kernel, rfl, by decide +kernel, by decide +kernel⟩
theorem bind_is_whole : BindOk "is_whole" s_is_whole ["thing", "least", "most"] := fun _ _ _ _ _ _ us hl => match us, hl with | [_, _, _], _ => rfl
theorem ok_is_whole {P : Program} {w : World} {base : Heap} {K : PySem.W.Frag} {mg : Str → Option Value} (Z : Cnd fa fn K mg) : FnAt P w K mg base (tab K) 2 "is_whole" s_is_whole ["thing", "least", "most"] m_is_whole := by
  refine fnAt_of (body := b_is_whole) Z sc_is_whole 18 6 bind_is_whole .f fun cdv A outer s H E hr hgd tk hp => ?_
  exact (ss_one (s_ret (e_and (e_callF (ok_is_integer Z) hr hgd tk (a_cons (e_v 0) a_nil)) (e_one (e_chain op_le snd_le op_le snd_le (e_v 1) (e_v 0) (e_v 2))))))
abbrev s_numbers_fault : Stmt := top 14
theorem sc_numbers_fault : FnScope ["thing", "many", "place", "number"] ["thing", "many"] (defScope s_numbers_fault) := ⟨rfl, rfl, rfl, by decide +kernel, rfl, by decide +kernel, by decide +kernel⟩
theorem bind_numbers_fault : BindOk "numbers_fault" s_numbers_fault ["thing", "many"] := fun _ _ _ _ _ _ us hl => match us, hl with | [_, _], _ => rfl
theorem ok_numbers_fault {P : Program} {w : World} {base : Heap} {K : PySem.W.Frag} {mg : Str → Option Value} (Z : Cnd fa fn K mg) : FnAt P w K mg base (tab K) 3 "numbers_fault" s_numbers_fault ["thing", "many"] m_numbers_fault := by
  refine fnAt_of (body := b_numbers_fault) Z sc_numbers_fault 20 7 bind_numbers_fault .f fun cdv A outer s H E hr hgd tk hp => ?_
  exact (ss_cons (s_if (PW.pt (w_or (t_not (t_val (e_isi (t := .tuple) (Z.free 14) (Z.free 7) (by decide +kernel) rfl (e_v 0)))) (w_or1 (t_cmp (op_neA (hu64 hr)) snd_neA (e_bf call_lenA snd_len (by decide +kernel) (Z.free 2) (a_cons (e_v 0) a_nil)) (e_v 1) (nomark _))))) (ss_one (s_ret (e_lst (a_cons e_non a_nil)))) ss_nil)
  (ss_cons (s_for hp rfl (i_enum rfl (Z.free 15) (a_cons (e_v 0) a_nil)) (g_tup rfl rfl (gs_cons (g_name sc_numbers_fault.nd) (gs_cons (g_name sc_numbers_fault.nd) gs_nil))) (ss_one (s_if (t_not (t_val (e_callF (ok_is_whole Z) hr hgd tk (a_cons (e_v 3) (a_cons e_int (a_cons (e_gintE (Z.int 19)) a_nil)))))) (ss_one (s_ret (e_lst (a_cons (e_v 2) a_nil)))) ss_nil)))
  (ss_one (s_ret (e_lst a_nil)))))
abbrev s_is_gate : Stmt := top 12
theorem sc_is_gate : FnScope ["rooms", "thing", "place"] ["rooms", "thing"] (defScope s_is_gate) := ⟨rfl, rfl, rfl, by decide +kernel, rfl, by decide +kernel, by decide +kernel⟩
theorem bind_is_gate : BindOk "is_gate" s_is_gate ["rooms", "thing"] := fun _ _ _ _ _ _ us hl => match us, hl with | [_, _], _ => rfl
theorem ok_is_gate {P : Program} {w : World} {base : Heap} {K : PySem.W.Frag} {mg : Str → Option Value} (Z : Cnd fa fn K mg) : FnAt P w K mg base (tab K) 3 "is_gate" s_is_gate ["rooms", "thing"] m_is_gate := by
  refine fnAt_of (body := b_is_gate) Z sc_is_gate 25 8 bind_is_gate .f fun cdv A outer s H E hr hgd tk hp => ?_
  exact (ss_cons (s_if (PW.pt (w_or (t_not (t_val (e_isi (t := .tuple) (Z.free 14) (Z.free 7) (by decide +kernel) rfl (e_v 1)))) (w_or1 (t_cmp (op_neA (hu64 hr)) snd_neA (e_bf call_lenA snd_len (by decide +kernel) (Z.free 2) (a_cons (e_v 1) a_nil)) e_int (nomark _))))) (ss_one (s_ret e_bl)) ss_nil)
  (ss_one (s_ret (e_and (e_bf (cr_all rfl) snd_all (by decide +kernel) (Z.free 24) (a_cons (e_lc (new := false) [("place", 2)] rfl sc_is_gate.nd (i_seq rfl (e_v 1)) (blkOk_by (by kernel_rfl)) (fun _ _ _ _ _ => (gw_name sc_is_gate.nd)) (fun _ _ _ _ _ => ts_nil) (fun _ _ _ _ _ => (e_callF (ok_is_whole Z) hr hgd takesB (a_cons (e_v 2) (a_cons (e_gintE (Z.int 23)) (a_cons (e_sub (e_v 0) e_int) a_nil)))))) a_nil)) (e_one (e_cmp (op_neA (hu64 hr)) snd_neA (e_ix rfl (hu1 hr) (e_v 1) e_int) (e_ix rfl (hu1 hr) (e_v 1) e_int) (nomark _)))))))
abbrev s_need_house : Stmt := top 13
theorem sc_need_house : FnScope ["thing", "rooms", "gates", "gate", "one", "other"] ["thing"] (defScope s_need_house) := ⟨rfl, rfl, rfl, by decide +kernel, rfl, by decide +kernel, by decide +kernel⟩
theorem bind_need_house : BindOk "need_house" s_need_house ["thing"] := fun _ _ _ _ _ _ us hl => match us, hl with | [_], _ => rfl
theorem ok_need_house {P : Program} {w : World} {base : Heap} {K : PySem.W.Frag} {mg : Str → Option Value} (Z : Cnd fa fn K mg) : FnAt P w K mg base (tab K) 4 "need_house" s_need_house ["thing"] m_need_house := by
  refine fnAt_of (body := b_need_house) Z sc_need_house 27 9 bind_need_house .f fun cdv A outer s H E hr hgd tk hp => ?_
  exact (ss_cons (s_if (PW.pt (w_or (t_not (t_val (e_isi (t := .tuple) (Z.free 14) (Z.free 7) (by decide +kernel) rfl (e_v 0)))) (w_or1 (t_cmp (op_neA (hu64 hr)) snd_neA (e_bf call_lenA snd_len (by decide +kernel) (Z.free 2) (a_cons (e_v 0) a_nil)) e_int (nomark _))))) (ss_one s_bad) ss_nil)
  (ss_cons (s_asg (e_v 0) (g_tup rfl rfl (gs_cons (g_name sc_need_house.nd) (gs_cons (g_name sc_need_house.nd) gs_nil))))
  (ss_cons (s_if (t_not (t_val (e_callF (ok_is_whole Z) hr hgd tk (a_cons (e_v 1) (a_cons e_int (a_cons (e_gintE (Z.int 21)) a_nil)))))) (ss_one s_bad) ss_nil)
  (ss_cons (s_if (PW.pt (w_or (t_not (t_val (e_isi (t := .tuple) (Z.free 14) (Z.free 7) (by decide +kernel) rfl (e_v 2)))) (w_or (t_cmp op_gt snd_gt (e_bf call_lenA snd_len (by decide +kernel) (Z.free 2) (a_cons (e_v 2) a_nil)) (e_gintE (Z.int 22)) (nomark _)) (w_or1 (t_not (t_val (e_bf (cr_all rfl) snd_all (by decide +kernel) (Z.free 24) (a_cons (e_lc (new := false) [("gate", 3)] rfl sc_need_house.nd (i_seq rfl (e_v 2)) (blkOk_by (by kernel_rfl)) (fun _ _ _ _ _ => (gw_name sc_need_house.nd)) (fun _ _ _ _ _ => ts_nil) (fun _ _ _ _ _ => (e_callF (ok_is_gate Z) hr hgd takesB (a_cons (e_v 1) (a_cons (e_v 3) a_nil))))) a_nil)))))))) (ss_one s_bad) ss_nil)
  (ss_cons (s_if (t_not (t_val (e_bf (cr_all rfl) snd_all (by decide +kernel) (Z.free 24) (a_cons (e_lc (new := false) [("one", 4), ("other", 5)] rfl sc_need_house.nd (i_zip rfl (Z.free 26) (a_cons (e_v 2) (a_cons (e_slice rfl (e_v 2) (o_some e_int) o_none) a_nil))) (blkOk_by (by kernel_rfl)) (fun _ _ _ _ _ => (gw_tup rfl rfl (gws_cons (gw_name sc_need_house.nd) (gws_cons (gw_name sc_need_house.nd) gws_nil)))) (fun _ _ _ _ _ => ts_nil) (fun _ _ _ _ _ => (e_cmp (op_ltA (hu0 hr)) snd_ltT (e_v 4) (e_v 5) (nomark _)))) a_nil)))) (ss_one s_bad) ss_nil)
  (ss_one (s_ret (e_v 0))))))))
abbrev s_need_counts : Stmt := top 15
theorem sc_need_counts : FnScope ["house", "thing", "number"] ["house", "thing"] (defScope s_need_counts) := ⟨rfl, rfl, rfl, by decide +kernel, rfl, by decide +kernel, by decide +kernel⟩
theorem bind_need_counts : BindOk "need_counts" s_need_counts ["house", "thing"] := fun _ _ _ _ _ _ us hl => match us, hl with | [_, _], _ => rfl
theorem ok_need_counts {P : Program} {w : World} {base : Heap} {K : PySem.W.Frag} {mg : Str → Option Value} (Z : Cnd fa fn K mg) : FnAt P w K mg base (tab K) 5 "need_counts" s_need_counts ["house", "thing"] m_need_counts := by
  refine fnAt_of (body := b_need_counts) Z sc_need_counts 28 10 bind_need_counts .f fun cdv A outer s H E hr hgd tk hp => ?_
  exact (ss_cons (s_for hp rfl (i_seq rfl (e_callF (ok_numbers_fault Z) hr hgd tk (a_cons (e_v 1) (a_cons (e_bf call_lenA snd_len (by decide +kernel) (Z.free 2) (a_cons (e_ix rfl (hu1 hr) (e_callF (ok_need_house Z) hr hgd tk (a_cons (e_v 0) a_nil)) e_int) a_nil)) a_nil)))) (g_name sc_need_counts.nd) (ss_one s_bad))
  (ss_one (s_ret (e_v 1))))
abbrev s_counts_text : Stmt := top 25
theorem sc_counts_text : FnScope ["house", "counts"] ["house", "counts"] (defScope s_counts_text) := ⟨rfl, rfl, rfl, by decide +kernel, rfl, by decide +kernel, by decide +kernel⟩
theorem bind_counts_text : BindOk "counts_text" s_counts_text ["house", "counts"] := fun _ _ _ _ _ _ us hl => match us, hl with | [_, _], _ => rfl
theorem ok_counts_text {P : Program} {w : World} {base : Heap} {K : PySem.W.Frag} {mg : Str → Option Value} (Z : Cnd fa fn K mg) : FnAt P w K mg base (tab K) 6 "counts_text" s_counts_text ["house", "counts"] m_counts_text := by
  refine fnAt_of (body := b_counts_text) Z sc_counts_text 29 11 bind_counts_text .f fun cdv A outer s H E hr hgd tk hp => ?_
  exact (ss_one (s_ret (e_callF (ok_numbers_text Z) hr hgd tk (a_cons (e_callF (ok_need_counts Z) hr hgd tk (a_cons (e_v 0) (a_cons (e_v 1) a_nil))) a_nil))))
abbrev s_house_text : Stmt := top 24
theorem sc_house_text : FnScope ["house", "rooms", "gates", "gate"] ["house"] (defScope s_house_text) := ⟨rfl, rfl, rfl, by decide +kernel, rfl, by decide +kernel, by decide +kernel⟩
theorem bind_house_text : BindOk "house_text" s_house_text ["house"] := fun _ _ _ _ _ _ us hl => match us, hl with | [_], _ => rfl
theorem ok_house_text {P : Program} {w : World} {base : Heap} {K : PySem.W.Frag} {mg : Str → Option Value} (Z : Cnd fa fn K mg) : FnAt P w K mg base (tab K) 5 "house_text" s_house_text ["house"] m_house_text := by
  refine fnAt_of (body := b_house_text) Z sc_house_text 31 12 bind_house_text .f fun cdv A outer s H E hr hgd tk hp => ?_
  exact (ss_cons (s_asg (e_callF (ok_need_house Z) hr hgd tk (a_cons (e_v 0) a_nil)) (g_tup rfl rfl (gs_cons (g_name sc_house_text.nd) (gs_cons (g_name sc_house_text.nd) gs_nil))))
  (ss_one (s_ret (e_join rfl (e_gstrE (Z.str 30)) (e_op op_addA snd_add (e_lst (a_cons (e_bt call_strA snd_str (by decide +kernel) (Z.free 10) (a_cons (e_v 1) a_nil)) a_nil)) (e_lc (new := false) [("gate", 3)] rfl sc_house_text.nd (i_seq rfl (e_v 2)) (blkOk_by (by kernel_rfl)) (fun _ _ _ _ _ => (gw_name sc_house_text.nd)) (fun _ _ _ _ _ => ts_nil) (fun _ _ _ _ _ => (e_callF (ok_numbers_text Z) hr hgd takesB (a_cons (e_v 3) a_nil)))))))))
abbrev s_need_string : Stmt := top 27
theorem sc_need_string : FnScope ["text"] ["text"] (defScope s_need_string) := ⟨rfl, rfl, rfl, by decide +kernel, rfl, by decide +kernel, by decide +kernel⟩
theorem bind_need_string : BindOk "need_string" s_need_string ["text"] := fun _ _ _ _ _ _ us hl => match us, hl with | [_], _ => rfl
theorem ok_need_string {P : Program} {w : World} {base : Heap} {K : PySem.W.Frag} {mg : Str → Option Value} (Z : Cnd fa fn K mg) : FnAt P w K mg base (tab K) 1 "need_string" s_need_string ["text"] m_need_string := by
  refine fnAt_of (body := b_need_string) Z sc_need_string 33 13 bind_need_string .f fun cdv A outer s H E hr hgd tk hp => ?_
  exact (ss_one (s_if (t_not (t_val (e_isi (t := .str) (Z.free 14) (Z.free 10) (by decide +kernel) rfl (e_v 0)))) (ss_one s_bad) ss_nil))
abbrev s_number_in : Stmt := top 26
theorem sc_number_in : FnScope ["word", "sign"] ["word"] (defScope s_number_in) := ⟨rfl, rfl, rfl, by decide +kernel, rfl, by decide +kernel, by decide +kernel⟩
theorem bind_number_in : BindOk "number_in" s_number_in ["word"] := fun _ _ _ _ _ _ us hl => match us, hl with | [_], _ => rfl
theorem ok_number_in {P : Program} {w : World} {base : Heap} {K : PySem.W.Frag} {mg : Str → Option Value} (Z : Cnd fa fn K mg) : FnAt P w K mg base (tab K) 1 "number_in" s_number_in ["word"] m_number_in := by
  refine fnAt_of (body := b_number_in) Z sc_number_in 36 14 bind_number_in .f fun cdv A outer s H E hr hgd tk hp => ?_
  exact (ss_cons (s_if (PW.pt (w_or (t_not (t_chain op_le snd_le op_le snd_le e_int (e_bf call_lenA snd_len (by decide +kernel) (Z.free 2) (a_cons (e_v 0) a_nil)) (e_gintE (Z.int 34)))) (w_or1 (t_not (t_val (e_bf (cr_all rfl) snd_all (by decide +kernel) (Z.free 24) (a_cons (e_lc (new := false) [("sign", 1)] rfl sc_number_in.nd (i_seq rfl (e_v 0)) (blkOk_by (by kernel_rfl)) (fun _ _ _ _ _ => (gw_name sc_number_in.nd)) (fun _ _ _ _ _ => ts_nil) (fun _ _ _ _ _ => (e_cmp (op_inA (hu65 hr)) snd_in (e_v 1) (e_gstrE (Z.str 35)) (by rfl)))) a_nil))))))) (ss_one (s_ret e_non)) ss_nil)
  (ss_one (s_ret (e_if (PW.pt (w_or (t_cmp (op_eqA (hu64 hr)) snd_eqA (e_v 0) e_str (nomark _)) (w_or1 (t_cmp (op_neA (hu64 hr)) snd_neA (e_ix rfl (hu1 hr) (e_v 0) e_int) e_str (nomark _))))) (e_bt call_intA snd_intA (by decide +kernel) (Z.free 4) (a_cons (e_v 0) a_nil)) e_non))))
abbrev s_numbers_in : Stmt := top 30
theorem sc_numbers_in : FnScope ["words", "found", "place", "word", "number"] ["words"] (defScope s_numbers_in) := ⟨rfl, rfl, rfl, by decide +kernel, rfl, by decide +kernel, by decide +kernel⟩
theorem bind_numbers_in : BindOk "numbers_in" s_numbers_in ["words"] := fun _ _ _ _ _ _ us hl => match us, hl with | [_], _ => rfl
theorem ok_numbers_in {P : Program} {w : World} {base : Heap} {K : PySem.W.Frag} {mg : Str → Option Value} (Z : Cnd fa fn K mg) : FnAt P w K mg base (tab K) 2 "numbers_in" s_numbers_in ["words"] m_numbers_in := by
  refine fnAt_of (body := b_numbers_in) Z sc_numbers_in 37 15 bind_numbers_in .f fun cdv A outer s H E hr hgd tk hp => ?_
  exact (ss_cons (s_if (t_cmp (op_eqA (hu64 hr)) snd_eqA (e_ix rfl (hu1 hr) (e_v 0) e_int) (e_gstrE (Z.str 12)) (nomark _)) (ss_cons (s_if (t_cmp op_gt snd_gt (e_bf call_lenA snd_len (by decide +kernel) (Z.free 2) (a_cons (e_v 0) a_nil)) e_int (nomark _)) (ss_one s_bad) ss_nil)
  (ss_one (s_ret (e_tup a_nil)))) ss_nil)
  (ss_cons (s_set sc_numbers_in.nd (e_new a_nil))
  (ss_cons (s_for hp rfl (i_enum rfl (Z.free 15) (a_cons (e_v 0) a_nil)) (g_tup rfl rfl (gs_cons (g_name sc_numbers_in.nd) (gs_cons (g_name sc_numbers_in.nd) gs_nil))) (ss_cons (s_set sc_numbers_in.nd (e_callF (ok_number_in Z) hr hgd tk (a_cons (e_v 3) a_nil)))
  (ss_cons (s_if (t_cmp op_isA snd_is (e_v 4) e_non (nomark _)) (ss_one s_bad) ss_nil)
  (ss_one (s_expr (e_append (e_v 1) (a_cons (e_v 4) a_nil)))))))
  (ss_one (s_ret (e_bt call_tuple_of snd_tuple (by decide +kernel) (Z.free 7) (a_cons (e_v 1) a_nil)))))))
abbrev s_read_counts : Stmt := top 31
theorem sc_read_counts : FnScope ["house", "text", "lines", "found"] ["house", "text"] (defScope s_read_counts) := ⟨rfl, rfl, rfl, by decide +kernel, rfl, by decide +kernel, by decide +kernel⟩
theorem bind_read_counts : BindOk "read_counts" s_read_counts ["house", "text"] := fun _ _ _ _ _ _ us hl => match us, hl with | [_, _], _ => rfl
theorem ok_read_counts {P : Program} {w : World} {base : Heap} {K : PySem.W.Frag} {mg : Str → Option Value} (Z : Cnd fa fn K mg) : FnAt P w K mg base (tab K) 6 "read_counts" s_read_counts ["house", "text"] m_read_counts := by
  refine fnAt_of (body := b_read_counts) Z sc_read_counts 38 16 bind_read_counts .f fun cdv A outer s H E hr hgd tk hp => ?_
  exact (ss_cons (s_expr (e_callF (ok_need_house Z) hr hgd tk (a_cons (e_v 0) a_nil)))
  (ss_cons (s_expr (e_callF (ok_need_string Z) hr hgd tk (a_cons (e_v 1) a_nil)))
  (ss_cons (s_set sc_read_counts.nd (e_split (e_v 1) (e_gstrE (Z.str 30))))
  (ss_cons (s_set sc_read_counts.nd (e_callF (ok_numbers_in Z) hr hgd tk (a_cons (e_split (e_ix rfl (hu1 hr) (e_v 2) e_int) (e_gstrE (Z.str 11))) a_nil)))
  (ss_cons (s_if (t_cmp op_gt snd_gt (e_bf call_lenA snd_len (by decide +kernel) (Z.free 2) (a_cons (e_v 2) a_nil)) e_int (nomark _)) (ss_one s_bad) ss_nil)
  (ss_one (s_ret (e_callF (ok_need_counts Z) hr hgd tk (a_cons (e_v 0) (a_cons (e_v 3) a_nil))))))))))
abbrev s_places_in : Stmt := top 28
theorem sc_places_in : FnScope ["row", "line", "found", "place", "word", "number"] ["row", "line"] (defScope s_places_in) := ⟨rfl, rfl, rfl, by decide +kernel, rfl, by decide +kernel, by decide +kernel⟩
theorem bind_places_in : BindOk "places_in" s_places_in ["row", "line"] := fun _ _ _ _ _ _ us hl => match us, hl with | [_, _], _ => rfl
theorem ok_places_in {P : Program} {w : World} {base : Heap} {K : PySem.W.Frag} {mg : Str → Option Value} (Z : Cnd fa fn K mg) : FnAt P w K mg base (tab K) 2 "places_in" s_places_in ["row", "line"] m_places_in := by
  refine fnAt_of (body := b_places_in) Z sc_places_in 40 17 bind_places_in .f fun cdv A outer s H E hr hgd tk hp => ?_
  exact (ss_cons (s_set sc_places_in.nd (e_new a_nil))
  (ss_cons (s_for hp rfl (i_enum rfl (Z.free 15) (a_cons (e_split (e_v 0) (e_gstrE (Z.str 11))) a_nil)) (g_tup rfl rfl (gs_cons (g_name sc_places_in.nd) (gs_cons (g_name sc_places_in.nd) gs_nil))) (ss_cons (s_set sc_places_in.nd (e_if (t_cmp (op_eqA (hu64 hr)) snd_eqA (e_v 4) (e_gstrE (Z.str 39)) (nomark _)) (e_neg e_int) (e_callF (ok_number_in Z) hr hgd tk (a_cons (e_v 4) a_nil))))
  (ss_cons (s_if (PW.pt (w_or (t_cmp op_isA snd_is (e_v 5) e_non (nomark _)) (w_or1 (t_cmp op_gt snd_gt (e_v 3) e_int (nomark _))))) (ss_one s_bad) ss_nil)
  (ss_one (s_expr (e_append (e_v 2) (a_cons (e_v 5) a_nil)))))))
  (ss_cons (s_if (t_cmp (op_ltA (hu0 hr)) snd_ltT (e_bf call_lenA snd_len (by decide +kernel) (Z.free 2) (a_cons (e_v 2) a_nil)) e_int (nomark _)) (ss_one s_bad) ss_nil)
  (ss_one (s_ret (e_bt call_tuple_of snd_tuple (by decide +kernel) (Z.free 7) (a_cons (e_v 2) a_nil)))))))
abbrev s_read_house : Stmt := top 29
theorem sc_read_house : FnScope ["text", "lines", "words", "gates", "number", "row"] ["text"] (defScope s_read_house) := ⟨rfl, rfl, rfl, by decide +kernel, rfl, by decide +kernel, by decide +kernel⟩
theorem bind_read_house : BindOk "read_house" s_read_house ["text"] := fun _ _ _ _ _ _ us hl => match us, hl with | [_], _ => rfl
theorem ok_read_house {P : Program} {w : World} {base : Heap} {K : PySem.W.Frag} {mg : Str → Option Value} (Z : Cnd fa fn K mg) : FnAt P w K mg base (tab K) 5 "read_house" s_read_house ["text"] m_read_house := by
  refine fnAt_of (body := b_read_house) Z sc_read_house 41 18 bind_read_house .f fun cdv A outer s H E hr hgd tk hp => ?_
  exact (ss_cons (s_expr (e_callF (ok_need_string Z) hr hgd tk (a_cons (e_v 0) a_nil)))
  (ss_cons (s_set sc_read_house.nd (e_split (e_v 0) (e_gstrE (Z.str 30))))
  (ss_cons (s_set sc_read_house.nd (e_split (e_ix rfl (hu1 hr) (e_v 1) e_int) (e_gstrE (Z.str 11))))
  (ss_cons (s_if (t_cmp op_isA snd_is (e_callF (ok_number_in Z) hr hgd tk (a_cons (e_ix rfl (hu1 hr) (e_v 2) e_int) a_nil)) e_non (nomark _)) (ss_one s_bad) ss_nil)
  (ss_cons (s_if (t_cmp op_gt snd_gt (e_bf call_lenA snd_len (by decide +kernel) (Z.free 2) (a_cons (e_v 2) a_nil)) e_int (nomark _)) (ss_one s_bad) ss_nil)
  (ss_cons (s_setLc (new := false) [("number", 4), ("row", 5)] rfl sc_read_house.nd (i_enum rfl (Z.free 15) (a_cons (e_slice rfl (e_v 1) (o_some e_int) o_none) a_nil)) (blkOk_by (by kernel_rfl)) (fun _ _ _ _ _ => (gw_tup rfl rfl (gws_cons (gw_name sc_read_house.nd) (gws_cons (gw_name sc_read_house.nd) gws_nil)))) (fun _ _ _ _ _ => ts_nil) (fun _ _ _ _ _ => (e_callF (ok_places_in Z) hr hgd takesB (a_cons (e_v 5) (a_cons (e_op op_addA snd_add (e_v 4) e_int) a_nil)))) (sw_true rfl rfl rfl rfl))
  (ss_one (s_ret (e_callF (ok_need_house Z) hr hgd tk (a_cons (e_tup (a_cons (e_callF (ok_number_in Z) hr hgd tk (a_cons (e_ix rfl (hu1 hr) (e_v 2) e_int) a_nil)) (a_cons (e_bt call_tuple_of snd_tuple (by decide +kernel) (Z.free 7) (a_cons (e_v 3) a_nil)) a_nil))) a_nil))))))))))
abbrev s_law : Stmt := top 37
theorem sc_law : FnScope ["_law_script", "_law_draw", "_law_turn", "_law_home_so", "_law_passes", "_law_gate", "_law_rows", "_law_one", "_law_other", "_law_words", "_law_count", "_law_due", "_law_told"] ["_law_script"] (defScope s_law) := ⟨rfl, rfl, rfl, by decide +kernel, rfl, by decide +kernel, by decide +kernel⟩
theorem bind_law : BindOk "law" s_law ["_law_script"] := fun _ _ _ _ _ _ us hl => match us, hl with | [_], _ => rfl
theorem ok_law {P : Program} {w : World} {K : PySem.W.Frag} {mg : Str → Option Value} (Z : Cnd fa fn K mg) : ∃ fd : FuncData, (∀ (s : Shared) (u : Value), BindsTo s fd ⟨[u], []⟩ [("_law_script", u)]) ∧ ∀ base : Heap, FnG P w K mg base 7 (He.ga K "law") fd ["_law_script"] (spF (tab K) 1 m_law) := by
  refine lawAt_of (body := b_law) Z sc_law 19 bind_law .f fun base cdv A outer s H E hr hgd tk hp => ?_
  exact (ss_cons (s_set sc_law.nd (e_callF (ok__law_begin Z) hr hgd tk (a_cons (e_v 0) a_nil)))
  (ss_cons (s_for hp rfl (i_range1 (Z.free 1) (a_cons e_int a_nil)) (g_name sc_law.nd) (ss_cons (s_set sc_law.nd (e_callF (ok__law_house Z) hr hgd tk (a_cons (e_v 1) (a_cons e_int (a_cons e_int a_nil)))))
  (ss_cons (s_set sc_law.nd (e_tup a_nil))
  (ss_cons (s_for hp rfl (i_seq rfl (e_ix rfl (hu1 hr) (e_v 3) e_int)) (g_name sc_law.nd) (ss_one (s_set sc_law.nd (e_op op_addA snd_add (e_v 4) (e_tup (a_cons (e_callF (ok__law_pick Z) hr hgd tk (a_cons (e_v 1) (a_cons (e_lst (a_cons e_int (a_cons e_int (a_cons (e_callF (ok__law_next Z) hr hgd tk (a_cons (e_v 1) (a_cons e_int a_nil))) (a_cons (e_callF (ok__law_next Z) hr hgd tk (a_cons (e_v 1) (a_cons (e_op op_addA snd_add (e_pow e_int e_int) e_int) a_nil))) a_nil))))) a_nil))) a_nil))))))
  (ss_cons (s_set sc_law.nd (e_op op_addA snd_add (e_lst (a_cons (e_bt call_strA snd_str (by decide +kernel) (Z.free 10) (a_cons (e_ix rfl (hu1 hr) (e_v 3) e_int) a_nil)) a_nil)) (e_lc (new := false) [("_law_one", 7), ("_law_other", 8)] rfl sc_law.nd (i_seq rfl (e_ix rfl (hu1 hr) (e_v 3) e_int)) (blkOk_by (by kernel_rfl)) (fun _ _ _ _ _ => (gw_tup rfl rfl (gws_cons (gw_name sc_law.nd) (gws_cons (gw_name sc_law.nd) gws_nil)))) (fun _ _ _ _ _ => ts_nil) (fun _ _ _ _ _ => (e_op op_addA snd_add (e_op op_addA snd_add (e_bt call_strA snd_str (by decide +kernel) (Z.free 10) (a_cons (e_v 7) a_nil)) e_str) (e_bt call_strA snd_str (by decide +kernel) (Z.free 10) (a_cons (e_v 8) a_nil)))))))
  (ss_cons (s_setLc (new := false) [("_law_count", 10)] rfl sc_law.nd (i_seq rfl (e_v 4)) (blkOk_by (by kernel_rfl)) (fun _ _ _ _ _ => (gw_name sc_law.nd)) (fun _ _ _ _ _ => ts_nil) (fun _ _ _ _ _ => (e_bt call_strA snd_str (by decide +kernel) (Z.free 10) (a_cons (e_v 10) a_nil))) (sw_true rfl rfl rfl rfl))
  (ss_cons (s_set sc_law.nd (e_lst (a_cons (e_join rfl e_str (e_v 6)) (a_cons (e_if (t_cmp (op_neA (hu64 hr)) snd_neA (e_v 9) (e_lst a_nil) (nomark _)) (e_join rfl e_str (e_v 9)) e_str) a_nil))))
  (ss_cons (s_set sc_law.nd (e_lst (a_cons (e_callF (ok_house_text Z) hr hgd tk (a_cons (e_v 3) a_nil)) (a_cons (e_callF (ok_counts_text Z) hr hgd tk (a_cons (e_v 3) (a_cons (e_v 4) a_nil))) a_nil))))
  (ss_cons (s_if (t_cmp (op_neA (hu64 hr)) snd_neA (e_bf (call_reprA hgd (hu65 hr)) snd_repr (by decide +kernel) (Z.free 32) (a_cons (e_v 12) a_nil)) (e_bf (call_reprA hgd (hu65 hr)) snd_repr (by decide +kernel) (Z.free 32) (a_cons (e_v 11) a_nil)) (nomark _)) (ss_one (s_ret e_bl)) ss_nil)
  (ss_cons (s_if (t_cmp (op_neA (hu64 hr)) snd_neA (e_lst (a_cons (e_callK (ks := ["house"]) (perm := [0]) (ok_house_text Z) (fun _ _ _ _ _ _ ws hl => match ws, hl with | [_], _ => rfl) hr hgd tk (k_cons (e_v 3) k_nil)) (a_cons (e_callK (ks := ["counts", "house"]) (perm := [1, 0]) (ok_counts_text Z) (fun _ _ _ _ _ _ ws hl => match ws, hl with | [_, _], _ => rfl) hr hgd tk (k_cons (e_v 4) (k_cons (e_v 3) k_nil))) a_nil))) (e_v 11) (nomark _)) (ss_one (s_ret e_bl)) ss_nil)
  (ss_cons (s_if (t_cmp (op_neA (hu64 hr)) snd_neA (e_bf (call_reprA hgd (hu65 hr)) snd_repr (by decide +kernel) (Z.free 32) (a_cons (e_lst (a_cons (e_callF (ok_read_house Z) hr hgd tk (a_cons (e_ix rfl (hu1 hr) (e_v 11) e_int) a_nil)) (a_cons (e_callF (ok_read_counts Z) hr hgd tk (a_cons (e_v 3) (a_cons (e_ix rfl (hu1 hr) (e_v 11) e_int) a_nil))) a_nil))) a_nil)) (e_bf (call_reprA hgd (hu65 hr)) snd_repr (by decide +kernel) (Z.free 32) (a_cons (e_lst (a_cons (e_v 3) (a_cons (e_v 4) a_nil))) a_nil)) (nomark _)) (ss_one (s_ret e_bl)) ss_nil)
  (ss_one (s_if (PW.pt (w_or (t_cmp (op_neA (hu64 hr)) snd_neA (e_callK (ks := ["text"]) (perm := [0]) (ok_read_house Z) (fun _ _ _ _ _ _ ws hl => match ws, hl with | [_], _ => rfl) hr hgd tk (k_cons (e_ix rfl (hu1 hr) (e_v 11) e_int) k_nil)) (e_v 3) (nomark _)) (w_or1 (t_cmp (op_neA (hu64 hr)) snd_neA (e_callK (ks := ["text", "house"]) (perm := [1, 0]) (ok_read_counts Z) (fun _ _ _ _ _ _ ws hl => match ws, hl with | [_, _], _ => rfl) hr hgd tk (k_cons (e_ix rfl (hu1 hr) (e_v 11) e_int) (k_cons (e_v 3) k_nil))) (e_v 4) (nomark _))))) (ss_one (s_ret e_bl)) ss_nil)))))))))))))
  (ss_cons (s_set sc_law.nd (e_tup (a_cons e_int (a_cons (e_tup (a_cons (e_tup (a_cons (e_neg e_int) (a_cons e_int a_nil))) (a_cons (e_tup (a_cons e_int (a_cons (e_neg e_int) a_nil))) (a_cons (e_tup (a_cons e_int (a_cons e_int a_nil))) a_nil)))) a_nil))))
  (ss_cons (s_if (PW.pt (w_or (t_cmp (op_neA (hu64 hr)) snd_neA (e_callF (ok_house_text Z) hr hgd tk (a_cons (e_v 3) a_nil)) e_str (nomark _)) (w_or1 (t_cmp (op_neA (hu64 hr)) snd_neA (e_callF (ok_read_house Z) hr hgd tk (a_cons e_str a_nil)) (e_tup (a_cons e_int (a_cons (e_tup a_nil) a_nil))) (nomark _))))) (ss_one (s_ret e_bl)) ss_nil)
  (ss_cons (s_if (t_cmp (op_neA (hu64 hr)) snd_neA (e_callF (ok_read_counts Z) hr hgd tk (a_cons (e_tup (a_cons e_int (a_cons (e_tup a_nil) a_nil))) (a_cons e_str a_nil))) (e_tup a_nil) (nomark _)) (ss_one (s_ret e_bl)) ss_nil)
  (ss_one (s_ret (e_cmp (op_eqA (hu64 hr)) snd_eqA (e_callF (ok_read_counts Z) hr hgd tk (a_cons (e_v 3) (a_cons (e_op op_addA snd_add e_str (e_op op_mulA snd_mul e_str e_int)) a_nil))) (e_tup (a_cons e_int (a_cons e_int (a_cons (e_pow e_int e_int) a_nil)))) (nomark _)))))))))

abbrev R : PySem.W.OpenRow := PySem.W.OpenLaw.row PySem.Challenge.rw_gatecounts_k12_whole_texts
abbrev hk : PySem.W.Hook := He.hookD 4 fa fn
def ob (s : PySem.W.SharedT) : He.AlD := He.obsDG 4 fa fn (HandSHeadRun.getT s)
theorem ob_eq (s : PySem.W.SharedT) : ob s = hk.obs s.abs := He.obsDG_eq (HandSHeadRun.getT_eq s)
def loose : List Str := ("GateError" : Str) :: ("BadHouse" : Str) :: ("BadCounts" : Str) :: ("BadText" : Str) :: ("OUTSIDE" : Str) :: ("MOST_ROOMS" : Str) :: ("MOST_GATES" : Str) :: ("MOST_NUMBER" : Str) :: ("is_integer" : Str) :: ("is_whole" : Str) :: ("is_gate" : Str) :: ("need_house" : Str) :: ("numbers_fault" : Str) :: ("need_counts" : Str) :: ("BLANK" : Str) :: ("LINE_END" : Str) :: ("NONE" : Str) :: ("OUT" : Str) :: ("FIGURES" : Str) :: ("MOST_FIGURES" : Str) :: ("numbers_text" : Str) :: ("house_text" : Str) :: ("counts_text" : Str) :: ("number_in" : Str) :: ("need_string" : Str) :: ("places_in" : Str) :: ("read_house" : Str) :: ("numbers_in" : Str) :: ("read_counts" : Str) :: ("_law_begin" : Str) :: ("_law_next" : Str) :: ("_law_pick" : Str) :: ("_law_house" : Str) :: []
theorem run (w : World) : HandSHeadRun.RunEq R (PySem.W.view R.prog [37]) hk ob 4000 loose w := by
  intro os
  kernel_rfl

theorem holds_of (plain : ∀ ns : List Int, ns.length ≤ 63 → ∃ st, m_law [.lst (ns.map .int)] [] = .ok (.bl true) st) : PySem.Challenge.rw_gatecounts_k12_whole_texts.Holds := by
  w_on; o_law
  refine HandSHeadRun.head_any (r := PySem.W.OpenLaw.row PySem.Challenge.rw_gatecounts_k12_whole_texts) (q := PySem.W.view (PySem.W.OpenLaw.row PySem.Challenge.rw_gatecounts_k12_whole_texts).prog [37]) (H := hk) (ob := ob) (M := 4000) (loose := loose) (d := HandSHeadRun.topDef (PySem.W.OpenLaw.row PySem.Challenge.rw_gatecounts_k12_whole_texts).prog 37) (kwd := []) ob_eq
    (by kernel_rfl) (fun s => by kernel_rfl) run (by kernel_rfl) (by kernel_rfl) (by kernel_rfl) (by rfl) (by first | assumption | decide +kernel) (by decide +kernel) ⟨rfl, rfl, rfl, rfl, rfl, by decide +kernel⟩ ?hw ?hc
  case hw => w_witness2
  case hc =>
    refine Ev.walk_ofG (l := PySem.Challenge.rw_gatecounts_k12_whole_texts) (n := 63) (k := 7) (x := "_law_script") rfl (by decide) (by kernel_rfl) ⟨rfl, by decide, by decide⟩ ?F
    intro w mg f h Y G hmg0
    obtain ⟨K, KX, c⟩ := Y
    have hmg : mg ("law" : PySem.Str) = some (.ref f) := by
      have e : (HandSHeadRun.topDef (PySem.W.OpenLaw.row PySem.Challenge.rw_gatecounts_k12_whole_texts).prog 37).name = ("law" : PySem.Str) := by kernel_rfl
      rw [← e]
      exact hmg0
    have Z : Cnd fa fn K mg := ⟨c, h, KX, G⟩
    cases hmg.symm.trans (Z.glo 42)
    obtain ⟨fd, hb, hF⟩ := ok_law (P := (PySem.Challenge.rw_gatecounts_k12_whole_texts).prog) (w := w) Z
    exact ⟨K, fd, _, KX, hb, fun H a ns hl _ hS => law_sp (T := tab K) hS (plain ns hl), fun base _ _ => hF base⟩
end K12

set_option Elab.async false
set_option linter.all false
set_option maxRecDepth 100000
set_option maxHeartbeats 2000000
namespace K12
open PySem PySem.Spec PyProof.Rows L2 Ev
def gh (rooms : Int) (gs : List (Int × Int)) : Val := .tup [.int rooms, .tup (gs.map pV)]
def ltG (a b : Int × Int) : Prop := a.1 < b.1 ∨ (a.1 = b.1 ∧ a.2 < b.2)
structure GoodH (rooms : Int) (gs : List (Int × Int)) : Prop where
  lo : 1 ≤ rooms
  hi : rooms ≤ 8
  len : gs.length ≤ 16
  at_ : ∀ g, g ∈ gs → -1 ≤ g.1 ∧ g.1 ≤ rooms - 1 ∧ -1 ≤ g.2 ∧ g.2 ≤ rooms - 1 ∧ g.1 ≠ g.2
  srt : gs.Pairwise ltG
structure GoodC (gs : List (Int × Int)) (cs : List Int) : Prop where
  len : cs.length = gs.length
  at_ : ∀ c, c ∈ cs → 0 ≤ c ∧ c ≤ 10 ^ 30
theorem bel_pV {n : Nat} : ∀ gs : List (Int × Int), belVs n (gs.map pV) = true
  | [] => rfl
  | g :: gs => by simp [belVs, belV, pV, bel_pV gs]
theorem bel_gh {n : Nat} {rooms : Int} {gs : List (Int × Int)} : belV n (gh rooms gs) = true := by
  simp [gh, belV, belVs, bel_pV]
theorem bel_ints {n : Nat} (cs : List Int) : belV n (.tup (cs.map .int)) = true := by
  simp [belV, bel_intsL]
theorem is_integer_ok {st : Sto} (i : Int) : m_is_integer [.int i] st = .ok (.bl true) st := by
  refine runF_same ?_ rfl
  simp [b_is_integer, startE, sRet, eAnd, eIsi, eNot, eTest, eV, bindR, bindS, isTy]
theorem is_whole_ok {st : Sto} (i a b : Int) : m_is_whole [.int i, .int a, .int b] st = .ok (.bl (decide (a ≤ i) && decide (i ≤ b))) st := by
  refine runF_same ?_ rfl
  simp [b_is_whole, startE, sRet, eAnd, eTest, eV, bindR, bindS, eCall, eCons, eNil, is_integer_ok, eChain, optR, fLe_eq]
  by_cases h : a ≤ i <;> simp [h]
theorem is_gate_ok {st : Sto} {rooms : Int} {g : Int × Int} (h : -1 ≤ g.1 ∧ g.1 ≤ rooms - 1 ∧ -1 ≤ g.2 ∧ g.2 ≤ rooms - 1 ∧ g.1 ≠ g.2) : m_is_gate [.int rooms, pV g] st = .ok (.bl true) st := by
  obtain ⟨h1, h2, h3, h4, h5⟩ := h
  refine runF_same ?_ rfl
  have e0 : ∀ st : Sto, fLen st [.tup [.int g.1, .int g.2]] = some (.int 2) := fun st => by simp [fLen, seqOf, dr, two_le]
  have e1 : ∀ st : Sto, fIx st (.tup [.int g.1, .int g.2]) (.int 0) = some (.int g.1) := fun st => ix_tup (by decide) rfl
  have e2 : ∀ st : Sto, fIx st (.tup [.int g.1, .int g.2]) (.int 1) = some (.int g.2) := fun st => ix_tup (by decide) rfl
  have e3 : eLc false [2] (itV (eV 1)) (gN 2) eYes (eCall 3 m_is_whole (eCons (eV 2) (eCons (eC (.int (-1))) (eCons (eB fSub (eV 0) (eC (.int 1))) eNil)))) [some (.int rooms), some (.tup [.int g.1, .int g.2]), none] st = .ok (.lst ([Val.int g.1, .int g.2].map fun _ => .bl true)) st := by
    refine lc_map (vs := [.int g.1, .int g.2]) ?_ (by simp) fun v hv => ?_
    · simp [itV, eV, bindR]
    · simp only [List.mem_cons, List.not_mem_nil, or_false] at hv
      rcases hv with rfl | rfl
      · refine ⟨_, rfl, ?_⟩
        simp [eCall, eCons, eNil, eV, eC, eB, bindR, optR, wipeE, fSub_eq, is_whole_ok, h1, h2]
      · refine ⟨_, rfl, ?_⟩
        simp [eCall, eCons, eNil, eV, eC, eB, bindR, optR, wipeE, fSub_eq, is_whole_ok, h3, h4]
  simp [b_is_gate, sSeq, sIf, eOrT, eNotT, eTest, eIsi, eBf, eCons, eNil, eAnd, sRet, e3, bindR, bindS, startE, eV, eC, eB, pV, isTy, optR, e0, e1, e2, fNeA, sSkip, fAll, lstOf, dr, boolsOf, h5]
/-- all of a list of true ones -/
theorem fAll_true {α : Type} {st : Sto} (xs : List α) : fAll st [.lst (xs.map fun _ => .bl true)] = some (.bl true) := by
  have e : ∀ xs : List α, boolsOf (xs.map fun _ => Val.bl true) = some (xs.map fun _ => true) := fun xs => by
    induction xs with
    | nil => rfl
    | cons x xs ih => rw [List.map_cons, boolsOf, ih]; rfl
  simp only [fAll, lstOf, dr, Option.bind_some, e, Option.map_some]
  congr 2
  rw [List.all_eq_true]
  intro x hx
  obtain ⟨_, _, rfl⟩ := List.mem_map.mp hx
  rfl
theorem cut_tail {α : Type} (xs : List α) : cutG xs (some 1) none = xs.drop 1 := by
  unfold cutG
  have h1 : HT.sIx xs.length 0 (some 1) = min 1 xs.length := HT.sIx_nat _ _ 1
  rw [h1, HT.sIx_none]
  cases xs with
  | nil => rfl
  | cons a r =>
    have e : min 1 (a :: r).length = 1 := by simp
    rw [e, List.take_of_length_le]
    simp
theorem intsOf_pair (a b : Int) : intsOf [.int a, .int b] = some [a, b] := rfl
theorem lex2 {a b : Int × Int} (h : ltG a b) : HT.lexLt [a.1, a.2] [b.1, b.2] = true := by
  unfold ltG at h
  rw [HT.lexLt_cons, HT.lexLt_cons]
  rcases h with h | ⟨h1, h2⟩
  · rw [if_neg (by omega)]
    exact decide_eq_true h
  · rw [if_pos h1, if_neg (by omega)]
    exact decide_eq_true h2
theorem need_house_ok {st : Sto} {rooms : Int} {gs : List (Int × Int)} (h : GoodH rooms gs) : m_need_house [gh rooms gs] st = .ok (gh rooms gs) st := by
  refine runF_same ?_ bel_gh
  have e0 : ∀ st : Sto, fLen st [.tup [.int rooms, .tup (gs.map pV)]] = some (.int 2) := fun st => by simp [fLen, seqOf, dr, two_le]
  have hl : gs.length ≤ sizeLine := by have := h.len; rw [sizeLine_eq]; omega
  have e1 : ∀ st : Sto, fLen st [.tup (gs.map pV)] = some (.int gs.length) := fun st => by simp [fLen, seqOf, dr, hl]
  have h16 : ¬ (16 : Int) < gs.length := by have := h.len; omega
  have e2 : ∀ x y, eLc false [3] (itV (eV 2)) (gN 3) eYes (eCall 2 m_is_gate (eCons (eV 1) (eCons (eV 3) eNil))) [some x, some (.int rooms), some (.tup (gs.map pV)), y, none, none] st = .ok (.lst ((gs.map pV).map fun _ => .bl true)) st := fun x y => by
    refine lc_map (vs := gs.map pV) ?_ (by have := h.len; simp; omega) fun v hv => ?_
    · simp [itV, eV, bindR]
    · obtain ⟨g, hg, rfl⟩ := List.mem_map.mp hv
      refine ⟨_, rfl, ?_⟩
      simp [eCall, eCons, eNil, eV, bindR, wipeE, is_gate_ok (h.at_ g hg)]
  have e3 : ∀ x y, eLc false [4, 5] (itZip (eCons (eV 2) (eCons (eSl (eV 2) (oSome (eC (.int 1))) oNone) eNil))) (gT 2 (gCons' (gN 4) (gCons' (gN 5) gNil'))) eYes (eB fLtT (eV 4) (eV 5)) [some x, some (.int rooms), some (.tup (gs.map pV)), y, none, none] st = .ok (.lst ((zipV (gs.map pV) ((gs.map pV).drop 1)).map fun _ => .bl true)) st := fun x y => by
    refine lc_map (vs := zipV (gs.map pV) ((gs.map pV).drop 1)) ?_ (by have := h.len; rw [zipV_len]; simp; omega) fun v hv => ?_
    · simp [itZip, eCons, eNil, eV, eSl, oSome, oNone, eC, bindR, cut_tail]
    · have hz : ∀ gs : List (Int × Int), gs.Pairwise ltG → v ∈ zipV (gs.map pV) ((gs.map pV).drop 1) → ∃ a b, v = .tup [pV a, pV b] ∧ ltG a b := fun gs => by
        induction gs with
        | nil => intro _ h; simp [zipV] at h
        | cons a r ih =>
          intro hp hv
          cases r with
          | nil => simp [zipV] at hv
          | cons b r =>
            simp only [List.map_cons, List.drop_succ_cons, List.drop_zero, zipV, List.mem_cons] at hv
            rcases hv with rfl | hv
            · exact ⟨a, b, rfl, (List.pairwise_cons.mp hp).1 b List.mem_cons_self⟩
            · exact ih (List.pairwise_cons.mp hp).2 (by simpa using hv)
      obtain ⟨a, b, rfl, hab⟩ := hz gs h.srt hv
      refine ⟨_, rfl, ?_⟩
      simp [eB, eV, bindR, optR, wipeE, pV, fLtT, intsOf_pair, lex2 hab]
  simp [b_need_house, gh, startE, sSeq, sIf, sAsg, gT, gCons', gN, gNil', eOrT, eNotT, eTest, eIsi, eBf, eCons, eNil, eAnd, sRet, bindR, bindS, eV, eC, eB, isTy, optR, e0, e1, e2, e3, fNeA, sSkip, eCall, is_whole_ok, h.lo, h.hi, fGt_eq, h16, fAll_true, -List.map_map]
theorem enum_mem : ∀ {xs : List Val} {n : Nat} {v : Val}, v ∈ enumV n xs → ∃ k : Nat, ∃ x, v = .tup [.int k, x] ∧ x ∈ xs
  | [], _, _, h => by simp [enumV] at h
  | x :: xs, n, v, h => by
    rw [enumV, List.mem_cons] at h
    rcases h with rfl | h
    · exact ⟨n, x, rfl, List.mem_cons_self⟩
    · obtain ⟨k, y, e, hy⟩ := enum_mem h
      exact ⟨k, y, e, List.mem_cons_of_mem _ hy⟩
theorem fault_ok {st : Sto} {cs : List Int} {n : Int} (hn : n = cs.length) (hl : cs.length ≤ 1000) (h : ∀ c, c ∈ cs → 0 ≤ c ∧ c ≤ 10 ^ 30) : m_numbers_fault [.tup (cs.map .int), .int n] st = .ok (.lst []) st := by
  refine runF_same ?_ rfl
  have hl2 : cs.length ≤ sizeLine := by rw [sizeLine_eq]; omega
  have e1 : ∀ st : Sto, fLen st [.tup (cs.map Val.int)] = some (.int cs.length) := fun st => by simp [fLen, seqOf, dr, hl2]
  have loop : ∀ (vs : List Val) (x y : Option Val), (∀ v, v ∈ vs → ∃ k : Nat, ∃ c : Int, v = .tup [.int k, .int c] ∧ 0 ≤ c ∧ c ≤ 10 ^ 30) → ∃ x' y',
      forL (gT 2 (gCons' (gN 2) (gCons' (gN 3) gNil'))) (sIf (eNotT (eTest (eCall 3 m_is_whole (eCons (eV 3) (eCons (eC (.int 0)) (eCons (eC (.int (1000000000000000000000000000000))) eNil)))))) (sRet (eLst (eCons (eV 2) eNil))) sSkip) vs [some (.tup (cs.map .int)), some (.int n), x, y] st = .nx [some (.tup (cs.map .int)), some (.int n), x', y'] st := fun vs => by
    induction vs with
    | nil => intro x y _; exact ⟨x, y, rfl⟩
    | cons v vs ih =>
      intro x y hv
      obtain ⟨k, c, rfl, h1, h2⟩ := hv v List.mem_cons_self
      have h3 : c ≤ 1000000000000000000000000000000 := by omega
      obtain ⟨x', y', e⟩ := ih (some (.int k)) (some (.int c)) fun w hw => hv w (List.mem_cons_of_mem _ hw)
      refine ⟨x', y', ?_⟩
      rw [← e]
      conv => lhs; unfold forL
      simp [gT, gCons', gN, gNil', sIf, eNotT, eTest, eCall, eCons, eNil, eV, eC, bindR, bindS, is_whole_ok, h1, h3, sSkip]
  obtain ⟨x', y', e2⟩ := loop (enumV 0 (cs.map .int)) none none fun v hv => by
    obtain ⟨k, x, e, hx⟩ := enum_mem hv
    obtain ⟨c, hc, rfl⟩ := List.mem_map.mp hx
    exact ⟨k, c, e, h c hc⟩
  simp [b_numbers_fault, startE, sSeq, sIf, eOrT, eNotT, eTest, eIsi, eBf, eCons, eNil, sRet, bindR, bindS, eV, eC, eB, isTy, optR, e1, fNeA, sSkip, hn, sFor, itEnum, eLst]
  rw [← hn, e2]
theorem need_counts_ok {st : Sto} {rooms : Int} {gs : List (Int × Int)} {cs : List Int} (h : GoodH rooms gs) (hc : GoodC gs cs) : m_need_counts [gh rooms gs, .tup (cs.map .int)] st = .ok (.tup (cs.map .int)) st := by
  refine runF_same ?_ (bel_ints cs)
  have hl : gs.length ≤ sizeLine := by have := h.len; rw [sizeLine_eq]; omega
  have e1 : ∀ st : Sto, fLen st [.tup (gs.map pV)] = some (.int gs.length) := fun st => by simp [fLen, seqOf, dr, hl]
  have e2 : ∀ st : Sto, fIx st (gh rooms gs) (.int 1) = some (.tup (gs.map pV)) := fun st => ix_tup (by decide) rfl
  have e3 : ∀ st : Sto, m_numbers_fault [.tup (cs.map .int), .int gs.length] st = .ok (.lst []) st := fun st => fault_ok (by rw [hc.len]) (by have := h.len; have := hc.len; omega) hc.at_
  simp [b_need_counts, startE, sSeq, sFor, itV, eCall, eCons, eNil, eV, eB, eC, eBf, bindR, bindS, optR, need_house_ok h, e1, e2, e3, forL, sRet]
def numsW (ns : List Int) : List Nat := if ns = [] then [45] else TL.joinL [32] (ns.map wI)
theorem str_minus : ("-" : Str) = nS [45] := by decide
theorem strsOf_map {α : Type} (f : α → Str) : ∀ xs : List α, strsOf (xs.map fun x => .str (f x)) = some (xs.map f)
  | [] => rfl
  | x :: xs => by rw [List.map_cons, strsOf, strsOf_map f xs]; rfl
theorem fStr_ok {st : Sto} {i : Int} (h1 : -1 ≤ i) (h2 : i ≤ 10 ^ 30) : fStr st [.int i] = some (.str (nS (wI i))) := by
  have h3 : i.natAbs.log2 < 1920 := by
    have h4 : i.natAbs < 2 ^ 100 := by
      have : (2 : Nat) ^ 100 = 1267650600228229401496703205376 := by decide
      omega
    by_cases h0 : i.natAbs = 0
    · rw [h0]; decide
    · have := (Nat.log2_lt h0).mpr h4
      omega
  unfold fStr
  dsimp only
  rw [if_pos h3, iStr_w h1]
theorem join_ok {st : Sto} {c : Nat} {ps : List (List Nat)} (h1 : ps.length ≤ 1000) (h2 : ∀ p, p ∈ ps → p.length ≤ 1000) : fJoin st (.str (nS [c])) (.lst (ps.map fun p => .str (nS p))) = some (.str (nS (TL.joinL [c] ps))) := by
  have e : strsOf (ps.map fun p => Val.str (nS p)) = some (ps.map nS) := strsOf_map nS ps
  have e2 : Txt.join (nS [c]) (ps.map nS) = nS (TL.joinL [c] ps) := SX.join_S [c] ps
  have e3 : ((ps.map nS).map (·.length)).sum ≤ 1000 * 1000 := by
    rw [SX.lens]
    refine Nat.le_trans (sum_le (k := 1000) fun x hx => ?_) ?_
    · obtain ⟨p, hp, rfl⟩ := List.mem_map.mp hx
      exact h2 p hp
    · rw [List.length_map]
      exact Nat.mul_le_mul_right _ h1
  have e4 : (nS [c]).length = 1 := rfl
  simp only [fJoin, seqOf, dr, Option.bind_some, e, e2]
  rw [if_pos]
  rw [e4, List.length_map]
  omega
theorem numbers_text_ok {st : Sto} {ns : List Int} (hl : ns.length ≤ 100) (h : ∀ n, n ∈ ns → -1 ≤ n ∧ n ≤ 10 ^ 30) : m_numbers_text [.tup (ns.map .int)] st = .ok (.str (nS (numsW ns))) st := by
  refine runF_same ?_ rfl
  have hl2 : ns.length ≤ sizeLine := by rw [sizeLine_eq]; omega
  have e1 : ∀ st : Sto, fLen st [.tup (ns.map Val.int)] = some (.int ns.length) := fun st => by simp [fLen, seqOf, dr, hl2]
  have e2 : ∀ x, eLc false [1] (itV (eV 0)) (gN 1) eYes (eBf fStr (eCons (eV 1) eNil)) [some (.tup (ns.map .int)), x] st = .ok (.lst ((ns.map Val.int).map fun v => match v with | .int i => .str (nS (wI i)) | v => v)) st := fun x => by
    refine lc_map (vs := ns.map .int) ?_ (by simp; omega) fun v hv => ?_
    · simp [itV, eV, bindR]
    · obtain ⟨n, hn, rfl⟩ := List.mem_map.mp hv
      refine ⟨_, rfl, ?_⟩
      simp [eBf, eCons, eNil, eV, bindR, wipeE, optR, fStr_ok (h n hn).1 (h n hn).2]
  have e3 : ((ns.map Val.int).map fun v => match v with | .int i => Val.str (nS (wI i)) | v => v) = (ns.map wI).map fun p => .str (nS p) := by
    rw [List.map_map, List.map_map]
    rfl
  rw [e3] at e2
  have e4 := join_ok (st := st) (c := 32) (ps := ns.map wI) (by simp; omega) fun p hp => by
    obtain ⟨n, hn, rfl⟩ := List.mem_map.mp hp
    have := wI_len (h n hn).2
    omega
  by_cases h0 : ns = []
  · subst h0
    simp [b_numbers_text, startE, sRet, eIf, eTest, eB, eBf, eCons, eNil, eV, eC, bindR, bindS, optR, fGt_eq, numsW, fLen, seqOf, dr]
    decide
  · have hp : (0 : Int) < ns.length := by
      have := List.length_pos_iff.mpr h0
      omega
    have hp' : 0 < ns.length := by omega
    simp [b_numbers_text, startE, sRet, eIf, eTest, eB, eBf, eCons, eNil, eV, eC, bindR, bindS, optR, fGt_eq, numsW, h0, e1, hp, hp', eM1, e2, str_blank, e4, -List.map_map]

def rowW (g : Int × Int) : List Nat := TL.joinL [32] [wI g.1, wI g.2]
def houseW (rooms : Int) (gs : List (Int × Int)) : List Nat := TL.joinL [10] (wI rooms :: gs.map rowW)
theorem rowW_len {g : Int × Int} (h1 : g.1 ≤ 10 ^ 30) (h2 : g.2 ≤ 10 ^ 30) : (rowW g).length ≤ 100 := by
  have a := wI_len h1
  have b := wI_len h2
  have := joinL_len 32 [wI g.1, wI g.2]
  unfold rowW
  simp at this ⊢
  omega
theorem GoodH.small {rooms : Int} {gs : List (Int × Int)} (h : GoodH rooms gs) {g : Int × Int} (hg : g ∈ gs) : -1 ≤ g.1 ∧ g.1 ≤ 10 ^ 30 ∧ -1 ≤ g.2 ∧ g.2 ≤ 10 ^ 30 := by
  have := h.at_ g hg
  have := h.hi
  omega
theorem house_text_ok {st : Sto} {rooms : Int} {gs : List (Int × Int)} (h : GoodH rooms gs) : m_house_text [gh rooms gs] st = .ok (.str (nS (houseW rooms gs))) st := by
  refine runF_same ?_ rfl
  have hl : gs.length ≤ 16 := h.len
  have e2 : ∀ x, eLc false [3] (itV (eV 2)) (gN 3) eYes (eCall 1 m_numbers_text (eCons (eV 3) eNil)) [some (gh rooms gs), some (.int rooms), some (.tup (gs.map pV)), x] st = .ok (.lst ((gs.map pV).map fun v => match v with | .tup [.int a, .int b] => .str (nS (rowW (a, b))) | v => v)) st := fun x => by
    refine lc_map (vs := gs.map pV) ?_ (by simp; omega) fun v hv => ?_
    · simp [itV, eV, bindR]
    · obtain ⟨g, hg, rfl⟩ := List.mem_map.mp hv
      refine ⟨_, rfl, ?_⟩
      obtain ⟨h1, h2, h3, h4⟩ := h.small hg
      have e : m_numbers_text [pV g] st = .ok (.str (nS (rowW g))) st := numbers_text_ok (ns := [g.1, g.2]) (by simp) (by simp; omega)
      simp [eCall, eCons, eNil, eV, bindR, wipeE, e]
      rfl
  have e3 : ((gs.map pV).map fun v => match v with | .tup [.int a, .int b] => Val.str (nS (rowW (a, b))) | v => v) = (gs.map rowW).map fun p => .str (nS p) := by
    rw [List.map_map, List.map_map]
    rfl
  rw [e3] at e2
  have e4 := join_ok (st := st) (c := 10) (ps := wI rooms :: gs.map rowW) (by simp; omega) fun p hp => by
    rcases List.mem_cons.mp hp with rfl | hp
    · have := wI_len (i := rooms) (by have := h.hi; omega)
      omega
    · obtain ⟨g, hg, rfl⟩ := List.mem_map.mp hp
      obtain ⟨h1, h2, h3, h4⟩ := h.small hg
      have := rowW_len h2 h4
      omega
  rw [List.map_cons] at e4
  have e5 : fStr st [.int rooms] = some (.str (nS (wI rooms))) := fStr_ok (by have := h.lo; omega) (by have := h.hi; omega)
  have e6 : fAdd st (.lst [.str (nS (wI rooms))]) (.lst ((gs.map rowW).map fun p => .str (nS p))) = some (.lst (.str (nS (wI rooms)) :: (gs.map rowW).map fun p => .str (nS p))) := by
    simp only [fAdd, lstOf, dr]
    rw [if_pos (by simp [sizeLine_eq]; omega)]
    rfl
  unfold gh at e2
  simp [b_house_text, gh, startE, sSeq, sAsg, gT, gCons', gN, gNil', sRet, eCall, eB, eBf, eM1, eLst, eCons, eNil, eV, eC, bindR, bindS, optR, one_le, e5, -List.map_map]
  have nh : m_need_house [.tup [.int rooms, .tup (gs.map pV)]] st = .ok (.tup [.int rooms, .tup (gs.map pV)]) st := need_house_ok h
  simp [nh, e2, e5, e6, one_le, str_line, e4, houseW, -List.map_map]
theorem counts_text_ok {st : Sto} {rooms : Int} {gs : List (Int × Int)} {cs : List Int} (h : GoodH rooms gs) (hc : GoodC gs cs) : m_counts_text [gh rooms gs, .tup (cs.map .int)] st = .ok (.str (nS (numsW cs))) st := by
  refine runF_same ?_ rfl
  have e : m_numbers_text [.tup (cs.map .int)] st = .ok (.str (nS (numsW cs))) st := numbers_text_ok (by have := hc.len; have := h.len; omega) fun n hn => by have := hc.at_ n hn; omega
  simp [b_counts_text, startE, sRet, eCall, eCons, eNil, eV, bindR, bindS, need_counts_ok h hc, e]
theorem need_string_ok {st : Sto} (z : Str) : m_need_string [.str z] st = .ok .non st := by
  refine runF_nx (ρ := [some (.str z)]) ?_
  simp [b_need_string, startE, sIf, eNotT, eTest, eIsi, eV, bindR, bindS, isTy, sSkip]
theorem fig_all : ([48, 49, 50, 51, 52, 53, 54, 55, 56, 57].all fun c => !(Builtin.Str.occurrences ("0123456789" : Str) ⟨#[c]⟩ 0 ("0123456789" : Str).length 1).isEmpty) = true := by decide +kernel
theorem fig_ok {st : Sto} {c : Nat} (h : 48 ≤ c ∧ c ≤ 57) : fIn st (.str ⟨#[c]⟩) (.str "0123456789") = some (.bl true) := by
  have hm : c ∈ [48, 49, 50, 51, 52, 53, 54, 55, 56, 57] := by simp; omega
  have e := List.all_eq_true.mp fig_all c hm
  show some (Val.bl (!(Builtin.Str.occurrences ("0123456789" : Str) ⟨#[c]⟩ 0 ("0123456789" : Str).length 1).isEmpty)) = _
  rw [e]
theorem number_in_ok {st : Sto} {n : Nat} (h : (n : Int) ≤ 10 ^ 30) : m_number_in [.str (nS (TL.numL n))] st = .ok (.int n) st := by
  refine runF_same ?_ rfl
  have hlen : (TL.numL n).length ≤ 31 := TL.numL_len (by decide) (by omega)
  have hpos : 0 < (TL.numL n).length := List.length_pos_iff.mpr (TL.numL_ne n)
  have hls : (nS (TL.numL n)).length = (TL.numL n).length := SX.S_len _
  have e1 : ∀ st : Sto, fLen st [.str (nS (TL.numL n))] = some (.int (TL.numL n).length) := fun st => by
    simp only [fLen, hls]
    rw [if_pos (by rw [sizeLine_eq]; omega)]
  have h1 : (1 : Int) ≤ (TL.numL n).length := by omega
  have h31 : ((TL.numL n).length : Int) ≤ 31 := by omega
  have e2 : ∀ x, eLc false [1] (itV (eV 0)) (gN 1) eYes (eB fIn (eV 1) (eC (.str "0123456789"))) [some (.str (nS (TL.numL n))), x] st = .ok (.lst ((strV (nS (TL.numL n))).map fun _ => .bl true)) st := fun x => by
    refine lc_map (vs := strV (nS (TL.numL n))) ?_ (by simp [strV]; omega) fun v hv => ?_
    · simp [itV, eV, bindR]
    · obtain ⟨c, hc, rfl⟩ := List.mem_map.mp hv
      refine ⟨_, rfl, ?_⟩
      have e := fig_ok (st := st) (TL.numL_digits n c (by simpa using hc))
      simp [eB, eV, eC, bindR, optR, wipeE, e]
  have e3 : fIntA st [.str (nS (TL.numL n))] = some (.int n) := by
    have e : nS (TL.numL n) = Str.ofString (toString ((n : Nat) : Int)) := (SX.num_S n).symm
    unfold fIntA
    dsimp only
    rw [if_pos (by rw [hls]; omega), e, TL.int_num (by omega)]
    rfl
  have pre : ∀ (b : Bool), (∀ x, (eOrT (eTest (eB fEqA (eV 0) (eC (.str "0")))) (eTest (eB fNeA (eB fIx (eV 0) (eC (.int 0))) (eC (.str "0"))))) [some (.str (nS (TL.numL n))), x] st = .ok true st) → b_number_in (startE 2 [.str (nS (TL.numL n))]) st = .rt (.int n) st := fun _ h => by
    unfold b_number_in
    generalize eOrT (eTest (eB fEqA (eV 0) (eC (.str "0")))) (eTest (eB fNeA (eB fIx (eV 0) (eC (.int 0))) (eC (.str "0")))) = t2 at h ⊢
    simp [startE, sSeq, sIf, sRet, eIf, eBf, eCons, eNil, eNotT, h, sSkip, bindR, bindS, optR, eOrT, eTest, eChain, eV, eC, e1, e2, e3, fLe_eq, h1, h31, fAll_true]
  refine pre true fun x => ?_
  by_cases h0 : n = 0
  · subst h0
    have z : nS (TL.numL 0) = ("0" : Str) := by decide
    simp [eOrT, eTest, eB, eV, eC, bindR, optR, fEqA, z]
  · obtain ⟨c, r, e, hc⟩ := numL_head n (by omega)
    have e4 : ∀ st : Sto, fIx st (.str (nS (TL.numL n))) (.int 0) = some (.str ⟨#[c]⟩) := fun st => by
      simp only [fIx, seqOf, dr]
      rw [if_pos (by rw [hls, sizeLine_eq]; omega)]
      rw [e]
      show Option.map _ (L2.atI (c :: r) 0) = _
      rw [atI_ok (by decide) (by simp)]
      rfl
    have e5 : ∀ b : Bool, (if b = true then Res.ok true st else Res.ok true st) = Res.ok true st := fun b => by cases b <;> rfl
    have e6 : (⟨#[c]⟩ : Str) ≠ ("0" : Str) := fun z => hc (by
      have z2 := congrArg (fun x : Str => x.cps.toList) z
      exact (List.cons.inj z2).1)
    simp [eOrT, eTest, eB, eV, eC, bindR, optR, fEqA, fNeA, e4, e6]

theorem app_get (st : Sto) (o : Ob) : (st ++ [o])[st.length]? = some o := by simp
theorem app_set (st : Sto) (o p : Ob) : (st ++ [o]).set st.length p = st ++ [p] := by simp
theorem fAppend_ok {st : Sto} {xs : List Val} {w : Val} (h : xs.length ≤ 1000) : fAppend st xs [w] = some (.non, xs ++ [w]) := by
  unfold fAppend
  dsimp only
  rw [if_pos (by rw [sizeLine_eq]; omega)]
theorem split_ok {st : Sto} {c : Nat} (hc : c < 256) {ps : List (List Nat)} (hne : ps ≠ []) (h : ∀ p, p ∈ ps → c ∉ p) (hl : (TL.joinL [c] ps).length ≤ 100000) : fSplit st (.str (nS (TL.joinL [c] ps))) (.str (nS [c])) = some (.lst (ps.map fun p => .str (nS p))) := by
  unfold fSplit
  dsimp only
  rw [if_pos ⟨by rw [SX.S_len]; exact Nat.one_ne_zero, by rw [SX.S_len, sizeLine_eq]; omega⟩, split_join hc hne h, List.map_map]
  rfl
theorem minus1 : ("-1" : Str) = nS [45, 49] := by decide
theorem word_ok {ρ : Ev.Env} {st : Sto} {i : Int} (hρ : ρ[4]? = some (some (.str (nS (wI i))))) (h1 : -1 ≤ i) (h2 : i ≤ 10 ^ 30) : eIf (eTest (eB fEqA (eV 4) (eC (.str "-1")))) (fNeg (eC (.int 1))) (eCall 1 m_number_in (eCons (eV 4) eNil)) ρ st = .ok (.int i) st := by
  by_cases h0 : i < 0
  · have e : i = -1 := by omega
    subst e
    have e2 : nS (wI (-1)) = ("-1" : Str) := by decide
    simp [eIf, eTest, eB, eV, eC, bindR, optR, hρ, fEqA, e2, fNeg]
  · obtain ⟨n, rfl⟩ := Int.eq_ofNat_of_zero_le (show 0 ≤ i by omega)
    rw [wI_nat] at hρ
    have e2 : nS (TL.numL n) ≠ ("-1" : Str) := fun z => by
      rw [minus1] at z
      have := SX.S_inj z
      have h3 : 45 ∈ TL.numL n := by rw [this]; simp
      have := TL.numL_digits n 45 h3
      omega
    simp [eIf, eTest, eB, eV, eC, bindR, optR, hρ, fEqA, e2, eCall, eCons, eNil, number_in_ok h2]
theorem places_in_ok {st : Sto} {g : Int × Int} {line : Val} (h1 : -1 ≤ g.1) (h2 : g.1 ≤ 10 ^ 30) (h3 : -1 ≤ g.2) (h4 : g.2 ≤ 10 ^ 30) : m_places_in [.str (nS (rowW g)), line] st = .ok (pV g) st := by
  have key : b_places_in (startE 6 [.str (nS (rowW g)), line]) st = .rt (pV g) (st ++ [.lst [.int g.1, .int g.2]]) := by
    have hs : ∀ st : Sto, fSplit st (.str (nS (rowW g))) (.str (nS [32])) = some (.lst [.str (nS (wI g.1)), .str (nS (wI g.2))]) := fun st => split_ok (by decide) (by simp) (fun p hp => by
      simp only [List.mem_cons, List.not_mem_nil, or_false] at hp
      intro hc
      rcases hp with rfl | rfl <;> have := wI_signs hc <;> omega) (by have := rowW_len h2 h4; unfold rowW at this; omega)
    have w1 : ∀ (a b c d e : Option Val) (st : Sto), eIf (eTest (eB fEqA (eV 4) (eC (.str "-1")))) (fNeg (eC (.int 1))) (eCall 1 m_number_in (eCons (eV 4) eNil)) [a, b, c, d, some (.str (nS (wI g.1))), e] st = .ok (.int g.1) st := fun a b c d e st => word_ok rfl h1 h2
    have w2 : ∀ (a b c d e : Option Val) (st : Sto), eIf (eTest (eB fEqA (eV 4) (eC (.str "-1")))) (fNeg (eC (.int 1))) (eCall 1 m_number_in (eCons (eV 4) eNil)) [a, b, c, d, some (.str (nS (wI g.2))), e] st = .ok (.int g.2) st := fun a b c d e st => word_ok rfl h3 h4
    unfold b_places_in
    generalize eIf (eTest (eB fEqA (eV 4) (eC (.str "-1")))) (fNeg (eC (.int 1))) (eCall 1 m_number_in (eCons (eV 4) eNil)) = W at w1 w2 ⊢
    simp [startE, sSeq, sSet, eNew, eNil, bindS, bindR, sFor, itEnum, eM1, eV, eC, eCons, str_blank, hs, optR, enumV, forL, gT, gCons', gN, gNil', w1, w2, sIf, eOrT, eTest, eB, fIs, fGt_eq, sSkip, sExpr, eLm, app_get, app_set, fAppend_ok, eBf, fLen, two_le, fLtT_eq, sRet, fTuple, seqOf, dr, pV]
  exact runF_rt key ⟨_, rfl⟩ rfl
theorem split_one {st : Sto} {c : Nat} {p : List Nat} (hc : c < 256) (h : c ∉ p) (hl : p.length ≤ 100000) : fSplit st (.str (nS p)) (.str (nS [c])) = some (.lst [.str (nS p)]) := by
  have := split_ok (st := st) hc (ps := [p]) (by simp) (by simpa using h) (by simpa [TL.joinL] using hl)
  exact this
theorem houseW_len {rooms : Int} {gs : List (Int × Int)} (h : GoodH rooms gs) : (houseW rooms gs).length ≤ 10000 := by
  have a := joinL_len 10 (wI rooms :: gs.map rowW)
  have b : ((wI rooms :: gs.map rowW).map (·.length)).sum ≤ (wI rooms :: gs.map rowW).length * 100 := by
    have := sum_le (l := (wI rooms :: gs.map rowW).map (·.length)) (k := 100) fun x hx => by
      obtain ⟨p, hp, rfl⟩ := List.mem_map.mp hx
      rcases List.mem_cons.mp hp with rfl | hp
      · have := wI_len (i := rooms) (by have := h.hi; omega)
        omega
      · obtain ⟨g, hg, rfl⟩ := List.mem_map.mp hp
        obtain ⟨h1, h2, h3, h4⟩ := h.small hg
        exact rowW_len h2 h4
    rwa [List.length_map] at this
  have := h.len
  simp at a b
  unfold houseW
  omega
theorem rowW_no {g : Int × Int} {c : Nat} (h : c ≠ 32) (h2 : c ≠ 45) (h3 : c < 48) : c ∉ rowW g := fun hc => by
  rcases mem_joinL hc with e | ⟨p, hp, hc⟩
  · exact h e
  · simp only [List.mem_cons, List.not_mem_nil, or_false] at hp
    rcases hp with rfl | rfl <;> have := wI_signs hc <;> omega
theorem read_house_ok {st : Sto} {rooms : Int} {gs : List (Int × Int)} (h : GoodH rooms gs) : m_read_house [.str (nS (houseW rooms gs))] st = .ok (gh rooms gs) st := by
  refine runF_same ?_ bel_gh
  have hl := h.len
  have hr1 := h.lo
  have hr2 := h.hi
  obtain ⟨n, hn⟩ := Int.eq_ofNat_of_zero_le (show 0 ≤ rooms by omega)
  have hs : ∀ st : Sto, fSplit st (.str (nS (houseW rooms gs))) (.str (nS [10])) = some (.lst (.str (nS (wI rooms)) :: (gs.map rowW).map fun p => .str (nS p))) := fun st => by
    have := split_ok (st := st) (c := 10) (by decide) (ps := wI rooms :: gs.map rowW) (by simp) (fun p hp => by
      rcases List.mem_cons.mp hp with rfl | hp
      · intro hc; have := wI_signs hc; omega
      · obtain ⟨g, hg, rfl⟩ := List.mem_map.mp hp
        exact rowW_no (by decide) (by decide) (by decide)) (by have := houseW_len h; unfold houseW at this; omega)
    exact this
  have hs2 : ∀ st : Sto, fSplit st (.str (nS (wI rooms))) (.str (nS [32])) = some (.lst [.str (nS (wI rooms))]) := fun st => split_one (by decide) (fun hc => by have := wI_signs hc; omega) (by have := wI_len (i := rooms) (by omega); omega)
  have hnum : ∀ st : Sto, m_number_in [.str (nS (wI rooms))] st = .ok (.int rooms) st := fun st => by
    rw [hn]
    rw [wI_nat]
    exact number_in_ok (by omega)
  have i0 : ∀ (st : Sto) (x : Val) (xs : List Val), fIx st (.lst (x :: xs)) (.int 0) = some x := fun st x xs => ix_lst (by decide) rfl
  have e2 : ∀ x y z w, eLc false [4, 5] (itEnum (eCons (eSl (eV 1) (oSome (eC (.int 1))) oNone) eNil)) (gT 2 (gCons' (gN 4) (gCons' (gN 5) gNil'))) eYes (eCall 2 m_places_in (eCons (eV 5) (eCons (eB fAdd (eV 4) (eC (.int 1))) eNil))) [x, some (.lst (.str (nS (wI rooms)) :: (gs.map rowW).map fun p => .str (nS p))), y, none, z, w] st
      = .ok (.lst (gs.map pV)) st := fun x y z w => by
    have e := lc_map (own := [4, 5]) (it := itEnum (eCons (eSl (eV 1) (oSome (eC (.int 1))) oNone) eNil)) (g := gT 2 (gCons' (gN 4) (gCons' (gN 5) gNil'))) (e := eCall 2 m_places_in (eCons (eV 5) (eCons (eB fAdd (eV 4) (eC (.int 1))) eNil)))
      (ρ := [x, some (.lst (.str (nS (wI rooms)) :: (gs.map rowW).map fun p => .str (nS p))), y, none, z, w]) (st := st) (vs := enumV 0 ((gs.map rowW).map fun p => .str (nS p))) (f := fun v => match v with | .tup [.int k, _] => (gs.map pV).getD k.toNat .non | v => v) ?_ (by rw [enumV_len]; simp; omega) ?_
    · rw [e]
      have z : ∀ (gs : List (Int × Int)) (k : Nat) (all : List Val), (∀ j, (gs.map pV)[j]? = all[k + j]?) → (enumV k ((gs.map rowW).map fun p => Val.str (nS p))).map (fun v => match v with | .tup [.int k, _] => all.getD k.toNat .non | v => v) = gs.map pV := fun gs => by
        induction gs with
        | nil => intro k all _; rfl
        | cons g gs ih =>
          intro k all ha
          have h0 := ha 0
          simp only [List.map_cons, List.getElem?_cons_zero, Nat.add_zero] at h0
          simp only [List.map_cons, enumV, Int.toNat_natCast]
          rw [ih (k + 1) all fun j => by
            have := ha (j + 1)
            rw [List.map_cons, List.getElem?_cons_succ] at this
            rw [this, show k + (j + 1) = k + 1 + j by omega]]
          rw [List.getD_eq_getElem?_getD, ← h0]
          rfl
      rw [z gs 0 (gs.map pV) fun j => by rw [Nat.zero_add]]
    · simp [itEnum, eCons, eNil, eSl, oSome, oNone, eV, eC, bindR, lstOf, dr, cut_tail]
    · intro v hv
      have z : ∀ (gs : List (Int × Int)) (k : Nat), v ∈ enumV k ((gs.map rowW).map fun p => Val.str (nS p)) → ∃ j g, gs[j]? = some g ∧ v = .tup [.int ((k + j : Nat) : Int), .str (nS (rowW g))] := fun gs => by
        induction gs with
        | nil => intro k hv; simp [enumV] at hv
        | cons g gs ih =>
          intro k hv
          simp only [List.map_cons, enumV, List.mem_cons] at hv
          rcases hv with rfl | hv
          · exact ⟨0, g, rfl, rfl⟩
          · obtain ⟨j, g', h1, h2⟩ := ih (k + 1) hv
            exact ⟨j + 1, g', by rw [List.getElem?_cons_succ]; exact h1, by rw [h2, show k + 1 + j = k + (j + 1) by omega]⟩
      obtain ⟨j, g, hj, rfl⟩ := z gs 0 hv
      have hg : g ∈ gs := List.mem_of_getElem? hj
      obtain ⟨h1, h2, h3, h4⟩ := h.small hg
      refine ⟨_, rfl, ?_⟩
      simp [eCall, eCons, eNil, eB, eV, eC, bindR, optR, wipeE, fAdd_int, places_in_ok h1 h2 h3 h4, hj]
  have nh : m_need_house [.tup [.int rooms, .tup (gs.map pV)]] st = .ok (.tup [.int rooms, .tup (gs.map pV)]) st := need_house_ok h
  unfold b_read_house
  generalize eLc false [4, 5] (itEnum (eCons (eSl (eV 1) (oSome (eC (.int 1))) oNone) eNil)) (gT 2 (gCons' (gN 4) (gCons' (gN 5) gNil'))) eYes (eCall 2 m_places_in (eCons (eV 5) (eCons (eB fAdd (eV 4) (eC (.int 1))) eNil))) = L at e2 ⊢
  simp [startE, sSeq, sSet, sExpr, eCall, eCons, eNil, eV, eC, eB, bindS, bindR, need_string_ok, eM1, str_line, str_blank, hs, hs2, optR, i0, sIf, eTest, hnum, fIs, sSkip, eBf, fLen, seqOf, dr, one_le, fGt_eq, e2, sRet, eTup, fTuple, two_le, nh, gh, -List.map_map]
end K12

set_option Elab.async false
set_option linter.all false
set_option maxRecDepth 100000
set_option maxHeartbeats 2000000
namespace K12
open PySem PySem.Spec PyProof.Rows L2 Ev
theorem numbers_in_ok {st : Sto} {cs : List Int} (hl : cs.length ≤ 100) (h : ∀ c, c ∈ cs → 0 ≤ c ∧ c ≤ 10 ^ 30) : m_numbers_in [.lst ((if cs = [] then [[45]] else cs.map wI).map fun p => .str (nS p))] st = .ok (.tup (cs.map .int)) st := by
  have i0 : ∀ (st : Sto) (x : Val) (xs : List Val), fIx st (.lst (x :: xs)) (.int 0) = some x := fun st x xs => ix_lst (by decide) rfl
  by_cases h0 : cs = []
  · subst h0
    refine runF_same ?_ rfl
    have z : nS [45] = ("-" : Str) := by decide
    simp [b_numbers_in, startE, sSeq, sIf, eTest, eB, eV, eC, bindR, bindS, optR, i0, fEqA, z, eBf, eCons, eNil, fLen, seqOf, dr, fGt_eq, sSkip, sRet, eTup]
  · rw [if_neg h0]
    have loop : ∀ (cs : List Int) (k : Nat) (acc : List Int) (w : Val) (x y z : Option Val), acc.length + cs.length ≤ 100 → (∀ c, c ∈ cs → 0 ≤ c ∧ c ≤ 10 ^ 30) → ∃ x' y' z',
        forL (gT 2 (gCons' (gN 2) (gCons' (gN 3) gNil'))) (sSeq (sSet 4 (eCall 1 m_number_in (eCons (eV 3) eNil))) (sSeq (sIf (eTest (eB fIs (eV 4) (eC .non))) sBad sSkip) (sExpr (eLm fAppend (eV 1) (eCons (eV 4) eNil)))))
          (enumV k ((cs.map wI).map fun p => .str (nS p))) [some w, some (.loc st.length), x, y, z] (st ++ [.lst (acc.map .int)]) = .nx [some w, some (.loc st.length), x', y', z'] (st ++ [.lst ((acc ++ cs).map .int)]) := fun cs => by
      induction cs with
      | nil => intro k acc w x y z _ _; exact ⟨x, y, z, by rw [List.append_nil]; rfl⟩
      | cons c cs ih =>
        intro k acc w x y z hl hc
        obtain ⟨h1, h2⟩ := hc c List.mem_cons_self
        obtain ⟨n, rfl⟩ := Int.eq_ofNat_of_zero_le h1
        have hn : ∀ st : Sto, m_number_in [.str (nS (wI (n : Int)))] st = .ok (.int n) st := fun st => by rw [wI_nat]; exact number_in_ok h2
        obtain ⟨x', y', z', e⟩ := ih (k + 1) (acc ++ [(n : Int)]) w (some (.int k)) (some (.str (nS (wI (n : Int))))) (some (.int n)) (by simp at hl ⊢; omega) fun c hc' => hc c (List.mem_cons_of_mem _ hc')
        refine ⟨x', y', z', ?_⟩
        rw [List.append_assoc, List.singleton_append] at e
        rw [← e]
        conv => lhs; simp only [List.map_cons, enumV]; unfold forL
        have ha : ∀ w : Val, fAppend (st ++ [.lst (acc.map Val.int)]) (acc.map .int) [w] = some (.non, acc.map .int ++ [w]) := fun w => fAppend_ok (by simp at hl ⊢; omega)
        simp [gT, gCons', gN, gNil', sSeq, sSet, eCall, eCons, eNil, eV, bindR, bindS, hn, sIf, eTest, eB, eC, optR, fIs, sSkip, sExpr, eLm, app_get, app_set, ha, -List.map_map]
    obtain ⟨c, r, rfl⟩ := List.exists_cons_of_ne_nil h0
    obtain ⟨h1, h2⟩ := h c List.mem_cons_self
    have hm : nS (wI c) ≠ ("-" : Str) := fun z => by
      rw [str_minus] at z
      have z := SX.S_inj z
      obtain ⟨n, rfl⟩ := Int.eq_ofNat_of_zero_le h1
      rw [wI_nat] at z
      have := TL.numL_digits n 45 (by rw [z]; simp)
      omega
    obtain ⟨x', y', z', e⟩ := loop (c :: r) 0 [] (.lst (((c :: r).map wI).map fun p => .str (nS p))) none none none (by simpa using hl) h
    have key : b_numbers_in (startE 5 [.lst (((c :: r).map wI).map fun p => .str (nS p))]) st = .rt (.tup ((c :: r).map .int)) (st ++ [.lst ((c :: r).map .int)]) := by
      have e1 : ∀ st : Sto, fIx st (.lst (((c :: r).map wI).map fun p => .str (nS p))) (.int 0) = some (.str (nS (wI c))) := fun st => i0 _ _ _
      rw [List.nil_append] at e
      generalize (((c :: r).map wI).map fun p => Val.str (nS p)) = ps at e e1 ⊢
      rw [List.map_nil] at e
      generalize (c :: r).map Val.int = is at e ⊢
      simp [b_numbers_in, startE, sSeq, sIf, eTest, eB, eV, eC, bindR, bindS, optR, e1, fEqA, hm, sSkip, sSet, eNew, eNil, eCons, sFor, itEnum, e, sRet, eBf, fTuple, seqOf, dr]
    exact runF_rt key ⟨_, rfl⟩ (bel_ints _)
theorem numsW_len {cs : List Int} (hl : cs.length ≤ 100) (h : ∀ c, c ∈ cs → 0 ≤ c ∧ c ≤ 10 ^ 30) : (numsW cs).length ≤ 10000 := by
  unfold numsW
  split
  · decide
  · have a := joinL_len 32 (cs.map wI)
    have b := sum_le (l := (cs.map wI).map (·.length)) (k := 31) fun x hx => by
      obtain ⟨p, hp, rfl⟩ := List.mem_map.mp hx
      obtain ⟨c, hc, rfl⟩ := List.mem_map.mp hp
      exact wI_len (h c hc).2
    simp only [List.length_map] at a b
    omega
theorem read_counts_ok {st : Sto} {rooms : Int} {gs : List (Int × Int)} {cs : List Int} (h : GoodH rooms gs) (hc : GoodC gs cs) : m_read_counts [gh rooms gs, .str (nS (numsW cs))] st = .ok (.tup (cs.map .int)) st := by
  refine runF_same ?_ (bel_ints cs)
  have hl : cs.length ≤ 100 := by have := hc.len; have := h.len; omega
  have i0 : ∀ (st : Sto) (x : Val) (xs : List Val), fIx st (.lst (x :: xs)) (.int 0) = some x := fun st x xs => ix_lst (by decide) rfl
  have hs : ∀ st : Sto, fSplit st (.str (nS (numsW cs))) (.str (nS [10])) = some (.lst [.str (nS (numsW cs))]) := fun st => split_one (by decide) (fun hc' => by
    unfold numsW at hc'
    split at hc'
    · simp at hc'
    · rcases mem_joinL hc' with e | ⟨p, hp, hq⟩
      · omega
      · obtain ⟨c, _, rfl⟩ := List.mem_map.mp hp
        have := wI_signs hq
        omega) (by have := numsW_len hl hc.at_; omega)
  have hs2 : ∀ st : Sto, fSplit st (.str (nS (numsW cs))) (.str (nS [32])) = some (.lst ((if cs = [] then [[45]] else cs.map wI).map fun p => .str (nS p))) := fun st => by
    by_cases h0 : cs = []
    · subst h0
      exact split_one (p := [45]) (by decide) (by decide) (by decide)
    · have e : numsW cs = TL.joinL [32] (cs.map wI) := if_neg h0
      rw [if_neg h0, e]
      refine split_ok (by decide) (by simpa using h0) (fun p hp hq => ?_) (by have := numsW_len hl hc.at_; rw [e] at this; omega)
      obtain ⟨c, _, rfl⟩ := List.mem_map.mp hp
      have := wI_signs hq
      omega
  have nn := fun st : Sto => numbers_in_ok (st := st) hl hc.at_
  generalize (Val.lst ((if cs = [] then [[45]] else cs.map wI).map fun p => .str (nS p))) = ws at hs2 nn
  simp [b_read_counts, startE, sSeq, sSet, sExpr, eCall, eCons, eNil, eV, eC, eB, bindS, bindR, need_string_ok, need_house_ok h, eM1, str_line, str_blank, hs, hs2, optR, i0, sIf, eTest, nn, sSkip, eBf, fLen, seqOf, dr, fGt_eq, sRet, need_counts_ok h hc]

structure DrOk (cs : List Int) (a l u : Int) (B : Int) : Prop where
  ne : cs ≠ []
  len : cs.length ≤ 1000
  a0 : 0 ≤ a
  l0 : 0 ≤ l
  u0 : 0 ≤ u
  ub : u ≤ B
theorem next_is : m__law_next = runF 6 nextS := rfl
theorem next2 {cs : List Int} {a l u B many : Int} (rest : Sto) (h : DrOk cs a l u B) (hB : B < 2 ^ 59) (hm : 0 < many) (hmb : many ≤ 10 ^ 40) :
    ∃ r a' l' u', m__law_next [.loc 0, .int many] (drawOb cs a l u :: rest) = .ok (.int r) (drawOb cs a' l' u' :: rest) ∧ 0 ≤ r ∧ r < many ∧ DrOk cs a' l' u' (B + 1) := by
  have hb2 : many.natAbs < 2 ^ 2000 := by
    have h1 : many.natAbs ≤ 10 ^ 40 := by omega
    have h2 : (10 : Nat) ^ 40 < 2 ^ 134 := by decide
    have h3 : (2 : Nat) ^ 134 ≤ 2 ^ 2000 := Nat.pow_le_pow_right (by decide) (by decide)
    omega
  have := h.ub
  obtain ⟨r, a', l', u', e, h1, h2, h3, h4, h5, h6⟩ := next_set (st := drawOb cs a l u :: rest) (d := 0) (many := many) (by simp) h.ne h.len h.a0 h.l0 h.u0 (by omega) hm hb2
  exact ⟨r, a', l', u', e, h1, h2, ⟨h.ne, h.len, h3, h4, h5, by omega⟩⟩
theorem pick_ok {cs : List Int} {a l u B : Int} {xs : List Int} (rest : Sto) (h : DrOk cs a l u B) (hB : B < 2 ^ 59) (hx : xs ≠ []) (hl : xs.length ≤ 1000) :
    ∃ x a' l' u', x ∈ xs ∧ m__law_pick [.loc 0, .lst (xs.map .int)] (drawOb cs a l u :: rest) = .ok (.int x) (drawOb cs a' l' u' :: rest) ∧ DrOk cs a' l' u' (B + 1) := by
  have hp := List.length_pos_iff.mpr hx
  obtain ⟨r, a', l', u', e, h1, h2, h3⟩ := next2 (many := (xs.length : Int)) rest h hB (by omega) (by omega)
  have hr : r.toNat < xs.length := by omega
  refine ⟨xs[r.toNat], a', l', u', List.getElem_mem hr, ?_, h3⟩
  have e1 : ∀ st, fLen st [.lst (xs.map Val.int)] = some (.int xs.length) := fun st => by
    have := fLen_lst (st := st) (xs := xs.map Val.int) (by rw [List.length_map, sizeLine_eq]; omega)
    rwa [List.length_map] at this
  have e2 : ∀ st, fIx st (.lst (xs.map Val.int)) (.int r) = some (.int xs[r.toNat]) := fun st => ix_lst h1 (by rw [List.getElem?_map, List.getElem?_eq_getElem hr]; rfl)
  unfold m__law_pick runF
  have key : b__law_pick (startE 2 [.loc 0, .lst (xs.map .int)]) (drawOb cs a l u :: rest) = .rt (.int xs[r.toNat]) (drawOb cs a' l' u' :: rest) := by
    simp [b__law_pick, startE, sRet, eB, eV, eCall, eCons, eNil, eBf, bindR, bindS, optR, e1, e, e2]
  rw [key]
  show fin _ _ _ = _
  exact fin_set (st := drawOb cs a l u :: rest) (d := 0) bel_draw rfl
end K12

set_option Elab.async false
set_option linter.all false
set_option maxRecDepth 100000
set_option maxHeartbeats 4000000
namespace K12
open PySem PySem.Spec PyProof.Rows L2 Ev
theorem rangeV_length (a : Int) : ∀ n : Nat, (rangeV a n).length = n := by
  intro n
  simp [rangeV]
def kG (g : Int × Int) : List Key := [.inl g.1, .inl g.2]
theorem kG_inj {a b : Int × Int} (h : kG a = kG b) : a = b := by
  have h1 := List.cons.inj h
  have h2 := List.cons.inj h1.2
  exact Prod.ext (Sum.inl.inj h1.1) (Sum.inl.inj h2.1)
def okG (rooms : Int) (g : Int × Int) : Prop := -1 ≤ g.1 ∧ g.1 ≤ rooms - 1 ∧ -1 ≤ g.2 ∧ g.2 ≤ rooms - 1 ∧ g.1 ≠ g.2
structure Found (rooms : Int) (kvs : List (List Key × Val)) (gs : List (Int × Int)) : Prop where
  keys : kvs.map (·.1) = gs.map kG
  nd : gs.Nodup
  len : gs.length ≤ 16
  at_ : ∀ g, g ∈ gs → okG rooms g
theorem Found.klen {rooms : Int} {kvs : List (List Key × Val)} {gs : List (Int × Int)} (h : Found rooms kvs gs) : kvs.length = gs.length := by
  have := congrArg List.length h.keys
  simpa using this
theorem put_found {rooms : Int} {kvs : List (List Key × Val)} {gs : List (Int × Int)} (h : Found rooms kvs gs) (hl : gs.length < 16) {g : Int × Int} (hg : okG rooms g) (v : Val) : ∃ gs', Found rooms (put kvs (kG g) v) gs' := by
  unfold put
  by_cases hm : (kvs.any fun kv => decide (kv.1 = kG g)) = true
  · rw [if_pos hm]
    refine ⟨gs, ?_, h.nd, h.len, h.at_⟩
    rw [← h.keys, List.map_map]
    apply List.map_congr_left
    intro kv _
    show (if kv.1 = kG g then (kv.1, v) else kv).1 = kv.1
    split <;> rfl
  · rw [if_neg hm]
    refine ⟨gs ++ [g], ?_, ?_, ?_, ?_⟩
    · rw [List.map_append, List.map_append, h.keys]
      rfl
    · rw [List.nodup_append]
      refine ⟨h.nd, by simp, fun a ha b hb => ?_⟩
      rw [List.mem_singleton] at hb
      subst hb
      intro e
      subst e
      refine hm ?_
      have : kG a ∈ kvs.map (·.1) := by rw [h.keys]; exact List.mem_map_of_mem ha
      obtain ⟨kv, hk, e⟩ := List.mem_map.mp this
      rw [List.any_eq_true]
      exact ⟨kv, hk, decide_eq_true e⟩
    · simp; omega
    · intro x hx
      rcases List.mem_append.mp hx with hx | hx
      · exact h.at_ x hx
      · rw [List.mem_singleton] at hx
        subst hx
        exact hg
theorem keys_pV {rooms : Int} {kvs : List (List Key × Val)} {gs : List (Int × Int)} (h : Found rooms kvs gs) : (kvs.map fun kv => Val.tup (kv.1.map kVal)) = gs.map pV := by
  have e : (kvs.map fun kv => Val.tup (kv.1.map kVal)) = (kvs.map (·.1)).map fun k => Val.tup (k.map kVal) := by rw [List.map_map]; rfl
  rw [e, h.keys, List.map_map]
  rfl
theorem pairsOf_pV : ∀ gs : List (Int × Int), pairsOf (gs.map pV) = some gs
  | [] => rfl
  | g :: gs => by
    rw [List.map_cons]
    show (pairsOf (gs.map pV)).map _ = _
    rw [pairsOf_pV gs]
    rfl
theorem sorted_pV {st : Sto} (gs : List (Int × Int)) : fSorted st [.lst (gs.map pV)] = some (.lst ((sortP gs).map pV)) := by
  cases gs with
  | nil => simp [fSorted, lstOf, dr, intsOf, sortI, sortP]
  | cons g gs =>
    have e : intsOf ((g :: gs).map pV) = none := rfl
    simp only [fSorted, lstOf, dr, e, pairsOf_pV, Option.map_some]
theorem good_sort {rooms : Int} {kvs : List (List Key × Val)} {gs : List (Int × Int)} (h1 : 1 ≤ rooms) (h8 : rooms ≤ 8) (h : Found rooms kvs gs) : GoodH rooms (sortP gs) := by
  have p : (sortP gs).Perm gs := List.mergeSort_perm gs _
  refine ⟨h1, h8, by rw [p.length_eq]; exact h.len, fun g hg => h.at_ g (p.mem_iff.mp hg), ?_⟩
  have nd : (sortP gs).Nodup := p.nodup_iff.mpr h.nd
  refine ((sortP_pw gs).and nd).imp fun {a b} ⟨hab, hne⟩ => ?_
  rw [leP_iff] at hab
  unfold ltG
  rcases hab with hab | ⟨h1, h2⟩
  · exact .inl hab
  · refine .inr ⟨h1, ?_⟩
    have : a.2 ≠ b.2 := fun e => hne (Prod.ext h1 e)
    omega
theorem other_ok {rooms r1 r2 : Int} (h1 : 0 ≤ r1) (h2 : r1 < rooms + 1) (h3 : 0 ≤ r2) (h4 : r2 < rooms) : ∃ o, (r1 - 1 + 1 + 1 + r2) % (rooms + 1) - 1 = o ∧ -1 ≤ o ∧ o ≤ rooms - 1 ∧ r1 - 1 ≠ o := by
  by_cases h : r1 - 1 + 1 + 1 + r2 < rooms + 1
  · rw [Int.emod_eq_of_lt (by omega) h]
    exact ⟨_, rfl, by omega, by omega, by omega⟩
  · have e : (r1 - 1 + 1 + 1 + r2) % (rooms + 1) = (r1 - 1 + 1 + 1 + r2 - (rooms + 1)) % (rooms + 1) := by rw [Int.sub_emod_right]
    rw [e, Int.emod_eq_of_lt (by omega) (by omega)]
    exact ⟨_, rfl, by omega, by omega, by omega⟩
theorem fSet_dT {d0 : Ob} {kvs : List (List Key × Val)} {a b : Int} {v : Val} (h : kvs.length ≤ 16) : fSet [d0, .dT kvs] (.loc 1) (.tup [.int a, .int b]) v = some [d0, .dT (put kvs (kG (a, b)) v)] := by
  have h2 : kvs.length < sizeLine := by rw [sizeLine_eq]; omega
  simp [fSet, h2, tupOf, keysOf, keyOf, kG]
def houseLoop : S := sSeq (sSet 6 (eB fSub (eCall 2 m__law_next (eCons (eV 0) (eCons (eB fAdd (eV 3) (eC (.int 1))) eNil))) (eC (.int 1))))
  (sSeq (sSet 7 (eB fSub (eB fMod (eBf fIntA (eCons (eB fAdd (eB fAdd (eB fAdd (eV 6) (eC (.int 1))) (eC (.int 1))) (eCall 2 m__law_next (eCons (eV 0) (eCons (eV 3) eNil)))) eNil)) (eB fAdd (eV 3) (eC (.int 1)))) (eC (.int 1))))
  (sSeq (sIf (eTest (eB fLtT (eBf fLen (eCons (eV 4) eNil)) (eV 2))) (sAsg (gIx (eV 4) (eTup (eCons (eV 6) (eCons (eV 7) eNil)))) (eC (.bl true))) sSkip)
  (sIf (eAndT (eTest (eB fEqA (eCall 2 m__law_next (eCons (eV 0) (eCons (eC (.int 3)) eNil))) (eC (.int 0)))) (eTest (eB fLtT (eBf fLen (eCons (eV 4) eNil)) (eV 2)))) (sAsg (gIx (eV 4) (eTup (eCons (eV 7) (eCons (eV 6) eNil)))) (eC (.bl true))) sSkip)))
theorem fLen_dT {st : Sto} {n : Nat} {kvs : List (List Key × Val)} (h : st[n]? = some (.dT kvs)) : fLen st [.loc n] = some (.int kvs.length) := by
  simp [fLen, h]
theorem turn_ok {cs : List Int} {a l u B rooms : Int} {kvs : List (List Key × Val)} {gs : List (Int × Int)} {k : Val} {x6 x7 : Option Val} (hd : DrOk cs a l u B) (hB : B < 2 ^ 58) (h1 : 1 ≤ rooms) (h8 : rooms ≤ 8) (hf : Found rooms kvs gs) :
    ∃ a' l' u' kvs' gs' y6 y7, houseLoop [some (.loc 0), some (.int 8), some (.int 16), some (.int rooms), some (.loc 1), some k, x6, x7] [drawOb cs a l u, .dT kvs] = .nx [some (.loc 0), some (.int 8), some (.int 16), some (.int rooms), some (.loc 1), some k, y6, y7] [drawOb cs a' l' u', .dT kvs']
      ∧ DrOk cs a' l' u' (B + 3) ∧ Found rooms kvs' gs' := by
  obtain ⟨r1, a1, l1, u1, e1, p1, q1, d1⟩ := next2 (many := rooms + 1) [.dT kvs] hd (by omega) (by omega) (by omega)
  obtain ⟨r2, a2, l2, u2, e2, p2, q2, d2⟩ := next2 (many := rooms) [.dT kvs] d1 (by omega) (by omega) (by omega)
  obtain ⟨o, ho, ho1, ho2, ho3⟩ := other_ok p1 q1 p2 q2
  have hg1 : okG rooms (r1 - 1, o) := ⟨by simp; omega, by simp; omega, ho1, ho2, ho3⟩
  have hg2 : okG rooms (o, r1 - 1) := ⟨ho1, ho2, by simp; omega, by simp; omega, fun e => ho3 e.symm⟩
  have hm : (0 : Int) < rooms + 1 := by omega
  -- the first put
  obtain ⟨kvs1, gs1, f1, e3⟩ : ∃ kvs1 gs1, Found rooms kvs1 gs1 ∧ ∀ ρ : Ev.Env, ρ[2]? = some (some (.int 16)) → ρ[4]? = some (some (.loc 1)) → ρ[6]? = some (some (.int (r1 - 1))) → ρ[7]? = some (some (.int o)) →
      sIf (eTest (eB fLtT (eBf fLen (eCons (eV 4) eNil)) (eV 2))) (sAsg (gIx (eV 4) (eTup (eCons (eV 6) (eCons (eV 7) eNil)))) (eC (.bl true))) sSkip ρ [drawOb cs a2 l2 u2, .dT kvs] = .nx ρ [drawOb cs a2 l2 u2, .dT kvs1] := by
    have hk := hf.klen
    by_cases hl : gs.length < 16
    · obtain ⟨gs', f⟩ := put_found hf hl hg1 (.bl true)
      refine ⟨_, gs', f, fun ρ h2 h4 h6 h7 => ?_⟩
      have hl' : ((kvs.length : Nat) : Int) < 16 := by omega
      simp [sIf, eTest, eB, eBf, eCons, eNil, eV, bindR, bindS, optR, h2, h4, h6, h7, fLen, fLtT_eq, hl', sAsg, gIx, eTup, eC, two_le, fSet_dT (show kvs.length ≤ 16 by omega)]
    · refine ⟨kvs, gs, hf, fun ρ h2 h4 h6 h7 => ?_⟩
      have hl' : ¬ ((kvs.length : Nat) : Int) < 16 := by omega
      simp [sIf, eTest, eB, eBf, eCons, eNil, eV, bindR, bindS, optR, h2, h4, fLen, fLtT_eq, hl', sSkip]
  obtain ⟨r3, a3, l3, u3, e4, p3, q3, d3⟩ := next2 (many := 3) [.dT kvs1] d2 (by omega) (by omega) (by omega)
  obtain ⟨kvs2, gs2, f2, e5⟩ : ∃ kvs2 gs2, Found rooms kvs2 gs2 ∧ ∀ ρ : Ev.Env, ρ[0]? = some (some (.loc 0)) → ρ[2]? = some (some (.int 16)) → ρ[4]? = some (some (.loc 1)) → ρ[6]? = some (some (.int (r1 - 1))) → ρ[7]? = some (some (.int o)) →
      sIf (eAndT (eTest (eB fEqA (eCall 2 m__law_next (eCons (eV 0) (eCons (eC (.int 3)) eNil))) (eC (.int 0)))) (eTest (eB fLtT (eBf fLen (eCons (eV 4) eNil)) (eV 2)))) (sAsg (gIx (eV 4) (eTup (eCons (eV 7) (eCons (eV 6) eNil)))) (eC (.bl true))) sSkip ρ [drawOb cs a2 l2 u2, .dT kvs1] = .nx ρ [drawOb cs a3 l3 u3, .dT kvs2] := by
    have hk := f1.klen
    by_cases hr : r3 = 0
    · by_cases hl : gs1.length < 16
      · obtain ⟨gs', f⟩ := put_found f1 hl hg2 (.bl true)
        refine ⟨_, gs', f, fun ρ h0 h2 h4 h6 h7 => ?_⟩
        have hl' : ((kvs1.length : Nat) : Int) < 16 := by omega
        simp [sIf, eAndT, eTest, eB, eBf, eCall, eCons, eNil, eV, eC, bindR, bindS, optR, h0, h2, h4, h6, h7, e4, fEqA, hr, fLen, fLtT_eq, hl', sAsg, gIx, eTup, two_le, fSet_dT (show kvs1.length ≤ 16 by omega)]
      · refine ⟨kvs1, gs1, f1, fun ρ h0 h2 h4 h6 h7 => ?_⟩
        have hl' : ¬ ((kvs1.length : Nat) : Int) < 16 := by omega
        simp [sIf, eAndT, eTest, eB, eBf, eCall, eCons, eNil, eV, eC, bindR, bindS, optR, h0, h2, h4, e4, fEqA, hr, fLen, fLtT_eq, hl', sSkip]
    · refine ⟨kvs1, gs1, f1, fun ρ h0 h2 h4 h6 h7 => ?_⟩
      simp [sIf, eAndT, eTest, eB, eBf, eCall, eCons, eNil, eV, eC, bindR, bindS, optR, h0, e4, fEqA, hr, sSkip]
  refine ⟨a3, l3, u3, kvs2, gs2, some (.int (r1 - 1)), some (.int o), ?_, ⟨d3.ne, d3.len, d3.a0, d3.l0, d3.u0, by have := d3.ub; omega⟩, f2⟩
  unfold houseLoop
  have s1 : ∀ ρ : Ev.Env, ρ[0]? = some (some (.loc 0)) → ρ[3]? = some (some (.int rooms)) → sSet 6 (eB fSub (eCall 2 m__law_next (eCons (eV 0) (eCons (eB fAdd (eV 3) (eC (.int 1))) eNil))) (eC (.int 1))) ρ [drawOb cs a l u, .dT kvs] = .nx (ρ.set 6 (some (.int (r1 - 1)))) [drawOb cs a1 l1 u1, .dT kvs] := fun ρ h0 h3 => by
    simp [sSet, eB, eCall, eCons, eNil, eV, eC, bindR, bindS, optR, h0, h3, fAdd_int, e1, fSub_eq]
  have s2 : ∀ ρ : Ev.Env, ρ[0]? = some (some (.loc 0)) → ρ[3]? = some (some (.int rooms)) → ρ[6]? = some (some (.int (r1 - 1))) → sSet 7 (eB fSub (eB fMod (eBf fIntA (eCons (eB fAdd (eB fAdd (eB fAdd (eV 6) (eC (.int 1))) (eC (.int 1))) (eCall 2 m__law_next (eCons (eV 0) (eCons (eV 3) eNil)))) eNil)) (eB fAdd (eV 3) (eC (.int 1)))) (eC (.int 1))) ρ [drawOb cs a1 l1 u1, .dT kvs] = .nx (ρ.set 7 (some (.int o))) [drawOb cs a2 l2 u2, .dT kvs] := fun ρ h0 h3 h6 => by
    have hi : ∀ (st : Sto) (i : Int), fIntA st [.int i] = some (.int i) := fun st i => rfl
    simp only [sSet, eB, eBf, eCall, eCons, eNil, eV, eC, bindR, bindS, optR, h0, h3, h6, fAdd_int, List.length_cons, List.length_nil, Nat.zero_add, Nat.reduceAdd, eq_self, if_true, e2, hi, fMod_eq hm, fSub_eq, ho]
  unfold sSeq
  rw [s1 _ rfl rfl]
  dsimp only
  rw [s2 _ rfl rfl rfl]
  dsimp only
  rw [e3 _ rfl rfl rfl rfl]
  dsimp only
  rw [e5 _ rfl rfl rfl rfl rfl]
  rfl

theorem house_ok {cs : List Int} {a l u B : Int} (hd : DrOk cs a l u B) (hB : B < 2 ^ 50) : ∃ rooms gs a' l' u', m__law_house [.loc 0, .int 8, .int 16] [drawOb cs a l u] = .ok (gh rooms gs) [drawOb cs a' l' u'] ∧ GoodH rooms gs ∧ DrOk cs a' l' u' (B + 100) := by
  obtain ⟨r, a1, l1, u1, e1, p1, q1, d1⟩ := next2 (many := 8) [] hd (by omega) (by omega) (by omega)
  obtain ⟨n, a2, l2, u2, e2, p2, q2, d2⟩ := next2 (many := 17) [.dT []] d1 (by omega) (by omega) (by omega)
  have h1 : 1 ≤ 1 + r := by omega
  have h8 : 1 + r ≤ 8 := by omega
  have loop : ∀ (ks : List Val) (a l u B : Int) (kvs : List (List Key × Val)) (gs : List (Int × Int)) (x5 x6 x7 : Option Val), ks.length ≤ 16 → DrOk cs a l u B → B + 3 * (ks.length : Int) < 2 ^ 55 → Found (1 + r) kvs gs → ∃ a' l' u' kvs' gs' y5 y6 y7,
      forL (gN 5) houseLoop ks [some (.loc 0), some (.int 8), some (.int 16), some (.int (1 + r)), some (.loc 1), x5, x6, x7] [drawOb cs a l u, .dT kvs] = .nx [some (.loc 0), some (.int 8), some (.int 16), some (.int (1 + r)), some (.loc 1), y5, y6, y7] [drawOb cs a' l' u', .dT kvs']
        ∧ DrOk cs a' l' u' (B + 3 * (ks.length : Int)) ∧ Found (1 + r) kvs' gs' := fun ks => by
    induction ks with
    | nil => intro a l u B kvs gs x5 x6 x7 _ hd _ hf; exact ⟨a, l, u, kvs, gs, x5, x6, x7, rfl, by simpa using hd, hf⟩
    | cons k ks ih =>
      intro a l u B kvs gs x5 x6 x7 hl hd hB hf
      simp only [List.length_cons] at hl hB
      obtain ⟨a', l', u', kvs', gs', y6, y7, e, d', f'⟩ := turn_ok (k := k) (x6 := x6) (x7 := x7) hd (by omega) h1 h8 hf
      obtain ⟨a2, l2, u2, kvs2, gs2, z5, z6, z7, e2, d2, f2⟩ := ih a' l' u' (B + 3) kvs' gs' (some k) y6 y7 (by omega) d' (by omega) f'
      refine ⟨a2, l2, u2, kvs2, gs2, z5, z6, z7, ?_, ?_, f2⟩
      · unfold forL
        show (match houseLoop [some (.loc 0), some (.int 8), some (.int 16), some (.int (1 + r)), some (.loc 1), some k, x6, x7] [drawOb cs a l u, .dT kvs] with
          | .nx ρ2 st2 => forL (gN 5) houseLoop ks ρ2 st2
          | .ct ρ2 st2 => forL (gN 5) houseLoop ks ρ2 st2
          | .bk ρ2 st2 => .nx ρ2 st2
          | .rt v st2 => .rt v st2
          | .ex x ρ2 st2 => .ex x ρ2 st2
          | .bad => .bad) = _
        rw [e]
        exact e2
      · have e3 : B + 3 * ((ks.length + 1 : Nat) : Int) = B + 3 + 3 * (ks.length : Int) := by omega
        rw [List.length_cons, e3]
        exact d2
  obtain ⟨a3, l3, u3, kvs, gs, y5, y6, y7, e3, d3, f3⟩ := loop (rangeV 0 n.toNat) a2 l2 u2 (B + 1 + 1) [] [] none none none (by rw [rangeV_length]; omega) d2 (by rw [rangeV_length]; omega) ⟨rfl, by simp, by simp, by simp⟩
  refine ⟨1 + r, sortP gs, a3, l3, u3, ?_, good_sort h1 h8 f3, ⟨d3.ne, d3.len, d3.a0, d3.l0, d3.u0, ?_⟩⟩
  · have key : b__law_house (startE 8 [.loc 0, .int 8, .int 16]) [drawOb cs a l u] = .rt (gh (1 + r) (sortP gs)) [drawOb cs a3 l3 u3, .dT kvs] := by
      have hi : ∀ ρ : Ev.Env, ρ[0]? = some (some (.loc 0)) → ρ[2]? = some (some (.int 16)) → itRange1 (eCons (eCall 2 m__law_next (eCons (eV 0) (eCons (eB fAdd (eV 2) (eC (.int 1))) eNil))) eNil) ρ [drawOb cs a1 l1 u1, .dT []] = .ok (rangeV 0 n.toNat) [drawOb cs a2 l2 u2, .dT []] := fun ρ h0 h2 => by
        have hn : -4611686018427387904 ≤ n ∧ n < 4611686018427387904 := by omega
        simp [itRange1, eCons, eNil, eCall, eB, eV, eC, bindR, optR, h0, h2, fAdd_int, e2, hn]
      have hk := keys_pV f3
      show (sSeq _ (sSeq (sFor _ (gN 5) houseLoop) _)) _ _ = _
      simp [startE, sSeq, sPar, eCons, eNil, eB, eC, eV, eCall, eNewT, bindR, bindS, optR, e1, fAdd_int, sFor, hi, e3, sRet, eTup, eBf, fListA, hk, sorted_pV, fTuple, seqOf, dr, two_le, gh]
    unfold m__law_house runF
    rw [key]
    show fin [drawOb cs a l u] _ ([drawOb cs a3 l3 u3] ++ [.dT kvs]) = _
    exact fin_bel (st := [drawOb cs a l u]) (st' := [drawOb cs a3 l3 u3] ++ [.dT kvs]) (okOld_app (okOld_set (st := [drawOb cs a l u]) (d := 0) (o := drawOb cs a3 l3 u3) bel_draw) [.dT kvs]) bel_gh
  · have h := d3.ub
    rw [rangeV_length] at h
    omega
end K12

set_option Elab.async false
set_option linter.all false
set_option maxRecDepth 100000
set_option maxHeartbeats 4000000
namespace K12
open PySem PySem.Spec PyProof.Rows L2 Ev
def hD (rooms : Int) (gs : List (Int × Int)) : PyData := .tuple [.int rooms, .tuple (gs.map fun g => .tuple [.int g.1, .int g.2])]
theorem toD_gh {rooms : Int} {gs : List (Int × Int)} : toD (gh rooms gs) = some (hD rooms gs) := by
  have e : toDs (gs.map pV) = some (gs.map fun g => PyData.tuple [.int g.1, .int g.2]) := toDs_map fun g _ => rfl
  simp [gh, hD, toD, toDs, e]
theorem sm_gh {rooms : Int} {gs : List (Int × Int)} (h : GoodH rooms gs) : Sm (hD rooms gs) 3 200 := by
  have e1 : Sm (.tuple (gs.map fun g => PyData.tuple [.int g.1, .int g.2])) 2 48 := by
    refine (SmAll.tup (Sm.all (k := 1) (b := 2) fun d hd => ?_)).le (by decide) ?_
    · obtain ⟨g, hg, rfl⟩ := List.mem_map.mp hd
      obtain ⟨h1, h2, h3, h4⟩ := h.small hg
      refine (SmAll.tup (Sm.all (k := 0) (b := 0) fun d hd => ?_)).le (by decide) (by simp)
      simp only [List.mem_cons, List.not_mem_nil, or_false] at hd
      rcases hd with rfl | rfl
      · exact Sm.int h1 h2
      · exact Sm.int h3 h4
    · have := h.len
      rw [List.length_map]
      omega
  refine (SmAll.tup (Sm.all (k := 2) (b := 48) fun d hd => ?_)).le (by decide) (by simp)
  simp only [List.mem_cons, List.not_mem_nil, or_false] at hd
  rcases hd with rfl | rfl
  · exact (Sm.int (by have := h.lo; omega) (by have := h.hi; omega)).le (by decide) (by decide)
  · exact e1
theorem sm_cs {cs : List Int} (hl : cs.length ≤ 16) (h : ∀ c, c ∈ cs → 0 ≤ c ∧ c ≤ 10 ^ 30) : Sm (.tuple (cs.map .int)) 1 100 := by
  refine (SmAll.tup (Sm.all (k := 0) (b := 0) fun d hd => ?_)).le (by decide) (by rw [List.length_map]; omega)
  obtain ⟨c, hc, rfl⟩ := List.mem_map.mp hd
  exact Sm.int (by have := h c hc; omega) (h c hc).2
theorem toD_cs (cs : List Int) : toD (.tup (cs.map .int)) = some (.tuple (cs.map .int)) := by
  simp [toD, toDs_ints]
theorem row_signs {g : Int × Int} {c : Nat} (h : c ∈ rowW g) : c < 128 := by
  rcases mem_joinL h with e | ⟨p, hp, hc⟩
  · omega
  · simp only [List.mem_cons, List.not_mem_nil, or_false] at hp
    rcases hp with rfl | rfl <;> have := wI_signs hc <;> omega
theorem house_signs {rooms : Int} {gs : List (Int × Int)} {c : Nat} (h : c ∈ houseW rooms gs) : c < 128 := by
  rcases mem_joinL h with e | ⟨p, hp, hc⟩
  · omega
  · rcases List.mem_cons.mp hp with rfl | hp
    · have := wI_signs hc; omega
    · obtain ⟨g, _, rfl⟩ := List.mem_map.mp hp
      exact row_signs hc
theorem nums_signs {cs : List Int} {c : Nat} (h : c ∈ numsW cs) : c < 128 := by
  unfold numsW at h
  split at h
  · simp at h; omega
  · rcases mem_joinL h with e | ⟨p, hp, hc⟩
    · omega
    · obtain ⟨g, _, rfl⟩ := List.mem_map.mp hp
      have := wI_signs hc; omega
def told (rooms : Int) (gs : List (Int × Int)) (cs : List Int) : Val := .lst [.str (nS (houseW rooms gs)), .str (nS (numsW cs))]
def toldD (rooms : Int) (gs : List (Int × Int)) (cs : List Int) : PyData := .list [.str (nS (houseW rooms gs)), .str (nS (numsW cs))]
theorem sm_told {rooms : Int} {gs : List (Int × Int)} {cs : List Int} (h : GoodH rooms gs) (hc : GoodC gs cs) : Sm (toldD rooms gs cs) 1 30000 := by
  refine (SmAll.lst (Sm.all (k := 0) (b := 10000) fun d hd => ?_)).le (by decide) (by simp)
  simp only [List.mem_cons, List.not_mem_nil, or_false] at hd
  rcases hd with rfl | rfl
  · exact Sm.str (fun c => house_signs) (houseW_len h)
  · exact Sm.str (fun c => nums_signs) (numsW_len (by have := hc.len; have := h.len; omega) hc.at_)
abbrev Ev13 := Option Val
def passS : S := sSet 4 (eB fAdd (eV 4) (eTup (eCons (eCall 2 m__law_pick (eCons (eV 1) (eCons (eLst (eCons (eC (.int 0)) (eCons (eC (.int 1)) (eCons (eCall 2 m__law_next (eCons (eV 1) (eCons (eC (.int 99)) eNil))) (eCons (eCall 2 m__law_next (eCons (eV 1) (eCons (eB fAdd (eB fPow (eC (.int 10)) (eC (.int 30))) (eC (.int 1))) eNil))) eNil))))) eNil))) eNil)))
theorem pow30 {st : Sto} : fPow st (.int 10) (.int 30) = some (.int 1000000000000000000000000000000) := by
  simp [fI, cPow]
theorem four_le : (4 ≤ sizeLine) = True := eq_true (by decide)
theorem pass_ok {cs : List Int} {a l u B : Int} {acc : List Int} {ρ : Ev.Env} (hd : DrOk cs a l u B) (hB : B < 2 ^ 58) (hl : acc.length ≤ 100) (h1 : ρ[1]? = some (some (.loc 0))) (h4 : ρ[4]? = some (some (.tup (acc.map .int)))) :
    ∃ c a' l' u', passS ρ [drawOb cs a l u] = .nx (ρ.set 4 (some (.tup ((acc ++ [c]).map .int)))) [drawOb cs a' l' u'] ∧ DrOk cs a' l' u' (B + 3) ∧ 0 ≤ c ∧ c ≤ 10 ^ 30 := by
  obtain ⟨r1, a1, l1, u1, e1, p1, q1, d1⟩ := next2 (many := 99) [] hd (by omega) (by omega) (by omega)
  obtain ⟨r2, a2, l2, u2, e2, p2, q2, d2⟩ := next2 (many := 1000000000000000000000000000001) [] d1 (by omega) (by omega) (by omega)
  obtain ⟨c, a3, l3, u3, hc, e3, d3⟩ := pick_ok (xs := [0, 1, r1, r2]) [] d2 (by omega) (by simp) (by simp)
  have hcs : ([0, 1, r1, r2].map Val.int) = [.int 0, .int 1, .int r1, .int r2] := rfl
  rw [hcs] at e3
  have ha : ∀ st, fAdd st (.tup (acc.map Val.int)) (.tup [.int c]) = some (.tup ((acc ++ [c]).map .int)) := fun st => by
    simp only [fAdd]
    rw [if_pos (by simp [sizeLine_eq]; omega), List.map_append]
    rfl
  refine ⟨c, a3, l3, u3, ?_, ⟨d3.ne, d3.len, d3.a0, d3.l0, d3.u0, by have := d3.ub; omega⟩, ?_⟩
  · simp [passS, sSet, eB, eTup, eCall, eLst, eCons, eNil, eV, eC, bindR, bindS, optR, h1, h4, e1, e2, e3, pow30, fAdd_int, four_le, one_le, ha, -List.map_append]
  · simp only [List.mem_cons, List.not_mem_nil, or_false] at hc
    rcases hc with rfl | rfl | rfl | rfl
    · decide
    · decide
    · omega
    · omega
theorem passes_ok {cs : List Int} {x0 x1 x2 x3 x6 x7 x8 x9 x10 x11 x12 : Option Val} (hx1 : x1 = some (.loc 0)) : ∀ (items : List Val) (acc : List Int) (a l u B : Int) (x5 : Option Val), DrOk cs a l u B → B + 3 * (items.length : Int) < 2 ^ 57 → acc.length + items.length ≤ 100 → ∃ new a' l' u' y5,
    forL (gN 5) passS items [x0, x1, x2, x3, some (.tup (acc.map .int)), x5, x6, x7, x8, x9, x10, x11, x12] [drawOb cs a l u] = .nx [x0, x1, x2, x3, some (.tup ((acc ++ new).map .int)), y5, x6, x7, x8, x9, x10, x11, x12] [drawOb cs a' l' u']
      ∧ DrOk cs a' l' u' (B + 3 * (items.length : Int)) ∧ new.length = items.length ∧ ∀ c, c ∈ new → 0 ≤ c ∧ c ≤ 10 ^ 30 := by
  intro items
  induction items with
  | nil => intro acc a l u B x5 hd _ _; exact ⟨[], a, l, u, x5, by rw [List.append_nil]; rfl, by simpa using hd, rfl, by simp⟩
  | cons i items ih =>
    intro acc a l u B x5 hd hB hl
    simp only [List.length_cons] at hB hl
    obtain ⟨c, a1, l1, u1, e1, d1, c1, c2⟩ := pass_ok (acc := acc) (ρ := [x0, x1, x2, x3, some (.tup (acc.map .int)), some i, x6, x7, x8, x9, x10, x11, x12]) hd (by omega) (by omega) (by rw [hx1]; rfl) rfl
    obtain ⟨new, a2, l2, u2, y5, e2, d2, n2, h2⟩ := ih (acc ++ [c]) a1 l1 u1 (B + 3) (some i) d1 (by omega) (by simp; omega)
    refine ⟨c :: new, a2, l2, u2, y5, ?_, ?_, by simp [n2], ?_⟩
    · unfold forL
      show (match passS [x0, x1, x2, x3, some (.tup (acc.map .int)), some i, x6, x7, x8, x9, x10, x11, x12] [drawOb cs a l u] with
        | .nx ρ2 st2 => forL (gN 5) passS items ρ2 st2
        | .ct ρ2 st2 => forL (gN 5) passS items ρ2 st2
        | .bk ρ2 st2 => .nx ρ2 st2
        | .rt v st2 => .rt v st2
        | .ex x ρ2 st2 => .ex x ρ2 st2
        | .bad => .bad) = _
      rw [e1]
      rw [List.append_assoc, List.singleton_append] at e2
      exact e2
    · have e3 : B + 3 * ((items.length + 1 : Nat) : Int) = B + 3 + 3 * (items.length : Int) := by omega
      rw [List.length_cons, e3]
      exact d2
    · intro x hx
      rcases List.mem_cons.mp hx with rfl | hx
      · exact ⟨c1, c2⟩
      · exact h2 x hx
end K12

set_option Elab.async false
set_option linter.all false
set_option maxRecDepth 100000
set_option maxHeartbeats 4000000
namespace K12
open PySem PySem.Spec PyProof.Rows L2 Ev
def rowsS : S := sSet 6 (eB fAdd (eLst (eCons (eBf fStr (eCons (eB fIx (eV 3) (eC (.int 0))) eNil)) eNil)) (eLc false [7, 8] (itV (eB fIx (eV 3) (eC (.int 1)))) (gT 2 (gCons' (gN 7) (gCons' (gN 8) gNil'))) eYes (eB fAdd (eB fAdd (eBf fStr (eCons (eV 7) eNil)) (eC (.str " "))) (eBf fStr (eCons (eV 8) eNil)))))
def wordsS : S := sSet 9 (eLc false [10] (itV (eV 4)) (gN 10) eYes (eBf fStr (eCons (eV 10) eNil)))
def dueS : S := sSet 11 (eLst (eCons (eM1 fJoin (eC (.str "\n")) (eV 6)) (eCons (eIf (eTest (eB fNeA (eV 9) (eLst eNil))) (eM1 fJoin (eC (.str " ")) (eV 9)) (eC (.str "-"))) eNil)))
def toldS : S := sSet 12 (eLst (eCons (eCall 1 m_house_text (eCons (eV 3) eNil)) (eCons (eCall 2 m_counts_text (eCons (eV 3) (eCons (eV 4) eNil))) eNil)))
def if1 : S := sIf (eTest (eB fNeA (eBf fRepr (eCons (eV 12) eNil)) (eBf fRepr (eCons (eV 11) eNil)))) (sRet (eC (.bl false))) sSkip
def if2 : S := sIf (eTest (eB fNeA (eLst (eCons (eCallK 1 1 [0] m_house_text (eCons (eV 3) eNil)) (eCons (eCallK 2 2 [1, 0] m_counts_text (eCons (eV 4) (eCons (eV 3) eNil))) eNil))) (eV 11))) (sRet (eC (.bl false))) sSkip
def if3 : S := sIf (eTest (eB fNeA (eBf fRepr (eCons (eLst (eCons (eCall 1 m_read_house (eCons (eB fIx (eV 11) (eC (.int 0))) eNil)) (eCons (eCall 2 m_read_counts (eCons (eV 3) (eCons (eB fIx (eV 11) (eC (.int 1))) eNil))) eNil))) eNil)) (eBf fRepr (eCons (eLst (eCons (eV 3) (eCons (eV 4) eNil))) eNil)))) (sRet (eC (.bl false))) sSkip
def if4 : S := sIf (eOrT (eTest (eB fNeA (eCallK 1 1 [0] m_read_house (eCons (eB fIx (eV 11) (eC (.int 0))) eNil)) (eV 3))) (eTest (eB fNeA (eCallK 2 2 [1, 0] m_read_counts (eCons (eB fIx (eV 11) (eC (.int 1))) (eCons (eV 3) eNil))) (eV 4)))) (sRet (eC (.bl false))) sSkip
section
variable {rooms : Int} {gs : List (Int × Int)} {cs : List Int} {st : Sto} {x0 x1 x2 x5 x6 x7 x8 x9 x10 x11 x12 : Option Val}
theorem strs_nil {ps : List (List Nat)} (h : ∀ p, p ∈ ps → ∀ c, c ∈ p → c < 128) (st : Sto) : fNeA st (.lst (ps.map fun p => .str (nS p))) (.lst []) = some (.bl (!decide (ps = []))) := by
  have e : toDs (ps.map fun p => Val.str (nS p)) = some (ps.map fun p => PyData.str (nS p)) := toDs_map fun p _ => rfl
  have sm : SeqAt.shaped (.list (ps.map fun p => PyData.str (nS p))) = true := by
    refine Sm.shaped (k := 1) (b := (ps.map fun p => PyData.str (nS p)).length * ((ps.map (·.length)).sum + 1)) (SmAll.lst (Sm.all fun d hd => ?_)) (by decide)
    obtain ⟨p, hp, rfl⟩ := List.mem_map.mp hd
    refine Sm.str (h p hp) ?_
    clear e hd h
    induction ps with
    | nil => simp at hp
    | cons q ps ih =>
      rw [List.map_cons, List.sum_cons]
      rcases List.mem_cons.mp hp with rfl | hp
      · omega
      · have := ih hp; omega
  have sm0 : SeqAt.shaped (.list []) = true := by decide
  show fNe st _ _ = _
  simp only [fNe, dr, toD, e, toDs, Option.map_some, sm, sm0, Bool.and_self, if_true]
  cases ps with
  | nil => rfl
  | cons p ps => rfl
theorem rows_ok (h : GoodH rooms gs) : rowsS [x0, x1, x2, some (gh rooms gs), some (.tup (cs.map .int)), x5, x6, x7, x8, x9, x10, x11, x12] st
    = .nx [x0, x1, x2, some (gh rooms gs), some (.tup (cs.map .int)), x5, some (.lst ((wI rooms :: gs.map rowW).map fun p => .str (nS p))), x7, x8, x9, x10, x11, x12] st := by
  have hl := h.len
  have i0 : ∀ st : Sto, fIx st (gh rooms gs) (.int 0) = some (.int rooms) := fun st => ix_tup (by decide) rfl
  have i1 : ∀ st : Sto, fIx st (gh rooms gs) (.int 1) = some (.tup (gs.map pV)) := fun st => ix_tup (by decide) rfl
  have e5 : fStr st [.int rooms] = some (.str (nS (wI rooms))) := fStr_ok (by have := h.lo; omega) (by have := h.hi; omega)
  have e2 : eLc false [7, 8] (itV (eB fIx (eV 3) (eC (.int 1)))) (gT 2 (gCons' (gN 7) (gCons' (gN 8) gNil'))) eYes (eB fAdd (eB fAdd (eBf fStr (eCons (eV 7) eNil)) (eC (.str " "))) (eBf fStr (eCons (eV 8) eNil)))
      [x0, x1, x2, some (gh rooms gs), some (.tup (cs.map .int)), x5, x6, x7, x8, x9, x10, x11, x12] st = .ok (.lst ((gs.map pV).map fun v => match v with | .tup [.int a, .int b] => .str (nS (rowW (a, b))) | v => v)) st := by
    refine lc_map (vs := gs.map pV) ?_ (by simp; omega) fun v hv => ?_
    · simp [itV, eB, eV, eC, bindR, optR, i1]
    · obtain ⟨g, hg, rfl⟩ := List.mem_map.mp hv
      refine ⟨_, rfl, ?_⟩
      obtain ⟨h1, h2, h3, h4⟩ := h.small hg
      have l1 := wI_len h2
      have l2 := wI_len h4
      have a1 : ∀ st, fAdd st (.str (nS (wI g.1))) (.str (nS [32])) = some (.str (nS (wI g.1 ++ [32]))) := fun st => by
        simp only [fAdd]
        rw [if_pos (by rw [SX.S_len, SX.S_len, sizeLine_eq]; simp; omega), SX.S_cat]
      have a2 : ∀ st, fAdd st (.str (nS (wI g.1 ++ [32]))) (.str (nS (wI g.2))) = some (.str (nS (rowW g))) := fun st => by
        simp only [fAdd]
        rw [if_pos (by rw [SX.S_len, SX.S_len, sizeLine_eq, List.length_append]; simp; omega), SX.S_cat, List.append_assoc]
        rfl
      simp [eB, eBf, eCons, eNil, eV, eC, bindR, wipeE, optR, fStr_ok h1 h2, fStr_ok h3 h4, str_blank, a1, a2, pV]
  have e3 : ((gs.map pV).map fun v => match v with | .tup [.int a, .int b] => Val.str (nS (rowW (a, b))) | v => v) = (gs.map rowW).map fun p => .str (nS p) := by
    rw [List.map_map, List.map_map]
    rfl
  rw [e3] at e2
  have e6 : ∀ st, fAdd st (.lst [.str (nS (wI rooms))]) (.lst ((gs.map rowW).map fun p => .str (nS p))) = some (.lst ((wI rooms :: gs.map rowW).map fun p => .str (nS p))) := fun st => by
    simp only [fAdd, lstOf, dr]
    rw [if_pos (by simp [sizeLine_eq]; omega)]
    rfl
  generalize hL : eLc false [7, 8] (itV (eB fIx (eV 3) (eC (.int 1)))) (gT 2 (gCons' (gN 7) (gCons' (gN 8) gNil'))) eYes (eB fAdd (eB fAdd (eBf fStr (eCons (eV 7) eNil)) (eC (.str " "))) (eBf fStr (eCons (eV 8) eNil))) = L at e2
  unfold rowsS
  rw [hL]
  generalize ((gs.map rowW).map fun p => Val.str (nS p)) = q1 at e2 e6
  generalize ((wI rooms :: gs.map rowW).map fun p => Val.str (nS p)) = q2 at e6 ⊢
  simp [sSet, eB, eLst, eBf, eCons, eNil, eV, eC, bindR, bindS, optR, i0, e5, one_le, e2, e6]
theorem words_ok (hl : cs.length ≤ 100) (h : ∀ c, c ∈ cs → 0 ≤ c ∧ c ≤ 10 ^ 30) : wordsS [x0, x1, x2, some (gh rooms gs), some (.tup (cs.map .int)), x5, x6, x7, x8, x9, x10, x11, x12] st
    = .nx [x0, x1, x2, some (gh rooms gs), some (.tup (cs.map .int)), x5, x6, x7, x8, some (.lst ((cs.map wI).map fun p => .str (nS p))), x10, x11, x12] st := by
  have e2 : eLc false [10] (itV (eV 4)) (gN 10) eYes (eBf fStr (eCons (eV 10) eNil)) [x0, x1, x2, some (gh rooms gs), some (.tup (cs.map .int)), x5, x6, x7, x8, x9, x10, x11, x12] st
      = .ok (.lst ((cs.map Val.int).map fun v => match v with | .int i => .str (nS (wI i)) | v => v)) st := by
    refine lc_map (vs := cs.map .int) ?_ (by simp; omega) fun v hv => ?_
    · simp [itV, eV, bindR]
    · obtain ⟨n, hn, rfl⟩ := List.mem_map.mp hv
      refine ⟨_, rfl, ?_⟩
      simp [eBf, eCons, eNil, eV, bindR, wipeE, optR, fStr_ok (show -1 ≤ n by have := h n hn; omega) (h n hn).2]
  have e3 : ((cs.map Val.int).map fun v => match v with | .int i => Val.str (nS (wI i)) | v => v) = (cs.map wI).map fun p => .str (nS p) := by
    rw [List.map_map, List.map_map]
    rfl
  rw [e3] at e2
  unfold wordsS sSet
  rw [e2]
  rfl
theorem due_ok (h : GoodH rooms gs) (hc : GoodC gs cs) {x3 x4 : Option Val} : dueS [x0, x1, x2, x3, x4, x5, some (.lst ((wI rooms :: gs.map rowW).map fun p => .str (nS p))), x7, x8, some (.lst ((cs.map wI).map fun p => .str (nS p))), x10, x11, x12] st
    = .nx [x0, x1, x2, x3, x4, x5, some (.lst ((wI rooms :: gs.map rowW).map fun p => .str (nS p))), x7, x8, some (.lst ((cs.map wI).map fun p => .str (nS p))), x10, some (told rooms gs cs), x12] st := by
  have hl := h.len
  have hcl := hc.len
  have e4 : ∀ st, fJoin st (.str (nS [10])) (.lst ((wI rooms :: gs.map rowW).map fun p => .str (nS p))) = some (.str (nS (houseW rooms gs))) := fun st => join_ok (st := st) (c := 10) (ps := wI rooms :: gs.map rowW) (by simp; omega) fun p hp => by
    rcases List.mem_cons.mp hp with rfl | hp
    · have := wI_len (i := rooms) (by have := h.hi; omega)
      omega
    · obtain ⟨g, hg, rfl⟩ := List.mem_map.mp hp
      obtain ⟨h1, h2, h3, h4⟩ := h.small hg
      have := rowW_len h2 h4
      omega
  have e5 : ∀ st, fJoin st (.str (nS [32])) (.lst ((cs.map wI).map fun p => .str (nS p))) = some (.str (nS (TL.joinL [32] (cs.map wI)))) := fun st => join_ok (by simp; omega) fun p hp => by
    obtain ⟨n, hn, rfl⟩ := List.mem_map.mp hp
    have := wI_len (hc.at_ n hn).2
    omega
  have e6 : ∀ st, fNeA st (.lst ((cs.map wI).map fun p => .str (nS p))) (.lst []) = some (.bl (!decide (cs = []))) := fun st => by
    rw [strs_nil fun p hp c hc' => by
      obtain ⟨n, hn, rfl⟩ := List.mem_map.mp hp
      have := wI_signs hc'
      omega]
    simp
  generalize ((wI rooms :: gs.map rowW).map fun p => Val.str (nS p)) = q1 at e4 ⊢
  generalize ((cs.map wI).map fun p => Val.str (nS p)) = q2 at e5 e6 ⊢
  by_cases h0 : cs = []
  · simp [dueS, sSet, eLst, eCons, eNil, eM1, eIf, eTest, eB, eV, eC, bindR, bindS, optR, str_line, str_blank, str_minus, e4, e5, e6, h0, two_le, told, numsW]
  · simp [dueS, sSet, eLst, eCons, eNil, eM1, eIf, eTest, eB, eV, eC, bindR, bindS, optR, str_line, str_blank, str_minus, e4, e5, e6, h0, two_le, told, numsW]
theorem told_ok (h : GoodH rooms gs) (hc : GoodC gs cs) : toldS [x0, x1, x2, some (gh rooms gs), some (.tup (cs.map .int)), x5, x6, x7, x8, x9, x10, x11, x12] st
    = .nx [x0, x1, x2, some (gh rooms gs), some (.tup (cs.map .int)), x5, x6, x7, x8, x9, x10, x11, some (told rooms gs cs)] st := by
  simp [toldS, sSet, eLst, eCons, eNil, eCall, eV, bindR, bindS, house_text_ok h, counts_text_ok h hc, two_le, told]
theorem if1_ok (h : GoodH rooms gs) (hc : GoodC gs cs) {x3 x4 : Option Val} : if1 [x0, x1, x2, x3, x4, x5, x6, x7, x8, x9, x10, some (told rooms gs cs), some (told rooms gs cs)] st = .nx [x0, x1, x2, x3, x4, x5, x6, x7, x8, x9, x10, some (told rooms gs cs), some (told rooms gs cs)] st := by
  have e : ∀ st, fRepr st [told rooms gs cs] = some (.str (toldD rooms gs cs).shown) := fun st => fRepr_ok rfl ((sm_told h hc).repr (by decide) (by decide))
  simp [if1, sIf, eTest, eB, eBf, eCons, eNil, eV, bindR, bindS, optR, e, neA_str, sSkip]
theorem if2_ok (h : GoodH rooms gs) (hc : GoodC gs cs) : if2 [x0, x1, x2, some (gh rooms gs), some (.tup (cs.map .int)), x5, x6, x7, x8, x9, x10, some (told rooms gs cs), x12] st = .nx [x0, x1, x2, some (gh rooms gs), some (.tup (cs.map .int)), x5, x6, x7, x8, x9, x10, some (told rooms gs cs), x12] st := by
  have e : ∀ st, fNeA st (told rooms gs cs) (told rooms gs cs) = some (.bl false) := fun st => neA_self (d := toldD rooms gs cs) rfl (sm_told h hc) (by decide)
  unfold told at e
  simp [if2, sIf, eTest, eB, eLst, eCallK, permL, eCons, eNil, eV, bindR, bindS, optR, house_text_ok h, counts_text_ok h hc, two_le, told, e, sSkip]
theorem if3_ok (h : GoodH rooms gs) (hc : GoodC gs cs) : if3 [x0, x1, x2, some (gh rooms gs), some (.tup (cs.map .int)), x5, x6, x7, x8, x9, x10, some (told rooms gs cs), x12] st = .nx [x0, x1, x2, some (gh rooms gs), some (.tup (cs.map .int)), x5, x6, x7, x8, x9, x10, some (told rooms gs cs), x12] st := by
  have i0 : ∀ st : Sto, fIx st (told rooms gs cs) (.int 0) = some (.str (nS (houseW rooms gs))) := fun st => ix_lst (by decide) rfl
  have i1 : ∀ st : Sto, fIx st (told rooms gs cs) (.int 1) = some (.str (nS (numsW cs))) := fun st => ix_lst (by decide) rfl
  have sm : Sm (.list [hD rooms gs, .tuple (cs.map .int)]) 4 500 := by
    refine (SmAll.lst (Sm.all (k := 3) (b := 200) fun d hd => ?_)).le (by decide) (by simp)
    simp only [List.mem_cons, List.not_mem_nil, or_false] at hd
    rcases hd with rfl | rfl
    · exact sm_gh h
    · exact (sm_cs (by have := hc.len; have := h.len; omega) hc.at_).le (by decide) (by decide)
  have e : ∀ st, fRepr st [.lst [gh rooms gs, .tup (cs.map .int)]] = some (.str (PyData.list [hD rooms gs, .tuple (cs.map .int)]).shown) := fun st => fRepr_ok (by
    show toD (.lst [gh rooms gs, .tup (cs.map .int)]) = _
    simp [toD, toDs, toD_gh, toD_cs]
    rw [toDs_ints]; rfl) (sm.repr (by decide) (by decide))
  simp [if3, sIf, eTest, eB, eBf, eLst, eCall, eCons, eNil, eV, eC, bindR, bindS, optR, i0, i1, read_house_ok h, read_counts_ok h hc, two_le, e, neA_str, sSkip]
theorem if4_ok (h : GoodH rooms gs) (hc : GoodC gs cs) : if4 [x0, x1, x2, some (gh rooms gs), some (.tup (cs.map .int)), x5, x6, x7, x8, x9, x10, some (told rooms gs cs), x12] st = .nx [x0, x1, x2, some (gh rooms gs), some (.tup (cs.map .int)), x5, x6, x7, x8, x9, x10, some (told rooms gs cs), x12] st := by
  have i0 : ∀ st : Sto, fIx st (told rooms gs cs) (.int 0) = some (.str (nS (houseW rooms gs))) := fun st => ix_lst (by decide) rfl
  have i1 : ∀ st : Sto, fIx st (told rooms gs cs) (.int 1) = some (.str (nS (numsW cs))) := fun st => ix_lst (by decide) rfl
  have n1 : ∀ st, fNeA st (gh rooms gs) (gh rooms gs) = some (.bl false) := fun st => neA_self (d := hD rooms gs) toD_gh (sm_gh h) (by decide)
  have n2 : ∀ st, fNeA st (.tup (cs.map .int)) (.tup (cs.map .int)) = some (.bl false) := fun st => neA_self (d := .tuple (cs.map .int)) (toD_cs cs) (sm_cs (by have := hc.len; have := h.len; omega) hc.at_) (by decide)
  simp [if4, sIf, eOrT, eTest, eB, eCallK, permL, eCons, eNil, eV, eC, bindR, bindS, optR, i0, i1, read_house_ok h, read_counts_ok h hc, n1, n2, sSkip]
end
end K12

set_option Elab.async false
set_option linter.all false
set_option maxRecDepth 100000
set_option maxHeartbeats 4000000
namespace K12
open PySem PySem.Spec PyProof.Rows L2 Ev
def turnS : S := sSeq (sSet 3 (eCall 3 m__law_house (eCons (eV 1) (eCons (eC (.int 8)) (eCons (eC (.int 16)) eNil))))) (sSeq (sSet 4 (eTup eNil)) (sSeq (sFor (itV (eB fIx (eV 3) (eC (.int 1)))) (gN 5) passS)
  (sSeq rowsS (sSeq wordsS (sSeq dueS (sSeq toldS (sSeq if1 (sSeq if2 (sSeq if3 if4)))))))))
def tailS : S := (sSeq (sSet 3 (eTup (eCons (eC (.int 2)) (eCons (eTup (eCons (eTup (eCons (fNeg (eC (.int 1))) (eCons (eC (.int 0)) eNil))) (eCons (eTup (eCons (eC (.int 0)) (eCons (fNeg (eC (.int 1))) eNil))) (eCons (eTup (eCons (eC (.int 0)) (eCons (eC (.int 1)) eNil))) eNil)))) eNil))))
  (sSeq (sIf (eOrT (eTest (eB fNeA (eCall 1 m_house_text (eCons (eV 3) eNil)) (eC (.str "2\n-1 0\n0 -1\n0 1")))) (eTest (eB fNeA (eCall 1 m_read_house (eCons (eC (.str "8")) eNil)) (eTup (eCons (eC (.int 8)) (eCons (eTup eNil) eNil)))))) (sRet (eC (.bl false))) sSkip)
  (sSeq (sIf (eTest (eB fNeA (eCall 2 m_read_counts (eCons (eTup (eCons (eC (.int 3)) (eCons (eTup eNil) eNil))) (eCons (eC (.str "-")) eNil))) (eTup eNil))) (sRet (eC (.bl false))) sSkip)
  (sRet (eB fEqA (eCall 2 m_read_counts (eCons (eV 3) (eCons (eB fAdd (eC (.str "0 1 1")) (eB fMul (eC (.str "0")) (eC (.int 30)))) eNil))) (eTup (eCons (eC (.int 0)) (eCons (eC (.int 1)) (eCons (eB fPow (eC (.int 10)) (eC (.int 30))) eNil)))))))))
theorem law_is : b_law = sSeq (sSet 1 (eCall 1 m__law_begin (eCons (eV 0) eNil))) (sSeq (sFor (itRange1 (eCons (eC (.int 10)) eNil)) (gN 2) turnS) tailS) := rfl
theorem begin_ok (ns : List Int) (hl : ns.length ≤ 63) : m__law_begin [.lst (ns.map .int)] [] = .ok (.loc 0) [drawOb (ns ++ [0]) 0 0 0] := by
  have e : ∀ st, fAdd st (.lst (ns.map Val.int)) (.lst [.int 0]) = some (.lst ((ns ++ [0]).map .int)) := fun st => by
    simp only [fAdd, lstOf, dr]
    rw [if_pos (by simp [sizeLine_eq]; omega), List.map_append]
    rfl
  unfold m__law_begin runK
  have key : b__law_begin (startE 1 [.lst (ns.map .int)]) [] = .rt (.loc 0) [drawOb (ns ++ [0]) 0 0 0] := by
    have mv : ∀ v : Val, mergeV [] [((.inr "cells" : Key), v), (.inr "at", .int 0), (.inr "left", .int 0), (.inr "used", .int 0)] = [(.inr "cells", v), (.inr "at", .int 0), (.inr "left", .int 0), (.inr "used", .int 0)] := fun v => rfl
    simp [b__law_begin, startE, sRet, eDisp, epCons, epNil, eB, eV, eC, eLst, eCons, eNil, bindR, bindS, optR, e, keyOf, mv, one_le, drawOb, -List.map_append]
  rw [key]
  rfl
theorem turn_all {ns : List Int} {a l u B : Int} {x0 x2 x3 x4 x5 x6 x7 x8 x9 x10 x11 x12 : Option Val} (hd : DrOk ns a l u B) (hB : B < 2 ^ 49) : ∃ a' l' u' y3 y4 y5 y6 y9 y11 y12,
    turnS [x0, some (.loc 0), x2, x3, x4, x5, x6, x7, x8, x9, x10, x11, x12] [drawOb ns a l u] = .nx [x0, some (.loc 0), x2, y3, y4, y5, y6, x7, x8, y9, x10, y11, y12] [drawOb ns a' l' u'] ∧ DrOk ns a' l' u' (B + 200) := by
  obtain ⟨rooms, gs, a1, l1, u1, e1, hg, d1⟩ := house_ok hd (by omega)
  have hl := hg.len
  obtain ⟨cs, a2, l2, u2, y5, e2, d2, hcl, hc⟩ := passes_ok (x0 := x0) (x1 := some (.loc 0)) (x2 := x2) (x3 := some (gh rooms gs)) (x6 := x6) (x7 := x7) (x8 := x8) (x9 := x9) (x10 := x10) (x11 := x11) (x12 := x12) rfl (gs.map pV) [] a1 l1 u1 (B + 100) x5 d1 (by rw [List.length_map]; omega) (by simp; omega)
  rw [List.length_map] at hcl
  have hgc : GoodC gs cs := ⟨hcl, hc⟩
  rw [List.nil_append, List.map_nil] at e2
  refine ⟨a2, l2, u2, some (gh rooms gs), some (.tup (cs.map .int)), y5, some (.lst ((wI rooms :: gs.map rowW).map fun p => .str (nS p))), some (.lst ((cs.map wI).map fun p => .str (nS p))), some (told rooms gs cs), some (told rooms gs cs), ?_, ⟨d2.ne, d2.len, d2.a0, d2.l0, d2.u0, ?_⟩⟩
  · have i1 : ∀ st : Sto, fIx st (gh rooms gs) (.int 1) = some (.tup (gs.map pV)) := fun st => ix_tup (by decide) rfl
    have s3 : sSet 3 (eCall 3 m__law_house (eCons (eV 1) (eCons (eC (.int 8)) (eCons (eC (.int 16)) eNil)))) [x0, some (.loc 0), x2, x3, x4, x5, x6, x7, x8, x9, x10, x11, x12] [drawOb ns a l u] = .nx [x0, some (.loc 0), x2, some (gh rooms gs), x4, x5, x6, x7, x8, x9, x10, x11, x12] [drawOb ns a1 l1 u1] := by
      simp [sSet, eCall, eCons, eNil, eV, eC, bindR, bindS, e1]
    have s4 : ∀ st, sSet 4 (eTup eNil) [x0, some (.loc 0), x2, some (gh rooms gs), x4, x5, x6, x7, x8, x9, x10, x11, x12] st = .nx [x0, some (.loc 0), x2, some (gh rooms gs), some (.tup []), x5, x6, x7, x8, x9, x10, x11, x12] st := fun st => by
      simp [sSet, eTup, eNil, bindR, bindS]
    have s5 : sFor (itV (eB fIx (eV 3) (eC (.int 1)))) (gN 5) passS [x0, some (.loc 0), x2, some (gh rooms gs), some (.tup []), x5, x6, x7, x8, x9, x10, x11, x12] [drawOb ns a1 l1 u1] = .nx [x0, some (.loc 0), x2, some (gh rooms gs), some (.tup (cs.map .int)), y5, x6, x7, x8, x9, x10, x11, x12] [drawOb ns a2 l2 u2] := by
      have hi : itV (eB fIx (eV 3) (eC (.int 1))) [x0, some (.loc 0), x2, some (gh rooms gs), some (.tup []), x5, x6, x7, x8, x9, x10, x11, x12] [drawOb ns a1 l1 u1] = .ok (gs.map pV) [drawOb ns a1 l1 u1] := by
        simp [itV, eB, eV, eC, bindR, optR, i1]
      unfold sFor
      rw [hi]
      exact e2
    unfold turnS
    simp only [sSeq, s3, s4, s5, rows_ok hg, words_ok (by omega) hc, due_ok hg hgc, told_ok hg hgc, if1_ok hg hgc, if2_ok hg hgc, if3_ok hg hgc, if4_ok hg hgc]
  · have h := d2.ub
    rw [List.length_map] at h
    omega
theorem turns_all {ns : List Int} {x0 : Option Val} : ∀ (items : List Val) (a l u B : Int) (x2 x3 x4 x5 x6 x7 x8 x9 x10 x11 x12 : Option Val), DrOk ns a l u B → B + 200 * (items.length : Int) < 2 ^ 48 → ∃ a' l' u' y2 y3 y4 y5 y6 y7 y8 y9 y10 y11 y12,
    forL (gN 2) turnS items [x0, some (.loc 0), x2, x3, x4, x5, x6, x7, x8, x9, x10, x11, x12] [drawOb ns a l u] = .nx [x0, some (.loc 0), y2, y3, y4, y5, y6, y7, y8, y9, y10, y11, y12] [drawOb ns a' l' u'] := by
  intro items
  induction items with
  | nil => intro a l u B x2 x3 x4 x5 x6 x7 x8 x9 x10 x11 x12 _ _; exact ⟨a, l, u, x2, x3, x4, x5, x6, x7, x8, x9, x10, x11, x12, rfl⟩
  | cons i items ih =>
    intro a l u B x2 x3 x4 x5 x6 x7 x8 x9 x10 x11 x12 hd hB
    simp only [List.length_cons] at hB
    obtain ⟨a1, l1, u1, y3, y4, y5, y6, y9, y11, y12, e1, d1⟩ := turn_all (x0 := x0) (x2 := some i) (x3 := x3) (x4 := x4) (x5 := x5) (x6 := x6) (x7 := x7) (x8 := x8) (x9 := x9) (x10 := x10) (x11 := x11) (x12 := x12) hd (by omega)
    obtain ⟨a2, l2, u2, z2, z3, z4, z5, z6, z7, z8, z9, z10, z11, z12, e2⟩ := ih a1 l1 u1 (B + 200) (some i) y3 y4 y5 y6 x7 x8 y9 x10 y11 y12 d1 (by omega)
    refine ⟨a2, l2, u2, z2, z3, z4, z5, z6, z7, z8, z9, z10, z11, z12, ?_⟩
    unfold forL
    show (match turnS [x0, some (.loc 0), some i, x3, x4, x5, x6, x7, x8, x9, x10, x11, x12] [drawOb ns a l u] with
      | .nx ρ2 st2 => forL (gN 2) turnS items ρ2 st2
      | .ct ρ2 st2 => forL (gN 2) turnS items ρ2 st2
      | .bk ρ2 st2 => .nx ρ2 st2
      | .rt v st2 => .rt v st2
      | .ex x ρ2 st2 => .ex x ρ2 st2
      | .bad => .bad) = _
    rw [e1]
    exact e2
def gs3 : List (Int × Int) := [(-1, 0), (0, -1), (0, 1)]
theorem good3 : GoodH 2 gs3 := by
  refine ⟨by decide, by decide, by decide, fun g hg => ?_, ?_⟩
  · simp only [gs3, List.mem_cons, List.not_mem_nil, or_false] at hg
    rcases hg with rfl | rfl | rfl <;> decide
  · simp [gs3, ltG]
theorem good8 : GoodH 8 [] := ⟨by decide, by decide, by decide, fun g hg => absurd hg List.not_mem_nil, List.Pairwise.nil⟩
theorem good0 : GoodH 3 [] := ⟨by decide, by decide, by decide, fun g hg => absurd hg List.not_mem_nil, List.Pairwise.nil⟩
theorem goodc : GoodC gs3 [0, 1, 1000000000000000000000000000000] := ⟨rfl, fun c hc => by
  simp only [List.mem_cons, List.not_mem_nil, or_false] at hc
  rcases hc with rfl | rfl | rfl <;> decide⟩
theorem t3 : ("2\n-1 0\n0 -1\n0 1" : Str) = nS (houseW 2 gs3) := by decide +kernel
theorem t8 : ("8" : Str) = nS (houseW 8 []) := by decide +kernel
theorem tm : ("-" : Str) = nS (numsW []) := by decide +kernel
theorem tc : ("0 1 1" : Str) ++ Txt.mul "0" 30 = nS (numsW [0, 1, 1000000000000000000000000000000]) := by decide +kernel
end K12

set_option Elab.async false
set_option linter.all false
set_option maxRecDepth 100000
set_option maxHeartbeats 1000000
namespace K12
open PySem PySem.Spec PyProof.Rows L2 Ev
def tl1 : S := sSet 3 (eTup (eCons (eC (.int 2)) (eCons (eTup (eCons (eTup (eCons (fNeg (eC (.int 1))) (eCons (eC (.int 0)) eNil))) (eCons (eTup (eCons (eC (.int 0)) (eCons (fNeg (eC (.int 1))) eNil))) (eCons (eTup (eCons (eC (.int 0)) (eCons (eC (.int 1)) eNil))) eNil)))) eNil)))
def tl2 : S := sIf (eOrT (eTest (eB fNeA (eCall 1 m_house_text (eCons (eV 3) eNil)) (eC (.str "2\n-1 0\n0 -1\n0 1")))) (eTest (eB fNeA (eCall 1 m_read_house (eCons (eC (.str "8")) eNil)) (eTup (eCons (eC (.int 8)) (eCons (eTup eNil) eNil)))))) (sRet (eC (.bl false))) sSkip
def tl3 : S := sIf (eTest (eB fNeA (eCall 2 m_read_counts (eCons (eTup (eCons (eC (.int 3)) (eCons (eTup eNil) eNil))) (eCons (eC (.str "-")) eNil))) (eTup eNil))) (sRet (eC (.bl false))) sSkip
def tl4 : S := sRet (eB fEqA (eCall 2 m_read_counts (eCons (eV 3) (eCons (eB fAdd (eC (.str "0 1 1")) (eB fMul (eC (.str "0")) (eC (.int 30)))) eNil))) (eTup (eCons (eC (.int 0)) (eCons (eC (.int 1)) (eCons (eB fPow (eC (.int 10)) (eC (.int 30))) eNil)))))
theorem tail_is : tailS = sSeq tl1 (sSeq tl2 (sSeq tl3 tl4)) := rfl
theorem three_le : (3 ≤ sizeLine) = True := eq_true (by decide)
section
variable {st : Sto} {x0 x1 x2 x3 x4 x5 x6 x7 x8 x9 x10 x11 x12 : Option Val}
theorem tl1_ok : tl1 [x0, x1, x2, x3, x4, x5, x6, x7, x8, x9, x10, x11, x12] st = .nx [x0, x1, x2, some (gh 2 gs3), x4, x5, x6, x7, x8, x9, x10, x11, x12] st := by
  simp [tl1, sSet, eTup, eCons, eNil, eC, fNeg, bindR, bindS, two_le, three_le, gh, gs3, pV]
theorem tl2_ok : tl2 [x0, x1, x2, some (gh 2 gs3), x4, x5, x6, x7, x8, x9, x10, x11, x12] st = .nx [x0, x1, x2, some (gh 2 gs3), x4, x5, x6, x7, x8, x9, x10, x11, x12] st := by
  have h3 : ∀ st, m_house_text [gh 2 gs3] st = .ok (.str (nS (houseW 2 gs3))) st := fun st => house_text_ok good3
  have h8 : ∀ st, m_read_house [.str (nS (houseW 8 []))] st = .ok (.tup [.int 8, .tup []]) st := fun st => read_house_ok good8
  have n8 : ∀ st, fNeA st (.tup [.int 8, .tup []]) (.tup [.int 8, .tup []]) = some (.bl false) := fun st => neA_self (d := hD 8 []) rfl (sm_gh good8) (by decide)
  unfold tl2
  rw [t3, t8]
  generalize nS (houseW 2 gs3) = z3 at h3 ⊢
  generalize nS (houseW 8 []) = z8 at h8 ⊢
  generalize gh 2 gs3 = g at h3 ⊢
  simp only [sIf, eOrT, eTest, eB, eCall, eCons, eNil, eV, eC, eTup, bindR, bindS, optR, List.getElem?_cons_succ, List.getElem?_cons_zero, List.length_cons, List.length_nil, Nat.zero_add, Nat.reduceAdd, if_true, eq_self, h3, neA_str, h8, two_le, n8, sSkip, Nat.zero_le, Bool.false_eq_true, if_false]
theorem tl3_ok : tl3 [x0, x1, x2, some (gh 2 gs3), x4, x5, x6, x7, x8, x9, x10, x11, x12] st = .nx [x0, x1, x2, some (gh 2 gs3), x4, x5, x6, x7, x8, x9, x10, x11, x12] st := by
  have h0 : ∀ st, m_read_counts [.tup [.int 3, .tup []], .str (nS (numsW []))] st = .ok (.tup []) st := fun st => read_counts_ok good0 ⟨rfl, fun c hc => absurd hc List.not_mem_nil⟩
  have n0 : ∀ st, fNeA st (.tup []) (.tup []) = some (.bl false) := fun st => neA_self (d := .tuple []) rfl (sm_cs (cs := []) (by decide) fun c hc => absurd hc List.not_mem_nil) (by decide)
  unfold tl3
  rw [tm]
  generalize nS (numsW []) = z at h0 ⊢
  simp only [sIf, eOrT, eTest, eB, eCall, eCons, eNil, eV, eC, eTup, bindR, bindS, optR, List.length_cons, List.length_nil, Nat.zero_add, Nat.reduceAdd, if_true, eq_self, h0, two_le, n0, sSkip, Nat.zero_le, Bool.false_eq_true, if_false]
theorem tl4_ok : tl4 [x0, x1, x2, some (gh 2 gs3), x4, x5, x6, x7, x8, x9, x10, x11, x12] st = .rt (.bl true) st := by
  have hc : ∀ st, m_read_counts [gh 2 gs3, .str (nS (numsW [0, 1, 1000000000000000000000000000000]))] st = .ok (.tup [.int 0, .int 1, .int 1000000000000000000000000000000]) st := fun st => read_counts_ok good3 goodc
  have ec : ∀ st, fEqA st (.tup [.int 0, .int 1, .int 1000000000000000000000000000000]) (.tup [.int 0, .int 1, .int 1000000000000000000000000000000]) = some (.bl true) := fun st => eqA_self (d := .tuple ([0, 1, 1000000000000000000000000000000].map .int)) rfl (sm_cs (by decide) goodc.at_) (by decide)
  have m30 : ∀ st, fMul st (.str "0") (.int 30) = some (.str (Txt.mul "0" 30)) := fun st => by
    simp only [fMul]
    rw [if_pos (by decide)]
  have a30 : ∀ st, fAdd st (.str "0 1 1") (.str (Txt.mul "0" 30)) = some (.str (nS (numsW [0, 1, 1000000000000000000000000000000]))) := fun st => by
    simp only [fAdd]
    rw [if_pos (by decide +kernel), tc]
  unfold tl4
  generalize nS (numsW [0, 1, 1000000000000000000000000000000]) = z at hc a30
  generalize Txt.mul "0" 30 = zz at m30 a30
  generalize gh 2 gs3 = g at hc ⊢
  simp only [sRet, eB, eCall, eCons, eNil, eV, eC, eTup, bindR, bindS, optR, List.getElem?_cons_succ, List.getElem?_cons_zero, List.length_cons, List.length_nil, Nat.zero_add, Nat.reduceAdd, if_true, eq_self, m30, a30, hc, pow30, three_le, ec]
theorem tail_ok : tailS [x0, x1, x2, x3, x4, x5, x6, x7, x8, x9, x10, x11, x12] st = .rt (.bl true) st := by
  rw [tail_is]
  simp only [sSeq, tl1_ok, tl2_ok, tl3_ok, tl4_ok]
end
end K12

set_option Elab.async false
set_option linter.all false
set_option maxRecDepth 100000
set_option maxHeartbeats 1000000
namespace K12
open PySem PySem.Spec PyProof.Rows L2 Ev
theorem plain (ns : List Int) (hl : ns.length ≤ 63) : ∃ st, m_law [.lst (ns.map .int)] [] = .ok (.bl true) st := by
  obtain ⟨a, l, u, y2, y3, y4, y5, y6, y7, y8, y9, y10, y11, y12, e⟩ := turns_all (ns := ns ++ [0]) (x0 := some (.lst (ns.map .int))) (rangeV 0 10) 0 0 0 0 none none none none none none none none none none none
    ⟨by simp, by simp; omega, by decide, by decide, by decide, by decide⟩ (by rw [rangeV_length]; decide)
  have key : b_law (startE 13 [.lst (ns.map .int)]) [] = .rt (.bl true) [drawOb (ns ++ [0]) a l u] := by
    rw [law_is]
    have s1 : sSet 1 (eCall 1 m__law_begin (eCons (eV 0) eNil)) (startE 13 [.lst (ns.map .int)]) [] = .nx [some (.lst (ns.map .int)), some (.loc 0), none, none, none, none, none, none, none, none, none, none, none] [drawOb (ns ++ [0]) 0 0 0] := by
      simp [sSet, startE, eCall, eCons, eNil, eV, bindR, bindS, begin_ok ns hl]
    have s2 : sFor (itRange1 (eCons (eC (.int 10)) eNil)) (gN 2) turnS [some (.lst (ns.map .int)), some (.loc 0), none, none, none, none, none, none, none, none, none, none, none] [drawOb (ns ++ [0]) 0 0 0] = .nx [some (.lst (ns.map .int)), some (.loc 0), y2, y3, y4, y5, y6, y7, y8, y9, y10, y11, y12] [drawOb (ns ++ [0]) a l u] := by
      have hi : ∀ st, itRange1 (eCons (eC (.int 10)) eNil) [some (.lst (ns.map .int)), some (.loc 0), none, none, none, none, none, none, none, none, none, none, none] st = .ok (rangeV 0 10) st := fun st => by
        simp [itRange1, eCons, eNil, eC, bindR]
      unfold sFor
      rw [hi]
      exact e
    simp only [sSeq, s1, s2, tail_ok]
  unfold m_law runF
  rw [key]
  show ∃ st, fin [] (.bl true) [drawOb (ns ++ [0]) a l u] = .ok (.bl true) st
  exact ⟨_, fin_bel (st := []) (st' := [drawOb (ns ++ [0]) a l u]) (v := .bl true) rfl rfl⟩
end K12

theorem PySem.Challenge.cw_gatecounts_k12_whole_texts_holds : PySem.Challenge.rw_gatecounts_k12_whole_texts.Holds := by
  exact K12.holds_of K12.plain
