import PyProof.Rows.All
import Wide.All
import OpenK.AllK
import Wide.FinOn
import HandS.ForMost
import HandS.ForExc
import HandS.Walk
import HandS.Wide
import HandS.ExcInit
import HandS.Flow
import HandS.TupAny
import HandS.TupMul
import HandS.TupLe
import HandS.Deep
import KE.GoesEnum
import KE.GoesMore
import HandS.Zip
import HandS.SortInts
import HandS.TupLen
import HandS.Base
import HandS.Call
import HandS.Ends
import HandS.Defaults
import HandS.ExcOwn
import HandS.HeadEnd
import HandS.Head0
import HandS.Head1
import HandS.Head2
import HandS.HeadHook1
import HandS.HeadHook2
import HandS.IsInst
import PyProof.StrBlock2
import HandS.Style
import HandS.Conv
import HandS.SortRule
import HandS.More
import HandS.Text
import HandS.RaiseMore
import PyProof.ReprRoads
import HandS.Codes
import PyProof.ReprLen
import PyProof.ReprBulk
import PyProof.P3Eq
import HandS.ClsMeth
import KE.KExcInit
import KE.KTryMore
import HandS.Exc
import HandS.Comp
import HandS.DictComp
import HandS.Dict
import HandS.TupSets
import HandS.SortOrd
import KE.KTupSum
import KE.DataMinMax
import KE.SortKeyHeap
import HandS.HeadHook3
import HandS.HeadHook4
import KE.KDictKeyed
import HandS.ExcField
import HandS.ExcIs
import KE.KStateDown
import Lean
import PySem.Challenge.RW_gatecounts_k01_errors_made
set_option Elab.async false
set_option linter.all false
set_option maxRecDepth 100000
set_option maxHeartbeats 2000000
namespace Ev
open PySem PySem.Spec PyProof.Rows L2

inductive Val where
  | non | bl (b : Bool) | int (i : Int) | str (s : Str)
  | tup (xs : List Val) | lst (xs : List Val) | dct (ks : List Key) (vs : List Val)
  | loc (n : Nat)
  | exc (c : Nat) (ns : List Str) (vs : List Val)

inductive Ob where
  | dead
  | lst (xs : List Val)
  | dK (kvs : List (Key × Val)) | dT (kvs : List (List Key × Val))
  | lkK (kvs : List (Key × Val)) | lkT (kvs : List (List Key × Val))
  | ins (c : Nat) (fs : List (Str × Val))
  | dN (kvs : List ((List Int × List Int) × Bool))

abbrev Sto := List Ob
inductive Res (α : Type) where
  | ok (a : α) (st : Sto)
  | ex (x : Val) (st : Sto)
  | bad
abbrev Env := List (Option Val)
abbrev E := Env → Sto → Res Val
abbrev EA := Env → Sto → Res (List Val)
abbrev ET := Env → Sto → Res Bool

structure Tab where
  K : PySem.W.Frag
  ca : Nat → Addr

structure Phi where
  l : List (Option Addr)
  hid : List Addr

/-- a live address of the store -/
def Live (φ : Phi) (a : Addr) : Prop := (∃ n : Nat, φ.l[n]? = some (some a)) ∨ a ∈ φ.hid
def Phi.add (φ : Phi) (p : Addr) : Phi := { φ with l := φ.l ++ [some p] }
def Phi.kill (φ : Phi) (n : Nat) : Phi := { φ with l := φ.l.set n none }
/-- an address that is kept apart -/
def Phi.hide (φ : Phi) (p : Addr) : Phi := { φ with hid := p :: φ.hid }

/-- an exception that is held as a value: its class, its own dict -/
def exv (C d : Addr) (a : Addr) : HO := .ext fun h => ∃ o vs, h.get? a = some o ∧ o.cls = .ref C ∧ o.dict = some d ∧ o.data = .fields vs

/-- a dict whose keys are pairs of tuples of ints, whose values are truth values -/
abbrev NK := List Int × List Int
def nkHash (k : NK) : Int := reduceHash (Builtin.Tuple.tupleHashOf [reduceHash (Builtin.Tuple.tupleHashOf (k.1.map hashInt)), reduceHash (Builtin.Tuple.tupleHashOf (k.2.map hashInt))])
def entN (x : NK × Addr × Bool) : DictEntry := ⟨nkHash x.1, .ref x.2.1, .bool x.2.2⟩
def rawN (a : Addr) (L : List (NK × Addr × Bool)) : HO := .ext fun h => ∃ o es ep, h.get? a = some o ∧ o.ExactDict ∧ o.data = .dict es ep ∧ es.toList = L.map entN ∧ (L.map (·.1)).Nodup ∧ (a == sysModules) = false
def IsNK (H : Hp) (k : NK) (b : Addr) : Prop := ∃ c d, H b = some (.tup [.ref c, .ref d]) ∧ H c = some (.tup (k.1.map V.int)) ∧ H d = some (.tup (k.2.map V.int))
/-- a list of the module's own -/
def LstK (K : PySem.W.Frag) (a : Addr) (xs : List V) : Prop :=
  ∃ (o : Obj) (its : Array Value) (n : Nat), K.lookup a = some o ∧ o.cls = .type "list" ∧ o.dict = none ∧ o.data = .seq its n ∧ its.size ≤ sizeLine ∧ Vals xs its.toList

mutual
inductive RelV (T : Tab) (φ : Phi) (H : Hp) : Val → V → Prop
  | non : RelV T φ H .non .non
  | bl (b : Bool) : RelV T φ H (.bl b) (.bl b)
  | int (i : Int) : RelV T φ H (.int i) (.int i)
  | str (s : Str) : RelV T φ H (.str s) (.str s)
  | tup {xs : List Val} {us : List V} {a : Addr} : H a = some (.tup us) → RelVs T φ H xs us → RelV T φ H (.tup xs) (.ref a)
  | lst {xs : List Val} {us : List V} {a : Addr} : ((¬ Live φ a ∧ Rd H a (.lst us)) ∨ LstK T.K a us) → RelVs T φ H xs us → RelV T φ H (.lst xs) (.ref a)
  | dct {ks : List Key} {vs : List Val} {us : List V} {a : Addr} : ¬ Live φ a → Rd H a (.dK (ks.zip us)) → ks.length = us.length → RelVs T φ H vs us → RelV T φ H (.dct ks vs) (.ref a)
  | loc {n : Nat} {u : V} : n < φ.l.length → (∀ a, φ.l[n]? = some (some a) → u = .ref a) → RelV T φ H (.loc n) u
  | exc {c : Nat} {ns : List Str} {vs : List Val} {us : List V} {a d : Addr} : ¬ Live φ a → ¬ Live φ d → Rd H a (exv (T.ca c) d a) → Rd H d (.xd (ns.zip us)) → ns.length = us.length →
      RelVs T φ H vs us → RelV T φ H (.exc c ns vs) (.ref a)
inductive RelVs (T : Tab) (φ : Phi) (H : Hp) : List Val → List V → Prop
  | nil : RelVs T φ H [] []
  | cons {x : Val} {u : V} {xs : List Val} {us : List V} : RelV T φ H x u → RelVs T φ H xs us → RelVs T φ H (x :: xs) (u :: us)
end

/-- pairs by name, by key -/
def RelF {κ : Type} (T : Tab) (φ : Phi) (H : Hp) : List (κ × Val) → List (κ × V) → Prop := Paired fun p q => p.1 = q.1 ∧ RelV T φ H p.2 q.2

def RelOb (T : Tab) (φ : Phi) (H : Hp) (o : Ob) (a : Addr) : Prop := match o with
  | .dead => False
  | .lst xs => ∃ us, H a = some (.lst us) ∧ RelVs T φ H xs us
  | .dK kvs => ∃ us, H a = some (.dK us) ∧ RelF T φ H kvs us
  | .dT kvs => ∃ us, H a = some (.dT us) ∧ RelF T φ H kvs us
  | .lkK kvs => ∃ o us, H a = some (.frz o (.dK us)) ∧ RelF T φ H kvs us
  | .lkT kvs => ∃ o us, H a = some (.frz o (.dT us)) ∧ RelF T φ H kvs us
  | .ins c fs => ∃ dx us, H a = some (.ins (T.ca c) dx us) ∧ RelF T φ H fs us
  | .dN kvs => ∃ L : List (NK × Addr × Bool), H a = some (rawN a L) ∧ L.map (fun x => (x.1, x.2.2)) = kvs ∧ ∀ x ∈ L, IsNK H x.1 x.2.1

structure Rst (T : Tab) (φ : Phi) (st : Sto) (H : Hp) : Prop where
  len : φ.l.length = st.length
  inj : ∀ (n m : Nat) a, φ.l[n]? = some (some a) → φ.l[m]? = some (some a) → n = m
  ob : ∀ (n : Nat) o, st[n]? = some o → (o = .dead ∧ φ.l[n]? = some none) ∨ ∃ a, φ.l[n]? = some (some a) ∧ RelOb T φ H o a
  hid : ∀ a, a ∈ φ.hid → H a ≠ none
  apart : ∀ (n : Nat) a, φ.l[n]? = some (some a) → a ∉ φ.hid

structure Ext (φ : Phi) (H : Hp) (φ' : Phi) (H' : Hp) : Prop where
  len : φ.l.length ≤ φ'.l.length
  old : ∀ (n : Nat) a, φ'.l[n]? = some (some a) → n < φ.l.length → φ.l[n]? = some (some a)
  new : ∀ (n : Nat) a, φ'.l[n]? = some (some a) → φ.l.length ≤ n → H a = none
  tups : ∀ a us, H a = some (.tup us) → H' a = some (.tup us)
  rd : ∀ a u, ¬ Live φ a → Rd H a u → Rd H' a u
  non : ∀ a, H a ≠ none → H' a ≠ none
  hid : φ'.hid = φ.hid
  hidk : ∀ a, a ∈ φ.hid → H' a = H a

theorem Ext.refl {φ : Phi} {H : Hp} : Ext φ H φ H where
  len := Nat.le_refl _
  old := fun _ _ h _ => h
  new := fun n a h hn => by
    have := (List.getElem?_eq_some_iff.mp h).1
    omega
  tups := fun _ _ h => h
  rd := fun _ _ _ h => h
  non := fun _ h => h
  hid := rfl
  hidk := fun _ _ => rfl
theorem rd_some {H : Hp} {a : Addr} {u : HO} (r : Rd H a u) : H a ≠ none := by
  rcases r with r | ⟨o, r⟩ <;> rw [r] <;> simp
theorem Ext.dead {φ φ' : Phi} {H H' : Hp} (e : Ext φ H φ' H') {a : Addr} (h : ¬ Live φ a) (hs : H a ≠ none) : ¬ Live φ' a := by
  rintro (⟨n, hn⟩ | hm)
  · by_cases hl : n < φ.l.length
    · exact h (.inl ⟨n, e.old n a hn hl⟩)
    · exact hs (e.new n a hn (by omega))
  · exact h (.inr (e.hid ▸ hm))
theorem Ext.trans {φ φ' φ'' : Phi} {H H' H'' : Hp} (e : Ext φ H φ' H') (f : Ext φ' H' φ'' H'') : Ext φ H φ'' H'' where
  len := Nat.le_trans e.len f.len
  old := fun n a h hn => e.old n a (f.old n a h (Nat.lt_of_lt_of_le hn e.len)) hn
  new := fun n a h hn => by
    by_cases hl : n < φ'.l.length
    · exact e.new n a (f.old n a h hl) hn
    · have z := f.new n a h (by omega)
      cases q : H a with
      | none => rfl
      | some o => exact absurd z (e.non a (by rw [q]; simp))
  tups := fun a us h => f.tups a us (e.tups a us h)
  rd := fun a u h r => f.rd a u (e.dead h (rd_some r)) (e.rd a u h r)
  non := fun a h => f.non a (e.non a h)
  hid := f.hid.trans e.hid
  hidk := fun a h => (f.hidk a (e.hid ▸ h)).trans (e.hidk a h)

section
variable {T : Tab} {φ φ' : Phi} {H H' : Hp}
mutual
theorem RelV.ext (e : Ext φ H φ' H') : ∀ {x : Val} {u : V}, RelV T φ H x u → RelV T φ' H' x u
  | _, _, .non => .non
  | _, _, .bl b => .bl b
  | _, _, .int i => .int i
  | _, _, .str s => .str s
  | _, _, .tup h r => .tup (e.tups _ _ h) (RelVs.ext e r)
  | _, _, .lst h r => .lst (h.elim (fun q => .inl ⟨e.dead q.1 (rd_some q.2), e.rd _ _ q.1 q.2⟩) .inr) (RelVs.ext e r)
  | _, _, .dct n h l r => .dct (e.dead n (rd_some h)) (e.rd _ _ n h) l (RelVs.ext e r)
  | _, _, .loc h r => .loc (Nat.lt_of_lt_of_le h e.len) (fun a q => r a (e.old _ a q h))
  | _, _, .exc n1 n2 h1 h2 l r => .exc (e.dead n1 (rd_some h1)) (e.dead n2 (rd_some h2)) (e.rd _ _ n1 h1) (e.rd _ _ n2 h2) l (RelVs.ext e r)
theorem RelVs.ext (e : Ext φ H φ' H') : ∀ {xs : List Val} {us : List V}, RelVs T φ H xs us → RelVs T φ' H' xs us
  | _, _, .nil => .nil
  | _, _, .cons a b => .cons (RelV.ext e a) (RelVs.ext e b)
end
theorem Paired.imp {α β : Type} {F G : α → β → Prop} : ∀ {l₁ : List α} {l₂ : List β}, Paired F l₁ l₂ → (∀ a b, F a b → G a b) → Paired G l₁ l₂
  | _, _, .nil, _ => .nil
  | _, _, .cons r t, f => .cons (f _ _ r) (Paired.imp t f)
theorem RelF.ext {κ : Type} (e : Ext φ H φ' H') {xs : List (κ × Val)} {us : List (κ × V)} (r : RelF T φ H xs us) : RelF T φ' H' xs us :=
  Paired.imp r fun _ _ h => ⟨h.1, h.2.ext e⟩
theorem RelVs.length : ∀ {xs : List Val} {us : List V}, RelVs T φ H xs us → xs.length = us.length
  | _, _, .nil => rfl
  | _, _, .cons _ b => by simp [RelVs.length b]
theorem RelVs.get : ∀ {xs : List Val} {us : List V} {i : Nat} {x : Val}, RelVs T φ H xs us → xs[i]? = some x → ∃ u, us[i]? = some u ∧ RelV T φ H x u
  | _, _, _, _, .nil, e => by simp at e
  | _, _, 0, _, .cons r _, e => by simp at e; subst e; exact ⟨_, rfl, r⟩
  | _, _, i + 1, x, .cons _ t, e => by
    obtain ⟨u, h1, h2⟩ := RelVs.get (i := i) (x := x) t (by simpa using e)
    exact ⟨u, by simpa using h1, h2⟩
theorem RelVs.got : ∀ {xs : List Val} {us : List V} {i : Nat} {u : V}, RelVs T φ H xs us → us[i]? = some u → ∃ x, xs[i]? = some x ∧ RelV T φ H x u
  | _, _, _, _, .nil, e => by simp at e
  | _, _, 0, _, .cons r _, e => by simp at e; subst e; exact ⟨_, rfl, r⟩
  | _, _, i + 1, x, .cons _ t, e => by
    obtain ⟨u, h1, h2⟩ := RelVs.got (i := i) (u := x) t (by simpa using e)
    exact ⟨u, by simpa using h1, h2⟩
theorem RelVs.append : ∀ {xs ys : List Val} {us ws : List V}, RelVs T φ H xs us → RelVs T φ H ys ws → RelVs T φ H (xs ++ ys) (us ++ ws)
  | _, _, _, _, .nil, s => s
  | _, _, _, _, .cons r t, s => .cons r (RelVs.append t s)
theorem RelVs.take : ∀ {xs : List Val} {us : List V} (n : Nat), RelVs T φ H xs us → RelVs T φ H (xs.take n) (us.take n)
  | _, _, 0, _ => .nil
  | _, _, _ + 1, .nil => .nil
  | _, _, n + 1, .cons r t => .cons r (RelVs.take n t)
theorem RelVs.drop : ∀ {xs : List Val} {us : List V} (n : Nat), RelVs T φ H xs us → RelVs T φ H (xs.drop n) (us.drop n)
  | _, _, 0, r => r
  | _, _, _ + 1, .nil => .nil
  | _, _, n + 1, .cons _ t => RelVs.drop n t
theorem RelVs.set {x : Val} {u : V} (r : RelV T φ H x u) : ∀ {xs : List Val} {us : List V} (i : Nat), RelVs T φ H xs us → RelVs T φ H (xs.set i x) (us.set i u)
  | _, _, _, .nil => .nil
  | _, _, 0, .cons _ t => .cons r t
  | _, _, i + 1, .cons q t => .cons q (RelVs.set r i t)
theorem RelVs.dropLast {xs : List Val} {us : List V} (r : RelVs T φ H xs us) : RelVs T φ H xs.dropLast us.dropLast := by
  rw [List.dropLast_eq_take, List.dropLast_eq_take, ← r.length]
  exact r.take _
theorem RelVs.reverse : ∀ {xs : List Val} {us : List V}, RelVs T φ H xs us → RelVs T φ H xs.reverse us.reverse
  | _, _, .nil => .nil
  | _, _, .cons r t => by
    rw [List.reverse_cons, List.reverse_cons]
    exact RelVs.append (RelVs.reverse t) (.cons r .nil)

theorem relOb_some {o : Ob} {a : Addr} (h : RelOb T φ H o a) : ∃ u, H a = some u := by
  cases o with
  | dead => exact h.elim
  | lst xs => obtain ⟨us, e, _⟩ := h; exact ⟨_, e⟩
  | dK kvs => obtain ⟨us, e, _⟩ := h; exact ⟨_, e⟩
  | dT kvs => obtain ⟨us, e, _⟩ := h; exact ⟨_, e⟩
  | lkK kvs => obtain ⟨o, us, e, _⟩ := h; exact ⟨_, e⟩
  | lkT kvs => obtain ⟨o, us, e, _⟩ := h; exact ⟨_, e⟩
  | ins c fs => obtain ⟨o, us, e, _⟩ := h; exact ⟨_, e⟩
  | dN kvs => obtain ⟨L, e, _⟩ := h; exact ⟨_, e⟩
theorem relOb_notup {o : Ob} {a : Addr} (h : RelOb T φ H o a) : ∀ us, H a ≠ some (.tup us) := by
  intro us z
  cases o with
  | dead => exact h.elim
  | lst xs => obtain ⟨us, e, _⟩ := h; rw [e] at z; cases z
  | dK kvs => obtain ⟨us, e, _⟩ := h; rw [e] at z; cases z
  | dT kvs => obtain ⟨us, e, _⟩ := h; rw [e] at z; cases z
  | lkK kvs => obtain ⟨o, us, e, _⟩ := h; rw [e] at z; cases z
  | lkT kvs => obtain ⟨o, us, e, _⟩ := h; rw [e] at z; cases z
  | ins c fs => obtain ⟨o, us, e, _⟩ := h; rw [e] at z; cases z
  | dN kvs => obtain ⟨L, e, _⟩ := h; rw [e] at z; cases z
theorem RelOb.ext (e : Ext φ H φ' H') {o : Ob} {a : Addr} (h : RelOb T φ H o a) (k : H' a = H a) : RelOb T φ' H' o a := by
  cases o with
  | dead => exact h
  | lst xs => obtain ⟨us, q, r⟩ := h; exact ⟨us, k.trans q, r.ext e⟩
  | dK kvs => obtain ⟨us, q, r⟩ := h; exact ⟨us, k.trans q, r.ext e⟩
  | dT kvs => obtain ⟨us, q, r⟩ := h; exact ⟨us, k.trans q, r.ext e⟩
  | lkK kvs => obtain ⟨o, us, q, r⟩ := h; exact ⟨o, us, k.trans q, r.ext e⟩
  | lkT kvs => obtain ⟨o, us, q, r⟩ := h; exact ⟨o, us, k.trans q, r.ext e⟩
  | ins c fs => obtain ⟨o, us, q, r⟩ := h; exact ⟨o, us, k.trans q, r.ext e⟩
  | dN kvs => obtain ⟨L, q, q2, r⟩ := h; exact ⟨L, k.trans q, q2, fun x hx => let ⟨c, d, h1, h2, h3⟩ := r x hx; ⟨c, d, e.tups _ _ h1, e.tups _ _ h2, e.tups _ _ h3⟩⟩
theorem Rst.has {st : Sto} (R : Rst T φ st H) {n : Nat} {a : Addr} (h : φ.l[n]? = some (some a)) : ∃ u, H a = some u := by
  have hl := (List.getElem?_eq_some_iff.mp h).1
  rw [R.len] at hl
  rcases R.ob n st[n] (by simp [hl]) with ⟨_, q⟩ | ⟨b, q, r⟩
  · rw [h] at q; cases q
  · rw [h] at q; cases q; exact relOb_some r
theorem Rst.notup {st : Sto} (R : Rst T φ st H) {n : Nat} {a : Addr} (h : φ.l[n]? = some (some a)) (us : List V) : H a ≠ some (.tup us) := by
  have hl := (List.getElem?_eq_some_iff.mp h).1
  rw [R.len] at hl
  rcases R.ob n st[n] (by simp [hl]) with ⟨_, q⟩ | ⟨b, q, r⟩
  · rw [h] at q; cases q
  · rw [h] at q; cases q; exact relOb_notup r us
theorem Rst.nolive {st : Sto} (R : Rst T φ st H) {a : Addr} (h : H a = none) : ¬ Live φ a := by
  rintro (⟨n, hn⟩ | hm)
  · obtain ⟨u, e⟩ := R.has hn
    rw [h] at e; cases e
  · exact R.hid a hm h
/-- what stands at a live place -/
theorem Rst.at {st : Sto} (R : Rst T φ st H) {n : Nat} {o : Ob} (h : st[n]? = some o) (hd : o ≠ .dead) : ∃ a, φ.l[n]? = some (some a) ∧ RelOb T φ H o a := by
  rcases R.ob n o h with ⟨e, _⟩ | q
  · exact absurd e hd
  · exact q
/-- a new object, not of the store -/
theorem Ext.fresh {st : Sto} (R : Rst T φ st H) {p : Addr} {ho : HO} (hp : H p = none) : Ext φ H φ (upd H p ho) where
  len := Nat.le_refl _
  old := fun _ _ h _ => h
  new := fun n a h hn => by
    have := (List.getElem?_eq_some_iff.mp h).1
    omega
  tups := fun a us h => by rw [upd_ne (ne_of_none h hp)]; exact h
  rd := fun a u _ r => by
    rcases r with r | ⟨o, r⟩
    · exact .inl (by rw [upd_ne (ne_of_none r hp)]; exact r)
    · exact .inr ⟨o, by rw [upd_ne (ne_of_none r hp)]; exact r⟩
  non := fun a h => by
    by_cases e : a = p
    · subst e; exact absurd hp h
    · rw [upd_ne e]; exact h
  hid := rfl
  hidk := fun a h => upd_ne fun e => R.hid a h (e ▸ hp)
theorem Rst.fresh {st : Sto} (R : Rst T φ st H) {p : Addr} {ho : HO} (hp : H p = none) : Rst T φ st (upd H p ho) where
  len := R.len
  inj := R.inj
  ob := fun n o h => by
    rcases R.ob n o h with q | ⟨a, q, r⟩
    · exact .inl q
    · refine .inr ⟨a, q, r.ext (Ext.fresh R hp) ?_⟩
      obtain ⟨u, e⟩ := relOb_some r
      rw [upd_ne (ne_of_none e hp)]
  hid := fun a h => (Ext.fresh R hp).non a (R.hid a h)
  apart := R.apart
theorem add_get {φ : Phi} {p a : Addr} {k : Nat} (h : (φ.add p).l[k]? = some (some a)) : (k < φ.l.length ∧ φ.l[k]? = some (some a)) ∨ (k = φ.l.length ∧ a = p) := by
  have h : (φ.l ++ [some p])[k]? = some (some a) := h
  by_cases hk : k < φ.l.length
  · rw [List.getElem?_append_left hk] at h; exact .inl ⟨hk, h⟩
  · rw [List.getElem?_append_right (by omega)] at h
    have e : k - φ.l.length = 0 := by
      have := (List.getElem?_eq_some_iff.mp h).1
      simp at this; omega
    rw [e] at h
    simp at h
    exact .inr ⟨by omega, h.symm⟩
theorem add_old {φ : Phi} {p : Addr} {k : Nat} {x : Option Addr} (h : φ.l[k]? = some x) : (φ.add p).l[k]? = some x := by
  show (φ.l ++ [some p])[k]? = _
  rw [List.getElem?_append_left (List.getElem?_eq_some_iff.mp h).1]
  exact h
/-- a new object of the store -/
theorem Ext.alloc {st : Sto} (R : Rst T φ st H) {p : Addr} {ho : HO} (hp : H p = none) : Ext φ H (φ.add p) (upd H p ho) where
  len := by show φ.l.length ≤ (φ.l ++ [some p]).length; simp
  old := fun n a h hn => by
    rcases add_get h with ⟨_, q⟩ | ⟨q, _⟩
    · exact q
    · omega
  new := fun n a h hn => by
    rcases add_get h with ⟨q, _⟩ | ⟨_, q⟩
    · omega
    · rw [q]; exact hp
  tups := (Ext.fresh (ho := ho) R hp).tups
  rd := (Ext.fresh (ho := ho) R hp).rd
  non := (Ext.fresh (ho := ho) R hp).non
  hid := rfl
  hidk := (Ext.fresh (ho := ho) R hp).hidk
theorem Rst.alloc {st : Sto} (R : Rst T φ st H) {p : Addr} {ho : HO} {o : Ob} (hp : H p = none) (hr : RelOb T (φ.add p) (upd H p ho) o p) : Rst T (φ.add p) (st ++ [o]) (upd H p ho) where
  len := by show (φ.l ++ [some p]).length = _; simp [R.len]
  inj := fun n m a h1 h2 => by
    rcases add_get h1 with ⟨_, q1⟩ | ⟨l1, e1⟩
    · rcases add_get h2 with ⟨_, q2⟩ | ⟨l2, e2⟩
      · exact R.inj n m a q1 q2
      · subst e2
        obtain ⟨u, e⟩ := R.has q1
        rw [hp] at e; cases e
    · rcases add_get h2 with ⟨_, q2⟩ | ⟨l2, e2⟩
      · subst e1
        obtain ⟨u, e⟩ := R.has q2
        rw [hp] at e; cases e
      · omega
  ob := fun n o' h => by
    by_cases hn : n < st.length
    · rw [List.getElem?_append_left hn] at h
      rcases R.ob n o' h with ⟨q1, q2⟩ | ⟨a, q, r⟩
      · exact .inl ⟨q1, add_old q2⟩
      · refine .inr ⟨a, add_old q, r.ext (Ext.alloc R hp) ?_⟩
        obtain ⟨u, e⟩ := relOb_some r
        rw [upd_ne (ne_of_none e hp)]
    · rw [List.getElem?_append_right (by omega)] at h
      have e : n - st.length = 0 := by
        have := (List.getElem?_eq_some_iff.mp h).1
        simp at this; omega
      rw [e] at h
      simp at h
      subst h
      refine .inr ⟨p, ?_, hr⟩
      have : n = φ.l.length := by rw [R.len]; omega
      subst this
      show (φ.l ++ [some p])[φ.l.length]? = _
      simp
  hid := fun a h => (Ext.alloc R hp).non a (R.hid a h)
  apart := fun n a h => by
    rcases add_get h with ⟨_, q⟩ | ⟨_, rfl⟩
    · exact R.apart n a q
    · exact fun z => R.hid a z hp
/-- a store's object is changed -/
theorem Ext.write {st : Sto} (R : Rst T φ st H) {n : Nat} {a : Addr} {ho : HO} (hn : φ.l[n]? = some (some a)) : Ext φ H φ (upd H a ho) where
  len := Nat.le_refl _
  old := fun _ _ h _ => h
  new := fun m b h hm => by
    have := (List.getElem?_eq_some_iff.mp h).1
    omega
  tups := fun b us h => by
    have : b ≠ a := fun z => by subst z; exact R.notup hn us h
    rw [upd_ne this]; exact h
  rd := fun b u hl r => by
    have : b ≠ a := fun z => by subst z; exact hl (.inl ⟨n, hn⟩)
    rcases r with r | ⟨o, r⟩
    · exact .inl (by rw [upd_ne this]; exact r)
    · exact .inr ⟨o, by rw [upd_ne this]; exact r⟩
  non := fun b h => by
    by_cases e : b = a
    · subst e; rw [upd_same]; simp
    · rw [upd_ne e]; exact h
  hid := rfl
  hidk := fun b h => upd_ne fun e => R.apart n a hn (e ▸ h)
theorem Rst.write {st : Sto} (R : Rst T φ st H) {n : Nat} {a : Addr} {ho : HO} {o : Ob} (hn : φ.l[n]? = some (some a)) (hr : RelOb T φ (upd H a ho) o a) : Rst T φ (st.set n o) (upd H a ho) where
  len := by simp [R.len]
  inj := R.inj
  ob := fun m o' h => by
    by_cases e : m = n
    · subst e
      have hl := (List.getElem?_eq_some_iff.mp hn).1
      rw [R.len] at hl
      rw [List.getElem?_set_self hl] at h
      cases h
      exact .inr ⟨a, hn, hr⟩
    · rw [List.getElem?_set_ne (Ne.symm e)] at h
      rcases R.ob m o' h with q | ⟨b, q, r⟩
      · exact .inl q
      · refine .inr ⟨b, q, r.ext (Ext.write R hn) ?_⟩
        have : b ≠ a := fun z => by subst z; exact e (R.inj m n b q hn)
        rw [upd_ne this]
  hid := fun a h => (Ext.write R hn).non a (R.hid a h)
  apart := R.apart
theorem kill_get {φ : Phi} {n j : Nat} {a : Addr} (h : (φ.kill n).l[j]? = some (some a)) : j ≠ n ∧ φ.l[j]? = some (some a) := by
  have h : (φ.l.set n none)[j]? = some (some a) := h
  by_cases e : j = n
  · subst e
    by_cases hl : j < φ.l.length
    · rw [List.getElem?_set_self hl] at h; cases h
    · rw [List.getElem?_eq_none (by simpa using hl)] at h; cases h
  · rw [List.getElem?_set_ne (Ne.symm e)] at h; exact ⟨e, h⟩
/-- a store's object becomes a value -/
theorem Ext.kill {st : Sto} (R : Rst T φ st H) {n : Nat} : Ext φ H (φ.kill n) H where
  len := by show φ.l.length ≤ (φ.l.set n none).length; simp
  old := fun m b h hm => (kill_get h).2
  new := fun m b h hm => by
    have := (List.getElem?_eq_some_iff.mp (kill_get h).2).1
    omega
  tups := fun _ _ h => h
  rd := fun _ _ _ r => r
  non := fun _ h => h
  hid := rfl
  hidk := fun _ _ => rfl
theorem Rst.kill {st : Sto} (R : Rst T φ st H) {n : Nat} : Rst T (φ.kill n) (st.set n .dead) H where
  len := by show (φ.l.set n none).length = _; simp [R.len]
  inj := fun m k a h1 h2 => R.inj m k a (kill_get h1).2 (kill_get h2).2
  ob := fun m o' h => by
    by_cases e : m = n
    · subst e
      have hl : m < st.length := by
        have := (List.getElem?_eq_some_iff.mp h).1
        simpa using this
      rw [List.getElem?_set_self hl] at h
      cases h
      refine .inl ⟨rfl, ?_⟩
      show (φ.l.set m none)[m]? = _
      rw [List.getElem?_set_self (by rw [R.len]; exact hl)]
    · rw [List.getElem?_set_ne (Ne.symm e)] at h
      have key : ∀ {x : Option Addr}, φ.l[m]? = some x → (φ.kill n).l[m]? = some x := fun {x} q => by
        show (φ.l.set n none)[m]? = _
        rw [List.getElem?_set_ne (Ne.symm e)]; exact q
      rcases R.ob m o' h with ⟨q1, q2⟩ | ⟨b, q, r⟩
      · exact .inl ⟨q1, key q2⟩
      · exact .inr ⟨b, key q, r.ext (Ext.kill R) rfl⟩
  hid := R.hid
  apart := fun m a h => R.apart m a (kill_get h).2
theorem nolive_kill {st : Sto} (R : Rst T φ st H) {n : Nat} {a : Addr} (h : φ.l[n]? = some (some a)) : ¬ Live (φ.kill n) a := by
  rintro (⟨m, hm⟩ | hm)
  · obtain ⟨e, q⟩ := kill_get hm
    exact e (R.inj m n a q h)
  · exact R.apart n a h hm
end
/-- what a value's meaning leans on -/
structure ExtV (φ : Phi) (H : Hp) (φ' : Phi) (H' : Hp) : Prop where
  len : φ.l.length ≤ φ'.l.length
  old : ∀ (n : Nat) a, φ'.l[n]? = some (some a) → n < φ.l.length → φ.l[n]? = some (some a)
  tups : ∀ a us, H a = some (.tup us) → H' a = some (.tup us)
  nl : ∀ a, ¬ Live φ a → H a ≠ none → ¬ Live φ' a
  rd : ∀ a u, ¬ Live φ a → Rd H a u → Rd H' a u
section
variable {T : Tab} {φ φ' : Phi} {H H' : Hp}
mutual
theorem RelV.extV (e : ExtV φ H φ' H') : ∀ {x : Val} {u : V}, RelV T φ H x u → RelV T φ' H' x u
  | _, _, .non => .non
  | _, _, .bl b => .bl b
  | _, _, .int i => .int i
  | _, _, .str s => .str s
  | _, _, .tup h r => .tup (e.tups _ _ h) (RelVs.extV e r)
  | _, _, .lst h r => .lst (h.elim (fun q => .inl ⟨e.nl _ q.1 (rd_some q.2), e.rd _ _ q.1 q.2⟩) .inr) (RelVs.extV e r)
  | _, _, .dct n h l r => .dct (e.nl _ n (rd_some h)) (e.rd _ _ n h) l (RelVs.extV e r)
  | _, _, .loc h r => .loc (Nat.lt_of_lt_of_le h e.len) (fun a q => r a (e.old _ a q h))
  | _, _, .exc n1 n2 h1 h2 l r => .exc (e.nl _ n1 (rd_some h1)) (e.nl _ n2 (rd_some h2)) (e.rd _ _ n1 h1) (e.rd _ _ n2 h2) l (RelVs.extV e r)
theorem RelVs.extV (e : ExtV φ H φ' H') : ∀ {xs : List Val} {us : List V}, RelVs T φ H xs us → RelVs T φ' H' xs us
  | _, _, .nil => .nil
  | _, _, .cons a b => .cons (RelV.extV e a) (RelVs.extV e b)
end
theorem RelF.extV {κ : Type} (e : ExtV φ H φ' H') {xs : List (κ × Val)} {us : List (κ × V)} (r : RelF T φ H xs us) : RelF T φ' H' xs us :=
  Paired.imp r fun _ _ h => ⟨h.1, h.2.extV e⟩
theorem RelOb.extV (e : ExtV φ H φ' H') {o : Ob} {a : Addr} (h : RelOb T φ H o a) (k : H' a = H a) : RelOb T φ' H' o a := by
  cases o with
  | dead => exact h
  | lst xs => obtain ⟨us, q, r⟩ := h; exact ⟨us, k.trans q, r.extV e⟩
  | dK kvs => obtain ⟨us, q, r⟩ := h; exact ⟨us, k.trans q, r.extV e⟩
  | dT kvs => obtain ⟨us, q, r⟩ := h; exact ⟨us, k.trans q, r.extV e⟩
  | lkK kvs => obtain ⟨o, us, q, r⟩ := h; exact ⟨o, us, k.trans q, r.extV e⟩
  | lkT kvs => obtain ⟨o, us, q, r⟩ := h; exact ⟨o, us, k.trans q, r.extV e⟩
  | ins c fs => obtain ⟨o, us, q, r⟩ := h; exact ⟨o, us, k.trans q, r.extV e⟩
  | dN kvs => obtain ⟨L, q, q2, r⟩ := h; exact ⟨L, k.trans q, q2, fun x hx => let ⟨c, d, h1, h2, h3⟩ := r x hx; ⟨c, d, e.tups _ _ h1, e.tups _ _ h2, e.tups _ _ h3⟩⟩
theorem Ext.v (e : Ext φ H φ' H') : ExtV φ H φ' H' := ⟨e.len, e.old, e.tups, fun _ => e.dead, e.rd⟩
theorem live_hide {φ : Phi} {D a : Addr} (h : ¬ Live (φ.hide D) a) : ¬ Live φ a ∧ a ≠ D := by
  refine ⟨fun q => h ?_, fun e => h (.inr (by subst e; exact List.mem_cons_self ..))⟩
  rcases q with q | q
  · exact .inl q
  · exact .inr (List.mem_cons_of_mem _ q)
theorem of_live_hide {φ : Phi} {D a : Addr} (h : ¬ Live φ a) (n : a ≠ D) : ¬ Live (φ.hide D) a := by
  rintro (q | q)
  · exact h (.inl q)
  · rcases List.mem_cons.mp q with e | q
    · exact n e
    · exact h (.inr q)
/-- into the block: D is kept apart -/
theorem Ext.intoV {D : Addr} (e : Ext φ H φ' H') (hD : H D = none) : ExtV φ H (φ'.hide D) H' :=
  ⟨e.len, e.old, e.tups, fun a h hs => of_live_hide (e.dead h hs) fun z => hs (z ▸ hD), e.rd⟩
theorem unhideV {D : Addr} : ExtV (φ.hide D) H φ H :=
  ⟨Nat.le_refl _, fun _ _ h _ => h, fun _ _ h => h, fun _ h _ => (live_hide h).1, fun _ _ _ r => r⟩
theorem Rst.unhide {st : Sto} {D : Addr} (R : Rst T (φ.hide D) st H) : Rst T φ st H where
  len := R.len
  inj := R.inj
  ob := fun n o h => by
    rcases R.ob n o h with q | ⟨a, q, r⟩
    · exact .inl q
    · exact .inr ⟨a, q, r.extV unhideV rfl⟩
  hid := fun a h => R.hid a (List.mem_cons_of_mem _ h)
  apart := fun n a h z => R.apart n a h (List.mem_cons_of_mem _ z)
theorem Rst.hide {st : Sto} {D : Addr} {o : HO} (R : Rst T φ st H) (hD : H D = none) : Rst T (φ.hide D) st (upd H D o) where
  len := R.len
  inj := R.inj
  ob := fun n ob h => by
    rcases R.ob n ob h with q | ⟨a, q, r⟩
    · exact .inl q
    · refine .inr ⟨a, q, r.extV ((Ext.fresh (ho := o) R hD).intoV hD) ?_⟩
      obtain ⟨u, e⟩ := relOb_some r
      rw [upd_ne (ne_of_none e hD)]
  hid := fun a h => by
    rcases List.mem_cons.mp h with e | h
    · rw [e, upd_same]; simp
    · exact (Ext.fresh R hD).non a (R.hid a h)
  apart := fun n a h z => by
    rcases List.mem_cons.mp z with e | z
    · obtain ⟨u, q⟩ := R.has h
      rw [e, hD] at q; cases q
    · exact R.apart n a h z
/-- the hidden thing is changed -/
theorem hidden_v {D : Addr} {o : HO} (ht : ∀ us, H D ≠ some (.tup us)) : ExtV (φ.hide D) H (φ.hide D) (upd H D o) where
  len := Nat.le_refl _
  old := fun _ _ h _ => h
  tups := fun a us h => by
    have : a ≠ D := fun z => ht us (z ▸ h)
    rw [upd_ne this]; exact h
  nl := fun _ h _ => h
  rd := fun a u h r => by
    have n := (live_hide h).2
    rcases r with r | ⟨ob, r⟩
    · exact .inl (by rw [upd_ne n]; exact r)
    · exact .inr ⟨ob, by rw [upd_ne n]; exact r⟩
theorem Rst.hidden {st : Sto} {D : Addr} {o : HO} (R : Rst T (φ.hide D) st H) (ht : ∀ us, H D ≠ some (.tup us)) : Rst T (φ.hide D) st (upd H D o) where
  len := R.len
  inj := R.inj
  ob := fun n ob h => by
    rcases R.ob n ob h with q | ⟨a, q, r⟩
    · exact .inl q
    · exact .inr ⟨a, q, r.extV (hidden_v ht) (upd_ne fun z => R.apart n a q (by rw [z]; exact List.mem_cons_self ..))⟩
  hid := fun a h => by
    by_cases e : a = D
    · rw [e, upd_same]; simp
    · rw [upd_ne e]; exact R.hid a h
  apart := R.apart
/-- what was run within, seen from without -/
theorem Ext.outof {φ1 φ φh : Phi} {H1 H H' : Hp} {D : Addr} (e : Ext φ1 H1 φ H) (f : Ext (φ.hide D) H φh H') (hD : H1 D = none) (h1 : ∀ a, a ∈ φ1.hid → a ≠ D) : ∃ φ', φh = φ'.hide D ∧ Ext φ1 H1 φ' H' ∧ ∀ o, Ext φ1 H1 φ' (upd H' D o) := by
  obtain ⟨l, hid⟩ := φh
  have hh : hid = D :: φ.hid := f.hid
  subst hh
  have base : Ext φ1 H1 ⟨l, φ.hid⟩ H' := {
    len := Nat.le_trans e.len f.len
    old := fun n a h hn => e.old n a (f.old n a h (Nat.lt_of_lt_of_le hn e.len)) hn
    new := fun n a h hn => by
      by_cases hl : n < φ.l.length
      · exact e.new n a (f.old n a h hl) hn
      · have z := f.new n a h (by show φ.l.length ≤ n; omega)
        cases q : H1 a with
        | none => rfl
        | some o => exact absurd z (e.non a (by rw [q]; simp))
    tups := fun a us h => f.tups a us (e.tups a us h)
    rd := fun a u h r => by
      have nD : a ≠ D := fun z => rd_some r (z ▸ hD)
      exact f.rd a u (of_live_hide (e.dead h (rd_some r)) nD) (e.rd a u h r)
    non := fun a h => f.non a (e.non a h)
    hid := e.hid
    hidk := fun a h => (f.hidk a (List.mem_cons_of_mem _ (e.hid ▸ h))).trans (e.hidk a h) }
  refine ⟨⟨l, φ.hid⟩, rfl, base, fun o => ?_⟩
  have nD : ∀ {a : Addr}, H1 a ≠ none → a ≠ D := fun {a} h z => h (z ▸ hD)
  exact {
    len := base.len
    old := base.old
    new := base.new
    tups := fun a us h => by rw [upd_ne (nD (by rw [h]; simp))]; exact base.tups a us h
    rd := fun a u h r => by
      have n := nD (rd_some r)
      rcases base.rd a u h r with q | ⟨ob, q⟩
      · exact .inl (by rw [upd_ne n]; exact q)
      · exact .inr ⟨ob, by rw [upd_ne n]; exact q⟩
    non := fun a h => by rw [upd_ne (nD h)]; exact base.non a h
    hid := base.hid
    hidk := fun a h => by rw [upd_ne (h1 a h)]; exact base.hidk a h }
end

end Ev

set_option Elab.async false
set_option linter.all false
set_option maxRecDepth 100000
set_option maxHeartbeats 2000000
namespace Ev
open PySem PySem.Spec PyProof.Rows L2

/-- the frame's slots -/
structure RelE (T : Tab) (φ : Phi) (ρ : Env) (st : Sto) (σ : L2.St) (H : Hp) : Prop where
  rst : Rst T φ st H
  len : ρ.length = σ.length
  get : ∀ (i : Nat) v, ρ[i]? = some (some v) → ∃ u, σ[i]? = some (some u) ∧ RelV T φ H v u

/-- an exception in the air -/
def RelX (T : Tab) (φ : Phi) (H : Hp) (x : Val) (c : Value) (d : Option Addr) : Prop :=
  ∃ (k : Nat) (ns : List Str) (vs : List Val) (us : List V) (dd : Addr), x = .exc k ns vs ∧ c = .ref (T.ca k) ∧ d = some dd ∧ ¬ Live φ dd ∧ Rd H dd (.xd (ns.zip us)) ∧ ns.length = us.length ∧ RelVs T φ H vs us

/-- what is wanted behind a result -/
def Post {α β : Type} (T : Tab) (R : Phi → Hp → α → β → Prop) (W : WX) (φ : Phi) (σ : L2.St) (H : Hp) (Q : β → Hp → Prop) : Res α → Prop
  | .ok v st => ∀ φ' H' u, Ext φ H φ' H' → Rst T φ' st H' → R φ' H' v u → Q u H'
  | .ex x st => ∀ φ' H' c d, Ext φ H φ' H' → Rst T φ' st H' → RelX T φ' H' x c d → W c d σ H'
  | .bad => False
/-- the reading of an evaluation -/
def tG {α β : Type} (T : Tab) (R : Phi → Hp → α → β → Prop) (W : WX) (e : Env → Sto → Res α) : L2.St → Hp → (β → Hp → Prop) → Prop := fun σ H Q =>
  ∃ φ ρ st, RelE T φ ρ st σ H ∧ Post T R W φ σ H Q (e ρ st)
abbrev tE (T : Tab) (W : WX) (e : E) : TE := tG T (RelV T) W e
abbrev tA (T : Tab) (W : WX) (e : EA) : TA := tG T (RelVs T) W e
abbrev tT (T : Tab) (W : WX) (e : ET) : TT := tG T (fun _ _ (a b : Bool) => a = b) W e

def bindR {α β : Type} (r : Res α) (f : α → Sto → Res β) : Res β := match r with
  | .ok a st => f a st
  | .ex x st => .ex x st
  | .bad => .bad
@[simp] theorem bindR_ok {α β : Type} (a : α) (st : Sto) (f : α → Sto → Res β) : bindR (.ok a st) f = f a st := (rfl)
@[simp] theorem bindR_ex {α β : Type} (x : Val) (st : Sto) (f : α → Sto → Res β) : bindR (.ex x st) f = .ex x st := (rfl)
@[simp] theorem bindR_bad {α β : Type} (f : α → Sto → Res β) : bindR .bad f = .bad := (rfl)
/-- a value that may be lacking -/
def optR {α : Type} (o : Option α) (st : Sto) : Res α := match o with
  | some a => .ok a st
  | none => .bad
@[simp] theorem optR_some {α : Type} (a : α) (st : Sto) : optR (some a) st = .ok a st := (rfl)
@[simp] theorem optR_none {α : Type} (st : Sto) : optR (none : Option α) st = .bad := (rfl)

section
variable {T : Tab} {φ φ' : Phi} {ρ : Env} {st st' : Sto} {σ : L2.St} {H H' : Hp} {W : WX}
theorem RelE.ext (r : RelE T φ ρ st σ H) (e : Ext φ H φ' H') (R : Rst T φ' st' H') : RelE T φ' ρ st' σ H' :=
  ⟨R, r.len, fun i v h => let ⟨u, h1, h2⟩ := r.get i v h; ⟨u, h1, h2.ext e⟩⟩
theorem Post.mono {α β : Type} {R : Phi → Hp → α → β → Prop} {Q Q' : β → Hp → Prop} {r : Res α} (p : Post T R W φ σ H Q r) (h : ∀ u H', Q u H' → Q' u H') : Post T R W φ σ H Q' r := by
  cases r with
  | ok v st => exact fun φ' H' u e s q => h u H' (p φ' H' u e s q)
  | ex x st => exact p
  | bad => exact p
/-- later -/
theorem Post.later {α β : Type} {R : Phi → Hp → α → β → Prop} {Q : β → Hp → Prop} {r : Res α} (p : Post T R W φ σ H Q r) (e : Ext φ H φ' H') : Post T R W φ' σ H' Q r := by
  cases r with
  | ok v st => exact fun φ2 H2 u e2 s q => p φ2 H2 u (e.trans e2) s q
  | ex x st => exact fun φ2 H2 c d e2 s q => p φ2 H2 c d (e.trans e2) s q
  | bad => exact p
/-- first e, then f -/
theorem post_bind {α β γ δ : Type} {R : Phi → Hp → α → β → Prop} {R' : Phi → Hp → γ → δ → Prop} {Q : δ → Hp → Prop} {r : Res α} {f : α → Sto → Res γ} (p : Post T R' W φ σ H Q (bindR r f)) {Q1 : β → Hp → Prop}
    (h : ∀ v st1 φ1 H1 u, r = .ok v st1 → Ext φ H φ1 H1 → Rst T φ1 st1 H1 → R φ1 H1 v u → Post T R' W φ1 σ H1 Q (f v st1) → Q1 u H1) : Post T R W φ σ H Q1 r := by
  cases r with
  | ok v st => exact fun φ' H' u e s q => h v st φ' H' u rfl e s q (Post.later p e)
  | ex x st => exact p
  | bad => exact p
theorem tG_bind {α β γ δ : Type} {R : Phi → Hp → α → β → Prop} {R' : Phi → Hp → γ → δ → Prop} {e : Env → Sto → Res α} {f : Env → α → Sto → Res γ} {Q : δ → Hp → Prop} {Q1 : β → Hp → Prop}
    (h : tG T R' W (fun ρ st => bindR (e ρ st) (f ρ)) σ H Q)
    (k : ∀ v ρ st1 φ1 H1 u, RelE T φ1 ρ st1 σ H1 → R φ1 H1 v u → Post T R' W φ1 σ H1 Q (f ρ v st1) → Q1 u H1) : tG T R W e σ H Q1 := by
  obtain ⟨φ, ρ, st, re, p⟩ := h
  exact ⟨φ, ρ, st, re, post_bind p fun v st1 φ1 H1 u _ e1 s1 q1 p1 => k v ρ st1 φ1 H1 u (re.ext e1 s1) q1 p1⟩
theorem tG_mono {α β : Type} {R : Phi → Hp → α → β → Prop} {e : Env → Sto → Res α} {Q Q' : β → Hp → Prop} (h : tG T R W e σ H Q) (k : ∀ u H', Q u H' → Q' u H') : tG T R W e σ H Q' := by
  obtain ⟨φ, ρ, st, re, p⟩ := h
  exact ⟨φ, ρ, st, re, p.mono k⟩
theorem Post.ok_self {α β : Type} {R : Phi → Hp → α → β → Prop} {Q : β → Hp → Prop} {v : α} {u : β} (p : Post T R W φ σ H Q (.ok v st)) (s : Rst T φ st H) (q : R φ H v u) : Q u H := p φ H u Ext.refl s q
end

section
variable {X : Cx} {T : Tab} {W : WX}
theorem pe_imp {e : Expr} {t t' : TE} (h : PE X e t) (k : ∀ σ H Q, t' σ H Q → t σ H Q) : PE X e t' := ⟨fun pins s σ H Q I q => h.run pins s σ H Q I (k _ _ _ q)⟩
theorem pt_imp {e : Expr} {t t' : TT} (h : PT X e t) (k : ∀ σ H Q, t' σ H Q → t σ H Q) : PT X e t' := ⟨fun pins s σ H Q I q => h.run pins s σ H Q I (k _ _ _ q)⟩
theorem pw_imp {e : Expr} {t t' : TT} (h : PW X e t) (k : ∀ σ H Q, t' σ H Q → t σ H Q) : PW X e t' := ⟨fun wh pins s σ H Q I q => h.run wh pins s σ H Q I (k _ _ _ q)⟩
theorem pa_imp {es : List Expr} {t t' : TA} (h : PA X es t) (k : ∀ σ H Q, t' σ H Q → t σ H Q) : PA X es t' := ⟨fun pos pins s σ H Q I q => h.run pos pins s σ H Q I (k _ _ _ q)⟩

def eV (i : Nat) : E := fun ρ st => match ρ[i]? with
  | some (some v) => .ok v st
  | _ => .bad
def eC (v : Val) : E := fun _ st => .ok v st
theorem e_v (i : Nat) {x : Str} {pos : Pos} (hN : X.N[i]? = some x := by rfl) (hv : Vis X.env.scope x := by first | exact Or.inl rfl | exact Or.inr (Or.inl rfl) | exact Or.inr (Or.inr rfl)) (hd : (x == ("__debug__" : Str)) = false := by decide)
    (hcd : (x == ("__classdict__" : Str)) = false := by decide) : PE X (.Name x pos) (tE T W (eV i)) := by
  refine pe_imp (pv i hN hv hd hcd) fun σ H Q h => ?_
  obtain ⟨φ, ρ, st, re, p⟩ := h
  unfold eV at p
  split at p
  · rename_i v hv
    obtain ⟨u, e1, e2⟩ := re.get i v hv
    exact ⟨u, e1, p.ok_self re.rst e2⟩
  · exact p.elim
theorem e_c {e : Expr} {v : V} {c : Val} (h : PE X e (tC v)) (hr : ∀ φ H, RelV T φ H c v) : PE X e (tE T W (eC c)) := by
  refine pe_imp h fun σ H Q h => ?_
  obtain ⟨φ, ρ, st, re, p⟩ := h
  exact p.ok_self re.rst (hr φ H)
theorem e_int {i j pos} : PE X (.Constant (.int i) j pos) (tE T W (eC (.int i))) := e_c pe_int fun _ _ => .int i
theorem e_bl {b j pos} : PE X (.Constant (.bool b) j pos) (tE T W (eC (.bl b))) := e_c pe_bl fun _ _ => .bl b
theorem e_non {j pos} : PE X (.Constant .none j pos) (tE T W (eC .non)) := e_c pe_non fun _ _ => .non
theorem e_str {x j pos} : PE X (.Constant (.str x) j pos) (tE T W (eC (.str x))) := e_c pe_str fun _ _ => .str x
theorem e_gint {x : Str} {i : Int} {t : Tok} {pos : Pos} (hm : X.mg x = some (.int i t)) (hg : Gl X x := by rfl) (hd : (x == ("__debug__" : Str)) = false := by decide) : PE X (.Name x pos) (tE T W (eC (.int i))) :=
  e_c (pe_glob (v := .int i) hg hm ⟨t, rfl⟩ hd) fun _ _ => .int i
theorem e_gstr {x : Str} {i : Str} {t : Tok} {pos : Pos} (hm : X.mg x = some (.str i t)) (hg : Gl X x := by rfl) (hd : (x == ("__debug__" : Str)) = false := by decide) : PE X (.Name x pos) (tE T W (eC (.str i))) :=
  e_c (pe_glob (v := .str i) hg hm ⟨t, rfl⟩ hd) fun _ _ => .str i

def eNil : EA := fun _ st => .ok [] st
def eCons (e : E) (es : EA) : EA := fun ρ st => bindR (e ρ st) fun v st1 => bindR (es ρ st1) fun vs st2 => .ok (v :: vs) st2
theorem a_nil : PA X [] (tA T W eNil) := by
  refine pa_imp pa_nil fun σ H Q h => ?_
  obtain ⟨φ, ρ, st, re, p⟩ := h
  exact p.ok_self re.rst .nil
theorem a_cons {e : Expr} {es : List Expr} {a : E} {as : EA} (ha : PE X e (tE T W a)) (hr : PA X es (tA T W as)) (hs : starEach (e :: es) X.env = (false, eval e X.env) :: starEach es X.env := by rfl) : PA X (e :: es) (tA T W (eCons a as)) := by
  refine pa_imp (pa_cons ha hr hs) fun σ H Q h => ?_
  refine tG_bind h fun v ρ st1 φ1 H1 u re1 q1 p1 => ?_
  refine ⟨φ1, ρ, st1, re1, post_bind p1 fun vs st2 φ2 H2 us _ e2 s2 q2 p2 => ?_⟩
  exact p2.ok_self s2 (.cons (q1.ext e2) q2)

/-- f tells the value of an operation that the rule r is of; nothing of the store changes -/
def SndB (T : Tab) (r : R2) (f : Sto → Val → Val → Option Val) : Prop :=
  ∀ φ st H v w z x y Q, Rst T φ st H → RelV T φ H v x → RelV T φ H w y → f st v w = some z →
    (∀ H' u, Ext φ H φ H' → Rst T φ st H' → RelV T φ H' z u → Q u H') → r x y H Q
def eB (f : Sto → Val → Val → Option Val) (a b : E) : E := fun ρ st => bindR (a ρ st) fun v st1 => bindR (b ρ st1) fun w st2 => optR (f st2 v w) st2
theorem bin_sound {r : R2} {f : Sto → Val → Val → Option Val} (hs : SndB T r f) {a b : E} {σ : L2.St} {H : Hp} {Q : VK} (h : tE T W (eB f a b) σ H Q) : tOp r (tE T W a) (tE T W b) σ H Q := by
  refine tG_bind h fun v ρ st1 φ1 H1 u re1 q1 p1 => ?_
  refine ⟨φ1, ρ, st1, re1, post_bind p1 fun w st2 φ2 H2 y _ e2 s2 q2 p2 => ?_⟩
  cases hf : f st2 v w with
  | none => rw [hf] at p2; exact p2.elim
  | some z =>
    rw [hf] at p2
    exact hs φ2 st2 H2 v w z u y Q s2 (q1.ext e2) q2 hf fun H' u' e3 s3 q3 => p2 φ2 H' u' e3 s3 q3
theorem e_op {a b : Expr} {op : Operator} {pos : Pos} {r : R2} {f : Sto → Val → Val → Option Val} {ea eb : E} (ho : OpR X (binaryOp op) r) (hs : SndB T r f) (ha : PE X a (tE T W ea)) (hb : PE X b (tE T W eb)) :
    PE X (.BinOp a op b pos) (tE T W (eB f ea eb)) := pe_imp (pe_op ho ha hb) fun _ _ _ h => bin_sound hs h
theorem e_cmp {a b : Expr} {op : CmpOp} {pos : Pos} {r : R2} {f : Sto → Val → Val → Option Val} {ea eb : E} (ho : OpR X (compareOp op) r) (hs : SndB T r f) (ha : PE X a (tE T W ea)) (hb : PE X b (tE T W eb)) (hm : behindInMarks op b = false) :
    PE X (.Compare a [op] [b] pos) (tE T W (eB f ea eb)) := pe_imp (pe_cmpR ho ha hb hm) fun _ _ _ h => bin_sound hs h
/-- an operation on two ints -/
def fI (C : Int → Int → Bool) (g : Int → Int → Val) : Sto → Val → Val → Option Val
  | _, .int i, .int j => if C i j = true then some (g i j) else none
  | _, _, _ => none
theorem snd_I {C : Int → Int → Prop} {c : Int → Int → Bool} {g : Int → Int → V} {g' : Int → Int → Val} (hc : ∀ i j, c i j = true → C i j) (hg : ∀ φ H i j, RelV T φ H (g' i j) (g i j)) : SndB T (rI C g) (fI c g') := by
  intro φ st H v w z x y Q s q1 q2 hf hq
  unfold fI at hf
  split at hf
  · rename_i i j
    split at hf
    · rename_i hh
      cases hf
      cases q1; cases q2
      exact ⟨i, j, rfl, rfl, hc i j hh, hq H _ Ext.refl s (hg φ H i j)⟩
    · cases hf
  · cases hf
def fI0 (g : Int → Int → Val) : Sto → Val → Val → Option Val
  | _, .int i, .int j => some (g i j)
  | _, _, _ => none
theorem snd_I0 {g : Int → Int → V} {g' : Int → Int → Val} (hg : ∀ φ H i j, RelV T φ H (g' i j) (g i j)) : SndB T (rI0 g) (fI0 g') := by
  intro φ st H v w z x y Q s q1 q2 hf hq
  unfold fI0 at hf
  split at hf
  · rename_i i j
    cases hf
    cases q1; cases q2
    exact ⟨i, j, rfl, rfl, hq H _ Ext.refl s (hg φ H i j)⟩
  · cases hf
abbrev fSub := fI0 fun i j => .int (i - j)
theorem e_sub {a b : Expr} {pos : Pos} {ea eb : E} (ha : PE X a (tE T W ea)) (hb : PE X b (tE T W eb)) : PE X (.BinOp a .Sub b pos) (tE T W (eB fSub ea eb)) :=
  e_op op_sub (snd_I0 fun _ _ i j => .int (i - j)) ha hb
/-- a product: one side within 2 ^ 64 -/
def cMul (i j : Int) : Bool := (decide (-(2 ^ 64) < i) && decide (i < 2 ^ 64)) || (decide (-(2 ^ 64) < j) && decide (j < 2 ^ 64))
theorem cMul_ok (i j : Int) (h : cMul i j = true) : CMul i j := by
  unfold cMul at h
  simpa [CMul, Bool.or_eq_true, Bool.and_eq_true] using h
def cDiv (_ j : Int) : Bool := decide (0 < j) && decide (j.natAbs < 2 ^ 2000)
theorem cDiv_ok (i j : Int) (h : cDiv i j = true) : CDivW i j := by
  unfold cDiv at h
  rw [Bool.and_eq_true, decide_eq_true_eq, decide_eq_true_eq] at h
  exact wide_div h.1 h.2 (by decide) (by decide)
abbrev fFdiv := fI cDiv fun i j => .int (i / j)
theorem e_fdiv {a b : Expr} {pos : Pos} {ea eb : E} (ha : PE X a (tE T W ea)) (hb : PE X b (tE T W eb)) : PE X (.BinOp a .FloorDiv b pos) (tE T W (eB fFdiv ea eb)) :=
  e_op op_fdivW (snd_I cDiv_ok fun _ _ i j => .int (i / j)) ha hb
abbrev fMod := fI (fun _ j => decide (0 < j)) fun i j => .int (i % j)
theorem e_mod {a b : Expr} {pos : Pos} {ea eb : E} (ha : PE X a (tE T W ea)) (hb : PE X b (tE T W eb)) : PE X (.BinOp a .Mod b pos) (tE T W (eB fMod ea eb)) :=
  e_op op_mod (snd_I (fun _ _ h => of_decide_eq_true h) fun _ _ i j => .int (i % j)) ha hb
def cPow (i j : Int) : Bool := decide (0 ≤ j) && decide (j ≤ 1000000) && decide (i.natAbs < 2 ^ 64)
theorem cPow_ok (i j : Int) (h : cPow i j = true) : CPow i j := by
  unfold cPow at h
  simp only [Bool.and_eq_true, decide_eq_true_eq] at h
  exact ⟨h.1.1, h.1.2, h.2⟩
abbrev fPow := fI cPow fun i j => .int (i ^ j.toNat)
theorem e_pow {a b : Expr} {pos : Pos} {ea eb : E} (ha : PE X a (tE T W ea)) (hb : PE X b (tE T W eb)) : PE X (.BinOp a .Pow b pos) (tE T W (eB fPow ea eb)) :=
  e_op op_pow (snd_I cPow_ok fun _ _ i j => .int (i ^ j.toNat)) ha hb

def eTest (e : E) : ET := fun ρ st => bindR (e ρ st) fun v st1 => match v with
  | .bl b => .ok b st1
  | _ => .bad
theorem t_val {e : Expr} {a : E} (h : PE X e (tE T W a)) (he : ∀ whole, isTrue e X.env whole = (do let v ← whole; standAt e.pos; holding [v] (truthy v)) := by intro _; rfl) : PT X e (tT T W (eTest a)) := by
  refine pt_imp (pt_val h he) fun σ H Q h => ?_
  refine tG_bind h fun v ρ st1 φ1 H1 u re1 q1 p1 => ?_
  split at p1
  · rename_i b
    cases q1
    exact ⟨b, rfl, p1.ok_self re1.rst rfl⟩
  · exact p1.elim
/-- a comparison as a test -/
theorem t_cmp {a b : Expr} {op : CmpOp} {pos : Pos} {r : R2} {f : Sto → Val → Val → Option Val} {ea eb : E} (ho : OpR X (compareOp op) r) (hs : SndB T r f) (ha : PE X a (tE T W ea)) (hb : PE X b (tE T W eb)) (hm : behindInMarks op b = false) :
    PT X (.Compare a [op] [b] pos) (tT T W (eTest (eB f ea eb))) := by
  refine pt_imp (pt_cmpR ho ha hb hm) fun σ H Q h => ?_
  have h' : tE T W (eB f ea eb) σ H (fun u H1 => ∃ k, u = .bl k ∧ Q k H1) := by
    refine tG_bind h fun v ρ st1 φ1 H1 u re1 q1 p1 => ?_
    split at p1
    · rename_i b
      cases q1
      exact ⟨b, rfl, p1.ok_self re1.rst rfl⟩
    · exact p1.elim
  exact bin_sound hs h'
def eNotT (t : ET) : ET := fun ρ st => bindR (t ρ st) fun b st1 => .ok (!b) st1
theorem t_not {a : Expr} {pos : Pos} {t : ET} (h : PT X a (tT T W t)) : PT X (.UnaryOp .Not a pos) (tT T W (eNotT t)) := by
  refine pt_imp (pt_not h) fun σ H Q h => ?_
  refine tG_bind h fun v ρ st1 φ1 H1 u re1 q1 p1 => ?_
  subst q1
  exact p1.ok_self re1.rst rfl
def eAndT (a b : ET) : ET := fun ρ st => bindR (a ρ st) fun c st1 => if c = true then b ρ st1 else .ok false st1
def eOrT (a b : ET) : ET := fun ρ st => bindR (a ρ st) fun c st1 => if c = true then .ok true st1 else b ρ st1
theorem w_and1 {a : Expr} {pos : Pos} {t : ET} (h : PT X a (tT T W t)) : PW X (.BoolOp .And [a] pos) (tT T W t) := pw_and1 h
theorem w_or1 {a : Expr} {pos : Pos} {t : ET} (h : PT X a (tT T W t)) : PW X (.BoolOp .Or [a] pos) (tT T W t) := pw_or1 h
theorem w_and {a b : Expr} {rest : List Expr} {pos : Pos} {t u : ET} (ha : PT X a (tT T W t)) (hb : PW X (.BoolOp .And (b :: rest) pos) (tT T W u)) : PW X (.BoolOp .And (a :: b :: rest) pos) (tT T W (eAndT t u)) := by
  refine pw_imp (pw_and ha hb) fun σ H Q h => ?_
  refine tG_bind h fun v ρ st1 φ1 H1 c re1 q1 p1 => ?_
  subst q1
  cases v with
  | true => exact iteT ⟨φ1, ρ, st1, re1, p1⟩
  | false => exact iteF (p1.ok_self re1.rst rfl)
theorem w_or {a b : Expr} {rest : List Expr} {pos : Pos} {t u : ET} (ha : PT X a (tT T W t)) (hb : PW X (.BoolOp .Or (b :: rest) pos) (tT T W u)) : PW X (.BoolOp .Or (a :: b :: rest) pos) (tT T W (eOrT t u)) := by
  refine pw_imp (pw_or ha hb) fun σ H Q h => ?_
  refine tG_bind h fun v ρ st1 φ1 H1 c re1 q1 p1 => ?_
  subst q1
  cases v with
  | true => exact iteT (p1.ok_self re1.rst rfl)
  | false => exact iteF ⟨φ1, ρ, st1, re1, p1⟩
/-- and, or, not as values: all but the last are bools -/
def eAnd (a b : E) : E := fun ρ st => bindR (eTest a ρ st) fun c st1 => if c = true then b ρ st1 else .ok (.bl false) st1
def eOr (a b : E) : E := fun ρ st => bindR (eTest a ρ st) fun c st1 => if c = true then .ok (.bl true) st1 else b ρ st1
def eNot (a : E) : E := fun ρ st => bindR (eTest a ρ st) fun c st1 => .ok (.bl (!c)) st1
theorem test_bind {α β : Type} {R : Phi → Hp → α → β → Prop} {a : E} {f : Env → Bool → Sto → Res α} {σ : L2.St} {H : Hp} {Q : β → Hp → Prop} {Q1 : VK} (h : tG T R W (fun ρ st => bindR (eTest a ρ st) (f ρ)) σ H Q)
    (k : ∀ c ρ st1 φ1 H1, RelE T φ1 ρ st1 σ H1 → Post T R W φ1 σ H1 Q (f ρ c st1) → Q1 (.bl c) H1) : tE T W a σ H Q1 := by
  obtain ⟨φ, ρ, st, re, p⟩ := h
  refine ⟨φ, ρ, st, re, ?_⟩
  dsimp only [eTest] at p
  cases ha : a ρ st with
  | ok v st1 =>
    rw [ha] at p
    intro φ1 H1 u e1 s1 q1
    cases v with
    | bl b => cases q1; exact k b ρ st1 φ1 H1 (re.ext e1 s1) (Post.later p e1)
    | _ => exact p.elim
  | ex x st1 => rw [ha] at p; exact p
  | bad => rw [ha] at p; exact p
theorem e_one {a : Expr} {op} {pos : Pos} {ea : E} (h : PE X a (tE T W ea)) : PE X (.BoolOp op [a] pos) (tE T W ea) := pe_one h
theorem e_and {a b : Expr} {rest : List Expr} {pos : Pos} {ea eb : E} (ha : PE X a (tE T W ea)) (hb : PE X (.BoolOp .And (b :: rest) pos) (tE T W eb)) : PE X (.BoolOp .And (a :: b :: rest) pos) (tE T W (eAnd ea eb)) := by
  refine pe_imp (pe_and ha hb) fun σ H Q h => ?_
  refine test_bind h fun c ρ st1 φ1 H1 re1 p1 => ⟨c, rfl, ?_⟩
  cases c with
  | true => exact iteT ⟨φ1, ρ, st1, re1, p1⟩
  | false => exact iteF (p1.ok_self re1.rst (.bl false))
theorem e_or {a b : Expr} {rest : List Expr} {pos : Pos} {ea eb : E} (ha : PE X a (tE T W ea)) (hb : PE X (.BoolOp .Or (b :: rest) pos) (tE T W eb)) : PE X (.BoolOp .Or (a :: b :: rest) pos) (tE T W (eOr ea eb)) := by
  refine pe_imp (pe_or ha hb) fun σ H Q h => ?_
  refine test_bind h fun c ρ st1 φ1 H1 re1 p1 => ⟨c, rfl, ?_⟩
  cases c with
  | true => exact iteT (p1.ok_self re1.rst (.bl true))
  | false => exact iteF ⟨φ1, ρ, st1, re1, p1⟩
theorem e_not {a : Expr} {pos : Pos} {ea : E} (ha : PE X a (tE T W ea)) : PE X (.UnaryOp .Not a pos) (tE T W (eNot ea)) := by
  refine pe_imp (pe_not ha) fun σ H Q h => ?_
  refine test_bind h fun c ρ st1 φ1 H1 re1 p1 => ⟨c, rfl, ?_⟩
  exact p1.ok_self re1.rst (.bl (!c))
def eIf (t : ET) (a b : E) : E := fun ρ st => bindR (t ρ st) fun c st1 => if c = true then a ρ st1 else b ρ st1
theorem e_if {c a b : Expr} {pos : Pos} {t : ET} {ea eb : E} (hc : PT X c (tT T W t)) (ha : PE X a (tE T W ea)) (hb : PE X b (tE T W eb)) : PE X (.IfExp c a b pos) (tE T W (eIf t ea eb)) := by
  refine pe_imp (pe_ifExp hc ha hb) fun σ H Q h => ?_
  refine tG_bind h fun v ρ st1 φ1 H1 u re1 q1 p1 => ?_
  subst q1
  cases v with
  | true => exact iteT ⟨φ1, ρ, st1, re1, p1⟩
  | false => exact iteF ⟨φ1, ρ, st1, re1, p1⟩
def fNeg : E → E := fun a ρ st => bindR (a ρ st) fun v st1 => match v with
  | .int i => .ok (.int (-i)) st1
  | _ => .bad
theorem e_neg {a : Expr} {pos : Pos} {ea : E} (ha : PE X a (tE T W ea)) : PE X (.UnaryOp .USub a pos) (tE T W (fNeg ea)) := by
  refine pe_imp (pe_un un_neg ha) fun σ H Q h => ?_
  refine tG_bind h fun v ρ st1 φ1 H1 u re1 q1 p1 => ?_
  split at p1
  · rename_i i
    cases q1
    exact ⟨i, rfl, p1.ok_self re1.rst (.int (-i))⟩
  · exact p1.elim

def eTup (as : EA) : E := fun ρ st => bindR (as ρ st) fun vs st1 => if vs.length ≤ sizeLine then .ok (.tup vs) st1 else .bad
def eLst (as : EA) : E := fun ρ st => bindR (as ρ st) fun vs st1 => if vs.length ≤ sizeLine then .ok (.lst vs) st1 else .bad
/-- a list that will be changed -/
def eNew (as : EA) : E := fun ρ st => bindR (as ρ st) fun vs st1 => if vs.length ≤ sizeLine then .ok (.loc st1.length) (st1 ++ [.lst vs]) else .bad
theorem e_tup {es : List Expr} {x1} {pos : Pos} {as : EA} (h : PA X es (tA T W as)) : PE X (.Tuple es x1 pos) (tE T W (eTup as)) := by
  refine pe_imp (pe_tup h) fun σ H Q h => ?_
  refine tG_bind h fun vs ρ st1 φ1 H1 us re1 q1 p1 => ?_
  split at p1
  · rename_i hz
    refine ⟨by rw [← RelVs.length q1]; exact hz, fun p hp => ?_⟩
    have e := Ext.fresh (ho := .tup us) re1.rst hp
    exact p1 φ1 _ _ e (re1.rst.fresh hp) (.tup upd_same (RelVs.ext e q1))
  · exact p1.elim
theorem e_lst {es : List Expr} {pos : Pos} {as : EA} (h : PA X es (tA T W as)) : PE X (.List es pos) (tE T W (eLst as)) := by
  refine pe_imp (pe_lst h) fun σ H Q h => ?_
  refine tG_bind h fun vs ρ st1 φ1 H1 us re1 q1 p1 => ?_
  split at p1
  · rename_i hz
    refine ⟨by rw [← RelVs.length q1]; exact hz, fun p hp => ?_⟩
    have e := Ext.fresh (ho := .lst us) re1.rst hp
    exact p1 φ1 _ _ e (re1.rst.fresh hp) (.lst (.inl ⟨re1.rst.nolive hp, .inl upd_same⟩) (RelVs.ext e q1))
  · exact p1.elim
theorem rel_loc {φ : Phi} {H : Hp} {st : Sto} (R : Rst T φ st H) {p : Addr} {H' : Hp} : RelV T (φ.add p) H' (.loc st.length) (.ref p) := by
  refine .loc (by rw [← R.len]; show _ < (φ.l ++ [some p]).length; simp) fun a q => ?_
  rcases add_get q with ⟨h, _⟩ | ⟨_, rfl⟩
  · rw [R.len] at h
    exact absurd h (Nat.lt_irrefl _)
  · rfl
theorem e_new {es : List Expr} {pos : Pos} {as : EA} (h : PA X es (tA T W as)) : PE X (.List es pos) (tE T W (eNew as)) := by
  refine pe_imp (pe_lst h) fun σ H Q h => ?_
  refine tG_bind h fun vs ρ st1 φ1 H1 us re1 q1 p1 => ?_
  split at p1
  · rename_i hz
    refine ⟨by rw [← RelVs.length q1]; exact hz, fun p hp => ?_⟩
    have e := Ext.alloc (ho := .lst us) re1.rst hp
    exact p1 _ _ _ e (re1.rst.alloc hp ⟨us, upd_same, RelVs.ext e q1⟩) (rel_loc re1.rst)
  · exact p1.elim
end
end Ev

set_option Elab.async false
set_option linter.all false
set_option maxRecDepth 100000
set_option maxHeartbeats 2000000
namespace Ev
open PySem PySem.Spec PyProof.Rows L2

/-- a store's list as a value -/
def dr (st : Sto) : Val → Val
  | .loc n => match st[n]? with
    | some (.lst xs) => .lst xs
    | _ => .loc n
  | v => v
def lstOf (st : Sto) (v : Val) : Option (List Val) := match dr st v with
  | .lst xs => some xs
  | _ => none
def tupOf : Val → Option (List Val)
  | .tup xs => some xs
  | _ => none
def seqOf (st : Sto) (v : Val) : Option (List Val) := match dr st v with
  | .lst xs => some xs
  | .tup xs => some xs
  | _ => none
mutual
def toD : Val → Option PyData
  | .non => some .none
  | .bl b => some (.bool b)
  | .int i => some (.int i)
  | .str s => some (.str s)
  | .tup xs => (toDs xs).map .tuple
  | .lst xs => (toDs xs).map .list
  | _ => none
def toDs : List Val → Option (List PyData)
  | [] => some []
  | x :: xs => match toD x, toDs xs with
    | some d, some ds => some (d :: ds)
    | _, _ => none
end
section
variable {T : Tab} {φ : Phi} {st : Sto} {H : Hp}
theorem sqL_of {a : Addr} {us : List V} (h : (¬ Live φ a ∧ Rd H a (.lst us)) ∨ LstK T.K a us) : SqL T.K H a us := h.elim (fun q => .inl q.2) .inr
theorem rel_lst (R : Rst T φ st H) {v : Val} {x : V} {xs : List Val} (r : RelV T φ H v x) (h : lstOf st v = some xs) : ∃ a us, x = .ref a ∧ SqL T.K H a us ∧ RelVs T φ H xs us := by
  unfold lstOf at h
  cases r with
  | lst h1 h2 => cases h; exact ⟨_, _, rfl, sqL_of h1, h2⟩
  | loc hn hu =>
    rename_i n
    unfold dr at h
    dsimp only at h
    split at h
    · rename_i ys e
      cases h
      split at e
      · rename_i zs q
        cases e
        obtain ⟨a, e1, us, e2, e3⟩ := R.at q (by simp)
        exact ⟨a, us, hu a e1, SqL.of e2, e3⟩
      · cases e
    · cases h
  | _ => cases h
theorem rel_tup {v : Val} {x : V} {xs : List Val} (r : RelV T φ H v x) (h : tupOf v = some xs) : ∃ a us, x = .ref a ∧ H a = some (.tup us) ∧ RelVs T φ H xs us := by
  cases r with
  | tup h1 h2 => cases h; exact ⟨_, _, rfl, h1, h2⟩
  | _ => cases h
theorem rel_seq (R : Rst T φ st H) {v : Val} {x : V} {xs : List Val} (r : RelV T φ H v x) (h : seqOf st v = some xs) : ∃ a us, x = .ref a ∧ (SqL T.K H a us ∨ SqT T.K H a us) ∧ RelVs T φ H xs us := by
  unfold seqOf at h
  split at h
  · rename_i ys e
    cases h
    obtain ⟨a, us, h1, h2, h3⟩ := rel_lst R r (show lstOf st v = some xs by unfold lstOf; rw [e])
    exact ⟨a, us, h1, .inl h2, h3⟩
  · rename_i ys e
    cases h
    cases r with
    | tup h1 h2 => cases e; exact ⟨_, _, rfl, .inr (SqT.of h1), h2⟩
    | loc hn hu =>
      unfold dr at e
      dsimp only at e
      split at e <;> cases e
    | _ => cases e
  · cases h
mutual
theorem rel_dp : ∀ {v : Val} {x : V} {d : PyData}, RelV T φ H v x → toD v = some d → Dp T.K H x d
  | _, _, _, .non, h => by cases h; exact .non
  | _, _, _, .bl b, h => by cases h; exact .bl b
  | _, _, _, .int i, h => by cases h; exact .int i
  | _, _, _, .str s, h => by cases h; exact .str s
  | _, _, _, .tup h1 h2, h => by
    simp only [toD, Option.map_eq_some_iff] at h
    obtain ⟨ds, e, rfl⟩ := h
    exact .tup (SqT.of h1) (rel_dps h2 e)
  | _, _, _, .lst h1 h2, h => by
    simp only [toD, Option.map_eq_some_iff] at h
    obtain ⟨ds, e, rfl⟩ := h
    exact .lst (sqL_of h1) (rel_dps h2 e)
  | _, _, _, .dct .., h => by cases h
  | _, _, _, .loc .., h => by cases h
  | _, _, _, .exc .., h => by cases h
theorem rel_dps : ∀ {vs : List Val} {xs : List V} {ds : List PyData}, RelVs T φ H vs xs → toDs vs = some ds → DpAll T.K H xs ds
  | _, _, _, .nil, h => by cases h; exact .nil
  | _, _, _, .cons a b, h => by
    rw [toDs] at h
    split at h
    · rename_i d ds e1 e2
      cases h
      exact .cons (rel_dp a e1) (rel_dps b e2)
    · cases h
end
theorem rel_dr (R : Rst T φ st H) {v : Val} {x : V} {d : PyData} (r : RelV T φ H v x) (h : toD (dr st v) = some d) : Dp T.K H x d := by
  cases r with
  | loc hn hu =>
    rename_i n
    unfold dr at h
    dsimp only at h
    split at h
    · rename_i ys q
      obtain ⟨a, e1, us, e2, e3⟩ := R.at q (by simp)
      simp only [toD, Option.map_eq_some_iff] at h
      obtain ⟨ds, e, rfl⟩ := h
      rw [hu a e1]
      exact .lst (SqL.of e2) (rel_dps e3 e)
    · cases h
  | non => exact rel_dp (T := T) (φ := φ) (H := H) .non h
  | bl b => exact rel_dp (T := T) (φ := φ) (H := H) (.bl b) h
  | int i => exact rel_dp (T := T) (φ := φ) (H := H) (.int i) h
  | str s => exact rel_dp (T := T) (φ := φ) (H := H) (.str s) h
  | tup h1 h2 => exact rel_dp (.tup h1 h2) h
  | lst h1 h2 => exact rel_dp (.lst h1 h2) h
  | dct h1 h2 h3 h4 => exact rel_dp (.dct h1 h2 h3 h4) h
  | exc h1 h2 h3 h4 h5 h6 => exact rel_dp (.exc h1 h2 h3 h4 h5 h6) h
end

def fEq (st : Sto) (v w : Val) : Option Val := match toD (dr st v), toD (dr st w) with
  | some d, some e => if SeqAt.shaped d && SeqAt.shaped e then some (.bl (PyData.eqv d e)) else none
  | _, _ => none
def fNe (st : Sto) (v w : Val) : Option Val := match toD (dr st v), toD (dr st w) with
  | some d, some e => if SeqAt.shaped d && SeqAt.shaped e then some (.bl (!PyData.eqv d e)) else none
  | _, _ => none
theorem snd_eq {T : Tab} : SndB T (rEqD T.K) fEq := by
  intro φ st H v w z x y Q R r1 r2 hf hq
  unfold fEq at hf
  split at hf
  · rename_i d e h1 h2
    split at hf
    · rename_i hs
      cases hf
      rw [Bool.and_eq_true] at hs
      exact ⟨d, e, rel_dr R r1 h1, rel_dr R r2 h2, hs.1, hs.2, hq H _ Ext.refl R (.bl _)⟩
    · cases hf
  · cases hf
theorem snd_ne {T : Tab} : SndB T (rNeD T.K) fNe := by
  intro φ st H v w z x y Q R r1 r2 hf hq
  unfold fNe at hf
  split at hf
  · rename_i d e h1 h2
    split at hf
    · rename_i hs
      cases hf
      rw [Bool.and_eq_true] at hs
      exact ⟨d, e, rel_dr R r1 h1, rel_dr R r2 h2, hs.1, hs.2, hq H _ Ext.refl R (.bl _)⟩
    · cases hf
  · cases hf

def fAdd (st : Sto) (v w : Val) : Option Val := match v, w with
  | .int i, .int j => some (.int (i + j))
  | .str a, .str b => if a.length + b.length ≤ sizeLine then some (.str (a ++ b)) else none
  | .tup xs, .tup ys => if xs.length + ys.length ≤ sizeLine then some (.tup (xs ++ ys)) else none
  | v, w => match lstOf st v, lstOf st w with
    | some xs, some ys => if xs.length + ys.length ≤ sizeLine then some (.lst (xs ++ ys)) else none
    | _, _ => none
/-- list + list, whatever the lists are -/
def rCatL (K : PySem.W.Frag) : R2 := fun x y H Q => ∃ l b xs zs, x = .ref l ∧ y = .ref b ∧ SqL K H l xs ∧ SqL K H b zs ∧ xs.length + zs.length ≤ sizeLine ∧ ∀ p, H p = none → Q (.ref p) (upd H p (.lst (xs ++ zs)))
theorem op_catL {X : Cx} : OpR X (binaryOp .Add) (rCatL X.K) := by
  intro pins s σ H x y v u Q I rx ry h
  obtain ⟨l, b, xs, zs, rfl, rfl, hH, hB, hz, q⟩ := h
  cases rx
  cases ry
  obtain ⟨its, r, pl, _⟩ := I.list hH
  obtain ⟨its2, r2, pl2, _⟩ := I.list hB
  have hl := pl.isList
  have hb := pl2.isList
  obtain ⟨⟨cls, dd, data, sl⟩, ho, hc, n, hd⟩ := id hl
  obtain ⟨⟨cls2, dd2, data2, sl2⟩, ho2, hc2, n2, hd2⟩ := id hb
  simp only at hc hd hc2 hd2
  subst hc hd hc2 hd2
  have e : its.toArray ++ its2.toArray = (its ++ its2).toArray := by simp
  have hz2 : its.toArray.size + its2.toArray.size ≤ sizeLine := by rw [List.size_toArray, List.size_toArray, ← r.length, ← r2.length]; exact hz
  refine concat_meets ⟨_, ho, rfl⟩ ⟨_, ho2, rfl⟩ noFill_list_add seq_list_add PySem.F.slot_list_add PySem.F.entry_list_add (PySem.F.args_list_add_2 _ _) (list_addW l b its.toArray its2.toArray n n2 dd dd2 sl sl2 hz2) ⟨ho, ho2, ?_⟩
  rw [e]
  exact ⟨.ref _, _, I.lnew (t' := s.toks) (r.append r2) (by rw [List.length_append]; omega), rfl, q _ I.fresh⟩
def rAddA (K : PySem.W.Frag) : R2 := fun x y H Q => (rI0 (fun i j => .int (i + j))) x y H Q ∨ (∃ i j, x = .str i ∧ y = .str j ∧ i.length + j.length ≤ sizeLine ∧ Q (.str (i ++ j)) H) ∨ rCatA K x y H Q ∨ rCatL K x y H Q
theorem op_addA {X : Cx} : OpR X (binaryOp .Add) (rAddA X.K) := op_add.or (op_add_str.or (op_catA.or op_catL))
theorem snd_add {T : Tab} : SndB T (rAddA T.K) fAdd := by
  intro φ st H v w z x y Q R r1 r2 hf hq
  have lists : ∀ xs ys, lstOf st v = some xs → lstOf st w = some ys → (if xs.length + ys.length ≤ sizeLine then some (Val.lst (xs ++ ys)) else none) = some z → rAddA T.K x y H Q := by
    intro xs ys h1 h2 hf
    split at hf
    · rename_i hz
      cases hf
      obtain ⟨a, us, rfl, s1, q1⟩ := rel_lst R r1 h1
      obtain ⟨b, ws, rfl, s2, q2⟩ := rel_lst R r2 h2
      refine .inr (.inr (.inr ⟨a, b, us, ws, rfl, rfl, s1, s2, by rw [← q1.length, ← q2.length]; exact hz, fun p hp => ?_⟩))
      have e := Ext.fresh (ho := .lst (us ++ ws)) R hp
      exact hq _ _ e (R.fresh hp) (.lst (.inl ⟨R.nolive hp, .inl upd_same⟩) ((q1.append q2).ext e))
    · cases hf
  unfold fAdd at hf
  split at hf
  · cases hf; cases r1; cases r2
    exact .inl ⟨_, _, rfl, rfl, hq H _ Ext.refl R (.int _)⟩
  · split at hf
    · rename_i hz
      cases hf; cases r1; cases r2
      exact .inr (.inl ⟨_, _, rfl, rfl, hz, hq H _ Ext.refl R (.str _)⟩)
    · cases hf
  · split at hf
    · rename_i hz
      cases hf
      cases r1 with
      | tup a1 b1 =>
        cases r2 with
        | tup a2 b2 =>
          rename_i xs ys us a ws b
          refine .inr (.inr (.inl ⟨a, b, us, ws, rfl, rfl, SqT.of a1, SqT.of a2, by rw [← b1.length, ← b2.length]; exact hz, fun e => ?_, fun e1 e2 => ?_, fun e1 e2 p hp => ?_⟩))
          · subst e
            cases b1
            exact hq H _ Ext.refl R (.tup a2 b2)
          · subst e2
            cases b2
            rw [List.append_nil] at hq
            exact hq H _ Ext.refl R (.tup a1 b1)
          · have e := Ext.fresh (ho := .tup (us ++ ws)) R hp
            exact hq _ _ e (R.fresh hp) (.tup upd_same ((b1.append b2).ext e))
    · cases hf
  · split at hf
    · rename_i xs ys h1 h2
      exact lists xs ys h1 h2 hf
    · cases hf

theorem RelVs.rep {T : Tab} {φ : Phi} {H : Hp} {xs : List Val} {us : List V} (r : RelVs T φ H xs us) : ∀ n : Nat, RelVs T φ H (List.replicate n xs).flatten (List.replicate n us).flatten
  | 0 => .nil
  | n + 1 => by
    rw [List.replicate_succ, List.replicate_succ, List.flatten_cons, List.flatten_cons]
    exact r.append (RelVs.rep r n)

abbrev fLt := fI0 fun i j => .bl (decide (i < j))
abbrev fLe := fI0 fun i j => .bl (decide (i ≤ j))
abbrev fGt := fI0 fun i j => .bl (decide (j < i))
abbrev fGe := fI0 fun i j => .bl (decide (j ≤ i))
section
variable {T : Tab}
theorem snd_lt : SndB T (rI0 fun i j => .bl (decide (i < j))) fLt := snd_I0 fun _ _ i j => .bl _
theorem snd_le : SndB T (rI0 fun i j => .bl (decide (i ≤ j))) fLe := snd_I0 fun _ _ i j => .bl _
theorem snd_gt : SndB T (rI0 fun i j => .bl (decide (j < i))) fGt := snd_I0 fun _ _ i j => .bl _
theorem snd_ge : SndB T (rI0 fun i j => .bl (decide (j ≤ i))) fGe := snd_I0 fun _ _ i j => .bl _
end
/-- tuples of ints -/
def intsOf : List Val → Option (List Int)
  | [] => some []
  | .int i :: r => (intsOf r).map (i :: ·)
  | _ => none
theorem rel_ints {T : Tab} {φ : Phi} {H : Hp} : ∀ {xs : List Val} {us : List V} {ns : List Int}, RelVs T φ H xs us → intsOf xs = some ns → us = ns.map V.int
  | _, _, _, .nil, h => by cases h; rfl
  | _, _, _, .cons a b, h => by
    cases a with
    | int i =>
      simp only [intsOf, Option.map_eq_some_iff] at h
      obtain ⟨ms, e, rfl⟩ := h
      rw [rel_ints b e]; rfl
    | _ => cases h
def fLtT (st : Sto) (v w : Val) : Option Val := match v, w with
  | .int i, .int j => some (.bl (decide (i < j)))
  | .tup xs, .tup ys => match intsOf xs, intsOf ys with
    | some ns, some ms => some (.bl (HT.lexLt ns ms))
    | _, _ => none
  | _, _ => none
def rLtA (K : PySem.W.Frag) : R2 := fun x y H Q => (rI0 fun i j => .bl (decide (i < j))) x y H Q ∨ rLtT K x y H Q
theorem op_ltA {X : Cx} (hu : X.A.units < cLine) : OpR X (compareOp .Lt) (rLtA X.K) := op_lt.or (op_ltT hu)
theorem snd_ltT {T : Tab} : SndB T (rLtA T.K) fLtT := by
  intro φ st H v w z x y Q R r1 r2 hf hq
  unfold fLtT at hf
  split at hf
  · cases hf; cases r1; cases r2
    exact .inl ⟨_, _, rfl, rfl, hq H _ Ext.refl R (.bl _)⟩
  · split at hf
    · rename_i h1 h2
      cases hf
      cases r1 with
      | tup a1 b1 =>
        cases r2 with
        | tup a2 b2 =>
          have e1 := rel_ints b1 h1
          have e2 := rel_ints b2 h2
          subst e1 e2
          exact .inr ⟨_, _, _, _, rfl, rfl, SqT.of a1, SqT.of a2, hq H _ Ext.refl R (.bl _)⟩
    · cases hf
  · cases hf

def keyOf : Val → Option Key
  | .int i => some (.inl i)
  | .str s => some (.inr s)
  | _ => none
def keysOf : List Val → Option (List Key)
  | [] => some []
  | x :: xs => match keyOf x, keysOf xs with
    | some k, some ks => some (k :: ks)
    | _, _ => none
theorem rel_key {T : Tab} {φ : Phi} {H : Hp} {v : Val} {x : V} {k : Key} (r : RelV T φ H v x) (h : keyOf v = some k) : x = kV k := by
  cases r <;> cases h <;> rfl
theorem rel_keys {T : Tab} {φ : Phi} {H : Hp} : ∀ {vs : List Val} {xs : List V} {ks : List Key}, RelVs T φ H vs xs → keysOf vs = some ks → xs = ks.map kV
  | _, _, _, .nil, h => by cases h; rfl
  | _, _, _, .cons a b, h => by
    rw [keysOf] at h
    split at h
    · rename_i k ks e1 e2
      cases h
      rw [rel_key a e1, rel_keys b e2]; rfl
    · cases h
def look {κ α : Type} [DecidableEq κ] (kvs : List (κ × α)) (k : κ) : Option α := (kvs.find? fun kv => decide (kv.1 = k)).map (·.2)
def put {κ α : Type} [DecidableEq κ] (kvs : List (κ × α)) (k : κ) (v : α) : List (κ × α) :=
  if (kvs.any fun kv => decide (kv.1 = k)) = true then kvs.map (fun kv => if kv.1 = k then (kv.1, v) else kv) else kvs ++ [(k, v)]
section
variable {T : Tab} {φ : Phi} {H : Hp} {κ : Type} [DecidableEq κ]
theorem rel_any {kvs : List (κ × Val)} {us : List (κ × V)} (r : RelF T φ H kvs us) (k : κ) : (kvs.any fun kv => decide (kv.1 = k)) = us.any fun kv => decide (kv.1 = k) := by
  induction r with
  | nil => rfl
  | cons a _ ih => simp only [List.any_cons, a.1, ih]
theorem rel_look {kvs : List (κ × Val)} {us : List (κ × V)} (r : RelF T φ H kvs us) (k : κ) : (look kvs k = none ∧ valV us k = none) ∨ ∃ v x, look kvs k = some v ∧ valV us k = some x ∧ RelV T φ H v x := by
  induction r with
  | nil => exact .inl ⟨rfl, rfl⟩
  | cons a _ ih =>
    rename_i p q r s _
    unfold look valV at *
    simp only [List.find?_cons]
    by_cases e : p.1 = k
    · have e2 : q.1 = k := a.1 ▸ e
      simp only [e, e2, decide_true, Option.map_some]
      exact .inr ⟨_, _, rfl, rfl, a.2⟩
    · have e2 : ¬ q.1 = k := a.1 ▸ e
      simp only [e, e2, decide_false]
      exact ih
theorem rel_put {kvs : List (κ × Val)} {us : List (κ × V)} (r : RelF T φ H kvs us) (k : κ) {v : Val} {x : V} (rv : RelV T φ H v x) : RelF T φ H (put kvs k v) (putK us k x) := by
  unfold put putK
  rw [rel_any r k]
  split
  · rename_i hh; clear hh
    induction r with
    | nil => exact .nil
    | cons a _ ih =>
      rename_i p q _ _ _
      refine .cons ?_ ih
      have hq : q.1 = p.1 := a.1.symm
      by_cases e : p.1 = k
      · have e2 : q.1 = k := hq.trans e
        simp only [e, e2, if_true]
        exact ⟨trivial, rv⟩
      · have e2 : ¬ q.1 = k := fun z => e (hq.symm.trans z)
        simp only [e, e2, if_false]
        exact a
  · exact Paired.snoc r ⟨rfl, rv⟩
theorem rel_zip : ∀ {ks : List κ} {vs : List Val} {us : List V}, ks.length = us.length → RelVs T φ H vs us → RelF T φ H (ks.zip vs) (ks.zip us)
  | _, _, _, _, .nil => by simp; exact .nil
  | [], _, _, _, .cons _ _ => .nil
  | k :: ks, _, _, h, .cons a b => .cons ⟨rfl, a⟩ (rel_zip (by simpa using h) b)
end
/-- what the dict v holds at the key w -/
def dGet (st : Sto) (v w : Val) : Option (Option Val) := match v with
  | .loc n => match st[n]? with
    | some (.dK kvs) => (keyOf w).map (look kvs)
    | some (.lkK kvs) => (keyOf w).map (look kvs)
    | some (.dT kvs) => (tupOf w).bind fun xs => (keysOf xs).map (look kvs)
    | some (.lkT kvs) => (tupOf w).bind fun xs => (keysOf xs).map (look kvs)
    | _ => none
  | .dct ks vs => (keyOf w).map (look (ks.zip vs))
  | _ => none
theorem rel_dget {T : Tab} {φ : Phi} {st : Sto} {H : Hp} (R : Rst T φ st H) {v w : Val} {x y : V} {o : Option Val} (r1 : RelV T φ H v x) (r2 : RelV T φ H w y) (h : dGet st v w = some o) :
    ∃ a r, x = .ref a ∧ DGet H a y r ∧ ((o = none ∧ r = none) ∨ ∃ z u, o = some z ∧ r = some u ∧ RelV T φ H z u) := by
  have one : ∀ {kvs us a}, Rd H a (.dK us) → RelF T φ H kvs us → x = .ref a → (keyOf w).map (look kvs) = some o → ∃ a r, x = .ref a ∧ DGet H a y r ∧ ((o = none ∧ r = none) ∨ ∃ z u, o = some z ∧ r = some u ∧ RelV T φ H z u) := by
    intro kvs us a h1 h2 hx h
    simp only [Option.map_eq_some_iff] at h
    obtain ⟨k, e, rfl⟩ := h
    exact ⟨a, valV us k, hx, .inl ⟨us, k, h1, rel_key r2 e, rfl⟩, rel_look h2 k⟩
  have two : ∀ {kvs us a}, Rd H a (.dT us) → RelF T φ H kvs us → x = .ref a → ((tupOf w).bind fun xs => (keysOf xs).map (look kvs)) = some o → ∃ a r, x = .ref a ∧ DGet H a y r ∧ ((o = none ∧ r = none) ∨ ∃ z u, o = some z ∧ r = some u ∧ RelV T φ H z u) := by
    intro kvs us a h1 h2 hx h
    simp only [Option.bind_eq_some_iff, Option.map_eq_some_iff] at h
    obtain ⟨xs, e, k, ek, rfl⟩ := h
    obtain ⟨b, ws, hy, hb, rv⟩ := rel_tup r2 e
    exact ⟨a, valV us k, hx, .inr ⟨us, k, b, h1, hy, by rw [hb, rel_keys rv ek], rfl⟩, rel_look h2 k⟩
  cases r1 with
  | loc hn hu =>
    unfold dGet at h
    dsimp only at h
    split at h
    · rename_i kvs q
      obtain ⟨a, e1, us, e2, e3⟩ := R.at q (by simp)
      exact one (.inl e2) e3 (hu a e1) h
    · rename_i kvs q
      obtain ⟨a, e1, o, us, e2, e3⟩ := R.at q (by simp)
      exact one (.inr ⟨o, e2⟩) e3 (hu a e1) h
    · rename_i kvs q
      obtain ⟨a, e1, us, e2, e3⟩ := R.at q (by simp)
      exact two (.inl e2) e3 (hu a e1) h
    · rename_i kvs q
      obtain ⟨a, e1, o, us, e2, e3⟩ := R.at q (by simp)
      exact two (.inr ⟨o, e2⟩) e3 (hu a e1) h
    · cases h
  | dct h1 h2 h3 h4 => exact one h2 (rel_zip h3 h4) rfl h
  | _ => cases h

def rIxD : R2 := fun x y H Q => ∃ a v, x = .ref a ∧ DGet H a y (some v) ∧ Q v H
theorem ix_dict {X : Cx} (hu : X.A.units + 1 < cLine) : IxR X rIxD := by
  intro value slice pins s σ H x y v u Q I rx ry h hs
  obtain ⟨a, z, rfl, g, q⟩ := h
  obtain rfl : v = Value.ref a := rx
  have hT := dict_typeIs I g
  unfold subscriptTail
  refine wpAny_bind ?_
  rw [getitemInPython_of_ne hT.not_modules]
  refine wpAny_bind (wpAny_specialOf hT PySem.F.slot_dict_getitem.lookup ?_)
  have fin : wpAny (model X.prog X.w) X.A (subscripted slice false (.ref a) u) (fun r s₃ => wpAny (model X.prog X.w) X.A (letTemporaryGo value (.ref a) r >>= fun _ => pure r) (EP X pins σ Q) X.xe s₃) X.xe s := by
    rw [hs]
    exact wpAny_operating (d_getItem hu I g ry fun w' s3 I3 rw' => wpAny_bind (wpAny_letTemporaryGo (wpAny_pure ⟨z, H, I3, rw', q⟩)))
  first
    | exact wpAny_pure (wpAny_bind fin)
    | exact wpAny_bind (wpAny_pure (wpAny_bind fin))
    | exact wpAny_bind fin
def rIxA (K : PySem.W.Frag) : R2 := fun x y H Q => rIx K x y H Q ∨ rIxD x y H Q
theorem ix_any {X : Cx} (hu : X.A.units + 1 < cLine) : IxR X (rIxA X.K) := ix_seq.or (ix_dict hu)
def fIx (st : Sto) (v w : Val) : Option Val := match seqOf st v with
  | some xs => match w with
    | .int i => atI xs i
    | _ => none
  | none => match v, w with
    | .str z, .int i => if z.length ≤ sizeLine then (atI z.cps.toList i).map fun c => .str ⟨#[c]⟩ else none
    | v, w => (dGet st v w).bind id
theorem RelVs.atI {T : Tab} {φ : Phi} {H : Hp} {xs : List Val} {us : List V} (r : RelVs T φ H xs us) {i : Int} {z : Val} (h : L2.atI xs i = some z) : ∃ u, L2.atI us i = some u ∧ RelV T φ H z u := by
  unfold L2.atI at *
  rw [← r.length]
  simp only [Option.bind_eq_some_iff] at h ⊢
  obtain ⟨j, e, h⟩ := h
  obtain ⟨u, e2, ru⟩ := r.get h
  exact ⟨u, ⟨j, e, e2⟩, ru⟩
theorem snd_ix {T : Tab} : SndB T (rIxA T.K) fIx := by
  intro φ st H v w z x y Q R r1 r2 hf hq
  unfold fIx at hf
  split at hf
  · rename_i xs hx
    split at hf
    · obtain ⟨a, us, rfl, hs, rv⟩ := rel_seq R r1 hx
      obtain ⟨u, e, ru⟩ := rv.atI hf
      cases r2
      rcases hs with hs | hs
      · exact .inl (.inl ⟨a, us, _, u, rfl, rfl, hs, e, hq H u Ext.refl R ru⟩)
      · exact .inl (.inr (.inl ⟨a, us, _, u, rfl, rfl, hs, e, hq H u Ext.refl R ru⟩))
    · cases hf
  · split at hf
    · split at hf
      · rename_i hz
        simp only [Option.map_eq_some_iff] at hf
        obtain ⟨c, e, rfl⟩ := hf
        cases r1; cases r2
        exact .inl (.inr (.inr ⟨_, _, c, rfl, rfl, hz, e, hq H _ Ext.refl R (.str _)⟩))
      · cases hf
    · simp only [Option.bind_eq_some_iff, id] at hf
      obtain ⟨o, e, rfl⟩ := hf
      obtain ⟨a, r, hx, hg, h⟩ := rel_dget R r1 r2 e
      rcases h with ⟨h, _⟩ | ⟨z', u, h1, h2, ru⟩
      · cases h
      · cases h1
        subst h2
        exact .inr ⟨a, u, hx, hg, hq H u Ext.refl R ru⟩
theorem e_ix {X : Cx} {W : WX} {T : Tab} {a b : Expr} {pos : Pos} {ea eb : E} (hK : T.K = X.K) (hu : X.A.units + 1 < cLine) (ha : PE X a (tE T W ea)) (hb : PE X b (tE T W eb)) (hs : PlainIx b := by intro _ _; rfl) : PE X (.Subscript a b pos) (tE T W (eB fIx ea eb)) :=
  pe_imp (pe_ix (ix_any hu) ha hb hs) fun _ _ _ h => by rw [← hK]; exact bin_sound snd_ix h

def rInDt (neg : Bool) : R2 := fun y x H Q => ∃ a o, x = .ref a ∧ DGet H a y o ∧ Q (.bl (if neg then !o.isSome else o.isSome)) H
theorem op_inDt {X : Cx} (hu : X.A.units + 1 < cLine) : OpR X (compareOp .In) (rInDt false) := by
  intro pins s σ H x y v u Q I rx ry h
  obtain ⟨a, o, rfl, g, q⟩ := h
  obtain rfl : u = Value.ref a := ry
  exact d_in hu I g rx fun s3 I3 => ⟨.bl o.isSome, H, I3, rfl, q⟩
theorem op_notInDt {X : Cx} (hu : X.A.units + 1 < cLine) : OpR X (compareOp .NotIn) (rInDt true) := by
  intro pins s σ H x y v u Q I rx ry h
  obtain ⟨a, o, rfl, g, q⟩ := h
  obtain rfl : u = Value.ref a := ry
  exact d_notIn hu I g rx fun s3 I3 => ⟨.bl (!o.isSome), H, I3, rfl, q⟩
def rInA (K : PySem.W.Frag) : R2 := fun x y H Q => rInD K x y H Q ∨ rIn K false x y H Q ∨ rInDt false x y H Q ∨ (∃ i j, x = .str i ∧ y = .str j ∧ Q (.bl (!(Builtin.Str.occurrences j i 0 j.length 1).isEmpty)) H)
def rNotInA (K : PySem.W.Frag) : R2 := fun x y H Q => rNotInD K x y H Q ∨ rIn K true x y H Q ∨ rInDt true x y H Q ∨ (∃ i j, x = .str i ∧ y = .str j ∧ Q (.bl (!(!(Builtin.Str.occurrences j i 0 j.length 1).isEmpty))) H)
theorem op_inA {X : Cx} (hu : X.A.units + 65 < cLine) : OpR X (compareOp .In) (rInA X.K) := (op_inD hu).or (op_in_seq.or ((op_inDt (by omega)).or op_in_str))
theorem op_notInA {X : Cx} (hu : X.A.units + 65 < cLine) : OpR X (compareOp .NotIn) (rNotInA X.K) := (op_notInD hu).or (op_notIn_seq.or ((op_notInDt (by omega)).or op_notin_str))
/-- a flat value -/
def flV : Val → Option V
  | .non => some .non
  | .bl b => some (.bl b)
  | .int i => some (.int i)
  | .str s => some (.str s)
  | _ => none
def flVs : List Val → Option (List V)
  | [] => some []
  | x :: xs => match flV x, flVs xs with
    | some k, some ks => some (k :: ks)
    | _, _ => none
theorem rel_fl {T : Tab} {φ : Phi} {H : Hp} {v : Val} {x u : V} (r : RelV T φ H v x) (h : flV v = some u) : x = u ∧ flatV x = true := by
  cases r <;> cases h <;> exact ⟨rfl, rfl⟩
theorem rel_fls {T : Tab} {φ : Phi} {H : Hp} : ∀ {vs : List Val} {xs us : List V}, RelVs T φ H vs xs → flVs vs = some us → xs = us ∧ xs.all flatV = true
  | _, _, _, .nil, h => by cases h; exact ⟨rfl, rfl⟩
  | _, _, _, .cons a b, h => by
    rw [flVs] at h
    split at h
    · rename_i k ks e1 e2
      cases h
      obtain ⟨h1, h2⟩ := rel_fl a e1
      obtain ⟨h3, h4⟩ := rel_fls b e2
      rw [h1, h3]
      exact ⟨rfl, by rw [List.all_cons, ← h1, ← h3, h2, h4]; rfl⟩
    · cases h
/-- whether v is in w -/
def isIn (st : Sto) (v w : Val) : Option Bool := match w with
  | .str j => match v with
    | .str i => some (!(Builtin.Str.occurrences j i 0 j.length 1).isEmpty)
    | _ => none
  | .tup ys => match flV v, flVs ys with
    | some x, some us => some (inV x us)
    | _, _ => none
  | w => match lstOf st w with
    | some ys => match toD (dr st v), toDs ys with
      | some d, some ds => if SeqAt.shaped d && SeqAt.shaped (.list ds) then some (ds.any fun z => PyData.eqv z d) else none
      | _, _ => none
    | none => (dGet st w v).map Option.isSome
def fIn (st : Sto) (v w : Val) : Option Val := (isIn st v w).map .bl
def fNotIn (st : Sto) (v w : Val) : Option Val := (isIn st v w).map fun b => .bl (!b)
theorem snd_isIn {T : Tab} {φ : Phi} {st : Sto} {H : Hp} {v w : Val} {x y : V} {b : Bool} (R : Rst T φ st H) (r1 : RelV T φ H v x) (r2 : RelV T φ H w y) (hf : isIn st v w = some b) :
    (∃ d ds, Dp T.K H x d ∧ Dp T.K H y (.list ds) ∧ SeqAt.shaped d = true ∧ SeqAt.shaped (.list ds) = true ∧ b = ds.any fun z => PyData.eqv z d) ∨
    (∃ p xs, y = .ref p ∧ (SqL T.K H p xs ∨ SqT T.K H p xs) ∧ flatV x = true ∧ xs.all flatV = true ∧ b = inV x xs) ∨ (∃ a o, y = .ref a ∧ DGet H a x o ∧ b = o.isSome) ∨
    ∃ i j, x = .str i ∧ y = .str j ∧ b = !(Builtin.Str.occurrences j i 0 j.length 1).isEmpty := by
  unfold isIn at hf
  split at hf
  · split at hf
    · cases hf; cases r1; cases r2
      exact .inr (.inr (.inr ⟨_, _, rfl, rfl, rfl⟩))
    · cases hf
  · split at hf
    · rename_i h1 h2
      cases hf
      cases r2 with
      | tup a2 b2 =>
        obtain ⟨e1, e2⟩ := rel_fl r1 h1
        obtain ⟨e3, e4⟩ := rel_fls b2 h2
        subst e1 e3
        exact .inr (.inl ⟨_, _, rfl, .inr (SqT.of a2), e2, e4, rfl⟩)
    · cases hf
  · split at hf
    · rename_i ys hy
      split at hf
      · rename_i d ds h1 h2
        split at hf
        · rename_i hs
          cases hf
          rw [Bool.and_eq_true] at hs
          obtain ⟨a, us, rfl, q1, q2⟩ := rel_lst R r2 hy
          exact .inl ⟨d, ds, rel_dr R r1 h1, .lst q1 (rel_dps q2 h2), hs.1, hs.2, rfl⟩
        · cases hf
      · cases hf
    · simp only [Option.map_eq_some_iff] at hf
      obtain ⟨o, e, rfl⟩ := hf
      obtain ⟨a, r, hx, hg, h⟩ := rel_dget R r2 r1 e
      refine .inr (.inr (.inl ⟨a, r, hx, hg, ?_⟩))
      rcases h with ⟨rfl, rfl⟩ | ⟨z', u, rfl, rfl, ru⟩ <;> rfl
theorem snd_in {T : Tab} : SndB T (rInA T.K) fIn := by
  intro φ st H v w z x y Q R r1 r2 hf hq
  unfold fIn at hf
  simp only [Option.map_eq_some_iff] at hf
  obtain ⟨b, e, rfl⟩ := hf
  have q := hq H (.bl b) Ext.refl R (.bl b)
  rcases snd_isIn R r1 r2 e with ⟨d, ds, h1, h2, h3, h4, rfl⟩ | ⟨p, xs, h1, h2, h3, h4, rfl⟩ | ⟨a, o, h1, h2, rfl⟩ | ⟨i, j, h1, h2, rfl⟩
  · exact .inl ⟨d, ds, h1, h2, h3, h4, q⟩
  · exact .inr (.inl ⟨p, xs, h1, h2, h3, h4, q⟩)
  · exact .inr (.inr (.inl ⟨a, o, h1, h2, q⟩))
  · exact .inr (.inr (.inr ⟨i, j, h1, h2, q⟩))
theorem snd_notIn {T : Tab} : SndB T (rNotInA T.K) fNotIn := by
  intro φ st H v w z x y Q R r1 r2 hf hq
  unfold fNotIn at hf
  simp only [Option.map_eq_some_iff] at hf
  obtain ⟨b, e, rfl⟩ := hf
  have q := hq H (.bl (!b)) Ext.refl R (.bl (!b))
  rcases snd_isIn R r1 r2 e with ⟨d, ds, h1, h2, h3, h4, rfl⟩ | ⟨p, xs, h1, h2, h3, h4, rfl⟩ | ⟨a, o, h1, h2, rfl⟩ | ⟨i, j, h1, h2, rfl⟩
  · exact .inl ⟨d, ds, h1, h2, h3, h4, q⟩
  · exact .inr (.inl ⟨p, xs, h1, h2, h3, h4, q⟩)
  · exact .inr (.inr (.inl ⟨a, o, h1, h2, q⟩))
  · exact .inr (.inr (.inr ⟨i, j, h1, h2, q⟩))

def fIs (_ : Sto) (v w : Val) : Option Val := match v, w with
  | .non, .non => some (.bl true)
  | .loc _, .non => none
  | _, .non => some (.bl false)
  | .bl a, .bl b => some (.bl (decide (a = b)))
  | _, _ => none
def fIsNot (_ : Sto) (v w : Val) : Option Val := match v, w with
  | .non, .non => some (.bl false)
  | .loc _, .non => none
  | _, .non => some (.bl true)
  | .bl a, .bl b => some (.bl (!decide (a = b)))
  | _, _ => none
def rIsA : R2 := fun x y H Q => (y = .non ∧ Q (.bl (decide (x = .non))) H) ∨ (∃ a b, x = .bl a ∧ y = .bl b ∧ Q (.bl (decide (a = b))) H)
def rIsNotA : R2 := fun x y H Q => (y = .non ∧ Q (.bl (!decide (x = .non))) H) ∨ (∃ a b, x = .bl a ∧ y = .bl b ∧ Q (.bl (!decide (a = b))) H)
theorem op_isA {X : Cx} : OpR X (compareOp .Is) rIsA := op_isN.or L2.op_is_bl
theorem op_isNotA {X : Cx} : OpR X (compareOp .IsNot) rIsNotA := op_notN.or L2.op_isnot_bl
end Ev

set_option Elab.async false
set_option linter.all false
set_option maxRecDepth 100000
set_option maxHeartbeats 2000000
namespace Ev
open PySem PySem.Spec PyProof.Rows L2

inductive SR where
  | nx (ρ : Env) (st : Sto)
  | rt (v : Val) (st : Sto)
  | bk (ρ : Env) (st : Sto)
  | ct (ρ : Env) (st : Sto)
  | ex (x : Val) (ρ : Env) (st : Sto)
  | bad
abbrev S := Env → Sto → SR
abbrev G := Val → Env → Sto → Option (Env × Sto)
abbrev GS := List Val → Env → Sto → Option (Env × Sto)

def PostS (T : Tab) (W : WX) (φ : Phi) (H : Hp) (D : Ends) : SR → Prop
  | .nx ρ st => ∀ φ' H' σ', Ext φ H φ' H' → RelE T φ' ρ st σ' H' → D.nx σ' H'
  | .bk ρ st => ∀ φ' H' σ', Ext φ H φ' H' → RelE T φ' ρ st σ' H' → D.bk σ' H'
  | .ct ρ st => ∀ φ' H' σ', Ext φ H φ' H' → RelE T φ' ρ st σ' H' → D.ct σ' H'
  | .rt v st => ∀ φ' H' u, Ext φ H φ' H' → Rst T φ' st H' → RelV T φ' H' v u → D.rt u H'
  | .ex x ρ st => ∀ φ' H' σ' c d, Ext φ H φ' H' → RelE T φ' ρ st σ' H' → RelX T φ' H' x c d → W c d σ' H'
  | .bad => False
def tS (T : Tab) (W : WX) (s : S) : TS := fun D σ H => ∃ φ ρ st, RelE T φ ρ st σ H ∧ PostS T W φ H D (s ρ st)
def PostGt (T : Tab) (φ : Phi) (H : Hp) (Q : L2.St → Hp → Prop) : Option (Env × Sto) → Prop
  | some (ρ, st) => ∀ φ' H' σ', Ext φ H φ' H' → RelE T φ' ρ st σ' H' → Q σ' H'
  | none => False
def tGt (T : Tab) (g : G) : TG := fun v σ H Q => ∃ φ ρ st w, RelE T φ ρ st σ H ∧ RelV T φ H w v ∧ PostGt T φ H Q (g w ρ st)
def tGs (T : Tab) (g : GS) : TGs := fun vs σ H Q => ∃ φ ρ st ws, RelE T φ ρ st σ H ∧ RelVs T φ H ws vs ∧ PostGt T φ H Q (g ws ρ st)

section
variable {T : Tab} {φ φ' : Phi} {ρ : Env} {st st' : Sto} {σ : L2.St} {H H' : Hp} {W : WX}
theorem PostS.later {D : Ends} {r : SR} (p : PostS T W φ H D r) (e : Ext φ H φ' H') : PostS T W φ' H' D r := by
  cases r with
  | nx ρ st => exact fun φ2 H2 σ2 e2 re => p φ2 H2 σ2 (e.trans e2) re
  | bk ρ st => exact fun φ2 H2 σ2 e2 re => p φ2 H2 σ2 (e.trans e2) re
  | ct ρ st => exact fun φ2 H2 σ2 e2 re => p φ2 H2 σ2 (e.trans e2) re
  | rt v st => exact fun φ2 H2 u e2 s q => p φ2 H2 u (e.trans e2) s q
  | ex x ρ st => exact fun φ2 H2 σ2 c d e2 re q => p φ2 H2 σ2 c d (e.trans e2) re q
  | bad => exact p
theorem PostGt.later {Q : L2.St → Hp → Prop} {r : Option (Env × Sto)} (p : PostGt T φ H Q r) (e : Ext φ H φ' H') : PostGt T φ' H' Q r := by
  cases r with
  | none => exact p
  | some r => exact fun φ2 H2 σ2 e2 re => p φ2 H2 σ2 (e.trans e2) re
theorem RelE.set (r : RelE T φ ρ st σ H) {v : Val} {u : V} (q : RelV T φ H v u) (i : Nat) : RelE T φ (ρ.set i (some v)) st (σ.set i (some u)) H where
  rst := r.rst
  len := by simp [r.len]
  get := fun j w h => by
    by_cases e : i = j
    · subst e
      by_cases hl : i < ρ.length
      · rw [List.getElem?_set_self hl] at h
        cases h
        exact ⟨u, List.getElem?_set_self (by rw [← r.len]; exact hl), q⟩
      · rw [List.getElem?_eq_none (by simpa using hl)] at h; cases h
    · rw [List.getElem?_set_ne e] at h
      obtain ⟨x, h1, h2⟩ := r.get j w h
      exact ⟨x, by rw [List.getElem?_set_ne e]; exact h1, h2⟩
end

section
variable {X : Cx} {T : Tab} {W : WX}
theorem ps_imp {s : Stmt} {t t' : TS} (h : PS X s t) (k : ∀ D σ H, t' D σ H → t D σ H) : PS X s t' := ⟨fun pins s σ H D I q => h.run pins s σ H D I (k _ _ _ q)⟩
theorem pss_imp {s : List Stmt} {t t' : TS} (h : PSs X s t) (k : ∀ D σ H, t' D σ H → t D σ H) : PSs X s t' := ⟨fun pins s σ H D I q => h.run pins s σ H D I (k _ _ _ q)⟩
theorem pg_imp {s : Expr} {t t' : TG} (h : PG X s t) (k : ∀ v σ H Q, t' v σ H Q → t v σ H Q) : PG X s t' := ⟨fun pins s σ H v u Q I r q => h.run pins s σ H v u Q I r (k _ _ _ _ q)⟩
theorem pgs_imp {s : List Expr} {t t' : TGs} (h : PGs X s t) (k : ∀ v σ H Q, t' v σ H Q → t v σ H Q) : PGs X s t' := ⟨fun pins s σ H v u Q I r q => h.run pins s σ H v u Q I r (k _ _ _ _ q)⟩

def gN (i : Nat) : G := fun v ρ st => some (ρ.set i (some v), st)
theorem g_name {i : Nat} {x : Str} {pos : Pos} (hN : X.N.Nodup) (hi : X.N[i]? = some x := by rfl) (hx : Loc X.env.scope x := by first | exact Or.inl rfl | exact Or.inr rfl) (hf : X.fn x = true ∨ X.env.scope.names.lookup x = some .local := by first | exact .inl rfl | exact .inr rfl | assumption) :
    PG X (.Name x pos) (tGt T (gN i)) := by
  refine pg_imp (pg_name (i := i) hN hi hx hf) fun v σ H Q h => ?_
  obtain ⟨φ, ρ, st, w, re, r, p⟩ := h
  exact p φ H _ Ext.refl (re.set r i)
def gNil' : GS := fun vs ρ st => match vs with
  | [] => some (ρ, st)
  | _ => none
def gCons' (g : G) (gs : GS) : GS := fun vs ρ st => match vs with
  | v :: r => match g v ρ st with
    | some (ρ1, st1) => gs r ρ1 st1
    | none => none
  | [] => none
theorem gs_nil : PGs X [] (tGs T gNil') := by
  refine pgs_imp pgs_nil fun v σ H Q h => ?_
  obtain ⟨φ, ρ, st, ws, re, r, p⟩ := h
  cases r with
  | nil => exact ⟨rfl, p φ H σ Ext.refl re⟩
  | cons a b => exact p.elim
theorem gs_cons {e : Expr} {es : List Expr} {g : G} {gs : GS} (h1 : PG X e (tGt T g)) (h2 : PGs X es (tGs T gs))
    (hs : (assignEach (e :: es) X.env).map (·.2) = assign e X.env :: (assignEach es X.env).map (·.2) := by rfl) : PGs X (e :: es) (tGs T (gCons' g gs)) := by
  refine pgs_imp (pgs_cons h1 h2 hs) fun v σ H Q h => ?_
  obtain ⟨φ, ρ, st, ws, re, r, p⟩ := h
  cases r with
  | nil => exact p.elim
  | cons a b =>
    rename_i w u ws us
    refine ⟨u, us, rfl, φ, ρ, st, w, re, a, ?_⟩
    unfold gCons' at p
    dsimp only at p
    cases hg : g w ρ st with
    | none => rw [hg] at p; exact p.elim
    | some q =>
      obtain ⟨ρ1, st1⟩ := q
      rw [hg] at p
      exact fun φ1 H1 σ1 e1 re1 => ⟨φ1, ρ1, st1, ws, re1, b.ext e1, PostGt.later p e1⟩
def gT (n : Nat) (gs : GS) : G := fun v ρ st => match v with
  | .tup xs => if xs.length = n then gs xs ρ st else none
  | _ => none
theorem g_tup {es : List Expr} {k : Nat} {pos : Pos} {gs : GS} {n : Nat} (hK : T.K = X.K) (hc : X.calm = true) (h : PGs X es (tGs T gs))
    (hn : (assignEach es X.env).length = n := by rfl) (hst : (assignEach es X.env).findIdx? (·.1) = none := by rfl) : PG X (.Tuple es k pos) (tGt T (gT n gs)) := by
  refine pg_imp (pg_tup hc h hn hst) fun v σ H Q h => ?_
  obtain ⟨φ, ρ, st, w, re, r, p⟩ := h
  unfold gT at p
  cases r with
  | tup a b =>
    dsimp only at p
    split at p
    · rename_i hl
      exact ⟨_, _, rfl, SqT.of a, by rw [← b.length]; exact hl, φ, ρ, st, _, re, b, p⟩
    · exact p.elim
  | _ => exact p.elim

/-- the store behind v[w] = z -/
def fSet (st : Sto) (v w z : Val) : Option Sto := match v with
  | .loc n => match st[n]? with
    | some (.lst xs) => match w with
      | .int k => (ixN xs.length k).map fun j => st.set n (.lst (xs.set j z))
      | _ => none
    | some (.dK kvs) => if kvs.length < sizeLine then (keyOf w).map fun k => st.set n (.dK (put kvs k z)) else none
    | some (.dT kvs) => if kvs.length < sizeLine then (tupOf w).bind fun xs => (keysOf xs).map fun k => st.set n (.dT (put kvs k z)) else none
    | _ => none
  | _ => none
def rSetA : TSet := fun o i v H Q => rSetL o i v H Q ∨ ∃ a H4, o = .ref a ∧ DPut H a i v H4 ∧ Q H4
theorem set_any (hu : X.A.units + 1 < cLine) : PSet X rSetA := by
  intro pins s σ H o i v ov iv u Q I ro ri rv h
  rcases h with h | ⟨a, H4, rfl, g, q⟩
  · exact set_list pins s σ H o i v ov iv u Q I ro ri rv h
  · obtain rfl : ov = Value.ref a := ro
    exact d_setItem hu I g ri rv fun s4 I4 => ⟨H4, I4, q⟩
theorem Paired.length_eq {α β : Type} {F : α → β → Prop} {l₁ : List α} {l₂ : List β} (h : Paired F l₁ l₂) : l₁.length = l₂.length := Paired.length h
theorem snd_set {φ : Phi} {st st' : Sto} {H : Hp} {v w z : Val} {x y u : V} {Q : Hp → Prop} (R : Rst T φ st H) (r1 : RelV T φ H v x) (r2 : RelV T φ H w y) (r3 : RelV T φ H z u) (hf : fSet st v w z = some st')
    (hq : ∀ H', Ext φ H φ H' → Rst T φ st' H' → Q H') : rSetA x y u H Q := by
  unfold fSet at hf
  split at hf
  · rename_i n
    cases r1 with
    | loc hn hu =>
      split at hf
      · rename_i xs e
        split at hf
        · rename_i k
          cases r2
          simp only [Option.map_eq_some_iff] at hf
          obtain ⟨j, ej, rfl⟩ := hf
          obtain ⟨a, e1, us, e2, e3⟩ := R.at e (by simp)
          have ext := Ext.write (ho := .lst (us.set j u)) R e1
          exact .inl ⟨a, us, k, j, hu a e1, rfl, e2, by rw [← e3.length]; exact ej, hq _ ext (R.write e1 ⟨_, upd_same, (e3.set r3 j).ext ext⟩)⟩
        · cases hf
      · rename_i kvs e
        split at hf
        · rename_i hz
          simp only [Option.map_eq_some_iff] at hf
          obtain ⟨k, ek, rfl⟩ := hf
          obtain ⟨a, e1, us, e2, e3⟩ := R.at e (by simp)
          have ext := Ext.write (ho := .dK (putK us k u)) R e1
          exact .inr ⟨a, _, hu a e1, .inl ⟨us, k, e2, rel_key r2 ek, by rw [← Paired.length_eq e3]; exact hz, rfl⟩, hq _ ext (R.write e1 ⟨_, upd_same, (rel_put e3 k r3).ext ext⟩)⟩
        · cases hf
      · rename_i kvs e
        split at hf
        · rename_i hz
          simp only [Option.bind_eq_some_iff, Option.map_eq_some_iff] at hf
          obtain ⟨xs, ex, k, ek, rfl⟩ := hf
          obtain ⟨a, e1, us, e2, e3⟩ := R.at e (by simp)
          obtain ⟨b, ws, hy, hb, rv⟩ := rel_tup r2 ex
          have ext := Ext.write (ho := .dT (putK us k u)) R e1
          exact .inr ⟨a, _, hu a e1, .inr ⟨us, k, b, e2, hy, by rw [hb, rel_keys rv ek], by rw [← Paired.length_eq e3]; exact hz, rfl⟩, hq _ ext (R.write e1 ⟨_, upd_same, (rel_put e3 k r3).ext ext⟩)⟩
        · cases hf
      · cases hf
  · cases hf
def gIx (o i : E) : G := fun v ρ st => match o ρ st with
  | .ok w st1 => match i ρ st1 with
    | .ok k st2 => (fSet st2 w k v).map fun st3 => (ρ, st3)
    | _ => none
  | _ => none
theorem g_sub {o i : Expr} {pos : Pos} {eo ei : E} (hu : X.A.units + 1 < cLine) (ho : PE X o (tE T W eo)) (hi : PE X i (tE T W ei))
    (ha : ∀ v, assign (.Subscript o i pos) X.env v = (do
      let ov ← holding [v] (eval o X.env)
      let iv ← holding [v, ov] (eval i X.env)
      standAt pos
      holding [v, ov, iv] (setItem ov iv v)
      release [v, ov, iv] []) := by intro _; rfl) : PG X (.Subscript o i pos) (tGt T (gIx eo ei)) := by
  refine pg_imp (pg_sub ho hi (set_any hu) ha) fun v σ H Q h => ?_
  obtain ⟨φ, ρ, st, w, re, r, p⟩ := h
  refine ⟨φ, ρ, st, re, ?_⟩
  unfold gIx at p
  cases h1 : eo ρ st with
  | ex x st1 => rw [h1] at p; exact p.elim
  | bad => rw [h1] at p; exact p.elim
  | ok z st1 =>
    rw [h1] at p
    dsimp only at p
    intro φ1 H1 a e1 s1 q1
    refine ⟨φ1, ρ, st1, re.ext e1 s1, ?_⟩
    cases h2 : ei ρ st1 with
    | ex x st2 => rw [h2] at p; exact p.elim
    | bad => rw [h2] at p; exact p.elim
    | ok k st2 =>
      rw [h2] at p
      dsimp only at p
      intro φ2 H2 b e2 s2 q2
      cases h3 : fSet st2 z k w with
      | none => rw [h3] at p; exact p.elim
      | some st3 =>
        rw [h3] at p
        refine snd_set s2 (q1.ext e2) q2 (r.ext (e1.trans e2)) h3 fun H3 e3 s3 => ?_
        exact p φ2 H3 σ ((e1.trans e2).trans e3) (re.ext ((e1.trans e2).trans e3) s3)

def sSkip : S := fun ρ st => .nx ρ st
def sSeq (a b : S) : S := fun ρ st => match a ρ st with
  | .nx ρ1 st1 => b ρ1 st1
  | r => r
theorem ss_nil : PSs X [] (tS T W sSkip) := by
  refine pss_imp pss_nil fun D σ H h => ?_
  obtain ⟨φ, ρ, st, re, p⟩ := h
  exact p φ H σ Ext.refl re
theorem seq_sound {a b : S} {u : TS} {D : Ends} {σ : L2.St} {H : Hp} (h : tS T W (sSeq a b) D σ H) (k : ∀ σ' H', tS T W b D σ' H' → u D σ' H') : tS T W a { D with nx := u D } σ H := by
  obtain ⟨φ, ρ, st, re, p⟩ := h
  refine ⟨φ, ρ, st, re, ?_⟩
  unfold sSeq at p
  cases ha : a ρ st with
  | nx ρ1 st1 =>
    rw [ha] at p
    exact fun φ1 H1 σ1 e1 re1 => k σ1 H1 ⟨φ1, ρ1, st1, re1, PostS.later p e1⟩
  | rt v st1 => rw [ha] at p; exact p
  | bk ρ1 st1 => rw [ha] at p; exact p
  | ct ρ1 st1 => rw [ha] at p; exact p
  | ex x ρ1 st1 => rw [ha] at p; exact p
  | bad => rw [ha] at p; exact p
theorem ss_cons {s : Stmt} {rest : List Stmt} {a b : S} (h1 : PS X s (tS T W a)) (h2 : PSs X rest (tS T W b)) : PSs X (s :: rest) (tS T W (sSeq a b)) :=
  pss_imp (pss_cons h1 h2) fun D σ H h => seq_sound h fun _ _ q => q
theorem ss_one {s : Stmt} {a : S} (h1 : PS X s (tS T W a)) : PSs X [s] (tS T W a) := pss_one h1
theorem s_pass {pos : Pos} : PS X (.Pass pos) (tS T W sSkip) := by
  refine ps_imp ps_pass fun D σ H h => ?_
  obtain ⟨φ, ρ, st, re, p⟩ := h
  exact p φ H σ Ext.refl re
theorem s_doc {x j pos pos'} : PS X (.Expr (.Constant (.str x) j pos) pos') (tS T W sSkip) := by
  refine ps_imp ps_doc fun D σ H h => ?_
  obtain ⟨φ, ρ, st, re, p⟩ := h
  exact p φ H σ Ext.refl re
def sBreak : S := fun ρ st => .bk ρ st
def sCont : S := fun ρ st => .ct ρ st
theorem s_break {pos : Pos} : PS X (.Break pos) (tS T W sBreak) := by
  refine ps_imp ps_break fun D σ H h => ?_
  obtain ⟨φ, ρ, st, re, p⟩ := h
  exact p φ H σ Ext.refl re
theorem s_cont {pos : Pos} : PS X (.Continue pos) (tS T W sCont) := by
  refine ps_imp ps_continue fun D σ H h => ?_
  obtain ⟨φ, ρ, st, re, p⟩ := h
  exact p φ H σ Ext.refl re
/-- behind an expression -/
def bindS {α : Type} (r : Res α) (ρ : Env) (f : α → Sto → SR) : SR := match r with
  | .ok v st => f v st
  | .ex x st => .ex x ρ st
  | .bad => .bad
theorem tS_bind {α β : Type} {R : Phi → Hp → α → β → Prop} {e : Env → Sto → Res α} {f : Env → α → Sto → SR} {D : Ends} {σ : L2.St} {H : Hp} {Q1 : β → Hp → Prop} (h : tS T W (fun ρ st => bindS (e ρ st) ρ (f ρ)) D σ H)
    (k : ∀ v ρ st1 φ1 H1 u, RelE T φ1 ρ st1 σ H1 → R φ1 H1 v u → PostS T W φ1 H1 D (f ρ v st1) → Q1 u H1) : tG T R W e σ H Q1 := by
  obtain ⟨φ, ρ, st, re, p⟩ := h
  refine ⟨φ, ρ, st, re, ?_⟩
  dsimp only at p
  cases he : e ρ st with
  | ok v st1 =>
    rw [he] at p
    exact fun φ1 H1 u e1 s1 q1 => k v ρ st1 φ1 H1 u (re.ext e1 s1) q1 (PostS.later p e1)
  | ex x st1 =>
    rw [he] at p
    exact fun φ1 H1 c d e1 s1 q1 => p φ1 H1 σ c d e1 (re.ext e1 s1) q1
  | bad => rw [he] at p; exact p
def sExpr (e : E) : S := fun ρ st => bindS (e ρ st) ρ fun _ st1 => .nx ρ st1
theorem s_expr {e : Expr} {pos : Pos} {ee : E} (he : PE X e (tE T W ee)) (hs : swapsWith e none pos.line X.env = pure false := by rfl) : PS X (.Expr e pos) (tS T W (sExpr ee)) := by
  refine ps_imp (ps_expr he hs) fun D σ H h => ?_
  exact tS_bind h fun v ρ st1 φ1 H1 u re1 _ p1 => p1 φ1 H1 σ Ext.refl re1
def sRet (e : E) : S := fun ρ st => bindS (e ρ st) ρ fun v st1 => .rt v st1
theorem s_ret {e : Expr} {pos : Pos} {ee : E} (he : PE X e (tE T W ee)) : PS X (.Return (some e) pos) (tS T W (sRet ee)) := by
  refine ps_imp (ps_ret he) fun D σ H h => ?_
  exact tS_bind h fun v ρ st1 φ1 H1 u re1 q1 p1 => p1 φ1 H1 u Ext.refl re1.rst q1
def sRetN : S := fun _ st => .rt .non st
theorem s_retN {pos : Pos} : PS X (.Return none pos) (tS T W sRetN) := by
  refine ps_imp ps_retN fun D σ H h => ?_
  obtain ⟨φ, ρ, st, re, p⟩ := h
  exact p φ H .non Ext.refl re.rst .non
def sIf (t : ET) (a b : S) : S := fun ρ st => bindS (t ρ st) ρ fun c st1 => if c = true then a ρ st1 else b ρ st1
theorem s_if {c : Expr} {a b : List Stmt} {pos : Pos} {t : ET} {sa sb : S} (hc : PT X c (tT T W t)) (ha : PSs X a (tS T W sa)) (hb : PSs X b (tS T W sb)) : PS X (.If c a b pos) (tS T W (sIf t sa sb)) := by
  refine ps_imp (ps_if hc ha hb) fun D σ H h => ?_
  refine tS_bind h fun v ρ st1 φ1 H1 u re1 q1 p1 => ?_
  subst q1
  cases v with
  | true => exact iteT ⟨φ1, ρ, st1, re1, p1⟩
  | false => exact iteF ⟨φ1, ρ, st1, re1, p1⟩
def sSet (i : Nat) (e : E) : S := fun ρ st => bindS (e ρ st) ρ fun v st1 => .nx (ρ.set i (some v)) st1
theorem s_set {i : Nat} {x : Str} {e : Expr} {pos pos' : Pos} {ee : E} (hN : X.N.Nodup) (he : PE X e (tE T W ee)) (hi : X.N[i]? = some x := by rfl) (hx : Loc X.env.scope x := by first | exact Or.inl rfl | exact Or.inr rfl) (hs : swapsWith e (some (.Name x pos')) pos.line X.env = pure false := by rfl)
    (hf : X.fn x = true ∨ X.env.scope.names.lookup x = some .local := by first | exact .inl rfl | exact .inr rfl | assumption) : PS X (.Assign [.Name x pos'] e pos) (tS T W (sSet i ee)) := by
  refine ps_imp (ps_set hN hi hx he hs hf) fun D σ H h => ?_
  exact tS_bind h fun v ρ st1 φ1 H1 u re1 q1 p1 => p1 φ1 H1 _ Ext.refl (re1.set q1 i)
/-- target = value -/
def sAsg (g : G) (e : E) : S := fun ρ st => bindS (e ρ st) ρ fun v st1 => match g v ρ st1 with
  | some (ρ2, st2) => .nx ρ2 st2
  | none => .bad
theorem postGt_of {D : Ends} {φ : Phi} {H : Hp} {r : Option (Env × Sto)} (p : PostS T W φ H D (match r with | some (ρ2, st2) => .nx ρ2 st2 | none => .bad)) : PostGt T φ H D.nx r := by
  cases r with
  | none => exact p
  | some q => exact p
theorem s_asg {tg e : Expr} {pos : Pos} {ee : E} {g : G} (he : PE X e (tE T W ee)) (hg : PG X tg (tGt T g)) (hs : swapsWithSole [tg] e pos.line X.env = pure false := by rfl) (hw : swappedStores [tg] e X.env = pure none := by rfl)
    (h1 : (assignEach [tg] X.env).map (·.2) = [assign tg X.env] := by rfl) : PS X (.Assign [tg] e pos) (tS T W (sAsg g ee)) := by
  refine ps_imp (ps_asg he hg hs hw h1) fun D σ H h => ?_
  exact tS_bind h fun v ρ st1 φ1 H1 u re1 q1 p1 => ⟨φ1, ρ, st1, v, re1, q1, postGt_of p1⟩
/-- a, b = x, y -/
def sPar (i j : Nat) (a : EA) : S := fun ρ st => bindS (a ρ st) ρ fun vs st1 => match vs with
  | [v, w] => .nx ((ρ.set i (some v)).set j (some w)) st1
  | _ => .bad
theorem s_par {i j : Nat} {x y : Str} {a b : Expr} {ta : EA} {px py pt pos : Pos} {kt k2 pt2} (hc : X.calm = true) (hN : X.N.Nodup) (ha : PA X [a, b] (tA T W ta)) (hi : X.N[i]? = some x := by rfl) (hj : X.N[j]? = some y := by rfl) (hij : i ≠ j := by decide)
    (hx : X.env.scope.names.lookup x = some .local := by rfl) (hy : X.env.scope.names.lookup y = some .local := by rfl)
    (hw : swappedStores [.Tuple [.Name x px, .Name y py] kt pt] (.Tuple [a, b] k2 pt2) X.env = pure (some [x, y]) := by rfl)
    (hs : swapsWithSole [.Tuple [.Name x px, .Name y py] kt pt] (.Tuple [a, b] k2 pt2) pos.line X.env = pure false := by rfl) :
    PS X (.Assign [.Tuple [.Name x px, .Name y py] kt pt] (.Tuple [a, b] k2 pt2) pos) (tS T W (sPar i j ta)) := by
  refine ps_imp (ps_par hc hN hi hj hij hx hy ha hw hs) fun D σ H h => ?_
  refine tS_bind h fun vs ρ st1 φ1 H1 us re1 q1 p1 => ?_
  split at p1
  · cases q1 with
    | cons a1 b1 =>
      cases b1 with
      | cons a2 b2 =>
        cases b2
        exact ⟨_, _, rfl, p1 φ1 H1 _ Ext.refl ((re1.set a1 i).set a2 j)⟩
  · exact p1.elim
end
end Ev

set_option Elab.async false
set_option linter.all false
set_option maxRecDepth 100000
set_option maxHeartbeats 4000000
namespace Ev
open PySem PySem.Spec PyProof.Rows L2

theorem meets_enum_new {v : Value} {o : Obj} {H : Heap → Prop} (B : Begins v o H) :
    Meets (Builtin.«enumerate.__new__» ⟨[.type "enumerate", v], []⟩) (fun _ R s => H s.heap ∧
      R (.ok (.ret (.ref (s.heap.push o).objs.size))) { s with heap := (s.heap.push o).push { cls := .type "enumerate", data := .fields #[.none, .bool false, .ref s.heap.objs.size, rawInt 0, .none, .none] } }) :=
  .of_wp fun prog w A R s h => by
    obtain ⟨hp, g, d, tk, os⟩ := s; obtain ⟨h1, h⟩ := h
    have hsub := sub_enumerate
    have q1 : ∀ {A' : Around} {E : Value → Shared → Prop} {Q : Value → Shared → Prop}, Q (.ref hp.objs.size) ⟨hp.push o, g, d, tk, os⟩ → wpAny (model prog w) A' (pyIter v) Q E ⟨hp, g, d, tk, os⟩ :=
      fun q => B.iter prog w _ _ ⟨hp, g, d, tk, os⟩ _ h1 q
    wp_walk using q1
    refine wpAny_stack_any fun st => wpAny_pure ?_
    split
    · rename_i c _ _ _ _ _
      cases (c == Value.type "enumerate")
      · wp_walk using q1
        exact ⟨_, rfl, h⟩
      · wp_walk using q1
        exact ⟨_, rfl, h⟩
    · wp_walk using q1
      exact ⟨_, rfl, h⟩
theorem call_enum {prog : Program} {w : World} {A : Around} {E : Value → Shared → Prop} {s : Shared} {v : Value} {o : Obj} {H : Heap → Prop} {Q : Value → Shared → Prop} (B : Begins v o H) (h1 : H s.heap)
    (h : ∀ h', IsEnum h' (s.heap.objs.size + 1) s.heap.objs.size 0 .none → h'.get? s.heap.objs.size = some o → h'.objs.size = s.heap.objs.size + 2 →
      (∀ b o, s.heap.get? b = some o → h'.get? b = some o) → Q (.ref (s.heap.objs.size + 1)) { s with heap := h' }) :
    wpAny (model prog w) A (call (.type "enumerate") [v]) Q E s := by
  refine callType_new F.called_enumerate (by decide) (F.typeCall_enumerate_1 _) (F.newCall_enumerate_1 _) (fun obj => F.args_object_init_2 obj _) F.entry_enumerate_new
    (meets_enum_new B) ⟨h1, ?_⟩
  have hz : (s.heap.push o).objs.size = s.heap.objs.size + 1 := Heap.size_push ..
  show _ ∧ _
  rw [hz]
  have he : IsEnum ((s.heap.push o).push { cls := .type "enumerate", data := .fields #[.none, .bool false, .ref s.heap.objs.size, rawInt 0, .none, .none] }) (s.heap.objs.size + 1) s.heap.objs.size 0 .none := by
    have := Heap.get?_push_size (s.heap.push o) (o := { cls := .type "enumerate", data := .fields #[.none, .bool false, .ref s.heap.objs.size, rawInt 0, .none, .none] }) rfl
    rw [hz] at this; exact this
  exact ⟨⟨_, he, rfl⟩, h _ he (Heap.get?_push_of_some _ (Heap.get?_push_size _ B.free)) (by rw [Heap.size_push, hz]) fun b o x => Heap.get?_push_of_some _ (Heap.get?_push_of_some _ x)⟩

/-- the tuple at a, each item in a new pair with its number -/
def IteT (K : PySem.W.Frag) (a : Addr) : It :=
  ⟨fun i H => ∃ (xs : List V) (x : V), SqT K H a xs ∧ xs[i]? = some x, fun i H v H' => ∃ T x, v = .ref T ∧ H T = none ∧ H' = upd H T (.tup [.int (i : Nat), x]) ∧ ∀ xs, SqT K H a xs → xs[i]? = some x, fun i H => ∃ xs : List V, SqT K H a xs ∧ xs.length = i⟩
theorem turn_enumT {P : Program} {w : World} {K : PySem.W.Frag} {elts : List Expr} {kk : Nat} {tpos : Pos} (a e it : Addr) (hae : a ≠ e) (hai : a ≠ it) :
    Turn P w K (.Tuple elts kk tpos) (IteT K a) [e, it] e (fun i h => (∃ old, IsEnum h e it ((i : Nat) : Int) old) ∧ h.IsTupleIter it a i ∧ e ≠ it) where
  mem := by simp
  obj := fun i h st b hb => by
    obtain ⟨⟨old, he⟩, ⟨o, ho, hc, hd⟩, _⟩ := st
    have e' : b = e ∨ b = it := by simpa using hb
    rcases e' with z | z
    · rw [z]; exact ⟨_, he, fun v q => nomatch q⟩
    · rw [z]; exact ⟨o, ho, fun v q => by rw [hd] at q; cases q⟩
  keep := fun i h h' st k => let ⟨⟨old, he⟩, hi, hne⟩ := st; ⟨⟨old, k e (by simp) _ he⟩, hi.at fun o q => k it (by simp) o q, hne⟩
  item := by
    intro X hP hw hK hc i pins s σ H E I hf st hg
    subst hP hw hK
    obtain ⟨⟨old, he⟩, hit, hne⟩ := st
    obtain ⟨xs, x, hq, hx⟩ := hg
    obtain ⟨its, rv, p, hz⟩ := I.tuple hq
    obtain ⟨u, hu, ru⟩ := rv.get hx
    have hel : e < s.heap.objs.size := Heap.lt_size he
    have hil : it < s.heap.objs.size := by obtain ⟨_, q, _⟩ := hit; exact Heap.lt_size q
    have hlt : i < its.toArray.size := by
      have := (List.getElem?_eq_some_iff.mp hu).1
      simpa using this
    refine wpAny_pyNext_enum_itemD (Draws.tuple (A := X.A.in1) (I.ok.hd hc) it a hai its.toArray) he ⟨hit, p⟩ hlt hne (by simp [hne, Ne.symm hae]) fun x' h' tk hx' ho hit' hT hsz hk => ?_
    have ex : x' = u := by
      have h2 : its.toArray[i]? = some u := by simpa using hu
      rw [h2] at hx'
      exact (Option.some.inj hx').symm
    subst ex
    refine ⟨_, rfl, wpAny_letOwnedTupleGo_enum (s := { s with heap := h', toks := tk + 1 }) ho fun h'' he' sb => ?_⟩
    have hT2 : h''.get? s.heap.objs.size = some { cls := .type "tuple", data := .seq #[.int i tk, x'] } := (sb.2 _ (Nat.ne_of_gt hel)).trans hT
    have new : ObjOk X.prog X.w (upd H s.heap.objs.size (.tup [.int (i : Nat), x])) h'' s.heap.objs.size (.tup [.int (i : Nat), x]) :=
      ⟨by show 2 ≤ sizeLine; decide, [.int i tk, x'], .cons ⟨_, rfl⟩ (.cons ru .nil), ⟨_, hT2, rfl, _, rfl⟩⟩
    have I1 : Inv X pins σ (upd H s.heap.objs.size (.tup [.int (i : Nat), x])) { s with heap := h'', toks := tk + 1 } :=
      I.turnedNew (ch := [e, it]) (fun b ob hb q => (sb.2 b (fun z => hb (by simp [z]))).trans (hk b ob (fun z => hb (by simp [z])) (fun z => hb (by simp [z])) q)) hf (Nat.le_refl _) new
    refine ⟨.ref s.heap.objs.size, _, I1, rfl, ⟨_, x, rfl, I.hok.fresh (Nat.le_refl _), rfl, fun ys hy => by rw [I.tuple_inj hy hq]; exact hx⟩, ⟨⟨x', ?_⟩, hit'.1.at fun o q => (sb.2 it (Ne.symm hne)).trans q, hne⟩, fun b hb => ?_⟩
    · have e1 : ((i + 1 : Nat) : Int) = (i : Int) + 1 := by omega
      rw [e1]; exact he'
    · have hb' : b < s.heap.objs.size := by
        have e' : b = e ∨ b = it := by simpa using hb
        rcases e' with z | z
        · rw [z]; exact hel
        · rw [z]; exact hil
      rw [upd_ne (Nat.ne_of_lt hb')]
      exact (hf b hb).1
  done := by
    intro X hP hw hK hc i pins s σ H E I hf st hg
    subst hP hw hK
    obtain ⟨⟨old, he⟩, hit, hne⟩ := st
    obtain ⟨xs, hq, hx⟩ := hg
    obtain ⟨its, rv, p, hz⟩ := I.tuple hq
    obtain ⟨f0, f1, f2, f3, f4, f5⟩ := hf it (by simp)
    have hl : its.toArray.size = i := by rw [List.size_toArray, ← rv.length]; exact hx
    refine wpAny_pyNext_enum_endD (Draws.tuple (A := X.A.in1) (I.ok.hd hc) it a hai its.toArray) he (by rw [hl]; exact ⟨hit, p⟩) fun h' eb => ⟨rfl, I.turned (t' := s.toks) (fun b o hb q => eb b o hb q) f0 f1 f3 f4 f5⟩
  self := fun A i s Q E st h => let ⟨⟨_, he⟩, _⟩ := st; wpAny_pyIter_enum he h
def iEnumA (K : PySem.W.Frag) (ta : TA) : TI := fun σ H R => ta σ H fun vs H1 => ∃ a xs, vs = [.ref a] ∧ ((SqL K H1 a xs ∧ R (Ite K a) H1) ∨ (H1 a = some (.tup xs) ∧ R (IteT K a) H1))
theorem pi_enumA {X : Cx} {e : Expr} {ta : TA} {p pos tpos : Pos} {elts : List Expr} {kk : Nat} (hg : Gl X "enumerate") (hm : X.mg "enumerate" = none) (ha : PA X [e] ta) (hs : starEach [e] X.env = [(false, eval e X.env)] := by rfl) :
    PI X (.Tuple elts kk tpos) (.Call (.Name "enumerate" p) [e] [] pos) (iEnumA X.K ta) := by
  refine ⟨fun pins s σ H R I h => ?_⟩
  refine Call_ (ld_blt I hg hm boot_enumerate (PyProof.Rows.callWith_type1 (thn (ha.run pos pins s σ H _ I h) fun us s1 ⟨vs, H1, I1, r1, q1⟩ => ?_) hs rfl))
  obtain ⟨a, xs, ex, q⟩ := q1
  subst ex
  cases r1 with
  | cons r rr =>
    cases rr
    cases r
    have fp : ∀ b ∈ [s1.heap.objs.size + 1, s1.heap.objs.size], FpOk X pins H1 b := fun b hb => by
      have e' : b = s1.heap.objs.size + 1 ∨ b = s1.heap.objs.size := by simpa using hb
      have hle : s1.heap.objs.size ≤ b := by
        rcases e' with z | z
        · rw [z]; exact Nat.le_add_right _ _
        · rw [z]; exact Nat.le_refl _
      exact I1.fpOk hle (I1.hok.fresh hle)
    rcases q with ⟨hq, q⟩ | ⟨hq, q⟩
    · obtain ⟨its, rv, p', hz⟩ := I1.list hq
      refine call_enumerate_list p'.isList fun h' he hit hsz hk => wpAny_pyIter_enum he ?_
      have I2 : Inv X pins σ H1 { s1 with heap := h' } := I1.kept (t' := s1.toks) hk
      exact ⟨s1.heap.objs.size + 1, [s1.heap.objs.size + 1, s1.heap.objs.size], _, _, H1, rfl, I2, turn_enum a (s1.heap.objs.size + 1) s1.heap.objs.size, ⟨⟨.none, he⟩, hit, Nat.succ_ne_self _⟩, fp, q⟩
    · obtain ⟨its, rv, p', hz⟩ := I1.tuple (SqT.of hq)
      have hal : a < s1.heap.objs.size := by obtain ⟨_, z, _⟩ := p'; exact Heap.lt_size z
      refine call_enum (begins_tuple a its.toArray) p' fun h' he hit hsz hk => wpAny_pyIter_enum he ?_
      have I2 : Inv X pins σ H1 { s1 with heap := h' } := I1.kept (t' := s1.toks) hk
      exact ⟨s1.heap.objs.size + 1, [s1.heap.objs.size + 1, s1.heap.objs.size], _, _, H1, rfl, I2, turn_enumT a (s1.heap.objs.size + 1) s1.heap.objs.size (Nat.ne_of_lt (Nat.lt_succ_of_lt hal)) (Nat.ne_of_lt hal), ⟨⟨.none, he⟩, ⟨_, hit, rfl, rfl⟩, Nat.succ_ne_self _⟩, fp, q⟩

/-- a list, a tuple or a text -/
def iSeq (K : PySem.W.Frag) (tl : TE) : TI := fun σ H R => tl σ H fun x H1 => (∃ a, x = .ref a ∧ (((∃ xs, SqL K H1 a xs) ∧ R (Itl K a) H1) ∨ ((∃ xs, SqT K H1 a xs) ∧ R (Itt K a) H1))) ∨ ∃ z, x = .str z ∧ R (Its z) H1
theorem pi_seq {X : Cx} {tg l : Expr} {tl : TE} (hl : PE X l tl) : PI X tg l (iSeq X.K tl) := by
  refine ⟨fun pins s σ H R I h => ?_⟩
  refine thn (hl.run pins s σ H _ I h) fun v s1 ⟨x, H1, I1, r1, q1⟩ => ?_
  have fp : ∀ b ∈ [s1.heap.objs.size], FpOk X pins H1 b := fun b hb => by
    have e : b = s1.heap.objs.size := by simpa using hb
    subst e
    exact I1.fpOk (Nat.le_refl _) (I1.hok.fresh (Nat.le_refl _))
  rcases q1 with ⟨a, e, ⟨⟨xs, hq⟩, q⟩ | ⟨⟨xs, hq⟩, q⟩⟩ | ⟨z, e, q⟩
  · subst e
    cases r1
    obtain ⟨its, rv, p, hz⟩ := I1.list hq
    refine wpAny_pyIter_list p.isList ?_
    exact ⟨s1.heap.objs.size, [s1.heap.objs.size], _, _, H1, rfl, I1.kept (t' := s1.toks) fun b o e => Heap.get?_push_of_some _ e, turn_list a _, ⟨_, Heap.get?_push_size _ rfl, rfl, rfl⟩, fp, q⟩
  · subst e
    cases r1
    obtain ⟨its, rv, p, hz⟩ := I1.tuple hq
    refine wpAny_pyIter_tuple (show s1.heap.IsTuple a its.toArray from p) ?_
    exact ⟨s1.heap.objs.size, [s1.heap.objs.size], _, _, H1, rfl, I1.kept (t' := s1.toks) fun b o e => Heap.get?_push_of_some _ e, turn_tuple a _, ⟨_, Heap.get?_push_size _ rfl, rfl, rfl⟩, fp, q⟩
  · subst e
    obtain ⟨t, rfl⟩ := r1
    cases ha : z.cps.all (· < 128)
    · exact wpAny_pyIter_wide ha (pi_one (tk := s1.toks) I1 _ (turn_str _ z t "str_iterator" (.inr rfl)) ⟨_, Heap.get?_push_size _ rfl, rfl, rfl⟩ q)
    · exact wpAny_pyIter_ascii ha (pi_one (tk := s1.toks) I1 _ (turn_str _ z t "str_ascii_iterator" (.inl rfl)) ⟨_, Heap.get?_push_size _ rfl, rfl, rfl⟩ q)
end Ev

set_option Elab.async false
set_option linter.all false
set_option maxRecDepth 100000
set_option maxHeartbeats 2000000
namespace Ev
open PySem PySem.Spec PyProof.Rows L2

section
variable {X : Cx} {T : Tab} {W : WX}
/-- the value behind an operation in place -/
def SndI (T : Tab) (t : TIp) (f : Sto → Val → Val → Option Val) : Prop := SndB T t f
def sAug (f : Sto → Val → Val → Option Val) (i : Nat) (e : E) : S := fun ρ st => match ρ[i]? with
  | some (some v) => bindS (e ρ st) ρ fun w st1 => match f st1 v w with
    | some z => .nx (ρ.set i (some z)) st1
    | none => .bad
  | _ => .bad
theorem s_aug {i : Nat} {x : Str} {e : Expr} {ee : E} {op : Operator} {ti : TIp} {f : Sto → Val → Val → Option Val} {pos pos' : Pos} (hN : X.N.Nodup) (ho : PIp X op ti) (hs : SndB T ti f) (he : PE X e (tE T W ee)) (hi : X.N[i]? = some x := by rfl)
    (hx : Loc X.env.scope x := by first | exact Or.inl rfl | exact Or.inr rfl) (hf : X.fn x = true ∨ X.env.scope.names.lookup x = some .local := by first | exact .inl rfl | exact .inr rfl | assumption) :
    PS X (.AugAssign (.Name x pos') op e pos) (tS T W (sAug f i ee)) := by
  refine ps_imp (ps_aug hN hi hx he ho hf) fun D σ H h => ?_
  obtain ⟨φ, ρ, st, re, p⟩ := h
  unfold sAug at p
  split at p
  · rename_i v hv
    obtain ⟨u, e1, r1⟩ := re.get i v hv
    refine ⟨u, e1, φ, ρ, st, re, ?_⟩
    cases hw : ee ρ st with
    | ok w st1 =>
      rw [hw] at p
      intro φ1 H1 y e2 s1 q1
      dsimp only [bindS] at p
      cases hz : f st1 v w with
      | none => rw [hz] at p; exact p.elim
      | some z =>
        rw [hz] at p
        refine hs φ1 st1 H1 v w z u y _ s1 (r1.ext e2) q1 hz fun H2 x2 e3 s2 q2 => ?_
        exact p φ1 H2 _ (e2.trans e3) ((re.ext (e2.trans e3) s2).set q2 i)
    | ex x st1 =>
      rw [hw] at p
      exact fun φ1 H1 c d e1 s1 q1 => p φ1 H1 σ c d e1 (re.ext e1 s1) q1
    | bad => rw [hw] at p; exact p
  · exact p.elim
/-- o[i], by values -/
def rGetA (K : PySem.W.Frag) : R2 := fun x y H Q => rIxL K x y H Q ∨ rIxD x y H Q
theorem get_any (hu : X.A.units + 1 < cLine) : PGet X (rGetA X.K) := by
  intro pins s σ H o i ov iv Q I ro ri h
  rcases h with ⟨p, xs, k, z, rfl, rfl, hq, he, q⟩ | ⟨a, z, rfl, g, q⟩
  · cases ro
    obtain ⟨t, rfl⟩ := ri
    obtain ⟨its, r, pl, hz⟩ := I.list hq
    obtain ⟨j, h1, h2, h3, h4, h5⟩ := atI_get he
    obtain ⟨w, ew, rw'⟩ := r.get h2
    have hl := r.length
    have hn := line63
    by_cases h0 : 0 ≤ k
    · have hj : k.toNat = j := by
        rw [seqIndex_of h0 h5] at h1
        exact Option.some.inj h1
      exact wpAny_getItem_list pl.isList h0 (by omega) (by rw [hj]; simpa using ew) ⟨z, H, I, rw', q⟩
    · have hj : (k + (its.toArray.size : Int)).toNat = j := by
        rw [seqIndex_neg (by omega) h4] at h1
        rw [List.size_toArray, ← hl]
        exact Option.some.inj h1
      exact wpAny_getItem_list_neg pl.isList (by omega) (by rw [List.size_toArray] <;> omega) (by omega) (by rw [hj]; simpa using ew) ⟨z, H, I, rw', q⟩
  · obtain rfl : ov = Value.ref a := ro
    exact d_getItem hu I g ri fun w' s3 I3 rw' => ⟨z, H, I3, rw', q⟩
/-- what a list or a dict holds -/
def fGet (st : Sto) (v w : Val) : Option Val := match lstOf st v with
  | some xs => match w with
    | .int i => atI xs i
    | _ => none
  | none => (dGet st v w).bind id
theorem snd_get : SndB T (rGetA T.K) fGet := by
  intro φ st H v w z x y Q R r1 r2 hf hq
  unfold fGet at hf
  split at hf
  · rename_i xs hx
    split at hf
    · obtain ⟨a, us, rfl, hs, rv⟩ := rel_lst R r1 hx
      obtain ⟨u, e, ru⟩ := rv.atI hf
      cases r2
      exact .inl ⟨a, us, _, u, rfl, rfl, hs, e, hq H u Ext.refl R ru⟩
    · cases hf
  · simp only [Option.bind_eq_some_iff, id] at hf
    obtain ⟨o, e, rfl⟩ := hf
    obtain ⟨a, r, hx, hg, h⟩ := rel_dget R r1 r2 e
    rcases h with ⟨h, _⟩ | ⟨z', u, h1, h2, ru⟩
    · cases h
    · cases h1
      subst h2
      exact .inr ⟨a, u, hx, hg, hq H u Ext.refl R ru⟩
def sAugI (f : Sto → Val → Val → Option Val) (o i e : E) : S := fun ρ st => match o ρ st with
  | .ok v st1 => match i ρ st1 with
    | .ok k st2 => match fGet st2 v k with
      | some z => match e ρ st2 with
        | .ok w st3 => match f st3 z w with
          | some y => match fSet st3 v k y with
            | some st4 => .nx ρ st4
            | none => .bad
          | none => .bad
        | _ => .bad
      | none => .bad
    | _ => .bad
  | _ => .bad
theorem s_augI {o i e : Expr} {eo ei ee : E} {op : Operator} {ti : TIp} {f : Sto → Val → Val → Option Val} {pos tpos : Pos} (hK : T.K = X.K) (hu : X.A.units + 1 < cLine) (hp : PIp X op ti) (hs : SndB T ti f) (ho : PE X o (tE T W eo)) (hi : PE X i (tE T W ei)) (he : PE X e (tE T W ee))
    (ha : ∀ ov iv new, augStore i ov iv new = (do holding [new, ov, iv] (setItem ov iv new); release [new, ov, iv] []; pure .next) := by intros; rfl) : PS X (.AugAssign (.Subscript o i tpos) op e pos) (tS T W (sAugI f eo ei ee)) := by
  refine ps_imp (ps_augS ho hi (get_any hu) he hp (set_any hu) ha) fun D σ H h => ?_
  rw [← hK]
  obtain ⟨φ, ρ, st, re, p⟩ := h
  refine ⟨φ, ρ, st, re, ?_⟩
  unfold sAugI at p
  cases h1 : eo ρ st with
  | ex x st1 => rw [h1] at p; exact p.elim
  | bad => rw [h1] at p; exact p.elim
  | ok v st1 =>
    rw [h1] at p; dsimp only at p
    intro φ1 H1 a e1 s1 q1
    refine ⟨φ1, ρ, st1, re.ext e1 s1, ?_⟩
    cases h2 : ei ρ st1 with
    | ex x st2 => rw [h2] at p; exact p.elim
    | bad => rw [h2] at p; exact p.elim
    | ok k st2 =>
      rw [h2] at p; dsimp only at p
      intro φ2 H2 b e2 s2 q2
      cases h3 : fGet st2 v k with
      | none => rw [h3] at p; exact p.elim
      | some z =>
        rw [h3] at p; dsimp only at p
        refine snd_get φ2 st2 H2 v k z a b _ s2 (q1.ext e2) q2 h3 fun H3 c e3 s3 q3 => ?_
        refine ⟨φ2, ρ, st2, re.ext ((e1.trans e2).trans e3) s3, ?_⟩
        cases h4 : ee ρ st2 with
        | ex x st3 => rw [h4] at p; exact p.elim
        | bad => rw [h4] at p; exact p.elim
        | ok w st3 =>
          rw [h4] at p; dsimp only at p
          intro φ4 H4 d e4 s4 q4
          cases h5 : f st3 z w with
          | none => rw [h5] at p; exact p.elim
          | some y =>
            rw [h5] at p; dsimp only at p
            refine hs φ4 st3 H4 z w y c d _ s4 (q3.ext e4) q4 h5 fun H5 u e5 s5 q5 => ?_
            cases h6 : fSet st3 v k y with
            | none => rw [h6] at p; exact p.elim
            | some st4 =>
              rw [h6] at p
              have e25 := (e2.trans e3).trans (e4.trans e5)
              refine snd_set s5 (q1.ext e25) (q2.ext (e3.trans (e4.trans e5))) q5 h6 fun H6 e6 s6 => ?_
              exact p φ4 H6 σ ((e1.trans e25).trans e6) (re.ext ((e1.trans e25).trans e6) s6)
def rIpA (K : PySem.W.Frag) : R2 := fun x y H Q => ipI (fun i j => i + j) x y H Q
theorem snd_ipadd : SndB T (ipI fun i j => i + j) (fI0 fun i j => .int (i + j)) := by
  intro φ st H v w z x y Q R r1 r2 hf hq
  unfold fI0 at hf
  split at hf
  · cases hf; cases r1; cases r2
    exact ⟨_, _, rfl, rfl, hq H _ Ext.refl R (.int _)⟩
  · cases hf
theorem snd_ipsub : SndB T (ipI fun i j => i - j) (fI0 fun i j => .int (i - j)) := by
  intro φ st H v w z x y Q R r1 r2 hf hq
  unfold fI0 at hf
  split at hf
  · cases hf; cases r1; cases r2
    exact ⟨_, _, rfl, rfl, hq H _ Ext.refl R (.int _)⟩
  · cases hf
abbrev fIadd := fI0 fun i j => .int (i + j)
abbrev fIsub := fI0 fun i j => .int (i - j)
end

abbrev EI := Env → Sto → Res (List Val)
/-- J gives the items, one by one, whatever happens meanwhile -/
def Wk (T : Tab) (φ : Phi) (H : Hp) (J : It) (items : List Val) : Prop :=
  ∃ (Gd : Hp → Prop) (Y : Nat → Hp → V → Hp → Prop), Walk J items.length Gd Y ∧ (∀ φ' H', ExtV φ H φ' H' → Gd H') ∧
    ∀ i H1 x H2 φ1 st1, i < items.length → ExtV φ H φ1 H1 → Rst T φ1 st1 H1 → Y i H1 x H2 → Ext φ1 H1 φ1 H2 ∧ Rst T φ1 st1 H2 ∧ ∃ v, items[i]? = some v ∧ RelV T φ1 H2 v x
abbrev tI (T : Tab) (W : WX) (e : EI) : TI := fun σ H R => tG T (fun φ H items J => Wk T φ H J items) W e σ H R

section
variable {X : Cx} {T : Tab} {W : WX}
theorem pi_imp {tg it : Expr} {t t' : TI} (h : PI X tg it t) (k : ∀ σ H R, t' σ H R → t σ H R) : PI X tg it t' := ⟨fun pins s σ H R I q => h.run pins s σ H R I (k _ _ _ q)⟩
theorem wk_list {φ : Phi} {H : Hp} {xs : List Val} {us : List V} {a : Addr} (h : (¬ Live φ a ∧ Rd H a (.lst us)) ∨ LstK T.K a us) (r : RelVs T φ H xs us) : Wk T φ H (Itl T.K a) xs := by
  refine ⟨_, _, r.length ▸ walk_list (K := T.K) (a := a) (xs := us), fun φ' H' e => ?_, fun i H1 x H2 φ1 st1 _ e s y => ?_⟩
  · rcases h with ⟨h1, h2⟩ | h
    · exact .inl (e.rd a _ h1 h2)
    · exact .inr h
  · obtain ⟨rfl, hx⟩ := y
    obtain ⟨v, hv, rv⟩ := r.got hx
    exact ⟨Ext.refl, s, v, hv, rv.extV e⟩
theorem wk_tup {φ : Phi} {H : Hp} {xs : List Val} {us : List V} {a : Addr} (h : H a = some (.tup us)) (r : RelVs T φ H xs us) : Wk T φ H (Itt T.K a) xs := by
  refine ⟨_, _, r.length ▸ walk_tup (K := T.K) (a := a) (xs := us), fun φ' H' e => SqT.of (e.tups a us h), fun i H1 x H2 φ1 st1 _ e s y => ?_⟩
  obtain ⟨rfl, hx⟩ := y
  obtain ⟨v, hv, rv⟩ := r.got hx
  exact ⟨Ext.refl, s, v, hv, rv.extV e⟩
def rangeV (lo : Int) (n : Nat) : List Val := (List.range n).map fun i => .int (lo + (i : Nat))
theorem wk_range {φ : Phi} {H : Hp} {lo : Int} {n : Nat} : Wk T φ H (Itr lo n) (rangeV lo n) := by
  refine ⟨fun _ => True, YFn fun i => .int (lo + i), ?_, fun _ _ _ => trivial, fun i H1 x H2 φ1 st1 hi e s y => ?_⟩
  · have := walk_range (lo := lo) (n := n)
    simpa [rangeV] using this
  · obtain ⟨rfl, rfl⟩ := y
    have hi' : i < n := by simpa [rangeV] using hi
    exact ⟨Ext.refl, s, .int (lo + i), by simp [rangeV, hi'], .int _⟩
def strV (z : Str) : List Val := z.cps.toList.map fun c => .str ⟨#[c]⟩
theorem wk_str {φ : Phi} {H : Hp} {z : Str} : Wk T φ H (Its z) (strV z) := by
  refine ⟨fun _ => True, _, by simpa [strV] using walk_str (z := z), fun _ _ _ => trivial, fun i H1 x H2 φ1 st1 hi e s y => ?_⟩
  obtain ⟨rfl, c, hc, rfl⟩ := y
  exact ⟨Ext.refl, s, .str ⟨#[c]⟩, by simp [strV, hc], .str _⟩
/-- new pairs -/
theorem wk_pairs {φ : Phi} {H : Hp} {J : It} {n : Nat} {Gd : Hp → Prop} {f g : Nat → Option V} {items : List Val} (hn : items.length = n) (w : Walk J n Gd (YPair f g)) (hG : ∀ φ' H', ExtV φ H φ' H' → Gd H')
    (hr : ∀ i x y, i < n → f i = some x → g i = some y → ∃ v w, items[i]? = some (.tup [v, w]) ∧ RelV T φ H v x ∧ RelV T φ H w y) : Wk T φ H J items := by
  subst hn
  refine ⟨Gd, _, w, hG, fun i H1 x H2 φ1 st1 hi e s y => ?_⟩
  obtain ⟨p, a, b, rfl, hp, rfl, ha, hb⟩ := y
  obtain ⟨v, w, h1, h2, h3⟩ := hr i a b hi ha hb
  have e2 := Ext.fresh (ho := .tup [a, b]) s hp
  exact ⟨e2, s.fresh hp, _, h1, .tup upd_same (.cons ((h2.extV e).ext e2) (.cons ((h3.extV e).ext e2) .nil))⟩
def enumV : Nat → List Val → List Val
  | _, [] => []
  | n, x :: xs => .tup [.int (n : Nat), x] :: enumV (n + 1) xs
theorem enumV_len : ∀ (xs : List Val) (n : Nat), (enumV n xs).length = xs.length
  | [], _ => rfl
  | _ :: xs, n => by simp [enumV, enumV_len xs]
theorem enumV_get : ∀ (xs : List Val) (n i : Nat) (x : Val), xs[i]? = some x → (enumV n xs)[i]? = some (.tup [.int ((n + i : Nat)), x])
  | [], _, _, _, h => by simp at h
  | y :: ys, n, 0, x, h => by simp at h; subst h; simp [enumV]
  | y :: ys, n, i + 1, x, h => by
    have := enumV_get ys (n + 1) i x (by simpa using h)
    simp only [enumV, List.getElem?_cons_succ, this]
    congr 5
    omega
def zipV : List Val → List Val → List Val
  | x :: xs, y :: ys => .tup [x, y] :: zipV xs ys
  | _, _ => []
theorem zipV_len : ∀ (xs ys : List Val), (zipV xs ys).length = min xs.length ys.length
  | [], _ => by simp [zipV]
  | _ :: _, [] => by simp [zipV]
  | _ :: xs, _ :: ys => by simp [zipV, zipV_len xs ys]
theorem zipV_get : ∀ (xs ys : List Val) (i : Nat) (x y : Val), xs[i]? = some x → ys[i]? = some y → (zipV xs ys)[i]? = some (.tup [x, y])
  | [], _, _, _, _, h, _ => by simp at h
  | _ :: _, [], _, _, _, _, h => by simp at h
  | a :: xs, b :: ys, 0, x, y, h1, h2 => by simp at h1 h2; subst h1; subst h2; rfl
  | a :: xs, b :: ys, i + 1, x, y, h1, h2 => by
    simp only [zipV, List.getElem?_cons_succ]
    exact zipV_get xs ys i x y (by simpa using h1) (by simpa using h2)

/-- for x in e -/
def itV (e : E) : EI := fun ρ st => bindR (e ρ st) fun v st1 => match v with
  | .lst xs => .ok xs st1
  | .tup xs => .ok xs st1
  | .str z => .ok (strV z) st1
  | _ => .bad
theorem i_seq {tg l : Expr} {e : E} (hK : T.K = X.K) (hl : PE X l (tE T W e)) : PI X tg l (tI T W (itV e)) := by
  refine pi_imp (pi_seq hl) fun σ H R h => ?_
  refine tG_bind h fun v ρ st1 φ1 H1 u re1 q1 p1 => ?_
  cases q1 with
  | lst h1 h2 =>
    have w := wk_list h1 h2
    rw [hK] at w
    exact .inl ⟨_, rfl, .inl ⟨⟨_, by rw [← hK]; exact sqL_of h1⟩, p1.ok_self re1.rst w⟩⟩
  | tup h1 h2 =>
    have w := wk_tup h1 h2
    rw [hK] at w
    exact .inl ⟨_, rfl, .inr ⟨⟨_, SqT.of h1⟩, p1.ok_self re1.rst w⟩⟩
  | str z => exact .inr ⟨z, rfl, p1.ok_self re1.rst wk_str⟩
  | _ => exact p1.elim
/-- for i, x in enumerate(e) -/
def itEnum (a : EA) : EI := fun ρ st => bindR (a ρ st) fun vs st1 => match vs with
  | [.lst xs] => .ok (enumV 0 xs) st1
  | [.tup xs] => .ok (enumV 0 xs) st1
  | _ => .bad
theorem i_enum {e : Expr} {p pos tpos : Pos} {elts : List Expr} {kk : Nat} {a : EA} (hK : T.K = X.K) (hm : X.mg "enumerate" = none) (ha : PA X [e] (tA T W a)) (hg : Gl X "enumerate" := by rfl) (hs : starEach [e] X.env = [(false, eval e X.env)] := by rfl) :
    PI X (.Tuple elts kk tpos) (.Call (.Name "enumerate" p) [e] [] pos) (tI T W (itEnum a)) := by
  refine pi_imp (pi_enumA hg hm ha hs) fun σ H R h => ?_
  refine tG_bind h fun vs ρ st1 φ1 H1 us re1 q1 p1 => ?_
  split at p1
  · cases q1 with
    | cons r rr =>
      cases rr
      cases r with
      | lst h1 h2 =>
        rename_i xs us a
        refine ⟨_, _, rfl, .inl ⟨by rw [← hK]; exact sqL_of h1, p1.ok_self re1.rst ?_⟩⟩
        rw [← hK]
        refine wk_pairs (enumV_len xs 0) (h2.length ▸ walk_enum (K := T.K) (a := a) (xs := us)) (fun φ' H' e => ?_) fun i x y hi h3 h4 => ?_
        · rcases h1 with ⟨h5, h6⟩ | h5
          · exact .inl (e.rd a _ h5 h6)
          · exact .inr h5
        · cases h3
          obtain ⟨v, hv, rv⟩ := h2.got h4
          exact ⟨_, v, enumV_get xs 0 i v hv, by simpa using RelV.int _, rv⟩
  · cases q1 with
    | cons r rr =>
      cases rr
      cases r with
      | tup h1 h2 =>
        rename_i xs us a
        refine ⟨_, _, rfl, .inr ⟨h1, p1.ok_self re1.rst ?_⟩⟩
        rw [← hK]
        have w : Walk (IteT T.K a) us.length (fun H => SqT T.K H a us) (YPair (fun i => some (.int (i : Nat))) (fun i => us[i]?)) := by
          refine ⟨fun i _ hi q => ⟨us, us[i], q, by simp [hi]⟩, fun _ q => ⟨us, q, rfl⟩, fun i H v H' _ q y => ?_⟩
          obtain ⟨p, x, h1, h2, h3, h4⟩ := y
          exact ⟨p, .int (i : Nat), x, h1, h2, h3, rfl, h4 us q⟩
        refine wk_pairs (enumV_len xs 0) (h2.length ▸ w) (fun φ' H' e => SqT.of (e.tups a us h1)) fun i x y hi h3 h4 => ?_
        cases h3
        obtain ⟨v, hv, rv⟩ := h2.got h4
        exact ⟨_, v, enumV_get xs 0 i v hv, by simpa using RelV.int _, rv⟩
  · exact p1.elim
/-- for x, y in zip(a, b) -/
def itZip (a : EA) : EI := fun ρ st => bindR (a ρ st) fun vs st1 => match vs with
  | [.lst xs, .lst ys] => .ok (zipV xs ys) st1
  | [.tup xs, .tup ys] => .ok (zipV xs ys) st1
  | _ => .bad
theorem i_zip {e e2 : Expr} {p pos tpos : Pos} {elts : List Expr} {kk : Nat} {a : EA} (hK : T.K = X.K) (hm : X.mg "zip" = none) (ha : PA X [e, e2] (tA T W a)) (hg : Gl X "zip" := by rfl)
    (hs : starEach [e, e2] X.env = (false, eval e X.env) :: starEach [e2] X.env := by rfl) (hpl : (backTo pos (starEach [e2] X.env)).any (·.1) = false := by rfl) :
    PI X (.Tuple elts kk tpos) (.Call (.Name "zip" p) [e, e2] [] pos) (tI T W (itZip a)) := by
  refine pi_imp (RZ.pi_zipA hg hm ha hs hpl) fun σ H R h => ?_
  refine tG_bind h fun vs ρ st1 φ1 H1 us re1 q1 p1 => ?_
  split at p1
  · cases q1 with
    | cons r rr =>
      cases rr with
      | cons r' rr =>
        cases rr
        cases r with
        | lst h1 h2 =>
          cases r' with
          | lst h3 h4 =>
            rename_i xs ys us a ws b
            refine ⟨_, _, _, _, rfl, .inl ⟨by rw [← hK]; exact sqL_of h1, by rw [← hK]; exact sqL_of h3, p1.ok_self re1.rst ?_⟩⟩
            rw [← hK]
            have st : ∀ {c : Addr} {zs : List V}, ((¬ Live φ1 c ∧ Rd H1 c (.lst zs)) ∨ LstK T.K c zs) → ∀ φ' H', ExtV φ1 H1 φ' H' → SqL T.K H' c zs := fun {c zs} h φ' H' e => by
              rcases h with ⟨h5, h6⟩ | h5
              · exact .inl (e.rd c _ h5 h6)
              · exact .inr h5
            refine wk_pairs (zipV_len xs ys) (walk_zip (K := T.K) (a := a) (b := b) (xs := us) (ys := ws) (by rw [h2.length, h4.length])) (fun φ' H' e => ⟨st h1 φ' H' e, st h3 φ' H' e⟩) fun i x y hi h5 h6 => ?_
            obtain ⟨v, hv, rv⟩ := h2.got h5
            obtain ⟨w, hw, rw'⟩ := h4.got h6
            exact ⟨v, w, zipV_get xs ys i v w hv hw, rv, rw'⟩
  · cases q1 with
    | cons r rr =>
      cases rr with
      | cons r' rr =>
        cases rr
        cases r with
        | tup h1 h2 =>
          cases r' with
          | tup h3 h4 =>
            rename_i xs ys us a ws b
            refine ⟨_, _, _, _, rfl, .inr ⟨SqT.of h1, SqT.of h3, p1.ok_self re1.rst ?_⟩⟩
            rw [← hK]
            have w : Walk (RZ.ItzT T.K a b) (min us.length ws.length) (fun H => SqT T.K H a us ∧ SqT T.K H b ws) (YPair (fun i => us[i]?) (fun i => ws[i]?)) := by
              refine ⟨fun i _ hi q => ?_, fun _ q => ⟨us, ws, q.1, q.2, by omega⟩, fun i H v H' _ q y => ?_⟩
              · have h1 : i < us.length := by omega
                have h2 : i < ws.length := by omega
                exact ⟨us, ws, us[i], ws[i], q.1, q.2, by simp [h1], by simp [h2]⟩
              · obtain ⟨p, x, z, h1, h2, h3, h4, h5⟩ := y
                exact ⟨p, x, z, h1, h2, h3, h4 us q.1, h5 ws q.2⟩
            refine wk_pairs (by rw [zipV_len, h2.length, h4.length]) w (fun φ' H' e => ⟨SqT.of (e.tups a us h1), SqT.of (e.tups b ws h3)⟩) fun i x y hi h5 h6 => ?_
            obtain ⟨v, hv, rv⟩ := h2.got h5
            obtain ⟨w, hw, rw'⟩ := h4.got h6
            exact ⟨v, w, zipV_get xs ys i v w hv hw, rv, rw'⟩
  · exact p1.elim
/-- range(n), range(a, b) -/
def itRange1 (a : EA) : EI := fun ρ st => bindR (a ρ st) fun vs st1 => match vs with
  | [.int j] => if -(2 ^ 62) ≤ j ∧ j < 2 ^ 62 then .ok (rangeV 0 j.toNat) st1 else .bad
  | _ => .bad
theorem i_range1 {tg e : Expr} {p pos : Pos} {a : EA} (hm : X.mg "range" = none) (ha : PA X [e] (tA T W a)) (hg : Gl X "range" := by rfl) (hs : starEach [e] X.env = [(false, eval e X.env)] := by rfl) : PI X tg (.Call (.Name "range" p) [e] [] pos) (tI T W (itRange1 a)) := by
  refine pi_imp (pi_range1 hg hm ha hs) fun σ H R h => ?_
  refine tG_bind h fun vs ρ st1 φ1 H1 us re1 q1 p1 => ?_
  split at p1
  · split at p1
    · rename_i hh
      cases q1 with
      | cons r rr =>
        cases rr
        cases r
        exact ⟨_, rfl, hh.1, hh.2, p1.ok_self re1.rst wk_range⟩
    · exact p1.elim
  · exact p1.elim
def itRange2 (a : EA) : EI := fun ρ st => bindR (a ρ st) fun vs st1 => match vs with
  | [.int i, .int j] => if -(2 ^ 62) ≤ i ∧ i < 2 ^ 62 ∧ -(2 ^ 62) ≤ j ∧ j < 2 ^ 62 then .ok (rangeV i (j - i).toNat) st1 else .bad
  | _ => .bad
theorem i_range2 {tg e e2 : Expr} {p pos : Pos} {a : EA} (hm : X.mg "range" = none) (ha : PA X [e, e2] (tA T W a)) (hg : Gl X "range" := by rfl) (hs : starEach [e, e2] X.env = [(false, eval e X.env), (false, eval e2 X.env)] := by rfl) (hs2 : starEach [e2] X.env = [(false, eval e2 X.env)] := by rfl) :
    PI X tg (.Call (.Name "range" p) [e, e2] [] pos) (tI T W (itRange2 a)) := by
  refine pi_imp (pi_range2 hg hm ha hs hs2) fun σ H R h => ?_
  refine tG_bind h fun vs ρ st1 φ1 H1 us re1 q1 p1 => ?_
  split at p1
  · split at p1
    · rename_i hh
      cases q1 with
      | cons r rr =>
        cases rr with
        | cons r' rr =>
          cases rr
          cases r; cases r'
          exact ⟨_, _, rfl, hh, p1.ok_self re1.rst wk_range⟩
    · exact p1.elim
  · exact p1.elim

def forL (g : G) (b : S) : List Val → Env → Sto → SR
  | [], ρ, st => .nx ρ st
  | v :: vs, ρ, st => match g v ρ st with
    | some (ρ1, st1) => match b ρ1 st1 with
      | .nx ρ2 st2 => forL g b vs ρ2 st2
      | .ct ρ2 st2 => forL g b vs ρ2 st2
      | .bk ρ2 st2 => .nx ρ2 st2
      | .rt v st2 => .rt v st2
      | .ex x ρ2 st2 => .ex x ρ2 st2
      | .bad => .bad
    | none => .bad
def sFor (it : EI) (g : G) (b : S) : S := fun ρ st => bindS (it ρ st) ρ fun vs st1 => forL g b vs ρ st1
theorem s_for {tg iter : Expr} {body : List Stmt} {pos : Pos} {it : EI} {g : G} {b : S} (hp : PassesOwn (model X.prog X.w) X.A X.env X.xe) (hc : X.calm = true) (hi : PI X tg iter (tI T W it)) (hg : PG X tg (tGt T g)) (hb : PSs X body (tS T W b))
    (hs : ∀ x, foldedSetIterable iter X.env x = pure x := by intro _; rfl) : PS X (.For tg iter body [] pos) (tS T W (sFor it g b)) := by
  refine ps_imp (ps_for hp hc hi hg hb hs) fun D σ H h => ?_
  refine tS_bind h fun vs ρ st1 φ1 H1 J re1 q1 p1 => ?_
  obtain ⟨Gd, Y, w1, w2, w3⟩ := q1
  refine for_it w1 (fun i σ' H' => ∃ φ' ρ' st', Ext φ1 H1 φ' H' ∧ RelE T φ' ρ' st' σ' H' ∧ PostS T W φ' H' D (forL g b (vs.drop i) ρ' st')) ⟨φ1, ρ, st1, Ext.refl, re1, p1⟩ (fun i σ' H' _ ⟨φ', _, _, e, _, _⟩ => w2 φ' H' e.v) (fun i x σ' H' H2 hi ⟨φ', ρ', st', e, re, p⟩ y => ?_) (fun σ' H' ⟨φ', ρ', st', e, re, p⟩ => ?_)
  · obtain ⟨e2, s2, v, hv, rv⟩ := w3 i H' x H2 φ' st' hi e.v re.rst y
    have hd : vs.drop i = v :: vs.drop (i + 1) := by
      obtain ⟨hl, hv⟩ := List.getElem?_eq_some_iff.mp hv
      rw [List.drop_eq_getElem_cons hl, hv]
    rw [hd] at p
    refine ⟨φ', ρ', st', v, re.ext e2 s2, rv, ?_⟩
    unfold forL at p
    cases hgv : g v ρ' st' with
    | none => rw [hgv] at p; exact p.elim
    | some q =>
      obtain ⟨ρ3, st3⟩ := q
      rw [hgv] at p
      dsimp only at p
      intro φ3 H3 σ3 e3 re3
      refine ⟨φ3, ρ3, st3, re3, ?_⟩
      have e23 := e2.trans e3
      cases hb3 : b ρ3 st3 with
      | nx ρ4 st4 =>
        rw [hb3] at p
        exact fun φ4 H4 σ4 e4 re4 => ⟨φ4, ρ4, st4, (e.trans e23).trans e4, re4, PostS.later p (e23.trans e4)⟩
      | ct ρ4 st4 =>
        rw [hb3] at p
        exact fun φ4 H4 σ4 e4 re4 => ⟨φ4, ρ4, st4, (e.trans e23).trans e4, re4, PostS.later p (e23.trans e4)⟩
      | bk ρ4 st4 => rw [hb3] at p; exact PostS.later p e23
      | rt v st4 => rw [hb3] at p; exact PostS.later (D := D) p e23
      | ex x ρ4 st4 => rw [hb3] at p; exact PostS.later (D := D) p e23
      | bad => rw [hb3] at p; exact p
  · rw [List.drop_length] at p
    exact p φ' H' σ' Ext.refl re
def whileN (t : ET) (b : S) : Nat → Env → Sto → SR
  | 0, _, _ => .bad
  | n + 1, ρ, st => bindS (t ρ st) ρ fun c st1 => if c = true then (match b ρ st1 with
      | .nx ρ2 st2 => whileN t b n ρ2 st2
      | .ct ρ2 st2 => whileN t b n ρ2 st2
      | .bk ρ2 st2 => .nx ρ2 st2
      | .rt v st2 => .rt v st2
      | .ex x ρ2 st2 => .ex x ρ2 st2
      | .bad => .bad) else .nx ρ st1
def manyTurns : Nat := 1000000
def sWhile (t : ET) (b : S) : S := whileN t b manyTurns
theorem s_while {c : Expr} {body : List Stmt} {pos : Pos} {t : ET} {b : S} (hp : PassesOwn (model X.prog X.w) X.A X.env X.xe) (hc : PT X c (tT T W t)) (hb : PSs X body (tS T W b)) : PS X (.While c body [] pos) (tS T W (sWhile t b)) := by
  refine ps_imp (ps_while hp hc hb) fun D σ H h => ?_
  refine ⟨fun m σ' H' => tS T W (whileN t b m) D σ' H', ⟨manyTurns, h⟩, fun m σ' H' h' => ?_⟩
  cases m with
  | zero => obtain ⟨φ, ρ, st, re, p⟩ := h'; exact p.elim
  | succ m =>
    have h2 : tS T W (fun ρ st => bindS (t ρ st) ρ fun c st1 => if c = true then (match b ρ st1 with
      | .nx ρ2 st2 => whileN t b m ρ2 st2
      | .ct ρ2 st2 => whileN t b m ρ2 st2
      | .bk ρ2 st2 => .nx ρ2 st2
      | .rt v st2 => .rt v st2
      | .ex x ρ2 st2 => .ex x ρ2 st2
      | .bad => .bad) else .nx ρ st1) D σ' H' := h'
    refine tS_bind h2 fun c ρ st1 φ1 H1 k re1 q1 p1 => ?_
    subst q1
    cases c with
    | false => exact iteF (p1 φ1 H1 σ' Ext.refl re1)
    | true =>
      refine iteT ⟨fun σ2 H2 => tS T W (whileN t b m) D σ2 H2, fun σ2 H2 q => ⟨m, Nat.lt_succ_self m, q⟩, φ1, ρ, st1, re1, ?_⟩
      rw [if_pos rfl] at p1
      cases hb3 : b ρ st1 with
      | nx ρ4 st4 =>
        rw [hb3] at p1
        exact fun φ4 H4 σ4 e4 re4 => ⟨φ4, ρ4, st4, re4, PostS.later p1 e4⟩
      | ct ρ4 st4 =>
        rw [hb3] at p1
        exact fun φ4 H4 σ4 e4 re4 => ⟨φ4, ρ4, st4, re4, PostS.later p1 e4⟩
      | bk ρ4 st4 => rw [hb3] at p1; exact p1
      | rt v st4 => rw [hb3] at p1; exact p1
      | ex x ρ4 st4 => rw [hb3] at p1; exact p1
      | bad => rw [hb3] at p1; exact p1
end
end Ev

set_option Elab.async false
set_option linter.all false
set_option maxRecDepth 100000
set_option maxHeartbeats 2000000
namespace Ev
open PySem PySem.Spec PyProof.Rows L2

def PostGw (T : Tab) (φ : Phi) (H : Hp) (vs : List Nat) (σ : L2.St) (Q : L2.St → Hp → Prop) : Option (Env × Sto) → Prop
  | some (ρ, st) => ∀ φ' H' σ', Ext φ H φ' H' → RelE T φ' ρ st σ' H' → wipe σ' vs = wipe σ vs → Q σ' H'
  | none => False
def tGw (T : Tab) (vs : List Nat) (g : G) : TG := fun v σ H Q => ∃ φ ρ st w, RelE T φ ρ st σ H ∧ RelV T φ H w v ∧ PostGw T φ H vs σ Q (g w ρ st)
def tGws (T : Tab) (vs : List Nat) (g : GS) : TGs := fun us σ H Q => ∃ φ ρ st ws, RelE T φ ρ st σ H ∧ RelVs T φ H ws us ∧ PostGw T φ H vs σ Q (g ws ρ st)
theorem wipe_get {σ : L2.St} : ∀ {vs : List Nat} {i : Nat}, (wipe σ vs)[i]? = if i ∈ vs then (if i < σ.length then some none else none) else σ[i]?
  | [], i => by simp [wipe]
  | v :: vs, i => by
    unfold wipe
    by_cases e : v = i
    · subst e
      by_cases h : v < σ.length
      · rw [List.getElem?_set_self (by rw [wipe_length]; exact h)]
        simp [h]
      · rw [List.getElem?_eq_none (by rw [List.length_set, wipe_length]; omega)]
        simp [h]
    · rw [List.getElem?_set_ne e, wipe_get (vs := vs)]
      have : (i ∈ v :: vs) ↔ i ∈ vs := by
        rw [List.mem_cons]
        exact ⟨fun h => h.elim (fun z => absurd z.symm e) id, .inr⟩
      by_cases hm : i ∈ vs
      · rw [if_pos hm, if_pos (this.mpr hm)]
      · rw [if_neg hm, if_neg (fun z => hm (this.mp z))]
theorem wipe_set {σ : L2.St} {vs : List Nat} {i : Nat} {x : Option V} (h : i ∈ vs) : wipe (σ.set i x) vs = wipe σ vs := by
  apply List.ext_getElem?
  intro j
  rw [wipe_get, wipe_get, List.length_set]
  by_cases hj : j ∈ vs
  · rw [if_pos hj, if_pos hj]
  · rw [if_neg hj, if_neg hj, List.getElem?_set_ne (fun e : i = j => hj (e ▸ h))]
section
variable {X : Cx} {T : Tab} {W : WX} {vs : List Nat}
theorem gw_name {i : Nat} {x : Str} {pos : Pos} (hN : X.N.Nodup) (hm : i ∈ vs := by decide) (hi : X.N[i]? = some x := by rfl) (hx : Loc X.env.scope x := by first | exact Or.inl rfl | exact Or.inr rfl) (hf : X.fn x = true ∨ X.env.scope.names.lookup x = some .local := by first | exact .inl rfl | exact .inr rfl | assumption) :
    PG X (.Name x pos) (tGw T vs (gN i)) := by
  refine pg_imp (pg_name (i := i) hN hi hx hf) fun v σ H Q h => ?_
  obtain ⟨φ, ρ, st, w, re, r, p⟩ := h
  exact p φ H _ Ext.refl (re.set r i) (wipe_set hm)
theorem gws_nil : PGs X [] (tGws T vs gNil') := by
  refine pgs_imp pgs_nil fun v σ H Q h => ?_
  obtain ⟨φ, ρ, st, ws, re, r, p⟩ := h
  cases r with
  | nil => exact ⟨rfl, p φ H σ Ext.refl re rfl⟩
  | cons a b => exact p.elim
theorem gws_cons {e : Expr} {es : List Expr} {g : G} {gs : GS} (h1 : PG X e (tGw T vs g)) (h2 : PGs X es (tGws T vs gs))
    (hs : (assignEach (e :: es) X.env).map (·.2) = assign e X.env :: (assignEach es X.env).map (·.2) := by rfl) : PGs X (e :: es) (tGws T vs (gCons' g gs)) := by
  refine pgs_imp (pgs_cons h1 h2 hs) fun v σ H Q h => ?_
  obtain ⟨φ, ρ, st, ws, re, r, p⟩ := h
  cases r with
  | nil => exact p.elim
  | cons a b =>
    rename_i w u ws us
    refine ⟨u, us, rfl, φ, ρ, st, w, re, a, ?_⟩
    unfold gCons' at p
    dsimp only at p
    cases hg : g w ρ st with
    | none => rw [hg] at p; exact p.elim
    | some q =>
      obtain ⟨ρ1, st1⟩ := q
      rw [hg] at p
      dsimp only at p
      intro φ1 H1 σ1 e1 re1 hw
      refine ⟨φ1, ρ1, st1, ws, re1, b.ext e1, ?_⟩
      cases hg2 : gs ws ρ1 st1 with
      | none => rw [hg2] at p; exact p.elim
      | some q =>
        rw [hg2] at p
        exact fun φ2 H2 σ2 e2 re2 hw2 => p φ2 H2 σ2 (e1.trans e2) re2 (hw2.trans hw)
theorem gw_tup {es : List Expr} {k : Nat} {pos : Pos} {gs : GS} {n : Nat} (hK : T.K = X.K) (hc : X.calm = true) (h : PGs X es (tGws T vs gs))
    (hn : (assignEach es X.env).length = n := by rfl) (hst : (assignEach es X.env).findIdx? (·.1) = none := by rfl) : PG X (.Tuple es k pos) (tGw T vs (gT n gs)) := by
  refine pg_imp (pg_tup hc h hn hst) fun v σ H Q h => ?_
  obtain ⟨φ, ρ, st, w, re, r, p⟩ := h
  unfold gT at p
  cases r with
  | tup a b =>
    dsimp only at p
    split at p
    · rename_i hl
      exact ⟨_, _, rfl, SqT.of a, by rw [← b.length]; exact hl, φ, ρ, st, _, re, b, p⟩
    · exact p.elim
  | _ => exact p.elim

def wipeE (ρ : Env) : List Nat → Env
  | [] => ρ
  | v :: vs => (wipeE ρ vs).set v none
theorem wipeE_length (ρ : Env) : ∀ vs : List Nat, (wipeE ρ vs).length = ρ.length
  | [] => rfl
  | v :: vs => by unfold wipeE; rw [List.length_set, wipeE_length ρ vs]
theorem wipeE_some {ρ : Env} {i : Nat} {x : Val} : ∀ {vs : List Nat}, (wipeE ρ vs)[i]? = some (some x) → ρ[i]? = some (some x) ∧ i ∉ vs
  | [], h => ⟨h, by simp⟩
  | v :: vs, h => by
    unfold wipeE at h
    by_cases hi : v = i
    · subst hi
      by_cases hv : v < (wipeE ρ vs).length
      · rw [List.getElem?_set_self hv] at h; cases h
      · rw [List.getElem?_eq_none (by simpa using hv)] at h; cases h
    · rw [List.getElem?_set_ne hi] at h
      obtain ⟨h1, h2⟩ := wipeE_some h
      exact ⟨h1, by simp only [List.mem_cons, not_or]; exact ⟨fun e => hi e.symm, h2⟩⟩
def lcL (g : G) (c : ET) (e : E) (ρ : Env) : List Val → Sto → Res (List Val)
  | [], st => .ok [] st
  | v :: vs, st => match g v ρ st with
    | some (ρ1, st1) => match c ρ1 st1 with
      | .ok true st2 => match e ρ1 st2 with
        | .ok y st3 => match lcL g c e ρ vs st3 with
          | .ok ys st4 => .ok (y :: ys) st4
          | _ => .bad
        | _ => .bad
      | .ok false st2 => lcL g c e ρ vs st2
      | _ => .bad
    | none => .bad
def eYes : ET := fun _ st => .ok true st
/-- .lst: a value; else a thing of the store -/
def lcR (new : Bool) (ys : List Val) (st : Sto) : Res Val := if new then .ok (.loc st.length) (st ++ [.lst ys]) else .ok (.lst ys) st
def lcE (new : Bool) (own : List Nat) (g : G) (c : ET) (e : E) (ρ : Env) (items : List Val) (st : Sto) : Res Val :=
  if items.length < sizeLine then (match lcL g c e (wipeE ρ own) items st with
    | .ok ys st2 => lcR new ys st2
    | _ => .bad) else .bad
def eLc (new : Bool) (own : List Nat) (it : EI) (g : G) (c : ET) (e : E) : E := fun ρ st => bindR (it ρ st) fun items st1 => lcE new own g c e ρ items st1
theorem t_yes {φ : Phi} {ρ : Env} {st : Sto} {σ : L2.St} {H : Hp} {Q : Bool → Hp → Prop} (h : tT T W eYes σ H Q) : tYes σ H Q := by
  obtain ⟨φ, ρ, st, re, p⟩ := h
  exact p.ok_self re.rst rfl
theorem pts_imp {ifs : List Expr} {t t' : TT} (h : PTs X ifs t) (k : ∀ σ H Q, t' σ H Q → t σ H Q) : PTs X ifs t' := ⟨fun pins s σ H Q I q => h.run pins s σ H Q I (k _ _ _ q)⟩
theorem ts_nil : PTs X [] (tT T W eYes) := pts_imp pts_nil fun _ _ _ h => by
  obtain ⟨φ, ρ, st, re, p⟩ := h
  exact p.ok_self re.rst rfl
theorem ts_one {c : Expr} {t : ET} (h : PT X c (tT T W t)) : PTs X [c] (tT T W t) := pts_one h
/-- nothing is let out -/
abbrev W0 : WX := fun _ _ _ _ => False
/-- what is left of a comprehension -/
def RestL (T : Tab) (W : WX) (φ1 : Phi) (σ : L2.St) (H1 : Hp) (Q : VK) (new : Bool) (g : G) (c : ET) (e : E) (ρ : Env) (items ys : List Val) (st : Sto) : Prop := match lcL g c e ρ items st with
  | .ok zs st' => Post T (RelV T) W φ1 σ H1 Q (lcR new (ys ++ zs) st')
  | _ => False
theorem wipe_wipe {σ : L2.St} {vs : List Nat} : wipe (wipe σ vs) vs = wipe σ vs := by
  apply List.ext_getElem?
  intro j
  rw [wipe_get, wipe_length, wipe_get]
  by_cases hj : j ∈ vs
  · rw [if_pos hj, if_pos hj]
  · rw [if_neg hj, if_neg hj]
/-- the reading of a comprehension -/
theorem lc_sound {new : Bool} {own : List Nat} {it : EI} {g : G} {c : ET} {e : E} {σ : L2.St} {H : Hp} {Q : VK} (h : tE T W (eLc new own it g c e) σ H Q) :
    tLc (tI T W it) (tGw T own g) (tT T W0 c) (tE T W0 e) own σ H Q := by
  unfold tLc
  refine tG_bind h fun items ρ st1 φ1 H1 J re1 w p => fun D hD => ?_
  obtain ⟨Gd, Y, w1, w2, w3⟩ := w
  unfold lcE at p
  split at p
  rename_i hz
  · -- the invariant
    have hR1 := re1.rst
    have nhD : ∀ a, a ∈ φ1.hid → a ≠ D := fun a h z => hR1.hid a h (z ▸ hD)
    have rest0 : RestL T W φ1 σ H1 Q new g c e (wipeE ρ own) (items.drop 0) [] st1 := by
      unfold RestL
      rw [List.drop_zero]
      cases hl : lcL g c e (wipeE ρ own) items st1 with
      | ok zs st' => rw [hl] at p; exact p
      | ex x st' => rw [hl] at p; exact p
      | bad => rw [hl] at p; exact p
    refine lc_it w1 (fun i H' => ∃ φ st ys us, Ext φ1 H1 φ H' ∧ Rst T (φ.hide D) st H' ∧ H' D = some (.lst us) ∧ RelVs T (φ.hide D) H' ys us ∧ ys.length ≤ i ∧ RestL T W φ1 σ H1 Q new g c e (wipeE ρ own) (items.drop i) ys st) ?_ (fun i H' _ ⟨φ, _, _, _, e, _⟩ => w2 φ H' e.v) ?_ ?_
    · exact ⟨φ1, st1, [], [], Ext.fresh hR1 hD, hR1.hide hD, upd_same, .nil, Nat.le_refl _, rest0⟩
    · intro i x H' H2 hi ⟨φ, st, ys, us, e1, R, hDl, rv, hl, rest⟩ y
      have ev1 := e1.intoV hD
      obtain ⟨e2, s2, v, hv, rx⟩ := w3 i H' x H2 (φ.hide D) st hi ev1 R y
      have hd : items.drop i = v :: items.drop (i + 1) := by
        obtain ⟨hl, hv⟩ := List.getElem?_eq_some_iff.mp hv
        rw [List.drop_eq_getElem_cons hl, hv]
      rw [hd] at rest
      have re2 : RelE T (φ.hide D) (wipeE ρ own) st (wipe σ own) H2 := by
        refine ⟨s2, by rw [wipeE_length, wipe_length]; exact re1.len, fun k w hw => ?_⟩
        obtain ⟨h1, h2⟩ := wipeE_some hw
        obtain ⟨u, h3, h4⟩ := re1.get k w h1
        exact ⟨u, by rw [wipe_get, if_neg h2]; exact h3, (h4.extV ev1).ext e2⟩
      refine ⟨φ.hide D, wipeE ρ own, st, v, re2, rx, ?_⟩
      unfold RestL lcL at rest
      cases hg : g v (wipeE ρ own) st with
      | none => rw [hg] at rest; exact rest
      | some q =>
        obtain ⟨ρ3, st3⟩ := q
        rw [hg] at rest
        dsimp only at rest
        intro φ3 H3 σ3 e3 re3 hw3
        refine ⟨by rw [hw3, wipe_wipe], φ3, ρ3, st3, re3, ?_⟩
        cases hc : c ρ3 st3 with
        | ex x st4 => rw [hc] at rest; exact rest.elim
        | bad => rw [hc] at rest; exact rest.elim
        | ok b st4 =>
          rw [hc] at rest
          intro φ4 H4 b' e4 s4 hb
          subst hb
          have e24 := (e2.trans e3).trans e4
          cases b with
          | false =>
            refine iteF ?_
            obtain ⟨φ', rfl, ex1, _⟩ := Ext.outof e1 e24 hD nhD
            exact ⟨φ', st4, ys, us, ex1, s4, (e24.hidk D (List.mem_cons_self ..)).trans hDl, rv.ext e24, Nat.le_succ_of_le hl, rest⟩
          | true =>
            refine iteT ⟨φ4, ρ3, st4, re3.ext e4 s4, ?_⟩
            dsimp only at rest
            cases he : e ρ3 st4 with
            | ex x st5 => rw [he] at rest; exact rest.elim
            | bad => rw [he] at rest; exact rest.elim
            | ok y st5 =>
              rw [he] at rest
              dsimp only at rest
              intro φ5 H5 u5 e5 s5 r5
              have e25 := e24.trans e5
              obtain ⟨φ', rfl, ex1, ex2⟩ := Ext.outof e1 e25 hD nhD
              have hD5 : H5 D = some (.lst us) := (e25.hidk D (List.mem_cons_self ..)).trans hDl
              have hnt : ∀ ws, H5 D ≠ some (.tup ws) := fun ws z => by rw [hD5] at z; cases z
              refine ⟨us, hD5, ?_, φ', st5, ys ++ [y], us ++ [u5], ex2 _, s5.hidden hnt, upd_same, ((rv.ext e25).append (.cons r5 .nil)).extV (hidden_v hnt), ?_, ?_⟩
              · rw [← rv.length]
                exact Nat.lt_of_le_of_lt hl (Nat.lt_trans hi hz)
              · rw [List.length_append]
                exact Nat.succ_le_succ hl
              · unfold RestL
                cases hr : lcL g c e (wipeE ρ own) (items.drop (i + 1)) st5 with
                | ex x st6 => rw [hr] at rest; exact rest.elim
                | bad => rw [hr] at rest; exact rest.elim
                | ok zs st6 =>
                  rw [hr] at rest
                  dsimp only at rest ⊢
                  rw [List.append_assoc]
                  exact rest
    · intro H' ⟨φ, st, ys, us, e1, R, hDl, rv, hl, rest⟩
      rw [List.drop_length] at rest
      unfold RestL lcL at rest
      dsimp only at rest
      rw [List.append_nil] at rest
      have nD : ¬ Live φ D := by
        rintro (⟨n, hn⟩ | hm)
        · exact R.apart n D hn (List.mem_cons_self ..)
        · exact nhD D (e1.hid ▸ hm) rfl
      have R' := R.unhide
      have rv' := rv.extV unhideV
      unfold lcR at rest
      cases new with
      | false => exact rest φ H' _ e1 R' (.lst (.inl ⟨nD, .inl hDl⟩) rv')
      | true =>
        have rest : Post T (RelV T) W φ1 σ H1 Q (.ok (.loc st.length) (st ++ [.lst ys])) := rest
        have exA : Ext φ1 H1 (φ.add D) H' := {
          len := Nat.le_trans e1.len (by show φ.l.length ≤ (φ.l ++ [some D]).length; simp)
          old := fun n a h hn => by
            rcases add_get h with ⟨_, q⟩ | ⟨q, _⟩
            · exact e1.old n a q hn
            · have := e1.len; omega
          new := fun n a h hn => by
            rcases add_get h with ⟨_, q⟩ | ⟨_, q⟩
            · exact e1.new n a q hn
            · rw [q]; exact hD
          tups := e1.tups
          rd := e1.rd
          non := e1.non
          hid := e1.hid
          hidk := e1.hidk }
        have evA : ExtV (φ.hide D) H' (φ.add D) H' := {
          len := by show φ.l.length ≤ (φ.l ++ [some D]).length; simp
          old := fun n a h hn => by
            rcases add_get h with ⟨_, q⟩ | ⟨q, _⟩
            · exact q
            · have : n < φ.l.length := hn; omega
          tups := fun _ _ h => h
          nl := fun a h _ => by
            obtain ⟨h1, h2⟩ := live_hide h
            rintro (⟨n, hn⟩ | hm)
            · rcases add_get hn with ⟨_, q⟩ | ⟨_, q⟩
              · exact h1 (.inl ⟨n, q⟩)
              · exact h2 q
            · exact h1 (.inr hm)
          rd := fun _ _ _ r => r }
        have RA : Rst T (φ.add D) (st ++ [.lst ys]) H' := {
          len := by show (φ.l ++ [some D]).length = _; simp [R'.len]
          inj := fun n m a h1 h2 => by
            rcases add_get h1 with ⟨_, q1⟩ | ⟨l1, q1⟩
            · rcases add_get h2 with ⟨_, q2⟩ | ⟨l2, q2⟩
              · exact R'.inj n m a q1 q2
              · subst q2; exact absurd (.inl ⟨n, q1⟩) nD
            · rcases add_get h2 with ⟨_, q2⟩ | ⟨l2, q2⟩
              · subst q1; exact absurd (.inl ⟨m, q2⟩) nD
              · omega
          ob := fun n o h => by
            by_cases hn : n < st.length
            · rw [List.getElem?_append_left hn] at h
              rcases R.ob n o h with ⟨q1, q2⟩ | ⟨a, q, r⟩
              · exact .inl ⟨q1, add_old q2⟩
              · exact .inr ⟨a, add_old q, r.extV evA rfl⟩
            · rw [List.getElem?_append_right (by omega)] at h
              have e : n - st.length = 0 := by
                have := (List.getElem?_eq_some_iff.mp h).1
                simp at this; omega
              rw [e] at h
              simp at h
              subst h
              refine .inr ⟨D, ?_, us, hDl, rv.extV evA⟩
              have : n = φ.l.length := by rw [R'.len]; omega
              subst this
              show (φ.l ++ [some D])[φ.l.length]? = _
              simp
          hid := R'.hid
          apart := fun n a h z => by
            rcases add_get h with ⟨_, q⟩ | ⟨_, q⟩
            · exact R'.apart n a q z
            · subst q; exact nD (.inr z) }
        exact rest _ H' _ exA RA (rel_loc R')
  · exact p.elim
theorem e_lc {new : Bool} {elt tg iter : Expr} {ifs : List Expr} {scope : Scope} (own : List (Str × Nat)) {pos : Pos} {it : EI} {g : G} {c : ET} {e : E} (hc : X.calm = true) (hN : X.N.Nodup) (hi : PI X tg iter (tI T W it)) (ok : BlkOk X.N X.env.scope scope own)
    (hg : ∀ (s : Shared) (H : Hp) (C : Addr) (cl : List (Str × Addr)) (fp : List Addr), PG (X.blk s H scope (compEnvC scope cl C X.env) fp) tg (tGw T (own.map (·.2)) g))
    (ht : ∀ (s : Shared) (H : Hp) (C : Addr) (cl : List (Str × Addr)) (fp : List Addr), PTs (X.blk s H scope (compEnvC scope cl C X.env) fp) ifs (tT T W0 c))
    (he : ∀ (s : Shared) (H : Hp) (C : Addr) (cl : List (Str × Addr)) (fp : List Addr), PE (X.blk s H scope (compEnvC scope cl C X.env) fp) elt (tE T W0 e)) (hs : ∀ x, foldedSetIterable iter X.env x = pure x := by intro _; rfl) :
    PE X (.ListComp elt [⟨tg, iter, ifs, 0⟩] scope pos) (tE T W (eLc new (own.map (·.2)) it g c e)) := pe_imp (pe_lc hc hN hi ok hg ht he hs) fun _ _ _ h => lc_sound h
/-- name = [..] on one line -/
theorem s_setLc {new : Bool} {i : Nat} {y : Str} {py : Pos} {elt tg iter : Expr} {ifs : List Expr} {scope : Scope} (own : List (Str × Nat)) {pos spos : Pos} {it : EI} {g : G} {c : ET} {e : E} (hc : X.calm = true) (hN : X.N.Nodup) (hi : PI X tg iter (tI T W it)) (ok : BlkOk X.N X.env.scope scope own)
    (hg : ∀ (s : Shared) (H : Hp) (C : Addr) (cl : List (Str × Addr)) (fp : List Addr), PG (X.blk s H scope (compEnvC scope cl C X.env) fp) tg (tGw T (own.map (·.2)) g))
    (ht : ∀ (s : Shared) (H : Hp) (C : Addr) (cl : List (Str × Addr)) (fp : List Addr), PTs (X.blk s H scope (compEnvC scope cl C X.env) fp) ifs (tT T W0 c))
    (he : ∀ (s : Shared) (H : Hp) (C : Addr) (cl : List (Str × Addr)) (fp : List Addr), PE (X.blk s H scope (compEnvC scope cl C X.env) fp) elt (tE T W0 e))
    (hsw : swapsWith (.ListComp elt [⟨tg, iter, ifs, 0⟩] scope pos) (some (.Name y py)) spos.line X.env = pure true)
    (hy : X.N[i]? = some y := by rfl) (hyl : X.env.scope.names.lookup y = some .local := by rfl) (hs : ∀ x, foldedSetIterable iter X.env x = pure x := by intro _; rfl) :
    PS X (.Assign [.Name y py] (.ListComp elt [⟨tg, iter, ifs, 0⟩] scope pos) spos) (tS T W (sSet i (eLc new (own.map (·.2)) it g c e))) := by
  refine ps_imp (ps_setLc hc hN hy hyl hsw hi ok hg ht he hs) fun D σ H h => ?_
  refine lc_sound (new := new) (W := W) ?_
  exact tS_bind h fun v ρ st1 φ1 H1 u re1 q1 p1 => p1 φ1 H1 _ Ext.refl (re1.set q1 i)
end
end Ev

set_option Elab.async false
set_option linter.all false
set_option maxRecDepth 100000
set_option maxHeartbeats 2000000
namespace Ev
open PySem PySem.Spec PyProof.Rows L2

mutual
def Val.same : Val → Val → Bool
  | .non, .non => true
  | .bl a, .bl b => a == b
  | .int a, .int b => decide (a = b)
  | .str a, .str b => decide (a = b)
  | .tup a, .tup b => Val.sames a b
  | .lst a, .lst b => Val.sames a b
  | .dct k a, .dct l b => decide (k = l) && Val.sames a b
  | .loc a, .loc b => a == b
  | .exc c k a, .exc d l b => c == d && decide (k = l) && Val.sames a b
  | _, _ => false
def Val.sames : List Val → List Val → Bool
  | [], [] => true
  | x :: xs, y :: ys => Val.same x y && Val.sames xs ys
  | _, _ => false
end
mutual
theorem Val.same_refl : ∀ v : Val, Val.same v v = true
  | .non => rfl
  | .bl b => by simp [Val.same]
  | .int i => by simp [Val.same]
  | .str s => by simp [Val.same]
  | .tup xs => by simp [Val.same, Val.sames_refl xs]
  | .lst xs => by simp [Val.same, Val.sames_refl xs]
  | .dct k xs => by simp [Val.same, Val.sames_refl xs]
  | .loc n => by simp [Val.same]
  | .exc c k xs => by simp [Val.same, Val.sames_refl xs]
theorem Val.sames_refl : ∀ vs : List Val, Val.sames vs vs = true
  | [] => rfl
  | v :: vs => by simp [Val.sames, Val.same_refl v, Val.sames_refl vs]
end
mutual
theorem Val.eq_of_same : ∀ {v w : Val}, Val.same v w = true → v = w
  | .non, w, h => by cases w <;> simp_all [Val.same]
  | .bl b, w, h => by cases w <;> simp_all [Val.same]
  | .int i, w, h => by cases w <;> simp_all [Val.same]
  | .str s, w, h => by cases w <;> simp_all [Val.same]
  | .loc n, w, h => by cases w <;> simp_all [Val.same]
  | .tup xs, w, h => by
    cases w <;> simp only [Val.same] at h <;> first | cases h | rw [Val.eq_of_sames h]
  | .lst xs, w, h => by
    cases w <;> simp only [Val.same] at h <;> first | cases h | rw [Val.eq_of_sames h]
  | .dct k xs, w, h => by
    cases w <;> simp only [Val.same, Bool.and_eq_true, decide_eq_true_eq] at h <;> first | cases h; done | (obtain ⟨h1, h2⟩ := h; rw [h1, Val.eq_of_sames h2])
  | .exc c k xs, w, h => by
    cases w <;> simp only [Val.same, Bool.and_eq_true, decide_eq_true_eq, beq_iff_eq] at h <;> first | cases h; done | (obtain ⟨⟨h0, h1⟩, h2⟩ := h; rw [h0, h1, Val.eq_of_sames h2])
theorem Val.eq_of_sames : ∀ {v w : List Val}, Val.sames v w = true → v = w
  | [], w, h => by cases w <;> simp_all [Val.sames]
  | x :: xs, w, h => by
    cases w with
    | nil => cases h
    | cons y ys =>
      simp only [Val.sames, Bool.and_eq_true] at h
      rw [Val.eq_of_same h.1, Val.eq_of_sames h.2]
end
def pairsSame {κ : Type} [DecidableEq κ] : List (κ × Val) → List (κ × Val) → Bool
  | [], [] => true
  | x :: xs, y :: ys => decide (x.1 = y.1) && Val.same x.2 y.2 && pairsSame xs ys
  | _, _ => false
theorem pairsSame_refl {κ : Type} [DecidableEq κ] : ∀ xs : List (κ × Val), pairsSame xs xs = true
  | [] => rfl
  | x :: xs => by simp [pairsSame, Val.same_refl, pairsSame_refl xs]
theorem eq_of_pairs {κ : Type} [DecidableEq κ] : ∀ {xs ys : List (κ × Val)}, pairsSame xs ys = true → xs = ys
  | [], ys, h => by cases ys <;> simp_all [pairsSame]
  | x :: xs, ys, h => by
    cases ys with
    | nil => cases h
    | cons y ys =>
      simp only [pairsSame, Bool.and_eq_true, decide_eq_true_eq] at h
      obtain ⟨⟨h1, h2⟩, h3⟩ := h
      obtain ⟨a, b⟩ := x
      obtain ⟨c, d⟩ := y
      dsimp only at h1 h2
      rw [h1, Val.eq_of_same h2, eq_of_pairs h3]
def Ob.same : Ob → Ob → Bool
  | .dead, .dead => true
  | .lst a, .lst b => Val.sames a b
  | .dK a, .dK b => pairsSame a b
  | .dT a, .dT b => pairsSame a b
  | .lkK a, .lkK b => pairsSame a b
  | .lkT a, .lkT b => pairsSame a b
  | .ins c a, .ins d b => c == d && pairsSame a b
  | .dN a, .dN b => a == b
  | _, _ => false
theorem Ob.same_refl : ∀ o : Ob, Ob.same o o = true
  | .dead => rfl
  | .lst a => Val.sames_refl a
  | .dK a => pairsSame_refl a
  | .dT a => pairsSame_refl a
  | .lkK a => pairsSame_refl a
  | .lkT a => pairsSame_refl a
  | .ins c a => by simp [Ob.same, pairsSame_refl a]
  | .dN a => by simp [Ob.same]
theorem Ob.eq_of_same {o p : Ob} (h : Ob.same o p = true) : o = p := by
  cases o <;> cases p <;> simp only [Ob.same, Bool.and_eq_true, beq_iff_eq] at h <;> first | cases h; done | rfl | rw [h] | rw [Val.eq_of_sames h] | rw [eq_of_pairs h] | (rw [h.1, eq_of_pairs h.2])

mutual
def belV (n : Nat) : Val → Bool
  | .tup xs => belVs n xs
  | .lst xs => belVs n xs
  | .dct _ xs => belVs n xs
  | .exc _ _ xs => belVs n xs
  | .loc m => decide (m < n)
  | _ => true
def belVs (n : Nat) : List Val → Bool
  | [] => true
  | x :: xs => belV n x && belVs n xs
end
def belOb (n : Nat) : Ob → Bool
  | .dead => true
  | .lst a => belVs n a
  | .dK a => a.all fun p => belV n p.2
  | .dT a => a.all fun p => belV n p.2
  | .lkK a => a.all fun p => belV n p.2
  | .lkT a => a.all fun p => belV n p.2
  | .ins _ a => a.all fun p => belV n p.2
  | .dN _ => true
def Phi.tk (φ : Phi) (n : Nat) : Phi := { φ with l := φ.l.take n }
section
variable {T : Tab} {φ : Phi} {H : Hp}
mutual
theorem bel_of_rel : ∀ {v : Val} {u : V}, RelV T φ H v u → belV φ.l.length v = true
  | _, _, .non => rfl
  | _, _, .bl _ => rfl
  | _, _, .int _ => rfl
  | _, _, .str _ => rfl
  | _, _, .tup _ r => bels_of_rel r
  | _, _, .lst _ r => bels_of_rel r
  | _, _, .dct _ _ _ r => bels_of_rel r
  | _, _, .exc _ _ _ _ _ r => bels_of_rel r
  | _, _, .loc h _ => decide_eq_true h
theorem bels_of_rel : ∀ {v : List Val} {u : List V}, RelVs T φ H v u → belVs φ.l.length v = true
  | _, _, .nil => rfl
  | _, _, .cons a b => by rw [belVs, bel_of_rel a, bels_of_rel b]; rfl
end
theorem tk_get {n k : Nat} {a : Addr} (h : (φ.tk n).l[k]? = some (some a)) : k < n ∧ φ.l[k]? = some (some a) := by
  have h : (φ.l.take n)[k]? = some (some a) := h
  rw [List.getElem?_take] at h
  split at h
  · exact ⟨by assumption, h⟩
  · cases h
theorem live_tk {n : Nat} {a : Addr} (h : ¬ Live φ a) : ¬ Live (φ.tk n) a := by
  rintro (⟨k, hk⟩ | hm)
  · exact h (.inl ⟨k, (tk_get hk).2⟩)
  · exact h (.inr hm)
mutual
theorem rel_tk {n : Nat} (hn : n ≤ φ.l.length) : ∀ {v : Val} {u : V}, RelV T φ H v u → belV n v = true → RelV T (φ.tk n) H v u
  | _, _, .non, _ => .non
  | _, _, .bl b, _ => .bl b
  | _, _, .int i, _ => .int i
  | _, _, .str s, _ => .str s
  | _, _, .tup h r, q => .tup h (rels_tk hn r q)
  | _, _, .lst h r, q => .lst (h.elim (fun z => .inl ⟨live_tk z.1, z.2⟩) .inr) (rels_tk hn r q)
  | _, _, .dct n1 h l r, q => .dct (live_tk n1) h l (rels_tk hn r q)
  | _, _, .exc n1 n2 h1 h2 l r, q => .exc (live_tk n1) (live_tk n2) h1 h2 l (rels_tk hn r q)
  | _, _, .loc h r, q => .loc (by
      have q := of_decide_eq_true q
      show _ < (φ.l.take n).length
      rw [List.length_take]; omega) (fun a z => r a (tk_get z).2)
theorem rels_tk {n : Nat} (hn : n ≤ φ.l.length) : ∀ {v : List Val} {u : List V}, RelVs T φ H v u → belVs n v = true → RelVs T (φ.tk n) H v u
  | _, _, .nil, _ => .nil
  | _, _, .cons a b, q => by
    rw [belVs, Bool.and_eq_true] at q
    exact .cons (rel_tk hn a q.1) (rels_tk hn b q.2)
end
theorem relF_tk {κ : Type} {n : Nat} (hn : n ≤ φ.l.length) {xs : List (κ × Val)} {us : List (κ × V)} (r : RelF T φ H xs us) (h : (xs.all fun p => belV n p.2) = true) : RelF T (φ.tk n) H xs us := by
  induction r with
  | nil => exact .nil
  | cons a _ ih =>
    rw [List.all_cons, Bool.and_eq_true] at h
    exact .cons ⟨a.1, rel_tk hn a.2 h.1⟩ (ih h.2)
theorem relF_bel {κ : Type} {xs : List (κ × Val)} {us : List (κ × V)} (r : RelF T φ H xs us) : (xs.all fun p => belV φ.l.length p.2) = true := by
  induction r with
  | nil => rfl
  | cons a _ ih => rw [List.all_cons, bel_of_rel a.2, ih]; rfl
theorem relOb_tk {n : Nat} (hn : n ≤ φ.l.length) {o : Ob} {a : Addr} (r : RelOb T φ H o a) (h : belOb n o = true) : RelOb T (φ.tk n) H o a := by
  cases o with
  | dead => exact r
  | lst xs => obtain ⟨us, q, r⟩ := r; exact ⟨us, q, rels_tk hn r h⟩
  | dK kvs => obtain ⟨us, q, r⟩ := r; exact ⟨us, q, relF_tk hn r h⟩
  | dT kvs => obtain ⟨us, q, r⟩ := r; exact ⟨us, q, relF_tk hn r h⟩
  | lkK kvs => obtain ⟨o, us, q, r⟩ := r; exact ⟨o, us, q, relF_tk hn r h⟩
  | lkT kvs => obtain ⟨o, us, q, r⟩ := r; exact ⟨o, us, q, relF_tk hn r h⟩
  | ins c fs => obtain ⟨o, us, q, r⟩ := r; exact ⟨o, us, q, relF_tk hn r h⟩
  | dN kvs => exact r
theorem relOb_bel {o : Ob} {a : Addr} (r : RelOb T φ H o a) : belOb φ.l.length o = true := by
  cases o with
  | dead => rfl
  | lst xs => obtain ⟨us, q, r⟩ := r; exact bels_of_rel r
  | dK kvs => obtain ⟨us, q, r⟩ := r; exact relF_bel r
  | dT kvs => obtain ⟨us, q, r⟩ := r; exact relF_bel r
  | lkK kvs => obtain ⟨o, us, q, r⟩ := r; exact relF_bel r
  | lkT kvs => obtain ⟨o, us, q, r⟩ := r; exact relF_bel r
  | ins c fs => obtain ⟨o, us, q, r⟩ := r; exact relF_bel r
  | dN kvs => rfl
end
/-- the store's first things are as they were, or reach no new thing -/
def okOld (st0 st : Sto) : Bool := (List.range st0.length).all fun i => match st0[i]?, st[i]? with
  | some a, some b => Ob.same a b || belOb st0.length b
  | _, _ => false
/-- a store's list or dict, let go -/
def frz1 (n : Nat) (st : Sto) (v : Val) : Option Val := if belV n v then some v else match v with
  | .loc m => match st[m]? with
    | some (.lst xs) => if belVs n xs then some (.lst xs) else none
    | some (.dK kvs) => if (kvs.all fun p => belV n p.2) then some (.dct (kvs.map (·.1)) (kvs.map (·.2))) else none
    | _ => none
  | _ => none
def frzs (n : Nat) (st : Sto) : List Val → Option (List Val)
  | [] => some []
  | x :: xs => match frz1 n st x, frzs n st xs with
    | some y, some ys => some (y :: ys)
    | _, _ => none
def frzV (n : Nat) (st : Sto) (v : Val) : Option Val := match frz1 n st v with
  | some w => some w
  | none => match v with
    | .tup xs => (frzs n st xs).map .tup
    | _ => none
/-- what a call leaves -/
def fin (st0 : Sto) (v : Val) (st : Sto) : Res Val := if okOld st0 st then (match frzV st0.length st v with
  | some w => .ok w (st.take st0.length)
  | none => .ok v st) else .ok v st
def finX (st0 : Sto) (x : Val) (st : Sto) : Res Val := if okOld st0 st && belV st0.length x then .ex x (st.take st0.length) else .ex x st
def outF (st0 : Sto) : SR → Res Val
  | .nx _ st => fin st0 .non st
  | .rt v st => fin st0 v st
  | .ex x _ st => finX st0 x st
  | _ => .bad
def startE (n : Nat) (args : List Val) : Env := args.map some ++ List.replicate (n - args.length) none
abbrev Fn := List Val → Sto → Res Val
def runF (n : Nat) (body : S) : Fn := fun args st => outF st (body (startE n args) st)

section
variable {T : Tab} {φ φ' : Phi} {H H' : Hp} {st st' : Sto}
theorem okOld_get (h : okOld st st' = true) {i : Nat} {b : Ob} (hi : i < st.length) (hb : st'[i]? = some b) : st[i]? = some b ∨ belOb st.length b = true := by
  unfold okOld at h
  rw [List.all_eq_true] at h
  have q := h i (List.mem_range.mpr hi)
  rw [List.getElem?_eq_getElem hi, hb] at q
  dsimp only at q
  rw [Bool.or_eq_true] at q
  rcases q with q | q
  · exact .inl (by rw [List.getElem?_eq_getElem hi, Ob.eq_of_same q])
  · exact .inr q
theorem Ext.tk (R : Rst T φ st H) (e : Ext φ H φ' H') : Ext φ H (φ'.tk st.length) H' where
  len := by
    show φ.l.length ≤ (φ'.l.take st.length).length
    rw [List.length_take, ← R.len]
    have := e.len
    omega
  old := fun n a h hn => e.old n a (tk_get h).2 hn
  new := fun n a h hn => e.new n a (tk_get h).2 hn
  tups := e.tups
  rd := e.rd
  non := e.non
  hid := e.hid
  hidk := e.hidk
theorem Rst.tk (R : Rst T φ st H) (e : Ext φ H φ' H') (R' : Rst T φ' st' H') (h : okOld st st' = true) : Rst T (φ'.tk st.length) (st'.take st.length) H' where
  len := by
    show (φ'.l.take st.length).length = _
    rw [List.length_take, List.length_take, R'.len]
  inj := fun n m a h1 h2 => R'.inj n m a (tk_get h1).2 (tk_get h2).2
  ob := fun n o ho => by
    have hn : n < st.length := by
      have := (List.getElem?_eq_some_iff.mp ho).1
      rw [List.length_take] at this
      omega
    rw [List.getElem?_take_of_lt hn] at ho
    have hle : st.length ≤ φ'.l.length := by rw [← R.len]; exact e.len
    have keep : ∀ {x : Option Addr}, φ'.l[n]? = some x → (φ'.tk st.length).l[n]? = some x := fun {x} q => by
      show (φ'.l.take st.length)[n]? = _
      rw [List.getElem?_take_of_lt hn]; exact q
    rcases R'.ob n o ho with ⟨q1, q2⟩ | ⟨a, q, r⟩
    · exact .inl ⟨q1, keep q2⟩
    · refine .inr ⟨a, keep q, relOb_tk hle r ?_⟩
      rcases okOld_get h hn ho with z | z
      · rcases R.ob n o z with ⟨rfl, _⟩ | ⟨b, _, r2⟩
        · rfl
        · rw [← R.len]; exact relOb_bel r2
      · exact z
  hid := R'.hid
  apart := fun n a h1 => R'.apart n a (tk_get h1).2
theorem rel_frz1 (R : Rst T φ st H) (e : Ext φ H φ' H') (R' : Rst T φ' st' H') {v w : Val} {u : V} (r : RelV T φ' H' v u) (h : frz1 st.length st' v = some w) : RelV T (φ'.tk st.length) H' w u := by
  have hle : st.length ≤ φ'.l.length := by rw [← R.len]; exact e.len
  unfold frz1 at h
  split at h
  · rename_i hb
    cases h
    exact rel_tk hle r hb
  · rename_i hnb
    split at h
    · rename_i m
      have hm : st.length ≤ m := by
        refine Nat.le_of_not_lt fun z => hnb ?_
        exact decide_eq_true z
      have nl : ∀ a, φ'.l[m]? = some (some a) → ¬ Live (φ'.tk st.length) a := fun a ha => by
        rintro (⟨k, hk⟩ | hh)
        · obtain ⟨h1, h2⟩ := tk_get hk
          have := R'.inj k m a h2 ha
          omega
        · exact R'.apart m a ha hh
      cases r with
      | loc hn hu =>
        split at h
        · rename_i xs q
          split at h
          · rename_i hb
            cases h
            obtain ⟨a, e1, us, e2, e3⟩ := R'.at q (by simp)
            rw [hu a e1]
            exact .lst (.inl ⟨nl a e1, .inl e2⟩) (rels_tk hle e3 hb)
          · cases h
        · rename_i kvs q
          split at h
          · rename_i hb
            cases h
            obtain ⟨a, e1, us, e2, e3⟩ := R'.at q (by simp)
            rw [hu a e1]
            have hk : us = (kvs.map (·.1)).zip (us.map (·.2)) := by
              clear hb q e2
              induction e3 with
              | nil => rfl
              | cons a _ ih =>
                rename_i p q _ _ _
                obtain ⟨x, y⟩ := q
                have h1 : p.1 = x := a.1
                simp only [List.map_cons, List.zip_cons_cons, h1, ← ih]
            have hv : RelVs T (φ'.tk st.length) H' (kvs.map (·.2)) (us.map (·.2)) := by
              clear hk q e2
              have e4 := relF_tk hle e3 hb
              clear hb e3
              induction e4 with
              | nil => exact .nil
              | cons a _ ih => exact .cons a.2 ih
            refine .dct (nl a e1) (.inl (by rw [← hk]; exact e2)) ?_ hv
            rw [List.length_map, List.length_map]
            exact Paired.length e3
          · cases h
        · cases h
    · cases h
theorem rel_frzs (R : Rst T φ st H) (e : Ext φ H φ' H') (R' : Rst T φ' st' H') : ∀ {vs ws : List Val} {us : List V}, RelVs T φ' H' vs us → frzs st.length st' vs = some ws → RelVs T (φ'.tk st.length) H' ws us
  | _, _, _, .nil, h => by cases h; exact .nil
  | _, _, _, .cons a b, h => by
    rw [frzs] at h
    split at h
    · rename_i y ys e1 e2
      cases h
      exact .cons (rel_frz1 R e R' a e1) (rel_frzs R e R' b e2)
    · cases h
theorem rel_frzV (R : Rst T φ st H) (e : Ext φ H φ' H') (R' : Rst T φ' st' H') {v w : Val} {u : V} (r : RelV T φ' H' v u) (h : frzV st.length st' v = some w) : RelV T (φ'.tk st.length) H' w u := by
  unfold frzV at h
  split at h
  · rename_i z e1
    cases h
    exact rel_frz1 R e R' r e1
  · split at h
    · simp only [Option.map_eq_some_iff] at h
      obtain ⟨ws, e1, rfl⟩ := h
      cases r with
      | tup h1 h2 => exact .tup h1 (rel_frzs R e R' h2 e1)
    · cases h
end

def PostF (T : Tab) (φ : Phi) (H : Hp) (Q : VK) (E : XK) : Res Val → Prop
  | .ok v st => ∀ φ' H' u, Ext φ H φ' H' → Rst T φ' st H' → RelV T φ' H' v u → Q u H'
  | .ex x st => ∀ φ' H' c d, Ext φ H φ' H' → Rst T φ' st H' → RelX T φ' H' x c d → E c d H'
  | .bad => False
def spF (T : Tab) (np : Nat) (m : Fn) : Sp := fun vs H Q E => vs.length = np ∧ ∃ φ args st, Rst T φ st H ∧ RelVs T φ H args vs ∧ PostF T φ H Q E (m args st)
section
variable {T : Tab}
theorem relX_tk {φ : Phi} {H : Hp} {n : Nat} {x : Val} {c : Value} {d : Option Addr} (hn : n ≤ φ.l.length) (r : RelX T φ H x c d) (h : belV n x = true) : RelX T (φ.tk n) H x c d := by
  obtain ⟨k, ns, vs, us, dd, rfl, h1, h2, h3, h4, h5, h6⟩ := r
  exact ⟨k, ns, vs, us, dd, rfl, h1, h2, live_tk h3, h4, h5, rels_tk hn h6 h⟩
theorem relE_start {φ : Phi} {st : Sto} {H : Hp} {N : List Str} {args : List Val} {vs : List V} (R : Rst T φ st H) (r : RelVs T φ H args vs) (hl : vs.length ≤ N.length) : RelE T φ (startE N.length args) st (L2.start N vs) H := by
  have hlen := r.length
  refine ⟨R, ?_, fun i v h => ?_⟩
  · unfold startE L2.start
    simp only [List.length_append, List.length_map, List.length_replicate]
    omega
  · unfold startE at h
    unfold L2.start
    by_cases hi : i < args.length
    · rw [List.getElem?_append_left (by simpa using hi), List.getElem?_map] at h
      cases e : args[i]? with
      | none => rw [e] at h; cases h
      | some a =>
        rw [e] at h
        cases h
        obtain ⟨u, h1, h2⟩ := r.get e
        exact ⟨u, by rw [List.getElem?_append_left (by simp; omega), List.getElem?_map, h1]; rfl, h2⟩
    · rw [List.getElem?_append_right (by simp; omega), List.getElem?_replicate] at h
      split at h <;> cases h
theorem body_sound {N : List Str} {np : Nat} {body : S} {vs : List V} {H : Hp} {Q : VK} {E : XK} (hn : np ≤ N.length) (h : spF T np (runF N.length body) vs H Q E) :
    tS T (fun c d _ H' => E c d H') body { nx := fun _ H' => Q .non H', rt := Q } (L2.start N vs) H := by
  obtain ⟨hl, φ, args, st, R, r, p⟩ := h
  refine ⟨φ, startE N.length args, st, relE_start R r (by omega), ?_⟩
  unfold runF at p
  have done : ∀ v st' φ' H' u, PostF T φ H Q E (fin st v st') → Ext φ H φ' H' → Rst T φ' st' H' → RelV T φ' H' v u → Q u H' := by
    intro v st' φ' H' u p e R' rv
    unfold fin at p
    split at p
    · rename_i ho
      split at p
      · rename_i w hw
        exact p _ H' u (Ext.tk R e) (Rst.tk R e R' ho) (rel_frzV R e R' rv hw)
      · exact p φ' H' u e R' rv
    · exact p φ' H' u e R' rv
  cases hb : body (startE N.length args) st with
  | nx ρ st' => rw [hb] at p; exact fun φ' H' σ' e re => done .non st' φ' H' .non p e re.rst .non
  | rt v st' => rw [hb] at p; exact fun φ' H' u e s q => done v st' φ' H' u p e s q
  | bk ρ st' => rw [hb] at p; exact p.elim
  | ct ρ st' => rw [hb] at p; exact p.elim
  | bad => rw [hb] at p; exact p.elim
  | ex x ρ st' =>
    rw [hb] at p
    intro φ' H' σ' c d e re rx
    have p : PostF T φ H Q E (finX st x st') := p
    unfold finX at p
    split at p
    · rename_i hh
      rw [Bool.and_eq_true] at hh
      have hle : st.length ≤ φ'.l.length := by rw [← R.len]; exact e.len
      exact p _ H' c d (Ext.tk R e) (Rst.tk R e re.rst hh.1) (relX_tk hle rx hh.2)
    · exact p φ' H' c d e re.rst rx
/-- a def whose new things are not let go -/
def outK : SR → Res Val
  | .nx _ st => .ok .non st
  | .rt v st => .ok v st
  | .ex x _ st => .ex x st
  | _ => .bad
def runK (n : Nat) (body : S) : Fn := fun args st => outK (body (startE n args) st)
inductive IsRun (n : Nat) (body : S) : Fn → Prop
  | f : IsRun n body (runF n body)
  | k : IsRun n body (runK n body)
theorem body_soundR {N : List Str} {np : Nat} {body : S} {m : Fn} (hm : IsRun N.length body m) {vs : List V} {H : Hp} {Q : VK} {E : XK} (hn : np ≤ N.length) (h : spF T np m vs H Q E) :
    tS T (fun c d _ H' => E c d H') body { nx := fun _ H' => Q .non H', rt := Q } (L2.start N vs) H := by
  cases hm with
  | f => exact body_sound hn h
  | k =>
    obtain ⟨hl, φ, args, st, R, r, p⟩ := h
    refine ⟨φ, startE N.length args, st, relE_start R r (by omega), ?_⟩
    unfold runK at p
    cases hb : body (startE N.length args) st with
    | nx ρ st' => rw [hb] at p; exact fun φ' H' σ' e re => p φ' H' .non e re.rst .non
    | rt v st' => rw [hb] at p; exact fun φ' H' u e s q => p φ' H' u e s q
    | bk ρ st' => rw [hb] at p; exact p.elim
    | ct ρ st' => rw [hb] at p; exact p.elim
    | bad => rw [hb] at p; exact p.elim
    | ex x ρ st' => rw [hb] at p; exact fun φ' H' σ' c d e re rx => p φ' H' c d e re.rst rx
/-- THE RULE for a def -/
theorem fn_ok {P : Program} {w : World} {K : PySem.W.Frag} {mg : Str → Option Value} {base : Heap} {x qual : Str} {st : Stmt} {f : Addr} {fd : FuncData} {N ps : List Str} {k : Nat} {body : S} (F : Fun K x qual st f fd) (Sc : FnScope N ps (defScope st))
    (hb : ∀ (cdv : Value) (A : Around) (outer : List PySem.Env) (s : Shared) (H : Hp) (E : XK), Room k (A.deeper (envOfC qual (defScope st) s.heap.objs.size f cdv)) →
      PSs (cxOf (L2.CX P w) P w K mg base N qual (defScope st) f cdv A outer s H E) (defBody st) (tS T (fun c d _ H' => E c d H') body)) : FnOk P w K mg base (L2.CX P w) (k + 1) f fd ps (spF T ps.length (runF N.length body)) := by
  have hpl : ps.length ≤ N.length := by have := congrArg List.length Sc.pre; rw [List.length_take] at this; omega
  exact F.okX Sc (fun vs H Q E h => h.1) fun cdv A outer s H vs Q E hr h => ⟨_, hb cdv A outer s H E hr, body_sound hpl h⟩
end

section
variable {X : Cx} {T : Tab} {W : WX}
def eCall (np : Nat) (m : Fn) (a : EA) : E := fun ρ st => bindR (a ρ st) fun vs st1 => if vs.length = np then m vs st1 else .bad
theorem call_sound {m : Fn} {np : Nat} {vs : List Val} {us : List V} {φ : Phi} {st : Sto} {σ : L2.St} {H : Hp} {Q : VK} (R : Rst T φ st H) (r : RelVs T φ H vs us) (p : Post T (RelV T) W φ σ H Q (if vs.length = np then m vs st else .bad)) :
    spF T np m us H Q (fun c d H' => W c d σ H') := by
  split at p
  · rename_i hn
    refine ⟨by rw [← r.length]; exact hn, φ, vs, st, R, r, ?_⟩
    cases h : m vs st with
    | ok v st' => rw [h] at p; exact p
    | ex x st' => rw [h] at p; exact p
    | bad => rw [h] at p; exact p
  · exact p.elim
/-- f(a, ..) -/
theorem e_call {k : Nat} {f : Addr} {fd : FuncData} {ps : List Str} {m : Fn} {x : Str} {p pos : Pos} {e : Expr} {es : List Expr} {as : EA} (F : FnOk X.prog X.w X.K X.mg X.base (CX X.prog X.w) k f fd ps (spF T ps.length m)) (hr : Room k X.A) (hm : X.mg x = some (.ref f))
    (hk : PySem.W.keepIn X.K (.ref f) = true) (hb : Binds X.K fd ps []) (tk : Takes X W) (ha : PA X (e :: es) (tA T W as)) (hg : Gl X x := by rfl) (hdb : (x == ("__debug__" : Str)) = false := by decide)
    (he : starEach (e :: es) X.env = (false, eval e X.env) :: starEach es X.env := by rfl) (hpl : (backTo pos (starEach es X.env)).any (·.1) = false := by rfl) :
    PE X (.Call (.Name x p) (e :: es) [] pos) (tE T W (eCall ps.length m as)) := by
  refine pe_imp (pe_callS (E := fun σ c d H' => W c d σ H') F hr hg hm hk hb (fun σ => passAt tk σ) ha hdb he hpl) fun σ H Q h => ?_
  obtain ⟨φ, ρ, st, re, pp⟩ := h
  exact ⟨φ, ρ, st, re, post_bind pp fun vs st1 φ1 H1 us eq e1 s1 q1 p1 => call_sound s1 q1 p1⟩
/-- f() -/
theorem e_call0 {k : Nat} {f : Addr} {fd : FuncData} {m : Fn} {x : Str} {p pos : Pos} {E : XK} (F : FnOk X.prog X.w X.K X.mg X.base (CX X.prog X.w) k f fd [] (spF T 0 m)) (hr : Room k X.A) (hm : X.mg x = some (.ref f))
    (hk : PySem.W.keepIn X.K (.ref f) = true) (hb : Binds X.K fd [] []) (hx : Passes (CX X.prog X.w) X E) (hW : ∀ c d H' σ, W c d σ H' → E c d H') (hg : Gl X x := by rfl) (hdb : (x == ("__debug__" : Str)) = false := by decide) :
    PE X (.Call (.Name x p) [] [] pos) (tE T W (eCall 0 m eNil)) := by
  refine pe_imp (pe_call0 (E := E) F hr hg hm hk hb .nil hx hdb) fun σ H Q h => ?_
  obtain ⟨φ, ρ, st, re, pp⟩ := h
  have q := call_sound (np := 0) re.rst .nil pp
  obtain ⟨a1, φ1, args, st1, R1, r1, p1⟩ := q
  refine ⟨a1, φ1, args, st1, R1, r1, ?_⟩
  cases hm : m args st1 with
  | ok v st' => rw [hm] at p1; exact p1
  | ex x st' => rw [hm] at p1; exact fun φ' H' c d e s q => hW c d H' σ (p1 φ' H' c d e s q)
  | bad => rw [hm] at p1; exact p1

def SndC (T : Tab) (r : List V → Hp → VK → Prop) (f : Sto → List Val → Option Val) : Prop :=
  ∀ φ st H vs us z Q, Rst T φ st H → RelVs T φ H vs us → f st vs = some z →
    (∀ H' u, Ext φ H φ H' → Rst T φ st H' → RelV T φ H' z u → Q u H') → r us H Q
def eBf (f : Sto → List Val → Option Val) (a : EA) : E := fun ρ st => bindR (a ρ st) fun vs st1 => optR (f st1 vs) st1
theorem bf_sound {r : List V → Hp → VK → Prop} {f : Sto → List Val → Option Val} (hs : SndC T r f) {a : EA} {σ : L2.St} {H : Hp} {Q : VK} (h : tE T W (eBf f a) σ H Q) : tCB r (tA T W a) σ H Q := by
  refine tG_bind h fun vs ρ st1 φ1 H1 us re1 q1 p1 => ?_
  cases hf : f st1 vs with
  | none => rw [hf] at p1; exact p1.elim
  | some z =>
    rw [hf] at p1
    exact hs φ1 st1 H1 vs us z Q re1.rst q1 hf fun H' u e s q => p1 φ1 H' u e s q
theorem e_bf {id : String} {x : Str} {r : List V → Hp → VK → Prop} {f : Sto → List Val → Option Val} {e : Expr} {es : List Expr} {as : EA} {p pos : Pos} (hc : CallR X (.builtin id) r) (hs : SndC T r f) (hv : bootBuiltins x = some (.builtin id)) (hm : X.mg x = none) (ha : PA X (e :: es) (tA T W as)) (hg : Gl X x := by rfl)
    (hn : x ≠ "__name__" := by decide) (hdb : (x == ("__debug__" : Str)) = false := by decide) (he : starEach (e :: es) X.env = (false, eval e X.env) :: starEach es X.env := by rfl) (hpl : (backTo pos (starEach es X.env)).any (·.1) = false := by rfl) :
    PE X (.Call (.Name x p) (e :: es) [] pos) (tE T W (eBf f as)) := pe_imp (pe_callB hc hg hm hv ha hn hdb he hpl) fun _ _ _ h => bf_sound hs h
theorem e_bt {id : String} {x : Str} {r : List V → Hp → VK → Prop} {f : Sto → List Val → Option Val} {e : Expr} {es : List Expr} {as : EA} {p pos : Pos} (hc : CallR X (.type id) r) (hs : SndC T r f) (hv : bootBuiltins x = some (.type id)) (hm : X.mg x = none) (ha : PA X (e :: es) (tA T W as)) (hg : Gl X x := by rfl)
    (hn : x ≠ "__name__" := by decide) (hdb : (x == ("__debug__" : Str)) = false := by decide) (he : starEach (e :: es) X.env = (false, eval e X.env) :: starEach es X.env := by rfl) (hpl : (backTo pos (starEach es X.env)).any (·.1) = false := by rfl) :
    PE X (.Call (.Name x p) (e :: es) [] pos) (tE T W (eBf f as)) := pe_imp (pe_callTy hc hg hm hv ha hn hdb he hpl) fun _ _ _ h => bf_sound hs h
end
end Ev

set_option Elab.async false
set_option linter.all false
set_option maxRecDepth 100000
set_option maxHeartbeats 2000000
namespace Ev
open PySem PySem.Spec PyProof.Rows L2
section
variable {X : Cx} {T : Tab} {W : WX}

def eNewK : E := fun _ st => .ok (.loc st.length) (st ++ [.dK []])
def eNewT : E := fun _ st => .ok (.loc st.length) (st ++ [.dT []])
theorem e_newK {pos : Pos} : PE X (.Dict [] [] pos) (tE T W eNewK) := by
  refine pe_imp pe_dnewK fun σ H Q h => ?_
  obtain ⟨φ, ρ, st, re, p⟩ := h
  intro a ha
  exact p _ _ _ (Ext.alloc re.rst ha) (re.rst.alloc ha ⟨[], upd_same, .nil⟩) (rel_loc re.rst)
theorem e_newT {pos : Pos} : PE X (.Dict [] [] pos) (tE T W eNewT) := by
  refine pe_imp pe_dnewT fun σ H Q h => ?_
  obtain ⟨φ, ρ, st, re, p⟩ := h
  intro a ha
  exact p _ _ _ (Ext.alloc re.rst ha) (re.rst.alloc ha ⟨[], upd_same, .nil⟩) (rel_loc re.rst)
def mergeV (kvs more : List (Key × Val)) : List (Key × Val) := more.foldl (fun acc kv => put acc kv.1 kv.2) kvs
theorem rel_merge {φ : Phi} {H : Hp} : ∀ {more : List (Key × Val)} {rs : List (Key × V)} {kvs : List (Key × Val)} {us : List (Key × V)}, RelF T φ H more rs → RelF T φ H kvs us → RelF T φ H (mergeV kvs more) (mergeK us rs) := by
  intro more rs kvs us r
  unfold RelF at r
  induction r generalizing kvs us with
  | nil => intro q; exact q
  | @cons p q ps qs h t ih =>
    intro r0
    have e : RelF T φ H (put kvs p.1 p.2) (putK us q.1 q.2) := by
      have := rel_put r0 p.1 h.2
      rw [← h.1]; exact this
    exact ih e
/-- the pairs of a display: the keys are written -/
abbrev EP := Env → Sto → Res (List (Key × Val))
def epNil : EP := fun _ st => .ok [] st
def epCons (k : E) (v : E) (r : EP) : EP := fun ρ st => match k ρ st with
  | .ok kk st0 => match keyOf kk with
    | some k' => match v ρ st0 with
      | .ok z st1 => match r ρ st1 with
        | .ok zs st2 => .ok ((k', z) :: zs) st2
        | _ => .bad
      | _ => .bad
    | none => .bad
  | _ => .bad
def tP (T : Tab) (W : WX) (r : EP) : L2.St → Hp → (List (V × V) → Hp → Prop) → Prop := fun σ H Q =>
  tG T (fun φ H (kvs : List (Key × Val)) (ps : List (V × V)) => ∃ us : List (Key × V), ps = us.map (fun kv => (kV kv.1, kv.2)) ∧ RelF T φ H kvs us) W r σ H Q
/-- the readings of the pairs hold as the evaluation says -/
def PRd (T : Tab) (W : WX) (trs : List (TE × TE)) (r : EP) : Prop := ∀ σ H Q, tP T W r σ H Q → tPairs trs σ H Q
theorem prd_nil : PRd T W [] epNil := fun σ H Q h => by
  obtain ⟨φ, ρ, st, re, p⟩ := h
  exact p.ok_self re.rst ⟨[], rfl, .nil⟩
theorem prd_cons {k v : E} {trs : List (TE × TE)} {r : EP} (h : PRd T W trs r) : PRd T W ((tE T W k, tE T W v) :: trs) (epCons k v r) := fun σ H Q h' => by
  obtain ⟨φ, ρ, st, re, p⟩ := h'
  refine ⟨φ, ρ, st, re, ?_⟩
  unfold epCons at p
  cases h1 : k ρ st with
  | ex x st1 => rw [h1] at p; exact p.elim
  | bad => rw [h1] at p; exact p.elim
  | ok kk st0 =>
    rw [h1] at p; dsimp only at p
    intro φ1 H1 u e1 s1 q1
    refine ⟨φ1, ρ, st0, re.ext e1 s1, ?_⟩
    cases h2 : keyOf kk with
    | none => rw [h2] at p; exact p.elim
    | some k' =>
      rw [h2] at p; dsimp only at p
      cases h3 : v ρ st0 with
      | ex x st1 => rw [h3] at p; exact p.elim
      | bad => rw [h3] at p; exact p.elim
      | ok z st1 =>
        rw [h3] at p; dsimp only at p
        intro φ2 H2 w e2 s2 q2
        refine h σ H2 _ ⟨φ2, ρ, st1, re.ext (e1.trans e2) s2, ?_⟩
        cases h4 : r ρ st1 with
        | ex x st1 => rw [h4] at p; exact p.elim
        | bad => rw [h4] at p; exact p.elim
        | ok zs st2 =>
          rw [h4] at p; dsimp only at p
          intro φ3 H3 ps e3 s3 ⟨us, eu, rf⟩
          exact p φ3 H3 _ ((e1.trans e2).trans e3) s3 ⟨(k', w) :: us, by rw [eu, rel_key q1 h2]; rfl, .cons ⟨rfl, q2.ext e3⟩ rf⟩
def eDisp (r : EP) : E := fun ρ st => match r ρ (st ++ [.dK []]) with
  | .ok kvs st1 => match st1[st.length]? with
    | some (.dK []) => if kvs.length ≤ 15 then .ok (.loc st.length) (st1.set st.length (.dK (mergeV [] kvs))) else .bad
    | _ => .bad
  | _ => .bad
theorem e_disp {pos : Pos} {keys : List (Option Expr)} {values : List Expr} {trs : List (TE × TE)} {r : EP} (h : PPs X pos keys values trs) (hr : PRd T W trs r) (hall : keys.all (·.isSome) = true := by rfl) (hl : keys.length = values.length := by rfl) (h0 : keys ≠ [] := by intro z; cases z)
    (h15 : keys.length ≤ 15 := by decide) : PE X (.Dict keys values pos) (tE T W (eDisp r)) := by
  refine pe_imp (pe_disp h hall hl h0 h15) fun σ H Q h' => ?_
  obtain ⟨φ, ρ, st, re, p⟩ := h'
  intro a ha
  have e0 := Ext.alloc (ho := .dK []) re.rst ha
  have s0 : Rst T (φ.add a) (st ++ [.dK []]) (upd H a (.dK [])) := re.rst.alloc ha ⟨[], upd_same, .nil⟩
  refine hr σ _ _ ⟨φ.add a, ρ, st ++ [.dK []], re.ext e0 s0, ?_⟩
  unfold eDisp at p
  cases h1 : r ρ (st ++ [.dK []]) with
  | ex x st1 => rw [h1] at p; exact p.elim
  | bad => rw [h1] at p; exact p.elim
  | ok kvs st1 =>
    rw [h1] at p; dsimp only at p
    split at p
    · rename_i hd
      split at p
      · rename_i h15'
        intro φ1 H1 ps e1 s1 ⟨us, eu, rf⟩
        obtain ⟨b, hb, us0, hb1, hb2⟩ := s1.at hd (by simp)
        cases hb2
        have hlen : st.length < (φ.add a).l.length := by show _ < (φ.l ++ [some a]).length; rw [List.length_append, ← re.rst.len]; simp
        have hba : b = a := by
          rcases add_get (e1.old st.length b hb hlen) with ⟨z, _⟩ | ⟨_, z⟩
          · rw [re.rst.len] at z; exact absurd z (Nat.lt_irrefl _)
          · exact z
        subst hba
        refine ⟨hb1, us, eu, by rw [← Paired.length rf]; exact h15', ?_⟩
        have e2 := Ext.write (ho := .dK (mergeK [] us)) s1 hb
        refine p φ1 _ _ ((e0.trans e1).trans e2) (s1.write hb ⟨_, upd_same, (rel_merge rf .nil).ext e2⟩) ?_
        exact .loc (by rw [s1.len]; exact (List.getElem?_eq_some_iff.mp hd).1) fun c hc => by rw [hb] at hc; cases hc; rfl
      · exact p.elim
    · exact p.elim

def fLen (st : Sto) (vs : List Val) : Option Val := match vs with
  | [.str z] => if z.length ≤ sizeLine then some (.int z.length) else none
  | [.loc n] => match st[n]? with
    | some (.lst xs) => some (.int xs.length)
    | some (.dK kvs) => some (.int kvs.length)
    | some (.dT kvs) => some (.int kvs.length)
    | _ => none
  | [v] => (seqOf st v).map fun xs => .int xs.length
  | _ => none
def rLenA (K : PySem.W.Frag) : List V → Hp → VK → Prop := fun xs H Q => (∃ x n, xs = [x] ∧ LenV K x H n ∧ Q (.int n) H) ∨ (∃ a kvs, xs = [V.ref a] ∧ H a = some (.dK kvs) ∧ Q (.int kvs.length) H) ∨ L2.rLenT xs H Q
theorem call_lenA : CallR X (.builtin "len") (rLenA X.K) := call_len.or (call_lenD.or L2.call_len_dT)
theorem snd_len : SndC T (rLenA T.K) fLen := by
  intro φ st H vs us z Q R r hf hq
  unfold fLen at hf
  split at hf
  · cases r with
    | cons a b =>
      cases b; cases a
      split at hf
      · rename_i hz
        cases hf
        exact .inl ⟨_, _, rfl, ⟨hz, rfl⟩, hq H _ Ext.refl R (.int _)⟩
      · cases hf
  · cases r with
    | cons a b =>
      cases b
      cases a with
      | loc hn hu =>
        split at hf
        · rename_i xs q
          cases hf
          obtain ⟨a, e1, us, e2, e3⟩ := R.at q (by simp)
          refine .inl ⟨_, us.length, rfl, ?_, ?_⟩
          · rw [hu a e1]; exact .inl ⟨us, SqL.of e2, rfl⟩
          · rw [← e3.length]; exact hq H _ Ext.refl R (.int _)
        · rename_i kvs q
          cases hf
          obtain ⟨a, e1, us, e2, e3⟩ := R.at q (by simp)
          refine .inr (.inl ⟨a, us, by rw [hu a e1], e2, ?_⟩)
          rw [← Paired.length e3]; exact hq H _ Ext.refl R (.int _)
        · rename_i kvs q
          cases hf
          obtain ⟨a, e1, us, e2, e3⟩ := R.at q (by simp)
          refine .inr (.inr ⟨a, us, by rw [hu a e1], e2, ?_⟩)
          rw [← Paired.length e3]; exact hq H _ Ext.refl R (.int _)
        · cases hf
  · cases r with
    | cons a b =>
      cases b
      simp only [Option.map_eq_some_iff] at hf
      obtain ⟨xs, e, rfl⟩ := hf
      obtain ⟨p, ws, rfl, hs, rv⟩ := rel_seq R a e
      refine .inl ⟨_, ws.length, rfl, ?_, by rw [← rv.length]; exact hq H _ Ext.refl R (.int _)⟩
      rcases hs with hs | hs
      · exact .inl ⟨ws, hs, rfl⟩
      · exact .inr ⟨ws, hs, rfl⟩
  · cases hf
def fTuple (st : Sto) (vs : List Val) : Option Val := match vs with
  | [v] => (seqOf st v).map .tup
  | _ => none
theorem snd_tuple : SndC T (fun xs H Q => ∃ p ys, xs = [.ref p] ∧ ((SqL T.K H p ys ∧ ∀ l, H l = none → Q (.ref l) (upd H l (.tup ys))) ∨ (SqT T.K H p ys ∧ Q (.ref p) H))) fTuple := by
  intro φ st H vs us z Q R r hf hq
  unfold fTuple at hf
  split at hf
  · cases r with
    | cons a b =>
      cases b
      simp only [Option.map_eq_some_iff] at hf
      obtain ⟨xs, e, rfl⟩ := hf
      rename_i v u
      cases hv : tupOf v with
      | some ys =>
        obtain ⟨p, ws, rfl, hs, rv⟩ := rel_tup a hv
        cases a with
        | tup h1 h2 =>
          cases hv
          cases e
          exact ⟨_, _, rfl, .inr ⟨SqT.of h1, hq H _ Ext.refl R (.tup h1 h2)⟩⟩
        | _ => cases hv
      | none =>
        have hl : lstOf st v = some xs := by
          unfold seqOf at e
          unfold lstOf
          split at e
          · rename_i h; cases e; rw [h]
          · rename_i ys h
            exfalso
            cases a with
            | tup h1 h2 => cases hv
            | loc h1 h2 =>
              unfold dr at h
              dsimp only at h
              split at h <;> cases h
            | _ => cases h
          · cases e
        obtain ⟨p, ws, rfl, hs, rv⟩ := rel_lst R a hl
        refine ⟨p, ws, rfl, .inl ⟨hs, fun l hl => ?_⟩⟩
        have ex := Ext.fresh (ho := .tup ws) R hl
        exact hq _ _ ex (R.fresh hl) (.tup upd_same (rv.ext ex))
  · cases hf
/-- a copy, a value -/
def fList (st : Sto) (vs : List Val) : Option Val := match vs with
  | [v] => (seqOf st v).map .lst
  | _ => none
theorem snd_list : SndC T (fun xs H Q => ∃ p ys, xs = [.ref p] ∧ (SqL T.K H p ys ∨ SqT T.K H p ys) ∧ ∀ l, H l = none → Q (.ref l) (upd H l (.lst ys))) fList := by
  intro φ st H vs us z Q R r hf hq
  unfold fList at hf
  split at hf
  · cases r with
    | cons a b =>
      cases b
      simp only [Option.map_eq_some_iff] at hf
      obtain ⟨xs, e, rfl⟩ := hf
      obtain ⟨p, ws, rfl, hs, rv⟩ := rel_seq R a e
      refine ⟨p, ws, rfl, hs, fun l hl => ?_⟩
      have ex := Ext.fresh (ho := .lst ws) R hl
      exact hq _ _ ex (R.fresh hl) (.lst (.inl ⟨R.nolive hl, .inl upd_same⟩) (rv.ext ex))
  · cases hf
/-- list(x), to be changed -/
def eListN (a : EA) : E := fun ρ st => bindR (a ρ st) fun vs st1 => match vs with
  | [v] => match seqOf st1 v with
    | some xs => .ok (.loc st1.length) (st1 ++ [.lst xs])
    | none => .bad
  | _ => .bad
theorem e_listN {x : Str} {e : Expr} {as : EA} {p pos : Pos} (hK : T.K = X.K) (hv : bootBuiltins x = some (.type "list")) (hm : X.mg x = none) (ha : PA X [e] (tA T W as)) (hg : Gl X x := by rfl)
    (hn : x ≠ "__name__" := by decide) (hdb : (x == ("__debug__" : Str)) = false := by decide) (he : starEach [e] X.env = (false, eval e X.env) :: starEach [] X.env := by rfl) (hpl : (backTo pos (starEach [] X.env)).any (·.1) = false := by rfl) :
    PE X (.Call (.Name x p) [e] [] pos) (tE T W (eListN as)) := by
  refine pe_imp (pe_callTy call_list_of hg hm hv ha hn hdb he hpl) fun σ H Q h => ?_
  refine tG_bind h fun vs ρ st1 φ1 H1 us re1 q1 p1 => ?_
  split at p1
  · split at p1
    · rename_i xs e
      cases q1 with
      | cons a b =>
        cases b
        obtain ⟨q, ws, rfl, hs, rv⟩ := rel_seq re1.rst a e
        refine ⟨q, ws, rfl, by rw [← hK]; exact hs, fun l hl => ?_⟩
        have ex := Ext.alloc (ho := .lst ws) re1.rst hl
        exact p1 _ _ _ ex (re1.rst.alloc hl ⟨ws, upd_same, rv.ext ex⟩) (rel_loc re1.rst)
    · exact p1.elim
  · exact p1.elim
def fSum (st : Sto) (vs : List Val) : Option Val := match vs with
  | [v] => (lstOf st v).bind fun xs => (intsOf xs).map fun ns => .int ns.sum
  | _ => none
theorem snd_sum : SndC T (rSum T.K) fSum := by
  intro φ st H vs us z Q R r hf hq
  unfold fSum at hf
  split at hf
  · cases r with
    | cons a b =>
      cases b
      simp only [Option.bind_eq_some_iff, Option.map_eq_some_iff] at hf
      obtain ⟨xs, e, ns, en, rfl⟩ := hf
      obtain ⟨p, ws, rfl, hs, rv⟩ := rel_lst R a e
      exact ⟨p, ns, rfl, by rw [← rel_ints rv en]; exact hs, hq H _ Ext.refl R (.int _)⟩
  · cases hf
def maxI : List Int → Int
  | [] => 0
  | x :: xs => xs.foldl (fun a b => if b > a then b else a) x
def minI : List Int → Int
  | [] => 0
  | x :: xs => xs.foldl (fun a b => if b < a then b else a) x
theorem foldl_max (xs : List Int) : ∀ x : Int, (xs.foldl (fun a b => if b > a then b else a) x = x ∨ xs.foldl (fun a b => if b > a then b else a) x ∈ xs) ∧ x ≤ xs.foldl (fun a b => if b > a then b else a) x ∧ ∀ y ∈ xs, y ≤ xs.foldl (fun a b => if b > a then b else a) x := by
  induction xs with
  | nil => intro x; simp
  | cons z zs ih =>
    intro x
    simp only [List.foldl_cons]
    by_cases hz : z > x
    · rw [if_pos hz]
      obtain ⟨h1, h2, h3⟩ := ih z
      generalize hm : zs.foldl (fun a b => if b > a then b else a) z = m at h1 h2 h3 ⊢
      refine ⟨?_, by omega, ?_⟩
      · rcases h1 with h1 | h1
        · right; rw [h1]; simp
        · right; simp [h1]
      · intro y hy
        rcases List.mem_cons.mp hy with rfl | hy
        · exact h2
        · exact h3 y hy
    · rw [if_neg hz]
      obtain ⟨h1, h2, h3⟩ := ih x
      generalize hm : zs.foldl (fun a b => if b > a then b else a) x = m at h1 h2 h3 ⊢
      refine ⟨?_, h2, ?_⟩
      · rcases h1 with h1 | h1
        · left; exact h1
        · right; simp [h1]
      · intro y hy
        rcases List.mem_cons.mp hy with rfl | hy
        · omega
        · exact h3 y hy
theorem foldl_min (xs : List Int) : ∀ x : Int, (xs.foldl (fun a b => if b < a then b else a) x = x ∨ xs.foldl (fun a b => if b < a then b else a) x ∈ xs) ∧ xs.foldl (fun a b => if b < a then b else a) x ≤ x ∧ ∀ y ∈ xs, xs.foldl (fun a b => if b < a then b else a) x ≤ y := by
  induction xs with
  | nil => intro x; simp
  | cons z zs ih =>
    intro x
    simp only [List.foldl_cons]
    by_cases hz : z < x
    · rw [if_pos hz]
      obtain ⟨h1, h2, h3⟩ := ih z
      generalize hm : zs.foldl (fun a b => if b < a then b else a) z = m at h1 h2 h3 ⊢
      refine ⟨?_, by omega, ?_⟩
      · rcases h1 with h1 | h1
        · right; rw [h1]; simp
        · right; simp [h1]
      · intro y hy
        rcases List.mem_cons.mp hy with rfl | hy
        · exact h2
        · exact h3 y hy
    · rw [if_neg hz]
      obtain ⟨h1, h2, h3⟩ := ih x
      generalize hm : zs.foldl (fun a b => if b < a then b else a) x = m at h1 h2 h3 ⊢
      refine ⟨?_, h2, ?_⟩
      · rcases h1 with h1 | h1
        · left; exact h1
        · right; simp [h1]
      · intro y hy
        rcases List.mem_cons.mp hy with rfl | hy
        · omega
        · exact h3 y hy
theorem maxI_is {ns : List Int} {m : Int} (h : m ∈ ns) (hm : ∀ y, y ∈ ns → y ≤ m) : m = maxI ns := by
  cases ns with
  | nil => cases h
  | cons x xs =>
    obtain ⟨h1, h2, h3⟩ := foldl_max xs x
    have a : maxI (x :: xs) ≤ m := by
      rcases h1 with h1 | h1
      · exact hm _ (by rw [maxI, h1]; simp)
      · exact hm _ (List.mem_cons_of_mem _ h1)
    have b : m ≤ maxI (x :: xs) := by
      rcases List.mem_cons.mp h with rfl | h
      · exact h2
      · exact h3 m h
    omega
theorem minI_is {ns : List Int} {m : Int} (h : m ∈ ns) (hm : ∀ y, y ∈ ns → m ≤ y) : m = minI ns := by
  cases ns with
  | nil => cases h
  | cons x xs =>
    obtain ⟨h1, h2, h3⟩ := foldl_min xs x
    have a : m ≤ minI (x :: xs) := by
      rcases h1 with h1 | h1
      · exact hm _ (by rw [minI, h1]; simp)
      · exact hm _ (List.mem_cons_of_mem _ h1)
    have b : minI (x :: xs) ≤ m := by
      rcases List.mem_cons.mp h with rfl | h
      · exact h2
      · exact h3 m h
    omega
def fMax (st : Sto) (vs : List Val) : Option Val := match vs with
  | [.int i, .int j] => some (.int (if j > i then j else i))
  | [v] => (lstOf st v).bind fun xs => (intsOf xs).bind fun ns => if 0 < ns.length then some (.int (maxI ns)) else none
  | _ => none
def fMin (st : Sto) (vs : List Val) : Option Val := match vs with
  | [.int i, .int j] => some (.int (if j < i then j else i))
  | [v] => (lstOf st v).bind fun xs => (intsOf xs).bind fun ns => if 0 < ns.length then some (.int (minI ns)) else none
  | _ => none
def rMaxA (K : PySem.W.Frag) : List V → Hp → VK → Prop := fun vs H Q => rMax K vs H Q ∨ ∃ i j, vs = [.int i, .int j] ∧ Q (.int (if j > i then j else i)) H
def rMinA (K : PySem.W.Frag) : List V → Hp → VK → Prop := fun vs H Q => rMin K vs H Q ∨ ∃ i j, vs = [.int i, .int j] ∧ Q (.int (if j < i then j else i)) H
theorem call_maxA (hc : X.calm = true) : CallR X (.builtin "max") (rMaxA X.K) := (cr_max hc).or (call_max2 hc)
theorem call_minA (hc : X.calm = true) : CallR X (.builtin "min") (rMinA X.K) := (cr_min hc).or (call_min2 hc)
theorem snd_max : SndC T (rMaxA T.K) fMax := by
  intro φ st H vs us z Q R r hf hq
  unfold fMax at hf
  split at hf
  · cases hf
    cases r with
    | cons a b =>
      cases b with
      | cons a' b' =>
        cases b'; cases a; cases a'
        exact .inr ⟨_, _, rfl, hq H _ Ext.refl R (.int _)⟩
  · cases r with
    | cons a b =>
      cases b
      simp only [Option.bind_eq_some_iff] at hf
      obtain ⟨xs, e, ns, en, hf⟩ := hf
      split at hf
      · rename_i hp
        cases hf
        obtain ⟨p, ws, rfl, hs, rv⟩ := rel_lst R a e
        exact .inl ⟨p, ns, rfl, by rw [← rel_ints rv en]; exact hs, hp, fun m h1 h2 => by rw [maxI_is h1 h2]; exact hq H _ Ext.refl R (.int _)⟩
      · cases hf
  · cases hf
theorem snd_min : SndC T (rMinA T.K) fMin := by
  intro φ st H vs us z Q R r hf hq
  unfold fMin at hf
  split at hf
  · cases hf
    cases r with
    | cons a b =>
      cases b with
      | cons a' b' =>
        cases b'; cases a; cases a'
        exact .inr ⟨_, _, rfl, hq H _ Ext.refl R (.int _)⟩
  · cases r with
    | cons a b =>
      cases b
      simp only [Option.bind_eq_some_iff] at hf
      obtain ⟨xs, e, ns, en, hf⟩ := hf
      split at hf
      · rename_i hp
        cases hf
        obtain ⟨p, ws, rfl, hs, rv⟩ := rel_lst R a e
        exact .inl ⟨p, ns, rfl, by rw [← rel_ints rv en]; exact hs, hp, fun m h1 h2 => by rw [minI_is h1 h2]; exact hq H _ Ext.refl R (.int _)⟩
      · cases hf
  · cases hf
def boolsOf : List Val → Option (List Bool)
  | [] => some []
  | .bl i :: r => (boolsOf r).map (i :: ·)
  | _ => none
theorem rel_bools {φ : Phi} {H : Hp} : ∀ {xs : List Val} {us : List V} {ns : List Bool}, RelVs T φ H xs us → boolsOf xs = some ns → us = ns.map V.bl
  | _, _, _, .nil, h => by cases h; rfl
  | _, _, _, .cons a b, h => by
    cases a with
    | bl i =>
      simp only [boolsOf, Option.map_eq_some_iff] at h
      obtain ⟨ms, e, rfl⟩ := h
      rw [rel_bools b e]; rfl
    | _ => cases h
def fAll (st : Sto) (vs : List Val) : Option Val := match vs with
  | [v] => (lstOf st v).bind fun xs => (boolsOf xs).map fun ns => .bl (ns.all id)
  | _ => none
def fAny (st : Sto) (vs : List Val) : Option Val := match vs with
  | [v] => (lstOf st v).bind fun xs => (boolsOf xs).map fun ns => .bl (ns.any id)
  | _ => none
theorem snd_all : SndC T (rAll T.K) fAll := by
  intro φ st H vs us z Q R r hf hq
  unfold fAll at hf
  split at hf
  · cases r with
    | cons a b =>
      cases b
      simp only [Option.bind_eq_some_iff, Option.map_eq_some_iff] at hf
      obtain ⟨xs, e, ns, en, rfl⟩ := hf
      obtain ⟨p, ws, rfl, hs, rv⟩ := rel_lst R a e
      exact ⟨p, ns, rfl, by rw [← rel_bools rv en]; exact hs, hq H _ Ext.refl R (.bl _)⟩
  · cases hf
theorem snd_any : SndC T (rAny T.K) fAny := by
  intro φ st H vs us z Q R r hf hq
  unfold fAny at hf
  split at hf
  · cases r with
    | cons a b =>
      cases b
      simp only [Option.bind_eq_some_iff, Option.map_eq_some_iff] at hf
      obtain ⟨xs, e, ns, en, rfl⟩ := hf
      obtain ⟨p, ws, rfl, hs, rv⟩ := rel_lst R a e
      exact ⟨p, ns, rfl, by rw [← rel_bools rv en]; exact hs, hq H _ Ext.refl R (.bl _)⟩
  · cases hf
def fInt (_ : Sto) (vs : List Val) : Option Val := match vs with
  | [.int i] => some (.int i)
  | [.bl b] => some (.int (if b then 1 else 0))
  | _ => none
theorem snd_int : SndC T (fun xs H Q => (∃ i, xs = [.int i] ∧ Q (.int i) H) ∨ ∃ k, xs = [.bl k] ∧ Q (.int (if k then 1 else 0)) H) fInt := by
  intro φ st H vs us z Q R r hf hq
  unfold fInt at hf
  split at hf
  · cases hf
    cases r with
    | cons a b =>
      cases b; cases a
      exact .inl ⟨_, rfl, hq H _ Ext.refl R (.int _)⟩
  · cases hf
    cases r with
    | cons a b =>
      cases b; cases a
      exact .inr ⟨_, rfl, hq H _ Ext.refl R (.int _)⟩
  · cases hf

/-- a method of a list of the store: f tells the answer and the list behind it -/
def eLm (f : Sto → List Val → List Val → Option (Val × List Val)) (o : E) (a : EA) : E := fun ρ st => bindR (o ρ st) fun v st1 => match v with
  | .loc n => match st1[n]? with
    | some (.lst _) => bindR (a ρ st1) fun vs st2 => match st2[n]? with
      | some (.lst xs) => match f st2 xs vs with
        | some (z, ys) => .ok z (st2.set n (.lst ys))
        | none => .bad
      | _ => .bad
    | _ => .bad
  | _ => .bad
def SndM (T : Tab) (r : V → List V → Hp → VK → Prop) (f : Sto → List Val → List Val → Option (Val × List Val)) : Prop :=
  ∀ φ st H xs us vs ws z ys l Q, Rst T φ st H → H l = some (.lst us) → RelVs T φ H xs us → RelVs T φ H vs ws → f st xs vs = some (z, ys) →
    (∀ us', (∀ H', ExtV φ H φ H' → RelVs T φ H' ys us') → ∀ u, (∀ H', ExtV φ H φ H' → RelV T φ H' z u) → Q u (upd H l (.lst us'))) → r (.ref l) ws H Q
theorem lm_sound {r : V → List V → Hp → VK → Prop} {f : Sto → List Val → List Val → Option (Val × List Val)} {eo : E} {as : EA} {K : PySem.W.Frag} (hs : SndM T r f) {σ : L2.St} {H : Hp} {Q : VK} (h : tE T W (eLm f eo as) σ H Q) :
    tE T W eo σ H fun x H1 => tyV K "list" x H1 ∧ tA T W as σ H1 fun xs H2 => r x xs H2 Q := by
  refine tG_bind h fun v ρ st1 φ1 H1 u re1 q1 p1 => ?_
  split at p1
  · split at p1
    · rename_i n _ xs0 hx0
      cases q1 with
      | loc hn hu =>
        obtain ⟨a, e1, us0, e2, e3⟩ := re1.rst.at hx0 (by simp)
        have hua := hu a e1
        subst hua
        refine ⟨.inl ⟨rfl, us0, SqL.of e2⟩, φ1, ρ, st1, re1, post_bind p1 fun vs st2 φ2 H2 ws _ e4 s2 q2 p2 => ?_⟩
        split at p2
        · rename_i xs hx
          split at p2
          · rename_i z ys hf
            obtain ⟨b, e5, us, e6, e7⟩ := s2.at hx (by simp)
            have hab : b = a := by
              have := e4.old n b e5 hn
              rw [e1] at this; cases this; rfl
            subst hab
            refine hs φ2 st2 H2 xs us vs ws z ys b Q s2 e6 e7 q2 hf fun us' r1 u r2 => ?_
            have ex := Ext.write (ho := .lst us') s2 e5
            exact p2 φ2 _ u ex (s2.write e5 ⟨us', upd_same, r1 _ ex.v⟩) (r2 _ ex.v)
          · exact p2.elim
        · exact p2.elim
    · exact p1.elim
  · exact p1.elim
theorem e_lm {id : String} {name : Str} {r : V → List V → Hp → VK → Prop} {f : Sto → List Val → List Val → Option (Val × List Val)} {o e : Expr} {es : List Expr} {eo : E} {as : EA} {apos cpos : Pos} (slot : Slot "list" name id) (hty : typeOf (.builtin id) = pure (.type "method_descriptor")) (hm : MtR X id r) (hs : SndM T r f)
    (ho : PE X o (tE T W eo)) (ha : PA X (e :: es) (tA T W as)) (hbase : attributeBase o name X.env (eval o X.env) = eval o X.env := by rfl)
    (hfew : ((backTo cpos (starEach (e :: es) X.env)).all (fun x => !x.1) && (backToKw cpos (keywordEach [] X.env)).all (fun x => x.1.isSome)
      && decide ((e :: es).length + ([] : List Keyword).length + (if ([] : List Keyword).isEmpty then 0 else 1) < 30)) = true := by rfl)
    (hline : (apos.endLine == cpos.line) = true := by rfl) (hst : starEach (e :: es) X.env = (false, eval e X.env) :: starEach es X.env := by rfl) (hplain : (backTo cpos (starEach es X.env)).any (·.1) = false := by rfl) :
    PE X (.Call (.Attribute o name apos) (e :: es) [] cpos) (tE T W (eLm f eo as)) :=
  pe_imp (pe_bm PySem.F.plainAttrs_list slot hty hm ho ha hbase hfew hline hst hplain) fun _ _ _ h => lm_sound hs h
theorem e_lm0 {id : String} {name : Str} {r : V → List V → Hp → VK → Prop} {f : Sto → List Val → List Val → Option (Val × List Val)} {o : Expr} {eo : E} {apos cpos : Pos} (slot : Slot "list" name id) (hty : typeOf (.builtin id) = pure (.type "method_descriptor")) (hm : MtR X id r) (hs : SndM T r f)
    (ho : PE X o (tE T W eo)) (hbase : attributeBase o name X.env (eval o X.env) = eval o X.env := by rfl) (hline : (apos.endLine == cpos.line) = true := by rfl) :
    PE X (.Call (.Attribute o name apos) [] [] cpos) (tE T W (eLm f eo eNil)) :=
  pe_imp (pe_bm0 PySem.F.plainAttrs_list slot hty hm ho hbase hline) fun _ _ _ h => by
    refine tG_mono (lm_sound (K := X.K) hs h) fun u H1 ⟨ty, φ, ρ, st, re, p⟩ => ⟨ty, ?_⟩
    exact p.ok_self re.rst .nil
def fAppend (_ : Sto) (xs vs : List Val) : Option (Val × List Val) := match vs with
  | [w] => if xs.length < sizeLine then some (.non, xs ++ [w]) else none
  | _ => none
theorem snd_append : SndM T rAppend fAppend := by
  intro φ st H xs us vs ws z ys l Q R h1 h2 h3 hf hq
  unfold fAppend at hf
  split at hf
  · split at hf
    · rename_i hz
      cases hf
      cases h3 with
      | cons a b =>
        cases b
        exact ⟨l, us, _, rfl, rfl, h1, by rw [← h2.length]; exact hz, hq _ (fun H' e => (h2.extV e).append (.cons (a.extV e) .nil)) _ fun _ _ => .non⟩
    · cases hf
  · cases hf
theorem e_append {o e : Expr} {eo : E} {as : EA} {apos cpos : Pos} (ho : PE X o (tE T W eo)) (ha : PA X [e] (tA T W as)) (hbase : attributeBase o "append" X.env (eval o X.env) = eval o X.env := by rfl)
    (hfew : ((backTo cpos (starEach [e] X.env)).all (fun x => !x.1) && (backToKw cpos (keywordEach [] X.env)).all (fun x => x.1.isSome)
      && decide (([e] : List Expr).length + ([] : List Keyword).length + (if ([] : List Keyword).isEmpty then 0 else 1) < 30)) = true := by rfl)
    (hline : (apos.endLine == cpos.line) = true := by rfl) (hst : starEach [e] X.env = (false, eval e X.env) :: starEach [] X.env := by rfl) (hplain : (backTo cpos (starEach [] X.env)).any (·.1) = false := by rfl) :
    PE X (.Call (.Attribute o "append" apos) [e] [] cpos) (tE T W (eLm fAppend eo as)) :=
  e_lm PySem.F.slot_list_append PySem.F.type_list_append mt_append snd_append ho ha hbase hfew hline hst hplain
def fPop (_ : Sto) (xs vs : List Val) : Option (Val × List Val) := match vs with
  | [] => (xs[xs.length - 1]?).map fun y => (y, xs.dropLast)
  | _ => none
theorem snd_pop : SndM T rPop fPop := by
  intro φ st H xs us vs ws z ys l Q R h1 h2 h3 hf hq
  unfold fPop at hf
  split at hf
  · simp only [Option.map_eq_some_iff] at hf
    obtain ⟨y, e, hh⟩ := hf
    cases hh
    cases h3
    obtain ⟨u, hu, ru⟩ := h2.get e
    exact ⟨l, us, u, rfl, rfl, h1, by rw [← h2.length]; exact hu, hq _ (fun H' e => (h2.extV e).dropLast) u fun H' e => ru.extV e⟩
  · cases hf
theorem e_pop {o : Expr} {eo : E} {apos cpos : Pos} (ho : PE X o (tE T W eo)) (hbase : attributeBase o "pop" X.env (eval o X.env) = eval o X.env := by rfl) (hline : (apos.endLine == cpos.line) = true := by rfl) :
    PE X (.Call (.Attribute o "pop" apos) [] [] cpos) (tE T W (eLm fPop eo eNil)) :=
  e_lm0 PySem.F.slot_list_pop PySem.F.type_list_pop mt_pop snd_pop ho hbase hline
end
end Ev

set_option Elab.async false
set_option linter.all false
set_option maxRecDepth 100000
set_option maxHeartbeats 2000000
namespace Ev
open PySem PySem.Spec PyProof.Rows L2
structure FnG (P : Program) (w : World) (K : PySem.W.Frag) (mg : Str → Option Value) (base : Heap) (k : Nat) (f : Addr) (fd : FuncData) (ps : List Str) (sp : Sp) : Prop where
  len : ∀ vs H Q E, sp vs H Q E → vs.length = ps.length
  run : ∀ (A : Around) (outer : List PySem.Env) (s : Shared) (H : Hp) (args : Args) (us : List Value) (vs : List V) (Q : VK) (E : XK), Room k A → A.guards = some [] → Env0 P w K mg base A outer s H → BindsTo s fd args (ps.zip us) → Vals vs us → sp vs H Q E →
    codeAny (model P w) A (.call (.ref f) args) (CR (L2.CX P w) outer P w H s Q E) s
section
variable {P : Program} {w : World} {K : PySem.W.Frag} {mg mb : Str → Option Value} {base : Heap} {k : Nat} {f : Addr} {fd : FuncData} {ps : List Str} {sp : Sp}
theorem FnG.mono {j : Nat} (F : FnG P w K mg base j f fd ps sp) (h : j ≤ k) : FnG P w K mg base k f fd ps sp :=
  ⟨F.len, fun A outer s H args us vs Q E hr hg => F.run A outer s H args us vs Q E (hr.mono h) hg⟩
theorem fnG_of {x qual : Str} {params : Arguments} {body : List Stmt} {scope : Scope} {dvs : List V} {kws : List (Str × V)} {N : List Str} (F : FunD K x qual params body scope dvs kws f fd) (S : FnScope N ps scope)
    (len : ∀ vs H Q E, sp vs H Q E → vs.length = ps.length)
    (hbody : ∀ (cdv : Value) (A : Around) (outer : List PySem.Env) (s : Shared) (H : Hp) (vs : List V) (Q : VK) (E : XK), Room k (A.deeper (envOfC qual scope s.heap.objs.size f cdv)) → A.guards = some [] → sp vs H Q E →
      ∃ t, PSs (cxOf (L2.CX P w) P w K mg base N qual scope f cdv A outer s H E) body t ∧ t { nx := fun _ H' => Q .non H', rt := Q } (start N vs) H) : FnG P w K mg base (k + 1) f fd ps sp := by
  obtain ⟨oc, od, dV, kV, doc, pm, an, cdv, ct, osl, rfl, lk, hcd, _, _⟩ := F.ex
  refine ⟨len, fun A outer s H args us vs Q E hr hg e0 hb r hsp => ?_⟩
  have sub : ∀ b o, base.get? b = some o → s.heap.get? b = some o := fun b o e => (e0.bs b o e).1
  have KX : K.In s.heap := e0.mod.kin.keeps sub
  have kinds : ∀ y ∈ ps.zip us, scope.names.lookup y.1 = some .local ∨ (scope.names.lookup y.1 = some .cell ∧ ((cellsFrom (s.heap.objs.size + 1) scope.names []).lookup y.1).isSome = true) := fun ⟨n, v⟩ hy =>
    (S.par n (List.of_mem_zip hy).1).imp id fun q => ⟨q, PySem.W.cellsFrom_some _ _ _ (.inl q)⟩
  refine codeAny_call_function hr.depth (KX _ _ lk) rfl S.co S.gen rfl (PySem.W.codeRec_of KX hcd) (hb _ _ _ _ ?_)
  refine wpAny_newFunctionEnv_cells S.kind kinds fun env he s1 x => ?_
  subst he
  refine ⟨(e0.mod.nolimit.keeps sub).keeps x.toInCall.keep, codeAny_func ?_⟩
  obtain ⟨t, ht, hq⟩ := hbody cdv A outer s H vs Q E (hr.deeper _) hg hsp
  refine wpAny_mono (ht.run [] s1 (start N vs) H _ (inv_start S hr.hd e0 (len _ _ _ _ hsp) r x) hq) (fun fl s' hs => ?_) fun e s' hs => hs
  cases fl with
  | ret u =>
    obtain ⟨v, σ', H', J, rv, q⟩ := hs
    exact ⟨v, H', J.os, J.bare, J.base, J.hok, rv, q⟩
  | next =>
    obtain ⟨σ', H', J, q⟩ := hs
    exact ⟨V.non, H', J.os, J.bare, J.base, J.hok, rfl, q⟩
  | brk =>
    obtain ⟨_, _, _, q⟩ := hs
    exact q.elim
  | cont =>
    obtain ⟨_, _, _, q⟩ := hs
    exact q.elim
/-- a call of such a def -/
theorem run_fnG {X : Cx} {E : L2.St → XK} {pins : List (Addr × Obj)} {σ : L2.St} {H : Hp} {s : Shared} {Q : VK} {args : Args} {us : List Value} {vs : List V} (F : FnG X.prog X.w X.K X.mg X.base k f fd ps sp) (hr : Room k X.A) (hg : X.A.guards = some []) (hx : PassesAt (L2.CX X.prog X.w) X σ (E σ))
    (I : Inv X pins σ H s) (hb : BindsTo s fd args (ps.zip us)) (r : Vals vs us) (h : sp vs H Q (E σ)) : wpAny (model X.prog X.w) X.A (call (.ref f) args.pos args.kw) (L2.EP X pins σ Q) X.xe s := by
  refine wpAny_call (codeAny_mono (F.run X.A X.stack s H args us vs Q (E σ) hr hg I.env0 hb r h) fun r s' hq => ?_)
  cases r with
  | error e => exact hx pins H s e s' I hq
  | ok fl =>
    cases fl with
    | ret u => exact I.after hq
    | next => exact hq.elim
    | brk => exact hq.elim
    | cont => exact hq.elim
end
/-- the law's def, called on the script -/
theorem law_callG {P : Program} {w : World} {K : PySem.W.Frag} {mg mb : Str → Option Value} {k : Nat} {fa a : Addr} {fd : FuncData} {x : Str} {sp : Sp} {s₁ : Shared} {vs : List Value} {ns : List Int}
    (KX : K.In s₁.heap) (hns : s₁.heap.Ns mainGlobals mg) (hb : s₁.heap.Ns builtinsNs mb) (hbb : ∀ x : Str, x ≠ "__name__" → mb x = bootBuiltins x) (hlim : s₁.heap.NoLimit) (hg : s₁.gens = #[])
    (ha : s₁.heap.get? a = some { cls := .type "list", data := .seq vs.toArray }) (hi : IntsAre vs ns) (hl : ns.length ≤ sizeLine) (hr : Room k callerA)
    (F : ∀ base : Heap, K.In base → base.Ns mainGlobals mg → FnG P w K mg base k fa fd [x] sp) (hbind : ∀ (s : Shared) (u : Value), BindsTo s fd ⟨[u], []⟩ [(x, u)])
    (hsp : ∀ H : Hp, Only H → SqL K H a (ns.map V.int) → sp [.ref a] H (fun v _ => v = .bl true) fun _ _ _ => False) :
    codeAny (model P w) callerA (.call (.ref fa) ⟨[.ref a], []⟩) (fun r s' => r = .ok (.ret (.bool true)) ∧ OldK s₁.heap s'.heap ∧ s'.os = s₁.os ∧ AllBare s'.gens) s₁ := by
  have rv := vals_ints hi
  have lenV := hi.length
  -- H tracks at most the script
  have from_ : ∀ H : Hp, Only H → SqL K H a (ns.map V.int) → HOk P w H s₁.heap → (∀ b, H b ≠ none → b = a ∧ K.lookup a = none) →
      codeAny (model P w) callerA (.call (.ref fa) ⟨[.ref a], []⟩) (fun r s' => r = .ok (.ret (.bool true)) ∧ OldK s₁.heap s'.heap ∧ s'.os = s₁.os ∧ AllBare s'.gens) s₁ := by
    intro H hO hS hok hA
    have low : ∀ {b : Addr} {o : Obj}, s₁.heap.get? b = some o → H b = none → (hidT s₁.heap H).get? b = some o := fun e n => hidT_get e n
    have dicts : ∀ {b : Addr} {o : Obj} {es : Array DictEntry} {ep : Nat}, s₁.heap.get? b = some o → o.data = .dict es ep → H b = none := fun {b o es ep} e d => Classical.byContradiction fun n => by
      have z := (hA b n).1
      subst z
      rw [ha] at e
      cases e
      cases (show Data.seq vs.toArray _ = Data.dict es ep from d)
    have spaces : ∀ {b : Addr} {m : Str → Option Value}, s₁.heap.Ns b m → (hidT s₁.heap H).Ns b m := fun {b m} ⟨o, es, ep, e, d, r⟩ => ⟨o, es, ep, low e (dicts e d), d, r⟩
    have hKb : K.In (hidT s₁.heap H) := fun b o e => low (KX b o e) (Classical.byContradiction fun n => by
      obtain ⟨z, q⟩ := hA b n
      subst z
      rw [q] at e
      cases e)
    have hM : Mod K mg (hidT s₁.heap H) := ⟨hKb, spaces hns, ⟨mb, spaces hb, hbb⟩, let ⟨mc, h1, h2⟩ := hlim; ⟨mc, spaces h1, h2⟩⟩
    have e0 : Env0 P w K mg (hidT s₁.heap H) callerA [] s₁ H := ⟨rfl, hM, fun b o e => of_hidT e, Nat.le_of_eq (hidT_size _ _), trivial, fun b hb => absurd hb List.not_mem_nil, hok, .of_eq hg⟩
    refine codeAny_mono ((F _ hKb (spaces hns)).run callerA [] s₁ H ⟨[.ref a], []⟩ [.ref a] [.ref a] _ _ hr rfl e0 (hbind s₁ (.ref a)) (.cons rfl .nil) (hsp H hO hS)) fun r s' h => ?_
    cases r with
    | error e =>
      obtain ⟨_, _, _, _, _, _, _, _, _, _, _, _, z⟩ := h
      exact z.elim
    | ok fl =>
      cases fl with
      | next => exact h.elim
      | brk => exact h.elim
      | cont => exact h.elim
      | ret u =>
        obtain ⟨v, H', os, bare, un, hok', r', q⟩ := h
        cases (show v = .bl true from q)
        cases (show u = Value.bool true from r')
        refine ⟨rfl, OldK.of_keep fun b o e => ?_, os, bare⟩
        rcases hO b with z | ⟨ob, xs, z⟩
        · exact un.keep b o e z List.not_mem_nil List.not_mem_nil
        · obtain ⟨e1, _⟩ := hok b _ z
          obtain ⟨e2, _⟩ := hok' b _ (un.frzs b ob _ z)
          rw [e] at e1
          cases e1
          exact e2
  cases hk : K.lookup a with
  | some o =>
    have e := KX a o hk
    rw [ha] at e
    cases e
    exact from_ (fun _ => none) (fun _ => .inl rfl) (.inr ⟨_, vs.toArray, _, hk, rfl, rfl, rfl, by rw [List.size_toArray, lenV]; exact hl, rv⟩) (fun b u z => nomatch (show (none : Option HO) = some u from z)) fun b z => absurd rfl z
  | none =>
    have at_ : ∀ b u, (if b = a then some (HO.frz { cls := .type "list", data := .seq vs.toArray } (.lst (ns.map V.int))) else none) = some u → b = a ∧ u = .frz { cls := .type "list", data := .seq vs.toArray } (.lst (ns.map V.int)) := fun b u z => by
      by_cases hb : b = a
      · rw [if_pos hb] at z; exact ⟨hb, (Option.some.inj z).symm⟩
      · rw [if_neg hb] at z; cases z
    refine from_ (fun b => if b = a then some (.frz { cls := .type "list", data := .seq vs.toArray } (.lst (ns.map V.int))) else none) (fun b => ?_) (.inl (.inr ⟨{ cls := .type "list", data := .seq vs.toArray }, if_pos rfl⟩)) (fun b u z => ?_) fun b z => ?_
    · by_cases hb : b = a
      · exact .inr ⟨_, _, if_pos hb⟩
      · exact .inl (if_neg hb)
    · obtain ⟨rfl, rfl⟩ := at_ b u z
      exact ⟨ha, by rw [List.length_map]; exact hl, vs, _, rv, ha⟩
    · exact ⟨Classical.byContradiction fun hb => z (if_neg hb), hk⟩
theorem walk_ofG {l : PySem.W.OpenLaw} {n k : Nat} {q : Program} {loose : List Str} {XP : (Str → Option Value) → Heap → Prop} {YP : World → Heap → Prop} {d : DefRec} {x : Str}
    (hn : l.most = some n) (hn2 : n ≤ sizeLine) (hdf : d.params.defaults = []) (hr : Room k callerA)
    (F : ∀ (w : World) (mg : Str → Option Value) (fa : Addr) (h : Heap), YP w h → h.Ns mainGlobals mg → mg d.name = some (.ref fa) →
      ∃ (K : PySem.W.Frag) (fd : FuncData) (sp : Sp), K.In h ∧ (∀ (s : Shared) (u : Value), BindsTo s fd ⟨[u], []⟩ [(x, u)]) ∧
        (∀ (H : Hp) (a : Addr) (ns : List Int), ns.length ≤ n → Only H → SqL K H a (ns.map V.int) → sp [.ref a] H (fun v _ => v = .bl true) fun _ _ _ => False) ∧
        ∀ base : Heap, K.In base → base.Ns mainGlobals mg → FnG l.prog w K mg base k fa fd [x] sp) :
    PySem.W.WalkO q loose XP YP l.row.toRowW d [] (fun f vs => PySem.call f vs) := by
  refine Att.attach_call hn hdf fun w s₀ s₁ mg mb fa o pm cd doc a vs ns G Y ho hd hcd hmg hobj hints hlen hg => ?_
  obtain ⟨K, fd, sp, KX, hb, hsp, hF⟩ := F w mg fa _ Y G.T.g hmg
  exact law_callG KX G.T.g G.T.b G.T.builtins G.T.nolimit hg hobj hints (Nat.le_trans hlen hn2) hr hF hb fun H hO hS => hsp H a ns hlen hO hS
end Ev

set_option Elab.async false
set_option linter.all false
set_option maxRecDepth 100000
set_option maxHeartbeats 2000000
namespace Ev
open PySem PySem.Spec PyProof.Rows L2
/-- the values put in the parameters' order -/
def permL {α : Type} (perm : List Nat) (xs : List α) : List α := perm.filterMap fun i => xs[i]?
def KwOk (x : Str) (st : Stmt) (ps ks : List Str) (perm : List Nat) : Prop := ∀ (kV doc pm : Value) (an : Option Addr) (cdv ct : Value) (ws : List Value), ws.length = ks.length → bindArgs (PySem.W.fnOf x x (defArgs st) (defBody st) (defScope st) .none kV doc pm an cdv ct) ⟨[], ks.zip ws⟩ = pure (ps.zip (permL perm ws))
theorem permL_paired {α β : Type} {R : α → β → Prop} {xs : List α} {ys : List β} (h : Paired R xs ys) : ∀ perm : List Nat, Paired R (permL perm xs) (permL perm ys)
  | [] => .nil
  | i :: perm => by
    have ih := permL_paired h perm
    unfold permL at ih ⊢
    rw [List.filterMap_cons, List.filterMap_cons]
    have g : (xs[i]? = none ∧ ys[i]? = none) ∨ ∃ a b, xs[i]? = some a ∧ ys[i]? = some b ∧ R a b := by
      clear ih
      induction h generalizing i with
      | nil => exact .inl ⟨rfl, rfl⟩
      | cons a _ ih =>
        cases i with
        | zero => exact .inr ⟨_, _, rfl, rfl, a⟩
        | succ i => exact ih i
    rcases g with ⟨e1, e2⟩ | ⟨a, b, e1, e2, r⟩
    · rw [e1, e2]; exact ih
    · rw [e1, e2]; exact .cons r ih
theorem relVs_paired {T : Tab} {φ : Phi} {H : Hp} : ∀ {xs : List Val} {us : List V}, RelVs T φ H xs us → Paired (RelV T φ H) xs us
  | _, _, .nil => .nil
  | _, _, .cons a b => .cons a (relVs_paired b)
theorem relVs_of {T : Tab} {φ : Phi} {H : Hp} : ∀ {xs : List Val} {us : List V}, Paired (RelV T φ H) xs us → RelVs T φ H xs us
  | _, _, .nil => .nil
  | _, _, .cons a b => .cons a (relVs_of b)
structure FnAt (P : Program) (w : World) (K : PySem.W.Frag) (mg : Str → Option Value) (base : Heap) (T : Tab) (k : Nat) (x : Str) (s : Stmt) (ps : List Str) (m : Fn) : Prop where
  ex : ∃ f fd, mg x = some (.ref f) ∧ PySem.W.keepIn K (.ref f) = true ∧ Binds K fd ps [] ∧ FnG P w K mg base k f fd ps (spF T ps.length m) ∧
    ∀ ks perm, KwOk x s ps ks perm → ∀ (sh : Shared) (ws : List Value), ws.length = ks.length → BindsTo sh fd ⟨[], ks.zip ws⟩ (ps.zip (permL perm ws))
structure Cnd (fa : List He.Fa) (fn : List He.DefD) (ex : PySem.W.Frag → Bool) (K : PySem.W.Frag) (mg : Str → Option Value) : Prop where
  c : He.SaysD fa fn K
  hh : ∃ h : Heap, K.In h ∧ h.Ns mainGlobals mg
  m : ex K = true
section
variable {fa : List He.Fa} {fn : List He.DefD} {ex : PySem.W.Frag → Bool} {K : PySem.W.Frag} {mg : Str → Option Value}
theorem Cnd.glo (Z : Cnd fa fn ex K mg) {x : Str} (i : Nat) (h : fa[i]? = some (.glo x) := by rfl) : mg x = some (.ref (He.ga K x)) := by
  obtain ⟨hp, X, G⟩ := Z.hh
  exact He.glo_ok X G (Z.c.fact i h)
theorem Cnd.free (Z : Cnd fa fn ex K mg) {x : Str} (i : Nat) (h : fa[i]? = some (.free x) := by rfl) : mg x = none := by
  obtain ⟨hp, X, G⟩ := Z.hh
  exact He.free_ok X G (Z.c.fact i h)
theorem Cnd.int (Z : Cnd fa fn ex K mg) {x : Str} {n : Int} (i : Nat) (h : fa[i]? = some (.int x n) := by rfl) : ∃ t, mg x = some (.int n t) := by
  obtain ⟨hp, X, G⟩ := Z.hh
  exact He.int_ok X G (Z.c.fact i h)
theorem Cnd.str (Z : Cnd fa fn ex K mg) {x z : Str} (i : Nat) (h : fa[i]? = some (.str x z) := by rfl) : ∃ t, mg x = some (.str z t) := by
  obtain ⟨hp, X, G⟩ := Z.hh
  exact He.str_ok X G (Z.c.fact i h)
abbrev dOf (x : Str) (st : Stmt) : He.DefD := ⟨(x, none), x, x, defArgs st, defBody st, defScope st, [], []⟩
def BindOk (x : Str) (st : Stmt) (ps : List Str) : Prop := ∀ (kV doc pm : Value) (an : Option Addr) (cdv ct : Value) (us : List Value), us.length = ps.length → bindArgs (PySem.W.fnOf x x (defArgs st) (defBody st) (defScope st) .none kV doc pm an cdv ct) ⟨us, []⟩ = pure (ps.zip us)
theorem fnAt_of {P : Program} {w : World} {base : Heap} {T : Tab} (Z : Cnd fa fn ex K mg) {x : Str} {st : Stmt} {N ps : List Str} {k n : Nat} {body : S} {m : Fn} (Sc : FnScope N ps (defScope st)) (i j : Nat) 
    (hb : BindOk x st ps) (hm : IsRun n body m)
    (h : ∀ (cdv : Value) (A : Around) (outer : List PySem.Env) (s : Shared) (H : Hp) (E : XK), Room k (A.deeper (envOfC x (defScope st) s.heap.objs.size (He.ga K x) cdv)) → A.guards = some [] →
      Takes (cxOf (L2.CX P w) P w K mg base N x (defScope st) (He.ga K x) cdv A outer s H E) (fun c d _ H' => E c d H') →
      PassesOwn (model P w) (cxOf (L2.CX P w) P w K mg base N x (defScope st) (He.ga K x) cdv A outer s H E).A (cxOf (L2.CX P w) P w K mg base N x (defScope st) (He.ga K x) cdv A outer s H E).env (cxOf (L2.CX P w) P w K mg base N x (defScope st) (He.ga K x) cdv A outer s H E).xe →
      PSs (cxOf (L2.CX P w) P w K mg base N x (defScope st) (He.ga K x) cdv A outer s H E) (defBody st) (tS T (fun c d _ H' => E c d H') body))
    (hi : fa[i]? = some (.glo x) := by rfl) (hj : fn[j]? = some (dOf x st) := by rfl) (hn : N.length = n := by rfl) :
    FnAt P w K mg base T (k + 1) x st ps m := by
  subst hn
  obtain ⟨fd, F⟩ := Z.c.def_ j hj
  have hpl : ps.length ≤ N.length := by have := congrArg List.length Sc.pre; rw [List.length_take] at this; omega
  refine ⟨He.ga K x, fd, Z.glo i hi, F.kp, F.bindsN hb, ?_, ?_⟩
  rotate_left
  · obtain ⟨oc, od, dV, kV, doc, pm, an, cdv, ct, osl, rfl, lk, hcd, hD, hK⟩ := F.ex
    rcases hD with ⟨_, rfl⟩ | ⟨e, _⟩
    · exact fun ks perm hk sh ws hl => .of_eq (hk kV doc pm an cdv ct ws hl)
    · exact absurd rfl e
  exact fnG_of F Sc (fun vs H Q E h => h.1) fun cdv A outer s H vs Q E hr hg hsp => ⟨_, h cdv A outer s H E hr hg (takes_of rfl rfl rfl rfl) (passes_of rfl), body_soundR hm hpl hsp⟩
/-- the law's def -/
theorem lawAt_of {P : Program} {w : World} {T : Tab} (Z : Cnd fa fn ex K mg) {x p : Str} {st : Stmt} {N : List Str} {k n : Nat} {body : S} {m : Fn} (Sc : FnScope N [p] (defScope st)) (j : Nat)
    (hb : BindOk x st [p]) (hm : IsRun n body m)
    (h : ∀ (base : Heap) (cdv : Value) (A : Around) (outer : List PySem.Env) (s : Shared) (H : Hp) (E : XK), Room k (A.deeper (envOfC x (defScope st) s.heap.objs.size (He.ga K x) cdv)) → A.guards = some [] →
      Takes (cxOf (L2.CX P w) P w K mg base N x (defScope st) (He.ga K x) cdv A outer s H E) (fun c d _ H' => E c d H') →
      PassesOwn (model P w) (cxOf (L2.CX P w) P w K mg base N x (defScope st) (He.ga K x) cdv A outer s H E).A (cxOf (L2.CX P w) P w K mg base N x (defScope st) (He.ga K x) cdv A outer s H E).env (cxOf (L2.CX P w) P w K mg base N x (defScope st) (He.ga K x) cdv A outer s H E).xe →
      PSs (cxOf (L2.CX P w) P w K mg base N x (defScope st) (He.ga K x) cdv A outer s H E) (defBody st) (tS T (fun c d _ H' => E c d H') body))
    (hj : fn[j]? = some (dOf x st) := by rfl) (hn : N.length = n := by rfl) :
    ∃ fd : FuncData, (∀ (s : Shared) (u : Value), BindsTo s fd ⟨[u], []⟩ [(p, u)]) ∧ ∀ base : Heap, FnG P w K mg base (k + 1) (He.ga K x) fd [p] (spF T 1 m) := by
  subst hn
  obtain ⟨fd, F⟩ := Z.c.def_ j hj
  have hpl : 1 ≤ N.length := by have := congrArg List.length Sc.pre; rw [List.length_take] at this; simp at this; omega
  refine ⟨fd, fun s u => F.bindsA (ps := [p]) hb s [u] rfl, fun base => ?_⟩
  exact fnG_of F Sc (fun vs H Q E h => h.1) fun cdv A outer s H vs Q E hr hg hsp => ⟨_, h base cdv A outer s H E hr hg (takes_of rfl rfl rfl rfl) (passes_of rfl), body_soundR hm hpl hsp⟩
/-- what the law's def answers is what its meaning answers -/
theorem law_sp {T : Tab} {m : Fn} {a : Addr} {ns : List Int} {H : Hp} (hS : SqL T.K H a (ns.map V.int)) (h : ∃ st, m [.lst (ns.map .int)] [] = .ok (.bl true) st) : spF T 1 m [.ref a] H (fun v _ => v = .bl true) fun _ _ _ => False := by
  obtain ⟨st, h⟩ := h
  refine ⟨rfl, ⟨[], []⟩, [.lst (ns.map .int)], [], ?_, ?_, ?_⟩
  · refine ⟨rfl, fun n m a h => ?_, fun n o h => ?_, fun a h => absurd h List.not_mem_nil, fun n a h => ?_⟩
    · exact absurd h (by simp)
    · exact absurd h (by simp)
    · exact absurd h (by simp)
  · have intsR : ∀ ns : List Int, RelVs T ⟨[], []⟩ H (ns.map Val.int) (ns.map V.int) := fun ns => by
      induction ns with
      | nil => exact .nil
      | cons n ns ih => exact .cons (.int n) ih
    refine .cons (.lst (us := ns.map V.int) ?_ (intsR ns)) .nil
    rcases hS with z | z
    · refine .inl ⟨?_, z⟩
      rintro (⟨n, hn⟩ | hn)
      · exact absurd hn (by simp)
      · exact absurd hn List.not_mem_nil
    · exact .inr z
  · rw [h]
    intro φ' H' u e s q
    cases q
    rfl
end
section
variable {X : Cx} {T : Tab} {W : WX}
theorem takesB : Takes X W0 := fun u s' ⟨a, B, sI, pins, σ, H, cls, d, e, I, nb, up, sky, na, os, ag, w⟩ => w.elim
theorem e_callF {k j : Nat} {ps : List Str} {m : Fn} {x : Str} {p pos : Pos} {e : Expr} {es : List Expr} {as : EA} {sx : Stmt} (F : FnAt X.prog X.w X.K X.mg X.base T j x sx ps m) (hr : Room k X.A) (hgd : X.A.guards = some []) (tk : Takes X W) (ha : PA X (e :: es) (tA T W as)) (hjk : j ≤ k := by decide) (hg : Gl X x := by rfl) (hdb : (x == ("__debug__" : Str)) = false := by decide)
    (he : starEach (e :: es) X.env = (false, eval e X.env) :: starEach es X.env := by rfl) (hpl : (backTo pos (starEach es X.env)).any (·.1) = false := by rfl) :
    PE X (.Call (.Name x p) (e :: es) [] pos) (tE T W (eCall ps.length m as)) := by
  obtain ⟨f, fd, hm, hk, hb, F, _⟩ := F.ex
  refine ⟨fun pins s σ H Q I h => ?_⟩
  refine wpAny_Call_Name_kw (ld_glob I hg hm ?_ hdb)
  have h' : tA T W as σ H (fun us H1 => spF T ps.length m us H1 Q (fun c d H' => W c d σ H')) := by
    obtain ⟨φ, ρ, st, re, pp⟩ := h
    exact ⟨φ, ρ, st, re, post_bind pp fun vs st1 φ1 H1 us eq e1 s1 q1 p1 => call_sound s1 q1 p1⟩
  refine PySem.W.callWith_K (h₀ := X.base) I.ok.mod.kin hk (thn (ha.run pos pins s σ H _ I h') fun us s1 ⟨vs, H1, I1, r, q⟩ => ⟨I1.kIn, ?_⟩) he hpl
  have b := hb s1 us I1.kIn (by rw [List.append_nil, ← r.length]; exact q.1)
  rw [List.append_nil] at b
  exact run_fnG (args := ⟨us, []⟩) (E := fun σ c d H' => W c d σ H') (F.mono hjk) hr hgd (fun pins H s e s' I c => passAt tk σ pins H s e s' I c) I1 b r q
/-- f(k = v, ..) -/
theorem k_nil : PK X [] (tA T W eNil) := ⟨fun pos pins s σ H Q I ⟨φ, ρ, st, re, p⟩ => pk_nil.run pos pins s σ H Q I (p.ok_self re.rst .nil)⟩
theorem k_cons {nm : Option Str} {e : Expr} {kpos : Pos} {kws : List Keyword} {a : E} {as : EA} (ha : PE X e (tE T W a)) (hr : PK X kws (tA T W as)) : PK X (⟨nm, e, kpos⟩ :: kws) (tA T W (eCons a as)) := by
  refine ⟨fun pos pins s σ H Q I h => (pk_cons ha hr).run pos pins s σ H Q I ?_⟩
  refine tG_bind h fun v ρ st1 φ1 H1 u re1 q1 p1 => ?_
  refine ⟨φ1, ρ, st1, re1, post_bind p1 fun vs st2 φ2 H2 us _ e2 s2 q2 p2 => ?_⟩
  exact p2.ok_self s2 (.cons (q1.ext e2) q2)
def eCallK (np kn : Nat) (perm : List Nat) (m : Fn) (a : EA) : E := fun ρ st => bindR (a ρ st) fun zs st1 => if zs.length = kn ∧ (permL perm zs).length = np then m (permL perm zs) st1 else .bad
theorem e_callK {k j : Nat} {ps ks : List Str} {perm : List Nat} {m : Fn} {x : Str} {p pos : Pos} {kws : List Keyword} {as : EA} {sx : Stmt} (F : FnAt X.prog X.w X.K X.mg X.base T j x sx ps m) (hkw : KwOk x sx ps ks perm) (hr : Room k X.A) (hgd : X.A.guards = some []) (tk : Takes X W) (ha : PK X kws (tA T W as)) (hjk : j ≤ k := by decide) (hg : Gl X x := by rfl) (hdb : (x == ("__debug__" : Str)) = false := by decide)
    (hlk : ks.length = kws.length := by rfl)
    (hall : (backToKw pos (keywordEach kws X.env)).all (·.1.isSome) = true := by rfl) (hks : (backToKw pos (keywordEach kws X.env)).filterMap (·.1) = ks := by rfl) 
    (hpl : ((backTo pos (starEach [] X.env)).any (·.1) || (backToKw pos (keywordEach kws X.env)).any (·.1.isNone)) = false := by rfl) :
    PE X (.Call (.Name x p) [] kws pos) (tE T W (eCallK ps.length ks.length perm m as)) := by
  obtain ⟨f, fd, hm, hk, _, F, hb⟩ := F.ex
  refine ⟨fun pins s σ H Q I h => ?_⟩
  refine wpAny_Call_Name_kw (ld_glob I hg hm ?_ hdb)
  refine PySem.W.callWith_KW0 (h₀ := X.base) I.ok.mod.kin hk hall ?_ hpl
  have h' : tA T W as σ H (fun us H1 => us.length = ks.length ∧ spF T ps.length m (permL perm us) H1 Q (fun c d H' => W c d σ H')) := by
    refine tG_bind h fun vs ρ st1 φ1 H1 us re1 q1 p1 => ?_
    split at p1
    · rename_i hn
      have q2 := permL_paired (relVs_paired q1) perm
      refine ⟨q1.length.symm.trans hn.1, by rw [← Paired.length q2]; exact hn.2, φ1, permL perm vs, st1, re1.rst, relVs_of q2, ?_⟩
      cases hm2 : m (permL perm vs) st1 with
      | ok v st' => rw [hm2] at p1; exact p1
      | ex x st' => rw [hm2] at p1; exact p1
      | bad => rw [hm2] at p1; exact p1
    · exact p1.elim
  refine thn (ha.run pos pins s σ H _ I h') fun ws s2 ⟨zs, H2, I2, rz, q0, q2⟩ => ⟨I2.kIn, ?_⟩
  rw [hks]
  have lw : ws.length = ks.length := rz.length.symm.trans q0
  have r2 : Vals (permL perm zs) (permL perm ws) := permL_paired rz perm
  exact run_fnG (args := ⟨[], ks.zip ws⟩) (E := fun σ c d H' => W c d σ H') (F.mono hjk) hr hgd (fun pins H s e s' I c => passAt tk σ pins H s e s' I c) I2 (hb ks perm hkw s2 ws lw) r2 q2
theorem e_gintE {x : Str} {i : Int} {pos : Pos} (hm : ∃ t, X.mg x = some (.int i t)) (hg : Gl X x := by rfl) (hd : (x == ("__debug__" : Str)) = false := by decide) : PE X (.Name x pos) (tE T W (eC (.int i))) := by
  obtain ⟨t, h⟩ := hm
  exact e_gint h hg hd
theorem e_gstrE {x : Str} {i : Str} {pos : Pos} (hm : ∃ t, X.mg x = some (.str i t)) (hg : Gl X x := by rfl) (hd : (x == ("__debug__" : Str)) = false := by decide) : PE X (.Name x pos) (tE T W (eC (.str i))) := by
  obtain ⟨t, h⟩ := hm
  exact e_gstr h hg hd
/-- what is not promised -/
def eBad : E := fun _ _ => .bad
def sBad : S := fun _ _ => .bad
theorem e_bad {e : Expr} : PE X e (tE T W eBad) := ⟨fun _ _ _ _ _ _ ⟨_, _, _, _, p⟩ => p.elim⟩
theorem s_bad {s : Stmt} : PS X s (tS T W sBad) := ⟨fun _ _ _ _ _ _ ⟨_, _, _, _, p⟩ => p.elim⟩
theorem hu65 {k : Nat} (hr : Room k X.A) : X.A.units + 65 < cLine := by have := hr.un; omega
theorem hu1 {k : Nat} (hr : Room k X.A) : X.A.units + 1 < cLine := by have := hr.un; omega
theorem hu0 {k : Nat} (hr : Room k X.A) : X.A.units < cLine := by have := hr.un; omega
theorem hu64 {k : Nat} (hr : Room k X.A) : X.A.units + 64 < cLine := by have := hr.un; omega
/-- a < b < c -/
def eChain (f g : Sto → Val → Val → Option Val) (a b c : E) : E := fun ρ st => bindR (a ρ st) fun v st1 => bindR (b ρ st1) fun u st2 => match f st2 v u with
  | some (.bl true) => bindR (c ρ st2) fun w st3 => optR (g st3 u w) st3
  | some (.bl false) => .ok (.bl false) st2
  | _ => .bad
theorem chain_sound {r r' : R2} {f g : Sto → Val → Val → Option Val} (hs : SndB T r f) (hs' : SndB T r' g) {a b c : E} {σ : L2.St} {H : Hp} {Q : VK} (h : tE T W (eChain f g a b c) σ H Q) : tChain r r' (tE T W a) (tE T W b) (tE T W c) σ H Q := by
  refine tG_bind h fun v ρ st1 φ1 H1 x re1 q1 p1 => ?_
  refine ⟨φ1, ρ, st1, re1, post_bind p1 fun u st2 φ2 H2 y eq2 e2 s2 q2 p2 => ?_⟩
  cases hf : f st2 v u with
  | none => rw [hf] at p2; exact p2.elim
  | some z =>
    rw [hf] at p2
    refine hs φ2 st2 H2 v u z x y _ s2 (q1.ext e2) q2 hf fun H3 z' e3 s3 q3 => ?_
    cases z with
    | bl k =>
      cases q3
      refine ⟨k, rfl, ?_⟩
      cases k with
      | true =>
        rw [if_pos rfl]
        refine ⟨φ2, ρ, st2, (re1.ext e2 s2).ext e3 s3, post_bind (Post.later p2 e3) fun w' st4 φ4 H4 y' eq4 e4 s4 q4 p4 => ?_⟩
        cases hg : g st4 u w' with
        | none => rw [hg] at p4; exact p4.elim
        | some t =>
          rw [hg] at p4
          exact hs' φ4 st4 H4 u w' t y y' Q s4 ((q2.ext e3).ext e4) q4 hg fun H' uu e5 s5 q5 => p4 φ4 H' uu e5 s5 q5
      | false => rw [if_neg (by decide)]; exact p2 φ2 H3 _ e3 s3 (.bl false)
    | _ => exact p2.elim
theorem e_chain {a b c : Expr} {op op' : CmpOp} {pos : Pos} {r r' : R2} {f g : Sto → Val → Val → Option Val} {ea eb ec : E} (ho : OpR X (compareOp op) r) (hs : SndB T r f) (ho' : OpR X (compareOp op') r') (hs' : SndB T r' g)
    (ha : PE X a (tE T W ea)) (hb : PE X b (tE T W eb)) (hc : PE X c (tE T W ec)) (hm : lastMarks [op, op'] [b, c] = false := by with_unfolding_all rfl) :
    PE X (.Compare a [op, op'] [b, c] pos) (tE T W (eChain f g ea eb ec)) := pe_imp (pe_chain ho ho' ha hb hc hm) fun _ _ _ h => chain_sound hs hs' h
theorem t_chain {a b c : Expr} {op op' : CmpOp} {pos : Pos} {r r' : R2} {f g : Sto → Val → Val → Option Val} {ea eb ec : E} (ho : OpR X (compareOp op) r) (hs : SndB T r f) (ho' : OpR X (compareOp op') r') (hs' : SndB T r' g)
    (ha : PE X a (tE T W ea)) (hb : PE X b (tE T W eb)) (hc : PE X c (tE T W ec)) (hm : lastMarks [op, op'] [b, c] = false := by with_unfolding_all rfl) :
    PT X (.Compare a [op, op'] [b, c] pos) (tT T W (eTest (eChain f g ea eb ec))) := by
  refine pt_imp (pt_chain ho ho' ha hb hc hm) fun σ H Q h => ?_
  have h' : tE T W (eChain f g ea eb ec) σ H (fun u H1 => ∃ k, u = .bl k ∧ Q k H1) := by
    refine tG_bind h fun v ρ st1 φ1 H1 u re1 q1 p1 => ?_
    split at p1
    · rename_i b
      cases q1
      exact ⟨b, rfl, p1.ok_self re1.rst rfl⟩
    · exact p1.elim
  exact chain_sound hs hs' h'
end
end Ev

set_option Elab.async false
set_option linter.all false
set_option maxRecDepth 100000
set_option maxHeartbeats 2000000
namespace Ev
open PySem PySem.Spec PyProof.Rows L2
section
variable {X : Cx} {T : Tab} {W : WX}
theorem rel_non {φ : Phi} {H : Hp} {v : Val} (r : RelV T φ H v .non) : v = .non ∨ ∃ n, v = .loc n := by
  cases r with
  | non => exact .inl rfl
  | loc => exact .inr ⟨_, rfl⟩
theorem isNon {st : Sto} {φ : Phi} {H : Hp} {v : Val} {x : V} {b : Bool} (r : RelV T φ H v x) (h : fIs st v .non = some (.bl b)) : decide (x = .non) = b := by
  cases b with
  | true =>
    unfold fIs at h
    split at h <;> first | (cases h; done) | (cases r; rfl) | (rename_i q; cases q)
  | false =>
    refine decide_eq_false fun z => ?_
    subst z
    rcases rel_non r with rfl | ⟨n, rfl⟩ <;> cases h
theorem fIs_non {st : Sto} {v z : Val} (h : fIs st v .non = some z) : ∃ b, z = .bl b := by
  unfold fIs at h
  split at h <;> cases h <;> exact ⟨_, rfl⟩
theorem fIs_bl {st : Sto} {v w z : Val} (h : fIs st v w = some z) : w = .non ∨ ∃ a b, v = .bl a ∧ w = .bl b ∧ z = .bl (decide (a = b)) := by
  unfold fIs at h
  split at h <;> cases h <;> first | exact .inl rfl | exact .inr ⟨_, _, rfl, rfl, rfl⟩
theorem fIsNot_eq {st : Sto} {v w : Val} : fIsNot st v w = (fIs st v w).map fun z => match z with | .bl b => .bl (!b) | z => z := by
  unfold fIsNot fIs
  split <;> rfl
theorem snd_is : SndB T rIsA fIs := by
  intro φ st H v w z x y Q R r1 r2 hf hq
  rcases fIs_bl hf with rfl | ⟨a, b, rfl, rfl, rfl⟩
  · obtain ⟨b, rfl⟩ := fIs_non hf
    cases r2
    refine .inl ⟨rfl, ?_⟩
    rw [isNon r1 hf]
    exact hq H _ Ext.refl R (.bl _)
  · cases r1
    cases r2
    exact .inr ⟨_, _, rfl, rfl, hq H _ Ext.refl R (.bl _)⟩
theorem snd_isNot : SndB T rIsNotA fIsNot := by
  intro φ st H v w z x y Q R r1 r2 hf hq
  rw [fIsNot_eq] at hf
  cases h : fIs st v w with
  | none => rw [h] at hf; cases hf
  | some z' =>
    rw [h] at hf
    rcases fIs_bl h with rfl | ⟨a, b, rfl, rfl, rfl⟩
    · obtain ⟨b, rfl⟩ := fIs_non h
      cases hf
      cases r2
      refine .inl ⟨rfl, ?_⟩
      rw [isNon r1 h]
      exact hq H _ Ext.refl R (.bl _)
    · cases hf
      cases r1
      cases r2
      exact .inr ⟨_, _, rfl, rfl, hq H _ Ext.refl R (.bl _)⟩

inductive Ty6 where
  | int | bool | str | tuple | list | dict
def Ty6.nm : Ty6 → String
  | .int => "int" | .bool => "bool" | .str => "str" | .tuple => "tuple" | .list => "list" | .dict => "dict"
def isTy (t : Ty6) (st : Sto) (v : Val) : Option Bool := match v with
  | .non => some false
  | .bl _ => some (match t with | .int | .bool => true | _ => false)
  | .int _ => some (match t with | .int => true | _ => false)
  | .str _ => some (match t with | .str => true | _ => false)
  | .tup _ => some (match t with | .tuple => true | _ => false)
  | .lst _ => some (match t with | .list => true | _ => false)
  | .dct _ _ => some (match t with | .dict => true | _ => false)
  | .loc n => match st[n]? with
    | some (.lst _) => some (match t with | .list => true | _ => false)
    | some (.dK _) => some (match t with | .dict => true | _ => false)
    | some (.dT _) => some (match t with | .dict => true | _ => false)
    | _ => none
  | _ => none
def tyName (st : Sto) (v : Val) : Option String := match v with
  | .non => some "NoneType"
  | .bl _ => some "bool"
  | .int _ => some "int"
  | .str _ => some "str"
  | .tup _ => some "tuple"
  | .lst _ => some "list"
  | .dct _ _ => some "dict"
  | .loc n => match st[n]? with
    | some (.lst _) => some "list"
    | some (.dK _) => some "dict"
    | some (.dT _) => some "dict"
    | _ => none
  | _ => none
theorem tyX_of {φ : Phi} {st : Sto} {H : Hp} {v : Val} {x : V} {n : String} (R : Rst T φ st H) (r : RelV T φ H v x) (h : tyName st v = some n) : L2.TyX T.K H x (.type n) := by
  cases r with
  | non => cases h; exact .base .non
  | bl b => cases h; exact .base (.bl b)
  | int i => cases h; exact .base (.int i)
  | str s => cases h; exact .base (.str s)
  | tup e _ => cases h; exact .base (.tup e)
  | lst e _ =>
    cases h
    rcases e with ⟨_, e | ⟨o, e⟩⟩ | ⟨o, its, n, e, c, _⟩
    · exact .base (.lst e)
    · exact .base (.frz e)
    · exact .kList e c
  | dct _ e _ _ =>
    cases h
    rcases e with e | ⟨o, e⟩
    · exact .base (.dK e)
    · exact .fDict e
  | exc => cases h
  | @loc n u hn hu =>
    unfold tyName at h
    dsimp only at h
    split at h
    · rename_i q
      cases h
      obtain ⟨a, e1, us, e2, e3⟩ := R.at q (by simp)
      rw [hu a e1]; exact .base (.lst e2)
    · rename_i q
      cases h
      obtain ⟨a, e1, us, e2, e3⟩ := R.at q (by simp)
      rw [hu a e1]; exact .base (.dK e2)
    · rename_i q
      cases h
      obtain ⟨a, e1, us, e2, e3⟩ := R.at q (by simp)
      rw [hu a e1]; exact .base (.dT e2)
    · cases h
theorem isTy_kit {t : Ty6} {st : Sto} {v : Val} {b : Bool} (h : isTy t st v = some b) : ∃ n, tyName st v = some n ∧ L2.kitB n t.nm = some b := by
  cases v with
  | loc n =>
    unfold isTy at h
    unfold tyName
    dsimp only at h ⊢
    split at h <;> first | cases h | skip
    all_goals
      rename_i q
      refine ⟨_, rfl, ?_⟩
      cases t <;> decide +kernel
  | exc => cases h
  | _ => refine ⟨_, rfl, ?_⟩; cases t <;> cases h <;> decide +kernel
def eIsi (t : Ty6) (a : E) : E := fun ρ st => bindR (a ρ st) fun v st1 => match isTy t st1 v with
  | some b => .ok (.bl b) st1
  | none => .bad
theorem e_isi {t : Ty6} {e : Expr} {x : Str} {a : E} {p p2 pos : Pos} (hm : X.mg "isinstance" = none) (hmT : X.mg x = none) (hv : bootBuiltins x = some (.type t.nm)) (hK : T.K = X.K) (ha : PE X e (tE T W a)) (hg : Gl X "isinstance" := by rfl) (hgT : Gl X x := by rfl)
    (hn : x ≠ "__name__" := by decide) (hdb : (x == ("__debug__" : Str)) = false := by decide)
    (he : starEach [e, .Name x p2] X.env = (false, eval e X.env) :: starEach [.Name x p2] X.env := by rfl) (he2 : starEach [.Name x p2] X.env = [(false, eval (.Name x p2) X.env)] := by rfl) (hpl : (backTo pos (starEach [.Name x p2] X.env)).any (·.1) = false := by rfl) :
    PE X (.Call (.Name "isinstance" p) [e, .Name x p2] [] pos) (tE T W (eIsi t a)) := by
  refine pe_imp (pe_callB call_isi hg hm (by decide +kernel) (pa_cons ha (pa_cons (pe_bltn (v := .ty t.nm) hgT hmT hv rfl hn hdb) pa_nil he2) he) (by decide) (by decide) he hpl) fun σ H Q h => ?_
  refine tG_bind h fun v ρ st1 φ1 H1 u re1 q1 p1 => ?_
  cases hf : isTy t st1 v with
  | none => rw [hf] at p1; exact p1.elim
  | some b =>
    rw [hf] at p1
    obtain ⟨n, h1, h2⟩ := isTy_kit hf
    exact ⟨u, _, _, _, b, rfl, .ty _, hK ▸ tyX_of re1.rst q1 h1, L2.kit_ty h2, p1.ok_self re1.rst (.bl b)⟩
end
end Ev

set_option Elab.async false
set_option linter.all false
set_option maxRecDepth 100000
set_option maxHeartbeats 2000000
namespace Ev
open PySem PySem.Spec PyProof.Rows L2
theorem q_rmul_il (a : Int) (t : Tok) (l : Addr) (items : Array Value) (n : Nat) (d : Option Addr) (sl : Array (Option Value)) :
    Meets (Builtin.«int.__rmul__» ⟨[.int a t, .ref l], []⟩) (fun _ R s => s.heap.get? l = some { cls := .type "list", dict := d, data := .seq items n, slots := sl } ∧ R (.ok (.ret Value.notImplemented)) s) :=
  .of_wp fun prog w A R s h => by obtain ⟨hp, g, d, tk, os⟩ := s; obtain ⟨hl, h⟩ := h; wp_walk; exact ⟨_, rfl, h⟩
theorem q_mul_il (l : Addr) (items : Array Value) (n : Nat) (d : Option Addr) (sl : Array (Option Value)) (x : Int) (u : Tok) (hc0 : ¬(!Builtin.List.listFitsIndex x) = true) (hc1 : ¬items.size * x.toNat > (2 ^ 63 - 1) / 8) (hc2 : ¬Builtin.List.listTooLong (items.size * x.toNat) = true) :
    Meets (Builtin.«list.__mul__» ⟨[.ref l, .int x u], []⟩) (fun _ R s => s.heap.get? l = some { cls := .type "list", dict := d, data := .seq items n, slots := sl } ∧ R (.ok (.ret (Value.ref s.heap.objs.size))) { s with heap := s.heap.push { cls := Value.type "list", data := Data.seq (List.foldl (fun x1 x2 => x1 ++ x2) #[] (List.replicate (if items.isEmpty = true then 0 else x.toNat) items)) }, toks := s.toks }) :=
  .of_wp fun prog w A R s h => by
    obtain ⟨hp, g, d, tk, os⟩ := s; obtain ⟨hl, h⟩ := h
    have hsz := PySem.AutoListH.joined_fits hc2
    wp_walk; refine wpAny_ite_false (decide_eq_false (Nat.not_lt.mpr hsz)) ?_; wp_walk; exact ⟨_, rfl, h⟩
def rRepL (K : PySem.W.Frag) : R2 := fun x y H Q => ∃ l k xs, x = .ref l ∧ y = .int k ∧ SqL K H l xs ∧ -(2 ^ 63) ≤ k ∧ k < 2 ^ 63 ∧ xs.length * k.toNat ≤ sizeLine ∧
  ∀ p, H p = none → Q (.ref p) (upd H p (.lst (List.replicate k.toNat xs).flatten))
section
variable {X : Cx} {T : Tab} {W : WX}
theorem op_repL : OpR X (binaryOp .Mult) (rRepL X.K) := by
  intro pins s σ H x y v u Q I rx ry h
  obtain ⟨l, k, xs, rfl, rfl, hS, h1, h2, hz, q⟩ := h
  obtain rfl : v = Value.ref l := rx
  obtain ⟨t, rfl⟩ := ry
  obtain ⟨its, r, ⟨⟨cls, dd, data, sl⟩, n, ho, hc, hdn, hd⟩, hlen0⟩ := I.list hS
  have hc1 : cls = Value.type "list" := hc
  have hd1 : data = Data.seq its.toArray n := hd
  subst hc1 hd1
  have hlen : its.toArray.size * k.toNat ≤ sizeLine := by rw [List.size_toArray, ← r.length]; exact hz
  have hcap : ¬ its.toArray.size * k.toNat > (2 ^ 63 - 1) / 8 := by
    have : (sizeLine : Nat) ≤ (2 ^ 63 - 1) / 8 := by decide
    omega
  have hfit : ¬ (!Builtin.List.listFitsIndex k) = true := by
    rw [fitsIndex_both h1 h2]
    exact Bool.false_ne_true
  have hlong : ¬ Builtin.List.listTooLong (its.toArray.size * k.toNat) = true := by
    rw [notLongL hlen]
    exact Bool.false_ne_true
  have hnew : List.foldl (fun x1 x2 => x1 ++ x2) #[] (List.replicate (if its.toArray.isEmpty = true then 0 else k.toNat) its.toArray) = (List.replicate k.toNat its).flatten.toArray := by
    rw [L2.size_rep]
    cases its with
    | nil => simp
    | cons a r' => rw [if_neg (by simp)]
  refine wpAny_binaryOp_repeat_ref (T := "list") (U := "int") (by decide) ⟨_, ho, rfl⟩ (fun s' => typeIs_int s' k t) noFill_list_mul F.fills_int_mul F.slot_int_rmul repeat_list F.slot_int_index.lookup
    (call_meets F.slot_int_rmul (typeIs_int s k t) F.entry_int_rmul (F.args_int_rmul_2 _ _) (q_rmul_il k t l its.toArray n dd sl)
      ⟨ho, rfl, ⟨_, ho, rfl⟩, call_meets F.slot_list_mul ⟨_, ho, rfl⟩ F.entry_list_mul (F.args_list_mul_2 _ _) (q_mul_il l its.toArray n dd sl k t hfit hcap hlong) ⟨ho, ?_⟩⟩)
  rw [hnew]
  refine ⟨.ref s.heap.objs.size, _, I.laid (t' := s.toks) (o := .lst (List.replicate k.toNat xs).flatten) (fun b ob q => Heap.get?_push_of_some _ q) (Nat.le_refl _) ?_, rfl, q _ (I.hok.fresh (Nat.le_refl _))⟩
  exact ⟨by rw [PyProof.Rows.lm_len_rep_flat, Nat.mul_comm]; exact hz, _, 0, r.rep k.toNat, Heap.get?_push_size _ rfl⟩
def rRepS : R2 := fun x y H Q => ∃ z k, x = .str z ∧ y = .int k ∧ 1 ≤ k ∧ k ≤ 1000 ∧ z.length ≤ 1000 ∧ Q (.str (Txt.mul z k)) H
theorem op_repS : OpR X (binaryOp .Mult) rRepS := by
  intro pins s σ H x y v u Q I rx ry h
  obtain ⟨z, k, rfl, rfl, h1, h2, h3, q⟩ := h
  obtain ⟨t, rfl⟩ := rx
  obtain ⟨t', rfl⟩ := ry
  refine PySem.SB.mul ⟨?_, fun _ _ => ?_, fun _ _ => ?_⟩ fun t2 k2 => ⟨.str _, H, I.tok _, ⟨_, rfl⟩, q⟩
  · rw [decide_eq_false (by omega), decide_eq_false (by omega)]
    rfl
  · have h4 : (1000 : Int) ≤ (2 ^ 63 - 1) / k := by
      refine (Int.le_ediv_iff_mul_le (by omega)).mpr ?_
      omega
    omega
  · unfold Builtin.Str.tooLong
    have h5 : z.length * k.toNat ≤ 1000 * 1000 := Nat.mul_le_mul h3 (by omega)
    rw [sizeLine_eq]
    exact decide_eq_false (by omega)
def fMul (st : Sto) (v w : Val) : Option Val := match v, w with
  | .int i, .int j => if cMul i j = true then some (.int (i * j)) else none
  | .tup xs, .int k => if 2 ≤ k ∧ k ≤ 1000 ∧ xs.length ≤ 1000 ∧ xs ≠ [] then some (.tup (List.replicate k.toNat xs).flatten) else none
  | .lst xs, .int k => if -(2 ^ 63) ≤ k ∧ k < 2 ^ 63 ∧ xs.length * k.toNat ≤ sizeLine then some (.lst (List.replicate k.toNat xs).flatten) else none
  | .str z, .int k => if 1 ≤ k ∧ k ≤ 1000 ∧ z.length ≤ 1000 then some (.str (Txt.mul z k)) else none
  | _, _ => none
def rMulA (K : PySem.W.Frag) : R2 := fun x y H Q => (rI CMul fun i j => .int (i * j)) x y H Q ∨ rRepL K x y H Q ∨ rRepT K x y H Q ∨ rRepS x y H Q
theorem op_mulA : OpR X (binaryOp .Mult) (rMulA X.K) := op_mul.or (op_repL.or (op_repT.or op_repS))
theorem snd_mul : SndB T (rMulA T.K) fMul := by
  intro φ st H v w z x y Q R r1 r2 hf hq
  unfold fMul at hf
  split at hf
  · split at hf
    · rename_i hc
      cases hf; cases r1; cases r2
      exact .inl ⟨_, _, rfl, rfl, cMul_ok _ _ hc, hq H _ Ext.refl R (.int _)⟩
    · cases hf
  · split at hf
    · rename_i hc
      cases hf
      cases r2
      cases r1 with
      | tup a1 b1 =>
        rename_i us a
        refine .inr (.inr (.inl ⟨a, _, us, rfl, rfl, SqT.of a1, ?_, hc.1, hc.2.1, by rw [← b1.length]; exact hc.2.2.1, fun p hp => ?_⟩))
        · intro z; subst z; cases b1; exact hc.2.2.2 rfl
        · exact hq _ _ (Ext.fresh R hp) (R.fresh hp) (.tup upd_same ((b1.rep _).ext (Ext.fresh R hp)))
    · cases hf
  · split at hf
    · rename_i hc
      cases hf
      cases r2
      obtain ⟨a, us, rfl, s1, q1⟩ := rel_lst (xs := _) R r1 rfl
      refine .inr (.inl ⟨a, _, us, rfl, rfl, s1, hc.1, hc.2.1, by rw [← q1.length]; exact hc.2.2, fun p hp => ?_⟩)
      exact hq _ _ (Ext.fresh R hp) (R.fresh hp) (.lst (.inl ⟨R.nolive hp, .inl upd_same⟩) ((q1.rep _).ext (Ext.fresh R hp)))
    · cases hf
  · split at hf
    · rename_i hc
      cases hf
      cases r1; cases r2
      exact .inr (.inr (.inr ⟨_, _, rfl, rfl, hc.1, hc.2.1, hc.2.2, hq H _ Ext.refl R (.str _)⟩))
    · cases hf
  · cases hf
/-- xs * k, a new thing of the store -/
def eMulN (a b : E) : E := fun ρ st => bindR (a ρ st) fun v st1 => bindR (b ρ st1) fun w st2 => match v, w with
  | .lst xs, .int k => if -(2 ^ 63) ≤ k ∧ k < 2 ^ 63 ∧ xs.length * k.toNat ≤ sizeLine then .ok (.loc st2.length) (st2 ++ [.lst (List.replicate k.toNat xs).flatten]) else .bad
  | _, _ => .bad
theorem e_mulN {a b : Expr} {pos : Pos} {ea eb : E} (hK : T.K = X.K) (ha : PE X a (tE T W ea)) (hb : PE X b (tE T W eb)) : PE X (.BinOp a .Mult b pos) (tE T W (eMulN ea eb)) := by
  refine pe_imp (pe_op op_repL ha hb) fun σ H Q h => ?_
  refine tG_bind h fun v ρ st1 φ1 H1 u re1 q1 p1 => ?_
  refine ⟨φ1, ρ, st1, re1, post_bind p1 fun w st2 φ2 H2 y eq2 e2 s2 q2 p2 => ?_⟩
  split at p2
  · split at p2
    · rename_i hc
      cases q2
      obtain ⟨a, us, rfl, s1, q1⟩ := rel_lst (xs := _) s2 (q1.ext e2) rfl
      refine ⟨a, _, us, rfl, rfl, hK ▸ s1, hc.1, hc.2.1, by rw [← q1.length]; exact hc.2.2, fun p hp => ?_⟩
      exact p2 _ _ _ (Ext.alloc s2 hp) (s2.alloc hp ⟨_, upd_same, (q1.rep _).ext (Ext.alloc s2 hp)⟩) (rel_loc s2)
    · exact p2.elim
  · exact p2.elim
end
end Ev

set_option Elab.async false
set_option linter.all false
set_option maxRecDepth 100000
set_option maxHeartbeats 2000000
namespace Ev
open PySem PySem.Spec PyProof.Rows L2
section
variable {prog : Program} {w : World} {A : Around} {E : Value → Shared → Prop} {s : Shared}
theorem sliceApplied_rev {sl : Addr} {vl vu vs : Value} {n : Nat} {Q : Int × Int × Nat → Shared → Prop} (hs : s.heap.IsSliceOf sl vl vu vs) (pl : IsPart vl none) (pu : IsPart vu none) (ps : IsPart vs (some (-1)))
    (h : Q ((n : Int) - 1, -1, n) s) : wpAny (model prog w) A (Builtin.Slice.sliceApplied (.ref sl) (pure (n : Int))) Q E s := by
  obtain ⟨os, hos, hcs, hds⟩ := id hs
  unfold Builtin.Slice.sliceApplied Builtin.Slice.sliceFields
  refine wpAny_bind (wpAny_bind (wpAny_field hos hds (x := vl) rfl (wpAny_bind (wpAny_field hos hds (x := vu) rfl (wpAny_bind (wpAny_field hos hds (x := vs) rfl (wpAny_pure ?_)))))))
  refine wpAny_bind (HT.slicePart_ ps ?_)
  show wpAny _ _ (if ((-1 : Int) == 0) = true then _ else _) _ _ s
  rw [if_neg (by decide)]
  refine wpAny_bind (HT.slicePart_ pl (wpAny_bind (HT.slicePart_ pu (wpAny_bind (wpAny_pure ?_)))))
  have e : Builtin.Slice.sliceAdjust none none (-1) (n : Int) = ((n : Int) - 1, -1) := by
    unfold Builtin.Slice.sliceAdjust
    simp
  have e2 : Builtin.Slice.slicePlaces ((n : Int) - 1) (-1) (-1) = n := by
    unfold Builtin.Slice.slicePlaces
    simp only [show ¬ ((-1 : Int) > 0) by decide, if_false]
    split
    · rw [show (- -1 : Int) = 1 by decide, Int.ediv_one]; omega
    · omega
  show wpAny _ _ (match Builtin.Slice.sliceAdjust none none (-1) (n : Int) with | (lo, hi) => pure (lo, (-1 : Int), Builtin.Slice.slicePlaces lo hi (-1))) _ _ s
  rw [e]
  show wpAny _ _ (pure ((n : Int) - 1, (-1 : Int), Builtin.Slice.slicePlaces ((n : Int) - 1) (-1) (-1))) _ _ s
  rw [e2]
  exact wpAny_pure h
theorem fm_map {α β : Type} {f : α → Option β} {g : α → β} : ∀ {l : List α}, (∀ m, m ∈ l → f m = some (g m)) → l.filterMap f = l.map g
  | [], _ => rfl
  | a :: l, h => by
    rw [List.filterMap_cons, h a List.mem_cons_self, List.map_cons]
    exact congrArg _ (fm_map fun m hm => h m (List.mem_cons_of_mem _ hm))
theorem pick_rev (xs : Array Value) : ((List.range xs.size).filterMap fun (m : Nat) => xs[(((xs.size : Int) - 1) + (m : Int) * (-1)).toNat]?).toArray = xs.toList.reverse.toArray := by
  congr 1
  apply List.ext_getElem?
  intro i
  have e : ((List.range xs.size).filterMap fun (m : Nat) => xs[(((xs.size : Int) - 1) + (m : Int) * (-1)).toNat]?) = (List.range xs.size).map fun m => xs.toList.getD (xs.size - 1 - m) (.none) := by
    refine fm_map fun m hm => ?_
    have hm := List.mem_range.mp hm
    have e1 : (((xs.size : Int) - 1) + (m : Int) * (-1)).toNat = xs.size - 1 - m := by omega
    have e2 : xs.size - 1 - m < xs.size := by omega
    rw [e1, List.getD_eq_getElem?_getD, Array.getElem?_toList, Array.getElem?_eq_getElem e2]
    rfl
  rw [e]
  by_cases hi : i < xs.size
  · have e2 : xs.size - 1 - i < xs.size := by omega
    rw [List.getElem?_reverse (by simpa using hi), List.getElem?_map, List.getElem?_range hi]
    show some (xs.toList.getD (xs.size - 1 - i) .none) = xs.toList[xs.toList.length - 1 - i]?
    rw [Array.length_toList, List.getD_eq_getElem?_getD, Array.getElem?_toList, Array.getElem?_eq_getElem e2]
    rfl
  · rw [List.getElem?_eq_none (by simpa using hi), List.getElem?_eq_none (by simpa using hi)]
theorem getItem_tuple_rev {t sl : Addr} {items : Array Value} {vl vu vs : Value} {Q : Value → Shared → Prop} (ht : IsTup s.heap t items) (hs : s.heap.IsSliceOf sl vl vu vs) (pl : IsPart vl none) (pu : IsPart vu none) (ps : IsPart vs (some (-1)))
    (h : Q (.ref s.heap.objs.size) { s with heap := s.heap.push { cls := .type "tuple", data := .seq items.toList.reverse.toArray } })
    (hsz : items.size ≤ sizeLine) : wpAny (model prog w) A (getItem (.ref t) (.ref sl)) Q E s := by
  have htake : sizeOk (.seq items.toList.reverse.toArray) := by
    show items.toList.reverse.toArray.size ≤ sizeLine
    rw [List.size_toArray, List.length_reverse, Array.length_toList]
    exact hsz
  obtain ⟨os, hos, hcs, hds⟩ := id hs
  have hTs : s.TypeIs (.ref sl) "slice" := ⟨os, hos, hcs⟩
  unfold getItem
  try with_reducible refine wpAny_holding ?_
  first | refine wpAny_bind (wpAny_pure ?_) | skip
  refine wpAny_bind (wpAny_sequenceKey ht.typeIs (by decide) ?_)
  refine wpAny_bind (wpAny_callSpecial?_slot (name := Str.ofString "__getitem__") ht.typeIs PyProof.Rows.slot_tuple_getitem
    (wpAny_call_entry PyProof.Rows.slot_tuple_getitem ht.typeIs entry_tuple_getitem ?_ (args_tuple_getitem _ _)))
  show wpAny _ _ (Builtin.Tuple.tupleItemsOf (.ref t) >>= _) _ _ s
  refine wpAny_bind (tupleItemsOf_ ht ?_)
  refine wpAny_bind (wpAny_typeOf hTs ?_)
  rw [if_pos (by decide)]
  refine wpAny_bind (sliceApplied_rev hs pl pu ps ?_)
  have hno : ¬ ((((items.size : Int) - 1) == 0 && (-1 : Int) == 1 && items.size == items.size) = true) := by
    intro q
    rw [Bool.and_eq_true, Bool.and_eq_true] at q
    exact absurd q.1.2 (by decide)
  show wpAny _ _ (if (((items.size : Int) - 1) == 0 && (-1 : Int) == 1 && items.size == items.size) = true then _ else _) _ _ s
  rw [if_neg hno, pick_rev]
  first
    | exact wpAny_bind (m := Builtin.Tuple.tupleExact _) (wpAny_newObj_type (wpAny_pure ⟨_, rfl, wpAny_pure h⟩) htake)
    | exact wpAny_bind (m := Builtin.Tuple.tupleExact _) (wpAny_newObj_type (wpAny_bind (wpAny_pure (wpAny_pure ⟨_, rfl, wpAny_pure h⟩))) htake)
    | exact wpAny_bind (wpAny_bind (m := Builtin.Tuple.tupleExact _) (wpAny_newObj_type (wpAny_pure (wpAny_pure ⟨_, rfl, wpAny_pure h⟩)) htake))
    | exact wpAny_bind (wpAny_bind (m := Builtin.Tuple.tupleExact _) (wpAny_newObj_type (wpAny_pure ⟨_, rfl, wpAny_pure h⟩) htake))
end
section
variable {X : Cx} {T : Tab} {W : WX}
def tRevT (K : PySem.W.Frag) (te : TE) : TE := fun σ H Q => te σ H fun x H1 => ∃ a xs, x = .ref a ∧ SqT K H1 a xs ∧ ∀ p, H1 p = none → Q (.ref p) (upd H1 p (.tup xs.reverse))
theorem pe_revT {e : Expr} {te : TE} {k : Nat} {p1 p2 p3 pos : Pos} (he : PE X e te) : PE X (.Subscript e (.Slice none none (some (.UnaryOp .USub (.Constant (.int 1) k p1) p2)) p3) pos) (tRevT X.K te) := by
  refine ⟨fun pins s σ H Q I h => ?_⟩
  refine Subscript_ (thn (he.run pins s σ H _ I h) fun v s1 ⟨x, H1, I1, r1, q1⟩ => ?_)
  obtain ⟨a, xs, ex, hx, q⟩ := q1
  subst ex
  cases r1
  have hst : PO X (some (.UnaryOp .USub (.Constant (.int 1) k p1) p2)) (tPart (tUn (rU fun i => .int (-i)) (tC (.int 1)))) := po_some (pe_un un_neg pe_int)
  refine wpAny_Slice (thn (po_none.run pins s1 σ H1 (fun o H2 => o = none ∧ H2 = H1) I1 ⟨rfl, rfl⟩) fun vl s2 ⟨l, H2, I2, pl, el, e2⟩ => ?_)
  subst el e2
  refine thn (po_none.run pins s2 σ H2 (fun o H3 => o = none ∧ H3 = H2) I2 ⟨rfl, rfl⟩) fun vu s3 ⟨u, H3, I3, pu, eu, e3⟩ => ?_
  subst eu e3
  refine thn (hst.run pins s3 σ H3 (fun o H4 => o = some (-1) ∧ H4 = H3) I3 ⟨1, rfl, -1, rfl, rfl, rfl⟩) fun vs s4 ⟨o, H4, I4, ps, eo, e4⟩ => ?_
  subst eo e4
  have I5 : Inv X pins σ H4 { s4 with heap := s4.heap.push { cls := .type "slice", data := .fields #[vl, vu, vs] } } := I4.kept (t' := s4.toks) fun b ob q => Heap.get?_push_of_some _ q
  obtain ⟨its, r, ht, hz⟩ := I5.tuple hx
  have hlen := r.length
  show wpAny (model X.prog X.w) X.A (subscriptTail e (.Slice none none (some (.UnaryOp .USub (.Constant (.int 1) k p1) p2)) p3) (.ref a) (.ref s4.heap.objs.size)) (L2.EP X pins σ Q) X.xe { s4 with heap := s4.heap.push { cls := .type "slice", data := .fields #[vl, vu, vs] } }
  refine tail_any (ops := [.ref a, .ref s4.heap.objs.size]) ht.typeIs (PyProof.Rows.slot_tuple_getitem.lookup) ?_ (by with_unfolding_all rfl)
  refine getItem_tuple_rev ht (Heap.IsSliceOf.new _ vl vu vs) pl pu ps ?_ (by rw [List.size_toArray]; omega)
  refine ⟨.ref _, _, I5.laid (t' := s4.toks) (o := .tup xs.reverse) (fun b ob q => Heap.get?_push_of_some _ q) (Nat.le_refl _) ?_, rfl, q _ (I5.hok.fresh (Nat.le_refl _))⟩
  exact ⟨by rw [List.length_reverse]; exact hz, _, r.reverse, IsTup.new _ _⟩
def eRevT (a : E) : E := fun ρ st => bindR (a ρ st) fun v st1 => match v with
  | .tup xs => .ok (.tup xs.reverse) st1
  | _ => .bad
theorem e_revT {e : Expr} {a : E} {k : Nat} {p1 p2 p3 pos : Pos} (he : PE X e (tE T W a)) : PE X (.Subscript e (.Slice none none (some (.UnaryOp .USub (.Constant (.int 1) k p1) p2)) p3) pos) (tE T W (eRevT a)) := by
  refine pe_imp (pe_revT he) fun σ H Q h => ?_
  refine tG_bind h fun v ρ st1 φ1 H1 u re1 q1 p1 => ?_
  split at p1
  · cases q1 with
    | tup a1 b1 =>
      rename_i xs us ad
      refine ⟨ad, us, rfl, SqT.of a1, fun p hp => ?_⟩
      exact p1 _ _ _ (Ext.fresh re1.rst hp) (re1.rst.fresh hp) (.tup upd_same ((RelVs.reverse b1).ext (Ext.fresh re1.rst hp)))
  · exact p1.elim
abbrev EO := Env → Sto → Res (Option Int)
abbrev tO (T : Tab) (W : WX) (e : EO) : TO := fun σ H Q => tG T (fun _ _ (a b : Option Int) => a = b) W e σ H Q
def oNone : EO := fun _ st => .ok none st
def oSome (a : E) : EO := fun ρ st => bindR (a ρ st) fun v st1 => match v with
  | .int i => .ok (some i) st1
  | _ => .bad
theorem o_none : PO X none (tO T W oNone) := ⟨fun pins s σ H Q I ⟨φ, ρ, st, re, p⟩ => po_none.run pins s σ H Q I (p.ok_self re.rst rfl)⟩
theorem o_some {e : Expr} {a : E} (h : PE X e (tE T W a)) : PO X (some e) (tO T W (oSome a)) := by
  refine ⟨fun pins s σ H Q I q => (po_some h).run pins s σ H Q I ?_⟩
  refine tG_bind q fun v ρ st1 φ1 H1 u re1 q1 p1 => ?_
  split at p1
  · cases q1
    exact ⟨_, rfl, p1.ok_self re1.rst rfl⟩
  · exact p1.elim
def cutG {α : Type} (xs : List α) (lo hi : Option Int) : List α := (xs.drop (HT.sIx xs.length 0 lo)).take (HT.sIx xs.length xs.length hi - HT.sIx xs.length 0 lo)
def rSlAll (K : PySem.W.Frag) : V → Option Int → Option Int → Hp → VK → Prop := fun x lo hi H Q => rSlA K x lo hi H Q ∨ rSlL K x lo hi H Q ∨ rSlS x lo hi H Q
theorem sl_all : SlR X (rSlAll X.K) := sl_tupA.or (sl_list.or sl_str)
def eSl (a : E) (lo hi : EO) : E := fun ρ st => bindR (a ρ st) fun v st1 => bindR (lo ρ st1) fun l st2 => bindR (hi ρ st2) fun h st3 => match v with
  | .tup xs => .ok (.tup (cutG xs l h)) st3
  | .str z => if z.length ≤ sizeLine then .ok (.str (cutS z l h)) st3 else .bad
  | v => match lstOf st3 v with
    | some xs => .ok (.lst (cutG xs l h)) st3
    | none => .bad
theorem RelVs.cut {φ : Phi} {H : Hp} {xs : List Val} {us : List V} (r : RelVs T φ H xs us) (lo hi : Option Int) : RelVs T φ H (cutG xs lo hi) (cutV us lo hi) := by
  unfold cutG cutV
  rw [r.length]
  exact RelVs.take _ (RelVs.drop _ r)
theorem cutG_whole {α : Type} {xs : List α} {lo hi : Option Int} (h : HT.sIx xs.length 0 lo = 0 ∧ HT.sIx xs.length xs.length hi = xs.length) : cutG xs lo hi = xs := by
  unfold cutG
  rw [h.1, h.2, List.drop_zero, Nat.sub_zero, List.take_length]
theorem e_slice {e : Expr} {lo hi : Option Expr} {p2 pos : Pos} {a : E} {l h : EO} (hK : T.K = X.K) (he : PE X e (tE T W a)) (hl : PO X lo (tO T W l)) (hu : PO X hi (tO T W h)) : PE X (.Subscript e (.Slice lo hi none p2) pos) (tE T W (eSl a l h)) := by
  refine pe_imp (pe_slice sl_all he hl hu) fun σ H Q q => ?_
  rw [← hK]
  refine tG_bind q fun v ρ st1 φ1 H1 u re1 q1 p1 => ?_
  refine ⟨φ1, ρ, st1, re1, post_bind p1 fun lo st2 φ2 H2 lo' eq2 e2 s2 q2 p2 => ?_⟩
  have re2 := re1.ext e2 s2
  refine ⟨φ2, ρ, st2, re2, post_bind p2 fun hi st3 φ3 H3 hi' eq3 e3 s3 q3 p3 => ?_⟩
  subst q2 q3
  have q1 := (q1.ext e2).ext e3
  split at p3
  · cases q1 with
    | tup a1 b1 =>
      rename_i xs us ad
      refine .inl ⟨ad, us, rfl, SqT.of a1, fun hw => ?_, fun hw p hp => ?_⟩
      · rw [cutG_whole (by rw [b1.length]; exact hw)] at p3
        exact p3.ok_self s3 (.tup a1 b1)
      · exact p3 _ _ _ (Ext.fresh s3 hp) (s3.fresh hp) (.tup upd_same ((RelVs.cut b1 _ _).ext (Ext.fresh s3 hp)))
  · split at p3
    · rename_i hz
      cases q1
      exact .inr (.inr ⟨_, rfl, hz, p3.ok_self s3 (.str _)⟩)
    · exact p3.elim
  · split at p3
    · rename_i xs hx
      obtain ⟨ad, us, rfl, hs, hr⟩ := rel_lst s3 q1 hx
      refine .inr (.inl ⟨ad, us, rfl, hs, fun p hp => ?_⟩)
      exact p3 _ _ _ (Ext.fresh s3 hp) (s3.fresh hp) (.lst (.inl ⟨s3.nolive hp, .inl upd_same⟩) ((RelVs.cut hr _ _).ext (Ext.fresh s3 hp)))
    · exact p3.elim
end
end Ev

set_option Elab.async false
set_option linter.all false
namespace Gr
variable {α : Type}
def insL (le : α → α → Bool) (x : α) : List α → List α
  | [] => [x]
  | y :: ys => if le x y = true then x :: y :: ys else y :: insL le x ys
def isort (le : α → α → Bool) : List α → List α
  | [] => []
  | x :: xs => insL le x (isort le xs)
variable {le : α → α → Bool}
theorem insL_perm (x : α) : ∀ ys : List α, (insL le x ys).Perm (x :: ys)
  | [] => .refl _
  | y :: ys => by
    unfold insL
    split
    · exact .refl _
    · exact ((insL_perm x ys).cons y).trans (.swap x y ys)
theorem isort_perm : ∀ xs : List α, (isort le xs).Perm xs
  | [] => .refl _
  | x :: xs => (insL_perm x _).trans ((isort_perm xs).cons x)
theorem insL_pw (tr : ∀ a b c, le a b = true → le b c = true → le a c = true) (tot : ∀ a b, (le a b || le b a) = true) (x : α) : ∀ {ys : List α}, ys.Pairwise (fun a b => le a b = true) → (insL le x ys).Pairwise fun a b => le a b = true
  | [], _ => List.pairwise_singleton _ _
  | y :: ys, h => by
    obtain ⟨h1, h2⟩ := List.pairwise_cons.mp h
    unfold insL
    split
    · rename_i e
      refine List.pairwise_cons.mpr ⟨fun z hz => ?_, h⟩
      rcases List.mem_cons.mp hz with rfl | hz
      · exact e
      · exact tr _ _ _ e (h1 z hz)
    · rename_i e
      refine List.pairwise_cons.mpr ⟨fun z hz => ?_, insL_pw tr tot x h2⟩
      rcases List.mem_cons.mp ((insL_perm x ys).mem_iff.mp hz) with rfl | hz
      · rcases Bool.or_eq_true _ _ ▸ tot y z with k | k
        · exact k
        · exact absurd k e
      · exact h1 z hz
theorem isort_pw (tr : ∀ a b c, le a b = true → le b c = true → le a c = true) (tot : ∀ a b, (le a b || le b a) = true) : ∀ xs : List α, (isort le xs).Pairwise fun a b => le a b = true
  | [] => .nil
  | x :: xs => insL_pw tr tot x (isort_pw tr tot xs)
end Gr

set_option Elab.async false
set_option linter.all false
set_option maxRecDepth 100000
set_option maxHeartbeats 2000000
namespace Ev
open PySem PySem.Spec PyProof.Rows L2
def kVal : Key → Val
  | .inl i => .int i
  | .inr s => .str s
section
variable {X : Cx} {T : Tab} {W : WX}
theorem relV_key {φ : Phi} {H : Hp} (k : Key) : RelV T φ H (kVal k) (kV k) := by
  cases k with
  | inl i => exact .int i
  | inr s => exact .str s
theorem relVs_keys {φ : Phi} {H : Hp} : ∀ ks : List Key, RelVs T φ H (ks.map kVal) (ks.map kV)
  | [] => .nil
  | k :: ks => .cons (relV_key k) (relVs_keys ks)
theorem relVs_isKeys {φ : Phi} {H : Hp} {kvs : List (List Key × Val)} {us : List (List Key × V)} {bs : List Addr} (r : RelF T φ H kvs us) (h : L2.IsKeys H us bs) : RelVs T φ H (kvs.map fun kv => .tup (kv.1.map kVal)) (bs.map V.ref) := by
  unfold L2.IsKeys at h
  unfold RelF at r
  induction h generalizing kvs with
  | nil => cases r; exact .nil
  | cons a _ ih =>
    cases r with
    | cons b c =>
      refine .cons ?_ (ih c)
      dsimp only
      rw [b.1]
      exact .tup a (relVs_keys _)
theorem relVs_keysK {φ : Phi} {H : Hp} {kvs : List (Key × Val)} {us : List (Key × V)} (r : RelF T φ H kvs us) : RelVs T φ H (kvs.map fun kv => kVal kv.1) (us.map fun kv => kV kv.1) := by
  unfold RelF at r
  induction r with
  | nil => exact .nil
  | cons a _ ih =>
    refine .cons ?_ ih
    dsimp only
    rw [a.1]
    exact relV_key _
/-- list(x), x a dict, a list or a tuple -/
def fListA (st : Sto) (vs : List Val) : Option Val := match vs with
  | [.loc n] => match st[n]? with
    | some (.dT kvs) => some (.lst (kvs.map fun kv => .tup (kv.1.map kVal)))
    | some (.dK kvs) => some (.lst (kvs.map fun kv => kVal kv.1))
    | _ => fList st vs
  | _ => fList st vs
def rListA (K : PySem.W.Frag) : List V → Hp → VK → Prop := fun xs H Q => (∃ p ys, xs = [.ref p] ∧ (SqL K H p ys ∨ SqT K H p ys) ∧ ∀ l, H l = none → Q (.ref l) (upd H l (.lst ys))) ∨
  (∃ d kvs, xs = [V.ref d] ∧ Rd H d (.dT kvs) ∧ ∀ p bs, H p = none → L2.IsKeys H kvs bs → Q (.ref p) (upd H p (.lst (bs.map V.ref)))) ∨
  (∃ (a : Addr) (kvs : List (Key × V)), xs = [.ref a] ∧ Rd H a (.dK kvs) ∧ ∀ p, H p = none → Q (.ref p) (upd H p (.lst (kvs.map fun kv => kV kv.1))))
theorem call_listA (hc : X.calm = true) : CallR X (.type "list") (rListA X.K) := call_list_of.or ((call_list_dT hc).or (call_listD hc))
theorem snd_listA : SndC T (rListA T.K) fListA := by
  intro φ st H vs us z Q R r hf hq
  have hold : fList st vs = some z → rListA T.K us H Q := fun h => .inl (snd_list φ st H vs us z Q R r h hq)
  unfold fListA at hf
  split at hf
  · rename_i n
    split at hf
    · rename_i kvs hn
      cases hf
      obtain ⟨a, h1, us', h2, h3⟩ := R.at hn (by simp)
      cases r with
      | cons a1 b1 =>
        cases b1
        cases a1 with
        | loc q1 q2 =>
          rw [q2 a h1]
          refine .inr (.inl ⟨a, us', rfl, .inl h2, fun p bs hp hk => ?_⟩)
          exact hq _ _ (Ext.fresh R hp) (R.fresh hp) (.lst (.inl ⟨R.nolive hp, .inl upd_same⟩) ((relVs_isKeys h3 hk).ext (Ext.fresh R hp)))
    · rename_i kvs hn
      cases hf
      obtain ⟨a, h1, us', h2, h3⟩ := R.at hn (by simp)
      cases r with
      | cons a1 b1 =>
        cases b1
        cases a1 with
        | loc q1 q2 =>
          rw [q2 a h1]
          refine .inr (.inr ⟨a, us', rfl, .inl h2, fun p hp => ?_⟩)
          exact hq _ _ (Ext.fresh R hp) (R.fresh hp) (.lst (.inl ⟨R.nolive hp, .inl upd_same⟩) ((relVs_keysK h3).ext (Ext.fresh R hp)))
    · exact hold hf
  · exact hold hf

def pairsOf : List Val → Option (List (Int × Int))
  | [] => some []
  | .tup [.int i, .int j] :: xs => (pairsOf xs).map ((i, j) :: ·)
  | _ => none
def pV (p : Int × Int) : Val := .tup [.int p.1, .int p.2]
def leP (p q : Int × Int) : Bool := decide (p.1 < q.1) || (decide (p.1 = q.1) && decide (p.2 ≤ q.2))
def sortI (ns : List Int) : List Int := Gr.isort (fun a b => decide (a ≤ b)) ns
def sortP (ns : List (Int × Int)) : List (Int × Int) := Gr.isort leP ns
def kOf (H : Hp) : V → Int × Int
  | .ref t => match H t with
    | some (.tup [.int i, .int j]) => (i, j)
    | _ => (0, 0)
  | _ => (0, 0)
theorem kOf_ref {H : Hp} {t : Addr} {i j : Int} (h : H t = some (.tup [.int i, .int j])) : kOf H (.ref t) = (i, j) := by
  show (match H t with | some (.tup [.int i, .int j]) => (i, j) | _ => (0, 0)) = _
  rw [h]
theorem rel_pairs {φ : Phi} {H : Hp} : ∀ {xs : List Val} {us : List V} {ps : List (Int × Int)}, RelVs T φ H xs us → pairsOf xs = some ps → us.map (kOf H) = ps ∧ ∀ u, u ∈ us → ∃ t, u = .ref t ∧ H t = some (.tup [.int (kOf H u).1, .int (kOf H u).2])
  | _, _, _, .nil, h => by cases h; exact ⟨rfl, fun u hu => absurd hu List.not_mem_nil⟩
  | _, _, ps, .cons a b, h => by
    unfold pairsOf at h
    split at h
    · cases ‹_ :: _ = []›
    · rename_i e
      cases e
      rw [Option.map_eq_some_iff] at h
      obtain ⟨qs, h1, rfl⟩ := h
      obtain ⟨ih1, ih2⟩ := rel_pairs b h1
      cases a with
      | tup a1 a2 =>
        cases a2 with
        | cons c1 c2 =>
          cases c1
          cases c2 with
          | cons d1 d2 =>
            cases d1
            cases d2
            have ek := kOf_ref a1
            refine ⟨by rw [List.map_cons, ih1, ek], fun u hu => ?_⟩
            rcases List.mem_cons.mp hu with rfl | hu
            · exact ⟨_, rfl, by rw [ek]; exact a1⟩
            · exact ih2 u hu
    · cases h
theorem rel_ofPairs {φ : Phi} {H : Hp} : ∀ {us : List V}, (∀ u, u ∈ us → ∃ t, u = .ref t ∧ H t = some (.tup [.int (kOf H u).1, .int (kOf H u).2])) → RelVs T φ H ((us.map (kOf H)).map pV) us
  | [], _ => .nil
  | u :: us, h => by
    obtain ⟨t, e1, e2⟩ := h u List.mem_cons_self
    refine .cons ?_ (rel_ofPairs fun v hv => h v (List.mem_cons_of_mem _ hv))
    rw [e1] at e2 ⊢
    exact .tup e2 (.cons (.int _) (.cons (.int _) .nil))
theorem rel_ofInts {φ : Phi} {H : Hp} : ∀ ns : List Int, RelVs T φ H (ns.map Val.int) (ns.map V.int)
  | [] => .nil
  | n :: ns => .cons (.int n) (rel_ofInts ns)
theorem sortI_is {ns ms : List Int} (p : ms.Perm ns) (s : ms.Pairwise (· ≤ ·)) : ms = sortI ns := by
  refine List.Perm.eq_of_pairwise (le := fun a b => a ≤ b) (fun a b _ _ h1 h2 => Int.le_antisymm h1 h2) s ?_ (p.trans (Gr.isort_perm ns).symm)
  have := Gr.isort_pw (le := fun a b : Int => decide (a ≤ b)) (fun a b c h1 h2 => by simp only [decide_eq_true_eq] at *; omega) (fun a b => by simp only [Bool.or_eq_true, decide_eq_true_eq]; omega) ns
  exact this.imp fun h => by simpa using h
theorem leP_iff {p q : Int × Int} : leP p q = true ↔ p.1 < q.1 ∨ (p.1 = q.1 ∧ p.2 ≤ q.2) := by
  unfold leP
  simp only [Bool.or_eq_true, Bool.and_eq_true, decide_eq_true_eq]
theorem sortP_pw (ns : List (Int × Int)) : (sortP ns).Pairwise fun a b => leP a b = true :=
  Gr.isort_pw (le := leP) (fun a b c h1 h2 => by rw [leP_iff] at *; omega) (fun a b => by rw [Bool.or_eq_true, leP_iff, leP_iff]; omega) ns
theorem sortP_is {ns ms : List (Int × Int)} (p : ms.Perm ns) (s : ms.Pairwise fun a b => leP a b = true) : ms = sortP ns := by
  refine List.Perm.eq_of_pairwise (le := fun a b => leP a b = true) (fun a b _ _ h1 h2 => ?_) s (sortP_pw ns) (p.trans (Gr.isort_perm ns).symm)
  rw [leP_iff] at h1 h2
  exact Prod.ext (by omega) (by omega)
def fSorted (st : Sto) (vs : List Val) : Option Val := match vs with
  | [v] => match lstOf st v with
    | some xs => match intsOf xs with
      | some ns => some (.lst ((sortI ns).map .int))
      | none => (pairsOf xs).map fun ps => .lst ((sortP ps).map pV)
    | none => none
  | _ => none
def rSortA (K : PySem.W.Frag) : List V → Hp → VK → Prop := fun xs H Q => rSortedI K xs H Q ∨ rSortedPO K xs H Q
theorem call_sortA : CallR X (.builtin "sorted") (rSortA X.K) := cr_sortedI.or cr_sortedPO
theorem snd_sorted : SndC T (rSortA T.K) fSorted := by
  intro φ st H vs us z Q R r hf hq
  unfold fSorted at hf
  split at hf
  · split at hf
    · rename_i xs hx
      cases r with
      | cons a1 b1 =>
        cases b1
        obtain ⟨a, us', rfl, hs, hr⟩ := rel_lst R a1 hx
        split at hf
        · rename_i ns hi
          cases hf
          have e := rel_ints hr hi
          subst e
          refine .inl ⟨a, ns, rfl, hs, fun ns' p hp hw hn => ?_⟩
          rw [sortI_is hp hw]
          exact hq _ _ (Ext.fresh R hn) (R.fresh hn) (.lst (.inl ⟨R.nolive hn, .inl upd_same⟩) (rel_ofInts _))
        · rw [Option.map_eq_some_iff] at hf
          obtain ⟨ps, hp, rfl⟩ := hf
          obtain ⟨e1, e2⟩ := rel_pairs hr hp
          refine .inr ⟨a, us', kOf H, rfl, hs, e2, fun ys p h1 h2 hn => ?_⟩
          have e3 : ∀ u, u ∈ ys → ∃ t, u = .ref t ∧ H t = some (.tup [.int (kOf H u).1, .int (kOf H u).2]) := fun u hu => e2 u (h2.perm.mem_iff.mp hu)
          have e4 : ys.map (kOf H) = sortP ps := by
            refine sortP_is (by rw [← e1]; exact h2.perm.map _) ?_
            rw [List.pairwise_map]
            refine h1.imp fun {x y} h => ?_
            have := SrtO.lexB_no.mp h
            rw [leP_iff]
            omega
          have e5 := rel_ofPairs (T := T) (φ := φ) e3
          rw [e4] at e5
          exact hq _ _ (Ext.fresh R hn) (R.fresh hn) (.lst (.inl ⟨R.nolive hn, .inl upd_same⟩) (e5.ext (Ext.fresh R hn)))
    · cases hf
  · cases hf
end
end Ev

set_option Elab.async false
set_option linter.all false
set_option maxRecDepth 100000
set_option maxHeartbeats 2000000
namespace Ev
open PySem PySem.Spec PyProof.Rows L2
section
variable {X : Cx} {T : Tab} {W : WX}
def rRepr (K : PySem.W.Frag) : List V → Hp → VK → Prop := fun xs H Q => ∃ x d, xs = [x] ∧ Dp K H x d ∧ PyData.showable d = true ∧ PyData.hasDict d = false ∧ d.depth ≤ 60 ∧ d.shown.length ≤ sizeLine ∧ Q (.str d.shown) H
theorem call_reprA (hgd : X.A.guards = some []) (hu : X.A.units + 65 < cLine) : CallR X (.builtin "repr") (rRepr X.K) := by
  intro pins s σ H xs us Q I r h
  obtain ⟨x, d, rfl, hd, h1, h2, h3, h4, q⟩ := h
  obtain ⟨u, rfl, rx⟩ := vals1 r
  obtain ⟨as, rd⟩ := Dp.reads I d x u hd rx
  cases hd with
  | non =>
    cases rx
    exact PySem.P.repr_of_none ⟨.str _, H, I.tok _, ⟨_, rfl⟩, by rw [PyData.shown_none] at q; exact q⟩
  | bl b =>
    cases rx
    exact PySem.P.repr_of_bool ⟨.str _, H, I.tok _, ⟨_, rfl⟩, by rw [PyData.shown_bool] at q; exact q⟩
  | int i =>
    obtain ⟨t, rfl⟩ := rx
    exact PySem.P.repr_of_int (by rw [PyData.showable] at h1; exact of_decide_eq_true h1) ⟨.str _, H, I.tok _, ⟨_, rfl⟩, by rw [PyData.shown_int] at q; exact q⟩
  | str z =>
    obtain ⟨t, rfl⟩ := rx
    exact PySem.P.repr_of_str (by exact ⟨.str _, H, I.tok _, ⟨_, rfl⟩, by rw [PyData.shown_str] at q; exact q⟩) (by rw [PyData.shown_str] at h4; exact h4)
  | lst e1 e2 =>
    obtain rfl : u = Value.ref _ := rx
    exact repr_of_reads' rd h1 (fun z => by rw [h2] at z; cases z) hgd (by omega) (fun b o e => e) (fun h' u tk k => ⟨.str _, H, I.kept k, ⟨_, rfl⟩, q⟩) h4
  | tup e1 e2 =>
    obtain rfl : u = Value.ref _ := rx
    exact repr_of_reads' rd h1 (fun z => by rw [h2] at z; cases z) hgd (by omega) (fun b o e => e) (fun h' u tk k => ⟨.str _, H, I.kept k, ⟨_, rfl⟩, q⟩) h4
def reprOk (d : PyData) : Bool := PyData.showable d && !PyData.hasDict d && decide (d.depth ≤ 60) && decide (d.shown.length ≤ sizeLine)
def fRepr (st : Sto) (vs : List Val) : Option Val := match vs with
  | [v] => match toD (dr st v) with
    | some d => if reprOk d = true then some (.str d.shown) else none
    | none => none
  | _ => none
theorem snd_repr : SndC T (rRepr T.K) fRepr := by
  intro φ st H vs us z Q R r hf hq
  unfold fRepr at hf
  split at hf
  · split at hf
    · rename_i d hd
      split at hf
      · rename_i hk
        cases hf
        cases r with
        | cons a1 b1 =>
          cases b1
          unfold reprOk at hk
          rw [Bool.and_eq_true, Bool.and_eq_true, Bool.and_eq_true, Bool.not_eq_true', decide_eq_true_eq, decide_eq_true_eq] at hk
          exact ⟨_, d, rfl, rel_dr R a1 hd, hk.1.1.1, hk.1.1.2, hk.1.2, hk.2, hq H _ Ext.refl R (.str _)⟩
      · cases hf
    · cases hf
  · cases hf
def rStr : List V → Hp → VK → Prop := fun xs H Q => (∃ i : Int, xs = [V.int i] ∧ i.natAbs.log2 < 1920 ∧ Q (.str (toString i)) H) ∨ ∃ a, xs = [.str a] ∧ Q (.str a) H
theorem call_strA : CallR X (.type "str") rStr := call_str_int.or SkE.call_str_str
def iStr (i : Int) : Str := toString i
def fStr (_ : Sto) (vs : List Val) : Option Val := match vs with
  | [.int i] => if i.natAbs.log2 < 1920 then some (.str (iStr i)) else none
  | [.str a] => some (.str a)
  | _ => none
theorem snd_str : SndC T rStr fStr := by
  intro φ st H vs us z Q R r hf hq
  unfold fStr at hf
  split at hf
  · split at hf
    · rename_i h
      cases hf
      cases r with
      | cons a1 b1 =>
        cases a1; cases b1
        exact .inl ⟨_, rfl, h, hq H _ Ext.refl R (.str _)⟩
    · cases hf
  · cases hf
    cases r with
    | cons a1 b1 =>
      cases a1; cases b1
      exact .inr ⟨_, rfl, hq H _ Ext.refl R (.str _)⟩
  · cases hf
def fEqA (st : Sto) (v w : Val) : Option Val := match v, w with
  | .str a, .str b => some (.bl (decide (a = b)))
  | .int a, .int b => some (.bl (decide (a = b)))
  | v, w => fEq st v w
def fNeA (st : Sto) (v w : Val) : Option Val := match v, w with
  | .str a, .str b => some (.bl (!decide (a = b)))
  | .int a, .int b => some (.bl (!decide (a = b)))
  | v, w => fNe st v w
def rEqA (K : PySem.W.Frag) : R2 := fun x y H Q => rEq x y H Q ∨ rEqD K x y H Q
def rNeA (K : PySem.W.Frag) : R2 := fun x y H Q => rNe x y H Q ∨ rNeD K x y H Q
theorem op_eqA (hu : X.A.units + 64 < cLine) : OpR X (compareOp .Eq) (rEqA X.K) := op_eq.or (op_eqD hu)
theorem op_neA (hu : X.A.units + 64 < cLine) : OpR X (compareOp .NotEq) (rNeA X.K) := op_ne.or (op_neD hu)
theorem dec_str (a b : Str) : decide (V.str a = V.str b) = decide (a = b) := by
  rw [Bool.eq_iff_iff]
  simp
theorem dec_int' (a b : Int) : decide (V.int a = V.int b) = decide (a = b) := by
  rw [Bool.eq_iff_iff]
  simp
theorem snd_eqA : SndB T (rEqA T.K) fEqA := by
  intro φ st H v w z x y Q R r1 r2 hf hq
  unfold fEqA at hf
  split at hf
  · cases hf; cases r1; cases r2
    exact .inl ⟨rfl, by rw [dec_str]; exact hq H _ Ext.refl R (.bl _)⟩
  · cases hf; cases r1; cases r2
    exact .inl ⟨rfl, by rw [dec_int']; exact hq H _ Ext.refl R (.bl _)⟩
  · exact .inr (snd_eq φ st H v w z x y Q R r1 r2 hf hq)
theorem snd_neA : SndB T (rNeA T.K) fNeA := by
  intro φ st H v w z x y Q R r1 r2 hf hq
  unfold fNeA at hf
  split at hf
  · cases hf; cases r1; cases r2
    exact .inl ⟨rfl, by rw [dec_str]; exact hq H _ Ext.refl R (.bl _)⟩
  · cases hf; cases r1; cases r2
    exact .inl ⟨rfl, by rw [dec_int']; exact hq H _ Ext.refl R (.bl _)⟩
  · exact .inr (snd_ne φ st H v w z x y Q R r1 r2 hf hq)
def rIntA : List V → Hp → VK → Prop := fun xs H Q => ((∃ i, xs = [.int i] ∧ Q (.int i) H) ∨ ∃ k, xs = [.bl k] ∧ Q (.int (if k then 1 else 0)) H) ∨ (∃ a n, xs = [.str a] ∧ PySem.intText? a = some n ∧ a.length ≤ 640 ∧ Q (.int n) H)
theorem call_intA : CallR X (.type "int") rIntA := call_int1.or L2.call_int_str
def fIntA (st : Sto) (vs : List Val) : Option Val := match vs with
  | [.str a] => if a.length ≤ 640 then (PySem.intText? a).map .int else none
  | _ => fInt st vs
theorem snd_intA : SndC T rIntA fIntA := by
  intro φ st H vs us z Q R r hf hq
  unfold fIntA at hf
  split at hf
  · split at hf
    · rename_i hl
      rw [Option.map_eq_some_iff] at hf
      obtain ⟨n, h1, rfl⟩ := hf
      cases r with
      | cons a1 b1 =>
        cases a1; cases b1
        exact .inr ⟨_, n, rfl, h1, hl, hq H _ Ext.refl R (.int _)⟩
    · cases hf
  · exact .inl (snd_int φ st H vs us z Q R r hf hq)
def SndB1 (T : Tab) (r : V → List V → Hp → VK → Prop) (f : Sto → Val → Val → Option Val) : Prop :=
  ∀ φ st H v w z x y Q, Rst T φ st H → RelV T φ H v x → RelV T φ H w y → f st v w = some z → (∀ H' u, Ext φ H φ H' → Rst T φ st H' → RelV T φ H' z u → Q u H') → r x [y] H Q
def strsOf : List Val → Option (List Str)
  | [] => some []
  | .str s :: xs => (strsOf xs).map (s :: ·)
  | _ => none
theorem rel_strs {φ : Phi} {H : Hp} : ∀ {xs : List Val} {us : List V} {ns : List Str}, RelVs T φ H xs us → strsOf xs = some ns → us = ns.map V.str
  | _, _, _, .nil, h => by cases h; rfl
  | _, _, _, .cons a b, h => by
    unfold strsOf at h
    split at h
    · cases ‹_ :: _ = []›
    · rename_i e
      cases e
      rw [Option.map_eq_some_iff] at h
      obtain ⟨qs, h1, rfl⟩ := h
      cases a
      rw [rel_strs b h1]
      rfl
    · cases h
theorem rel_ofStrs {φ : Phi} {H : Hp} : ∀ ns : List Str, RelVs T φ H (ns.map Val.str) (ns.map V.str)
  | [] => .nil
  | n :: ns => .cons (.str n) (rel_ofStrs ns)
def fJoin (st : Sto) (v w : Val) : Option Val := match v with
  | .str a => match (seqOf st w).bind strsOf with
    | some ys => if (ys.map (·.length)).sum + ys.length * a.length ≤ 16777216 then some (.str (Txt.join a ys)) else none
    | none => none
  | _ => none
def rJoinA (K : PySem.W.Frag) : V → List V → Hp → VK → Prop := fun x xs H Q => ∃ a p, ∃ ys : List Str, x = .str a ∧ xs = [.ref p] ∧ (SqL K H p (ys.map V.str) ∨ SqT K H p (ys.map V.str)) ∧
    (ys.map (·.length)).sum + ys.length * a.length ≤ 16777216 ∧ Q (.str (Txt.join a ys)) H
theorem snd_join : SndB1 T (rJoinA T.K) fJoin := by
  intro φ st H v w z x y Q R r1 r2 hf hq
  unfold fJoin at hf
  split at hf
  · split at hf
    · rename_i ys hy
      split at hf
      · rename_i hz
        cases hf
        cases r1
        rw [Option.bind_eq_some_iff] at hy
        obtain ⟨xs, h1, h2⟩ := hy
        obtain ⟨a, us, rfl, hs, hr⟩ := rel_seq R r2 h1
        have e := rel_strs hr h2
        subst e
        exact ⟨_, a, ys, rfl, rfl, hs, hz, hq H _ Ext.refl R (.str _)⟩
      · cases hf
    · cases hf
  · cases hf
def fSplit (_ : Sto) (v w : Val) : Option Val := match v, w with
  | .str a, .str b => if b.length ≠ 0 ∧ a.length + 2 ≤ sizeLine then some (.lst ((Txt.split a b).map .str)) else none
  | _, _ => none
def rSplitA : V → List V → Hp → VK → Prop := fun x xs H Q => ∃ a b, x = .str a ∧ xs = [.str b] ∧ (b.length == 0) = false ∧ a.length + 2 ≤ sizeLine ∧ rNewStrs (Txt.split a b) H Q
theorem snd_split : SndB1 T rSplitA fSplit := by
  intro φ st H v w z x y Q R r1 r2 hf hq
  unfold fSplit at hf
  split at hf
  · split at hf
    · rename_i hz
      cases hf
      cases r1
      cases r2
      refine ⟨_, _, rfl, rfl, by simpa using hz.1, hz.2, fun p hp => ?_⟩
      exact hq _ _ (Ext.fresh R hp) (R.fresh hp) (.lst (.inl ⟨R.nolive hp, .inl upd_same⟩) (rel_ofStrs _))
    · cases hf
  · cases hf
def eM1 (f : Sto → Val → Val → Option Val) (a b : E) : E := fun ρ st => bindR (a ρ st) fun v st1 => match v with
  | .str z => bindR (b ρ st1) fun w st2 => optR (f st2 (.str z) w) st2
  | _ => .bad
theorem m1_sound {r : V → List V → Hp → VK → Prop} {f : Sto → Val → Val → Option Val} (hs : SndB1 T r f) {a b : E} {σ : L2.St} {H : Hp} {Q : VK} (h : tE T W (eM1 f a b) σ H Q) : tM1 r (tE T W a) (tE T W b) σ H Q := by
  refine tG_bind h fun v ρ st1 φ1 H1 u re1 q1 p1 => ?_
  split at p1
  · rename_i zz
    refine ⟨by cases q1; exact ⟨_, rfl⟩, φ1, ρ, st1, re1, post_bind p1 fun w st2 φ2 H2 y _ e2 s2 q2 p2 => ?_⟩
    cases hf : f st2 (.str zz) w with
    | none => rw [hf] at p2; exact p2.elim
    | some z =>
      rw [hf] at p2
      exact hs φ2 st2 H2 (.str zz) w z u y Q s2 (q1.ext e2) q2 hf fun H' u' e3 s3 q3 => p2 φ2 H' u' e3 s3 q3
  · exact p1.elim
theorem e_m1 {name : Str} {id : String} {r : V → List V → Hp → VK → Prop} {f : Sto → Val → Val → Option Val} {o e : Expr} {eo ee : E} {apos pos : Pos} (slot : Slot "str" name id) (hty : typeOf (.builtin id) = pure (.type "method_descriptor")) (hm : MtR X id r) (hs : SndB1 T r f)
    (ho : PE X o (tE T W eo)) (he : PE X e (tE T W ee)) (hse : starEach [e] X.env = [(false, eval e X.env)] := by rfl)
    (hbase : attributeBase o name X.env (eval o X.env) = eval o X.env := by rfl) (hline : (apos.endLine == pos.line) = true := by rfl) : PE X (.Call (.Attribute o name apos) [e] [] pos) (tE T W (eM1 f eo ee)) :=
  pe_imp (pe_m1 slot hty hm ho he hse hbase hline) fun _ _ _ h => m1_sound hs h
theorem e_join {o e : Expr} {eo ee : E} {apos pos : Pos} (hK : T.K = X.K) (ho : PE X o (tE T W eo)) (he : PE X e (tE T W ee)) (hse : starEach [e] X.env = [(false, eval e X.env)] := by rfl)
    (hbase : attributeBase o "join" X.env (eval o X.env) = eval o X.env := by rfl) (hline : (apos.endLine == pos.line) = true := by rfl) : PE X (.Call (.Attribute o "join" apos) [e] [] pos) (tE T W (eM1 fJoin eo ee)) :=
  e_m1 F.slot_str_join F.type_str_join (mt_join (X := X)) (hK ▸ snd_join (T := T)) ho he hse hbase hline
theorem e_split {o e : Expr} {eo ee : E} {apos pos : Pos} (ho : PE X o (tE T W eo)) (he : PE X e (tE T W ee)) (hse : starEach [e] X.env = [(false, eval e X.env)] := by rfl)
    (hbase : attributeBase o "split" X.env (eval o X.env) = eval o X.env := by rfl) (hline : (apos.endLine == pos.line) = true := by rfl) : PE X (.Call (.Attribute o "split" apos) [e] [] pos) (tE T W (eM1 fSplit eo ee)) :=
  e_m1 F.slot_str_split F.type_str_split (mt_split (X := X)) snd_split ho he hse hbase hline
end
end Ev

set_option Elab.async false
set_option linter.all false
set_option maxRecDepth 100000
set_option maxHeartbeats 2000000
namespace Ev
open PySem PySem.Spec PyProof.Rows L2
def Ok {α : Type} (r : Res α) (P : α → Sto → Prop) : Prop := ∃ a st, r = .ok a st ∧ P a st
theorem Ok.mk {α : Type} {a : α} {st : Sto} {P : α → Sto → Prop} (h : P a st) : Ok (.ok a st) P := ⟨a, st, rfl, h⟩
theorem Ok.bind {α β : Type} {r : Res α} {f : α → Sto → Res β} {P : α → Sto → Prop} {Q : β → Sto → Prop} (h : Ok r P) (k : ∀ a st, P a st → Ok (f a st) Q) : Ok (bindR r f) Q := by
  obtain ⟨a, st, rfl, p⟩ := h
  exact k a st p
theorem Ok.imp {α : Type} {r : Res α} {P Q : α → Sto → Prop} (h : Ok r P) (k : ∀ a st, P a st → Q a st) : Ok r Q := by
  obtain ⟨a, st, e, p⟩ := h
  exact ⟨a, st, e, k a st p⟩
/-- a statement goes on, or returns -/
def So (r : SR) (N : Env → Sto → Prop) (R : Val → Sto → Prop) : Prop := match r with
  | .nx ρ st => N ρ st
  | .rt v st => R v st
  | _ => False
theorem So.imp {r : SR} {N N' : Env → Sto → Prop} {R R' : Val → Sto → Prop} (h : So r N R) (k : ∀ ρ st, N ρ st → N' ρ st) (k' : ∀ v st, R v st → R' v st) : So r N' R' := by
  cases r with
  | nx ρ st => exact k _ _ h
  | rt v st => exact k' _ _ h
  | _ => exact h
theorem So.seq {a b : S} {ρ : Env} {st : Sto} {M N : Env → Sto → Prop} {R : Val → Sto → Prop} (h : So (a ρ st) M R) (k : ∀ ρ' st', M ρ' st' → So (b ρ' st') N R) : So (sSeq a b ρ st) N R := by
  unfold sSeq
  cases e : a ρ st with
  | nx ρ' st' => rw [e] at h; exact k _ _ h
  | rt v st' => rw [e] at h; exact h
  | _ => rw [e] at h; exact h.elim
theorem So.bind {α : Type} {r : Res α} {ρ : Env} {f : α → Sto → SR} {P : α → Sto → Prop} {N : Env → Sto → Prop} {R : Val → Sto → Prop} (h : Ok r P) (k : ∀ a st, P a st → So (f a st) N R) : So (bindS r ρ f) N R := by
  obtain ⟨a, st, rfl, p⟩ := h
  exact k a st p
/-- a loop with what holds before each turn -/
theorem So.loop {g : G} {b : S} {N : Env → Sto → Prop} {R : Val → Sto → Prop} (I : List Val → Env → Sto → Prop) : ∀ {vs : List Val} {ρ : Env} {st : Sto}, I vs ρ st → (∀ ρ st, I [] ρ st → N ρ st) →
    (∀ v vs ρ st, I (v :: vs) ρ st → ∃ ρ1 st1, g v ρ st = some (ρ1, st1) ∧ So (b ρ1 st1) (I vs) R) → So (forL g b vs ρ st) N R
  | [], ρ, st, h, h0, _ => h0 ρ st h
  | v :: vs, ρ, st, h, h0, hs => by
    obtain ⟨ρ1, st1, e, p⟩ := hs v vs ρ st h
    unfold forL
    rw [e]
    dsimp only
    cases e2 : b ρ1 st1 with
    | nx ρ2 st2 => rw [e2] at p; exact So.loop I p h0 hs
    | rt v st2 => rw [e2] at p; exact p
    | _ => rw [e2] at p; exact p.elim
theorem okOld_refl (st : Sto) : okOld st st = true := by
  unfold okOld
  rw [List.all_eq_true]
  intro i hi
  rw [List.getElem?_eq_getElem (List.mem_range.mp hi)]
  dsimp only
  rw [Ob.same_refl, Bool.true_or]
theorem okOld_set {st : Sto} {d : Nat} {o : Ob} (h : belOb st.length o = true) : okOld st (st.set d o) = true := by
  unfold okOld
  rw [List.all_eq_true]
  intro i hi
  have hi := List.mem_range.mp hi
  rw [List.getElem?_eq_getElem hi]
  by_cases e : d = i
  · subst e
    rw [List.getElem?_set_self hi]
    dsimp only
    rw [h, Bool.or_true]
  · rw [List.getElem?_set_ne e, List.getElem?_eq_getElem hi]
    dsimp only
    rw [Ob.same_refl, Bool.true_or]
theorem okOld_app {st st' : Sto} (h : okOld st st' = true) (more : Sto) : okOld st (st' ++ more) = true := by
  unfold okOld at h ⊢
  rw [List.all_eq_true] at h ⊢
  intro i hi
  have q := h i hi
  cases e : st'[i]? with
  | none => rw [e] at q; rw [List.getElem?_eq_getElem (List.mem_range.mp hi)] at q; cases q
  | some o =>
    rw [e] at q
    rw [List.getElem?_append_left (List.getElem?_eq_some_iff.mp e).1, e]
    exact q
theorem fin_bel {st st' : Sto} {v : Val} (h : okOld st st' = true) (hv : belV st.length v = true) : fin st v st' = .ok v (st'.take st.length) := by
  unfold fin frzV frz1
  rw [if_pos h, if_pos hv]
theorem fin_set {st : Sto} {d : Nat} {o : Ob} {v : Val} (h : belOb st.length o = true) (hv : belV st.length v = true) : fin st v (st.set d o) = .ok v (st.set d o) := by
  rw [fin_bel (okOld_set h) hv, List.take_of_length_le (by rw [List.length_set]; exact Nat.le_refl _)]
theorem fin_same {st : Sto} {v : Val} (hv : belV st.length v = true) : fin st v st = .ok v st := by
  rw [fin_bel (okOld_refl st) hv, List.take_length]
def drawOb (cs : List Int) (a l u : Int) : Ob := .dK [(.inr "cells", .lst (cs.map .int)), (.inr "at", .int a), (.inr "left", .int l), (.inr "used", .int u)]
section
variable {st : Sto} {d : Nat} {cs : List Int} {a l u : Int}
theorem bel_intsL {n : Nat} : ∀ cs : List Int, belVs n (cs.map Val.int) = true
  | [] => rfl
  | c :: cs => by rw [List.map_cons]; simp only [belVs, belV, bel_intsL cs, Bool.and_self]
theorem bel_draw {n : Nat} : belOb n (drawOb cs a l u) = true := by
  simp [drawOb, belOb, belV, bel_intsL]
theorem seqOf_draw (h : st[d]? = some (drawOb cs a l u)) : seqOf st (.loc d) = none := by
  unfold seqOf dr
  dsimp only
  rw [h]
  rfl
theorem dGet_draw (h : st[d]? = some (drawOb cs a l u)) {k : Str} : dGet st (.loc d) (.str k) = some (look [(.inr "cells", Val.lst (cs.map .int)), (.inr "at", .int a), (.inr "left", .int l), (.inr "used", .int u)] (.inr k : Key)) := by
  unfold dGet
  dsimp only
  rw [h]
  rfl
theorem ix_draw (h : st[d]? = some (drawOb cs a l u)) {k : Str} {v : Val} (hk : look [(.inr "cells", Val.lst (cs.map .int)), (.inr "at", .int a), (.inr "left", .int l), (.inr "used", .int u)] (.inr k : Key) = some v) : fIx st (.loc d) (.str k) = some v := by
  unfold fIx
  rw [seqOf_draw h]
  dsimp only
  rw [dGet_draw h, hk]
  rfl
theorem ix_cells (h : st[d]? = some (drawOb cs a l u)) : fIx st (.loc d) (.str "cells") = some (.lst (cs.map .int)) := ix_draw h rfl
theorem ix_at (h : st[d]? = some (drawOb cs a l u)) : fIx st (.loc d) (.str "at") = some (.int a) := ix_draw h rfl
theorem ix_left (h : st[d]? = some (drawOb cs a l u)) : fIx st (.loc d) (.str "left") = some (.int l) := ix_draw h rfl
theorem ix_used (h : st[d]? = some (drawOb cs a l u)) : fIx st (.loc d) (.str "used") = some (.int u) := ix_draw h rfl
theorem set_at (h : st[d]? = some (drawOb cs a l u)) (x : Int) : fSet st (.loc d) (.str "at") (.int x) = some (st.set d (drawOb cs x l u)) := by
  unfold fSet
  dsimp only
  rw [h]
  rfl
theorem set_left (h : st[d]? = some (drawOb cs a l u)) (x : Int) : fSet st (.loc d) (.str "left") (.int x) = some (st.set d (drawOb cs a x u)) := by
  unfold fSet
  dsimp only
  rw [h]
  rfl
theorem set_used (h : st[d]? = some (drawOb cs a l u)) (x : Int) : fSet st (.loc d) (.str "used") (.int x) = some (st.set d (drawOb cs a l x)) := by
  unfold fSet
  dsimp only
  rw [h]
  rfl
end
def nextS : S := (sSeq (sIf (eTest (eB fGt (eB fIx (eV 0) (eC (.str "left"))) (eC (.int 0)))) (sSeq (sAsg (gT 2 (gCons' (gN 2) (gCons' (gIx (eV 0) (eC (.str "left"))) gNil'))) (eTup (eCons (eB fIx (eV 0) (eC (.str "left"))) (eCons (eB fFdiv (eB fIx (eV 0) (eC (.str "left"))) (eV 1)) eNil))))
  (sRet (eB fMod (eV 2) (eV 1)))) sSkip)
  (sSeq (sSet 3 (eB fIx (eV 0) (eC (.str "cells"))))
  (sSeq (sSet 2 (eB fIx (eV 3) (eB fMod (eB fIx (eV 0) (eC (.str "at"))) (eBf fLen (eCons (eV 3) eNil)))))
  (sSeq (sAsg (gIx (eV 0) (eC (.str "at"))) (eB fAdd (eB fIx (eV 0) (eC (.str "at"))) (eC (.int 1))))
  (sSeq (sIf (eAndT (eTest (eB fGe (eV 2) (eB fPow (eC (.int 10)) (eC (.int 18))))) (eTest (eB fLe (eB fIx (eV 0) (eC (.str "at"))) (eBf fLen (eCons (eV 3) eNil))))) (sSeq (sAsg (gIx (eV 0) (eC (.str "left"))) (eB fFdiv (eV 2) (eV 1)))
  (sRet (eB fMod (eV 2) (eV 1)))) sSkip)
  (sSeq (sAsg (gIx (eV 0) (eC (.str "used"))) (eB fAdd (eB fIx (eV 0) (eC (.str "used"))) (eC (.int 1))))
  (sSeq (sSet 4 (eB fAdd (eB fMod (eV 2) (eC (.int 1000000007))) (eB fMul (eB fMul (eC (.int 7919)) (eB fIx (eV 0) (eC (.str "used")))) (eB fIx (eV 0) (eC (.str "used"))))))
  (sSeq (sFor (itV (eTup (eCons (eB fIx (eV 0) (eC (.str "at"))) (eCons (eB fIx (eV 0) (eC (.str "used"))) eNil)))) (gN 5) (sSeq (sSet 4 (eB fMod (eB fMul (eB fAdd (eB fAdd (eV 4) (eB fMul (eC (.int 31)) (eV 5))) (eC (.int 7))) (eC (.int 48271))) (eC (.int 2147483647))))
  (sSet 4 (eB fMod (eB fMul (eV 4) (eB fAdd (eC (.int 69621)) (eB fMul (eC (.int 2)) (eB fMod (eV 5) (eC (.int 1000)))))) (eC (.int 2147483629))))))
  (sRet (eB fMod (eB fFdiv (eV 4) (eC (.int 7))) (eV 1)))))))))))



section
variable {st : Sto} {d : Nat} {cs : List Int} {a l u : Int}
theorem sx_cells (h : d < st.length) : fIx (st.set d (drawOb cs a l u)) (.loc d) (.str "cells") = some (.lst (cs.map .int)) := ix_cells (List.getElem?_set_self h)
theorem sx_at (h : d < st.length) : fIx (st.set d (drawOb cs a l u)) (.loc d) (.str "at") = some (.int a) := ix_at (List.getElem?_set_self h)
theorem sx_left (h : d < st.length) : fIx (st.set d (drawOb cs a l u)) (.loc d) (.str "left") = some (.int l) := ix_left (List.getElem?_set_self h)
theorem sx_used (h : d < st.length) : fIx (st.set d (drawOb cs a l u)) (.loc d) (.str "used") = some (.int u) := ix_used (List.getElem?_set_self h)
theorem ss_at (h : d < st.length) (x : Int) : fSet (st.set d (drawOb cs a l u)) (.loc d) (.str "at") (.int x) = some (st.set d (drawOb cs x l u)) := by rw [set_at (List.getElem?_set_self h), List.set_set]
theorem ss_left (h : d < st.length) (x : Int) : fSet (st.set d (drawOb cs a l u)) (.loc d) (.str "left") (.int x) = some (st.set d (drawOb cs a x u)) := by rw [set_left (List.getElem?_set_self h), List.set_set]
theorem ss_used (h : d < st.length) (x : Int) : fSet (st.set d (drawOb cs a l u)) (.loc d) (.str "used") (.int x) = some (st.set d (drawOb cs a l x)) := by rw [set_used (List.getElem?_set_self h), List.set_set]
theorem set_draw (h : st[d]? = some (drawOb cs a l u)) : st = st.set d (drawOb cs a l u) := by
  apply List.ext_getElem?
  intro i
  by_cases e : d = i
  · subst e
    rw [h, List.getElem?_set_self (List.getElem?_eq_some_iff.mp h).1]
  · rw [List.getElem?_set_ne e]
end
theorem two_le : (2 ≤ sizeLine) = True := eq_true (by decide)
theorem one_le : (1 ≤ sizeLine) = True := eq_true (by decide)
theorem fGt_eq {st : Sto} {i j : Int} : fGt st (.int i) (.int j) = some (.bl (decide (j < i))) := rfl
theorem fGe_eq {st : Sto} {i j : Int} : fGe st (.int i) (.int j) = some (.bl (decide (j ≤ i))) := rfl
theorem fLe_eq {st : Sto} {i j : Int} : fLe st (.int i) (.int j) = some (.bl (decide (i ≤ j))) := rfl
theorem fLtT_eq {st : Sto} {i j : Int} : fLtT st (.int i) (.int j) = some (.bl (decide (i < j))) := rfl
theorem fSub_eq {st : Sto} {i j : Int} : fSub st (.int i) (.int j) = some (.int (i - j)) := rfl
theorem fAdd_int {st : Sto} {i j : Int} : fAdd st (.int i) (.int j) = some (.int (i + j)) := rfl
theorem fMul_int {st : Sto} {i j : Int} (h : cMul i j = true) : fMul st (.int i) (.int j) = some (.int (i * j)) := by
  simp [fMul, h]
theorem fPow_18 {st : Sto} : fPow st (.int 10) (.int 18) = some (.int 1000000000000000000) := by
  simp [fI, cPow]
theorem fLen_lst {st : Sto} {xs : List Val} (h : xs.length ≤ sizeLine) : fLen st [.lst xs] = some (.int xs.length) := by
  simp [fLen, seqOf, dr, h]
theorem cMul_left {i j : Int} (h1 : -(2 ^ 64) < i) (h2 : i < 2 ^ 64) : cMul i j = true := by
  simp only [cMul, h1, h2, decide_true, Bool.and_self, Bool.true_or]
theorem cMul_right {i j : Int} (h1 : -(2 ^ 64) < j) (h2 : j < 2 ^ 64) : cMul i j = true := by
  simp only [cMul, h1, h2, decide_true, Bool.and_self, Bool.or_true]
theorem atI_ok {α : Type} {xs : List α} {i : Int} (h1 : 0 ≤ i) (h2 : i < xs.length) : L2.atI xs i = xs[i.toNat]? := by
  unfold L2.atI L2.ixN
  rw [if_pos h1, if_pos h2]
  rfl
theorem ix_lst {st : Sto} {xs : List Val} {i : Int} {v : Val} (h1 : 0 ≤ i) (h2 : xs[i.toNat]? = some v) : fIx st (.lst xs) (.int i) = some v := by
  have h3 : i < xs.length := by
    have := (List.getElem?_eq_some_iff.mp h2).1
    omega
  show L2.atI xs i = _
  rw [atI_ok h1 h3, h2]
theorem ix_tup {st : Sto} {xs : List Val} {i : Int} {v : Val} (h1 : 0 ≤ i) (h2 : xs[i.toNat]? = some v) : fIx st (.tup xs) (.int i) = some v := by
  have h3 : i < xs.length := by
    have := (List.getElem?_eq_some_iff.mp h2).1
    omega
  show L2.atI xs i = _
  rw [atI_ok h1 h3, h2]
theorem fMod_eq {st : Sto} {i j : Int} (h : 0 < j) : fMod st (.int i) (.int j) = some (.int (i % j)) := by
  simp [fI, h]
theorem fFdiv_eq {st : Sto} {i j : Int} (h : cDiv i j = true) : fFdiv st (.int i) (.int j) = some (.int (i / j)) := by
  simp [fI, h]
/-- one draw: any number below `many` may come -/
theorem next_set {st : Sto} {d : Nat} {cs : List Int} {a l u many : Int} (hdl : d < st.length) (hcs : cs ≠ []) (hlen : cs.length ≤ 1000) (ha : 0 ≤ a) (hl : 0 ≤ l) (hu : 0 ≤ u) (hub : u < 2 ^ 60) (hm : 0 < many) (hmb : many.natAbs < 2 ^ 2000) :
    ∃ r a' l' u', runF 6 nextS [.loc d, .int many] (st.set d (drawOb cs a l u)) = .ok (.int r) (st.set d (drawOb cs a' l' u')) ∧ 0 ≤ r ∧ r < many ∧ 0 ≤ a' ∧ 0 ≤ l' ∧ 0 ≤ u' ∧ u' ≤ u + 1 := by
  have hdiv : ∀ i : Int, cDiv i many = true := fun i => by
    unfold cDiv
    rw [Bool.and_eq_true, decide_eq_true_eq, decide_eq_true_eq]
    exact ⟨hm, hmb⟩
  have hmod : ∀ i : Int, 0 ≤ i % many ∧ i % many < many := fun i => ⟨Int.emod_nonneg _ (by omega), Int.emod_lt_of_pos _ hm⟩
  have fin' : ∀ (r : Int) (o : Ob), belOb st.length o = true → outF (st.set d (drawOb cs a l u)) (.rt (.int r) (st.set d o)) = .ok (.int r) (st.set d o) := fun r o ho => by
    show fin (st.set d (drawOb cs a l u)) (.int r) (st.set d o) = _
    have e : st.set d o = (st.set d (drawOb cs a l u)).set d o := by rw [List.set_set]
    rw [e]
    exact fin_set (by rw [List.length_set]; exact ho) rfl
  unfold runF
  by_cases h0 : 0 < l
  · refine ⟨l % many, a, l / many, u, ?_, (hmod l).1, (hmod l).2, ha, Int.ediv_nonneg hl (by omega), hu, by omega⟩
    have e : nextS (startE 6 [.loc d, .int many]) (st.set d (drawOb cs a l u)) = .rt (.int (l % many)) (st.set d (drawOb cs a (l / many) u)) := by
      simp [nextS, startE, sSeq, sIf, eTest, eB, eV, eC, bindR, bindS, optR, sx_left hdl, sAsg, gT, gCons', gNil', gN, gIx, eTup, eCons, eNil, fFdiv_eq (hdiv _), ss_left hdl, sRet, h0, hm, two_le, fMod_eq hm, List.replicate, fGt_eq]
    rw [e]
    exact fin' _ _ bel_draw
  · have hn : 0 < cs.length := List.length_pos_iff.mpr hcs
    have hln : (cs.map Val.int).length ≤ sizeLine := by rw [List.length_map, sizeLine_eq]; omega
    obtain ⟨c, hc⟩ : ∃ c, fIx (st.set d (drawOb cs a l u)) (.lst (cs.map Val.int)) (.int (a % ((cs.map Val.int).length : Int))) = some (.int c) := by
      have h1 : 0 ≤ a % (cs.length : Int) := Int.emod_nonneg _ (by omega)
      have h2 : a % (cs.length : Int) < cs.length := Int.emod_lt_of_pos _ (by omega)
      have h3 : (a % (cs.length : Int)).toNat < cs.length := by omega
      refine ⟨cs[(a % (cs.length : Int)).toNat], ix_lst (by rw [List.length_map]; exact h1) ?_⟩
      rw [List.length_map, List.getElem?_map, List.getElem?_eq_getElem h3]
      rfl
    have hn' : 0 < ((cs.map Val.int).length : Int) := by rw [List.length_map]; omega
    by_cases h1 : 1000000000000000000 ≤ c ∧ a + 1 ≤ ((cs.map Val.int).length : Int)
    · refine ⟨c % many, a + 1, c / many, u, ?_, (hmod c).1, (hmod c).2, by omega, Int.ediv_nonneg (by omega) (by omega), hu, by omega⟩
      have e : nextS (startE 6 [.loc d, .int many]) (st.set d (drawOb cs a l u)) = .rt (.int (c % many)) (st.set d (drawOb cs (a + 1) (c / many) u)) := by
        simp [nextS, startE, sSeq, sIf, sSkip, sSet, eTest, eB, eV, eC, eBf, bindR, bindS, optR, sx_left hdl, sx_cells hdl, sx_at hdl, sAsg, gT, gCons', gNil', gN, gIx, eTup, eCons, eNil, fFdiv_eq (hdiv _), ss_left hdl, ss_at hdl, sRet, h0, hm, two_le, fMod_eq hm, fMod_eq hn', hc,
          fLen_lst hln, List.replicate, fGt_eq, fGe_eq, fLe_eq, fAdd_int, fPow_18, eAndT, h1.1, h1.2, -List.length_map]
      rw [e]
      exact fin' _ _ bel_draw
    · have c1 : ∀ k, cMul 7919 k = true := fun k => cMul_left (by decide) (by decide)
      have c2 : ∀ k, cMul k (u + 1) = true := fun k => cMul_right (by omega) (by omega)
      have c3 : ∀ k, cMul 31 k = true := fun k => cMul_left (by decide) (by decide)
      have c4 : ∀ k, cMul k 48271 = true := fun k => cMul_right (by decide) (by decide)
      have c5 : ∀ k, cMul 2 k = true := fun k => cMul_left (by decide) (by decide)
      have c6 : ∀ n k : Int, cMul n (69621 + 2 * (k % 1000)) = true := fun n k => cMul_right (by omega) (by omega)
      have p1 : (0 : Int) < 1000000007 := by decide
      have p2 : (0 : Int) < 2147483647 := by decide
      have p3 : (0 : Int) < 2147483629 := by decide
      have p4 : (0 : Int) < 1000 := by decide
      have p5 : cDiv 0 7 = true := by decide
      have p6 : ∀ x, fFdiv (st.set d (drawOb cs (a + 1) l (u + 1))) (.int x) (.int 7) = some (.int (x / 7)) := fun x => fFdiv_eq (by exact p5)
      let f : Int → Int → Int := fun x k => (x + 31 * k + 7) * 48271 % 2147483647 * (69621 + 2 * (k % 1000)) % 2147483629
      refine ⟨f (f (c % 1000000007 + 7919 * (u + 1) * (u + 1)) (a + 1)) (u + 1) / 7 % many, a + 1, l, u + 1, ?_, (hmod _).1, (hmod _).2, by omega, hl, by omega, by omega⟩
      have e : nextS (startE 6 [.loc d, .int many]) (st.set d (drawOb cs a l u)) = .rt (.int (f (f (c % 1000000007 + 7919 * (u + 1) * (u + 1)) (a + 1)) (u + 1) / 7 % many)) (st.set d (drawOb cs (a + 1) l (u + 1))) := by
        have h2 : (decide (1000000000000000000 ≤ c) && decide (a + 1 ≤ ((cs.map Val.int).length : Int))) = false := by
          rw [← Bool.not_eq_true, Bool.and_eq_true, decide_eq_true_eq, decide_eq_true_eq]
          exact h1
        by_cases h3 : 1000000000000000000 ≤ c
        · have h4 : ¬ a + 1 ≤ ((cs.map Val.int).length : Int) := fun z => h1 ⟨h3, z⟩
          simp [f, nextS, startE, sSeq, sIf, sSkip, sSet, sFor, forL, itV, eTest, eB, eV, eC, eBf, bindR, bindS, optR, sx_left hdl, sx_cells hdl, sx_at hdl, sx_used hdl, sAsg, gT, gCons', gNil', gN, gIx, eTup, eCons, eNil, ss_used hdl, ss_at hdl, sRet, h0, hm, two_le, fMod_eq hm, fMod_eq hn',
            fMod_eq p1, fMod_eq p2, fMod_eq p3, fMod_eq p4, p6, hc, fLen_lst hln, List.replicate, fGt_eq, fGe_eq, fLe_eq, fAdd_int, fPow_18, eAndT, h3, h4, fMul_int (c1 _), fMul_int (c2 _), fMul_int (c3 _), fMul_int (c4 _), fMul_int (c5 _), fMul_int (c6 _ _), -List.length_map]
        · simp [f, nextS, startE, sSeq, sIf, sSkip, sSet, sFor, forL, itV, eTest, eB, eV, eC, eBf, bindR, bindS, optR, sx_left hdl, sx_cells hdl, sx_at hdl, sx_used hdl, sAsg, gT, gCons', gNil', gN, gIx, eTup, eCons, eNil, ss_used hdl, ss_at hdl, sRet, h0, hm, two_le, fMod_eq hm, fMod_eq hn',
            fMod_eq p1, fMod_eq p2, fMod_eq p3, fMod_eq p4, p6, hc, fLen_lst hln, List.replicate, fGt_eq, fGe_eq, fLe_eq, fAdd_int, fPow_18, eAndT, h3, fMul_int (c1 _), fMul_int (c2 _), fMul_int (c3 _), fMul_int (c4 _), fMul_int (c5 _), fMul_int (c6 _ _), -List.length_map]
      rw [e]
      exact fin' _ _ bel_draw
end Ev

set_option Elab.async false
set_option linter.all false
set_option maxRecDepth 100000
set_option maxHeartbeats 2000000
namespace Ev
open PySem PySem.Spec PyProof.Rows L2
theorem lcL_map {g : G} {e : E} {ρ : Env} {f : Val → Val} {st : Sto} : ∀ {vs : List Val}, (∀ v, v ∈ vs → ∃ ρ1, g v ρ st = some (ρ1, st) ∧ e ρ1 st = .ok (f v) st) → lcL g eYes e ρ vs st = .ok (vs.map f) st
  | [], _ => rfl
  | v :: vs, h => by
    obtain ⟨ρ1, h1, h2⟩ := h v List.mem_cons_self
    have ih := lcL_map (vs := vs) fun w hw => h w (List.mem_cons_of_mem _ hw)
    unfold lcL
    rw [h1]
    dsimp only [eYes]
    rw [h2]
    dsimp only
    rw [ih]
    rfl
theorem lc_map {own : List Nat} {it : EI} {g : G} {e : E} {ρ : Env} {f : Val → Val} {st : Sto} {vs : List Val} (hi : it ρ st = .ok vs st) (hl : vs.length ≤ 1000) (h : ∀ v, v ∈ vs → ∃ ρ1, g v (wipeE ρ own) st = some (ρ1, st) ∧ e ρ1 st = .ok (f v) st) :
    eLc false own it g eYes e ρ st = .ok (.lst (vs.map f)) st := by
  unfold eLc lcE
  rw [hi]
  dsimp only [bindR]
  rw [if_pos (by rw [sizeLine_eq]; omega), lcL_map h]
  rfl
theorem runF_rt {n : Nat} {b : S} {args : List Val} {st st' : Sto} {v : Val} (h : b (startE n args) st = .rt v st') (hs : ∃ more, st' = st ++ more) (hv : belV st.length v = true) : runF n b args st = .ok v st := by
  obtain ⟨more, rfl⟩ := hs
  unfold runF
  rw [h]
  show fin st v (st ++ more) = _
  rw [fin_bel (okOld_app (okOld_refl st) more) hv, List.take_left]
theorem runF_same {n : Nat} {b : S} {args : List Val} {st : Sto} {v : Val} (h : b (startE n args) st = .rt v st) (hv : belV st.length v = true) : runF n b args st = .ok v st :=
  runF_rt h ⟨[], (List.append_nil st).symm⟩ hv
theorem runF_nx {n : Nat} {b : S} {args : List Val} {st : Sto} {ρ : Env} (h : b (startE n args) st = .nx ρ st) : runF n b args st = .ok .non st := by
  unfold runF
  rw [h]
  show fin st .non st = _
  exact fin_same rfl
theorem toDs_ints : ∀ ns : List Int, toDs (ns.map Val.int) = some (ns.map PyData.int)
  | [] => rfl
  | n :: ns => by simp [toDs, toD, toDs_ints ns]
theorem toDs_map {α : Type} {f : α → Val} {d : α → PyData} : ∀ {xs : List α}, (∀ x, x ∈ xs → toD (f x) = some (d x)) → toDs (xs.map f) = some (xs.map d)
  | [], _ => rfl
  | x :: xs, h => by
    rw [List.map_cons, toDs, h x List.mem_cons_self, toDs_map fun y hy => h y (List.mem_cons_of_mem _ hy)]
    rfl
theorem fNe_self {st : Sto} {v : Val} {d : PyData} (h : toD (dr st v) = some d) (hs : SeqAt.shaped d = true) : fNe st v v = some (.bl false) := by
  unfold fNe
  rw [h]
  dsimp only
  rw [if_pos (by rw [hs]; rfl), PySem.SeqAt.eqv_refl d (SeqAt.canLay_of_shaped hs)]
  rfl
theorem fEq_self {st : Sto} {v : Val} {d : PyData} (h : toD (dr st v) = some d) (hs : SeqAt.shaped d = true) : fEq st v v = some (.bl true) := by
  unfold fEq
  rw [h]
  dsimp only
  rw [if_pos (by rw [hs]; rfl), PySem.SeqAt.eqv_refl d (SeqAt.canLay_of_shaped hs)]
theorem fRepr_ok {st : Sto} {v : Val} {d : PyData} (h : toD (dr st v) = some d) (hr : reprOk d = true) : fRepr st [v] = some (.str d.shown) := by
  unfold fRepr
  dsimp only
  rw [h]
  dsimp only
  rw [if_pos hr]
abbrev nS (l : List Nat) : Str := SX.S l
/-- the signs of a number from -1 on -/
def wI (i : Int) : List Nat := if i < 0 then [45, 49] else TL.numL i.toNat
theorem iStr_w {i : Int} (h : -1 ≤ i) : iStr i = nS (wI i) := by
  unfold wI
  by_cases h0 : i < 0
  · rw [if_pos h0]
    have e : i = -1 := by omega
    subst e
    decide
  · rw [if_neg h0]
    obtain ⟨n, rfl⟩ := Int.eq_ofNat_of_zero_le (show 0 ≤ i by omega)
    exact SX.num_S n
theorem wI_nat (n : Nat) : wI (n : Int) = TL.numL n := by
  unfold wI
  rw [if_neg (by omega), Int.toNat_natCast]
theorem wI_signs {i : Int} {c : Nat} (h : c ∈ wI i) : c = 45 ∨ (48 ≤ c ∧ c ≤ 57) := by
  unfold wI at h
  split at h
  · simp at h; omega
  · exact .inr (TL.numL_digits _ c h)
theorem wI_ne (i : Int) : wI i ≠ [] := by
  unfold wI
  split
  · simp
  · exact TL.numL_ne _
theorem wI_len {i : Int} (h : i ≤ 10 ^ 30) : (wI i).length ≤ 31 := by
  unfold wI
  split
  · decide
  · exact TL.numL_len (by decide) (by omega)
theorem str_blank : (" " : Str) = nS [32] := by decide
theorem str_line : ("\n" : Str) = nS [10] := by decide
theorem split_join {c : Nat} (hc : c < 256) {parts : List (List Nat)} (hne : parts ≠ []) (h : ∀ p, p ∈ parts → c ∉ p) : Txt.split (nS (TL.joinL [c] parts)) (nS [c]) = parts.map nS := by
  have e := SX.split_S (a := TL.joinL [c] parts) (b := [c]) (by simp) (by simp [hc])
  rw [e, SX.spl_join hne h]
theorem joinL_len (c : Nat) : ∀ parts : List (List Nat), (TL.joinL [c] parts).length ≤ (parts.map (·.length)).sum + parts.length
  | [] => by simp [TL.joinL]
  | [p] => by simp [TL.joinL]
  | p :: q :: r => by
    have := joinL_len c (q :: r)
    simp only [TL.joinL, List.length_append, List.map_cons, List.sum_cons, List.length_cons, List.length_nil] at this ⊢
    omega
theorem sum_le {l : List Nat} {k : Nat} (h : ∀ x, x ∈ l → x ≤ k) : l.sum ≤ l.length * k := by
  induction l with
  | nil => simp
  | cons a l ih =>
    have h1 := h a List.mem_cons_self
    have h2 := ih fun x hx => h x (List.mem_cons_of_mem _ hx)
    rw [List.sum_cons, List.length_cons, Nat.add_mul]
    omega
theorem mem_joinL {c d : Nat} : ∀ {parts : List (List Nat)}, d ∈ TL.joinL [c] parts → d = c ∨ ∃ p, p ∈ parts ∧ d ∈ p
  | [], h => by simp [TL.joinL] at h
  | [p], h => .inr ⟨p, by simp, h⟩
  | p :: q :: r, h => by
    simp only [TL.joinL, List.mem_append, List.mem_singleton] at h
    rcases h with h | h | h
    · exact .inr ⟨p, by simp, h⟩
    · exact .inl h
    · rcases mem_joinL h with e | ⟨x, h1, h2⟩
      · exact .inl e
      · exact .inr ⟨x, List.mem_cons_of_mem _ h1, h2⟩
/-- the first sign of a number -/
theorem numL_head : ∀ n : Nat, 0 < n → ∃ c r, TL.numL n = c :: r ∧ c ≠ 48 := by
  intro n
  induction n using Nat.strongRecOn with
  | ind n ih =>
    intro h
    by_cases h10 : n < 10
    · exact ⟨48 + n, [], TL.numL_lt h10, by omega⟩
    · obtain ⟨c, r, e, hc⟩ := ih (n / 10) (by omega) (by omega)
      exact ⟨c, r ++ [48 + n % 10], by rw [TL.numL_step (by omega), e]; rfl, hc⟩
end Ev

set_option Elab.async false
set_option linter.all false
set_option maxRecDepth 100000
set_option maxHeartbeats 2000000
namespace Ev
open PySem PySem.Spec PyProof.Rows L2
structure Sm (d : PyData) (k b : Nat) : Prop where
  lv : PyData.leavesShort 100 d = true
  sh : PyData.showable d = true
  nd : PyData.hasDict d = false
  ly : PyData.canLay0 d = true
  dp : d.depth ≤ k
  bk : d.bulk ≤ b
structure SmAll (ds : List PyData) (k b : Nat) : Prop where
  lv : PyData.leavesShortAll 100 ds = true
  sh : PyData.showableAll ds = true
  nd : PyData.hasDictAll ds = false
  ly : PyData.canLayAll0 ds = true
  dp : PyData.depthAll ds ≤ k
  bk : PyData.bulkAll ds ≤ ds.length * (b + 1)
theorem Sm.all {k b : Nat} : ∀ {ds : List PyData}, (∀ d, d ∈ ds → Sm d k b) → SmAll ds k b
  | [], _ => ⟨rfl, rfl, rfl, rfl, Nat.zero_le _, Nat.zero_le _⟩
  | d :: ds, h => by
    have h1 := h d List.mem_cons_self
    have h2 := Sm.all fun e he => h e (List.mem_cons_of_mem _ he)
    refine ⟨?_, ?_, ?_, ?_, ?_, ?_⟩
    · rw [PyData.leavesShortAll, h1.lv, h2.lv]; rfl
    · rw [PyData.showableAll, h1.sh, h2.sh]; rfl
    · rw [PyData.hasDictAll, h1.nd, h2.nd]; rfl
    · rw [PyData.canLayAll0, h1.ly, h2.ly]; rfl
    · rw [PyData.depthAll]; exact Nat.max_le.mpr ⟨h1.dp, h2.dp⟩
    · rw [PyData.bulkAll, List.length_cons, Nat.add_mul]
      have := h1.bk
      have := h2.bk
      omega
theorem SmAll.tup {ds : List PyData} {k b : Nat} (h : SmAll ds k b) : Sm (.tuple ds) (k + 1) (ds.length * (b + 1)) :=
  ⟨by rw [PyData.leavesShort]; exact h.lv, by rw [PyData.showable]; exact h.sh, by rw [PyData.hasDict]; exact h.nd, by rw [PyData.canLay0]; exact h.ly, by rw [PyData.depth]; exact Nat.add_le_add_right h.dp 1, by rw [PyData.bulk]; exact h.bk⟩
theorem SmAll.lst {ds : List PyData} {k b : Nat} (h : SmAll ds k b) : Sm (.list ds) (k + 1) (ds.length * (b + 1)) :=
  ⟨by rw [PyData.leavesShort]; exact h.lv, by rw [PyData.showable]; exact h.sh, by rw [PyData.hasDict]; exact h.nd, by rw [PyData.canLay0]; exact h.ly, by rw [PyData.depth]; exact Nat.add_le_add_right h.dp 1, by rw [PyData.bulk]; exact h.bk⟩
theorem Sm.le {d : PyData} {k b k' b' : Nat} (h : Sm d k b) (hk : k ≤ k') (hb : b ≤ b') : Sm d k' b' := ⟨h.lv, h.sh, h.nd, h.ly, Nat.le_trans h.dp hk, Nat.le_trans h.bk hb⟩
theorem log_small {i : Int} (h1 : -1 ≤ i) (h2 : i ≤ 10 ^ 30) : i.natAbs.log2 < 1920 := by
  have h4 : i.natAbs < 2 ^ 100 := by
    have : (2 : Nat) ^ 100 = 1267650600228229401496703205376 := by decide
    omega
  by_cases h0 : i.natAbs = 0
  · rw [h0]; decide
  · have := (Nat.log2_lt h0).mpr h4
    omega
theorem Sm.int {i : Int} (h1 : -1 ≤ i) (h2 : i ≤ 10 ^ 30) : Sm (.int i) 0 0 := by
  refine ⟨?_, ?_, rfl, rfl, Nat.le_refl _, Nat.le_refl _⟩
  · rw [PyData.leavesShort, decide_eq_true_eq, PyData.shown_int]
    show (iStr i).length ≤ 100
    rw [iStr_w h1, SX.S_len]
    have := wI_len h2
    omega
  · rw [PyData.showable, decide_eq_true_eq]
    exact log_small h1 h2
theorem Sm.str {l : List Nat} {b : Nat} (h : ∀ c, c ∈ l → c < 128) (hl : l.length ≤ b) : Sm (.str (nS l)) 0 b := by
  refine ⟨?_, rfl, rfl, ?_, Nat.le_refl _, ?_⟩
  · rw [PyData.leavesShort, List.all_eq_true]
    intro c hc
    rw [decide_eq_true_eq]
    have := h c (by simpa using hc)
    omega
  · rw [PyData.canLay0]
    unfold PyData.strOk
    rw [← Array.all_toList, List.all_eq_true]
    intro c hc
    rw [decide_eq_true_eq]
    have := h c (by simpa using hc)
    omega
  · rw [PyData.bulk]
    simpa using hl
theorem Sm.shaped {d : PyData} {k b : Nat} (h : Sm d k b) (hk : k ≤ 60) : SeqAt.shaped d = true := by
  unfold SeqAt.shaped
  rw [h.ly, decide_eq_true (show d.depth ≤ 64 by have := h.dp; omega)]
  rfl
theorem Sm.repr {d : PyData} {k b : Nat} (h : Sm d k b) (hk : k ≤ 60) (hb : b ≤ 100000) : reprOk d = true := by
  have e := PyData.shown_le_bulk 100 (by decide) d h.lv
  have e2 : d.shown.length ≤ sizeLine := by
    rw [sizeLine_eq]
    have := h.bk
    omega
  unfold reprOk
  rw [h.sh, h.nd, decide_eq_true (show d.depth ≤ 60 by have := h.dp; omega), decide_eq_true e2]
  rfl
/-- the same on both sides -/
theorem neA_self {st : Sto} {v : Val} {d : PyData} {k b : Nat} (h : toD (dr st v) = some d) (hs : Sm d k b) (hk : k ≤ 60) : fNeA st v v = some (.bl false) := by
  unfold fNeA
  split
  · simp
  · simp
  · exact fNe_self h (hs.shaped hk)
theorem eqA_self {st : Sto} {v : Val} {d : PyData} {k b : Nat} (h : toD (dr st v) = some d) (hs : Sm d k b) (hk : k ≤ 60) : fEqA st v v = some (.bl true) := by
  unfold fEqA
  split
  · simp
  · simp
  · exact fEq_self h (hs.shaped hk)
theorem neA_str {st : Sto} {a : Str} : fNeA st (.str a) (.str a) = some (.bl false) := by
  simp [fNeA]
end Ev

set_option Elab.async false
set_option linter.all false
set_option maxRecDepth 100000
set_option maxHeartbeats 2000000
namespace Ev
open PySem PySem.Spec PyProof.Rows L2
section
variable {X : Cx} {T : Tab} {W : WX}
/-- B.__init__(self, ..), B an own class over ValueError without an __init__ of its own -/
theorem pe_oinit {x : Str} {B : Addr} {mc : Value} {e : Expr} {es : List Expr} {ta : TA} {p1 p2 pos : Pos} {pl : Sem Bool} (hm : X.mg x = some (.ref B)) (r : ClX.CRead X.K B mc) (vV : PySem.W.findCls X.K (.ref B) mc "__init__" = some (.val (.builtin "ValueError.__init__"))) (ha : PA X (e :: es) ta) (hg : Gl X x := by rfl)
    (hc : eval (.Call (.Attribute (.Name x p1) "__init__" p2) (e :: es) [] pos) X.env = (do
      let ov ← eval (.Name x p1) X.env
      standAt p2.atName
      let (f, first) ← holding [ov] (getMethod ov "__init__" pl)
      callWith pos f first (backTo pos (starEach (e :: es) X.env)) (backToKw pos (keywordEach [] X.env))) := by rfl)
    (he : starEach (e :: es) X.env = (false, eval e X.env) :: starEach es X.env := by rfl) (hpl : (backTo pos (starEach es X.env)).any (·.1) = false := by rfl) (hdb : (x == ("__debug__" : Str)) = false := by decide) :
    PE X (.Call (.Attribute (.Name x p1) "__init__" p2) (e :: es) [] pos) (tVeI X.K ta) := by
  refine ⟨fun pins s σ H Q I h => ?_⟩
  refine PySem.W.methodCall_KW (ld_glob I hg hm ?_ hdb) hc
  refine PySem.W.method_cls I.kIn r.ga (PySem.W.cls_value I.kIn r.rd vV (by decide +kernel) ?_)
  show wpAny _ _ (callWith pos (Value.builtin "ValueError.__init__") [] (backTo pos (starEach (e :: es) X.env)) []) _ _ _
  refine PyProof.Rows.callWith_method1 (thn (ha.run pos pins _ σ H _ (I.tok _) h) fun us s1 ⟨vs, H1, I1, r1, a, C, ws, ev, hl, T, ea, q⟩ => ?_) he hpl
  subst ev
  cases r1 with
  | @cons _ u0 _ ur ra rw' =>
    obtain rfl : u0 = Value.ref a := ra
    exact oinit_ok T I1 ea (by rw [← Paired.length rw', sizeLine_eq]; omega) fun s' J => ⟨.non, H1, J, rfl, q⟩
/-- what such an __init__ keeps: it lays the fields down -/
def spI (C : Addr) (ns : List Str) : Sp := fun vs H Q _ => ∃ (a : Addr) (ys : List V), vs = .ref a :: ys ∧ ys.length = ns.length ∧ H a = some (exo a C none) ∧ ∀ dx, H dx = none → dx ≠ a → Q .non (upd (upd H dx (exd dx (ns.zip ys).reverse)) a (exo a C (some dx)))
/-- the class's own facts, by computing -/
def oexB (K : PySem.W.Frag) (C : Addr) : Bool := (match K.lookup C with
  | some ⟨.type "type", dd, .cls cd, sl⟩ => (match cd.mro, sl.toList with
    | .ref C' :: bm, [_, _, _, _, some (.builtin n), _] => C' == C && n == "ValueError.__new__" && !cd.hasDel && cd.hasDict && PySem.HandSPX.refsVE bm
    | _, _ => false)
  | _ => false) && decide (PySem.W.findIn K (.ref C) "__setattr__" = some (some (.builtin "object.__setattr__"))) && decide (PySem.W.subIn K (.ref C) (.type "BaseException") = some true) && decide (PySem.W.typeIn K (.ref C) = some (.type "type")) && PySem.W.keepIn K (.ref C)
theorem oexC_of {K : PySem.W.Frag} {C : Addr} (h : oexB K C = true) : OexC K C := by
  unfold oexB at h
  rw [Bool.and_eq_true, Bool.and_eq_true, Bool.and_eq_true, Bool.and_eq_true, decide_eq_true_eq, decide_eq_true_eq, decide_eq_true_eq] at h
  obtain ⟨⟨⟨⟨h, h2⟩, h3⟩, h4⟩, h5⟩ := h
  refine ⟨?_, h2, h3, h4, h5⟩
  split at h
  · rename_i dd cd sl ho
    split at h
    · rename_i C' bm k0 k1 k2 k3 n k5 hm hs
      simp only [Bool.and_eq_true, beq_iff_eq, Bool.not_eq_true'] at h
      obtain ⟨⟨⟨⟨rfl, rfl⟩, hdel⟩, hdict⟩, ht⟩ := h
      obtain ⟨nm, bs, mro, ns, qn, hd, sn, sub, ab, col, del⟩ := cd
      dsimp only at hm hdel hdict
      subst hm hdel hdict
      have hsl : sl = #[k0, k1, k2, k3, some (.builtin "ValueError.__new__"), k5] := by
        obtain ⟨l⟩ := sl
        simp only at hs
        rw [hs]
      subst hsl
      exact ⟨_, _, _, _, _, _, _, _, _, _, _, _, _, _, _, ho, ht⟩
    · cases h
  · cases h
structure InitAt (P : Program) (w : World) (K : PySem.W.Frag) (mg : Str → Option Value) (base : Heap) (x : Str) (C : Addr) (ns : List Str) : Prop where
  ex : ∃ fI fd ps, mg x = some (.ref C) ∧ OexC K C ∧ PySem.W.findIn K (.ref C) "__init__" = some (some (.ref fI)) ∧ PySem.W.typeIn K (.ref fI) = some (.type "function") ∧ Binds K fd ps [] ∧ ps.length = ns.length + 1 ∧ FnOk P w K mg base (L2.CX P w) 1 fI fd ps (spI C ns)
theorem init1_read {K : PySem.W.Frag} {C : Addr} {z f : Str} {N : List Str} {vs : List V} {H : Hp} {Q : VK} {E : XK} (T : OexC K C) (hf : PySem.W.findIn K (.ref C) f = some none) (h : spI C [f] vs H Q E) :
    tSeq (tDrop (tVeI K (tCons (tVar 0) (tCons (tC (.str z)) tNil)))) (tOst K f (tVar 0) (tVar 1)) { nx := fun _ H' => Q .non H', rt := Q } (L2.start N vs) H := by
  obtain ⟨a, ys, rfl, hl, ha, q⟩ := h
  obtain ⟨y, rfl⟩ : ∃ y, ys = [y] := by
    match ys, hl with
    | [y], _ => exact ⟨y, rfl⟩
  refine ⟨.ref a, rfl, a, C, [.str z], rfl, by simp, T, ha, ?_⟩
  exact ⟨y, rfl, .ref a, rfl, a, C, rfl, T, hf, .inl ⟨ha, fun dx h1 h2 => q dx h1 h2⟩⟩
theorem init2_read {K : PySem.W.Frag} {C : Addr} {z f g : Str} {N : List Str} {vs : List V} {H : Hp} {Q : VK} {E : XK} (T : OexC K C) (hf : PySem.W.findIn K (.ref C) f = some none) (hg : PySem.W.findIn K (.ref C) g = some none) (h : spI C [f, g] vs H Q E) :
    tSeq (tDrop (tVeI K (tCons (tVar 0) (tCons (tC (.str z)) tNil)))) (tSeq (tOst K f (tVar 0) (tVar 1)) (tOst K g (tVar 0) (tVar 2))) { nx := fun _ H' => Q .non H', rt := Q } (L2.start N vs) H := by
  obtain ⟨a, ys, rfl, hl, ha, q⟩ := h
  obtain ⟨y, y2, rfl⟩ : ∃ y y2, ys = [y, y2] := by
    match ys, hl with
    | [y, y2], _ => exact ⟨y, y2, rfl⟩
  refine ⟨.ref a, rfl, a, C, [.str z], rfl, by simp, T, ha, ?_⟩
  refine ⟨y, rfl, .ref a, rfl, a, C, rfl, T, hf, .inl ⟨ha, fun dx h1 h2 => ?_⟩⟩
  refine ⟨y2, rfl, .ref a, rfl, a, C, rfl, T, hg, .inr ⟨dx, [(f, y)], upd_same, by rw [upd_ne h2, upd_same], by simp, ?_⟩⟩
  have e : upd (upd (upd H dx (exd dx [(f, y)])) a (exo a C (some dx))) dx (exd dx [(g, y2), (f, y)]) = upd (upd H dx (exd dx [(g, y2), (f, y)])) a (exo a C (some dx)) := by
    funext b
    by_cases hb : b = dx
    · subst hb
      rw [upd_same, upd_ne h2, upd_same]
    · rw [upd_ne hb]
      by_cases hb2 : b = a
      · subst hb2; rw [upd_same, upd_same]
      · rw [upd_ne hb2, upd_ne hb, upd_ne hb2, upd_ne hb]
  show Q .non _
  rw [e]
  exact q dx h1 h2
def sRaise (c : Nat) (ns : List Str) (a : EA) : S := fun ρ st => bindS (a ρ st) ρ fun vs st1 => if vs.length = ns.length then .ex (.exc c ns.reverse vs.reverse) ρ st1 else .bad
theorem s_raise {c k : Nat} {x : Str} {ns : List Str} {e : Expr} {es : List Expr} {as : EA} {p pos pos' : Pos} (F : InitAt X.prog X.w X.K X.mg X.base x (T.ca c) ns) (hns : ns.length ≤ 10) (hc : X.calm = true) (hr : Room (k + 2) X.A) (tk : Takes X W) (ha : PA X (e :: es) (tA T W as)) (hg : Gl X x := by rfl)
    (hdb : (x == ("__debug__" : Str)) = false := by decide) (he : starEach (e :: es) X.env = (false, eval e X.env) :: starEach es X.env := by rfl) (hpl : (backTo pos (starEach es X.env)).any (·.1) = false := by rfl) :
    PS X (.Raise (some (.Call (.Name x p) (e :: es) [] pos)) none pos') (tS T W (sRaise c ns as)) := by
  obtain ⟨fI, fd, ps, hm, O, iC, tI, hb, hl, F1⟩ := F.ex
  have hx : Passes (L2.CX X.prog X.w) X (fun _ _ _ => False) := fun pins σ H s e s' I ⟨_, _, _, _, _, _, _, _, _, _, _, _, z⟩ => z.elim
  refine ps_imp (ps_raise hc tk (pmk_oex O iC tI F1 (hr.mono (by omega)) hb .nil hx hg hm ha hdb he hpl)) fun D σ H h => ?_
  refine tS_bind h fun vs ρ st1 φ1 H1 us re1 q1 p1 => ?_
  split at p1
  · rename_i hlen
    refine ⟨by rw [← q1.length]; omega, fun a hna => ?_⟩
    rw [List.append_nil]
    refine ⟨a, us, rfl, by rw [← q1.length]; exact hlen, upd_same, fun dx h1 h2 => ?_⟩
    have hd : H1 dx = none := by rw [upd_ne h2] at h1; exact h1
    refine ⟨rfl, dx, (ns.zip us).reverse, upd_same, by rw [upd_ne h2, upd_same], hd, ?_⟩
    have eH : upd (del (upd (upd (upd H1 a (exo a (T.ca c) none)) dx (exd dx (ns.zip us).reverse)) a (exo a (T.ca c) (some dx))) a) dx (.xd (ns.zip us).reverse) = upd H1 dx (.xd (ns.zip us).reverse) := by
      funext b
      by_cases hb : b = dx
      · subst hb; rw [upd_same, upd_same]
      · rw [upd_ne hb, upd_ne hb]
        by_cases hb2 : b = a
        · subst hb2; rw [del_same, hna]
        · rw [del_ne hb2, upd_ne hb2, upd_ne hb, upd_ne hb2]
    rw [eH]
    have ez : (ns.zip us).reverse = ns.reverse.zip us.reverse := by
      have hl2 : ns.length = us.length := by rw [← q1.length]; exact hlen.symm
      rw [List.zip_eq_zipWith, List.zip_eq_zipWith, List.reverse_zipWith hl2]
    have e1 := Ext.fresh (ho := .xd (ns.zip us).reverse) re1.rst hd
    refine p1 φ1 _ σ _ _ e1 (re1.ext e1 (re1.rst.fresh hd)) ⟨c, ns.reverse, vs.reverse, us.reverse, dx, rfl, rfl, rfl, re1.rst.nolive hd, .inl (by rw [ez]; exact upd_same), ?_, ?_⟩
    · rw [List.length_reverse, List.length_reverse, ← q1.length]; exact hlen.symm
    · exact (RelVs.reverse q1).ext e1
  · exact p1.elim
/-- the j-th statement of a class -/
def inCls (st : Stmt) (j : Nat) : Stmt := match st with
  | .ClassDef (body := b) .. => b.getD j (.Pass ⟨0, 0, 0, 0⟩)
  | _ => .Pass ⟨0, 0, 0, 0⟩
abbrev mOf (x m q : Str) (st : Stmt) : He.DefD := ⟨(x, some m), m, q, defArgs st, defBody st, defScope st, [], []⟩
/-- what the head must tell of a class with such an __init__: its base B, its fields -/
def initB (K : PySem.W.Frag) (x b : Str) (fs : List Str) : Bool := oexB K (He.ga K x) && decide (PySem.W.findIn K (.ref (He.ga K x)) "__init__" = some (some (.ref (He.fAd K (x, some "__init__"))))) && decide (PySem.W.typeIn K (.ref (He.fAd K (x, some "__init__"))) = some (.type "function"))
  && fs.all (fun f => decide (PySem.W.findIn K (.ref (He.ga K x)) f = some none)) && PySem.W.readsIn K (He.ga K b) (.type "type") && decide (PySem.W.specialIn K (.ref (He.ga K b)) "__getattribute__" = some (some (.builtin "type.__getattribute__")))
  && (match PySem.W.findCls K (.ref (He.ga K b)) (.type "type") "__init__" with
    | some (.val v) => v == .builtin "ValueError.__init__"
    | _ => false)
structure InitF (K : PySem.W.Frag) (x b : Str) (fs : List Str) : Prop where
  oex : OexC K (He.ga K x)
  fi : PySem.W.findIn K (.ref (He.ga K x)) "__init__" = some (some (.ref (He.fAd K (x, some "__init__"))))
  ty : PySem.W.typeIn K (.ref (He.fAd K (x, some "__init__"))) = some (.type "function")
  fs : ∀ f, f ∈ fs → PySem.W.findIn K (.ref (He.ga K x)) f = some none
  rd : ClX.CRead K (He.ga K b) (.type "type")
  vi : PySem.W.findCls K (.ref (He.ga K b)) (.type "type") "__init__" = some (.val (.builtin "ValueError.__init__"))
theorem initF_of {K : PySem.W.Frag} {x b : Str} {fs : List Str} (h : initB K x b fs = true) : InitF K x b fs := by
  unfold initB at h
  simp only [Bool.and_eq_true, decide_eq_true_eq, List.all_eq_true] at h
  obtain ⟨⟨⟨⟨⟨⟨h1, h2⟩, h3⟩, h4⟩, h5⟩, h6⟩, h7⟩ := h
  refine ⟨oexC_of h1, h2, h3, h4, ⟨h5, h6⟩, ?_⟩
  split at h7
  · rename_i v hv
    rw [hv, eq_of_beq h7]
  · cases h7
end
end Ev

set_option Elab.async false
set_option linter.all false
set_option maxRecDepth 100000
set_option maxHeartbeats 2000000
namespace Ev
open PySem PySem.Spec PyProof.Rows L2
section
variable {X : Cx} {T : Tab} {W : WX}
def fPart (_ : Sto) (v w : Val) : Option Val := match v, w with
  | .str a, .str b => if b.length ≠ 0 ∧ a.length ≤ sizeLine then some (.tup [.str (Txt.partition a b).1, .str (Txt.partition a b).2.1, .str (Txt.partition a b).2.2]) else none
  | _, _ => none
def rPart : V → List V → Hp → VK → Prop := fun x xs H Q => ∃ a b, x = .str a ∧ xs = [.str b] ∧ (b.length == 0) = false ∧ a.length ≤ sizeLine ∧
    ∀ p, H p = none → Q (.ref p) (upd H p (.tup [.str (Txt.partition a b).1, .str (Txt.partition a b).2.1, .str (Txt.partition a b).2.2]))
theorem snd_part : SndB1 T rPart fPart := by
  intro φ st H v w z x y Q R r1 r2 hf hq
  unfold fPart at hf
  split at hf
  · split at hf
    · rename_i hz
      cases hf
      cases r1
      cases r2
      refine ⟨_, _, rfl, rfl, by simpa using hz.1, hz.2, fun p hp => ?_⟩
      exact hq _ _ (Ext.fresh R hp) (R.fresh hp) (.tup upd_same (.cons (.str _) (.cons (.str _) (.cons (.str _) .nil))))
    · cases hf
  · cases hf
theorem e_part {o e : Expr} {eo ee : E} {apos pos : Pos} (ho : PE X o (tE T W eo)) (he : PE X e (tE T W ee)) (hse : starEach [e] X.env = [(false, eval e X.env)] := by rfl)
    (hbase : attributeBase o "partition" X.env (eval o X.env) = eval o X.env := by rfl) (hline : (apos.endLine == pos.line) = true := by rfl) : PE X (.Call (.Attribute o "partition" apos) [e] [] pos) (tE T W (eM1 fPart eo ee)) :=
  e_m1 F.slot_str_partition F.type_str_partition (mt_partition (X := X)) snd_part ho he hse hbase hline
/-- d.get(k, x) -/
def isDV (st : Sto) : Val → Bool
  | .loc n => match st[n]? with
    | some (.dK _) => true
    | some (.dT _) => true
    | some (.lkK _) => true
    | some (.lkT _) => true
    | _ => false
  | .dct _ _ => true
  | _ => false
def eGet2 (o k x : E) : E := fun ρ st => bindR (o ρ st) fun v st1 => if isDV st1 v = true then bindR (k ρ st1) fun w st2 => bindR (x ρ st2) fun z st3 => match dGet st3 v w with
  | some (some y) => .ok y st3
  | some none => .ok z st3
  | none => .bad else .bad
theorem e_get2 {o e f : Expr} {eo ee ef : E} {apos cpos : Pos} (hu : X.A.units + 1 < cLine) (ho : PE X o (tE T W eo)) (he : PE X e (tE T W ee)) (hf : PE X f (tE T W ef)) (m : M2 X o "get" apos e f cpos) :
    PE X (.Call (.Attribute o "get" apos) [e, f] [] cpos) (tE T W (eGet2 eo ee ef)) := by
  refine pe_imp (pe_dget2 hu ho he hf m) fun σ H Q h => ?_
  refine tG_bind h fun v ρ st1 φ1 H1 u re1 q1 p1 => ?_
  split at p1
  · rename_i hd
    obtain ⟨a, rfl, hD⟩ : ∃ a, u = .ref a ∧ IsD H1 a := by
      cases q1 with
      | @loc n u hn hu2 =>
        unfold isDV at hd
        dsimp only at hd
        split at hd
        · rename_i q
          obtain ⟨a, e1, us, e2, e3⟩ := re1.rst.at q (by simp)
          exact ⟨a, hu2 a e1, .inl ⟨_, .inl e2⟩⟩
        · rename_i q
          obtain ⟨a, e1, us, e2, e3⟩ := re1.rst.at q (by simp)
          exact ⟨a, hu2 a e1, .inr ⟨_, .inl e2⟩⟩
        · rename_i q
          obtain ⟨a, e1, ob, us, e2, e3⟩ := re1.rst.at q (by simp)
          exact ⟨a, hu2 a e1, .inl ⟨_, .inr ⟨ob, e2⟩⟩⟩
        · rename_i q
          obtain ⟨a, e1, ob, us, e2, e3⟩ := re1.rst.at q (by simp)
          exact ⟨a, hu2 a e1, .inr ⟨_, .inr ⟨ob, e2⟩⟩⟩
        · cases hd
      | dct h1 h2 h3 h4 => exact ⟨_, rfl, .inl ⟨_, h2⟩⟩
      | _ => cases hd
    refine ⟨a, rfl, hD, φ1, ρ, st1, re1, post_bind p1 fun w st2 φ2 H2 y _ e2 s2 q2 p2 => ?_⟩
    refine ⟨φ2, ρ, st2, re1.ext e2 s2, post_bind p2 fun z st3 φ3 H3 uz _ e3 s3 q3 p3 => ?_⟩
    have r1 := (q1.ext e2).ext e3
    have r2 := q2.ext e3
    cases hg : dGet st3 v w with
    | none => rw [hg] at p3; exact p3.elim
    | some oo =>
      obtain ⟨b, rr, hb, hD3, hz⟩ := rel_dget s3 r1 r2 hg
      cases hb
      refine ⟨rr, hD3, ?_⟩
      rw [hg] at p3
      rcases hz with ⟨rfl, rfl⟩ | ⟨y', u', rfl, rfl, ry⟩
      · exact p3.ok_self s3 q3
      · exact p3.ok_self s3 ry
  · exact p1.elim
end
end Ev

set_option Elab.async false
set_option linter.all false
set_option maxRecDepth 100000
set_option maxHeartbeats 2000000
namespace Ev
open PySem PySem.Spec PyProof.Rows L2
section
variable {M : Model} {K : PySem.W.Frag}
theorem for_each {A : Around} {E : Value → Shared → Prop} {s : Shared} {body : Value → PUnit → Sem (ForInStep PUnit)} {Q : PUnit → Shared → Prop} : ∀ {cs : List Value},
    (∀ c, c ∈ cs → ∀ R : ForInStep PUnit → Shared → Prop, R (.yield ⟨⟩) s → wpAny M A (body c ⟨⟩) R E s) → Q ⟨⟩ s → wpAny M A (forIn cs PUnit.unit body) Q E s
  | [], _, q => by
    rw [List.forIn_nil]
    exact wpAny_pure q
  | c :: cs, h, q => by
    rw [List.forIn_cons]
    exact wpAny_bind (h c List.mem_cons_self _ (for_each (cs := cs) (fun d hd => h d (List.mem_cons_of_mem _ hd)) q))
theorem for_any {A : Around} {E : Value → Shared → Prop} {s : Shared} {f : Value → Bool} {body : Value → Option Bool × PUnit → Sem (ForInStep (Option Bool × PUnit))} {Q : Option Bool × PUnit → Shared → Prop} : ∀ {cs : List Value},
    (∀ c, c ∈ cs → ∀ R : ForInStep (Option Bool × PUnit) → Shared → Prop, R (if f c = true then .done (some true, ⟨⟩) else .yield (none, ⟨⟩)) s → wpAny M A (body c (none, ⟨⟩)) R E s) →
    Q (if cs.any f = true then (some true, ⟨⟩) else (none, ⟨⟩)) s → wpAny M A (forIn cs (none, PUnit.unit) body) Q E s
  | [], _, q => by
    rw [List.forIn_nil]
    exact wpAny_pure q
  | c :: cs, h, q => by
    rw [List.forIn_cons]
    refine wpAny_bind (h c List.mem_cons_self _ ?_)
    cases hc : f c with
    | true =>
      rw [List.any_cons, hc] at q
      exact wpAny_pure q
    | false =>
      rw [List.any_cons, hc, Bool.false_or] at q
      exact for_any (cs := cs) (fun d hd => h d (List.mem_cons_of_mem _ hd)) q
/-- an exception against a tuple of classes, any number of them -/
theorem exm_tups {cls : Value} {tp e : Addr} {cs : List Value} {f : Value → Bool} {h : Heap} {n : Nat} (X : K.In h) (LT : PySem.W.Looks M h (typeOf (.ref e)) cls) (hp : h.get? tp = some { cls := .type "tuple", data := .seq cs.toArray n })
    (hx : ∀ c, c ∈ cs → PySem.W.exmOne K cls c = some (f c)) : PySem.W.Looks M h (excMatches (.ref e) (.ref tp)) (cs.any f) := by
  intro A Q E s k q
  have L0 : PySem.W.Looks M h (isInstance (.ref tp) (.type "tuple")) true := ((PySem.W.Looks.ld hp).andThen .now).andThen (PySem.W.Looks.of_pure isSubtype_tuple_tuple)
  have hp' := k _ _ hp
  unfold excMatches
  refine wpAny_bind ((L0.keeps k).here ?_)
  dsimp only
  rw [if_pos rfl]
  refine wpAny_bind (wpAny_seqItems hp' rfl ?_)
  refine wpAny_bind (wpAny_pure ?_)
  dsimp only [Option.getD_some, Option.getD]
  refine wpAny_bind (for_each (fun c hc R r => ?_) ?_)
  · obtain ⟨e1, _⟩ := PySem.W.exm_cls (M := M) X (hx c hc)
    refine wpAny_bind ((e1.keeps k).here ?_)
    exact wpAny_pure r
  · refine wpAny_bind ((LT.keeps k).here ?_)
    refine wpAny_bind (for_any (f := f) (fun c hc R r => ?_) ?_)
    · obtain ⟨_, e2⟩ := PySem.W.exm_cls (M := M) X (hx c hc)
      refine wpAny_bind ((e2.keeps k).here ?_)
      cases hf : f c with
      | true => rw [hf] at r; exact wpAny_pure r
      | false => rw [hf] at r; exact wpAny_pure r
    · cases ha : cs.any f with
      | true => rw [ha] at q; exact wpAny_pure q
      | false => rw [ha] at q; exact wpAny_pure q
end
section
variable {X : Cx} {pins : List (Addr × Obj)} {σ : L2.St} {H : Hp} {s : Shared}
/-- an object that stands untracked, younger than the frame's beginning, is tracked from now on -/
theorem track {a : Addr} {o : HO} {oe : Obj} {vs : Array Value} (I : Inv X pins σ H s) (na : H a = none) (hx : s.heap.get? a = some oe) (hd : oe.data = .fields vs) (h0 : X.s_0.heap.get? a = none) (nL : a ≠ X.env.locals)
    (nP : ∀ p, p ∈ X.pn ++ pins → p.1 ≠ a) (ok : ObjOk X.prog X.w (upd H a o) s.heap a o) : Inv X pins σ (upd H a o) s := by
  have off : ∀ {b : Addr} {u : HO}, H b = some u → b ≠ a := fun {b u} e z => by rw [z, na] at e; cases e
  refine ⟨I.ok, I.os, I.bare, ⟨I.base.keep, I.base.slot, fun b ob e n hb => ?_, I.base.there, fun b xs e => ?_, fun b ob u e => ?_, fun b ps e => ?_⟩, I.loc, I.cell, ?_, fun x c e => ?_, fun p hp => ?_, fun b u e => ?_, I.len⟩
  · have hba : b ≠ a := fun z => by rw [z, h0] at e; cases e
    rw [upd_ne hba]
    exact I.base.free b ob e n hb
  · have q := I.base.tups b xs e
    rw [upd_ne (off q)]
    exact q
  · have q := I.base.frzs b ob u e
    rw [upd_ne (off q)]
    exact q
  · obtain ⟨more, q⟩ := I.base.tbls b ps e
    exact ⟨more, by rw [upd_ne (off q)]; exact q⟩
  · rw [upd_ne (Ne.symm nL)]
    exact I.free
  · have hca : c ≠ a := fun z => by
      obtain ⟨v, oc, h1, h2⟩ := I.cell x c e
      rw [z, hx] at h1
      cases h1
      rw [hd] at h2
      cases h2
    rw [upd_ne hca]
    exact I.freeC x c e
  · obtain ⟨h1, h2, h3, h4, h5⟩ := I.pin p hp
    exact ⟨h1, by rw [upd_ne (nP p hp)]; exact h2, h3, h4, h5⟩
  · by_cases hb : b = a
    · subst hb
      rw [upd_same] at e
      cases e
      exact ok
    · rw [upd_ne hb] at e
      exact (I.hok b u e).stay (fun c v _ z => z) (fun c hc => by rw [upd_ne (off hc)]; exact hc) (fun c xs hc => by rw [upd_ne (off hc)]; exact hc)
/-- the object of a caught exception, as a thing that is held -/
theorem exv_ok {P : Program} {w : World} {H : Hp} {h : Heap} {C d a : Addr} {oe : Obj} {vs : Array Value} (hx : h.get? a = some oe) (hc : oe.cls = .ref C) (hd : oe.dict = some d) (hf : oe.data = .fields vs) : ObjOk P w H h a (exv C d a) := by
  refine ⟨⟨oe, vs, hx, hc, hd, hf⟩, ⟨oe, hx⟩, fun h1 h2 p k => ?_⟩
  obtain ⟨o, ws, q1, q2, q3, q4⟩ := p
  exact ⟨o, ws, k o q1, q2, q3, q4⟩
end
end Ev

set_option Elab.async false
set_option linter.all false
set_option maxRecDepth 100000
set_option maxHeartbeats 2000000
namespace Ev
open PySem PySem.Spec PyProof.Rows L2
theorem fly_more {base h h' : Heap} {l : List PySem.Env} {e : Addr} {Z : Obj → Prop} (x : HandSPX.FlyingZ base l e Z h) (k : ∀ b o, h.get? b = some o → h'.get? b = some o) : HandSPX.FlyingZ base l e Z h' := by
  obtain ⟨f1, f2, f3, oe, vs, T, oT, ts, h1, h2, h3, h4, h5, h6, h7, h8, h9⟩ := x
  exact ⟨fun b o q => k b o (f1 b o q), f2, Heap.FunFrames.of_keeps (fun b o q _ => ⟨o, k b o q, rfl⟩) f3, oe, vs, T, oT, ts, k _ _ h1, h2, h3, h4, h5, h6, k _ _ h7, h8, h9⟩
structure Cl where
  cs : List Value
  i : Nat
  j : Nat
/-- a clause's classes, asked of the exception at a -/
def TestOk (X : Cx) (t : Expr) (cs : List Value) : Prop := ∀ (a : Addr) (pn : List (Addr × Obj)) (σ : L2.St) (H : Hp) (s : Shared) (cls : Value) (f : Value → Bool) (Q : Bool → Shared → Prop) (E : Value → Shared → Prop), Inv (X.suite a pn) [] σ H s →
  PySem.W.Looks (model X.prog X.w) s.heap (typeOf (.ref a)) cls → (∀ c, c ∈ cs → PySem.W.exmOne X.K cls c = some (f c)) → (∀ h', (∀ b o, s.heap.get? b = some o → h'.get? b = some o) → Q (cs.any f) { s with heap := h' }) →
  wpAny (model X.prog X.w) (X.A.mark (some (.ref a))) (eval t X.env) (fun c s1 => wpAny (model X.prog X.w) (X.A.mark (some (.ref a))) (excMatches (.ref a) c) Q E s1) E s
/-- x = e, e the clause's own name -/
def tTake (i j : Nat) : TS := fun D σ H => ∃ v, σ[j]? = some (some v) ∧ D.nx (σ.set i (some v)) H
inductive ClsOk (X : Cx) : List ExceptHandler → List Cl → Prop
  | nil : ClsOk X [] []
  | cons {t : Expr} {n : Str} {st : Stmt} {pos : Pos} {c : Cl} {hds : List ExceptHandler} {l : List Cl} (ht : TestOk X t c.cs) (hj : X.N[c.j]? = some n) (hn : X.env.kindOf n = some .local)
      (hsu : ∀ (a : Addr) (pn : List (Addr × Obj)), PSs (X.suite a pn) [st] (tTake c.i c.j)) (r : ClsOk X hds l) : ClsOk X (.ExceptHandler (some t) (some n) [st] pos :: hds) (c :: l)
/-- what the clauses wish -/
def wCatch (K : PySem.W.Frag) (Wout : WX) (D : Ends) : List Cl → WX
  | [] => Wout
  | c :: r => fun cls d σ H => ∃ f : Value → Bool, (∀ x, x ∈ c.cs → PySem.W.exmOne K cls x = some (f x)) ∧
      (c.cs.any f = true → ∃ C dd, cls = .ref C ∧ d = some dd ∧ ∀ a, H a = none → D.nx (((σ.set c.j (some (.ref a))).set c.i (some (.ref a))).set c.j none) (upd H a (exv C dd a))) ∧ (c.cs.any f = false → wCatch K Wout D r cls d σ H)
section
variable {X : Cx} {pins : List (Addr × Obj)} {σ : L2.St} {H : Hp} {s : Shared}
theorem unpin {a : Addr} {oe : Obj} (I : Inv X ((a, oe) :: pins) σ H s) : Inv X pins σ H s :=
  ⟨I.ok, I.os, I.bare, I.base, I.loc, I.cell, I.free, I.freeC, fun p hp => I.pin p (by
    rcases List.mem_append.mp hp with h | h
    · exact List.mem_append_left _ h
    · exact List.mem_append_right _ (List.mem_cons_of_mem _ h)), I.hok, I.len⟩
theorem outSuite {a : Addr} {oe : Obj} (I : Inv (X.suite a ((a, oe) :: (X.pn ++ pins))) [] σ H s) (ok : X.Ok) : Inv X ((a, oe) :: pins) σ H s :=
  ⟨ok, I.os, I.bare, I.base, I.loc, I.cell, I.free, I.freeC, fun p hp => I.pin p (by
    show p ∈ ((a, oe) :: (X.pn ++ pins)) ++ []
    rw [List.append_nil]
    rcases List.mem_append.mp hp with h | h
    · exact List.mem_cons_of_mem _ (List.mem_append_left _ h)
    · rcases List.mem_cons.mp h with e | h
      · rw [e]; exact List.mem_cons_self
      · exact List.mem_cons_of_mem _ (List.mem_append_right _ h)), I.hok, I.len⟩
variable {body : List Stmt} {hd0 : ExceptHandler} {hds : List ExceptHandler} {l : List Cl} {pos : Pos} {tb : WX → TS} {Wout : WX}
theorem ps_catch (hs : X.stack = X.env :: X.outer) (hf : X.env.frame = some X.env.locals) (hex : X.ex = []) (hN : X.N.Nodup) (tk : Takes X Wout)
    (hb : ∀ (W : WX) (pn : List (Addr × Obj)) (xe : Value → Shared → Prop), Takes (X.tr pn xe) W → PassesOwn (model X.prog X.w) X.A X.env xe → PSs (X.tr pn xe) body (tb W))
    (hc : ClsOk X (hd0 :: hds) l) : PS X (.Try body (hd0 :: hds) [] [] pos) (fun D σ H => tb (wCatch X.K Wout D l) D σ H) := by
  refine ⟨fun pins s σ H D I h => ?_⟩
  have okX := I.ok
  have frames : X.A.frames = some (X.env :: X.outer) := okX.frames.trans (by rw [hs])
  refine wpAny_Try_except (wpAny_mono ((hb (wCatch X.K Wout D l) (X.pn ++ pins) _ (fun u t up => ?caught) PassesOwn.looking).run [] s σ H D (I.toTry _) h) (fun fl t ht => ?through) fun e t he => he)
  case through =>
    cases fl with
    | next => obtain ⟨σ1, H1, J, q⟩ := ht; exact wpAny_execs_nil ⟨σ1, H1, J.ofTry okX, q⟩
    | brk => obtain ⟨σ1, H1, J, q⟩ := ht; exact ⟨σ1, H1, J.ofTry okX, q⟩
    | cont => obtain ⟨σ1, H1, J, q⟩ := ht; exact ⟨σ1, H1, J.ofTry okX, q⟩
    | ret v => obtain ⟨y, σ1, H1, J, r, q⟩ := ht; exact ⟨y, σ1, H1, J.ofTry okX, r, q⟩
  case caught =>
    obtain ⟨a, B, sI, p1, σ1, H1, cls, d, rfl, J0, nb, up0, sky, na, os, ag, wish⟩ := up
    have J : Inv X pins σ1 H1 sI := J0.ofTry okX
    refine Sky.land Zc.steady frames hf (by rw [← hs]; exact sky) fun hL fly upL => ?_
    -- a is no frame of ours, and younger than our beginning
    have noFrame : a ∉ frs (X.env :: X.outer) := fun hm => by
      obtain ⟨oe, vs, q1, _, q3⟩ := fly.there
      obtain ⟨_, o', q4, nf⟩ := fly.2.2.1.mem hm
      rw [q1] at q4
      cases q4
      exact nf _ q3
    have young : sI.heap.get? a = none := by
      cases e : sI.heap.get? a with
      | none => rfl
      | some o =>
        have z := nb a o e (by show a ∉ frs X.stack; rw [hs]; exact noFrame)
        rw [fly.2.1] at z
        cases z
    have young0 : X.s_0.heap.get? a = none := by
      cases e : X.s_0.heap.get? a with
      | none => rfl
      | some o =>
        obtain ⟨o', z⟩ := J.base.there a o e (by rw [hex]; exact List.not_mem_nil)
        rw [young] at z
        cases z
    have notLoc : a ≠ X.env.locals := fun z => noFrame (List.mem_filterMap.mpr ⟨X.env, List.mem_cons_self, by rw [hf, z]⟩)
    have notFs : a ∉ X.fs := fun hm => by
      obtain ⟨v, hv, z⟩ := List.mem_filterMap.mp hm
      exact noFrame (List.mem_filterMap.mpr ⟨v, List.mem_cons_of_mem _ hv, z⟩)
    have notPin : ∀ p, p ∈ X.pn ++ pins → p.1 ≠ a := fun p hp z => by
      have e := (J.pin p hp).1
      rw [z, young] at e
      cases e
    -- clause by clause; the heap may grow by the tuples of classes
    have clauses : ∀ {hs2 : List ExceptHandler} {l2 : List Cl}, ClsOk X hs2 l2 → wCatch X.K Wout D l2 cls d σ1 H1 → ∀ h3 : Heap, HandSPX.FlyingZ B (X.env :: X.outer) a (Zc cls d) h3 → sI.heap.UpToSlots h3 →
        wpAny (model X.prog X.w) X.A (handleBy (.ref a) X.env hs2) (L2.SP X pins D) X.xe { t with heap := h3 } := by
      intro hs2 l2 hk
      induction hk with
      | nil =>
        intro w h3 fly3 up3
        refine wpAny_handleBy_nil ?_
        obtain ⟨_, _, _, oe, vs, T, oT, ts, q1, q2, q3, q4, _⟩ := id fly3
        unfold PySem.passOn
        refine wpAny_bind (wpAny_field q1 q3 q4 ?_)
        rw [if_neg (by simp)]
        have away : wpAny (model X.prog X.w) X.A (setFlight (.ref a) X.env.frame) (fun _ s4 => wpAny (model X.prog X.w) X.A (throw (.ref a) : Sem Flow) (L2.SP X pins D) X.xe s4) X.xe { t with heap := h3 } := by
          rw [hf]
          exact HandSPX.setFlight_upZ fly3 fun h4 held up4 => wpAny_throw (tk _ _ ⟨a, B, sI, pins, σ1, H1, cls, d, rfl, J, nb, up3.trans up4, .inr (.inr (by rw [hs]; exact held)), na, os, ag, w⟩)
        first
          | exact wpAny_bind (wpAny_pure (wpAny_bind away))
          | exact wpAny_bind away
      | @cons tx n st hp c hs3 l3 ht hj hn hsu r ih =>
        intro w h3 fly3 up3
        obtain ⟨f, hx, yes, no⟩ := w
        obtain ⟨oe3, vs3, e3, z3, d3⟩ := fly3.there
        have J3 : Inv X pins σ1 H1 { t with heap := h3 } := J.landed nb fly3.1 up3 os ag
        have cls3 : PySem.W.Looks (model X.prog X.w) h3 (typeOf (.ref a)) cls := fun A Q E s k q => wpAny_typeOf_ref (k _ _ e3) (by rw [z3.1]; exact q)
        refine wpAny_handleBy_cons (codeAny_handlers_test (ht a _ σ1 H1 _ cls f _ _ (J3.suite e3 d3 na notLoc notFs) cls3 hx fun h4 k4 => ?_)) (by intro q; cases q)
        have fly4 := fly_more fly3 k4
        have up4 : sI.heap.UpToSlots h4 := up3.trans (Heap.UpToSlots.of_keeps k4)
        cases hany : c.cs.any f with
        | false => exact ih (no hany) h4 fly4 up4
        | true =>
          obtain ⟨C, dd, rfl, rfl, go⟩ := yes hany
          refine codeAny_handlers_suite_as (HandSPX.lands_againZ fly4 fun h5 fly5 up5 => ?_)
          have J5 : Inv X pins σ1 H1 { t with heap := h5 } := J.landed nb fly5.1 (up4.trans up5) os ag
          obtain ⟨oe5, vs5, e5, z5, d5⟩ := fly5.there
          refine store_ok (X := X.suite a ((a, oe5) :: (X.pn ++ pins))) (v := .ref a) (J5.suite e5 d5 na notLoc notFs) hN hj (.inl hn) rfl (fun s6 J6 => ?_) (.inr hn)
          have slot : (σ1.set c.j (some (V.ref a)))[c.j]? = some (some (.ref a)) := List.getElem?_set_self (by rw [J5.len]; exact (List.getElem?_eq_some_iff.mp hj).1)
          refine wpAny_mono ((hsu a _).run [] s6 _ H1 { nx := fun σ' H' => σ' = (σ1.set c.j (some (.ref a))).set c.i (some (.ref a)) ∧ H' = H1, bk := fun _ _ => False, ct := fun _ _ => False, rt := fun _ _ => False } J6 ⟨_, slot, rfl, rfl⟩) (fun fl s7 h7 => ?_) (fun _ _ z => z.elim)
          have land : ∀ s8, Inv X ((a, oe5) :: pins) (((σ1.set c.j (some (.ref a))).set c.i (some (.ref a))).set c.j none) H1 s8 → L2.SP X pins D .next s8 := fun s8 J8 => by
            have e8 := (J8.pin (a, oe5) (List.mem_append_right _ List.mem_cons_self)).1
            exact ⟨_, _, track (unpin J8) na e8 d5 young0 notLoc notPin (exv_ok e8 z5.1 z5.2 d5), go a na⟩
          cases fl with
          | next =>
            obtain ⟨σ7, H7, J7, rfl, rfl⟩ := h7
            exact gone_ok (outSuite J7 okX) hN hj hn land
          | brk => obtain ⟨_, _, _, q⟩ := h7; exact q.elim
          | cont => obtain ⟨_, _, _, q⟩ := h7; exact q.elim
          | ret u => obtain ⟨_, _, _, _, _, q⟩ := h7; exact q.elim
    exact clauses hc wish hL fly (up0.trans upL)
end
end Ev

set_option Elab.async false
set_option linter.all false
set_option maxRecDepth 100000
set_option maxHeartbeats 2000000
namespace Ev
open PySem PySem.Spec PyProof.Rows L2
section
variable {X : Cx} {T : Tab} {W : WX}
theorem RelE.unset {φ : Phi} {ρ : Env} {st : Sto} {σ : L2.St} {H : Hp} (r : RelE T φ ρ st σ H) (i : Nat) : RelE T φ (ρ.set i none) st (σ.set i none) H where
  rst := r.rst
  len := by rw [List.length_set, List.length_set]; exact r.len
  get := fun k v h => by
    by_cases e : i = k
    · subst e
      by_cases hi : i < ρ.length
      · rw [List.getElem?_set_self hi] at h; cases h
      · rw [List.getElem?_eq_none (by rw [List.length_set]; omega)] at h; cases h
    · rw [List.getElem?_set_ne e] at h
      obtain ⟨u, h1, h2⟩ := r.get k v h
      exact ⟨u, by rw [List.getElem?_set_ne e]; exact h1, h2⟩
structure Ce where
  cs : List Str
  i : Nat
  j : Nat
def catchR (tbl : Nat → Str → Bool) (k : Nat) (x : Val) : List Ce → Env → Sto → SR
  | [], ρ, st => .ex x ρ st
  | c :: r, ρ, st => if c.cs.any (tbl k) = true then .nx (((ρ.set c.j (some x)).set c.i (some x)).set c.j none) st else catchR tbl k x r ρ st
def sTry (tbl : Nat → Str → Bool) (nk : Nat) (l : List Ce) (b : S) : S := fun ρ st => match b ρ st with
  | .ex (.exc k ns vs) ρ1 st1 => if k < nk then catchR tbl k (.exc k ns vs) l ρ1 st1 else .bad
  | .ex _ _ _ => .bad
  | r => r
def clK (K : PySem.W.Frag) (c : Ce) : Cl := ⟨c.cs.map fun x => .ref (He.ga K x), c.i, c.j⟩
theorem s_try {tbl : Nat → Str → Bool} {nk : Nat} {l : List Ce} {b : S} {body : List Stmt} {hd0 : ExceptHandler} {hds : List ExceptHandler} {pos : Pos} (hs : X.stack = X.env :: X.outer) (hf : X.env.frame = some X.env.locals) (hex : X.ex = []) (hN : X.N.Nodup) (tk : Takes X W)
    (hx : ∀ k, k < nk → ∀ c, c ∈ l → ∀ x, x ∈ c.cs → PySem.W.exmOne X.K (.ref (T.ca k)) (.ref (He.ga X.K x)) = some (tbl k x))
    (hb : ∀ (W' : WX) (pn : List (Addr × Obj)) (xe : Value → Shared → Prop), Takes (X.tr pn xe) W' → PassesOwn (model X.prog X.w) X.A X.env xe → PSs (X.tr pn xe) body (tS T W' b))
    (hc : ClsOk X (hd0 :: hds) (l.map (clK X.K))) : PS X (.Try body (hd0 :: hds) [] [] pos) (tS T W (sTry tbl nk l b)) := by
  refine ps_imp (ps_catch (tb := fun W' => tS T W' b) hs hf hex hN tk hb hc) fun D σ H h => ?_
  obtain ⟨φ, ρ, st, re, p⟩ := h
  refine ⟨φ, ρ, st, re, ?_⟩
  unfold sTry at p
  cases hr : b ρ st with
  | nx ρ1 st1 => rw [hr] at p; exact p
  | rt v st1 => rw [hr] at p; exact p
  | bk ρ1 st1 => rw [hr] at p; exact p
  | ct ρ1 st1 => rw [hr] at p; exact p
  | bad => rw [hr] at p; exact p
  | ex x ρ1 st1 =>
    rw [hr] at p
    intro φ1 H1 σ1 c d e1 re1 rx
    obtain ⟨k, ns, vs, us, dd, rfl, rfl, rfl, q1, q2, q3, q4⟩ := rx
    dsimp only at p
    split at p
    · rename_i hk
      clear hc hr
      induction l with
      | nil => exact p φ1 H1 σ1 _ _ e1 re1 ⟨k, ns, vs, us, dd, rfl, rfl, rfl, q1, q2, q3, q4⟩
      | cons c r ih =>
        have known : ∀ x, x ∈ c.cs → PySem.W.exmOne X.K (.ref (T.ca k)) (.ref (He.ga X.K x)) = some (tbl k x) := hx k hk c List.mem_cons_self
        refine ⟨fun v => (PySem.W.exmOne X.K (.ref (T.ca k)) v).getD false, fun v hv => ?_, fun hany => ?_, fun hany => ?_⟩
        · obtain ⟨x, hx', rfl⟩ := List.mem_map.mp hv
          simp only [known x hx', Option.getD_some]
        · have ht : c.cs.any (tbl k) = true := by
            obtain ⟨v, hv, hv2⟩ := List.any_eq_true.mp hany
            obtain ⟨x, hx', rfl⟩ := List.mem_map.mp hv
            rw [known x hx'] at hv2
            exact List.any_eq_true.mpr ⟨x, hx', hv2⟩
          refine ⟨T.ca k, dd, rfl, rfl, fun a hna => ?_⟩
          have p : PostS T W φ H D (.nx (((ρ1.set c.j (some (.exc k ns vs))).set c.i (some (.exc k ns vs))).set c.j none) st1) := by
            have := p
            unfold catchR at this
            rw [if_pos ht] at this
            exact this
          have e2 := Ext.fresh (ho := exv (T.ca k) dd a) re1.rst hna
          have re2 := re1.ext e2 (re1.rst.fresh hna)
          have rv : RelV T φ1 (upd H1 a (exv (T.ca k) dd a)) (.exc k ns vs) (.ref a) := .exc (re1.rst.nolive hna) q1 (.inl upd_same) (e2.rd dd _ q1 q2) q3 (q4.ext e2)
          exact p φ1 _ _ (e1.trans e2) (((re2.set rv c.j).set rv c.i).unset c.j)
        · have ht : ¬ c.cs.any (tbl k) = true := fun z => by
            obtain ⟨x, hx', hx2⟩ := List.any_eq_true.mp z
            have : ((c.cs.map fun x => Value.ref (He.ga X.K x)).any fun v => (PySem.W.exmOne X.K (.ref (T.ca k)) v).getD false) = true := List.any_eq_true.mpr ⟨_, List.mem_map_of_mem hx', by rw [known x hx']; exact hx2⟩
            exact absurd (this.symm.trans hany) (by decide)
          refine ih (fun k hk c hc => hx k hk c (List.mem_cons_of_mem _ hc)) ?_
          have := p
          unfold catchR at this
          rw [if_neg ht] at this
          exact this
    · exact p.elim
theorem test_one {x : Str} {p : Pos} {C : Addr} (hm : X.mg x = some (.ref C)) (hg : Gl X x) (hdb : (x == ("__debug__" : Str)) = false := by decide) : TestOk X (.Name x p) [.ref C] := by
  intro a pn σ H s cls f Q E I lt hx q
  refine ld_glob (X := X.suite a pn) I hg hm ?_ hdb
  have e := hx _ List.mem_cons_self
  have q' := q s.heap fun _ _ z => z
  rw [List.any_cons, List.any_nil, Bool.or_false] at q'
  exact (PySem.W.exm_one I.kIn lt e).here q'
theorem names_items {es : List Expr} {cs : List Value} {pos : Pos} {a : Addr} {pn : List (Addr × Obj)} {σ : L2.St} {H : Hp} {s : Shared} {E : Value → Shared → Prop} (I : Inv (X.suite a pn) [] σ H s)
    (h : Paired (fun e c => ∃ x p C, e = Expr.Name x p ∧ c = Value.ref C ∧ Gl X x ∧ X.mg x = some (.ref C) ∧ (x == ("__debug__" : Str)) = false) es cs) : ∀ {Q : List Value → Shared → Prop}, Q cs s → wpAny (model X.prog X.w) (X.A.mark (some (.ref a))) (spliced (backTo pos (starEach es X.env))) Q E s := by
  induction h with
  | nil => intro Q q; exact wpAny_items_nil q
  | cons hd _ ih =>
    intro Q q
    obtain ⟨x, p, C, rfl, rfl, hg, hm, hdb⟩ := hd
    exact wpAny_items_cons (ld_glob (X := X.suite a pn) I hg hm (ih q) hdb)
theorem test_many {es : List Expr} {cs : List Value} {k : Nat} {pos : Pos} (hl : cs.length ≤ 1000)
    (h : Paired (fun e c => ∃ x p C, e = Expr.Name x p ∧ c = Value.ref C ∧ Gl X x ∧ X.mg x = some (.ref C) ∧ (x == ("__debug__" : Str)) = false) es cs) : TestOk X (.Tuple es k pos) cs := by
  intro a pn σ H s cls f Q E I lt hx q
  refine wpAny_Tuple (names_items I h ⟨by rw [sizeLine_eq]; omega, ?_⟩)
  have kp : ∀ b o, s.heap.get? b = some o → (s.heap.push { cls := .type "tuple", data := .seq cs.toArray }).get? b = some o := fun _ _ z => Heap.get?_push_of_some _ z
  exact (exm_tups (I.kIn.keeps kp) (lt.keeps kp) (Heap.get?_push_size s.heap rfl) hx).here (q _ kp)
theorem take_ok {i j : Nat} {x n : Str} {p q pos : Pos} (hN : X.N.Nodup) (hi : X.N[i]? = some x) (hx : Loc X.env.scope x) (he : PE X (.Name n q) (tVar j)) (hs : swapsWith (.Name n q) (some (.Name x p)) pos.line X.env = pure false := by rfl)
    (hf : X.fn x = true ∨ X.env.scope.names.lookup x = some .local := by first | exact .inl rfl | exact .inr rfl) : PSs X [.Assign [.Name x p] (.Name n q) pos] (tTake i j) :=
  pss_imp (pss_one (ps_set hN hi hx he hs hf)) fun D σ H h => h
end
end Ev

set_option Elab.async false
set_option linter.all false
set_option maxRecDepth 100000
namespace Ev
open PySem PySem.Spec PyProof.Rows L2
abbrev dc2 (kx vx ta ia tb ib : Expr) (fa fb : List Expr) (sc : Scope) (p : Pos) : Expr := .DictComp kx vx [⟨ta, ia, fa, 0⟩, ⟨tb, ib, fb, 0⟩] sc p
section
variable (kx vx ta ia tb ib : Expr) (fa fb : List Expr) (sc : Scope) (p : Pos) (it : Value) (D : Addr) (env : PySem.Env)
theorem turnA : compTurn (dc2 kx vx ta ia tb ib fa fb sc p) 0 it (.ref D) env = (do
    standAt ia.pos
    match ← pyNext it with
    | none => pure (.done .next)
    | some v =>
      letOwnedTupleGo ta it v
      assign ta env v
      let mut ok := true
      for t in fa do
        if ok then ok ← isTrue t env (eval t env)
      if ok then
        let y ← eval ib env
        standAt ib.pos
        let y ← foldedSetIterable ib env y
        let _ ← runOwn (.compStart (dc2 kx vx ta ia tb ib fa fb sc p) 1 (← holding [y] (pyIter y)) (.ref D) env) env
      again (.compLoop (dc2 kx vx ta ia tb ib fa fb sc p) 0 it (.ref D) env)) := by rfl
theorem turnB : compTurn (dc2 kx vx ta ia tb ib fa fb sc p) 1 it (.ref D) env = (do
    standAt ib.pos
    match ← pyNext it with
    | none => pure (.done .next)
    | some v =>
      letOwnedTupleGo tb it v
      assign tb env v
      let mut ok := true
      for t in fb do
        if ok then ok ← isTrue t env (eval t env)
      if ok then
        (do
          let k ← eval kx env
          let u ← holding [k] (eval vx env)
          standAt { kx.pos with endLine := vx.pos.endLine, endCol := vx.pos.endCol }
          holding [k, u] (dictSet D k u))
      again (.compLoop (dc2 kx vx ta ia tb ib fa fb sc p) 1 it (.ref D) env)) := by rfl
end
section
variable {prog : Program} {w : World} {A : Around} {R : Result → Shared → Prop} {s : Shared} {kx vx ta ia tb ib : Expr} {fa fb : List Expr} {sc : Scope} {p : Pos} {it : Value} {D : Addr} {env : PySem.Env}
/-- what is left behind by an exception within the block -/
abbrev Out (prog : Program) (w : World) (A : Around) (env : PySem.Env) (R : Result → Shared → Prop) : Value → Shared → Prop := notedBy (model prog w) A env fun e t => R (.error e) t
/-- a block's tests -/
abbrev testsM (fs : List Expr) (env : PySem.Env) : Sem Bool :=
  forIn fs true fun c r => if r = true then do let ok ← isTrue c env (eval c env); pure (ForInStep.yield ok) else pure (ForInStep.yield r)
/-- one clause's turn, up to its tests: go is what is left behind them -/
def Turn (prog : Program) (w : World) (A : Around) (env : PySem.Env) (R : Result → Shared → Prop) (tg : Expr) (fs : List Expr) (it : Value) (go : Shared → Prop) (skip : Shared → Prop) (s : Shared) : Prop :=
  wpAny (model prog w) A (pyNext it) (fun r s1 => match r with
    | none => R (.ok .next) s1
    | some v => wpAny (model prog w) A (letOwnedTupleGo tg it v) (fun _ s2 => wpAny (model prog w) A (assign tg env v) (fun _ s3 =>
        wpAny (model prog w) A (testsM fs env) (fun ok s4 => if ok = true then go s4 else skip s4) (Out prog w A env R) s3) (Out prog w A env R) s2) (Out prog w A env R) s1) (Out prog w A env R) s
theorem loopB (I : Nat → Shared → Prop)
    (turn : ∀ n s, I n s → Turn prog w A env R tb fb it
      (fun s4 => wpAny (model prog w) A (eval kx env) (fun k s5 => wpAny (model prog w) A (eval vx env) (fun u s6 =>
        wpAny (model prog w) A (dictSet D k u) (fun _ s7 => ∃ m, m < n ∧ I m s7) (Out prog w A env R) s6) (Out prog w A env R) s5) (Out prog w A env R) s4)
      (fun s4 => ∃ m, m < n ∧ I m s4) s)
    (n : Nat) (h : I n s) : codeAny (model prog w) A (.compLoop (dc2 kx vx ta ia tb ib fa fb sc p) 1 it (.ref D) env) R s := by
  refine codeAny_loop rfl I (fun n s hI => ?_) n h
  show wpAny _ A ((compTurn (dc2 kx vx ta ia tb ib fa fb sc p) 1 it (.ref D) env).onRaise _) _ _ s
  refine wpAny_noted ?_
  rw [turnB]
  refine wpAny_bind (wpAny_standAt (wpAny_bind (wpAny_mono (turn n s hI) (fun r s1 h1 => ?_) fun _ _ z => z)))
  cases r with
  | none => exact wpAny_pure h1
  | some v =>
    refine wpAny_bind (wpAny_mono h1 (fun _ s2 h2 => wpAny_bind (wpAny_mono h2 (fun _ s3 h3 => wpAny_bind (wpAny_mono h3 (fun ok s4 h4 => ?_) fun _ _ z => z)) fun _ _ z => z)) fun _ _ z => z)
    cases ok with
    | false => exact wpAny_pure ⟨rfl, h4⟩
    | true =>
      exact wpAny_bind (wpAny_bind (wpAny_mono h4 (fun k s5 h5 => wpAny_bind (wpAny_holding (wpAny_mono h5 (fun u s6 h6 => wpAny_bind (wpAny_standAt (wpAny_holding (wpAny_mono h6 (fun _ s7 h7 => wpAny_pure ⟨rfl, h7⟩) fun _ _ z => z)))) fun _ _ z => z))) fun _ _ z => z))
theorem loopA (hs : ∀ x, foldedSetIterable ib env x = pure x) (I : Nat → Shared → Prop)
    (turn : ∀ n s, I n s → Turn prog w A env R ta fa it
      (fun s4 => wpAny (model prog w) A (eval ib env) (fun x s5 => wpAny (model prog w) A (pyIter x) (fun jt s6 =>
        codeAny (model prog w) A (.compStart (dc2 kx vx ta ia tb ib fa fb sc p) 1 jt (.ref D) env) (fun r t => match r with
          | .ok _ => ∃ m, m < n ∧ I m t
          | .error _ => False) s6) (Out prog w A env R) s5) (Out prog w A env R) s4)
      (fun s4 => ∃ m, m < n ∧ I m s4) s)
    (n : Nat) (h : I n s) : codeAny (model prog w) A (.compLoop (dc2 kx vx ta ia tb ib fa fb sc p) 0 it (.ref D) env) R s := by
  refine codeAny_loop rfl I (fun n s hI => ?_) n h
  show wpAny _ A ((compTurn (dc2 kx vx ta ia tb ib fa fb sc p) 0 it (.ref D) env).onRaise _) _ _ s
  refine wpAny_noted ?_
  rw [turnA]
  refine wpAny_bind (wpAny_standAt (wpAny_bind (wpAny_mono (turn n s hI) (fun r s1 h1 => ?_) fun _ _ z => z)))
  cases r with
  | none => exact wpAny_pure h1
  | some v =>
    refine wpAny_bind (wpAny_mono h1 (fun _ s2 h2 => wpAny_bind (wpAny_mono h2 (fun _ s3 h3 => wpAny_bind (wpAny_mono h3 (fun ok s4 h4 => ?_) fun _ _ z => z)) fun _ _ z => z)) fun _ _ z => z)
    cases ok with
    | false => exact wpAny_pure ⟨rfl, h4⟩
    | true =>
      refine wpAny_bind (wpAny_mono h4 (fun x s5 h5 => wpAny_bind (wpAny_standAt (wpAny_bind (wpAny_of_eq (hs x) (wpAny_bind (wpAny_holding (wpAny_mono h5 (fun jt s6 h6 => wpAny_bind (wpAny_runOwn ?_)) fun _ _ z => z))))))) fun _ _ z => z)
      rw [Around.mark_none]
      refine codeAny_mono h6 fun r t hr => ?_
      cases r with
      | error e => exact hr.elim
      | ok f =>
        first
          | exact wpAny_pure ⟨rfl, hr⟩
          | exact wpAny_bind (wpAny_pure (wpAny_pure ⟨rfl, hr⟩))
/-- the second clause's start -/
theorem startB (h0 : codeAny (model prog w) A (.compLoop (dc2 kx vx ta ia tb ib fa fb sc p) 1 it (.ref D) env) R s)
    (h : wpAny (model prog w) A (pyIter it) (fun jt t => codeAny (model prog w) A (.compLoop (dc2 kx vx ta ia tb ib fa fb sc p) 1 jt (.ref D) env) R t) (Out prog w A env R) s) :
    codeAny (model prog w) A (.compStart (dc2 kx vx ta ia tb ib fa fb sc p) 1 it (.ref D) env) R s := by
  refine codeAny_of_tree ?_
  show wpAny _ _ ((compStart (dc2 kx vx ta ia tb ib fa fb sc p) 1 it (.ref D) env).onRaise _) _ _ s
  refine wpAny_notedAt ?_
  unfold compStart
  show wpAny _ _ (ask >>= _) _ _ s
  refine wpAny_bind (wpAny_askSetting (wpAny_ite ?_))
  split
  · first
      | exact wpAny_pure ⟨rfl, h0⟩
      | exact wpAny_bind (wpAny_pure (wpAny_pure ⟨rfl, h0⟩))
  · refine wpAny_bind (wpAny_rule ?_)
    first
      | exact wpAny_bind (wpAny_standAt (wpAny_bind (wpAny_mono h (fun jt t q => wpAny_pure ⟨rfl, q⟩) fun _ _ z => z)))
      | (show wpAny _ _ (standAt ib.pos >>= _) _ _ s; exact wpAny_bind (wpAny_standAt (wpAny_bind (wpAny_mono h (fun jt t q => wpAny_pure ⟨rfl, q⟩) fun _ _ z => z))))
end
end Ev

set_option Elab.async false
set_option linter.all false
set_option maxRecDepth 100000
namespace Ev
open PySem PySem.Spec PyProof.Rows L2
theorem clause_turn {B : Cx} (hc : B.calm = true) {pins : List (Addr × Obj)} {σ0 : L2.St} {H : Hp} {s : Shared} {it : Addr} {fp : List Addr} {tn : Nat → Heap → Prop} {J : It} {tg : Expr} {ifs : List Expr} {g : TG} {tt : TT} {i : Nat} {R : Result → Shared → Prop} {go skip : Shared → Prop}
    (I : Inv B pins σ0 H s) (T : L2.Turn B.prog B.w B.K tg J fp it tn) (st : tn i s.heap) (f : ∀ b ∈ fp, FpOk B pins H b) (pg : PG B tg g) (pt : PTs B ifs tt) (hx : ∀ e s', B.xe e s' → False)
    (C : L2.St → Prop) (Z : L2.St → Bool → Hp → Prop)
    (h : (J.stop i H ∧ ∀ s', Inv B pins σ0 H s' → R (.ok .next) s') ∨ (J.go i H ∧ ∀ x H', J.yld i H x H' → g x σ0 H' fun σ2 H2 => C σ2 ∧ tt σ2 H2 fun b H3 => Z σ2 b H3))
    (next : ∀ (b : Bool) (pl : List (Addr × Obj)) (σ2 : L2.St) (H3 : Hp) (s3 : Shared), Inv B (pins ++ pl) σ2 H3 s3 →
      (∀ (σ' : L2.St) (H' : Hp) (s' : Shared), Inv B (pins ++ pl) σ' H' s' → tn (i + 1) s'.heap ∧ ∀ b ∈ fp, H' b = none) → C σ2 → Z σ2 b H3 → if b = true then go s3 else skip s3) :
    Ev.Turn B.prog B.w B.A B.env R tg ifs (.ref it) go skip s := by
  unfold Ev.Turn
  rcases h with ⟨stop, hR⟩ | ⟨hgo, step⟩
  · refine thnF (T.done B rfl rfl rfl hc i pins s σ0 H (fun _ _ => False) I f st stop) fun r s1 ⟨hr, I1⟩ => ?_
    subst hr
    exact hR s1 I1
  · refine thnF (T.item B rfl rfl rfl hc i pins s σ0 H (fun _ _ => False) I f st hgo) fun r s1 ⟨u, hr, h1⟩ => ?_
    subst hr
    refine thnF h1 fun _ s2 ⟨x, H2, I2, rx, y, st2, n2⟩ => ?_
    have f2 : ∀ b ∈ fp, FpOk B pins H2 b := fun b hb => ⟨n2 b hb, (f b hb).2⟩
    have P2 := I2.pinned f2 (T.obj _ _ st2)
    refine wpAny_mono (pg.run _ s2 σ0 H2 x u _ P2 rx (step x H2 y)) (fun _ s3 q3 => ?_) fun e s' z => (hx e s' z).elim
    obtain ⟨σ2, H3, I3, c3, q3⟩ := q3
    refine wpAny_mono (pt.run _ s3 σ2 H3 _ I3 q3) (fun b s4 q4 => ?_) fun e s' z => (hx e s' z).elim
    obtain ⟨H4, I4, q4⟩ := q4
    refine next b _ σ2 H4 s4 I4 (fun σ' H' s' I' => ?_) c3 q4
    have at_ : ∀ b ∈ fp, ∀ o, s2.heap.get? b = some o → s'.heap.get? b = some o ∧ H' b = none := fun b hb o e =>
      have z := I'.pin (b, o) (List.mem_append_right _ (List.mem_append_right _ (mem_pinsAt hb e)))
      ⟨z.1, z.2.1⟩
    refine ⟨T.keep _ _ _ st2 fun b hb o e => (at_ b hb o e).1, fun b hb => ?_⟩
    obtain ⟨o, e, _⟩ := T.obj _ _ st2 b hb
    exact (at_ b hb o e).2
end Ev

set_option Elab.async false
set_option linter.all false
set_option maxRecDepth 100000
namespace Ev
open PySem PySem.Spec PyProof.Rows L2
/-- one clause's own loop, from H0; step: one item's wish, from which Nx is reached; stop: what is left behind the last -/
def tClause (J : It) (H0 : Hp) (stop : Hp → Prop) (step : (Hp → Prop) → V → Hp → Prop) : Prop := ∃ W : Nat → Nat → Hp → Prop, (∃ m, W 0 m H0) ∧ ∀ i m H, W i m H →
  (J.stop i H ∧ stop H) ∨ (J.go i H ∧ ∃ Nx : Hp → Prop, (∀ H', Nx H' → ∃ m', m' < m ∧ W (i + 1) m' H') ∧ ∀ x H', J.yld i H x H' → step Nx x H')
/-- the second clause's step: D takes the pair -/
def stepB (g : TG) (tt : TT) (tk tv : TE) (σ : L2.St) (vs : List Nat) (D : Addr) (Nx : Hp → Prop) (x : V) (H : Hp) : Prop := g x (wipe σ vs) H fun σ2 H2 => wipe σ2 vs = wipe σ vs ∧ tt σ2 H2 fun b H3 =>
  if b = true then tk σ2 H3 fun y H4 => tv σ2 H4 fun z H5 => ∃ kvs k, y = kV k ∧ H5 D = some (.dK kvs) ∧ kvs.length < sizeLine ∧ Nx (upd H5 D (.dK (putK kvs k z))) else Nx H3
theorem second {B : Cx} (hc : B.calm = true) (hx : ∀ e s', B.xe e s' → False) {pins : List (Addr × Obj)} {σ : L2.St} {H : Hp} {s : Shared} {it D : Addr} {fp : List Addr} {tn : Nat → Heap → Prop} {J : It} {kx vx ta ia tb ib : Expr} {fa fb : List Expr} {sc : Scope} {p : Pos} {g : TG} {tt : TT} {tk tv : TE} {vs : List Nat}
    {R : Result → Shared → Prop} {stop : Hp → Prop}
    (I : Inv B pins σ H s) (T : L2.Turn B.prog B.w B.K tb J fp it tn) (st : tn 0 s.heap) (f : ∀ b ∈ fp, FpOk B pins H b) (pg : PG B tb g) (pt : PTs B fb tt) (pk : PE B kx tk) (pv : PE B vx tv)
    (hR : ∀ H' s', Inv B pins (wipe σ vs) H' s' → stop H' → R (.ok .next) s')
    (h : tClause J H stop (stepB g tt tk tv σ vs D)) :
    codeAny (model B.prog B.w) B.A (.compStart (dc2 kx vx ta ia tb ib fa fb sc p) 1 (.ref it) (.ref D) B.env) R s := by
  obtain ⟨W, ⟨m0, w0⟩, turn⟩ := h
  have loop : codeAny (model B.prog B.w) B.A (.compLoop (dc2 kx vx ta ia tb ib fa fb sc p) 1 (.ref it) (.ref D) B.env) R s := by
    refine loopB (fun m s' => ∃ i H', Inv B pins (wipe σ vs) H' s' ∧ tn i s'.heap ∧ (∀ b ∈ fp, H' b = none) ∧ W i m H') ?_ m0 ⟨0, H, I.weak (wipe_length _ _) (fun j v e => (wipe_some e).1), st, fun b hb => (f b hb).1, w0⟩
    rintro m s1 ⟨i, H1, I1, st1, n1, w1⟩
    have f1 : ∀ b ∈ fp, FpOk B pins H1 b := fun b hb => ⟨n1 b hb, (f b hb).2⟩
    rcases turn i m H1 w1 with ⟨hs, hq⟩ | ⟨hg, Nx, hNx, step⟩
    · exact clause_turn hc I1 T st1 f1 pg pt hx (fun _ => True) (fun _ _ _ => False) (.inl ⟨hs, fun s' I' => hR H1 s' I' hq⟩) fun _ _ _ _ _ _ _ _ z => z.elim
    · refine clause_turn hc I1 T st1 f1 pg pt hx (fun σ2 => wipe σ2 vs = wipe σ vs) (fun σ2 b H3 => if b = true then tk σ2 H3 fun y H4 => tv σ2 H4 fun z H5 => ∃ kvs k, y = kV k ∧ H5 D = some (.dK kvs) ∧ kvs.length < sizeLine ∧ Nx (upd H5 D (.dK (putK kvs k z))) else Nx H3)
        (.inr ⟨hg, fun x H' y => step x H' y⟩) fun b pl σ2 H3 s3 I3 back hw z => ?_
      · have fin : ∀ (H' : Hp) (s' : Shared), Inv B (pins ++ pl) σ2 H' s' → Nx H' → ∃ m', m' < m ∧ ∃ i H', Inv B pins (wipe σ vs) H' s' ∧ tn i s'.heap ∧ (∀ b ∈ fp, H' b = none) ∧ W i m' H' := fun H' s' I' nx => by
          obtain ⟨m', hm, w'⟩ := hNx H' nx
          obtain ⟨a, b⟩ := back σ2 H' s' I'
          exact ⟨m', hm, i + 1, H', I'.unpinned.weak (by rw [← hw, wipe_length]) (fun j v e => by rw [← hw] at e; exact (wipe_some e).1), a, b, w'⟩
        cases b with
        | false => exact fin H3 s3 I3 z
        | true =>
          refine wpAny_mono (pk.run _ s3 σ2 H3 _ I3 z) (fun u s4 q4 => ?_) fun e s' z => (hx e s' z).elim
          obtain ⟨y, H4, I4, r4, q4⟩ := q4
          refine wpAny_mono (pv.run _ s4 σ2 H4 _ I4 q4) (fun u2 s5 q5 => ?_) fun e s' z => (hx e s' z).elim
          obtain ⟨y2, H5, I5, r5, kvs, k, ek, hD, hz, nx⟩ := q5
          subst ek
          exact d_dictSet I5 hD hz r4 r5 fun s6 I6 => fin _ s6 I6 nx
  exact startB loop (T.self B.A 0 s _ _ st loop)
end Ev

set_option Elab.async false
set_option linter.all false
set_option maxRecDepth 100000
namespace Ev
open PySem PySem.Spec PyProof.Rows L2
/-- the first clause's step -/
def stepA (g : TG) (tt : TT) (wj : TI) (gj : TG) (tj : TT) (tk tv : TE) (σ : L2.St) (vs vj : List Nat) (D : Addr) (Nx : Hp → Prop) (x : V) (H : Hp) : Prop := g x (wipe σ vs) H fun σ2 H2 => wipe σ2 vs = wipe σ vs ∧ tt σ2 H2 fun b H3 =>
  if b = true then wj σ2 H3 fun J H4 => tClause J H4 Nx (stepB gj tj tk tv σ2 vj D) else Nx H3
theorem first_ {B : Cx} (hc : B.calm = true) (hx : ∀ e s', B.xe e s' → False) {σ : L2.St} {H : Hp} {s : Shared} {it D : Addr} {fp : List Addr} {tn : Nat → Heap → Prop} {J : It} {kx vx ta ia tb ib : Expr} {fa fb : List Expr} {sc : Scope} {p : Pos} {g gj : TG} {tt tj : TT} {wj : TI} {tk tv : TE} {vs vj : List Nat}
    {R : Result → Shared → Prop} {stop : Hp → Prop} (hv : ∀ i ∈ vj, i ∈ vs) (hs1 : ∀ x, foldedSetIterable ib B.env x = pure x)
    (I : Inv B [] (wipe σ vs) H s) (T : L2.Turn B.prog B.w B.K ta J fp it tn) (st : tn 0 s.heap) (f : ∀ H', (∀ b ∈ fp, H' b = none) → ∀ b ∈ fp, FpOk B [] H' b) (f0 : ∀ b ∈ fp, H b = none) (pg : PG B ta g) (pt : PTs B fa tt) (pi : PI B tb ib wj) (pgj : PG B tb gj) (ptj : PTs B fb tj) (pk : PE B kx tk) (pv : PE B vx tv)
    (hR : ∀ H' s', Inv B [] (wipe σ vs) H' s' → stop H' → R (.ok .next) s')
    (h : tClause J H stop (stepA g tt wj gj tj tk tv σ vs vj D)) :
    codeAny (model B.prog B.w) B.A (.compLoop (dc2 kx vx ta ia tb ib fa fb sc p) 0 (.ref it) (.ref D) B.env) R s := by
  obtain ⟨W, ⟨m0, w0⟩, turn⟩ := h
  refine loopA hs1 (fun m s' => ∃ i H', Inv B [] (wipe σ vs) H' s' ∧ tn i s'.heap ∧ (∀ b ∈ fp, H' b = none) ∧ W i m H') ?_ m0 ⟨0, H, I, st, f0, w0⟩
  rintro m s1 ⟨i, H1, I1, st1, n1, w1⟩
  rcases turn i m H1 w1 with ⟨hs, hq⟩ | ⟨hg, Nx, hNx, step⟩
  · exact clause_turn hc I1 T st1 (f H1 n1) pg pt hx (fun _ => True) (fun _ _ _ => False) (.inl ⟨hs, fun s' I' => hR H1 s' I' hq⟩) fun _ _ _ _ _ _ _ _ z => z.elim
  · refine clause_turn hc I1 T st1 (f H1 n1) pg pt hx (fun σ2 => wipe σ2 vs = wipe σ vs) (fun σ2 b H3 => if b = true then wj σ2 H3 fun J H4 => tClause J H4 Nx (stepB gj tj tk tv σ2 vj D) else Nx H3)
      (.inr ⟨hg, fun x H' y => step x H' y⟩) fun b pl σ2 H3 s3 I3 back hw z => ?_
    have fin : ∀ (σ' : L2.St) (H' : Hp) (s' : Shared), Inv B ([] ++ pl) σ' H' s' → (wipe σ vs).length = σ'.length → (∀ (j : Nat) v, (wipe σ vs)[j]? = some (some v) → σ'[j]? = some (some v)) → Nx H' →
        ∃ m', m' < m ∧ ∃ i H', Inv B [] (wipe σ vs) H' s' ∧ tn i s'.heap ∧ (∀ b ∈ fp, H' b = none) ∧ W i m' H' := fun σ' H' s' I' hl hk nx => by
      obtain ⟨m', hm, w'⟩ := hNx H' nx
      obtain ⟨a, b⟩ := back σ' H' s' I'
      exact ⟨m', hm, i + 1, H', (I'.unpinned (pins := [])).weak hl hk, a, b, w'⟩
    have hl2 : (wipe σ vs).length = σ2.length := by rw [← hw, wipe_length]
    cases b with
    | false => exact fin σ2 H3 s3 I3 hl2 (fun j v e => by rw [← hw] at e; exact (wipe_some e).1) z
    | true =>
      refine wpAny_mono (pi.run _ s3 σ2 H3 _ I3 z) (fun x s4 q4 => ?_) fun e s' z => (hx e s' z).elim
      refine wpAny_mono q4 (fun jt s5 q5 => ?_) fun e s' z => (hx e s' z).elim
      obtain ⟨jt', fj, tj', Jj, H5, e5, I5, Tj, stj, fj5, q5⟩ := q5
      subst e5
      refine second hc hx I5 Tj stj fj5 pgj ptj pk pv (fun H' s' I' nx => ?_) q5
      refine fin (wipe σ2 vj) H' s' I' (hl2.trans (wipe_length _ _).symm) (fun j v e => ?_) nx
      rw [← hw] at e
      obtain ⟨e1, e2⟩ := wipe_some e
      rw [wipe_out fun z => e2 (hv j z)]
      exact e1
end Ev

set_option Elab.async false
set_option linter.all false
set_option maxRecDepth 100000
namespace Ev
open PySem PySem.Spec PyProof.Rows L2
def tDc2 (wi : TI) (g : TG) (tt : TT) (wj : TI) (gj : TG) (tj : TT) (tk tv : TE) (vs vj : List Nat) : TE := fun σ H Q => wi σ H fun J H1 => ∀ D, H1 D = none → tClause J (upd H1 D (.dK [])) (fun H' => Q (.ref D) H') (stepA g tt wj gj tj tk tv σ vs vj D)
/-- what holds in every block of this comprehension -/
abbrev InBlk (X : Cx) (scope : Scope) (F : Cx → Prop) : Prop := ∀ (s : Shared) (H : Hp) (C : Addr) (cl : List (Str × Addr)) (fp : List Addr), F (X.blk s H scope (compEnvC scope cl C X.env) fp)
theorem pe_dc2 {X : Cx} {kx vx ta ia tb ib : Expr} {fa fb : List Expr} {sc : Scope} {p : Pos} {own : List (Str × Nat)} {vj : List Nat} {wi wj : TI} {g gj : TG} {tt tj : TT} {tk tv : TE} (hc : X.calm = true) (hN : X.N.Nodup) (hi : PI X ta ia wi) (ok : BlkOk X.N X.env.scope sc own) (hv : ∀ i ∈ vj, i ∈ own.map (·.2))
    (hg : InBlk X sc fun B => PG B ta g) (ht : InBlk X sc fun B => PTs B fa tt) (hj : InBlk X sc fun B => PI B tb ib wj) (hgj : InBlk X sc fun B => PG B tb gj) (htj : InBlk X sc fun B => PTs B fb tj) (hk : InBlk X sc fun B => PE B kx tk) (he : InBlk X sc fun B => PE B vx tv)
    (hs : ∀ x, foldedSetIterable ia X.env x = pure x := by intro _; rfl) (hs1 : ∀ env x, foldedSetIterable ib env x = pure x := by intro _ _; rfl) :
    PE X (dc2 kx vx ta ia tb ib fa fb sc p) (tDc2 wi g tt wj gj tj tk tv (own.map (·.2)) vj) := by
  refine ⟨fun pins s σ H Q I h => ?_⟩
  rw [arm_eval_DictComp]
  have hfree : ∀ y ∈ sc.names, y.2 = .free → ∃ c, X.env.cells.lookup y.1 = some c := fun y hy e =>
    (ok.free y hy e).elim (fun k => I.ok.has _ (.inl k)) fun k => I.ok.has _ (.inr k)
  refine wpAny_comprehension_free rfl hs (closure_ok hfree) ok.kind (fun y hy e => by rw [ok.uniq y hy, e]) (thn (hi.run pins s σ H _ I h) fun xv s1 hx => thn hx fun itv s2 h2 => ?_)
  obtain ⟨it, fp, tn, J, H2, e, I2, T, st2, f2, q⟩ := h2
  subst e
  refine wpAny_newObj_type (newEnv_comp ?_)
  generalize hD : s2.heap.objs.size = D
  have hDn : H2 D = none := I2.hok.fresh (Nat.le_of_eq hD)
  have tl := q D hDn
  generalize hs3 : ({ s2 with heap := s2.heap.push { cls := .type "dict", data := .dict #[] } } : Shared) = s3
  have h3 : s3.heap = s2.heap.push { cls := .type "dict", data := .dict #[] } := by rw [← hs3]
  have I3 : Inv X pins σ (upd H2 D (.dK [])) s3 := by
    rw [← hs3]
    exact I2.laid (t' := s2.toks) (fun b o e => Heap.get?_push_of_some _ e) (Nat.le_of_eq hD) (by rw [← hD]; exact dk_empty s2.heap I2.big)
  have f3 : ∀ b ∈ fp, FpOk X pins (upd H2 D (.dK [])) b ∧ b < s3.heap.objs.size := fun b hb => by
    obtain ⟨o, eb, _⟩ := T.obj _ _ st2 b hb
    have hlt := Heap.lt_size eb
    refine ⟨⟨?_, (f2 b hb).2⟩, by rw [h3, Heap.size_push]; exact Nat.lt_succ_of_lt hlt⟩
    rw [upd_ne (by rw [← hD]; exact Nat.ne_of_lt hlt)]
    exact (f2 b hb).1
  have I4 := block_start I3 ok hN f3
  have nfp : ∀ b ∈ fp, (upd H2 D (.dK [])) b = none := fun b hb => (f3 b hb).1.1
  have st3 : tn 0 s3.heap := T.keep _ _ _ st2 fun b _ o e => by rw [h3]; exact Heap.get?_push_of_some _ e
  generalize hH3 : upd H2 D (.dK []) = H3 at I3 I4 nfp f3 tl
  have st4 : tn 0 (pushCells (s3.heap.push { cls := .type "dict", data := .dict #[] }) sc.names) := T.keep _ _ _ st3 fun b _ o e => pushCells_keeps _ _ _ _ (Heap.get?_push_of_some _ e)
  refine codeAny_compStart_dict (?loop) (T.self X.A 0 _ _ _ st4 ?loop)
  refine first_ (B := X.blk s3 H3 sc _ fp) hc (fun _ _ z => z) hv (hs1 _) I4 T st4 (fun H' hn b hb => ⟨hn b hb, (I4.ok.exf b hb).1, I4.ok.exfs b hb, .inl hb, fun x c e => (I4.ok.exf b hb).2 x c e, fun p hp => absurd (show p ∈ ([] : List (Addr × Obj)) ++ [] from hp) (by simp)⟩) nfp
    (hg _ _ _ _ _) (ht _ _ _ _ _) (hj _ _ _ _ _) (hgj _ _ _ _ _) (htj _ _ _ _ _) (hk _ _ _ _ _) (he _ _ _ _ _) (fun H' s6 I6 qq => ?_) tl
  have I7 : Inv X pins σ H' s6 := I3.call' (ch := fp) I6.os I6.base I6.hok I6.bare fun b hb => ⟨(f3 b hb).1.2.2.2.1, (f3 b hb).1.2.1, (f3 b hb).1.2.2.2.2.1, (f3 b hb).1.2.2.2.2.2⟩
  have nC : H' s3.heap.objs.size = none := I6.free
  obtain ⟨m, hn, _⟩ := I6.loc
  obtain ⟨z0, z1, z2, z3, z4, z5⟩ := I3.fpOk (H' := H') (Nat.le_refl _) nC
  exact ⟨m, hn, fun h'' sb => ⟨.ref D, H', I7.turned (t' := s6.toks) (fun b o hb e => (sb.2 b hb).trans e) z0 z1 z3 z4 z5, rfl, qq⟩⟩
end Ev

set_option Elab.async false
set_option linter.all false
set_option maxRecDepth 100000
set_option maxHeartbeats 2000000
namespace Ev
open PySem PySem.Spec PyProof.Rows L2
theorem lex_irr : ∀ a : List Int, HT.lexLt a a = false
  | [] => rfl
  | x :: a => by rw [HT.lexLt_cons, if_pos rfl]; exact lex_irr a
theorem lex_asym : ∀ {a b : List Int}, HT.lexLt a b = true → HT.lexLt b a = false
  | [], [], h => by cases h
  | [], _ :: _, _ => rfl
  | _ :: _, [], h => by cases h
  | x :: a, y :: b, h => by
    rw [HT.lexLt_cons] at h ⊢
    by_cases e : x = y
    · rw [if_pos e] at h; rw [if_pos e.symm]; exact lex_asym h
    · rw [if_neg e] at h; rw [if_neg (Ne.symm e)]
      have := of_decide_eq_true h
      exact decide_eq_false (by omega)
theorem lex_conn : ∀ {a b : List Int}, HT.lexLt a b = false → HT.lexLt b a = false → a = b
  | [], [], _, _ => rfl
  | [], _ :: _, h, _ => by cases h
  | _ :: _, [], _, h => by cases h
  | x :: a, y :: b, h, k => by
    rw [HT.lexLt_cons] at h k
    by_cases e : x = y
    · rw [if_pos e] at h; rw [if_pos e.symm] at k; rw [e, lex_conn h k]
    · rw [if_neg e] at h; rw [if_neg (Ne.symm e)] at k
      have h1 := of_decide_eq_false h
      have h2 := of_decide_eq_false k
      omega
theorem lex_trans : ∀ {a b c : List Int}, HT.lexLt a b = true → HT.lexLt b c = true → HT.lexLt a c = true
  | [], [], _, h, _ => by cases h
  | [], _ :: _, [], _, h => by cases h
  | [], _ :: _, _ :: _, _, _ => rfl
  | _ :: _, [], _, h, _ => by cases h
  | _ :: _, _ :: _, [], _, h => by cases h
  | x :: a, y :: b, z :: c, h, k => by
    rw [HT.lexLt_cons] at h k ⊢
    by_cases e : x = y
    · rw [if_pos e] at h
      subst e
      by_cases e2 : x = z
      · rw [if_pos e2] at k ⊢; exact lex_trans h k
      · rw [if_neg e2] at k ⊢; exact k
    · rw [if_neg e] at h
      have h1 := of_decide_eq_true h
      by_cases e2 : y = z
      · subst e2; rw [if_neg e]; exact h
      · rw [if_neg e2] at k
        have h2 := of_decide_eq_true k
        rw [if_neg (by omega)]
        exact decide_eq_true (by omega)
theorem lex_swo {α : Type} (f : α → List Int) : SrtO.Swo fun x y => HT.lexLt (f x) (f y) := by
  refine ⟨fun x y h => lex_asym h, fun x y z h1 h2 => ?_⟩
  cases h : HT.lexLt (f z) (f x) with
  | false => rfl
  | true =>
    cases k : HT.lexLt (f x) (f y) with
    | true => rw [lex_trans h k] at h2; cases h2
    | false => rw [← lex_conn h1 k, h2] at h; cases h
/-- a list of lists, sorted -/
def leL (a b : List Int) : Bool := !HT.lexLt b a
def sortLL (xs : List (List Int)) : List (List Int) := Gr.isort leL xs
theorem leL_total (a b : List Int) : (leL a b || leL b a) = true := by
  unfold leL
  cases h : HT.lexLt b a with
  | false => rfl
  | true => rw [lex_asym h]; rfl
theorem leL_trans (a b c : List Int) (h1 : leL a b = true) (h2 : leL b c = true) : leL a c = true := by
  unfold leL at *
  rw [Bool.not_eq_true'] at *
  exact (lex_swo (α := List Int) id).tr a b c h1 h2
theorem sortLL_pw (xs : List (List Int)) : (sortLL xs).Pairwise fun a b => leL a b = true := Gr.isort_pw leL_trans leL_total xs
theorem sortLL_perm (xs : List (List Int)) : (sortLL xs).Perm xs := Gr.isort_perm xs
theorem leL_anti {a b : List Int} (h1 : leL a b = true) (h2 : leL b a = true) : a = b := by
  unfold leL at *
  rw [Bool.not_eq_true'] at *
  exact lex_conn h2 h1
theorem sortLL_is {xs ys : List (List Int)} (p : ys.Perm xs) (s : ys.Pairwise fun a b => leL a b = true) : ys = sortLL xs :=
  List.Perm.eq_of_pairwise (le := fun a b => leL a b = true) (fun a b _ _ h1 h2 => leL_anti h1 h2) s (sortLL_pw xs) (p.trans (sortLL_perm xs).symm)
section
variable {prog : Program} {w : World} {A : Around} {E : Value → Shared → Prop} {s : Shared}
theorem kat_lex {b : Bool} {Q : Bool → Shared → Prop} {us ws : List Value} {ns ms : List Int} (hx : IntsAre us ns) : ∀ {ws : List Value} {ms : List Int} (i : Nat), IntsAre ws ms → Q (HT.lexLt ns ms) s → PySem.W.KatLex prog w A b (decide (us.length < ws.length)) Q (us.zip ws) i s := by
  have gen : ∀ {us : List Value} {ns : List Int}, IntsAre us ns → ∀ {ws : List Value} {ms : List Int} (i : Nat) (m : Nat) , IntsAre ws ms → Q (HT.lexLt ns ms) s → PySem.W.KatLex prog w A b (decide (us.length + m < ws.length + m)) Q (us.zip ws) i s := by
    intro us ns hx
    induction hx with
    | nil =>
      intro ws ms i m hy h
      cases hy with
      | nil =>
        refine PySem.W.kat_nil ?_
        rw [HT.lexLt_nil_nil] at h
        simpa using h
      | @cons q u ws ms hy =>
        refine PySem.W.kat_nil ?_
        rw [HT.lexLt_nil_cons] at h
        have e : decide (([] : List Value).length + m < (Value.int q u :: ws).length + m) = true := decide_eq_true (by simp)
        rw [e]
        exact h
    | @cons p t us ns hx ih =>
      intro ws ms i m hy h
      cases hy with
      | nil =>
        refine PySem.W.kat_nil ?_
        rw [HT.lexLt_cons_nil] at h
        have e : decide ((Value.int p t :: us).length + m < ([] : List Value).length + m) = false := decide_eq_false (by simp)
        rw [e]
        exact h
      | @cons q u ws ms hy =>
        rw [HT.lexLt_cons] at h
        refine PySem.W.kat_cons (wpAny_eqBool_int ?_)
        by_cases e : p = q
        · subst e
          rw [beq_self_eq_true]
          rw [if_pos rfl] at h
          refine PySem.W.kat_yes ?_
          have z := ih (i + 1) (m + 1) hy h
          have e2 : decide ((Value.int p t :: us).length + m < (Value.int p u :: ws).length + m) = decide (us.length + (m + 1) < ws.length + (m + 1)) := by
            refine decide_eq_decide.mpr ?_
            simp only [List.length_cons]
            omega
          rw [e2]
          exact z
        · rw [show (p == q) = false from beq_eq_false_iff_ne.mpr e]
          rw [if_neg e] at h
          exact PySem.W.kat_no (TS.oneLt_ints _ h)
  intro ws ms i hy h
  exact gen hx i 0 hy h
/-- what is sorted: tuples of ints, none of them empty -/
def TupsNe (h : Heap) (vs : List Value) : Prop := ∀ v, v ∈ vs → ∃ ns, TS.TupInts h v ns ∧ ns ≠ []
theorem TupsNe.keeps {h h' : Heap} {vs : List Value} (x : TupsNe h vs) (k : ∀ b o, h.get? b = some o → o.cls = .type "tuple" → h'.get? b = some o) : TupsNe h' vs := fun v hv =>
  let ⟨ns, t, r⟩ := x v hv
  ⟨ns, t.keeps k, r⟩
theorem ne_firsts {h : Heap} : ∀ vs : List Value, TupsNe h vs → ∃ fs, PySem.W.KatTups h vs fs ∧ fs.length = vs.length ∧ ∀ f, f ∈ fs → ∃ n t, f = Value.int n t
  | [], _ => ⟨[], PySem.W.KatTups.nil, rfl, fun f hf => absurd hf List.not_mem_nil⟩
  | v :: vs, x => by
    obtain ⟨fs, k, hl, hi⟩ := ne_firsts vs fun u hu => x u (List.mem_cons_of_mem _ hu)
    obtain ⟨ns, ⟨a, xs, rfl, ⟨o, ho, hc, n, hdt⟩, i⟩, hn⟩ := x v List.mem_cons_self
    obtain ⟨l⟩ := xs
    have i : IntsAre l ns := i
    cases i with
    | nil => exact absurd rfl hn
    | @cons p t r q i =>
      refine ⟨.int p t :: fs, PySem.W.KatTups.cons ho hc hdt rfl k, by rw [List.length_cons, hl, List.length_cons], fun f hf => ?_⟩
      rcases List.mem_cons.mp hf with e | hf
      · exact ⟨p, t, e⟩
      · exact hi f hf
theorem lex_cmp {vs : List Value} {k : Value → List Int} (hp : ∀ v ∈ vs, TS.TupInts s.heap v (k v)) : SrtO.Cmp prog w A s (tuples' true) (fun p => p.1 ∈ vs) (SrtO.lt2 fun v u => HT.lexLt (k v) (k u)) := by
  intro p q hm hm'
  obtain ⟨a, xs, e, ⟨o, ho, _, n, hd⟩, i⟩ := hp _ hm
  obtain ⟨a', xs', e', ⟨o', ho', _, n', hd'⟩, i'⟩ := hp _ hm'
  show wpAny (model prog w) A (keyLt' (tuples' true) p.1 q.1) (fun r s' => s' = s ∧ r = HT.lexLt (k p.1) (k q.1)) (fun _ _ => False) s
  generalize k p.1 = ks at i ⊢
  generalize k q.1 = ks' at i' ⊢
  rw [e, e']
  refine PySem.W.kat_lt ho hd ho' hd' ?_
  rw [← Array.length_toList, ← Array.length_toList]
  exact kat_lex (us := xs.toList) (ws := xs'.toList) (ms := ks') i 0 i' ⟨rfl, rfl⟩
theorem lex_sortable {a : Addr} {vs : List Value} {k : Value → List Int} (h0 : 0 < vs.length) (hp : ∀ v ∈ vs, TS.TupInts s.heap v (k v)) (hne : ∀ v ∈ vs, k v ≠ []) (ha : ∀ o, s.heap.get? a = some o → o.cls ≠ .type "tuple") : SrtO.SortableO prog w A s a vs fun v u => HT.lexLt (k v) (k u) := by
  intro h' keep
  have hp' : ∀ v ∈ vs, TS.TupInts h' v (k v) := fun v hm => (hp v hm).keeps fun b o e c => keep b o (fun z => by subst z; exact ha o e c) e
  obtain ⟨fs, h1, h2, h3⟩ := ne_firsts (h := h') vs fun v hm => ⟨_, hp' v hm, hne v hm⟩
  refine ⟨tuples' true, fun Q E hq => ?_, lex_cmp hp'⟩
  refine PySem.W.kat_kind (T := .type "int") h1 (by omega) (fun f hm => ?_) (by rfl) ?_
  · obtain ⟨x, t, rfl⟩ := h3 f hm
    exact PySem.W.Looks.now
  · have e : (Value.type "int" != Value.type "tuple") = true := by first | decide +kernel | rfl | decide
    rw [e]
    exact hq
/-- sorted of a list of such tuples -/
theorem sorted_lex {l : Addr} {vs : List Value} {k : Value → List Int} {Q : Value → Shared → Prop} (hl : s.heap.IsList l vs.toArray) (hz : vs.length ≤ sizeLine) (hp : ∀ v ∈ vs, TS.TupInts s.heap v (k v)) (hne : ∀ v ∈ vs, k v ≠ [])
    (h : ∀ (h' : Heap) (d : Addr) (out : List Value), SrtO.Srtd (fun v u => HT.lexLt (k v) (k u)) out → out.Perm vs → (∀ b o, s.heap.get? b = some o → h'.get? b = some o) → s.heap.objs.size ≤ d → (∃ n, h'.get? d = some (seqObj "list" out.toArray n)) → Q (.ref d) { s with heap := h' }) :
    wpAny (model prog w) A (call (.builtin "sorted") [.ref l]) Q E s := by
  refine SrtO.sorted_ord (lex_swo k) hl hz (fun h2 h₁ a ha kk => ?_) fun out hs hb => ?_
  · refine lex_sortable (s := { s with heap := h₁ }) (by omega) (fun v hm => (hp v hm).keeps fun b o e _ => (kk b o e).2) hne fun o e => ?_
    have e' : some o = some (seqObj "list" vs.toArray 0) := e.symm.trans ha
    cases e'
    intro c
    exact absurd (Value.type.inj c) (by decide)
  · exact h _ _ out hs hb.perm (fun b o e => sortedAll_old e) (Nat.le_succ _) (sortedAll_at s.heap vs out.toArray)
/-- sorted of a set of such tuples -/
theorem sorted_setL {P : Program} {a : Addr} {L : List (Addr × List Int)} {es : Array (Int × Value)} {ep : Nat} {t : SetTable} {Q : Value → Shared → Prop} (R : SetTR P w s.heap a L es ep t) (hh : A.handled = none) (hne : ∀ p ∈ L, p.2 ≠ [])
    (hQ : ∀ s' p (out : List Value) (c : Nat) (M : List (Addr × List Int)), (∀ b o, s.heap.get? b = some o → s'.heap.get? b = some o) → s'.gens = s.gens → s'.os = s.os → s.heap.objs.size ≤ p →
      s'.heap.get? p = some (seqObj "list" out.toArray c) → out = M.map (fun q => Value.ref q.1) → M.Perm L → M.Pairwise (fun q r => HT.lexLt r.2 q.2 = false) → Q (.ref p) s') :
    wpAny (model P w) A (call (.builtin "sorted") [.ref a]) Q E s := by
  obtain ⟨o, ho, hex, hd⟩ := R.ob
  have rsz := R.size
  have rfew := R.few
  refine Calls.call_function_entry kind_sorted plain_sorted entry_sorted (args_sorted1 _) ?_
  unfold Builtin.«sorted»
  refine wpAny_bind (m := checkCount "sorted" 1 1 _) (wpAny_pure ?_)
  refine wpAny_bind (collect_set (A := A.in1) hh ⟨o, ho, hex.1, hd⟩ R.fits (by unfold scanBound; omega) R.tab.ris R.led fun s1 us k1 hz g1 o1 pm => ?_)
  have eus : es.toList.map (·.2) = L.map fun q => Value.ref q.1 := by
    rw [R.rows]
    unfold rowsOf
    rw [List.map_map] <;> rfl
  rw [eus] at pm
  -- the rows behind the values
  have rows : ∀ xs : List Value, (∀ v ∈ xs, ∃ q ∈ L, v = Value.ref q.1) → ∃ M : List (Addr × List Int), xs = M.map (fun q => Value.ref q.1) ∧ ∀ q ∈ M, q ∈ L := by
    intro xs
    induction xs with
    | nil => intro _; exact ⟨[], rfl, fun q hq => absurd hq List.not_mem_nil⟩
    | cons v xs ih =>
      intro hv
      obtain ⟨q, hq, e⟩ := hv v List.mem_cons_self
      obtain ⟨M, e1, hs⟩ := ih fun u hu => hv u (List.mem_cons_of_mem _ hu)
      refine ⟨q :: M, by rw [e, e1]; rfl, fun r hr => ?_⟩
      rcases List.mem_cons.mp hr with rfl | z
      · exact hq
      · exact hs r z
  have uniq : ∀ q ∈ L, ∀ r ∈ L, q.1 = r.1 → q = r := fun q hq r hr e => by
    have a1 := R.tup q hq
    rw [e] at a1
    exact Prod.ext e (a1.inj (R.tup r hr))
  have back : ∀ M : List (Addr × List Int), (∀ q ∈ M, q ∈ L) → (M.map (fun q => Value.ref q.1)).Perm (L.map fun q => Value.ref q.1) → M.Perm L := by
    intro M hs pm1
    have nL : L.Nodup := nodup_of_map R.nd
    have nref : (L.map fun q => Value.ref q.1).Nodup := List.pairwise_map.mpr (List.Pairwise.imp_of_mem (fun {q r} hq hr ne e => ne (uniq q hq r hr (Value.ref.inj e))) nL)
    refine (List.perm_ext_iff_of_nodup (nodup_of_map (pm1.nodup_iff.mpr nref)) nL).mpr fun q => ⟨hs q, fun hq => ?_⟩
    obtain ⟨r, hr, e⟩ := List.mem_map.mp (pm1.mem_iff.mpr (List.mem_map.mpr ⟨q, hq, rfl⟩))
    rw [← uniq r (hs r hr) q hq (Value.ref.inj e)]
    exact hr
  have lus : us.length < 64 := by rw [pm.length_eq, List.length_map]; exact rfew
  refine wpAny_bind (wpAny_newList ?_ (by rw [sizeLine_eq]; omega))
  have new : (s1.heap.push (seqObj "list" us.toArray 0)).get? s1.heap.objs.size = some (seqObj "list" us.toArray 0) := Heap.get?_push_size _ rfl
  have tk : ∀ q ∈ L, TS.TupInts (s1.heap.push (seqObj "list" us.toArray 0)) (.ref q.1) q.2 := fun q hq => tupInts_of (P := P) (w := w) (isT_keep (R.tup q hq) fun b u e => Heap.get?_push_of_some _ (k1 b u e))
  have of_v : ∀ v ∈ us, ∃ q ∈ L, v = Value.ref q.1 := fun v hv => by
    obtain ⟨q, hq, e⟩ := List.mem_map.mp (pm.mem_iff.mp hv)
    exact ⟨q, hq, e.symm⟩
  refine wpAny_bind (wpAny_holding (wpAny_call_entry slot_list_sort ⟨_, new, rfl⟩ entry_list_sort (SrtO.list_sort_ord (s := { s1 with heap := s1.heap.push (seqObj "list" us.toArray 0) }) (lex_swo (TS.intsOf (s1.heap.push (seqObj "list" us.toArray 0)))) new (by rw [sizeLine_eq]; omega) (fun h2 => ?_) fun out hs hb => ⟨_, rfl, ?_⟩) (args_list_sort _)))
  · refine lex_sortable (s := { s1 with heap := s1.heap.push (seqObj "list" us.toArray 0) }) (by omega) (fun v hv => ?_) (fun v hv => ?_) fun o' e => ?_
    · obtain ⟨q, hq, rfl⟩ := of_v v hv
      rw [(tk q hq).ints]
      exact tk q hq
    · obtain ⟨q, hq, rfl⟩ := of_v v hv
      rw [(tk q hq).ints]
      exact hne q hq
    · rw [new] at e
      cases e
      intro c
      exact absurd (Value.type.inj c) (by decide)
  · obtain ⟨c, hc⟩ := sortedHeap_at (vs := us) (out := out.toArray) new
    obtain ⟨M, e', hs'⟩ := rows out fun v hv => of_v v (hb.perm.mem_iff.mp hv)
    have pL : M.Perm L := back M hs' (by rw [← e']; exact hb.perm.trans pm)
    refine wpAny_pure ⟨_, rfl, hQ _ s1.heap.objs.size out c M (fun b u e => ?_) g1 o1 hz hc e' pL ?_⟩
    · have hlt := Heap.lt_size (k1 b u e)
      show (sortedHeap (s1.heap.push (seqObj "list" us.toArray 0)) s1.heap.objs.size us out.toArray).get? b = some u
      rw [sortedHeap_old (Nat.ne_of_lt hlt) (by rw [size_push']; exact Nat.lt_succ_of_lt hlt)]
      exact Heap.get?_push_of_some _ (k1 b u e)
    · rw [e'] at hs
      refine List.Pairwise.imp_of_mem (fun {q r} hq hr z => ?_) (List.pairwise_map.mp hs)
      have z : HT.lexLt (TS.intsOf (s1.heap.push (seqObj "list" us.toArray 0)) (.ref r.1)) (TS.intsOf (s1.heap.push (seqObj "list" us.toArray 0)) (.ref q.1)) = false := z
      rw [(tk q (hs' q hq)).ints, (tk r (hs' r hr)).ints] at z
      exact z
end
end Ev

set_option Elab.async false
set_option linter.all false
set_option maxRecDepth 100000
set_option maxHeartbeats 2000000
namespace Ev
open PySem PySem.Spec PyProof.Rows L2
abbrev KVs := List (Key × Val)
section
variable {T : Tab} {φ φ' φ'' φ1 ψ ψ' : Phi} {H H' H'' H1 : Hp} {st st' : Sto} {D : Addr}
theorem ExtV.trans (e : ExtV φ H φ' H') (n : ∀ a, H a ≠ none → H' a ≠ none) (f : ExtV φ' H' φ'' H'') : ExtV φ H φ'' H'' where
  len := Nat.le_trans e.len f.len
  old := fun k a h hn => e.old k a (f.old k a h (Nat.lt_of_lt_of_le hn e.len)) hn
  tups := fun a us h => f.tups a us (e.tups a us h)
  nl := fun a h hs => f.nl a (e.nl a h hs) (n a hs)
  rd := fun a u h r => f.rd a u (e.nl a h (rd_some r)) (e.rd a u h r)
/-- what was kept apart becomes a thing of the store -/
theorem addLoc {o : Ob} (e1 : Ext φ1 H1 φ H) (hD : H1 D = none) (nh : ∀ a, a ∈ φ1.hid → a ≠ D) (R : Rst T (φ.hide D) st H) (ro : RelOb T (φ.hide D) H o D) : Ext φ1 H1 (φ.add D) H ∧ Rst T (φ.add D) (st ++ [o]) H := by
  have nD : ¬ Live φ D := by
    rintro (⟨n, hn⟩ | hm)
    · exact R.apart n D hn List.mem_cons_self
    · exact nh D (e1.hid ▸ hm) rfl
  have R0 := R.unhide
  have ev : ExtV (φ.hide D) H (φ.add D) H := {
    len := by show φ.l.length ≤ (φ.l ++ [some D]).length; simp
    old := fun n a h hn => by
      rcases add_get h with ⟨_, q⟩ | ⟨q, _⟩
      · exact q
      · have : n < φ.l.length := hn
        omega
    tups := fun _ _ h => h
    nl := fun a h _ => by
      obtain ⟨h1, h2⟩ := live_hide h
      rintro (⟨n, hn⟩ | hm)
      · rcases add_get hn with ⟨_, q⟩ | ⟨_, q⟩
        · exact h1 (.inl ⟨n, q⟩)
        · exact h2 q
      · exact h1 (.inr hm)
    rd := fun _ _ _ r => r }
  refine ⟨⟨Nat.le_trans e1.len (by show φ.l.length ≤ (φ.l ++ [some D]).length; simp), fun n a h hn => ?_, fun n a h hn => ?_, e1.tups, e1.rd, e1.non, e1.hid, e1.hidk⟩, ?_, fun n m a h1 h2 => ?_, fun n ob h => ?_, R0.hid, fun n a h z => ?_⟩
  · rcases add_get h with ⟨_, q⟩ | ⟨q, _⟩
    · exact e1.old n a q hn
    · have := e1.len
      omega
  · rcases add_get h with ⟨_, q⟩ | ⟨_, q⟩
    · exact e1.new n a q hn
    · rw [q]; exact hD
  · show (φ.l ++ [some D]).length = _
    have : φ.l.length = st.length := R0.len
    simp [this]
  · rcases add_get h1 with ⟨_, q1⟩ | ⟨l1, q1⟩
    · rcases add_get h2 with ⟨_, q2⟩ | ⟨l2, q2⟩
      · exact R0.inj n m a q1 q2
      · subst q2; exact absurd (.inl ⟨n, q1⟩) nD
    · rcases add_get h2 with ⟨_, q2⟩ | ⟨l2, q2⟩
      · subst q1; exact absurd (.inl ⟨m, q2⟩) nD
      · omega
  · by_cases hn : n < st.length
    · rw [List.getElem?_append_left hn] at h
      rcases R.ob n ob h with ⟨q1, q2⟩ | ⟨a, q, r⟩
      · exact .inl ⟨q1, add_old q2⟩
      · exact .inr ⟨a, add_old q, r.extV ev rfl⟩
    · have hz : n = st.length := by
        have := (List.getElem?_eq_some_iff.mp h).1
        simp at this
        omega
      subst hz
      rw [List.getElem?_append_right (Nat.le_refl _), Nat.sub_self] at h
      cases h
      refine .inr ⟨D, ?_, ro.extV ev rfl⟩
      have e : st.length = φ.l.length := R0.len.symm
      rw [e]
      show (φ.l ++ [some D])[φ.l.length]? = _
      simp
  · rcases add_get h with ⟨_, q⟩ | ⟨_, q⟩
    · exact R0.apart n a q z
    · subst q; exact nD (.inr z)
/-- D is the dict that grows -/
def DState (T : Tab) (φ1 : Phi) (H1 : Hp) (D : Addr) (ψ : Phi) (st : Sto) (H : Hp) (kvs : KVs) : Prop := ∃ φ us, ψ = φ.hide D ∧ Ext φ1 H1 φ H ∧ Rst T ψ st H ∧ H D = some (.dK us) ∧ RelF T ψ H kvs us
theorem DState.step {kvs : KVs} (d : DState T φ1 H1 D ψ st H kvs) (hD : H1 D = none) (nh : ∀ a, a ∈ φ1.hid → a ≠ D) (e : Ext ψ H ψ' H') (R : Rst T ψ' st' H') : DState T φ1 H1 D ψ' st' H' kvs := by
  obtain ⟨φ, us, rfl, e1, _, h1, h2⟩ := d
  obtain ⟨φ', rfl, e2, _⟩ := Ext.outof e1 e hD nh
  exact ⟨φ', us, rfl, e2, R, (e.hidk D List.mem_cons_self).trans h1, h2.ext e⟩
theorem DState.put {kvs : KVs} {k : Key} {v : Val} {z : V} (d : DState T φ1 H1 D ψ st H kvs) (hD : H1 D = none) (nh : ∀ a, a ∈ φ1.hid → a ≠ D) (r : RelV T ψ H v z) : ∃ us, H D = some (.dK us) ∧ us.length = kvs.length ∧ ExtV ψ H ψ (upd H D (.dK (putK us k z))) ∧ DState T φ1 H1 D ψ st (upd H D (.dK (putK us k z))) (put kvs k v) := by
  obtain ⟨φ, us, rfl, e1, R, h1, h2⟩ := d
  have ht : ∀ ws, H D ≠ some (.tup ws) := fun ws q => by rw [h1] at q; cases q
  obtain ⟨φ', e, _, e3⟩ := Ext.outof e1 (Ext.refl (φ := φ.hide D) (H := H)) hD nh
  have e : φ = φ' := by
    have e1 := congrArg Phi.l e
    have e2 := congrArg Phi.hid e
    cases φ; cases φ'
    simp only [Phi.hide, List.cons.injEq, true_and] at e1 e2
    rw [e1, e2]
  subst e
  exact ⟨us, h1, (Paired.length h2).symm, hidden_v ht, φ, _, rfl, e3 _, R.hidden ht, upd_same, (rel_put h2 k r).extV (hidden_v ht)⟩
end
/-- a clause over a walk -/
theorem clause_it {J : It} {n : Nat} {Gd : Hp → Prop} {Y : Nat → Hp → V → Hp → Prop} {H0 : Hp} {stop : Hp → Prop} {step : (Hp → Prop) → V → Hp → Prop} (w : Walk J n Gd Y) (Pv : Nat → Hp → Prop) (h0 : Pv 0 H0) (hG : ∀ i H, Pv i H → Gd H)
    (hs : ∀ i x H H', i < n → Pv i H → Y i H x H' → step (Pv (i + 1)) x H') (hd : ∀ H, Pv n H → stop H) : tClause J H0 stop step := by
  refine ⟨fun i m H => m + i = n ∧ Pv i H, ⟨n, rfl, h0⟩, ?_⟩
  rintro i m H ⟨e, p⟩
  have q := hG i H p
  by_cases hlt : i < n
  · exact .inr ⟨w.goes i H hlt q, Pv (i + 1), fun H' p' => ⟨n - (i + 1), by omega, by omega, p'⟩, fun x H' y => hs i x H H' hlt p (w.yields i H x H' hlt q y)⟩
  · have e : i = n := by omega
    subst e
    exact .inl ⟨w.stops H q, hd H p⟩
def dcIn (g : G) (c : ET) (k v : E) (ρ : Env) : List Val → KVs → Sto → Res KVs
  | [], kvs, st => .ok kvs st
  | x :: xs, kvs, st => match g x ρ st with
    | some (ρ1, st1) => match c ρ1 st1 with
      | .ok true st2 => match k ρ1 st2 with
        | .ok y st3 => match keyOf y with
          | some kk => match v ρ1 st3 with
            | .ok z st4 => if kvs.length < sizeLine then dcIn g c k v ρ xs (put kvs kk z) st4 else .bad
            | _ => .bad
          | none => .bad
        | _ => .bad
      | .ok false st2 => dcIn g c k v ρ xs kvs st2
      | _ => .bad
    | none => .bad
def dcOut (g : G) (c : ET) (itj : EI) (gj : G) (cj : ET) (k v : E) (vj : List Nat) (ρ : Env) : List Val → KVs → Sto → Res KVs
  | [], kvs, st => .ok kvs st
  | x :: xs, kvs, st => match g x ρ st with
    | some (ρ1, st1) => match c ρ1 st1 with
      | .ok true st2 => match itj ρ1 st2 with
        | .ok items st3 => match dcIn gj cj k v (wipeE ρ1 vj) items kvs st3 with
          | .ok kvs2 st4 => dcOut g c itj gj cj k v vj ρ xs kvs2 st4
          | _ => .bad
        | _ => .bad
      | .ok false st2 => dcOut g c itj gj cj k v vj ρ xs kvs st2
      | _ => .bad
    | none => .bad
def eDc2 (own vj : List Nat) (it : EI) (g : G) (c : ET) (itj : EI) (gj : G) (cj : ET) (k v : E) : E := fun ρ st => bindR (it ρ st) fun items st1 => match dcOut g c itj gj cj k v vj (wipeE ρ own) items [] st1 with
  | .ok kvs st2 => .ok (.loc st2.length) (st2 ++ [.dK kvs])
  | _ => .bad
def okR {α : Type} (r : Res α) (P : α → Sto → Prop) : Prop := match r with
  | .ok a st => P a st
  | _ => False
theorem drop_at {α : Type} {xs : List α} {i : Nat} {v : α} (h : xs[i]? = some v) : xs.drop i = v :: xs.drop (i + 1) := by
  obtain ⟨hl, rfl⟩ := List.getElem?_eq_some_iff.mp h
  rw [List.drop_eq_getElem_cons hl]
section
variable {X : Cx} {T : Tab} {W : WX}
theorem dc_sound {own vj : List Nat} {it itj : EI} {g gj : G} {c cj : ET} {k v : E} {σ : L2.St} {H : Hp} {Q : VK} (h : tE T W (eDc2 own vj it g c itj gj cj k v) σ H Q) :
    tDc2 (tI T W it) (tGw T own g) (tT T W0 c) (tI T W0 itj) (tGw T vj gj) (tT T W0 cj) (tE T W0 k) (tE T W0 v) own vj σ H Q := by
  unfold tDc2
  refine tG_bind h fun items ρ st1 φ1 H1 J re1 w p => fun D hD => ?_
  obtain ⟨Gd, Y, w1, w2, w3⟩ := w
  have hR1 := re1.rst
  have nh : ∀ a, a ∈ φ1.hid → a ≠ D := fun a h z => hR1.hid a h (z ▸ hD)
  let Fin : KVs → Sto → Prop := fun kvs st => Post T (RelV T) W φ1 σ H1 Q (.ok (.loc st.length) (st ++ [.dK kvs]))
  have rest0 : okR (dcOut g c itj gj cj k v vj (wipeE ρ own) (items.drop 0) [] st1) Fin := by
    rw [List.drop_zero]
    cases hl : dcOut g c itj gj cj k v vj (wipeE ρ own) items [] st1 with
    | ok kvs st' => rw [hl] at p; exact p
    | ex x st' => rw [hl] at p; exact p.elim
    | bad => rw [hl] at p; exact p.elim
  refine clause_it w1 (fun i H' => ∃ ψ st kvs, DState T φ1 H1 D ψ st H' kvs ∧ okR (dcOut g c itj gj cj k v vj (wipeE ρ own) (items.drop i) kvs st) Fin) ?_ ?_ ?_ ?_
  · exact ⟨φ1.hide D, st1, [], ⟨φ1, [], rfl, Ext.fresh hR1 hD, hR1.hide hD, upd_same, .nil⟩, rest0⟩
  · rintro i H' ⟨ψ, st, kvs, ⟨φ, us, rfl, e1, _⟩, _⟩
    exact w2 φ H' e1.v
  · rintro i x H' H2 hi ⟨ψ, st, kvs, d, rest⟩ y
    have ev1 : ExtV φ1 H1 ψ H' := by
      obtain ⟨φ, us, rfl, e1, _⟩ := id d
      exact e1.intoV hD
    have R : Rst T ψ st H' := by
      obtain ⟨φ, us, rfl, _, R, _⟩ := id d
      exact R
    obtain ⟨e2, s2, vx, hv, rx⟩ := w3 i H' x H2 ψ st hi ev1 R y
    rw [drop_at hv] at rest
    have re2 : RelE T ψ (wipeE ρ own) st (wipe σ own) H2 := by
      refine ⟨s2, by rw [wipeE_length, wipe_length]; exact re1.len, fun j w hw => ?_⟩
      obtain ⟨h1, h2⟩ := wipeE_some hw
      obtain ⟨u, h3, h4⟩ := re1.get j w h1
      exact ⟨u, by rw [wipe_get, if_neg h2]; exact h3, (h4.extV ev1).ext e2⟩
    refine ⟨ψ, wipeE ρ own, st, vx, re2, rx, ?_⟩
    unfold dcOut at rest
    cases hg : g vx (wipeE ρ own) st with
    | none => rw [hg] at rest; exact rest.elim
    | some q =>
      obtain ⟨ρ3, st3⟩ := q
      rw [hg] at rest
      dsimp only at rest
      intro φ3 H3 σ3 e3 re3 hw3
      refine ⟨by rw [hw3, wipe_wipe], φ3, ρ3, st3, re3, ?_⟩
      cases hc : c ρ3 st3 with
      | ex x st4 => rw [hc] at rest; exact rest.elim
      | bad => rw [hc] at rest; exact rest.elim
      | ok b st4 =>
        rw [hc] at rest
        intro φ4 H4 b' e4 s4 hb
        subst hb
        have e24 := (e2.trans e3).trans e4
        have d4 := d.step hD nh e24 s4
        have re4 := re3.ext e4 s4
        cases b with
        | false => exact iteF ⟨φ4, st4, kvs, d4, rest⟩
        | true =>
          refine iteT ⟨φ4, ρ3, st4, re4, ?_⟩
          dsimp only at rest
          cases hj : itj ρ3 st4 with
          | ex x st5 => rw [hj] at rest; exact rest.elim
          | bad => rw [hj] at rest; exact rest.elim
          | ok items2 st5 =>
            rw [hj] at rest
            dsimp only at rest
            intro φ5 H5 Jj e5 s5 wk
            obtain ⟨Gj, Yj, v1, v2, v3⟩ := wk
            have d5 := d4.step hD nh e5 s5
            have re5 := re4.ext e5 s5
            have rest5 : okR (dcIn gj cj k v (wipeE ρ3 vj) (items2.drop 0) kvs st5) fun kvs2 st6 => okR (dcOut g c itj gj cj k v vj (wipeE ρ own) (items.drop (i + 1)) kvs2 st6) Fin := by
              rw [List.drop_zero]
              cases hl : dcIn gj cj k v (wipeE ρ3 vj) items2 kvs st5 with
              | ok kvs2 st6 => rw [hl] at rest; exact rest
              | ex x st' => rw [hl] at rest; exact rest.elim
              | bad => rw [hl] at rest; exact rest.elim
            refine clause_it v1 (fun j H' => ∃ ψ st kvs, DState T φ1 H1 D ψ st H' kvs ∧ ExtV φ5 H5 ψ H' ∧ (∀ a, H5 a ≠ none → H' a ≠ none) ∧ okR (dcIn gj cj k v (wipeE ρ3 vj) (items2.drop j) kvs st) fun kvs2 st6 => okR (dcOut g c itj gj cj k v vj (wipeE ρ own) (items.drop (i + 1)) kvs2 st6) Fin) ?_ ?_ ?_ ?_
            · exact ⟨φ5, st5, kvs, d5, Ext.refl.v, fun _ h => h, rest5⟩
            · rintro j H' ⟨ψ, st, kvs, _, ev, _, _⟩
              exact v2 ψ H' ev
            · rintro j x2 H6 H7 hj2 ⟨ψ6, st6, kvs6, d6, ev6, n6, rest6⟩ y6
              have R6 : Rst T ψ6 st6 H6 := by
                obtain ⟨φ, us, rfl, _, R, _⟩ := id d6
                exact R
              obtain ⟨e7, s7, vx2, hv2, rx2⟩ := v3 j H6 x2 H7 ψ6 st6 hj2 ev6 R6 y6
              rw [drop_at hv2] at rest6
              have re7 : RelE T ψ6 (wipeE ρ3 vj) st6 (wipe σ3 vj) H7 := by
                refine ⟨s7, by rw [wipeE_length, wipe_length]; exact re5.len, fun j w hw => ?_⟩
                obtain ⟨h1, h2⟩ := wipeE_some hw
                obtain ⟨u, h3, h4⟩ := re5.get j w h1
                exact ⟨u, by rw [wipe_get, if_neg h2]; exact h3, (h4.extV ev6).ext e7⟩
              refine ⟨ψ6, wipeE ρ3 vj, st6, vx2, re7, rx2, ?_⟩
              unfold dcIn at rest6
              cases hg2 : gj vx2 (wipeE ρ3 vj) st6 with
              | none => rw [hg2] at rest6; exact rest6.elim
              | some q =>
                obtain ⟨ρ8, st8⟩ := q
                rw [hg2] at rest6
                dsimp only at rest6
                intro φ8 H8 σ8 e8 re8 hw8
                refine ⟨by rw [hw8, wipe_wipe], φ8, ρ8, st8, re8, ?_⟩
                cases hc2 : cj ρ8 st8 with
                | ex x st9 => rw [hc2] at rest6; exact rest6.elim
                | bad => rw [hc2] at rest6; exact rest6.elim
                | ok b2 st9 =>
                  rw [hc2] at rest6
                  intro φ9 H9 b' e9 s9 hb
                  subst hb
                  have e79 := (e7.trans e8).trans e9
                  have re9 := re8.ext e9 s9
                  cases b2 with
                  | false => exact iteF ⟨φ9, st9, kvs6, d6.step hD nh e79 s9, ev6.trans n6 e79.v, fun a h => e79.non a (n6 a h), rest6⟩
                  | true =>
                    refine iteT ⟨φ9, ρ8, st9, re9, ?_⟩
                    dsimp only at rest6
                    cases hk : k ρ8 st9 with
                    | ex x st' => rw [hk] at rest6; exact rest6.elim
                    | bad => rw [hk] at rest6; exact rest6.elim
                    | ok yv st10 =>
                      rw [hk] at rest6
                      dsimp only at rest6
                      intro φ10 H10 u10 e10 s10 r10
                      cases hkk : keyOf yv with
                      | none => rw [hkk] at rest6; exact rest6.elim
                      | some kk =>
                        rw [hkk] at rest6
                        dsimp only at rest6
                        refine ⟨φ10, ρ8, st10, re9.ext e10 s10, ?_⟩
                        cases hvv : v ρ8 st10 with
                        | ex x st' => rw [hvv] at rest6; exact rest6.elim
                        | bad => rw [hvv] at rest6; exact rest6.elim
                        | ok zv st11 =>
                          rw [hvv] at rest6
                          dsimp only at rest6
                          intro φ11 H11 u11 e11 s11 r11
                          have e711 := (e79.trans e10).trans e11
                          have d11 := d6.step hD nh e711 s11
                          obtain ⟨us, hu1, hu2, hu3, hu4⟩ := d11.put (k := kk) hD nh r11
                          split at rest6
                          · rename_i hz
                            refine ⟨us, kk, rel_key r10 hkk, hu1, by rw [hu2]; exact hz, φ11, st11, _, hu4, (ev6.trans n6 e711.v).trans (fun a h => e711.non a (n6 a h)) hu3, fun a h => ?_, rest6⟩
                            by_cases e : a = D
                            · rw [e, upd_same]; simp
                            · rw [upd_ne e]; exact e711.non a (n6 a h)
                          · exact rest6.elim
            · rintro H' ⟨ψ, st, kvs, d, _, _, r⟩
              rw [List.drop_length] at r
              exact ⟨ψ, st, kvs, d, r⟩
  · rintro H' ⟨ψ, st, kvs, ⟨φ, us, rfl, e1, R, h1, h2⟩, r⟩
    rw [List.drop_length] at r
    have r : Fin kvs st := r
    obtain ⟨a, b⟩ := addLoc e1 hD nh R (o := .dK kvs) ⟨us, h1, h2⟩
    exact r _ H' _ a b (rel_loc R.unhide)
theorem e_dc2 {kx vx ta ia tb ib : Expr} {fa fb : List Expr} {sc : Scope} {p : Pos} (own : List (Str × Nat)) {vj : List Nat} {it itj : EI} {g gj : G} {c cj : ET} {k v : E} (hc : X.calm = true) (hN : X.N.Nodup) (hi : PI X ta ia (tI T W it)) (ok : BlkOk X.N X.env.scope sc own) (hv : ∀ i ∈ vj, i ∈ own.map (·.2))
    (hg : InBlk X sc fun B => PG B ta (tGw T (own.map (·.2)) g)) (ht : InBlk X sc fun B => PTs B fa (tT T W0 c)) (hj : InBlk X sc fun B => PI B tb ib (tI T W0 itj)) (hgj : InBlk X sc fun B => PG B tb (tGw T vj gj)) (htj : InBlk X sc fun B => PTs B fb (tT T W0 cj)) (hk : InBlk X sc fun B => PE B kx (tE T W0 k)) (he : InBlk X sc fun B => PE B vx (tE T W0 v))
    (hs : ∀ x, foldedSetIterable ia X.env x = pure x := by intro _; rfl) (hs1 : ∀ env x, foldedSetIterable ib env x = pure x := by intro _ _; rfl) :
    PE X (dc2 kx vx ta ia tb ib fa fb sc p) (tE T W (eDc2 (own.map (·.2)) vj it g c itj gj cj k v)) := pe_imp (pe_dc2 hc hN hi ok hv hg ht hj hgj htj hk he hs hs1) fun _ _ _ h => dc_sound h
end
end Ev

set_option Elab.async false
set_option linter.all false
set_option maxRecDepth 100000
set_option maxHeartbeats 2000000
namespace Ev
open PySem PySem.Spec PyProof.Rows L2
/-- tuples of ints, none of them empty -/
def tupsOf : List Val → Option (List (List Int))
  | [] => some []
  | .tup xs :: r => match intsOf xs, tupsOf r with
    | some ns, some t => if ns = [] then none else some (ns :: t)
    | _, _ => none
  | _ => none
def tV (ns : List Int) : Val := .tup (ns.map .int)
def tOf (H : Hp) : V → List Int
  | .ref a => match H a with
    | some (.tup us) => us.filterMap fun u => match u with | .int i => some i | _ => none
    | _ => []
  | _ => []
theorem fm_ints : ∀ ns : List Int, ((ns.map V.int).filterMap fun u => match u with | .int i => some i | _ => none) = ns
  | [] => rfl
  | n :: ns => by rw [List.map_cons, List.filterMap_cons]; simp only [fm_ints ns]
section
variable {X : Cx} {T : Tab} {W : WX}
theorem rel_tups {φ : Phi} {H : Hp} : ∀ {xs : List Val} {us : List V} {ts : List (List Int)}, RelVs T φ H xs us → tupsOf xs = some ts → us.map (tOf H) = ts ∧ ∀ u, u ∈ us → ∃ t, u = .ref t ∧ H t = some (.tup ((tOf H u).map V.int)) ∧ tOf H u ≠ []
  | _, _, _, .nil, h => by cases h; exact ⟨rfl, fun u hu => absurd hu List.not_mem_nil⟩
  | _, _, ts, .cons a b, h => by
    unfold tupsOf at h
    split at h
    · cases ‹_ :: _ = []›
    · rename_i e
      cases e
      split at h
      · rename_i ns t e1 e2
        split at h
        · cases h
        · rename_i hne
          cases h
          obtain ⟨i1, i2⟩ := rel_tups b e2
          cases a with
          | tup a1 a2 =>
            have eu := rel_ints a2 e1
            subst eu
            rename_i ad
            have ez : tOf H (.ref ad) = ns := by unfold tOf; dsimp only; rw [a1]; exact fm_ints ns
            refine ⟨by rw [List.map_cons, ez, i1], fun u hu => ?_⟩
            rcases List.mem_cons.mp hu with rfl | hu
            · exact ⟨ad, rfl, by rw [ez]; exact a1, by rw [ez]; exact hne⟩
            · exact i2 u hu
      · cases h
    · cases h
theorem rel_ofTups {φ : Phi} {H : Hp} : ∀ {us : List V}, (∀ u, u ∈ us → ∃ t, u = .ref t ∧ H t = some (.tup ((tOf H u).map V.int))) → RelVs T φ H ((us.map (tOf H)).map tV) us
  | [], _ => .nil
  | u :: us, h => by
    obtain ⟨t, e1, e2⟩ := h u List.mem_cons_self
    refine .cons ?_ (rel_ofTups fun v hv => h v (List.mem_cons_of_mem _ hv))
    rw [e1] at e2 ⊢
    exact .tup e2 (rel_ofInts _)
def rSortL (K : PySem.W.Frag) : List V → Hp → VK → Prop := fun vs H Q => ∃ (a : Addr) (xs : List V), vs = [V.ref a] ∧ SqL K H a xs ∧ (∀ x ∈ xs, ∃ t, x = V.ref t ∧ H t = some (.tup ((tOf H x).map V.int)) ∧ tOf H x ≠ []) ∧
  ∀ ys p, ys.Perm xs → ys.Pairwise (fun x y => HT.lexLt (tOf H y) (tOf H x) = false) → H p = none → Q (.ref p) (upd H p (.lst ys))
theorem cr_sortL : CallR X (.builtin "sorted") (rSortL X.K) := by
  intro pins s σ H vs us Q I r h
  obtain ⟨a, xs, rfl, hs, hx, q⟩ := h
  obtain ⟨its, rv, hl, hz⟩ := I.list hs
  rw [Vals.ref1 r]
  obtain ⟨e1, e2⟩ := bkV_refs rv fun x m => by
    obtain ⟨t, e, _⟩ := hx x m
    exact ⟨t, e⟩
  have at_ : ∀ v ∈ its, ∃ t, v = Value.ref t ∧ H t = some (.tup ((tOf H (bkV v)).map V.int)) ∧ tOf H (bkV v) ≠ [] := fun v hv => by
    obtain ⟨t, rfl⟩ := e2 v hv
    have hm : V.ref t ∈ xs := by rw [e1]; exact List.mem_map.mpr ⟨_, hv, rfl⟩
    obtain ⟨t', e, ht, hn⟩ := hx _ hm
    cases e
    exact ⟨t, rfl, ht, hn⟩
  refine sorted_lex (k := fun v => tOf H (bkV v)) hl.isList (by rw [← rv.length]; exact hz) (fun v hv => ?_) (fun v hv => (at_ v hv).choose_spec.2.2) fun h' d out h1 h2 kp hd hn => ?_
  · obtain ⟨t, rfl, ht, _⟩ := at_ v hv
    exact tupI_raw I (SqT.of ht)
  · obtain ⟨n, hn⟩ := hn
    have h3 : ∀ u ∈ out, ∃ a, u = Value.ref a := fun u hu => e2 u (h2.mem_iff.mp hu)
    have hp : (out.map bkV).Perm xs := by
      rw [e1]
      exact h2.map bkV
    refine ⟨.ref d, upd H d (.lst (out.map bkV)), I.laid (t' := s.toks) kp hd ⟨?_, out, n, bkV_vals h3, hn⟩, rfl, q _ d hp (List.pairwise_map.mpr h1) (I.hok.fresh hd)⟩
    rw [hp.length_eq]
    exact hz
def fSortedB (st : Sto) (vs : List Val) : Option Val := match fSorted st vs with
  | some z => some z
  | none => match vs with
    | [v] => (lstOf st v).bind fun xs => (tupsOf xs).map fun ts => .lst ((sortLL ts).map tV)
    | _ => none
def rSortB (K : PySem.W.Frag) : List V → Hp → VK → Prop := fun xs H Q => rSortA K xs H Q ∨ rSortL K xs H Q
theorem call_sortB : CallR X (.builtin "sorted") (rSortB X.K) := call_sortA.or cr_sortL
theorem snd_sortedB : SndC T (rSortB T.K) fSortedB := by
  intro φ st H vs us z Q R r hf hq
  unfold fSortedB at hf
  split at hf
  · rename_i w hw
    cases hf
    exact .inl (snd_sorted φ st H vs us _ Q R r hw hq)
  · split at hf
    · rename_i v
      cases r with
      | cons r1 r2 =>
        cases r2
        rw [Option.bind_eq_some_iff] at hf
        obtain ⟨xs, hx, hf⟩ := hf
        rw [Option.map_eq_some_iff] at hf
        obtain ⟨ts, ht, rfl⟩ := hf
        obtain ⟨a, ys, rfl, hs, rv⟩ := rel_lst R r1 hx
        obtain ⟨i1, i2⟩ := rel_tups rv ht
        refine .inr ⟨a, ys, rfl, hs, i2, fun zs p hp hw hn => ?_⟩
        have e1 := Ext.fresh (ho := .lst zs) R hn
        refine hq _ _ e1 (R.fresh hn) (.lst (.inl ⟨R.nolive hn, .inl upd_same⟩) ?_)
        have ez : zs.map (tOf H) = sortLL ts := by
          refine sortLL_is (by rw [← i1]; exact hp.map _) (List.pairwise_map.mpr (hw.imp fun h => ?_))
          unfold leL
          rw [h]; rfl
        rw [← ez]
        exact (rel_ofTups fun u hu => (i2 u (hp.mem_iff.mp hu)).imp fun t z => ⟨z.1, z.2.1⟩).ext e1
    · cases hf
def dedupL : List (List Int) → List (List Int)
  | [] => []
  | x :: xs => if x ∈ xs then dedupL xs else x :: dedupL xs
theorem mem_dedupL {x : List Int} : ∀ {xs : List (List Int)}, x ∈ dedupL xs ↔ x ∈ xs
  | [] => Iff.rfl
  | y :: xs => by
    unfold dedupL
    split
    · rename_i h
      rw [mem_dedupL, List.mem_cons]
      exact ⟨.inr, fun k => k.elim (fun e => e ▸ h) id⟩
    · rw [List.mem_cons, List.mem_cons, mem_dedupL]
theorem nodup_dedupL : ∀ xs : List (List Int), (dedupL xs).Nodup
  | [] => List.nodup_nil
  | y :: xs => by
    unfold dedupL
    split
    · exact nodup_dedupL xs
    · rename_i h
      exact List.nodup_cons.mpr ⟨fun k => h (mem_dedupL.mp k), nodup_dedupL xs⟩
/-- sorted(set), the tuples not empty -/
def rSortSet (K : PySem.W.Frag) (P : Program) (w : World) : List V → Hp → VK → Prop := fun vs H Q => ∃ (a : Addr) (L : List (Addr × List Int)), vs = [V.ref a] ∧ H a = some (SetTO P w a L) ∧ (∀ p ∈ L, SqT K H p.1 (p.2.map V.int)) ∧ (∀ p ∈ L, p.2 ≠ []) ∧
  ∀ (M : List (Addr × List Int)) (p : Addr), M.Perm L → (M.map (·.2)).Nodup → M.Pairwise (fun q r => HT.lexLt r.2 q.2 = false) → H p = none → Q (.ref p) (upd H p (.lst (M.map fun q => V.ref q.1)))
theorem cr_sortSet (hc : X.calm = true) : CallR X (.builtin "sorted") (rSortSet X.K X.prog X.w) := by
  intro pins s σ H vs us Q I r h
  obtain ⟨a, L, rfl, ha, hk, hne, q⟩ := h
  have R0 : SetT0 X.prog X.w s.heap a L := (I.hok a _ ha).1
  obtain ⟨es, ep, t, R⟩ := R0.full fun p hp => I.isT (hk p hp)
  rw [Vals.ref1 r]
  refine sorted_setL R (I.ok.hd hc) hne fun s' p out c M k g o hp hg hout pm pw => ?_
  subst hout
  have few : M.length < 64 := by rw [pm.length_eq]; exact R.few
  have hlen : (M.map fun q => V.ref q.1).length ≤ sizeLine := by rw [List.length_map, sizeLine_eq]; omega
  have hn : H p = none := I.hok.fresh hp
  have J : Inv X pins σ (upd H p (.lst (M.map fun q => V.ref q.1))) { s with heap := s'.heap, gens := s'.gens, drawn := s'.drawn, toks := s'.toks } :=
    I.call (ch := []) (Un.laid k hp hn) (I.hok.laid k hp ⟨hlen, _, c, vals_of_refs M, hg⟩) (by rw [g]; exact I.bare) (fun _ z => nomatch z)
  have e : s' = { s with heap := s'.heap, gens := s'.gens, drawn := s'.drawn, toks := s'.toks } := by
    cases s'
    cases s
    cases o
    rfl
  rw [e]
  exact ⟨.ref p, _, J, rfl, q M p pm ((pm.map (·.2)).nodup_iff.mpr R.nd) pw hn⟩
def eSortSet (a : EA) : E := fun ρ st => bindR (a ρ st) fun vs st1 => match vs with
  | [v] => match (lstOf st1 v).bind tupsOf with
    | some ts => if ts.length < 64 then .ok (.lst ((sortLL (dedupL ts)).map tV)) st1 else .bad
    | none => .bad
  | _ => .bad
theorem map_snd {H : Hp} {us : List V} : (us.map fun u => ((match u with | .ref a => a | _ => 0 : Addr), tOf H u)).map (·.2) = us.map (tOf H) := by
  rw [List.map_map]; rfl
theorem e_sortSet {e : Expr} {as : EA} {p1 p2 q1 q2 : Pos} (hK : T.K = X.K) (hc : X.calm = true) (hu : X.A.units + 64 < cLine) (hm : X.mg "sorted" = none) (hms : X.mg "set" = none) (ha : PA X [e] (tA T W as)) (hg : Gl X "sorted" := by rfl) (hgs : Gl X "set" := by rfl)
    (he : starEach [e] X.env = (false, eval e X.env) :: starEach [] X.env := by rfl) (hpl : (backTo q2 (starEach [] X.env)).any (·.1) = false := by rfl)
    (he2 : starEach [.Call (.Name "set" q1) [e] [] q2] X.env = (false, eval (.Call (.Name "set" q1) [e] [] q2) X.env) :: starEach [] X.env := by rfl) (hpl2 : (backTo p2 (starEach [] X.env)).any (·.1) = false := by rfl) :
    PE X (.Call (.Name "sorted" p1) [.Call (.Name "set" q1) [e] [] q2] [] p2) (tE T W (eSortSet as)) := by
  have ps := pe_callTy (cr_setOfT hc hu) hgs hms (by decide +kernel) ha (by decide) (by decide) he hpl (pos := q2) (p := q1)
  refine pe_imp (pe_callB (cr_sortSet hc) hg hm (by decide +kernel) (pa_cons ps pa_nil he2) (by decide) (by decide) he2 hpl2) fun σ H Q h => ?_
  show (tCB (rSetOfT X.K X.prog X.w) (tA T W as)) σ H fun v H1 => rSortSet X.K X.prog X.w [v] H1 Q
  refine tG_bind h fun vs ρ st1 φ1 H1 us re1 q1 p1 => ?_
  split at p1
  · rename_i v
    cases q1 with
    | cons r1 r2 =>
      cases r2
      split at p1
      · rename_i ts hts
        split at p1
        · rename_i hlen
          rw [Option.bind_eq_some_iff] at hts
          obtain ⟨xs, hx, ht⟩ := hts
          obtain ⟨l, ys, rfl, hs, rv⟩ := rel_lst re1.rst r1 hx
          obtain ⟨i1, i2⟩ := rel_tups rv ht
          let ks : List (Addr × List Int) := ys.map fun u => ((match u with | .ref a => a | _ => 0 : Addr), tOf H1 u)
          have ek : ks.map (fun p => V.ref p.1) = ys := by
            show (ys.map _).map _ = ys
            rw [List.map_map]
            refine (List.map_congr_left fun u hu => ?_).trans (List.map_id' ys)
            obtain ⟨t, rfl, _⟩ := i2 u hu
            rfl
          have e2 : ks.map (·.2) = ts := map_snd.trans i1
          have inK : ∀ p ∈ ks, H1 p.1 = some (.tup (p.2.map V.int)) ∧ p.2 ≠ [] := fun p hp => by
            obtain ⟨u, hu, rfl⟩ := List.mem_map.mp hp
            obtain ⟨t, rfl, h1, h2⟩ := i2 u hu
            exact ⟨h1, h2⟩
          refine ⟨l, ks, rfl, by rw [ek, ← hK]; exact hs, fun p hp => SqT.of (inK p hp).1, ?_, fun a L hna sub cov => ?_⟩
          · have := congrArg List.length e2
            rw [List.length_map] at this
            rw [this]; exact hlen
          · have f1 := Ext.fresh (ho := SetTO X.prog X.w a L) re1.rst hna
            refine ⟨a, L, rfl, upd_same, fun p hp => SqT.of (f1.tups _ _ (inK p (sub p hp)).1), fun p hp => (inK p (sub p hp)).2, fun M p pm nd pw hn => ?_⟩
            have R1 := re1.rst.fresh (ho := SetTO X.prog X.w a L) hna
            have f2 := Ext.fresh (ho := .lst (M.map fun q => V.ref q.1)) R1 hn
            refine p1 φ1 _ _ (f1.trans f2) (R1.fresh hn) (.lst (.inl ⟨R1.nolive hn, .inl upd_same⟩) ?_)
            have e3 : M.map (·.2) = sortLL (dedupL ts) := by
              refine sortLL_is ((List.perm_ext_iff_of_nodup nd (nodup_dedupL ts)).mpr fun x => ?_) (List.pairwise_map.mpr (pw.imp fun h => ?_))
              · rw [mem_dedupL, ← e2]
                constructor
                · intro hx
                  obtain ⟨q, hq, rfl⟩ := List.mem_map.mp hx
                  exact List.mem_map_of_mem (sub q (pm.mem_iff.mp hq))
                · intro hx
                  obtain ⟨q, hq, rfl⟩ := List.mem_map.mp hx
                  exact (pm.map (·.2)).mem_iff.mpr (cov q hq)
              · unfold leL
                rw [h]; rfl
            rw [← e3]
            have inM : ∀ q ∈ M, H1 q.1 = some (.tup (q.2.map V.int)) := fun q hq => (inK q (sub q (pm.mem_iff.mp hq))).1
            have all : ∀ M : List (Addr × List Int), (∀ q ∈ M, H1 q.1 = some (.tup (q.2.map V.int))) → RelVs T φ1 H1 ((M.map (·.2)).map tV) (M.map fun q => V.ref q.1) := fun M => by
              induction M with
              | nil => exact fun _ => .nil
              | cons q M ih => exact fun hM => .cons (.tup (hM q List.mem_cons_self) (rel_ofInts _)) (ih fun r hr => hM r (List.mem_cons_of_mem _ hr))
            exact ((all M inM).ext f1).ext f2
        · exact p1.elim
      · exact p1.elim
  · exact p1.elim
end
end Ev

set_option Elab.async false
set_option linter.all false
set_option maxRecDepth 100000
set_option maxHeartbeats 2000000
namespace L2
open PySem PySem.Spec PyProof.Rows
section
variable {prog : Program} {w : World} {A : Around} {E : Value → Shared → Prop} {s : Shared} {t : Addr}
theorem max_tupI {xs : Array (Int × Tok)} {Q : Value → Shared → Prop} (hh : A.handled = none) (ht : s.heap.IsTuple t (intItems xs)) (hne : 0 < xs.size)
    (h : ∀ v h' tk, (intItems xs)[argBest (fun i j => decide (numAt xs i > numAt xs j)) (xs.size - 1)]? = some v → (∀ b o, s.heap.get? b = some o → h'.get? b = some o) → Q v { s with heap := h', toks := tk }) :
    wpAny (model prog w) A (call (.builtin "max") [.ref t]) Q E s := by
  obtain ⟨o, ho, hc, n, hd⟩ := id ht
  have hnt : t ≠ s.heap.objs.size := Nat.ne_of_lt (Heap.lt_size ho)
  refine call_max_walk (wpAny_pyIter_tuple ht ?_)
  refine ⟨s.heap.objs.size, _, _, _, _, _, _, rfl, Walks.tuple (A := A.in1) hh _ t hnt (intItems xs), ⟨⟨_, Heap.get?_push_size _ rfl, rfl, rfl⟩, ht.push _⟩, fun b hb => ?_, by simpa [intItems] using hne, CmpOf.ints_gt (numAt xs) (fun _ _ => intItems_at), fun v h' tk hP hk => ?_⟩
  · rcases List.mem_cons.mp hb with rfl | hb
    · exact Heap.lt_size (Heap.get?_push_size _ rfl)
    · cases List.mem_singleton.mp hb
      exact Heap.lt_size (Heap.get?_push_of_some _ ho)
  · refine h v h' tk (by simpa [intItems] using hP) fun b o e => hk b o (fun hb => ?_) (Heap.get?_push_of_some _ e)
    exact absurd (Heap.lt_size e) ((List.mem_singleton.mp hb) ▸ Nat.lt_irrefl _)
theorem max_tupR {l : Addr} {its : List Value} {ns : List Int} {Q : Value → Shared → Prop} (hh : A.handled = none) (hl : s.heap.IsTuple l its.toArray) (hi : IntsAre its ns) (hne : 0 < ns.length)
    (h : ∀ h' tk M t', (∀ b o, s.heap.get? b = some o → h'.get? b = some o) → M ∈ ns → (∀ a, a ∈ ns → a ≤ M) → Q (.int M t') { s with heap := h', toks := tk }) : wpAny (model prog w) A (call (.builtin "max") [.ref l]) Q E s := by
  obtain ⟨xs, e⟩ := hi.allInts.items
  have en : numsOf (intItems xs).toList = ns := e ▸ hi.numsOf
  rw [nums_intItems] at en
  subst en
  rw [e] at hl
  have hp : 0 < xs.size := by simpa using hne
  refine max_tupI hh hl hp fun v h' tk hv hk => ?_
  obtain ⟨t, rfl⟩ := intItems_at hv
  obtain ⟨h1, h2⟩ := argBest_gt (numAt xs) (xs.size - 1)
  refine h h' tk _ t hk ?_ fun a ha => ?_
  · rw [numAt_eq]; exact PySem.getD_mem (by rw [List.length_map, Array.length_toList]; exact Nat.lt_of_le_of_lt h1 (by omega))
  · obtain ⟨j, hj, e2⟩ := List.mem_iff_getElem.mp ha
    rw [List.length_map, Array.length_toList] at hj
    have e3 : a = numAt xs j := by
      rw [numAt_eq, List.getD_eq_getElem?_getD, ← e2, List.getElem?_eq_getElem (by simpa using hj)]
      rfl
    rw [e3]
    exact h2 j (by omega)
end
section
variable {X : Cx}
def rSumT (K : PySem.W.Frag) : List V → Hp → VK → Prop := fun vs H Q => ∃ (a : Addr) (ns : List Int), vs = [V.ref a] ∧ SqT K H a (ns.map V.int) ∧ Q (.int ns.sum) H
theorem sum_tupR {P : Program} {w : World} {A : Around} {E : Value → Shared → Prop} {s : Shared} {l : Addr} {its : List Value} {ns : List Int} {Q : Value → Shared → Prop} (hh : A.handled = none) (hl : s.heap.IsTuple l its.toArray) (hi : IntsAre its ns)
    (h : ∀ h' tk t', (∀ b o, s.heap.get? b = some o → h'.get? b = some o) → Q (.int ns.sum t') { s with heap := h', toks := tk }) : wpAny (model P w) A (call (.builtin "sum") [.ref l]) Q E s := by
  obtain ⟨xs, e⟩ := hi.allInts.items
  have en : numsOf its.toArray.toList = ns := hi.numsOf
  rw [e] at hl en
  rw [nums_intItems] at en
  refine PySem.W.ktm_sumG hh hl fun h' tk t' hk => ?_
  have z := h h' tk t' hk
  rw [preSum_eq, List.take_of_length_le (by simp), en]
  exact z
theorem cr_sumT (hc : X.calm = true) : CallR X (.builtin "sum") (rSumT X.K) := by
  intro pins s σ H vs us Q I r h
  obtain ⟨a, ns, rfl, hs, q⟩ := h
  obtain ⟨its, rv, hl, _⟩ := I.tuple hs
  rw [Vals.ref1 r]
  exact sum_tupR (I.ok.hd hc) hl rv.ints fun h' tk t' k => ⟨.int _, H, I.kept k, ⟨_, rfl⟩, q⟩
def rMaxT (K : PySem.W.Frag) : List V → Hp → VK → Prop := fun vs H Q => ∃ (a : Addr) (ns : List Int), vs = [V.ref a] ∧ SqT K H a (ns.map V.int) ∧ 0 < ns.length ∧ ∀ m, m ∈ ns → (∀ y, y ∈ ns → y ≤ m) → Q (.int m) H
theorem cr_maxT (hc : X.calm = true) : CallR X (.builtin "max") (rMaxT X.K) := by
  intro pins s σ H vs us Q I r h
  obtain ⟨a, ns, rfl, hs, hne, q⟩ := h
  obtain ⟨its, rv, hl, _⟩ := I.tuple hs
  rw [Vals.ref1 r]
  exact max_tupR (I.ok.hd hc) hl rv.ints hne fun h' tk m t' k h1 h2 => ⟨.int _, H, I.kept k, ⟨_, rfl⟩, q m h1 h2⟩
/-- sorted(l, key=sum), l a list of tuples of ints -/
def bySum (p q : Addr × List Int) : Bool := decide (p.2.sum ≤ q.2.sum)
def rSortSum (K : PySem.W.Frag) : List V → Hp → VK → Prop := fun vs H Q => ∃ (l : Addr) (rows : List (Addr × List Int)), vs = [V.ref l] ∧ SqL K H l (rows.map fun p => V.ref p.1) ∧ (∀ p ∈ rows, SqT K H p.1 (p.2.map V.int)) ∧
  ∀ p, H p = none → Q (.ref p) (upd H p (.lst ((rows.mergeSort bySum).map fun q => V.ref q.1)))
theorem each_refs : ∀ {rows : List (Addr × List Int)}, PySem.W.EachIs (fun (v : Value) (p : Addr × List Int) => v = .ref p.1) (rows.map fun p => Value.ref p.1) rows
  | [] => .nil
  | _ :: _ => .cons rfl each_refs
theorem refs_each : ∀ {out : List Value} {rows : List (Addr × List Int)}, PySem.W.EachIs (fun (v : Value) (p : Addr × List Int) => v = .ref p.1) out rows → out = rows.map fun p => Value.ref p.1
  | _, _, .nil => rfl
  | _, _, .cons e t => by rw [List.map_cons, e, refs_each t]
theorem sort_sum_run {pins : List (Addr × Obj)} {s : Shared} {σ : St} {H : Hp} {vs : List V} {us : List Value} {Q : VK} (hc : X.calm = true) (hu : X.A.units + 64 < cLine) (I : Inv X pins σ H s) (r : Vals vs us) (h : rSortSum X.K vs H Q) :
    wpAny (model X.prog X.w) X.A (call (.builtin "sorted") us [(Str.ofString "key", .builtin "sum")]) (EP X pins σ Q) X.xe s := by
  obtain ⟨l, rows, rfl, hl, gk, q⟩ := h
  rw [Vals.ref1 r]
  obtain ⟨its, rv, pl, hz⟩ := I.list hl
  obtain rfl := refs_of_vals rv
  rw [List.length_map] at hz
  refine PySem.W.sorted_key_data (b := false) (R := fun (v : Value) (p : Addr × List Int) => v = .ref p.1) (bs := rows) (fun p => .int p.2.sum) pl.isList each_refs (PySem.W.AllAlike.of fun _ _ => by simp [PySem.W.alike]) (PySem.W.Sortable.others fun _ => ⟨by simp, by simp⟩) hz (fun p _ => ?_)
    (PyProof.Rows.ksk_s1 _ _) (fun _ => PyProof.Rows.ksk_l1 _ _) (fun _ => PyProof.Rows.ksk_t4 _ _) (fun v p e hp h tk kp => ?_) fun out c h' tk kp _ hD hlen eo => ?_
  · have : (PyData.int p.2.sum).depth = 0 := by simp [PyData.depth]
    omega
  · subst e
    obtain ⟨its, rv2, pl2, _⟩ := I.tuple (gk p hp)
    have pl3 : h.IsTuple p.1 its.toArray := by
      obtain ⟨o, ho, w1, w2⟩ := pl2
      exact ⟨o, kp _ _ ho, w1, w2⟩
    refine sum_tupR (A := X.A.in1.in1) (by simp [I.ok.hd hc]) pl3 rv2.ints fun h2 tk2 t2 k2 => ?_
    exact ⟨h2, tk2, rfl, k2, by first | exact ⟨_, rfl⟩ | constructor⟩
  · rw [PySem.W.dataLe_int (fun p : Addr × List Int => p.2.sum)] at eo
    have e := refs_each eo
    subst e
    exact ⟨.ref _, upd H (s.heap.objs.size + 1) (.lst ((rows.mergeSort bySum).map fun q => V.ref q.1)), I.laid (t' := tk) kp (Nat.le_succ _) ⟨by rw [List.length_map, List.length_mergeSort]; exact hz, _, c, vals_of_refs _, hD⟩, rfl, q _ (I.hok.fresh (Nat.le_succ _))⟩
theorem pe_sortSum {p q pos kpos : Pos} {e : Expr} {t : TA} (hc : X.calm = true) (hu : X.A.units + 64 < cLine) (hm : X.mg "sorted" = none) (hs : X.mg "sum" = none) (ha : PA X [e] t) (hg : Gl X "sorted" := by rfl) (hgs : Gl X "sum" := by rfl)
    (he : backTo pos (starEach [e] X.env) = (false, eval e X.env) :: backTo pos (starEach [] X.env) := by rfl) (hpl : (backTo pos (starEach [e] X.env)).any (·.1) = false := by rfl) :
    PE X (.Call (.Name "sorted" p) [e] [⟨some "key", .Name "sum" q, kpos⟩] pos) (tCB (rSortSum X.K) t) := by
  refine ⟨fun pins s σ H Q I h => ?_⟩
  refine wpAny_Call_Name_kw (ld_blt I hg hm (u := .builtin "sorted") (by decide +kernel) ?_ (by decide) (by decide))
  refine PyProof.Rows.callWith_kw (thn (ha.run pos pins s σ H _ I h) fun us s1 ⟨vs, H1, I1, r1, q1⟩ => ?_) he hpl (by rfl) (by rfl)
  show wpAny _ _ (evalAll [(do let v ← eval (.Name "sum" q) X.env; standAt pos; pure v)]) _ _ s1
  refine wpAny_evalAll_cons (wpAny_bind (ld_blt I1 hgs hs (u := .builtin "sum") (by decide +kernel) (wpAny_bind (wpAny_standAt (wpAny_pure ?_))) (by decide) (by decide)))
  refine wpAny_evalAll_nil ?_
  show wpAny _ _ (call (.builtin "sorted") us [(Str.ofString "key", .builtin "sum")]) _ _ _
  exact sort_sum_run hc hu I1 r1 q1
end
end L2

set_option Elab.async false
set_option linter.all false
set_option maxRecDepth 100000
namespace Ev
open PySem PySem.Spec PyProof.Rows L2
def seenY (g : Addr → Option Obj) (n : Nat) : List Addr := He.asD g n ++ [cStatics, sysModules]
def obsY (n : Nat) (fa : List He.Fa) (fn : List He.DefD) (tf : List He.Defn) (ex : PySem.W.Frag → Bool) (g : Addr → Option Obj) : He.AlX :=
  (He.obsT fa fn [] (He.frT g (seenY g n)), ex (He.frT g (seenY g n)) && He.tabsB g tf (He.frT g (seenY g n)))
theorem saysY {n : Nat} {fa : List He.Fa} {fn : List He.DefD} {tf : List He.Defn} {ex : PySem.W.Frag → Bool} {w : World} {h : Heap} (e : obsY n fa fn tf ex h.get? = He.valX fn [] w) : He.SaysX fa fn [] tf ex w h (He.frT h.get? (seenY h.get? n)) := by
  unfold obsY at e
  generalize hF : He.frT h.get? (seenY h.get? n) = F at e
  have none_of : ∀ {a : Addr} {o : Obj}, h.get? a = some o → He.emptyTab o = true → F.lookup a = none := fun {a o} q z => hF ▸ He.frT_none q z
  clear hF
  obtain ⟨m, t⟩ := Bool.and_eq_true_iff.mp (congrArg Prod.snd e)
  have tab : ∀ p ∈ tf, PySem.W.codeHdIn F (He.cT F p).1 (He.cT F p).2 = true ∧ ∃ o, h.get? (He.cT F p).2 = some o ∧ He.emptyTab o = true := fun p hp => by
    obtain ⟨a, b⟩ := Bool.and_eq_true_iff.mp (List.all_eq_true.mp t p hp)
    refine ⟨a, ?_⟩
    split at b
    · rename_i o q
      exact ⟨o, q, b⟩
    · cases b
  refine ⟨congrArg Prod.fst e, m, fun p hp => (tab p hp).1, fun p hp => ?_, fun p hp => ?_⟩
  · obtain ⟨_, o, q, z⟩ := tab p hp
    exact none_of q z
  · obtain ⟨_, o, q, z⟩ := tab p hp
    rw [q, He.emptyTab_eq z]
def hookY (n : Nat) (fa : List He.Fa) (fn : List He.DefD) (tf : List He.Defn) (ex : PySem.W.Frag → Bool) : PySem.W.Hook where
  α := He.AlX
  obs := fun s => obsY n fa fn tf ex s.heap.get?
  val := He.valX fn []
  says := fun w h => ∃ F : PySem.W.Frag, F.In h ∧ He.SaysX fa fn [] tf ex w h F
  of := fun _ _ e => ⟨_, He.frT_in, saysY e⟩
  keeps := fun _ _ _ ⟨F, hF, c⟩ k => ⟨F, hF.keeps k, c.t, c.more, c.hd, c.out, fun p hp => k _ _ (c.empty p hp)⟩
theorem obsY_eq {n : Nat} {fa : List He.Fa} {fn : List He.DefD} {tf : List He.Defn} {ex : PySem.W.Frag → Bool} {g : Addr → Option Obj} {s : Shared} (h : ∀ a, g a = s.heap.get? a) : obsY n fa fn tf ex g = (hookY n fa fn tf ex).obs s := by
  obtain rfl : g = s.heap.get? := funext h
  rfl
end Ev

set_option Elab.async false
set_option linter.all false
set_option maxRecDepth 100000
set_option maxHeartbeats 2000000
namespace Ev
open PySem PySem.Spec PyProof.Rows L2
section
variable {T : Tab}
def fSumT (_ : Sto) (vs : List Val) : Option Val := match vs with
  | [.tup xs] => (intsOf xs).map fun ns => .int ns.sum
  | _ => none
theorem snd_sumT : SndC T (rSumT T.K) fSumT := by
  intro φ st H vs us z Q R r hf hq
  unfold fSumT at hf
  split at hf
  · cases r with
    | cons a b =>
      cases b
      simp only [Option.map_eq_some_iff] at hf
      obtain ⟨ns, en, rfl⟩ := hf
      obtain ⟨p, ws, rfl, hs, rv⟩ := rel_tup a rfl
      exact ⟨p, ns, rfl, by rw [← rel_ints rv en]; exact SqT.of hs, hq H _ Ext.refl R (.int _)⟩
  · cases hf
def fMaxT (_ : Sto) (vs : List Val) : Option Val := match vs with
  | [.tup xs] => (intsOf xs).bind fun ns => if 0 < ns.length then some (.int (maxI ns)) else none
  | _ => none
theorem snd_maxT : SndC T (rMaxT T.K) fMaxT := by
  intro φ st H vs us z Q R r hf hq
  unfold fMaxT at hf
  split at hf
  · cases r with
    | cons a b =>
      cases b
      simp only [Option.bind_eq_some_iff] at hf
      obtain ⟨ns, en, hf⟩ := hf
      split at hf
      · rename_i hp
        cases hf
        obtain ⟨p, ws, rfl, hs, rv⟩ := rel_tup a rfl
        exact ⟨p, ns, rfl, by rw [← rel_ints rv en]; exact SqT.of hs, hp, fun m h1 h2 => by rw [maxI_is h1 h2]; exact hq H _ Ext.refl R (.int _)⟩
      · cases hf
  · cases hf
def leSum (a b : List Int) : Bool := decide (a.sum ≤ b.sum)
def sortSum (ts : List (List Int)) : List (List Int) := Gr.isort leSum ts
theorem ins_mid {α : Type} {le : α → α → Bool} {a : α} {l2 : List α} (h2 : ∀ b, b ∈ l2 → le a b = true) : ∀ {l1 : List α}, (∀ b, b ∈ l1 → (!le a b) = true) → Gr.insL le a (l1 ++ l2) = l1 ++ a :: l2
  | [], _ => by
    cases l2 with
    | nil => rfl
    | cons b l2 =>
      show (if le a b = true then a :: b :: l2 else b :: Gr.insL le a l2) = _
      rw [if_pos (h2 b List.mem_cons_self)]; rfl
  | c :: l1, h1 => by
    have hc : le a c = false := by simpa using h1 c List.mem_cons_self
    show (if le a c = true then _ else c :: Gr.insL le a (l1 ++ l2)) = _
    rw [if_neg (by rw [hc]; decide), ins_mid h2 fun b hb => h1 b (List.mem_cons_of_mem _ hb)]; rfl
theorem isort_merge {α : Type} {le : α → α → Bool} (tr : ∀ a b c, le a b = true → le b c = true → le a c = true) (tot : ∀ a b, (le a b || le b a) = true) : ∀ xs : List α, Gr.isort le xs = xs.mergeSort le
  | [] => by simp [Gr.isort]
  | a :: xs => by
    obtain ⟨l1, l2, e1, e2, h⟩ := List.mergeSort_cons (le := le) tr tot a xs
    have pw := List.pairwise_mergeSort (le := le) tr tot (a :: xs)
    rw [e1] at pw ⊢
    show Gr.insL le a (Gr.isort le xs) = _
    rw [isort_merge tr tot xs, e2]
    refine ins_mid (fun b hb => ?_) h
    exact (List.pairwise_cons.mp (List.pairwise_append.mp pw).2.1).1 b hb
theorem sortSum_rows (rows : List (Addr × List Int)) : sortSum (rows.map (·.2)) = (rows.mergeSort bySum).map (·.2) := by
  unfold sortSum
  rw [isort_merge (fun a b c h1 h2 => by unfold leSum at *; simp only [decide_eq_true_eq] at *; omega) (fun a b => by unfold leSum; simp only [Bool.or_eq_true, decide_eq_true_eq]; omega)]
  exact (List.map_mergeSort (f := (·.2)) (r := bySum) (s := leSum) (l := rows) fun a _ b _ => rfl).symm
def rowOf (H : Hp) (u : V) : Addr × List Int := ((match u with | .ref a => a | _ => 0 : Addr), tOf H u)
/-- what stands in a list of tuples -/
theorem rows_of {φ : Phi} {H : Hp} {xs : List Val} {ys : List V} {ts : List (List Int)} (rv : RelVs T φ H xs ys) (ht : tupsOf xs = some ts) : (ys.map (rowOf H)).map (fun p => V.ref p.1) = ys ∧ (ys.map (rowOf H)).map (·.2) = ts ∧ ∀ p ∈ ys.map (rowOf H), H p.1 = some (.tup (p.2.map V.int)) ∧ p.2 ≠ [] := by
  obtain ⟨i1, i2⟩ := rel_tups rv ht
  refine ⟨?_, by rw [List.map_map]; exact i1, fun p hp => ?_⟩
  · rw [List.map_map]
    refine (List.map_congr_left fun u hu => ?_).trans (List.map_id' ys)
    obtain ⟨t, rfl, _⟩ := i2 u hu
    rfl
  · obtain ⟨u, hu, rfl⟩ := List.mem_map.mp hp
    obtain ⟨t, rfl, h1, h2⟩ := i2 u hu
    exact ⟨h1, h2⟩
theorem rows_rel {φ : Phi} {H : Hp} : ∀ (M : List (Addr × List Int)), (∀ q ∈ M, H q.1 = some (.tup (q.2.map V.int))) → RelVs T φ H ((M.map (·.2)).map tV) (M.map fun q => V.ref q.1)
  | [], _ => .nil
  | q :: M, h => .cons (.tup (h q List.mem_cons_self) (rel_ofInts _)) (rows_rel M fun r hr => h r (List.mem_cons_of_mem _ hr))
end
section
variable {X : Cx} {T : Tab} {W : WX}
def eSortSum (a : EA) : E := fun ρ st => bindR (a ρ st) fun vs st1 => match vs with
  | [v] => match (lstOf st1 v).bind tupsOf with
    | some ts => .ok (.lst ((sortSum ts).map tV)) st1
    | none => .bad
  | _ => .bad
theorem e_sortSum {e : Expr} {as : EA} {p q pos kpos : Pos} (hK : T.K = X.K) (hc : X.calm = true) (hu : X.A.units + 64 < cLine) (hm : X.mg "sorted" = none) (hs : X.mg "sum" = none) (ha : PA X [e] (tA T W as)) (hg : Gl X "sorted" := by rfl) (hgs : Gl X "sum" := by rfl)
    (he : backTo pos (starEach [e] X.env) = (false, eval e X.env) :: backTo pos (starEach [] X.env) := by rfl) (hpl : (backTo pos (starEach [e] X.env)).any (·.1) = false := by rfl) :
    PE X (.Call (.Name "sorted" p) [e] [⟨some "key", .Name "sum" q, kpos⟩] pos) (tE T W (eSortSum as)) := by
  refine pe_imp (pe_sortSum hc hu hm hs ha hg hgs he hpl) fun σ H Q h => ?_
  refine tG_bind h fun vs ρ st1 φ1 H1 us re1 q1 p1 => ?_
  split at p1
  · rename_i v
    cases q1 with
    | cons r1 r2 =>
      cases r2
      split at p1
      · rename_i ts hts
        rw [Option.bind_eq_some_iff] at hts
        obtain ⟨xs, hx, ht⟩ := hts
        obtain ⟨l, ys, rfl, hl, rv⟩ := rel_lst re1.rst r1 hx
        obtain ⟨w1, w2, w3⟩ := rows_of rv ht
        refine ⟨l, ys.map (rowOf H1), rfl, by rw [w1, ← hK]; exact hl, fun p hp => SqT.of (w3 p hp).1, fun p hp => ?_⟩
        have f1 := Ext.fresh (ho := .lst (((ys.map (rowOf H1)).mergeSort bySum).map fun q => V.ref q.1)) re1.rst hp
        refine p1 φ1 _ _ f1 (re1.rst.fresh hp) (.lst (.inl ⟨re1.rst.nolive hp, .inl upd_same⟩) ?_)
        rw [← w2, sortSum_rows]
        exact (rows_rel _ fun q hq => (w3 q ((List.mergeSort_perm _ _).mem_iff.mp hq)).1).ext f1
      · exact p1.elim
  · exact p1.elim
/-- f() of a def of the text -/
theorem e_callF0 {k j : Nat} {m : Fn} {x : Str} {p pos : Pos} {sx : Stmt} (F : FnAt X.prog X.w X.K X.mg X.base T j x sx [] m) (hr : Room k X.A) (hgd : X.A.guards = some []) (tk : Takes X W) (hjk : j ≤ k := by decide) (hg : Gl X x := by rfl) (hdb : (x == ("__debug__" : Str)) = false := by decide) :
    PE X (.Call (.Name x p) [] [] pos) (tE T W (eCall 0 m eNil)) := by
  obtain ⟨f, fd, hm, hk, hb, F, _⟩ := F.ex
  refine ⟨fun pins s σ H Q I h => ?_⟩
  refine wpAny_Call_Name_kw (ld_glob I hg hm ?_ hdb)
  obtain ⟨φ, ρ, st, re, pp⟩ := h
  have q := call_sound (np := 0) re.rst .nil pp
  refine PySem.W.callWith_K0 I.kIn hk ?_
  exact run_fnG (args := ⟨[], []⟩) (E := fun σ c d H' => W c d σ H') (F.mono hjk) hr hgd (fun pins H s e s' I c => passAt tk σ pins H s e s' I c) I (hb s [] I.kIn rfl) .nil q
end
end Ev

set_option Elab.async false
set_option linter.all false
set_option maxRecDepth 100000
set_option maxHeartbeats 2000000
namespace Ev
open PySem PySem.Spec PyProof.Rows L2
section
variable {T : Tab} {φ φ' φ'' φ1 ψ ψ' : Phi} {H H' H'' H1 : Hp} {st st' : Sto} {D : Addr}
/-- D is the list that grows -/
def LState (T : Tab) (φ1 : Phi) (H1 : Hp) (D : Addr) (ψ : Phi) (st : Sto) (H : Hp) (ys : List Val) : Prop := ∃ φ us, ψ = φ.hide D ∧ Ext φ1 H1 φ H ∧ Rst T ψ st H ∧ H D = some (.lst us) ∧ RelVs T ψ H ys us
theorem LState.step {ys : List Val} (d : LState T φ1 H1 D ψ st H ys) (hD : H1 D = none) (nh : ∀ a, a ∈ φ1.hid → a ≠ D) (e : Ext ψ H ψ' H') (R : Rst T ψ' st' H') : LState T φ1 H1 D ψ' st' H' ys := by
  obtain ⟨φ, us, rfl, e1, _, h1, h2⟩ := d
  obtain ⟨φ', rfl, e2, _⟩ := Ext.outof e1 e hD nh
  exact ⟨φ', us, rfl, e2, R, (e.hidk D List.mem_cons_self).trans h1, h2.ext e⟩
theorem LState.put {ys : List Val} {v : Val} {z : V} (d : LState T φ1 H1 D ψ st H ys) (hD : H1 D = none) (nh : ∀ a, a ∈ φ1.hid → a ≠ D) (r : RelV T ψ H v z) : ∃ us, H D = some (.lst us) ∧ us.length = ys.length ∧ ExtV ψ H ψ (upd H D (.lst (us ++ [z]))) ∧ LState T φ1 H1 D ψ st (upd H D (.lst (us ++ [z]))) (ys ++ [v]) := by
  obtain ⟨φ, us, rfl, e1, R, h1, h2⟩ := d
  have ht : ∀ ws, H D ≠ some (.tup ws) := fun ws q => by rw [h1] at q; cases q
  obtain ⟨φ', e, _, e3⟩ := Ext.outof e1 (Ext.refl (φ := φ.hide D) (H := H)) hD nh
  have e : φ = φ' := by
    have q1 := congrArg Phi.l e
    have q2 := congrArg Phi.hid e
    cases φ; cases φ'
    simp only [Phi.hide, List.cons.injEq, true_and] at q1 q2
    rw [q1, q2]
  subst e
  exact ⟨us, h1, h2.length.symm, hidden_v ht, φ, _, rfl, e3 _, R.hidden ht, upd_same, (h2.append (.cons r .nil)).extV (hidden_v ht)⟩
end
def lcIn (g : G) (c : ET) (k : E) (ρ : Env) : List Val → List Val → Sto → Res (List Val)
  | [], ys, st => .ok ys st
  | x :: xs, ys, st => match g x ρ st with
    | some (ρ1, st1) => match c ρ1 st1 with
      | .ok true st2 => match k ρ1 st2 with
        | .ok y st3 => if ys.length < sizeLine then lcIn g c k ρ xs (ys ++ [y]) st3 else .bad
        | _ => .bad
      | .ok false st2 => lcIn g c k ρ xs ys st2
      | _ => .bad
    | none => .bad
def lcOut (g : G) (c : ET) (itj : EI) (gj : G) (cj : ET) (k : E) (vj : List Nat) (ρ : Env) : List Val → List Val → Sto → Res (List Val)
  | [], ys, st => .ok ys st
  | x :: xs, ys, st => match g x ρ st with
    | some (ρ1, st1) => match c ρ1 st1 with
      | .ok true st2 => match itj ρ1 st2 with
        | .ok items st3 => match lcIn gj cj k (wipeE ρ1 vj) items ys st3 with
          | .ok ys2 st4 => lcOut g c itj gj cj k vj ρ xs ys2 st4
          | _ => .bad
        | _ => .bad
      | .ok false st2 => lcOut g c itj gj cj k vj ρ xs ys st2
      | _ => .bad
    | none => .bad
def eLc2 (own vj : List Nat) (it : EI) (g : G) (c : ET) (itj : EI) (gj : G) (cj : ET) (k : E) : E := fun ρ st => bindR (it ρ st) fun items st1 => match lcOut g c itj gj cj k vj (wipeE ρ own) items [] st1 with
  | .ok ys st2 => .ok (.lst ys) st2
  | _ => .bad
section
variable {X : Cx} {T : Tab} {W : WX}
theorem lc2_sound {own vj : List Nat} {it itj : EI} {g gj : G} {c cj : ET} {k : E} {σ : L2.St} {H : Hp} {Q : VK} (h : tE T W (eLc2 own vj it g c itj gj cj k) σ H Q) :
    tLc2 (tI T W it) (tGw T own g) (tT T W0 c) (tI T W0 itj) (tGw T vj gj) (tT T W0 cj) (tE T W0 k) own vj σ H Q := by
  unfold tLc2
  refine tG_bind h fun items ρ st1 φ1 H1 J re1 w p => fun D hD => ?_
  obtain ⟨Gd, Y, w1, w2, w3⟩ := w
  have hR1 := re1.rst
  have nh : ∀ a, a ∈ φ1.hid → a ≠ D := fun a h z => hR1.hid a h (z ▸ hD)
  let Fin : List Val → Sto → Prop := fun ys st => Post T (RelV T) W φ1 σ H1 Q (.ok (.lst ys) st)
  have rest0 : okR (lcOut g c itj gj cj k vj (wipeE ρ own) (items.drop 0) [] st1) Fin := by
    rw [List.drop_zero]
    cases hl : lcOut g c itj gj cj k vj (wipeE ρ own) items [] st1 with
    | ok ys st' => rw [hl] at p; exact p
    | ex x st' => rw [hl] at p; exact p.elim
    | bad => rw [hl] at p; exact p.elim
  refine clause_it w1 (stop := fun H' => Q (.ref D) H') (step := fun Nx x H' => tGw T own g x (wipe σ own) H' fun σ2 H2 => wipe σ2 own = wipe σ own ∧ tT T W0 c σ2 H2 fun b H3 =>
    if b = true then tI T W0 itj σ2 H3 fun J1 H4 => tClause J1 H4 Nx fun Nx1 x H' => tGw T vj gj x (wipe σ2 vj) H' fun σ3 H5 => wipe σ3 vj = wipe σ2 vj ∧ tT T W0 cj σ3 H5 fun b H6 =>
        if b = true then tE T W0 k σ3 H6 fun y H7 => ∃ acc, H7 D = some (.lst acc) ∧ acc.length < sizeLine ∧ Nx1 (upd H7 D (.lst (acc ++ [y]))) else Nx1 H6
    else Nx H3) (fun i H' => ∃ ψ st ys, LState T φ1 H1 D ψ st H' ys ∧ okR (lcOut g c itj gj cj k vj (wipeE ρ own) (items.drop i) ys st) Fin) ?_ ?_ ?_ ?_
  · exact ⟨φ1.hide D, st1, [], ⟨φ1, [], rfl, Ext.fresh hR1 hD, hR1.hide hD, upd_same, .nil⟩, rest0⟩
  · rintro i H' ⟨ψ, st, ys, ⟨φ, us, rfl, e1, _⟩, _⟩
    exact w2 φ H' e1.v
  · rintro i x H' H2 hi ⟨ψ, st, ys, d, rest⟩ y
    have ev1 : ExtV φ1 H1 ψ H' := by
      obtain ⟨φ, us, rfl, e1, _⟩ := id d
      exact e1.intoV hD
    have R : Rst T ψ st H' := by
      obtain ⟨φ, us, rfl, _, R, _⟩ := id d
      exact R
    obtain ⟨e2, s2, vx, hv, rx⟩ := w3 i H' x H2 ψ st hi ev1 R y
    rw [drop_at hv] at rest
    have re2 : RelE T ψ (wipeE ρ own) st (wipe σ own) H2 := by
      refine ⟨s2, by rw [wipeE_length, wipe_length]; exact re1.len, fun j w hw => ?_⟩
      obtain ⟨h1, h2⟩ := wipeE_some hw
      obtain ⟨u, h3, h4⟩ := re1.get j w h1
      exact ⟨u, by rw [wipe_get, if_neg h2]; exact h3, (h4.extV ev1).ext e2⟩
    refine ⟨ψ, wipeE ρ own, st, vx, re2, rx, ?_⟩
    unfold lcOut at rest
    cases hg : g vx (wipeE ρ own) st with
    | none => rw [hg] at rest; exact rest.elim
    | some q =>
      obtain ⟨ρ3, st3⟩ := q
      rw [hg] at rest
      dsimp only at rest
      intro φ3 H3 σ3 e3 re3 hw3
      refine ⟨by rw [hw3, wipe_wipe], φ3, ρ3, st3, re3, ?_⟩
      cases hc : c ρ3 st3 with
      | ex x st4 => rw [hc] at rest; exact rest.elim
      | bad => rw [hc] at rest; exact rest.elim
      | ok b st4 =>
        rw [hc] at rest
        intro φ4 H4 b' e4 s4 hb
        subst hb
        have e24 := (e2.trans e3).trans e4
        have d4 := d.step hD nh e24 s4
        have re4 := re3.ext e4 s4
        cases b with
        | false => exact iteF ⟨φ4, st4, ys, d4, rest⟩
        | true =>
          refine iteT ⟨φ4, ρ3, st4, re4, ?_⟩
          dsimp only at rest
          cases hj : itj ρ3 st4 with
          | ex x st5 => rw [hj] at rest; exact rest.elim
          | bad => rw [hj] at rest; exact rest.elim
          | ok items2 st5 =>
            rw [hj] at rest
            dsimp only at rest
            intro φ5 H5 Jj e5 s5 wk
            obtain ⟨Gj, Yj, v1, v2, v3⟩ := wk
            have d5 := d4.step hD nh e5 s5
            have re5 := re4.ext e5 s5
            have rest5 : okR (lcIn gj cj k (wipeE ρ3 vj) (items2.drop 0) ys st5) fun ys2 st6 => okR (lcOut g c itj gj cj k vj (wipeE ρ own) (items.drop (i + 1)) ys2 st6) Fin := by
              rw [List.drop_zero]
              cases hl : lcIn gj cj k (wipeE ρ3 vj) items2 ys st5 with
              | ok ys2 st6 => rw [hl] at rest; exact rest
              | ex x st' => rw [hl] at rest; exact rest.elim
              | bad => rw [hl] at rest; exact rest.elim
            refine clause_it v1 (fun j H' => ∃ ψ st ys, LState T φ1 H1 D ψ st H' ys ∧ ExtV φ5 H5 ψ H' ∧ (∀ a, H5 a ≠ none → H' a ≠ none) ∧ okR (lcIn gj cj k (wipeE ρ3 vj) (items2.drop j) ys st) fun ys2 st6 => okR (lcOut g c itj gj cj k vj (wipeE ρ own) (items.drop (i + 1)) ys2 st6) Fin) ?_ ?_ ?_ ?_
            · exact ⟨φ5, st5, ys, d5, Ext.refl.v, fun _ h => h, rest5⟩
            · rintro j H' ⟨ψ, st, ys, _, ev, _, _⟩
              exact v2 ψ H' ev
            · rintro j x2 H6 H7 hj2 ⟨ψ6, st6, ys6, d6, ev6, n6, rest6⟩ y6
              have R6 : Rst T ψ6 st6 H6 := by
                obtain ⟨φ, us, rfl, _, R, _⟩ := id d6
                exact R
              obtain ⟨e7, s7, vx2, hv2, rx2⟩ := v3 j H6 x2 H7 ψ6 st6 hj2 ev6 R6 y6
              rw [drop_at hv2] at rest6
              have re7 : RelE T ψ6 (wipeE ρ3 vj) st6 (wipe σ3 vj) H7 := by
                refine ⟨s7, by rw [wipeE_length, wipe_length]; exact re5.len, fun j w hw => ?_⟩
                obtain ⟨h1, h2⟩ := wipeE_some hw
                obtain ⟨u, h3, h4⟩ := re5.get j w h1
                exact ⟨u, by rw [wipe_get, if_neg h2]; exact h3, (h4.extV ev6).ext e7⟩
              refine ⟨ψ6, wipeE ρ3 vj, st6, vx2, re7, rx2, ?_⟩
              unfold lcIn at rest6
              cases hg2 : gj vx2 (wipeE ρ3 vj) st6 with
              | none => rw [hg2] at rest6; exact rest6.elim
              | some q =>
                obtain ⟨ρ8, st8⟩ := q
                rw [hg2] at rest6
                dsimp only at rest6
                intro φ8 H8 σ8 e8 re8 hw8
                refine ⟨by rw [hw8, wipe_wipe], φ8, ρ8, st8, re8, ?_⟩
                cases hc2 : cj ρ8 st8 with
                | ex x st9 => rw [hc2] at rest6; exact rest6.elim
                | bad => rw [hc2] at rest6; exact rest6.elim
                | ok b2 st9 =>
                  rw [hc2] at rest6
                  intro φ9 H9 b' e9 s9 hb
                  subst hb
                  have e79 := (e7.trans e8).trans e9
                  have re9 := re8.ext e9 s9
                  cases b2 with
                  | false => exact iteF ⟨φ9, st9, ys6, d6.step hD nh e79 s9, ev6.trans n6 e79.v, fun a h => e79.non a (n6 a h), rest6⟩
                  | true =>
                    refine iteT ⟨φ9, ρ8, st9, re9, ?_⟩
                    dsimp only at rest6
                    cases hk : k ρ8 st9 with
                    | ex x st' => rw [hk] at rest6; exact rest6.elim
                    | bad => rw [hk] at rest6; exact rest6.elim
                    | ok yv st10 =>
                      rw [hk] at rest6
                      dsimp only at rest6
                      intro φ10 H10 u10 e10 s10 r10
                      have e710 := e79.trans e10
                      have d10 := d6.step hD nh e710 s10
                      obtain ⟨us, hus, hlen, evp, dp⟩ := d10.put hD nh r10
                      split at rest6
                      · rename_i hsz
                        refine ⟨us, hus, by rw [hlen]; exact hsz, φ10, st10, ys6 ++ [yv], dp, (ev6.trans n6 e710.v).trans (fun a h => e710.non a (n6 a h)) evp, fun a h => ?_, rest6⟩
                        by_cases ha : a = D
                        · subst ha; rw [upd_same]; exact fun z => nomatch z
                        · rw [upd_ne ha]; exact e710.non a (n6 a h)
                      · exact rest6.elim
            · rintro H' ⟨ψ6, st6, ys6, d6, ev6, n6, rest6⟩
              rw [List.drop_length] at rest6
              unfold lcIn at rest6
              exact ⟨ψ6, st6, ys6, d6, rest6⟩
  · rintro H' ⟨ψ, st, ys, d, rest⟩
    rw [List.drop_length] at rest
    unfold lcOut at rest
    obtain ⟨φ, us, rfl, e1, R, hDl, rv⟩ := d
    have nD : ¬ Live φ D := by
      rintro (⟨n, hn⟩ | hm)
      · exact R.apart n D hn List.mem_cons_self
      · exact nh D (e1.hid ▸ hm) rfl
    exact rest φ H' _ e1 R.unhide (.lst (.inl ⟨nD, .inl hDl⟩) (rv.extV unhideV))
theorem e_lc2 {elt ta ia tb ib : Expr} {fa fb : List Expr} {sc : Scope} {p : Pos} (own : List (Str × Nat)) {vj : List Nat} {it itj : EI} {g gj : G} {c cj : ET} {k : E} (hc : X.calm = true) (hN : X.N.Nodup) (hi : PI X ta ia (tI T W it)) (ok : BlkOk X.N X.env.scope sc own) (hv : ∀ i ∈ vj, i ∈ own.map (·.2))
    (hg : InBlk X sc fun B => PG B ta (tGw T (own.map (·.2)) g)) (ht : InBlk X sc fun B => PTs B fa (tT T W0 c)) (hj : InBlk X sc fun B => PI B tb ib (tI T W0 itj)) (hgj : InBlk X sc fun B => PG B tb (tGw T vj gj)) (htj : InBlk X sc fun B => PTs B fb (tT T W0 cj)) (he : InBlk X sc fun B => PE B elt (tE T W0 k))
    (hs : ∀ x, foldedSetIterable ia X.env x = pure x := by intro _; rfl) (hs1 : ∀ env x, foldedSetIterable ib env x = pure x := by intro _ _; rfl) :
    PE X (.ListComp elt [⟨ta, ia, fa, 0⟩, ⟨tb, ib, fb, 0⟩] sc p) (tE T W (eLc2 (own.map (·.2)) vj it g c itj gj cj k)) := pe_imp (pe_lc2 hc hN hi ok hv hg ht hj hgj htj he hs hs1) fun _ _ _ h => lc2_sound h
/-- name = [.. for .. for ..] on one line -/
theorem s_setLc2 {i : Nat} {y : Str} {py : Pos} {elt ta ia tb ib : Expr} {fa fb : List Expr} {sc : Scope} {p spos : Pos} (own : List (Str × Nat)) {vj : List Nat} {it itj : EI} {g gj : G} {c cj : ET} {k : E} (hc : X.calm = true) (hN : X.N.Nodup) (hi : PI X ta ia (tI T W it)) (ok : BlkOk X.N X.env.scope sc own) (hv : ∀ i ∈ vj, i ∈ own.map (·.2))
    (hg : InBlk X sc fun B => PG B ta (tGw T (own.map (·.2)) g)) (ht : InBlk X sc fun B => PTs B fa (tT T W0 c)) (hj : InBlk X sc fun B => PI B tb ib (tI T W0 itj)) (hgj : InBlk X sc fun B => PG B tb (tGw T vj gj)) (htj : InBlk X sc fun B => PTs B fb (tT T W0 cj)) (he : InBlk X sc fun B => PE B elt (tE T W0 k))
    (hsw : swapsWith (.ListComp elt [⟨ta, ia, fa, 0⟩, ⟨tb, ib, fb, 0⟩] sc p) (some (.Name y py)) spos.line X.env = pure true)
    (hy : X.N[i]? = some y := by rfl) (hyl : X.env.scope.names.lookup y = some .local := by rfl) (hs : ∀ x, foldedSetIterable ia X.env x = pure x := by intro _; rfl) (hs1 : ∀ env x, foldedSetIterable ib env x = pure x := by intro _ _; rfl) :
    PS X (.Assign [.Name y py] (.ListComp elt [⟨ta, ia, fa, 0⟩, ⟨tb, ib, fb, 0⟩] sc p) spos) (tS T W (sSet i (eLc2 (own.map (·.2)) vj it g c itj gj cj k))) := by
  refine ps_imp (ps_setLc2 hc hN hy hyl hsw hi ok hv hg ht hj hgj htj he hs hs1) fun D σ H h => ?_
  refine lc2_sound (W := W) ?_
  exact tS_bind h fun v ρ st1 φ1 H1 u re1 q1 p1 => p1 φ1 H1 _ Ext.refl (re1.set q1 i)
end
end Ev

set_option Elab.async false
set_option linter.all false
set_option maxRecDepth 100000
set_option maxHeartbeats 2000000
namespace Ev
open PySem PySem.Spec PyProof.Rows L2
def nk (k : NK) : NestedKey := .tup [.tup (k.1.map .num), .tup (k.2.map .num)]
theorem nums_inj : ∀ {xs ys : List Int}, xs.map NestedKey.num = ys.map NestedKey.num → xs = ys
  | [], [], _ => rfl
  | [], _ :: _, h => by cases h
  | _ :: _, [], h => by cases h
  | x :: xs, y :: ys, h => by
    rw [List.map_cons, List.map_cons] at h
    injection h with h1 h2
    injection h1 with h1
    rw [h1, nums_inj h2]
theorem nk_inj {k l : NK} (h : nk k = nk l) : k = l := by
  unfold nk at h
  injection h with h
  injection h with h1 h2
  injection h2 with h2 _
  injection h1 with h1
  injection h2 with h2
  exact Prod.ext (nums_inj h1) (nums_inj h2)
theorem nk_eq {k l : NK} : (nk k = nk l) = (k = l) := propext ⟨nk_inj, fun h => by rw [h]⟩
theorem hashes_nums (w : World) : ∀ xs : List Int, NestedKey.hashes w (xs.map .num) = xs.map hashInt
  | [] => rfl
  | x :: xs => by
    show NestedKey.hash w (.num x) :: NestedKey.hashes w (xs.map .num) = _
    rw [hashes_nums w xs]; rfl
theorem nk_hash (w : World) (k : NK) : (nk k).hash w = nkHash k := by
  unfold nk nkHash
  simp only [NestedKey.hash, NestedKey.hashes, hashes_nums]
theorem depth_nums : ∀ xs : List Int, NestedKey.depthAll (xs.map .num) = 0
  | [] => rfl
  | x :: xs => by
    show max (NestedKey.depth (.num x)) (NestedKey.depthAll (xs.map .num)) = 0
    rw [depth_nums xs]; rfl
theorem nk_depth (k : NK) : (nk k).depth ≤ 8 := by
  unfold nk
  simp only [NestedKey.depth, NestedKey.depthAll, depth_nums]
  decide
theorem all_nums {h : Heap} : ∀ {xs : List Int} {vs : List Value}, Vals (xs.map V.int) vs → NestedAll h (xs.map .num) vs
  | [], _, .nil => .nil
  | x :: xs, _, .cons r t => by
    obtain ⟨z, rfl⟩ := r
    exact .cons (.int x z) (all_nums t)
theorem is_nums {P : Program} {w : World} {H : Hp} {h : Heap} {c : Addr} {xs : List Int} (ok : HOk P w H h) (e : H c = some (.tup (xs.map V.int))) : NestedIs h (.tup (xs.map .num)) (.ref c) := by
  obtain ⟨_, its, r, o, ho, hc, n, hd⟩ := ok c _ e
  exact .tup ho hc hd (all_nums r)
theorem is_nk {P : Program} {w : World} {H : Hp} {h : Heap} {b : Addr} {k : NK} (ok : HOk P w H h) (e : IsNK H k b) : (nestedKind P w).is h (nk k) b := by
  obtain ⟨c, d, e1, e2, e3⟩ := e
  refine ⟨?_, nk_depth k⟩
  obtain ⟨_, its, r, o, ho, hc, n, hd⟩ := ok b _ e1
  refine .tup ho hc hd ?_
  match its, r with
  | _, .cons q (.cons q2 .nil) =>
    cases q; cases q2
    exact .cons (is_nums ok e2) (.cons (is_nums ok e3) .nil)
def toX (x : NK × Addr × Bool) : NestedKey × Addr × Value := (nk x.1, x.2.1, .bool x.2.2)
theorem entN_eq (P : Program) (w : World) (x : NK × Addr × Bool) : entN x = entryOfKey (nestedKind P w) (toX x) := by
  unfold entN entryOfKey toX
  dsimp only
  rw [← nk_hash w]
  rfl
abbrev NL := List (NK × Addr × Bool)
theorem ents_eq (P : Program) (w : World) (L : NL) : L.map entN = (L.map toX).map (entryOfKey (nestedKind P w)) := by
  rw [List.map_map]
  exact List.map_congr_left fun x _ => entN_eq P w x
theorem keys_nodup {L : NL} : ((L.map toX).map (·.1)).Nodup ↔ (L.map (·.1)).Nodup := by
  have e : (L.map toX).map (·.1) = (L.map (·.1)).map nk := by
    rw [List.map_map, List.map_map]; rfl
  rw [e]
  constructor
  · intro h
    exact List.Pairwise.of_map _ (fun a b q z => q (by rw [z])) h
  · intro h
    exact List.Pairwise.map _ (fun a b q z => q (nk_inj z)) h
def rawP (a : Addr) (L : NL) (h : Heap) : Prop := ∃ o es ep, h.get? a = some o ∧ o.ExactDict ∧ o.data = .dict es ep ∧ es.toList = L.map entN ∧ (L.map (·.1)).Nodup ∧ (a == sysModules) = false
theorem rawN_ok {P : Program} {w : World} {H : Hp} {h : Heap} {a : Addr} {L : NL} (p : rawP a L h) : ObjOk P w H h a (rawN a L) := by
  refine ⟨p, ?_, fun h1 h2 q k => ?_⟩
  · obtain ⟨o, es, ep, e, _⟩ := p
    exact ⟨o, e⟩
  · obtain ⟨o, es, ep, e, r⟩ := q
    exact ⟨o, es, ep, k _ e, r⟩
theorem rawN_dict {P : Program} {w : World} {H : Hp} {h : Heap} {a : Addr} {L : NL} (ok : HOk P w H h) (e : H a = some (rawN a L)) (hk : ∀ x ∈ L, IsNK H x.1 x.2.1) : h.DictOfH (nestedKind P w) a (L.map toX) ∧ (a == sysModules) = false := by
  obtain ⟨⟨o, es, ep, e1, e2, e3, e4, e5, e6⟩, _⟩ := ok a _ e
  refine ⟨⟨o, es, ep, e1, e2, e3, by rw [e4, ents_eq P w], fun x hx => ?_, keys_nodup.mpr e5⟩, e6⟩
  obtain ⟨y, hy, rfl⟩ := List.mem_map.mp hx
  exact is_nk ok (hk y hy)
/-- the value there -/
def getN (kvs : List (NK × Bool)) (k : NK) : Option Bool := (kvs.find? fun x => decide (x.1 = k)).map (·.2)
def putN (kvs : List (NK × Bool)) (k : NK) (v : Bool) : List (NK × Bool) := if (getN kvs k).isSome then kvs.map fun x => if x.1 = k then (x.1, v) else x else kvs ++ [(k, v)]
def putL (L : NL) (k : NK) (b : Addr) (v : Bool) : NL := if (getN (L.map fun x => (x.1, x.2.2)) k).isSome then L.map fun x => if x.1 = k then (x.1, x.2.1, v) else x else L ++ [(k, b, v)]
theorem at_toX (k : NK) : ∀ L : NL, (atKey (L.map toX) (nk k)).map (·.2) = (getN (L.map fun x => (x.1, x.2.2)) k).map Value.bool
  | [] => rfl
  | x :: L => by
    have ih := at_toX k L
    unfold atKey getN at *
    rw [List.map_cons, List.map_cons, List.find?_cons, List.find?_cons]
    have e : decide ((toX x).1 = nk k) = decide (x.1 = k) := decide_eq_decide.mpr (by show nk x.1 = nk k ↔ _; rw [nk_eq])
    rw [e]
    dsimp only
    cases decide (x.1 = k) with
    | true => rfl
    | false => exact ih
theorem isSome_toX (k : NK) (L : NL) : (atKey (L.map toX) (nk k)).isSome = (getN (L.map fun x => (x.1, x.2.2)) k).isSome := by
  have e := congrArg Option.isSome (at_toX k L)
  rwa [Option.isSome_map, Option.isSome_map] at e
theorem storedL (L : NL) (k : NK) (b : Addr) (v : Bool) : storedH (L.map toX) (nk k) b (.bool v) = (putL L k b v).map toX := by
  unfold storedH putL
  rw [isSome_toX]
  split
  · rw [List.map_map, List.map_map]
    refine List.map_congr_left fun x _ => ?_
    show putAt (nk k) (.bool v) (toX x) = toX (if x.1 = k then (x.1, x.2.1, v) else x)
    unfold putAt
    by_cases e : x.1 = k
    · rw [if_pos e, if_pos (show (toX x).1 = nk k by show nk x.1 = _; rw [e])]; rfl
    · rw [if_neg e, if_neg (show ¬ (toX x).1 = nk k from fun z => e (nk_inj z))]
  · rw [List.map_append]; rfl
theorem putL_vals (L : NL) (k : NK) (b : Addr) (v : Bool) : (putL L k b v).map (fun x => (x.1, x.2.2)) = putN (L.map fun x => (x.1, x.2.2)) k v := by
  unfold putL putN
  split
  · rw [List.map_map, List.map_map]
    refine List.map_congr_left fun x _ => ?_
    show (fun x : NK × Addr × Bool => (x.1, x.2.2)) (if x.1 = k then (x.1, x.2.1, v) else x) = (if x.1 = k then (x.1, v) else (x.1, x.2.2))
    by_cases e : x.1 = k
    · rw [if_pos e, if_pos e]
    · rw [if_neg e, if_neg e]
  · rw [List.map_append]; rfl
theorem putL_mem {L : NL} {k : NK} {b : Addr} {v : Bool} {x : NK × Addr × Bool} (h : x ∈ putL L k b v) : (x.1 = k ∧ x.2.1 = b) ∨ ∃ y ∈ L, y.1 = x.1 ∧ y.2.1 = x.2.1 := by
  unfold putL at h
  split at h
  · obtain ⟨y, hy, rfl⟩ := List.mem_map.mp h
    refine .inr ⟨y, hy, ?_⟩
    split <;> exact ⟨rfl, rfl⟩
  · rcases List.mem_append.mp h with h | h
    · exact .inr ⟨x, h, rfl, rfl⟩
    · cases List.mem_singleton.mp h
      exact .inl ⟨rfl, rfl⟩
section
variable {X : Cx}
/-- k not in d -/
def rNotInN : R2 := fun x y H Q => ∃ (b a : Addr) (k : NK) (L : NL), x = .ref b ∧ y = .ref a ∧ IsNK H k b ∧ H a = some (rawN a L) ∧ (∀ z ∈ L, IsNK H z.1 z.2.1) ∧ Q (.bl (!(getN (L.map fun z => (z.1, z.2.2)) k).isSome)) H
theorem op_notInN (hu : X.A.units + 64 < cLine) : OpR X (compareOp .NotIn) rNotInN := by
  intro pins s σ H x y v u Q I rx ry h
  obtain ⟨b, a, k, L, rfl, rfl, hk, ha, hL, q⟩ := h
  obtain rfl : v = Value.ref b := rx
  obtain rfl : u = Value.ref a := ry
  obtain ⟨hd, hs⟩ := rawN_dict I.hok ha hL
  have hu2 : (nestedKind X.prog X.w).room X.A.in1 := by
    show X.A.in1.units + 8 < cLine
    have : X.A.in1.units = X.A.units + 1 := rfl
    omega
  show wpAny _ _ (do return Value.bool (!(← contains (Value.ref a) (Value.ref b)))) _ _ s
  refine wpAny_bind (wpAny_contains_heap hu2 (is_nk I.hok hk) hs hd (wpAny_pure ?_))
  rw [isSome_toX]
  exact ⟨.bl _, H, I.tok _, rfl, q⟩
/-- d[k] -/
def rIxN : R2 := fun x y H Q => ∃ (b a : Addr) (k : NK) (L : NL) (v : Bool), x = .ref a ∧ y = .ref b ∧ IsNK H k b ∧ H a = some (rawN a L) ∧ (∀ z ∈ L, IsNK H z.1 z.2.1) ∧ getN (L.map fun z => (z.1, z.2.2)) k = some v ∧ Q (.bl v) H
theorem getN_run {pins : List (Addr × Obj)} {s : Shared} {σ : L2.St} {H : Hp} {a b : Addr} {k : NK} {L : NL} {v : Bool} {Q : Value → Shared → Prop} {E : Value → Shared → Prop} (hu : X.A.units + 64 < cLine) (I : Inv X pins σ H s) (hk : IsNK H k b) (ha : H a = some (rawN a L)) (hL : ∀ z ∈ L, IsNK H z.1 z.2.1) (hv : getN (L.map fun z => (z.1, z.2.2)) k = some v)
    (h : ∀ s', Inv X pins σ H s' → Q (.bool v) s') : wpAny (model X.prog X.w) X.A (getItem (.ref a) (.ref b)) Q E s := by
  obtain ⟨hd, hs⟩ := rawN_dict I.hok ha hL
  have hu2 : (nestedKind X.prog X.w).room X.A.in1 := by
    show X.A.in1.units + 8 < cLine
    have : X.A.in1.units = X.A.units + 1 := rfl
    omega
  have e := at_toX k L
  rw [hv] at e
  obtain ⟨p, hp, e2⟩ := Option.map_eq_some_iff.mp e
  refine wpAny_getItem_heap hu2 (is_nk I.hok hk) hd hp ?_
  rw [e2]
  exact h _ (I.tok _)
theorem dictN_typeIs {pins : List (Addr × Obj)} {σ : L2.St} {H : Hp} {s : Shared} {a : Addr} {L : NL} (I : Inv X pins σ H s) (ha : H a = some (rawN a L)) : s.TypeIs (.ref a) "dict" := by
  obtain ⟨⟨o, es, ep, e1, e2, _⟩, _⟩ := I.hok a _ ha
  exact ⟨o, e1, e2.1⟩
theorem ix_N (hu : X.A.units + 64 < cLine) : IxR X rIxN := by
  intro value slice pins s σ H x y v u Q I rx ry h hs
  obtain ⟨b, a, k, L, z, rfl, rfl, hk, ha, hL, hv, q⟩ := h
  obtain rfl : v = Value.ref a := rx
  obtain rfl : u = Value.ref b := ry
  have hT := dictN_typeIs I ha
  unfold subscriptTail
  refine wpAny_bind ?_
  rw [getitemInPython_of_ne hT.not_modules]
  refine wpAny_bind (wpAny_specialOf hT PySem.F.slot_dict_getitem.lookup ?_)
  have fin : wpAny (model X.prog X.w) X.A (subscripted slice false (.ref a) (.ref b)) (fun r s₃ => wpAny (model X.prog X.w) X.A (letTemporaryGo value (.ref a) r >>= fun _ => pure r) (L2.EP X pins σ Q) X.xe s₃) X.xe s := by
    rw [hs]
    exact wpAny_operating (getN_run hu I hk ha hL hv fun s3 I3 => wpAny_bind (wpAny_letTemporaryGo (wpAny_pure ⟨.bl z, H, I3, rfl, q⟩)))
  first
    | exact wpAny_pure (wpAny_bind fin)
    | exact wpAny_bind (wpAny_pure (wpAny_bind fin))
    | exact wpAny_bind fin
/-- d[k] = v -/
def rSetN : TSet := fun o i v H Q => ∃ (b a : Addr) (k : NK) (L : NL) (z : Bool), o = .ref a ∧ i = .ref b ∧ v = .bl z ∧ IsNK H k b ∧ H a = some (rawN a L) ∧ (∀ x ∈ L, IsNK H x.1 x.2.1) ∧ L.length ≤ sizeLine ∧ Q (upd H a (rawN a (putL L k b z)))
theorem set_N (hu : X.A.units + 64 < cLine) : PSet X rSetN := by
  intro pins s σ H o i v ov iv u Q I ro ri rv h
  obtain ⟨b, a, k, L, z, rfl, rfl, rfl, hk, ha, hL, hz, q⟩ := h
  obtain rfl : ov = Value.ref a := ro
  obtain rfl : iv = Value.ref b := ri
  obtain rfl : u = Value.bool z := rv
  obtain ⟨hd, hs⟩ := rawN_dict I.hok ha hL
  have hu2 : (nestedKind X.prog X.w).room X.A.in1 := by
    show X.A.in1.units + 8 < cLine
    have : X.A.in1.units = X.A.units + 1 := rfl
    omega
  refine wpAny_setItem_heap (hsz := by rw [List.length_map]; exact hz) hu2 (is_nk I.hok hk) hd fun h' dd sb => ?_
  rw [storedL] at dd
  obtain ⟨oo, es, ep, e1, e2, e3, e4, _, e5⟩ := dd
  refine ⟨_, I.write (x := a) (e := a) (by rw [ha]; exact True.intro) (.inl rfl) (fun c w hc e => (sb.2 c hc).trans e) ⟨oo, e1⟩ (rawN_ok ⟨oo, es, ep, e1, e2, e3, by rw [e4, ents_eq X.prog X.w], keys_nodup.mp e5, hs⟩), q⟩
/-- {} -/
def tDNewN : TE := fun _ H Q => ∀ p, H p = none → Q (.ref p) (upd H p (rawN p []))
theorem pe_dnewN {pos : Pos} : PE X (.Dict [] [] pos) tDNewN := ⟨fun pins s σ H Q I h => by
  refine wpAny_Dict_empty ⟨.ref s.heap.objs.size, _, I.laid (a := s.heap.objs.size) (o := rawN s.heap.objs.size []) (t' := s.toks) (fun _ _ q => Heap.get?_push_of_some _ q) (Nat.le_refl _) (rawN_ok ⟨_, #[], 0, Heap.get?_push_size _ rfl, ⟨rfl, rfl, rfl⟩, rfl, rfl, List.nodup_nil, ?_⟩), rfl, h _ (I.hok.fresh (Nat.le_refl _))⟩
  exact beq_eq_false_iff_ne.mpr (Ne.symm (Nat.ne_of_lt I.big))⟩
end
def nkOf : Val → Option NK
  | .tup [.tup xs, .tup ys] => match intsOf xs, intsOf ys with
    | some a, some b => some (a, b)
    | _, _ => none
  | _ => none
section
variable {X : Cx} {T : Tab} {W : WX}
theorem rel_nk {φ : Phi} {H : Hp} {v : Val} {x : V} {k : NK} (r : RelV T φ H v x) (h : nkOf v = some k) : ∃ b, x = .ref b ∧ IsNK H k b := by
  unfold nkOf at h
  split at h
  · rename_i xs ys
    split at h
    · rename_i a b ha hb
      cases h
      cases r with
      | tup e rv =>
        cases rv with
        | cons r1 rv =>
          cases rv with
          | cons r2 rv =>
            cases rv
            cases r1 with
            | tup e1 q1 =>
              cases r2 with
              | tup e2 q2 =>
                rw [rel_ints q1 ha] at e1
                rw [rel_ints q2 hb] at e2
                exact ⟨_, rfl, _, _, e, e1, e2⟩
    · cases h
  · cases h
def dNOf (st : Sto) : Val → Option (List (NK × Bool))
  | .loc n => match st[n]? with
    | some (.dN kvs) => some kvs
    | _ => none
  | _ => none
theorem rel_dN {φ : Phi} {st : Sto} {H : Hp} {v : Val} {x : V} {kvs : List (NK × Bool)} (R : Rst T φ st H) (r : RelV T φ H v x) (h : dNOf st v = some kvs) : ∃ (n : Nat) (a : Addr) (L : NL), v = .loc n ∧ st[n]? = some (.dN kvs) ∧ φ.l[n]? = some (some a) ∧ x = .ref a ∧ H a = some (rawN a L) ∧ L.map (fun z => (z.1, z.2.2)) = kvs ∧ ∀ z ∈ L, IsNK H z.1 z.2.1 := by
  unfold dNOf at h
  split at h
  · rename_i n
    split at h
    · rename_i w e
      cases h
      cases r with
      | loc hn hu =>
        obtain ⟨a, e1, L, e2, e3, e4⟩ := R.at e (by simp)
        exact ⟨n, a, L, rfl, e, e1, hu a e1, e2, e3, e4⟩
    · cases h
  · cases h
def fNotInN (st : Sto) (v w : Val) : Option Val := match nkOf v, dNOf st w with
  | some k, some kvs => some (.bl (!(getN kvs k).isSome))
  | _, _ => none
theorem snd_notInN : SndB T rNotInN fNotInN := by
  intro φ st H v w z x y Q R r1 r2 hf hq
  unfold fNotInN at hf
  split at hf
  · rename_i k kvs h1 h2
    cases hf
    obtain ⟨b, rfl, hk⟩ := rel_nk r1 h1
    obtain ⟨n, a, L, rfl, _, _, rfl, e1, e2, e3⟩ := rel_dN R r2 h2
    refine ⟨b, a, k, L, rfl, rfl, hk, e1, e3, ?_⟩
    rw [e2]
    exact hq H _ Ext.refl R (.bl _)
  · cases hf
def fIxN (st : Sto) (v w : Val) : Option Val := match dNOf st v, nkOf w with
  | some kvs, some k => (getN kvs k).map .bl
  | _, _ => none
theorem snd_ixN : SndB T rIxN fIxN := by
  intro φ st H v w z x y Q R r1 r2 hf hq
  unfold fIxN at hf
  split at hf
  · rename_i kvs k h2 h1
    obtain ⟨c, hc, rfl⟩ := Option.map_eq_some_iff.mp hf
    obtain ⟨b, rfl, hk⟩ := rel_nk r2 h1
    obtain ⟨n, a, L, rfl, _, _, rfl, e1, e2, e3⟩ := rel_dN R r1 h2
    exact ⟨b, a, k, L, c, rfl, rfl, hk, e1, e3, by rw [e2]; exact hc, hq H _ Ext.refl R (.bl _)⟩
  · cases hf
theorem e_ixN {a b : Expr} {pos : Pos} {ea eb : E} (hu : X.A.units + 64 < cLine) (ha : PE X a (tE T W ea)) (hb : PE X b (tE T W eb)) (hs : PlainIx b := by intro _ _; rfl) : PE X (.Subscript a b pos) (tE T W (eB fIxN ea eb)) :=
  pe_imp (pe_ix (ix_N hu) ha hb hs) fun _ _ _ h => bin_sound snd_ixN h
def fSetN (st : Sto) (v w z : Val) : Option Sto := match dNOf st v, nkOf w, v, z with
  | some kvs, some k, .loc n, .bl b => if kvs.length < sizeLine then some (st.set n (.dN (putN kvs k b))) else none
  | _, _, _, _ => none
theorem snd_setN {φ : Phi} {st st' : Sto} {H : Hp} {v w z : Val} {x y u : V} {Q : Hp → Prop} (R : Rst T φ st H) (r1 : RelV T φ H v x) (r2 : RelV T φ H w y) (r3 : RelV T φ H z u) (hf : fSetN st v w z = some st')
    (hq : ∀ H', Ext φ H φ H' → Rst T φ st' H' → Q H') : rSetN x y u H Q := by
  unfold fSetN at hf
  split at hf
  · rename_i kvs k n c h2 h1
    split at hf
    · rename_i hl
      cases hf
      obtain ⟨b, rfl, hk⟩ := rel_nk r2 (by assumption)
      obtain ⟨m, a, L, e0, _, en, rfl, e1, e2, e3⟩ := rel_dN (kvs := kvs) R r1 (by assumption)
      cases e0
      cases r3
      have ext := Ext.write (ho := rawN a (putL L k b c)) R en
      have hz : L.length ≤ sizeLine := by
        have := congrArg List.length e2
        rw [List.length_map] at this
        omega
      refine ⟨b, a, k, L, c, rfl, rfl, rfl, hk, e1, e3, hz, hq _ ext (R.write en ⟨_, upd_same, by rw [putL_vals, e2], fun x hx => ?_⟩)⟩
      have nt : ∀ {d us}, H d = some (.tup us) → d ≠ a := fun {d us} e z => by rw [z, e1] at e; cases e
      have keep : ∀ {k' b'}, IsNK H k' b' → IsNK (upd H a (rawN a (putL L k b c))) k' b' := fun {k' b'} ⟨p, q, z1, z2, z3⟩ =>
        ⟨p, q, by rw [upd_ne (nt z1)]; exact z1, by rw [upd_ne (nt z2)]; exact z2, by rw [upd_ne (nt z3)]; exact z3⟩
      rcases putL_mem hx with ⟨q1, q2⟩ | ⟨y, hy, q1, q2⟩
      · rw [q1, q2]; exact keep hk
      · rw [← q1, ← q2]; exact keep (e3 y hy)
    · cases hf
  · cases hf
def gIxN (o i : E) : G := fun v ρ st => match o ρ st with
  | .ok w st1 => match i ρ st1 with
    | .ok k st2 => (fSetN st2 w k v).map fun st3 => (ρ, st3)
    | _ => none
  | _ => none
theorem g_subN {o i : Expr} {pos : Pos} {eo ei : E} (hu : X.A.units + 64 < cLine) (ho : PE X o (tE T W eo)) (hi : PE X i (tE T W ei))
    (ha : ∀ v, assign (.Subscript o i pos) X.env v = (do
      let ov ← holding [v] (eval o X.env)
      let iv ← holding [v, ov] (eval i X.env)
      standAt pos
      holding [v, ov, iv] (setItem ov iv v)
      release [v, ov, iv] []) := by intro _; rfl) : PG X (.Subscript o i pos) (tGt T (gIxN eo ei)) := by
  refine pg_imp (pg_sub ho hi (set_N hu) ha) fun v σ H Q h => ?_
  obtain ⟨φ, ρ, st, w, re, r, p⟩ := h
  refine ⟨φ, ρ, st, re, ?_⟩
  unfold gIxN at p
  cases h1 : eo ρ st with
  | ex x st1 => rw [h1] at p; exact p.elim
  | bad => rw [h1] at p; exact p.elim
  | ok z st1 =>
    rw [h1] at p
    dsimp only at p
    intro φ1 H1 a e1 s1 q1
    refine ⟨φ1, ρ, st1, re.ext e1 s1, ?_⟩
    cases h2 : ei ρ st1 with
    | ex x st2 => rw [h2] at p; exact p.elim
    | bad => rw [h2] at p; exact p.elim
    | ok k st2 =>
      rw [h2] at p
      dsimp only at p
      intro φ2 H2 b e2 s2 q2
      cases h3 : fSetN st2 z k w with
      | none => rw [h3] at p; exact p.elim
      | some st3 =>
        rw [h3] at p
        refine snd_setN s2 (q1.ext e2) q2 (r.ext (e1.trans e2)) h3 fun H3 e3 s3 => ?_
        exact p φ2 H3 σ ((e1.trans e2).trans e3) (re.ext ((e1.trans e2).trans e3) s3)
def eNewN : E := fun _ st => .ok (.loc st.length) (st ++ [.dN []])
theorem e_newN {pos : Pos} : PE X (.Dict [] [] pos) (tE T W eNewN) := by
  refine pe_imp pe_dnewN fun σ H Q h => ?_
  obtain ⟨φ, ρ, st, re, p⟩ := h
  intro a ha
  exact p _ _ _ (Ext.alloc re.rst ha) (re.rst.alloc ha ⟨[], upd_same, rfl, fun _ z => absurd z List.not_mem_nil⟩) (rel_loc re.rst)
theorem ss_bad {b : List Stmt} : PSs X b (tS T W sBad) := ⟨fun _ _ _ _ _ _ ⟨_, _, _, _, p⟩ => p.elim⟩
/-- a, b, c = x, y, z -/
def sPar3 (i j l : Nat) (a : EA) : S := fun ρ st => bindS (a ρ st) ρ fun vs st1 => match vs with
  | [u, v, w] => .nx (((ρ.set i (some u)).set j (some v)).set l (some w)) st1
  | _ => .bad
theorem s_par3 {i j l : Nat} {x y z : Str} {a b c : Expr} {ta : EA} {px py pz pt pos : Pos} {kt k2 pt2} (hc : X.calm = true) (hN : X.N.Nodup) (ha : PA X [a, b, c] (tA T W ta)) (hi : X.N[i]? = some x := by rfl) (hj : X.N[j]? = some y := by rfl) (hl : X.N[l]? = some z := by rfl) (hij : i ≠ j := by decide) (hil : i ≠ l := by decide) (hjl : j ≠ l := by decide)
    (hx : X.env.scope.names.lookup x = some .local := by rfl) (hy : X.env.scope.names.lookup y = some .local := by rfl) (hz : X.env.scope.names.lookup z = some .local := by rfl)
    (hw : swappedStores [.Tuple [.Name x px, .Name y py, .Name z pz] kt pt] (.Tuple [a, b, c] k2 pt2) X.env = pure (some [x, y, z]) := by rfl)
    (hs : swapsWithSole [.Tuple [.Name x px, .Name y py, .Name z pz] kt pt] (.Tuple [a, b, c] k2 pt2) pos.line X.env = pure false := by rfl) :
    PS X (.Assign [.Tuple [.Name x px, .Name y py, .Name z pz] kt pt] (.Tuple [a, b, c] k2 pt2) pos) (tS T W (sPar3 i j l ta)) := by
  refine ps_imp (ps_par3 hc hN hi hj hl hij hil hjl hx hy hz ha hw hs) fun D σ H h => ?_
  refine tS_bind h fun vs ρ st1 φ1 H1 us re1 q1 p1 => ?_
  split at p1
  · cases q1 with
    | cons a1 b1 =>
      cases b1 with
      | cons a2 b2 =>
        cases b2 with
        | cons a3 b3 =>
          cases b3
          exact ⟨_, _, _, rfl, p1 φ1 H1 _ Ext.refl (((re1.set a1 i).set a2 j).set a3 l)⟩
  · exact p1.elim
end
end Ev

set_option Elab.async false
set_option linter.all false
set_option maxRecDepth 100000
set_option maxHeartbeats 2000000
namespace Ev
open PySem PySem.Spec PyProof.Rows L2
section
variable {X : Cx} {T : Tab} {W : WX}
def eFrz (e : E) : E := fun ρ st => bindR (e ρ st) fun v st1 => match v with
  | .loc n => match st1[n]? with
    | some (.lst xs) => .ok (.lst xs) (st1.set n .dead)
    | _ => .bad
  | _ => .bad
theorem frz_sound {e : E} {σ : L2.St} {H : Hp} {Q : VK} (h : tE T W (eFrz e) σ H Q) : tE T W e σ H Q := by
  obtain ⟨φ, ρ, st, re, p⟩ := h
  refine ⟨φ, ρ, st, re, ?_⟩
  unfold eFrz at p
  cases he : e ρ st with
  | ex x st1 => rw [he] at p; exact p
  | bad => rw [he] at p; exact p
  | ok v st1 =>
    rw [he, bindR_ok] at p
    intro φ1 H1 u e1 s1 r1
    cases r1 with
    | @loc n _ hl hu =>
      dsimp only at p
      split at p
      · rename_i xs hn
        obtain ⟨a, q1, us, q2, q3⟩ := s1.at hn (by simp)
        have ek := Ext.kill s1 (n := n)
        refine p (φ1.kill n) H1 _ (e1.trans ek) (s1.kill) ?_
        rw [hu a q1]
        exact .lst (.inl ⟨nolive_kill s1 q1, .inl q2⟩) (q3.ext ek)
      · exact p.elim
    | _ => exact p.elim
theorem e_frz {ex : Expr} {e : E} (h : PE X ex (tE T W e)) : PE X ex (tE T W (eFrz e)) := pe_imp h fun _ _ _ q => frz_sound q
/-- l.extend(m), m a list of the store -/
def fExtend (st : Sto) (xs vs : List Val) : Option (Val × List Val) := match vs with
  | [.loc m] => match st[m]? with
    | some (.lst zs) => if xs.length + zs.length ≤ sizeLine then some (.non, xs ++ zs) else none
    | _ => none
  | _ => none
theorem snd_extend : SndM T rExtend fExtend := by
  intro φ st H xs us vs ws z ys l Q R h1 h2 h3 hf hq
  unfold fExtend at hf
  split at hf
  · rename_i m
    split at hf
    · rename_i zs hm
      split at hf
      · rename_i hz
        cases hf
        cases h3 with
        | cons a b =>
          cases b
          cases a with
          | loc hl hu =>
            obtain ⟨b, q1, ws, q2, q3⟩ := R.at hm (by simp)
            rw [hu b q1]
            exact ⟨l, b, us, ws, rfl, rfl, h1, q2, by rw [← h2.length, ← q3.length]; exact hz, hq _ (fun H' e => (h2.extV e).append (q3.extV e)) _ fun _ _ => .non⟩
      · cases hf
    · cases hf
  · cases hf
theorem e_extend {o e : Expr} {eo : E} {as : EA} {apos cpos : Pos} (ho : PE X o (tE T W eo)) (ha : PA X [e] (tA T W as)) (hbase : attributeBase o "extend" X.env (eval o X.env) = eval o X.env := by rfl)
    (hfew : ((backTo cpos (starEach [e] X.env)).all (fun x => !x.1) && (backToKw cpos (keywordEach [] X.env)).all (fun x => x.1.isSome)
      && decide (([e] : List Expr).length + ([] : List Keyword).length + (if ([] : List Keyword).isEmpty then 0 else 1) < 30)) = true := by rfl)
    (hline : (apos.endLine == cpos.line) = true := by rfl) (hst : starEach [e] X.env = (false, eval e X.env) :: starEach [] X.env := by rfl) (hplain : (backTo cpos (starEach [] X.env)).any (·.1) = false := by rfl) :
    PE X (.Call (.Attribute o "extend" apos) [e] [] cpos) (tE T W (eLm fExtend eo as)) :=
  e_lm PySem.F.slot_list_extend PySem.F.type_list_extend mt_extend snd_extend ho ha hbase hfew hline hst hplain
end
end Ev

set_option Elab.async false
set_option linter.all false
set_option maxRecDepth 100000
set_option maxHeartbeats 2000000
namespace Ev
open PySem PySem.Spec PyProof.Rows L2
def lcS (n : Nat) (g : G) (c : ET) (e : E) (ρ : Env) : Nat → Nat → Sto → Res (List Val)
  | fuel, i, st => match st[n]? with
    | some (.lst xs) => match xs[i]? with
      | none => .ok [] st
      | some v => match fuel with
        | 0 => .bad
        | k + 1 => match g v ρ st with
          | some (ρ1, st1) => match c ρ1 st1 with
            | .ok true st2 => match e ρ1 st2 with
              | .ok y st3 => match lcS n g c e ρ k (i + 1) st3 with
                | .ok ys st4 => .ok (y :: ys) st4
                | _ => .bad
              | _ => .bad
            | .ok false st2 => lcS n g c e ρ k (i + 1) st2
            | _ => .bad
          | none => .bad
    | _ => .bad
def eLcS (own : List Nat) (o : E) (g : G) (c : ET) (e : E) : E := fun ρ st => bindR (o ρ st) fun v st1 => match v with
  | .loc n => match st1[n]? with
    | some (.lst xs) => if xs.length < sizeLine then (match lcS n g c e (wipeE ρ own) xs.length 0 st1 with
      | .ok ys st2 => .ok (.lst ys) st2
      | _ => .bad) else .bad
    | _ => .bad
  | _ => .bad
section
variable {X : Cx} {T : Tab} {W : WX}
def RestS (T : Tab) (W : WX) (φ1 : Phi) (σ : L2.St) (H1 : Hp) (Q : VK) (n : Nat) (g : G) (c : ET) (e : E) (ρ : Env) (fuel i : Nat) (ys : List Val) (st : Sto) : Prop := match lcS n g c e ρ fuel i st with
  | .ok zs st' => Post T (RelV T) W φ1 σ H1 Q (lcR false (ys ++ zs) st')
  | _ => False
theorem lcS_sound {own : List Nat} {g : G} {c : ET} {e : E} {φ1 : Phi} {ρ : Env} {st1 : Sto} {σ : L2.St} {H1 : Hp} {Q : VK} {n : Nat} {a : Addr} {xs : List Val}
    (re1 : RelE T φ1 ρ st1 σ H1) (hn : φ1.l[n]? = some (some a)) (h0 : st1[n]? = some (.lst xs)) (hz : xs.length < sizeLine)
    (rest0 : RestS T W φ1 σ H1 Q n g c e (wipeE ρ own) xs.length 0 [] st1) :
    ∀ D, H1 D = none → ∃ W' : Nat → Nat → Hp → Prop, (∃ m, W' 0 m (upd H1 D (.lst []))) ∧ ∀ i m H, W' i m H →
      ((Itl T.K a).stop i H ∧ Q (.ref D) H) ∨ ((Itl T.K a).go i H ∧ ∃ Nx : Hp → Prop, (∀ H', Nx H' → ∃ m', m' < m ∧ W' (i + 1) m' H') ∧ ∀ x H', (Itl T.K a).yld i H x H' → tGw T own g x (wipe σ own) H' fun σ2 H2 => wipe σ2 own = wipe σ own ∧ tT T W0 c σ2 H2 fun b H3 =>
        if b = true then tE T W0 e σ2 H3 fun y H4 => ∃ acc, H4 D = some (.lst acc) ∧ acc.length < sizeLine ∧ Nx (upd H4 D (.lst (acc ++ [y]))) else Nx H3) := by
  intro D hD
  have hR1 := re1.rst
  have nhD : ∀ b, b ∈ φ1.hid → b ≠ D := fun b h z => hR1.hid b h (z ▸ hD)
  refine ⟨fun i m H' => ∃ φ st ys us, Ext φ1 H1 φ H' ∧ Rst T (φ.hide D) st H' ∧ H' D = some (.lst us) ∧ RelVs T (φ.hide D) H' ys us ∧ ys.length ≤ i ∧ i + m = xs.length ∧ RestS T W φ1 σ H1 Q n g c e (wipeE ρ own) m i ys st, ⟨xs.length, φ1, st1, [], [], Ext.fresh hR1 hD, hR1.hide hD, upd_same, .nil, Nat.le_refl _, by omega, rest0⟩, ?_⟩
  intro i m H' ⟨φ, st, ys, us, e1, R, hDl, rv, hl, hm, rest⟩
  have ev1 := e1.intoV hD
  unfold RestS at rest
  cases hs : st[n]? with
  | none => unfold lcS at rest; rw [hs] at rest; exact rest.elim
  | some o =>
    cases o with
    | lst zs =>
      obtain ⟨b, q1, ws, q2, q3⟩ := R.at hs (by simp)
      have hnl : n < φ1.l.length := (List.getElem?_eq_some_iff.mp hn).1
      have eb : b = a := by
        have := e1.old n b q1 hnl
        rw [hn] at this
        cases this
        rfl
      subst eb
      have sq : SqL T.K H' b ws := .inl (.inl q2)
      cases hi : zs[i]? with
      | none =>
        refine .inl ⟨⟨ws, sq, ?_⟩, ?_⟩
        · rw [← q3.length]
          exact List.getElem?_eq_none_iff.mp hi
        · unfold lcS at rest
          rw [hs] at rest
          dsimp only at rest
          rw [hi] at rest
          dsimp only at rest
          rw [List.append_nil] at rest
          have nD : ¬ Live φ D := by
            rintro (⟨k, hk⟩ | hm)
            · exact R.apart k D hk (List.mem_cons_self ..)
            · exact nhD D (e1.hid ▸ hm) rfl
          have R' := R.unhide
          have rv' := rv.extV unhideV
          exact rest φ H' _ e1 R' (.lst (.inl ⟨nD, .inl hDl⟩) rv')
      | some v =>
        obtain ⟨x0, hx0, rx0⟩ := q3.get hi
        cases m with
        | zero =>
          unfold lcS at rest
          rw [hs] at rest
          dsimp only at rest
          rw [hi] at rest
          exact rest.elim
        | succ m =>
          refine .inr ⟨⟨ws, x0, sq, hx0⟩, fun H2 => ∃ φ st ys us, Ext φ1 H1 φ H2 ∧ Rst T (φ.hide D) st H2 ∧ H2 D = some (.lst us) ∧ RelVs T (φ.hide D) H2 ys us ∧ ys.length ≤ i + 1 ∧ RestS T W φ1 σ H1 Q n g c e (wipeE ρ own) m (i + 1) ys st, fun H2 ⟨φ, st, ys, us, k1, k2, k3, k4, k5, k6⟩ => ⟨m, Nat.lt_succ_self _, φ, st, ys, us, k1, k2, k3, k4, k5, by omega, k6⟩, ?_⟩
          rintro x H2 ⟨rfl, hx⟩
          have rx : RelV T (φ.hide D) H2 v x := by
            have := hx ws sq
            rw [hx0] at this
            cases this
            exact rx0
          have re2 : RelE T (φ.hide D) (wipeE ρ own) st (wipe σ own) H2 := by
            refine ⟨R, by rw [wipeE_length, wipe_length]; exact re1.len, fun k w hw => ?_⟩
            obtain ⟨h1, h2⟩ := wipeE_some hw
            obtain ⟨u, h3, h4⟩ := re1.get k w h1
            exact ⟨u, by rw [wipe_get, if_neg h2]; exact h3, h4.extV ev1⟩
          refine ⟨φ.hide D, wipeE ρ own, st, v, re2, rx, ?_⟩
          unfold lcS at rest
          rw [hs] at rest
          dsimp only at rest
          rw [hi] at rest
          dsimp only at rest
          cases hg : g v (wipeE ρ own) st with
          | none => rw [hg] at rest; exact rest
          | some q =>
            obtain ⟨ρ3, st3⟩ := q
            rw [hg] at rest
            dsimp only at rest
            intro φ3 H3 σ3 e3 re3 hw3
            refine ⟨by rw [hw3, wipe_wipe], φ3, ρ3, st3, re3, ?_⟩
            cases hc : c ρ3 st3 with
            | ex x st4 => rw [hc] at rest; exact rest.elim
            | bad => rw [hc] at rest; exact rest.elim
            | ok b' st4 =>
              rw [hc] at rest
              intro φ4 H4 b2 e4 s4 hb
              subst hb
              have e24 := e3.trans e4
              cases b' with
              | false =>
                refine iteF ?_
                obtain ⟨φ', rfl, ex1, _⟩ := Ext.outof e1 e24 hD nhD
                exact ⟨φ', st4, ys, us, ex1, s4, (e24.hidk D (List.mem_cons_self ..)).trans hDl, rv.ext e24, Nat.le_succ_of_le hl, rest⟩
              | true =>
                refine iteT ⟨φ4, ρ3, st4, re3.ext e4 s4, ?_⟩
                dsimp only at rest
                cases he : e ρ3 st4 with
                | ex x st5 => rw [he] at rest; exact rest.elim
                | bad => rw [he] at rest; exact rest.elim
                | ok y st5 =>
                  rw [he] at rest
                  dsimp only at rest
                  intro φ5 H5 u5 e5 s5 r5
                  have e25 := e24.trans e5
                  obtain ⟨φ', rfl, ex1, ex2⟩ := Ext.outof e1 e25 hD nhD
                  have hD5 : H5 D = some (.lst us) := (e25.hidk D (List.mem_cons_self ..)).trans hDl
                  have hnt : ∀ ws, H5 D ≠ some (.tup ws) := fun ws z => by rw [hD5] at z; cases z
                  refine ⟨us, hD5, ?_, φ', st5, ys ++ [y], us ++ [u5], ex2 _, s5.hidden hnt, upd_same, ((rv.ext e25).append (.cons r5 .nil)).extV (hidden_v hnt), ?_, ?_⟩
                  · rw [← rv.length]
                    omega
                  · rw [List.length_append]
                    exact Nat.succ_le_succ hl
                  · unfold RestS
                    cases hr : lcS n g c e (wipeE ρ own) m (i + 1) st5 with
                    | ex x st6 => rw [hr] at rest; exact rest.elim
                    | bad => rw [hr] at rest; exact rest.elim
                    | ok zs st6 =>
                      rw [hr] at rest
                      dsimp only at rest ⊢
                      rw [List.append_assoc]
                      exact rest
    | _ => unfold lcS at rest; rw [hs] at rest; exact rest.elim
theorem e_lcS {elt tg iter : Expr} {ifs : List Expr} {scope : Scope} (own : List (Str × Nat)) {pos : Pos} {o : E} {g : G} {c : ET} {e : E} (hK : T.K = X.K) (hc : X.calm = true) (hN : X.N.Nodup) (ho : PE X iter (tE T W o)) (ok : BlkOk X.N X.env.scope scope own)
    (hg : ∀ (s : Shared) (H : Hp) (C : Addr) (cl : List (Str × Addr)) (fp : List Addr), PG (X.blk s H scope (compEnvC scope cl C X.env) fp) tg (tGw T (own.map (·.2)) g))
    (ht : ∀ (s : Shared) (H : Hp) (C : Addr) (cl : List (Str × Addr)) (fp : List Addr), PTs (X.blk s H scope (compEnvC scope cl C X.env) fp) ifs (tT T W0 c))
    (he : ∀ (s : Shared) (H : Hp) (C : Addr) (cl : List (Str × Addr)) (fp : List Addr), PE (X.blk s H scope (compEnvC scope cl C X.env) fp) elt (tE T W0 e)) (hs : ∀ x, foldedSetIterable iter X.env x = pure x := by intro _; rfl) :
    PE X (.ListComp elt [⟨tg, iter, ifs, 0⟩] scope pos) (tE T W (eLcS (own.map (·.2)) o g c e)) := by
  refine pe_imp (pe_lc hc hN (pi_seq ho) ok hg ht he hs) fun σ H Q h => ?_
  unfold tLc
  refine tG_bind h fun v ρ st1 φ1 H1 u re1 q1 p1 => ?_
  cases q1 with
  | @loc n _ hl hu =>
    dsimp only at p1
    cases hn : st1[n]? with
    | none => rw [hn] at p1; exact p1.elim
    | some ob =>
      cases ob with
      | lst xs =>
        rw [hn] at p1
        dsimp only at p1
        split at p1
        · rename_i hz
          obtain ⟨a, q1, us, q2, q3⟩ := re1.rst.at hn (by simp)
          have ea := hu a q1
          subst ea
          refine .inl ⟨a, rfl, .inl ⟨⟨us, .inl (.inl q2)⟩, ?_⟩⟩
          rw [← hK]
          refine lcS_sound (W := W) re1 q1 hn hz ?_
          unfold RestS
          cases hr : lcS n g c e (wipeE ρ (own.map (·.2))) xs.length 0 st1 with
          | ex x st6 => rw [hr] at p1; exact p1.elim
          | bad => rw [hr] at p1; exact p1.elim
          | ok zs st6 => rw [hr] at p1; exact p1
        · exact p1.elim
      | _ => rw [hn] at p1; exact p1.elim
  | _ => exact p1.elim
end
end Ev

set_option Elab.async false
set_option linter.all false
set_option maxRecDepth 100000
set_option maxHeartbeats 2000000
namespace Ev
open PySem PySem.Spec PyProof.Rows L2
theorem tuple_once (l : Addr) (items : Array Value) (dd : Option Addr) (n : Nat) (sl : Array (Option Value)) (u : Tok) :
    Meets (Builtin.«tuple.__mul__» ⟨[.ref l, .int 1 u], []⟩) (fun _ R s => s.heap.get? l = some { cls := .type "tuple", dict := dd, data := .seq items n, slots := sl } ∧ R (.ok (.ret (Value.ref l))) s) :=
  .of_wp fun prog w A R s h => by
    obtain ⟨hp, g, d, tk, os⟩ := s
    obtain ⟨ho, h⟩ := h
    have f1 := AutoSeq1.idx_int
    wp_walk using wpAny_loadPart' ho
    exact ⟨_, rfl, h⟩
theorem tuple_empt (l : Addr) (dd : Option Addr) (n : Nat) (sl : Array (Option Value)) (x : Int) (u : Tok) (c0 : (decide (x < -(2 ^ 63)) || decide (x ≥ 2 ^ 63)) = false) :
    Meets (Builtin.«tuple.__mul__» ⟨[.ref l, .int x u], []⟩) (fun _ R s => s.heap.get? l = some { cls := .type "tuple", dict := dd, data := .seq #[] n, slots := sl } ∧ R (.ok (.ret (Value.ref l))) s) :=
  .of_wp fun prog w A R s h => by
    obtain ⟨hp, g, d, tk, os⟩ := s
    obtain ⟨ho, h⟩ := h
    have f1 := AutoSeq1.idx_int
    wp_walk using wpAny_loadPart' ho
    refine wpAny_ite_false (decide_eq_false (by rw [c0]; exact Bool.false_ne_true)) ?_
    wp_walk using wpAny_loadPart' ho
    exact ⟨_, rfl, h⟩
theorem tuple_none (l : Addr) (a : Value) (its : List Value) (dd : Option Addr) (n : Nat) (sl : Array (Option Value)) (x : Int) (u : Tok) (c0 : (decide (x < -(2 ^ 63)) || decide (x ≥ 2 ^ 63)) = false) (c1 : (x == 1) = false) (c2 : x ≤ 0) :
    Meets (Builtin.«tuple.__mul__» ⟨[.ref l, .int x u], []⟩) (fun _ R s => s.heap.get? l = some { cls := .type "tuple", dict := dd, data := .seq (a :: its).toArray n, slots := sl } ∧ R (.ok (.ret (Value.ref s.heap.objs.size))) { s with heap := s.heap.push { cls := Value.type "tuple", data := Data.seq #[] }, toks := s.toks }) :=
  .of_wp fun prog w A R s h => by
    obtain ⟨hp, g, d, tk, os⟩ := s
    obtain ⟨ho, h⟩ := h
    have f1 := AutoSeq1.idx_int
    wp_walk using wpAny_loadPart' ho
    refine wpAny_ite_false (decide_eq_false (by rw [c0]; exact Bool.false_ne_true)) ?_
    wp_walk using wpAny_loadPart' ho
    exact ⟨_, rfl, h⟩
section
variable {X : Cx}
def rOnceT (K : PySem.W.Frag) : R2 := fun x y H Q => ∃ l k xs, x = .ref l ∧ y = .int k ∧ SqT K H l xs ∧ (k = 1 ∨ (xs = [] ∧ -1000 ≤ k ∧ k ≤ 1000)) ∧ Q (.ref l) H
theorem op_onceT : OpR X (binaryOp .Mult) (rOnceT X.K) := by
  intro pins s σ H x y v u Q I rx ry h
  obtain ⟨l, k, xs, rfl, rfl, hT, hk, q⟩ := h
  cases rx
  obtain ⟨t, rfl⟩ := ry
  obtain ⟨its, r, ⟨⟨cls, dd, data, sl⟩, ho, hc, n, hd⟩, hs⟩ := I.tuple hT
  simp only at hc hd
  subst hc hd
  have key : Meets (Builtin.«tuple.__mul__» ⟨[.ref l, .int k t], []⟩) (fun _ R s => s.heap.get? l = some { cls := .type "tuple", dict := dd, data := .seq its.toArray n, slots := sl } ∧ R (.ok (.ret (Value.ref l))) s) := by
    rcases hk with rfl | ⟨rfl, h1, h2⟩
    · exact tuple_once l its.toArray dd n sl t
    · cases r
      exact tuple_empt l dd n sl k t (by rw [decide_eq_false (by omega), decide_eq_false (by omega)]; rfl)
  refine wpAny_binaryOp_repeat_ref (T := "tuple") (U := "int") (by decide) ⟨_, ho, rfl⟩ (fun s' => typeIs_int s' k t) noFill_tuple_mul F.fills_int_mul F.slot_int_rmul repeat_tuple F.slot_int_index.lookup
    (call_meets F.slot_int_rmul (typeIs_int s k t) F.entry_int_rmul (F.args_int_rmul_2 _ _) (int_rmul_tuple k t l its.toArray n dd sl)
      ⟨ho, rfl, ⟨_, ho, rfl⟩, call_meets F.slot_tuple_mul ⟨_, ho, rfl⟩ F.entry_tuple_mul (F.args_tuple_mul_2 _ _) key ⟨ho, ?_⟩⟩)
  exact ⟨.ref l, _, I, rfl, q⟩
def rNoneT (K : PySem.W.Frag) : R2 := fun x y H Q => ∃ l k xs, x = .ref l ∧ y = .int k ∧ SqT K H l xs ∧ xs ≠ [] ∧ -1000 ≤ k ∧ k ≤ 0 ∧ ∀ p, H p = none → Q (.ref p) (upd H p (.tup []))
theorem op_noneT : OpR X (binaryOp .Mult) (rNoneT X.K) := by
  intro pins s σ H x y v u Q I rx ry h
  obtain ⟨l, k, xs, rfl, rfl, hT, hne, h1, h2, q⟩ := h
  cases rx
  obtain ⟨t, rfl⟩ := ry
  obtain ⟨its, r, ⟨⟨cls, dd, data, sl⟩, ho, hc, n, hd⟩, hs⟩ := I.tuple hT
  simp only at hc hd
  subst hc hd
  cases its with
  | nil => cases r; exact absurd rfl hne
  | cons a its =>
    refine wpAny_binaryOp_repeat_ref (T := "tuple") (U := "int") (by decide) ⟨_, ho, rfl⟩ (fun s' => typeIs_int s' k t) noFill_tuple_mul F.fills_int_mul F.slot_int_rmul repeat_tuple F.slot_int_index.lookup
      (call_meets F.slot_int_rmul (typeIs_int s k t) F.entry_int_rmul (F.args_int_rmul_2 _ _) (int_rmul_tuple k t l (a :: its).toArray n dd sl)
        ⟨ho, rfl, ⟨_, ho, rfl⟩, call_meets F.slot_tuple_mul ⟨_, ho, rfl⟩ F.entry_tuple_mul (F.args_tuple_mul_2 _ _) (tuple_none l a its dd n sl k t (by rw [decide_eq_false (by omega), decide_eq_false (by omega)]; rfl) (beq_eq_false_iff_ne.mpr (by omega)) h2) ⟨ho, ?_⟩⟩)
    refine ⟨.ref s.heap.objs.size, _, I.laid (t' := s.toks) (o := .tup []) (fun b ob q => Heap.get?_push_of_some _ q) (Nat.le_refl _) ?_, rfl, q _ (I.hok.fresh (Nat.le_refl _))⟩
    exact ⟨Nat.zero_le _, [], .nil, IsTup.new _ _⟩
/-- tuples too: times one, times nothing -/
def fMulB (st : Sto) (v w : Val) : Option Val := match fMul st v w with
  | some z => some z
  | none => match v, w with
    | .tup xs, .int k => if k = 1 ∨ (xs = [] ∧ -1000 ≤ k ∧ k ≤ 1000) then some (.tup xs) else if xs ≠ [] ∧ -1000 ≤ k ∧ k ≤ 0 then some (.tup []) else none
    | _, _ => none
def rMulB (K : PySem.W.Frag) : R2 := fun x y H Q => rMulA K x y H Q ∨ rOnceT K x y H Q ∨ rNoneT K x y H Q
theorem op_mulB : OpR X (binaryOp .Mult) (rMulB X.K) := op_mulA.or (op_onceT.or op_noneT)
theorem snd_mulB {T : Tab} : SndB T (rMulB T.K) fMulB := by
  intro φ st H v w z x y Q R r1 r2 hf hq
  unfold fMulB at hf
  split at hf
  · rename_i z' hz
    cases hf
    exact .inl (snd_mul φ st H v w z x y Q R r1 r2 hz hq)
  · split at hf
    · split at hf
      · rename_i hc
        cases hf
        cases r2
        cases r1 with
        | tup a1 b1 =>
          rename_i us a
          refine .inr (.inl ⟨a, _, us, rfl, rfl, SqT.of a1, ?_, hq _ _ Ext.refl R (.tup a1 b1)⟩)
          rcases hc with hc | ⟨hc, h⟩
          · exact .inl hc
          · subst hc
            cases b1
            exact .inr ⟨rfl, h⟩
      · split at hf
        · rename_i hc
          cases hf
          cases r2
          cases r1 with
          | tup a1 b1 =>
            rename_i us a
            refine .inr (.inr ⟨a, _, us, rfl, rfl, SqT.of a1, ?_, hc.2.1, hc.2.2, fun p hp => ?_⟩)
            · intro z; subst z; cases b1; exact hc.1 rfl
            · exact hq _ _ (Ext.fresh R hp) (R.fresh hp) (.tup upd_same .nil)
        · cases hf
    · cases hf
end
end Ev

set_option Elab.async false
set_option linter.all false
set_option maxRecDepth 100000
set_option maxHeartbeats 4000000
namespace Ev
open PySem PySem.Spec PyProof.Rows L2
section
open PySem.W PySem.Calls
variable {prog : Program} {w : World} {A : Around} {E : Value → Shared → Prop} {s : Shared} {K : Frag} {x D : Addr} {ox oq : Obj}
/-- e.__class__ of an own exception that has its dict -/
theorem exc_class {Q : Option Value → Shared → Prop} (c : L2.ExcC K D) (kI : K.In s.heap) (J : InstAt s.heap x ox D (some oq)) (q : Q (some (.ref D)) { s with toks := s.toks + 1 }) : wpAny (model prog w) A (getAttr? (.ref x) "__class__") Q E s := by
  obtain ⟨hp, g, d, t, os⟩ := s
  have y0 := J.type (M := model prog w)
  have ya := looks_findIn (M := model prog w) kI c.hg
  have yb := looks_findIn (M := model prog w) kI c.hk
  have hf : findObj K D (some oq) "__class__" = some (.bind (.builtin "getset_descriptor.__get__") (.builtin "object.__class__")) := findObj_data (by obtain ⟨cd, hc, _⟩ := any_some c.hd; rw [hc]; rfl) c.ha c.hn c.ht
  have yc := looks_find (M := model prog w) kI J hf
  have ys : Looks (model prog w) hp (isInstance (.ref x) (.type "BaseException")) true := y0.andThen (looks_subIn kI c.hs)
  have n1 : (Value.builtin "BaseException.__getattribute__" == Value.builtin "object.__getattribute__") = false := by decide +kernel
  have n2 : (onTheHeap (Value.ref D) && Value.builtin "BaseException.__getattribute__" == Value.builtin "object.__getattribute__") = false := by rw [n1]; rfl
  have n3 : (false && onTheHeap (Value.builtin "BaseException.__getattribute__")) = false := rfl
  unfold getAttr? getAttrBy? getAttrBy
  refine wpAny_bind (wpAny_mkText (wpAny_bind (wpAny_attempt (wpAny_holding (wpAny_bind (y0.at (wpAny_bind (ya.at ?_))))))))
  show wpAny _ _ (if (onTheHeap (Value.ref D) && Value.builtin "BaseException.__getattribute__" == Value.builtin "object.__getattribute__") = true then _ else _) _ _ _
  rw [n2, if_neg Bool.false_ne_true]; unfold getAttrByItsOwn hookBefore; refine wpAny_bind ?_
  rw [if_pos (show onTheHeap (Value.ref D) = true from rfl)]; refine yb.at ?_; refine wpAny_bind (wpAny_attempt (wpAny_holding ?_))
  unfold callGetattribute; rw [n3, if_neg Bool.false_ne_true]; unfold boundAndCalled
  rw [PySem.F.excAttr_ValueError.ga.bind (.ref x)]; refine wpAny_bind (wpAny_pure ?_)
  show wpAny _ _ (call (.builtin "BaseException.__getattribute__") [.ref x, .str "__class__" t]) _ _ _
  refine wpAny_call (codeAny_call_builtin PySem.F.excAttr_ValueError.ga.plain PySem.F.entry_bexc_ga (@check_slot (model prog w) _ _ ⟨hp, g, d, t + 1, os⟩ "BaseException.__getattribute__" "BaseException" "__getattribute__" (.ref x) [.str "__class__" t] [] _ (by decide +kernel) (by decide +kernel) ys (PySem.F.args_bexc_ga (.ref x) (.str "__class__" t)) ?_))
  unfold Builtin.«object.__getattribute__»
  refine wpAny_bind (wpAny_of_eq (a := ((Value.ref x : Value), [Value.str "__class__" t])) (by first | rfl | (simp only [slotArgs]; rfl)) (wpAny_bind (wpAny_pure (wpAny_bind (y0.at (wpAny_bind (yc.at ?_)))))))
  show wpAny _ _ (holding [Value.builtin "object.__class__"] (call (.builtin "getset_descriptor.__get__") [.builtin "object.__class__", .ref x, .ref D]) >>= ret) _ _ _
  refine wpAny_bind (wpAny_holding (wpAny_call (class_get (s := ⟨hp, g, d, t + 1, os⟩) (ox := ox) (od := some oq) kI J c.hm (wpAny_pure ?_))))
  show wpAny _ _ (handedOut (.ref D)) _ _ _
  rw [handedOut_of (v := .ref D) rfl]
  first
    | exact wpAny_pure (wpAny_pure q)
    | exact wpAny_pure q
    | exact wpAny_pure (wpAny_bind (wpAny_pure (wpAny_pure q)))
theorem exc_kit (c : L2.ExcC K D) : KitX K (.ref x) (.ref D) (fun h => ∃ oe od, InstAt h x oe D (some od)) where
  ty := fun _ _ _ ⟨_, _, J⟩ => J.type
  it := fun _ _ kI _ => by
    obtain ⟨cdD, hcD, _⟩ := any_some c.hd
    unfold clsIn at hcD
    split at hcD
    · rename_i c' d' cd' sl' ho
      intro A' Q' E' s' k q; unfold isType loadHead
      exact wpAny_bind (wpAny_loadPart (k _ _ (kI _ _ ho)) (wpAny_pure q))
    · cases hcD
  ne := fun h tp dd its n sl kI htp => by
    refine Bool.eq_false_iff.mpr fun q => ?_
    obtain rfl : D = tp := Value.ref.inj (beq_iff_eq.mp q)
    obtain ⟨cdD, hcD, _⟩ := any_some c.hd
    unfold clsIn at hcD
    split at hcD
    · rename_i c' d' cd' sl' ho
      have z := (kI _ _ ho).symm.trans htp; cases z
    · cases hcD
  ca := fun kI ⟨_, _, J⟩ k => exc_class c kI J k
end
section
variable {X : Cx} {T : Tab} {W : WX}
/-- the object of a held exception -/
theorem held_inst {pins : List (Addr × Obj)} {σ : L2.St} {H : Hp} {s : Shared} {a d C : Addr} {fs : List (Str × V)} (I : Inv X pins σ H s) (h1 : Rd H a (exv C d a)) (h2 : Rd H d (.xd fs)) : ∃ oe od mA, PySem.W.InstAt s.heap a oe C (some od) ∧ s.heap.Ns1 d mA ∧ (∀ f, RelO (fs.lookup f) (mA f)) ∧ s.heap.get? d = some od := by
  have x1 : ObjOk X.prog X.w H s.heap a (exv C d a) := h1.ok I.hok
  have x2 : ObjOk X.prog X.w H s.heap d (.xd fs) := h2.ok I.hok
  obtain ⟨⟨o, vs, e, hc, hd, hf⟩, _, _⟩ := x1
  obtain ⟨mA, hns, hr⟩ := x2
  obtain ⟨od, ho, hl⟩ := lookIn_ns hns
  exact ⟨o, od, mA, ⟨e, hc, by unfold PySem.W.notCls; rw [hf], by rw [hd]; exact ho⟩, hns, hr, ho⟩
theorem pe_held {e : Expr} {te : TE} {pos : Pos} {n : Str} (he : PE X e te) (hb : attributeBase e n X.env (eval e X.env) = eval e X.env := by rfl) :
    PE X (.Attribute e n pos) (fun σ H Q => te σ H fun x H1 => ∃ (a C d : Addr) (fs : List (Str × V)) (v : V), x = .ref a ∧ XfC X.K C ∧ PySem.W.findIn X.K (.ref C) n = some none ∧ Rd H1 a (exv C d a) ∧ Rd H1 d (.xd fs) ∧ fs.lookup n = some v ∧ Q v H1) := by
  refine ⟨fun pins s σ H Q I h => ?_⟩
  refine attr_of hb (thn (he.run pins s σ H _ I h) fun u s1 hh => ?_)
  obtain ⟨x, H1, I1, rx, a, C, d, fs, v, rfl, T, hno, h1, h2, l, q⟩ := hh
  obtain rfl : u = Value.ref a := rx
  obtain ⟨oe, od, mA, J, hns, hr, ho⟩ := held_inst I1 h1 h2
  obtain ⟨od', ho', hl⟩ := lookIn_ns hns
  rw [ho] at ho'
  cases ho'
  obtain ⟨u, hu, ru⟩ := RelO.some_of (v := v) (o := mA n) (by rw [← l]; exact hr n)
  exact HandSPX.exc_get I1.kIn J T.ga T.gg T.exC (PySem.W.findObj_own T.hdC hno rfl (by rw [hl, hu])) (handed_of ru) ⟨v, H1, I1.tok _, ru, q⟩
theorem lk_put {α : Type} {f g : Str} {y : α} {fs : List (Str × α)} : ((f, y) :: fs).lookup g = if g = f then some y else fs.lookup g := by
  by_cases h : g = f
  · subst h; simp [List.lookup]
  · have e : (g == f) = false := by simpa using h
    rw [if_neg h]; simp [List.lookup, e]
theorem zip_lookup {φ : Phi} {H : Hp} {n : Str} : ∀ {ns : List Str} {vs : List Val} {us : List V} {v : Val}, RelVs T φ H vs us → (ns.zip vs).lookup n = some v → ∃ u, (ns.zip us).lookup n = some u ∧ RelV T φ H v u
  | [], _, _, _, _, h => by simp at h
  | _ :: _, [], _, _, r, h => by simp at h
  | m :: ns, x :: vs, _, v, .cons (u := u) (us := us) r t, h => by
    rw [List.zip_cons_cons] at h ⊢
    rw [lk_put] at h ⊢
    by_cases e : n = m
    · rw [if_pos e] at h ⊢
      cases h
      exact ⟨u, rfl, r⟩
    · rw [if_neg e] at h ⊢
      exact zip_lookup t h
def eFld (nk : Nat) (n : Str) (e : E) : E := fun ρ st => bindR (e ρ st) fun v st1 => match v with
  | .exc c ns vs => if c < nk then (match (ns.zip vs).lookup n with
    | some z => .ok z st1
    | none => .bad) else .bad
  | _ => .bad
theorem e_fld {nk : Nat} {n : Str} {e : Expr} {ee : E} {pos : Pos} (hx : ∀ c, c < nk → XfC X.K (T.ca c) ∧ PySem.W.findIn X.K (.ref (T.ca c)) n = some none) (he : PE X e (tE T W ee)) (hb : attributeBase e n X.env (eval e X.env) = eval e X.env := by rfl) :
    PE X (.Attribute e n pos) (tE T W (eFld nk n ee)) := by
  refine pe_imp (pe_held he hb) fun σ H Q h => ?_
  refine tG_bind h fun v ρ st1 φ1 H1 u re1 q1 p1 => ?_
  cases q1 with
  | @exc c ns vs us a d n1 n2 h1 h2 l r =>
    dsimp only at p1
    split at p1
    · rename_i hc
      cases hl : (ns.zip vs).lookup n with
      | none => rw [hl] at p1; exact p1.elim
      | some z =>
        rw [hl] at p1
        obtain ⟨w, hw, rw'⟩ := zip_lookup r hl
        exact ⟨a, T.ca c, d, ns.zip us, w, rfl, (hx c hc).1, (hx c hc).2, h1, h2, hw, p1.ok_self re1.rst rw'⟩
    · exact p1.elim
  | _ => exact p1.elim
/-- isinstance of a held exception -/
theorem call_held : CallR X (.builtin "isinstance") (fun xs H Q => ∃ (a C D d : Addr) (fs : List (Str × V)) (b : Bool), xs = [.ref a, .ref D] ∧ ExcC X.K C ∧ Rd H a (exv C d a) ∧ Rd H d (.xd fs) ∧ PySem.W.kitOne X.K (.ref C) (.ref D) = some b ∧ Q (.bl b) H) := by
  intro pins s σ H xs us Q I r h
  obtain ⟨a, C, D, d, fs, b, rfl, c, h1, h2, e, q⟩ := h
  cases r with
  | cons rx rr =>
    cases rr with
    | cons rt rr =>
      cases rr
      cases rx
      cases rt
      obtain ⟨oe, od, mA, J, _⟩ := held_inst I h1 h2
      exact PySem.W.kia_one (exc_kit c) I.kIn ⟨oe, od, J⟩ e (fun z => nomatch z) fun tk => ⟨.bl b, H, I.kept (t' := tk) fun _ _ z => z, rfl, q⟩
def eIsX (tbl : Nat → Bool) (nk : Nat) (e : E) : E := fun ρ st => bindR (e ρ st) fun v st1 => match v with
  | .exc c _ _ => if c < nk then .ok (.bl (tbl c)) st1 else .bad
  | _ => .bad
theorem e_isX {tbl : Nat → Bool} {nk : Nat} {D : Addr} {x : Str} {e : Expr} {ee : E} {p p2 pos : Pos} (hm : X.mg "isinstance" = none) (hD : X.mg x = some (.ref D)) (hx : ∀ c, c < nk → ExcC X.K (T.ca c) ∧ PySem.W.kitOne X.K (.ref (T.ca c)) (.ref D) = some (tbl c)) (ha : PE X e (tE T W ee))
    (hg : Gl X "isinstance" := by rfl) (hgD : Gl X x := by rfl) (hdb : (x == ("__debug__" : Str)) = false := by decide)
    (he : starEach [e, .Name x p2] X.env = (false, eval e X.env) :: starEach [.Name x p2] X.env := by rfl) (he2 : starEach [.Name x p2] X.env = [(false, eval (.Name x p2) X.env)] := by rfl) (hpl : (backTo pos (starEach [.Name x p2] X.env)).any (·.1) = false := by rfl) :
    PE X (.Call (.Name "isinstance" p) [e, .Name x p2] [] pos) (tE T W (eIsX tbl nk ee)) := by
  refine pe_imp (pe_callB call_held hg hm (by decide +kernel) (pa_cons ha (pa_cons (pe_glob (v := .ref D) hgD hD rfl hdb) pa_nil he2) he) (by decide) (by decide) he hpl) fun σ H Q h => ?_
  refine tG_bind h fun v ρ st1 φ1 H1 u re1 q1 p1 => ?_
  cases q1 with
  | @exc c ns vs us a d n1 n2 h1 h2 l r =>
    dsimp only at p1
    split at p1
    · rename_i hc
      exact ⟨a, T.ca c, D, d, ns.zip us, tbl c, rfl, (hx c hc).1, h1, h2, (hx c hc).2, p1.ok_self re1.rst (.bl _)⟩
    · exact p1.elim
  | _ => exact p1.elim
end
end Ev

set_option Elab.async false
set_option linter.all false
set_option maxRecDepth 100000
set_option maxHeartbeats 4000000
namespace Ev
open PySem PySem.Spec PyProof.Rows L2
section
open PySem.W PySem.Calls PySem.HandSPX
variable {prog : Program} {w : World} {A : Around} {E : Value → Shared → Prop} {R : Result → Shared → Prop} {h : Heap} {g : Array GenState} {d : Drawn} {t : Nat} {os : OsState}
variable {nm q : Str} {C N : Addr} {bs bm bmB : List Value} {hdct : Bool} {sn : List Str} {sub : List Value} {ab : Bool} {col : Option Bool} {dd : Option Addr} {k0 k1 k2 k3 k5 : Option Value} {B newId initId : String} {kws : List (Str × Value)}
/-- C(x=..): names alone -/
theorem mk_check {M : Model} (F : ExcBaseFacts B newId initId bmB) (hT : ∀ X : String, bm.contains (.type X) = bmB.contains (.type X)) {Q : Unit → Shared → Prop} (hC : h.get? C = some (excClassObj nm q C N bs bm hdct sn sub ab col dd k0 k1 k2 k3 k5 newId)) (hq : Q () ⟨h, g, d, t, os⟩) :
    wpAny M A (checkBuiltinCall newId ⟨[.ref C], kws⟩) Q E ⟨h, g, d, t, os⟩ := by
  have kB : (Value.ref C :: bm).contains (.type B) = true := by rw [List.contains_cons, hT, F.hasB, Bool.or_true]
  have kS := F.noStar
  simp only [checkBuiltinCall, F.newKind, F.newSplit, F.newRow]
  repeat (first | refine wpAny_loadPart_at hC ?_ | (refine wpAny_isSubtype_exc hC ?_; rw [kB]) | refine wpAny_staticBase_exc hC ?_ | refine wpAny_madeBy_exc hC ?_ | simp only [bne_self_eq_false, Bool.false_eq_true, if_false] | wp_step)
  exact hq
theorem mk_new (F : ExcBaseFacts B newId initId bmB) (hT : ∀ X : String, bm.contains (.type X) = bmB.contains (.type X)) (hC : h.get? C = some (excClassObj nm q C N bs bm hdct sn sub ab col dd k0 k1 k2 k3 k5 newId))
    (hq : R (.ok (.ret (.ref (h.objs.size + 1)))) ⟨(h.push (W.kdv_tup [])).push (excO C h.objs.size), g, d, t, os⟩) : codeAny (model prog w) A (.builtin newId ⟨[.ref C], kws⟩) R ⟨h, g, d, t, os⟩ := by
  have ke := F.ends
  have kB : (Value.ref C :: bm).contains (.type B) = true := by rw [List.contains_cons, hT, F.hasB, Bool.or_true]
  have kA : (Value.ref C :: bm).contains (.type "AttributeError") = false := by rw [List.contains_cons, hT, F.noAttr]; rfl
  have kN : (Value.ref C :: bm).contains (.type "NameError") = false := by rw [List.contains_cons, hT, F.noName]; rfl
  refine codeAny_builtinAt F.entry ?_
  unfold Builtin.«BaseException.__new__»
  refine PySem.wpAt_bind ?_; show PySem.wpAt _ _ _ (stack >>= _) _ _ _; refine PySem.wpAt_bind (PySem.wpAt_stack fun p below => PySem.wpAt_of_wpAny ?_)
  wp_walk
  refine PySem.wpAt_of_wpAny ?_
  rw [F.owner]
  repeat (first | with_reducible refine wpAny_madeHere_exc F.canon hC ?_ | with_reducible refine wpAny_loadPart_at hC ?_ | (with_reducible refine wpAny_isSubtype_exc hC ?_; first | rw [kB] | rw [kA] | rw [kN]) | wp_step)
  show R _ _
  rw [Heap.size_push]; exact hq
theorem mk_type {fI : Addr} {Q : Fin → Shared → Prop} (F : ExcBaseFacts B newId initId bmB) (hT : ∀ X : String, bm.contains (.type X) = bmB.contains (.type X)) (hC : h.get? C = some (excClassObj nm q C N bs bm hdct sn sub ab col dd k0 k1 k2 k3 k5 newId))
    (hi : W.Looks (model prog w) h (typeLookup (.ref C) "__init__") (some (.ref fI))) (hb : ∀ self, W.Looks (model prog w) h (bindSpecial (.ref fI) self) (.ref fI, [self]))
    (hq : codeAny (model prog w) A (.call (.ref fI) ⟨[.ref (h.objs.size + 1)], kws⟩) (fun r s' => match r with | .ok (.ret v) => v = .none ∧ Q (.done (.ret (.ref (h.objs.size + 1)))) s' | .ok _ => False | .error e => E e s') ⟨(h.push (W.kdv_tup [])).push (excO C h.objs.size), g, d, t, os⟩) :
    wpAny (model prog w) A (Builtin.«type.__call__» ⟨[.ref C], kws⟩) Q E ⟨h, g, d, t, os⟩ := by
  repeat (first | with_reducible refine wpAny_loadPart_at hC ?_ | with_reducible refine wpAny_madeBy_exc hC ?_ | wp_step)
  refine codeAny_call_builtin_code (Code.quiet_builtin _ F.quiet) (mk_check F hT hC (mk_new F hT hC ?_))
  show wpAny _ _ _ _ _ _
  have kk : ∀ b o, h.get? b = some o → ((h.push (W.kdv_tup [])).push (excO C h.objs.size)).get? b = some o := fun b o e => Heap.get?_push_of_some _ (Heap.get?_push_of_some _ e)
  have kC := kk _ _ hC
  have kG : ((h.push (W.kdv_tup [])).push (excO C h.objs.size)).get? (h.objs.size + 1) = some (excO C h.objs.size) := by heap_get
  have kM : (Value.ref C :: bm).contains (.ref C) = true := by simp
  have ki := hi.keeps kk
  have kb := (hb (.ref (h.objs.size + 1))).keeps kk
  unfold isInstance
  repeat (first | with_reducible refine wpAny_loadPart_at kG ?_ | (with_reducible refine wpAny_isSubtype_exc kC ?_; rw [kM]) | wp_step)
  show wpAny _ _ (typeLookup (.ref C) _) _ _ _
  refine ki.at (wpAny_holding (wpAny_bind (kb.at (wpAny_bind (wpAny_call (codeAny_mono hq fun r s' z => ?_))))))
  rcases r with e | (v | _ | _ | _) <;> first | exact z | exact z.elim | skip
  obtain ⟨rfl, z⟩ := z
  first
    | exact wpAny_pure (wpAny_pure z)
    | (wp_walk; exact z)
theorem mk_call {fI : Addr} (F : ExcBaseFacts B newId initId bmB) (hT : ∀ X : String, bm.contains (.type X) = bmB.contains (.type X)) (hC : h.get? C = some (excClassObj nm q C N bs bm hdct sn sub ab col dd k0 k1 k2 k3 k5 newId))
    (hi : W.Looks (model prog w) h (typeLookup (.ref C) "__init__") (some (.ref fI))) (hb : ∀ self, W.Looks (model prog w) h (bindSpecial (.ref fI) self) (.ref fI, [self]))
    (hq : codeAny (model prog w) (A.under (.builtin "type.__call__" ⟨[.ref C], kws⟩)) (.call (.ref fI) ⟨[.ref (h.objs.size + 1)], kws⟩) (W.InitBack (h.objs.size + 1) R) ⟨(h.push (W.kdv_tup [])).push (excO C h.objs.size), g, d, t, os⟩) :
    codeAny (model prog w) A (.call (.ref C) ⟨[.ref C].tail, kws⟩) R ⟨h, g, d, t, os⟩ := by
  have f1 := tc_lookup
  have f2 := tc_bind (.ref C)
  have kT : (⟨h, g, d, t, os⟩ : Shared).TypeIs (.ref C) "type" := ⟨_, hC, rfl⟩
  refine codeAny_of_tree ?_
  show wpAny _ _ (callAny (.ref C) _) _ _ _
  repeat (any_goals (first | assumption | with_reducible refine wpAny_loadPart_at hC ?_ | wp_step))
  refine ⟨rfl, codeAny_call_builtin_at (Code.quiet_builtin _ (by decide +kernel)) entry_typeCall (wpAny_check_type_call_sub hC (mk_type F hT hC hi hb ?_))⟩
  refine codeAny_mono hq fun r s' z => ?_
  rcases r with e | (v | _ | _ | _) <;> exact z
end
end Ev

set_option Elab.async false
set_option linter.all false
set_option maxRecDepth 100000
set_option maxHeartbeats 4000000
namespace Ev
open PySem PySem.Spec PyProof.Rows L2
/-- what the written part must say of the class -/
structure OexG (K : PySem.W.Frag) (C : Addr) (newId : String) (bmB : List Value) : Prop where
  ini : PySem.W.excInitIn K C bmB newId = true
  ov : PySem.W.excOver K C bmB = true
  hd : PySem.W.hasDictIn K C = true
  sa : PySem.W.findIn K (.ref C) "__setattr__" = some (some (.builtin "object.__setattr__"))
  kC : PySem.W.keepIn K (.ref C) = true
def oexGB (K : PySem.W.Frag) (C : Addr) (newId : String) (bmB : List Value) : Bool := PySem.W.excInitIn K C bmB newId && PySem.W.excOver K C bmB && PySem.W.hasDictIn K C && decide (PySem.W.findIn K (.ref C) "__setattr__" = some (some (.builtin "object.__setattr__"))) && PySem.W.keepIn K (.ref C)
theorem oexG_of {K : PySem.W.Frag} {C : Addr} {newId : String} {bmB : List Value} (h : oexGB K C newId bmB = true) : OexG K C newId bmB := by
  unfold oexGB at h
  simp only [Bool.and_eq_true, decide_eq_true_eq] at h
  obtain ⟨⟨⟨⟨h1, h2⟩, h3⟩, h4⟩, h5⟩ := h
  exact ⟨h1, h2, h3, h4, h5⟩
section
variable {X : Cx} {pins : List (Addr × Obj)} {σ : L2.St} {H : Hp} {s : Shared} {a C dx : Addr} {f : Str} {y : V} {u : Value} {fs : List (Str × V)} {E : Value → Shared → Prop} {A : Around} {B newId initId : String} {bmB : List Value}
/-- self.f = y, the first field, over any base -/
theorem lay_first {Q : Unit → Shared → Prop} (SF : StoreFacts B bmB "object.__setattr__" "object") (T : OexG X.K C newId bmB) (I : Inv X pins σ H s) (e : H a = some (exo a C none)) (hno : PySem.W.findIn X.K (.ref C) f = some none) (ry : L2.RelV y u)
    (q : ∀ dx s', H dx = none → dx ≠ a → Inv X pins σ (upd (upd H dx (exd dx [(f, y)])) a (exo a C (some dx))) s' → Q () s') : wpAny (model X.prog X.w) A (setAttr (.ref a) f u) Q E s := by
  obtain ⟨t1, ho⟩ := exo_at I.hok e
  obtain ⟨cd, hcd, hh⟩ := PySem.W.any_some T.hd
  obtain ⟨hp, g, d, t, os⟩ := s
  have J : PySem.W.InstAt hp a { cls := .ref C, dict := none, data := .fields #[.ref t1, .none, .none, .none, .bool false, .none] } C none := ⟨ho, rfl, rfl, trivial⟩
  refine PySem.W.set_plain I.kIn J T.sa ?_
  refine PySem.W.osa_openX (r := none) SF I.kIn J T.ov (by unfold PySem.W.takerIn; rw [hno]; rfl) fun b => ?_
  have hxs : a ≠ hp.objs.size := Nat.ne_of_lt (Heap.lt_size ho)
  have hcls : PySem.W.Looks (model X.prog X.w) hp (classData C) cd := PySem.W.looks_clsIn I.kIn hcd
  obtain ⟨nm, bs, mro, ns, qn, hd, sn, sb, ab, col, del⟩ := cd
  dsimp only at hh
  subst hh
  dsimp only
  unfold PySem.Builtin.ObjectAttr.storeInOwnDict PySem.Builtin.ObjectAttr.ownDictForStores
  repeat (first | with_reducible refine PySem.HandSPX.store_in_new ?_ ?_ | with_reducible refine wpAny_loadPart_at ho ?_ | with_reducible refine hcls.at ?_ | wp_step)
  · exact ⟨_, #[], _, (Heap.get?_update_ne _ _ _ _ hxs.symm).trans (Heap.get?_push_at rfl rfl), rfl, fun e he => absurd he (by simp), fun _ => rfl⟩
  · intro h' tk' hn' hs
    have hx₁ : (hp.push { cls := .type "dict", data := .dict #[] }).get? a = some { cls := .ref C, data := .fields #[.ref t1, .none, .none, .none, .bool false, .none] } := Heap.get?_push_of_some _ ho
    have keep : ∀ b o, b ≠ a → hp.get? b = some o → h'.get? b = some o := fun b o hb hob => (hs.2 b (Nat.ne_of_lt (Heap.lt_size hob))).trans ((Heap.get?_update_ne _ _ _ _ hb).trans (Heap.get?_push_of_some _ hob))
    have here : h'.get? a = some { cls := .ref C, dict := some hp.objs.size, data := .fields #[.ref t1, .none, .none, .none, .bool false, .none] } := (hs.2 a hxs).trans (Heap.get?_update_self _ hx₁ rfl)
    have hnd : H hp.objs.size = none := I.hok.fresh (Nat.le_refl _)
    have nd : ∀ {b : Addr} {o : Obj}, hp.get? b = some o → b ≠ hp.objs.size := fun {b o} z => Nat.ne_of_lt (Heap.lt_size z)
    have na : ∀ {b : Addr}, H b = none → b ≠ a := fun {b} n z => by rw [z, e] at n; cases n
    refine q hp.objs.size _ hnd hxs.symm (I.un (t' := tk') {
      keep := fun b o z n _ _ => keep b o (na n) z
      slot := fun b o z n _ _ => ⟨o.slots, keep b o (na n) z⟩
      free := fun b o z n _ => by rw [upd_ne (na n), upd_ne (nd z)]; exact n
      there := fun b o z _ => by
        by_cases hb : b = a
        · exact ⟨_, by rw [hb]; exact here⟩
        · exact ⟨o, keep b o hb z⟩
      tups := fun b xs z => by rw [upd_ne (at_ne e z exo_tup), upd_ne (ne_of_none z hnd)]; exact z
      frzs := fun b o v z => by rw [upd_ne (at_ne e z exo_frz), upd_ne (ne_of_none z hnd)]; exact z
      tbls := fun b ps z => ⟨#[], by rw [upd_ne (at_ne e z exo_tbl), upd_ne (ne_of_none z hnd), z]; simp⟩ } fun b o z => ?_)
    by_cases hb : b = a
    · subst hb
      rw [upd_same] at z
      cases z
      exact exo_ok here
    · rw [upd_ne hb] at z
      by_cases hd : b = hp.objs.size
      · subst hd
        rw [upd_same] at z
        cases z
        exact exd_ok hn' (relO_put (fs := []) ry fun g => True.intro)
      · rw [upd_ne hd] at z
        exact (I.hok b o z).stay (fun c v hc zz => keep c v (by
            rcases hc with hc | hc
            · rw [hc]; exact hb
            · exact at_ne e hc exo_own) zz)
          (fun c hc => by rw [upd_ne (at_ne e hc exo_own), upd_ne (ne_of_none hc hnd)]; exact hc) (fun c xs hc => by rw [upd_ne (at_ne e hc exo_tup), upd_ne (ne_of_none hc hnd)]; exact hc)
/-- B.__init__(self, ..) -/
theorem base_init {us : List Value} {Q : Value → Shared → Prop} (F : ExcBaseFacts B newId initId bmB) (T : OexG X.K C newId bmB) (I : Inv X pins σ H s) (e : H a = some (exo a C none)) (hl : us.length ≤ sizeLine) (q : ∀ s', Inv X pins σ H s' → Q .none s') :
    wpAny (model X.prog X.w) A (call (.builtin initId) (.ref a :: us)) Q E s := by
  obtain ⟨nm, N, qn, bs, bm, hdct, sn, sub, ab, col, dd, k0, k1, k2, k3, k5, hC, hT⟩ := PySem.W.excInit_of I.kIn T.ini
  obtain ⟨t1, ho⟩ := exo_at I.hok e
  obtain ⟨hp, g, d, t, os⟩ := s
  refine wpAny_call (PySem.HandSPX.init_base F hT hC ho hl fun h' t2 k hx => q _ ?_)
  have J := I.write (t' := t) (x := a) (e := a) (o := exo a C none) (by rw [e]; exact True.intro) (.inl rfl) k ⟨_, hx⟩ (exo_ok hx)
  have eu : upd H a (exo a C none) = H := by
    funext b
    by_cases hb : b = a
    · rw [hb, upd_same, e]
    · rw [upd_ne hb]
  rw [eu] at J
  exact J
def tBaseI (K : PySem.W.Frag) (newId : String) (bmB : List Value) (ta : TA) : TE := fun σ H Q => ta σ H fun vs H1 => ∃ (a C : Addr) (ws : List V), vs = .ref a :: ws ∧ ws.length ≤ 1000 ∧ OexG K C newId bmB ∧ H1 a = some (exo a C none) ∧ Q .non H1
def tLay (K : PySem.W.Frag) (newId : String) (bmB : List Value) (f : Str) (to te : TE) : TS := fun D σ H => te σ H fun y H1 => to σ H1 fun x H2 => ∃ a C : Addr, x = .ref a ∧ OexG K C newId bmB ∧ PySem.W.findIn K (.ref C) f = some none ∧ H2 a = some (exo a C none) ∧
  ∀ dx, H2 dx = none → dx ≠ a → D.nx σ (upd (upd H2 dx (exd dx [(f, y)])) a (exo a C (some dx)))
end
section
variable {X : Cx} {B newId initId : String} {bmB : List Value}
theorem pe_baseI {x : Str} {e : Expr} {es : List Expr} {ta : TA} {p1 p2 pos : Pos} {pl : Sem Bool} (F : ExcBaseFacts B newId initId bmB) (hg : Gl X x) (hm : X.mg x = none) (hv : bootBuiltins x = some (.type B)) (ht : typeOf (.type B) = pure (.type "type")) (vV : PySem.W.findCls X.K (.type B) (.type "type") "__init__" = some (.val (.builtin initId)))
    (hst : Manifest.isStub B = false) (hki : PySem.W.handedIn (.builtin initId) = true) (hxn : x ≠ "__name__") (hdb : (x == ("__debug__" : Str)) = false) (ha : PA X (e :: es) ta)
    (hc : eval (.Call (.Attribute (.Name x p1) "__init__" p2) (e :: es) [] pos) X.env = (do
      let ov ← eval (.Name x p1) X.env
      standAt p2.atName
      let (f, first) ← holding [ov] (getMethod ov "__init__" pl)
      callWith pos f first (backTo pos (starEach (e :: es) X.env)) (backToKw pos (keywordEach [] X.env))) := by rfl)
    (he : starEach (e :: es) X.env = (false, eval e X.env) :: starEach es X.env := by rfl) (hpl : (backTo pos (starEach es X.env)).any (·.1) = false := by rfl) :
    PE X (.Call (.Attribute (.Name x p1) "__init__" p2) (e :: es) [] pos) (tBaseI X.K newId bmB ta) := by
  refine ⟨fun pins s σ H Q I h => ?_⟩
  refine PySem.W.methodCall_KW (ld_blt I hg hm hv ?_ hxn hdb) hc
  obtain ⟨m, fr⟩ := I.fr
  refine PySem.W.method_type fr I.ok.mod.kin ht hst vV hki ?_
  show wpAny _ _ (callWith pos (Value.builtin initId) [] (backTo pos (starEach (e :: es) X.env)) []) _ _ _
  refine PyProof.Rows.callWith_method1 (thn (ha.run pos pins _ σ H _ (I.tok _) h) fun us s1 ⟨vs, H1, I1, r1, a, C, ws, ev, hl, T, ea, q⟩ => ?_) he hpl
  subst ev
  cases r1 with
  | @cons _ u0 _ ur ra rw' =>
    obtain rfl : u0 = Value.ref a := ra
    exact base_init F T I1 ea (by rw [← Paired.length rw', sizeLine_eq]; omega) fun s' J => ⟨.non, H1, J, rfl, q⟩
end
end Ev

set_option Elab.async false
set_option linter.all false
set_option maxRecDepth 100000
set_option maxHeartbeats 4000000
namespace Ev
open PySem PySem.Spec PyProof.Rows L2
section
variable {X : Cx} {B newId initId : String} {bmB : List Value}
theorem ps_lay {o e : Expr} {to te : TE} {f : Str} {p' pos : Pos} (SF : StoreFacts B bmB "object.__setattr__" "object") (ho : PE X o to) (he : PE X e te) (hs : swapsWith e (some (.Attribute o f p')) pos.line X.env = pure false := by rfl) : PS X (.Assign [.Attribute o f p'] e pos) (tLay X.K newId bmB f to te) := by
  refine ⟨fun pins s σ H D I h => ?_⟩
  refine plainObj_wpAny_Assign_Attribute (thn (he.run pins s σ H _ I h) fun v s1 ⟨y, H1, I1, r1, q1⟩ => thn (ho.run pins s1 σ H1 _ I1 q1) fun u s2 ⟨x, H2, I2, r2, a, C, ex, T, hno, ea, q⟩ => ?_) hs
  subst ex
  obtain rfl : u = Value.ref a := r2
  exact lay_first SF T I2 ea hno r1 fun dx s' n ne J => ⟨σ, _, J, q dx n ne⟩
theorem initG_read {K : PySem.W.Frag} {C : Addr} {z f : Str} {N : List Str} {vs : List V} {H : Hp} {Q : VK} {E : XK} (T : OexG K C newId bmB) (hf : PySem.W.findIn K (.ref C) f = some none) (h : spI C [f] vs H Q E) :
    tSeq (tDrop (tBaseI K newId bmB (tCons (tVar 0) (tCons (tC (.str z)) tNil)))) (tLay K newId bmB f (tVar 0) (tVar 1)) { nx := fun _ H' => Q .non H', rt := Q } (L2.start N vs) H := by
  obtain ⟨a, ys, rfl, hl, ha, q⟩ := h
  obtain ⟨y, rfl⟩ : ∃ y, ys = [y] := by
    match ys, hl with
    | [y], _ => exact ⟨y, rfl⟩
  refine ⟨.ref a, rfl, a, C, [.str z], rfl, by simp, T, ha, ?_⟩
  exact ⟨y, rfl, .ref a, rfl, a, C, rfl, T, hf, ha, fun dx h1 h2 => q dx h1 h2⟩
end
def KwOkM (nm q : Str) (st : Stmt) (ps ks : List Str) (perm : List Nat) : Prop := ∀ (kV doc pm : Value) (an : Option Addr) (cdv ct self : Value) (ws : List Value), ws.length = ks.length → bindArgs (PySem.W.fnOf nm q (defArgs st) (defBody st) (defScope st) .none kV doc pm an cdv ct) ⟨[self], ks.zip ws⟩ = pure (ps.zip (self :: permL perm ws))
structure InitG (P : Program) (w : World) (K : PySem.W.Frag) (mg : Str → Option Value) (base : Heap) (x q : Str) (st : Stmt) (C : Addr) (p0 : Str) (ns : List Str) : Prop where
  ex : ∃ (fI : Addr) (fd : FuncData) (newId : String) (bmB : List Value) (B initId : String), mg x = some (.ref C) ∧ OexG K C newId bmB ∧ ExcBaseFacts B newId initId bmB ∧ PySem.W.findIn K (.ref C) "__init__" = some (some (.ref fI)) ∧ PySem.W.typeIn K (.ref fI) = some (.type "function") ∧ Binds K fd (p0 :: ns) [] ∧
    FnOk P w K mg base (L2.CX P w) 1 fI fd (p0 :: ns) (spI C ns) ∧ ∀ ks perm, KwOkM "__init__" q st (p0 :: ns) ks perm → ∀ (sh : Shared) (self : Value) (ws : List Value), ws.length = ks.length → BindsTo sh fd ⟨[self], ks.zip ws⟩ ((p0 :: ns).zip (self :: permL perm ws))
section
variable {X : Cx} {pins : List (Addr × Obj)} {σ : L2.St}
/-- the made exception is held from now on -/
theorem held_end {H1 H2 : Hp} {hp hp2 h2 : Heap} {g1 g2 : Array GenState} {d1 d2 : Drawn} {t1 t2 : Nat} {os1 os2 : OsState} {a C d : Addr} {fs : List (Str × V)} (I1 : Inv X pins σ H1 ⟨hp, g1, d1, t1, os1⟩)
    (ha : hp.objs.size ≤ a) (k : ∀ b o, hp.get? b = some o → hp2.get? b = some o) (un : Un (frs X.stack) [] (upd H1 a (exo a C none)) H2 hp2 h2) (hok : HOk X.prog X.w H2 h2) (ho : os2 = os1) (hb : AllBare g2)
    (ea : H2 a = some (exo a C (some d))) (ed : H2 d = some (exd d fs)) (hd1 : H1 d = none) : Inv X pins σ (upd (upd H2 a (exv C d a)) d (.xd fs)) ⟨h2, g2, d2, t2, os2⟩ := by
  obtain ⟨t0, hoe⟩ := exo_at hok ea
  obtain ⟨mA, hns, rel⟩ := exd_at hok ed
  have hn : H1 a = none := I1.hok.fresh ha
  have hda : d ≠ a := fun z => by
    obtain ⟨o, es, ep, e1, e2, _⟩ := hns
    rw [z, hoe] at e1
    have z2 := Option.some.inj e1
    subst z2
    cases e2
  have nha : ∀ {b : Addr} {o : Obj}, hp.get? b = some o → b ≠ a := fun {b o} z => Nat.ne_of_lt (Nat.lt_of_lt_of_le (Heap.lt_size z) ha)
  have up : ∀ {b : Addr}, b ≠ a → H1 b = none → upd H1 a (exo a C none) b = none := fun {b} hb n => by rw [upd_ne hb]; exact n
  have nd : ∀ {b : Addr} {o : Obj}, hp.get? b = some o → H1 b = none → b ≠ d := fun {b o} z n e => by
    have y := un.free b o (k b o z) (up (nha z) n) (by simp)
    rw [e, ed] at y
    cases y
  have at' : ∀ {b : Addr}, b ≠ a → b ≠ d → upd (upd H2 a (exv C d a)) d (.xd fs) b = H2 b := fun {b} h1 h2 => by rw [upd_ne h2, upd_ne h1]
  have U : Un (frs X.stack) [] H1 (upd (upd H2 a (exv C d a)) d (.xd fs)) hp h2 := {
    keep := fun b o z n hf hx => un.keep b o (k b o z) (up (nha z) n) hf hx
    slot := fun b o z n hf hx => un.slot b o (k b o z) (up (nha z) n) hf hx
    free := fun b o z n hx => by
      rw [at' (nha z) (nd z n)]
      exact un.free b o (k b o z) (up (nha z) n) hx
    there := fun b o z hx => un.there b o (k b o z) hx
    tups := fun b xs z => by
      rw [at' (ne_of_none z hn) (ne_of_none z hd1)]
      exact un.tups b xs (by rw [upd_ne (ne_of_none z hn)]; exact z)
    frzs := fun b o v z => by
      rw [at' (ne_of_none z hn) (ne_of_none z hd1)]
      exact un.frzs b o v (by rw [upd_ne (ne_of_none z hn)]; exact z)
    tbls := fun b ps z => by
      rw [at' (ne_of_none z hn) (ne_of_none z hd1)]
      exact un.tbls b ps (by rw [upd_ne (ne_of_none z hn)]; exact z) }
  refine I1.call' (ch := []) ho U (fun b o z => ?_) hb (fun b z => absurd z (by simp))
  by_cases hbd : b = d
  · subst hbd
    rw [upd_same] at z
    cases z
    exact ⟨mA, hns, rel⟩
  · rw [upd_ne hbd] at z
    by_cases hba : b = a
    · subst hba
      rw [upd_same] at z
      cases z
      exact exv_ok hoe rfl rfl rfl
    · rw [upd_ne hba] at z
      exact (hok b o z).stay (fun c v _ y => y) (fun c hc => by rw [at' (at_ne ea hc exo_own) (at_ne ed hc exd_own)]; exact hc) (fun c xs hc => by rw [at' (at_ne ea hc exo_tup) (at_ne ed hc exd_tup)]; exact hc)
def tMkV (C : Addr) (ns : List Str) (perm : Option (List Nat)) (ta : TA) : TE := fun σ H Q => ta σ H fun ws H1 => ws.length = ns.length ∧ ns.length ≤ 10 ∧ ∀ a d, H1 a = none → H1 d = none → d ≠ a → Q (.ref a) (upd (upd H1 a (exv C d a)) d (.xd (ns.zip (match perm with | none => ws | some p => permL p ws)).reverse))
theorem spI_mk {C a : Addr} {ns : List Str} {vs : List V} {H1 : Hp} {Q : VK} (hl : vs.length = ns.length) (hn : H1 a = none) (q : ∀ d, H1 d = none → d ≠ a → Q (.ref a) (upd (upd H1 a (exv C d a)) d (.xd (ns.zip vs).reverse))) :
    spI C ns (.ref a :: vs) (upd H1 a (exo a C none)) (fun v H2 => v = .non ∧ ∃ (d : Addr) (fs : List (Str × V)), H2 a = some (exo a C (some d)) ∧ H2 d = some (exd d fs) ∧ H1 d = none ∧ Q (.ref a) (upd (upd H2 a (exv C d a)) d (.xd fs))) (fun _ _ _ => False) := by
  refine ⟨a, vs, rfl, hl, upd_same, fun dx h1 h2 => ⟨rfl, dx, (ns.zip vs).reverse, upd_same, by rw [upd_ne h2, upd_same], by rw [upd_ne h2] at h1; exact h1, ?_⟩⟩
  have hd : H1 dx = none := by rw [upd_ne h2] at h1; exact h1
  have e : upd (upd (upd (upd (upd H1 a (exo a C none)) dx (exd dx (ns.zip vs).reverse)) a (exo a C (some dx))) a (exv C dx a)) dx (.xd (ns.zip vs).reverse) = upd (upd H1 a (exv C dx a)) dx (.xd (ns.zip vs).reverse) := by
    funext b
    by_cases h3 : b = dx
    · subst h3; rw [upd_same, upd_same]
    · rw [upd_ne h3, upd_ne h3]
      by_cases h4 : b = a
      · subst h4; rw [upd_same, upd_same]
      · rw [upd_ne h4, upd_ne h4, upd_ne h3, upd_ne h4, upd_ne h4]
  show Q (.ref a) _
  rw [e]
  exact q dx hd h2
/-- C(e, ..) -/
theorem pe_mkV {k : Nat} {x q p0 : Str} {st : Stmt} {C : Addr} {ns : List Str} {e : Expr} {es : List Expr} {ta : TA} {p pos : Pos} (G : InitG X.prog X.w X.K X.mg X.base x q st C p0 ns) (hr : Room (k + 2) X.A) (hg : Gl X x) (ha : PA X (e :: es) ta)
    (hdb : (x == ("__debug__" : Str)) = false := by decide) (he : starEach (e :: es) X.env = (false, eval e X.env) :: starEach es X.env := by rfl) (hpl : (backTo pos (starEach es X.env)).any (·.1) = false := by rfl) :
    PE X (.Call (.Name x p) (e :: es) [] pos) (tMkV C ns none ta) := by
  obtain ⟨fI, fd, newId, bmB, B, initId, hm, T, F, iC, tI, hb, F1, _⟩ := G.ex
  refine ⟨fun pins s σ H Q I h => ?_⟩
  refine wpAny_Call_Name_kw (ld_glob I hg hm ?_ hdb)
  refine PySem.W.callWith_K (h₀ := X.base) I.ok.mod.kin T.kC (thn (ha.run pos pins s σ H _ I h) fun us s1 ⟨vs, H1, I1, r1, hl, hz, q1⟩ => ⟨I1.kIn, ?_⟩) he hpl
  show wpAny _ _ (call (.ref C) us) _ _ _
  obtain ⟨nm, N, qn, bs, bm, hdct, sn, sub, ab, col, dd, k0, k1, k2, k3, k5, hC, hT⟩ := PySem.W.excInit_of I1.kIn T.ini
  obtain ⟨hp, g, dr, tk, os⟩ := s1
  have hsz : hp.objs.size ≤ hp.objs.size + 1 := Nat.le_succ _
  have hn : H1 (hp.objs.size + 1) = none := I1.hok.fresh hsz
  have hq := spI_mk (Q := Q) hl hn fun d h1 h2 => q1 (hp.objs.size + 1) d hn h1 h2
  have kk : ∀ b o, hp.get? b = some o → ((hp.push (PySem.W.kdv_tup us)).push (PySem.HandSPX.excO C hp.objs.size)).get? b = some o := fun b o e => Heap.get?_push_of_some _ (Heap.get?_push_of_some _ e)
  have hget : ((hp.push (PySem.W.kdv_tup us)).push (PySem.HandSPX.excO C hp.objs.size)).get? (hp.objs.size + 1) = some (PySem.HandSPX.excO C hp.objs.size) := by heap_get
  have I2 : Inv X pins σ (upd H1 (hp.objs.size + 1) (exo (hp.objs.size + 1) C none)) ⟨(hp.push (PySem.W.kdv_tup us)).push (PySem.HandSPX.excO C hp.objs.size), g, dr, tk, os⟩ :=
    I1.laid (t' := tk) (a := hp.objs.size + 1) (o := exo (hp.objs.size + 1) C none) (h' := (hp.push (PySem.W.kdv_tup us)).push (PySem.HandSPX.excO C hp.objs.size)) kk hsz (exo_ok hget)
  have lus : us.length = ns.length := r1.length.symm.trans hl
  have r2 : Vals (V.ref (hp.objs.size + 1) :: vs) (Value.ref (hp.objs.size + 1) :: us) := .cons rfl r1
  have b2 := hb ⟨(hp.push (PySem.W.kdv_tup us)).push (PySem.HandSPX.excO C hp.objs.size), g, dr, tk, os⟩ (Value.ref (hp.objs.size + 1) :: us) I2.kIn (by simp [lus])
  rw [List.append_nil] at b2
  refine wpAny_call (PySem.HandSPX.call_own F hT hC (PySem.W.looks_findIn I1.kIn iC) (fun self => PySem.W.bind_fn I1.kIn self tI) (by rw [lus, sizeLine_eq]; omega)
    (codeAny_mono (F1.run _ X.stack _ _ ⟨Value.ref (hp.objs.size + 1) :: us, []⟩ _ _ _ (fun _ _ _ => False) ((hr.mono (by omega) : Room (1 + 1) X.A).make C us []) (I2.env0.make C us []) b2 r2 hq) fun r s' hq' => ?_))
  cases r with
  | error er =>
    obtain ⟨_, _, _, _, _, _, _, _, _, _, _, _, z⟩ := hq'
    exact z.elim
  | ok fl =>
    cases fl with
    | ret u =>
      obtain ⟨v, H2, os2, bare2, un2, hok2, rv, ev, d, fs, ea, ed, hd1, q2⟩ := hq'
      subst ev
      obtain ⟨h2, g2, d2, t2, os'⟩ := s'
      exact ⟨rv, .ref _, _, held_end I1 hsz kk un2 hok2 os2 bare2 ea ed hd1, rfl, q2⟩
    | next => exact False.elim hq'
    | brk => exact False.elim hq'
    | cont => exact False.elim hq'
/-- C(x=e, ..) -/
theorem pe_mkK {k : Nat} {x q p0 : Str} {st : Stmt} {C : Addr} {ns ks : List Str} {perm : List Nat} {kws : List Keyword} {ta : TA} {p pos : Pos} (G : InitG X.prog X.w X.K X.mg X.base x q st C p0 ns) (hkw : KwOkM "__init__" q st (p0 :: ns) ks perm) (hkn : ks.length = ns.length) (hr : Room (k + 2) X.A) (hg : Gl X x) (ha : PK X kws ta)
    (hdb : (x == ("__debug__" : Str)) = false := by decide)
    (hall : (backToKw pos (keywordEach kws X.env)).all (·.1.isSome) = true := by rfl) (hks : (backToKw pos (keywordEach kws X.env)).filterMap (·.1) = ks := by rfl)
    (hpl : ((backTo pos (starEach [] X.env)).any (·.1) || (backToKw pos (keywordEach kws X.env)).any (·.1.isNone)) = false := by rfl) :
    PE X (.Call (.Name x p) [] kws pos) (fun σ H Q => ta σ H fun ws H1 => (permL perm ws).length = ns.length ∧ ws.length = ns.length ∧ ns.length ≤ 10 ∧ ∀ a d, H1 a = none → H1 d = none → d ≠ a → Q (.ref a) (upd (upd H1 a (exv C d a)) d (.xd (ns.zip (permL perm ws)).reverse))) := by
  obtain ⟨fI, fd, newId, bmB, B, initId, hm, T, F, iC, tI, _, F1, hb⟩ := G.ex
  refine ⟨fun pins s σ H Q I h => ?_⟩
  refine wpAny_Call_Name_kw (ld_glob I hg hm ?_ hdb)
  refine PySem.W.callWith_KW0 (h₀ := X.base) I.ok.mod.kin T.kC hall ?_ hpl
  refine thn (ha.run pos pins s σ H _ I h) fun us s1 ⟨vs, H1, I1, r1, hpn, hl, hz, q1⟩ => ⟨I1.kIn, ?_⟩
  rw [hks]
  show wpAny _ _ (call (.ref C) [] (ks.zip us)) _ _ _
  obtain ⟨nm, N, qn, bs, bm, hdct, sn, sub, ab, col, dd, k0, k1, k2, k3, k5, hC, hT⟩ := PySem.W.excInit_of I1.kIn T.ini
  obtain ⟨hp, g, dr, tk, os⟩ := s1
  have hsz : hp.objs.size ≤ hp.objs.size + 1 := Nat.le_succ _
  have hn : H1 (hp.objs.size + 1) = none := I1.hok.fresh hsz
  have hq := spI_mk (Q := Q) hpn hn fun d h1 h2 => q1 (hp.objs.size + 1) d hn h1 h2
  have kk : ∀ b o, hp.get? b = some o → ((hp.push (PySem.W.kdv_tup [])).push (PySem.HandSPX.excO C hp.objs.size)).get? b = some o := fun b o e => Heap.get?_push_of_some _ (Heap.get?_push_of_some _ e)
  have hget : ((hp.push (PySem.W.kdv_tup [])).push (PySem.HandSPX.excO C hp.objs.size)).get? (hp.objs.size + 1) = some (PySem.HandSPX.excO C hp.objs.size) := by heap_get
  have I2 : Inv X pins σ (upd H1 (hp.objs.size + 1) (exo (hp.objs.size + 1) C none)) ⟨(hp.push (PySem.W.kdv_tup [])).push (PySem.HandSPX.excO C hp.objs.size), g, dr, tk, os⟩ :=
    I1.laid (t' := tk) (a := hp.objs.size + 1) (o := exo (hp.objs.size + 1) C none) (h' := (hp.push (PySem.W.kdv_tup [])).push (PySem.HandSPX.excO C hp.objs.size)) kk hsz (exo_ok hget)
  have lus : us.length = ks.length := (r1.length.symm.trans hl).trans hkn.symm
  have r2 : Vals (V.ref (hp.objs.size + 1) :: permL perm vs) (Value.ref (hp.objs.size + 1) :: permL perm us) := .cons rfl (permL_paired r1 perm)
  have b2 := hb ks perm hkw ⟨(hp.push (PySem.W.kdv_tup [])).push (PySem.HandSPX.excO C hp.objs.size), g, dr, tk, os⟩ (Value.ref (hp.objs.size + 1)) us lus
  refine wpAny_call (mk_call F hT hC (PySem.W.looks_findIn I1.kIn iC) (fun self => PySem.W.bind_fn I1.kIn self tI)
    (codeAny_mono (F1.run _ X.stack _ _ ⟨[Value.ref (hp.objs.size + 1)], ks.zip us⟩ _ _ _ (fun _ _ _ => False) ((hr.mono (by omega) : Room (1 + 1) X.A).make C [] (ks.zip us)) (I2.env0.make C [] (ks.zip us)) b2 r2 hq) fun r s' hq' => ?_))
  cases r with
  | error er =>
    obtain ⟨_, _, _, _, _, _, _, _, _, _, _, _, z⟩ := hq'
    exact z.elim
  | ok fl =>
    cases fl with
    | ret u =>
      obtain ⟨v, H2, os2, bare2, un2, hok2, rv, ev, d, fs, ea, ed, hd1, q2⟩ := hq'
      subst ev
      obtain ⟨h2, g2, d2, t2, os'⟩ := s'
      exact ⟨rv, .ref _, _, held_end I1 hsz kk un2 hok2 os2 bare2 ea ed hd1, rfl, q2⟩
    | next => exact False.elim hq'
    | brk => exact False.elim hq'
    | cont => exact False.elim hq'
end
section
variable {X : Cx} {T : Tab} {W : WX}
def eMk (c : Nat) (ns : List Str) (a : EA) : E := fun ρ st => bindR (a ρ st) fun vs st1 => if vs.length = ns.length then .ok (.exc c ns.reverse vs.reverse) st1 else .bad
def eMkK (c : Nat) (ns : List Str) (perm : List Nat) (a : EA) : E := fun ρ st => bindR (a ρ st) fun vs st1 => if vs.length = ns.length ∧ (permL perm vs).length = ns.length then .ok (.exc c ns.reverse (permL perm vs).reverse) st1 else .bad
theorem made_rel {φ : Phi} {st : Sto} {H : Hp} {σ : L2.St} {Q : VK} {c : Nat} {ns : List Str} {vs : List Val} {us : List V} {a d : Addr} (R : Rst T φ st H) (r : RelVs T φ H vs us) (hl : vs.length = ns.length) (p : Post T (RelV T) W φ σ H Q (.ok (.exc c ns.reverse vs.reverse) st)) (ha : H a = none) (hd : H d = none) (hda : d ≠ a) :
    Q (.ref a) (upd (upd H a (exv (T.ca c) d a)) d (.xd (ns.zip us).reverse)) := by
  have e1 := Ext.fresh (ho := exv (T.ca c) d a) R ha
  have R1 := R.fresh (ho := exv (T.ca c) d a) ha
  have hd1 : upd H a (exv (T.ca c) d a) d = none := by rw [upd_ne hda]; exact hd
  have e2 := Ext.fresh (ho := .xd (ns.zip us).reverse) R1 hd1
  have R2 := R1.fresh (ho := .xd (ns.zip us).reverse) hd1
  have hl2 : ns.length = us.length := by rw [← r.length]; exact hl.symm
  have ez : (ns.zip us).reverse = ns.reverse.zip us.reverse := by
    rw [List.zip_eq_zipWith, List.zip_eq_zipWith, List.reverse_zipWith hl2]
  refine p φ _ _ (e1.trans e2) R2 (.exc (R.nolive ha) (R.nolive hd) (.inl ?_) (.inl ?_) (by rw [List.length_reverse, List.length_reverse]; exact hl2) ((RelVs.reverse r).ext (e1.trans e2)))
  · rw [upd_ne (Ne.symm hda), upd_same]
  · rw [upd_same, ez]
theorem e_mk {k c : Nat} {x q p0 : Str} {st : Stmt} {ns : List Str} {e : Expr} {es : List Expr} {as : EA} {p pos : Pos} (G : InitG X.prog X.w X.K X.mg X.base x q st (T.ca c) p0 ns) (hn : ns.length ≤ 10) (hr : Room (k + 2) X.A) (ha : PA X (e :: es) (tA T W as)) (hg : Gl X x := by rfl)
    (hdb : (x == ("__debug__" : Str)) = false := by decide) (he : starEach (e :: es) X.env = (false, eval e X.env) :: starEach es X.env := by rfl) (hpl : (backTo pos (starEach es X.env)).any (·.1) = false := by rfl) :
    PE X (.Call (.Name x p) (e :: es) [] pos) (tE T W (eMk c ns as)) := by
  refine pe_imp (pe_mkV G hr hg ha hdb he hpl) fun σ H Q h => ?_
  unfold tMkV
  refine tG_bind h fun vs ρ st1 φ1 H1 us re1 q1 p1 => ?_
  split at p1
  · rename_i hl
    exact ⟨q1.length.symm.trans hl, hn, fun a d h1 h2 h3 => made_rel re1.rst q1 hl p1 h1 h2 h3⟩
  · exact p1.elim
theorem e_mkK {k c : Nat} {x q p0 : Str} {st : Stmt} {ns ks : List Str} {perm : List Nat} {kws : List Keyword} {as : EA} {p pos : Pos} (G : InitG X.prog X.w X.K X.mg X.base x q st (T.ca c) p0 ns) (hkw : KwOkM "__init__" q st (p0 :: ns) ks perm) (hn : ns.length ≤ 10) (hr : Room (k + 2) X.A) (ha : PK X kws (tA T W as)) (hg : Gl X x := by rfl)
    (hkn : ks.length = ns.length := by rfl) (hdb : (x == ("__debug__" : Str)) = false := by decide)
    (hall : (backToKw pos (keywordEach kws X.env)).all (·.1.isSome) = true := by rfl) (hks : (backToKw pos (keywordEach kws X.env)).filterMap (·.1) = ks := by rfl)
    (hpl : ((backTo pos (starEach [] X.env)).any (·.1) || (backToKw pos (keywordEach kws X.env)).any (·.1.isNone)) = false := by rfl) :
    PE X (.Call (.Name x p) [] kws pos) (tE T W (eMkK c ns perm as)) := by
  refine pe_imp (pe_mkK G hkw hkn hr hg ha hdb hall hks hpl) fun σ H Q h => ?_
  refine tG_bind h fun vs ρ st1 φ1 H1 us re1 q1 p1 => ?_
  split at p1
  · rename_i hl
    have q2 := relVs_of (permL_paired (relVs_paired q1) perm)
    exact ⟨q2.length.symm.trans hl.2, q1.length.symm.trans hl.1, hn, fun a d h1 h2 h3 => made_rel re1.rst q2 hl.2 p1 h1 h2 h3⟩
  · exact p1.elim
end
end Ev

set_option Elab.async false
set_option linter.all false
set_option maxRecDepth 100000
set_option maxHeartbeats 4000000
namespace Ev
open PySem PySem.Spec PyProof.Rows L2
mutual
inductive Dq (K : PySem.W.Frag) (H : Hp) : V → PyData → Prop
  | non : Dq K H .non .none
  | bl (b : Bool) : Dq K H (.bl b) (.bool b)
  | int (i : Int) : Dq K H (.int i) (.int i)
  | str (x : Str) : Dq K H (.str x) (.str x)
  | lst {a : Addr} {xs : List V} {ds : List PyData} : SqL K H a xs → Dqs K H xs ds → Dq K H (.ref a) (.list ds)
  | tup {a : Addr} {xs : List V} {ds : List PyData} : SqT K H a xs → Dqs K H xs ds → Dq K H (.ref a) (.tuple ds)
  | dct {a : Addr} : Rd H a (.dK []) → Dq K H (.ref a) (.dict [])
inductive Dqs (K : PySem.W.Frag) (H : Hp) : List V → List PyData → Prop
  | nil : Dqs K H [] []
  | cons {v : V} {vs : List V} {d : PyData} {ds : List PyData} : Dq K H v d → Dqs K H vs ds → Dqs K H (v :: vs) (d :: ds)
end
/-- the system's table of modules is a dict of the written part -/
def ModsK (K : PySem.W.Frag) : Prop := ∃ o, K.lookup sysModules = some o ∧ o.cls = .type "dict"
def modsB (K : PySem.W.Frag) : Bool := match K.lookup sysModules with
  | some o => o.cls == .type "dict"
  | none => false
theorem modsK_of {K : PySem.W.Frag} (h : modsB K = true) : ModsK K := by
  unfold modsB at h
  split at h
  · rename_i o e
    exact ⟨o, e, eq_of_beq h⟩
  · cases h
section
variable {X : Cx} {pins : List (Addr × Obj)} {σ : L2.St} {H : Hp} {s : Shared}
mutual
theorem Dq.reads (M : ModsK X.K) (I : Inv X pins σ H s) : ∀ (d : PyData) (v : V) (u : Value), Dq X.K H v d → L2.RelV v u → ∃ as, Reads s.heap u d as ∧ sysModules ∉ as
  | .none, _, _, h, r => by cases h; cases r; exact ⟨_, Reads.none, by simp⟩
  | .bool b, _, _, h, r => by cases h; cases r; exact ⟨_, Reads.bool b, by simp⟩
  | .int i, _, _, h, r => by cases h; obtain ⟨t, rfl⟩ := r; exact ⟨_, Reads.int i t, by simp⟩
  | .str x, _, _, h, r => by cases h; obtain ⟨t, rfl⟩ := r; exact ⟨_, Reads.str x t, by simp⟩
  | .list ds, _, _, h, r => by
    cases h with
    | lst hs ha =>
      cases r
      obtain ⟨its, rv, ⟨o, n, ho, hc, _, hd⟩, _⟩ := I.list hs
      obtain ⟨as, hr, hn⟩ := Dqs.reads M I ds _ its ha rv
      refine ⟨_, Reads.list ho hc hd hr, fun z => ?_⟩
      rcases List.mem_cons.mp z with z | z
      · obtain ⟨om, hm, hmc⟩ := M
        have e := I.kIn _ _ hm
        rw [z, ho] at e
        cases e
        rw [hc] at hmc
        exact absurd (Value.type.inj hmc) (by decide)
      · exact hn z
  | .tuple ds, _, _, h, r => by
    cases h with
    | tup hs ha =>
      cases r
      obtain ⟨its, rv, ⟨o, ho, hc, n, hd⟩, _⟩ := I.tuple hs
      obtain ⟨as, hr, hn⟩ := Dqs.reads M I ds _ its ha rv
      exact ⟨_, Reads.tuple ho hc hd hr, hn⟩
  | .dict kvs, _, _, h, r => by
    cases h with
    | dct hd =>
      cases r
      obtain ⟨_, hb, vs, rel, o, es, ep, ho, hx, hdat, _, hp, _⟩ := dk_rd I.hok hd
      cases rel
      have he : es.toList = [] := List.eq_nil_of_length_eq_zero (by have := hp.length; simpa using this)
      have r1 : ReadsAll s.heap (es.toList.map (·.key)) (([] : List (PyData × PyData)).map (·.1)) [] := by rw [he]; exact .nil
      have r2 : ReadsAll s.heap (es.toList.map (·.val)) (([] : List (PyData × PyData)).map (·.2)) [] := by rw [he]; exact .nil
      refine ⟨_, Reads.dict ho hx.1 hdat r1 r2, fun z => ?_⟩
      simp only [List.append_nil, List.mem_singleton] at z
      rw [← z] at hb
      simp at hb
theorem Dqs.reads (M : ModsK X.K) (I : Inv X pins σ H s) : ∀ (ds : List PyData) (vs : List V) (us : List Value), Dqs X.K H vs ds → Vals vs us → ∃ as, ReadsAll s.heap us ds as ∧ sysModules ∉ as
  | [], _, _, h, r => by cases h; cases r; exact ⟨_, ReadsAll.nil, by simp⟩
  | d :: ds, _, _, h, r => by
    cases h with
    | cons h1 h2 =>
      cases r with
      | cons r1 r2 =>
        obtain ⟨as, q1, n1⟩ := Dq.reads M I d _ _ h1 r1
        obtain ⟨bs, q2, n2⟩ := Dqs.reads M I ds _ _ h2 r2
        exact ⟨_, ReadsAll.cons q1 q2, fun z => (List.mem_append.mp z).elim n1 n2⟩
end
def rReprQ (K : PySem.W.Frag) : List V → Hp → VK → Prop := fun xs H Q => ∃ a d, xs = [.ref a] ∧ Dq K H (.ref a) d ∧ PyData.showable d = true ∧ d.depth ≤ 60 ∧ d.shown.length ≤ sizeLine ∧ Q (.str d.shown) H
theorem call_reprQ (M : ModsK X.K) (hgd : X.A.guards = some []) (hu : X.A.units + 65 < cLine) : CallR X (.builtin "repr") (rReprQ X.K) := by
  intro pins s σ H xs us Q I r h
  obtain ⟨a, d, rfl, hd, h1, h3, h4, q⟩ := h
  obtain ⟨u, rfl, rx⟩ := vals1 r
  obtain ⟨as, rd, nm⟩ := Dq.reads M I d _ u hd rx
  obtain rfl : u = Value.ref a := rx
  exact repr_of_reads' rd h1 (fun _ => nm) hgd (by omega) (fun b o e => e) (fun h' u tk k => ⟨.str _, H, I.kept k, ⟨_, rfl⟩, q⟩) h4
end
mutual
def toF : Val → Option PyData
  | .non => some .none
  | .bl b => some (.bool b)
  | .int i => some (.int i)
  | .str z => some (.str z)
  | .tup xs => (toFs xs).map .tuple
  | .lst xs => (toFs xs).map .list
  | .dct [] [] => some (.dict [])
  | _ => none
def toFs : List Val → Option (List PyData)
  | [] => some []
  | x :: xs => match toF x, toFs xs with
    | some d, some ds => some (d :: ds)
    | _, _ => none
end
section
variable {T : Tab} {φ : Phi} {H : Hp}
mutual
theorem rel_dq : ∀ {v : Val} {x : V} {d : PyData}, RelV T φ H v x → toF v = some d → Dq T.K H x d
  | _, _, _, .non, h => by cases h; exact .non
  | _, _, _, .bl b, h => by cases h; exact .bl b
  | _, _, _, .int i, h => by cases h; exact .int i
  | _, _, _, .str s, h => by cases h; exact .str s
  | _, _, _, .tup e r, h => by
    simp only [toF, Option.map_eq_some_iff] at h
    obtain ⟨ds, h1, rfl⟩ := h
    exact .tup (SqT.of e) (rels_dq r h1)
  | _, _, _, .lst e r, h => by
    simp only [toF, Option.map_eq_some_iff] at h
    obtain ⟨ds, h1, rfl⟩ := h
    exact .lst (sqL_of e) (rels_dq r h1)
  | .dct ks vs, _, d, .dct n e l r, h => by
    cases ks with
    | nil =>
      cases vs with
      | nil => cases h; exact .dct e
      | cons => simp [toF] at h
    | cons => simp [toF] at h
  | _, _, _, .loc _ _, h => by simp [toF] at h
  | _, _, _, .exc _ _ _ _ _ _, h => by simp [toF] at h
theorem rels_dq : ∀ {vs : List Val} {xs : List V} {ds : List PyData}, RelVs T φ H vs xs → toFs vs = some ds → Dqs T.K H xs ds
  | _, _, _, .nil, h => by cases h; exact .nil
  | x :: xs, _, ds, .cons a b, h => by
    unfold toFs at h
    split at h
    · rename_i d ds' h1 h2
      cases h
      exact .cons (rel_dq a h1) (rels_dq b h2)
    · cases h
end
def reprOkQ (d : PyData) : Bool := PyData.showable d && decide (d.depth ≤ 60) && decide (d.shown.length ≤ sizeLine)
def fReprQ (_ : Sto) (vs : List Val) : Option Val := match vs with
  | [.tup xs] => match toF (.tup xs) with
    | some d => if reprOkQ d = true then some (.str d.shown) else none
    | none => none
  | [.lst xs] => match toF (.lst xs) with
    | some d => if reprOkQ d = true then some (.str d.shown) else none
    | none => none
  | _ => none
theorem snd_reprQ : SndC T (rReprQ T.K) fReprQ := by
  intro φ st H vs us z Q R r hf hq
  unfold fReprQ at hf
  split at hf
  · split at hf
    · rename_i d hd
      split at hf
      · rename_i hk
        cases hf
        unfold reprOkQ at hk
        simp only [Bool.and_eq_true, decide_eq_true_eq] at hk
        cases r with
        | cons a b =>
          cases b
          have dq := rel_dq a hd
          cases a with
          | tup e rr => exact ⟨_, d, rfl, dq, hk.1.1, hk.1.2, hk.2, hq H _ Ext.refl R (.str _)⟩
      · cases hf
    · cases hf
  · split at hf
    · rename_i d hd
      split at hf
      · rename_i hk
        cases hf
        unfold reprOkQ at hk
        simp only [Bool.and_eq_true, decide_eq_true_eq] at hk
        cases r with
        | cons a b =>
          cases b
          have dq := rel_dq a hd
          cases a with
          | lst e rr => exact ⟨_, d, rfl, dq, hk.1.1, hk.1.2, hk.2, hq H _ Ext.refl R (.str _)⟩
      · cases hf
    · cases hf
  · cases hf
end
def caN (cl : List Str) (K : PySem.W.Frag) (c : Nat) : Addr := He.ga K (cl.getD c "")
def fldB (cl : List Str) (nk : Nat) (n : Str) (K : PySem.W.Frag) : Bool := (List.range nk).all fun c => xfB K (caN cl K c) && decide (PySem.W.findIn K (.ref (caN cl K c)) n = some none)
theorem fldB_ok {cl : List Str} {nk : Nat} {n : Str} {K : PySem.W.Frag} (h : fldB cl nk n K = true) : ∀ c, c < nk → XfC K (caN cl K c) ∧ PySem.W.findIn K (.ref (caN cl K c)) n = some none := fun c hc => by
  have := List.all_eq_true.mp h c (List.mem_range.mpr hc)
  rw [Bool.and_eq_true, decide_eq_true_eq] at this
  exact ⟨xfB_ok this.1, this.2⟩
def excCB (K : PySem.W.Frag) (D : Addr) : Bool := decide (PySem.W.findIn K (.ref D) "__getattribute__" = some (some (.builtin "BaseException.__getattribute__"))) && decide (PySem.W.findIn K (.ref D) "__getattr__" = some none) && decide (PySem.W.subIn K (.ref D) (.type "BaseException") = some true) && PySem.W.hasDictIn K D
  && decide (PySem.W.findIn K (.ref D) "__class__" = some (some (.builtin "object.__class__"))) && decide (PySem.W.specialIn K (.builtin "object.__class__") "__get__" = some (some (.builtin "getset_descriptor.__get__"))) && decide (PySem.W.takesIn K (.builtin "object.__class__") = some true) && decide (PySem.W.mroIn K D (.type "object") = some true)
theorem excCB_ok {K : PySem.W.Frag} {D : Addr} (h : excCB K D = true) : ExcC K D := by
  unfold excCB at h
  simp only [Bool.and_eq_true, decide_eq_true_eq] at h
  obtain ⟨⟨⟨⟨⟨⟨⟨h1, h2⟩, h3⟩, h4⟩, h5⟩, h6⟩, h7⟩, h8⟩ := h
  exact ⟨h1, h2, h3, h4, h5, h6, h7, h8⟩
def clsB (cl : List Str) (nk : Nat) (K : PySem.W.Frag) : Bool := (List.range nk).all fun c => excCB K (caN cl K c)
def isL (l : List Nat) (c : Nat) : Bool := l.contains c
def isB (cl : List Str) (nk : Nat) (l : List Nat) (v : PySem.W.Frag → Value) (K : PySem.W.Frag) : Bool := (List.range nk).all fun c => decide (PySem.W.kitOne K (.ref (caN cl K c)) (v K) = some (isL l c))
theorem isB_ok {cl : List Str} {nk : Nat} {l : List Nat} {v : PySem.W.Frag → Value} {K : PySem.W.Frag} (h1 : clsB cl nk K = true) (h : isB cl nk l v K = true) : ∀ c, c < nk → ExcC K (caN cl K c) ∧ PySem.W.kitOne K (.ref (caN cl K c)) (v K) = some (isL l c) := fun c hc =>
  ⟨excCB_ok (List.all_eq_true.mp h1 c (List.mem_range.mpr hc)), of_decide_eq_true (List.all_eq_true.mp h c (List.mem_range.mpr hc))⟩
section
variable {X : Cx} {T : Tab} {W : WX}
theorem call_heldT : CallR X (.builtin "isinstance") (fun xs H Q => ∃ (a C d : Addr) (n : String) (fs : List (Str × V)) (b : Bool), xs = [.ref a, .ty n] ∧ ExcC X.K C ∧ Rd H a (exv C d a) ∧ Rd H d (.xd fs) ∧ PySem.W.kitOne X.K (.ref C) (.type n) = some b ∧ Q (.bl b) H) := by
  intro pins s σ H xs us Q I r h
  obtain ⟨a, C, d, n, fs, b, rfl, c, h1, h2, e, q⟩ := h
  cases r with
  | cons rx rr =>
    cases rr with
    | cons rt rr =>
      cases rr
      cases rx
      cases rt
      obtain ⟨oe, od, mA, J, _⟩ := held_inst I h1 h2
      exact PySem.W.kia_one (exc_kit c) I.kIn ⟨oe, od, J⟩ e (fun z => nomatch z) fun tk => ⟨.bl b, H, I.kept (t' := tk) fun _ _ z => z, rfl, q⟩
theorem e_isXT {tbl : Nat → Bool} {nk : Nat} {n : String} {x : Str} {e : Expr} {ee : E} {p p2 pos : Pos} (hm : X.mg "isinstance" = none) (hmT : X.mg x = none) (hv : bootBuiltins x = some (.type n)) (hx : ∀ c, c < nk → ExcC X.K (T.ca c) ∧ PySem.W.kitOne X.K (.ref (T.ca c)) (.type n) = some (tbl c)) (ha : PE X e (tE T W ee))
    (hg : Gl X "isinstance" := by rfl) (hgT : Gl X x := by rfl) (hn : x ≠ "__name__" := by decide) (hdb : (x == ("__debug__" : Str)) = false := by decide)
    (he : starEach [e, .Name x p2] X.env = (false, eval e X.env) :: starEach [.Name x p2] X.env := by rfl) (he2 : starEach [.Name x p2] X.env = [(false, eval (.Name x p2) X.env)] := by rfl) (hpl : (backTo pos (starEach [.Name x p2] X.env)).any (·.1) = false := by rfl) :
    PE X (.Call (.Name "isinstance" p) [e, .Name x p2] [] pos) (tE T W (eIsX tbl nk ee)) := by
  refine pe_imp (pe_callB call_heldT hg hm (by decide +kernel) (pa_cons ha (pa_cons (pe_bltn (v := .ty n) hgT hmT hv rfl hn hdb) pa_nil he2) he) (by decide) (by decide) he hpl) fun σ H Q h => ?_
  refine tG_bind h fun v ρ st1 φ1 H1 u re1 q1 p1 => ?_
  cases q1 with
  | @exc c ns vs us a d n1 n2 h1 h2 l r =>
    dsimp only at p1
    split at p1
    · rename_i hc
      exact ⟨a, T.ca c, d, n, ns.zip us, tbl c, rfl, (hx c hc).1, h1, h2, (hx c hc).2, p1.ok_self re1.rst (.bl _)⟩
    · exact p1.elim
  | _ => exact p1.elim
end
end Ev
namespace Ev
open PySem PySem.Spec PyProof.Rows L2
abbrev bm_ValueError : List Value := [.type "ValueError", .type "Exception", .type "BaseException", .type "object"]
abbrev bm_OverflowError : List Value := [.type "OverflowError", .type "ArithmeticError", .type "Exception", .type "BaseException", .type "object"]
abbrev bm_RuntimeError : List Value := [.type "RuntimeError", .type "Exception", .type "BaseException", .type "object"]
/-- an __init__ of its own over a built-in base -/
def initB2 (K : PySem.W.Frag) (x : Str) (b : String) (fs : List Str) : Bool := decide (PySem.W.findIn K (.ref (He.ga K x)) "__init__" = some (some (.ref (He.fAd K (x, some "__init__"))))) && decide (PySem.W.typeIn K (.ref (He.fAd K (x, some "__init__"))) = some (.type "function"))
  && fs.all (fun f => decide (PySem.W.findIn K (.ref (He.ga K x)) f = some none)) && (match PySem.W.findCls K (.type b) (.type "type") "__init__" with
    | some (.val v) => v == .builtin (b ++ ".__init__")
    | _ => false)
structure InitF2 (K : PySem.W.Frag) (x : Str) (b : String) (fs : List Str) : Prop where
  fi : PySem.W.findIn K (.ref (He.ga K x)) "__init__" = some (some (.ref (He.fAd K (x, some "__init__"))))
  ty : PySem.W.typeIn K (.ref (He.fAd K (x, some "__init__"))) = some (.type "function")
  fs : ∀ f, f ∈ fs → PySem.W.findIn K (.ref (He.ga K x)) f = some none
  vi : PySem.W.findCls K (.type b) (.type "type") "__init__" = some (.val (.builtin (b ++ ".__init__")))
theorem initF2_of {K : PySem.W.Frag} {x : Str} {b : String} {fs : List Str} (h : initB2 K x b fs = true) : InitF2 K x b fs := by
  unfold initB2 at h
  simp only [Bool.and_eq_true, decide_eq_true_eq, List.all_eq_true] at h
  obtain ⟨⟨⟨h2, h3⟩, h4⟩, h7⟩ := h
  refine ⟨h2, h3, h4, ?_⟩
  split at h7
  · rename_i v hv
    rw [hv, eq_of_beq h7]
  · cases h7
section
variable {X : Cx} {T : Tab} {W : WX}
def eNewD : E := fun _ st => .ok (.dct [] []) st
theorem e_newD {pos : Pos} : PE X (.Dict [] [] pos) (tE T W eNewD) := by
  refine pe_imp pe_dnewK fun σ H Q h => ?_
  obtain ⟨φ, ρ, st, re, p⟩ := h
  intro a ha
  exact p φ _ _ (Ext.fresh (ho := .dK []) re.rst ha) (re.rst.fresh ha) (.dct (us := []) (re.rst.nolive ha) (.inl upd_same) rfl .nil)
end
end Ev

set_option Elab.async false
set_option linter.all false
set_option maxRecDepth 100000
set_option maxHeartbeats 2000000
namespace Gc
open PySem PySem.Spec PyProof.Rows L2 Ev
def b_is_integer : S := (sRet (eAnd (eIsi .int (eV 0)) (eNot (eIsi .bool (eV 0)))))
def m_is_integer : Fn := runF 1 b_is_integer
def b_is_whole : S := (sRet (eAnd (eCall 1 m_is_integer (eCons (eV 0) eNil)) (eChain fLe fLe (eV 1) (eV 0) (eV 2))))
def m_is_whole : Fn := runF 3 b_is_whole
def b_is_gate : S := (sSeq (sIf (eOrT (eNotT (eTest (eIsi .tuple (eV 1)))) (eTest (eB fNeA (eBf fLen (eCons (eV 1) eNil)) (eC (.int 2))))) (sRet (eC (.bl false))) sSkip)
  (sRet (eAnd (eBf fAll (eCons (eLc false [2] (itV (eV 1)) (gN 2) eYes (eCall 3 m_is_whole (eCons (eV 2) (eCons (eC (.int (-1))) (eCons (eB fSub (eV 0) (eC (.int 1))) eNil))))) eNil)) (eB fNeA (eB fIx (eV 1) (eC (.int 0))) (eB fIx (eV 1) (eC (.int 1)))))))
def m_is_gate : Fn := runF 3 b_is_gate
def b_need_house : S := (sSeq (sIf (eOrT (eNotT (eTest (eIsi .tuple (eV 0)))) (eTest (eB fNeA (eBf fLen (eCons (eV 0) eNil)) (eC (.int 2))))) (sRaise 1 ["part"] (eCons (eC (.str "form")) eNil)) sSkip)
  (sSeq (sAsg (gT 2 (gCons' (gN 1) (gCons' (gN 2) gNil'))) (eV 0))
  (sSeq (sIf (eNotT (eTest (eCall 3 m_is_whole (eCons (eV 1) (eCons (eC (.int 1)) (eCons (eC (.int (8))) eNil)))))) (sRaise 1 ["part"] (eCons (eC (.str "rooms")) eNil)) sSkip)
  (sSeq (sIf (eOrT (eNotT (eTest (eIsi .tuple (eV 2)))) (eOrT (eTest (eB fGt (eBf fLen (eCons (eV 2) eNil)) (eC (.int (16))))) (eNotT (eTest (eBf fAll (eCons (eLc false [3] (itV (eV 2)) (gN 3) eYes (eCall 2 m_is_gate (eCons (eV 1) (eCons (eV 3) eNil)))) eNil)))))) (sRaise 1 ["part"] (eCons (eC (.str "gates")) eNil)) sSkip)
  (sSeq (sIf (eNotT (eTest (eBf fAll (eCons (eLc false [4, 5] (itZip (eCons (eV 2) (eCons (eSl (eV 2) (oSome (eC (.int 1))) oNone) eNil))) (gT 2 (gCons' (gN 4) (gCons' (gN 5) gNil'))) eYes (eB fLtT (eV 4) (eV 5))) eNil)))) (sRaise 1 ["part"] (eCons (eC (.str "gates")) eNil)) sSkip)
  (sRet (eV 0)))))))
def m_need_house : Fn := runF 6 b_need_house
def b_numbers_fault : S := (sSeq (sIf (eOrT (eNotT (eTest (eIsi .tuple (eV 0)))) (eTest (eB fNeA (eBf fLen (eCons (eV 0) eNil)) (eV 1)))) (sRet (eLst (eCons (eC .non) eNil))) sSkip)
  (sSeq (sFor (itEnum (eCons (eV 0) eNil)) (gT 2 (gCons' (gN 2) (gCons' (gN 3) gNil'))) (sIf (eNotT (eTest (eCall 3 m_is_whole (eCons (eV 3) (eCons (eC (.int 0)) (eCons (eC (.int (1000000000000000000000000000000))) eNil)))))) (sRet (eLst (eCons (eV 2) eNil))) sSkip))
  (sRet (eLst eNil))))
def m_numbers_fault : Fn := runF 4 b_numbers_fault
def b_need_heads : S := (sSeq (sFor (itV (eCall 2 m_numbers_fault (eCons (eV 1) (eCons (eB fIx (eCall 1 m_need_house (eCons (eV 0) eNil)) (eC (.int 0))) eNil)))) (gN 2) (sRaise 2 ["number"] (eCons (eV 2) eNil)))
  (sRet (eV 1)))
def m_need_heads : Fn := runF 3 b_need_heads
def b_need_counts : S := (sSeq (sFor (itV (eCall 2 m_numbers_fault (eCons (eV 1) (eCons (eBf fLen (eCons (eB fIx (eCall 1 m_need_house (eCons (eV 0) eNil)) (eC (.int 1))) eNil)) eNil)))) (gN 2) (sRaise 3 ["number"] (eCons (eV 2) eNil)))
  (sRet (eV 1)))
def m_need_counts : Fn := runF 3 b_need_counts
def b_from_place : S := (sRet (eBf fSum (eCons (eLc false [3, 4] (itZip (eCons (eB fIx (eV 0) (eC (.int 1))) (eCons (eV 1) eNil))) (gT 2 (gCons' (gN 3) (gCons' (gN 4) gNil'))) (eTest (eB fEqA (eB fIx (eV 3) (eC (.int 0))) (eV 2))) (eV 4)) eNil)))
def m_from_place : Fn := runF 5 b_from_place
def b_to_place : S := (sRet (eBf fSum (eCons (eLc false [3, 4] (itZip (eCons (eB fIx (eV 0) (eC (.int 1))) (eCons (eV 1) eNil))) (gT 2 (gCons' (gN 3) (gCons' (gN 4) gNil'))) (eTest (eB fEqA (eB fIx (eV 3) (eC (.int 1))) (eV 2))) (eV 4)) eNil)))
def m_to_place : Fn := runF 5 b_to_place
def b_balances_of : S := (sSeq (sSet 3 (eNew eNil))
  (sSeq (sFor (itEnum (eCons (eV 1) eNil)) (gT 2 (gCons' (gN 4) (gCons' (gN 5) gNil'))) (sExpr (eLm fAppend (eV 3) (eCons (eB fSub (eB fAdd (eV 5) (eCall 3 m_to_place (eCons (eV 0) (eCons (eV 2) (eCons (eV 4) eNil))))) (eCall 3 m_from_place (eCons (eV 0) (eCons (eV 2) (eCons (eV 4) eNil))))) eNil))))
  (sRet (eBf fTuple (eCons (eV 3) eNil)))))
def m_balances_of : Fn := runF 6 b_balances_of
def b_balances : S := (sSeq (sExpr (eCall 2 m_need_heads (eCons (eV 0) (eCons (eV 1) eNil))))
  (sRet (eCall 3 m_balances_of (eCons (eV 0) (eCons (eV 1) (eCons (eCall 2 m_need_counts (eCons (eV 0) (eCons (eV 2) eNil))) eNil))))))
def m_balances : Fn := runF 3 b_balances
def b_parts_of : S := (sSeq (sSet 2 (eLst eNil))
  (sSeq (sFor (itZip (eCons (eB fIx (eV 0) (eC (.int 1))) (eCons (eV 1) eNil))) (gT 2 (gCons' (gN 3) (gCons' (gN 4) gNil'))) (sIf (eTest (eB fGt (eV 4) (eC (.int 0)))) (sSeq (sSet 5 (eLc false [6] (itV (eV 2)) (gN 6) (eOrT (eTest (eB fIn (eB fIx (eV 3) (eC (.int 0))) (eV 6))) (eTest (eB fIn (eB fIx (eV 3) (eC (.int 1))) (eV 6)))) (eV 6)))
  (sSeq (sSet 7 (eBf fSortedB (eCons (eBf fListA (eCons (eDc2 [6, 8] [8] (itV (eB fAdd (eV 5) (eLst (eCons (eV 3) eNil)))) (gN 6) eYes (itV (eV 6)) (gN 8) eYes (eV 8) (eC (.bl true))) eNil)) eNil)))
  (sSet 2 (eB fAdd (eLc false [6] (itV (eV 2)) (gN 6) (eTest (eB fNotIn (eV 6) (eV 5))) (eV 6)) (eLst (eCons (eV 7) eNil)))))) sSkip))
  (sRet (eBf fSortedB (eCons (eLc false [6] (itV (eV 2)) (gN 6) eYes (eBf fTuple (eCons (eV 6) eNil))) eNil)))))
def m_parts_of : Fn := runF 9 b_parts_of
def b_parts : S := (sSeq (sExpr (eCall 1 m_need_house (eCons (eV 0) eNil)))
  (sRet (eBf fTuple (eCons (eCall 2 m_parts_of (eCons (eV 0) (eCons (eCall 2 m_need_counts (eCons (eV 0) (eCons (eV 1) eNil))) eNil))) eNil))))
def m_parts : Fn := runF 2 b_parts
def b__law_begin : S := (sRet (eDisp (epCons (eC (.str "cells")) (eB fAdd (eV 0) (eLst (eCons (eC (.int 0)) eNil))) (epCons (eC (.str "at")) (eC (.int 0)) (epCons (eC (.str "left")) (eC (.int 0)) (epCons (eC (.str "used")) (eC (.int 0)) epNil))))))
def m__law_begin : Fn := runK 1 b__law_begin
def b__law_next : S := (sSeq (sIf (eTest (eB fGt (eB fIx (eV 0) (eC (.str "left"))) (eC (.int 0)))) (sSeq (sAsg (gT 2 (gCons' (gN 2) (gCons' (gIx (eV 0) (eC (.str "left"))) gNil'))) (eTup (eCons (eB fIx (eV 0) (eC (.str "left"))) (eCons (eB fFdiv (eB fIx (eV 0) (eC (.str "left"))) (eV 1)) eNil))))
  (sRet (eB fMod (eV 2) (eV 1)))) sSkip)
  (sSeq (sSet 3 (eB fIx (eV 0) (eC (.str "cells"))))
  (sSeq (sSet 2 (eB fIx (eV 3) (eB fMod (eB fIx (eV 0) (eC (.str "at"))) (eBf fLen (eCons (eV 3) eNil)))))
  (sSeq (sAsg (gIx (eV 0) (eC (.str "at"))) (eB fAdd (eB fIx (eV 0) (eC (.str "at"))) (eC (.int 1))))
  (sSeq (sIf (eAndT (eTest (eB fGe (eV 2) (eB fPow (eC (.int 10)) (eC (.int 18))))) (eTest (eB fLe (eB fIx (eV 0) (eC (.str "at"))) (eBf fLen (eCons (eV 3) eNil))))) (sSeq (sAsg (gIx (eV 0) (eC (.str "left"))) (eB fFdiv (eV 2) (eV 1)))
  (sRet (eB fMod (eV 2) (eV 1)))) sSkip)
  (sSeq (sAsg (gIx (eV 0) (eC (.str "used"))) (eB fAdd (eB fIx (eV 0) (eC (.str "used"))) (eC (.int 1))))
  (sSeq (sSet 4 (eB fAdd (eB fMod (eV 2) (eC (.int 1000000007))) (eB fMul (eB fMul (eC (.int 7919)) (eB fIx (eV 0) (eC (.str "used")))) (eB fIx (eV 0) (eC (.str "used"))))))
  (sSeq (sFor (itV (eTup (eCons (eB fIx (eV 0) (eC (.str "at"))) (eCons (eB fIx (eV 0) (eC (.str "used"))) eNil)))) (gN 5) (sSeq (sSet 4 (eB fMod (eB fMul (eB fAdd (eB fAdd (eV 4) (eB fMul (eC (.int 31)) (eV 5))) (eC (.int 7))) (eC (.int 48271))) (eC (.int 2147483647))))
  (sSet 4 (eB fMod (eB fMul (eV 4) (eB fAdd (eC (.int 69621)) (eB fMul (eC (.int 2)) (eB fMod (eV 5) (eC (.int 1000)))))) (eC (.int 2147483629))))))
  (sRet (eB fMod (eB fFdiv (eV 4) (eC (.int 7))) (eV 1)))))))))))
def m__law_next : Fn := runF 6 b__law_next
def b__law_pick : S := (sRet (eB fIx (eV 1) (eCall 2 m__law_next (eCons (eV 0) (eCons (eBf fLen (eCons (eV 1) eNil)) eNil)))))
def m__law_pick : Fn := runF 2 b__law_pick
def b__law_house : S := (sSeq (sPar 3 4 (eCons (eB fAdd (eC (.int 1)) (eCall 2 m__law_next (eCons (eV 0) (eCons (eV 1) eNil)))) (eCons eNewT eNil)))
  (sSeq (sFor (itRange1 (eCons (eCall 2 m__law_next (eCons (eV 0) (eCons (eB fAdd (eV 2) (eC (.int 1))) eNil))) eNil)) (gN 5) (sSeq (sSet 6 (eB fSub (eCall 2 m__law_next (eCons (eV 0) (eCons (eB fAdd (eV 3) (eC (.int 1))) eNil))) (eC (.int 1))))
  (sSeq (sSet 7 (eB fSub (eB fMod (eBf fIntA (eCons (eB fAdd (eB fAdd (eB fAdd (eV 6) (eC (.int 1))) (eC (.int 1))) (eCall 2 m__law_next (eCons (eV 0) (eCons (eV 3) eNil)))) eNil)) (eB fAdd (eV 3) (eC (.int 1)))) (eC (.int 1))))
  (sSeq (sIf (eTest (eB fLtT (eBf fLen (eCons (eV 4) eNil)) (eV 2))) (sAsg (gIx (eV 4) (eTup (eCons (eV 6) (eCons (eV 7) eNil)))) (eC (.bl true))) sSkip)
  (sIf (eAndT (eTest (eB fEqA (eCall 2 m__law_next (eCons (eV 0) (eCons (eC (.int 3)) eNil))) (eC (.int 0)))) (eTest (eB fLtT (eBf fLen (eCons (eV 4) eNil)) (eV 2)))) (sAsg (gIx (eV 4) (eTup (eCons (eV 7) (eCons (eV 6) eNil)))) (eC (.bl true))) sSkip)))))
  (sRet (eTup (eCons (eV 3) (eCons (eBf fTuple (eCons (eBf fSortedB (eCons (eBf fListA (eCons (eV 4) eNil)) eNil)) eNil)) eNil))))))
def m__law_house : Fn := runF 8 b__law_house
def b__law_few : S := (sSeq (sSet 3 (eMulN (eLst (eCons (eC (.int 0)) eNil)) (eV 1)))
  (sSeq (sFor (itRange1 (eCons (eCall 2 m__law_next (eCons (eV 0) (eCons (eB fAdd (eV 2) (eC (.int 1))) eNil))) eNil)) (gN 4) (sIf (eTest (eB fGt (eV 1) (eC (.int 0)))) (sAugI fIadd (eV 3) (eCall 2 m__law_next (eCons (eV 0) (eCons (eV 1) eNil))) (eC (.int 1))) sSkip))
  (sRet (eBf fTuple (eCons (eV 3) eNil)))))
def m__law_few : Fn := runF 5 b__law_few
def b__law_spread : S := (sSeq (sPar 3 4 (eCons (eDisp (epCons (eV 2) (eC (.bl true)) epNil)) (eCons (eNew (eCons (eV 2) eNil)) eNil)))
  (sSeq (sWhile (eTest (eB fNeA (eV 4) (eLst eNil))) (sSeq (sSet 5 (eLm fPop (eV 4) eNil))
  (sFor (itZip (eCons (eB fIx (eV 0) (eC (.int 1))) (eCons (eV 1) eNil))) (gT 2 (gCons' (gN 6) (gCons' (gN 7) gNil'))) (sFor (itV (eTup (eCons (eV 6) (eCons (eRevT (eV 6)) eNil)))) (gT 2 (gCons' (gN 8) (gCons' (gN 9) gNil'))) (sIf (eAndT (eTest (eB fGt (eV 7) (eC (.int 0)))) (eAndT (eTest (eB fEqA (eV 8) (eV 5))) (eTest (eB fNotIn (eV 9) (eV 3))))) (sSeq (sAsg (gIx (eV 3) (eV 9)) (eC (.bl true)))
  (sExpr (eLm fAppend (eV 4) (eCons (eV 9) eNil)))) sSkip)))))
  (sRet (eBf fTuple (eCons (eBf fSortedB (eCons (eBf fListA (eCons (eV 3) eNil)) eNil)) eNil)))))
def m__law_spread : Fn := runF 10 b__law_spread
def b_short_rooms : S := (sRet (eLc false [3, 4] (itEnum (eCons (eCall 3 m_balances_of (eCons (eV 0) (eCons (eV 1) (eCons (eV 2) eNil)))) eNil)) (gT 2 (gCons' (gN 3) (gCons' (gN 4) gNil'))) (eTest (eB fLtT (eV 4) (eC (.int 0)))) (eV 3)))
def m_short_rooms : Fn := runF 5 b_short_rooms
def b_lonely_parts : S := (sSeq (sSet 3 (eLc false [4] (itV (eCall 2 m_parts_of (eCons (eV 0) (eCons (eV 2) eNil)))) (gN 4) (eTest (eB fNotIn (eC (.int (-1))) (eV 4))) (eV 4)))
  (sRet (eLc false [4] (itV (eV 3)) (gN 4) (eTest (eBf fAll (eCons (eLc false [5] (itV (eV 4)) (gN 5) eYes (eB fEqA (eB fIx (eV 1) (eV 5)) (eC (.int 0)))) eNil))) (eV 4))))
def m_lonely_parts : Fn := runF 6 b_lonely_parts
def b_is_possible_of : S := (sRet (eAnd (eB fEqA (eCall 3 m_short_rooms (eCons (eV 0) (eCons (eV 1) (eCons (eV 2) eNil)))) (eLst eNil)) (eB fEqA (eCall 3 m_lonely_parts (eCons (eV 0) (eCons (eV 1) (eCons (eV 2) eNil)))) (eLst eNil))))
def m_is_possible_of : Fn := runF 3 b_is_possible_of
def b_need_asked : S := (sSeq (sExpr (eCall 2 m_need_heads (eCons (eV 0) (eCons (eV 1) eNil))))
  (sExpr (eCall 2 m_need_counts (eCons (eV 0) (eCons (eV 2) eNil)))))
def m_need_asked : Fn := runF 3 b_need_asked
def b_is_possible : S := (sSeq (sExpr (eCall 3 m_need_asked (eCons (eV 0) (eCons (eV 1) (eCons (eV 2) eNil)))))
  (sRet (eCall 3 m_is_possible_of (eCons (eV 0) (eCons (eV 1) (eCons (eV 2) eNil))))))
def m_is_possible : Fn := runF 3 b_is_possible
def b__law_walked : S := (sSeq (sAsg (gT 2 (gCons' (gN 4) (gCons' (gN 5) gNil'))) (eTup (eCons (eListN (eCons (eV 2) eNil)) (eCons (eMulN (eLst (eCons (eC (.int 0)) eNil)) (eBf fLen (eCons (eB fIx (eV 1) (eC (.int 1))) eNil))) eNil))))
  (sSeq (sFor (itRange1 (eCons (eV 3) eNil)) (gN 6) (sSeq (sSet 7 (eLc false [6] (itRange1 (eCons (eBf fLen (eCons (eB fIx (eV 1) (eC (.int 1))) eNil)) eNil)) (gN 6) (eOrT (eTest (eB fLtT (eB fIx (eB fIx (eB fIx (eV 1) (eC (.int 1))) (eV 6)) (eC (.int 0))) (eC (.int 0)))) (eTest (eB fGt (eB fIx (eV 4) (eB fIx (eB fIx (eB fIx (eV 1) (eC (.int 1))) (eV 6)) (eC (.int 0)))) (eC (.int 0))))) (eV 6)))
  (sIf (eTest (eB fNeA (eV 7) (eLst eNil))) (sSeq (sSet 8 (eCall 2 m__law_pick (eCons (eV 0) (eCons (eV 7) eNil))))
  (sSeq (sAugI fIadd (eV 5) (eV 8) (eC (.int 1)))
  (sSeq (sAsg (gT 2 (gCons' (gN 9) (gCons' (gN 10) gNil'))) (eB fIx (eB fIx (eV 1) (eC (.int 1))) (eV 8)))
  (sSeq (sIf (eTest (eB fGe (eV 9) (eC (.int 0)))) (sAugI fIsub (eV 4) (eV 9) (eC (.int 1))) sSkip)
  (sIf (eTest (eB fGe (eV 10) (eC (.int 0)))) (sAugI fIadd (eV 4) (eV 10) (eC (.int 1))) sSkip))))) sSkip)))
  (sRet (eBf fTuple (eCons (eV 5) eNil)))))
def m__law_walked : Fn := runF 11 b__law_walked
def b__law_asked : S := (sSeq (sSet 1 (eCall 3 m__law_house (eCons (eV 0) (eCons (eC (.int 3)) (eCons (eC (.int 5)) eNil)))))
  (sSeq (sSet 2 (eCall 3 m__law_few (eCons (eV 0) (eCons (eB fIx (eV 1) (eC (.int 0))) (eCons (eC (.int 3)) eNil)))))
  (sSeq (sSet 3 (eCall 4 m__law_walked (eCons (eV 0) (eCons (eV 1) (eCons (eV 2) (eCons (eCall 2 m__law_next (eCons (eV 0) (eCons (eC (.int 7)) eNil))) eNil))))))
  (sSeq (sIf (eTest (eB fEqA (eCall 2 m__law_next (eCons (eV 0) (eCons (eC (.int 3)) eNil))) (eC (.int 0)))) (sSet 3 (eCall 3 m__law_few (eCons (eV 0) (eCons (eBf fLen (eCons (eB fIx (eV 1) (eC (.int 1))) eNil)) (eCons (eC (.int 6)) eNil))))) sSkip)
  (sRet (eTup (eCons (eV 1) (eCons (eV 2) (eCons (eV 3) eNil)))))))))
def m__law_asked : Fn := runF 4 b__law_asked
def b__law_passed : S := (sSeq (sAsg (gT 2 (gCons' (gN 3) (gCons' (gN 4) gNil'))) (eB fIx (eB fIx (eV 0) (eC (.int 1))) (eV 2)))
  (sSeq (sIf (eAndT (eTest (eB fGe (eV 3) (eC (.int 0)))) (eTest (eB fEqA (eB fIx (eV 1) (eV 3)) (eC (.int 0))))) (sRet (eC .non)) sSkip)
  (sRet (eBf fTuple (eCons (eLc false [5] (itRange1 (eCons (eBf fLen (eCons (eV 1) eNil)) eNil)) (gN 5) eYes (eB fAdd (eB fSub (eB fIx (eV 1) (eV 5)) (eBf fIntA (eCons (eB fEqA (eV 5) (eV 3)) eNil))) (eBf fIntA (eCons (eB fEqA (eV 5) (eV 4)) eNil)))) eNil)))))
def m__law_passed : Fn := runF 6 b__law_passed
def b__law_less : S := (sRet (eB fAdd (eB fAdd (eSl (eV 0) oNone (oSome (eV 1))) (eTup (eCons (eB fSub (eB fIx (eV 0) (eV 1)) (eC (.int 1))) eNil))) (eSl (eV 0) (oSome (eB fAdd (eV 1) (eC (.int 1)))) oNone)))
def m__law_less : Fn := runF 2 b__law_less
def b__law_can (mf : Fn) : S := (sSeq (sIf (eTest (eB fEqA (eBf fSumT (eCons (eV 2) eNil)) (eC (.int 0)))) (sRet (eC (.bl true))) sSkip)
  (sSeq (sSet 4 (eTup (eCons (eV 1) (eCons (eV 2) eNil))))
  (sSeq (sIf (eTest (eB fNotInN (eV 4) (eV 3))) (sSeq (sAsg (gIxN (eV 3) (eV 4)) (eC (.bl false)))
  (sFor (itRange1 (eCons (eBf fLen (eCons (eV 2) eNil)) eNil)) (gN 5) (sSeq (sSet 6 (eIf (eTest (eB fGt (eB fIx (eV 2) (eV 5)) (eC (.int 0)))) (eCall 3 m__law_passed (eCons (eV 0) (eCons (eV 1) (eCons (eV 5) eNil)))) (eC .non)))
  (sIf (eAndT (eTest (eB fIsNot (eV 6) (eC .non))) (eNotT (eTest (eB fIxN (eV 3) (eV 4))))) (sAsg (gIxN (eV 3) (eV 4)) (eCall 4 mf (eCons (eV 0) (eCons (eV 6) (eCons (eCall 2 m__law_less (eCons (eV 2) (eCons (eV 5) eNil))) (eCons (eV 3) eNil)))))) sSkip)))) sSkip)
  (sRet (eB fIxN (eV 3) (eV 4))))))
def r__law_can : Nat → Fn
  | 0 => runF 7 sBad
  | n + 1 => runF 7 (b__law_can (r__law_can n))
def m__law_can : Fn := r__law_can 8
def b_need_room : S := (sSeq (sIf (eNotT (eTest (eCall 3 m_is_whole (eCons (eV 1) (eCons (eC (.int 0)) (eCons (eB fSub (eB fIx (eV 0) (eC (.int 0))) (eC (.int 1))) eNil)))))) (sRaise 5 ["given"] (eCons (eV 1) eNil)) sSkip)
  (sRet (eV 1)))
def m_need_room : Fn := runF 2 b_need_room
def b_need_order : S := (sSeq (sIf (eTest (eB fNeA (eCall 3 m_short_rooms (eCons (eV 0) (eCons (eV 1) (eCons (eV 2) eNil)))) (eLst eNil))) (sRaise 8 ["word"] (eCons (eC (.str "short")) eNil)) sSkip)
  (sIf (eTest (eB fNeA (eCall 3 m_lonely_parts (eCons (eV 0) (eCons (eV 1) (eCons (eV 2) eNil)))) (eLst eNil))) (sRaise 8 ["word"] (eCons (eC (.str "lonely")) eNil)) sSkip))
def m_need_order : Fn := runF 3 b_need_order
def b_one_less : S := (sRet (eB fAdd (eB fAdd (eSl (eV 0) oNone (oSome (eV 1))) (eTup (eCons (eB fSub (eB fIx (eV 0) (eV 1)) (eC (.int 1))) eNil))) (eSl (eV 0) (oSome (eB fAdd (eV 1) (eC (.int 1)))) oNone)))
def m_one_less : Fn := runF 2 b_one_less
def b_heads_behind : S := (sRet (eBf fTuple (eCons (eLc false [2, 3] (itEnum (eCons (eV 0) eNil)) (gT 2 (gCons' (gN 2) (gCons' (gN 3) gNil'))) eYes (eB fAdd (eB fSub (eV 3) (eBf fIntA (eCons (eB fEqA (eV 2) (eB fIx (eV 1) (eC (.int 0)))) eNil))) (eBf fIntA (eCons (eB fEqA (eV 2) (eB fIx (eV 1) (eC (.int 1)))) eNil)))) eNil)))
def m_heads_behind : Fn := runF 4 b_heads_behind
def b_can_begin : S := (sSeq (sSet 4 (eB fIx (eB fIx (eV 0) (eC (.int 1))) (eV 3)))
  (sSeq (sIf (eOrT (eTest (eB fEqA (eB fIx (eV 2) (eV 3)) (eC (.int 0)))) (eAndT (eTest (eB fNeA (eB fIx (eV 4) (eC (.int 0))) (eC (.int (-1))))) (eTest (eB fEqA (eB fIx (eV 1) (eB fIx (eV 4) (eC (.int 0)))) (eC (.int 0)))))) (sRet (eC (.bl false))) sSkip)
  (sRet (eCall 3 m_is_possible_of (eCons (eV 0) (eCons (eCall 2 m_heads_behind (eCons (eV 1) (eCons (eV 4) eNil))) (eCons (eCall 2 m_one_less (eCons (eV 2) (eCons (eV 3) eNil))) eNil)))))))
def m_can_begin : Fn := runF 5 b_can_begin
def b_first_gates : S := (sSeq (sExpr (eCall 3 m_need_asked (eCons (eV 0) (eCons (eV 1) (eCons (eV 2) eNil)))))
  (sSeq (sExpr (eCall 3 m_need_order (eCons (eV 0) (eCons (eV 1) (eCons (eV 2) eNil)))))
  (sRet (eBf fTuple (eCons (eLc false [3] (itRange1 (eCons (eBf fLen (eCons (eV 2) eNil)) eNil)) (gN 3) (eTest (eCall 4 m_can_begin (eCons (eV 0) (eCons (eV 1) (eCons (eV 2) (eCons (eV 3) eNil)))))) (eV 3)) eNil)))))
def m_first_gates : Fn := runF 4 b_first_gates
def b_last_gates : S := (sSeq (sExpr (eCall 3 m_need_asked (eCons (eV 0) (eCons (eV 1) (eCons (eV 2) eNil)))))
  (sSeq (sExpr (eCall 3 m_need_order (eCons (eV 0) (eCons (eV 1) (eCons (eV 2) eNil)))))
  (sSeq (sSet 3 (eLc false [4, 5] (itEnum (eCons (eV 2) eNil)) (gT 2 (gCons' (gN 4) (gCons' (gN 5) gNil'))) (eTest (eB fGt (eV 5) (eC (.int 0)))) (eV 4)))
  (sRet (eBf fTuple (eCons (eLc false [4] (itV (eV 3)) (gN 4) (eTest (eCall 3 m_is_possible_of (eCons (eV 0) (eCons (eV 1) (eCons (eCall 2 m_one_less (eCons (eV 2) (eCons (eV 4) eNil))) eNil))))) (eV 4)) eNil))))))
def m_last_gates : Fn := runF 6 b_last_gates
def b__law_firsts : S := (sSeq (sSet 3 (eNew eNil))
  (sSeq (sFor (itRange1 (eCons (eBf fLen (eCons (eV 2) eNil)) eNil)) (gN 4) (sSeq (sSet 5 (eIf (eTest (eB fGt (eB fIx (eV 2) (eV 4)) (eC (.int 0)))) (eCall 3 m__law_passed (eCons (eV 0) (eCons (eV 1) (eCons (eV 4) eNil)))) (eC .non)))
  (sIf (eAndT (eTest (eB fIsNot (eV 5) (eC .non))) (eTest (eCall 4 m__law_can (eCons (eV 0) (eCons (eV 5) (eCons (eCall 2 m__law_less (eCons (eV 2) (eCons (eV 4) eNil))) (eCons eNewN eNil))))))) (sExpr (eLm fAppend (eV 3) (eCons (eV 4) eNil))) sSkip)))
  (sRet (eBf fTuple (eCons (eV 3) eNil)))))
def m__law_firsts : Fn := runF 6 b__law_firsts
def b__law_lasts : S := (sSeq (sSet 3 (eNew eNil))
  (sSeq (sFor (itRange1 (eCons (eBf fLen (eCons (eV 2) eNil)) eNil)) (gN 4) (sIf (eAndT (eTest (eB fGt (eB fIx (eV 2) (eV 4)) (eC (.int 0)))) (eTest (eCall 4 m__law_can (eCons (eV 0) (eCons (eV 1) (eCons (eCall 2 m__law_less (eCons (eV 2) (eCons (eV 4) eNil))) (eCons eNewN eNil))))))) (sSeq (sSet 5 (eListN (eCons (eV 1) eNil)))
  (sSeq (sFor (itZip (eCons (eB fIx (eV 0) (eC (.int 1))) (eCons (eCall 2 m__law_less (eCons (eV 2) (eCons (eV 4) eNil))) eNil))) (gT 2 (gCons' (gN 6) (gCons' (gN 7) gNil'))) (sFor (itV (eTup (eCons (eTup (eCons (eB fIx (eV 6) (eC (.int 0))) (eCons (fNeg (eC (.int 1))) eNil))) (eCons (eTup (eCons (eB fIx (eV 6) (eC (.int 1))) (eCons (eC (.int 1)) eNil))) eNil)))) (gT 2 (gCons' (gN 8) (gCons' (gN 9) gNil'))) (sIf (eTest (eB fGe (eV 8) (eC (.int 0)))) (sAugI fIadd (eV 5) (eV 8) (eB fMul (eV 9) (eV 7))) sSkip)))
  (sIf (eTest (eB fIsNot (eCall 3 m__law_passed (eCons (eV 0) (eCons (eBf fTuple (eCons (eV 5) eNil)) (eCons (eV 4) eNil)))) (eC .non))) (sExpr (eLm fAppend (eV 3) (eCons (eV 4) eNil))) sSkip))) sSkip))
  (sRet (eBf fTuple (eCons (eV 3) eNil)))))
def m__law_lasts : Fn := runF 10 b__law_lasts
def b_need_notes : S := (sSeq (sExpr (eCall 1 m_need_house (eCons (eV 0) eNil)))
  (sSeq (sIf (eOrT (eNotT (eTest (eIsi .tuple (eV 1)))) (eNotT (eTest (eChain fLe fLe (eC (.int 1)) (eBf fLen (eCons (eV 1) eNil)) (eC (.int (40))))))) (sRaise 4 ["number"] (eCons (eC .non) eNil)) sSkip)
  (sSeq (sFor (itEnum (eCons (eV 1) eNil)) (gT 2 (gCons' (gN 2) (gCons' (gN 3) gNil'))) (sIf (eTest (eB fNeA (eCall 2 m_numbers_fault (eCons (eV 3) (eCons (eBf fLen (eCons (eB fIx (eV 0) (eC (.int 1))) eNil)) eNil))) (eLst eNil))) (sRaise 4 ["number"] (eCons (eV 2) eNil)) sSkip))
  (sRet (eV 1)))))
def m_need_notes : Fn := runF 4 b_need_notes
def b_is_filling : S := (sSeq (sExpr (eCall 2 m_need_notes (eCons (eV 0) (eCons (eV 1) eNil))))
  (sSeq (sSet 3 (eCall 2 m_need_heads (eCons (eV 0) (eCons (eV 2) eNil))))
  (sSeq (sFor (itV (eV 1)) (gN 4) (sSeq (sIf (eNotT (eTest (eCall 3 m_is_possible_of (eCons (eV 0) (eCons (eV 3) (eCons (eV 4) eNil)))))) (sRet (eC (.bl false))) sSkip)
  (sSet 3 (eCall 3 m_balances_of (eCons (eV 0) (eCons (eV 3) (eCons (eV 4) eNil)))))))
  (sRet (eC (.bl true))))))
def m_is_filling : Fn := runF 5 b_is_filling
def b_changes_of : S := (sSeq (sSet 2 (eNew (eCons (eB fMulB (eTup (eCons (eC (.int 0)) eNil)) (eB fIx (eV 0) (eC (.int 0)))) eNil)))
  (sSeq (sFor (itV (eV 1)) (gN 3) (sExpr (eLm fAppend (eV 2) (eCons (eCall 3 m_balances_of (eCons (eV 0) (eCons (eB fIx (eV 2) (fNeg (eC (.int 1)))) (eCons (eV 3) eNil)))) eNil))))
  (sRet (eV 2))))
def m_changes_of : Fn := runF 4 b_changes_of
def b_floor_of : S := (sSeq (sSet 2 (eCall 2 m_changes_of (eCons (eV 0) (eCons (eV 1) eNil))))
  (sRet (eBf fTuple (eCons (eLc false [4] (itRange1 (eCons (eB fIx (eV 0) (eC (.int 0))) eNil)) (gN 4) eYes (eBf fMax (eCons (eLc false [3] (itV (eV 2)) (gN 3) eYes (eB fSub (eC (.int 0)) (eB fIx (eV 3) (eV 4)))) eNil))) eNil))))
def m_floor_of : Fn := runF 5 b_floor_of
def b_wants_of : S := (sSeq (sAsg (gT 3 (gCons' (gN 2) (gCons' (gN 3) (gCons' (gN 4) gNil')))) (eTup (eCons (eCall 2 m_floor_of (eCons (eV 0) (eCons (eV 1) eNil))) (eCons (eCall 2 m_changes_of (eCons (eV 0) (eCons (eV 1) eNil))) (eCons (eNew eNil) eNil)))))
  (sSeq (sFor (itEnum (eCons (eV 1) eNil)) (gT 2 (gCons' (gN 5) (gCons' (gN 6) gNil'))) (sFor (itV (eCall 2 m_parts_of (eCons (eV 0) (eCons (eV 6) eNil)))) (gN 7) (sIf (eAndT (eTest (eB fNotIn (eC (.int (-1))) (eV 7))) (eTest (eBf fAll (eCons (eLc false [8] (itV (eV 7)) (gN 8) eYes (eB fEqA (eB fAdd (eB fIx (eV 2) (eV 8)) (eB fIx (eB fIx (eV 3) (eV 5)) (eV 8))) (eC (.int 0)))) eNil)))) (sExpr (eLm fAppend (eV 4) (eCons (eV 7) eNil))) sSkip)))
  (sRet (eV 4))))
def m_wants_of : Fn := runF 9 b_wants_of
def b_subsets_of : S := (sSeq (sSet 1 (eLst (eCons (eTup eNil) eNil)))
  (sSeq (sFor (itRange1 (eCons (eV 0) eNil)) (gN 2) (sSet 1 (eLc2 [3, 4] [4] (itV (eV 1)) (gN 3) eYes (itV (eTup (eCons (eC (.int 0)) (eCons (eC (.int 1)) eNil)))) (gN 4) eYes (eB fAdd (eV 3) (eTup (eCons (eV 4) eNil))))))
  (sRet (eSortSum (eCons (eV 1) eNil)))))
def m_subsets_of : Fn := runF 5 b_subsets_of
def b_least_hits : S := (sSeq (sSet 2 (eNew eNil))
  (sSeq (sFor (itV (eCall 1 m_subsets_of (eCons (eB fIx (eV 0) (eC (.int 0))) eNil))) (gN 3) (sSeq (sSet 4 (eBf fAny (eCons (eLcS [7] (eV 2) (gN 7) eYes (eBf fAll (eCons (eLc false [5, 6] (itZip (eCons (eV 7) (eCons (eV 3) eNil))) (gT 2 (gCons' (gN 5) (gCons' (gN 6) gNil'))) eYes (eB fLe (eV 5) (eV 6))) eNil))) eNil)))
  (sIf (eAndT (eNotT (eTest (eV 4))) (eTest (eBf fAll (eCons (eLc false [9] (itV (eV 1)) (gN 9) eYes (eBf fAny (eCons (eLc false [8] (itV (eV 9)) (gN 8) eYes (eB fEqA (eB fIx (eV 3) (eV 8)) (eC (.int 1)))) eNil))) eNil)))) (sExpr (eLm fAppend (eV 2) (eCons (eV 3) eNil))) sSkip)))
  (sRet (eV 2))))
def m_least_hits : Fn := runF 10 b_least_hits
def b_least_in : S := (sSeq (sAsg (gT 2 (gCons' (gN 2) (gCons' (gN 3) gNil'))) (eTup (eCons (eCall 2 m_floor_of (eCons (eV 0) (eCons (eV 1) eNil))) (eCons (eCall 2 m_least_hits (eCons (eV 0) (eCons (eCall 2 m_wants_of (eCons (eV 0) (eCons (eV 1) eNil))) eNil))) eNil))))
  (sRet (eBf fSortedB (eCons (eLc false [6] (itV (eV 3)) (gN 6) eYes (eBf fTuple (eCons (eLc false [4, 5] (itZip (eCons (eV 2) (eCons (eV 6) eNil))) (gT 2 (gCons' (gN 4) (gCons' (gN 5) gNil'))) eYes (eB fAdd (eV 4) (eV 5))) eNil))) eNil))))
def m_least_in : Fn := runF 7 b_least_in
def b_least_fillings : S := (sSeq (sExpr (eCall 2 m_need_notes (eCons (eV 0) (eCons (eV 1) eNil))))
  (sRet (eBf fTuple (eCons (eCall 2 m_least_in (eCons (eV 0) (eCons (eV 1) eNil))) eNil))))
def m_least_fillings : Fn := runF 2 b_least_fillings
def b_fewest : S := (sSeq (sExpr (eCall 2 m_need_notes (eCons (eV 0) (eCons (eV 1) eNil))))
  (sRet (eBf fMin (eCons (eLc false [2] (itV (eCall 2 m_least_in (eCons (eV 0) (eCons (eV 1) eNil)))) (gN 2) eYes (eBf fSumT (eCons (eV 2) eNil))) eNil))))
def m_fewest : Fn := runF 3 b_fewest
def b__law_is_filling : S := (sSeq (sSet 3 (eV 2))
  (sSeq (sFor (itV (eV 1)) (gN 4) (sSeq (sIf (eNotT (eTest (eCall 4 m__law_can (eCons (eV 0) (eCons (eV 3) (eCons (eV 4) (eCons eNewN eNil))))))) (sRet (eC (.bl false))) sSkip)
  (sSeq (sSet 5 (eListN (eCons (eV 3) eNil)))
  (sSeq (sFor (itZip (eCons (eB fIx (eV 0) (eC (.int 1))) (eCons (eV 4) eNil))) (gT 2 (gCons' (gN 6) (gCons' (gN 7) gNil'))) (sFor (itV (eTup (eCons (eTup (eCons (eB fIx (eV 6) (eC (.int 0))) (eCons (fNeg (eC (.int 1))) eNil))) (eCons (eTup (eCons (eB fIx (eV 6) (eC (.int 1))) (eCons (eC (.int 1)) eNil))) eNil)))) (gT 2 (gCons' (gN 8) (gCons' (gN 9) gNil'))) (sIf (eTest (eB fGe (eV 8) (eC (.int 0)))) (sAugI fIadd (eV 5) (eV 8) (eB fMul (eV 9) (eV 7))) sSkip)))
  (sSet 3 (eBf fTuple (eCons (eV 5) eNil)))))))
  (sRet (eC (.bl true)))))
def m__law_is_filling : Fn := runF 10 b__law_is_filling
def b__law_rows : S := (sSeq (sSet 2 (eLst (eCons (eTup eNil) eNil)))
  (sSeq (sFor (itRange1 (eCons (eV 0) eNil)) (gN 3) (sSeq (sSet 4 (eNew eNil))
  (sSeq (sFor (itV (eV 2)) (gN 5) (sExpr (eLm fExtend (eV 4) (eCons (eLc true [6] (itRange1 (eCons (eB fAdd (eV 1) (eC (.int 1))) eNil)) (gN 6) eYes (eB fAdd (eV 5) (eTup (eCons (eV 6) eNil)))) eNil))))
  (sSet 2 (eFrz (eV 4))))))
  (sRet (eV 2))))
def m__law_rows : Fn := runF 7 b__law_rows
def b__law_least : S := (sSeq (sSet 2 (eLc false [3] (itV (eCall 2 m__law_rows (eCons (eB fIx (eV 0) (eC (.int 0))) (eCons (eC (.int 5)) eNil)))) (gN 3) (eTest (eCall 3 m__law_is_filling (eCons (eV 0) (eCons (eV 1) (eCons (eV 3) eNil))))) (eV 3)))
  (sSeq (sSet 4 (eNew eNil))
  (sSeq (sFor (itV (eV 2)) (gN 3) (sSeq (sSet 5 (eNew eNil))
  (sSeq (sFor (itRange1 (eCons (eBf fLen (eCons (eV 3) eNil)) eNil)) (gN 6) (sExpr (eLm fAppend (eV 5) (eCons (eB fAdd (eB fAdd (eSl (eV 3) oNone (oSome (eV 6))) (eTup (eCons (eB fSub (eB fIx (eV 3) (eV 6)) (eC (.int 1))) eNil))) (eSl (eV 3) (oSome (eB fAdd (eV 6) (eC (.int 1)))) oNone)) eNil))))
  (sIf (eTest (eB fEqA (eLc false [7] (itV (eFrz (eV 5))) (gN 7) (eTest (eB fIn (eV 7) (eV 2))) (eV 7)) (eLst eNil))) (sExpr (eLm fAppend (eV 4) (eCons (eV 3) eNil))) sSkip))))
  (sRet (eBf fTuple (eCons (eBf fSortedB (eCons (eV 4) eNil)) eNil))))))
def m__law_least : Fn := runF 8 b__law_least
def b__law_notes : S := (sSeq (sPar3 2 3 4 (eCons (eCall 3 m__law_few (eCons (eV 0) (eCons (eB fIx (eV 1) (eC (.int 0))) (eCons (eC (.int 5)) eNil)))) (eCons (eTup eNil) (eCons (eCall 2 m__law_pick (eCons (eV 0) (eCons (eLst (eCons (eC (.int 0)) (eCons (eC (.int 0)) (eCons (eC (.int 1)) (eCons (eB fPow (eC (.int 10)) (eC (.int 27))) eNil))))) eNil))) eNil))))
  (sSeq (sFor (itRange1 (eCons (eB fAdd (eC (.int 1)) (eCall 2 m__law_next (eCons (eV 0) (eCons (eC (.int 9)) eNil)))) eNil)) (gN 5) (sSeq (sSet 6 (eCall 4 m__law_walked (eCons (eV 0) (eCons (eV 1) (eCons (eV 2) (eCons (eCall 2 m__law_next (eCons (eV 0) (eCons (eC (.int 7)) eNil))) eNil))))))
  (sSeq (sIf (eTest (eB fEqA (eCall 2 m__law_next (eCons (eV 0) (eCons (eC (.int 3)) eNil))) (eC (.int 0)))) (sSet 6 (eCall 3 m__law_few (eCons (eV 0) (eCons (eBf fLen (eCons (eB fIx (eV 1) (eC (.int 1))) eNil)) (eCons (eC (.int 5)) eNil))))) sSkip)
  (sSeq (sSet 7 (eTup eNil))
  (sSeq (sFor (itV (eV 6)) (gN 8) (sSet 7 (eB fAdd (eV 7) (eTup (eCons (eB fAdd (eV 8) (eB fMul (eB fMul (eV 4) (eCall 2 m__law_next (eCons (eV 0) (eCons (eC (.int 3)) eNil)))) (eBf fIntA (eCons (eB fGt (eV 8) (eC (.int 0))) eNil)))) eNil)))))
  (sSet 3 (eB fAdd (eV 3) (eTup (eCons (eV 7) eNil)))))))))
  (sRet (eV 3))))
def m__law_notes : Fn := runF 9 b__law_notes
def b__law_is_under : S := (sRet (eB fEqA (eLc false [2, 3] (itZip (eCons (eV 0) (eCons (eV 1) eNil))) (gT 2 (gCons' (gN 2) (gCons' (gN 3) gNil'))) (eTest (eB fGt (eV 2) (eV 3))) (eC (.int 1))) (eLst eNil)))
def m__law_is_under : Fn := runF 4 b__law_is_under
def b__law_right : S := (sSeq (sFor (itV (eV 3)) (gN 4) (sSeq (sIf (eNotT (eTest (eCall 3 m_is_filling (eCons (eV 1) (eCons (eV 2) (eCons (eV 4) eNil)))))) (sRet (eC (.bl false))) sSkip)
  (sSeq (sIf (eTest (eB fNeA (eLc false [5] (itV (eV 3)) (gN 5) (eAndT (eTest (eB fNeA (eV 5) (eV 4))) (eTest (eCall 2 m__law_is_under (eCons (eV 5) (eCons (eV 4) eNil))))) (eV 5)) (eLst eNil))) (sRet (eC (.bl false))) sSkip)
  (sFor (itRange1 (eCons (eB fIx (eV 1) (eC (.int 0))) eNil)) (gN 6) (sSeq (sSet 7 (eB fAdd (eB fAdd (eSl (eV 4) oNone (oSome (eV 6))) (eTup (eCons (eB fSub (eB fIx (eV 4) (eV 6)) (eC (.int 1))) eNil))) (eSl (eV 4) (oSome (eB fAdd (eV 6) (eC (.int 1)))) oNone)))
  (sSeq (sSet 8 (eB fAdd (eB fAdd (eSl (eV 4) oNone (oSome (eV 6))) (eTup (eCons (eB fAdd (eB fAdd (eB fIx (eV 4) (eV 6)) (eC (.int 1))) (eCall 2 m__law_next (eCons (eV 0) (eCons (eC (.int 9)) eNil)))) eNil))) (eSl (eV 4) (oSome (eB fAdd (eV 6) (eC (.int 1)))) oNone)))
  (sSeq (sIf (eAndT (eTest (eB fGe (eB fIx (eV 7) (eV 6)) (eC (.int 0)))) (eTest (eCall 3 m_is_filling (eCons (eV 1) (eCons (eV 2) (eCons (eV 7) eNil)))))) (sRet (eC (.bl false))) sSkip)
  (sIf (eNotT (eTest (eCall 3 m_is_filling (eCons (eV 1) (eCons (eV 2) (eCons (eV 8) eNil)))))) (sRet (eC (.bl false))) sSkip))))))))
  (sSeq (sFor (itRange1 (eCons (eC (.int 5)) eNil)) (gN 9) (sSeq (sSet 10 (eCall 2 m__law_pick (eCons (eV 0) (eCons (eV 3) eNil))))
  (sSeq (sSet 4 (eBf fTuple (eCons (eLc false [5] (itV (eV 10)) (gN 5) eYes (eBf fMax (eCons (eC (.int 0)) (eCons (eB fAdd (eV 5) (eCall 2 m__law_pick (eCons (eV 0) (eCons (eLst (eCons (eC (.int 0)) (eCons (eC (.int 0)) (eCons (eC (.int 1)) (eCons (fNeg (eC (.int 1))) (eCons (eC (.int 3)) eNil)))))) eNil)))) eNil)))) eNil)))
  (sSeq (sSet 11 (eB fNeA (eLc false [5] (itV (eV 3)) (gN 5) (eTest (eCall 2 m__law_is_under (eCons (eV 5) (eCons (eV 4) eNil)))) (eV 5)) (eLst eNil)))
  (sIf (eTest (eB fNeA (eBf fRepr (eCons (eCall 3 m_is_filling (eCons (eV 1) (eCons (eV 2) (eCons (eV 4) eNil)))) eNil)) (eBf fRepr (eCons (eV 11) eNil)))) (sRet (eC (.bl false))) sSkip)))))
  (sRet (eC (.bl true)))))
def m__law_right : Fn := runF 12 b__law_right
def b__law_star_right : S := (sSeq (sSet 0 (eTup (eCons (eC (.int 8)) (eCons (eBf fTuple (eCons (eB fAdd (eLc false [1] (itRange2 (eCons (eC (.int 1)) (eCons (eC (.int 8)) eNil))) (gN 1) eYes (eTup (eCons (eC (.int 0)) (eCons (eV 1) eNil)))) (eLc false [1] (itRange2 (eCons (eC (.int 1)) (eCons (eC (.int 8)) eNil))) (gN 1) eYes (eTup (eCons (eV 1) (eCons (eC (.int 0)) eNil))))) eNil)) eNil))))
  (sSeq (sSet 2 (eTup eNil))
  (sSeq (sFor (itRange1 (eCons (eC (.int 7)) eNil)) (gN 1) (sSeq (sSet 3 (eB fAdd (eB fAdd (eB fMulB (eTup (eCons (eC (.int 0)) eNil)) (eV 1)) (eTup (eCons (eC (.int 1)) eNil))) (eB fMulB (eTup (eCons (eC (.int 0)) eNil)) (eB fSub (eC (.int 6)) (eV 1)))))
  (sSet 2 (eB fAdd (eV 2) (eTup (eCons (eB fAdd (eV 3) (eV 3)) eNil))))))
  (sSeq (sIf (eOrT (eTest (eB fNeA (eCall 2 m_least_fillings (eCons (eV 0) (eCons (eV 2) eNil))) (eTup (eCons (eB fAdd (eTup (eCons (eC (.int 0)) eNil)) (eB fMulB (eTup (eCons (eC (.int 1)) eNil)) (eC (.int 7)))) (eCons (eB fAdd (eTup (eCons (eC (.int 1)) eNil)) (eB fMulB (eTup (eCons (eC (.int 0)) eNil)) (eC (.int 7)))) eNil))))) (eTest (eB fNeA (eCall 2 m_fewest (eCons (eV 0) (eCons (eV 2) eNil))) (eC (.int 1))))) (sRet (eC (.bl false))) sSkip)
  (sSeq (sPar 0 4 (eCons (eTup (eCons (eC (.int 2)) (eCons (eTup (eCons (eTup (eCons (fNeg (eC (.int 1))) (eCons (eC (.int 0)) eNil))) (eCons (eTup (eCons (eC (.int 0)) (eCons (eC (.int 1)) eNil))) eNil))) eNil))) (eCons (eB fPow (eC (.int 10)) (eC (.int 30))) eNil)))
  (sSeq (sSet 2 (eTup (eCons (eTup (eCons (eV 4) (eCons (eC (.int 0)) eNil))) (eCons (eTup (eCons (eV 4) (eCons (eC (.int 0)) eNil))) (eCons (eTup (eCons (eC (.int 0)) (eCons (eV 4) eNil))) (eCons (eTup (eCons (eC (.int 0)) (eCons (eV 4) eNil))) eNil))))))
  (sRet (eAnd (eCall 3 m_is_filling (eCons (eV 0) (eCons (eV 2) (eCons (eTup (eCons (eC (.int 0)) (eCons (eC (.int 0)) eNil))) eNil)))) (eNot (eCall 3 m_is_filling (eCons (eV 0) (eCons (eB fAdd (eV 2) (eTup (eCons (eTup (eCons (eC (.int 0)) (eCons (eC (.int 1)) eNil))) eNil))) (eCons (eTup (eCons (eC (.int 0)) (eCons (eC (.int 0)) eNil))) eNil)))))))))))))
def m__law_star_right : Fn := runF 5 b__law_star_right
def b_numbers_text : S := (sRet (eIf (eTest (eB fGt (eBf fLen (eCons (eV 0) eNil)) (eC (.int 0)))) (eM1 fJoin (eC (.str " ")) (eLc false [1] (itV (eV 0)) (gN 1) eYes (eBf fStr (eCons (eV 1) eNil)))) (eC (.str "-"))))
def m_numbers_text : Fn := runF 2 b_numbers_text
def b_house_text : S := (sSeq (sAsg (gT 2 (gCons' (gN 1) (gCons' (gN 2) gNil'))) (eCall 1 m_need_house (eCons (eV 0) eNil)))
  (sRet (eM1 fJoin (eC (.str "\n")) (eB fAdd (eLst (eCons (eBf fStr (eCons (eV 1) eNil)) eNil)) (eLc false [3] (itV (eV 2)) (gN 3) eYes (eCall 1 m_numbers_text (eCons (eV 3) eNil)))))))
def m_house_text : Fn := runF 4 b_house_text
def b_counts_text : S := (sRet (eCall 1 m_numbers_text (eCons (eCall 2 m_need_counts (eCons (eV 0) (eCons (eV 1) eNil))) eNil)))
def m_counts_text : Fn := runF 2 b_counts_text
def b_number_in : S := (sSeq (sIf (eOrT (eNotT (eTest (eChain fLe fLe (eC (.int 1)) (eBf fLen (eCons (eV 0) eNil)) (eC (.int (31)))))) (eNotT (eTest (eBf fAll (eCons (eLc false [1] (itV (eV 0)) (gN 1) eYes (eB fIn (eV 1) (eC (.str "0123456789")))) eNil))))) (sRet (eC .non)) sSkip)
  (sRet (eIf (eOrT (eTest (eB fEqA (eV 0) (eC (.str "0")))) (eTest (eB fNeA (eB fIx (eV 0) (eC (.int 0))) (eC (.str "0"))))) (eBf fIntA (eCons (eV 0) eNil)) (eC .non))))
def m_number_in : Fn := runF 2 b_number_in
def b_need_string : S := (sIf (eNotT (eTest (eIsi .str (eV 0)))) (sRaise 7 ["line", "word"] (eCons (fNeg (eC (.int 1))) (eCons (fNeg (eC (.int 1))) eNil))) sSkip)
def m_need_string : Fn := runF 1 b_need_string
def b_places_in : S := (sSeq (sSet 2 (eNew eNil))
  (sSeq (sFor (itEnum (eCons (eM1 fSplit (eV 0) (eC (.str " "))) eNil)) (gT 2 (gCons' (gN 3) (gCons' (gN 4) gNil'))) (sSeq (sSet 5 (eIf (eTest (eB fEqA (eV 4) (eC (.str "-1")))) (fNeg (eC (.int 1))) (eCall 1 m_number_in (eCons (eV 4) eNil))))
  (sSeq (sIf (eOrT (eTest (eB fIs (eV 5) (eC .non))) (eTest (eB fGt (eV 3) (eC (.int 1))))) (sRaise 7 ["line", "word"] (eCons (eV 1) (eCons (eV 3) eNil))) sSkip)
  (sExpr (eLm fAppend (eV 2) (eCons (eV 5) eNil))))))
  (sSeq (sIf (eTest (eB fLtT (eBf fLen (eCons (eV 2) eNil)) (eC (.int 2)))) (sRaise 7 ["line", "word"] (eCons (eV 1) (eCons (eBf fLen (eCons (eV 2) eNil)) eNil))) sSkip)
  (sRet (eBf fTuple (eCons (eV 2) eNil))))))
def m_places_in : Fn := runF 6 b_places_in
def b_read_house : S := (sSeq (sExpr (eCall 1 m_need_string (eCons (eV 0) eNil)))
  (sSeq (sSet 1 (eM1 fSplit (eV 0) (eC (.str "\n"))))
  (sSeq (sSet 2 (eM1 fSplit (eB fIx (eV 1) (eC (.int 0))) (eC (.str " "))))
  (sSeq (sIf (eTest (eB fIs (eCall 1 m_number_in (eCons (eB fIx (eV 2) (eC (.int 0))) eNil)) (eC .non))) (sRaise 7 ["line", "word"] (eCons (eC (.int 0)) (eCons (eC (.int 0)) eNil))) sSkip)
  (sSeq (sIf (eTest (eB fGt (eBf fLen (eCons (eV 2) eNil)) (eC (.int 1)))) (sRaise 7 ["line", "word"] (eCons (eC (.int 0)) (eCons (eC (.int 1)) eNil))) sSkip)
  (sSeq (sSet 3 (eLc false [4, 5] (itEnum (eCons (eSl (eV 1) (oSome (eC (.int 1))) oNone) eNil)) (gT 2 (gCons' (gN 4) (gCons' (gN 5) gNil'))) eYes (eCall 2 m_places_in (eCons (eV 5) (eCons (eB fAdd (eV 4) (eC (.int 1))) eNil)))))
  (sRet (eCall 1 m_need_house (eCons (eTup (eCons (eCall 1 m_number_in (eCons (eB fIx (eV 2) (eC (.int 0))) eNil)) (eCons (eBf fTuple (eCons (eV 3) eNil)) eNil))) eNil)))))))))
def m_read_house : Fn := runF 6 b_read_house
def b_numbers_in : S := (sSeq (sIf (eTest (eB fEqA (eB fIx (eV 0) (eC (.int 0))) (eC (.str "-")))) (sSeq (sIf (eTest (eB fGt (eBf fLen (eCons (eV 0) eNil)) (eC (.int 1)))) (sRaise 7 ["line", "word"] (eCons (eC (.int 0)) (eCons (eC (.int 1)) eNil))) sSkip)
  (sRet (eTup eNil))) sSkip)
  (sSeq (sSet 1 (eNew eNil))
  (sSeq (sFor (itEnum (eCons (eV 0) eNil)) (gT 2 (gCons' (gN 2) (gCons' (gN 3) gNil'))) (sSeq (sSet 4 (eCall 1 m_number_in (eCons (eV 3) eNil)))
  (sSeq (sIf (eTest (eB fIs (eV 4) (eC .non))) (sRaise 7 ["line", "word"] (eCons (eC (.int 0)) (eCons (eV 2) eNil))) sSkip)
  (sExpr (eLm fAppend (eV 1) (eCons (eV 4) eNil))))))
  (sRet (eBf fTuple (eCons (eV 1) eNil))))))
def m_numbers_in : Fn := runF 5 b_numbers_in
def b_read_counts : S := (sSeq (sExpr (eCall 1 m_need_house (eCons (eV 0) eNil)))
  (sSeq (sExpr (eCall 1 m_need_string (eCons (eV 1) eNil)))
  (sSeq (sSet 2 (eM1 fSplit (eV 1) (eC (.str "\n"))))
  (sSeq (sSet 3 (eCall 1 m_numbers_in (eCons (eM1 fSplit (eB fIx (eV 2) (eC (.int 0))) (eC (.str " "))) eNil)))
  (sSeq (sIf (eTest (eB fGt (eBf fLen (eCons (eV 2) eNil)) (eC (.int 1)))) (sRaise 7 ["line", "word"] (eCons (eC (.int 1)) (eCons (eC (.int 0)) eNil))) sSkip)
  (sRet (eCall 2 m_need_counts (eCons (eV 0) (eCons (eV 3) eNil)))))))))
def m_read_counts : Fn := runF 4 b_read_counts
def b__law_fault : S := (sSeq (sSet 1 (eNew eNil))
  (sSeq (sIf (eTest (eIsX (isL [1]) 11 (eV 0))) (sExpr (eLm fAppend (eV 1) (eCons (eTup (eCons (eC (.str "house")) (eCons (eFld 11 "part" (eV 0)) eNil))) eNil))) sSkip)
  (sSeq (sIf (eTest (eIsX (isL [2]) 11 (eV 0))) (sExpr (eLm fAppend (eV 1) (eCons (eTup (eCons (eC (.str "heads")) (eCons (eFld 11 "number" (eV 0)) eNil))) eNil))) sSkip)
  (sSeq (sIf (eTest (eIsX (isL [3]) 11 (eV 0))) (sExpr (eLm fAppend (eV 1) (eCons (eTup (eCons (eC (.str "counts")) (eCons (eFld 11 "number" (eV 0)) eNil))) eNil))) sSkip)
  (sSeq (sIf (eTest (eIsX (isL [4]) 11 (eV 0))) (sExpr (eLm fAppend (eV 1) (eCons (eTup (eCons (eC (.str "notes")) (eCons (eFld 11 "number" (eV 0)) eNil))) eNil))) sSkip)
  (sSeq (sIf (eTest (eIsX (isL [5]) 11 (eV 0))) (sExpr (eLm fAppend (eV 1) (eCons (eTup (eCons (eC (.str "number")) (eCons (eFld 11 "given" (eV 0)) eNil))) eNil))) sSkip)
  (sSeq (sIf (eTest (eIsX (isL [6]) 11 (eV 0))) (sExpr (eLm fAppend (eV 1) (eCons (eTup (eCons (eC (.str "paper")) (eCons (eFld 11 "part" (eV 0)) eNil))) eNil))) sSkip)
  (sSeq (sIf (eTest (eIsX (isL [7]) 11 (eV 0))) (sExpr (eLm fAppend (eV 1) (eCons (eTup (eCons (eC (.str "text")) (eCons (eFld 11 "line" (eV 0)) (eCons (eFld 11 "word" (eV 0)) eNil)))) eNil))) sSkip)
  (sSeq (sIf (eTest (eIsX (isL [8]) 11 (eV 0))) (sExpr (eLm fAppend (eV 1) (eCons (eTup (eCons (eC (.str "order")) (eCons (eFld 11 "word" (eV 0)) eNil))) eNil))) sSkip)
  (sSeq (sIf (eTest (eIsX (isL [9]) 11 (eV 0))) (sExpr (eLm fAppend (eV 1) (eCons (eTup (eCons (eC (.str "many")) (eCons (eFld 11 "most" (eV 0)) eNil))) eNil))) sSkip)
  (sSeq (sIf (eTest (eIsX (isL [10]) 11 (eV 0))) (sExpr (eLm fAppend (eV 1) (eCons (eTup (eCons (eC (.str "left")) (eCons (eFld 11 "many" (eV 0)) eNil))) eNil))) sSkip)
  (sRet (eIf (eTest (eB fEqA (eBf fLen (eCons (eV 1) eNil)) (eC (.int 1)))) (eB fIx (eV 1) (eC (.int 0))) (eTup (eCons (eC (.str "odd")) (eCons (eBf fLen (eCons (eV 1) eNil)) eNil))))))))))))))))
def m__law_fault : Fn := runF 2 b__law_fault
def b__law_number : S := (sSeq (sIf (eOrT (eNotT (eTest (eChain fLe fLe (eC (.int 1)) (eBf fLen (eCons (eV 0) eNil)) (eC (.int 31))))) (eTest (eB fNeA (eLc false [1] (itV (eV 0)) (gN 1) (eTest (eB fNotIn (eV 1) (eC (.str "0123456789")))) (eV 1)) (eLst eNil)))) (sRet (eLst eNil)) sSkip)
  (sRet (eIf (eTest (eB fEqA (eBf fStr (eCons (eBf fIntA (eCons (eV 0) eNil)) eNil)) (eV 0))) (eLst (eCons (eBf fIntA (eCons (eV 0) eNil)) eNil)) (eLst eNil))))
def m__law_number : Fn := runF 2 b__law_number
def b__law_bent : S := (sSeq (sSet 2 (eLc true [3] (itV (eM1 fSplit (eV 1) (eC (.str "\n")))) (gN 3) eYes (eM1 fSplit (eV 3) (eC (.str " ")))))
  (sSeq (sPar 4 5 (eCons (eCall 2 m__law_next (eCons (eV 0) (eCons (eBf fLen (eCons (eV 2) eNil)) eNil))) (eCons (eCall 2 m__law_next (eCons (eV 0) (eCons (eC (.int 8)) eNil))) eNil)))
  (sSeq (sSet 6 (eB fIx (eV 2) (eV 4)))
  (sSeq (sPar 7 8 (eCons (eCall 2 m__law_next (eCons (eV 0) (eCons (eBf fLen (eCons (eV 6) eNil)) eNil))) (eCons (eCall 2 m__law_next (eCons (eV 0) (eCons (eB fAdd (eBf fLen (eCons (eV 6) eNil)) (eC (.int 1))) eNil))) eNil)))
  (sSeq (sSet 9 (eLst (eCons (eC (.str "")) (eCons (eC (.str "0")) (eCons (eC (.str "1")) (eCons (eC (.str "01")) (eCons (eC (.str "-1")) (eCons (eC (.str "-")) (eCons (eC (.str "-2")) (eCons (eC (.str "--1")) (eCons (eC (.str "x")) (eCons (eC (.str "9")) eNil))))))))))))
  (sSeq (sSet 9 (eB fAdd (eV 9) (eLst (eCons (eB fMul (eC (.str "9")) (eC (.int 31))) (eCons (eB fMul (eC (.str "9")) (eC (.int 32))) (eCons (eC (.str "+1")) (eCons (eC (.str "7\n8")) (eCons (eC (.str "\n")) (eCons (eC (.str "1_0")) eNil)))))))))
  (sSeq (sSet 10 (eCall 2 m__law_pick (eCons (eV 0) (eCons (eV 9) eNil))))
  (sSeq (sIf (eTest (eB fEqA (eV 5) (eC (.int 0)))) (sAsg (gIx (eV 2) (eV 4)) (eB fAdd (eSl (eV 6) oNone (oSome (eV 7))) (eSl (eV 6) (oSome (eB fAdd (eV 7) (eC (.int 1)))) oNone))) (sIf (eTest (eB fEqA (eV 5) (eC (.int 1)))) (sAsg (gIx (eV 2) (eV 4)) (eB fAdd (eB fAdd (eSl (eV 6) oNone (oSome (eV 8))) (eLst (eCons (eB fIx (eV 6) (eV 7)) eNil))) (eSl (eV 6) (oSome (eV 8)) oNone))) (sIf (eTest (eB fEqA (eV 5) (eC (.int 2)))) (sSet 2 (eB fAdd (eB fAdd (eSl (eV 2) oNone (oSome (eV 4))) (eLst (eCons (eV 6) eNil))) (eSl (eV 2) (oSome (eV 4)) oNone))) (sIf (eTest (eB fEqA (eV 5) (eC (.int 3)))) (sSet 2 (eB fAdd (eSl (eV 2) oNone (oSome (eV 4))) (eSl (eV 2) (oSome (eB fAdd (eV 4) (eC (.int 1)))) oNone))) (sIf (eTest (eB fLtT (eV 5) (eC (.int 6)))) (sAsg (gIx (eV 2) (eV 4)) (eB fAdd (eB fAdd (eSl (eV 6) oNone (oSome (eV 8))) (eLst (eCons (eV 10) eNil))) (eSl (eV 6) (oSome (eV 8)) oNone))) (sAsg (gIx (eV 2) (eV 4)) (eB fAdd (eB fAdd (eSl (eV 6) oNone (oSome (eV 7))) (eLst (eCons (eV 10) eNil))) (eSl (eV 6) (oSome (eB fAdd (eV 7) (eC (.int 1)))) oNone))))))))
  (sRet (eM1 fJoin (eC (.str "\n")) (eLc false [3] (itV (eV 2)) (gN 3) eYes (eM1 fJoin (eC (.str " ")) (eV 3)))))))))))))
def m__law_bent : Fn := runF 11 b__law_bent
def b_least_moved : S := (sSeq (sSet 2 (eC (.int 0)))
  (sSeq (sFor (itV (eCall 2 m_parts_of (eCons (eV 0) (eCons (eV 1) eNil)))) (gN 3) (sSeq (sSet 4 (eBf fSum (eCons (eLc false [5] (itV (eV 3)) (gN 5) eYes (eBf fMax (eCons (eC (.int 0)) (eCons (eB fSub (eCall 3 m_from_place (eCons (eV 0) (eCons (eV 1) (eCons (eV 5) eNil)))) (eCall 3 m_to_place (eCons (eV 0) (eCons (eV 1) (eCons (eV 5) eNil))))) eNil)))) eNil)))
  (sAug fIadd 2 (eBf fMax (eCons (eC (.int 1)) (eCons (eV 4) eNil))))))
  (sRet (eV 2))))
def m_least_moved : Fn := runF 6 b_least_moved
def b_moved : S := (sSeq (sExpr (eCall 3 m_need_asked (eCons (eV 0) (eCons (eV 1) (eCons (eV 2) eNil)))))
  (sSeq (sExpr (eCall 3 m_need_order (eCons (eV 0) (eCons (eV 1) (eCons (eV 2) eNil)))))
  (sSeq (sSet 3 (eLc false [4, 5] (itEnum (eCons (eV 1) eNil)) (gT 2 (gCons' (gN 4) (gCons' (gN 5) gNil'))) eYes (eBf fMin (eCons (eV 5) (eCons (eCall 3 m_from_place (eCons (eV 0) (eCons (eV 2) (eCons (eV 4) eNil)))) eNil)))))
  (sRet (eTup (eCons (eCall 2 m_least_moved (eCons (eV 0) (eCons (eV 2) eNil))) (eCons (eB fAdd (eCall 3 m_from_place (eCons (eV 0) (eCons (eV 2) (eCons (eC (.int (-1))) eNil)))) (eBf fSum (eCons (eV 3) eNil))) eNil)))))))
def m_moved : Fn := runF 6 b_moved
def b__law_far : S := (sRet (eBf fTuple (eCons (eLc false [2] (itV (eV 1)) (gN 2) eYes (eIf (eTest (eB fGe (eV 2) (eC (.int 0)))) (eB fSub (eV 0) (eV 2)) (fNeg (eC (.int 1))))) eNil)))
def m__law_far : Fn := runF 3 b__law_far
end Gc

set_option Elab.async false
set_option linter.all false
set_option maxRecDepth 100000
set_option maxHeartbeats 2000000
namespace Gc
open PySem PySem.Spec PyProof.Rows L2 Ev
section
variable {ρ : Ev.Env} {st : Sto}
@[simp] theorem c_V {i : Nat} : eV i ρ st = (match ρ[i]? with | some (some v) => .ok v st | _ => .bad) := (rfl)
@[simp] theorem c_C {v : Val} : eC v ρ st = .ok v st := (rfl)
@[simp] theorem c_Nil : eNil ρ st = .ok [] st := (rfl)
@[simp] theorem c_Cons {e : E} {es : EA} : eCons e es ρ st = bindR (e ρ st) fun v st1 => bindR (es ρ st1) fun vs st2 => .ok (v :: vs) st2 := (rfl)
@[simp] theorem c_B {f : Sto → Val → Val → Option Val} {a b : E} : eB f a b ρ st = bindR (a ρ st) fun v st1 => bindR (b ρ st1) fun w st2 => optR (f st2 v w) st2 := (rfl)
@[simp] theorem c_Bf {f : Sto → List Val → Option Val} {a : EA} : eBf f a ρ st = bindR (a ρ st) fun vs st1 => optR (f st1 vs) st1 := (rfl)
@[simp] theorem c_Test {e : E} : eTest e ρ st = bindR (e ρ st) fun v st1 => match v with | .bl b => .ok b st1 | _ => .bad := (rfl)
@[simp] theorem c_NotT {t : ET} : eNotT t ρ st = bindR (t ρ st) fun b st1 => .ok (!b) st1 := (rfl)
@[simp] theorem c_AndT {a b : ET} : eAndT a b ρ st = bindR (a ρ st) fun c st1 => if c = true then b ρ st1 else .ok false st1 := (rfl)
@[simp] theorem c_OrT {a b : ET} : eOrT a b ρ st = bindR (a ρ st) fun c st1 => if c = true then .ok true st1 else b ρ st1 := (rfl)
@[simp] theorem c_And {a b : E} : eAnd a b ρ st = bindR (eTest a ρ st) fun c st1 => if c = true then b ρ st1 else .ok (.bl false) st1 := (rfl)
@[simp] theorem c_Or {a b : E} : eOr a b ρ st = bindR (eTest a ρ st) fun c st1 => if c = true then .ok (.bl true) st1 else b ρ st1 := (rfl)
@[simp] theorem c_Not {a : E} : eNot a ρ st = bindR (eTest a ρ st) fun c st1 => .ok (.bl (!c)) st1 := (rfl)
@[simp] theorem c_If {t : ET} {a b : E} : eIf t a b ρ st = bindR (t ρ st) fun c st1 => if c = true then a ρ st1 else b ρ st1 := (rfl)
@[simp] theorem c_Neg {a : E} : fNeg a ρ st = bindR (a ρ st) fun v st1 => match v with | .int i => .ok (.int (-i)) st1 | _ => .bad := (rfl)
@[simp] theorem c_Tup {as : EA} : eTup as ρ st = bindR (as ρ st) fun vs st1 => if vs.length ≤ sizeLine then .ok (.tup vs) st1 else .bad := (rfl)
@[simp] theorem c_Lst {as : EA} : eLst as ρ st = bindR (as ρ st) fun vs st1 => if vs.length ≤ sizeLine then .ok (.lst vs) st1 else .bad := (rfl)
@[simp] theorem c_New {as : EA} : eNew as ρ st = bindR (as ρ st) fun vs st1 => if vs.length ≤ sizeLine then .ok (.loc st1.length) (st1 ++ [.lst vs]) else .bad := (rfl)
@[simp] theorem c_NewK : eNewK ρ st = .ok (.loc st.length) (st ++ [.dK []]) := (rfl)
@[simp] theorem c_NewT : eNewT ρ st = .ok (.loc st.length) (st ++ [.dT []]) := (rfl)
@[simp] theorem c_ListN {a : EA} : eListN a ρ st = bindR (a ρ st) fun vs st1 => match vs with
  | [v] => match seqOf st1 v with
    | some xs => .ok (.loc st1.length) (st1 ++ [.lst xs])
    | none => .bad
  | _ => .bad := (rfl)
@[simp] theorem c_MulN {a b : E} : eMulN a b ρ st = bindR (a ρ st) fun v st1 => bindR (b ρ st1) fun w st2 => match v, w with
  | .lst xs, .int k => if -(2 ^ 63) ≤ k ∧ k < 2 ^ 63 ∧ xs.length * k.toNat ≤ sizeLine then .ok (.loc st2.length) (st2 ++ [.lst (List.replicate k.toNat xs).flatten]) else .bad
  | _, _ => .bad := (rfl)
@[simp] theorem c_Call {np : Nat} {m : Fn} {a : EA} : eCall np m a ρ st = bindR (a ρ st) fun vs st1 => if vs.length = np then m vs st1 else .bad := (rfl)
@[simp] theorem c_CallK {np kn : Nat} {perm : List Nat} {m : Fn} {a : EA} : eCallK np kn perm m a ρ st = bindR (a ρ st) fun zs st1 => if zs.length = kn ∧ (permL perm zs).length = np then m (permL perm zs) st1 else .bad := (rfl)
@[simp] theorem c_Isi {t : Ty6} {a : E} : eIsi t a ρ st = bindR (a ρ st) fun v st1 => match isTy t st1 v with | some b => .ok (.bl b) st1 | none => .bad := (rfl)
@[simp] theorem c_Lm {f : Sto → List Val → List Val → Option (Val × List Val)} {o : E} {a : EA} : eLm f o a ρ st = bindR (o ρ st) fun v st1 => match v with
  | .loc n => match st1[n]? with
    | some (.lst _) => bindR (a ρ st1) fun vs st2 => match st2[n]? with
      | some (.lst xs) => match f st2 xs vs with
        | some (z, ys) => .ok z (st2.set n (.lst ys))
        | none => .bad
      | _ => .bad
    | _ => .bad
  | _ => .bad := (rfl)
@[simp] theorem c_Sl {a : E} {lo hi : EO} : eSl a lo hi ρ st = bindR (a ρ st) fun v st1 => bindR (lo ρ st1) fun l st2 => bindR (hi ρ st2) fun h st3 => match v with
  | .tup xs => .ok (.tup (cutG xs l h)) st3
  | .str z => if z.length ≤ sizeLine then .ok (.str (cutS z l h)) st3 else .bad
  | v => match lstOf st3 v with
    | some xs => .ok (.lst (cutG xs l h)) st3
    | none => .bad := (rfl)
@[simp] theorem c_oNone : oNone ρ st = .ok none st := (rfl)
@[simp] theorem c_oSome {a : E} : oSome a ρ st = bindR (a ρ st) fun v st1 => match v with | .int i => .ok (some i) st1 | _ => .bad := (rfl)
@[simp] theorem c_RevT {a : E} : eRevT a ρ st = bindR (a ρ st) fun v st1 => match v with | .tup xs => .ok (.tup xs.reverse) st1 | _ => .bad := (rfl)
@[simp] theorem c_itV {e : E} : itV e ρ st = bindR (e ρ st) fun v st1 => match v with | .lst xs => .ok xs st1 | .tup xs => .ok xs st1 | .str z => .ok (strV z) st1 | _ => .bad := (rfl)
@[simp] theorem c_itEnum {a : EA} : itEnum a ρ st = bindR (a ρ st) fun vs st1 => match vs with | [.lst xs] => .ok (enumV 0 xs) st1 | [.tup xs] => .ok (enumV 0 xs) st1 | _ => .bad := (rfl)
@[simp] theorem c_itZip {a : EA} : itZip a ρ st = bindR (a ρ st) fun vs st1 => match vs with | [.lst xs, .lst ys] => .ok (zipV xs ys) st1 | [.tup xs, .tup ys] => .ok (zipV xs ys) st1 | _ => .bad := (rfl)
@[simp] theorem c_itRange1 {a : EA} : itRange1 a ρ st = bindR (a ρ st) fun vs st1 => match vs with | [.int j] => if -(2 ^ 62) ≤ j ∧ j < 2 ^ 62 then .ok (rangeV 0 j.toNat) st1 else .bad | _ => .bad := (rfl)
@[simp] theorem c_itRange2 {a : EA} : itRange2 a ρ st = bindR (a ρ st) fun vs st1 => match vs with | [.int i, .int j] => if -(2 ^ 62) ≤ i ∧ i < 2 ^ 62 ∧ -(2 ^ 62) ≤ j ∧ j < 2 ^ 62 then .ok (rangeV i (j - i).toNat) st1 else .bad | _ => .bad := (rfl)
@[simp] theorem c_Yes : eYes ρ st = .ok true st := (rfl)
@[simp] theorem c_Lc {new : Bool} {own : List Nat} {it : EI} {g : G} {c : ET} {e : E} : eLc new own it g c e ρ st = bindR (it ρ st) fun items st1 => lcE new own g c e ρ items st1 := (rfl)
@[simp] theorem c_gN {i : Nat} {v : Val} : gN i v ρ st = some (ρ.set i (some v), st) := (rfl)
@[simp] theorem c_gNil : gNil' [] ρ st = some (ρ, st) := (rfl)
@[simp] theorem c_gCons {g : G} {gs : GS} {v : Val} {r : List Val} : gCons' g gs (v :: r) ρ st = (match g v ρ st with | some (ρ1, st1) => gs r ρ1 st1 | none => none) := (rfl)
@[simp] theorem c_gT {n : Nat} {gs : GS} {xs : List Val} : gT n gs (.tup xs) ρ st = if xs.length = n then gs xs ρ st else none := (rfl)
@[simp] theorem c_gIx {o i : E} {v : Val} : gIx o i v ρ st = (match o ρ st with
  | .ok w st1 => match i ρ st1 with
    | .ok k st2 => (fSet st2 w k v).map fun st3 => (ρ, st3)
    | _ => none
  | _ => none) := (rfl)
@[simp] theorem d_Skip : sSkip ρ st = .nx ρ st := (rfl)
@[simp] theorem d_Seq {a b : S} : sSeq a b ρ st = (match a ρ st with | .nx ρ1 st1 => b ρ1 st1 | r => r) := (rfl)
@[simp] theorem d_bindS_ok {α : Type} {a : α} {f : α → Sto → SR} : bindS (.ok a st) ρ f = f a st := (rfl)
@[simp] theorem d_Expr {e : E} : sExpr e ρ st = bindS (e ρ st) ρ fun _ st1 => .nx ρ st1 := (rfl)
@[simp] theorem d_Ret {e : E} : sRet e ρ st = bindS (e ρ st) ρ fun v st1 => .rt v st1 := (rfl)
@[simp] theorem d_RetN : sRetN ρ st = .rt .non st := (rfl)
@[simp] theorem d_If {t : ET} {a b : S} : sIf t a b ρ st = bindS (t ρ st) ρ fun c st1 => if c = true then a ρ st1 else b ρ st1 := (rfl)
@[simp] theorem d_Set {i : Nat} {e : E} : sSet i e ρ st = bindS (e ρ st) ρ fun v st1 => .nx (ρ.set i (some v)) st1 := (rfl)
@[simp] theorem d_Asg {g : G} {e : E} : sAsg g e ρ st = bindS (e ρ st) ρ fun v st1 => match g v ρ st1 with | some (ρ2, st2) => .nx ρ2 st2 | none => .bad := (rfl)
@[simp] theorem d_Par {i j : Nat} {a : EA} : sPar i j a ρ st = bindS (a ρ st) ρ fun vs st1 => match vs with | [v, w] => .nx ((ρ.set i (some v)).set j (some w)) st1 | _ => .bad := (rfl)
@[simp] theorem d_For {it : EI} {g : G} {b : S} : sFor it g b ρ st = bindS (it ρ st) ρ fun vs st1 => forL g b vs ρ st1 := (rfl)
@[simp] theorem d_Aug {f : Sto → Val → Val → Option Val} {i : Nat} {e : E} : sAug f i e ρ st = (match ρ[i]? with
  | some (some v) => bindS (e ρ st) ρ fun w st1 => match f st1 v w with
    | some z => .nx (ρ.set i (some z)) st1
    | none => .bad
  | _ => .bad) := (rfl)
@[simp] theorem d_forNil {g : G} {b : S} : forL g b [] ρ st = .nx ρ st := (rfl)
theorem forL_cons {g : G} {b : S} {v : Val} {vs : List Val} : forL g b (v :: vs) ρ st = (match g v ρ st with
    | some (ρ1, st1) => match b ρ1 st1 with
      | .nx ρ2 st2 => forL g b vs ρ2 st2
      | .ct ρ2 st2 => forL g b vs ρ2 st2
      | .bk ρ2 st2 => .nx ρ2 st2
      | .rt v st2 => .rt v st2
      | .ex x ρ2 st2 => .ex x ρ2 st2
      | .bad => .bad
    | none => .bad) := (rfl)
@[simp] theorem k_fI0 {g : Int → Int → Val} {i j : Int} : fI0 g st (.int i) (.int j) = some (g i j) := (rfl)
@[simp] theorem k_lt {i j : Int} : fLt st (.int i) (.int j) = some (.bl (decide (i < j))) := (rfl)
@[simp] theorem k_ltT {i j : Int} : fLtT st (.int i) (.int j) = some (.bl (decide (i < j))) := (rfl)
@[simp] theorem k_le {i j : Int} : fLe st (.int i) (.int j) = some (.bl (decide (i ≤ j))) := (rfl)
@[simp] theorem k_gt {i j : Int} : fGt st (.int i) (.int j) = some (.bl (decide (j < i))) := (rfl)
@[simp] theorem k_ge {i j : Int} : fGe st (.int i) (.int j) = some (.bl (decide (j ≤ i))) := (rfl)
@[simp] theorem k_sub {i j : Int} : fSub st (.int i) (.int j) = some (.int (i - j)) := (rfl)
@[simp] theorem k_add {i j : Int} : fAdd st (.int i) (.int j) = some (.int (i + j)) := (rfl)
@[simp] theorem k_eqI {i j : Int} : fEqA st (.int i) (.int j) = some (.bl (decide (i = j))) := (rfl)
@[simp] theorem k_neI {i j : Int} : fNeA st (.int i) (.int j) = some (.bl (!decide (i = j))) := (rfl)
@[simp] theorem k_eqS {i j : Str} : fEqA st (.str i) (.str j) = some (.bl (decide (i = j))) := (rfl)
@[simp] theorem k_neS {i j : Str} : fNeA st (.str i) (.str j) = some (.bl (!decide (i = j))) := (rfl)
@[simp] theorem k_int {i : Int} : fIntA st [.int i] = some (.int i) := (rfl)
@[simp] theorem k_intB {b : Bool} : fIntA st [.bl b] = some (.int (if b then 1 else 0)) := (rfl)
@[simp] theorem k_tupT {xs : List Val} : fTuple st [.tup xs] = some (.tup xs) := (rfl)
@[simp] theorem k_tupL {xs : List Val} : fTuple st [.lst xs] = some (.tup xs) := (rfl)
@[simp] theorem k_lstT {xs : List Val} : fListA st [.tup xs] = some (.lst xs) := (rfl)
@[simp] theorem k_lstL {xs : List Val} : fListA st [.lst xs] = some (.lst xs) := (rfl)
@[simp] theorem k_seqT {xs : List Val} : seqOf st (.tup xs) = some xs := (rfl)
@[simp] theorem k_seqL {xs : List Val} : seqOf st (.lst xs) = some xs := (rfl)
@[simp] theorem k_lstOf {xs : List Val} : lstOf st (.lst xs) = some xs := (rfl)
theorem k_lenT {xs : List Val} : fLen st [.tup xs] = some (.int xs.length) := (rfl)
theorem k_lenL {xs : List Val} : fLen st [.lst xs] = some (.int xs.length) := (rfl)
@[simp] theorem k_isiT {t : Ty6} {xs : List Val} : isTy t st (.tup xs) = some (match t with | .tuple => true | _ => false) := (rfl)
@[simp] theorem k_isiI {t : Ty6} {i : Int} : isTy t st (.int i) = some (match t with | .int => true | _ => false) := (rfl)
theorem sz {n : Nat} (h : n ≤ 16777216) : n ≤ sizeLine := by rw [sizeLine_eq]; exact h
@[simp] theorem k_ix0 {x : Val} {xs : List Val} : fIx st (.tup (x :: xs)) (.int 0) = some x := ix_tup (by decide) rfl
@[simp] theorem k_ix1 {x y : Val} {xs : List Val} : fIx st (.tup (x :: y :: xs)) (.int 1) = some y := ix_tup (by decide) rfl
@[simp] theorem k_ixL0 {x : Val} {xs : List Val} : fIx st (.lst (x :: xs)) (.int 0) = some x := ix_lst (by decide) rfl
end
theorem runF_of {n : Nat} {b : S} {args : List Val} {st st' more : Sto} {v : Val} (h : b (startE n args) st = .rt v (st' ++ more)) (hl : st'.length = st.length) (ho : okOld st st' = true) (hv : belV st.length v = true) : runF n b args st = .ok v st' := by
  unfold runF
  rw [h]
  show fin st v (st' ++ more) = _
  rw [fin_bel (okOld_app ho more) hv, ← hl, List.take_left]
theorem runF_of0 {n : Nat} {b : S} {args : List Val} {st st' : Sto} {v : Val} (h : b (startE n args) st = .rt v st') (hl : st'.length = st.length) (ho : okOld st st' = true) (hv : belV st.length v = true) : runF n b args st = .ok v st' :=
  runF_of (more := []) (by rw [List.append_nil]; exact h) hl ho hv
/-- the draw alone is changed -/
theorem okOld_draw {cs cs' : List Int} {a l u a' l' u' : Int} (rest : Sto) : okOld (drawOb cs a l u :: rest) (drawOb cs' a' l' u' :: rest) = true := by
  have e : drawOb cs' a' l' u' :: rest = (drawOb cs a l u :: rest).set 0 (drawOb cs' a' l' u') := (rfl)
  rw [e]
  exact okOld_set bel_draw
end Gc

set_option Elab.async false
set_option linter.all false
set_option maxRecDepth 100000
set_option maxHeartbeats 4000000
namespace Gc
open PySem PySem.Spec PyProof.Rows L2 Ev
/-- the state of the draws; B bounds how many were mixed -/
structure DrOk (cs : List Int) (a l u : Int) (B : Int) : Prop where
  ne : cs ≠ []
  len : cs.length ≤ 1000
  a0 : 0 ≤ a
  l0 : 0 ≤ l
  u0 : 0 ≤ u
  ub : u ≤ B
theorem DrOk.le {cs : List Int} {a l u B B' : Int} (h : DrOk cs a l u B) (hb : B ≤ B') : DrOk cs a l u B' := ⟨h.ne, h.len, h.a0, h.l0, h.u0, by have := h.ub; omega⟩
theorem next_ok {cs : List Int} {a l u B many : Int} (rest : Sto) (h : DrOk cs a l u B) (hB : B < 2 ^ 59) (hm : 0 < many) (hmb : many ≤ 10 ^ 40) :
    ∃ r a' l' u', m__law_next [.loc 0, .int many] (drawOb cs a l u :: rest) = .ok (.int r) (drawOb cs a' l' u' :: rest) ∧ 0 ≤ r ∧ r < many ∧ DrOk cs a' l' u' (B + 1) := by
  have hb2 : many.natAbs < 2 ^ 2000 := by
    have h1 : many.natAbs ≤ 10 ^ 40 := by omega
    have h2 : (10 : Nat) ^ 40 < 2 ^ 134 := by decide
    have h3 : (2 : Nat) ^ 134 ≤ 2 ^ 2000 := Nat.pow_le_pow_right (by decide) (by decide)
    omega
  have := h.ub
  obtain ⟨r, a', l', u', e, h1, h2, h3, h4, h5, h6⟩ := next_set (st := drawOb cs a l u :: rest) (d := 0) (many := many) (by simp) h.ne h.len h.a0 h.l0 h.u0 (by omega) hm hb2
  exact ⟨r, a', l', u', e, h1, h2, ⟨h.ne, h.len, h3, h4, h5, by omega⟩⟩
/-- one item of a list -/
theorem pick_ok {cs : List Int} {a l u B : Int} {xs : List Val} (rest : Sto) (h : DrOk cs a l u B) (hB : B < 2 ^ 59) (hx : xs ≠ []) (hl : xs.length ≤ 100000) (hb : ∀ x, x ∈ xs → belV (rest.length + 1) x = true) :
    ∃ x a' l' u', x ∈ xs ∧ m__law_pick [.loc 0, .lst xs] (drawOb cs a l u :: rest) = .ok x (drawOb cs a' l' u' :: rest) ∧ DrOk cs a' l' u' (B + 1) := by
  have hp := List.length_pos_iff.mpr hx
  obtain ⟨r, a', l', u', e, h1, h2, h3⟩ := next_ok (many := (xs.length : Int)) rest h hB (by omega) (by omega)
  have hr : r.toNat < xs.length := by omega
  refine ⟨xs[r.toNat], a', l', u', List.getElem_mem hr, ?_, h3⟩
  have e2 : ∀ st, fIx st (.lst xs) (.int r) = some xs[r.toNat] := fun st => ix_lst h1 (List.getElem?_eq_getElem hr)
  refine runF_of0 ?_ rfl (okOld_draw rest) (hb _ (List.getElem_mem hr))
  simp [b__law_pick, startE, bindR, bindS, optR, k_lenL, e, e2]
theorem begin_ok (ns : List Int) (hl : ns.length ≤ 63) (rest : Sto) : ∃ cs, m__law_begin [.lst (ns.map .int)] [] = .ok (.loc 0) [drawOb cs 0 0 0] ∧ DrOk cs 0 0 0 0 := by
  refine ⟨ns ++ [0], ?_, ⟨by simp, by simp; omega, by decide, by decide, by decide, by decide⟩⟩
  unfold m__law_begin runK
  have hz : ((ns.map Val.int).length + 1 ≤ sizeLine) = True := eq_true (by rw [List.length_map]; exact sz (by omega))
  have e : fAdd [.dK []] (.lst (ns.map Val.int)) (.lst [.int 0]) = some (.lst ((ns ++ [0]).map .int)) := by
    simp only [fAdd, lstOf, dr, List.length_cons, List.length_nil, Nat.zero_add, hz, if_true, List.map_append, List.map_cons, List.map_nil]
  have e1 : (1 ≤ sizeLine) = True := eq_true (sz (by decide))
  have e2 : b__law_begin (startE 1 [.lst (ns.map .int)]) [] = .rt (.loc 0) [drawOb (ns ++ [0]) 0 0 0] := by
    simp [b__law_begin, startE, bindR, bindS, eDisp, epCons, epNil, Ev.keyOf, e1, optR, e, -List.map_append]
    rfl
  rw [e2]
  rfl
def gh (rooms : Int) (gs : List (Int × Int)) : Val := .tup [.int rooms, .tup (gs.map pV)]
def ltG (a b : Int × Int) : Prop := a.1 < b.1 ∨ (a.1 = b.1 ∧ a.2 < b.2)
def okG (rooms : Int) (g : Int × Int) : Prop := -1 ≤ g.1 ∧ g.1 ≤ rooms - 1 ∧ -1 ≤ g.2 ∧ g.2 ≤ rooms - 1 ∧ g.1 ≠ g.2
structure GoodH (rooms : Int) (gs : List (Int × Int)) : Prop where
  lo : 1 ≤ rooms
  hi : rooms ≤ 8
  len : gs.length ≤ 16
  at_ : ∀ g, g ∈ gs → okG rooms g
  srt : gs.Pairwise ltG
theorem bel_pV {n : Nat} : ∀ gs : List (Int × Int), belVs n (gs.map pV) = true
  | [] => rfl
  | g :: gs => by simp [belVs, belV, pV, bel_pV gs]
theorem bel_gh {n : Nat} {rooms : Int} {gs : List (Int × Int)} : belV n (gh rooms gs) = true := by
  simp [gh, belV, belVs, bel_pV]
theorem bel_ints {n : Nat} (cs : List Int) : belV n (.tup (cs.map .int)) = true := by
  simp [belV, bel_intsL]
theorem rangeV_length (a : Int) : ∀ n : Nat, (rangeV a n).length = n := by
  intro n
  simp [rangeV]
def kG (g : Int × Int) : List Key := [.inl g.1, .inl g.2]
structure Found (size : Nat) (rooms : Int) (kvs : List (List Key × Val)) (gs : List (Int × Int)) : Prop where
  keys : kvs.map (·.1) = gs.map kG
  nd : gs.Nodup
  len : gs.length ≤ size
  at_ : ∀ g, g ∈ gs → okG rooms g
theorem Found.klen {size : Nat} {rooms : Int} {kvs : List (List Key × Val)} {gs : List (Int × Int)} (h : Found size rooms kvs gs) : kvs.length = gs.length := by
  have := congrArg List.length h.keys
  simpa using this
theorem put_found {size : Nat} {rooms : Int} {kvs : List (List Key × Val)} {gs : List (Int × Int)} (h : Found size rooms kvs gs) (hl : gs.length < size) {g : Int × Int} (hg : okG rooms g) (v : Val) : ∃ gs', Found size rooms (put kvs (kG g) v) gs' := by
  unfold put
  by_cases hm : (kvs.any fun kv => decide (kv.1 = kG g)) = true
  · rw [if_pos hm]
    refine ⟨gs, ?_, h.nd, h.len, h.at_⟩
    rw [← h.keys, List.map_map]
    apply List.map_congr_left
    intro kv _
    show (if kv.1 = kG g then (kv.1, v) else kv).1 = kv.1
    split <;> rfl
  · rw [if_neg hm]
    refine ⟨gs ++ [g], ?_, ?_, ?_, ?_⟩
    · rw [List.map_append, List.map_append, h.keys]
      rfl
    · rw [List.nodup_append]
      refine ⟨h.nd, by simp, fun a ha b hb => ?_⟩
      rw [List.mem_singleton] at hb
      subst hb
      intro e
      subst e
      refine hm ?_
      have : kG a ∈ kvs.map (·.1) := by rw [h.keys]; exact List.mem_map_of_mem ha
      obtain ⟨kv, hk, e⟩ := List.mem_map.mp this
      rw [List.any_eq_true]
      exact ⟨kv, hk, decide_eq_true e⟩
    · simp; omega
    · intro x hx
      rcases List.mem_append.mp hx with hx | hx
      · exact h.at_ x hx
      · rw [List.mem_singleton] at hx
        subst hx
        exact hg
theorem keys_pV {size : Nat} {rooms : Int} {kvs : List (List Key × Val)} {gs : List (Int × Int)} (h : Found size rooms kvs gs) : (kvs.map fun kv => Val.tup (kv.1.map kVal)) = gs.map pV := by
  have e : (kvs.map fun kv => Val.tup (kv.1.map kVal)) = (kvs.map (·.1)).map fun k => Val.tup (k.map kVal) := by rw [List.map_map]; rfl
  rw [e, h.keys, List.map_map]
  rfl
theorem pairsOf_pV : ∀ gs : List (Int × Int), pairsOf (gs.map pV) = some gs
  | [] => rfl
  | g :: gs => by
    rw [List.map_cons]
    show (pairsOf (gs.map pV)).map _ = _
    rw [pairsOf_pV gs]
    rfl
theorem sorted_pV {st : Sto} (gs : List (Int × Int)) : fSortedB st [.lst (gs.map pV)] = some (.lst ((sortP gs).map pV)) := by
  have e : fSorted st [.lst (gs.map pV)] = some (.lst ((sortP gs).map pV)) := by
    cases gs with
    | nil => simp [fSorted, lstOf, dr, intsOf, sortI, sortP, Gr.isort]
    | cons g gs =>
      have e : intsOf ((g :: gs).map pV) = none := rfl
      simp only [fSorted, lstOf, dr, e, pairsOf_pV, Option.map_some]
  unfold fSortedB
  rw [e]
theorem good_sort {size : Nat} {rooms : Int} {kvs : List (List Key × Val)} {gs : List (Int × Int)} (hs : size ≤ 16) (h1 : 1 ≤ rooms) (h8 : rooms ≤ 8) (h : Found size rooms kvs gs) : GoodH rooms (sortP gs) ∧ (sortP gs).length ≤ size := by
  have p : (sortP gs).Perm gs := Gr.isort_perm gs
  refine ⟨⟨h1, h8, by rw [p.length_eq]; exact Nat.le_trans h.len hs, fun g hg => h.at_ g (p.mem_iff.mp hg), ?_⟩, by rw [p.length_eq]; exact h.len⟩
  have nd : (sortP gs).Nodup := p.nodup_iff.mpr h.nd
  refine ((sortP_pw gs).and nd).imp fun {a b} ⟨hab, hne⟩ => ?_
  rw [leP_iff] at hab
  unfold ltG
  rcases hab with hab | ⟨h1, h2⟩
  · exact .inl hab
  · refine .inr ⟨h1, ?_⟩
    have : a.2 ≠ b.2 := fun e => hne (Prod.ext h1 e)
    omega
theorem other_ok {rooms r1 r2 : Int} (h1 : 0 ≤ r1) (h2 : r1 < rooms + 1) (h3 : 0 ≤ r2) (h4 : r2 < rooms) : ∃ o, (r1 - 1 + 1 + 1 + r2) % (rooms + 1) - 1 = o ∧ -1 ≤ o ∧ o ≤ rooms - 1 ∧ r1 - 1 ≠ o := by
  by_cases h : r1 - 1 + 1 + 1 + r2 < rooms + 1
  · rw [Int.emod_eq_of_lt (by omega) h]
    exact ⟨_, rfl, by omega, by omega, by omega⟩
  · have e : (r1 - 1 + 1 + 1 + r2) % (rooms + 1) = (r1 - 1 + 1 + 1 + r2 - (rooms + 1)) % (rooms + 1) := by rw [Int.sub_emod_right]
    rw [e, Int.emod_eq_of_lt (by omega) (by omega)]
    exact ⟨_, rfl, by omega, by omega, by omega⟩
/-- the place behind all -/
theorem snoc_get {d : Ob} {rest : Sto} {o : Ob} : (d :: (rest ++ [o]))[rest.length + 1]? = some o := by simp
theorem snoc_set {d : Ob} {rest : Sto} {o p : Ob} : (d :: (rest ++ [o])).set (rest.length + 1) p = d :: (rest ++ [p]) := by simp
theorem fSet_dT {d : Ob} {rest : Sto} {kvs : List (List Key × Val)} {a b : Int} {v : Val} (h : kvs.length ≤ 1000) : fSet (d :: (rest ++ [.dT kvs])) (.loc (rest.length + 1)) (.tup [.int a, .int b]) v = some (d :: (rest ++ [.dT (put kvs (kG (a, b)) v)])) := by
  have h2 : kvs.length < sizeLine := by rw [sizeLine_eq]; omega
  unfold fSet
  simp only [snoc_get]
  rw [if_pos h2]
  simp only [tupOf, Option.bind_some, keysOf, Ev.keyOf, Option.map_some, snoc_set]
  rfl
theorem fLen_dT {st : Sto} {n : Nat} {kvs : List (List Key × Val)} (h : st[n]? = some (.dT kvs)) : fLen st [.loc n] = some (.int kvs.length) := by
  simp [fLen, h]
theorem fMod_ok {st : Sto} {i j : Int} (h : 0 < j) : fMod st (.int i) (.int j) = some (.int (i % j)) := fMod_eq h
def houseLoop : S := sSeq (sSet 6 (eB fSub (eCall 2 m__law_next (eCons (eV 0) (eCons (eB fAdd (eV 3) (eC (.int 1))) eNil))) (eC (.int 1))))
  (sSeq (sSet 7 (eB fSub (eB fMod (eBf fIntA (eCons (eB fAdd (eB fAdd (eB fAdd (eV 6) (eC (.int 1))) (eC (.int 1))) (eCall 2 m__law_next (eCons (eV 0) (eCons (eV 3) eNil)))) eNil)) (eB fAdd (eV 3) (eC (.int 1)))) (eC (.int 1))))
  (sSeq (sIf (eTest (eB fLtT (eBf fLen (eCons (eV 4) eNil)) (eV 2))) (sAsg (gIx (eV 4) (eTup (eCons (eV 6) (eCons (eV 7) eNil)))) (eC (.bl true))) sSkip)
  (sIf (eAndT (eTest (eB fEqA (eCall 2 m__law_next (eCons (eV 0) (eCons (eC (.int 3)) eNil))) (eC (.int 0)))) (eTest (eB fLtT (eBf fLen (eCons (eV 4) eNil)) (eV 2)))) (sAsg (gIx (eV 4) (eTup (eCons (eV 7) (eCons (eV 6) eNil)))) (eC (.bl true))) sSkip)))
theorem put_step {size : Nat} (hs : size ≤ 16) {rooms : Int} {kvs : List (List Key × Val)} {gs : List (Int × Int)} (hf : Found size rooms kvs gs) {x y : Int} (hg : okG rooms (x, y)) {i j : Nat} : ∃ kvs1 gs1, Found size rooms kvs1 gs1 ∧ ∀ (d : Ob) (rest : Sto) (ρ : Ev.Env), ρ[2]? = some (some (.int size)) → ρ[4]? = some (some (.loc (rest.length + 1))) → ρ[i]? = some (some (.int x)) → ρ[j]? = some (some (.int y)) →
      sIf (eTest (eB fLtT (eBf fLen (eCons (eV 4) eNil)) (eV 2))) (sAsg (gIx (eV 4) (eTup (eCons (eV i) (eCons (eV j) eNil)))) (eC (.bl true))) sSkip ρ (d :: (rest ++ [.dT kvs])) = .nx ρ (d :: (rest ++ [.dT kvs1])) := by
  have hk := hf.klen
  by_cases hl : gs.length < size
  · obtain ⟨gs', f⟩ := put_found hf hl hg (.bl true)
    refine ⟨_, gs', f, fun d rest ρ h2 h4 h6 h7 => ?_⟩
    have hl' : ((kvs.length : Nat) : Int) < size := by omega
    simp [bindR, bindS, optR, h2, h4, h6, h7, fLen_dT snoc_get, hk, hl, fSet_dT (show kvs.length ≤ 1000 by omega), two_le]
  · refine ⟨kvs, gs, hf, fun d rest ρ h2 h4 h6 h7 => ?_⟩
    have hl' : ¬ ((kvs.length : Nat) : Int) < size := by omega
    simp [bindR, bindS, optR, h2, h4, fLen_dT snoc_get, hk, hl]
theorem turn_ok {size : Nat} (hs : size ≤ 16) {cs : List Int} {a l u B rooms : Int} {most : Val} {kvs : List (List Key × Val)} {gs : List (Int × Int)} {k : Val} {x6 x7 : Option Val} (rest : Sto) (hd : DrOk cs a l u B) (hB : B < 2 ^ 58) (h1 : 1 ≤ rooms) (h8 : rooms ≤ 8) (hf : Found size rooms kvs gs) :
    ∃ a' l' u' kvs' gs' y6 y7, houseLoop [some (.loc 0), some most, some (.int size), some (.int rooms), some (.loc (rest.length + 1)), some k, x6, x7] (drawOb cs a l u :: (rest ++ [.dT kvs])) = .nx [some (.loc 0), some most, some (.int size), some (.int rooms), some (.loc (rest.length + 1)), some k, y6, y7] (drawOb cs a' l' u' :: (rest ++ [.dT kvs']))
      ∧ DrOk cs a' l' u' (B + 3) ∧ Found size rooms kvs' gs' := by
  obtain ⟨r1, a1, l1, u1, e1, p1, q1, d1⟩ := next_ok (many := rooms + 1) (rest ++ [.dT kvs]) hd (by omega) (by omega) (by omega)
  obtain ⟨r2, a2, l2, u2, e2, p2, q2, d2⟩ := next_ok (many := rooms) (rest ++ [.dT kvs]) d1 (by omega) (by omega) (by omega)
  obtain ⟨o, ho, ho1, ho2, ho3⟩ := other_ok p1 q1 p2 q2
  have hg1 : okG rooms (r1 - 1, o) := ⟨by simp; omega, by simp; omega, ho1, ho2, ho3⟩
  have hg2 : okG rooms (o, r1 - 1) := ⟨ho1, ho2, by simp; omega, by simp; omega, fun e => ho3 e.symm⟩
  have hm : (0 : Int) < rooms + 1 := by omega
  obtain ⟨kvs1, gs1, f1, e3⟩ := put_step hs hf hg1 (i := 6) (j := 7)
  obtain ⟨r3, a3, l3, u3, e4, p3, q3, d3⟩ := next_ok (many := 3) (rest ++ [.dT kvs1]) d2 (by omega) (by omega) (by omega)
  obtain ⟨kvs2, gs2, f2, e5⟩ := put_step hs f1 hg2 (i := 7) (j := 6)
  have s1 : ∀ ρ : Ev.Env, ρ[0]? = some (some (.loc 0)) → ρ[3]? = some (some (.int rooms)) → sSet 6 (eB fSub (eCall 2 m__law_next (eCons (eV 0) (eCons (eB fAdd (eV 3) (eC (.int 1))) eNil))) (eC (.int 1))) ρ (drawOb cs a l u :: (rest ++ [.dT kvs])) = .nx (ρ.set 6 (some (.int (r1 - 1)))) (drawOb cs a1 l1 u1 :: (rest ++ [.dT kvs])) := fun ρ h0 h3 => by
    simp [bindR, bindS, optR, h0, h3, e1]
  have s2 : ∀ ρ : Ev.Env, ρ[0]? = some (some (.loc 0)) → ρ[3]? = some (some (.int rooms)) → ρ[6]? = some (some (.int (r1 - 1))) → sSet 7 (eB fSub (eB fMod (eBf fIntA (eCons (eB fAdd (eB fAdd (eB fAdd (eV 6) (eC (.int 1))) (eC (.int 1))) (eCall 2 m__law_next (eCons (eV 0) (eCons (eV 3) eNil)))) eNil)) (eB fAdd (eV 3) (eC (.int 1)))) (eC (.int 1))) ρ (drawOb cs a1 l1 u1 :: (rest ++ [.dT kvs])) = .nx (ρ.set 7 (some (.int o))) (drawOb cs a2 l2 u2 :: (rest ++ [.dT kvs])) := fun ρ h0 h3 h6 => by
    simp only [d_Set, c_B, c_Bf, c_Call, c_Cons, c_Nil, c_V, c_C, bindR_ok, d_bindS_ok, optR_some, h0, h3, h6, k_add, k_int, List.length_cons, List.length_nil, Nat.zero_add, Nat.reduceAdd, if_true, e2, fMod_ok hm, k_sub, ho]
  by_cases hr : r3 = 0
  · refine ⟨a3, l3, u3, kvs2, gs2, some (.int (r1 - 1)), some (.int o), ?_, ⟨d3.ne, d3.len, d3.a0, d3.l0, d3.u0, by have := d3.ub; omega⟩, f2⟩
    unfold houseLoop
    rw [d_Seq, s1 _ rfl rfl]
    dsimp only
    rw [d_Seq, s2 _ rfl rfl rfl]
    dsimp only
    rw [d_Seq, e3 _ _ _ rfl rfl rfl rfl]
    dsimp only
    have e6 := e5 (drawOb cs a3 l3 u3) rest [some (.loc 0), some most, some (.int size), some (.int rooms), some (.loc (rest.length + 1)), some k, some (.int (r1 - 1)), some (.int o)] rfl rfl rfl rfl
    rw [d_If] at e6
    rw [d_If, c_AndT]
    have e7 : eTest (eB fEqA (eCall 2 m__law_next (eCons (eV 0) (eCons (eC (.int 3)) eNil))) (eC (.int 0))) [some (.loc 0), some most, some (.int size), some (.int rooms), some (.loc (rest.length + 1)), some k, some (.int (r1 - 1)), some (.int o)] (drawOb cs a2 l2 u2 :: (rest ++ [.dT kvs1])) = .ok true (drawOb cs a3 l3 u3 :: (rest ++ [.dT kvs1])) := by
      simp [bindR, optR, e4, hr]
    show bindS (bindR (eTest _ [some (.loc 0), some most, some (.int size), some (.int rooms), some (.loc (rest.length + 1)), some k, some (.int (r1 - 1)), some (.int o)] _) _) _ _ = _
    rw [e7, bindR_ok, if_pos rfl]
    exact e6
  · refine ⟨a3, l3, u3, kvs1, gs1, some (.int (r1 - 1)), some (.int o), ?_, ⟨d3.ne, d3.len, d3.a0, d3.l0, d3.u0, by have := d3.ub; omega⟩, f1⟩
    unfold houseLoop
    rw [d_Seq, s1 _ rfl rfl]
    dsimp only
    rw [d_Seq, s2 _ rfl rfl rfl]
    dsimp only
    rw [d_Seq, e3 _ _ _ rfl rfl rfl rfl]
    dsimp only
    rw [d_If, c_AndT]
    have e7 : eTest (eB fEqA (eCall 2 m__law_next (eCons (eV 0) (eCons (eC (.int 3)) eNil))) (eC (.int 0))) [some (.loc 0), some most, some (.int size), some (.int rooms), some (.loc (rest.length + 1)), some k, some (.int (r1 - 1)), some (.int o)] (drawOb cs a2 l2 u2 :: (rest ++ [.dT kvs1])) = .ok false (drawOb cs a3 l3 u3 :: (rest ++ [.dT kvs1])) := by
      simp [bindR, optR, e4, hr]
    show bindS (bindR (eTest _ [some (.loc 0), some most, some (.int size), some (.int rooms), some (.loc (rest.length + 1)), some k, some (.int (r1 - 1)), some (.int o)] _) _) _ _ = _
    rw [e7, bindR_ok, if_neg (by decide)]
    rfl
theorem house_ok {most size : Nat} (hm1 : 1 ≤ most) (hm8 : most ≤ 8) (hs : size ≤ 16) {cs : List Int} {a l u B : Int} (rest : Sto) (hd : DrOk cs a l u B) (hB : B < 2 ^ 50) : ∃ rooms gs a' l' u', m__law_house [.loc 0, .int most, .int size] (drawOb cs a l u :: rest) = .ok (gh rooms gs) (drawOb cs a' l' u' :: rest) ∧ GoodH rooms gs ∧ rooms ≤ most ∧ gs.length ≤ size ∧ DrOk cs a' l' u' (B + 100) := by
  obtain ⟨r, a1, l1, u1, e1, p1, q1, d1⟩ := next_ok (many := most) rest hd (by omega) (by omega) (by omega)
  obtain ⟨n, a2, l2, u2, e2, p2, q2, d2⟩ := next_ok (many := size + 1) (rest ++ [.dT []]) d1 (by omega) (by omega) (by omega)
  have h1 : 1 ≤ 1 + r := by omega
  have h8 : 1 + r ≤ 8 := by omega
  have loop : ∀ (ks : List Val) (a l u B : Int) (kvs : List (List Key × Val)) (gs : List (Int × Int)) (x5 x6 x7 : Option Val), ks.length ≤ 16 → DrOk cs a l u B → B + 3 * (ks.length : Int) < 2 ^ 55 → Found size (1 + r) kvs gs → ∃ a' l' u' kvs' gs' y5 y6 y7,
      forL (gN 5) houseLoop ks [some (.loc 0), some (.int most), some (.int size), some (.int (1 + r)), some (.loc (rest.length + 1)), x5, x6, x7] (drawOb cs a l u :: (rest ++ [.dT kvs])) = .nx [some (.loc 0), some (.int most), some (.int size), some (.int (1 + r)), some (.loc (rest.length + 1)), y5, y6, y7] (drawOb cs a' l' u' :: (rest ++ [.dT kvs']))
        ∧ DrOk cs a' l' u' (B + 3 * (ks.length : Int)) ∧ Found size (1 + r) kvs' gs' := fun ks => by
    induction ks with
    | nil => intro a l u B kvs gs x5 x6 x7 _ hd _ hf; exact ⟨a, l, u, kvs, gs, x5, x6, x7, rfl, by simpa using hd, hf⟩
    | cons k ks ih =>
      intro a l u B kvs gs x5 x6 x7 hl hd hB hf
      simp only [List.length_cons] at hl hB
      obtain ⟨a', l', u', kvs', gs', y6, y7, e, d', f'⟩ := turn_ok hs (most := .int most) (k := k) (x6 := x6) (x7 := x7) rest hd (by omega) h1 h8 hf
      obtain ⟨a2, l2, u2, kvs2, gs2, z5, z6, z7, e2, d2, f2⟩ := ih a' l' u' (B + 3) kvs' gs' (some k) y6 y7 (by omega) d' (by omega) f'
      refine ⟨a2, l2, u2, kvs2, gs2, z5, z6, z7, ?_, d2.le (by rw [List.length_cons]; omega), f2⟩
      rw [forL_cons, c_gN]
      show (match houseLoop [some (.loc 0), some (.int most), some (.int size), some (.int (1 + r)), some (.loc (rest.length + 1)), some k, x6, x7] _ with | .nx ρ2 st2 => _ | .ct ρ2 st2 => _ | .bk ρ2 st2 => _ | .rt v st2 => _ | .ex x ρ2 st2 => _ | .bad => _) = _
      rw [e]
      exact e2
  obtain ⟨a3, l3, u3, kvs, gs, y5, y6, y7, e3, d3, f3⟩ := loop (rangeV 0 n.toNat) a2 l2 u2 (B + 1 + 1) [] [] none none none (by rw [rangeV_length]; omega) d2 (by rw [rangeV_length]; omega) ⟨rfl, by simp, by simp, by simp⟩
  obtain ⟨gd, gl⟩ := good_sort hs h1 h8 f3
  refine ⟨1 + r, sortP gs, a3, l3, u3, ?_, gd, by omega, gl, d3.le (by rw [rangeV_length]; omega)⟩
  refine runF_of (more := [.dT kvs]) ?_ rfl (okOld_draw rest) bel_gh
  have hn : -4611686018427387904 ≤ n ∧ n < 4611686018427387904 := by omega
  have hk := keys_pV f3
  have hla : ∀ d : Ob, fListA (d :: (rest ++ [.dT kvs])) [.loc (rest.length + 1)] = some (.lst (gs.map pV)) := fun d => by
    unfold fListA
    simp only [snoc_get, hk]
  have eL : houseLoop = houseLoop := rfl
  conv at eL => lhs; unfold houseLoop
  unfold b__law_house
  rw [eL]
  simp [startE, bindR, bindS, optR, e1, e2, hn, e3, hla, sorted_pV, two_le, gh]
end Gc

set_option Elab.async false
set_option linter.all false
set_option maxRecDepth 100000
set_option maxHeartbeats 0
namespace K01
open PySem PySem.Spec PyProof.Rows L2 Ev Gc
def b__law_fields : S := (sSeq (sPar 2 3 (eCons (eMk 7 ["line", "word"] (eCons (eV 0) (eCons (eV 1) eNil))) (eCons (eMkK 7 ["line", "word"] [1, 0] (eCons (eV 1) (eCons (eV 0) eNil))) eNil)))
  (sSeq (sSet 4 (eLst (eCons (eFld 11 "part" (eMk 1 ["part"] (eCons (eV 0) eNil))) (eCons (eFld 11 "number" (eMk 2 ["number"] (eCons (eV 0) eNil))) (eCons (eFld 11 "number" (eMk 3 ["number"] (eCons (eV 0) eNil))) eNil)))))
  (sSeq (sSet 4 (eB fAdd (eV 4) (eLst (eCons (eFld 11 "number" (eMk 4 ["number"] (eCons (eV 0) eNil))) (eCons (eFld 11 "given" (eMk 5 ["given"] (eCons (eV 0) eNil))) eNil)))))
  (sSeq (sSet 4 (eB fAdd (eV 4) (eLst (eCons (eFld 11 "part" (eMk 6 ["part"] (eCons (eV 0) eNil))) (eCons (eFld 11 "word" (eMk 8 ["word"] (eCons (eV 0) eNil))) (eCons (eFld 11 "line" (eV 2)) (eCons (eFld 11 "line" (eV 3)) (eCons (eFld 11 "most" (eMk 9 ["most"] (eCons (eV 0) eNil))) eNil))))))))
  (sSeq (sSet 4 (eB fAdd (eV 4) (eLst (eCons (eFld 11 "many" (eMk 10 ["many"] (eCons (eV 0) eNil))) (eCons (eFld 11 "part" (eMkK 1 ["part"] [0] (eCons (eV 0) eNil))) (eCons (eFld 11 "number" (eMkK 2 ["number"] [0] (eCons (eV 0) eNil))) eNil))))))
  (sSeq (sSet 4 (eB fAdd (eV 4) (eLst (eCons (eFld 11 "number" (eMkK 3 ["number"] [0] (eCons (eV 0) eNil))) (eCons (eFld 11 "number" (eMkK 4 ["number"] [0] (eCons (eV 0) eNil))) eNil)))))
  (sSeq (sSet 4 (eB fAdd (eV 4) (eLst (eCons (eFld 11 "given" (eMkK 5 ["given"] [0] (eCons (eV 0) eNil))) eNil))))
  (sSeq (sSet 4 (eB fAdd (eV 4) (eLst (eCons (eFld 11 "part" (eMkK 6 ["part"] [0] (eCons (eV 0) eNil))) (eCons (eFld 11 "word" (eMkK 8 ["word"] [0] (eCons (eV 0) eNil))) (eCons (eFld 11 "most" (eMkK 9 ["most"] [0] (eCons (eV 0) eNil))) eNil))))))
  (sRet (eTup (eCons (eB fAdd (eV 4) (eLst (eCons (eFld 11 "many" (eMkK 10 ["many"] [0] (eCons (eV 0) eNil))) eNil))) (eCons (eLst (eCons (eFld 11 "word" (eV 2)) (eCons (eFld 11 "word" (eV 3)) eNil))) eNil))))))))))))
def m__law_fields : Fn := runF 5 b__law_fields
def b__law_kinds : S := (sSeq (sSet 1 (eLst (eCons (eIsX (isL [1]) 11 (eV 0)) (eCons (eIsX (isL [2]) 11 (eV 0)) eNil))))
  (sSeq (sSet 1 (eB fAdd (eV 1) (eLst (eCons (eIsX (isL [3]) 11 (eV 0)) (eCons (eIsX (isL [4]) 11 (eV 0)) eNil)))))
  (sSeq (sSet 1 (eB fAdd (eV 1) (eLst (eCons (eIsX (isL [5]) 11 (eV 0)) (eCons (eIsX (isL [6]) 11 (eV 0)) eNil)))))
  (sSeq (sSet 1 (eB fAdd (eV 1) (eLst (eCons (eIsX (isL [7]) 11 (eV 0)) (eCons (eIsX (isL [8]) 11 (eV 0)) eNil)))))
  (sSeq (sSet 1 (eB fAdd (eV 1) (eLst (eCons (eIsX (isL [9]) 11 (eV 0)) (eCons (eIsX (isL [10]) 11 (eV 0)) eNil)))))
  (sRet (eLc false [2] (itRange1 (eCons (eC (.int 10)) eNil)) (gN 2) (eTest (eB fIx (eV 1) (eV 2))) (eV 2))))))))
def m__law_kinds : Fn := runF 3 b__law_kinds
def b_law : S := (sSeq (sSet 1 (eCall 1 m__law_begin (eCons (eV 0) eNil)))
  (sSeq (sFor (itRange1 (eCons (eC (.int 3)) eNil)) (gN 2) (sSeq (sSet 3 (eLst (eCons (eC .non) (eCons (eC (.int 5)) (eCons (eC (.bl true)) (eCons (eC (.str "a")) (eCons (eTup (eCons (eC (.int 1)) (eCons (eC (.int 2)) eNil))) (eCons (eLst eNil) (eCons eNewD (eCons (eTup (eCons (eC (.str "x")) (eCons (eLst (eCons (eC .non) eNil)) eNil))) (eCons (fNeg (eC (.int 1))) (eCons (eB fPow (eC (.int 10)) (eC (.int 30))) eNil))))))))))))
  (sSeq (sPar 4 5 (eCons (eCall 2 m__law_pick (eCons (eV 1) (eCons (eV 3) eNil))) (eCons (eCall 2 m__law_pick (eCons (eV 1) (eCons (eV 3) eNil))) eNil)))
  (sSeq (sIf (eTest (eB fNeA (eBf fReprQ (eCons (eCall 2 m__law_fields (eCons (eV 4) (eCons (eV 5) eNil))) eNil)) (eBf fReprQ (eCons (eTup (eCons (eB fMul (eLst (eCons (eV 4) eNil)) (eC (.int 20))) (eCons (eB fMul (eLst (eCons (eV 5) eNil)) (eC (.int 2))) eNil))) eNil)))) (sRet (eC (.bl false))) sSkip)
  (sSeq (sSet 6 (eLst (eCons (eMk 1 ["part"] (eCons (eV 4) eNil)) (eCons (eMk 2 ["number"] (eCons (eV 4) eNil)) (eCons (eMk 3 ["number"] (eCons (eV 4) eNil)) eNil)))))
  (sSeq (sSet 6 (eB fAdd (eV 6) (eLst (eCons (eMk 4 ["number"] (eCons (eV 4) eNil)) (eCons (eMk 5 ["given"] (eCons (eV 4) eNil)) (eCons (eMk 6 ["part"] (eCons (eV 4) eNil)) eNil))))))
  (sSeq (sSet 6 (eB fAdd (eV 6) (eLst (eCons (eMk 7 ["line", "word"] (eCons (eV 4) (eCons (eV 5) eNil))) (eCons (eMk 8 ["word"] (eCons (eV 4) eNil)) (eCons (eMk 9 ["most"] (eCons (eV 4) eNil)) (eCons (eMk 10 ["many"] (eCons (eV 4) eNil)) eNil)))))))
  (sFor (itEnum (eCons (eV 6) eNil)) (gT 2 (gCons' (gN 7) (gCons' (gN 8) gNil'))) (sSeq (sSet 9 (eLst (eCons (eIsX (isL [0, 1, 2, 3, 4, 5, 6, 7, 8]) 11 (eV 8)) (eCons (eIsX (isL [0, 1, 2, 3, 4, 5, 6, 7, 8]) 11 (eV 8)) eNil))))
  (sSeq (sSet 9 (eB fAdd (eV 9) (eLst (eCons (eIsX (isL [9]) 11 (eV 8)) (eCons (eIsX (isL [10]) 11 (eV 8)) eNil)))))
  (sIf (eOrT (eTest (eB fNeA (eCall 1 m__law_kinds (eCons (eV 8) eNil)) (eLst (eCons (eV 7) eNil)))) (eTest (eB fNeA (eV 9) (eLst (eCons (eB fLtT (eV 7) (eC (.int 8))) (eCons (eB fLtT (eV 7) (eC (.int 8))) (eCons (eB fEqA (eV 7) (eC (.int 8))) (eCons (eB fEqA (eV 7) (eC (.int 9))) eNil)))))))) (sRet (eC (.bl false))) sSkip)))))))))))
  (sRet (eC (.bl true)))))
def m_law : Fn := runF 10 b_law
end K01

set_option Elab.async false
set_option linter.all false
set_option maxRecDepth 100000
set_option maxHeartbeats 0
namespace K01
open PySem PySem.Spec PyProof.Rows L2 Ev Gc
def top (i : Nat) : Stmt := PySem.Challenge.pw_gatecounts_k01_errors_made.main.body.getD i (.Pass ⟨0, 0, 0, 0⟩)
def clsN : List Str := ("GateError" : Str) :: ("BadHouse" : Str) :: ("BadHeads" : Str) :: ("BadCounts" : Str) :: ("BadNotes" : Str) :: ("BadNumber" : Str) :: ("BadPaper" : Str) :: ("BadText" : Str) :: ("NoOrder" : Str) :: ("TooMany" : Str) :: ("NothingLeft" : Str) :: ("Going" : Str) :: ("Trial" : Str) :: ("Book" : Str) :: ("Desk" : Str) :: []
abbrev tab (K : PySem.W.Frag) : Tab := ⟨K, fun i => He.ga K (clsN.getD i "")⟩
abbrev d__law_begin : He.DefD := dOf "_law_begin" (top 13)
abbrev d__law_next : He.DefD := dOf "_law_next" (top 14)
abbrev d__law_pick : He.DefD := dOf "_law_pick" (top 15)
abbrev d_BadText_init : He.DefD := mOf "BadText" "__init__" "BadText.__init__" (inCls (top 8) 0)
abbrev d_BadCounts_init : He.DefD := mOf "BadCounts" "__init__" "BadCounts.__init__" (inCls (top 4) 0)
abbrev d_BadHeads_init : He.DefD := mOf "BadHeads" "__init__" "BadHeads.__init__" (inCls (top 3) 0)
abbrev d_BadHouse_init : He.DefD := mOf "BadHouse" "__init__" "BadHouse.__init__" (inCls (top 2) 0)
abbrev d_BadNumber_init : He.DefD := mOf "BadNumber" "__init__" "BadNumber.__init__" (inCls (top 6) 0)
abbrev d_BadNotes_init : He.DefD := mOf "BadNotes" "__init__" "BadNotes.__init__" (inCls (top 5) 0)
abbrev d_TooMany_init : He.DefD := mOf "TooMany" "__init__" "TooMany.__init__" (inCls (top 10) 0)
abbrev d_NoOrder_init : He.DefD := mOf "NoOrder" "__init__" "NoOrder.__init__" (inCls (top 9) 0)
abbrev d_BadPaper_init : He.DefD := mOf "BadPaper" "__init__" "BadPaper.__init__" (inCls (top 7) 0)
abbrev d_NothingLeft_init : He.DefD := mOf "NothingLeft" "__init__" "NothingLeft.__init__" (inCls (top 11) 0)
abbrev d__law_fields : He.DefD := dOf "_law_fields" (top 16)
abbrev d__law_kinds : He.DefD := dOf "_law_kinds" (top 17)
abbrev d_law : He.DefD := dOf "law" (top 18)
def ex : PySem.W.Frag → Bool := fun K => oexGB K (He.ga K "BadText") "ValueError.__new__" bm_ValueError && initB K "BadText" "GateError" ["line", "word"] && oexGB K (He.ga K "BadCounts") "ValueError.__new__" bm_ValueError && initB K "BadCounts" "GateError" ["number"] && fldB clsN 11 "number" K && oexGB K (He.ga K "BadHeads") "ValueError.__new__" bm_ValueError && initB K "BadHeads" "GateError" ["number"] && oexGB K (He.ga K "BadHouse") "ValueError.__new__" bm_ValueError && initB K "BadHouse" "GateError" ["part"] && fldB clsN 11 "part" K && oexGB K (He.ga K "BadNumber") "ValueError.__new__" bm_ValueError && initB K "BadNumber" "GateError" ["given"] && fldB clsN 11 "given" K && oexGB K (He.ga K "BadNotes") "ValueError.__new__" bm_ValueError && initB K "BadNotes" "GateError" ["number"] && oexGB K (He.ga K "TooMany") "OverflowError.__new__" bm_OverflowError && initB2 K "TooMany" "OverflowError" ["most"] && fldB clsN 11 "most" K && fldB clsN 11 "line" K && oexGB K (He.ga K "NoOrder") "ValueError.__new__" bm_ValueError && initB K "NoOrder" "GateError" ["word"] && fldB clsN 11 "word" K && oexGB K (He.ga K "BadPaper") "ValueError.__new__" bm_ValueError && initB K "BadPaper" "GateError" ["part"] && oexGB K (He.ga K "NothingLeft") "RuntimeError.__new__" bm_RuntimeError && initB2 K "NothingLeft" "RuntimeError" ["many"] && fldB clsN 11 "many" K && modsB K && clsB clsN 11 K && isB clsN 11 [0, 1, 2, 3, 4, 5, 6, 7, 8] (fun K => .type "ValueError") K && isB clsN 11 [0, 1, 2, 3, 4, 5, 6, 7, 8] (fun K => .ref (He.ga K "GateError")) K && isB clsN 11 [10] (fun K => .type "RuntimeError") K && isB clsN 11 [9] (fun K => .type "OverflowError") K && isB clsN 11 [2] (fun K => .ref (He.ga K "BadHeads")) K && isB clsN 11 [1] (fun K => .ref (He.ga K "BadHouse")) K && isB clsN 11 [4] (fun K => .ref (He.ga K "BadNotes")) K && isB clsN 11 [3] (fun K => .ref (He.ga K "BadCounts")) K && isB clsN 11 [6] (fun K => .ref (He.ga K "BadPaper")) K && isB clsN 11 [5] (fun K => .ref (He.ga K "BadNumber")) K && isB clsN 11 [8] (fun K => .ref (He.ga K "NoOrder")) K && isB clsN 11 [7] (fun K => .ref (He.ga K "BadText")) K && isB clsN 11 [10] (fun K => .ref (He.ga K "NothingLeft")) K && isB clsN 11 [9] (fun K => .ref (He.ga K "TooMany")) K
def fa : List He.Fa := [.glo "_law_begin", .free "range", .free "len", .glo "_law_next", .glo "_law_pick", .glo "BadText", .glo "GateError", .glo "BadCounts", .glo "BadHeads", .glo "BadHouse", .glo "BadNumber", .glo "BadNotes", .glo "TooMany", .free "OverflowError", .glo "NoOrder", .glo "BadPaper", .glo "NothingLeft", .free "RuntimeError", .glo "_law_fields", .free "repr", .free "enumerate", .free "isinstance", .free "ValueError", .glo "_law_kinds", .glo "law"]
def fn : List He.DefD := [d__law_begin, d__law_next, d__law_pick, d_BadText_init, d_BadCounts_init, d_BadHeads_init, d_BadHouse_init, d_BadNumber_init, d_BadNotes_init, d_TooMany_init, d_NoOrder_init, d_BadPaper_init, d_NothingLeft_init, d__law_fields, d__law_kinds, d_law]
theorem exs_0 {K : PySem.W.Frag} (h : ex K = true) : oexGB K (He.ga K "BadText") "ValueError.__new__" bm_ValueError = true := (Bool.and_eq_true_iff.mp (Bool.and_eq_true_iff.mp (Bool.and_eq_true_iff.mp (Bool.and_eq_true_iff.mp (Bool.and_eq_true_iff.mp (Bool.and_eq_true_iff.mp (Bool.and_eq_true_iff.mp (Bool.and_eq_true_iff.mp (Bool.and_eq_true_iff.mp (Bool.and_eq_true_iff.mp (Bool.and_eq_true_iff.mp (Bool.and_eq_true_iff.mp (Bool.and_eq_true_iff.mp (Bool.and_eq_true_iff.mp (Bool.and_eq_true_iff.mp (Bool.and_eq_true_iff.mp (Bool.and_eq_true_iff.mp (Bool.and_eq_true_iff.mp (Bool.and_eq_true_iff.mp (Bool.and_eq_true_iff.mp (Bool.and_eq_true_iff.mp (Bool.and_eq_true_iff.mp (Bool.and_eq_true_iff.mp (Bool.and_eq_true_iff.mp (Bool.and_eq_true_iff.mp (Bool.and_eq_true_iff.mp (Bool.and_eq_true_iff.mp (Bool.and_eq_true_iff.mp (Bool.and_eq_true_iff.mp (Bool.and_eq_true_iff.mp (Bool.and_eq_true_iff.mp (Bool.and_eq_true_iff.mp (Bool.and_eq_true_iff.mp (Bool.and_eq_true_iff.mp (Bool.and_eq_true_iff.mp (Bool.and_eq_true_iff.mp (Bool.and_eq_true_iff.mp (Bool.and_eq_true_iff.mp (Bool.and_eq_true_iff.mp (Bool.and_eq_true_iff.mp (Bool.and_eq_true_iff.mp (Bool.and_eq_true_iff.mp h).1).1).1).1).1).1).1).1).1).1).1).1).1).1).1).1).1).1).1).1).1).1).1).1).1).1).1).1).1).1).1).1).1).1).1).1).1).1).1).1).1).1
theorem exs_1 {K : PySem.W.Frag} (h : ex K = true) : initB K "BadText" "GateError" ["line", "word"] = true := (Bool.and_eq_true_iff.mp (Bool.and_eq_true_iff.mp (Bool.and_eq_true_iff.mp (Bool.and_eq_true_iff.mp (Bool.and_eq_true_iff.mp (Bool.and_eq_true_iff.mp (Bool.and_eq_true_iff.mp (Bool.and_eq_true_iff.mp (Bool.and_eq_true_iff.mp (Bool.and_eq_true_iff.mp (Bool.and_eq_true_iff.mp (Bool.and_eq_true_iff.mp (Bool.and_eq_true_iff.mp (Bool.and_eq_true_iff.mp (Bool.and_eq_true_iff.mp (Bool.and_eq_true_iff.mp (Bool.and_eq_true_iff.mp (Bool.and_eq_true_iff.mp (Bool.and_eq_true_iff.mp (Bool.and_eq_true_iff.mp (Bool.and_eq_true_iff.mp (Bool.and_eq_true_iff.mp (Bool.and_eq_true_iff.mp (Bool.and_eq_true_iff.mp (Bool.and_eq_true_iff.mp (Bool.and_eq_true_iff.mp (Bool.and_eq_true_iff.mp (Bool.and_eq_true_iff.mp (Bool.and_eq_true_iff.mp (Bool.and_eq_true_iff.mp (Bool.and_eq_true_iff.mp (Bool.and_eq_true_iff.mp (Bool.and_eq_true_iff.mp (Bool.and_eq_true_iff.mp (Bool.and_eq_true_iff.mp (Bool.and_eq_true_iff.mp (Bool.and_eq_true_iff.mp (Bool.and_eq_true_iff.mp (Bool.and_eq_true_iff.mp (Bool.and_eq_true_iff.mp (Bool.and_eq_true_iff.mp (Bool.and_eq_true_iff.mp h).1).1).1).1).1).1).1).1).1).1).1).1).1).1).1).1).1).1).1).1).1).1).1).1).1).1).1).1).1).1).1).1).1).1).1).1).1).1).1).1).1).2
theorem exs_2 {K : PySem.W.Frag} (h : ex K = true) : oexGB K (He.ga K "BadCounts") "ValueError.__new__" bm_ValueError = true := (Bool.and_eq_true_iff.mp (Bool.and_eq_true_iff.mp (Bool.and_eq_true_iff.mp (Bool.and_eq_true_iff.mp (Bool.and_eq_true_iff.mp (Bool.and_eq_true_iff.mp (Bool.and_eq_true_iff.mp (Bool.and_eq_true_iff.mp (Bool.and_eq_true_iff.mp (Bool.and_eq_true_iff.mp (Bool.and_eq_true_iff.mp (Bool.and_eq_true_iff.mp (Bool.and_eq_true_iff.mp (Bool.and_eq_true_iff.mp (Bool.and_eq_true_iff.mp (Bool.and_eq_true_iff.mp (Bool.and_eq_true_iff.mp (Bool.and_eq_true_iff.mp (Bool.and_eq_true_iff.mp (Bool.and_eq_true_iff.mp (Bool.and_eq_true_iff.mp (Bool.and_eq_true_iff.mp (Bool.and_eq_true_iff.mp (Bool.and_eq_true_iff.mp (Bool.and_eq_true_iff.mp (Bool.and_eq_true_iff.mp (Bool.and_eq_true_iff.mp (Bool.and_eq_true_iff.mp (Bool.and_eq_true_iff.mp (Bool.and_eq_true_iff.mp (Bool.and_eq_true_iff.mp (Bool.and_eq_true_iff.mp (Bool.and_eq_true_iff.mp (Bool.and_eq_true_iff.mp (Bool.and_eq_true_iff.mp (Bool.and_eq_true_iff.mp (Bool.and_eq_true_iff.mp (Bool.and_eq_true_iff.mp (Bool.and_eq_true_iff.mp (Bool.and_eq_true_iff.mp (Bool.and_eq_true_iff.mp h).1).1).1).1).1).1).1).1).1).1).1).1).1).1).1).1).1).1).1).1).1).1).1).1).1).1).1).1).1).1).1).1).1).1).1).1).1).1).1).1).2
theorem exs_3 {K : PySem.W.Frag} (h : ex K = true) : initB K "BadCounts" "GateError" ["number"] = true := (Bool.and_eq_true_iff.mp (Bool.and_eq_true_iff.mp (Bool.and_eq_true_iff.mp (Bool.and_eq_true_iff.mp (Bool.and_eq_true_iff.mp (Bool.and_eq_true_iff.mp (Bool.and_eq_true_iff.mp (Bool.and_eq_true_iff.mp (Bool.and_eq_true_iff.mp (Bool.and_eq_true_iff.mp (Bool.and_eq_true_iff.mp (Bool.and_eq_true_iff.mp (Bool.and_eq_true_iff.mp (Bool.and_eq_true_iff.mp (Bool.and_eq_true_iff.mp (Bool.and_eq_true_iff.mp (Bool.and_eq_true_iff.mp (Bool.and_eq_true_iff.mp (Bool.and_eq_true_iff.mp (Bool.and_eq_true_iff.mp (Bool.and_eq_true_iff.mp (Bool.and_eq_true_iff.mp (Bool.and_eq_true_iff.mp (Bool.and_eq_true_iff.mp (Bool.and_eq_true_iff.mp (Bool.and_eq_true_iff.mp (Bool.and_eq_true_iff.mp (Bool.and_eq_true_iff.mp (Bool.and_eq_true_iff.mp (Bool.and_eq_true_iff.mp (Bool.and_eq_true_iff.mp (Bool.and_eq_true_iff.mp (Bool.and_eq_true_iff.mp (Bool.and_eq_true_iff.mp (Bool.and_eq_true_iff.mp (Bool.and_eq_true_iff.mp (Bool.and_eq_true_iff.mp (Bool.and_eq_true_iff.mp (Bool.and_eq_true_iff.mp (Bool.and_eq_true_iff.mp h).1).1).1).1).1).1).1).1).1).1).1).1).1).1).1).1).1).1).1).1).1).1).1).1).1).1).1).1).1).1).1).1).1).1).1).1).1).1).1).2
theorem exs_4 {K : PySem.W.Frag} (h : ex K = true) : fldB clsN 11 "number" K = true := (Bool.and_eq_true_iff.mp (Bool.and_eq_true_iff.mp (Bool.and_eq_true_iff.mp (Bool.and_eq_true_iff.mp (Bool.and_eq_true_iff.mp (Bool.and_eq_true_iff.mp (Bool.and_eq_true_iff.mp (Bool.and_eq_true_iff.mp (Bool.and_eq_true_iff.mp (Bool.and_eq_true_iff.mp (Bool.and_eq_true_iff.mp (Bool.and_eq_true_iff.mp (Bool.and_eq_true_iff.mp (Bool.and_eq_true_iff.mp (Bool.and_eq_true_iff.mp (Bool.and_eq_true_iff.mp (Bool.and_eq_true_iff.mp (Bool.and_eq_true_iff.mp (Bool.and_eq_true_iff.mp (Bool.and_eq_true_iff.mp (Bool.and_eq_true_iff.mp (Bool.and_eq_true_iff.mp (Bool.and_eq_true_iff.mp (Bool.and_eq_true_iff.mp (Bool.and_eq_true_iff.mp (Bool.and_eq_true_iff.mp (Bool.and_eq_true_iff.mp (Bool.and_eq_true_iff.mp (Bool.and_eq_true_iff.mp (Bool.and_eq_true_iff.mp (Bool.and_eq_true_iff.mp (Bool.and_eq_true_iff.mp (Bool.and_eq_true_iff.mp (Bool.and_eq_true_iff.mp (Bool.and_eq_true_iff.mp (Bool.and_eq_true_iff.mp (Bool.and_eq_true_iff.mp (Bool.and_eq_true_iff.mp (Bool.and_eq_true_iff.mp h).1).1).1).1).1).1).1).1).1).1).1).1).1).1).1).1).1).1).1).1).1).1).1).1).1).1).1).1).1).1).1).1).1).1).1).1).1).1).2
theorem exs_5 {K : PySem.W.Frag} (h : ex K = true) : oexGB K (He.ga K "BadHeads") "ValueError.__new__" bm_ValueError = true := (Bool.and_eq_true_iff.mp (Bool.and_eq_true_iff.mp (Bool.and_eq_true_iff.mp (Bool.and_eq_true_iff.mp (Bool.and_eq_true_iff.mp (Bool.and_eq_true_iff.mp (Bool.and_eq_true_iff.mp (Bool.and_eq_true_iff.mp (Bool.and_eq_true_iff.mp (Bool.and_eq_true_iff.mp (Bool.and_eq_true_iff.mp (Bool.and_eq_true_iff.mp (Bool.and_eq_true_iff.mp (Bool.and_eq_true_iff.mp (Bool.and_eq_true_iff.mp (Bool.and_eq_true_iff.mp (Bool.and_eq_true_iff.mp (Bool.and_eq_true_iff.mp (Bool.and_eq_true_iff.mp (Bool.and_eq_true_iff.mp (Bool.and_eq_true_iff.mp (Bool.and_eq_true_iff.mp (Bool.and_eq_true_iff.mp (Bool.and_eq_true_iff.mp (Bool.and_eq_true_iff.mp (Bool.and_eq_true_iff.mp (Bool.and_eq_true_iff.mp (Bool.and_eq_true_iff.mp (Bool.and_eq_true_iff.mp (Bool.and_eq_true_iff.mp (Bool.and_eq_true_iff.mp (Bool.and_eq_true_iff.mp (Bool.and_eq_true_iff.mp (Bool.and_eq_true_iff.mp (Bool.and_eq_true_iff.mp (Bool.and_eq_true_iff.mp (Bool.and_eq_true_iff.mp (Bool.and_eq_true_iff.mp h).1).1).1).1).1).1).1).1).1).1).1).1).1).1).1).1).1).1).1).1).1).1).1).1).1).1).1).1).1).1).1).1).1).1).1).1).1).2
theorem exs_6 {K : PySem.W.Frag} (h : ex K = true) : initB K "BadHeads" "GateError" ["number"] = true := (Bool.and_eq_true_iff.mp (Bool.and_eq_true_iff.mp (Bool.and_eq_true_iff.mp (Bool.and_eq_true_iff.mp (Bool.and_eq_true_iff.mp (Bool.and_eq_true_iff.mp (Bool.and_eq_true_iff.mp (Bool.and_eq_true_iff.mp (Bool.and_eq_true_iff.mp (Bool.and_eq_true_iff.mp (Bool.and_eq_true_iff.mp (Bool.and_eq_true_iff.mp (Bool.and_eq_true_iff.mp (Bool.and_eq_true_iff.mp (Bool.and_eq_true_iff.mp (Bool.and_eq_true_iff.mp (Bool.and_eq_true_iff.mp (Bool.and_eq_true_iff.mp (Bool.and_eq_true_iff.mp (Bool.and_eq_true_iff.mp (Bool.and_eq_true_iff.mp (Bool.and_eq_true_iff.mp (Bool.and_eq_true_iff.mp (Bool.and_eq_true_iff.mp (Bool.and_eq_true_iff.mp (Bool.and_eq_true_iff.mp (Bool.and_eq_true_iff.mp (Bool.and_eq_true_iff.mp (Bool.and_eq_true_iff.mp (Bool.and_eq_true_iff.mp (Bool.and_eq_true_iff.mp (Bool.and_eq_true_iff.mp (Bool.and_eq_true_iff.mp (Bool.and_eq_true_iff.mp (Bool.and_eq_true_iff.mp (Bool.and_eq_true_iff.mp (Bool.and_eq_true_iff.mp h).1).1).1).1).1).1).1).1).1).1).1).1).1).1).1).1).1).1).1).1).1).1).1).1).1).1).1).1).1).1).1).1).1).1).1).1).2
theorem exs_7 {K : PySem.W.Frag} (h : ex K = true) : oexGB K (He.ga K "BadHouse") "ValueError.__new__" bm_ValueError = true := (Bool.and_eq_true_iff.mp (Bool.and_eq_true_iff.mp (Bool.and_eq_true_iff.mp (Bool.and_eq_true_iff.mp (Bool.and_eq_true_iff.mp (Bool.and_eq_true_iff.mp (Bool.and_eq_true_iff.mp (Bool.and_eq_true_iff.mp (Bool.and_eq_true_iff.mp (Bool.and_eq_true_iff.mp (Bool.and_eq_true_iff.mp (Bool.and_eq_true_iff.mp (Bool.and_eq_true_iff.mp (Bool.and_eq_true_iff.mp (Bool.and_eq_true_iff.mp (Bool.and_eq_true_iff.mp (Bool.and_eq_true_iff.mp (Bool.and_eq_true_iff.mp (Bool.and_eq_true_iff.mp (Bool.and_eq_true_iff.mp (Bool.and_eq_true_iff.mp (Bool.and_eq_true_iff.mp (Bool.and_eq_true_iff.mp (Bool.and_eq_true_iff.mp (Bool.and_eq_true_iff.mp (Bool.and_eq_true_iff.mp (Bool.and_eq_true_iff.mp (Bool.and_eq_true_iff.mp (Bool.and_eq_true_iff.mp (Bool.and_eq_true_iff.mp (Bool.and_eq_true_iff.mp (Bool.and_eq_true_iff.mp (Bool.and_eq_true_iff.mp (Bool.and_eq_true_iff.mp (Bool.and_eq_true_iff.mp (Bool.and_eq_true_iff.mp h).1).1).1).1).1).1).1).1).1).1).1).1).1).1).1).1).1).1).1).1).1).1).1).1).1).1).1).1).1).1).1).1).1).1).1).2
theorem exs_8 {K : PySem.W.Frag} (h : ex K = true) : initB K "BadHouse" "GateError" ["part"] = true := (Bool.and_eq_true_iff.mp (Bool.and_eq_true_iff.mp (Bool.and_eq_true_iff.mp (Bool.and_eq_true_iff.mp (Bool.and_eq_true_iff.mp (Bool.and_eq_true_iff.mp (Bool.and_eq_true_iff.mp (Bool.and_eq_true_iff.mp (Bool.and_eq_true_iff.mp (Bool.and_eq_true_iff.mp (Bool.and_eq_true_iff.mp (Bool.and_eq_true_iff.mp (Bool.and_eq_true_iff.mp (Bool.and_eq_true_iff.mp (Bool.and_eq_true_iff.mp (Bool.and_eq_true_iff.mp (Bool.and_eq_true_iff.mp (Bool.and_eq_true_iff.mp (Bool.and_eq_true_iff.mp (Bool.and_eq_true_iff.mp (Bool.and_eq_true_iff.mp (Bool.and_eq_true_iff.mp (Bool.and_eq_true_iff.mp (Bool.and_eq_true_iff.mp (Bool.and_eq_true_iff.mp (Bool.and_eq_true_iff.mp (Bool.and_eq_true_iff.mp (Bool.and_eq_true_iff.mp (Bool.and_eq_true_iff.mp (Bool.and_eq_true_iff.mp (Bool.and_eq_true_iff.mp (Bool.and_eq_true_iff.mp (Bool.and_eq_true_iff.mp (Bool.and_eq_true_iff.mp (Bool.and_eq_true_iff.mp h).1).1).1).1).1).1).1).1).1).1).1).1).1).1).1).1).1).1).1).1).1).1).1).1).1).1).1).1).1).1).1).1).1).1).2
theorem exs_9 {K : PySem.W.Frag} (h : ex K = true) : fldB clsN 11 "part" K = true := (Bool.and_eq_true_iff.mp (Bool.and_eq_true_iff.mp (Bool.and_eq_true_iff.mp (Bool.and_eq_true_iff.mp (Bool.and_eq_true_iff.mp (Bool.and_eq_true_iff.mp (Bool.and_eq_true_iff.mp (Bool.and_eq_true_iff.mp (Bool.and_eq_true_iff.mp (Bool.and_eq_true_iff.mp (Bool.and_eq_true_iff.mp (Bool.and_eq_true_iff.mp (Bool.and_eq_true_iff.mp (Bool.and_eq_true_iff.mp (Bool.and_eq_true_iff.mp (Bool.and_eq_true_iff.mp (Bool.and_eq_true_iff.mp (Bool.and_eq_true_iff.mp (Bool.and_eq_true_iff.mp (Bool.and_eq_true_iff.mp (Bool.and_eq_true_iff.mp (Bool.and_eq_true_iff.mp (Bool.and_eq_true_iff.mp (Bool.and_eq_true_iff.mp (Bool.and_eq_true_iff.mp (Bool.and_eq_true_iff.mp (Bool.and_eq_true_iff.mp (Bool.and_eq_true_iff.mp (Bool.and_eq_true_iff.mp (Bool.and_eq_true_iff.mp (Bool.and_eq_true_iff.mp (Bool.and_eq_true_iff.mp (Bool.and_eq_true_iff.mp (Bool.and_eq_true_iff.mp h).1).1).1).1).1).1).1).1).1).1).1).1).1).1).1).1).1).1).1).1).1).1).1).1).1).1).1).1).1).1).1).1).1).2
theorem exs_10 {K : PySem.W.Frag} (h : ex K = true) : oexGB K (He.ga K "BadNumber") "ValueError.__new__" bm_ValueError = true := (Bool.and_eq_true_iff.mp (Bool.and_eq_true_iff.mp (Bool.and_eq_true_iff.mp (Bool.and_eq_true_iff.mp (Bool.and_eq_true_iff.mp (Bool.and_eq_true_iff.mp (Bool.and_eq_true_iff.mp (Bool.and_eq_true_iff.mp (Bool.and_eq_true_iff.mp (Bool.and_eq_true_iff.mp (Bool.and_eq_true_iff.mp (Bool.and_eq_true_iff.mp (Bool.and_eq_true_iff.mp (Bool.and_eq_true_iff.mp (Bool.and_eq_true_iff.mp (Bool.and_eq_true_iff.mp (Bool.and_eq_true_iff.mp (Bool.and_eq_true_iff.mp (Bool.and_eq_true_iff.mp (Bool.and_eq_true_iff.mp (Bool.and_eq_true_iff.mp (Bool.and_eq_true_iff.mp (Bool.and_eq_true_iff.mp (Bool.and_eq_true_iff.mp (Bool.and_eq_true_iff.mp (Bool.and_eq_true_iff.mp (Bool.and_eq_true_iff.mp (Bool.and_eq_true_iff.mp (Bool.and_eq_true_iff.mp (Bool.and_eq_true_iff.mp (Bool.and_eq_true_iff.mp (Bool.and_eq_true_iff.mp (Bool.and_eq_true_iff.mp h).1).1).1).1).1).1).1).1).1).1).1).1).1).1).1).1).1).1).1).1).1).1).1).1).1).1).1).1).1).1).1).1).2
theorem exs_11 {K : PySem.W.Frag} (h : ex K = true) : initB K "BadNumber" "GateError" ["given"] = true := (Bool.and_eq_true_iff.mp (Bool.and_eq_true_iff.mp (Bool.and_eq_true_iff.mp (Bool.and_eq_true_iff.mp (Bool.and_eq_true_iff.mp (Bool.and_eq_true_iff.mp (Bool.and_eq_true_iff.mp (Bool.and_eq_true_iff.mp (Bool.and_eq_true_iff.mp (Bool.and_eq_true_iff.mp (Bool.and_eq_true_iff.mp (Bool.and_eq_true_iff.mp (Bool.and_eq_true_iff.mp (Bool.and_eq_true_iff.mp (Bool.and_eq_true_iff.mp (Bool.and_eq_true_iff.mp (Bool.and_eq_true_iff.mp (Bool.and_eq_true_iff.mp (Bool.and_eq_true_iff.mp (Bool.and_eq_true_iff.mp (Bool.and_eq_true_iff.mp (Bool.and_eq_true_iff.mp (Bool.and_eq_true_iff.mp (Bool.and_eq_true_iff.mp (Bool.and_eq_true_iff.mp (Bool.and_eq_true_iff.mp (Bool.and_eq_true_iff.mp (Bool.and_eq_true_iff.mp (Bool.and_eq_true_iff.mp (Bool.and_eq_true_iff.mp (Bool.and_eq_true_iff.mp (Bool.and_eq_true_iff.mp h).1).1).1).1).1).1).1).1).1).1).1).1).1).1).1).1).1).1).1).1).1).1).1).1).1).1).1).1).1).1).1).2
theorem exs_12 {K : PySem.W.Frag} (h : ex K = true) : fldB clsN 11 "given" K = true := (Bool.and_eq_true_iff.mp (Bool.and_eq_true_iff.mp (Bool.and_eq_true_iff.mp (Bool.and_eq_true_iff.mp (Bool.and_eq_true_iff.mp (Bool.and_eq_true_iff.mp (Bool.and_eq_true_iff.mp (Bool.and_eq_true_iff.mp (Bool.and_eq_true_iff.mp (Bool.and_eq_true_iff.mp (Bool.and_eq_true_iff.mp (Bool.and_eq_true_iff.mp (Bool.and_eq_true_iff.mp (Bool.and_eq_true_iff.mp (Bool.and_eq_true_iff.mp (Bool.and_eq_true_iff.mp (Bool.and_eq_true_iff.mp (Bool.and_eq_true_iff.mp (Bool.and_eq_true_iff.mp (Bool.and_eq_true_iff.mp (Bool.and_eq_true_iff.mp (Bool.and_eq_true_iff.mp (Bool.and_eq_true_iff.mp (Bool.and_eq_true_iff.mp (Bool.and_eq_true_iff.mp (Bool.and_eq_true_iff.mp (Bool.and_eq_true_iff.mp (Bool.and_eq_true_iff.mp (Bool.and_eq_true_iff.mp (Bool.and_eq_true_iff.mp (Bool.and_eq_true_iff.mp h).1).1).1).1).1).1).1).1).1).1).1).1).1).1).1).1).1).1).1).1).1).1).1).1).1).1).1).1).1).1).2
theorem exs_13 {K : PySem.W.Frag} (h : ex K = true) : oexGB K (He.ga K "BadNotes") "ValueError.__new__" bm_ValueError = true := (Bool.and_eq_true_iff.mp (Bool.and_eq_true_iff.mp (Bool.and_eq_true_iff.mp (Bool.and_eq_true_iff.mp (Bool.and_eq_true_iff.mp (Bool.and_eq_true_iff.mp (Bool.and_eq_true_iff.mp (Bool.and_eq_true_iff.mp (Bool.and_eq_true_iff.mp (Bool.and_eq_true_iff.mp (Bool.and_eq_true_iff.mp (Bool.and_eq_true_iff.mp (Bool.and_eq_true_iff.mp (Bool.and_eq_true_iff.mp (Bool.and_eq_true_iff.mp (Bool.and_eq_true_iff.mp (Bool.and_eq_true_iff.mp (Bool.and_eq_true_iff.mp (Bool.and_eq_true_iff.mp (Bool.and_eq_true_iff.mp (Bool.and_eq_true_iff.mp (Bool.and_eq_true_iff.mp (Bool.and_eq_true_iff.mp (Bool.and_eq_true_iff.mp (Bool.and_eq_true_iff.mp (Bool.and_eq_true_iff.mp (Bool.and_eq_true_iff.mp (Bool.and_eq_true_iff.mp (Bool.and_eq_true_iff.mp (Bool.and_eq_true_iff.mp h).1).1).1).1).1).1).1).1).1).1).1).1).1).1).1).1).1).1).1).1).1).1).1).1).1).1).1).1).1).2
theorem exs_14 {K : PySem.W.Frag} (h : ex K = true) : initB K "BadNotes" "GateError" ["number"] = true := (Bool.and_eq_true_iff.mp (Bool.and_eq_true_iff.mp (Bool.and_eq_true_iff.mp (Bool.and_eq_true_iff.mp (Bool.and_eq_true_iff.mp (Bool.and_eq_true_iff.mp (Bool.and_eq_true_iff.mp (Bool.and_eq_true_iff.mp (Bool.and_eq_true_iff.mp (Bool.and_eq_true_iff.mp (Bool.and_eq_true_iff.mp (Bool.and_eq_true_iff.mp (Bool.and_eq_true_iff.mp (Bool.and_eq_true_iff.mp (Bool.and_eq_true_iff.mp (Bool.and_eq_true_iff.mp (Bool.and_eq_true_iff.mp (Bool.and_eq_true_iff.mp (Bool.and_eq_true_iff.mp (Bool.and_eq_true_iff.mp (Bool.and_eq_true_iff.mp (Bool.and_eq_true_iff.mp (Bool.and_eq_true_iff.mp (Bool.and_eq_true_iff.mp (Bool.and_eq_true_iff.mp (Bool.and_eq_true_iff.mp (Bool.and_eq_true_iff.mp (Bool.and_eq_true_iff.mp (Bool.and_eq_true_iff.mp h).1).1).1).1).1).1).1).1).1).1).1).1).1).1).1).1).1).1).1).1).1).1).1).1).1).1).1).1).2
theorem exs_15 {K : PySem.W.Frag} (h : ex K = true) : oexGB K (He.ga K "TooMany") "OverflowError.__new__" bm_OverflowError = true := (Bool.and_eq_true_iff.mp (Bool.and_eq_true_iff.mp (Bool.and_eq_true_iff.mp (Bool.and_eq_true_iff.mp (Bool.and_eq_true_iff.mp (Bool.and_eq_true_iff.mp (Bool.and_eq_true_iff.mp (Bool.and_eq_true_iff.mp (Bool.and_eq_true_iff.mp (Bool.and_eq_true_iff.mp (Bool.and_eq_true_iff.mp (Bool.and_eq_true_iff.mp (Bool.and_eq_true_iff.mp (Bool.and_eq_true_iff.mp (Bool.and_eq_true_iff.mp (Bool.and_eq_true_iff.mp (Bool.and_eq_true_iff.mp (Bool.and_eq_true_iff.mp (Bool.and_eq_true_iff.mp (Bool.and_eq_true_iff.mp (Bool.and_eq_true_iff.mp (Bool.and_eq_true_iff.mp (Bool.and_eq_true_iff.mp (Bool.and_eq_true_iff.mp (Bool.and_eq_true_iff.mp (Bool.and_eq_true_iff.mp (Bool.and_eq_true_iff.mp (Bool.and_eq_true_iff.mp h).1).1).1).1).1).1).1).1).1).1).1).1).1).1).1).1).1).1).1).1).1).1).1).1).1).1).1).2
theorem exs_16 {K : PySem.W.Frag} (h : ex K = true) : initB2 K "TooMany" "OverflowError" ["most"] = true := (Bool.and_eq_true_iff.mp (Bool.and_eq_true_iff.mp (Bool.and_eq_true_iff.mp (Bool.and_eq_true_iff.mp (Bool.and_eq_true_iff.mp (Bool.and_eq_true_iff.mp (Bool.and_eq_true_iff.mp (Bool.and_eq_true_iff.mp (Bool.and_eq_true_iff.mp (Bool.and_eq_true_iff.mp (Bool.and_eq_true_iff.mp (Bool.and_eq_true_iff.mp (Bool.and_eq_true_iff.mp (Bool.and_eq_true_iff.mp (Bool.and_eq_true_iff.mp (Bool.and_eq_true_iff.mp (Bool.and_eq_true_iff.mp (Bool.and_eq_true_iff.mp (Bool.and_eq_true_iff.mp (Bool.and_eq_true_iff.mp (Bool.and_eq_true_iff.mp (Bool.and_eq_true_iff.mp (Bool.and_eq_true_iff.mp (Bool.and_eq_true_iff.mp (Bool.and_eq_true_iff.mp (Bool.and_eq_true_iff.mp (Bool.and_eq_true_iff.mp h).1).1).1).1).1).1).1).1).1).1).1).1).1).1).1).1).1).1).1).1).1).1).1).1).1).1).2
theorem exs_17 {K : PySem.W.Frag} (h : ex K = true) : fldB clsN 11 "most" K = true := (Bool.and_eq_true_iff.mp (Bool.and_eq_true_iff.mp (Bool.and_eq_true_iff.mp (Bool.and_eq_true_iff.mp (Bool.and_eq_true_iff.mp (Bool.and_eq_true_iff.mp (Bool.and_eq_true_iff.mp (Bool.and_eq_true_iff.mp (Bool.and_eq_true_iff.mp (Bool.and_eq_true_iff.mp (Bool.and_eq_true_iff.mp (Bool.and_eq_true_iff.mp (Bool.and_eq_true_iff.mp (Bool.and_eq_true_iff.mp (Bool.and_eq_true_iff.mp (Bool.and_eq_true_iff.mp (Bool.and_eq_true_iff.mp (Bool.and_eq_true_iff.mp (Bool.and_eq_true_iff.mp (Bool.and_eq_true_iff.mp (Bool.and_eq_true_iff.mp (Bool.and_eq_true_iff.mp (Bool.and_eq_true_iff.mp (Bool.and_eq_true_iff.mp (Bool.and_eq_true_iff.mp (Bool.and_eq_true_iff.mp h).1).1).1).1).1).1).1).1).1).1).1).1).1).1).1).1).1).1).1).1).1).1).1).1).1).2
theorem exs_18 {K : PySem.W.Frag} (h : ex K = true) : fldB clsN 11 "line" K = true := (Bool.and_eq_true_iff.mp (Bool.and_eq_true_iff.mp (Bool.and_eq_true_iff.mp (Bool.and_eq_true_iff.mp (Bool.and_eq_true_iff.mp (Bool.and_eq_true_iff.mp (Bool.and_eq_true_iff.mp (Bool.and_eq_true_iff.mp (Bool.and_eq_true_iff.mp (Bool.and_eq_true_iff.mp (Bool.and_eq_true_iff.mp (Bool.and_eq_true_iff.mp (Bool.and_eq_true_iff.mp (Bool.and_eq_true_iff.mp (Bool.and_eq_true_iff.mp (Bool.and_eq_true_iff.mp (Bool.and_eq_true_iff.mp (Bool.and_eq_true_iff.mp (Bool.and_eq_true_iff.mp (Bool.and_eq_true_iff.mp (Bool.and_eq_true_iff.mp (Bool.and_eq_true_iff.mp (Bool.and_eq_true_iff.mp (Bool.and_eq_true_iff.mp (Bool.and_eq_true_iff.mp h).1).1).1).1).1).1).1).1).1).1).1).1).1).1).1).1).1).1).1).1).1).1).1).1).2
theorem exs_19 {K : PySem.W.Frag} (h : ex K = true) : oexGB K (He.ga K "NoOrder") "ValueError.__new__" bm_ValueError = true := (Bool.and_eq_true_iff.mp (Bool.and_eq_true_iff.mp (Bool.and_eq_true_iff.mp (Bool.and_eq_true_iff.mp (Bool.and_eq_true_iff.mp (Bool.and_eq_true_iff.mp (Bool.and_eq_true_iff.mp (Bool.and_eq_true_iff.mp (Bool.and_eq_true_iff.mp (Bool.and_eq_true_iff.mp (Bool.and_eq_true_iff.mp (Bool.and_eq_true_iff.mp (Bool.and_eq_true_iff.mp (Bool.and_eq_true_iff.mp (Bool.and_eq_true_iff.mp (Bool.and_eq_true_iff.mp (Bool.and_eq_true_iff.mp (Bool.and_eq_true_iff.mp (Bool.and_eq_true_iff.mp (Bool.and_eq_true_iff.mp (Bool.and_eq_true_iff.mp (Bool.and_eq_true_iff.mp (Bool.and_eq_true_iff.mp (Bool.and_eq_true_iff.mp h).1).1).1).1).1).1).1).1).1).1).1).1).1).1).1).1).1).1).1).1).1).1).1).2
theorem exs_20 {K : PySem.W.Frag} (h : ex K = true) : initB K "NoOrder" "GateError" ["word"] = true := (Bool.and_eq_true_iff.mp (Bool.and_eq_true_iff.mp (Bool.and_eq_true_iff.mp (Bool.and_eq_true_iff.mp (Bool.and_eq_true_iff.mp (Bool.and_eq_true_iff.mp (Bool.and_eq_true_iff.mp (Bool.and_eq_true_iff.mp (Bool.and_eq_true_iff.mp (Bool.and_eq_true_iff.mp (Bool.and_eq_true_iff.mp (Bool.and_eq_true_iff.mp (Bool.and_eq_true_iff.mp (Bool.and_eq_true_iff.mp (Bool.and_eq_true_iff.mp (Bool.and_eq_true_iff.mp (Bool.and_eq_true_iff.mp (Bool.and_eq_true_iff.mp (Bool.and_eq_true_iff.mp (Bool.and_eq_true_iff.mp (Bool.and_eq_true_iff.mp (Bool.and_eq_true_iff.mp (Bool.and_eq_true_iff.mp h).1).1).1).1).1).1).1).1).1).1).1).1).1).1).1).1).1).1).1).1).1).1).2
theorem exs_21 {K : PySem.W.Frag} (h : ex K = true) : fldB clsN 11 "word" K = true := (Bool.and_eq_true_iff.mp (Bool.and_eq_true_iff.mp (Bool.and_eq_true_iff.mp (Bool.and_eq_true_iff.mp (Bool.and_eq_true_iff.mp (Bool.and_eq_true_iff.mp (Bool.and_eq_true_iff.mp (Bool.and_eq_true_iff.mp (Bool.and_eq_true_iff.mp (Bool.and_eq_true_iff.mp (Bool.and_eq_true_iff.mp (Bool.and_eq_true_iff.mp (Bool.and_eq_true_iff.mp (Bool.and_eq_true_iff.mp (Bool.and_eq_true_iff.mp (Bool.and_eq_true_iff.mp (Bool.and_eq_true_iff.mp (Bool.and_eq_true_iff.mp (Bool.and_eq_true_iff.mp (Bool.and_eq_true_iff.mp (Bool.and_eq_true_iff.mp (Bool.and_eq_true_iff.mp h).1).1).1).1).1).1).1).1).1).1).1).1).1).1).1).1).1).1).1).1).1).2
theorem exs_22 {K : PySem.W.Frag} (h : ex K = true) : oexGB K (He.ga K "BadPaper") "ValueError.__new__" bm_ValueError = true := (Bool.and_eq_true_iff.mp (Bool.and_eq_true_iff.mp (Bool.and_eq_true_iff.mp (Bool.and_eq_true_iff.mp (Bool.and_eq_true_iff.mp (Bool.and_eq_true_iff.mp (Bool.and_eq_true_iff.mp (Bool.and_eq_true_iff.mp (Bool.and_eq_true_iff.mp (Bool.and_eq_true_iff.mp (Bool.and_eq_true_iff.mp (Bool.and_eq_true_iff.mp (Bool.and_eq_true_iff.mp (Bool.and_eq_true_iff.mp (Bool.and_eq_true_iff.mp (Bool.and_eq_true_iff.mp (Bool.and_eq_true_iff.mp (Bool.and_eq_true_iff.mp (Bool.and_eq_true_iff.mp (Bool.and_eq_true_iff.mp (Bool.and_eq_true_iff.mp h).1).1).1).1).1).1).1).1).1).1).1).1).1).1).1).1).1).1).1).1).2
theorem exs_23 {K : PySem.W.Frag} (h : ex K = true) : initB K "BadPaper" "GateError" ["part"] = true := (Bool.and_eq_true_iff.mp (Bool.and_eq_true_iff.mp (Bool.and_eq_true_iff.mp (Bool.and_eq_true_iff.mp (Bool.and_eq_true_iff.mp (Bool.and_eq_true_iff.mp (Bool.and_eq_true_iff.mp (Bool.and_eq_true_iff.mp (Bool.and_eq_true_iff.mp (Bool.and_eq_true_iff.mp (Bool.and_eq_true_iff.mp (Bool.and_eq_true_iff.mp (Bool.and_eq_true_iff.mp (Bool.and_eq_true_iff.mp (Bool.and_eq_true_iff.mp (Bool.and_eq_true_iff.mp (Bool.and_eq_true_iff.mp (Bool.and_eq_true_iff.mp (Bool.and_eq_true_iff.mp (Bool.and_eq_true_iff.mp h).1).1).1).1).1).1).1).1).1).1).1).1).1).1).1).1).1).1).1).2
theorem exs_24 {K : PySem.W.Frag} (h : ex K = true) : oexGB K (He.ga K "NothingLeft") "RuntimeError.__new__" bm_RuntimeError = true := (Bool.and_eq_true_iff.mp (Bool.and_eq_true_iff.mp (Bool.and_eq_true_iff.mp (Bool.and_eq_true_iff.mp (Bool.and_eq_true_iff.mp (Bool.and_eq_true_iff.mp (Bool.and_eq_true_iff.mp (Bool.and_eq_true_iff.mp (Bool.and_eq_true_iff.mp (Bool.and_eq_true_iff.mp (Bool.and_eq_true_iff.mp (Bool.and_eq_true_iff.mp (Bool.and_eq_true_iff.mp (Bool.and_eq_true_iff.mp (Bool.and_eq_true_iff.mp (Bool.and_eq_true_iff.mp (Bool.and_eq_true_iff.mp (Bool.and_eq_true_iff.mp (Bool.and_eq_true_iff.mp h).1).1).1).1).1).1).1).1).1).1).1).1).1).1).1).1).1).1).2
theorem exs_25 {K : PySem.W.Frag} (h : ex K = true) : initB2 K "NothingLeft" "RuntimeError" ["many"] = true := (Bool.and_eq_true_iff.mp (Bool.and_eq_true_iff.mp (Bool.and_eq_true_iff.mp (Bool.and_eq_true_iff.mp (Bool.and_eq_true_iff.mp (Bool.and_eq_true_iff.mp (Bool.and_eq_true_iff.mp (Bool.and_eq_true_iff.mp (Bool.and_eq_true_iff.mp (Bool.and_eq_true_iff.mp (Bool.and_eq_true_iff.mp (Bool.and_eq_true_iff.mp (Bool.and_eq_true_iff.mp (Bool.and_eq_true_iff.mp (Bool.and_eq_true_iff.mp (Bool.and_eq_true_iff.mp (Bool.and_eq_true_iff.mp (Bool.and_eq_true_iff.mp h).1).1).1).1).1).1).1).1).1).1).1).1).1).1).1).1).1).2
theorem exs_26 {K : PySem.W.Frag} (h : ex K = true) : fldB clsN 11 "many" K = true := (Bool.and_eq_true_iff.mp (Bool.and_eq_true_iff.mp (Bool.and_eq_true_iff.mp (Bool.and_eq_true_iff.mp (Bool.and_eq_true_iff.mp (Bool.and_eq_true_iff.mp (Bool.and_eq_true_iff.mp (Bool.and_eq_true_iff.mp (Bool.and_eq_true_iff.mp (Bool.and_eq_true_iff.mp (Bool.and_eq_true_iff.mp (Bool.and_eq_true_iff.mp (Bool.and_eq_true_iff.mp (Bool.and_eq_true_iff.mp (Bool.and_eq_true_iff.mp (Bool.and_eq_true_iff.mp (Bool.and_eq_true_iff.mp h).1).1).1).1).1).1).1).1).1).1).1).1).1).1).1).1).2
theorem exs_27 {K : PySem.W.Frag} (h : ex K = true) : modsB K = true := (Bool.and_eq_true_iff.mp (Bool.and_eq_true_iff.mp (Bool.and_eq_true_iff.mp (Bool.and_eq_true_iff.mp (Bool.and_eq_true_iff.mp (Bool.and_eq_true_iff.mp (Bool.and_eq_true_iff.mp (Bool.and_eq_true_iff.mp (Bool.and_eq_true_iff.mp (Bool.and_eq_true_iff.mp (Bool.and_eq_true_iff.mp (Bool.and_eq_true_iff.mp (Bool.and_eq_true_iff.mp (Bool.and_eq_true_iff.mp (Bool.and_eq_true_iff.mp (Bool.and_eq_true_iff.mp h).1).1).1).1).1).1).1).1).1).1).1).1).1).1).1).2
theorem exs_28 {K : PySem.W.Frag} (h : ex K = true) : clsB clsN 11 K = true := (Bool.and_eq_true_iff.mp (Bool.and_eq_true_iff.mp (Bool.and_eq_true_iff.mp (Bool.and_eq_true_iff.mp (Bool.and_eq_true_iff.mp (Bool.and_eq_true_iff.mp (Bool.and_eq_true_iff.mp (Bool.and_eq_true_iff.mp (Bool.and_eq_true_iff.mp (Bool.and_eq_true_iff.mp (Bool.and_eq_true_iff.mp (Bool.and_eq_true_iff.mp (Bool.and_eq_true_iff.mp (Bool.and_eq_true_iff.mp (Bool.and_eq_true_iff.mp h).1).1).1).1).1).1).1).1).1).1).1).1).1).1).2
theorem exs_29 {K : PySem.W.Frag} (h : ex K = true) : isB clsN 11 [0, 1, 2, 3, 4, 5, 6, 7, 8] (fun K => .type "ValueError") K = true := (Bool.and_eq_true_iff.mp (Bool.and_eq_true_iff.mp (Bool.and_eq_true_iff.mp (Bool.and_eq_true_iff.mp (Bool.and_eq_true_iff.mp (Bool.and_eq_true_iff.mp (Bool.and_eq_true_iff.mp (Bool.and_eq_true_iff.mp (Bool.and_eq_true_iff.mp (Bool.and_eq_true_iff.mp (Bool.and_eq_true_iff.mp (Bool.and_eq_true_iff.mp (Bool.and_eq_true_iff.mp (Bool.and_eq_true_iff.mp h).1).1).1).1).1).1).1).1).1).1).1).1).1).2
theorem exs_30 {K : PySem.W.Frag} (h : ex K = true) : isB clsN 11 [0, 1, 2, 3, 4, 5, 6, 7, 8] (fun K => .ref (He.ga K "GateError")) K = true := (Bool.and_eq_true_iff.mp (Bool.and_eq_true_iff.mp (Bool.and_eq_true_iff.mp (Bool.and_eq_true_iff.mp (Bool.and_eq_true_iff.mp (Bool.and_eq_true_iff.mp (Bool.and_eq_true_iff.mp (Bool.and_eq_true_iff.mp (Bool.and_eq_true_iff.mp (Bool.and_eq_true_iff.mp (Bool.and_eq_true_iff.mp (Bool.and_eq_true_iff.mp (Bool.and_eq_true_iff.mp h).1).1).1).1).1).1).1).1).1).1).1).1).2
theorem exs_31 {K : PySem.W.Frag} (h : ex K = true) : isB clsN 11 [10] (fun K => .type "RuntimeError") K = true := (Bool.and_eq_true_iff.mp (Bool.and_eq_true_iff.mp (Bool.and_eq_true_iff.mp (Bool.and_eq_true_iff.mp (Bool.and_eq_true_iff.mp (Bool.and_eq_true_iff.mp (Bool.and_eq_true_iff.mp (Bool.and_eq_true_iff.mp (Bool.and_eq_true_iff.mp (Bool.and_eq_true_iff.mp (Bool.and_eq_true_iff.mp (Bool.and_eq_true_iff.mp h).1).1).1).1).1).1).1).1).1).1).1).2
theorem exs_32 {K : PySem.W.Frag} (h : ex K = true) : isB clsN 11 [9] (fun K => .type "OverflowError") K = true := (Bool.and_eq_true_iff.mp (Bool.and_eq_true_iff.mp (Bool.and_eq_true_iff.mp (Bool.and_eq_true_iff.mp (Bool.and_eq_true_iff.mp (Bool.and_eq_true_iff.mp (Bool.and_eq_true_iff.mp (Bool.and_eq_true_iff.mp (Bool.and_eq_true_iff.mp (Bool.and_eq_true_iff.mp (Bool.and_eq_true_iff.mp h).1).1).1).1).1).1).1).1).1).1).2
theorem exs_33 {K : PySem.W.Frag} (h : ex K = true) : isB clsN 11 [2] (fun K => .ref (He.ga K "BadHeads")) K = true := (Bool.and_eq_true_iff.mp (Bool.and_eq_true_iff.mp (Bool.and_eq_true_iff.mp (Bool.and_eq_true_iff.mp (Bool.and_eq_true_iff.mp (Bool.and_eq_true_iff.mp (Bool.and_eq_true_iff.mp (Bool.and_eq_true_iff.mp (Bool.and_eq_true_iff.mp (Bool.and_eq_true_iff.mp h).1).1).1).1).1).1).1).1).1).2
theorem exs_34 {K : PySem.W.Frag} (h : ex K = true) : isB clsN 11 [1] (fun K => .ref (He.ga K "BadHouse")) K = true := (Bool.and_eq_true_iff.mp (Bool.and_eq_true_iff.mp (Bool.and_eq_true_iff.mp (Bool.and_eq_true_iff.mp (Bool.and_eq_true_iff.mp (Bool.and_eq_true_iff.mp (Bool.and_eq_true_iff.mp (Bool.and_eq_true_iff.mp (Bool.and_eq_true_iff.mp h).1).1).1).1).1).1).1).1).2
theorem exs_35 {K : PySem.W.Frag} (h : ex K = true) : isB clsN 11 [4] (fun K => .ref (He.ga K "BadNotes")) K = true := (Bool.and_eq_true_iff.mp (Bool.and_eq_true_iff.mp (Bool.and_eq_true_iff.mp (Bool.and_eq_true_iff.mp (Bool.and_eq_true_iff.mp (Bool.and_eq_true_iff.mp (Bool.and_eq_true_iff.mp (Bool.and_eq_true_iff.mp h).1).1).1).1).1).1).1).2
theorem exs_36 {K : PySem.W.Frag} (h : ex K = true) : isB clsN 11 [3] (fun K => .ref (He.ga K "BadCounts")) K = true := (Bool.and_eq_true_iff.mp (Bool.and_eq_true_iff.mp (Bool.and_eq_true_iff.mp (Bool.and_eq_true_iff.mp (Bool.and_eq_true_iff.mp (Bool.and_eq_true_iff.mp (Bool.and_eq_true_iff.mp h).1).1).1).1).1).1).2
theorem exs_37 {K : PySem.W.Frag} (h : ex K = true) : isB clsN 11 [6] (fun K => .ref (He.ga K "BadPaper")) K = true := (Bool.and_eq_true_iff.mp (Bool.and_eq_true_iff.mp (Bool.and_eq_true_iff.mp (Bool.and_eq_true_iff.mp (Bool.and_eq_true_iff.mp (Bool.and_eq_true_iff.mp h).1).1).1).1).1).2
theorem exs_38 {K : PySem.W.Frag} (h : ex K = true) : isB clsN 11 [5] (fun K => .ref (He.ga K "BadNumber")) K = true := (Bool.and_eq_true_iff.mp (Bool.and_eq_true_iff.mp (Bool.and_eq_true_iff.mp (Bool.and_eq_true_iff.mp (Bool.and_eq_true_iff.mp h).1).1).1).1).2
theorem exs_39 {K : PySem.W.Frag} (h : ex K = true) : isB clsN 11 [8] (fun K => .ref (He.ga K "NoOrder")) K = true := (Bool.and_eq_true_iff.mp (Bool.and_eq_true_iff.mp (Bool.and_eq_true_iff.mp (Bool.and_eq_true_iff.mp h).1).1).1).2
theorem exs_40 {K : PySem.W.Frag} (h : ex K = true) : isB clsN 11 [7] (fun K => .ref (He.ga K "BadText")) K = true := (Bool.and_eq_true_iff.mp (Bool.and_eq_true_iff.mp (Bool.and_eq_true_iff.mp h).1).1).2
theorem exs_41 {K : PySem.W.Frag} (h : ex K = true) : isB clsN 11 [10] (fun K => .ref (He.ga K "NothingLeft")) K = true := (Bool.and_eq_true_iff.mp (Bool.and_eq_true_iff.mp h).1).2
theorem exs_42 {K : PySem.W.Frag} (h : ex K = true) : isB clsN 11 [9] (fun K => .ref (He.ga K "TooMany")) K = true := (Bool.and_eq_true_iff.mp h).2
abbrev s__law_begin : Stmt := top 13
theorem sc__law_begin : FnScope ["_law_script"] ["_law_script"] (defScope s__law_begin) := ⟨rfl, rfl, rfl, by decide +kernel, rfl, by decide +kernel, by decide +kernel⟩
theorem bind__law_begin : BindOk "_law_begin" s__law_begin ["_law_script"] := fun _ _ _ _ _ _ us hl => match us, hl with | [_], _ => rfl
theorem ok__law_begin {P : Program} {w : World} {base : Heap} {K : PySem.W.Frag} {mg : Str → Option Value} (Z : Cnd fa fn ex K mg) : FnAt P w K mg base (tab K) 1 "_law_begin" s__law_begin ["_law_script"] m__law_begin := by
  refine fnAt_of (body := b__law_begin) Z sc__law_begin 0 0 bind__law_begin .k fun cdv A outer s H E hr hgd tk hp => ?_
  exact (ss_one (s_ret (e_disp (pps_cons e_str (e_op op_addA snd_add (e_v 0) (e_lst (a_cons e_int a_nil))) (pps_cons e_str e_int (pps_cons e_str e_int (pps_cons e_str e_int pps_nil)))) (prd_cons (prd_cons (prd_cons (prd_cons prd_nil)))))))
abbrev s__law_next : Stmt := top 14
theorem sc__law_next : FnScope ["_law_draw", "_law_count_so", "_law_cell", "_law_cells", "_law_figure", "_law_k"] ["_law_draw", "_law_count_so"] (defScope s__law_next) := ⟨rfl, rfl, rfl, by decide +kernel, rfl, by decide +kernel, by decide +kernel⟩
theorem bind__law_next : BindOk "_law_next" s__law_next ["_law_draw", "_law_count_so"] := fun _ _ _ _ _ _ us hl => match us, hl with | [_, _], _ => rfl
theorem ok__law_next {P : Program} {w : World} {base : Heap} {K : PySem.W.Frag} {mg : Str → Option Value} (Z : Cnd fa fn ex K mg) : FnAt P w K mg base (tab K) 1 "_law_next" s__law_next ["_law_draw", "_law_count_so"] m__law_next := by
  refine fnAt_of (body := b__law_next) Z sc__law_next 3 1 bind__law_next .f fun cdv A outer s H E hr hgd tk hp => ?_
  exact (ss_cons (s_if (t_cmp op_gt snd_gt (e_ix rfl (hu1 hr) (e_v 0) e_str) e_int (nomark _)) (ss_cons (s_asg (e_tup (a_cons (e_ix rfl (hu1 hr) (e_v 0) e_str) (a_cons (e_fdiv (e_ix rfl (hu1 hr) (e_v 0) e_str) (e_v 1)) a_nil))) (g_tup rfl rfl (gs_cons (g_name sc__law_next.nd) (gs_cons (g_sub (W := fun c d _ H' => E c d H') (hu1 hr) (e_v 0) e_str) gs_nil))))
  (ss_one (s_ret (e_mod (e_v 2) (e_v 1))))) ss_nil)
  (ss_cons (s_set sc__law_next.nd (e_ix rfl (hu1 hr) (e_v 0) e_str))
  (ss_cons (s_set sc__law_next.nd (e_ix rfl (hu1 hr) (e_v 3) (e_mod (e_ix rfl (hu1 hr) (e_v 0) e_str) (e_bf call_lenA snd_len (by decide +kernel) (Z.free 2) (a_cons (e_v 3) a_nil)))))
  (ss_cons (s_asg (e_op op_addA snd_add (e_ix rfl (hu1 hr) (e_v 0) e_str) e_int) (g_sub (W := fun c d _ H' => E c d H') (hu1 hr) (e_v 0) e_str))
  (ss_cons (s_if (PW.pt (w_and (t_cmp op_ge snd_ge (e_v 2) (e_pow e_int e_int) (nomark _)) (w_and1 (t_cmp op_le snd_le (e_ix rfl (hu1 hr) (e_v 0) e_str) (e_bf call_lenA snd_len (by decide +kernel) (Z.free 2) (a_cons (e_v 3) a_nil)) (nomark _))))) (ss_cons (s_asg (e_fdiv (e_v 2) (e_v 1)) (g_sub (W := fun c d _ H' => E c d H') (hu1 hr) (e_v 0) e_str))
  (ss_one (s_ret (e_mod (e_v 2) (e_v 1))))) ss_nil)
  (ss_cons (s_asg (e_op op_addA snd_add (e_ix rfl (hu1 hr) (e_v 0) e_str) e_int) (g_sub (W := fun c d _ H' => E c d H') (hu1 hr) (e_v 0) e_str))
  (ss_cons (s_set sc__law_next.nd (e_op op_addA snd_add (e_mod (e_v 2) e_int) (e_op op_mulA snd_mul (e_op op_mulA snd_mul e_int (e_ix rfl (hu1 hr) (e_v 0) e_str)) (e_ix rfl (hu1 hr) (e_v 0) e_str))))
  (ss_cons (s_for hp rfl (i_seq rfl (e_tup (a_cons (e_ix rfl (hu1 hr) (e_v 0) e_str) (a_cons (e_ix rfl (hu1 hr) (e_v 0) e_str) a_nil)))) (g_name sc__law_next.nd) (ss_cons (s_set sc__law_next.nd (e_mod (e_op op_mulA snd_mul (e_op op_addA snd_add (e_op op_addA snd_add (e_v 4) (e_op op_mulA snd_mul e_int (e_v 5))) e_int) e_int) e_int))
  (ss_one (s_set sc__law_next.nd (e_mod (e_op op_mulA snd_mul (e_v 4) (e_op op_addA snd_add e_int (e_op op_mulA snd_mul e_int (e_mod (e_v 5) e_int)))) e_int)))))
  (ss_one (s_ret (e_mod (e_fdiv (e_v 4) e_int) (e_v 1))))))))))))
abbrev s__law_pick : Stmt := top 15
theorem sc__law_pick : FnScope ["_law_draw", "_law_some"] ["_law_draw", "_law_some"] (defScope s__law_pick) := ⟨rfl, rfl, rfl, by decide +kernel, rfl, by decide +kernel, by decide +kernel⟩
theorem bind__law_pick : BindOk "_law_pick" s__law_pick ["_law_draw", "_law_some"] := fun _ _ _ _ _ _ us hl => match us, hl with | [_, _], _ => rfl
theorem ok__law_pick {P : Program} {w : World} {base : Heap} {K : PySem.W.Frag} {mg : Str → Option Value} (Z : Cnd fa fn ex K mg) : FnAt P w K mg base (tab K) 2 "_law_pick" s__law_pick ["_law_draw", "_law_some"] m__law_pick := by
  refine fnAt_of (body := b__law_pick) Z sc__law_pick 4 2 bind__law_pick .f fun cdv A outer s H E hr hgd tk hp => ?_
  exact (ss_one (s_ret (e_ix rfl (hu1 hr) (e_v 1) (e_callF (ok__law_next Z) hr hgd tk (a_cons (e_v 0) (a_cons (e_bf call_lenA snd_len (by decide +kernel) (Z.free 2) (a_cons (e_v 1) a_nil)) a_nil))))))
abbrev s_BadText_init : Stmt := inCls (top 8) 0
theorem sc_BadText_init : FnScope ["self", "line", "word"] ["self", "line", "word"] (defScope s_BadText_init) := ⟨rfl, rfl, rfl, by decide +kernel, rfl, by decide +kernel, by decide +kernel⟩
theorem okg_BadText {P : Program} {w : World} {base : Heap} {K : PySem.W.Frag} {mg : Str → Option Value} (Z : Cnd fa fn ex K mg) : InitG P w K mg base "BadText" "BadText.__init__" s_BadText_init (He.ga K "BadText") "self" ["line", "word"] := by
  have I := initF_of (exs_1 Z.m)
  have G : OexG K (He.ga K "BadText") "ValueError.__new__" bm_ValueError := oexG_of (exs_0 Z.m)
  obtain ⟨fd, F⟩ := Z.c.def_ 3 (d := d_BadText_init) rfl
  have kw : ∀ ks perm, KwOkM "__init__" "BadText.__init__" s_BadText_init ("self" :: ["line", "word"]) ks perm → ∀ (sh : Shared) (self : Value) (ws : List Value), ws.length = ks.length → BindsTo sh fd ⟨[self], ks.zip ws⟩ (("self" :: ["line", "word"] : List Str).zip (self :: permL perm ws)) := by
    obtain ⟨oc, od, dV, kV, doc, pm, an, cdv, ct, osl, rfl, lk, hcd, hD, hK⟩ := F.ex
    rcases hD with ⟨_, rfl⟩ | ⟨e, _⟩
    · exact fun ks perm hk sh self ws hl => .of_eq (hk kV doc pm an cdv ct self ws hl)
    · exact absurd rfl e
  refine ⟨_, fd, _, _, _, _, Z.glo 5, G, PySem.F.excBase_ValueError, I.fi, I.ty, F.bindsN (fun _ _ _ _ _ _ us hl => match us, hl with | [_, _, _], _ => rfl), F.ok sc_BadText_init (fun vs H Q E ⟨a, ys, e, hl, _⟩ => by rw [e, List.length_cons, hl]; rfl) fun cdv A outer s H vs Q E hr h => ⟨_, ?_, init2_read (z := "no text") I.oex (I.fs _ (by simp)) (I.fs _ (by simp)) h⟩, kw⟩
  exact pss_cons (ps_expr (pe_oinit (Z.glo 6) I.rd I.vi (pa_cons (pv 0) (pa_cons pe_str pa_nil)))) (pss_cons (ps_ost (pv 0) (pv 1)) (pss_one (ps_ost (pv 0) (pv 2))))
abbrev s_BadCounts_init : Stmt := inCls (top 4) 0
theorem sc_BadCounts_init : FnScope ["self", "number"] ["self", "number"] (defScope s_BadCounts_init) := ⟨rfl, rfl, rfl, by decide +kernel, rfl, by decide +kernel, by decide +kernel⟩
theorem okg_BadCounts {P : Program} {w : World} {base : Heap} {K : PySem.W.Frag} {mg : Str → Option Value} (Z : Cnd fa fn ex K mg) : InitG P w K mg base "BadCounts" "BadCounts.__init__" s_BadCounts_init (He.ga K "BadCounts") "self" ["number"] := by
  have I := initF_of (exs_3 Z.m)
  have G : OexG K (He.ga K "BadCounts") "ValueError.__new__" bm_ValueError := oexG_of (exs_2 Z.m)
  obtain ⟨fd, F⟩ := Z.c.def_ 4 (d := d_BadCounts_init) rfl
  have kw : ∀ ks perm, KwOkM "__init__" "BadCounts.__init__" s_BadCounts_init ("self" :: ["number"]) ks perm → ∀ (sh : Shared) (self : Value) (ws : List Value), ws.length = ks.length → BindsTo sh fd ⟨[self], ks.zip ws⟩ (("self" :: ["number"] : List Str).zip (self :: permL perm ws)) := by
    obtain ⟨oc, od, dV, kV, doc, pm, an, cdv, ct, osl, rfl, lk, hcd, hD, hK⟩ := F.ex
    rcases hD with ⟨_, rfl⟩ | ⟨e, _⟩
    · exact fun ks perm hk sh self ws hl => .of_eq (hk kV doc pm an cdv ct self ws hl)
    · exact absurd rfl e
  refine ⟨_, fd, _, _, _, _, Z.glo 7, G, PySem.F.excBase_ValueError, I.fi, I.ty, F.bindsN (fun _ _ _ _ _ _ us hl => match us, hl with | [_, _], _ => rfl), F.ok sc_BadCounts_init (fun vs H Q E ⟨a, ys, e, hl, _⟩ => by rw [e, List.length_cons, hl]; rfl) fun cdv A outer s H vs Q E hr h => ⟨_, ?_, init1_read (z := "no counts") I.oex (I.fs _ (by simp)) h⟩, kw⟩
  exact pss_cons (ps_expr (pe_oinit (Z.glo 6) I.rd I.vi (pa_cons (pv 0) (pa_cons pe_str pa_nil)))) (pss_one (ps_ost (pv 0) (pv 1)))
abbrev s_BadHeads_init : Stmt := inCls (top 3) 0
theorem sc_BadHeads_init : FnScope ["self", "number"] ["self", "number"] (defScope s_BadHeads_init) := ⟨rfl, rfl, rfl, by decide +kernel, rfl, by decide +kernel, by decide +kernel⟩
theorem okg_BadHeads {P : Program} {w : World} {base : Heap} {K : PySem.W.Frag} {mg : Str → Option Value} (Z : Cnd fa fn ex K mg) : InitG P w K mg base "BadHeads" "BadHeads.__init__" s_BadHeads_init (He.ga K "BadHeads") "self" ["number"] := by
  have I := initF_of (exs_6 Z.m)
  have G : OexG K (He.ga K "BadHeads") "ValueError.__new__" bm_ValueError := oexG_of (exs_5 Z.m)
  obtain ⟨fd, F⟩ := Z.c.def_ 5 (d := d_BadHeads_init) rfl
  have kw : ∀ ks perm, KwOkM "__init__" "BadHeads.__init__" s_BadHeads_init ("self" :: ["number"]) ks perm → ∀ (sh : Shared) (self : Value) (ws : List Value), ws.length = ks.length → BindsTo sh fd ⟨[self], ks.zip ws⟩ (("self" :: ["number"] : List Str).zip (self :: permL perm ws)) := by
    obtain ⟨oc, od, dV, kV, doc, pm, an, cdv, ct, osl, rfl, lk, hcd, hD, hK⟩ := F.ex
    rcases hD with ⟨_, rfl⟩ | ⟨e, _⟩
    · exact fun ks perm hk sh self ws hl => .of_eq (hk kV doc pm an cdv ct self ws hl)
    · exact absurd rfl e
  refine ⟨_, fd, _, _, _, _, Z.glo 8, G, PySem.F.excBase_ValueError, I.fi, I.ty, F.bindsN (fun _ _ _ _ _ _ us hl => match us, hl with | [_, _], _ => rfl), F.ok sc_BadHeads_init (fun vs H Q E ⟨a, ys, e, hl, _⟩ => by rw [e, List.length_cons, hl]; rfl) fun cdv A outer s H vs Q E hr h => ⟨_, ?_, init1_read (z := "no heads") I.oex (I.fs _ (by simp)) h⟩, kw⟩
  exact pss_cons (ps_expr (pe_oinit (Z.glo 6) I.rd I.vi (pa_cons (pv 0) (pa_cons pe_str pa_nil)))) (pss_one (ps_ost (pv 0) (pv 1)))
abbrev s_BadHouse_init : Stmt := inCls (top 2) 0
theorem sc_BadHouse_init : FnScope ["self", "part"] ["self", "part"] (defScope s_BadHouse_init) := ⟨rfl, rfl, rfl, by decide +kernel, rfl, by decide +kernel, by decide +kernel⟩
theorem okg_BadHouse {P : Program} {w : World} {base : Heap} {K : PySem.W.Frag} {mg : Str → Option Value} (Z : Cnd fa fn ex K mg) : InitG P w K mg base "BadHouse" "BadHouse.__init__" s_BadHouse_init (He.ga K "BadHouse") "self" ["part"] := by
  have I := initF_of (exs_8 Z.m)
  have G : OexG K (He.ga K "BadHouse") "ValueError.__new__" bm_ValueError := oexG_of (exs_7 Z.m)
  obtain ⟨fd, F⟩ := Z.c.def_ 6 (d := d_BadHouse_init) rfl
  have kw : ∀ ks perm, KwOkM "__init__" "BadHouse.__init__" s_BadHouse_init ("self" :: ["part"]) ks perm → ∀ (sh : Shared) (self : Value) (ws : List Value), ws.length = ks.length → BindsTo sh fd ⟨[self], ks.zip ws⟩ (("self" :: ["part"] : List Str).zip (self :: permL perm ws)) := by
    obtain ⟨oc, od, dV, kV, doc, pm, an, cdv, ct, osl, rfl, lk, hcd, hD, hK⟩ := F.ex
    rcases hD with ⟨_, rfl⟩ | ⟨e, _⟩
    · exact fun ks perm hk sh self ws hl => .of_eq (hk kV doc pm an cdv ct self ws hl)
    · exact absurd rfl e
  refine ⟨_, fd, _, _, _, _, Z.glo 9, G, PySem.F.excBase_ValueError, I.fi, I.ty, F.bindsN (fun _ _ _ _ _ _ us hl => match us, hl with | [_, _], _ => rfl), F.ok sc_BadHouse_init (fun vs H Q E ⟨a, ys, e, hl, _⟩ => by rw [e, List.length_cons, hl]; rfl) fun cdv A outer s H vs Q E hr h => ⟨_, ?_, init1_read (z := "no house") I.oex (I.fs _ (by simp)) h⟩, kw⟩
  exact pss_cons (ps_expr (pe_oinit (Z.glo 6) I.rd I.vi (pa_cons (pv 0) (pa_cons pe_str pa_nil)))) (pss_one (ps_ost (pv 0) (pv 1)))
abbrev s_BadNumber_init : Stmt := inCls (top 6) 0
theorem sc_BadNumber_init : FnScope ["self", "given"] ["self", "given"] (defScope s_BadNumber_init) := ⟨rfl, rfl, rfl, by decide +kernel, rfl, by decide +kernel, by decide +kernel⟩
theorem okg_BadNumber {P : Program} {w : World} {base : Heap} {K : PySem.W.Frag} {mg : Str → Option Value} (Z : Cnd fa fn ex K mg) : InitG P w K mg base "BadNumber" "BadNumber.__init__" s_BadNumber_init (He.ga K "BadNumber") "self" ["given"] := by
  have I := initF_of (exs_11 Z.m)
  have G : OexG K (He.ga K "BadNumber") "ValueError.__new__" bm_ValueError := oexG_of (exs_10 Z.m)
  obtain ⟨fd, F⟩ := Z.c.def_ 7 (d := d_BadNumber_init) rfl
  have kw : ∀ ks perm, KwOkM "__init__" "BadNumber.__init__" s_BadNumber_init ("self" :: ["given"]) ks perm → ∀ (sh : Shared) (self : Value) (ws : List Value), ws.length = ks.length → BindsTo sh fd ⟨[self], ks.zip ws⟩ (("self" :: ["given"] : List Str).zip (self :: permL perm ws)) := by
    obtain ⟨oc, od, dV, kV, doc, pm, an, cdv, ct, osl, rfl, lk, hcd, hD, hK⟩ := F.ex
    rcases hD with ⟨_, rfl⟩ | ⟨e, _⟩
    · exact fun ks perm hk sh self ws hl => .of_eq (hk kV doc pm an cdv ct self ws hl)
    · exact absurd rfl e
  refine ⟨_, fd, _, _, _, _, Z.glo 10, G, PySem.F.excBase_ValueError, I.fi, I.ty, F.bindsN (fun _ _ _ _ _ _ us hl => match us, hl with | [_, _], _ => rfl), F.ok sc_BadNumber_init (fun vs H Q E ⟨a, ys, e, hl, _⟩ => by rw [e, List.length_cons, hl]; rfl) fun cdv A outer s H vs Q E hr h => ⟨_, ?_, init1_read (z := "no number that is wanted") I.oex (I.fs _ (by simp)) h⟩, kw⟩
  exact pss_cons (ps_expr (pe_oinit (Z.glo 6) I.rd I.vi (pa_cons (pv 0) (pa_cons pe_str pa_nil)))) (pss_one (ps_ost (pv 0) (pv 1)))
abbrev s_BadNotes_init : Stmt := inCls (top 5) 0
theorem sc_BadNotes_init : FnScope ["self", "number"] ["self", "number"] (defScope s_BadNotes_init) := ⟨rfl, rfl, rfl, by decide +kernel, rfl, by decide +kernel, by decide +kernel⟩
theorem okg_BadNotes {P : Program} {w : World} {base : Heap} {K : PySem.W.Frag} {mg : Str → Option Value} (Z : Cnd fa fn ex K mg) : InitG P w K mg base "BadNotes" "BadNotes.__init__" s_BadNotes_init (He.ga K "BadNotes") "self" ["number"] := by
  have I := initF_of (exs_14 Z.m)
  have G : OexG K (He.ga K "BadNotes") "ValueError.__new__" bm_ValueError := oexG_of (exs_13 Z.m)
  obtain ⟨fd, F⟩ := Z.c.def_ 8 (d := d_BadNotes_init) rfl
  have kw : ∀ ks perm, KwOkM "__init__" "BadNotes.__init__" s_BadNotes_init ("self" :: ["number"]) ks perm → ∀ (sh : Shared) (self : Value) (ws : List Value), ws.length = ks.length → BindsTo sh fd ⟨[self], ks.zip ws⟩ (("self" :: ["number"] : List Str).zip (self :: permL perm ws)) := by
    obtain ⟨oc, od, dV, kV, doc, pm, an, cdv, ct, osl, rfl, lk, hcd, hD, hK⟩ := F.ex
    rcases hD with ⟨_, rfl⟩ | ⟨e, _⟩
    · exact fun ks perm hk sh self ws hl => .of_eq (hk kV doc pm an cdv ct self ws hl)
    · exact absurd rfl e
  refine ⟨_, fd, _, _, _, _, Z.glo 11, G, PySem.F.excBase_ValueError, I.fi, I.ty, F.bindsN (fun _ _ _ _ _ _ us hl => match us, hl with | [_, _], _ => rfl), F.ok sc_BadNotes_init (fun vs H Q E ⟨a, ys, e, hl, _⟩ => by rw [e, List.length_cons, hl]; rfl) fun cdv A outer s H vs Q E hr h => ⟨_, ?_, init1_read (z := "no notes") I.oex (I.fs _ (by simp)) h⟩, kw⟩
  exact pss_cons (ps_expr (pe_oinit (Z.glo 6) I.rd I.vi (pa_cons (pv 0) (pa_cons pe_str pa_nil)))) (pss_one (ps_ost (pv 0) (pv 1)))
abbrev s_TooMany_init : Stmt := inCls (top 10) 0
theorem sc_TooMany_init : FnScope ["self", "most"] ["self", "most"] (defScope s_TooMany_init) := ⟨rfl, rfl, rfl, by decide +kernel, rfl, by decide +kernel, by decide +kernel⟩
theorem okg_TooMany {P : Program} {w : World} {base : Heap} {K : PySem.W.Frag} {mg : Str → Option Value} (Z : Cnd fa fn ex K mg) : InitG P w K mg base "TooMany" "TooMany.__init__" s_TooMany_init (He.ga K "TooMany") "self" ["most"] := by
  have I := initF2_of (exs_16 Z.m)
  have G : OexG K (He.ga K "TooMany") "OverflowError.__new__" bm_OverflowError := oexG_of (exs_15 Z.m)
  obtain ⟨fd, F⟩ := Z.c.def_ 9 (d := d_TooMany_init) rfl
  have kw : ∀ ks perm, KwOkM "__init__" "TooMany.__init__" s_TooMany_init ("self" :: ["most"]) ks perm → ∀ (sh : Shared) (self : Value) (ws : List Value), ws.length = ks.length → BindsTo sh fd ⟨[self], ks.zip ws⟩ (("self" :: ["most"] : List Str).zip (self :: permL perm ws)) := by
    obtain ⟨oc, od, dV, kV, doc, pm, an, cdv, ct, osl, rfl, lk, hcd, hD, hK⟩ := F.ex
    rcases hD with ⟨_, rfl⟩ | ⟨e, _⟩
    · exact fun ks perm hk sh self ws hl => .of_eq (hk kV doc pm an cdv ct self ws hl)
    · exact absurd rfl e
  refine ⟨_, fd, _, _, _, _, Z.glo 12, G, PySem.F.excBase_OverflowError, I.fi, I.ty, F.bindsN (fun _ _ _ _ _ _ us hl => match us, hl with | [_, _], _ => rfl), F.ok sc_TooMany_init (fun vs H Q E ⟨a, ys, e, hl, _⟩ => by rw [e, List.length_cons, hl]; rfl) fun cdv A outer s H vs Q E hr h => ⟨_, ?_, initG_read (z := "too many") G (I.fs _ (by simp)) h⟩, kw⟩
  exact pss_cons (ps_expr (pe_baseI PySem.F.excBase_OverflowError (by rfl) (Z.free 13) (by decide +kernel) (by kernel_rfl) I.vi (by decide +kernel) (by decide +kernel) (by decide) (by decide) (pa_cons (pv 0) (pa_cons pe_str pa_nil)))) (pss_one (ps_lay PySem.F.store_OverflowError (pv 0) (pv 1)))
abbrev s_NoOrder_init : Stmt := inCls (top 9) 0
theorem sc_NoOrder_init : FnScope ["self", "word"] ["self", "word"] (defScope s_NoOrder_init) := ⟨rfl, rfl, rfl, by decide +kernel, rfl, by decide +kernel, by decide +kernel⟩
theorem okg_NoOrder {P : Program} {w : World} {base : Heap} {K : PySem.W.Frag} {mg : Str → Option Value} (Z : Cnd fa fn ex K mg) : InitG P w K mg base "NoOrder" "NoOrder.__init__" s_NoOrder_init (He.ga K "NoOrder") "self" ["word"] := by
  have I := initF_of (exs_20 Z.m)
  have G : OexG K (He.ga K "NoOrder") "ValueError.__new__" bm_ValueError := oexG_of (exs_19 Z.m)
  obtain ⟨fd, F⟩ := Z.c.def_ 10 (d := d_NoOrder_init) rfl
  have kw : ∀ ks perm, KwOkM "__init__" "NoOrder.__init__" s_NoOrder_init ("self" :: ["word"]) ks perm → ∀ (sh : Shared) (self : Value) (ws : List Value), ws.length = ks.length → BindsTo sh fd ⟨[self], ks.zip ws⟩ (("self" :: ["word"] : List Str).zip (self :: permL perm ws)) := by
    obtain ⟨oc, od, dV, kV, doc, pm, an, cdv, ct, osl, rfl, lk, hcd, hD, hK⟩ := F.ex
    rcases hD with ⟨_, rfl⟩ | ⟨e, _⟩
    · exact fun ks perm hk sh self ws hl => .of_eq (hk kV doc pm an cdv ct self ws hl)
    · exact absurd rfl e
  refine ⟨_, fd, _, _, _, _, Z.glo 14, G, PySem.F.excBase_ValueError, I.fi, I.ty, F.bindsN (fun _ _ _ _ _ _ us hl => match us, hl with | [_, _], _ => rfl), F.ok sc_NoOrder_init (fun vs H Q E ⟨a, ys, e, hl, _⟩ => by rw [e, List.length_cons, hl]; rfl) fun cdv A outer s H vs Q E hr h => ⟨_, ?_, init1_read (z := "no order") I.oex (I.fs _ (by simp)) h⟩, kw⟩
  exact pss_cons (ps_expr (pe_oinit (Z.glo 6) I.rd I.vi (pa_cons (pv 0) (pa_cons pe_str pa_nil)))) (pss_one (ps_ost (pv 0) (pv 1)))
abbrev s_BadPaper_init : Stmt := inCls (top 7) 0
theorem sc_BadPaper_init : FnScope ["self", "part"] ["self", "part"] (defScope s_BadPaper_init) := ⟨rfl, rfl, rfl, by decide +kernel, rfl, by decide +kernel, by decide +kernel⟩
theorem okg_BadPaper {P : Program} {w : World} {base : Heap} {K : PySem.W.Frag} {mg : Str → Option Value} (Z : Cnd fa fn ex K mg) : InitG P w K mg base "BadPaper" "BadPaper.__init__" s_BadPaper_init (He.ga K "BadPaper") "self" ["part"] := by
  have I := initF_of (exs_23 Z.m)
  have G : OexG K (He.ga K "BadPaper") "ValueError.__new__" bm_ValueError := oexG_of (exs_22 Z.m)
  obtain ⟨fd, F⟩ := Z.c.def_ 11 (d := d_BadPaper_init) rfl
  have kw : ∀ ks perm, KwOkM "__init__" "BadPaper.__init__" s_BadPaper_init ("self" :: ["part"]) ks perm → ∀ (sh : Shared) (self : Value) (ws : List Value), ws.length = ks.length → BindsTo sh fd ⟨[self], ks.zip ws⟩ (("self" :: ["part"] : List Str).zip (self :: permL perm ws)) := by
    obtain ⟨oc, od, dV, kV, doc, pm, an, cdv, ct, osl, rfl, lk, hcd, hD, hK⟩ := F.ex
    rcases hD with ⟨_, rfl⟩ | ⟨e, _⟩
    · exact fun ks perm hk sh self ws hl => .of_eq (hk kV doc pm an cdv ct self ws hl)
    · exact absurd rfl e
  refine ⟨_, fd, _, _, _, _, Z.glo 15, G, PySem.F.excBase_ValueError, I.fi, I.ty, F.bindsN (fun _ _ _ _ _ _ us hl => match us, hl with | [_, _], _ => rfl), F.ok sc_BadPaper_init (fun vs H Q E ⟨a, ys, e, hl, _⟩ => by rw [e, List.length_cons, hl]; rfl) fun cdv A outer s H vs Q E hr h => ⟨_, ?_, init1_read (z := "no paper that holds") I.oex (I.fs _ (by simp)) h⟩, kw⟩
  exact pss_cons (ps_expr (pe_oinit (Z.glo 6) I.rd I.vi (pa_cons (pv 0) (pa_cons pe_str pa_nil)))) (pss_one (ps_ost (pv 0) (pv 1)))
abbrev s_NothingLeft_init : Stmt := inCls (top 11) 0
theorem sc_NothingLeft_init : FnScope ["self", "many"] ["self", "many"] (defScope s_NothingLeft_init) := ⟨rfl, rfl, rfl, by decide +kernel, rfl, by decide +kernel, by decide +kernel⟩
theorem okg_NothingLeft {P : Program} {w : World} {base : Heap} {K : PySem.W.Frag} {mg : Str → Option Value} (Z : Cnd fa fn ex K mg) : InitG P w K mg base "NothingLeft" "NothingLeft.__init__" s_NothingLeft_init (He.ga K "NothingLeft") "self" ["many"] := by
  have I := initF2_of (exs_25 Z.m)
  have G : OexG K (He.ga K "NothingLeft") "RuntimeError.__new__" bm_RuntimeError := oexG_of (exs_24 Z.m)
  obtain ⟨fd, F⟩ := Z.c.def_ 12 (d := d_NothingLeft_init) rfl
  have kw : ∀ ks perm, KwOkM "__init__" "NothingLeft.__init__" s_NothingLeft_init ("self" :: ["many"]) ks perm → ∀ (sh : Shared) (self : Value) (ws : List Value), ws.length = ks.length → BindsTo sh fd ⟨[self], ks.zip ws⟩ (("self" :: ["many"] : List Str).zip (self :: permL perm ws)) := by
    obtain ⟨oc, od, dV, kV, doc, pm, an, cdv, ct, osl, rfl, lk, hcd, hD, hK⟩ := F.ex
    rcases hD with ⟨_, rfl⟩ | ⟨e, _⟩
    · exact fun ks perm hk sh self ws hl => .of_eq (hk kV doc pm an cdv ct self ws hl)
    · exact absurd rfl e
  refine ⟨_, fd, _, _, _, _, Z.glo 16, G, PySem.F.excBase_RuntimeError, I.fi, I.ty, F.bindsN (fun _ _ _ _ _ _ us hl => match us, hl with | [_, _], _ => rfl), F.ok sc_NothingLeft_init (fun vs H Q E ⟨a, ys, e, hl, _⟩ => by rw [e, List.length_cons, hl]; rfl) fun cdv A outer s H vs Q E hr h => ⟨_, ?_, initG_read (z := "nothing left") G (I.fs _ (by simp)) h⟩, kw⟩
  exact pss_cons (ps_expr (pe_baseI PySem.F.excBase_RuntimeError (by rfl) (Z.free 17) (by decide +kernel) (by kernel_rfl) I.vi (by decide +kernel) (by decide +kernel) (by decide) (by decide) (pa_cons (pv 0) (pa_cons pe_str pa_nil)))) (pss_one (ps_lay PySem.F.store_RuntimeError (pv 0) (pv 1)))
abbrev s__law_fields : Stmt := top 16
theorem sc__law_fields : FnScope ["_law_odd", "_law_more", "_law_text", "_law_other", "_law_some"] ["_law_odd", "_law_more"] (defScope s__law_fields) := ⟨rfl, rfl, rfl, by decide +kernel, rfl, by decide +kernel, by decide +kernel⟩
theorem bind__law_fields : BindOk "_law_fields" s__law_fields ["_law_odd", "_law_more"] := fun _ _ _ _ _ _ us hl => match us, hl with | [_, _], _ => rfl
theorem ok__law_fields {P : Program} {w : World} {base : Heap} {K : PySem.W.Frag} {mg : Str → Option Value} (Z : Cnd fa fn ex K mg) : FnAt P w K mg base (tab K) 3 "_law_fields" s__law_fields ["_law_odd", "_law_more"] m__law_fields := by
  refine fnAt_of (body := b__law_fields) Z sc__law_fields 18 13 bind__law_fields .f fun cdv A outer s H E hr hgd tk hp => ?_
  exact (ss_cons (s_par rfl sc__law_fields.nd (a_cons (e_mk (T := tab K) (k := 0) (c := 7) (okg_BadText Z) (by decide) (hr.mono (by decide)) (a_cons (e_v 0) (a_cons (e_v 1) a_nil))) (a_cons (e_mkK (T := tab K) (k := 0) (c := 7) (ks := ["word", "line"]) (perm := [1, 0]) (okg_BadText Z) (fun _ _ _ _ _ _ _ ws hl => match ws, hl with | [_, _], _ => rfl) (by decide) (hr.mono (by decide)) (k_cons (e_v 1) (k_cons (e_v 0) k_nil))) a_nil)))
  (ss_cons (s_set sc__law_fields.nd (e_lst (a_cons (e_fld (T := tab K) (nk := 11) (fldB_ok (cl := clsN) (exs_9 Z.m)) (e_mk (T := tab K) (k := 0) (c := 1) (okg_BadHouse Z) (by decide) (hr.mono (by decide)) (a_cons (e_v 0) a_nil))) (a_cons (e_fld (T := tab K) (nk := 11) (fldB_ok (cl := clsN) (exs_4 Z.m)) (e_mk (T := tab K) (k := 0) (c := 2) (okg_BadHeads Z) (by decide) (hr.mono (by decide)) (a_cons (e_v 0) a_nil))) (a_cons (e_fld (T := tab K) (nk := 11) (fldB_ok (cl := clsN) (exs_4 Z.m)) (e_mk (T := tab K) (k := 0) (c := 3) (okg_BadCounts Z) (by decide) (hr.mono (by decide)) (a_cons (e_v 0) a_nil))) a_nil)))))
  (ss_cons (s_set sc__law_fields.nd (e_op op_addA snd_add (e_v 4) (e_lst (a_cons (e_fld (T := tab K) (nk := 11) (fldB_ok (cl := clsN) (exs_4 Z.m)) (e_mk (T := tab K) (k := 0) (c := 4) (okg_BadNotes Z) (by decide) (hr.mono (by decide)) (a_cons (e_v 0) a_nil))) (a_cons (e_fld (T := tab K) (nk := 11) (fldB_ok (cl := clsN) (exs_12 Z.m)) (e_mk (T := tab K) (k := 0) (c := 5) (okg_BadNumber Z) (by decide) (hr.mono (by decide)) (a_cons (e_v 0) a_nil))) a_nil)))))
  (ss_cons (s_set sc__law_fields.nd (e_op op_addA snd_add (e_v 4) (e_lst (a_cons (e_fld (T := tab K) (nk := 11) (fldB_ok (cl := clsN) (exs_9 Z.m)) (e_mk (T := tab K) (k := 0) (c := 6) (okg_BadPaper Z) (by decide) (hr.mono (by decide)) (a_cons (e_v 0) a_nil))) (a_cons (e_fld (T := tab K) (nk := 11) (fldB_ok (cl := clsN) (exs_21 Z.m)) (e_mk (T := tab K) (k := 0) (c := 8) (okg_NoOrder Z) (by decide) (hr.mono (by decide)) (a_cons (e_v 0) a_nil))) (a_cons (e_fld (T := tab K) (nk := 11) (fldB_ok (cl := clsN) (exs_18 Z.m)) (e_v 2)) (a_cons (e_fld (T := tab K) (nk := 11) (fldB_ok (cl := clsN) (exs_18 Z.m)) (e_v 3)) (a_cons (e_fld (T := tab K) (nk := 11) (fldB_ok (cl := clsN) (exs_17 Z.m)) (e_mk (T := tab K) (k := 0) (c := 9) (okg_TooMany Z) (by decide) (hr.mono (by decide)) (a_cons (e_v 0) a_nil))) a_nil))))))))
  (ss_cons (s_set sc__law_fields.nd (e_op op_addA snd_add (e_v 4) (e_lst (a_cons (e_fld (T := tab K) (nk := 11) (fldB_ok (cl := clsN) (exs_26 Z.m)) (e_mk (T := tab K) (k := 0) (c := 10) (okg_NothingLeft Z) (by decide) (hr.mono (by decide)) (a_cons (e_v 0) a_nil))) (a_cons (e_fld (T := tab K) (nk := 11) (fldB_ok (cl := clsN) (exs_9 Z.m)) (e_mkK (T := tab K) (k := 0) (c := 1) (ks := ["part"]) (perm := [0]) (okg_BadHouse Z) (fun _ _ _ _ _ _ _ ws hl => match ws, hl with | [_], _ => rfl) (by decide) (hr.mono (by decide)) (k_cons (e_v 0) k_nil))) (a_cons (e_fld (T := tab K) (nk := 11) (fldB_ok (cl := clsN) (exs_4 Z.m)) (e_mkK (T := tab K) (k := 0) (c := 2) (ks := ["number"]) (perm := [0]) (okg_BadHeads Z) (fun _ _ _ _ _ _ _ ws hl => match ws, hl with | [_], _ => rfl) (by decide) (hr.mono (by decide)) (k_cons (e_v 0) k_nil))) a_nil))))))
  (ss_cons (s_set sc__law_fields.nd (e_op op_addA snd_add (e_v 4) (e_lst (a_cons (e_fld (T := tab K) (nk := 11) (fldB_ok (cl := clsN) (exs_4 Z.m)) (e_mkK (T := tab K) (k := 0) (c := 3) (ks := ["number"]) (perm := [0]) (okg_BadCounts Z) (fun _ _ _ _ _ _ _ ws hl => match ws, hl with | [_], _ => rfl) (by decide) (hr.mono (by decide)) (k_cons (e_v 0) k_nil))) (a_cons (e_fld (T := tab K) (nk := 11) (fldB_ok (cl := clsN) (exs_4 Z.m)) (e_mkK (T := tab K) (k := 0) (c := 4) (ks := ["number"]) (perm := [0]) (okg_BadNotes Z) (fun _ _ _ _ _ _ _ ws hl => match ws, hl with | [_], _ => rfl) (by decide) (hr.mono (by decide)) (k_cons (e_v 0) k_nil))) a_nil)))))
  (ss_cons (s_set sc__law_fields.nd (e_op op_addA snd_add (e_v 4) (e_lst (a_cons (e_fld (T := tab K) (nk := 11) (fldB_ok (cl := clsN) (exs_12 Z.m)) (e_mkK (T := tab K) (k := 0) (c := 5) (ks := ["given"]) (perm := [0]) (okg_BadNumber Z) (fun _ _ _ _ _ _ _ ws hl => match ws, hl with | [_], _ => rfl) (by decide) (hr.mono (by decide)) (k_cons (e_v 0) k_nil))) a_nil))))
  (ss_cons (s_set sc__law_fields.nd (e_op op_addA snd_add (e_v 4) (e_lst (a_cons (e_fld (T := tab K) (nk := 11) (fldB_ok (cl := clsN) (exs_9 Z.m)) (e_mkK (T := tab K) (k := 0) (c := 6) (ks := ["part"]) (perm := [0]) (okg_BadPaper Z) (fun _ _ _ _ _ _ _ ws hl => match ws, hl with | [_], _ => rfl) (by decide) (hr.mono (by decide)) (k_cons (e_v 0) k_nil))) (a_cons (e_fld (T := tab K) (nk := 11) (fldB_ok (cl := clsN) (exs_21 Z.m)) (e_mkK (T := tab K) (k := 0) (c := 8) (ks := ["word"]) (perm := [0]) (okg_NoOrder Z) (fun _ _ _ _ _ _ _ ws hl => match ws, hl with | [_], _ => rfl) (by decide) (hr.mono (by decide)) (k_cons (e_v 0) k_nil))) (a_cons (e_fld (T := tab K) (nk := 11) (fldB_ok (cl := clsN) (exs_17 Z.m)) (e_mkK (T := tab K) (k := 0) (c := 9) (ks := ["most"]) (perm := [0]) (okg_TooMany Z) (fun _ _ _ _ _ _ _ ws hl => match ws, hl with | [_], _ => rfl) (by decide) (hr.mono (by decide)) (k_cons (e_v 0) k_nil))) a_nil))))))
  (ss_one (s_ret (e_tup (a_cons (e_op op_addA snd_add (e_v 4) (e_lst (a_cons (e_fld (T := tab K) (nk := 11) (fldB_ok (cl := clsN) (exs_26 Z.m)) (e_mkK (T := tab K) (k := 0) (c := 10) (ks := ["many"]) (perm := [0]) (okg_NothingLeft Z) (fun _ _ _ _ _ _ _ ws hl => match ws, hl with | [_], _ => rfl) (by decide) (hr.mono (by decide)) (k_cons (e_v 0) k_nil))) a_nil))) (a_cons (e_lst (a_cons (e_fld (T := tab K) (nk := 11) (fldB_ok (cl := clsN) (exs_21 Z.m)) (e_v 2)) (a_cons (e_fld (T := tab K) (nk := 11) (fldB_ok (cl := clsN) (exs_21 Z.m)) (e_v 3)) a_nil))) a_nil)))))))))))))
abbrev s__law_kinds : Stmt := top 17
theorem sc__law_kinds : FnScope ["_law_e", "_law_some", "_law_k"] ["_law_e"] (defScope s__law_kinds) := ⟨rfl, rfl, rfl, by decide +kernel, rfl, by decide +kernel, by decide +kernel⟩
theorem bind__law_kinds : BindOk "_law_kinds" s__law_kinds ["_law_e"] := fun _ _ _ _ _ _ us hl => match us, hl with | [_], _ => rfl
theorem ok__law_kinds {P : Program} {w : World} {base : Heap} {K : PySem.W.Frag} {mg : Str → Option Value} (Z : Cnd fa fn ex K mg) : FnAt P w K mg base (tab K) 1 "_law_kinds" s__law_kinds ["_law_e"] m__law_kinds := by
  refine fnAt_of (body := b__law_kinds) Z sc__law_kinds 23 14 bind__law_kinds .f fun cdv A outer s H E hr hgd tk hp => ?_
  exact (ss_cons (s_set sc__law_kinds.nd (e_lst (a_cons (e_isX (T := tab K) (D := He.ga K "BadHouse") (Z.free 21) (Z.glo 9) (isB_ok (exs_28 Z.m) (exs_34 Z.m)) (e_v 0)) (a_cons (e_isX (T := tab K) (D := He.ga K "BadHeads") (Z.free 21) (Z.glo 8) (isB_ok (exs_28 Z.m) (exs_33 Z.m)) (e_v 0)) a_nil))))
  (ss_cons (s_set sc__law_kinds.nd (e_op op_addA snd_add (e_v 1) (e_lst (a_cons (e_isX (T := tab K) (D := He.ga K "BadCounts") (Z.free 21) (Z.glo 7) (isB_ok (exs_28 Z.m) (exs_36 Z.m)) (e_v 0)) (a_cons (e_isX (T := tab K) (D := He.ga K "BadNotes") (Z.free 21) (Z.glo 11) (isB_ok (exs_28 Z.m) (exs_35 Z.m)) (e_v 0)) a_nil)))))
  (ss_cons (s_set sc__law_kinds.nd (e_op op_addA snd_add (e_v 1) (e_lst (a_cons (e_isX (T := tab K) (D := He.ga K "BadNumber") (Z.free 21) (Z.glo 10) (isB_ok (exs_28 Z.m) (exs_38 Z.m)) (e_v 0)) (a_cons (e_isX (T := tab K) (D := He.ga K "BadPaper") (Z.free 21) (Z.glo 15) (isB_ok (exs_28 Z.m) (exs_37 Z.m)) (e_v 0)) a_nil)))))
  (ss_cons (s_set sc__law_kinds.nd (e_op op_addA snd_add (e_v 1) (e_lst (a_cons (e_isX (T := tab K) (D := He.ga K "BadText") (Z.free 21) (Z.glo 5) (isB_ok (exs_28 Z.m) (exs_40 Z.m)) (e_v 0)) (a_cons (e_isX (T := tab K) (D := He.ga K "NoOrder") (Z.free 21) (Z.glo 14) (isB_ok (exs_28 Z.m) (exs_39 Z.m)) (e_v 0)) a_nil)))))
  (ss_cons (s_set sc__law_kinds.nd (e_op op_addA snd_add (e_v 1) (e_lst (a_cons (e_isX (T := tab K) (D := He.ga K "TooMany") (Z.free 21) (Z.glo 12) (isB_ok (exs_28 Z.m) (exs_42 Z.m)) (e_v 0)) (a_cons (e_isX (T := tab K) (D := He.ga K "NothingLeft") (Z.free 21) (Z.glo 16) (isB_ok (exs_28 Z.m) (exs_41 Z.m)) (e_v 0)) a_nil)))))
  (ss_one (s_ret (e_lc (new := false) [("_law_k", 2)] rfl sc__law_kinds.nd (i_range1 (Z.free 1) (a_cons e_int a_nil)) (blkOk_by (by kernel_rfl)) (fun _ _ _ _ _ => (gw_name sc__law_kinds.nd)) (fun _ _ _ _ _ => (ts_one (t_val (e_ix rfl (hu1 hr) (e_v 1) (e_v 2))))) (fun _ _ _ _ _ => (e_v 2))))))))))
abbrev s_law : Stmt := top 18
theorem sc_law : FnScope ["_law_script", "_law_draw", "_law_turn", "_law_some", "_law_odd", "_law_more", "_law_errors", "_law_k", "_law_error", "_law_told"] ["_law_script"] (defScope s_law) := ⟨rfl, rfl, rfl, by decide +kernel, rfl, by decide +kernel, by decide +kernel⟩
theorem bind_law : BindOk "law" s_law ["_law_script"] := fun _ _ _ _ _ _ us hl => match us, hl with | [_], _ => rfl
theorem ok_law {P : Program} {w : World} {K : PySem.W.Frag} {mg : Str → Option Value} (Z : Cnd fa fn ex K mg) : ∃ fd : FuncData, (∀ (s : Shared) (u : Value), BindsTo s fd ⟨[u], []⟩ [("_law_script", u)]) ∧ ∀ base : Heap, FnG P w K mg base 4 (He.ga K "law") fd ["_law_script"] (spF (tab K) 1 m_law) := by
  refine lawAt_of (body := b_law) Z sc_law 15 bind_law .f fun base cdv A outer s H E hr hgd tk hp => ?_
  exact (ss_cons (s_set sc_law.nd (e_callF (ok__law_begin Z) hr hgd tk (a_cons (e_v 0) a_nil)))
  (ss_cons (s_for hp rfl (i_range1 (Z.free 1) (a_cons e_int a_nil)) (g_name sc_law.nd) (ss_cons (s_set sc_law.nd (e_lst (a_cons e_non (a_cons e_int (a_cons e_bl (a_cons e_str (a_cons (e_tup (a_cons e_int (a_cons e_int a_nil))) (a_cons (e_lst a_nil) (a_cons e_newD (a_cons (e_tup (a_cons e_str (a_cons (e_lst (a_cons e_non a_nil)) a_nil))) (a_cons (e_neg e_int) (a_cons (e_pow e_int e_int) a_nil))))))))))))
  (ss_cons (s_par rfl sc_law.nd (a_cons (e_callF (ok__law_pick Z) hr hgd tk (a_cons (e_v 1) (a_cons (e_v 3) a_nil))) (a_cons (e_callF (ok__law_pick Z) hr hgd tk (a_cons (e_v 1) (a_cons (e_v 3) a_nil))) a_nil)))
  (ss_cons (s_if (t_cmp (op_neA (hu64 hr)) snd_neA (e_bf (call_reprQ (modsK_of (exs_27 Z.m)) hgd (hu65 hr)) snd_reprQ (by decide +kernel) (Z.free 19) (a_cons (e_callF (ok__law_fields Z) hr hgd tk (a_cons (e_v 4) (a_cons (e_v 5) a_nil))) a_nil)) (e_bf (call_reprQ (modsK_of (exs_27 Z.m)) hgd (hu65 hr)) snd_reprQ (by decide +kernel) (Z.free 19) (a_cons (e_tup (a_cons (e_op op_mulA snd_mul (e_lst (a_cons (e_v 4) a_nil)) e_int) (a_cons (e_op op_mulA snd_mul (e_lst (a_cons (e_v 5) a_nil)) e_int) a_nil))) a_nil)) (nomark _)) (ss_one (s_ret e_bl)) ss_nil)
  (ss_cons (s_set sc_law.nd (e_lst (a_cons (e_mk (T := tab K) (k := 0) (c := 1) (okg_BadHouse Z) (by decide) (hr.mono (by decide)) (a_cons (e_v 4) a_nil)) (a_cons (e_mk (T := tab K) (k := 0) (c := 2) (okg_BadHeads Z) (by decide) (hr.mono (by decide)) (a_cons (e_v 4) a_nil)) (a_cons (e_mk (T := tab K) (k := 0) (c := 3) (okg_BadCounts Z) (by decide) (hr.mono (by decide)) (a_cons (e_v 4) a_nil)) a_nil)))))
  (ss_cons (s_set sc_law.nd (e_op op_addA snd_add (e_v 6) (e_lst (a_cons (e_mk (T := tab K) (k := 0) (c := 4) (okg_BadNotes Z) (by decide) (hr.mono (by decide)) (a_cons (e_v 4) a_nil)) (a_cons (e_mk (T := tab K) (k := 0) (c := 5) (okg_BadNumber Z) (by decide) (hr.mono (by decide)) (a_cons (e_v 4) a_nil)) (a_cons (e_mk (T := tab K) (k := 0) (c := 6) (okg_BadPaper Z) (by decide) (hr.mono (by decide)) (a_cons (e_v 4) a_nil)) a_nil))))))
  (ss_cons (s_set sc_law.nd (e_op op_addA snd_add (e_v 6) (e_lst (a_cons (e_mk (T := tab K) (k := 0) (c := 7) (okg_BadText Z) (by decide) (hr.mono (by decide)) (a_cons (e_v 4) (a_cons (e_v 5) a_nil))) (a_cons (e_mk (T := tab K) (k := 0) (c := 8) (okg_NoOrder Z) (by decide) (hr.mono (by decide)) (a_cons (e_v 4) a_nil)) (a_cons (e_mk (T := tab K) (k := 0) (c := 9) (okg_TooMany Z) (by decide) (hr.mono (by decide)) (a_cons (e_v 4) a_nil)) (a_cons (e_mk (T := tab K) (k := 0) (c := 10) (okg_NothingLeft Z) (by decide) (hr.mono (by decide)) (a_cons (e_v 4) a_nil)) a_nil)))))))
  (ss_one (s_for hp rfl (i_enum rfl (Z.free 20) (a_cons (e_v 6) a_nil)) (g_tup rfl rfl (gs_cons (g_name sc_law.nd) (gs_cons (g_name sc_law.nd) gs_nil))) (ss_cons (s_set sc_law.nd (e_lst (a_cons (e_isX (T := tab K) (D := He.ga K "GateError") (Z.free 21) (Z.glo 6) (isB_ok (exs_28 Z.m) (exs_30 Z.m)) (e_v 8)) (a_cons (e_isXT (T := tab K) (n := "ValueError") (Z.free 21) (Z.free 22) (by decide +kernel) (isB_ok (exs_28 Z.m) (exs_29 Z.m)) (e_v 8)) a_nil))))
  (ss_cons (s_set sc_law.nd (e_op op_addA snd_add (e_v 9) (e_lst (a_cons (e_isXT (T := tab K) (n := "OverflowError") (Z.free 21) (Z.free 13) (by decide +kernel) (isB_ok (exs_28 Z.m) (exs_32 Z.m)) (e_v 8)) (a_cons (e_isXT (T := tab K) (n := "RuntimeError") (Z.free 21) (Z.free 17) (by decide +kernel) (isB_ok (exs_28 Z.m) (exs_31 Z.m)) (e_v 8)) a_nil)))))
  (ss_one (s_if (PW.pt (w_or (t_cmp (op_neA (hu64 hr)) snd_neA (e_callF (ok__law_kinds Z) hr hgd tk (a_cons (e_v 8) a_nil)) (e_lst (a_cons (e_v 7) a_nil)) (nomark _)) (w_or1 (t_cmp (op_neA (hu64 hr)) snd_neA (e_v 9) (e_lst (a_cons (e_cmp (op_ltA (hu0 hr)) snd_ltT (e_v 7) e_int (nomark _)) (a_cons (e_cmp (op_ltA (hu0 hr)) snd_ltT (e_v 7) e_int (nomark _)) (a_cons (e_cmp (op_eqA (hu64 hr)) snd_eqA (e_v 7) e_int (nomark _)) (a_cons (e_cmp (op_eqA (hu64 hr)) snd_eqA (e_v 7) e_int (nomark _)) a_nil))))) (nomark _))))) (ss_one (s_ret e_bl)) ss_nil)))))))))))))
  (ss_one (s_ret e_bl))))

abbrev R : PySem.W.OpenRow := PySem.W.OpenLaw.row PySem.Challenge.rw_gatecounts_k01_errors_made
abbrev hk : PySem.W.Hook := Ev.hookY 4 fa fn [] ex
def ob (s : PySem.W.SharedT) : He.AlX := Ev.obsY 4 fa fn [] ex (HandSHeadRun.getT s)
theorem ob_eq (s : PySem.W.SharedT) : ob s = hk.obs s.abs := Ev.obsY_eq (HandSHeadRun.getT_eq s)
def loose : List Str := ("GateError" : Str) :: ("BadHouse" : Str) :: ("BadHeads" : Str) :: ("BadCounts" : Str) :: ("BadNotes" : Str) :: ("BadNumber" : Str) :: ("BadPaper" : Str) :: ("BadText" : Str) :: ("NoOrder" : Str) :: ("TooMany" : Str) :: ("NothingLeft" : Str) :: ("_law_begin" : Str) :: ("_law_next" : Str) :: ("_law_pick" : Str) :: ("_law_fields" : Str) :: ("_law_kinds" : Str) :: []
theorem run (w : World) : HandSHeadRun.RunEq R (PySem.W.view R.prog [18]) hk ob 4000 loose w := by
  intro os
  kernel_rfl

theorem holds_of (plain : ∀ ns : List Int, ns.length ≤ 63 → ∃ st, m_law [.lst (ns.map .int)] [] = .ok (.bl true) st) : PySem.Challenge.rw_gatecounts_k01_errors_made.Holds := by
  w_on; o_law
  refine HandSHeadRun.head_any (r := PySem.W.OpenLaw.row PySem.Challenge.rw_gatecounts_k01_errors_made) (q := PySem.W.view (PySem.W.OpenLaw.row PySem.Challenge.rw_gatecounts_k01_errors_made).prog [18]) (H := hk) (ob := ob) (M := 4000) (loose := loose) (d := HandSHeadRun.topDef (PySem.W.OpenLaw.row PySem.Challenge.rw_gatecounts_k01_errors_made).prog 18) (kwd := []) ob_eq
    (by kernel_rfl) (fun s => by kernel_rfl) run (by kernel_rfl) (by kernel_rfl) (by kernel_rfl) (by rfl) (by first | assumption | decide +kernel) (by decide +kernel) ⟨rfl, rfl, rfl, rfl, rfl, by decide +kernel⟩ ?hw ?hc
  case hw => w_witness2
  case hc =>
    refine Ev.walk_ofG (l := PySem.Challenge.rw_gatecounts_k01_errors_made) (n := 63) (k := 4) (x := "_law_script") rfl (by decide) (by kernel_rfl) ⟨rfl, by decide, by decide⟩ ?F
    intro w mg f h Y G hmg0
    obtain ⟨K, KX, c⟩ := Y
    have hmg : mg ("law" : PySem.Str) = some (.ref f) := by
      have e : (HandSHeadRun.topDef (PySem.W.OpenLaw.row PySem.Challenge.rw_gatecounts_k01_errors_made).prog 18).name = ("law" : PySem.Str) := by kernel_rfl
      rw [← e]
      exact hmg0
    have Z : Cnd fa fn ex K mg := ⟨c.t.d, ⟨h, KX, G⟩, c.more⟩
    cases hmg.symm.trans (Z.glo 24)
    obtain ⟨fd, hb, hF⟩ := ok_law (P := (PySem.Challenge.rw_gatecounts_k01_errors_made).prog) (w := w) Z
    exact ⟨K, fd, _, KX, hb, fun H a ns hl _ hS => law_sp (T := tab K) hS (plain ns hl), fun base _ _ => hF base⟩
end K01

set_option Elab.async false
set_option linter.all false
set_option maxRecDepth 100000
set_option maxHeartbeats 4000000
namespace K01
open PySem PySem.Spec PyProof.Rows L2 Ev Gc
theorem forL_step {g : G} {b : S} {v : Val} {vs : List Val} {ρ ρ1 ρ2 : Ev.Env} {st st1 st2 : Sto} (h1 : g v ρ st = some (ρ1, st1)) (h2 : b ρ1 st1 = .nx ρ2 st2) : forL g b (v :: vs) ρ st = forL g b vs ρ2 st2 := by
  rw [forL_cons, h1]
  dsimp only
  rw [h2]
theorem seq_nx {a b : S} {ρ ρ1 : Ev.Env} {st st1 : Sto} (h : a ρ st = .nx ρ1 st1) : sSeq a b ρ st = b ρ1 st1 := by
  rw [d_Seq, h]
theorem for_nx {it : EI} {g : G} {b : S} {ρ ρ2 : Ev.Env} {st st1 st2 : Sto} {vs : List Val} (h1 : it ρ st = .ok vs st1) (h2 : forL g b vs ρ st1 = .nx ρ2 st2) : sFor it g b ρ st = .nx ρ2 st2 := by
  rw [d_For, h1, d_bindS_ok, h2]
theorem set_ok {e : E} {i : Nat} {ρ : Ev.Env} {st st1 : Sto} {v : Val} (h : e ρ st = .ok v st1) : sSet i e ρ st = .nx (ρ.set i (some v)) st1 := by
  rw [d_Set, h, d_bindS_ok]
theorem if_ok {t : ET} {a b : S} {ρ : Ev.Env} {st st1 : Sto} {c : Bool} (h : t ρ st = .ok c st1) : sIf t a b ρ st = if c = true then a ρ st1 else b ρ st1 := by
  rw [d_If, h, d_bindS_ok]
theorem call_ok {np : Nat} {m : Fn} {a : EA} {ρ : Ev.Env} {st st1 : Sto} {vs : List Val} (h : a ρ st = .ok vs st1) (hl : vs.length = np) : eCall np m a ρ st = m vs st1 := by
  rw [c_Call, h, bindR_ok, if_pos hl]
def theList : E := (eLst (eCons (eC .non) (eCons (eC (.int 5)) (eCons (eC (.bl true)) (eCons (eC (.str "a")) (eCons (eTup (eCons (eC (.int 1)) (eCons (eC (.int 2)) eNil))) (eCons (eLst eNil) (eCons eNewD (eCons (eTup (eCons (eC (.str "x")) (eCons (eLst (eCons (eC .non) eNil)) eNil))) (eCons (fNeg (eC (.int 1))) (eCons (eB fPow (eC (.int 10)) (eC (.int 30))) eNil)))))))))))
def theErrs0 : S := (sSet 6 (eLst (eCons (eMk 1 ["part"] (eCons (eV 4) eNil)) (eCons (eMk 2 ["number"] (eCons (eV 4) eNil)) (eCons (eMk 3 ["number"] (eCons (eV 4) eNil)) eNil)))))
def theErrs1 : S := (sSet 6 (eB fAdd (eV 6) (eLst (eCons (eMk 4 ["number"] (eCons (eV 4) eNil)) (eCons (eMk 5 ["given"] (eCons (eV 4) eNil)) (eCons (eMk 6 ["part"] (eCons (eV 4) eNil)) eNil))))))
def theErrs2 : S := (sSet 6 (eB fAdd (eV 6) (eLst (eCons (eMk 7 ["line", "word"] (eCons (eV 4) (eCons (eV 5) eNil))) (eCons (eMk 8 ["word"] (eCons (eV 4) eNil)) (eCons (eMk 9 ["most"] (eCons (eV 4) eNil)) (eCons (eMk 10 ["many"] (eCons (eV 4) eNil)) eNil)))))))
def body : S := (sSeq (sSet 9 (eLst (eCons (eIsX (isL [0, 1, 2, 3, 4, 5, 6, 7, 8]) 11 (eV 8)) (eCons (eIsX (isL [0, 1, 2, 3, 4, 5, 6, 7, 8]) 11 (eV 8)) eNil))))
  (sSeq (sSet 9 (eB fAdd (eV 9) (eLst (eCons (eIsX (isL [9]) 11 (eV 8)) (eCons (eIsX (isL [10]) 11 (eV 8)) eNil)))))
  (sIf (eOrT (eTest (eB fNeA (eCall 1 m__law_kinds (eCons (eV 8) eNil)) (eLst (eCons (eV 7) eNil)))) (eTest (eB fNeA (eV 9) (eLst (eCons (eB fLtT (eV 7) (eC (.int 8))) (eCons (eB fLtT (eV 7) (eC (.int 8))) (eCons (eB fEqA (eV 7) (eC (.int 8))) (eCons (eB fEqA (eV 7) (eC (.int 9))) eNil)))))))) (sRet (eC (.bl false))) sSkip)))
def theTest : S := (sIf (eTest (eB fNeA (eBf fReprQ (eCons (eCall 2 m__law_fields (eCons (eV 4) (eCons (eV 5) eNil))) eNil)) (eBf fReprQ (eCons (eTup (eCons (eB fMul (eLst (eCons (eV 4) eNil)) (eC (.int 20))) (eCons (eB fMul (eLst (eCons (eV 5) eNil)) (eC (.int 2))) eNil))) eNil)))) (sRet (eC (.bl false))) sSkip)
def T0 : S := (sSet 3 theList)
def T1 : S := (sPar 4 5 (eCons (eCall 2 m__law_pick (eCons (eV 1) (eCons (eV 3) eNil))) (eCons (eCall 2 m__law_pick (eCons (eV 1) (eCons (eV 3) eNil))) eNil)))
def loop : S := (sFor (itEnum (eCons (eV 6) eNil)) (gT 2 (gCons' (gN 7) (gCons' (gN 8) gNil'))) body)
def turn : S := sSeq T0 (sSeq T1 (sSeq theTest (sSeq theErrs0 (sSeq theErrs1 (sSeq theErrs2 loop)))))
def L0 : S := (sSet 1 (eCall 1 m__law_begin (eCons (eV 0) eNil)))
theorem Lall : b_law = sSeq L0 (sSeq (sFor (itRange1 (eCons (eC (.int 3)) eNil)) (gN 2) turn) (sRet (eC (.bl true)))) := rfl
def items : List Val := [.non, .int 5, .bl true, .str "a", .tup [.int 1, .int 2], .lst [], .dct [] [], .tup [.str "x", .lst [.non]], .int (-1), .int (10 ^ 30)]
def ev (x0 x2 x3 x4 x5 x6 x7 x8 x9 : Option Val) : Ev.Env := [x0, some (.loc 0), x2, x3, x4, x5, x6, x7, x8, x9]
def errs (a b : Val) : List Val := [.exc 1 ["part"] [a], .exc 2 ["number"] [a], .exc 3 ["number"] [a], .exc 4 ["number"] [a], .exc 5 ["given"] [a], .exc 6 ["part"] [a], .exc 7 ["word", "line"] [b, a], .exc 8 ["word"] [a], .exc 9 ["most"] [a], .exc 10 ["many"] [a]]
def fieldsV (a b : Val) : Val := .tup [.lst (List.replicate 20 a), .lst (List.replicate 2 b)]
theorem items_ok (x0 x2 x3 x4 x5 x6 x7 x8 x9 : Option Val) (st : Sto) : T0 (ev x0 x2 x3 x4 x5 x6 x7 x8 x9) st = .nx (ev x0 x2 (some (.lst items)) x4 x5 x6 x7 x8 x9) st := by
  rfl
theorem errs_ok (a b : Val) (x0 x2 x3 x6 x7 x8 x9 : Option Val) (st : Sto) : (sSeq theErrs0 (sSeq theErrs1 theErrs2)) (ev x0 x2 x3 (some a) (some b) x6 x7 x8 x9) st = .nx (ev x0 x2 x3 (some a) (some b) (some (.lst (errs a b))) x7 x8 x9) st := by
  rfl
theorem fields_ok {a b : Val} (ha : a ∈ items) (hb : b ∈ items) (st : Sto) : b__law_fields (startE 5 [a, b]) st = .rt (fieldsV a b) st := by
  rfl
theorem kinds_ok (k : Nat) (hk : k < 10) (a b : Val) (st : Sto) (e : Val) (he : (errs a b)[k]? = some e) : b__law_kinds (startE 3 [e]) st = .rt (.lst [.int k]) st := by
  have hk' : k = 0 ∨ k = 1 ∨ k = 2 ∨ k = 3 ∨ k = 4 ∨ k = 5 ∨ k = 6 ∨ k = 7 ∨ k = 8 ∨ k = 9 := by omega
  rcases hk' with rfl | rfl | rfl | rfl | rfl | rfl | rfl | rfl | rfl | rfl <;> (cases he; rfl)
structure Sq (d : PyData) (k b : Nat) : Prop where
  lv : PyData.leavesShort 100 d = true
  sh : PyData.showable d = true
  dp : d.depth ≤ k
  bk : d.bulk ≤ b
structure SqAll (ds : List PyData) (k b : Nat) : Prop where
  lv : PyData.leavesShortAll 100 ds = true
  sh : PyData.showableAll ds = true
  dp : PyData.depthAll ds ≤ k
  bk : PyData.bulkAll ds ≤ ds.length * (b + 1)
theorem sqAll_cons {d : PyData} {ds : List PyData} {k b : Nat} (h1 : Sq d k b) (h2 : SqAll ds k b) : SqAll (d :: ds) k b := by
  refine ⟨?_, ?_, ?_, ?_⟩
  · rw [PyData.leavesShortAll, h1.lv, h2.lv]; rfl
  · rw [PyData.showableAll, h1.sh, h2.sh]; rfl
  · rw [PyData.depthAll]; exact Nat.max_le.mpr ⟨h1.dp, h2.dp⟩
  · rw [PyData.bulkAll, List.length_cons, Nat.add_mul]
    have := h1.bk
    have := h2.bk
    omega
theorem sqAll_rep {d : PyData} {k b : Nat} (h : Sq d k b) : ∀ n, SqAll (List.replicate n d) k b
  | 0 => ⟨rfl, rfl, Nat.zero_le _, Nat.zero_le _⟩
  | n + 1 => sqAll_cons h (sqAll_rep h n)
theorem SqAll.lst {ds : List PyData} {k b : Nat} (h : SqAll ds k b) : Sq (.list ds) (k + 1) (ds.length * (b + 1)) :=
  ⟨by rw [PyData.leavesShort]; exact h.lv, by rw [PyData.showable]; exact h.sh, by rw [PyData.depth]; exact Nat.add_le_add_right h.dp 1, by rw [PyData.bulk]; exact h.bk⟩
theorem SqAll.tup {ds : List PyData} {k b : Nat} (h : SqAll ds k b) : Sq (.tuple ds) (k + 1) (ds.length * (b + 1)) :=
  ⟨by rw [PyData.leavesShort]; exact h.lv, by rw [PyData.showable]; exact h.sh, by rw [PyData.depth]; exact Nat.add_le_add_right h.dp 1, by rw [PyData.bulk]; exact h.bk⟩
theorem Sq.le {d : PyData} {k b k' b' : Nat} (h : Sq d k b) (hk : k ≤ k') (hb : b ≤ b') : Sq d k' b' := ⟨h.lv, h.sh, Nat.le_trans h.dp hk, Nat.le_trans h.bk hb⟩
theorem Sq.ok {d : PyData} {k b : Nat} (h : Sq d k b) (hk : k ≤ 60) (hb : b ≤ 100000) : reprOkQ d = true := by
  have e := PyData.shown_le_bulk 100 (by decide) d h.lv
  have e2 : d.shown.length ≤ sizeLine := by
    rw [sizeLine_eq]
    have := h.bk
    omega
  unfold reprOkQ
  rw [h.sh, decide_eq_true (show d.depth ≤ 60 by have := h.dp; omega), decide_eq_true e2]
  rfl
theorem items_sq : ∀ x, x ∈ items → ∃ d, toF x = some d ∧ Sq d 4 40 := by
  intro x hx
  simp only [items, List.mem_cons, List.not_mem_nil, or_false] at hx
  rcases hx with rfl | rfl | rfl | rfl | rfl | rfl | rfl | rfl | rfl | rfl
  · exact ⟨_, rfl, by decide +kernel, by decide +kernel, by decide +kernel, by decide +kernel⟩
  · exact ⟨_, rfl, by decide +kernel, by decide +kernel, by decide +kernel, by decide +kernel⟩
  · exact ⟨_, rfl, by decide +kernel, by decide +kernel, by decide +kernel, by decide +kernel⟩
  · exact ⟨_, rfl, by decide +kernel, by decide +kernel, by decide +kernel, by decide +kernel⟩
  · exact ⟨_, rfl, by decide +kernel, by decide +kernel, by decide +kernel, by decide +kernel⟩
  · exact ⟨_, rfl, by decide +kernel, by decide +kernel, by decide +kernel, by decide +kernel⟩
  · exact ⟨_, rfl, by decide +kernel, by decide +kernel, by decide +kernel, by decide +kernel⟩
  · exact ⟨_, rfl, by decide +kernel, by decide +kernel, by decide +kernel, by decide +kernel⟩
  · have h := Sm.int (i := -1) (by decide) (by decide)
    exact ⟨_, rfl, h.lv, h.sh, Nat.le_trans h.dp (by decide), Nat.le_trans h.bk (by decide)⟩
  · have h := Sm.int (i := 10 ^ 30) (by decide) (by decide)
    exact ⟨_, rfl, h.lv, h.sh, Nat.le_trans h.dp (by decide), Nat.le_trans h.bk (by decide)⟩
theorem toFs_rep {x : Val} {d : PyData} (h : toF x = some d) : ∀ n, toFs (List.replicate n x) = some (List.replicate n d)
  | 0 => rfl
  | n + 1 => by
    rw [List.replicate_succ, List.replicate_succ, toFs, h, toFs_rep h n]
theorem bel_items : ∀ x, x ∈ items → ∀ n, belV n x = true := by
  intro x hx n
  simp only [items, List.mem_cons, List.not_mem_nil, or_false] at hx
  rcases hx with rfl | rfl | rfl | rfl | rfl | rfl | rfl | rfl | rfl | rfl <;> rfl
theorem bel_rep {n : Nat} {a : Val} (h : belV n a = true) : ∀ k, belVs n (List.replicate k a) = true
  | 0 => rfl
  | k + 1 => by
    show (belV n a && belVs n (List.replicate k a)) = true
    rw [h, bel_rep h k]; rfl
theorem fields_call {a b : Val} (ha : a ∈ items) (hb : b ∈ items) (st : Sto) : m__law_fields [a, b] st = .ok (fieldsV a b) st := by
  refine runF_of0 (fields_ok ha hb st) rfl (okOld_refl st) ?_
  show (belVs st.length (List.replicate 20 a) && (belVs st.length (List.replicate 2 b) && true)) = true
  rw [bel_rep (bel_items a ha _), bel_rep (bel_items b hb _)]; rfl
theorem kinds_call (k : Nat) (hk : k < 10) (a b : Val) (st : Sto) (e : Val) (he : (errs a b)[k]? = some e) : m__law_kinds [e] st = .ok (.lst [.int k]) st :=
  runF_of0 (kinds_ok k hk a b st e he) rfl (okOld_refl st) rfl
theorem repr_all {a b : Val} (ha : a ∈ items) (hb : b ∈ items) (st : Sto) : ∃ z, fReprQ st [fieldsV a b] = some (.str z) := by
  obtain ⟨d, d1, d2⟩ := items_sq a ha
  obtain ⟨e, e1, e2⟩ := items_sq b hb
  have g1 := (sqAll_rep d2 20).lst
  have g2 := (sqAll_rep e2 2).lst
  rw [List.length_replicate] at g1 g2
  have hs := (sqAll_cons (g1.le (k' := 5) (b' := 1000) (by decide) (by decide)) (sqAll_cons (g2.le (k' := 5) (b' := 1000) (by decide) (by decide)) (sqAll_rep (d2.le (by decide) (by decide)) 0))).tup
  have hd : toF (fieldsV a b) = some (.tuple [.list (List.replicate 20 d), .list (List.replicate 2 e)]) := by
    unfold fieldsV
    rw [toF, toFs, toFs, toF, toF, toFs_rep d1, toFs_rep e1, toFs]
    rfl
  unfold fieldsV at hd ⊢
  unfold fReprQ
  dsimp only
  rw [hd]
  dsimp only
  have ok : reprOkQ (PyData.tuple [PyData.list (List.replicate 20 d), PyData.list (List.replicate 2 e)]) = true := hs.ok (by decide) (by show 2 * (1000 + 1) ≤ 100000; decide)
  rw [if_pos ok]
  exact ⟨_, rfl⟩
theorem test_ok {a b : Val} (ha : a ∈ items) (hb : b ∈ items) (x0 x2 x3 x6 x7 x8 x9 : Option Val) (st : Sto) : theTest (ev x0 x2 x3 (some a) (some b) x6 x7 x8 x9) st = .nx (ev x0 x2 x3 (some a) (some b) x6 x7 x8 x9) st := by
  obtain ⟨z, hz⟩ := repr_all ha hb st
  have ar : eCons (eV 4) (eCons (eV 5) eNil) (ev x0 x2 x3 (some a) (some b) x6 x7 x8 x9) st = .ok [a, b] st := rfl
  have e1 : eBf fReprQ (eCons (eCall 2 m__law_fields (eCons (eV 4) (eCons (eV 5) eNil))) eNil) (ev x0 x2 x3 (some a) (some b) x6 x7 x8 x9) st = .ok (.str z) st := by
    rw [c_Bf, c_Cons, (call_ok (np := 2) ar rfl).trans (fields_call ha hb st), bindR_ok, c_Nil, bindR_ok, bindR_ok, hz, optR_some]
  have e2 : eCons (eTup (eCons (eB fMul (eLst (eCons (eV 4) eNil)) (eC (.int 20))) (eCons (eB fMul (eLst (eCons (eV 5) eNil)) (eC (.int 2))) eNil))) eNil (ev x0 x2 x3 (some a) (some b) x6 x7 x8 x9) st = .ok [fieldsV a b] st := rfl
  refine (if_ok (c := false) (st1 := st) ?_).trans ?_
  · rw [c_Test, c_B, e1, bindR_ok, c_Bf, e2, bindR_ok, hz, optR_some, bindR_ok, neA_str, optR_some, bindR_ok]
  · rw [if_neg (by decide), d_Skip]
theorem seq_as {a b c : S} {ρ ρ2 : Ev.Env} {st st2 : Sto} (h : sSeq a b ρ st = .nx ρ2 st2) : sSeq a (sSeq b c) ρ st = c ρ2 st2 := by
  rw [d_Seq] at h ⊢
  cases h1 : a ρ st with
  | nx ρ1 st1 => rw [h1] at h; dsimp only at h ⊢; exact seq_nx h
  | _ => rw [h1] at h; cases h
theorem body_ok (k : Nat) (hk : k < 10) (a b : Val) (e : Val) (he : (errs a b)[k]? = some e) (x0 x2 x3 x4 x5 x6 x9 : Option Val) (st : Sto) : ∃ y, body (ev x0 x2 x3 x4 x5 x6 (some (.int k)) (some e) x9) st = .nx (ev x0 x2 x3 x4 x5 x6 (some (.int k)) (some e) (some y)) st := by
  have hc := kinds_call k hk a b st e he
  have s1 : ∀ x9, eTest (eB fNeA (eCall 1 m__law_kinds (eCons (eV 8) eNil)) (eLst (eCons (eV 7) eNil))) (ev x0 x2 x3 x4 x5 x6 (some (.int k)) (some e) x9) st = .ok false st := fun x9 => by
    have ar : eCons (eV 8) eNil (ev x0 x2 x3 x4 x5 x6 (some (.int k)) (some e) x9) st = .ok [e] st := rfl
    have ar2 : eLst (eCons (eV 7) eNil) (ev x0 x2 x3 x4 x5 x6 (some (.int k)) (some e) x9) st = .ok (.lst [.int k]) st := rfl
    have q : fNeA st (.lst [.int k]) (.lst [.int k]) = some (.bl false) := by
      have hk' : k = 0 ∨ k = 1 ∨ k = 2 ∨ k = 3 ∨ k = 4 ∨ k = 5 ∨ k = 6 ∨ k = 7 ∨ k = 8 ∨ k = 9 := by omega
      rcases hk' with rfl | rfl | rfl | rfl | rfl | rfl | rfl | rfl | rfl | rfl <;> rfl
    rw [c_Test, c_B, (call_ok (np := 1) ar rfl).trans hc, bindR_ok, ar2, bindR_ok, q, optR_some, bindR_ok]
  have s2 : ∃ y, (sSeq (sSet 9 (eLst (eCons (eIsX (isL [0, 1, 2, 3, 4, 5, 6, 7, 8]) 11 (eV 8)) (eCons (eIsX (isL [0, 1, 2, 3, 4, 5, 6, 7, 8]) 11 (eV 8)) eNil)))) (sSet 9 (eB fAdd (eV 9) (eLst (eCons (eIsX (isL [9]) 11 (eV 8)) (eCons (eIsX (isL [10]) 11 (eV 8)) eNil)))))) (ev x0 x2 x3 x4 x5 x6 (some (.int k)) (some e) x9) st = .nx (ev x0 x2 x3 x4 x5 x6 (some (.int k)) (some e) (some y)) st ∧
      eTest (eB fNeA (eV 9) (eLst (eCons (eB fLtT (eV 7) (eC (.int 8))) (eCons (eB fLtT (eV 7) (eC (.int 8))) (eCons (eB fEqA (eV 7) (eC (.int 8))) (eCons (eB fEqA (eV 7) (eC (.int 9))) eNil)))))) (ev x0 x2 x3 x4 x5 x6 (some (.int k)) (some e) (some y)) st = .ok false st := by
    refine ⟨.lst [.bl (decide (k < 8)), .bl (decide (k < 8)), .bl (decide (k = 8)), .bl (decide (k = 9))], ?_, ?_⟩
    · have hk' : k = 0 ∨ k = 1 ∨ k = 2 ∨ k = 3 ∨ k = 4 ∨ k = 5 ∨ k = 6 ∨ k = 7 ∨ k = 8 ∨ k = 9 := by omega
      rcases hk' with rfl | rfl | rfl | rfl | rfl | rfl | rfl | rfl | rfl | rfl <;> (cases he; rfl)
    · have hk' : k = 0 ∨ k = 1 ∨ k = 2 ∨ k = 3 ∨ k = 4 ∨ k = 5 ∨ k = 6 ∨ k = 7 ∨ k = 8 ∨ k = 9 := by omega
      rcases hk' with rfl | rfl | rfl | rfl | rfl | rfl | rfl | rfl | rfl | rfl <;> rfl
  obtain ⟨y, e1, e2⟩ := s2
  refine ⟨y, ?_⟩
  have e3 : body (ev x0 x2 x3 x4 x5 x6 (some (.int k)) (some e) x9) st = (sIf (eOrT (eTest (eB fNeA (eCall 1 m__law_kinds (eCons (eV 8) eNil)) (eLst (eCons (eV 7) eNil)))) (eTest (eB fNeA (eV 9) (eLst (eCons (eB fLtT (eV 7) (eC (.int 8))) (eCons (eB fLtT (eV 7) (eC (.int 8))) (eCons (eB fEqA (eV 7) (eC (.int 8))) (eCons (eB fEqA (eV 7) (eC (.int 9))) eNil)))))))) (sRet (eC (.bl false))) sSkip) (ev x0 x2 x3 x4 x5 x6 (some (.int k)) (some e) (some y)) st := by
    exact seq_as e1
  rw [e3]
  refine (if_ok (c := false) (st1 := st) ?_).trans ?_
  · rw [c_OrT, s1, bindR_ok, if_neg (by decide), e2]
  · rw [if_neg (by decide), d_Skip]
theorem loop_ok (a b : Val) (st : Sto) (x0 x2 x3 : Option Val) : ∀ (n k : Nat), n + k = 10 → ∀ (x7 x8 x9 : Option Val), ∃ y7 y8 y9,
    forL (gT 2 (gCons' (gN 7) (gCons' (gN 8) gNil'))) body (enumV k ((errs a b).drop k)) (ev x0 x2 x3 (some a) (some b) (some (.lst (errs a b))) x7 x8 x9) st = .nx (ev x0 x2 x3 (some a) (some b) (some (.lst (errs a b))) y7 y8 y9) st
  | 0, k, h, x7, x8, x9 => by
    obtain rfl : k = 10 := by omega
    exact ⟨x7, x8, x9, rfl⟩
  | n + 1, k, h, x7, x8, x9 => by
    have hk : k < (errs a b).length := by show k < 10; omega
    obtain ⟨y, e1⟩ := body_ok k hk a b _ (List.getElem?_eq_getElem hk) x0 x2 x3 (some a) (some b) (some (.lst (errs a b))) x9 st
    obtain ⟨y7, y8, y9, e2⟩ := loop_ok a b st x0 x2 x3 n (k + 1) (by omega) (some (.int k)) (some (errs a b)[k]) (some y)
    refine ⟨y7, y8, y9, ?_⟩
    rw [List.drop_eq_getElem_cons hk]
    have eg : gT 2 (gCons' (gN 7) (gCons' (gN 8) gNil')) (.tup [.int k, (errs a b)[k]]) (ev x0 x2 x3 (some a) (some b) (some (.lst (errs a b))) x7 x8 x9) st = some (ev x0 x2 x3 (some a) (some b) (some (.lst (errs a b))) (some (.int k)) (some (errs a b)[k]) x9, st) := rfl
    exact (forL_step eg e1).trans e2
theorem turn_ok {cs : List Int} {a l u B : Int} (rest : Sto) (hd : DrOk cs a l u B) (hB : B < 2 ^ 47) (x0 x2 x3 x4 x5 x6 x7 x8 x9 : Option Val) : ∃ a' l' u' y3 y4 y5 y6 y7 y8 y9,
    turn (ev x0 x2 x3 x4 x5 x6 x7 x8 x9) (drawOb cs a l u :: rest) = .nx (ev x0 x2 y3 y4 y5 y6 y7 y8 y9) (drawOb cs a' l' u' :: rest) ∧ DrOk cs a' l' u' (B + 2) := by
  obtain ⟨p, a1, l1, u1, hp, e1, d1⟩ := pick_ok (xs := items) rest hd (by omega) (by decide) (by decide) (fun x hx => bel_items x hx _)
  obtain ⟨q, a2, l2, u2, hq, e2, d2⟩ := pick_ok (xs := items) rest d1 (by omega) (by decide) (by decide) (fun x hx => bel_items x hx _)
  obtain ⟨y7, y8, y9, e3⟩ := loop_ok p q (drawOb cs a2 l2 u2 :: rest) x0 x2 (some (.lst items)) 10 0 rfl x7 x8 x9
  refine ⟨a2, l2, u2, some (.lst items), some p, some q, some (.lst (errs p q)), y7, y8, y9, ?_, d2.le (by omega)⟩
  have ar : ∀ st, eCons (eV 1) (eCons (eV 3) eNil) (ev x0 x2 (some (.lst items)) x4 x5 x6 x7 x8 x9) st = .ok [.loc 0, .lst items] st := fun st => rfl
  have t1 : T1 (ev x0 x2 (some (.lst items)) x4 x5 x6 x7 x8 x9) (drawOb cs a l u :: rest) = .nx (ev x0 x2 (some (.lst items)) (some p) (some q) x6 x7 x8 x9) (drawOb cs a2 l2 u2 :: rest) := by
    unfold T1
    rw [d_Par, c_Cons, (call_ok (np := 2) (ar _) rfl).trans e1, bindR_ok, c_Cons, (call_ok (np := 2) (ar _) rfl).trans e2, bindR_ok, c_Nil, bindR_ok, bindR_ok, d_bindS_ok]
    rfl
  have t2 := errs_ok p q x0 x2 (some (.lst items)) x6 x7 x8 x9 (drawOb cs a2 l2 u2 :: rest)
  unfold turn
  rw [seq_nx (items_ok x0 x2 x3 x4 x5 x6 x7 x8 x9 _), seq_nx t1, seq_nx (test_ok hp hq x0 x2 (some (.lst items)) x6 x7 x8 x9 _)]
  have t3 : sSeq theErrs0 (sSeq theErrs1 (sSeq theErrs2 loop)) = sSeq (sSeq theErrs0 (sSeq theErrs1 theErrs2)) loop := by
    funext ρ st
    simp only [d_Seq]
    cases theErrs0 ρ st with
    | nx ρ1 st1 =>
      dsimp only
      cases theErrs1 ρ1 st1 with
      | nx ρ2 st2 => rfl
      | _ => rfl
    | _ => rfl
  rw [t3, seq_nx t2]
  exact for_nx (vs := enumV 0 (errs p q)) rfl e3
theorem turns_ok {cs : List Int} (ks : List Val) : ∀ {a l u B : Int} (rest : Sto), DrOk cs a l u B → B + 2 * (ks.length : Int) < 2 ^ 46 → ∀ (x0 x2 x3 x4 x5 x6 x7 x8 x9 : Option Val), ∃ st' y2 y3 y4 y5 y6 y7 y8 y9,
    forL (gN 2) turn ks (ev x0 x2 x3 x4 x5 x6 x7 x8 x9) (drawOb cs a l u :: rest) = .nx (ev x0 y2 y3 y4 y5 y6 y7 y8 y9) st' := by
  induction ks with
  | nil =>
    intro a l u B rest hd hB x0 x2 x3 x4 x5 x6 x7 x8 x9
    exact ⟨_, x2, x3, x4, x5, x6, x7, x8, x9, d_forNil⟩
  | cons k ks ih =>
    intro a l u B rest hd hB x0 x2 x3 x4 x5 x6 x7 x8 x9
    rw [List.length_cons] at hB
    obtain ⟨a1, l1, u1, y3, y4, y5, y6, y7, y8, y9, e1, d1⟩ := turn_ok rest hd (by omega) x0 (some k) x3 x4 x5 x6 x7 x8 x9
    obtain ⟨st', z2, z3, z4, z5, z6, z7, z8, z9, e2⟩ := ih rest d1 (by omega) x0 (some k) y3 y4 y5 y6 y7 y8 y9
    refine ⟨st', z2, z3, z4, z5, z6, z7, z8, z9, ?_⟩
    have eg : gN 2 k (ev x0 x2 x3 x4 x5 x6 x7 x8 x9) (drawOb cs a l u :: rest) = some (ev x0 (some k) x3 x4 x5 x6 x7 x8 x9, drawOb cs a l u :: rest) := rfl
    rw [forL_step eg e1, e2]
theorem plain (ns : List Int) (hl : ns.length ≤ 63) : ∃ st, m_law [.lst (ns.map .int)] [] = .ok (.bl true) st := by
  obtain ⟨cs, e0, d0⟩ := begin_ok ns hl []
  obtain ⟨st', y2, y3, y4, y5, y6, y7, y8, y9, e1⟩ := turns_ok (rangeV 0 3) [] d0 (by rw [rangeV_length]; decide) (some (.lst (ns.map .int))) none none none none none none none none
  have s0 : L0 (startE 10 [.lst (ns.map .int)]) [] = .nx (ev (some (.lst (ns.map .int))) none none none none none none none none) [drawOb cs 0 0 0] := by
    have ar : eCons (eV 0) eNil (startE 10 [.lst (ns.map .int)]) [] = .ok [.lst (ns.map .int)] [] := rfl
    exact set_ok ((call_ok ar rfl).trans e0)
  have s1 : (sFor (itRange1 (eCons (eC (.int 3)) eNil)) (gN 2) turn) (ev (some (.lst (ns.map .int))) none none none none none none none none) [drawOb cs 0 0 0] = .nx (ev (some (.lst (ns.map .int))) y2 y3 y4 y5 y6 y7 y8 y9) st' := by
    refine for_nx (vs := rangeV 0 3) ?_ e1
    simp
  have key : b_law (startE 10 [.lst (ns.map .int)]) [] = .rt (.bl true) st' := by
    rw [Lall, seq_nx s0, seq_nx s1]
    rfl
  unfold m_law runF
  rw [key]
  show ∃ st, fin [] (.bl true) st' = _
  unfold fin
  by_cases h : okOld [] st' = true
  · rw [if_pos h]
    exact ⟨_, rfl⟩
  · rw [if_neg h]
    exact ⟨_, rfl⟩
end K01

theorem PySem.Challenge.cw_gatecounts_k01_errors_made_holds : PySem.Challenge.rw_gatecounts_k01_errors_made.Holds := by
  exact K01.holds_of K01.plain
