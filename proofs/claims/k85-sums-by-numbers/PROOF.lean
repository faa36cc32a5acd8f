import PyProof.Rows.All
import Wide.All
import OpenK.AllK
import Wide.FinOn
import HandS.Base
import HandS.Call
import HandS.List
import HandS.Comp
import HandS.Ends
import HandS.Dict
import HandS.Iter
import HandS.Text
import HandS.More
import HandS.Exc
import HandS.TryOnly
import HandS.ExcOwn
import HandS.ExcInit
import HandS.Words
import HandS.WordsList
import HandS.WordsDict
import HandS.WordsExc
import HandS.IsInst
import HandS.Deep
import HandS.Defaults
import HandS.Wide
import HandS.TupAny
import HandS.Conv
import HandS.RaiseMore
import KE.KUnpackStar
import HandS.Style
import KE.GoesRaise
import KE.GoesEnum
import PyProof.ReprRoads
import PyProof.NeKinds
import HandS.ExcIs
import HandS.ExcField
import KE.KExcIs
import HandS.HeadHook2
import HandS.HeadHook3
import HandS.HeadHook4
import HandS.Flt
import PyProof.StrOps2
import HandS.Set
import HandS.SetTxt0
import HandS.TupSets
import HandS.SetBool
import HandS.SetFor
import HandS.MakeKwOnly
import PySem.Challenge.RW_playstead_k85_sums_by_numbers
import KE.KStateDown
import Lean
import HandS.Head0
import HandS.Head1
import HandS.Head2
import KE.KRevSl
import PyProof.Rows.IntBool
set_option Elab.async false
set_option linter.all false
set_option maxRecDepth 100000
set_option maxHeartbeats 1000000
/-! PD: readings over plain data. A value is a datum (PyData), a list read without owning it, or a bare value; a slot may own a list. -/
namespace PD
open PySem PySem.Spec PyProof.Rows L2

abbrev St := L2.St
/-- a region that is hidden: its cells, what is true of them -/
structure Reg where
  m : Addr → Prop
  J : Hp → Prop
  dom : ∀ H a, J H → m a → H a ≠ none
  st : ∀ H H', J H → (∀ a o, m a → H a = some o → H' a = some o) → J H'
def Reg.no : Reg := ⟨fun _ => False, fun _ => True, fun _ _ _ h => h.elim, fun _ _ _ _ => trivial⟩
def LenOk : HO → Prop
  | .lst xs => xs.length ≤ sizeLine
  | .tup xs => xs.length ≤ sizeLine
  | .frz _ _ => False
  | _ => True
structure Good (R : Reg) (I H : Hp) : Prop where
  sub : Same I H
  j : R.J H
  off : ∀ a o, I a = some o → ¬ R.m a
  len : ∀ a o, I a = some o → LenOk o
structure Ext (R : Reg) (I H I' H' : Hp) : Prop where
  good : Good R I' H'
  sub : Same I I'
  fresh : ∀ a o, I' a = some o → I a = some o ∨ H a = none
  keep : ∀ a o, H a = some o → ¬ R.m a → H' a = some o
theorem Ext.refl {R : Reg} {I H : Hp} (g : Good R I H) : Ext R I H I H := ⟨g, Same.refl _, fun _ _ h => .inl h, fun _ _ h _ => h⟩
theorem Ext.none {R : Reg} {I H I' H' : Hp} (g : Good R I H) (e : Ext R I H I' H') {a : Addr} (h : H' a = none) : H a = none := by
  cases q : H a with
  | none => rfl
  | some o =>
    by_cases m : R.m a
    · exact absurd h (R.dom H' a e.good.j m)
    · rw [e.keep a o q m] at h; cases h
theorem Ext.trans {R : Reg} {I H I1 H1 I2 H2 : Hp} (g : Good R I H) (e : Ext R I H I1 H1) (f : Ext R I1 H1 I2 H2) : Ext R I H I2 H2 where
  good := f.good
  sub := e.sub.trans f.sub
  fresh := fun a o h => by
    rcases f.fresh a o h with h | h
    · exact e.fresh a o h
    · exact .inr (e.none g h)
  keep := fun a o h m => f.keep a o (e.keep a o h m) m

/-! ### data in the heap -/
theorem sqL_mono {K : PySem.W.Frag} {H H' : Hp} {a : Addr} {xs : List V} (e : Same H H') (h : SqL K H a xs) : SqL K H' a xs := e.seq h
theorem sqT_mono {K : PySem.W.Frag} {H H' : Hp} {a : Addr} {xs : List V} (e : Same H H') (h : SqT K H a xs) : SqT K H' a xs := by
  rcases h with (h | ⟨o, h⟩) | h
  · exact .inl (.inl (e _ _ h))
  · exact .inl (.inr ⟨o, e _ _ h⟩)
  · exact .inr h
mutual
/-- a datum at a value: its lists are tracked, its tuples tracked or written; of a dict nothing but that it is one -/
inductive Da (K : PySem.W.Frag) (H : Hp) : V → PyData → Prop
  | non : Da K H .non .none
  | bl (b : Bool) : Da K H (.bl b) (.bool b)
  | int (i : Int) : Da K H (.int i) (.int i)
  | str (x : Str) : Da K H (.str x) (.str x)
  | lst {a : Addr} {xs : List V} {ds : List PyData} : H a = some (.lst xs) → DaAll K H xs ds → Da K H (.ref a) (.list ds)
  | tup {a : Addr} {xs : List V} {ds : List PyData} : SqT K H a xs → DaAll K H xs ds → Da K H (.ref a) (.tuple ds)
  | dct {a : Addr} {kvs : List (Key × V)} {ds : List (PyData × PyData)} : H a = some (.dK kvs) → Da K H (.ref a) (.dict ds)
inductive DaAll (K : PySem.W.Frag) (H : Hp) : List V → List PyData → Prop
  | nil : DaAll K H [] []
  | cons {v : V} {vs : List V} {d : PyData} {ds : List PyData} : Da K H v d → DaAll K H vs ds → DaAll K H (v :: vs) (d :: ds)
end
mutual
theorem da_mono {K : PySem.W.Frag} {H H' : Hp} (e : Same H H') : ∀ (d : PyData) (v : V), Da K H v d → Da K H' v d
  | .none, _, h => by cases h; exact .non
  | .bool b, _, h => by cases h; exact .bl b
  | .int i, _, h => by cases h; exact .int i
  | .str x, _, h => by cases h; exact .str x
  | .list ds, _, h => by
    cases h with
    | lst hs ha => exact .lst (e _ _ hs) (daa_mono e ds _ ha)
  | .tuple ds, _, h => by
    cases h with
    | tup hs ha => exact .tup (sqT_mono e hs) (daa_mono e ds _ ha)
  | .dict _, _, h => by
    cases h with
    | dct hs => exact .dct (e _ _ hs)
theorem daa_mono {K : PySem.W.Frag} {H H' : Hp} (e : Same H H') : ∀ (ds : List PyData) (vs : List V), DaAll K H vs ds → DaAll K H' vs ds
  | [], _, h => by cases h; exact .nil
  | d :: ds, _, h => by
    cases h with
    | cons h1 h2 => exact .cons (da_mono e d _ h1) (daa_mono e ds _ h2)
end
mutual
theorem Da.dp {K : PySem.W.Frag} {H : Hp} : ∀ (d : PyData) (v : V), d.canLay0 = true → Da K H v d → Dp K H v d
  | .none, _, _, h => by cases h; exact .non
  | .bool b, _, _, h => by cases h; exact .bl b
  | .int i, _, _, h => by cases h; exact .int i
  | .str x, _, _, h => by cases h; exact .str x
  | .list ds, _, c, h => by
    cases h with
    | lst hs ha => exact .lst (SqL.of hs) (DaAll.dp ds _ (by simpa [PyData.canLay0] using c) ha)
  | .tuple ds, _, c, h => by
    cases h with
    | tup hs ha => exact .tup hs (DaAll.dp ds _ (by simpa [PyData.canLay0] using c) ha)
  | .dict _, _, c, h => by simp [PyData.canLay0] at c
theorem DaAll.dp {K : PySem.W.Frag} {H : Hp} : ∀ (ds : List PyData) (vs : List V), PyData.canLayAll0 ds = true → DaAll K H vs ds → DpAll K H vs ds
  | [], _, _, h => by cases h; exact .nil
  | d :: ds, _, c, h => by
    cases h with
    | cons h1 h2 =>
      simp only [PyData.canLayAll0, Bool.and_eq_true] at c
      exact .cons (Da.dp d _ c.1 h1) (DaAll.dp ds _ c.2 h2)
end
theorem DaAll.len {K : PySem.W.Frag} {H : Hp} : ∀ {vs : List V} {ds : List PyData}, DaAll K H vs ds → vs.length = ds.length
  | _, _, .nil => rfl
  | _, _, .cons _ t => by rw [List.length_cons, List.length_cons, DaAll.len t]
theorem DaAll.app {K : PySem.W.Frag} {H : Hp} : ∀ {vs ws : List V} {ds es : List PyData}, DaAll K H vs ds → DaAll K H ws es → DaAll K H (vs ++ ws) (ds ++ es)
  | _, _, _, _, .nil, h => h
  | _, _, _, _, .cons a t, h => .cons a (DaAll.app t h)
theorem DaAll.take {K : PySem.W.Frag} {H : Hp} : ∀ {vs : List V} {ds : List PyData} (n : Nat), DaAll K H vs ds → DaAll K H (vs.take n) (ds.take n)
  | _, _, 0, _ => .nil
  | _, _, _ + 1, .nil => .nil
  | _, _, n + 1, .cons a t => .cons a (DaAll.take n t)
theorem DaAll.drop {K : PySem.W.Frag} {H : Hp} : ∀ {vs : List V} {ds : List PyData} (n : Nat), DaAll K H vs ds → DaAll K H (vs.drop n) (ds.drop n)
  | _, _, 0, h => h
  | _, _, _ + 1, .nil => .nil
  | _, _, n + 1, .cons _ t => DaAll.drop n t
theorem DaAll.get {K : PySem.W.Frag} {H : Hp} : ∀ {vs : List V} {ds : List PyData} {i : Nat} {d : PyData}, DaAll K H vs ds → ds[i]? = some d → ∃ v, vs[i]? = some v ∧ Da K H v d
  | _, _, _, _, .nil, e => by simp at e
  | _, _, 0, _, .cons a _, e => by simp at e; subst e; exact ⟨_, rfl, a⟩
  | _, _, i + 1, _, .cons _ t, e => by
    obtain ⟨v, h1, h2⟩ := DaAll.get (i := i) t (by simpa using e)
    exact ⟨v, by simpa using h1, h2⟩
theorem DaAll.set {K : PySem.W.Frag} {H : Hp} {v : V} {d : PyData} (h : Da K H v d) : ∀ {vs : List V} {ds : List PyData} (i : Nat), DaAll K H vs ds → DaAll K H (vs.set i v) (ds.set i d)
  | _, _, _, .nil => .nil
  | _, _, 0, .cons _ t => .cons h t
  | _, _, i + 1, .cons a t => .cons a (DaAll.set h i t)
theorem DaAll.strs {K : PySem.W.Frag} {H : Hp} : ∀ xs : List Str, DaAll K H (xs.map V.str) (xs.map PyData.str)
  | [] => .nil
  | x :: r => .cons (.str x) (DaAll.strs r)
theorem DaAll.of_strs {K : PySem.W.Frag} {H : Hp} : ∀ {xs : List Str} {vs : List V}, DaAll K H vs (xs.map PyData.str) → vs = xs.map V.str
  | [], _, h => by cases h; rfl
  | x :: r, _, h => by
    cases h with
    | cons a t => cases a; rw [DaAll.of_strs t]; rfl

/-! ### values -/
inductive DV where
  /-- a datum -/
  | d (x : PyData)
  /-- a list that is read there; f: made since the entry -/
  | bor (f : Bool) (xs : List PyData)
  /-- a list just made that nobody holds -/
  | new (xs : List PyData)
  /-- (in a slot) a list of this def's own -/
  | own (xs : List PyData)
  /-- a bare value -/
  | v (x : V)
/-- the data-level context: the written part, the hidden region, what is wanted of exceptions, the entry's heap -/
structure Zx where
  K : PySem.W.Frag
  R : Reg
  W : WX
  I0 : Hp
  H0 : Hp
/-- a list is to be read there -/
def Own (K : PySem.W.Frag) (R : Reg) (I H : Hp) (v : V) (xs : List PyData) : Prop :=
  ∃ a vs, v = .ref a ∧ H a = some (.lst vs) ∧ DaAll K I vs xs ∧ I a = none ∧ ¬ R.m a ∧ vs.length ≤ sizeLine
/-- a value, come since the heap was Hs -/
def At (Z : Zx) (Hs I H : Hp) (x : DV) (v : V) : Prop := match x with
  | .d x => Da Z.K I v x
  | .bor f xs => Own Z.K Z.R I H v xs ∧ (f = true → ∀ a, v = .ref a → Z.H0 a = none)
  | .new xs => Own Z.K Z.R I H v xs ∧ ∀ a, v = .ref a → Hs a = none ∧ Z.H0 a = none
  | .own _ => False
  | .v u => v = u
theorem Own.ext {K : PySem.W.Frag} {R : Reg} {I H I' H' : Hp} {v : V} {xs : List PyData} (e : Ext R I H I' H') (h : Own K R I H v xs) : Own K R I' H' v xs := by
  obtain ⟨a, vs, e1, e2, e3, e4, e5, e6⟩ := h
  refine ⟨a, vs, e1, e.keep _ _ e2 e5, daa_mono e.sub _ _ e3, ?_, e5, e6⟩
  cases q : I' a with
  | none => rfl
  | some o =>
    rcases e.fresh a o q with z | z
    · rw [e4] at z; cases z
    · rw [e2] at z; cases z
theorem At.ext {Z : Zx} {Hs I H I' H' : Hp} {v : V} {x : DV} (e : Ext Z.R I H I' H') (h : At Z Hs I H x v) : At Z Hs I' H' x v := by
  cases x with
  | d x => exact da_mono e.sub _ _ h
  | bor f xs => exact ⟨h.1.ext e, h.2⟩
  | new xs => exact ⟨h.1.ext e, h.2⟩
  | own xs => exact h
  | v u => exact h
/-- .. since an earlier one -/
theorem At.since {Z : Zx} {Hs Hs' I H : Hp} {v : V} {x : DV} (e : ∀ a, Hs' a = none → Hs a = none) (h : At Z Hs' I H x v) : At Z Hs I H x v := by
  cases x with
  | d x => exact h
  | bor f xs => exact h
  | new xs => exact ⟨h.1, fun a q => ⟨e a (h.2 a q).1, (h.2 a q).2⟩⟩
  | own xs => exact h
  | v u => exact h
inductive AtAll (Z : Zx) (Hs I H : Hp) : List DV → List V → Prop
  | nil : AtAll Z Hs I H [] []
  | cons {x : DV} {v : V} {xs : List DV} {vs : List V} : At Z Hs I H x v → AtAll Z Hs I H xs vs → AtAll Z Hs I H (x :: xs) (v :: vs)
theorem AtAll.ext {Z : Zx} {Hs I H I' H' : Hp} (e : Ext Z.R I H I' H') : ∀ {xs : List DV} {vs : List V}, AtAll Z Hs I H xs vs → AtAll Z Hs I' H' xs vs
  | _, _, .nil => .nil
  | _, _, .cons a t => .cons (a.ext e) (AtAll.ext e t)
theorem AtAll.since {Z : Zx} {Hs Hs' I H : Hp} (e : ∀ a, Hs' a = none → Hs a = none) : ∀ {xs : List DV} {vs : List V}, AtAll Z Hs' I H xs vs → AtAll Z Hs I H xs vs
  | _, _, .nil => .nil
  | _, _, .cons a t => .cons (a.since e) (AtAll.since e t)
theorem AtAll.len {Z : Zx} {Hs I H : Hp} : ∀ {xs : List DV} {vs : List V}, AtAll Z Hs I H xs vs → xs.length = vs.length
  | _, _, .nil => rfl
  | _, _, .cons _ t => by rw [List.length_cons, List.length_cons, AtAll.len t]
abbrev DEnv := List (Option DV)
/-- a slot's value -/
def Slot1 (Z : Zx) (I H : Hp) (x : DV) (v : V) : Prop := match x with
  | .d x => Da Z.K I v x
  | .bor f xs => f = false ∧ Own Z.K Z.R I H v xs ∧ ∀ a, v = .ref a → Z.H0 a ≠ none
  | .new _ => False
  | .own xs => Own Z.K Z.R I H v xs ∧ ∀ a, v = .ref a → Z.H0 a = none
  | .v u => v = u
theorem Slot1.ext {Z : Zx} {I H I' H' : Hp} {v : V} {x : DV} (e : Ext Z.R I H I' H') (h : Slot1 Z I H x v) : Slot1 Z I' H' x v := by
  cases x with
  | d x => exact da_mono e.sub _ _ h
  | bor f xs => exact ⟨h.1, h.2.1.ext e, h.2.2⟩
  | new xs => exact h
  | own xs => exact ⟨h.1.ext e, h.2⟩
  | v u => exact h
structure EnvAt (Z : Zx) (I H : Hp) (δ : DEnv) (σ : St) : Prop where
  len : δ.length = σ.length
  val : ∀ (i : Nat) (x : DV), δ[i]? = some (some x) → ∃ v, σ[i]? = some (some v) ∧ Slot1 Z I H x v
  apart : ∀ (i j : Nat) (xs ys : List PyData) (v : V), i ≠ j → δ[i]? = some (some (.own xs)) → δ[j]? = some (some (.own ys)) → σ[i]? = some (some v) → σ[j]? = some (some v) → False
theorem EnvAt.ext {Z : Zx} {I H I' H' : Hp} {δ : DEnv} {σ : St} (e : Ext Z.R I H I' H') (h : EnvAt Z I H δ σ) : EnvAt Z I' H' δ σ where
  len := h.len
  val := fun i x q => by
    obtain ⟨v, e1, e2⟩ := h.val i x q
    exact ⟨v, e1, e2.ext e⟩
  apart := h.apart
/-- forgetting slots -/
theorem EnvAt.weak {Z : Zx} {I H : Hp} {δ δ' : DEnv} {σ : St} (h : EnvAt Z I H δ σ) (hl : δ'.length = δ.length) (w : ∀ (i : Nat) x, δ'[i]? = some (some x) → δ[i]? = some (some x)) : EnvAt Z I H δ' σ where
  len := hl.trans h.len
  val := fun i x q => h.val i x (w i _ q)
  apart := fun i j xs ys v hn h1 h2 => h.apart i j xs ys v hn (w i _ h1) (w j _ h2)
theorem get_set_some {α : Type} {l : List (Option α)} {i j : Nat} {x y : α} (q : (l.set i (some x))[j]? = some (some y)) : (i = j ∧ x = y ∧ i < l.length) ∨ (i ≠ j ∧ l[j]? = some (some y)) := by
  by_cases hj : i = j
  · subst hj
    have hlt : i < l.length := by
      have := (List.getElem?_eq_some_iff.mp q).1
      rwa [List.length_set] at this
    rw [List.getElem?_set_self hlt] at q
    cases q
    exact .inl ⟨rfl, rfl, hlt⟩
  · rw [List.getElem?_set_ne hj] at q
    exact .inr ⟨hj, q⟩
/-- a slot is stored; an own list's address is no other slot's -/
theorem EnvAt.set {Z : Zx} {I H : Hp} {δ : DEnv} {σ : St} (h : EnvAt Z I H δ σ) (i : Nat) {x : DV} {v : V} (hx : Slot1 Z I H x v) (ha : ∀ xs, x = .own xs → ∀ (j : Nat) ys, i ≠ j → δ[j]? = some (some (.own ys)) → σ[j]? = some (some v) → False) : EnvAt Z I H (δ.set i (some x)) (σ.set i (some v)) where
  len := by rw [List.length_set, List.length_set]; exact h.len
  val := fun j y q => by
    rcases get_set_some q with ⟨rfl, rfl, hlt⟩ | ⟨hj, q⟩
    · exact ⟨v, List.getElem?_set_self (by rw [← h.len]; exact hlt), hx⟩
    · obtain ⟨u, e1, e2⟩ := h.val j y q
      exact ⟨u, by rw [List.getElem?_set_ne hj]; exact e1, e2⟩
  apart := fun j k xs ys u hn h1 h2 h3 h4 => by
    rcases get_set_some h1 with ⟨rfl, e1, hlt⟩ | ⟨hj, h1⟩
    · rcases get_set_some h2 with ⟨rfl, _, _⟩ | ⟨hk, h2⟩
      · exact hn rfl
      · rw [List.getElem?_set_self (by rw [← h.len]; exact hlt)] at h3
        cases h3
        rw [List.getElem?_set_ne hk] at h4
        exact ha xs e1 k ys hk h2 h4
    · rcases get_set_some h2 with ⟨rfl, e2, hlt⟩ | ⟨hk, h2⟩
      · rw [List.getElem?_set_self (by rw [← h.len]; exact hlt)] at h4
        cases h4
        rw [List.getElem?_set_ne hj] at h3
        exact ha ys e2 j xs hj h1 h3
      · rw [List.getElem?_set_ne hj] at h3
        rw [List.getElem?_set_ne hk] at h4
        exact h.apart j k xs ys u hn h1 h2 h3 h4

/-! ### exceptions -/
/-- an exception: its class, its fields -/
structure Ex where
  C : Addr
  fs : List (Str × PyData)
def ExAt (K : PySem.W.Frag) (I H : Hp) (x : Ex) (cls : Value) (od : Option Addr) : Prop :=
  cls = .ref x.C ∧ ((x.fs = [] ∧ od = none) ∨ ∃ dx vs, od = some dx ∧ H dx = some (.xd vs) ∧ vs.map (·.1) = x.fs.map (·.1) ∧ DaAll K I (vs.map (·.2)) (x.fs.map (·.2)))
/-- what is asked of an exception -/
def Wish (Z : Zx) (Ed : Ex → Prop) (σ : St) : Prop :=
  ∀ x c od I' H', Ext Z.R Z.I0 Z.H0 I' H' → ExAt Z.K I' H' x c od → Ed x → Z.W c od σ H'

/-! ### readings -/
abbrev DK := DV → Prop
abbrev EK := Ex → Prop
abbrev TD := DEnv → DK → EK → Prop
abbrev TDA := DEnv → (List DV → Prop) → EK → Prop
abbrev TDT := DEnv → (Bool → Prop) → EK → Prop
structure Here (Z : Zx) (I H : Hp) (δ : DEnv) (σ : St) (Ed : EK) : Prop where
  g0 : Good Z.R Z.I0 Z.H0
  e0 : Ext Z.R Z.I0 Z.H0 I H
  env : EnvAt Z I H δ σ
  w : Wish Z Ed σ
theorem Here.g {Z : Zx} {I H : Hp} {δ : DEnv} {σ : St} {Ed : EK} (h : Here Z I H δ σ Ed) : Good Z.R I H := h.e0.good
theorem Here.old {Z : Zx} {I H : Hp} {δ : DEnv} {σ : St} {Ed : EK} (h : Here Z I H δ σ Ed) : ∀ a, H a = none → Z.H0 a = none := fun _ q => h.e0.none h.g0 q
theorem Here.ext {Z : Zx} {I H I' H' : Hp} {δ : DEnv} {σ : St} {Ed : EK} (h : Here Z I H δ σ Ed) (e : Ext Z.R I H I' H') : Here Z I' H' δ σ Ed := ⟨h.g0, h.e0.trans h.g0 e, h.env.ext e, h.w⟩
/-- what follows a value -/
def Then (Z : Zx) (I H : Hp) (Qd : DK) (Q : VK) : Prop := ∀ x v I' H', Ext Z.R I H I' H' → At Z H I' H' x v → Qd x → Q v H'
def ThenA (Z : Zx) (I H : Hp) (Qd : List DV → Prop) (Q : List V → Hp → Prop) : Prop := ∀ xs vs I' H', Ext Z.R I H I' H' → AtAll Z H I' H' xs vs → Qd xs → Q vs H'
def ThenB (Z : Zx) (I H : Hp) (Qd : Bool → Prop) (Q : Bool → Hp → Prop) : Prop := ∀ b I' H', Ext Z.R I H I' H' → Qd b → Q b H'
structure DE (X : Cx) (Z : Zx) (e : Expr) (te : TE) (t : TD) : Prop where
  pe : PE X e te
  rf : ∀ I H δ σ Qd Ed Q, Here Z I H δ σ Ed → t δ Qd Ed → Then Z I H Qd Q → te σ H Q
structure DA (X : Cx) (Z : Zx) (es : List Expr) (te : TA) (t : TDA) : Prop where
  pa : PA X es te
  rf : ∀ I H δ σ Qd Ed Q, Here Z I H δ σ Ed → t δ Qd Ed → ThenA Z I H Qd Q → te σ H Q
structure DT (X : Cx) (Z : Zx) (e : Expr) (te : TT) (t : TDT) : Prop where
  pt : PT X e te
  rf : ∀ I H δ σ Qd Ed Q, Here Z I H δ σ Ed → t δ Qd Ed → ThenB Z I H Qd Q → te σ H Q
structure DW (X : Cx) (Z : Zx) (e : Expr) (te : TT) (t : TDT) : Prop where
  pw : PW X e te
  rf : ∀ I H δ σ Qd Ed Q, Here Z I H δ σ Ed → t δ Qd Ed → ThenB Z I H Qd Q → te σ H Q
theorem DW.dt {X : Cx} {Z : Zx} {e : Expr} {te : TT} {t : TDT} (h : DW X Z e te t) : DT X Z e te t := ⟨h.pw.pt, h.rf⟩
structure DEnds where
  nx : DEnv → Prop
  rt : DK
  bk : DEnv → Prop := fun _ => False
  ct : DEnv → Prop := fun _ => False
abbrev TDS := DEnds → EK → DEnv → Prop
def RetAt (K : PySem.W.Frag) (I : Hp) (x : DV) (v : V) : Prop := match x with
  | .d x => Da K I v x
  | .v u => v = u
  | _ => False
/-- what follows a statement: from the entry; what is read stays -/
structure Link (Z : Zx) (I : Hp) (D : DEnds) (T : Ends) : Prop where
  nx : ∀ δ σ I' H', Ext Z.R Z.I0 Z.H0 I' H' → Same I I' → EnvAt Z I' H' δ σ → D.nx δ → T.nx σ H'
  rt : ∀ x v I' H', Ext Z.R Z.I0 Z.H0 I' H' → RetAt Z.K I' x v → D.rt x → T.rt v H'
  bk : ∀ δ σ I' H', Ext Z.R Z.I0 Z.H0 I' H' → Same I I' → EnvAt Z I' H' δ σ → D.bk δ → T.bk σ H'
  ct : ∀ δ σ I' H', Ext Z.R Z.I0 Z.H0 I' H' → Same I I' → EnvAt Z I' H' δ σ → D.ct δ → T.ct σ H'
theorem Link.ext {Z : Zx} {I I' : Hp} {D : DEnds} {T : Ends} (e : Same I I') (l : Link Z I D T) : Link Z I' D T :=
  ⟨fun δ σ I2 H2 f s => l.nx δ σ I2 H2 f (e.trans s), l.rt, fun δ σ I2 H2 f s => l.bk δ σ I2 H2 f (e.trans s), fun δ σ I2 H2 f s => l.ct δ σ I2 H2 f (e.trans s)⟩
structure DS (X : Cx) (Z : Zx) (s : Stmt) (ts : TS) (t : TDS) : Prop where
  ps : PS X s ts
  rf : ∀ I H δ σ D Ed T, Here Z I H δ σ Ed → t D Ed δ → Link Z I D T → ts T σ H
structure DSs (X : Cx) (Z : Zx) (ss : List Stmt) (ts : TS) (t : TDS) : Prop where
  ps : PSs X ss ts
  rf : ∀ I H δ σ D Ed T, Here Z I H δ σ Ed → t D Ed δ → Link Z I D T → ts T σ H
end PD
set_option Elab.async false
set_option linter.all false
set_option maxRecDepth 100000
set_option maxHeartbeats 1000000
namespace PD
open PySem PySem.Spec PyProof.Rows L2

/-! ### what follows, later -/
theorem Then.ext {Z : Zx} {I H I' H' : Hp} {Qd : DK} {Q : VK} (g : Good Z.R I H) (e : Ext Z.R I H I' H') (k : Then Z I H Qd Q) : Then Z I' H' Qd Q :=
  fun x v I2 H2 f a q => k x v I2 H2 (e.trans g f) (a.since fun _ z => e.none g z) q
theorem ThenA.ext {Z : Zx} {I H I' H' : Hp} {Qd : List DV → Prop} {Q : List V → Hp → Prop} (g : Good Z.R I H) (e : Ext Z.R I H I' H') (k : ThenA Z I H Qd Q) : ThenA Z I' H' Qd Q :=
  fun x v I2 H2 f a q => k x v I2 H2 (e.trans g f) (a.since fun _ z => e.none g z) q
theorem ThenB.ext {Z : Zx} {I H I' H' : Hp} {Qd : Bool → Prop} {Q : Bool → Hp → Prop} (g : Good Z.R I H) (e : Ext Z.R I H I' H') (k : ThenB Z I H Qd Q) : ThenB Z I' H' Qd Q :=
  fun b I2 H2 f q => k b I2 H2 (e.trans g f) q
/-- a value without a heap -/
theorem Then.here {Z : Zx} {I H : Hp} {Qd : DK} {Q : VK} {x : DV} {v : V} (g : Good Z.R I H) (k : Then Z I H Qd Q) (a : At Z H I H x v) (q : Qd x) : Q v H := k x v I H (Ext.refl g) a q
theorem Then.now {Z : Zx} {I H : Hp} {Qd : DK} {Q : VK} {x : PyData} {v : V} (g : Good Z.R I H) (k : Then Z I H Qd Q) (a : Da Z.K I v x) (q : Qd (.d x)) : Q v H := k (.d x) v I H (Ext.refl g) a q
theorem fresh_off {Z : Zx} {I H : Hp} {p : Addr} (g : Good Z.R I H) (hp : H p = none) : I p = none ∧ ¬ Z.R.m p := by
  refine ⟨?_, fun m => Z.R.dom H p g.j m hp⟩
  cases q : I p with
  | none => rfl
  | some o => rw [g.sub p o q] at hp; cases hp
/-- a new object that is read by all -/
theorem ext_new {R : Reg} {I H : Hp} {p : Addr} {o : HO} (g : Good R I H) (hp : H p = none) (lo : LenOk o) : Ext R I H (upd I p o) (upd H p o) := by
  have off : ¬ R.m p := fun m => R.dom H p g.j m hp
  have k : ∀ a u, H a = some u → upd H p o a = some u := fun a u q => by rw [upd_ne (ne_of_none q hp)]; exact q
  refine ⟨⟨fun a u q => ?_, R.st H _ g.j fun a u _ q => k a u q, fun a u q => ?_, fun a u q => ?_⟩, fun a u q => ?_, fun a u q => ?_, fun a u q _ => k a u q⟩
  · by_cases e : a = p
    · subst e; rw [upd_same] at q ⊢; exact q
    · rw [upd_ne e] at q ⊢; exact g.sub a u q
  · by_cases e : a = p
    · subst e; exact off
    · rw [upd_ne e] at q; exact g.off a u q
  · by_cases e : a = p
    · subst e; rw [upd_same] at q; cases q; exact lo
    · rw [upd_ne e] at q; exact g.len a u q
  · have hn : I p = none := by
      cases z : I p with
      | none => rfl
      | some w => rw [g.sub p w z] at hp; cases hp
    rw [upd_ne (ne_of_none q hn)]; exact q
  · by_cases e : a = p
    · subst e; exact .inr hp
    · rw [upd_ne e] at q; exact .inl q
/-- a new object of one's own -/
theorem ext_own {R : Reg} {I H : Hp} {p : Addr} {o : HO} (g : Good R I H) (hp : H p = none) : Ext R I H I (upd H p o) := by
  have k : ∀ a u, H a = some u → upd H p o a = some u := fun a u q => by rw [upd_ne (ne_of_none q hp)]; exact q
  exact ⟨⟨fun a u q => k a u (g.sub a u q), R.st H _ g.j fun a u _ q => k a u q, g.off, g.len⟩, Same.refl _, fun a u q => .inl q, fun a u q _ => k a u q⟩
theorem Then.new {Z : Zx} {I H : Hp} {Qd : DK} {Q : VK} {vs : List V} {xs : List PyData} (g : Good Z.R I H) (old : ∀ a, H a = none → Z.H0 a = none) (k : Then Z I H Qd Q) (a : DaAll Z.K I vs xs) (hl : vs.length ≤ sizeLine) (q : Qd (.new xs)) :
    ∀ p, H p = none → Q (.ref p) (upd H p (.lst vs)) := fun p hp => by
  obtain ⟨n1, n2⟩ := fresh_off g hp
  refine k (.new xs) (.ref p) I _ (ext_own g hp) ⟨⟨p, vs, rfl, upd_same, a, n1, n2, hl⟩, fun b e => ?_⟩ q
  cases e
  exact ⟨hp, old p hp⟩
theorem upd_sub {I : Hp} {p : Addr} {o : HO} (n : I p = none) : Same I (upd I p o) := fun a u q => by rw [upd_ne (ne_of_none q n)]; exact q
theorem Then.tup {Z : Zx} {I H : Hp} {Qd : DK} {Q : VK} {vs : List V} {xs : List PyData} (g : Good Z.R I H) (k : Then Z I H Qd Q) (a : DaAll Z.K I vs xs) (hl : vs.length ≤ sizeLine) (q : Qd (.d (.tuple xs))) :
    ∀ p, H p = none → Q (.ref p) (upd H p (.tup vs)) := fun p hp => by
  obtain ⟨n1, n2⟩ := fresh_off g hp
  exact k (.d (.tuple xs)) (.ref p) _ _ (ext_new g hp hl) (.tup (SqT.of upd_same) (daa_mono (upd_sub n1) _ _ a)) q

/-! ### freezing what is new -/
def froz : DV → DV
  | .new xs => .d (.list xs)
  | x => x
/-- .. also what is this def's own -/
def frozA : DV → DV
  | .new xs => .d (.list xs)
  | .bor true xs => .d (.list xs)
  | x => x
theorem ext_frz {R : Reg} {I0 H0' I H : Hp} {p : Addr} {vs : List V} (e : Ext R I0 H0' I H) (hp : H p = some (.lst vs)) (hn : H0' p = none) (m : ¬ R.m p) (hi : I p = none) (hl : vs.length ≤ sizeLine) : Ext R I0 H0' (upd I p (.lst vs)) H := by
  refine ⟨⟨fun a u q => ?_, e.good.j, fun a u q => ?_, fun a u q => ?_⟩, e.sub.trans (upd_sub hi), fun a u q => ?_, e.keep⟩
  · by_cases z : a = p
    · subst z; rw [upd_same] at q; rw [hp]; exact q
    · rw [upd_ne z] at q; exact e.good.sub a u q
  · by_cases z : a = p
    · subst z; exact m
    · rw [upd_ne z] at q; exact e.good.off a u q
  · by_cases z : a = p
    · subst z; rw [upd_same] at q; cases q; exact hl
    · rw [upd_ne z] at q; exact e.good.len a u q
  · by_cases z : a = p
    · subst z; exact .inr hn
    · rw [upd_ne z] at q; exact e.fresh a u q
/-- a new value, frozen -/
theorem At.frz {Z : Zx} {I H I' H' : Hp} {x : DV} {v : V} (e : Ext Z.R I H I' H') (a : At Z H I' H' x v) : ∃ I2, Ext Z.R I H I2 H' ∧ Same I' I2 ∧ At Z H I2 H' (froz x) v := by
  cases x with
  | new xs =>
    obtain ⟨⟨p, vs, rfl, h1, h2, h3, h4, h5⟩, h6⟩ := a
    exact ⟨upd I' p (.lst vs), ext_frz e h1 (h6 p rfl).1 h4 h3 h5, upd_sub h3, .lst upd_same (daa_mono (upd_sub h3) _ _ h2)⟩
  | d x => exact ⟨I', e, Same.refl _, a⟩
  | bor f xs => exact ⟨I', e, Same.refl _, a⟩
  | own xs => exact ⟨I', e, Same.refl _, a⟩
  | v u => exact ⟨I', e, Same.refl _, a⟩
theorem Then.frz {Z : Zx} {I H : Hp} {Qd : DK} {Q : VK} (k : Then Z I H Qd Q) : Then Z I H (fun x => Qd (froz x)) Q := fun x v I' H' e a q => by
  obtain ⟨I2, e2, _, a2⟩ := a.frz e
  exact k (froz x) v I2 H' e2 a2 q

/-! ### names, constants -/
def dVar (i : Nat) : TD := fun δ Q _ => match δ[i]? with
  | some (some (.own xs)) => Q (.bor true xs)
  | some (some x) => Q x
  | _ => False
section
variable {X : Cx} {Z : Zx} {pos : Pos}
theorem de_var {i : Nat} {x : Str} (h : PE X (.Name x pos) (tVar i)) : DE X Z (.Name x pos) (tVar i) (dVar i) := by
  refine ⟨h, fun I H δ σ Qd Ed Q hh t k => ?_⟩
  unfold dVar at t
  split at t
  · rename_i xs e
    obtain ⟨v, e1, e2⟩ := hh.env.val i _ e
    exact ⟨v, e1, k.here hh.g (x := .bor true xs) ⟨e2.1, fun _ => e2.2⟩ t⟩
  · rename_i x hx e
    obtain ⟨v, e1, e2⟩ := hh.env.val i _ e
    refine ⟨v, e1, k.here hh.g (x := x) ?_ t⟩
    cases x with
    | d x => exact e2
    | bor f xs => obtain ⟨rfl, e3, _⟩ := e2; exact ⟨e3, fun z => nomatch z⟩
    | new xs => exact e2.elim
    | own xs => exact absurd rfl (hx xs)
    | v u => exact e2
  · exact t.elim
def dC (x : DV) : TD := fun _ Q _ => Q x
theorem de_c {e : Expr} {v : V} {x : DV} (h : PE X e (tC v)) (a : ∀ Hs I H, At Z Hs I H x v) : DE X Z e (tC v) (dC x) :=
  ⟨h, fun I H δ σ Qd Ed Q hh t k => k.here hh.g (a _ _ _) t⟩
theorem de_int {i : Int} {j : Nat} : DE X Z (.Constant (.int i) j pos) (tC (.int i)) (dC (.d (.int i))) := de_c pe_int fun _ _ _ => Da.int i
theorem de_bl {b : Bool} {j : Nat} : DE X Z (.Constant (.bool b) j pos) (tC (.bl b)) (dC (.d (.bool b))) := de_c pe_bl fun _ _ _ => Da.bl b
theorem de_non {j : Nat} : DE X Z (.Constant .none j pos) (tC .non) (dC (.d .none)) := de_c pe_non fun _ _ _ => Da.non
theorem de_str {x : Str} {j : Nat} : DE X Z (.Constant (.str x) j pos) (tC (.str x)) (dC (.d (.str x))) := de_c pe_str fun _ _ _ => Da.str x
/-- a module's int, text -/
theorem de_gint {x : Str} {i : Int} (hg : Gl X x) (hm : ∃ t, X.mg x = some (.int i t)) (hd : (x == ("__debug__" : Str)) = false := by decide) : DE X Z (.Name x pos) (tC (.int i)) (dC (.d (.int i))) := by
  obtain ⟨t, hm⟩ := hm
  exact de_c (pe_glob hg hm ⟨t, rfl⟩ hd) fun _ _ _ => Da.int i
theorem de_gstr {x z : Str} (hg : Gl X x) (hm : ∃ t, X.mg x = some (.str z t)) (hd : (x == ("__debug__" : Str)) = false := by decide) : DE X Z (.Name x pos) (tC (.str z)) (dC (.d (.str z))) := by
  obtain ⟨t, hm⟩ := hm
  exact de_c (pe_glob hg hm ⟨t, rfl⟩ hd) fun _ _ _ => Da.str z
/-- a class of the module -/
theorem de_gcls {x : Str} {C : Addr} (hg : Gl X x) (hm : X.mg x = some (.ref C)) (hd : (x == ("__debug__" : Str)) = false := by decide) : DE X Z (.Name x pos) (tC (.ref C)) (dC (.v (.ref C))) :=
  de_c (pe_glob hg hm rfl hd) fun _ _ _ => rfl
/-- a built-in class -/
theorem de_ty {x : Str} {n : String} (hg : Gl X x) (hm : X.mg x = none) (hv : bootBuiltins x = some (.type n)) (hn : x ≠ "__name__" := by decide) (hd : (x == ("__debug__" : Str)) = false := by decide) : DE X Z (.Name x pos) (tC (.ty n)) (dC (.v (.ty n))) :=
  de_c (pe_bltn hg hm hv rfl hn hd) fun _ _ _ => rfl

/-! ### operators by values -/
abbrev O2 := DV → DV → DK → EK → Prop
abbrev O1 := DV → DK → EK → Prop
structure At2 (Z : Zx) (I H : Hp) : Prop where
  g : Good Z.R I H
  old : ∀ a, H a = none → Z.H0 a = none
def OpD (Z : Zx) (r : R2) (o : O2) : Prop := ∀ I H Hs x y v u Qd Ed Q, At2 Z I H → At Z Hs I H x v → At Z Hs I H y u → o x y Qd Ed → Then Z I H Qd Q → r v u H Q
def UnD (Z : Zx) (r : V → Hp → VK → Prop) (o : O1) : Prop := ∀ I H Hs x v Qd Ed Q, At2 Z I H → At Z Hs I H x v → o x Qd Ed → Then Z I H Qd Q → r v H Q
def dBin (o : O2) (a b : TD) : TD := fun δ Q E => a δ (fun x => b δ (fun y => o x y Q E) E) E
def dUn (o : O1) (a : TD) : TD := fun δ Q E => a δ (fun x => o x Q E) E
theorem de_tOp {e a b : Expr} {ta tb : TE} {da db : TD} {r : R2} {o : O2} (h : PE X a ta → PE X b tb → PE X e (tOp r ta tb)) (ho : OpD Z r o) (ha : DE X Z a ta da) (hb : DE X Z b tb db) : DE X Z e (tOp r ta tb) (dBin o da db) := by
  refine ⟨h ha.pe hb.pe, fun I H δ σ Qd Ed Q hh t k => ?_⟩
  refine ha.rf I H δ σ _ Ed _ hh t fun x v I1 H1 e1 a1 q1 => ?_
  refine hb.rf I1 H1 δ σ _ Ed _ (hh.ext e1) q1 fun y u I2 H2 e2 a2 q2 => ?_
  have h2 := (hh.ext e1).ext e2
  exact ho I2 H2 H x y v u Qd Ed Q ⟨h2.g, h2.old⟩ (a1.ext e2) (a2.since fun _ z => e1.none hh.g z) q2 (k.ext hh.g (e1.trans hh.g e2))
theorem de_op {a b : Expr} {ta tb : TE} {da db : TD} {r : R2} {o : O2} {op : Operator} (h : OpR X (binaryOp op) r) (ho : OpD Z r o) (ha : DE X Z a ta da) (hb : DE X Z b tb db) : DE X Z (.BinOp a op b pos) (tOp r ta tb) (dBin o da db) :=
  de_tOp (fun p q => pe_op h p q) ho ha hb
theorem de_cmp {a b : Expr} {ta tb : TE} {da db : TD} {r : R2} {o : O2} {op : CmpOp} (h : OpR X (compareOp op) r) (hm : behindInMarks op b = false) (ho : OpD Z r o) (ha : DE X Z a ta da) (hb : DE X Z b tb db) : DE X Z (.Compare a [op] [b] pos) (tOp r ta tb) (dBin o da db) :=
  de_tOp (fun p q => pe_cmpR h p q hm) ho ha hb
theorem de_un {a : Expr} {ta : TE} {da : TD} {r : V → Hp → VK → Prop} {o : O1} {op : UnaryOp} (h : UnR X (unaryOp op) r) (ho : UnD Z r o) (ha : DE X Z a ta da) : DE X Z (.UnaryOp op a pos) (tUn r ta) (dUn o da) := by
  refine ⟨pe_un h ha.pe, fun I H δ σ Qd Ed Q hh t k => ?_⟩
  refine ha.rf I H δ σ _ Ed _ hh t fun x v I1 H1 e1 a1 q1 => ?_
  have h1 := hh.ext e1
  exact ho I1 H1 H x v Qd Ed Q ⟨h1.g, h1.old⟩ a1 q1 (k.ext hh.g e1)
end

/-! ### lists and tuples to be read -/
def lstOf : DV → Option (List PyData)
  | .d (.list xs) => some xs
  | .bor _ xs => some xs
  | .new xs => some xs
  | _ => none
theorem lst_at {Z : Zx} {Hs I H : Hp} {x : DV} {v : V} {xs : List PyData} (g : Good Z.R I H) (a : At Z Hs I H x v) (h : lstOf x = some xs) : ∃ p vs, v = .ref p ∧ H p = some (.lst vs) ∧ DaAll Z.K I vs xs ∧ vs.length ≤ sizeLine := by
  unfold lstOf at h
  split at h
  · cases h
    cases a with
    | lst h1 h2 => exact ⟨_, _, rfl, g.sub _ _ h1, h2, g.len _ _ h1⟩
  · cases h
    obtain ⟨⟨p, vs, rfl, h1, h2, _, _, h5⟩, _⟩ := a
    exact ⟨p, vs, rfl, h1, h2, h5⟩
  · cases h
    obtain ⟨⟨p, vs, rfl, h1, h2, _, _, h5⟩, _⟩ := a
    exact ⟨p, vs, rfl, h1, h2, h5⟩
  · cases h
theorem tup_at {Z : Zx} {I H : Hp} {v : V} {xs : List PyData} (g : Good Z.R I H) (a : Da Z.K I v (.tuple xs)) : ∃ p vs, v = .ref p ∧ SqT Z.K I p vs ∧ SqT Z.K H p vs ∧ DaAll Z.K I vs xs := by
  cases a with
  | tup h1 h2 => exact ⟨_, _, rfl, h1, sqT_mono g.sub h1, h2⟩
/-- the data of a datum's length fits -/
theorem tup_len {Z : Zx} {I H : Hp} {p : Addr} {vs : List V} (g : Good Z.R I H) (h : SqT Z.K I p vs) : vs.length ≤ sizeLine := by
  rcases h with (h | ⟨o, h⟩) | ⟨o, its, n, _, _, _, hz, r⟩
  · exact g.len _ _ h
  · exact (g.len _ _ h).elim
  · have e := r.length
    simp only [Array.length_toList] at e
    omega
end PD
set_option Elab.async false
set_option linter.all false
set_option maxRecDepth 100000
set_option maxHeartbeats 1000000
namespace PD
open PySem PySem.Spec PyProof.Rows L2
section
variable {X : Cx} {Z : Zx} {pos : Pos}

/-! ### arithmetic of ints -/
def oInt (C : Int → Int → Prop) (g : Int → Int → Int) : O2 := fun x y Q _ => match x, y with
  | .d (.int i), .d (.int j) => C i j ∧ Q (.d (.int (g i j)))
  | _, _ => False
theorem od_int {C : Int → Int → Prop} {g : Int → Int → Int} : OpD Z (rI C fun i j => .int (g i j)) (oInt C g) := fun I H Hs x y v u Qd Ed Q g' ax ay t k => by
  unfold oInt at t
  split at t
  · cases ax; cases ay
    exact ⟨_, _, rfl, rfl, t.1, k.now g'.g (.int _) t.2⟩
  · exact t.elim
def oIntB (p : Int → Int → Bool) : O2 := fun x y Q _ => match x, y with
  | .d (.int i), .d (.int j) => Q (.d (.bool (p i j)))
  | _, _ => False
theorem od_intB {p : Int → Int → Bool} : OpD Z (rI0 fun i j => .bl (p i j)) (oIntB p) := fun I H Hs x y v u Qd Ed Q g' ax ay t k => by
  unfold oIntB at t
  split at t
  · cases ax; cases ay
    exact ⟨_, _, rfl, rfl, k.now g'.g (.bl _) t⟩
  · exact t.elim
abbrev oSub : O2 := oInt (fun _ _ => True) fun i j => i - j
theorem od_sub : OpD Z (rI0 fun i j => .int (i - j)) oSub := fun I H Hs x y v u Qd Ed Q g' ax ay t k => by
  obtain ⟨i, j, e1, e2, _, q⟩ := od_int I H Hs x y v u Qd Ed Q g' ax ay t k
  exact ⟨i, j, e1, e2, q⟩
abbrev oFdv : O2 := oInt CDivW fun i j => i / j
abbrev oMod : O2 := oInt (fun _ j => 0 < j) fun i j => i % j
abbrev oPow : O2 := oInt CPow fun i j => i ^ j.toNat
abbrev oLt : O2 := oIntB fun i j => decide (i < j)
abbrev oLe : O2 := oIntB fun i j => decide (i ≤ j)
abbrev oGt : O2 := oIntB fun i j => decide (j < i)
abbrev oGe : O2 := oIntB fun i j => decide (j ≤ i)
theorem op_subX : OpR X (binaryOp .Sub) (rI0 fun i j => .int (i - j)) := op_sub
/-! ### + -/
theorem op_cat' : OpR X (binaryOp .Add) (fun x y H Q => rI0 (fun i j => .int (i + j)) x y H Q ∨ (∃ i j, x = .str i ∧ y = .str j ∧ i.length + j.length ≤ sizeLine ∧ Q (.str (i ++ j)) H) ∨ rCatA X.K x y H Q ∨ rCat x y H Q) :=
  op_add.or (op_add_str.or (op_catA.or op_cat))
def oAdd : O2 := fun x y Q _ => match x, y with
  | .d (.int i), .d (.int j) => Q (.d (.int (i + j)))
  | .d (.str a), .d (.str b) => a.length + b.length ≤ sizeLine ∧ Q (.d (.str (a ++ b)))
  | .d (.tuple a), .d (.tuple b) => a.length + b.length ≤ sizeLine ∧ Q (.d (.tuple (a ++ b)))
  | x, y => match lstOf x, lstOf y with
    | some a, some b => a.length + b.length ≤ sizeLine ∧ Q (.new (a ++ b))
    | _, _ => False
theorem od_add {K : PySem.W.Frag} (hK : Z.K = K) : OpD Z (fun x y H Q => rI0 (fun i j => .int (i + j)) x y H Q ∨ (∃ i j, x = .str i ∧ y = .str j ∧ i.length + j.length ≤ sizeLine ∧ Q (.str (i ++ j)) H) ∨ rCatA K x y H Q ∨ rCat x y H Q) oAdd := fun I H Hs x y v u Qd Ed Q g' ax ay t k => by
  subst hK
  unfold oAdd at t
  split at t
  · cases ax; cases ay
    exact .inl ⟨_, _, rfl, rfl, k.now g'.g (.int _) t⟩
  · cases ax; cases ay
    exact .inr (.inl ⟨_, _, rfl, rfl, t.1, k.now g'.g (.str _) t.2⟩)
  · obtain ⟨p, vs, rfl, h1, h1', h2⟩ := tup_at g'.g ax
    obtain ⟨q, us, rfl, h3, h3', h4⟩ := tup_at g'.g ay
    have l1 := h2.len
    have l2 := h4.len
    refine .inr (.inr (.inl ⟨p, q, vs, us, rfl, rfl, h1', h3', by omega, fun e => ?_, fun _ e => ?_, fun _ _ => ?_⟩))
    · subst e
      cases h2
      exact k.now g'.g ay t.2
    · subst e
      cases h4
      rw [List.append_nil] at t
      exact k.now g'.g ax t.2
    · exact k.tup g'.g (h2.app h4) (by rw [List.length_append]; omega) t.2
  · split at t
    · rename_i a b e1 e2
      obtain ⟨p, vs, rfl, h1, h2, _⟩ := lst_at g'.g ax e1
      obtain ⟨q, us, rfl, h3, h4, _⟩ := lst_at g'.g ay e2
      have l1 := h2.len
      have l2 := h4.len
      exact .inr (.inr (.inr ⟨p, q, vs, us, rfl, rfl, h1, h3, by omega, k.new g'.g g'.old (h2.app h4) (by rw [List.length_append]; omega) t.2⟩))
    · exact t.elim
/-! ### * -/
theorem DaAll.flat {K : PySem.W.Frag} {H : Hp} {vs : List V} {ds : List PyData} (h : DaAll K H vs ds) : ∀ n : Nat, DaAll K H (List.replicate n vs).flatten (List.replicate n ds).flatten
  | 0 => .nil
  | n + 1 => by
    rw [List.replicate_succ, List.replicate_succ, List.flatten_cons, List.flatten_cons]
    exact h.app (DaAll.flat h n)
def oMul : O2 := fun x y Q _ => match x, y with
  | .d (.int i), .d (.int j) => CMulW i j ∧ Q (.d (.int (i * j)))
  | x, .d (.int k) => match lstOf x with
    | some a => -(2 ^ 63) ≤ k ∧ k < 2 ^ 63 ∧ a.length * k.toNat ≤ sizeLine ∧ Q (.new (List.replicate k.toNat a).flatten)
    | none => False
  | _, _ => False
theorem op_mul' : OpR X (binaryOp .Mult) (fun x y H Q => rI CMulW (fun i j => .int (i * j)) x y H Q ∨ rRep x y H Q) := op_mulW.or op_rep
theorem od_mul : OpD Z (fun x y H Q => rI CMulW (fun i j => .int (i * j)) x y H Q ∨ rRep x y H Q) oMul := fun I H Hs x y v u Qd Ed Q g' ax ay t k => by
  unfold oMul at t
  split at t
  · cases ax; cases ay
    exact .inl ⟨_, _, rfl, rfl, t.1, k.now g'.g (.int _) t.2⟩
  · split at t
    · rename_i a e1
      obtain ⟨p, vs, rfl, h1, h2, _⟩ := lst_at g'.g ax e1
      cases ay
      have l1 := h2.len
      refine .inr ⟨p, _, vs, rfl, rfl, h1, t.1, t.2.1, by rw [l1]; exact t.2.2.1, k.new g'.g g'.old (h2.flat _) ?_ t.2.2.2⟩
      rw [List.length_flatten, List.map_replicate, List.sum_replicate_nat, l1, Nat.mul_comm]
      exact t.2.2.1
    · exact t.elim
  · exact t.elim
/-! ### == -/
def scalD : PyData → PyData → Bool
  | .none, .none => true | .none, .int _ => true | .int _, .none => true | .none, .bool _ => true | .bool _, .none => true | .none, .str _ => true | .str _, .none => true
  | .int _, .int _ => true | .bool _, .bool _ => true | .str _, .str _ => true
  | .int _, .str _ => true | .str _, .int _ => true | .bool _, .str _ => true | .str _, .bool _ => true
  | _, _ => false
/-- the datum that a value is, to be read -/
def datOf : DV → Option PyData
  | .d x => some x
  | .bor _ xs => some (.list xs)
  | .new xs => some (.list xs)
  | _ => none
theorem dat_at {Hs I H : Hp} {x : DV} {v : V} {d : PyData} (g : Good Z.R I H) (a : At Z Hs I H x v) (h : datOf x = some d) (c : d.canLay0 = true) : Dp Z.K H v d := by
  unfold datOf at h
  split at h
  · cases h
    exact Da.dp _ _ c (da_mono g.sub _ _ a)
  · cases h
    obtain ⟨⟨p, vs, rfl, h1, h2, _, _, h5⟩, _⟩ := a
    exact .lst (SqL.of h1) (DaAll.dp _ _ (by simpa [PyData.canLay0] using c) (daa_mono g.sub _ _ h2))
  · cases h
    obtain ⟨⟨p, vs, rfl, h1, h2, _, _, h5⟩, _⟩ := a
    exact .lst (SqL.of h1) (DaAll.dp _ _ (by simpa [PyData.canLay0] using c) (daa_mono g.sub _ _ h2))
  · cases h
def eqOk (a b : PyData) : Prop := scalD a b = true ∨ (SeqAt.shaped a = true ∧ SeqAt.shaped b = true)
theorem eqv_scal {I : Hp} {K : PySem.W.Frag} {a b : PyData} {v u : V} (h : scalD a b = true) (ha : Da K I v a) (hb : Da K I u b) : scal v u = true ∧ decide (v = u) = PyData.eqv a b := by
  unfold scalD at h
  split at h <;> first
    | (cases ha; cases hb; refine ⟨rfl, ?_⟩; simp [PyData.eqv]; done)
    | (cases ha; cases hb; refine ⟨rfl, ?_⟩; simp only [PyData.eqv]; rename_i p q; by_cases e : p = q <;> simp [e])
    | cases h
def oEqB (f : Bool → Bool) : O2 := fun x y Q _ => match datOf x, datOf y with
  | some a, some b => eqOk a b ∧ Q (.d (.bool (f (PyData.eqv a b))))
  | _, _ => False
abbrev oEq : O2 := oEqB fun b => b
abbrev oNe : O2 := oEqB fun b => !b
def rEqX (K : PySem.W.Frag) : R2 := fun x y H Q => rEq x y H Q ∨ rEqD K x y H Q
def rNeX (K : PySem.W.Frag) : R2 := fun x y H Q => rNe x y H Q ∨ rNeD K x y H Q
theorem op_eqX (hu : X.A.units + 64 < cLine) : OpR X (compareOp .Eq) (rEqX X.K) := op_eq.or (op_eqD hu)
theorem op_neX (hu : X.A.units + 64 < cLine) : OpR X (compareOp .NotEq) (rNeX X.K) := op_ne.or (op_neD hu)
theorem scal_dat {x y : DV} {a b : PyData} (h : scalD a b = true) (e1 : datOf x = some a) (e2 : datOf y = some b) : x = .d a ∧ y = .d b := by
  cases x <;> cases y <;> simp only [datOf, Option.some.injEq] at e1 e2 <;> first
    | (exfalso; cases e1; done)
    | (exfalso; cases e2; done)
    | (subst e1 e2; exact ⟨rfl, rfl⟩)
    | (subst e1 e2; exfalso; revert h; simp only [scalD]; (try split) <;> simp)
theorem od_eq {K : PySem.W.Frag} (hK : Z.K = K) : OpD Z (rEqX K) oEq := fun I H Hs x y v u Qd Ed Q g' ax ay t k => by
  subst hK
  unfold oEq oEqB at t
  split at t
  · rename_i a b e1 e2
    rcases t.1 with sc | ⟨s1, s2⟩
    · obtain ⟨rfl, rfl⟩ := scal_dat sc e1 e2
      obtain ⟨z1, z2⟩ := eqv_scal sc ax ay
      exact .inl ⟨z1, k.now g'.g (by rw [z2]; exact .bl _) t.2⟩
    · exact .inr ⟨a, b, dat_at g'.g ax e1 (SeqAt.canLay_of_shaped s1), dat_at g'.g ay e2 (SeqAt.canLay_of_shaped s2), s1, s2, k.now g'.g (.bl _) t.2⟩
  · exact t.elim
theorem od_ne {K : PySem.W.Frag} (hK : Z.K = K) : OpD Z (rNeX K) oNe := fun I H Hs x y v u Qd Ed Q g' ax ay t k => by
  subst hK
  unfold oNe oEqB at t
  split at t
  · rename_i a b e1 e2
    rcases t.1 with sc | ⟨s1, s2⟩
    · obtain ⟨rfl, rfl⟩ := scal_dat sc e1 e2
      obtain ⟨z1, z2⟩ := eqv_scal sc ax ay
      exact .inl ⟨z1, k.now g'.g (by rw [z2]; exact .bl _) t.2⟩
    · exact .inr ⟨a, b, dat_at g'.g ax e1 (SeqAt.canLay_of_shaped s1), dat_at g'.g ay e2 (SeqAt.canLay_of_shaped s2), s1, s2, k.now g'.g (.bl _) t.2⟩
  · exact t.elim
/-! ### is None; is a bool -/
def isNon : PyData → Bool
  | .none => true
  | _ => false
def oIsN (f : Bool → Bool) : O2 := fun x y Q _ => match x, y with
  | .d a, .d .none => Q (.d (.bool (f (isNon a))))
  | .v _, .d .none => Q (.d (.bool (f false)))
  | _, _ => False
theorem non_iff {K : PySem.W.Frag} {I : Hp} {v : V} {a : PyData} (h : Da K I v a) : decide (v = .non) = isNon a := by
  cases h <;> rfl
theorem od_isN : OpD Z (fun x y H Q => y = .non ∧ Q (.bl (decide (x = .non))) H) (fun x y Q E => (∀ u, x = .v u → u ≠ .non) ∧ oIsN (fun b => b) x y Q E) := fun I H Hs x y v u Qd Ed Q g' ax ay t k => by
  obtain ⟨t0, t⟩ := t
  unfold oIsN at t
  split at t
  · cases ay
    exact ⟨rfl, k.now g'.g (by rw [non_iff ax]; exact .bl _) t⟩
  · cases ay
    have e : v = _ := ax
    subst e
    refine ⟨rfl, k.now g'.g (x := .bool false) ?_ t⟩
    rw [decide_eq_false (t0 _ rfl)]; exact .bl _
  · exact t.elim
theorem od_notN : OpD Z (fun x y H Q => y = .non ∧ Q (.bl (!decide (x = .non))) H) (fun x y Q E => (∀ u, x = .v u → u ≠ .non) ∧ oIsN (fun b => !b) x y Q E) := fun I H Hs x y v u Qd Ed Q g' ax ay t k => by
  obtain ⟨t0, t⟩ := t
  unfold oIsN at t
  split at t
  · cases ay
    exact ⟨rfl, k.now g'.g (by rw [non_iff ax]; exact .bl _) t⟩
  · cases ay
    have e : v = _ := ax
    subst e
    refine ⟨rfl, k.now g'.g (x := .bool true) ?_ t⟩
    rw [decide_eq_false (t0 _ rfl)]; exact .bl _
  · exact t.elim
/-! ### in -/
/-- one sign in a text; a datum in a list or tuple -/
def oInB (f : Bool → Bool) : O2 := fun x y Q _ => match y with
  | .d (.str z) => ∃ c, x = .d (.str ⟨#[c]⟩) ∧ Q (.d (.bool (f (decide (c ∈ z.cps.toList)))))
  | .d (.tuple xs) => ∃ a, datOf x = some a ∧ SeqAt.shaped a = true ∧ SeqAt.shaped (.tuple xs) = true ∧ Q (.d (.bool (f (xs.any fun z => PyData.eqv z a))))
  | y => ∃ a xs, datOf x = some a ∧ lstOf y = some xs ∧ SeqAt.shaped a = true ∧ SeqAt.shaped (.list xs) = true ∧ Q (.d (.bool (f (xs.any fun z => PyData.eqv z a))))
abbrev oIn : O2 := oInB fun b => b
abbrev oNotIn : O2 := oInB fun b => !b
end
end PD
set_option Elab.async false
set_option linter.all false
set_option maxRecDepth 100000
set_option maxHeartbeats 1000000
namespace PD
open PySem PySem.Spec PyProof.Rows L2
section
variable {X : Cx} {Z : Zx} {pos : Pos}
/-! ### in -/
def rInT (K : PySem.W.Frag) (f : Bool → Bool) : R2 := fun x y H Q => ∃ d ds, Dp K H x d ∧ Dp K H y (.tuple ds) ∧ SeqAt.shaped d = true ∧ SeqAt.shaped (.tuple ds) = true ∧ Q (.bl (f (ds.any fun z => PyData.eqv z d))) H
theorem op_inT (hu : X.A.units + 65 < cLine) : OpR X (compareOp .In) (rInT X.K fun b => b) := by
  intro pins s σ H x y v u Q I rx ry h
  obtain ⟨d, ds, hd, he, sd, se, q⟩ := h
  obtain ⟨as, r1⟩ := Dp.reads I d x v hd rx
  obtain ⟨bs, r2⟩ := Dp.reads I (.tuple ds) y u he ry
  exact SeqAt.in_tuple_reads r2 r1 (by simpa [PyData.canLay0] using SeqAt.canLay_of_shaped se) (SeqAt.canLay_of_shaped sd) (room_in_shaped sd hu) ⟨.bl _, H, I, rfl, q⟩
theorem op_notInT (hu : X.A.units + 65 < cLine) : OpR X (compareOp .NotIn) (rInT X.K fun b => !b) := by
  intro pins s σ H x y v u Q I rx ry h
  obtain ⟨d, ds, hd, he, sd, se, q⟩ := h
  obtain ⟨as, r1⟩ := Dp.reads I d x v hd rx
  obtain ⟨bs, r2⟩ := Dp.reads I (.tuple ds) y u he ry
  exact SeqAt.notIn_tuple_reads r2 r1 (by simpa [PyData.canLay0] using SeqAt.canLay_of_shaped se) (SeqAt.canLay_of_shaped sd) (room_in_shaped sd hu) ⟨.bl _, H, I, rfl, q⟩
def rInX (K : PySem.W.Frag) : R2 := fun x y H Q => (∃ (c : Nat) (z : Str), x = .str ⟨#[c]⟩ ∧ y = .str z ∧ Q (.bl (decide (c ∈ z.cps.toList))) H) ∨ rInT K (fun b => b) x y H Q ∨ rInD K x y H Q
def rNotInX (K : PySem.W.Frag) : R2 := fun x y H Q => (∃ (c : Nat) (z : Str), x = .str ⟨#[c]⟩ ∧ y = .str z ∧ Q (.bl (!decide (c ∈ z.cps.toList))) H) ∨ rInT K (fun b => !b) x y H Q ∨ rNotInD K x y H Q
theorem op_inX (hu : X.A.units + 65 < cLine) : OpR X (compareOp .In) (rInX X.K) := op_in_sign.or ((op_inT hu).or (op_inD hu))
theorem op_notInX (hu : X.A.units + 65 < cLine) : OpR X (compareOp .NotIn) (rNotInX X.K) := op_notIn_sign.or ((op_notInT hu).or (op_notInD hu))
theorem lst_dat {y : DV} {xs : List PyData} (h : lstOf y = some xs) : datOf y = some (.list xs) := by
  unfold lstOf at h
  split at h <;> first
    | (cases h; rfl)
    | cases h
theorem od_in {K : PySem.W.Frag} (hK : Z.K = K) : OpD Z (rInX K) oIn := fun I H Hs x y v u Qd Ed Q g' ax ay t k => by
  subst hK
  unfold oIn oInB at t
  split at t
  · obtain ⟨c, rfl, t⟩ := t
    cases ax; cases ay
    exact .inl ⟨c, _, rfl, rfl, k.now g'.g (.bl _) t⟩
  · obtain ⟨a, e1, s1, s2, t⟩ := t
    exact .inr (.inl ⟨_, _, dat_at g'.g ax e1 (SeqAt.canLay_of_shaped s1), dat_at g'.g ay rfl (SeqAt.canLay_of_shaped s2), s1, s2, k.now g'.g (.bl _) t⟩)
  · obtain ⟨a, xs, e1, e2, s1, s2, t⟩ := t
    exact .inr (.inr ⟨_, _, dat_at g'.g ax e1 (SeqAt.canLay_of_shaped s1), dat_at g'.g ay (lst_dat e2) (SeqAt.canLay_of_shaped s2), s1, s2, k.now g'.g (.bl _) t⟩)
theorem od_notIn {K : PySem.W.Frag} (hK : Z.K = K) : OpD Z (rNotInX K) oNotIn := fun I H Hs x y v u Qd Ed Q g' ax ay t k => by
  subst hK
  unfold oNotIn oInB at t
  split at t
  · obtain ⟨c, rfl, t⟩ := t
    cases ax; cases ay
    exact .inl ⟨c, _, rfl, rfl, k.now g'.g (.bl _) t⟩
  · obtain ⟨a, e1, s1, s2, t⟩ := t
    exact .inr (.inl ⟨_, _, dat_at g'.g ax e1 (SeqAt.canLay_of_shaped s1), dat_at g'.g ay rfl (SeqAt.canLay_of_shaped s2), s1, s2, k.now g'.g (.bl _) t⟩)
  · obtain ⟨a, xs, e1, e2, s1, s2, t⟩ := t
    exact .inr (.inr ⟨_, _, dat_at g'.g ax e1 (SeqAt.canLay_of_shaped s1), dat_at g'.g ay (lst_dat e2) (SeqAt.canLay_of_shaped s2), s1, s2, k.now g'.g (.bl _) t⟩)
/-! ### tests -/
/-- what a bool says -/
def bK (Q : Bool → Prop) : DK := fun x => match x with
  | .d (.bool b) => Q b
  | _ => False
theorem bK_at {Hs I H : Hp} {x : DV} {v : V} {Q : Bool → Prop} (a : At Z Hs I H x v) (h : bK Q x) : ∃ b, v = .bl b ∧ x = .d (.bool b) ∧ Q b := by
  unfold bK at h
  split at h
  · cases a
    exact ⟨_, rfl, rfl, h⟩
  · exact h.elim
def dB (t : TD) : TDT := fun δ Q E => t δ (bK Q) E
theorem dt_of {e : Expr} {te : TE} {t : TD} (h : DE X Z e te t) (hp : PE X e te → PT X e (tB te)) : DT X Z e (tB te) (dB t) := by
  refine ⟨hp h.pe, fun I H δ σ Qd Ed Q hh t k => ?_⟩
  refine h.rf I H δ σ _ Ed _ hh t fun x v I1 H1 e1 a1 q1 => ?_
  obtain ⟨b, rfl, _, q⟩ := bK_at a1 q1
  exact ⟨b, rfl, k b I1 H1 e1 q⟩
theorem dt_val {e : Expr} {te : TE} {t : TD} (h : DE X Z e te t) (he : ∀ whole, isTrue e X.env whole = (do let v ← whole; standAt e.pos; holding [v] (truthy v)) := by intro _; rfl) : DT X Z e (tB te) (dB t) := dt_of h fun p => pt_val p he
theorem dt_cmp {a b : Expr} {ta tb : TE} {da db : TD} {r : R2} {o : O2} {op : CmpOp} (h : OpR X (compareOp op) r) (hm : behindInMarks op b = false) (ho : OpD Z r o) (ha : DE X Z a ta da) (hb : DE X Z b tb db) : DT X Z (.Compare a [op] [b] pos) (tB (tOp r ta tb)) (dB (dBin o da db)) :=
  dt_of (de_cmp (pos := pos) h hm ho ha hb) fun p => pt_cmpR h ha.pe hb.pe hm
def dNotT (t : TDT) : TDT := fun δ Q E => t δ (fun b => Q (!b)) E
theorem dt_not {a : Expr} {ta : TT} {da : TDT} (h : DT X Z a ta da) : DT X Z (.UnaryOp .Not a pos) (tNot ta) (dNotT da) :=
  ⟨pt_not h.pt, fun I H δ σ Qd Ed Q hh t k => h.rf I H δ σ _ Ed _ hh t fun b I1 H1 e1 q1 => k (!b) I1 H1 e1 q1⟩
def dAndT (a b : TDT) : TDT := fun δ Q E => a δ (fun c => if c = true then b δ Q E else Q false) E
def dOrT (a b : TDT) : TDT := fun δ Q E => a δ (fun c => if c = true then Q true else b δ Q E) E
theorem dw_and1 {a : Expr} {ta : TT} {da : TDT} (h : DT X Z a ta da) : DW X Z (.BoolOp .And [a] pos) ta da := ⟨pw_and1 h.pt, h.rf⟩
theorem dw_or1 {a : Expr} {ta : TT} {da : TDT} (h : DT X Z a ta da) : DW X Z (.BoolOp .Or [a] pos) ta da := ⟨pw_or1 h.pt, h.rf⟩
theorem dw_and {a b : Expr} {rest : List Expr} {ta tb : TT} {da db : TDT} (h : DT X Z a ta da) (h' : DW X Z (.BoolOp .And (b :: rest) pos) tb db) : DW X Z (.BoolOp .And (a :: b :: rest) pos) (tAnd ta tb) (dAndT da db) := by
  refine ⟨pw_and h.pt h'.pw, fun I H δ σ Qd Ed Q hh t k => h.rf I H δ σ _ Ed _ hh t fun c I1 H1 e1 q1 => ?_⟩
  cases c with
  | true => exact h'.rf I1 H1 δ σ Qd Ed Q (hh.ext e1) q1 (k.ext hh.g e1)
  | false => exact k false I1 H1 e1 q1
theorem dw_or {a b : Expr} {rest : List Expr} {ta tb : TT} {da db : TDT} (h : DT X Z a ta da) (h' : DW X Z (.BoolOp .Or (b :: rest) pos) tb db) : DW X Z (.BoolOp .Or (a :: b :: rest) pos) (tOr ta tb) (dOrT da db) := by
  refine ⟨pw_or h.pt h'.pw, fun I H δ σ Qd Ed Q hh t k => h.rf I H δ σ _ Ed _ hh t fun c I1 H1 e1 q1 => ?_⟩
  cases c with
  | true => exact k true I1 H1 e1 q1
  | false => exact h'.rf I1 H1 δ σ Qd Ed Q (hh.ext e1) q1 (k.ext hh.g e1)
/-! ### and, or, not as values -/
def dAnd (a b : TD) : TD := fun δ Q E => a δ (bK fun c => if c = true then b δ Q E else Q (.d (.bool false))) E
def dOr (a b : TD) : TD := fun δ Q E => a δ (bK fun c => if c = true then Q (.d (.bool true)) else b δ Q E) E
def dNot (a : TD) : TD := fun δ Q E => a δ (bK fun c => Q (.d (.bool (!c)))) E
theorem de_one {a : Expr} {op} {ta : TE} {da : TD} (h : DE X Z a ta da) : DE X Z (.BoolOp op [a] pos) ta da := ⟨pe_one h.pe, h.rf⟩
theorem de_and {a b : Expr} {rest : List Expr} {ta tb : TE} {da db : TD} (h : DE X Z a ta da) (h' : DE X Z (.BoolOp .And (b :: rest) pos) tb db) : DE X Z (.BoolOp .And (a :: b :: rest) pos) (tAndV ta tb) (dAnd da db) := by
  refine ⟨pe_and h.pe h'.pe, fun I H δ σ Qd Ed Q hh t k => h.rf I H δ σ _ Ed _ hh t fun x v I1 H1 e1 a1 q1 => ?_⟩
  obtain ⟨c, rfl, _, q⟩ := bK_at a1 q1
  refine ⟨c, rfl, ?_⟩
  cases c with
  | true => exact h'.rf I1 H1 δ σ Qd Ed Q (hh.ext e1) q (k.ext hh.g e1)
  | false => exact (k.ext hh.g e1).now e1.good (.bl false) q
theorem de_or {a b : Expr} {rest : List Expr} {ta tb : TE} {da db : TD} (h : DE X Z a ta da) (h' : DE X Z (.BoolOp .Or (b :: rest) pos) tb db) : DE X Z (.BoolOp .Or (a :: b :: rest) pos) (tOrV ta tb) (dOr da db) := by
  refine ⟨pe_or h.pe h'.pe, fun I H δ σ Qd Ed Q hh t k => h.rf I H δ σ _ Ed _ hh t fun x v I1 H1 e1 a1 q1 => ?_⟩
  obtain ⟨c, rfl, _, q⟩ := bK_at a1 q1
  refine ⟨c, rfl, ?_⟩
  cases c with
  | true => exact (k.ext hh.g e1).now e1.good (.bl true) q
  | false => exact h'.rf I1 H1 δ σ Qd Ed Q (hh.ext e1) q (k.ext hh.g e1)
theorem de_not {a : Expr} {ta : TE} {da : TD} (h : DE X Z a ta da) : DE X Z (.UnaryOp .Not a pos) (tNotV ta) (dNot da) := by
  refine ⟨pe_not h.pe, fun I H δ σ Qd Ed Q hh t k => h.rf I H δ σ _ Ed _ hh t fun x v I1 H1 e1 a1 q1 => ?_⟩
  obtain ⟨c, rfl, _, q⟩ := bK_at a1 q1
  exact ⟨c, rfl, (k.ext hh.g e1).now e1.good (.bl _) q⟩
def dIf (c : TDT) (a b : TD) : TD := fun δ Q E => c δ (fun z => if z = true then a δ Q E else b δ Q E) E
theorem de_if {c a b : Expr} {tc : TT} {ta tb : TE} {dc : TDT} {da db : TD} (hc : DT X Z c tc dc) (ha : DE X Z a ta da) (hb : DE X Z b tb db) : DE X Z (.IfExp c a b pos) (tIf tc ta tb) (dIf dc da db) := by
  refine ⟨pe_ifExp hc.pt ha.pe hb.pe, fun I H δ σ Qd Ed Q hh t k => hc.rf I H δ σ _ Ed _ hh t fun z I1 H1 e1 q1 => ?_⟩
  cases z with
  | true => exact ha.rf I1 H1 δ σ Qd Ed Q (hh.ext e1) q1 (k.ext hh.g e1)
  | false => exact hb.rf I1 H1 δ σ Qd Ed Q (hh.ext e1) q1 (k.ext hh.g e1)
/-- a < b < c -/
def dChain (o o' : O2) (a b c : TD) : TD := fun δ Q E => a δ (fun x => b δ (fun y => o x y (bK fun k => if k = true then c δ (fun z => o' y z Q E) E else Q (.d (.bool false))) E) E) E
theorem de_chain {a b c : Expr} {ta tb tc : TE} {da db dc : TD} {op op' : CmpOp} {r r' : R2} {o o' : O2} (h : OpR X (compareOp op) r) (h' : OpR X (compareOp op') r') (ho : OpD Z r o) (ho' : OpD Z r' o') (ha : DE X Z a ta da) (hb : DE X Z b tb db) (hc : DE X Z c tc dc)
    (hm : lastMarks [op, op'] [b, c] = false := by with_unfolding_all rfl) : DE X Z (.Compare a [op, op'] [b, c] pos) (tChain r r' ta tb tc) (dChain o o' da db dc) := by
  refine ⟨pe_chain h h' ha.pe hb.pe hc.pe hm, fun I H δ σ Qd Ed Q hh t k => ?_⟩
  refine ha.rf I H δ σ _ Ed _ hh t fun x v I1 H1 e1 a1 q1 => ?_
  have h1 := hh.ext e1
  refine hb.rf I1 H1 δ σ _ Ed _ h1 q1 fun y u I2 H2 e2 a2 q2 => ?_
  have h2 := h1.ext e2
  have k2 := (k.ext hh.g e1).ext h1.g e2
  have a2' : At Z H I2 H2 y u := a2.since fun _ z => e1.none hh.g z
  refine ho I2 H2 H x y v u _ Ed _ ⟨h2.g, h2.old⟩ (a1.ext e2) a2' q2 fun z zv I3 H3 e3 a3 q3 => ?_
  have h3 := h2.ext e3
  have k3 := k2.ext h2.g e3
  obtain ⟨b, rfl, _, q⟩ := bK_at a3 q3
  refine ⟨b, rfl, ?_⟩
  cases b with
  | false => exact k3.now h3.g (.bl false) q
  | true =>
    refine hc.rf I3 H3 δ σ _ Ed _ h3 q fun z zv I4 H4 e4 a4 q4 => ?_
    have h4 := h3.ext e4
    have e13 := (e1.trans hh.g e2).trans hh.g e3
    exact ho' I4 H4 H y z u zv Qd Ed Q ⟨h4.g, h4.old⟩ ((a2'.ext e3).ext e4) (a4.since fun _ z => e13.none hh.g z) q4 (k3.ext h3.g e4)
/-! ### displays -/
def dNil : TDA := fun _ Q _ => Q []
def dCons (a : TD) (r : TDA) : TDA := fun δ Q E => a δ (fun x => r δ (fun xs => Q (froz x :: xs)) E) E
theorem da_nil : DA X Z [] tNil dNil := ⟨pa_nil, fun I H δ σ Qd Ed Q hh t k => k [] [] I H (Ext.refl hh.g) .nil t⟩
theorem da_cons {e : Expr} {es : List Expr} {te : TE} {ta : TA} {de : TD} {dr : TDA} (h : DE X Z e te de) (h' : DA X Z es ta dr) (hs : starEach (e :: es) X.env = (false, eval e X.env) :: starEach es X.env := by rfl) : DA X Z (e :: es) (tCons te ta) (dCons de dr) := by
  refine ⟨pa_cons h.pe h'.pa hs, fun I H δ σ Qd Ed Q hh t k => ?_⟩
  refine h.rf I H δ σ _ Ed _ hh t (Then.frz (Qd := fun x => dr δ (fun xs => Qd (x :: xs)) Ed) fun x v I1 H1 e1 a1 q1 => ?_)
  refine h'.rf I1 H1 δ σ _ Ed _ (hh.ext e1) q1 fun xs vs I2 H2 e2 a2 q2 => ?_
  exact k (x :: xs) (v :: vs) I2 H2 (e1.trans hh.g e2) (.cons (a1.ext e2) (a2.since fun _ z => e1.none hh.g z)) q2
/-- all are data -/
def datAll : List DV → Option (List PyData)
  | [] => some []
  | .d x :: r => (datAll r).map (x :: ·)
  | _ :: _ => none
theorem datAll_at {Hs I H : Hp} : ∀ {xs : List DV} {vs : List V} {ds : List PyData}, AtAll Z Hs I H xs vs → datAll xs = some ds → DaAll Z.K I vs ds
  | _, _, _, .nil, h => by cases h; exact .nil
  | _, _, _, .cons (x := x) a t, h => by
    cases x with
    | d x =>
      simp only [datAll] at h
      obtain ⟨es, h1, rfl⟩ := Option.map_eq_some_iff.mp h
      exact .cons a (datAll_at t h1)
    | _ => cases h
def datK (Q : List PyData → Prop) : List DV → Prop := fun xs => match datAll xs with
  | some ds => Q ds
  | none => False
def dTup (t : TDA) : TD := fun δ Q E => t δ (datK fun ds => ds.length ≤ sizeLine ∧ Q (.d (.tuple ds))) E
def dLst (t : TDA) : TD := fun δ Q E => t δ (datK fun ds => ds.length ≤ sizeLine ∧ Q (.new ds)) E
theorem de_tup {es : List Expr} {ta : TA} {da : TDA} {x1} (h : DA X Z es ta da) : DE X Z (.Tuple es x1 pos) (tTup ta) (dTup da) := by
  refine ⟨pe_tup h.pa, fun I H δ σ Qd Ed Q hh t k => h.rf I H δ σ _ Ed _ hh t fun xs vs I1 H1 e1 a1 q1 => ?_⟩
  unfold datK at q1
  split at q1
  · rename_i ds e
    have a := datAll_at a1 e
    have l := a.len
    exact ⟨by omega, (k.ext hh.g e1).tup e1.good a (by omega) q1.2⟩
  · exact q1.elim
theorem de_lst {es : List Expr} {ta : TA} {da : TDA} (h : DA X Z es ta da) : DE X Z (.List es pos) (tLst ta) (dLst da) := by
  refine ⟨pe_lst h.pa, fun I H δ σ Qd Ed Q hh t k => h.rf I H δ σ _ Ed _ hh t fun xs vs I1 H1 e1 a1 q1 => ?_⟩
  unfold datK at q1
  split at q1
  · rename_i ds e
    have a := datAll_at a1 e
    have l := a.len
    exact ⟨by omega, (k.ext hh.g e1).new e1.good (hh.ext e1).old a (by omega) q1.2⟩
  · exact q1.elim
/-! ### subscripts -/
theorem DaAll.atI {K : PySem.W.Frag} {H : Hp} {vs : List V} {ds : List PyData} {i : Int} {d : PyData} (h : DaAll K H vs ds) (e : atI ds i = some d) : ∃ v, L2.atI vs i = some v ∧ Da K H v d := by
  unfold L2.atI at e ⊢
  rw [h.len]
  obtain ⟨j, e1, e2⟩ := Option.bind_eq_some_iff.mp e
  obtain ⟨v, h1, h2⟩ := h.get e2
  exact ⟨v, by rw [e1]; exact h1, h2⟩
def oIx : O2 := fun x y Q _ => match y with
  | .d (.int i) => match x with
    | .d (.str z) => z.length ≤ sizeLine ∧ ∃ c, atI z.cps.toList i = some c ∧ Q (.d (.str ⟨#[c]⟩))
    | .d (.tuple xs) => ∃ d, atI xs i = some d ∧ Q (.d d)
    | x => ∃ xs d, lstOf x = some xs ∧ atI xs i = some d ∧ Q (.d d)
  | _ => False
theorem od_ix {K : PySem.W.Frag} (hK : Z.K = K) : OpD Z (rIx K) oIx := fun I H Hs x y v u Qd Ed Q g' ax ay t k => by
  subst hK
  unfold oIx at t
  split at t
  · cases ay
    split at t
    · cases ax
      obtain ⟨hz, c, e, t⟩ := t
      exact .inr (.inr ⟨_, _, c, rfl, rfl, hz, e, k.now g'.g (.str _) t⟩)
    · obtain ⟨d, e, t⟩ := t
      obtain ⟨p, vs, rfl, h1, h1', h2⟩ := tup_at g'.g ax
      obtain ⟨v, e2, a2⟩ := DaAll.atI h2 e
      exact .inr (.inl ⟨p, vs, _, v, rfl, rfl, h1', e2, k.now g'.g a2 t⟩)
    · obtain ⟨xs, d, e1, e, t⟩ := t
      obtain ⟨p, vs, rfl, h1, h2, _⟩ := lst_at g'.g ax e1
      obtain ⟨v, e2, a2⟩ := DaAll.atI h2 e
      exact .inl ⟨p, vs, _, v, rfl, rfl, SqL.of h1, e2, k.now g'.g a2 t⟩
  · exact t.elim
theorem de_ix' {a b : Expr} {ta tb : TE} {da db : TD} (ha : DE X Z a ta da) (hb : DE X Z b tb db) (hs : PlainIx b) (hK : Z.K = X.K) : DE X Z (.Subscript a b pos) (tOp (rIx X.K) ta tb) (dBin oIx da db) :=
  de_tOp (fun p q => pe_ix ix_seq p q hs) (od_ix hK) ha hb
theorem de_ix {a b : Expr} {ta tb : TE} {da db : TD} (ha : DE X Z a ta da) (hb : DE X Z b tb db) (hs : PlainIx b) (hK : Z.K = X.K) : DE X Z (.Subscript a b pos) (tOp (rIx Z.K) ta tb) (dBin oIx da db) := by rw [hK]; exact de_ix' ha hb hs hK
/-! ### slices -/
def cut {α : Type} (xs : List α) (lo hi : Option Int) : List α := (xs.drop (HT.sIx xs.length 0 lo)).take (HT.sIx xs.length xs.length hi - HT.sIx xs.length 0 lo)
theorem DaAll.cut {K : PySem.W.Frag} {H : Hp} {vs : List V} {ds : List PyData} (h : DaAll K H vs ds) (lo hi : Option Int) : DaAll K H (cutV vs lo hi) (PD.cut ds lo hi) := by
  unfold cutV PD.cut
  rw [h.len]
  exact (h.drop _).take _
theorem cut_len {α : Type} (xs : List α) (lo hi : Option Int) : (cut xs lo hi).length ≤ xs.length := by
  unfold cut
  rw [List.length_take, List.length_drop]
  omega
theorem cut_all {α : Type} {xs : List α} {lo hi : Option Int} (h : HT.sIx xs.length 0 lo = 0 ∧ HT.sIx xs.length xs.length hi = xs.length) : cut xs lo hi = xs := by
  unfold cut
  rw [h.1, h.2, List.drop_zero, Nat.sub_zero, List.take_length]
def rSlX (K : PySem.W.Frag) : V → Option Int → Option Int → Hp → VK → Prop := fun x lo hi H Q => rSlL K x lo hi H Q ∨ rSlA K x lo hi H Q ∨ rSlS x lo hi H Q
theorem sl_x : SlR X (rSlX X.K) := sl_list.or (sl_tupA.or sl_str)
def oSl (x : DV) (lo hi : Option Int) (Q : DK) : Prop := match x with
  | .d (.str z) => z.length ≤ sizeLine ∧ Q (.d (.str (cutS z lo hi)))
  | .d (.tuple xs) => Q (.d (.tuple (cut xs lo hi)))
  | x => ∃ xs, lstOf x = some xs ∧ Q (.new (cut xs lo hi))
theorem od_sl {K : PySem.W.Frag} (hK : Z.K = K) {I H Hs : Hp} {x : DV} {v : V} {lo hi : Option Int} {Qd : DK} {Q : VK} (g' : At2 Z I H) (ax : At Z Hs I H x v) (t : oSl x lo hi Qd) (k : Then Z I H Qd Q) : rSlX K v lo hi H Q := by
  subst hK
  unfold oSl at t
  split at t
  · cases ax
    exact .inr (.inr ⟨_, rfl, t.1, k.now g'.g (.str _) t.2⟩)
  · obtain ⟨p, vs, rfl, h1, h1', h2⟩ := tup_at g'.g ax
    have l := h2.len
    have lz := tup_len g'.g h1
    refine .inr (.inl ⟨p, vs, rfl, h1', fun e => ?_, fun _ => ?_⟩)
    · rw [l] at e
      rw [cut_all e] at t
      exact k.now g'.g ax t
    · exact k.tup g'.g (h2.cut lo hi) (Nat.le_trans (cutV_length _ _ _) lz) t
  · obtain ⟨xs, e1, t⟩ := t
    obtain ⟨p, vs, rfl, h1, h2, h3⟩ := lst_at g'.g ax e1
    exact .inl ⟨p, vs, rfl, SqL.of h1, k.new g'.g g'.old (h2.cut lo hi) (Nat.le_trans (cutV_length _ _ _) h3) t⟩
abbrev TDO := DEnv → (Option Int → Prop) → EK → Prop
structure DO (X : Cx) (Z : Zx) (e : Option Expr) (te : TO) (t : TDO) : Prop where
  po : PO X e te
  rf : ∀ I H δ σ Qd Ed Q, Here Z I H δ σ Ed → t δ Qd Ed → (∀ i I' H', Ext Z.R I H I' H' → Qd i → Q i H') → te σ H Q
def dNoPart : TDO := fun _ Q _ => Q none
def dPart (t : TD) : TDO := fun δ Q E => t δ (fun x => match x with | .d (.int i) => Q (some i) | _ => False) E
theorem do_none : DO X Z none tNoPart dNoPart := ⟨po_none, fun I H δ σ Qd Ed Q hh t k => k none I H (Ext.refl hh.g) t⟩
theorem do_some {e : Expr} {te : TE} {t : TD} (h : DE X Z e te t) : DO X Z (some e) (tPart te) (dPart t) := by
  refine ⟨po_some h.pe, fun I H δ σ Qd Ed Q hh t k => h.rf I H δ σ _ Ed _ hh t fun x v I1 H1 e1 a1 q1 => ?_⟩
  split at q1
  · cases a1
    exact ⟨_, rfl, k _ I1 H1 e1 q1⟩
  · exact q1.elim
def dSl (a : TD) (lo hi : TDO) : TD := fun δ Q E => a δ (fun x => lo δ (fun l => hi δ (fun h => oSl x l h Q) E) E) E
theorem de_slice' {e : Expr} {lo hi : Option Expr} {p2 : Pos} {te : TE} {tl th : TO} {d : TD} {dl dh : TDO} (ha : DE X Z e te d) (hl : DO X Z lo tl dl) (hh' : DO X Z hi th dh) (hK : Z.K = X.K) : DE X Z (.Subscript e (.Slice lo hi none p2) pos) (tSl (rSlX X.K) te tl th) (dSl d dl dh) := by
  refine ⟨pe_slice sl_x ha.pe hl.po hh'.po, fun I H δ σ Qd Ed Q hh t k => ha.rf I H δ σ _ Ed _ hh t fun x v I1 H1 e1 a1 q1 => ?_⟩
  refine hl.rf I1 H1 δ σ _ Ed _ (hh.ext e1) q1 fun l I2 H2 e2 q2 => ?_
  refine hh'.rf I2 H2 δ σ _ Ed _ ((hh.ext e1).ext e2) q2 fun u I3 H3 e3 q3 => ?_
  have h3 := ((hh.ext e1).ext e2).ext e3
  exact od_sl hK ⟨h3.g, h3.old⟩ ((a1.ext e2).ext e3) q3 (((k.ext hh.g e1).ext e1.good e2).ext e2.good e3)
theorem de_slice {e : Expr} {lo hi : Option Expr} {p2 : Pos} {te : TE} {tl th : TO} {d : TD} {dl dh : TDO} (ha : DE X Z e te d) (hl : DO X Z lo tl dl) (hh' : DO X Z hi th dh) (hK : Z.K = X.K) : DE X Z (.Subscript e (.Slice lo hi none p2) pos) (tSl (rSlX Z.K) te tl th) (dSl d dl dh) := by rw [hK]; exact de_slice' ha hl hh' hK
end
end PD
set_option Elab.async false
set_option linter.all false
set_option maxRecDepth 100000
set_option maxHeartbeats 1000000
namespace PD
open PySem PySem.Spec PyProof.Rows L2
section
variable {X : Cx} {Z : Zx} {pos p apos : Pos} {x : Str} {e : Expr} {es : List Expr} {ta : TA} {da : TDA}
/-! ### calls of what is built in -/
abbrev OC := List DV → DK → EK → Prop
def CallD (Z : Zx) (r : List V → Hp → VK → Prop) (o : OC) : Prop := ∀ I H Hs xs vs Qd Ed Q, At2 Z I H → AtAll Z Hs I H xs vs → o xs Qd Ed → Then Z I H Qd Q → r vs H Q
def dCall (o : OC) (a : TDA) : TD := fun δ Q E => a δ (fun xs => o xs Q E) E
theorem de_tCB {r : List V → Hp → VK → Prop} {o : OC} {ex : Expr} (h : PA X es ta → PE X ex (tCB r ta)) (ho : CallD Z r o) (ha : DA X Z es ta da) : DE X Z ex (tCB r ta) (dCall o da) := by
  refine ⟨h ha.pa, fun I H δ σ Qd Ed Q hh t k => ha.rf I H δ σ _ Ed _ hh t fun xs vs I1 H1 e1 a1 q1 => ?_⟩
  have h1 := hh.ext e1
  exact ho I1 H1 H xs vs Qd Ed Q ⟨h1.g, h1.old⟩ a1 q1 (k.ext hh.g e1)
theorem de_callB {id : String} {r : List V → Hp → VK → Prop} {o : OC} (hc : CallR X (.builtin id) r) (ho : CallD Z r o) (hg : Gl X x) (hm : X.mg x = none) (hv : bootBuiltins x = some (.builtin id)) (ha : DA X Z (e :: es) ta da) (hn : x ≠ "__name__" := by decide) (hdb : (x == ("__debug__" : Str)) = false := by decide)
    (he : starEach (e :: es) X.env = (false, eval e X.env) :: starEach es X.env := by rfl) (hpl : (backTo pos (starEach es X.env)).any (·.1) = false := by rfl) : DE X Z (.Call (.Name x p) (e :: es) [] pos) (tCB r ta) (dCall o da) :=
  de_tCB (fun q => pe_callB hc hg hm hv q hn hdb he hpl) ho ha
theorem de_callTy {T : String} {r : List V → Hp → VK → Prop} {o : OC} (hc : CallR X (.type T) r) (ho : CallD Z r o) (hg : Gl X x) (hm : X.mg x = none) (hv : bootBuiltins x = some (.type T)) (ha : DA X Z (e :: es) ta da) (hn : x ≠ "__name__" := by decide) (hdb : (x == ("__debug__" : Str)) = false := by decide)
    (he : starEach (e :: es) X.env = (false, eval e X.env) :: starEach es X.env := by rfl) (hpl : (backTo pos (starEach es X.env)).any (·.1) = false := by rfl) : DE X Z (.Call (.Name x p) (e :: es) [] pos) (tCB r ta) (dCall o da) :=
  de_tCB (fun q => pe_callTy hc hg hm hv q hn hdb he hpl) ho ha
/-- one argument -/
def o1 (o : O1) : OC := fun xs Q E => match xs with
  | [x] => o x Q E
  | _ => False
theorem at1 {Hs I H : Hp} {x : DV} {vs : List V} (h : AtAll Z Hs I H [x] vs) : ∃ v, vs = [v] ∧ At Z Hs I H x v := by
  cases h with
  | cons a t => cases t; exact ⟨_, rfl, a⟩
theorem at2 {Hs I H : Hp} {x y : DV} {vs : List V} (h : AtAll Z Hs I H [x, y] vs) : ∃ v u, vs = [v, u] ∧ At Z Hs I H x v ∧ At Z Hs I H y u := by
  cases h with
  | cons a t =>
    obtain ⟨u, rfl, b⟩ := at1 t
    exact ⟨_, u, rfl, a, b⟩
/-- len -/
def oLen : OC := fun xs Q _ => match xs with
  | [.d (.str z)] => z.length ≤ sizeLine ∧ Q (.d (.int z.length))
  | [.d (.tuple xs)] => Q (.d (.int xs.length))
  | [x] => ∃ xs, lstOf x = some xs ∧ Q (.d (.int xs.length))
  | _ => False
theorem cd_len {K : PySem.W.Frag} (hK : Z.K = K) : CallD Z (fun xs H Q => ∃ x n, xs = [x] ∧ LenV K x H n ∧ Q (.int n) H) oLen := fun I H Hs xs vs Qd Ed Q g' a t k => by
  subst hK
  unfold oLen at t
  split at t
  · obtain ⟨v, rfl, a'⟩ := at1 a
    cases a'
    exact ⟨.str _, _, rfl, show _ ≤ sizeLine ∧ _ = _ from ⟨t.1, rfl⟩, k.now g'.g (.int _) t.2⟩
  · obtain ⟨v, rfl, a'⟩ := at1 a
    obtain ⟨q, us, rfl, h1, h1', h2⟩ := tup_at g'.g a'
    exact ⟨.ref q, us.length, rfl, .inr ⟨us, h1', rfl⟩, k.now g'.g (by rw [h2.len]; exact .int _) t⟩
  · obtain ⟨v, rfl, a'⟩ := at1 a
    obtain ⟨xs, e1, t⟩ := t
    obtain ⟨q, us, rfl, h1, h2, _⟩ := lst_at g'.g a' e1
    exact ⟨.ref q, us.length, rfl, .inl ⟨us, SqL.of h1, rfl⟩, k.now g'.g (by rw [h2.len]; exact .int _) t⟩
  · exact t.elim
/-- list(x) -/
def seqOf : DV → Option (List PyData)
  | .d (.tuple xs) => some xs
  | x => lstOf x
theorem seq_at {Hs I H : Hp} {x : DV} {v : V} {xs : List PyData} (g : Good Z.R I H) (a : At Z Hs I H x v) (h : seqOf x = some xs) : ∃ q us, v = .ref q ∧ (SqL Z.K H q us ∨ SqT Z.K H q us) ∧ DaAll Z.K I us xs ∧ us.length ≤ sizeLine := by
  unfold seqOf at h
  split at h
  · cases h
    obtain ⟨q, us, rfl, h1, h1', h2⟩ := tup_at g a
    exact ⟨q, us, rfl, .inr h1', h2, tup_len g h1⟩
  · obtain ⟨q, us, rfl, h1, h2, h3⟩ := lst_at g a h
    exact ⟨q, us, rfl, .inl (SqL.of h1), h2, h3⟩
def oList : OC := fun xs Q _ => match xs with
  | [x] => ∃ xs, seqOf x = some xs ∧ Q (.new xs)
  | _ => False
theorem cd_list {K : PySem.W.Frag} (hK : Z.K = K) : CallD Z (fun xs H Q => ∃ p ys, xs = [.ref p] ∧ (SqL K H p ys ∨ SqT K H p ys) ∧ ∀ l, H l = none → Q (.ref l) (upd H l (.lst ys))) oList := fun I H Hs xs vs Qd Ed Q g' a t k => by
  subst hK
  unfold oList at t
  split at t
  · obtain ⟨v, rfl, a'⟩ := at1 a
    obtain ⟨xs, e1, t⟩ := t
    obtain ⟨q, us, rfl, h1, h2, h3⟩ := seq_at g'.g a' e1
    exact ⟨q, us, rfl, h1, k.new g'.g g'.old h2 h3 t⟩
  · exact t.elim
def oTuple : OC := fun xs Q _ => match xs with
  | [x] => ∃ xs, seqOf x = some xs ∧ Q (.d (.tuple xs))
  | _ => False
theorem cd_tuple {K : PySem.W.Frag} (hK : Z.K = K) : CallD Z (fun xs H Q => ∃ p ys, xs = [.ref p] ∧ ((SqL K H p ys ∧ ∀ l, H l = none → Q (.ref l) (upd H l (.tup ys))) ∨ (SqT K H p ys ∧ Q (.ref p) H))) oTuple := fun I H Hs xs vs Qd Ed Q g' a t k => by
  subst hK
  unfold oTuple at t
  split at t
  · obtain ⟨v, rfl, a'⟩ := at1 a
    obtain ⟨xs, e1, t⟩ := t
    unfold seqOf at e1
    split at e1
    · cases e1
      obtain ⟨q, us, rfl, h1, h1', h2⟩ := tup_at g'.g a'
      exact ⟨q, us, rfl, .inr ⟨h1', k.now g'.g a' t⟩⟩
    · obtain ⟨q, us, rfl, h1, h2, h3⟩ := lst_at g'.g a' e1
      exact ⟨q, us, rfl, .inl ⟨SqL.of h1, k.tup g'.g h2 h3 t⟩⟩
  · exact t.elim
/-- str(x) -/
def oStr : OC := fun xs Q _ => match xs with
  | [.d (.int i)] => i.natAbs.log2 < 1920 ∧ Q (.d (.str (toString i)))
  | [.d (.str z)] => Q (.d (.str z))
  | _ => False
theorem CallR.or {f : Value} {r r' : List V → Hp → VK → Prop} (h : CallR X f r) (h' : CallR X f r') : CallR X f (fun xs H Q => r xs H Q ∨ r' xs H Q) := fun pins s σ H vs us Q I r1 q => by
  rcases q with q | q
  · exact h pins s σ H vs us Q I r1 q
  · exact h' pins s σ H vs us Q I r1 q
def rStr : List V → Hp → VK → Prop := fun xs H Q => (∃ i, xs = [.int i] ∧ i.natAbs.log2 < 1920 ∧ Q (.str (toString i)) H) ∨ ∃ a, xs = [.str a] ∧ Q (.str a) H
theorem call_strX : CallR X (.type "str") rStr := CallR.or call_str_int SkE.call_str_str
theorem cd_str : CallD Z rStr oStr := fun I H Hs xs vs Qd Ed Q g' a t k => by
  unfold oStr at t
  split at t
  · obtain ⟨v, rfl, a'⟩ := at1 a
    cases a'
    exact .inl ⟨_, rfl, t.1, k.now g'.g (.str _) t.2⟩
  · obtain ⟨v, rfl, a'⟩ := at1 a
    cases a'
    exact .inr ⟨_, rfl, k.now g'.g (.str _) t⟩
  · exact t.elim
/-- int(text) -/
def oIntS : OC := fun xs Q _ => match xs with
  | [.d (.str z)] => ∃ n, PySem.intText? z = some n ∧ z.length ≤ 640 ∧ Q (.d (.int n))
  | _ => False
theorem cd_intS : CallD Z (fun xs H Q => ∃ a n, xs = [.str a] ∧ PySem.intText? a = some n ∧ a.length ≤ 640 ∧ Q (.int n) H) oIntS := fun I H Hs xs vs Qd Ed Q g' a t k => by
  unfold oIntS at t
  split at t
  · obtain ⟨v, rfl, a'⟩ := at1 a
    obtain ⟨n, h1, h2, t⟩ := t
    cases a'
    exact ⟨_, n, rfl, h1, h2, k.now g'.g (.int _) t⟩
  · exact t.elim
/-- all, any of a list of bools -/
def boolsOf : List PyData → Option (List Bool)
  | [] => some []
  | .bool b :: r => (boolsOf r).map (b :: ·)
  | _ :: _ => none
theorem bools_at {K : PySem.W.Frag} {I : Hp} : ∀ {vs : List V} {ds : List PyData} {bs : List Bool}, DaAll K I vs ds → boolsOf ds = some bs → vs = bs.map V.bl
  | _, _, _, .nil, h => by cases h; rfl
  | _, _, _, .cons (d := d) a t, h => by
    cases d with
    | bool b =>
      simp only [boolsOf] at h
      obtain ⟨es, h1, rfl⟩ := Option.map_eq_some_iff.mp h
      cases a
      rw [bools_at t h1]
      rfl
    | _ => cases h
def oBools (f : List Bool → Bool) : OC := fun xs Q _ => match xs with
  | [x] => ∃ xs bs, lstOf x = some xs ∧ boolsOf xs = some bs ∧ Q (.d (.bool (f bs)))
  | _ => False
theorem cd_all {K : PySem.W.Frag} (hK : Z.K = K) : CallD Z (rAll K) (oBools fun bs => bs.all id) := fun I H Hs xs vs Qd Ed Q g' a t k => by
  subst hK
  unfold oBools at t
  split at t
  · obtain ⟨v, rfl, a'⟩ := at1 a
    obtain ⟨xs, bs, e1, e2, t⟩ := t
    obtain ⟨q, us, rfl, h1, h2, h3⟩ := lst_at g'.g a' e1
    have e3 := bools_at h2 e2
    subst e3
    exact ⟨q, bs, rfl, SqL.of h1, k.now g'.g (.bl _) t⟩
  · exact t.elim
theorem cd_any {K : PySem.W.Frag} (hK : Z.K = K) : CallD Z (rAny K) (oBools fun bs => bs.any id) := fun I H Hs xs vs Qd Ed Q g' a t k => by
  subst hK
  unfold oBools at t
  split at t
  · obtain ⟨v, rfl, a'⟩ := at1 a
    obtain ⟨xs, bs, e1, e2, t⟩ := t
    obtain ⟨q, us, rfl, h1, h2, h3⟩ := lst_at g'.g a' e1
    have e3 := bools_at h2 e2
    subst e3
    exact ⟨q, bs, rfl, SqL.of h1, k.now g'.g (.bl _) t⟩
  · exact t.elim
/-- min, max, abs of ints -/
def oInt2 (g : Int → Int → Int) : OC := fun xs Q _ => match xs with
  | [.d (.int i), .d (.int j)] => Q (.d (.int (g i j)))
  | _ => False
theorem cd_int2 {g : Int → Int → Int} : CallD Z (fun xs H Q => ∃ i j, xs = [.int i, .int j] ∧ Q (.int (g i j)) H) (oInt2 g) := fun I H Hs xs vs Qd Ed Q g' a t k => by
  unfold oInt2 at t
  split at t
  · obtain ⟨v, u, rfl, a', b'⟩ := at2 a
    cases a'; cases b'
    exact ⟨_, _, rfl, k.now g'.g (.int _) t⟩
  · exact t.elim
/-! ### isinstance -/
def tyD : PyData → String
  | .none => "NoneType"
  | .bool _ => "bool"
  | .int _ => "int"
  | .str _ => "str"
  | .list _ => "list"
  | .tuple _ => "tuple"
  | .dict _ => "dict"
def isT (a b : String) : Bool := a == b || (a == "bool" && b == "int")
theorem kit_isT {T : String} (hT : T = "str" ∨ T = "int" ∨ T = "bool" ∨ T = "list" ∨ T = "tuple") (d : PyData) : kitB (tyD d) T = some (isT (tyD d) T) := by
  have all : ∀ a ∈ ["NoneType", "bool", "int", "str", "list", "tuple", "dict"], ∀ b ∈ ["str", "int", "bool", "list", "tuple"], kitB a b = some (isT a b) := by decide +kernel
  refine all _ ?_ _ ?_
  · cases d <;> simp [tyD]
  · rcases hT with rfl | rfl | rfl | rfl | rfl <;> simp
theorem ty_at {Hs I H : Hp} {x : DV} {v : V} {d : PyData} (g : Good Z.R I H) (a : At Z Hs I H x v) (h : datOf x = some d) : TyX Z.K H v (.type (tyD d)) := by
  unfold datOf at h
  split at h
  · cases h
    have a := da_mono g.sub _ _ a
    cases a with
    | non => exact .base .non
    | bl b => exact .base (.bl b)
    | int i => exact .base (.int i)
    | str x => exact .base (.str x)
    | lst h1 _ => exact .base (.lst h1)
    | tup h1 _ =>
      rcases h1 with (h1 | ⟨o, h1⟩) | ⟨o, its, n, h1, h2, _⟩
      · exact .base (.tup h1)
      · exact .fTuple h1
      · exact .kTuple h1 h2
    | dct h1 => exact .base (.dK h1)
  · cases h
    obtain ⟨⟨q, us, rfl, h1, _⟩, _⟩ := a
    exact .base (.lst h1)
  · cases h
    obtain ⟨⟨q, us, rfl, h1, _⟩, _⟩ := a
    exact .base (.lst h1)
  · cases h
def tyOk (T : String) : Prop := T = "str" ∨ T = "int" ∨ T = "bool" ∨ T = "list" ∨ T = "tuple"
def oIsi : OC := fun xs Q _ => match xs with
  | [x, .v (.ty T)] => ∃ d, datOf x = some d ∧ tyOk T ∧ Q (.d (.bool (isT (tyD d) T)))
  | _ => False
theorem cd_isi {K : PySem.W.Frag} (hK : Z.K = K) : CallD Z (rIsi K) oIsi := fun I H Hs xs vs Qd Ed Q g' a t k => by
  subst hK
  unfold oIsi at t
  split at t
  · obtain ⟨v, u, rfl, a', b'⟩ := at2 a
    obtain ⟨d, e1, hT, t⟩ := t
    have e : u = _ := b'
    subst e
    exact ⟨v, _, _, _, _, rfl, .ty _, ty_at g'.g a' e1, kit_ty (kit_isT hT d), k.now g'.g (.bl _) t⟩
  · exact t.elim
/-- isinstance(x, (T, U)) -/
def dIsi2 (T U : String) (t : TD) : TD := fun δ Q E => t δ (fun x => ∃ d, datOf x = some d ∧ tyOk T ∧ tyOk U ∧ Q (.d (.bool (isT (tyD d) T || isT (tyD d) U)))) E
theorem de_isi2' {a : Expr} {te : TE} {t : TD} {n1 n2 : Str} {T U : String} {p1 p2 p3 : Pos} {kk} (h : DE X Z a te t) (hK : Z.K = X.K) (hg : Gl X "isinstance") (hm : X.mg "isinstance" = none)
    (h1 : PE X (.Name n1 p1) (tC (.ty T))) (h2 : PE X (.Name n2 p2) (tC (.ty U)))
    (he : starEach [a, .Tuple [.Name n1 p1, .Name n2 p2] kk p3] X.env = (false, eval a X.env) :: starEach [.Tuple [.Name n1 p1, .Name n2 p2] kk p3] X.env := by rfl) (hpl : (backTo pos (starEach [.Tuple [.Name n1 p1, .Name n2 p2] kk p3] X.env)).any (·.1) = false := by rfl)
    (hs1 : starEach [.Tuple [.Name n1 p1, .Name n2 p2] kk p3] X.env = (false, eval (.Tuple [.Name n1 p1, .Name n2 p2] kk p3) X.env) :: starEach [] X.env := by rfl)
    (hs2 : starEach [.Name n1 p1, .Name n2 p2] X.env = (false, eval (.Name n1 p1) X.env) :: starEach [.Name n2 p2] X.env := by rfl) (hs3 : starEach [.Name n2 p2] X.env = (false, eval (.Name n2 p2) X.env) :: starEach [] X.env := by rfl) :
    DE X Z (.Call (.Name "isinstance" p) [a, .Tuple [.Name n1 p1, .Name n2 p2] kk p3] [] pos) (tCB (rIsiT X.K) (tCons te (tCons (tTup (tCons (tC (.ty T)) (tCons (tC (.ty U)) tNil))) tNil))) (dIsi2 T U t) := by
  refine ⟨pe_callB call_isiT hg hm (by decide +kernel) (pa_cons h.pe (pa_cons (pe_tup (pa_cons h1 (pa_cons h2 pa_nil hs3) hs2)) pa_nil hs1) he) (by decide) (by decide) he hpl, fun I H δ σ Qd Ed Q hh t0 k => ?_⟩
  refine h.rf I H δ σ _ Ed _ hh t0 fun x v I1 H1 e1 a1 q1 => ?_
  obtain ⟨d, e2, hT, hU, q⟩ := q1
  have h1' := hh.ext e1
  show 2 ≤ sizeLine ∧ _
  refine ⟨by decide, fun q0 hq => ?_⟩
  have ex := ext_own (o := .tup [V.ty T, V.ty U]) h1'.g hq
  refine ⟨v, q0, [V.ty T, V.ty U], .type (tyD d), [.type T, .type U], isT (tyD d) T || isT (tyD d) U, rfl, upd_same, .cons (.ty _) (.cons (.ty _) .nil), ?_, ?_, (k.ext hh.g e1).ext h1'.g ex |>.now ex.good (.bl _) q⟩
  · rw [← hK]
    exact ty_at ex.good (a1.ext ex) e2
  · refine kitAny_cons (kit_ty (kit_isT hT d)) (fun e => ?_) fun e => by rw [e]; rfl
    rw [e, Bool.false_or]
    refine kitAny_cons (kit_ty (kit_isT hU d)) (fun e => ?_) fun e => by rw [e]
    rw [e]
    exact kitAny_nil
theorem de_isi2 {a : Expr} {te : TE} {t : TD} {n1 n2 : Str} {T U : String} {p1 p2 p3 : Pos} {kk} (h : DE X Z a te t) (hK : Z.K = X.K) (hg : Gl X "isinstance") (hm : X.mg "isinstance" = none)
    (h1 : PE X (.Name n1 p1) (tC (.ty T))) (h2 : PE X (.Name n2 p2) (tC (.ty U)))
    (he : starEach [a, .Tuple [.Name n1 p1, .Name n2 p2] kk p3] X.env = (false, eval a X.env) :: starEach [.Tuple [.Name n1 p1, .Name n2 p2] kk p3] X.env := by rfl) (hpl : (backTo pos (starEach [.Tuple [.Name n1 p1, .Name n2 p2] kk p3] X.env)).any (·.1) = false := by rfl)
    (hs1 : starEach [.Tuple [.Name n1 p1, .Name n2 p2] kk p3] X.env = (false, eval (.Tuple [.Name n1 p1, .Name n2 p2] kk p3) X.env) :: starEach [] X.env := by rfl)
    (hs2 : starEach [.Name n1 p1, .Name n2 p2] X.env = (false, eval (.Name n1 p1) X.env) :: starEach [.Name n2 p2] X.env := by rfl) (hs3 : starEach [.Name n2 p2] X.env = (false, eval (.Name n2 p2) X.env) :: starEach [] X.env := by rfl) :
    DE X Z (.Call (.Name "isinstance" p) [a, .Tuple [.Name n1 p1, .Name n2 p2] kk p3] [] pos) (tCB (rIsiT Z.K) (tCons te (tCons (tTup (tCons (tC (.ty T)) (tCons (tC (.ty U)) tNil))) tNil))) (dIsi2 T U t) := by rw [hK]; exact de_isi2' h hK hg hm h1 h2 he hpl hs1 hs2 hs3
/-! ### methods of texts, lists -/
def tMx (T : String) : DV → Prop := fun x => match x with
  | .d (.str _) => T = "str"
  | x => T = "list" ∧ ∃ xs, lstOf x = some xs
def MtD (Z : Zx) (r : V → List V → Hp → VK → Prop) (o : DV → OC) : Prop := ∀ I H Hs x v xs vs Qd Ed Q, At2 Z I H → At Z Hs I H x v → AtAll Z Hs I H xs vs → o x xs Qd Ed → Then Z I H Qd Q → r v vs H Q
def dMeth (T : String) (o : DV → OC) (t : TD) (a : TDA) : TD := fun δ Q E => t δ (fun x => tMx T x ∧ a δ (fun xs => o x xs Q E) E) E
theorem tMx_at {Hs I H : Hp} {x : DV} {v : V} {T : String} (g : Good Z.R I H) (a : At Z Hs I H x v) (h : tMx T x) : tyV Z.K T v H := by
  unfold tMx at h
  split at h
  · cases a; exact h
  · obtain ⟨h1, xs, h2⟩ := h
    obtain ⟨q, us, rfl, h3, _⟩ := lst_at g a h2
    exact .inl ⟨h1, us, SqL.of h3⟩
theorem de_meth' {o : Expr} {to : TE} {t : TD} {name : Str} {T : String} {r : V → List V → Hp → VK → Prop} {od : DV → OC} (hd : MtD Z r od) (ho : DE X Z o to t) (ha : DA X Z (e :: es) ta da) (hK : Z.K = X.K)
    (h : PE X o to → PA X (e :: es) ta → PE X (.Call (.Attribute o name apos) (e :: es) [] pos) (tBM X.K T r to ta)) : DE X Z (.Call (.Attribute o name apos) (e :: es) [] pos) (tBM X.K T r to ta) (dMeth T od t da) := by
  refine ⟨h ho.pe ha.pa, fun I H δ σ Qd Ed Q hh t0 k => ho.rf I H δ σ _ Ed _ hh t0 fun x v I1 H1 e1 a1 q1 => ?_⟩
  have h1 := hh.ext e1
  refine ⟨by rw [← hK]; exact tMx_at h1.g a1 q1.1, ha.rf I1 H1 δ σ _ Ed _ h1 q1.2 fun xs vs I2 H2 e2 a2 q2 => ?_⟩
  have h2 := h1.ext e2
  exact hd I2 H2 H x v xs vs Qd Ed Q ⟨h2.g, h2.old⟩ (a1.ext e2) (a2.since fun _ z => e1.none hh.g z) q2 ((k.ext hh.g e1).ext h1.g e2)
theorem de_meth {o : Expr} {to : TE} {t : TD} {name : Str} {T : String} {r : V → List V → Hp → VK → Prop} {od : DV → OC} (hd : MtD Z r od) (ho : DE X Z o to t) (ha : DA X Z (e :: es) ta da) (hK : Z.K = X.K)
    (h : PE X o to → PA X (e :: es) ta → PE X (.Call (.Attribute o name apos) (e :: es) [] pos) (tBM X.K T r to ta)) : DE X Z (.Call (.Attribute o name apos) (e :: es) [] pos) (tBM Z.K T r to ta) (dMeth T od t da) := by rw [hK]; exact de_meth' hd ho ha hK h
/-- sep.join(list) -/
def strsOf : List PyData → Option (List Str)
  | [] => some []
  | .str b :: r => (strsOf r).map (b :: ·)
  | _ :: _ => none
theorem strs_at {K : PySem.W.Frag} {I : Hp} : ∀ {vs : List V} {ds : List PyData} {bs : List Str}, DaAll K I vs ds → strsOf ds = some bs → vs = bs.map V.str
  | _, _, _, .nil, h => by cases h; rfl
  | _, _, _, .cons (d := d) a t, h => by
    cases d with
    | str b =>
      simp only [strsOf] at h
      obtain ⟨es, h1, rfl⟩ := Option.map_eq_some_iff.mp h
      cases a
      rw [strs_at t h1]
      rfl
    | _ => cases h
def oJoin : DV → OC := fun x xs Q _ => match x, xs with
  | .d (.str a), [y] => ∃ ds ys, seqOf y = some ds ∧ strsOf ds = some ys ∧ (ys.map (·.length)).sum + ys.length * a.length ≤ 16777216 ∧ Q (.d (.str (Txt.join a ys)))
  | _, _ => False
theorem md_join {K : PySem.W.Frag} (hK : Z.K = K) : MtD Z (fun x xs H Q => ∃ a p, ∃ ys : List Str, x = .str a ∧ xs = [.ref p] ∧ (SqL K H p (ys.map V.str) ∨ SqT K H p (ys.map V.str)) ∧ (ys.map (·.length)).sum + ys.length * a.length ≤ 16777216 ∧ Q (.str (Txt.join a ys)) H) oJoin := fun I H Hs x v xs vs Qd Ed Q g' a b t k => by
  subst hK
  unfold oJoin at t
  split at t
  · cases a
    obtain ⟨u, rfl, b'⟩ := at1 b
    obtain ⟨ds, ys, e1, e2, hz, t⟩ := t
    obtain ⟨q, us, rfl, h1, h2, _⟩ := seq_at g'.g b' e1
    have e3 := strs_at h2 e2
    subst e3
    exact ⟨_, q, ys, rfl, rfl, h1, hz, k.now g'.g (.str _) t⟩
  · exact t.elim
/-- text.split(sep) -/
def oSplit : DV → OC := fun x xs Q _ => match x, xs with
  | .d (.str a), [.d (.str b)] => (b.length == 0) = false ∧ a.length + 2 ≤ sizeLine ∧ (Txt.split a b).length ≤ sizeLine ∧ Q (.new ((Txt.split a b).map .str))
  | _, _ => False
theorem md_split : MtD Z (fun x xs H Q => ∃ a b, x = .str a ∧ xs = [.str b] ∧ (b.length == 0) = false ∧ a.length + 2 ≤ sizeLine ∧ rNewStrs (Txt.split a b) H Q) oSplit := fun I H Hs x v xs vs Qd Ed Q g' a b t k => by
  unfold oSplit at t
  split at t
  · cases a
    obtain ⟨u, rfl, b'⟩ := at1 b
    cases b'
    obtain ⟨h1, h2, h3, t⟩ := t
    exact ⟨_, _, rfl, rfl, h1, h2, k.new g'.g g'.old (DaAll.strs _) (by rw [List.length_map]; exact h3) t⟩
  · exact t.elim
def oStarts : DV → OC := fun x xs Q _ => match x, xs with
  | .d (.str a), [.d (.str b)] => Q (.d (.bool (Txt.startswith a b)))
  | _, _ => False
theorem md_starts : MtD Z (fun x xs H Q => ∃ a b, x = .str a ∧ xs = [.str b] ∧ Q (.bl (Txt.startswith a b)) H) oStarts := fun I H Hs x v xs vs Qd Ed Q g' a b t k => by
  unfold oStarts at t
  split at t
  · cases a
    obtain ⟨u, rfl, b'⟩ := at1 b
    cases b'
    exact ⟨_, _, rfl, rfl, k.now g'.g (.bl _) t⟩
  · exact t.elim
/-- l.index(x), where it stands -/
def oIndex : DV → OC := fun x xs Q _ => match xs with
  | [y] => ∃ ds d j z, datOf x = some (.list ds) ∧ datOf y = some d ∧ SeqAt.shaped (.list ds) = true ∧ SeqAt.shaped d = true ∧ ds[j]? = some z ∧ PyData.eqv z d = true ∧ (∀ (m : Nat) (z' : PyData), m < j → ds[m]? = some z' → PyData.eqv z' d = false) ∧ Q (.d (.int (j : Nat)))
  | _ => False
theorem md_index {K : PySem.W.Frag} (hK : Z.K = K) : MtD Z (rIndexD K) oIndex := fun I H Hs x v xs vs Qd Ed Q g' a b t k => by
  subst hK
  unfold oIndex at t
  split at t
  · obtain ⟨u, rfl, b'⟩ := at1 b
    obtain ⟨ds, d, j, z, e1, e2, s1, s2, h1, h2, h3, t⟩ := t
    have q := dat_at g'.g a e1 (SeqAt.canLay_of_shaped s1)
    have q' := dat_at g'.g b' e2 (SeqAt.canLay_of_shaped s2)
    cases q with
    | lst p1 p2 => exact ⟨_, u, d, ds, j, z, rfl, rfl, .lst p1 p2, q', s1, s2, h1, h2, h3, k.now g'.g (.int _) t⟩
  · exact t.elim
/-! ### defs of the text -/
/-- what a def does: the hidden region, the arguments, what follows, what is wanted of exceptions -/
abbrev Spd := Reg → List DV → DK → EK → Prop
def ArgAt (K : PySem.W.Frag) (R : Reg) (I H : Hp) (x : DV) (v : V) : Prop := match x with
  | .d x => Da K I v x
  | .bor f xs => f = false ∧ Own K R I H v xs
  | .v u => v = u
  | _ => False
inductive ArgAll (K : PySem.W.Frag) (R : Reg) (I H : Hp) : List DV → List V → Prop
  | nil : ArgAll K R I H [] []
  | cons {x : DV} {v : V} {xs : List DV} {vs : List V} : ArgAt K R I H x v → ArgAll K R I H xs vs → ArgAll K R I H (x :: xs) (v :: vs)
theorem ArgAll.len {K : PySem.W.Frag} {R : Reg} {I H : Hp} : ∀ {xs : List DV} {vs : List V}, ArgAll K R I H xs vs → xs.length = vs.length
  | _, _, .nil => rfl
  | _, _, .cons _ t => by rw [List.length_cons, List.length_cons, ArgAll.len t]
def lift (K : PySem.W.Frag) (S : Spd) (n : Nat) : Sp := fun vs H Q E => vs.length = n ∧ ∃ (R : Reg) (I : Hp) (xs : List DV) (Qd : DK) (Ed : EK), Good R I H ∧ ArgAll K R I H xs vs ∧ S R xs Qd Ed ∧
  (∀ x v I' H', Ext R I H I' H' → RetAt K I' x v → Qd x → Q v H') ∧ ∀ x c od I' H', Ext R I H I' H' → ExAt K I' H' x c od → Ed x → E c od H'
def unbor : DV → DV
  | .bor _ xs => .bor false xs
  | x => x
theorem arg_at {Hs I H : Hp} {xs : List DV} {vs : List V} (h : ∀ x ∈ xs, ∀ ys, x ≠ .new ys) (a : AtAll Z Hs I H xs vs) : ArgAll Z.K Z.R I H (xs.map unbor) vs := by
  induction a with
  | nil => exact .nil
  | @cons y v ys vs a t ih =>
    refine .cons ?_ (ih fun z hz => h z (List.mem_cons_of_mem _ hz))
    cases y with
    | d x => exact a
    | bor f xs => exact ⟨rfl, a.1⟩
    | new xs => exact absurd rfl (h _ List.mem_cons_self xs)
    | own xs => exact a.elim
    | v u => exact a
def dFn (R : Reg) (S : Spd) (n : Nat) (a : TDA) : TD := fun δ Q E => a δ (fun xs => xs.length = n ∧ (∀ x ∈ xs, ∀ ys, x ≠ .new ys) ∧ S R (xs.map unbor) Q E) E
theorem ret_at {Hs I H : Hp} {x : DV} {v : V} (h : RetAt Z.K I x v) : At Z Hs I H x v := by
  cases x with
  | d x => exact h
  | v u => exact h
  | _ => exact h.elim
theorem fn_here {S : Spd} {n : Nat} {I H : Hp} {δ : DEnv} {σ : St} {xs : List DV} {vs : List V} {Qd : DK} {Ed : EK} {Q : VK} {Hs : Hp} (hh : Here Z I H δ σ Ed) (hl : xs.length = n) (a : AtAll Z Hs I H xs vs) (hx : ∀ x ∈ xs, ∀ ys, x ≠ .new ys) (q : S Z.R (xs.map unbor) Qd Ed) (k : Then Z I H Qd Q) : lift Z.K S n vs H Q (WE Z.W σ) :=
  ⟨a.len.symm.trans hl, Z.R, I, _, Qd, Ed, hh.g, arg_at hx a, q, fun x v I' H' e r qx => k x v I' H' e (ret_at r) qx, fun x c od I' H' e xa q => hh.w x c od I' H' (hh.e0.trans hh.g0 e) xa q⟩
theorem de_fn0 {ex : Expr} {K : PySem.W.Frag} {W : WX} {S : Spd} {n : Nat} (hK : Z.K = K) (hW : Z.W = W) (ha : DA X Z es ta da) (h : PE X ex (tCallS (lift K S n) (WE W) ta)) : DE X Z ex (tCallS (lift K S n) (WE W) ta) (dFn Z.R S n da) := by
  subst hK hW
  refine ⟨h, fun I H δ σ Qd Ed Q hh t k => ha.rf I H δ σ _ Ed _ hh t fun xs vs I1 H1 e1 a1 q1 => ?_⟩
  exact fn_here (hh.ext e1) q1.1 a1 q1.2.1 q1.2.2 (k.ext hh.g e1)
theorem de_fn' {S : Spd} {n k : Nat} {f : Addr} {fd : FuncData} {ps : List Str} (F : FnOk X.prog X.w X.K X.mg X.base (L2.CX X.prog X.w) k f fd ps (lift X.K S n)) (hr : Room k X.A) (hg : Gl X x) (hm : X.mg x = some (.ref f)) (hk : PySem.W.keepIn X.K (.ref f) = true) (hb : Binds X.K fd ps []) (tk : Takes X Z.W)
    (hK : Z.K = X.K) (ha : DA X Z (e :: es) ta da) (hd : (x == ("__debug__" : Str)) = false := by decide) (he : starEach (e :: es) X.env = (false, eval e X.env) :: starEach es X.env := by rfl) (hpl : (backTo pos (starEach es X.env)).any (·.1) = false := by rfl) :
    DE X Z (.Call (.Name x p) (e :: es) [] pos) (tCallS (lift X.K S n) (WE Z.W) ta) (dFn Z.R S n da) :=
  de_fn0 hK rfl ha (pe_callS F hr hg hm hk hb (fun σ => passAt tk σ) ha.pa hd he hpl)
theorem de_fn {S : Spd} {n k : Nat} {f : Addr} {fd : FuncData} {ps : List Str} (F : FnOk X.prog X.w X.K X.mg X.base (L2.CX X.prog X.w) k f fd ps (lift X.K S n)) (hr : Room k X.A) (hg : Gl X x) (hm : X.mg x = some (.ref f)) (hk : PySem.W.keepIn X.K (.ref f) = true) (hb : Binds X.K fd ps []) (tk : Takes X Z.W)
    (hK : Z.K = X.K) (ha : DA X Z (e :: es) ta da) (hd : (x == ("__debug__" : Str)) = false := by decide) (he : starEach (e :: es) X.env = (false, eval e X.env) :: starEach es X.env := by rfl) (hpl : (backTo pos (starEach es X.env)).any (·.1) = false := by rfl) :
    DE X Z (.Call (.Name x p) (e :: es) [] pos) (tCallS (lift Z.K S n) (WE Z.W) ta) (dFn Z.R S n da) := by rw [hK]; exact de_fn' F hr hg hm hk hb tk hK ha hd he hpl
end
end PD
set_option Elab.async false
set_option linter.all false
set_option maxRecDepth 100000
set_option maxHeartbeats 1000000
namespace PD
open PySem PySem.Spec PyProof.Rows L2
section
variable {X : Cx} {Z : Zx} {pos : Pos} {e : Expr} {st : Stmt} {rest : List Stmt} {ts us : TS} {t u : TDS} {te : TE} {d : TD}
/-- what is wanted of exceptions hangs on no slot -/
def Flat (Z : Zx) : Prop := ∀ c od σ σ' H, Z.W c od σ H → Z.W c od σ' H
theorem Here.at_ {I H I' H' : Hp} {δ δ' : DEnv} {σ σ' : St} {Ed : EK} (h : Here Z I H δ σ Ed) (fl : Flat Z) (e : Ext Z.R Z.I0 Z.H0 I' H') (v : EnvAt Z I' H' δ' σ') : Here Z I' H' δ' σ' Ed :=
  ⟨h.g0, e, v, fun x c od I2 H2 e2 xa q => fl _ _ _ _ _ (h.w x c od I2 H2 e2 xa q)⟩
/-! ### blocks -/
def dNext : TDS := fun D _ δ => D.nx δ
def dSeq (t u : TDS) : TDS := fun D E δ => t { D with nx := u D E } E δ
theorem dss_nil : DSs X Z [] tNext dNext := ⟨pss_nil, fun I H δ σ D Ed T hh t l => l.nx δ σ I H hh.e0 (Same.refl _) hh.env t⟩
theorem dss_one (h : DS X Z st ts t) : DSs X Z [st] ts t := ⟨pss_one h.ps, h.rf⟩
theorem dss_cons (fl : Flat Z) (h : DS X Z st ts t) (h' : DSs X Z rest us u) : DSs X Z (st :: rest) (tSeq ts us) (dSeq t u) :=
  ⟨pss_cons h.ps h'.ps, fun I H δ σ D Ed T hh q l => h.rf I H δ σ { D with nx := u D Ed } Ed { T with nx := us T } hh q
    ⟨fun δ' σ' I' H' e s v q => h'.rf I' H' δ' σ' D Ed T (hh.at_ fl e v) q (l.ext s), l.rt, l.bk, l.ct⟩⟩
theorem ds_pass : DS X Z (.Pass pos) tNext dNext := ⟨ps_pass, fun I H δ σ D Ed T hh t l => l.nx δ σ I H hh.e0 (Same.refl _) hh.env t⟩
def dBrk : TDS := fun D _ δ => D.bk δ
def dCnt : TDS := fun D _ δ => D.ct δ
theorem ds_break : DS X Z (.Break pos) tBreak dBrk := ⟨ps_break, fun I H δ σ D Ed T hh t l => l.bk δ σ I H hh.e0 (Same.refl _) hh.env t⟩
theorem ds_continue : DS X Z (.Continue pos) tCont dCnt := ⟨ps_continue, fun I H δ σ D Ed T hh t l => l.ct δ σ I H hh.e0 (Same.refl _) hh.env t⟩
def dDrop (d : TD) : TDS := fun D E δ => d δ (fun _ => D.nx δ) E
theorem ds_expr (h : DE X Z e te d) (hs : swapsWith e none pos.line X.env = pure false := by rfl) : DS X Z (.Expr e pos) (tDrop te) (dDrop d) :=
  ⟨ps_expr h.pe hs, fun I H δ σ D Ed T hh t l => h.rf I H δ σ _ Ed _ hh t fun x v I' H' e _ q => l.nx δ σ I' H' (hh.e0.trans hh.g0 e) e.sub (hh.env.ext e) q⟩
/-! ### return -/
def retK (Q : DK) : DK := fun x => match frozA x with
  | .d y => Q (.d y)
  | .v u => Q (.v u)
  | _ => False
theorem ret_frz {I H I' H' : Hp} {δ : DEnv} {σ : St} {Ed : EK} {x : DV} {v : V} {Q : DK} {K : VK} (hh : Here Z I H δ σ Ed) (e : Ext Z.R I H I' H') (a : At Z H I' H' x v) (q : retK Q x)
    (k : ∀ y I2, Ext Z.R Z.I0 Z.H0 I2 H' → RetAt Z.K I2 y v → Q y → K v H') : K v H' := by
  have e0 := hh.e0.trans hh.g0 e
  cases x with
  | d y => exact k (.d y) I' e0 a q
  | v u => exact k (.v u) I' e0 a q
  | own xs => exact a.elim
  | new xs =>
    obtain ⟨⟨p, vs, rfl, h1, h2, h3, h4, h5⟩, h6⟩ := a
    exact k (.d (.list xs)) _ (ext_frz e0 h1 (h6 p rfl).2 h4 h3 h5) (.lst upd_same (daa_mono (upd_sub h3) _ _ h2)) q
  | bor f xs =>
    cases f with
    | false => exact q.elim
    | true =>
      obtain ⟨⟨p, vs, rfl, h1, h2, h3, h4, h5⟩, h6⟩ := a
      exact k (.d (.list xs)) _ (ext_frz e0 h1 (h6 rfl p rfl) h4 h3 h5) (.lst upd_same (daa_mono (upd_sub h3) _ _ h2)) q
def dRet (d : TD) : TDS := fun D E δ => d δ (retK D.rt) E
theorem ds_ret (h : DE X Z e te d) : DS X Z (.Return (some e) pos) (tRet te) (dRet d) :=
  ⟨ps_ret h.pe, fun I H δ σ D Ed T hh t l => h.rf I H δ σ _ Ed _ hh t fun x v I' H' e a q => ret_frz hh e a q fun y I2 e2 r q => l.rt y v I2 H' e2 r q⟩
def dRetN : TDS := fun D _ _ => D.rt (.d .none)
theorem ds_retN : DS X Z (.Return none pos) tRetN dRetN := ⟨ps_retN, fun I H δ σ D Ed T hh t l => l.rt (.d .none) .non I H hh.e0 Da.non t⟩
/-! ### if -/
def dIfS (c : TDT) (t u : TDS) : TDS := fun D E δ => c δ (fun b => if b = true then t D E δ else u D E δ) E
theorem ds_if {c : Expr} {a b : List Stmt} {tc : TT} {dc : TDT} (hc : DT X Z c tc dc) (ha : DSs X Z a ts t) (hb : DSs X Z b us u) : DS X Z (.If c a b pos) (tIfS tc ts us) (dIfS dc t u) := by
  refine ⟨ps_if hc.pt ha.ps hb.ps, fun I H δ σ D Ed T hh q l => hc.rf I H δ σ _ Ed _ hh q fun z I1 H1 e1 q1 => ?_⟩
  cases z with
  | true => exact ha.rf I1 H1 δ σ D Ed T (hh.ext e1) q1 (l.ext e1.sub)
  | false => exact hb.rf I1 H1 δ σ D Ed T (hh.ext e1) q1 (l.ext e1.sub)
/-! ### stores -/
abbrev TDG := DV → DEnv → (DEnv → Prop) → Prop
structure DG (X : Cx) (Z : Zx) (target : Expr) (g : TG) (d : TDG) : Prop where
  pg : PG X target g
  rf : ∀ I H δ σ x v Qd Q Hs, Good Z.R I H → EnvAt Z I H δ σ → At Z Hs I H x v → d x δ Qd → (∀ δ' σ' I' H', Ext Z.R I H I' H' → EnvAt Z I' H' δ' σ' → Qd δ' → Q σ' H') → g v σ H Q
def dName (i : Nat) : TDG := fun x δ Q => match x with
  | .d y => Q (δ.set i (some (.d y)))
  | .v u => Q (δ.set i (some (.v u)))
  | _ => False
theorem dg_name {i : Nat} {x : Str} (hN : X.N.Nodup) (hi : X.N[i]? = some x) (hx : Loc X.env.scope x) (hf : X.fn x = true ∨ X.env.scope.names.lookup x = some .local := by first | exact .inl rfl | exact .inr rfl | assumption) : DG X Z (.Name x pos) (gName i) (dName i) := by
  refine ⟨pg_name hN hi hx hf, fun I H δ σ x v Qd Q Hs g env a q k => ?_⟩
  unfold dName at q
  split at q
  · exact k _ _ I H (Ext.refl g) (env.set i (x := .d _) a (fun xs e => nomatch e)) q
  · exact k _ _ I H (Ext.refl g) (env.set i (x := .v _) a (fun xs e => nomatch e)) q
  · exact q.elim
abbrev TDGs := List PyData → DEnv → (DEnv → Prop) → Prop
structure DGs (X : Cx) (Z : Zx) (ts : List Expr) (g : TGs) (d : TDGs) : Prop where
  pg : PGs X ts g
  rf : ∀ I H δ σ ds vs Qd Q, Good Z.R I H → EnvAt Z I H δ σ → DaAll Z.K I vs ds → d ds δ Qd → (∀ δ' σ' I' H', Ext Z.R I H I' H' → EnvAt Z I' H' δ' σ' → Qd δ' → Q σ' H') → g vs σ H Q
def dGNil : TDGs := fun ds δ Q => ds = [] ∧ Q δ
def dGCons (a : TDG) (r : TDGs) : TDGs := fun ds δ Q => match ds with
  | [] => False
  | d :: ds => a (.d d) δ (fun δ' => r ds δ' Q)
theorem dgs_nil : DGs X Z [] gNil dGNil := ⟨pgs_nil, fun I H δ σ ds vs Qd Q g env a q k => by
  obtain ⟨rfl, q⟩ := q
  cases a
  exact ⟨rfl, k δ σ I H (Ext.refl g) env q⟩⟩
theorem dgs_cons {es : List Expr} {g : TG} {gs : TGs} {a : TDG} {r : TDGs} (h : DG X Z e g a) (h' : DGs X Z es gs r) (hs : (assignEach (e :: es) X.env).map (·.2) = assign e X.env :: (assignEach es X.env).map (·.2) := by rfl) : DGs X Z (e :: es) (gCons g gs) (dGCons a r) := by
  refine ⟨pgs_cons h.pg h'.pg hs, fun I H δ σ ds vs Qd Q gg env ad q k => ?_⟩
  cases ad with
  | nil => exact q.elim
  | cons a1 at1 => exact ⟨_, _, rfl, h.rf I H δ σ _ _ _ _ H gg env (show At Z H I H (.d _) _ from a1) q fun δ' σ' I' H' ex env' q' => h'.rf I' H' δ' σ' _ _ _ _ ex.good env' (daa_mono ex.sub _ _ at1) q' fun δ2 σ2 I2 H2 ex2 => k δ2 σ2 I2 H2 (ex.trans gg ex2)⟩
/-- a tuple of so many -/
def dGTup (n : Nat) (r : TDGs) : TDG := fun x δ Q => match x with
  | .d (.tuple ds) => ds.length = n ∧ r ds δ Q
  | _ => False
theorem dg_tup' {es : List Expr} {k : Nat} {g : TGs} {r : TDGs} {n : Nat} (hc : X.calm = true) (h : DGs X Z es g r) (hK : Z.K = X.K) (hn : (assignEach es X.env).length = n := by rfl) (hst : (assignEach es X.env).findIdx? (·.1) = none := by rfl) : DG X Z (.Tuple es k pos) (gTup X.K n g) (dGTup n r) := by
  refine ⟨pg_tup hc h.pg hn hst, fun I H δ σ x v Qd Q Hs g env a q k => ?_⟩
  unfold dGTup at q
  split at q
  · obtain ⟨p, vs, rfl, h1, h1', h2⟩ := tup_at g a
    exact ⟨p, vs, rfl, by rw [← hK]; exact h1', h2.len.trans q.1, h.rf I H δ σ _ vs _ _ g env h2 q.2 k⟩
  · exact q.elim
theorem dg_tup {es : List Expr} {k : Nat} {g : TGs} {r : TDGs} {n : Nat} (hc : X.calm = true) (h : DGs X Z es g r) (hK : Z.K = X.K) (hn : (assignEach es X.env).length = n := by rfl) (hst : (assignEach es X.env).findIdx? (·.1) = none := by rfl) : DG X Z (.Tuple es k pos) (gTup Z.K n g) (dGTup n r) := by rw [hK]; exact dg_tup' hc h hK hn hst
/-- a list of so many -/
def dGLst (n : Nat) (r : TDGs) : TDG := fun x δ Q => match lstOf x with
  | some ds => ds.length = n ∧ r ds δ Q
  | none => False
theorem dg_lst' {es : List Expr} {k : Nat} {g : TGs} {r : TDGs} {n : Nat} (hc : X.calm = true) (h : DGs X Z es g r) (hK : Z.K = X.K) (hn : (assignEach es X.env).length = n := by rfl) (hst : (assignEach es X.env).findIdx? (·.1) = none := by rfl) : DG X Z (.Tuple es k pos) (gLst X.K n g) (dGLst n r) := by
  refine ⟨pg_lst hc h.pg hn hst, fun I H δ σ x v Qd Q Hs g env a q k => ?_⟩
  unfold dGLst at q
  split at q
  · rename_i ds e
    obtain ⟨p, vs, rfl, h1, h2, _⟩ := lst_at g a e
    exact ⟨p, vs, rfl, SqL.of h1, h2.len.trans q.1, h.rf I H δ σ _ vs _ _ g env h2 q.2 k⟩
  · exact q.elim
theorem dg_lst {es : List Expr} {k : Nat} {g : TGs} {r : TDGs} {n : Nat} (hc : X.calm = true) (h : DGs X Z es g r) (hK : Z.K = X.K) (hn : (assignEach es X.env).length = n := by rfl) (hst : (assignEach es X.env).findIdx? (·.1) = none := by rfl) : DG X Z (.Tuple es k pos) (gLst Z.K n g) (dGLst n r) := by rw [hK]; exact dg_lst' hc h hK hn hst
def dAsg (d : TD) (g : TDG) : TDS := fun D E δ => d δ (fun x => g (froz x) δ D.nx) E
theorem asg_rf {ta : TE} {g : TG} {dg : TDG} (h : ∀ I H δ σ Qd Ed Q, Here Z I H δ σ Ed → d δ Qd Ed → Then Z I H Qd Q → ta σ H Q) (hg : ∀ I H δ σ x v Qd Q Hs, Good Z.R I H → EnvAt Z I H δ σ → At Z Hs I H x v → dg x δ Qd → (∀ δ' σ' I' H', Ext Z.R I H I' H' → EnvAt Z I' H' δ' σ' → Qd δ' → Q σ' H') → g v σ H Q) :
    ∀ I H δ σ D Ed T, Here Z I H δ σ Ed → dAsg d dg D Ed δ → Link Z I D T → tAsg ta g T σ H := fun I H δ σ D Ed T hh q l => by
  refine h I H δ σ _ Ed _ hh q (Then.frz (Qd := fun x => dg x δ D.nx) fun x v I' H' e a q => ?_)
  exact hg I' H' δ σ x v _ _ _ e.good (hh.env.ext e) a q fun δ' σ' I2 H2 ex env' q' => l.nx δ' σ' I2 H2 ((hh.e0.trans hh.g0 e).trans hh.g0 ex) (e.sub.trans ex.sub) env' q'
theorem ds_asg {tg : Expr} {g : TG} {dg : TDG} (h : DE X Z e te d) (hg : DG X Z tg g dg) (hs : swapsWithSole [tg] e pos.line X.env = pure false := by rfl) (hw : swappedStores [tg] e X.env = pure none := by rfl)
    (h1 : (assignEach [tg] X.env).map (·.2) = [assign tg X.env] := by rfl) : DS X Z (.Assign [tg] e pos) (tAsg te g) (dAsg d dg) :=
  ⟨ps_asg h.pe hg.pg hs hw h1, asg_rf h.rf hg.rf⟩
theorem ds_set {i : Nat} {x : Str} {pos' : Pos} (hN : X.N.Nodup) (hi : X.N[i]? = some x) (hx : Loc X.env.scope x) (h : DE X Z e te d) (hs : swapsWith e (some (.Name x pos')) pos.line X.env = pure false := by rfl) (hf : X.fn x = true ∨ X.env.scope.names.lookup x = some .local := by first | exact .inl rfl | exact .inr rfl | assumption) :
    DS X Z (.Assign [.Name x pos'] e pos) (tAsg te (gName i)) (dAsg d (dName i)) :=
  ⟨ps_set hN hi hx h.pe hs hf, asg_rf h.rf (dg_name (pos := pos') hN hi hx hf).rf⟩
/-- .. the list just made is this def's own -/
def dAsgO (d : TD) (i : Nat) : TDS := fun D E δ => d δ (fun x => match x with
  | .new xs => D.nx (δ.set i (some (.own xs)))
  | _ => False) E
theorem asgO_rf {ta : TE} {i : Nat} (h : ∀ I H δ σ Qd Ed Q, Here Z I H δ σ Ed → d δ Qd Ed → Then Z I H Qd Q → ta σ H Q) : ∀ I H δ σ D Ed T, Here Z I H δ σ Ed → dAsgO d i D Ed δ → Link Z I D T → tAsg ta (gName i) T σ H := fun I H δ σ D Ed T hh q l => by
  refine h I H δ σ _ Ed _ hh q fun x v I' H' e a q => ?_
  split at q
  · obtain ⟨o, n⟩ := a
    refine l.nx _ _ I' H' (hh.e0.trans hh.g0 e) e.sub ((hh.env.ext e).set i (x := .own _) ⟨o, fun b eb => (n b eb).2⟩ fun zs _ j ys hij hj hv => ?_) q
    obtain ⟨w, e1, ⟨⟨b, ws, rfl, h1, _⟩, _⟩⟩ := hh.env.val j _ hj
    rw [e1] at hv
    cases hv
    rw [(n b rfl).1] at h1
    cases h1
  · exact q.elim
theorem ds_setO {i : Nat} {x : Str} {pos' : Pos} (hN : X.N.Nodup) (hi : X.N[i]? = some x) (hx : Loc X.env.scope x) (h : DE X Z e te d) (hs : swapsWith e (some (.Name x pos')) pos.line X.env = pure false := by rfl) (hf : X.fn x = true ∨ X.env.scope.names.lookup x = some .local := by first | exact .inl rfl | exact .inr rfl | assumption) :
    DS X Z (.Assign [.Name x pos'] e pos) (tAsg te (gName i)) (dAsgO d i) :=
  ⟨ps_set hN hi hx h.pe hs hf, asgO_rf h.rf⟩
/-- a, b = x, y -/
def dPar (i j : Nat) (a : TDA) : TDS := fun D E δ => a δ (fun xs => match xs with
  | [x, y] => dName i x δ (fun δ' => dName j y δ' D.nx)
  | _ => False) E
theorem ds_par {i j : Nat} {x y : Str} {a b : Expr} {ta : TA} {da : TDA} {px py pt : Pos} {kt k2 pt2} (hc : X.calm = true) (hN : X.N.Nodup) (hi : X.N[i]? = some x) (hj : X.N[j]? = some y) (hij : i ≠ j) (hx : X.env.scope.names.lookup x = some .local) (hy : X.env.scope.names.lookup y = some .local) (ha : DA X Z [a, b] ta da)
    (hw : swappedStores [.Tuple [.Name x px, .Name y py] kt pt] (.Tuple [a, b] k2 pt2) X.env = pure (some [x, y])) (hs : swapsWithSole [.Tuple [.Name x px, .Name y py] kt pt] (.Tuple [a, b] k2 pt2) pos.line X.env = pure false := by rfl) :
    DS X Z (.Assign [.Tuple [.Name x px, .Name y py] kt pt] (.Tuple [a, b] k2 pt2) pos) (tPar i j ta) (dPar i j da) := by
  refine ⟨ps_par hc hN hi hj hij hx hy ha.pa hw hs, fun I H δ σ D Ed T hh q l => ha.rf I H δ σ _ Ed _ hh q fun xs vs I' H' e a q => ?_⟩
  split at q
  · obtain ⟨v, u, rfl, a1, a2⟩ := at2 a
    have e0 := hh.e0.trans hh.g0 e
    have env := hh.env.ext e
    refine ⟨v, u, rfl, ?_⟩
    have st : ∀ {δ1 σ1 k z w Hs} {Qd : DEnv → Prop}, EnvAt Z I' H' δ1 σ1 → At Z Hs I' H' z w → dName k z δ1 Qd → ∃ δ2, EnvAt Z I' H' δ2 (σ1.set k (some w)) ∧ Qd δ2 := fun {δ1 σ1 k z w Hs Qd} ev az qz => by
      unfold dName at qz
      split at qz
      · exact ⟨_, ev.set k (x := .d _) az (fun xs e => nomatch e), qz⟩
      · exact ⟨_, ev.set k (x := .v _) az (fun xs e => nomatch e), qz⟩
      · exact qz.elim
    obtain ⟨δ1, ev1, q1⟩ := st env a1 q
    obtain ⟨δ2, ev2, q2⟩ := st ev1 a2 q1
    exact l.nx δ2 _ I' H' e0 e.sub ev2 q2
  · exact q.elim
/-- name op= e, of ints -/
def dAug (i : Nat) (g : Int → Int → Int) (d : TD) : TDS := fun D E δ => match δ[i]? with
  | some (some (.d (.int a))) => d δ (fun y => match y with
    | .d (.int b) => D.nx (δ.set i (some (.d (.int (g a b)))))
    | _ => False) E
  | _ => False
theorem ds_aug {i : Nat} {x : Str} {op : Operator} {g : Int → Int → Int} {pos' : Pos} (hN : X.N.Nodup) (hi : X.N[i]? = some x) (hx : Loc X.env.scope x) (h : DE X Z e te d) (ho : PIp X op (ipI g)) (hf : X.fn x = true ∨ X.env.scope.names.lookup x = some .local := by first | exact .inl rfl | exact .inr rfl | assumption) :
    DS X Z (.AugAssign (.Name x pos') op e pos) (tAug i te (ipI g)) (dAug i g d) := by
  refine ⟨ps_aug hN hi hx h.pe ho hf, fun I H δ σ D Ed T hh q l => ?_⟩
  unfold dAug at q
  split at q
  · rename_i a ea
    obtain ⟨v, e1, s1⟩ := hh.env.val i _ ea
    cases s1
    refine ⟨_, e1, h.rf I H δ σ _ Ed _ hh q fun y w I' H' e ay q => ?_⟩
    split at q
    · cases ay
      exact ⟨_, _, rfl, rfl, l.nx _ _ I' H' (hh.e0.trans hh.g0 e) e.sub ((hh.env.ext e).set i (x := .d _) (Da.int _) fun xs e => nomatch e) q⟩
    · exact q.elim
  · exact q.elim
end
end PD
set_option Elab.async false
set_option linter.all false
set_option maxRecDepth 100000
set_option maxHeartbeats 1000000
namespace PD
open PySem PySem.Spec PyProof.Rows L2
/-! ### what is walked -/
/-- J walks the data ds from now on -/
def Runs (Z : Zx) (J : It) (I : Hp) (ds : List PyData) : Prop := ∀ I' H', Good Z.R I' H' → Same I I' →
  (∀ i d, ds[i]? = some d → J.go i H' ∧ ∀ x H'', J.yld i H' x H'' → ∃ I'', Ext Z.R I' H' I'' H'' ∧ Da Z.K I'' x d) ∧ J.stop ds.length H'
abbrev TDI := DEnv → (List PyData → Prop) → EK → Prop
structure DI (X : Cx) (Z : Zx) (tg iter : Expr) (wi : TI) (d : TDI) : Prop where
  pi : PI X tg iter wi
  rf : ∀ I H δ σ Qd Ed (R : It → Hp → Prop), Here Z I H δ σ Ed → d δ Qd Ed → (∀ J ds I' H', Ext Z.R I H I' H' → Runs Z J I' ds → ds.length ≤ sizeLine → Qd ds → R J H') → wi σ H R
section
variable {X : Cx} {Z : Zx} {pos : Pos} {e tg : Expr} {te : TE} {d : TD}
theorem runs_list {I : Hp} {a : Addr} {vs : List V} {ds : List PyData} (h : I a = some (.lst vs)) (ad : DaAll Z.K I vs ds) : Runs Z (Itl Z.K a) I ds := fun I' H' g s => by
  have h1 : SqL Z.K H' a vs := SqL.of (g.sub _ _ (s _ _ h))
  have hd : ∀ xs, SqL Z.K H' a xs → xs = xs := fun _ _ => rfl
  refine ⟨fun i y e => ?_, ⟨vs, h1, Nat.le_of_eq ad.len⟩⟩
  obtain ⟨v, e1, a1⟩ := ad.get e
  refine ⟨⟨vs, v, h1, e1⟩, fun x H'' hy => ?_⟩
  obtain ⟨rfl, hy⟩ := hy
  have e2 := hy vs h1
  rw [e1] at e2
  cases e2
  exact ⟨I', Ext.refl g, da_mono s _ _ a1⟩
theorem runs_tup {I : Hp} {a : Addr} {vs : List V} {ds : List PyData} (h : SqT Z.K I a vs) (ad : DaAll Z.K I vs ds) : Runs Z (Itt Z.K a) I ds := fun I' H' g s => by
  have h1 : SqT Z.K H' a vs := sqT_mono g.sub (sqT_mono s h)
  refine ⟨fun i y e => ?_, ⟨vs, h1, Nat.le_of_eq ad.len⟩⟩
  obtain ⟨v, e1, a1⟩ := ad.get e
  refine ⟨⟨vs, v, h1, e1⟩, fun x H'' hy => ?_⟩
  obtain ⟨rfl, hy⟩ := hy
  have e2 := hy vs h1
  rw [e1] at e2
  cases e2
  exact ⟨I', Ext.refl g, da_mono s _ _ a1⟩
def chars (z : Str) : List PyData := z.cps.toList.map fun c => .str ⟨#[c]⟩
theorem runs_str {I : Hp} {z : Str} : Runs Z (Its z) I (chars z) := fun I' H' g s => by
  refine ⟨fun i y e => ?_, by show z.cps.size ≤ _; unfold chars; rw [List.length_map, Array.length_toList]; exact Nat.le_refl _⟩
  unfold chars at e
  rw [List.getElem?_map] at e
  obtain ⟨c, e1, rfl⟩ := Option.map_eq_some_iff.mp e
  have e3 : z.cps[i]? = some c := by rw [← Array.getElem?_toList]; exact e1
  refine ⟨(Array.getElem?_eq_some_iff.mp e3).1, fun x H'' hy => ?_⟩
  obtain ⟨rfl, c', e2, rfl⟩ := hy
  rw [e3] at e2
  cases e2
  exact ⟨I', Ext.refl g, .str _⟩
def rangeD (lo : Int) (n : Nat) : List PyData := (List.range n).map fun (i : Nat) => .int (lo + i)
theorem runs_range {I : Hp} {lo : Int} {n : Nat} : Runs Z (Itr lo n) I (rangeD lo n) := fun I' H' g s => by
  refine ⟨fun i y e => ?_, by show n ≤ _; unfold rangeD; rw [List.length_map, List.length_range]; exact Nat.le_refl _⟩
  unfold rangeD at e
  rw [List.getElem?_map] at e
  obtain ⟨c, e1, rfl⟩ := Option.map_eq_some_iff.mp e
  have hi : i < n := by
    have := (List.getElem?_eq_some_iff.mp e1).1
    rwa [List.length_range] at this
  rw [List.getElem?_range hi] at e1
  cases e1
  refine ⟨hi, fun x H'' hy => ?_⟩
  obtain ⟨rfl, rfl⟩ := hy
  exact ⟨I', Ext.refl g, .int _⟩
/-- a list, a tuple, a text -/
def iAny (K : PySem.W.Frag) (tl : TE) : TI := fun σ H R => tl σ H fun x H1 => (∃ a, x = .ref a ∧ (∃ xs, SqL K H1 a xs) ∧ R (Itl K a) H1) ∨ (∃ a, x = .ref a ∧ (∃ xs, SqT K H1 a xs) ∧ R (Itt K a) H1) ∨ ∃ z, x = .str z ∧ R (Its z) H1
theorem pi_any (he : PE X e te) : PI X tg e (iAny X.K te) := by
  refine ⟨fun pins s σ H R I h => ?_⟩
  refine thn (he.run pins s σ H _ I h) fun v s1 ⟨y, H1, I1, r1, q1⟩ => ?_
  rcases q1 with ⟨a, e, ⟨xs, hq⟩, q⟩ | ⟨a, e, ⟨xs, hq⟩, q⟩ | ⟨z, e, q⟩
  · subst e
    cases r1
    obtain ⟨its, rv, p, hz⟩ := I1.list hq
    refine wpAny_pyIter_list p.isList ?_
    refine ⟨s1.heap.objs.size, [s1.heap.objs.size], _, _, H1, rfl, I1.kept (t' := s1.toks) fun b o e => Heap.get?_push_of_some _ e, turn_list a _, ⟨_, Heap.get?_push_size _ rfl, rfl, rfl⟩, fun b hb => ?_, q⟩
    have e : b = s1.heap.objs.size := by simpa using hb
    subst e
    exact I1.fpOk (Nat.le_refl _) (I1.hok.fresh (Nat.le_refl _))
  · subst e
    cases r1
    obtain ⟨its, rv, p, hz⟩ := I1.tuple hq
    refine wpAny_pyIter_tuple (show s1.heap.IsTuple a its.toArray from p) ?_
    refine ⟨s1.heap.objs.size, [s1.heap.objs.size], _, _, H1, rfl, I1.kept (t' := s1.toks) fun b o e => Heap.get?_push_of_some _ e, turn_tuple a _, ⟨_, Heap.get?_push_size _ rfl, rfl, rfl⟩, fun b hb => ?_, q⟩
    have e : b = s1.heap.objs.size := by simpa using hb
    subst e
    exact I1.fpOk (Nat.le_refl _) (I1.hok.fresh (Nat.le_refl _))
  · subst e
    obtain ⟨t, rfl⟩ := r1
    cases ha : z.cps.all (· < 128)
    · exact wpAny_pyIter_wide ha (pi_one (tk := s1.toks) I1 _ (turn_str _ z t "str_iterator" (.inr rfl)) ⟨_, Heap.get?_push_size _ rfl, rfl, rfl⟩ q)
    · exact wpAny_pyIter_ascii ha (pi_one (tk := s1.toks) I1 _ (turn_str _ z t "str_ascii_iterator" (.inl rfl)) ⟨_, Heap.get?_push_size _ rfl, rfl, rfl⟩ q)
/-- what is walked of a value -/
def itemsOf : DV → Option (List PyData)
  | .d (.list xs) => some xs
  | .d (.tuple xs) => some xs
  | .d (.str z) => some (chars z)
  | _ => none
def strFits : DV → Prop
  | .d (.str z) => z.length ≤ sizeLine
  | _ => True
def dAny (d : TD) : TDI := fun δ Q E => d δ (fun x => strFits (froz x) ∧ match itemsOf (froz x) with
  | some ds => Q ds
  | none => False) E
theorem di_any' (h : DE X Z e te d) (hK : Z.K = X.K) : DI X Z tg e (iAny X.K te) (dAny d) := by
  refine ⟨pi_any h.pe, fun I H δ σ Qd Ed R hh q k => h.rf I H δ σ _ Ed _ hh q (Then.frz (Qd := fun x => strFits x ∧ match itemsOf x with | some ds => Qd ds | none => False) fun x v I1 H1 e1 a1 q1 => ?_)⟩
  obtain ⟨hz, q1⟩ := q1
  split at q1
  · rename_i ds ed
    unfold itemsOf at ed
    split at ed
    · cases ed
      cases a1 with
      | lst h1 h2 =>
        have l := e1.good.len _ _ h1
        have l2 := h2.len
        rw [← hK]
        refine .inl ⟨_, rfl, ⟨_, SqL.of (e1.good.sub _ _ h1)⟩, k _ _ I1 H1 e1 (runs_list h1 h2) (by have l' : List.length _ ≤ sizeLine := l; omega) q1⟩
    · cases ed
      obtain ⟨p, vs, rfl, h1, h1', h2⟩ := tup_at e1.good a1
      have l := tup_len e1.good h1
      have l2 := h2.len
      rw [← hK]
      exact .inr (.inl ⟨_, rfl, ⟨_, h1'⟩, k _ _ I1 H1 e1 (runs_tup h1 h2) (by omega) q1⟩)
    · cases ed
      cases a1
      refine .inr (.inr ⟨_, rfl, k _ _ I1 H1 e1 runs_str ?_ q1⟩)
      unfold chars
      rw [List.length_map, Array.length_toList]
      exact hz
    · cases ed
  · exact q1.elim
theorem di_any (h : DE X Z e te d) (hK : Z.K = X.K) : DI X Z tg e (iAny Z.K te) (dAny d) := by rw [hK]; exact di_any' h hK
/-- range(n), range(a, b) -/
def dRng1 (a : TDA) : TDI := fun δ Q E => a δ (fun xs => match xs with
  | [.d (.int j)] => j ≤ sizeLine ∧ -(2 ^ 62) ≤ j ∧ Q (rangeD 0 j.toNat)
  | _ => False) E
theorem di_range1 {a : Expr} {ta : TA} {da : TDA} {p : Pos} (hg : Gl X "range") (hm : X.mg "range" = none) (h : DA X Z [a] ta da) (hs : starEach [a] X.env = [(false, eval a X.env)] := by rfl) : DI X Z tg (.Call (.Name "range" p) [a] [] pos) (iRng1 ta) (dRng1 da) := by
  refine ⟨pi_range1 hg hm h.pa hs, fun I H δ σ Qd Ed R hh q k => h.rf I H δ σ _ Ed _ hh q fun xs vs I1 H1 e1 a1 q1 => ?_⟩
  split at q1
  · obtain ⟨v, rfl, a2⟩ := at1 a1
    cases a2
    obtain ⟨h1, h2, q1⟩ := q1
    have sz : (sizeLine : Int) < 2 ^ 62 := by decide
    refine ⟨_, rfl, h2, by omega, k _ _ I1 H1 e1 runs_range ?_ q1⟩
    unfold rangeD
    rw [List.length_map, List.length_range]
    omega
  · exact q1.elim
def dRng2 (a : TDA) : TDI := fun δ Q E => a δ (fun xs => match xs with
  | [.d (.int i), .d (.int j)] => (j - i ≤ sizeLine ∧ -(2 ^ 62) ≤ i ∧ i < 2 ^ 62 ∧ -(2 ^ 62) ≤ j ∧ j < 2 ^ 62) ∧ Q (rangeD i (j - i).toNat)
  | _ => False) E
theorem di_range2 {a b : Expr} {ta : TA} {da : TDA} {p : Pos} (hg : Gl X "range") (hm : X.mg "range" = none) (h : DA X Z [a, b] ta da) (hs : starEach [a, b] X.env = [(false, eval a X.env), (false, eval b X.env)] := by rfl) (hs2 : starEach [b] X.env = [(false, eval b X.env)] := by rfl) : DI X Z tg (.Call (.Name "range" p) [a, b] [] pos) (iRng2 ta) (dRng2 da) := by
  refine ⟨pi_range2 hg hm h.pa hs hs2, fun I H δ σ Qd Ed R hh q k => h.rf I H δ σ _ Ed _ hh q fun xs vs I1 H1 e1 a1 q1 => ?_⟩
  split at q1
  · obtain ⟨v, u, rfl, a2, a3⟩ := at2 a1
    cases a2; cases a3
    obtain ⟨⟨h1, h2, h3, h4, h5⟩, q1⟩ := q1
    refine ⟨_, _, rfl, ⟨h2, h3, h4, h5⟩, k _ _ I1 H1 e1 runs_range ?_ q1⟩
    unfold rangeD
    rw [List.length_map, List.length_range]
    omega
  · exact q1.elim

/-! ### for -/
def forGo (dg : TDG) (tb : TDS) : List PyData → DEnds → EK → DEnv → Prop
  | [], D, _, δ => D.nx δ
  | d :: ds, D, E, δ => dg (.d d) δ (fun δ' => tb { D with nx := forGo dg tb ds D E, ct := forGo dg tb ds D E, bk := D.nx } E δ')
def dFor (ti : TDI) (dg : TDG) (tb : TDS) : TDS := fun D E δ => ti δ (fun ds => forGo dg tb ds D E δ) E
theorem ds_for {iter : Expr} {body : List Stmt} {wi : TI} {di : TDI} {g : TG} {dg : TDG} {ts : TS} {tb : TDS} (fl : Flat Z) (hp : PassesOwn (model X.prog X.w) X.A X.env X.xe) (hc : X.calm = true) (hi : DI X Z tg iter wi di) (hg : DG X Z tg g dg) (hb : DSs X Z body ts tb)
    (hs : ∀ x, foldedSetIterable iter X.env x = pure x := by intro _; rfl) : DS X Z (.For tg iter body [] pos) (tFor wi g ts) (dFor di dg tb) := by
  refine ⟨ps_for hp hc hi.pi hg.pg hb.ps hs, fun I H δ σ D Ed T hh q l => hi.rf I H δ σ _ Ed _ hh q fun J ds I1 H1 e1 rn hl q1 => ?_⟩
  have h1 := hh.ext e1
  refine ⟨fun i m σ' H' => m = ds.length - i ∧ i ≤ ds.length ∧ ∃ I' δ', Ext Z.R Z.I0 Z.H0 I' H' ∧ Same I1 I' ∧ EnvAt Z I' H' δ' σ' ∧ forGo dg tb (ds.drop i) D Ed δ', ⟨ds.length, by simp, Nat.zero_le _, I1, δ, h1.e0, Same.refl _, h1.env, by simpa using q1⟩, ?_⟩
  rintro i m σ' H' ⟨rfl, hi', I', δ', e', s', env', q'⟩
  obtain ⟨go, stop⟩ := rn I' H' e'.good s'
  by_cases hlt : i < ds.length
  · have ed : ds[i]? = some ds[i] := by simp [hlt]
    rw [List.drop_eq_getElem_cons hlt] at q'
    obtain ⟨g1, g2⟩ := go i _ ed
    refine .inr ⟨g1, fun σ2 H2 => ∃ I2 δ2, Ext Z.R Z.I0 Z.H0 I2 H2 ∧ Same I1 I2 ∧ EnvAt Z I2 H2 δ2 σ2 ∧ forGo dg tb (ds.drop (i + 1)) D Ed δ2, fun σ2 H2 w2 => ⟨ds.length - (i + 1), by omega, rfl, hlt, w2⟩, fun x H'' hy => ?_⟩
    obtain ⟨I'', ex, ax⟩ := g2 x H'' hy
    have e'' := e'.trans hh.g0 ex
    refine hg.rf I'' H'' δ' σ' (.d _) x _ _ H'' ex.good (env'.ext ex) ax q' fun δ3 σ3 I3 H3 ex3 env3 q3 => ?_
    have ex := ex.trans e'.good ex3
    have e'' := e'.trans hh.g0 ex
    exact hb.rf I3 H3 δ3 σ3 _ Ed _ (hh.at_ fl e'' env3) q3
      ⟨fun δ4 σ4 I4 H4 e4 s4 env4 q4 => ⟨I4, δ4, e4, (s'.trans ex.sub).trans s4, env4, q4⟩, l.rt, fun δ4 σ4 I4 H4 e4 s4 env4 q4 => l.nx δ4 σ4 I4 H4 e4 (e1.sub.trans ((s'.trans ex.sub).trans s4)) env4 q4,
        fun δ4 σ4 I4 H4 e4 s4 env4 q4 => ⟨I4, δ4, e4, (s'.trans ex.sub).trans s4, env4, q4⟩⟩
  · have e : i = ds.length := by omega
    subst e
    rw [List.drop_length] at q'
    exact .inl ⟨stop, l.nx δ' σ' I' H' e' (e1.sub.trans s') env' q'⟩
/-! ### while -/
def whGo (c : TDT) (tb : TDS) : Nat → DEnds → EK → DEnv → Prop
  | 0, _, _, _ => False
  | n + 1, D, E, δ => c δ (fun b => if b = true then tb { D with nx := whGo c tb n D E, ct := whGo c tb n D E, bk := D.nx } E δ else D.nx δ) E
def dWhile (c : TDT) (tb : TDS) : TDS := fun D E δ => ∃ n, whGo c tb n D E δ
theorem ds_while {c : Expr} {body : List Stmt} {tc : TT} {dc : TDT} {ts : TS} {tb : TDS} (fl : Flat Z) (hp : PassesOwn (model X.prog X.w) X.A X.env X.xe) (hc : DT X Z c tc dc) (hb : DSs X Z body ts tb) : DS X Z (.While c body [] pos) (tWhile tc ts) (dWhile dc tb) := by
  refine ⟨ps_while hp hc.pt hb.ps, fun I H δ σ D Ed T hh q l => ?_⟩
  obtain ⟨n, q⟩ := q
  refine ⟨fun m σ' H' => ∃ I' δ', Ext Z.R Z.I0 Z.H0 I' H' ∧ Same I I' ∧ EnvAt Z I' H' δ' σ' ∧ whGo dc tb m D Ed δ', ⟨n, I, δ, hh.e0, Same.refl _, hh.env, q⟩, ?_⟩
  rintro m σ' H' ⟨I', δ', e', s', env', q'⟩
  cases m with
  | zero => exact q'.elim
  | succ m =>
    refine hc.rf I' H' δ' σ' _ Ed _ (hh.at_ fl e' env') q' fun b I1 H1 e1 q1 => ?_
    have e1' := e'.trans hh.g0 e1
    cases b with
    | false => exact l.nx δ' σ' I1 H1 e1' (s'.trans e1.sub) (env'.ext e1) q1
    | true =>
      refine ⟨fun σ2 H2 => ∃ I2 δ2, Ext Z.R Z.I0 Z.H0 I2 H2 ∧ Same I I2 ∧ EnvAt Z I2 H2 δ2 σ2 ∧ whGo dc tb m D Ed δ2, fun σ2 H2 w2 => ⟨m, Nat.lt_succ_self m, w2⟩, ?_⟩
      exact hb.rf I1 H1 δ' σ' _ Ed _ (hh.at_ fl e1' (env'.ext e1)) q1
        ⟨fun δ4 σ4 I4 H4 e4 s4 env4 q4 => ⟨I4, δ4, e4, (s'.trans e1.sub).trans s4, env4, q4⟩, l.rt, fun δ4 σ4 I4 H4 e4 s4 env4 q4 => l.nx δ4 σ4 I4 H4 e4 ((s'.trans e1.sub).trans s4) env4 q4,
          fun δ4 σ4 I4 H4 e4 s4 env4 q4 => ⟨I4, δ4, e4, (s'.trans e1.sub).trans s4, env4, q4⟩⟩
/-! ### a list of one's own, changed -/
theorem ext_upd {R : Reg} {I0 H0' I H : Hp} {p : Addr} {o : HO} (e : Ext R I0 H0' I H) (hn : H0' p = none) (m : ¬ R.m p) (hi : I p = none) : Ext R I0 H0' I (upd H p o) := by
  refine ⟨⟨fun a u q => ?_, R.st H _ e.good.j fun a u ma q => ?_, e.good.off, e.good.len⟩, e.sub, e.fresh, fun a u q ma => ?_⟩
  · rw [upd_ne (ne_of_none q hi)]; exact e.good.sub a u q
  · rw [upd_ne (fun z => m (by rw [← z]; exact ma))]; exact q
  · rw [upd_ne (ne_of_none q hn)]; exact e.keep a u q ma
theorem EnvAt.upd {I H : Hp} {δ : DEnv} {σ : St} {i : Nat} {xs ys : List PyData} {p : Addr} {us : List V} (h : EnvAt Z I H δ σ) (hi : δ[i]? = some (some (.own xs))) (hv : σ[i]? = some (some (.ref p))) (ay : DaAll Z.K I us ys) (hl : us.length ≤ sizeLine) : EnvAt Z I (L2.upd H p (.lst us)) (δ.set i (some (.own ys))) σ := by
  obtain ⟨v, e1, ⟨⟨q, vs, rfl, h1, h2, h3, h4, h5⟩, h6⟩⟩ := h.val i _ hi
  rw [hv] at e1
  cases e1
  have up : ∀ {v : V} {zs : List PyData}, Own Z.K Z.R I H v zs → v ≠ .ref p → Own Z.K Z.R I (L2.upd H p (.lst us)) v zs := fun {v zs} o ne => by
    obtain ⟨a, vs, rfl, o1, o2, o3, o4, o5⟩ := o
    exact ⟨a, vs, rfl, by rw [upd_ne (fun z => ne (by rw [z]))]; exact o1, o2, o3, o4, o5⟩
  refine ⟨by rw [List.length_set]; exact h.len, fun j y q => ?_, fun j k zs ws v hn g1 g2 g3 g4 => ?_⟩
  · rcases get_set_some q with ⟨rfl, rfl, hlt⟩ | ⟨hj, q⟩
    · exact ⟨_, hv, ⟨p, us, rfl, upd_same, ay, h3, h4, hl⟩, h6⟩
    · obtain ⟨v, f1, f2⟩ := h.val j y q
      refine ⟨v, f1, ?_⟩
      cases y with
      | d y => exact f2
      | new zs => exact f2
      | v u => exact f2
      | bor f zs => exact ⟨f2.1, up f2.2.1 fun z => f2.2.2 p z (h6 p rfl), f2.2.2⟩
      | own zs => exact ⟨up f2.1 fun z => h.apart i j xs zs v hj hi q (by rw [hv, z]) f1, f2.2⟩
  · rcases get_set_some g1 with ⟨rfl, _, _⟩ | ⟨hj, g1⟩
    · rcases get_set_some g2 with ⟨rfl, _, _⟩ | ⟨hk, g2⟩
      · exact hn rfl
      · exact h.apart i k xs ws v hk hi g2 g3 g4
    · rcases get_set_some g2 with ⟨rfl, _, _⟩ | ⟨hk, g2⟩
      · exact h.apart i j xs zs v hj hi g1 g4 g3
      · exact h.apart j k zs ws v hn g1 g2 g3 g4
/-- x.append(e) -/
def dApp (i : Nat) (d : TD) : TDS := fun D E δ => match δ[i]? with
  | some (some (.own xs)) => d δ (fun y => match froz y with
    | .d y => xs.length < sizeLine ∧ D.nx (δ.set i (some (.own (xs ++ [y]))))
    | _ => False) E
  | _ => False
theorem ds_app {i : Nat} {st : Stmt} {K : PySem.W.Frag} (hK : Z.K = K) (h : DE X Z e te d) (hp : PE X e te → PS X st (tDrop (tBM K "list" rAppend (tVar i) (tCons te tNil)))) : DS X Z st (tDrop (tBM K "list" rAppend (tVar i) (tCons te tNil))) (dApp i d) := by
  subst hK
  refine ⟨hp h.pe, fun I H δ σ D Ed T hh q l => ?_⟩
  unfold dApp at q
  split at q
  · rename_i xs ex
    obtain ⟨v, e1, ⟨⟨p, vs, rfl, h1, h2, h3, h4, h5⟩, h6⟩⟩ := hh.env.val i _ ex
    refine ⟨_, e1, .inl ⟨rfl, vs, SqL.of h1⟩, h.rf I H δ σ _ Ed _ hh q (Then.frz (Qd := fun y => match y with | .d y => xs.length < sizeLine ∧ D.nx (δ.set i (some (.own (xs ++ [y])))) | _ => False) fun y w I' H' e ay q => ?_)⟩
    dsimp only at q
    split at q
    · have l1 := h2.len
      have e0 := hh.e0.trans hh.g0 e
      have env := hh.env.ext e
      obtain ⟨v', e1', ⟨⟨p', vs', e2', h1', h2', h3', h4', h5'⟩, h6'⟩⟩ := env.val i _ ex
      rw [e1] at e1'
      cases e1'
      cases e2'
      refine ⟨p, vs', w, rfl, rfl, h1', by have := h2'.len; omega, ?_⟩
      exact l.nx _ σ I' _ (ext_upd e0 (h6 p rfl) h4 h3') e.sub (env.upd ex e1 (h2'.app (.cons ay .nil)) (by rw [List.length_append]; have := h2'.len; simp only [List.length_cons, List.length_nil]; omega)) q.2
    · exact q.elim
  · exact q.elim
end

/-! ### comprehensions -/
def wipeD (δ : DEnv) : List Nat → DEnv
  | [] => δ
  | v :: vs => (wipeD δ vs).set v none
theorem wipeD_length (δ : DEnv) : ∀ vs : List Nat, (wipeD δ vs).length = δ.length
  | [] => rfl
  | v :: vs => by unfold wipeD; rw [List.length_set, wipeD_length δ vs]
theorem wipeD_some {δ : DEnv} {i : Nat} {x : DV} : ∀ {vs : List Nat}, (wipeD δ vs)[i]? = some (some x) → δ[i]? = some (some x) ∧ i ∉ vs
  | [], h => ⟨h, by simp⟩
  | v :: vs, h => by
    unfold wipeD at h
    by_cases hi : v = i
    · subst hi
      by_cases hv : v < (wipeD δ vs).length
      · rw [List.getElem?_set_self hv] at h; cases h
      · rw [List.getElem?_eq_none (by simpa using hv)] at h; cases h
    · rw [List.getElem?_set_ne hi] at h
      obtain ⟨h1, h2⟩ := wipeD_some h
      exact ⟨h1, by simp only [List.mem_cons, not_or]; exact ⟨fun e => hi e.symm, h2⟩⟩
theorem EnvAt.wipe {Z : Zx} {I H : Hp} {δ : DEnv} {σ : St} (h : EnvAt Z I H δ σ) (vs : List Nat) : EnvAt Z I H (wipeD δ vs) (L2.wipe σ vs) where
  len := by rw [wipeD_length, wipe_length]; exact h.len
  val := fun i x q => by
    obtain ⟨q1, q2⟩ := wipeD_some q
    obtain ⟨v, e1, e2⟩ := h.val i x q1
    exact ⟨v, by rw [wipe_out q2]; exact e1, e2⟩
  apart := fun i j xs ys v hn h1 h2 h3 h4 => by
    obtain ⟨a1, a2⟩ := wipeD_some h1
    obtain ⟨b1, b2⟩ := wipeD_some h2
    rw [wipe_out a2] at h3
    rw [wipe_out b2] at h4
    exact h.apart i j xs ys v hn a1 b1 h3 h4
/-- the same but for what is wanted of exceptions -/
theorem EnvAt.other {Z : Zx} {W : WX} {I H : Hp} {δ : DEnv} {σ : St} (h : EnvAt Z I H δ σ) : EnvAt { Z with W := W } I H δ σ := ⟨h.len, h.val, h.apart⟩
theorem EnvAt.back {Z : Zx} {W : WX} {I H : Hp} {δ : DEnv} {σ : St} (h : EnvAt { Z with W := W } I H δ σ) : EnvAt Z I H δ σ := ⟨h.len, h.val, h.apart⟩
/-- a target stores in these slots alone -/
def Tgt (g : TG) (vs : List Nat) : Prop := ∀ v σ H Q, g v σ H Q → g v σ H fun σ' H' => L2.wipe σ' vs = L2.wipe σ vs ∧ Q σ' H'
theorem wipe_set {σ : St} {i : Nat} {x : Option V} : ∀ {vs : List Nat}, i ∈ vs → L2.wipe (σ.set i x) vs = L2.wipe σ vs
  | v :: vs, h => by
    by_cases hv : i ∈ vs
    · show (L2.wipe (σ.set i x) vs).set v none = (L2.wipe σ vs).set v none
      rw [wipe_set hv]
    · have e : i = v := by
        rcases List.mem_cons.mp h with e | e
        · exact e
        · exact absurd e hv
      subst e
      show (L2.wipe (σ.set i x) vs).set i none = (L2.wipe σ vs).set i none
      apply List.ext_getElem?
      intro j
      by_cases hj : i = j
      · subst hj
        rw [List.getElem?_set, List.getElem?_set, wipe_length, wipe_length, List.length_set, if_pos rfl, if_pos rfl]
      · rw [List.getElem?_set_ne hj, List.getElem?_set_ne hj]
        by_cases hm : j ∈ vs
        · have wn : ∀ {τ : St} {ws : List Nat}, j ∈ ws → (L2.wipe τ ws)[j]? = if j < τ.length then some none else none := fun {τ ws} hm => by
            induction ws with
            | nil => simp at hm
            | cons w ws ih =>
              show ((L2.wipe τ ws).set w none)[j]? = _
              by_cases hw : w = j
              · subst hw
                rw [List.getElem?_set, if_pos rfl, wipe_length]
              · rw [List.getElem?_set_ne hw]
                exact ih ((List.mem_cons.mp hm).resolve_left fun e => hw e.symm)
          rw [wn hm, wn hm, List.length_set]
        · rw [wipe_out hm, wipe_out hm, List.getElem?_set_ne hj]
theorem tgt_name {i : Nat} {vs : List Nat} (h : i ∈ vs) : Tgt (gName i) vs := fun v σ H Q q => ⟨wipe_set h, q⟩
def TgtS (g : TGs) (vs : List Nat) : Prop := ∀ us σ H Q, g us σ H Q → g us σ H fun σ' H' => L2.wipe σ' vs = L2.wipe σ vs ∧ Q σ' H'
theorem tgts_nil {vs : List Nat} : TgtS gNil vs := fun us σ H Q ⟨e, q⟩ => ⟨e, rfl, q⟩
theorem tgts_cons {g : TG} {gs : TGs} {vs : List Nat} (mono : ∀ us σ H Q Q', gs us σ H Q → (∀ a b, Q a b → Q' a b) → gs us σ H Q') (h : Tgt g vs) (h' : TgtS gs vs) (gm : ∀ v σ H Q Q', g v σ H Q → (∀ a b, Q a b → Q' a b) → g v σ H Q') : TgtS (gCons g gs) vs := fun us σ H Q q => by
  obtain ⟨v, r, rfl, q⟩ := q
  refine ⟨v, r, rfl, gm _ _ _ _ _ (h v σ H _ q) fun a b ⟨e, q⟩ => mono _ _ _ _ _ (h' r a b _ q) fun a' b' ⟨e', q⟩ => ⟨e'.trans e, q⟩⟩
theorem tgt_names : ∀ {is : List Nat} {vs : List Nat}, (∀ i ∈ is, i ∈ vs) → TgtS (is.foldr (fun i r => gCons (gName i) r) gNil) vs ∧ ∀ us σ H Q Q', (is.foldr (fun i r => gCons (gName i) r) gNil) us σ H Q → (∀ a b, Q a b → Q' a b) → (is.foldr (fun i r => gCons (gName i) r) gNil) us σ H Q'
  | [], vs, _ => ⟨tgts_nil, fun us σ H Q Q' ⟨e, q⟩ k => ⟨e, k _ _ q⟩⟩
  | i :: is, vs, h => by
    obtain ⟨h1, h2⟩ := tgt_names (is := is) (vs := vs) fun j hj => h j (List.mem_cons_of_mem _ hj)
    exact ⟨tgts_cons h2 (tgt_name (h i List.mem_cons_self)) h1 fun v σ H Q Q' q k => k _ _ q, fun us σ H Q Q' ⟨v, r, e, q⟩ k => ⟨v, r, e, h2 _ _ _ _ _ q k⟩⟩
theorem tgt_tup {K : PySem.W.Frag} {n : Nat} {gs : TGs} {vs : List Nat} (h : TgtS gs vs) : Tgt (gTup K n gs) vs := fun v σ H Q ⟨a, xs, e, s, l, q⟩ => ⟨a, xs, e, s, l, h _ _ _ _ q⟩
def lcGo (body : PyData → (Option PyData → Prop) → Prop) : List PyData → List PyData → (List PyData → Prop) → Prop
  | [], acc, Q => Q acc
  | d :: ds, acc, Q => body d (fun o => lcGo body ds (acc ++ o.toList) Q)
def noE : EK := fun _ => False
def dLc (ti : TDI) (dg : TDG) (dt : TDT) (de : TD) (vs : List Nat) : TD := fun δ Q E => ti δ (fun ds =>
  lcGo (fun d K => dg (.d d) (wipeD δ vs) (fun δ' => dt δ' (fun b => if b = true then de δ' (fun y => match froz y with | .d y => K (some y) | _ => False) noE else K none) noE)) ds [] (fun ys => Q (.new ys))) E
structure DTs (X : Cx) (Z : Zx) (ifs : List Expr) (te : TT) (t : TDT) : Prop where
  pt : PTs X ifs te
  rf : ∀ I H δ σ Qd Ed Q, Here Z I H δ σ Ed → t δ Qd Ed → ThenB Z I H Qd Q → te σ H Q
def dYes : TDT := fun _ Q _ => Q true
section
variable {X : Cx} {Z : Zx} {pos : Pos}
theorem dts_nil : DTs X Z [] tYes dYes := ⟨pts_nil, fun I H δ σ Qd Ed Q hh t k => k true I H (Ext.refl hh.g) t⟩
theorem dts_one {c : Expr} {te : TT} {t : TDT} (h : DT X Z c te t) : DTs X Z [c] te t := ⟨pts_one h.pt, h.rf⟩
/-- nothing is let out -/
def Zx.calm (Z : Zx) : Zx := { Z with W := fun _ _ _ _ => False }
theorem lc_rf {wi : TI} {g : TG} {tt : TT} {te : TE} {vs : List Nat} {ti : TDI} {dg : TDG} {dt : TDT} {de : TD}
    (hi : ∀ I H δ σ Qd Ed (R : It → Hp → Prop), Here Z I H δ σ Ed → ti δ Qd Ed → (∀ J ds I' H', Ext Z.R I H I' H' → Runs Z J I' ds → ds.length ≤ sizeLine → Qd ds → R J H') → wi σ H R)
    (hg : ∀ I H δ σ x v Qd Q Hs, Good Z.R I H → EnvAt Z.calm I H δ σ → At Z.calm Hs I H x v → dg x δ Qd → (∀ δ' σ' I' H', Ext Z.R I H I' H' → EnvAt Z.calm I' H' δ' σ' → Qd δ' → Q σ' H') → g v σ H Q)
    (ht : ∀ I H δ σ Qd Ed Q, Here Z.calm I H δ σ Ed → dt δ Qd Ed → ThenB Z.calm I H Qd Q → tt σ H Q)
    (he : ∀ I H δ σ Qd Ed Q, Here Z.calm I H δ σ Ed → de δ Qd Ed → Then Z.calm I H Qd Q → te σ H Q) (tg : Tgt g vs) :
    ∀ I H δ σ Qd Ed Q, Here Z I H δ σ Ed → dLc ti dg dt de vs δ Qd Ed → Then Z I H Qd Q → tLc wi g tt te vs σ H Q := fun I H δ σ Qd Ed Q hh q k => by
  refine hi I H δ σ _ Ed _ hh q fun J ds I1 H1 e1 rn hl q1 D hD => ?_
  have h1 := hh.ext e1
  have k1 := k.ext hh.g e1
  obtain ⟨n1, n2⟩ := fresh_off h1.g hD
  have hD0 : Z.H0 D = none := h1.old D hD
  generalize hb : (fun d K => dg (.d d) (wipeD δ vs) (fun δ' => dt δ' (fun b => if b = true then de δ' (fun y => match froz y with | .d y => K (some y) | _ => False) noE else K none) noE) : PyData → (Option PyData → Prop) → Prop) = body at q1
  refine ⟨fun i m H' => m = ds.length - i ∧ i ≤ ds.length ∧ ∃ I' acc us, Ext Z.R I1 H1 I' H' ∧ H' D = some (.lst us) ∧ DaAll Z.K I' us acc ∧ I' D = none ∧ acc.length ≤ i ∧ lcGo body (ds.drop i) acc (fun ys => Qd (.new ys)),
    ⟨ds.length, by simp, Nat.zero_le _, I1, [], [], ext_own h1.g hD, upd_same, .nil, n1, Nat.le_refl _, by simpa using q1⟩, ?_⟩
  rintro i m H' ⟨rfl, hi', I', acc, us, e', hu, au, nu, la, q'⟩
  obtain ⟨go, stop⟩ := rn I' H' e'.good e'.sub
  have l2 := au.len
  by_cases hlt : i < ds.length
  · have ed : ds[i]? = some ds[i] := by simp [hlt]
    rw [List.drop_eq_getElem_cons hlt] at q'
    obtain ⟨g1, g2⟩ := go i _ ed
    refine .inr ⟨g1, fun H2 => i + 1 ≤ ds.length ∧ ∃ I' acc us, Ext Z.R I1 H1 I' H2 ∧ H2 D = some (.lst us) ∧ DaAll Z.K I' us acc ∧ I' D = none ∧ acc.length ≤ i + 1 ∧ lcGo body (ds.drop (i + 1)) acc (fun ys => Qd (.new ys)),
      fun H2 w2 => ⟨ds.length - (i + 1), by omega, rfl, w2⟩, fun x H'' hy => ?_⟩
    obtain ⟨I'', ex, ax⟩ := g2 x H'' hy
    have e'' := e'.trans h1.g ex
    have env'' : EnvAt Z I'' H'' (wipeD δ vs) (L2.wipe σ vs) := (h1.env.ext e'').wipe vs
    subst hb
    have wi : ∀ ws : List Nat, L2.wipe (L2.wipe σ ws) ws = L2.wipe σ ws := fun ws => by
      have : ∀ (τ : St) (us : List Nat), (∀ u ∈ us, u < τ.length → τ[u]? = some none) → L2.wipe τ us = τ := fun τ us => by
        induction us with
        | nil => intro _; rfl
        | cons u us ih =>
          intro h
          show (L2.wipe τ us).set u none = τ
          rw [ih fun v hv => h v (List.mem_cons_of_mem _ hv)]
          by_cases hu : u < τ.length
          · have e := h u List.mem_cons_self hu
            obtain ⟨_, e2⟩ := List.getElem?_eq_some_iff.mp e
            apply List.ext_getElem?
            intro j
            by_cases hj : u = j
            · subst hj
              rw [List.getElem?_set_self hu, e]
            · rw [List.getElem?_set_ne hj]
          · exact List.set_eq_of_length_le (by omega)
      refine this _ _ fun u hu hl => ?_
      have wn : ∀ {τ : St} {ws : List Nat} {j : Nat}, j ∈ ws → j < τ.length → (L2.wipe τ ws)[j]? = some none := fun {τ ws j} hm hj => by
        induction ws with
        | nil => simp at hm
        | cons w ws ih =>
          show ((L2.wipe τ ws).set w none)[j]? = _
          by_cases hw : w = j
          · subst hw
            rw [List.getElem?_set_self (by rw [wipe_length]; exact hj)]
          · rw [List.getElem?_set_ne hw]
            exact ih ((List.mem_cons.mp hm).resolve_left fun e => hw e.symm)
      exact wn hu (by rwa [wipe_length] at hl)
    have key : ∀ Q0, g x (L2.wipe σ vs) H'' Q0 → g x (L2.wipe σ vs) H'' (fun σ2 H2 => L2.wipe σ2 vs = L2.wipe σ vs ∧ Q0 σ2 H2) := fun Q0 h => by
      have := tg _ _ _ _ h
      rw [wi] at this
      exact this
    refine key _ (hg I'' H'' (wipeD δ vs) (L2.wipe σ vs) (.d _) x _ _ H'' ex.good env''.other (show Da Z.K I'' x _ from ax) q' fun δ3 σ3 I3 H3 ex3 env3 q3 => ?_)
    have ex := ex.trans e'.good ex3
    have e'' := e'.trans h1.g ex
    · have h3 : Here Z.calm I3 H3 δ3 σ3 noE := ⟨h1.g0, h1.e0.trans h1.g0 e'', env3, fun x c od I2 H2 e2 xa q => q.elim⟩
      refine ht I3 H3 δ3 σ3 _ noE _ h3 q3 fun b I4 H4 e4 q4 => ?_
      have e14 := e''.trans h1.g e4
      have D4 : ∀ {Ia Ha Ib Hb us}, Ext Z.R Ia Ha Ib Hb → Ha D = some (.lst us) → Ia D = none → Hb D = some (.lst us) ∧ Ib D = none := fun {Ia Ha Ib Hb us} ee hh' hn' => by
        refine ⟨ee.keep D _ hh' n2, ?_⟩
        cases z : Ib D with
        | none => rfl
        | some w =>
          rcases ee.fresh D w z with y | y
          · rw [hn'] at y; cases y
          · rw [hh'] at y; cases y
      obtain ⟨u2, v2⟩ := D4 ex hu nu
      obtain ⟨u4, v4⟩ := D4 e4 u2 v2
      cases b with
      | false => exact ⟨hlt, I4, acc, us, e14, u4, daa_mono e4.sub _ _ (daa_mono ex.sub _ _ au), v4, by omega, by simpa using q4⟩
      | true =>
        have h4 : Here Z.calm I4 H4 δ3 σ3 noE := h3.ext e4
        refine he I4 H4 δ3 σ3 _ noE _ h4 q4 (Then.frz (Qd := fun y => match y with | .d y => lcGo _ (ds.drop (i + 1)) (acc ++ (some y).toList) (fun ys => Qd (.new ys)) | _ => False) fun y w I5 H5 e5 ay q5 => ?_)
        dsimp only at q5
        split at q5
        · obtain ⟨u5, v5⟩ := D4 e5 u4 v4
          have au5 := daa_mono e5.sub _ _ (daa_mono e4.sub _ _ (daa_mono ex.sub _ _ au))
          refine ⟨us, u5, by omega, hlt, I5, _, us ++ [w], ext_upd (e14.trans h1.g e5) hD n2 v5, upd_same, au5.app (.cons ay .nil), v5, ?_, q5⟩
          rw [List.length_append]
          simp only [Option.toList, List.length_cons, List.length_nil]
          omega
        · exact q5.elim
  · have e : i = ds.length := by omega
    subst e
    rw [List.drop_length] at q'
    refine .inl ⟨stop, k1 (.new acc) (.ref D) I' H' e' ⟨⟨D, us, rfl, hu, au, nu, n2, by omega⟩, fun b eb => ?_⟩ q'⟩
    cases eb
    exact ⟨hD, hD0⟩
theorem de_lc {elt tg iter : Expr} {ifs : List Expr} {scope : Scope} {own : List (Str × Nat)} {wi : TI} {g : TG} {tt : TT} {te : TE} {ti : TDI} {dg : TDG} {dt : TDT} {de : TD} (hc : X.calm = true) (hN : X.N.Nodup) (hi : DI X Z tg iter wi ti) (ok : BlkOk X.N X.env.scope scope own)
    (hg : ∀ (s : Shared) (H : Hp) (C : Addr) (cl : List (Str × Addr)) (fp : List Addr), DG (X.blk s H scope (compEnvC scope cl C X.env) fp) Z.calm tg g dg) (ht : ∀ (s : Shared) (H : Hp) (C : Addr) (cl : List (Str × Addr)) (fp : List Addr), DTs (X.blk s H scope (compEnvC scope cl C X.env) fp) Z.calm ifs tt dt)
    (he : ∀ (s : Shared) (H : Hp) (C : Addr) (cl : List (Str × Addr)) (fp : List Addr), DE (X.blk s H scope (compEnvC scope cl C X.env) fp) Z.calm elt te de) (tgt : Tgt g (own.map (·.2))) (s0 : Shared) (hs : ∀ x, foldedSetIterable iter X.env x = pure x := by intro _; rfl) :
    DE X Z (.ListComp elt [⟨tg, iter, ifs, 0⟩] scope pos) (tLc wi g tt te (own.map (·.2))) (dLc ti dg dt de (own.map (·.2))) :=
  ⟨pe_lc hc hN hi.pi ok (fun s H C cl fp => (hg s H C cl fp).pg) (fun s H C cl fp => (ht s H C cl fp).pt) (fun s H C cl fp => (he s H C cl fp).pe) hs,
    lc_rf hi.rf (hg s0 (fun _ => none) 0 [] []).rf (ht s0 (fun _ => none) 0 [] []).rf (he s0 (fun _ => none) 0 [] []).rf tgt⟩
end
end PD
set_option Elab.async false
set_option linter.all false
set_option maxRecDepth 100000
set_option maxHeartbeats 1000000
namespace PD
open PySem PySem.Spec PyProof.Rows L2
section
variable {X : Cx} {Z : Zx} {pos : Pos} {e : Expr} {es : List Expr}
/-! ### name = [..] on one line -/
theorem ds_setLc {i : Nat} {y : Str} {py : Pos} {elt tg iter : Expr} {ifs : List Expr} {scope : Scope} {own : List (Str × Nat)} {spos : Pos} {wi : TI} {g : TG} {tt : TT} {te : TE} {ti : TDI} {dg : TDG} {dt : TDT} {de : TD} (s0 : Shared) (hc : X.calm = true) (hN : X.N.Nodup) (hy : X.N[i]? = some y) (hyl : X.env.scope.names.lookup y = some .local)
    (hsw : swapsWith (.ListComp elt [⟨tg, iter, ifs, 0⟩] scope pos) (some (.Name y py)) spos.line X.env = pure true) (hi : DI X Z tg iter wi ti) (ok : BlkOk X.N X.env.scope scope own)
    (hg : ∀ (s : Shared) (H : Hp) (C : Addr) (cl : List (Str × Addr)) (fp : List Addr), DG (X.blk s H scope (compEnvC scope cl C X.env) fp) Z.calm tg g dg) (ht : ∀ (s : Shared) (H : Hp) (C : Addr) (cl : List (Str × Addr)) (fp : List Addr), DTs (X.blk s H scope (compEnvC scope cl C X.env) fp) Z.calm ifs tt dt)
    (he : ∀ (s : Shared) (H : Hp) (C : Addr) (cl : List (Str × Addr)) (fp : List Addr), DE (X.blk s H scope (compEnvC scope cl C X.env) fp) Z.calm elt te de) (tgt : Tgt g (own.map (·.2))) (hs : ∀ x, foldedSetIterable iter X.env x = pure x := by intro _; rfl) :
    DS X Z (.Assign [.Name y py] (.ListComp elt [⟨tg, iter, ifs, 0⟩] scope pos) spos) (tAsg (tLc wi g tt te (own.map (·.2))) (gName i)) (dAsg (dLc ti dg dt de (own.map (·.2))) (dName i)) :=
  ⟨ps_setLc hc hN hy hyl hsw hi.pi ok (fun s H C cl fp => (hg s H C cl fp).pg) (fun s H C cl fp => (ht s H C cl fp).pt) (fun s H C cl fp => (he s H C cl fp).pe) hs,
    asg_rf (lc_rf hi.rf (hg s0 (fun _ => none) 0 [] []).rf (ht s0 (fun _ => none) 0 [] []).rf (he s0 (fun _ => none) 0 [] []).rf tgt) (dg_name (pos := pos) hN hy (.inl hyl) (.inr hyl)).rf⟩
theorem ds_setLcO {i : Nat} {y : Str} {py : Pos} {elt tg iter : Expr} {ifs : List Expr} {scope : Scope} {own : List (Str × Nat)} {spos : Pos} {wi : TI} {g : TG} {tt : TT} {te : TE} {ti : TDI} {dg : TDG} {dt : TDT} {de : TD} (s0 : Shared) (hc : X.calm = true) (hN : X.N.Nodup) (hy : X.N[i]? = some y) (hyl : X.env.scope.names.lookup y = some .local)
    (hsw : swapsWith (.ListComp elt [⟨tg, iter, ifs, 0⟩] scope pos) (some (.Name y py)) spos.line X.env = pure true) (hi : DI X Z tg iter wi ti) (ok : BlkOk X.N X.env.scope scope own)
    (hg : ∀ (s : Shared) (H : Hp) (C : Addr) (cl : List (Str × Addr)) (fp : List Addr), DG (X.blk s H scope (compEnvC scope cl C X.env) fp) Z.calm tg g dg) (ht : ∀ (s : Shared) (H : Hp) (C : Addr) (cl : List (Str × Addr)) (fp : List Addr), DTs (X.blk s H scope (compEnvC scope cl C X.env) fp) Z.calm ifs tt dt)
    (he : ∀ (s : Shared) (H : Hp) (C : Addr) (cl : List (Str × Addr)) (fp : List Addr), DE (X.blk s H scope (compEnvC scope cl C X.env) fp) Z.calm elt te de) (tgt : Tgt g (own.map (·.2))) (hs : ∀ x, foldedSetIterable iter X.env x = pure x := by intro _; rfl) :
    DS X Z (.Assign [.Name y py] (.ListComp elt [⟨tg, iter, ifs, 0⟩] scope pos) spos) (tAsg (tLc wi g tt te (own.map (·.2))) (gName i)) (dAsgO (dLc ti dg dt de (own.map (·.2))) i) :=
  ⟨ps_setLc hc hN hy hyl hsw hi.pi ok (fun s H C cl fp => (hg s H C cl fp).pg) (fun s H C cl fp => (ht s H C cl fp).pt) (fun s H C cl fp => (he s H C cl fp).pe) hs,
    asgO_rf (lc_rf hi.rf (hg s0 (fun _ => none) 0 [] []).rf (ht s0 (fun _ => none) 0 [] []).rf (he s0 (fun _ => none) 0 [] []).rf tgt)⟩
/-! ### exceptions made and raised -/
abbrev TDM := DEnv → EK → EK → Prop
structure DMk (X : Cx) (Z : Zx) (e : Expr) (tm : St → Hp → XK → Prop) (dm : TDM) : Prop where
  pm : PMk X e tm
  rf : ∀ I H δ σ Qx Ed (Q : XK), Here Z I H δ σ Ed → dm δ Qx Ed → (∀ x c od I' H', Ext Z.R I H I' H' → ExAt Z.K I' H' x c od → Qx x → Q c od H') → tm σ H Q
def dRaise (dm : TDM) : TDS := fun _ E δ => dm δ E E
theorem ds_raise {tm : St → Hp → XK → Prop} {dm : TDM} (hc : X.calm = true) (tk : Takes X Z.W) (h : DMk X Z e tm dm) : DS X Z (.Raise (some e) none pos) (fun _ σ H => tm σ H fun cls d H' => Z.W cls d σ H') (dRaise dm) :=
  ⟨ps_raise hc tk h.pm, fun I H δ σ D Ed T hh q l => h.rf I H δ σ _ Ed _ hh q fun x c od I' H' e xa q => hh.w x c od I' H' (hh.e0.trans hh.g0 e) xa q⟩
/-- an own class without fields, made with a text -/
def dMk0 (C : Addr) : TDM := fun _ Qx _ => Qx ⟨C, []⟩
theorem dm_own {x m : Str} {j : Nat} {p p2 : Pos} {C : Addr} {bmB : List Value} {B newId initId : String} (F : ExcBaseFacts B newId initId bmB) (q : PySem.W.excIn X.K C bmB newId = true) (gC : X.mg x = some (.ref C)) (kC : PySem.W.keepIn X.K (.ref C) = true) (r : Raises X (.ref C)) (hg : Gl X x)
    (hdb : (x == ("__debug__" : Str)) = false := by decide) : DMk X Z (.Call (.Name x p) [.Constant (.str m) j p2] [] pos) (fun _ H Q => Q (.ref C) none H) (dMk0 C) :=
  ⟨pmk_own F q gC kC r hg hdb, fun I H δ σ Qx Ed Q hh q k => k ⟨C, []⟩ _ _ I H (Ext.refl hh.g) ⟨rfl, .inl ⟨rfl, rfl⟩⟩ q⟩
/-- what an own class's __init__(self, f): self.f = f does -/
def spOneField (K : PySem.W.Frag) (f : Str) : Sp := fun vs H Q _ => ∃ (a C : Addr) (y : V), vs = [.ref a, y] ∧ OexC K C ∧ PySem.W.findIn K (.ref C) f = some none ∧ H a = some (exo a C none) ∧
  ∀ dx, H dx = none → dx ≠ a → Q .non (upd (upd H dx (exd dx [(f, y)])) a (exo a C (some dx)))
/-- .. made with one datum -/
def dMk1 (C : Addr) (f : Str) (d : TD) : TDM := fun δ Qx E => d δ (fun y => match froz y with
  | .d y => Qx ⟨C, [(f, y)]⟩
  | _ => False) E
theorem dm_one {x f : Str} {p : Pos} {C fI : Addr} {k : Nat} {fd : FuncData} {ps : List Str} {te : TE} {d : TD} (T : OexC X.K C) (no : PySem.W.findIn X.K (.ref C) f = some none) (iC : PySem.W.findIn X.K (.ref C) "__init__" = some (some (.ref fI))) (tI : PySem.W.typeIn X.K (.ref fI) = some (.type "function"))
    (F1 : FnOk X.prog X.w X.K X.mg X.base (L2.CX X.prog X.w) k fI fd ps (spOneField X.K f)) (hr : Room (k + 1) X.A) (hb : Binds X.K fd ps []) (hx : Passes (L2.CX X.prog X.w) X (fun _ _ _ => False)) (hg : Gl X x) (hm : X.mg x = some (.ref C)) (he : DE X Z e te d)
    (hdb : (x == ("__debug__" : Str)) = false := by decide) (hs : starEach [e] X.env = (false, eval e X.env) :: starEach [] X.env := by rfl) (hpl : (backTo pos (starEach [] X.env)).any (·.1) = false := by rfl) :
    DMk X Z (.Call (.Name x p) [e] [] pos) (tMkO C (spOneField X.K f) [] (tCons te tNil)) (dMk1 C f d) := by
  refine ⟨pmk_oex T iC tI F1 hr hb .nil hx hg hm (pa_cons he.pe pa_nil hs) hdb hs hpl, fun I H δ σ Qx Ed Q hh q k => ?_⟩
  refine he.rf I H δ σ _ Ed _ hh q (Then.frz (Qd := fun y => match y with | .d y => Qx ⟨C, [(f, y)]⟩ | _ => False) fun y v I1 H1 e1 ay q1 => ?_)
  dsimp only at q1
  split at q1
  · refine ⟨by show 1 ≤ 1000; decide, fun a ha => ⟨a, C, v, rfl, T, no, upd_same, fun dx hd hne => ?_⟩⟩
    have hd1 : H1 dx = none := by rw [upd_ne hne] at hd; exact hd
    refine ⟨rfl, dx, [(f, v)], upd_same, by rw [upd_ne hne]; exact upd_same, hd1, ?_⟩
    have e2 : upd (del (upd (upd (upd H1 a (exo a C none)) dx (exd dx [(f, v)])) a (exo a C (some dx))) a) dx (.xd [(f, v)]) = upd H1 dx (.xd [(f, v)]) := by
      funext b
      by_cases h1 : b = dx
      · subst h1; rw [upd_same, upd_same]
      · rw [upd_ne h1, upd_ne h1]
        by_cases h2 : b = a
        · subst h2; rw [del_same]; exact ha.symm
        · rw [del_ne h2, upd_ne h2, upd_ne h1, upd_ne h2]
    rw [e2]
    have ex := ext_own (o := .xd [(f, v)]) e1.good hd1
    exact k ⟨C, [(f, _)]⟩ _ _ I1 _ (e1.trans hh.g ex) ⟨rfl, .inr ⟨dx, [(f, v)], rfl, upd_same, rfl, .cons ay .nil⟩⟩ q1
  · exact q1.elim
end
/-- such an __init__ keeps its word -/
theorem one_field {P : Program} {w : World} {K : PySem.W.Frag} {mg : Str → Option Value} {base : Heap} {x qual s f : Str} {params : Arguments} {scope : Scope} {body : List Stmt} {fI : Addr} {fd : FuncData} (F : FunD K x qual params body scope [] [] fI fd) (S : FnScope [s, f] [s, f] scope)
    (hb : ∀ (cdv : Value) (A : Around) (outer : List Env) (s0 : Shared) (H : Hp) (E : XK), PSs (cxOf (L2.CX P w) P w K mg base [s, f] qual scope fI cdv A outer s0 H E) body (tOst K f (tVar 0) (tVar 1))) : FnOk P w K mg base (L2.CX P w) 1 fI fd [s, f] (spOneField K f) := by
  refine F.ok S (fun vs H Q E h => ?_) (fun cdv A outer s0 H vs Q E hr h => ⟨_, hb cdv A outer s0 H E, ?_⟩)
  · obtain ⟨a, C, y, rfl, _⟩ := h
    rfl
  · obtain ⟨a, C, y, rfl, T, no, ha, k⟩ := h
    exact ⟨y, rfl, .ref a, rfl, a, C, rfl, T, no, .inl ⟨ha, fun dx hd hne => k dx hd hne⟩⟩
/-! ### a def of the text keeps its word -/
theorem args_env {Z : Zx} {I H : Hp} (h0 : Z.H0 = H) (g : Good Z.R I H) {xs : List DV} {vs : List V} (a : ArgAll Z.K Z.R I H xs vs) (n : Nat) : EnvAt Z I H (xs.map some ++ List.replicate n none) (vs.map some ++ List.replicate n none) := by
  have l := a.len
  have get : ∀ {xs : List DV} {vs : List V}, ArgAll Z.K Z.R I H xs vs → ∀ (i : Nat) (x : DV), xs[i]? = some x → ∃ v, vs[i]? = some v ∧ ArgAt Z.K Z.R I H x v := by
    intro xs vs a
    induction a with
    | nil => intro i x q; simp at q
    | cons a t ih =>
      intro i x q
      cases i with
      | zero => simp at q; subst q; exact ⟨_, rfl, a⟩
      | succ i => simpa using ih i x (by simpa using q)
  have look : ∀ {α : Type} {l : List α} {i : Nat} {x : α}, (l.map some ++ List.replicate n none)[i]? = some (some x) → l[i]? = some x := fun {α l i x} q => by
    by_cases hi : i < l.length
    · rw [List.getElem?_append_left (by rwa [List.length_map]), List.getElem?_map] at q
      obtain ⟨y, e1, e2⟩ := Option.map_eq_some_iff.mp q
      cases e2
      exact e1
    · rw [List.getElem?_append_right (by rw [List.length_map]; omega)] at q
      have := List.mem_of_getElem? q
      rw [List.mem_replicate] at this
      cases this.2
  refine ⟨by simp [l], fun i x q => ?_, fun i j ys zs v hn h1 h2 => ?_⟩
  · obtain ⟨v, e1, a1⟩ := get a i x (look q)
    have hi : i < vs.length := (List.getElem?_eq_some_iff.mp e1).1
    refine ⟨v, ?_, ?_⟩
    · rw [List.getElem?_append_left (by rwa [List.length_map]), List.getElem?_map, e1]
      rfl
    · cases x with
      | d x => exact a1
      | bor f ys =>
        refine ⟨a1.1, a1.2, fun p e z => ?_⟩
        obtain ⟨q, us, e2, h1, _⟩ := a1.2
        rw [e2] at e
        cases e
        rw [h0, h1] at z
        cases z
      | new ys => exact a1.elim
      | own ys => exact a1.elim
      | v u => exact a1
  · obtain ⟨v, _, a1⟩ := get a i _ (look h1)
    exact a1.elim
def entry (N : List Str) (xs : List DV) : DEnv := xs.map some ++ List.replicate (N.length - xs.length) none
/-- what the exceptions of a def's body are to be -/
abbrev wOf (E : XK) : WX := fun c d _ H => E c d H
theorem fn_ok {P : Program} {w : World} {K : PySem.W.Frag} {mg : Str → Option Value} {base : Heap} {x qual : Str} {params : Arguments} {body : List Stmt} {scope : Scope} {dvs : List V} {kws : List (Str × V)} {f : Addr} {fd : FuncData} {N ps : List Str} {k n : Nat} {S : Spd} (F : FunD K x qual params body scope dvs kws f fd) (hS : FnScope N ps scope) (hn : ps.length = n)
    (hb : ∀ (cdv : Value) (A : Around) (outer : List Env) (s : Shared) (I H : Hp) (E : XK) (R : Reg), Room k (A.deeper (envOfC qual scope s.heap.objs.size f cdv)) →
      ∃ ts t, DSs (cxOf (L2.CX P w) P w K mg base N qual scope f cdv A outer s H E) ⟨K, R, wOf E, I, H⟩ body ts t ∧ ∀ xs Qd Ed, xs.length = n → S R xs Qd Ed → t { nx := fun _ => Qd (.d .none), rt := Qd } Ed (entry N xs)) :
    FnOk P w K mg base (L2.CX P w) (k + 1) f fd ps (lift K S n) := by
  refine F.ok hS (fun vs H Q E h => h.1.trans hn.symm) (fun cdv A outer s H vs Q E hr h => ?_)
  obtain ⟨hl, R, I, xs, Qd, Ed, g, a, q, kr, kx⟩ := h
  obtain ⟨ts, t, D, sp⟩ := hb cdv A outer s I H E R hr
  have l := a.len
  refine ⟨ts, D.ps, D.rf I H (entry N xs) (L2.start N vs) _ Ed _ ⟨g, Ext.refl g, ?_, fun x c od I' H' e xa qx => kx x c od I' H' e xa qx⟩ (sp xs Qd Ed (by omega) q) ⟨fun δ σ I' H' e _ _ q => kr (.d .none) .non I' H' e Da.non q, fun x v I' H' e r q => kr x v I' H' e r q, fun _ _ _ _ _ _ _ q => q.elim, fun _ _ _ _ _ _ _ q => q.elim⟩⟩
  have := args_env (Z := ⟨K, R, wOf E, I, H⟩) rfl g a (N.length - xs.length)
  unfold entry L2.start
  rw [show N.length - vs.length = N.length - xs.length by omega]
  exact this
theorem flat_of {K : PySem.W.Frag} {R : Reg} {E : XK} {I H : Hp} : Flat ⟨K, R, wOf E, I, H⟩ := fun _ _ _ _ _ h => h
end PD
set_option Elab.async false
set_option linter.all false
set_option maxRecDepth 100000
set_option maxHeartbeats 1000000
namespace PD
open PySem PySem.Spec PyProof.Rows L2
/-! ### small facts -/
theorem b_len : bootBuiltins "len" = some (.builtin "len") := by decide +kernel
theorem b_all : bootBuiltins "all" = some (.builtin "all") := by decide +kernel
theorem b_any : bootBuiltins "any" = some (.builtin "any") := by decide +kernel
theorem b_isinstance : bootBuiltins "isinstance" = some (.builtin "isinstance") := by decide +kernel
theorem b_max : bootBuiltins "max" = some (.builtin "max") := by decide +kernel
theorem b_min : bootBuiltins "min" = some (.builtin "min") := by decide +kernel
theorem b_abs : bootBuiltins "abs" = some (.builtin "abs") := by decide +kernel
theorem b_repr : bootBuiltins "repr" = some (.builtin "repr") := by decide +kernel
theorem b_sorted : bootBuiltins "sorted" = some (.builtin "sorted") := by decide +kernel
theorem b_str : bootBuiltins "str" = some (.type "str") := by decide +kernel
theorem b_int : bootBuiltins "int" = some (.type "int") := by decide +kernel
theorem b_bool : bootBuiltins "bool" = some (.type "bool") := by decide +kernel
theorem b_list : bootBuiltins "list" = some (.type "list") := by decide +kernel
theorem b_tuple : bootBuiltins "tuple" = some (.type "tuple") := by decide +kernel
theorem b_set : bootBuiltins "set" = some (.type "set") := by decide +kernel
theorem b_range : bootBuiltins "range" = some (.type "range") := by decide +kernel
theorem b_enumerate : bootBuiltins "enumerate" = some (.type "enumerate") := by decide +kernel
theorem hu64 {k : Nat} {A : Around} (r : Room k A) : A.units + 64 < cLine := by have := r.un; omega
theorem hu65 {k : Nat} {A : Around} (r : Room k A) : A.units + 65 < cLine := by have := r.un; omega
section
variable {X : Cx} {Z : Zx} {pos : Pos} {e tg : Expr} {te : TE} {d : TD}
def oNeg : O1 := fun x Q _ => match x with
  | .d (.int i) => Q (.d (.int (-i)))
  | _ => False
theorem ud_neg : UnD Z (rU fun i => .int (-i)) oNeg := fun I H Hs x v Qd Ed Q g' a t k => by
  unfold oNeg at t
  split at t
  · cases a
    exact ⟨_, rfl, k.now g'.g (.int _) t⟩
  · exact t.elim
def oAbs : OC := fun xs Q _ => match xs with
  | [.d (.int i)] => Q (.d (.int (if i < 0 then -i else i)))
  | _ => False
theorem cd_abs : CallD Z (fun xs H Q => ∃ i, xs = [.int i] ∧ Q (.int (if i < 0 then -i else i)) H) oAbs := fun I H Hs xs vs Qd Ed Q g' a t k => by
  unfold oAbs at t
  split at t
  · obtain ⟨v, rfl, a'⟩ := at1 a
    cases a'
    exact ⟨_, rfl, k.now g'.g (.int _) t⟩
  · exact t.elim
theorem dt_chain {a b c : Expr} {ta tb tc : TE} {da db dc : TD} {op op' : CmpOp} {r r' : R2} {o o' : O2} (h : OpR X (compareOp op) r) (h' : OpR X (compareOp op') r') (ho : OpD Z r o) (ho' : OpD Z r' o') (ha : DE X Z a ta da) (hb : DE X Z b tb db) (hc : DE X Z c tc dc)
    (hm : lastMarks [op, op'] [b, c] = false := by with_unfolding_all rfl) : DT X Z (.Compare a [op, op'] [b, c] pos) (tB (tChain r r' ta tb tc)) (dB (dChain o o' da db dc)) :=
  dt_of (de_chain (pos := pos) h h' ho ho' ha hb hc hm) fun _ => pt_chain h h' ha.pe hb.pe hc.pe hm

/-! ### a, *b = e -/
section
variable {prog : Program} {w : World} {A : Around} {E : Value → Shared → Prop} {s : Shared} {env : Env}
theorem star_items {l : Addr} {items : Array Value} {n i : Nat} {Q : List Value → Shared → Prop} (hl : s.heap.IsList l items ∨ IsTup s.heap l items) (hh : A.handled = none) (hi : i < n) (hn : n ≤ items.size + 1) (hz : items.size ≤ sizeLine)
    (h : ∀ h₂ tk, Heap.ExtBut s.heap.objs.size s.heap h₂ → wpAny (model prog w) A (newList ((items.toList.drop i).take (items.size + 1 - n))) (fun D s' => Q (items.toList.take i ++ [D] ++ (items.toList.drop i).drop (items.size + 1 - n)) s') E { s with heap := h₂, toks := tk }) :
    wpAny (model prog w) A (unpackItems (.ref l) n (some i)) Q E s := by
  have hfl : (items.toList.take i).length = i := by rw [List.length_take, Array.length_toList]; omega
  have hrl : (items.toList.drop i).length = items.size - i := by rw [List.length_drop, Array.length_toList]
  have hmid : (items.toList.drop i).length - (n - 1 - i) = items.size + 1 - n := by rw [hrl]; omega
  rcases hl with hl | hl
  · have hlt : l ≠ s.heap.objs.size := by obtain ⟨o, ho, _⟩ := hl; exact Nat.ne_of_lt (Heap.lt_size ho)
    unfold unpackItems
    refine wpAny_bind ?_
    unfold notIterableAtAll
    refine wpAny_bind (wpAny_specialOf hl.typeIs slot_list_iter.lookup ?_)
    refine wpAny_pure ?_
    simp only [Bool.false_eq_true, if_false]
    refine wpAny_bind (wpAny_holding (wpAny_pyIter_list hl ?_))
    refine wpAny_bind (wpAny_holding (PySem.W.kun_draw hlt i 0 _ _ ⟨_, Heap.get?_push_size _ rfl, rfl, rfl⟩ (hl.push _) (by omega) fun h₁ hit₁ hs₁ => ?_))
    have hl₁ : h₁.IsList l items := (hl.push _).extBut hs₁.extBut hlt
    rw [Nat.zero_add] at hit₁
    obtain ⟨oi, hoi, _⟩ := id hit₁
    obtain ⟨ol, hol, _⟩ := id hl₁
    rw [List.drop_zero]
    rw [if_neg (show ¬ ((items.toList.take i).length < i) by rw [hfl]; omega)]
    refine wpAny_bind (wpAny_holding (PySem.W.kun_collect (s := { s with heap := h₁ }) (T := "list_iterator") (.inr (.inr (.inl rfl))) (Walks.list (A := A.in1) hh s.heap.objs.size l hlt items) (fun j u st => st.1.typeIs) (k := i) (by omega) ⟨hit₁, hl₁⟩ (Heap.lt_size hoi) (Heap.lt_size hol) (fun h₂ tk hk => ?_) hz))
    show wpAny _ _ (if (items.toList.drop i).length < n - 1 - i then _ else _) _ _ _
    rw [if_neg (by rw [hrl]; omega)]
    show wpAny _ _ (newList ((items.toList.drop i).take ((items.toList.drop i).length - (n - 1 - i))) >>= fun d => pure (items.toList.take i ++ [d] ++ (items.toList.drop i).drop ((items.toList.drop i).length - (n - 1 - i)))) _ _ _
    rw [hmid]
    exact wpAny_bind (thn (h h₂ tk fun b o hb e => hk b o hb (hs₁.extBut b o hb (Heap.get?_push_of_some _ e))) fun D s' q => wpAny_pure q)
  · have hlt : l ≠ s.heap.objs.size := by obtain ⟨o, ho, _⟩ := hl; exact Nat.ne_of_lt (Heap.lt_size ho)
    unfold unpackItems
    refine wpAny_bind ?_
    unfold notIterableAtAll
    refine wpAny_bind (wpAny_specialOf hl.typeIs slot_tuple_iter.lookup ?_)
    refine wpAny_pure ?_
    simp only [Bool.false_eq_true, if_false]
    refine wpAny_bind (wpAny_holding (iter_tuple hl ?_))
    refine wpAny_bind (wpAny_holding (draw_tuple hlt i 0 _ _ ⟨_, Heap.get?_push_size _ rfl, rfl, rfl⟩ (hl.push _) (by omega) fun h₁ hit₁ hs₁ => ?_))
    have hl₁ : IsTup h₁ l items := (hl.push _).extBut hs₁.extBut hlt
    rw [Nat.zero_add] at hit₁
    obtain ⟨oi, hoi, _⟩ := id hit₁
    obtain ⟨ol, hol, _⟩ := id hl₁
    rw [List.drop_zero]
    rw [if_neg (show ¬ ((items.toList.take i).length < i) by rw [hfl]; omega)]
    refine wpAny_bind (wpAny_holding (PySem.W.kun_collect (s := { s with heap := h₁ }) (T := "tuple_iterator") (.inr (.inr (.inr rfl))) (Walks.tuple (A := A.in1) hh s.heap.objs.size l hlt items) (fun j u st => st.1.typeIs) (k := i) (by omega) ⟨hit₁, hl₁⟩ (Heap.lt_size hoi) (Heap.lt_size hol) (fun h₂ tk hk => ?_) hz))
    show wpAny _ _ (if (items.toList.drop i).length < n - 1 - i then _ else _) _ _ _
    rw [if_neg (by rw [hrl]; omega)]
    show wpAny _ _ (newList ((items.toList.drop i).take ((items.toList.drop i).length - (n - 1 - i))) >>= fun d => pure (items.toList.take i ++ [d] ++ (items.toList.drop i).drop ((items.toList.drop i).length - (n - 1 - i)))) _ _ _
    rw [hmid]
    exact wpAny_bind (thn (h h₂ tk fun b o hb e => hk b o hb (hs₁.extBut b o hb (Heap.get?_push_of_some _ e))) fun D s' q => wpAny_pure q)
end
/-- a tuple's or list's parts, the i-th target a list of what is left between -/
def gStar (K : PySem.W.Frag) (n i : Nat) (t : TGs) : TG := fun v σ H Q => ∃ a xs, v = .ref a ∧ (SqL K H a xs ∨ SqT K H a xs) ∧ n ≤ xs.length + 1 ∧ ∀ D, H D = none →
  t (xs.take i ++ [.ref D] ++ (xs.drop i).drop (xs.length + 1 - n)) σ (upd H D (.lst ((xs.drop i).take (xs.length + 1 - n)))) Q
theorem pg_star {es : List Expr} {k : Nat} {t : TGs} {n i : Nat} (hc : X.calm = true) (h : PGs X es t) (hi : i < n) (hn : (assignEach es X.env).length = n := by rfl) (hst : (assignEach es X.env).findIdx? (·.1) = some i := by rfl) : PG X (.Tuple es k pos) (gStar X.K n i t) := by
  refine ⟨fun pins s σ H v u Q I r hw => ?_⟩
  obtain ⟨a, xs, rfl, hq, hl, hw⟩ := hw
  cases r
  obtain ⟨its, rv, hx, hz⟩ : ∃ its : List Value, Vals xs its ∧ (s.heap.IsList a its.toArray ∨ IsTup s.heap a its.toArray) ∧ xs.length ≤ sizeLine := by
    rcases hq with hq | hq
    · obtain ⟨its, rv, p, hz⟩ := I.list hq
      exact ⟨its, rv, .inl p.isList, hz⟩
    · obtain ⟨its, rv, p, hz⟩ := I.tuple hq
      exact ⟨its, rv, .inr p, hz⟩
  have e := rv.length
  have es1 : its.toArray.size = xs.length := by rw [List.size_toArray, e]
  rw [assign_Tuple]
  refine wpAny_bind (wpAny_standAt ?_)
  unfold unpack
  rw [hn, hst]
  refine wpAny_bind (wpAny_holding (star_items hx (I.ok.hd hc) hi (by rw [es1]; exact hl) (by rw [es1]; exact hz) fun h₂ tk hk => ?_))
  rw [es1]
  have I1 : Inv X pins σ H { s with heap := h₂, toks := tk } := I.kept (t' := tk) fun b o e => hk b o (Nat.ne_of_lt (Heap.lt_size e)) e
  have rm : Vals ((xs.drop i).take (xs.length + 1 - n)) ((its.drop i).take (xs.length + 1 - n)) := (rv.drop i).take _
  have lm : ((xs.drop i).take (xs.length + 1 - n)).length ≤ sizeLine := by
    rw [List.length_take, List.length_drop]
    omega
  refine wpAny_newObj_type ?_ (by have := rm.length; show ((its.drop i).take (xs.length + 1 - n)).length ≤ sizeLine; omega)
  have I2 := I1.lnew (t' := tk) rm lm
  refine h.run pins _ σ _ _ _ Q I2 ?_ (hw _ I1.fresh)
  exact ((rv.take i).append (Paired.cons (show RelV (V.ref _) (Value.ref _) from rfl) .nil)).append ((rv.drop i).drop _)
theorem pgs_consS {t : Expr} {es : List Expr} {p : Pos} {g : TG} {gs : TGs} (h1 : PG X t g) (h2 : PGs X es gs) (hs : (assignEach (.Starred t p :: es) X.env).map (·.2) = assign t X.env :: (assignEach es X.env).map (·.2) := by rfl) : PGs X (.Starred t p :: es) (gCons g gs) := by
  refine ⟨fun pins s σ H vs us Q I r h => ?_⟩
  obtain ⟨v, vr, e1, h⟩ := h
  subst e1
  cases r with
  | cons r rr =>
    rw [hs]
    refine assignInOrder_cons (thn (h1.run pins s σ H _ _ _ I r h) fun _ s1 ⟨σ1, H1, I1, q1⟩ => ?_)
    exact h2.run pins s1 σ1 H1 _ _ Q I1 rr q1
theorem dgs_consS {t : Expr} {es : List Expr} {p : Pos} {g : TG} {gs : TGs} {a : TDG} {r : TDGs} (h : DG X Z t g a) (h' : DGs X Z es gs r) (hs : (assignEach (.Starred t p :: es) X.env).map (·.2) = assign t X.env :: (assignEach es X.env).map (·.2) := by rfl) : DGs X Z (.Starred t p :: es) (gCons g gs) (dGCons a r) := by
  refine ⟨pgs_consS h.pg h'.pg hs, fun I H δ σ ds vs Qd Q gg env ad q k => ?_⟩
  cases ad with
  | nil => exact q.elim
  | cons a1 at1 => exact ⟨_, _, rfl, h.rf I H δ σ _ _ _ _ H gg env (show At Z H I H (.d _) _ from a1) q fun δ' σ' I' H' ex env' q' => h'.rf I' H' δ' σ' _ _ _ _ ex.good env' (daa_mono ex.sub _ _ at1) q' fun δ2 σ2 I2 H2 ex2 => k δ2 σ2 I2 H2 (ex.trans gg ex2)⟩
def dGStar (n i : Nat) (r : TDGs) : TDG := fun x δ Q => ∃ ds, seqOf x = some ds ∧ n ≤ ds.length + 1 ∧ r (ds.take i ++ [.list ((ds.drop i).take (ds.length + 1 - n))] ++ (ds.drop i).drop (ds.length + 1 - n)) δ Q
theorem dg_star' {es : List Expr} {k : Nat} {g : TGs} {r : TDGs} {n i : Nat} (hc : X.calm = true) (h : DGs X Z es g r) (hK : Z.K = X.K) (hi : i < n) (hn : (assignEach es X.env).length = n := by rfl) (hst : (assignEach es X.env).findIdx? (·.1) = some i := by rfl) : DG X Z (.Tuple es k pos) (gStar X.K n i g) (dGStar n i r) := by
  refine ⟨pg_star hc h.pg hi hn hst, fun I H δ σ x v Qd Q Hs gg env a q k => ?_⟩
  obtain ⟨ds, e1, hl, q⟩ := q
  obtain ⟨p, vs, rfl, h1, h2, h3⟩ := seq_at gg a e1
  have l := h2.len
  refine ⟨p, vs, rfl, by rw [← hK]; exact h1, by omega, fun D hD => ?_⟩
  have hm := (h2.drop i).take (ds.length + 1 - n)
  have hz : LenOk (.lst ((vs.drop i).take (vs.length + 1 - n))) := by
    show ((vs.drop i).take (vs.length + 1 - n)).length ≤ sizeLine
    rw [List.length_take, List.length_drop]
    omega
  have ex := ext_new gg hD hz
  obtain ⟨n1, n2⟩ := fresh_off (Z := Z) gg hD
  have up := upd_sub (o := .lst ((vs.drop i).take (vs.length + 1 - n))) n1
  rw [← l] at hm q
  refine h.rf _ _ δ σ _ _ _ _ ex.good (env.ext ex) ?_ q fun δ' σ' I2 H2 ex2 => k δ' σ' I2 H2 (ex.trans gg ex2)
  exact (((daa_mono up _ _ h2).take i).app (.cons (.lst upd_same (daa_mono up _ _ hm)) .nil)).app (((daa_mono up _ _ h2).drop i).drop _)
theorem dg_star {es : List Expr} {k : Nat} {g : TGs} {r : TDGs} {n i : Nat} (hc : X.calm = true) (h : DGs X Z es g r) (hK : Z.K = X.K) (hi : i < n) (hn : (assignEach es X.env).length = n := by rfl) (hst : (assignEach es X.env).findIdx? (·.1) = some i := by rfl) : DG X Z (.Tuple es k pos) (gStar Z.K n i g) (dGStar n i r) := by rw [hK]; exact dg_star' hc h hK hi hn hst
end
end PD
set_option Elab.async false
set_option linter.all false
set_option maxRecDepth 100000
set_option maxHeartbeats 1000000
/-! an exception out of a comprehension: the block's element (or its second source) calls a def that raises -/
namespace PD
open PySem PySem.Spec PyProof.Rows L2
/-- the context of a block that may let out -/
abbrev blkE (X : Cx) (s : Shared) (H : Hp) (scope : Scope) (cenv : Env) (fp : List Addr) (xe : Value → Shared → Prop) : Cx := { X.blk s H scope cenv fp with xe := xe }
/-- what calls let out is taken -/
def TakesC (Y : Cx) (W : WX) : Prop := ∀ σ, PassesAt (L2.CX Y.prog Y.w) Y σ (WE W σ)
theorem takesC {X : Cx} {W : WX} (tk : Takes X W) : TakesC X W := fun σ => passAt tk σ
theorem takesC0 {X : Cx} : TakesC X (fun _ _ _ _ => False) := takesC takes0
section
variable {X : Cx} {pins : List (Addr × Obj)} {σ : St} {H : Hp} {s s' : Shared} {E : XK}
/-- a call's exception is in our air, flying -/
theorem call_flies (I : Inv X pins σ H s) {u : Value} (c : CX X.prog X.w X.stack H s E u s') :
    ∃ (a : Addr) (B : Heap) (sI : Shared) (H' : Hp) (cls : Value) (d : Option Addr), u = .ref a ∧ Inv X pins σ H' sI ∧ (∀ b o, sI.heap.get? b = some o → b ∉ frs X.stack → B.get? b = some o) ∧ sI.heap.UpToSlots s'.heap ∧
      HandSPX.FlyingZ B X.stack a (Zc cls d) s'.heap ∧ H' a = none ∧ s'.os = sI.os ∧ AllBare s'.gens ∧ E cls d H' := by
  obtain ⟨a, B, H', cls, d, rfl, fl, hok, ub, na, os, ag, hE⟩ := c
  obtain ⟨G, g1, g2⟩ := restrict s'.heap fun b => (B.get? b).isSome || decide (b ∈ frs X.stack)
  have st : B.StaysIn s'.heap := fl.1
  have gB : ∀ b o, B.get? b = some o → G.get? b = some o := fun b o e => by
    rw [g1 b (by simp [e])]
    exact st b o e
  have gF : ∀ b, b ∈ frs X.stack → G.get? b = s'.heap.get? b := fun b hb => g1 b (by simp [hb])
  have og : ∀ b o, G.get? b = some o → s'.heap.get? b = some o ∧ ((B.get? b).isSome = true ∨ b ∈ frs X.stack) := fun b o e => by
    cases q : ((B.get? b).isSome || decide (b ∈ frs X.stack)) with
    | false => rw [g2 b q] at e; cases e
    | true =>
      rw [g1 b q] at e
      exact ⟨e, by simpa [Bool.or_eq_true] using q⟩
  refine ⟨a, B, { s with heap := G, gens := s'.gens, drawn := s'.drawn, toks := s'.toks }, H', cls, d, rfl, ?_, fun b o e hb => ?_, Heap.UpToSlots.of_keeps fun b o e => (og b o e).1, fl, na, os, ag, hE⟩
  · refine I.call (ch := []) ⟨fun b o e n hb _ => gB b o (ub.keep b o e n hb), fun b o e n hb _ => ?_, fun b o e n _ => ub.free b o e n, fun b o e _ => ?_, ub.tups, ub.frzs, ub.tbls⟩ (hok.kept gB) ag (fun _ z => nomatch z)
    · obtain ⟨sl, q⟩ := ub.slot b o e hb
      exact ⟨sl, by rw [gF b hb]; exact q⟩
    · by_cases hb : b ∈ frs X.stack
      · obtain ⟨sl, q⟩ := ub.slot b o e hb
        exact ⟨_, by rw [gF b hb]; exact q⟩
      · obtain ⟨o', q⟩ := ub.there b o e hb
        exact ⟨o', gB b o' q⟩
  · obtain ⟨e', h⟩ := og b o e
    rcases h with h | h
    · obtain ⟨o', q⟩ := Option.isSome_iff_exists.mp h
      have z := st b o' q
      rw [e'] at z; cases z
      exact q
    · exact absurd h hb
end
/-- what is wanted of exceptions hangs on no slot -/
def FlatW (W : WX) : Prop := ∀ c od σ σ' H, W c od σ H → W c od σ' H
/-- the block's exceptions: noted, its names let go, passed on in the def's frame -/
abbrev xeB (X : Cx) (ce : Env) : Value → Shared → Prop := notedBy (model X.prog X.w) X.A ce (CompFails (model X.prog X.w) X.A X.xe ce)
theorem takes_blk {X : Cx} {W : WX} {pins : List (Addr × Obj)} {σ : St} {H : Hp} {s : Shared} {scope : Scope} {ce : Env} {fp : List Addr} (hs : X.stack = X.env :: X.outer) (hf : X.env.frame = some X.env.locals) (tk : Takes X W) (fl : FlatW W)
    (I : Inv X pins σ H s) (hcf : ce.frame = X.env.frame) (cL : ce.locals = s.heap.objs.size) (hfp : ∀ b ∈ fp, FpOk X pins H b ∧ b < s.heap.objs.size) : TakesC (blkE X s H scope ce fp (xeB X ce)) W := fun σ' pins' H' s1 e s' I1 c => by
  obtain ⟨a, B, sI, H2, cls, d, rfl, I2, nb, up, fly, na, os, ag, hw⟩ := call_flies I1 c
  have hfr : X.A.frames = some (X.env :: X.outer) := by rw [I.ok.frames, hs]
  have fly : HandSPX.FlyingZ B (X.env :: X.outer) a (Zc cls d) s'.heap := by rw [← hs]; exact fly
  show wpAny _ _ (noteFrame (.ref a) ce) _ _ s'
  rw [noteFrame_env _ hcf]
  refine HandSPX.looks_onZ Zc.steady hfr hf fly fun h1 hh up1 => ?_
  obtain ⟨m, hn0, _⟩ := I2.loc
  have hn0 : sI.heap.Ns ce.locals m := hn0
  have hn : h1.Ns ce.locals m := hn0.upToSlots fun b o e nf => by
    obtain ⟨sl, e1⟩ := up b o e nf
    obtain ⟨sl2, e2⟩ := up1 b _ e1 nf
    exact ⟨sl2, e2⟩
  refine ⟨m, hn, fun h2 m2 hn2 sb => ?_⟩
  obtain ⟨b1, b0, f1, t1⟩ := hh
  -- the ground without the block's names
  have n2 : H2 ce.locals = none := I2.free
  have kB : ∀ b o, (PySem.W.hideAll B [ce.locals]).get? b = some o → B.get? b = some o ∧ b ≠ ce.locals := fun b o e => by
    refine ⟨PySem.W.of_hideAll _ e, fun z => ?_⟩
    rw [z, PySem.W.hideAll_none _ List.mem_cons_self] at e
    cases e
  have nB : ∀ b, B.get? b = none → (PySem.W.hideAll B [ce.locals]).get? b = none := fun b e => by
    cases q : (PySem.W.hideAll B [ce.locals]).get? b with
    | none => rfl
    | some o => rw [(kB b o q).1] at e; cases e
  have st2 : (PySem.W.hideAll B [ce.locals]).StaysIn h2 := fun b o e => by
    obtain ⟨e1, ne⟩ := kB b o e
    rw [sb.2 b ne]
    exact b1 b o e1
  have ff2 : h2.FunFrames (PySem.W.hideAll B [ce.locals]) (X.env :: X.outer) := by
    refine funFrames_none (Heap.FunFrames.sameBut sb hn2 f1) fun L hL => nB L ?_
    exact (f1.mem hL).1
  obtain ⟨oe, vs, T, oT, ts, he, hz, hd, hv1, hnT, hTe, hT, hdT, h3⟩ := t1
  obtain ⟨oL, es, ep, hoL, hdL, _⟩ := id hn
  have ne1 : a ≠ ce.locals := fun z => by rw [z, hoL] at he; cases he; rw [hdL] at hd; cases hd
  have ne2 : T ≠ ce.locals := fun z => by rw [z, hoL] at hT; cases hT; rw [hdL] at hdT; cases hdT
  have t2 : HandSPX.TracedZ h2 (PySem.W.hideAll B [ce.locals]) a (Zc cls d) (rawInt X.env.locals) := ⟨oe, vs, T, oT, ts, (sb.2 a ne1).trans he, hz, hd, hv1, nB T hnT, hTe, (sb.2 T ne2).trans hT, hdT, h3⟩
  unfold PySem.passOn
  refine wpAny_bind (wpAny_field ((sb.2 a ne1).trans he) hd hv1 ?_)
  rw [if_neg (show ¬ ((Value.ref T == Value.none) = true) from by simp)]
  rw [hcf, hf]
  refine wpAny_bind (HandSPX.setFlight_anyZ st2 ff2 t2 fun h3 k1 k2 k3 k4 => ?_)
  refine wpAny_throw ?_
  -- back in the def
  have hide : ∀ b o, (PySem.W.hideAll sI.heap [ce.locals]).get? b = some o → sI.heap.get? b = some o ∧ b ≠ ce.locals := fun b o e => by
    refine ⟨PySem.W.of_hideAll _ e, fun z => ?_⟩
    rw [z, PySem.W.hideAll_none _ List.mem_cons_self] at e
    cases e
  have old : ∀ b o, s.heap.get? b = some o → b ∉ [ce.locals] := fun b o e hb => by
    have z := List.mem_singleton.mp hb
    have l := Heap.lt_size e
    rw [z, cL] at l
    exact Nat.lt_irrefl _ l
  have u2 : Un (frs X.stack) fp H H2 s.heap sI.heap := I2.base
  have I3 : Inv X pins σ H2 { sI with heap := PySem.W.hideAll sI.heap [ce.locals] } := I.call' (ch := fp) I2.os
    ⟨fun b o e n hb hx => PySem.W.hideAll_get _ (u2.keep b o e n hb hx) (old b o e), fun b o e n hb hx => by
        obtain ⟨sl, q⟩ := u2.slot b o e n hb hx
        exact ⟨sl, PySem.W.hideAll_get _ q (old b o e)⟩, fun b o e n hx => u2.free b o e n hx, fun b o e hx => by
        obtain ⟨o', q⟩ := u2.there b o e hx
        exact ⟨o', PySem.W.hideAll_get _ q (old b o e)⟩, u2.tups, u2.frzs, u2.tbls⟩
    (fun b o q => (I2.hok b o q).stay (fun c u hc r => PySem.W.hideAll_get _ r fun hm => by
      have z := List.mem_singleton.mp hm
      subst z
      rcases hc with hc | hc
      · rw [hc, q] at n2; cases n2
      · rw [hc] at n2; cases n2) (fun _ r => r) fun _ _ r => r)
    I2.bare fun b hb => ⟨(hfp b hb).1.2.2.2.1, (hfp b hb).1.2.1, (hfp b hb).1.2.2.2.2.1, (hfp b hb).1.2.2.2.2.2⟩
  refine tk (.ref a) _ ⟨a, PySem.W.hideAll B [ce.locals], { sI with heap := PySem.W.hideAll sI.heap [ce.locals] }, pins, σ, H2, cls, d, rfl, I3, fun b o e hb => ?_, fun b o e nf => ?_, .inr (.inr ?_), na, os, ag, fl _ _ _ _ _ hw⟩
  · obtain ⟨e1, ne⟩ := hide b o e
    exact PySem.W.hideAll_get _ (nb b o e1 hb) fun hm => ne (List.mem_singleton.mp hm)
  · obtain ⟨e1, ne⟩ := hide b o e
    obtain ⟨sl, e2⟩ := up b o e1 nf
    obtain ⟨sl2, e3⟩ := up1 b _ e2 nf
    obtain ⟨sl3, e4⟩ := k4 b _ ((sb.2 b ne).trans e3) nf
    exact ⟨sl3, e4⟩
  · rw [hs]
    exact ⟨k1, nB a b0, k2, k3⟩
end PD
set_option Elab.async false
set_option linter.all false
set_option maxRecDepth 100000
set_option maxHeartbeats 2000000
/-! comprehensions that may let an exception out: HandS.Comp's lc_core and lc2_core, turned: the block's context takes what its calls let out (proofs follow those) -/
namespace PD
open PySem PySem.Spec PyProof.Rows L2
theorem thnX {α : Type} {t : Sem α} {Q Q' : α → Shared → Prop} {M : Model} {A : Around} {ce : Env} {E R : Value → Shared → Prop} {s : Shared} (hR : ∀ e s', E e s' → R e s') (h : wpAny M A t Q (notedBy M A ce E) s) (hQ : ∀ a s, Q a s → Q' a s) : wpAny M A t Q' (notedBy M A ce R) s :=
  wpAny_mono h hQ fun e s' z => wpAny_mono z (fun _ _ q => hR _ _ q) fun e s q => hR _ _ q
/-- what is wanted of exceptions hangs on no invariant -/
theorem inv_xe {Y : Cx} {xe : Value → Shared → Prop} {pins : List (Addr × Obj)} {σ : St} {H : Hp} {s : Shared} (I : L2.Inv Y pins σ H s) : L2.Inv { Y with xe := xe } pins σ H s :=
  ⟨⟨I.ok.mod, I.ok.kind, I.ok.glob, I.ok.blt, I.ok.above, I.ok.inj, I.ok.has, I.ok.cab, I.ok.hd, I.ok.frames, I.ok.stk, I.ok.exf, I.ok.bs, I.ok.bsz, I.ok.noex, I.ok.exfs, I.ok.funs, I.ok.frf⟩, I.os, I.bare, I.base, I.loc, I.cell, I.free, I.freeC, I.pin, I.hok, I.len⟩
theorem inv_E {X : Cx} {s3 : Shared} {H3 : Hp} {scope : Scope} {ce : Env} {fp : List Addr} {xe : Value → Shared → Prop} {pins : List (Addr × Obj)} {σ : St} {H : Hp} {s : Shared} (I : L2.Inv (X.blk s3 H3 scope ce fp) pins σ H s) : L2.Inv (blkE X s3 H3 scope ce fp xe) pins σ H s := inv_xe I
theorem inv_0 {X : Cx} {s3 : Shared} {H3 : Hp} {scope : Scope} {ce : Env} {fp : List Addr} {xe : Value → Shared → Prop} {pins : List (Addr × Obj)} {σ : St} {H : Hp} {s : Shared} (I : L2.Inv (blkE X s3 H3 scope ce fp xe) pins σ H s) : L2.Inv (X.blk s3 H3 scope ce fp) pins σ H s := inv_xe I
section
variable {X : Cx}
theorem lc_coreX {pins : List (Addr × Obj)} {s : Shared} {σ : St} {H : Hp} {Q : VK} {elt tg iter : Expr} {ifs : List Expr} {scope : Scope} {own : List (Str × Nat)} {pos pos' : Pos} {wi : TI} {g : TG} {tt : TT} {te : TE} {use : Option (Value → Sem Unit)} {Qf : Value → Shared → Prop}
    {W : WX} (hst : X.stack = X.env :: X.outer) (hfr : X.env.frame = some X.env.locals) (tk : Takes X W) (flw : FlatW W) (hc : X.calm = true) (hN : X.N.Nodup) (I : Inv X pins σ H s) (hi : PI X tg iter wi) (ok : BlkOk X.N X.env.scope scope own)
    (hg : ∀ (s : Shared) (H : Hp) (C : Addr) (cl : List (Str × Addr)) (fp : List Addr) (xe : Value → Shared → Prop), TakesC (blkE X s H scope (compEnvC scope cl C X.env) fp xe) W → PG (blkE X s H scope (compEnvC scope cl C X.env) fp xe) tg g) (ht : ∀ (s : Shared) (H : Hp) (C : Addr) (cl : List (Str × Addr)) (fp : List Addr) (xe : Value → Shared → Prop), TakesC (blkE X s H scope (compEnvC scope cl C X.env) fp xe) W → PTs (blkE X s H scope (compEnvC scope cl C X.env) fp xe) ifs tt)
    (he : ∀ (s : Shared) (H : Hp) (C : Addr) (cl : List (Str × Addr)) (fp : List Addr) (xe : Value → Shared → Prop), TakesC (blkE X s H scope (compEnvC scope cl C X.env) fp xe) W → PE (blkE X s H scope (compEnvC scope cl C X.env) fp xe) elt te) (hs : ∀ x, foldedSetIterable iter X.env x = pure x)
    (h : tLc wi g tt te (own.map (·.2)) σ H Q)
    (hRR : ∀ D ce s' m H', Inv X pins σ H' s' → Q (.ref D) H' → s'.heap.Ns (Env.locals ce) m → FpOk X pins H' ce.locals → compEnds (model X.prog X.w) X.A X.xe use Qf (.ref D) ce (.ok .next) s') :
    wpAny (model X.prog X.w) X.A (comprehension (.ListComp elt [⟨tg, iter, ifs, 0⟩] scope pos) scope X.env pos' (newList []) false (eval iter X.env) use) Qf X.xe s := by
  have hfree : ∀ y ∈ scope.names, y.2 = .free → ∃ c, X.env.cells.lookup y.1 = some c := fun y hy e => by
    rcases ok.free y hy e with k | k
    · exact I.ok.has _ (.inl k)
    · exact I.ok.has _ (.inr k)
  refine comprehension_at (use := use) rfl hs (closure_ok hfree) ok.kind (fun y hy e => by rw [ok.uniq y hy, e])
    (thn (hi.run pins s σ H _ I h) fun xv s1 hx => thn hx fun itv s2 h2 => ?_)
  obtain ⟨it, fp, tn, J, H2, e, I2, T, st2, f2, q⟩ := h2
  subst e
  refine wpAny_newObj_type (newEnv_comp ?_) (by show 0 ≤ sizeLine; decide)
  generalize hD : s2.heap.objs.size = D
  have hDn : H2 D = none := I2.hok.fresh (Nat.le_of_eq hD)
  obtain ⟨W, ⟨m0, w0⟩, turn⟩ := q D hDn
  -- the new list
  generalize hs3 : ({ s2 with heap := s2.heap.push { cls := .type "list", data := .seq ([] : List Value).toArray } } : Shared) = s3
  have I3 : Inv X pins σ (upd H2 D (.lst [])) s3 := by
    rw [← hs3]
    refine I2.laid (t' := s2.toks) (fun b o e => Heap.get?_push_of_some _ e) (Nat.le_of_eq hD) ⟨Nat.zero_le _, [], 0, .nil, ?_⟩
    rw [← hD]
    exact Heap.get?_push_size _ rfl
  have h3 : s3.heap = s2.heap.push { cls := .type "list", data := .seq ([] : List Value).toArray } := by rw [← hs3]
  have sz : ∀ b ∈ fp, b < s2.heap.objs.size := fun b hb => by
    obtain ⟨o, e, _⟩ := T.obj _ _ st2 b hb
    exact Heap.lt_size e
  have f3 : ∀ b ∈ fp, FpOk X pins (upd H2 D (.lst [])) b ∧ b < s3.heap.objs.size := fun b hb => by
    have hlt := sz b hb
    refine ⟨⟨?_, (f2 b hb).2⟩, by rw [h3, Heap.size_push]; exact Nat.lt_succ_of_lt hlt⟩
    rw [upd_ne (by rw [← hD]; exact Nat.ne_of_lt hlt)]
    exact (f2 b hb).1
  have st3 : tn 0 s3.heap := T.keep _ _ _ st2 fun b _ o e => by rw [h3]; exact Heap.get?_push_of_some _ e
  have I4 := block_start I3 ok hN f3
  have tkB := takes_blk (scope := scope) (ce := (compEnvC scope (cellsFrom (s3.heap.objs.size + 1) scope.names (cloFrom X.env.cells scope.names [])) s3.heap.objs.size X.env)) (fp := fp) hst hfr tk flw I3 rfl rfl f3
  have pg := hg s3 (upd H2 D (.lst [])) s3.heap.objs.size (cellsFrom (s3.heap.objs.size + 1) scope.names (cloFrom X.env.cells scope.names [])) fp _ tkB
  have pt := ht s3 (upd H2 D (.lst [])) s3.heap.objs.size (cellsFrom (s3.heap.objs.size + 1) scope.names (cloFrom X.env.cells scope.names [])) fp _ tkB
  have pe := he s3 (upd H2 D (.lst [])) s3.heap.objs.size (cellsFrom (s3.heap.objs.size + 1) scope.names (cloFrom X.env.cells scope.names [])) fp _ tkB
  show codeAny _ _ (.compStart (.ListComp elt [⟨tg, iter, ifs, 0⟩] scope pos) 0 (.ref it) (.ref D) (compEnvC scope (cellsFrom (s3.heap.objs.size + 1) scope.names (cloFrom X.env.cells scope.names [])) s3.heap.objs.size X.env)) (compEnds (model X.prog X.w) X.A X.xe use Qf (.ref D) (compEnvC scope (cellsFrom (s3.heap.objs.size + 1) scope.names (cloFrom X.env.cells scope.names [])) s3.heap.objs.size X.env)) { s3 with heap := pushCells (s3.heap.push { cls := .type "dict", data := .dict #[] }) scope.names }
  have nfp : ∀ b ∈ fp, (upd H2 D (.lst [])) b = none := fun b hb => (f3 b hb).1.1
  generalize hce : compEnvC scope (cellsFrom (s3.heap.objs.size + 1) scope.names (cloFrom X.env.cells scope.names [])) s3.heap.objs.size X.env = ce at I4 tkB pg pt pe ⊢
  have cL : ce.locals = s3.heap.objs.size := by subst hce; rfl
  generalize hH3 : upd H2 D (.lst []) = H3 at I3 I4 tkB pg pt pe w0 nfp f3
  generalize hs4 : ({ s3 with heap := pushCells (s3.heap.push { cls := .type "dict", data := .dict #[] }) scope.names } : Shared) = s4 at I4 ⊢
  have st4 : tn 0 s4.heap := T.keep _ _ _ st3 fun b _ o e => by rw [← hs4]; exact pushCells_keeps _ _ _ _ (Heap.get?_push_of_some _ e)
  have stat : ∀ {σ' : St} {H' : Hp} {s' : Shared}, Inv (blkE X s3 H3 scope ce fp (xeB X ce)) [] σ' H' s' → (∀ b ∈ fp, H' b = none) → ∀ b ∈ fp, FpOk (blkE X s3 H3 scope ce fp (xeB X ce)) [] H' b := fun {σ' H' s'} I' hn b hb =>
    ⟨hn b hb, (I'.ok.exf b hb).1, I'.ok.exfs b hb, .inl hb, fun x c e => (I'.ok.exf b hb).2 x c e, fun p hp => absurd (show p ∈ ([] : List (Addr × Obj)) ++ [] from hp) (by simp)⟩
  have hRE : ∀ e s', CompFails (model X.prog X.w) X.A X.xe ce e s' → compEnds (model X.prog X.w) X.A X.xe use Qf (.ref D) ce (.error e) s' := fun e s' q => by cases use <;> exact q
  have loop : codeAny (model X.prog X.w) X.A (.compLoop (.ListComp elt [⟨tg, iter, ifs, 0⟩] scope pos) 0 (.ref it) (.ref D) ce) (compEnds (model X.prog X.w) X.A X.xe use Qf (.ref D) ce) s4 := by
    refine compLoop_any (fun n s' => ∃ i H', Inv (blkE X s3 H3 scope ce fp (xeB X ce)) [] (wipe σ (own.map (·.2))) H' s' ∧ tn i s'.heap ∧ (∀ b ∈ fp, H' b = none) ∧ W i n H') ?_ m0 ⟨0, H3, inv_E I4, st4, nfp, w0⟩
    rintro n s5 ⟨i, H5, I5, st5, n5, w5⟩
    rcases turn i n H5 w5 with ⟨stop, qq⟩ | ⟨go, Nx, hNx, step⟩
    · have td := T.done (blkE X s3 H3 scope ce fp (xeB X ce)) rfl rfl rfl hc i [] s5 _ H5 (fun _ _ => False) I5 (stat I5 n5) st5 stop
      refine thnF td fun r s6 ⟨hr, I6⟩ => ?_
      subst hr
      -- back in the def's context
      have I7 : Inv X pins σ H5 s6 := I3.call' (ch := fp) I6.os I6.base I6.hok I6.bare fun b hb => ⟨(f3 b hb).1.2.2.2.1, (f3 b hb).1.2.1, (f3 b hb).1.2.2.2.2.1, (f3 b hb).1.2.2.2.2.2⟩
      have nC : H5 s3.heap.objs.size = none := by
        have z : H5 ce.locals = none := I6.free
        rw [cL] at z
        exact z
      obtain ⟨m, hn, _⟩ := I6.loc
      have hn : s6.heap.Ns ce.locals m := hn
      exact hRR D ce s6 m H5 I7 qq hn (by rw [cL]; exact I3.fpOk (Nat.le_refl _) nC)
    · have ti := T.item (blkE X s3 H3 scope ce fp (xeB X ce)) rfl rfl rfl hc i [] s5 _ H5 (fun _ _ => False) I5 (stat I5 n5) st5 go
      refine thnF ti fun r s6 ⟨u, hr, h6⟩ => ?_
      subst hr
      refine thnF h6 fun _ s7 ⟨x, H7, I7, r7, y7, st7, n7⟩ => ?_
      have I7' := I7.pinned (stat I7 n7) (T.obj _ _ st7)
      refine thnX hRE (pg.run _ s7 _ H7 x u _ I7' r7 (step x H7 y7)) fun _ s8 ⟨σ8, H8, I8, hw8, q8⟩ => ?_
      refine thnX hRE (pt.run _ s8 σ8 H8 _ I8 q8) fun b s9 ⟨H9, I9, q9⟩ => ?_
      -- the turn's end
      have fin : ∀ {s' : Shared} {H' : Hp}, Inv (blkE X s3 H3 scope ce fp (xeB X ce)) ([] ++ pinsAt fp s7.heap) σ8 H' s' → Nx H' → ∃ m, m < n ∧ ∃ i H', Inv (blkE X s3 H3 scope ce fp (xeB X ce)) [] (wipe σ (own.map (·.2))) H' s' ∧ tn i s'.heap ∧ (∀ b ∈ fp, H' b = none) ∧ W i m H' := fun {s' H'} I' nx => by
        obtain ⟨m', hm, w'⟩ := hNx H' nx
        have pin' : ∀ b ∈ fp, ∀ o, s7.heap.get? b = some o → s'.heap.get? b = some o ∧ H' b = none := fun b hb o e =>
          let z := I'.pin (b, o) (List.mem_append_right _ (List.mem_append_right _ (mem_pinsAt hb e)))
          ⟨z.1, z.2.1⟩
        have hl : (wipe σ (own.map (·.2))).length = σ8.length := by rw [← hw8, wipe_length]
        refine ⟨m', hm, i + 1, H', (I'.unpinned (pins := [])).weak hl (fun j v e => ?_), T.keep _ _ _ st7 fun b hb o e => (pin' b hb o e).1, fun b hb => ?_, w'⟩
        · rw [← hw8] at e
          exact (wipe_some e).1
        · obtain ⟨o, e, _⟩ := T.obj _ _ st7 b hb
          exact (pin' b hb o e).2
      cases b with
      | false =>
        simp only [Bool.false_eq_true, if_false] at q9 ⊢
        exact fin I9 q9
      | true =>
        simp only [if_true] at q9 ⊢
        refine thnX hRE (pe.run _ s9 σ8 H9 _ I9 q9) fun z s10 ⟨yv, H10, I10, r10, acc, hD10, hz10, nx⟩ => ?_
        exact app_ok (X := blkE X s3 H3 scope ce fp (xeB X ce)) I10 hD10 hz10 r10 fun s11 I11 => fin I11 nx
  exact codeAny_compStart_list loop (T.self X.A 0 _ _ _ st4 loop)
theorem lc2_coreX {pins : List (Addr × Obj)} {s : Shared} {σ : St} {H : Hp} {Q : VK} {elt tg iter tg1 iter1 : Expr} {ifs ifs1 : List Expr} {scope : Scope} {own : List (Str × Nat)} {vs1 : List Nat} {pos pos' : Pos} {wi wi1 : TI} {g g1 : TG} {tt tt1 : TT} {te : TE} {use : Option (Value → Sem Unit)} {Qf : Value → Shared → Prop}
    {W : WX} (hst : X.stack = X.env :: X.outer) (hfr : X.env.frame = some X.env.locals) (tk : Takes X W) (flw : FlatW W) (hc : X.calm = true) (hN : X.N.Nodup) (I : Inv X pins σ H s) (hi : PI X tg iter wi) (ok : BlkOk X.N X.env.scope scope own) (hv : ∀ i ∈ vs1, i ∈ own.map (·.2))
    (hg : ∀ (s : Shared) (H : Hp) (C : Addr) (cl : List (Str × Addr)) (fp : List Addr) (xe : Value → Shared → Prop), TakesC (blkE X s H scope (compEnvC scope cl C X.env) fp xe) W → PG (blkE X s H scope (compEnvC scope cl C X.env) fp xe) tg g) (ht : ∀ (s : Shared) (H : Hp) (C : Addr) (cl : List (Str × Addr)) (fp : List Addr) (xe : Value → Shared → Prop), TakesC (blkE X s H scope (compEnvC scope cl C X.env) fp xe) W → PTs (blkE X s H scope (compEnvC scope cl C X.env) fp xe) ifs tt)
    (he : ∀ (s : Shared) (H : Hp) (C : Addr) (cl : List (Str × Addr)) (fp : List Addr), PE (X.blk s H scope (compEnvC scope cl C X.env) fp) elt te) (hs : ∀ x, foldedSetIterable iter X.env x = pure x)
    (hi1 : ∀ (s : Shared) (H : Hp) (C : Addr) (cl : List (Str × Addr)) (fp : List Addr) (xe : Value → Shared → Prop), TakesC (blkE X s H scope (compEnvC scope cl C X.env) fp xe) W → PI (blkE X s H scope (compEnvC scope cl C X.env) fp xe) tg1 iter1 wi1)
    (hg1 : ∀ (s : Shared) (H : Hp) (C : Addr) (cl : List (Str × Addr)) (fp : List Addr), PG (X.blk s H scope (compEnvC scope cl C X.env) fp) tg1 g1)
    (ht1 : ∀ (s : Shared) (H : Hp) (C : Addr) (cl : List (Str × Addr)) (fp : List Addr), PTs (X.blk s H scope (compEnvC scope cl C X.env) fp) ifs1 tt1)
    (hs1 : ∀ env x, foldedSetIterable iter1 env x = pure x)
    (h : tLc2 wi g tt wi1 g1 tt1 te (own.map (·.2)) vs1 σ H Q)
    (hRR : ∀ D ce s' m H', Inv X pins σ H' s' → Q (.ref D) H' → s'.heap.Ns (Env.locals ce) m → FpOk X pins H' ce.locals → compEnds (model X.prog X.w) X.A X.xe use Qf (.ref D) ce (.ok .next) s') :
    wpAny (model X.prog X.w) X.A (comprehension (.ListComp elt [⟨tg, iter, ifs, 0⟩, ⟨tg1, iter1, ifs1, 0⟩] scope pos) scope X.env pos' (newList []) false (eval iter X.env) use) Qf X.xe s := by
  have hfree : ∀ y ∈ scope.names, y.2 = .free → ∃ c, X.env.cells.lookup y.1 = some c := fun y hy e => by
    rcases ok.free y hy e with k | k
    · exact I.ok.has _ (.inl k)
    · exact I.ok.has _ (.inr k)
  refine comprehension_at (use := use) rfl hs (closure_ok hfree) ok.kind (fun y hy e => by rw [ok.uniq y hy, e])
    (thn (hi.run pins s σ H _ I h) fun xv s1 hx => thn hx fun itv s2 h2 => ?_)
  obtain ⟨it, fp, tn, J, H2, e, I2, T, st2, f2, q⟩ := h2
  subst e
  refine wpAny_newObj_type (newEnv_comp ?_) (by show 0 ≤ sizeLine; decide)
  generalize hD : s2.heap.objs.size = D
  have hDn : H2 D = none := I2.hok.fresh (Nat.le_of_eq hD)
  obtain ⟨W, ⟨m0, w0⟩, turn⟩ := q D hDn
  -- the new list
  generalize hs3 : ({ s2 with heap := s2.heap.push { cls := .type "list", data := .seq ([] : List Value).toArray } } : Shared) = s3
  have I3 : Inv X pins σ (upd H2 D (.lst [])) s3 := by
    rw [← hs3]
    refine I2.laid (t' := s2.toks) (fun b o e => Heap.get?_push_of_some _ e) (Nat.le_of_eq hD) ⟨Nat.zero_le _, [], 0, .nil, ?_⟩
    rw [← hD]
    exact Heap.get?_push_size _ rfl
  have h3 : s3.heap = s2.heap.push { cls := .type "list", data := .seq ([] : List Value).toArray } := by rw [← hs3]
  have sz : ∀ b ∈ fp, b < s2.heap.objs.size := fun b hb => by
    obtain ⟨o, e, _⟩ := T.obj _ _ st2 b hb
    exact Heap.lt_size e
  have f3 : ∀ b ∈ fp, FpOk X pins (upd H2 D (.lst [])) b ∧ b < s3.heap.objs.size := fun b hb => by
    have hlt := sz b hb
    refine ⟨⟨?_, (f2 b hb).2⟩, by rw [h3, Heap.size_push]; exact Nat.lt_succ_of_lt hlt⟩
    rw [upd_ne (by rw [← hD]; exact Nat.ne_of_lt hlt)]
    exact (f2 b hb).1
  have st3 : tn 0 s3.heap := T.keep _ _ _ st2 fun b _ o e => by rw [h3]; exact Heap.get?_push_of_some _ e
  have I4 := block_start I3 ok hN f3
  have tkB := takes_blk (scope := scope) (ce := (compEnvC scope (cellsFrom (s3.heap.objs.size + 1) scope.names (cloFrom X.env.cells scope.names [])) s3.heap.objs.size X.env)) (fp := fp) hst hfr tk flw I3 rfl rfl f3
  have pg := hg s3 (upd H2 D (.lst [])) s3.heap.objs.size (cellsFrom (s3.heap.objs.size + 1) scope.names (cloFrom X.env.cells scope.names [])) fp _ tkB
  have pt := ht s3 (upd H2 D (.lst [])) s3.heap.objs.size (cellsFrom (s3.heap.objs.size + 1) scope.names (cloFrom X.env.cells scope.names [])) fp _ tkB
  have pe := he s3 (upd H2 D (.lst [])) s3.heap.objs.size (cellsFrom (s3.heap.objs.size + 1) scope.names (cloFrom X.env.cells scope.names [])) fp
  have pi1 := hi1 s3 (upd H2 D (.lst [])) s3.heap.objs.size (cellsFrom (s3.heap.objs.size + 1) scope.names (cloFrom X.env.cells scope.names [])) fp _ tkB
  have pg1 := hg1 s3 (upd H2 D (.lst [])) s3.heap.objs.size (cellsFrom (s3.heap.objs.size + 1) scope.names (cloFrom X.env.cells scope.names [])) fp
  have pt1 := ht1 s3 (upd H2 D (.lst [])) s3.heap.objs.size (cellsFrom (s3.heap.objs.size + 1) scope.names (cloFrom X.env.cells scope.names [])) fp
  show codeAny _ _ (.compStart (.ListComp elt [⟨tg, iter, ifs, 0⟩, ⟨tg1, iter1, ifs1, 0⟩] scope pos) 0 (.ref it) (.ref D) (compEnvC scope (cellsFrom (s3.heap.objs.size + 1) scope.names (cloFrom X.env.cells scope.names [])) s3.heap.objs.size X.env)) (compEnds (model X.prog X.w) X.A X.xe use Qf (.ref D) (compEnvC scope (cellsFrom (s3.heap.objs.size + 1) scope.names (cloFrom X.env.cells scope.names [])) s3.heap.objs.size X.env)) { s3 with heap := pushCells (s3.heap.push { cls := .type "dict", data := .dict #[] }) scope.names }
  have nfp : ∀ b ∈ fp, (upd H2 D (.lst [])) b = none := fun b hb => (f3 b hb).1.1
  generalize hce : compEnvC scope (cellsFrom (s3.heap.objs.size + 1) scope.names (cloFrom X.env.cells scope.names [])) s3.heap.objs.size X.env = ce at I4 tkB pg pt pe pi1 pg1 pt1 ⊢
  have cL : ce.locals = s3.heap.objs.size := by subst hce; rfl
  generalize hH3 : upd H2 D (.lst []) = H3 at I3 I4 tkB pg pt pe pi1 pg1 pt1 w0 nfp f3
  generalize hs4 : ({ s3 with heap := pushCells (s3.heap.push { cls := .type "dict", data := .dict #[] }) scope.names } : Shared) = s4 at I4 ⊢
  have st4 : tn 0 s4.heap := T.keep _ _ _ st3 fun b _ o e => by rw [← hs4]; exact pushCells_keeps _ _ _ _ (Heap.get?_push_of_some _ e)
  have stat : ∀ {σ' : St} {H' : Hp} {s' : Shared}, Inv (blkE X s3 H3 scope ce fp (xeB X ce)) [] σ' H' s' → (∀ b ∈ fp, H' b = none) → ∀ b ∈ fp, FpOk (blkE X s3 H3 scope ce fp (xeB X ce)) [] H' b := fun {σ' H' s'} I' hn b hb =>
    ⟨hn b hb, (I'.ok.exf b hb).1, I'.ok.exfs b hb, .inl hb, fun x c e => (I'.ok.exf b hb).2 x c e, fun p hp => absurd (show p ∈ ([] : List (Addr × Obj)) ++ [] from hp) (by simp)⟩
  have hRE : ∀ e s', CompFails (model X.prog X.w) X.A X.xe ce e s' → compEnds (model X.prog X.w) X.A X.xe use Qf (.ref D) ce (.error e) s' := fun e s' q => by cases use <;> exact q
  have loop : codeAny (model X.prog X.w) X.A (.compLoop (.ListComp elt [⟨tg, iter, ifs, 0⟩, ⟨tg1, iter1, ifs1, 0⟩] scope pos) 0 (.ref it) (.ref D) ce) (compEnds (model X.prog X.w) X.A X.xe use Qf (.ref D) ce) s4 := by
    refine compLoop2_out (hs1 ce) (fun n s' => ∃ i H', Inv (blkE X s3 H3 scope ce fp (xeB X ce)) [] (wipe σ (own.map (·.2))) H' s' ∧ tn i s'.heap ∧ (∀ b ∈ fp, H' b = none) ∧ W i n H') ?_ m0 ⟨0, H3, inv_E I4, st4, nfp, w0⟩
    rintro n s5 ⟨i, H5, I5, st5, n5, w5⟩
    rcases turn i n H5 w5 with ⟨stop, qq⟩ | ⟨go, Nx, hNx, step⟩
    · have td := T.done (blkE X s3 H3 scope ce fp (xeB X ce)) rfl rfl rfl hc i [] s5 _ H5 (fun _ _ => False) I5 (stat I5 n5) st5 stop
      refine thnF td fun r s6 ⟨hr, I6⟩ => ?_
      subst hr
      -- back in the def's context
      have I7 : Inv X pins σ H5 s6 := I3.call' (ch := fp) I6.os I6.base I6.hok I6.bare fun b hb => ⟨(f3 b hb).1.2.2.2.1, (f3 b hb).1.2.1, (f3 b hb).1.2.2.2.2.1, (f3 b hb).1.2.2.2.2.2⟩
      have nC : H5 s3.heap.objs.size = none := by
        have z : H5 ce.locals = none := I6.free
        rw [cL] at z
        exact z
      obtain ⟨m, hn, _⟩ := I6.loc
      have hn : s6.heap.Ns ce.locals m := hn
      exact hRR D ce s6 m H5 I7 qq hn (by rw [cL]; exact I3.fpOk (Nat.le_refl _) nC)
    · have ti := T.item (blkE X s3 H3 scope ce fp (xeB X ce)) rfl rfl rfl hc i [] s5 _ H5 (fun _ _ => False) I5 (stat I5 n5) st5 go
      refine thnF ti fun r s6 ⟨u, hr, h6⟩ => ?_
      subst hr
      refine thnF h6 fun _ s7 ⟨x, H7, I7, r7, y7, st7, n7⟩ => ?_
      have I7' := I7.pinned (stat I7 n7) (T.obj _ _ st7)
      refine thnX hRE (pg.run _ s7 _ H7 x u _ I7' r7 (step x H7 y7)) fun _ s8 ⟨σ8, H8, I8, hw8, q8⟩ => ?_
      refine thnX hRE (pt.run _ s8 σ8 H8 _ I8 q8) fun b s9 ⟨H9, I9, q9⟩ => ?_
      -- the turn's end, from any slots that know what the block knew at its start
      have fin : ∀ {σ9 : St} {s' : Shared} {H' : Hp}, Inv (blkE X s3 H3 scope ce fp (xeB X ce)) ([] ++ pinsAt fp s7.heap) σ9 H' s' → (wipe σ (own.map (·.2))).length = σ9.length → (∀ (j : Nat) v, (wipe σ (own.map (·.2)))[j]? = some (some v) → σ9[j]? = some (some v)) → Nx H' →
          ∃ m, m < n ∧ ∃ i H', Inv (blkE X s3 H3 scope ce fp (xeB X ce)) [] (wipe σ (own.map (·.2))) H' s' ∧ tn i s'.heap ∧ (∀ b ∈ fp, H' b = none) ∧ W i m H' := fun {σ9 s' H'} I' hl hk nx => by
        obtain ⟨m', hm, w'⟩ := hNx H' nx
        have pin' : ∀ b ∈ fp, ∀ o, s7.heap.get? b = some o → s'.heap.get? b = some o ∧ H' b = none := fun b hb o e =>
          let z := I'.pin (b, o) (List.mem_append_right _ (List.mem_append_right _ (mem_pinsAt hb e)))
          ⟨z.1, z.2.1⟩
        refine ⟨m', hm, i + 1, H', (I'.unpinned (pins := [])).weak hl hk, T.keep _ _ _ st7 fun b hb o e => (pin' b hb o e).1, fun b hb => ?_, w'⟩
        obtain ⟨o, e, _⟩ := T.obj _ _ st7 b hb
        exact (pin' b hb o e).2
      have hl8 : (wipe σ (own.map (·.2))).length = σ8.length := by rw [← hw8, wipe_length]
      have hk8 : ∀ (j : Nat) v, (wipe σ (own.map (·.2)))[j]? = some (some v) → σ8[j]? = some (some v) := fun j v e => by
        rw [← hw8] at e
        exact (wipe_some e).1
      have hk9 : ∀ (j : Nat) v, (wipe σ (own.map (·.2)))[j]? = some (some v) → (wipe σ8 vs1)[j]? = some (some v) := fun j v e => by
        rw [← hw8] at e
        obtain ⟨e1, e2⟩ := wipe_some e
        rw [wipe_out fun z => e2 (hv j z)]
        exact e1
      cases b with
      | false =>
        simp only [Bool.false_eq_true, if_false] at q9 ⊢
        exact fin I9 hl8 hk8 q9
      | true =>
        simp only [if_true] at q9 ⊢
        refine thnX hRE (pi1.run _ s9 σ8 H9 _ I9 q9) fun xv s10 hx => thnX hRE hx fun itv s11 h11 => ?_
        obtain ⟨it1, fp1, tn1, J1, H11, e1, I11, T1, st11, f11, W1, ⟨m1, w1⟩, turn1⟩ := h11
        subst e1
        -- the inner loop
        have stat1 : ∀ {H' : Hp}, (∀ b ∈ fp1, H' b = none) → ∀ b ∈ fp1, FpOk (X.blk s3 H3 scope ce fp) ([] ++ pinsAt fp s7.heap) H' b := fun hn b hb => ⟨hn b hb, (f11 b hb).2⟩
        have loop1 : codeAny (model X.prog X.w) X.A (.compLoop (.ListComp elt [⟨tg, iter, ifs, 0⟩, ⟨tg1, iter1, ifs1, 0⟩] scope pos) 1 (.ref it1) (.ref D) ce)
            (fun r s' => match r with
              | .ok _ => ∃ m, m < n ∧ ∃ i H', Inv (blkE X s3 H3 scope ce fp (xeB X ce)) [] (wipe σ (own.map (·.2))) H' s' ∧ tn i s'.heap ∧ (∀ b ∈ fp, H' b = none) ∧ W i m H'
              | .error _ => False) s11 := by
          refine compLoop2_in (fun k s' => ∃ j H', Inv (X.blk s3 H3 scope ce fp) ([] ++ pinsAt fp s7.heap) (wipe σ8 vs1) H' s' ∧ tn1 j s'.heap ∧ (∀ b ∈ fp1, H' b = none) ∧ W1 j k H') ?_ m1 ⟨0, H11, (inv_0 I11).weak (wipe_length _ _) (fun j v e => (wipe_some e).1), st11, fun b hb => (f11 b hb).1, w1⟩
          rintro k s12 ⟨j, H12, I12, st12, n12, w12⟩
          rcases turn1 j k H12 w12 with ⟨stop1, nx1⟩ | ⟨go1, Nx1, hNx1, step1⟩
          · refine thnF (T1.done (X.blk s3 H3 scope ce fp) rfl rfl rfl hc j _ s12 (wipe σ8 vs1) H12 (fun _ _ => False) I12 (stat1 n12) st12 stop1) fun r s13 ⟨hr, I13⟩ => ?_
            subst hr
            exact fin (inv_E I13) (hl8.trans (wipe_length σ8 vs1).symm) hk9 nx1
          · refine thnF (T1.item (X.blk s3 H3 scope ce fp) rfl rfl rfl hc j _ s12 (wipe σ8 vs1) H12 (fun _ _ => False) I12 (stat1 n12) st12 go1) fun r s13 ⟨u1, hr, h13⟩ => ?_
            subst hr
            refine thnF h13 fun _ s14 ⟨x1, H14, I14, r14, y14, st14, n14⟩ => ?_
            have I14' := I14.pinned (stat1 n14) (T1.obj _ _ st14)
            refine thnF (pg1.run _ s14 (wipe σ8 vs1) H14 x1 u1 _ I14' r14 (step1 x1 H14 y14)) fun _ s15 ⟨σ15, H15, I15, hw15, q15⟩ => ?_
            refine thnF (pt1.run _ s15 σ15 H15 _ I15 q15) fun b1 s16 ⟨H16, I16, q16⟩ => ?_
            have fin1 : ∀ {s' : Shared} {H' : Hp}, Inv (X.blk s3 H3 scope ce fp) (([] ++ pinsAt fp s7.heap) ++ pinsAt fp1 s14.heap) σ15 H' s' → Nx1 H' → ∃ m, m < k ∧ ∃ j H', Inv (X.blk s3 H3 scope ce fp) ([] ++ pinsAt fp s7.heap) (wipe σ8 vs1) H' s' ∧ tn1 j s'.heap ∧ (∀ b ∈ fp1, H' b = none) ∧ W1 j m H' := fun {s' H'} I' nx => by
              obtain ⟨m', hm, w'⟩ := hNx1 H' nx
              have pin' : ∀ b ∈ fp1, ∀ o, s14.heap.get? b = some o → s'.heap.get? b = some o ∧ H' b = none := fun b hb o e =>
                let z := I'.pin (b, o) (List.mem_append_right _ (List.mem_append_right _ (mem_pinsAt hb e)))
                ⟨z.1, z.2.1⟩
              refine ⟨m', hm, j + 1, H', I'.unpinned.weak (by rw [← hw15, wipe_length]) (fun j v e => by rw [← hw15] at e; exact (wipe_some e).1), T1.keep _ _ _ st14 fun b hb o e => (pin' b hb o e).1, fun b hb => ?_, w'⟩
              obtain ⟨o, e, _⟩ := T1.obj _ _ st14 b hb
              exact (pin' b hb o e).2
            cases b1 with
            | false =>
              simp only [Bool.false_eq_true, if_false] at q16 ⊢
              exact fin1 I16 q16
            | true =>
              simp only [if_true] at q16 ⊢
              refine thnF (pe.run _ s16 σ15 H16 _ I16 q16) fun z s17 ⟨yv, H17, I17, r17, acc, hD17, hz17, nx⟩ => ?_
              exact app_ok (X := X.blk s3 H3 scope ce fp) I17 hD17 hz17 r17 fun s18 I18 => fin1 I18 nx
        exact compStart1_ok loop1 (T1.self X.A 0 _ _ _ st11 loop1)
  exact codeAny_compStart_list loop (T.self X.A 0 _ _ _ st4 loop)
end
end PD
set_option Elab.async false
set_option linter.all false
set_option maxRecDepth 100000
set_option maxHeartbeats 1000000
namespace PySem
/-- enumerate(v) of what an iterator draws (the kit has it with a start alone) -/
theorem meets_enumerate_newB1 {v : Value} {o : Obj} {H : Heap → Prop} (B : Begins v o H) :
    Meets (Builtin.«enumerate.__new__» ⟨[.type "enumerate", v], []⟩) (fun _ R s => H s.heap ∧
      R (.ok (.ret (.ref (s.heap.push o).objs.size))) { s with heap := (s.heap.push o).push { cls := .type "enumerate", data := .fields #[.none, .bool false, .ref s.heap.objs.size, rawInt 0, .none, .none] } }) :=
  .of_wp fun prog w A R s h => by
    obtain ⟨hp, g, d, tk, os⟩ := s; obtain ⟨h1, h⟩ := h
    have hsub := sub_enumerate
    have q1 : ∀ {A' : Around} {E : Value → Shared → Prop} {Q : Value → Shared → Prop}, Q (.ref hp.objs.size) ⟨hp.push o, g, d, tk, os⟩ → wpAny (model prog w) A' (pyIter v) Q E ⟨hp, g, d, tk, os⟩ :=
      fun q => B.iter prog w _ _ ⟨hp, g, d, tk, os⟩ _ h1 q
    wp_walk using q1
    refine wpAny_stack_any fun st => wpAny_pure ?_
    split
    · rename_i c _ _ _ _ _
      cases (c == Value.type "enumerate")
      · wp_walk using q1
        exact ⟨_, rfl, h⟩
      · wp_walk using q1
        exact ⟨_, rfl, h⟩
    · wp_walk using q1
      exact ⟨_, rfl, h⟩
section
variable {prog : Program} {w : World} {A : Around} {E : Value → Shared → Prop} {s : Shared}
theorem enum_begins1 {v : Value} {o : Obj} {H : Heap → Prop} {Q : Value → Shared → Prop} (B : Begins v o H) (h1 : H s.heap)
    (h : ∀ h', IsEnum h' (s.heap.objs.size + 1) s.heap.objs.size 0 .none → h'.get? s.heap.objs.size = some o → h'.objs.size = s.heap.objs.size + 2 →
      (∀ b o, s.heap.get? b = some o → h'.get? b = some o) → Q (.ref (s.heap.objs.size + 1)) { s with heap := h' }) :
    wpAny (model prog w) A (call (.type "enumerate") [v]) Q E s := by
  refine callType_new F.called_enumerate (by decide) (F.typeCall_enumerate_1 _) (F.newCall_enumerate_1 _) (fun obj => F.args_object_init_2 obj _) F.entry_enumerate_new
    (meets_enumerate_newB1 B) ⟨h1, ?_⟩
  have hz : (s.heap.push o).objs.size = s.heap.objs.size + 1 := Heap.size_push ..
  show _ ∧ _
  rw [hz]
  have he : IsEnum ((s.heap.push o).push { cls := .type "enumerate", data := .fields #[.none, .bool false, .ref s.heap.objs.size, rawInt 0, .none, .none] }) (s.heap.objs.size + 1) s.heap.objs.size 0 .none := by
    have := Heap.get?_push_size (s.heap.push o) (o := { cls := .type "enumerate", data := .fields #[.none, .bool false, .ref s.heap.objs.size, rawInt 0, .none, .none] }) rfl
    rw [hz] at this; exact this
  refine ⟨⟨_, he, rfl⟩, h _ he (Heap.get?_push_of_some _ (Heap.get?_push_size _ B.free)) (by rw [Heap.size_push, hz]) fun b o x => Heap.get?_push_of_some _ (Heap.get?_push_of_some _ x)⟩
theorem wpAny_pyNext_enum_endI {e it l : Addr} {i : Nat} {items : Array Value} {old : Value} {Q : Option Value → Shared → Prop} (hh : A.handled = none)
    (he : IsEnum s.heap e it i old) (hit : s.heap.IsTupleIter it l i) (hl : s.heap.IsTuple l items) (hx : items[i]? = none) (hQ : ∀ h', Heap.ExtBut it s.heap h' → Q none { s with heap := h' }) : wpAny (model prog w) A (pyNext (.ref e)) Q E s := by
  have hT : s.TypeIs (.ref e) "enumerate" := ⟨_, he, rfl⟩
  unfold pyNext
  refine wpAny_bind (wpAny_attempt (wpAny_callSpecial?_slot (name := Str.ofString "__next__") hT F.slot_enumerate_next
    (wpAny_call_entry F.slot_enumerate_next hT F.entry_enumerate_next ?_ (F.args_enumerate_next_1 _))))
  show wpAny _ _ (field (.ref e) 2 >>= _) _ _ _
  refine wpAny_bind (wpAny_field he rfl (x := .ref it) rfl ?_)
  refine wpAny_bind (wpAny_nextOf_tuple_end (A := A.in1) hh hit hl hx fun h' x he' hx' => ?_)
  obtain ⟨o, ho, hc⟩ := hx'
  refine wpAny_bind (wpAny_isInstance (T := "StopIteration") (b := true) ⟨o, ho, hc⟩ isSubtype_stop ?_)
  exact wpAny_pure (hQ _ he')
end
end PySem
namespace PD
open PySem PySem.Spec PyProof.Rows L2
/-! ### enumerate(tuple) -/
def ItT (K : PySem.W.Frag) (a : Addr) : It :=
  ⟨fun i H => ∃ (xs : List V) (x : V), SqT K H a xs ∧ xs[i]? = some x, fun i H v H' => ∃ T x, v = .ref T ∧ H T = none ∧ H' = upd H T (.tup [.int (i : Nat), x]) ∧ ∀ xs, SqT K H a xs → xs[i]? = some x, fun i H => ∃ xs : List V, SqT K H a xs ∧ xs.length ≤ i⟩
theorem turn_enumT {P : Program} {w : World} {K : PySem.W.Frag} {elts : List Expr} {kk : Nat} {tpos : Pos} (a e it : Addr) (hae : a ≠ it) :
    Turn P w K (.Tuple elts kk tpos) (ItT K a) [e, it] e (fun i h => (∃ old, IsEnum h e it ((i : Nat) : Int) old) ∧ h.IsTupleIter it a i ∧ e ≠ it) where
  mem := by simp
  obj := fun i h st b hb => by
    obtain ⟨⟨old, he⟩, ⟨o, ho, hc, hd⟩, _⟩ := st
    have e' : b = e ∨ b = it := by simpa using hb
    rcases e' with z | z
    · rw [z]; exact ⟨_, he, fun v q => nomatch q⟩
    · rw [z]; exact ⟨o, ho, fun v q => by rw [hd] at q; cases q⟩
  keep := fun i h h' st k => let ⟨⟨old, he⟩, hi, hne⟩ := st; ⟨⟨old, k e (by simp) _ he⟩, hi.at fun o q => k it (by simp) o q, hne⟩
  item := by
    intro X hP hw hK hc i pins s σ H E I hf st hg
    subst hP hw hK
    obtain ⟨⟨old, he⟩, hit, hne⟩ := st
    obtain ⟨xs, x, hq, hx⟩ := hg
    obtain ⟨its, rv, p, hz⟩ := I.tuple hq
    obtain ⟨u, hu, ru⟩ := rv.get hx
    have hel : e < s.heap.objs.size := Heap.lt_size he
    have hil : it < s.heap.objs.size := by obtain ⟨_, q, _⟩ := hit; exact Heap.lt_size q
    have hea : e ≠ a := fun z => by
      obtain ⟨oa, ha, hca, na, hda⟩ := (show s.heap.IsTuple a its.toArray from p)
      rw [← z, he] at ha
      cases ha
      cases hda
    have hn : i < its.toArray.size := by
      have := (List.getElem?_eq_some_iff.mp hu).1
      simpa using this
    refine wpAny_pyNext_enum_itemD (Draws.tuple (A := X.A.in1) (show X.A.in1.handled = none from I.ok.hd hc) it a hae its.toArray) he ⟨hit, p⟩ hn hne (by simp; exact ⟨hne, hea⟩) fun x0 h' tk hP0 ho hst' hT hsz hk => ?_
    have e0 : x0 = u := by
      have : its.toArray[i]? = some u := by simpa using hu
      rw [this] at hP0; cases hP0; rfl
    subst e0
    obtain ⟨hit', _⟩ := hst'
    refine ⟨_, rfl, wpAny_letOwnedTupleGo_enum (s := { s with heap := h', toks := tk + 1 }) ho fun h'' he' sb => ?_⟩
    have hT2 : h''.get? s.heap.objs.size = some { cls := .type "tuple", data := .seq #[.int i tk, x0] } := (sb.2 _ (Nat.ne_of_gt hel)).trans hT
    have new : ObjOk X.prog X.w (upd H s.heap.objs.size (.tup [.int (i : Nat), x])) h'' s.heap.objs.size (.tup [.int (i : Nat), x]) :=
      ⟨by show 2 ≤ sizeLine; decide, [.int i tk, x0], .cons ⟨_, rfl⟩ (.cons ru .nil), ⟨_, hT2, rfl, _, rfl⟩⟩
    have I1 : Inv X pins σ (upd H s.heap.objs.size (.tup [.int (i : Nat), x])) { s with heap := h'', toks := tk + 1 } :=
      I.turnedNew (ch := [e, it]) (fun b ob hb q => (sb.2 b (fun z => hb (by simp [z]))).trans (hk b ob (fun z => hb (by simp [z])) (fun z => hb (by simp [z])) q)) hf (Nat.le_refl _) new
    refine ⟨.ref s.heap.objs.size, _, I1, rfl, ⟨_, x, rfl, I.hok.fresh (Nat.le_refl _), rfl, fun ys hy => ?_⟩, ⟨⟨x0, ?_⟩, hit'.at fun o q => (sb.2 it (Ne.symm hne)).trans q, hne⟩, fun b hb => ?_⟩
    · rw [I.tuple_inj hy hq]; exact hx
    · have e1 : ((i + 1 : Nat) : Int) = (i : Int) + 1 := by omega
      rw [e1]; exact he'
    · have hb' : b < s.heap.objs.size := by
        have e' : b = e ∨ b = it := by simpa using hb
        rcases e' with z | z
        · rw [z]; exact hel
        · rw [z]; exact hil
      rw [upd_ne (Nat.ne_of_lt hb')]
      exact (hf b hb).1
  done := by
    intro X hP hw hK hc i pins s σ H E I hf st hg
    subst hP hw hK
    obtain ⟨⟨old, he⟩, hit, hne⟩ := st
    obtain ⟨xs, hq, hx⟩ := hg
    obtain ⟨its, rv, p, hz⟩ := I.tuple hq
    obtain ⟨f0, f1, f2, f3, f4, f5⟩ := hf it (by simp)
    have hl := rv.length
    refine wpAny_pyNext_enum_endI (I.ok.hd hc) he hit p (by simp; omega) fun h' eb => ⟨rfl, I.turned (t' := s.toks) (fun b o hb q => eb b o hb q) f0 f1 f3 f4 f5⟩
  self := fun A i s Q E st h => let ⟨⟨_, he⟩, _⟩ := st; wpAny_pyIter_enum he h
end PD
set_option Elab.async false
set_option linter.all false
set_option maxRecDepth 100000
set_option maxHeartbeats 1000000
namespace PD
open PySem PySem.Spec PyProof.Rows L2
/-! ### enumerate -/
def iEnumT (K : PySem.W.Frag) (ta : TA) : TI := fun σ H R => ta σ H fun vs H1 => ∃ a xs, vs = [.ref a] ∧ SqT K H1 a xs ∧ R (ItT K a) H1
theorem pi_enumT {X : Cx} {e : Expr} {ta : TA} {p pos tpos : Pos} {elts : List Expr} {kk : Nat} (hg : Gl X "enumerate") (hm : X.mg "enumerate" = none) (ha : PA X [e] ta) (hs : starEach [e] X.env = [(false, eval e X.env)] := by rfl) :
    PI X (.Tuple elts kk tpos) (.Call (.Name "enumerate" p) [e] [] pos) (iEnumT X.K ta) := by
  refine ⟨fun pins s σ H R I h => ?_⟩
  refine Call_ (ld_blt I hg hm boot_enumerate (PyProof.Rows.callWith_type1 (thn (ha.run pos pins s σ H _ I h) fun us s1 ⟨vs, H1, I1, r1, q1⟩ => ?_) hs rfl))
  obtain ⟨a, xs, ex, hq, q⟩ := q1
  subst ex
  cases r1 with
  | cons r rr =>
    cases rr
    cases r
    obtain ⟨its, rv, p', hz⟩ := I1.tuple hq
    have p2 : s1.heap.IsTuple a its.toArray := p'
    have hlt : a < s1.heap.objs.size := by obtain ⟨o, e, _⟩ := p2; exact Heap.lt_size e
    refine enum_begins1 (begins_tuple a its.toArray) p2 fun h' he hit hsz hk => wpAny_pyIter_enum he ?_
    have I2 : Inv X pins σ H1 { s1 with heap := h' } := I1.kept (t' := s1.toks) hk
    refine ⟨s1.heap.objs.size + 1, [s1.heap.objs.size + 1, s1.heap.objs.size], _, _, H1, rfl, I2, turn_enumT a (s1.heap.objs.size + 1) s1.heap.objs.size (Nat.ne_of_lt hlt), ⟨⟨.none, he⟩, ⟨_, hit, rfl, rfl⟩, Nat.succ_ne_self _⟩, fun b hb => ?_, q⟩
    have e' : b = s1.heap.objs.size + 1 ∨ b = s1.heap.objs.size := by simpa using hb
    have hle : s1.heap.objs.size ≤ b := by
      rcases e' with z | z
      · rw [z]; exact Nat.le_add_right _ _
      · rw [z]; exact Nat.le_refl _
    exact I1.fpOk hle (I1.hok.fresh hle)
def pairs (ds : List PyData) : List PyData := (List.range ds.length).map fun i => .tuple [.int (i : Nat), ds.getD i .none]
theorem pairs_len (ds : List PyData) : (pairs ds).length = ds.length := by unfold pairs; simp
theorem pairs_get {ds : List PyData} {i : Nat} {y : PyData} (h : (pairs ds)[i]? = some y) : ∃ d, ds[i]? = some d ∧ y = .tuple [.int (i : Nat), d] := by
  unfold pairs at h
  rw [List.getElem?_map] at h
  obtain ⟨c, e1, rfl⟩ := Option.map_eq_some_iff.mp h
  have hi : i < ds.length := by
    have := (List.getElem?_eq_some_iff.mp e1).1
    rwa [List.length_range] at this
  rw [List.getElem?_range hi] at e1
  cases e1
  exact ⟨ds[i], by simp [hi], by simp [hi]⟩
section
variable {X : Cx} {Z : Zx} {pos : Pos}
theorem pair_new {I' H' : Hp} {i : Nat} {T : Addr} {v : V} {d : PyData} (g : Good Z.R I' H') (hT : H' T = none) (av : Da Z.K I' v d) : ∃ I'', Ext Z.R I' H' I'' (upd H' T (.tup [.int (i : Nat), v])) ∧ Da Z.K I'' (.ref T) (.tuple [.int (i : Nat), d]) := by
  obtain ⟨n1, n2⟩ := fresh_off (Z := Z) g hT
  exact ⟨_, ext_new g hT (by show 2 ≤ sizeLine; decide), .tup (SqT.of upd_same) (.cons (.int _) (.cons (da_mono (upd_sub n1) _ _ av) .nil))⟩
theorem runs_enum {I : Hp} {a : Addr} {vs : List V} {ds : List PyData} (h : I a = some (.lst vs)) (ad : DaAll Z.K I vs ds) : Runs Z (Ite Z.K a) I (pairs ds) := fun I' H' g s => by
  have h1 : SqL Z.K H' a vs := SqL.of (g.sub _ _ (s _ _ h))
  refine ⟨fun i y e => ?_, ⟨vs, h1, by rw [pairs_len]; exact Nat.le_of_eq ad.len⟩⟩
  obtain ⟨d, ed, rfl⟩ := pairs_get e
  obtain ⟨v, e1, a1⟩ := ad.get ed
  refine ⟨⟨vs, v, h1, e1⟩, fun x H'' hy => ?_⟩
  obtain ⟨T, w, rfl, hT, rfl, hw⟩ := hy
  have e2 := hw vs h1
  rw [e1] at e2
  cases e2
  exact pair_new g hT (da_mono s _ _ a1)
theorem runs_enumT {I : Hp} {a : Addr} {vs : List V} {ds : List PyData} (h : SqT Z.K I a vs) (ad : DaAll Z.K I vs ds) : Runs Z (ItT Z.K a) I (pairs ds) := fun I' H' g s => by
  have h1 : SqT Z.K H' a vs := sqT_mono g.sub (sqT_mono s h)
  refine ⟨fun i y e => ?_, ⟨vs, h1, by rw [pairs_len]; exact Nat.le_of_eq ad.len⟩⟩
  obtain ⟨d, ed, rfl⟩ := pairs_get e
  obtain ⟨v, e1, a1⟩ := ad.get ed
  refine ⟨⟨vs, v, h1, e1⟩, fun x H'' hy => ?_⟩
  obtain ⟨T, w, rfl, hT, rfl, hw⟩ := hy
  have e2 := hw vs h1
  rw [e1] at e2
  cases e2
  exact pair_new g hT (da_mono s _ _ a1)
/-- enumerate(a list held by nobody's slot, a tuple) -/
def dEnum (tup : Bool) (a : TDA) : TDI := fun δ Q E => a δ (fun xs => match xs, tup with
  | [.d (.list ds)], false => Q (pairs ds)
  | [.d (.tuple ds)], true => Q (pairs ds)
  | _, _ => False) E
theorem di_enum {e : Expr} {ta : TA} {da : TDA} {p tpos : Pos} {elts : List Expr} {kk : Nat} (hg : Gl X "enumerate") (hm : X.mg "enumerate" = none) (h : DA X Z [e] ta da) (hK : Z.K = X.K) (hs : starEach [e] X.env = [(false, eval e X.env)] := by rfl) : DI X Z (.Tuple elts kk tpos) (.Call (.Name "enumerate" p) [e] [] pos) (iEnum Z.K ta) (dEnum false da) := by
  refine ⟨by rw [hK]; exact pi_enum hg hm h.pa hs, fun I H δ σ Qd Ed R hh q k => h.rf I H δ σ _ Ed _ hh q fun xs vs I1 H1 e1 a1 q1 => ?_⟩
  split at q1
  · obtain ⟨v, rfl, a2⟩ := at1 a1
    cases a2 with
    | lst h1 h2 =>
      have l := e1.good.len _ _ h1
      exact ⟨_, _, rfl, SqL.of (e1.good.sub _ _ h1), k _ _ I1 H1 e1 (runs_enum h1 h2) (by rw [pairs_len, ← h2.len]; exact l) q1⟩
  · rename_i hb; cases hb
  · exact q1.elim
theorem di_enumT {e : Expr} {ta : TA} {da : TDA} {p tpos : Pos} {elts : List Expr} {kk : Nat} (hg : Gl X "enumerate") (hm : X.mg "enumerate" = none) (h : DA X Z [e] ta da) (hK : Z.K = X.K) (hs : starEach [e] X.env = [(false, eval e X.env)] := by rfl) : DI X Z (.Tuple elts kk tpos) (.Call (.Name "enumerate" p) [e] [] pos) (iEnumT Z.K ta) (dEnum true da) := by
  refine ⟨by rw [hK]; exact pi_enumT hg hm h.pa hs, fun I H δ σ Qd Ed R hh q k => h.rf I H δ σ _ Ed _ hh q fun xs vs I1 H1 e1 a1 q1 => ?_⟩
  split at q1
  · rename_i hb; cases hb
  · obtain ⟨v, rfl, a2⟩ := at1 a1
    obtain ⟨q, us, rfl, h1, h1', h2⟩ := tup_at e1.good a2
    have l := tup_len e1.good h1
    exact ⟨_, _, rfl, h1', k _ _ I1 H1 e1 (runs_enumT h1 h2) (by rw [pairs_len, ← h2.len]; exact l) q1⟩
  · exact q1.elim
end
/-! ### comprehensions that may raise -/
def dLcX (ti : TDI) (dg : TDG) (dt : TDT) (de : TD) (vs : List Nat) : TD := fun δ Q E => ti δ (fun ds =>
  lcGo (fun d K => dg (.d d) (wipeD δ vs) (fun δ' => dt δ' (fun b => if b = true then de δ' (fun y => match froz y with | .d y => K (some y) | _ => False) E else K none) E)) ds [] (fun ys => Q (.new ys))) E
section
variable {X : Cx} {Z : Zx} {pos : Pos}
theorem lc_rfX (fl : FlatW Z.W) {wi : TI} {g : TG} {tt : TT} {te : TE} {vs : List Nat} {ti : TDI} {dg : TDG} {dt : TDT} {de : TD}
    (hi : ∀ I H δ σ Qd Ed (R : It → Hp → Prop), Here Z I H δ σ Ed → ti δ Qd Ed → (∀ J ds I' H', Ext Z.R I H I' H' → Runs Z J I' ds → ds.length ≤ sizeLine → Qd ds → R J H') → wi σ H R)
    (hg : ∀ I H δ σ x v Qd Q Hs, Good Z.R I H → EnvAt Z I H δ σ → At Z Hs I H x v → dg x δ Qd → (∀ δ' σ' I' H', Ext Z.R I H I' H' → EnvAt Z I' H' δ' σ' → Qd δ' → Q σ' H') → g v σ H Q)
    (ht : ∀ I H δ σ Qd Ed Q, Here Z I H δ σ Ed → dt δ Qd Ed → ThenB Z I H Qd Q → tt σ H Q)
    (he : ∀ I H δ σ Qd Ed Q, Here Z I H δ σ Ed → de δ Qd Ed → Then Z I H Qd Q → te σ H Q) (tg : Tgt g vs) :
    ∀ I H δ σ Qd Ed Q, Here Z I H δ σ Ed → dLcX ti dg dt de vs δ Qd Ed → Then Z I H Qd Q → tLc wi g tt te vs σ H Q := fun I H δ σ Qd Ed Q hh q k => by
  refine hi I H δ σ _ Ed _ hh q fun J ds I1 H1 e1 rn hl q1 D hD => ?_
  have h1 := hh.ext e1
  have k1 := k.ext hh.g e1
  obtain ⟨n1, n2⟩ := fresh_off h1.g hD
  have hD0 : Z.H0 D = none := h1.old D hD
  generalize hb : (fun d K => dg (.d d) (wipeD δ vs) (fun δ' => dt δ' (fun b => if b = true then de δ' (fun y => match froz y with | .d y => K (some y) | _ => False) Ed else K none) Ed) : PyData → (Option PyData → Prop) → Prop) = body at q1
  refine ⟨fun i m H' => m = ds.length - i ∧ i ≤ ds.length ∧ ∃ I' acc us, Ext Z.R I1 H1 I' H' ∧ H' D = some (.lst us) ∧ DaAll Z.K I' us acc ∧ I' D = none ∧ acc.length ≤ i ∧ lcGo body (ds.drop i) acc (fun ys => Qd (.new ys)),
    ⟨ds.length, by simp, Nat.zero_le _, I1, [], [], ext_own h1.g hD, upd_same, .nil, n1, Nat.le_refl _, by simpa using q1⟩, ?_⟩
  rintro i m H' ⟨rfl, hi', I', acc, us, e', hu, au, nu, la, q'⟩
  obtain ⟨go, stop⟩ := rn I' H' e'.good e'.sub
  have l2 := au.len
  by_cases hlt : i < ds.length
  · have ed : ds[i]? = some ds[i] := by simp [hlt]
    rw [List.drop_eq_getElem_cons hlt] at q'
    obtain ⟨g1, g2⟩ := go i _ ed
    refine .inr ⟨g1, fun H2 => i + 1 ≤ ds.length ∧ ∃ I' acc us, Ext Z.R I1 H1 I' H2 ∧ H2 D = some (.lst us) ∧ DaAll Z.K I' us acc ∧ I' D = none ∧ acc.length ≤ i + 1 ∧ lcGo body (ds.drop (i + 1)) acc (fun ys => Qd (.new ys)),
      fun H2 w2 => ⟨ds.length - (i + 1), by omega, rfl, w2⟩, fun x H'' hy => ?_⟩
    obtain ⟨I'', ex, ax⟩ := g2 x H'' hy
    have e'' := e'.trans h1.g ex
    have env'' : EnvAt Z I'' H'' (wipeD δ vs) (L2.wipe σ vs) := (h1.env.ext e'').wipe vs
    subst hb
    have wi : ∀ ws : List Nat, L2.wipe (L2.wipe σ ws) ws = L2.wipe σ ws := fun ws => by
      have : ∀ (τ : St) (us : List Nat), (∀ u ∈ us, u < τ.length → τ[u]? = some none) → L2.wipe τ us = τ := fun τ us => by
        induction us with
        | nil => intro _; rfl
        | cons u us ih =>
          intro h
          show (L2.wipe τ us).set u none = τ
          rw [ih fun v hv => h v (List.mem_cons_of_mem _ hv)]
          by_cases hu : u < τ.length
          · have e := h u List.mem_cons_self hu
            obtain ⟨_, e2⟩ := List.getElem?_eq_some_iff.mp e
            apply List.ext_getElem?
            intro j
            by_cases hj : u = j
            · subst hj
              rw [List.getElem?_set_self hu, e]
            · rw [List.getElem?_set_ne hj]
          · exact List.set_eq_of_length_le (by omega)
      refine this _ _ fun u hu hl => ?_
      have wn : ∀ {τ : St} {ws : List Nat} {j : Nat}, j ∈ ws → j < τ.length → (L2.wipe τ ws)[j]? = some none := fun {τ ws j} hm hj => by
        induction ws with
        | nil => simp at hm
        | cons w ws ih =>
          show ((L2.wipe τ ws).set w none)[j]? = _
          by_cases hw : w = j
          · subst hw
            rw [List.getElem?_set_self (by rw [wipe_length]; exact hj)]
          · rw [List.getElem?_set_ne hw]
            exact ih ((List.mem_cons.mp hm).resolve_left fun e => hw e.symm)
      exact wn hu (by rwa [wipe_length] at hl)
    have key : ∀ Q0, g x (L2.wipe σ vs) H'' Q0 → g x (L2.wipe σ vs) H'' (fun σ2 H2 => L2.wipe σ2 vs = L2.wipe σ vs ∧ Q0 σ2 H2) := fun Q0 h => by
      have := tg _ _ _ _ h
      rw [wi] at this
      exact this
    refine key _ (hg I'' H'' (wipeD δ vs) (L2.wipe σ vs) (.d _) x _ _ H'' ex.good env''.other (show Da Z.K I'' x _ from ax) q' fun δ3 σ3 I3 H3 ex3 env3 q3 => ?_)
    have ex := ex.trans e'.good ex3
    have e'' := e'.trans h1.g ex
    · have h3 : Here Z I3 H3 δ3 σ3 Ed := ⟨h1.g0, h1.e0.trans h1.g0 e'', env3, fun x c od I2 H2 e2 xa q => fl _ _ _ _ _ (h1.w x c od I2 H2 e2 xa q)⟩
      refine ht I3 H3 δ3 σ3 _ Ed _ h3 q3 fun b I4 H4 e4 q4 => ?_
      have e14 := e''.trans h1.g e4
      have D4 : ∀ {Ia Ha Ib Hb us}, Ext Z.R Ia Ha Ib Hb → Ha D = some (.lst us) → Ia D = none → Hb D = some (.lst us) ∧ Ib D = none := fun {Ia Ha Ib Hb us} ee hh' hn' => by
        refine ⟨ee.keep D _ hh' n2, ?_⟩
        cases z : Ib D with
        | none => rfl
        | some w =>
          rcases ee.fresh D w z with y | y
          · rw [hn'] at y; cases y
          · rw [hh'] at y; cases y
      obtain ⟨u2, v2⟩ := D4 ex hu nu
      obtain ⟨u4, v4⟩ := D4 e4 u2 v2
      cases b with
      | false => exact ⟨hlt, I4, acc, us, e14, u4, daa_mono e4.sub _ _ (daa_mono ex.sub _ _ au), v4, by omega, by simpa using q4⟩
      | true =>
        have h4 : Here Z I4 H4 δ3 σ3 Ed := h3.ext e4
        refine he I4 H4 δ3 σ3 _ Ed _ h4 q4 (Then.frz (Qd := fun y => match y with | .d y => lcGo _ (ds.drop (i + 1)) (acc ++ (some y).toList) (fun ys => Qd (.new ys)) | _ => False) fun y w I5 H5 e5 ay q5 => ?_)
        dsimp only at q5
        split at q5
        · obtain ⟨u5, v5⟩ := D4 e5 u4 v4
          have au5 := daa_mono e5.sub _ _ (daa_mono e4.sub _ _ (daa_mono ex.sub _ _ au))
          refine ⟨us, u5, by omega, hlt, I5, _, us ++ [w], ext_upd (e14.trans h1.g e5) hD n2 v5, upd_same, au5.app (.cons ay .nil), v5, ?_, q5⟩
          rw [List.length_append]
          simp only [Option.toList, List.length_cons, List.length_nil]
          omega
        · exact q5.elim
  · have e : i = ds.length := by omega
    subst e
    rw [List.drop_length] at q'
    refine .inl ⟨stop, k1 (.new acc) (.ref D) I' H' e' ⟨⟨D, us, rfl, hu, au, nu, n2, by omega⟩, fun b eb => ?_⟩ q'⟩
    cases eb
    exact ⟨hD, hD0⟩

theorem pe_lcX {elt tg iter : Expr} {ifs : List Expr} {scope : Scope} {own : List (Str × Nat)} {wi : TI} {g : TG} {tt : TT} {te : TE} {W : WX} (hst : X.stack = X.env :: X.outer) (hfr : X.env.frame = some X.env.locals) (tk : Takes X W) (flw : FlatW W) (hc : X.calm = true) (hN : X.N.Nodup) (hi : PI X tg iter wi) (ok : BlkOk X.N X.env.scope scope own)
    (hg : ∀ (s : Shared) (H : Hp) (C : Addr) (cl : List (Str × Addr)) (fp : List Addr) (xe : Value → Shared → Prop), TakesC (blkE X s H scope (compEnvC scope cl C X.env) fp xe) W → PG (blkE X s H scope (compEnvC scope cl C X.env) fp xe) tg g) (ht : ∀ (s : Shared) (H : Hp) (C : Addr) (cl : List (Str × Addr)) (fp : List Addr) (xe : Value → Shared → Prop), TakesC (blkE X s H scope (compEnvC scope cl C X.env) fp xe) W → PTs (blkE X s H scope (compEnvC scope cl C X.env) fp xe) ifs tt)
    (he : ∀ (s : Shared) (H : Hp) (C : Addr) (cl : List (Str × Addr)) (fp : List Addr) (xe : Value → Shared → Prop), TakesC (blkE X s H scope (compEnvC scope cl C X.env) fp xe) W → PE (blkE X s H scope (compEnvC scope cl C X.env) fp xe) elt te) (hs : ∀ x, foldedSetIterable iter X.env x = pure x := by intro _; rfl) :
    PE X (.ListComp elt [⟨tg, iter, ifs, 0⟩] scope pos) (tLc wi g tt te (own.map (·.2))) := by
  refine ⟨fun pins s σ H Q I h => ?_⟩
  rw [eval_ListComp]
  refine lc_coreX hst hfr tk flw hc hN I hi ok hg ht he hs h fun D ce s' m H' I' q hn f => ⟨m, hn, fun h'' sb => ?_⟩
  obtain ⟨f0, f1, f2, f3, f4, f5⟩ := f
  exact ⟨.ref D, H', I'.turned (t' := s'.toks) (fun b o hb e => (sb.2 b hb).trans e) f0 f1 f3 f4 f5, rfl, q⟩
theorem takesAny {Y : Cx} {W : WX} (h : Y.xe = fun _ _ => True) : TakesC Y W := fun σ pins H s e s' I c => by rw [h]; trivial
theorem de_lcX {elt tg iter : Expr} {ifs : List Expr} {scope : Scope} {own : List (Str × Nat)} {wi : TI} {g : TG} {tt : TT} {te : TE} {ti : TDI} {dg : TDG} {dt : TDT} {de : TD} (hst : X.stack = X.env :: X.outer) (hfr : X.env.frame = some X.env.locals) (tk : Takes X Z.W) (fl : FlatW Z.W) (hc : X.calm = true) (hN : X.N.Nodup) (hi : DI X Z tg iter wi ti) (ok : BlkOk X.N X.env.scope scope own)
    (hg : ∀ (s : Shared) (H : Hp) (C : Addr) (cl : List (Str × Addr)) (fp : List Addr) (xe : Value → Shared → Prop), TakesC (blkE X s H scope (compEnvC scope cl C X.env) fp xe) Z.W → DG (blkE X s H scope (compEnvC scope cl C X.env) fp xe) Z tg g dg) (ht : ∀ (s : Shared) (H : Hp) (C : Addr) (cl : List (Str × Addr)) (fp : List Addr) (xe : Value → Shared → Prop), TakesC (blkE X s H scope (compEnvC scope cl C X.env) fp xe) Z.W → DTs (blkE X s H scope (compEnvC scope cl C X.env) fp xe) Z ifs tt dt)
    (he : ∀ (s : Shared) (H : Hp) (C : Addr) (cl : List (Str × Addr)) (fp : List Addr) (xe : Value → Shared → Prop), TakesC (blkE X s H scope (compEnvC scope cl C X.env) fp xe) Z.W → DE (blkE X s H scope (compEnvC scope cl C X.env) fp xe) Z elt te de) (tgt : Tgt g (own.map (·.2))) (s0 : Shared) (hs : ∀ x, foldedSetIterable iter X.env x = pure x := by intro _; rfl) :
    DE X Z (.ListComp elt [⟨tg, iter, ifs, 0⟩] scope pos) (tLc wi g tt te (own.map (·.2))) (dLcX ti dg dt de (own.map (·.2))) :=
  ⟨pe_lcX hst hfr tk fl hc hN hi.pi ok (fun s H C cl fp xe t => (hg s H C cl fp xe t).pg) (fun s H C cl fp xe t => (ht s H C cl fp xe t).pt) (fun s H C cl fp xe t => (he s H C cl fp xe t).pe) hs,
    lc_rfX fl hi.rf (hg s0 (fun _ => none) 0 [] [] _ (takesAny rfl)).rf (ht s0 (fun _ => none) 0 [] [] _ (takesAny rfl)).rf (he s0 (fun _ => none) 0 [] [] _ (takesAny rfl)).rf tgt⟩
end
end PD
set_option Elab.async false
set_option linter.all false
set_option maxRecDepth 100000
set_option maxHeartbeats 1000000
namespace PD
open PySem PySem.Spec PyProof.Rows L2
/-! ### comprehensions of two clauses, the second source may raise -/
def lc2Go (body : PyData → List PyData → (List PyData → Prop) → Prop) : List PyData → List PyData → (List PyData → Prop) → Prop
  | [], acc, Q => Q acc
  | d :: ds, acc, Q => body d acc (fun acc' => lc2Go body ds acc' Q)
def lcGoS (body : PyData → (Option PyData → Prop) → Prop) : List PyData → List PyData → (List PyData → Prop) → Prop
  | [], acc, Q => Q acc
  | d :: ds, acc, Q => body d (fun o => (o.isSome = true → acc.length < sizeLine) ∧ lcGoS body ds (acc ++ o.toList) Q)
def plainV : Option DV → Option DV
  | some (.d x) => some (.d x)
  | some (.v x) => some (.v x)
  | _ => none
def plainD (δ : DEnv) : DEnv := δ.map plainV
theorem plainD_some {δ : DEnv} {i : Nat} {x : DV} (h : (plainD δ)[i]? = some (some x)) : δ[i]? = some (some x) ∧ ((∃ y, x = .d y) ∨ ∃ y, x = .v y) := by
  unfold plainD at h
  rw [List.getElem?_map] at h
  obtain ⟨z, e1, e2⟩ := Option.map_eq_some_iff.mp h
  unfold plainV at e2
  split at e2
  · cases e2; exact ⟨e1, .inl ⟨_, rfl⟩⟩
  · cases e2; exact ⟨e1, .inr ⟨_, rfl⟩⟩
  · cases e2
theorem EnvAt.plain {Z : Zx} {I H I' H' : Hp} {δ : DEnv} {σ : St} (h : EnvAt Z I H δ σ) (s : Same I I') : EnvAt Z I' H' (plainD δ) σ where
  len := by unfold plainD; rw [List.length_map]; exact h.len
  val := fun i x q => by
    obtain ⟨e, k⟩ := plainD_some q
    obtain ⟨v, e1, e2⟩ := h.val i x e
    refine ⟨v, e1, ?_⟩
    rcases k with ⟨y, rfl⟩ | ⟨y, rfl⟩
    · exact da_mono s _ _ e2
    · exact e2
  apart := fun i j xs ys v hn h1 h2 _ _ => by
    obtain ⟨_, k⟩ := plainD_some h1
    rcases k with ⟨y, e⟩ | ⟨y, e⟩ <;> cases e
def dIn (dg : TDG) (dt : TDT) (de : TD) (vs : List Nat) (δ : DEnv) : PyData → (Option PyData → Prop) → Prop := fun d K =>
  dg (.d d) (wipeD (plainD δ) vs) (fun δ' => dt δ' (fun b => if b = true then de δ' (fun y => match froz y with | .d y => K (some y) | _ => False) noE else K none) noE)
def dLc2 (ti : TDI) (dg : TDG) (dt : TDT) (ti1 : TDI) (dg1 : TDG) (dt1 : TDT) (de : TD) (vs vs1 : List Nat) : TD := fun δ Q E => ti δ (fun ds =>
  lc2Go (fun d acc K => dg (.d d) (wipeD δ vs) (fun δ' => dt δ' (fun b => if b = true then ti1 δ' (fun ds1 => lcGoS (dIn dg1 dt1 de vs1 δ') ds1 acc K) E else K acc) E)) ds [] (fun ys => Q (.new ys))) E
theorem wipe_wipe (σ : St) (ws : List Nat) : L2.wipe (L2.wipe σ ws) ws = L2.wipe σ ws := by
  have : ∀ (τ : St) (us : List Nat), (∀ u ∈ us, u < τ.length → τ[u]? = some none) → L2.wipe τ us = τ := fun τ us => by
    induction us with
    | nil => intro _; rfl
    | cons u us ih =>
      intro h
      show (L2.wipe τ us).set u none = τ
      rw [ih fun v hv => h v (List.mem_cons_of_mem _ hv)]
      by_cases hu : u < τ.length
      · have e := h u List.mem_cons_self hu
        apply List.ext_getElem?
        intro j
        by_cases hj : u = j
        · subst hj
          rw [List.getElem?_set_self hu, e]
        · rw [List.getElem?_set_ne hj]
      · exact List.set_eq_of_length_le (by omega)
  refine this _ _ fun u hu hl => ?_
  have wn : ∀ {τ : St} {ws : List Nat} {j : Nat}, j ∈ ws → j < τ.length → (L2.wipe τ ws)[j]? = some none := fun {τ ws j} hm hj => by
    induction ws with
    | nil => simp at hm
    | cons w ws ih =>
      show ((L2.wipe τ ws).set w none)[j]? = _
      by_cases hw : w = j
      · subst hw
        rw [List.getElem?_set_self (by rw [wipe_length]; exact hj)]
      · rw [List.getElem?_set_ne hw]
        exact ih ((List.mem_cons.mp hm).resolve_left fun e => hw e.symm)
  exact wn hu (by rwa [wipe_length] at hl)
section
variable {X : Cx} {Z : Zx} {pos : Pos}
abbrev RfI (Z : Zx) (wi : TI) (ti : TDI) : Prop := ∀ I H δ σ Qd Ed (R : It → Hp → Prop), Here Z I H δ σ Ed → ti δ Qd Ed → (∀ J ds I' H', Ext Z.R I H I' H' → Runs Z J I' ds → ds.length ≤ sizeLine → Qd ds → R J H') → wi σ H R
abbrev RfG (Z : Zx) (g : TG) (dg : TDG) : Prop := ∀ I H δ σ x v Qd Q Hs, Good Z.R I H → EnvAt Z I H δ σ → At Z Hs I H x v → dg x δ Qd → (∀ δ' σ' I' H', Ext Z.R I H I' H' → EnvAt Z I' H' δ' σ' → Qd δ' → Q σ' H') → g v σ H Q
abbrev RfT (Z : Zx) (tt : TT) (dt : TDT) : Prop := ∀ I H δ σ Qd Ed Q, Here Z I H δ σ Ed → dt δ Qd Ed → ThenB Z I H Qd Q → tt σ H Q
abbrev RfE (Z : Zx) (te : TE) (de : TD) : Prop := ∀ I H δ σ Qd Ed Q, Here Z I H δ σ Ed → de δ Qd Ed → Then Z I H Qd Q → te σ H Q
theorem lc2_rf (fl : FlatW Z.W) {wi wi1 : TI} {g g1 : TG} {tt tt1 : TT} {te : TE} {vs vs1 : List Nat} {ti ti1 : TDI} {dg dg1 : TDG} {dt dt1 : TDT} {de : TD}
    (hi : RfI Z wi ti) (hg : RfG Z g dg) (ht : RfT Z tt dt) (tg : Tgt g vs) (hi1 : RfI Z wi1 ti1) (hg1 : RfG Z.calm g1 dg1) (ht1 : RfT Z.calm tt1 dt1) (he : RfE Z.calm te de) (tg1 : Tgt g1 vs1) :
    ∀ I H δ σ Qd Ed Q, Here Z I H δ σ Ed → dLc2 ti dg dt ti1 dg1 dt1 de vs vs1 δ Qd Ed → Then Z I H Qd Q → tLc2 wi g tt wi1 g1 tt1 te vs vs1 σ H Q := fun I H δ σ Qd Ed Q hh q k => by
  refine hi I H δ σ _ Ed _ hh q fun J ds I1 H1 e1 rn hl q1 D hD => ?_
  have h1 := hh.ext e1
  have k1 := k.ext hh.g e1
  obtain ⟨n1, n2⟩ := fresh_off h1.g hD
  have hD0 : Z.H0 D = none := h1.old D hD
  have D4 : ∀ {Ia Ha Ib Hb us}, Ext Z.R Ia Ha Ib Hb → Ha D = some (.lst us) → Ia D = none → Hb D = some (.lst us) ∧ Ib D = none := fun {Ia Ha Ib Hb us} ee hh' hn' => by
    refine ⟨ee.keep D _ hh' n2, ?_⟩
    cases z : Ib D with
    | none => rfl
    | some w =>
      rcases ee.fresh D w z with y | y
      · rw [hn'] at y; cases y
      · rw [hh'] at y; cases y
  generalize hb : (fun d acc K => dg (.d d) (wipeD δ vs) (fun δ' => dt δ' (fun b => if b = true then ti1 δ' (fun ds1 => lcGoS (dIn dg1 dt1 de vs1 δ') ds1 acc K) Ed else K acc) Ed) : PyData → List PyData → (List PyData → Prop) → Prop) = body at q1
  refine ⟨fun i m H' => m = ds.length - i ∧ i ≤ ds.length ∧ ∃ I' acc us, Ext Z.R I1 H1 I' H' ∧ H' D = some (.lst us) ∧ DaAll Z.K I' us acc ∧ I' D = none ∧ us.length ≤ sizeLine ∧ lc2Go body (ds.drop i) acc (fun ys => Qd (.new ys)),
    ⟨ds.length, by simp, Nat.zero_le _, I1, [], [], ext_own h1.g hD, upd_same, .nil, n1, Nat.zero_le _, by simpa using q1⟩, ?_⟩
  rintro i m H' ⟨rfl, hi', I', acc, us, e', hu, au, nu, la, q'⟩
  obtain ⟨go, stop⟩ := rn I' H' e'.good e'.sub
  by_cases hlt : i < ds.length
  · have ed : ds[i]? = some ds[i] := by simp [hlt]
    rw [List.drop_eq_getElem_cons hlt] at q'
    obtain ⟨gg1, gg2⟩ := go i _ ed
    refine .inr ⟨gg1, fun H2 => i + 1 ≤ ds.length ∧ ∃ I' acc us, Ext Z.R I1 H1 I' H2 ∧ H2 D = some (.lst us) ∧ DaAll Z.K I' us acc ∧ I' D = none ∧ us.length ≤ sizeLine ∧ lc2Go body (ds.drop (i + 1)) acc (fun ys => Qd (.new ys)),
      fun H2 w2 => ⟨ds.length - (i + 1), by omega, rfl, w2⟩, fun x H'' hy => ?_⟩
    obtain ⟨I'', ex, ax⟩ := gg2 x H'' hy
    have e'' := e'.trans h1.g ex
    have env'' : EnvAt Z I'' H'' (wipeD δ vs) (L2.wipe σ vs) := (h1.env.ext e'').wipe vs
    subst hb
    have key : ∀ Q0, g x (L2.wipe σ vs) H'' Q0 → g x (L2.wipe σ vs) H'' (fun σ2 H2 => L2.wipe σ2 vs = L2.wipe σ vs ∧ Q0 σ2 H2) := fun Q0 h => by
      have := tg _ _ _ _ h
      rw [wipe_wipe] at this
      exact this
    refine key _ (hg I'' H'' (wipeD δ vs) (L2.wipe σ vs) (.d _) x _ _ H'' ex.good env'' (show Da Z.K I'' x _ from ax) q' fun δ3 σ3 I3 H3 ex3 env3 q3 => ?_)
    have ex := ex.trans e'.good ex3
    have e'' := e'.trans h1.g ex
    have h3 : Here Z I3 H3 δ3 σ3 Ed := ⟨h1.g0, h1.e0.trans h1.g0 e'', env3, fun x c od I2 H2 e2 xa q => fl _ _ _ _ _ (h1.w x c od I2 H2 e2 xa q)⟩
    refine ht I3 H3 δ3 σ3 _ Ed _ h3 q3 fun b I4 H4 e4 q4 => ?_
    have e14 := e''.trans h1.g e4
    obtain ⟨u2, v2⟩ := D4 ex hu nu
    obtain ⟨u4, v4⟩ := D4 e4 u2 v2
    cases b with
    | false => exact ⟨hlt, I4, acc, us, e14, u4, daa_mono e4.sub _ _ (daa_mono ex.sub _ _ au), v4, la, by simpa using q4⟩
    | true =>
      have h4 : Here Z I4 H4 δ3 σ3 Ed := h3.ext e4
      refine hi1 I4 H4 δ3 σ3 _ Ed _ h4 q4 fun J1 ds1 I5 H5 e5 rn1 hl1 q5 => ?_
      have h5 := h4.ext e5
      have e15 := e14.trans h1.g e5
      obtain ⟨u5, v5⟩ := D4 e5 u4 v4
      have au5 := daa_mono e5.sub _ _ (daa_mono e4.sub _ _ (daa_mono ex.sub _ _ au))
      generalize hK : (fun acc' => lc2Go _ (ds.drop (i + 1)) acc' fun ys => Qd (.new ys)) = Kd at q5
      refine ⟨fun j k H6 => k = ds1.length - j ∧ j ≤ ds1.length ∧ ∃ I6 acc us, Ext Z.R I1 H1 I6 H6 ∧ Same I5 I6 ∧ H6 D = some (.lst us) ∧ DaAll Z.K I6 us acc ∧ I6 D = none ∧ us.length ≤ sizeLine ∧ lcGoS (dIn dg1 dt1 de vs1 δ3) (ds1.drop j) acc Kd,
        ⟨ds1.length, by simp, Nat.zero_le _, I5, acc, us, e15, Same.refl _, u5, au5, v5, la, by simpa using q5⟩, ?_⟩
      rintro j k6 H6 ⟨rfl, hj, I6, acc6, us6, e6, s6, w6, a6, n6, l6, q6⟩
      obtain ⟨go1, stop1⟩ := rn1 I6 H6 e6.good s6
      by_cases hlt1 : j < ds1.length
      · have ed1 : ds1[j]? = some ds1[j] := by simp [hlt1]
        rw [List.drop_eq_getElem_cons hlt1] at q6
        obtain ⟨y1, y2⟩ := go1 j _ ed1
        refine .inr ⟨y1, fun H7 => j + 1 ≤ ds1.length ∧ ∃ I6 acc us, Ext Z.R I1 H1 I6 H7 ∧ Same I5 I6 ∧ H7 D = some (.lst us) ∧ DaAll Z.K I6 us acc ∧ I6 D = none ∧ us.length ≤ sizeLine ∧ lcGoS (dIn dg1 dt1 de vs1 δ3) (ds1.drop (j + 1)) acc Kd,
          fun H7 w7 => ⟨ds1.length - (j + 1), by omega, rfl, w7⟩, fun x1 H7 hy1 => ?_⟩
        obtain ⟨I7, ex7, ax7⟩ := y2 x1 H7 hy1
        have e17 := e6.trans h1.g ex7
        have key1 : ∀ Q0, g1 x1 (L2.wipe σ3 vs1) H7 Q0 → g1 x1 (L2.wipe σ3 vs1) H7 (fun σ4 H8 => L2.wipe σ4 vs1 = L2.wipe σ3 vs1 ∧ Q0 σ4 H8) := fun Q0 h => by
          have := tg1 _ _ _ _ h
          rw [wipe_wipe] at this
          exact this
        have env7 : EnvAt Z.calm I7 H7 (wipeD (plainD δ3) vs1) (L2.wipe σ3 vs1) := ((h5.env.plain (H' := H7) (s6.trans ex7.sub)).wipe vs1).other
        refine key1 _ (hg1 I7 H7 _ _ (.d _) x1 _ _ H7 ex7.good env7 (show Da Z.K I7 x1 _ from ax7) q6 fun δ8 σ8 I8 H8 ex8 env8 q8 => ?_)
        have e18 := e17.trans h1.g ex8
        have h8 : Here Z.calm I8 H8 δ8 σ8 noE := ⟨h1.g0, h1.e0.trans h1.g0 e18, env8, fun x c od I2 H2 e2 xa q => q.elim⟩
        refine ht1 I8 H8 δ8 σ8 _ noE _ h8 q8 fun b1 I9 H9 e9 q9 => ?_
        have ex9 := (ex7.trans e6.good ex8).trans e6.good e9
        have e19 := e18.trans h1.g e9
        obtain ⟨u9, v9⟩ := D4 ex9 w6 n6
        have a9 := daa_mono ex9.sub _ _ a6
        cases b1 with
        | false =>
          have q9' := q9.2
          exact ⟨hlt1, I9, acc6, us6, e19, s6.trans ex9.sub, u9, a9, v9, l6, by simpa using q9'⟩
        | true =>
          refine he I9 H9 δ8 σ8 _ noE _ (h8.ext e9) q9 (Then.frz (Z := Z.calm) (Qd := fun y => match y with | .d y => ((some y).isSome = true → acc6.length < sizeLine) ∧ lcGoS _ (ds1.drop (j + 1)) (acc6 ++ (some y).toList) Kd | _ => False) fun y w I10 H10 e10 ay q10 => ?_)
          dsimp only at q10
          split at q10
          · obtain ⟨u10, v10⟩ := D4 e10 u9 v9
            have a10 := daa_mono e10.sub _ _ a9
            have l10 := a10.len
            have lz := q10.1 rfl
            refine ⟨us6, u10, by omega, hlt1, I10, _, us6 ++ [w], ext_upd (e19.trans h1.g e10) hD n2 v10, s6.trans (ex9.sub.trans e10.sub), upd_same, a10.app (.cons ay .nil), v10, ?_, q10.2⟩
            rw [List.length_append]
            simp only [List.length_cons, List.length_nil]
            omega
          · exact q10.elim
      · have e : j = ds1.length := by omega
        subst e
        rw [List.drop_length] at q6
        subst hK
        exact .inl ⟨stop1, hlt, I6, acc6, us6, e6, w6, a6, n6, l6, q6⟩
  · have e : i = ds.length := by omega
    subst e
    rw [List.drop_length] at q'
    refine .inl ⟨stop, k1 (.new acc) (.ref D) I' H' e' ⟨⟨D, us, rfl, hu, au, nu, n2, la⟩, fun b eb => ?_⟩ q'⟩
    cases eb
    exact ⟨hD, hD0⟩
theorem pe_lc2X {elt tg iter tg1 iter1 : Expr} {ifs ifs1 : List Expr} {scope : Scope} {own : List (Str × Nat)} {vs1 : List Nat} {wi wi1 : TI} {g g1 : TG} {tt tt1 : TT} {te : TE} {W : WX} (hst : X.stack = X.env :: X.outer) (hfr : X.env.frame = some X.env.locals) (tk : Takes X W) (flw : FlatW W) (hc : X.calm = true) (hN : X.N.Nodup) (hi : PI X tg iter wi) (ok : BlkOk X.N X.env.scope scope own) (hv : ∀ i ∈ vs1, i ∈ own.map (·.2))
    (hg : ∀ (s : Shared) (H : Hp) (C : Addr) (cl : List (Str × Addr)) (fp : List Addr) (xe : Value → Shared → Prop), TakesC (blkE X s H scope (compEnvC scope cl C X.env) fp xe) W → PG (blkE X s H scope (compEnvC scope cl C X.env) fp xe) tg g) (ht : ∀ (s : Shared) (H : Hp) (C : Addr) (cl : List (Str × Addr)) (fp : List Addr) (xe : Value → Shared → Prop), TakesC (blkE X s H scope (compEnvC scope cl C X.env) fp xe) W → PTs (blkE X s H scope (compEnvC scope cl C X.env) fp xe) ifs tt) (hi1 : ∀ (s : Shared) (H : Hp) (C : Addr) (cl : List (Str × Addr)) (fp : List Addr) (xe : Value → Shared → Prop), TakesC (blkE X s H scope (compEnvC scope cl C X.env) fp xe) W → PI (blkE X s H scope (compEnvC scope cl C X.env) fp xe) tg1 iter1 wi1)
    (hg1 : ∀ (s : Shared) (H : Hp) (C : Addr) (cl : List (Str × Addr)) (fp : List Addr), PG (X.blk s H scope (compEnvC scope cl C X.env) fp) tg1 g1) (ht1 : ∀ (s : Shared) (H : Hp) (C : Addr) (cl : List (Str × Addr)) (fp : List Addr), PTs (X.blk s H scope (compEnvC scope cl C X.env) fp) ifs1 tt1)
    (he : ∀ (s : Shared) (H : Hp) (C : Addr) (cl : List (Str × Addr)) (fp : List Addr), PE (X.blk s H scope (compEnvC scope cl C X.env) fp) elt te) (hs : ∀ x, foldedSetIterable iter X.env x = pure x := by intro _; rfl) (hs1 : ∀ env x, foldedSetIterable iter1 env x = pure x := by intro _ _; rfl) :
    PE X (.ListComp elt [⟨tg, iter, ifs, 0⟩, ⟨tg1, iter1, ifs1, 0⟩] scope pos) (tLc2 wi g tt wi1 g1 tt1 te (own.map (·.2)) vs1) := by
  refine ⟨fun pins s σ H Q I h => ?_⟩
  rw [eval_ListComp]
  refine lc2_coreX hst hfr tk flw hc hN I hi ok hv hg ht he hs hi1 hg1 ht1 hs1 h fun D ce s' m H' I' q hn f => ⟨m, hn, fun h'' sb => ?_⟩
  obtain ⟨f0, f1, f2, f3, f4, f5⟩ := f
  exact ⟨.ref D, H', I'.turned (t' := s'.toks) (fun b o hb e => (sb.2 b hb).trans e) f0 f1 f3 f4 f5, rfl, q⟩
theorem de_lc2X {elt tg iter tg1 iter1 : Expr} {ifs ifs1 : List Expr} {scope : Scope} {own : List (Str × Nat)} {vs1 : List Nat} {wi wi1 : TI} {g g1 : TG} {tt tt1 : TT} {te : TE} {ti ti1 : TDI} {dg dg1 : TDG} {dt dt1 : TDT} {de : TD} (hst : X.stack = X.env :: X.outer) (hfr : X.env.frame = some X.env.locals) (tk : Takes X Z.W) (fl : FlatW Z.W) (hc : X.calm = true) (hN : X.N.Nodup) (hi : DI X Z tg iter wi ti) (ok : BlkOk X.N X.env.scope scope own) (hv : ∀ i ∈ vs1, i ∈ own.map (·.2))
    (hg : ∀ (s : Shared) (H : Hp) (C : Addr) (cl : List (Str × Addr)) (fp : List Addr) (xe : Value → Shared → Prop), TakesC (blkE X s H scope (compEnvC scope cl C X.env) fp xe) Z.W → DG (blkE X s H scope (compEnvC scope cl C X.env) fp xe) Z tg g dg) (ht : ∀ (s : Shared) (H : Hp) (C : Addr) (cl : List (Str × Addr)) (fp : List Addr) (xe : Value → Shared → Prop), TakesC (blkE X s H scope (compEnvC scope cl C X.env) fp xe) Z.W → DTs (blkE X s H scope (compEnvC scope cl C X.env) fp xe) Z ifs tt dt) (hi1 : ∀ (s : Shared) (H : Hp) (C : Addr) (cl : List (Str × Addr)) (fp : List Addr) (xe : Value → Shared → Prop), TakesC (blkE X s H scope (compEnvC scope cl C X.env) fp xe) Z.W → DI (blkE X s H scope (compEnvC scope cl C X.env) fp xe) Z tg1 iter1 wi1 ti1)
    (hg1 : ∀ (s : Shared) (H : Hp) (C : Addr) (cl : List (Str × Addr)) (fp : List Addr), DG (X.blk s H scope (compEnvC scope cl C X.env) fp) Z.calm tg1 g1 dg1) (ht1 : ∀ (s : Shared) (H : Hp) (C : Addr) (cl : List (Str × Addr)) (fp : List Addr), DTs (X.blk s H scope (compEnvC scope cl C X.env) fp) Z.calm ifs1 tt1 dt1)
    (he : ∀ (s : Shared) (H : Hp) (C : Addr) (cl : List (Str × Addr)) (fp : List Addr), DE (X.blk s H scope (compEnvC scope cl C X.env) fp) Z.calm elt te de) (tgt : Tgt g (own.map (·.2))) (tgt1 : Tgt g1 vs1) (s0 : Shared) (hs : ∀ x, foldedSetIterable iter X.env x = pure x := by intro _; rfl) (hs1 : ∀ env x, foldedSetIterable iter1 env x = pure x := by intro _ _; rfl) :
    DE X Z (.ListComp elt [⟨tg, iter, ifs, 0⟩, ⟨tg1, iter1, ifs1, 0⟩] scope pos) (tLc2 wi g tt wi1 g1 tt1 te (own.map (·.2)) vs1) (dLc2 ti dg dt ti1 dg1 dt1 de (own.map (·.2)) vs1) :=
  ⟨pe_lc2X hst hfr tk fl hc hN hi.pi ok hv (fun s H C cl fp xe t => (hg s H C cl fp xe t).pg) (fun s H C cl fp xe t => (ht s H C cl fp xe t).pt) (fun s H C cl fp xe t => (hi1 s H C cl fp xe t).pi) (fun s H C cl fp => (hg1 s H C cl fp).pg) (fun s H C cl fp => (ht1 s H C cl fp).pt) (fun s H C cl fp => (he s H C cl fp).pe) hs hs1,
    lc2_rf fl hi.rf (hg s0 (fun _ => none) 0 [] [] _ (takesAny rfl)).rf (ht s0 (fun _ => none) 0 [] [] _ (takesAny rfl)).rf tgt (hi1 s0 (fun _ => none) 0 [] [] _ (takesAny rfl)).rf (hg1 s0 (fun _ => none) 0 [] []).rf (ht1 s0 (fun _ => none) 0 [] []).rf (he s0 (fun _ => none) 0 [] []).rf tgt1⟩
/-- a def called where exceptions are let out by way of TakesC -/
theorem de_fnC {x : Str} {p : Pos} {e : Expr} {es : List Expr} {ta : TA} {da : TDA} {S : Spd} {n k : Nat} {f : Addr} {fd : FuncData} {ps : List Str} (F : FnOk X.prog X.w X.K X.mg X.base (L2.CX X.prog X.w) k f fd ps (lift X.K S n)) (hr : Room k X.A) (hg : Gl X x) (hm : X.mg x = some (.ref f)) (hk : PySem.W.keepIn X.K (.ref f) = true) (hb : Binds X.K fd ps []) (tk : TakesC X Z.W)
    (hK : Z.K = X.K) (ha : DA X Z (e :: es) ta da) (hd : (x == ("__debug__" : Str)) = false := by decide) (he : starEach (e :: es) X.env = (false, eval e X.env) :: starEach es X.env := by rfl) (hpl : (backTo pos (starEach es X.env)).any (·.1) = false := by rfl) :
    DE X Z (.Call (.Name x p) (e :: es) [] pos) (tCallS (lift Z.K S n) (WE Z.W) ta) (dFn Z.R S n da) := by rw [hK]; exact de_fn0 hK rfl ha (pe_callS F hr hg hm hk hb tk ha.pa hd he hpl)
end
end PD
set_option Elab.async false
set_option linter.all false
set_option maxRecDepth 100000
set_option maxHeartbeats 1000000
namespace PD
open PySem PySem.Spec PyProof.Rows L2
section
variable {X : Cx} {Z : Zx} {pos p : Pos} {x : Str} {e : Expr} {te : TE} {d : TD}
/-! ### f(k = e) -/
def tCallK1 (sp : Sp) (E : XK) (te : TE) : TE := fun σ H Q => te σ H fun v H1 => sp [v] H1 Q E
theorem pe_callK1 {CX : CXT} {k : Nat} {f : Addr} {fd : FuncData} {ps : List Str} {sp : Sp} {E : XK} {y : Str} {kpos : Pos} (F : FnOk X.prog X.w X.K X.mg X.base CX k f fd ps sp) (hr : Room k X.A) (hg : Gl X x) (hm : X.mg x = some (.ref f)) (hk : PySem.W.keepIn X.K (.ref f) = true)
    (hb : ∀ (s : Shared) (u : Value), X.K.In s.heap → BindsTo s fd ⟨[], [(y, u)]⟩ (ps.zip [u])) (hps : ps.length = 1) (hx : Passes CX X E) (he : PE X e te) (hdb : (x == ("__debug__" : Str)) = false := by decide)
    (hall : (backToKw pos (keywordEach [⟨some y, e, kpos⟩] X.env)).all (·.1.isSome) = true := by rfl) (hks : (backToKw pos (keywordEach [⟨some y, e, kpos⟩] X.env)).filterMap (·.1) = [y] := by rfl)
    (hpl : ((backTo pos (starEach [] X.env)).any (·.1) || (backToKw pos (keywordEach [⟨some y, e, kpos⟩] X.env)).any (·.1.isNone)) = false := by rfl) :
    PE X (.Call (.Name x p) [] [⟨some y, e, kpos⟩] pos) (tCallK1 sp E te) := by
  refine ⟨fun pins s σ H Q I h => ?_⟩
  refine wpAny_Call_Name_kw (ld_glob I hg hm ?_ hdb)
  have hkw : PK X [⟨some y, e, kpos⟩] (tCons te tNil) := pk_cons he pk_nil
  refine PySem.W.callWith_KW0 (h₀ := X.base) I.ok.mod.kin hk hall (thn (hkw.run pos pins s σ H (fun vs H1 => sp vs H1 Q E) I h) fun ws s2 ⟨zs, H2, I2, rz, q2⟩ => ⟨I2.kIn, ?_⟩) hpl
  have l := (F.len _ _ _ _ q2).trans hps
  rw [hks]
  cases rz with
  | nil => cases l
  | @cons v u vs us r rr =>
    cases rr with
    | cons _ _ => cases l
    | nil =>
      refine wpAny_call (codeAny_mono (F.run X.A X.stack s2 H2 ⟨[], [(y, u)]⟩ [u] [v] Q E hr I2.env0 (hb s2 u I2.kIn) (.cons r .nil) q2) fun r s' hq => ?_)
      cases r with
      | error e => exact hx pins σ H2 s2 e s' I2 hq
      | ok fl =>
        cases fl with
        | ret u => exact I2.after hq
        | next => exact False.elim hq
        | brk => exact False.elim hq
        | cont => exact False.elim hq
/-- .. a def that lets nothing out -/
def dFnK (R : Reg) (S : Spd) (d : TD) : TD := fun δ Q _ => d δ (fun x => (∀ ys, froz x ≠ .new ys) ∧ S R [unbor (froz x)] Q noE) noE
theorem de_callK1 {S : Spd} {k : Nat} {f : Addr} {fd : FuncData} {ps : List Str} {y : Str} {kpos : Pos} (F : FnOk X.prog X.w X.K X.mg X.base (L2.CX X.prog X.w) k f fd ps (lift X.K S 1)) (hr : Room k X.A) (hg : Gl X x) (hm : X.mg x = some (.ref f)) (hk : PySem.W.keepIn X.K (.ref f) = true)
    (hb : ∀ (s : Shared) (u : Value), X.K.In s.heap → BindsTo s fd ⟨[], [(y, u)]⟩ (ps.zip [u])) (hps : ps.length = 1) (hK : Z.K = X.K) (he : DE X Z e te d) (hdb : (x == ("__debug__" : Str)) = false := by decide)
    (hall : (backToKw pos (keywordEach [⟨some y, e, kpos⟩] X.env)).all (·.1.isSome) = true := by rfl) (hks : (backToKw pos (keywordEach [⟨some y, e, kpos⟩] X.env)).filterMap (·.1) = [y] := by rfl)
    (hpl : ((backTo pos (starEach [] X.env)).any (·.1) || (backToKw pos (keywordEach [⟨some y, e, kpos⟩] X.env)).any (·.1.isNone)) = false := by rfl) :
    DE X Z (.Call (.Name x p) [] [⟨some y, e, kpos⟩] pos) (tCallK1 (lift Z.K S 1) E0 te) (dFnK Z.R S d) := by
  refine ⟨by rw [hK]; exact pe_callK1 F hr hg hm hk hb hps passL he.pe hdb hall hks hpl, fun I H δ σ Qd Ed Q hh t k => ?_⟩
  refine he.rf I H δ σ _ noE _ ⟨hh.g0, hh.e0, hh.env, fun x c od I2 H2 e2 xa q => q.elim⟩ t (Then.frz (Qd := fun x => (∀ ys, x ≠ .new ys) ∧ S Z.R [unbor x] Qd noE) fun y v I1 H1 e1 a1 q1 => ?_)
  have h1 := hh.ext e1
  have aa : AtAll Z H I1 H1 [y] [v] := .cons a1 .nil
  exact ⟨rfl, Z.R, I1, _, Qd, noE, h1.g, arg_at (fun z hz => by rw [List.mem_singleton.mp hz]; exact q1.1) aa, q1.2, fun x v I' H' e r qx => (k.ext hh.g e1) x v I' H' e (ret_at r) qx, fun x c od I' H' e xa q => q.elim⟩
/-! ### a table of the module: text keys, ints -/
structure Tbl (K : PySem.W.Frag) (w : World) (a : Addr) (kvs : List (Str × Int)) : Prop where
  dict : ∃ es n, KDict K w a es n
  get : ∀ z : Str, ∃ r, PySem.W.nsIn K a z = some r ∧ (match kvs.lookup z with | some i => ∃ t, r = some (.int i t) | none => r = none)
def tKGet2 (a : Addr) (kvs : List (Str × Int)) (to ty tx : TE) : TE := fun σ H Q => to σ H fun o H1 => o = .ref a ∧ ty σ H1 fun y H2 => tx σ H2 fun x H3 => ∃ z, y = .str z ∧ Q (match kvs.lookup z with | some i => .int i | none => x) H3
theorem pe_kget2 {kvs : List (Str × Int)} {a : Addr} {o e f : Expr} {apos cpos : Pos} {to ty tx : TE} (D : Tbl X.K X.w a kvs) (ho : PE X o to) (he : PE X e ty) (hf : PE X f tx) (m : M2 X o "get" apos e f cpos) : PE X (.Call (.Attribute o "get" apos) [e, f] [] cpos) (tKGet2 a kvs to ty tx) := by
  obtain ⟨es, n, KD⟩ := D.dict
  refine ⟨fun pins s σ H Q I h => ?_⟩
  refine wpAny_Call_method m.base m.few m.line PySem.F.plainAttrs_dict PySem.F.slot_dict_get PySem.F.type_dict_get (thn (ho.run pins s σ H _ I h) fun u s1 ⟨x, H1, I1, rx, ex, q1⟩ => ?_)
  subst ex
  obtain rfl : u = Value.ref a := rx
  have mo : ∀ {s : Shared} {H : Hp} {σ : St}, Inv X pins σ H s → _ := fun {s H σ} I => PySem.W.mapOf_K (prog := X.prog) (w := X.w) I.kIn KD.at_ KD.lit
  refine ⟨(mo I1).typeIs, (mo I1).noDict, ?_⟩
  rw [m.trees]
  refine Calls.callWith_builtin rfl (Calls.evalArgs_plain (Calls.spliced_cons (thn (he.run pins s1 σ H1 _ I1 q1) fun iv s2 ⟨y, H2, I2, ry, q2⟩ =>
    Calls.spliced_cons (thn (hf.run pins s2 σ H2 _ I2 q2) fun fv s3 ⟨z, H3, I3, rz, k, ek, q3⟩ => Calls.spliced_nil ?_))))
  subst ek
  obtain ⟨t, rfl⟩ := ry
  obtain ⟨r, e1, e2⟩ := D.get k
  refine call_meetsIn PySem.F.slot_dict_get (mo I3).typeIs PySem.F.entry_dict_get (PySem.F.args_dict_get_3 _ _ _) (meets_dict_get_default (PySem.strKind X.prog X.w) a (PySem.strKind_is X.prog X.w k t) KD.low fv) ⟨_, mo I3, _, H3, I3.tok _, ?_, q3⟩
  rw [PySem.W.find_K KD.at_ e1]
  revert e2
  cases kvs.lookup k with
  | none => intro e2; subst e2; exact rz
  | some i => intro e2; obtain ⟨t', rfl⟩ := e2; exact ⟨t', rfl⟩
def dKGet2 (a : Addr) (kvs : List (Str × Int)) (o y x : TD) : TD := fun δ Q E => o δ (fun v => v = .v (.ref a) ∧ y δ (fun v => ∃ z, v = .d (.str z) ∧ x δ (fun v => ∃ j, v = .d (.int j) ∧ Q (.d (.int ((kvs.lookup z).getD j)))) E) E) E
theorem de_kget2 {kvs : List (Str × Int)} {a : Addr} {o e f : Expr} {apos cpos : Pos} {to ty tx : TE} {d_o dy dx : TD} (D : Tbl X.K X.w a kvs) (ho : DE X Z o to d_o) (he : DE X Z e ty dy) (hf : DE X Z f tx dx) (m : M2 X o "get" apos e f cpos) : DE X Z (.Call (.Attribute o "get" apos) [e, f] [] cpos) (tKGet2 a kvs to ty tx) (dKGet2 a kvs d_o dy dx) := by
  refine ⟨pe_kget2 D ho.pe he.pe hf.pe m, fun I H δ σ Qd Ed Q hh t k => ?_⟩
  refine ho.rf I H δ σ _ Ed _ hh t fun x v I1 H1 e1 a1 q1 => ?_
  obtain ⟨ex, q1⟩ := q1
  subst ex
  refine ⟨a1, he.rf I1 H1 δ σ _ Ed _ (hh.ext e1) q1 fun y u I2 H2 e2 a2 q2 => ?_⟩
  obtain ⟨z, ey, q2⟩ := q2
  subst ey
  have h2 := (hh.ext e1).ext e2
  refine hf.rf I2 H2 δ σ _ Ed _ h2 q2 fun x w I3 H3 e3 a3 q3 => ?_
  obtain ⟨j, ej, q3⟩ := q3
  subst ej
  cases a2
  cases a3
  refine ⟨z, rfl, ?_⟩
  have k3 := ((k.ext hh.g e1).ext e1.good e2).ext h2.g e3
  refine k3.now (h2.ext e3).g (x := .int ((kvs.lookup z).getD j)) ?_ q3
  cases kvs.lookup z with
  | none => exact .int j
  | some i => exact .int i
/-- d[key] -/
def rKIx (a : Addr) (kvs : List (Str × Int)) : R2 := fun x y H Q => ∃ z i, x = .ref a ∧ y = .str z ∧ kvs.lookup z = some i ∧ Q (.int i) H
def oKIx (a : Addr) (kvs : List (Str × Int)) : O2 := fun x y Q _ => ∃ z i, x = .v (.ref a) ∧ y = .d (.str z) ∧ kvs.lookup z = some i ∧ Q (.d (.int i))
theorem od_kix {a : Addr} {kvs : List (Str × Int)} : OpD Z (rKIx a kvs) (oKIx a kvs) := fun I H Hs x y v u Qd Ed Q g' ax ay t k => by
  obtain ⟨z, i, rfl, rfl, e, t⟩ := t
  have e1 : v = _ := ax
  cases ay
  exact ⟨z, i, e1, rfl, e, k.now g'.g (.int i) t⟩
theorem pe_kix {kvs : List (Str × Int)} {a : Addr} {o i : Expr} {to ty : TE} (D : Tbl X.K X.w a kvs) (ho : PE X o to) (hi : PE X i ty) (hs : NoSl i) : PE X (.Subscript o i pos) (tOp (rKIx a kvs) to ty) := by
  obtain ⟨es, n, KD⟩ := D.dict
  refine ⟨fun pins s σ H Q I h => ?_⟩
  refine subD_of PySem.F.slot_dict_getitem.lookup hs (thn (ho.run pins s σ H _ I h) fun u s1 ⟨x, H1, I1, rx, q1⟩ => thn (hi.run pins s1 σ H1 _ I1 q1) fun iv s2 ⟨y, H2, I2, ry, z, j, ex, ey, el, q2⟩ => ?_)
  subst ex ey
  obtain rfl : u = Value.ref a := rx
  obtain ⟨t, rfl⟩ := ry
  obtain ⟨r, e1, e2⟩ := D.get z
  rw [el] at e2
  obtain ⟨t', rfl⟩ := e2
  refine ⟨kd_type KD I2, ?_⟩
  exact wpAny_getItem_of (PySem.strKind_is X.prog X.w z t) (PySem.W.mapOf_K (prog := X.prog) I2.kIn KD.at_ KD.lit) (PySem.W.find_K KD.at_ e1) ⟨.int j, H2, I2.tok _, ⟨t', rfl⟩, q2⟩
theorem de_kix {kvs : List (Str × Int)} {a : Addr} {o i : Expr} {to ty : TE} {d_o dy : TD} (D : Tbl X.K X.w a kvs) (ho : DE X Z o to d_o) (hi : DE X Z i ty dy) (hs : NoSl i := by intro _ _; rfl) : DE X Z (.Subscript o i pos) (tOp (rKIx a kvs) to ty) (dBin (oKIx a kvs) d_o dy) :=
  de_tOp (fun p q => pe_kix D p q hs) od_kix ho hi
/-! ### {}, {k: v}: a dict, of which nothing more is told -/
theorem Then.dct {I H : Hp} {Qd : DK} {Q : VK} {kvs : List (Key × V)} {ds : List (PyData × PyData)} (g : Good Z.R I H) (k : Then Z I H Qd Q) (q : Qd (.d (.dict ds))) : ∀ p, H p = none → Q (.ref p) (upd H p (.dK kvs)) := fun p hp => by
  exact k (.d (.dict ds)) (.ref p) _ _ (ext_new g hp trivial) (.dct upd_same) q
theorem de_dict0 : DE X Z (.Dict [] [] pos) tDNewK (dC (.d (.dict []))) :=
  ⟨pe_dnewK, fun I H δ σ Qd Ed Q hh t k => k.dct hh.g t⟩
def dDict1 (a b : PyData) : TD := fun _ Q _ => Q (.d (.dict [(a, b)]))
theorem de_dict1 {z : Str} {i : Int} {j j2 : Nat} {p1 p2 : Pos} : DE X Z (.Dict [some (.Constant (.str z) j p1)] [.Constant (.int i) j2 p2] pos) (tDisp [(tC (.str z), tC (.int i))]) (dDict1 (.str z) (.int i)) := by
  refine ⟨pe_disp ?_ rfl rfl (by simp) (by show 1 ≤ 15; decide), fun I H δ σ Qd Ed Q hh t k => ?_⟩
  · exact pps_cons pe_str pe_int pps_nil
  · intro q hq
    refine ⟨upd_same, [(.inr z, .int i)], rfl, by show 1 ≤ 15; decide, ?_⟩
    have e : upd (upd H q (.dK [])) q (.dK (mergeK [] [(.inr z, .int i)])) = upd H q (.dK (mergeK [] [(.inr z, .int i)])) := upd_upd
    rw [e]
    exact k.dct hh.g t q hq
end
end PD
set_option Elab.async false
set_option linter.all false
set_option maxRecDepth 100000
set_option maxHeartbeats 1000000
namespace PD
open PySem PySem.Spec PyProof.Rows L2
section
variable {X : Cx} {Z : Zx} {pos p : Pos} {x : Str} {e : Expr} {te : TE} {d : TD}
/-! ### repr of data -/
def isSeq : PyData → Bool
  | .list _ => true
  | .tuple _ => true
  | _ => false
def reprOk (d : PyData) : Prop := isSeq d = true ∧ d.canLay0 = true ∧ d.showable = true ∧ d.depth ≤ 60 ∧ d.shown.length ≤ sizeLine
def rRepr (K : PySem.W.Frag) : List V → Hp → VK → Prop := fun xs H Q => ∃ v d, xs = [v] ∧ Dp K H v d ∧ reprOk d ∧ Q (.str d.shown) H
theorem call_reprD (hg : X.A.guards = some []) (hu : X.A.units + 64 < cLine) : CallR X (.builtin "repr") (rRepr X.K) := by
  intro pins s σ H xs us Q I r h
  obtain ⟨v, d, rfl, hd, ⟨h0, h1, h2, h3, h4⟩, q⟩ := h
  cases r with
  | @cons v u vs us r rr =>
    cases rr
    obtain ⟨as, rd⟩ := Dp.reads I d v u hd r
    have fin : ∀ (h' : Heap) (t : Tok) (tk : Nat), (∀ b o, s.heap.get? b = some o → h'.get? b = some o) → EP X pins σ Q (.str d.shown t) { s with heap := h', toks := tk } := fun h' t tk k => ⟨.str d.shown, H, I.kept k, ⟨t, rfl⟩, q⟩
    have hn := PyData.hasDict_of_canLay d h1
    obtain ⟨a, rfl⟩ : ∃ a, u = .ref a := by
      cases d with
      | list ds => cases rd; exact ⟨_, rfl⟩
      | tuple ds => cases rd; exact ⟨_, rfl⟩
      | _ => cases h0
    exact repr_of_reads' (prog := X.prog) (w := X.w) rd h2 (PyData.noDict_hsm hn) hg (by omega) (fun b o e => e) (fun h' t tk k => fin h' t tk k) h4
def oRepr : OC := fun xs Q _ => match xs with
  | [x] => ∃ d, datOf x = some d ∧ reprOk d ∧ Q (.d (.str d.shown))
  | _ => False
theorem cd_repr {K : PySem.W.Frag} (hK : Z.K = K) : CallD Z (rRepr K) oRepr := fun I H Hs xs vs Qd Ed Q g' a t k => by
  subst hK
  unfold oRepr at t
  split at t
  · obtain ⟨v, rfl, a'⟩ := at1 a
    obtain ⟨d, e1, h, t⟩ := t
    exact ⟨v, d, rfl, dat_at g'.g a' e1 h.2.1, h, k.now g'.g (.str _) t⟩
  · exact t.elim
/-! ### x == (), x != (): a tuple whose parts are not looked at -/
def rEq0 (K : PySem.W.Frag) (f : Bool → Bool) : R2 := fun x y H Q => ∃ (a b : Addr) (xs : List V), x = .ref a ∧ y = .ref b ∧ SqT K H a xs ∧ SqT K H b [] ∧ Q (.bl (f xs.isEmpty)) H
theorem op_eq0 (hu : X.A.units + 64 < cLine) : OpR X (compareOp .Eq) (rEq0 X.K fun b => b) := by
  intro pins s σ H x y v u Q I rx ry h
  obtain ⟨a, b, xs, rfl, rfl, h1, h2, q⟩ := h
  cases rx; cases ry
  obtain ⟨its, rv, p, hz⟩ := I.tuple h1
  obtain ⟨its2, rv2, p2, hz2⟩ := I.tuple h2
  cases rv2
  refine SeqAt.RcAt.tuples (e := fun _ => true) p p2 (by omega) (fun j h1 h2 => ?_) X.prog X.w _ _ ⟨.bl _, H, I, ?_, q⟩
  · simp at h2
  · have l := rv.length
    show Value.bool _ = Value.bool _
    congr 1
    cases xs with
    | nil => have : its = [] := List.length_eq_zero_iff.mp l.symm; subst this; rfl
    | cons x xs => cases its with
      | nil => cases l
      | cons i is => rfl
theorem op_ne0 (hu : X.A.units + 64 < cLine) : OpR X (compareOp .NotEq) (rEq0 X.K fun b => !b) := by
  intro pins s σ H x y v u Q I rx ry h
  obtain ⟨a, b, xs, rfl, rfl, h1, h2, q⟩ := h
  cases rx; cases ry
  obtain ⟨its, rv, p, hz⟩ := I.tuple h1
  obtain ⟨its2, rv2, p2, hz2⟩ := I.tuple h2
  cases rv2
  refine SeqAt.RcNeAt.tuples (e := fun _ => true) p p2 (by omega) (fun j h1 h2 => ?_) X.prog X.w _ _ ⟨.bl _, H, I, ?_, q⟩
  · simp at h2
  · have l := rv.length
    show Value.bool _ = Value.bool _
    congr 1
    cases xs with
    | nil => have : its = [] := List.length_eq_zero_iff.mp l.symm; subst this; rfl
    | cons x xs => cases its with
      | nil => cases l
      | cons i is => rfl
def oEq0 (f : Bool → Bool) : O2 := fun x y Q _ => ∃ ds, x = .d (.tuple ds) ∧ y = .d (.tuple []) ∧ Q (.d (.bool (f ds.isEmpty)))
theorem od_eq0 {K : PySem.W.Frag} {f : Bool → Bool} (hK : Z.K = K) : OpD Z (rEq0 K f) (oEq0 f) := fun I H Hs x y v u Qd Ed Q g' ax ay t k => by
  subst hK
  obtain ⟨ds, rfl, rfl, t⟩ := t
  obtain ⟨p, vs, rfl, h1, h1', h2⟩ := tup_at g'.g ax
  obtain ⟨q, us, rfl, h3, h3', h4⟩ := tup_at g'.g ay
  have l4 := h4.len
  have e4 : us = [] := List.length_eq_zero_iff.mp l4
  subst e4
  refine ⟨p, q, vs, rfl, rfl, h1', h3', k.now g'.g ?_ t⟩
  have e : vs.isEmpty = ds.isEmpty := by
    cases h2 <;> rfl
  rw [e]
  exact .bl _
/-! ### try: one statement, except x: .. -/
/-- the handler takes the classes that cat says; what is held in slots that others may change is forgotten -/
def dTry (cat : Addr → Option Bool) (t u : TDS) : TDS := fun D E δ => t { nx := fun δ' => D.nx (plainD δ'), rt := D.rt, bk := fun δ' => D.bk (plainD δ'), ct := fun δ' => D.ct (plainD δ') } (fun x => ∃ b, cat x.C = some b ∧ (if b = true then u D E (plainD δ) else E x)) (plainD δ)
theorem plain_any {Z Z' : Zx} (hK : Z'.K = Z.K) {I H H' : Hp} {δ : DEnv} {σ : St} (h : EnvAt Z I H δ σ) : EnvAt Z' I H' (plainD δ) σ := by
  have z := h.plain (H' := H') (Same.refl I)
  refine ⟨z.len, fun i y q => ?_, fun i j xs ys v hn h1 h2 _ _ => ?_⟩
  · obtain ⟨v, e1, e2⟩ := z.val i y q
    obtain ⟨_, k⟩ := plainD_some q
    refine ⟨v, e1, ?_⟩
    rcases k with ⟨y, rfl⟩ | ⟨y, rfl⟩
    · show Da Z'.K I v y
      rw [hK]; exact e2
    · exact e2
  · obtain ⟨_, k⟩ := plainD_some h1
    rcases k with ⟨y, e⟩ | ⟨y, e⟩ <;> cases e
theorem ds_try {b₀ : Stmt} {suite body : List Stmt} {np pos' : Pos} {c : Value} {tb : WX → TS} {ts : Addr → Value → Option Addr → TS} {t u : TDS} {cat : Addr → Option Bool} (hs : X.stack = X.env :: X.outer) (hf : X.env.frame = some X.env.locals) (hc : Names X x c) (tk : Takes X Z.W) (hK : Z.K = X.K)
    (hcat : ∀ C b, cat C = some b → PySem.W.exmOne X.K (.ref C) c = some b)
    (hb : ∀ (W : WX) (I0 H0 : Hp) (pn : List (Addr × Obj)) (xe : Value → Shared → Prop), Takes (X.tr pn xe) W → DSs (X.tr pn xe) ⟨Z.K, Z.R, W, I0, H0⟩ body (tb W) t)
    (hsu : ∀ (a : Addr) (cls : Value) (d : Option Addr) (pn : List (Addr × Obj)), DSs (X.suite a pn) Z (b₀ :: suite) (ts a cls d) u) :
    DS X Z (.Try body [.ExceptHandler (some (.Name x np)) none (b₀ :: suite) pos'] [] [] pos) (fun D σ H => tb (wOnly X.K c ts Z.W D) D σ H) (dTry cat t u) := by
  refine ⟨ps_try_only hs hf hc tk (fun W pn xe tk' _ => (hb W (fun _ => none) (fun _ => none) pn xe tk').ps) (fun a oe cls d pn _ _ => (hsu a cls d _).ps), fun I H δ σ D Ed T hh q l => ?_⟩
  have hw : Wish ⟨Z.K, Z.R, wOnly X.K c ts Z.W T, I, H⟩ (fun x => ∃ b, cat x.C = some b ∧ (if b = true then u D Ed (plainD δ) else Ed x)) σ := fun y cl od I' H' ext xa k => by
    obtain ⟨b, hb1, k⟩ := k
    have e0 := hh.e0.trans hh.g0 ext
    have xc := xa.1
    subst xc
    refine ⟨b, hcat _ _ hb1, fun hbt a na => ?_, fun hbf => ?_⟩
    · rw [if_pos hbt] at k
      exact (hsu a _ od []).rf I' H' (plainD δ) σ D Ed T ⟨hh.g0, e0, hh.env.plain ext.sub, hh.w⟩ k (l.ext ext.sub)
    · rw [hbf, if_neg Bool.false_ne_true] at k
      exact hh.w y _ od I' H' e0 xa k
  refine (hb (wOnly X.K c ts Z.W T) I H [] (fun _ _ => True) (fun _ _ _ => trivial)).rf I H (plainD δ) σ _ _ T ⟨hh.g, Ext.refl hh.g, plain_any (Z := Z) (Z' := ⟨Z.K, Z.R, wOnly X.K c ts Z.W T, I, H⟩) (H' := H) rfl hh.env, hw⟩ q ⟨fun δ' σ' I' H' e s v q => ?_, fun y v I' H' e r q => ?_, fun δ' σ' I' H' e s v q => ?_, fun δ' σ' I' H' e s v q => ?_⟩
  · exact l.nx _ σ' I' H' (hh.e0.trans hh.g0 e) s (plain_any (Z' := Z) (Z := ⟨Z.K, Z.R, wOnly X.K c ts Z.W T, I, H⟩) rfl v) q
  · exact l.rt y v I' H' (hh.e0.trans hh.g0 e) r q
  · exact l.bk _ σ' I' H' (hh.e0.trans hh.g0 e) s (plain_any (Z' := Z) (Z := ⟨Z.K, Z.R, wOnly X.K c ts Z.W T, I, H⟩) rfl v) q
  · exact l.ct _ σ' I' H' (hh.e0.trans hh.g0 e) s (plain_any (Z' := Z) (Z := ⟨Z.K, Z.R, wOnly X.K c ts Z.W T, I, H⟩) rfl v) q
/-- a def called in a try's body: what the reading hangs on is named -/
theorem de_fnT {es : List Expr} {ta : TA} {da : TDA} {S : Spd} {n k : Nat} {f : Addr} {fd : FuncData} {ps : List Str} (K : PySem.W.Frag) (R : Reg) (W : WX) (F : FnOk X.prog X.w X.K X.mg X.base (L2.CX X.prog X.w) k f fd ps (lift X.K S n)) (hr : Room k X.A) (hg : Gl X x) (hm : X.mg x = some (.ref f)) (hk : PySem.W.keepIn X.K (.ref f) = true) (hb : Binds X.K fd ps []) (tk : TakesC X Z.W)
    (hK : Z.K = X.K) (ha : DA X Z (e :: es) ta da) (hZK : Z.K = K) (hZR : Z.R = R) (hZW : Z.W = W) (hd : (x == ("__debug__" : Str)) = false := by decide) (he : starEach (e :: es) X.env = (false, eval e X.env) :: starEach es X.env := by rfl) (hpl : (backTo pos (starEach es X.env)).any (·.1) = false := by rfl) :
    DE X Z (.Call (.Name x p) (e :: es) [] pos) (tCallS (lift K S n) (WE W) ta) (dFn R S n da) := by subst hZK hZR hZW; exact de_fnC F hr hg hm hk hb tk hK ha hd he hpl
theorem de_methT {apos : Pos} {es : List Expr} {ta : TA} {da : TDA} {o : Expr} {to : TE} {t : TD} {name : Str} {T : String} {r : V → List V → Hp → VK → Prop} {od : DV → OC} (K : PySem.W.Frag) (hd : MtD Z r od) (ho : DE X Z o to t) (ha : DA X Z (e :: es) ta da) (hK : X.K = K) (hZK : Z.K = K)
    (h : PE X o to → PA X (e :: es) ta → PE X (.Call (.Attribute o name apos) (e :: es) [] pos) (tBM X.K T r to ta)) : DE X Z (.Call (.Attribute o name apos) (e :: es) [] pos) (tBM K T r to ta) (dMeth T od t da) := by
  have q := de_meth hd ho ha (hZK.trans hK.symm) h
  rw [hZK] at q
  exact q
/-- one class is caught -/
def cat1 (a : Addr) : Addr → Option Bool := fun C => if C = a then some true else none
theorem cat1_ok {K : PySem.W.Frag} {a : Addr} {c : Value} (h : PySem.W.exmOne K (.ref a) c = some true) : ∀ C b, cat1 a C = some b → PySem.W.exmOne K (.ref C) c = some b := fun C b e => by
  unfold cat1 at e
  split at e
  · rename_i z
    cases e
    rw [z]; exact h
  · cases e
end
/-- a def's one parameter by its name -/
theorem bindsK1 {K : PySem.W.Frag} {x qual : Str} {params : Arguments} {body : List Stmt} {scope : Scope} {f : Addr} {fd : FuncData} {ps : List Str} {y : Str} (F : FunD K x qual params body scope [] [] f fd)
    (h : ∀ (kV doc pm : Value) (an : Option Addr) (cdv ct : Value) (u : Value), bindArgs (PySem.W.fnOf x qual params body scope .none kV doc pm an cdv ct) ⟨[], [(y, u)]⟩ = pure (ps.zip [u])) (s : Shared) (u : Value) (_ : K.In s.heap) : BindsTo s fd ⟨[], [(y, u)]⟩ (ps.zip [u]) := by
  obtain ⟨oc, od, dV, kV, doc, pm, an, cdv, ct, osl, rfl, lk, hcd, hD, hK⟩ := F.ex
  rcases hD with ⟨_, rfl⟩ | ⟨e, _⟩
  · exact .of_eq (h kV doc pm an cdv ct u)
  · exact absurd rfl e
end PD
set_option Elab.async false
set_option linter.all false
set_option maxRecDepth 100000
set_option maxHeartbeats 1000000
namespace PD
open PySem PySem.Spec PyProof.Rows L2
/-! ### draws: [cells, at, n] -/
def DrawAt (H : Hp) (a c : Addr) : Prop := ∃ (cells : List Int) (t n : Int), H a = some (.lst [.ref c, .int t, .int n]) ∧ H c = some (.lst (cells.map V.int)) ∧ cells ≠ [] ∧ 0 ≤ n ∧ n < 2147483647
def drawReg (a c : Addr) : Reg where
  m b := b = a ∨ b = c
  J H := DrawAt H a c
  dom := fun H b j m => by
    obtain ⟨cells, t, n, h1, h2, _⟩ := j
    rcases m with rfl | rfl
    · rw [h1]; exact fun e => nomatch e
    · rw [h2]; exact fun e => nomatch e
  st := fun H H' j k => by
    obtain ⟨cells, t, n, h1, h2, h3⟩ := j
    exact ⟨cells, t, n, k a _ (.inl rfl) h1, k c _ (.inr rfl) h2, h3⟩
/-- _law_take(_law_draw, _law_size): some int below the size -/
def spTake : Spd := fun R xs Q _ => ∃ (a c : Addr) (k : Int), R = drawReg a c ∧ xs = [.v (.ref a), .d (.int k)] ∧ 1 ≤ k ∧ k ≤ 10 ^ 30 ∧ ∀ i : Int, 0 ≤ i → i < k → Q (.d (.int i))
/-- the region's lists are written anew -/
theorem ext_draw {a c : Addr} {I H H' : Hp} (g : Good (drawReg a c) I H) (k : ∀ b, b ≠ a → b ≠ c → H' b = H b) (j : DrawAt H' a c) : Ext (drawReg a c) I H I H' := by
  refine ⟨⟨fun b o e => ?_, j, g.off, g.len⟩, Same.refl _, fun b o e => .inl e, fun b o e m => ?_⟩
  · have m := g.off b o e
    rw [k b (fun z => m (.inl z)) (fun z => m (.inr z))]
    exact g.sub b o e
  · rw [k b (fun z => m (.inl z)) (fun z => m (.inr z))]
    exact e
theorem iteG' {c : Bool} {A B : Prop} (ht : c = true → A) (hf : c = false → B) : if c = true then A else B := by
  cases c with
  | true => exact ht rfl
  | false => exact hf rfl
theorem log2_le {n : Nat} (h : n < 10 ^ 60) : n.log2 ≤ 200 := by
  by_cases z : n = 0
  · rw [z]; decide
  · have := (Nat.log2_lt z (k := 200)).mpr (Nat.lt_of_lt_of_le h (by decide))
    omega
end PD
set_option Elab.async false
set_option linter.all false
set_option maxRecDepth 100000
set_option maxHeartbeats 1000000
namespace PD
open PySem PySem.Spec PyProof.Rows L2
/-! ### an exception that was caught and is held -/
/-- at a: an exception of the class cls, its dict -/
def ExZ (a : Addr) (cls : Value) (d : Option Addr) : Heap → Prop := fun h => ∃ oe vs, h.get? a = some oe ∧ Zc cls d oe ∧ oe.data = .fields vs
def exz (a : Addr) (cls : Value) (d : Option Addr) : HO := .ext (ExZ a cls d)
theorem exz_ok {P : Program} {w : World} {H : Hp} {h : Heap} {a : Addr} {cls : Value} {d : Option Addr} (z : ExZ a cls d h) : ObjOk P w H h a (exz a cls d) :=
  ⟨z, let ⟨oe, _, e, _⟩ := z; ⟨oe, e⟩, fun _ _ ⟨oe, vs, e, q, r⟩ k => ⟨oe, vs, k _ e, q, r⟩⟩
theorem exz_at {P : Program} {w : World} {H : Hp} {h : Heap} {a : Addr} {cls : Value} {d : Option Addr} (hok : HOk P w H h) (e : H a = some (exz a cls d)) : ExZ a cls d h := by
  have x : ObjOk P w H h a (.ext (ExZ a cls d)) := hok a _ e
  exact x.1
section
variable {X : Cx} {pins pins' : List (Addr × Obj)} {σ : St} {H : Hp} {s : Shared} {a : Addr} {cls : Value} {d : Option Addr}
theorem inv_track (I : Inv X pins σ H s) (z : ExZ a cls d s.heap) (na : H a = none) (nL : a ≠ X.env.locals) (n0 : ∀ o, X.s_0.heap.get? a ≠ some o) (hp : ∀ p ∈ X.pn ++ pins', p ∈ X.pn ++ pins ∧ p.1 ≠ a) : Inv X pins' σ (upd H a (exz a cls d)) s := by
  have ne : ∀ {b : Addr} {o : HO}, H b = some o → b ≠ a := fun e q => by rw [q, na] at e; cases e
  refine ⟨I.ok, I.os, I.bare, ⟨I.base.keep, I.base.slot, fun b o e n hx => ?_, I.base.there, fun b xs e => ?_, fun b o xs e => ?_, fun b ps e => ?_⟩, I.loc, I.cell, ?_, fun y c e => ?_, fun p m => ?_, fun b o e => ?_, I.len⟩
  · rw [upd_ne (fun q => n0 o (by rw [← q]; exact e))]
    exact I.base.free b o e n hx
  · have q := I.base.tups b xs e
    rw [upd_ne (ne q)]; exact q
  · have q := I.base.frzs b o xs e
    rw [upd_ne (ne q)]; exact q
  · obtain ⟨m, q⟩ := I.base.tbls b ps e
    exact ⟨m, by rw [upd_ne (ne q)]; exact q⟩
  · rw [upd_ne (Ne.symm nL)]; exact I.free
  · have : c ≠ a := fun q => by
      obtain ⟨v, hc⟩ := I.cell y c e
      obtain ⟨oe, vs, e1, _, e2⟩ := z
      obtain ⟨oc, e3, e4⟩ := hc
      rw [q, e1] at e3
      cases e3
      rw [e2] at e4
      cases e4
    rw [upd_ne this]; exact I.freeC y c e
  · obtain ⟨m1, m2⟩ := hp p m
    obtain ⟨q1, q2, q3⟩ := I.pin p m1
    exact ⟨q1, by rw [upd_ne m2]; exact q2, q3⟩
  · by_cases q : b = a
    · subst q
      rw [upd_same] at e
      cases e
      exact exz_ok z
    · rw [upd_ne q] at e
      exact (I.hok b o e).stay (fun _ _ _ r => r) (fun c r => by rw [upd_ne (ne r)]; exact r) fun c xs r => by rw [upd_ne (ne r)]; exact r
end
/-- the wish of a clause whose exception is held behind it -/
def wHeld (K : PySem.W.Frag) (c : Value) (i : Nat) (ts : Addr → TS) (D : Ends) : WX := fun cls d σ H =>
  PySem.W.exmOne K cls c = some true ∧
    (∀ a, H a = none → ts a ⟨fun σ' H' => D.nx (σ'.set i none) (upd H' a (exz a cls d)), fun _ _ => False, fun _ _ => False, fun _ _ => False⟩ (σ.set i (some (.ref a))) H)
section
variable {X : Cx} {x n : Str} {c : Value} {i : Nat} {body suite : List Stmt} {b₀ : Stmt} {np pos pos' : Pos} {tb : WX → TS} {ts : Addr → TS}
theorem ps_try_held (hs : X.stack = X.env :: X.outer) (hf : X.env.frame = some X.env.locals) (hex : X.ex = []) (hN : X.N.Nodup) (hi : X.N[i]? = some n) (hln : X.env.kindOf n = some .local) (hc : Names X x c)
    (hb : ∀ (W : WX) (pn : List (Addr × Obj)) (xe : Value → Shared → Prop), Takes (X.tr pn xe) W → PSs (X.tr pn xe) body (tb W))
    (hsu : ∀ (a : Addr) (pn : List (Addr × Obj)), PSs (X.suite a pn) (b₀ :: suite) (ts a)) :
    PS X (.Try body [.ExceptHandler (some (.Name x np)) (some n) (b₀ :: suite) pos'] [] [] pos) (fun D σ H => tb (wHeld X.K c i ts D) D σ H) := by
  refine ⟨fun pins s σ H D I h => wpAny_Try_except ?_⟩
  have hfr : X.A.frames = some (X.env :: X.outer) := I.ok.frames.trans (congrArg some hs)
  have ran := (hb (wHeld X.K c i ts D) (X.pn ++ pins) (fun e s₁ => wpAny (model X.prog X.w) X.A (noteFrame e X.env) (fun _ s₂ => wpAny (model X.prog X.w) X.A (setFlight e none)
    (fun _ s₃ => wpAny (model X.prog X.w) X.A (handleBy e X.env [.ExceptHandler (some (.Name x np)) (some n) (b₀ :: suite) pos']) (SP X pins D) X.xe s₃) X.xe s₂) X.xe s₁) (fun u s' xx => ?_)).run [] s σ H D (I.toTry _) h
  · refine wpAny_mono ran (fun f s1 p => ?_) fun _ _ p => p
    cases f with
    | next =>
      obtain ⟨σ1, H1, I1, q⟩ := p
      exact wpAny_execs_nil ⟨σ1, H1, I1.ofTry I.ok, q⟩
    | brk =>
      obtain ⟨σ1, H1, I1, q⟩ := p
      exact ⟨σ1, H1, I1.ofTry I.ok, q⟩
    | cont =>
      obtain ⟨σ1, H1, I1, q⟩ := p
      exact ⟨σ1, H1, I1.ofTry I.ok, q⟩
    | ret u =>
      obtain ⟨v1, σ1, H1, I1, r, q⟩ := p
      exact ⟨v1, σ1, H1, I1.ofTry I.ok, r, q⟩
  · obtain ⟨a, B, sI, pi, σ2, H2, cls, d, rfl, I2, nb, up, sky, na, os, ag, eb, hyes⟩ := xx
    replace I2 : Inv X pins σ2 H2 sI := I2.ofTry I.ok
    replace sky : Sky B (X.env :: X.outer) a (Zc cls d) X.env.locals s'.heap := hs ▸ sky
    show wpAny (model X.prog X.w) X.A (noteFrame (.ref a) X.env) _ _ _
    refine Sky.land Zc.steady hfr hf sky fun h3 f3 u3 => ?_
    obtain ⟨oe3, vs3, e3, z3, d3⟩ := f3.there
    have off : a ∉ frs (X.env :: X.outer) := fun m => by
      obtain ⟨_, o, eo, hn⟩ := f3.2.2.1.mem m
      rw [e3] at eo
      cases eo
      exact hn _ d3
    have nL : a ≠ X.env.locals := fun z => off (List.mem_filterMap.mpr ⟨X.env, List.mem_cons_self, by rw [hf, z]⟩)
    have nF : a ∉ X.fs := fun m => by
      obtain ⟨e, m1, m2⟩ := List.mem_filterMap.mp m
      exact off (List.mem_filterMap.mpr ⟨e, List.mem_cons_of_mem _ m1, m2⟩)
    have notI : ∀ o, sI.heap.get? a ≠ some o := fun o e => by
      have z := nb a o e (hs ▸ off)
      rw [f3.2.1] at z
      cases z
    have not0 : ∀ o, X.s_0.heap.get? a ≠ some o := fun o e => by
      obtain ⟨o', e'⟩ := I2.base.there a o e (by rw [hex]; exact List.not_mem_nil)
      exact notI o' e'
    have I3 : Inv X pins σ2 H2 { s' with heap := h3 } := I2.landed nb f3.1 (up.trans u3) os ag
    have S3 := I3.suite e3 d3 na nL nF
    refine wpAny_handleBy_cons (codeAny_handlers_test ?_) fun q => nomatch q
    have ty : PySem.W.Looks (model X.prog X.w) h3 (typeOf (.ref a)) cls := fun A Q E s k q => wpAny_typeOf_ref (k _ _ e3) (by rw [z3.1]; exact q)
    have ex := PySem.W.exm_one (M := model X.prog X.w) I3.kIn ty eb
    have look : ∀ {Q E : Value → Shared → Prop}, Q c { s' with heap := h3 } → wpAny (model X.prog X.w) (X.A.mark (some (.ref a))) (eval (.Name x np) X.env) Q E { s' with heap := h3 } := fun {Q E} q => by
      obtain ⟨g1, g2, g3 | ⟨g3, g4, g5⟩⟩ := hc
      · exact ld_glob (X := X.suite a _) S3 g1 g3 q g2
      · exact ld_blt (X := X.suite a _) S3 g1 g3 g4 q g5 g2
    refine look (ex.here ?_)
    refine codeAny_handlers_suite_as (HandSPX.lands_againZ f3 fun h4 f4 u4 => ?_)
    obtain ⟨oe, vs, e4, z4, d4⟩ := f4.there
    have I4 : Inv X pins σ2 H2 { s' with heap := h4 } := I2.landed nb f4.1 ((up.trans u3).trans u4) os ag
    refine store_ok (X := X.suite a ((a, oe) :: (X.pn ++ pins))) (v := .ref a) (I4.suite e4 d4 na nL nF) hN hi (.inl hln) rfl (fun s5 S5 => ?_) (.inr hln)
    refine wpAny_mono ((hsu a ((a, oe) :: (X.pn ++ pins))).run [] s5 _ H2 _ S5 (hyes a na)) (fun f s6 p => ?_) fun _ _ p => p.elim
    cases f with
    | next =>
      obtain ⟨σ6, H6, S6, q6⟩ := p
      show wpAny (model X.prog X.w) X.A (do bindName X.env n .none; unbindBehindTheSuite X.env n pos') _ _ _
      refine gone_ok (X := X.suite a ((a, oe) :: (X.pn ++ pins))) S6 hN hi hln fun s7 S7 => ?_
      obtain ⟨p1, p2, _⟩ := S7.pin (a, oe) (List.mem_append_left _ List.mem_cons_self)
      refine ⟨_, _, inv_track (Inv.unsuite S7 I.ok) ⟨oe, vs, p1, z4, d4⟩ p2 nL not0 fun p m => ⟨m, fun z => ?_⟩, q6⟩
      have z2 := (I2.pin p m).1
      rw [z] at z2
      exact notI _ z2
    | brk =>
      obtain ⟨_, _, _, q6⟩ := p
      exact q6.elim
    | cont =>
      obtain ⟨_, _, _, q6⟩ := p
      exact q6.elim
    | ret u =>
      obtain ⟨_, _, _, _, _, q6⟩ := p
      exact q6.elim
end
/-- its dict is tracked -/
def DictZ (H : Hp) (d : Option Addr) (fs : List (Str × V)) : Prop := match d with
  | none => fs = []
  | some dx => H dx = some (.xd fs)
theorem inst_held {X : Cx} {pins : List (Addr × Obj)} {σ : St} {H : Hp} {s : Shared} {a D : Addr} {d : Option Addr} {fs : List (Str × V)} (I : Inv X pins σ H s) (e : H a = some (exz a (.ref D) d)) (t : DictZ H d fs) :
    ∃ oe od, PySem.W.InstAt s.heap a oe D od ∧ (match od, d with
      | some o, some dx => ∃ mA, s.heap.Ns1 dx mA ∧ (∀ f, RelO (fs.lookup f) (mA f)) ∧ s.heap.get? dx = some o
      | none, none => True
      | _, _ => False) := by
  obtain ⟨oe, vs, e1, ⟨z1, z2⟩, e2⟩ := exz_at I.hok e
  have nc : PySem.W.notCls oe = true := by
    unfold PySem.W.notCls
    rw [e2]
  cases d with
  | none => exact ⟨oe, none, ⟨e1, z1, nc, by rw [z2]; trivial⟩, trivial⟩
  | some dx =>
    obtain ⟨mA, n1, r⟩ : ObjOk X.prog X.w H s.heap dx (.xd fs) := I.hok dx _ t
    obtain ⟨o, es, ep, eo, hr⟩ := id n1
    exact ⟨oe, some o, ⟨e1, z1, nc, by rw [z2]; exact eo⟩, mA, n1, r, eo⟩
/-- isinstance(e, c), e held -/
def rIsZ (K : PySem.W.Frag) : List V → Hp → VK → Prop := fun xs H Q => ∃ (a D : Addr) (d : Option Addr) (fs : List (Str × V)) (c : V) (cv : Value) (b : Bool), xs = [.ref a, c] ∧ H a = some (exz a (.ref D) d) ∧ DictZ H d fs ∧ ExcC K D ∧ (∀ u, RelV c u → u = cv) ∧ PySem.W.kitOne K (.ref D) cv = some b ∧ Q (.bl b) H
theorem call_isZ {X : Cx} : CallR X (.builtin "isinstance") (rIsZ X.K) := by
  intro pins s σ H xs us Q I r h
  obtain ⟨a, D, d, fs, c, cv, b, rfl, e, t, C, hc, k, q⟩ := h
  cases r with
  | cons r1 r =>
    cases r with
    | cons r2 r =>
      cases r
      cases r1
      have := hc _ r2
      subst this
      obtain ⟨oe, od, J, _⟩ := inst_held I e t
      have cl : (PySem.W.clsIn X.K D).isSome = true := by
        obtain ⟨cd, z, _⟩ := PySem.W.any_some C.hd
        rw [z]; rfl
      exact PySem.W.kia_one (PySem.W.kitx_exc cl C.hg C.hk C.hs C.ha C.hn C.ht C.hm) I.kIn J k (fun z => nomatch z) fun tk => ⟨.bl b, H, I.kept (t' := tk) fun _ _ z => z, rfl, q⟩
/-- e.f, e held -/
def tXz (K : PySem.W.Frag) (f : Str) (te : TE) : TE := fun σ H Q => te σ H fun x H1 => ∃ (a C dx : Addr) (fs : List (Str × V)) (v : V), x = .ref a ∧ H1 a = some (exz a (.ref C) (some dx)) ∧ H1 dx = some (.xd fs) ∧ XfC K C ∧ PySem.W.findIn K (.ref C) f = some none ∧ fs.lookup f = some v ∧ Q v H1
theorem pe_xz {X : Cx} {e : Expr} {te : TE} {pos : Pos} {n : Str} (he : PE X e te) (hb : attributeBase e n X.env (eval e X.env) = eval e X.env := by rfl) : PE X (.Attribute e n pos) (tXz X.K n te) := by
  refine ⟨fun pins s σ H Q I h => attr_of hb (thn (he.run pins s σ H _ I h) fun u s1 hh => ?_)⟩
  obtain ⟨x, H1, I1, rx, a, C, dx, fs, v, rfl, ea, ed, T, hno, l, q⟩ := hh
  obtain rfl : u = Value.ref a := rx
  obtain ⟨oe, vs, e1, ⟨z1, z2⟩, e2⟩ := exz_at I1.hok ea
  obtain ⟨mA, hns, hr⟩ : ObjOk X.prog X.w H1 s1.heap dx (.xd fs) := I1.hok dx _ ed
  obtain ⟨od, ho, hl⟩ := lookIn_ns hns
  obtain ⟨u, hu, ru⟩ := RelO.some_of (v := v) (o := mA n) (by rw [← l]; exact hr n)
  have nc : PySem.W.notCls oe = true := by
    unfold PySem.W.notCls
    rw [e2]
  exact HandSPX.exc_get I1.kIn (od := some od) ⟨e1, z1, nc, by rw [z2]; exact ho⟩ T.ga T.gg T.exC (PySem.W.findObj_own T.hdC hno rfl (by rw [hl, hu])) (handed_of ru) ⟨v, H1, I1.tok _, ru, q⟩
end PD
set_option Elab.async false
set_option linter.all false
set_option maxRecDepth 100000
set_option maxHeartbeats 1000000
namespace PD
open PySem PySem.Spec PyProof.Rows L2
/-- what is left to do, by any reading of it -/
def tAll (X : Cx) (ss : List Stmt) : TS := fun D σ H => ∃ ts : TS, PSs X ss ts ∧ ts D σ H
theorem pss_all {X : Cx} {ss : List Stmt} : PSs X ss (tAll X ss) := ⟨fun pins s σ H D I ⟨_, p, h⟩ => p.run pins s σ H D I h⟩
/-- a def called once, at one place -/
theorem once {CX : CXT} {P : Program} {w : World} {K : PySem.W.Frag} {mg : Str → Option Value} {base : Heap} {x qual : Str} {params : Arguments} {body : List Stmt} {scope : Scope} {dvs : List V} {kws : List (Str × V)} {f : Addr} {fd : FuncData} {N ps : List Str} {k : Nat}
    (F : FunD K x qual params body scope dvs kws f fd) (S : FnScope N ps scope) {A : Around} {outer : List Env} {s : Shared} {H : Hp} {args : Args} {us : List Value} {vs : List V} {Q : VK} {E : XK}
    (room : Room (k + 1) A) (e0 : Env0 P w K mg base A outer s H) (bind : BindsTo s fd args (ps.zip us)) (rv : Vals vs us) (len : vs.length = ps.length)
    (walk : ∀ cdv : Value, ∃ t, PSs (cxOf CX P w K mg base N qual scope f cdv A outer s H E) body t ∧ t { nx := fun _ H' => Q .non H', rt := Q } (start N vs) H) :
    codeAny (model P w) A (.call (.ref f) args) (CR CX outer P w H s Q E) s := by
  obtain ⟨oc, od, dV, kV, doc, pm, an, cdv, ct, osl, rfl, look, code, _, _⟩ := F.ex
  have here : K.In s.heap := e0.mod.kin.keeps fun b o q => (e0.bs b o q).1
  have free : s.heap.NoLimit := e0.mod.nolimit.keeps fun b o q => (e0.bs b o q).1
  refine codeAny_call_function room.depth (here _ _ look) rfl S.co S.gen rfl (PySem.W.codeRec_of here code) (bind _ _ _ _ ?_)
  refine wpAny_newFunctionEnv_cells S.kind (fun y my => ?_) fun env he s1 inn => ?_
  · rcases S.par y.1 (List.of_mem_zip my).1 with q | q
    · exact Or.inl q
    · exact Or.inr ⟨q, PySem.W.cellsFrom_some _ _ _ (Or.inl q)⟩
  · subst he
    refine ⟨free.keeps inn.toInCall.keep, codeAny_func ?_⟩
    obtain ⟨t, pt, qt⟩ := walk cdv
    refine wpAny_mono (pt.run [] s1 (start N vs) H _ (inv_start S room.hd e0 len rv inn) qt) (fun fl s2 end_ => ?_) fun e s2 q => q
    cases fl with
    | next =>
      obtain ⟨_, H2, J, q⟩ := end_
      exact ⟨.non, H2, J.os, J.bare, J.base, J.hok, rfl, q⟩
    | ret u =>
      obtain ⟨v, _, H2, J, r, q⟩ := end_
      exact ⟨v, H2, J.os, J.bare, J.base, J.hok, r, q⟩
    | brk =>
      obtain ⟨_, _, _, q⟩ := end_
      exact q.elim
    | cont =>
      obtain ⟨_, _, _, q⟩ := end_
      exact q.elim
end PD
namespace PD
open PySem PySem.Spec PyProof.Rows L2
/-- the script as the only object that is tracked, or as one of the module's -/
theorem script_heap {P : Program} {w : World} {K : PySem.W.Frag} {h : Heap} {a : Addr} {vs : List Value} {ns : List Int} (kin : K.In h) (at_ : h.get? a = some { cls := .type "list", data := .seq vs.toArray }) (are : IntsAre vs ns) (few : ns.length ≤ sizeLine) :
    ∃ H : Hp, (∀ b u, H b = some u → b = a ∧ (∃ o xs, u = .frz o (.lst xs)) ∧ K.lookup a = none) ∧ SqL K H a (ns.map V.int) ∧ HOk P w H h := by
  have rv := vals_ints are
  have lv := are.length
  cases look : K.lookup a with
  | some o =>
    have eo := (kin a o look).symm.trans at_
    cases eo
    refine ⟨fun _ => none, fun b u q => ?_, .inr ⟨_, _, _, look, rfl, rfl, rfl, by rw [List.size_toArray, lv]; exact few, by simpa using rv⟩, fun b u q => ?_⟩
    · cases q
    · cases q
  | none =>
    refine ⟨fun b => if b = a then some (.frz { cls := .type "list", data := .seq vs.toArray } (.lst (ns.map V.int))) else none, fun b u q => ?_, .inl (.inr ⟨_, if_pos rfl⟩), fun b u q => ?_⟩
    · dsimp only at q
      by_cases e : b = a
      · rw [if_pos e] at q
        cases q
        exact ⟨e, ⟨_, _, rfl⟩, rfl⟩
      · rw [if_neg e] at q
        cases q
    · dsimp only at q
      by_cases e : b = a
      · rw [if_pos e] at q
        cases q
        rw [e]
        exact ⟨at_, by rw [List.length_map]; exact few, vs, _, rv, at_⟩
      · rw [if_neg e] at q
        cases q
/-- the law's call, its def walked at this call alone -/
theorem law_once {P : Program} {w : World} {K : PySem.W.Frag} {mg mb : Str → Option Value} {CX : CXT} {fa a : Addr} {s1 : Shared} {vs : List Value} {ns : List Int} (kin : K.In s1.heap) (gl : s1.heap.Ns mainGlobals mg) (bl : s1.heap.Ns builtinsNs mb) (boot : ∀ x : Str, x ≠ "__name__" → mb x = bootBuiltins x)
    (free : s1.heap.NoLimit) (gens : s1.gens = #[]) (at_ : s1.heap.get? a = some { cls := .type "list", data := .seq vs.toArray }) (are : IntsAre vs ns) (few : ns.length ≤ sizeLine)
    (walk : ∀ (base : Heap) (H : Hp), K.In base → base.Ns mainGlobals mg → Env0 P w K mg base callerA [] s1 H → SqL K H a (ns.map V.int) → codeAny (model P w) callerA (.call (.ref fa) ⟨[.ref a], []⟩) (CR CX [] P w H s1 (fun v _ => v = .bl true) fun _ _ _ => False) s1)
    (noX : ∀ H e s', CX [] H s1 (fun _ _ _ => False) e s' → False) :
    codeAny (model P w) callerA (.call (.ref fa) ⟨[.ref a], []⟩) (fun r s' => r = .ok (.ret (.bool true)) ∧ OldK s1.heap s'.heap ∧ s'.os = s1.os ∧ AllBare s'.gens) s1 := by
  obtain ⟨H, only, sq, hok⟩ := script_heap (P := P) (w := w) kin at_ are few
  have notD : ∀ {b : Addr} {o : Obj} {es : Array DictEntry} {n : Nat}, s1.heap.get? b = some o → o.data = .dict es n → H b = none := fun {b o es n} g d => by
    cases q : H b with
    | none => rfl
    | some u =>
      obtain ⟨rfl, _, _⟩ := only b u q
      rw [at_] at g
      cases g
      cases d
  have ns_hid : ∀ {b : Addr} {m : Str → Option Value}, s1.heap.Ns b m → (hidT s1.heap H).Ns b m := fun ⟨o, es, n, g, d, r⟩ => ⟨o, es, n, hidT_get g (notD g d), d, r⟩
  have kin_hid : K.In (hidT s1.heap H) := fun b o g => hidT_get (kin b o g) (by
    cases q : H b with
    | none => rfl
    | some u =>
      obtain ⟨rfl, _, z⟩ := only b u q
      rw [z] at g
      cases g)
  have lim : (hidT s1.heap H).NoLimit := by
    obtain ⟨mc, l1, l2⟩ := free
    exact ⟨mc, ns_hid l1, l2⟩
  have e0 : Env0 P w K mg (hidT s1.heap H) callerA [] s1 H := ⟨rfl, ⟨kin_hid, ns_hid gl, ⟨mb, ns_hid bl, boot⟩, lim⟩, fun b o g => of_hidT g, Nat.le_of_eq (hidT_size _ _), trivial, fun b m => (nomatch m), hok, .of_eq gens⟩
  refine codeAny_mono (walk _ H kin_hid (ns_hid gl) e0 sq) fun r s' back => ?_
  cases r with
  | error e => exact (noX H e s' back).elim
  | ok fl =>
    cases fl with
    | ret u =>
      obtain ⟨v, H', os, bare, un, hok', rel, rfl⟩ := back
      obtain rfl : u = Value.bool true := rel
      refine ⟨rfl, OldK.of_keep fun b o g => ?_, os, bare⟩
      cases q : H b with
      | none => exact un.keep b o g q (fun m => nomatch m) (fun m => nomatch m)
      | some u =>
        obtain ⟨_, ⟨ob, xs, rfl⟩, _⟩ := only b u q
        have k1 := (hok b _ q).1
        have k2 := (hok' b _ (un.frzs b ob _ q)).1
        rw [g] at k1
        cases k1
        exact k2
    | next => exact False.elim back
    | brk => exact False.elim back
    | cont => exact False.elim back
/-- a law's end: F gives the written part and the walk of its def -/
theorem law_walk {l : PySem.W.OpenLaw} {n : Nat} {q : Program} {loose : List Str} {XP : (Str → Option Value) → Heap → Prop} {YP : World → Heap → Prop} {d : DefRec} {CX : World → CXT} (most : l.most = some n) (small : n ≤ sizeLine) (plain : d.params.defaults = [])
    (F : ∀ (w : World) (mg : Str → Option Value) (fa : Addr) (h : Heap), YP w h → h.Ns mainGlobals mg → mg d.name = some (.ref fa) → ∃ K : PySem.W.Frag, K.In h ∧ ∀ (s1 : Shared) (a : Addr) (ns : List Int) (base : Heap) (H : Hp), ns.length ≤ n → K.In base → base.Ns mainGlobals mg →
      Env0 l.prog w K mg base callerA [] s1 H → SqL K H a (ns.map V.int) → codeAny (model l.prog w) callerA (.call (.ref fa) ⟨[.ref a], []⟩) (CR (CX w) [] l.prog w H s1 (fun v _ => v = .bl true) fun _ _ _ => False) s1)
    (noX : ∀ (w : World) (H : Hp) (s : Shared) (e : Value) (s' : Shared), CX w [] H s (fun _ _ _ => False) e s' → False) :
    PySem.W.WalkO q loose XP YP l.row.toRowW d [] (fun f vs => PySem.call f vs) := by
  refine Att.attach_call most plain fun w s0 s1 mg mb fa o pm cd doc a vs ns G Y _ _ _ hmg obj are few gens => ?_
  obtain ⟨K, kin, walk⟩ := F w mg fa _ Y G.T.g hmg
  exact law_once kin G.T.g G.T.b G.T.builtins G.T.nolimit gens obj are (Nat.le_trans few small) (fun base H k1 k2 e0 sq => walk s1 a ns base H few k1 k2 e0 sq) fun H e s' => noX w H s1 e s'
end PD
set_option Elab.async false
set_option linter.all false
set_option maxRecDepth 100000
set_option maxHeartbeats 1000000
namespace PD
open PySem PySem.Spec PyProof.Rows L2
/-! ### facts of the head, as Bools over the written part -/
theorem band {a b : Bool} (h : (a && b) = true) : a = true ∧ b = true := Bool.and_eq_true_iff.mp h
/-- a class over an own class over ValueError -/
def clsB (K : PySem.W.Frag) (C : Addr) : Bool := match K.lookup C with
  | some ⟨.type t, _, .cls cd, sl⟩ => (match cd.mro, sl.toList with
    | .ref D :: up, [_, _, _, _, some (.builtin n), _] => decide (t = "type") && (decide (D = C) && (decide (n = "ValueError.__new__") && (!cd.hasDel && (cd.hasDict && PySem.HandSPX.refsVE up))))
    | _, _ => false)
  | _ => false
theorem clsB_ok {K : PySem.W.Frag} {C : Addr} (h : clsB K C = true) : ∃ nm q N bs up sn sub ab col dd k0 k1 k2 k3 k5, K.lookup C = some (excClassObj nm q C N bs up true sn sub ab col dd k0 k1 k2 k3 k5 "ValueError.__new__") ∧ PySem.HandSPX.refsVE up = true := by
  unfold clsB at h
  split at h
  · rename_i t dd cd sl look
    split at h
    · rename_i D up k0 k1 k2 k3 n k5 hm hs
      obtain ⟨h1, h⟩ := band h
      obtain ⟨h2, h⟩ := band h
      obtain ⟨h3, h⟩ := band h
      obtain ⟨h4, h⟩ := band h
      obtain ⟨h5, h6⟩ := band h
      have e1 := of_decide_eq_true h1
      have e2 := of_decide_eq_true h2
      have e3 := of_decide_eq_true h3
      have e4 : cd.hasDel = false := by simpa using h4
      subst e1 e2 e3
      obtain ⟨nm, bs, mro, ns, qn, hd, sn, sub, ab, col, del⟩ := cd
      dsimp only at hm e4 h5
      subst hm e4 h5
      obtain ⟨l⟩ := sl
      have hs : l = _ := hs
      subst hs
      exact ⟨nm, qn, ns, bs, up, sn, sub, ab, col, dd, k0, k1, k2, k3, k5, look, h6⟩
    · cases h
  · cases h
def oexB (K : PySem.W.Frag) (C : Addr) : Bool := clsB K C && (He.eqO (PySem.W.findIn K (.ref C) "__setattr__") (some (some (.builtin "object.__setattr__"))) && (decide (PySem.W.subIn K (.ref C) (.type "BaseException") = some true) && (decide (PySem.W.typeIn K (.ref C) = some (.type "type")) && PySem.W.keepIn K (.ref C))))
theorem oexB_ok {K : PySem.W.Frag} {C : Addr} (h : oexB K C = true) : OexC K C := by
  obtain ⟨h1, h⟩ := band h
  obtain ⟨h2, h⟩ := band h
  obtain ⟨h3, h⟩ := band h
  obtain ⟨h4, h5⟩ := band h
  exact ⟨clsB_ok h1, He.eqO_ok h2, of_decide_eq_true h3, of_decide_eq_true h4, h5⟩
def excB (K : PySem.W.Frag) (C : Addr) : Bool := xfB K C && (He.eqO (PySem.W.findIn K (.ref C) "__class__") (some (some (.builtin "object.__class__"))) && (He.eqO (PySem.W.specialIn K (.builtin "object.__class__") "__get__") (some (some (.builtin "getset_descriptor.__get__"))) && (decide (PySem.W.takesIn K (.builtin "object.__class__") = some true) && decide (PySem.W.mroIn K C (.type "object") = some true))))
theorem excB_ok {K : PySem.W.Frag} {C : Addr} (h : excB K C = true) : ExcC K C ∧ XfC K C := by
  obtain ⟨h1, h⟩ := band h
  obtain ⟨h2, h⟩ := band h
  obtain ⟨h3, h⟩ := band h
  obtain ⟨h4, h5⟩ := band h
  have x := xfB_ok h1
  exact ⟨⟨x.ga, x.gg, x.exC, x.hdC, He.eqO_ok h2, He.eqO_ok h3, of_decide_eq_true h4, of_decide_eq_true h5⟩, x⟩
def kitB (K : PySem.W.Frag) (C D : Addr) (b : Bool) : Bool := decide (PySem.W.kitOne K (.ref C) (.ref D) = some b)
/-! ### a table: texts to ints -/
def tabL : List DictEntry → List (Str × Int) → Bool
  | [], [] => true
  | e :: r, q :: s => (match e.key, e.val with
    | .str x _, .int i _ => decide (x = q.1) && decide (i = q.2)
    | _, _ => false) && tabL r s
  | _, _ => false
def tabB (K : PySem.W.Frag) (a : Addr) (kvs : List (Str × Int)) : Bool := match K.lookup a with
  | some ⟨_, _, .dict es _, _⟩ => tabL es.toList kvs
  | _ => false
theorem tabL_get : ∀ {es : List DictEntry} {kvs : List (Str × Int)}, tabL es kvs = true → es.any (·.refKey) = false ∧ ∀ z : Str, (match kvs.lookup z with | some i => ∃ e t, es.find? (·.key.isStr z) = some e ∧ e.val = .int i t | none => es.find? (·.key.isStr z) = none)
  | [], [], _ => ⟨rfl, fun z => rfl⟩
  | [], _ :: _, h => by cases h
  | _ :: _, [], h => by cases h
  | e :: r, (k, i) :: s, h => by
    obtain ⟨h1, h2⟩ := band (show ((match e.key, e.val with | .str x _, .int i' _ => decide (x = k) && decide (i' = i) | _, _ => false) && tabL r s) = true from h)
    obtain ⟨ih1, ih2⟩ := tabL_get h2
    split at h1
    · rename_i x t j u ek ev
      obtain ⟨h3, h4⟩ := band h1
      have e3 := of_decide_eq_true h3
      have e4 := of_decide_eq_true h4
      subst e3 e4
      refine ⟨?_, fun z => ?_⟩
      · rw [List.any_cons, ih1]
        unfold DictEntry.refKey
        rw [ek]
        rfl
      · have is : e.key.isStr z = (x == z) := by rw [ek]; rfl
        rw [List.find?_cons, is]
        show (match (match z == x with | true => some j | false => s.lookup z) with | some i => _ | none => _)
        cases q : (z == x) with
        | true =>
          have e5 := eq_of_beq q
          subst e5
          rw [beq_self_eq_true]
          exact ⟨e, u, rfl, ev⟩
        | false =>
          have q2 : (x == z) = false := by rw [beq_eq_false_iff_ne] at q ⊢; exact fun e => q e.symm
          rw [q2]
          exact ih2 z
    · cases h1
theorem tabB_ok {K : PySem.W.Frag} {w : World} {a : Addr} {kvs : List (Str × Int)} (h : tabB K a kvs = true) (d : ∃ es n, KDict K w a es n) : Tbl K w a kvs := by
  refine ⟨d, fun z => ?_⟩
  obtain ⟨es, n, D⟩ := d
  have look := D.at_
  unfold tabB at h
  rw [look] at h
  obtain ⟨h1, h2⟩ := tabL_get h
  have hz := h2 z
  unfold PySem.W.nsIn
  rw [look]
  cases q : kvs.lookup z with
  | some i =>
    rw [q] at hz
    obtain ⟨e, t, h3, h4⟩ := hz
    refine ⟨some e.val, ?_, t, by rw [h4]⟩
    show (match es.toList.find? (·.key.isStr z) with | some e => some (some e.val) | none => _) = _
    rw [h3]
  | none =>
    rw [q] at hz
    refine ⟨none, ?_, rfl⟩
    show (match es.toList.find? (·.key.isStr z) with | some e => some (some e.val) | none => if es.toList.any (·.refKey) then none else some none) = _
    rw [hz, h1]
    rfl
end PD
set_option Elab.async false
set_option linter.all false
set_option maxRecDepth 100000
set_option maxHeartbeats 1000000
namespace PD
open PySem PySem.Spec PyProof.Rows L2
section
variable {X : Cx} {Z : Zx} {pos : Pos}
/-! ### text * int -/
def repS (z : Str) (n : Nat) : Str := ⟨(List.replicate n z.cps).foldl (· ++ ·) #[]⟩
def rMulS : R2 := fun x y H Q => ∃ (z : Str) (n : Int), x = .str z ∧ y = .int n ∧ 2 ≤ n ∧ n ≤ 1000 ∧ 1 ≤ z.length ∧ z.length ≤ 1000 ∧ (repS z n.toNat).length ≤ sizeLine ∧ Q (.str (repS z n.toNat)) H
theorem op_mulS : OpR X (binaryOp .Mult) rMulS := by
  intro pins s σ H x y v u Q I rx ry h
  obtain ⟨z, n, rfl, rfl, h1, h2, h3, h4, h5, q⟩ := h
  obtain ⟨t, rfl⟩ := rx
  obtain ⟨t', rfl⟩ := ry
  have n1 : ¬ n < 1 := by omega
  have n2 : (n == 1 || z.length == 0) = false := by
    rw [Bool.or_eq_false_iff]
    exact ⟨by rw [beq_eq_false_iff_ne]; omega, by rw [beq_eq_false_iff_ne]; omega⟩
  refine P.mul_str (by rw [decide_eq_false (by omega), decide_eq_false (by omega)]; rfl) (fun _ _ => ?_) (fun _ _ => ?_) ?_
  · have hd : (1000 : Int) ≤ (2 ^ 63 - 1) / n := by
      rw [Int.le_ediv_iff_mul_le (by omega)]
      omega
    omega
  · have hm : z.length * n.toNat ≤ 1000 * 1000 := Nat.mul_le_mul h4 (by omega)
    have e : sizeLine = 16777216 := by decide
    show decide (_ > sizeLine) = false
    exact decide_eq_false (by omega)
  · rw [if_neg n1, n2]
    exact ⟨h5, ⟨.str (repS z n.toNat), H, I.tok _, ⟨_, rfl⟩, q⟩⟩
def oMulX : O2 := fun x y Q E => match x, y with
  | .d (.str z), .d (.int n) => 2 ≤ n ∧ n ≤ 1000 ∧ 1 ≤ z.length ∧ z.length ≤ 1000 ∧ (repS z n.toNat).length ≤ sizeLine ∧ Q (.d (.str (repS z n.toNat)))
  | x, y => oMul x y Q E
theorem op_mulX' : OpR X (binaryOp .Mult) (fun x y H Q => rMulS x y H Q ∨ (rI CMulW (fun i j => .int (i * j)) x y H Q ∨ rRep x y H Q)) := op_mulS.or op_mul'
theorem od_mulX : OpD Z (fun x y H Q => rMulS x y H Q ∨ (rI CMulW (fun i j => .int (i * j)) x y H Q ∨ rRep x y H Q)) oMulX := fun I H Hs x y v u Qd Ed Q g' ax ay t k => by
  unfold oMulX at t
  split at t
  · cases ax; cases ay
    exact .inl ⟨_, _, rfl, rfl, t.1, t.2.1, t.2.2.1, t.2.2.2.1, t.2.2.2.2.1, k.now g'.g (.str _) t.2.2.2.2.2⟩
  · exact .inr (od_mul I H Hs x y v u Qd Ed Q g' ax ay t k)
/-! ### xs[::-1] of a list -/
def dRev (a : TD) : TD := fun δ Q E => a δ (fun x => ∃ xs, lstOf x = some xs ∧ Q (.new xs.reverse)) E
theorem DaAll.rev {K : PySem.W.Frag} {H : Hp} {vs : List V} {ds : List PyData} (h : DaAll K H vs ds) : DaAll K H vs.reverse ds.reverse := by
  suffices hh : ∀ (vs : List V) (ds : List PyData), DaAll K H vs ds → DaAll K H vs.reverse ds.reverse from hh vs ds h
  intro vs
  induction vs with
  | nil => intro ds h; cases h; exact .nil
  | cons v vs ih =>
    intro ds h
    cases h with
    | cons a t =>
      rw [List.reverse_cons, List.reverse_cons]
      exact (ih _ t).app (.cons a .nil)
theorem de_rev' {e : Expr} {te : TE} {d : TD} {k : Nat} {p1 p2 p3 : Pos} (h : DE X Z e te d) (hK : Z.K = X.K) : DE X Z (.Subscript e (.Slice none none (some (.UnaryOp .USub (.Constant (.int 1) k p1) p2)) p3) pos) (tRevL X.K te) (dRev d) := by
  refine ⟨pe_revL h.pe, fun I H δ σ Qd Ed Q hh t k => h.rf I H δ σ _ Ed _ hh t fun x v I1 H1 e1 a1 q1 => ?_⟩
  have h1 := hh.ext e1
  obtain ⟨xs, el, q⟩ := q1
  obtain ⟨p, vs, rfl, hp, hv, hl⟩ := lst_at h1.g a1 el
  exact ⟨p, vs, rfl, SqL.of hp, (k.ext hh.g e1).new h1.g h1.old hv.rev (by rw [List.length_reverse]; exact hl) q⟩
theorem de_rev {e : Expr} {te : TE} {d : TD} {k : Nat} {p1 p2 p3 : Pos} (h : DE X Z e te d) (hK : Z.K = X.K) : DE X Z (.Subscript e (.Slice none none (some (.UnaryOp .USub (.Constant (.int 1) k p1) p2)) p3) pos) (tRevL Z.K te) (dRev d) := by rw [hK]; exact de_rev' h hK
/-! ### max(a, b, c) -/
def oMax3 : OC := fun xs Q _ => match xs with
  | [.d (.int i), .d (.int j), .d (.int k)] => Q (.d (.int (max (max i j) k)))
  | _ => False
theorem at3 {Hs I H : Hp} {x y z : DV} {vs : List V} (a : AtAll Z Hs I H [x, y, z] vs) : ∃ v u w, vs = [v, u, w] ∧ At Z Hs I H x v ∧ At Z Hs I H y u ∧ At Z Hs I H z w := by
  cases a with
  | cons a1 a =>
    cases a with
    | cons a2 a =>
      cases a with
      | cons a3 a =>
        cases a
        exact ⟨_, _, _, rfl, a1, a2, a3⟩
theorem nuMax2_int (i j : Int) : nuMax2 (.int i) (.int j) = some (.int (max i j)) := by
  show (some (decide (i < j))).map _ = _
  by_cases h : i < j
  · rw [decide_eq_true h, Int.max_eq_right (by omega)]
    rfl
  · rw [decide_eq_false h, Int.max_eq_left (by omega)]
    rfl
theorem cd_max3 : CallD Z (rNuC3 nuMax3) oMax3 := fun I H Hs xs vs Qd Ed Q g' a t k => by
  unfold oMax3 at t
  split at t
  · obtain ⟨v, u, w, rfl, a1, a2, a3⟩ := at3 a
    cases a1; cases a2; cases a3
    refine ⟨_, _, _, .int (max (max _ _) _), rfl, ?_, k.now g'.g (.int _) t⟩
    unfold nuMax3
    rw [nuMax2_int]
    exact nuMax2_int _ _
  · exact t.elim
end
end PD
set_option Elab.async false
set_option linter.all false
set_option maxRecDepth 100000
set_option maxHeartbeats 1000000
/-! PD22: sets of texts: adding one to the set, at the heap's level. -/
namespace SX
open PySem.Froz
open PySem PySem.Spec PyProof.Rows L2

/-- the set of the texts l at a -/
def TSet (P : Program) (w : World) (h : Heap) (a : Addr) (l : List Str) : Prop :=
  ∃ o es ep t, h.get? a = some o ∧ o.ExactSet ∧ o.data = .set es ep t ∧ TxOk P w (es, ep, t) l ∧ l.Nodup ∧ Ris t.place.toList ∧ (w.params.followText "set-order" = true ∨ t.led = true)
section
variable {P : Program} {w : World} {A : Around} {E : Value → Shared → Prop} {s : Shared} {a : Addr} {l : List Str}
theorem set_obj {o : Obj} {D : SD} (x : o.ExactSet) (d : o.data = .set D.1 D.2.1 D.2.2) : o = sObj "set" D := by
  obtain ⟨c, di, dt, sl⟩ := o
  obtain ⟨x1, x2, x3⟩ := x
  dsimp only at x1 x2 x3 d
  subst x1 x2 x3 d
  rfl
theorem tailTx_tab {ep : Nat} {es : Array (Int × Value)} {t : SetTable} {b : Bool} (r : Ris t.place.toList) : Ris (tailTx ep es t b).2.2.place.toList ∧ (tailTx ep es t b).2.2.led = t.led := by
  unfold tailTx
  split
  · exact ⟨relayAll_ris _ _ _, relayAll_led _ _ _⟩
  · exact ⟨r, rfl⟩
theorem addTx_tab {h : Int} {v : Value} {D : SD} (r : Ris D.2.2.place.toList) : Ris (addTx h v D).2.2.place.toList ∧ (addTx h v D).2.2.led = D.2.2.led := by
  have r1 := layNew_ris D.2.2 D.1 h v r
  have l1 := layNew_led D.2.2 D.1 h v
  unfold addTx
  split
  · have q := tailTx_tab (ep := D.2.1) (es := (layNew D.2.2 D.1 h v).1) (t := { (layNew D.2.2 D.1 h v).2.1 with plain := false }) (b := (layNew D.2.2 D.1 h v).2.2.1) r1
    exact ⟨q.1, q.2.trans l1⟩
  · have q := tailTx_tab (ep := D.2.1) (es := (layNew D.2.2 D.1 h v).1) (t := (layNew D.2.2 D.1 h v).2.1) (b := (layNew D.2.2 D.1 h v).2.2.1) r1
    exact ⟨q.1, q.2.trans l1⟩
def ins {α : Type} [DecidableEq α] (k : α) (l : List α) : List α := if k ∈ l then l else k :: l
theorem ins_len {α : Type} [DecidableEq α] (k : α) (l : List α) : (ins k l).length ≤ l.length + 1 := by
  unfold ins
  split <;> simp
theorem mem_insK {α : Type} [DecidableEq α] {k x : α} {l : List α} : x ∈ ins k l ↔ x = k ∨ x ∈ l := by
  unfold ins
  split
  · rename_i h
    exact ⟨.inr, fun z => z.elim (fun e => e ▸ h) id⟩
  · exact List.mem_cons
theorem ins_nodup {α : Type} [DecidableEq α] {k : α} {l : List α} (h : l.Nodup) : (ins k l).Nodup := by
  unfold ins
  split
  · exact h
  · rename_i n
    exact List.nodup_cons.mpr ⟨n, h⟩
theorem TSet.keep {h h' : Heap} (R : TSet P w h a l) (k : ∀ o, h.get? a = some o → h'.get? a = some o) : TSet P w h' a l := by
  obtain ⟨o, es, ep, t, ho, r⟩ := R
  exact ⟨o, es, ep, t, k o ho, r⟩
theorem TSet.fresh {h : Heap} (ho : h.get? a = some { cls := .type "set", dict := none, data := .set #[] 0 (.fresh 0 0 (!w.params.followText "set-order")) }) : TSet P w h a [] :=
  ⟨_, _, _, _, ho, ⟨rfl, rfl, rfl⟩, rfl, TxOk.nil rfl, List.nodup_nil, List.Pairwise.nil, by
    show w.params.followText "set-order" = true ∨ (!w.params.followText "set-order") = true
    cases w.params.followText "set-order" <;> simp⟩
/-- a text is added -/
theorem tset_add {k : Str} {u : Tok} {Q : Bool → Shared → Prop} (R : TSet P w s.heap a l) (room : l.length + 1 < scanBound)
    (hQ : ∀ b h' tk, s.toks ≤ tk → Heap.SameBut a s.heap h' → TSet P w h' a (ins k l) → Q b { s with heap := h', toks := tk }) : wpAny (model P w) A (setAdd a (.str k u)) Q E s := by
  obtain ⟨o, es, ep, t, ho, hx, hd, F, nd, hr, hl⟩ := R
  unfold setAdd
  refine wpAny_holding (wpAny_bind ((strKind P w).pyHash (is_str k u) ?_))
  by_cases hk : k ∈ l
  · -- it stands
    have hi : ins k l = l := if_pos hk
    have hsz : es.size = l.length := F.sz
    have hb : es.size < scanBound := by omega
    have hf : t.fits es.size = true := F.fit
    have hel : ElemsOf (strKind P w) es.toList := F.el
    obtain ⟨e, he, hke⟩ := (F.mem k).mp hk
    unfold setAddHashed setAddHashedIn
    refine wpAny_holding (wpAny_bind (wpAny_setState_of (s := { s with toks := s.toks + 1 }) ho hd hf ?_))
    dsimp only
    rw [byScan_of rfl hb hel]
    simp only [↓reduceIte]
    unfold setAddByScan
    refine wpAny_bind (wpAny_bind (wpAny_rule (wpAny_bind ?_)))
    refine wpAny_setScan_of (s := { s with toks := s.toks + 1 }) (knd := strKind P w) (k := k) (is_str k u) ho hd hf hel ?_
    cases q : List.findIdx? (fun e => (strKind P w).is k e.2) es.toList with
    | none =>
      have c := List.findIdx?_eq_none_iff.mp q e he
      rw [hke] at c
      cases c
    | some j =>
      dsimp only
      refine wpAny_pure (wpAny_pure (hQ false s.heap (s.toks + 1) (Nat.le_succ _) (Heap.SameBut.refl a s.heap) ?_))
      rw [hi]
      exact ⟨o, es, ep, t, ho, hx, hd, F, nd, hr, hl⟩
  · have hi : ins k l = k :: l := if_neg hk
    have eo := set_obj (D := (es, ep, t)) hx hd
    subst eo
    refine add_x (s := { s with toks := s.toks + 1 }) ho F hk room ?_
    refine hQ true _ (s.toks + 1) (Nat.le_succ _) (Heap.SameBut.update ..) ?_
    rw [hi]
    have q := addTx_tab (h := hashStr w k) (v := .str k u) (D := (es, ep, t)) hr
    exact ⟨_, _, _, _, get_upd _ ho rfl, ⟨rfl, rfl, rfl⟩, rfl, add_ok u F, List.nodup_cons.mpr ⟨hk, nd⟩, q.1, hl.imp id fun z => q.2.trans z⟩
end
end SX
set_option Elab.async false
set_option linter.all false
set_option maxRecDepth 100000
set_option maxHeartbeats 2000000
/-! PD23: sets of tuples of texts: adding one, at the heap's level. -/
namespace SX
open PySem PySem.Spec PyProof.Rows L2

abbrev TupS (P : Program) (w : World) (h : Heap) (ws : List Str) (b : Addr) : Prop := IsTupleKey (strKind P w) h ws b
abbrev hT (P : Program) (w : World) (ws : List Str) : Int := tupleKeyHash (strKind P w) ws
abbrev PL : Type := List (Addr × List Str)
section
variable {P : Program} {w : World} {A : Around} {E : Value → Shared → Prop} {s : Shared}
/-- every item of such a tuple is a text -/
theorem texts_of {ws : List Str} {us : List Value} (q : ItemsAre (strKind P w) ws us) : ∀ u ∈ us, ∃ z tk, u = Value.str z tk := by
  induction q with
  | nil => exact fun u hu => nomatch hu
  | cons i _ ih =>
    intro u hu
    cases hu with
    | head => exact ⟨_, Value.isStrOf_shape i⟩
    | tail _ m => exact ih u m
theorem clsOf_str (n : Nat) (z : Str) (tk : Tok) : ofAClassStatement n (.str z tk) = pure false := by cases n <;> rfl
theorem byVal_str (n : Nat) (z : Str) (tk : Tok) : hashByValue n (.str z tk) = pure false := by cases n <;> rfl
theorem clsOf_tup {ws : List Str} {b : Addr} {Q : Bool → Shared → Prop} (q : TupS P w s.heap ws b) (k : Q false s) :
    wpAny (model P w) A (ofAClassStatement 8 (.ref b)) Q E s := by
  have ty := q.typeIs
  obtain ⟨ob, its, n, h1, _, h2, h3⟩ := q
  unfold ofAClassStatement
  refine wpAny_bind (wpAny_typeOf ty ?_)
  dsimp only
  have e0 : (("tuple" : String) == "tuple") = true := by decide
  simp only [e0, if_true, Bool.not_true, Bool.false_eq_true, if_false]
  try refine wpAny_bind (wpAny_pure ?_)
  try simp only [Bool.not_true, Bool.false_eq_true, if_false]
  show wpAny _ _ (bind (seqItems? (.ref b)) _) _ _ s
  refine wpAny_bind (wpAny_seqItems h1 h2 ?_)
  dsimp only
  refine wpAny_bind (show wpAny _ _ (forIn its _ _) _ _ s from ?_)
  rw [← Array.forIn_toList]
  refine wpAny_forIn_list _ (fun l r s1 => r.1 = none ∧ s1 = s ∧ ∀ u ∈ l, ∃ z tk, u = Value.str z tk) _ ?_ ?_ _ _ ⟨rfl, rfl, texts_of h3⟩
  · rintro u l r s1 ⟨_, rfl, al⟩
    obtain ⟨z, tk, rfl⟩ := al u List.mem_cons_self
    rw [clsOf_str]
    refine wpAny_bind (wpAny_pure ?_)
    rw [if_neg (show ¬ false = true by decide)]
    exact wpAny_pure ⟨rfl, rfl, fun x hx => al x (List.mem_cons_of_mem _ hx)⟩
  · rintro ⟨r, r'⟩ s1 ⟨e, rfl, _⟩
    obtain rfl : r = none := e
    exact wpAny_pure k
theorem byVal_tup {ws : List Str} {b : Addr} {Q : Bool → Shared → Prop} (q : TupS P w s.heap ws b) (k : ∀ v, Q v s) :
    wpAny (model P w) A (hashByValue 8 (.ref b)) Q E s := by
  have ty := q.typeIs
  obtain ⟨ob, its, n, h1, _, h2, h3⟩ := q
  unfold hashByValue
  refine wpAny_bind (wpAny_specialOf ty F.slot_tuple_hash.lookup ?_)
  show wpAny _ _ (bind (seqItems? (.ref b)) _) _ _ s
  refine wpAny_bind (wpAny_seqItems h1 h2 ?_)
  refine wpAny_bind (show wpAny _ _ (forIn its _ _) _ _ s from ?_)
  rw [← Array.forIn_toList]
  refine wpAny_forIn_list _ (fun l r s1 => r.1 = none ∧ s1 = s ∧ ∀ u ∈ l, ∃ z tk, u = Value.str z tk) _ ?_ ?_ _ _ ⟨rfl, rfl, texts_of h3⟩
  · rintro u l r s1 ⟨_, rfl, al⟩
    obtain ⟨z, tk, rfl⟩ := al u List.mem_cons_self
    rw [byVal_str]
    refine wpAny_bind (wpAny_pure ?_)
    rw [if_pos (show (!false) = true by decide)]
    exact wpAny_pure (wpAny_pure (k false))
  · rintro ⟨r, r'⟩ s1 ⟨e, rfl, _⟩
    obtain rfl : r = none := e
    exact wpAny_pure (k true)
/-- nobody sees a search among them -/
theorem unseen {ws : List Str} {b : Addr} {Q : Bool → Shared → Prop} (q : TupS P w s.heap ws b) {ys : List Value}
    (hy : ∀ y ∈ ys, ∃ zs c, y = Value.ref c ∧ TupS P w s.heap zs c) (k : Q false s) : wpAny (model P w) A (searchCouldBeSeen (.ref b) ys) Q E s := by
  unfold searchCouldBeSeen
  refine wpAny_bind (wpAny_forIn_list _ (fun l r s1 => r.1 = none ∧ s1 = s ∧ ∀ y ∈ l, ∃ zs c, y = Value.ref c ∧ TupS P w s.heap zs c) _ ?_ ?_ _ _ ⟨rfl, rfl, hy⟩)
  · rintro u l r s1 ⟨_, rfl, al⟩
    obtain ⟨zs, c, rfl, hc⟩ := al u List.mem_cons_self
    have al' : ∀ y ∈ l, ∃ zs c, y = Value.ref c ∧ TupS P w s1.heap zs c := fun x hx => al x (List.mem_cons_of_mem _ hx)
    dsimp only
    split
    · exact wpAny_pure ⟨rfl, rfl, al'⟩
    · refine wpAny_bind (wpAny_eqIsQuiet_tuple q ?_)
      rw [if_neg (show ¬ (!true) = true by decide)]
      refine wpAny_bind (wpAny_eqIsQuiet_tuple hc ?_)
      rw [if_neg (show ¬ (!true) = true by decide)]
      refine wpAny_bind (clsOf_tup q ?_)
      rw [if_neg (show ¬ false = true by decide)]
      refine wpAny_bind (clsOf_tup hc ?_)
      rw [if_neg (show ¬ false = true by decide)]
      exact wpAny_pure ⟨rfl, rfl, al'⟩
  · rintro ⟨r, r'⟩ s1 ⟨e, rfl, _⟩
    obtain rfl : r = none := e
    exact wpAny_pure k

/-! ### the set -/
def rowsP (P : Program) (w : World) (L : PL) : List (Int × Value) := L.map fun q => (hT P w q.2, Value.ref q.1)
def hashes (P : Program) (w : World) (L : PL) : List Int := L.map fun q => hT P w q.2
structure PSet (P : Program) (w : World) (h : Heap) (a : Addr) (L : PL) (es : Array (Int × Value)) (ep : Nat) (t : SetTable) : Prop where
  ob : ∃ o, h.get? a = some o ∧ o.ExactSet ∧ o.data = .set es ep t
  rw : es.toList = rowsP P w L
  tb : TabOk t (hashes P w L)
  nd : (L.map (·.2)).Nodup
  tu : ∀ q ∈ L, TupS P w h q.2 q.1
  ld : w.params.followText "set-order" = true ∨ t.led = true
  rm : L.length * 5 < t.mask * 3
  few : L.length < 64
variable {a : Addr} {L : PL} {es : Array (Int × Value)} {ep : Nat} {t : SetTable}
theorem rows_len (e : es.toList = rowsP P w L) : es.size = L.length := by
  rw [← Array.length_toList, e]
  exact List.length_map _
theorem PSet.sz {h : Heap} (R : PSet P w h a L es ep t) : es.size = L.length := rows_len R.rw
theorem PSet.psz {h : Heap} (R : PSet P w h a L es ep t) : t.place.size = L.length := R.tb.sz.trans (List.length_map _)
theorem fits_of (h1 : t.place.size = es.size) (h2 : t.dummies = #[]) (h3 : es.size ≤ t.mask) : t.fits es.size = true := by
  unfold SetTable.fits SetTable.fill
  rw [h2, h1]
  simp only [beq_self_eq_true, Bool.true_and, decide_eq_true_eq]
  simpa using h3
theorem PSet.fit {h : Heap} (R : PSet P w h a L es ep t) : t.fits es.size = true := by
  have h1 := R.sz
  have h2 := R.psz
  have h3 := R.rm
  exact fits_of (h2.trans h1.symm) R.tb.dm (by omega)
theorem row_at (e : es.toList = rowsP P w L) {i : Nat} {q : Addr × List Str} (hq : L[i]? = some q) : es[i]? = some (hT P w q.2, Value.ref q.1) := by
  rw [← Array.getElem?_toList, e]
  show (L.map _)[i]? = _
  rw [List.getElem?_map, hq]
  rfl
theorem clean (p : SetTable.Probe) (m : Nat) (hp : p.dummy = none) : ∀ n, (nth m p n).dummy = none := by
  intro n
  induction n generalizing p with
  | zero => exact hp
  | succ n ih =>
    refine ih (adv m p) ?_
    unfold adv
    split <;> exact hp
/-- the steps of the way of a hash -/
abbrev step (m : Nat) (g : Int) (c : Nat) : SetTable.Probe := nth m (runAt m (SetTable.bits g % (m + 1)) (SetTable.bits g)) c
theorem step_add (m : Nat) (g : Int) (c q : Nat) : nth m (step m g c) q = step m g (c + q) := (nth_add m c _ q).symm
/-- the search from the c-th step on -/
theorem seek (R : PSet P w s.heap a L es ep t) {x : Addr} {ws : List Str} (hx : TupS P w s.heap ws x) (hu : A.units < cLine) {K : Nat} (hf : K < 10 * SetTable.turns t.mask)
    (hK : way t.mask (hT P w ws) K ∉ t.place.toList) (hb : ∀ c, c < K → way t.mask (hT P w ws) c ∈ t.place.toList) {Q : SetFound → Shared → Prop}
    (q1 : ws ∈ L.map (·.2) → Q (.there none) s) (q2 : ws ∉ L.map (·.2) → Q (.free (way t.mask (hT P w ws) K) false) s) :
    ∀ (f c : Nat) (sd : Option SetTable.Probe), sd.getD (t.probeStart (hT P w ws)) = step t.mask (hT P w ws) c → c ≤ K → K - c < f →
      (∀ (i : Nat) q, L[i]? = some q → q.2 = ws → ∃ d, c ≤ d ∧ d < K ∧ t.place.toList[i]? = some (way t.mask (hT P w ws) d)) →
      wpAny (model P w) A (setSearchFrom a (.ref x) (hT P w ws) true f sd) Q E s
  | 0, _, _, _, _, z, _ => absurd z (Nat.not_lt_zero _)
  | f + 1, c, sd, hs, hc, hfc, ahead => by
    obtain ⟨ob, h1, _, h2⟩ := R.ob
    rw [setSearchFrom_succ]
    refine wpAny_bind (wpAny_setState_of h1 h2 R.fit ?_)
    dsimp only
    have gave : ¬ t.gaveWay = true := by
      unfold SetTable.gaveWay
      rw [mask_odd R.tb.mok]
      decide
    refine wp_if_neg gave ?_
    try refine wpAny_bind (wpAny_pure ?_)
    have jj : ∀ q, (nth t.mask (step t.mask (hT P w ws) c) q).j = way t.mask (hT P w ws) (c + q) := fun q => congrArg SetTable.Probe.j (step_add ..)
    have stored : ∀ (i : Nat) q, L[i]? = some q → (es[i]?.map (·.1)).getD 0 = hT P w q.2 := fun i q hq => by rw [row_at R.rw hq]; rfl
    have cK : c + (K - c) = K := by omega
    have sp := go_spec t R.tb.ris R.tb.dm (fun i => (es[i]?.map (·.1)).getD 0) (hT P w ws) (10 * SetTable.turns t.mask) (K - c) (step t.mask (hT P w ws) c) (clean _ _ rfl c) (by omega)
      (fun q hq => by rw [jj]; exact hb _ (by omega)) (by rw [jj, cK]; exact hK)
    rcases sp with ⟨q, i, hq, hi, _, no, pr⟩ | ⟨no, pr⟩
    · have pr' : t.probe (fun i => (es[i]?.map (·.1)).getD 0) (hT P w ws) (sd.getD (t.probeStart (hT P w ws))) = some (.candidate (way t.mask (hT P w ws) (c + q)) i (step t.mask (hT P w ws) (c + (q + 1)))) := by
        rw [hs, ← jj, ← step_add]
        exact pr
      rw [pr']
      dsimp only
      rw [jj] at hi
      have il : i < L.length := by
        have z := (List.getElem?_eq_some_iff.mp hi).1
        rw [Array.length_toList, R.psz] at z
        exact z
      obtain ⟨y, hy⟩ : ∃ y, L[i]? = some y := ⟨_, List.getElem?_eq_getElem il⟩
      have my := List.mem_of_getElem? hy
      have onward : wpAny (model P w) A (searchRest a (.ref x) (hT P w ws) true f es t (way t.mask (hT P w ws) (c + q)) i (step t.mask (hT P w ws) (c + (q + 1)))) Q E s := by
        unfold searchRest
        rw [row_at R.rw hy]
        dsimp only
        refine wpAny_bind (wpAny_holding (wpAny_eqBool_tuple hu (R.tu y my) hx ?_))
        refine wpAny_bind (wpAny_setState_of h1 h2 R.fit ?_)
        dsimp only
        by_cases same : y.2 = ws
        · refine wp_if_pos (by simp [same]) (wpAny_pure (q1 (List.mem_map.mpr ⟨y, my, same⟩)))
        · refine wp_if_neg (by simp [same]) ?_
          try refine wpAny_bind (wpAny_pure ?_)
          rw [sameMem]
          dsimp only
          have live : t.slot (way t.mask (hT P w ws) (c + q)) = .live i := slot_live R.tb.ris hi
          simp only [if_true, live, row_at R.rw hy]
          refine wpAny_bind (wpAny_isSame_ref_self (wpAny_bind (wpAny_pure ?_)))
          rw [if_pos rfl]
          refine wp_if_neg (by simp [same]) ?_
          refine seek R hx hu hf hK hb q1 q2 f (c + (q + 1)) _ rfl (by omega) (by omega) fun j z hz ez => ?_
          obtain ⟨d, d1, d2, d3⟩ := ahead j z hz ez
          have past : ¬ d < c + q := fun lt => by
            refine no (d - c) j (by omega) (by rw [jj, show c + (d - c) = d by omega]; exact d3) ?_
            exact (stored j z hz).trans (congrArg (hT P w) ez)
          have other : d ≠ c + q := fun e => by
            rw [e] at d3
            have l2 := slot_live R.tb.ris d3
            rw [live] at l2
            injection l2 with l2
            rw [← l2, hy] at hz
            exact same ((congrArg Prod.snd (Option.some.inj hz)).trans ez)
          exact ⟨d, by omega, d2, d3⟩
      by_cases hl : t.led = true
      · refine wp_if_neg (by simp [hl]) ?_
        try refine wpAny_bind (wpAny_pure ?_)
        exact onward
      · refine wp_if_pos (by simp [hl]) (wpAny_bind (unseen hx (fun u hu' => ?_) ?_))
        · obtain ⟨e, he, rfl⟩ := List.mem_map.mp hu'
          have he1 : e ∈ es := (Array.mem_filter.mp (Array.mem_toList_iff.mp he)).1
          have he2 : e ∈ rowsP P w L := R.rw ▸ Array.mem_toList_iff.mpr he1
          obtain ⟨z, hz, rfl⟩ := List.mem_map.mp he2
          exact ⟨z.2, z.1, rfl, R.tu z hz⟩
        · refine wp_if_neg (by decide) ?_
          try refine wpAny_bind (wpAny_pure ?_)
          exact onward
    · have pr' : t.probe (fun i => (es[i]?.map (·.1)).getD 0) (hT P w ws) (sd.getD (t.probeStart (hT P w ws))) = some (.empty (way t.mask (hT P w ws) K) none) := by
        have e2 : way t.mask (hT P w ws) K = (nth t.mask (step t.mask (hT P w ws) c) (K - c)).j := by rw [jj, cK]
        rw [hs, e2]
        exact pr
      rw [pr']
      dsimp only
      refine wpAny_pure (q2 fun m => ?_)
      obtain ⟨z, mz, ez⟩ := List.mem_map.mp m
      obtain ⟨j, hj, e⟩ := List.getElem_of_mem mz
      have hz : L[j]? = some z := by rw [List.getElem?_eq_getElem hj, e]
      obtain ⟨d, d1, d2, d3⟩ := ahead j z hz ez
      refine no (d - c) j (by omega) (by rw [jj, show c + (d - c) = d by omega]; exact d3) ?_
      exact (stored j z hz).trans (congrArg (hT P w) ez)
theorem turns_few (h : MaskOk t.mask) : 10 * SetTable.turns t.mask < 100000 := by
  unfold SetTable.turns
  rcases h with e | e | e <;> omega
theorem seek_add (R : PSet P w s.heap a L es ep t) {x : Addr} {ws : List Str} (hx : TupS P w s.heap ws x) (hu : A.units < cLine) {Q : SetFound → Shared → Prop}
    (q1 : ws ∈ L.map (·.2) → Q (.there none) s)
    (q2 : ∀ K, ws ∉ L.map (·.2) → way t.mask (hT P w ws) K ∉ t.place.toList → (∀ c, c < K → way t.mask (hT P w ws) c ∈ t.place.toList) → Q (.free (way t.mask (hT P w ws) K) false) s) :
    wpAny (model P w) A (setSearch a (.ref x) (hT P w ws) true) Q E s := by
  have rm := R.rm
  obtain ⟨K, hf, hK, hb⟩ := R.tb.first (by unfold hashes; rw [List.length_map]; omega) (hT P w ws)
  have tf := turns_few R.tb.mok
  unfold setSearch
  refine seek R hx hu hf hK hb q1 (fun n => q2 K n hK hb) 100000 0 none rfl (Nat.zero_le _) (by omega) fun i q hq e => ?_
  have hi : (hashes P w L)[i]? = some (hT P w ws) := by
    unfold hashes
    rw [List.getElem?_map, hq, ← e]
    rfl
  have il : i < t.place.toList.length := by
    rw [Array.length_toList, R.psz]
    exact (List.getElem?_eq_some_iff.mp hq).1
  have hj := List.getElem?_eq_getElem il
  obtain ⟨d, hd, ed⟩ := R.tb.before hK hi hj
  exact ⟨d, Nat.zero_le _, hd, by rw [hj, ed]⟩
/-! ### laying it anew -/
theorem tup_same {h h' : Heap} {ws : List Str} {b : Addr} {o : Obj} (q : TupS P w h ws b) (ho : h.get? a = some o) (hd : o.data = .set es ep t) (sb : Heap.SameBut a h h') : TupS P w h' ws b := by
  obtain ⟨ob, its, n, h1, h2, h3, h4⟩ := q
  have ne : b ≠ a := fun e => by
    subst e
    have e2 : ob = o := Option.some.inj (h1.symm.trans ho)
    rw [e2, hd] at h3
    cases h3
  exact ⟨ob, its, n, (sb.2 b ne).trans h1, h2, h3, h4⟩
theorem tab_flag {g : List Int} {b : Bool} (T : TabOk t g) : TabOk { t with plain := b } g := ⟨T.ris, T.dm, T.sz, T.mok, T.bd, T.reach⟩
theorem put_any {α : Type} (M : List α) (p : Nat) (x : α) : (M.take p ++ x :: M.drop p).Perm (x :: M) := by
  have e : (M.take p ++ x :: M.drop p).Perm (x :: (M.take p ++ M.drop p)) := List.perm_middle
  rwa [List.take_append_drop] at e
/-- the rows in another order -/
theorem rows_order (e : es.toList = rowsP P w L) {order : Array Nat} (pm : order.toList.Perm (List.range L.length)) :
    ∃ L2 : PL, (order.filterMap (es[·]?)).toList = rowsP P w L2 ∧ L2.Perm L ∧ hashes P w L2 = order.toList.map fun i => (es.map (·.1)).getD i 0 := by
  have sz := rows_len e
  have go : ∀ l : List Nat, (∀ i ∈ l, i < L.length) → ∃ L2 : PL, l.filterMap (fun i => es[i]?) = rowsP P w L2 ∧ L2 = l.filterMap (fun i => L[i]?) ∧ hashes P w L2 = l.map fun i => (es.map (·.1)).getD i 0 := by
    intro l
    induction l with
    | nil => exact fun _ => ⟨[], rfl, rfl, rfl⟩
    | cons i l ih =>
      intro al
      have hi := al i List.mem_cons_self
      obtain ⟨y, hy⟩ : ∃ y, L[i]? = some y := ⟨_, List.getElem?_eq_getElem hi⟩
      have he := row_at e hy
      obtain ⟨L2, e1, e2, e3⟩ := ih fun j hj => al j (List.mem_cons_of_mem _ hj)
      refine ⟨y :: L2, ?_, ?_, ?_⟩
      · rw [List.filterMap_cons_some he, e1]; rfl
      · rw [List.filterMap_cons_some hy, ← e2]
      · show hT P w y.2 :: hashes P w L2 = _
        rw [List.map_cons, e3]
        have e5 : (es.map (·.1))[i]? = some (hT P w y.2) := by rw [Array.getElem?_map, he]; rfl
        rw [Array.getD_eq_getD_getElem?, e5]
        rfl
  obtain ⟨L2, e1, e2, e3⟩ := go order.toList fun i hi => List.mem_range.mp (pm.mem_iff.mp hi)
  refine ⟨L2, by rw [Array.toList_filterMap]; exact e1, ?_, e3⟩
  have p1 : L2.Perm ((List.range L.length).filterMap fun i => L[i]?) := by rw [e2]; exact pm.filterMap _
  rwa [List.filterMap_getElem?_range_length] at p1
theorem relay_ok {o : Obj} (h1 : s.heap.get? a = some o) (hx : o.ExactSet) (h2 : o.data = .set es ep t) (hr : es.toList = rowsP P w L) (hs : t.place.size = es.size) (hm : t.dummies = #[]) (hl : es.size ≤ t.mask)
    (nd : (L.map (·.2)).Nodup) (tu : ∀ q ∈ L, TupS P w s.heap q.2 q.1) (ld : w.params.followText "set-order" = true ∨ t.led = true) (few : L.length < 64) {n M : Nat}
    (hn : SetTable.sizeAbove n - 1 = M) (hM : MaskOk M) (hn2 : SetTable.sizeAbove n ≤ 128) (hn3 : L.length * 5 < M * 3) {Q : Unit → Shared → Prop}
    (k : ∀ h' L' es' ep' t', Heap.SameBut a s.heap h' → PSet P w h' a L' es' ep' t' → L'.Perm L → Q () { s with heap := h' }) : wpAny (model P w) A (setRelay a n) Q E s := by
  have sz := rows_len hr
  obtain ⟨t', order, e, pm, T, em, el, _, ed⟩ := relaid_ok t (hs := es.map (·.1)) (wanted := n) hn hM (by rw [Array.size_map, sz]; omega)
  rw [Array.size_map, sz] at pm
  obtain ⟨L2, r1, r2, r3⟩ := rows_order hr pm
  rw [← r3] at T
  have sz2 : (order.filterMap (es[·]?)).size = es.size := by rw [rows_len r1, r2.length_eq, sz]
  rw [setRelay_eq]
  refine wpAny_bind (wpAny_setState_of h1 h2 (fits_of hs hm hl) ?_)
  dsimp only
  refine wp_if_neg (by rw [sizeLine_eq]; omega) ?_
  try refine wpAny_bind (wpAny_pure ?_)
  rw [e]
  dsimp only
  refine wpAny_bind (wp_if_neg (by rw [sz2]; simp) ?_)
  try refine wpAny_bind (wpAny_pure ?_)
  refine wpAny_pure ?_
  dsimp only
  refine wpAny_storeSet_of h1 h2 ?_ (by rw [sz2, sz, sizeLine_eq]; omega)
  have sb : Heap.SameBut a s.heap (s.heap.update a (Obj.putSet (order.filterMap (es[·]?)) t')) := Heap.SameBut.update ..
  refine k _ L2 _ (ep + 1) t' sb ⟨⟨_, store_at h1 h2, ⟨hx.1, hx.2.1, hx.2.2⟩, rfl⟩, r1, T, (r2.map (·.2)).nodup_iff.mpr nd, ?_, by rw [el]; exact ld, ?_, by rw [r2.length_eq]; exact few⟩ r2
  · exact fun q hq => tup_same (tu q (r2.mem_iff.mp hq)) h1 h2 sb
  · rw [r2.length_eq, em]
    exact hn3
/-- adding by hash -/
theorem pset_hash (R : PSet P w s.heap a L es ep t) {x : Addr} {ws : List Str} (hx : TupS P w s.heap ws x) (hu : A.units < cLine) (few : L.length + 1 < 64) {Q : Bool → Shared → Prop}
    (k : ∀ b h' L' es' ep' t', Heap.SameBut a s.heap h' → PSet P w h' a L' es' ep' t' → (ws ∈ L.map (·.2) → L' = L) → (ws ∉ L.map (·.2) → L'.Perm ((x, ws) :: L)) → Q b { s with heap := h' }) :
    wpAny (model P w) A (setAddHashed a (.ref x) (hT P w ws)) Q E s := by
  obtain ⟨o, h1, h3, h2⟩ := R.ob
  have sz := R.sz
  have rm := R.rm
  unfold setAddHashed
  refine wpAny_holding ?_
  rw [show (100000 : Nat) = 99999 + 1 from rfl, setAddHashedIn_succ]
  refine wpAny_bind (wpAny_setState_of h1 h2 R.fit ?_)
  dsimp only
  refine wp_if_neg (by simp [byScan, Value.scannable]) ?_
  try refine wpAny_bind (wpAny_pure ?_)
  refine wpAny_bind (seek_add R hx hu (fun m => ?_) fun K m hK hb => ?_)
  · dsimp only
    exact wpAny_pure (k false s.heap L es ep t (Heap.SameBut.refl a s.heap) R (fun _ => rfl) fun z => absurd m z)
  dsimp only
  refine wpAny_bind (wpAny_setState_of h1 h2 R.fit ?_)
  dsimp only
  obtain ⟨p1, p2, p3, p4, p5, _, _, _, p9⟩ := R.tb.put hK hb
  generalize hz : t.put (way t.mask (hT P w ws) K) = z at p1 p3 p4 p5 p9 ⊢
  obtain ⟨t1, p⟩ := z
  dsimp only at p1 p3 p4 p5 p9 ⊢
  subst p1
  generalize hp : SetTable.below t.place (way t.mask (hT P w ws) K) = p at p2 p3 ⊢
  have hin : (SetTable.insertAt es p (hT P w ws, Value.ref x)).toList = rowsP P w (L.take p ++ (x, ws) :: L.drop p) := by
    rw [SetTable.toList_insertAt, R.rw]
    unfold rowsP
    rw [List.map_append, List.map_cons, List.map_take, List.map_drop]
  have pm := put_any L p (x, ws)
  have len1 : (L.take p ++ (x, ws) :: L.drop p).length = L.length + 1 := pm.length_eq
  have hh : hashes P w (L.take p ++ (x, ws) :: L.drop p) = (hashes P w L).take p ++ hT P w ws :: (hashes P w L).drop p := by
    unfold hashes
    rw [List.map_append, List.map_cons, List.map_take, List.map_drop]
  rw [← hh] at p3
  have nd1 : ((L.take p ++ (x, ws) :: L.drop p).map (·.2)).Nodup := (pm.map (·.2)).nodup_iff.mpr (List.nodup_cons.mpr ⟨m, R.nd⟩)
  have sz1 := (rows_len hin).trans len1
  generalize SetTable.insertAt es p (hT P w ws, Value.ref x) = es1 at hin sz1 ⊢
  generalize L.take p ++ (x, ws) :: L.drop p = L1 at pm len1 p3 nd1 hin
  have rest : ∀ t2 : SetTable, TabOk t2 (hashes P w L1) → t2.mask = t.mask → t2.led = t.led → t2.fill = (hashes P w L).length + 1 →
      wpAny (model P w) A (do
        storeSet a es1 t2
        if (!false && t2.tooFull) = true then setRelay a (SetTable.grown (es.size + 1)) else pure ()
        pure true) Q E s := fun t2 T2 m2 l2 f2 => by
    refine wpAny_bind (wpAny_storeSet_of h1 h2 ?_ (by rw [sz1, sizeLine_eq]; omega))
    have sb : Heap.SameBut a s.heap (s.heap.update a (Obj.putSet es1 t2)) := Heap.SameBut.update ..
    have g1 := store_at (es' := es1) (t' := t2) h1 h2
    generalize s.heap.update a (Obj.putSet es1 t2) = h' at sb g1 ⊢
    have tu1 : ∀ q ∈ L1, TupS P w h' q.2 q.1 := fun q hq => by
      rcases List.mem_cons.mp (pm.mem_iff.mp hq) with e | hq
      · rw [e]; exact tup_same hx h1 h2 sb
      · exact tup_same (R.tu q hq) h1 h2 sb
    have ld1 : w.params.followText "set-order" = true ∨ t2.led = true := by rw [l2]; exact R.ld
    have hlen : (hashes P w L).length = L.length := List.length_map _
    have psz : t2.place.size = es1.size := by rw [T2.sz, show (hashes P w L1).length = L1.length from List.length_map _, len1, sz1]
    by_cases full : t2.tooFull = true
    · dsimp only
      refine wp_if_pos (by simp [full]) (wpAny_bind ?_)
      have big : (L.length + 1) * 5 ≥ t2.mask * 3 := by
        have z := full
        unfold SetTable.tooFull at z
        rw [decide_eq_true_eq, f2, hlen] at z
        exact z
      rw [sz]
      have two : (t.mask = 7 ∧ L.length = 4) ∨ (t.mask = 31 ∧ L.length = 18) := by
        rw [m2] at big
        rcases R.tb.mok with e | e | e <;> rw [e] at big rm
        · exact .inl ⟨e, by omega⟩
        · exact .inr ⟨e, by omega⟩
        · omega
      have go : ∀ M, SetTable.sizeAbove (SetTable.grown (L.length + 1)) - 1 = M → MaskOk M → SetTable.sizeAbove (SetTable.grown (L.length + 1)) ≤ 128 → (L.length + 1) * 5 < M * 3 →
          wpAny (model P w) A (setRelay a (SetTable.grown (L.length + 1))) (fun _ s' => wpAny (model P w) A (pure true) Q E s') E { s with heap := h' } := fun M c1 c2 c3 c4 => by
        refine relay_ok (s := { s with heap := h' }) g1 ⟨h3.1, h3.2.1, h3.2.2⟩ rfl hin psz T2.dm (by rw [sz1, m2]; omega) nd1 tu1 ld1 (by rw [len1]; exact few) c1 c2 c3 (by rw [len1]; exact c4) ?_
        exact fun h'' L2 es2 ep2 t3 sb2 R2 pm2 => wpAny_pure (k true h'' L2 es2 ep2 t3 (sb.trans sb2) R2 (fun z => absurd z m) fun _ => pm2.trans pm)
      rcases two with ⟨_, e⟩ | ⟨_, e⟩
      · exact go 31 (by rw [e, size_20]) (.inr (.inl rfl)) (by rw [e, size_20]; decide) (by omega)
      · exact go 127 (by rw [e, size_76]) (.inr (.inr rfl)) (by rw [e, size_76]; decide) (by omega)
    · dsimp only
      refine wp_if_neg (by simp [full]) (wpAny_pure ?_)
      refine k true h' L1 es1 (ep + 1) t2 sb ⟨⟨_, g1, ⟨h3.1, h3.2.1, h3.2.2⟩, rfl⟩, hin, T2, nd1, tu1, ld1, ?_, by rw [len1]; exact few⟩ (fun z => absurd z m) fun _ => pm
      have z := full
      unfold SetTable.tooFull at z
      rw [decide_eq_true_eq, f2, hlen] at z
      rw [len1]
      omega
  by_cases hpl : t1.plain = true
  · first
      | (refine wpAny_bind ?_; refine wp_if_pos hpl ?_; refine byVal_tup hx fun v => ?_)
      | refine wp_if_pos hpl (wpAny_bind (byVal_tup hx fun v => ?_))
    cases v with
    | true => exact rest t1 p3 p4 p5 p9
    | false => exact rest { t1 with plain := false } (tab_flag p3) p4 p5 p9
  · first
      | (refine wpAny_bind ?_; refine wp_if_neg hpl ?_; refine wpAny_pure ?_)
      | refine wp_if_neg hpl (wpAny_bind (wpAny_pure ?_))
    exact rest t1 p3 p4 p5 p9
end
end SX
set_option Elab.async false
set_option linter.all false
set_option maxRecDepth 100000
set_option maxHeartbeats 2000000
/-! PD24: what a set is asked for (texts, tuples of texts): set(list). -/
namespace SX
open PySem PySem.Spec PyProof.Rows L2

abbrev newSetObj (w : World) : Obj := { cls := .type "set", dict := none, data := .set #[] 0 (.fresh 0 0 (!w.params.followText "set-order")) }
abbrev Sub (h h' : Heap) : Prop := ∀ b o, h.get? b = some o → h'.get? b = some o
/-- Is h0 h a l: at a in h the set of l; what its members read off stands in h0 -/
structure SM (P : Program) (w : World) where
  K : Type
  dec : DecidableEq K
  val : Heap → K → Value → Prop
  Is : Heap → Heap → Addr → List K → Prop
  vkeep : ∀ {h h' : Heap} {k : K} {v : Value}, val h k v → Sub h h' → val h' k v
  more : ∀ {g g' h : Heap} {a : Addr} {l : List K}, Is g h a l → Sub g g' → Is g' h a l
  ikeep : ∀ {g h h' : Heap} {a : Addr} {l : List K}, Is g h a l → (∀ o, h.get? a = some o → h'.get? a = some o) → Sub g h' → Is g h' a l
  fresh : ∀ {g h : Heap} {a : Addr}, h.get? a = some (newSetObj w) → Is g h a []
  add : ∀ {A : Around} {E : Value → Shared → Prop} {s : Shared} {g : Heap} {a : Addr} {l : List K} {k : K} {v : Value} {Q : Bool → Shared → Prop}, A.units < cLine → Is g s.heap a l → val g k v → Sub g s.heap → l.length + 1 < 64 →
    (∀ b h' tk, s.toks ≤ tk → Heap.SameBut a s.heap h' → Is g h' a (ins k l) → Q b { s with heap := h', toks := tk }) → wpAny (model P w) A (setAdd a v) Q E s
  count : ∀ {g h : Heap} {a : Addr} {l : List K}, Is g h a l → ∃ o es ep t, h.get? a = some o ∧ o.ExactSet ∧ o.data = .set es ep t ∧ t.fits es.size = true ∧ es.size = l.length
def insAll {α : Type} [DecidableEq α] (ks : List α) : List α := ks.foldl (fun l k => ins k l) []
theorem insAll_next {α : Type} [DecidableEq α] {ks : List α} {i : Nat} {k : α} (h : ks[i]? = some k) : insAll (ks.take (i + 1)) = ins k (insAll (ks.take i)) := by
  unfold insAll
  rw [List.take_succ, h, List.foldl_append]
  rfl
theorem insAll_props {α : Type} [DecidableEq α] (ks : List α) : (insAll ks).Nodup ∧ (∀ x, x ∈ insAll ks ↔ x ∈ ks) ∧ (insAll ks).length ≤ ks.length := by
  have go : ∀ (ks l : List α), l.Nodup → (ks.foldl (fun l k => ins k l) l).Nodup ∧ (∀ x, x ∈ ks.foldl (fun l k => ins k l) l ↔ x ∈ l ∨ x ∈ ks) ∧ (ks.foldl (fun l k => ins k l) l).length ≤ l.length + ks.length := by
    intro ks
    induction ks with
    | nil => exact fun l n => ⟨n, fun x => by simp, Nat.le_refl _⟩
    | cons k ks ih =>
      intro l n
      obtain ⟨i1, i2, i3⟩ := ih (ins k l) (ins_nodup n)
      refine ⟨i1, fun x => (i2 x).trans ?_, ?_⟩
      · rw [mem_insK, List.mem_cons]
        constructor
        · rintro ((h | h) | h)
          · exact .inr (.inl h)
          · exact .inl h
          · exact .inr (.inr h)
        · rintro (h | h | h)
          · exact .inl (.inr h)
          · exact .inl (.inl h)
          · exact .inr h
      · have z := ins_len k l
        show (ks.foldl (fun l k => ins k l) (ins k l)).length ≤ _
        rw [List.length_cons]
        omega
  obtain ⟨g1, g2, g3⟩ := go ks [] List.nodup_nil
  refine ⟨g1, fun x => (g2 x).trans ⟨fun h => h.elim (fun z => nomatch z) id, .inr⟩, ?_⟩
  rw [List.length_nil, Nat.zero_add] at g3
  exact g3
/-- sets of texts -/
def smT (P : Program) (w : World) : SM P w where
  K := Str
  dec := inferInstance
  val h k v := ∃ tk, v = .str k tk
  Is g h a l := TSet P w h a l
  vkeep := fun q _ => q
  more := fun q _ => q
  ikeep := fun q k _ => q.keep k
  fresh := fun e => TSet.fresh e
  add := fun {A E s g a l k v Q} hu R q kp few hQ => by
    obtain ⟨tk, rfl⟩ := q
    exact tset_add R (Nat.lt_trans few (by decide)) hQ
  count := fun {g h a l} R => by
    obtain ⟨o, es, ep, t, ho, hx, hd, F, _⟩ := R
    exact ⟨o, es, ep, t, ho, hx, hd, F.fit, F.sz⟩
theorem tup_sub {P : Program} {w : World} {h h' : Heap} {ws : List Str} {b : Addr} (q : TupS P w h ws b) (kp : Sub h h') : TupS P w h' ws b := by
  obtain ⟨o, its, n, h1, r⟩ := q
  exact ⟨o, its, n, kp _ _ h1, r⟩
/-- sets of tuples of texts -/
def smP (P : Program) (w : World) : SM P w where
  K := List Str
  dec := inferInstance
  val h k v := ∃ b, v = .ref b ∧ TupS P w h k b
  Is g h a l := ∃ L es ep t, PSet P w h a L es ep t ∧ (L.map (·.2)).Perm l ∧ ∀ q ∈ L, TupS P w g q.2 q.1
  vkeep := fun {h h' k v} q kp => by
    obtain ⟨b, e, q⟩ := q
    exact ⟨b, e, tup_sub q kp⟩
  more := fun {g g' h a l} q kp => by
    obtain ⟨L, es, ep, t, R, pm, tu⟩ := q
    exact ⟨L, es, ep, t, R, pm, fun q hq => tup_sub (tu q hq) kp⟩
  ikeep := fun {g h h' a l} q ka kp => by
    obtain ⟨L, es, ep, t, R, pm, tu⟩ := q
    obtain ⟨o, ho, r⟩ := R.ob
    exact ⟨L, es, ep, t, ⟨⟨o, ka _ ho, r⟩, R.rw, R.tb, R.nd, fun q hq => tup_sub (tu q hq) kp, R.ld, R.rm, R.few⟩, pm, tu⟩
  fresh := fun {g h a} e => ⟨[], #[], 0, _, ⟨⟨_, e, ⟨rfl, rfl, rfl⟩, rfl⟩, rfl, ⟨List.Pairwise.nil, rfl, rfl, .inl rfl, fun x hx => (by cases hx), fun i g j hi => (by simp [hashes] at hi)⟩, List.nodup_nil, fun q hq => (by cases hq), by
    show w.params.followText "set-order" = true ∨ (!w.params.followText "set-order") = true
    cases w.params.followText "set-order" <;> simp, (show 0 * 5 < 7 * 3 by decide), (show 0 < 64 by decide)⟩, List.Perm.refl _, fun q hq => (by cases hq)⟩
  add := fun {A E s g a l k v Q} hu q0 qv kp few hQ => by
    obtain ⟨L, es, ep, t, R, pm, tu⟩ := q0
    obtain ⟨b, rfl, hb⟩ := qv
    have len : L.length = l.length := by have := pm.length_eq; rwa [List.length_map] at this
    have hb' := tup_sub hb kp
    unfold setAdd
    refine wpAny_holding (wpAny_bind (wpAny_pyHash_tuple hu hb' ?_))
    refine pset_hash (s := { s with toks := s.toks + (k.length + 1) }) R hb' hu (by omega) fun v h' L' es' ep' t' sb R' c1 c2 => ?_
    refine hQ v h' _ (Nat.le_add_right _ _) sb ⟨L', es', ep', t', R', ?_⟩
    by_cases m : k ∈ L.map (·.2)
    · rw [c1 m, show ins k l = l from if_pos (pm.mem_iff.mp m)]
      exact ⟨pm, tu⟩
    · rw [show ins k l = k :: l from if_neg fun z => m (pm.mem_iff.mpr z)]
      have pc := c2 m
      refine ⟨(pc.map fun q : Addr × List Str => q.2).trans (List.Perm.cons k pm), fun q hq => ?_⟩
      rcases List.mem_cons.mp (pc.mem_iff.mp hq) with e | hq
      · rw [e]; exact hb
      · exact tu q hq
  count := fun {g h a l} q => by
    obtain ⟨L, es, ep, t, R, pm, tu⟩ := q
    obtain ⟨o, ho, hx, hd⟩ := R.ob
    refine ⟨o, es, ep, t, ho, hx, hd, R.fit, ?_⟩
    rw [R.sz, ← pm.length_eq, List.length_map]
section
variable {P : Program} {w : World} {A : Around} {E : Value → Shared → Prop} {s : Shared} {M : SM P w}
/-- set.update's loop: what stood in h0 stays -/
theorem sm_update {I : Addr} {fp wr : List Addr} {G : Array GenState → Array GenState → Prop} {n : Nat} {Pv : Nat → Value → Prop} {St : Nat → Shared → Prop} {R : Result → Shared → Prop}
    (W : WalksS P w A.in1 I fp wr G n Pv St) (D : Addr) (hD : D ∉ fp) (ks : List M.K) (hn : n = ks.length) (few : ks.length < 64) (g : Heap) (hv : ∀ i v, Pv i v → ∃ k, ks[i]? = some k ∧ M.val g k v)
    (hD0 : g.get? D = none) (hw0 : ∀ b ∈ wr, g.get? b = none) (hu : A.in1.units < cLine) :
    ∀ (m i : Nat) (s : Shared), n - i = m → i ≤ n → St i s → Sub g s.heap → M.Is g s.heap D (@insAll _ M.dec (ks.take i)) →
      (∀ s', Moved (D :: wr) G s s' → M.Is g s'.heap D (@insAll _ M.dec ks) → Sub g s'.heap → R (.ok (.ret .none)) s') →
      codeAny (model P w) A (.builtin "set.update.loop" ⟨[.ref D, .ref I], []⟩) R s := by
  letI := M.dec
  have hDw : D ∉ wr := fun z => hD (W.sub _ z)
  have up : ∀ b ∈ wr, b ∈ D :: wr := fun b hb => List.mem_cons_of_mem _ hb
  have mv : ∀ {s s' : Shared}, Moved wr G s s' → Sub g s.heap → Sub g s'.heap := fun z kp b o e => z.heap b o (fun hb => by rw [hw0 b hb] at e; cases e) (kp b o e)
  intro m
  induction m with
  | zero =>
    intro i s hm hi st kp hS hR
    obtain rfl : i = n := by omega
    refine codeAny_builtin F.entry_set_update_loop ?_
    rw [Around.under_plainId F.plain_set_update_loop _]
    refine wpAny_bind (show wpAny _ A.in1 (pyNext (.ref I)) _ _ s from W.done s _ _ st fun s' z => ?_)
    have e : ks.take i = ks := by rw [hn]; exact List.take_length
    rw [e] at hS
    exact wpAny_pure (hR s' (z.mono up) (M.ikeep hS (fun o e => z.heap D o hDw e) (mv z kp)) (mv z kp))
  | succ m ih =>
    intro i s hm hi st kp hS hR
    have lt : i < n := by omega
    refine codeAny_builtin F.entry_set_update_loop ?_
    rw [Around.under_plainId F.plain_set_update_loop _]
    refine wpAny_bind (show wpAny _ A.in1 (pyNext (.ref I)) _ _ s from W.item i s _ _ lt st fun v s1 pv st1 z => ?_)
    obtain ⟨k, hk, qv⟩ := hv i v pv
    have kp1 := mv z kp
    have l1 := (insAll_props (ks.take i)).2.2
    rw [List.length_take] at l1
    show wpAny _ A.in1 (bind (holding [v] (setAdd D v)) _) _ _ s1
    refine wpAny_bind (wpAny_holding (M.add hu (M.ikeep hS (fun o e => z.heap D o hDw e) kp1) qv kp1 (by omega) fun b h' tk lt' sb is => ?_))
    have kp2 : Sub g h' := fun c o e => (sb.2 c fun q => by rw [q, hD0] at e; cases e).trans (kp1 c o e)
    refine wpAny_pure ⟨plainId_quiet F.plain_set_update_loop _, ih (i + 1) _ (by omega) lt (W.frame _ s1 _ _ st1 lt' fun c hc o e => ?_) kp2 ?_ fun s2 z2 is2 kp3 => ?_⟩
    · rw [sb.2 c fun q => hD (q ▸ hc)]; exact e
    · rw [insAll_next hk]; exact is
    · refine hR s2 (Moved.trans W.gtrans ((z.mono up).then_heap lt' fun c o hc e => ?_) z2) is2 kp3
      rw [sb.2 c fun q => hc (q ▸ List.mem_cons_self)]; exact e
theorem past_none {h : Heap} {b : Addr} (q : h.objs.size ≤ b) : h.get? b = none := by
  cases e : h.get? b with
  | none => rfl
  | some o => exact absurd (Nat.lt_of_lt_of_le (Heap.lt_size e) q) (Nat.lt_irrefl _)
set_option maxHeartbeats 3200000 in
/-- set(xs), xs a list -/
theorem call_set_sm {l : Addr} {items : Array Value} (ks : List M.K) {Q : Value → Shared → Prop} (hh : A.handled = none) (hl : s.heap.IsList l items) (hsz : items.size = ks.length)
    (hv : ∀ (i : Nat) (v : Value), items[i]? = some v → ∃ k, ks[i]? = some k ∧ M.val s.heap k v) (few : ks.length < 64) (hu : A.units + 3 < cLine)
    (h : ∀ h' tk, M.Is s.heap h' s.heap.objs.size (@insAll _ M.dec ks) → Sub s.heap h' → Q (.ref s.heap.objs.size) { s with heap := h', toks := tk }) : wpAny (model P w) A (call (.type "set") [.ref l]) Q E s := by
  letI := M.dec
  obtain ⟨c, tl, m1⟩ := F.called_set.mro
  have m2 := F.called_set.made
  have m3 := F.called_set.sub
  refine wpAny_call (codeAny_of_tree ?_)
  show wpAny _ _ (callAny (.type "set") _) _ _ _
  refine wpAny_pure ⟨Code.quiet_builtin _ (by decide +kernel), codeAny_builtin F.entry_type_call ?_⟩
  rw [Around.under_plain (weight_type_call_type "set" [.ref l] []) rfl]
  have m4 := F.called_set.notType
  have m5 := F.called_set.canCreate
  have m6 := F.typeCall_set_1 (.ref l)
  repeat (any_goals (first | assumption | wp_step))
  refine codeAny_mono (code_set_led1 (.ref l) (E := E) (Q₁ := fun v s1 => v = .ref s.heap.objs.size ∧ s1 = { s with heap := s.heap.push (newSetObj w) }) ⟨rfl, rfl⟩) fun r s1 hr => ?_
  cases r with
  | error e => exact hr
  | ok fl =>
    cases fl with
    | ret v =>
      obtain ⟨rfl, rfl⟩ := hr
      have hS : (s.heap.push (newSetObj w)).get? s.heap.objs.size = some (newSetObj w) := Heap.get?_push_size _ rfl
      have ty : Shared.TypeIs { s with heap := s.heap.push (newSetObj w) } (.ref s.heap.objs.size) "set" := ⟨_, hS, rfl⟩
      have i1 := F.called_set.init.lookup
      have i2 := F.called_set.init.bind (.ref s.heap.objs.size)
      repeat (any_goals (first | assumption | wp_step))
      refine codeAny_mono (codeAny_call_builtin (R := wants (fun r s2 => r = .none ∧ ∃ h' tk, s2 = { s with heap := h', toks := tk } ∧ M.Is s.heap h' s.heap.objs.size (insAll ks) ∧ Sub s.heap h') E) F.called_set.init.plain F.entry_set_init (check_set_init_1 ty ?_)) fun r2 s2 hr2 => ?_
      · obtain ⟨ol, g1, g2, nl, g3⟩ := hl
        obtain ⟨oc, od, oda, osl⟩ := ol
        simp only at g2 g3
        subst g2 g3
        have g4 : (s.heap.push (newSetObj w)).get? l = some { cls := .type "list", dict := od, data := .seq items nl, slots := osl } := Heap.get?_push_of_some _ g1
        have n1 := F.sub_list_set
        have n2 := F.sub_list_frozenset
        have n3 : (Value.type "list" == Value.type "dict") = false := by decide
        have li : (s.heap.push (newSetObj w)).IsList l items := ⟨_, g4, rfl, nl, rfl⟩
        unfold Builtin.«set.__init__» noKeywords Builtin.Frozenset.updateFrom
        generalize hPI : pyIter = PI
        wp_walk
        subst hPI
        refine wpAny_pyIter_list li (wpAny_bind (wpAny_runValue ?_))
        have lS : l < s.heap.objs.size := Heap.lt_size g1
        have h3 : A.in1.in1.in1.handled = none := by simp [hh]
        have lI : l ≠ (s.heap.push (newSetObj w)).objs.size := by
          rw [Heap.size_push]
          exact Nat.ne_of_lt (Nat.lt_succ_of_lt lS)
        have sf : s.heap.objs.size ∉ [(s.heap.push (newSetObj w)).objs.size, l] := by
          rw [Heap.size_push]
          intro z
          rcases List.mem_cons.mp z with z | z
          · exact Nat.ne_of_lt (Nat.lt_succ_self _) z
          · exact Nat.ne_of_gt lS (List.mem_singleton.mp z)
        refine sm_update (M := M) ((Walks.list h3 _ l lI items).toS) s.heap.objs.size sf ks hsz few s.heap hv (past_none (Nat.le_refl _)) (fun b hb => past_none (by
            rw [List.mem_singleton.mp hb, Heap.size_push]
            exact Nat.le_succ _)) hu (items.size - 0) 0 _ (by omega) (Nat.zero_le _) ⟨⟨_, Heap.get?_push_size _ rfl, rfl, rfl⟩, (li.push _)⟩ (fun b o e => Heap.get?_push_of_some _ (Heap.get?_push_of_some _ e)) ?_ ?_
        · exact M.fresh (Heap.get?_push_of_some _ hS)
        · intro s3 z is kp
          obtain ⟨h', g', d', tk', os'⟩ := s3
          have e1 : g' = s.gens := z.gens
          have e2 : d' = s.drawn := z.drawn
          have e3 : os' = s.os := z.os
          subst e1 e2 e3
          refine wpAny_pure ?_
          show wpAny _ _ (ret Value.none) _ _ _
          exact wpAny_pure ⟨rfl, h', tk', rfl, is, kp⟩
      · cases r2 with
        | error e => exact hr2
        | ok fl2 =>
          cases fl2 with
          | ret r =>
            obtain ⟨rfl, h', tk, rfl, is, kp⟩ := hr2
            repeat (any_goals (first | assumption | wp_step))
            exact h _ _ is kp
          | _ => exact hr2.elim
    | _ => exact hr.elim
end
end SX
set_option Elab.async false
set_option linter.all false
set_option maxRecDepth 100000
set_option maxHeartbeats 2000000
/-! PD25: len(set(xs)), sorted(set(xs)), sorted(xs) over plain data. -/
namespace SX
open PySem PySem.Spec PyProof.Rows L2

/-- sets of whole numbers -/
def smI (P : Program) (w : World) : SM P w where
  K := Int
  dec := inferInstance
  val h k v := ∃ tk, v = .int k tk
  Is g h a l := l.Nodup ∧ SetR w h a (fun k => decide (k ∈ l)) l.length
  vkeep := fun q _ => q
  more := fun q _ => q
  ikeep := fun q k _ => ⟨q.1, q.2.at k⟩
  fresh := fun {g h a} e => ⟨List.nodup_nil, _, _, _, _, e, ⟨rfl, rfl, rfl⟩, rfl, (fun e he => by simp at he), (by simp), (fun k => by simp), (by decide), (by rfl), rfl, List.Pairwise.nil, by
    show w.params.followText "set-order" = true ∨ (!w.params.followText "set-order") = true
    cases w.params.followText "set-order" <;> simp⟩
  add := fun {A E s g a l k v Q} hu R q kp few hQ => by
    obtain ⟨tk, rfl⟩ := q
    obtain ⟨nd, R⟩ := R
    unfold setAdd
    refine wpAny_holding (wpAny_bind ((intKind P w).pyHash (intKind_is P w k tk) ?_))
    refine setR_add_hashed (s := { s with toks := s.toks + 1 }) R (Nat.lt_trans few (by decide)) fun h' sb R' => hQ _ h' _ (Nat.le_succ _) sb ?_
    by_cases m : k ∈ l
    · have e : ins k l = l := if_pos m
      rw [e]
      rw [if_pos (decide_eq_true m)] at R'
      refine ⟨nd, R'.congr fun j => ?_⟩
      rw [Bool.eq_iff_iff]
      simp only [decide_eq_true_eq, Bool.or_eq_true]
      exact ⟨.inl, fun z => z.elim id fun e => e ▸ m⟩
    · have e : ins k l = k :: l := if_neg m
      rw [e]
      rw [if_neg (by simp [m])] at R'
      refine ⟨List.nodup_cons.mpr ⟨m, nd⟩, R'.congr fun j => ?_⟩
      rw [Bool.eq_iff_iff]
      simp only [decide_eq_true_eq, Bool.or_eq_true, List.mem_cons]
      exact Or.comm
  count := fun {g h a l} R => by
    obtain ⟨_, o, es, ep, t, ho, hx, hd, _, _, _, _, hf, hn, _⟩ := R
    exact ⟨o, es, ep, t, ho, hx, hd, hf, hn⟩
/-- what the layer says of the values of keys -/
structure SR (P : Program) (w : World) (M : SM P w) where
  rel : PySem.W.Frag → Hp → M.K → V → Prop
  dat : M.K → PyData
  ok : ∀ {X : Cx} {pins : List (Addr × Obj)} {σ : L2.St} {H : Hp} {s : Shared} {k : M.K} {v : V} {u : Value}, X.prog = P → X.w = w → Inv X pins σ H s → rel X.K H k v → RelV v u → M.val s.heap k u
  of : ∀ {K : PySem.W.Frag} {I H : Hp} {k : M.K} {v : V}, Same I H → PD.Da K I v (dat k) → rel K H k v
def srT (P : Program) (w : World) : SR P w (smT P w) where
  rel _ _ k v := v = .str k
  dat k := .str k
  ok := fun _ _ _ e r => by
    subst e
    exact r
  of := fun _ d => by
    cases d
    rfl
def srI (P : Program) (w : World) : SR P w (smI P w) where
  rel _ _ k v := v = .int k
  dat k := .int k
  ok := fun _ _ _ e r => by
    subst e
    exact r
  of := fun _ d => by
    cases d
    rfl
theorem items_strs {P : Program} {w : World} : ∀ {ws : List Str} {us : List Value}, Vals (ws.map V.str) us → ItemsAre (strKind P w) ws us
  | [], _, .nil => .nil
  | z :: ws, _, .cons r t => by
    obtain ⟨tk, rfl⟩ := r
    exact .cons (PySem.Froz.is_str z tk) (items_strs t)
theorem vals_sd {K : PySem.W.Frag} {I : Hp} : ∀ {ws : List Str} {vs : List V}, PD.DaAll K I vs (ws.map PyData.str) → vs = ws.map V.str
  | [], _, h => by cases h; rfl
  | z :: ws, _, h => by
    cases h with
    | cons a b =>
      cases a
      rw [vals_sd b]
      rfl
def srP (P : Program) (w : World) : SR P w (smP P w) where
  rel K H k v := ∃ t, v = .ref t ∧ SqT K H t (k.map V.str)
  dat k := .tuple (k.map .str)
  ok := fun {X pins σ H s k v u} eP ew I e r => by
    subst eP ew
    obtain ⟨t, rfl, q⟩ := e
    cases r
    obtain ⟨its, rv, ⟨o, ho, hc, n, hd⟩, _⟩ := I.tuple q
    exact ⟨t, rfl, o, its.toArray, n, ho, hc, hd, by simpa using items_strs rv⟩
  of := fun {K I H k v} sm d => by
    cases d with
    | tup q a =>
      rw [vals_sd a] at q
      exact ⟨_, rfl, PD.sqT_mono sm q⟩
/-- keys and values, side by side -/
inductive Rels {α : Type} (r : α → V → Prop) : List α → List V → Prop
  | nil : Rels r [] []
  | cons {k : α} {v : V} {ks : List α} {vs : List V} : r k v → Rels r ks vs → Rels r (k :: ks) (v :: vs)
theorem Rels.len {α : Type} {r : α → V → Prop} {ks : List α} {vs : List V} (h : Rels r ks vs) : ks.length = vs.length := by
  induction h with
  | nil => rfl
  | cons _ _ ih => simp [ih]
theorem rels_da {P : Program} {w : World} {M : SM P w} (S : SR P w M) {K : PySem.W.Frag} {I H : Hp} (sm : Same I H) : ∀ {ks : List M.K} {vs : List V}, PD.DaAll K I vs (ks.map S.dat) → Rels (S.rel K H) ks vs
  | [], _, h => by cases h; exact .nil
  | k :: ks, _, h => by
    cases h with
    | cons a b => exact .cons (S.of sm a) (rels_da S sm b)
theorem rels_vals {P : Program} {w : World} {M : SM P w} (S : SR P w M) {X : Cx} {pins : List (Addr × Obj)} {σ : L2.St} {H : Hp} {s : Shared} (eP : X.prog = P) (ew : X.w = w) (I : Inv X pins σ H s) :
    ∀ {ks : List M.K} {vs : List V} {us : List Value}, Rels (S.rel X.K H) ks vs → Vals vs us → ∀ (i : Nat) (v : Value), us[i]? = some v → ∃ k, ks[i]? = some k ∧ M.val s.heap k v
  | _, _, _, .nil, .nil, i, v, h => by simp at h
  | k :: ks, _, _, .cons a b, .cons r t, 0, v, h => by
    cases h
    exact ⟨k, rfl, S.ok eP ew I a r⟩
  | k :: ks, _, _, .cons a b, .cons r t, i + 1, v, h => rels_vals S eP ew I b t i v h
section
variable {X : Cx} {M : SM X.prog X.w} {S : SR X.prog X.w M}
/-- len(set(xs)) -/
def tLenSetM (K : PySem.W.Frag) (M : SM X.prog X.w) (S : SR X.prog X.w M) (ta : TE) : TE := fun σ H Q => ta σ H fun x H1 => ∃ l xs ks, x = V.ref l ∧ SqL K H1 l xs ∧ Rels (S.rel K H1) ks xs ∧ ks.length < 64 ∧ Q (.int (@insAll _ M.dec ks).length) H1
theorem pe_lenSetM {a : Expr} {ta : TE} {p p2 q pos : Pos} (hc : X.calm = true) (hu : X.A.units + 64 < cLine) (hg : Gl X "len") (hm : X.mg "len" = none) (hg2 : Gl X "set") (hm2 : X.mg "set" = none) (ha : PE X a ta)
    (na : starEach [a] X.env = (false, eval a X.env) :: starEach [] X.env := by rfl) : PE X (.Call (.Name "len" p) [.Call (.Name "set" p2) [a] [] q] [] pos) (tLenSetM X.K M S ta) := by
  letI := M.dec
  refine ⟨fun pins s σ H Q I h => ?_⟩
  refine Call_ (ld_blt I hg hm PySem.boot_len ?_)
  refine PyProof.Rows.callWith_builtin1 (PyProof.Rows.args_cons ?_ rfl) rfl rfl
  refine Call_ (ld_blt I hg2 hm2 PyProof.Rows.boot_set ?_)
  refine PyProof.Rows.callWith_type1 (PyProof.Rows.args_cons (thn (ha.run pins s σ H _ I h) fun v s1 ⟨x, H1, I1, r1, q1⟩ => PyProof.Rows.args_nil ?_) na) na rfl
  obtain ⟨l, xs, ks, rfl, hq, rl, few, q1⟩ := q1
  cases r1
  obtain ⟨its, rv, pl, _⟩ := I1.list hq
  refine call_set_sm (M := M) ks (I1.ok.hd hc) pl.isList (by rw [List.size_toArray, ← rv.length, rl.len]) (fun i v hv => rels_vals S rfl rfl I1 rl rv i v (by simpa using hv)) few (by omega) fun h' tk is kp => ?_
  refine PyProof.Rows.args_nil ?_
  obtain ⟨o, es, ep, t, ho, hx, hd, hf, hn⟩ := M.count is
  have I2 : Inv X pins σ H1 { s1 with heap := h', toks := tk } := I1.kept kp
  have le := (insAll_props ks).2.2
  exact call_len_set ho hx hd hf (by rw [hn]; omega) ⟨.int (insAll ks).length, H1, I2.tok _, ⟨_, by rw [hn]⟩, q1⟩
end
end SX
set_option Elab.async false
set_option linter.all false
set_option maxRecDepth 100000
set_option maxHeartbeats 2000000
/-! PD26: sorted(set(xs)): texts, whole numbers. -/
namespace SX
open PySem PySem.Spec PyProof.Rows L2
theorem perm_full {α : Type} [BEq α] [LawfulBEq α] : ∀ (l m : List α), l.Nodup → (∀ x ∈ l, x ∈ m) → m.length ≤ l.length → l.Perm m
  | [], m, _, _, h => by
    obtain rfl : m = [] := List.length_eq_zero_iff.mp (Nat.le_zero.mp h)
    exact .refl _
  | x :: l, m, nd, sub, h => by
    obtain ⟨nx, nd⟩ := List.nodup_cons.mp nd
    have hx := sub x List.mem_cons_self
    have pc := List.perm_cons_erase hx
    have len := pc.length_eq
    rw [List.length_cons] at len h
    refine (List.Perm.cons x (perm_full l (m.erase x) nd (fun y hy => ?_) (by omega))).trans pc.symm
    exact (List.mem_erase_of_ne fun e => nx (by rw [← e]; exact hy)).mpr (sub y (List.mem_cons_of_mem _ hy))
def keyS : Value → Str
  | .str k _ => k
  | _ => ""
section
variable {P : Program} {w : World} {A : Around} {E : Value → Shared → Prop} {s : Shared} {a : Addr} {l : List Str}
theorem strs_of_keys : ∀ {vs : List Value}, (∀ v ∈ vs, ∃ k tk, v = Value.str k tk) → StrsAre vs (vs.map keyS)
  | [], _ => .nil
  | v :: vs, h => by
    obtain ⟨k, tk, rfl⟩ := h v List.mem_cons_self
    exact .cons k tk (strs_of_keys fun u hu => h u (List.mem_cons_of_mem _ hu))
theorem tset_keys {es : Array (Int × Value)} {ep : Nat} {t : SetTable} (F : PySem.Froz.TxOk P w (es, ep, t) l) (nd : l.Nodup) : (∀ v ∈ es.toList.map (·.2), ∃ k tk, v = Value.str k tk) ∧ l.Perm ((es.toList.map (·.2)).map keyS) := by
  have hs : ∀ v ∈ es.toList.map (·.2), ∃ k tk, v = Value.str k tk := fun v hv => by
    obtain ⟨e, he, rfl⟩ := List.mem_map.mp hv
    obtain ⟨⟨k, hk, _⟩, _⟩ := F.el e he
    exact ⟨k, Value.isStrOf_shape hk⟩
  refine ⟨hs, perm_full l _ nd (fun k hk => ?_) ?_⟩
  · obtain ⟨e, he, q⟩ := (F.mem k).mp hk
    obtain ⟨tk, e2⟩ := Value.isStrOf_shape q
    exact List.mem_map.mpr ⟨e.2, List.mem_map.mpr ⟨e, he, rfl⟩, by rw [e2]; rfl⟩
  · rw [List.length_map, List.length_map, Array.length_toList]
    exact Nat.le_of_eq F.sz
/-- sorted(s), s a set of texts -/
theorem sorted_tset {Q : Value → Shared → Prop} (R : TSet P w s.heap a l) (hh : A.handled = none) (h64 : l.length < 64)
    (hQ : ∀ s' p (out : Array Value) (c : Nat) (ys : List Str), Sub s.heap s'.heap → s'.gens = s.gens → s'.os = s.os → s.heap.objs.size ≤ p →
      s'.heap.get? p = some (seqObj "list" out c) → StrsAre out.toList ys → ys.Perm l → sortedS ys = true → Q (.ref p) s') : wpAny (model P w) A (call (.builtin "sorted") [.ref a]) Q E s := by
  obtain ⟨o, es, ep, t, ho, hx, hd, F, nd, hr, hl⟩ := R
  obtain ⟨k1, k2⟩ := tset_keys F nd
  have sz : es.size = l.length := F.sz
  refine Calls.call_function_entry kind_sorted plain_sorted entry_sorted (args_sorted1 _) ?_
  unfold Builtin.«sorted»
  refine wpAny_bind (show wpAny _ _ (checkCount "sorted" 1 1 _) _ _ _ from wpAny_pure ?_)
  refine wpAny_bind (collect_set (A := A.in1) hh ⟨o, ho, hx.1, hd⟩ F.fit (by unfold scanBound; omega) hr hl fun s1 vs kp lt g1 o1 pm => ?_)
  have hS : StrsAre vs (vs.map keyS) := strs_of_keys fun v hv => k1 v (pm.mem_iff.mp hv)
  have vl : vs.length = l.length := by rw [pm.length_eq, List.length_map, Array.length_toList, sz]
  refine wpAny_bind (wpAny_newList ?_ (by rw [vl, sizeLine_eq]; omega))
  have hL : (s1.heap.push (seqObj "list" vs.toArray 0)).get? s1.heap.objs.size = some (seqObj "list" vs.toArray 0) := Heap.get?_push_size _ rfl
  refine wpAny_bind (wpAny_holding (wpAny_call_entry slot_list_sort ⟨_, hL, rfl⟩ entry_list_sort (list_sort_treeK strKind_oneLt hL hS.keysOf (fun v1 v2 r e => keyKind_strs (by rw [← e]; exact hS)) (by rw [vl]; exact h64) fun st' hp hs => ?_) (args_list_sort _)))
  obtain ⟨ys, c1, c2, c3⟩ := sorted_out_str hS hp hs
  obtain ⟨c, hc⟩ := sortedHeap_at (vs := vs) (out := (arrOf st').map (·.2)) hL
  refine ⟨_, rfl, wpAny_pure ⟨_, rfl, hQ _ s1.heap.objs.size _ c ys (fun b u e => ?_) g1 o1 lt hc c1 (c2.trans (((pm.map keyS).trans k2.symm))) c3⟩⟩
  have q := kp b u e
  have hlt := Heap.lt_size q
  show (sortedHeap (s1.heap.push (seqObj "list" vs.toArray 0)) s1.heap.objs.size vs _).get? b = some u
  rw [sortedHeap_old (Nat.ne_of_lt hlt) (by rw [Heap.size_push]; exact Nat.lt_succ_of_lt hlt)]
  exact Heap.get?_push_of_some _ q
end
section
variable {X : Cx}
/-- sorted(set(xs)), texts -/
def tSortSetT (P : Program) (w : World) (K : PySem.W.Frag) (ta : TE) : TE := fun σ H Q => ta σ H fun x H1 => ∃ l xs ks, x = V.ref l ∧ SqL K H1 l xs ∧ Rels ((srT P w).rel K H1) ks xs ∧ ks.length < 64 ∧
  ∀ (ys : List Str) (p : Addr), ys.Perm (insAll ks) → sortedS ys = true → H1 p = none → Q (.ref p) (upd H1 p (.lst (ys.map V.str)))
theorem pe_sortSetT {a : Expr} {ta : TE} {p p2 q pos : Pos} (hc : X.calm = true) (hu : X.A.units + 64 < cLine) (hg : Gl X "sorted") (hm : X.mg "sorted" = none) (hg2 : Gl X "set") (hm2 : X.mg "set" = none) (ha : PE X a ta)
    (na : starEach [a] X.env = (false, eval a X.env) :: starEach [] X.env := by rfl) : PE X (.Call (.Name "sorted" p) [.Call (.Name "set" p2) [a] [] q] [] pos) (tSortSetT X.prog X.w X.K ta) := by
  refine ⟨fun pins s σ H Q I h => ?_⟩
  refine Call_ (ld_blt I hg hm PyProof.Rows.boot_sorted ?_)
  refine PyProof.Rows.callWith_builtin1 (PyProof.Rows.args_cons ?_ rfl) rfl rfl
  refine Call_ (ld_blt I hg2 hm2 PyProof.Rows.boot_set ?_)
  refine PyProof.Rows.callWith_type1 (PyProof.Rows.args_cons (thn (ha.run pins s σ H _ I h) fun v s1 ⟨x, H1, I1, r1, q1⟩ => PyProof.Rows.args_nil ?_) na) na rfl
  obtain ⟨l, xs, (ks : List Str), rfl, hq, rl, few, q1⟩ := q1
  have fw : @List.length Str ks < 64 := few
  cases r1
  obtain ⟨its, rv, pl, _⟩ := I1.list hq
  refine call_set_sm (M := smT X.prog X.w) ks (I1.ok.hd hc) pl.isList (by rw [List.size_toArray, ← rv.length]; exact rl.len.symm) (fun i v hv => rels_vals (srT X.prog X.w) rfl rfl I1 rl rv i v (by simpa using hv)) few (by omega) fun h' tk is kp => ?_
  refine PyProof.Rows.args_nil ?_
  have le : (insAll ks).length ≤ ks.length := (insAll_props ks).2.2
  have I2 : Inv X pins σ H1 { s1 with heap := h', toks := tk } := I1.kept kp
  refine sorted_tset (s := { s1 with heap := h', toks := tk }) (l := insAll ks) is (I1.ok.hd hc) (by omega) fun s' p out c ys k1 g o hp hgp hS pm so => ?_
  have hlen : (ys.map V.str).length ≤ sizeLine := by rw [List.length_map, pm.length_eq, sizeLine_eq]; omega
  have hn : H1 p = none := I2.hok.fresh hp
  have J : Inv X pins σ (upd H1 p (.lst (ys.map V.str))) { { s1 with heap := h', toks := tk } with heap := s'.heap, gens := s'.gens, drawn := s'.drawn, toks := s'.toks } :=
    I2.call (ch := []) (Un.laid k1 hp hn) (I2.hok.laid k1 hp ⟨hlen, out.toList, c, vals_of_strs hS, hgp⟩) (by rw [g]; exact I2.bare) (fun _ z => nomatch z)
  have e : s' = { { s1 with heap := h', toks := tk } with heap := s'.heap, gens := s'.gens, drawn := s'.drawn, toks := s'.toks } := by
    cases s'
    cases o
    rfl
  rw [e]
  exact ⟨.ref p, _, J, rfl, q1 ys p pm so hn⟩
/-- sorted(set(xs)), whole numbers -/
def tSortSetI (P : Program) (w : World) (K : PySem.W.Frag) (ta : TE) : TE := fun σ H Q => ta σ H fun x H1 => ∃ l xs ks, x = V.ref l ∧ SqL K H1 l xs ∧ Rels ((srI P w).rel K H1) ks xs ∧ ks.length < 64 ∧
  ∀ (ns : List Int) (p : Addr), ns.Pairwise (· < ·) → (∀ k : Int, k ∈ ns ↔ k ∈ ks) → H1 p = none → Q (.ref p) (upd H1 p (.lst (ns.map V.int)))
theorem pe_sortSetI {a : Expr} {ta : TE} {p p2 q pos : Pos} (hc : X.calm = true) (hu : X.A.units + 64 < cLine) (hg : Gl X "sorted") (hm : X.mg "sorted" = none) (hg2 : Gl X "set") (hm2 : X.mg "set" = none) (ha : PE X a ta)
    (na : starEach [a] X.env = (false, eval a X.env) :: starEach [] X.env := by rfl) : PE X (.Call (.Name "sorted" p) [.Call (.Name "set" p2) [a] [] q] [] pos) (tSortSetI X.prog X.w X.K ta) := by
  refine ⟨fun pins s σ H Q I h => ?_⟩
  refine Call_ (ld_blt I hg hm PyProof.Rows.boot_sorted ?_)
  refine PyProof.Rows.callWith_builtin1 (PyProof.Rows.args_cons ?_ rfl) rfl rfl
  refine Call_ (ld_blt I hg2 hm2 PyProof.Rows.boot_set ?_)
  refine PyProof.Rows.callWith_type1 (PyProof.Rows.args_cons (thn (ha.run pins s σ H _ I h) fun v s1 ⟨x, H1, I1, r1, q1⟩ => PyProof.Rows.args_nil ?_) na) na rfl
  obtain ⟨l, xs, (ks : List Int), rfl, hq, rl, few, q1⟩ := q1
  have fw : @List.length Int ks < 64 := few
  cases r1
  obtain ⟨its, rv, pl, _⟩ := I1.list hq
  refine call_set_sm (M := smI X.prog X.w) ks (I1.ok.hd hc) pl.isList (by rw [List.size_toArray, ← rv.length]; exact rl.len.symm) (fun i v hv => rels_vals (srI X.prog X.w) rfl rfl I1 rl rv i v (by simpa using hv)) few (by omega) fun h' tk is kp => ?_
  refine PyProof.Rows.args_nil ?_
  have pr := insAll_props ks
  have I2 : Inv X pins σ H1 { s1 with heap := h', toks := tk } := I1.kept kp
  refine sorted_set (s := { s1 with heap := h', toks := tk }) is.2 (I1.ok.hd hc) (show (insAll ks).length < 64 from Nat.lt_of_le_of_lt pr.2.2 fw) fun s' p out c ns k1 g o hp hgp hi so hm hl => ?_
  have hlen : (ns.map V.int).length ≤ sizeLine := by
    rw [List.length_map, hl, sizeLine_eq]
    have : (insAll ks).length ≤ ks.length := pr.2.2
    show (insAll ks).length ≤ _
    omega
  have hn : H1 p = none := I2.hok.fresh hp
  have J : Inv X pins σ (upd H1 p (.lst (ns.map V.int))) { { s1 with heap := h', toks := tk } with heap := s'.heap, gens := s'.gens, drawn := s'.drawn, toks := s'.toks } :=
    I2.call (ch := []) (Un.laid k1 hp hn) (I2.hok.laid k1 hp ⟨hlen, out.toList, c, vals_of_ints hi, hgp⟩) (by rw [g]; exact I2.bare) (fun _ z => nomatch z)
  have e : s' = { { s1 with heap := h', toks := tk } with heap := s'.heap, gens := s'.gens, drawn := s'.drawn, toks := s'.toks } := by
    cases s'
    cases o
    rfl
  rw [e]
  refine ⟨.ref p, _, J, rfl, q1 ns p so (fun k => ?_) hn⟩
  have hm' : k ∈ ns ↔ decide (k ∈ (@insAll Int _ ks)) = true := hm k
  have pr' : k ∈ @insAll Int _ ks ↔ k ∈ ks := pr.2.1 k
  rw [hm', decide_eq_true_eq]
  exact pr'
end
end SX
set_option Elab.async false
set_option linter.all false
set_option maxRecDepth 100000
set_option maxHeartbeats 2000000
/-! PD27: len({e for x in xs}): sets of texts, of tuples of texts. -/
namespace SX
open PySem PySem.Spec PyProof.Rows L2

/-- a set that grows while the layer tells what its members are -/
structure SC (P : Program) (w : World) (M : SM P w) (S : SR P w M) where
  G : Type
  keys : G → List M.K
  ho : Addr → G → HO
  held : PySem.W.Frag → Hp → G → Prop
  g0 : G
  k0 : keys g0 = []
  h0 : ∀ {K : PySem.W.Frag} {H : Hp}, held K H g0
  keep : ∀ {K : PySem.W.Frag} {H H' : Hp} {g : G}, held K H g → Same H H' → held K H' g
  fresh : ∀ {H : Hp} {h : Heap} {D : Addr}, h.get? D = some (newSetObj w) → ObjOk P w H h D (ho D g0)
  count : ∀ {H : Hp} {h : Heap} {D : Addr} {g : G}, ObjOk P w H h D (ho D g) → ∃ o es ep t, h.get? D = some o ∧ o.ExactSet ∧ o.data = .set es ep t ∧ t.fits es.size = true ∧ es.size = (keys g).length
  add : ∀ {X : Cx} {A : Around} {pins : List (Addr × Obj)} {σ : L2.St} {H : Hp} {s : Shared} {D : Addr} {g : G} {k : M.K} {y : V} {u : Value} {E : Value → Shared → Prop} {Q : Bool → Shared → Prop}, X.prog = P → X.w = w → A.units < cLine → Inv X pins σ H s → H D = some (ho D g) → held X.K H g →
    S.rel X.K H k y → RelV y u → (keys g).length + 1 < 64 →
    (∀ b s' g', (keys g').Perm (@ins _ M.dec k (keys g)) → (∀ (K' : PySem.W.Frag) (H' : Hp), held K' H' g → S.rel K' H' k y → held K' H' g') → Inv X pins σ (upd H D (ho D g')) s' → Q b s') → wpAny (model X.prog X.w) A (setAdd D u) Q E s
theorem mut_ext {H : Hp} {D : Addr} {φ : Heap → Prop} (e : H D = some (.ext φ)) : (H D).isSome = true := by rw [e]; rfl
def scT (P : Program) (w : World) : SC P w (smT P w) (srT P w) where
  G := List Str
  keys g := g
  ho D g := .ext fun h => TSet P w h D g
  held _ _ _ := True
  g0 := []
  k0 := rfl
  h0 := trivial
  keep := fun _ _ => trivial
  fresh := fun e => ⟨TSet.fresh e, ⟨_, e⟩, fun _ _ p k => p.keep k⟩
  count := fun {H h D g} q => by
    obtain ⟨o, es, ep, t, ho, hx, hd, F, _⟩ := q.1
    exact ⟨o, es, ep, t, ho, hx, hd, F.fit, F.sz⟩
  add := fun {X A pins σ H s D g k y u E Q} eP ew hu I hD _ e r few hQ => by
    subst eP ew
    have R := (I.hok D _ hD).1
    cases e
    obtain ⟨tk, rfl⟩ := r
    refine tset_add R (Nat.lt_trans few (by decide)) fun b h' tk' _ sb R' => hQ b _ _ (List.Perm.refl _) (fun _ _ _ _ => trivial) ?_
    have he : ∃ o, h'.get? D = some o := by
      obtain ⟨o, _, _, _, ho, _⟩ := R'
      exact ⟨o, ho⟩
    exact I.write (e := D) (t' := tk') (by rw [hD]; trivial) (.inl rfl) (fun b u hb hu => (sb.2 b hb).trans hu) he ⟨R', he, fun _ _ p k => p.keep k⟩
/-- the table of a set of tuples, without what the tuples hold -/
def PTab (P : Program) (w : World) (h : Heap) (a : Addr) (L : PL) : Prop :=
  ∃ es ep t, (∃ o, h.get? a = some o ∧ o.ExactSet ∧ o.data = .set es ep t) ∧ es.toList = rowsP P w L ∧ TabOk t (hashes P w L) ∧ (L.map (·.2)).Nodup ∧ (w.params.followText "set-order" = true ∨ t.led = true) ∧ L.length * 5 < t.mask * 3 ∧ L.length < 64
theorem PSet.tab {P : Program} {w : World} {h : Heap} {a : Addr} {L : PL} {es : Array (Int × Value)} {ep : Nat} {t : SetTable} (R : PSet P w h a L es ep t) : PTab P w h a L := ⟨es, ep, t, R.ob, R.rw, R.tb, R.nd, R.ld, R.rm, R.few⟩
theorem PTab.full {P : Program} {w : World} {h : Heap} {a : Addr} {L : PL} (q : PTab P w h a L) (tu : ∀ q ∈ L, TupS P w h q.2 q.1) : ∃ es ep t, PSet P w h a L es ep t := by
  obtain ⟨es, ep, t, h1, h2, h3, h4, h5, h6, h7⟩ := q
  exact ⟨es, ep, t, h1, h2, h3, h4, tu, h5, h6, h7⟩
theorem PTab.keep {P : Program} {w : World} {h h' : Heap} {a : Addr} {L : PL} (q : PTab P w h a L) (k : ∀ o, h.get? a = some o → h'.get? a = some o) : PTab P w h' a L := by
  obtain ⟨es, ep, t, ⟨o, ho, r⟩, q⟩ := q
  exact ⟨es, ep, t, ⟨o, k o ho, r⟩, q⟩
theorem sqT_upd {K : PySem.W.Frag} {H : Hp} {D t : Addr} {o : HO} {φ : Heap → Prop} {xs : List V} (e : H D = some (.ext φ)) (q : SqT K H t xs) : SqT K (upd H D o) t xs := by
  by_cases ne : t = D
  · subst ne
    rcases q with (q | ⟨o', q⟩) | q
    · rw [e] at q; cases q
    · rw [e] at q; cases q
    · exact .inr q
  · rcases q with (q | ⟨o', q⟩) | q
    · exact .inl (.inl (by rw [upd_ne ne]; exact q))
    · exact .inl (.inr ⟨o', by rw [upd_ne ne]; exact q⟩)
    · exact .inr q
def scP (P : Program) (w : World) : SC P w (smP P w) (srP P w) where
  G := PL
  keys g := g.map (·.2)
  ho D g := .ext fun h => PTab P w h D g
  held K H g := ∀ q ∈ g, SqT K H q.1 (q.2.map V.str)
  g0 := []
  k0 := rfl
  h0 := fun q hq => by cases hq
  keep := fun h k q hq => PD.sqT_mono k (h q hq)
  fresh := fun {H h D} e => by
    obtain ⟨L, es, ep, t, R, pm, _⟩ := (smP P w).fresh (g := h) e
    obtain rfl : L = [] := by
      have := pm.length_eq
      rw [List.length_map] at this
      exact List.length_eq_zero_iff.mp this
    exact ⟨R.tab, ⟨_, e⟩, fun _ _ p k => p.keep k⟩
  count := fun {H h D g} q => by
    obtain ⟨es, ep, t, ⟨o, ho, hx, hd⟩, rw1, tb, _, _, rm, _⟩ := q.1
    refine ⟨o, es, ep, t, ho, hx, hd, fits_of ?_ tb.dm ?_, ?_⟩
    · rw [rows_len rw1]; exact tb.sz.trans (List.length_map _)
    · rw [rows_len rw1]; omega
    · rw [rows_len rw1]; exact (List.length_map _).symm
  add := fun {X A pins σ H s D g k y u E Q} eP ew hu I hD hh e r few hQ => by
    subst eP ew
    have qt := (I.hok D _ hD).1
    have tup : ∀ {t : Addr} {ws : List Str}, SqT X.K H t (ws.map V.str) → TupS X.prog X.w s.heap ws t := fun q => by
      obtain ⟨its, rv, ⟨o, ho, hc, n, hd⟩, _⟩ := I.tuple q
      exact ⟨o, its.toArray, n, ho, hc, hd, by simpa using items_strs rv⟩
    obtain ⟨es, ep, t, R⟩ := qt.full fun q hq => tup (hh q hq)
    obtain ⟨b, rfl, hb⟩ := e
    cases r
    have hb' := tup hb
    have few : g.length + 1 < 64 := by
      have z : (g.map fun q : Addr × List Str => q.2).length + 1 < 64 := few
      rwa [List.length_map] at z
    unfold setAdd
    refine wpAny_holding (wpAny_bind (wpAny_pyHash_tuple hu hb' ?_))
    refine pset_hash (s := { s with toks := s.toks + (k.length + 1) }) R hb' hu few fun v h' L' es' ep' t' sb R' c1 c2 => ?_
    have he : ∃ o, h'.get? D = some o := by
      obtain ⟨o, ho, _⟩ := R'.ob
      exact ⟨o, ho⟩
    have mem : ∀ (K' : PySem.W.Frag) (H' : Hp), (∀ q ∈ g, SqT K' H' q.1 (q.2.map V.str)) → (∃ t, V.ref b = V.ref t ∧ SqT K' H' t (k.map V.str)) → ∀ q ∈ L', SqT K' H' q.1 (q.2.map V.str) := fun K' H' hg hk q hq => by
      obtain ⟨t, e, hk⟩ := hk
      cases e
      by_cases m : k ∈ g.map (·.2)
      · rw [c1 m] at hq
        exact hg q hq
      · rcases List.mem_cons.mp ((c2 m).mem_iff.mp hq) with e | hq
        · rw [e]; exact hk
        · exact hg q hq
    refine hQ v _ L' ?_ mem (I.write (e := D) (t' := s.toks + (k.length + 1)) (by rw [hD]; trivial) (.inl rfl) (fun b u hb hu => (sb.2 b hb).trans hu) he ⟨R'.tab, he, fun _ _ p k => p.keep k⟩)
    show (L'.map fun q : Addr × List Str => q.2).Perm (@ins (List Str) _ k (g.map fun q => q.2))
    by_cases m : k ∈ g.map (·.2)
    · rw [c1 m, show @ins (List Str) _ k (g.map fun q => q.2) = g.map (fun q => q.2) from if_pos m]
    · rw [show @ins (List Str) _ k (g.map fun q => q.2) = k :: g.map (fun q => q.2) from if_neg m]
      exact (c2 m).map fun q : Addr × List Str => q.2
end SX
set_option Elab.async false
set_option linter.all false
set_option maxRecDepth 100000
set_option maxHeartbeats 2000000
/-! PD28: len({e for x in xs}) at the layer. -/
namespace SX
open PySem PySem.Spec PyProof.Rows L2 PpSet
section
variable {X : Cx} {M : SM X.prog X.w} {S : SR X.prog X.w M}
/-- found.add(e) as the comprehension calls it -/
theorem set_add_call {P : Program} {w : World} {A : Around} {E : Value → Shared → Prop} {s : Shared} {D : Addr} {u : Value} {Q : Value → Shared → Prop} (ty : s.TypeIs (.ref D) "set") (h : wpAny (model P w) A.in1 (setAdd D u) (fun _ s' => Q .none s') E s) :
    wpAny (model P w) A (call (.builtin "set.add") [.ref D, u]) Q E s := by
  refine wpAny_call_entry F.slot_set_add ty F.entry_set_add ?_ (F.args_set_add_2 _ _)
  unfold Builtin.«set.add» Builtin.Frozenset.oneOther
  simp only [List.isEmpty_nil, bind_assoc]
  unfold Builtin.Frozenset.addrOf
  refine wpAny_bind (wpAny_pure ?_)
  try dsimp only
  refine wpAny_bind (wpAny_pure ?_)
  try dsimp only
  refine wpAny_bind (thn h fun b s' q => ?_)
  exact wpAny_pure ⟨_, rfl, q⟩
/-- the reading: D the new set; at the end its members are counted -/
def tScLen (C : SC X.prog X.w M S) (K : PySem.W.Frag) (wi : TI) (g : TG) (tt : TT) (te : TE) (vs : List Nat) : TE := fun σ H Q => wi σ H fun J H1 => ∀ D, H1 D = none → ∃ W : Nat → Nat → Hp → Prop,
  (∃ m, W 0 m (upd H1 D (C.ho D C.g0))) ∧ ∀ i m H, W i m H →
    (J.stop i H ∧ ∃ G, H D = some (C.ho D G) ∧ Q (.int (C.keys G).length) H ∧ (C.keys G).length < 64) ∨
    (J.go i H ∧ ∃ Nx : Hp → Prop, (∀ H', Nx H' → ∃ m', m' < m ∧ W (i + 1) m' H') ∧ ∀ x H', J.yld i H x H' → g x (L2.wipe σ vs) H' fun σ2 H2 => L2.wipe σ2 vs = L2.wipe σ vs ∧ tt σ2 H2 fun b H3 =>
      if b = true then te σ2 H3 fun y H4 => ∃ G k, H4 D = some (C.ho D G) ∧ C.held K H4 G ∧ S.rel K H4 k y ∧ (C.keys G).length + 1 < 64 ∧
        ∀ G', (C.keys G').Perm (@ins _ M.dec k (C.keys G)) → (∀ (K' : PySem.W.Frag) (H' : Hp), C.held K' H' G → S.rel K' H' k y → C.held K' H' G') → Nx (upd H4 D (C.ho D G')) else Nx H3)
abbrev cells (X : Cx) (scope : Scope) (n : Nat) : List (PySem.Str × Addr) := cellsFrom (n + 1) scope.names (cloFrom X.env.cells scope.names [])
section
variable {elt tg iter : Expr} {ifs : List Expr} {scope : Scope} {own : List (PySem.Str × Nat)} {pos pos' : Pos} {wi : TI} {g : TG} {tt : TT} {te : TE}
theorem sc_len_core (C : SC X.prog X.w M S) {pins : List (Addr × Obj)} {s : Shared} {σ : L2.St} {H : Hp} {Q : VK} {Qf : Value → Shared → Prop} (hc : X.calm = true) (hu : X.A.units + 64 < cLine) (hN : X.N.Nodup) (I : Inv X pins σ H s) (hi : PI X tg iter wi) (ok : BlkOk X.N X.env.scope scope own)
    (hg : ∀ (s : Shared) (H : Hp) (C : Addr) (cl : List (PySem.Str × Addr)) (fp : List Addr), PG (X.blk s H scope (compEnvC scope cl C X.env) fp) tg g)
    (ht : ∀ (s : Shared) (H : Hp) (C : Addr) (cl : List (PySem.Str × Addr)) (fp : List Addr), PTs (X.blk s H scope (compEnvC scope cl C X.env) fp) ifs tt)
    (he : ∀ (s : Shared) (H : Hp) (C : Addr) (cl : List (PySem.Str × Addr)) (fp : List Addr), PE (X.blk s H scope (compEnvC scope cl C X.env) fp) elt te)
    (hs : ∀ x, foldedSetIterable iter X.env x = pure x) (h : tScLen C X.K wi g tt te (own.map (·.2)) σ H Q)
    (fin : ∀ D c s' m H' G, Inv X pins σ H' s' → H' D = some (C.ho D G) → Q (.int (C.keys G).length) H' → (C.keys G).length < 64 → s'.heap.Ns c m → FpOk X pins H' c → compPost (model X.prog X.w) X.A X.xe none Qf (.ref D) c (.ok .next) s') :
    wpAny (model X.prog X.w) X.A (comprehension (.SetComp elt [⟨tg, iter, ifs, 0⟩] scope pos) scope X.env pos' (newSet (.type "set")) false (eval iter X.env) none) Qf X.xe s := by
  have fr : ∀ y ∈ scope.names, y.2 = .free → ∃ c, X.env.cells.lookup y.1 = some c := fun y hy e => (ok.free y hy e).elim (fun z => I.ok.has _ (.inl z)) fun z => I.ok.has _ (.inr z)
  refine wpAny_comprehension_free (use := none) rfl hs (closure_ok fr) ok.kind (fun y hy e => by rw [ok.uniq y hy, e]) ?_
  refine thn (hi.run pins s σ H _ I h) fun v0 s1 q1 => thn q1 fun v1 s2 q2 => ?_
  obtain ⟨it, fp, tn, J, H2, e, I2, T, st2, f2, q⟩ := q2
  subst e
  refine newSet_ok (newEnv_comp ?_)
  generalize eD : s2.heap.objs.size = D
  have nD : H2 D = none := I2.hok.fresh (Nat.le_of_eq eD)
  obtain ⟨W, ⟨m0, w0⟩, turn⟩ := q D nD
  generalize e3 : ({ s2 with heap := s2.heap.push (newSetObj X.w) } : Shared) = s3
  have h3 : s3.heap = s2.heap.push (newSetObj X.w) := by rw [← e3]
  have I3 : Inv X pins σ (upd H2 D (C.ho D C.g0)) s3 := by
    rw [← e3]
    refine I2.laid (t' := s2.toks) (fun b o e => Heap.get?_push_of_some _ e) (Nat.le_of_eq eD) (C.fresh ?_)
    rw [← eD]
    exact Heap.get?_push_size _ rfl
  have old : ∀ b ∈ fp, b < s2.heap.objs.size := fun b hb => by
    obtain ⟨o, e, _⟩ := T.obj _ _ st2 b hb
    exact Heap.lt_size e
  have f3 : ∀ b ∈ fp, FpOk X pins (upd H2 D (C.ho D C.g0)) b ∧ b < s3.heap.objs.size := fun b hb => by
    have lt := old b hb
    refine ⟨⟨?_, (f2 b hb).2⟩, ?_⟩
    · rw [upd_ne (by rw [← eD]; exact Nat.ne_of_lt lt)]
      exact (f2 b hb).1
    · rw [h3, Heap.size_push]
      exact Nat.lt_succ_of_lt lt
  have st3 : tn 0 s3.heap := T.keep _ _ _ st2 fun b _ o e => h3 ▸ Heap.get?_push_of_some _ e
  have I4 := block_start I3 ok hN f3
  have pg := hg s3 (upd H2 D (C.ho D C.g0)) s3.heap.objs.size (cells X scope s3.heap.objs.size) fp
  have pt := ht s3 (upd H2 D (C.ho D C.g0)) s3.heap.objs.size (cells X scope s3.heap.objs.size) fp
  have pe := he s3 (upd H2 D (C.ho D C.g0)) s3.heap.objs.size (cells X scope s3.heap.objs.size) fp
  have nfp : ∀ b ∈ fp, (upd H2 D (C.ho D C.g0)) b = none := fun b hb => (f3 b hb).1.1
  show codeAny _ _ (.compStart (.SetComp elt [⟨tg, iter, ifs, 0⟩] scope pos) 0 (.ref it) (.ref D) (compEnvC scope (cells X scope s3.heap.objs.size) s3.heap.objs.size X.env))
    (compPost (model X.prog X.w) X.A X.xe none Qf (.ref D) s3.heap.objs.size) { s3 with heap := pushCells (s3.heap.push { cls := .type "dict", data := .dict #[] }) scope.names }
  generalize ec : compEnvC scope (cells X scope s3.heap.objs.size) s3.heap.objs.size X.env = ce at I4 pg pt pe ⊢
  have loc : ce.locals = s3.heap.objs.size := by rw [← ec]; rfl
  generalize eH : upd H2 D (C.ho D C.g0) = H3 at I3 I4 pg pt pe w0 nfp f3
  generalize e4 : ({ s3 with heap := pushCells (s3.heap.push { cls := .type "dict", data := .dict #[] }) scope.names } : Shared) = s4 at I4 ⊢
  have st4 : tn 0 s4.heap := T.keep _ _ _ st3 fun b _ o e => by
    rw [← e4]
    exact pushCells_keeps _ _ _ _ (Heap.get?_push_of_some _ e)
  have far : ∀ {σ' : L2.St} {H' : Hp} {s' : Shared}, Inv (X.blk s3 H3 scope ce fp) [] σ' H' s' → (∀ b ∈ fp, H' b = none) → ∀ b ∈ fp, FpOk (X.blk s3 H3 scope ce fp) [] H' b := fun {σ' H' s'} J' n b hb =>
    ⟨n b hb, (J'.ok.exf b hb).1, J'.ok.exfs b hb, .inl hb, fun x c e => (J'.ok.exf b hb).2 x c e, fun p hp => absurd (show p ∈ ([] : List (Addr × Obj)) ++ [] from hp) (by simp)⟩
  have run : codeAny (model X.prog X.w) X.A (.compLoop (.SetComp elt [⟨tg, iter, ifs, 0⟩] scope pos) 0 (.ref it) (.ref D) ce) (compPost (model X.prog X.w) X.A X.xe none Qf (.ref D) s3.heap.objs.size) s4 := by
    refine compLoopS_any (fun n s' => ∃ i H', Inv (X.blk s3 H3 scope ce fp) [] (L2.wipe σ (own.map (·.2))) H' s' ∧ tn i s'.heap ∧ (∀ b ∈ fp, H' b = none) ∧ W i n H') ?_ m0 ⟨0, H3, I4, st4, nfp, w0⟩
    rintro n s5 ⟨i, H5, I5, st5, n5, w5⟩
    rcases turn i n H5 w5 with ⟨stop, G, hG, qq, few⟩ | ⟨go, Nx, hNx, each⟩
    · refine thnF (T.done (X.blk s3 H3 scope ce fp) rfl rfl rfl hc i [] s5 _ H5 (fun _ _ => False) I5 (far I5 n5) st5 stop) fun r s6 ⟨er, I6⟩ => ?_
      subst er
      have I7 : Inv X pins σ H5 s6 := I3.call' (ch := fp) I6.os I6.base I6.hok I6.bare fun b hb =>
        have z := (f3 b hb).1
        ⟨z.2.2.2.1, z.2.1, z.2.2.2.2.1, z.2.2.2.2.2⟩
      have nC : H5 s3.heap.objs.size = none := loc ▸ I6.free
      obtain ⟨m, hn, _⟩ := I6.loc
      exact fin D s3.heap.objs.size s6 m H5 G I7 hG qq few (loc ▸ (show s6.heap.Ns ce.locals m from hn)) (I3.fpOk (Nat.le_refl _) nC)
    · refine thnF (T.item (X.blk s3 H3 scope ce fp) rfl rfl rfl hc i [] s5 _ H5 (fun _ _ => False) I5 (far I5 n5) st5 go) fun r s6 ⟨u, er, h6⟩ => ?_
      subst er
      refine thnF h6 fun _ s7 ⟨x, H7, I7, r7, y7, st7, n7⟩ => ?_
      have J7 := I7.pinned (far I7 n7) (T.obj _ _ st7)
      refine thnF (pg.run _ s7 _ H7 x u _ J7 r7 (each x H7 y7)) fun _ s8 ⟨σ8, H8, I8, w8, q8⟩ => ?_
      refine thnF (pt.run _ s8 σ8 H8 _ I8 q8) fun b s9 ⟨H9, I9, q9⟩ => ?_
      have back : ∀ {s' : Shared} {H' : Hp}, Inv (X.blk s3 H3 scope ce fp) ([] ++ pinsAt fp s7.heap) σ8 H' s' → Nx H' →
          ∃ m, m < n ∧ ∃ i H', Inv (X.blk s3 H3 scope ce fp) [] (L2.wipe σ (own.map (·.2))) H' s' ∧ tn i s'.heap ∧ (∀ b ∈ fp, H' b = none) ∧ W i m H' := fun {s' H'} J' nx => by
        obtain ⟨m', lt, w'⟩ := hNx H' nx
        have kept : ∀ b ∈ fp, ∀ o, s7.heap.get? b = some o → s'.heap.get? b = some o ∧ H' b = none := fun b hb o e => by
          have z := J'.pin (b, o) (List.mem_append_right _ (List.mem_append_right _ (mem_pinsAt hb e)))
          exact ⟨z.1, z.2.1⟩
        refine ⟨m', lt, i + 1, H', (J'.unpinned (pins := [])).weak (by rw [← w8, wipe_length]) (fun j v e => ?_), T.keep _ _ _ st7 fun b hb o e => (kept b hb o e).1, fun b hb => ?_, w'⟩
        · rw [← w8] at e
          exact (wipe_some e).1
        · obtain ⟨o, e, _⟩ := T.obj _ _ st7 b hb
          exact (kept b hb o e).2
      cases b with
      | false =>
        rw [if_neg (by decide)] at q9 ⊢
        exact back I9 q9
      | true =>
        rw [if_pos rfl] at q9 ⊢
        refine thnF (pe.run _ s9 σ8 H9 _ I9 q9) fun z s10 ⟨y, H10, I10, r10, G, k, hD, hh, rl, few, nx⟩ => ?_
        have ty : s10.TypeIs (.ref D) "set" := by
          obtain ⟨o, es, ep, t, ho, hx, _⟩ := C.count (I10.hok D _ hD)
          exact ⟨o, ho, hx.1⟩
        refine set_add_call ty (C.add (X := X.blk s3 H3 scope ce fp) (A := X.A.in1) rfl rfl (show X.A.in1.units < cLine by show X.A.units + 1 < cLine; omega) I10 hD hh rl r10 few fun b s11 G' pm hh' I11 => ?_)
        exact back I11 (nx G' pm hh')
  exact codeAny_compStart_set run (T.self X.A 0 _ _ _ st4 run)
/-- len({e for x in xs}) -/
theorem pe_lenSc (C : SC X.prog X.w M S) {p lpos : Pos} (hc : X.calm = true) (hu : X.A.units + 64 < cLine) (hN : X.N.Nodup) (hgl : Gl X "len") (hm : X.mg "len" = none) (hi : PI X tg iter wi) (ok : BlkOk X.N X.env.scope scope own)
    (hg : ∀ (s : Shared) (H : Hp) (C : Addr) (cl : List (PySem.Str × Addr)) (fp : List Addr), PG (X.blk s H scope (compEnvC scope cl C X.env) fp) tg g)
    (ht : ∀ (s : Shared) (H : Hp) (C : Addr) (cl : List (PySem.Str × Addr)) (fp : List Addr), PTs (X.blk s H scope (compEnvC scope cl C X.env) fp) ifs tt)
    (he : ∀ (s : Shared) (H : Hp) (C : Addr) (cl : List (PySem.Str × Addr)) (fp : List Addr), PE (X.blk s H scope (compEnvC scope cl C X.env) fp) elt te)
    (hs : ∀ x, foldedSetIterable iter X.env x = pure x := by intro _; rfl) (na : starEach [.SetComp elt [⟨tg, iter, ifs, 0⟩] scope pos] X.env = (false, eval (.SetComp elt [⟨tg, iter, ifs, 0⟩] scope pos) X.env) :: starEach [] X.env := by rfl) :
    PE X (.Call (.Name "len" p) [.SetComp elt [⟨tg, iter, ifs, 0⟩] scope pos] [] lpos) (tScLen C X.K wi g tt te (own.map (·.2))) := by
  refine ⟨fun pins s σ H Q I h => ?_⟩
  refine Call_ (ld_blt I hgl hm PySem.boot_len ?_)
  refine PyProof.Rows.callWith_builtin1 (PyProof.Rows.args_cons ?_ na) na rfl
  rw [eval_SetComp]
  refine sc_len_core C hc hu hN I hi ok hg ht he hs h fun D c s' m H' G I' hD q few hn f => ⟨m, hn, fun h'' sb => PyProof.Rows.args_nil ?_⟩
  obtain ⟨f0, f1, f2, f3, f4, f5⟩ := f
  have J := I'.turned (t' := s'.toks) (fun b o hb e => (sb.2 b hb).trans e) f0 f1 f3 f4 f5
  obtain ⟨o, es, ep, t, ho, hx, hd, hf, hz⟩ := C.count (J.hok D _ hD)
  exact call_len_set (s := { s' with heap := h'' }) ho hx hd hf (by rw [hz]; omega) ⟨.int (C.keys G).length, H', J.tok _, ⟨_, by rw [hz]⟩, q⟩
end
end
end SX
set_option Elab.async false
set_option linter.all false
set_option maxRecDepth 100000
set_option maxHeartbeats 2000000
/-! PD29: len(set(xs)), sorted(set(xs)), sorted(xs), len({e for x in xs}) over plain data. -/
namespace PD
open PySem PySem.Spec PyProof.Rows L2 SX
theorem da_strs {K : PySem.W.Frag} {I : Hp} : ∀ ws : List Str, DaAll K I (ws.map V.str) (ws.map PyData.str)
  | [] => .nil
  | w :: ws => .cons (.str w) (da_strs ws)
theorem da_ints {K : PySem.W.Frag} {I : Hp} : ∀ ns : List Int, DaAll K I (ns.map V.int) (ns.map PyData.int)
  | [] => .nil
  | n :: ns => .cons (.int n) (da_ints ns)
section
variable {X : Cx} {Z : Zx}
/-- len(set(xs)) -/
def dLenSet {α : Type} [DecidableEq α] (dat : α → PyData) (d : TD) : TD := fun δ Q E => d δ (fun x => ∃ ks : List α, lstOf x = some (ks.map dat) ∧ ks.length < 64 ∧ Q (.d (.int ((insAll ks).length : Nat)))) E
theorem de_lenSetM {M : SM X.prog X.w} (S : SR X.prog X.w M) {a : Expr} {ta : TE} {d : TD} {p p2 q pos : Pos} (hK : Z.K = X.K) (hc : X.calm = true) (hu : X.A.units + 64 < cLine) (hg : Gl X "len") (hm : X.mg "len" = none) (hg2 : Gl X "set") (hm2 : X.mg "set" = none) (ha : DE X Z a ta d)
    (na : starEach [a] X.env = (false, eval a X.env) :: starEach [] X.env := by rfl) : DE X Z (.Call (.Name "len" p) [.Call (.Name "set" p2) [a] [] q] [] pos) (tLenSetM X.K M S ta) (@dLenSet M.K M.dec S.dat d) := by
  refine ⟨pe_lenSetM hc hu hg hm hg2 hm2 ha.pe na, fun I H δ σ Qd Ed Q hh t k => ha.rf I H δ σ _ Ed _ hh t fun x v I1 H1 e1 a1 q1 => ?_⟩
  obtain ⟨ks, e, few, q1⟩ := q1
  obtain ⟨l, vs, rfl, h1, h2, _⟩ := lst_at e1.good a1 e
  rw [hK] at h2
  exact ⟨l, vs, ks, rfl, SqL.of h1, rels_da S e1.good.sub h2, few, (k.ext hh.g e1).now e1.good (.int _) q1⟩
theorem de_lenSetT {a : Expr} {ta : TE} {d : TD} {p p2 q pos : Pos} (hK : Z.K = X.K) (hc : X.calm = true) (hu : X.A.units + 64 < cLine) (hg : Gl X "len") (hm : X.mg "len" = none) (hg2 : Gl X "set") (hm2 : X.mg "set" = none) (ha : DE X Z a ta d)
    (na : starEach [a] X.env = (false, eval a X.env) :: starEach [] X.env := by rfl) : DE X Z (.Call (.Name "len" p) [.Call (.Name "set" p2) [a] [] q] [] pos) (tLenSetM X.K (smT X.prog X.w) (srT X.prog X.w) ta) (dLenSet PyData.str d) :=
  de_lenSetM (srT X.prog X.w) hK hc hu hg hm hg2 hm2 ha na
def pairD (ws : List Str) : PyData := .tuple (ws.map .str)
theorem de_lenSetP {a : Expr} {ta : TE} {d : TD} {p p2 q pos : Pos} (hK : Z.K = X.K) (hc : X.calm = true) (hu : X.A.units + 64 < cLine) (hg : Gl X "len") (hm : X.mg "len" = none) (hg2 : Gl X "set") (hm2 : X.mg "set" = none) (ha : DE X Z a ta d)
    (na : starEach [a] X.env = (false, eval a X.env) :: starEach [] X.env := by rfl) : DE X Z (.Call (.Name "len" p) [.Call (.Name "set" p2) [a] [] q] [] pos) (tLenSetM X.K (smP X.prog X.w) (srP X.prog X.w) ta) (dLenSet pairD d) :=
  de_lenSetM (srP X.prog X.w) hK hc hu hg hm hg2 hm2 ha na
/-- sorted(set(xs)), texts -/
def dSortSetT (d : TD) : TD := fun δ Q E => d δ (fun x => ∃ ks : List Str, lstOf x = some (ks.map .str) ∧ ks.length < 64 ∧ ∀ ys : List Str, ys.Perm (insAll ks) → sortedS ys = true → Q (.new (ys.map .str))) E
theorem de_sortSetT {a : Expr} {ta : TE} {d : TD} {p p2 q pos : Pos} (hK : Z.K = X.K) (hc : X.calm = true) (hu : X.A.units + 64 < cLine) (hg : Gl X "sorted") (hm : X.mg "sorted" = none) (hg2 : Gl X "set") (hm2 : X.mg "set" = none) (ha : DE X Z a ta d)
    (na : starEach [a] X.env = (false, eval a X.env) :: starEach [] X.env := by rfl) : DE X Z (.Call (.Name "sorted" p) [.Call (.Name "set" p2) [a] [] q] [] pos) (tSortSetT X.prog X.w X.K ta) (dSortSetT d) := by
  refine ⟨pe_sortSetT hc hu hg hm hg2 hm2 ha.pe na, fun I H δ σ Qd Ed Q hh t k => ha.rf I H δ σ _ Ed _ hh t fun x v I1 H1 e1 a1 q1 => ?_⟩
  obtain ⟨ks, e, few, q1⟩ := q1
  obtain ⟨l, vs, rfl, h1, h2, _⟩ := lst_at e1.good a1 e
  rw [hK] at h2
  refine ⟨l, vs, ks, rfl, SqL.of h1, rels_da (srT X.prog X.w) e1.good.sub h2, few, fun ys p pm so => ?_⟩
  have le := (insAll_props ks).2.2
  refine (k.ext hh.g e1).new e1.good (hh.ext e1).old (da_strs ys) ?_ (q1 ys pm so) p
  rw [List.length_map, pm.length_eq, sizeLine_eq]
  omega
/-- sorted(set(xs)), whole numbers -/
def dSortSetI (d : TD) : TD := fun δ Q E => d δ (fun x => ∃ ks : List Int, lstOf x = some (ks.map .int) ∧ ks.length < 64 ∧ ∀ ns : List Int, ns.Pairwise (· < ·) → (∀ k : Int, k ∈ ns ↔ k ∈ ks) → Q (.new (ns.map .int))) E
theorem rise_len : ∀ {ns ks : List Int}, ns.Pairwise (· < ·) → (∀ k ∈ ns, k ∈ ks) → ns.length ≤ ks.length
  | [], _, _, _ => Nat.zero_le _
  | n :: ns, ks, h, sub => by
    obtain ⟨h1, h2⟩ := List.pairwise_cons.mp h
    have m := sub n List.mem_cons_self
    have ih := rise_len (ks := ks.erase n) h2 fun k hk => (List.mem_erase_of_ne (by have := h1 k hk; omega)).mpr (sub k (List.mem_cons_of_mem _ hk))
    rw [List.length_erase_of_mem m] at ih
    have : 0 < ks.length := List.length_pos_of_mem m
    rw [List.length_cons]
    omega
theorem de_sortSetI {a : Expr} {ta : TE} {d : TD} {p p2 q pos : Pos} (hK : Z.K = X.K) (hc : X.calm = true) (hu : X.A.units + 64 < cLine) (hg : Gl X "sorted") (hm : X.mg "sorted" = none) (hg2 : Gl X "set") (hm2 : X.mg "set" = none) (ha : DE X Z a ta d)
    (na : starEach [a] X.env = (false, eval a X.env) :: starEach [] X.env := by rfl) : DE X Z (.Call (.Name "sorted" p) [.Call (.Name "set" p2) [a] [] q] [] pos) (tSortSetI X.prog X.w X.K ta) (dSortSetI d) := by
  refine ⟨pe_sortSetI hc hu hg hm hg2 hm2 ha.pe na, fun I H δ σ Qd Ed Q hh t k => ha.rf I H δ σ _ Ed _ hh t fun x v I1 H1 e1 a1 q1 => ?_⟩
  obtain ⟨ks, e, few, q1⟩ := q1
  obtain ⟨l, vs, rfl, h1, h2, _⟩ := lst_at e1.good a1 e
  rw [hK] at h2
  refine ⟨l, vs, ks, rfl, SqL.of h1, rels_da (srI X.prog X.w) e1.good.sub h2, few, fun ns p so m => ?_⟩
  have le := rise_len so fun k hk => (m k).mp hk
  refine (k.ext hh.g e1).new e1.good (hh.ext e1).old (da_ints ns) ?_ (q1 ns so m) p
  have few : ks.length < 64 := few
  rw [List.length_map, sizeLine_eq]
  omega
/-- sorted(xs), texts -/
def oSortedS : OC := fun xs Q _ => ∃ x ws, xs = [x] ∧ lstOf x = some (ws.map PyData.str) ∧ ws.length < 64 ∧ ∀ ys : List Str, ys.Perm ws → sortedS ys = true → Q (.new (ys.map .str))
theorem cd_sortedS {K : PySem.W.Frag} (hK : Z.K = K) : CallD Z (rSortedS K) oSortedS := fun I H Hs xs vs Qd Ed Q g' a t k => by
  subst hK
  obtain ⟨x, ws, rfl, e, few, q⟩ := t
  obtain ⟨v, rfl, a'⟩ := at1 a
  obtain ⟨l, us, rfl, h1, h2, _⟩ := lst_at g'.g a' e
  rw [vals_sd h2] at h1
  refine ⟨l, ws, rfl, SqL.of h1, few, fun ys p pm so => k.new g'.g g'.old (da_strs ys) ?_ (q ys pm so) p⟩
  rw [List.length_map, pm.length_eq, sizeLine_eq]
  omega
/-! ### len({e for x in xs}) -/
def lcGoA {α : Type} (body : PyData → (Option α → Prop) → Prop) : List PyData → List α → (List α → Prop) → Prop
  | [], acc, Q => Q acc
  | d :: ds, acc, Q => body d (fun o => lcGoA body ds (acc ++ o.toList) Q)
def dScLen {α : Type} [DecidableEq α] (dat : α → PyData) (ti : TDI) (dg : TDG) (dt : TDT) (de : TD) (vs : List Nat) : TD := fun δ Q E => ti δ (fun ds => ds.length < 63 ∧
  lcGoA (fun d K => dg (.d d) (wipeD δ vs) (fun δ' => dt δ' (fun b => if b = true then de δ' (fun y => ∃ k : α, froz y = .d (dat k) ∧ K (some k)) noE else K none) noE)) ds [] (fun ks => Q (.d (.int ((insAll ks).length : Nat))))) E
theorem insAll_snoc {α : Type} [DecidableEq α] (ks : List α) (k : α) : insAll (ks ++ [k]) = ins k (insAll ks) := by
  unfold insAll
  rw [List.foldl_append]
  rfl
theorem ins_perm {α : Type} [DecidableEq α] {l m : List α} {k : α} (h : l.Perm m) : (ins k l).Perm (ins k m) := by
  unfold ins
  by_cases z : k ∈ l
  · rw [if_pos z, if_pos (h.mem_iff.mp z)]
    exact h
  · rw [if_neg z, if_neg fun y => z (h.mem_iff.mpr y)]
    exact h.cons k
theorem sc_rf {M : SM X.prog X.w} {S : SR X.prog X.w M} (C : SC X.prog X.w M S) {wi : TI} {g : TG} {tt : TT} {te : TE} {vs : List Nat} {ti : TDI} {dg : TDG} {dt : TDT} {de : TD}
    (hi : ∀ I H δ σ Qd Ed (R : It → Hp → Prop), Here Z I H δ σ Ed → ti δ Qd Ed → (∀ J ds I' H', Ext Z.R I H I' H' → Runs Z J I' ds → ds.length ≤ sizeLine → Qd ds → R J H') → wi σ H R)
    (hg : ∀ I H δ σ x v Qd Q Hs, Good Z.R I H → EnvAt Z.calm I H δ σ → At Z.calm Hs I H x v → dg x δ Qd → (∀ δ' σ' I' H', Ext Z.R I H I' H' → EnvAt Z.calm I' H' δ' σ' → Qd δ' → Q σ' H') → g v σ H Q)
    (ht : ∀ I H δ σ Qd Ed Q, Here Z.calm I H δ σ Ed → dt δ Qd Ed → ThenB Z.calm I H Qd Q → tt σ H Q)
    (he : ∀ I H δ σ Qd Ed Q, Here Z.calm I H δ σ Ed → de δ Qd Ed → Then Z.calm I H Qd Q → te σ H Q) (tg : Tgt g vs) :
    ∀ I H δ σ Qd Ed Q, Here Z I H δ σ Ed → @dScLen M.K M.dec S.dat ti dg dt de vs δ Qd Ed → Then Z I H Qd Q → tScLen C Z.K wi g tt te vs σ H Q := fun I H δ σ Qd Ed Q hh q k => by
  letI := M.dec
  refine hi I H δ σ _ Ed _ hh q fun J ds I1 H1 e1 rn hl q1 D hD => ?_
  obtain ⟨few, q1⟩ := q1
  have h1 := hh.ext e1
  have k1 := k.ext hh.g e1
  obtain ⟨n1, n2⟩ := fresh_off h1.g hD
  generalize hb : (fun d K => dg (.d d) (wipeD δ vs) (fun δ' => dt δ' (fun b => if b = true then de δ' (fun y => ∃ k : M.K, froz y = .d (S.dat k) ∧ K (some k)) noE else K none) noE) : PyData → (Option M.K → Prop) → Prop) = body at q1
  refine ⟨fun i m H' => m = ds.length - i ∧ i ≤ ds.length ∧ ∃ I' acc G, Ext Z.R I1 H1 I' H' ∧ H' D = some (C.ho D G) ∧ C.held Z.K I' G ∧ (C.keys G).Perm (insAll acc) ∧ I' D = none ∧ acc.length ≤ i ∧ lcGoA body (ds.drop i) acc (fun ks => Qd (.d (.int ((insAll ks).length : Nat)))),
    ⟨ds.length, by simp, Nat.zero_le _, I1, [], C.g0, ext_own h1.g hD, upd_same, C.h0, by rw [C.k0]; exact .refl _, n1, Nat.le_refl _, by simpa using q1⟩, ?_⟩
  rintro i m H' ⟨rfl, hi', I', acc, G, e', hG, hd, pm, nu, la, q'⟩
  obtain ⟨go, stop⟩ := rn I' H' e'.good e'.sub
  have lk : (C.keys G).length ≤ acc.length := by rw [pm.length_eq]; exact (insAll_props acc).2.2
  by_cases hlt : i < ds.length
  · have ed : ds[i]? = some ds[i] := by simp [hlt]
    rw [List.drop_eq_getElem_cons hlt] at q'
    obtain ⟨g1, g2⟩ := go i _ ed
    refine .inr ⟨g1, fun H2 => i + 1 ≤ ds.length ∧ ∃ I' acc G, Ext Z.R I1 H1 I' H2 ∧ H2 D = some (C.ho D G) ∧ C.held Z.K I' G ∧ (C.keys G).Perm (insAll acc) ∧ I' D = none ∧ acc.length ≤ i + 1 ∧ lcGoA body (ds.drop (i + 1)) acc (fun ks => Qd (.d (.int ((insAll ks).length : Nat)))),
      fun H2 w2 => ⟨ds.length - (i + 1), by omega, rfl, w2⟩, fun x H'' hy => ?_⟩
    obtain ⟨I'', ex, ax⟩ := g2 x H'' hy
    have e'' := e'.trans h1.g ex
    have env'' : EnvAt Z I'' H'' (wipeD δ vs) (L2.wipe σ vs) := (h1.env.ext e'').wipe vs
    subst hb
    have key : ∀ Q0, g x (L2.wipe σ vs) H'' Q0 → g x (L2.wipe σ vs) H'' (fun σ2 H2 => L2.wipe σ2 vs = L2.wipe σ vs ∧ Q0 σ2 H2) := fun Q0 h => by
      have := tg _ _ _ _ h
      rw [wipe_wipe] at this
      exact this
    refine key _ (hg I'' H'' (wipeD δ vs) (L2.wipe σ vs) (.d _) x _ _ H'' ex.good env''.other (show Da Z.K I'' x _ from ax) q' fun δ3 σ3 I3 H3 ex3 env3 q3 => ?_)
    have ex := ex.trans e'.good ex3
    have e'' := e'.trans h1.g ex
    have h3 : Here Z.calm I3 H3 δ3 σ3 noE := ⟨h1.g0, h1.e0.trans h1.g0 e'', env3, fun x c od I2 H2 e2 xa q => q.elim⟩
    refine ht I3 H3 δ3 σ3 _ noE _ h3 q3 fun b I4 H4 e4 q4 => ?_
    have e14 := e''.trans h1.g e4
    have D4 : ∀ {Ia Ha Ib Hb o}, Ext Z.R Ia Ha Ib Hb → Ha D = some o → Ia D = none → Hb D = some o ∧ Ib D = none := fun {Ia Ha Ib Hb o} ee hh' hn' => by
      refine ⟨ee.keep D _ hh' n2, ?_⟩
      cases z : Ib D with
      | none => rfl
      | some w =>
        rcases ee.fresh D w z with y | y
        · rw [hn'] at y; cases y
        · rw [hh'] at y; cases y
    obtain ⟨u2, v2⟩ := D4 ex hG nu
    obtain ⟨u4, v4⟩ := D4 e4 u2 v2
    cases b with
    | false => exact ⟨hlt, I4, acc, G, e14, u4, C.keep hd (ex.sub.trans e4.sub), pm, v4, by omega, by simpa using q4⟩
    | true =>
      have h4 : Here Z.calm I4 H4 δ3 σ3 noE := h3.ext e4
      refine he I4 H4 δ3 σ3 _ noE _ h4 q4 (Then.frz (Qd := fun y => ∃ k : M.K, y = .d (S.dat k) ∧ lcGoA _ (ds.drop (i + 1)) (acc ++ (some k).toList) (fun ks => Qd (.d (.int ((insAll ks).length : Nat))))) fun y w I5 H5 e5 ay q5 => ?_)
      obtain ⟨k5, rfl, q5⟩ := q5
      obtain ⟨u5, v5⟩ := D4 e5 u4 v4
      have ay : Da Z.K I5 w (S.dat k5) := ay
      have e15 := e14.trans h1.g e5
      have hd5 : C.held Z.K I5 G := C.keep hd ((ex.sub.trans e4.sub).trans e5.sub)
      refine ⟨G, k5, u5, C.keep hd5 e15.good.sub, S.of e15.good.sub ay, by omega, fun G' pm' up => ⟨hlt, I5, _, G', ext_upd e15 hD n2 v5, upd_same, up Z.K I5 hd5 (S.of (Same.refl _) ay), ?_, v5, ?_, q5⟩⟩
      · show (C.keys G').Perm (insAll (acc ++ [k5]))
        rw [insAll_snoc]
        exact pm'.trans (ins_perm pm)
      · rw [List.length_append]
        simp only [Option.toList, List.length_cons, List.length_nil]
        omega
  · have e : i = ds.length := by omega
    subst e
    rw [List.drop_length] at q'
    refine .inl ⟨stop, G, hG, ?_, by omega⟩
    rw [pm.length_eq]
    exact (k1.ext h1.g e').now e'.good (.int _) q'
theorem de_lenScM {M : SM X.prog X.w} {S : SR X.prog X.w M} (C : SC X.prog X.w M S) {elt tg iter : Expr} {ifs : List Expr} {scope : Scope} {own : List (Str × Nat)} {pos p lpos : Pos} {wi : TI} {g : TG} {tt : TT} {te : TE} {ti : TDI} {dg : TDG} {dt : TDT} {de : TD} (hK : Z.K = X.K) (hc : X.calm = true) (hu : X.A.units + 64 < cLine) (hN : X.N.Nodup)
    (hgl : Gl X "len") (hm : X.mg "len" = none) (hi : DI X Z tg iter wi ti) (ok : BlkOk X.N X.env.scope scope own)
    (hg : ∀ (s : Shared) (H : Hp) (C : Addr) (cl : List (Str × Addr)) (fp : List Addr), DG (X.blk s H scope (compEnvC scope cl C X.env) fp) Z.calm tg g dg) (ht : ∀ (s : Shared) (H : Hp) (C : Addr) (cl : List (Str × Addr)) (fp : List Addr), DTs (X.blk s H scope (compEnvC scope cl C X.env) fp) Z.calm ifs tt dt)
    (he : ∀ (s : Shared) (H : Hp) (C : Addr) (cl : List (Str × Addr)) (fp : List Addr), DE (X.blk s H scope (compEnvC scope cl C X.env) fp) Z.calm elt te de) (tgt : Tgt g (own.map (·.2))) (s0 : Shared) (hs : ∀ x, foldedSetIterable iter X.env x = pure x := by intro _; rfl)
    (na : starEach [.SetComp elt [⟨tg, iter, ifs, 0⟩] scope pos] X.env = (false, eval (.SetComp elt [⟨tg, iter, ifs, 0⟩] scope pos) X.env) :: starEach [] X.env := by rfl) :
    DE X Z (.Call (.Name "len" p) [.SetComp elt [⟨tg, iter, ifs, 0⟩] scope pos] [] lpos) (tScLen C X.K wi g tt te (own.map (·.2))) (@dScLen M.K M.dec S.dat ti dg dt de (own.map (·.2))) :=
  ⟨pe_lenSc C hc hu hN hgl hm hi.pi ok (fun s H C cl fp => (hg s H C cl fp).pg) (fun s H C cl fp => (ht s H C cl fp).pt) (fun s H C cl fp => (he s H C cl fp).pe) hs na,
    hK ▸ sc_rf C hi.rf (hg s0 (fun _ => none) 0 [] []).rf (ht s0 (fun _ => none) 0 [] []).rf (he s0 (fun _ => none) 0 [] []).rf tgt⟩
end
end PD
namespace PD
open PySem PySem.Spec PyProof.Rows L2 SX
section
variable {X : Cx} {Z : Zx} {elt tg iter : Expr} {ifs : List Expr} {scope : Scope} {own : List (Str × Nat)} {pos p lpos : Pos} {wi : TI} {g : TG} {tt : TT} {te : TE} {ti : TDI} {dg : TDG} {dt : TDT} {de : TD}
theorem de_lenScT (hK : Z.K = X.K) (hc : X.calm = true) (hu : X.A.units + 64 < cLine) (hN : X.N.Nodup)
    (hgl : Gl X "len") (hm : X.mg "len" = none) (hi : DI X Z tg iter wi ti) (ok : BlkOk X.N X.env.scope scope own)
    (hg : ∀ (s : Shared) (H : Hp) (C : Addr) (cl : List (Str × Addr)) (fp : List Addr), DG (X.blk s H scope (compEnvC scope cl C X.env) fp) Z.calm tg g dg) (ht : ∀ (s : Shared) (H : Hp) (C : Addr) (cl : List (Str × Addr)) (fp : List Addr), DTs (X.blk s H scope (compEnvC scope cl C X.env) fp) Z.calm ifs tt dt)
    (he : ∀ (s : Shared) (H : Hp) (C : Addr) (cl : List (Str × Addr)) (fp : List Addr), DE (X.blk s H scope (compEnvC scope cl C X.env) fp) Z.calm elt te de) (tgt : Tgt g (own.map (·.2))) (s0 : Shared) (hs : ∀ x, foldedSetIterable iter X.env x = pure x := by intro _; rfl)
    (na : starEach [.SetComp elt [⟨tg, iter, ifs, 0⟩] scope pos] X.env = (false, eval (.SetComp elt [⟨tg, iter, ifs, 0⟩] scope pos) X.env) :: starEach [] X.env := by rfl) :
    DE X Z (.Call (.Name "len" p) [.SetComp elt [⟨tg, iter, ifs, 0⟩] scope pos] [] lpos) (tScLen (scT X.prog X.w) X.K wi g tt te (own.map (·.2))) (dScLen PyData.str ti dg dt de (own.map (·.2))) :=
  de_lenScM (scT X.prog X.w) hK hc hu hN hgl hm hi ok hg ht he tgt s0 hs na
theorem de_lenScP (hK : Z.K = X.K) (hc : X.calm = true) (hu : X.A.units + 64 < cLine) (hN : X.N.Nodup)
    (hgl : Gl X "len") (hm : X.mg "len" = none) (hi : DI X Z tg iter wi ti) (ok : BlkOk X.N X.env.scope scope own)
    (hg : ∀ (s : Shared) (H : Hp) (C : Addr) (cl : List (Str × Addr)) (fp : List Addr), DG (X.blk s H scope (compEnvC scope cl C X.env) fp) Z.calm tg g dg) (ht : ∀ (s : Shared) (H : Hp) (C : Addr) (cl : List (Str × Addr)) (fp : List Addr), DTs (X.blk s H scope (compEnvC scope cl C X.env) fp) Z.calm ifs tt dt)
    (he : ∀ (s : Shared) (H : Hp) (C : Addr) (cl : List (Str × Addr)) (fp : List Addr), DE (X.blk s H scope (compEnvC scope cl C X.env) fp) Z.calm elt te de) (tgt : Tgt g (own.map (·.2))) (s0 : Shared) (hs : ∀ x, foldedSetIterable iter X.env x = pure x := by intro _; rfl)
    (na : starEach [.SetComp elt [⟨tg, iter, ifs, 0⟩] scope pos] X.env = (false, eval (.SetComp elt [⟨tg, iter, ifs, 0⟩] scope pos) X.env) :: starEach [] X.env := by rfl) :
    DE X Z (.Call (.Name "len" p) [.SetComp elt [⟨tg, iter, ifs, 0⟩] scope pos] [] lpos) (tScLen (scP X.prog X.w) X.K wi g tt te (own.map (·.2))) (dScLen pairD ti dg dt de (own.map (·.2))) :=
  de_lenScM (scP X.prog X.w) hK hc hu hN hgl hm hi ok hg ht he tgt s0 hs na
end
end PD
set_option Elab.async false
set_option linter.all false
set_option maxRecDepth 100000
set_option maxHeartbeats 2000000
/-! PD30: several names at once (a list of this def's own among them), list.count of texts. -/
namespace PD
open PySem PySem.Spec PyProof.Rows L2
section
variable {X : Cx} {Z : Zx} {pos : Pos}
/-- an argument that is not frozen -/
def dConsN (a : TD) (r : TDA) : TDA := fun δ Q E => a δ (fun x => r δ (fun xs => Q (x :: xs)) E) E
theorem da_consN {e : Expr} {es : List Expr} {te : TE} {ta : TA} {de : TD} {dr : TDA} (h : DE X Z e te de) (h' : DA X Z es ta dr) (hs : starEach (e :: es) X.env = (false, eval e X.env) :: starEach es X.env := by rfl) : DA X Z (e :: es) (tCons te ta) (dConsN de dr) := by
  refine ⟨pa_cons h.pe h'.pa hs, fun I H δ σ Qd Ed Q hh t k => ?_⟩
  refine h.rf I H δ σ _ Ed _ hh t fun x v I1 H1 e1 a1 q1 => ?_
  refine h'.rf I1 H1 δ σ _ Ed _ (hh.ext e1) q1 fun xs vs I2 H2 e2 a2 q2 => ?_
  exact k (x :: xs) (v :: vs) I2 H2 (e1.trans hh.g e2) (.cons (a1.ext e2) (a2.since fun _ z => e1.none hh.g z)) q2
/-- plain stores -/
theorem st_name {I H Hs : Hp} {δ : DEnv} {σ : St} {k : Nat} {z : DV} {w : V} {Qd : DEnv → Prop} (ev : EnvAt Z I H δ σ) (az : At Z Hs I H z w) (qz : dName k z δ Qd) : ∃ δ2, EnvAt Z I H δ2 (σ.set k (some w)) ∧ Qd δ2 ∧ ∃ x, (x = DV.d (match x with | .d y => y | _ => .none) ∨ ∃ u, x = DV.v u) ∧ δ2 = δ.set k (some x) := by
  unfold dName at qz
  split at qz
  · exact ⟨_, ev.set k (x := .d _) az (fun xs e => nomatch e), qz, _, .inl rfl, rfl⟩
  · exact ⟨_, ev.set k (x := .v _) az (fun xs e => nomatch e), qz, _, .inr ⟨_, rfl⟩, rfl⟩
  · exact qz.elim
/-- the own lists stand there at H0 -/
def OldO (H0 : Hp) (δ : DEnv) (σ : St) : Prop := ∀ (i : Nat) (xs : List PyData) (v : V) (a : Addr), δ[i]? = some (some (DV.own xs)) → σ[i]? = some (some v) → v = V.ref a → H0 a ≠ none
/-- a new list becomes this def's own: the other ones are older -/
theorem st_own {I H H0 : Hp} {δ : DEnv} {σ : St} {k : Nat} {ys : List PyData} {w : V} (old : OldO H0 δ σ) (ev : EnvAt Z I H δ σ) (az : At Z H0 I H (.new ys) w) : EnvAt Z I H (δ.set k (some (.own ys))) (σ.set k (some w)) := by
  obtain ⟨o, n⟩ := az
  refine ev.set k (x := .own _) ⟨o, fun b eb => (n b eb).2⟩ fun zs _ j xs hj h1 h2 => ?_
  obtain ⟨a, vs, rfl, _⟩ := o
  exact old j xs _ a h1 h2 rfl (n a rfl).1
theorem own_old {I H : Hp} {δ : DEnv} {σ : St} (ev : EnvAt Z I H δ σ) : OldO H δ σ := fun i xs v a h1 h2 e z => by
  obtain ⟨v', e1, ⟨b, vs, e2, h3, _⟩, _⟩ := ev.val i _ h1
  rw [h2] at e1
  cases e1
  rw [e] at e2
  cases e2
  rw [z] at h3
  cases h3
/-- .. plain stores don't add any -/
theorem old_name {H0 : Hp} {δ : DEnv} {σ : St} {k : Nat} {x : DV} {w : V} (hx : ∀ ys, x ≠ .own ys) (old : OldO H0 δ σ) : OldO H0 (δ.set k (some x)) (σ.set k (some w)) := fun i xs v a h1 h2 e => by
  rcases get_set_some h1 with ⟨rfl, e1, _⟩ | ⟨hj, h1⟩
  · exact absurd e1 (hx xs)
  · rw [List.getElem?_set_ne hj] at h2
    exact old i xs v a h1 h2 e
def dParO1 (i j : Nat) (a : TDA) : TDS := fun D E δ => a δ (fun xs => match xs with
  | [.new ys, y] => dName j y (δ.set i (some (.own ys))) D.nx
  | _ => False) E
def dParO2 (i j : Nat) (a : TDA) : TDS := fun D E δ => a δ (fun xs => match xs with
  | [x, .new ys] => dName i x δ (fun δ' => D.nx (δ'.set j (some (.own ys))))
  | _ => False) E
def dPar3 (i j l : Nat) (a : TDA) : TDS := fun D E δ => a δ (fun xs => match xs with
  | [x, y, z] => dName i x δ (fun δ1 => dName j y δ1 (fun δ2 => dName l z δ2 D.nx))
  | _ => False) E
variable {i j l : Nat} {x y z : Str} {a b c : Expr} {ta : TA} {da : TDA} {px py pz pt : Pos} {kt k2 pt2}
theorem ds_parO1 (hc : X.calm = true) (hN : X.N.Nodup) (hi : X.N[i]? = some x) (hj : X.N[j]? = some y) (hij : i ≠ j) (hx : X.env.scope.names.lookup x = some .local) (hy : X.env.scope.names.lookup y = some .local) (ha : DA X Z [a, b] ta da)
    (hw : swappedStores [.Tuple [.Name x px, .Name y py] kt pt] (.Tuple [a, b] k2 pt2) X.env = pure (some [x, y])) (hs : swapsWithSole [.Tuple [.Name x px, .Name y py] kt pt] (.Tuple [a, b] k2 pt2) pos.line X.env = pure false := by rfl) :
    DS X Z (.Assign [.Tuple [.Name x px, .Name y py] kt pt] (.Tuple [a, b] k2 pt2) pos) (tPar i j ta) (dParO1 i j da) := by
  refine ⟨ps_par hc hN hi hj hij hx hy ha.pa hw hs, fun I H δ σ D Ed T hh q l => ha.rf I H δ σ _ Ed _ hh q fun xs vs I' H' e a q => ?_⟩
  split at q
  · obtain ⟨v, u, rfl, a1, a2⟩ := at2 a
    have env := hh.env.ext e
    have ev1 := st_own (k := i) (own_old hh.env) env a1
    obtain ⟨δ2, ev2, q2, _⟩ := st_name (k := j) ev1 a2 q
    exact ⟨v, u, rfl, l.nx δ2 _ I' H' (hh.e0.trans hh.g0 e) e.sub ev2 q2⟩
  · exact q.elim
theorem ds_parO2 (hc : X.calm = true) (hN : X.N.Nodup) (hi : X.N[i]? = some x) (hj : X.N[j]? = some y) (hij : i ≠ j) (hx : X.env.scope.names.lookup x = some .local) (hy : X.env.scope.names.lookup y = some .local) (ha : DA X Z [a, b] ta da)
    (hw : swappedStores [.Tuple [.Name x px, .Name y py] kt pt] (.Tuple [a, b] k2 pt2) X.env = pure (some [x, y])) (hs : swapsWithSole [.Tuple [.Name x px, .Name y py] kt pt] (.Tuple [a, b] k2 pt2) pos.line X.env = pure false := by rfl) :
    DS X Z (.Assign [.Tuple [.Name x px, .Name y py] kt pt] (.Tuple [a, b] k2 pt2) pos) (tPar i j ta) (dParO2 i j da) := by
  refine ⟨ps_par hc hN hi hj hij hx hy ha.pa hw hs, fun I H δ σ D Ed T hh q l => ha.rf I H δ σ _ Ed _ hh q fun xs vs I' H' e a q => ?_⟩
  split at q
  · obtain ⟨v, u, rfl, a1, a2⟩ := at2 a
    have env := hh.env.ext e
    obtain ⟨δ2, ev2, q2, x', hx', rfl⟩ := st_name (k := i) env a1 q
    have no : ∀ ys, x' ≠ .own ys := fun ys e => by
      subst e
      rcases hx' with h | ⟨_, h⟩ <;> cases h
    have ev3 := st_own (k := j) (old_name no (own_old hh.env)) ev2 a2
    exact ⟨v, u, rfl, l.nx _ _ I' H' (hh.e0.trans hh.g0 e) e.sub ev3 q2⟩
  · exact q.elim
theorem ds_par3 (hc : X.calm = true) (hN : X.N.Nodup) (hi : X.N[i]? = some x) (hj : X.N[j]? = some y) (hl : X.N[l]? = some z) (hij : i ≠ j) (hil : i ≠ l) (hjl : j ≠ l) (hx : X.env.scope.names.lookup x = some .local) (hy : X.env.scope.names.lookup y = some .local) (hz : X.env.scope.names.lookup z = some .local) (ha : DA X Z [a, b, c] ta da)
    (hw : swappedStores [.Tuple [.Name x px, .Name y py, .Name z pz] kt pt] (.Tuple [a, b, c] k2 pt2) X.env = pure (some [x, y, z])) (hs : swapsWithSole [.Tuple [.Name x px, .Name y py, .Name z pz] kt pt] (.Tuple [a, b, c] k2 pt2) pos.line X.env = pure false := by rfl) :
    DS X Z (.Assign [.Tuple [.Name x px, .Name y py, .Name z pz] kt pt] (.Tuple [a, b, c] k2 pt2) pos) (tPar3 i j l ta) (dPar3 i j l da) := by
  refine ⟨ps_par3 hc hN hi hj hl hij hil hjl hx hy hz ha.pa hw hs, fun I H δ σ D Ed T hh q lk => ha.rf I H δ σ _ Ed _ hh q fun xs vs I' H' e a q => ?_⟩
  split at q
  · obtain ⟨v, u, w, rfl, a1, a2, a3⟩ := at3 a
    obtain ⟨δ1, ev1, q1, _⟩ := st_name (k := i) (hh.env.ext e) a1 q
    obtain ⟨δ2, ev2, q2, _⟩ := st_name (k := j) ev1 a2 q1
    obtain ⟨δ3, ev3, q3, _⟩ := st_name (k := l) ev2 a3 q2
    exact ⟨v, u, w, rfl, lk.nx δ3 _ I' H' (hh.e0.trans hh.g0 e) e.sub ev3 q3⟩
  · exact q.elim
/-- a, b, c, d = [], x, y, z: the first one a list of this def's own -/
def dPar4O (i j k l : Nat) (a : TDA) : TDS := fun D E δ => a δ (fun xs => match xs with
  | [.new ys, x, y, z] => dName j x (δ.set i (some (.own ys))) (fun δ1 => dName k y δ1 (fun δ2 => dName l z δ2 D.nx))
  | _ => False) E
theorem ds_par4O {i j k l : Nat} {w x y z : Str} {es : List Expr} {pw px py pz pt : Pos} {kt : Nat} {k2 : Nat} {pt2 : Pos} (hc : X.calm = true) (hK : Z.K = X.K) (hN : X.N.Nodup) (hi : X.N[i]? = some w) (hj : X.N[j]? = some x) (hk : X.N[k]? = some y) (hl : X.N[l]? = some z) (ew : X.env.scope.names.lookup w = some .local) (ex : X.env.scope.names.lookup x = some .local) (ey : X.env.scope.names.lookup y = some .local) (ez : X.env.scope.names.lookup z = some .local) (ha : DA X Z es ta da)
    (lw : Loc X.env.scope w) (lx : Loc X.env.scope x) (ly : Loc X.env.scope y) (lz : Loc X.env.scope z)
    (hs : swapsWithSole [.Tuple [.Name w pw, .Name x px, .Name y py, .Name z pz] kt pt] (.Tuple es k2 pt2) pos.line X.env = pure false := by rfl) (hsw : swappedStores [.Tuple [.Name w pw, .Name x px, .Name y py, .Name z pz] kt pt] (.Tuple es k2 pt2) X.env = pure none := by rfl)
    (h1 : (assignEach [.Tuple [.Name w pw, .Name x px, .Name y py, .Name z pz] kt pt] X.env).map (·.2) = [assign (.Tuple [.Name w pw, .Name x px, .Name y py, .Name z pz] kt pt) X.env] := by rfl)
    (hn : (assignEach [.Name w pw, .Name x px, .Name y py, .Name z pz] X.env).length = 4 := by rfl) (hst : (assignEach [.Name w pw, .Name x px, .Name y py, .Name z pz] X.env).findIdx? (·.1) = none := by rfl)
    (g1 : (assignEach [.Name w pw, .Name x px, .Name y py, .Name z pz] X.env).map (·.2) = assign (.Name w pw) X.env :: (assignEach [.Name x px, .Name y py, .Name z pz] X.env).map (·.2) := by rfl)
    (g2 : (assignEach [.Name x px, .Name y py, .Name z pz] X.env).map (·.2) = assign (.Name x px) X.env :: (assignEach [.Name y py, .Name z pz] X.env).map (·.2) := by rfl)
    (g3 : (assignEach [.Name y py, .Name z pz] X.env).map (·.2) = assign (.Name y py) X.env :: (assignEach [.Name z pz] X.env).map (·.2) := by rfl)
    (g4 : (assignEach [.Name z pz] X.env).map (·.2) = assign (.Name z pz) X.env :: (assignEach [] X.env).map (·.2) := by rfl) :
    DS X Z (.Assign [.Tuple [.Name w pw, .Name x px, .Name y py, .Name z pz] kt pt] (.Tuple es k2 pt2) pos) (tAsg (tTup ta) (gTup X.K 4 (gCons (gName i) (gCons (gName j) (gCons (gName k) (gCons (gName l) gNil)))))) (dPar4O i j k l da) := by
  refine ⟨ps_asg (pe_tup ha.pa) (pg_tup hc (pgs_cons (pg_name hN hi lw (.inr ew)) (pgs_cons (pg_name hN hj lx (.inr ex)) (pgs_cons (pg_name hN hk ly (.inr ey)) (pgs_cons (pg_name hN hl lz (.inr ez)) pgs_nil g4) g3) g2) g1) hn hst) hs hsw h1,
    fun I H δ σ D Ed T hh q lk => ha.rf I H δ σ _ Ed _ hh q fun xs vs I' H' e a q => ?_⟩
  split at q
  · cases a with
    | @cons _ v0 _ _ a0 a =>
    obtain ⟨v1, v2, v3, rfl, a1, a2, a3⟩ := at3 a
    refine ⟨(show 4 ≤ sizeLine by decide), fun p hp => ?_⟩
    have e' := e.trans hh.g (ext_own (o := .tup [v0, v1, v2, v3]) e.good hp)
    have ep := ext_own (o := .tup [v0, v1, v2, v3]) e.good hp
    refine ⟨p, _, rfl, SqT.of upd_same, rfl, _, _, rfl, _, _, rfl, _, _, rfl, _, _, rfl, rfl, ?_⟩
    have ev0 := st_own (k := i) (own_old hh.env) (hh.env.ext e') (a0.ext ep)
    obtain ⟨δ1, ev1, q1, _⟩ := st_name (k := j) ev0 (a1.ext ep) q
    obtain ⟨δ2, ev2, q2, _⟩ := st_name (k := k) ev1 (a2.ext ep) q1
    obtain ⟨δ3, ev3, q3, _⟩ := st_name (k := l) ev2 (a3.ext ep) q2
    exact lk.nx δ3 _ I' _ (hh.e0.trans hh.g0 e') e'.sub ev3 q3
  · exact q.elim
/-! ### list.count of texts -/
def eqs (z : Str) (v : Value) : Bool := match v with
  | .str y _ => y == z
  | _ => false
theorem eqs_gives {z : Str} {t : Tok} : ∀ {us : List Value} {ws : List Str}, StrsAre us ws → ∀ u ∈ us, MeetsSeq.EqGives u (.str z t) (eqs z u)
  | _, _, .nil => fun u h => nomatch h
  | _, _, .cons y t' h => fun u hu => by
    cases hu with
    | head => exact PyProof.Rows.eqGives_str y z _ t
    | tail _ m => exact eqs_gives h u m
theorem eqs_count {z : Str} : ∀ {us : List Value} {ws : List Str}, StrsAre us ws → us.countP (eqs z) = ws.count z
  | _, _, .nil => rfl
  | _, _, .cons y t h => by
    have ih := eqs_count (z := z) h
    rw [List.countP_cons, List.count_cons, ih]
    rfl
def rCntS (K : PySem.W.Frag) : V → List V → Hp → VK → Prop := fun x xs H Q => ∃ (p : Addr) (ws : List Str) (z : Str), x = .ref p ∧ xs = [.str z] ∧ SqL K H p (ws.map V.str) ∧ Q (.int (ws.count z : Nat)) H
theorem mt_countS : MtR X "list.count" (rCntS X.K) := by
  intro pins s σ H x xs v us Q I rx rxs h
  obtain ⟨p, ws, z, rfl, rfl, hs, q⟩ := h
  cases rx
  obtain ⟨u, rfl, t, rfl⟩ := rxs.one
  obtain ⟨its, rv, ⟨⟨c, dd, dt, sl⟩, n, ho, h1, h2, h3⟩, _⟩ := I.list hs
  simp only at h1 h3
  subst h1 h3
  have hi := rv.strs
  refine call_meets PySem.F.slot_list_count ⟨_, ho, rfl⟩ PySem.F.entry_list_count (PySem.F.args_list_count_2 _ _) (SeqAt.list_countAt p its.toArray n dd sl (.str z t) (eqs z)) ⟨ho, fun y hy => (eqs_gives hi y (by simpa using hy)).at _ _, ?_⟩
  refine ⟨.int (ws.count z : Nat), H, I.tok _, ⟨s.toks, ?_⟩, q⟩
  show Value.int ((its.toArray.toList.countP (eqs z) : Nat) : Int) s.toks = _
  rw [show its.toArray.toList.countP (eqs z) = ws.count z from eqs_count hi]
def oCount : DV → OC := fun x xs Q _ => ∃ (ws : List Str) (z : Str), lstOf x = some (ws.map PyData.str) ∧ xs = [.d (.str z)] ∧ Q (.d (.int (ws.count z : Nat)))
theorem md_count {K : PySem.W.Frag} (hK : Z.K = K) : MtD Z (rCntS K) oCount := fun I H Hs x v xs vs Qd Ed Q g' a b t k => by
  subst hK
  obtain ⟨ws, z, e, rfl, t⟩ := t
  obtain ⟨p, us, rfl, h1, h2, _⟩ := lst_at g'.g a e
  obtain ⟨u, rfl, b'⟩ := at1 b
  cases b'
  rw [SX.vals_sd h2] at h1
  exact ⟨p, ws, z, rfl, rfl, SqL.of h1, k.now g'.g (.int _) t⟩
end
end PD
set_option Elab.async false
set_option linter.all false
set_option maxRecDepth 100000
set_option maxHeartbeats 2000000
/-! PD31: a module's tuple constant. -/
namespace PD
open PySem PySem.Spec PyProof.Rows L2
mutual
/-- the value stands in the written part and reads as d -/
def datB (K : PySem.W.Frag) : PyData → Value → Bool
  | .int i, .int j _ => decide (i = j)
  | .none, .none => true
  | .tuple ds, .ref a => (match K.lookup a with
    | some ⟨.type c, _, .seq its _, _⟩ => decide (c = "tuple") && (decide (its.size ≤ sizeLine) && datAllB K ds its.toList)
    | _ => false)
  | _, _ => false
def datAllB (K : PySem.W.Frag) : List PyData → List Value → Bool
  | [], [] => true
  | d :: ds, v :: vs => datB K d v && datAllB K ds vs
  | _, _ => false
end
mutual
theorem datB_ok {K : PySem.W.Frag} : ∀ (d : PyData) (u : Value), datB K d u = true → ∃ v, L2.RelV v u ∧ ∀ H : Hp, Da K H v d
  | .int i, u, h => by
    cases u <;> simp [datB] at h
    subst h
    exact ⟨.int i, ⟨_, rfl⟩, fun H => .int i⟩
  | .none, u, h => by
    cases u <;> simp [datB] at h
    exact ⟨.non, rfl, fun H => .non⟩
  | .tuple ds, u, h => by
    cases u with
    | ref a =>
      rw [datB] at h
      split at h
      · rename_i c dd its n sl e
        simp only [Bool.and_eq_true, decide_eq_true_eq] at h
        obtain ⟨rfl, hz, h⟩ := h
        obtain ⟨vs, r, hd⟩ := datAllB_ok ds its.toList h
        exact ⟨.ref a, rfl, fun H => .tup (.inr ⟨_, its, n, e, rfl, rfl, hz, r⟩) (hd H)⟩
      · cases h
    | _ => simp [datB] at h
  | .bool _, u, h => by cases u <;> simp [datB] at h
  | .str _, u, h => by cases u <;> simp [datB] at h
  | .list _, u, h => by cases u <;> simp [datB] at h
  | .dict _, u, h => by cases u <;> simp [datB] at h
theorem datAllB_ok {K : PySem.W.Frag} : ∀ (ds : List PyData) (us : List Value), datAllB K ds us = true → ∃ vs, Vals vs us ∧ ∀ H : Hp, DaAll K H vs ds
  | [], [], _ => ⟨[], .nil, fun H => .nil⟩
  | [], _ :: _, h => by simp [datAllB] at h
  | _ :: _, [], h => by simp [datAllB] at h
  | d :: ds, u :: us, h => by
    rw [datAllB, Bool.and_eq_true] at h
    obtain ⟨v, r, hd⟩ := datB_ok d u h.1
    obtain ⟨vs, rs, hs⟩ := datAllB_ok ds us h.2
    exact ⟨v :: vs, .cons r rs, fun H => .cons (hd H) (hs H)⟩
end
theorem datB_ref {K : PySem.W.Frag} {ds : List PyData} {a : Addr} (h : datB K (.tuple ds) (.ref a) = true) : ∀ H : Hp, Da K H (.ref a) (.tuple ds) := by
  rw [datB] at h
  split at h
  · rename_i c dd its n sl e
    simp only [Bool.and_eq_true, decide_eq_true_eq] at h
    obtain ⟨rfl, hz, h⟩ := h
    obtain ⟨vs, r, hd⟩ := datAllB_ok ds its.toList h
    exact fun H => .tup (.inr ⟨_, its, n, e, rfl, rfl, hz, r⟩) (hd H)
  · cases h
section
variable {X : Cx} {Z : Zx} {pos : Pos}
theorem de_gdat {x : Str} {a : Addr} {d : PyData} (hg : Gl X x) (hm : X.mg x = some (.ref a)) (h : ∀ H : Hp, Da Z.K H (.ref a) d) (hd : (x == ("__debug__" : Str)) = false := by decide) : DE X Z (.Name x pos) (tC (.ref a)) (dC (.d d)) :=
  de_c (pe_glob hg hm rfl hd) fun _ I _ => h I
end
end PD
set_option Elab.async false
set_option linter.all false
set_option maxRecDepth 100000
set_option maxHeartbeats 4000000
namespace K85
open PySem PySem.Spec PyProof.Rows L2 PD
abbrev St := L2.St
abbrev pw := PySem.Challenge.pw_playstead_k85_sums_by_numbers
def top (i : Nat) : Stmt := pw.main.body.getD i (.Pass ⟨0, 0, 0, 0⟩)
def fdOf (K : PySem.W.Frag) (f : Addr) : FuncData := match K.lookup f with | some ⟨_, _, .func fd, _⟩ => fd | _ => default
structure Tx (K : PySem.W.Frag) (w : World) (mg : Str → Option Value) : Prop where
  fd_is_name : FunD K "is_name" "is_name" (defArgs (top 10)) (defBody (top 10)) (defScope (top 10)) [] [] (He.ga K "is_name") (fdOf K (He.ga K "is_name"))
  g_is_name : mg "is_name" = some (.ref (He.ga K "is_name"))
  fd_is_number : FunD K "is_number" "is_number" (defArgs (top 11)) (defBody (top 11)) (defScope (top 11)) [] [] (He.ga K "is_number") (fdOf K (He.ga K "is_number"))
  g_is_number : mg "is_number" = some (.ref (He.ga K "is_number"))
  fd_is_step : FunD K "is_step" "is_step" (defArgs (top 20)) (defBody (top 20)) (defScope (top 20)) [] [] (He.ga K "is_step") (fdOf K (He.ga K "is_step"))
  g_is_step : mg "is_step" = some (.ref (He.ga K "is_step"))
  fd_are_steps : FunD K "are_steps" "are_steps" (defArgs (top 21)) (defBody (top 21)) (defScope (top 21)) [] [] (He.ga K "are_steps") (fdOf K (He.ga K "are_steps"))
  g_are_steps : mg "are_steps" = some (.ref (He.ga K "are_steps"))
  fd_are_lowest : FunD K "are_lowest" "are_lowest" (defArgs (top 27)) (defBody (top 27)) (defScope (top 27)) [] [] (He.ga K "are_lowest") (fdOf K (He.ga K "are_lowest"))
  g_are_lowest : mg "are_lowest" = some (.ref (He.ga K "are_lowest"))
  fd_is_led_row : FunD K "is_led_row" "is_led_row" (defArgs (top 28)) (defBody (top 28)) (defScope (top 28)) [] [] (He.ga K "is_led_row") (fdOf K (He.ga K "is_led_row"))
  g_is_led_row : mg "is_led_row" = some (.ref (He.ga K "is_led_row"))
  fd_are_led_rows : FunD K "are_led_rows" "are_led_rows" (defArgs (top 29)) (defBody (top 29)) (defScope (top 29)) [] [] (He.ga K "are_led_rows") (fdOf K (He.ga K "are_led_rows"))
  g_are_led_rows : mg "are_led_rows" = some (.ref (He.ga K "are_led_rows"))
  fd_gain_of : FunD K "gain_of" "gain_of" (defArgs (top 30)) (defBody (top 30)) (defScope (top 30)) [] [] (He.ga K "gain_of") (fdOf K (He.ga K "gain_of"))
  g_gain_of : mg "gain_of" = some (.ref (He.ga K "gain_of"))
  fd_k_of : FunD K "k_of" "k_of" (defArgs (top 31)) (defBody (top 31)) (defScope (top 31)) [] [] (He.ga K "k_of") (fdOf K (He.ga K "k_of"))
  g_k_of : mg "k_of" = some (.ref (He.ga K "k_of"))
  fd_is_led_day : FunD K "is_led_day" "is_led_day" (defArgs (top 32)) (defBody (top 32)) (defScope (top 32)) [] [] (He.ga K "is_led_day") (fdOf K (He.ga K "is_led_day"))
  g_is_led_day : mg "is_led_day" = some (.ref (He.ga K "is_led_day"))
  fd__law_pick : FunD K "_law_pick" "_law_pick" (defArgs (top 38)) (defBody (top 38)) (defScope (top 38)) [] [] (He.ga K "_law_pick") (fdOf K (He.ga K "_law_pick"))
  g__law_pick : mg "_law_pick" = some (.ref (He.ga K "_law_pick"))
  fd__law_name : FunD K "_law_name" "_law_name" (defArgs (top 39)) (defBody (top 39)) (defScope (top 39)) [] [] (He.ga K "_law_name") (fdOf K (He.ga K "_law_name"))
  g__law_name : mg "_law_name" = some (.ref (He.ga K "_law_name"))
  fd__law_is_name : FunD K "_law_is_name" "_law_is_name" (defArgs (top 40)) (defBody (top 40)) (defScope (top 40)) [] [] (He.ga K "_law_is_name") (fdOf K (He.ga K "_law_is_name"))
  g__law_is_name : mg "_law_is_name" = some (.ref (He.ga K "_law_is_name"))
  fd__law_is_between : FunD K "_law_is_between" "_law_is_between" (defArgs (top 41)) (defBody (top 41)) (defScope (top 41)) [] [] (He.ga K "_law_is_between") (fdOf K (He.ga K "_law_is_between"))
  g__law_is_between : mg "_law_is_between" = some (.ref (He.ga K "_law_is_between"))
  fd__law_lowest : FunD K "_law_lowest" "_law_lowest" (defArgs (top 42)) (defBody (top 42)) (defScope (top 42)) [] [] (He.ga K "_law_lowest") (fdOf K (He.ga K "_law_lowest"))
  g__law_lowest : mg "_law_lowest" = some (.ref (He.ga K "_law_lowest"))
  fd__law_terms : FunD K "_law_terms" "_law_terms" (defArgs (top 43)) (defBody (top 43)) (defScope (top 43)) [] [] (He.ga K "_law_terms") (fdOf K (He.ga K "_law_terms"))
  g__law_terms : mg "_law_terms" = some (.ref (He.ga K "_law_terms"))
  fd__law_gained : FunD K "_law_gained" "_law_gained" (defArgs (top 44)) (defBody (top 44)) (defScope (top 44)) [] [] (He.ga K "_law_gained") (fdOf K (He.ga K "_law_gained"))
  g__law_gained : mg "_law_gained" = some (.ref (He.ga K "_law_gained"))
  fd__law_k : FunD K "_law_k" "_law_k" (defArgs (top 45)) (defBody (top 45)) (defScope (top 45)) [] [] (He.ga K "_law_k") (fdOf K (He.ga K "_law_k"))
  g__law_k : mg "_law_k" = some (.ref (He.ga K "_law_k"))
  fd__law_rows : FunD K "_law_rows" "_law_rows" (defArgs (top 46)) (defBody (top 46)) (defScope (top 46)) [] [] (He.ga K "_law_rows") (fdOf K (He.ga K "_law_rows"))
  g__law_rows : mg "_law_rows" = some (.ref (He.ga K "_law_rows"))
  fd__law_good : FunD K "_law_good" "_law_good" (defArgs (top 47)) (defBody (top 47)) (defScope (top 47)) [] [] (He.ga K "_law_good") (fdOf K (He.ga K "_law_good"))
  g__law_good : mg "_law_good" = some (.ref (He.ga K "_law_good"))
  fd__law_is_share : FunD K "_law_is_share" "_law_is_share" (defArgs (top 48)) (defBody (top 48)) (defScope (top 48)) [] [] (He.ga K "_law_is_share") (fdOf K (He.ga K "_law_is_share"))
  g__law_is_share : mg "_law_is_share" = some (.ref (He.ga K "_law_is_share"))
  fd__law_is_row : FunD K "_law_is_row" "_law_is_row" (defArgs (top 49)) (defBody (top 49)) (defScope (top 49)) [] [] (He.ga K "_law_is_row") (fdOf K (He.ga K "_law_is_row"))
  g__law_is_row : mg "_law_is_row" = some (.ref (He.ga K "_law_is_row"))
  fd__law_are_rows : FunD K "_law_are_rows" "_law_are_rows" (defArgs (top 50)) (defBody (top 50)) (defScope (top 50)) [] [] (He.ga K "_law_are_rows") (fdOf K (He.ga K "_law_are_rows"))
  g__law_are_rows : mg "_law_are_rows" = some (.ref (He.ga K "_law_are_rows"))
  fd__law_due : FunD K "_law_due" "_law_due" (defArgs (top 51)) (defBody (top 51)) (defScope (top 51)) [] [] (He.ga K "_law_due") (fdOf K (He.ga K "_law_due"))
  g__law_due : mg "_law_due" = some (.ref (He.ga K "_law_due"))
  fd__law_other : FunD K "_law_other" "_law_other" (defArgs (top 52)) (defBody (top 52)) (defScope (top 52)) [] [] (He.ga K "_law_other") (fdOf K (He.ga K "_law_other"))
  g__law_other : mg "_law_other" = some (.ref (He.ga K "_law_other"))
  fd__law_take : FunD K "_law_take" "_law_take" (defArgs (top 37)) (defBody (top 37)) (defScope (top 37)) [] [] (He.ga K "_law_take") (fdOf K (He.ga K "_law_take"))
  g__law_take : mg "_law_take" = some (.ref (He.ga K "_law_take"))
  fd__law_mixed : FunD K "_law_mixed" "_law_mixed" (defArgs (top 36)) (defBody (top 36)) (defScope (top 36)) [] [] (He.ga K "_law_mixed") (fdOf K (He.ga K "_law_mixed"))
  g__law_mixed : mg "_law_mixed" = some (.ref (He.ga K "_law_mixed"))
  fd__law_begun : FunD K "_law_begun" "_law_begun" (defArgs (top 35)) (defBody (top 35)) (defScope (top 35)) [] [] (He.ga K "_law_begun") (fdOf K (He.ga K "_law_begun"))
  g__law_begun : mg "_law_begun" = some (.ref (He.ga K "_law_begun"))
  fd__law_bent : FunD K "_law_bent" "_law_bent" (defArgs (top 53)) (defBody (top 53)) (defScope (top 53)) [] [] (He.ga K "_law_bent") (fdOf K (He.ga K "_law_bent"))
  g__law_bent : mg "_law_bent" = some (.ref (He.ga K "_law_bent"))
  fd__law_refused : FunD K "_law_refused" "_law_refused" (defArgs (top 54)) (defBody (top 54)) (defScope (top 54)) [] [] (He.ga K "_law_refused") (fdOf K (He.ga K "_law_refused"))
  g__law_refused : mg "_law_refused" = some (.ref (He.ga K "_law_refused"))
  fd_law : FunD K "law" "law" (defArgs (top 55)) (defBody (top 55)) (defScope (top 55)) [] [] (He.ga K "law") (fdOf K (He.ga K "law"))
  g_law : mg "law" = some (.ref (He.ga K "law"))
  fd_sums : FunD K "sums" "sums" (defArgs (top 33)) (defBody (top 33)) (defScope (top 33)) [] [] (He.ga K "sums") (fdOf K (He.ga K "sums"))
  g_sums : mg "sums" = some (.ref (He.ga K "sums"))
  fd__wall : FunD K "_wall" "_wall" (defArgs (top 0)) (defBody (top 0)) (defScope (top 0)) [] [] (He.ga K "_wall") (fdOf K (He.ga K "_wall"))
  g__wall : mg "_wall" = some (.ref (He.ga K "_wall"))
  k_GREATEST_K : ∃ t, mg "GREATEST_K" = some (.int 100 t)
  k_LAST_DAY : ∃ t, mg "LAST_DAY" = some (.int 400 t)
  k_LETTERS : ∃ t, mg "LETTERS" = some (.str "abcdefghijklmnopqrstuvwxyz" t)
  k_LONGEST : ∃ t, mg "LONGEST" = some (.int 8 t)
  k_MOST_OTHERS : ∃ t, mg "MOST_OTHERS" = some (.int 3 t)
  k_MOST_STEPS : ∃ t, mg "MOST_STEPS" = some (.int 4 t)
  f_all : mg "all" = none
  f_any : mg "any" = none
  f_bool : mg "bool" = none
  f_int : mg "int" = none
  f_isinstance : mg "isinstance" = none
  f_len : mg "len" = none
  f_list : mg "list" = none
  f_max : mg "max" = none
  f_range : mg "range" = none
  f_set : mg "set" = none
  f_sorted : mg "sorted" = none
  f_str : mg "str" = none
  f_tuple : mg "tuple" = none
  g_Ladder : mg "Ladder" = some (.ref (He.ga K "Ladder"))
  g_NoDay : mg "NoDay" = some (.ref (He.ga K "NoDay"))
  g_NoLadder : mg "NoLadder" = some (.ref (He.ga K "NoLadder"))
  g_NoName : mg "NoName" = some (.ref (He.ga K "NoName"))
  g_NoResult : mg "NoResult" = some (.ref (He.ga K "NoResult"))
  g_SteadError : mg "SteadError" = some (.ref (He.ga K "SteadError"))
  g_SHARES : mg "SHARES" = some (.ref (He.ga K "SHARES"))
  gt_SHARES : ∀ H : Hp, Da K H (.ref (He.ga K "SHARES")) (.tuple [.tuple [.int 0, .int 1], .tuple [.int 1, .int 2], .tuple [.int 1, .int 1]])
  k_HIGHEST : ∃ t, mg "HIGHEST" = some (.int 4000 t)
  k_WIDEST : ∃ t, mg "WIDEST" = some (.int 1000 t)
  fd_Linit : FunD K "__init__" "Ladder.__init__" (defArgs (inClass (top 22) 0)) (defBody (inClass (top 22) 0)) (defScope (inClass (top 22) 0)) [] [("least", .int 100)] (He.ma K (He.ga K "Ladder") "__init__") (fdOf K (He.ma K (He.ga K "Ladder") "__init__"))
  fd_Ltold : FunD K "told" "Ladder.told" (defArgs (inClass (top 22) 1)) (defBody (inClass (top 22) 1)) (defScope (inClass (top 22) 1)) [] [] (He.ma K (He.ga K "Ladder") "told") (fdOf K (He.ma K (He.ga K "Ladder") "told"))
  cl_Ladder : Cls K (He.ga K "Ladder")
  mk_Ladder : Mk K (He.ga K "Ladder") (He.ma K (He.ga K "Ladder") "__init__")
  me_told : Meth K (He.ga K "Ladder") "told" (He.ma K (He.ga K "Ladder") "told")
  np_Ladder : NoAttr K (He.ga K "Ladder") "parts_told"
  ex_NoLadder : PySem.W.excIn K (He.ga K "NoLadder") [.type "ValueError", .type "Exception", .type "BaseException", .type "object"] "ValueError.__new__" = true
  kc_NoLadder : PySem.W.keepIn K (.ref (He.ga K "NoLadder")) = true
  sb_NoLadder : PySem.W.subIn K (.ref (He.ga K "NoLadder")) (.type "BaseException") = some true
  ty_NoLadder : PySem.W.typeIn K (.ref (He.ga K "NoLadder")) = some (.type "type")
  hc_Ladder : PySem.W.findIn K (.ref (He.ga K "Ladder")) "__class__" = some (some (.builtin "object.__class__"))
  hm_Ladder : PySem.W.mroIn K (He.ga K "Ladder") (.type "object") = some true
  xc_NoLadder : ExcC K (He.ga K "NoLadder")
  em_NoLadder_SteadError : PySem.W.exmOne K (.ref (He.ga K "NoLadder")) (.ref (He.ga K "SteadError")) = some true
  ki_NoDay : PySem.W.kitOne K (.ref (He.ga K "NoLadder")) (.ref (He.ga K "NoDay")) = some false
  ki_NoName : PySem.W.kitOne K (.ref (He.ga K "NoLadder")) (.ref (He.ga K "NoName")) = some false
  ki_NoResult : PySem.W.kitOne K (.ref (He.ga K "NoLadder")) (.ref (He.ga K "NoResult")) = some false
  ki_NoLadder : PySem.W.kitOne K (.ref (He.ga K "NoLadder")) (.ref (He.ga K "NoLadder")) = some true
  kl_NoneType : PySem.W.kitOne K (.type "NoneType") (.ref (He.ga K "Ladder")) = some false
  kl_tuple : PySem.W.kitOne K (.type "tuple") (.ref (He.ga K "Ladder")) = some false
  kl_str : PySem.W.kitOne K (.type "str") (.ref (He.ga K "Ladder")) = some false
  kl_dict : PySem.W.kitOne K (.type "dict") (.ref (He.ga K "Ladder")) = some false
  kl_int : PySem.W.kitOne K (.type "int") (.ref (He.ga K "Ladder")) = some false
  kl_list : PySem.W.kitOne K (.type "list") (.ref (He.ga K "Ladder")) = some false
  kl_bool : PySem.W.kitOne K (.type "bool") (.ref (He.ga K "Ladder")) = some false
  kl_Ladder : PySem.W.kitOne K (.ref (He.ga K "Ladder")) (.ref (He.ga K "Ladder")) = some true
section
variable {P : Program} {w : World} {K : PySem.W.Frag} {mg : Str → Option Value} {base : Heap}
theorem sc_is_name : FnScope ["thing", "sign"] ["thing"] (defScope (top 10)) := ⟨rfl, rfl, rfl, by decide +kernel, rfl, by decide +kernel, by decide +kernel⟩
theorem bd_is_name (c : Tx K w mg) : Binds K (fdOf K (He.ga K "is_name")) ["thing"] [] := c.fd_is_name.bindsN fun _ _ _ _ _ _ us hl => match us, hl with | [_], _ => rfl
theorem sc_is_number : FnScope ["thing", "low", "high"] ["thing", "low", "high"] (defScope (top 11)) := ⟨rfl, rfl, rfl, by decide +kernel, rfl, by decide +kernel, by decide +kernel⟩
theorem bd_is_number (c : Tx K w mg) : Binds K (fdOf K (He.ga K "is_number")) ["thing", "low", "high"] [] := c.fd_is_number.bindsN fun _ _ _ _ _ _ us hl => match us, hl with | [_, _, _], _ => rfl
theorem sc_is_step : FnScope ["thing", "is_last"] ["thing", "is_last"] (defScope (top 20)) := ⟨rfl, rfl, rfl, by decide +kernel, rfl, by decide +kernel, by decide +kernel⟩
theorem bd_is_step (c : Tx K w mg) : Binds K (fdOf K (He.ga K "is_step")) ["thing", "is_last"] [] := c.fd_is_step.bindsN fun _ _ _ _ _ _ us hl => match us, hl with | [_, _], _ => rfl
theorem sc_are_steps : FnScope ["thing", "others", "last", "one", "games"] ["thing"] (defScope (top 21)) := ⟨rfl, rfl, rfl, by decide +kernel, rfl, by decide +kernel, by decide +kernel⟩
theorem bd_are_steps (c : Tx K w mg) : Binds K (fdOf K (He.ga K "are_steps")) ["thing"] [] := c.fd_are_steps.bindsN fun _ _ _ _ _ _ us hl => match us, hl with | [_], _ => rfl
theorem sc_are_lowest : FnScope ["thing", "one", "other"] ["thing"] (defScope (top 27)) := ⟨rfl, rfl, rfl, by decide +kernel, rfl, by decide +kernel, by decide +kernel⟩
theorem bd_are_lowest (c : Tx K w mg) : Binds K (fdOf K (He.ga K "are_lowest")) ["thing"] [] := c.fd_are_lowest.bindsN fun _ _ _ _ _ _ us hl => match us, hl with | [_], _ => rfl
theorem sc_is_led_row : FnScope ["thing", "game", "other", "share", "awaited", "numbers", "at"] ["thing"] (defScope (top 28)) := ⟨rfl, rfl, rfl, by decide +kernel, rfl, by decide +kernel, by decide +kernel⟩
theorem bd_is_led_row (c : Tx K w mg) : Binds K (fdOf K (He.ga K "is_led_row")) ["thing"] [] := c.fd_is_led_row.bindsN fun _ _ _ _ _ _ us hl => match us, hl with | [_], _ => rfl
theorem sc_are_led_rows : FnScope ["thing", "row", "games", "game"] ["thing"] (defScope (top 29)) := ⟨rfl, rfl, rfl, by decide +kernel, rfl, by decide +kernel, by decide +kernel⟩
theorem bd_are_led_rows (c : Tx K w mg) : Binds K (fdOf K (He.ga K "are_led_rows")) ["thing"] [] := c.fd_are_led_rows.bindsN fun _ _ _ _ _ _ us hl => match us, hl with | [_], _ => rfl
theorem sc_gain_of : FnScope ["rows", "k", "above", "below", "game", "other", "share", "awaited", "numbers", "part"] ["rows", "k"] (defScope (top 30)) := ⟨rfl, rfl, rfl, by decide +kernel, rfl, by decide +kernel, by decide +kernel⟩
theorem bd_gain_of (c : Tx K w mg) : Binds K (fdOf K (He.ga K "gain_of")) ["rows", "k"] [] := c.fd_gain_of.bindsN fun _ _ _ _ _ _ us hl => match us, hl with | [_, _], _ => rfl
theorem sc_k_of : FnScope ["steps", "many", "games", "k"] ["steps", "many"] (defScope (top 31)) := ⟨rfl, rfl, rfl, by decide +kernel, rfl, by decide +kernel, by decide +kernel⟩
theorem bd_k_of (c : Tx K w mg) : Binds K (fdOf K (He.ga K "k_of")) ["steps", "many"] [] := c.fd_k_of.bindsN fun _ _ _ _ _ _ us hl => match us, hl with | [_, _], _ => rfl
theorem sc_is_led_day : FnScope ["thing", "last", "one"] ["thing", "last"] (defScope (top 32)) := ⟨rfl, rfl, rfl, by decide +kernel, rfl, by decide +kernel, by decide +kernel⟩
theorem bd_is_led_day (c : Tx K w mg) : Binds K (fdOf K (He.ga K "is_led_day")) ["thing", "last"] [] := c.fd_is_led_day.bindsN fun _ _ _ _ _ _ us hl => match us, hl with | [_, _], _ => rfl
theorem sc__law_pick : FnScope ["_law_state", "_law_some"] ["_law_state", "_law_some"] (defScope (top 38)) := ⟨rfl, rfl, rfl, by decide +kernel, rfl, by decide +kernel, by decide +kernel⟩
theorem bd__law_pick (c : Tx K w mg) : Binds K (fdOf K (He.ga K "_law_pick")) ["_law_state", "_law_some"] [] := c.fd__law_pick.bindsN fun _ _ _ _ _ _ us hl => match us, hl with | [_, _], _ => rfl
theorem sc__law_name : FnScope ["_law_state", "_law_letters", "_law_own", "_law_sign"] ["_law_state"] (defScope (top 39)) := ⟨rfl, rfl, rfl, by decide +kernel, rfl, by decide +kernel, by decide +kernel⟩
theorem bd__law_name (c : Tx K w mg) : Binds K (fdOf K (He.ga K "_law_name")) ["_law_state"] [] := c.fd__law_name.bindsN fun _ _ _ _ _ _ us hl => match us, hl with | [_], _ => rfl
theorem sc__law_is_name : FnScope ["_law_thing", "_law_sign"] ["_law_thing"] (defScope (top 40)) := ⟨rfl, rfl, rfl, by decide +kernel, rfl, by decide +kernel, by decide +kernel⟩
theorem bd__law_is_name (c : Tx K w mg) : Binds K (fdOf K (He.ga K "_law_is_name")) ["_law_thing"] [] := c.fd__law_is_name.bindsN fun _ _ _ _ _ _ us hl => match us, hl with | [_], _ => rfl
theorem sc__law_is_between : FnScope ["_law_thing", "_law_low", "_law_high"] ["_law_thing", "_law_low", "_law_high"] (defScope (top 41)) := ⟨rfl, rfl, rfl, by decide +kernel, rfl, by decide +kernel, by decide +kernel⟩
theorem bd__law_is_between (c : Tx K w mg) : Binds K (fdOf K (He.ga K "_law_is_between")) ["_law_thing", "_law_low", "_law_high"] [] := c.fd__law_is_between.bindsN fun _ _ _ _ _ _ us hl => match us, hl with | [_, _, _], _ => rfl
theorem sc__law_lowest : FnScope ["_law_above", "_law_below", "_law_one", "_law_other_here"] ["_law_above", "_law_below"] (defScope (top 42)) := ⟨rfl, rfl, rfl, by decide +kernel, rfl, by decide +kernel, by decide +kernel⟩
theorem bd__law_lowest (c : Tx K w mg) : Binds K (fdOf K (He.ga K "_law_lowest")) ["_law_above", "_law_below"] [] := c.fd__law_lowest.bindsN fun _ _ _ _ _ _ us hl => match us, hl with | [_, _], _ => rfl
theorem sc__law_terms : FnScope ["_law_state", "_law_floor_at", "_law_begun_at", "_law_stairs", "_law_at", "_law_k_here"] ["_law_state"] (defScope (top 43)) := ⟨rfl, rfl, rfl, by decide +kernel, rfl, by decide +kernel, by decide +kernel⟩
theorem bd__law_terms (c : Tx K w mg) : Binds K (fdOf K (He.ga K "_law_terms")) ["_law_state"] [] := c.fd__law_terms.bindsN fun _ _ _ _ _ _ us hl => match us, hl with | [_], _ => rfl
theorem sc__law_gained : FnScope ["_law_some", "_law_k_here", "_law_above", "_law_below", "_law_row", "_law_share", "_law_awaited", "_law_part"] ["_law_some", "_law_k_here"] (defScope (top 44)) := ⟨rfl, rfl, rfl, by decide +kernel, rfl, by decide +kernel, by decide +kernel⟩
theorem bd__law_gained (c : Tx K w mg) : Binds K (fdOf K (He.ga K "_law_gained")) ["_law_some", "_law_k_here"] [] := c.fd__law_gained.bindsN fun _ _ _ _ _ _ us hl => match us, hl with | [_, _], _ => rfl
theorem sc__law_k : FnScope ["_law_terms_here", "_law_many", "_law_games_of", "_law_k_here"] ["_law_terms_here", "_law_many"] (defScope (top 45)) := ⟨rfl, rfl, rfl, by decide +kernel, rfl, by decide +kernel, by decide +kernel⟩
theorem bd__law_k (c : Tx K w mg) : Binds K (fdOf K (He.ga K "_law_k")) ["_law_terms_here", "_law_many"] [] := c.fd__law_k.bindsN fun _ _ _ _ _ _ us hl => match us, hl with | [_, _], _ => rfl
theorem sc__law_rows : FnScope ["_law_state", "_law_found", "_law_title", "_law_k_here", "_law_others", "_law_numbers", "_law_at", "_law_other_here", "_law_share", "_law_below", "_law_awaited"] ["_law_state"] (defScope (top 46)) := ⟨rfl, rfl, rfl, by decide +kernel, rfl, by decide +kernel, by decide +kernel⟩
theorem bd__law_rows (c : Tx K w mg) : Binds K (fdOf K (He.ga K "_law_rows")) ["_law_state"] [] := c.fd__law_rows.bindsN fun _ _ _ _ _ _ us hl => match us, hl with | [_], _ => rfl
theorem sc__law_good : FnScope ["_law_state", "_law_terms_here", "_law_found", "_law_last", "_law_stands", "_law_many", "_law_k_here", "_law_some", "_law_behind", "_law_row"] ["_law_state", "_law_terms_here"] (defScope (top 47)) := ⟨rfl, rfl, rfl, by decide +kernel, rfl, by decide +kernel, by decide +kernel⟩
theorem bd__law_good (c : Tx K w mg) : Binds K (fdOf K (He.ga K "_law_good")) ["_law_state", "_law_terms_here"] [] := c.fd__law_good.bindsN fun _ _ _ _ _ _ us hl => match us, hl with | [_, _], _ => rfl
theorem sc__law_is_share : FnScope ["_law_thing", "_law_halves"] ["_law_thing", "_law_halves"] (defScope (top 48)) := ⟨rfl, rfl, rfl, by decide +kernel, rfl, by decide +kernel, by decide +kernel⟩
theorem bd__law_is_share (c : Tx K w mg) : Binds K (fdOf K (He.ga K "_law_is_share")) ["_law_thing", "_law_halves"] [] := c.fd__law_is_share.bindsN fun _ _ _ _ _ _ us hl => match us, hl with | [_, _], _ => rfl
theorem sc__law_is_row : FnScope ["_law_row", "_law_one", "_law_at"] ["_law_row"] (defScope (top 49)) := ⟨rfl, rfl, rfl, by decide +kernel, rfl, by decide +kernel, by decide +kernel⟩
theorem bd__law_is_row (c : Tx K w mg) : Binds K (fdOf K (He.ga K "_law_is_row")) ["_law_row"] [] := c.fd__law_is_row.bindsN fun _ _ _ _ _ _ us hl => match us, hl with | [_], _ => rfl
theorem sc__law_are_rows : FnScope ["_law_some", "_law_row", "_law_titles", "_law_pairs", "_law_title"] ["_law_some"] (defScope (top 50)) := ⟨rfl, rfl, rfl, by decide +kernel, rfl, by decide +kernel, by decide +kernel⟩
theorem bd__law_are_rows (c : Tx K w mg) : Binds K (fdOf K (He.ga K "_law_are_rows")) ["_law_some"] [] := c.fd__law_are_rows.bindsN fun _ _ _ _ _ _ us hl => match us, hl with | [_], _ => rfl
theorem sc__law_due : FnScope ["_law_rows_of", "_law_terms_here", "_law_last", "_law_stands", "_law_many", "_law_one", "_law_due_here", "_law_row"] ["_law_rows_of", "_law_terms_here"] (defScope (top 51)) := ⟨rfl, rfl, rfl, by decide +kernel, rfl, by decide +kernel, by decide +kernel⟩
theorem bd__law_due (c : Tx K w mg) : Binds K (fdOf K (He.ga K "_law_due")) ["_law_rows_of", "_law_terms_here"] [] := c.fd__law_due.bindsN fun _ _ _ _ _ _ us hl => match us, hl with | [_, _], _ => rfl
theorem sc__law_other : FnScope ["_law_state", "_law_part", "_law_some"] ["_law_state", "_law_part"] (defScope (top 52)) := ⟨rfl, rfl, rfl, by decide +kernel, rfl, by decide +kernel, by decide +kernel⟩
theorem bd__law_other (c : Tx K w mg) : Binds K (fdOf K (He.ga K "_law_other")) ["_law_state", "_law_part"] [] := c.fd__law_other.bindsN fun _ _ _ _ _ _ us hl => match us, hl with | [_, _], _ => rfl
theorem sc__law_take : FnScope ["_law_state", "_law_many", "_law_found"] ["_law_state", "_law_many"] (defScope (top 37)) := ⟨rfl, rfl, rfl, by decide +kernel, rfl, by decide +kernel, by decide +kernel⟩
theorem bd__law_take (c : Tx K w mg) : Binds K (fdOf K (He.ga K "_law_take")) ["_law_state", "_law_many"] [] := c.fd__law_take.bindsN fun _ _ _ _ _ _ us hl => match us, hl with | [_, _], _ => rfl
theorem sc__law_mixed : FnScope ["_law_state", "_law_turn", "_law_found", "_law_prime", "_law_blend", "_law_cell"] ["_law_state"] (defScope (top 36)) := ⟨rfl, rfl, rfl, by decide +kernel, rfl, by decide +kernel, by decide +kernel⟩
theorem bd__law_mixed (c : Tx K w mg) : Binds K (fdOf K (He.ga K "_law_mixed")) ["_law_state"] [] := c.fd__law_mixed.bindsN fun _ _ _ _ _ _ us hl => match us, hl with | [_], _ => rfl
theorem sc__law_begun : FnScope ["_law_script", "_law_span", "_law_cell"] ["_law_script"] (defScope (top 35)) := ⟨rfl, rfl, rfl, by decide +kernel, rfl, by decide +kernel, by decide +kernel⟩
theorem bd__law_begun (c : Tx K w mg) : Binds K (fdOf K (He.ga K "_law_begun")) ["_law_script"] [] := c.fd__law_begun.bindsN fun _ _ _ _ _ _ us hl => match us, hl with | [_], _ => rfl
theorem sc__law_bent : FnScope ["_law_state", "_law_thing", "_law_deep", "_law_at", "_law_some"] ["_law_state", "_law_thing", "_law_deep"] (defScope (top 53)) := ⟨rfl, rfl, rfl, by decide +kernel, rfl, by decide +kernel, by decide +kernel⟩
theorem bd__law_bent (c : Tx K w mg) : Binds K (fdOf K (He.ga K "_law_bent")) ["_law_state", "_law_thing", "_law_deep"] [] := c.fd__law_bent.bindsN fun _ _ _ _ _ _ us hl => match us, hl with | [_, _, _], _ => rfl
theorem sc__law_refused : FnScope ["_law_thing", "_law_caught", "e"] ["_law_thing"] (defScope (top 54)) := ⟨rfl, rfl, rfl, by decide +kernel, rfl, by decide +kernel, by decide +kernel⟩
theorem bd__law_refused (c : Tx K w mg) : Binds K (fdOf K (He.ga K "_law_refused")) ["_law_thing"] [] := c.fd__law_refused.bindsN fun _ _ _ _ _ _ us hl => match us, hl with | [_], _ => rfl
theorem sc_law : FnScope ["_law_script", "_law_state", "_law_turn", "_law_bends", "_law_terms_here", "_law_scale", "_law_pages", "_law_k_here", "_law_found"] ["_law_script"] (defScope (top 55)) := ⟨rfl, rfl, rfl, by decide +kernel, rfl, by decide +kernel, by decide +kernel⟩
theorem bd_law (c : Tx K w mg) : Binds K (fdOf K (He.ga K "law")) ["_law_script"] [] := c.fd_law.bindsN fun _ _ _ _ _ _ us hl => match us, hl with | [_], _ => rfl
theorem sc_sums : FnScope ["rows", "ladder", "stands", "wide", "steps", "least", "last", "many", "thing", "ahead", "some", "row"] ["rows", "ladder"] (defScope (top 33)) := ⟨rfl, rfl, rfl, by decide +kernel, rfl, by decide +kernel, by decide +kernel⟩
theorem bd_sums (c : Tx K w mg) : Binds K (fdOf K (He.ga K "sums")) ["rows", "ladder"] [] := c.fd_sums.bindsN fun _ _ _ _ _ _ us hl => match us, hl with | [_, _], _ => rfl
theorem sc__wall : FnScope ["k"] ["k"] (defScope (top 0)) := ⟨rfl, rfl, rfl, by decide +kernel, rfl, by decide +kernel, by decide +kernel⟩
theorem bd__wall (c : Tx K w mg) : Binds K (fdOf K (He.ga K "_wall")) ["k"] [] := c.fd__wall.bindsN fun _ _ _ _ _ _ us hl => match us, hl with | [_], _ => rfl
end
end K85
set_option Elab.async false
set_option linter.all false
set_option maxRecDepth 100000
set_option maxHeartbeats 0
namespace K85
open PySem PySem.Spec PyProof.Rows L2 PD
def d_is_name : He.DefD := ⟨("is_name", none), "is_name", "is_name", defArgs (top 10), defBody (top 10), defScope (top 10), [], []⟩
def d_is_number : He.DefD := ⟨("is_number", none), "is_number", "is_number", defArgs (top 11), defBody (top 11), defScope (top 11), [], []⟩
def d_is_step : He.DefD := ⟨("is_step", none), "is_step", "is_step", defArgs (top 20), defBody (top 20), defScope (top 20), [], []⟩
def d_are_steps : He.DefD := ⟨("are_steps", none), "are_steps", "are_steps", defArgs (top 21), defBody (top 21), defScope (top 21), [], []⟩
def d_are_lowest : He.DefD := ⟨("are_lowest", none), "are_lowest", "are_lowest", defArgs (top 27), defBody (top 27), defScope (top 27), [], []⟩
def d_is_led_row : He.DefD := ⟨("is_led_row", none), "is_led_row", "is_led_row", defArgs (top 28), defBody (top 28), defScope (top 28), [], []⟩
def d_are_led_rows : He.DefD := ⟨("are_led_rows", none), "are_led_rows", "are_led_rows", defArgs (top 29), defBody (top 29), defScope (top 29), [], []⟩
def d_gain_of : He.DefD := ⟨("gain_of", none), "gain_of", "gain_of", defArgs (top 30), defBody (top 30), defScope (top 30), [], []⟩
def d_k_of : He.DefD := ⟨("k_of", none), "k_of", "k_of", defArgs (top 31), defBody (top 31), defScope (top 31), [], []⟩
def d_is_led_day : He.DefD := ⟨("is_led_day", none), "is_led_day", "is_led_day", defArgs (top 32), defBody (top 32), defScope (top 32), [], []⟩
def d__law_pick : He.DefD := ⟨("_law_pick", none), "_law_pick", "_law_pick", defArgs (top 38), defBody (top 38), defScope (top 38), [], []⟩
def d__law_name : He.DefD := ⟨("_law_name", none), "_law_name", "_law_name", defArgs (top 39), defBody (top 39), defScope (top 39), [], []⟩
def d__law_is_name : He.DefD := ⟨("_law_is_name", none), "_law_is_name", "_law_is_name", defArgs (top 40), defBody (top 40), defScope (top 40), [], []⟩
def d__law_is_between : He.DefD := ⟨("_law_is_between", none), "_law_is_between", "_law_is_between", defArgs (top 41), defBody (top 41), defScope (top 41), [], []⟩
def d__law_lowest : He.DefD := ⟨("_law_lowest", none), "_law_lowest", "_law_lowest", defArgs (top 42), defBody (top 42), defScope (top 42), [], []⟩
def d__law_terms : He.DefD := ⟨("_law_terms", none), "_law_terms", "_law_terms", defArgs (top 43), defBody (top 43), defScope (top 43), [], []⟩
def d__law_gained : He.DefD := ⟨("_law_gained", none), "_law_gained", "_law_gained", defArgs (top 44), defBody (top 44), defScope (top 44), [], []⟩
def d__law_k : He.DefD := ⟨("_law_k", none), "_law_k", "_law_k", defArgs (top 45), defBody (top 45), defScope (top 45), [], []⟩
def d__law_rows : He.DefD := ⟨("_law_rows", none), "_law_rows", "_law_rows", defArgs (top 46), defBody (top 46), defScope (top 46), [], []⟩
def d__law_good : He.DefD := ⟨("_law_good", none), "_law_good", "_law_good", defArgs (top 47), defBody (top 47), defScope (top 47), [], []⟩
def d__law_is_share : He.DefD := ⟨("_law_is_share", none), "_law_is_share", "_law_is_share", defArgs (top 48), defBody (top 48), defScope (top 48), [], []⟩
def d__law_is_row : He.DefD := ⟨("_law_is_row", none), "_law_is_row", "_law_is_row", defArgs (top 49), defBody (top 49), defScope (top 49), [], []⟩
def d__law_are_rows : He.DefD := ⟨("_law_are_rows", none), "_law_are_rows", "_law_are_rows", defArgs (top 50), defBody (top 50), defScope (top 50), [], []⟩
def d__law_due : He.DefD := ⟨("_law_due", none), "_law_due", "_law_due", defArgs (top 51), defBody (top 51), defScope (top 51), [], []⟩
def d__law_other : He.DefD := ⟨("_law_other", none), "_law_other", "_law_other", defArgs (top 52), defBody (top 52), defScope (top 52), [], []⟩
def d__law_take : He.DefD := ⟨("_law_take", none), "_law_take", "_law_take", defArgs (top 37), defBody (top 37), defScope (top 37), [], []⟩
def d__law_mixed : He.DefD := ⟨("_law_mixed", none), "_law_mixed", "_law_mixed", defArgs (top 36), defBody (top 36), defScope (top 36), [], []⟩
def d__law_begun : He.DefD := ⟨("_law_begun", none), "_law_begun", "_law_begun", defArgs (top 35), defBody (top 35), defScope (top 35), [], []⟩
def d__law_bent : He.DefD := ⟨("_law_bent", none), "_law_bent", "_law_bent", defArgs (top 53), defBody (top 53), defScope (top 53), [], []⟩
def d__law_refused : He.DefD := ⟨("_law_refused", none), "_law_refused", "_law_refused", defArgs (top 54), defBody (top 54), defScope (top 54), [], []⟩
def d_law : He.DefD := ⟨("law", none), "law", "law", defArgs (top 55), defBody (top 55), defScope (top 55), [], []⟩
def d_sums : He.DefD := ⟨("sums", none), "sums", "sums", defArgs (top 33), defBody (top 33), defScope (top 33), [], []⟩
def d__wall : He.DefD := ⟨("_wall", none), "_wall", "_wall", defArgs (top 0), defBody (top 0), defScope (top 0), [], []⟩
def d_Linit : He.DefD := ⟨("Ladder", some "__init__"), "__init__", "Ladder.__init__", defArgs (inClass (top 22) 0), defBody (inClass (top 22) 0), defScope (inClass (top 22) 0), [], [("least", .int 100)]⟩
def d_Ltold : He.DefD := ⟨("Ladder", some "told"), "told", "Ladder.told", defArgs (inClass (top 22) 1), defBody (inClass (top 22) 1), defScope (inClass (top 22) 1), [], []⟩
def fns : List He.DefD := [d_is_name, d_is_number, d_is_step, d_are_steps, d_are_lowest, d_is_led_row, d_are_led_rows, d_gain_of, d_k_of, d_is_led_day, d__law_pick, d__law_name, d__law_is_name, d__law_is_between, d__law_lowest, d__law_terms, d__law_gained, d__law_k, d__law_rows, d__law_good, d__law_is_share, d__law_is_row, d__law_are_rows, d__law_due, d__law_other, d__law_take, d__law_mixed, d__law_begun, d__law_bent, d__law_refused, d_law, d_sums, d__wall, d_Linit, d_Ltold]
def fas : List He.Fa := [.glo "is_name", .glo "is_number", .glo "is_step", .glo "are_steps", .glo "are_lowest", .glo "is_led_row", .glo "are_led_rows", .glo "gain_of", .glo "k_of", .glo "is_led_day", .glo "_law_pick", .glo "_law_name", .glo "_law_is_name", .glo "_law_is_between", .glo "_law_lowest", .glo "_law_terms", .glo "_law_gained", .glo "_law_k", .glo "_law_rows", .glo "_law_good", .glo "_law_is_share", .glo "_law_is_row", .glo "_law_are_rows", .glo "_law_due", .glo "_law_other", .glo "_law_take", .glo "_law_mixed", .glo "_law_begun", .glo "_law_bent", .glo "_law_refused", .glo "law", .glo "sums", .glo "_wall", .int "GREATEST_K" 100, .int "LAST_DAY" 400, .str "LETTERS" "abcdefghijklmnopqrstuvwxyz", .int "LONGEST" 8, .int "MOST_OTHERS" 3, .int "MOST_STEPS" 4, .free "all", .free "any", .free "bool", .free "int", .free "isinstance", .free "len", .free "list", .free "max", .free "range", .free "set", .free "sorted", .free "str", .free "tuple", .glo "Ladder", .glo "NoDay", .glo "NoLadder", .glo "NoName", .glo "NoResult", .glo "SteadError", .glo "SHARES", .int "HIGHEST" 4000, .int "WIDEST" 1000, .cls "Ladder", .mkr "Ladder", .meth "Ladder" "told", .noat "Ladder" "parts_told", .exc "NoLadder", .exm "NoLadder" "SteadError" true]
def tabs : List He.Tab := []
def exs (K : PySem.W.Frag) : List Bool := [datB K (.tuple [.tuple [.int 0, .int 1], .tuple [.int 1, .int 2], .tuple [.int 1, .int 1]]) (.ref (He.ga K "SHARES")),
  He.eqO (PySem.W.findIn K (.ref (He.ga K "Ladder")) "__class__") (some (some (.builtin "object.__class__"))),
  decide (PySem.W.mroIn K (He.ga K "Ladder") (.type "object") = some true),
  excB K (He.ga K "NoLadder"),
  kitB K (He.ga K "NoLadder") (He.ga K "NoDay") false,
  kitB K (He.ga K "NoLadder") (He.ga K "NoName") false,
  kitB K (He.ga K "NoLadder") (He.ga K "NoResult") false,
  kitB K (He.ga K "NoLadder") (He.ga K "NoLadder") true,
  decide (PySem.W.kitOne K (.type "NoneType") (.ref (He.ga K "Ladder")) = some false),
  decide (PySem.W.kitOne K (.type "tuple") (.ref (He.ga K "Ladder")) = some false),
  decide (PySem.W.kitOne K (.type "str") (.ref (He.ga K "Ladder")) = some false),
  decide (PySem.W.kitOne K (.type "dict") (.ref (He.ga K "Ladder")) = some false),
  decide (PySem.W.kitOne K (.type "int") (.ref (He.ga K "Ladder")) = some false),
  decide (PySem.W.kitOne K (.type "list") (.ref (He.ga K "Ladder")) = some false),
  decide (PySem.W.kitOne K (.type "bool") (.ref (He.ga K "Ladder")) = some false),
  decide (PySem.W.kitOne K (.ref (He.ga K "Ladder")) (.ref (He.ga K "Ladder")) = some true)]
def exAll (K : PySem.W.Frag) : Bool := (exs K).all id
abbrev R : PySem.W.OpenRow := PySem.W.OpenLaw.row PySem.Challenge.rw_playstead_k85_sums_by_numbers
abbrev hk : PySem.W.Hook := He.hookX 4 fas fns tabs [] exAll
def ob (s : PySem.W.SharedT) : He.AlX := He.obsX 4 fas fns tabs [] exAll (HandSHeadRun.getT s)
theorem ob_eq (s : PySem.W.SharedT) : ob s = hk.obs s.abs := He.obsX_eq (HandSHeadRun.getT_eq s)
def names : List PySem.Str := (["_wall", "__name__", "SteadError", "NoResult", "NoLadder", "NoDay", "NoName", "LETTERS", "LONGEST", "is_name", "is_number", "FIRST", "WIDE", "LEAST", "HIGHEST", "WIDEST", "GREATEST_K", "MOST_STEPS", "is_step", "are_steps", "Ladder", "LAST_DAY", "MOST_OTHERS", "SHARES", "are_lowest", "is_led_row", "are_led_rows", "gain_of", "k_of", "is_led_day"] : List PySem.Str) ++ (["sums", "_law_begun", "_law_mixed", "_law_take", "_law_pick", "_law_name", "_law_is_name", "_law_is_between", "_law_lowest", "_law_terms", "_law_gained", "_law_k", "_law_rows", "_law_good", "_law_is_share", "_law_is_row", "_law_are_rows", "_law_due", "_law_other", "_law_bent", "_law_refused"] : List PySem.Str)
theorem run (w : World) : HandSHeadRun.RunEq R (PySem.W.view R.prog [55]) hk ob 6000 names w := by
  refine PySem.W.byRow2 "special-get-raises" (P := fun w => HandSHeadRun.RunEq R (PySem.W.view R.prog [55]) hk ob 6000 names w) (fun w => ?_) (fun w => ?_) w
  · intro os
    kernel_rfl
  · intro os
    kernel_rfl
theorem fdOf_ok {K : PySem.W.Frag} {x qual : Str} {params : Arguments} {body : List Stmt} {scope : Scope} {dvs : List V} {kws : List (Str × V)} {f : Addr} (h : ∃ fd, FunD K x qual params body scope dvs kws f fd) : FunD K x qual params body scope dvs kws f (fdOf K f) := by
  obtain ⟨fd, F⟩ := h
  have e : fdOf K f = fd := by
    obtain ⟨oc, od, dV, kV, doc, pm, an, cdv, ct, osl, rfl, look, _⟩ := F.ex
    unfold fdOf
    rw [look]
  rw [e]
  exact F
section
variable {K : PySem.W.Frag} {w : World} {mg : Str → Option Value} {h : Heap}
theorem ex_at (c : He.SaysX fas fns tabs [] exAll w h K) (i : Nat) {b : Bool} (hb : (exs K)[i]? = some b := by rfl) : b = true := List.all_eq_true.mp c.more b (List.mem_of_getElem? hb)
theorem tx (X : K.In h) (G : h.Ns mainGlobals mg) (c : He.SaysX fas fns tabs [] exAll w h K) : Tx K w mg := by
  have s := c.t.d
  exact ⟨fdOf_ok (s.def_ 0 (d := d_is_name) rfl),
    He.glo_ok X G (s.fact 0 (f := .glo "is_name") rfl),
    fdOf_ok (s.def_ 1 (d := d_is_number) rfl),
    He.glo_ok X G (s.fact 1 (f := .glo "is_number") rfl),
    fdOf_ok (s.def_ 2 (d := d_is_step) rfl),
    He.glo_ok X G (s.fact 2 (f := .glo "is_step") rfl),
    fdOf_ok (s.def_ 3 (d := d_are_steps) rfl),
    He.glo_ok X G (s.fact 3 (f := .glo "are_steps") rfl),
    fdOf_ok (s.def_ 4 (d := d_are_lowest) rfl),
    He.glo_ok X G (s.fact 4 (f := .glo "are_lowest") rfl),
    fdOf_ok (s.def_ 5 (d := d_is_led_row) rfl),
    He.glo_ok X G (s.fact 5 (f := .glo "is_led_row") rfl),
    fdOf_ok (s.def_ 6 (d := d_are_led_rows) rfl),
    He.glo_ok X G (s.fact 6 (f := .glo "are_led_rows") rfl),
    fdOf_ok (s.def_ 7 (d := d_gain_of) rfl),
    He.glo_ok X G (s.fact 7 (f := .glo "gain_of") rfl),
    fdOf_ok (s.def_ 8 (d := d_k_of) rfl),
    He.glo_ok X G (s.fact 8 (f := .glo "k_of") rfl),
    fdOf_ok (s.def_ 9 (d := d_is_led_day) rfl),
    He.glo_ok X G (s.fact 9 (f := .glo "is_led_day") rfl),
    fdOf_ok (s.def_ 10 (d := d__law_pick) rfl),
    He.glo_ok X G (s.fact 10 (f := .glo "_law_pick") rfl),
    fdOf_ok (s.def_ 11 (d := d__law_name) rfl),
    He.glo_ok X G (s.fact 11 (f := .glo "_law_name") rfl),
    fdOf_ok (s.def_ 12 (d := d__law_is_name) rfl),
    He.glo_ok X G (s.fact 12 (f := .glo "_law_is_name") rfl),
    fdOf_ok (s.def_ 13 (d := d__law_is_between) rfl),
    He.glo_ok X G (s.fact 13 (f := .glo "_law_is_between") rfl),
    fdOf_ok (s.def_ 14 (d := d__law_lowest) rfl),
    He.glo_ok X G (s.fact 14 (f := .glo "_law_lowest") rfl),
    fdOf_ok (s.def_ 15 (d := d__law_terms) rfl),
    He.glo_ok X G (s.fact 15 (f := .glo "_law_terms") rfl),
    fdOf_ok (s.def_ 16 (d := d__law_gained) rfl),
    He.glo_ok X G (s.fact 16 (f := .glo "_law_gained") rfl),
    fdOf_ok (s.def_ 17 (d := d__law_k) rfl),
    He.glo_ok X G (s.fact 17 (f := .glo "_law_k") rfl),
    fdOf_ok (s.def_ 18 (d := d__law_rows) rfl),
    He.glo_ok X G (s.fact 18 (f := .glo "_law_rows") rfl),
    fdOf_ok (s.def_ 19 (d := d__law_good) rfl),
    He.glo_ok X G (s.fact 19 (f := .glo "_law_good") rfl),
    fdOf_ok (s.def_ 20 (d := d__law_is_share) rfl),
    He.glo_ok X G (s.fact 20 (f := .glo "_law_is_share") rfl),
    fdOf_ok (s.def_ 21 (d := d__law_is_row) rfl),
    He.glo_ok X G (s.fact 21 (f := .glo "_law_is_row") rfl),
    fdOf_ok (s.def_ 22 (d := d__law_are_rows) rfl),
    He.glo_ok X G (s.fact 22 (f := .glo "_law_are_rows") rfl),
    fdOf_ok (s.def_ 23 (d := d__law_due) rfl),
    He.glo_ok X G (s.fact 23 (f := .glo "_law_due") rfl),
    fdOf_ok (s.def_ 24 (d := d__law_other) rfl),
    He.glo_ok X G (s.fact 24 (f := .glo "_law_other") rfl),
    fdOf_ok (s.def_ 25 (d := d__law_take) rfl),
    He.glo_ok X G (s.fact 25 (f := .glo "_law_take") rfl),
    fdOf_ok (s.def_ 26 (d := d__law_mixed) rfl),
    He.glo_ok X G (s.fact 26 (f := .glo "_law_mixed") rfl),
    fdOf_ok (s.def_ 27 (d := d__law_begun) rfl),
    He.glo_ok X G (s.fact 27 (f := .glo "_law_begun") rfl),
    fdOf_ok (s.def_ 28 (d := d__law_bent) rfl),
    He.glo_ok X G (s.fact 28 (f := .glo "_law_bent") rfl),
    fdOf_ok (s.def_ 29 (d := d__law_refused) rfl),
    He.glo_ok X G (s.fact 29 (f := .glo "_law_refused") rfl),
    fdOf_ok (s.def_ 30 (d := d_law) rfl),
    He.glo_ok X G (s.fact 30 (f := .glo "law") rfl),
    fdOf_ok (s.def_ 31 (d := d_sums) rfl),
    He.glo_ok X G (s.fact 31 (f := .glo "sums") rfl),
    fdOf_ok (s.def_ 32 (d := d__wall) rfl),
    He.glo_ok X G (s.fact 32 (f := .glo "_wall") rfl),
    He.int_ok X G (s.fact 33 (f := .int "GREATEST_K" 100) rfl),
    He.int_ok X G (s.fact 34 (f := .int "LAST_DAY" 400) rfl),
    He.str_ok X G (s.fact 35 (f := .str "LETTERS" "abcdefghijklmnopqrstuvwxyz") rfl),
    He.int_ok X G (s.fact 36 (f := .int "LONGEST" 8) rfl),
    He.int_ok X G (s.fact 37 (f := .int "MOST_OTHERS" 3) rfl),
    He.int_ok X G (s.fact 38 (f := .int "MOST_STEPS" 4) rfl),
    He.free_ok X G (s.fact 39 (f := .free "all") rfl),
    He.free_ok X G (s.fact 40 (f := .free "any") rfl),
    He.free_ok X G (s.fact 41 (f := .free "bool") rfl),
    He.free_ok X G (s.fact 42 (f := .free "int") rfl),
    He.free_ok X G (s.fact 43 (f := .free "isinstance") rfl),
    He.free_ok X G (s.fact 44 (f := .free "len") rfl),
    He.free_ok X G (s.fact 45 (f := .free "list") rfl),
    He.free_ok X G (s.fact 46 (f := .free "max") rfl),
    He.free_ok X G (s.fact 47 (f := .free "range") rfl),
    He.free_ok X G (s.fact 48 (f := .free "set") rfl),
    He.free_ok X G (s.fact 49 (f := .free "sorted") rfl),
    He.free_ok X G (s.fact 50 (f := .free "str") rfl),
    He.free_ok X G (s.fact 51 (f := .free "tuple") rfl),
    He.glo_ok X G (s.fact 52 (f := .glo "Ladder") rfl),
    He.glo_ok X G (s.fact 53 (f := .glo "NoDay") rfl),
    He.glo_ok X G (s.fact 54 (f := .glo "NoLadder") rfl),
    He.glo_ok X G (s.fact 55 (f := .glo "NoName") rfl),
    He.glo_ok X G (s.fact 56 (f := .glo "NoResult") rfl),
    He.glo_ok X G (s.fact 57 (f := .glo "SteadError") rfl),
    He.glo_ok X G (s.fact 58 (f := .glo "SHARES") rfl),
    datB_ref (ex_at c 0),
    He.int_ok X G (s.fact 59 (f := .int "HIGHEST" 4000) rfl),
    He.int_ok X G (s.fact 60 (f := .int "WIDEST" 1000) rfl),
    fdOf_ok (s.def_ 33 (d := d_Linit) rfl),
    fdOf_ok (s.def_ 34 (d := d_Ltold) rfl),
    He.cls_ok (s.fact 61 (f := .cls "Ladder") rfl),
    He.mkr_ok (s.fact 62 (f := .mkr "Ladder") rfl),
    He.meth_ok (s.fact 63 (f := .meth "Ladder" "told") rfl),
    He.noat_ok (s.fact 64 (f := .noat "Ladder" "parts_told") rfl),
    (He.exc_ok (s.fact 65 (f := .exc "NoLadder") rfl)).1,
    (He.exc_ok (s.fact 65 (f := .exc "NoLadder") rfl)).2.1,
    (He.exc_ok (s.fact 65 (f := .exc "NoLadder") rfl)).2.2.1,
    (He.exc_ok (s.fact 65 (f := .exc "NoLadder") rfl)).2.2.2,
    He.eqO_ok (ex_at c 1),
    of_decide_eq_true (ex_at c 2),
    (excB_ok (ex_at c 3)).1,
    He.exm_ok (s.fact 66 (f := .exm "NoLadder" "SteadError" true) rfl),
    of_decide_eq_true (ex_at c 4),
    of_decide_eq_true (ex_at c 5),
    of_decide_eq_true (ex_at c 6),
    of_decide_eq_true (ex_at c 7),
    of_decide_eq_true (ex_at c 8),
    of_decide_eq_true (ex_at c 9),
    of_decide_eq_true (ex_at c 10),
    of_decide_eq_true (ex_at c 11),
    of_decide_eq_true (ex_at c 12),
    of_decide_eq_true (ex_at c 13),
    of_decide_eq_true (ex_at c 14),
    of_decide_eq_true (ex_at c 15)⟩
end
end K85
set_option Elab.async false
set_option linter.all false
set_option maxRecDepth 100000
set_option maxHeartbeats 1000000
namespace DW
open PySem
abbrev L26 : Str := "abcdefghijklmnopqrstuvwxyz"
abbrev F10 : Str := "0123456789"
def isLet (c : Nat) : Bool := decide (c ∈ L26.cps.toList)
def isFig (c : Nat) : Bool := decide (c ∈ F10.cps.toList)
def wordOk (m : Int) (z : Str) : Bool := decide ((1 : Int) ≤ (z.length : Int)) && (decide ((z.length : Int) ≤ m) && z.cps.toList.all isLet)
def isName : PyData → Bool
  | .str z => wordOk 8 z
  | _ => false
def isKey : PyData → Bool
  | .str z => wordOk 20 z
  | _ => false
def isNum : PyData → Int → Option Int → Bool
  | .int i, lo, hi => !decide (i < lo) && (match hi with | none => true | some h => decide (i ≤ h))
  | _, _, _ => false
def optI : Option Int → PyData
  | none => .none
  | some h => .int h
def isRow : PyData → Int → Int → Bool
  | .list xs, lo, hi => isNum (.int xs.length) lo (some hi)
  | .tuple xs, lo, hi => isNum (.int xs.length) lo (some hi)
  | _, _, _ => false
def isDeed : PyData → Bool
  | .tuple (.str z :: r) => if z == "move" then (match r with | [x] => isName x | _ => false) else (z == "give" || z == "even") && r.isEmpty
  | _ => false
def M30 : Int := 1000000000000000000000000000000
def isLetter : PyData → Bool
  | .tuple [.str w, game, player, place, ahead, seen, mark, deed, stamp, sl] =>
    w == "letter" && (isName game && isNum player 0 (some 3) && isNum place 1 (some 99)) && (isNum seen 0 none && isNum stamp 0 none && isDeed deed) && (isNum ahead 0 (some M30) && isNum mark 0 (some M30) && isNum sl 0 (some M30))
  | _ => false
/-- str(x) of an int, a text -/
def strD : PyData → Str
  | .int i => toString i
  | .str z => z
  | _ => ""
inductive Dd where
  | move (n : Str)
  | give
  | even
def Dd.data : Dd → PyData
  | .move n => .tuple [.str "move", .str n]
  | .give => .tuple [.str "give"]
  | .even => .tuple [.str "even"]
def Dd.words : Dd → List Str
  | .move n => ["move", n]
  | .give => ["give"]
  | .even => ["even"]
def Dd.ok : Dd → Prop
  | .move n => wordOk 8 n = true
  | _ => True
structure Lt where
  g : Str
  p : Int
  pl : Int
  a : Int
  s : Int
  m : Int
  d : Dd
  st : Int
  se : Int
def Lt.data (l : Lt) : PyData := .tuple [.str "letter", .str l.g, .int l.p, .int l.pl, .int l.a, .int l.s, .int l.m, l.d.data, .int l.st, .int l.se]
structure Lt.ok (l : Lt) : Prop where
  g : wordOk 8 l.g = true
  p0 : 0 ≤ l.p
  p1 : l.p ≤ 3
  l0 : 1 ≤ l.pl
  l1 : l.pl ≤ 99
  a0 : 0 ≤ l.a
  a1 : l.a ≤ M30
  s0 : 0 ≤ l.s
  m0 : 0 ≤ l.m
  m1 : l.m ≤ M30
  d : l.d.ok
  t0 : 0 ≤ l.st
  e0 : 0 ≤ l.se
  e1 : l.se ≤ M30
def strI (i : Int) : Str := toString i
def Lt.ws (l : Lt) : List Str := [l.g, strI l.p, strI l.pl, strI l.a, strI l.s, strI l.m] ++ l.d.words ++ [strI l.st]
def Lt.plain (l : Lt) : Str := Txt.join " " l.ws
def Lt.text (l : Lt) : Str := l.plain ++ " " ++ strI l.se
theorem isNum_inv {d : PyData} {lo : Int} {hi : Option Int} (h : isNum d lo hi = true) : ∃ i, d = .int i ∧ lo ≤ i ∧ ∀ j, hi = some j → i ≤ j := by
  cases d with
  | int i =>
    simp only [isNum, Bool.and_eq_true, Bool.not_eq_true', decide_eq_false_iff_not] at h
    refine ⟨i, rfl, by omega, fun j e => ?_⟩
    subst e
    simpa using h.2
  | _ => cases h
theorem isName_inv {d : PyData} (h : isName d = true) : ∃ z, d = .str z ∧ wordOk 8 z = true := by
  cases d with
  | str z => exact ⟨z, rfl, h⟩
  | _ => cases h
theorem isDeed_inv {d : PyData} (h : isDeed d = true) : ∃ x : Dd, d = x.data ∧ x.ok := by
  unfold isDeed at h
  split at h
  · rename_i z r
    split at h
    · rename_i e
      have e := eq_of_beq e
      subst e
      split at h
      · rename_i x
        obtain ⟨n, rfl, hn⟩ := isName_inv h
        exact ⟨.move n, rfl, hn⟩
      · cases h
    · rw [Bool.and_eq_true, Bool.or_eq_true] at h
      have er := List.isEmpty_iff.mp h.2
      subst er
      rcases h.1 with e | e
      · have e := eq_of_beq e
        subst e
        exact ⟨.give, rfl, trivial⟩
      · have e := eq_of_beq e
        subst e
        exact ⟨.even, rfl, trivial⟩
  · cases h
theorem letter_inv {d : PyData} (h : isLetter d = true) : ∃ l : Lt, d = l.data ∧ l.ok := by
  unfold isLetter at h
  split at h
  · rename_i w game player place ahead seen mark deed stamp sl
    simp only [Bool.and_eq_true] at h
    obtain ⟨⟨⟨h0, ⟨h1, h2⟩, h3⟩, ⟨h4, h5⟩, h6⟩, ⟨h7, h8⟩, h9⟩ := h
    have e := eq_of_beq h0
    subst e
    obtain ⟨g, rfl, hg⟩ := isName_inv h1
    obtain ⟨p, rfl, p0, p1⟩ := isNum_inv h2
    obtain ⟨q, rfl, q0, q1⟩ := isNum_inv h3
    obtain ⟨s, rfl, s0, s1⟩ := isNum_inv h4
    obtain ⟨t, rfl, t0, t1⟩ := isNum_inv h5
    obtain ⟨x, rfl, hx⟩ := isDeed_inv h6
    obtain ⟨a, rfl, a0, a1⟩ := isNum_inv h7
    obtain ⟨m, rfl, m0, m1⟩ := isNum_inv h8
    obtain ⟨e, rfl, e0, e1⟩ := isNum_inv h9
    exact ⟨⟨g, p, q, a, s, m, x, t, e⟩, rfl, hg, p0, p1 _ rfl, q0, q1 _ rfl, a0, a1 _ rfl, s0, m0, m1 _ rfl, hx, t0, e0, e1 _ rfl⟩
  · cases h
/-- of letters: the text of what is one -/
def letterText (d : PyData) : Str := match d with
  | .tuple [_, .str g, .int p, .int pl, .int a, .int s, .int m, .tuple dd, .int st, .int se] => Txt.join " " ([g, strI p, strI pl, strI a, strI s, strI m] ++ dd.map strD ++ [strI st]) ++ " " ++ strI se
  | _ => ""
theorem letterText_data (l : Lt) : letterText l.data = l.text := by
  obtain ⟨g, p, pl, a, s, m, d, st, se⟩ := l
  cases d <;> rfl
/-! ### what fits the machine -/
mutual
def fit : PyData → Bool
  | .str z => decide (z.length ≤ 100000) && PyData.strOk z
  | .int i => decide (i.natAbs < 10 ^ 60)
  | .list xs => decide (xs.length ≤ 100000) && fitAll xs
  | .tuple xs => decide (xs.length ≤ 100000) && fitAll xs
  | _ => true
def fitAll : List PyData → Bool
  | [] => true
  | x :: xs => fit x && fitAll xs
end
theorem fitAll_mem : ∀ {xs : List PyData} {x : PyData}, fitAll xs = true → x ∈ xs → fit x = true
  | y :: ys, x, h, hx => by
    simp only [fitAll, Bool.and_eq_true] at h
    rcases List.mem_cons.mp hx with rfl | hx
    · exact h.1
    · exact fitAll_mem h.2 hx
theorem strI_len {i : Int} (h0 : 0 ≤ i) (h1 : i.natAbs < 10 ^ 60) : (strI i).length ≤ 60 := by
  obtain ⟨n, rfl⟩ := Int.eq_ofNat_of_zero_le h0
  have e : (strI (n : Int)).length = (TL.numL n).length := by
    show (Str.ofString (toString ((n : Nat) : Int))).length = _
    rw [← TL.tl_num n]
    exact TL.len_tl _
  rw [e]
  exact TL.numL_len (by decide) (by simpa using h1)
theorem log2_lt {i : Int} (h : i.natAbs < 10 ^ 60) : i.natAbs.log2 < 1920 := by
  by_cases z : i.natAbs = 0
  · rw [z]; decide
  · have := (Nat.log2_lt z (k := 200)).mpr (Nat.lt_of_lt_of_le h (by decide))
    omega
def numIn (z : Str) : Option Int :=
  if (decide ((1 : Int) ≤ (z.length : Int)) && (decide ((z.length : Int) ≤ 40) && z.cps.toList.all isFig)) then (if Txt.startswith z "0" && !(z == "0") then none else intText? z) else none
/-! ### what deed_text answers: the words, or a refusal -/
def nameIn (d : PyData) : Option (List Str) := if isName d then some [strD d] else none
def keyIn (d : PyData) : Option (List Str) := if isKey d then some [strD d] else none
def numW (d : PyData) : Option (List Str) := if isNum d 0 none then some [strD d] else none
def itemsD : PyData → List PyData
  | .list xs => xs
  | .tuple xs => xs
  | _ => []
def namesIn (d : PyData) : Option (List Str) := if isRow d 0 100 && (itemsD d).all isName then some ((itemsD d).map strD) else none
def seqO : List (Option (List Str)) → Option (List Str)
  | [] => some []
  | none :: _ => none
  | some a :: r => match seqO r with
    | some b => some (a ++ b)
    | none => none
def clockIn : PyData → Option (List Str)
  | .tuple [a, b, c, d, e, f] => seqO [numW a, numW b, nameIn c, numW d, numW e, numW f]
  | _ => none
def letterIn (d : PyData) : Option (List Str) := if isLetter d then some (Txt.split (letterText d) " ") else none
def wordsOf (w : Str) (ps : List PyData) : Option (List Str) :=
  let p := fun i => ps.getD i .none
  if w == "member" then seqO [nameIn (p 0), keyIn (p 1)]
  else if w == "open" then seqO [nameIn (p 0), nameIn (p 1), namesIn (p 2), clockIn (p 3)]
  else if w == "hear" then letterIn (p 0)
  else if w == "tick" then numW (p 0)
  else if w == "claim" then seqO [letterIn (p 0), some ["/"], letterIn (p 1)]
  else if w == "cup" then seqO [nameIn (p 0), numW (p 2), nameIn (p 3), clockIn (p 4), namesIn (p 1)]
  else if w == "day" then some []
  else nameIn (p 0)
def sizes : List (Str × Int) := [("member", 3), ("open", 5), ("hear", 2), ("tick", 2), ("day", 1), ("claim", 3), ("cup", 6), ("round", 2)]
def deedText : PyData → Option Str
  | .tuple (.str w :: ps) =>
    if (sizes.lookup w).getD 0 == (ps.length : Int) + 1 then
      if !(w == "tick") || isNum (ps.getD 0 .none) 1 (some 10000) then (wordsOf w ps).map fun ws => Txt.join " " (w :: ws) else none
    else none
  | _ => none
/-! ### what read_deed answers -/
def sd (ws : List Str) : List PyData := ws.map .str
def readLetter (z : Str) : Option PyData :=
  match Txt.split z " " with
  | [] => none
  | game :: rest =>
    if rest.length < 8 then none else
      let ns := (PD.cut rest none (some 5) ++ PD.cut rest (some (-2)) none).map fun w => optI (numIn w)
      let found := PyData.tuple ([.str "letter", .str game] ++ PD.cut ns none (some 5) ++ [.tuple (sd (PD.cut rest (some 5) (some (-2))))] ++ PD.cut ns (some 5) none)
      if isLetter found then some found else none
def readName (w : Str) : Option PyData := if wordOk 8 w then some (.str w) else none
def readNum (w : Str) : Option PyData := (numIn w).map .int
def allO : List (Option PyData) → Option (List PyData)
  | [] => some []
  | none :: _ => none
  | some a :: r => (allO r).map (a :: ·)
def readClock : List Str → Option PyData
  | [a, b, c, d, e, f] => (allO [readNum a, readNum b, readName c, readNum d, readNum e, readNum f]).map .tuple
  | _ => none
def readLetterOf (ws : List Str) : Option PyData := readLetter (Txt.join " " ws)
def idx (x : Str) : List Str → Option Nat
  | [] => none
  | y :: r => if y == x then some 0 else (idx x r).map (· + 1)
def tupO (w : Str) (l : List (Option PyData)) : Option PyData := (allO l).map fun xs => .tuple (.str w :: xs)
def readClaim (ws : List Str) : Option PyData := match idx "/" ws with
  | none => none
  | some k => tupO "claim" [readLetterOf (ws.take k), readLetterOf (ws.drop (k + 1))]
def readNames (ws : List Str) : Option PyData := (allO (ws.map readName)).map .tuple
def at_ (ws : List Str) (i : Nat) : Str := ws.getD i ""
def readOpen (ws : List Str) : Option PyData :=
  if ws.length < 8 then none else tupO "open" [readName (at_ ws 0), readName (at_ ws 1), readNames (PD.cut ws (some 2) (some (-6))), readClock (PD.cut ws (some (-6)) none)]
def readCup (ws : List Str) : Option PyData :=
  if ws.length < 9 then none else tupO "cup" [readName (at_ ws 0), readNames (PD.cut ws (some 9) none), readNum (at_ ws 1), readName (at_ ws 2), readClock (PD.cut ws (some 3) (some 9))]
def readWords (w : Str) (ws : List Str) : Option PyData :=
  if w == "open" then readOpen ws
  else if w == "cup" then readCup ws
  else if w == "claim" then readClaim ws
  else if w == "hear" then tupO "hear" [readLetterOf ws]
  else if w == "member" then (if ws.length = 2 ∧ wordOk 20 (at_ ws 1) = true then tupO "member" [readName (at_ ws 0), some (.str (at_ ws 1))] else none)
  else if w == "tick" then (if ws.length = 1 then tupO "tick" [readNum (at_ ws 0)] else none)
  else if w == "day" then (if ws.length = 0 then some (.tuple [.str "day"]) else none)
  else if w == "round" then (if ws.length = 1 then tupO "round" [readName (at_ ws 0)] else none)
  else none
def readDeed : PyData → Option PyData
  | .str z => match Txt.split z " " with
    | w :: ws => readWords w ws
    | [] => none
  | _ => none
end DW
set_option Elab.async false
set_option linter.all false
set_option maxRecDepth 100000
set_option maxHeartbeats 1000000
/-! DX: what the sums of leads come to, in plain Lean (no program in sight). -/
namespace DX
open PySem PySem.Spec PyProof.Rows L2 PD DW
mutual
/-- texts that fit, whole numbers that fit, at most n items each -/
def fitN (n : Nat) : PyData → Bool
  | .str z => decide (z.length ≤ 1000) && PyData.strOk z
  | .int i => decide (i.natAbs < 10 ^ 30)
  | .list xs => decide (xs.length ≤ n) && fitNs n xs
  | .tuple xs => decide (xs.length ≤ n) && fitNs n xs
  | .dict _ => false
  | _ => true
def fitNs (n : Nat) : List PyData → Bool
  | [] => true
  | x :: xs => fitN n x && fitNs n xs
end
theorem fitNs_all {n : Nat} : ∀ {xs : List PyData}, fitNs n xs = true ↔ ∀ x ∈ xs, fitN n x = true
  | [] => by simp [fitNs]
  | x :: xs => by
    rw [fitNs, Bool.and_eq_true, fitNs_all, List.forall_mem_cons]
theorem fitN_tup {n : Nat} {xs : List PyData} (h : fitN n (.tuple xs) = true) : xs.length ≤ n ∧ ∀ x ∈ xs, fitN n x = true := by
  simp only [fitN, Bool.and_eq_true, decide_eq_true_eq] at h
  exact ⟨h.1, fitNs_all.mp h.2⟩
theorem fitN_lst {n : Nat} {xs : List PyData} (h : fitN n (.list xs) = true) : xs.length ≤ n ∧ ∀ x ∈ xs, fitN n x = true := by
  simp only [fitN, Bool.and_eq_true, decide_eq_true_eq] at h
  exact ⟨h.1, fitNs_all.mp h.2⟩
theorem fitN_str {n : Nat} {z : Str} (h : fitN n (.str z) = true) : z.length ≤ 1000 ∧ PyData.strOk z = true := by
  simpa only [fitN, Bool.and_eq_true, decide_eq_true_eq] using h
mutual
theorem fitN_mono {n m : Nat} (h : n ≤ m) : ∀ d : PyData, fitN n d = true → fitN m d = true
  | .str z, q => q
  | .int i, q => q
  | .none, _ => rfl
  | .bool _, _ => rfl
  | .dict _, q => by simp [fitN] at q
  | .list xs, q => by
    simp only [fitN, Bool.and_eq_true, decide_eq_true_eq] at q ⊢
    exact ⟨Nat.le_trans q.1 h, fitNs_mono h xs q.2⟩
  | .tuple xs, q => by
    simp only [fitN, Bool.and_eq_true, decide_eq_true_eq] at q ⊢
    exact ⟨Nat.le_trans q.1 h, fitNs_mono h xs q.2⟩
theorem fitNs_mono {n m : Nat} (h : n ≤ m) : ∀ xs : List PyData, fitNs n xs = true → fitNs m xs = true
  | [], _ => rfl
  | x :: xs, q => by
    rw [fitNs, Bool.and_eq_true] at q ⊢
    exact ⟨fitN_mono h x q.1, fitNs_mono h xs q.2⟩
end
/-! ### ladders -/
structure Tm where
  b : Int
  w : Int
  st : List (Int × Int)
  kl : Int
  f : Int
def stepsD (st : List (Int × Int)) (kl : Int) : List PyData := st.map (fun p => .tuple [.int p.1, .int p.2]) ++ [.tuple [.none, .int kl]]
def Tm.data (t : Tm) : PyData := .tuple [.int t.b, .int t.w, .tuple (stepsD t.st t.kl), .int t.f]
structure Tm.ok (t : Tm) : Prop where
  f0 : 0 ≤ t.f
  fb : t.f ≤ t.b
  b1 : t.b ≤ 4000
  w0 : 1 ≤ t.w
  w1 : t.w ≤ 1000
  few : t.st.length ≤ 3
  rise : (t.st.map (·.1)).Pairwise (· < ·)
  low : ∀ p ∈ t.st, 1 ≤ p.1 ∧ p.1 ≤ 1000 ∧ 1 ≤ p.2 ∧ p.2 ≤ 100
  k0 : 1 ≤ t.kl
  k1 : t.kl ≤ 100
def kOf (st : List (Int × Int)) (kl many : Int) : Int := match st with
  | [] => kl
  | (a, k) :: r => if many < a then k else kOf r kl many
theorem kOf_pos {st : List (Int × Int)} {kl many : Int} (h : ∀ p ∈ st, 1 ≤ p.2) (h1 : 1 ≤ kl) : 1 ≤ kOf st kl many := by
  induction st with
  | nil => exact h1
  | cons p r ih =>
    obtain ⟨a, k⟩ := p
    unfold kOf
    split
    · exact h _ List.mem_cons_self
    · exact ih fun q hq => h q (List.mem_cons_of_mem _ hq)
/-! ### rows -/
def isInt1 : PyData → Bool := fun d => isNum d 1 none
/-- in lowest terms, not beyond 1 -/
def lowest : PyData → Bool
  | .tuple [.int a, .int b] => decide (1 ≤ b) && (decide (0 ≤ a) && decide (a ≤ b)) && decide (Int.gcd a b = 1)
  | _ => false
def shareOk : PyData → Bool
  | .tuple [.int a, .int b] => (decide (a = 0) && decide (b = 1)) || (decide (a = 1) && decide (b = 2)) || (decide (a = 1) && decide (b = 1))
  | _ => false
def rising : List PyData → Bool
  | .int a :: .int b :: r => decide (a < b) && rising (.int b :: r)
  | _ => true
def ledRow : PyData → Bool
  | .tuple [g, o, s, a, .tuple ns] => isName g && isName o && (lowest s && shareOk s) && lowest a && (ns.all isInt1 && rising ns)
  | _ => false
structure Rw where
  g : Str
  o : Str
  s1 : Int
  s2 : Int
  a1 : Int
  a2 : Int
  ns : List Int
def Rw.data (r : Rw) : PyData := .tuple [.str r.g, .str r.o, .tuple [.int r.s1, .int r.s2], .tuple [.int r.a1, .int r.a2], .tuple (r.ns.map .int)]
structure Rw.ok (r : Rw) : Prop where
  g : wordOk 8 r.g = true
  o : wordOk 8 r.o = true
  s : (r.s1 = 0 ∧ r.s2 = 1) ∨ (r.s1 = 1 ∧ r.s2 = 2) ∨ (r.s1 = 1 ∧ r.s2 = 1)
  a0 : 0 ≤ r.a1
  a1 : r.a1 ≤ r.a2
  a2 : 1 ≤ r.a2
  ag : Int.gcd r.a1 r.a2 = 1
  n1 : ∀ n ∈ r.ns, 1 ≤ n
  nr : r.ns.Pairwise (· < ·)
theorem lowest_inv {d : PyData} (h : lowest d = true) : ∃ a b : Int, d = .tuple [.int a, .int b] ∧ 1 ≤ b ∧ 0 ≤ a ∧ a ≤ b ∧ Int.gcd a b = 1 := by
  unfold lowest at h
  split at h
  · rename_i a b
    simp only [Bool.and_eq_true, decide_eq_true_eq] at h
    exact ⟨a, b, rfl, h.1.1, h.1.2.1, h.1.2.2, h.2⟩
  · cases h
theorem ints_inv : ∀ {ns : List PyData}, ns.all isInt1 = true → ∃ is : List Int, ns = is.map .int ∧ ∀ i ∈ is, 1 ≤ i
  | [], _ => ⟨[], rfl, fun i h => nomatch h⟩
  | n :: ns, h => by
    rw [List.all_cons, Bool.and_eq_true] at h
    obtain ⟨i, rfl, lo, _⟩ := isNum_inv h.1
    obtain ⟨is, rfl, al⟩ := ints_inv h.2
    refine ⟨i :: is, rfl, fun j hj => ?_⟩
    rcases List.mem_cons.mp hj with rfl | hj
    · exact lo
    · exact al j hj
theorem rising_iff : ∀ {is : List Int}, rising (is.map .int) = true ↔ is.Pairwise (· < ·)
  | [] => by simp [rising]
  | [a] => by simp [rising]
  | a :: b :: r => by
    have ih := rising_iff (is := b :: r)
    show (decide (a < b) && rising ((b :: r).map .int)) = true ↔ _
    rw [Bool.and_eq_true, decide_eq_true_eq, ih]
    constructor
    · rintro ⟨h1, h2⟩
      refine List.pairwise_cons.mpr ⟨fun x hx => ?_, h2⟩
      rcases List.mem_cons.mp hx with rfl | hx
      · exact h1
      · have := (List.pairwise_cons.mp h2).1 x hx
        omega
    · intro h
      obtain ⟨h1, h2⟩ := List.pairwise_cons.mp h
      exact ⟨h1 b List.mem_cons_self, h2⟩
theorem ledRow_inv {d : PyData} (h : ledRow d = true) : ∃ r : Rw, d = r.data ∧ r.ok := by
  unfold ledRow at h
  split at h
  · rename_i g o s a ns
    simp only [Bool.and_eq_true] at h
    obtain ⟨⟨⟨⟨h1, h2⟩, h3, h4⟩, h5⟩, h6, h7⟩ := h
    obtain ⟨zg, rfl, k1⟩ := isName_inv h1
    obtain ⟨zo, rfl, k2⟩ := isName_inv h2
    obtain ⟨s1, s2, rfl, _⟩ := lowest_inv h3
    obtain ⟨a1, a2, rfl, q1, q2, q3, q4⟩ := lowest_inv h5
    obtain ⟨is, rfl, al⟩ := ints_inv h6
    refine ⟨⟨zg, zo, s1, s2, a1, a2, is⟩, rfl, k1, k2, ?_, q2, q3, q1, q4, al, rising_iff.mp h7⟩
    simp only [shareOk, Bool.or_eq_true, Bool.and_eq_true, decide_eq_true_eq] at h4
    rcases h4 with (h | h) | h
    · exact .inl h
    · exact .inr (.inl h)
    · exact .inr (.inr h)
  · cases h
theorem ledRow_ok {r : Rw} (h : r.ok) : ledRow r.data = true := by
  have e : (r.ns.map PyData.int).all isInt1 = true := by
    rw [List.all_map, List.all_eq_true]
    intro n hn
    show isNum (.int n) 1 none = true
    have := h.n1 n hn
    simp only [isNum, Bool.and_true, Bool.not_eq_true', decide_eq_false_iff_not]
    omega
  have e2 : lowest (.tuple [.int r.s1, .int r.s2]) = true ∧ shareOk (.tuple [.int r.s1, .int r.s2]) = true := by
    rcases h.s with ⟨h1, h2⟩ | ⟨h1, h2⟩ | ⟨h1, h2⟩ <;> rw [h1, h2] <;> exact ⟨by decide +kernel, by decide +kernel⟩
  have e3 : lowest (.tuple [.int r.a1, .int r.a2]) = true := by
    simp only [lowest, h.a2, h.a0, h.a1, h.ag, decide_true, Bool.and_true]
  show (isName (.str r.g) && isName (.str r.o) && (lowest _ && shareOk _) && lowest _ && ((r.ns.map PyData.int).all isInt1 && rising (r.ns.map .int))) = true
  rw [show isName (.str r.g) = true from h.g, show isName (.str r.o) = true from h.o, e2.1, e2.2, e3, e, rising_iff.mpr h.nr]
  rfl
theorem rows_inv : ∀ {xs : List PyData}, xs.all ledRow = true → ∃ rs : List Rw, xs = rs.map Rw.data ∧ ∀ r ∈ rs, r.ok
  | [], _ => ⟨[], rfl, fun r h => nomatch h⟩
  | x :: xs, h => by
    rw [List.all_cons, Bool.and_eq_true] at h
    obtain ⟨r, rfl, ok⟩ := ledRow_inv h.1
    obtain ⟨rs, rfl, al⟩ := rows_inv h.2
    refine ⟨r :: rs, rfl, fun q hq => ?_⟩
    rcases List.mem_cons.mp hq with rfl | hq
    · exact ok
    · exact al q hq
/-- the titles, the pairs of title and other -/
def titles (xs : List PyData) : List Str := xs.filterMap fun d => match d with
  | .tuple (.str g :: _) => some g
  | _ => none
def pairsOf2 (xs : List PyData) : List (List Str) := xs.filterMap fun d => match d with
  | .tuple (.str g :: .str o :: _) => some [g, o]
  | _ => none
theorem titles_rows (rs : List Rw) : titles (rs.map Rw.data) = rs.map (·.g) := by
  induction rs with
  | nil => rfl
  | cons r rs ih =>
    show r.g :: titles (rs.map Rw.data) = _
    rw [ih]
    rfl
theorem pairs_rows (rs : List Rw) : pairsOf2 (rs.map Rw.data) = rs.map fun r => [r.g, r.o] := by
  induction rs with
  | nil => rfl
  | cons r rs ih =>
    show [r.g, r.o] :: pairsOf2 (rs.map Rw.data) = _
    rw [ih]
    rfl
def rowsOk (xs : List PyData) : Bool := !xs.isEmpty && xs.all ledRow && (sortedS (titles xs) && (titles xs).all (fun g => decide ((titles xs).count g ≤ 3))) && decide ((pairsOf2 xs).Nodup)
def ledRows : PyData → Bool
  | .list xs => rowsOk xs
  | .tuple xs => rowsOk xs
  | _ => false
def rowList : PyData → List PyData
  | .list xs => xs
  | .tuple xs => xs
  | _ => []
/-! ### the gain -/
def gainStep (acc : Int × Int) : PyData → Int × Int
  | .tuple [_, _, .tuple [.int s1, .int s2], .tuple [.int a1, .int a2], _] => (acc.1 * s2 * a2 + (s1 * a2 - a1 * s2) * acc.2, acc.2 * s2 * a2)
  | _ => acc
def gain (xs : List PyData) (k : Int) : Int :=
  let r := xs.foldl gainStep (0, 1)
  (2 * k * r.1 + r.2) / (2 * r.2)
theorem gain_pos (rs : List Rw) (h : ∀ r ∈ rs, r.ok) (acc : Int × Int) (p : 0 < acc.2) : 0 < ((rs.map Rw.data).foldl gainStep acc).2 := by
  induction rs generalizing acc with
  | nil => exact p
  | cons r rs ih =>
    refine ih (fun q hq => h q (List.mem_cons_of_mem _ hq)) _ ?_
    have ok := h r List.mem_cons_self
    show 0 < acc.2 * r.s2 * r.a2
    have s2 : 0 < r.s2 := by rcases ok.s with ⟨_, e⟩ | ⟨_, e⟩ | ⟨_, e⟩ <;> omega
    have a2 : 0 < r.a2 := by have := ok.a2; omega
    exact Int.mul_pos (Int.mul_pos p s2) a2
/-! ### days -/
def ledDay (d : PyData) (last : Int) : Bool := match d with
  | .tuple [n, a, b, rows] => ledRows rows && (isNum n (last + 1) (some 400) && (isNum a 0 none && isNum b 0 none))
  | _ => false
/-- how many titles -/
def many1 (xs : List PyData) : Int := ((SX.insAll (titles xs)).length : Nat)
def sumsGo (t : Tm) : List PyData → Int → Int → Int → Bool
  | [], _, _, _ => true
  | d :: ds, last, stands, many => match d with
    | .tuple [.int n, .int a, .int b, rows] => ledDay d last && decide (a = stands) && decide (b = max t.f (a + gain (rowList rows) (kOf t.st t.kl many))) && sumsGo t ds n b (many + many1 (rowList rows))
    | _ => false
def sumsD (t : Tm) : PyData → Bool
  | .list xs => sumsGo t xs (-1) t.b 0
  | .tuple xs => sumsGo t xs (-1) t.b 0
  | _ => false
/-! ### how large -/
def B (n : Nat) (x : Int) : Prop := x.natAbs < 2 ^ n
instance (n : Nat) (x : Int) : Decidable (B n x) := inferInstanceAs (Decidable (x.natAbs < 2 ^ n))
theorem B.mono {n m : Nat} {x : Int} (h : B n x) (l : n ≤ m) : B m x := Nat.lt_of_lt_of_le h (Nat.pow_le_pow_right (by decide) l)
theorem B.mul {n m : Nat} {x y : Int} (h : B n x) (g : B m y) : B (n + m) (x * y) := by
  unfold B at *
  rw [Int.natAbs_mul, Nat.pow_add]
  exact Nat.mul_lt_mul'' h g
theorem B.add {n : Nat} {x y : Int} (h : B n x) (g : B n y) : B (n + 1) (x + y) := by
  unfold B at *
  have := Int.natAbs_add_le x y
  rw [Nat.pow_succ]
  omega
theorem B.neg {n : Nat} {x : Int} (h : B n x) : B n (-x) := by
  unfold B at *
  rwa [Int.natAbs_neg]
theorem B.sub {n : Nat} {x y : Int} (h : B n x) (g : B n y) : B (n + 1) (x - y) := by
  rw [Int.sub_eq_add_neg]
  exact h.add g.neg
theorem B.cmul {n m : Nat} {x y : Int} (h : B n x) (g : B m y) (p : 0 < n) (q : 0 < m) (l : n + m ≤ 1000000) : CMulW x y := wide_mul h g p q l
theorem B.log {n m : Nat} {x : Int} (h : B n x) (p : 0 < n) (l : n ≤ m) : x.natAbs.log2 < m := by
  by_cases z : x.natAbs = 0
  · rw [z]
    have : Nat.log2 0 = 0 := by decide
    omega
  · have := (Nat.log2_lt z).mpr h
    omega
structure Rw.small (r : Rw) : Prop where
  a : B 101 r.a2
theorem Rw.bits {r : Rw} (ok : r.ok) (sm : r.small) : B 1 r.s1 ∧ B 2 r.s2 ∧ B 101 r.a1 ∧ B 101 r.a2 := by
  refine ⟨?_, ?_, ?_, sm.a⟩
  · rcases ok.s with ⟨e, _⟩ | ⟨e, _⟩ | ⟨e, _⟩ <;> rw [e] <;> decide
  · rcases ok.s with ⟨_, e⟩ | ⟨_, e⟩ | ⟨_, e⟩ <;> rw [e] <;> decide
  · have h1 := ok.a0
    have h2 := ok.a1
    have h3 : r.a2.natAbs < 2 ^ 101 := sm.a
    show r.a1.natAbs < 2 ^ 101
    omega
/-- behind n rows -/
structure Gs (n : Nat) (acc : Int × Int) : Prop where
  p : 0 < acc.2
  b : B (103 * n + 1) acc.2
  a : B (300 * n + 1) acc.1
theorem Gs.zero : Gs 0 (0, 1) := ⟨by decide, by show (1 : Nat) < 2 ^ 1; decide, by show (0 : Nat) < 2 ^ 1; decide⟩
theorem Gs.next {n : Nat} {acc : Int × Int} {r : Rw} (ok : r.ok) (sm : r.small) (g : Gs n acc) : Gs (n + 1) (gainStep acc r.data) := by
  obtain ⟨b1, b2, b3, b4⟩ := Rw.bits ok sm
  refine ⟨?_, ?_, ?_⟩
  · have s2 : 0 < r.s2 := by rcases ok.s with ⟨_, e⟩ | ⟨_, e⟩ | ⟨_, e⟩ <;> omega
    have a2 : 0 < r.a2 := by have := ok.a2; omega
    exact Int.mul_pos (Int.mul_pos g.p s2) a2
  · exact ((g.b.mul b2).mul b4).mono (by omega)
  · have h1 : B (300 * n + 300) (acc.1 * r.s2 * r.a2) := ((g.a.mul b2).mul b4).mono (by omega)
    have h2 : B 104 (r.s1 * r.a2 - r.a1 * r.s2) := B.sub (n := 103) ((b1.mul b4).mono (by decide)) ((b3.mul b2).mono (by decide))
    have h3 : B (300 * n + 300) ((r.s1 * r.a2 - r.a1 * r.s2) * acc.2) := (h2.mul g.b).mono (by omega)
    exact (h1.add h3).mono (by omega)
end DX
set_option Elab.async false
set_option linter.all false
set_option maxRecDepth 100000
set_option maxHeartbeats 1000000
/-! PD32: draws from the dict of great, cells, rest, turn. -/
namespace PD
open PySem PySem.Spec PyProof.Rows L2
/-- the dict's rows -/
def stRows (g c : Addr) (r t : Int) : List (Key × V) := [(.inr "great", .ref g), (.inr "cells", .ref c), (.inr "rest", .int r), (.inr "turn", .int t)]
def StAt (H : Hp) (a g c : Addr) : Prop := ∃ (gs cs : List Int) (r t : Int), H a = some (.dK (stRows g c r t)) ∧ H g = some (.lst (gs.map V.int)) ∧ H c = some (.lst (cs.map V.int)) ∧ cs ≠ []
def stReg (a g c : Addr) : Reg where
  m b := b = a ∨ b = g ∨ b = c
  J H := g ≠ c ∧ StAt H a g c
  dom := fun H b j m => by
    obtain ⟨_, gs, cs, r, t, h1, h2, h3, _⟩ := j
    rcases m with rfl | rfl | rfl
    · rw [h1]; exact fun e => nomatch e
    · rw [h2]; exact fun e => nomatch e
    · rw [h3]; exact fun e => nomatch e
  st := fun H H' j k => by
    obtain ⟨n, gs, cs, r, t, h1, h2, h3, h4⟩ := j
    exact ⟨n, gs, cs, r, t, k a _ (.inl rfl) h1, k g _ (.inr (.inl rfl)) h2, k c _ (.inr (.inr rfl)) h3, h4⟩
/-- _law_mixed(_law_state): some int -/
def spMixedS : Spd := fun R xs Q _ => ∃ (a g c : Addr), R = stReg a g c ∧ xs = [.v (.ref a)] ∧ ∀ i : Int, Q (.d (.int i))
/-- _law_take(_law_state, _law_many): some int below it -/
def spTakeS : Spd := fun R xs Q _ => ∃ (a g c : Addr) (k : Int), R = stReg a g c ∧ xs = [.v (.ref a), .d (.int k)] ∧ 1 ≤ k ∧ k ≤ 10 ^ 30 ∧ ∀ i : Int, 0 ≤ i → i < k → Q (.d (.int i))
/-- what lies off the region stays -/
def OffS (a g c : Addr) (H H' : Hp) : Prop := ∀ b o, H b = some o → ¬ (b = a ∨ b = g ∨ b = c) → H' b = some o
theorem OffS.trans {a g c : Addr} {H H1 H2 : Hp} (h : OffS a g c H H1) (k : OffS a g c H1 H2) : OffS a g c H H2 := fun b o e m => k b o (h b o e m) m
theorem OffS.refl {a g c : Addr} {H : Hp} : OffS a g c H H := fun _ _ e _ => e
theorem OffS.put {a g c : Addr} {H : Hp} {b : Addr} {o : HO} (m : b = a ∨ b = g ∨ b = c) : OffS a g c H (upd H b o) := fun x u e n => by
  rw [L2.upd_ne (fun q => n (by rw [q]; exact m))]
  exact e
theorem OffS.new {a g c : Addr} {H : Hp} {b : Addr} {o : HO} (m : H b = none) : OffS a g c H (upd H b o) := fun x u e n => by
  rw [L2.upd_ne (fun q => by rw [q, m] at e; cases e)]
  exact e
theorem ext_st {a g c : Addr} {I H H' : Hp} (gd : Good (stReg a g c) I H) (k : OffS a g c H H') (j : StAt H' a g c) : Ext (stReg a g c) I H I H' := by
  refine ⟨⟨fun b o e => ?_, ⟨gd.j.1, j⟩, gd.off, gd.len⟩, Same.refl _, fun b o e => .inl e, fun b o e m => k b o e m⟩
  exact k b o (gd.sub b o e) (gd.off b o e)
section
variable {H : Hp} {a g c : Addr} {r t : Int}
theorem st_great (e : H a = some (.dK (stRows g c r t))) : DGet H a (.str "great") (some (.ref g)) := DGet.k (k := .inr "great") e
theorem st_cells (e : H a = some (.dK (stRows g c r t))) : DGet H a (.str "cells") (some (.ref c)) := DGet.k (k := .inr "cells") e
theorem st_rest (e : H a = some (.dK (stRows g c r t))) : DGet H a (.str "rest") (some (.int r)) := DGet.k (k := .inr "rest") e
theorem st_turn (e : H a = some (.dK (stRows g c r t))) : DGet H a (.str "turn") (some (.int t)) := DGet.k (k := .inr "turn") e
theorem st_putRest (e : H a = some (.dK (stRows g c r t))) (i : Int) : DPut H a (.str "rest") (.int i) (upd H a (.dK (stRows g c i t))) := DPut.k (k := .inr "rest") e (show 4 < sizeLine by decide)
theorem st_putTurn (e : H a = some (.dK (stRows g c r t))) (i : Int) : DPut H a (.str "turn") (.int i) (upd H a (.dK (stRows g c r i))) := DPut.k (k := .inr "turn") e (show 4 < sizeLine by decide)
end
end PD
set_option Elab.async false
set_option linter.all false
set_option maxRecDepth 100000
set_option maxHeartbeats 2000000
/-! PD33: readings with a count: the hidden region says something at a number that grows. -/
namespace PD
open PySem PySem.Spec PyProof.Rows L2
structure Fam where
  m : Addr → Prop
  J : Nat → Hp → Prop
  dom : ∀ n H a, J n H → m a → H a ≠ none
  st : ∀ n H H', J n H → (∀ a o, m a → H a = some o → H' a = some o) → J n H'
  up : ∀ n k H, n ≤ k → J n H → J k H
abbrev Fam.R (F : Fam) (n : Nat) : Reg := ⟨F.m, F.J n, F.dom n, F.st n⟩
structure Zi where
  K : PySem.W.Frag
  F : Fam
  W : WX
  I0 : Hp
  H0 : Hp
abbrev Zi.z (Z : Zi) (n : Nat) : Zx := ⟨Z.K, Z.F.R n, Z.W, Z.I0, Z.H0⟩
abbrev Zi.calm (Z : Zi) : Zi := ⟨Z.K, Z.F, fun _ _ _ _ => False, Z.I0, Z.H0⟩
theorem Good.up {F : Fam} {n k : Nat} {I H : Hp} (g : Good (F.R n) I H) (l : n ≤ k) : Good (F.R k) I H := ⟨g.sub, F.up n k H l g.j, g.off, g.len⟩
theorem Ext.up {F : Fam} {n k : Nat} {I H I' H' : Hp} (e : Ext (F.R n) I H I' H') (l : n ≤ k) : Ext (F.R k) I H I' H' := ⟨e.good.up l, e.sub, e.fresh, e.keep⟩
/-- one behind the other -/
theorem Ext.tr {F : Fam} {n a b : Nat} {I H I1 H1 I2 H2 : Hp} (e : Ext (F.R a) I H I1 H1) (g : Good (F.R n) I H) (l : n ≤ a) (l2 : a ≤ b) (f : Ext (F.R b) I1 H1 I2 H2) : Ext (F.R b) I H I2 H2 := (e.up l2).trans (g.up (Nat.le_trans l l2)) f
theorem Ext.noneI {F : Fam} {n a : Nat} {I H I1 H1 : Hp} (e : Ext (F.R a) I H I1 H1) (g : Good (F.R n) I H) (l : n ≤ a) {b : Addr} (h : H1 b = Option.none) : H b = Option.none := Ext.none (g.up l) e h
section
variable {Z : Zi} {n k : Nat}
theorem At.ix {Hs I H : Hp} {x : DV} {v : V} (a : At (Z.z n) Hs I H x v) : At (Z.z k) Hs I H x v := by cases x <;> exact a
theorem AtAll.ix {Hs I H : Hp} : ∀ {xs : List DV} {vs : List V}, AtAll (Z.z n) Hs I H xs vs → AtAll (Z.z k) Hs I H xs vs
  | _, _, .nil => .nil
  | _, _, .cons a t => .cons a.ix (AtAll.ix t)
theorem Slot1.ix {I H : Hp} {x : DV} {v : V} (a : Slot1 (Z.z n) I H x v) : Slot1 (Z.z k) I H x v := by cases x <;> exact a
theorem EnvAt.ix {I H : Hp} {δ : DEnv} {σ : St} (h : EnvAt (Z.z n) I H δ σ) : EnvAt (Z.z k) I H δ σ := ⟨h.len, fun i x q => by
  obtain ⟨v, e1, e2⟩ := h.val i x q
  exact ⟨v, e1, e2.ix⟩, h.apart⟩
end
abbrev HereI (Z : Zi) (n : Nat) (I H : Hp) (δ : DEnv) (σ : St) : Prop := Here (Z.z n) I H δ σ noE
section
variable {Z : Zi} {n k : Nat} {I H I' H' : Hp} {δ : DEnv} {σ : St}
theorem HereI.up (h : HereI Z n I H δ σ) (l : n ≤ k) : HereI Z k I H δ σ := ⟨h.g0.up l, h.e0.up l, h.env.ix, fun _ _ _ _ _ _ _ q => q.elim⟩
theorem HereI.ext (h : HereI Z n I H δ σ) (l : n ≤ k) (e : Ext (Z.F.R k) I H I' H') : HereI Z k I' H' δ σ := Here.ext (h.up l) e
theorem HereI.at_ {δ' : DEnv} {σ' : St} (h : HereI Z n I H δ σ) (l : n ≤ k) (e : Ext (Z.F.R k) Z.I0 Z.H0 I' H') (v : EnvAt (Z.z k) I' H' δ' σ') : HereI Z k I' H' δ' σ' := ⟨h.g0.up l, e, v, fun _ _ _ _ _ _ _ q => q.elim⟩
theorem HereI.e0I (h : HereI Z n I H δ σ) (l : n ≤ k) (e : Ext (Z.F.R k) I H I' H') : Ext (Z.F.R k) Z.I0 Z.H0 I' H' := (HereI.ext h l e).e0
end
abbrev DKi := DV → Nat → Prop
abbrev TDi := DEnv → DKi → Nat → Prop
abbrev TDAi := DEnv → (List DV → Nat → Prop) → Nat → Prop
abbrev TDTi := DEnv → (Bool → Nat → Prop) → Nat → Prop
abbrev TDIi := DEnv → (List PyData → Nat → Prop) → Nat → Prop
def ThenI (Z : Zi) (n : Nat) (I H : Hp) (Qd : DKi) (Q : VK) : Prop := ∀ k x v I' H', n ≤ k → Ext (Z.F.R k) I H I' H' → At (Z.z k) H I' H' x v → Qd x k → Q v H'
def ThenAI (Z : Zi) (n : Nat) (I H : Hp) (Qd : List DV → Nat → Prop) (Q : List V → Hp → Prop) : Prop := ∀ k xs vs I' H', n ≤ k → Ext (Z.F.R k) I H I' H' → AtAll (Z.z k) H I' H' xs vs → Qd xs k → Q vs H'
def ThenBI (Z : Zi) (n : Nat) (I H : Hp) (Qd : Bool → Nat → Prop) (Q : Bool → Hp → Prop) : Prop := ∀ k b I' H', n ≤ k → Ext (Z.F.R k) I H I' H' → Qd b k → Q b H'
theorem ThenI.ext {Z : Zi} {n k : Nat} {I H I' H' : Hp} {Qd : DKi} {Q : VK} (t : ThenI Z n I H Qd Q) (g : Good (Z.F.R n) I H) (l : n ≤ k) (e : Ext (Z.F.R k) I H I' H') : ThenI Z k I' H' Qd Q :=
  fun j x v I2 H2 lj f a q => t j x v I2 H2 (Nat.le_trans l lj) (e.tr g l lj f) (a.since fun _ z => e.noneI g l z) q
theorem ThenBI.ext {Z : Zi} {n k : Nat} {I H I' H' : Hp} {Qd : Bool → Nat → Prop} {Q : Bool → Hp → Prop} (t : ThenBI Z n I H Qd Q) (g : Good (Z.F.R n) I H) (l : n ≤ k) (e : Ext (Z.F.R k) I H I' H') : ThenBI Z k I' H' Qd Q :=
  fun j x I2 H2 lj f q => t j x I2 H2 (Nat.le_trans l lj) (e.tr g l lj f) q
theorem ThenI.at {Z : Zi} {n : Nat} {I H : Hp} {Qd : DKi} {Q : VK} (t : ThenI Z n I H Qd Q) : Then (Z.z n) I H (fun x => Qd x n) Q := fun x v I' H' e a q => t n x v I' H' (Nat.le_refl n) e a q
theorem ThenAI.at {Z : Zi} {n : Nat} {I H : Hp} {Qd : List DV → Nat → Prop} {Q : List V → Hp → Prop} (t : ThenAI Z n I H Qd Q) : ThenA (Z.z n) I H (fun x => Qd x n) Q := fun x v I' H' e a q => t n x v I' H' (Nat.le_refl n) e a q
theorem ThenBI.at {Z : Zi} {n : Nat} {I H : Hp} {Qd : Bool → Nat → Prop} {Q : Bool → Hp → Prop} (t : ThenBI Z n I H Qd Q) : ThenB (Z.z n) I H (fun x => Qd x n) Q := fun x I' H' e q => t n x I' H' (Nat.le_refl n) e q
theorem ThenI.frz {Z : Zi} {n : Nat} {I H : Hp} {Qd : DKi} {Q : VK} (t : ThenI Z n I H Qd Q) : ThenI Z n I H (fun x k => Qd (froz x) k) Q := fun k x v I' H' l e a q => by
  obtain ⟨I2, e2, _, a2⟩ := At.frz (Z := Z.z k) e a
  exact t k (froz x) v I2 H' l e2 a2 q
structure DEI (X : Cx) (Z : Zi) (e : Expr) (te : TE) (t : TDi) : Prop where
  pe : PE X e te
  rf : ∀ n I H δ σ Qd Q, HereI Z n I H δ σ → t δ Qd n → ThenI Z n I H Qd Q → te σ H Q
structure DAI (X : Cx) (Z : Zi) (es : List Expr) (te : TA) (t : TDAi) : Prop where
  pa : PA X es te
  rf : ∀ n I H δ σ Qd Q, HereI Z n I H δ σ → t δ Qd n → ThenAI Z n I H Qd Q → te σ H Q
structure DTI (X : Cx) (Z : Zi) (e : Expr) (te : TT) (t : TDTi) : Prop where
  pt : PT X e te
  rf : ∀ n I H δ σ Qd Q, HereI Z n I H δ σ → t δ Qd n → ThenBI Z n I H Qd Q → te σ H Q
structure DWI (X : Cx) (Z : Zi) (e : Expr) (te : TT) (t : TDTi) : Prop where
  pw : PW X e te
  rf : ∀ n I H δ σ Qd Q, HereI Z n I H δ σ → t δ Qd n → ThenBI Z n I H Qd Q → te σ H Q
theorem DWI.dt {X : Cx} {Z : Zi} {e : Expr} {te : TT} {t : TDTi} (h : DWI X Z e te t) : DTI X Z e te t := ⟨h.pw.pt, h.rf⟩
section
variable {X : Cx} {Z : Zi} {pos : Pos} {e : Expr} {es : List Expr}
/-! ### what draws nothing -/
def dP (t : Nat → TD) : TDi := fun δ Q n => t n δ (fun x => Q x n) noE
def dPA (t : Nat → TDA) : TDAi := fun δ Q n => t n δ (fun x => Q x n) noE
def dPT (t : Nat → TDT) : TDTi := fun δ Q n => t n δ (fun x => Q x n) noE
theorem ei {te : Nat → TE} {t : Nat → TD} (h : ∀ n, DE X (Z.z n) e (te n) (t n)) (he : ∀ n, te n = te 0 := by intro _; rfl) : DEI X Z e (te 0) (dP t) :=
  ⟨(h 0).pe, fun n I H δ σ Qd Q hh q k => he n ▸ (h n).rf I H δ σ _ noE Q hh q k.at⟩
theorem ai {te : Nat → TA} {t : Nat → TDA} (h : ∀ n, DA X (Z.z n) es (te n) (t n)) (he : ∀ n, te n = te 0 := by intro _; rfl) : DAI X Z es (te 0) (dPA t) :=
  ⟨(h 0).pa, fun n I H δ σ Qd Q hh q k => he n ▸ (h n).rf I H δ σ _ noE Q hh q k.at⟩
theorem ti {te : Nat → TT} {t : Nat → TDT} (h : ∀ n, DT X (Z.z n) e (te n) (t n)) (he : ∀ n, te n = te 0 := by intro _; rfl) : DTI X Z e (te 0) (dPT t) :=
  ⟨(h 0).pt, fun n I H δ σ Qd Q hh q k => he n ▸ (h n).rf I H δ σ _ noE Q hh q k.at⟩
/-! ### operators -/
def dBinI (o : O2) (a b : TDi) : TDi := fun δ Q n => a δ (fun x k => b δ (fun y j => o x y (fun z => Q z j) noE) k) n
theorem ei_tOp {a b : Expr} {ta tb : TE} {da db : TDi} {r : R2} {o : O2} (h : PE X a ta → PE X b tb → PE X e (tOp r ta tb)) (ho : ∀ j, OpD (Z.z j) r o) (ha : DEI X Z a ta da) (hb : DEI X Z b tb db) : DEI X Z e (tOp r ta tb) (dBinI o da db) := by
  refine ⟨h ha.pe hb.pe, fun n I H δ σ Qd Q hh t k => ?_⟩
  refine ha.rf n I H δ σ _ _ hh t fun n1 x v I1 H1 l1 e1 a1 q1 => ?_
  have h1 := HereI.ext hh l1 e1
  refine hb.rf n1 I1 H1 δ σ _ _ h1 q1 fun n2 y u I2 H2 l2 e2 a2 q2 => ?_
  have h2 := HereI.ext h1 l2 e2
  exact ho n2 I2 H2 H x y v u (fun z => Qd z n2) noE Q ⟨h2.g, h2.old⟩ (a1.ix.ext e2) (a2.since fun _ z => e1.noneI hh.g l1 z) q2 ((k.ext hh.g l1 e1).ext h1.g l2 e2).at
theorem ei_op {a b : Expr} {ta tb : TE} {da db : TDi} {r : R2} {o : O2} {op : Operator} (h : OpR X (binaryOp op) r) (ho : ∀ j, OpD (Z.z j) r o) (ha : DEI X Z a ta da) (hb : DEI X Z b tb db) : DEI X Z (.BinOp a op b pos) (tOp r ta tb) (dBinI o da db) :=
  ei_tOp (fun p q => pe_op h p q) ho ha hb
theorem ei_cmp {a b : Expr} {ta tb : TE} {da db : TDi} {r : R2} {o : O2} {op : CmpOp} (h : OpR X (compareOp op) r) (hm : behindInMarks op b = false) (ho : ∀ j, OpD (Z.z j) r o) (ha : DEI X Z a ta da) (hb : DEI X Z b tb db) : DEI X Z (.Compare a [op] [b] pos) (tOp r ta tb) (dBinI o da db) :=
  ei_tOp (fun p q => pe_cmpR h p q hm) ho ha hb
theorem ei_ix {a b : Expr} {ta tb : TE} {da db : TDi} (ha : DEI X Z a ta da) (hb : DEI X Z b tb db) (hs : PlainIx b) (hK : Z.K = X.K) : DEI X Z (.Subscript a b pos) (tOp (rIx X.K) ta tb) (dBinI oIx da db) :=
  ei_tOp (fun p q => pe_ix ix_seq p q hs) (fun j => od_ix hK) ha hb
/-! ### tests -/
def dBI (t : TDi) : TDTi := fun δ Q n => t δ (fun x k => bK (fun b => Q b k) x) n
theorem ti_of {te : TE} {t : TDi} (h : DEI X Z e te t) (hp : PE X e te → PT X e (tB te)) : DTI X Z e (tB te) (dBI t) := by
  refine ⟨hp h.pe, fun n I H δ σ Qd Q hh t k => ?_⟩
  refine h.rf n I H δ σ _ _ hh t fun n1 x v I1 H1 l1 e1 a1 q1 => ?_
  obtain ⟨b, rfl, _, q⟩ := bK_at a1 q1
  exact ⟨b, rfl, k n1 b I1 H1 l1 e1 q⟩
theorem ti_val {te : TE} {t : TDi} (h : DEI X Z e te t) (he : ∀ whole, isTrue e X.env whole = (do let v ← whole; standAt e.pos; holding [v] (truthy v)) := by intro _; rfl) : DTI X Z e (tB te) (dBI t) := ti_of h fun p => pt_val p he
theorem ti_cmp {a b : Expr} {ta tb : TE} {da db : TDi} {r : R2} {o : O2} {op : CmpOp} (h : OpR X (compareOp op) r) (hm : behindInMarks op b = false) (ho : ∀ j, OpD (Z.z j) r o) (ha : DEI X Z a ta da) (hb : DEI X Z b tb db) : DTI X Z (.Compare a [op] [b] pos) (tB (tOp r ta tb)) (dBI (dBinI o da db)) :=
  ti_of (ei_cmp (pos := pos) h hm ho ha hb) fun p => pt_cmpR h ha.pe hb.pe hm
def dNotI (t : TDTi) : TDTi := fun δ Q n => t δ (fun b k => Q (!b) k) n
theorem ti_not {a : Expr} {ta : TT} {da : TDTi} (h : DTI X Z a ta da) : DTI X Z (.UnaryOp .Not a pos) (tNot ta) (dNotI da) :=
  ⟨pt_not h.pt, fun n I H δ σ Qd Q hh t k => h.rf n I H δ σ _ _ hh t fun n1 b I1 H1 l1 e1 q1 => k n1 (!b) I1 H1 l1 e1 q1⟩
def dOrI (a b : TDTi) : TDTi := fun δ Q n => a δ (fun c k => if c = true then Q true k else b δ Q k) n
theorem wi_or1 {a : Expr} {ta : TT} {da : TDTi} (h : DTI X Z a ta da) : DWI X Z (.BoolOp .Or [a] pos) ta da := ⟨pw_or1 h.pt, h.rf⟩
theorem wi_or {a b : Expr} {rest : List Expr} {ta tb : TT} {da db : TDTi} (h : DTI X Z a ta da) (h' : DWI X Z (.BoolOp .Or (b :: rest) pos) tb db) : DWI X Z (.BoolOp .Or (a :: b :: rest) pos) (tOr ta tb) (dOrI da db) := by
  refine ⟨pw_or h.pt h'.pw, fun n I H δ σ Qd Q hh t k => h.rf n I H δ σ _ _ hh t fun n1 c I1 H1 l1 e1 q1 => ?_⟩
  cases c with
  | true => exact k n1 true I1 H1 l1 e1 q1
  | false => exact h'.rf n1 I1 H1 δ σ Qd Q (HereI.ext hh l1 e1) q1 (k.ext hh.g l1 e1)
def dIfI (c : TDTi) (a b : TDi) : TDi := fun δ Q n => c δ (fun z k => if z = true then a δ Q k else b δ Q k) n
theorem ei_if {c a b : Expr} {tc : TT} {ta tb : TE} {dc : TDTi} {da db : TDi} (hc : DTI X Z c tc dc) (ha : DEI X Z a ta da) (hb : DEI X Z b tb db) : DEI X Z (.IfExp c a b pos) (tIf tc ta tb) (dIfI dc da db) := by
  refine ⟨pe_ifExp hc.pt ha.pe hb.pe, fun n I H δ σ Qd Q hh t k => hc.rf n I H δ σ _ _ hh t fun n1 z I1 H1 l1 e1 q1 => ?_⟩
  cases z with
  | true => exact ha.rf n1 I1 H1 δ σ Qd Q (HereI.ext hh l1 e1) q1 (k.ext hh.g l1 e1)
  | false => exact hb.rf n1 I1 H1 δ σ Qd Q (HereI.ext hh l1 e1) q1 (k.ext hh.g l1 e1)
/-! ### displays, arguments -/
def dNilI : TDAi := fun _ Q n => Q [] n
def dConsI (a : TDi) (r : TDAi) : TDAi := fun δ Q n => a δ (fun x k => r δ (fun xs j => Q (froz x :: xs) j) k) n
def dConsNI (a : TDi) (r : TDAi) : TDAi := fun δ Q n => a δ (fun x k => r δ (fun xs j => Q (x :: xs) j) k) n
theorem ai_nil : DAI X Z [] tNil dNilI := ⟨pa_nil, fun n I H δ σ Qd Q hh t k => k n [] [] I H (Nat.le_refl n) (Ext.refl hh.g) .nil t⟩
theorem ai_cons {te : TE} {ta : TA} {de : TDi} {dr : TDAi} (h : DEI X Z e te de) (h' : DAI X Z es ta dr) (hs : starEach (e :: es) X.env = (false, eval e X.env) :: starEach es X.env := by rfl) : DAI X Z (e :: es) (tCons te ta) (dConsI de dr) := by
  refine ⟨pa_cons h.pe h'.pa hs, fun n I H δ σ Qd Q hh t k => ?_⟩
  refine h.rf n I H δ σ _ _ hh t (ThenI.frz (Qd := fun x k => dr δ (fun xs j => Qd (x :: xs) j) k) fun n1 x v I1 H1 l1 e1 a1 q1 => ?_)
  refine h'.rf n1 I1 H1 δ σ _ _ (HereI.ext hh l1 e1) q1 fun n2 xs vs I2 H2 l2 e2 a2 q2 => ?_
  exact k n2 (x :: xs) (v :: vs) I2 H2 (Nat.le_trans l1 l2) (e1.tr hh.g l1 l2 e2) (.cons (a1.ix.ext e2) (a2.since fun _ z => e1.noneI hh.g l1 z)) q2
theorem ai_consN {te : TE} {ta : TA} {de : TDi} {dr : TDAi} (h : DEI X Z e te de) (h' : DAI X Z es ta dr) (hs : starEach (e :: es) X.env = (false, eval e X.env) :: starEach es X.env := by rfl) : DAI X Z (e :: es) (tCons te ta) (dConsNI de dr) := by
  refine ⟨pa_cons h.pe h'.pa hs, fun n I H δ σ Qd Q hh t k => ?_⟩
  refine h.rf n I H δ σ _ _ hh t fun n1 x v I1 H1 l1 e1 a1 q1 => ?_
  refine h'.rf n1 I1 H1 δ σ _ _ (HereI.ext hh l1 e1) q1 fun n2 xs vs I2 H2 l2 e2 a2 q2 => ?_
  exact k n2 (x :: xs) (v :: vs) I2 H2 (Nat.le_trans l1 l2) (e1.tr hh.g l1 l2 e2) (.cons (a1.ix.ext e2) (a2.since fun _ z => e1.noneI hh.g l1 z)) q2
def dTupI (t : TDAi) : TDi := fun δ Q n => t δ (fun xs k => datK (fun ds => ds.length ≤ sizeLine ∧ Q (.d (.tuple ds)) k) xs) n
def dLstI (t : TDAi) : TDi := fun δ Q n => t δ (fun xs k => datK (fun ds => ds.length ≤ sizeLine ∧ Q (.new ds) k) xs) n
theorem ei_tup {ta : TA} {da : TDAi} {x1} (h : DAI X Z es ta da) : DEI X Z (.Tuple es x1 pos) (tTup ta) (dTupI da) := by
  refine ⟨pe_tup h.pa, fun n I H δ σ Qd Q hh t k => h.rf n I H δ σ _ _ hh t fun n1 xs vs I1 H1 l1 e1 a1 q1 => ?_⟩
  unfold datK at q1
  split at q1
  · rename_i ds e
    have a := datAll_at a1 e
    have l := a.len
    exact ⟨by omega, (k.ext hh.g l1 e1).at.tup e1.good a (by omega) q1.2⟩
  · exact q1.elim
theorem ei_lst {ta : TA} {da : TDAi} (h : DAI X Z es ta da) : DEI X Z (.List es pos) (tLst ta) (dLstI da) := by
  refine ⟨pe_lst h.pa, fun n I H δ σ Qd Q hh t k => h.rf n I H δ σ _ _ hh t fun n1 xs vs I1 H1 l1 e1 a1 q1 => ?_⟩
  unfold datK at q1
  split at q1
  · rename_i ds e
    have a := datAll_at a1 e
    have l := a.len
    exact ⟨by omega, (k.ext hh.g l1 e1).at.new e1.good (HereI.ext hh l1 e1).old a (by omega) q1.2⟩
  · exact q1.elim
/-! ### calls -/
variable {p apos : Pos} {x : Str} {ta : TA} {da : TDAi}
def dCallI (o : OC) (a : TDAi) : TDi := fun δ Q n => a δ (fun xs k => o xs (fun y => Q y k) noE) n
theorem ei_tCB {r : List V → Hp → VK → Prop} {o : OC} {ex : Expr} (h : PA X es ta → PE X ex (tCB r ta)) (ho : ∀ j, CallD (Z.z j) r o) (ha : DAI X Z es ta da) : DEI X Z ex (tCB r ta) (dCallI o da) := by
  refine ⟨h ha.pa, fun n I H δ σ Qd Q hh t k => ha.rf n I H δ σ _ _ hh t fun n1 xs vs I1 H1 l1 e1 a1 q1 => ?_⟩
  have h1 := HereI.ext hh l1 e1
  exact ho n1 I1 H1 H xs vs (fun y => Qd y n1) noE Q ⟨h1.g, h1.old⟩ a1 q1 (k.ext hh.g l1 e1).at
theorem ei_callB {id : String} {r : List V → Hp → VK → Prop} {o : OC} (hc : CallR X (.builtin id) r) (ho : ∀ j, CallD (Z.z j) r o) (hg : Gl X x) (hm : X.mg x = none) (hv : bootBuiltins x = some (.builtin id)) (ha : DAI X Z (e :: es) ta da) (hn : x ≠ "__name__" := by decide) (hdb : (x == ("__debug__" : Str)) = false := by decide)
    (he : starEach (e :: es) X.env = (false, eval e X.env) :: starEach es X.env := by rfl) (hpl : (backTo pos (starEach es X.env)).any (·.1) = false := by rfl) : DEI X Z (.Call (.Name x p) (e :: es) [] pos) (tCB r ta) (dCallI o da) :=
  ei_tCB (fun q => pe_callB hc hg hm hv q hn hdb he hpl) ho ha
theorem ei_callTy {T : String} {r : List V → Hp → VK → Prop} {o : OC} (hc : CallR X (.type T) r) (ho : ∀ j, CallD (Z.z j) r o) (hg : Gl X x) (hm : X.mg x = none) (hv : bootBuiltins x = some (.type T)) (ha : DAI X Z (e :: es) ta da) (hn : x ≠ "__name__" := by decide) (hdb : (x == ("__debug__" : Str)) = false := by decide)
    (he : starEach (e :: es) X.env = (false, eval e X.env) :: starEach es X.env := by rfl) (hpl : (backTo pos (starEach es X.env)).any (·.1) = false := by rfl) : DEI X Z (.Call (.Name x p) (e :: es) [] pos) (tCB r ta) (dCallI o da) :=
  ei_tCB (fun q => pe_callTy hc hg hm hv q hn hdb he hpl) ho ha
def dMethI (T : String) (o : DV → OC) (t : TDi) (a : TDAi) : TDi := fun δ Q n => t δ (fun x k => tMx T x ∧ a δ (fun xs j => o x xs (fun y => Q y j) noE) k) n
theorem ei_meth {o : Expr} {to : TE} {t : TDi} {name : Str} {T : String} {r : V → List V → Hp → VK → Prop} {od : DV → OC} (hd : ∀ j, MtD (Z.z j) r od) (ho : DEI X Z o to t) (ha : DAI X Z (e :: es) ta da) (hK : Z.K = X.K)
    (h : PE X o to → PA X (e :: es) ta → PE X (.Call (.Attribute o name apos) (e :: es) [] pos) (tBM X.K T r to ta)) : DEI X Z (.Call (.Attribute o name apos) (e :: es) [] pos) (tBM X.K T r to ta) (dMethI T od t da) := by
  refine ⟨h ho.pe ha.pa, fun n I H δ σ Qd Q hh t0 k => ho.rf n I H δ σ _ _ hh t0 fun n1 x v I1 H1 l1 e1 a1 q1 => ?_⟩
  have h1 := HereI.ext hh l1 e1
  refine ⟨by rw [← hK]; exact tMx_at h1.g a1 q1.1, ha.rf n1 I1 H1 δ σ _ _ h1 q1.2 fun n2 xs vs I2 H2 l2 e2 a2 q2 => ?_⟩
  have h2 := HereI.ext h1 l2 e2
  exact hd n2 I2 H2 H x v xs vs (fun y => Qd y n2) noE Q ⟨h2.g, h2.old⟩ (a1.ix.ext e2) (a2.since fun _ z => e1.noneI hh.g l1 z) q2 ((k.ext hh.g l1 e1).ext h1.g l2 e2).at
open SX in
def dSortSetTI (d : TDi) : TDi := fun δ Q n => d δ (fun x k => ∃ ks : List Str, lstOf x = some (ks.map .str) ∧ ks.length < 64 ∧ ∀ ys : List Str, ys.Perm (insAll ks) → sortedS ys = true → Q (.new (ys.map .str)) k) n
open SX in
theorem ei_sortSetT {a : Expr} {ta : TE} {d : TDi} {p p2 q pos : Pos} (hK : Z.K = X.K) (hc : X.calm = true) (hu : X.A.units + 64 < cLine) (hg : Gl X "sorted") (hm : X.mg "sorted" = none) (hg2 : Gl X "set") (hm2 : X.mg "set" = none) (ha : DEI X Z a ta d)
    (na : starEach [a] X.env = (false, eval a X.env) :: starEach [] X.env := by rfl) : DEI X Z (.Call (.Name "sorted" p) [.Call (.Name "set" p2) [a] [] q] [] pos) (tSortSetT X.prog X.w X.K ta) (dSortSetTI d) := by
  refine ⟨pe_sortSetT hc hu hg hm hg2 hm2 ha.pe na, fun n I H δ σ Qd Q hh t k => ha.rf n I H δ σ _ _ hh t fun n1 x v I1 H1 l1 e1 a1 q1 => ?_⟩
  obtain ⟨ks, e, few, q1⟩ := q1
  obtain ⟨l, vs, rfl, h1, h2, _⟩ := lst_at e1.good a1 e
  have h2 : DaAll Z.K I1 vs (ks.map .str) := h2
  rw [hK] at h2
  refine ⟨l, vs, ks, rfl, SqL.of h1, rels_da (srT X.prog X.w) e1.good.sub h2, few, fun ys p pm so => ?_⟩
  have le := (insAll_props ks).2.2
  refine (k.ext hh.g l1 e1).at.new e1.good (HereI.ext hh l1 e1).old (da_strs ys) ?_ (q1 ys pm so) p
  rw [List.length_map, pm.length_eq, sizeLine_eq]
  omega
/-! ### defs -/
abbrev Spi := Fam → Nat → List DV → DKi → Prop
def liftI (K : PySem.W.Frag) (S : Spi) (m : Nat) : Sp := fun vs H Q _ => vs.length = m ∧ ∃ (F : Fam) (n : Nat) (I : Hp) (xs : List DV) (Qd : DKi), Good (F.R n) I H ∧ ArgAll K (F.R n) I H xs vs ∧ S F n xs Qd ∧
  ∀ k x v I' H', n ≤ k → Ext (F.R k) I H I' H' → RetAt K I' x v → Qd x k → Q v H'
def dFnI (F : Fam) (S : Spi) (m : Nat) (a : TDAi) : TDi := fun δ Q n => a δ (fun xs k => xs.length = m ∧ (∀ x ∈ xs, ∀ ys, x ≠ .new ys) ∧ S F k (xs.map unbor) Q) n
theorem ei_fn0 {ex : Expr} {S : Spi} {m : Nat} (ha : DAI X Z es ta da) (h : PE X ex (tCallS (liftI Z.K S m) (WE Z.W) ta)) : DEI X Z ex (tCallS (liftI Z.K S m) (WE Z.W) ta) (dFnI Z.F S m da) := by
  refine ⟨h, fun n I H δ σ Qd Q hh t k => ha.rf n I H δ σ _ _ hh t fun n1 xs vs I1 H1 l1 e1 a1 q1 => ?_⟩
  exact ⟨a1.len.symm.trans q1.1, Z.F, n1, I1, _, Qd, e1.good, arg_at q1.2.1 a1, q1.2.2, fun n2 x v I2 H2 l2 e2 r qx => k n2 x v I2 H2 (Nat.le_trans l1 l2) (e1.tr hh.g l1 l2 e2) (ret_at (Z := Z.z n2) r) qx⟩
theorem ei_fn {S : Spi} {m k : Nat} {f : Addr} {fd : FuncData} {ps : List Str} (F : FnOk X.prog X.w X.K X.mg X.base (L2.CX X.prog X.w) k f fd ps (liftI X.K S m)) (hr : Room k X.A) (hg : Gl X x) (hm : X.mg x = some (.ref f)) (hk : PySem.W.keepIn X.K (.ref f) = true) (hb : Binds X.K fd ps []) (tk : TakesC X Z.W)
    (hK : Z.K = X.K) (ha : DAI X Z (e :: es) ta da) (hd : (x == ("__debug__" : Str)) = false := by decide) (he : starEach (e :: es) X.env = (false, eval e X.env) :: starEach es X.env := by rfl) (hpl : (backTo pos (starEach es X.env)).any (·.1) = false := by rfl) :
    DEI X Z (.Call (.Name x p) (e :: es) [] pos) (tCallS (liftI Z.K S m) (WE Z.W) ta) (dFnI Z.F S m da) := ei_fn0 ha (by rw [hK]; exact pe_callS F hr hg hm hk hb tk ha.pa hd he hpl)
/-- a def that draws nothing, of what is drawn -/
def dFnP (F : Fam) (S : Spd) (m : Nat) (a : TDAi) : TDi := fun δ Q n => a δ (fun xs k => xs.length = m ∧ (∀ x ∈ xs, ∀ ys, x ≠ .new ys) ∧ S (F.R k) (xs.map unbor) (fun y => Q y k) noE) n
theorem ei_fnP {S : Spd} {m k : Nat} {f : Addr} {fd : FuncData} {ps : List Str} (F : FnOk X.prog X.w X.K X.mg X.base (L2.CX X.prog X.w) k f fd ps (lift X.K S m)) (hr : Room k X.A) (hg : Gl X x) (hm : X.mg x = some (.ref f)) (hk : PySem.W.keepIn X.K (.ref f) = true) (hb : Binds X.K fd ps []) (tk : TakesC X Z.W)
    (hK : Z.K = X.K) (ha : DAI X Z (e :: es) ta da) (hd : (x == ("__debug__" : Str)) = false := by decide) (he : starEach (e :: es) X.env = (false, eval e X.env) :: starEach es X.env := by rfl) (hpl : (backTo pos (starEach es X.env)).any (·.1) = false := by rfl) :
    DEI X Z (.Call (.Name x p) (e :: es) [] pos) (tCallS (lift Z.K S m) (WE Z.W) ta) (dFnP Z.F S m da) := by
  refine ⟨by rw [hK]; exact pe_callS F hr hg hm hk hb tk ha.pa hd he hpl, fun n I H δ σ Qd Q hh t k => ha.rf n I H δ σ _ _ hh t fun n1 xs vs I1 H1 l1 e1 a1 q1 => ?_⟩
  exact fn_here (Z := Z.z n1) (HereI.ext hh l1 e1) q1.1 a1 q1.2.1 q1.2.2 (k.ext hh.g l1 e1).at
/-! ### what is walked -/
variable {tg : Expr}
structure DII (X : Cx) (Z : Zi) (tg iter : Expr) (wi : TI) (d : TDIi) : Prop where
  pi : PI X tg iter wi
  rf : ∀ n I H δ σ Qd (R : It → Hp → Prop), HereI Z n I H δ σ → d δ Qd n → (∀ k J ds I' H', n ≤ k → Ext (Z.F.R k) I H I' H' → (∀ j, Runs (Z.z j) J I' ds) → ds.length ≤ sizeLine → Qd ds k → R J H') → wi σ H R
def dAnyI (d : TDi) : TDIi := fun δ Q n => d δ (fun x k => strFits (froz x) ∧ match itemsOf (froz x) with
  | some ds => Q ds k
  | none => False) n
theorem ii_any {te : TE} {d : TDi} (h : DEI X Z e te d) (hK : Z.K = X.K) : DII X Z tg e (iAny X.K te) (dAnyI d) := by
  refine ⟨pi_any h.pe, fun n I H δ σ Qd R hh q k => h.rf n I H δ σ _ _ hh q (ThenI.frz (Qd := fun x k => strFits x ∧ match itemsOf x with | some ds => Qd ds k | none => False) fun n1 x v I1 H1 l1 e1 a1 q1 => ?_)⟩
  obtain ⟨hz, q1⟩ := q1
  split at q1
  · rename_i ds ed
    unfold itemsOf at ed
    split at ed
    · cases ed
      cases a1 with
      | lst h1 h2 =>
        have l := e1.good.len _ _ h1
        have l2 := h2.len
        rw [← hK]
        refine .inl ⟨_, rfl, ⟨_, SqL.of (e1.good.sub _ _ h1)⟩, k n1 _ _ I1 H1 l1 e1 (fun j => runs_list (Z := Z.z j) h1 h2) (by have l' : List.length _ ≤ sizeLine := l; omega) q1⟩
    · cases ed
      obtain ⟨p, vs, rfl, h1, h1', h2⟩ := tup_at e1.good a1
      have l := tup_len e1.good h1
      have l2 := h2.len
      rw [← hK]
      exact .inr (.inl ⟨_, rfl, ⟨_, h1'⟩, k n1 _ _ I1 H1 l1 e1 (fun j => runs_tup (Z := Z.z j) h1 h2) (by omega) q1⟩)
    · cases ed
      cases a1
      refine .inr (.inr ⟨_, rfl, k n1 _ _ I1 H1 l1 e1 (fun j => runs_str) ?_ q1⟩)
      unfold chars
      rw [List.length_map, Array.length_toList]
      exact hz
    · cases ed
  · exact q1.elim
def dRng1I (a : TDAi) : TDIi := fun δ Q n => a δ (fun xs k => match xs with
  | [.d (.int j)] => j ≤ sizeLine ∧ -(2 ^ 62) ≤ j ∧ Q (rangeD 0 j.toNat) k
  | _ => False) n
theorem ii_range1 {a : Expr} {ta : TA} {da : TDAi} {p : Pos} (hg : Gl X "range") (hm : X.mg "range" = none) (h : DAI X Z [a] ta da) (hs : starEach [a] X.env = [(false, eval a X.env)] := by rfl) : DII X Z tg (.Call (.Name "range" p) [a] [] pos) (iRng1 ta) (dRng1I da) := by
  refine ⟨pi_range1 hg hm h.pa hs, fun n I H δ σ Qd R hh q k => h.rf n I H δ σ _ _ hh q fun n1 xs vs I1 H1 l1 e1 a1 q1 => ?_⟩
  split at q1
  · obtain ⟨v, rfl, a2⟩ := at1 a1
    cases a2
    obtain ⟨h1, h2, q1⟩ := q1
    have sz : (sizeLine : Int) < 2 ^ 62 := by decide
    refine ⟨_, rfl, h2, by omega, k n1 _ _ I1 H1 l1 e1 (fun j => runs_range) ?_ q1⟩
    unfold rangeD
    rw [List.length_map, List.length_range]
    omega
  · exact q1.elim
/-! ### comprehensions -/
def lcGoI (body : PyData → (Option PyData → Nat → Prop) → Nat → Prop) : List PyData → List PyData → (List PyData → Nat → Prop) → Nat → Prop
  | [], acc, Q, n => Q acc n
  | d :: ds, acc, Q, n => body d (fun o k => lcGoI body ds (acc ++ o.toList) Q k) n
def dLcI (ti : TDIi) (dg : TDG) (de : TDi) (vs : List Nat) : TDi := fun δ Q n => ti δ (fun ds k =>
  lcGoI (fun d K j => dg (.d d) (wipeD δ vs) (fun δ' => de δ' (fun y i => match froz y with | .d y => K (some y) i | _ => False) j)) ds [] (fun ys j => Q (.new ys) j) k) n
theorem lcI_rf {wi : TI} {g : TG} {te : TE} {vs : List Nat} {ti : TDIi} {dg : TDG} {de : TDi}
    (hi : ∀ n I H δ σ Qd (R : It → Hp → Prop), HereI Z n I H δ σ → ti δ Qd n → (∀ k J ds I' H', n ≤ k → Ext (Z.F.R k) I H I' H' → (∀ j, Runs (Z.z j) J I' ds) → ds.length ≤ sizeLine → Qd ds k → R J H') → wi σ H R)
    (hg : ∀ n I H δ σ x v Qd Q Hs, Good (Z.F.R n) I H → EnvAt (Z.calm.z n) I H δ σ → At (Z.calm.z n) Hs I H x v → dg x δ Qd → (∀ δ' σ' I' H', Ext (Z.F.R n) I H I' H' → EnvAt (Z.calm.z n) I' H' δ' σ' → Qd δ' → Q σ' H') → g v σ H Q)
    (he : ∀ n I H δ σ Qd Q, HereI Z.calm n I H δ σ → de δ Qd n → ThenI Z.calm n I H Qd Q → te σ H Q) (tg : Tgt g vs) :
    ∀ n I H δ σ Qd Q, HereI Z n I H δ σ → dLcI ti dg de vs δ Qd n → ThenI Z n I H Qd Q → tLc wi g tYes te vs σ H Q := fun n I H δ σ Qd Q hh q k => by
  refine hi n I H δ σ _ _ hh q fun n1 J ds I1 H1 l1 e1 rn hl q1 D hD => ?_
  have h1 := HereI.ext hh l1 e1
  have k1 := k.ext hh.g l1 e1
  obtain ⟨f1, f2⟩ := fresh_off (Z := Z.z n1) h1.g hD
  have hD0 : Z.H0 D = none := h1.old D hD
  generalize hb : (fun d K j => dg (.d d) (wipeD δ vs) (fun δ' => de δ' (fun y i => match froz y with | .d y => K (some y) i | _ => False) j) : PyData → (Option PyData → Nat → Prop) → Nat → Prop) = body at q1
  refine ⟨fun i m H' => m = ds.length - i ∧ i ≤ ds.length ∧ ∃ c I' acc us, n1 ≤ c ∧ Ext (Z.F.R c) I1 H1 I' H' ∧ H' D = some (.lst us) ∧ DaAll Z.K I' us acc ∧ I' D = none ∧ acc.length ≤ i ∧ lcGoI body (ds.drop i) acc (fun ys j => Qd (.new ys) j) c,
    ⟨ds.length, by simp, Nat.zero_le _, n1, I1, [], [], Nat.le_refl _, ext_own h1.g hD, upd_same, .nil, f1, Nat.le_refl _, by simpa using q1⟩, ?_⟩
  rintro i m H' ⟨rfl, hi', c, I', acc, us, lc, e', hu, au, nu, la, q'⟩
  obtain ⟨go, stop⟩ := rn c I' H' e'.good e'.sub
  have l2 := au.len
  by_cases hlt : i < ds.length
  · have ed : ds[i]? = some ds[i] := by simp [hlt]
    rw [List.drop_eq_getElem_cons hlt] at q'
    obtain ⟨g1, g2⟩ := go i _ ed
    refine .inr ⟨g1, fun H2 => i + 1 ≤ ds.length ∧ ∃ c I' acc us, n1 ≤ c ∧ Ext (Z.F.R c) I1 H1 I' H2 ∧ H2 D = some (.lst us) ∧ DaAll Z.K I' us acc ∧ I' D = none ∧ acc.length ≤ i + 1 ∧ lcGoI body (ds.drop (i + 1)) acc (fun ys j => Qd (.new ys) j) c,
      fun H2 w2 => ⟨ds.length - (i + 1), by omega, rfl, w2⟩, fun x H'' hy => ?_⟩
    obtain ⟨I'', ex, ax⟩ := g2 x H'' hy
    have gc := h1.g.up lc
    have e'' := e'.trans gc ex
    have hc'' := HereI.ext h1 lc e''
    have env'' : EnvAt (Z.z c) I'' H'' (wipeD δ vs) (L2.wipe σ vs) := hc''.env.wipe vs
    subst hb
    have key : ∀ Q0, g x (L2.wipe σ vs) H'' Q0 → g x (L2.wipe σ vs) H'' (fun σ2 H2 => L2.wipe σ2 vs = L2.wipe σ vs ∧ Q0 σ2 H2) := fun Q0 h => by
      have := tg _ _ _ _ h
      rw [wipe_wipe] at this
      exact this
    refine key _ (hg c I'' H'' (wipeD δ vs) (L2.wipe σ vs) (.d _) x _ _ H'' ex.good (EnvAt.other (Z := Z.z c) env'') (show Da Z.K I'' x _ from ax) q' fun δ3 σ3 I3 H3 ex3 env3 q3 => ?_)
    have ex := ex.trans e'.good ex3
    have e'' := e'.trans gc ex
    have h3 : HereI Z.calm c I3 H3 δ3 σ3 := ⟨(h1.g0.up lc), (HereI.ext h1 lc e'').e0, env3, fun x c od I2 H2 e2 xa q => q.elim⟩
    have D4 : ∀ {m : Nat} {Ia Ha Ib Hb us}, Ext (Z.F.R m) Ia Ha Ib Hb → Ha D = some (.lst us) → Ia D = none → Hb D = some (.lst us) ∧ Ib D = none := fun {m Ia Ha Ib Hb us} ee hh' hn' => by
      refine ⟨ee.keep D _ hh' f2, ?_⟩
      cases z : Ib D with
      | none => rfl
      | some w =>
        rcases ee.fresh D w z with y | y
        · rw [hn'] at y; cases y
        · rw [hh'] at y; cases y
    obtain ⟨u2, v2⟩ := D4 ex hu nu
    show tYes σ3 H3 _
    refine he c I3 H3 δ3 σ3 _ _ h3 q3 (ThenI.frz (Z := Z.calm) (Qd := fun y j => match y with | .d y => lcGoI _ (ds.drop (i + 1)) (acc ++ (some y).toList) (fun ys j => Qd (.new ys) j) j | _ => False) fun n5 y w I5 H5 l5 e5 ay q5 => ?_)
    dsimp only at q5
    split at q5
    · have e5 : Ext (Z.F.R n5) I3 H3 I5 H5 := e5
      obtain ⟨u5, v5⟩ := D4 e5 u2 v2
      have au5 := daa_mono e5.sub _ _ (daa_mono ex.sub _ _ au)
      have ay : Da Z.K I5 w _ := ay
      have e15 := e''.tr h1.g lc l5 e5
      refine ⟨us, u5, by omega, hlt, n5, I5, _, us ++ [w], Nat.le_trans lc l5, ext_upd e15 hD f2 v5, upd_same, au5.app (.cons ay .nil), v5, ?_, q5⟩
      rw [List.length_append]
      simp only [Option.toList, List.length_cons, List.length_nil]
      omega
    · exact q5.elim
  · have e : i = ds.length := by omega
    subst e
    rw [List.drop_length] at q'
    refine .inl ⟨stop, k1 c (.new acc) (.ref D) I' H' lc e' ⟨⟨D, us, rfl, hu, au, nu, f2, by omega⟩, fun b eb => ?_⟩ q'⟩
    cases eb
    exact ⟨hD, hD0⟩
theorem ei_lc {elt iter : Expr} {scope : Scope} {own : List (Str × Nat)} {wi : TI} {g : TG} {te : TE} {ti : TDIi} {dg : TDG} {de : TDi} (hc : X.calm = true) (hN : X.N.Nodup) (hi : DII X Z tg iter wi ti) (ok : BlkOk X.N X.env.scope scope own)
    (hg : ∀ (s : Shared) (H : Hp) (C : Addr) (cl : List (Str × Addr)) (fp : List Addr) (n : Nat), DG (X.blk s H scope (compEnvC scope cl C X.env) fp) (Z.calm.z n) tg g dg)
    (he : ∀ (s : Shared) (H : Hp) (C : Addr) (cl : List (Str × Addr)) (fp : List Addr), DEI (X.blk s H scope (compEnvC scope cl C X.env) fp) Z.calm elt te de) (tgt : Tgt g (own.map (·.2))) (s0 : Shared) (hs : ∀ x, foldedSetIterable iter X.env x = pure x := by intro _; rfl) :
    DEI X Z (.ListComp elt [⟨tg, iter, [], 0⟩] scope pos) (tLc wi g tYes te (own.map (·.2))) (dLcI ti dg de (own.map (·.2))) :=
  ⟨pe_lc hc hN hi.pi ok (fun s H C cl fp => (hg s H C cl fp 0).pg) (fun s H C cl fp => pts_nil) (fun s H C cl fp => (he s H C cl fp).pe) hs,
    lcI_rf hi.rf (fun n => (hg s0 (fun _ => none) 0 [] [] n).rf) (he s0 (fun _ => none) 0 [] []).rf tgt⟩
end
/-! ### statements -/
structure DEndI where
  nx : DEnv → Nat → Prop
  rt : DKi
  bk : DEnv → Nat → Prop := fun _ _ => False
  ct : DEnv → Nat → Prop := fun _ _ => False
abbrev TDSi := DEndI → DEnv → Nat → Prop
def DEndI.at (D : DEndI) (n : Nat) : DEnds := { nx := fun δ => D.nx δ n, rt := fun x => D.rt x n, bk := fun δ => D.bk δ n, ct := fun δ => D.ct δ n }
structure LinkI (Z : Zi) (n : Nat) (I : Hp) (D : DEndI) (T : Ends) : Prop where
  nx : ∀ k δ σ I' H', n ≤ k → Ext (Z.F.R k) Z.I0 Z.H0 I' H' → Same I I' → EnvAt (Z.z k) I' H' δ σ → D.nx δ k → T.nx σ H'
  rt : ∀ k x v I' H', n ≤ k → Ext (Z.F.R k) Z.I0 Z.H0 I' H' → RetAt Z.K I' x v → D.rt x k → T.rt v H'
  bk : ∀ k δ σ I' H', n ≤ k → Ext (Z.F.R k) Z.I0 Z.H0 I' H' → Same I I' → EnvAt (Z.z k) I' H' δ σ → D.bk δ k → T.bk σ H'
  ct : ∀ k δ σ I' H', n ≤ k → Ext (Z.F.R k) Z.I0 Z.H0 I' H' → Same I I' → EnvAt (Z.z k) I' H' δ σ → D.ct δ k → T.ct σ H'
theorem LinkI.ext {Z : Zi} {n k : Nat} {I I' : Hp} {D : DEndI} {T : Ends} (l : LinkI Z n I D T) (h : n ≤ k) (e : Same I I') : LinkI Z k I' D T :=
  ⟨fun j δ σ I2 H2 lj f s => l.nx j δ σ I2 H2 (Nat.le_trans h lj) f (e.trans s), fun j x v I2 H2 lj f => l.rt j x v I2 H2 (Nat.le_trans h lj) f, fun j δ σ I2 H2 lj f s => l.bk j δ σ I2 H2 (Nat.le_trans h lj) f (e.trans s), fun j δ σ I2 H2 lj f s => l.ct j δ σ I2 H2 (Nat.le_trans h lj) f (e.trans s)⟩
theorem LinkI.at {Z : Zi} {n : Nat} {I : Hp} {D : DEndI} {T : Ends} (l : LinkI Z n I D T) : Link (Z.z n) I (D.at n) T :=
  ⟨fun δ σ I2 H2 f s => l.nx n δ σ I2 H2 (Nat.le_refl n) f s, fun x v I2 H2 f => l.rt n x v I2 H2 (Nat.le_refl n) f, fun δ σ I2 H2 f s => l.bk n δ σ I2 H2 (Nat.le_refl n) f s, fun δ σ I2 H2 f s => l.ct n δ σ I2 H2 (Nat.le_refl n) f s⟩
structure DSI (X : Cx) (Z : Zi) (s : Stmt) (ts : TS) (t : TDSi) : Prop where
  ps : PS X s ts
  rf : ∀ n I H δ σ D T, HereI Z n I H δ σ → t D δ n → LinkI Z n I D T → ts T σ H
structure DSsI (X : Cx) (Z : Zi) (ss : List Stmt) (ts : TS) (t : TDSi) : Prop where
  ps : PSs X ss ts
  rf : ∀ n I H δ σ D T, HereI Z n I H δ σ → t D δ n → LinkI Z n I D T → ts T σ H
section
variable {X : Cx} {Z : Zi} {pos : Pos} {e : Expr} {es : List Expr} {st : Stmt} {rest : List Stmt} {ts us : TS} {t u : TDSi} {te : TE} {d : TDi}
def dPS (t : Nat → TDS) : TDSi := fun D δ n => t n (D.at n) noE δ
theorem si {te : Nat → TS} {t : Nat → TDS} (h : ∀ n, DS X (Z.z n) st (te n) (t n)) (he : ∀ n, te n = te 0 := by intro _; rfl) : DSI X Z st (te 0) (dPS t) :=
  ⟨(h 0).ps, fun n I H δ σ D T hh q k => he n ▸ (h n).rf I H δ σ _ noE T hh q k.at⟩
def dNextI : TDSi := fun D δ n => D.nx δ n
def dSeqI (t u : TDSi) : TDSi := fun D δ n => t { D with nx := u D } δ n
theorem ssi_nil : DSsI X Z [] tNext dNextI := ⟨pss_nil, fun n I H δ σ D T hh t l => l.nx n δ σ I H (Nat.le_refl n) hh.e0 (Same.refl _) hh.env t⟩
theorem ssi_one (h : DSI X Z st ts t) : DSsI X Z [st] ts t := ⟨pss_one h.ps, h.rf⟩
theorem ssi_cons (h : DSI X Z st ts t) (h' : DSsI X Z rest us u) : DSsI X Z (st :: rest) (tSeq ts us) (dSeqI t u) :=
  ⟨pss_cons h.ps h'.ps, fun n I H δ σ D T hh q l => h.rf n I H δ σ { D with nx := u D } { T with nx := us T } hh q
    ⟨fun k δ' σ' I' H' lk e s v q => h'.rf k I' H' δ' σ' D T (HereI.at_ hh lk e v) q (l.ext lk s), l.rt, l.bk, l.ct⟩⟩
def dRetI (d : TDi) : TDSi := fun D δ n => d δ (fun x k => retK (fun y => D.rt y k) x) n
theorem si_ret (h : DEI X Z e te d) : DSI X Z (.Return (some e) pos) (tRet te) (dRetI d) :=
  ⟨ps_ret h.pe, fun n I H δ σ D T hh t l => h.rf n I H δ σ _ _ hh t fun k x v I' H' lk e a q => ret_frz (Z := Z.z k) (Q := fun y => D.rt y k) (HereI.up hh lk) e a q fun y I2 e2 r q => l.rt k y v I2 H' lk e2 r q⟩
def dIfSI (c : TDTi) (t u : TDSi) : TDSi := fun D δ n => c δ (fun b k => if b = true then t D δ k else u D δ k) n
theorem si_if {c : Expr} {a b : List Stmt} {tc : TT} {dc : TDTi} (hc : DTI X Z c tc dc) (ha : DSsI X Z a ts t) (hb : DSsI X Z b us u) : DSI X Z (.If c a b pos) (tIfS tc ts us) (dIfSI dc t u) := by
  refine ⟨ps_if hc.pt ha.ps hb.ps, fun n I H δ σ D T hh q l => hc.rf n I H δ σ _ _ hh q fun k z I1 H1 lk e1 q1 => ?_⟩
  cases z with
  | true => exact ha.rf k I1 H1 δ σ D T (HereI.ext hh lk e1) q1 (l.ext lk e1.sub)
  | false => exact hb.rf k I1 H1 δ σ D T (HereI.ext hh lk e1) q1 (l.ext lk e1.sub)
def dAsgI (d : TDi) (g : TDG) : TDSi := fun D δ n => d δ (fun x k => g (froz x) δ (fun δ' => D.nx δ' k)) n
theorem asgI_rf {ta : TE} {g : TG} {dg : TDG} (h : ∀ n I H δ σ Qd Q, HereI Z n I H δ σ → d δ Qd n → ThenI Z n I H Qd Q → ta σ H Q) (hg : ∀ n I H δ σ x v Qd Q Hs, Good (Z.F.R n) I H → EnvAt (Z.z n) I H δ σ → At (Z.z n) Hs I H x v → dg x δ Qd → (∀ δ' σ' I' H', Ext (Z.F.R n) I H I' H' → EnvAt (Z.z n) I' H' δ' σ' → Qd δ' → Q σ' H') → g v σ H Q) :
    ∀ n I H δ σ D T, HereI Z n I H δ σ → dAsgI d dg D δ n → LinkI Z n I D T → tAsg ta g T σ H := fun n I H δ σ D T hh q l => by
  refine h n I H δ σ _ _ hh q (ThenI.frz (Qd := fun x k => dg x δ (fun δ' => D.nx δ' k)) fun k x v I' H' lk e a q => ?_)
  have h1 := HereI.ext hh lk e
  exact hg k I' H' δ σ x v _ _ _ e.good h1.env a q fun δ' σ' I2 H2 ex env' q' => l.nx k δ' σ' I2 H2 lk (h1.e0.trans h1.g0 ex) (e.sub.trans ex.sub) env' q'
theorem si_set {i : Nat} {x : Str} {pos' : Pos} (hN : X.N.Nodup) (hi : X.N[i]? = some x) (hx : Loc X.env.scope x) (h : DEI X Z e te d) (hs : swapsWith e (some (.Name x pos')) pos.line X.env = pure false := by rfl) (hf : X.fn x = true ∨ X.env.scope.names.lookup x = some .local := by first | exact .inl rfl | exact .inr rfl | assumption) :
    DSI X Z (.Assign [.Name x pos'] e pos) (tAsg te (gName i)) (dAsgI d (dName i)) :=
  ⟨ps_set hN hi hx h.pe hs hf, asgI_rf h.rf fun n => (dg_name (Z := Z.z n) (pos := pos') hN hi hx hf).rf⟩
/-- a, b = x, y -/
def dParI (i j : Nat) (a : TDAi) : TDSi := fun D δ n => a δ (fun xs k => match xs with
  | [x, y] => dName i x δ (fun δ' => dName j y δ' (fun δ2 => D.nx δ2 k))
  | _ => False) n
def dParO2I (i j : Nat) (a : TDAi) : TDSi := fun D δ n => a δ (fun xs k => match xs with
  | [x, .new ys] => dName i x δ (fun δ' => D.nx (δ'.set j (some (.own ys))) k)
  | _ => False) n
variable {i j : Nat} {x y : Str} {a b : Expr} {ta : TA} {da : TDAi} {px py pt : Pos} {kt k2 pt2}
theorem si_par (hc : X.calm = true) (hN : X.N.Nodup) (hi : X.N[i]? = some x) (hj : X.N[j]? = some y) (hij : i ≠ j) (hx : X.env.scope.names.lookup x = some .local) (hy : X.env.scope.names.lookup y = some .local) (ha : DAI X Z [a, b] ta da)
    (hw : swappedStores [.Tuple [.Name x px, .Name y py] kt pt] (.Tuple [a, b] k2 pt2) X.env = pure (some [x, y])) (hs : swapsWithSole [.Tuple [.Name x px, .Name y py] kt pt] (.Tuple [a, b] k2 pt2) pos.line X.env = pure false := by rfl) :
    DSI X Z (.Assign [.Tuple [.Name x px, .Name y py] kt pt] (.Tuple [a, b] k2 pt2) pos) (tPar i j ta) (dParI i j da) := by
  refine ⟨ps_par hc hN hi hj hij hx hy ha.pa hw hs, fun n I H δ σ D T hh q l => ha.rf n I H δ σ _ _ hh q fun k xs vs I' H' lk e a q => ?_⟩
  split at q
  · obtain ⟨v, u, rfl, a1, a2⟩ := at2 a
    have h1 := HereI.ext hh lk e
    obtain ⟨δ1, ev1, q1, _⟩ := st_name (Z := Z.z k) (k := i) h1.env a1 q
    obtain ⟨δ2, ev2, q2, _⟩ := st_name (Z := Z.z k) (k := j) ev1 a2 q1
    exact ⟨v, u, rfl, l.nx k δ2 _ I' H' lk h1.e0 e.sub ev2 q2⟩
  · exact q.elim
theorem si_parO2 (hc : X.calm = true) (hN : X.N.Nodup) (hi : X.N[i]? = some x) (hj : X.N[j]? = some y) (hij : i ≠ j) (hx : X.env.scope.names.lookup x = some .local) (hy : X.env.scope.names.lookup y = some .local) (ha : DAI X Z [a, b] ta da)
    (hw : swappedStores [.Tuple [.Name x px, .Name y py] kt pt] (.Tuple [a, b] k2 pt2) X.env = pure (some [x, y])) (hs : swapsWithSole [.Tuple [.Name x px, .Name y py] kt pt] (.Tuple [a, b] k2 pt2) pos.line X.env = pure false := by rfl) :
    DSI X Z (.Assign [.Tuple [.Name x px, .Name y py] kt pt] (.Tuple [a, b] k2 pt2) pos) (tPar i j ta) (dParO2I i j da) := by
  refine ⟨ps_par hc hN hi hj hij hx hy ha.pa hw hs, fun n I H δ σ D T hh q l => ha.rf n I H δ σ _ _ hh q fun k xs vs I' H' lk e a q => ?_⟩
  split at q
  · obtain ⟨v, u, rfl, a1, a2⟩ := at2 a
    have h1 := HereI.ext hh lk e
    obtain ⟨δ2, ev2, q2, x', hx', rfl⟩ := st_name (Z := Z.z k) (k := i) h1.env a1 q
    have no : ∀ ys, x' ≠ .own ys := fun ys e => by
      subst e
      rcases hx' with h | ⟨_, h⟩ <;> cases h
    have ev3 := st_own (k := j) (old_name no (own_old hh.env)) ev2 a2
    exact ⟨v, u, rfl, l.nx k _ _ I' H' lk h1.e0 e.sub ev3 q2⟩
  · exact q.elim
/-- x.append(e) -/
def dAppI (i : Nat) (d : TDi) : TDSi := fun D δ n => match δ[i]? with
  | some (some (.own xs)) => d δ (fun y k => match froz y with
    | .d y => xs.length < sizeLine ∧ D.nx (δ.set i (some (.own (xs ++ [y])))) k
    | _ => False) n
  | _ => False
theorem si_app {i : Nat} {st : Stmt} {K : PySem.W.Frag} (hK : Z.K = K) (h : DEI X Z e te d) (hp : PE X e te → PS X st (tDrop (tBM K "list" rAppend (tVar i) (tCons te tNil)))) : DSI X Z st (tDrop (tBM K "list" rAppend (tVar i) (tCons te tNil))) (dAppI i d) := by
  subst hK
  refine ⟨hp h.pe, fun n I H δ σ D T hh q l => ?_⟩
  unfold dAppI at q
  split at q
  · rename_i xs ex
    obtain ⟨v, e1, ⟨⟨p, vs, rfl, h1, h2, h3, h4, h5⟩, h6⟩⟩ := hh.env.val i _ ex
    refine ⟨_, e1, .inl ⟨rfl, vs, SqL.of h1⟩, h.rf n I H δ σ _ _ hh q (ThenI.frz (Qd := fun y k => match y with | .d y => xs.length < sizeLine ∧ D.nx (δ.set i (some (.own (xs ++ [y])))) k | _ => False) fun k y w I' H' lk e ay q => ?_)⟩
    dsimp only at q
    split at q
    · have l1 := h2.len
      have hx1 := HereI.ext hh lk e
      obtain ⟨v', e1', ⟨⟨p', vs', e2', h1', h2', h3', h4', h5'⟩, h6'⟩⟩ := hx1.env.val i _ ex
      rw [e1] at e1'
      cases e1'
      cases e2'
      have ay : Da Z.K I' w _ := ay
      refine ⟨p, vs', w, rfl, rfl, h1', by have := h2'.len; omega, ?_⟩
      exact l.nx k _ σ I' _ lk (ext_upd hx1.e0 (h6 p rfl) h4 h3') e.sub (hx1.env.upd ex e1 (h2'.app (.cons ay .nil)) (by rw [List.length_append]; have := h2'.len; simp only [List.length_cons, List.length_nil]; omega)) q.2
    · exact q.elim
  · exact q.elim
/-! ### for -/
def forGoI (dg : TDG) (tb : TDSi) : List PyData → DEndI → DEnv → Nat → Prop
  | [], D, δ, n => D.nx δ n
  | d :: ds, D, δ, n => dg (.d d) δ (fun δ' => tb { D with nx := forGoI dg tb ds D, ct := forGoI dg tb ds D, bk := D.nx } δ' n)
def dForI (ti : TDIi) (dg : TDG) (tb : TDSi) : TDSi := fun D δ n => ti δ (fun ds k => forGoI dg tb ds D δ k) n
theorem si_for {tg iter : Expr} {body : List Stmt} {wi : TI} {di : TDIi} {g : TG} {dg : TDG} {ts : TS} {tb : TDSi} (hp : PassesOwn (model X.prog X.w) X.A X.env X.xe) (hc : X.calm = true) (hi : DII X Z tg iter wi di) (hg : ∀ n, DG X (Z.z n) tg g dg) (hb : DSsI X Z body ts tb)
    (hs : ∀ x, foldedSetIterable iter X.env x = pure x := by intro _; rfl) : DSI X Z (.For tg iter body [] pos) (tFor wi g ts) (dForI di dg tb) := by
  refine ⟨ps_for hp hc hi.pi (hg 0).pg hb.ps hs, fun n I H δ σ D T hh q l => hi.rf n I H δ σ _ _ hh q fun n1 J ds I1 H1 l1 e1 rn hl q1 => ?_⟩
  have h1 := HereI.ext hh l1 e1
  refine ⟨fun i m σ' H' => m = ds.length - i ∧ i ≤ ds.length ∧ ∃ c I' δ', n1 ≤ c ∧ Ext (Z.F.R c) Z.I0 Z.H0 I' H' ∧ Same I1 I' ∧ EnvAt (Z.z c) I' H' δ' σ' ∧ forGoI dg tb (ds.drop i) D δ' c, ⟨ds.length, by simp, Nat.zero_le _, n1, I1, δ, Nat.le_refl _, h1.e0, Same.refl _, h1.env, by simpa using q1⟩, ?_⟩
  rintro i m σ' H' ⟨rfl, hi', c, I', δ', lc, e', s', env', q'⟩
  obtain ⟨go, stop⟩ := rn c I' H' e'.good s'
  have g0 := h1.g0.up lc
  by_cases hlt : i < ds.length
  · have ed : ds[i]? = some ds[i] := by simp [hlt]
    rw [List.drop_eq_getElem_cons hlt] at q'
    obtain ⟨g1, g2⟩ := go i _ ed
    refine .inr ⟨g1, fun σ2 H2 => ∃ c I2 δ2, n1 ≤ c ∧ Ext (Z.F.R c) Z.I0 Z.H0 I2 H2 ∧ Same I1 I2 ∧ EnvAt (Z.z c) I2 H2 δ2 σ2 ∧ forGoI dg tb (ds.drop (i + 1)) D δ2 c, fun σ2 H2 w2 => ⟨ds.length - (i + 1), by omega, rfl, hlt, w2⟩, fun x H'' hy => ?_⟩
    obtain ⟨I'', ex, ax⟩ := g2 x H'' hy
    refine (hg c).rf I'' H'' δ' σ' (.d _) x _ _ H'' ex.good (env'.ext ex) ax q' fun δ3 σ3 I3 H3 ex3 env3 q3 => ?_
    have ex := ex.trans e'.good ex3
    have e'' := e'.trans g0 ex
    exact hb.rf c I3 H3 δ3 σ3 _ _ (HereI.at_ h1 lc e'' env3) q3
      ⟨fun k δ4 σ4 I4 H4 lk e4 s4 env4 q4 => ⟨k, I4, δ4, Nat.le_trans lc lk, e4, (s'.trans ex.sub).trans s4, env4, q4⟩, fun k x v I4 H4 lk => l.rt k x v I4 H4 (Nat.le_trans l1 (Nat.le_trans lc lk)), fun k δ4 σ4 I4 H4 lk e4 s4 env4 q4 => l.nx k δ4 σ4 I4 H4 (Nat.le_trans l1 (Nat.le_trans lc lk)) e4 (e1.sub.trans ((s'.trans ex.sub).trans s4)) env4 q4,
        fun k δ4 σ4 I4 H4 lk e4 s4 env4 q4 => ⟨k, I4, δ4, Nat.le_trans lc lk, e4, (s'.trans ex.sub).trans s4, env4, q4⟩⟩
  · have e : i = ds.length := by omega
    subst e
    rw [List.drop_length] at q'
    exact .inl ⟨stop, l.nx c δ' σ' I' H' (Nat.le_trans l1 lc) e' (e1.sub.trans s') env' q'⟩
end
/-! ### a def of the text keeps its word -/
theorem fn_okI {P : Program} {w : World} {K : PySem.W.Frag} {mg : Str → Option Value} {base : Heap} {x qual : Str} {params : Arguments} {body : List Stmt} {scope : Scope} {dvs : List V} {kws : List (Str × V)} {f : Addr} {fd : FuncData} {N ps : List Str} {k m : Nat} {S : Spi} (F : FunD K x qual params body scope dvs kws f fd) (hS : FnScope N ps scope) (hn : ps.length = m)
    (hb : ∀ (cdv : Value) (A : Around) (outer : List Env) (s : Shared) (I H : Hp) (E : XK) (R : Fam), Room k (A.deeper (envOfC qual scope s.heap.objs.size f cdv)) →
      ∃ ts t, DSsI (cxOf (L2.CX P w) P w K mg base N qual scope f cdv A outer s H E) ⟨K, R, wOf E, I, H⟩ body ts t ∧ ∀ n xs Qd, xs.length = m → S R n xs Qd → t { nx := fun _ j => Qd (.d .none) j, rt := Qd } (entry N xs) n) :
    FnOk P w K mg base (L2.CX P w) (k + 1) f fd ps (liftI K S m) := by
  refine F.ok hS (fun vs H Q E h => h.1.trans hn.symm) (fun cdv A outer s H vs Q E hr h => ?_)
  obtain ⟨hl, R, n, I, xs, Qd, g, a, q, kr⟩ := h
  obtain ⟨ts, t, D, sp⟩ := hb cdv A outer s I H E R hr
  have l := a.len
  refine ⟨ts, D.ps, D.rf n I H (entry N xs) (L2.start N vs) _ _ ⟨g, Ext.refl g, ?_, fun x c od I' H' e xa qx => qx.elim⟩ (sp n xs Qd (by omega) q) ⟨fun j δ σ I' H' lj e _ _ q => kr j (.d .none) .non I' H' lj e Da.non q, fun j x v I' H' lj e r q => kr j x v I' H' lj e r q, fun _ _ _ _ _ _ _ _ _ q => q.elim, fun _ _ _ _ _ _ _ _ _ q => q.elim⟩⟩
  have := args_env (Z := ⟨K, R.R n, wOf E, I, H⟩) rfl g a (N.length - xs.length)
  unfold entry L2.start
  rw [show N.length - vs.length = N.length - xs.length by omega]
  exact this
end PD
set_option Elab.async false
set_option linter.all false
set_option maxRecDepth 100000
set_option maxHeartbeats 1000000
/-! PD34: draws from the dict of great, cells, rest, turn; turn is counted. -/
namespace PD
open PySem PySem.Spec PyProof.Rows L2
def StN (n : Nat) (H : Hp) (a g c : Addr) : Prop := ∃ (gs cs : List Int) (r t : Int), H a = some (.dK (stRows g c r t)) ∧ H g = some (.lst (gs.map V.int)) ∧ H c = some (.lst (cs.map V.int)) ∧ t.natAbs ≤ n
def stFam (a g c : Addr) : Fam where
  m b := b = a ∨ b = g ∨ b = c
  J n H := g ≠ c ∧ StN n H a g c
  dom := fun n H b j m => by
    obtain ⟨_, gs, cs, r, t, h1, h2, h3, _⟩ := j
    rcases m with rfl | rfl | rfl
    · rw [h1]; exact fun e => nomatch e
    · rw [h2]; exact fun e => nomatch e
    · rw [h3]; exact fun e => nomatch e
  st := fun n H H' j k => by
    obtain ⟨ng, gs, cs, r, t, h1, h2, h3, h4⟩ := j
    exact ⟨ng, gs, cs, r, t, k a _ (.inl rfl) h1, k g _ (.inr (.inl rfl)) h2, k c _ (.inr (.inr rfl)) h3, h4⟩
  up := fun n k H l j => by
    obtain ⟨ng, gs, cs, r, t, h1, h2, h3, h4⟩ := j
    exact ⟨ng, gs, cs, r, t, h1, h2, h3, Nat.le_trans h4 l⟩
/-- as many draws as are ever counted -/
def Lim : Nat := 10 ^ 30
def spMixedI : Spi := fun F n xs Q => ∃ (a g c : Addr), F = stFam a g c ∧ xs = [.v (.ref a)] ∧ n < Lim ∧ ∀ i : Int, Q (.d (.int i)) (n + 1)
def spTakeI : Spi := fun F n xs Q => ∃ (a g c : Addr) (k : Int), F = stFam a g c ∧ xs = [.v (.ref a), .d (.int k)] ∧ 1 ≤ k ∧ k ≤ 10 ^ 30 ∧ n < Lim ∧ ∀ i : Int, 0 ≤ i → i < k → Q (.d (.int i)) (n + 1)
theorem ext_stI {a g c : Addr} {n k : Nat} {I H H' : Hp} (gd : Good ((stFam a g c).R n) I H) (o : OffS a g c H H') (j : StN k H' a g c) : Ext ((stFam a g c).R k) I H I H' := by
  refine ⟨⟨fun b u e => ?_, ⟨gd.j.1, j⟩, gd.off, gd.len⟩, Same.refl _, fun b u e => .inl e, fun b u e m => o b u e m⟩
  exact o b u (gd.sub b u e) (gd.off b u e)
theorem mix_fits {t q : Int} {n : Nat} (ht : t.natAbs ≤ n) (hn : n < Lim) (q0 : 0 < q) (q1 : q < 4294967296) : (104729 * (t + 1) + q / 7).natAbs < 2 ^ 200 := by
  have e : Lim = 10 ^ 30 := rfl
  have d0 : 0 ≤ q / 7 := Int.ediv_nonneg (by omega) (by omega)
  have d1 : q / 7 ≤ q := Int.ediv_le_self _ (by omega)
  have : (104729 * (t + 1) + q / 7).natAbs ≤ 104729 * (n + 1) + 4294967296 := by omega
  have h2 : 104729 * (Lim + 1) + 4294967296 < 2 ^ 200 := by decide
  omega
end PD
set_option Elab.async false
set_option linter.all false
set_option maxRecDepth 100000
set_option maxHeartbeats 2000000
/-! PD35: truths as numbers, t[::-1] of a tuple, xs[i] = e. -/
namespace PD
open PySem PySem.Spec PyProof.Rows L2
section
variable {X : Cx} {Z : Zx} {pos : Pos}
abbrev nB (b : Bool) : Int := if b = true then (1 : Int) else 0
def rBI (g : Int → Int → Int) : R2 := fun x y H Q => ∃ (b : Bool) (j : Int), x = .bl b ∧ y = .int j ∧ Q (.int (g (nB b) j)) H
theorem op_addB : OpR X (binaryOp .Add) (rBI fun i j => i + j) := by
  intro pins s σ H x y v u Q I rx ry h
  obtain ⟨b, j, rfl, rfl, q⟩ := h
  cases rx
  obtain ⟨t', rfl⟩ := ry
  exact IntBool.add_bool_int ⟨.int _, H, I.tok _, ⟨_, rfl⟩, q⟩
theorem op_subB : OpR X (binaryOp .Sub) (rBI fun i j => i - j) := by
  intro pins s σ H x y v u Q I rx ry h
  obtain ⟨b, j, rfl, rfl, q⟩ := h
  cases rx
  obtain ⟨t', rfl⟩ := ry
  exact IntBool.sub_bool_int ⟨.int _, H, I.tok _, ⟨_, rfl⟩, q⟩
def rCatB (K : PySem.W.Frag) : R2 := fun x y H Q => rBI (fun i j => i + j) x y H Q ∨ (rI0 (fun i j => .int (i + j)) x y H Q ∨ (∃ i j, x = .str i ∧ y = .str j ∧ i.length + j.length ≤ sizeLine ∧ Q (.str (i ++ j)) H) ∨ rCatA K x y H Q ∨ rCat x y H Q)
theorem op_catB : OpR X (binaryOp .Add) (rCatB X.K) := op_addB.or op_cat'
def oAddB : O2 := fun x y Q E => match x, y with
  | .d (.bool b), .d (.int j) => Q (.d (.int (nB b + j)))
  | x, y => oAdd x y Q E
theorem od_addB {K : PySem.W.Frag} (hK : Z.K = K) : OpD Z (rCatB K) oAddB := fun I H Hs x y v u Qd Ed Q g' ax ay t k => by
  unfold oAddB at t
  split at t
  · cases ax; cases ay
    exact .inl ⟨_, _, rfl, rfl, k.now g'.g (.int _) t⟩
  · exact .inr (od_add hK I H Hs x y v u Qd Ed Q g' ax ay t k)
def rSubB : R2 := fun x y H Q => rBI (fun i j => i - j) x y H Q ∨ rI0 (fun i j => .int (i - j)) x y H Q
theorem op_subBX : OpR X (binaryOp .Sub) rSubB := op_subB.or op_sub
def oSubB : O2 := fun x y Q E => match x, y with
  | .d (.bool b), .d (.int j) => Q (.d (.int (nB b - j)))
  | x, y => oSub x y Q E
theorem od_subB : OpD Z rSubB oSubB := fun I H Hs x y v u Qd Ed Q g' ax ay t k => by
  unfold oSubB at t
  split at t
  · cases ax; cases ay
    exact .inl ⟨_, _, rfl, rfl, k.now g'.g (.int _) t⟩
  · exact .inr (od_sub I H Hs x y v u Qd Ed Q g' ax ay t k)
/-- str of a truth -/
def bText (b : Bool) : Str := if b = true then Str.ofString "True" else Str.ofString "False"
def rStrB : List V → Hp → VK → Prop := fun xs H Q => (∃ b, xs = [.bl b] ∧ Q (.str (bText b)) H) ∨ rStr xs H Q
theorem call_strB : CallR X (.type "str") rStrB := by
  refine CallR.or (fun pins s σ H xs us Q I r h => ?_) call_strX
  obtain ⟨b, rfl, q⟩ := h
  cases r with
  | cons r1 rr =>
  cases rr
  cases r1
  exact PySem.P.str_of_bool ⟨.str _, H, I.tok _, ⟨_, rfl⟩, q⟩
def oStrB : OC := fun xs Q E => match xs with
  | [.d (.bool b)] => Q (.d (.str (bText b)))
  | xs => oStr xs Q E
theorem cd_strB : CallD Z rStrB oStrB := fun I H Hs xs vs Qd Ed Q g' a t k => by
  unfold oStrB at t
  split at t
  · obtain ⟨v, rfl, a'⟩ := at1 a
    cases a'
    exact .inl ⟨_, rfl, k.now g'.g (.str _) t⟩
  · exact .inr (cd_str I H Hs xs vs Qd Ed Q g' a t k)
end
/-! ### t[::-1] -/
section
variable {prog : Program} {w : World} {A : Around} {E : Value → Shared → Prop} {s : Shared}
theorem adjust_rev (n : Nat) : Builtin.Slice.sliceAdjust none none (-1) (n : Int) = ((n : Int) - 1, -1) := by
  unfold Builtin.Slice.sliceAdjust
  rfl
theorem places_rev (n : Nat) : Builtin.Slice.slicePlaces ((n : Int) - 1) (-1) (-1) = n := by
  unfold Builtin.Slice.slicePlaces
  rw [if_neg (by decide)]
  by_cases h : (n : Int) - 1 > -1
  · rw [if_pos h]
    have : ((n : Int) - 1 - (-1) - 1) / (-(-1)) + 1 = n := by
      rw [show (-(-1 : Int)) = 1 from rfl, Int.ediv_one]
      omega
    rw [this]
    rfl
  · rw [if_neg h]
    have : n = 0 := by omega
    rw [this]
    rfl
theorem sliceApplied_rev {sl : Addr} {n : Nat} {t : Tok} {Q : Int × Int × Nat → Shared → Prop} (hs : s.heap.IsSliceOf sl .none .none (.int (-1) t))
    (h : Q ((n : Int) - 1, -1, n) s) : wpAny (model prog w) A (Builtin.Slice.sliceApplied (.ref sl) (pure (n : Int))) Q E s := by
  obtain ⟨os, hos, hcs, hds⟩ := id hs
  unfold Builtin.Slice.sliceApplied Builtin.Slice.sliceFields
  refine wpAny_bind (wpAny_bind (wpAny_field hos hds (x := .none) rfl (wpAny_bind (wpAny_field hos hds (x := .none) rfl (wpAny_bind (wpAny_field hos hds (x := .int (-1) t) rfl (wpAny_pure ?_)))))))
  refine wpAny_bind (slicePart_int ?_)
  show wpAny _ _ (if ((-1 : Int) == 0) = true then _ else _) _ _ s
  rw [if_neg (by decide)]
  refine wpAny_bind (slicePart_none (wpAny_bind (slicePart_none (wpAny_bind (wpAny_pure ?_)))))
  show wpAny _ _ (match Builtin.Slice.sliceAdjust none none (-1) (n : Int) with | (lo, hi) => pure (lo, (-1 : Int), Builtin.Slice.slicePlaces lo hi (-1))) _ _ s
  rw [adjust_rev n]
  show wpAny _ _ (pure ((n : Int) - 1, (-1 : Int), Builtin.Slice.slicePlaces ((n : Int) - 1) (-1) (-1))) _ _ s
  rw [places_rev n]
  exact wpAny_pure h
theorem fm_congr {α β : Type} {f g : α → Option β} : ∀ {l : List α}, (∀ x ∈ l, f x = g x) → l.filterMap f = l.filterMap g
  | [], _ => rfl
  | x :: l, h => by
    rw [List.filterMap_cons, List.filterMap_cons, h x List.mem_cons_self, fm_congr fun y hy => h y (List.mem_cons_of_mem _ hy)]
theorem pick_rev (xs : Array Value) : ((List.range xs.size).filterMap fun (k : Nat) => xs[(((xs.size : Int) - 1) + (k : Int) * (-1)).toNat]?).toArray = xs.toList.reverse.toArray := by
  have e : (List.range xs.size).filterMap (fun (k : Nat) => xs[(((xs.size : Int) - 1) + (k : Int) * (-1)).toNat]?) = ((List.range xs.size).map fun k => xs.size - 1 - k).filterMap (xs[·]?) := by
    rw [List.filterMap_map]
    refine fm_congr fun k hk => ?_
    have hk : k < xs.size := List.mem_range.mp hk
    show xs[_]? = xs[xs.size - 1 - k]?
    rw [show (((xs.size : Int) - 1) + (k : Int) * (-1)).toNat = xs.size - 1 - k by omega]
  rw [e, PySem.W.krv_range, List.filterMap_reverse, PySem.W.krv_all]
theorem getItem_tuple_rev {t sl : Addr} {items : Array Value} {u : Tok} {Q : Value → Shared → Prop} (ht : IsTup s.heap t items) (hs : s.heap.IsSliceOf sl .none .none (.int (-1) u))
    (h : Q (.ref s.heap.objs.size) { s with heap := s.heap.push { cls := .type "tuple", data := .seq items.toList.reverse.toArray } })
    (hsz : items.size ≤ sizeLine) : wpAny (model prog w) A (getItem (.ref t) (.ref sl)) Q E s := by
  have hdrop : sizeOk (.seq items.toList.reverse.toArray) := by
    show items.toList.reverse.toArray.size ≤ sizeLine
    rw [List.size_toArray, List.length_reverse, Array.length_toList]
    exact hsz
  obtain ⟨os, hos, hcs, hds⟩ := id hs
  have hTs : s.TypeIs (.ref sl) "slice" := ⟨os, hos, hcs⟩
  unfold getItem
  try with_reducible refine wpAny_holding ?_
  first | refine wpAny_bind (wpAny_pure ?_) | skip
  refine wpAny_bind (wpAny_sequenceKey ht.typeIs (by decide) ?_)
  refine wpAny_bind (wpAny_callSpecial?_slot (name := Str.ofString "__getitem__") ht.typeIs PyProof.Rows.slot_tuple_getitem
    (wpAny_call_entry PyProof.Rows.slot_tuple_getitem ht.typeIs entry_tuple_getitem ?_ (args_tuple_getitem _ _)))
  show wpAny _ _ (Builtin.Tuple.tupleItemsOf (.ref t) >>= _) _ _ s
  refine wpAny_bind (tupleItemsOf_ ht ?_)
  refine wpAny_bind (wpAny_typeOf hTs ?_)
  rw [if_pos (by decide)]
  refine wpAny_bind (sliceApplied_rev hs ?_)
  have hno : ¬ ((((items.size : Int) - 1) == 0 && (-1 : Int) == 1 && items.size == items.size) = true) := by
    have : ((-1 : Int) == 1) = false := by decide
    rw [this]; simp
  show wpAny _ _ (if (((items.size : Int) - 1) == 0 && (-1 : Int) == 1 && items.size == items.size) = true then _ else _) _ _ s
  rw [if_neg hno, pick_rev items]
  first
    | exact wpAny_bind (m := Builtin.Tuple.tupleExact _) (wpAny_newObj_type (wpAny_pure ⟨_, rfl, wpAny_pure h⟩) hdrop)
    | exact wpAny_bind (m := Builtin.Tuple.tupleExact _) (wpAny_newObj_type (wpAny_bind (wpAny_pure (wpAny_pure ⟨_, rfl, wpAny_pure h⟩))) hdrop)
    | exact wpAny_bind (wpAny_bind (m := Builtin.Tuple.tupleExact _) (wpAny_newObj_type (wpAny_pure (wpAny_pure ⟨_, rfl, wpAny_pure h⟩)) hdrop))
    | exact wpAny_bind (wpAny_bind (m := Builtin.Tuple.tupleExact _) (wpAny_newObj_type (wpAny_pure ⟨_, rfl, wpAny_pure h⟩) hdrop))
end
section
variable {X : Cx} {Z : Zx} {pos : Pos}
def tRevX (K : PySem.W.Frag) (te : TE) : TE := fun σ H Q => te σ H fun x H1 => (∃ a xs, x = .ref a ∧ SqL K H1 a xs ∧ ∀ p, H1 p = none → Q (.ref p) (upd H1 p (.lst xs.reverse))) ∨ (∃ a xs, x = .ref a ∧ SqT K H1 a xs ∧ ∀ p, H1 p = none → Q (.ref p) (upd H1 p (.tup xs.reverse)))
theorem pe_revX {e : Expr} {te : TE} {k : Nat} {p1 p2 p3 pos : Pos} (he : PE X e te) : PE X (.Subscript e (.Slice none none (some (.UnaryOp .USub (.Constant (.int 1) k p1) p2)) p3) pos) (tRevX X.K te) := by
  refine ⟨fun pins s σ H Q I h => ?_⟩
  refine Subscript_ (thn (he.run pins s σ H _ I h) fun v s1 ⟨x, H1, I1, r1, q1⟩ => ?_)
  have hst : PO X (some (.UnaryOp .USub (.Constant (.int 1) k p1) p2)) (tPart (tUn (rU fun i => .int (-i)) (tC (.int 1)))) := po_some (pe_un un_neg pe_int)
  refine wpAny_Slice (thn (po_none.run pins s1 σ H1 (fun o H2 => o = none ∧ H2 = H1) I1 ⟨rfl, rfl⟩) fun vl s2 ⟨l, H2, I2, pl, el, e2⟩ => ?_)
  subst el e2
  refine thn (po_none.run pins s2 σ H2 (fun o H3 => o = none ∧ H3 = H2) I2 ⟨rfl, rfl⟩) fun vu s3 ⟨u, H3, I3, pu, eu, e3⟩ => ?_
  subst eu e3
  refine thn (hst.run pins s3 σ H3 (fun o H4 => o = some (-1) ∧ H4 = H3) I3 ⟨1, rfl, -1, rfl, rfl, rfl⟩) fun vs s4 ⟨o, H4, I4, ps, eo, e4⟩ => ?_
  subst eo e4
  have I5 : Inv X pins σ H4 { s4 with heap := s4.heap.push { cls := .type "slice", data := .fields #[vl, vu, vs] } } := I4.kept (t' := s4.toks) fun b ob q => Heap.get?_push_of_some _ q
  rcases q1 with ⟨a, xs, ex, hx, q⟩ | ⟨a, xs, ex, hx, q⟩
  · subst ex
    cases r1
    obtain ⟨its, r, ht, hz⟩ := I5.list hx
    have hlen := r.length
    show wpAny (model X.prog X.w) X.A (subscriptTail e (.Slice none none (some (.UnaryOp .USub (.Constant (.int 1) k p1) p2)) p3) (.ref a) (.ref s4.heap.objs.size)) (EP X pins σ Q) X.xe { s4 with heap := s4.heap.push { cls := .type "slice", data := .fields #[vl, vu, vs] } }
    refine tail_any (ops := [.ref a, .ref s4.heap.objs.size]) ht.isList.typeIs (PySem.slot_list_getitem.lookup) ?_ (by with_unfolding_all rfl)
    refine wpAny_getItem_list_slice ht.isList (Heap.IsSliceOf.new _ vl vu vs) pl pu ps (by decide) ?_ (by rw [List.size_toArray]; omega)
    rw [PySem.W.krv_pick]
    refine ⟨.ref _, _, I5.laid (t' := s4.toks) (o := .lst xs.reverse) (fun b ob q => Heap.get?_push_of_some _ q) (Nat.le_refl _) ?_, rfl, q _ (I5.hok.fresh (Nat.le_refl _))⟩
    exact ⟨by rw [List.length_reverse]; exact hz, _, 0, r.reverse, Heap.get?_push_size _ rfl⟩
  · subst ex
    cases r1
    obtain ⟨its, r, ht, hz⟩ := I5.tuple hx
    have hlen := r.length
    cases pl
    cases pu
    cases ps
    show wpAny (model X.prog X.w) X.A (subscriptTail e (.Slice none none (some (.UnaryOp .USub (.Constant (.int 1) k p1) p2)) p3) (.ref a) (.ref s4.heap.objs.size)) (EP X pins σ Q) X.xe { s4 with heap := s4.heap.push { cls := .type "slice", data := .fields #[_, _, _] } }
    refine tail_any (ops := [.ref a, .ref s4.heap.objs.size]) ht.typeIs (PyProof.Rows.slot_tuple_getitem.lookup) ?_ (by with_unfolding_all rfl)
    refine getItem_tuple_rev ht (Heap.IsSliceOf.new _ _ _ _) ?_ (by rw [List.size_toArray]; omega)
    refine ⟨.ref _, _, I5.laid (t' := s4.toks) (o := .tup xs.reverse) (fun b ob q => Heap.get?_push_of_some _ q) (Nat.le_refl _) ?_, rfl, q _ (I5.hok.fresh (Nat.le_refl _))⟩
    exact ⟨by rw [List.length_reverse]; exact hz, _, r.reverse, IsTup.new _ _⟩
def dRevX (a : TD) : TD := fun δ Q E => a δ (fun x => match x with
  | .d (.tuple xs) => Q (.d (.tuple xs.reverse))
  | x => ∃ xs, lstOf x = some xs ∧ Q (.new xs.reverse)) E
theorem de_revX {e : Expr} {te : TE} {d : TD} {k : Nat} {p1 p2 p3 : Pos} (h : DE X Z e te d) (hK : Z.K = X.K) : DE X Z (.Subscript e (.Slice none none (some (.UnaryOp .USub (.Constant (.int 1) k p1) p2)) p3) pos) (tRevX X.K te) (dRevX d) := by
  refine ⟨pe_revX h.pe, fun I H δ σ Qd Ed Q hh t k => h.rf I H δ σ _ Ed _ hh t fun x v I1 H1 e1 a1 q1 => ?_⟩
  have h1 := hh.ext e1
  split at q1
  · obtain ⟨p, vs, rfl, hp, hp', hv⟩ := tup_at h1.g a1
    have l := tup_len h1.g hp
    rw [hK] at hp'
    exact .inr ⟨p, vs, rfl, hp', (k.ext hh.g e1).tup h1.g hv.rev (by rw [List.length_reverse]; exact l) q1⟩
  · obtain ⟨xs, el, q⟩ := q1
    obtain ⟨p, vs, rfl, hp, hv, hl⟩ := lst_at h1.g a1 el
    exact .inl ⟨p, vs, rfl, SqL.of hp, (k.ext hh.g e1).new h1.g h1.old hv.rev (by rw [List.length_reverse]; exact hl) q⟩
end
/-! ### xs[i] = e -/
section
variable {X : Cx} {Z : Zi} {pos tpos : Pos} {e : Expr} {te : TE} {d : TDi}
def dPutI (i j : Nat) (d : TDi) : TDSi := fun D δ n => ∃ (xs : List PyData) (k : Int) (m : Nat), δ[i]? = some (some (.own xs)) ∧ δ[j]? = some (some (.d (.int k))) ∧ ixN xs.length k = some m ∧
  d δ (fun y c => match froz y with
    | .d y => D.nx (δ.set i (some (.own (xs.set m y)))) c
    | _ => False) n
theorem si_put {i j : Nat} {o ix : Expr} (ho : PE X o (tVar i)) (hi : PE X ix (tVar j)) (h : DEI X Z e te d) (hs : swapsWithSole [.Subscript o ix tpos] e pos.line X.env = pure false := by rfl) (hw : swappedStores [.Subscript o ix tpos] e X.env = pure none := by rfl)
    (h1 : (assignEach [.Subscript o ix tpos] X.env).map (·.2) = [assign (.Subscript o ix tpos) X.env] := by rfl)
    (ha : ∀ v, assign (.Subscript o ix tpos) X.env v = (do
      let ov ← holding [v] (eval o X.env)
      let iv ← holding [v, ov] (eval ix X.env)
      standAt tpos
      holding [v, ov, iv] (setItem ov iv v)
      release [v, ov, iv] []) := by intro _; rfl) : DSI X Z (.Assign [.Subscript o ix tpos] e pos) (tAsg te (gSub (tVar i) (tVar j) rSetL)) (dPutI i j d) := by
  refine ⟨ps_asg h.pe (pg_sub ho hi set_list ha) hs hw h1, fun n I H δ σ D T hh q l => ?_⟩
  obtain ⟨xs, k, m, ex, ek, em, q⟩ := q
  obtain ⟨v, e1, ⟨⟨p, vs, rfl, p1, p2, p3, p4, p5⟩, p6⟩⟩ := hh.env.val i _ ex
  obtain ⟨u, e2, s2⟩ := hh.env.val j _ ek
  cases s2
  refine h.rf n I H δ σ _ _ hh q (ThenI.frz (Qd := fun y c => match y with | .d y => D.nx (δ.set i (some (.own (xs.set m y)))) c | _ => False) fun c y w I' H' lk ee ay q => ?_)
  dsimp only at q
  split at q
  · have hx1 := HereI.ext hh lk ee
    obtain ⟨v', e1', ⟨⟨p', vs', e2', h1', h2', h3', h4', h5'⟩, h6'⟩⟩ := hx1.env.val i _ ex
    rw [e1] at e1'
    cases e1'
    cases e2'
    have ay : Da Z.K I' w _ := ay
    have ll := h2'.len
    refine ⟨_, e1, _, e2, p, vs', k, m, rfl, rfl, h1', by rw [ll]; exact em, ?_⟩
    exact l.nx c _ σ I' _ lk (ext_upd hx1.e0 (p6 p rfl) h4' h3') ee.sub (hx1.env.upd ex e1 (DaAll.set ay m h2') (by rw [List.length_set]; exact h5')) q
  · exact q.elim
end
end PD
set_option Elab.async false
set_option linter.all false
set_option maxRecDepth 100000
set_option maxHeartbeats 1000000
/-! DR: rows drawn are rows (plain Lean). -/
namespace DX
open PySem PySem.Spec PyProof.Rows L2 PD DW
theorem ltCps_self : ∀ l : List Nat, ltCps l l = false
  | [] => rfl
  | x :: l => by
    have ih := ltCps_self l
    simp only [ltCps, ih]
    simp
theorem rise_dup : ∀ (A : List Str) (p t : Str) (r : List Str), risingS p (A ++ t :: r) = true → risingS p (A ++ t :: t :: r) = true
  | [], p, t, r, h => by
    have h : (!ltCps t.cps.toList p.cps.toList && risingS t r) = true := h
    show (!ltCps t.cps.toList p.cps.toList && (!ltCps t.cps.toList t.cps.toList && risingS t r)) = true
    rw [ltCps_self]
    exact h
  | a :: A, p, t, r, h => by
    have ih := rise_dup A a t r
    have h : (!ltCps a.cps.toList p.cps.toList && risingS a (A ++ t :: r)) = true := h
    show (!ltCps a.cps.toList p.cps.toList && risingS a (A ++ t :: t :: r)) = true
    rw [Bool.and_eq_true] at h ⊢
    exact ⟨h.1, ih h.2⟩
theorem sort_dup (A : List Str) (t : Str) (r : List Str) (h : sortedS (A ++ t :: r) = true) : sortedS (A ++ t :: t :: r) = true := by
  cases A with
  | nil =>
    have h : risingS t r = true := h
    show (!ltCps t.cps.toList t.cps.toList && risingS t r) = true
    rw [ltCps_self]
    exact h
  | cons a A => exact rise_dup A a t r h
theorem sort_reps (A : List Str) (t : Str) (r : List Str) : ∀ n : Nat, sortedS (A ++ t :: r) = true → sortedS (A ++ (List.replicate (n + 1) t ++ r)) = true
  | 0, h => h
  | n + 1, h => by
    have ih := sort_reps A t r n h
    have q := sort_dup A t (List.replicate n t ++ r) ih
    exact q
/-- numbers and share that a draw gives -/
structure Drawn (r : Rw) : Prop where
  ok : r.ok
  a : r.a2 ≤ 2000
  n : r.ns.length ≤ 3
  m : ∀ x ∈ r.ns, x ≤ 40
structure RowsInv (rs : List Rw) (rest : List Str) : Prop where
  al : ∀ r ∈ rs, Drawn r
  srt : sortedS (rs.map (·.g) ++ rest) = true
  off : ∀ t ∈ rest, t ∉ rs.map (·.g)
  nd : rest.Nodup
  cnt : ∀ g, (rs.map (·.g)).count g ≤ 3
  prs : (rs.map fun r => [r.g, r.o]).Nodup
  len : rs.length + 3 * rest.length ≤ 9
theorem RowsInv.next {rs rs2 : List Rw} {t : Str} {rest : List Str} (h : RowsInv rs (t :: rest)) (al : ∀ r ∈ rs2, Drawn r ∧ r.g = t) (nd : (rs2.map (·.o)).Nodup) (l1 : 1 ≤ rs2.length) (l3 : rs2.length ≤ 3) : RowsInv (rs ++ rs2) rest := by
  have eg : rs2.map (·.g) = List.replicate rs2.length t := by
    rw [List.eq_replicate_iff]
    refine ⟨List.length_map _, fun x hx => ?_⟩
    obtain ⟨r, hr, rfl⟩ := List.mem_map.mp hx
    exact (al r hr).2
  refine ⟨fun r hr => ?_, ?_, fun s hs => ?_, (List.nodup_cons.mp h.nd).2, fun g => ?_, ?_, ?_⟩
  · rcases List.mem_append.mp hr with hr | hr
    · exact h.al r hr
    · exact (al r hr).1
  · rw [List.map_append, eg, List.append_assoc]
    obtain ⟨n, hn⟩ : ∃ n, rs2.length = n + 1 := ⟨rs2.length - 1, by omega⟩
    rw [hn]
    exact sort_reps _ t rest n h.srt
  · rw [List.map_append, eg, List.mem_append, not_or]
    refine ⟨h.off s (List.mem_cons_of_mem _ hs), fun q => ?_⟩
    have e := List.eq_of_mem_replicate q
    subst e
    exact (List.nodup_cons.mp h.nd).1 hs
  · rw [List.map_append, eg, List.count_append, List.count_replicate]
    by_cases e : t = g
    · subst e
      have z : (rs.map (·.g)).count t = 0 := List.count_eq_zero.mpr (h.off t List.mem_cons_self)
      rw [z]
      simp
      omega
    · have := h.cnt g
      rw [if_neg (by simpa using e)]
      omega
  · rw [List.map_append, List.nodup_append]
    refine ⟨h.prs, ?_, fun x hx y hy e => ?_⟩
    · have e2 : (rs2.map fun r => [r.g, r.o]) = (rs2.map (·.o)).map fun o => [t, o] := by
        rw [List.map_map]
        refine List.map_congr_left fun r hr => ?_
        show [r.g, r.o] = [t, r.o]
        rw [(al r hr).2]
      rw [e2]
      exact List.Pairwise.map _ (fun a b q z => q (by injection z with _ z; injection z)) nd
    · obtain ⟨r, hr, rfl⟩ := List.mem_map.mp hx
      obtain ⟨r2, hr2, rfl⟩ := List.mem_map.mp hy
      injection e with e1 _
      exact h.off t List.mem_cons_self (List.mem_map.mpr ⟨r, hr, by rw [e1]; exact (al r2 hr2).2⟩)
  · have := h.len
    rw [List.length_append]
    simp only [List.length_cons] at this
    omega
theorem RowsInv.done {rs : List Rw} (h : RowsInv rs []) (ne : rs ≠ []) : rowsOk (rs.map Rw.data) = true := by
  unfold rowsOk
  rw [titles_rows, pairs_rows]
  have h1 : (rs.map Rw.data).isEmpty = false := by
    cases rs with
    | nil => exact absurd rfl ne
    | cons r rs => rfl
  have h2 : (rs.map Rw.data).all ledRow = true := by
    rw [List.all_map, List.all_eq_true]
    exact fun r hr => ledRow_ok (h.al r hr).ok
  have h3 : sortedS (rs.map (·.g)) = true := by have := h.srt; rwa [List.append_nil] at this
  have h4 : (rs.map (·.g)).all (fun g => decide ((rs.map (·.g)).count g ≤ 3)) = true := by
    rw [List.all_eq_true]
    exact fun g _ => decide_eq_true (h.cnt g)
  rw [h1, h2, h3, h4, decide_eq_true h.prs]
  rfl
theorem gain_step {A Bv n s1 s2 a1 a2 : Int} (b : 0 < Bv) (hs0 : 0 ≤ s1) (hs1 : s1 ≤ s2) (p2 : 0 < s2) (ha0 : 0 ≤ a1) (ha1 : a1 ≤ a2) (q2 : 0 < a2) (lo : -(n * Bv) ≤ A) (hi : A ≤ n * Bv) :
    0 < Bv * s2 * a2 ∧ -((n + 1) * (Bv * s2 * a2)) ≤ A * s2 * a2 + (s1 * a2 - a1 * s2) * Bv ∧ A * s2 * a2 + (s1 * a2 - a1 * s2) * Bv ≤ (n + 1) * (Bv * s2 * a2) := by
  have m : 0 < s2 * a2 := Int.mul_pos p2 q2
  have d1 : s1 * a2 - a1 * s2 ≤ s2 * a2 := by
    have x := Int.mul_le_mul_of_nonneg_right hs1 (Int.le_of_lt q2)
    have y := Int.mul_nonneg ha0 (Int.le_of_lt p2)
    omega
  have d0 : -(s2 * a2) ≤ s1 * a2 - a1 * s2 := by
    have x := Int.mul_le_mul_of_nonneg_right ha1 (Int.le_of_lt p2)
    have y := Int.mul_nonneg hs0 (Int.le_of_lt q2)
    rw [Int.mul_comm a2 s2] at x
    omega
  have x1 := Int.mul_le_mul_of_nonneg_right hi (Int.le_of_lt m)
  have x0 := Int.mul_le_mul_of_nonneg_right lo (Int.le_of_lt m)
  have y1 := Int.mul_le_mul_of_nonneg_right d1 (Int.le_of_lt b)
  have y0 := Int.mul_le_mul_of_nonneg_right d0 (Int.le_of_lt b)
  have e : (n + 1) * (Bv * s2 * a2) = n * Bv * (s2 * a2) + s2 * a2 * Bv := by
    rw [Int.add_mul, Int.one_mul]
    simp only [Int.mul_assoc, Int.mul_comm, Int.mul_left_comm]
  have eA : A * s2 * a2 = A * (s2 * a2) := Int.mul_assoc _ _ _
  rw [Int.neg_mul] at x0 y0
  rw [e, eA]
  refine ⟨?_, by omega, by omega⟩
  rw [Int.mul_assoc]
  exact Int.mul_pos b m
theorem gain_fold : ∀ (rs : List Rw), (∀ r ∈ rs, r.ok) → ∀ (acc : Int × Int) (n : Int), 0 < acc.2 → -(n * acc.2) ≤ acc.1 → acc.1 ≤ n * acc.2 →
    0 < ((rs.map Rw.data).foldl gainStep acc).2 ∧ -((n + rs.length) * ((rs.map Rw.data).foldl gainStep acc).2) ≤ ((rs.map Rw.data).foldl gainStep acc).1 ∧ ((rs.map Rw.data).foldl gainStep acc).1 ≤ (n + rs.length) * ((rs.map Rw.data).foldl gainStep acc).2
  | [], _, acc, n, b, lo, hi => by
    show 0 < acc.2 ∧ -((n + 0) * acc.2) ≤ acc.1 ∧ acc.1 ≤ (n + 0) * acc.2
    rw [Int.add_zero]
    exact ⟨b, lo, hi⟩
  | r :: rs, h, acc, n, b, lo, hi => by
    have ok := h r List.mem_cons_self
    have a2 := ok.a2
    have sh : 0 ≤ r.s1 ∧ r.s1 ≤ r.s2 ∧ 0 < r.s2 := by rcases ok.s with ⟨e, f⟩ | ⟨e, f⟩ | ⟨e, f⟩ <;> rw [e, f] <;> decide
    obtain ⟨g1, g2, g3⟩ := gain_step (n := n) b sh.1 sh.2.1 sh.2.2 ok.a0 ok.a1 (by omega) lo hi
    have q := gain_fold rs (fun x hx => h x (List.mem_cons_of_mem _ hx)) (gainStep acc r.data) (n + 1) g1 g2 g3
    have el : n + ((r :: rs).length : Nat) = n + 1 + (rs.length : Nat) := by
      rw [List.length_cons]
      omega
    rw [el]
    exact q
theorem gain_small (rs : List Rw) (h : ∀ r ∈ rs, r.ok) (k : Int) (k0 : 0 ≤ k) : -(k * rs.length) ≤ gain (rs.map Rw.data) k ∧ gain (rs.map Rw.data) k ≤ k * rs.length := by
  obtain ⟨b, lo, hi⟩ := gain_fold rs h (0, 1) 0 (by decide) (by decide) (by decide)
  rw [Int.zero_add] at lo hi
  unfold gain
  dsimp only
  generalize ((rs.map Rw.data).foldl gainStep (0, 1)).1 = A at *
  generalize ((rs.map Rw.data).foldl gainStep (0, 1)).2 = Bv at *
  generalize ((rs.length : Nat) : Int) = N at *
  have k2 : (0 : Int) ≤ 2 * k := by omega
  have x1 := Int.mul_le_mul_of_nonneg_left hi k2
  have x0 := Int.mul_le_mul_of_nonneg_left lo k2
  have e : 2 * k * (N * Bv) = k * N * (2 * Bv) := by simp only [Int.mul_assoc, Int.mul_comm, Int.mul_left_comm]
  rw [Int.mul_neg] at x0
  refine ⟨Int.le_ediv_of_mul_le (by omega) ?_, Int.le_of_lt_add_one (Int.ediv_lt_of_lt_mul (by omega) ?_)⟩
  · rw [Int.neg_mul, ← e]
    omega
  · rw [Int.add_mul, ← e]
    omega
end DX
set_option Elab.async false
set_option linter.all false
set_option maxRecDepth 100000
set_option maxHeartbeats 4000000
namespace K85
open PySem PySem.Spec PyProof.Rows L2 PD DW DX
theorem lcGo_map {α : Type} {body : PyData → (Option PyData → Prop) → Prop} {g : α → PyData} {f : α → PyData} {Q : List PyData → Prop} : ∀ {l : List α} {acc : List PyData}, (∀ a ∈ l, ∀ K : Option PyData → Prop, K (some (f a)) → body (g a) K) → Q (acc ++ l.map f) → lcGo body (l.map g) acc Q
  | [], acc, _, q => by show Q acc; simpa using q
  | a :: l, acc, h, q => h a List.mem_cons_self _ (lcGo_map (fun b hb => h b (List.mem_cons_of_mem _ hb)) (by simpa using q))
theorem bools_map {α : Type} {f : α → Bool} : ∀ l : List α, boolsOf (l.map fun a => .bool (f a)) = some (l.map f)
  | [] => rfl
  | a :: l => by simp only [List.map_cons, boolsOf, bools_map l, Option.map_some]
theorem all_map {α : Type} {f : α → Bool} (l : List α) : (l.map f).all id = l.all f := by rw [List.all_map]; rfl
theorem isT_str (d : PyData) : isT (tyD d) "str" = (match d with | .str _ => true | _ => false) := by cases d <;> rfl
theorem isT_int (d : PyData) : isT (tyD d) "int" = (match d with | .int _ => true | .bool _ => true | _ => false) := by cases d <;> rfl
theorem isT_bool (d : PyData) : isT (tyD d) "bool" = (match d with | .bool _ => true | _ => false) := by cases d <;> rfl
theorem isT_tuple (d : PyData) : isT (tyD d) "tuple" = (match d with | .tuple _ => true | _ => false) := by cases d <;> rfl
theorem isT_list (d : PyData) : isT (tyD d) "list" = (match d with | .list _ => true | _ => false) := by cases d <;> rfl
/-- a text of the data fits the machine -/
def sFit : PyData → Prop
  | .str z => z.length ≤ sizeLine
  | _ => True
theorem iteG {c : Bool} {A B : Prop} (ht : c = true → A) (hf : c = false → B) : if c = true then A else B := by
  cases c with
  | true => exact ht rfl
  | false => exact hf rfl
theorem isL_one (c : Nat) : decide (c ∈ (Str.ofString "abcdefghijklmnopqrstuvwxyz").cps.toList) = DW.isLet c := rfl
theorem qB {Q : DV → Prop} {a b : Bool} (h : Q (.d (.bool a))) (e : a = b) : Q (.d (.bool b)) := e ▸ h
theorem nn1 {a : PyData} : ∀ x ∈ [DV.d a], ∀ ys, x ≠ DV.new ys := by
  intro x hx ys e
  subst e
  simp at hx
theorem nn2 {a b : PyData} : ∀ x ∈ [DV.d a, DV.d b], ∀ ys, x ≠ DV.new ys := by
  intro x hx ys e
  subst e
  simp at hx
theorem nn3 {a b c : PyData} : ∀ x ∈ [DV.d a, DV.d b, DV.d c], ∀ ys, x ≠ DV.new ys := by
  intro x hx ys e
  subst e
  simp at hx
theorem nE {d : PyData} : ∀ u, DV.d d = DV.v u → u ≠ V.non := fun u e => by cases e
theorem fit_str {z : Str} (h : DW.fit (.str z) = true) : z.length ≤ 100000 ∧ PyData.strOk z = true := by
  simpa only [DW.fit, Bool.and_eq_true, decide_eq_true_eq] using h
theorem fit_sFit {d : PyData} (h : DW.fit d = true) : sFit d := by
  cases d with
  | str z => exact Nat.le_trans (fit_str h).1 (by decide)
  | _ => trivial
theorem fit_tup {xs : List PyData} (h : DW.fit (.tuple xs) = true) : xs.length ≤ 100000 ∧ DW.fitAll xs = true := by
  simpa only [DW.fit, Bool.and_eq_true, decide_eq_true_eq] using h
theorem fit_lst {xs : List PyData} (h : DW.fit (.list xs) = true) : xs.length ≤ 100000 ∧ DW.fitAll xs = true := by
  simpa only [DW.fit, Bool.and_eq_true, decide_eq_true_eq] using h
theorem fit_cons {x : PyData} {xs : List PyData} (h : DW.fitAll (x :: xs) = true) : DW.fit x = true ∧ DW.fitAll xs = true := by
  simpa only [DW.fitAll, Bool.and_eq_true] using h
theorem fit_int {i : Int} (h : DW.fit (.int i) = true) : i.natAbs < 10 ^ 60 := by
  simpa only [DW.fit, decide_eq_true_eq] using h
theorem shaped_str {z : Str} (h : PyData.strOk z = true) : SeqAt.shaped (.str z) = true := by
  unfold SeqAt.shaped
  rw [Bool.and_eq_true]
  exact ⟨by simpa only [PyData.canLay0] using h, rfl⟩
theorem at0 {α : Type} {x : α} {r : List α} : atI (x :: r) 0 = some x := atI_nat (j := 0) rfl
theorem at1' {α : Type} {x y : α} {r : List α} : atI (x :: y :: r) 1 = some y := atI_nat (j := 1) rfl
theorem bKG {b : Bool} {Q : Bool → Prop} (ht : b = true → Q true) (hf : b = false → Q false) : bK Q (.d (.bool b)) := by
  cases b with
  | true => exact ht rfl
  | false => exact hf rfl
theorem ifF {A B : Prop} (h : B) : if false = true then A else B := h
theorem ifT {A B : Prop} (h : A) : if true = true then A else B := h
theorem setG {i : Nat} {y : PyData} {δ δ' : DEnv} {Q : DEnv → Prop} (e : δ.set i (some (.d y)) = δ') (h : Q δ') : dName i (.d y) δ Q := by subst e; exact h
theorem forGo_inv {dg : TDG} {tb : TDS} {D : DEnds} {E : EK} (Inv : List PyData → DEnv → Prop) (hstep : ∀ d ds δ, Inv (d :: ds) δ → ∀ N : DEnv → Prop, (∀ δ', Inv ds δ' → N δ') → dg (.d d) δ (fun δ' => tb { D with nx := N, ct := N, bk := D.nx } E δ')) (hend : ∀ δ, Inv [] δ → D.nx δ) : ∀ (ds : List PyData) (δ : DEnv), Inv ds δ → forGo dg tb ds D E δ
  | [], δ, h => hend δ h
  | d :: ds, δ, h => hstep d ds δ h _ fun δ' h' => forGo_inv Inv hstep hend ds δ' h'
theorem eqv_int {a b : Int} : PyData.eqv (.int a) (.int b) = (a == b) := by simp only [PyData.eqv]
def stepOk (d : PyData) (last : Bool) : Bool := match d with
  | .tuple [a, b] => isNum b 1 (some 100) && (if last then PD.isNon a else isNum a 1 none)
  | _ => false
theorem intB_bK {p : Int → Int → Bool} {i j : Int} {Q : Bool → Prop} {E : EK} (h : bK Q (.d (.bool (p i j)))) : oIntB p (.d (.int i)) (.d (.int j)) (bK Q) E := h
theorem isN_bK {a : PyData} {Q : Bool → Prop} {E : EK} (h : bK Q (.d (.bool (PD.isNon a)))) : oIsN (fun b => b) (.d a) (.d .none) (bK Q) E := h
theorem notT_t {t : TDT} {δ : DEnv} {Q : Bool → Prop} {E : EK} (h : t δ (fun b => Q (!b)) E) : dNotT t δ Q E := h
/-- x <= y <= z -/
theorem chain_t {a b c : TD} {δ : DEnv} {Q : Bool → Prop} {E : EK} {x y z : Int} (ha : ∀ Q E, Q (.d (.int x)) → a δ Q E) (hb : ∀ Q E, Q (.d (.int y)) → b δ Q E) (hc : ∀ Q E, Q (.d (.int z)) → c δ Q E) (h : Q (decide (x ≤ y) && decide (y ≤ z))) :
    dB (dChain (oIntB fun i j => decide (i ≤ j)) (oIntB fun i j => decide (i ≤ j)) a b c) δ Q E := by
  refine ha _ _ (hb _ _ (intB_bK ?_))
  refine bKG (fun e => ?_) fun e => ?_
  · rw [if_pos rfl]
    refine hc _ _ (intB_bK ?_)
    rw [e, Bool.true_and] at h
    exact h
  · rw [if_neg (by decide)]
    rw [e, Bool.false_and] at h
    exact h
theorem lcGo_f {body : PyData → (Option PyData → Prop) → Prop} {f : PyData → PyData} {Q : List PyData → Prop} : ∀ {l : List PyData} {acc : List PyData}, (∀ a ∈ l, ∀ K : Option PyData → Prop, K (some (f a)) → body a K) → Q (acc ++ l.map f) → lcGo body l acc Q
  | [], acc, _, q => by show Q acc; simpa using q
  | a :: l, acc, h, q => h a List.mem_cons_self _ (lcGo_f (fun b hb => h b (List.mem_cons_of_mem _ hb)) (by simpa using q))
theorem seqI {t u : TDS} {D : DEnds} {E : EK} {δ : DEnv} (R : DEnv → Prop) (tail : ∀ δ', R δ' → u D E δ') (h : ∀ N : DEnv → Prop, (∀ δ', R δ' → N δ') → t { D with nx := N } E δ) : dSeq t u D E δ := h _ tail

section
variable {P : Program} {w : World} {K : PySem.W.Frag} {mg : Str → Option Value} {base : Heap}
theorem ok_is_name (c : Tx K w mg) : FnOk P w K mg base (L2.CX P w) 1 (He.ga K "is_name") (fdOf K (He.ga K "is_name")) ["thing"] (lift K (fun _ xs Q _ => ∃ d, xs = [.d d] ∧ sFit d ∧ Q (.d (.bool (DW.isName d)))) 1) := by
  refine fn_ok c.fd_is_name sc_is_name rfl fun cdv A outer s I H E R hr => ⟨_, _, (dss_one (ds_ret (de_and (de_callB call_isi (cd_isi rfl) (by rfl) c.f_isinstance b_isinstance (da_cons (de_var (pv 0)) (da_cons (de_ty (by rfl) c.f_str b_str) da_nil))) (de_and (de_chain op_le op_le od_intB od_intB de_int (de_callB call_len (cd_len rfl) (by rfl) c.f_len b_len (da_cons (de_var (pv 0)) da_nil)) (de_gint (by rfl) c.k_LONGEST)) (de_one (de_callB (cr_all rfl) (cd_all rfl) (by rfl) c.f_all b_all (da_cons (de_lc (own := [("sign", 1)]) rfl sc_is_name.nd (di_any (de_var (pv 0)) rfl) (blkOk_by (N := ["thing", "sign"]) (sc := defScope (top 10)) (by decide +kernel)) (fun _ _ _ _ _ => (dg_name (i := 1) sc_is_name.nd rfl (by first | exact .inl rfl | exact .inr rfl))) (fun _ _ _ _ _ => dts_nil) (fun _ _ _ _ _ => (de_cmp (op_inX (hu65 hr)) rfl (od_in rfl) (de_var (pv 1)) (de_gstr (by rfl) c.k_LETTERS))) (tgt_name (by decide)) s) da_nil))))))), fun xs Qd Ed hl h => ?_⟩
  obtain ⟨d, rfl, hf, h⟩ := h
  refine ⟨d, rfl, .inl rfl, ?_⟩
  show bK _ _
  rw [isT_str]
  cases d with
  | str z =>
    refine ⟨hf, ?_⟩
    refine iteG (fun b1 => ?_) fun b1 => qB (Q := Qd) (b := false) h (by simp only [DW.isName, DW.wordOk, b1, Bool.false_and])
    refine iteG (fun b2 => ?_) fun b2 => qB (Q := Qd) (b := false) h (by simp only [DW.isName, DW.wordOk, b1, b2, Bool.false_and, Bool.and_false])
    refine ⟨hf, lcGo_map (f := fun c => .bool (DW.isLet c)) (fun c _ K k => ⟨c, rfl, k⟩) ?_⟩
    refine ⟨_, _, rfl, bools_map _, ?_⟩
    exact qB (Q := Qd) h (by simp only [DW.isName, DW.wordOk, b1, b2, Bool.true_and, all_map])
  | _ => exact h

theorem ok_is_number (c : Tx K w mg) : FnOk P w K mg base (L2.CX P w) 1 (He.ga K "is_number") (fdOf K (He.ga K "is_number")) ["thing", "low", "high"] (lift K (fun _ xs Q _ => ∃ d lo hi, xs = [.d d, .d (.int lo), .d (DW.optI hi)] ∧ Q (.d (.bool (DW.isNum d lo hi)))) 3) := by
  refine fn_ok c.fd_is_number sc_is_number rfl fun cdv A outer s I H E R hr => ⟨_, _, (dss_cons flat_of (ds_if (dw_or (dt_not (dt_val (de_callB call_isi (cd_isi rfl) (by rfl) c.f_isinstance b_isinstance (da_cons (de_var (pv 0)) (da_cons (de_ty (by rfl) c.f_int b_int) da_nil))))) (dw_or (dt_val (de_callB call_isi (cd_isi rfl) (by rfl) c.f_isinstance b_isinstance (da_cons (de_var (pv 0)) (da_cons (de_ty (by rfl) c.f_bool b_bool) da_nil)))) (dw_or1 (dt_cmp op_lt (nomark _) od_intB (de_var (pv 0)) (de_var (pv 1)))))).dt (dss_one (ds_ret de_bl)) dss_nil)
      (dss_one (ds_ret (de_or (de_cmp op_isN (nomark _) od_isN (de_var (pv 2)) de_non) (de_one (de_cmp op_le (nomark _) od_intB (de_var (pv 0)) (de_var (pv 2)))))))), fun xs Qd Ed hl h => ?_⟩
  obtain ⟨d, lo, hi, rfl, h⟩ := h
  refine ⟨d, rfl, .inr (.inl rfl), ?_⟩
  show bK _ _
  rw [isT_int]
  cases d with
  | int i =>
    refine ⟨_, rfl, .inr (.inr (.inl rfl)), ?_⟩
    show bK _ _
    rw [isT_bool]
    refine iteG (fun b1 => ?_) fun b1 => ?_
    · exact qB (Q := Qd) (b := false) h (by simp only [DW.isNum, b1, Bool.not_true, Bool.false_and])
    · refine ⟨fun u e => (by cases e), ?_⟩
      cases hi with
      | none => exact qB (Q := Qd) (b := true) h (by simp only [DW.isNum, b1, Bool.not_false, Bool.true_and])
      | some j => exact qB (Q := Qd) (b := decide (i ≤ j)) h (by simp only [DW.isNum, b1, Bool.not_false, Bool.true_and])
  | bool b =>
    refine ⟨_, rfl, .inr (.inr (.inl rfl)), ?_⟩
    show bK _ _
    rw [isT_bool]
    exact h
  | _ => exact h

theorem ok_is_step (c : Tx K w mg) : FnOk P w K mg base (L2.CX P w) 2 (He.ga K "is_step") (fdOf K (He.ga K "is_step")) ["thing", "is_last"] (lift K (fun _ xs Q _ => ∃ d b, xs = [.d d, .d (.bool b)] ∧ Q (.d (.bool (stepOk d b)))) 2) := by
  refine fn_ok c.fd_is_step sc_is_step rfl fun cdv A outer s I H E R hr => ⟨_, _, (dss_cons flat_of (ds_if (dw_or (dt_not (dt_val (de_callB call_isi (cd_isi rfl) (by rfl) c.f_isinstance b_isinstance (da_cons (de_var (pv 0)) (da_cons (de_ty (by rfl) c.f_tuple b_tuple) da_nil))))) (dw_or (dt_cmp (op_neX (hu64 hr)) (nomark _) (od_ne rfl) (de_callB call_len (cd_len rfl) (by rfl) c.f_len b_len (da_cons (de_var (pv 0)) da_nil)) de_int) (dw_or1 (dt_not (dt_val (de_fnC (ok_is_number c) (hr.mono (by decide)) (by rfl) c.g_is_number c.fd_is_number.kp (bd_is_number c) (takesC (takes_of rfl rfl rfl rfl)) rfl (da_cons (de_ix (de_var (pv 0)) de_int (fun _ _ => rfl) rfl) (da_cons de_int (da_cons (de_gint (by rfl) c.k_GREATEST_K) da_nil))))))))).dt (dss_one (ds_ret de_bl)) dss_nil)
      (dss_one (ds_ret (de_if (dt_val (de_var (pv 1))) (de_cmp op_isN (nomark _) od_isN (de_ix (de_var (pv 0)) de_int (fun _ _ => rfl) rfl) de_non) (de_fnC (ok_is_number c) (hr.mono (by decide)) (by rfl) c.g_is_number c.fd_is_number.kp (bd_is_number c) (takesC (takes_of rfl rfl rfl rfl)) rfl (da_cons (de_ix (de_var (pv 0)) de_int (fun _ _ => rfl) rfl) (da_cons de_int (da_cons de_non da_nil)))))))), fun xs Qd Ed hl h => ?_⟩
  obtain ⟨d, b, rfl, h⟩ := h
  refine ⟨d, rfl, .inr (.inr (.inr (.inr rfl))), ?_⟩
  show bK _ _
  rw [isT_tuple]
  cases d with
  | tuple ds =>
    refine ⟨.inl rfl, ?_⟩
    refine bKG (fun b1 => ?_) fun b1 => ?_
    · refine qB (Q := Qd) (b := false) h ?_
      unfold stepOk
      split
      · rename_i heq
        cases heq
        cases b1
      · rfl
    · have e1 : ds.length = 2 := by
        rw [eqv_int, Bool.not_eq_false', beq_iff_eq] at b1
        omega
      match ds, e1 with
      | [x, y], _ =>
        refine ⟨y, at1', rfl, nn3, y, 1, some 100, rfl, ?_⟩
        refine bKG (fun b2 => ?_) fun b2 => ?_
        · refine ifF ?_
          dsimp only [dNext]
          cases b with
          | true =>
            refine ⟨x, at0, nE, ?_⟩
            exact qB (Q := Qd) (b := stepOk (.tuple [x, y]) true) h rfl |> fun h => by
              refine qB (Q := Qd) h ?_
              simp only [stepOk, b2, Bool.true_and, if_true]
          | false =>
            refine ⟨x, at0, rfl, nn3, x, 1, none, rfl, ?_⟩
            refine qB (Q := Qd) h ?_
            simp only [stepOk, b2, Bool.true_and]
            rfl
        · refine ifT ?_
          refine qB (Q := Qd) (b := false) h ?_
          simp only [stepOk, b2, Bool.false_and]
  | _ => exact h

end
end K85
set_option Elab.async false
set_option linter.all false
set_option maxRecDepth 100000
set_option maxHeartbeats 4000000
namespace K85
open PySem PySem.Spec PyProof.Rows L2 PD DW DX
structure StOk (st : List (Int × Int)) (kl : Int) : Prop where
  few : st.length ≤ 3
  rise : (st.map (·.1)).Pairwise (· < ·)
  low : ∀ p ∈ st, 1 ≤ p.1 ∧ p.1 ≤ 1000 ∧ 1 ≤ p.2 ∧ p.2 ≤ 100
  k0 : 1 ≤ kl
  k1 : kl ≤ 100
theorem rise_same : ∀ {a b : List Int}, a.Pairwise (· < ·) → b.Pairwise (· < ·) → (∀ k, k ∈ a ↔ k ∈ b) → a = b
  | [], [], _, _, _ => rfl
  | [], y :: b, _, _, h => by have := (h y).mpr List.mem_cons_self; cases this
  | x :: a, [], _, _, h => by have := (h x).mp List.mem_cons_self; cases this
  | x :: a, y :: b, ha, hb, h => by
    obtain ⟨a1, a2⟩ := List.pairwise_cons.mp ha
    obtain ⟨b1, b2⟩ := List.pairwise_cons.mp hb
    have e : x = y := by
      rcases List.mem_cons.mp ((h x).mp List.mem_cons_self) with e | m
      · exact e
      · rcases List.mem_cons.mp ((h y).mpr List.mem_cons_self) with e | m2
        · exact e.symm
        · have := b1 x m
          have := a1 y m2
          omega
    subst e
    refine congrArg (x :: ·) (rise_same a2 b2 fun k => ⟨fun m => ?_, fun m => ?_⟩)
    · rcases List.mem_cons.mp ((h k).mp (List.mem_cons_of_mem _ m)) with e | m'
      · have := a1 k m
        omega
      · exact m'
    · rcases List.mem_cons.mp ((h k).mpr (List.mem_cons_of_mem _ m)) with e | m'
      · have := b1 k m
        omega
      · exact m'
theorem step_last {kl : Int} (h0 : 1 ≤ kl) (h1 : kl ≤ 100) : stepOk (.tuple [.none, .int kl]) true = true := by
  have a : decide (kl < 1) = false := decide_eq_false (by omega)
  simp only [stepOk, isNum, a, decide_eq_true h1, PD.isNon, if_true, Bool.not_false, Bool.true_and]
theorem step_one {a k : Int} (h : 1 ≤ a ∧ a ≤ 1000 ∧ 1 ≤ k ∧ k ≤ 100) : stepOk (.tuple [.int a, .int k]) false = true := by
  have e1 : decide (k < 1) = false := decide_eq_false (by omega)
  have e2 : decide (a < 1) = false := decide_eq_false (by omega)
  simp only [stepOk, isNum, e1, e2, decide_eq_true h.2.2.2, Bool.not_false, Bool.true_and, Bool.and_true]
  rfl
theorem eqv_ints : ∀ l : List Int, PyData.eqvAll (l.map .int) (l.map .int) = true
  | [] => rfl
  | a :: l => by
    rw [List.map_cons, PyData.eqvAll, eqv_ints l, eqv_int, beq_self_eq_true]
    rfl
theorem shaped_ints (l : List Int) : SeqAt.shaped (.list (l.map .int)) = true := by
  have h1 : ∀ l : List Int, PyData.canLayAll0 (l.map .int) = true := fun l => by
    induction l with
    | nil => rfl
    | cons a l ih => simp [PyData.canLayAll0, PyData.canLay0, ih]
  have h2 : ∀ l : List Int, PyData.depthAll (l.map .int) = 0 := fun l => by
    induction l with
    | nil => rfl
    | cons a l ih => show max 0 (PyData.depthAll (l.map .int)) = 0; rw [ih]; rfl
  unfold SeqAt.shaped
  rw [Bool.and_eq_true]
  refine ⟨by simpa only [PyData.canLay0] using h1 l, ?_⟩
  simp only [PyData.depth, h2]
  decide

section
variable {P : Program} {w : World} {K : PySem.W.Frag} {mg : Str → Option Value} {base : Heap}
theorem ok_are_steps (c : Tx K w mg) : FnOk P w K mg base (L2.CX P w) 3 (He.ga K "are_steps") (fdOf K (He.ga K "are_steps")) ["thing"] (lift K (fun _ xs Q _ => ∃ st kl, xs = [.d (.tuple (stepsD st kl))] ∧ StOk st kl ∧ Q (.d (.bool true))) 1) := by
  refine fn_ok c.fd_are_steps sc_are_steps rfl fun cdv A outer s I H E R hr => ⟨_, _, (dss_cons flat_of (ds_if (dw_or (dt_not (dt_val (de_callB call_isi (cd_isi rfl) (by rfl) c.f_isinstance b_isinstance (da_cons (de_var (pv 0)) (da_cons (de_ty (by rfl) c.f_tuple b_tuple) da_nil))))) (dw_or1 (dt_not (dt_chain op_le op_le od_intB od_intB de_int (de_callB call_len (cd_len rfl) (by rfl) c.f_len b_len (da_cons (de_var (pv 0)) da_nil)) (de_gint (by rfl) c.k_MOST_STEPS))))).dt (dss_one (ds_ret de_bl)) dss_nil)
      (dss_cons flat_of (ds_asg (de_var (pv 0)) (dg_star (n := 2) (i := 0) rfl (dgs_consS (dg_name (i := 1) sc_are_steps.nd rfl (by first | exact .inl rfl | exact .inr rfl)) (dgs_cons (dg_name (i := 2) sc_are_steps.nd rfl (by first | exact .inl rfl | exact .inr rfl)) dgs_nil)) rfl (by decide)))
      (dss_cons flat_of (ds_if (dw_or (dt_not (dt_val (de_fnC (ok_is_step c) (hr.mono (by decide)) (by rfl) c.g_is_step c.fd_is_step.kp (bd_is_step c) (takesC (takes_of rfl rfl rfl rfl)) rfl (da_cons (de_var (pv 2)) (da_cons de_bl da_nil))))) (dw_or1 (dt_not (dt_val (de_callB (cr_all rfl) (cd_all rfl) (by rfl) c.f_all b_all (da_cons (de_lc (own := [("one", 3)]) rfl sc_are_steps.nd (di_any (de_var (pv 1)) rfl) (blkOk_by (N := ["thing", "others", "last", "one", "games"]) (sc := defScope (top 21)) (by decide +kernel)) (fun _ _ _ _ _ => (dg_name (i := 3) sc_are_steps.nd rfl (by first | exact .inl rfl | exact .inr rfl))) (fun _ _ _ _ _ => dts_nil) (fun _ _ _ _ _ => (de_fnC (ok_is_step c) (hr.mono (by decide)) (by rfl) c.g_is_step c.fd_is_step.kp (bd_is_step c) takesC0 rfl (da_cons (de_var (pv 3)) (da_cons de_bl da_nil)))) (tgt_name (by decide)) s) da_nil)))))).dt (dss_one (ds_ret de_bl)) dss_nil)
      (dss_cons flat_of (ds_setLc (i := 4) (own := [("one", 3)]) s rfl sc_are_steps.nd rfl rfl (sw_true rfl rfl rfl (by decide +kernel)) (di_any (de_var (pv 1)) rfl) (blkOk_by (N := ["thing", "others", "last", "one", "games"]) (sc := defScope (top 21)) (by decide +kernel)) (fun _ _ _ _ _ => (dg_name (i := 3) sc_are_steps.nd rfl (by first | exact .inl rfl | exact .inr rfl))) (fun _ _ _ _ _ => dts_nil) (fun _ _ _ _ _ => (de_ix (de_var (pv 3)) de_int (fun _ _ => rfl) rfl)) (tgt_name (by decide)))
      (dss_one (ds_ret (de_cmp (op_eqX (hu64 hr)) (nomark _) (od_eq rfl) (de_var (pv 4)) (de_sortSetI rfl rfl (hu64 hr) (by rfl) c.f_sorted (by rfl) c.f_set (de_var (pv 4)) rfl)))))))), fun xs Qd Ed hl h => ?_⟩
  obtain ⟨st, kl, rfl, ok, h⟩ := h
  have len : (stepsD st kl).length = st.length + 1 := by unfold stepsD; rw [List.length_append, List.length_map]; rfl
  have few := ok.few
  refine ⟨_, rfl, .inr (.inr (.inr (.inr rfl))), ?_⟩
  refine bKG (fun _ => ?_) fun b => (by cases b)
  refine ifF ?_
  refine notT_t (chain_t (x := 1) (y := (stepsD st kl).length) (z := 4) (fun _ _ q => q) (fun _ _ q => q) (fun _ _ q => q) ?_)
  rw [show decide ((1 : Int) ≤ ((stepsD st kl).length : Nat)) = true from decide_eq_true (by omega), show decide ((((stepsD st kl).length : Nat) : Int) ≤ 4) = true from decide_eq_true (by omega)]
  refine ifF ?_
  dsimp only [dNext]
  have es : (stepsD st kl).take 0 ++ [PyData.list (((stepsD st kl).drop 0).take ((stepsD st kl).length + 1 - 2))] ++ ((stepsD st kl).drop 0).drop ((stepsD st kl).length + 1 - 2) = [.list (st.map fun p => .tuple [.int p.1, .int p.2]), .tuple [.none, .int kl]] := by
    rw [len, show st.length + 1 + 1 - 2 = (st.map fun p : Int × Int => PyData.tuple [.int p.1, .int p.2]).length by rw [List.length_map]; omega]
    unfold stepsD
    rw [List.drop_zero, List.take_left, List.drop_left]
    rfl
  refine ⟨stepsD st kl, rfl, by omega, ?_⟩
  rw [es]
  dsimp only [dGCons, dGNil]
  refine setG (δ' := [some (.d (.tuple (stepsD st kl))), some (.d (.list (st.map fun p => .tuple [.int p.1, .int p.2]))), none, none, none]) rfl ?_
  refine setG (δ' := [some (.d (.tuple (stepsD st kl))), some (.d (.list (st.map fun p => .tuple [.int p.1, .int p.2]))), some (.d (.tuple [.none, .int kl])), none, none]) rfl ?_
  refine ⟨rfl, ?_⟩
  refine ⟨rfl, nn2, _, true, rfl, ?_⟩
  refine bKG (fun _ => ?_) fun b => absurd (b.symm.trans (step_last ok.k0 ok.k1)) (by decide)
  refine ifF ?_
  refine notT_t ⟨trivial, lcGo_map (f := fun _ => .bool true) (fun p hp KK kk => ?_) ?_⟩
  · refine ⟨rfl, nn2, _, false, rfl, ?_⟩
    rw [step_one (ok.low p hp)]
    exact kk
  rw [List.nil_append]
  refine ⟨_, _, rfl, bools_map (f := fun _ => true) st, ?_⟩
  refine bKG (fun _ => ?_) fun b => absurd (b.symm.trans (show (st.map fun _ => true).all id = true by rw [List.all_map]; simp)) (by decide)
  refine ifF ?_
  dsimp only [dNext]
  refine ⟨trivial, lcGo_map (f := fun p : Int × Int => .int p.1) (fun p hp KK kk => ⟨_, at0, kk⟩) ?_⟩
  rw [List.nil_append, show (st.map fun p : Int × Int => PyData.int p.1) = (st.map (·.1)).map .int by rw [List.map_map]; rfl]
  refine setG (δ' := [some (.d (.tuple (stepsD st kl))), some (.d (.list (st.map fun p => .tuple [.int p.1, .int p.2]))), some (.d (.tuple [.none, .int kl])), none, some (.d (.list ((st.map (·.1)).map .int)))]) rfl ?_
  refine ⟨st.map (·.1), rfl, by rw [List.length_map]; omega, fun ns so mem => ?_⟩
  obtain rfl : ns = st.map (·.1) := rise_same so ok.rise mem
  refine ⟨.inr ⟨shaped_ints _, shaped_ints _⟩, ?_⟩
  refine qB (Q := Qd) (b := PyData.eqv _ _) h ?_
  show true = PyData.eqv (.list _) (.list _)
  rw [PyData.eqv, eqv_ints]

end
end K85
set_option Elab.async false
set_option linter.all false
set_option maxRecDepth 100000
set_option maxHeartbeats 4000000
namespace K85
open PySem PySem.Spec PyProof.Rows L2 PD DW DX
theorem wh_inv {c : TDT} {tb : TDS} {D : DEnds} {E : EK} (Inv : Nat → DEnv → Prop) (step : ∀ m δ, Inv m δ → ∀ N : DEnv → Prop, (∀ m' δ', m' < m → Inv m' δ' → N δ') → c δ (fun b => if b = true then tb { D with nx := N, ct := N, bk := D.nx } E δ else D.nx δ) E) {m : Nat} {δ : DEnv} (h : Inv m δ) : dWhile c tb D E δ := by
  have go : ∀ n m δ, m < n → Inv m δ → whGo c tb n D E δ := by
    intro n
    induction n with
    | zero => exact fun m δ lt _ => absurd lt (Nat.not_lt_zero _)
    | succ n ih => exact fun m δ lt q => step m δ q _ fun m' δ' lt' q' => ih m' δ' (by omega) q'
  exact ⟨m + 1, go (m + 1) m δ (Nat.lt_succ_self m) h⟩
theorem gcd_step {x y : Int} (hx : 0 ≤ x) (hy : 0 ≤ y) : Int.gcd (y % x) x = Int.gcd x y := by
  obtain ⟨n, rfl⟩ := Int.eq_ofNat_of_zero_le hx
  obtain ⟨m, rfl⟩ := Int.eq_ofNat_of_zero_le hy
  rw [← Int.natCast_emod]
  show Nat.gcd (m % n) n = Nat.gcd n m
  exact (Nat.gcd_rec n m).symm
theorem lowest_num {x y : PyData} (h : lowest (.tuple [x, y]) = true) : isNum y 1 none = true ∧ ∀ b, y = .int b → isNum x 0 (some b) = true := by
  obtain ⟨a, b, e, b1, a0, ab, _⟩ := lowest_inv h
  cases e
  have e1 : decide (b < 1) = false := decide_eq_false (by omega)
  have e2 : decide (a < 0) = false := decide_eq_false (by omega)
  refine ⟨by simp only [isNum, e1, Bool.not_false, Bool.true_and], fun c e => ?_⟩
  cases e
  simp only [isNum, e2, decide_eq_true ab, Bool.not_false, Bool.true_and]
theorem no_true {a : Bool} (h : a = true → False) : a = false := by
  cases a with
  | false => rfl
  | true => exact (h rfl).elim

section
variable {P : Program} {w : World} {K : PySem.W.Frag} {mg : Str → Option Value} {base : Heap}
theorem ok_are_lowest (c : Tx K w mg) : FnOk P w K mg base (L2.CX P w) 2 (He.ga K "are_lowest") (fdOf K (He.ga K "are_lowest")) ["thing"] (lift K (fun _ xs Q _ => ∃ d, xs = [.d d] ∧ Q (.d (.bool (lowest d)))) 1) := by
  refine fn_ok c.fd_are_lowest sc_are_lowest rfl fun cdv A outer s I H E R hr => ⟨_, _, (dss_cons flat_of (ds_if (dw_or (dt_not (dt_val (de_callB call_isi (cd_isi rfl) (by rfl) c.f_isinstance b_isinstance (da_cons (de_var (pv 0)) (da_cons (de_ty (by rfl) c.f_tuple b_tuple) da_nil))))) (dw_or (dt_cmp (op_neX (hu64 hr)) (nomark _) (od_ne rfl) (de_callB call_len (cd_len rfl) (by rfl) c.f_len b_len (da_cons (de_var (pv 0)) da_nil)) de_int) (dw_or1 (dt_not (dt_val (de_fnC (ok_is_number c) (hr.mono (by decide)) (by rfl) c.g_is_number c.fd_is_number.kp (bd_is_number c) (takesC (takes_of rfl rfl rfl rfl)) rfl (da_cons (de_ix (de_var (pv 0)) de_int (fun _ _ => rfl) rfl) (da_cons de_int (da_cons de_non da_nil))))))))).dt (dss_one (ds_ret de_bl)) dss_nil)
      (dss_cons flat_of (ds_if (dt_not (dt_val (de_fnC (ok_is_number c) (hr.mono (by decide)) (by rfl) c.g_is_number c.fd_is_number.kp (bd_is_number c) (takesC (takes_of rfl rfl rfl rfl)) rfl (da_cons (de_ix (de_var (pv 0)) de_int (fun _ _ => rfl) rfl) (da_cons de_int (da_cons (de_ix (de_var (pv 0)) de_int (fun _ _ => rfl) rfl) da_nil)))))) (dss_one (ds_ret de_bl)) dss_nil)
      (dss_cons flat_of (ds_asg (de_var (pv 0)) (dg_tup (n := 2) rfl (dgs_cons (dg_name (i := 1) sc_are_lowest.nd rfl (by first | exact .inl rfl | exact .inr rfl)) (dgs_cons (dg_name (i := 2) sc_are_lowest.nd rfl (by first | exact .inl rfl | exact .inr rfl)) dgs_nil)) rfl))
      (dss_cons flat_of (ds_while flat_of (passes_of rfl) (dt_cmp (op_neX (hu64 hr)) (nomark _) (od_ne rfl) (de_var (pv 1)) de_int) (dss_one (ds_par (i := 1) (j := 2) rfl sc_are_lowest.nd rfl rfl (by decide) rfl rfl (da_cons (de_op op_mod od_int (de_var (pv 2)) (de_var (pv 1))) (da_cons (de_var (pv 1)) da_nil)) rfl)))
      (dss_one (ds_ret (de_cmp (op_eqX (hu64 hr)) (nomark _) (od_eq rfl) (de_var (pv 2)) de_int))))))), fun xs Qd Ed hl h => ?_⟩
  obtain ⟨d, rfl, h⟩ := h
  refine ⟨d, rfl, .inr (.inr (.inr (.inr rfl))), ?_⟩
  cases d with
  | tuple ds =>
    refine bKG (fun _ => ?_) fun b => (by cases b)
    refine ifF ?_
    refine ⟨.inl rfl, ?_⟩
    refine bKG (fun b1 => ?_) fun b1 => ?_
    · refine qB (Q := Qd) (b := false) h ?_
      unfold lowest
      split
      · rename_i heq
        cases heq
        cases b1
      · rfl
    · have e1 : ds.length = 2 := by
        rw [eqv_int, Bool.not_eq_false', beq_iff_eq] at b1
        omega
      match ds, e1 with
      | [x, y], _ =>
        refine ⟨y, at1', rfl, nn3, y, 1, none, rfl, ?_⟩
        refine bKG (fun b2 => ?_) fun b2 => ?_
        · obtain ⟨b, rfl, b0, _⟩ := isNum_inv b2
          refine ifF ?_
          dsimp only [dNext]
          refine ⟨x, at0, .int b, at1', rfl, nn3, x, 0, some b, rfl, ?_⟩
          refine bKG (fun b3 => ?_) fun b3 => ?_
          · obtain ⟨a, rfl, a0, a1⟩ := isNum_inv b3
            have a1 := a1 b rfl
            refine ifF ?_
            dsimp only [dNext]
            refine ⟨rfl, ?_⟩
            dsimp only [dGCons, dGNil]
            refine setG (δ' := [some (.d (.tuple [.int a, .int b])), some (.d (.int a)), none]) rfl ?_
            refine setG (δ' := [some (.d (.tuple [.int a, .int b])), some (.d (.int a)), some (.d (.int b))]) rfl ?_
            refine ⟨rfl, ?_⟩
            refine wh_inv (fun m δ => ∃ x y : Int, δ = [some (.d (.tuple [.int a, .int b])), some (.d (.int x)), some (.d (.int y))] ∧ m = x.toNat ∧ 0 ≤ x ∧ 0 ≤ y ∧ Int.gcd x y = Int.gcd a b) ?_ ⟨a, b, rfl, rfl, a0, by omega, rfl⟩
            rintro m _ ⟨x, y, rfl, rfl, x0, y0, eg⟩ N hN
            refine ⟨.inl rfl, ?_⟩
            refine bKG (fun b4 => ?_) fun b4 => ?_
            · have nz : x ≠ 0 := by
                rw [eqv_int, Bool.not_eq_true', beq_eq_false_iff_ne] at b4
                exact b4
              refine ifT ?_
              refine ⟨(show 0 < x by omega), ?_⟩
              refine setG (δ' := [some (.d (.tuple [.int a, .int b])), some (.d (.int (y % x))), some (.d (.int x))]) rfl ?_
              have p1 := Int.emod_nonneg y nz
              have p2 := Int.emod_lt_of_pos y (show 0 < x by omega)
              exact hN _ _ (show (y % x).toNat < x.toNat by omega) ⟨y % x, x, rfl, rfl, p1, x0, (gcd_step x0 y0).trans eg⟩
            · have ez : x = 0 := by
                rw [eqv_int, Bool.not_eq_false', beq_iff_eq] at b4
                exact b4
              subst ez
              refine ifF ?_
              refine ⟨.inl rfl, ?_⟩
              refine qB (Q := Qd) h ?_
              rw [eqv_int]
              have e3 : lowest (.tuple [.int a, .int b]) = decide (Int.gcd a b = 1) := by
                simp only [lowest, decide_eq_true b0, decide_eq_true a0, decide_eq_true a1, Bool.true_and]
              rw [e3, ← eg, Int.gcd_zero_left, Bool.eq_iff_iff, decide_eq_true_eq, beq_iff_eq]
              omega
          · refine ifT ?_
            refine qB (Q := Qd) (b := false) h ?_
            exact no_true fun e => absurd (b3.symm.trans ((lowest_num e).2 b rfl)) (by decide)
        · refine ifT ?_
          refine qB (Q := Qd) (b := false) h ?_
          exact no_true fun e => absurd (b2.symm.trans (lowest_num e).1) (by decide)
  | _ => exact h

end
end K85
set_option Elab.async false
set_option linter.all false
set_option maxRecDepth 100000
set_option maxHeartbeats 4000000
namespace K85
open PySem PySem.Spec PyProof.Rows L2 PD DW DX
theorem ledRow_parts {g o s a n : PyData} (h : ledRow (.tuple [g, o, s, a, n]) = true) : isName g = true ∧ isName o = true ∧ lowest s = true ∧ shareOk s = true ∧ lowest a = true ∧ ∃ ns, n = .tuple ns ∧ ns.all isInt1 = true ∧ rising ns = true := by
  unfold ledRow at h
  split at h
  · rename_i e
    cases e
    simp only [Bool.and_eq_true] at h
    obtain ⟨⟨⟨⟨h1, h2⟩, h3, h4⟩, h5⟩, h6, h7⟩ := h
    exact ⟨h1, h2, h3, h4, h5, _, rfl, h6, h7⟩
  · cases h
theorem ledRow_five {d : PyData} (h : ledRow d = true) : ∃ ds, d = .tuple ds ∧ ds.length = 5 := by
  obtain ⟨r, rfl, _⟩ := ledRow_inv h
  exact ⟨_, rfl, rfl⟩
def sharesD : List PyData := [.tuple [.int 0, .int 1], .tuple [.int 1, .int 2], .tuple [.int 1, .int 1]]
theorem share_any {a b : Int} : (sharesD.any fun z => PyData.eqv z (.tuple [.int a, .int b])) = shareOk (.tuple [.int a, .int b]) := by
  have e : ∀ x y : Int, PyData.eqv (.tuple [.int x, .int y]) (.tuple [.int a, .int b]) = (decide (a = x) && decide (b = y)) := fun x y => by
    rw [Bool.eq_iff_iff]
    simp only [PyData.eqv, PyData.eqvAll, Bool.and_true, Bool.and_eq_true, beq_iff_eq, decide_eq_true_eq]
    exact ⟨fun h => ⟨h.1.symm, h.2.symm⟩, fun h => ⟨h.1.symm, h.2.symm⟩⟩
  simp only [sharesD, List.any_cons, List.any_nil, e, shareOk, Bool.or_false, Bool.or_assoc]
theorem shaped_pair (a b : Int) : SeqAt.shaped (.tuple [.int a, .int b]) = true := by
  unfold SeqAt.shaped
  rw [Bool.and_eq_true]
  exact ⟨by simp [PyData.canLay0, PyData.canLayAll0], by simp only [PyData.depth, PyData.depthAll]; rfl⟩
theorem rising_range : ∀ ns : List Int, ((List.range (ns.length - 1)).map fun i => decide (ns[i]?.getD 0 < ns[i + 1]?.getD 0)).all id = rising (ns.map .int)
  | [] => rfl
  | [a] => rfl
  | a :: b :: r => by
    have ih := rising_range (b :: r)
    show _ = (decide (a < b) && rising ((b :: r).map .int))
    rw [← ih]
    show ((List.range (r.length + 1)).map _).all id = _
    rw [List.range_succ_eq_map, List.map_cons, List.all_cons, List.map_map]
    rfl
theorem atI_map {is : List Int} {i : Nat} (h : i < is.length) {j : Int} (e : j = (i : Int)) : atI (is.map PyData.int) j = some (.int (is[i]?.getD 0)) := by
  subst e
  refine atI_nat (j := i) ?_
  rw [List.getElem?_map, List.getElem?_eq_getElem h]
  rfl

section
variable {P : Program} {w : World} {K : PySem.W.Frag} {mg : Str → Option Value} {base : Heap}
theorem ok_is_led_row (c : Tx K w mg) : FnOk P w K mg base (L2.CX P w) 3 (He.ga K "is_led_row") (fdOf K (He.ga K "is_led_row")) ["thing"] (lift K (fun _ xs Q _ => ∃ d, xs = [.d d] ∧ fitN 60 d = true ∧ Q (.d (.bool (ledRow d)))) 1) := by
  refine fn_ok c.fd_is_led_row sc_is_led_row rfl fun cdv A outer s I H E R hr => ⟨_, _, (dss_cons flat_of (ds_if (dw_or (dt_not (dt_val (de_callB call_isi (cd_isi rfl) (by rfl) c.f_isinstance b_isinstance (da_cons (de_var (pv 0)) (da_cons (de_ty (by rfl) c.f_tuple b_tuple) da_nil))))) (dw_or1 (dt_cmp (op_neX (hu64 hr)) (nomark _) (od_ne rfl) (de_callB call_len (cd_len rfl) (by rfl) c.f_len b_len (da_cons (de_var (pv 0)) da_nil)) de_int))).dt (dss_one (ds_ret de_bl)) dss_nil)
      (dss_cons flat_of (ds_asg (de_var (pv 0)) (dg_tup (n := 5) rfl (dgs_cons (dg_name (i := 1) sc_is_led_row.nd rfl (by first | exact .inl rfl | exact .inr rfl)) (dgs_cons (dg_name (i := 2) sc_is_led_row.nd rfl (by first | exact .inl rfl | exact .inr rfl)) (dgs_cons (dg_name (i := 3) sc_is_led_row.nd rfl (by first | exact .inl rfl | exact .inr rfl)) (dgs_cons (dg_name (i := 4) sc_is_led_row.nd rfl (by first | exact .inl rfl | exact .inr rfl)) (dgs_cons (dg_name (i := 5) sc_is_led_row.nd rfl (by first | exact .inl rfl | exact .inr rfl)) dgs_nil))))) rfl))
      (dss_cons flat_of (ds_if (dw_or (dt_not (dt_val (de_fnC (ok_is_name c) (hr.mono (by decide)) (by rfl) c.g_is_name c.fd_is_name.kp (bd_is_name c) (takesC (takes_of rfl rfl rfl rfl)) rfl (da_cons (de_var (pv 1)) da_nil)))) (dw_or (dt_not (dt_val (de_fnC (ok_is_name c) (hr.mono (by decide)) (by rfl) c.g_is_name c.fd_is_name.kp (bd_is_name c) (takesC (takes_of rfl rfl rfl rfl)) rfl (da_cons (de_var (pv 2)) da_nil)))) (dw_or (dt_not (dt_val (de_fnC (ok_are_lowest c) (hr.mono (by decide)) (by rfl) c.g_are_lowest c.fd_are_lowest.kp (bd_are_lowest c) (takesC (takes_of rfl rfl rfl rfl)) rfl (da_cons (de_var (pv 3)) da_nil)))) (dw_or1 (dt_cmp (op_notInX (hu65 hr)) rfl (od_notIn rfl) (de_var (pv 3)) (de_gdat (by rfl) c.g_SHARES c.gt_SHARES)))))).dt (dss_one (ds_ret de_bl)) dss_nil)
      (dss_cons flat_of (ds_if (dw_or (dt_not (dt_val (de_fnC (ok_are_lowest c) (hr.mono (by decide)) (by rfl) c.g_are_lowest c.fd_are_lowest.kp (bd_are_lowest c) (takesC (takes_of rfl rfl rfl rfl)) rfl (da_cons (de_var (pv 4)) da_nil)))) (dw_or (dt_not (dt_val (de_callB call_isi (cd_isi rfl) (by rfl) c.f_isinstance b_isinstance (da_cons (de_var (pv 5)) (da_cons (de_ty (by rfl) c.f_tuple b_tuple) da_nil))))) (dw_or1 (dt_not (dt_val (de_callB (cr_all rfl) (cd_all rfl) (by rfl) c.f_all b_all (da_cons (de_lc (own := [("at", 6)]) rfl sc_is_led_row.nd (di_any (de_var (pv 5)) rfl) (blkOk_by (N := ["thing", "game", "other", "share", "awaited", "numbers", "at"]) (sc := defScope (top 28)) (by decide +kernel)) (fun _ _ _ _ _ => (dg_name (i := 6) sc_is_led_row.nd rfl (by first | exact .inl rfl | exact .inr rfl))) (fun _ _ _ _ _ => dts_nil) (fun _ _ _ _ _ => (de_fnC (ok_is_number c) (hr.mono (by decide)) (by rfl) c.g_is_number c.fd_is_number.kp (bd_is_number c) takesC0 rfl (da_cons (de_var (pv 6)) (da_cons de_int (da_cons de_non da_nil))))) (tgt_name (by decide)) s) da_nil))))))).dt (dss_one (ds_ret de_bl)) dss_nil)
      (dss_one (ds_ret (de_callB (cr_all rfl) (cd_all rfl) (by rfl) c.f_all b_all (da_cons (de_lc (own := [("at", 6)]) rfl sc_is_led_row.nd (di_range1 (by rfl) c.f_range (da_cons (de_op op_subX od_sub (de_callB call_len (cd_len rfl) (by rfl) c.f_len b_len (da_cons (de_var (pv 5)) da_nil)) de_int) da_nil)) (blkOk_by (N := ["thing", "game", "other", "share", "awaited", "numbers", "at"]) (sc := defScope (top 28)) (by decide +kernel)) (fun _ _ _ _ _ => (dg_name (i := 6) sc_is_led_row.nd rfl (by first | exact .inl rfl | exact .inr rfl))) (fun _ _ _ _ _ => dts_nil) (fun _ _ _ _ _ => (de_cmp op_lt (nomark _) od_intB (de_ix (de_var (pv 5)) (de_var (pv 6)) (fun _ _ => rfl) rfl) (de_ix (de_var (pv 5)) (de_op op_cat' (od_add rfl) (de_var (pv 6)) de_int) (fun _ _ => rfl) rfl))) (tgt_name (by decide)) s) da_nil)))))))), fun xs Qd Ed hl h => ?_⟩
  obtain ⟨d, rfl, hf, h⟩ := h
  have out : ledRow d = false → Qd (.d (.bool false)) := fun e => qB (Q := Qd) h e
  refine ⟨d, rfl, .inr (.inr (.inr (.inr rfl))), ?_⟩
  cases d with
  | tuple ds =>
    refine bKG (fun _ => ?_) fun b => (by cases b)
    refine ifF ?_
    refine ⟨.inl rfl, ?_⟩
    refine bKG (fun b1 => out (no_true fun e => ?_)) fun b1 => ?_
    · obtain ⟨ds', e2, l⟩ := ledRow_five e
      cases e2
      rw [eqv_int, l] at b1
      exact absurd b1 (by decide)
    have e1 : ds.length = 5 := by
      rw [eqv_int, Bool.not_eq_false', beq_iff_eq] at b1
      omega
    match ds, e1 with
    | [g, o, sh, aw, n], _ =>
      have hi := (fitN_tup hf).2
      have sf : ∀ x ∈ [g, o, sh, aw, n], sFit x := fun x hx => by
        have q := hi x hx
        cases x with
        | str z => exact Nat.le_trans (fitN_str q).1 (by decide)
        | _ => trivial
      refine ifF ?_
      dsimp only [dNext]
      refine ⟨rfl, ?_⟩
      dsimp only [dGCons, dGNil]
      refine setG (δ' := [some (.d (.tuple [g, o, sh, aw, n])), some (.d g), none, none, none, none, none]) rfl ?_
      refine setG (δ' := [some (.d (.tuple [g, o, sh, aw, n])), some (.d g), some (.d o), none, none, none, none]) rfl ?_
      refine setG (δ' := [some (.d (.tuple [g, o, sh, aw, n])), some (.d g), some (.d o), some (.d sh), none, none, none]) rfl ?_
      refine setG (δ' := [some (.d (.tuple [g, o, sh, aw, n])), some (.d g), some (.d o), some (.d sh), some (.d aw), none, none]) rfl ?_
      refine setG (δ' := [some (.d (.tuple [g, o, sh, aw, n])), some (.d g), some (.d o), some (.d sh), some (.d aw), some (.d n), none]) rfl ?_
      refine ⟨rfl, ?_⟩
      refine ⟨rfl, nn1, g, rfl, sf g (by simp), ?_⟩
      refine bKG (fun b2 => ?_) fun b2 => out (no_true fun e => absurd (b2.symm.trans (ledRow_parts e).1) (by decide))
      refine ifF ?_
      refine notT_t ⟨rfl, nn1, o, rfl, sf o (by simp), ?_⟩
      refine bKG (fun b3 => ?_) fun b3 => out (no_true fun e => absurd (b3.symm.trans (ledRow_parts e).2.1) (by decide))
      refine ifF ?_
      refine notT_t ⟨rfl, nn1, sh, rfl, ?_⟩
      refine bKG (fun b4 => ?_) fun b4 => out (no_true fun e => absurd (b4.symm.trans (ledRow_parts e).2.2.1) (by decide))
      refine ifF ?_
      obtain ⟨s1, s2, rfl, _⟩ := lowest_inv b4
      refine ⟨_, rfl, shaped_pair s1 s2, by decide +kernel, ?_⟩
      refine bKG (fun b5 => out (no_true fun e => ?_)) fun b5 => ?_
      · have b5 : (!(sharesD.any fun z => PyData.eqv z (.tuple [.int s1, .int s2]))) = true := b5
        rw [share_any, (ledRow_parts e).2.2.2.1] at b5
        cases b5
      have b5 : (!(sharesD.any fun z => PyData.eqv z (.tuple [.int s1, .int s2]))) = false := b5
      rw [share_any, Bool.not_eq_false'] at b5
      refine ifF ?_
      dsimp only [dNext]
      refine ⟨rfl, nn1, aw, rfl, ?_⟩
      refine bKG (fun b6 => ?_) fun b6 => out (no_true fun e => absurd (b6.symm.trans (ledRow_parts e).2.2.2.2.1) (by decide))
      refine ifF ?_
      refine notT_t ⟨n, rfl, .inr (.inr (.inr (.inr rfl))), ?_⟩
      cases n with
      | tuple ns =>
        refine bKG (fun _ => ?_) fun b => (by cases b)
        refine ifF ?_
        refine notT_t ⟨trivial, lcGo_f (f := fun x => .bool (isInt1 x)) (fun x hx KK kk => ⟨rfl, nn3, x, 1, none, rfl, kk⟩) ?_⟩
        rw [List.nil_append]
        refine ⟨_, _, rfl, bools_map _, ?_⟩
        have e7 : (ns.map isInt1).all id = ns.all isInt1 := all_map ns
        refine bKG (fun b7 => ?_) fun b7 => out (no_true fun e => ?_)
        · have b7 := e7.symm.trans b7
          obtain ⟨is, rfl, al⟩ := ints_inv b7
          refine ifF ?_
          dsimp only [dNext]
          have le : is.length ≤ 60 := by
            have z := (fitN_tup (hi (.tuple (is.map .int)) (by simp))).1
            rwa [List.length_map] at z
          have len : (is.map PyData.int).length = is.length := List.length_map _
          have et : (((is.map PyData.int).length : Nat) : Int) - 1 = (is.length : Int) - 1 := by rw [len]
          refine ⟨trivial, Int.le_trans (show (((is.map PyData.int).length : Nat) : Int) - 1 ≤ 60 by omega) (by decide), (show -(2 : Int) ^ 62 ≤ (((is.map PyData.int).length : Nat) : Int) - 1 by omega), ?_⟩
          show lcGo _ (rangeD 0 ((((is.map PyData.int).length : Nat) : Int) - 1).toNat) [] _
          have en : ((((is.map PyData.int).length : Nat) : Int) - 1).toNat = is.length - 1 := by omega
          rw [en]
          refine lcGo_map (g := fun (i : Nat) => PyData.int (0 + (i : Int))) (f := fun i => .bool (decide (is[i]?.getD 0 < is[i + 1]?.getD 0))) (l := List.range (is.length - 1)) (fun i hi' KK kk => ?_) ?_
          · have lt := List.mem_range.mp hi'
            exact ⟨_, atI_map (i := i) (by omega) (by omega), _, atI_map (i := i + 1) (by omega) (by omega), kk⟩
          rw [List.nil_append]
          refine ⟨_, _, rfl, bools_map _, ?_⟩
          refine qB (Q := Qd) h ?_
          rw [show (fun bs : List Bool => bs.all id) = fun bs => bs.all id from rfl]
          show ledRow _ = ((List.range (is.length - 1)).map fun i => decide (is[i]?.getD 0 < is[i + 1]?.getD 0)).all id
          rw [rising_range]
          simp only [ledRow, b2, b3, b4, b5, b6, b7, Bool.true_and]
        · obtain ⟨_, _, _, _, _, ns2, e2, al, _⟩ := ledRow_parts e
          cases e2
          have b7 := e7.symm.trans b7
          rw [al] at b7
          cases b7
      | _ =>
        exact out (no_true fun e => by obtain ⟨_, _, _, _, _, ns, e2, _⟩ := ledRow_parts e; cases e2)
  | _ => exact h

end
end K85
set_option Elab.async false
set_option linter.all false
set_option maxRecDepth 100000
set_option maxHeartbeats 4000000
namespace K85
open PySem PySem.Spec PyProof.Rows L2 PD DW DX
theorem le_of_ltCps {a b : Str} : ltCps b.cps.toList a.cps.toList = false ↔ a.cps.toList ≤ b.cps.toList := by
  rw [PyProof.Rows.ltCps_eq, decide_eq_false_iff_not]
  exact Iff.rfl
theorem rises_pair : ∀ (l : List Str) (p : Str), risingS p l = true → (p :: l).Pairwise fun a b => a.cps.toList ≤ b.cps.toList
  | [], p, _ => by simp
  | x :: r, p, h => by
    simp only [risingS, Bool.and_eq_true, Bool.not_eq_true'] at h
    have ih := rises_pair r x h.2
    have px := le_of_ltCps.mp h.1
    refine List.pairwise_cons.mpr ⟨fun y hy => ?_, ih⟩
    rcases List.mem_cons.mp hy with rfl | hy
    · exact px
    · exact List.le_trans px ((List.pairwise_cons.mp ih).1 y hy)
theorem sorted_pair {l : List Str} (h : sortedS l = true) : l.Pairwise fun a b => a.cps.toList ≤ b.cps.toList := by
  cases l with
  | nil => exact .nil
  | cons x r => exact rises_pair r x h
theorem pair_sorted {l : List Str} (h : l.Pairwise fun a b => a.cps.toList ≤ b.cps.toList) : sortedS l = true :=
  PyProof.Rows.sortedS_of_pairwise l (h.imp fun q => le_of_ltCps.mpr q)
theorem str_ext {a b : Str} (h : a.cps.toList = b.cps.toList) : a = b := by
  cases a
  cases b
  simpa using h
theorem sorted_same {a b : List Str} (ha : sortedS a = true) (hb : sortedS b = true) (p : a.Perm b) : a = b :=
  List.Perm.eq_of_pairwise (le := fun a b : Str => a.cps.toList ≤ b.cps.toList) (fun x y _ _ h1 h2 => str_ext (List.le_antisymm h1 h2)) (sorted_pair ha) (sorted_pair hb) p
theorem eqv_strs : ∀ a b : List Str, PyData.eqvAll (a.map .str) (b.map .str) = decide (a = b)
  | [], [] => rfl
  | [], _ :: _ => rfl
  | _ :: _, [] => rfl
  | x :: a, y :: b => by
    rw [List.map_cons, List.map_cons, PyData.eqvAll, eqv_strs a b, PyData.eqv, Bool.eq_iff_iff]
    simp
/-- xs != sorted(xs) -/
theorem sorted_ne {ws ys : List Str} (p : ys.Perm ws) (so : sortedS ys = true) : (!PyData.eqv (.list (ws.map .str)) (.list (ys.map .str))) = !sortedS ws := by
  rw [PyData.eqv, eqv_strs, Bool.eq_iff_iff]
  cases h : sortedS ws with
  | true =>
    have e := sorted_same h so p.symm
    simp [e]
  | false =>
    have ne : ws ≠ ys := fun e => by rw [e, so] at h; cases h
    simp [ne]
theorem insAll_full {α : Type} [DecidableEq α] (ks : List α) : (SX.insAll ks).length = ks.length ↔ ks.Nodup := by
  obtain ⟨nd, mem, le⟩ := SX.insAll_props ks
  constructor
  · intro e
    exact (SX.perm_full _ ks nd (fun x hx => (mem x).mp hx) (Nat.le_of_eq e.symm)).nodup_iff.mp nd
  · intro h
    have p := SX.perm_full ks (SX.insAll ks) h (fun x hx => (mem x).mpr hx) le
    exact p.length_eq.symm
theorem lcGoA_map {α β : Type} {body : PyData → (Option α → Prop) → Prop} {g : β → PyData} {f : β → α} {Q : List α → Prop} : ∀ {l : List β} {acc : List α}, (∀ a ∈ l, ∀ K : Option α → Prop, K (some (f a)) → body (g a) K) → Q (acc ++ l.map f) → lcGoA body (l.map g) acc Q
  | [], acc, _, q => by show Q acc; simpa using q
  | a :: l, acc, h, q => h a List.mem_cons_self _ (lcGoA_map (fun b hb => h b (List.mem_cons_of_mem _ hb)) (by simpa using q))
theorem rowsOk_eq (rs : List Rw) (ok : ∀ r ∈ rs, r.ok) (ne : rs ≠ []) : rowsOk (rs.map Rw.data) = ((sortedS (rs.map (·.g)) && (rs.map (·.g)).all (fun g => decide ((rs.map (·.g)).count g ≤ 3))) && decide ((rs.map fun r => [r.g, r.o]).Nodup)) := by
  unfold rowsOk
  rw [titles_rows, pairs_rows]
  have e1 : (rs.map Rw.data).all ledRow = true := by
    rw [List.all_map, List.all_eq_true]
    exact fun r hr => ledRow_ok (ok r hr)
  have e2 : (rs.map Rw.data).isEmpty = false := by
    cases rs with
    | nil => exact absurd rfl ne
    | cons r rs => rfl
  rw [e1, e2]
  rfl
theorem shaped_strs {ws : List Str} (h : ∀ x ∈ ws, PyData.strOk x = true) : SeqAt.shaped (.list (ws.map .str)) = true := by
  have h1 : ∀ l : List Str, (∀ x ∈ l, PyData.strOk x = true) → PyData.canLayAll0 (l.map .str) = true := fun l => by
    induction l with
    | nil => exact fun _ => rfl
    | cons a l ih =>
      intro h
      have := h a List.mem_cons_self
      simp [PyData.canLayAll0, PyData.canLay0, this, ih fun x hx => h x (List.mem_cons_of_mem _ hx)]
  have h2 : ∀ l : List Str, PyData.depthAll (l.map .str) = 0 := fun l => by
    induction l with
    | nil => rfl
    | cons a l ih => show max 0 (PyData.depthAll (l.map .str)) = 0; rw [ih]; rfl
  unfold SeqAt.shaped
  rw [Bool.and_eq_true]
  refine ⟨by simpa only [PyData.canLay0] using h1 ws h, ?_⟩
  simp only [PyData.depth, h2]
  decide
theorem wordOk_strOk {m : Int} {z : Str} (h : wordOk m z = true) : PyData.strOk z = true := by
  simp only [wordOk, Bool.and_eq_true] at h
  have ha := h.2.2
  rw [List.all_eq_true] at ha
  have key : ∀ c, DW.isLet c = true → c < 0x110000 := fun c hc => by
    have hc : decide (c ∈ DW.L26.cps.toList) = true := hc
    have m := of_decide_eq_true hc
    have al : ∀ c ∈ DW.L26.cps.toList, c < 0x110000 := by decide +kernel
    exact al c m
  unfold PyData.strOk
  rw [← Array.all_toList, List.all_eq_true]
  exact fun c hc => decide_eq_true (key c (ha c hc))
theorem many_any (ws : List Str) : (ws.map fun g => decide ((3 : Int) < ((ws.count g : Nat) : Int))).any id = !ws.all (fun g => decide (ws.count g ≤ 3)) := by
  have go : ∀ l : List Str, (l.map fun g => decide ((3 : Int) < ((ws.count g : Nat) : Int))).any id = !l.all (fun g => decide (ws.count g ≤ 3)) := fun l => by
    induction l with
    | nil => rfl
    | cons a l ih =>
      rw [List.map_cons, List.any_cons, List.all_cons, ih, Bool.not_and]
      congr 1
      show decide _ = !decide _
      rw [Bool.eq_iff_iff]
      simp only [Bool.not_eq_true', decide_eq_false_iff_not, decide_eq_true_eq]
      omega
  exact go ws

section
variable {P : Program} {w : World} {K : PySem.W.Frag} {mg : Str → Option Value} {base : Heap}
theorem ok_are_led_rows (c : Tx K w mg) : FnOk P w K mg base (L2.CX P w) 4 (He.ga K "are_led_rows") (fdOf K (He.ga K "are_led_rows")) ["thing"] (lift K (fun _ xs Q _ => ∃ d, xs = [.d d] ∧ fitN 60 d = true ∧ Q (.d (.bool (ledRows d)))) 1) := by
  refine fn_ok c.fd_are_led_rows sc_are_led_rows rfl fun cdv A outer s I H E R hr => ⟨_, _, (dss_cons flat_of (ds_if (dw_or (dt_not (dt_val (de_isi2 (de_var (pv 0)) rfl (by rfl) c.f_isinstance (pe_bltn (by rfl) c.f_list b_list rfl) (pe_bltn (by rfl) c.f_tuple b_tuple rfl)))) (dw_or (dt_cmp (op_eqX (hu64 hr)) (nomark _) (od_eq rfl) (de_callB call_len (cd_len rfl) (by rfl) c.f_len b_len (da_cons (de_var (pv 0)) da_nil)) de_int) (dw_or1 (dt_not (dt_val (de_callB (cr_all rfl) (cd_all rfl) (by rfl) c.f_all b_all (da_cons (de_lc (own := [("row", 1)]) rfl sc_are_led_rows.nd (di_any (de_var (pv 0)) rfl) (blkOk_by (N := ["thing", "row", "games", "game"]) (sc := defScope (top 29)) (by decide +kernel)) (fun _ _ _ _ _ => (dg_name (i := 1) sc_are_led_rows.nd rfl (by first | exact .inl rfl | exact .inr rfl))) (fun _ _ _ _ _ => dts_nil) (fun _ _ _ _ _ => (de_fnC (ok_is_led_row c) (hr.mono (by decide)) (by rfl) c.g_is_led_row c.fd_is_led_row.kp (bd_is_led_row c) takesC0 rfl (da_cons (de_var (pv 1)) da_nil))) (tgt_name (by decide)) s) da_nil))))))).dt (dss_one (ds_ret de_bl)) dss_nil)
      (dss_cons flat_of (ds_set (i := 2) sc_are_led_rows.nd rfl (by first | exact .inl rfl | exact .inr rfl) (de_lc (own := [("row", 1)]) rfl sc_are_led_rows.nd (di_any (de_var (pv 0)) rfl) (blkOk_by (N := ["thing", "row", "games", "game"]) (sc := defScope (top 29)) (by decide +kernel)) (fun _ _ _ _ _ => (dg_name (i := 1) sc_are_led_rows.nd rfl (by first | exact .inl rfl | exact .inr rfl))) (fun _ _ _ _ _ => dts_nil) (fun _ _ _ _ _ => (de_ix (de_var (pv 1)) de_int (fun _ _ => rfl) rfl)) (tgt_name (by decide)) s))
      (dss_cons flat_of (ds_if (dw_or (dt_cmp (op_neX (hu64 hr)) (nomark _) (od_ne rfl) (de_var (pv 2)) (de_callB cr_sortedS (cd_sortedS rfl) (by rfl) c.f_sorted b_sorted (da_cons (de_var (pv 2)) da_nil))) (dw_or1 (dt_val (de_callB (cr_any rfl) (cd_any rfl) (by rfl) c.f_any b_any (da_cons (de_lc (own := [("game", 3)]) rfl sc_are_led_rows.nd (di_any (de_var (pv 2)) rfl) (blkOk_by (N := ["thing", "row", "games", "game"]) (sc := defScope (top 29)) (by decide +kernel)) (fun _ _ _ _ _ => (dg_name (i := 3) sc_are_led_rows.nd rfl (by first | exact .inl rfl | exact .inr rfl))) (fun _ _ _ _ _ => dts_nil) (fun _ _ _ _ _ => (de_cmp op_gt (nomark _) od_intB (de_meth (md_count rfl) (de_var (pv 2)) (da_cons (de_var (pv 3)) da_nil) rfl (fun q q' => pe_bm PySem.F.plainAttrs_list PySem.F.slot_list_count PySem.F.type_list_count (mt_countS) q q')) (de_gint (by rfl) c.k_MOST_OTHERS))) (tgt_name (by decide)) s) da_nil))))).dt (dss_one (ds_ret de_bl)) dss_nil)
      (dss_one (ds_ret (de_cmp (op_eqX (hu64 hr)) (nomark _) (od_eq rfl) (de_lenScP (own := [("row", 1)]) rfl rfl (hu64 hr) sc_are_led_rows.nd (by rfl) c.f_len (di_any (de_var (pv 0)) rfl) (blkOk_by (N := ["thing", "row", "games", "game"]) (sc := defScope (top 29)) (by decide +kernel)) (fun _ _ _ _ _ => (dg_name (i := 1) sc_are_led_rows.nd rfl (by first | exact .inl rfl | exact .inr rfl))) (fun _ _ _ _ _ => dts_nil) (fun _ _ _ _ _ => (de_tup (da_cons (de_ix (de_var (pv 1)) de_int (fun _ _ => rfl) rfl) (da_cons (de_ix (de_var (pv 1)) de_int (fun _ _ => rfl) rfl) da_nil)))) (tgt_name (by decide)) s) (de_callB call_len (cd_len rfl) (by rfl) c.f_len b_len (da_cons (de_var (pv 0)) da_nil)))))))), fun xs Qd Ed hl h => ?_⟩
  obtain ⟨d, rfl, hf, h⟩ := h
  have out : ledRows d = false → Qd (.d (.bool false)) := fun e => qB (Q := Qd) h e
  refine ⟨d, rfl, .inr (.inr (.inr (.inl rfl))), .inr (.inr (.inr (.inr rfl))), ?_⟩
  cases d with
  | list ds =>
    have hi := (fitN_lst hf).2
    have le := (fitN_lst hf).1
    refine bKG (fun _ => ?_) fun b => (by cases b)
    refine ifF ?_
    refine ⟨ds, rfl, .inl rfl, ?_⟩
    refine bKG (fun b1 => out (no_true fun e => ?_)) fun b1 => ?_
    · rw [eqv_int, beq_iff_eq] at b1
      have z : ds = [] := List.length_eq_zero_iff.mp (by omega)
      subst z
      cases e
    refine ifF ?_
    refine notT_t ⟨trivial, lcGo_f (f := fun x => .bool (ledRow x)) (fun x hx KK kk => ⟨rfl, nn1, x, rfl, hi x hx, kk⟩) ?_⟩
    rw [List.nil_append]
    refine ⟨_, _, rfl, bools_map _, ?_⟩
    have e7 : (ds.map ledRow).all id = ds.all ledRow := all_map ds
    refine bKG (fun b2 => ?_) fun b2 => out (no_true fun e => ?_)
    · have b2 := e7.symm.trans b2
      obtain ⟨rs, rfl, al⟩ := rows_inv b2
      rw [List.length_map] at le
      have ne : rs ≠ [] := fun e => by
        subst e
        rw [eqv_int] at b1
        cases b1
      have fin := rowsOk_eq rs al ne
      have so : ∀ x ∈ rs.map (·.g), PyData.strOk x = true := fun x hx => by
        obtain ⟨r, hr, rfl⟩ := List.mem_map.mp hx
        exact wordOk_strOk (al r hr).g
      refine ifF ?_
      dsimp only [dNext]
      refine ⟨trivial, lcGo_map (f := fun r : Rw => .str r.g) (fun r hr KK kk => ⟨_, at0, kk⟩) ?_⟩
      rw [List.nil_append, show (rs.map fun r : Rw => PyData.str r.g) = (rs.map (·.g)).map .str by rw [List.map_map]; rfl]
      refine setG (δ' := [some (.d (.list (rs.map Rw.data))), none, some (.d (.list ((rs.map (·.g)).map .str))), none]) rfl ?_
      refine ⟨_, rs.map (·.g), rfl, rfl, by rw [List.length_map]; omega, fun ys pm sy => ?_⟩
      have sy' : ∀ x ∈ ys, PyData.strOk x = true := fun x hx => so x (pm.mem_iff.mp hx)
      refine ⟨.inr ⟨shaped_strs so, shaped_strs sy'⟩, ?_⟩
      have eb := sorted_ne pm sy
      refine bKG (fun b3 => out ?_) fun b3 => ?_
      · have b3 := eb.symm.trans b3
        rw [Bool.not_eq_true'] at b3
        show rowsOk _ = false
        rw [fin, b3]
        rfl
      have b3 := eb.symm.trans b3
      rw [Bool.not_eq_false'] at b3
      refine ifF ?_
      have e8 := many_any (rs.map (·.g))
      refine ⟨trivial, lcGo_map (g := PyData.str) (f := fun g => .bool (decide ((3 : Int) < (((rs.map (·.g)).count g : Nat) : Int)))) (l := rs.map fun r : Rw => r.g) (fun g hg KK kk => ⟨⟨rfl, _, rfl⟩, rs.map (fun r : Rw => r.g), g, rfl, rfl, kk⟩) ?_⟩
      rw [List.nil_append]
      refine ⟨_, _, rfl, bools_map _, ?_⟩
      refine bKG (fun b4 => out ?_) fun b4 => ?_
      · have b4 := e8.symm.trans b4
        rw [Bool.not_eq_true'] at b4
        show rowsOk _ = false
        rw [fin, b4, Bool.and_false]
        rfl
      have b4 := e8.symm.trans b4
      rw [Bool.not_eq_false'] at b4
      refine ifF ?_
      dsimp only [dNext]
      refine ⟨trivial, (by rw [List.length_map]; omega), lcGoA_map (f := fun r : Rw => [r.g, r.o]) (fun r hr KK kk => ⟨_, at0, _, at1', (show 2 ≤ sizeLine by decide), [r.g, r.o], rfl, kk⟩) ?_⟩
      rw [List.nil_append]
      refine ⟨_, rfl, .inl rfl, ?_⟩
      refine qB (Q := Qd) h ?_
      show rowsOk _ = PyData.eqv (.int _) (.int _)
      rw [fin, b3, b4, eqv_int, Bool.eq_iff_iff]
      have fu := insAll_full (rs.map fun r => [r.g, r.o])
      simp only [Bool.true_and, decide_eq_true_eq, beq_iff_eq]
      rw [← fu]
      simp only [List.length_map]
      omega
    · have e : rowsOk ds = true := e
      unfold rowsOk at e
      simp only [Bool.and_eq_true] at e
      have b2 := e7.symm.trans b2
      rw [e.1.1.2] at b2
      cases b2
  | tuple ds =>
    have hi := (fitN_tup hf).2
    have le := (fitN_tup hf).1
    refine bKG (fun _ => ?_) fun b => (by cases b)
    refine ifF ?_
    refine ⟨.inl rfl, ?_⟩
    refine bKG (fun b1 => out (no_true fun e => ?_)) fun b1 => ?_
    · rw [eqv_int, beq_iff_eq] at b1
      have z : ds = [] := List.length_eq_zero_iff.mp (by omega)
      subst z
      cases e
    refine ifF ?_
    refine notT_t ⟨trivial, lcGo_f (f := fun x => .bool (ledRow x)) (fun x hx KK kk => ⟨rfl, nn1, x, rfl, hi x hx, kk⟩) ?_⟩
    rw [List.nil_append]
    refine ⟨_, _, rfl, bools_map _, ?_⟩
    have e7 : (ds.map ledRow).all id = ds.all ledRow := all_map ds
    refine bKG (fun b2 => ?_) fun b2 => out (no_true fun e => ?_)
    · have b2 := e7.symm.trans b2
      obtain ⟨rs, rfl, al⟩ := rows_inv b2
      rw [List.length_map] at le
      have ne : rs ≠ [] := fun e => by
        subst e
        rw [eqv_int] at b1
        cases b1
      have fin := rowsOk_eq rs al ne
      have so : ∀ x ∈ rs.map (·.g), PyData.strOk x = true := fun x hx => by
        obtain ⟨r, hr, rfl⟩ := List.mem_map.mp hx
        exact wordOk_strOk (al r hr).g
      refine ifF ?_
      dsimp only [dNext]
      refine ⟨trivial, lcGo_map (f := fun r : Rw => .str r.g) (fun r hr KK kk => ⟨_, at0, kk⟩) ?_⟩
      rw [List.nil_append, show (rs.map fun r : Rw => PyData.str r.g) = (rs.map (·.g)).map .str by rw [List.map_map]; rfl]
      refine setG (δ' := [some (.d (.tuple (rs.map Rw.data))), none, some (.d (.list ((rs.map (·.g)).map .str))), none]) rfl ?_
      refine ⟨_, rs.map (·.g), rfl, rfl, by rw [List.length_map]; omega, fun ys pm sy => ?_⟩
      have sy' : ∀ x ∈ ys, PyData.strOk x = true := fun x hx => so x (pm.mem_iff.mp hx)
      refine ⟨.inr ⟨shaped_strs so, shaped_strs sy'⟩, ?_⟩
      have eb := sorted_ne pm sy
      refine bKG (fun b3 => out ?_) fun b3 => ?_
      · have b3 := eb.symm.trans b3
        rw [Bool.not_eq_true'] at b3
        show rowsOk _ = false
        rw [fin, b3]
        rfl
      have b3 := eb.symm.trans b3
      rw [Bool.not_eq_false'] at b3
      refine ifF ?_
      have e8 := many_any (rs.map (·.g))
      refine ⟨trivial, lcGo_map (g := PyData.str) (f := fun g => .bool (decide ((3 : Int) < (((rs.map (·.g)).count g : Nat) : Int)))) (l := rs.map fun r : Rw => r.g) (fun g hg KK kk => ⟨⟨rfl, _, rfl⟩, rs.map (fun r : Rw => r.g), g, rfl, rfl, kk⟩) ?_⟩
      rw [List.nil_append]
      refine ⟨_, _, rfl, bools_map _, ?_⟩
      refine bKG (fun b4 => out ?_) fun b4 => ?_
      · have b4 := e8.symm.trans b4
        rw [Bool.not_eq_true'] at b4
        show rowsOk _ = false
        rw [fin, b4, Bool.and_false]
        rfl
      have b4 := e8.symm.trans b4
      rw [Bool.not_eq_false'] at b4
      refine ifF ?_
      dsimp only [dNext]
      refine ⟨trivial, (by rw [List.length_map]; omega), lcGoA_map (f := fun r : Rw => [r.g, r.o]) (fun r hr KK kk => ⟨_, at0, _, at1', (show 2 ≤ sizeLine by decide), [r.g, r.o], rfl, kk⟩) ?_⟩
      rw [List.nil_append]
      refine ⟨.inl rfl, ?_⟩
      refine qB (Q := Qd) h ?_
      show rowsOk _ = PyData.eqv (.int _) (.int _)
      rw [fin, b3, b4, eqv_int, Bool.eq_iff_iff]
      have fu := insAll_full (rs.map fun r => [r.g, r.o])
      simp only [Bool.true_and, decide_eq_true_eq, beq_iff_eq]
      rw [← fu]
      simp only [List.length_map]
      omega
    · have e : rowsOk ds = true := e
      unfold rowsOk at e
      simp only [Bool.and_eq_true] at e
      have b2 := e7.symm.trans b2
      rw [e.1.1.2] at b2
      cases b2
  | _ => exact h

end
end K85
set_option Elab.async false
set_option linter.all false
set_option maxRecDepth 100000
set_option maxHeartbeats 4000000
namespace K85
open PySem PySem.Spec PyProof.Rows L2 PD DW DX
def isSeqOf (d : PyData) (xs : List PyData) : Prop := d = .list xs ∨ d = .tuple xs
theorem seq_any {d : PyData} {xs : List PyData} (h : isSeqOf d xs) : strFits (froz (.d d)) ∧ itemsOf (froz (.d d)) = some xs := by
  rcases h with rfl | rfl <;> exact ⟨trivial, rfl⟩

section
variable {P : Program} {w : World} {K : PySem.W.Frag} {mg : Str → Option Value} {base : Heap}
theorem ok_gain_of (c : Tx K w mg) : FnOk P w K mg base (L2.CX P w) 1 (He.ga K "gain_of") (fdOf K (He.ga K "gain_of")) ["rows", "k"] (lift K (fun _ xs Q _ => ∃ (d : PyData) (rs : List Rw) (k : Int), xs = [.d d, .d (.int k)] ∧ isSeqOf d (rs.map Rw.data) ∧ (∀ r ∈ rs, r.ok ∧ r.small) ∧ rs.length ≤ 60 ∧ B 10 k ∧ Q (.d (.int (gain (rs.map Rw.data) k)))) 2) := by
  refine fn_ok c.fd_gain_of sc_gain_of rfl fun cdv A outer s I H E R hr => ⟨_, _, (dss_cons flat_of (ds_asg (de_tup (da_cons de_int (da_cons de_int da_nil))) (dg_tup (n := 2) rfl (dgs_cons (dg_name (i := 2) sc_gain_of.nd rfl (by first | exact .inl rfl | exact .inr rfl)) (dgs_cons (dg_name (i := 3) sc_gain_of.nd rfl (by first | exact .inl rfl | exact .inr rfl)) dgs_nil)) rfl))
      (dss_cons flat_of (ds_for flat_of (passes_of rfl) rfl (di_any (de_var (pv 0)) rfl) (dg_tup (n := 5) rfl (dgs_cons (dg_name (i := 4) sc_gain_of.nd rfl (by first | exact .inl rfl | exact .inr rfl)) (dgs_cons (dg_name (i := 5) sc_gain_of.nd rfl (by first | exact .inl rfl | exact .inr rfl)) (dgs_cons (dg_name (i := 6) sc_gain_of.nd rfl (by first | exact .inl rfl | exact .inr rfl)) (dgs_cons (dg_name (i := 7) sc_gain_of.nd rfl (by first | exact .inl rfl | exact .inr rfl)) (dgs_cons (dg_name (i := 8) sc_gain_of.nd rfl (by first | exact .inl rfl | exact .inr rfl)) dgs_nil))))) rfl) (dss_cons flat_of (ds_set (i := 9) sc_gain_of.nd rfl (by first | exact .inl rfl | exact .inr rfl) (de_op op_subX od_sub (de_op op_mul' od_mul (de_ix (de_var (pv 6)) de_int (fun _ _ => rfl) rfl) (de_ix (de_var (pv 7)) de_int (fun _ _ => rfl) rfl)) (de_op op_mul' od_mul (de_ix (de_var (pv 7)) de_int (fun _ _ => rfl) rfl) (de_ix (de_var (pv 6)) de_int (fun _ _ => rfl) rfl))))
      (dss_one (ds_par (i := 2) (j := 3) rfl sc_gain_of.nd rfl rfl (by decide) rfl rfl (da_cons (de_op op_cat' (od_add rfl) (de_op op_mul' od_mul (de_op op_mul' od_mul (de_var (pv 2)) (de_ix (de_var (pv 6)) de_int (fun _ _ => rfl) rfl)) (de_ix (de_var (pv 7)) de_int (fun _ _ => rfl) rfl)) (de_op op_mul' od_mul (de_var (pv 9)) (de_var (pv 3)))) (da_cons (de_op op_mul' od_mul (de_op op_mul' od_mul (de_var (pv 3)) (de_ix (de_var (pv 6)) de_int (fun _ _ => rfl) rfl)) (de_ix (de_var (pv 7)) de_int (fun _ _ => rfl) rfl)) da_nil)) rfl))))
      (dss_one (ds_ret (de_op op_fdivW od_int (de_op op_cat' (od_add rfl) (de_op op_mul' od_mul (de_op op_mul' od_mul de_int (de_var (pv 1))) (de_var (pv 2))) (de_var (pv 3))) (de_op op_mul' od_mul de_int (de_var (pv 3)))))))), fun xs Qd Ed hl h => ?_⟩
  obtain ⟨d, rs, k, rfl, hd, al, len, hk, h⟩ := h
  refine ⟨(show 2 ≤ sizeLine by decide), rfl, ?_⟩
  dsimp only [dGCons, dGNil]
  refine setG (δ' := [some (.d d), some (.d (.int k)), some (.d (.int 0)), none, none, none, none, none, none, none]) rfl ?_
  refine setG (δ' := [some (.d d), some (.d (.int k)), some (.d (.int 0)), some (.d (.int 1)), none, none, none, none, none, none]) rfl ?_
  refine ⟨rfl, ?_⟩
  obtain ⟨e1, e2⟩ := seq_any hd
  refine ⟨e1, ?_⟩
  rw [e2]
  dsimp only
  refine forGo_inv (fun ds δ => ∃ (qs : List Rw) (n : Nat) (acc : Int × Int) (x4 x5 x6 x7 x8 x9 : Option DV), ds = qs.map Rw.data ∧ (∀ r ∈ qs, r.ok ∧ r.small) ∧ n + qs.length = rs.length ∧ Gs n acc ∧ (qs.map Rw.data).foldl gainStep acc = (rs.map Rw.data).foldl gainStep (0, 1) ∧ δ = [some (.d d), some (.d (.int k)), some (.d (.int acc.1)), some (.d (.int acc.2)), x4, x5, x6, x7, x8, x9]) ?_ ?_ _ _ ⟨rs, 0, (0, 1), none, none, none, none, none, none, rfl, al, by omega, Gs.zero, rfl, rfl⟩
  · rintro y ds _ ⟨qs, n, acc, x4, x5, x6, x7, x8, x9, eq, qal, ln, gs, ef, rfl⟩ N hN
    match qs, eq with
    | r :: qs, eq =>
    cases eq
    obtain ⟨ok, sm⟩ := qal r List.mem_cons_self
    rw [List.length_cons] at ln
    obtain ⟨b1, b2, b3, b4⟩ := Rw.bits ok sm
    refine ⟨rfl, ?_⟩
    dsimp only [dGCons, dGNil]
    refine setG (δ' := [some (.d d), some (.d (.int k)), some (.d (.int acc.1)), some (.d (.int acc.2)), some (.d (.str r.g)), x5, x6, x7, x8, x9]) rfl ?_
    refine setG (δ' := [some (.d d), some (.d (.int k)), some (.d (.int acc.1)), some (.d (.int acc.2)), some (.d (.str r.g)), some (.d (.str r.o)), x6, x7, x8, x9]) rfl ?_
    refine setG (δ' := [some (.d d), some (.d (.int k)), some (.d (.int acc.1)), some (.d (.int acc.2)), some (.d (.str r.g)), some (.d (.str r.o)), some (.d (.tuple [.int r.s1, .int r.s2])), x7, x8, x9]) rfl ?_
    refine setG (δ' := [some (.d d), some (.d (.int k)), some (.d (.int acc.1)), some (.d (.int acc.2)), some (.d (.str r.g)), some (.d (.str r.o)), some (.d (.tuple [.int r.s1, .int r.s2])), some (.d (.tuple [.int r.a1, .int r.a2])), x8, x9]) rfl ?_
    refine setG (δ' := [some (.d d), some (.d (.int k)), some (.d (.int acc.1)), some (.d (.int acc.2)), some (.d (.str r.g)), some (.d (.str r.o)), some (.d (.tuple [.int r.s1, .int r.s2])), some (.d (.tuple [.int r.a1, .int r.a2])), some (.d (.tuple (r.ns.map .int))), x9]) rfl ?_
    refine ⟨rfl, ?_⟩
    have pt : B 104 (r.s1 * r.a2 - r.a1 * r.s2) := B.sub (n := 103) ((b1.mul b4).mono (by decide)) ((b3.mul b2).mono (by decide))
    refine ⟨_, at0, _, at1', b1.cmul b4 (by decide) (by decide) (by decide), _, at0, _, at1', b3.cmul b2 (by decide) (by decide) (by decide), trivial, ?_⟩
    refine setG (δ' := [some (.d d), some (.d (.int k)), some (.d (.int acc.1)), some (.d (.int acc.2)), some (.d (.str r.g)), some (.d (.str r.o)), some (.d (.tuple [.int r.s1, .int r.s2])), some (.d (.tuple [.int r.a1, .int r.a2])), some (.d (.tuple (r.ns.map .int))), some (.d (.int (r.s1 * r.a2 - r.a1 * r.s2)))]) rfl ?_
    have w1 := gs.a.mul b2
    have w2 := gs.b.mul b2
    refine ⟨_, at1', gs.a.cmul b2 (by omega) (by decide) (by omega), _, at1', w1.cmul b4 (by omega) (by decide) (by omega), pt.cmul gs.b (by decide) (by omega) (by omega), _, at1', gs.b.cmul b2 (by omega) (by decide) (by omega), _, at1', w2.cmul b4 (by omega) (by decide) (by omega), ?_⟩
    refine hN _ ⟨qs, n + 1, gainStep acc r.data, _, _, _, _, _, _, rfl, fun q hq => qal q (List.mem_cons_of_mem _ hq), by omega, gs.next ok sm, ef, rfl⟩
  · rintro _ ⟨qs, n, acc, x4, x5, x6, x7, x8, x9, eq, qal, ln, gs, ef, rfl⟩
    obtain rfl : qs = [] := by
      cases qs with
      | nil => rfl
      | cons _ _ => cases eq
    have ef : acc = (rs.map Rw.data).foldl gainStep (0, 1) := ef
    have hl : n ≤ 60 := by rw [List.length_nil] at ln; omega
    have t2 : B 2 (2 : Int) := by decide
    have k2 : B 12 (2 * k) := t2.mul hk
    refine ⟨t2.cmul hk (by decide) (by decide) (by decide), k2.cmul gs.a (by decide) (by omega) (by omega), t2.cmul gs.b (by decide) (by omega) (by omega), ⟨?_, ?_⟩, ?_⟩
    · have := gs.p
      show 0 < 2 * acc.2
      omega
    · exact (t2.mul gs.b).log (by omega) (by omega)
    · show Qd (.d (.int ((2 * k * acc.1 + acc.2) / (2 * acc.2))))
      rw [ef]
      exact h

end
end K85
set_option Elab.async false
set_option linter.all false
set_option maxRecDepth 100000
set_option maxHeartbeats 4000000
namespace K85
open PySem PySem.Spec PyProof.Rows L2 PD DW DX
theorem lcGo_fm {body : PyData → (Option PyData → Prop) → Prop} {f : PyData → Option PyData} {Q : List PyData → Prop} : ∀ {l : List PyData} {acc : List PyData}, (∀ a ∈ l, ∀ K : Option PyData → Prop, K (f a) → body a K) → Q (acc ++ l.filterMap f) → lcGo body l acc Q
  | [], acc, _, q => by show Q acc; simpa using q
  | a :: l, acc, h, q => h a List.mem_cons_self _ (lcGo_fm (fun b hb => h b (List.mem_cons_of_mem _ hb)) (by
      cases e : f a with
      | none => rw [List.filterMap_cons_none e] at q; simpa using q
      | some y => rw [List.filterMap_cons_some e] at q; simpa using q))
def kf (many : Int) : PyData → Option PyData
  | .tuple [.none, .int k] => some (.int k)
  | .tuple [.int a, .int k] => if many < a then some (.int k) else none
  | _ => none
theorem kf_first (kl many : Int) : ∀ st : List (Int × Int), ∃ r, (stepsD st kl).filterMap (kf many) = .int (kOf st kl many) :: r
  | [] => ⟨[], rfl⟩
  | (a, k) :: st => by
    obtain ⟨r, e⟩ := kf_first kl many st
    show ∃ r, ((PyData.tuple [.int a, .int k]) :: stepsD st kl).filterMap (kf many) = .int (if many < a then k else kOf st kl many) :: r
    by_cases h : many < a
    · rw [if_pos h, List.filterMap_cons_some (show kf many (.tuple [.int a, .int k]) = some (.int k) from if_pos h)]
      exact ⟨_, rfl⟩
    · rw [if_neg h, List.filterMap_cons_none (show kf many (.tuple [.int a, .int k]) = none from if_neg h)]
      exact ⟨r, e⟩
theorem ledDay_four {d : PyData} {last : Int} (h : ledDay d last = true) : ∃ n a b rows, d = .tuple [n, a, b, rows] ∧ ledRows rows = true ∧ isNum n (last + 1) (some 400) = true ∧ isNum a 0 none = true ∧ isNum b 0 none = true := by
  unfold ledDay at h
  split at h
  · rename_i n a b rows
    simp only [Bool.and_eq_true] at h
    exact ⟨n, a, b, rows, rfl, h.1, h.2.1, h.2.2.1, h.2.2.2⟩
  · cases h
theorem intB_t {p : Int → Int → Bool} {a b : TD} {δ : DEnv} {Q : Bool → Prop} {E : EK} {x y : Int} (ha : ∀ Q E, Q (.d (.int x)) → a δ Q E) (hb : ∀ Q E, Q (.d (.int y)) → b δ Q E) (h : Q (p x y)) : dB (dBin (oIntB p) a b) δ Q E := ha _ _ (hb _ _ h)

section
variable {P : Program} {w : World} {K : PySem.W.Frag} {mg : Str → Option Value} {base : Heap}
theorem ok_k_of (c : Tx K w mg) : FnOk P w K mg base (L2.CX P w) 1 (He.ga K "k_of") (fdOf K (He.ga K "k_of")) ["steps", "many"] (lift K (fun _ xs Q _ => ∃ st kl many, xs = [.d (.tuple (stepsD st kl)), .d (.int many)] ∧ Q (.d (.int (kOf st kl many)))) 2) := by
  refine fn_ok c.fd_k_of sc_k_of rfl fun cdv A outer s I H E R hr => ⟨_, _, (dss_one (ds_ret (de_ix (de_lc (own := [("games", 2), ("k", 3)]) rfl sc_k_of.nd (di_any (de_var (pv 0)) rfl) (blkOk_by (N := ["steps", "many", "games", "k"]) (sc := defScope (top 31)) (by decide +kernel)) (fun _ _ _ _ _ => (dg_tup (n := 2) rfl (dgs_cons (dg_name (i := 2) sc_k_of.nd rfl (by first | exact .inl rfl | exact .inr rfl)) (dgs_cons (dg_name (i := 3) sc_k_of.nd rfl (by first | exact .inl rfl | exact .inr rfl)) dgs_nil)) rfl)) (fun _ _ _ _ _ => (dts_one (dw_or (dt_cmp op_isN (nomark _) od_isN (de_var (pv 2)) de_non) (dw_or1 (dt_cmp op_gt (nomark _) od_intB (de_var (pv 2)) (de_var (pv 1))))).dt)) (fun _ _ _ _ _ => (de_var (pv 3))) (tgt_tup (tgt_names (is := [2, 3]) (by decide)).1) s) de_int (fun _ _ => rfl) rfl))), fun xs Qd Ed hl h => ?_⟩
  obtain ⟨st, kl, many, rfl, h⟩ := h
  obtain ⟨r, er⟩ := kf_first kl many st
  refine ⟨trivial, lcGo_fm (f := kf many) (fun d hd KK kk => ?_) ?_⟩
  · unfold stepsD at hd
    rcases List.mem_append.mp hd with hd | hd
    · obtain ⟨p, hp, rfl⟩ := List.mem_map.mp hd
      have kk : KK (if many < p.1 then some (.int p.2) else none) := kk
      refine ⟨rfl, ?_⟩
      dsimp only [dGCons, dGNil]
      refine setG (δ' := [some (.d (.tuple (stepsD st kl))), some (.d (.int many)), some (.d (.int p.1)), none]) rfl ?_
      refine setG (δ' := [some (.d (.tuple (stepsD st kl))), some (.d (.int many)), some (.d (.int p.1)), some (.d (.int p.2))]) rfl ?_
      refine ⟨rfl, nE, isN_bK (bKG (fun b => (by cases b)) fun _ => ?_)⟩
      refine ifF ?_
      refine intB_t (p := fun i j => decide (j < i)) (x := p.1) (y := many) (fun _ _ q => q) (fun _ _ q => q) ?_
      by_cases b : many < p.1
      · rw [if_pos b] at kk
        rw [decide_eq_true b, if_pos rfl]
        exact kk
      · rw [if_neg b] at kk
        rw [decide_eq_false b, if_neg (by decide)]
        exact kk
    · rw [List.mem_singleton.mp hd] at kk ⊢
      refine ⟨rfl, ?_⟩
      dsimp only [dGCons, dGNil]
      refine setG (δ' := [some (.d (.tuple (stepsD st kl))), some (.d (.int many)), some (.d .none), none]) rfl ?_
      refine setG (δ' := [some (.d (.tuple (stepsD st kl))), some (.d (.int many)), some (.d .none), some (.d (.int kl))]) rfl ?_
      refine ⟨rfl, nE, isN_bK ?_⟩
      exact kk
  rw [List.nil_append, er]
  exact ⟨_, _, rfl, at0, h⟩

theorem ok_is_led_day (c : Tx K w mg) : FnOk P w K mg base (L2.CX P w) 5 (He.ga K "is_led_day") (fdOf K (He.ga K "is_led_day")) ["thing", "last"] (lift K (fun _ xs Q _ => ∃ d last, xs = [.d d, .d (.int last)] ∧ fitN 60 d = true ∧ Q (.d (.bool (ledDay d last)))) 2) := by
  refine fn_ok c.fd_is_led_day sc_is_led_day rfl fun cdv A outer s I H E R hr => ⟨_, _, (dss_cons flat_of (ds_if (dw_or (dt_not (dt_val (de_callB call_isi (cd_isi rfl) (by rfl) c.f_isinstance b_isinstance (da_cons (de_var (pv 0)) (da_cons (de_ty (by rfl) c.f_tuple b_tuple) da_nil))))) (dw_or (dt_cmp (op_neX (hu64 hr)) (nomark _) (od_ne rfl) (de_callB call_len (cd_len rfl) (by rfl) c.f_len b_len (da_cons (de_var (pv 0)) da_nil)) de_int) (dw_or1 (dt_not (dt_val (de_fnC (ok_are_led_rows c) (hr.mono (by decide)) (by rfl) c.g_are_led_rows c.fd_are_led_rows.kp (bd_are_led_rows c) (takesC (takes_of rfl rfl rfl rfl)) rfl (da_cons (de_ix (de_var (pv 0)) de_int (fun _ _ => rfl) rfl) da_nil))))))).dt (dss_one (ds_ret de_bl)) dss_nil)
      (dss_one (ds_ret (de_and (de_fnC (ok_is_number c) (hr.mono (by decide)) (by rfl) c.g_is_number c.fd_is_number.kp (bd_is_number c) (takesC (takes_of rfl rfl rfl rfl)) rfl (da_cons (de_ix (de_var (pv 0)) de_int (fun _ _ => rfl) rfl) (da_cons (de_op op_cat' (od_add rfl) (de_var (pv 1)) de_int) (da_cons (de_gint (by rfl) c.k_LAST_DAY) da_nil)))) (de_one (de_callB (cr_all rfl) (cd_all rfl) (by rfl) c.f_all b_all (da_cons (de_lc (own := [("one", 2)]) rfl sc_is_led_day.nd (di_any (de_slice (de_var (pv 0)) (do_some de_int) (do_some de_int) rfl) rfl) (blkOk_by (N := ["thing", "last", "one"]) (sc := defScope (top 32)) (by decide +kernel)) (fun _ _ _ _ _ => (dg_name (i := 2) sc_is_led_day.nd rfl (by first | exact .inl rfl | exact .inr rfl))) (fun _ _ _ _ _ => dts_nil) (fun _ _ _ _ _ => (de_fnC (ok_is_number c) (hr.mono (by decide)) (by rfl) c.g_is_number c.fd_is_number.kp (bd_is_number c) takesC0 rfl (da_cons (de_var (pv 2)) (da_cons de_int (da_cons de_non da_nil))))) (tgt_name (by decide)) s) da_nil))))))), fun xs Qd Ed hl h => ?_⟩
  obtain ⟨d, last, rfl, hf, h⟩ := h
  have out : ledDay d last = false → Qd (.d (.bool false)) := fun e => qB (Q := Qd) h e
  refine ⟨d, rfl, .inr (.inr (.inr (.inr rfl))), ?_⟩
  cases d with
  | tuple ds =>
    refine bKG (fun _ => ?_) fun b => (by cases b)
    refine ifF ?_
    refine ⟨.inl rfl, ?_⟩
    refine bKG (fun b1 => out (no_true fun e => ?_)) fun b1 => ?_
    · obtain ⟨_, _, _, _, e2, _⟩ := ledDay_four e
      cases e2
      rw [eqv_int] at b1
      exact absurd (show (!(((4 : Nat) : Int) == 4)) = true from b1) (by decide)
    have e1 : ds.length = 4 := by
      rw [eqv_int, Bool.not_eq_false', beq_iff_eq] at b1
      omega
    match ds, e1 with
    | [n, a, b, rows], _ =>
      have hi := (fitN_tup hf).2
      refine ifF ?_
      refine notT_t ⟨rows, atI_nat (j := 3) rfl, rfl, nn1, rows, rfl, hi rows (by simp), ?_⟩
      refine bKG (fun b2 => ?_) fun b2 => out (no_true fun e => ?_)
      · refine ifF ?_
        dsimp only [dNext]
        refine ⟨n, at0, rfl, nn3, n, last + 1, some 400, rfl, ?_⟩
        refine bKG (fun b3 => ?_) fun b3 => out (no_true fun e => ?_)
        · refine ifT ?_
          have ec : PD.cut [n, a, b, rows] (some 1) (some 3) = [a, b] := rfl
          refine ⟨trivial, ?_⟩
          show lcGo _ (PD.cut [n, a, b, rows] (some 1) (some 3)) [] _
          rw [ec]
          refine lcGo_f (f := fun x => .bool (isNum x 0 none)) (fun x hx KK kk => ⟨rfl, nn3, x, 0, none, rfl, kk⟩) ?_
          rw [List.nil_append]
          refine ⟨_, _, rfl, bools_map _, ?_⟩
          refine qB (Q := Qd) h ?_
          show (ledRows rows && (isNum n (last + 1) (some 400) && (isNum a 0 none && isNum b 0 none))) = (isNum a 0 none && (isNum b 0 none && true))
          rw [b2, b3, Bool.true_and, Bool.true_and, Bool.and_true]
        · obtain ⟨_, _, _, _, e2, _, e4, _⟩ := ledDay_four e
          cases e2
          rw [e4] at b3
          cases b3
      · obtain ⟨_, _, _, _, e2, e3, _⟩ := ledDay_four e
        cases e2
        rw [e3] at b2
        cases b2
  | _ => exact h

end
end K85
set_option Elab.async false
set_option linter.all false
set_option maxRecDepth 100000
set_option maxHeartbeats 4000000
namespace K85
open PySem PySem.Spec PyProof.Rows L2 PD DW DX
theorem lcGo_filter {body : PyData → (Option PyData → Prop) → Prop} {p : PyData → Bool} {Q : List PyData → Prop} : ∀ {l : List PyData} {acc : List PyData}, (∀ a ∈ l, ∀ K : Option PyData → Prop, (if p a = true then K (some a) else K none) → body a K) → Q (acc ++ l.filter p) → lcGo body l acc Q
  | [], acc, _, q => by
    show Q acc
    have q : Q (acc ++ []) := q
    rwa [List.append_nil] at q
  | a :: l, acc, h, q => by
    refine h a List.mem_cons_self _ ?_
    cases e : p a with
    | true =>
      rw [if_pos rfl]
      refine lcGo_filter (fun b hb => h b (List.mem_cons_of_mem _ hb)) ?_
      rw [List.filter_cons_of_pos e] at q
      simpa using q
    | false =>
      rw [if_neg (by decide)]
      refine lcGo_filter (fun b hb => h b (List.mem_cons_of_mem _ hb)) ?_
      rw [List.filter_cons_of_neg (by rw [e]; decide)] at q
      simpa using q
theorem filter_none {p : PyData → Bool} : ∀ {l : List PyData}, (l.filter p).isEmpty = l.all fun x => !p x
  | [] => rfl
  | a :: l => by
    cases e : p a with
    | true => rw [List.filter_cons_of_pos e, List.all_cons, e]; rfl
    | false => rw [List.filter_cons_of_neg (by rw [e]; decide), List.all_cons, e, filter_none]; rfl
def badSign : PyData → Bool
  | .str z => !z.cps.toList.all DW.isLet
  | _ => false
theorem eqv_nil (fl : List PyData) : PyData.eqv (.list fl) (.list []) = fl.isEmpty := by
  cases fl <;> rfl
theorem ch_ok {z : Str} (h : PyData.strOk z = true) {c : Nat} (hc : c ∈ z.cps.toList) : PyData.strOk ⟨#[c]⟩ = true := by
  unfold PyData.strOk at h
  rw [← Array.all_toList, List.all_eq_true] at h
  show (#[c] : Array Nat).all _ = true
  have := h c hc
  simpa using this
def letD : PyData → Bool
  | .str z => z.cps.toList.all DW.isLet
  | _ => false
theorem name_empty (z : Str) : ((z.cps.toList.map fun c => PyData.str ⟨#[c]⟩).filter fun d => !letD d).isEmpty = z.cps.toList.all DW.isLet := by
  rw [filter_none, List.all_map]
  refine List.all_congr rfl fun c => ?_
  show (!!letD (.str ⟨#[c]⟩)) = _
  rw [Bool.not_not]
  show ([c] : List Nat).all DW.isLet = _
  simp
theorem andI {a b : TD} {δ : DEnv} {Q : DK} {E : EK} (h : a δ (bK fun c => if c = true then b δ Q E else Q (.d (.bool false))) E) : dAnd a b δ Q E := h
theorem intB_v {p : Int → Int → Bool} {a b : TD} {δ : DEnv} {Q : DK} {E : EK} {x y : Int} (ha : ∀ Q E, Q (.d (.int x)) → a δ Q E) (hb : ∀ Q E, Q (.d (.int y)) → b δ Q E) (h : Q (.d (.bool (p x y)))) : dBin (oIntB p) a b δ Q E := ha _ _ (hb _ _ h)

section
variable {P : Program} {w : World} {K : PySem.W.Frag} {mg : Str → Option Value} {base : Heap}
theorem ok__law_is_name (c : Tx K w mg) : FnOk P w K mg base (L2.CX P w) 1 (He.ga K "_law_is_name") (fdOf K (He.ga K "_law_is_name")) ["_law_thing"] (lift K (fun _ xs Q _ => ∃ d, xs = [.d d] ∧ (∀ z, d = .str z → z.length ≤ 1000 ∧ PyData.strOk z = true) ∧ Q (.d (.bool (DW.isName d)))) 1) := by
  refine fn_ok c.fd__law_is_name sc__law_is_name rfl fun cdv A outer s I H E R hr => ⟨_, _, (dss_cons flat_of (ds_if (dw_or (dt_not (dt_val (de_callB call_isi (cd_isi rfl) (by rfl) c.f_isinstance b_isinstance (da_cons (de_var (pv 0)) (da_cons (de_ty (by rfl) c.f_str b_str) da_nil))))) (dw_or1 (dt_not (dt_chain op_le op_le od_intB od_intB de_int (de_callB call_len (cd_len rfl) (by rfl) c.f_len b_len (da_cons (de_var (pv 0)) da_nil)) de_int)))).dt (dss_one (ds_ret de_bl)) dss_nil)
      (dss_one (ds_ret (de_cmp (op_eqX (hu64 hr)) (nomark _) (od_eq rfl) (de_lc (own := [("_law_sign", 1)]) rfl sc__law_is_name.nd (di_any (de_var (pv 0)) rfl) (blkOk_by (N := ["_law_thing", "_law_sign"]) (sc := defScope (top 40)) (by decide +kernel)) (fun _ _ _ _ _ => (dg_name (i := 1) sc__law_is_name.nd rfl (by first | exact .inl rfl | exact .inr rfl))) (fun _ _ _ _ _ => (dts_one (dt_cmp (op_notInX (hu65 hr)) rfl (od_notIn rfl) (de_var (pv 1)) de_str))) (fun _ _ _ _ _ => (de_var (pv 1))) (tgt_name (by decide)) s) (de_lst da_nil))))), fun xs Qd Ed hl h => ?_⟩
  obtain ⟨d, rfl, hf, h⟩ := h
  have out : DW.isName d = false → Qd (.d (.bool false)) := fun e => qB (Q := Qd) h e
  refine ⟨d, rfl, .inl rfl, ?_⟩
  cases d with
  | str z =>
    obtain ⟨zl, zo⟩ := hf z rfl
    refine bKG (fun _ => ?_) fun b => (by cases b)
    refine ifF ?_
    refine notT_t (chain_t (x := 1) (y := (z.length : Nat)) (z := 8) (fun _ _ q => q) (fun _ _ q => ⟨Nat.le_trans zl (by decide), q⟩) (fun _ _ q => q) ?_)
    by_cases b1 : (1 : Int) ≤ (z.length : Nat) ∧ ((z.length : Nat) : Int) ≤ 8
    · rw [decide_eq_true b1.1, decide_eq_true b1.2]
      refine ifF ?_
      dsimp only [dNext]
      refine ⟨Nat.le_trans zl (by decide), lcGo_filter (p := fun d => !letD d) (fun a ha KK kk => ?_) ?_⟩
      · obtain ⟨c, hc, rfl⟩ := List.mem_map.mp ha
        refine ⟨c, rfl, ?_⟩
        have e : letD (.str ⟨#[c]⟩) = DW.isLet c := by show ([c] : List Nat).all DW.isLet = _; simp
        have kk : if (!letD (.str ⟨#[c]⟩)) = true then KK (some (.str ⟨#[c]⟩)) else KK none := kk
        rw [e] at kk
        exact kk
      rw [List.nil_append]
      have ef : (z.cps.toList.map fun c => PyData.str ⟨#[c]⟩).filter (fun d => !letD d) = ((z.cps.toList.filter fun c => !letD (.str ⟨#[c]⟩)).map fun c => (⟨#[c]⟩ : Str)).map .str := by
        rw [List.filter_map, List.map_map]
        rfl
      have em := name_empty z
      show dLst dNil _ (fun y => oEq (.new ((z.cps.toList.map fun c => PyData.str ⟨#[c]⟩).filter fun d => !letD d)) y _ _) _
      refine ⟨Nat.zero_le _, .inr ⟨?_, by decide +kernel⟩, ?_⟩
      · rw [ef]
        refine shaped_strs fun x hx => ?_
        obtain ⟨c, hc, rfl⟩ := List.mem_map.mp hx
        exact ch_ok zo (List.mem_filter.mp hc).1
      · refine qB (Q := Qd) h ?_
        show wordOk 8 z = PyData.eqv (.list _) (.list [])
        rw [eqv_nil, em]
        unfold wordOk
        rw [decide_eq_true b1.1, decide_eq_true b1.2]
        rfl
    · have b2 : (decide ((1 : Int) ≤ (z.length : Nat)) && decide (((z.length : Nat) : Int) ≤ 8)) = false := no_true fun e => b1 (by simpa using e)
      rw [b2]
      refine ifT ?_
      refine out ?_
      show wordOk 8 z = false
      unfold wordOk
      rw [← Bool.and_assoc, b2]
      rfl
  | _ => exact h

theorem ok__law_is_between (c : Tx K w mg) : FnOk P w K mg base (L2.CX P w) 1 (He.ga K "_law_is_between") (fdOf K (He.ga K "_law_is_between")) ["_law_thing", "_law_low", "_law_high"] (lift K (fun _ xs Q _ => ∃ d lo hi, xs = [.d d, .d (.int lo), .d (DW.optI hi)] ∧ Q (.d (.bool (DW.isNum d lo hi)))) 3) := by
  refine fn_ok c.fd__law_is_between sc__law_is_between rfl fun cdv A outer s I H E R hr => ⟨_, _, (dss_one (ds_ret (de_and (de_callB call_isi (cd_isi rfl) (by rfl) c.f_isinstance b_isinstance (da_cons (de_var (pv 0)) (da_cons (de_ty (by rfl) c.f_int b_int) da_nil))) (de_and (de_not (de_callB call_isi (cd_isi rfl) (by rfl) c.f_isinstance b_isinstance (da_cons (de_var (pv 0)) (da_cons (de_ty (by rfl) c.f_bool b_bool) da_nil)))) (de_and (de_cmp op_ge (nomark _) od_intB (de_var (pv 0)) (de_var (pv 1))) (de_one (de_or (de_cmp op_isN (nomark _) od_isN (de_var (pv 2)) de_non) (de_one (de_cmp op_le (nomark _) od_intB (de_var (pv 0)) (de_var (pv 2))))))))))), fun xs Qd Ed hl h => ?_⟩
  obtain ⟨d, lo, hi, rfl, h⟩ := h
  refine ⟨d, rfl, .inr (.inl rfl), ?_⟩
  cases d with
  | int i =>
    refine bKG (fun _ => ?_) fun b => (by cases b)
    refine ifT ?_
    refine ⟨_, rfl, .inr (.inr (.inl rfl)), ?_⟩
    refine bKG (fun b => (by cases b)) fun _ => ?_
    refine bKG (fun _ => ?_) fun b => (by cases b)
    refine ifT ?_
    refine andI (intB_v (p := fun i j => decide (j ≤ i)) (x := i) (y := lo) (fun _ _ q => q) (fun _ _ q => q) ?_)
    refine bKG (fun b1 => ?_) fun b1 => ?_
    · have c1 : decide (i < lo) = false := decide_eq_false (by have := of_decide_eq_true b1; omega)
      refine ifT ?_
      refine ⟨nE, isN_bK ?_⟩
      cases hi with
      | none =>
        refine bKG (fun _ => ?_) fun b => (by cases b)
        refine ifT ?_
        refine qB (Q := Qd) (b := true) h ?_
        simp only [isNum, c1, Bool.not_false, Bool.true_and]
      | some j =>
        refine bKG (fun b => (by cases b)) fun _ => ?_
        refine ifF ?_
        refine intB_v (p := fun i j => decide (i ≤ j)) (x := i) (y := j) (fun _ _ q => q) (fun _ _ q => q) ?_
        refine qB (Q := Qd) (b := decide (i ≤ j)) h ?_
        simp only [isNum, c1, Bool.not_false, Bool.true_and]
    · have c1 : decide (i < lo) = true := decide_eq_true (by have := of_decide_eq_false b1; omega)
      refine ifF ?_
      refine qB (Q := Qd) (b := false) h ?_
      simp only [isNum, c1, Bool.not_true, Bool.false_and]
  | bool b =>
    refine bKG (fun _ => ?_) fun b => (by cases b)
    refine ifT ?_
    refine ⟨_, rfl, .inr (.inr (.inl rfl)), ?_⟩
    refine bKG (fun _ => ?_) fun b => (by cases b)
    refine bKG (fun b => (by cases b)) fun _ => ?_
    exact h
  | _ => exact h

end
end K85
set_option Elab.async false
set_option linter.all false
set_option maxRecDepth 100000
set_option maxHeartbeats 4000000
namespace K85
open PySem PySem.Spec PyProof.Rows L2 PD DW DX
theorem low_pair {a b : Int} (h0 : 0 ≤ a) (h1 : 1 ≤ b) (h2 : a ≤ b) : (PyData.eqv (.tuple [.int (a / (Int.gcd a b : Int)), .int (b / (Int.gcd a b : Int))]) (.tuple [.int a, .int b])) = lowest (.tuple [.int a, .int b]) := by
  have e3 : lowest (.tuple [.int a, .int b]) = decide (Int.gcd a b = 1) := by
    simp only [lowest, decide_eq_true h1, decide_eq_true h0, decide_eq_true h2, Bool.true_and]
  rw [e3, Bool.eq_iff_iff]
  simp only [PyData.eqv, PyData.eqvAll, Bool.and_true, Bool.and_eq_true, beq_iff_eq, decide_eq_true_eq]
  have gp : 0 < Int.gcd a b := Int.gcd_pos_of_ne_zero_right a (by omega)
  constructor
  · rintro ⟨_, e⟩
    generalize Int.gcd a b = g at e gp
    have dv : b / (g : Int) = b := e
    by_cases z : g = 1
    · exact z
    · have : b / (g : Int) < b := Int.ediv_lt_self_of_pos_of_ne_one (by omega) (by omega) 
      omega
  · intro e
    rw [e]
    exact ⟨Int.ediv_one a, Int.ediv_one b⟩
def shareB (d : PyData) (hv : Bool) : Bool := lowest d && (!hv || (match d with | .tuple [_, .int b] => decide (b < 3) | _ => false))
theorem shareB_half (d : PyData) : shareB d true = (lowest d && shareOk d) := by
  unfold shareB
  cases h : lowest d with
  | false => rfl
  | true =>
    obtain ⟨a, b, rfl, b1, a0, ab, g⟩ := lowest_inv h
    show (true && (!true || decide (b < 3))) = (true && shareOk (.tuple [.int a, .int b]))
    rw [Bool.true_and, Bool.true_and]
    show decide (b < 3) = shareOk (.tuple [.int a, .int b])
    rw [Bool.eq_iff_iff]
    simp only [shareOk, Bool.or_eq_true, Bool.and_eq_true, decide_eq_true_eq]
    constructor
    · intro h3
      have : b = 1 ∨ b = 2 := by omega
      rcases this with rfl | rfl
      · have : a = 0 ∨ a = 1 := by omega
        omega
      · have : a = 0 ∨ a = 1 ∨ a = 2 := by omega
        rcases this with rfl | rfl | rfl
        · exact absurd g (by decide)
        · exact .inl (.inr ⟨rfl, rfl⟩)
        · exact absurd g (by decide)
    · omega
theorem shareB_all (d : PyData) : shareB d false = lowest d := by
  unfold shareB
  simp
theorem retI {d : TD} {D : DEnds} {E : EK} {δ : DEnv} (h : d δ (retK D.rt) E) : dRet d D E δ := h
theorem orN {v : Bool} {b : TD} {i : Nat} {δ : DEnv} {Q : DK} {E : EK} (hv : δ[i]? = some (some (.d (.bool v)))) (h : if v = true then b δ Q E else Q (.d (.bool true))) : dOr (dNot (dVar i)) b δ Q E := by
  unfold dOr dNot dVar
  rw [hv]
  cases v <;> exact h

section
variable {P : Program} {w : World} {K : PySem.W.Frag} {mg : Str → Option Value} {base : Heap}
theorem ok__law_lowest (c : Tx K w mg) : FnOk P w K mg base (L2.CX P w) 1 (He.ga K "_law_lowest") (fdOf K (He.ga K "_law_lowest")) ["_law_above", "_law_below"] (lift K (fun _ xs Q _ => ∃ a b : Int, xs = [.d (.int a), .d (.int b)] ∧ 0 ≤ a ∧ 1 ≤ b ∧ B 101 b ∧ Q (.d (.tuple [.int (a / (Int.gcd a b : Int)), .int (b / (Int.gcd a b : Int))]))) 2) := by
  refine fn_ok c.fd__law_lowest sc__law_lowest rfl fun cdv A outer s I H E R hr => ⟨_, _, (dss_cons flat_of (ds_par (i := 2) (j := 3) rfl sc__law_lowest.nd rfl rfl (by decide) rfl rfl (da_cons (de_var (pv 0)) (da_cons (de_var (pv 1)) da_nil)) rfl)
      (dss_cons flat_of (ds_while flat_of (passes_of rfl) (dt_cmp (op_neX (hu64 hr)) (nomark _) (od_ne rfl) (de_var (pv 2)) de_int) (dss_one (ds_par (i := 2) (j := 3) rfl sc__law_lowest.nd rfl rfl (by decide) rfl rfl (da_cons (de_op op_mod od_int (de_var (pv 3)) (de_var (pv 2))) (da_cons (de_var (pv 2)) da_nil)) rfl)))
      (dss_one (ds_ret (de_tup (da_cons (de_op op_fdivW od_int (de_var (pv 0)) (de_var (pv 3))) (da_cons (de_op op_fdivW od_int (de_var (pv 1)) (de_var (pv 3))) da_nil))))))), fun xs Qd Ed hl h => ?_⟩
  obtain ⟨a, b, rfl, a0, b1, bb, h⟩ := h
  refine seqI (fun δ' => δ' = [some (.d (.int a)), some (.d (.int b)), some (.d (.int a)), some (.d (.int b))]) ?_ fun N hN => hN _ rfl
  rintro _ rfl
  refine wh_inv (fun m δ => ∃ x y : Int, δ = [some (.d (.int a)), some (.d (.int b)), some (.d (.int x)), some (.d (.int y))] ∧ m = x.toNat ∧ 0 ≤ x ∧ 0 ≤ y ∧ Int.gcd x y = Int.gcd a b) ?_ ⟨a, b, rfl, rfl, a0, by omega, rfl⟩
  rintro m _ ⟨x, y, rfl, rfl, x0, y0, eg⟩ N hN
  refine ⟨.inl rfl, ?_⟩
  refine bKG (fun b4 => ?_) fun b4 => ?_
  · have nz : x ≠ 0 := by
      rw [eqv_int, Bool.not_eq_true', beq_eq_false_iff_ne] at b4
      exact b4
    refine ifT ?_
    refine ⟨(show 0 < x by omega), ?_⟩
    refine setG (δ' := [some (.d (.int a)), some (.d (.int b)), some (.d (.int (y % x))), some (.d (.int x))]) rfl ?_
    have p1 := Int.emod_nonneg y nz
    have p2 := Int.emod_lt_of_pos y (show 0 < x by omega)
    exact hN _ _ (show (y % x).toNat < x.toNat by omega) ⟨y % x, x, rfl, rfl, p1, x0, (gcd_step x0 y0).trans eg⟩
  · have ez : x = 0 := by
      rw [eqv_int, Bool.not_eq_false', beq_iff_eq] at b4
      exact b4
    subst ez
    have gp : 0 < Int.gcd a b := Int.gcd_pos_of_ne_zero_right a (by omega)
    have ey : y = (Int.gcd a b : Int) := by
      rw [← eg, Int.gcd_zero_left]
      omega
    have gl : Int.gcd a b ≤ b.natAbs := Nat.le_of_dvd (by omega) (Int.gcd_dvd_natAbs_right a b)
    have cd : (0 : Int) < y ∧ y.natAbs.log2 < 9000 := ⟨by omega, B.log (n := 101) (show y.natAbs < 2 ^ 101 by have q : b.natAbs < 2 ^ 101 := bb; omega) (by decide) (by decide)⟩
    refine ifF ?_
    refine ⟨cd, cd, (show 2 ≤ sizeLine by decide), ?_⟩
    rw [← ey] at h
    exact h

theorem ok__law_is_share (c : Tx K w mg) : FnOk P w K mg base (L2.CX P w) 2 (He.ga K "_law_is_share") (fdOf K (He.ga K "_law_is_share")) ["_law_thing", "_law_halves"] (lift K (fun _ xs Q _ => ∃ d hv, xs = [.d d, .d (.bool hv)] ∧ fitN 60 d = true ∧ Q (.d (.bool (shareB d hv)))) 2) := by
  refine fn_ok c.fd__law_is_share sc__law_is_share rfl fun cdv A outer s I H E R hr => ⟨_, _, (dss_cons flat_of (ds_if (dw_or (dt_not (dt_val (de_callB call_isi (cd_isi rfl) (by rfl) c.f_isinstance b_isinstance (da_cons (de_var (pv 0)) (da_cons (de_ty (by rfl) c.f_tuple b_tuple) da_nil))))) (dw_or (dt_cmp (op_neX (hu64 hr)) (nomark _) (od_ne rfl) (de_callB call_len (cd_len rfl) (by rfl) c.f_len b_len (da_cons (de_var (pv 0)) da_nil)) de_int) (dw_or1 (dt_not (dt_val (de_fnC (ok__law_is_between c) (hr.mono (by decide)) (by rfl) c.g__law_is_between c.fd__law_is_between.kp (bd__law_is_between c) (takesC (takes_of rfl rfl rfl rfl)) rfl (da_cons (de_ix (de_var (pv 0)) de_int (fun _ _ => rfl) rfl) (da_cons de_int (da_cons de_non da_nil))))))))).dt (dss_one (ds_ret de_bl)) dss_nil)
      (dss_cons flat_of (ds_if (dw_or (dt_not (dt_val (de_fnC (ok__law_is_between c) (hr.mono (by decide)) (by rfl) c.g__law_is_between c.fd__law_is_between.kp (bd__law_is_between c) (takesC (takes_of rfl rfl rfl rfl)) rfl (da_cons (de_ix (de_var (pv 0)) de_int (fun _ _ => rfl) rfl) (da_cons de_int (da_cons (de_ix (de_var (pv 0)) de_int (fun _ _ => rfl) rfl) da_nil)))))) (dw_or1 (dt_cmp (op_neX (hu64 hr)) (nomark _) (od_ne rfl) (de_fnC (ok__law_lowest c) (hr.mono (by decide)) (by rfl) c.g__law_lowest c.fd__law_lowest.kp (bd__law_lowest c) (takesC (takes_of rfl rfl rfl rfl)) rfl (da_cons (de_ix (de_var (pv 0)) de_int (fun _ _ => rfl) rfl) (da_cons (de_ix (de_var (pv 0)) de_int (fun _ _ => rfl) rfl) da_nil))) (de_var (pv 0))))).dt (dss_one (ds_ret de_bl)) dss_nil)
      (dss_one (ds_ret (de_or (de_not (de_var (pv 1))) (de_one (de_cmp op_lt (nomark _) od_intB (de_ix (de_var (pv 0)) de_int (fun _ _ => rfl) rfl) de_int))))))), fun xs Qd Ed hl h => ?_⟩
  obtain ⟨d, hv, rfl, hf, h⟩ := h
  have out : lowest d = false → Qd (.d (.bool false)) := fun e => qB (Q := Qd) h (by unfold shareB; rw [e]; rfl)
  refine ⟨d, rfl, .inr (.inr (.inr (.inr rfl))), ?_⟩
  cases d with
  | tuple ds =>
    refine bKG (fun _ => ?_) fun b => (by cases b)
    refine ifF ?_
    refine ⟨.inl rfl, ?_⟩
    refine bKG (fun b1 => ?_) fun b1 => ?_
    · refine out ?_
      unfold lowest
      split
      · rename_i heq
        cases heq
        cases b1
      · rfl
    · have e1 : ds.length = 2 := by
        rw [eqv_int, Bool.not_eq_false', beq_iff_eq] at b1
        omega
      match ds, e1 with
      | [x, y], _ =>
        have hi := (fitN_tup hf).2
        refine ifF ?_
        refine notT_t ⟨y, at1', rfl, nn3, y, 1, none, rfl, ?_⟩
        refine bKG (fun b2 => ?_) fun b2 => out (no_true fun e => absurd (b2.symm.trans (lowest_num e).1) (by decide))
        obtain ⟨b, rfl, b0, _⟩ := isNum_inv b2
        refine ifF ?_
        dsimp only [dNext]
        refine ⟨x, at0, .int b, at1', rfl, nn3, x, 0, some b, rfl, ?_⟩
        refine bKG (fun b3 => ?_) fun b3 => out (no_true fun e => absurd (b3.symm.trans ((lowest_num e).2 b rfl)) (by decide))
        obtain ⟨a, rfl, a0, a1⟩ := isNum_inv b3
        have a1 := a1 b rfl
        have bb : B 101 b := by
          have q := hi (.int b) (by simp)
          simp only [fitN, decide_eq_true_eq] at q
          exact Nat.lt_trans q (by decide)
        refine ifF ?_
        refine ⟨_, at0, _, at1', rfl, nn2, a, b, rfl, a0, b0, bb, .inr ⟨shaped_pair _ _, shaped_pair a b⟩, ?_⟩
        have lp := low_pair a0 b0 a1
        refine bKG (fun b4 => out ?_) fun b4 => ?_
        · rw [lp, Bool.not_eq_true'] at b4
          exact b4
        rw [lp, Bool.not_eq_false'] at b4
        refine ifF ?_
        dsimp only [dNext]
        have e : ∀ v, shareB (.tuple [.int a, .int b]) v = (!v || decide (b < 3)) := fun v => by
          show (lowest (.tuple [.int a, .int b]) && (!v || decide (b < 3))) = _
          rw [b4, Bool.true_and]
        refine retI (orN (v := hv) rfl ?_)
        cases hv with
        | false => exact qB (Q := Qd) h (e false)
        | true =>
          refine ifT ?_
          refine ⟨_, at1', ?_⟩
          exact qB (Q := Qd) h (e true)
  | _ => exact out rfl

end
end K85
set_option Elab.async false
set_option linter.all false
set_option maxRecDepth 100000
set_option maxHeartbeats 4000000
namespace K85
open PySem PySem.Spec PyProof.Rows L2 PD DW DX
mutual
theorem fit_lay {n : Nat} : ∀ d : PyData, fitN n d = true → d.canLay0 = true
  | .none, _ => rfl
  | .bool _, _ => rfl
  | .int _, _ => rfl
  | .str z, h => (fitN_str h).2
  | .list xs, h => by
    simp only [fitN, Bool.and_eq_true] at h
    rw [PyData.canLay0]
    exact fit_layAll xs h.2
  | .tuple xs, h => by
    simp only [fitN, Bool.and_eq_true] at h
    rw [PyData.canLay0]
    exact fit_layAll xs h.2
  | .dict _, h => by simp [fitN] at h
theorem fit_layAll {n : Nat} : ∀ xs : List PyData, fitNs n xs = true → PyData.canLayAll0 xs = true
  | [], _ => rfl
  | x :: xs, h => by
    rw [fitNs, Bool.and_eq_true] at h
    rw [PyData.canLayAll0, fit_lay x h.1, fit_layAll xs h.2]
    rfl
end
theorem depthAll_le {m : Nat} : ∀ {xs : List PyData}, (∀ x ∈ xs, x.depth ≤ m) → PyData.depthAll xs ≤ m
  | [], _ => Nat.zero_le _
  | x :: xs, h => by
    have h1 := h x List.mem_cons_self
    have h2 := depthAll_le fun y hy => h y (List.mem_cons_of_mem _ hy)
    rw [PyData.depthAll]
    omega
theorem depthAll_mem : ∀ {xs : List PyData} {x : PyData}, x ∈ xs → x.depth ≤ PyData.depthAll xs
  | y :: xs, x, h => by
    rw [PyData.depthAll]
    rcases List.mem_cons.mp h with rfl | h
    · omega
    · have := depthAll_mem h
      omega
theorem layAll_of : ∀ {xs : List PyData}, (∀ x ∈ xs, x.canLay0 = true) → PyData.canLayAll0 xs = true
  | [], _ => rfl
  | x :: xs, h => by
    rw [PyData.canLayAll0, h x List.mem_cons_self, layAll_of fun y hy => h y (List.mem_cons_of_mem _ hy)]
    rfl
/-- data that fit, not too deep -/
structure Ft (d : PyData) : Prop where
  f : fitN 60 d = true
  d : d.depth ≤ 40
theorem Ft.tup {xs : List PyData} (h : Ft (.tuple xs)) : xs.length ≤ 60 ∧ ∀ x ∈ xs, Ft x := by
  obtain ⟨l, a⟩ := fitN_tup h.f
  have hd := h.d
  rw [PyData.depth] at hd
  exact ⟨l, fun x hx => ⟨a x hx, by have := depthAll_mem hx; omega⟩⟩
theorem Ft.lst {xs : List PyData} (h : Ft (.list xs)) : xs.length ≤ 60 ∧ ∀ x ∈ xs, Ft x := by
  obtain ⟨l, a⟩ := fitN_lst h.f
  have hd := h.d
  rw [PyData.depth] at hd
  exact ⟨l, fun x hx => ⟨a x hx, by have := depthAll_mem hx; omega⟩⟩
theorem shaped_list {xs : List PyData} (h : ∀ x ∈ xs, Ft x) : SeqAt.shaped (.list xs) = true := by
  unfold SeqAt.shaped
  rw [Bool.and_eq_true, PyData.canLay0, PyData.depth, decide_eq_true_eq]
  have := depthAll_le (m := 40) fun x hx => (h x hx).d
  exact ⟨layAll_of fun x hx => fit_lay x (h x hx).f, by omega⟩
theorem shaped_nil : SeqAt.shaped (.list []) = true := by decide +kernel
/-- [x for x in xs if not p(x)] != [] -/
theorem filter_ne {p : PyData → Bool} {xs : List PyData} : (!PyData.eqv (.list (xs.filter fun x => !p x)) (.list [])) = !xs.all p := by
  rw [eqv_nil, filter_none]
  refine congrArg (!·) (List.all_congr rfl fun x => ?_)
  rw [Bool.not_not]
theorem Ft.nm {z : Str} (h : Ft (.str z)) : z.length ≤ 1000 ∧ PyData.strOk z = true := fitN_str h.f
theorem falls_range (is : List Int) : (((List.range (is.length - 1)).map fun (i : Nat) => PyData.int (0 + (i : Int))).filter fun d => match d with | .int i => decide (is[i.toNat + 1]?.getD 0 ≤ is[i.toNat]?.getD 0) | _ => false).isEmpty = rising (is.map .int) := by
  rw [filter_none, List.all_map, ← rising_range, List.all_map]
  refine List.all_congr rfl fun i => ?_
  show (!decide (is[(0 + (i : Int)).toNat + 1]?.getD 0 ≤ is[(0 + (i : Int)).toNat]?.getD 0)) = decide (is[i]?.getD 0 < is[i + 1]?.getD 0)
  rw [show (0 + (i : Int)).toNat = i by omega, Bool.eq_iff_iff]
  simp

section
variable {P : Program} {w : World} {K : PySem.W.Frag} {mg : Str → Option Value} {base : Heap}
theorem ok__law_is_row (c : Tx K w mg) : FnOk P w K mg base (L2.CX P w) 3 (He.ga K "_law_is_row") (fdOf K (He.ga K "_law_is_row")) ["_law_row"] (lift K (fun _ xs Q _ => ∃ d, xs = [.d d] ∧ Ft d ∧ Q (.d (.bool (ledRow d)))) 1) := by
  refine fn_ok c.fd__law_is_row sc__law_is_row rfl fun cdv A outer s I H E R hr => ⟨_, _, (dss_cons flat_of (ds_if (dw_or (dt_not (dt_val (de_callB call_isi (cd_isi rfl) (by rfl) c.f_isinstance b_isinstance (da_cons (de_var (pv 0)) (da_cons (de_ty (by rfl) c.f_tuple b_tuple) da_nil))))) (dw_or (dt_cmp (op_neX (hu64 hr)) (nomark _) (od_ne rfl) (de_callB call_len (cd_len rfl) (by rfl) c.f_len b_len (da_cons (de_var (pv 0)) da_nil)) de_int) (dw_or (dt_not (dt_val (de_fnC (ok__law_is_name c) (hr.mono (by decide)) (by rfl) c.g__law_is_name c.fd__law_is_name.kp (bd__law_is_name c) (takesC (takes_of rfl rfl rfl rfl)) rfl (da_cons (de_ix (de_var (pv 0)) de_int (fun _ _ => rfl) rfl) da_nil)))) (dw_or1 (dt_not (dt_val (de_fnC (ok__law_is_name c) (hr.mono (by decide)) (by rfl) c.g__law_is_name c.fd__law_is_name.kp (bd__law_is_name c) (takesC (takes_of rfl rfl rfl rfl)) rfl (da_cons (de_ix (de_var (pv 0)) de_int (fun _ _ => rfl) rfl) da_nil)))))))).dt (dss_one (ds_ret de_bl)) dss_nil)
      (dss_cons flat_of (ds_if (dw_or (dt_not (dt_val (de_fnC (ok__law_is_share c) (hr.mono (by decide)) (by rfl) c.g__law_is_share c.fd__law_is_share.kp (bd__law_is_share c) (takesC (takes_of rfl rfl rfl rfl)) rfl (da_cons (de_ix (de_var (pv 0)) de_int (fun _ _ => rfl) rfl) (da_cons de_bl da_nil))))) (dw_or (dt_not (dt_val (de_fnC (ok__law_is_share c) (hr.mono (by decide)) (by rfl) c.g__law_is_share c.fd__law_is_share.kp (bd__law_is_share c) (takesC (takes_of rfl rfl rfl rfl)) rfl (da_cons (de_ix (de_var (pv 0)) de_int (fun _ _ => rfl) rfl) (da_cons de_bl da_nil))))) (dw_or1 (dt_not (dt_val (de_callB call_isi (cd_isi rfl) (by rfl) c.f_isinstance b_isinstance (da_cons (de_ix (de_var (pv 0)) de_int (fun _ _ => rfl) rfl) (da_cons (de_ty (by rfl) c.f_tuple b_tuple) da_nil)))))))).dt (dss_one (ds_ret de_bl)) dss_nil)
      (dss_cons flat_of (ds_if (dt_cmp (op_neX (hu64 hr)) (nomark _) (od_ne rfl) (de_lc (own := [("_law_one", 1)]) rfl sc__law_is_row.nd (di_any (de_ix (de_var (pv 0)) de_int (fun _ _ => rfl) rfl) rfl) (blkOk_by (N := ["_law_row", "_law_one", "_law_at"]) (sc := defScope (top 49)) (by decide +kernel)) (fun _ _ _ _ _ => (dg_name (i := 1) sc__law_is_row.nd rfl (by first | exact .inl rfl | exact .inr rfl))) (fun _ _ _ _ _ => (dts_one (dt_not (dt_val (de_fnC (ok__law_is_between c) (hr.mono (by decide)) (by rfl) c.g__law_is_between c.fd__law_is_between.kp (bd__law_is_between c) takesC0 rfl (da_cons (de_var (pv 1)) (da_cons de_int (da_cons de_non da_nil)))))))) (fun _ _ _ _ _ => (de_var (pv 1))) (tgt_name (by decide)) s) (de_lst da_nil)) (dss_one (ds_ret de_bl)) dss_nil)
      (dss_one (ds_ret (de_cmp (op_eqX (hu64 hr)) (nomark _) (od_eq rfl) (de_lc (own := [("_law_at", 2)]) rfl sc__law_is_row.nd (di_range1 (by rfl) c.f_range (da_cons (de_op op_subX od_sub (de_callB call_len (cd_len rfl) (by rfl) c.f_len b_len (da_cons (de_ix (de_var (pv 0)) de_int (fun _ _ => rfl) rfl) da_nil)) de_int) da_nil)) (blkOk_by (N := ["_law_row", "_law_one", "_law_at"]) (sc := defScope (top 49)) (by decide +kernel)) (fun _ _ _ _ _ => (dg_name (i := 2) sc__law_is_row.nd rfl (by first | exact .inl rfl | exact .inr rfl))) (fun _ _ _ _ _ => (dts_one (dt_cmp op_ge (nomark _) od_intB (de_ix (de_ix (de_var (pv 0)) de_int (fun _ _ => rfl) rfl) (de_var (pv 2)) (fun _ _ => rfl) rfl) (de_ix (de_ix (de_var (pv 0)) de_int (fun _ _ => rfl) rfl) (de_op op_cat' (od_add rfl) (de_var (pv 2)) de_int) (fun _ _ => rfl) rfl)))) (fun _ _ _ _ _ => (de_var (pv 2))) (tgt_name (by decide)) s) (de_lst da_nil))))))), fun xs Qd Ed hl h => ?_⟩
  obtain ⟨d, rfl, hf, h⟩ := h
  have out : ledRow d = false → Qd (.d (.bool false)) := fun e => qB (Q := Qd) h e
  refine ⟨d, rfl, .inr (.inr (.inr (.inr rfl))), ?_⟩
  cases d with
  | tuple ds =>
    refine bKG (fun _ => ?_) fun b => (by cases b)
    refine ifF ?_
    refine ⟨.inl rfl, ?_⟩
    refine bKG (fun b1 => out (no_true fun e => ?_)) fun b1 => ?_
    · obtain ⟨ds', e2, l⟩ := ledRow_five e
      cases e2
      rw [eqv_int, l] at b1
      exact absurd b1 (by decide)
    have e1 : ds.length = 5 := by
      rw [eqv_int, Bool.not_eq_false', beq_iff_eq] at b1
      omega
    match ds, e1 with
    | [g, o, sh, aw, n], _ =>
      have hi := hf.tup.2
      refine ifF ?_
      refine notT_t ⟨g, at0, rfl, nn1, g, rfl, (fun z e => by subst e; exact (hi _ (by simp)).nm), ?_⟩
      refine bKG (fun b2 => ?_) fun b2 => out (no_true fun e => absurd (b2.symm.trans (ledRow_parts e).1) (by decide))
      refine ifF ?_
      refine notT_t ⟨o, at1', rfl, nn1, o, rfl, (fun z e => by subst e; exact (hi _ (by simp)).nm), ?_⟩
      refine bKG (fun b3 => ?_) fun b3 => out (no_true fun e => absurd (b3.symm.trans (ledRow_parts e).2.1) (by decide))
      refine ifF ?_
      dsimp only [dNext]
      refine ⟨sh, atI_nat (j := 2) rfl, rfl, nn2, sh, true, rfl, (hi sh (by simp)).f, ?_⟩
      refine bKG (fun b4 => ?_) fun b4 => out (no_true fun e => ?_)
      · rw [shareB_half, Bool.and_eq_true] at b4
        refine ifF ?_
        refine notT_t ⟨aw, atI_nat (j := 3) rfl, rfl, nn2, aw, false, rfl, (hi aw (by simp)).f, ?_⟩
        refine bKG (fun b6 => ?_) fun b6 => out (no_true fun e => ?_)
        · rw [shareB_all] at b6
          refine ifF ?_
          refine notT_t ⟨n, atI_nat (j := 4) rfl, n, rfl, .inr (.inr (.inr (.inr rfl))), ?_⟩
          cases n with
          | tuple ns =>
            have hn := (hi (.tuple ns) (by simp)).tup
            refine bKG (fun _ => ?_) fun b => (by cases b)
            refine ifF ?_
            dsimp only [dNext]
            refine ⟨_, atI_nat (j := 4) rfl, trivial, lcGo_filter (p := fun x => !isInt1 x) (fun x hx KK kk => ⟨rfl, nn3, x, 1, none, rfl, kk⟩) ?_⟩
            rw [List.nil_append]
            refine ⟨Nat.zero_le _, .inr ⟨shaped_list fun x hx => hn.2 x (List.mem_filter.mp hx).1, shaped_nil⟩, ?_⟩
            have ef := filter_ne (p := isInt1) (xs := ns)
            refine bKG (fun b7 => out (no_true fun e => ?_)) fun b7 => ?_
            · obtain ⟨_, _, _, _, _, ns2, e2, al, _⟩ := ledRow_parts e
              cases e2
              have b7 := ef.symm.trans b7
              rw [al] at b7
              cases b7
            have b7 := ef.symm.trans b7
            rw [Bool.not_eq_false'] at b7
            obtain ⟨is, rfl, al⟩ := ints_inv b7
            refine ifF ?_
            dsimp only [dNext]
            have le : is.length ≤ 60 := by
              have z := hn.1
              rwa [List.length_map] at z
            have len : (is.map PyData.int).length = is.length := List.length_map _
            refine ⟨_, atI_nat (j := 4) rfl, trivial, Int.le_trans (show (((is.map PyData.int).length : Nat) : Int) - 1 ≤ 60 by omega) (by decide), (show -(2 : Int) ^ 62 ≤ (((is.map PyData.int).length : Nat) : Int) - 1 by omega), ?_⟩
            show lcGo _ (rangeD 0 ((((is.map PyData.int).length : Nat) : Int) - 1).toNat) [] _
            have en : ((((is.map PyData.int).length : Nat) : Int) - 1).toNat = is.length - 1 := by omega
            rw [en]
            refine lcGo_filter (p := fun d => match d with | .int i => decide (is[i.toNat + 1]?.getD 0 ≤ is[i.toNat]?.getD 0) | _ => false) (fun x hx KK kk => ?_) ?_
            · obtain ⟨i, hi', rfl⟩ := List.mem_map.mp hx
              have lt := List.mem_range.mp hi'
              have e0 : (0 + (i : Int)).toNat = i := by omega
              have kk : if decide (is[(0 + (i : Int)).toNat + 1]?.getD 0 ≤ is[(0 + (i : Int)).toNat]?.getD 0) = true then KK (some (.int (0 + (i : Int)))) else KK none := kk
              rw [e0] at kk
              exact ⟨_, atI_nat (j := 4) rfl, _, atI_map (i := i) (by omega) (by omega), _, atI_nat (j := 4) rfl, _, atI_map (i := i + 1) (by omega) (by omega), kk⟩
            rw [List.nil_append]
            have fr := falls_range is
            refine ⟨Nat.zero_le _, .inr ⟨shaped_list fun x hx => ?_, shaped_nil⟩, ?_⟩
            · obtain ⟨i, hi', rfl⟩ := List.mem_map.mp (List.mem_filter.mp hx).1
              have lt := List.mem_range.mp hi'
              exact ⟨by simp only [fitN, decide_eq_true_eq]; omega, by show (0 : Nat) ≤ 40; decide⟩
            · refine qB (Q := Qd) h ?_
              show ledRow _ = PyData.eqv (.list _) (.list [])
              rw [eqv_nil]
              refine Eq.trans ?_ fr.symm
              simp only [ledRow, b2, b3, b4.1, b4.2, b6, b7, Bool.true_and]
          | _ =>
            exact out (no_true fun e => by obtain ⟨_, _, _, _, _, ns, e2, _⟩ := ledRow_parts e; cases e2)
        · rw [shareB_all, (ledRow_parts e).2.2.2.2.1] at b6
          cases b6
      · rw [shareB_half, (ledRow_parts e).2.2.1, (ledRow_parts e).2.2.2.1] at b4
        cases b4
  | _ => exact h

end
end K85
set_option Elab.async false
set_option linter.all false
set_option maxRecDepth 100000
set_option maxHeartbeats 4000000
namespace K85
open PySem PySem.Spec PyProof.Rows L2 PD DW DX
theorem many_filter (ws : List Str) : ((ws.map PyData.str).filter fun d => match d with | .str g => decide ((3 : Int) < ((ws.count g : Nat) : Int)) | _ => false).isEmpty = ws.all (fun g => decide (ws.count g ≤ 3)) := by
  rw [filter_none, List.all_map]
  refine List.all_congr rfl fun g => ?_
  show (!decide ((3 : Int) < ((ws.count g : Nat) : Int))) = _
  rw [Bool.eq_iff_iff]
  simp only [Bool.not_eq_true', decide_eq_false_iff_not, decide_eq_true_eq]
  omega
theorem wordOk_len {m : Int} {z : Str} (h : wordOk m z = true) : ((z.length : Nat) : Int) ≤ m := by
  simp only [wordOk, Bool.and_eq_true, decide_eq_true_eq] at h
  exact h.2.1

section
variable {P : Program} {w : World} {K : PySem.W.Frag} {mg : Str → Option Value} {base : Heap}
theorem ok__law_are_rows (c : Tx K w mg) : FnOk P w K mg base (L2.CX P w) 4 (He.ga K "_law_are_rows") (fdOf K (He.ga K "_law_are_rows")) ["_law_some"] (lift K (fun _ xs Q _ => ∃ d, xs = [.d d] ∧ Ft d ∧ Q (.d (.bool (ledRows d)))) 1) := by
  refine fn_ok c.fd__law_are_rows sc__law_are_rows rfl fun cdv A outer s I H E R hr => ⟨_, _, (dss_cons flat_of (ds_if (dw_or (dt_not (dt_val (de_isi2 (de_var (pv 0)) rfl (by rfl) c.f_isinstance (pe_bltn (by rfl) c.f_list b_list rfl) (pe_bltn (by rfl) c.f_tuple b_tuple rfl)))) (dw_or (dt_cmp (op_eqX (hu64 hr)) (nomark _) (od_eq rfl) (de_callB call_len (cd_len rfl) (by rfl) c.f_len b_len (da_cons (de_var (pv 0)) da_nil)) de_int) (dw_or1 (dt_cmp (op_neX (hu64 hr)) (nomark _) (od_ne rfl) (de_lc (own := [("_law_row", 1)]) rfl sc__law_are_rows.nd (di_any (de_var (pv 0)) rfl) (blkOk_by (N := ["_law_some", "_law_row", "_law_titles", "_law_pairs", "_law_title"]) (sc := defScope (top 50)) (by decide +kernel)) (fun _ _ _ _ _ => (dg_name (i := 1) sc__law_are_rows.nd rfl (by first | exact .inl rfl | exact .inr rfl))) (fun _ _ _ _ _ => (dts_one (dt_not (dt_val (de_fnC (ok__law_is_row c) (hr.mono (by decide)) (by rfl) c.g__law_is_row c.fd__law_is_row.kp (bd__law_is_row c) takesC0 rfl (da_cons (de_var (pv 1)) da_nil)))))) (fun _ _ _ _ _ => (de_var (pv 1))) (tgt_name (by decide)) s) (de_lst da_nil))))).dt (dss_one (ds_ret de_bl)) dss_nil)
      (dss_cons flat_of (ds_asg (de_tup (da_cons (de_lc (own := [("_law_row", 1)]) rfl sc__law_are_rows.nd (di_any (de_var (pv 0)) rfl) (blkOk_by (N := ["_law_some", "_law_row", "_law_titles", "_law_pairs", "_law_title"]) (sc := defScope (top 50)) (by decide +kernel)) (fun _ _ _ _ _ => (dg_name (i := 1) sc__law_are_rows.nd rfl (by first | exact .inl rfl | exact .inr rfl))) (fun _ _ _ _ _ => dts_nil) (fun _ _ _ _ _ => (de_ix (de_var (pv 1)) de_int (fun _ _ => rfl) rfl)) (tgt_name (by decide)) s) (da_cons (de_lc (own := [("_law_row", 1)]) rfl sc__law_are_rows.nd (di_any (de_var (pv 0)) rfl) (blkOk_by (N := ["_law_some", "_law_row", "_law_titles", "_law_pairs", "_law_title"]) (sc := defScope (top 50)) (by decide +kernel)) (fun _ _ _ _ _ => (dg_name (i := 1) sc__law_are_rows.nd rfl (by first | exact .inl rfl | exact .inr rfl))) (fun _ _ _ _ _ => dts_nil) (fun _ _ _ _ _ => (de_slice (de_var (pv 1)) do_none (do_some de_int) rfl)) (tgt_name (by decide)) s) da_nil))) (dg_tup (n := 2) rfl (dgs_cons (dg_name (i := 2) sc__law_are_rows.nd rfl (by first | exact .inl rfl | exact .inr rfl)) (dgs_cons (dg_name (i := 3) sc__law_are_rows.nd rfl (by first | exact .inl rfl | exact .inr rfl)) dgs_nil)) rfl))
      (dss_cons flat_of (ds_if (dw_or (dt_cmp (op_neX (hu64 hr)) (nomark _) (od_ne rfl) (de_var (pv 2)) (de_callB cr_sortedS (cd_sortedS rfl) (by rfl) c.f_sorted b_sorted (da_cons (de_var (pv 2)) da_nil))) (dw_or1 (dt_cmp (op_neX (hu64 hr)) (nomark _) (od_ne rfl) (de_lenSetP rfl rfl (hu64 hr) (by rfl) c.f_len (by rfl) c.f_set (de_var (pv 3)) rfl) (de_callB call_len (cd_len rfl) (by rfl) c.f_len b_len (da_cons (de_var (pv 3)) da_nil))))).dt (dss_one (ds_ret de_bl)) dss_nil)
      (dss_one (ds_ret (de_cmp (op_eqX (hu64 hr)) (nomark _) (od_eq rfl) (de_lc (own := [("_law_title", 4)]) rfl sc__law_are_rows.nd (di_any (de_var (pv 2)) rfl) (blkOk_by (N := ["_law_some", "_law_row", "_law_titles", "_law_pairs", "_law_title"]) (sc := defScope (top 50)) (by decide +kernel)) (fun _ _ _ _ _ => (dg_name (i := 4) sc__law_are_rows.nd rfl (by first | exact .inl rfl | exact .inr rfl))) (fun _ _ _ _ _ => (dts_one (dt_cmp op_gt (nomark _) od_intB (de_meth (md_count rfl) (de_var (pv 2)) (da_cons (de_var (pv 4)) da_nil) rfl (fun q q' => pe_bm PySem.F.plainAttrs_list PySem.F.slot_list_count PySem.F.type_list_count (mt_countS) q q')) de_int))) (fun _ _ _ _ _ => (de_var (pv 4))) (tgt_name (by decide)) s) (de_lst da_nil))))))), fun xs Qd Ed hl h => ?_⟩
  obtain ⟨d, rfl, hf, h⟩ := h
  have out : ledRows d = false → Qd (.d (.bool false)) := fun e => qB (Q := Qd) h e
  refine ⟨d, rfl, .inr (.inr (.inr (.inl rfl))), .inr (.inr (.inr (.inr rfl))), ?_⟩
  cases d with
  | list ds =>
    have hi := hf.lst.2
    have le := hf.lst.1
    refine bKG (fun _ => ?_) fun b => (by cases b)
    refine ifF ?_
    refine ⟨ds, rfl, .inl rfl, ?_⟩
    refine bKG (fun b1 => out (no_true fun e => ?_)) fun b1 => ?_
    · rw [eqv_int, beq_iff_eq] at b1
      have z : ds = [] := List.length_eq_zero_iff.mp (by omega)
      subst z
      cases e
    refine ifF ?_
    refine ⟨trivial, lcGo_filter (p := fun x => !ledRow x) (fun x hx KK kk => ⟨rfl, nn1, x, rfl, hi x hx, kk⟩) ?_⟩
    rw [List.nil_append]
    refine ⟨Nat.zero_le _, .inr ⟨shaped_list fun x hx => hi x (List.mem_filter.mp hx).1, shaped_nil⟩, ?_⟩
    have ef := filter_ne (p := ledRow) (xs := ds)
    refine bKG (fun b2 => out (no_true fun e => ?_)) fun b2 => ?_
    · have e : rowsOk ds = true := e
      unfold rowsOk at e
      simp only [Bool.and_eq_true] at e
      have b2 := ef.symm.trans b2
      rw [e.1.1.2] at b2
      cases b2
    have b2 := ef.symm.trans b2
    rw [Bool.not_eq_false'] at b2
    obtain ⟨rs, rfl, al⟩ := rows_inv b2
    rw [List.length_map] at le
    have ne : rs ≠ [] := fun e => by
      subst e
      rw [eqv_int] at b1
      cases b1
    have fin := rowsOk_eq rs al ne
    have so : ∀ x ∈ rs.map (fun r : Rw => r.g), PyData.strOk x = true := fun x hx => by
      obtain ⟨r, hr, rfl⟩ := List.mem_map.mp hx
      exact wordOk_strOk (al r hr).g
    refine ifF ?_
    dsimp only [dNext]
    have et : (rs.map fun r : Rw => PyData.str r.g) = (rs.map fun r : Rw => r.g).map .str := by rw [List.map_map]; rfl
    have ep : (rs.map fun r : Rw => PyData.tuple [.str r.g, .str r.o]) = (rs.map fun r : Rw => [r.g, r.o]).map PD.pairD := by rw [List.map_map]; rfl
    refine ⟨trivial, lcGo_map (f := fun r : Rw => .str r.g) (fun r hr KK kk => ⟨_, at0, kk⟩) ?_⟩
    rw [List.nil_append, et]
    refine ⟨trivial, lcGo_map (f := fun r : Rw => .tuple [.str r.g, .str r.o]) (fun r hr KK kk => kk) ?_⟩
    rw [List.nil_append, ep]
    refine ⟨(show 2 ≤ sizeLine by decide), rfl, ?_⟩
    dsimp only [dGCons, dGNil]
    refine setG (δ' := [some (.d (.list (rs.map Rw.data))), none, some (.d (.list ((rs.map fun r : Rw => r.g).map .str))), none, none]) rfl ?_
    refine setG (δ' := [some (.d (.list (rs.map Rw.data))), none, some (.d (.list ((rs.map fun r : Rw => r.g).map .str))), some (.d (.list ((rs.map fun r : Rw => [r.g, r.o]).map PD.pairD))), none]) rfl ?_
    refine ⟨rfl, ?_⟩
    refine ⟨_, rs.map (fun r : Rw => r.g), rfl, rfl, by rw [List.length_map]; omega, fun ys pm sy => ?_⟩
    have sy' : ∀ x ∈ ys, PyData.strOk x = true := fun x hx => so x (pm.mem_iff.mp hx)
    refine ⟨.inr ⟨shaped_strs so, shaped_strs sy'⟩, ?_⟩
    have eb := sorted_ne pm sy
    refine bKG (fun b3 => out ?_) fun b3 => ?_
    · have b3 := eb.symm.trans b3
      rw [Bool.not_eq_true'] at b3
      show rowsOk _ = false
      rw [fin, b3]
      rfl
    have b3 := eb.symm.trans b3
    rw [Bool.not_eq_false'] at b3
    refine ifF ?_
    refine ⟨rs.map (fun r : Rw => [r.g, r.o]), rfl, by rw [List.length_map]; omega, _, rfl, .inl rfl, ?_⟩
    have fu := insAll_full (rs.map fun r : Rw => [r.g, r.o])
    have ed : (!PyData.eqv (.int ((SX.insAll (rs.map fun r : Rw => [r.g, r.o])).length : Nat)) (.int (((rs.map fun r : Rw => [r.g, r.o]).map PD.pairD).length : Nat))) = !decide ((rs.map fun r : Rw => [r.g, r.o]).Nodup) := by
      refine congrArg (!·) ?_
      rw [eqv_int, Bool.eq_iff_iff, beq_iff_eq, decide_eq_true_eq, ← fu, List.length_map]
      omega
    refine bKG (fun b5 => out ?_) fun b5 => ?_
    · have b5 := ed.symm.trans b5
      rw [Bool.not_eq_true'] at b5
      show rowsOk _ = false
      rw [fin, b5, Bool.and_false]
    have b5 := ed.symm.trans b5
    rw [Bool.not_eq_false'] at b5
    refine ifF ?_
    dsimp only [dNext]
    refine ⟨trivial, lcGo_filter (p := fun d => match d with | .str g => decide ((3 : Int) < (((rs.map fun r : Rw => r.g).count g : Nat) : Int)) | _ => false) (fun x hx KK kk => ?_) ?_⟩
    · obtain ⟨g, hg, rfl⟩ := List.mem_map.mp hx
      exact ⟨⟨rfl, _, rfl⟩, rs.map (fun r : Rw => r.g), g, rfl, rfl, kk⟩
    rw [List.nil_append]
    have mf := many_filter (rs.map fun r : Rw => r.g)
    refine ⟨Nat.zero_le _, .inr ⟨shaped_list fun x hx => ?_, shaped_nil⟩, ?_⟩
    · obtain ⟨g, hg, rfl⟩ := List.mem_map.mp (List.mem_filter.mp hx).1
      obtain ⟨r, hr, rfl⟩ := List.mem_map.mp hg
      have wl := wordOk_len (al r hr).g
      exact ⟨by simp only [fitN, Bool.and_eq_true, decide_eq_true_eq]; exact ⟨by omega, so _ hg⟩, by show (0 : Nat) ≤ 40; decide⟩
    · refine qB (Q := Qd) h ?_
      show rowsOk _ = PyData.eqv (.list _) (.list [])
      rw [eqv_nil, fin, b3, b5, Bool.true_and, Bool.and_true]
      exact mf.symm
  | tuple ds =>
    have hi := hf.tup.2
    have le := hf.tup.1
    refine bKG (fun _ => ?_) fun b => (by cases b)
    refine ifF ?_
    refine ⟨.inl rfl, ?_⟩
    refine bKG (fun b1 => out (no_true fun e => ?_)) fun b1 => ?_
    · rw [eqv_int, beq_iff_eq] at b1
      have z : ds = [] := List.length_eq_zero_iff.mp (by omega)
      subst z
      cases e
    refine ifF ?_
    refine ⟨trivial, lcGo_filter (p := fun x => !ledRow x) (fun x hx KK kk => ⟨rfl, nn1, x, rfl, hi x hx, kk⟩) ?_⟩
    rw [List.nil_append]
    refine ⟨Nat.zero_le _, .inr ⟨shaped_list fun x hx => hi x (List.mem_filter.mp hx).1, shaped_nil⟩, ?_⟩
    have ef := filter_ne (p := ledRow) (xs := ds)
    refine bKG (fun b2 => out (no_true fun e => ?_)) fun b2 => ?_
    · have e : rowsOk ds = true := e
      unfold rowsOk at e
      simp only [Bool.and_eq_true] at e
      have b2 := ef.symm.trans b2
      rw [e.1.1.2] at b2
      cases b2
    have b2 := ef.symm.trans b2
    rw [Bool.not_eq_false'] at b2
    obtain ⟨rs, rfl, al⟩ := rows_inv b2
    rw [List.length_map] at le
    have ne : rs ≠ [] := fun e => by
      subst e
      rw [eqv_int] at b1
      cases b1
    have fin := rowsOk_eq rs al ne
    have so : ∀ x ∈ rs.map (fun r : Rw => r.g), PyData.strOk x = true := fun x hx => by
      obtain ⟨r, hr, rfl⟩ := List.mem_map.mp hx
      exact wordOk_strOk (al r hr).g
    refine ifF ?_
    dsimp only [dNext]
    have et : (rs.map fun r : Rw => PyData.str r.g) = (rs.map fun r : Rw => r.g).map .str := by rw [List.map_map]; rfl
    have ep : (rs.map fun r : Rw => PyData.tuple [.str r.g, .str r.o]) = (rs.map fun r : Rw => [r.g, r.o]).map PD.pairD := by rw [List.map_map]; rfl
    refine ⟨trivial, lcGo_map (f := fun r : Rw => .str r.g) (fun r hr KK kk => ⟨_, at0, kk⟩) ?_⟩
    rw [List.nil_append, et]
    refine ⟨trivial, lcGo_map (f := fun r : Rw => .tuple [.str r.g, .str r.o]) (fun r hr KK kk => kk) ?_⟩
    rw [List.nil_append, ep]
    refine ⟨(show 2 ≤ sizeLine by decide), rfl, ?_⟩
    dsimp only [dGCons, dGNil]
    refine setG (δ' := [some (.d (.tuple (rs.map Rw.data))), none, some (.d (.list ((rs.map fun r : Rw => r.g).map .str))), none, none]) rfl ?_
    refine setG (δ' := [some (.d (.tuple (rs.map Rw.data))), none, some (.d (.list ((rs.map fun r : Rw => r.g).map .str))), some (.d (.list ((rs.map fun r : Rw => [r.g, r.o]).map PD.pairD))), none]) rfl ?_
    refine ⟨rfl, ?_⟩
    refine ⟨_, rs.map (fun r : Rw => r.g), rfl, rfl, by rw [List.length_map]; omega, fun ys pm sy => ?_⟩
    have sy' : ∀ x ∈ ys, PyData.strOk x = true := fun x hx => so x (pm.mem_iff.mp hx)
    refine ⟨.inr ⟨shaped_strs so, shaped_strs sy'⟩, ?_⟩
    have eb := sorted_ne pm sy
    refine bKG (fun b3 => out ?_) fun b3 => ?_
    · have b3 := eb.symm.trans b3
      rw [Bool.not_eq_true'] at b3
      show rowsOk _ = false
      rw [fin, b3]
      rfl
    have b3 := eb.symm.trans b3
    rw [Bool.not_eq_false'] at b3
    refine ifF ?_
    refine ⟨rs.map (fun r : Rw => [r.g, r.o]), rfl, by rw [List.length_map]; omega, _, rfl, .inl rfl, ?_⟩
    have fu := insAll_full (rs.map fun r : Rw => [r.g, r.o])
    have ed : (!PyData.eqv (.int ((SX.insAll (rs.map fun r : Rw => [r.g, r.o])).length : Nat)) (.int (((rs.map fun r : Rw => [r.g, r.o]).map PD.pairD).length : Nat))) = !decide ((rs.map fun r : Rw => [r.g, r.o]).Nodup) := by
      refine congrArg (!·) ?_
      rw [eqv_int, Bool.eq_iff_iff, beq_iff_eq, decide_eq_true_eq, ← fu, List.length_map]
      omega
    refine bKG (fun b5 => out ?_) fun b5 => ?_
    · have b5 := ed.symm.trans b5
      rw [Bool.not_eq_true'] at b5
      show rowsOk _ = false
      rw [fin, b5, Bool.and_false]
    have b5 := ed.symm.trans b5
    rw [Bool.not_eq_false'] at b5
    refine ifF ?_
    dsimp only [dNext]
    refine ⟨trivial, lcGo_filter (p := fun d => match d with | .str g => decide ((3 : Int) < (((rs.map fun r : Rw => r.g).count g : Nat) : Int)) | _ => false) (fun x hx KK kk => ?_) ?_⟩
    · obtain ⟨g, hg, rfl⟩ := List.mem_map.mp hx
      exact ⟨⟨rfl, _, rfl⟩, rs.map (fun r : Rw => r.g), g, rfl, rfl, kk⟩
    rw [List.nil_append]
    have mf := many_filter (rs.map fun r : Rw => r.g)
    refine ⟨Nat.zero_le _, .inr ⟨shaped_list fun x hx => ?_, shaped_nil⟩, ?_⟩
    · obtain ⟨g, hg, rfl⟩ := List.mem_map.mp (List.mem_filter.mp hx).1
      obtain ⟨r, hr, rfl⟩ := List.mem_map.mp hg
      have wl := wordOk_len (al r hr).g
      exact ⟨by simp only [fitN, Bool.and_eq_true, decide_eq_true_eq]; exact ⟨by omega, so _ hg⟩, by show (0 : Nat) ≤ 40; decide⟩
    · refine qB (Q := Qd) h ?_
      show rowsOk _ = PyData.eqv (.list _) (.list [])
      rw [eqv_nil, fin, b3, b5, Bool.true_and, Bool.and_true]
      exact mf.symm
  | _ => exact h

end
end K85
set_option Elab.async false
set_option linter.all false
set_option maxRecDepth 100000
set_option maxHeartbeats 4000000
namespace K85
open PySem PySem.Spec PyProof.Rows L2 PD DW DX
theorem addI {i j : Int} {Q : DK} {E : EK} (h : Q (.d (.int (i + j)))) : oAdd (.d (.int i)) (.d (.int j)) Q E := h

section
variable {P : Program} {w : World} {K : PySem.W.Frag} {mg : Str → Option Value} {base : Heap}
theorem ok__law_gained (c : Tx K w mg) : FnOk P w K mg base (L2.CX P w) 1 (He.ga K "_law_gained") (fdOf K (He.ga K "_law_gained")) ["_law_some", "_law_k_here"] (lift K (fun _ xs Q _ => ∃ (d : PyData) (rs : List Rw) (k : Int), xs = [.d d, .d (.int k)] ∧ isSeqOf d (rs.map Rw.data) ∧ (∀ r ∈ rs, r.ok ∧ r.small) ∧ rs.length ≤ 60 ∧ B 10 k ∧ Q (.d (.int (gain (rs.map Rw.data) k)))) 2) := by
  refine fn_ok c.fd__law_gained sc__law_gained rfl fun cdv A outer s I H E R hr => ⟨_, _, (dss_cons flat_of (ds_asg (de_tup (da_cons de_int (da_cons de_int da_nil))) (dg_tup (n := 2) rfl (dgs_cons (dg_name (i := 2) sc__law_gained.nd rfl (by first | exact .inl rfl | exact .inr rfl)) (dgs_cons (dg_name (i := 3) sc__law_gained.nd rfl (by first | exact .inl rfl | exact .inr rfl)) dgs_nil)) rfl))
      (dss_cons flat_of (ds_for flat_of (passes_of rfl) rfl (di_any (de_var (pv 0)) rfl) (dg_name (i := 4) sc__law_gained.nd rfl (by first | exact .inl rfl | exact .inr rfl)) (dss_cons flat_of (ds_par (i := 5) (j := 6) rfl sc__law_gained.nd rfl rfl (by decide) rfl rfl (da_cons (de_ix (de_var (pv 4)) de_int (fun _ _ => rfl) rfl) (da_cons (de_ix (de_var (pv 4)) de_int (fun _ _ => rfl) rfl) da_nil)) rfl)
      (dss_cons flat_of (ds_set (i := 7) sc__law_gained.nd rfl (by first | exact .inl rfl | exact .inr rfl) (de_op op_subX od_sub (de_op op_mul' od_mul (de_ix (de_var (pv 5)) de_int (fun _ _ => rfl) rfl) (de_ix (de_var (pv 6)) de_int (fun _ _ => rfl) rfl)) (de_op op_mul' od_mul (de_ix (de_var (pv 6)) de_int (fun _ _ => rfl) rfl) (de_ix (de_var (pv 5)) de_int (fun _ _ => rfl) rfl))))
      (dss_cons flat_of (ds_set (i := 2) sc__law_gained.nd rfl (by first | exact .inl rfl | exact .inr rfl) (de_op op_cat' (od_add rfl) (de_op op_mul' od_mul (de_op op_mul' od_mul (de_var (pv 2)) (de_ix (de_var (pv 5)) de_int (fun _ _ => rfl) rfl)) (de_ix (de_var (pv 6)) de_int (fun _ _ => rfl) rfl)) (de_op op_mul' od_mul (de_var (pv 3)) (de_var (pv 7)))))
      (dss_one (ds_set (i := 3) sc__law_gained.nd rfl (by first | exact .inl rfl | exact .inr rfl) (de_op op_mul' od_mul (de_op op_mul' od_mul (de_var (pv 3)) (de_ix (de_var (pv 5)) de_int (fun _ _ => rfl) rfl)) (de_ix (de_var (pv 6)) de_int (fun _ _ => rfl) rfl))))))))
      (dss_one (ds_ret (de_op op_fdivW od_int (de_op op_cat' (od_add rfl) (de_op op_mul' od_mul (de_op op_mul' od_mul de_int (de_var (pv 1))) (de_var (pv 2))) (de_var (pv 3))) (de_op op_mul' od_mul de_int (de_var (pv 3)))))))), fun xs Qd Ed hl h => ?_⟩
  obtain ⟨d, rs, k, rfl, hd, al, len, hk, h⟩ := h
  refine ⟨(show 2 ≤ sizeLine by decide), rfl, ?_⟩
  dsimp only [dGCons, dGNil]
  refine setG (δ' := [some (.d d), some (.d (.int k)), some (.d (.int 0)), none, none, none, none, none]) rfl ?_
  refine setG (δ' := [some (.d d), some (.d (.int k)), some (.d (.int 0)), some (.d (.int 1)), none, none, none, none]) rfl ?_
  refine ⟨rfl, ?_⟩
  obtain ⟨e1, e2⟩ := seq_any hd
  refine ⟨e1, ?_⟩
  rw [e2]
  dsimp only
  refine forGo_inv (fun ds δ => ∃ (qs : List Rw) (n : Nat) (acc : Int × Int) (x4 x5 x6 x7 : Option DV), ds = qs.map Rw.data ∧ (∀ r ∈ qs, r.ok ∧ r.small) ∧ n + qs.length = rs.length ∧ Gs n acc ∧ (qs.map Rw.data).foldl gainStep acc = (rs.map Rw.data).foldl gainStep (0, 1) ∧ δ = [some (.d d), some (.d (.int k)), some (.d (.int acc.1)), some (.d (.int acc.2)), x4, x5, x6, x7]) ?_ ?_ _ _ ⟨rs, 0, (0, 1), none, none, none, none, rfl, al, by omega, Gs.zero, rfl, rfl⟩
  · rintro y ds _ ⟨qs, n, acc, x4, x5, x6, x7, eq, qal, ln, gs, ef, rfl⟩ N hN
    match qs, eq with
    | r :: qs, eq =>
    cases eq
    obtain ⟨ok, sm⟩ := qal r List.mem_cons_self
    rw [List.length_cons] at ln
    obtain ⟨b1, b2, b3, b4⟩ := Rw.bits ok sm
    refine setG (δ' := [some (.d d), some (.d (.int k)), some (.d (.int acc.1)), some (.d (.int acc.2)), some (.d r.data), x5, x6, x7]) rfl ?_
    refine seqI (fun δ' => δ' = [some (.d d), some (.d (.int k)), some (.d (.int acc.1)), some (.d (.int acc.2)), some (.d r.data), some (.d (.tuple [.int r.s1, .int r.s2])), some (.d (.tuple [.int r.a1, .int r.a2])), x7]) ?_ fun N2 hN2 => ⟨_, atI_nat (j := 2) rfl, _, atI_nat (j := 3) rfl, hN2 _ rfl⟩
    rintro _ rfl
    have pt : B 104 (r.s1 * r.a2 - r.a1 * r.s2) := B.sub (n := 103) ((b1.mul b4).mono (by decide)) ((b3.mul b2).mono (by decide))
    refine ⟨_, at0, _, at1', b1.cmul b4 (by decide) (by decide) (by decide), _, at0, _, at1', b3.cmul b2 (by decide) (by decide) (by decide), trivial, ?_⟩
    refine setG (δ' := [some (.d d), some (.d (.int k)), some (.d (.int acc.1)), some (.d (.int acc.2)), some (.d r.data), some (.d (.tuple [.int r.s1, .int r.s2])), some (.d (.tuple [.int r.a1, .int r.a2])), some (.d (.int (r.s1 * r.a2 - r.a1 * r.s2)))]) rfl ?_
    have w1 := gs.a.mul b2
    have w2 := gs.b.mul b2
    refine ⟨_, at1', gs.a.cmul b2 (by omega) (by decide) (by omega), _, at1', w1.cmul b4 (by omega) (by decide) (by omega), gs.b.cmul pt (by omega) (by decide) (by omega), ?_⟩
    have hx : acc.1 * r.s2 * r.a2 + acc.2 * (r.s1 * r.a2 - r.a1 * r.s2) = (gainStep acc r.data).1 := by
      show _ = acc.1 * r.s2 * r.a2 + (r.s1 * r.a2 - r.a1 * r.s2) * acc.2
      rw [Int.mul_comm (r.s1 * r.a2 - r.a1 * r.s2) acc.2]
    refine addI ?_
    refine setG (δ' := [some (.d d), some (.d (.int k)), some (.d (.int (acc.1 * r.s2 * r.a2 + acc.2 * (r.s1 * r.a2 - r.a1 * r.s2)))), some (.d (.int acc.2)), some (.d r.data), some (.d (.tuple [.int r.s1, .int r.s2])), some (.d (.tuple [.int r.a1, .int r.a2])), some (.d (.int (r.s1 * r.a2 - r.a1 * r.s2)))]) rfl ?_
    refine ⟨_, at1', gs.b.cmul b2 (by omega) (by decide) (by omega), _, at1', w2.cmul b4 (by omega) (by decide) (by omega), ?_⟩
    refine hN _ ⟨qs, n + 1, gainStep acc r.data, _, _, _, _, rfl, fun q hq => qal q (List.mem_cons_of_mem _ hq), by omega, gs.next ok sm, ef, by rw [← hx]; rfl⟩
  · rintro _ ⟨qs, n, acc, x4, x5, x6, x7, eq, qal, ln, gs, ef, rfl⟩
    obtain rfl : qs = [] := by
      cases qs with
      | nil => rfl
      | cons _ _ => cases eq
    have ef : acc = (rs.map Rw.data).foldl gainStep (0, 1) := ef
    have hl : n ≤ 60 := by rw [List.length_nil] at ln; omega
    have t2 : B 2 (2 : Int) := by decide
    have k2 : B 12 (2 * k) := t2.mul hk
    refine ⟨t2.cmul hk (by decide) (by decide) (by decide), k2.cmul gs.a (by decide) (by omega) (by omega), t2.cmul gs.b (by decide) (by omega) (by omega), ⟨?_, ?_⟩, ?_⟩
    · have := gs.p
      show 0 < 2 * acc.2
      omega
    · exact (t2.mul gs.b).log (by omega) (by omega)
    · show Qd (.d (.int ((2 * k * acc.1 + acc.2) / (2 * acc.2))))
      rw [ef]
      exact h

theorem ok__law_k (c : Tx K w mg) : FnOk P w K mg base (L2.CX P w) 1 (He.ga K "_law_k") (fdOf K (He.ga K "_law_k")) ["_law_terms_here", "_law_many"] (lift K (fun _ xs Q _ => ∃ (t : DX.Tm) (many : Int), xs = [.d t.data, .d (.int many)] ∧ Q (.d (.int (kOf t.st t.kl many)))) 2) := by
  refine fn_ok c.fd__law_k sc__law_k rfl fun cdv A outer s I H E R hr => ⟨_, _, (dss_one (ds_ret (de_ix (de_lc (own := [("_law_games_of", 2), ("_law_k_here", 3)]) rfl sc__law_k.nd (di_any (de_ix (de_var (pv 0)) de_int (fun _ _ => rfl) rfl) rfl) (blkOk_by (N := ["_law_terms_here", "_law_many", "_law_games_of", "_law_k_here"]) (sc := defScope (top 45)) (by decide +kernel)) (fun _ _ _ _ _ => (dg_tup (n := 2) rfl (dgs_cons (dg_name (i := 2) sc__law_k.nd rfl (by first | exact .inl rfl | exact .inr rfl)) (dgs_cons (dg_name (i := 3) sc__law_k.nd rfl (by first | exact .inl rfl | exact .inr rfl)) dgs_nil)) rfl)) (fun _ _ _ _ _ => (dts_one (dw_or (dt_cmp op_isN (nomark _) od_isN (de_var (pv 2)) de_non) (dw_or1 (dt_cmp op_gt (nomark _) od_intB (de_var (pv 2)) (de_var (pv 1))))).dt)) (fun _ _ _ _ _ => (de_var (pv 3))) (tgt_tup (tgt_names (is := [2, 3]) (by decide)).1) s) de_int (fun _ _ => rfl) rfl))), fun xs Qd Ed hl h => ?_⟩
  obtain ⟨t, many, rfl, h⟩ := h
  obtain ⟨st, kl, eS, eK⟩ : ∃ st kl, t.st = st ∧ t.kl = kl := ⟨_, _, rfl, rfl⟩
  obtain ⟨r, er⟩ := kf_first kl many st
  rw [eS, eK] at h
  refine ⟨_, atI_nat (j := 2) rfl, trivial, ?_⟩
  show lcGo _ (stepsD t.st t.kl) [] _
  rw [eS, eK]
  refine lcGo_fm (f := kf many) (fun d hd KK kk => ?_) ?_
  · unfold stepsD at hd
    rcases List.mem_append.mp hd with hd | hd
    · obtain ⟨p, hp, rfl⟩ := List.mem_map.mp hd
      have kk : KK (if many < p.1 then some (.int p.2) else none) := kk
      refine ⟨rfl, ?_⟩
      dsimp only [dGCons, dGNil]
      refine setG (δ' := [some (.d t.data), some (.d (.int many)), some (.d (.int p.1)), none]) rfl ?_
      refine setG (δ' := [some (.d t.data), some (.d (.int many)), some (.d (.int p.1)), some (.d (.int p.2))]) rfl ?_
      refine ⟨rfl, nE, isN_bK (bKG (fun b => (by cases b)) fun _ => ?_)⟩
      refine ifF ?_
      refine intB_t (p := fun i j => decide (j < i)) (x := p.1) (y := many) (fun _ _ q => q) (fun _ _ q => q) ?_
      by_cases b : many < p.1
      · rw [if_pos b] at kk
        rw [decide_eq_true b, if_pos rfl]
        exact kk
      · rw [if_neg b] at kk
        rw [decide_eq_false b, if_neg (by decide)]
        exact kk
    · rw [List.mem_singleton.mp hd] at kk ⊢
      refine ⟨rfl, ?_⟩
      dsimp only [dGCons, dGNil]
      refine setG (δ' := [some (.d t.data), some (.d (.int many)), some (.d .none), none]) rfl ?_
      refine setG (δ' := [some (.d t.data), some (.d (.int many)), some (.d .none), some (.d (.int kl))]) rfl ?_
      refine ⟨rfl, nE, isN_bK ?_⟩
      exact kk
  rw [List.nil_append, er]
  exact ⟨_, _, rfl, at0, h⟩

end
end K85
set_option Elab.async false
set_option linter.all false
set_option maxRecDepth 100000
set_option maxHeartbeats 4000000
namespace K85
open PySem PySem.Spec PyProof.Rows L2 PD DW DX
theorem go_no {t : DX.Tm} {y : PyData} {ds : List PyData} {last st many : Int} (h : ledDay y last = false) : sumsGo t (y :: ds) last st many = false := by
  unfold sumsGo
  split
  · rw [h]
    rfl
  · rfl
theorem go_step (t : DX.Tm) (n a b : Int) (rows : PyData) (ds : List PyData) (last st many : Int) : sumsGo t (.tuple [.int n, .int a, .int b, rows] :: ds) last st many = (ledDay (.tuple [.int n, .int a, .int b, rows]) last && decide (a = st) && decide (b = max t.f (a + gain (rowList rows) (kOf t.st t.kl many))) && sumsGo t ds n b (many + many1 (rowList rows))) := rfl
theorem ledRows_inv {d : PyData} (h : ledRows d = true) : ∃ rs : List Rw, isSeqOf d (rs.map Rw.data) ∧ rowList d = rs.map Rw.data ∧ ∀ r ∈ rs, r.ok := by
  have go : ∀ xs, rowsOk xs = true → ∃ rs : List Rw, xs = rs.map Rw.data ∧ ∀ r ∈ rs, r.ok := fun xs h => by
    unfold rowsOk at h
    simp only [Bool.and_eq_true] at h
    exact rows_inv h.1.1.2
  cases d with
  | list xs =>
    obtain ⟨rs, rfl, al⟩ := go xs h
    exact ⟨rs, .inl rfl, rfl, al⟩
  | tuple xs =>
    obtain ⟨rs, rfl, al⟩ := go xs h
    exact ⟨rs, .inr rfl, rfl, al⟩
  | _ => cases h
theorem rows_small {d : PyData} {rs : List Rw} (f : fitN 60 d = true) (h : isSeqOf d (rs.map Rw.data)) : rs.length ≤ 60 ∧ ∀ r ∈ rs, r.small := by
  have go : (rs.map Rw.data).length ≤ 60 ∧ ∀ x ∈ rs.map Rw.data, fitN 60 x = true := by
    rcases h with rfl | rfl
    · exact fitN_lst f
    · exact fitN_tup f
  rw [List.length_map] at go
  refine ⟨go.1, fun r hr => ⟨?_⟩⟩
  have q := (fitN_tup (go.2 _ (List.mem_map.mpr ⟨r, hr, rfl⟩))).2 (.tuple [.int r.a1, .int r.a2]) (by simp)
  have q2 := (fitN_tup q).2 (.int r.a2) (by simp)
  simp only [fitN, decide_eq_true_eq] at q2
  exact Nat.lt_trans q2 (by decide)
theorem k_bits {t : DX.Tm} (ok : t.ok) (many : Int) : B 10 (kOf t.st t.kl many) := by
  have h1 := kOf_pos (many := many) (fun p hp => (ok.low p hp).2.2.1) ok.k0
  have h2 : kOf t.st t.kl many ≤ 100 := by
    have go : ∀ st : List (Int × Int), (∀ p ∈ st, p.2 ≤ 100) → kOf st t.kl many ≤ 100 := fun st => by
      induction st with
      | nil => exact fun _ => ok.k1
      | cons p r ih =>
        intro h
        obtain ⟨a, k⟩ := p
        unfold kOf
        split
        · exact h _ List.mem_cons_self
        · exact ih fun q hq => h q (List.mem_cons_of_mem _ hq)
    exact go t.st fun p hp => (ok.low p hp).2.2.2
  show (kOf t.st t.kl many).natAbs < 2 ^ 10
  omega
theorem ledDay_eq {n a b rows : PyData} {last : Int} : ledDay (.tuple [n, a, b, rows]) last = (ledRows rows && (isNum n (last + 1) (some 400) && (isNum a 0 none && isNum b 0 none))) := rfl
theorem int2I {f : Int → Int → Int} {i j : Int} {Q : DK} {E : EK} (h : Q (.d (.int (f i j)))) : oInt2 f [.d (.int i), .d (.int j)] Q E := h
theorem nilI {δ : DEnv} {Q : List DV → Prop} {E : EK} (h : Q []) : dNil δ Q E := h

section
variable {P : Program} {w : World} {K : PySem.W.Frag} {mg : Str → Option Value} {base : Heap}
theorem ok__law_due (c : Tx K w mg) : FnOk P w K mg base (L2.CX P w) 5 (He.ga K "_law_due") (fdOf K (He.ga K "_law_due")) ["_law_rows_of", "_law_terms_here"] (lift K (fun _ xs Q _ => ∃ (d : PyData) (t : DX.Tm), xs = [.d d, .d t.data] ∧ t.ok ∧ Ft d ∧ Q (.d (.bool (sumsD t d)))) 2) := by
  refine fn_ok c.fd__law_due sc__law_due rfl fun cdv A outer s I H E R hr => ⟨_, _, (dss_cons flat_of (ds_par3 (i := 2) (j := 3) (l := 4) rfl sc__law_due.nd rfl rfl rfl (by decide) (by decide) (by decide) rfl rfl rfl (da_cons (de_un un_neg ud_neg de_int) (da_cons (de_ix (de_var (pv 1)) de_int (fun _ _ => rfl) rfl) (da_cons de_int da_nil))) rfl)
      (dss_cons flat_of (ds_if (dt_not (dt_val (de_isi2 (de_var (pv 0)) rfl (by rfl) c.f_isinstance (pe_bltn (by rfl) c.f_list b_list rfl) (pe_bltn (by rfl) c.f_tuple b_tuple rfl)))) (dss_one (ds_ret de_bl)) dss_nil)
      (dss_cons flat_of (ds_for flat_of (passes_of rfl) rfl (di_any (de_var (pv 0)) rfl) (dg_name (i := 5) sc__law_due.nd rfl (by first | exact .inl rfl | exact .inr rfl)) (dss_cons flat_of (ds_if (dw_or (dt_not (dt_val (de_callB call_isi (cd_isi rfl) (by rfl) c.f_isinstance b_isinstance (da_cons (de_var (pv 5)) (da_cons (de_ty (by rfl) c.f_tuple b_tuple) da_nil))))) (dw_or (dt_cmp (op_neX (hu64 hr)) (nomark _) (od_ne rfl) (de_callB call_len (cd_len rfl) (by rfl) c.f_len b_len (da_cons (de_var (pv 5)) da_nil)) de_int) (dw_or1 (dt_not (dt_val (de_fnC (ok__law_are_rows c) (hr.mono (by decide)) (by rfl) c.g__law_are_rows c.fd__law_are_rows.kp (bd__law_are_rows c) (takesC (takes_of rfl rfl rfl rfl)) rfl (da_cons (de_ix (de_var (pv 5)) de_int (fun _ _ => rfl) rfl) da_nil))))))).dt (dss_one (ds_ret de_bl)) dss_nil)
      (dss_cons flat_of (ds_if (dw_or (dt_not (dt_val (de_fnC (ok__law_is_between c) (hr.mono (by decide)) (by rfl) c.g__law_is_between c.fd__law_is_between.kp (bd__law_is_between c) (takesC (takes_of rfl rfl rfl rfl)) rfl (da_cons (de_ix (de_var (pv 5)) de_int (fun _ _ => rfl) rfl) (da_cons (de_op op_cat' (od_add rfl) (de_var (pv 2)) de_int) (da_cons de_int da_nil)))))) (dw_or1 (dt_not (dt_val (de_fnC (ok__law_is_between c) (hr.mono (by decide)) (by rfl) c.g__law_is_between c.fd__law_is_between.kp (bd__law_is_between c) (takesC (takes_of rfl rfl rfl rfl)) rfl (da_cons (de_ix (de_var (pv 5)) de_int (fun _ _ => rfl) rfl) (da_cons de_int (da_cons de_non da_nil)))))))).dt (dss_one (ds_ret de_bl)) dss_nil)
      (dss_cons flat_of (ds_set (i := 6) sc__law_due.nd rfl (by first | exact .inl rfl | exact .inr rfl) (de_callB (call_max2 rfl) cd_int2 (by rfl) c.f_max b_max (da_cons (de_ix (de_var (pv 1)) de_int (fun _ _ => rfl) rfl) (da_cons (de_op op_cat' (od_add rfl) (de_var (pv 3)) (de_fnC (ok__law_gained c) (hr.mono (by decide)) (by rfl) c.g__law_gained c.fd__law_gained.kp (bd__law_gained c) (takesC (takes_of rfl rfl rfl rfl)) rfl (da_cons (de_ix (de_var (pv 5)) de_int (fun _ _ => rfl) rfl) (da_cons (de_fnC (ok__law_k c) (hr.mono (by decide)) (by rfl) c.g__law_k c.fd__law_k.kp (bd__law_k c) (takesC (takes_of rfl rfl rfl rfl)) rfl (da_cons (de_var (pv 1)) (da_cons (de_var (pv 4)) da_nil))) da_nil)))) da_nil))))
      (dss_cons flat_of (ds_if (dw_or (dt_cmp (op_neX (hu64 hr)) (nomark _) (od_ne rfl) (de_ix (de_var (pv 5)) de_int (fun _ _ => rfl) rfl) (de_var (pv 3))) (dw_or (dt_not (dt_val (de_fnC (ok__law_is_between c) (hr.mono (by decide)) (by rfl) c.g__law_is_between c.fd__law_is_between.kp (bd__law_is_between c) (takesC (takes_of rfl rfl rfl rfl)) rfl (da_cons (de_ix (de_var (pv 5)) de_int (fun _ _ => rfl) rfl) (da_cons de_int (da_cons de_non da_nil)))))) (dw_or1 (dt_cmp (op_neX (hu64 hr)) (nomark _) (od_ne rfl) (de_ix (de_var (pv 5)) de_int (fun _ _ => rfl) rfl) (de_var (pv 6)))))).dt (dss_one (ds_ret de_bl)) dss_nil)
      (dss_one (ds_par3 (i := 2) (j := 3) (l := 4) rfl sc__law_due.nd rfl rfl rfl (by decide) (by decide) (by decide) rfl rfl rfl (da_cons (de_ix (de_var (pv 5)) de_int (fun _ _ => rfl) rfl) (da_cons (de_ix (de_var (pv 5)) de_int (fun _ _ => rfl) rfl) (da_cons (de_op op_cat' (od_add rfl) (de_var (pv 4)) (de_lenSetT rfl rfl (hu64 hr) (by rfl) c.f_len (by rfl) c.f_set (de_lc (own := [("_law_row", 7)]) rfl sc__law_due.nd (di_any (de_ix (de_var (pv 5)) de_int (fun _ _ => rfl) rfl) rfl) (blkOk_by (N := ["_law_rows_of", "_law_terms_here", "_law_last", "_law_stands", "_law_many", "_law_one", "_law_due_here", "_law_row"]) (sc := defScope (top 51)) (by decide +kernel)) (fun _ _ _ _ _ => (dg_name (i := 7) sc__law_due.nd rfl (by first | exact .inl rfl | exact .inr rfl))) (fun _ _ _ _ _ => dts_nil) (fun _ _ _ _ _ => (de_ix (de_var (pv 7)) de_int (fun _ _ => rfl) rfl)) (tgt_name (by decide)) s) rfl)) da_nil))) rfl)))))))
      (dss_one (ds_ret de_bl))))), fun xs Qd Ed hl h => ?_⟩
  obtain ⟨d, t, rfl, ok, hf, h⟩ := h
  refine seqI (fun δ' => δ' = [some (.d d), some (.d t.data), some (.d (.int (-1))), some (.d (.int t.b)), some (.d (.int 0)), none, none, none]) ?_ fun N hN => ⟨_, at0, hN _ rfl⟩
  rintro _ rfl
  refine ⟨d, rfl, .inr (.inr (.inr (.inl rfl))), .inr (.inr (.inr (.inr rfl))), ?_⟩
  by_cases hsq : ∃ xs, isSeqOf d xs
  · obtain ⟨xs, hd⟩ := hsq
    have hx : ∀ x ∈ xs, Ft x := by
      rcases hd with rfl | rfl
      · exact hf.lst.2
      · exact hf.tup.2
    have es : sumsD t d = sumsGo t xs (-1) t.b 0 := by rcases hd with rfl | rfl <;> rfl
    have ei : (isT (tyD d) "list" || isT (tyD d) "tuple") = true := by rcases hd with rfl | rfl <;> rfl
    obtain ⟨e1, e2⟩ := seq_any hd
    rw [es] at h
    refine bKG (fun _ => ?_) fun b => absurd (b.symm.trans ei) (by decide)
    refine ifF ?_
    dsimp only [dNext]
    refine ⟨e1, ?_⟩
    rw [e2]
    dsimp only
    refine forGo_inv (fun ds δ => ∃ (last st many : Int) (x5 x6 x7 : Option DV), sumsGo t ds last st many = sumsGo t xs (-1) t.b 0 ∧ (∀ x ∈ ds, Ft x) ∧ δ = [some (.d d), some (.d t.data), some (.d (.int last)), some (.d (.int st)), some (.d (.int many)), x5, x6, x7]) ?_ ?_ _ _ ⟨-1, t.b, 0, none, none, none, rfl, hx, rfl⟩
    · rintro y ds _ ⟨last, st, many, x5, x6, x7, eg, hds, rfl⟩ N hN
      have fy := hds y List.mem_cons_self
      have bad : sumsGo t (y :: ds) last st many = false → Qd (.d (.bool false)) := fun e => qB (Q := Qd) h (eg.symm.trans e)
      have out : ledDay y last = false → Qd (.d (.bool false)) := fun e => bad (go_no e)
      refine setG (δ' := [some (.d d), some (.d t.data), some (.d (.int last)), some (.d (.int st)), some (.d (.int many)), some (.d y), x6, x7]) rfl ?_
      refine ⟨y, rfl, .inr (.inr (.inr (.inr rfl))), ?_⟩
      cases y with
      | tuple ys =>
        refine bKG (fun _ => ?_) fun b => (by cases b)
        refine ifF ?_
        refine ⟨.inl rfl, ?_⟩
        refine bKG (fun b1 => out (no_true fun e => ?_)) fun b1 => ?_
        · obtain ⟨_, _, _, _, e2, _⟩ := ledDay_four e
          cases e2
          rw [eqv_int] at b1
          exact absurd (show (!(((4 : Nat) : Int) == 4)) = true from b1) (by decide)
        have el : ys.length = 4 := by
          rw [eqv_int, Bool.not_eq_false', beq_iff_eq] at b1
          omega
        match ys, el with
        | [n, a, b, rows], _ =>
          have fi := fy.tup.2
          refine ifF ?_
          refine notT_t ⟨rows, atI_nat (j := 3) rfl, rfl, nn1, rows, rfl, fi rows (by simp), ?_⟩
          refine bKG (fun b2 => ?_) fun b2 => out (by rw [ledDay_eq, b2]; rfl)
          refine ifF ?_
          dsimp only [dNext]
          refine ⟨n, at0, rfl, nn3, n, last + 1, some 400, rfl, ?_⟩
          refine bKG (fun b3 => ?_) fun b3 => out (by rw [ledDay_eq, b2, b3]; rfl)
          refine ifF ?_
          refine notT_t ⟨a, at1', rfl, nn3, a, 0, none, rfl, ?_⟩
          refine bKG (fun b4 => ?_) fun b4 => out (by rw [ledDay_eq, b2, b3, b4]; rfl)
          obtain ⟨n, rfl, _⟩ := isNum_inv b3
          obtain ⟨a, rfl, _⟩ := isNum_inv b4
          refine ifF ?_
          dsimp only [dNext]
          obtain ⟨rs, hq, er, al⟩ := ledRows_inv b2
          obtain ⟨len, sm⟩ := rows_small (fi rows (by simp)).f hq
          obtain ⟨g, eg2⟩ : ∃ g, gain (rs.map Rw.data) (kOf t.st t.kl many) = g := ⟨_, rfl⟩
          refine ⟨_, atI_nat (j := 3) rfl, rows, atI_nat (j := 3) rfl, rfl, nn2, t, many, rfl, rfl, nn2, rows, rs, _, rfl, hq, (fun r hr => ⟨al r hr, sm r hr⟩), len, k_bits ok many, ?_⟩
          rw [eg2]
          refine addI ?_
          refine nilI ?_
          refine int2I (f := fun i j => if j > i then j else i) (i := t.f) (j := st + g) ?_
          have em : (if st + g > t.f then st + g else t.f) = max t.f (st + g) := by
            split <;> omega
          refine setG (δ' := [some (.d d), some (.d t.data), some (.d (.int last)), some (.d (.int st)), some (.d (.int many)), some (.d (.tuple [.int n, .int a, b, rows])), some (.d (.int (if st + g > t.f then st + g else t.f))), x7]) rfl ?_
          rw [em]
          refine ⟨_, at1', .inl rfl, ?_⟩
          refine bKG (fun b5 => ?_) fun b5 => ?_
          · have ne : decide (a = st) = false := by
              rw [eqv_int, Bool.not_eq_true', beq_eq_false_iff_ne] at b5
              exact decide_eq_false b5
            refine bad ?_
            cases b with
            | int b =>
              rw [go_step, ne, Bool.and_false]
              rfl
            | _ => rfl
          rw [eqv_int, Bool.not_eq_false', beq_iff_eq] at b5
          subst b5
          refine ifF ?_
          refine notT_t ⟨b, atI_nat (j := 2) rfl, rfl, nn3, b, 0, none, rfl, ?_⟩
          refine bKG (fun b6 => ?_) fun b6 => out (by rw [ledDay_eq, b2, b3, b4, b6]; rfl)
          obtain ⟨b, rfl, _⟩ := isNum_inv b6
          have full : ledDay (.tuple [.int n, .int a, .int b, rows]) last = true := by rw [ledDay_eq, b2, b3, b4, b6]; rfl
          have gs : sumsGo t (.tuple [.int n, .int a, .int b, rows] :: ds) last a many = (decide (b = max t.f (a + g)) && sumsGo t ds n b (many + many1 (rowList rows))) := by
            rw [go_step, full, er, eg2, decide_eq_true rfl]
            rfl
          refine ifF ?_
          refine ⟨_, atI_nat (j := 2) rfl, .inl rfl, ?_⟩
          refine bKG (fun b7 => bad ?_) fun b7 => ?_
          · rw [eqv_int, Bool.not_eq_true', beq_eq_false_iff_ne] at b7
            rw [gs, decide_eq_false b7]
            rfl
          rw [eqv_int, Bool.not_eq_false', beq_iff_eq] at b7
          rw [gs, decide_eq_true b7, Bool.true_and] at eg
          refine ifF ?_
          dsimp only [dNext]
          obtain ⟨q1, q2⟩ := seq_any hq
          refine ⟨_, at0, _, atI_nat (j := 2) rfl, rows, atI_nat (j := 3) rfl, q1, ?_⟩
          rw [q2]
          dsimp only
          refine lcGo_map (f := fun r : Rw => .str r.g) (fun r hr KK kk => ⟨_, at0, kk⟩) ?_
          rw [List.nil_append, show (rs.map fun r : Rw => PyData.str r.g) = (rs.map fun r : Rw => r.g).map .str by rw [List.map_map]; rfl]
          refine ⟨rs.map (fun r : Rw => r.g), rfl, by rw [List.length_map]; omega, ?_⟩
          refine addI ?_
          have e8 : many1 (rowList rows) = ((SX.insAll (rs.map fun r : Rw => r.g)).length : Nat) := by
            unfold many1
            rw [er, titles_rows]
          rw [e8] at eg
          exact hN _ ⟨n, b, _, _, _, _, eg, fun x hx => hds x (List.mem_cons_of_mem _ hx), rfl⟩
      | _ => exact out rfl
    · rintro _ ⟨last, st, many, x5, x6, x7, eg, _, rfl⟩
      exact qB (Q := Qd) (b := true) h eg.symm
  · have ns : ∀ xs, d ≠ .list xs ∧ d ≠ .tuple xs := fun xs => ⟨fun e => hsq ⟨xs, .inl e⟩, fun e => hsq ⟨xs, .inr e⟩⟩
    cases d with
    | list xs => exact absurd rfl (ns xs).1
    | tuple xs => exact absurd rfl (ns xs).2
    | _ => exact h

end
end K85
set_option Elab.async false
set_option linter.all false
set_option maxRecDepth 100000
set_option maxHeartbeats 4000000
namespace K85
open PySem PySem.Spec PyProof.Rows L2 PD DW DX
theorem hu1 {k : Nat} {A : Around} (r : Room k A) : A.units + 1 < cLine := by have := r.un; omega
def prims : List Int := [2147483629, 2147483587, 2147483579, 2147483563, 2147483549, 2147483543]
theorem prims_ok {i : Nat} {x : V} (h : (prims.map V.int)[i]? = some x) : ∃ q : Int, x = .int q ∧ 0 < q ∧ q < 4294967296 := by
  have m := List.mem_of_getElem? h
  obtain ⟨q, hq, rfl⟩ := List.mem_map.mp m
  have all : ∀ q ∈ prims, 0 < q ∧ q < 4294967296 := by decide
  exact ⟨q, rfl, all q hq⟩
theorem emod_fits {x q : Int} (q0 : 0 < q) (q1 : q < 4294967296) : (x % q).natAbs < 2 ^ 200 := by
  have h0 : 0 ≤ x % q := Int.emod_nonneg _ (by omega)
  have h1 : x % q < q := Int.emod_lt_of_pos _ q0
  have : (4294967296 : Nat) < 2 ^ 200 := by decide
  omega

section
variable {P : Program} {w : World} {K : PySem.W.Frag} {mg : Str → Option Value} {base : Heap}
theorem ok__law_mixed (c : Tx K w mg) : FnOk P w K mg base (L2.CX P w) 1 (He.ga K "_law_mixed") (fdOf K (He.ga K "_law_mixed")) ["_law_state"] (liftI K spMixedI 1) := by
  refine c.fd__law_mixed.ok sc__law_mixed (fun vs H Q E h => h.1) (fun cdv A outer s H vs Q E hr h => ⟨_,
    pss_cons (ps_set (i := 1) sc__law_mixed.nd rfl (.inl rfl) (pe_op op_add (pe_dget (hu1 hr) (pv 0) pe_str (fun _ _ => rfl)) pe_int))
    (pss_cons (ps_dput (hu1 hr) (pv 0) pe_str (pv 1) rfl)
    (pss_cons (ps_set (i := 2) sc__law_mixed.nd rfl (.inl rfl) pe_int)
    (pss_cons (ps_for (passes_of rfl) rfl (pi_list (pe_lst (pa_cons pe_int (pa_cons pe_int (pa_cons pe_int (pa_cons pe_int (pa_cons pe_int (pa_cons pe_int pa_nil)))))))) (pg_name (i := 3) sc__law_mixed.nd rfl (.inl rfl))
      (pss_cons (ps_set (i := 4) sc__law_mixed.nd rfl (.inl rfl) (pe_op op_add (pe_op op_mul pe_int (pv 1)) (pe_op op_fdivW (pv 3) pe_int)))
      (pss_cons (ps_for (passes_of rfl) rfl (pi_list (pe_dget (hu1 hr) (pv 0) pe_str (fun _ _ => rfl))) (pg_name (i := 5) sc__law_mixed.nd rfl (.inl rfl)) (pss_one (ps_set (i := 4) sc__law_mixed.nd rfl (.inl rfl) (pe_op op_mod (pe_op op_add (pe_op op_mul (pv 4) pe_int) (pv 5)) (pv 3)))))
      (pss_one (ps_set (i := 2) sc__law_mixed.nd rfl (.inl rfl) (pe_op op_add (pe_op op_mul (pv 2) pe_int) (pe_op op_mod (pe_op op_mulW (pv 4) (pv 4)) (pv 3))))))))
    (pss_one (ps_ret (pv 2)))))), ?_⟩)
  obtain ⟨hl, R, n, I, xs, Qd, gd, ar, hs, k⟩ := h
  obtain ⟨a, g, cc, rfl, rfl, hlim, hq⟩ := hs
  obtain ⟨ngc, gs, cs, r, t, h1, h2, h3, htn⟩ := gd.j
  cases ar with
  | cons a1 ar =>
  cases ar
  have ev : _ = V.ref a := a1
  subst ev
  have nag : a ≠ g := fun e => by rw [e, h2] at h1; cases h1
  have nac : a ≠ cc := fun e => by rw [e, h3] at h1; cases h1
  refine ⟨_, rfl, a, _, rfl, st_turn h1, _, _, rfl, rfl, ?_⟩
  refine ⟨_, rfl, _, rfl, a, _, rfl, st_putTurn h1 _, ?_⟩
  generalize hH1 : L2.upd H a (.dK (stRows g cc r (t + 1))) = H1
  have e1 : H1 a = some (.dK (stRows g cc r (t + 1))) := by rw [← hH1, upd_same]
  have e2 : H1 g = some (.lst (gs.map V.int)) := by rw [← hH1, upd_ne (Ne.symm nag)]; exact h2
  have e3 : H1 cc = some (.lst (cs.map V.int)) := by rw [← hH1, upd_ne (Ne.symm nac)]; exact h3
  have o1 : OffS a g cc H H1 := by rw [← hH1]; exact OffS.put (.inl rfl)
  refine ⟨(show 6 ≤ sizeLine by decide), fun p hp => ?_⟩
  have npa : a ≠ p := fun e => by rw [← e, e1] at hp; cases hp
  have npg : g ≠ p := fun e => by rw [← e, e2] at hp; cases hp
  have npc : cc ≠ p := fun e => by rw [← e, e3] at hp; cases hp
  generalize hH2 : L2.upd H1 p (.lst _) = H2
  have d0 : H2 p = some (.lst (prims.map V.int)) := by rw [← hH2, upd_same]; rfl
  have d1 : H2 a = some (.dK (stRows g cc r (t + 1))) := by rw [← hH2, upd_ne npa]; exact e1
  have d2 : H2 g = some (.lst (gs.map V.int)) := by rw [← hH2, upd_ne npg]; exact e2
  have d3 : H2 cc = some (.lst (cs.map V.int)) := by rw [← hH2, upd_ne npc]; exact e3
  have o2 : OffS a g cc H H2 := o1.trans (by rw [← hH2]; exact OffS.new hp)
  refine ⟨p, rfl, ⟨_, SqL.of d0⟩, ?_⟩
  refine for_list (xs := prims.map V.int) (fun i σ H => ∃ (f : Int) (x3 x4 x5 : Option V), σ = [some (.ref a), some (.int (t + 1)), some (.int f), x3, x4, x5] ∧ H2 = H) ⟨0, _, _, _, rfl, rfl⟩ ?_ ?_ ?_
  · rintro i σ H' _ ⟨f, x3, x4, x5, rfl, rfl⟩
    exact SqL.of d0
  · rintro i x σ H' hx ⟨f, x3, x4, x5, rfl, rfl⟩
    obtain ⟨q, rfl, q0, q1⟩ := prims_ok hx
    refine ⟨_, rfl, _, _, rfl, rfl, .inl ⟨by decide, by decide⟩, _, rfl, _, _, rfl, rfl, ⟨by decide, by decide⟩, _, _, rfl, rfl, ?_⟩
    refine ⟨_, rfl, a, _, rfl, st_cells d1, cc, rfl, ⟨_, SqL.of d3⟩, ?_⟩
    refine for_list (xs := cs.map V.int) (fun j σ H => ∃ (b : Int) (x5 : Option V), σ = [some (.ref a), some (.int (t + 1)), some (.int f), some (.int q), some (.int b), x5] ∧ H2 = H ∧ b.natAbs < 2 ^ 200) ⟨_, _, rfl, rfl, mix_fits htn hlim q0 q1⟩ ?_ ?_ ?_
    · rintro j σ H' _ ⟨b, x5, rfl, rfl, _⟩
      exact SqL.of d3
    · rintro j y σ H' hy ⟨b, x5, rfl, rfl, _⟩
      obtain ⟨n, _, rfl⟩ := List.mem_map.mp (List.mem_of_getElem? hy)
      refine ⟨_, rfl, _, _, rfl, rfl, .inr ⟨by decide, by decide⟩, _, rfl, _, _, rfl, rfl, _, rfl, _, _, rfl, rfl, q0, ?_⟩
      exact ⟨_, _, rfl, rfl, emod_fits q0 q1⟩
    · rintro σ H' ⟨b, x5, rfl, rfl, hb⟩
      refine ⟨_, rfl, _, _, rfl, rfl, .inr ⟨by decide, by decide⟩, _, rfl, _, rfl, _, _, rfl, rfl, wide_mul hb hb (by decide) (by decide) (by decide), _, rfl, _, _, rfl, rfl, q0, _, _, rfl, rfl, ?_⟩
      exact ⟨_, _, _, _, rfl, rfl⟩
  · rintro σ H' ⟨f, x3, x4, x5, rfl, rfl⟩
    refine ⟨_, rfl, ?_⟩
    exact k (n + 1) (.d (.int f)) _ I _ (Nat.le_succ n) (ext_stI gd o2 ⟨gs, cs, r, t + 1, d1, d2, d3, by omega⟩) (.int _) (hq _)
end
end K85
set_option Elab.async false
set_option linter.all false
set_option maxRecDepth 100000
set_option maxHeartbeats 4000000
namespace K85
open PySem PySem.Spec PyProof.Rows L2 PD DW DX
theorem lay_intsS : ∀ l : List Int, PyData.canLayAll0 (l.map .int) = true
  | [] => rfl
  | x :: l => by
    show (PyData.canLay0 (.int x) && PyData.canLayAll0 (l.map .int)) = true
    rw [lay_intsS l]
    rfl
theorem eqv_nil_ints (gs : List Int) : PyData.eqv (.list (gs.map .int)) (.list []) = gs.isEmpty := by
  cases gs <;> rfl
theorem seqIndex_0 (n : Nat) : seqIndex? 0 (n + 1) = some 0 := by
  unfold seqIndex?
  simp

section
variable {P : Program} {w : World} {K : PySem.W.Frag} {mg : Str → Option Value} {base : Heap}
theorem ok__law_take (c : Tx K w mg) : FnOk P w K mg base (L2.CX P w) 2 (He.ga K "_law_take") (fdOf K (He.ga K "_law_take")) ["_law_state", "_law_many"] (liftI K spTakeI 2) := by
  refine c.fd__law_take.ok sc__law_take (fun vs H Q E h => h.1) (fun cdv A outer s H vs Q E hr h => ⟨_,
    pss_cons (ps_if (PW.pt (pw_and (pt_cmpR op_eq (pe_dget (hu1 hr) (pv 0) pe_str (fun _ _ => rfl)) pe_int (nomark _)) (pw_and1 (pt_cmpR (op_neD (hu64 hr)) (pe_dget (hu1 hr) (pv 0) pe_str (fun _ _ => rfl)) (pe_lst pa_nil) (nomark _)))))
      (pss_one (ps_dput (hu1 hr) (pv 0) pe_str (pe_bm PySem.F.plainAttrs_list PySem.F.slot_list_pop PySem.F.type_list_pop mt_popAt (pe_dget (hu1 hr) (pv 0) pe_str (fun _ _ => rfl)) (pa_cons pe_int pa_nil)) rfl))
      (pss_one (ps_if (pt_cmpR op_eq (pe_dget (hu1 hr) (pv 0) pe_str (fun _ _ => rfl)) pe_int (nomark _)) (pss_one (ps_dput (hu1 hr) (pv 0) pe_str (pe_callS (ok__law_mixed c) hr (by rfl) c.g__law_mixed c.fd__law_mixed.kp (bd__law_mixed c) (takesC0) (pa_cons (pv 0) pa_nil)) rfl)) pss_nil)))
    (pss_cons (ps_set (i := 2) sc__law_take.nd rfl (.inl rfl) (pe_op op_mod (pe_dget (hu1 hr) (pv 0) pe_str (fun _ _ => rfl)) (pv 1)))
    (pss_cons (ps_dput (hu1 hr) (pv 0) pe_str (pe_op op_fdivW (pe_dget (hu1 hr) (pv 0) pe_str (fun _ _ => rfl)) (pv 1)) rfl)
    (pss_one (ps_ret (pv 2))))), ?_⟩)
  obtain ⟨hl, R, nn, I, xs, Qd, gd, ar, hs, k⟩ := h
  obtain ⟨a, g, cc, n, rfl, rfl, n1, n2, hlim, hq⟩ := hs
  obtain ⟨ngc, gs, cs, r, t, h1, h2, h3, hne⟩ := gd.j
  have htn : t.natAbs ≤ nn + 1 := Nat.le_succ_of_le hne
  cases ar with
  | cons a1 ar =>
  cases ar with
  | cons a2 ar =>
  cases ar
  have ev : _ = V.ref a := a1
  subst ev
  cases a2
  have nag : a ≠ g := fun e => by rw [e, h2] at h1; cases h1
  have nac : a ≠ cc := fun e => by rw [e, h3] at h1; cases h1
  have nlog : n.natAbs.log2 < 9000 := by
    have : n.natAbs < 10 ^ 60 := by omega
    have := log2_le this
    omega
  refine ⟨_, rfl, a, _, rfl, st_rest h1, rfl, _, rfl, ?_⟩
  rw [dec_int]
  refine iteG' (fun b => ?_) fun b => ?_
  · refine ⟨_, rfl, a, _, rfl, st_great h1, (show 0 ≤ sizeLine by decide), fun p hp => ?_⟩
    have npa : a ≠ p := fun e => by rw [← e, h1] at hp; cases hp
    have npg : g ≠ p := fun e => by rw [← e, h2] at hp; cases hp
    have npc : cc ≠ p := fun e => by rw [← e, h3] at hp; cases hp
    generalize hH2 : L2.upd H p (.lst []) = H2
    have d0 : H2 p = some (.lst []) := by rw [← hH2, upd_same]
    have d1 : H2 a = some (.dK (stRows g cc r t)) := by rw [← hH2, upd_ne npa]; exact h1
    have d2 : H2 g = some (.lst (gs.map V.int)) := by rw [← hH2, upd_ne npg]; exact h2
    have d3 : H2 cc = some (.lst (cs.map V.int)) := by rw [← hH2, upd_ne npc]; exact h3
    have o2 : OffS a g cc H H2 := by rw [← hH2]; exact OffS.new hp
    refine ⟨.list (gs.map .int), .list [], .lst (SqL.of d2) (DaAll.dp _ _ (lay_intsS gs) (da_ints gs)), .lst (SqL.of d0) .nil, shaped_ints gs, rfl, _, rfl, ?_⟩
    rw [eqv_nil_ints]
    cases gs with
    | cons x gs =>
      refine iteG' (fun _ => ?_) fun z => (by cases z)
      refine ⟨_, rfl, a, _, rfl, st_great d1, ?_, _, _, 0, 0, .int x, rfl, rfl, d2, by decide, by decide, by rw [List.length_map]; exact seqIndex_0 _, rfl, _, rfl, a, _, rfl, st_putRest (g := g) (c := cc) (r := r) (t := t) ?_ _, ?_⟩
      · exact .inl ⟨rfl, _, SqL.of d2⟩
      · rw [upd_ne nag]; exact d1
      generalize hH : L2.upd (L2.upd H2 g (HO.lst ((List.map V.int (x :: gs)).eraseIdx 0))) a (HO.dK (stRows g cc x t)) = H'
      have e : Ext ((stFam a g cc).R (nn + 1)) I H I H' := by
        rw [← hH]
        refine ext_stI gd ((o2.trans (OffS.put (.inr (.inl rfl)))).trans (OffS.put (.inl rfl))) ⟨gs, cs, x, t, upd_same, ?_, ?_, htn⟩
        · rw [upd_ne (Ne.symm nag), upd_same]; rfl
        · rw [upd_ne (Ne.symm nac), upd_ne (Ne.symm ngc)]; exact d3
      have j' := e.good.j
      obtain ⟨_, gs', cs', r', t', j1, j2, j3, j4⟩ := j'
      have mag : a ≠ g := fun e => by rw [e, j2] at j1; cases j1
      have mac : a ≠ cc := fun e => by rw [e, j3] at j1; cases j1
      refine ⟨_, rfl, a, _, rfl, st_rest j1, _, rfl, _, _, rfl, rfl, (by omega), ?_⟩
      refine ⟨_, rfl, a, _, rfl, st_rest j1, _, rfl, _, _, rfl, rfl, ⟨by omega, nlog⟩, _, rfl, a, _, rfl, st_putRest j1 _, _, rfl, ?_⟩
      refine k (nn + 1) (.d (.int (r' % n))) _ I _ (Nat.le_succ nn) (e.trans (gd.up (Nat.le_succ nn)) (ext_stI e.good (OffS.put (.inl rfl)) ⟨gs', cs', r' / n, t', upd_same, ?_, ?_, j4⟩)) (.int _) (hq _ (Int.emod_nonneg _ (by omega)) (Int.emod_lt_of_pos _ (by omega)))
      · rw [upd_ne (Ne.symm mag)]; exact j2
      · rw [upd_ne (Ne.symm mac)]; exact j3
    | nil =>
      refine iteG' (fun z => (by cases z)) fun _ => ?_
      refine ⟨_, rfl, a, _, rfl, st_rest d1, rfl, _, rfl, ?_⟩
      rw [dec_int]
      refine iteG' (fun b2 => ?_) fun b2 => absurd (b.symm.trans b2) (by decide)
      have e2 : Ext ((stFam a g cc).R nn) I H I H2 := ext_stI gd o2 ⟨[], cs, r, t, d1, d2, d3, hne⟩
      refine ⟨_, rfl, rfl, stFam a g cc, nn, I, [.v (.ref a)], (fun x j => (∃ i : Int, x = .d (.int i)) ∧ j = nn + 1), e2.good, .cons rfl .nil, ⟨a, g, cc, rfl, rfl, hlim, fun i => ⟨⟨i, rfl⟩, rfl⟩⟩, ?_⟩
      rintro _ _ v I' H3 _ e3 rv ⟨⟨i, rfl⟩, rfl⟩
      cases rv
      have e4 : Ext ((stFam a g cc).R (nn + 1)) I H I' H3 := (e2.up (Nat.le_succ nn)).trans (gd.up (Nat.le_succ nn)) e3
      obtain ⟨_, gs3, cs3, r3, t3, k1, k2, k3, k4⟩ := e4.good.j
      have mag : a ≠ g := fun e => by rw [e, k2] at k1; cases k1
      have mac : a ≠ cc := fun e => by rw [e, k3] at k1; cases k1
      refine ⟨_, rfl, a, _, rfl, st_putRest k1 _, ?_⟩
      generalize hH : L2.upd H3 a (HO.dK (stRows g cc i t3)) = H'
      have e : Ext ((stFam a g cc).R (nn + 1)) I H I' H' := by
        rw [← hH]
        exact e4.trans (gd.up (Nat.le_succ nn)) (ext_stI e4.good (OffS.put (.inl rfl)) ⟨gs3, cs3, _, t3, upd_same, by rw [upd_ne (Ne.symm mag)]; exact k2, by rw [upd_ne (Ne.symm mac)]; exact k3, k4⟩)
      have j' := e.good.j
      obtain ⟨_, gs', cs', r', t', j1, j2, j3, j4⟩ := j'
      have mag' : a ≠ g := fun e => by rw [e, j2] at j1; cases j1
      have mac' : a ≠ cc := fun e => by rw [e, j3] at j1; cases j1
      refine ⟨_, rfl, a, _, rfl, st_rest j1, _, rfl, _, _, rfl, rfl, (by omega), ?_⟩
      refine ⟨_, rfl, a, _, rfl, st_rest j1, _, rfl, _, _, rfl, rfl, ⟨by omega, nlog⟩, _, rfl, a, _, rfl, st_putRest j1 _, _, rfl, ?_⟩
      refine k (nn + 1) (.d (.int (r' % n))) _ I' _ (Nat.le_succ nn) (e.trans (gd.up (Nat.le_succ nn)) (ext_stI e.good (OffS.put (.inl rfl)) ⟨gs', cs', r' / n, t', upd_same, ?_, ?_, j4⟩)) (.int _) (hq _ (Int.emod_nonneg _ (by omega)) (Int.emod_lt_of_pos _ (by omega)))
      · rw [upd_ne (Ne.symm mag')]; exact j2
      · rw [upd_ne (Ne.symm mac')]; exact j3
  · refine iteG' (fun z => (by cases z)) fun _ => ?_
    refine ⟨_, rfl, a, _, rfl, st_rest h1, rfl, _, rfl, ?_⟩
    rw [dec_int]
    refine iteG' (fun b2 => absurd (b.symm.trans b2) (by decide)) fun b2 => ?_
    show tSeq _ _ _ _ _
    have e : Ext ((stFam a g cc).R (nn + 1)) I H I H := Ext.refl (gd.up (Nat.le_succ nn))
    generalize hI : I = I' at e
    rw [← hI] at e
    have hI2 := hI
    subst hI
    have j' := e.good.j
    obtain ⟨_, gs', cs', r', t', j1, j2, j3, j4⟩ := j'
    have mag : a ≠ g := fun e => by rw [e, j2] at j1; cases j1
    have mac : a ≠ cc := fun e => by rw [e, j3] at j1; cases j1
    refine ⟨_, rfl, a, _, rfl, st_rest j1, _, rfl, _, _, rfl, rfl, (by omega), ?_⟩
    refine ⟨_, rfl, a, _, rfl, st_rest j1, _, rfl, _, _, rfl, rfl, ⟨by omega, nlog⟩, _, rfl, a, _, rfl, st_putRest j1 _, _, rfl, ?_⟩
    refine k (nn + 1) (.d (.int (r' % n))) _ I _ (Nat.le_succ nn) (e.trans (gd.up (Nat.le_succ nn)) (ext_stI e.good (OffS.put (.inl rfl)) ⟨gs', cs', r' / n, t', upd_same, ?_, ?_, j4⟩)) (.int _) (hq _ (Int.emod_nonneg _ (by omega)) (Int.emod_lt_of_pos _ (by omega)))
    · rw [upd_ne (Ne.symm mag)]; exact j2
    · rw [upd_ne (Ne.symm mac)]; exact j3
end
end K85
set_option Elab.async false
set_option linter.all false
set_option maxRecDepth 100000
set_option maxHeartbeats 4000000
namespace K85
open PySem PySem.Spec PyProof.Rows L2 PD DW DX
/-- what may be picked from -/
def pickOf : PyData → Option (List PyData)
  | .list xs => some xs
  | .tuple xs => some xs
  | .str z => some (chars z)
  | _ => none
def spPick : Spi := fun R n xs Q => ∃ (a g c : Addr) (d : PyData) (ds : List PyData), R = stFam a g c ∧ xs = [.v (.ref a), .d d] ∧ pickOf d = some ds ∧ ds ≠ [] ∧ ds.length ≤ sizeLine ∧ n < Lim ∧ ∀ y ∈ ds, Q (.d y) (n + 1)
theorem atI_mem {α : Type} {xs : List α} {i : Int} (h0 : 0 ≤ i) (h1 : i < xs.length) : ∃ y, atI xs i = some y ∧ y ∈ xs := by
  obtain ⟨j, rfl⟩ := Int.eq_ofNat_of_zero_le h0
  have hj : j < xs.length := by omega
  exact ⟨xs[j], atI_nat (List.getElem?_eq_getElem hj), List.getElem_mem hj⟩
theorem nnv {a : Addr} {d : PyData} : ∀ x ∈ [DV.v (.ref a), DV.d d], ∀ ys, x ≠ DV.new ys := by
  intro x hx ys e
  subst e
  simp at hx
theorem nnv1 {a : Addr} : ∀ x ∈ [DV.v (.ref a)], ∀ ys, x ≠ DV.new ys := by
  intro x hx ys e
  subst e
  simp at hx
theorem len_pos {α : Type} {xs : List α} (h : xs ≠ []) : (1 : Int) ≤ xs.length := by have := List.length_pos_iff.mpr h; omega
theorem sz30 {n : Nat} (h : n ≤ sizeLine) : (n : Int) ≤ 10 ^ 30 := by
  have : sizeLine = 16777216 := by decide
  omega
/-- nondeterministic elements, at most c draws each -/
theorem lcGo_relI {c : Nat} {body : PyData → (Option PyData → Nat → Prop) → Nat → Prop} {Pr : PyData → Prop} {Q : List PyData → Nat → Prop} : ∀ {l : List PyData} {acc : List PyData} {n : Nat}, (∀ a ∈ l, ∀ (m : Nat) (K : Option PyData → Nat → Prop), m ≤ n + c * l.length → (∀ y k, Pr y → k ≤ m + c → K (some y) k) → body a K m) → (∀ ys k, ys.length = l.length → (∀ y ∈ ys, Pr y) → k ≤ n + c * l.length → Q (acc ++ ys) k) → lcGoI body l acc Q n
  | [], acc, n, _, q => by
    show Q acc n
    have := q [] n rfl (fun y hy => by cases hy) (Nat.le_add_right _ _)
    rwa [List.append_nil] at this
  | a :: l, acc, n, h, q => h a List.mem_cons_self n _ (Nat.le_add_right _ _) fun y k hy hk => lcGo_relI (c := c) (Pr := Pr) (fun b hb m K hm kk => h b (List.mem_cons_of_mem _ hb) m K (by rw [List.length_cons, Nat.mul_succ]; omega) kk) fun ys j hl hp hj => by
    have := q (y :: ys) j (by simp [hl]) (fun z hz => by
      rcases List.mem_cons.mp hz with rfl | hz
      · exact hy
      · exact hp z hz) (by rw [List.length_cons, Nat.mul_succ]; omega)
    show Q ((acc ++ [y]) ++ ys) j
    rw [List.append_assoc]
    exact this
theorem range_len {lo : Int} {n : Nat} : (rangeD lo n).length = n := by unfold rangeD; simp
theorem strs_map : ∀ l : List Str, strsOf (l.map .str) = some l
  | [] => rfl
  | x :: l => by show (strsOf (l.map .str)).map _ = _; rw [strs_map l]; rfl

section
variable {P : Program} {w : World} {K : PySem.W.Frag} {mg : Str → Option Value} {base : Heap}
theorem ok__law_pick (c : Tx K w mg) : FnOk P w K mg base (L2.CX P w) 3 (He.ga K "_law_pick") (fdOf K (He.ga K "_law_pick")) ["_law_state", "_law_some"] (liftI K (spPick) 2) := by
  refine fn_okI c.fd__law_pick sc__law_pick rfl fun cdv A outer s I H E R hr => ⟨_, _, (ssi_one (si_ret (ei_ix (ei (fun _ => (de_var (pv 1)))) (ei_fn (ok__law_take c) (hr.mono (by decide)) (by rfl) c.g__law_take c.fd__law_take.kp (bd__law_take c) (takesC (takes_of rfl rfl rfl rfl)) rfl (ai_cons (ei (fun _ => (de_var (pv 0)))) (ai_cons (ei (fun _ => (de_callB call_len (cd_len rfl) (by rfl) c.f_len b_len (da_cons (de_var (pv 1)) da_nil)))) ai_nil))) (fun _ _ => rfl) rfl))), fun n xs Qd hl h => ?_⟩
  obtain ⟨a, g, cc, d, ds, rfl, rfl, hp, hne, hl', hn, h⟩ := h
  cases d with
  | list ys =>
    cases hp
    refine ⟨_, rfl, rfl, nnv, a, g, cc, _, rfl, rfl, len_pos hne, sz30 hl', hn, fun i i0 i1 => ?_⟩
    obtain ⟨y, e1, e2⟩ := atI_mem i0 i1
    exact ⟨_, y, rfl, e1, h y e2⟩
  | tuple ys =>
    cases hp
    refine ⟨rfl, nnv, a, g, cc, _, rfl, rfl, len_pos hne, sz30 hl', hn, fun i i0 i1 => ?_⟩
    obtain ⟨y, e1, e2⟩ := atI_mem i0 i1
    exact ⟨y, e1, h y e2⟩
  | str z =>
    cases hp
    have e0 : (chars z).length = z.length := by unfold chars; rw [List.length_map, Array.length_toList]; rfl
    rw [e0] at hl'
    have hne' : z.cps.toList ≠ [] := fun e => hne (by unfold chars; rw [e]; rfl)
    have e1 : z.length = z.cps.toList.length := by rw [Array.length_toList]; rfl
    refine ⟨hl', rfl, nnv, a, g, cc, _, rfl, rfl, by rw [e1]; exact len_pos hne', sz30 hl', hn, fun i i0 i1 => ?_⟩
    obtain ⟨y, e2, e3⟩ := atI_mem (xs := z.cps.toList) i0 (by rw [← e1]; exact i1)
    exact ⟨hl', y, e2, h _ (List.mem_map.mpr ⟨y, e3, rfl⟩)⟩
  | _ => cases hp

end
end K85
set_option Elab.async false
set_option linter.all false
set_option maxRecDepth 100000
set_option maxHeartbeats 4000000
namespace K85
open PySem PySem.Spec PyProof.Rows L2 PD DW DX
theorem seqJ {t u : TDSi} {D : DEndI} {δ : DEnv} {n : Nat} (R : DEnv → Nat → Prop) (tail : ∀ δ' k, R δ' k → u D δ' k) (h : ∀ N : DEnv → Nat → Prop, (∀ δ' k, R δ' k → N δ' k) → t { D with nx := N } δ n) : dSeqI t u D δ n := h _ tail
theorem nilJ {δ : DEnv} {Q : List DV → Nat → Prop} {n : Nat} (h : Q [] n) : dNilI δ Q n := h
theorem forGoI_inv {dg : TDG} {tb : TDSi} {D : DEndI} (Inv : List PyData → DEnv → Nat → Prop) (hstep : ∀ d ds δ n, Inv (d :: ds) δ n → ∀ N : DEnv → Nat → Prop, (∀ δ' k, Inv ds δ' k → N δ' k) → dg (.d d) δ (fun δ' => tb { D with nx := N, ct := N, bk := D.nx } δ' n)) (hend : ∀ δ n, Inv [] δ n → D.nx δ n) : ∀ (ds : List PyData) (δ : DEnv) (n : Nat), Inv ds δ n → forGoI dg tb ds D δ n
  | [], δ, n, h => hend δ n h
  | d :: ds, δ, n, h => hstep d ds δ n h _ fun δ' k h' => forGoI_inv Inv hstep hend ds δ' k h'
theorem sum_le {n : Nat} : ∀ {l : List Str}, (∀ x ∈ l, x.length ≤ n) → (l.map (·.length)).sum ≤ l.length * n
  | [], _ => by simp
  | a :: l, h => by
    have h1 := h a List.mem_cons_self
    have h2 := sum_le (n := n) (l := l) fun x hx => h x (List.mem_cons_of_mem _ hx)
    simp only [List.map_cons, List.sum_cons, List.length_cons]
    rw [Nat.add_mul]
    omega
abbrev ch (c : Nat) : Str := ⟨#[c]⟩
def isCh (y : PyData) : Prop := ∃ c, DW.isLet c = true ∧ y = .str (ch c)
theorem chs_of {ys : List PyData} (h : ∀ y ∈ ys, isCh y) : ∃ cs : List Nat, ys = (cs.map ch).map .str ∧ ∀ c ∈ cs, DW.isLet c = true := by
  induction ys with
  | nil => exact ⟨[], rfl, fun c hc => by cases hc⟩
  | cons y ys ih =>
    obtain ⟨cs, rfl, h2⟩ := ih fun z hz => h z (List.mem_cons_of_mem _ hz)
    obtain ⟨c, hc, rfl⟩ := h y List.mem_cons_self
    refine ⟨c :: cs, rfl, fun x hx => ?_⟩
    rcases List.mem_cons.mp hx with rfl | hx
    · exact hc
    · exact h2 x hx
theorem joinL_nil : ∀ ps : List (List Nat), TL.joinL [] ps = ps.flatten
  | [] => rfl
  | [a] => by show a = _; simp
  | a :: b :: r => by
    show a ++ ([] ++ TL.joinL [] (b :: r)) = _
    rw [joinL_nil (b :: r)]
    simp
theorem join_chs (cs : List Nat) : Txt.join "" (cs.map ch) = ⟨cs.toArray⟩ := by
  refine TL.ext_tl ?_
  rw [TL.join_eq, TL.tl_join]
  have e : TL.tl ("" : Str) = [] := by decide
  rw [e, joinL_nil, List.map_map]
  show _ = (cs.toArray).toList
  rw [show (cs.toArray).toList = cs from rfl]
  induction cs with
  | nil => rfl
  | cons c cs ih =>
    rw [List.map_cons, List.flatten_cons, ih]
    rfl
theorem word_chs {cs : List Nat} {m : Int} (h : ∀ c ∈ cs, DW.isLet c = true) (h0 : 1 ≤ cs.length) (h1 : (cs.length : Int) ≤ m) : DW.wordOk m ⟨cs.toArray⟩ = true := by
  have e : (⟨cs.toArray⟩ : Str).length = cs.length := by show cs.toArray.size = _; simp
  unfold DW.wordOk
  rw [e, Bool.and_eq_true, Bool.and_eq_true]
  exact ⟨decide_eq_true (by omega), decide_eq_true h1, List.all_eq_true.mpr h⟩
theorem ch_sz (cs : List Nat) (h : cs.length ≤ 10000) : ((cs.map ch).map (·.length)).sum + (cs.map ch).length * ("" : Str).length ≤ 16777216 := by
  have e : ("" : Str).length = 0 := by decide
  have h1 := sum_le (n := 1) (l := cs.map ch) fun x hx => by
    obtain ⟨c, _, rfl⟩ := List.mem_map.mp hx
    exact Nat.le_refl 1
  rw [List.length_map] at h1
  rw [e]
  omega
theorem let_pick {y : PyData} (h : y ∈ chars DW.L26) : isCh y := by
  obtain ⟨c, hc, rfl⟩ := List.mem_map.mp h
  exact ⟨c, decide_eq_true hc, rfl⟩
theorem l26_ne : chars DW.L26 ≠ [] := by decide +kernel
theorem l26_len : (chars DW.L26).length ≤ sizeLine := by decide +kernel
def spName : Spi := fun R n xs Q => ∃ (a g c : Addr), R = stFam a g c ∧ xs = [.v (.ref a)] ∧ n + 20 ≤ Lim ∧ ∀ (z : Str) (k : Nat), DW.wordOk 8 z = true → k ≤ n + 20 → Q (.d (.str z)) k
def ownWords : Str := "letter move give even open deed void fall two flat plus grace end most stuck lose any game seal ask"
theorem own_ok : ∀ z ∈ Txt.split ownWords " ", DW.wordOk 8 z = true := by decide +kernel
theorem own_ne : (Txt.split ownWords " ").map PyData.str ≠ [] := by decide +kernel
theorem own_len : ((Txt.split ownWords " ").map PyData.str).length ≤ sizeLine := by decide +kernel

section
variable {P : Program} {w : World} {K : PySem.W.Frag} {mg : Str → Option Value} {base : Heap}
theorem ok__law_name (c : Tx K w mg) : FnOk P w K mg base (L2.CX P w) 4 (He.ga K "_law_name") (fdOf K (He.ga K "_law_name")) ["_law_state"] (liftI K (spName) 1) := by
  refine fn_okI c.fd__law_name sc__law_name rfl fun cdv A outer s I H E R hr => ⟨_, _, (ssi_cons (si (fun _ => (ds_set (i := 1) sc__law_name.nd rfl (by first | exact .inl rfl | exact .inr rfl) de_str)))
      (ssi_cons (si (fun _ => (ds_set (i := 2) sc__law_name.nd rfl (by first | exact .inl rfl | exact .inr rfl) de_str)))
      (ssi_cons (si_if (ti_cmp (op_eqX (hu64 hr)) (nomark _) (fun _ => (od_eq rfl)) (ei_fn (ok__law_take c) (hr.mono (by decide)) (by rfl) c.g__law_take c.fd__law_take.kp (bd__law_take c) (takesC (takes_of rfl rfl rfl rfl)) rfl (ai_cons (ei (fun _ => (de_var (pv 0)))) (ai_cons (ei (fun _ => de_int)) ai_nil))) (ei (fun _ => de_int))) (ssi_one (si_ret (ei_fn (ok__law_pick c) (hr.mono (by decide)) (by rfl) c.g__law_pick c.fd__law_pick.kp (bd__law_pick c) (takesC (takes_of rfl rfl rfl rfl)) rfl (ai_cons (ei (fun _ => (de_var (pv 0)))) (ai_cons (ei (fun _ => (de_meth (md_split) (de_var (pv 2)) (da_cons de_str da_nil) rfl (fun q q' => pe_bm PySem.F.plainAttrs_str PySem.F.slot_str_split PySem.F.type_str_split (mt_split) q q')))) ai_nil))))) ssi_nil)
      (ssi_one (si_ret (ei_meth (fun _ => md_join rfl) (ei (fun _ => de_str)) (ai_cons (ei_lc (own := [("_law_sign", 3)]) rfl sc__law_name.nd (ii_range1 (by rfl) c.f_range (ai_cons (ei_op op_cat' (fun _ => (od_add rfl)) (ei (fun _ => de_int)) (ei_fn (ok__law_take c) (hr.mono (by decide)) (by rfl) c.g__law_take c.fd__law_take.kp (bd__law_take c) (takesC (takes_of rfl rfl rfl rfl)) rfl (ai_cons (ei (fun _ => (de_var (pv 0)))) (ai_cons (ei (fun _ => de_int)) ai_nil)))) ai_nil)) (blkOk_by (N := ["_law_state", "_law_letters", "_law_own", "_law_sign"]) (sc := defScope (top 39)) (by decide +kernel)) (fun _ _ _ _ _ _ => (dg_name (i := 3) sc__law_name.nd rfl (by first | exact .inl rfl | exact .inr rfl))) (fun _ _ _ _ _ => (ei_fn (ok__law_pick c) (hr.mono (by decide)) (by rfl) c.g__law_pick c.fd__law_pick.kp (bd__law_pick c) takesC0 rfl (ai_cons (ei (fun _ => (de_var (pv 0)))) (ai_cons (ei (fun _ => (de_var (pv 1)))) ai_nil)))) (tgt_name (by decide)) s) ai_nil) rfl (fun q q' => pe_bm PySem.F.plainAttrs_str PySem.F.slot_str_join PySem.F.type_str_join (mt_join) q q'))))))), fun n xs Qd hl h => ?_⟩
  obtain ⟨a, g, cc, rfl, rfl, hn, h⟩ := h
  refine seqJ (fun δ' k => δ' = [some (.v (.ref a)), some (.d (.str DW.L26)), none, none] ∧ k ≤ n) ?_ fun N hN => hN _ _ ⟨rfl, Nat.le_refl _⟩
  rintro _ k1 ⟨rfl, hk1⟩
  refine seqJ (fun δ' k => δ' = [some (.v (.ref a)), some (.d (.str DW.L26)), some (.d (.str ownWords)), none] ∧ k ≤ n) ?_ fun N hN => hN _ _ ⟨rfl, hk1⟩
  rintro _ k2 ⟨rfl, hk2⟩
  refine ⟨rfl, nnv, a, g, cc, 3, rfl, rfl, by decide, by decide, by omega, fun i i0 i1 => ⟨.inl rfl, ?_⟩⟩
  refine bKG (fun _ => ?_) fun _ => ?_
  · refine ifT ?_
    refine ⟨rfl, by decide, by decide +kernel, by decide +kernel, rfl, nnv, a, g, cc, _, _, rfl, rfl, rfl, own_ne, own_len, by omega, fun y hy => ?_⟩
    obtain ⟨z, hz, rfl⟩ := List.mem_map.mp hy
    exact h z _ (own_ok z hz) (by omega)
  · refine ifF ?_
    refine ⟨rfl, rfl, nnv, a, g, cc, 8, rfl, rfl, by decide, by decide, by omega, fun j j0 j1 => ?_⟩
    refine ⟨Int.le_trans (show 1 + j ≤ 21 by omega) (by decide), by omega, ?_⟩
    have el : (rangeD 0 (1 + j).toNat).length ≤ 8 := by rw [range_len]; omega
    refine lcGo_relI (c := 1) (Pr := isCh) (fun x _ m KK hm kk => ⟨rfl, nnv, a, g, cc, .str DW.L26, _, rfl, rfl, rfl, l26_ne, l26_len, by omega, fun y hy => kk y _ (let_pick hy) (Nat.le_refl _)⟩) fun ys m hly hp hm => ?_
    rw [List.nil_append]
    obtain ⟨cs, rfl, h2⟩ := chs_of hp
    rw [List.length_map, List.length_map] at hly
    rw [range_len] at hly el
    refine ⟨_, _, rfl, strs_map _, ch_sz cs (by omega), ?_⟩
    rw [join_chs]
    exact h _ _ (word_chs h2 (by omega) (by omega)) (by rw [range_len] at hm; omega)

end
end K85
set_option Elab.async false
set_option linter.all false
set_option maxRecDepth 100000
set_option maxHeartbeats 4000000
namespace K85
open PySem PySem.Spec PyProof.Rows L2 PD DW DX
def spTerms : Spi := fun R n xs Q => ∃ (a g c : Addr), R = stFam a g c ∧ xs = [.v (.ref a)] ∧ n + 20 ≤ Lim ∧ ∀ (t : DX.Tm) (k : Nat), t.ok → k ≤ n + 20 → Q (.d t.data) k
def stD (st : List (Int × Int)) : List PyData := st.map (fun p => .tuple [.int p.1, .int p.2])
theorem stD_snoc (st : List (Int × Int)) (p : Int × Int) : stD st ++ [.tuple [.int p.1, .int p.2]] = stD (st ++ [p]) := by
  unfold stD
  rw [List.map_append]
  rfl
theorem addBN {f : Bool} {l ds : List PyData} {Q : DK} {E : EK} (h1 : l.length + ds.length ≤ sizeLine) (h : Q (.new (l ++ ds))) : oAdd (.bor f l) (.new ds) Q E := ⟨h1, h⟩

section
variable {P : Program} {w : World} {K : PySem.W.Frag} {mg : Str → Option Value} {base : Heap}
theorem ok__law_terms (c : Tx K w mg) : FnOk P w K mg base (L2.CX P w) 3 (He.ga K "_law_terms") (fdOf K (He.ga K "_law_terms")) ["_law_state"] (liftI K (spTerms) 1) := by
  refine fn_okI c.fd__law_terms sc__law_terms rfl fun cdv A outer s I H E R hr => ⟨_, _, (ssi_cons (si_set (i := 1) sc__law_terms.nd rfl (by first | exact .inl rfl | exact .inr rfl) (ei_fn (ok__law_take c) (hr.mono (by decide)) (by rfl) c.g__law_take c.fd__law_take.kp (bd__law_take c) (takesC (takes_of rfl rfl rfl rfl)) rfl (ai_cons (ei (fun _ => (de_var (pv 0)))) (ai_cons (ei (fun _ => de_int)) ai_nil))))
      (ssi_cons (si_set (i := 2) sc__law_terms.nd rfl (by first | exact .inl rfl | exact .inr rfl) (ei_op op_cat' (fun _ => (od_add rfl)) (ei (fun _ => (de_var (pv 1)))) (ei_ix (ei_lst (ai_cons (ei (fun _ => de_int)) (ai_cons (ei_fn (ok__law_take c) (hr.mono (by decide)) (by rfl) c.g__law_take c.fd__law_take.kp (bd__law_take c) (takesC (takes_of rfl rfl rfl rfl)) rfl (ai_cons (ei (fun _ => (de_var (pv 0)))) (ai_cons (ei (fun _ => de_int)) ai_nil))) ai_nil))) (ei_fn (ok__law_take c) (hr.mono (by decide)) (by rfl) c.g__law_take c.fd__law_take.kp (bd__law_take c) (takesC (takes_of rfl rfl rfl rfl)) rfl (ai_cons (ei (fun _ => (de_var (pv 0)))) (ai_cons (ei (fun _ => de_int)) ai_nil))) (fun _ _ => rfl) rfl)))
      (ssi_cons (si (fun _ => (ds_parO1 (i := 3) (j := 4) rfl sc__law_terms.nd rfl rfl (by decide) rfl rfl (da_consN (de_lst da_nil) (da_cons de_int da_nil)) rfl)))
      (ssi_cons (si_for (passes_of rfl) rfl (ii_range1 (by rfl) c.f_range (ai_cons (ei_fn (ok__law_take c) (hr.mono (by decide)) (by rfl) c.g__law_take c.fd__law_take.kp (bd__law_take c) (takesC (takes_of rfl rfl rfl rfl)) rfl (ai_cons (ei (fun _ => (de_var (pv 0)))) (ai_cons (ei (fun _ => de_int)) ai_nil))) ai_nil)) (fun _ => (dg_name (i := 5) sc__law_terms.nd rfl (by first | exact .inl rfl | exact .inr rfl))) (ssi_cons (si_set (i := 4) sc__law_terms.nd rfl (by first | exact .inl rfl | exact .inr rfl) (ei_op op_cat' (fun _ => (od_add rfl)) (ei (fun _ => (de_op op_cat' (od_add rfl) (de_var (pv 4)) de_int))) (ei_fn (ok__law_take c) (hr.mono (by decide)) (by rfl) c.g__law_take c.fd__law_take.kp (bd__law_take c) (takesC (takes_of rfl rfl rfl rfl)) rfl (ai_cons (ei (fun _ => (de_var (pv 0)))) (ai_cons (ei (fun _ => de_int)) ai_nil)))))
      (ssi_one (si_app (i := 3) rfl (ei_tup (ai_cons (ei (fun _ => (de_var (pv 4)))) (ai_cons (ei_op op_cat' (fun _ => (od_add rfl)) (ei (fun _ => de_int)) (ei_fn (ok__law_take c) (hr.mono (by decide)) (by rfl) c.g__law_take c.fd__law_take.kp (bd__law_take c) (takesC (takes_of rfl rfl rfl rfl)) rfl (ai_cons (ei (fun _ => (de_var (pv 0)))) (ai_cons (ei (fun _ => de_int)) ai_nil)))) ai_nil))) (fun q => ps_expr (pe_bm PySem.F.plainAttrs_list PySem.F.slot_list_append PySem.F.type_list_append mt_append (pv 3) (pa_cons q pa_nil)))))))
      (ssi_one (si_ret (ei_tup (ai_cons (ei (fun _ => (de_var (pv 2)))) (ai_cons (ei_op op_cat' (fun _ => (od_add rfl)) (ei (fun _ => de_int)) (ei_fn (ok__law_take c) (hr.mono (by decide)) (by rfl) c.g__law_take c.fd__law_take.kp (bd__law_take c) (takesC (takes_of rfl rfl rfl rfl)) rfl (ai_cons (ei (fun _ => (de_var (pv 0)))) (ai_cons (ei (fun _ => de_int)) ai_nil)))) (ai_cons (ei_callTy call_tuple_of (fun _ => (cd_tuple rfl)) (by rfl) c.f_tuple b_tuple (ai_cons (ei_op op_cat' (fun _ => (od_add rfl)) (ei (fun _ => (de_var (pv 3)))) (ei_lst (ai_cons (ei_tup (ai_cons (ei (fun _ => de_non)) (ai_cons (ei_op op_cat' (fun _ => (od_add rfl)) (ei (fun _ => de_int)) (ei_fn (ok__law_take c) (hr.mono (by decide)) (by rfl) c.g__law_take c.fd__law_take.kp (bd__law_take c) (takesC (takes_of rfl rfl rfl rfl)) rfl (ai_cons (ei (fun _ => (de_var (pv 0)))) (ai_cons (ei (fun _ => de_int)) ai_nil)))) ai_nil))) ai_nil))) ai_nil)) (ai_cons (ei (fun _ => (de_var (pv 1)))) ai_nil))))))))))), fun n xs Qd hl h => ?_⟩
  obtain ⟨a, g, cc, rfl, rfl, hn, h⟩ := h
  refine ⟨rfl, nnv, a, g, cc, 1500, rfl, rfl, by decide, by decide, by omega, fun f f0 f1 => ?_⟩
  refine setG (δ' := [some (.v (.ref a)), some (.d (.int f)), none, none, none, none]) rfl ?_
  dsimp only
  refine seqJ (fun δ' k => (∃ b : Int, f ≤ b ∧ b ≤ 4000 ∧ δ' = [some (.v (.ref a)), some (.d (.int f)), some (.d (.int b)), none, none, none]) ∧ k ≤ n + 3) ?_ fun N hN => ?_
  · rintro _ k1 ⟨⟨b, b0, b1, rfl⟩, hk1⟩
    refine seqJ (fun δ' k => δ' = [some (.v (.ref a)), some (.d (.int f)), some (.d (.int b)), some (.own (stD [])), some (.d (.int 0)), none] ∧ k ≤ n + 3) ?_ fun N hN => ⟨Nat.zero_le _, hN _ _ ⟨rfl, hk1⟩⟩
    rintro _ k2 ⟨rfl, hk2⟩
    refine ⟨rfl, nnv, a, g, cc, 4, rfl, rfl, by decide, by decide, by omega, fun m m0 m1 => ?_⟩
    refine ⟨Int.le_trans (show m ≤ 21 by omega) (by decide), by omega, ?_⟩
    refine forGoI_inv (fun ds δ k => k + 2 * ds.length ≤ n + 10 ∧ ∃ (st : List (Int × Int)) (p : Int) (x5 : Option DV), δ = [some (.v (.ref a)), some (.d (.int f)), some (.d (.int b)), some (.own (stD st)), some (.d (.int p)), x5] ∧ st.length + ds.length ≤ 3 ∧ (st.map (·.1)).Pairwise (· < ·) ∧ (∀ q ∈ st, q.1 ≤ p ∧ 1 ≤ q.1 ∧ 1 ≤ q.2 ∧ q.2 ≤ 100) ∧ 0 ≤ p ∧ p ≤ 4 * st.length) ?_ ?_ _ _ _ ⟨?_, [], 0, none, rfl, ?_, .nil,  fun q hq => (by cases hq), by decide, by decide⟩
    · rintro d ds _ k3 ⟨hk3, st, p, x5, rfl, hl, hp, hq, p0, p1⟩ N hN
      simp only [List.length_cons] at hk3
      refine setG (δ' := [some (.v (.ref a)), some (.d (.int f)), some (.d (.int b)), some (.own (stD st)), some (.d (.int p)), some (.d d)]) rfl ?_
      refine ⟨rfl, nnv, a, g, cc, 4, rfl, rfl, by decide, by decide, by omega, fun q q0 q1 => ?_⟩
      refine addI ?_
      refine setG (δ' := [some (.v (.ref a)), some (.d (.int f)), some (.d (.int b)), some (.own (stD st)), some (.d (.int (p + 1 + q))), some (.d d)]) rfl ?_
      refine ⟨rfl, nnv, a, g, cc, 100, rfl, rfl, by decide, by decide, by omega, fun k k0 k1 => ?_⟩
      refine addI ?_
      refine nilJ ?_
      refine ⟨(show 2 ≤ sizeLine by decide), ?_, hN _ _ ⟨by omega, st ++ [(p + 1 + q, 1 + k)], p + 1 + q, _, by rw [← stD_snoc]; rfl, ?_, ?_, ?_, by omega, ?_⟩⟩
      · have : 60 ≤ sizeLine := by decide
        have e : (stD st).length = st.length := by unfold stD; rw [List.length_map]
        omega
      · simp only [List.length_append, List.length_cons, List.length_nil] at hl ⊢
        omega
      · rw [List.map_append]
        refine List.pairwise_append.mpr ⟨hp, List.pairwise_singleton _ _, fun x hx y hy => ?_⟩
        obtain ⟨z, hz, rfl⟩ := List.mem_map.mp hx
        have e : y = p + 1 + q := List.mem_singleton.mp hy
        have := (hq z hz).1
        omega
      · intro z hz
        rcases List.mem_append.mp hz with hz | hz
        · have := hq z hz
          refine ⟨?_, this.2⟩
          have := this.1
          omega
        · have e : z = (p + 1 + q, 1 + k) := List.mem_singleton.mp hz
          subst e
          exact ⟨Int.le_refl _, (show 1 ≤ p + 1 + q by omega), (show 1 ≤ 1 + k by omega), (show 1 + k ≤ 100 by omega)⟩
      · simp only [List.length_append, List.length_cons, List.length_nil]
        omega
    · rintro _ k3 ⟨hk3, st, p, x5, rfl, hl, hp, hq, p0, p1⟩
      simp only [List.length_nil] at hk3
      refine ⟨rfl, nnv, a, g, cc, 1000, rfl, rfl, by decide, by decide, by omega, fun j j0 j1 => ?_⟩
      refine addI ?_
      refine ⟨rfl, nnv, a, g, cc, 100, rfl, rfl, by decide, by decide, by omega, fun k k0 k1 => ?_⟩
      refine addI ?_
      refine nilJ ?_
      refine ⟨(show 2 ≤ sizeLine by decide), ?_⟩
      refine nilJ ?_
      refine ⟨(show 1 ≤ sizeLine by decide), addBN ?_ ?_⟩
      · have : 60 ≤ sizeLine := by decide
        have e : (stD st).length = st.length := by unfold stD; rw [List.length_map]
        show (stD st).length + 1 ≤ sizeLine
        simp only [List.length_nil] at hl
        omega
      refine nilJ ?_
      refine ⟨_, rfl, (show 4 ≤ sizeLine by decide), ?_⟩
      simp only [List.length_nil] at hl
      refine h ⟨b, 1 + j, st, 1 + k, f⟩ _ ⟨f0, b0, b1, (show 1 ≤ 1 + j by omega), (show 1 + j ≤ 1000 by omega), (show st.length ≤ 3 by omega), hp, fun z hz => ?_, (show 1 ≤ 1 + k by omega), (show 1 + k ≤ 100 by omega)⟩ (by omega)
      have := hq z hz
      exact ⟨this.2.1, by omega, this.2.2⟩
    · rw [range_len]
      omega
    · rw [range_len]
      show 0 + m.toNat ≤ 3
      omega
  · refine ⟨rfl, nnv, a, g, cc, 2500, rfl, rfl, by decide, by decide, by omega, fun e e0 e1 => ?_⟩
    refine ⟨(show 2 ≤ sizeLine by decide), rfl, nnv, a, g, cc, 2, rfl, rfl, by decide, by decide, by omega, fun i i0 i1 => ?_⟩
    have hi : i = 0 ∨ i = 1 := by omega
    rcases hi with rfl | rfl
    · refine ⟨_, .int 0, rfl, rfl, ?_⟩
      refine addI ?_
      exact hN _ _ ⟨⟨f + 0, by omega, by omega, rfl⟩, by omega⟩
    · refine ⟨_, .int e, rfl, rfl, ?_⟩
      refine addI ?_
      exact hN _ _ ⟨⟨f + e, by omega, by omega, rfl⟩, by omega⟩

end
end K85
set_option Elab.async false
set_option linter.all false
set_option maxRecDepth 100000
set_option maxHeartbeats 4000000
namespace K85
open PySem PySem.Spec PyProof.Rows L2 PD DW DX
def isWd (y : PyData) : Prop := ∃ z : Str, y = .str z ∧ DW.wordOk 8 z = true
theorem wds_of {ys : List PyData} (h : ∀ y ∈ ys, isWd y) : ∃ ks : List Str, ys = ks.map .str ∧ ∀ z ∈ ks, DW.wordOk 8 z = true := by
  induction ys with
  | nil => exact ⟨[], rfl, fun c hc => by cases hc⟩
  | cons y ys ih =>
    obtain ⟨ks, rfl, h2⟩ := ih fun z hz => h z (List.mem_cons_of_mem _ hz)
    obtain ⟨z, rfl, hz⟩ := h y List.mem_cons_self
    refine ⟨z :: ks, rfl, fun x hx => ?_⟩
    rcases List.mem_cons.mp hx with rfl | hx
    · exact hz
    · exact h2 x hx
/-- what sorted(set(..)) of a few words gives -/
structure Wds (ts : List Str) : Prop where
  nd : ts.Nodup
  ok : ∀ t ∈ ts, DW.wordOk 8 t = true
  few : ts.length ≤ 3
  one : 1 ≤ ts.length
theorem wds_sorted {ks ts : List Str} (hk : ∀ z ∈ ks, DW.wordOk 8 z = true) (h1 : 1 ≤ ks.length) (h3 : ks.length ≤ 3) (pm : ts.Perm (SX.insAll ks)) : Wds ts := by
  obtain ⟨n, m, l⟩ := SX.insAll_props ks
  refine ⟨pm.nodup_iff.mpr n, fun t ht => hk t ((m t).mp (pm.mem_iff.mp ht)), ?_, ?_⟩
  · rw [pm.length_eq]; omega
  · obtain ⟨k, hk2⟩ : ∃ k, k ∈ ks := List.exists_mem_of_length_pos h1
    exact List.length_pos_of_mem (pm.mem_iff.mpr ((m k).mpr hk2))
def spRows : Spi := fun R n xs Q => ∃ (a g c : Addr), R = stFam a g c ∧ xs = [.v (.ref a)] ∧ n + 400 ≤ Lim ∧ ∀ (rs : List Rw) (k : Nat), (∀ r ∈ rs, Drawn r) → rowsOk (rs.map Rw.data) = true → rs.length ≤ 9 → k ≤ n + 400 → Q (.d (.list (rs.map Rw.data))) k
theorem lowQ {a b : Int} (a0 : 0 ≤ a) (ab : a ≤ b) (b1 : 1 ≤ b) : 0 ≤ a / (Int.gcd a b : Int) ∧ a / (Int.gcd a b : Int) ≤ b / (Int.gcd a b : Int) ∧ 1 ≤ b / (Int.gcd a b : Int) ∧ Int.gcd (a / (Int.gcd a b : Int)) (b / (Int.gcd a b : Int)) = 1 ∧ b / (Int.gcd a b : Int) ≤ b := by
  have hn : 0 < Int.gcd a b := Nat.pos_of_ne_zero fun e => by
    have := (Int.gcd_eq_zero_iff.mp e).2
    omega
  have hg : (0 : Int) < (Int.gcd a b : Int) := by omega
  have gb : (Int.gcd a b : Int) ≤ b := Int.le_of_dvd (by omega) (Int.gcd_dvd_right ..)
  refine ⟨Int.ediv_nonneg a0 (by omega), Int.ediv_le_ediv hg ab, Int.le_ediv_of_mul_le hg (by omega), Int.gcd_ediv_gcd_ediv_gcd hn, Int.ediv_le_self _ (by omega)⟩

section
variable {P : Program} {w : World} {K : PySem.W.Frag} {mg : Str → Option Value} {base : Heap}
theorem ok__law_rows (c : Tx K w mg) : FnOk P w K mg base (L2.CX P w) 5 (He.ga K "_law_rows") (fdOf K (He.ga K "_law_rows")) ["_law_state"] (liftI K (spRows) 1) := by
  refine fn_okI c.fd__law_rows sc__law_rows rfl fun cdv A outer s I H E R hr => ⟨_, _, (ssi_cons (si (fun _ => (ds_setO (i := 1) sc__law_rows.nd rfl (by first | exact .inl rfl | exact .inr rfl) (de_lst da_nil))))
      (ssi_cons (si_for (passes_of rfl) rfl (ii_any (ei_sortSetT rfl rfl (hu64 hr) (by rfl) c.f_sorted (by rfl) c.f_set (ei_lc (own := [("_law_k_here", 3)]) rfl sc__law_rows.nd (ii_range1 (by rfl) c.f_range (ai_cons (ei_op op_cat' (fun _ => (od_add rfl)) (ei (fun _ => de_int)) (ei_fn (ok__law_take c) (hr.mono (by decide)) (by rfl) c.g__law_take c.fd__law_take.kp (bd__law_take c) (takesC (takes_of rfl rfl rfl rfl)) rfl (ai_cons (ei (fun _ => (de_var (pv 0)))) (ai_cons (ei (fun _ => de_int)) ai_nil)))) ai_nil)) (blkOk_by (N := ["_law_state", "_law_found", "_law_title", "_law_k_here", "_law_others", "_law_numbers", "_law_at", "_law_other_here", "_law_share", "_law_below", "_law_awaited"]) (sc := defScope (top 46)) (by decide +kernel)) (fun _ _ _ _ _ _ => (dg_name (i := 3) sc__law_rows.nd rfl (by first | exact .inl rfl | exact .inr rfl))) (fun _ _ _ _ _ => (ei_fn (ok__law_name c) (hr.mono (by decide)) (by rfl) c.g__law_name c.fd__law_name.kp (bd__law_name c) takesC0 rfl (ai_cons (ei (fun _ => (de_var (pv 0)))) ai_nil))) (tgt_name (by decide)) s) rfl) rfl) (fun _ => (dg_name (i := 2) sc__law_rows.nd rfl (by first | exact .inl rfl | exact .inr rfl))) (ssi_cons (si_set (i := 4) sc__law_rows.nd rfl (by first | exact .inl rfl | exact .inr rfl) (ei_sortSetT rfl rfl (hu64 hr) (by rfl) c.f_sorted (by rfl) c.f_set (ei_lc (own := [("_law_k_here", 3)]) rfl sc__law_rows.nd (ii_range1 (by rfl) c.f_range (ai_cons (ei_op op_cat' (fun _ => (od_add rfl)) (ei (fun _ => de_int)) (ei_fn (ok__law_take c) (hr.mono (by decide)) (by rfl) c.g__law_take c.fd__law_take.kp (bd__law_take c) (takesC (takes_of rfl rfl rfl rfl)) rfl (ai_cons (ei (fun _ => (de_var (pv 0)))) (ai_cons (ei (fun _ => de_int)) ai_nil)))) ai_nil)) (blkOk_by (N := ["_law_state", "_law_found", "_law_title", "_law_k_here", "_law_others", "_law_numbers", "_law_at", "_law_other_here", "_law_share", "_law_below", "_law_awaited"]) (sc := defScope (top 46)) (by decide +kernel)) (fun _ _ _ _ _ _ => (dg_name (i := 3) sc__law_rows.nd rfl (by first | exact .inl rfl | exact .inr rfl))) (fun _ _ _ _ _ => (ei_fn (ok__law_name c) (hr.mono (by decide)) (by rfl) c.g__law_name c.fd__law_name.kp (bd__law_name c) takesC0 rfl (ai_cons (ei (fun _ => (de_var (pv 0)))) ai_nil))) (tgt_name (by decide)) s) rfl))
      (ssi_cons (si (fun _ => (ds_parO1 (i := 5) (j := 6) rfl sc__law_rows.nd rfl rfl (by decide) rfl rfl (da_consN (de_lst da_nil) (da_cons de_int da_nil)) rfl)))
      (ssi_cons (si_for (passes_of rfl) rfl (ii_range1 (by rfl) c.f_range (ai_cons (ei_fn (ok__law_take c) (hr.mono (by decide)) (by rfl) c.g__law_take c.fd__law_take.kp (bd__law_take c) (takesC (takes_of rfl rfl rfl rfl)) rfl (ai_cons (ei (fun _ => (de_var (pv 0)))) (ai_cons (ei (fun _ => de_int)) ai_nil))) ai_nil)) (fun _ => (dg_name (i := 3) sc__law_rows.nd rfl (by first | exact .inl rfl | exact .inr rfl))) (ssi_cons (si_set (i := 6) sc__law_rows.nd rfl (by first | exact .inl rfl | exact .inr rfl) (ei_op op_cat' (fun _ => (od_add rfl)) (ei (fun _ => (de_op op_cat' (od_add rfl) (de_var (pv 6)) de_int))) (ei_fn (ok__law_take c) (hr.mono (by decide)) (by rfl) c.g__law_take c.fd__law_take.kp (bd__law_take c) (takesC (takes_of rfl rfl rfl rfl)) rfl (ai_cons (ei (fun _ => (de_var (pv 0)))) (ai_cons (ei (fun _ => de_int)) ai_nil)))))
      (ssi_one (si (fun _ => (ds_app (i := 5) rfl (de_var (pv 6)) (fun q => ps_expr (pe_bm PySem.F.plainAttrs_list PySem.F.slot_list_append PySem.F.type_list_append mt_append (pv 5) (pa_cons q pa_nil)))))))))
      (ssi_one (si_for (passes_of rfl) rfl (ii_any (ei (fun _ => (de_rev (de_var (pv 4)) rfl))) rfl) (fun _ => (dg_name (i := 7) sc__law_rows.nd rfl (by first | exact .inl rfl | exact .inr rfl))) (ssi_cons (si_par (i := 8) (j := 9) rfl sc__law_rows.nd rfl rfl (by decide) rfl rfl (ai_cons (ei_fn (ok__law_pick c) (hr.mono (by decide)) (by rfl) c.g__law_pick c.fd__law_pick.kp (bd__law_pick c) (takesC (takes_of rfl rfl rfl rfl)) rfl (ai_cons (ei (fun _ => (de_var (pv 0)))) (ai_cons (ei (fun _ => (de_lst (da_cons (de_tup (da_cons de_int (da_cons de_int da_nil))) (da_cons (de_tup (da_cons de_int (da_cons de_int da_nil))) (da_cons (de_tup (da_cons de_int (da_cons de_int da_nil))) da_nil)))))) ai_nil))) (ai_cons (ei_op op_cat' (fun _ => (od_add rfl)) (ei (fun _ => de_int)) (ei_fn (ok__law_take c) (hr.mono (by decide)) (by rfl) c.g__law_take c.fd__law_take.kp (bd__law_take c) (takesC (takes_of rfl rfl rfl rfl)) rfl (ai_cons (ei (fun _ => (de_var (pv 0)))) (ai_cons (ei (fun _ => de_int)) ai_nil)))) ai_nil)) rfl)
      (ssi_cons (si_set (i := 10) sc__law_rows.nd rfl (by first | exact .inl rfl | exact .inr rfl) (ei_fnP (ok__law_lowest c) (hr.mono (by decide)) (by rfl) c.g__law_lowest c.fd__law_lowest.kp (bd__law_lowest c) (takesC (takes_of rfl rfl rfl rfl)) rfl (ai_cons (ei_fn (ok__law_take c) (hr.mono (by decide)) (by rfl) c.g__law_take c.fd__law_take.kp (bd__law_take c) (takesC (takes_of rfl rfl rfl rfl)) rfl (ai_cons (ei (fun _ => (de_var (pv 0)))) (ai_cons (ei (fun _ => (de_op op_cat' (od_add rfl) (de_var (pv 9)) de_int))) ai_nil))) (ai_cons (ei (fun _ => (de_var (pv 9)))) ai_nil))))
      (ssi_one (si (fun _ => (ds_app (i := 1) rfl (de_tup (da_cons (de_var (pv 2)) (da_cons (de_var (pv 7)) (da_cons (de_var (pv 8)) (da_cons (de_var (pv 10)) (da_cons (de_callTy call_tuple_of (cd_tuple rfl) (by rfl) c.f_tuple b_tuple (da_cons (de_var (pv 5)) da_nil)) da_nil)))))) (fun q => ps_expr (pe_bm PySem.F.plainAttrs_list PySem.F.slot_list_append PySem.F.type_list_append mt_append (pv 1) (pa_cons q pa_nil)))))))))))))))
      (ssi_one (si (fun _ => (ds_ret (de_var (pv 1)))))))), fun n xs Qd hl h => ?_⟩
  obtain ⟨a, g, cc, rfl, rfl, hn, h⟩ := h
  refine seqJ (fun δ' k => δ' = [some (.v (.ref a)), some (.own []), none, none, none, none, none, none, none, none, none] ∧ k ≤ n) ?_ fun N hN => ⟨Nat.zero_le _, hN _ _ ⟨rfl, Nat.le_refl _⟩⟩
  rintro _ k0 ⟨rfl, hk0⟩
  refine ⟨rfl, nnv, a, g, cc, 3, rfl, rfl, by decide, by decide, by omega, fun i i0 i1 => ?_⟩
  refine addI ?_
  refine nilJ ?_
  refine ⟨Int.le_trans (show 1 + i ≤ 21 by omega) (by decide), by omega, ?_⟩
  have eli : (rangeD 0 (1 + i).toNat).length ≤ 3 := by rw [range_len]; omega
  refine lcGo_relI (c := 20) (Pr := isWd) (fun x _ m KK hm kk => ⟨rfl, nnv1, a, g, cc, rfl, rfl, by omega, fun z j hz hj => kk _ _ ⟨z, rfl, hz⟩ hj⟩) fun ys m1 hly hp hm1 => ?_
  rw [List.nil_append]
  obtain ⟨ks, rfl, hks⟩ := wds_of hp
  rw [List.length_map] at hly
  have hm1 : m1 ≤ _ + 1 + 60 := Nat.le_trans hm1 (Nat.add_le_add_left (Nat.mul_le_mul_left 20 eli) _)
  rw [range_len] at hly
  refine ⟨ks, rfl, by omega, fun ts pm st => ⟨trivial, ?_⟩⟩
  have W := wds_sorted hks (by omega) (by omega) pm
  refine forGoI_inv (fun ds δ k => k + 80 * ds.length ≤ n + 310 ∧ ∃ (rs : List Rw) (rest : List Str) (x2 x3 x4 x5 x6 x7 x8 x9 x10 : Option DV), δ = [some (.v (.ref a)), some (.own (rs.map Rw.data)), x2, x3, x4, x5, x6, x7, x8, x9, x10] ∧ ds = rest.map .str ∧ RowsInv rs rest ∧ (∀ t ∈ rest, DW.wordOk 8 t = true) ∧ 1 ≤ rs.length + rest.length) ?_ ?_ _ _ _ ⟨by rw [List.length_map]; have := W.few; omega, [], ts, none, none, none, none, none, none, none, none, none, rfl, rfl, ⟨fun r hr => (by cases hr), st, fun t _ q => (by cases q), W.nd, fun g => Nat.zero_le _, .nil, (show 0 + 3 * ts.length ≤ 9 by have := W.few; omega)⟩, W.ok, (show 1 ≤ 0 + ts.length by have := W.one; omega)⟩
  · rintro d ds _ k1 ⟨hk1, rs, rest, x2, x3, x4, x5, x6, x7, x8, x9, x10, rfl, e, inv, wk, pos⟩ N hN
    simp only [List.length_cons] at hk1
    cases rest with
    | nil => cases e
    | cons t rest =>
    injection e with e1 e2
    subst e1
    subst e2
    refine setG (δ' := [some (.v (.ref a)), some (.own (rs.map Rw.data)), some (.d (.str t)), x3, x4, x5, x6, x7, x8, x9, x10]) rfl ?_
    refine ⟨rfl, nnv, a, g, cc, 3, rfl, rfl, by decide, by decide, by omega, fun j j0 j1 => ?_⟩
    refine addI ?_
    refine nilJ ?_
    refine ⟨Int.le_trans (show 1 + j ≤ 21 by omega) (by decide), by omega, ?_⟩
    have elj : (rangeD 0 (1 + j).toNat).length ≤ 3 := by rw [range_len]; omega
    refine lcGo_relI (c := 20) (Pr := isWd) (fun x _ m KK hm kk => ⟨rfl, nnv1, a, g, cc, rfl, rfl, by omega, fun z j hz hj => kk _ _ ⟨z, rfl, hz⟩ hj⟩) fun ys m2 hly hp hm2 => ?_
    rw [List.nil_append]
    obtain ⟨k2, rfl, hk2⟩ := wds_of hp
    rw [List.length_map] at hly
    have hm2 : m2 ≤ _ + 1 + 60 := Nat.le_trans hm2 (Nat.add_le_add_left (Nat.mul_le_mul_left 20 elj) _)
    rw [range_len] at hly
    refine ⟨k2, rfl, by omega, fun os pm2 st2 => ?_⟩
    have W2 := wds_sorted hk2 (by omega) (by omega) pm2
    refine setG (δ' := [some (.v (.ref a)), some (.own (rs.map Rw.data)), some (.d (.str t)), x3, some (.d (.list (os.map .str))), x5, x6, x7, x8, x9, x10]) rfl ?_
    dsimp only
    refine seqJ (fun δ' k => δ' = [some (.v (.ref a)), some (.own (rs.map Rw.data)), some (.d (.str t)), x3, some (.d (.list (os.map .str))), some (.own (([] : List Int).map .int)), some (.d (.int 0)), x7, x8, x9, x10] ∧ k ≤ k1 + 61) ?_ fun N2 hN2 => ⟨Nat.zero_le _, hN2 _ _ ⟨rfl, hm2⟩⟩
    rintro _ k3 ⟨rfl, hk3⟩
    refine seqJ (fun δ' k => k ≤ k1 + 65 ∧ ∃ (ns : List Int) (p : Int) (x3 : Option DV), δ' = [some (.v (.ref a)), some (.own (rs.map Rw.data)), some (.d (.str t)), x3, some (.d (.list (os.map .str))), some (.own (ns.map .int)), some (.d (.int p)), x7, x8, x9, x10] ∧ ns.length ≤ 3 ∧ ns.Pairwise (· < ·) ∧ ∀ n ∈ ns, 1 ≤ n ∧ n ≤ 40) ?_ fun N2 hN2 => ?_
    · rintro _ k4 ⟨hk4, ns, p, x3, rfl, n3, np, nb⟩
      refine ⟨_, rfl, trivial, ?_⟩
      refine forGoI_inv (fun ds δ k => k + 3 * ds.length ≤ k1 + 75 ∧ ∃ (rs2 : List Rw) (orest : List Str) (x7 x8 x9 x10 : Option DV), δ = [some (.v (.ref a)), some (.own ((rs ++ rs2).map Rw.data)), some (.d (.str t)), x3, some (.d (.list (os.map .str))), some (.own (ns.map .int)), some (.d (.int p)), x7, x8, x9, x10] ∧ ds = orest.map .str ∧ (∀ r ∈ rs2, Drawn r ∧ r.g = t) ∧ (rs2.map (·.o) ++ orest).Nodup ∧ (∀ o ∈ orest, DW.wordOk 8 o = true) ∧ rs2.length + orest.length = os.length) ?_ ?_ _ _ _ ⟨by rw [← List.map_reverse, List.length_map, List.length_reverse]; have := W2.few; omega, [], os.reverse, _, _, _, _, by rw [List.append_nil], by rw [List.map_reverse], fun r hr => (by cases hr), (show os.reverse.Nodup from (List.reverse_perm os).nodup_iff.mpr W2.nd), fun o ho => W2.ok o (List.mem_reverse.mp ho), by simp⟩
      · rintro d ds _ k5 ⟨hk5, rs2, orest, x7, x8, x9, x10, rfl, e, al, nd, wk2, ln⟩ N3 hN3
        simp only [List.length_cons] at hk5
        cases orest with
        | nil => cases e
        | cons o orest =>
        injection e with e1 e2
        subst e1
        subst e2
        refine setG (δ' := [some (.v (.ref a)), some (.own ((rs ++ rs2).map Rw.data)), some (.d (.str t)), x3, some (.d (.list (os.map .str))), some (.own (ns.map .int)), some (.d (.int p)), some (.d (.str o)), x8, x9, x10]) rfl ?_
        refine seqJ (fun δ' k => k ≤ k5 + 2 ∧ ∃ (s1 s2 b : Int), ((s1 = 0 ∧ s2 = 1) ∨ (s1 = 1 ∧ s2 = 2) ∨ (s1 = 1 ∧ s2 = 1)) ∧ 1 ≤ b ∧ b ≤ 2000 ∧ δ' = [some (.v (.ref a)), some (.own ((rs ++ rs2).map Rw.data)), some (.d (.str t)), x3, some (.d (.list (os.map .str))), some (.own (ns.map .int)), some (.d (.int p)), some (.d (.str o)), some (.d (.tuple [.int s1, .int s2])), some (.d (.int b)), x10]) ?_ fun N4 hN4 => ?_
        · rintro _ k6 ⟨hk6, s1, s2, b, hs, b0, b1, rfl⟩
          refine ⟨rfl, nnv, a, g, cc, b + 1, rfl, rfl, by omega, by omega, by omega, fun q q0 q1 => ?_⟩
          refine ⟨rfl, nn2, q, b, rfl, q0, b0, ?_, ?_⟩
          · show b.natAbs < 2 ^ 101
            omega
          have L := lowQ q0 (show q ≤ b by omega) b0
          generalize q / ((Int.gcd q b : Nat) : Int) = u1 at *
          generalize b / ((Int.gcd q b : Nat) : Int) = u2 at *
          refine setG (δ' := [some (.v (.ref a)), some (.own ((rs ++ rs2).map Rw.data)), some (.d (.str t)), x3, some (.d (.list (os.map .str))), some (.own (ns.map .int)), some (.d (.int p)), some (.d (.str o)), some (.d (.tuple [.int s1, .int s2])), some (.d (.int b)), some (.d (.tuple [.int u1, .int u2]))]) rfl ?_
          refine ⟨_, rfl, (show 5 ≤ sizeLine by decide), ?_, hN3 _ _ ⟨by omega, rs2 ++ [⟨t, o, s1, s2, u1, u2, ns⟩], orest, some (.d (.str o)), some (.d (.tuple [.int s1, .int s2])), some (.d (.int b)), some (.d (.tuple [.int u1, .int u2])), ?_, rfl, ?_, ?_, fun z hz => wk2 z (List.mem_cons_of_mem _ hz), ?_⟩⟩
          · have : 60 ≤ sizeLine := by decide
            have l1 := inv.len
            have l2 := W2.few
            simp only [List.length_cons] at ln l1
            rw [List.length_map, List.length_append]
            omega
          · rw [← List.append_assoc, List.map_append (l₁ := rs ++ rs2)]
            rfl
          · intro r hr
            rcases List.mem_append.mp hr with hr | hr
            · exact al r hr
            · have er := List.mem_singleton.mp hr
              subst er
              exact ⟨⟨⟨wk t List.mem_cons_self, wk2 o List.mem_cons_self, hs, L.1, L.2.1, L.2.2.1, L.2.2.2.1, fun n hn => (nb n hn).1, np⟩, (show u2 ≤ 2000 by omega), n3, fun n hn => (nb n hn).2⟩, rfl⟩
          · rw [List.map_append, List.append_assoc]
            exact nd
          · rw [List.length_append]
            simp only [List.length_cons] at ln
            show rs2.length + 1 + orest.length = os.length
            omega
        · refine ⟨(show 2 ≤ sizeLine by decide), (show 2 ≤ sizeLine by decide), (show 2 ≤ sizeLine by decide), (show 3 ≤ sizeLine by decide), rfl, nnv, a, g, cc, _, _, rfl, rfl, rfl, by simp, (show 3 ≤ sizeLine by decide), by omega, fun y hy => ?_⟩
          simp only [List.mem_cons, List.not_mem_nil, or_false] at hy
          rcases hy with rfl | rfl | rfl
          all_goals
            refine ⟨rfl, nnv, a, g, cc, 2000, rfl, rfl, by decide, by decide, by omega, fun b b0 b1 => ?_⟩
            refine addI ?_
            refine hN4 _ _ ⟨by omega, _, _, 1 + b, ?_, by omega, by omega, rfl⟩
            decide
      · rintro _ k5 ⟨hk5, rs2, orest, x7, x8, x9, x10, rfl, e, al, nd, wk2, ln⟩
        simp only [List.length_nil] at hk5
        have er : orest = [] := List.map_eq_nil_iff.mp e.symm
        subst er
        have o1 := W2.one
        have o3 := W2.few
        simp only [List.length_nil, List.append_nil] at ln nd pos
        refine hN _ _ ⟨by rw [List.length_map] at hk1 ⊢; omega, rs ++ rs2, rest, _, _, _, _, _, _, _, _, _, rfl, rfl, inv.next al nd (by omega) (by omega), fun z hz => wk z (List.mem_cons_of_mem _ hz), ?_⟩
        rw [List.length_append]
        omega
    · refine ⟨rfl, nnv, a, g, cc, 4, rfl, rfl, by decide, by decide, by omega, fun m m0 m1 => ⟨Int.le_trans (show m ≤ 21 by omega) (by decide), by omega, ?_⟩⟩
      refine forGoI_inv (fun ds δ k => k + ds.length ≤ k1 + 65 ∧ ∃ (ns : List Int) (p : Int) (x3 : Option DV), δ = [some (.v (.ref a)), some (.own (rs.map Rw.data)), some (.d (.str t)), x3, some (.d (.list (os.map .str))), some (.own (ns.map .int)), some (.d (.int p)), x7, x8, x9, x10] ∧ ns.length + ds.length ≤ 3 ∧ ns.Pairwise (· < ·) ∧ (∀ n ∈ ns, 1 ≤ n ∧ n ≤ p) ∧ 0 ≤ p ∧ p ≤ 10 * ns.length) ?_ ?_ _ _ _ ⟨(by rw [range_len]; omega), [], 0, _, rfl, (by rw [range_len]; show 0 + m.toNat ≤ 3; omega), .nil, fun n hn => (by cases hn), by decide, by decide⟩
      · rintro d ds _ k5 ⟨hk5, ns, p, x3, rfl, hl, hp, hb, p0, p1⟩ N3 hN3
        simp only [List.length_cons] at hk5
        refine setG (δ' := [some (.v (.ref a)), some (.own (rs.map Rw.data)), some (.d (.str t)), some (.d d), some (.d (.list (os.map .str))), some (.own (ns.map .int)), some (.d (.int p)), x7, x8, x9, x10]) rfl ?_
        refine ⟨rfl, nnv, a, g, cc, 9, rfl, rfl, by decide, by decide, by omega, fun q q0 q1 => ?_⟩
        refine addI ?_
        refine setG (δ' := [some (.v (.ref a)), some (.own (rs.map Rw.data)), some (.d (.str t)), some (.d d), some (.d (.list (os.map .str))), some (.own (ns.map .int)), some (.d (.int (p + 1 + q))), x7, x8, x9, x10]) rfl ?_
        simp only [List.length_cons] at hl
        refine ⟨?_, hN3 _ _ ⟨by omega, ns ++ [p + 1 + q], p + 1 + q, _, by rw [List.map_append]; rfl, ?_, ?_, ?_, by omega, ?_⟩⟩
        · have : 60 ≤ sizeLine := by decide
          rw [List.length_map]
          omega
        · rw [List.length_append]
          show ns.length + 1 + ds.length ≤ 3
          omega
        · refine List.pairwise_append.mpr ⟨hp, List.pairwise_singleton _ _, fun x hx y hy => ?_⟩
          have e : y = p + 1 + q := List.mem_singleton.mp hy
          have := (hb x hx).2
          omega
        · intro n hn
          rcases List.mem_append.mp hn with hn | hn
          · have := hb n hn
            omega
          · have e : n = p + 1 + q := List.mem_singleton.mp hn
            omega
        · rw [List.length_append]
          show p + 1 + q ≤ 10 * ((ns.length + 1 : Nat) : Int)
          omega
      · rintro _ k5 ⟨hk5, ns, p, x3, rfl, hl, hp, hb, p0, p1⟩
        simp only [List.length_nil] at hl hk5
        exact hN2 _ _ ⟨by omega, ns, p, x3, rfl, by omega, hp, fun n hn => by have := hb n hn; omega⟩
  · rintro _ k1 ⟨hk1, rs, rest, x2, x3, x4, x5, x6, x7, x8, x9, x10, rfl, e, inv, wk, pos⟩
    simp only [List.length_nil] at hk1
    have er : rest = [] := List.map_eq_nil_iff.mp e.symm
    subst er
    have l := inv.len
    simp only [List.length_nil] at l pos
    exact h rs _ inv.al (inv.done fun z => by rw [z] at pos; exact absurd pos (by decide)) (by omega) (by omega)

end
end K85
set_option Elab.async false
set_option linter.all false
set_option maxRecDepth 100000
set_option maxHeartbeats 4000000
namespace K85
open PySem PySem.Spec PyProof.Rows L2 PD DW DX
mutual
/-- texts of at most A signs, whole numbers below B, at most n items each -/
def fitS (A B n : Nat) : PyData → Bool
  | .str z => decide (z.length ≤ A) && PyData.strOk z
  | .int i => decide (i.natAbs < B)
  | .list xs => decide (xs.length ≤ n) && fitSs A B n xs
  | .tuple xs => decide (xs.length ≤ n) && fitSs A B n xs
  | .dict _ => false
  | _ => true
def fitSs (A B n : Nat) : List PyData → Bool
  | [] => true
  | x :: xs => fitS A B n x && fitSs A B n xs
end
theorem fitSs_all {A B n : Nat} : ∀ {xs : List PyData}, fitSs A B n xs = true ↔ ∀ x ∈ xs, fitS A B n x = true
  | [] => by simp [fitSs]
  | x :: xs => by
    rw [fitSs, Bool.and_eq_true, fitSs_all, List.forall_mem_cons]
mutual
theorem fitS_N {A B n m : Nat} (hA : A ≤ 1000) (hB : B ≤ 10 ^ 30) (h : n ≤ m) : ∀ d : PyData, fitS A B n d = true → fitN m d = true
  | .str z, q => by
    simp only [fitS, fitN, Bool.and_eq_true, decide_eq_true_eq] at q ⊢
    exact ⟨Nat.le_trans q.1 hA, q.2⟩
  | .int i, q => by
    simp only [fitS, fitN, decide_eq_true_eq] at q ⊢
    exact Nat.lt_of_lt_of_le q hB
  | .none, _ => rfl
  | .bool _, _ => rfl
  | .dict _, q => by simp [fitS] at q
  | .list xs, q => by
    simp only [fitS, fitN, Bool.and_eq_true, decide_eq_true_eq] at q ⊢
    exact ⟨Nat.le_trans q.1 h, fitSs_N hA hB h xs q.2⟩
  | .tuple xs, q => by
    simp only [fitS, fitN, Bool.and_eq_true, decide_eq_true_eq] at q ⊢
    exact ⟨Nat.le_trans q.1 h, fitSs_N hA hB h xs q.2⟩
theorem fitSs_N {A B n m : Nat} (hA : A ≤ 1000) (hB : B ≤ 10 ^ 30) (h : n ≤ m) : ∀ xs : List PyData, fitSs A B n xs = true → fitNs m xs = true
  | [], _ => rfl
  | x :: xs, q => by
    rw [fitSs, Bool.and_eq_true] at q
    rw [fitNs, Bool.and_eq_true]
    exact ⟨fitS_N hA hB h x q.1, fitSs_N hA hB h xs q.2⟩
end
mutual
theorem fitS_mono {A B n A' B' m : Nat} (hA : A ≤ A') (hB : B ≤ B') (h : n ≤ m) : ∀ d : PyData, fitS A B n d = true → fitS A' B' m d = true
  | .str z, q => by
    simp only [fitS, Bool.and_eq_true, decide_eq_true_eq] at q ⊢
    exact ⟨Nat.le_trans q.1 hA, q.2⟩
  | .int i, q => by
    simp only [fitS, decide_eq_true_eq] at q ⊢
    exact Nat.lt_of_lt_of_le q hB
  | .none, _ => rfl
  | .bool _, _ => rfl
  | .dict _, q => by simp [fitS] at q
  | .list xs, q => by
    simp only [fitS, Bool.and_eq_true, decide_eq_true_eq] at q ⊢
    exact ⟨Nat.le_trans q.1 h, fitSs_mono hA hB h xs q.2⟩
  | .tuple xs, q => by
    simp only [fitS, Bool.and_eq_true, decide_eq_true_eq] at q ⊢
    exact ⟨Nat.le_trans q.1 h, fitSs_mono hA hB h xs q.2⟩
theorem fitSs_mono {A B n A' B' m : Nat} (hA : A ≤ A') (hB : B ≤ B') (h : n ≤ m) : ∀ xs : List PyData, fitSs A B n xs = true → fitSs A' B' m xs = true
  | [], _ => rfl
  | x :: xs, q => by
    rw [fitSs, Bool.and_eq_true] at q ⊢
    exact ⟨fitS_mono hA hB h x q.1, fitSs_mono hA hB h xs q.2⟩
end
/-- fits, not deep -/
structure Fz (A B n k : Nat) (d : PyData) : Prop where
  f : fitS A B n d = true
  d : d.depth ≤ k
section
variable {A B n k : Nat}
theorem Fz.tup {xs : List PyData} (l : xs.length ≤ n) (h : ∀ x ∈ xs, Fz A B n k x) : Fz A B n (k + 1) (.tuple xs) := by
  refine ⟨?_, ?_⟩
  · simp only [fitS, Bool.and_eq_true, decide_eq_true_eq]
    exact ⟨l, fitSs_all.mpr fun x hx => (h x hx).f⟩
  · have := depthAll_le fun x hx => (h x hx).d
    simp only [PyData.depth]
    omega
theorem Fz.lst {xs : List PyData} (l : xs.length ≤ n) (h : ∀ x ∈ xs, Fz A B n k x) : Fz A B n (k + 1) (.list xs) := by
  refine ⟨?_, ?_⟩
  · simp only [fitS, Bool.and_eq_true, decide_eq_true_eq]
    exact ⟨l, fitSs_all.mpr fun x hx => (h x hx).f⟩
  · have := depthAll_le fun x hx => (h x hx).d
    simp only [PyData.depth]
    omega
theorem Fz.int {i : Int} (h : i.natAbs < B) : Fz A B n k (.int i) := ⟨by simp only [fitS, decide_eq_true_eq]; exact h, by simp only [PyData.depth]; exact Nat.zero_le _⟩
theorem Fz.str {z : Str} (h1 : z.length ≤ A) (h2 : PyData.strOk z = true) : Fz A B n k (.str z) := ⟨by simp only [fitS, Bool.and_eq_true, decide_eq_true_eq]; exact ⟨h1, h2⟩, by simp only [PyData.depth]; exact Nat.zero_le _⟩
theorem Fz.word {z : Str} (hA : 8 ≤ A) (h : DW.wordOk 8 z = true) : Fz A B n k (.str z) := .str (by have := wordOk_len h; omega) (wordOk_strOk h)
theorem Fz.mono {A' B' m j : Nat} {d : PyData} (h : Fz A B n k d) (a : A ≤ A') (b : B ≤ B') (l : n ≤ m) (l2 : k ≤ j) : Fz A' B' m j d := ⟨fitS_mono a b l d h.f, Nat.le_trans h.d l2⟩
theorem Fz.ft {d : PyData} (h : Fz A B n k d) (a : A ≤ 1000) (b : B ≤ 10 ^ 30) (l : n ≤ 60) (l2 : k ≤ 40) : Ft d := ⟨fitS_N a b l d h.f, Nat.le_trans h.d l2⟩
end
/-- behind s bends -/
abbrev Fs (s k : Nat) : PyData → Prop := Fz (100 + s) (10 ^ 20 + 1000 * s) (9 * 2 ^ s) k
abbrev Fd (n k : Nat) : PyData → Prop := Fz 100 (10 ^ 20) n k
theorem Drawn.fd {r : Rw} (h : Drawn r) : Fd 9 2 r.data := by
  have a2 := h.a
  have b2 := h.ok.a2
  have a0 := h.ok.a0
  have a1 := h.ok.a1
  have sh : r.s1.natAbs ≤ 2 ∧ r.s2.natAbs ≤ 2 := by rcases h.ok.s with ⟨e, f⟩ | ⟨e, f⟩ | ⟨e, f⟩ <;> rw [e, f] <;> decide
  refine Fz.tup (show 5 ≤ 9 by decide) fun x hx => ?_
  simp only [List.mem_cons, List.not_mem_nil, or_false] at hx
  rcases hx with rfl | rfl | rfl | rfl | rfl
  · exact .word (by decide) h.ok.g
  · exact .word (by decide) h.ok.o
  · refine Fz.tup (show 2 ≤ 9 by decide) fun y hy => ?_
    simp only [List.mem_cons, List.not_mem_nil, or_false] at hy
    rcases hy with rfl | rfl
    · exact .int (by omega)
    · exact .int (by omega)
  · refine Fz.tup (show 2 ≤ 9 by decide) fun y hy => ?_
    simp only [List.mem_cons, List.not_mem_nil, or_false] at hy
    rcases hy with rfl | rfl
    · exact .int (by omega)
    · exact .int (by omega)
  · refine Fz.tup (by rw [List.length_map]; have := h.n; omega) fun y hy => ?_
    obtain ⟨i, hi, rfl⟩ := List.mem_map.mp hy
    have m1 := h.m i hi
    have m0 := h.ok.n1 i hi
    exact .int (by omega)
theorem Drawn.small {r : Rw} (h : Drawn r) : r.small := ⟨by
  have := h.a
  have := h.ok.a2
  show r.a2.natAbs < 2 ^ 101
  omega⟩
theorem kOf_le {st : List (Int × Int)} {kl many : Int} (h : ∀ p ∈ st, p.2 ≤ 100) (h1 : kl ≤ 100) : kOf st kl many ≤ 100 := by
  induction st with
  | nil => exact h1
  | cons p r ih =>
    obtain ⟨a, k⟩ := p
    unfold kOf
    split
    · exact h _ List.mem_cons_self
    · exact ih fun q hq => h q (List.mem_cons_of_mem _ hq)
def spGood : Spi := fun R n xs Q => ∃ (a g c : Addr) (t : DX.Tm), R = stFam a g c ∧ xs = [.v (.ref a), .d t.data] ∧ t.ok ∧ n + 2000 ≤ Lim ∧ ∀ (ds : List PyData) (k : Nat), sumsGo t ds (-1) t.b 0 = true → Fs 0 5 (.list ds) → ds.length ≤ 4 → k ≤ n + 2000 → Q (.d (.list ds)) k
/-- a day at the end of good days -/
theorem sumsGo_snoc (t : DX.Tm) : ∀ (ds : List PyData) (l st m : Int), sumsGo t ds l st m = true → ∃ l' st' m', (∀ es, sumsGo t (ds ++ es) l st m = sumsGo t es l' st' m')
  | [], l, st, m, _ => ⟨l, st, m, fun es => rfl⟩
  | d :: ds, l, st, m, h => by
    match d, h with
    | .tuple [.int n, .int a, .int b, rows], h =>
      simp only [sumsGo, Bool.and_eq_true] at h
      obtain ⟨l', st', m', q⟩ := sumsGo_snoc t ds _ _ _ h.2
      refine ⟨l', st', m', fun es => ?_⟩
      show (_ && sumsGo t (ds ++ es) _ _ _) = _
      rw [q es, h.1.1.1, h.1.1.2, h.1.2]
      rfl

section
variable {P : Program} {w : World} {K : PySem.W.Frag} {mg : Str → Option Value} {base : Heap}
theorem ok__law_good (c : Tx K w mg) : FnOk P w K mg base (L2.CX P w) 6 (He.ga K "_law_good") (fdOf K (He.ga K "_law_good")) ["_law_state", "_law_terms_here"] (liftI K (spGood) 2) := by
  refine fn_okI c.fd__law_good sc__law_good rfl fun cdv A outer s I H E R hr => ⟨_, _, (ssi_cons (si (fun _ => (ds_par4O (i := 2) (j := 3) (k := 4) (l := 5) rfl rfl sc__law_good.nd rfl rfl rfl rfl rfl rfl rfl rfl (da_consN (de_lst da_nil) (da_cons (de_un un_neg ud_neg de_int) (da_cons (de_ix (de_var (pv 1)) de_int (fun _ _ => rfl) rfl) (da_cons de_int da_nil)))) (by first | exact .inl rfl | exact .inr rfl) (by first | exact .inl rfl | exact .inr rfl) (by first | exact .inl rfl | exact .inr rfl) (by first | exact .inl rfl | exact .inr rfl))))
      (ssi_cons (si_for (passes_of rfl) rfl (ii_range1 (by rfl) c.f_range (ai_cons (ei_fn (ok__law_take c) (hr.mono (by decide)) (by rfl) c.g__law_take c.fd__law_take.kp (bd__law_take c) (takesC (takes_of rfl rfl rfl rfl)) rfl (ai_cons (ei (fun _ => (de_var (pv 0)))) (ai_cons (ei (fun _ => de_int)) ai_nil))) ai_nil)) (fun _ => (dg_name (i := 6) sc__law_good.nd rfl (by first | exact .inl rfl | exact .inr rfl))) (ssi_cons (si_par (i := 3) (j := 7) rfl sc__law_good.nd rfl rfl (by decide) rfl rfl (ai_cons (ei_op op_cat' (fun _ => (od_add rfl)) (ei (fun _ => (de_op op_cat' (od_add rfl) (de_var (pv 3)) de_int))) (ei_fn (ok__law_take c) (hr.mono (by decide)) (by rfl) c.g__law_take c.fd__law_take.kp (bd__law_take c) (takesC (takes_of rfl rfl rfl rfl)) rfl (ai_cons (ei (fun _ => (de_var (pv 0)))) (ai_cons (ei (fun _ => de_int)) ai_nil)))) (ai_cons (ei_fn (ok__law_rows c) (hr.mono (by decide)) (by rfl) c.g__law_rows c.fd__law_rows.kp (bd__law_rows c) (takesC (takes_of rfl rfl rfl rfl)) rfl (ai_cons (ei (fun _ => (de_var (pv 0)))) ai_nil)) ai_nil)) rfl)
      (ssi_cons (si (fun _ => (ds_set (i := 8) sc__law_good.nd rfl (by first | exact .inl rfl | exact .inr rfl) (de_callB (call_max2 rfl) cd_int2 (by rfl) c.f_max b_max (da_cons (de_ix (de_var (pv 1)) de_int (fun _ _ => rfl) rfl) (da_cons (de_op op_cat' (od_add rfl) (de_var (pv 4)) (de_fnC (ok__law_gained c) (hr.mono (by decide)) (by rfl) c.g__law_gained c.fd__law_gained.kp (bd__law_gained c) (takesC (takes_of rfl rfl rfl rfl)) rfl (da_cons (de_var (pv 7)) (da_cons (de_fnC (ok__law_k c) (hr.mono (by decide)) (by rfl) c.g__law_k c.fd__law_k.kp (bd__law_k c) (takesC (takes_of rfl rfl rfl rfl)) rfl (da_cons (de_var (pv 1)) (da_cons (de_var (pv 5)) da_nil))) da_nil)))) da_nil))))))
      (ssi_cons (si_app (i := 2) rfl (ei_tup (ai_cons (ei (fun _ => (de_var (pv 3)))) (ai_cons (ei (fun _ => (de_var (pv 4)))) (ai_cons (ei (fun _ => (de_var (pv 8)))) (ai_cons (ei_if (ti_cmp (op_eqX (hu64 hr)) (nomark _) (fun _ => (od_eq rfl)) (ei_fn (ok__law_take c) (hr.mono (by decide)) (by rfl) c.g__law_take c.fd__law_take.kp (bd__law_take c) (takesC (takes_of rfl rfl rfl rfl)) rfl (ai_cons (ei (fun _ => (de_var (pv 0)))) (ai_cons (ei (fun _ => de_int)) ai_nil))) (ei (fun _ => de_int))) (ei (fun _ => (de_var (pv 7)))) (ei (fun _ => (de_callTy call_tuple_of (cd_tuple rfl) (by rfl) c.f_tuple b_tuple (da_cons (de_var (pv 7)) da_nil))))) ai_nil))))) (fun q => ps_expr (pe_bm PySem.F.plainAttrs_list PySem.F.slot_list_append PySem.F.type_list_append mt_append (pv 2) (pa_cons q pa_nil))))
      (ssi_one (si (fun _ => (ds_par (i := 4) (j := 5) rfl sc__law_good.nd rfl rfl (by decide) rfl rfl (da_cons (de_var (pv 8)) (da_cons (de_op op_cat' (od_add rfl) (de_var (pv 5)) (de_lenSetT rfl rfl (hu64 hr) (by rfl) c.f_len (by rfl) c.f_set (de_lc (own := [("_law_row", 9)]) rfl sc__law_good.nd (di_any (de_var (pv 7)) rfl) (blkOk_by (N := ["_law_state", "_law_terms_here", "_law_found", "_law_last", "_law_stands", "_law_many", "_law_k_here", "_law_some", "_law_behind", "_law_row"]) (sc := defScope (top 47)) (by decide +kernel)) (fun _ _ _ _ _ => (dg_name (i := 9) sc__law_good.nd rfl (by first | exact .inl rfl | exact .inr rfl))) (fun _ _ _ _ _ => dts_nil) (fun _ _ _ _ _ => (de_ix (de_var (pv 9)) de_int (fun _ _ => rfl) rfl)) (tgt_name (by decide)) s) rfl)) da_nil)) rfl))))))))
      (ssi_one (si (fun _ => (ds_ret (de_var (pv 2)))))))), fun n xs Qd hl h => ?_⟩
  obtain ⟨a, g, cc, t, rfl, rfl, ok, hn, h⟩ := h
  refine seqJ (fun δ' k => δ' = [some (.v (.ref a)), some (.d t.data), some (.own []), some (.d (.int (-1))), some (.d (.int t.b)), some (.d (.int 0)), none, none, none, none] ∧ k ≤ n) ?_ fun N hN => ⟨Nat.zero_le _, _, at0, hN _ _ ⟨rfl, Nat.le_refl _⟩⟩
  rintro _ k0 ⟨rfl, hk0⟩
  refine ⟨rfl, nnv, a, g, cc, 5, rfl, rfl, by decide, by decide, by omega, fun m m0 m1 => ⟨Int.le_trans (show m ≤ 21 by omega) (by decide), by omega, ?_⟩⟩
  refine forGoI_inv (fun ds δ k => k + 402 * ds.length ≤ n + 1700 ∧ ∃ (ps : List PyData) (last st many : Int) (x6 x7 x8 x9 : Option DV), δ = [some (.v (.ref a)), some (.d t.data), some (.own ps), some (.d (.int last)), some (.d (.int st)), some (.d (.int many)), x6, x7, x8, x9] ∧ ps.length + ds.length ≤ 4 ∧ (∀ es, sumsGo t (ps ++ es) (-1) t.b 0 = sumsGo t es last st many) ∧ (∀ p ∈ ps, Fd 9 4 p) ∧ -1 ≤ last ∧ last + 1 ≤ 90 * ps.length ∧ 0 ≤ st ∧ st ≤ 4000 + 900 * ps.length) ?_ ?_ _ _ _ ⟨(by rw [range_len]; omega), [], -1, t.b, 0, none, none, none, none, rfl, (by rw [range_len]; show 0 + m.toNat ≤ 4; omega), fun es => rfl, fun p hp => (by cases hp), by decide, by decide, (by have := ok.f0; have := ok.fb; omega), ok.b1⟩
  · rintro d ds _ k1 ⟨hk1, ps, last, st, many, x6, x7, x8, x9, rfl, hl, hs, hf, l0, l1, s0, s1⟩ N hN
    simp only [List.length_cons] at hk1
    refine setG (δ' := [some (.v (.ref a)), some (.d t.data), some (.own ps), some (.d (.int last)), some (.d (.int st)), some (.d (.int many)), some (.d d), x7, x8, x9]) rfl ?_
    refine seqJ (fun δ' k => k ≤ k1 + 401 ∧ ∃ (q : Int) (rs : List Rw), 0 ≤ q ∧ q < 90 ∧ (∀ r ∈ rs, Drawn r) ∧ rowsOk (rs.map Rw.data) = true ∧ rs.length ≤ 9 ∧ δ' = [some (.v (.ref a)), some (.d t.data), some (.own ps), some (.d (.int (last + 1 + q))), some (.d (.int st)), some (.d (.int many)), some (.d d), some (.d (.list (rs.map Rw.data))), x8, x9]) ?_ fun N2 hN2 => ?_
    · rintro _ k2 ⟨hk2, q, rs, q0, q1, al, rok, len, rfl⟩
      obtain ⟨gn, eg2⟩ : ∃ gn, gain (rs.map Rw.data) (kOf t.st t.kl many) = gn := ⟨_, rfl⟩
      refine ⟨_, atI_nat (j := 3) rfl, rfl, nn2, t, many, rfl, rfl, nn2, _, rs, _, rfl, .inl rfl, fun r hr => ⟨(al r hr).ok, Drawn.small (al r hr)⟩, by omega, k_bits ok many, ?_⟩
      rw [eg2]
      refine addI ?_
      refine nilI ?_
      refine int2I (f := fun i j => if j > i then j else i) (i := t.f) (j := st + gn) ?_
      have em : (if st + gn > t.f then st + gn else t.f) = max t.f (st + gn) := by
        split <;> omega
      refine setG (δ' := [some (.v (.ref a)), some (.d t.data), some (.own ps), some (.d (.int (last + 1 + q))), some (.d (.int st)), some (.d (.int many)), some (.d d), some (.d (.list (rs.map Rw.data))), some (.d (.int (if st + gn > t.f then st + gn else t.f))), x9]) rfl ?_
      rw [em]
      have kb0 := kOf_pos (many := many) (fun p hp => (ok.low p hp).2.2.1) ok.k0
      have kb1 := kOf_le (many := many) (fun p hp => (ok.low p hp).2.2.2) ok.k1
      have gb := gain_small rs (fun r hr => (al r hr).ok) (kOf t.st t.kl many) (by omega)
      rw [eg2] at gb
      have gu : gn ≤ 900 := by
        refine Int.le_trans gb.2 ?_
        have x := Int.mul_le_mul kb1 (show ((rs.length : Nat) : Int) ≤ 9 by omega) (Int.natCast_nonneg _) (by decide)
        exact x
      have f0 := ok.f0
      have fb := ok.fb
      have b1 := ok.b1
      obtain ⟨bh, eb⟩ : ∃ bh, max t.f (st + gn) = bh := ⟨_, rfl⟩
      rw [eb]
      dsimp only [DEndI.at]
      refine seqJ (fun δ' k => k ≤ k1 + 402 ∧ ∃ rows : PyData, isSeqOf rows (rs.map Rw.data) ∧ δ' = [some (.v (.ref a)), some (.d t.data), some (.own (ps ++ [.tuple [.int (last + 1 + q), .int st, .int bh, rows]])), some (.d (.int (last + 1 + q))), some (.d (.int st)), some (.d (.int many)), some (.d d), some (.d (.list (rs.map Rw.data))), some (.d (.int bh)), x9]) ?_ fun N3 hN3 => ?_
      · rintro _ k3 ⟨hk3, rows, hq, rfl⟩
        refine ⟨trivial, lcGo_map (f := fun r : Rw => .str r.g) (fun r hr KK kk => ⟨_, at0, kk⟩) ?_⟩
        rw [List.nil_append, show (rs.map fun r : Rw => PyData.str r.g) = (rs.map fun r : Rw => r.g).map .str by rw [List.map_map]; rfl]
        refine ⟨rs.map (fun r : Rw => r.g), rfl, by rw [List.length_map]; omega, ?_⟩
        refine addI ?_
        have er : rowList rows = rs.map Rw.data := by rcases hq with rfl | rfl <;> rfl
        have rl : ledRows rows = true := by rcases hq with rfl | rfl <;> exact rok
        have e8 : many1 (rowList rows) = ((SX.insAll (rs.map fun r : Rw => r.g)).length : Nat) := by
          unfold many1
          rw [er, titles_rows]
        simp only [List.length_cons] at hl
        have bh0 : 0 ≤ bh := by omega
        have full : ledDay (.tuple [.int (last + 1 + q), .int st, .int bh, rows]) last = true := by
          show (ledRows rows && (isNum (.int (last + 1 + q)) (last + 1) (some 400) && (isNum (.int st) 0 none && isNum (.int bh) 0 none))) = true
          rw [rl]
          simp only [isNum, Bool.true_and, Bool.and_true, Bool.and_eq_true, Bool.not_eq_true', decide_eq_false_iff_not, decide_eq_true_eq]
          refine ⟨⟨by omega, by omega⟩, by omega, by omega⟩
        refine hN _ _ ⟨by omega, ps ++ [.tuple [.int (last + 1 + q), .int st, .int bh, rows]], last + 1 + q, bh, _, _, _, _, _, rfl, ?_, fun es => ?_, fun z hz => ?_, by omega, ?_, bh0, ?_⟩
        · rw [List.length_append]
          show ps.length + 1 + ds.length ≤ 4
          omega
        · rw [List.append_assoc, hs]
          show sumsGo t (.tuple [.int (last + 1 + q), .int st, .int bh, rows] :: es) last st many = _
          rw [go_step, full, er, eg2, eb, decide_eq_true rfl, ← e8, er]
          simp only [decide_true, Bool.true_and]
        · rcases List.mem_append.mp hz with hz | hz
          · exact hf z hz
          · have ez := List.mem_singleton.mp hz
            subst ez
            refine Fz.tup (show 4 ≤ 9 by decide) fun x hx => ?_
            simp only [List.mem_cons, List.not_mem_nil, or_false] at hx
            rcases hx with rfl | rfl | rfl | rfl
            · exact .int (by omega)
            · exact .int (by omega)
            · exact .int (by omega)
            · have all : ∀ y ∈ rs.map Rw.data, Fd 9 2 y := fun y hy => by
                obtain ⟨r, hr, rfl⟩ := List.mem_map.mp hy
                exact Drawn.fd (al r hr)
              rcases hq with rfl | rfl
              · exact Fz.lst (by rw [List.length_map]; omega) all
              · exact Fz.tup (by rw [List.length_map]; omega) all
        · rw [List.length_append]
          show last + 1 + q + 1 ≤ 90 * ((ps.length + 1 : Nat) : Int)
          omega
        · rw [List.length_append]
          show bh ≤ 4000 + 900 * ((ps.length + 1 : Nat) : Int)
          omega
      · have : 60 ≤ sizeLine := by decide
        simp only [List.length_cons] at hl
        refine ⟨rfl, nnv, a, g, cc, 2, rfl, rfl, by decide, by decide, by omega, fun i i0 i1 => ⟨.inl rfl, ?_⟩⟩
        refine bKG (fun _ => ?_) fun _ => ?_
        · refine ifT ?_
          exact ⟨(show 4 ≤ sizeLine by decide), by omega, hN3 _ _ ⟨by omega, .list _, .inl rfl, rfl⟩⟩
        · refine ifF ?_
          refine ⟨_, rfl, ?_⟩
          refine nilJ ?_
          exact ⟨(show 4 ≤ sizeLine by decide), by omega, hN3 _ _ ⟨by omega, .tuple _, .inr rfl, rfl⟩⟩
    · refine ⟨rfl, nnv, a, g, cc, 90, rfl, rfl, by decide, by decide, by omega, fun q q0 q1 => ?_⟩
      refine addI ?_
      refine ⟨rfl, nnv1, a, g, cc, rfl, rfl, by omega, fun rs j al rok len hj => ?_⟩
      exact hN2 _ _ ⟨by omega, q, rs, q0, q1, al, rok, len, rfl⟩
  · rintro _ k1 ⟨hk1, ps, last, st, many, x6, x7, x8, x9, rfl, hl, hs, hf, l0, l1, s0, s1⟩
    simp only [List.length_nil] at hk1
    simp only [List.length_nil] at hl
    refine h ps _ ?_ (Fz.lst (by omega) hf) (by omega) (by omega)
    have e := hs []
    rw [List.append_nil] at e
    rw [e]
    rfl

end
end K85
set_option Elab.async false
set_option linter.all false
set_option maxRecDepth 100000
set_option maxHeartbeats 4000000
namespace K85
open PySem PySem.Spec PyProof.Rows L2 PD DW DX
theorem strOk_ofString (s : String) : PyData.strOk (Str.ofString s) = true := by
  unfold PyData.strOk
  rw [Str.ofString_eq_toList, ← Array.all_toList, List.all_eq_true]
  intro c hc
  simp only [List.mem_map] at hc
  obtain ⟨a, _, rfl⟩ := hc
  refine decide_eq_true ?_
  have := a.valid
  show a.toNat < 0x110000
  rcases a.valid with h | ⟨_, h⟩
  · show a.val.toNat < _
    have h' : a.val.toNat < 0xd800 := h
    omega
  · exact h
theorem strI_len2 {i : Int} (h1 : i.natAbs < 10 ^ 60) : (Str.ofString (toString i)).length ≤ 61 := by
  by_cases h0 : 0 ≤ i
  · have := strI_len h0 h1
    show (strI i).length ≤ 61
    omega
  · obtain ⟨m, rfl⟩ : ∃ m, i = Int.negSucc m := by
      cases i with
      | ofNat n => exact absurd (Int.natCast_nonneg n) h0
      | negSucc m => exact ⟨m, rfl⟩
    have e : toString (Int.negSucc m) = "-" ++ toString (m + 1) := rfl
    have h1 : m + 1 < 10 ^ 60 := h1
    have h2 : (strI ((m + 1 : Nat) : Int)).length ≤ 60 := strI_len (by omega) (by rw [Int.natAbs_natCast]; exact h1)
    have h3 : (strI ((m + 1 : Nat) : Int)).length = (toString (m + 1)).length := by
      show (Str.ofString (toString ((m + 1 : Nat) : Int))).length = _
      rw [PySem.ofString_length]
      rfl
    rw [e, PySem.ofString_length, String.length_append]
    have : ("-" : String).length = 1 := by decide
    omega
theorem strOk_app {x y : Str} (hx : PyData.strOk x = true) (hy : PyData.strOk y = true) : PyData.strOk (x ++ y) = true := by
  unfold PyData.strOk at *
  rw [← Array.all_toList] at *
  show ((x.cps ++ y.cps).toList).all _ = true
  rw [Array.toList_append, List.all_append, hx, hy]
  rfl
theorem cut_mem {α : Type} {xs : List α} {lo hi : Option Int} {x : α} (h : x ∈ PD.cut xs lo hi) : x ∈ xs := by
  unfold PD.cut at h
  exact List.mem_of_mem_drop (List.mem_of_mem_take h)
theorem Fz.int_inv {A B n k : Nat} {i : Int} (h : Fz A B n k (.int i)) : i.natAbs < B := by have := h.f; simpa only [fitS, decide_eq_true_eq] using this
theorem Fz.str_inv {A B n k : Nat} {z : Str} (h : Fz A B n k (.str z)) : z.length ≤ A ∧ PyData.strOk z = true := by have := h.f; simpa only [fitS, Bool.and_eq_true, decide_eq_true_eq] using this
theorem depth_item {x : PyData} : ∀ {xs : List PyData}, x ∈ xs → x.depth ≤ PyData.depthAll xs
  | y :: ys, h => by
    simp only [PyData.depthAll]
    rcases List.mem_cons.mp h with rfl | h
    · omega
    · have := depth_item h
      omega
theorem Fz.lst_inv {A B n k : Nat} {xs : List PyData} (h : Fz A B n k (.list xs)) : xs.length ≤ n ∧ ∃ j, k = j + 1 ∧ ∀ x ∈ xs, Fz A B n j x := by
  have f := h.f
  have d := h.d
  simp only [fitS, Bool.and_eq_true, decide_eq_true_eq] at f
  simp only [PyData.depth] at d
  refine ⟨f.1, k - 1, by omega, fun x hx => ⟨fitSs_all.mp f.2 x hx, ?_⟩⟩
  have := depth_item hx
  omega
theorem Fz.tup_inv {A B n k : Nat} {xs : List PyData} (h : Fz A B n k (.tuple xs)) : xs.length ≤ n ∧ ∃ j, k = j + 1 ∧ ∀ x ∈ xs, Fz A B n j x := by
  have f := h.f
  have d := h.d
  simp only [fitS, Bool.and_eq_true, decide_eq_true_eq] at f
  simp only [PyData.depth] at d
  refine ⟨f.1, k - 1, by omega, fun x hx => ⟨fitSs_all.mp f.2 x hx, ?_⟩⟩
  have := depth_item hx
  omega
theorem Fz.none {A B n k : Nat} : Fz A B n k .none := ⟨rfl, Nat.zero_le _⟩
theorem Fz.bool {A B n k : Nat} {b : Bool} : Fz A B n k (.bool b) := ⟨rfl, Nat.zero_le _⟩
theorem Fz.two {A B n k : Nat} {a b : Int} (h : 9 ≤ n) (ha : a.natAbs < B) (hb : b.natAbs < B) : Fz A B n (k + 1) (.tuple [.int a, .int b]) := Fz.tup (by show 2 ≤ n; omega) fun x hx => by
  simp only [List.mem_cons, List.not_mem_nil, or_false] at hx
  rcases hx with rfl | rfl
  · exact .int ha
  · exact .int hb
/-- the limits of what is bent -/
structure Li (A B N : Nat) : Prop where
  a0 : 61 ≤ A
  a1 : A ≤ 900
  b0 : 10000 ≤ B
  b1 : B ≤ 10 ^ 29
  n0 : 9 ≤ N
  n1 : N ≤ 30
def spOther : Spi := fun R n xs Q => ∃ (a g c : Addr) (d : PyData) (A B N k : Nat), R = stFam a g c ∧ xs = [.v (.ref a), .d d] ∧ Li A B N ∧ Fz A B N k d ∧ n < Lim ∧ ∀ y, Fz (A + 1) (B + 1000) (2 * N) (k + 1) y → Q (.d y) (n + 1)
theorem lt_log {i : Int} {B : Nat} (h : i.natAbs < B) (hb : B ≤ 10 ^ 29) : i.natAbs.log2 < 1920 := log2_lt (Nat.lt_of_lt_of_le h (Nat.le_trans hb (by decide)))
theorem sz60 {n : Nat} (h : n ≤ 100) : n ≤ sizeLine := by
  have : 100 ≤ sizeLine := by decide
  omega
def pairsL : List PyData := [.tuple [.int 0, .int 2], .tuple [.int 2, .int 2], .tuple [.int 3, .int 2], .tuple [.int 1, .int 3], .tuple [.int (-1), .int 2], .tuple [.int 1, .int 0], .tuple [.int 0, .int 1], .tuple [.int 1, .int 1], .tuple [.int 1, .int 2]]
theorem pairsL_ok {A B N k : Nat} (L : Li A B N) : ∀ y ∈ pairsL, Fz (A + 1) (B + 1000) (2 * N) (k + 1) y := fun y hy => by
  have := L.b0
  have := L.n0
  simp only [pairsL, List.mem_cons, List.not_mem_nil, or_false] at hy
  rcases hy with rfl | rfl | rfl | rfl | rfl | rfl | rfl | rfl | rfl <;> exact Fz.two (by omega) (by simp <;> omega) (by simp <;> omega)
theorem seq_ok {A B N j : Nat} {xs : List PyData} (L : Li A B N) (l : xs.length ≤ N) (hx : ∀ x ∈ xs, Fz A B N j x) : ∀ zs : List PyData, (∀ z ∈ zs, z ∈ xs) → zs.length ≤ 2 * N → Fz (A + 1) (B + 1000) (2 * N) (j + 1 + 1) (.list zs) ∧ Fz (A + 1) (B + 1000) (2 * N) (j + 1 + 1) (.tuple zs) := fun zs m l2 => by
  have f : ∀ z ∈ zs, Fz (A + 1) (B + 1000) (2 * N) (j + 1) z := fun z hz => (hx z (m z hz)).mono (by omega) (by omega) (by omega) (by omega)
  exact ⟨Fz.lst l2 f, Fz.tup l2 f⟩

section
variable {P : Program} {w : World} {K : PySem.W.Frag} {mg : Str → Option Value} {base : Heap}
theorem ok__law_other (c : Tx K w mg) : FnOk P w K mg base (L2.CX P w) 4 (He.ga K "_law_other") (fdOf K (He.ga K "_law_other")) ["_law_state", "_law_part"] (liftI K (spOther) 2) := by
  refine fn_okI c.fd__law_other sc__law_other rfl fun cdv A outer s I H E R hr => ⟨_, _, (ssi_cons (si_if (ti (fun _ => (dt_val (de_callB call_isi (cd_isi rfl) (by rfl) c.f_isinstance b_isinstance (da_cons (de_var (pv 1)) (da_cons (de_ty (by rfl) c.f_int b_int) da_nil)))))) (ssi_cons (si (fun _ => (ds_set (i := 2) sc__law_other.nd rfl (by first | exact .inl rfl | exact .inr rfl) (de_lst (da_cons (de_op op_catB (od_addB rfl) (de_var (pv 1)) de_int) (da_cons (de_op op_subBX od_subB (de_var (pv 1)) de_int) (da_cons de_int (da_cons (de_un un_neg ud_neg de_int) (da_cons de_bl (da_cons (de_callTy call_strB cd_strB (by rfl) c.f_str b_str (da_cons (de_var (pv 1)) da_nil)) (da_cons de_non (da_cons de_int (da_cons (de_op op_catB (od_addB rfl) (de_var (pv 1)) de_int) (da_cons (de_lst (da_cons (de_var (pv 1)) da_nil)) da_nil))))))))))))))
      (ssi_one (si_ret (ei_fn (ok__law_pick c) (hr.mono (by decide)) (by rfl) c.g__law_pick c.fd__law_pick.kp (bd__law_pick c) (takesC (takes_of rfl rfl rfl rfl)) rfl (ai_cons (ei (fun _ => (de_var (pv 0)))) (ai_cons (ei (fun _ => (de_var (pv 2)))) ai_nil)))))) ssi_nil)
      (ssi_cons (si_if (ti (fun _ => (dt_val (de_callB call_isi (cd_isi rfl) (by rfl) c.f_isinstance b_isinstance (da_cons (de_var (pv 1)) (da_cons (de_ty (by rfl) c.f_str b_str) da_nil)))))) (ssi_one (si_ret (ei_fn (ok__law_pick c) (hr.mono (by decide)) (by rfl) c.g__law_pick c.fd__law_pick.kp (bd__law_pick c) (takesC (takes_of rfl rfl rfl rfl)) rfl (ai_cons (ei (fun _ => (de_var (pv 0)))) (ai_cons (ei (fun _ => (de_lst (da_cons de_str (da_cons de_str (da_cons (de_op op_catB (od_addB rfl) (de_var (pv 1)) de_str) (da_cons de_non (da_cons de_int (da_cons (de_lst (da_cons (de_var (pv 1)) da_nil)) (da_cons de_str da_nil)))))))))) ai_nil))))) ssi_nil)
      (ssi_cons (si_if (ti (fun _ => (dt_val (de_isi2 (de_var (pv 1)) rfl (by rfl) c.f_isinstance (pe_bltn (by rfl) c.f_list b_list rfl) (pe_bltn (by rfl) c.f_tuple b_tuple rfl))))) (ssi_cons (si (fun _ => (ds_set (i := 2) sc__law_other.nd rfl (by first | exact .inl rfl | exact .inr rfl) (de_lst (da_cons (de_callTy call_list_of (cd_list rfl) (by rfl) c.f_list b_list (da_cons (de_var (pv 1)) da_nil)) (da_cons (de_callTy call_tuple_of (cd_tuple rfl) (by rfl) c.f_tuple b_tuple (da_cons (de_var (pv 1)) da_nil)) (da_cons (de_slice (de_var (pv 1)) (do_some de_int) do_none rfl) (da_cons (de_op op_catB (od_addB rfl) (de_var (pv 1)) (de_slice (de_var (pv 1)) do_none (do_some de_int) rfl)) (da_cons (de_revX (de_var (pv 1)) rfl) (da_cons (de_op op_catB (od_addB rfl) (de_slice (de_var (pv 1)) do_none (do_some de_int) rfl) (de_var (pv 1))) (da_cons (de_op op_catB (od_addB rfl) (de_var (pv 1)) (de_var (pv 1))) (da_cons de_non da_nil))))))))))))
      (ssi_one (si_ret (ei_fn (ok__law_pick c) (hr.mono (by decide)) (by rfl) c.g__law_pick c.fd__law_pick.kp (bd__law_pick c) (takesC (takes_of rfl rfl rfl rfl)) rfl (ai_cons (ei (fun _ => (de_var (pv 0)))) (ai_cons (ei (fun _ => (de_op op_catB (od_addB rfl) (de_var (pv 2)) (de_lst (da_cons (de_tup (da_cons de_int (da_cons de_int da_nil))) (da_cons (de_tup (da_cons de_int (da_cons de_int da_nil))) (da_cons (de_tup (da_cons de_int (da_cons de_int da_nil))) (da_cons (de_tup (da_cons de_int (da_cons de_int da_nil))) (da_cons (de_tup (da_cons (de_un un_neg ud_neg de_int) (da_cons de_int da_nil))) (da_cons (de_tup (da_cons de_int (da_cons de_int da_nil))) (da_cons (de_tup (da_cons de_int (da_cons de_int da_nil))) (da_cons (de_tup (da_cons de_int (da_cons de_int da_nil))) (da_cons (de_tup (da_cons de_int (da_cons de_int da_nil))) da_nil))))))))))))) ai_nil)))))) ssi_nil)
      (ssi_one (si_ret (ei_fn (ok__law_pick c) (hr.mono (by decide)) (by rfl) c.g__law_pick c.fd__law_pick.kp (bd__law_pick c) (takesC (takes_of rfl rfl rfl rfl)) rfl (ai_cons (ei (fun _ => (de_var (pv 0)))) (ai_cons (ei (fun _ => (de_lst (da_cons de_non (da_cons de_int (da_cons (de_tup da_nil) (da_cons (de_lst da_nil) da_nil))))))) ai_nil)))))))), fun n xs Qd hl h => ?_⟩
  obtain ⟨a, g, cc, d, A, B, N, k, rfl, rfl, L, hd, hn, h⟩ := h
  have La0 := L.a0
  have La1 := L.a1
  have Lb0 := L.b0
  have Lb1 := L.b1
  have Ln0 := L.n0
  have Ln1 := L.n1
  refine ⟨d, rfl, .inr (.inl rfl), ?_⟩
  show bK _ _
  rw [isT_int]
  cases d with
  | int i =>
    have hi := hd.int_inv
    refine ⟨trivial, lt_log hi Lb1, ?_⟩
    refine ⟨(show 1 ≤ sizeLine by decide), (show 10 ≤ sizeLine by decide), ?_⟩
    refine ⟨rfl, nnv, a, g, cc, .list _, _, rfl, rfl, rfl, by simp, (show 10 ≤ sizeLine by decide), hn, fun y hy => h y ?_⟩
    simp only [List.mem_cons, List.not_mem_nil, or_false] at hy
    rcases hy with rfl | rfl | rfl | rfl | rfl | rfl | rfl | rfl | rfl | rfl
    · exact .int (by omega)
    · exact .int (by omega)
    · exact .int (by simp <;> omega)
    · exact .int (by simp <;> omega)
    · exact .bool
    · exact .str (Nat.le_trans (strI_len2 (Nat.lt_of_lt_of_le hi (Nat.le_trans Lb1 (by decide)))) (by omega)) (strOk_ofString _)
    · exact .none
    · exact .int (by simp <;> omega)
    · exact .int (by omega)
    · exact Fz.lst (by show 1 ≤ 2 * N; omega) fun x hx => by
        rw [List.mem_singleton.mp hx]
        exact .int (by omega)
  | bool b =>
    refine ⟨(show 1 ≤ sizeLine by decide), (show 10 ≤ sizeLine by decide), ?_⟩
    refine ⟨rfl, nnv, a, g, cc, .list _, _, rfl, rfl, rfl, by simp, (show 10 ≤ sizeLine by decide), hn, fun y hy => h y ?_⟩
    simp only [List.mem_cons, List.not_mem_nil, or_false] at hy
    have nb : nB b = 0 ∨ nB b = 1 := by cases b <;> simp [nB]
    rcases hy with rfl | rfl | rfl | rfl | rfl | rfl | rfl | rfl | rfl | rfl
    · exact .int (by omega)
    · exact .int (by omega)
    · exact .int (by simp <;> omega)
    · exact .int (by simp <;> omega)
    · exact .bool
    · cases b
      · exact .str (Nat.le_trans (show (Str.ofString "False").length ≤ 5 by decide) (by omega)) (strOk_ofString _)
      · exact .str (Nat.le_trans (show (Str.ofString "True").length ≤ 5 by decide) (by omega)) (strOk_ofString _)
    · exact .none
    · exact .int (by simp <;> omega)
    · exact .int (by omega)
    · exact Fz.lst (by show 1 ≤ 2 * N; omega) fun x hx => by
        rw [List.mem_singleton.mp hx]
        exact .bool
  | str z =>
    obtain ⟨z1, z2⟩ := hd.str_inv
    refine ⟨_, rfl, .inl rfl, ?_⟩
    refine ⟨Nat.le_trans (show z.length + 1 ≤ 1000 by omega) (by decide), (show 1 ≤ sizeLine by decide), (show 7 ≤ sizeLine by decide), ?_⟩
    refine ⟨rfl, nnv, a, g, cc, .list _, _, rfl, rfl, rfl, by simp, (show 7 ≤ sizeLine by decide), hn, fun y hy => h y ?_⟩
    simp only [List.mem_cons, List.not_mem_nil, or_false] at hy
    rcases hy with rfl | rfl | rfl | rfl | rfl | rfl | rfl
    · exact .str (Nat.le_trans (show ("A" : Str).length ≤ 1 by decide) (by omega)) (strOk_ofString _)
    · exact .str (Nat.le_trans (show ("" : Str).length ≤ 1 by decide) (by omega)) (strOk_ofString _)
    · exact .str (by rw [PySem.strLen_append]; exact Nat.add_le_add z1 (by decide)) (strOk_app z2 (strOk_ofString _))
    · exact .none
    · exact .int (by simp <;> omega)
    · exact Fz.lst (by show 1 ≤ 2 * N; omega) fun x hx => by
        rw [List.mem_singleton.mp hx]
        exact .str (by omega) z2
    · exact .str (Nat.le_trans (show ("abcdefghi" : Str).length ≤ 9 by decide) (by omega)) (strOk_ofString _)
  | list xs =>
    obtain ⟨hl, j, rfl, hx⟩ := hd.lst_inv
    refine ⟨_, rfl, .inl rfl, ?_⟩
    refine ⟨_, rfl, .inr (.inr (.inr (.inl rfl))), .inr (.inr (.inr (.inr rfl))), ?_⟩
    refine ⟨xs, rfl, xs, rfl, xs, rfl, xs, rfl, sz60 (by have := cut_len xs none (some 1); omega), xs, rfl, xs, rfl, sz60 (by have := cut_len xs none (some 1); omega), sz60 (by omega), (show 8 ≤ sizeLine by decide), ?_⟩
    refine ⟨(show 2 ≤ sizeLine by decide), (show 2 ≤ sizeLine by decide), (show 2 ≤ sizeLine by decide), (show 2 ≤ sizeLine by decide), (show 2 ≤ sizeLine by decide), (show 2 ≤ sizeLine by decide), (show 2 ≤ sizeLine by decide), (show 2 ≤ sizeLine by decide), (show 2 ≤ sizeLine by decide), (show 9 ≤ sizeLine by decide), (show 17 ≤ sizeLine by decide), ?_⟩
    refine ⟨rfl, nnv, a, g, cc, .list _, _, rfl, rfl, rfl, by simp, (show 17 ≤ sizeLine by decide), hn, fun y hy => h y ?_⟩
    have c1 := cut_len xs none (some 1)
    have c2 := cut_len xs (some 1) none
    have ok := seq_ok L hl hx
    have o1 := ok xs (fun z hz => hz) (by omega)
    have o2 := ok (PD.cut xs (some 1) none) (fun z hz => cut_mem hz) (by omega)
    have o3 := ok (xs ++ PD.cut xs none (some 1)) (fun z hz => (List.mem_append.mp hz).elim id cut_mem) (by rw [List.length_append]; omega)
    have o4 := ok xs.reverse (fun z hz => List.mem_reverse.mp hz) (by rw [List.length_reverse]; omega)
    have o5 := ok (PD.cut xs none (some 1) ++ xs) (fun z hz => (List.mem_append.mp hz).elim cut_mem id) (by rw [List.length_append]; omega)
    have o6 := ok (xs ++ xs) (fun z hz => (List.mem_append.mp hz).elim id id) (by rw [List.length_append]; omega)
    rcases List.mem_append.mp hy with hy | hy
    · simp only [List.mem_cons, List.not_mem_nil, or_false] at hy
      rcases hy with rfl | rfl | rfl | rfl | rfl | rfl | rfl | rfl
      · exact o1.1
      · exact o1.2
      · exact o2.1
      · exact o3.1
      · exact o4.1
      · exact o5.1
      · exact o6.1
      · exact .none
    · exact pairsL_ok L y hy
  | tuple xs =>
    obtain ⟨hl, j, rfl, hx⟩ := hd.tup_inv
    refine ⟨_, rfl, .inl rfl, ?_⟩
    refine ⟨_, rfl, .inr (.inr (.inr (.inl rfl))), .inr (.inr (.inr (.inr rfl))), ?_⟩
    refine ⟨xs, rfl, xs, rfl, sz60 (by have := cut_len xs none (some 1); omega), sz60 (by have := cut_len xs none (some 1); omega), sz60 (by omega), (show 8 ≤ sizeLine by decide), ?_⟩
    refine ⟨(show 2 ≤ sizeLine by decide), (show 2 ≤ sizeLine by decide), (show 2 ≤ sizeLine by decide), (show 2 ≤ sizeLine by decide), (show 2 ≤ sizeLine by decide), (show 2 ≤ sizeLine by decide), (show 2 ≤ sizeLine by decide), (show 2 ≤ sizeLine by decide), (show 2 ≤ sizeLine by decide), (show 9 ≤ sizeLine by decide), (show 17 ≤ sizeLine by decide), ?_⟩
    refine ⟨rfl, nnv, a, g, cc, .list _, _, rfl, rfl, rfl, by simp, (show 17 ≤ sizeLine by decide), hn, fun y hy => h y ?_⟩
    have c1 := cut_len xs none (some 1)
    have c2 := cut_len xs (some 1) none
    have ok := seq_ok L hl hx
    have o1 := ok xs (fun z hz => hz) (by omega)
    have o2 := ok (PD.cut xs (some 1) none) (fun z hz => cut_mem hz) (by omega)
    have o3 := ok (xs ++ PD.cut xs none (some 1)) (fun z hz => (List.mem_append.mp hz).elim id cut_mem) (by rw [List.length_append]; omega)
    have o4 := ok xs.reverse (fun z hz => List.mem_reverse.mp hz) (by rw [List.length_reverse]; omega)
    have o5 := ok (PD.cut xs none (some 1) ++ xs) (fun z hz => (List.mem_append.mp hz).elim cut_mem id) (by rw [List.length_append]; omega)
    have o6 := ok (xs ++ xs) (fun z hz => (List.mem_append.mp hz).elim id id) (by rw [List.length_append]; omega)
    rcases List.mem_append.mp hy with hy | hy
    · simp only [List.mem_cons, List.not_mem_nil, or_false] at hy
      rcases hy with rfl | rfl | rfl | rfl | rfl | rfl | rfl | rfl
      · exact o1.1
      · exact o1.2
      · exact o2.2
      · exact o3.2
      · exact o4.2
      · exact o5.2
      · exact o6.2
      · exact .none
    · exact pairsL_ok L y hy
  | none =>
    refine ⟨_, rfl, .inl rfl, ?_⟩
    refine ⟨_, rfl, .inr (.inr (.inr (.inl rfl))), .inr (.inr (.inr (.inr rfl))), ?_⟩
    refine ⟨Nat.zero_le _, Nat.zero_le _, (show 4 ≤ sizeLine by decide), ?_⟩
    refine ⟨rfl, nnv, a, g, cc, .list _, _, rfl, rfl, rfl, by simp, (show 4 ≤ sizeLine by decide), hn, fun y hy => h y ?_⟩
    simp only [List.mem_cons, List.not_mem_nil, or_false] at hy
    rcases hy with rfl | rfl | rfl | rfl
    · exact .none
    · exact .int (by simp <;> omega)
    · exact Fz.tup (Nat.zero_le _) fun x hx => (by cases hx)
    · exact Fz.lst (Nat.zero_le _) fun x hx => (by cases hx)
  | dict xs => exact absurd hd.f (by simp [fitS])

end
end K85
set_option Elab.async false
set_option linter.all false
set_option maxRecDepth 100000
set_option maxHeartbeats 4000000
namespace K85
open PySem PySem.Spec PyProof.Rows L2 PD DW DX
def spBent (m : Nat) : Spi := fun R n xs Q => ∃ (a g c : Addr) (d : PyData) (A B N k : Nat), R = stFam a g c ∧ xs = [.v (.ref a), .d d, .d (.int (m : Nat))] ∧ Li A B N ∧ Fz A B N k d ∧ n + (2 * m + 3) ≤ Lim ∧ ∀ y j, j ≤ n + (2 * m + 3) → Fz (A + 1) (B + 1000) (2 * N) (k + 1) y → Q (.d y) j
def preBent : Nat → Spi
  | 0 => fun _ _ _ _ => False
  | m + 1 => spBent m
theorem nnv3 {a : Addr} {d e : PyData} : ∀ x ∈ [DV.v (.ref a), DV.d d, DV.d e], ∀ ys, x ≠ DV.new ys := by
  intro x hx ys e
  subst e
  simp at hx
theorem fn_false {P : Program} {w : World} {K : PySem.W.Frag} {mg : Str → Option Value} {base : Heap} {k m : Nat} {f : Addr} {fd : FuncData} {ps : List Str} : FnOk P w K mg base (L2.CX P w) k f fd ps (liftI K (fun _ _ _ _ => False) m) :=
  ⟨fun vs H Q E h => by
    obtain ⟨_, _, _, _, _, _, _, _, h, _⟩ := h
    exact h.elim, fun A outer s H args us vs Q E _ _ _ _ h => by
    obtain ⟨_, _, _, _, _, _, _, _, h, _⟩ := h
    exact h.elim⟩
theorem ixN_ok {n j : Nat} (hj : j < n) : ixN n (j : Int) = some j := by
  unfold ixN
  rw [if_pos (by omega), if_pos (by omega)]
  simp

section
variable {P : Program} {w : World} {K : PySem.W.Frag} {mg : Str → Option Value} {base : Heap}
theorem bent_step (c : Tx K w mg) (m : Nat) (ih : FnOk P w K mg base (L2.CX P w) (20 + m) (He.ga K "_law_bent") (fdOf K (He.ga K "_law_bent")) ["_law_state", "_law_thing", "_law_deep"] (liftI K (preBent m) 3)) : FnOk P w K mg base (L2.CX P w) (20 + m + 1) (He.ga K "_law_bent") (fdOf K (He.ga K "_law_bent")) ["_law_state", "_law_thing", "_law_deep"] (liftI K (spBent m) 3) := by
  refine fn_okI c.fd__law_bent sc__law_bent rfl fun cdv A outer s I H E R hr => ⟨_, _, (ssi_cons (si_if ((wi_or (ti (fun _ => (dt_cmp (op_eqX (hu64 hr)) (nomark _) (od_eq rfl) (de_var (pv 2)) de_int))) (wi_or (ti (fun _ => (dt_not (dt_val (de_isi2 (de_var (pv 1)) rfl (by rfl) c.f_isinstance (pe_bltn (by rfl) c.f_list b_list rfl) (pe_bltn (by rfl) c.f_tuple b_tuple rfl)))))) (wi_or (ti (fun _ => (dt_cmp (op_eqX (hu64 hr)) (nomark _) (od_eq rfl) (de_callB call_len (cd_len rfl) (by rfl) c.f_len b_len (da_cons (de_var (pv 1)) da_nil)) de_int))) (wi_or1 (ti_cmp (op_eqX (hu64 hr)) (nomark _) (fun _ => (od_eq rfl)) (ei_fn (ok__law_take c) (hr.mono (by omega)) (by rfl) c.g__law_take c.fd__law_take.kp (bd__law_take c) (takesC (takes_of rfl rfl rfl rfl)) rfl (ai_cons (ei (fun _ => (de_var (pv 0)))) (ai_cons (ei (fun _ => de_int)) ai_nil))) (ei (fun _ => de_int)))))))).dt (ssi_one (si_ret (ei_fn (ok__law_other c) (hr.mono (by omega)) (by rfl) c.g__law_other c.fd__law_other.kp (bd__law_other c) (takesC (takes_of rfl rfl rfl rfl)) rfl (ai_cons (ei (fun _ => (de_var (pv 0)))) (ai_cons (ei (fun _ => (de_var (pv 1)))) ai_nil))))) ssi_nil)
      (ssi_cons (si_parO2 (i := 3) (j := 4) rfl sc__law_bent.nd rfl rfl (by decide) rfl rfl (ai_cons (ei_fn (ok__law_take c) (hr.mono (by omega)) (by rfl) c.g__law_take c.fd__law_take.kp (bd__law_take c) (takesC (takes_of rfl rfl rfl rfl)) rfl (ai_cons (ei (fun _ => (de_var (pv 0)))) (ai_cons (ei (fun _ => (de_callB call_len (cd_len rfl) (by rfl) c.f_len b_len (da_cons (de_var (pv 1)) da_nil)))) ai_nil))) (ai_consN (ei (fun _ => (de_callTy call_list_of (cd_list rfl) (by rfl) c.f_list b_list (da_cons (de_var (pv 1)) da_nil)))) ai_nil)) rfl)
      (ssi_cons (si_put (i := 4) (j := 3) (pv 4) (pv 3) (ei_fn ih hr (by rfl) c.g__law_bent c.fd__law_bent.kp (bd__law_bent c) (takesC (takes_of rfl rfl rfl rfl)) rfl (ai_cons (ei (fun _ => (de_var (pv 0)))) (ai_cons (ei (fun _ => (de_ix (de_var (pv 4)) (de_var (pv 3)) (fun _ _ => rfl) rfl))) (ai_cons (ei (fun _ => (de_op op_subX od_sub (de_var (pv 2)) de_int))) ai_nil)))))
      (ssi_one (si (fun _ => (ds_ret (de_if (dt_val (de_callB call_isi (cd_isi rfl) (by rfl) c.f_isinstance b_isinstance (da_cons (de_var (pv 1)) (da_cons (de_ty (by rfl) c.f_list b_list) da_nil)))) (de_var (pv 4)) (de_callTy call_tuple_of (cd_tuple rfl) (by rfl) c.f_tuple b_tuple (da_cons (de_var (pv 4)) da_nil)))))))))), fun n xs Qd hl h => ?_⟩
  obtain ⟨a, g, cc, d0, A1, B, N, k0, rfl, rfl, L, hd, hn, h⟩ := h
  have Ln1 := L.n1
  refine ⟨.inl rfl, ?_⟩
  rw [eqv_int]
  refine bKG (fun bm => ?_) fun bm => ?_
  · refine ⟨rfl, nnv, a, g, cc, d0, A1, B, N, k0, rfl, rfl, L, hd, by omega, fun y hy => h y _ (by omega) hy⟩
  have m1 : 1 ≤ m := by
    rcases Nat.eq_zero_or_pos m with e | e
    · rw [e] at bm; cases bm
    · exact e
  refine ⟨_, rfl, .inr (.inr (.inr (.inl rfl))), .inr (.inr (.inr (.inr rfl))), ?_⟩
  cases d0 with
  | list xs =>
    obtain ⟨hxl, j, rfl, hx⟩ := hd.lst_inv
    refine ⟨xs, rfl, .inl rfl, ?_⟩
    rw [eqv_int]
    refine bKG (fun b => ?_) fun b => ?_
    · refine ⟨rfl, nnv, a, g, cc, .list xs, A1, B, N, (j + 1), rfl, rfl, L, hd, by omega, fun y hy => h y _ (by omega) hy⟩
    have hpos : 0 < xs.length := by
      rcases Nat.eq_zero_or_pos xs.length with e | e
      · rw [e] at b; cases b
      · exact e
    have hl30 : xs.length ≤ 30 := by omega
    refine ⟨rfl, nnv, a, g, cc, 6, rfl, rfl, by decide, by decide, by omega, fun i i0 i1 => ⟨.inl rfl, ?_⟩⟩
    refine bKG (fun _ => ?_) fun _ => ?_
    · refine ⟨rfl, nnv, a, g, cc, .list xs, A1, B, N, (j + 1), rfl, rfl, L, hd, by omega, fun y hy => h y _ (by omega) hy⟩
    refine ⟨xs, rfl, rfl, nnv, a, g, cc, (xs.length : Nat), rfl, rfl, by omega, by omega, by omega, fun at_ at0 at1 => ?_⟩
    obtain ⟨q, rfl⟩ := Int.eq_ofNat_of_zero_le at0
    have hq : q < xs.length := by omega
    refine ⟨xs, rfl, ?_⟩
    refine nilJ ?_
    refine setG (δ' := [some (.v (.ref a)), some (.d (.list xs)), some (.d (.int (m : Nat))), some (.d (.int (q : Nat))), none]) rfl ?_
    show dSeqI _ _ _ [some (.v (.ref a)), some (.d (.list xs)), some (.d (.int (m : Nat))), some (.d (.int (q : Nat))), some (.own xs)] _
    refine ⟨xs, q, q, rfl, rfl, ixN_ok hq, xs, xs[q], rfl, atI_nat (List.getElem?_eq_getElem hq), trivial, rfl, nnv3, ?_⟩
    obtain ⟨m2, rfl⟩ : ∃ m2, m = m2 + 1 := ⟨m - 1, by omega⟩
    refine ⟨a, g, cc, xs[q], A1, B, N, j, rfl, by show [DV.v (V.ref a), DV.d xs[q], DV.d (PyData.int (((m2 + 1 : Nat) : Int) - 1))] = _; rw [show (((m2 + 1 : Nat) : Int) - 1) = (m2 : Nat) by omega], L, hx _ (List.getElem_mem hq), by omega, fun y c hc hy => ?_⟩
    refine ⟨_, rfl, .inr (.inr (.inr (.inl rfl))), ?_⟩
    refine h _ _ (by omega) (Fz.lst (by rw [List.length_set]; omega) fun z hz => ?_)
    rcases List.mem_or_eq_of_mem_set hz with hz | rfl
    · exact (hx z hz).mono (by omega) (by omega) (by omega) (by omega)
    · exact hy
  | tuple xs =>
    obtain ⟨hxl, j, rfl, hx⟩ := hd.tup_inv
    refine ⟨.inl rfl, ?_⟩
    rw [eqv_int]
    refine bKG (fun b => ?_) fun b => ?_
    · refine ⟨rfl, nnv, a, g, cc, .tuple xs, A1, B, N, (j + 1), rfl, rfl, L, hd, by omega, fun y hy => h y _ (by omega) hy⟩
    have hpos : 0 < xs.length := by
      rcases Nat.eq_zero_or_pos xs.length with e | e
      · rw [e] at b; cases b
      · exact e
    have hl30 : xs.length ≤ 30 := by omega
    refine ⟨rfl, nnv, a, g, cc, 6, rfl, rfl, by decide, by decide, by omega, fun i i0 i1 => ⟨.inl rfl, ?_⟩⟩
    refine bKG (fun _ => ?_) fun _ => ?_
    · refine ⟨rfl, nnv, a, g, cc, .tuple xs, A1, B, N, (j + 1), rfl, rfl, L, hd, by omega, fun y hy => h y _ (by omega) hy⟩
    refine ⟨rfl, nnv, a, g, cc, (xs.length : Nat), rfl, rfl, by omega, by omega, by omega, fun at_ at0 at1 => ?_⟩
    obtain ⟨q, rfl⟩ := Int.eq_ofNat_of_zero_le at0
    have hq : q < xs.length := by omega
    refine ⟨xs, rfl, ?_⟩
    refine nilJ ?_
    refine setG (δ' := [some (.v (.ref a)), some (.d (.tuple xs)), some (.d (.int (m : Nat))), some (.d (.int (q : Nat))), none]) rfl ?_
    show dSeqI _ _ _ [some (.v (.ref a)), some (.d (.tuple xs)), some (.d (.int (m : Nat))), some (.d (.int (q : Nat))), some (.own xs)] _
    refine ⟨xs, q, q, rfl, rfl, ixN_ok hq, xs, xs[q], rfl, atI_nat (List.getElem?_eq_getElem hq), trivial, rfl, nnv3, ?_⟩
    obtain ⟨m2, rfl⟩ : ∃ m2, m = m2 + 1 := ⟨m - 1, by omega⟩
    refine ⟨a, g, cc, xs[q], A1, B, N, j, rfl, by show [DV.v (V.ref a), DV.d xs[q], DV.d (PyData.int (((m2 + 1 : Nat) : Int) - 1))] = _; rw [show (((m2 + 1 : Nat) : Int) - 1) = (m2 : Nat) by omega], L, hx _ (List.getElem_mem hq), by omega, fun y c hc hy => ?_⟩
    refine ⟨_, rfl, .inr (.inr (.inr (.inl rfl))), ?_⟩
    refine ⟨_, rfl, ?_⟩
    refine h _ _ (by omega) (Fz.tup (by rw [List.length_set]; omega) fun z hz => ?_)
    rcases List.mem_or_eq_of_mem_set hz with hz | rfl
    · exact (hx z hz).mono (by omega) (by omega) (by omega) (by omega)
    · exact hy
  | none => refine ⟨rfl, nnv, a, g, cc, .none, A1, B, N, k0, rfl, rfl, L, hd, by omega, fun y hy => h y _ (by omega) hy⟩
  | bool b => refine ⟨rfl, nnv, a, g, cc, .bool b, A1, B, N, k0, rfl, rfl, L, hd, by omega, fun y hy => h y _ (by omega) hy⟩
  | int i => refine ⟨rfl, nnv, a, g, cc, .int i, A1, B, N, k0, rfl, rfl, L, hd, by omega, fun y hy => h y _ (by omega) hy⟩
  | str z => refine ⟨rfl, nnv, a, g, cc, .str z, A1, B, N, k0, rfl, rfl, L, hd, by omega, fun y hy => h y _ (by omega) hy⟩
  | dict xs => exact absurd hd.f (by simp [fitS])
theorem ok_bent (c : Tx K w mg) : ∀ m : Nat, FnOk P w K mg base (L2.CX P w) (20 + m + 1) (He.ga K "_law_bent") (fdOf K (He.ga K "_law_bent")) ["_law_state", "_law_thing", "_law_deep"] (liftI K (spBent m) 3)
  | 0 => bent_step c 0 fn_false
  | m + 1 => bent_step c (m + 1) (ok_bent c m)
end
end K85
set_option Elab.async false
set_option linter.all false
set_option maxRecDepth 100000
set_option maxHeartbeats 4000000
namespace K85
open PySem PySem.Spec PyProof.Rows L2 PD DW DX
abbrev LadC (K : PySem.W.Frag) : Addr := He.ga K "Ladder"
theorem stOk_of {t : DX.Tm} (ok : t.ok) : StOk t.st t.kl := ⟨ok.few, ok.rise, ok.low, ok.k0, ok.k1⟩
def spInit (K : PySem.W.Frag) : Sp := fun vs H Q _ => ∃ (x dx : Addr) (I : Hp) (t : DX.Tm) (p3 : V), vs = [.ref x, .int t.b, .int t.w, p3, .int t.f] ∧ t.ok ∧ H x = some (.ins (LadC K) dx []) ∧ PD.Good Reg.no I H ∧ Da K I p3 (.tuple (stepsD t.st t.kl)) ∧
  ∀ (I' H1 : Hp) (p : Addr), Ext Reg.no I H I' H1 → Da K I' (.ref p) t.data → Q .non (upd H1 x (.ins (LadC K) dx [("parts_told", .ref p)]))
def spTold (K : PySem.W.Frag) : Sp := fun vs H Q _ => ∃ (x dx : Addr) (p : V), vs = [.ref x] ∧ H x = some (.ins (LadC K) dx [("parts_told", p)]) ∧ Q p H
theorem num_ok {i lo hi : Int} (h0 : lo ≤ i) (h1 : i ≤ hi) : isNum (.int i) lo (some hi) = true := by
  simp only [isNum, Bool.and_eq_true, Bool.not_eq_true', decide_eq_false_iff_not, decide_eq_true_eq]
  omega

section
variable {P : Program} {w : World} {K : PySem.W.Frag} {mg : Str → Option Value} {base : Heap}
theorem sc_Linit : FnScope ["self", "first", "wide", "steps", "least"] ["self", "first", "wide", "steps", "least"] (defScope (inClass (top 22) 0)) := ⟨rfl, rfl, rfl, by decide +kernel, rfl, by decide +kernel, by decide +kernel⟩
theorem ok_Linit (c : Tx K w mg) : FnOk P w K mg base (L2.CX P w) 5 (He.ma K (LadC K) "__init__") (fdOf K (He.ma K (LadC K) "__init__")) ["self", "first", "wide", "steps", "least"] (spInit K) := by
  refine c.fd_Linit.ok sc_Linit (fun vs H Q E h => ?_) (fun cdv A outer s H vs Q E hr h => ?_)
  · obtain ⟨x, dx, I, t, p3, rfl, _⟩ := h
    rfl
  obtain ⟨x, dx, I, t, p3, rfl, ok, hx, gd, h3, k⟩ := h
  have D1 : DS (cxOf (L2.CX P w) P w K mg base ["self", "first", "wide", "steps", "least"] "Ladder.__init__" (defScope (inClass (top 22) 0)) (He.ma K (LadC K) "__init__") cdv A outer s H E) ⟨K, Reg.no, wOf E, I, H⟩ ((defBody (inClass (top 22) 0)).getD 0 (.Pass ⟨0, 0, 0, 0⟩)) _ _ := (ds_if (dw_or (dt_not (dt_val (de_fnC (ok_is_number c) (hr.mono (by decide)) (by rfl) c.g_is_number c.fd_is_number.kp (bd_is_number c) (takesC (takes_of rfl rfl rfl rfl)) rfl (da_cons (de_var (pv 1)) (da_cons de_int (da_cons (de_gint (by rfl) c.k_HIGHEST) da_nil)))))) (dw_or (dt_not (dt_val (de_fnC (ok_is_number c) (hr.mono (by decide)) (by rfl) c.g_is_number c.fd_is_number.kp (bd_is_number c) (takesC (takes_of rfl rfl rfl rfl)) rfl (da_cons (de_var (pv 2)) (da_cons de_int (da_cons (de_gint (by rfl) c.k_WIDEST) da_nil)))))) (dw_or1 (dt_not (dt_val (de_fnC (ok_are_steps c) (hr.mono (by decide)) (by rfl) c.g_are_steps c.fd_are_steps.kp (bd_are_steps c) (takesC (takes_of rfl rfl rfl rfl)) rfl (da_cons (de_var (pv 3)) da_nil))))))).dt (dss_one (ds_raise rfl (takes_of rfl rfl rfl rfl) (dm_own PySem.F.excBase_ValueError c.ex_NoLadder c.g_NoLadder c.kc_NoLadder (raises_own c.sb_NoLadder c.ty_NoLadder) rfl))) dss_nil)
  have D2 : DS (cxOf (L2.CX P w) P w K mg base ["self", "first", "wide", "steps", "least"] "Ladder.__init__" (defScope (inClass (top 22) 0)) (He.ma K (LadC K) "__init__") cdv A outer s H E) ⟨K, Reg.no, wOf E, I, H⟩ ((defBody (inClass (top 22) 0)).getD 1 (.Pass ⟨0, 0, 0, 0⟩)) _ _ := (ds_if (dt_not (dt_val (de_fnC (ok_is_number c) (hr.mono (by decide)) (by rfl) c.g_is_number c.fd_is_number.kp (bd_is_number c) (takesC (takes_of rfl rfl rfl rfl)) rfl (da_cons (de_var (pv 4)) (da_cons de_int (da_cons (de_var (pv 1)) da_nil)))))) (dss_one (ds_raise rfl (takes_of rfl rfl rfl rfl) (dm_own PySem.F.excBase_ValueError c.ex_NoLadder c.g_NoLadder c.kc_NoLadder (raises_own c.sb_NoLadder c.ty_NoLadder) rfl))) dss_nil)
  have D := dss_cons flat_of D1 (dss_one D2)
  refine ⟨_, pss_cons D1.ps (pss_cons D2.ps (pss_one (ps_fld (pv 0) (pe_tup (pa_cons (pv 1) (pa_cons (pv 2) (pa_cons (pv 3) (pa_cons (pv 4) pa_nil))))) rfl))), ?_⟩
  refine D.rf I H [some (.v (.ref x)), some (.d (.int t.b)), some (.d (.int t.w)), some (.d (.tuple (stepsD t.st t.kl))), some (.d (.int t.f))] _ { nx := fun δ => δ = [some (.v (.ref x)), some (.d (.int t.b)), some (.d (.int t.w)), some (.d (.tuple (stepsD t.st t.kl))), some (.d (.int t.f))], rt := fun _ => False } (fun _ => False) { nx := fun σ H' => sFld K (tVar 0) (tTup (tCons (tVar 1) (tCons (tVar 2) (tCons (tVar 3) (tCons (tVar 4) tNil))))) "parts_told" { nx := fun _ H' => Q .non H', rt := Q } σ H', rt := Q } ⟨gd, Ext.refl gd, ?_, fun _ _ _ _ _ _ _ q => q.elim⟩ ?_ ⟨?_, fun _ _ _ _ _ _ q => q.elim, fun _ _ _ _ _ _ _ q => q.elim, fun _ _ _ _ _ _ _ q => q.elim⟩
  · have ag : ArgAll K Reg.no I H [.v (.ref x), .d (.int t.b), .d (.int t.w), .d (.tuple (stepsD t.st t.kl)), .d (.int t.f)] [.ref x, .int t.b, .int t.w, p3, .int t.f] := .cons rfl (.cons (Da.int _) (.cons (Da.int _) (.cons h3 (.cons (Da.int _) .nil))))
    exact args_env (Z := ⟨K, Reg.no, wOf E, I, H⟩) rfl gd ag 0
  · have b0 := ok.f0
    have b1 := ok.fb
    have b2 := ok.b1
    have w0 := ok.w0
    have w1 := ok.w1
    have e1 : isNum (.int t.b) 0 (some 4000) = true := num_ok (by omega) (by omega)
    have e2 : isNum (.int t.w) 1 (some 1000) = true := num_ok (by omega) (by omega)
    have e3 : isNum (.int t.f) 0 (some t.b) = true := num_ok (by omega) (by omega)
    refine ⟨rfl, nn3, .int t.b, 0, some 4000, rfl, ?_⟩
    refine bKG (fun _ => ?_) fun b => absurd (b.symm.trans e1) (by decide)
    refine ifF ?_
    refine ⟨rfl, nn3, .int t.w, 1, some 1000, rfl, ?_⟩
    refine bKG (fun _ => ?_) fun b => absurd (b.symm.trans e2) (by decide)
    refine ifF ?_
    refine ⟨rfl, nn1, t.st, t.kl, rfl, stOk_of ok, ?_⟩
    refine ⟨rfl, nn3, .int t.f, 0, some t.b, rfl, ?_⟩
    refine bKG (fun _ => ?_) fun b => absurd (b.symm.trans e3) (by decide)
    refine ifF ?_
    rfl
  · rintro δ σ I' H' ext sm env rfl
    obtain ⟨v0, e0, s0⟩ := env.val 0 _ rfl
    obtain ⟨v1, e1, s1⟩ := env.val 1 _ rfl
    obtain ⟨v2, e2, s2⟩ := env.val 2 _ rfl
    obtain ⟨v3, e3, s3⟩ := env.val 3 _ rfl
    obtain ⟨v4, e4, s4⟩ := env.val 4 _ rfl
    have s0 : v0 = .ref x := s0
    subst s0
    cases s1
    cases s2
    cases s4
    refine ⟨_, e1, _, e2, v3, e3, _, e4, (show 4 ≤ sizeLine by decide), fun p hp => ?_⟩
    have en := ext_new (o := .tup [.int t.b, .int t.w, v3, .int t.f]) ext.good hp (show 4 ≤ sizeLine by decide)
    have ex := ext.trans gd en
    have hx2 := ex.keep x _ hx (fun z => z)
    refine ⟨_, e0, x, LadC K, dx, [], rfl, hx2, c.cl_Ladder, c.np_Ladder, by decide, ?_⟩
    obtain ⟨n1, _⟩ := fresh_off (Z := ⟨K, Reg.no, wOf E, I, H⟩) ext.good hp
    have s3 : Da K I' v3 (.tuple (stepsD t.st t.kl)) := s3
    exact k _ _ p ex (.tup (SqT.of upd_same) (.cons (.int _) (.cons (.int _) (.cons (da_mono (upd_sub n1) _ _ s3) (.cons (.int _) .nil)))))
theorem sc_Ltold : FnScope ["self"] ["self"] (defScope (inClass (top 22) 1)) := ⟨rfl, rfl, rfl, by decide +kernel, rfl, by decide +kernel, by decide +kernel⟩
theorem bd_Ltold (c : Tx K w mg) : Binds K (fdOf K (He.ma K (LadC K) "told")) ["self"] [] := c.fd_Ltold.bindsN fun _ _ _ _ _ _ us hl => match us, hl with | [_], _ => rfl
theorem ok_Ltold (c : Tx K w mg) : FnOk P w K mg base (L2.CX P w) 1 (He.ma K (LadC K) "told") (fdOf K (He.ma K (LadC K) "told")) ["self"] (spTold K) := by
  refine c.fd_Ltold.ok sc_Ltold (fun vs H Q E h => ?_) (fun cdv A outer s H vs Q E hr h => ⟨_, pss_one (ps_ret (pe_fld (pv 0) rfl)), ?_⟩)
  · obtain ⟨x, dx, p, rfl, _⟩ := h
    rfl
  · obtain ⟨x, dx, p, rfl, hx, k⟩ := h
    exact ⟨_, rfl, x, LadC K, dx, _, p, rfl, hx, c.cl_Ladder, c.np_Ladder, rfl, k⟩

end
end K85
set_option Elab.async false
set_option linter.all false
set_option maxRecDepth 100000
set_option maxHeartbeats 4000000
namespace K85
open PySem PySem.Spec PyProof.Rows L2 PD DW DX
theorem kit_lad {K : PySem.W.Frag} {w : World} {mg : Str → Option Value} (c : Tx K w mg) (e : PyData) : PySem.W.kitOne K (.type (tyD e)) (.ref (LadC K)) = some false := by
  cases e with
  | none => exact c.kl_NoneType
  | bool b => exact c.kl_bool
  | int i => exact c.kl_int
  | str z => exact c.kl_str
  | list xs => exact c.kl_list
  | tuple xs => exact c.kl_tuple
  | dict xs => exact c.kl_dict
/-- a ladder's parts -/
def LadAt (K : PySem.W.Frag) (I H : Hp) (x : Addr) (T : PyData) : Prop := ∃ dx p, H x = some (.ins (LadC K) dx [("parts_told", .ref p)]) ∧ Da K I (.ref p) T
section
variable {X : Cx} {Z : Zx}
def dIsLad (Z : Zx) (i : Nat) : TD := fun δ Q _ => match δ[i]? with
  | some (some (.v (.ref x))) => (∃ T, LadAt Z.K Z.I0 Z.H0 x T) ∧ ¬ Z.R.m x ∧ Q (.d (.bool true))
  | some (some (.d _)) => Q (.d (.bool false))
  | _ => False
theorem de_isLad {i : Nat} {l : Str} {p1 p2 p3 pos : Pos} (kl : ∀ e : PyData, PySem.W.kitOne Z.K (.type (tyD e)) (.ref (LadC Z.K)) = some false) (cl : Cls Z.K (LadC Z.K)) (ha : PySem.W.findIn Z.K (.ref (LadC Z.K)) "__class__" = some (some (.builtin "object.__class__")))
    (hn : PySem.W.specialIn Z.K (.builtin "object.__class__") "__get__" = some (some (.builtin "getset_descriptor.__get__"))) (ht : PySem.W.takesIn Z.K (.builtin "object.__class__") = some true) (hm : PySem.W.mroIn Z.K (LadC Z.K) (.type "object") = some true) (kt : PySem.W.kitOne Z.K (.ref (LadC Z.K)) (.ref (LadC Z.K)) = some true)
    (hK : Z.K = X.K) (hp : PE X (.Name l p1) (tVar i)) (hg : Gl X "Ladder") (hmg : X.mg "Ladder" = some (.ref (LadC Z.K))) (hgi : Gl X "isinstance") (hmi : X.mg "isinstance" = none)
    (he : starEach [.Name l p1, .Name "Ladder" p2] X.env = (false, eval (.Name l p1) X.env) :: starEach [.Name "Ladder" p2] X.env := by rfl) (he2 : starEach [.Name "Ladder" p2] X.env = (false, eval (.Name "Ladder" p2) X.env) :: starEach [] X.env := by rfl) (hpl : (backTo pos (starEach [.Name "Ladder" p2] X.env)).any (·.1) = false := by rfl) :
    DE X Z (.Call (.Name "isinstance" p3) [.Name l p1, .Name "Ladder" p2] [] pos) (tCB (rIsi Z.K) (tCons (tVar i) (tCons (tC (.ref (LadC Z.K))) tNil))) (dIsLad Z i) := by
  refine ⟨by rw [hK]; exact pe_callB call_isi hgi hmi b_isinstance (pa_cons hp (pa_cons (pe_glob hg (by rw [← hK]; exact hmg) rfl (by decide)) pa_nil he2) he) (by decide) (by decide) he hpl, fun I H δ σ Qd Ed Q hh t k => ?_⟩
  unfold dIsLad at t
  split at t
  · rename_i x ex
    obtain ⟨⟨T, dx, p, hx, _⟩, nm, q⟩ := t
    obtain ⟨v, e1, rfl⟩ := hh.env.val i _ ex
    exact ⟨_, e1, _, _, _, _, _, rfl, .own _, .base (.ins (hh.e0.keep _ _ hx nm) cl ha hn ht hm), kt, k.now hh.g (.bl _) q⟩
  · rename_i e ex
    obtain ⟨v, e1, s1⟩ := hh.env.val i _ ex
    have s1 : Da Z.K I v e := s1
    exact ⟨_, e1, _, _, _, _, _, rfl, .own _, ty_at (Hs := H) (x := .d e) hh.g s1 rfl, kl e, k.now hh.g (.bl _) t⟩
  · exact t.elim
def dTold (Z : Zx) (i : Nat) : TD := fun δ Q _ => match δ[i]? with
  | some (some (.v (.ref x))) => ∃ T, LadAt Z.K Z.I0 Z.H0 x T ∧ ¬ Z.R.m x ∧ Q (.d T)
  | _ => False
theorem de_told {i : Nat} {l : Str} {p1 p2 pos : Pos} (hK : Z.K = X.K) (h : PE X (.Call (.Attribute (.Name l p1) "told" p2) [] [] pos) (tMeth (LadC X.K) "told" (spTold X.K) [] E0 (tVar i) tNil)) :
    DE X Z (.Call (.Attribute (.Name l p1) "told" p2) [] [] pos) (tMeth (LadC X.K) "told" (spTold X.K) [] E0 (tVar i) tNil) (dTold Z i) := by
  refine ⟨h, fun I H δ σ Qd Ed Q hh t k => ?_⟩
  unfold dTold at t
  split at t
  · rename_i x ex
    obtain ⟨T, ⟨dx, p, hx, hT⟩, nm, q⟩ := t
    obtain ⟨v, e1, rfl⟩ := hh.env.val i _ ex
    have hx2 := hh.e0.keep _ _ hx nm
    rw [hK] at hx2
    exact ⟨_, e1, x, dx, _, rfl, hx2, rfl, x, dx, _, rfl, hx2, k.now hh.g (da_mono hh.e0.sub _ _ hT) q⟩
  · exact t.elim
end
def spSums (K : PySem.W.Frag) : Sp := fun vs H Q E => ∃ (R : Reg) (I : Hp) (d : PyData) (v u : V), vs = [v, u] ∧ PD.Good R I H ∧ Da K I v d ∧
  ((∃ (x : Addr) (t : DX.Tm), u = .ref x ∧ LadAt K I H x t.data ∧ ¬ R.m x ∧ t.ok ∧ Ft d ∧ ∀ I' H', Ext R I H I' H' → Q (.bl (sumsD t d)) H') ∨
    ∃ e, Da K I u e ∧ ∀ od I' H', Ext R I H I' H' → ExAt K I' H' ⟨He.ga K "NoLadder", []⟩ (.ref (He.ga K "NoLadder")) od → E (.ref (He.ga K "NoLadder")) od H')

section
variable {P : Program} {w : World} {K : PySem.W.Frag} {mg : Str → Option Value} {base : Heap}
theorem ok_sums (c : Tx K w mg) : FnOk P w K mg base (L2.CX P w) 10 (He.ga K "sums") (fdOf K (He.ga K "sums")) ["rows", "ladder"] (spSums K) := by
  refine c.fd_sums.ok sc_sums (fun vs H Q E h => ?_) (fun cdv A outer s H vs Q E hr h => ?_)
  · obtain ⟨R, I, d, v, u, rfl, _⟩ := h
    rfl
  obtain ⟨R, I, d, v, u, rfl, gd, hd, h⟩ := h
  have D : ∃ ts t, DSs (cxOf (L2.CX P w) P w K mg base ["rows", "ladder", "stands", "wide", "steps", "least", "last", "many", "thing", "ahead", "some", "row"] "sums" (defScope (top 33)) (He.ga K "sums") cdv A outer s H E) ⟨K, R, wOf E, I, H⟩ (defBody (top 33)) ts t ∧
      (∀ (x : Addr) (t1 : DX.Tm) (Qd : DK), u = .ref x → LadAt K I H x t1.data → ¬ R.m x → t1.ok → Ft d → Qd (.d (.bool (sumsD t1 d))) → t { nx := fun _ => Qd (.d .none), rt := Qd } (fun _ => False) (entry ["rows", "ladder", "stands", "wide", "steps", "least", "last", "many", "thing", "ahead", "some", "row"] [.d d, .v (.ref x)])) ∧
      (∀ e, t { nx := fun _ => False, rt := fun _ => False } (fun x => x = ⟨He.ga K "NoLadder", []⟩) (entry ["rows", "ladder", "stands", "wide", "steps", "least", "last", "many", "thing", "ahead", "some", "row"] [.d d, .d e])) := by
    refine ⟨_, _, (dss_cons flat_of (ds_if (dt_not (dt_val (de_isLad (i := 1) (kit_lad c) c.cl_Ladder c.hc_Ladder c.xc_NoLadder.hn c.xc_NoLadder.ht c.hm_Ladder c.kl_Ladder rfl (pv 1) (by rfl) c.g_Ladder (by rfl) c.f_isinstance))) (dss_one (ds_raise rfl (takes_of rfl rfl rfl rfl) (dm_own PySem.F.excBase_ValueError c.ex_NoLadder c.g_NoLadder c.kc_NoLadder (raises_own c.sb_NoLadder c.ty_NoLadder) rfl))) dss_nil)
      (dss_cons flat_of (ds_if (dt_not (dt_val (de_isi2 (de_var (pv 0)) rfl (by rfl) c.f_isinstance (pe_bltn (by rfl) c.f_list b_list rfl) (pe_bltn (by rfl) c.f_tuple b_tuple rfl)))) (dss_one (ds_ret de_bl)) dss_nil)
      (dss_cons flat_of (ds_asg (de_told (i := 1) rfl (pe_meth0 (pv 1) c.cl_Ladder c.me_told (ok_Ltold c) (hr.mono (by decide)) (bd_Ltold c) .nil passL)) (dg_tup (n := 4) rfl (dgs_cons (dg_name (i := 2) sc_sums.nd rfl (by first | exact .inl rfl | exact .inr rfl)) (dgs_cons (dg_name (i := 3) sc_sums.nd rfl (by first | exact .inl rfl | exact .inr rfl)) (dgs_cons (dg_name (i := 4) sc_sums.nd rfl (by first | exact .inl rfl | exact .inr rfl)) (dgs_cons (dg_name (i := 5) sc_sums.nd rfl (by first | exact .inl rfl | exact .inr rfl)) dgs_nil)))) rfl))
      (dss_cons flat_of (ds_asg (de_tup (da_cons (de_un un_neg ud_neg de_int) (da_cons de_int da_nil))) (dg_tup (n := 2) rfl (dgs_cons (dg_name (i := 6) sc_sums.nd rfl (by first | exact .inl rfl | exact .inr rfl)) (dgs_cons (dg_name (i := 7) sc_sums.nd rfl (by first | exact .inl rfl | exact .inr rfl)) dgs_nil)) rfl))
      (dss_cons flat_of (ds_for flat_of (passes_of rfl) rfl (di_any (de_var (pv 0)) rfl) (dg_name (i := 8) sc_sums.nd rfl (by first | exact .inl rfl | exact .inr rfl)) (dss_cons flat_of (ds_if (dw_or (dt_not (dt_val (de_fnC (ok_is_led_day c) (hr.mono (by decide)) (by rfl) c.g_is_led_day c.fd_is_led_day.kp (bd_is_led_day c) (takesC (takes_of rfl rfl rfl rfl)) rfl (da_cons (de_var (pv 8)) (da_cons (de_var (pv 6)) da_nil))))) (dw_or1 (dt_cmp (op_neX (hu64 hr)) (nomark _) (od_ne rfl) (de_ix (de_var (pv 8)) de_int (fun _ _ => rfl) rfl) (de_var (pv 2))))).dt (dss_one (ds_ret de_bl)) dss_nil)
      (dss_cons flat_of (ds_asg (de_var (pv 8)) (dg_tup (n := 4) rfl (dgs_cons (dg_name (i := 6) sc_sums.nd rfl (by first | exact .inl rfl | exact .inr rfl)) (dgs_cons (dg_name (i := 9) sc_sums.nd rfl (by first | exact .inl rfl | exact .inr rfl)) (dgs_cons (dg_name (i := 2) sc_sums.nd rfl (by first | exact .inl rfl | exact .inr rfl)) (dgs_cons (dg_name (i := 10) sc_sums.nd rfl (by first | exact .inl rfl | exact .inr rfl)) dgs_nil)))) rfl))
      (dss_cons flat_of (ds_if (dt_cmp (op_neX (hu64 hr)) (nomark _) (od_ne rfl) (de_var (pv 2)) (de_callB (call_max2 rfl) cd_int2 (by rfl) c.f_max b_max (da_cons (de_var (pv 5)) (da_cons (de_op op_cat' (od_add rfl) (de_var (pv 9)) (de_fnC (ok_gain_of c) (hr.mono (by decide)) (by rfl) c.g_gain_of c.fd_gain_of.kp (bd_gain_of c) (takesC (takes_of rfl rfl rfl rfl)) rfl (da_cons (de_var (pv 10)) (da_cons (de_fnC (ok_k_of c) (hr.mono (by decide)) (by rfl) c.g_k_of c.fd_k_of.kp (bd_k_of c) (takesC (takes_of rfl rfl rfl rfl)) rfl (da_cons (de_var (pv 4)) (da_cons (de_var (pv 7)) da_nil))) da_nil)))) da_nil)))) (dss_one (ds_ret de_bl)) dss_nil)
      (dss_one (ds_aug (i := 7) sc_sums.nd rfl (by first | exact .inl rfl | exact .inr rfl) (de_lenScT (own := [("row", 11)]) rfl rfl (hu64 hr) sc_sums.nd (by rfl) c.f_len (di_any (de_var (pv 10)) rfl) (blkOk_by (N := ["rows", "ladder", "stands", "wide", "steps", "least", "last", "many", "thing", "ahead", "some", "row"]) (sc := defScope (top 33)) (by decide +kernel)) (fun _ _ _ _ _ => (dg_name (i := 11) sc_sums.nd rfl (by first | exact .inl rfl | exact .inr rfl))) (fun _ _ _ _ _ => dts_nil) (fun _ _ _ _ _ => (de_ix (de_var (pv 11)) de_int (fun _ _ => rfl) rfl)) (tgt_name (by decide)) s) ip_add))))))
      (dss_one (ds_ret de_bl))))))), ?_, ?_⟩
    · intro x t1 Qd hu hL hm ok hf h
      refine ⟨⟨_, hL⟩, hm, ?_⟩
      refine ⟨d, rfl, .inr (.inr (.inr (.inl rfl))), .inr (.inr (.inr (.inr rfl))), ?_⟩
      by_cases hsq : ∃ xs, isSeqOf d xs
      · obtain ⟨xs, hd⟩ := hsq
        have hx : ∀ x ∈ xs, Ft x := by
          rcases hd with rfl | rfl
          · exact hf.lst.2
          · exact hf.tup.2
        have es : sumsD t1 d = sumsGo t1 xs (-1) t1.b 0 := by rcases hd with rfl | rfl <;> rfl
        have ei : (isT (tyD d) "list" || isT (tyD d) "tuple") = true := by rcases hd with rfl | rfl <;> rfl
        obtain ⟨e1, e2⟩ := seq_any hd
        rw [es] at h
        refine bKG (fun _ => ?_) fun b => absurd (b.symm.trans ei) (by decide)
        refine ifF ?_
        dsimp only [dNext]
        refine seqI (fun δ' => δ' = [some (.d d), some (.v (.ref x)), some (.d (.int t1.b)), some (.d (.int t1.w)), some (.d (.tuple (stepsD t1.st t1.kl))), some (.d (.int t1.f)), none, none, none, none, none, none]) ?_ fun N hN => ⟨t1.data, hL, hm, rfl, rfl, hN _ rfl⟩
        rintro _ rfl
        refine seqI (fun δ' => δ' = [some (.d d), some (.v (.ref x)), some (.d (.int t1.b)), some (.d (.int t1.w)), some (.d (.tuple (stepsD t1.st t1.kl))), some (.d (.int t1.f)), some (.d (.int (-1))), some (.d (.int 0)), none, none, none, none]) ?_ fun N hN => ⟨(show 2 ≤ sizeLine by decide), rfl, rfl, hN _ rfl⟩
        rintro _ rfl
        refine ⟨e1, ?_⟩
        rw [e2]
        dsimp only
        refine forGo_inv (fun ds δ => ∃ (last st many : Int) (x8 x9 x10 x11 : Option DV), sumsGo t1 ds last st many = sumsGo t1 xs (-1) t1.b 0 ∧ (∀ x ∈ ds, Ft x) ∧ δ = [some (.d d), some (.v (.ref x)), some (.d (.int st)), some (.d (.int t1.w)), some (.d (.tuple (stepsD t1.st t1.kl))), some (.d (.int t1.f)), some (.d (.int last)), some (.d (.int many)), x8, x9, x10, x11]) ?_ ?_ _ _ ⟨-1, t1.b, 0, none, none, none, none, rfl, hx, rfl⟩
        · rintro y ds _ ⟨last, st, many, x8, x9, x10, x11, eg, hds, rfl⟩ N hN
          have fy := hds y List.mem_cons_self
          have bad : sumsGo t1 (y :: ds) last st many = false → Qd (.d (.bool false)) := fun e => qB (Q := Qd) h (eg.symm.trans e)
          refine setG (δ' := [some (.d d), some (.v (.ref x)), some (.d (.int st)), some (.d (.int t1.w)), some (.d (.tuple (stepsD t1.st t1.kl))), some (.d (.int t1.f)), some (.d (.int last)), some (.d (.int many)), some (.d y), x9, x10, x11]) rfl ?_
          refine ⟨rfl, nn2, y, last, rfl, fy.f, ?_⟩
          refine bKG (fun bl => ?_) fun bl => bad (go_no bl)
          obtain ⟨n, a, b, rows, rfl, b2, b3, b4, b5⟩ := ledDay_four bl
          obtain ⟨n, rfl, _⟩ := isNum_inv b3
          obtain ⟨a, rfl, _⟩ := isNum_inv b4
          obtain ⟨b, rfl, _⟩ := isNum_inv b5
          have fi := fy.tup.2
          refine ifF ?_
          refine ⟨_, at1', .inl rfl, ?_⟩
          refine bKG (fun b6 => ?_) fun b6 => ?_
          · have ne : decide (a = st) = false := by
              rw [eqv_int, Bool.not_eq_true', beq_eq_false_iff_ne] at b6
              exact decide_eq_false b6
            refine bad ?_
            rw [go_step, ne, Bool.and_false]
            rfl
          rw [eqv_int, Bool.not_eq_false', beq_iff_eq] at b6
          subst b6
          refine ifF ?_
          dsimp only [dNext]
          obtain ⟨rs, hq, er, al⟩ := ledRows_inv b2
          obtain ⟨len, sm⟩ := rows_small (fi rows (by simp)).f hq
          obtain ⟨g, eg2⟩ : ∃ g, gain (rs.map Rw.data) (kOf t1.st t1.kl many) = g := ⟨_, rfl⟩
          have gs : sumsGo t1 (.tuple [.int n, .int a, .int b, rows] :: ds) last a many = (decide (b = max t1.f (a + g)) && sumsGo t1 ds n b (many + many1 (rowList rows))) := by
            rw [go_step, bl, er, eg2, decide_eq_true rfl]
            rfl
          refine seqI (fun δ' => δ' = [some (.d d), some (.v (.ref x)), some (.d (.int b)), some (.d (.int t1.w)), some (.d (.tuple (stepsD t1.st t1.kl))), some (.d (.int t1.f)), some (.d (.int n)), some (.d (.int many)), some (.d (.tuple [.int n, .int a, .int b, rows])), some (.d (.int a)), some (.d rows), x11]) ?_ fun N2 hN2 => ⟨rfl, rfl, hN2 _ rfl⟩
          rintro _ rfl
          refine ⟨rfl, nn2, t1.st, t1.kl, many, rfl, rfl, nn2, rows, rs, _, rfl, hq, (fun r hr => ⟨al r hr, sm r hr⟩), len, k_bits ok many, ?_⟩
          rw [eg2]
          refine addI ?_
          refine nilI ?_
          refine int2I (f := fun i j => if j > i then j else i) (i := t1.f) (j := a + g) ?_
          have em : (if a + g > t1.f then a + g else t1.f) = max t1.f (a + g) := by
            split <;> omega
          rw [em]
          refine ⟨.inl rfl, ?_⟩
          refine bKG (fun b7 => bad ?_) fun b7 => ?_
          · rw [eqv_int, Bool.not_eq_true', beq_eq_false_iff_ne] at b7
            rw [gs, decide_eq_false b7]
            rfl
          rw [eqv_int, Bool.not_eq_false', beq_iff_eq] at b7
          rw [gs, decide_eq_true b7, Bool.true_and] at eg
          refine ifF ?_
          dsimp only [dNext]
          obtain ⟨q1, q2⟩ := seq_any hq
          refine ⟨q1, ?_⟩
          rw [q2]
          dsimp only
          refine ⟨by rw [List.length_map]; omega, ?_⟩
          refine lcGoA_map (f := fun r : Rw => r.g) (fun r hr KK kk => ⟨_, at0, r.g, rfl, kk⟩) ?_
          rw [List.nil_append]
          have e8 : many1 (rowList rows) = ((SX.insAll (rs.map fun r : Rw => r.g)).length : Nat) := by
            unfold many1
            rw [er, titles_rows]
          rw [e8] at eg
          exact hN _ ⟨n, b, _, _, _, _, _, eg, fun x hx => hds x (List.mem_cons_of_mem _ hx), rfl⟩
        · rintro _ ⟨last, st, many, x8, x9, x10, x11, eg, _, rfl⟩
          exact qB (Q := Qd) (b := true) h eg.symm
      · have ns : ∀ xs, d ≠ .list xs ∧ d ≠ .tuple xs := fun xs => ⟨fun e => hsq ⟨xs, .inl e⟩, fun e => hsq ⟨xs, .inr e⟩⟩
        cases d with
        | list xs => exact absurd rfl (ns xs).1
        | tuple xs => exact absurd rfl (ns xs).2
        | _ => exact h
    · intro e
      exact rfl
  obtain ⟨ts, t, D, d1, d2⟩ := D
  rcases h with ⟨x, t1, rfl, hL, hm, ok, hf, kq⟩ | ⟨e, he, ke⟩
  · refine ⟨ts, D.ps, D.rf I H (entry ["rows", "ladder", "stands", "wide", "steps", "least", "last", "many", "thing", "ahead", "some", "row"] [.d d, .v (.ref x)]) (L2.start ["rows", "ladder", "stands", "wide", "steps", "least", "last", "many", "thing", "ahead", "some", "row"] [v, .ref x]) _ (fun _ => False) _ ⟨gd, Ext.refl gd, ?_, fun _ _ _ _ _ _ _ q => q.elim⟩ (d1 x t1 (fun y => y = .d (.bool (sumsD t1 d))) rfl hL hm ok hf rfl) ⟨?_, ?_, fun _ _ _ _ _ _ _ q => q.elim, fun _ _ _ _ _ _ _ q => q.elim⟩⟩
    · exact args_env (Z := ⟨K, R, wOf E, I, H⟩) rfl gd (.cons (x := .d d) hd (.cons (x := .v (.ref x)) rfl .nil)) _
    · intro _ _ _ _ _ _ _ q
      cases q
    · intro y v' I' H' ext r q
      subst q
      cases r
      exact kq I' H' ext
  · refine ⟨ts, D.ps, D.rf I H (entry ["rows", "ladder", "stands", "wide", "steps", "least", "last", "many", "thing", "ahead", "some", "row"] [.d d, .d e]) (L2.start ["rows", "ladder", "stands", "wide", "steps", "least", "last", "many", "thing", "ahead", "some", "row"] [v, u]) _ (fun y => y = ⟨He.ga K "NoLadder", []⟩) _ ⟨gd, Ext.refl gd, ?_, ?_⟩ (d2 e) ⟨fun _ _ _ _ _ _ _ q => q.elim, fun _ _ _ _ _ _ q => q.elim, fun _ _ _ _ _ _ _ q => q.elim, fun _ _ _ _ _ _ _ q => q.elim⟩⟩
    · exact args_env (Z := ⟨K, R, wOf E, I, H⟩) rfl gd (.cons (x := .d d) hd (.cons (x := .d e) he .nil)) _
    · intro y cl od I' H' ext xa q
      subst q
      have := xa.1
      subst this
      exact ke od I' H' ext xa
end
end K85
set_option Elab.async false
set_option linter.all false
set_option maxRecDepth 100000
set_option maxHeartbeats 4000000
namespace K85
open PySem PySem.Spec PyProof.Rows L2 PD DW DX
/-- isinstance(e, (C1, ..)), e held -/
def rIsZT (K : PySem.W.Frag) : List V → Hp → VK → Prop := fun xs H Q => ∃ (a D : Addr) (d : Option Addr) (fs : List (Str × V)) (tp : Addr) (cs : List V) (ws : List Value) (b : Bool), xs = [.ref a, .ref tp] ∧ H a = some (exz a (.ref D) d) ∧ DictZ H d fs ∧ ExcC K D ∧ H tp = some (.tup cs) ∧ Paired ClsV cs ws ∧ PySem.W.kitAny K (.ref D) ws = some b ∧ Q (.bl b) H
theorem call_isZT {X : Cx} : CallR X (.builtin "isinstance") (rIsZT X.K) := by
  intro pins s σ H xs us Q I r h
  obtain ⟨a, D, d, fs, tp, cs, ws, b, rfl, e, t, C, hT, hk, k, q⟩ := h
  obtain ⟨u1, u2, rfl, r1, r2⟩ := vals2 r
  cases (show u1 = Value.ref a from r1)
  cases (show u2 = Value.ref tp from r2)
  obtain ⟨_, its, rv, o, h1, h2, n, h3⟩ := (show ObjOk X.prog X.w H s.heap tp (.tup cs) from I.hok tp _ hT)
  have e3 := ClsV.all hk rv
  subst e3
  obtain ⟨oc, od', dt, sl⟩ := o
  simp only at h2 h3
  subst h2 h3
  obtain ⟨oe, od, J, _⟩ := inst_held I e t
  have cl : (PySem.W.clsIn X.K D).isSome = true := by
    obtain ⟨cd, z, _⟩ := PySem.W.any_some C.hd
    rw [z]; rfl
  exact PySem.W.kia_tup (PySem.W.kitx_exc cl C.hg C.hk C.hs C.ha C.hn C.ht C.hm) I.kIn J h1 k (fun z => nomatch z) fun tk => ⟨.bl b, H, I.kept (t' := tk) fun _ _ z => z, rfl, q⟩
/-- _law_refused(_law_thing): of whatever is no ladder -/
def spRefL : Spd := fun _ xs Q _ => ∃ d, xs = [.d d] ∧ Q (.d (.bool true))
section
variable {P : Program} {w : World} {K : PySem.W.Frag} {mg : Str → Option Value} {base : Heap}
theorem ok__law_refused (c : Tx K w mg) : FnOk P w K mg base (L2.CX P w) 12 (He.ga K "_law_refused") (fdOf K (He.ga K "_law_refused")) ["_law_thing"] (lift K spRefL 1) := by
  refine c.fd__law_refused.ok sc__law_refused (fun vs H Q E h => h.1) (fun cdv A outer s H vs Q E hr h => ⟨_,
    pss_cons (ps_set (i := 1) sc__law_refused.nd rfl (.inl rfl) pe_non)
    (pss_cons (ps_try_held (c := .ref (He.ga K "SteadError")) (i := 2) (tb := fun W => tDrop (tCallS (spSums K) (WE W) (tCons (tLst tNil) (tCons (tVar 0) tNil)))) (ts := fun _ => tAsg (tVar 2) (gName 1)) rfl rfl rfl sc__law_refused.nd rfl rfl ⟨(by rfl), (by decide), .inl c.g_SteadError⟩
      (fun W pn xe tk => pss_one (ps_expr (pe_callS (ok_sums c) (hr.mono (by decide)) (by rfl) c.g_sums c.fd_sums.kp (bd_sums c) (fun σ => passAt tk σ) (pa_cons (pe_lst pa_nil) (pa_cons (pv 0) pa_nil)))))
      (fun a pn => pss_one (ps_set (i := 1) sc__law_refused.nd rfl (.inl rfl) (pv 2))))
    (pss_one (ps_ret (pe_and (pe_callB call_isZ (by rfl) c.f_isinstance b_isinstance (pa_cons (pv 1) (pa_cons (pe_glob (by rfl) c.g_NoLadder (v := .ref (He.ga K "NoLadder")) rfl) pa_nil)))
      (pe_one (pe_not (pe_callB call_isZT (by rfl) c.f_isinstance b_isinstance (pa_cons (pv 1) (pa_cons (pe_tup (pa_cons (pe_glob (by rfl) c.g_NoDay (v := .ref (He.ga K "NoDay")) rfl) (pa_cons (pe_glob (by rfl) c.g_NoName (v := .ref (He.ga K "NoName")) rfl) (pa_cons (pe_glob (by rfl) c.g_NoResult (v := .ref (He.ga K "NoResult")) rfl) pa_nil)))) pa_nil))))))))), ?_⟩)
  obtain ⟨hl, R, I, xs, Qd, Ed, g, ar, hs, k, _⟩ := h
  obtain ⟨d, rfl, hq⟩ := hs
  cases ar with
  | @cons x v xs' vs' a1 ar =>
  cases ar
  have a1 : Da K I v d := a1
  refine ⟨(show 0 ≤ sizeLine by decide), fun p0 hp0 => ?_⟩
  have en := ext_new (o := .lst []) g hp0 (show 0 ≤ sizeLine by decide)
  refine ⟨_, rfl, R, upd I p0 (.lst []), .list [], .ref p0, v, rfl, en.good, .lst upd_same .nil, .inr ⟨d, da_mono en.sub _ _ a1, fun od I' H' ext xa => ?_⟩⟩
  have ex0 := en.trans g ext
  obtain ⟨fs, hz, hdx⟩ : ∃ fs, DictZ H' od fs ∧ ∀ dx, od = some dx → H' dx ≠ none := by
    rcases xa.2 with ⟨_, rfl⟩ | ⟨dx, us, rfl, hd, _⟩
    · exact ⟨[], rfl, fun dx e => by cases e⟩
    · exact ⟨us, hd, fun dx' e => by cases e; rw [hd]; exact fun z => nomatch z⟩
  have keepZ : ∀ (b : Addr) (o : HO), H' b = none → DictZ (upd H' b o) od fs := fun b o nb => by
    cases od with
    | none => exact hz
    | some dx =>
      show upd H' b o dx = _
      rw [upd_ne fun e => hdx dx rfl (by rw [e]; exact nb)]
      exact hz
  refine ⟨c.em_NoLadder_SteadError, fun a na => ?_⟩
  refine ⟨_, rfl, ?_⟩
  have e1 := ext_own (o := exz a (.ref (He.ga K "NoLadder")) od) ext.good na
  have z1 : upd H' a (exz a (.ref (He.ga K "NoLadder")) od) a = some (exz a (.ref (He.ga K "NoLadder")) od) := upd_same
  refine ⟨_, rfl, ?_⟩
  refine ⟨a, _, od, fs, _, .ref _, _, rfl, z1, keepZ _ _ na, c.xc_NoLadder, fun u r => r, c.ki_NoLadder, ?_⟩
  refine ⟨true, rfl, iteG (fun _ => ?_) fun b => by cases b⟩
  refine ⟨_, rfl, (show 3 ≤ sizeLine by decide), fun q nq => ?_⟩
  have qa : a ≠ q := fun e => by rw [← e, z1] at nq; cases nq
  refine ⟨a, _, od, fs, q, _, _, false, rfl, by rw [upd_ne qa]; exact z1, ?_, c.xc_NoLadder, upd_same, .cons (.own _) (.cons (.own _) (.cons (.own _) .nil)), ?_, ?_⟩
  · have nq' : H' q = none := by rw [upd_ne (Ne.symm qa)] at nq; exact nq
    cases od with
    | none => exact hz
    | some dx =>
      show upd (upd H' a _) q _ dx = _
      rw [upd_ne fun e => hdx dx rfl (by rw [e]; exact nq'), upd_ne fun e => hdx dx rfl (by rw [e]; exact na)]
      exact hz
  · exact kitAny_cons c.ki_NoDay (fun _ => kitAny_cons c.ki_NoName (fun _ => kitAny_cons c.ki_NoResult (fun _ => kitAny_nil) fun z => nomatch z) fun z => nomatch z) fun z => nomatch z
  · refine ⟨false, rfl, ?_⟩
    have e3 := ext_own (o := .tup [.ref (He.ga K "NoDay"), .ref (He.ga K "NoName"), .ref (He.ga K "NoResult")]) e1.good nq
    exact k (.d (.bool true)) _ I' _ ((ex0.trans g e1).trans g e3) (.bl true) hq
end

section
variable {P : Program} {w : World} {K : PySem.W.Frag} {mg : Str → Option Value} {base : Heap}
end
end K85
set_option Elab.async false
set_option linter.all false
set_option maxRecDepth 100000
set_option maxHeartbeats 4000000
namespace K85
open PySem PySem.Spec PyProof.Rows L2 PD DW DX
/-- the script, a list of ints that stands in the hidden region -/
def IsScr (K : PySem.W.Frag) (R : Reg) (a : Addr) (ns : List Int) : Prop := (∀ H, R.J H → SqL K H a (ns.map V.int)) ∧ ns.length ≤ 63
/-- what stood at the beginning stays -/
def regAll (H0 : Hp) : Reg where
  m b := H0 b ≠ none
  J H := ∀ b o, H0 b = some o → H b = some o
  dom := fun H b j m => by
    cases q : H0 b with
    | none => exact absurd q m
    | some o => rw [j b o q]; exact fun e => nomatch e
  st := fun H H' j k b o q => k b o (by rw [q]; exact fun e => nomatch e) (j b o q)
def hNone : Hp := fun _ => none
theorem good_all (H0 : Hp) : PD.Good (regAll H0) hNone H0 := ⟨fun b o q => (by cases q), fun b o q => q, fun b o q => (by cases q), fun b o q => (by cases q)⟩
section
variable {X : Cx} {Z : Zx} {tg e : Expr}
def dScr (K : PySem.W.Frag) (R : Reg) (i : Nat) : TDI := fun δ Q _ => ∃ b ns, δ[i]? = some (some (.v (.ref b))) ∧ IsScr K R b ns ∧ Q (ns.map .int)
theorem daa_ints {K : PySem.W.Frag} {H : Hp} : ∀ ns : List Int, DaAll K H (ns.map V.int) (ns.map PyData.int)
  | [] => .nil
  | n :: r => .cons (.int n) (daa_ints r)
theorem daa_ints_inv {K : PySem.W.Frag} {H : Hp} : ∀ (ns : List Int) {vs : List V}, DaAll K H vs (ns.map PyData.int) → vs = ns.map V.int
  | [], _, h => by cases h; rfl
  | n :: r, _, h => by
    cases h with
    | cons h1 h2 =>
      cases h1
      rw [daa_ints_inv r h2]
      rfl
theorem di_scr {i : Nat} (hp : PE X e (tVar i)) (hK : Z.K = X.K) : DI X Z tg e (iList X.K (tVar i)) (dScr X.K Z.R i) := by
  refine ⟨pi_list hp, fun I H δ σ Qd Ed R hh q k => ?_⟩
  obtain ⟨b, ns, ex, ⟨hs, hl⟩, q⟩ := q
  obtain ⟨v, e1, rfl⟩ := hh.env.val i _ ex
  refine ⟨_, e1, b, rfl, ⟨_, hs H hh.g.j⟩, k (Itl X.K b) (ns.map .int) I H (Ext.refl hh.g) (fun I' H' g s => ?_) (by rw [List.length_map]; exact Nat.le_trans hl (by decide)) q⟩
  have h1 := hs H' g.j
  refine ⟨fun j y ey => ?_, ⟨_, h1, by rw [List.length_map, List.length_map]; exact Nat.le_refl _⟩⟩
  rw [List.getElem?_map] at ey
  obtain ⟨n, en, rfl⟩ := Option.map_eq_some_iff.mp ey
  have en2 : (ns.map V.int)[j]? = some (.int n) := by rw [List.getElem?_map, en]; rfl
  refine ⟨⟨_, _, h1, en2⟩, fun x H'' hy => ?_⟩
  obtain ⟨rfl, hy⟩ := hy
  have e2 := hy _ h1
  rw [en2] at e2
  cases e2
  exact ⟨I', Ext.refl g, .int _⟩
end
def spBegun (K : PySem.W.Frag) : Sp := fun vs H Q _ => ∃ (a : Addr) (ns : List Int), vs = [.ref a] ∧ SqL K H a (ns.map V.int) ∧ ns.length ≤ 63 ∧
  ∀ (H' : Hp) (x g c : Addr), (∀ b o, H b = some o → H' b = some o) → g ≠ c → H x = none → StN 0 H' x g c → Q (.ref x) H'
def ov (i : Int) : Option Int := if (10 : Int) ^ (18 : Int).toNat ≤ i then some (i - (10 : Int) ^ (18 : Int).toNat) else none
def ovD : PyData → Option PyData
  | .int i => (ov i).map .int
  | _ => none
theorem ov_all : ∀ ns : List Int, (ns.map PyData.int).filterMap ovD = (ns.filterMap ov).map .int
  | [] => rfl
  | n :: ns => by
    have ih := ov_all ns
    rw [List.map_cons, List.filterMap_cons, List.filterMap_cons]
    have e : ovD (.int n) = (ov n).map .int := rfl
    rw [e]
    cases ov n with
    | none => exact ih
    | some b => show PyData.int b :: _ = PyData.int b :: _; rw [ih]

section
variable {P : Program} {w : World} {K : PySem.W.Frag} {mg : Str → Option Value} {base : Heap}
theorem ok__law_begun (c : Tx K w mg) : FnOk P w K mg base (L2.CX P w) 1 (He.ga K "_law_begun") (fdOf K (He.ga K "_law_begun")) ["_law_script"] (spBegun K) := by
  refine c.fd__law_begun.ok sc__law_begun (fun vs H Q E h => ?_) (fun cdv A outer s H vs Q E hr h => ?_)
  · obtain ⟨a, ns, rfl, _⟩ := h
    rfl
  obtain ⟨a, ns, rfl, sq, few, k⟩ := h
  have D1 : DS (cxOf (L2.CX P w) P w K mg base ["_law_script", "_law_span", "_law_cell"] "_law_begun" (defScope (top 35)) (He.ga K "_law_begun") cdv A outer s H E) ⟨K, regAll H, wOf E, hNone, H⟩ ((defBody (top 35)).getD 0 (.Pass ⟨0, 0, 0, 0⟩)) _ _ := (ds_setLc (i := 1) (own := [("_law_cell", 2)]) s rfl sc__law_begun.nd rfl rfl (sw_true rfl rfl rfl (by decide +kernel)) (di_scr (pv 0) rfl) (blkOk_by (N := ["_law_script", "_law_span", "_law_cell"]) (sc := defScope (top 35)) (by decide +kernel)) (fun _ _ _ _ _ => (dg_name (i := 2) sc__law_begun.nd rfl (by first | exact .inl rfl | exact .inr rfl))) (fun _ _ _ _ _ => (dts_one (dt_cmp op_ge (nomark _) od_intB (de_var (pv 2)) (de_op op_pow od_int de_int de_int)))) (fun _ _ _ _ _ => (de_op op_subX od_sub (de_var (pv 2)) (de_op op_pow od_int de_int de_int))) (tgt_name (by decide)))
  refine ⟨_, pss_cons D1.ps (pss_one (ps_ret (pe_disp (pps_cons pe_str (pv 1) (pps_cons pe_str (pe_callTy call_list_of (by rfl) c.f_list b_list (pa_cons (pv 0) pa_nil)) (pps_cons pe_str pe_int (pps_cons pe_str pe_int pps_nil)))) rfl rfl (by simp) (by show 4 ≤ 15; decide)))), ?_⟩
  have gd := good_all H
  refine D1.rf hNone H [some (.v (.ref a)), none, none] _ { nx := fun δ => ∃ gs : List Int, δ = [some (.v (.ref a)), some (.d (.list (gs.map .int))), none], rt := fun _ => False } (fun _ => False) { nx := fun σ H' => tRet _ { nx := fun _ H' => Q .non H', rt := Q } σ H', rt := Q } ⟨gd, Ext.refl gd, ?_, fun _ _ _ _ _ _ _ q => q.elim⟩ ?_ ⟨?_, fun _ _ _ _ _ _ q => q.elim, fun _ _ _ _ _ _ _ q => q.elim, fun _ _ _ _ _ _ _ q => q.elim⟩
  · exact args_env (Z := ⟨K, regAll H, wOf E, hNone, H⟩) rfl gd (.cons (x := .v (.ref a)) rfl .nil) 2
  · refine ⟨a, ns, rfl, ⟨fun H' j => sqL_mono j sq, few⟩, ?_⟩
    refine lcGo_fm (f := ovD) (fun y hy KK kk => ?_) ?_
    · obtain ⟨i, _, rfl⟩ := List.mem_map.mp hy
      refine setG (δ' := [some (.v (.ref a)), none, some (.d (.int i))]) rfl ?_
      refine ⟨⟨by decide, by decide⟩, ?_⟩
      have kk : KK ((ov i).map .int) := kk
      unfold ov at kk
      refine intB_bK (p := fun i j => decide (j ≤ i)) ?_
      refine bKG (fun b => ?_) fun b => ?_
      · rw [if_pos (of_decide_eq_true b)] at kk
        refine ifT ?_
        exact ⟨⟨by decide, by decide⟩, trivial, kk⟩
      · rw [if_neg (of_decide_eq_false b)] at kk
        exact kk
    · rw [List.nil_append, ov_all]
      exact ⟨_, rfl⟩
  · rintro δ σ I' H' ext sm env ⟨gs, rfl⟩
    obtain ⟨v0, e0, s0⟩ := env.val 0 _ rfl
    obtain ⟨v1, e1, s1⟩ := env.val 1 _ rfl
    have s0 : v0 = .ref a := s0
    subst s0
    have s1 : Da K I' v1 (.list (gs.map .int)) := s1
    cases s1 with
    | @lst gA xs ds hg hv =>
    rw [daa_ints_inv gs hv] at hg
    have hg := ext.good.sub _ _ hg
    have old : ∀ b o, H b = some o → H' b = some o := ext.good.j
    intro p hp
    have ng : gA ≠ p := fun e => by rw [e, hp] at hg; cases hg
    refine ⟨_, e1, _, e0, a, ns.map V.int, rfl, .inl (sqL_mono (fun b o e => by rw [upd_ne (fun z => by rw [z, hp] at e; cases e)]; exact e) (sqL_mono old sq)), fun l hl => ?_⟩
    have npl : p ≠ l := fun e => by rw [← e, upd_same] at hl; cases hl
    have hl' : H' l = none := by rw [upd_ne (Ne.symm npl)] at hl; exact hl
    have ngl : gA ≠ l := fun e => by rw [e, hl'] at hg; cases hg
    refine ⟨by rw [upd_ne npl, upd_same], stRows gA l 0 0, rfl, (show 4 ≤ 15 by decide), ?_⟩
    refine k _ p gA l (fun b o e => ?_) ngl ?_ ⟨gs, ns, 0, 0, upd_same, ?_, ?_, Nat.le_refl _⟩
    · have e' := old b o e
      have b1 : b ≠ p := fun z => by rw [z, hp] at e'; cases e'
      have b2 : b ≠ l := fun z => by rw [z, hl'] at e'; cases e'
      rw [upd_ne b1, upd_ne b2, upd_ne b1]
      exact e'
    · cases z : H p with
      | none => rfl
      | some o => rw [old p o z] at hp; cases hp
    · rw [upd_ne ng, upd_ne ngl, upd_ne ng]
      exact hg
    · rw [upd_ne (Ne.symm npl), upd_same]
end
end K85
set_option Elab.async false
set_option linter.all false
set_option maxRecDepth 100000
set_option maxHeartbeats 4000000
namespace K85
open PySem PySem.Spec PyProof.Rows L2 PD DW DX
def spBentA : Spi := fun R n xs Q => ∃ m, m ≤ 5 ∧ spBent m R n xs Q
def oNotBl : O2 := fun x y Q _ => match x, y with
  | .d (.bool a), .d (.bool b) => Q (.d (.bool (!decide (a = b))))
  | _, _ => False
theorem od_notBl {Z : Zx} : OpD Z rNotB oNotBl := fun I H Hs x y v u Qd Ed Q g' ax ay t k => by
  unfold oNotBl at t
  split at t
  · cases ax; cases ay
    exact ⟨_, _, rfl, rfl, k.now g'.g (.bl _) t⟩
  · exact t.elim
section
variable {X : Cx} {Z : Zx} {pos : Pos}
/-- sums(e, ladder) -/
def dSums (Z : Zx) (i : Nat) (d1 : TD) : TD := fun δ Q E => ∃ (x : Addr) (t : DX.Tm), δ[i]? = some (some (.v (.ref x))) ∧ LadAt Z.K Z.I0 Z.H0 x t.data ∧ ¬ Z.R.m x ∧ t.ok ∧ d1 δ (fun y => ∃ d, froz y = .d d ∧ Ft d ∧ Q (.d (.bool (sumsD t d)))) E
theorem sums_at {I H I1 H1 : Hp} {δ : DEnv} {σ : L2.St} {Ed : EK} {x : Addr} {t : DX.Tm} {d : PyData} {v : V} {Qd : DK} {Q : VK} {E : XK} (hh : Here Z I H δ σ Ed) (hL : LadAt Z.K Z.I0 Z.H0 x t.data) (nm : ¬ Z.R.m x) (ok : t.ok) (e1 : Ext Z.R I H I1 H1) (a1 : Da Z.K I1 v d) (ft : Ft d) (q : Qd (.d (.bool (sumsD t d)))) (k : Then Z I H Qd Q) :
    spSums Z.K [v, .ref x] H1 Q E := by
  obtain ⟨dx, p, hx, hT⟩ := hL
  have e0 := hh.e0.trans hh.g0 e1
  exact ⟨Z.R, I1, d, v, .ref x, rfl, e1.good, a1, .inl ⟨x, t, rfl, ⟨dx, p, e0.keep _ _ hx nm, da_mono e0.sub _ _ hT⟩, nm, ok, ft, fun I' H' ext => k (.d (.bool (sumsD t d))) _ I' H' (e1.trans hh.g ext) (.bl _) q⟩⟩
theorem de_sums {i : Nat} {l : Str} {p1 p2 : Pos} {e1 : Expr} {te : TE} {d1 : TD} {k : Nat} {f : Addr} {fd : FuncData} (hK : Z.K = X.K) (F : FnOk X.prog X.w X.K X.mg X.base (L2.CX X.prog X.w) k f fd ["rows", "ladder"] (spSums X.K)) (hr : Room k X.A) (hg : Gl X "sums") (hm : X.mg "sums" = some (.ref f)) (hk : PySem.W.keepIn X.K (.ref f) = true) (hb : Binds X.K fd ["rows", "ladder"] [])
    (h1 : DE X Z e1 te d1) (hl : PE X (.Name l p1) (tVar i))
    (he : starEach [e1, .Name l p1] X.env = (false, eval e1 X.env) :: starEach [.Name l p1] X.env := by rfl) (he2 : starEach [.Name l p1] X.env = (false, eval (.Name l p1) X.env) :: starEach [] X.env := by rfl) (hpl : (backTo pos (starEach [.Name l p1] X.env)).any (·.1) = false := by rfl) :
    DE X Z (.Call (.Name "sums" p2) [e1, .Name l p1] [] pos) (tCall (spSums X.K) [] E0 (tCons te (tCons (tVar i) tNil))) (dSums Z i d1) := by
  refine ⟨pe_call F hr hg hm hk hb .nil passL (pa_cons h1.pe (pa_cons hl pa_nil he2) he) (by decide) he hpl, fun I H δ σ Qd Ed Q hh t k => ?_⟩
  obtain ⟨x, t, ex, hL, nm, ok, q⟩ := t
  refine h1.rf I H δ σ _ Ed _ hh q (Then.frz (Qd := fun y => ∃ d, y = .d d ∧ Ft d ∧ Qd (.d (.bool (sumsD t d)))) fun y v I1 H1 e1 a1 q1 => ?_)
  obtain ⟨d, rfl, ft, q1⟩ := q1
  obtain ⟨u, eu, rfl⟩ := hh.env.val i _ ex
  have := sums_at (E := E0) hh hL nm ok e1 a1 ft q1 k
  rw [hK] at this
  exact ⟨_, eu, this⟩
/-- sums(ladder=ladder, rows=e) -/
def tCallK2 (sp : Sp) (E : XK) (t1 t2 : TE) : TE := fun σ H Q => t1 σ H fun v H1 => t2 σ H1 fun u H2 => sp [u, v] H2 Q E
theorem pe_callK2 {CX : CXT} {k : Nat} {x : Str} {p : Pos} {f : Addr} {fd : FuncData} {ps : List Str} {sp : Sp} {E : XK} {y z : Str} {k1 k2 : Pos} {ea eb : Expr} {ta tb : TE} (F : FnOk X.prog X.w X.K X.mg X.base CX k f fd ps sp) (hr : Room k X.A) (hg : Gl X x) (hm : X.mg x = some (.ref f)) (hk : PySem.W.keepIn X.K (.ref f) = true)
    (hb : ∀ (s : Shared) (u v : Value), X.K.In s.heap → BindsTo s fd ⟨[], [(y, u), (z, v)]⟩ (ps.zip [v, u])) (hx : Passes CX X E) (ha : PE X ea ta) (hbb : PE X eb tb) (hdb : (x == ("__debug__" : Str)) = false := by decide)
    (hall : (backToKw pos (keywordEach [⟨some y, ea, k1⟩, ⟨some z, eb, k2⟩] X.env)).all (·.1.isSome) = true := by rfl) (hks : (backToKw pos (keywordEach [⟨some y, ea, k1⟩, ⟨some z, eb, k2⟩] X.env)).filterMap (·.1) = [y, z] := by rfl)
    (hpl : ((backTo pos (starEach [] X.env)).any (·.1) || (backToKw pos (keywordEach [⟨some y, ea, k1⟩, ⟨some z, eb, k2⟩] X.env)).any (·.1.isNone)) = false := by rfl) :
    PE X (.Call (.Name x p) [] [⟨some y, ea, k1⟩, ⟨some z, eb, k2⟩] pos) (tCallK2 sp E ta tb) := by
  refine ⟨fun pins s σ H Q I h => ?_⟩
  refine wpAny_Call_Name_kw (ld_glob I hg hm ?_ hdb)
  have hkw : PK X [⟨some y, ea, k1⟩, ⟨some z, eb, k2⟩] (tCons ta (tCons tb tNil)) := pk_cons ha (pk_cons hbb pk_nil)
  refine PySem.W.callWith_KW0 (h₀ := X.base) I.ok.mod.kin hk hall (thn (hkw.run pos pins s σ H (fun vs H1 => match vs with | [v, u] => sp [u, v] H1 Q E | _ => False) I h) fun ws s2 ⟨zs, H2, I2, rz, q2⟩ => ⟨I2.kIn, ?_⟩) hpl
  dsimp only at q2
  split at q2
  case h_2 => exact q2.elim
  rename_i v u
  rw [hks]
  cases rz with
  | @cons v u' vs us r rr =>
    cases rr with
    | @cons w w' ws' us' r2 rr2 =>
    cases rr2
    refine wpAny_call (codeAny_mono (F.run X.A X.stack s2 H2 ⟨[], [(y, u'), (z, w')]⟩ [w', u'] [u, v] Q E hr I2.env0 (hb s2 u' w' I2.kIn) (.cons r2 (.cons r .nil)) q2) fun r s' hq => ?_)
    cases r with
    | error e => exact hx pins σ H2 s2 e s' I2 hq
    | ok fl =>
      cases fl with
      | ret u => exact I2.after hq
      | next => exact False.elim hq
      | brk => exact False.elim hq
      | cont => exact False.elim hq
theorem de_sumsK {i : Nat} {l : Str} {p1 p2 k1 k2 : Pos} {e1 : Expr} {te : TE} {d1 : TD} {k : Nat} {f : Addr} {fd : FuncData} (hK : Z.K = X.K) (F : FnOk X.prog X.w X.K X.mg X.base (L2.CX X.prog X.w) k f fd ["rows", "ladder"] (spSums X.K)) (hr : Room k X.A) (hg : Gl X "sums") (hm : X.mg "sums" = some (.ref f)) (hk : PySem.W.keepIn X.K (.ref f) = true)
    (hb : ∀ (s : Shared) (u v : Value), X.K.In s.heap → BindsTo s fd ⟨[], [("ladder", u), ("rows", v)]⟩ ((["rows", "ladder"] : List Str).zip [v, u]))
    (h1 : DE X Z e1 te d1) (hl : PE X (.Name l p1) (tVar i))
    (hall : (backToKw pos (keywordEach [⟨some "ladder", .Name l p1, k1⟩, ⟨some "rows", e1, k2⟩] X.env)).all (·.1.isSome) = true := by rfl) (hks : (backToKw pos (keywordEach [⟨some "ladder", .Name l p1, k1⟩, ⟨some "rows", e1, k2⟩] X.env)).filterMap (·.1) = (["ladder", "rows"] : List Str) := by rfl)
    (hpl : ((backTo pos (starEach [] X.env)).any (·.1) || (backToKw pos (keywordEach [⟨some "ladder", .Name l p1, k1⟩, ⟨some "rows", e1, k2⟩] X.env)).any (·.1.isNone)) = false := by rfl) :
    DE X Z (.Call (.Name "sums" p2) [] [⟨some "ladder", .Name l p1, k1⟩, ⟨some "rows", e1, k2⟩] pos) (tCallK2 (spSums X.K) E0 (tVar i) te) (dSums Z i d1) := by
  refine ⟨pe_callK2 F hr hg hm hk hb passL hl h1.pe (by decide) hall hks hpl, fun I H δ σ Qd Ed Q hh t k => ?_⟩
  obtain ⟨x, t, ex, hL, nm, ok, q⟩ := t
  obtain ⟨u, eu, rfl⟩ := hh.env.val i _ ex
  refine ⟨_, eu, ?_⟩
  refine h1.rf I H δ σ _ Ed _ hh q (Then.frz (Qd := fun y => ∃ d, y = .d d ∧ Ft d ∧ Qd (.d (.bool (sumsD t d)))) fun y v I1 H1 e1 a1 q1 => ?_)
  obtain ⟨d, rfl, ft, q1⟩ := q1
  have := sums_at (E := E0) hh hL nm ok e1 a1 ft q1 k
  rw [hK] at this
  exact this
end
theorem bindsK2 {K : PySem.W.Frag} {x qual : Str} {params : Arguments} {body : List Stmt} {scope : Scope} {f : Addr} {fd : FuncData} {ps : List Str} {y z : Str} (F : FunD K x qual params body scope [] [] f fd)
    (h : ∀ (kV doc pm : Value) (an : Option Addr) (cdv ct : Value) (u v : Value), bindArgs (PySem.W.fnOf x qual params body scope .none kV doc pm an cdv ct) ⟨[], [(y, u), (z, v)]⟩ = pure (ps.zip [v, u])) (s : Shared) (u v : Value) (_ : K.In s.heap) : BindsTo s fd ⟨[], [(y, u), (z, v)]⟩ (ps.zip [v, u]) := by
  obtain ⟨oc, od, dV, kV, doc, pm, an, cdv, ct, osl, rfl, lk, hcd, hD, hK⟩ := F.ex
  rcases hD with ⟨_, rfl⟩ | ⟨e, _⟩
  · exact .of_eq (h kV doc pm an cdv ct u v)
  · exact absurd rfl e

section
variable {P : Program} {w : World} {K : PySem.W.Frag} {mg : Str → Option Value} {base : Heap}
theorem bk_sums (c : Tx K w mg) : ∀ (s : Shared) (u v : Value), K.In s.heap → BindsTo s (fdOf K (He.ga K "sums")) ⟨[], [("ladder", u), ("rows", v)]⟩ ((["rows", "ladder"] : List Str).zip [v, u]) := bindsK2 c.fd_sums fun _ _ _ _ _ _ _ _ => rfl
theorem ok__law_bent (c : Tx K w mg) : FnOk P w K mg base (L2.CX P w) 26 (He.ga K "_law_bent") (fdOf K (He.ga K "_law_bent")) ["_law_state", "_law_thing", "_law_deep"] (liftI K spBentA 3) := by
  have F : ∀ m, m ≤ 5 → FnOk P w K mg base (L2.CX P w) 26 (He.ga K "_law_bent") (fdOf K (He.ga K "_law_bent")) ["_law_state", "_law_thing", "_law_deep"] (liftI K (spBent m) 3) := fun m hm => (ok_bent c m).mono (by omega)
  refine ⟨fun vs H Q E h => h.1, fun A outer s H args us vs Q E hr he hb hv h => ?_⟩
  obtain ⟨hl, R, n, I, xs, Qd, gd, ar, ⟨m, hm, hs⟩, k⟩ := h
  exact (F m hm).run A outer s H args us vs Q E hr he hb hv ⟨hl, R, n, I, xs, Qd, gd, ar, hs, k⟩
end
end K85
set_option Elab.async false
set_option linter.all false
set_option maxRecDepth 100000
set_option maxHeartbeats 4000000
namespace K85
open PySem PySem.Spec PyProof.Rows L2 PD DW DX
def forBody : Stmt → List Stmt
  | .For _ _ b _ _ => b
  | _ => []
def pass0S : Stmt := .Pass ⟨0, 0, 0, 0⟩
theorem fs_ft {s k : Nat} {d : PyData} (hs : s ≤ 2) (hk : k ≤ 10) (h : Fs s k d) : Ft d := by
  have hp : 9 * 2 ^ s ≤ 60 := by
    have : s = 0 ∨ s = 1 ∨ s = 2 := by omega
    rcases this with rfl | rfl | rfl <;> decide
  have e : (10 : Nat) ^ 20 + 2000 ≤ 10 ^ 30 := by decide
  exact Fz.ft h (by omega) (by omega) hp (by omega)
theorem li_of {s : Nat} (hs : s ≤ 1) : Li (100 + s) (10 ^ 20 + 1000 * s) (9 * 2 ^ s) := by
  have : s = 0 ∨ s = 1 := by omega
  rcases this with rfl | rfl <;> exact ⟨by decide, by decide, by decide, by decide, by decide, by decide⟩
theorem fs_next {s k : Nat} {d : PyData} (h : Fz (100 + s + 1) (10 ^ 20 + 1000 * s + 1000) (2 * (9 * 2 ^ s)) (k + 1) d) : Fs (s + 1) (k + 1) d := by
  have e : 9 * 2 ^ (s + 1) = 2 * (9 * 2 ^ s) := by rw [Nat.pow_succ]; omega
  show Fz _ _ (9 * 2 ^ (s + 1)) _ _
  rw [e]
  exact h.mono (by omega) (by omega) (Nat.le_refl _) (Nat.le_refl _)
theorem fs_tup {s k : Nat} {xs : List PyData} (h : Fs s k (.list xs)) : Fs s k (.tuple xs) := by
  obtain ⟨l, j, rfl, al⟩ := Fz.lst_inv h
  exact Fz.tup l al

section
variable {P : Program} {w : World} {K : PySem.W.Frag} {mg : Str → Option Value} {base : Heap}
theorem chunk1 (c : Tx K w mg) {cdv : Value} {A : Around} {outer : List Env} {s : Shared} {H : Hp} {E : XK} (hr : Room 29 (A.deeper (envOfC "law" (defScope (top 55)) s.heap.objs.size (He.ga K "law") cdv))) (H1 : Hp) (a g cc : Addr) :
    ∃ ts1 ts2, PS (cxOf (L2.CX P w) P w K mg base ["_law_script", "_law_state", "_law_turn", "_law_bends", "_law_terms_here", "_law_scale", "_law_pages", "_law_k_here", "_law_found"] "law" (defScope (top 55)) (He.ga K "law") cdv A outer s H E) ((forBody ((defBody (top 55)).getD 1 pass0S)).getD 0 pass0S) ts1 ∧ PS (cxOf (L2.CX P w) P w K mg base ["_law_script", "_law_state", "_law_turn", "_law_bends", "_law_terms_here", "_law_scale", "_law_pages", "_law_k_here", "_law_found"] "law" (defScope (top 55)) (He.ga K "law") cdv A outer s H E) ((forBody ((defBody (top 55)).getD 1 pass0S)).getD 1 pass0S) ts2 ∧ ∀ (T : Ends) (σ : L2.St) (n : Nat), σ.length = 9 → σ[1]? = some (some (.ref a)) → g ≠ cc → StN n H1 a g cc → n + 30 ≤ Lim →
      (∀ (k : Nat) (I' H' : Hp) (σ' : L2.St) (b : Int) (t : DX.Tm) (v4 : V), k ≤ n + 30 → Ext ((stFam a g cc).R k) hNone H1 I' H' → σ'.length = 9 → σ'[1]? = some (some (.ref a)) → σ'[3]? = some (some (.int b)) → σ'[4]? = some (some v4) → Da K I' v4 t.data → t.ok → 0 ≤ b → b < 3 → T.nx σ' H') → tSeq ts1 ts2 T σ H1 := by
  have D1 : DSI (cxOf (L2.CX P w) P w K mg base ["_law_script", "_law_state", "_law_turn", "_law_bends", "_law_terms_here", "_law_scale", "_law_pages", "_law_k_here", "_law_found"] "law" (defScope (top 55)) (He.ga K "law") cdv A outer s H E) ⟨K, stFam a g cc, wOf E, hNone, H1⟩ ((forBody ((defBody (top 55)).getD 1 pass0S)).getD 0 pass0S) _ _ := (si_set (i := 3) sc_law.nd rfl (by first | exact .inl rfl | exact .inr rfl) (ei_fn (ok__law_take c) (hr.mono (by decide)) (by rfl) c.g__law_take c.fd__law_take.kp (bd__law_take c) (takesC (takes_of rfl rfl rfl rfl)) rfl (ai_cons (ei (fun _ => (de_var (pv 1)))) (ai_cons (ei (fun _ => de_int)) ai_nil))))
  have D2 : DSI (cxOf (L2.CX P w) P w K mg base ["_law_script", "_law_state", "_law_turn", "_law_bends", "_law_terms_here", "_law_scale", "_law_pages", "_law_k_here", "_law_found"] "law" (defScope (top 55)) (He.ga K "law") cdv A outer s H E) ⟨K, stFam a g cc, wOf E, hNone, H1⟩ ((forBody ((defBody (top 55)).getD 1 pass0S)).getD 1 pass0S) _ _ := (si_set (i := 4) sc_law.nd rfl (by first | exact .inl rfl | exact .inr rfl) (ei_fn (ok__law_terms c) (hr.mono (by decide)) (by rfl) c.g__law_terms c.fd__law_terms.kp (bd__law_terms c) (takesC (takes_of rfl rfl rfl rfl)) rfl (ai_cons (ei (fun _ => (de_var (pv 1)))) ai_nil)))
  refine ⟨_, _, D1.ps, D2.ps, fun T σ n hl h1 ng st hn k => ?_⟩
  have gd : PD.Good ((stFam a g cc).R n) hNone H1 := ⟨fun b o e => (by cases e), ⟨ng, st⟩, fun b o e => (by cases e), fun b o e => (by cases e)⟩
  refine (ssi_cons D1 (ssi_one D2)).rf n hNone H1 [none, some (.v (.ref a)), none, none, none, none, none, none, none] σ { nx := fun δ j => ∃ (b : Int) (t : DX.Tm), 0 ≤ b ∧ b < 3 ∧ t.ok ∧ j ≤ n + 30 ∧ δ = [none, some (.v (.ref a)), none, some (.d (.int b)), some (.d t.data), none, none, none, none], rt := fun _ _ => False } T ⟨gd, Ext.refl gd, ?_, fun _ _ _ _ _ _ _ q => q.elim⟩ ?_ ⟨?_, fun _ _ _ _ _ _ _ _ q => q.elim, fun _ _ _ _ _ _ _ _ _ q => q.elim, fun _ _ _ _ _ _ _ _ _ q => q.elim⟩
  · refine ⟨hl.symm, fun i x e => ?_, fun i j xs ys v _ e => ?_⟩
    · rcases i with _ | _ | i
      · cases e
      · cases e
        exact ⟨.ref a, h1, rfl⟩
      · have m := List.mem_of_getElem? (show ([none, none, none, none, none, none, none] : DEnv)[i]? = some (some x) from e)
        simp at m
    · have m := List.mem_of_getElem? e
      simp at m
  · refine ⟨rfl, nnv, a, g, cc, 3, rfl, rfl, by decide, by decide, by omega, fun b b0 b1 => ?_⟩
    refine setG (δ' := [none, some (.v (.ref a)), none, some (.d (.int b)), none, none, none, none, none]) rfl ?_
    refine ⟨rfl, nnv1, a, g, cc, rfl, rfl, by omega, fun t j ok hj => ?_⟩
    exact ⟨b, t, b0, b1, ok, by omega, rfl⟩
  · rintro j δ σ' I' H' lj ext sm env ⟨b, t, b0, b1, ok, hj, rfl⟩
    obtain ⟨v1, e1, s1⟩ := env.val 1 _ rfl
    obtain ⟨v3, e3, s3⟩ := env.val 3 _ rfl
    obtain ⟨v4, e4, s4⟩ := env.val 4 _ rfl
    have s1 : v1 = .ref a := s1
    subst s1
    cases s3
    exact k j I' H' σ' b t v4 hj ext env.len.symm e1 e3 e4 s4 ok b0 b1
theorem chunk2 (c : Tx K w mg) {cdv : Value} {A : Around} {outer : List Env} {s : Shared} {H : Hp} {E : XK} (hr : Room 29 (A.deeper (envOfC "law" (defScope (top 55)) s.heap.objs.size (He.ga K "law") cdv))) (I2 H2 : Hp) (a g cc : Addr) (T : Ends) (σ : L2.St) (n : Nat) (x : Addr) (t : DX.Tm) (b : Int) (v4 : V) (hl : σ.length = 9) (h1 : σ[1]? = some (some (.ref a))) (h3 : σ[3]? = some (some (.int b))) (h4 : σ[4]? = some (some v4)) (h5 : σ[5]? = some (some (.ref x)))
    (d4 : Da K I2 v4 t.data) (ok : t.ok) (b0 : 0 ≤ b) (b1 : b < 3) (hL : LadAt K I2 H2 x t.data) (nm : ¬ (stFam a g cc).m x) (gd : PD.Good ((stFam a g cc).R n) I2 H2) (hn : n + 3000 ≤ Lim)
    (k : ∀ (k : Nat) (I' H' : Hp) (σ' : L2.St), k ≤ n + 3000 → Ext ((stFam a g cc).R k) I2 H2 I' H' → σ'.length = 9 → σ'[1]? = some (some (.ref a)) → T.nx σ' H') : tAll (cxOf (L2.CX P w) P w K mg base ["_law_script", "_law_state", "_law_turn", "_law_bends", "_law_terms_here", "_law_scale", "_law_pages", "_law_k_here", "_law_found"] "law" (defScope (top 55)) (He.ga K "law") cdv A outer s H E) ((forBody ((defBody (top 55)).getD 1 pass0S)).drop 3) T σ H2 := by
  have D : ∃ ts t', DSsI (cxOf (L2.CX P w) P w K mg base ["_law_script", "_law_state", "_law_turn", "_law_bends", "_law_terms_here", "_law_scale", "_law_pages", "_law_k_here", "_law_found"] "law" (defScope (top 55)) (He.ga K "law") cdv A outer s H E) ⟨K, stFam a g cc, wOf E, I2, H2⟩ ((forBody ((defBody (top 55)).getD 1 pass0S)).drop 3) ts t' ∧
      t' { nx := fun δ j => j ≤ n + 3000 ∧ ∃ x6 x7 x8, δ = [none, some (.v (.ref a)), none, some (.d (.int b)), some (.d t.data), some (.v (.ref x)), x6, x7, x8], rt := fun _ _ => False } [none, some (.v (.ref a)), none, some (.d (.int b)), some (.d t.data), some (.v (.ref x)), none, none, none] n := by
    refine ⟨_, _, (ssi_cons (si_set (i := 6) sc_law.nd rfl (by first | exact .inl rfl | exact .inr rfl) (ei_fn (ok__law_good c) (hr.mono (by decide)) (by rfl) c.g__law_good c.fd__law_good.kp (bd__law_good c) (takesC (takes_of rfl rfl rfl rfl)) rfl (ai_cons (ei (fun _ => (de_var (pv 1)))) (ai_cons (ei (fun _ => (de_var (pv 4)))) ai_nil))))
      (ssi_cons (si (fun _ => (ds_if (dw_or (dt_cmp op_notBl (nomark _) od_notBl (de_sums (i := 5) rfl (ok_sums c) (hr.mono (by decide)) (by rfl) c.g_sums c.fd_sums.kp (bd_sums c) (de_var (pv 6)) (pv 5)) de_bl) (dw_or1 (dt_cmp op_notBl (nomark _) od_notBl (de_sumsK (i := 5) rfl (ok_sums c) (hr.mono (by decide)) (by rfl) c.g_sums c.fd_sums.kp (bk_sums c) (de_callTy call_tuple_of (cd_tuple rfl) (by rfl) c.f_tuple b_tuple (da_cons (de_var (pv 6)) da_nil)) (pv 5)) de_bl))).dt (dss_one (ds_ret de_bl)) dss_nil)))
      (ssi_cons (si_for (passes_of rfl) rfl (ii_range1 (by rfl) c.f_range (ai_cons (ei (fun _ => (de_var (pv 3)))) ai_nil)) (fun _ => (dg_name (i := 7) sc_law.nd rfl (by first | exact .inl rfl | exact .inr rfl))) (ssi_one (si_set (i := 6) sc_law.nd rfl (by first | exact .inl rfl | exact .inr rfl) (ei_fn (ok__law_bent c) (hr.mono (by decide)) (by rfl) c.g__law_bent c.fd__law_bent.kp (bd__law_bent c) (takesC (takes_of rfl rfl rfl rfl)) rfl (ai_cons (ei (fun _ => (de_var (pv 1)))) (ai_cons (ei (fun _ => (de_var (pv 6)))) (ai_cons (ei_op op_cat' (fun _ => (od_add rfl)) (ei (fun _ => de_int)) (ei_fn (ok__law_take c) (hr.mono (by decide)) (by rfl) c.g__law_take c.fd__law_take.kp (bd__law_take c) (takesC (takes_of rfl rfl rfl rfl)) rfl (ai_cons (ei (fun _ => (de_var (pv 1)))) (ai_cons (ei (fun _ => de_int)) ai_nil)))) ai_nil)))))))
      (ssi_cons (si (fun _ => (ds_set (i := 8) sc_law.nd rfl (by first | exact .inl rfl | exact .inr rfl) (de_sums (i := 5) rfl (ok_sums c) (hr.mono (by decide)) (by rfl) c.g_sums c.fd_sums.kp (bd_sums c) (de_var (pv 6)) (pv 5)))))
      (ssi_cons (si (fun _ => (ds_if (dw_or (dt_not (dt_val (de_callB call_isi (cd_isi rfl) (by rfl) c.f_isinstance b_isinstance (da_cons (de_var (pv 8)) (da_cons (de_ty (by rfl) c.f_bool b_bool) da_nil))))) (dw_or1 (dt_cmp (op_neX (hu64 hr)) (nomark _) (od_ne rfl) (de_var (pv 8)) (de_fnC (ok__law_due c) (hr.mono (by decide)) (by rfl) c.g__law_due c.fd__law_due.kp (bd__law_due c) (takesC (takes_of rfl rfl rfl rfl)) rfl (da_cons (de_var (pv 6)) (da_cons (de_var (pv 4)) da_nil)))))).dt (dss_one (ds_ret de_bl)) dss_nil)))
      (ssi_one (si_if (ti_not (ti_val (ei_fnP (ok__law_refused c) (hr.mono (by decide)) (by rfl) c.g__law_refused c.fd__law_refused.kp (bd__law_refused c) (takesC (takes_of rfl rfl rfl rfl)) rfl (ai_cons (ei_fn (ok__law_pick c) (hr.mono (by decide)) (by rfl) c.g__law_pick c.fd__law_pick.kp (bd__law_pick c) (takesC (takes_of rfl rfl rfl rfl)) rfl (ai_cons (ei (fun _ => (de_var (pv 1)))) (ai_cons (ei (fun _ => (de_lst (da_cons de_non (da_cons (de_var (pv 4)) (da_cons de_str (da_cons de_dict0 (da_cons de_int (da_cons (de_lst da_nil) da_nil))))))))) ai_nil))) ai_nil)))) (ssi_one (si (fun _ => (ds_ret de_bl)))) ssi_nil))))))), ?_⟩
    refine ⟨rfl, nnv, a, g, cc, t, rfl, rfl, ok, by omega, fun ds j sg fz ln hj => ?_⟩
    have sT : sumsD t (.list ds) = true := sg
    have sT2 : sumsD t (.tuple ds) = true := sg
    refine setG (δ' := [none, some (.v (.ref a)), none, some (.d (.int b)), some (.d t.data), some (.v (.ref x)), some (.d (.list ds)), none, none]) rfl ?_
    refine ⟨x, t, rfl, hL, nm, ok, .list ds, rfl, fs_ft (by decide) (by decide) fz, ?_⟩
    rw [sT]
    refine ⟨x, t, rfl, hL, nm, ok, ds, rfl, .tuple ds, rfl, fs_ft (by decide) (by decide) (fs_tup fz), ?_⟩
    rw [sT2]
    refine ⟨Int.le_trans (show b ≤ 21 by omega) (by decide), by omega, ?_⟩
    refine forGoI_inv (fun ds δ j => ∃ (s : Nat) (pg : PyData) (x7 : Option DV), s + ds.length ≤ 2 ∧ j + 20 * ds.length ≤ n + 2100 ∧ Fs s (5 + s) pg ∧ δ = [none, some (.v (.ref a)), none, some (.d (.int b)), some (.d t.data), some (.v (.ref x)), some (.d pg), x7, none]) ?_ ?_ _ _ _ ⟨0, .list ds, none, by rw [range_len]; omega, by rw [range_len]; omega, fz, rfl⟩
    · rintro y ys _ j1 ⟨s, pg, x7, hs, hj1, fp, rfl⟩ N hN
      simp only [List.length_cons] at hs hj1
      refine setG (δ' := [none, some (.v (.ref a)), none, some (.d (.int b)), some (.d t.data), some (.v (.ref x)), some (.d pg), some (.d y), none]) rfl ?_
      refine ⟨rfl, nnv, a, g, cc, 5, rfl, rfl, by decide, by decide, by omega, fun i i0 i1 => ?_⟩
      refine addI ?_
      refine nilJ ?_
      obtain ⟨q, rfl⟩ := Int.eq_ofNat_of_zero_le i0
      refine ⟨rfl, nnv3, q + 1, by omega, a, g, cc, pg, _, _, _, 5 + s, rfl, by show [DV.v (V.ref a), DV.d pg, DV.d (PyData.int (1 + (q : Int)))] = _; rw [show (1 + (q : Int)) = ((q + 1 : Nat) : Int) by omega], li_of (s := s) (by omega), fp, by omega, fun z c hc hz => ?_⟩
      refine setG (δ' := [none, some (.v (.ref a)), none, some (.d (.int b)), some (.d t.data), some (.v (.ref x)), some (.d z), some (.d y), none]) rfl ?_
      exact hN _ _ ⟨s + 1, z, _, by omega, by omega, fs_next hz, rfl⟩
    · rintro _ j1 ⟨s, pg, x7, hs, hj1, fp, rfl⟩
      simp only [List.length_nil] at hs hj1
      have ft := fs_ft (by omega) (by omega) fp
      refine ⟨x, t, rfl, hL, nm, ok, pg, rfl, ft, ?_⟩
      generalize hv : sumsD t pg = v
      refine setG (δ' := [none, some (.v (.ref a)), none, some (.d (.int b)), some (.d t.data), some (.v (.ref x)), some (.d pg), x7, some (.d (.bool v))]) rfl ?_
      refine ⟨_, rfl, .inr (.inr (.inl rfl)), ?_⟩
      refine bKG (fun _ => ?_) fun b => (by cases b)
      refine ifF ?_
      refine ⟨rfl, nn2, pg, t, rfl, ok, ft, ?_⟩
      rw [hv]
      refine ⟨.inl rfl, ?_⟩
      refine bKG (fun b => ?_) fun _ => ?_
      · exfalso
        cases v <;> exact absurd b (by decide)
      refine ifF ?_
      dsimp only [dNext, DEndI.at]
      refine ⟨Nat.zero_le _, (show 6 ≤ sizeLine by decide), ?_⟩
      refine ⟨rfl, nnv, a, g, cc, .list _, _, rfl, rfl, rfl, by simp, (show 6 ≤ sizeLine by decide), by omega, fun y hy => ?_⟩
      refine ⟨rfl, nn1, y, rfl, ?_⟩
      exact ⟨by omega, _, _, _, rfl⟩
  obtain ⟨ts, t', D, dt⟩ := D
  refine ⟨ts, D.ps, D.rf n I2 H2 _ σ _ T ⟨gd, Ext.refl gd, ?_, fun _ _ _ _ _ _ _ q => q.elim⟩ dt ⟨?_, fun _ _ _ _ _ _ _ _ q => q.elim, fun _ _ _ _ _ _ _ _ _ q => q.elim, fun _ _ _ _ _ _ _ _ _ q => q.elim⟩⟩
  · refine ⟨hl.symm, fun i y e => ?_, fun i j xs ys v _ e => ?_⟩
    · rcases i with _ | _ | _ | _ | _ | _ | i
      · cases e
      · cases e
        exact ⟨.ref a, h1, rfl⟩
      · cases e
      · cases e
        exact ⟨.int b, h3, Da.int b⟩
      · cases e
        exact ⟨v4, h4, d4⟩
      · cases e
        exact ⟨.ref x, h5, rfl⟩
      · have m := List.mem_of_getElem? (show ([none, none, none] : DEnv)[i]? = some (some y) from e)
        simp at m
    · have m := List.mem_of_getElem? e
      simp at m
  · rintro j δ σ' I' H' lj ext sm env ⟨hj, x6, x7, x8, rfl⟩
    obtain ⟨v1, e1, s1⟩ := env.val 1 _ rfl
    have s1 : v1 = .ref a := s1
    subst s1
    exact k j I' H' σ' hj ext env.len.symm e1
end
end K85
set_option Elab.async false
set_option linter.all false
set_option maxRecDepth 100000
set_option maxHeartbeats 4000000
namespace K85
open PySem PySem.Spec PyProof.Rows L2 PD DW DX
theorem room30 : Room 30 callerA := ⟨rfl, by decide, by decide⟩
theorem lim_big : 100000 ≤ Lim := by decide

section
variable {P : Program} {w : World} {K : PySem.W.Frag} {mg : Str → Option Value} {base : Heap}
theorem kb_Linit (c : Tx K w mg) : ∃ mv : List Value, KBn K (fdOf K (He.ma K (LadC K) "__init__")) ["self", "first", "wide", "steps", "least"] 1 ["first", "wide", "steps", "least"] (fun us ws => us ++ ws) (fun vs zs => vs ++ zs) :=
  c.fd_Linit.kbinds0 1 ["first", "wide", "steps", "least"] [] (fun us _ ws => us ++ ws) (by simp) (fun q hq => by cases hq) (fun r1 _ r2 => r1.append r2) (fun D doc pm an cdv ct us mv ws l1 l2 l3 => match us, ws, l1, l3 with | [_], [_, _, _, _], _, _ => rfl)
theorem ladS (c : Tx K w mg) {cdv : Value} {A : Around} {outer : List Env} {s : Shared} {H : Hp} {E : XK} (hr : Room 29 (A.deeper (envOfC "law" (defScope (top 55)) s.heap.objs.size (He.ga K "law") cdv))) :
    ∃ ts, PS (cxOf (L2.CX P w) P w K mg base ["_law_script", "_law_state", "_law_turn", "_law_bends", "_law_terms_here", "_law_scale", "_law_pages", "_law_k_here", "_law_found"] "law" (defScope (top 55)) (He.ga K "law") cdv A outer s H E) ((forBody ((defBody (top 55)).getD 1 pass0S)).getD 2 pass0S) ts ∧ ∀ (T : Ends) (σ : L2.St) (I' H' : Hp) (t : DX.Tm) (v4 : V), σ[4]? = some (some v4) → Da K I' v4 t.data → t.ok → PD.Good Reg.no I' H' →
      (∀ (x dx : Addr) (I2 H1 : Hp) (p : Addr), H' x = none → H' dx = none → dx ≠ x → Ext Reg.no I' (upd (upd H' dx (.own x)) x (.ins (LadC K) dx [])) I2 H1 → Da K I2 (.ref p) t.data → T.nx (σ.set 5 (some (.ref x))) (upd H1 x (.ins (LadC K) dx [("parts_told", .ref p)]))) → ts T σ H' := by
  obtain ⟨mv, kb⟩ := kb_Linit c
  refine ⟨_, ps_set (i := 5) sc_law.nd rfl (.inl rfl) (pe_makeK0 c.mk_Ladder (ok_Linit c) (hr.mono (by decide)) (by rfl) c.g_Ladder kb passL (pk_cons (pe_ix ix_seq (pv 4) pe_int (fun _ _ => rfl)) (pk_cons (pe_ix ix_seq (pv 4) pe_int (fun _ _ => rfl)) (pk_cons (pe_ix ix_seq (pv 4) pe_int (fun _ _ => rfl)) (pk_cons (pe_ix ix_seq (pv 4) pe_int (fun _ _ => rfl)) pk_nil))))), fun T σ I' H' t v4 h4 d4 ok gd k => ?_⟩
  cases d4 with
  | @tup q vs ds hq hv =>
  have hq2 := sqT_mono gd.sub hq
  cases hv with
  | @cons v0 vs d0 ds a0 hv =>
  cases hv with
  | @cons v1 vs d1 ds a1 hv =>
  cases hv with
  | @cons v2 vs d2 ds a2 hv =>
  cases hv with
  | @cons v3 vs d3 ds a3 hv =>
  cases hv
  cases a0
  cases a1
  cases a3
  refine ⟨_, h4, .inr (.inl ⟨q, _, _, _, rfl, rfl, hq2, atI_nat (j := 0) rfl, ?_⟩)⟩
  refine ⟨_, h4, .inr (.inl ⟨q, _, _, _, rfl, rfl, hq2, atI_nat (j := 1) rfl, ?_⟩)⟩
  refine ⟨_, h4, .inr (.inl ⟨q, _, _, _, rfl, rfl, hq2, atI_nat (j := 2) rfl, ?_⟩)⟩
  refine ⟨_, h4, .inr (.inl ⟨q, _, _, _, rfl, rfl, hq2, atI_nat (j := 3) rfl, ?_⟩)⟩
  refine ⟨rfl, rfl, fun x dx nx ndx ne => ?_⟩
  have kp : ∀ b o, H' b = some o → upd (upd H' dx (.own x)) x (.ins (LadC K) dx []) b = some o := fun b o e => by
    rw [upd_ne (fun z => by rw [z, nx] at e; cases e), upd_ne (fun z => by rw [z, ndx] at e; cases e)]
    exact e
  exact ⟨x, dx, I', t, v2, rfl, ok, upd_same, ⟨fun b o e => kp b o (gd.sub b o e), trivial, fun b o _ m => m, gd.len⟩, a2, fun I2 H1 p ext da => ⟨rfl, k x dx I2 H1 p nx ndx ne ext da⟩⟩
theorem law_ok (c : Tx K w mg) {s1 : Shared} {H : Hp} {a : Addr} {ns : List Int} (few : ns.length ≤ 63) (e0 : Env0 P w K mg base callerA [] s1 H) (sq : SqL K H a (ns.map V.int)) :
    codeAny (model P w) callerA (.call (.ref (He.ga K "law")) ⟨[.ref a], []⟩) (CR (L2.CX P w) [] P w H s1 (fun v _ => v = .bl true) fun _ _ _ => False) s1 := by
  have kin : K.In s1.heap := e0.mod.kin.keeps fun b o q => (e0.bs b o q).1
  refine once (k := 29) c.fd_law sc_law room30 e0 (bd_law c s1 [.ref a] kin rfl) (.cons (a := V.ref a) rfl .nil) rfl fun cdv => ?_
  have hr : Room 29 (callerA.deeper (envOfC "law" (defScope (top 55)) s1.heap.objs.size (He.ga K "law") cdv)) := room30.deeper _
  refine ⟨_, pss_cons (ps_set (i := 1) sc_law.nd rfl (.inl rfl) (pe_callS (E := WE (wOf fun _ _ _ => False)) (ok__law_begun c) (hr.mono (by decide)) (by rfl) c.g__law_begun c.fd__law_begun.kp (bd__law_begun c) (fun σ => passAt (takes_of rfl rfl rfl rfl) σ) (pa_cons (pv 0) pa_nil)))
    (pss_cons (ps_for (passes_of rfl) rfl (pi_range1 (by rfl) c.f_range (pa_cons pe_int pa_nil)) (pg_name (i := 2) sc_law.nd rfl (.inl rfl)) pss_all) (pss_one (ps_ret pe_bl))), ?_⟩
  refine ⟨_, rfl, a, ns, rfl, sq, few, fun H' x g cc keep ng hx st => ?_⟩
  refine ⟨4, rfl, by decide, by decide, for_range (n := 4) (fun i σ H1 => σ.length = 9 ∧ σ[1]? = some (some (.ref x)) ∧ StN (4000 * i) H1 x g cc) ⟨rfl, rfl, st⟩ ?_ ?_⟩
  · rintro i σ H1 hi ⟨hl, h1, st⟩
    have lb := lim_big
    obtain ⟨ts1, ts2, p1, p2, run1⟩ := chunk1 (P := P) (base := base) (outer := []) (s := s1) (H := H) (E := fun _ _ _ => False) c hr H1 x g cc
    obtain ⟨tsL, pL, runL⟩ := ladS (P := P) (base := base) (outer := []) (s := s1) (H := H) (E := fun _ _ _ => False) c hr
    refine ⟨_, pss_cons p1 (pss_cons p2 (pss_cons pL pss_all)), ?_⟩
    refine run1 _ (σ.set 2 (some (.int (0 + i)))) (4000 * i) (by rw [List.length_set]; exact hl) (by rw [List.getElem?_set_ne (by decide)]; exact h1) ng st (by omega) fun k I' H2 σ' b t v4 hk ext hl' h1' h3' h4' d4 ok b0 b1 => ?_
    refine runL _ σ' I' H2 t v4 h4' d4 ok ⟨ext.good.sub, trivial, fun _ _ _ m => m, ext.good.len⟩ fun xl dx I2 H3 p nx ndx ne e2 da => ?_
    obtain ⟨ng2, gs, cs, r, tt, q1, q2, q3, q4⟩ := ext.good.j
    have off : ∀ b o, H2 b = some o → b ≠ xl ∧ b ≠ dx := fun b o e => ⟨fun z => (by rw [z, nx] at e; cases e), fun z => (by rw [z, ndx] at e; cases e)⟩
    have kn : ∀ b o, H2 b = some o → upd (upd H2 dx (.own xl)) xl (.ins (LadC K) dx []) b = some o := fun b o e => by
      rw [upd_ne (off b o e).1, upd_ne (off b o e).2]
      exact e
    have k3 : ∀ b o, H2 b = some o → H3 b = some o := fun b o e => e2.keep b o (kn b o e) (fun m => m)
    have k4 : ∀ b o, H2 b = some o → upd H3 xl (.ins (LadC K) dx [("parts_told", .ref p)]) b = some o := fun b o e => by
      rw [upd_ne (off b o e).1]
      exact k3 b o e
    have nI : I2 xl = none := by
      cases z : I2 xl with
      | none => rfl
      | some o =>
        rcases e2.fresh xl o z with y | y
        · have := ext.good.sub _ _ y
          rw [nx] at this
          cases this
        · rw [upd_same] at y
          cases y
    have nm : ¬ (stFam x g cc).m xl := by
      rintro (z | z | z)
      · exact (off x _ q1).1 z.symm
      · exact (off g _ q2).1 z.symm
      · exact (off cc _ q3).1 z.symm
    have gd4 : PD.Good ((stFam x g cc).R k) I2 (upd H3 xl (.ins (LadC K) dx [("parts_told", .ref p)])) := by
      refine ⟨fun b o e => ?_, ⟨ng2, gs, cs, r, tt, k4 _ _ q1, k4 _ _ q2, k4 _ _ q3, q4⟩, fun b o e m => ?_, e2.good.len⟩
      · rw [upd_ne (fun z => by rw [z, nI] at e; cases e)]
        exact e2.good.sub b o e
      · rcases e2.fresh b o e with y | y
        · exact ext.good.off b o y m
        · rcases m with rfl | rfl | rfl
          · rw [kn _ _ q1] at y; cases y
          · rw [kn _ _ q2] at y; cases y
          · rw [kn _ _ q3] at y; cases y
    refine chunk2 (P := P) (base := base) (outer := []) (s := s1) (H := H) (E := fun _ _ _ => False) c hr I2 _ x g cc _ (σ'.set 5 (some (.ref xl))) k xl t b v4 (by rw [List.length_set]; exact hl') (by rw [List.getElem?_set_ne (by decide)]; exact h1') (by rw [List.getElem?_set_ne (by decide)]; exact h3') (by rw [List.getElem?_set_ne (by decide)]; exact h4')
      (List.getElem?_set_self (by omega)) (da_mono e2.sub _ _ d4) ok b0 b1 ⟨dx, p, upd_same, da⟩ nm gd4 (by omega) fun k2 I5 H5 σ5 hk2 ext5 hl5 h15 => ?_
    exact ⟨hl5, h15, ((stFam x g cc).up k2 (4000 * (i + 1)) H5 (by omega) ext5.good.j).2⟩
  · rintro σ H1 _
    rfl
end
end K85
set_option Elab.async false
set_option linter.all false
open PySem PySem.W PyProof.Rows
set_option maxRecDepth 100000 in
set_option maxHeartbeats 0 in
theorem PySem.Challenge.cw_playstead_k85_sums_by_numbers_holds : PySem.Challenge.rw_playstead_k85_sums_by_numbers.Holds := by
  w_on; o_law
  refine HandSHeadRun.head_any (r := OpenLaw.row PySem.Challenge.rw_playstead_k85_sums_by_numbers) (q := view (OpenLaw.row PySem.Challenge.rw_playstead_k85_sums_by_numbers).prog [55]) (H := K85.hk) (ob := K85.ob) (M := 6000) (loose := K85.names) (d := HandSHeadRun.topDef (OpenLaw.row PySem.Challenge.rw_playstead_k85_sums_by_numbers).prog 55) (kwd := []) K85.ob_eq
    (by kernel_rfl) (fun s => by kernel_rfl) K85.run (by kernel_rfl) (by kernel_rfl) (by kernel_rfl) (by rfl) (by first | assumption | decide +kernel) (by decide +kernel) ⟨rfl, rfl, rfl, rfl, rfl, by decide +kernel⟩ ?hw ?hc
  case hw => w_witness2
  case hc =>
    refine PD.law_walk (l := PySem.Challenge.rw_playstead_k85_sums_by_numbers) (n := 63) (CX := fun w => L2.CX (PySem.Challenge.rw_playstead_k85_sums_by_numbers).prog w) rfl (by decide) (by kernel_rfl) ?F ?X
    case X =>
      intro w H s e s' z
      obtain ⟨_, _, _, _, _, _, _, _, _, _, _, _, z⟩ := z
      exact z
    case F =>
      intro w mg fa h Y G hmg0
      obtain ⟨K, KX, c⟩ := Y
      have hmg : mg ("law" : PySem.Str) = some (.ref fa) := by
        have e : (HandSHeadRun.topDef (OpenLaw.row PySem.Challenge.rw_playstead_k85_sums_by_numbers).prog 55).name = ("law" : PySem.Str) := by kernel_rfl
        rw [← e]
        exact hmg0
      have t := K85.tx KX G c
      have e := hmg.symm.trans t.g_law
      cases e
      exact ⟨K, KX, fun s1 a ns base H few _ _ e0 sq => K85.law_ok t few e0 sq⟩
