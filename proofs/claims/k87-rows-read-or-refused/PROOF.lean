import PyProof.Rows.All
import Wide.All
import OpenK.AllK
import Wide.FinOn
import HandS.Base
import HandS.Call
import HandS.List
import HandS.Comp
import HandS.Ends
import HandS.Dict
import HandS.Iter
import HandS.Text
import HandS.More
import HandS.Exc
import HandS.TryOnly
import HandS.ExcOwn
import HandS.ExcInit
import HandS.Words
import HandS.WordsList
import HandS.WordsDict
import HandS.WordsExc
import HandS.IsInst
import HandS.Deep
import HandS.Defaults
import HandS.Wide
import HandS.TupAny
import HandS.Conv
import HandS.RaiseMore
import KE.KUnpackStar
import HandS.Style
import KE.GoesRaise
import KE.GoesEnum
import PyProof.ReprRoads
import PyProof.NeKinds
import HandS.ExcIs
import HandS.ExcField
import KE.KExcIs
import HandS.HeadHook2
import HandS.HeadHook3
import HandS.HeadHook4
import HandS.Flt
import PyProof.StrOps2
import PySem.Challenge.RW_playstead_k87_rows_read_or_refused
import KE.KStateDown
import Lean
import HandS.Head0
import HandS.Head1
import HandS.Head2
set_option Elab.async false
set_option linter.all false
set_option maxRecDepth 100000
set_option maxHeartbeats 1000000
/-! PD: readings over plain data. A value is a datum (PyData), a list read without owning it, or a bare value; a slot may own a list. -/
namespace PD
open PySem PySem.Spec PyProof.Rows L2

abbrev St := L2.St
/-- a region that is hidden: its cells, what is true of them -/
structure Reg where
  m : Addr → Prop
  J : Hp → Prop
  dom : ∀ H a, J H → m a → H a ≠ none
  st : ∀ H H', J H → (∀ a o, m a → H a = some o → H' a = some o) → J H'
def Reg.no : Reg := ⟨fun _ => False, fun _ => True, fun _ _ _ h => h.elim, fun _ _ _ _ => trivial⟩
def LenOk : HO → Prop
  | .lst xs => xs.length ≤ sizeLine
  | .tup xs => xs.length ≤ sizeLine
  | .frz _ _ => False
  | _ => True
structure Good (R : Reg) (I H : Hp) : Prop where
  sub : Same I H
  j : R.J H
  off : ∀ a o, I a = some o → ¬ R.m a
  len : ∀ a o, I a = some o → LenOk o
structure Ext (R : Reg) (I H I' H' : Hp) : Prop where
  good : Good R I' H'
  sub : Same I I'
  fresh : ∀ a o, I' a = some o → I a = some o ∨ H a = none
  keep : ∀ a o, H a = some o → ¬ R.m a → H' a = some o
theorem Ext.refl {R : Reg} {I H : Hp} (g : Good R I H) : Ext R I H I H := ⟨g, Same.refl _, fun _ _ h => .inl h, fun _ _ h _ => h⟩
theorem Ext.none {R : Reg} {I H I' H' : Hp} (g : Good R I H) (e : Ext R I H I' H') {a : Addr} (h : H' a = none) : H a = none := by
  cases q : H a with
  | none => rfl
  | some o =>
    by_cases m : R.m a
    · exact absurd h (R.dom H' a e.good.j m)
    · rw [e.keep a o q m] at h; cases h
theorem Ext.trans {R : Reg} {I H I1 H1 I2 H2 : Hp} (g : Good R I H) (e : Ext R I H I1 H1) (f : Ext R I1 H1 I2 H2) : Ext R I H I2 H2 where
  good := f.good
  sub := e.sub.trans f.sub
  fresh := fun a o h => by
    rcases f.fresh a o h with h | h
    · exact e.fresh a o h
    · exact .inr (e.none g h)
  keep := fun a o h m => f.keep a o (e.keep a o h m) m

/-! ### data in the heap -/
theorem sqL_mono {K : PySem.W.Frag} {H H' : Hp} {a : Addr} {xs : List V} (e : Same H H') (h : SqL K H a xs) : SqL K H' a xs := e.seq h
theorem sqT_mono {K : PySem.W.Frag} {H H' : Hp} {a : Addr} {xs : List V} (e : Same H H') (h : SqT K H a xs) : SqT K H' a xs := by
  rcases h with (h | ⟨o, h⟩) | h
  · exact .inl (.inl (e _ _ h))
  · exact .inl (.inr ⟨o, e _ _ h⟩)
  · exact .inr h
mutual
/-- a datum at a value: its lists are tracked, its tuples tracked or written; of a dict nothing but that it is one -/
inductive Da (K : PySem.W.Frag) (H : Hp) : V → PyData → Prop
  | non : Da K H .non .none
  | bl (b : Bool) : Da K H (.bl b) (.bool b)
  | int (i : Int) : Da K H (.int i) (.int i)
  | str (x : Str) : Da K H (.str x) (.str x)
  | lst {a : Addr} {xs : List V} {ds : List PyData} : H a = some (.lst xs) → DaAll K H xs ds → Da K H (.ref a) (.list ds)
  | tup {a : Addr} {xs : List V} {ds : List PyData} : SqT K H a xs → DaAll K H xs ds → Da K H (.ref a) (.tuple ds)
  | dct {a : Addr} {kvs : List (Key × V)} {ds : List (PyData × PyData)} : H a = some (.dK kvs) → Da K H (.ref a) (.dict ds)
inductive DaAll (K : PySem.W.Frag) (H : Hp) : List V → List PyData → Prop
  | nil : DaAll K H [] []
  | cons {v : V} {vs : List V} {d : PyData} {ds : List PyData} : Da K H v d → DaAll K H vs ds → DaAll K H (v :: vs) (d :: ds)
end
mutual
theorem da_mono {K : PySem.W.Frag} {H H' : Hp} (e : Same H H') : ∀ (d : PyData) (v : V), Da K H v d → Da K H' v d
  | .none, _, h => by cases h; exact .non
  | .bool b, _, h => by cases h; exact .bl b
  | .int i, _, h => by cases h; exact .int i
  | .str x, _, h => by cases h; exact .str x
  | .list ds, _, h => by
    cases h with
    | lst hs ha => exact .lst (e _ _ hs) (daa_mono e ds _ ha)
  | .tuple ds, _, h => by
    cases h with
    | tup hs ha => exact .tup (sqT_mono e hs) (daa_mono e ds _ ha)
  | .dict _, _, h => by
    cases h with
    | dct hs => exact .dct (e _ _ hs)
theorem daa_mono {K : PySem.W.Frag} {H H' : Hp} (e : Same H H') : ∀ (ds : List PyData) (vs : List V), DaAll K H vs ds → DaAll K H' vs ds
  | [], _, h => by cases h; exact .nil
  | d :: ds, _, h => by
    cases h with
    | cons h1 h2 => exact .cons (da_mono e d _ h1) (daa_mono e ds _ h2)
end
mutual
theorem Da.dp {K : PySem.W.Frag} {H : Hp} : ∀ (d : PyData) (v : V), d.canLay0 = true → Da K H v d → Dp K H v d
  | .none, _, _, h => by cases h; exact .non
  | .bool b, _, _, h => by cases h; exact .bl b
  | .int i, _, _, h => by cases h; exact .int i
  | .str x, _, _, h => by cases h; exact .str x
  | .list ds, _, c, h => by
    cases h with
    | lst hs ha => exact .lst (SqL.of hs) (DaAll.dp ds _ (by simpa [PyData.canLay0] using c) ha)
  | .tuple ds, _, c, h => by
    cases h with
    | tup hs ha => exact .tup hs (DaAll.dp ds _ (by simpa [PyData.canLay0] using c) ha)
  | .dict _, _, c, h => by simp [PyData.canLay0] at c
theorem DaAll.dp {K : PySem.W.Frag} {H : Hp} : ∀ (ds : List PyData) (vs : List V), PyData.canLayAll0 ds = true → DaAll K H vs ds → DpAll K H vs ds
  | [], _, _, h => by cases h; exact .nil
  | d :: ds, _, c, h => by
    cases h with
    | cons h1 h2 =>
      simp only [PyData.canLayAll0, Bool.and_eq_true] at c
      exact .cons (Da.dp d _ c.1 h1) (DaAll.dp ds _ c.2 h2)
end
theorem DaAll.len {K : PySem.W.Frag} {H : Hp} : ∀ {vs : List V} {ds : List PyData}, DaAll K H vs ds → vs.length = ds.length
  | _, _, .nil => rfl
  | _, _, .cons _ t => by rw [List.length_cons, List.length_cons, DaAll.len t]
theorem DaAll.app {K : PySem.W.Frag} {H : Hp} : ∀ {vs ws : List V} {ds es : List PyData}, DaAll K H vs ds → DaAll K H ws es → DaAll K H (vs ++ ws) (ds ++ es)
  | _, _, _, _, .nil, h => h
  | _, _, _, _, .cons a t, h => .cons a (DaAll.app t h)
theorem DaAll.take {K : PySem.W.Frag} {H : Hp} : ∀ {vs : List V} {ds : List PyData} (n : Nat), DaAll K H vs ds → DaAll K H (vs.take n) (ds.take n)
  | _, _, 0, _ => .nil
  | _, _, _ + 1, .nil => .nil
  | _, _, n + 1, .cons a t => .cons a (DaAll.take n t)
theorem DaAll.drop {K : PySem.W.Frag} {H : Hp} : ∀ {vs : List V} {ds : List PyData} (n : Nat), DaAll K H vs ds → DaAll K H (vs.drop n) (ds.drop n)
  | _, _, 0, h => h
  | _, _, _ + 1, .nil => .nil
  | _, _, n + 1, .cons _ t => DaAll.drop n t
theorem DaAll.get {K : PySem.W.Frag} {H : Hp} : ∀ {vs : List V} {ds : List PyData} {i : Nat} {d : PyData}, DaAll K H vs ds → ds[i]? = some d → ∃ v, vs[i]? = some v ∧ Da K H v d
  | _, _, _, _, .nil, e => by simp at e
  | _, _, 0, _, .cons a _, e => by simp at e; subst e; exact ⟨_, rfl, a⟩
  | _, _, i + 1, _, .cons _ t, e => by
    obtain ⟨v, h1, h2⟩ := DaAll.get (i := i) t (by simpa using e)
    exact ⟨v, by simpa using h1, h2⟩
theorem DaAll.set {K : PySem.W.Frag} {H : Hp} {v : V} {d : PyData} (h : Da K H v d) : ∀ {vs : List V} {ds : List PyData} (i : Nat), DaAll K H vs ds → DaAll K H (vs.set i v) (ds.set i d)
  | _, _, _, .nil => .nil
  | _, _, 0, .cons _ t => .cons h t
  | _, _, i + 1, .cons a t => .cons a (DaAll.set h i t)
theorem DaAll.strs {K : PySem.W.Frag} {H : Hp} : ∀ xs : List Str, DaAll K H (xs.map V.str) (xs.map PyData.str)
  | [] => .nil
  | x :: r => .cons (.str x) (DaAll.strs r)
theorem DaAll.of_strs {K : PySem.W.Frag} {H : Hp} : ∀ {xs : List Str} {vs : List V}, DaAll K H vs (xs.map PyData.str) → vs = xs.map V.str
  | [], _, h => by cases h; rfl
  | x :: r, _, h => by
    cases h with
    | cons a t => cases a; rw [DaAll.of_strs t]; rfl

/-! ### values -/
inductive DV where
  /-- a datum -/
  | d (x : PyData)
  /-- a list that is read there; f: made since the entry -/
  | bor (f : Bool) (xs : List PyData)
  /-- a list just made that nobody holds -/
  | new (xs : List PyData)
  /-- (in a slot) a list of this def's own -/
  | own (xs : List PyData)
  /-- a bare value -/
  | v (x : V)
/-- the data-level context: the written part, the hidden region, what is wanted of exceptions, the entry's heap -/
structure Zx where
  K : PySem.W.Frag
  R : Reg
  W : WX
  I0 : Hp
  H0 : Hp
/-- a list is to be read there -/
def Own (K : PySem.W.Frag) (R : Reg) (I H : Hp) (v : V) (xs : List PyData) : Prop :=
  ∃ a vs, v = .ref a ∧ H a = some (.lst vs) ∧ DaAll K I vs xs ∧ I a = none ∧ ¬ R.m a ∧ vs.length ≤ sizeLine
/-- a value, come since the heap was Hs -/
def At (Z : Zx) (Hs I H : Hp) (x : DV) (v : V) : Prop := match x with
  | .d x => Da Z.K I v x
  | .bor f xs => Own Z.K Z.R I H v xs ∧ (f = true → ∀ a, v = .ref a → Z.H0 a = none)
  | .new xs => Own Z.K Z.R I H v xs ∧ ∀ a, v = .ref a → Hs a = none ∧ Z.H0 a = none
  | .own _ => False
  | .v u => v = u
theorem Own.ext {K : PySem.W.Frag} {R : Reg} {I H I' H' : Hp} {v : V} {xs : List PyData} (e : Ext R I H I' H') (h : Own K R I H v xs) : Own K R I' H' v xs := by
  obtain ⟨a, vs, e1, e2, e3, e4, e5, e6⟩ := h
  refine ⟨a, vs, e1, e.keep _ _ e2 e5, daa_mono e.sub _ _ e3, ?_, e5, e6⟩
  cases q : I' a with
  | none => rfl
  | some o =>
    rcases e.fresh a o q with z | z
    · rw [e4] at z; cases z
    · rw [e2] at z; cases z
theorem At.ext {Z : Zx} {Hs I H I' H' : Hp} {v : V} {x : DV} (e : Ext Z.R I H I' H') (h : At Z Hs I H x v) : At Z Hs I' H' x v := by
  cases x with
  | d x => exact da_mono e.sub _ _ h
  | bor f xs => exact ⟨h.1.ext e, h.2⟩
  | new xs => exact ⟨h.1.ext e, h.2⟩
  | own xs => exact h
  | v u => exact h
/-- .. since an earlier one -/
theorem At.since {Z : Zx} {Hs Hs' I H : Hp} {v : V} {x : DV} (e : ∀ a, Hs' a = none → Hs a = none) (h : At Z Hs' I H x v) : At Z Hs I H x v := by
  cases x with
  | d x => exact h
  | bor f xs => exact h
  | new xs => exact ⟨h.1, fun a q => ⟨e a (h.2 a q).1, (h.2 a q).2⟩⟩
  | own xs => exact h
  | v u => exact h
inductive AtAll (Z : Zx) (Hs I H : Hp) : List DV → List V → Prop
  | nil : AtAll Z Hs I H [] []
  | cons {x : DV} {v : V} {xs : List DV} {vs : List V} : At Z Hs I H x v → AtAll Z Hs I H xs vs → AtAll Z Hs I H (x :: xs) (v :: vs)
theorem AtAll.ext {Z : Zx} {Hs I H I' H' : Hp} (e : Ext Z.R I H I' H') : ∀ {xs : List DV} {vs : List V}, AtAll Z Hs I H xs vs → AtAll Z Hs I' H' xs vs
  | _, _, .nil => .nil
  | _, _, .cons a t => .cons (a.ext e) (AtAll.ext e t)
theorem AtAll.since {Z : Zx} {Hs Hs' I H : Hp} (e : ∀ a, Hs' a = none → Hs a = none) : ∀ {xs : List DV} {vs : List V}, AtAll Z Hs' I H xs vs → AtAll Z Hs I H xs vs
  | _, _, .nil => .nil
  | _, _, .cons a t => .cons (a.since e) (AtAll.since e t)
theorem AtAll.len {Z : Zx} {Hs I H : Hp} : ∀ {xs : List DV} {vs : List V}, AtAll Z Hs I H xs vs → xs.length = vs.length
  | _, _, .nil => rfl
  | _, _, .cons _ t => by rw [List.length_cons, List.length_cons, AtAll.len t]
abbrev DEnv := List (Option DV)
/-- a slot's value -/
def Slot1 (Z : Zx) (I H : Hp) (x : DV) (v : V) : Prop := match x with
  | .d x => Da Z.K I v x
  | .bor f xs => f = false ∧ Own Z.K Z.R I H v xs ∧ ∀ a, v = .ref a → Z.H0 a ≠ none
  | .new _ => False
  | .own xs => Own Z.K Z.R I H v xs ∧ ∀ a, v = .ref a → Z.H0 a = none
  | .v u => v = u
theorem Slot1.ext {Z : Zx} {I H I' H' : Hp} {v : V} {x : DV} (e : Ext Z.R I H I' H') (h : Slot1 Z I H x v) : Slot1 Z I' H' x v := by
  cases x with
  | d x => exact da_mono e.sub _ _ h
  | bor f xs => exact ⟨h.1, h.2.1.ext e, h.2.2⟩
  | new xs => exact h
  | own xs => exact ⟨h.1.ext e, h.2⟩
  | v u => exact h
structure EnvAt (Z : Zx) (I H : Hp) (δ : DEnv) (σ : St) : Prop where
  len : δ.length = σ.length
  val : ∀ (i : Nat) (x : DV), δ[i]? = some (some x) → ∃ v, σ[i]? = some (some v) ∧ Slot1 Z I H x v
  apart : ∀ (i j : Nat) (xs ys : List PyData) (v : V), i ≠ j → δ[i]? = some (some (.own xs)) → δ[j]? = some (some (.own ys)) → σ[i]? = some (some v) → σ[j]? = some (some v) → False
theorem EnvAt.ext {Z : Zx} {I H I' H' : Hp} {δ : DEnv} {σ : St} (e : Ext Z.R I H I' H') (h : EnvAt Z I H δ σ) : EnvAt Z I' H' δ σ where
  len := h.len
  val := fun i x q => by
    obtain ⟨v, e1, e2⟩ := h.val i x q
    exact ⟨v, e1, e2.ext e⟩
  apart := h.apart
/-- forgetting slots -/
theorem EnvAt.weak {Z : Zx} {I H : Hp} {δ δ' : DEnv} {σ : St} (h : EnvAt Z I H δ σ) (hl : δ'.length = δ.length) (w : ∀ (i : Nat) x, δ'[i]? = some (some x) → δ[i]? = some (some x)) : EnvAt Z I H δ' σ where
  len := hl.trans h.len
  val := fun i x q => h.val i x (w i _ q)
  apart := fun i j xs ys v hn h1 h2 => h.apart i j xs ys v hn (w i _ h1) (w j _ h2)
theorem get_set_some {α : Type} {l : List (Option α)} {i j : Nat} {x y : α} (q : (l.set i (some x))[j]? = some (some y)) : (i = j ∧ x = y ∧ i < l.length) ∨ (i ≠ j ∧ l[j]? = some (some y)) := by
  by_cases hj : i = j
  · subst hj
    have hlt : i < l.length := by
      have := (List.getElem?_eq_some_iff.mp q).1
      rwa [List.length_set] at this
    rw [List.getElem?_set_self hlt] at q
    cases q
    exact .inl ⟨rfl, rfl, hlt⟩
  · rw [List.getElem?_set_ne hj] at q
    exact .inr ⟨hj, q⟩
/-- a slot is stored; an own list's address is no other slot's -/
theorem EnvAt.set {Z : Zx} {I H : Hp} {δ : DEnv} {σ : St} (h : EnvAt Z I H δ σ) (i : Nat) {x : DV} {v : V} (hx : Slot1 Z I H x v) (ha : ∀ xs, x = .own xs → ∀ (j : Nat) ys, i ≠ j → δ[j]? = some (some (.own ys)) → σ[j]? = some (some v) → False) : EnvAt Z I H (δ.set i (some x)) (σ.set i (some v)) where
  len := by rw [List.length_set, List.length_set]; exact h.len
  val := fun j y q => by
    rcases get_set_some q with ⟨rfl, rfl, hlt⟩ | ⟨hj, q⟩
    · exact ⟨v, List.getElem?_set_self (by rw [← h.len]; exact hlt), hx⟩
    · obtain ⟨u, e1, e2⟩ := h.val j y q
      exact ⟨u, by rw [List.getElem?_set_ne hj]; exact e1, e2⟩
  apart := fun j k xs ys u hn h1 h2 h3 h4 => by
    rcases get_set_some h1 with ⟨rfl, e1, hlt⟩ | ⟨hj, h1⟩
    · rcases get_set_some h2 with ⟨rfl, _, _⟩ | ⟨hk, h2⟩
      · exact hn rfl
      · rw [List.getElem?_set_self (by rw [← h.len]; exact hlt)] at h3
        cases h3
        rw [List.getElem?_set_ne hk] at h4
        exact ha xs e1 k ys hk h2 h4
    · rcases get_set_some h2 with ⟨rfl, e2, hlt⟩ | ⟨hk, h2⟩
      · rw [List.getElem?_set_self (by rw [← h.len]; exact hlt)] at h4
        cases h4
        rw [List.getElem?_set_ne hj] at h3
        exact ha ys e2 j xs hj h1 h3
      · rw [List.getElem?_set_ne hj] at h3
        rw [List.getElem?_set_ne hk] at h4
        exact h.apart j k xs ys u hn h1 h2 h3 h4

/-! ### exceptions -/
/-- an exception: its class, its fields -/
structure Ex where
  C : Addr
  fs : List (Str × PyData)
def ExAt (K : PySem.W.Frag) (I H : Hp) (x : Ex) (cls : Value) (od : Option Addr) : Prop :=
  cls = .ref x.C ∧ ((x.fs = [] ∧ od = none) ∨ ∃ dx vs, od = some dx ∧ H dx = some (.xd vs) ∧ vs.map (·.1) = x.fs.map (·.1) ∧ DaAll K I (vs.map (·.2)) (x.fs.map (·.2)))
/-- what is asked of an exception -/
def Wish (Z : Zx) (Ed : Ex → Prop) (σ : St) : Prop :=
  ∀ x c od I' H', Ext Z.R Z.I0 Z.H0 I' H' → ExAt Z.K I' H' x c od → Ed x → Z.W c od σ H'

/-! ### readings -/
abbrev DK := DV → Prop
abbrev EK := Ex → Prop
abbrev TD := DEnv → DK → EK → Prop
abbrev TDA := DEnv → (List DV → Prop) → EK → Prop
abbrev TDT := DEnv → (Bool → Prop) → EK → Prop
structure Here (Z : Zx) (I H : Hp) (δ : DEnv) (σ : St) (Ed : EK) : Prop where
  g0 : Good Z.R Z.I0 Z.H0
  e0 : Ext Z.R Z.I0 Z.H0 I H
  env : EnvAt Z I H δ σ
  w : Wish Z Ed σ
theorem Here.g {Z : Zx} {I H : Hp} {δ : DEnv} {σ : St} {Ed : EK} (h : Here Z I H δ σ Ed) : Good Z.R I H := h.e0.good
theorem Here.old {Z : Zx} {I H : Hp} {δ : DEnv} {σ : St} {Ed : EK} (h : Here Z I H δ σ Ed) : ∀ a, H a = none → Z.H0 a = none := fun _ q => h.e0.none h.g0 q
theorem Here.ext {Z : Zx} {I H I' H' : Hp} {δ : DEnv} {σ : St} {Ed : EK} (h : Here Z I H δ σ Ed) (e : Ext Z.R I H I' H') : Here Z I' H' δ σ Ed := ⟨h.g0, h.e0.trans h.g0 e, h.env.ext e, h.w⟩
/-- what follows a value -/
def Then (Z : Zx) (I H : Hp) (Qd : DK) (Q : VK) : Prop := ∀ x v I' H', Ext Z.R I H I' H' → At Z H I' H' x v → Qd x → Q v H'
def ThenA (Z : Zx) (I H : Hp) (Qd : List DV → Prop) (Q : List V → Hp → Prop) : Prop := ∀ xs vs I' H', Ext Z.R I H I' H' → AtAll Z H I' H' xs vs → Qd xs → Q vs H'
def ThenB (Z : Zx) (I H : Hp) (Qd : Bool → Prop) (Q : Bool → Hp → Prop) : Prop := ∀ b I' H', Ext Z.R I H I' H' → Qd b → Q b H'
structure DE (X : Cx) (Z : Zx) (e : Expr) (te : TE) (t : TD) : Prop where
  pe : PE X e te
  rf : ∀ I H δ σ Qd Ed Q, Here Z I H δ σ Ed → t δ Qd Ed → Then Z I H Qd Q → te σ H Q
structure DA (X : Cx) (Z : Zx) (es : List Expr) (te : TA) (t : TDA) : Prop where
  pa : PA X es te
  rf : ∀ I H δ σ Qd Ed Q, Here Z I H δ σ Ed → t δ Qd Ed → ThenA Z I H Qd Q → te σ H Q
structure DT (X : Cx) (Z : Zx) (e : Expr) (te : TT) (t : TDT) : Prop where
  pt : PT X e te
  rf : ∀ I H δ σ Qd Ed Q, Here Z I H δ σ Ed → t δ Qd Ed → ThenB Z I H Qd Q → te σ H Q
structure DW (X : Cx) (Z : Zx) (e : Expr) (te : TT) (t : TDT) : Prop where
  pw : PW X e te
  rf : ∀ I H δ σ Qd Ed Q, Here Z I H δ σ Ed → t δ Qd Ed → ThenB Z I H Qd Q → te σ H Q
theorem DW.dt {X : Cx} {Z : Zx} {e : Expr} {te : TT} {t : TDT} (h : DW X Z e te t) : DT X Z e te t := ⟨h.pw.pt, h.rf⟩
structure DEnds where
  nx : DEnv → Prop
  rt : DK
  bk : DEnv → Prop := fun _ => False
  ct : DEnv → Prop := fun _ => False
abbrev TDS := DEnds → EK → DEnv → Prop
def RetAt (K : PySem.W.Frag) (I : Hp) (x : DV) (v : V) : Prop := match x with
  | .d x => Da K I v x
  | .v u => v = u
  | _ => False
/-- what follows a statement: from the entry; what is read stays -/
structure Link (Z : Zx) (I : Hp) (D : DEnds) (T : Ends) : Prop where
  nx : ∀ δ σ I' H', Ext Z.R Z.I0 Z.H0 I' H' → Same I I' → EnvAt Z I' H' δ σ → D.nx δ → T.nx σ H'
  rt : ∀ x v I' H', Ext Z.R Z.I0 Z.H0 I' H' → RetAt Z.K I' x v → D.rt x → T.rt v H'
  bk : ∀ δ σ I' H', Ext Z.R Z.I0 Z.H0 I' H' → Same I I' → EnvAt Z I' H' δ σ → D.bk δ → T.bk σ H'
  ct : ∀ δ σ I' H', Ext Z.R Z.I0 Z.H0 I' H' → Same I I' → EnvAt Z I' H' δ σ → D.ct δ → T.ct σ H'
theorem Link.ext {Z : Zx} {I I' : Hp} {D : DEnds} {T : Ends} (e : Same I I') (l : Link Z I D T) : Link Z I' D T :=
  ⟨fun δ σ I2 H2 f s => l.nx δ σ I2 H2 f (e.trans s), l.rt, fun δ σ I2 H2 f s => l.bk δ σ I2 H2 f (e.trans s), fun δ σ I2 H2 f s => l.ct δ σ I2 H2 f (e.trans s)⟩
structure DS (X : Cx) (Z : Zx) (s : Stmt) (ts : TS) (t : TDS) : Prop where
  ps : PS X s ts
  rf : ∀ I H δ σ D Ed T, Here Z I H δ σ Ed → t D Ed δ → Link Z I D T → ts T σ H
structure DSs (X : Cx) (Z : Zx) (ss : List Stmt) (ts : TS) (t : TDS) : Prop where
  ps : PSs X ss ts
  rf : ∀ I H δ σ D Ed T, Here Z I H δ σ Ed → t D Ed δ → Link Z I D T → ts T σ H
end PD
set_option Elab.async false
set_option linter.all false
set_option maxRecDepth 100000
set_option maxHeartbeats 1000000
namespace PD
open PySem PySem.Spec PyProof.Rows L2

/-! ### what follows, later -/
theorem Then.ext {Z : Zx} {I H I' H' : Hp} {Qd : DK} {Q : VK} (g : Good Z.R I H) (e : Ext Z.R I H I' H') (k : Then Z I H Qd Q) : Then Z I' H' Qd Q :=
  fun x v I2 H2 f a q => k x v I2 H2 (e.trans g f) (a.since fun _ z => e.none g z) q
theorem ThenA.ext {Z : Zx} {I H I' H' : Hp} {Qd : List DV → Prop} {Q : List V → Hp → Prop} (g : Good Z.R I H) (e : Ext Z.R I H I' H') (k : ThenA Z I H Qd Q) : ThenA Z I' H' Qd Q :=
  fun x v I2 H2 f a q => k x v I2 H2 (e.trans g f) (a.since fun _ z => e.none g z) q
theorem ThenB.ext {Z : Zx} {I H I' H' : Hp} {Qd : Bool → Prop} {Q : Bool → Hp → Prop} (g : Good Z.R I H) (e : Ext Z.R I H I' H') (k : ThenB Z I H Qd Q) : ThenB Z I' H' Qd Q :=
  fun b I2 H2 f q => k b I2 H2 (e.trans g f) q
/-- a value without a heap -/
theorem Then.here {Z : Zx} {I H : Hp} {Qd : DK} {Q : VK} {x : DV} {v : V} (g : Good Z.R I H) (k : Then Z I H Qd Q) (a : At Z H I H x v) (q : Qd x) : Q v H := k x v I H (Ext.refl g) a q
theorem Then.now {Z : Zx} {I H : Hp} {Qd : DK} {Q : VK} {x : PyData} {v : V} (g : Good Z.R I H) (k : Then Z I H Qd Q) (a : Da Z.K I v x) (q : Qd (.d x)) : Q v H := k (.d x) v I H (Ext.refl g) a q
theorem fresh_off {Z : Zx} {I H : Hp} {p : Addr} (g : Good Z.R I H) (hp : H p = none) : I p = none ∧ ¬ Z.R.m p := by
  refine ⟨?_, fun m => Z.R.dom H p g.j m hp⟩
  cases q : I p with
  | none => rfl
  | some o => rw [g.sub p o q] at hp; cases hp
/-- a new object that is read by all -/
theorem ext_new {R : Reg} {I H : Hp} {p : Addr} {o : HO} (g : Good R I H) (hp : H p = none) (lo : LenOk o) : Ext R I H (upd I p o) (upd H p o) := by
  have off : ¬ R.m p := fun m => R.dom H p g.j m hp
  have k : ∀ a u, H a = some u → upd H p o a = some u := fun a u q => by rw [upd_ne (ne_of_none q hp)]; exact q
  refine ⟨⟨fun a u q => ?_, R.st H _ g.j fun a u _ q => k a u q, fun a u q => ?_, fun a u q => ?_⟩, fun a u q => ?_, fun a u q => ?_, fun a u q _ => k a u q⟩
  · by_cases e : a = p
    · subst e; rw [upd_same] at q ⊢; exact q
    · rw [upd_ne e] at q ⊢; exact g.sub a u q
  · by_cases e : a = p
    · subst e; exact off
    · rw [upd_ne e] at q; exact g.off a u q
  · by_cases e : a = p
    · subst e; rw [upd_same] at q; cases q; exact lo
    · rw [upd_ne e] at q; exact g.len a u q
  · have hn : I p = none := by
      cases z : I p with
      | none => rfl
      | some w => rw [g.sub p w z] at hp; cases hp
    rw [upd_ne (ne_of_none q hn)]; exact q
  · by_cases e : a = p
    · subst e; exact .inr hp
    · rw [upd_ne e] at q; exact .inl q
/-- a new object of one's own -/
theorem ext_own {R : Reg} {I H : Hp} {p : Addr} {o : HO} (g : Good R I H) (hp : H p = none) : Ext R I H I (upd H p o) := by
  have k : ∀ a u, H a = some u → upd H p o a = some u := fun a u q => by rw [upd_ne (ne_of_none q hp)]; exact q
  exact ⟨⟨fun a u q => k a u (g.sub a u q), R.st H _ g.j fun a u _ q => k a u q, g.off, g.len⟩, Same.refl _, fun a u q => .inl q, fun a u q _ => k a u q⟩
theorem Then.new {Z : Zx} {I H : Hp} {Qd : DK} {Q : VK} {vs : List V} {xs : List PyData} (g : Good Z.R I H) (old : ∀ a, H a = none → Z.H0 a = none) (k : Then Z I H Qd Q) (a : DaAll Z.K I vs xs) (hl : vs.length ≤ sizeLine) (q : Qd (.new xs)) :
    ∀ p, H p = none → Q (.ref p) (upd H p (.lst vs)) := fun p hp => by
  obtain ⟨n1, n2⟩ := fresh_off g hp
  refine k (.new xs) (.ref p) I _ (ext_own g hp) ⟨⟨p, vs, rfl, upd_same, a, n1, n2, hl⟩, fun b e => ?_⟩ q
  cases e
  exact ⟨hp, old p hp⟩
theorem upd_sub {I : Hp} {p : Addr} {o : HO} (n : I p = none) : Same I (upd I p o) := fun a u q => by rw [upd_ne (ne_of_none q n)]; exact q
theorem Then.tup {Z : Zx} {I H : Hp} {Qd : DK} {Q : VK} {vs : List V} {xs : List PyData} (g : Good Z.R I H) (k : Then Z I H Qd Q) (a : DaAll Z.K I vs xs) (hl : vs.length ≤ sizeLine) (q : Qd (.d (.tuple xs))) :
    ∀ p, H p = none → Q (.ref p) (upd H p (.tup vs)) := fun p hp => by
  obtain ⟨n1, n2⟩ := fresh_off g hp
  exact k (.d (.tuple xs)) (.ref p) _ _ (ext_new g hp hl) (.tup (SqT.of upd_same) (daa_mono (upd_sub n1) _ _ a)) q

/-! ### freezing what is new -/
def froz : DV → DV
  | .new xs => .d (.list xs)
  | x => x
/-- .. also what is this def's own -/
def frozA : DV → DV
  | .new xs => .d (.list xs)
  | .bor true xs => .d (.list xs)
  | x => x
theorem ext_frz {R : Reg} {I0 H0' I H : Hp} {p : Addr} {vs : List V} (e : Ext R I0 H0' I H) (hp : H p = some (.lst vs)) (hn : H0' p = none) (m : ¬ R.m p) (hi : I p = none) (hl : vs.length ≤ sizeLine) : Ext R I0 H0' (upd I p (.lst vs)) H := by
  refine ⟨⟨fun a u q => ?_, e.good.j, fun a u q => ?_, fun a u q => ?_⟩, e.sub.trans (upd_sub hi), fun a u q => ?_, e.keep⟩
  · by_cases z : a = p
    · subst z; rw [upd_same] at q; rw [hp]; exact q
    · rw [upd_ne z] at q; exact e.good.sub a u q
  · by_cases z : a = p
    · subst z; exact m
    · rw [upd_ne z] at q; exact e.good.off a u q
  · by_cases z : a = p
    · subst z; rw [upd_same] at q; cases q; exact hl
    · rw [upd_ne z] at q; exact e.good.len a u q
  · by_cases z : a = p
    · subst z; exact .inr hn
    · rw [upd_ne z] at q; exact e.fresh a u q
/-- a new value, frozen -/
theorem At.frz {Z : Zx} {I H I' H' : Hp} {x : DV} {v : V} (e : Ext Z.R I H I' H') (a : At Z H I' H' x v) : ∃ I2, Ext Z.R I H I2 H' ∧ Same I' I2 ∧ At Z H I2 H' (froz x) v := by
  cases x with
  | new xs =>
    obtain ⟨⟨p, vs, rfl, h1, h2, h3, h4, h5⟩, h6⟩ := a
    exact ⟨upd I' p (.lst vs), ext_frz e h1 (h6 p rfl).1 h4 h3 h5, upd_sub h3, .lst upd_same (daa_mono (upd_sub h3) _ _ h2)⟩
  | d x => exact ⟨I', e, Same.refl _, a⟩
  | bor f xs => exact ⟨I', e, Same.refl _, a⟩
  | own xs => exact ⟨I', e, Same.refl _, a⟩
  | v u => exact ⟨I', e, Same.refl _, a⟩
theorem Then.frz {Z : Zx} {I H : Hp} {Qd : DK} {Q : VK} (k : Then Z I H Qd Q) : Then Z I H (fun x => Qd (froz x)) Q := fun x v I' H' e a q => by
  obtain ⟨I2, e2, _, a2⟩ := a.frz e
  exact k (froz x) v I2 H' e2 a2 q

/-! ### names, constants -/
def dVar (i : Nat) : TD := fun δ Q _ => match δ[i]? with
  | some (some (.own xs)) => Q (.bor true xs)
  | some (some x) => Q x
  | _ => False
section
variable {X : Cx} {Z : Zx} {pos : Pos}
theorem de_var {i : Nat} {x : Str} (h : PE X (.Name x pos) (tVar i)) : DE X Z (.Name x pos) (tVar i) (dVar i) := by
  refine ⟨h, fun I H δ σ Qd Ed Q hh t k => ?_⟩
  unfold dVar at t
  split at t
  · rename_i xs e
    obtain ⟨v, e1, e2⟩ := hh.env.val i _ e
    exact ⟨v, e1, k.here hh.g (x := .bor true xs) ⟨e2.1, fun _ => e2.2⟩ t⟩
  · rename_i x hx e
    obtain ⟨v, e1, e2⟩ := hh.env.val i _ e
    refine ⟨v, e1, k.here hh.g (x := x) ?_ t⟩
    cases x with
    | d x => exact e2
    | bor f xs => obtain ⟨rfl, e3, _⟩ := e2; exact ⟨e3, fun z => nomatch z⟩
    | new xs => exact e2.elim
    | own xs => exact absurd rfl (hx xs)
    | v u => exact e2
  · exact t.elim
def dC (x : DV) : TD := fun _ Q _ => Q x
theorem de_c {e : Expr} {v : V} {x : DV} (h : PE X e (tC v)) (a : ∀ Hs I H, At Z Hs I H x v) : DE X Z e (tC v) (dC x) :=
  ⟨h, fun I H δ σ Qd Ed Q hh t k => k.here hh.g (a _ _ _) t⟩
theorem de_int {i : Int} {j : Nat} : DE X Z (.Constant (.int i) j pos) (tC (.int i)) (dC (.d (.int i))) := de_c pe_int fun _ _ _ => Da.int i
theorem de_bl {b : Bool} {j : Nat} : DE X Z (.Constant (.bool b) j pos) (tC (.bl b)) (dC (.d (.bool b))) := de_c pe_bl fun _ _ _ => Da.bl b
theorem de_non {j : Nat} : DE X Z (.Constant .none j pos) (tC .non) (dC (.d .none)) := de_c pe_non fun _ _ _ => Da.non
theorem de_str {x : Str} {j : Nat} : DE X Z (.Constant (.str x) j pos) (tC (.str x)) (dC (.d (.str x))) := de_c pe_str fun _ _ _ => Da.str x
/-- a module's int, text -/
theorem de_gint {x : Str} {i : Int} (hg : Gl X x) (hm : ∃ t, X.mg x = some (.int i t)) (hd : (x == ("__debug__" : Str)) = false := by decide) : DE X Z (.Name x pos) (tC (.int i)) (dC (.d (.int i))) := by
  obtain ⟨t, hm⟩ := hm
  exact de_c (pe_glob hg hm ⟨t, rfl⟩ hd) fun _ _ _ => Da.int i
theorem de_gstr {x z : Str} (hg : Gl X x) (hm : ∃ t, X.mg x = some (.str z t)) (hd : (x == ("__debug__" : Str)) = false := by decide) : DE X Z (.Name x pos) (tC (.str z)) (dC (.d (.str z))) := by
  obtain ⟨t, hm⟩ := hm
  exact de_c (pe_glob hg hm ⟨t, rfl⟩ hd) fun _ _ _ => Da.str z
/-- a class of the module -/
theorem de_gcls {x : Str} {C : Addr} (hg : Gl X x) (hm : X.mg x = some (.ref C)) (hd : (x == ("__debug__" : Str)) = false := by decide) : DE X Z (.Name x pos) (tC (.ref C)) (dC (.v (.ref C))) :=
  de_c (pe_glob hg hm rfl hd) fun _ _ _ => rfl
/-- a built-in class -/
theorem de_ty {x : Str} {n : String} (hg : Gl X x) (hm : X.mg x = none) (hv : bootBuiltins x = some (.type n)) (hn : x ≠ "__name__" := by decide) (hd : (x == ("__debug__" : Str)) = false := by decide) : DE X Z (.Name x pos) (tC (.ty n)) (dC (.v (.ty n))) :=
  de_c (pe_bltn hg hm hv rfl hn hd) fun _ _ _ => rfl

/-! ### operators by values -/
abbrev O2 := DV → DV → DK → EK → Prop
abbrev O1 := DV → DK → EK → Prop
structure At2 (Z : Zx) (I H : Hp) : Prop where
  g : Good Z.R I H
  old : ∀ a, H a = none → Z.H0 a = none
def OpD (Z : Zx) (r : R2) (o : O2) : Prop := ∀ I H Hs x y v u Qd Ed Q, At2 Z I H → At Z Hs I H x v → At Z Hs I H y u → o x y Qd Ed → Then Z I H Qd Q → r v u H Q
def UnD (Z : Zx) (r : V → Hp → VK → Prop) (o : O1) : Prop := ∀ I H Hs x v Qd Ed Q, At2 Z I H → At Z Hs I H x v → o x Qd Ed → Then Z I H Qd Q → r v H Q
def dBin (o : O2) (a b : TD) : TD := fun δ Q E => a δ (fun x => b δ (fun y => o x y Q E) E) E
def dUn (o : O1) (a : TD) : TD := fun δ Q E => a δ (fun x => o x Q E) E
theorem de_tOp {e a b : Expr} {ta tb : TE} {da db : TD} {r : R2} {o : O2} (h : PE X a ta → PE X b tb → PE X e (tOp r ta tb)) (ho : OpD Z r o) (ha : DE X Z a ta da) (hb : DE X Z b tb db) : DE X Z e (tOp r ta tb) (dBin o da db) := by
  refine ⟨h ha.pe hb.pe, fun I H δ σ Qd Ed Q hh t k => ?_⟩
  refine ha.rf I H δ σ _ Ed _ hh t fun x v I1 H1 e1 a1 q1 => ?_
  refine hb.rf I1 H1 δ σ _ Ed _ (hh.ext e1) q1 fun y u I2 H2 e2 a2 q2 => ?_
  have h2 := (hh.ext e1).ext e2
  exact ho I2 H2 H x y v u Qd Ed Q ⟨h2.g, h2.old⟩ (a1.ext e2) (a2.since fun _ z => e1.none hh.g z) q2 (k.ext hh.g (e1.trans hh.g e2))
theorem de_op {a b : Expr} {ta tb : TE} {da db : TD} {r : R2} {o : O2} {op : Operator} (h : OpR X (binaryOp op) r) (ho : OpD Z r o) (ha : DE X Z a ta da) (hb : DE X Z b tb db) : DE X Z (.BinOp a op b pos) (tOp r ta tb) (dBin o da db) :=
  de_tOp (fun p q => pe_op h p q) ho ha hb
theorem de_cmp {a b : Expr} {ta tb : TE} {da db : TD} {r : R2} {o : O2} {op : CmpOp} (h : OpR X (compareOp op) r) (hm : behindInMarks op b = false) (ho : OpD Z r o) (ha : DE X Z a ta da) (hb : DE X Z b tb db) : DE X Z (.Compare a [op] [b] pos) (tOp r ta tb) (dBin o da db) :=
  de_tOp (fun p q => pe_cmpR h p q hm) ho ha hb
theorem de_un {a : Expr} {ta : TE} {da : TD} {r : V → Hp → VK → Prop} {o : O1} {op : UnaryOp} (h : UnR X (unaryOp op) r) (ho : UnD Z r o) (ha : DE X Z a ta da) : DE X Z (.UnaryOp op a pos) (tUn r ta) (dUn o da) := by
  refine ⟨pe_un h ha.pe, fun I H δ σ Qd Ed Q hh t k => ?_⟩
  refine ha.rf I H δ σ _ Ed _ hh t fun x v I1 H1 e1 a1 q1 => ?_
  have h1 := hh.ext e1
  exact ho I1 H1 H x v Qd Ed Q ⟨h1.g, h1.old⟩ a1 q1 (k.ext hh.g e1)
end

/-! ### lists and tuples to be read -/
def lstOf : DV → Option (List PyData)
  | .d (.list xs) => some xs
  | .bor _ xs => some xs
  | .new xs => some xs
  | _ => none
theorem lst_at {Z : Zx} {Hs I H : Hp} {x : DV} {v : V} {xs : List PyData} (g : Good Z.R I H) (a : At Z Hs I H x v) (h : lstOf x = some xs) : ∃ p vs, v = .ref p ∧ H p = some (.lst vs) ∧ DaAll Z.K I vs xs ∧ vs.length ≤ sizeLine := by
  unfold lstOf at h
  split at h
  · cases h
    cases a with
    | lst h1 h2 => exact ⟨_, _, rfl, g.sub _ _ h1, h2, g.len _ _ h1⟩
  · cases h
    obtain ⟨⟨p, vs, rfl, h1, h2, _, _, h5⟩, _⟩ := a
    exact ⟨p, vs, rfl, h1, h2, h5⟩
  · cases h
    obtain ⟨⟨p, vs, rfl, h1, h2, _, _, h5⟩, _⟩ := a
    exact ⟨p, vs, rfl, h1, h2, h5⟩
  · cases h
theorem tup_at {Z : Zx} {I H : Hp} {v : V} {xs : List PyData} (g : Good Z.R I H) (a : Da Z.K I v (.tuple xs)) : ∃ p vs, v = .ref p ∧ SqT Z.K I p vs ∧ SqT Z.K H p vs ∧ DaAll Z.K I vs xs := by
  cases a with
  | tup h1 h2 => exact ⟨_, _, rfl, h1, sqT_mono g.sub h1, h2⟩
/-- the data of a datum's length fits -/
theorem tup_len {Z : Zx} {I H : Hp} {p : Addr} {vs : List V} (g : Good Z.R I H) (h : SqT Z.K I p vs) : vs.length ≤ sizeLine := by
  rcases h with (h | ⟨o, h⟩) | ⟨o, its, n, _, _, _, hz, r⟩
  · exact g.len _ _ h
  · exact (g.len _ _ h).elim
  · have e := r.length
    simp only [Array.length_toList] at e
    omega
end PD
set_option Elab.async false
set_option linter.all false
set_option maxRecDepth 100000
set_option maxHeartbeats 1000000
namespace PD
open PySem PySem.Spec PyProof.Rows L2
section
variable {X : Cx} {Z : Zx} {pos : Pos}

/-! ### arithmetic of ints -/
def oInt (C : Int → Int → Prop) (g : Int → Int → Int) : O2 := fun x y Q _ => match x, y with
  | .d (.int i), .d (.int j) => C i j ∧ Q (.d (.int (g i j)))
  | _, _ => False
theorem od_int {C : Int → Int → Prop} {g : Int → Int → Int} : OpD Z (rI C fun i j => .int (g i j)) (oInt C g) := fun I H Hs x y v u Qd Ed Q g' ax ay t k => by
  unfold oInt at t
  split at t
  · cases ax; cases ay
    exact ⟨_, _, rfl, rfl, t.1, k.now g'.g (.int _) t.2⟩
  · exact t.elim
def oIntB (p : Int → Int → Bool) : O2 := fun x y Q _ => match x, y with
  | .d (.int i), .d (.int j) => Q (.d (.bool (p i j)))
  | _, _ => False
theorem od_intB {p : Int → Int → Bool} : OpD Z (rI0 fun i j => .bl (p i j)) (oIntB p) := fun I H Hs x y v u Qd Ed Q g' ax ay t k => by
  unfold oIntB at t
  split at t
  · cases ax; cases ay
    exact ⟨_, _, rfl, rfl, k.now g'.g (.bl _) t⟩
  · exact t.elim
abbrev oSub : O2 := oInt (fun _ _ => True) fun i j => i - j
theorem od_sub : OpD Z (rI0 fun i j => .int (i - j)) oSub := fun I H Hs x y v u Qd Ed Q g' ax ay t k => by
  obtain ⟨i, j, e1, e2, _, q⟩ := od_int I H Hs x y v u Qd Ed Q g' ax ay t k
  exact ⟨i, j, e1, e2, q⟩
abbrev oFdv : O2 := oInt CDivW fun i j => i / j
abbrev oMod : O2 := oInt (fun _ j => 0 < j) fun i j => i % j
abbrev oPow : O2 := oInt CPow fun i j => i ^ j.toNat
abbrev oLt : O2 := oIntB fun i j => decide (i < j)
abbrev oLe : O2 := oIntB fun i j => decide (i ≤ j)
abbrev oGt : O2 := oIntB fun i j => decide (j < i)
abbrev oGe : O2 := oIntB fun i j => decide (j ≤ i)
theorem op_subX : OpR X (binaryOp .Sub) (rI0 fun i j => .int (i - j)) := op_sub
/-! ### + -/
theorem op_cat' : OpR X (binaryOp .Add) (fun x y H Q => rI0 (fun i j => .int (i + j)) x y H Q ∨ (∃ i j, x = .str i ∧ y = .str j ∧ i.length + j.length ≤ sizeLine ∧ Q (.str (i ++ j)) H) ∨ rCatA X.K x y H Q ∨ rCat x y H Q) :=
  op_add.or (op_add_str.or (op_catA.or op_cat))
def oAdd : O2 := fun x y Q _ => match x, y with
  | .d (.int i), .d (.int j) => Q (.d (.int (i + j)))
  | .d (.str a), .d (.str b) => a.length + b.length ≤ sizeLine ∧ Q (.d (.str (a ++ b)))
  | .d (.tuple a), .d (.tuple b) => a.length + b.length ≤ sizeLine ∧ Q (.d (.tuple (a ++ b)))
  | x, y => match lstOf x, lstOf y with
    | some a, some b => a.length + b.length ≤ sizeLine ∧ Q (.new (a ++ b))
    | _, _ => False
theorem od_add {K : PySem.W.Frag} (hK : Z.K = K) : OpD Z (fun x y H Q => rI0 (fun i j => .int (i + j)) x y H Q ∨ (∃ i j, x = .str i ∧ y = .str j ∧ i.length + j.length ≤ sizeLine ∧ Q (.str (i ++ j)) H) ∨ rCatA K x y H Q ∨ rCat x y H Q) oAdd := fun I H Hs x y v u Qd Ed Q g' ax ay t k => by
  subst hK
  unfold oAdd at t
  split at t
  · cases ax; cases ay
    exact .inl ⟨_, _, rfl, rfl, k.now g'.g (.int _) t⟩
  · cases ax; cases ay
    exact .inr (.inl ⟨_, _, rfl, rfl, t.1, k.now g'.g (.str _) t.2⟩)
  · obtain ⟨p, vs, rfl, h1, h1', h2⟩ := tup_at g'.g ax
    obtain ⟨q, us, rfl, h3, h3', h4⟩ := tup_at g'.g ay
    have l1 := h2.len
    have l2 := h4.len
    refine .inr (.inr (.inl ⟨p, q, vs, us, rfl, rfl, h1', h3', by omega, fun e => ?_, fun _ e => ?_, fun _ _ => ?_⟩))
    · subst e
      cases h2
      exact k.now g'.g ay t.2
    · subst e
      cases h4
      rw [List.append_nil] at t
      exact k.now g'.g ax t.2
    · exact k.tup g'.g (h2.app h4) (by rw [List.length_append]; omega) t.2
  · split at t
    · rename_i a b e1 e2
      obtain ⟨p, vs, rfl, h1, h2, _⟩ := lst_at g'.g ax e1
      obtain ⟨q, us, rfl, h3, h4, _⟩ := lst_at g'.g ay e2
      have l1 := h2.len
      have l2 := h4.len
      exact .inr (.inr (.inr ⟨p, q, vs, us, rfl, rfl, h1, h3, by omega, k.new g'.g g'.old (h2.app h4) (by rw [List.length_append]; omega) t.2⟩))
    · exact t.elim
/-! ### * -/
theorem DaAll.flat {K : PySem.W.Frag} {H : Hp} {vs : List V} {ds : List PyData} (h : DaAll K H vs ds) : ∀ n : Nat, DaAll K H (List.replicate n vs).flatten (List.replicate n ds).flatten
  | 0 => .nil
  | n + 1 => by
    rw [List.replicate_succ, List.replicate_succ, List.flatten_cons, List.flatten_cons]
    exact h.app (DaAll.flat h n)
def oMul : O2 := fun x y Q _ => match x, y with
  | .d (.int i), .d (.int j) => CMulW i j ∧ Q (.d (.int (i * j)))
  | x, .d (.int k) => match lstOf x with
    | some a => -(2 ^ 63) ≤ k ∧ k < 2 ^ 63 ∧ a.length * k.toNat ≤ sizeLine ∧ Q (.new (List.replicate k.toNat a).flatten)
    | none => False
  | _, _ => False
theorem op_mul' : OpR X (binaryOp .Mult) (fun x y H Q => rI CMulW (fun i j => .int (i * j)) x y H Q ∨ rRep x y H Q) := op_mulW.or op_rep
theorem od_mul : OpD Z (fun x y H Q => rI CMulW (fun i j => .int (i * j)) x y H Q ∨ rRep x y H Q) oMul := fun I H Hs x y v u Qd Ed Q g' ax ay t k => by
  unfold oMul at t
  split at t
  · cases ax; cases ay
    exact .inl ⟨_, _, rfl, rfl, t.1, k.now g'.g (.int _) t.2⟩
  · split at t
    · rename_i a e1
      obtain ⟨p, vs, rfl, h1, h2, _⟩ := lst_at g'.g ax e1
      cases ay
      have l1 := h2.len
      refine .inr ⟨p, _, vs, rfl, rfl, h1, t.1, t.2.1, by rw [l1]; exact t.2.2.1, k.new g'.g g'.old (h2.flat _) ?_ t.2.2.2⟩
      rw [List.length_flatten, List.map_replicate, List.sum_replicate_nat, l1, Nat.mul_comm]
      exact t.2.2.1
    · exact t.elim
  · exact t.elim
/-! ### == -/
def scalD : PyData → PyData → Bool
  | .none, .none => true | .none, .int _ => true | .int _, .none => true | .none, .bool _ => true | .bool _, .none => true | .none, .str _ => true | .str _, .none => true
  | .int _, .int _ => true | .bool _, .bool _ => true | .str _, .str _ => true
  | .int _, .str _ => true | .str _, .int _ => true | .bool _, .str _ => true | .str _, .bool _ => true
  | _, _ => false
/-- the datum that a value is, to be read -/
def datOf : DV → Option PyData
  | .d x => some x
  | .bor _ xs => some (.list xs)
  | .new xs => some (.list xs)
  | _ => none
theorem dat_at {Hs I H : Hp} {x : DV} {v : V} {d : PyData} (g : Good Z.R I H) (a : At Z Hs I H x v) (h : datOf x = some d) (c : d.canLay0 = true) : Dp Z.K H v d := by
  unfold datOf at h
  split at h
  · cases h
    exact Da.dp _ _ c (da_mono g.sub _ _ a)
  · cases h
    obtain ⟨⟨p, vs, rfl, h1, h2, _, _, h5⟩, _⟩ := a
    exact .lst (SqL.of h1) (DaAll.dp _ _ (by simpa [PyData.canLay0] using c) (daa_mono g.sub _ _ h2))
  · cases h
    obtain ⟨⟨p, vs, rfl, h1, h2, _, _, h5⟩, _⟩ := a
    exact .lst (SqL.of h1) (DaAll.dp _ _ (by simpa [PyData.canLay0] using c) (daa_mono g.sub _ _ h2))
  · cases h
def eqOk (a b : PyData) : Prop := scalD a b = true ∨ (SeqAt.shaped a = true ∧ SeqAt.shaped b = true)
theorem eqv_scal {I : Hp} {K : PySem.W.Frag} {a b : PyData} {v u : V} (h : scalD a b = true) (ha : Da K I v a) (hb : Da K I u b) : scal v u = true ∧ decide (v = u) = PyData.eqv a b := by
  unfold scalD at h
  split at h <;> first
    | (cases ha; cases hb; refine ⟨rfl, ?_⟩; simp [PyData.eqv]; done)
    | (cases ha; cases hb; refine ⟨rfl, ?_⟩; simp only [PyData.eqv]; rename_i p q; by_cases e : p = q <;> simp [e])
    | cases h
def oEqB (f : Bool → Bool) : O2 := fun x y Q _ => match datOf x, datOf y with
  | some a, some b => eqOk a b ∧ Q (.d (.bool (f (PyData.eqv a b))))
  | _, _ => False
abbrev oEq : O2 := oEqB fun b => b
abbrev oNe : O2 := oEqB fun b => !b
def rEqX (K : PySem.W.Frag) : R2 := fun x y H Q => rEq x y H Q ∨ rEqD K x y H Q
def rNeX (K : PySem.W.Frag) : R2 := fun x y H Q => rNe x y H Q ∨ rNeD K x y H Q
theorem op_eqX (hu : X.A.units + 64 < cLine) : OpR X (compareOp .Eq) (rEqX X.K) := op_eq.or (op_eqD hu)
theorem op_neX (hu : X.A.units + 64 < cLine) : OpR X (compareOp .NotEq) (rNeX X.K) := op_ne.or (op_neD hu)
theorem scal_dat {x y : DV} {a b : PyData} (h : scalD a b = true) (e1 : datOf x = some a) (e2 : datOf y = some b) : x = .d a ∧ y = .d b := by
  cases x <;> cases y <;> simp only [datOf, Option.some.injEq] at e1 e2 <;> first
    | (exfalso; cases e1; done)
    | (exfalso; cases e2; done)
    | (subst e1 e2; exact ⟨rfl, rfl⟩)
    | (subst e1 e2; exfalso; revert h; simp only [scalD]; (try split) <;> simp)
theorem od_eq {K : PySem.W.Frag} (hK : Z.K = K) : OpD Z (rEqX K) oEq := fun I H Hs x y v u Qd Ed Q g' ax ay t k => by
  subst hK
  unfold oEq oEqB at t
  split at t
  · rename_i a b e1 e2
    rcases t.1 with sc | ⟨s1, s2⟩
    · obtain ⟨rfl, rfl⟩ := scal_dat sc e1 e2
      obtain ⟨z1, z2⟩ := eqv_scal sc ax ay
      exact .inl ⟨z1, k.now g'.g (by rw [z2]; exact .bl _) t.2⟩
    · exact .inr ⟨a, b, dat_at g'.g ax e1 (SeqAt.canLay_of_shaped s1), dat_at g'.g ay e2 (SeqAt.canLay_of_shaped s2), s1, s2, k.now g'.g (.bl _) t.2⟩
  · exact t.elim
theorem od_ne {K : PySem.W.Frag} (hK : Z.K = K) : OpD Z (rNeX K) oNe := fun I H Hs x y v u Qd Ed Q g' ax ay t k => by
  subst hK
  unfold oNe oEqB at t
  split at t
  · rename_i a b e1 e2
    rcases t.1 with sc | ⟨s1, s2⟩
    · obtain ⟨rfl, rfl⟩ := scal_dat sc e1 e2
      obtain ⟨z1, z2⟩ := eqv_scal sc ax ay
      exact .inl ⟨z1, k.now g'.g (by rw [z2]; exact .bl _) t.2⟩
    · exact .inr ⟨a, b, dat_at g'.g ax e1 (SeqAt.canLay_of_shaped s1), dat_at g'.g ay e2 (SeqAt.canLay_of_shaped s2), s1, s2, k.now g'.g (.bl _) t.2⟩
  · exact t.elim
/-! ### is None; is a bool -/
def isNon : PyData → Bool
  | .none => true
  | _ => false
def oIsN (f : Bool → Bool) : O2 := fun x y Q _ => match x, y with
  | .d a, .d .none => Q (.d (.bool (f (isNon a))))
  | .v _, .d .none => Q (.d (.bool (f false)))
  | _, _ => False
theorem non_iff {K : PySem.W.Frag} {I : Hp} {v : V} {a : PyData} (h : Da K I v a) : decide (v = .non) = isNon a := by
  cases h <;> rfl
theorem od_isN : OpD Z (fun x y H Q => y = .non ∧ Q (.bl (decide (x = .non))) H) (fun x y Q E => (∀ u, x = .v u → u ≠ .non) ∧ oIsN (fun b => b) x y Q E) := fun I H Hs x y v u Qd Ed Q g' ax ay t k => by
  obtain ⟨t0, t⟩ := t
  unfold oIsN at t
  split at t
  · cases ay
    exact ⟨rfl, k.now g'.g (by rw [non_iff ax]; exact .bl _) t⟩
  · cases ay
    have e : v = _ := ax
    subst e
    refine ⟨rfl, k.now g'.g (x := .bool false) ?_ t⟩
    rw [decide_eq_false (t0 _ rfl)]; exact .bl _
  · exact t.elim
theorem od_notN : OpD Z (fun x y H Q => y = .non ∧ Q (.bl (!decide (x = .non))) H) (fun x y Q E => (∀ u, x = .v u → u ≠ .non) ∧ oIsN (fun b => !b) x y Q E) := fun I H Hs x y v u Qd Ed Q g' ax ay t k => by
  obtain ⟨t0, t⟩ := t
  unfold oIsN at t
  split at t
  · cases ay
    exact ⟨rfl, k.now g'.g (by rw [non_iff ax]; exact .bl _) t⟩
  · cases ay
    have e : v = _ := ax
    subst e
    refine ⟨rfl, k.now g'.g (x := .bool true) ?_ t⟩
    rw [decide_eq_false (t0 _ rfl)]; exact .bl _
  · exact t.elim
/-! ### in -/
/-- one sign in a text; a datum in a list or tuple -/
def oInB (f : Bool → Bool) : O2 := fun x y Q _ => match y with
  | .d (.str z) => ∃ c, x = .d (.str ⟨#[c]⟩) ∧ Q (.d (.bool (f (decide (c ∈ z.cps.toList)))))
  | .d (.tuple xs) => ∃ a, datOf x = some a ∧ SeqAt.shaped a = true ∧ SeqAt.shaped (.tuple xs) = true ∧ Q (.d (.bool (f (xs.any fun z => PyData.eqv z a))))
  | y => ∃ a xs, datOf x = some a ∧ lstOf y = some xs ∧ SeqAt.shaped a = true ∧ SeqAt.shaped (.list xs) = true ∧ Q (.d (.bool (f (xs.any fun z => PyData.eqv z a))))
abbrev oIn : O2 := oInB fun b => b
abbrev oNotIn : O2 := oInB fun b => !b
end
end PD
set_option Elab.async false
set_option linter.all false
set_option maxRecDepth 100000
set_option maxHeartbeats 1000000
namespace PD
open PySem PySem.Spec PyProof.Rows L2
section
variable {X : Cx} {Z : Zx} {pos : Pos}
/-! ### in -/
def rInT (K : PySem.W.Frag) (f : Bool → Bool) : R2 := fun x y H Q => ∃ d ds, Dp K H x d ∧ Dp K H y (.tuple ds) ∧ SeqAt.shaped d = true ∧ SeqAt.shaped (.tuple ds) = true ∧ Q (.bl (f (ds.any fun z => PyData.eqv z d))) H
theorem op_inT (hu : X.A.units + 65 < cLine) : OpR X (compareOp .In) (rInT X.K fun b => b) := by
  intro pins s σ H x y v u Q I rx ry h
  obtain ⟨d, ds, hd, he, sd, se, q⟩ := h
  obtain ⟨as, r1⟩ := Dp.reads I d x v hd rx
  obtain ⟨bs, r2⟩ := Dp.reads I (.tuple ds) y u he ry
  exact SeqAt.in_tuple_reads r2 r1 (by simpa [PyData.canLay0] using SeqAt.canLay_of_shaped se) (SeqAt.canLay_of_shaped sd) (room_in_shaped sd hu) ⟨.bl _, H, I, rfl, q⟩
theorem op_notInT (hu : X.A.units + 65 < cLine) : OpR X (compareOp .NotIn) (rInT X.K fun b => !b) := by
  intro pins s σ H x y v u Q I rx ry h
  obtain ⟨d, ds, hd, he, sd, se, q⟩ := h
  obtain ⟨as, r1⟩ := Dp.reads I d x v hd rx
  obtain ⟨bs, r2⟩ := Dp.reads I (.tuple ds) y u he ry
  exact SeqAt.notIn_tuple_reads r2 r1 (by simpa [PyData.canLay0] using SeqAt.canLay_of_shaped se) (SeqAt.canLay_of_shaped sd) (room_in_shaped sd hu) ⟨.bl _, H, I, rfl, q⟩
def rInX (K : PySem.W.Frag) : R2 := fun x y H Q => (∃ (c : Nat) (z : Str), x = .str ⟨#[c]⟩ ∧ y = .str z ∧ Q (.bl (decide (c ∈ z.cps.toList))) H) ∨ rInT K (fun b => b) x y H Q ∨ rInD K x y H Q
def rNotInX (K : PySem.W.Frag) : R2 := fun x y H Q => (∃ (c : Nat) (z : Str), x = .str ⟨#[c]⟩ ∧ y = .str z ∧ Q (.bl (!decide (c ∈ z.cps.toList))) H) ∨ rInT K (fun b => !b) x y H Q ∨ rNotInD K x y H Q
theorem op_inX (hu : X.A.units + 65 < cLine) : OpR X (compareOp .In) (rInX X.K) := op_in_sign.or ((op_inT hu).or (op_inD hu))
theorem op_notInX (hu : X.A.units + 65 < cLine) : OpR X (compareOp .NotIn) (rNotInX X.K) := op_notIn_sign.or ((op_notInT hu).or (op_notInD hu))
theorem lst_dat {y : DV} {xs : List PyData} (h : lstOf y = some xs) : datOf y = some (.list xs) := by
  unfold lstOf at h
  split at h <;> first
    | (cases h; rfl)
    | cases h
theorem od_in {K : PySem.W.Frag} (hK : Z.K = K) : OpD Z (rInX K) oIn := fun I H Hs x y v u Qd Ed Q g' ax ay t k => by
  subst hK
  unfold oIn oInB at t
  split at t
  · obtain ⟨c, rfl, t⟩ := t
    cases ax; cases ay
    exact .inl ⟨c, _, rfl, rfl, k.now g'.g (.bl _) t⟩
  · obtain ⟨a, e1, s1, s2, t⟩ := t
    exact .inr (.inl ⟨_, _, dat_at g'.g ax e1 (SeqAt.canLay_of_shaped s1), dat_at g'.g ay rfl (SeqAt.canLay_of_shaped s2), s1, s2, k.now g'.g (.bl _) t⟩)
  · obtain ⟨a, xs, e1, e2, s1, s2, t⟩ := t
    exact .inr (.inr ⟨_, _, dat_at g'.g ax e1 (SeqAt.canLay_of_shaped s1), dat_at g'.g ay (lst_dat e2) (SeqAt.canLay_of_shaped s2), s1, s2, k.now g'.g (.bl _) t⟩)
theorem od_notIn {K : PySem.W.Frag} (hK : Z.K = K) : OpD Z (rNotInX K) oNotIn := fun I H Hs x y v u Qd Ed Q g' ax ay t k => by
  subst hK
  unfold oNotIn oInB at t
  split at t
  · obtain ⟨c, rfl, t⟩ := t
    cases ax; cases ay
    exact .inl ⟨c, _, rfl, rfl, k.now g'.g (.bl _) t⟩
  · obtain ⟨a, e1, s1, s2, t⟩ := t
    exact .inr (.inl ⟨_, _, dat_at g'.g ax e1 (SeqAt.canLay_of_shaped s1), dat_at g'.g ay rfl (SeqAt.canLay_of_shaped s2), s1, s2, k.now g'.g (.bl _) t⟩)
  · obtain ⟨a, xs, e1, e2, s1, s2, t⟩ := t
    exact .inr (.inr ⟨_, _, dat_at g'.g ax e1 (SeqAt.canLay_of_shaped s1), dat_at g'.g ay (lst_dat e2) (SeqAt.canLay_of_shaped s2), s1, s2, k.now g'.g (.bl _) t⟩)
/-! ### tests -/
/-- what a bool says -/
def bK (Q : Bool → Prop) : DK := fun x => match x with
  | .d (.bool b) => Q b
  | _ => False
theorem bK_at {Hs I H : Hp} {x : DV} {v : V} {Q : Bool → Prop} (a : At Z Hs I H x v) (h : bK Q x) : ∃ b, v = .bl b ∧ x = .d (.bool b) ∧ Q b := by
  unfold bK at h
  split at h
  · cases a
    exact ⟨_, rfl, rfl, h⟩
  · exact h.elim
def dB (t : TD) : TDT := fun δ Q E => t δ (bK Q) E
theorem dt_of {e : Expr} {te : TE} {t : TD} (h : DE X Z e te t) (hp : PE X e te → PT X e (tB te)) : DT X Z e (tB te) (dB t) := by
  refine ⟨hp h.pe, fun I H δ σ Qd Ed Q hh t k => ?_⟩
  refine h.rf I H δ σ _ Ed _ hh t fun x v I1 H1 e1 a1 q1 => ?_
  obtain ⟨b, rfl, _, q⟩ := bK_at a1 q1
  exact ⟨b, rfl, k b I1 H1 e1 q⟩
theorem dt_val {e : Expr} {te : TE} {t : TD} (h : DE X Z e te t) (he : ∀ whole, isTrue e X.env whole = (do let v ← whole; standAt e.pos; holding [v] (truthy v)) := by intro _; rfl) : DT X Z e (tB te) (dB t) := dt_of h fun p => pt_val p he
theorem dt_cmp {a b : Expr} {ta tb : TE} {da db : TD} {r : R2} {o : O2} {op : CmpOp} (h : OpR X (compareOp op) r) (hm : behindInMarks op b = false) (ho : OpD Z r o) (ha : DE X Z a ta da) (hb : DE X Z b tb db) : DT X Z (.Compare a [op] [b] pos) (tB (tOp r ta tb)) (dB (dBin o da db)) :=
  dt_of (de_cmp (pos := pos) h hm ho ha hb) fun p => pt_cmpR h ha.pe hb.pe hm
def dNotT (t : TDT) : TDT := fun δ Q E => t δ (fun b => Q (!b)) E
theorem dt_not {a : Expr} {ta : TT} {da : TDT} (h : DT X Z a ta da) : DT X Z (.UnaryOp .Not a pos) (tNot ta) (dNotT da) :=
  ⟨pt_not h.pt, fun I H δ σ Qd Ed Q hh t k => h.rf I H δ σ _ Ed _ hh t fun b I1 H1 e1 q1 => k (!b) I1 H1 e1 q1⟩
def dAndT (a b : TDT) : TDT := fun δ Q E => a δ (fun c => if c = true then b δ Q E else Q false) E
def dOrT (a b : TDT) : TDT := fun δ Q E => a δ (fun c => if c = true then Q true else b δ Q E) E
theorem dw_and1 {a : Expr} {ta : TT} {da : TDT} (h : DT X Z a ta da) : DW X Z (.BoolOp .And [a] pos) ta da := ⟨pw_and1 h.pt, h.rf⟩
theorem dw_or1 {a : Expr} {ta : TT} {da : TDT} (h : DT X Z a ta da) : DW X Z (.BoolOp .Or [a] pos) ta da := ⟨pw_or1 h.pt, h.rf⟩
theorem dw_and {a b : Expr} {rest : List Expr} {ta tb : TT} {da db : TDT} (h : DT X Z a ta da) (h' : DW X Z (.BoolOp .And (b :: rest) pos) tb db) : DW X Z (.BoolOp .And (a :: b :: rest) pos) (tAnd ta tb) (dAndT da db) := by
  refine ⟨pw_and h.pt h'.pw, fun I H δ σ Qd Ed Q hh t k => h.rf I H δ σ _ Ed _ hh t fun c I1 H1 e1 q1 => ?_⟩
  cases c with
  | true => exact h'.rf I1 H1 δ σ Qd Ed Q (hh.ext e1) q1 (k.ext hh.g e1)
  | false => exact k false I1 H1 e1 q1
theorem dw_or {a b : Expr} {rest : List Expr} {ta tb : TT} {da db : TDT} (h : DT X Z a ta da) (h' : DW X Z (.BoolOp .Or (b :: rest) pos) tb db) : DW X Z (.BoolOp .Or (a :: b :: rest) pos) (tOr ta tb) (dOrT da db) := by
  refine ⟨pw_or h.pt h'.pw, fun I H δ σ Qd Ed Q hh t k => h.rf I H δ σ _ Ed _ hh t fun c I1 H1 e1 q1 => ?_⟩
  cases c with
  | true => exact k true I1 H1 e1 q1
  | false => exact h'.rf I1 H1 δ σ Qd Ed Q (hh.ext e1) q1 (k.ext hh.g e1)
/-! ### and, or, not as values -/
def dAnd (a b : TD) : TD := fun δ Q E => a δ (bK fun c => if c = true then b δ Q E else Q (.d (.bool false))) E
def dOr (a b : TD) : TD := fun δ Q E => a δ (bK fun c => if c = true then Q (.d (.bool true)) else b δ Q E) E
def dNot (a : TD) : TD := fun δ Q E => a δ (bK fun c => Q (.d (.bool (!c)))) E
theorem de_one {a : Expr} {op} {ta : TE} {da : TD} (h : DE X Z a ta da) : DE X Z (.BoolOp op [a] pos) ta da := ⟨pe_one h.pe, h.rf⟩
theorem de_and {a b : Expr} {rest : List Expr} {ta tb : TE} {da db : TD} (h : DE X Z a ta da) (h' : DE X Z (.BoolOp .And (b :: rest) pos) tb db) : DE X Z (.BoolOp .And (a :: b :: rest) pos) (tAndV ta tb) (dAnd da db) := by
  refine ⟨pe_and h.pe h'.pe, fun I H δ σ Qd Ed Q hh t k => h.rf I H δ σ _ Ed _ hh t fun x v I1 H1 e1 a1 q1 => ?_⟩
  obtain ⟨c, rfl, _, q⟩ := bK_at a1 q1
  refine ⟨c, rfl, ?_⟩
  cases c with
  | true => exact h'.rf I1 H1 δ σ Qd Ed Q (hh.ext e1) q (k.ext hh.g e1)
  | false => exact (k.ext hh.g e1).now e1.good (.bl false) q
theorem de_or {a b : Expr} {rest : List Expr} {ta tb : TE} {da db : TD} (h : DE X Z a ta da) (h' : DE X Z (.BoolOp .Or (b :: rest) pos) tb db) : DE X Z (.BoolOp .Or (a :: b :: rest) pos) (tOrV ta tb) (dOr da db) := by
  refine ⟨pe_or h.pe h'.pe, fun I H δ σ Qd Ed Q hh t k => h.rf I H δ σ _ Ed _ hh t fun x v I1 H1 e1 a1 q1 => ?_⟩
  obtain ⟨c, rfl, _, q⟩ := bK_at a1 q1
  refine ⟨c, rfl, ?_⟩
  cases c with
  | true => exact (k.ext hh.g e1).now e1.good (.bl true) q
  | false => exact h'.rf I1 H1 δ σ Qd Ed Q (hh.ext e1) q (k.ext hh.g e1)
theorem de_not {a : Expr} {ta : TE} {da : TD} (h : DE X Z a ta da) : DE X Z (.UnaryOp .Not a pos) (tNotV ta) (dNot da) := by
  refine ⟨pe_not h.pe, fun I H δ σ Qd Ed Q hh t k => h.rf I H δ σ _ Ed _ hh t fun x v I1 H1 e1 a1 q1 => ?_⟩
  obtain ⟨c, rfl, _, q⟩ := bK_at a1 q1
  exact ⟨c, rfl, (k.ext hh.g e1).now e1.good (.bl _) q⟩
def dIf (c : TDT) (a b : TD) : TD := fun δ Q E => c δ (fun z => if z = true then a δ Q E else b δ Q E) E
theorem de_if {c a b : Expr} {tc : TT} {ta tb : TE} {dc : TDT} {da db : TD} (hc : DT X Z c tc dc) (ha : DE X Z a ta da) (hb : DE X Z b tb db) : DE X Z (.IfExp c a b pos) (tIf tc ta tb) (dIf dc da db) := by
  refine ⟨pe_ifExp hc.pt ha.pe hb.pe, fun I H δ σ Qd Ed Q hh t k => hc.rf I H δ σ _ Ed _ hh t fun z I1 H1 e1 q1 => ?_⟩
  cases z with
  | true => exact ha.rf I1 H1 δ σ Qd Ed Q (hh.ext e1) q1 (k.ext hh.g e1)
  | false => exact hb.rf I1 H1 δ σ Qd Ed Q (hh.ext e1) q1 (k.ext hh.g e1)
/-- a < b < c -/
def dChain (o o' : O2) (a b c : TD) : TD := fun δ Q E => a δ (fun x => b δ (fun y => o x y (bK fun k => if k = true then c δ (fun z => o' y z Q E) E else Q (.d (.bool false))) E) E) E
theorem de_chain {a b c : Expr} {ta tb tc : TE} {da db dc : TD} {op op' : CmpOp} {r r' : R2} {o o' : O2} (h : OpR X (compareOp op) r) (h' : OpR X (compareOp op') r') (ho : OpD Z r o) (ho' : OpD Z r' o') (ha : DE X Z a ta da) (hb : DE X Z b tb db) (hc : DE X Z c tc dc)
    (hm : lastMarks [op, op'] [b, c] = false := by with_unfolding_all rfl) : DE X Z (.Compare a [op, op'] [b, c] pos) (tChain r r' ta tb tc) (dChain o o' da db dc) := by
  refine ⟨pe_chain h h' ha.pe hb.pe hc.pe hm, fun I H δ σ Qd Ed Q hh t k => ?_⟩
  refine ha.rf I H δ σ _ Ed _ hh t fun x v I1 H1 e1 a1 q1 => ?_
  have h1 := hh.ext e1
  refine hb.rf I1 H1 δ σ _ Ed _ h1 q1 fun y u I2 H2 e2 a2 q2 => ?_
  have h2 := h1.ext e2
  have k2 := (k.ext hh.g e1).ext h1.g e2
  have a2' : At Z H I2 H2 y u := a2.since fun _ z => e1.none hh.g z
  refine ho I2 H2 H x y v u _ Ed _ ⟨h2.g, h2.old⟩ (a1.ext e2) a2' q2 fun z zv I3 H3 e3 a3 q3 => ?_
  have h3 := h2.ext e3
  have k3 := k2.ext h2.g e3
  obtain ⟨b, rfl, _, q⟩ := bK_at a3 q3
  refine ⟨b, rfl, ?_⟩
  cases b with
  | false => exact k3.now h3.g (.bl false) q
  | true =>
    refine hc.rf I3 H3 δ σ _ Ed _ h3 q fun z zv I4 H4 e4 a4 q4 => ?_
    have h4 := h3.ext e4
    have e13 := (e1.trans hh.g e2).trans hh.g e3
    exact ho' I4 H4 H y z u zv Qd Ed Q ⟨h4.g, h4.old⟩ ((a2'.ext e3).ext e4) (a4.since fun _ z => e13.none hh.g z) q4 (k3.ext h3.g e4)
/-! ### displays -/
def dNil : TDA := fun _ Q _ => Q []
def dCons (a : TD) (r : TDA) : TDA := fun δ Q E => a δ (fun x => r δ (fun xs => Q (froz x :: xs)) E) E
theorem da_nil : DA X Z [] tNil dNil := ⟨pa_nil, fun I H δ σ Qd Ed Q hh t k => k [] [] I H (Ext.refl hh.g) .nil t⟩
theorem da_cons {e : Expr} {es : List Expr} {te : TE} {ta : TA} {de : TD} {dr : TDA} (h : DE X Z e te de) (h' : DA X Z es ta dr) (hs : starEach (e :: es) X.env = (false, eval e X.env) :: starEach es X.env := by rfl) : DA X Z (e :: es) (tCons te ta) (dCons de dr) := by
  refine ⟨pa_cons h.pe h'.pa hs, fun I H δ σ Qd Ed Q hh t k => ?_⟩
  refine h.rf I H δ σ _ Ed _ hh t (Then.frz (Qd := fun x => dr δ (fun xs => Qd (x :: xs)) Ed) fun x v I1 H1 e1 a1 q1 => ?_)
  refine h'.rf I1 H1 δ σ _ Ed _ (hh.ext e1) q1 fun xs vs I2 H2 e2 a2 q2 => ?_
  exact k (x :: xs) (v :: vs) I2 H2 (e1.trans hh.g e2) (.cons (a1.ext e2) (a2.since fun _ z => e1.none hh.g z)) q2
/-- all are data -/
def datAll : List DV → Option (List PyData)
  | [] => some []
  | .d x :: r => (datAll r).map (x :: ·)
  | _ :: _ => none
theorem datAll_at {Hs I H : Hp} : ∀ {xs : List DV} {vs : List V} {ds : List PyData}, AtAll Z Hs I H xs vs → datAll xs = some ds → DaAll Z.K I vs ds
  | _, _, _, .nil, h => by cases h; exact .nil
  | _, _, _, .cons (x := x) a t, h => by
    cases x with
    | d x =>
      simp only [datAll] at h
      obtain ⟨es, h1, rfl⟩ := Option.map_eq_some_iff.mp h
      exact .cons a (datAll_at t h1)
    | _ => cases h
def datK (Q : List PyData → Prop) : List DV → Prop := fun xs => match datAll xs with
  | some ds => Q ds
  | none => False
def dTup (t : TDA) : TD := fun δ Q E => t δ (datK fun ds => ds.length ≤ sizeLine ∧ Q (.d (.tuple ds))) E
def dLst (t : TDA) : TD := fun δ Q E => t δ (datK fun ds => ds.length ≤ sizeLine ∧ Q (.new ds)) E
theorem de_tup {es : List Expr} {ta : TA} {da : TDA} {x1} (h : DA X Z es ta da) : DE X Z (.Tuple es x1 pos) (tTup ta) (dTup da) := by
  refine ⟨pe_tup h.pa, fun I H δ σ Qd Ed Q hh t k => h.rf I H δ σ _ Ed _ hh t fun xs vs I1 H1 e1 a1 q1 => ?_⟩
  unfold datK at q1
  split at q1
  · rename_i ds e
    have a := datAll_at a1 e
    have l := a.len
    exact ⟨by omega, (k.ext hh.g e1).tup e1.good a (by omega) q1.2⟩
  · exact q1.elim
theorem de_lst {es : List Expr} {ta : TA} {da : TDA} (h : DA X Z es ta da) : DE X Z (.List es pos) (tLst ta) (dLst da) := by
  refine ⟨pe_lst h.pa, fun I H δ σ Qd Ed Q hh t k => h.rf I H δ σ _ Ed _ hh t fun xs vs I1 H1 e1 a1 q1 => ?_⟩
  unfold datK at q1
  split at q1
  · rename_i ds e
    have a := datAll_at a1 e
    have l := a.len
    exact ⟨by omega, (k.ext hh.g e1).new e1.good (hh.ext e1).old a (by omega) q1.2⟩
  · exact q1.elim
/-! ### subscripts -/
theorem DaAll.atI {K : PySem.W.Frag} {H : Hp} {vs : List V} {ds : List PyData} {i : Int} {d : PyData} (h : DaAll K H vs ds) (e : atI ds i = some d) : ∃ v, L2.atI vs i = some v ∧ Da K H v d := by
  unfold L2.atI at e ⊢
  rw [h.len]
  obtain ⟨j, e1, e2⟩ := Option.bind_eq_some_iff.mp e
  obtain ⟨v, h1, h2⟩ := h.get e2
  exact ⟨v, by rw [e1]; exact h1, h2⟩
def oIx : O2 := fun x y Q _ => match y with
  | .d (.int i) => match x with
    | .d (.str z) => z.length ≤ sizeLine ∧ ∃ c, atI z.cps.toList i = some c ∧ Q (.d (.str ⟨#[c]⟩))
    | .d (.tuple xs) => ∃ d, atI xs i = some d ∧ Q (.d d)
    | x => ∃ xs d, lstOf x = some xs ∧ atI xs i = some d ∧ Q (.d d)
  | _ => False
theorem od_ix {K : PySem.W.Frag} (hK : Z.K = K) : OpD Z (rIx K) oIx := fun I H Hs x y v u Qd Ed Q g' ax ay t k => by
  subst hK
  unfold oIx at t
  split at t
  · cases ay
    split at t
    · cases ax
      obtain ⟨hz, c, e, t⟩ := t
      exact .inr (.inr ⟨_, _, c, rfl, rfl, hz, e, k.now g'.g (.str _) t⟩)
    · obtain ⟨d, e, t⟩ := t
      obtain ⟨p, vs, rfl, h1, h1', h2⟩ := tup_at g'.g ax
      obtain ⟨v, e2, a2⟩ := DaAll.atI h2 e
      exact .inr (.inl ⟨p, vs, _, v, rfl, rfl, h1', e2, k.now g'.g a2 t⟩)
    · obtain ⟨xs, d, e1, e, t⟩ := t
      obtain ⟨p, vs, rfl, h1, h2, _⟩ := lst_at g'.g ax e1
      obtain ⟨v, e2, a2⟩ := DaAll.atI h2 e
      exact .inl ⟨p, vs, _, v, rfl, rfl, SqL.of h1, e2, k.now g'.g a2 t⟩
  · exact t.elim
theorem de_ix' {a b : Expr} {ta tb : TE} {da db : TD} (ha : DE X Z a ta da) (hb : DE X Z b tb db) (hs : PlainIx b) (hK : Z.K = X.K) : DE X Z (.Subscript a b pos) (tOp (rIx X.K) ta tb) (dBin oIx da db) :=
  de_tOp (fun p q => pe_ix ix_seq p q hs) (od_ix hK) ha hb
theorem de_ix {a b : Expr} {ta tb : TE} {da db : TD} (ha : DE X Z a ta da) (hb : DE X Z b tb db) (hs : PlainIx b) (hK : Z.K = X.K) : DE X Z (.Subscript a b pos) (tOp (rIx Z.K) ta tb) (dBin oIx da db) := by rw [hK]; exact de_ix' ha hb hs hK
/-! ### slices -/
def cut {α : Type} (xs : List α) (lo hi : Option Int) : List α := (xs.drop (HT.sIx xs.length 0 lo)).take (HT.sIx xs.length xs.length hi - HT.sIx xs.length 0 lo)
theorem DaAll.cut {K : PySem.W.Frag} {H : Hp} {vs : List V} {ds : List PyData} (h : DaAll K H vs ds) (lo hi : Option Int) : DaAll K H (cutV vs lo hi) (PD.cut ds lo hi) := by
  unfold cutV PD.cut
  rw [h.len]
  exact (h.drop _).take _
theorem cut_len {α : Type} (xs : List α) (lo hi : Option Int) : (cut xs lo hi).length ≤ xs.length := by
  unfold cut
  rw [List.length_take, List.length_drop]
  omega
theorem cut_all {α : Type} {xs : List α} {lo hi : Option Int} (h : HT.sIx xs.length 0 lo = 0 ∧ HT.sIx xs.length xs.length hi = xs.length) : cut xs lo hi = xs := by
  unfold cut
  rw [h.1, h.2, List.drop_zero, Nat.sub_zero, List.take_length]
def rSlX (K : PySem.W.Frag) : V → Option Int → Option Int → Hp → VK → Prop := fun x lo hi H Q => rSlL K x lo hi H Q ∨ rSlA K x lo hi H Q ∨ rSlS x lo hi H Q
theorem sl_x : SlR X (rSlX X.K) := sl_list.or (sl_tupA.or sl_str)
def oSl (x : DV) (lo hi : Option Int) (Q : DK) : Prop := match x with
  | .d (.str z) => z.length ≤ sizeLine ∧ Q (.d (.str (cutS z lo hi)))
  | .d (.tuple xs) => Q (.d (.tuple (cut xs lo hi)))
  | x => ∃ xs, lstOf x = some xs ∧ Q (.new (cut xs lo hi))
theorem od_sl {K : PySem.W.Frag} (hK : Z.K = K) {I H Hs : Hp} {x : DV} {v : V} {lo hi : Option Int} {Qd : DK} {Q : VK} (g' : At2 Z I H) (ax : At Z Hs I H x v) (t : oSl x lo hi Qd) (k : Then Z I H Qd Q) : rSlX K v lo hi H Q := by
  subst hK
  unfold oSl at t
  split at t
  · cases ax
    exact .inr (.inr ⟨_, rfl, t.1, k.now g'.g (.str _) t.2⟩)
  · obtain ⟨p, vs, rfl, h1, h1', h2⟩ := tup_at g'.g ax
    have l := h2.len
    have lz := tup_len g'.g h1
    refine .inr (.inl ⟨p, vs, rfl, h1', fun e => ?_, fun _ => ?_⟩)
    · rw [l] at e
      rw [cut_all e] at t
      exact k.now g'.g ax t
    · exact k.tup g'.g (h2.cut lo hi) (Nat.le_trans (cutV_length _ _ _) lz) t
  · obtain ⟨xs, e1, t⟩ := t
    obtain ⟨p, vs, rfl, h1, h2, h3⟩ := lst_at g'.g ax e1
    exact .inl ⟨p, vs, rfl, SqL.of h1, k.new g'.g g'.old (h2.cut lo hi) (Nat.le_trans (cutV_length _ _ _) h3) t⟩
abbrev TDO := DEnv → (Option Int → Prop) → EK → Prop
structure DO (X : Cx) (Z : Zx) (e : Option Expr) (te : TO) (t : TDO) : Prop where
  po : PO X e te
  rf : ∀ I H δ σ Qd Ed Q, Here Z I H δ σ Ed → t δ Qd Ed → (∀ i I' H', Ext Z.R I H I' H' → Qd i → Q i H') → te σ H Q
def dNoPart : TDO := fun _ Q _ => Q none
def dPart (t : TD) : TDO := fun δ Q E => t δ (fun x => match x with | .d (.int i) => Q (some i) | _ => False) E
theorem do_none : DO X Z none tNoPart dNoPart := ⟨po_none, fun I H δ σ Qd Ed Q hh t k => k none I H (Ext.refl hh.g) t⟩
theorem do_some {e : Expr} {te : TE} {t : TD} (h : DE X Z e te t) : DO X Z (some e) (tPart te) (dPart t) := by
  refine ⟨po_some h.pe, fun I H δ σ Qd Ed Q hh t k => h.rf I H δ σ _ Ed _ hh t fun x v I1 H1 e1 a1 q1 => ?_⟩
  split at q1
  · cases a1
    exact ⟨_, rfl, k _ I1 H1 e1 q1⟩
  · exact q1.elim
def dSl (a : TD) (lo hi : TDO) : TD := fun δ Q E => a δ (fun x => lo δ (fun l => hi δ (fun h => oSl x l h Q) E) E) E
theorem de_slice' {e : Expr} {lo hi : Option Expr} {p2 : Pos} {te : TE} {tl th : TO} {d : TD} {dl dh : TDO} (ha : DE X Z e te d) (hl : DO X Z lo tl dl) (hh' : DO X Z hi th dh) (hK : Z.K = X.K) : DE X Z (.Subscript e (.Slice lo hi none p2) pos) (tSl (rSlX X.K) te tl th) (dSl d dl dh) := by
  refine ⟨pe_slice sl_x ha.pe hl.po hh'.po, fun I H δ σ Qd Ed Q hh t k => ha.rf I H δ σ _ Ed _ hh t fun x v I1 H1 e1 a1 q1 => ?_⟩
  refine hl.rf I1 H1 δ σ _ Ed _ (hh.ext e1) q1 fun l I2 H2 e2 q2 => ?_
  refine hh'.rf I2 H2 δ σ _ Ed _ ((hh.ext e1).ext e2) q2 fun u I3 H3 e3 q3 => ?_
  have h3 := ((hh.ext e1).ext e2).ext e3
  exact od_sl hK ⟨h3.g, h3.old⟩ ((a1.ext e2).ext e3) q3 (((k.ext hh.g e1).ext e1.good e2).ext e2.good e3)
theorem de_slice {e : Expr} {lo hi : Option Expr} {p2 : Pos} {te : TE} {tl th : TO} {d : TD} {dl dh : TDO} (ha : DE X Z e te d) (hl : DO X Z lo tl dl) (hh' : DO X Z hi th dh) (hK : Z.K = X.K) : DE X Z (.Subscript e (.Slice lo hi none p2) pos) (tSl (rSlX Z.K) te tl th) (dSl d dl dh) := by rw [hK]; exact de_slice' ha hl hh' hK
end
end PD
set_option Elab.async false
set_option linter.all false
set_option maxRecDepth 100000
set_option maxHeartbeats 1000000
namespace PD
open PySem PySem.Spec PyProof.Rows L2
section
variable {X : Cx} {Z : Zx} {pos p apos : Pos} {x : Str} {e : Expr} {es : List Expr} {ta : TA} {da : TDA}
/-! ### calls of what is built in -/
abbrev OC := List DV → DK → EK → Prop
def CallD (Z : Zx) (r : List V → Hp → VK → Prop) (o : OC) : Prop := ∀ I H Hs xs vs Qd Ed Q, At2 Z I H → AtAll Z Hs I H xs vs → o xs Qd Ed → Then Z I H Qd Q → r vs H Q
def dCall (o : OC) (a : TDA) : TD := fun δ Q E => a δ (fun xs => o xs Q E) E
theorem de_tCB {r : List V → Hp → VK → Prop} {o : OC} {ex : Expr} (h : PA X es ta → PE X ex (tCB r ta)) (ho : CallD Z r o) (ha : DA X Z es ta da) : DE X Z ex (tCB r ta) (dCall o da) := by
  refine ⟨h ha.pa, fun I H δ σ Qd Ed Q hh t k => ha.rf I H δ σ _ Ed _ hh t fun xs vs I1 H1 e1 a1 q1 => ?_⟩
  have h1 := hh.ext e1
  exact ho I1 H1 H xs vs Qd Ed Q ⟨h1.g, h1.old⟩ a1 q1 (k.ext hh.g e1)
theorem de_callB {id : String} {r : List V → Hp → VK → Prop} {o : OC} (hc : CallR X (.builtin id) r) (ho : CallD Z r o) (hg : Gl X x) (hm : X.mg x = none) (hv : bootBuiltins x = some (.builtin id)) (ha : DA X Z (e :: es) ta da) (hn : x ≠ "__name__" := by decide) (hdb : (x == ("__debug__" : Str)) = false := by decide)
    (he : starEach (e :: es) X.env = (false, eval e X.env) :: starEach es X.env := by rfl) (hpl : (backTo pos (starEach es X.env)).any (·.1) = false := by rfl) : DE X Z (.Call (.Name x p) (e :: es) [] pos) (tCB r ta) (dCall o da) :=
  de_tCB (fun q => pe_callB hc hg hm hv q hn hdb he hpl) ho ha
theorem de_callTy {T : String} {r : List V → Hp → VK → Prop} {o : OC} (hc : CallR X (.type T) r) (ho : CallD Z r o) (hg : Gl X x) (hm : X.mg x = none) (hv : bootBuiltins x = some (.type T)) (ha : DA X Z (e :: es) ta da) (hn : x ≠ "__name__" := by decide) (hdb : (x == ("__debug__" : Str)) = false := by decide)
    (he : starEach (e :: es) X.env = (false, eval e X.env) :: starEach es X.env := by rfl) (hpl : (backTo pos (starEach es X.env)).any (·.1) = false := by rfl) : DE X Z (.Call (.Name x p) (e :: es) [] pos) (tCB r ta) (dCall o da) :=
  de_tCB (fun q => pe_callTy hc hg hm hv q hn hdb he hpl) ho ha
/-- one argument -/
def o1 (o : O1) : OC := fun xs Q E => match xs with
  | [x] => o x Q E
  | _ => False
theorem at1 {Hs I H : Hp} {x : DV} {vs : List V} (h : AtAll Z Hs I H [x] vs) : ∃ v, vs = [v] ∧ At Z Hs I H x v := by
  cases h with
  | cons a t => cases t; exact ⟨_, rfl, a⟩
theorem at2 {Hs I H : Hp} {x y : DV} {vs : List V} (h : AtAll Z Hs I H [x, y] vs) : ∃ v u, vs = [v, u] ∧ At Z Hs I H x v ∧ At Z Hs I H y u := by
  cases h with
  | cons a t =>
    obtain ⟨u, rfl, b⟩ := at1 t
    exact ⟨_, u, rfl, a, b⟩
/-- len -/
def oLen : OC := fun xs Q _ => match xs with
  | [.d (.str z)] => z.length ≤ sizeLine ∧ Q (.d (.int z.length))
  | [.d (.tuple xs)] => Q (.d (.int xs.length))
  | [x] => ∃ xs, lstOf x = some xs ∧ Q (.d (.int xs.length))
  | _ => False
theorem cd_len {K : PySem.W.Frag} (hK : Z.K = K) : CallD Z (fun xs H Q => ∃ x n, xs = [x] ∧ LenV K x H n ∧ Q (.int n) H) oLen := fun I H Hs xs vs Qd Ed Q g' a t k => by
  subst hK
  unfold oLen at t
  split at t
  · obtain ⟨v, rfl, a'⟩ := at1 a
    cases a'
    exact ⟨.str _, _, rfl, show _ ≤ sizeLine ∧ _ = _ from ⟨t.1, rfl⟩, k.now g'.g (.int _) t.2⟩
  · obtain ⟨v, rfl, a'⟩ := at1 a
    obtain ⟨q, us, rfl, h1, h1', h2⟩ := tup_at g'.g a'
    exact ⟨.ref q, us.length, rfl, .inr ⟨us, h1', rfl⟩, k.now g'.g (by rw [h2.len]; exact .int _) t⟩
  · obtain ⟨v, rfl, a'⟩ := at1 a
    obtain ⟨xs, e1, t⟩ := t
    obtain ⟨q, us, rfl, h1, h2, _⟩ := lst_at g'.g a' e1
    exact ⟨.ref q, us.length, rfl, .inl ⟨us, SqL.of h1, rfl⟩, k.now g'.g (by rw [h2.len]; exact .int _) t⟩
  · exact t.elim
/-- list(x) -/
def seqOf : DV → Option (List PyData)
  | .d (.tuple xs) => some xs
  | x => lstOf x
theorem seq_at {Hs I H : Hp} {x : DV} {v : V} {xs : List PyData} (g : Good Z.R I H) (a : At Z Hs I H x v) (h : seqOf x = some xs) : ∃ q us, v = .ref q ∧ (SqL Z.K H q us ∨ SqT Z.K H q us) ∧ DaAll Z.K I us xs ∧ us.length ≤ sizeLine := by
  unfold seqOf at h
  split at h
  · cases h
    obtain ⟨q, us, rfl, h1, h1', h2⟩ := tup_at g a
    exact ⟨q, us, rfl, .inr h1', h2, tup_len g h1⟩
  · obtain ⟨q, us, rfl, h1, h2, h3⟩ := lst_at g a h
    exact ⟨q, us, rfl, .inl (SqL.of h1), h2, h3⟩
def oList : OC := fun xs Q _ => match xs with
  | [x] => ∃ xs, seqOf x = some xs ∧ Q (.new xs)
  | _ => False
theorem cd_list {K : PySem.W.Frag} (hK : Z.K = K) : CallD Z (fun xs H Q => ∃ p ys, xs = [.ref p] ∧ (SqL K H p ys ∨ SqT K H p ys) ∧ ∀ l, H l = none → Q (.ref l) (upd H l (.lst ys))) oList := fun I H Hs xs vs Qd Ed Q g' a t k => by
  subst hK
  unfold oList at t
  split at t
  · obtain ⟨v, rfl, a'⟩ := at1 a
    obtain ⟨xs, e1, t⟩ := t
    obtain ⟨q, us, rfl, h1, h2, h3⟩ := seq_at g'.g a' e1
    exact ⟨q, us, rfl, h1, k.new g'.g g'.old h2 h3 t⟩
  · exact t.elim
def oTuple : OC := fun xs Q _ => match xs with
  | [x] => ∃ xs, seqOf x = some xs ∧ Q (.d (.tuple xs))
  | _ => False
theorem cd_tuple {K : PySem.W.Frag} (hK : Z.K = K) : CallD Z (fun xs H Q => ∃ p ys, xs = [.ref p] ∧ ((SqL K H p ys ∧ ∀ l, H l = none → Q (.ref l) (upd H l (.tup ys))) ∨ (SqT K H p ys ∧ Q (.ref p) H))) oTuple := fun I H Hs xs vs Qd Ed Q g' a t k => by
  subst hK
  unfold oTuple at t
  split at t
  · obtain ⟨v, rfl, a'⟩ := at1 a
    obtain ⟨xs, e1, t⟩ := t
    unfold seqOf at e1
    split at e1
    · cases e1
      obtain ⟨q, us, rfl, h1, h1', h2⟩ := tup_at g'.g a'
      exact ⟨q, us, rfl, .inr ⟨h1', k.now g'.g a' t⟩⟩
    · obtain ⟨q, us, rfl, h1, h2, h3⟩ := lst_at g'.g a' e1
      exact ⟨q, us, rfl, .inl ⟨SqL.of h1, k.tup g'.g h2 h3 t⟩⟩
  · exact t.elim
/-- str(x) -/
def oStr : OC := fun xs Q _ => match xs with
  | [.d (.int i)] => i.natAbs.log2 < 1920 ∧ Q (.d (.str (toString i)))
  | [.d (.str z)] => Q (.d (.str z))
  | _ => False
theorem CallR.or {f : Value} {r r' : List V → Hp → VK → Prop} (h : CallR X f r) (h' : CallR X f r') : CallR X f (fun xs H Q => r xs H Q ∨ r' xs H Q) := fun pins s σ H vs us Q I r1 q => by
  rcases q with q | q
  · exact h pins s σ H vs us Q I r1 q
  · exact h' pins s σ H vs us Q I r1 q
def rStr : List V → Hp → VK → Prop := fun xs H Q => (∃ i, xs = [.int i] ∧ i.natAbs.log2 < 1920 ∧ Q (.str (toString i)) H) ∨ ∃ a, xs = [.str a] ∧ Q (.str a) H
theorem call_strX : CallR X (.type "str") rStr := CallR.or call_str_int SkE.call_str_str
theorem cd_str : CallD Z rStr oStr := fun I H Hs xs vs Qd Ed Q g' a t k => by
  unfold oStr at t
  split at t
  · obtain ⟨v, rfl, a'⟩ := at1 a
    cases a'
    exact .inl ⟨_, rfl, t.1, k.now g'.g (.str _) t.2⟩
  · obtain ⟨v, rfl, a'⟩ := at1 a
    cases a'
    exact .inr ⟨_, rfl, k.now g'.g (.str _) t⟩
  · exact t.elim
/-- int(text) -/
def oIntS : OC := fun xs Q _ => match xs with
  | [.d (.str z)] => ∃ n, PySem.intText? z = some n ∧ z.length ≤ 640 ∧ Q (.d (.int n))
  | _ => False
theorem cd_intS : CallD Z (fun xs H Q => ∃ a n, xs = [.str a] ∧ PySem.intText? a = some n ∧ a.length ≤ 640 ∧ Q (.int n) H) oIntS := fun I H Hs xs vs Qd Ed Q g' a t k => by
  unfold oIntS at t
  split at t
  · obtain ⟨v, rfl, a'⟩ := at1 a
    obtain ⟨n, h1, h2, t⟩ := t
    cases a'
    exact ⟨_, n, rfl, h1, h2, k.now g'.g (.int _) t⟩
  · exact t.elim
/-- all, any of a list of bools -/
def boolsOf : List PyData → Option (List Bool)
  | [] => some []
  | .bool b :: r => (boolsOf r).map (b :: ·)
  | _ :: _ => none
theorem bools_at {K : PySem.W.Frag} {I : Hp} : ∀ {vs : List V} {ds : List PyData} {bs : List Bool}, DaAll K I vs ds → boolsOf ds = some bs → vs = bs.map V.bl
  | _, _, _, .nil, h => by cases h; rfl
  | _, _, _, .cons (d := d) a t, h => by
    cases d with
    | bool b =>
      simp only [boolsOf] at h
      obtain ⟨es, h1, rfl⟩ := Option.map_eq_some_iff.mp h
      cases a
      rw [bools_at t h1]
      rfl
    | _ => cases h
def oBools (f : List Bool → Bool) : OC := fun xs Q _ => match xs with
  | [x] => ∃ xs bs, lstOf x = some xs ∧ boolsOf xs = some bs ∧ Q (.d (.bool (f bs)))
  | _ => False
theorem cd_all {K : PySem.W.Frag} (hK : Z.K = K) : CallD Z (rAll K) (oBools fun bs => bs.all id) := fun I H Hs xs vs Qd Ed Q g' a t k => by
  subst hK
  unfold oBools at t
  split at t
  · obtain ⟨v, rfl, a'⟩ := at1 a
    obtain ⟨xs, bs, e1, e2, t⟩ := t
    obtain ⟨q, us, rfl, h1, h2, h3⟩ := lst_at g'.g a' e1
    have e3 := bools_at h2 e2
    subst e3
    exact ⟨q, bs, rfl, SqL.of h1, k.now g'.g (.bl _) t⟩
  · exact t.elim
theorem cd_any {K : PySem.W.Frag} (hK : Z.K = K) : CallD Z (rAny K) (oBools fun bs => bs.any id) := fun I H Hs xs vs Qd Ed Q g' a t k => by
  subst hK
  unfold oBools at t
  split at t
  · obtain ⟨v, rfl, a'⟩ := at1 a
    obtain ⟨xs, bs, e1, e2, t⟩ := t
    obtain ⟨q, us, rfl, h1, h2, h3⟩ := lst_at g'.g a' e1
    have e3 := bools_at h2 e2
    subst e3
    exact ⟨q, bs, rfl, SqL.of h1, k.now g'.g (.bl _) t⟩
  · exact t.elim
/-- min, max, abs of ints -/
def oInt2 (g : Int → Int → Int) : OC := fun xs Q _ => match xs with
  | [.d (.int i), .d (.int j)] => Q (.d (.int (g i j)))
  | _ => False
theorem cd_int2 {g : Int → Int → Int} : CallD Z (fun xs H Q => ∃ i j, xs = [.int i, .int j] ∧ Q (.int (g i j)) H) (oInt2 g) := fun I H Hs xs vs Qd Ed Q g' a t k => by
  unfold oInt2 at t
  split at t
  · obtain ⟨v, u, rfl, a', b'⟩ := at2 a
    cases a'; cases b'
    exact ⟨_, _, rfl, k.now g'.g (.int _) t⟩
  · exact t.elim
/-! ### isinstance -/
def tyD : PyData → String
  | .none => "NoneType"
  | .bool _ => "bool"
  | .int _ => "int"
  | .str _ => "str"
  | .list _ => "list"
  | .tuple _ => "tuple"
  | .dict _ => "dict"
def isT (a b : String) : Bool := a == b || (a == "bool" && b == "int")
theorem kit_isT {T : String} (hT : T = "str" ∨ T = "int" ∨ T = "bool" ∨ T = "list" ∨ T = "tuple") (d : PyData) : kitB (tyD d) T = some (isT (tyD d) T) := by
  have all : ∀ a ∈ ["NoneType", "bool", "int", "str", "list", "tuple", "dict"], ∀ b ∈ ["str", "int", "bool", "list", "tuple"], kitB a b = some (isT a b) := by decide +kernel
  refine all _ ?_ _ ?_
  · cases d <;> simp [tyD]
  · rcases hT with rfl | rfl | rfl | rfl | rfl <;> simp
theorem ty_at {Hs I H : Hp} {x : DV} {v : V} {d : PyData} (g : Good Z.R I H) (a : At Z Hs I H x v) (h : datOf x = some d) : TyX Z.K H v (.type (tyD d)) := by
  unfold datOf at h
  split at h
  · cases h
    have a := da_mono g.sub _ _ a
    cases a with
    | non => exact .base .non
    | bl b => exact .base (.bl b)
    | int i => exact .base (.int i)
    | str x => exact .base (.str x)
    | lst h1 _ => exact .base (.lst h1)
    | tup h1 _ =>
      rcases h1 with (h1 | ⟨o, h1⟩) | ⟨o, its, n, h1, h2, _⟩
      · exact .base (.tup h1)
      · exact .fTuple h1
      · exact .kTuple h1 h2
    | dct h1 => exact .base (.dK h1)
  · cases h
    obtain ⟨⟨q, us, rfl, h1, _⟩, _⟩ := a
    exact .base (.lst h1)
  · cases h
    obtain ⟨⟨q, us, rfl, h1, _⟩, _⟩ := a
    exact .base (.lst h1)
  · cases h
def tyOk (T : String) : Prop := T = "str" ∨ T = "int" ∨ T = "bool" ∨ T = "list" ∨ T = "tuple"
def oIsi : OC := fun xs Q _ => match xs with
  | [x, .v (.ty T)] => ∃ d, datOf x = some d ∧ tyOk T ∧ Q (.d (.bool (isT (tyD d) T)))
  | _ => False
theorem cd_isi {K : PySem.W.Frag} (hK : Z.K = K) : CallD Z (rIsi K) oIsi := fun I H Hs xs vs Qd Ed Q g' a t k => by
  subst hK
  unfold oIsi at t
  split at t
  · obtain ⟨v, u, rfl, a', b'⟩ := at2 a
    obtain ⟨d, e1, hT, t⟩ := t
    have e : u = _ := b'
    subst e
    exact ⟨v, _, _, _, _, rfl, .ty _, ty_at g'.g a' e1, kit_ty (kit_isT hT d), k.now g'.g (.bl _) t⟩
  · exact t.elim
/-- isinstance(x, (T, U)) -/
def dIsi2 (T U : String) (t : TD) : TD := fun δ Q E => t δ (fun x => ∃ d, datOf x = some d ∧ tyOk T ∧ tyOk U ∧ Q (.d (.bool (isT (tyD d) T || isT (tyD d) U)))) E
theorem de_isi2' {a : Expr} {te : TE} {t : TD} {n1 n2 : Str} {T U : String} {p1 p2 p3 : Pos} {kk} (h : DE X Z a te t) (hK : Z.K = X.K) (hg : Gl X "isinstance") (hm : X.mg "isinstance" = none)
    (h1 : PE X (.Name n1 p1) (tC (.ty T))) (h2 : PE X (.Name n2 p2) (tC (.ty U)))
    (he : starEach [a, .Tuple [.Name n1 p1, .Name n2 p2] kk p3] X.env = (false, eval a X.env) :: starEach [.Tuple [.Name n1 p1, .Name n2 p2] kk p3] X.env := by rfl) (hpl : (backTo pos (starEach [.Tuple [.Name n1 p1, .Name n2 p2] kk p3] X.env)).any (·.1) = false := by rfl)
    (hs1 : starEach [.Tuple [.Name n1 p1, .Name n2 p2] kk p3] X.env = (false, eval (.Tuple [.Name n1 p1, .Name n2 p2] kk p3) X.env) :: starEach [] X.env := by rfl)
    (hs2 : starEach [.Name n1 p1, .Name n2 p2] X.env = (false, eval (.Name n1 p1) X.env) :: starEach [.Name n2 p2] X.env := by rfl) (hs3 : starEach [.Name n2 p2] X.env = (false, eval (.Name n2 p2) X.env) :: starEach [] X.env := by rfl) :
    DE X Z (.Call (.Name "isinstance" p) [a, .Tuple [.Name n1 p1, .Name n2 p2] kk p3] [] pos) (tCB (rIsiT X.K) (tCons te (tCons (tTup (tCons (tC (.ty T)) (tCons (tC (.ty U)) tNil))) tNil))) (dIsi2 T U t) := by
  refine ⟨pe_callB call_isiT hg hm (by decide +kernel) (pa_cons h.pe (pa_cons (pe_tup (pa_cons h1 (pa_cons h2 pa_nil hs3) hs2)) pa_nil hs1) he) (by decide) (by decide) he hpl, fun I H δ σ Qd Ed Q hh t0 k => ?_⟩
  refine h.rf I H δ σ _ Ed _ hh t0 fun x v I1 H1 e1 a1 q1 => ?_
  obtain ⟨d, e2, hT, hU, q⟩ := q1
  have h1' := hh.ext e1
  show 2 ≤ sizeLine ∧ _
  refine ⟨by decide, fun q0 hq => ?_⟩
  have ex := ext_own (o := .tup [V.ty T, V.ty U]) h1'.g hq
  refine ⟨v, q0, [V.ty T, V.ty U], .type (tyD d), [.type T, .type U], isT (tyD d) T || isT (tyD d) U, rfl, upd_same, .cons (.ty _) (.cons (.ty _) .nil), ?_, ?_, (k.ext hh.g e1).ext h1'.g ex |>.now ex.good (.bl _) q⟩
  · rw [← hK]
    exact ty_at ex.good (a1.ext ex) e2
  · refine kitAny_cons (kit_ty (kit_isT hT d)) (fun e => ?_) fun e => by rw [e]; rfl
    rw [e, Bool.false_or]
    refine kitAny_cons (kit_ty (kit_isT hU d)) (fun e => ?_) fun e => by rw [e]
    rw [e]
    exact kitAny_nil
theorem de_isi2 {a : Expr} {te : TE} {t : TD} {n1 n2 : Str} {T U : String} {p1 p2 p3 : Pos} {kk} (h : DE X Z a te t) (hK : Z.K = X.K) (hg : Gl X "isinstance") (hm : X.mg "isinstance" = none)
    (h1 : PE X (.Name n1 p1) (tC (.ty T))) (h2 : PE X (.Name n2 p2) (tC (.ty U)))
    (he : starEach [a, .Tuple [.Name n1 p1, .Name n2 p2] kk p3] X.env = (false, eval a X.env) :: starEach [.Tuple [.Name n1 p1, .Name n2 p2] kk p3] X.env := by rfl) (hpl : (backTo pos (starEach [.Tuple [.Name n1 p1, .Name n2 p2] kk p3] X.env)).any (·.1) = false := by rfl)
    (hs1 : starEach [.Tuple [.Name n1 p1, .Name n2 p2] kk p3] X.env = (false, eval (.Tuple [.Name n1 p1, .Name n2 p2] kk p3) X.env) :: starEach [] X.env := by rfl)
    (hs2 : starEach [.Name n1 p1, .Name n2 p2] X.env = (false, eval (.Name n1 p1) X.env) :: starEach [.Name n2 p2] X.env := by rfl) (hs3 : starEach [.Name n2 p2] X.env = (false, eval (.Name n2 p2) X.env) :: starEach [] X.env := by rfl) :
    DE X Z (.Call (.Name "isinstance" p) [a, .Tuple [.Name n1 p1, .Name n2 p2] kk p3] [] pos) (tCB (rIsiT Z.K) (tCons te (tCons (tTup (tCons (tC (.ty T)) (tCons (tC (.ty U)) tNil))) tNil))) (dIsi2 T U t) := by rw [hK]; exact de_isi2' h hK hg hm h1 h2 he hpl hs1 hs2 hs3
/-! ### methods of texts, lists -/
def tMx (T : String) : DV → Prop := fun x => match x with
  | .d (.str _) => T = "str"
  | x => T = "list" ∧ ∃ xs, lstOf x = some xs
def MtD (Z : Zx) (r : V → List V → Hp → VK → Prop) (o : DV → OC) : Prop := ∀ I H Hs x v xs vs Qd Ed Q, At2 Z I H → At Z Hs I H x v → AtAll Z Hs I H xs vs → o x xs Qd Ed → Then Z I H Qd Q → r v vs H Q
def dMeth (T : String) (o : DV → OC) (t : TD) (a : TDA) : TD := fun δ Q E => t δ (fun x => tMx T x ∧ a δ (fun xs => o x xs Q E) E) E
theorem tMx_at {Hs I H : Hp} {x : DV} {v : V} {T : String} (g : Good Z.R I H) (a : At Z Hs I H x v) (h : tMx T x) : tyV Z.K T v H := by
  unfold tMx at h
  split at h
  · cases a; exact h
  · obtain ⟨h1, xs, h2⟩ := h
    obtain ⟨q, us, rfl, h3, _⟩ := lst_at g a h2
    exact .inl ⟨h1, us, SqL.of h3⟩
theorem de_meth' {o : Expr} {to : TE} {t : TD} {name : Str} {T : String} {r : V → List V → Hp → VK → Prop} {od : DV → OC} (hd : MtD Z r od) (ho : DE X Z o to t) (ha : DA X Z (e :: es) ta da) (hK : Z.K = X.K)
    (h : PE X o to → PA X (e :: es) ta → PE X (.Call (.Attribute o name apos) (e :: es) [] pos) (tBM X.K T r to ta)) : DE X Z (.Call (.Attribute o name apos) (e :: es) [] pos) (tBM X.K T r to ta) (dMeth T od t da) := by
  refine ⟨h ho.pe ha.pa, fun I H δ σ Qd Ed Q hh t0 k => ho.rf I H δ σ _ Ed _ hh t0 fun x v I1 H1 e1 a1 q1 => ?_⟩
  have h1 := hh.ext e1
  refine ⟨by rw [← hK]; exact tMx_at h1.g a1 q1.1, ha.rf I1 H1 δ σ _ Ed _ h1 q1.2 fun xs vs I2 H2 e2 a2 q2 => ?_⟩
  have h2 := h1.ext e2
  exact hd I2 H2 H x v xs vs Qd Ed Q ⟨h2.g, h2.old⟩ (a1.ext e2) (a2.since fun _ z => e1.none hh.g z) q2 ((k.ext hh.g e1).ext h1.g e2)
theorem de_meth {o : Expr} {to : TE} {t : TD} {name : Str} {T : String} {r : V → List V → Hp → VK → Prop} {od : DV → OC} (hd : MtD Z r od) (ho : DE X Z o to t) (ha : DA X Z (e :: es) ta da) (hK : Z.K = X.K)
    (h : PE X o to → PA X (e :: es) ta → PE X (.Call (.Attribute o name apos) (e :: es) [] pos) (tBM X.K T r to ta)) : DE X Z (.Call (.Attribute o name apos) (e :: es) [] pos) (tBM Z.K T r to ta) (dMeth T od t da) := by rw [hK]; exact de_meth' hd ho ha hK h
/-- sep.join(list) -/
def strsOf : List PyData → Option (List Str)
  | [] => some []
  | .str b :: r => (strsOf r).map (b :: ·)
  | _ :: _ => none
theorem strs_at {K : PySem.W.Frag} {I : Hp} : ∀ {vs : List V} {ds : List PyData} {bs : List Str}, DaAll K I vs ds → strsOf ds = some bs → vs = bs.map V.str
  | _, _, _, .nil, h => by cases h; rfl
  | _, _, _, .cons (d := d) a t, h => by
    cases d with
    | str b =>
      simp only [strsOf] at h
      obtain ⟨es, h1, rfl⟩ := Option.map_eq_some_iff.mp h
      cases a
      rw [strs_at t h1]
      rfl
    | _ => cases h
def oJoin : DV → OC := fun x xs Q _ => match x, xs with
  | .d (.str a), [y] => ∃ ds ys, seqOf y = some ds ∧ strsOf ds = some ys ∧ (ys.map (·.length)).sum + ys.length * a.length ≤ 16777216 ∧ Q (.d (.str (Txt.join a ys)))
  | _, _ => False
theorem md_join {K : PySem.W.Frag} (hK : Z.K = K) : MtD Z (fun x xs H Q => ∃ a p, ∃ ys : List Str, x = .str a ∧ xs = [.ref p] ∧ (SqL K H p (ys.map V.str) ∨ SqT K H p (ys.map V.str)) ∧ (ys.map (·.length)).sum + ys.length * a.length ≤ 16777216 ∧ Q (.str (Txt.join a ys)) H) oJoin := fun I H Hs x v xs vs Qd Ed Q g' a b t k => by
  subst hK
  unfold oJoin at t
  split at t
  · cases a
    obtain ⟨u, rfl, b'⟩ := at1 b
    obtain ⟨ds, ys, e1, e2, hz, t⟩ := t
    obtain ⟨q, us, rfl, h1, h2, _⟩ := seq_at g'.g b' e1
    have e3 := strs_at h2 e2
    subst e3
    exact ⟨_, q, ys, rfl, rfl, h1, hz, k.now g'.g (.str _) t⟩
  · exact t.elim
/-- text.split(sep) -/
def oSplit : DV → OC := fun x xs Q _ => match x, xs with
  | .d (.str a), [.d (.str b)] => (b.length == 0) = false ∧ a.length + 2 ≤ sizeLine ∧ (Txt.split a b).length ≤ sizeLine ∧ Q (.new ((Txt.split a b).map .str))
  | _, _ => False
theorem md_split : MtD Z (fun x xs H Q => ∃ a b, x = .str a ∧ xs = [.str b] ∧ (b.length == 0) = false ∧ a.length + 2 ≤ sizeLine ∧ rNewStrs (Txt.split a b) H Q) oSplit := fun I H Hs x v xs vs Qd Ed Q g' a b t k => by
  unfold oSplit at t
  split at t
  · cases a
    obtain ⟨u, rfl, b'⟩ := at1 b
    cases b'
    obtain ⟨h1, h2, h3, t⟩ := t
    exact ⟨_, _, rfl, rfl, h1, h2, k.new g'.g g'.old (DaAll.strs _) (by rw [List.length_map]; exact h3) t⟩
  · exact t.elim
def oStarts : DV → OC := fun x xs Q _ => match x, xs with
  | .d (.str a), [.d (.str b)] => Q (.d (.bool (Txt.startswith a b)))
  | _, _ => False
theorem md_starts : MtD Z (fun x xs H Q => ∃ a b, x = .str a ∧ xs = [.str b] ∧ Q (.bl (Txt.startswith a b)) H) oStarts := fun I H Hs x v xs vs Qd Ed Q g' a b t k => by
  unfold oStarts at t
  split at t
  · cases a
    obtain ⟨u, rfl, b'⟩ := at1 b
    cases b'
    exact ⟨_, _, rfl, rfl, k.now g'.g (.bl _) t⟩
  · exact t.elim
/-- l.index(x), where it stands -/
def oIndex : DV → OC := fun x xs Q _ => match xs with
  | [y] => ∃ ds d j z, datOf x = some (.list ds) ∧ datOf y = some d ∧ SeqAt.shaped (.list ds) = true ∧ SeqAt.shaped d = true ∧ ds[j]? = some z ∧ PyData.eqv z d = true ∧ (∀ (m : Nat) (z' : PyData), m < j → ds[m]? = some z' → PyData.eqv z' d = false) ∧ Q (.d (.int (j : Nat)))
  | _ => False
theorem md_index {K : PySem.W.Frag} (hK : Z.K = K) : MtD Z (rIndexD K) oIndex := fun I H Hs x v xs vs Qd Ed Q g' a b t k => by
  subst hK
  unfold oIndex at t
  split at t
  · obtain ⟨u, rfl, b'⟩ := at1 b
    obtain ⟨ds, d, j, z, e1, e2, s1, s2, h1, h2, h3, t⟩ := t
    have q := dat_at g'.g a e1 (SeqAt.canLay_of_shaped s1)
    have q' := dat_at g'.g b' e2 (SeqAt.canLay_of_shaped s2)
    cases q with
    | lst p1 p2 => exact ⟨_, u, d, ds, j, z, rfl, rfl, .lst p1 p2, q', s1, s2, h1, h2, h3, k.now g'.g (.int _) t⟩
  · exact t.elim
/-! ### defs of the text -/
/-- what a def does: the hidden region, the arguments, what follows, what is wanted of exceptions -/
abbrev Spd := Reg → List DV → DK → EK → Prop
def ArgAt (K : PySem.W.Frag) (R : Reg) (I H : Hp) (x : DV) (v : V) : Prop := match x with
  | .d x => Da K I v x
  | .bor f xs => f = false ∧ Own K R I H v xs
  | .v u => v = u
  | _ => False
inductive ArgAll (K : PySem.W.Frag) (R : Reg) (I H : Hp) : List DV → List V → Prop
  | nil : ArgAll K R I H [] []
  | cons {x : DV} {v : V} {xs : List DV} {vs : List V} : ArgAt K R I H x v → ArgAll K R I H xs vs → ArgAll K R I H (x :: xs) (v :: vs)
theorem ArgAll.len {K : PySem.W.Frag} {R : Reg} {I H : Hp} : ∀ {xs : List DV} {vs : List V}, ArgAll K R I H xs vs → xs.length = vs.length
  | _, _, .nil => rfl
  | _, _, .cons _ t => by rw [List.length_cons, List.length_cons, ArgAll.len t]
def lift (K : PySem.W.Frag) (S : Spd) (n : Nat) : Sp := fun vs H Q E => vs.length = n ∧ ∃ (R : Reg) (I : Hp) (xs : List DV) (Qd : DK) (Ed : EK), Good R I H ∧ ArgAll K R I H xs vs ∧ S R xs Qd Ed ∧
  (∀ x v I' H', Ext R I H I' H' → RetAt K I' x v → Qd x → Q v H') ∧ ∀ x c od I' H', Ext R I H I' H' → ExAt K I' H' x c od → Ed x → E c od H'
def unbor : DV → DV
  | .bor _ xs => .bor false xs
  | x => x
theorem arg_at {Hs I H : Hp} {xs : List DV} {vs : List V} (h : ∀ x ∈ xs, ∀ ys, x ≠ .new ys) (a : AtAll Z Hs I H xs vs) : ArgAll Z.K Z.R I H (xs.map unbor) vs := by
  induction a with
  | nil => exact .nil
  | @cons y v ys vs a t ih =>
    refine .cons ?_ (ih fun z hz => h z (List.mem_cons_of_mem _ hz))
    cases y with
    | d x => exact a
    | bor f xs => exact ⟨rfl, a.1⟩
    | new xs => exact absurd rfl (h _ List.mem_cons_self xs)
    | own xs => exact a.elim
    | v u => exact a
def dFn (R : Reg) (S : Spd) (n : Nat) (a : TDA) : TD := fun δ Q E => a δ (fun xs => xs.length = n ∧ (∀ x ∈ xs, ∀ ys, x ≠ .new ys) ∧ S R (xs.map unbor) Q E) E
theorem ret_at {Hs I H : Hp} {x : DV} {v : V} (h : RetAt Z.K I x v) : At Z Hs I H x v := by
  cases x with
  | d x => exact h
  | v u => exact h
  | _ => exact h.elim
theorem fn_here {S : Spd} {n : Nat} {I H : Hp} {δ : DEnv} {σ : St} {xs : List DV} {vs : List V} {Qd : DK} {Ed : EK} {Q : VK} {Hs : Hp} (hh : Here Z I H δ σ Ed) (hl : xs.length = n) (a : AtAll Z Hs I H xs vs) (hx : ∀ x ∈ xs, ∀ ys, x ≠ .new ys) (q : S Z.R (xs.map unbor) Qd Ed) (k : Then Z I H Qd Q) : lift Z.K S n vs H Q (WE Z.W σ) :=
  ⟨a.len.symm.trans hl, Z.R, I, _, Qd, Ed, hh.g, arg_at hx a, q, fun x v I' H' e r qx => k x v I' H' e (ret_at r) qx, fun x c od I' H' e xa q => hh.w x c od I' H' (hh.e0.trans hh.g0 e) xa q⟩
theorem de_fn0 {ex : Expr} {K : PySem.W.Frag} {W : WX} {S : Spd} {n : Nat} (hK : Z.K = K) (hW : Z.W = W) (ha : DA X Z es ta da) (h : PE X ex (tCallS (lift K S n) (WE W) ta)) : DE X Z ex (tCallS (lift K S n) (WE W) ta) (dFn Z.R S n da) := by
  subst hK hW
  refine ⟨h, fun I H δ σ Qd Ed Q hh t k => ha.rf I H δ σ _ Ed _ hh t fun xs vs I1 H1 e1 a1 q1 => ?_⟩
  exact fn_here (hh.ext e1) q1.1 a1 q1.2.1 q1.2.2 (k.ext hh.g e1)
theorem de_fn' {S : Spd} {n k : Nat} {f : Addr} {fd : FuncData} {ps : List Str} (F : FnOk X.prog X.w X.K X.mg X.base (L2.CX X.prog X.w) k f fd ps (lift X.K S n)) (hr : Room k X.A) (hg : Gl X x) (hm : X.mg x = some (.ref f)) (hk : PySem.W.keepIn X.K (.ref f) = true) (hb : Binds X.K fd ps []) (tk : Takes X Z.W)
    (hK : Z.K = X.K) (ha : DA X Z (e :: es) ta da) (hd : (x == ("__debug__" : Str)) = false := by decide) (he : starEach (e :: es) X.env = (false, eval e X.env) :: starEach es X.env := by rfl) (hpl : (backTo pos (starEach es X.env)).any (·.1) = false := by rfl) :
    DE X Z (.Call (.Name x p) (e :: es) [] pos) (tCallS (lift X.K S n) (WE Z.W) ta) (dFn Z.R S n da) :=
  de_fn0 hK rfl ha (pe_callS F hr hg hm hk hb (fun σ => passAt tk σ) ha.pa hd he hpl)
theorem de_fn {S : Spd} {n k : Nat} {f : Addr} {fd : FuncData} {ps : List Str} (F : FnOk X.prog X.w X.K X.mg X.base (L2.CX X.prog X.w) k f fd ps (lift X.K S n)) (hr : Room k X.A) (hg : Gl X x) (hm : X.mg x = some (.ref f)) (hk : PySem.W.keepIn X.K (.ref f) = true) (hb : Binds X.K fd ps []) (tk : Takes X Z.W)
    (hK : Z.K = X.K) (ha : DA X Z (e :: es) ta da) (hd : (x == ("__debug__" : Str)) = false := by decide) (he : starEach (e :: es) X.env = (false, eval e X.env) :: starEach es X.env := by rfl) (hpl : (backTo pos (starEach es X.env)).any (·.1) = false := by rfl) :
    DE X Z (.Call (.Name x p) (e :: es) [] pos) (tCallS (lift Z.K S n) (WE Z.W) ta) (dFn Z.R S n da) := by rw [hK]; exact de_fn' F hr hg hm hk hb tk hK ha hd he hpl
end
end PD
set_option Elab.async false
set_option linter.all false
set_option maxRecDepth 100000
set_option maxHeartbeats 1000000
namespace PD
open PySem PySem.Spec PyProof.Rows L2
section
variable {X : Cx} {Z : Zx} {pos : Pos} {e : Expr} {st : Stmt} {rest : List Stmt} {ts us : TS} {t u : TDS} {te : TE} {d : TD}
/-- what is wanted of exceptions hangs on no slot -/
def Flat (Z : Zx) : Prop := ∀ c od σ σ' H, Z.W c od σ H → Z.W c od σ' H
theorem Here.at_ {I H I' H' : Hp} {δ δ' : DEnv} {σ σ' : St} {Ed : EK} (h : Here Z I H δ σ Ed) (fl : Flat Z) (e : Ext Z.R Z.I0 Z.H0 I' H') (v : EnvAt Z I' H' δ' σ') : Here Z I' H' δ' σ' Ed :=
  ⟨h.g0, e, v, fun x c od I2 H2 e2 xa q => fl _ _ _ _ _ (h.w x c od I2 H2 e2 xa q)⟩
/-! ### blocks -/
def dNext : TDS := fun D _ δ => D.nx δ
def dSeq (t u : TDS) : TDS := fun D E δ => t { D with nx := u D E } E δ
theorem dss_nil : DSs X Z [] tNext dNext := ⟨pss_nil, fun I H δ σ D Ed T hh t l => l.nx δ σ I H hh.e0 (Same.refl _) hh.env t⟩
theorem dss_one (h : DS X Z st ts t) : DSs X Z [st] ts t := ⟨pss_one h.ps, h.rf⟩
theorem dss_cons (fl : Flat Z) (h : DS X Z st ts t) (h' : DSs X Z rest us u) : DSs X Z (st :: rest) (tSeq ts us) (dSeq t u) :=
  ⟨pss_cons h.ps h'.ps, fun I H δ σ D Ed T hh q l => h.rf I H δ σ { D with nx := u D Ed } Ed { T with nx := us T } hh q
    ⟨fun δ' σ' I' H' e s v q => h'.rf I' H' δ' σ' D Ed T (hh.at_ fl e v) q (l.ext s), l.rt, l.bk, l.ct⟩⟩
theorem ds_pass : DS X Z (.Pass pos) tNext dNext := ⟨ps_pass, fun I H δ σ D Ed T hh t l => l.nx δ σ I H hh.e0 (Same.refl _) hh.env t⟩
def dBrk : TDS := fun D _ δ => D.bk δ
def dCnt : TDS := fun D _ δ => D.ct δ
theorem ds_break : DS X Z (.Break pos) tBreak dBrk := ⟨ps_break, fun I H δ σ D Ed T hh t l => l.bk δ σ I H hh.e0 (Same.refl _) hh.env t⟩
theorem ds_continue : DS X Z (.Continue pos) tCont dCnt := ⟨ps_continue, fun I H δ σ D Ed T hh t l => l.ct δ σ I H hh.e0 (Same.refl _) hh.env t⟩
def dDrop (d : TD) : TDS := fun D E δ => d δ (fun _ => D.nx δ) E
theorem ds_expr (h : DE X Z e te d) (hs : swapsWith e none pos.line X.env = pure false := by rfl) : DS X Z (.Expr e pos) (tDrop te) (dDrop d) :=
  ⟨ps_expr h.pe hs, fun I H δ σ D Ed T hh t l => h.rf I H δ σ _ Ed _ hh t fun x v I' H' e _ q => l.nx δ σ I' H' (hh.e0.trans hh.g0 e) e.sub (hh.env.ext e) q⟩
/-! ### return -/
def retK (Q : DK) : DK := fun x => match frozA x with
  | .d y => Q (.d y)
  | .v u => Q (.v u)
  | _ => False
theorem ret_frz {I H I' H' : Hp} {δ : DEnv} {σ : St} {Ed : EK} {x : DV} {v : V} {Q : DK} {K : VK} (hh : Here Z I H δ σ Ed) (e : Ext Z.R I H I' H') (a : At Z H I' H' x v) (q : retK Q x)
    (k : ∀ y I2, Ext Z.R Z.I0 Z.H0 I2 H' → RetAt Z.K I2 y v → Q y → K v H') : K v H' := by
  have e0 := hh.e0.trans hh.g0 e
  cases x with
  | d y => exact k (.d y) I' e0 a q
  | v u => exact k (.v u) I' e0 a q
  | own xs => exact a.elim
  | new xs =>
    obtain ⟨⟨p, vs, rfl, h1, h2, h3, h4, h5⟩, h6⟩ := a
    exact k (.d (.list xs)) _ (ext_frz e0 h1 (h6 p rfl).2 h4 h3 h5) (.lst upd_same (daa_mono (upd_sub h3) _ _ h2)) q
  | bor f xs =>
    cases f with
    | false => exact q.elim
    | true =>
      obtain ⟨⟨p, vs, rfl, h1, h2, h3, h4, h5⟩, h6⟩ := a
      exact k (.d (.list xs)) _ (ext_frz e0 h1 (h6 rfl p rfl) h4 h3 h5) (.lst upd_same (daa_mono (upd_sub h3) _ _ h2)) q
def dRet (d : TD) : TDS := fun D E δ => d δ (retK D.rt) E
theorem ds_ret (h : DE X Z e te d) : DS X Z (.Return (some e) pos) (tRet te) (dRet d) :=
  ⟨ps_ret h.pe, fun I H δ σ D Ed T hh t l => h.rf I H δ σ _ Ed _ hh t fun x v I' H' e a q => ret_frz hh e a q fun y I2 e2 r q => l.rt y v I2 H' e2 r q⟩
def dRetN : TDS := fun D _ _ => D.rt (.d .none)
theorem ds_retN : DS X Z (.Return none pos) tRetN dRetN := ⟨ps_retN, fun I H δ σ D Ed T hh t l => l.rt (.d .none) .non I H hh.e0 Da.non t⟩
/-! ### if -/
def dIfS (c : TDT) (t u : TDS) : TDS := fun D E δ => c δ (fun b => if b = true then t D E δ else u D E δ) E
theorem ds_if {c : Expr} {a b : List Stmt} {tc : TT} {dc : TDT} (hc : DT X Z c tc dc) (ha : DSs X Z a ts t) (hb : DSs X Z b us u) : DS X Z (.If c a b pos) (tIfS tc ts us) (dIfS dc t u) := by
  refine ⟨ps_if hc.pt ha.ps hb.ps, fun I H δ σ D Ed T hh q l => hc.rf I H δ σ _ Ed _ hh q fun z I1 H1 e1 q1 => ?_⟩
  cases z with
  | true => exact ha.rf I1 H1 δ σ D Ed T (hh.ext e1) q1 (l.ext e1.sub)
  | false => exact hb.rf I1 H1 δ σ D Ed T (hh.ext e1) q1 (l.ext e1.sub)
/-! ### stores -/
abbrev TDG := DV → DEnv → (DEnv → Prop) → Prop
structure DG (X : Cx) (Z : Zx) (target : Expr) (g : TG) (d : TDG) : Prop where
  pg : PG X target g
  rf : ∀ I H δ σ x v Qd Q Hs, Good Z.R I H → EnvAt Z I H δ σ → At Z Hs I H x v → d x δ Qd → (∀ δ' σ' I' H', Ext Z.R I H I' H' → EnvAt Z I' H' δ' σ' → Qd δ' → Q σ' H') → g v σ H Q
def dName (i : Nat) : TDG := fun x δ Q => match x with
  | .d y => Q (δ.set i (some (.d y)))
  | .v u => Q (δ.set i (some (.v u)))
  | _ => False
theorem dg_name {i : Nat} {x : Str} (hN : X.N.Nodup) (hi : X.N[i]? = some x) (hx : Loc X.env.scope x) (hf : X.fn x = true ∨ X.env.scope.names.lookup x = some .local := by first | exact .inl rfl | exact .inr rfl | assumption) : DG X Z (.Name x pos) (gName i) (dName i) := by
  refine ⟨pg_name hN hi hx hf, fun I H δ σ x v Qd Q Hs g env a q k => ?_⟩
  unfold dName at q
  split at q
  · exact k _ _ I H (Ext.refl g) (env.set i (x := .d _) a (fun xs e => nomatch e)) q
  · exact k _ _ I H (Ext.refl g) (env.set i (x := .v _) a (fun xs e => nomatch e)) q
  · exact q.elim
abbrev TDGs := List PyData → DEnv → (DEnv → Prop) → Prop
structure DGs (X : Cx) (Z : Zx) (ts : List Expr) (g : TGs) (d : TDGs) : Prop where
  pg : PGs X ts g
  rf : ∀ I H δ σ ds vs Qd Q, Good Z.R I H → EnvAt Z I H δ σ → DaAll Z.K I vs ds → d ds δ Qd → (∀ δ' σ' I' H', Ext Z.R I H I' H' → EnvAt Z I' H' δ' σ' → Qd δ' → Q σ' H') → g vs σ H Q
def dGNil : TDGs := fun ds δ Q => ds = [] ∧ Q δ
def dGCons (a : TDG) (r : TDGs) : TDGs := fun ds δ Q => match ds with
  | [] => False
  | d :: ds => a (.d d) δ (fun δ' => r ds δ' Q)
theorem dgs_nil : DGs X Z [] gNil dGNil := ⟨pgs_nil, fun I H δ σ ds vs Qd Q g env a q k => by
  obtain ⟨rfl, q⟩ := q
  cases a
  exact ⟨rfl, k δ σ I H (Ext.refl g) env q⟩⟩
theorem dgs_cons {es : List Expr} {g : TG} {gs : TGs} {a : TDG} {r : TDGs} (h : DG X Z e g a) (h' : DGs X Z es gs r) (hs : (assignEach (e :: es) X.env).map (·.2) = assign e X.env :: (assignEach es X.env).map (·.2) := by rfl) : DGs X Z (e :: es) (gCons g gs) (dGCons a r) := by
  refine ⟨pgs_cons h.pg h'.pg hs, fun I H δ σ ds vs Qd Q gg env ad q k => ?_⟩
  cases ad with
  | nil => exact q.elim
  | cons a1 at1 => exact ⟨_, _, rfl, h.rf I H δ σ _ _ _ _ H gg env (show At Z H I H (.d _) _ from a1) q fun δ' σ' I' H' ex env' q' => h'.rf I' H' δ' σ' _ _ _ _ ex.good env' (daa_mono ex.sub _ _ at1) q' fun δ2 σ2 I2 H2 ex2 => k δ2 σ2 I2 H2 (ex.trans gg ex2)⟩
/-- a tuple of so many -/
def dGTup (n : Nat) (r : TDGs) : TDG := fun x δ Q => match x with
  | .d (.tuple ds) => ds.length = n ∧ r ds δ Q
  | _ => False
theorem dg_tup' {es : List Expr} {k : Nat} {g : TGs} {r : TDGs} {n : Nat} (hc : X.calm = true) (h : DGs X Z es g r) (hK : Z.K = X.K) (hn : (assignEach es X.env).length = n := by rfl) (hst : (assignEach es X.env).findIdx? (·.1) = none := by rfl) : DG X Z (.Tuple es k pos) (gTup X.K n g) (dGTup n r) := by
  refine ⟨pg_tup hc h.pg hn hst, fun I H δ σ x v Qd Q Hs g env a q k => ?_⟩
  unfold dGTup at q
  split at q
  · obtain ⟨p, vs, rfl, h1, h1', h2⟩ := tup_at g a
    exact ⟨p, vs, rfl, by rw [← hK]; exact h1', h2.len.trans q.1, h.rf I H δ σ _ vs _ _ g env h2 q.2 k⟩
  · exact q.elim
theorem dg_tup {es : List Expr} {k : Nat} {g : TGs} {r : TDGs} {n : Nat} (hc : X.calm = true) (h : DGs X Z es g r) (hK : Z.K = X.K) (hn : (assignEach es X.env).length = n := by rfl) (hst : (assignEach es X.env).findIdx? (·.1) = none := by rfl) : DG X Z (.Tuple es k pos) (gTup Z.K n g) (dGTup n r) := by rw [hK]; exact dg_tup' hc h hK hn hst
/-- a list of so many -/
def dGLst (n : Nat) (r : TDGs) : TDG := fun x δ Q => match lstOf x with
  | some ds => ds.length = n ∧ r ds δ Q
  | none => False
theorem dg_lst' {es : List Expr} {k : Nat} {g : TGs} {r : TDGs} {n : Nat} (hc : X.calm = true) (h : DGs X Z es g r) (hK : Z.K = X.K) (hn : (assignEach es X.env).length = n := by rfl) (hst : (assignEach es X.env).findIdx? (·.1) = none := by rfl) : DG X Z (.Tuple es k pos) (gLst X.K n g) (dGLst n r) := by
  refine ⟨pg_lst hc h.pg hn hst, fun I H δ σ x v Qd Q Hs g env a q k => ?_⟩
  unfold dGLst at q
  split at q
  · rename_i ds e
    obtain ⟨p, vs, rfl, h1, h2, _⟩ := lst_at g a e
    exact ⟨p, vs, rfl, SqL.of h1, h2.len.trans q.1, h.rf I H δ σ _ vs _ _ g env h2 q.2 k⟩
  · exact q.elim
theorem dg_lst {es : List Expr} {k : Nat} {g : TGs} {r : TDGs} {n : Nat} (hc : X.calm = true) (h : DGs X Z es g r) (hK : Z.K = X.K) (hn : (assignEach es X.env).length = n := by rfl) (hst : (assignEach es X.env).findIdx? (·.1) = none := by rfl) : DG X Z (.Tuple es k pos) (gLst Z.K n g) (dGLst n r) := by rw [hK]; exact dg_lst' hc h hK hn hst
def dAsg (d : TD) (g : TDG) : TDS := fun D E δ => d δ (fun x => g (froz x) δ D.nx) E
theorem asg_rf {ta : TE} {g : TG} {dg : TDG} (h : ∀ I H δ σ Qd Ed Q, Here Z I H δ σ Ed → d δ Qd Ed → Then Z I H Qd Q → ta σ H Q) (hg : ∀ I H δ σ x v Qd Q Hs, Good Z.R I H → EnvAt Z I H δ σ → At Z Hs I H x v → dg x δ Qd → (∀ δ' σ' I' H', Ext Z.R I H I' H' → EnvAt Z I' H' δ' σ' → Qd δ' → Q σ' H') → g v σ H Q) :
    ∀ I H δ σ D Ed T, Here Z I H δ σ Ed → dAsg d dg D Ed δ → Link Z I D T → tAsg ta g T σ H := fun I H δ σ D Ed T hh q l => by
  refine h I H δ σ _ Ed _ hh q (Then.frz (Qd := fun x => dg x δ D.nx) fun x v I' H' e a q => ?_)
  exact hg I' H' δ σ x v _ _ _ e.good (hh.env.ext e) a q fun δ' σ' I2 H2 ex env' q' => l.nx δ' σ' I2 H2 ((hh.e0.trans hh.g0 e).trans hh.g0 ex) (e.sub.trans ex.sub) env' q'
theorem ds_asg {tg : Expr} {g : TG} {dg : TDG} (h : DE X Z e te d) (hg : DG X Z tg g dg) (hs : swapsWithSole [tg] e pos.line X.env = pure false := by rfl) (hw : swappedStores [tg] e X.env = pure none := by rfl)
    (h1 : (assignEach [tg] X.env).map (·.2) = [assign tg X.env] := by rfl) : DS X Z (.Assign [tg] e pos) (tAsg te g) (dAsg d dg) :=
  ⟨ps_asg h.pe hg.pg hs hw h1, asg_rf h.rf hg.rf⟩
theorem ds_set {i : Nat} {x : Str} {pos' : Pos} (hN : X.N.Nodup) (hi : X.N[i]? = some x) (hx : Loc X.env.scope x) (h : DE X Z e te d) (hs : swapsWith e (some (.Name x pos')) pos.line X.env = pure false := by rfl) (hf : X.fn x = true ∨ X.env.scope.names.lookup x = some .local := by first | exact .inl rfl | exact .inr rfl | assumption) :
    DS X Z (.Assign [.Name x pos'] e pos) (tAsg te (gName i)) (dAsg d (dName i)) :=
  ⟨ps_set hN hi hx h.pe hs hf, asg_rf h.rf (dg_name (pos := pos') hN hi hx hf).rf⟩
/-- .. the list just made is this def's own -/
def dAsgO (d : TD) (i : Nat) : TDS := fun D E δ => d δ (fun x => match x with
  | .new xs => D.nx (δ.set i (some (.own xs)))
  | _ => False) E
theorem asgO_rf {ta : TE} {i : Nat} (h : ∀ I H δ σ Qd Ed Q, Here Z I H δ σ Ed → d δ Qd Ed → Then Z I H Qd Q → ta σ H Q) : ∀ I H δ σ D Ed T, Here Z I H δ σ Ed → dAsgO d i D Ed δ → Link Z I D T → tAsg ta (gName i) T σ H := fun I H δ σ D Ed T hh q l => by
  refine h I H δ σ _ Ed _ hh q fun x v I' H' e a q => ?_
  split at q
  · obtain ⟨o, n⟩ := a
    refine l.nx _ _ I' H' (hh.e0.trans hh.g0 e) e.sub ((hh.env.ext e).set i (x := .own _) ⟨o, fun b eb => (n b eb).2⟩ fun zs _ j ys hij hj hv => ?_) q
    obtain ⟨w, e1, ⟨⟨b, ws, rfl, h1, _⟩, _⟩⟩ := hh.env.val j _ hj
    rw [e1] at hv
    cases hv
    rw [(n b rfl).1] at h1
    cases h1
  · exact q.elim
theorem ds_setO {i : Nat} {x : Str} {pos' : Pos} (hN : X.N.Nodup) (hi : X.N[i]? = some x) (hx : Loc X.env.scope x) (h : DE X Z e te d) (hs : swapsWith e (some (.Name x pos')) pos.line X.env = pure false := by rfl) (hf : X.fn x = true ∨ X.env.scope.names.lookup x = some .local := by first | exact .inl rfl | exact .inr rfl | assumption) :
    DS X Z (.Assign [.Name x pos'] e pos) (tAsg te (gName i)) (dAsgO d i) :=
  ⟨ps_set hN hi hx h.pe hs hf, asgO_rf h.rf⟩
/-- a, b = x, y -/
def dPar (i j : Nat) (a : TDA) : TDS := fun D E δ => a δ (fun xs => match xs with
  | [x, y] => dName i x δ (fun δ' => dName j y δ' D.nx)
  | _ => False) E
theorem ds_par {i j : Nat} {x y : Str} {a b : Expr} {ta : TA} {da : TDA} {px py pt : Pos} {kt k2 pt2} (hc : X.calm = true) (hN : X.N.Nodup) (hi : X.N[i]? = some x) (hj : X.N[j]? = some y) (hij : i ≠ j) (hx : X.env.scope.names.lookup x = some .local) (hy : X.env.scope.names.lookup y = some .local) (ha : DA X Z [a, b] ta da)
    (hw : swappedStores [.Tuple [.Name x px, .Name y py] kt pt] (.Tuple [a, b] k2 pt2) X.env = pure (some [x, y])) (hs : swapsWithSole [.Tuple [.Name x px, .Name y py] kt pt] (.Tuple [a, b] k2 pt2) pos.line X.env = pure false := by rfl) :
    DS X Z (.Assign [.Tuple [.Name x px, .Name y py] kt pt] (.Tuple [a, b] k2 pt2) pos) (tPar i j ta) (dPar i j da) := by
  refine ⟨ps_par hc hN hi hj hij hx hy ha.pa hw hs, fun I H δ σ D Ed T hh q l => ha.rf I H δ σ _ Ed _ hh q fun xs vs I' H' e a q => ?_⟩
  split at q
  · obtain ⟨v, u, rfl, a1, a2⟩ := at2 a
    have e0 := hh.e0.trans hh.g0 e
    have env := hh.env.ext e
    refine ⟨v, u, rfl, ?_⟩
    have st : ∀ {δ1 σ1 k z w Hs} {Qd : DEnv → Prop}, EnvAt Z I' H' δ1 σ1 → At Z Hs I' H' z w → dName k z δ1 Qd → ∃ δ2, EnvAt Z I' H' δ2 (σ1.set k (some w)) ∧ Qd δ2 := fun {δ1 σ1 k z w Hs Qd} ev az qz => by
      unfold dName at qz
      split at qz
      · exact ⟨_, ev.set k (x := .d _) az (fun xs e => nomatch e), qz⟩
      · exact ⟨_, ev.set k (x := .v _) az (fun xs e => nomatch e), qz⟩
      · exact qz.elim
    obtain ⟨δ1, ev1, q1⟩ := st env a1 q
    obtain ⟨δ2, ev2, q2⟩ := st ev1 a2 q1
    exact l.nx δ2 _ I' H' e0 e.sub ev2 q2
  · exact q.elim
/-- name op= e, of ints -/
def dAug (i : Nat) (g : Int → Int → Int) (d : TD) : TDS := fun D E δ => match δ[i]? with
  | some (some (.d (.int a))) => d δ (fun y => match y with
    | .d (.int b) => D.nx (δ.set i (some (.d (.int (g a b)))))
    | _ => False) E
  | _ => False
theorem ds_aug {i : Nat} {x : Str} {op : Operator} {g : Int → Int → Int} {pos' : Pos} (hN : X.N.Nodup) (hi : X.N[i]? = some x) (hx : Loc X.env.scope x) (h : DE X Z e te d) (ho : PIp X op (ipI g)) (hf : X.fn x = true ∨ X.env.scope.names.lookup x = some .local := by first | exact .inl rfl | exact .inr rfl | assumption) :
    DS X Z (.AugAssign (.Name x pos') op e pos) (tAug i te (ipI g)) (dAug i g d) := by
  refine ⟨ps_aug hN hi hx h.pe ho hf, fun I H δ σ D Ed T hh q l => ?_⟩
  unfold dAug at q
  split at q
  · rename_i a ea
    obtain ⟨v, e1, s1⟩ := hh.env.val i _ ea
    cases s1
    refine ⟨_, e1, h.rf I H δ σ _ Ed _ hh q fun y w I' H' e ay q => ?_⟩
    split at q
    · cases ay
      exact ⟨_, _, rfl, rfl, l.nx _ _ I' H' (hh.e0.trans hh.g0 e) e.sub ((hh.env.ext e).set i (x := .d _) (Da.int _) fun xs e => nomatch e) q⟩
    · exact q.elim
  · exact q.elim
end
end PD
set_option Elab.async false
set_option linter.all false
set_option maxRecDepth 100000
set_option maxHeartbeats 1000000
namespace PD
open PySem PySem.Spec PyProof.Rows L2
/-! ### what is walked -/
/-- J walks the data ds from now on -/
def Runs (Z : Zx) (J : It) (I : Hp) (ds : List PyData) : Prop := ∀ I' H', Good Z.R I' H' → Same I I' →
  (∀ i d, ds[i]? = some d → J.go i H' ∧ ∀ x H'', J.yld i H' x H'' → ∃ I'', Ext Z.R I' H' I'' H'' ∧ Da Z.K I'' x d) ∧ J.stop ds.length H'
abbrev TDI := DEnv → (List PyData → Prop) → EK → Prop
structure DI (X : Cx) (Z : Zx) (tg iter : Expr) (wi : TI) (d : TDI) : Prop where
  pi : PI X tg iter wi
  rf : ∀ I H δ σ Qd Ed (R : It → Hp → Prop), Here Z I H δ σ Ed → d δ Qd Ed → (∀ J ds I' H', Ext Z.R I H I' H' → Runs Z J I' ds → ds.length ≤ sizeLine → Qd ds → R J H') → wi σ H R
section
variable {X : Cx} {Z : Zx} {pos : Pos} {e tg : Expr} {te : TE} {d : TD}
theorem runs_list {I : Hp} {a : Addr} {vs : List V} {ds : List PyData} (h : I a = some (.lst vs)) (ad : DaAll Z.K I vs ds) : Runs Z (Itl Z.K a) I ds := fun I' H' g s => by
  have h1 : SqL Z.K H' a vs := SqL.of (g.sub _ _ (s _ _ h))
  have hd : ∀ xs, SqL Z.K H' a xs → xs = xs := fun _ _ => rfl
  refine ⟨fun i y e => ?_, ⟨vs, h1, Nat.le_of_eq ad.len⟩⟩
  obtain ⟨v, e1, a1⟩ := ad.get e
  refine ⟨⟨vs, v, h1, e1⟩, fun x H'' hy => ?_⟩
  obtain ⟨rfl, hy⟩ := hy
  have e2 := hy vs h1
  rw [e1] at e2
  cases e2
  exact ⟨I', Ext.refl g, da_mono s _ _ a1⟩
theorem runs_tup {I : Hp} {a : Addr} {vs : List V} {ds : List PyData} (h : SqT Z.K I a vs) (ad : DaAll Z.K I vs ds) : Runs Z (Itt Z.K a) I ds := fun I' H' g s => by
  have h1 : SqT Z.K H' a vs := sqT_mono g.sub (sqT_mono s h)
  refine ⟨fun i y e => ?_, ⟨vs, h1, Nat.le_of_eq ad.len⟩⟩
  obtain ⟨v, e1, a1⟩ := ad.get e
  refine ⟨⟨vs, v, h1, e1⟩, fun x H'' hy => ?_⟩
  obtain ⟨rfl, hy⟩ := hy
  have e2 := hy vs h1
  rw [e1] at e2
  cases e2
  exact ⟨I', Ext.refl g, da_mono s _ _ a1⟩
def chars (z : Str) : List PyData := z.cps.toList.map fun c => .str ⟨#[c]⟩
theorem runs_str {I : Hp} {z : Str} : Runs Z (Its z) I (chars z) := fun I' H' g s => by
  refine ⟨fun i y e => ?_, by show z.cps.size ≤ _; unfold chars; rw [List.length_map, Array.length_toList]; exact Nat.le_refl _⟩
  unfold chars at e
  rw [List.getElem?_map] at e
  obtain ⟨c, e1, rfl⟩ := Option.map_eq_some_iff.mp e
  have e3 : z.cps[i]? = some c := by rw [← Array.getElem?_toList]; exact e1
  refine ⟨(Array.getElem?_eq_some_iff.mp e3).1, fun x H'' hy => ?_⟩
  obtain ⟨rfl, c', e2, rfl⟩ := hy
  rw [e3] at e2
  cases e2
  exact ⟨I', Ext.refl g, .str _⟩
def rangeD (lo : Int) (n : Nat) : List PyData := (List.range n).map fun (i : Nat) => .int (lo + i)
theorem runs_range {I : Hp} {lo : Int} {n : Nat} : Runs Z (Itr lo n) I (rangeD lo n) := fun I' H' g s => by
  refine ⟨fun i y e => ?_, by show n ≤ _; unfold rangeD; rw [List.length_map, List.length_range]; exact Nat.le_refl _⟩
  unfold rangeD at e
  rw [List.getElem?_map] at e
  obtain ⟨c, e1, rfl⟩ := Option.map_eq_some_iff.mp e
  have hi : i < n := by
    have := (List.getElem?_eq_some_iff.mp e1).1
    rwa [List.length_range] at this
  rw [List.getElem?_range hi] at e1
  cases e1
  refine ⟨hi, fun x H'' hy => ?_⟩
  obtain ⟨rfl, rfl⟩ := hy
  exact ⟨I', Ext.refl g, .int _⟩
/-- a list, a tuple, a text -/
def iAny (K : PySem.W.Frag) (tl : TE) : TI := fun σ H R => tl σ H fun x H1 => (∃ a, x = .ref a ∧ (∃ xs, SqL K H1 a xs) ∧ R (Itl K a) H1) ∨ (∃ a, x = .ref a ∧ (∃ xs, SqT K H1 a xs) ∧ R (Itt K a) H1) ∨ ∃ z, x = .str z ∧ R (Its z) H1
theorem pi_any (he : PE X e te) : PI X tg e (iAny X.K te) := by
  refine ⟨fun pins s σ H R I h => ?_⟩
  refine thn (he.run pins s σ H _ I h) fun v s1 ⟨y, H1, I1, r1, q1⟩ => ?_
  rcases q1 with ⟨a, e, ⟨xs, hq⟩, q⟩ | ⟨a, e, ⟨xs, hq⟩, q⟩ | ⟨z, e, q⟩
  · subst e
    cases r1
    obtain ⟨its, rv, p, hz⟩ := I1.list hq
    refine wpAny_pyIter_list p.isList ?_
    refine ⟨s1.heap.objs.size, [s1.heap.objs.size], _, _, H1, rfl, I1.kept (t' := s1.toks) fun b o e => Heap.get?_push_of_some _ e, turn_list a _, ⟨_, Heap.get?_push_size _ rfl, rfl, rfl⟩, fun b hb => ?_, q⟩
    have e : b = s1.heap.objs.size := by simpa using hb
    subst e
    exact I1.fpOk (Nat.le_refl _) (I1.hok.fresh (Nat.le_refl _))
  · subst e
    cases r1
    obtain ⟨its, rv, p, hz⟩ := I1.tuple hq
    refine wpAny_pyIter_tuple (show s1.heap.IsTuple a its.toArray from p) ?_
    refine ⟨s1.heap.objs.size, [s1.heap.objs.size], _, _, H1, rfl, I1.kept (t' := s1.toks) fun b o e => Heap.get?_push_of_some _ e, turn_tuple a _, ⟨_, Heap.get?_push_size _ rfl, rfl, rfl⟩, fun b hb => ?_, q⟩
    have e : b = s1.heap.objs.size := by simpa using hb
    subst e
    exact I1.fpOk (Nat.le_refl _) (I1.hok.fresh (Nat.le_refl _))
  · subst e
    obtain ⟨t, rfl⟩ := r1
    cases ha : z.cps.all (· < 128)
    · exact wpAny_pyIter_wide ha (pi_one (tk := s1.toks) I1 _ (turn_str _ z t "str_iterator" (.inr rfl)) ⟨_, Heap.get?_push_size _ rfl, rfl, rfl⟩ q)
    · exact wpAny_pyIter_ascii ha (pi_one (tk := s1.toks) I1 _ (turn_str _ z t "str_ascii_iterator" (.inl rfl)) ⟨_, Heap.get?_push_size _ rfl, rfl, rfl⟩ q)
/-- what is walked of a value -/
def itemsOf : DV → Option (List PyData)
  | .d (.list xs) => some xs
  | .d (.tuple xs) => some xs
  | .d (.str z) => some (chars z)
  | _ => none
def strFits : DV → Prop
  | .d (.str z) => z.length ≤ sizeLine
  | _ => True
def dAny (d : TD) : TDI := fun δ Q E => d δ (fun x => strFits (froz x) ∧ match itemsOf (froz x) with
  | some ds => Q ds
  | none => False) E
theorem di_any' (h : DE X Z e te d) (hK : Z.K = X.K) : DI X Z tg e (iAny X.K te) (dAny d) := by
  refine ⟨pi_any h.pe, fun I H δ σ Qd Ed R hh q k => h.rf I H δ σ _ Ed _ hh q (Then.frz (Qd := fun x => strFits x ∧ match itemsOf x with | some ds => Qd ds | none => False) fun x v I1 H1 e1 a1 q1 => ?_)⟩
  obtain ⟨hz, q1⟩ := q1
  split at q1
  · rename_i ds ed
    unfold itemsOf at ed
    split at ed
    · cases ed
      cases a1 with
      | lst h1 h2 =>
        have l := e1.good.len _ _ h1
        have l2 := h2.len
        rw [← hK]
        refine .inl ⟨_, rfl, ⟨_, SqL.of (e1.good.sub _ _ h1)⟩, k _ _ I1 H1 e1 (runs_list h1 h2) (by have l' : List.length _ ≤ sizeLine := l; omega) q1⟩
    · cases ed
      obtain ⟨p, vs, rfl, h1, h1', h2⟩ := tup_at e1.good a1
      have l := tup_len e1.good h1
      have l2 := h2.len
      rw [← hK]
      exact .inr (.inl ⟨_, rfl, ⟨_, h1'⟩, k _ _ I1 H1 e1 (runs_tup h1 h2) (by omega) q1⟩)
    · cases ed
      cases a1
      refine .inr (.inr ⟨_, rfl, k _ _ I1 H1 e1 runs_str ?_ q1⟩)
      unfold chars
      rw [List.length_map, Array.length_toList]
      exact hz
    · cases ed
  · exact q1.elim
theorem di_any (h : DE X Z e te d) (hK : Z.K = X.K) : DI X Z tg e (iAny Z.K te) (dAny d) := by rw [hK]; exact di_any' h hK
/-- range(n), range(a, b) -/
def dRng1 (a : TDA) : TDI := fun δ Q E => a δ (fun xs => match xs with
  | [.d (.int j)] => j ≤ sizeLine ∧ -(2 ^ 62) ≤ j ∧ Q (rangeD 0 j.toNat)
  | _ => False) E
theorem di_range1 {a : Expr} {ta : TA} {da : TDA} {p : Pos} (hg : Gl X "range") (hm : X.mg "range" = none) (h : DA X Z [a] ta da) (hs : starEach [a] X.env = [(false, eval a X.env)] := by rfl) : DI X Z tg (.Call (.Name "range" p) [a] [] pos) (iRng1 ta) (dRng1 da) := by
  refine ⟨pi_range1 hg hm h.pa hs, fun I H δ σ Qd Ed R hh q k => h.rf I H δ σ _ Ed _ hh q fun xs vs I1 H1 e1 a1 q1 => ?_⟩
  split at q1
  · obtain ⟨v, rfl, a2⟩ := at1 a1
    cases a2
    obtain ⟨h1, h2, q1⟩ := q1
    have sz : (sizeLine : Int) < 2 ^ 62 := by decide
    refine ⟨_, rfl, h2, by omega, k _ _ I1 H1 e1 runs_range ?_ q1⟩
    unfold rangeD
    rw [List.length_map, List.length_range]
    omega
  · exact q1.elim
def dRng2 (a : TDA) : TDI := fun δ Q E => a δ (fun xs => match xs with
  | [.d (.int i), .d (.int j)] => (j - i ≤ sizeLine ∧ -(2 ^ 62) ≤ i ∧ i < 2 ^ 62 ∧ -(2 ^ 62) ≤ j ∧ j < 2 ^ 62) ∧ Q (rangeD i (j - i).toNat)
  | _ => False) E
theorem di_range2 {a b : Expr} {ta : TA} {da : TDA} {p : Pos} (hg : Gl X "range") (hm : X.mg "range" = none) (h : DA X Z [a, b] ta da) (hs : starEach [a, b] X.env = [(false, eval a X.env), (false, eval b X.env)] := by rfl) (hs2 : starEach [b] X.env = [(false, eval b X.env)] := by rfl) : DI X Z tg (.Call (.Name "range" p) [a, b] [] pos) (iRng2 ta) (dRng2 da) := by
  refine ⟨pi_range2 hg hm h.pa hs hs2, fun I H δ σ Qd Ed R hh q k => h.rf I H δ σ _ Ed _ hh q fun xs vs I1 H1 e1 a1 q1 => ?_⟩
  split at q1
  · obtain ⟨v, u, rfl, a2, a3⟩ := at2 a1
    cases a2; cases a3
    obtain ⟨⟨h1, h2, h3, h4, h5⟩, q1⟩ := q1
    refine ⟨_, _, rfl, ⟨h2, h3, h4, h5⟩, k _ _ I1 H1 e1 runs_range ?_ q1⟩
    unfold rangeD
    rw [List.length_map, List.length_range]
    omega
  · exact q1.elim

/-! ### for -/
def forGo (dg : TDG) (tb : TDS) : List PyData → DEnds → EK → DEnv → Prop
  | [], D, _, δ => D.nx δ
  | d :: ds, D, E, δ => dg (.d d) δ (fun δ' => tb { D with nx := forGo dg tb ds D E, ct := forGo dg tb ds D E, bk := D.nx } E δ')
def dFor (ti : TDI) (dg : TDG) (tb : TDS) : TDS := fun D E δ => ti δ (fun ds => forGo dg tb ds D E δ) E
theorem ds_for {iter : Expr} {body : List Stmt} {wi : TI} {di : TDI} {g : TG} {dg : TDG} {ts : TS} {tb : TDS} (fl : Flat Z) (hp : PassesOwn (model X.prog X.w) X.A X.env X.xe) (hc : X.calm = true) (hi : DI X Z tg iter wi di) (hg : DG X Z tg g dg) (hb : DSs X Z body ts tb)
    (hs : ∀ x, foldedSetIterable iter X.env x = pure x := by intro _; rfl) : DS X Z (.For tg iter body [] pos) (tFor wi g ts) (dFor di dg tb) := by
  refine ⟨ps_for hp hc hi.pi hg.pg hb.ps hs, fun I H δ σ D Ed T hh q l => hi.rf I H δ σ _ Ed _ hh q fun J ds I1 H1 e1 rn hl q1 => ?_⟩
  have h1 := hh.ext e1
  refine ⟨fun i m σ' H' => m = ds.length - i ∧ i ≤ ds.length ∧ ∃ I' δ', Ext Z.R Z.I0 Z.H0 I' H' ∧ Same I1 I' ∧ EnvAt Z I' H' δ' σ' ∧ forGo dg tb (ds.drop i) D Ed δ', ⟨ds.length, by simp, Nat.zero_le _, I1, δ, h1.e0, Same.refl _, h1.env, by simpa using q1⟩, ?_⟩
  rintro i m σ' H' ⟨rfl, hi', I', δ', e', s', env', q'⟩
  obtain ⟨go, stop⟩ := rn I' H' e'.good s'
  by_cases hlt : i < ds.length
  · have ed : ds[i]? = some ds[i] := by simp [hlt]
    rw [List.drop_eq_getElem_cons hlt] at q'
    obtain ⟨g1, g2⟩ := go i _ ed
    refine .inr ⟨g1, fun σ2 H2 => ∃ I2 δ2, Ext Z.R Z.I0 Z.H0 I2 H2 ∧ Same I1 I2 ∧ EnvAt Z I2 H2 δ2 σ2 ∧ forGo dg tb (ds.drop (i + 1)) D Ed δ2, fun σ2 H2 w2 => ⟨ds.length - (i + 1), by omega, rfl, hlt, w2⟩, fun x H'' hy => ?_⟩
    obtain ⟨I'', ex, ax⟩ := g2 x H'' hy
    have e'' := e'.trans hh.g0 ex
    refine hg.rf I'' H'' δ' σ' (.d _) x _ _ H'' ex.good (env'.ext ex) ax q' fun δ3 σ3 I3 H3 ex3 env3 q3 => ?_
    have ex := ex.trans e'.good ex3
    have e'' := e'.trans hh.g0 ex
    exact hb.rf I3 H3 δ3 σ3 _ Ed _ (hh.at_ fl e'' env3) q3
      ⟨fun δ4 σ4 I4 H4 e4 s4 env4 q4 => ⟨I4, δ4, e4, (s'.trans ex.sub).trans s4, env4, q4⟩, l.rt, fun δ4 σ4 I4 H4 e4 s4 env4 q4 => l.nx δ4 σ4 I4 H4 e4 (e1.sub.trans ((s'.trans ex.sub).trans s4)) env4 q4,
        fun δ4 σ4 I4 H4 e4 s4 env4 q4 => ⟨I4, δ4, e4, (s'.trans ex.sub).trans s4, env4, q4⟩⟩
  · have e : i = ds.length := by omega
    subst e
    rw [List.drop_length] at q'
    exact .inl ⟨stop, l.nx δ' σ' I' H' e' (e1.sub.trans s') env' q'⟩
/-! ### while -/
def whGo (c : TDT) (tb : TDS) : Nat → DEnds → EK → DEnv → Prop
  | 0, _, _, _ => False
  | n + 1, D, E, δ => c δ (fun b => if b = true then tb { D with nx := whGo c tb n D E, ct := whGo c tb n D E, bk := D.nx } E δ else D.nx δ) E
def dWhile (c : TDT) (tb : TDS) : TDS := fun D E δ => ∃ n, whGo c tb n D E δ
theorem ds_while {c : Expr} {body : List Stmt} {tc : TT} {dc : TDT} {ts : TS} {tb : TDS} (fl : Flat Z) (hp : PassesOwn (model X.prog X.w) X.A X.env X.xe) (hc : DT X Z c tc dc) (hb : DSs X Z body ts tb) : DS X Z (.While c body [] pos) (tWhile tc ts) (dWhile dc tb) := by
  refine ⟨ps_while hp hc.pt hb.ps, fun I H δ σ D Ed T hh q l => ?_⟩
  obtain ⟨n, q⟩ := q
  refine ⟨fun m σ' H' => ∃ I' δ', Ext Z.R Z.I0 Z.H0 I' H' ∧ Same I I' ∧ EnvAt Z I' H' δ' σ' ∧ whGo dc tb m D Ed δ', ⟨n, I, δ, hh.e0, Same.refl _, hh.env, q⟩, ?_⟩
  rintro m σ' H' ⟨I', δ', e', s', env', q'⟩
  cases m with
  | zero => exact q'.elim
  | succ m =>
    refine hc.rf I' H' δ' σ' _ Ed _ (hh.at_ fl e' env') q' fun b I1 H1 e1 q1 => ?_
    have e1' := e'.trans hh.g0 e1
    cases b with
    | false => exact l.nx δ' σ' I1 H1 e1' (s'.trans e1.sub) (env'.ext e1) q1
    | true =>
      refine ⟨fun σ2 H2 => ∃ I2 δ2, Ext Z.R Z.I0 Z.H0 I2 H2 ∧ Same I I2 ∧ EnvAt Z I2 H2 δ2 σ2 ∧ whGo dc tb m D Ed δ2, fun σ2 H2 w2 => ⟨m, Nat.lt_succ_self m, w2⟩, ?_⟩
      exact hb.rf I1 H1 δ' σ' _ Ed _ (hh.at_ fl e1' (env'.ext e1)) q1
        ⟨fun δ4 σ4 I4 H4 e4 s4 env4 q4 => ⟨I4, δ4, e4, (s'.trans e1.sub).trans s4, env4, q4⟩, l.rt, fun δ4 σ4 I4 H4 e4 s4 env4 q4 => l.nx δ4 σ4 I4 H4 e4 ((s'.trans e1.sub).trans s4) env4 q4,
          fun δ4 σ4 I4 H4 e4 s4 env4 q4 => ⟨I4, δ4, e4, (s'.trans e1.sub).trans s4, env4, q4⟩⟩
/-! ### a list of one's own, changed -/
theorem ext_upd {R : Reg} {I0 H0' I H : Hp} {p : Addr} {o : HO} (e : Ext R I0 H0' I H) (hn : H0' p = none) (m : ¬ R.m p) (hi : I p = none) : Ext R I0 H0' I (upd H p o) := by
  refine ⟨⟨fun a u q => ?_, R.st H _ e.good.j fun a u ma q => ?_, e.good.off, e.good.len⟩, e.sub, e.fresh, fun a u q ma => ?_⟩
  · rw [upd_ne (ne_of_none q hi)]; exact e.good.sub a u q
  · rw [upd_ne (fun z => m (by rw [← z]; exact ma))]; exact q
  · rw [upd_ne (ne_of_none q hn)]; exact e.keep a u q ma
theorem EnvAt.upd {I H : Hp} {δ : DEnv} {σ : St} {i : Nat} {xs ys : List PyData} {p : Addr} {us : List V} (h : EnvAt Z I H δ σ) (hi : δ[i]? = some (some (.own xs))) (hv : σ[i]? = some (some (.ref p))) (ay : DaAll Z.K I us ys) (hl : us.length ≤ sizeLine) : EnvAt Z I (L2.upd H p (.lst us)) (δ.set i (some (.own ys))) σ := by
  obtain ⟨v, e1, ⟨⟨q, vs, rfl, h1, h2, h3, h4, h5⟩, h6⟩⟩ := h.val i _ hi
  rw [hv] at e1
  cases e1
  have up : ∀ {v : V} {zs : List PyData}, Own Z.K Z.R I H v zs → v ≠ .ref p → Own Z.K Z.R I (L2.upd H p (.lst us)) v zs := fun {v zs} o ne => by
    obtain ⟨a, vs, rfl, o1, o2, o3, o4, o5⟩ := o
    exact ⟨a, vs, rfl, by rw [upd_ne (fun z => ne (by rw [z]))]; exact o1, o2, o3, o4, o5⟩
  refine ⟨by rw [List.length_set]; exact h.len, fun j y q => ?_, fun j k zs ws v hn g1 g2 g3 g4 => ?_⟩
  · rcases get_set_some q with ⟨rfl, rfl, hlt⟩ | ⟨hj, q⟩
    · exact ⟨_, hv, ⟨p, us, rfl, upd_same, ay, h3, h4, hl⟩, h6⟩
    · obtain ⟨v, f1, f2⟩ := h.val j y q
      refine ⟨v, f1, ?_⟩
      cases y with
      | d y => exact f2
      | new zs => exact f2
      | v u => exact f2
      | bor f zs => exact ⟨f2.1, up f2.2.1 fun z => f2.2.2 p z (h6 p rfl), f2.2.2⟩
      | own zs => exact ⟨up f2.1 fun z => h.apart i j xs zs v hj hi q (by rw [hv, z]) f1, f2.2⟩
  · rcases get_set_some g1 with ⟨rfl, _, _⟩ | ⟨hj, g1⟩
    · rcases get_set_some g2 with ⟨rfl, _, _⟩ | ⟨hk, g2⟩
      · exact hn rfl
      · exact h.apart i k xs ws v hk hi g2 g3 g4
    · rcases get_set_some g2 with ⟨rfl, _, _⟩ | ⟨hk, g2⟩
      · exact h.apart i j xs zs v hj hi g1 g4 g3
      · exact h.apart j k zs ws v hn g1 g2 g3 g4
/-- x.append(e) -/
def dApp (i : Nat) (d : TD) : TDS := fun D E δ => match δ[i]? with
  | some (some (.own xs)) => d δ (fun y => match froz y with
    | .d y => xs.length < sizeLine ∧ D.nx (δ.set i (some (.own (xs ++ [y]))))
    | _ => False) E
  | _ => False
theorem ds_app {i : Nat} {st : Stmt} {K : PySem.W.Frag} (hK : Z.K = K) (h : DE X Z e te d) (hp : PE X e te → PS X st (tDrop (tBM K "list" rAppend (tVar i) (tCons te tNil)))) : DS X Z st (tDrop (tBM K "list" rAppend (tVar i) (tCons te tNil))) (dApp i d) := by
  subst hK
  refine ⟨hp h.pe, fun I H δ σ D Ed T hh q l => ?_⟩
  unfold dApp at q
  split at q
  · rename_i xs ex
    obtain ⟨v, e1, ⟨⟨p, vs, rfl, h1, h2, h3, h4, h5⟩, h6⟩⟩ := hh.env.val i _ ex
    refine ⟨_, e1, .inl ⟨rfl, vs, SqL.of h1⟩, h.rf I H δ σ _ Ed _ hh q (Then.frz (Qd := fun y => match y with | .d y => xs.length < sizeLine ∧ D.nx (δ.set i (some (.own (xs ++ [y])))) | _ => False) fun y w I' H' e ay q => ?_)⟩
    dsimp only at q
    split at q
    · have l1 := h2.len
      have e0 := hh.e0.trans hh.g0 e
      have env := hh.env.ext e
      obtain ⟨v', e1', ⟨⟨p', vs', e2', h1', h2', h3', h4', h5'⟩, h6'⟩⟩ := env.val i _ ex
      rw [e1] at e1'
      cases e1'
      cases e2'
      refine ⟨p, vs', w, rfl, rfl, h1', by have := h2'.len; omega, ?_⟩
      exact l.nx _ σ I' _ (ext_upd e0 (h6 p rfl) h4 h3') e.sub (env.upd ex e1 (h2'.app (.cons ay .nil)) (by rw [List.length_append]; have := h2'.len; simp only [List.length_cons, List.length_nil]; omega)) q.2
    · exact q.elim
  · exact q.elim
end

/-! ### comprehensions -/
def wipeD (δ : DEnv) : List Nat → DEnv
  | [] => δ
  | v :: vs => (wipeD δ vs).set v none
theorem wipeD_length (δ : DEnv) : ∀ vs : List Nat, (wipeD δ vs).length = δ.length
  | [] => rfl
  | v :: vs => by unfold wipeD; rw [List.length_set, wipeD_length δ vs]
theorem wipeD_some {δ : DEnv} {i : Nat} {x : DV} : ∀ {vs : List Nat}, (wipeD δ vs)[i]? = some (some x) → δ[i]? = some (some x) ∧ i ∉ vs
  | [], h => ⟨h, by simp⟩
  | v :: vs, h => by
    unfold wipeD at h
    by_cases hi : v = i
    · subst hi
      by_cases hv : v < (wipeD δ vs).length
      · rw [List.getElem?_set_self hv] at h; cases h
      · rw [List.getElem?_eq_none (by simpa using hv)] at h; cases h
    · rw [List.getElem?_set_ne hi] at h
      obtain ⟨h1, h2⟩ := wipeD_some h
      exact ⟨h1, by simp only [List.mem_cons, not_or]; exact ⟨fun e => hi e.symm, h2⟩⟩
theorem EnvAt.wipe {Z : Zx} {I H : Hp} {δ : DEnv} {σ : St} (h : EnvAt Z I H δ σ) (vs : List Nat) : EnvAt Z I H (wipeD δ vs) (L2.wipe σ vs) where
  len := by rw [wipeD_length, wipe_length]; exact h.len
  val := fun i x q => by
    obtain ⟨q1, q2⟩ := wipeD_some q
    obtain ⟨v, e1, e2⟩ := h.val i x q1
    exact ⟨v, by rw [wipe_out q2]; exact e1, e2⟩
  apart := fun i j xs ys v hn h1 h2 h3 h4 => by
    obtain ⟨a1, a2⟩ := wipeD_some h1
    obtain ⟨b1, b2⟩ := wipeD_some h2
    rw [wipe_out a2] at h3
    rw [wipe_out b2] at h4
    exact h.apart i j xs ys v hn a1 b1 h3 h4
/-- the same but for what is wanted of exceptions -/
theorem EnvAt.other {Z : Zx} {W : WX} {I H : Hp} {δ : DEnv} {σ : St} (h : EnvAt Z I H δ σ) : EnvAt { Z with W := W } I H δ σ := ⟨h.len, h.val, h.apart⟩
theorem EnvAt.back {Z : Zx} {W : WX} {I H : Hp} {δ : DEnv} {σ : St} (h : EnvAt { Z with W := W } I H δ σ) : EnvAt Z I H δ σ := ⟨h.len, h.val, h.apart⟩
/-- a target stores in these slots alone -/
def Tgt (g : TG) (vs : List Nat) : Prop := ∀ v σ H Q, g v σ H Q → g v σ H fun σ' H' => L2.wipe σ' vs = L2.wipe σ vs ∧ Q σ' H'
theorem wipe_set {σ : St} {i : Nat} {x : Option V} : ∀ {vs : List Nat}, i ∈ vs → L2.wipe (σ.set i x) vs = L2.wipe σ vs
  | v :: vs, h => by
    by_cases hv : i ∈ vs
    · show (L2.wipe (σ.set i x) vs).set v none = (L2.wipe σ vs).set v none
      rw [wipe_set hv]
    · have e : i = v := by
        rcases List.mem_cons.mp h with e | e
        · exact e
        · exact absurd e hv
      subst e
      show (L2.wipe (σ.set i x) vs).set i none = (L2.wipe σ vs).set i none
      apply List.ext_getElem?
      intro j
      by_cases hj : i = j
      · subst hj
        rw [List.getElem?_set, List.getElem?_set, wipe_length, wipe_length, List.length_set, if_pos rfl, if_pos rfl]
      · rw [List.getElem?_set_ne hj, List.getElem?_set_ne hj]
        by_cases hm : j ∈ vs
        · have wn : ∀ {τ : St} {ws : List Nat}, j ∈ ws → (L2.wipe τ ws)[j]? = if j < τ.length then some none else none := fun {τ ws} hm => by
            induction ws with
            | nil => simp at hm
            | cons w ws ih =>
              show ((L2.wipe τ ws).set w none)[j]? = _
              by_cases hw : w = j
              · subst hw
                rw [List.getElem?_set, if_pos rfl, wipe_length]
              · rw [List.getElem?_set_ne hw]
                exact ih ((List.mem_cons.mp hm).resolve_left fun e => hw e.symm)
          rw [wn hm, wn hm, List.length_set]
        · rw [wipe_out hm, wipe_out hm, List.getElem?_set_ne hj]
theorem tgt_name {i : Nat} {vs : List Nat} (h : i ∈ vs) : Tgt (gName i) vs := fun v σ H Q q => ⟨wipe_set h, q⟩
def TgtS (g : TGs) (vs : List Nat) : Prop := ∀ us σ H Q, g us σ H Q → g us σ H fun σ' H' => L2.wipe σ' vs = L2.wipe σ vs ∧ Q σ' H'
theorem tgts_nil {vs : List Nat} : TgtS gNil vs := fun us σ H Q ⟨e, q⟩ => ⟨e, rfl, q⟩
theorem tgts_cons {g : TG} {gs : TGs} {vs : List Nat} (mono : ∀ us σ H Q Q', gs us σ H Q → (∀ a b, Q a b → Q' a b) → gs us σ H Q') (h : Tgt g vs) (h' : TgtS gs vs) (gm : ∀ v σ H Q Q', g v σ H Q → (∀ a b, Q a b → Q' a b) → g v σ H Q') : TgtS (gCons g gs) vs := fun us σ H Q q => by
  obtain ⟨v, r, rfl, q⟩ := q
  refine ⟨v, r, rfl, gm _ _ _ _ _ (h v σ H _ q) fun a b ⟨e, q⟩ => mono _ _ _ _ _ (h' r a b _ q) fun a' b' ⟨e', q⟩ => ⟨e'.trans e, q⟩⟩
theorem tgt_names : ∀ {is : List Nat} {vs : List Nat}, (∀ i ∈ is, i ∈ vs) → TgtS (is.foldr (fun i r => gCons (gName i) r) gNil) vs ∧ ∀ us σ H Q Q', (is.foldr (fun i r => gCons (gName i) r) gNil) us σ H Q → (∀ a b, Q a b → Q' a b) → (is.foldr (fun i r => gCons (gName i) r) gNil) us σ H Q'
  | [], vs, _ => ⟨tgts_nil, fun us σ H Q Q' ⟨e, q⟩ k => ⟨e, k _ _ q⟩⟩
  | i :: is, vs, h => by
    obtain ⟨h1, h2⟩ := tgt_names (is := is) (vs := vs) fun j hj => h j (List.mem_cons_of_mem _ hj)
    exact ⟨tgts_cons h2 (tgt_name (h i List.mem_cons_self)) h1 fun v σ H Q Q' q k => k _ _ q, fun us σ H Q Q' ⟨v, r, e, q⟩ k => ⟨v, r, e, h2 _ _ _ _ _ q k⟩⟩
theorem tgt_tup {K : PySem.W.Frag} {n : Nat} {gs : TGs} {vs : List Nat} (h : TgtS gs vs) : Tgt (gTup K n gs) vs := fun v σ H Q ⟨a, xs, e, s, l, q⟩ => ⟨a, xs, e, s, l, h _ _ _ _ q⟩
def lcGo (body : PyData → (Option PyData → Prop) → Prop) : List PyData → List PyData → (List PyData → Prop) → Prop
  | [], acc, Q => Q acc
  | d :: ds, acc, Q => body d (fun o => lcGo body ds (acc ++ o.toList) Q)
def noE : EK := fun _ => False
def dLc (ti : TDI) (dg : TDG) (dt : TDT) (de : TD) (vs : List Nat) : TD := fun δ Q E => ti δ (fun ds =>
  lcGo (fun d K => dg (.d d) (wipeD δ vs) (fun δ' => dt δ' (fun b => if b = true then de δ' (fun y => match froz y with | .d y => K (some y) | _ => False) noE else K none) noE)) ds [] (fun ys => Q (.new ys))) E
structure DTs (X : Cx) (Z : Zx) (ifs : List Expr) (te : TT) (t : TDT) : Prop where
  pt : PTs X ifs te
  rf : ∀ I H δ σ Qd Ed Q, Here Z I H δ σ Ed → t δ Qd Ed → ThenB Z I H Qd Q → te σ H Q
def dYes : TDT := fun _ Q _ => Q true
section
variable {X : Cx} {Z : Zx} {pos : Pos}
theorem dts_nil : DTs X Z [] tYes dYes := ⟨pts_nil, fun I H δ σ Qd Ed Q hh t k => k true I H (Ext.refl hh.g) t⟩
theorem dts_one {c : Expr} {te : TT} {t : TDT} (h : DT X Z c te t) : DTs X Z [c] te t := ⟨pts_one h.pt, h.rf⟩
/-- nothing is let out -/
def Zx.calm (Z : Zx) : Zx := { Z with W := fun _ _ _ _ => False }
theorem lc_rf {wi : TI} {g : TG} {tt : TT} {te : TE} {vs : List Nat} {ti : TDI} {dg : TDG} {dt : TDT} {de : TD}
    (hi : ∀ I H δ σ Qd Ed (R : It → Hp → Prop), Here Z I H δ σ Ed → ti δ Qd Ed → (∀ J ds I' H', Ext Z.R I H I' H' → Runs Z J I' ds → ds.length ≤ sizeLine → Qd ds → R J H') → wi σ H R)
    (hg : ∀ I H δ σ x v Qd Q Hs, Good Z.R I H → EnvAt Z.calm I H δ σ → At Z.calm Hs I H x v → dg x δ Qd → (∀ δ' σ' I' H', Ext Z.R I H I' H' → EnvAt Z.calm I' H' δ' σ' → Qd δ' → Q σ' H') → g v σ H Q)
    (ht : ∀ I H δ σ Qd Ed Q, Here Z.calm I H δ σ Ed → dt δ Qd Ed → ThenB Z.calm I H Qd Q → tt σ H Q)
    (he : ∀ I H δ σ Qd Ed Q, Here Z.calm I H δ σ Ed → de δ Qd Ed → Then Z.calm I H Qd Q → te σ H Q) (tg : Tgt g vs) :
    ∀ I H δ σ Qd Ed Q, Here Z I H δ σ Ed → dLc ti dg dt de vs δ Qd Ed → Then Z I H Qd Q → tLc wi g tt te vs σ H Q := fun I H δ σ Qd Ed Q hh q k => by
  refine hi I H δ σ _ Ed _ hh q fun J ds I1 H1 e1 rn hl q1 D hD => ?_
  have h1 := hh.ext e1
  have k1 := k.ext hh.g e1
  obtain ⟨n1, n2⟩ := fresh_off h1.g hD
  have hD0 : Z.H0 D = none := h1.old D hD
  generalize hb : (fun d K => dg (.d d) (wipeD δ vs) (fun δ' => dt δ' (fun b => if b = true then de δ' (fun y => match froz y with | .d y => K (some y) | _ => False) noE else K none) noE) : PyData → (Option PyData → Prop) → Prop) = body at q1
  refine ⟨fun i m H' => m = ds.length - i ∧ i ≤ ds.length ∧ ∃ I' acc us, Ext Z.R I1 H1 I' H' ∧ H' D = some (.lst us) ∧ DaAll Z.K I' us acc ∧ I' D = none ∧ acc.length ≤ i ∧ lcGo body (ds.drop i) acc (fun ys => Qd (.new ys)),
    ⟨ds.length, by simp, Nat.zero_le _, I1, [], [], ext_own h1.g hD, upd_same, .nil, n1, Nat.le_refl _, by simpa using q1⟩, ?_⟩
  rintro i m H' ⟨rfl, hi', I', acc, us, e', hu, au, nu, la, q'⟩
  obtain ⟨go, stop⟩ := rn I' H' e'.good e'.sub
  have l2 := au.len
  by_cases hlt : i < ds.length
  · have ed : ds[i]? = some ds[i] := by simp [hlt]
    rw [List.drop_eq_getElem_cons hlt] at q'
    obtain ⟨g1, g2⟩ := go i _ ed
    refine .inr ⟨g1, fun H2 => i + 1 ≤ ds.length ∧ ∃ I' acc us, Ext Z.R I1 H1 I' H2 ∧ H2 D = some (.lst us) ∧ DaAll Z.K I' us acc ∧ I' D = none ∧ acc.length ≤ i + 1 ∧ lcGo body (ds.drop (i + 1)) acc (fun ys => Qd (.new ys)),
      fun H2 w2 => ⟨ds.length - (i + 1), by omega, rfl, w2⟩, fun x H'' hy => ?_⟩
    obtain ⟨I'', ex, ax⟩ := g2 x H'' hy
    have e'' := e'.trans h1.g ex
    have env'' : EnvAt Z I'' H'' (wipeD δ vs) (L2.wipe σ vs) := (h1.env.ext e'').wipe vs
    subst hb
    have wi : ∀ ws : List Nat, L2.wipe (L2.wipe σ ws) ws = L2.wipe σ ws := fun ws => by
      have : ∀ (τ : St) (us : List Nat), (∀ u ∈ us, u < τ.length → τ[u]? = some none) → L2.wipe τ us = τ := fun τ us => by
        induction us with
        | nil => intro _; rfl
        | cons u us ih =>
          intro h
          show (L2.wipe τ us).set u none = τ
          rw [ih fun v hv => h v (List.mem_cons_of_mem _ hv)]
          by_cases hu : u < τ.length
          · have e := h u List.mem_cons_self hu
            obtain ⟨_, e2⟩ := List.getElem?_eq_some_iff.mp e
            apply List.ext_getElem?
            intro j
            by_cases hj : u = j
            · subst hj
              rw [List.getElem?_set_self hu, e]
            · rw [List.getElem?_set_ne hj]
          · exact List.set_eq_of_length_le (by omega)
      refine this _ _ fun u hu hl => ?_
      have wn : ∀ {τ : St} {ws : List Nat} {j : Nat}, j ∈ ws → j < τ.length → (L2.wipe τ ws)[j]? = some none := fun {τ ws j} hm hj => by
        induction ws with
        | nil => simp at hm
        | cons w ws ih =>
          show ((L2.wipe τ ws).set w none)[j]? = _
          by_cases hw : w = j
          · subst hw
            rw [List.getElem?_set_self (by rw [wipe_length]; exact hj)]
          · rw [List.getElem?_set_ne hw]
            exact ih ((List.mem_cons.mp hm).resolve_left fun e => hw e.symm)
      exact wn hu (by rwa [wipe_length] at hl)
    have key : ∀ Q0, g x (L2.wipe σ vs) H'' Q0 → g x (L2.wipe σ vs) H'' (fun σ2 H2 => L2.wipe σ2 vs = L2.wipe σ vs ∧ Q0 σ2 H2) := fun Q0 h => by
      have := tg _ _ _ _ h
      rw [wi] at this
      exact this
    refine key _ (hg I'' H'' (wipeD δ vs) (L2.wipe σ vs) (.d _) x _ _ H'' ex.good env''.other (show Da Z.K I'' x _ from ax) q' fun δ3 σ3 I3 H3 ex3 env3 q3 => ?_)
    have ex := ex.trans e'.good ex3
    have e'' := e'.trans h1.g ex
    · have h3 : Here Z.calm I3 H3 δ3 σ3 noE := ⟨h1.g0, h1.e0.trans h1.g0 e'', env3, fun x c od I2 H2 e2 xa q => q.elim⟩
      refine ht I3 H3 δ3 σ3 _ noE _ h3 q3 fun b I4 H4 e4 q4 => ?_
      have e14 := e''.trans h1.g e4
      have D4 : ∀ {Ia Ha Ib Hb us}, Ext Z.R Ia Ha Ib Hb → Ha D = some (.lst us) → Ia D = none → Hb D = some (.lst us) ∧ Ib D = none := fun {Ia Ha Ib Hb us} ee hh' hn' => by
        refine ⟨ee.keep D _ hh' n2, ?_⟩
        cases z : Ib D with
        | none => rfl
        | some w =>
          rcases ee.fresh D w z with y | y
          · rw [hn'] at y; cases y
          · rw [hh'] at y; cases y
      obtain ⟨u2, v2⟩ := D4 ex hu nu
      obtain ⟨u4, v4⟩ := D4 e4 u2 v2
      cases b with
      | false => exact ⟨hlt, I4, acc, us, e14, u4, daa_mono e4.sub _ _ (daa_mono ex.sub _ _ au), v4, by omega, by simpa using q4⟩
      | true =>
        have h4 : Here Z.calm I4 H4 δ3 σ3 noE := h3.ext e4
        refine he I4 H4 δ3 σ3 _ noE _ h4 q4 (Then.frz (Qd := fun y => match y with | .d y => lcGo _ (ds.drop (i + 1)) (acc ++ (some y).toList) (fun ys => Qd (.new ys)) | _ => False) fun y w I5 H5 e5 ay q5 => ?_)
        dsimp only at q5
        split at q5
        · obtain ⟨u5, v5⟩ := D4 e5 u4 v4
          have au5 := daa_mono e5.sub _ _ (daa_mono e4.sub _ _ (daa_mono ex.sub _ _ au))
          refine ⟨us, u5, by omega, hlt, I5, _, us ++ [w], ext_upd (e14.trans h1.g e5) hD n2 v5, upd_same, au5.app (.cons ay .nil), v5, ?_, q5⟩
          rw [List.length_append]
          simp only [Option.toList, List.length_cons, List.length_nil]
          omega
        · exact q5.elim
  · have e : i = ds.length := by omega
    subst e
    rw [List.drop_length] at q'
    refine .inl ⟨stop, k1 (.new acc) (.ref D) I' H' e' ⟨⟨D, us, rfl, hu, au, nu, n2, by omega⟩, fun b eb => ?_⟩ q'⟩
    cases eb
    exact ⟨hD, hD0⟩
theorem de_lc {elt tg iter : Expr} {ifs : List Expr} {scope : Scope} {own : List (Str × Nat)} {wi : TI} {g : TG} {tt : TT} {te : TE} {ti : TDI} {dg : TDG} {dt : TDT} {de : TD} (hc : X.calm = true) (hN : X.N.Nodup) (hi : DI X Z tg iter wi ti) (ok : BlkOk X.N X.env.scope scope own)
    (hg : ∀ (s : Shared) (H : Hp) (C : Addr) (cl : List (Str × Addr)) (fp : List Addr), DG (X.blk s H scope (compEnvC scope cl C X.env) fp) Z.calm tg g dg) (ht : ∀ (s : Shared) (H : Hp) (C : Addr) (cl : List (Str × Addr)) (fp : List Addr), DTs (X.blk s H scope (compEnvC scope cl C X.env) fp) Z.calm ifs tt dt)
    (he : ∀ (s : Shared) (H : Hp) (C : Addr) (cl : List (Str × Addr)) (fp : List Addr), DE (X.blk s H scope (compEnvC scope cl C X.env) fp) Z.calm elt te de) (tgt : Tgt g (own.map (·.2))) (s0 : Shared) (hs : ∀ x, foldedSetIterable iter X.env x = pure x := by intro _; rfl) :
    DE X Z (.ListComp elt [⟨tg, iter, ifs, 0⟩] scope pos) (tLc wi g tt te (own.map (·.2))) (dLc ti dg dt de (own.map (·.2))) :=
  ⟨pe_lc hc hN hi.pi ok (fun s H C cl fp => (hg s H C cl fp).pg) (fun s H C cl fp => (ht s H C cl fp).pt) (fun s H C cl fp => (he s H C cl fp).pe) hs,
    lc_rf hi.rf (hg s0 (fun _ => none) 0 [] []).rf (ht s0 (fun _ => none) 0 [] []).rf (he s0 (fun _ => none) 0 [] []).rf tgt⟩
end
end PD
set_option Elab.async false
set_option linter.all false
set_option maxRecDepth 100000
set_option maxHeartbeats 1000000
namespace PD
open PySem PySem.Spec PyProof.Rows L2
section
variable {X : Cx} {Z : Zx} {pos : Pos} {e : Expr} {es : List Expr}
/-! ### name = [..] on one line -/
theorem ds_setLc {i : Nat} {y : Str} {py : Pos} {elt tg iter : Expr} {ifs : List Expr} {scope : Scope} {own : List (Str × Nat)} {spos : Pos} {wi : TI} {g : TG} {tt : TT} {te : TE} {ti : TDI} {dg : TDG} {dt : TDT} {de : TD} (s0 : Shared) (hc : X.calm = true) (hN : X.N.Nodup) (hy : X.N[i]? = some y) (hyl : X.env.scope.names.lookup y = some .local)
    (hsw : swapsWith (.ListComp elt [⟨tg, iter, ifs, 0⟩] scope pos) (some (.Name y py)) spos.line X.env = pure true) (hi : DI X Z tg iter wi ti) (ok : BlkOk X.N X.env.scope scope own)
    (hg : ∀ (s : Shared) (H : Hp) (C : Addr) (cl : List (Str × Addr)) (fp : List Addr), DG (X.blk s H scope (compEnvC scope cl C X.env) fp) Z.calm tg g dg) (ht : ∀ (s : Shared) (H : Hp) (C : Addr) (cl : List (Str × Addr)) (fp : List Addr), DTs (X.blk s H scope (compEnvC scope cl C X.env) fp) Z.calm ifs tt dt)
    (he : ∀ (s : Shared) (H : Hp) (C : Addr) (cl : List (Str × Addr)) (fp : List Addr), DE (X.blk s H scope (compEnvC scope cl C X.env) fp) Z.calm elt te de) (tgt : Tgt g (own.map (·.2))) (hs : ∀ x, foldedSetIterable iter X.env x = pure x := by intro _; rfl) :
    DS X Z (.Assign [.Name y py] (.ListComp elt [⟨tg, iter, ifs, 0⟩] scope pos) spos) (tAsg (tLc wi g tt te (own.map (·.2))) (gName i)) (dAsg (dLc ti dg dt de (own.map (·.2))) (dName i)) :=
  ⟨ps_setLc hc hN hy hyl hsw hi.pi ok (fun s H C cl fp => (hg s H C cl fp).pg) (fun s H C cl fp => (ht s H C cl fp).pt) (fun s H C cl fp => (he s H C cl fp).pe) hs,
    asg_rf (lc_rf hi.rf (hg s0 (fun _ => none) 0 [] []).rf (ht s0 (fun _ => none) 0 [] []).rf (he s0 (fun _ => none) 0 [] []).rf tgt) (dg_name (pos := pos) hN hy (.inl hyl) (.inr hyl)).rf⟩
theorem ds_setLcO {i : Nat} {y : Str} {py : Pos} {elt tg iter : Expr} {ifs : List Expr} {scope : Scope} {own : List (Str × Nat)} {spos : Pos} {wi : TI} {g : TG} {tt : TT} {te : TE} {ti : TDI} {dg : TDG} {dt : TDT} {de : TD} (s0 : Shared) (hc : X.calm = true) (hN : X.N.Nodup) (hy : X.N[i]? = some y) (hyl : X.env.scope.names.lookup y = some .local)
    (hsw : swapsWith (.ListComp elt [⟨tg, iter, ifs, 0⟩] scope pos) (some (.Name y py)) spos.line X.env = pure true) (hi : DI X Z tg iter wi ti) (ok : BlkOk X.N X.env.scope scope own)
    (hg : ∀ (s : Shared) (H : Hp) (C : Addr) (cl : List (Str × Addr)) (fp : List Addr), DG (X.blk s H scope (compEnvC scope cl C X.env) fp) Z.calm tg g dg) (ht : ∀ (s : Shared) (H : Hp) (C : Addr) (cl : List (Str × Addr)) (fp : List Addr), DTs (X.blk s H scope (compEnvC scope cl C X.env) fp) Z.calm ifs tt dt)
    (he : ∀ (s : Shared) (H : Hp) (C : Addr) (cl : List (Str × Addr)) (fp : List Addr), DE (X.blk s H scope (compEnvC scope cl C X.env) fp) Z.calm elt te de) (tgt : Tgt g (own.map (·.2))) (hs : ∀ x, foldedSetIterable iter X.env x = pure x := by intro _; rfl) :
    DS X Z (.Assign [.Name y py] (.ListComp elt [⟨tg, iter, ifs, 0⟩] scope pos) spos) (tAsg (tLc wi g tt te (own.map (·.2))) (gName i)) (dAsgO (dLc ti dg dt de (own.map (·.2))) i) :=
  ⟨ps_setLc hc hN hy hyl hsw hi.pi ok (fun s H C cl fp => (hg s H C cl fp).pg) (fun s H C cl fp => (ht s H C cl fp).pt) (fun s H C cl fp => (he s H C cl fp).pe) hs,
    asgO_rf (lc_rf hi.rf (hg s0 (fun _ => none) 0 [] []).rf (ht s0 (fun _ => none) 0 [] []).rf (he s0 (fun _ => none) 0 [] []).rf tgt)⟩
/-! ### exceptions made and raised -/
abbrev TDM := DEnv → EK → EK → Prop
structure DMk (X : Cx) (Z : Zx) (e : Expr) (tm : St → Hp → XK → Prop) (dm : TDM) : Prop where
  pm : PMk X e tm
  rf : ∀ I H δ σ Qx Ed (Q : XK), Here Z I H δ σ Ed → dm δ Qx Ed → (∀ x c od I' H', Ext Z.R I H I' H' → ExAt Z.K I' H' x c od → Qx x → Q c od H') → tm σ H Q
def dRaise (dm : TDM) : TDS := fun _ E δ => dm δ E E
theorem ds_raise {tm : St → Hp → XK → Prop} {dm : TDM} (hc : X.calm = true) (tk : Takes X Z.W) (h : DMk X Z e tm dm) : DS X Z (.Raise (some e) none pos) (fun _ σ H => tm σ H fun cls d H' => Z.W cls d σ H') (dRaise dm) :=
  ⟨ps_raise hc tk h.pm, fun I H δ σ D Ed T hh q l => h.rf I H δ σ _ Ed _ hh q fun x c od I' H' e xa q => hh.w x c od I' H' (hh.e0.trans hh.g0 e) xa q⟩
/-- an own class without fields, made with a text -/
def dMk0 (C : Addr) : TDM := fun _ Qx _ => Qx ⟨C, []⟩
theorem dm_own {x m : Str} {j : Nat} {p p2 : Pos} {C : Addr} {bmB : List Value} {B newId initId : String} (F : ExcBaseFacts B newId initId bmB) (q : PySem.W.excIn X.K C bmB newId = true) (gC : X.mg x = some (.ref C)) (kC : PySem.W.keepIn X.K (.ref C) = true) (r : Raises X (.ref C)) (hg : Gl X x)
    (hdb : (x == ("__debug__" : Str)) = false := by decide) : DMk X Z (.Call (.Name x p) [.Constant (.str m) j p2] [] pos) (fun _ H Q => Q (.ref C) none H) (dMk0 C) :=
  ⟨pmk_own F q gC kC r hg hdb, fun I H δ σ Qx Ed Q hh q k => k ⟨C, []⟩ _ _ I H (Ext.refl hh.g) ⟨rfl, .inl ⟨rfl, rfl⟩⟩ q⟩
/-- what an own class's __init__(self, f): self.f = f does -/
def spOneField (K : PySem.W.Frag) (f : Str) : Sp := fun vs H Q _ => ∃ (a C : Addr) (y : V), vs = [.ref a, y] ∧ OexC K C ∧ PySem.W.findIn K (.ref C) f = some none ∧ H a = some (exo a C none) ∧
  ∀ dx, H dx = none → dx ≠ a → Q .non (upd (upd H dx (exd dx [(f, y)])) a (exo a C (some dx)))
/-- .. made with one datum -/
def dMk1 (C : Addr) (f : Str) (d : TD) : TDM := fun δ Qx E => d δ (fun y => match froz y with
  | .d y => Qx ⟨C, [(f, y)]⟩
  | _ => False) E
theorem dm_one {x f : Str} {p : Pos} {C fI : Addr} {k : Nat} {fd : FuncData} {ps : List Str} {te : TE} {d : TD} (T : OexC X.K C) (no : PySem.W.findIn X.K (.ref C) f = some none) (iC : PySem.W.findIn X.K (.ref C) "__init__" = some (some (.ref fI))) (tI : PySem.W.typeIn X.K (.ref fI) = some (.type "function"))
    (F1 : FnOk X.prog X.w X.K X.mg X.base (L2.CX X.prog X.w) k fI fd ps (spOneField X.K f)) (hr : Room (k + 1) X.A) (hb : Binds X.K fd ps []) (hx : Passes (L2.CX X.prog X.w) X (fun _ _ _ => False)) (hg : Gl X x) (hm : X.mg x = some (.ref C)) (he : DE X Z e te d)
    (hdb : (x == ("__debug__" : Str)) = false := by decide) (hs : starEach [e] X.env = (false, eval e X.env) :: starEach [] X.env := by rfl) (hpl : (backTo pos (starEach [] X.env)).any (·.1) = false := by rfl) :
    DMk X Z (.Call (.Name x p) [e] [] pos) (tMkO C (spOneField X.K f) [] (tCons te tNil)) (dMk1 C f d) := by
  refine ⟨pmk_oex T iC tI F1 hr hb .nil hx hg hm (pa_cons he.pe pa_nil hs) hdb hs hpl, fun I H δ σ Qx Ed Q hh q k => ?_⟩
  refine he.rf I H δ σ _ Ed _ hh q (Then.frz (Qd := fun y => match y with | .d y => Qx ⟨C, [(f, y)]⟩ | _ => False) fun y v I1 H1 e1 ay q1 => ?_)
  dsimp only at q1
  split at q1
  · refine ⟨by show 1 ≤ 1000; decide, fun a ha => ⟨a, C, v, rfl, T, no, upd_same, fun dx hd hne => ?_⟩⟩
    have hd1 : H1 dx = none := by rw [upd_ne hne] at hd; exact hd
    refine ⟨rfl, dx, [(f, v)], upd_same, by rw [upd_ne hne]; exact upd_same, hd1, ?_⟩
    have e2 : upd (del (upd (upd (upd H1 a (exo a C none)) dx (exd dx [(f, v)])) a (exo a C (some dx))) a) dx (.xd [(f, v)]) = upd H1 dx (.xd [(f, v)]) := by
      funext b
      by_cases h1 : b = dx
      · subst h1; rw [upd_same, upd_same]
      · rw [upd_ne h1, upd_ne h1]
        by_cases h2 : b = a
        · subst h2; rw [del_same]; exact ha.symm
        · rw [del_ne h2, upd_ne h2, upd_ne h1, upd_ne h2]
    rw [e2]
    have ex := ext_own (o := .xd [(f, v)]) e1.good hd1
    exact k ⟨C, [(f, _)]⟩ _ _ I1 _ (e1.trans hh.g ex) ⟨rfl, .inr ⟨dx, [(f, v)], rfl, upd_same, rfl, .cons ay .nil⟩⟩ q1
  · exact q1.elim
end
/-- such an __init__ keeps its word -/
theorem one_field {P : Program} {w : World} {K : PySem.W.Frag} {mg : Str → Option Value} {base : Heap} {x qual s f : Str} {params : Arguments} {scope : Scope} {body : List Stmt} {fI : Addr} {fd : FuncData} (F : FunD K x qual params body scope [] [] fI fd) (S : FnScope [s, f] [s, f] scope)
    (hb : ∀ (cdv : Value) (A : Around) (outer : List Env) (s0 : Shared) (H : Hp) (E : XK), PSs (cxOf (L2.CX P w) P w K mg base [s, f] qual scope fI cdv A outer s0 H E) body (tOst K f (tVar 0) (tVar 1))) : FnOk P w K mg base (L2.CX P w) 1 fI fd [s, f] (spOneField K f) := by
  refine F.ok S (fun vs H Q E h => ?_) (fun cdv A outer s0 H vs Q E hr h => ⟨_, hb cdv A outer s0 H E, ?_⟩)
  · obtain ⟨a, C, y, rfl, _⟩ := h
    rfl
  · obtain ⟨a, C, y, rfl, T, no, ha, k⟩ := h
    exact ⟨y, rfl, .ref a, rfl, a, C, rfl, T, no, .inl ⟨ha, fun dx hd hne => k dx hd hne⟩⟩
/-! ### a def of the text keeps its word -/
theorem args_env {Z : Zx} {I H : Hp} (h0 : Z.H0 = H) (g : Good Z.R I H) {xs : List DV} {vs : List V} (a : ArgAll Z.K Z.R I H xs vs) (n : Nat) : EnvAt Z I H (xs.map some ++ List.replicate n none) (vs.map some ++ List.replicate n none) := by
  have l := a.len
  have get : ∀ {xs : List DV} {vs : List V}, ArgAll Z.K Z.R I H xs vs → ∀ (i : Nat) (x : DV), xs[i]? = some x → ∃ v, vs[i]? = some v ∧ ArgAt Z.K Z.R I H x v := by
    intro xs vs a
    induction a with
    | nil => intro i x q; simp at q
    | cons a t ih =>
      intro i x q
      cases i with
      | zero => simp at q; subst q; exact ⟨_, rfl, a⟩
      | succ i => simpa using ih i x (by simpa using q)
  have look : ∀ {α : Type} {l : List α} {i : Nat} {x : α}, (l.map some ++ List.replicate n none)[i]? = some (some x) → l[i]? = some x := fun {α l i x} q => by
    by_cases hi : i < l.length
    · rw [List.getElem?_append_left (by rwa [List.length_map]), List.getElem?_map] at q
      obtain ⟨y, e1, e2⟩ := Option.map_eq_some_iff.mp q
      cases e2
      exact e1
    · rw [List.getElem?_append_right (by rw [List.length_map]; omega)] at q
      have := List.mem_of_getElem? q
      rw [List.mem_replicate] at this
      cases this.2
  refine ⟨by simp [l], fun i x q => ?_, fun i j ys zs v hn h1 h2 => ?_⟩
  · obtain ⟨v, e1, a1⟩ := get a i x (look q)
    have hi : i < vs.length := (List.getElem?_eq_some_iff.mp e1).1
    refine ⟨v, ?_, ?_⟩
    · rw [List.getElem?_append_left (by rwa [List.length_map]), List.getElem?_map, e1]
      rfl
    · cases x with
      | d x => exact a1
      | bor f ys =>
        refine ⟨a1.1, a1.2, fun p e z => ?_⟩
        obtain ⟨q, us, e2, h1, _⟩ := a1.2
        rw [e2] at e
        cases e
        rw [h0, h1] at z
        cases z
      | new ys => exact a1.elim
      | own ys => exact a1.elim
      | v u => exact a1
  · obtain ⟨v, _, a1⟩ := get a i _ (look h1)
    exact a1.elim
def entry (N : List Str) (xs : List DV) : DEnv := xs.map some ++ List.replicate (N.length - xs.length) none
/-- what the exceptions of a def's body are to be -/
abbrev wOf (E : XK) : WX := fun c d _ H => E c d H
theorem fn_ok {P : Program} {w : World} {K : PySem.W.Frag} {mg : Str → Option Value} {base : Heap} {x qual : Str} {params : Arguments} {body : List Stmt} {scope : Scope} {dvs : List V} {kws : List (Str × V)} {f : Addr} {fd : FuncData} {N ps : List Str} {k n : Nat} {S : Spd} (F : FunD K x qual params body scope dvs kws f fd) (hS : FnScope N ps scope) (hn : ps.length = n)
    (hb : ∀ (cdv : Value) (A : Around) (outer : List Env) (s : Shared) (I H : Hp) (E : XK) (R : Reg), Room k (A.deeper (envOfC qual scope s.heap.objs.size f cdv)) →
      ∃ ts t, DSs (cxOf (L2.CX P w) P w K mg base N qual scope f cdv A outer s H E) ⟨K, R, wOf E, I, H⟩ body ts t ∧ ∀ xs Qd Ed, xs.length = n → S R xs Qd Ed → t { nx := fun _ => Qd (.d .none), rt := Qd } Ed (entry N xs)) :
    FnOk P w K mg base (L2.CX P w) (k + 1) f fd ps (lift K S n) := by
  refine F.ok hS (fun vs H Q E h => h.1.trans hn.symm) (fun cdv A outer s H vs Q E hr h => ?_)
  obtain ⟨hl, R, I, xs, Qd, Ed, g, a, q, kr, kx⟩ := h
  obtain ⟨ts, t, D, sp⟩ := hb cdv A outer s I H E R hr
  have l := a.len
  refine ⟨ts, D.ps, D.rf I H (entry N xs) (L2.start N vs) _ Ed _ ⟨g, Ext.refl g, ?_, fun x c od I' H' e xa qx => kx x c od I' H' e xa qx⟩ (sp xs Qd Ed (by omega) q) ⟨fun δ σ I' H' e _ _ q => kr (.d .none) .non I' H' e Da.non q, fun x v I' H' e r q => kr x v I' H' e r q, fun _ _ _ _ _ _ _ q => q.elim, fun _ _ _ _ _ _ _ q => q.elim⟩⟩
  have := args_env (Z := ⟨K, R, wOf E, I, H⟩) rfl g a (N.length - xs.length)
  unfold entry L2.start
  rw [show N.length - vs.length = N.length - xs.length by omega]
  exact this
theorem flat_of {K : PySem.W.Frag} {R : Reg} {E : XK} {I H : Hp} : Flat ⟨K, R, wOf E, I, H⟩ := fun _ _ _ _ _ h => h
end PD
set_option Elab.async false
set_option linter.all false
set_option maxRecDepth 100000
set_option maxHeartbeats 1000000
namespace PD
open PySem PySem.Spec PyProof.Rows L2
/-! ### small facts -/
theorem b_len : bootBuiltins "len" = some (.builtin "len") := by decide +kernel
theorem b_all : bootBuiltins "all" = some (.builtin "all") := by decide +kernel
theorem b_any : bootBuiltins "any" = some (.builtin "any") := by decide +kernel
theorem b_isinstance : bootBuiltins "isinstance" = some (.builtin "isinstance") := by decide +kernel
theorem b_max : bootBuiltins "max" = some (.builtin "max") := by decide +kernel
theorem b_min : bootBuiltins "min" = some (.builtin "min") := by decide +kernel
theorem b_abs : bootBuiltins "abs" = some (.builtin "abs") := by decide +kernel
theorem b_repr : bootBuiltins "repr" = some (.builtin "repr") := by decide +kernel
theorem b_sorted : bootBuiltins "sorted" = some (.builtin "sorted") := by decide +kernel
theorem b_str : bootBuiltins "str" = some (.type "str") := by decide +kernel
theorem b_int : bootBuiltins "int" = some (.type "int") := by decide +kernel
theorem b_bool : bootBuiltins "bool" = some (.type "bool") := by decide +kernel
theorem b_list : bootBuiltins "list" = some (.type "list") := by decide +kernel
theorem b_tuple : bootBuiltins "tuple" = some (.type "tuple") := by decide +kernel
theorem b_set : bootBuiltins "set" = some (.type "set") := by decide +kernel
theorem b_range : bootBuiltins "range" = some (.type "range") := by decide +kernel
theorem b_enumerate : bootBuiltins "enumerate" = some (.type "enumerate") := by decide +kernel
theorem hu64 {k : Nat} {A : Around} (r : Room k A) : A.units + 64 < cLine := by have := r.un; omega
theorem hu65 {k : Nat} {A : Around} (r : Room k A) : A.units + 65 < cLine := by have := r.un; omega
section
variable {X : Cx} {Z : Zx} {pos : Pos} {e tg : Expr} {te : TE} {d : TD}
def oNeg : O1 := fun x Q _ => match x with
  | .d (.int i) => Q (.d (.int (-i)))
  | _ => False
theorem ud_neg : UnD Z (rU fun i => .int (-i)) oNeg := fun I H Hs x v Qd Ed Q g' a t k => by
  unfold oNeg at t
  split at t
  · cases a
    exact ⟨_, rfl, k.now g'.g (.int _) t⟩
  · exact t.elim
def oAbs : OC := fun xs Q _ => match xs with
  | [.d (.int i)] => Q (.d (.int (if i < 0 then -i else i)))
  | _ => False
theorem cd_abs : CallD Z (fun xs H Q => ∃ i, xs = [.int i] ∧ Q (.int (if i < 0 then -i else i)) H) oAbs := fun I H Hs xs vs Qd Ed Q g' a t k => by
  unfold oAbs at t
  split at t
  · obtain ⟨v, rfl, a'⟩ := at1 a
    cases a'
    exact ⟨_, rfl, k.now g'.g (.int _) t⟩
  · exact t.elim
theorem dt_chain {a b c : Expr} {ta tb tc : TE} {da db dc : TD} {op op' : CmpOp} {r r' : R2} {o o' : O2} (h : OpR X (compareOp op) r) (h' : OpR X (compareOp op') r') (ho : OpD Z r o) (ho' : OpD Z r' o') (ha : DE X Z a ta da) (hb : DE X Z b tb db) (hc : DE X Z c tc dc)
    (hm : lastMarks [op, op'] [b, c] = false := by with_unfolding_all rfl) : DT X Z (.Compare a [op, op'] [b, c] pos) (tB (tChain r r' ta tb tc)) (dB (dChain o o' da db dc)) :=
  dt_of (de_chain (pos := pos) h h' ho ho' ha hb hc hm) fun _ => pt_chain h h' ha.pe hb.pe hc.pe hm

/-! ### a, *b = e -/
section
variable {prog : Program} {w : World} {A : Around} {E : Value → Shared → Prop} {s : Shared} {env : Env}
theorem star_items {l : Addr} {items : Array Value} {n i : Nat} {Q : List Value → Shared → Prop} (hl : s.heap.IsList l items ∨ IsTup s.heap l items) (hh : A.handled = none) (hi : i < n) (hn : n ≤ items.size + 1) (hz : items.size ≤ sizeLine)
    (h : ∀ h₂ tk, Heap.ExtBut s.heap.objs.size s.heap h₂ → wpAny (model prog w) A (newList ((items.toList.drop i).take (items.size + 1 - n))) (fun D s' => Q (items.toList.take i ++ [D] ++ (items.toList.drop i).drop (items.size + 1 - n)) s') E { s with heap := h₂, toks := tk }) :
    wpAny (model prog w) A (unpackItems (.ref l) n (some i)) Q E s := by
  have hfl : (items.toList.take i).length = i := by rw [List.length_take, Array.length_toList]; omega
  have hrl : (items.toList.drop i).length = items.size - i := by rw [List.length_drop, Array.length_toList]
  have hmid : (items.toList.drop i).length - (n - 1 - i) = items.size + 1 - n := by rw [hrl]; omega
  rcases hl with hl | hl
  · have hlt : l ≠ s.heap.objs.size := by obtain ⟨o, ho, _⟩ := hl; exact Nat.ne_of_lt (Heap.lt_size ho)
    unfold unpackItems
    refine wpAny_bind ?_
    unfold notIterableAtAll
    refine wpAny_bind (wpAny_specialOf hl.typeIs slot_list_iter.lookup ?_)
    refine wpAny_pure ?_
    simp only [Bool.false_eq_true, if_false]
    refine wpAny_bind (wpAny_holding (wpAny_pyIter_list hl ?_))
    refine wpAny_bind (wpAny_holding (PySem.W.kun_draw hlt i 0 _ _ ⟨_, Heap.get?_push_size _ rfl, rfl, rfl⟩ (hl.push _) (by omega) fun h₁ hit₁ hs₁ => ?_))
    have hl₁ : h₁.IsList l items := (hl.push _).extBut hs₁.extBut hlt
    rw [Nat.zero_add] at hit₁
    obtain ⟨oi, hoi, _⟩ := id hit₁
    obtain ⟨ol, hol, _⟩ := id hl₁
    rw [List.drop_zero]
    rw [if_neg (show ¬ ((items.toList.take i).length < i) by rw [hfl]; omega)]
    refine wpAny_bind (wpAny_holding (PySem.W.kun_collect (s := { s with heap := h₁ }) (T := "list_iterator") (.inr (.inr (.inl rfl))) (Walks.list (A := A.in1) hh s.heap.objs.size l hlt items) (fun j u st => st.1.typeIs) (k := i) (by omega) ⟨hit₁, hl₁⟩ (Heap.lt_size hoi) (Heap.lt_size hol) (fun h₂ tk hk => ?_) hz))
    show wpAny _ _ (if (items.toList.drop i).length < n - 1 - i then _ else _) _ _ _
    rw [if_neg (by rw [hrl]; omega)]
    show wpAny _ _ (newList ((items.toList.drop i).take ((items.toList.drop i).length - (n - 1 - i))) >>= fun d => pure (items.toList.take i ++ [d] ++ (items.toList.drop i).drop ((items.toList.drop i).length - (n - 1 - i)))) _ _ _
    rw [hmid]
    exact wpAny_bind (thn (h h₂ tk fun b o hb e => hk b o hb (hs₁.extBut b o hb (Heap.get?_push_of_some _ e))) fun D s' q => wpAny_pure q)
  · have hlt : l ≠ s.heap.objs.size := by obtain ⟨o, ho, _⟩ := hl; exact Nat.ne_of_lt (Heap.lt_size ho)
    unfold unpackItems
    refine wpAny_bind ?_
    unfold notIterableAtAll
    refine wpAny_bind (wpAny_specialOf hl.typeIs slot_tuple_iter.lookup ?_)
    refine wpAny_pure ?_
    simp only [Bool.false_eq_true, if_false]
    refine wpAny_bind (wpAny_holding (iter_tuple hl ?_))
    refine wpAny_bind (wpAny_holding (draw_tuple hlt i 0 _ _ ⟨_, Heap.get?_push_size _ rfl, rfl, rfl⟩ (hl.push _) (by omega) fun h₁ hit₁ hs₁ => ?_))
    have hl₁ : IsTup h₁ l items := (hl.push _).extBut hs₁.extBut hlt
    rw [Nat.zero_add] at hit₁
    obtain ⟨oi, hoi, _⟩ := id hit₁
    obtain ⟨ol, hol, _⟩ := id hl₁
    rw [List.drop_zero]
    rw [if_neg (show ¬ ((items.toList.take i).length < i) by rw [hfl]; omega)]
    refine wpAny_bind (wpAny_holding (PySem.W.kun_collect (s := { s with heap := h₁ }) (T := "tuple_iterator") (.inr (.inr (.inr rfl))) (Walks.tuple (A := A.in1) hh s.heap.objs.size l hlt items) (fun j u st => st.1.typeIs) (k := i) (by omega) ⟨hit₁, hl₁⟩ (Heap.lt_size hoi) (Heap.lt_size hol) (fun h₂ tk hk => ?_) hz))
    show wpAny _ _ (if (items.toList.drop i).length < n - 1 - i then _ else _) _ _ _
    rw [if_neg (by rw [hrl]; omega)]
    show wpAny _ _ (newList ((items.toList.drop i).take ((items.toList.drop i).length - (n - 1 - i))) >>= fun d => pure (items.toList.take i ++ [d] ++ (items.toList.drop i).drop ((items.toList.drop i).length - (n - 1 - i)))) _ _ _
    rw [hmid]
    exact wpAny_bind (thn (h h₂ tk fun b o hb e => hk b o hb (hs₁.extBut b o hb (Heap.get?_push_of_some _ e))) fun D s' q => wpAny_pure q)
end
/-- a tuple's or list's parts, the i-th target a list of what is left between -/
def gStar (K : PySem.W.Frag) (n i : Nat) (t : TGs) : TG := fun v σ H Q => ∃ a xs, v = .ref a ∧ (SqL K H a xs ∨ SqT K H a xs) ∧ n ≤ xs.length + 1 ∧ ∀ D, H D = none →
  t (xs.take i ++ [.ref D] ++ (xs.drop i).drop (xs.length + 1 - n)) σ (upd H D (.lst ((xs.drop i).take (xs.length + 1 - n)))) Q
theorem pg_star {es : List Expr} {k : Nat} {t : TGs} {n i : Nat} (hc : X.calm = true) (h : PGs X es t) (hi : i < n) (hn : (assignEach es X.env).length = n := by rfl) (hst : (assignEach es X.env).findIdx? (·.1) = some i := by rfl) : PG X (.Tuple es k pos) (gStar X.K n i t) := by
  refine ⟨fun pins s σ H v u Q I r hw => ?_⟩
  obtain ⟨a, xs, rfl, hq, hl, hw⟩ := hw
  cases r
  obtain ⟨its, rv, hx, hz⟩ : ∃ its : List Value, Vals xs its ∧ (s.heap.IsList a its.toArray ∨ IsTup s.heap a its.toArray) ∧ xs.length ≤ sizeLine := by
    rcases hq with hq | hq
    · obtain ⟨its, rv, p, hz⟩ := I.list hq
      exact ⟨its, rv, .inl p.isList, hz⟩
    · obtain ⟨its, rv, p, hz⟩ := I.tuple hq
      exact ⟨its, rv, .inr p, hz⟩
  have e := rv.length
  have es1 : its.toArray.size = xs.length := by rw [List.size_toArray, e]
  rw [assign_Tuple]
  refine wpAny_bind (wpAny_standAt ?_)
  unfold unpack
  rw [hn, hst]
  refine wpAny_bind (wpAny_holding (star_items hx (I.ok.hd hc) hi (by rw [es1]; exact hl) (by rw [es1]; exact hz) fun h₂ tk hk => ?_))
  rw [es1]
  have I1 : Inv X pins σ H { s with heap := h₂, toks := tk } := I.kept (t' := tk) fun b o e => hk b o (Nat.ne_of_lt (Heap.lt_size e)) e
  have rm : Vals ((xs.drop i).take (xs.length + 1 - n)) ((its.drop i).take (xs.length + 1 - n)) := (rv.drop i).take _
  have lm : ((xs.drop i).take (xs.length + 1 - n)).length ≤ sizeLine := by
    rw [List.length_take, List.length_drop]
    omega
  refine wpAny_newObj_type ?_ (by have := rm.length; show ((its.drop i).take (xs.length + 1 - n)).length ≤ sizeLine; omega)
  have I2 := I1.lnew (t' := tk) rm lm
  refine h.run pins _ σ _ _ _ Q I2 ?_ (hw _ I1.fresh)
  exact ((rv.take i).append (Paired.cons (show RelV (V.ref _) (Value.ref _) from rfl) .nil)).append ((rv.drop i).drop _)
theorem pgs_consS {t : Expr} {es : List Expr} {p : Pos} {g : TG} {gs : TGs} (h1 : PG X t g) (h2 : PGs X es gs) (hs : (assignEach (.Starred t p :: es) X.env).map (·.2) = assign t X.env :: (assignEach es X.env).map (·.2) := by rfl) : PGs X (.Starred t p :: es) (gCons g gs) := by
  refine ⟨fun pins s σ H vs us Q I r h => ?_⟩
  obtain ⟨v, vr, e1, h⟩ := h
  subst e1
  cases r with
  | cons r rr =>
    rw [hs]
    refine assignInOrder_cons (thn (h1.run pins s σ H _ _ _ I r h) fun _ s1 ⟨σ1, H1, I1, q1⟩ => ?_)
    exact h2.run pins s1 σ1 H1 _ _ Q I1 rr q1
theorem dgs_consS {t : Expr} {es : List Expr} {p : Pos} {g : TG} {gs : TGs} {a : TDG} {r : TDGs} (h : DG X Z t g a) (h' : DGs X Z es gs r) (hs : (assignEach (.Starred t p :: es) X.env).map (·.2) = assign t X.env :: (assignEach es X.env).map (·.2) := by rfl) : DGs X Z (.Starred t p :: es) (gCons g gs) (dGCons a r) := by
  refine ⟨pgs_consS h.pg h'.pg hs, fun I H δ σ ds vs Qd Q gg env ad q k => ?_⟩
  cases ad with
  | nil => exact q.elim
  | cons a1 at1 => exact ⟨_, _, rfl, h.rf I H δ σ _ _ _ _ H gg env (show At Z H I H (.d _) _ from a1) q fun δ' σ' I' H' ex env' q' => h'.rf I' H' δ' σ' _ _ _ _ ex.good env' (daa_mono ex.sub _ _ at1) q' fun δ2 σ2 I2 H2 ex2 => k δ2 σ2 I2 H2 (ex.trans gg ex2)⟩
def dGStar (n i : Nat) (r : TDGs) : TDG := fun x δ Q => ∃ ds, seqOf x = some ds ∧ n ≤ ds.length + 1 ∧ r (ds.take i ++ [.list ((ds.drop i).take (ds.length + 1 - n))] ++ (ds.drop i).drop (ds.length + 1 - n)) δ Q
theorem dg_star' {es : List Expr} {k : Nat} {g : TGs} {r : TDGs} {n i : Nat} (hc : X.calm = true) (h : DGs X Z es g r) (hK : Z.K = X.K) (hi : i < n) (hn : (assignEach es X.env).length = n := by rfl) (hst : (assignEach es X.env).findIdx? (·.1) = some i := by rfl) : DG X Z (.Tuple es k pos) (gStar X.K n i g) (dGStar n i r) := by
  refine ⟨pg_star hc h.pg hi hn hst, fun I H δ σ x v Qd Q Hs gg env a q k => ?_⟩
  obtain ⟨ds, e1, hl, q⟩ := q
  obtain ⟨p, vs, rfl, h1, h2, h3⟩ := seq_at gg a e1
  have l := h2.len
  refine ⟨p, vs, rfl, by rw [← hK]; exact h1, by omega, fun D hD => ?_⟩
  have hm := (h2.drop i).take (ds.length + 1 - n)
  have hz : LenOk (.lst ((vs.drop i).take (vs.length + 1 - n))) := by
    show ((vs.drop i).take (vs.length + 1 - n)).length ≤ sizeLine
    rw [List.length_take, List.length_drop]
    omega
  have ex := ext_new gg hD hz
  obtain ⟨n1, n2⟩ := fresh_off (Z := Z) gg hD
  have up := upd_sub (o := .lst ((vs.drop i).take (vs.length + 1 - n))) n1
  rw [← l] at hm q
  refine h.rf _ _ δ σ _ _ _ _ ex.good (env.ext ex) ?_ q fun δ' σ' I2 H2 ex2 => k δ' σ' I2 H2 (ex.trans gg ex2)
  exact (((daa_mono up _ _ h2).take i).app (.cons (.lst upd_same (daa_mono up _ _ hm)) .nil)).app (((daa_mono up _ _ h2).drop i).drop _)
theorem dg_star {es : List Expr} {k : Nat} {g : TGs} {r : TDGs} {n i : Nat} (hc : X.calm = true) (h : DGs X Z es g r) (hK : Z.K = X.K) (hi : i < n) (hn : (assignEach es X.env).length = n := by rfl) (hst : (assignEach es X.env).findIdx? (·.1) = some i := by rfl) : DG X Z (.Tuple es k pos) (gStar Z.K n i g) (dGStar n i r) := by rw [hK]; exact dg_star' hc h hK hi hn hst
end
end PD
set_option Elab.async false
set_option linter.all false
set_option maxRecDepth 100000
set_option maxHeartbeats 1000000
/-! an exception out of a comprehension: the block's element (or its second source) calls a def that raises -/
namespace PD
open PySem PySem.Spec PyProof.Rows L2
/-- the context of a block that may let out -/
abbrev blkE (X : Cx) (s : Shared) (H : Hp) (scope : Scope) (cenv : Env) (fp : List Addr) (xe : Value → Shared → Prop) : Cx := { X.blk s H scope cenv fp with xe := xe }
/-- what calls let out is taken -/
def TakesC (Y : Cx) (W : WX) : Prop := ∀ σ, PassesAt (L2.CX Y.prog Y.w) Y σ (WE W σ)
theorem takesC {X : Cx} {W : WX} (tk : Takes X W) : TakesC X W := fun σ => passAt tk σ
theorem takesC0 {X : Cx} : TakesC X (fun _ _ _ _ => False) := takesC takes0
section
variable {X : Cx} {pins : List (Addr × Obj)} {σ : St} {H : Hp} {s s' : Shared} {E : XK}
/-- a call's exception is in our air, flying -/
theorem call_flies (I : Inv X pins σ H s) {u : Value} (c : CX X.prog X.w X.stack H s E u s') :
    ∃ (a : Addr) (B : Heap) (sI : Shared) (H' : Hp) (cls : Value) (d : Option Addr), u = .ref a ∧ Inv X pins σ H' sI ∧ (∀ b o, sI.heap.get? b = some o → b ∉ frs X.stack → B.get? b = some o) ∧ sI.heap.UpToSlots s'.heap ∧
      HandSPX.FlyingZ B X.stack a (Zc cls d) s'.heap ∧ H' a = none ∧ s'.os = sI.os ∧ AllBare s'.gens ∧ E cls d H' := by
  obtain ⟨a, B, H', cls, d, rfl, fl, hok, ub, na, os, ag, hE⟩ := c
  obtain ⟨G, g1, g2⟩ := restrict s'.heap fun b => (B.get? b).isSome || decide (b ∈ frs X.stack)
  have st : B.StaysIn s'.heap := fl.1
  have gB : ∀ b o, B.get? b = some o → G.get? b = some o := fun b o e => by
    rw [g1 b (by simp [e])]
    exact st b o e
  have gF : ∀ b, b ∈ frs X.stack → G.get? b = s'.heap.get? b := fun b hb => g1 b (by simp [hb])
  have og : ∀ b o, G.get? b = some o → s'.heap.get? b = some o ∧ ((B.get? b).isSome = true ∨ b ∈ frs X.stack) := fun b o e => by
    cases q : ((B.get? b).isSome || decide (b ∈ frs X.stack)) with
    | false => rw [g2 b q] at e; cases e
    | true =>
      rw [g1 b q] at e
      exact ⟨e, by simpa [Bool.or_eq_true] using q⟩
  refine ⟨a, B, { s with heap := G, gens := s'.gens, drawn := s'.drawn, toks := s'.toks }, H', cls, d, rfl, ?_, fun b o e hb => ?_, Heap.UpToSlots.of_keeps fun b o e => (og b o e).1, fl, na, os, ag, hE⟩
  · refine I.call (ch := []) ⟨fun b o e n hb _ => gB b o (ub.keep b o e n hb), fun b o e n hb _ => ?_, fun b o e n _ => ub.free b o e n, fun b o e _ => ?_, ub.tups, ub.frzs, ub.tbls⟩ (hok.kept gB) ag (fun _ z => nomatch z)
    · obtain ⟨sl, q⟩ := ub.slot b o e hb
      exact ⟨sl, by rw [gF b hb]; exact q⟩
    · by_cases hb : b ∈ frs X.stack
      · obtain ⟨sl, q⟩ := ub.slot b o e hb
        exact ⟨_, by rw [gF b hb]; exact q⟩
      · obtain ⟨o', q⟩ := ub.there b o e hb
        exact ⟨o', gB b o' q⟩
  · obtain ⟨e', h⟩ := og b o e
    rcases h with h | h
    · obtain ⟨o', q⟩ := Option.isSome_iff_exists.mp h
      have z := st b o' q
      rw [e'] at z; cases z
      exact q
    · exact absurd h hb
end
/-- what is wanted of exceptions hangs on no slot -/
def FlatW (W : WX) : Prop := ∀ c od σ σ' H, W c od σ H → W c od σ' H
/-- the block's exceptions: noted, its names let go, passed on in the def's frame -/
abbrev xeB (X : Cx) (ce : Env) : Value → Shared → Prop := notedBy (model X.prog X.w) X.A ce (CompFails (model X.prog X.w) X.A X.xe ce)
theorem takes_blk {X : Cx} {W : WX} {pins : List (Addr × Obj)} {σ : St} {H : Hp} {s : Shared} {scope : Scope} {ce : Env} {fp : List Addr} (hs : X.stack = X.env :: X.outer) (hf : X.env.frame = some X.env.locals) (tk : Takes X W) (fl : FlatW W)
    (I : Inv X pins σ H s) (hcf : ce.frame = X.env.frame) (cL : ce.locals = s.heap.objs.size) (hfp : ∀ b ∈ fp, FpOk X pins H b ∧ b < s.heap.objs.size) : TakesC (blkE X s H scope ce fp (xeB X ce)) W := fun σ' pins' H' s1 e s' I1 c => by
  obtain ⟨a, B, sI, H2, cls, d, rfl, I2, nb, up, fly, na, os, ag, hw⟩ := call_flies I1 c
  have hfr : X.A.frames = some (X.env :: X.outer) := by rw [I.ok.frames, hs]
  have fly : HandSPX.FlyingZ B (X.env :: X.outer) a (Zc cls d) s'.heap := by rw [← hs]; exact fly
  show wpAny _ _ (noteFrame (.ref a) ce) _ _ s'
  rw [noteFrame_env _ hcf]
  refine HandSPX.looks_onZ Zc.steady hfr hf fly fun h1 hh up1 => ?_
  obtain ⟨m, hn0, _⟩ := I2.loc
  have hn0 : sI.heap.Ns ce.locals m := hn0
  have hn : h1.Ns ce.locals m := hn0.upToSlots fun b o e nf => by
    obtain ⟨sl, e1⟩ := up b o e nf
    obtain ⟨sl2, e2⟩ := up1 b _ e1 nf
    exact ⟨sl2, e2⟩
  refine ⟨m, hn, fun h2 m2 hn2 sb => ?_⟩
  obtain ⟨b1, b0, f1, t1⟩ := hh
  -- the ground without the block's names
  have n2 : H2 ce.locals = none := I2.free
  have kB : ∀ b o, (PySem.W.hideAll B [ce.locals]).get? b = some o → B.get? b = some o ∧ b ≠ ce.locals := fun b o e => by
    refine ⟨PySem.W.of_hideAll _ e, fun z => ?_⟩
    rw [z, PySem.W.hideAll_none _ List.mem_cons_self] at e
    cases e
  have nB : ∀ b, B.get? b = none → (PySem.W.hideAll B [ce.locals]).get? b = none := fun b e => by
    cases q : (PySem.W.hideAll B [ce.locals]).get? b with
    | none => rfl
    | some o => rw [(kB b o q).1] at e; cases e
  have st2 : (PySem.W.hideAll B [ce.locals]).StaysIn h2 := fun b o e => by
    obtain ⟨e1, ne⟩ := kB b o e
    rw [sb.2 b ne]
    exact b1 b o e1
  have ff2 : h2.FunFrames (PySem.W.hideAll B [ce.locals]) (X.env :: X.outer) := by
    refine funFrames_none (Heap.FunFrames.sameBut sb hn2 f1) fun L hL => nB L ?_
    exact (f1.mem hL).1
  obtain ⟨oe, vs, T, oT, ts, he, hz, hd, hv1, hnT, hTe, hT, hdT, h3⟩ := t1
  obtain ⟨oL, es, ep, hoL, hdL, _⟩ := id hn
  have ne1 : a ≠ ce.locals := fun z => by rw [z, hoL] at he; cases he; rw [hdL] at hd; cases hd
  have ne2 : T ≠ ce.locals := fun z => by rw [z, hoL] at hT; cases hT; rw [hdL] at hdT; cases hdT
  have t2 : HandSPX.TracedZ h2 (PySem.W.hideAll B [ce.locals]) a (Zc cls d) (rawInt X.env.locals) := ⟨oe, vs, T, oT, ts, (sb.2 a ne1).trans he, hz, hd, hv1, nB T hnT, hTe, (sb.2 T ne2).trans hT, hdT, h3⟩
  unfold PySem.passOn
  refine wpAny_bind (wpAny_field ((sb.2 a ne1).trans he) hd hv1 ?_)
  rw [if_neg (show ¬ ((Value.ref T == Value.none) = true) from by simp)]
  rw [hcf, hf]
  refine wpAny_bind (HandSPX.setFlight_anyZ st2 ff2 t2 fun h3 k1 k2 k3 k4 => ?_)
  refine wpAny_throw ?_
  -- back in the def
  have hide : ∀ b o, (PySem.W.hideAll sI.heap [ce.locals]).get? b = some o → sI.heap.get? b = some o ∧ b ≠ ce.locals := fun b o e => by
    refine ⟨PySem.W.of_hideAll _ e, fun z => ?_⟩
    rw [z, PySem.W.hideAll_none _ List.mem_cons_self] at e
    cases e
  have old : ∀ b o, s.heap.get? b = some o → b ∉ [ce.locals] := fun b o e hb => by
    have z := List.mem_singleton.mp hb
    have l := Heap.lt_size e
    rw [z, cL] at l
    exact Nat.lt_irrefl _ l
  have u2 : Un (frs X.stack) fp H H2 s.heap sI.heap := I2.base
  have I3 : Inv X pins σ H2 { sI with heap := PySem.W.hideAll sI.heap [ce.locals] } := I.call' (ch := fp) I2.os
    ⟨fun b o e n hb hx => PySem.W.hideAll_get _ (u2.keep b o e n hb hx) (old b o e), fun b o e n hb hx => by
        obtain ⟨sl, q⟩ := u2.slot b o e n hb hx
        exact ⟨sl, PySem.W.hideAll_get _ q (old b o e)⟩, fun b o e n hx => u2.free b o e n hx, fun b o e hx => by
        obtain ⟨o', q⟩ := u2.there b o e hx
        exact ⟨o', PySem.W.hideAll_get _ q (old b o e)⟩, u2.tups, u2.frzs, u2.tbls⟩
    (fun b o q => (I2.hok b o q).stay (fun c u hc r => PySem.W.hideAll_get _ r fun hm => by
      have z := List.mem_singleton.mp hm
      subst z
      rcases hc with hc | hc
      · rw [hc, q] at n2; cases n2
      · rw [hc] at n2; cases n2) (fun _ r => r) fun _ _ r => r)
    I2.bare fun b hb => ⟨(hfp b hb).1.2.2.2.1, (hfp b hb).1.2.1, (hfp b hb).1.2.2.2.2.1, (hfp b hb).1.2.2.2.2.2⟩
  refine tk (.ref a) _ ⟨a, PySem.W.hideAll B [ce.locals], { sI with heap := PySem.W.hideAll sI.heap [ce.locals] }, pins, σ, H2, cls, d, rfl, I3, fun b o e hb => ?_, fun b o e nf => ?_, .inr (.inr ?_), na, os, ag, fl _ _ _ _ _ hw⟩
  · obtain ⟨e1, ne⟩ := hide b o e
    exact PySem.W.hideAll_get _ (nb b o e1 hb) fun hm => ne (List.mem_singleton.mp hm)
  · obtain ⟨e1, ne⟩ := hide b o e
    obtain ⟨sl, e2⟩ := up b o e1 nf
    obtain ⟨sl2, e3⟩ := up1 b _ e2 nf
    obtain ⟨sl3, e4⟩ := k4 b _ ((sb.2 b ne).trans e3) nf
    exact ⟨sl3, e4⟩
  · rw [hs]
    exact ⟨k1, nB a b0, k2, k3⟩
end PD
set_option Elab.async false
set_option linter.all false
set_option maxRecDepth 100000
set_option maxHeartbeats 2000000
/-! comprehensions that may let an exception out: HandS.Comp's lc_core and lc2_core, turned: the block's context takes what its calls let out (proofs follow those) -/
namespace PD
open PySem PySem.Spec PyProof.Rows L2
theorem thnX {α : Type} {t : Sem α} {Q Q' : α → Shared → Prop} {M : Model} {A : Around} {ce : Env} {E R : Value → Shared → Prop} {s : Shared} (hR : ∀ e s', E e s' → R e s') (h : wpAny M A t Q (notedBy M A ce E) s) (hQ : ∀ a s, Q a s → Q' a s) : wpAny M A t Q' (notedBy M A ce R) s :=
  wpAny_mono h hQ fun e s' z => wpAny_mono z (fun _ _ q => hR _ _ q) fun e s q => hR _ _ q
/-- what is wanted of exceptions hangs on no invariant -/
theorem inv_xe {Y : Cx} {xe : Value → Shared → Prop} {pins : List (Addr × Obj)} {σ : St} {H : Hp} {s : Shared} (I : L2.Inv Y pins σ H s) : L2.Inv { Y with xe := xe } pins σ H s :=
  ⟨⟨I.ok.mod, I.ok.kind, I.ok.glob, I.ok.blt, I.ok.above, I.ok.inj, I.ok.has, I.ok.cab, I.ok.hd, I.ok.frames, I.ok.stk, I.ok.exf, I.ok.bs, I.ok.bsz, I.ok.noex, I.ok.exfs, I.ok.funs, I.ok.frf⟩, I.os, I.bare, I.base, I.loc, I.cell, I.free, I.freeC, I.pin, I.hok, I.len⟩
theorem inv_E {X : Cx} {s3 : Shared} {H3 : Hp} {scope : Scope} {ce : Env} {fp : List Addr} {xe : Value → Shared → Prop} {pins : List (Addr × Obj)} {σ : St} {H : Hp} {s : Shared} (I : L2.Inv (X.blk s3 H3 scope ce fp) pins σ H s) : L2.Inv (blkE X s3 H3 scope ce fp xe) pins σ H s := inv_xe I
theorem inv_0 {X : Cx} {s3 : Shared} {H3 : Hp} {scope : Scope} {ce : Env} {fp : List Addr} {xe : Value → Shared → Prop} {pins : List (Addr × Obj)} {σ : St} {H : Hp} {s : Shared} (I : L2.Inv (blkE X s3 H3 scope ce fp xe) pins σ H s) : L2.Inv (X.blk s3 H3 scope ce fp) pins σ H s := inv_xe I
section
variable {X : Cx}
theorem lc_coreX {pins : List (Addr × Obj)} {s : Shared} {σ : St} {H : Hp} {Q : VK} {elt tg iter : Expr} {ifs : List Expr} {scope : Scope} {own : List (Str × Nat)} {pos pos' : Pos} {wi : TI} {g : TG} {tt : TT} {te : TE} {use : Option (Value → Sem Unit)} {Qf : Value → Shared → Prop}
    {W : WX} (hst : X.stack = X.env :: X.outer) (hfr : X.env.frame = some X.env.locals) (tk : Takes X W) (flw : FlatW W) (hc : X.calm = true) (hN : X.N.Nodup) (I : Inv X pins σ H s) (hi : PI X tg iter wi) (ok : BlkOk X.N X.env.scope scope own)
    (hg : ∀ (s : Shared) (H : Hp) (C : Addr) (cl : List (Str × Addr)) (fp : List Addr) (xe : Value → Shared → Prop), TakesC (blkE X s H scope (compEnvC scope cl C X.env) fp xe) W → PG (blkE X s H scope (compEnvC scope cl C X.env) fp xe) tg g) (ht : ∀ (s : Shared) (H : Hp) (C : Addr) (cl : List (Str × Addr)) (fp : List Addr) (xe : Value → Shared → Prop), TakesC (blkE X s H scope (compEnvC scope cl C X.env) fp xe) W → PTs (blkE X s H scope (compEnvC scope cl C X.env) fp xe) ifs tt)
    (he : ∀ (s : Shared) (H : Hp) (C : Addr) (cl : List (Str × Addr)) (fp : List Addr) (xe : Value → Shared → Prop), TakesC (blkE X s H scope (compEnvC scope cl C X.env) fp xe) W → PE (blkE X s H scope (compEnvC scope cl C X.env) fp xe) elt te) (hs : ∀ x, foldedSetIterable iter X.env x = pure x)
    (h : tLc wi g tt te (own.map (·.2)) σ H Q)
    (hRR : ∀ D ce s' m H', Inv X pins σ H' s' → Q (.ref D) H' → s'.heap.Ns (Env.locals ce) m → FpOk X pins H' ce.locals → compEnds (model X.prog X.w) X.A X.xe use Qf (.ref D) ce (.ok .next) s') :
    wpAny (model X.prog X.w) X.A (comprehension (.ListComp elt [⟨tg, iter, ifs, 0⟩] scope pos) scope X.env pos' (newList []) false (eval iter X.env) use) Qf X.xe s := by
  have hfree : ∀ y ∈ scope.names, y.2 = .free → ∃ c, X.env.cells.lookup y.1 = some c := fun y hy e => by
    rcases ok.free y hy e with k | k
    · exact I.ok.has _ (.inl k)
    · exact I.ok.has _ (.inr k)
  refine comprehension_at (use := use) rfl hs (closure_ok hfree) ok.kind (fun y hy e => by rw [ok.uniq y hy, e])
    (thn (hi.run pins s σ H _ I h) fun xv s1 hx => thn hx fun itv s2 h2 => ?_)
  obtain ⟨it, fp, tn, J, H2, e, I2, T, st2, f2, q⟩ := h2
  subst e
  refine wpAny_newObj_type (newEnv_comp ?_) (by show 0 ≤ sizeLine; decide)
  generalize hD : s2.heap.objs.size = D
  have hDn : H2 D = none := I2.hok.fresh (Nat.le_of_eq hD)
  obtain ⟨W, ⟨m0, w0⟩, turn⟩ := q D hDn
  -- the new list
  generalize hs3 : ({ s2 with heap := s2.heap.push { cls := .type "list", data := .seq ([] : List Value).toArray } } : Shared) = s3
  have I3 : Inv X pins σ (upd H2 D (.lst [])) s3 := by
    rw [← hs3]
    refine I2.laid (t' := s2.toks) (fun b o e => Heap.get?_push_of_some _ e) (Nat.le_of_eq hD) ⟨Nat.zero_le _, [], 0, .nil, ?_⟩
    rw [← hD]
    exact Heap.get?_push_size _ rfl
  have h3 : s3.heap = s2.heap.push { cls := .type "list", data := .seq ([] : List Value).toArray } := by rw [← hs3]
  have sz : ∀ b ∈ fp, b < s2.heap.objs.size := fun b hb => by
    obtain ⟨o, e, _⟩ := T.obj _ _ st2 b hb
    exact Heap.lt_size e
  have f3 : ∀ b ∈ fp, FpOk X pins (upd H2 D (.lst [])) b ∧ b < s3.heap.objs.size := fun b hb => by
    have hlt := sz b hb
    refine ⟨⟨?_, (f2 b hb).2⟩, by rw [h3, Heap.size_push]; exact Nat.lt_succ_of_lt hlt⟩
    rw [upd_ne (by rw [← hD]; exact Nat.ne_of_lt hlt)]
    exact (f2 b hb).1
  have st3 : tn 0 s3.heap := T.keep _ _ _ st2 fun b _ o e => by rw [h3]; exact Heap.get?_push_of_some _ e
  have I4 := block_start I3 ok hN f3
  have tkB := takes_blk (scope := scope) (ce := (compEnvC scope (cellsFrom (s3.heap.objs.size + 1) scope.names (cloFrom X.env.cells scope.names [])) s3.heap.objs.size X.env)) (fp := fp) hst hfr tk flw I3 rfl rfl f3
  have pg := hg s3 (upd H2 D (.lst [])) s3.heap.objs.size (cellsFrom (s3.heap.objs.size + 1) scope.names (cloFrom X.env.cells scope.names [])) fp _ tkB
  have pt := ht s3 (upd H2 D (.lst [])) s3.heap.objs.size (cellsFrom (s3.heap.objs.size + 1) scope.names (cloFrom X.env.cells scope.names [])) fp _ tkB
  have pe := he s3 (upd H2 D (.lst [])) s3.heap.objs.size (cellsFrom (s3.heap.objs.size + 1) scope.names (cloFrom X.env.cells scope.names [])) fp _ tkB
  show codeAny _ _ (.compStart (.ListComp elt [⟨tg, iter, ifs, 0⟩] scope pos) 0 (.ref it) (.ref D) (compEnvC scope (cellsFrom (s3.heap.objs.size + 1) scope.names (cloFrom X.env.cells scope.names [])) s3.heap.objs.size X.env)) (compEnds (model X.prog X.w) X.A X.xe use Qf (.ref D) (compEnvC scope (cellsFrom (s3.heap.objs.size + 1) scope.names (cloFrom X.env.cells scope.names [])) s3.heap.objs.size X.env)) { s3 with heap := pushCells (s3.heap.push { cls := .type "dict", data := .dict #[] }) scope.names }
  have nfp : ∀ b ∈ fp, (upd H2 D (.lst [])) b = none := fun b hb => (f3 b hb).1.1
  generalize hce : compEnvC scope (cellsFrom (s3.heap.objs.size + 1) scope.names (cloFrom X.env.cells scope.names [])) s3.heap.objs.size X.env = ce at I4 tkB pg pt pe ⊢
  have cL : ce.locals = s3.heap.objs.size := by subst hce; rfl
  generalize hH3 : upd H2 D (.lst []) = H3 at I3 I4 tkB pg pt pe w0 nfp f3
  generalize hs4 : ({ s3 with heap := pushCells (s3.heap.push { cls := .type "dict", data := .dict #[] }) scope.names } : Shared) = s4 at I4 ⊢
  have st4 : tn 0 s4.heap := T.keep _ _ _ st3 fun b _ o e => by rw [← hs4]; exact pushCells_keeps _ _ _ _ (Heap.get?_push_of_some _ e)
  have stat : ∀ {σ' : St} {H' : Hp} {s' : Shared}, Inv (blkE X s3 H3 scope ce fp (xeB X ce)) [] σ' H' s' → (∀ b ∈ fp, H' b = none) → ∀ b ∈ fp, FpOk (blkE X s3 H3 scope ce fp (xeB X ce)) [] H' b := fun {σ' H' s'} I' hn b hb =>
    ⟨hn b hb, (I'.ok.exf b hb).1, I'.ok.exfs b hb, .inl hb, fun x c e => (I'.ok.exf b hb).2 x c e, fun p hp => absurd (show p ∈ ([] : List (Addr × Obj)) ++ [] from hp) (by simp)⟩
  have hRE : ∀ e s', CompFails (model X.prog X.w) X.A X.xe ce e s' → compEnds (model X.prog X.w) X.A X.xe use Qf (.ref D) ce (.error e) s' := fun e s' q => by cases use <;> exact q
  have loop : codeAny (model X.prog X.w) X.A (.compLoop (.ListComp elt [⟨tg, iter, ifs, 0⟩] scope pos) 0 (.ref it) (.ref D) ce) (compEnds (model X.prog X.w) X.A X.xe use Qf (.ref D) ce) s4 := by
    refine compLoop_any (fun n s' => ∃ i H', Inv (blkE X s3 H3 scope ce fp (xeB X ce)) [] (wipe σ (own.map (·.2))) H' s' ∧ tn i s'.heap ∧ (∀ b ∈ fp, H' b = none) ∧ W i n H') ?_ m0 ⟨0, H3, inv_E I4, st4, nfp, w0⟩
    rintro n s5 ⟨i, H5, I5, st5, n5, w5⟩
    rcases turn i n H5 w5 with ⟨stop, qq⟩ | ⟨go, Nx, hNx, step⟩
    · have td := T.done (blkE X s3 H3 scope ce fp (xeB X ce)) rfl rfl rfl hc i [] s5 _ H5 (fun _ _ => False) I5 (stat I5 n5) st5 stop
      refine thnF td fun r s6 ⟨hr, I6⟩ => ?_
      subst hr
      -- back in the def's context
      have I7 : Inv X pins σ H5 s6 := I3.call' (ch := fp) I6.os I6.base I6.hok I6.bare fun b hb => ⟨(f3 b hb).1.2.2.2.1, (f3 b hb).1.2.1, (f3 b hb).1.2.2.2.2.1, (f3 b hb).1.2.2.2.2.2⟩
      have nC : H5 s3.heap.objs.size = none := by
        have z : H5 ce.locals = none := I6.free
        rw [cL] at z
        exact z
      obtain ⟨m, hn, _⟩ := I6.loc
      have hn : s6.heap.Ns ce.locals m := hn
      exact hRR D ce s6 m H5 I7 qq hn (by rw [cL]; exact I3.fpOk (Nat.le_refl _) nC)
    · have ti := T.item (blkE X s3 H3 scope ce fp (xeB X ce)) rfl rfl rfl hc i [] s5 _ H5 (fun _ _ => False) I5 (stat I5 n5) st5 go
      refine thnF ti fun r s6 ⟨u, hr, h6⟩ => ?_
      subst hr
      refine thnF h6 fun _ s7 ⟨x, H7, I7, r7, y7, st7, n7⟩ => ?_
      have I7' := I7.pinned (stat I7 n7) (T.obj _ _ st7)
      refine thnX hRE (pg.run _ s7 _ H7 x u _ I7' r7 (step x H7 y7)) fun _ s8 ⟨σ8, H8, I8, hw8, q8⟩ => ?_
      refine thnX hRE (pt.run _ s8 σ8 H8 _ I8 q8) fun b s9 ⟨H9, I9, q9⟩ => ?_
      -- the turn's end
      have fin : ∀ {s' : Shared} {H' : Hp}, Inv (blkE X s3 H3 scope ce fp (xeB X ce)) ([] ++ pinsAt fp s7.heap) σ8 H' s' → Nx H' → ∃ m, m < n ∧ ∃ i H', Inv (blkE X s3 H3 scope ce fp (xeB X ce)) [] (wipe σ (own.map (·.2))) H' s' ∧ tn i s'.heap ∧ (∀ b ∈ fp, H' b = none) ∧ W i m H' := fun {s' H'} I' nx => by
        obtain ⟨m', hm, w'⟩ := hNx H' nx
        have pin' : ∀ b ∈ fp, ∀ o, s7.heap.get? b = some o → s'.heap.get? b = some o ∧ H' b = none := fun b hb o e =>
          let z := I'.pin (b, o) (List.mem_append_right _ (List.mem_append_right _ (mem_pinsAt hb e)))
          ⟨z.1, z.2.1⟩
        have hl : (wipe σ (own.map (·.2))).length = σ8.length := by rw [← hw8, wipe_length]
        refine ⟨m', hm, i + 1, H', (I'.unpinned (pins := [])).weak hl (fun j v e => ?_), T.keep _ _ _ st7 fun b hb o e => (pin' b hb o e).1, fun b hb => ?_, w'⟩
        · rw [← hw8] at e
          exact (wipe_some e).1
        · obtain ⟨o, e, _⟩ := T.obj _ _ st7 b hb
          exact (pin' b hb o e).2
      cases b with
      | false =>
        simp only [Bool.false_eq_true, if_false] at q9 ⊢
        exact fin I9 q9
      | true =>
        simp only [if_true] at q9 ⊢
        refine thnX hRE (pe.run _ s9 σ8 H9 _ I9 q9) fun z s10 ⟨yv, H10, I10, r10, acc, hD10, hz10, nx⟩ => ?_
        exact app_ok (X := blkE X s3 H3 scope ce fp (xeB X ce)) I10 hD10 hz10 r10 fun s11 I11 => fin I11 nx
  exact codeAny_compStart_list loop (T.self X.A 0 _ _ _ st4 loop)
theorem lc2_coreX {pins : List (Addr × Obj)} {s : Shared} {σ : St} {H : Hp} {Q : VK} {elt tg iter tg1 iter1 : Expr} {ifs ifs1 : List Expr} {scope : Scope} {own : List (Str × Nat)} {vs1 : List Nat} {pos pos' : Pos} {wi wi1 : TI} {g g1 : TG} {tt tt1 : TT} {te : TE} {use : Option (Value → Sem Unit)} {Qf : Value → Shared → Prop}
    {W : WX} (hst : X.stack = X.env :: X.outer) (hfr : X.env.frame = some X.env.locals) (tk : Takes X W) (flw : FlatW W) (hc : X.calm = true) (hN : X.N.Nodup) (I : Inv X pins σ H s) (hi : PI X tg iter wi) (ok : BlkOk X.N X.env.scope scope own) (hv : ∀ i ∈ vs1, i ∈ own.map (·.2))
    (hg : ∀ (s : Shared) (H : Hp) (C : Addr) (cl : List (Str × Addr)) (fp : List Addr) (xe : Value → Shared → Prop), TakesC (blkE X s H scope (compEnvC scope cl C X.env) fp xe) W → PG (blkE X s H scope (compEnvC scope cl C X.env) fp xe) tg g) (ht : ∀ (s : Shared) (H : Hp) (C : Addr) (cl : List (Str × Addr)) (fp : List Addr) (xe : Value → Shared → Prop), TakesC (blkE X s H scope (compEnvC scope cl C X.env) fp xe) W → PTs (blkE X s H scope (compEnvC scope cl C X.env) fp xe) ifs tt)
    (he : ∀ (s : Shared) (H : Hp) (C : Addr) (cl : List (Str × Addr)) (fp : List Addr), PE (X.blk s H scope (compEnvC scope cl C X.env) fp) elt te) (hs : ∀ x, foldedSetIterable iter X.env x = pure x)
    (hi1 : ∀ (s : Shared) (H : Hp) (C : Addr) (cl : List (Str × Addr)) (fp : List Addr) (xe : Value → Shared → Prop), TakesC (blkE X s H scope (compEnvC scope cl C X.env) fp xe) W → PI (blkE X s H scope (compEnvC scope cl C X.env) fp xe) tg1 iter1 wi1)
    (hg1 : ∀ (s : Shared) (H : Hp) (C : Addr) (cl : List (Str × Addr)) (fp : List Addr), PG (X.blk s H scope (compEnvC scope cl C X.env) fp) tg1 g1)
    (ht1 : ∀ (s : Shared) (H : Hp) (C : Addr) (cl : List (Str × Addr)) (fp : List Addr), PTs (X.blk s H scope (compEnvC scope cl C X.env) fp) ifs1 tt1)
    (hs1 : ∀ env x, foldedSetIterable iter1 env x = pure x)
    (h : tLc2 wi g tt wi1 g1 tt1 te (own.map (·.2)) vs1 σ H Q)
    (hRR : ∀ D ce s' m H', Inv X pins σ H' s' → Q (.ref D) H' → s'.heap.Ns (Env.locals ce) m → FpOk X pins H' ce.locals → compEnds (model X.prog X.w) X.A X.xe use Qf (.ref D) ce (.ok .next) s') :
    wpAny (model X.prog X.w) X.A (comprehension (.ListComp elt [⟨tg, iter, ifs, 0⟩, ⟨tg1, iter1, ifs1, 0⟩] scope pos) scope X.env pos' (newList []) false (eval iter X.env) use) Qf X.xe s := by
  have hfree : ∀ y ∈ scope.names, y.2 = .free → ∃ c, X.env.cells.lookup y.1 = some c := fun y hy e => by
    rcases ok.free y hy e with k | k
    · exact I.ok.has _ (.inl k)
    · exact I.ok.has _ (.inr k)
  refine comprehension_at (use := use) rfl hs (closure_ok hfree) ok.kind (fun y hy e => by rw [ok.uniq y hy, e])
    (thn (hi.run pins s σ H _ I h) fun xv s1 hx => thn hx fun itv s2 h2 => ?_)
  obtain ⟨it, fp, tn, J, H2, e, I2, T, st2, f2, q⟩ := h2
  subst e
  refine wpAny_newObj_type (newEnv_comp ?_) (by show 0 ≤ sizeLine; decide)
  generalize hD : s2.heap.objs.size = D
  have hDn : H2 D = none := I2.hok.fresh (Nat.le_of_eq hD)
  obtain ⟨W, ⟨m0, w0⟩, turn⟩ := q D hDn
  -- the new list
  generalize hs3 : ({ s2 with heap := s2.heap.push { cls := .type "list", data := .seq ([] : List Value).toArray } } : Shared) = s3
  have I3 : Inv X pins σ (upd H2 D (.lst [])) s3 := by
    rw [← hs3]
    refine I2.laid (t' := s2.toks) (fun b o e => Heap.get?_push_of_some _ e) (Nat.le_of_eq hD) ⟨Nat.zero_le _, [], 0, .nil, ?_⟩
    rw [← hD]
    exact Heap.get?_push_size _ rfl
  have h3 : s3.heap = s2.heap.push { cls := .type "list", data := .seq ([] : List Value).toArray } := by rw [← hs3]
  have sz : ∀ b ∈ fp, b < s2.heap.objs.size := fun b hb => by
    obtain ⟨o, e, _⟩ := T.obj _ _ st2 b hb
    exact Heap.lt_size e
  have f3 : ∀ b ∈ fp, FpOk X pins (upd H2 D (.lst [])) b ∧ b < s3.heap.objs.size := fun b hb => by
    have hlt := sz b hb
    refine ⟨⟨?_, (f2 b hb).2⟩, by rw [h3, Heap.size_push]; exact Nat.lt_succ_of_lt hlt⟩
    rw [upd_ne (by rw [← hD]; exact Nat.ne_of_lt hlt)]
    exact (f2 b hb).1
  have st3 : tn 0 s3.heap := T.keep _ _ _ st2 fun b _ o e => by rw [h3]; exact Heap.get?_push_of_some _ e
  have I4 := block_start I3 ok hN f3
  have tkB := takes_blk (scope := scope) (ce := (compEnvC scope (cellsFrom (s3.heap.objs.size + 1) scope.names (cloFrom X.env.cells scope.names [])) s3.heap.objs.size X.env)) (fp := fp) hst hfr tk flw I3 rfl rfl f3
  have pg := hg s3 (upd H2 D (.lst [])) s3.heap.objs.size (cellsFrom (s3.heap.objs.size + 1) scope.names (cloFrom X.env.cells scope.names [])) fp _ tkB
  have pt := ht s3 (upd H2 D (.lst [])) s3.heap.objs.size (cellsFrom (s3.heap.objs.size + 1) scope.names (cloFrom X.env.cells scope.names [])) fp _ tkB
  have pe := he s3 (upd H2 D (.lst [])) s3.heap.objs.size (cellsFrom (s3.heap.objs.size + 1) scope.names (cloFrom X.env.cells scope.names [])) fp
  have pi1 := hi1 s3 (upd H2 D (.lst [])) s3.heap.objs.size (cellsFrom (s3.heap.objs.size + 1) scope.names (cloFrom X.env.cells scope.names [])) fp _ tkB
  have pg1 := hg1 s3 (upd H2 D (.lst [])) s3.heap.objs.size (cellsFrom (s3.heap.objs.size + 1) scope.names (cloFrom X.env.cells scope.names [])) fp
  have pt1 := ht1 s3 (upd H2 D (.lst [])) s3.heap.objs.size (cellsFrom (s3.heap.objs.size + 1) scope.names (cloFrom X.env.cells scope.names [])) fp
  show codeAny _ _ (.compStart (.ListComp elt [⟨tg, iter, ifs, 0⟩, ⟨tg1, iter1, ifs1, 0⟩] scope pos) 0 (.ref it) (.ref D) (compEnvC scope (cellsFrom (s3.heap.objs.size + 1) scope.names (cloFrom X.env.cells scope.names [])) s3.heap.objs.size X.env)) (compEnds (model X.prog X.w) X.A X.xe use Qf (.ref D) (compEnvC scope (cellsFrom (s3.heap.objs.size + 1) scope.names (cloFrom X.env.cells scope.names [])) s3.heap.objs.size X.env)) { s3 with heap := pushCells (s3.heap.push { cls := .type "dict", data := .dict #[] }) scope.names }
  have nfp : ∀ b ∈ fp, (upd H2 D (.lst [])) b = none := fun b hb => (f3 b hb).1.1
  generalize hce : compEnvC scope (cellsFrom (s3.heap.objs.size + 1) scope.names (cloFrom X.env.cells scope.names [])) s3.heap.objs.size X.env = ce at I4 tkB pg pt pe pi1 pg1 pt1 ⊢
  have cL : ce.locals = s3.heap.objs.size := by subst hce; rfl
  generalize hH3 : upd H2 D (.lst []) = H3 at I3 I4 tkB pg pt pe pi1 pg1 pt1 w0 nfp f3
  generalize hs4 : ({ s3 with heap := pushCells (s3.heap.push { cls := .type "dict", data := .dict #[] }) scope.names } : Shared) = s4 at I4 ⊢
  have st4 : tn 0 s4.heap := T.keep _ _ _ st3 fun b _ o e => by rw [← hs4]; exact pushCells_keeps _ _ _ _ (Heap.get?_push_of_some _ e)
  have stat : ∀ {σ' : St} {H' : Hp} {s' : Shared}, Inv (blkE X s3 H3 scope ce fp (xeB X ce)) [] σ' H' s' → (∀ b ∈ fp, H' b = none) → ∀ b ∈ fp, FpOk (blkE X s3 H3 scope ce fp (xeB X ce)) [] H' b := fun {σ' H' s'} I' hn b hb =>
    ⟨hn b hb, (I'.ok.exf b hb).1, I'.ok.exfs b hb, .inl hb, fun x c e => (I'.ok.exf b hb).2 x c e, fun p hp => absurd (show p ∈ ([] : List (Addr × Obj)) ++ [] from hp) (by simp)⟩
  have hRE : ∀ e s', CompFails (model X.prog X.w) X.A X.xe ce e s' → compEnds (model X.prog X.w) X.A X.xe use Qf (.ref D) ce (.error e) s' := fun e s' q => by cases use <;> exact q
  have loop : codeAny (model X.prog X.w) X.A (.compLoop (.ListComp elt [⟨tg, iter, ifs, 0⟩, ⟨tg1, iter1, ifs1, 0⟩] scope pos) 0 (.ref it) (.ref D) ce) (compEnds (model X.prog X.w) X.A X.xe use Qf (.ref D) ce) s4 := by
    refine compLoop2_out (hs1 ce) (fun n s' => ∃ i H', Inv (blkE X s3 H3 scope ce fp (xeB X ce)) [] (wipe σ (own.map (·.2))) H' s' ∧ tn i s'.heap ∧ (∀ b ∈ fp, H' b = none) ∧ W i n H') ?_ m0 ⟨0, H3, inv_E I4, st4, nfp, w0⟩
    rintro n s5 ⟨i, H5, I5, st5, n5, w5⟩
    rcases turn i n H5 w5 with ⟨stop, qq⟩ | ⟨go, Nx, hNx, step⟩
    · have td := T.done (blkE X s3 H3 scope ce fp (xeB X ce)) rfl rfl rfl hc i [] s5 _ H5 (fun _ _ => False) I5 (stat I5 n5) st5 stop
      refine thnF td fun r s6 ⟨hr, I6⟩ => ?_
      subst hr
      -- back in the def's context
      have I7 : Inv X pins σ H5 s6 := I3.call' (ch := fp) I6.os I6.base I6.hok I6.bare fun b hb => ⟨(f3 b hb).1.2.2.2.1, (f3 b hb).1.2.1, (f3 b hb).1.2.2.2.2.1, (f3 b hb).1.2.2.2.2.2⟩
      have nC : H5 s3.heap.objs.size = none := by
        have z : H5 ce.locals = none := I6.free
        rw [cL] at z
        exact z
      obtain ⟨m, hn, _⟩ := I6.loc
      have hn : s6.heap.Ns ce.locals m := hn
      exact hRR D ce s6 m H5 I7 qq hn (by rw [cL]; exact I3.fpOk (Nat.le_refl _) nC)
    · have ti := T.item (blkE X s3 H3 scope ce fp (xeB X ce)) rfl rfl rfl hc i [] s5 _ H5 (fun _ _ => False) I5 (stat I5 n5) st5 go
      refine thnF ti fun r s6 ⟨u, hr, h6⟩ => ?_
      subst hr
      refine thnF h6 fun _ s7 ⟨x, H7, I7, r7, y7, st7, n7⟩ => ?_
      have I7' := I7.pinned (stat I7 n7) (T.obj _ _ st7)
      refine thnX hRE (pg.run _ s7 _ H7 x u _ I7' r7 (step x H7 y7)) fun _ s8 ⟨σ8, H8, I8, hw8, q8⟩ => ?_
      refine thnX hRE (pt.run _ s8 σ8 H8 _ I8 q8) fun b s9 ⟨H9, I9, q9⟩ => ?_
      -- the turn's end, from any slots that know what the block knew at its start
      have fin : ∀ {σ9 : St} {s' : Shared} {H' : Hp}, Inv (blkE X s3 H3 scope ce fp (xeB X ce)) ([] ++ pinsAt fp s7.heap) σ9 H' s' → (wipe σ (own.map (·.2))).length = σ9.length → (∀ (j : Nat) v, (wipe σ (own.map (·.2)))[j]? = some (some v) → σ9[j]? = some (some v)) → Nx H' →
          ∃ m, m < n ∧ ∃ i H', Inv (blkE X s3 H3 scope ce fp (xeB X ce)) [] (wipe σ (own.map (·.2))) H' s' ∧ tn i s'.heap ∧ (∀ b ∈ fp, H' b = none) ∧ W i m H' := fun {σ9 s' H'} I' hl hk nx => by
        obtain ⟨m', hm, w'⟩ := hNx H' nx
        have pin' : ∀ b ∈ fp, ∀ o, s7.heap.get? b = some o → s'.heap.get? b = some o ∧ H' b = none := fun b hb o e =>
          let z := I'.pin (b, o) (List.mem_append_right _ (List.mem_append_right _ (mem_pinsAt hb e)))
          ⟨z.1, z.2.1⟩
        refine ⟨m', hm, i + 1, H', (I'.unpinned (pins := [])).weak hl hk, T.keep _ _ _ st7 fun b hb o e => (pin' b hb o e).1, fun b hb => ?_, w'⟩
        obtain ⟨o, e, _⟩ := T.obj _ _ st7 b hb
        exact (pin' b hb o e).2
      have hl8 : (wipe σ (own.map (·.2))).length = σ8.length := by rw [← hw8, wipe_length]
      have hk8 : ∀ (j : Nat) v, (wipe σ (own.map (·.2)))[j]? = some (some v) → σ8[j]? = some (some v) := fun j v e => by
        rw [← hw8] at e
        exact (wipe_some e).1
      have hk9 : ∀ (j : Nat) v, (wipe σ (own.map (·.2)))[j]? = some (some v) → (wipe σ8 vs1)[j]? = some (some v) := fun j v e => by
        rw [← hw8] at e
        obtain ⟨e1, e2⟩ := wipe_some e
        rw [wipe_out fun z => e2 (hv j z)]
        exact e1
      cases b with
      | false =>
        simp only [Bool.false_eq_true, if_false] at q9 ⊢
        exact fin I9 hl8 hk8 q9
      | true =>
        simp only [if_true] at q9 ⊢
        refine thnX hRE (pi1.run _ s9 σ8 H9 _ I9 q9) fun xv s10 hx => thnX hRE hx fun itv s11 h11 => ?_
        obtain ⟨it1, fp1, tn1, J1, H11, e1, I11, T1, st11, f11, W1, ⟨m1, w1⟩, turn1⟩ := h11
        subst e1
        -- the inner loop
        have stat1 : ∀ {H' : Hp}, (∀ b ∈ fp1, H' b = none) → ∀ b ∈ fp1, FpOk (X.blk s3 H3 scope ce fp) ([] ++ pinsAt fp s7.heap) H' b := fun hn b hb => ⟨hn b hb, (f11 b hb).2⟩
        have loop1 : codeAny (model X.prog X.w) X.A (.compLoop (.ListComp elt [⟨tg, iter, ifs, 0⟩, ⟨tg1, iter1, ifs1, 0⟩] scope pos) 1 (.ref it1) (.ref D) ce)
            (fun r s' => match r with
              | .ok _ => ∃ m, m < n ∧ ∃ i H', Inv (blkE X s3 H3 scope ce fp (xeB X ce)) [] (wipe σ (own.map (·.2))) H' s' ∧ tn i s'.heap ∧ (∀ b ∈ fp, H' b = none) ∧ W i m H'
              | .error _ => False) s11 := by
          refine compLoop2_in (fun k s' => ∃ j H', Inv (X.blk s3 H3 scope ce fp) ([] ++ pinsAt fp s7.heap) (wipe σ8 vs1) H' s' ∧ tn1 j s'.heap ∧ (∀ b ∈ fp1, H' b = none) ∧ W1 j k H') ?_ m1 ⟨0, H11, (inv_0 I11).weak (wipe_length _ _) (fun j v e => (wipe_some e).1), st11, fun b hb => (f11 b hb).1, w1⟩
          rintro k s12 ⟨j, H12, I12, st12, n12, w12⟩
          rcases turn1 j k H12 w12 with ⟨stop1, nx1⟩ | ⟨go1, Nx1, hNx1, step1⟩
          · refine thnF (T1.done (X.blk s3 H3 scope ce fp) rfl rfl rfl hc j _ s12 (wipe σ8 vs1) H12 (fun _ _ => False) I12 (stat1 n12) st12 stop1) fun r s13 ⟨hr, I13⟩ => ?_
            subst hr
            exact fin (inv_E I13) (hl8.trans (wipe_length σ8 vs1).symm) hk9 nx1
          · refine thnF (T1.item (X.blk s3 H3 scope ce fp) rfl rfl rfl hc j _ s12 (wipe σ8 vs1) H12 (fun _ _ => False) I12 (stat1 n12) st12 go1) fun r s13 ⟨u1, hr, h13⟩ => ?_
            subst hr
            refine thnF h13 fun _ s14 ⟨x1, H14, I14, r14, y14, st14, n14⟩ => ?_
            have I14' := I14.pinned (stat1 n14) (T1.obj _ _ st14)
            refine thnF (pg1.run _ s14 (wipe σ8 vs1) H14 x1 u1 _ I14' r14 (step1 x1 H14 y14)) fun _ s15 ⟨σ15, H15, I15, hw15, q15⟩ => ?_
            refine thnF (pt1.run _ s15 σ15 H15 _ I15 q15) fun b1 s16 ⟨H16, I16, q16⟩ => ?_
            have fin1 : ∀ {s' : Shared} {H' : Hp}, Inv (X.blk s3 H3 scope ce fp) (([] ++ pinsAt fp s7.heap) ++ pinsAt fp1 s14.heap) σ15 H' s' → Nx1 H' → ∃ m, m < k ∧ ∃ j H', Inv (X.blk s3 H3 scope ce fp) ([] ++ pinsAt fp s7.heap) (wipe σ8 vs1) H' s' ∧ tn1 j s'.heap ∧ (∀ b ∈ fp1, H' b = none) ∧ W1 j m H' := fun {s' H'} I' nx => by
              obtain ⟨m', hm, w'⟩ := hNx1 H' nx
              have pin' : ∀ b ∈ fp1, ∀ o, s14.heap.get? b = some o → s'.heap.get? b = some o ∧ H' b = none := fun b hb o e =>
                let z := I'.pin (b, o) (List.mem_append_right _ (List.mem_append_right _ (mem_pinsAt hb e)))
                ⟨z.1, z.2.1⟩
              refine ⟨m', hm, j + 1, H', I'.unpinned.weak (by rw [← hw15, wipe_length]) (fun j v e => by rw [← hw15] at e; exact (wipe_some e).1), T1.keep _ _ _ st14 fun b hb o e => (pin' b hb o e).1, fun b hb => ?_, w'⟩
              obtain ⟨o, e, _⟩ := T1.obj _ _ st14 b hb
              exact (pin' b hb o e).2
            cases b1 with
            | false =>
              simp only [Bool.false_eq_true, if_false] at q16 ⊢
              exact fin1 I16 q16
            | true =>
              simp only [if_true] at q16 ⊢
              refine thnF (pe.run _ s16 σ15 H16 _ I16 q16) fun z s17 ⟨yv, H17, I17, r17, acc, hD17, hz17, nx⟩ => ?_
              exact app_ok (X := X.blk s3 H3 scope ce fp) I17 hD17 hz17 r17 fun s18 I18 => fin1 I18 nx
        exact compStart1_ok loop1 (T1.self X.A 0 _ _ _ st11 loop1)
  exact codeAny_compStart_list loop (T.self X.A 0 _ _ _ st4 loop)
end
end PD
set_option Elab.async false
set_option linter.all false
set_option maxRecDepth 100000
set_option maxHeartbeats 1000000
namespace PySem
/-- enumerate(v) of what an iterator draws (the kit has it with a start alone) -/
theorem meets_enumerate_newB1 {v : Value} {o : Obj} {H : Heap → Prop} (B : Begins v o H) :
    Meets (Builtin.«enumerate.__new__» ⟨[.type "enumerate", v], []⟩) (fun _ R s => H s.heap ∧
      R (.ok (.ret (.ref (s.heap.push o).objs.size))) { s with heap := (s.heap.push o).push { cls := .type "enumerate", data := .fields #[.none, .bool false, .ref s.heap.objs.size, rawInt 0, .none, .none] } }) :=
  .of_wp fun prog w A R s h => by
    obtain ⟨hp, g, d, tk, os⟩ := s; obtain ⟨h1, h⟩ := h
    have hsub := sub_enumerate
    have q1 : ∀ {A' : Around} {E : Value → Shared → Prop} {Q : Value → Shared → Prop}, Q (.ref hp.objs.size) ⟨hp.push o, g, d, tk, os⟩ → wpAny (model prog w) A' (pyIter v) Q E ⟨hp, g, d, tk, os⟩ :=
      fun q => B.iter prog w _ _ ⟨hp, g, d, tk, os⟩ _ h1 q
    wp_walk using q1
    refine wpAny_stack_any fun st => wpAny_pure ?_
    split
    · rename_i c _ _ _ _ _
      cases (c == Value.type "enumerate")
      · wp_walk using q1
        exact ⟨_, rfl, h⟩
      · wp_walk using q1
        exact ⟨_, rfl, h⟩
    · wp_walk using q1
      exact ⟨_, rfl, h⟩
section
variable {prog : Program} {w : World} {A : Around} {E : Value → Shared → Prop} {s : Shared}
theorem enum_begins1 {v : Value} {o : Obj} {H : Heap → Prop} {Q : Value → Shared → Prop} (B : Begins v o H) (h1 : H s.heap)
    (h : ∀ h', IsEnum h' (s.heap.objs.size + 1) s.heap.objs.size 0 .none → h'.get? s.heap.objs.size = some o → h'.objs.size = s.heap.objs.size + 2 →
      (∀ b o, s.heap.get? b = some o → h'.get? b = some o) → Q (.ref (s.heap.objs.size + 1)) { s with heap := h' }) :
    wpAny (model prog w) A (call (.type "enumerate") [v]) Q E s := by
  refine callType_new F.called_enumerate (by decide) (F.typeCall_enumerate_1 _) (F.newCall_enumerate_1 _) (fun obj => F.args_object_init_2 obj _) F.entry_enumerate_new
    (meets_enumerate_newB1 B) ⟨h1, ?_⟩
  have hz : (s.heap.push o).objs.size = s.heap.objs.size + 1 := Heap.size_push ..
  show _ ∧ _
  rw [hz]
  have he : IsEnum ((s.heap.push o).push { cls := .type "enumerate", data := .fields #[.none, .bool false, .ref s.heap.objs.size, rawInt 0, .none, .none] }) (s.heap.objs.size + 1) s.heap.objs.size 0 .none := by
    have := Heap.get?_push_size (s.heap.push o) (o := { cls := .type "enumerate", data := .fields #[.none, .bool false, .ref s.heap.objs.size, rawInt 0, .none, .none] }) rfl
    rw [hz] at this; exact this
  refine ⟨⟨_, he, rfl⟩, h _ he (Heap.get?_push_of_some _ (Heap.get?_push_size _ B.free)) (by rw [Heap.size_push, hz]) fun b o x => Heap.get?_push_of_some _ (Heap.get?_push_of_some _ x)⟩
theorem wpAny_pyNext_enum_endI {e it l : Addr} {i : Nat} {items : Array Value} {old : Value} {Q : Option Value → Shared → Prop} (hh : A.handled = none)
    (he : IsEnum s.heap e it i old) (hit : s.heap.IsTupleIter it l i) (hl : s.heap.IsTuple l items) (hx : items[i]? = none) (hQ : ∀ h', Heap.ExtBut it s.heap h' → Q none { s with heap := h' }) : wpAny (model prog w) A (pyNext (.ref e)) Q E s := by
  have hT : s.TypeIs (.ref e) "enumerate" := ⟨_, he, rfl⟩
  unfold pyNext
  refine wpAny_bind (wpAny_attempt (wpAny_callSpecial?_slot (name := Str.ofString "__next__") hT F.slot_enumerate_next
    (wpAny_call_entry F.slot_enumerate_next hT F.entry_enumerate_next ?_ (F.args_enumerate_next_1 _))))
  show wpAny _ _ (field (.ref e) 2 >>= _) _ _ _
  refine wpAny_bind (wpAny_field he rfl (x := .ref it) rfl ?_)
  refine wpAny_bind (wpAny_nextOf_tuple_end (A := A.in1) hh hit hl hx fun h' x he' hx' => ?_)
  obtain ⟨o, ho, hc⟩ := hx'
  refine wpAny_bind (wpAny_isInstance (T := "StopIteration") (b := true) ⟨o, ho, hc⟩ isSubtype_stop ?_)
  exact wpAny_pure (hQ _ he')
end
end PySem
namespace PD
open PySem PySem.Spec PyProof.Rows L2
/-! ### enumerate(tuple) -/
def ItT (K : PySem.W.Frag) (a : Addr) : It :=
  ⟨fun i H => ∃ (xs : List V) (x : V), SqT K H a xs ∧ xs[i]? = some x, fun i H v H' => ∃ T x, v = .ref T ∧ H T = none ∧ H' = upd H T (.tup [.int (i : Nat), x]) ∧ ∀ xs, SqT K H a xs → xs[i]? = some x, fun i H => ∃ xs : List V, SqT K H a xs ∧ xs.length ≤ i⟩
theorem turn_enumT {P : Program} {w : World} {K : PySem.W.Frag} {elts : List Expr} {kk : Nat} {tpos : Pos} (a e it : Addr) (hae : a ≠ it) :
    Turn P w K (.Tuple elts kk tpos) (ItT K a) [e, it] e (fun i h => (∃ old, IsEnum h e it ((i : Nat) : Int) old) ∧ h.IsTupleIter it a i ∧ e ≠ it) where
  mem := by simp
  obj := fun i h st b hb => by
    obtain ⟨⟨old, he⟩, ⟨o, ho, hc, hd⟩, _⟩ := st
    have e' : b = e ∨ b = it := by simpa using hb
    rcases e' with z | z
    · rw [z]; exact ⟨_, he, fun v q => nomatch q⟩
    · rw [z]; exact ⟨o, ho, fun v q => by rw [hd] at q; cases q⟩
  keep := fun i h h' st k => let ⟨⟨old, he⟩, hi, hne⟩ := st; ⟨⟨old, k e (by simp) _ he⟩, hi.at fun o q => k it (by simp) o q, hne⟩
  item := by
    intro X hP hw hK hc i pins s σ H E I hf st hg
    subst hP hw hK
    obtain ⟨⟨old, he⟩, hit, hne⟩ := st
    obtain ⟨xs, x, hq, hx⟩ := hg
    obtain ⟨its, rv, p, hz⟩ := I.tuple hq
    obtain ⟨u, hu, ru⟩ := rv.get hx
    have hel : e < s.heap.objs.size := Heap.lt_size he
    have hil : it < s.heap.objs.size := by obtain ⟨_, q, _⟩ := hit; exact Heap.lt_size q
    have hea : e ≠ a := fun z => by
      obtain ⟨oa, ha, hca, na, hda⟩ := (show s.heap.IsTuple a its.toArray from p)
      rw [← z, he] at ha
      cases ha
      cases hda
    have hn : i < its.toArray.size := by
      have := (List.getElem?_eq_some_iff.mp hu).1
      simpa using this
    refine wpAny_pyNext_enum_itemD (Draws.tuple (A := X.A.in1) (show X.A.in1.handled = none from I.ok.hd hc) it a hae its.toArray) he ⟨hit, p⟩ hn hne (by simp; exact ⟨hne, hea⟩) fun x0 h' tk hP0 ho hst' hT hsz hk => ?_
    have e0 : x0 = u := by
      have : its.toArray[i]? = some u := by simpa using hu
      rw [this] at hP0; cases hP0; rfl
    subst e0
    obtain ⟨hit', _⟩ := hst'
    refine ⟨_, rfl, wpAny_letOwnedTupleGo_enum (s := { s with heap := h', toks := tk + 1 }) ho fun h'' he' sb => ?_⟩
    have hT2 : h''.get? s.heap.objs.size = some { cls := .type "tuple", data := .seq #[.int i tk, x0] } := (sb.2 _ (Nat.ne_of_gt hel)).trans hT
    have new : ObjOk X.prog X.w (upd H s.heap.objs.size (.tup [.int (i : Nat), x])) h'' s.heap.objs.size (.tup [.int (i : Nat), x]) :=
      ⟨by show 2 ≤ sizeLine; decide, [.int i tk, x0], .cons ⟨_, rfl⟩ (.cons ru .nil), ⟨_, hT2, rfl, _, rfl⟩⟩
    have I1 : Inv X pins σ (upd H s.heap.objs.size (.tup [.int (i : Nat), x])) { s with heap := h'', toks := tk + 1 } :=
      I.turnedNew (ch := [e, it]) (fun b ob hb q => (sb.2 b (fun z => hb (by simp [z]))).trans (hk b ob (fun z => hb (by simp [z])) (fun z => hb (by simp [z])) q)) hf (Nat.le_refl _) new
    refine ⟨.ref s.heap.objs.size, _, I1, rfl, ⟨_, x, rfl, I.hok.fresh (Nat.le_refl _), rfl, fun ys hy => ?_⟩, ⟨⟨x0, ?_⟩, hit'.at fun o q => (sb.2 it (Ne.symm hne)).trans q, hne⟩, fun b hb => ?_⟩
    · rw [I.tuple_inj hy hq]; exact hx
    · have e1 : ((i + 1 : Nat) : Int) = (i : Int) + 1 := by omega
      rw [e1]; exact he'
    · have hb' : b < s.heap.objs.size := by
        have e' : b = e ∨ b = it := by simpa using hb
        rcases e' with z | z
        · rw [z]; exact hel
        · rw [z]; exact hil
      rw [upd_ne (Nat.ne_of_lt hb')]
      exact (hf b hb).1
  done := by
    intro X hP hw hK hc i pins s σ H E I hf st hg
    subst hP hw hK
    obtain ⟨⟨old, he⟩, hit, hne⟩ := st
    obtain ⟨xs, hq, hx⟩ := hg
    obtain ⟨its, rv, p, hz⟩ := I.tuple hq
    obtain ⟨f0, f1, f2, f3, f4, f5⟩ := hf it (by simp)
    have hl := rv.length
    refine wpAny_pyNext_enum_endI (I.ok.hd hc) he hit p (by simp; omega) fun h' eb => ⟨rfl, I.turned (t' := s.toks) (fun b o hb q => eb b o hb q) f0 f1 f3 f4 f5⟩
  self := fun A i s Q E st h => let ⟨⟨_, he⟩, _⟩ := st; wpAny_pyIter_enum he h
end PD
set_option Elab.async false
set_option linter.all false
set_option maxRecDepth 100000
set_option maxHeartbeats 1000000
namespace PD
open PySem PySem.Spec PyProof.Rows L2
/-! ### enumerate -/
def iEnumT (K : PySem.W.Frag) (ta : TA) : TI := fun σ H R => ta σ H fun vs H1 => ∃ a xs, vs = [.ref a] ∧ SqT K H1 a xs ∧ R (ItT K a) H1
theorem pi_enumT {X : Cx} {e : Expr} {ta : TA} {p pos tpos : Pos} {elts : List Expr} {kk : Nat} (hg : Gl X "enumerate") (hm : X.mg "enumerate" = none) (ha : PA X [e] ta) (hs : starEach [e] X.env = [(false, eval e X.env)] := by rfl) :
    PI X (.Tuple elts kk tpos) (.Call (.Name "enumerate" p) [e] [] pos) (iEnumT X.K ta) := by
  refine ⟨fun pins s σ H R I h => ?_⟩
  refine Call_ (ld_blt I hg hm boot_enumerate (PyProof.Rows.callWith_type1 (thn (ha.run pos pins s σ H _ I h) fun us s1 ⟨vs, H1, I1, r1, q1⟩ => ?_) hs rfl))
  obtain ⟨a, xs, ex, hq, q⟩ := q1
  subst ex
  cases r1 with
  | cons r rr =>
    cases rr
    cases r
    obtain ⟨its, rv, p', hz⟩ := I1.tuple hq
    have p2 : s1.heap.IsTuple a its.toArray := p'
    have hlt : a < s1.heap.objs.size := by obtain ⟨o, e, _⟩ := p2; exact Heap.lt_size e
    refine enum_begins1 (begins_tuple a its.toArray) p2 fun h' he hit hsz hk => wpAny_pyIter_enum he ?_
    have I2 : Inv X pins σ H1 { s1 with heap := h' } := I1.kept (t' := s1.toks) hk
    refine ⟨s1.heap.objs.size + 1, [s1.heap.objs.size + 1, s1.heap.objs.size], _, _, H1, rfl, I2, turn_enumT a (s1.heap.objs.size + 1) s1.heap.objs.size (Nat.ne_of_lt hlt), ⟨⟨.none, he⟩, ⟨_, hit, rfl, rfl⟩, Nat.succ_ne_self _⟩, fun b hb => ?_, q⟩
    have e' : b = s1.heap.objs.size + 1 ∨ b = s1.heap.objs.size := by simpa using hb
    have hle : s1.heap.objs.size ≤ b := by
      rcases e' with z | z
      · rw [z]; exact Nat.le_add_right _ _
      · rw [z]; exact Nat.le_refl _
    exact I1.fpOk hle (I1.hok.fresh hle)
def pairs (ds : List PyData) : List PyData := (List.range ds.length).map fun i => .tuple [.int (i : Nat), ds.getD i .none]
theorem pairs_len (ds : List PyData) : (pairs ds).length = ds.length := by unfold pairs; simp
theorem pairs_get {ds : List PyData} {i : Nat} {y : PyData} (h : (pairs ds)[i]? = some y) : ∃ d, ds[i]? = some d ∧ y = .tuple [.int (i : Nat), d] := by
  unfold pairs at h
  rw [List.getElem?_map] at h
  obtain ⟨c, e1, rfl⟩ := Option.map_eq_some_iff.mp h
  have hi : i < ds.length := by
    have := (List.getElem?_eq_some_iff.mp e1).1
    rwa [List.length_range] at this
  rw [List.getElem?_range hi] at e1
  cases e1
  exact ⟨ds[i], by simp [hi], by simp [hi]⟩
section
variable {X : Cx} {Z : Zx} {pos : Pos}
theorem pair_new {I' H' : Hp} {i : Nat} {T : Addr} {v : V} {d : PyData} (g : Good Z.R I' H') (hT : H' T = none) (av : Da Z.K I' v d) : ∃ I'', Ext Z.R I' H' I'' (upd H' T (.tup [.int (i : Nat), v])) ∧ Da Z.K I'' (.ref T) (.tuple [.int (i : Nat), d]) := by
  obtain ⟨n1, n2⟩ := fresh_off (Z := Z) g hT
  exact ⟨_, ext_new g hT (by show 2 ≤ sizeLine; decide), .tup (SqT.of upd_same) (.cons (.int _) (.cons (da_mono (upd_sub n1) _ _ av) .nil))⟩
theorem runs_enum {I : Hp} {a : Addr} {vs : List V} {ds : List PyData} (h : I a = some (.lst vs)) (ad : DaAll Z.K I vs ds) : Runs Z (Ite Z.K a) I (pairs ds) := fun I' H' g s => by
  have h1 : SqL Z.K H' a vs := SqL.of (g.sub _ _ (s _ _ h))
  refine ⟨fun i y e => ?_, ⟨vs, h1, by rw [pairs_len]; exact Nat.le_of_eq ad.len⟩⟩
  obtain ⟨d, ed, rfl⟩ := pairs_get e
  obtain ⟨v, e1, a1⟩ := ad.get ed
  refine ⟨⟨vs, v, h1, e1⟩, fun x H'' hy => ?_⟩
  obtain ⟨T, w, rfl, hT, rfl, hw⟩ := hy
  have e2 := hw vs h1
  rw [e1] at e2
  cases e2
  exact pair_new g hT (da_mono s _ _ a1)
theorem runs_enumT {I : Hp} {a : Addr} {vs : List V} {ds : List PyData} (h : SqT Z.K I a vs) (ad : DaAll Z.K I vs ds) : Runs Z (ItT Z.K a) I (pairs ds) := fun I' H' g s => by
  have h1 : SqT Z.K H' a vs := sqT_mono g.sub (sqT_mono s h)
  refine ⟨fun i y e => ?_, ⟨vs, h1, by rw [pairs_len]; exact Nat.le_of_eq ad.len⟩⟩
  obtain ⟨d, ed, rfl⟩ := pairs_get e
  obtain ⟨v, e1, a1⟩ := ad.get ed
  refine ⟨⟨vs, v, h1, e1⟩, fun x H'' hy => ?_⟩
  obtain ⟨T, w, rfl, hT, rfl, hw⟩ := hy
  have e2 := hw vs h1
  rw [e1] at e2
  cases e2
  exact pair_new g hT (da_mono s _ _ a1)
/-- enumerate(a list held by nobody's slot, a tuple) -/
def dEnum (tup : Bool) (a : TDA) : TDI := fun δ Q E => a δ (fun xs => match xs, tup with
  | [.d (.list ds)], false => Q (pairs ds)
  | [.d (.tuple ds)], true => Q (pairs ds)
  | _, _ => False) E
theorem di_enum {e : Expr} {ta : TA} {da : TDA} {p tpos : Pos} {elts : List Expr} {kk : Nat} (hg : Gl X "enumerate") (hm : X.mg "enumerate" = none) (h : DA X Z [e] ta da) (hK : Z.K = X.K) (hs : starEach [e] X.env = [(false, eval e X.env)] := by rfl) : DI X Z (.Tuple elts kk tpos) (.Call (.Name "enumerate" p) [e] [] pos) (iEnum Z.K ta) (dEnum false da) := by
  refine ⟨by rw [hK]; exact pi_enum hg hm h.pa hs, fun I H δ σ Qd Ed R hh q k => h.rf I H δ σ _ Ed _ hh q fun xs vs I1 H1 e1 a1 q1 => ?_⟩
  split at q1
  · obtain ⟨v, rfl, a2⟩ := at1 a1
    cases a2 with
    | lst h1 h2 =>
      have l := e1.good.len _ _ h1
      exact ⟨_, _, rfl, SqL.of (e1.good.sub _ _ h1), k _ _ I1 H1 e1 (runs_enum h1 h2) (by rw [pairs_len, ← h2.len]; exact l) q1⟩
  · rename_i hb; cases hb
  · exact q1.elim
theorem di_enumT {e : Expr} {ta : TA} {da : TDA} {p tpos : Pos} {elts : List Expr} {kk : Nat} (hg : Gl X "enumerate") (hm : X.mg "enumerate" = none) (h : DA X Z [e] ta da) (hK : Z.K = X.K) (hs : starEach [e] X.env = [(false, eval e X.env)] := by rfl) : DI X Z (.Tuple elts kk tpos) (.Call (.Name "enumerate" p) [e] [] pos) (iEnumT Z.K ta) (dEnum true da) := by
  refine ⟨by rw [hK]; exact pi_enumT hg hm h.pa hs, fun I H δ σ Qd Ed R hh q k => h.rf I H δ σ _ Ed _ hh q fun xs vs I1 H1 e1 a1 q1 => ?_⟩
  split at q1
  · rename_i hb; cases hb
  · obtain ⟨v, rfl, a2⟩ := at1 a1
    obtain ⟨q, us, rfl, h1, h1', h2⟩ := tup_at e1.good a2
    have l := tup_len e1.good h1
    exact ⟨_, _, rfl, h1', k _ _ I1 H1 e1 (runs_enumT h1 h2) (by rw [pairs_len, ← h2.len]; exact l) q1⟩
  · exact q1.elim
end
/-! ### comprehensions that may raise -/
def dLcX (ti : TDI) (dg : TDG) (dt : TDT) (de : TD) (vs : List Nat) : TD := fun δ Q E => ti δ (fun ds =>
  lcGo (fun d K => dg (.d d) (wipeD δ vs) (fun δ' => dt δ' (fun b => if b = true then de δ' (fun y => match froz y with | .d y => K (some y) | _ => False) E else K none) E)) ds [] (fun ys => Q (.new ys))) E
section
variable {X : Cx} {Z : Zx} {pos : Pos}
theorem lc_rfX (fl : FlatW Z.W) {wi : TI} {g : TG} {tt : TT} {te : TE} {vs : List Nat} {ti : TDI} {dg : TDG} {dt : TDT} {de : TD}
    (hi : ∀ I H δ σ Qd Ed (R : It → Hp → Prop), Here Z I H δ σ Ed → ti δ Qd Ed → (∀ J ds I' H', Ext Z.R I H I' H' → Runs Z J I' ds → ds.length ≤ sizeLine → Qd ds → R J H') → wi σ H R)
    (hg : ∀ I H δ σ x v Qd Q Hs, Good Z.R I H → EnvAt Z I H δ σ → At Z Hs I H x v → dg x δ Qd → (∀ δ' σ' I' H', Ext Z.R I H I' H' → EnvAt Z I' H' δ' σ' → Qd δ' → Q σ' H') → g v σ H Q)
    (ht : ∀ I H δ σ Qd Ed Q, Here Z I H δ σ Ed → dt δ Qd Ed → ThenB Z I H Qd Q → tt σ H Q)
    (he : ∀ I H δ σ Qd Ed Q, Here Z I H δ σ Ed → de δ Qd Ed → Then Z I H Qd Q → te σ H Q) (tg : Tgt g vs) :
    ∀ I H δ σ Qd Ed Q, Here Z I H δ σ Ed → dLcX ti dg dt de vs δ Qd Ed → Then Z I H Qd Q → tLc wi g tt te vs σ H Q := fun I H δ σ Qd Ed Q hh q k => by
  refine hi I H δ σ _ Ed _ hh q fun J ds I1 H1 e1 rn hl q1 D hD => ?_
  have h1 := hh.ext e1
  have k1 := k.ext hh.g e1
  obtain ⟨n1, n2⟩ := fresh_off h1.g hD
  have hD0 : Z.H0 D = none := h1.old D hD
  generalize hb : (fun d K => dg (.d d) (wipeD δ vs) (fun δ' => dt δ' (fun b => if b = true then de δ' (fun y => match froz y with | .d y => K (some y) | _ => False) Ed else K none) Ed) : PyData → (Option PyData → Prop) → Prop) = body at q1
  refine ⟨fun i m H' => m = ds.length - i ∧ i ≤ ds.length ∧ ∃ I' acc us, Ext Z.R I1 H1 I' H' ∧ H' D = some (.lst us) ∧ DaAll Z.K I' us acc ∧ I' D = none ∧ acc.length ≤ i ∧ lcGo body (ds.drop i) acc (fun ys => Qd (.new ys)),
    ⟨ds.length, by simp, Nat.zero_le _, I1, [], [], ext_own h1.g hD, upd_same, .nil, n1, Nat.le_refl _, by simpa using q1⟩, ?_⟩
  rintro i m H' ⟨rfl, hi', I', acc, us, e', hu, au, nu, la, q'⟩
  obtain ⟨go, stop⟩ := rn I' H' e'.good e'.sub
  have l2 := au.len
  by_cases hlt : i < ds.length
  · have ed : ds[i]? = some ds[i] := by simp [hlt]
    rw [List.drop_eq_getElem_cons hlt] at q'
    obtain ⟨g1, g2⟩ := go i _ ed
    refine .inr ⟨g1, fun H2 => i + 1 ≤ ds.length ∧ ∃ I' acc us, Ext Z.R I1 H1 I' H2 ∧ H2 D = some (.lst us) ∧ DaAll Z.K I' us acc ∧ I' D = none ∧ acc.length ≤ i + 1 ∧ lcGo body (ds.drop (i + 1)) acc (fun ys => Qd (.new ys)),
      fun H2 w2 => ⟨ds.length - (i + 1), by omega, rfl, w2⟩, fun x H'' hy => ?_⟩
    obtain ⟨I'', ex, ax⟩ := g2 x H'' hy
    have e'' := e'.trans h1.g ex
    have env'' : EnvAt Z I'' H'' (wipeD δ vs) (L2.wipe σ vs) := (h1.env.ext e'').wipe vs
    subst hb
    have wi : ∀ ws : List Nat, L2.wipe (L2.wipe σ ws) ws = L2.wipe σ ws := fun ws => by
      have : ∀ (τ : St) (us : List Nat), (∀ u ∈ us, u < τ.length → τ[u]? = some none) → L2.wipe τ us = τ := fun τ us => by
        induction us with
        | nil => intro _; rfl
        | cons u us ih =>
          intro h
          show (L2.wipe τ us).set u none = τ
          rw [ih fun v hv => h v (List.mem_cons_of_mem _ hv)]
          by_cases hu : u < τ.length
          · have e := h u List.mem_cons_self hu
            obtain ⟨_, e2⟩ := List.getElem?_eq_some_iff.mp e
            apply List.ext_getElem?
            intro j
            by_cases hj : u = j
            · subst hj
              rw [List.getElem?_set_self hu, e]
            · rw [List.getElem?_set_ne hj]
          · exact List.set_eq_of_length_le (by omega)
      refine this _ _ fun u hu hl => ?_
      have wn : ∀ {τ : St} {ws : List Nat} {j : Nat}, j ∈ ws → j < τ.length → (L2.wipe τ ws)[j]? = some none := fun {τ ws j} hm hj => by
        induction ws with
        | nil => simp at hm
        | cons w ws ih =>
          show ((L2.wipe τ ws).set w none)[j]? = _
          by_cases hw : w = j
          · subst hw
            rw [List.getElem?_set_self (by rw [wipe_length]; exact hj)]
          · rw [List.getElem?_set_ne hw]
            exact ih ((List.mem_cons.mp hm).resolve_left fun e => hw e.symm)
      exact wn hu (by rwa [wipe_length] at hl)
    have key : ∀ Q0, g x (L2.wipe σ vs) H'' Q0 → g x (L2.wipe σ vs) H'' (fun σ2 H2 => L2.wipe σ2 vs = L2.wipe σ vs ∧ Q0 σ2 H2) := fun Q0 h => by
      have := tg _ _ _ _ h
      rw [wi] at this
      exact this
    refine key _ (hg I'' H'' (wipeD δ vs) (L2.wipe σ vs) (.d _) x _ _ H'' ex.good env''.other (show Da Z.K I'' x _ from ax) q' fun δ3 σ3 I3 H3 ex3 env3 q3 => ?_)
    have ex := ex.trans e'.good ex3
    have e'' := e'.trans h1.g ex
    · have h3 : Here Z I3 H3 δ3 σ3 Ed := ⟨h1.g0, h1.e0.trans h1.g0 e'', env3, fun x c od I2 H2 e2 xa q => fl _ _ _ _ _ (h1.w x c od I2 H2 e2 xa q)⟩
      refine ht I3 H3 δ3 σ3 _ Ed _ h3 q3 fun b I4 H4 e4 q4 => ?_
      have e14 := e''.trans h1.g e4
      have D4 : ∀ {Ia Ha Ib Hb us}, Ext Z.R Ia Ha Ib Hb → Ha D = some (.lst us) → Ia D = none → Hb D = some (.lst us) ∧ Ib D = none := fun {Ia Ha Ib Hb us} ee hh' hn' => by
        refine ⟨ee.keep D _ hh' n2, ?_⟩
        cases z : Ib D with
        | none => rfl
        | some w =>
          rcases ee.fresh D w z with y | y
          · rw [hn'] at y; cases y
          · rw [hh'] at y; cases y
      obtain ⟨u2, v2⟩ := D4 ex hu nu
      obtain ⟨u4, v4⟩ := D4 e4 u2 v2
      cases b with
      | false => exact ⟨hlt, I4, acc, us, e14, u4, daa_mono e4.sub _ _ (daa_mono ex.sub _ _ au), v4, by omega, by simpa using q4⟩
      | true =>
        have h4 : Here Z I4 H4 δ3 σ3 Ed := h3.ext e4
        refine he I4 H4 δ3 σ3 _ Ed _ h4 q4 (Then.frz (Qd := fun y => match y with | .d y => lcGo _ (ds.drop (i + 1)) (acc ++ (some y).toList) (fun ys => Qd (.new ys)) | _ => False) fun y w I5 H5 e5 ay q5 => ?_)
        dsimp only at q5
        split at q5
        · obtain ⟨u5, v5⟩ := D4 e5 u4 v4
          have au5 := daa_mono e5.sub _ _ (daa_mono e4.sub _ _ (daa_mono ex.sub _ _ au))
          refine ⟨us, u5, by omega, hlt, I5, _, us ++ [w], ext_upd (e14.trans h1.g e5) hD n2 v5, upd_same, au5.app (.cons ay .nil), v5, ?_, q5⟩
          rw [List.length_append]
          simp only [Option.toList, List.length_cons, List.length_nil]
          omega
        · exact q5.elim
  · have e : i = ds.length := by omega
    subst e
    rw [List.drop_length] at q'
    refine .inl ⟨stop, k1 (.new acc) (.ref D) I' H' e' ⟨⟨D, us, rfl, hu, au, nu, n2, by omega⟩, fun b eb => ?_⟩ q'⟩
    cases eb
    exact ⟨hD, hD0⟩

theorem pe_lcX {elt tg iter : Expr} {ifs : List Expr} {scope : Scope} {own : List (Str × Nat)} {wi : TI} {g : TG} {tt : TT} {te : TE} {W : WX} (hst : X.stack = X.env :: X.outer) (hfr : X.env.frame = some X.env.locals) (tk : Takes X W) (flw : FlatW W) (hc : X.calm = true) (hN : X.N.Nodup) (hi : PI X tg iter wi) (ok : BlkOk X.N X.env.scope scope own)
    (hg : ∀ (s : Shared) (H : Hp) (C : Addr) (cl : List (Str × Addr)) (fp : List Addr) (xe : Value → Shared → Prop), TakesC (blkE X s H scope (compEnvC scope cl C X.env) fp xe) W → PG (blkE X s H scope (compEnvC scope cl C X.env) fp xe) tg g) (ht : ∀ (s : Shared) (H : Hp) (C : Addr) (cl : List (Str × Addr)) (fp : List Addr) (xe : Value → Shared → Prop), TakesC (blkE X s H scope (compEnvC scope cl C X.env) fp xe) W → PTs (blkE X s H scope (compEnvC scope cl C X.env) fp xe) ifs tt)
    (he : ∀ (s : Shared) (H : Hp) (C : Addr) (cl : List (Str × Addr)) (fp : List Addr) (xe : Value → Shared → Prop), TakesC (blkE X s H scope (compEnvC scope cl C X.env) fp xe) W → PE (blkE X s H scope (compEnvC scope cl C X.env) fp xe) elt te) (hs : ∀ x, foldedSetIterable iter X.env x = pure x := by intro _; rfl) :
    PE X (.ListComp elt [⟨tg, iter, ifs, 0⟩] scope pos) (tLc wi g tt te (own.map (·.2))) := by
  refine ⟨fun pins s σ H Q I h => ?_⟩
  rw [eval_ListComp]
  refine lc_coreX hst hfr tk flw hc hN I hi ok hg ht he hs h fun D ce s' m H' I' q hn f => ⟨m, hn, fun h'' sb => ?_⟩
  obtain ⟨f0, f1, f2, f3, f4, f5⟩ := f
  exact ⟨.ref D, H', I'.turned (t' := s'.toks) (fun b o hb e => (sb.2 b hb).trans e) f0 f1 f3 f4 f5, rfl, q⟩
theorem takesAny {Y : Cx} {W : WX} (h : Y.xe = fun _ _ => True) : TakesC Y W := fun σ pins H s e s' I c => by rw [h]; trivial
theorem de_lcX {elt tg iter : Expr} {ifs : List Expr} {scope : Scope} {own : List (Str × Nat)} {wi : TI} {g : TG} {tt : TT} {te : TE} {ti : TDI} {dg : TDG} {dt : TDT} {de : TD} (hst : X.stack = X.env :: X.outer) (hfr : X.env.frame = some X.env.locals) (tk : Takes X Z.W) (fl : FlatW Z.W) (hc : X.calm = true) (hN : X.N.Nodup) (hi : DI X Z tg iter wi ti) (ok : BlkOk X.N X.env.scope scope own)
    (hg : ∀ (s : Shared) (H : Hp) (C : Addr) (cl : List (Str × Addr)) (fp : List Addr) (xe : Value → Shared → Prop), TakesC (blkE X s H scope (compEnvC scope cl C X.env) fp xe) Z.W → DG (blkE X s H scope (compEnvC scope cl C X.env) fp xe) Z tg g dg) (ht : ∀ (s : Shared) (H : Hp) (C : Addr) (cl : List (Str × Addr)) (fp : List Addr) (xe : Value → Shared → Prop), TakesC (blkE X s H scope (compEnvC scope cl C X.env) fp xe) Z.W → DTs (blkE X s H scope (compEnvC scope cl C X.env) fp xe) Z ifs tt dt)
    (he : ∀ (s : Shared) (H : Hp) (C : Addr) (cl : List (Str × Addr)) (fp : List Addr) (xe : Value → Shared → Prop), TakesC (blkE X s H scope (compEnvC scope cl C X.env) fp xe) Z.W → DE (blkE X s H scope (compEnvC scope cl C X.env) fp xe) Z elt te de) (tgt : Tgt g (own.map (·.2))) (s0 : Shared) (hs : ∀ x, foldedSetIterable iter X.env x = pure x := by intro _; rfl) :
    DE X Z (.ListComp elt [⟨tg, iter, ifs, 0⟩] scope pos) (tLc wi g tt te (own.map (·.2))) (dLcX ti dg dt de (own.map (·.2))) :=
  ⟨pe_lcX hst hfr tk fl hc hN hi.pi ok (fun s H C cl fp xe t => (hg s H C cl fp xe t).pg) (fun s H C cl fp xe t => (ht s H C cl fp xe t).pt) (fun s H C cl fp xe t => (he s H C cl fp xe t).pe) hs,
    lc_rfX fl hi.rf (hg s0 (fun _ => none) 0 [] [] _ (takesAny rfl)).rf (ht s0 (fun _ => none) 0 [] [] _ (takesAny rfl)).rf (he s0 (fun _ => none) 0 [] [] _ (takesAny rfl)).rf tgt⟩
end
end PD
set_option Elab.async false
set_option linter.all false
set_option maxRecDepth 100000
set_option maxHeartbeats 1000000
namespace PD
open PySem PySem.Spec PyProof.Rows L2
/-! ### comprehensions of two clauses, the second source may raise -/
def lc2Go (body : PyData → List PyData → (List PyData → Prop) → Prop) : List PyData → List PyData → (List PyData → Prop) → Prop
  | [], acc, Q => Q acc
  | d :: ds, acc, Q => body d acc (fun acc' => lc2Go body ds acc' Q)
def lcGoS (body : PyData → (Option PyData → Prop) → Prop) : List PyData → List PyData → (List PyData → Prop) → Prop
  | [], acc, Q => Q acc
  | d :: ds, acc, Q => body d (fun o => (o.isSome = true → acc.length < sizeLine) ∧ lcGoS body ds (acc ++ o.toList) Q)
def plainV : Option DV → Option DV
  | some (.d x) => some (.d x)
  | some (.v x) => some (.v x)
  | _ => none
def plainD (δ : DEnv) : DEnv := δ.map plainV
theorem plainD_some {δ : DEnv} {i : Nat} {x : DV} (h : (plainD δ)[i]? = some (some x)) : δ[i]? = some (some x) ∧ ((∃ y, x = .d y) ∨ ∃ y, x = .v y) := by
  unfold plainD at h
  rw [List.getElem?_map] at h
  obtain ⟨z, e1, e2⟩ := Option.map_eq_some_iff.mp h
  unfold plainV at e2
  split at e2
  · cases e2; exact ⟨e1, .inl ⟨_, rfl⟩⟩
  · cases e2; exact ⟨e1, .inr ⟨_, rfl⟩⟩
  · cases e2
theorem EnvAt.plain {Z : Zx} {I H I' H' : Hp} {δ : DEnv} {σ : St} (h : EnvAt Z I H δ σ) (s : Same I I') : EnvAt Z I' H' (plainD δ) σ where
  len := by unfold plainD; rw [List.length_map]; exact h.len
  val := fun i x q => by
    obtain ⟨e, k⟩ := plainD_some q
    obtain ⟨v, e1, e2⟩ := h.val i x e
    refine ⟨v, e1, ?_⟩
    rcases k with ⟨y, rfl⟩ | ⟨y, rfl⟩
    · exact da_mono s _ _ e2
    · exact e2
  apart := fun i j xs ys v hn h1 h2 _ _ => by
    obtain ⟨_, k⟩ := plainD_some h1
    rcases k with ⟨y, e⟩ | ⟨y, e⟩ <;> cases e
def dIn (dg : TDG) (dt : TDT) (de : TD) (vs : List Nat) (δ : DEnv) : PyData → (Option PyData → Prop) → Prop := fun d K =>
  dg (.d d) (wipeD (plainD δ) vs) (fun δ' => dt δ' (fun b => if b = true then de δ' (fun y => match froz y with | .d y => K (some y) | _ => False) noE else K none) noE)
def dLc2 (ti : TDI) (dg : TDG) (dt : TDT) (ti1 : TDI) (dg1 : TDG) (dt1 : TDT) (de : TD) (vs vs1 : List Nat) : TD := fun δ Q E => ti δ (fun ds =>
  lc2Go (fun d acc K => dg (.d d) (wipeD δ vs) (fun δ' => dt δ' (fun b => if b = true then ti1 δ' (fun ds1 => lcGoS (dIn dg1 dt1 de vs1 δ') ds1 acc K) E else K acc) E)) ds [] (fun ys => Q (.new ys))) E
theorem wipe_wipe (σ : St) (ws : List Nat) : L2.wipe (L2.wipe σ ws) ws = L2.wipe σ ws := by
  have : ∀ (τ : St) (us : List Nat), (∀ u ∈ us, u < τ.length → τ[u]? = some none) → L2.wipe τ us = τ := fun τ us => by
    induction us with
    | nil => intro _; rfl
    | cons u us ih =>
      intro h
      show (L2.wipe τ us).set u none = τ
      rw [ih fun v hv => h v (List.mem_cons_of_mem _ hv)]
      by_cases hu : u < τ.length
      · have e := h u List.mem_cons_self hu
        apply List.ext_getElem?
        intro j
        by_cases hj : u = j
        · subst hj
          rw [List.getElem?_set_self hu, e]
        · rw [List.getElem?_set_ne hj]
      · exact List.set_eq_of_length_le (by omega)
  refine this _ _ fun u hu hl => ?_
  have wn : ∀ {τ : St} {ws : List Nat} {j : Nat}, j ∈ ws → j < τ.length → (L2.wipe τ ws)[j]? = some none := fun {τ ws j} hm hj => by
    induction ws with
    | nil => simp at hm
    | cons w ws ih =>
      show ((L2.wipe τ ws).set w none)[j]? = _
      by_cases hw : w = j
      · subst hw
        rw [List.getElem?_set_self (by rw [wipe_length]; exact hj)]
      · rw [List.getElem?_set_ne hw]
        exact ih ((List.mem_cons.mp hm).resolve_left fun e => hw e.symm)
  exact wn hu (by rwa [wipe_length] at hl)
section
variable {X : Cx} {Z : Zx} {pos : Pos}
abbrev RfI (Z : Zx) (wi : TI) (ti : TDI) : Prop := ∀ I H δ σ Qd Ed (R : It → Hp → Prop), Here Z I H δ σ Ed → ti δ Qd Ed → (∀ J ds I' H', Ext Z.R I H I' H' → Runs Z J I' ds → ds.length ≤ sizeLine → Qd ds → R J H') → wi σ H R
abbrev RfG (Z : Zx) (g : TG) (dg : TDG) : Prop := ∀ I H δ σ x v Qd Q Hs, Good Z.R I H → EnvAt Z I H δ σ → At Z Hs I H x v → dg x δ Qd → (∀ δ' σ' I' H', Ext Z.R I H I' H' → EnvAt Z I' H' δ' σ' → Qd δ' → Q σ' H') → g v σ H Q
abbrev RfT (Z : Zx) (tt : TT) (dt : TDT) : Prop := ∀ I H δ σ Qd Ed Q, Here Z I H δ σ Ed → dt δ Qd Ed → ThenB Z I H Qd Q → tt σ H Q
abbrev RfE (Z : Zx) (te : TE) (de : TD) : Prop := ∀ I H δ σ Qd Ed Q, Here Z I H δ σ Ed → de δ Qd Ed → Then Z I H Qd Q → te σ H Q
theorem lc2_rf (fl : FlatW Z.W) {wi wi1 : TI} {g g1 : TG} {tt tt1 : TT} {te : TE} {vs vs1 : List Nat} {ti ti1 : TDI} {dg dg1 : TDG} {dt dt1 : TDT} {de : TD}
    (hi : RfI Z wi ti) (hg : RfG Z g dg) (ht : RfT Z tt dt) (tg : Tgt g vs) (hi1 : RfI Z wi1 ti1) (hg1 : RfG Z.calm g1 dg1) (ht1 : RfT Z.calm tt1 dt1) (he : RfE Z.calm te de) (tg1 : Tgt g1 vs1) :
    ∀ I H δ σ Qd Ed Q, Here Z I H δ σ Ed → dLc2 ti dg dt ti1 dg1 dt1 de vs vs1 δ Qd Ed → Then Z I H Qd Q → tLc2 wi g tt wi1 g1 tt1 te vs vs1 σ H Q := fun I H δ σ Qd Ed Q hh q k => by
  refine hi I H δ σ _ Ed _ hh q fun J ds I1 H1 e1 rn hl q1 D hD => ?_
  have h1 := hh.ext e1
  have k1 := k.ext hh.g e1
  obtain ⟨n1, n2⟩ := fresh_off h1.g hD
  have hD0 : Z.H0 D = none := h1.old D hD
  have D4 : ∀ {Ia Ha Ib Hb us}, Ext Z.R Ia Ha Ib Hb → Ha D = some (.lst us) → Ia D = none → Hb D = some (.lst us) ∧ Ib D = none := fun {Ia Ha Ib Hb us} ee hh' hn' => by
    refine ⟨ee.keep D _ hh' n2, ?_⟩
    cases z : Ib D with
    | none => rfl
    | some w =>
      rcases ee.fresh D w z with y | y
      · rw [hn'] at y; cases y
      · rw [hh'] at y; cases y
  generalize hb : (fun d acc K => dg (.d d) (wipeD δ vs) (fun δ' => dt δ' (fun b => if b = true then ti1 δ' (fun ds1 => lcGoS (dIn dg1 dt1 de vs1 δ') ds1 acc K) Ed else K acc) Ed) : PyData → List PyData → (List PyData → Prop) → Prop) = body at q1
  refine ⟨fun i m H' => m = ds.length - i ∧ i ≤ ds.length ∧ ∃ I' acc us, Ext Z.R I1 H1 I' H' ∧ H' D = some (.lst us) ∧ DaAll Z.K I' us acc ∧ I' D = none ∧ us.length ≤ sizeLine ∧ lc2Go body (ds.drop i) acc (fun ys => Qd (.new ys)),
    ⟨ds.length, by simp, Nat.zero_le _, I1, [], [], ext_own h1.g hD, upd_same, .nil, n1, Nat.zero_le _, by simpa using q1⟩, ?_⟩
  rintro i m H' ⟨rfl, hi', I', acc, us, e', hu, au, nu, la, q'⟩
  obtain ⟨go, stop⟩ := rn I' H' e'.good e'.sub
  by_cases hlt : i < ds.length
  · have ed : ds[i]? = some ds[i] := by simp [hlt]
    rw [List.drop_eq_getElem_cons hlt] at q'
    obtain ⟨gg1, gg2⟩ := go i _ ed
    refine .inr ⟨gg1, fun H2 => i + 1 ≤ ds.length ∧ ∃ I' acc us, Ext Z.R I1 H1 I' H2 ∧ H2 D = some (.lst us) ∧ DaAll Z.K I' us acc ∧ I' D = none ∧ us.length ≤ sizeLine ∧ lc2Go body (ds.drop (i + 1)) acc (fun ys => Qd (.new ys)),
      fun H2 w2 => ⟨ds.length - (i + 1), by omega, rfl, w2⟩, fun x H'' hy => ?_⟩
    obtain ⟨I'', ex, ax⟩ := gg2 x H'' hy
    have e'' := e'.trans h1.g ex
    have env'' : EnvAt Z I'' H'' (wipeD δ vs) (L2.wipe σ vs) := (h1.env.ext e'').wipe vs
    subst hb
    have key : ∀ Q0, g x (L2.wipe σ vs) H'' Q0 → g x (L2.wipe σ vs) H'' (fun σ2 H2 => L2.wipe σ2 vs = L2.wipe σ vs ∧ Q0 σ2 H2) := fun Q0 h => by
      have := tg _ _ _ _ h
      rw [wipe_wipe] at this
      exact this
    refine key _ (hg I'' H'' (wipeD δ vs) (L2.wipe σ vs) (.d _) x _ _ H'' ex.good env'' (show Da Z.K I'' x _ from ax) q' fun δ3 σ3 I3 H3 ex3 env3 q3 => ?_)
    have ex := ex.trans e'.good ex3
    have e'' := e'.trans h1.g ex
    have h3 : Here Z I3 H3 δ3 σ3 Ed := ⟨h1.g0, h1.e0.trans h1.g0 e'', env3, fun x c od I2 H2 e2 xa q => fl _ _ _ _ _ (h1.w x c od I2 H2 e2 xa q)⟩
    refine ht I3 H3 δ3 σ3 _ Ed _ h3 q3 fun b I4 H4 e4 q4 => ?_
    have e14 := e''.trans h1.g e4
    obtain ⟨u2, v2⟩ := D4 ex hu nu
    obtain ⟨u4, v4⟩ := D4 e4 u2 v2
    cases b with
    | false => exact ⟨hlt, I4, acc, us, e14, u4, daa_mono e4.sub _ _ (daa_mono ex.sub _ _ au), v4, la, by simpa using q4⟩
    | true =>
      have h4 : Here Z I4 H4 δ3 σ3 Ed := h3.ext e4
      refine hi1 I4 H4 δ3 σ3 _ Ed _ h4 q4 fun J1 ds1 I5 H5 e5 rn1 hl1 q5 => ?_
      have h5 := h4.ext e5
      have e15 := e14.trans h1.g e5
      obtain ⟨u5, v5⟩ := D4 e5 u4 v4
      have au5 := daa_mono e5.sub _ _ (daa_mono e4.sub _ _ (daa_mono ex.sub _ _ au))
      generalize hK : (fun acc' => lc2Go _ (ds.drop (i + 1)) acc' fun ys => Qd (.new ys)) = Kd at q5
      refine ⟨fun j k H6 => k = ds1.length - j ∧ j ≤ ds1.length ∧ ∃ I6 acc us, Ext Z.R I1 H1 I6 H6 ∧ Same I5 I6 ∧ H6 D = some (.lst us) ∧ DaAll Z.K I6 us acc ∧ I6 D = none ∧ us.length ≤ sizeLine ∧ lcGoS (dIn dg1 dt1 de vs1 δ3) (ds1.drop j) acc Kd,
        ⟨ds1.length, by simp, Nat.zero_le _, I5, acc, us, e15, Same.refl _, u5, au5, v5, la, by simpa using q5⟩, ?_⟩
      rintro j k6 H6 ⟨rfl, hj, I6, acc6, us6, e6, s6, w6, a6, n6, l6, q6⟩
      obtain ⟨go1, stop1⟩ := rn1 I6 H6 e6.good s6
      by_cases hlt1 : j < ds1.length
      · have ed1 : ds1[j]? = some ds1[j] := by simp [hlt1]
        rw [List.drop_eq_getElem_cons hlt1] at q6
        obtain ⟨y1, y2⟩ := go1 j _ ed1
        refine .inr ⟨y1, fun H7 => j + 1 ≤ ds1.length ∧ ∃ I6 acc us, Ext Z.R I1 H1 I6 H7 ∧ Same I5 I6 ∧ H7 D = some (.lst us) ∧ DaAll Z.K I6 us acc ∧ I6 D = none ∧ us.length ≤ sizeLine ∧ lcGoS (dIn dg1 dt1 de vs1 δ3) (ds1.drop (j + 1)) acc Kd,
          fun H7 w7 => ⟨ds1.length - (j + 1), by omega, rfl, w7⟩, fun x1 H7 hy1 => ?_⟩
        obtain ⟨I7, ex7, ax7⟩ := y2 x1 H7 hy1
        have e17 := e6.trans h1.g ex7
        have key1 : ∀ Q0, g1 x1 (L2.wipe σ3 vs1) H7 Q0 → g1 x1 (L2.wipe σ3 vs1) H7 (fun σ4 H8 => L2.wipe σ4 vs1 = L2.wipe σ3 vs1 ∧ Q0 σ4 H8) := fun Q0 h => by
          have := tg1 _ _ _ _ h
          rw [wipe_wipe] at this
          exact this
        have env7 : EnvAt Z.calm I7 H7 (wipeD (plainD δ3) vs1) (L2.wipe σ3 vs1) := ((h5.env.plain (H' := H7) (s6.trans ex7.sub)).wipe vs1).other
        refine key1 _ (hg1 I7 H7 _ _ (.d _) x1 _ _ H7 ex7.good env7 (show Da Z.K I7 x1 _ from ax7) q6 fun δ8 σ8 I8 H8 ex8 env8 q8 => ?_)
        have e18 := e17.trans h1.g ex8
        have h8 : Here Z.calm I8 H8 δ8 σ8 noE := ⟨h1.g0, h1.e0.trans h1.g0 e18, env8, fun x c od I2 H2 e2 xa q => q.elim⟩
        refine ht1 I8 H8 δ8 σ8 _ noE _ h8 q8 fun b1 I9 H9 e9 q9 => ?_
        have ex9 := (ex7.trans e6.good ex8).trans e6.good e9
        have e19 := e18.trans h1.g e9
        obtain ⟨u9, v9⟩ := D4 ex9 w6 n6
        have a9 := daa_mono ex9.sub _ _ a6
        cases b1 with
        | false =>
          have q9' := q9.2
          exact ⟨hlt1, I9, acc6, us6, e19, s6.trans ex9.sub, u9, a9, v9, l6, by simpa using q9'⟩
        | true =>
          refine he I9 H9 δ8 σ8 _ noE _ (h8.ext e9) q9 (Then.frz (Z := Z.calm) (Qd := fun y => match y with | .d y => ((some y).isSome = true → acc6.length < sizeLine) ∧ lcGoS _ (ds1.drop (j + 1)) (acc6 ++ (some y).toList) Kd | _ => False) fun y w I10 H10 e10 ay q10 => ?_)
          dsimp only at q10
          split at q10
          · obtain ⟨u10, v10⟩ := D4 e10 u9 v9
            have a10 := daa_mono e10.sub _ _ a9
            have l10 := a10.len
            have lz := q10.1 rfl
            refine ⟨us6, u10, by omega, hlt1, I10, _, us6 ++ [w], ext_upd (e19.trans h1.g e10) hD n2 v10, s6.trans (ex9.sub.trans e10.sub), upd_same, a10.app (.cons ay .nil), v10, ?_, q10.2⟩
            rw [List.length_append]
            simp only [List.length_cons, List.length_nil]
            omega
          · exact q10.elim
      · have e : j = ds1.length := by omega
        subst e
        rw [List.drop_length] at q6
        subst hK
        exact .inl ⟨stop1, hlt, I6, acc6, us6, e6, w6, a6, n6, l6, q6⟩
  · have e : i = ds.length := by omega
    subst e
    rw [List.drop_length] at q'
    refine .inl ⟨stop, k1 (.new acc) (.ref D) I' H' e' ⟨⟨D, us, rfl, hu, au, nu, n2, la⟩, fun b eb => ?_⟩ q'⟩
    cases eb
    exact ⟨hD, hD0⟩
theorem pe_lc2X {elt tg iter tg1 iter1 : Expr} {ifs ifs1 : List Expr} {scope : Scope} {own : List (Str × Nat)} {vs1 : List Nat} {wi wi1 : TI} {g g1 : TG} {tt tt1 : TT} {te : TE} {W : WX} (hst : X.stack = X.env :: X.outer) (hfr : X.env.frame = some X.env.locals) (tk : Takes X W) (flw : FlatW W) (hc : X.calm = true) (hN : X.N.Nodup) (hi : PI X tg iter wi) (ok : BlkOk X.N X.env.scope scope own) (hv : ∀ i ∈ vs1, i ∈ own.map (·.2))
    (hg : ∀ (s : Shared) (H : Hp) (C : Addr) (cl : List (Str × Addr)) (fp : List Addr) (xe : Value → Shared → Prop), TakesC (blkE X s H scope (compEnvC scope cl C X.env) fp xe) W → PG (blkE X s H scope (compEnvC scope cl C X.env) fp xe) tg g) (ht : ∀ (s : Shared) (H : Hp) (C : Addr) (cl : List (Str × Addr)) (fp : List Addr) (xe : Value → Shared → Prop), TakesC (blkE X s H scope (compEnvC scope cl C X.env) fp xe) W → PTs (blkE X s H scope (compEnvC scope cl C X.env) fp xe) ifs tt) (hi1 : ∀ (s : Shared) (H : Hp) (C : Addr) (cl : List (Str × Addr)) (fp : List Addr) (xe : Value → Shared → Prop), TakesC (blkE X s H scope (compEnvC scope cl C X.env) fp xe) W → PI (blkE X s H scope (compEnvC scope cl C X.env) fp xe) tg1 iter1 wi1)
    (hg1 : ∀ (s : Shared) (H : Hp) (C : Addr) (cl : List (Str × Addr)) (fp : List Addr), PG (X.blk s H scope (compEnvC scope cl C X.env) fp) tg1 g1) (ht1 : ∀ (s : Shared) (H : Hp) (C : Addr) (cl : List (Str × Addr)) (fp : List Addr), PTs (X.blk s H scope (compEnvC scope cl C X.env) fp) ifs1 tt1)
    (he : ∀ (s : Shared) (H : Hp) (C : Addr) (cl : List (Str × Addr)) (fp : List Addr), PE (X.blk s H scope (compEnvC scope cl C X.env) fp) elt te) (hs : ∀ x, foldedSetIterable iter X.env x = pure x := by intro _; rfl) (hs1 : ∀ env x, foldedSetIterable iter1 env x = pure x := by intro _ _; rfl) :
    PE X (.ListComp elt [⟨tg, iter, ifs, 0⟩, ⟨tg1, iter1, ifs1, 0⟩] scope pos) (tLc2 wi g tt wi1 g1 tt1 te (own.map (·.2)) vs1) := by
  refine ⟨fun pins s σ H Q I h => ?_⟩
  rw [eval_ListComp]
  refine lc2_coreX hst hfr tk flw hc hN I hi ok hv hg ht he hs hi1 hg1 ht1 hs1 h fun D ce s' m H' I' q hn f => ⟨m, hn, fun h'' sb => ?_⟩
  obtain ⟨f0, f1, f2, f3, f4, f5⟩ := f
  exact ⟨.ref D, H', I'.turned (t' := s'.toks) (fun b o hb e => (sb.2 b hb).trans e) f0 f1 f3 f4 f5, rfl, q⟩
theorem de_lc2X {elt tg iter tg1 iter1 : Expr} {ifs ifs1 : List Expr} {scope : Scope} {own : List (Str × Nat)} {vs1 : List Nat} {wi wi1 : TI} {g g1 : TG} {tt tt1 : TT} {te : TE} {ti ti1 : TDI} {dg dg1 : TDG} {dt dt1 : TDT} {de : TD} (hst : X.stack = X.env :: X.outer) (hfr : X.env.frame = some X.env.locals) (tk : Takes X Z.W) (fl : FlatW Z.W) (hc : X.calm = true) (hN : X.N.Nodup) (hi : DI X Z tg iter wi ti) (ok : BlkOk X.N X.env.scope scope own) (hv : ∀ i ∈ vs1, i ∈ own.map (·.2))
    (hg : ∀ (s : Shared) (H : Hp) (C : Addr) (cl : List (Str × Addr)) (fp : List Addr) (xe : Value → Shared → Prop), TakesC (blkE X s H scope (compEnvC scope cl C X.env) fp xe) Z.W → DG (blkE X s H scope (compEnvC scope cl C X.env) fp xe) Z tg g dg) (ht : ∀ (s : Shared) (H : Hp) (C : Addr) (cl : List (Str × Addr)) (fp : List Addr) (xe : Value → Shared → Prop), TakesC (blkE X s H scope (compEnvC scope cl C X.env) fp xe) Z.W → DTs (blkE X s H scope (compEnvC scope cl C X.env) fp xe) Z ifs tt dt) (hi1 : ∀ (s : Shared) (H : Hp) (C : Addr) (cl : List (Str × Addr)) (fp : List Addr) (xe : Value → Shared → Prop), TakesC (blkE X s H scope (compEnvC scope cl C X.env) fp xe) Z.W → DI (blkE X s H scope (compEnvC scope cl C X.env) fp xe) Z tg1 iter1 wi1 ti1)
    (hg1 : ∀ (s : Shared) (H : Hp) (C : Addr) (cl : List (Str × Addr)) (fp : List Addr), DG (X.blk s H scope (compEnvC scope cl C X.env) fp) Z.calm tg1 g1 dg1) (ht1 : ∀ (s : Shared) (H : Hp) (C : Addr) (cl : List (Str × Addr)) (fp : List Addr), DTs (X.blk s H scope (compEnvC scope cl C X.env) fp) Z.calm ifs1 tt1 dt1)
    (he : ∀ (s : Shared) (H : Hp) (C : Addr) (cl : List (Str × Addr)) (fp : List Addr), DE (X.blk s H scope (compEnvC scope cl C X.env) fp) Z.calm elt te de) (tgt : Tgt g (own.map (·.2))) (tgt1 : Tgt g1 vs1) (s0 : Shared) (hs : ∀ x, foldedSetIterable iter X.env x = pure x := by intro _; rfl) (hs1 : ∀ env x, foldedSetIterable iter1 env x = pure x := by intro _ _; rfl) :
    DE X Z (.ListComp elt [⟨tg, iter, ifs, 0⟩, ⟨tg1, iter1, ifs1, 0⟩] scope pos) (tLc2 wi g tt wi1 g1 tt1 te (own.map (·.2)) vs1) (dLc2 ti dg dt ti1 dg1 dt1 de (own.map (·.2)) vs1) :=
  ⟨pe_lc2X hst hfr tk fl hc hN hi.pi ok hv (fun s H C cl fp xe t => (hg s H C cl fp xe t).pg) (fun s H C cl fp xe t => (ht s H C cl fp xe t).pt) (fun s H C cl fp xe t => (hi1 s H C cl fp xe t).pi) (fun s H C cl fp => (hg1 s H C cl fp).pg) (fun s H C cl fp => (ht1 s H C cl fp).pt) (fun s H C cl fp => (he s H C cl fp).pe) hs hs1,
    lc2_rf fl hi.rf (hg s0 (fun _ => none) 0 [] [] _ (takesAny rfl)).rf (ht s0 (fun _ => none) 0 [] [] _ (takesAny rfl)).rf tgt (hi1 s0 (fun _ => none) 0 [] [] _ (takesAny rfl)).rf (hg1 s0 (fun _ => none) 0 [] []).rf (ht1 s0 (fun _ => none) 0 [] []).rf (he s0 (fun _ => none) 0 [] []).rf tgt1⟩
/-- a def called where exceptions are let out by way of TakesC -/
theorem de_fnC {x : Str} {p : Pos} {e : Expr} {es : List Expr} {ta : TA} {da : TDA} {S : Spd} {n k : Nat} {f : Addr} {fd : FuncData} {ps : List Str} (F : FnOk X.prog X.w X.K X.mg X.base (L2.CX X.prog X.w) k f fd ps (lift X.K S n)) (hr : Room k X.A) (hg : Gl X x) (hm : X.mg x = some (.ref f)) (hk : PySem.W.keepIn X.K (.ref f) = true) (hb : Binds X.K fd ps []) (tk : TakesC X Z.W)
    (hK : Z.K = X.K) (ha : DA X Z (e :: es) ta da) (hd : (x == ("__debug__" : Str)) = false := by decide) (he : starEach (e :: es) X.env = (false, eval e X.env) :: starEach es X.env := by rfl) (hpl : (backTo pos (starEach es X.env)).any (·.1) = false := by rfl) :
    DE X Z (.Call (.Name x p) (e :: es) [] pos) (tCallS (lift Z.K S n) (WE Z.W) ta) (dFn Z.R S n da) := by rw [hK]; exact de_fn0 hK rfl ha (pe_callS F hr hg hm hk hb tk ha.pa hd he hpl)
end
end PD
set_option Elab.async false
set_option linter.all false
set_option maxRecDepth 100000
set_option maxHeartbeats 1000000
namespace PD
open PySem PySem.Spec PyProof.Rows L2
section
variable {X : Cx} {Z : Zx} {pos p : Pos} {x : Str} {e : Expr} {te : TE} {d : TD}
/-! ### f(k = e) -/
def tCallK1 (sp : Sp) (E : XK) (te : TE) : TE := fun σ H Q => te σ H fun v H1 => sp [v] H1 Q E
theorem pe_callK1 {CX : CXT} {k : Nat} {f : Addr} {fd : FuncData} {ps : List Str} {sp : Sp} {E : XK} {y : Str} {kpos : Pos} (F : FnOk X.prog X.w X.K X.mg X.base CX k f fd ps sp) (hr : Room k X.A) (hg : Gl X x) (hm : X.mg x = some (.ref f)) (hk : PySem.W.keepIn X.K (.ref f) = true)
    (hb : ∀ (s : Shared) (u : Value), X.K.In s.heap → BindsTo s fd ⟨[], [(y, u)]⟩ (ps.zip [u])) (hps : ps.length = 1) (hx : Passes CX X E) (he : PE X e te) (hdb : (x == ("__debug__" : Str)) = false := by decide)
    (hall : (backToKw pos (keywordEach [⟨some y, e, kpos⟩] X.env)).all (·.1.isSome) = true := by rfl) (hks : (backToKw pos (keywordEach [⟨some y, e, kpos⟩] X.env)).filterMap (·.1) = [y] := by rfl)
    (hpl : ((backTo pos (starEach [] X.env)).any (·.1) || (backToKw pos (keywordEach [⟨some y, e, kpos⟩] X.env)).any (·.1.isNone)) = false := by rfl) :
    PE X (.Call (.Name x p) [] [⟨some y, e, kpos⟩] pos) (tCallK1 sp E te) := by
  refine ⟨fun pins s σ H Q I h => ?_⟩
  refine wpAny_Call_Name_kw (ld_glob I hg hm ?_ hdb)
  have hkw : PK X [⟨some y, e, kpos⟩] (tCons te tNil) := pk_cons he pk_nil
  refine PySem.W.callWith_KW0 (h₀ := X.base) I.ok.mod.kin hk hall (thn (hkw.run pos pins s σ H (fun vs H1 => sp vs H1 Q E) I h) fun ws s2 ⟨zs, H2, I2, rz, q2⟩ => ⟨I2.kIn, ?_⟩) hpl
  have l := (F.len _ _ _ _ q2).trans hps
  rw [hks]
  cases rz with
  | nil => cases l
  | @cons v u vs us r rr =>
    cases rr with
    | cons _ _ => cases l
    | nil =>
      refine wpAny_call (codeAny_mono (F.run X.A X.stack s2 H2 ⟨[], [(y, u)]⟩ [u] [v] Q E hr I2.env0 (hb s2 u I2.kIn) (.cons r .nil) q2) fun r s' hq => ?_)
      cases r with
      | error e => exact hx pins σ H2 s2 e s' I2 hq
      | ok fl =>
        cases fl with
        | ret u => exact I2.after hq
        | next => exact False.elim hq
        | brk => exact False.elim hq
        | cont => exact False.elim hq
/-- .. a def that lets nothing out -/
def dFnK (R : Reg) (S : Spd) (d : TD) : TD := fun δ Q _ => d δ (fun x => (∀ ys, froz x ≠ .new ys) ∧ S R [unbor (froz x)] Q noE) noE
theorem de_callK1 {S : Spd} {k : Nat} {f : Addr} {fd : FuncData} {ps : List Str} {y : Str} {kpos : Pos} (F : FnOk X.prog X.w X.K X.mg X.base (L2.CX X.prog X.w) k f fd ps (lift X.K S 1)) (hr : Room k X.A) (hg : Gl X x) (hm : X.mg x = some (.ref f)) (hk : PySem.W.keepIn X.K (.ref f) = true)
    (hb : ∀ (s : Shared) (u : Value), X.K.In s.heap → BindsTo s fd ⟨[], [(y, u)]⟩ (ps.zip [u])) (hps : ps.length = 1) (hK : Z.K = X.K) (he : DE X Z e te d) (hdb : (x == ("__debug__" : Str)) = false := by decide)
    (hall : (backToKw pos (keywordEach [⟨some y, e, kpos⟩] X.env)).all (·.1.isSome) = true := by rfl) (hks : (backToKw pos (keywordEach [⟨some y, e, kpos⟩] X.env)).filterMap (·.1) = [y] := by rfl)
    (hpl : ((backTo pos (starEach [] X.env)).any (·.1) || (backToKw pos (keywordEach [⟨some y, e, kpos⟩] X.env)).any (·.1.isNone)) = false := by rfl) :
    DE X Z (.Call (.Name x p) [] [⟨some y, e, kpos⟩] pos) (tCallK1 (lift Z.K S 1) E0 te) (dFnK Z.R S d) := by
  refine ⟨by rw [hK]; exact pe_callK1 F hr hg hm hk hb hps passL he.pe hdb hall hks hpl, fun I H δ σ Qd Ed Q hh t k => ?_⟩
  refine he.rf I H δ σ _ noE _ ⟨hh.g0, hh.e0, hh.env, fun x c od I2 H2 e2 xa q => q.elim⟩ t (Then.frz (Qd := fun x => (∀ ys, x ≠ .new ys) ∧ S Z.R [unbor x] Qd noE) fun y v I1 H1 e1 a1 q1 => ?_)
  have h1 := hh.ext e1
  have aa : AtAll Z H I1 H1 [y] [v] := .cons a1 .nil
  exact ⟨rfl, Z.R, I1, _, Qd, noE, h1.g, arg_at (fun z hz => by rw [List.mem_singleton.mp hz]; exact q1.1) aa, q1.2, fun x v I' H' e r qx => (k.ext hh.g e1) x v I' H' e (ret_at r) qx, fun x c od I' H' e xa q => q.elim⟩
/-! ### a table of the module: text keys, ints -/
structure Tbl (K : PySem.W.Frag) (w : World) (a : Addr) (kvs : List (Str × Int)) : Prop where
  dict : ∃ es n, KDict K w a es n
  get : ∀ z : Str, ∃ r, PySem.W.nsIn K a z = some r ∧ (match kvs.lookup z with | some i => ∃ t, r = some (.int i t) | none => r = none)
def tKGet2 (a : Addr) (kvs : List (Str × Int)) (to ty tx : TE) : TE := fun σ H Q => to σ H fun o H1 => o = .ref a ∧ ty σ H1 fun y H2 => tx σ H2 fun x H3 => ∃ z, y = .str z ∧ Q (match kvs.lookup z with | some i => .int i | none => x) H3
theorem pe_kget2 {kvs : List (Str × Int)} {a : Addr} {o e f : Expr} {apos cpos : Pos} {to ty tx : TE} (D : Tbl X.K X.w a kvs) (ho : PE X o to) (he : PE X e ty) (hf : PE X f tx) (m : M2 X o "get" apos e f cpos) : PE X (.Call (.Attribute o "get" apos) [e, f] [] cpos) (tKGet2 a kvs to ty tx) := by
  obtain ⟨es, n, KD⟩ := D.dict
  refine ⟨fun pins s σ H Q I h => ?_⟩
  refine wpAny_Call_method m.base m.few m.line PySem.F.plainAttrs_dict PySem.F.slot_dict_get PySem.F.type_dict_get (thn (ho.run pins s σ H _ I h) fun u s1 ⟨x, H1, I1, rx, ex, q1⟩ => ?_)
  subst ex
  obtain rfl : u = Value.ref a := rx
  have mo : ∀ {s : Shared} {H : Hp} {σ : St}, Inv X pins σ H s → _ := fun {s H σ} I => PySem.W.mapOf_K (prog := X.prog) (w := X.w) I.kIn KD.at_ KD.lit
  refine ⟨(mo I1).typeIs, (mo I1).noDict, ?_⟩
  rw [m.trees]
  refine Calls.callWith_builtin rfl (Calls.evalArgs_plain (Calls.spliced_cons (thn (he.run pins s1 σ H1 _ I1 q1) fun iv s2 ⟨y, H2, I2, ry, q2⟩ =>
    Calls.spliced_cons (thn (hf.run pins s2 σ H2 _ I2 q2) fun fv s3 ⟨z, H3, I3, rz, k, ek, q3⟩ => Calls.spliced_nil ?_))))
  subst ek
  obtain ⟨t, rfl⟩ := ry
  obtain ⟨r, e1, e2⟩ := D.get k
  refine call_meetsIn PySem.F.slot_dict_get (mo I3).typeIs PySem.F.entry_dict_get (PySem.F.args_dict_get_3 _ _ _) (meets_dict_get_default (PySem.strKind X.prog X.w) a (PySem.strKind_is X.prog X.w k t) KD.low fv) ⟨_, mo I3, _, H3, I3.tok _, ?_, q3⟩
  rw [PySem.W.find_K KD.at_ e1]
  revert e2
  cases kvs.lookup k with
  | none => intro e2; subst e2; exact rz
  | some i => intro e2; obtain ⟨t', rfl⟩ := e2; exact ⟨t', rfl⟩
def dKGet2 (a : Addr) (kvs : List (Str × Int)) (o y x : TD) : TD := fun δ Q E => o δ (fun v => v = .v (.ref a) ∧ y δ (fun v => ∃ z, v = .d (.str z) ∧ x δ (fun v => ∃ j, v = .d (.int j) ∧ Q (.d (.int ((kvs.lookup z).getD j)))) E) E) E
theorem de_kget2 {kvs : List (Str × Int)} {a : Addr} {o e f : Expr} {apos cpos : Pos} {to ty tx : TE} {d_o dy dx : TD} (D : Tbl X.K X.w a kvs) (ho : DE X Z o to d_o) (he : DE X Z e ty dy) (hf : DE X Z f tx dx) (m : M2 X o "get" apos e f cpos) : DE X Z (.Call (.Attribute o "get" apos) [e, f] [] cpos) (tKGet2 a kvs to ty tx) (dKGet2 a kvs d_o dy dx) := by
  refine ⟨pe_kget2 D ho.pe he.pe hf.pe m, fun I H δ σ Qd Ed Q hh t k => ?_⟩
  refine ho.rf I H δ σ _ Ed _ hh t fun x v I1 H1 e1 a1 q1 => ?_
  obtain ⟨ex, q1⟩ := q1
  subst ex
  refine ⟨a1, he.rf I1 H1 δ σ _ Ed _ (hh.ext e1) q1 fun y u I2 H2 e2 a2 q2 => ?_⟩
  obtain ⟨z, ey, q2⟩ := q2
  subst ey
  have h2 := (hh.ext e1).ext e2
  refine hf.rf I2 H2 δ σ _ Ed _ h2 q2 fun x w I3 H3 e3 a3 q3 => ?_
  obtain ⟨j, ej, q3⟩ := q3
  subst ej
  cases a2
  cases a3
  refine ⟨z, rfl, ?_⟩
  have k3 := ((k.ext hh.g e1).ext e1.good e2).ext h2.g e3
  refine k3.now (h2.ext e3).g (x := .int ((kvs.lookup z).getD j)) ?_ q3
  cases kvs.lookup z with
  | none => exact .int j
  | some i => exact .int i
/-- d[key] -/
def rKIx (a : Addr) (kvs : List (Str × Int)) : R2 := fun x y H Q => ∃ z i, x = .ref a ∧ y = .str z ∧ kvs.lookup z = some i ∧ Q (.int i) H
def oKIx (a : Addr) (kvs : List (Str × Int)) : O2 := fun x y Q _ => ∃ z i, x = .v (.ref a) ∧ y = .d (.str z) ∧ kvs.lookup z = some i ∧ Q (.d (.int i))
theorem od_kix {a : Addr} {kvs : List (Str × Int)} : OpD Z (rKIx a kvs) (oKIx a kvs) := fun I H Hs x y v u Qd Ed Q g' ax ay t k => by
  obtain ⟨z, i, rfl, rfl, e, t⟩ := t
  have e1 : v = _ := ax
  cases ay
  exact ⟨z, i, e1, rfl, e, k.now g'.g (.int i) t⟩
theorem pe_kix {kvs : List (Str × Int)} {a : Addr} {o i : Expr} {to ty : TE} (D : Tbl X.K X.w a kvs) (ho : PE X o to) (hi : PE X i ty) (hs : NoSl i) : PE X (.Subscript o i pos) (tOp (rKIx a kvs) to ty) := by
  obtain ⟨es, n, KD⟩ := D.dict
  refine ⟨fun pins s σ H Q I h => ?_⟩
  refine subD_of PySem.F.slot_dict_getitem.lookup hs (thn (ho.run pins s σ H _ I h) fun u s1 ⟨x, H1, I1, rx, q1⟩ => thn (hi.run pins s1 σ H1 _ I1 q1) fun iv s2 ⟨y, H2, I2, ry, z, j, ex, ey, el, q2⟩ => ?_)
  subst ex ey
  obtain rfl : u = Value.ref a := rx
  obtain ⟨t, rfl⟩ := ry
  obtain ⟨r, e1, e2⟩ := D.get z
  rw [el] at e2
  obtain ⟨t', rfl⟩ := e2
  refine ⟨kd_type KD I2, ?_⟩
  exact wpAny_getItem_of (PySem.strKind_is X.prog X.w z t) (PySem.W.mapOf_K (prog := X.prog) I2.kIn KD.at_ KD.lit) (PySem.W.find_K KD.at_ e1) ⟨.int j, H2, I2.tok _, ⟨t', rfl⟩, q2⟩
theorem de_kix {kvs : List (Str × Int)} {a : Addr} {o i : Expr} {to ty : TE} {d_o dy : TD} (D : Tbl X.K X.w a kvs) (ho : DE X Z o to d_o) (hi : DE X Z i ty dy) (hs : NoSl i := by intro _ _; rfl) : DE X Z (.Subscript o i pos) (tOp (rKIx a kvs) to ty) (dBin (oKIx a kvs) d_o dy) :=
  de_tOp (fun p q => pe_kix D p q hs) od_kix ho hi
/-! ### {}, {k: v}: a dict, of which nothing more is told -/
theorem Then.dct {I H : Hp} {Qd : DK} {Q : VK} {kvs : List (Key × V)} {ds : List (PyData × PyData)} (g : Good Z.R I H) (k : Then Z I H Qd Q) (q : Qd (.d (.dict ds))) : ∀ p, H p = none → Q (.ref p) (upd H p (.dK kvs)) := fun p hp => by
  exact k (.d (.dict ds)) (.ref p) _ _ (ext_new g hp trivial) (.dct upd_same) q
theorem de_dict0 : DE X Z (.Dict [] [] pos) tDNewK (dC (.d (.dict []))) :=
  ⟨pe_dnewK, fun I H δ σ Qd Ed Q hh t k => k.dct hh.g t⟩
def dDict1 (a b : PyData) : TD := fun _ Q _ => Q (.d (.dict [(a, b)]))
theorem de_dict1 {z : Str} {i : Int} {j j2 : Nat} {p1 p2 : Pos} : DE X Z (.Dict [some (.Constant (.str z) j p1)] [.Constant (.int i) j2 p2] pos) (tDisp [(tC (.str z), tC (.int i))]) (dDict1 (.str z) (.int i)) := by
  refine ⟨pe_disp ?_ rfl rfl (by simp) (by show 1 ≤ 15; decide), fun I H δ σ Qd Ed Q hh t k => ?_⟩
  · exact pps_cons pe_str pe_int pps_nil
  · intro q hq
    refine ⟨upd_same, [(.inr z, .int i)], rfl, by show 1 ≤ 15; decide, ?_⟩
    have e : upd (upd H q (.dK [])) q (.dK (mergeK [] [(.inr z, .int i)])) = upd H q (.dK (mergeK [] [(.inr z, .int i)])) := upd_upd
    rw [e]
    exact k.dct hh.g t q hq
end
end PD
set_option Elab.async false
set_option linter.all false
set_option maxRecDepth 100000
set_option maxHeartbeats 1000000
namespace PD
open PySem PySem.Spec PyProof.Rows L2
section
variable {X : Cx} {Z : Zx} {pos p : Pos} {x : Str} {e : Expr} {te : TE} {d : TD}
/-! ### repr of data -/
def isSeq : PyData → Bool
  | .list _ => true
  | .tuple _ => true
  | _ => false
def reprOk (d : PyData) : Prop := isSeq d = true ∧ d.canLay0 = true ∧ d.showable = true ∧ d.depth ≤ 60 ∧ d.shown.length ≤ sizeLine
def rRepr (K : PySem.W.Frag) : List V → Hp → VK → Prop := fun xs H Q => ∃ v d, xs = [v] ∧ Dp K H v d ∧ reprOk d ∧ Q (.str d.shown) H
theorem call_reprD (hg : X.A.guards = some []) (hu : X.A.units + 64 < cLine) : CallR X (.builtin "repr") (rRepr X.K) := by
  intro pins s σ H xs us Q I r h
  obtain ⟨v, d, rfl, hd, ⟨h0, h1, h2, h3, h4⟩, q⟩ := h
  cases r with
  | @cons v u vs us r rr =>
    cases rr
    obtain ⟨as, rd⟩ := Dp.reads I d v u hd r
    have fin : ∀ (h' : Heap) (t : Tok) (tk : Nat), (∀ b o, s.heap.get? b = some o → h'.get? b = some o) → EP X pins σ Q (.str d.shown t) { s with heap := h', toks := tk } := fun h' t tk k => ⟨.str d.shown, H, I.kept k, ⟨t, rfl⟩, q⟩
    have hn := PyData.hasDict_of_canLay d h1
    obtain ⟨a, rfl⟩ : ∃ a, u = .ref a := by
      cases d with
      | list ds => cases rd; exact ⟨_, rfl⟩
      | tuple ds => cases rd; exact ⟨_, rfl⟩
      | _ => cases h0
    exact repr_of_reads' (prog := X.prog) (w := X.w) rd h2 (PyData.noDict_hsm hn) hg (by omega) (fun b o e => e) (fun h' t tk k => fin h' t tk k) h4
def oRepr : OC := fun xs Q _ => match xs with
  | [x] => ∃ d, datOf x = some d ∧ reprOk d ∧ Q (.d (.str d.shown))
  | _ => False
theorem cd_repr {K : PySem.W.Frag} (hK : Z.K = K) : CallD Z (rRepr K) oRepr := fun I H Hs xs vs Qd Ed Q g' a t k => by
  subst hK
  unfold oRepr at t
  split at t
  · obtain ⟨v, rfl, a'⟩ := at1 a
    obtain ⟨d, e1, h, t⟩ := t
    exact ⟨v, d, rfl, dat_at g'.g a' e1 h.2.1, h, k.now g'.g (.str _) t⟩
  · exact t.elim
/-! ### x == (), x != (): a tuple whose parts are not looked at -/
def rEq0 (K : PySem.W.Frag) (f : Bool → Bool) : R2 := fun x y H Q => ∃ (a b : Addr) (xs : List V), x = .ref a ∧ y = .ref b ∧ SqT K H a xs ∧ SqT K H b [] ∧ Q (.bl (f xs.isEmpty)) H
theorem op_eq0 (hu : X.A.units + 64 < cLine) : OpR X (compareOp .Eq) (rEq0 X.K fun b => b) := by
  intro pins s σ H x y v u Q I rx ry h
  obtain ⟨a, b, xs, rfl, rfl, h1, h2, q⟩ := h
  cases rx; cases ry
  obtain ⟨its, rv, p, hz⟩ := I.tuple h1
  obtain ⟨its2, rv2, p2, hz2⟩ := I.tuple h2
  cases rv2
  refine SeqAt.RcAt.tuples (e := fun _ => true) p p2 (by omega) (fun j h1 h2 => ?_) X.prog X.w _ _ ⟨.bl _, H, I, ?_, q⟩
  · simp at h2
  · have l := rv.length
    show Value.bool _ = Value.bool _
    congr 1
    cases xs with
    | nil => have : its = [] := List.length_eq_zero_iff.mp l.symm; subst this; rfl
    | cons x xs => cases its with
      | nil => cases l
      | cons i is => rfl
theorem op_ne0 (hu : X.A.units + 64 < cLine) : OpR X (compareOp .NotEq) (rEq0 X.K fun b => !b) := by
  intro pins s σ H x y v u Q I rx ry h
  obtain ⟨a, b, xs, rfl, rfl, h1, h2, q⟩ := h
  cases rx; cases ry
  obtain ⟨its, rv, p, hz⟩ := I.tuple h1
  obtain ⟨its2, rv2, p2, hz2⟩ := I.tuple h2
  cases rv2
  refine SeqAt.RcNeAt.tuples (e := fun _ => true) p p2 (by omega) (fun j h1 h2 => ?_) X.prog X.w _ _ ⟨.bl _, H, I, ?_, q⟩
  · simp at h2
  · have l := rv.length
    show Value.bool _ = Value.bool _
    congr 1
    cases xs with
    | nil => have : its = [] := List.length_eq_zero_iff.mp l.symm; subst this; rfl
    | cons x xs => cases its with
      | nil => cases l
      | cons i is => rfl
def oEq0 (f : Bool → Bool) : O2 := fun x y Q _ => ∃ ds, x = .d (.tuple ds) ∧ y = .d (.tuple []) ∧ Q (.d (.bool (f ds.isEmpty)))
theorem od_eq0 {K : PySem.W.Frag} {f : Bool → Bool} (hK : Z.K = K) : OpD Z (rEq0 K f) (oEq0 f) := fun I H Hs x y v u Qd Ed Q g' ax ay t k => by
  subst hK
  obtain ⟨ds, rfl, rfl, t⟩ := t
  obtain ⟨p, vs, rfl, h1, h1', h2⟩ := tup_at g'.g ax
  obtain ⟨q, us, rfl, h3, h3', h4⟩ := tup_at g'.g ay
  have l4 := h4.len
  have e4 : us = [] := List.length_eq_zero_iff.mp l4
  subst e4
  refine ⟨p, q, vs, rfl, rfl, h1', h3', k.now g'.g ?_ t⟩
  have e : vs.isEmpty = ds.isEmpty := by
    cases h2 <;> rfl
  rw [e]
  exact .bl _
/-! ### try: one statement, except x: .. -/
/-- the handler takes the classes that cat says; what is held in slots that others may change is forgotten -/
def dTry (cat : Addr → Option Bool) (t u : TDS) : TDS := fun D E δ => t { nx := fun δ' => D.nx (plainD δ'), rt := D.rt, bk := fun δ' => D.bk (plainD δ'), ct := fun δ' => D.ct (plainD δ') } (fun x => ∃ b, cat x.C = some b ∧ (if b = true then u D E (plainD δ) else E x)) (plainD δ)
theorem plain_any {Z Z' : Zx} (hK : Z'.K = Z.K) {I H H' : Hp} {δ : DEnv} {σ : St} (h : EnvAt Z I H δ σ) : EnvAt Z' I H' (plainD δ) σ := by
  have z := h.plain (H' := H') (Same.refl I)
  refine ⟨z.len, fun i y q => ?_, fun i j xs ys v hn h1 h2 _ _ => ?_⟩
  · obtain ⟨v, e1, e2⟩ := z.val i y q
    obtain ⟨_, k⟩ := plainD_some q
    refine ⟨v, e1, ?_⟩
    rcases k with ⟨y, rfl⟩ | ⟨y, rfl⟩
    · show Da Z'.K I v y
      rw [hK]; exact e2
    · exact e2
  · obtain ⟨_, k⟩ := plainD_some h1
    rcases k with ⟨y, e⟩ | ⟨y, e⟩ <;> cases e
theorem ds_try {b₀ : Stmt} {suite body : List Stmt} {np pos' : Pos} {c : Value} {tb : WX → TS} {ts : Addr → Value → Option Addr → TS} {t u : TDS} {cat : Addr → Option Bool} (hs : X.stack = X.env :: X.outer) (hf : X.env.frame = some X.env.locals) (hc : Names X x c) (tk : Takes X Z.W) (hK : Z.K = X.K)
    (hcat : ∀ C b, cat C = some b → PySem.W.exmOne X.K (.ref C) c = some b)
    (hb : ∀ (W : WX) (I0 H0 : Hp) (pn : List (Addr × Obj)) (xe : Value → Shared → Prop), Takes (X.tr pn xe) W → DSs (X.tr pn xe) ⟨Z.K, Z.R, W, I0, H0⟩ body (tb W) t)
    (hsu : ∀ (a : Addr) (cls : Value) (d : Option Addr) (pn : List (Addr × Obj)), DSs (X.suite a pn) Z (b₀ :: suite) (ts a cls d) u) :
    DS X Z (.Try body [.ExceptHandler (some (.Name x np)) none (b₀ :: suite) pos'] [] [] pos) (fun D σ H => tb (wOnly X.K c ts Z.W D) D σ H) (dTry cat t u) := by
  refine ⟨ps_try_only hs hf hc tk (fun W pn xe tk' _ => (hb W (fun _ => none) (fun _ => none) pn xe tk').ps) (fun a oe cls d pn _ _ => (hsu a cls d _).ps), fun I H δ σ D Ed T hh q l => ?_⟩
  have hw : Wish ⟨Z.K, Z.R, wOnly X.K c ts Z.W T, I, H⟩ (fun x => ∃ b, cat x.C = some b ∧ (if b = true then u D Ed (plainD δ) else Ed x)) σ := fun y cl od I' H' ext xa k => by
    obtain ⟨b, hb1, k⟩ := k
    have e0 := hh.e0.trans hh.g0 ext
    have xc := xa.1
    subst xc
    refine ⟨b, hcat _ _ hb1, fun hbt a na => ?_, fun hbf => ?_⟩
    · rw [if_pos hbt] at k
      exact (hsu a _ od []).rf I' H' (plainD δ) σ D Ed T ⟨hh.g0, e0, hh.env.plain ext.sub, hh.w⟩ k (l.ext ext.sub)
    · rw [hbf, if_neg Bool.false_ne_true] at k
      exact hh.w y _ od I' H' e0 xa k
  refine (hb (wOnly X.K c ts Z.W T) I H [] (fun _ _ => True) (fun _ _ _ => trivial)).rf I H (plainD δ) σ _ _ T ⟨hh.g, Ext.refl hh.g, plain_any (Z := Z) (Z' := ⟨Z.K, Z.R, wOnly X.K c ts Z.W T, I, H⟩) (H' := H) rfl hh.env, hw⟩ q ⟨fun δ' σ' I' H' e s v q => ?_, fun y v I' H' e r q => ?_, fun δ' σ' I' H' e s v q => ?_, fun δ' σ' I' H' e s v q => ?_⟩
  · exact l.nx _ σ' I' H' (hh.e0.trans hh.g0 e) s (plain_any (Z' := Z) (Z := ⟨Z.K, Z.R, wOnly X.K c ts Z.W T, I, H⟩) rfl v) q
  · exact l.rt y v I' H' (hh.e0.trans hh.g0 e) r q
  · exact l.bk _ σ' I' H' (hh.e0.trans hh.g0 e) s (plain_any (Z' := Z) (Z := ⟨Z.K, Z.R, wOnly X.K c ts Z.W T, I, H⟩) rfl v) q
  · exact l.ct _ σ' I' H' (hh.e0.trans hh.g0 e) s (plain_any (Z' := Z) (Z := ⟨Z.K, Z.R, wOnly X.K c ts Z.W T, I, H⟩) rfl v) q
/-- a def called in a try's body: what the reading hangs on is named -/
theorem de_fnT {es : List Expr} {ta : TA} {da : TDA} {S : Spd} {n k : Nat} {f : Addr} {fd : FuncData} {ps : List Str} (K : PySem.W.Frag) (R : Reg) (W : WX) (F : FnOk X.prog X.w X.K X.mg X.base (L2.CX X.prog X.w) k f fd ps (lift X.K S n)) (hr : Room k X.A) (hg : Gl X x) (hm : X.mg x = some (.ref f)) (hk : PySem.W.keepIn X.K (.ref f) = true) (hb : Binds X.K fd ps []) (tk : TakesC X Z.W)
    (hK : Z.K = X.K) (ha : DA X Z (e :: es) ta da) (hZK : Z.K = K) (hZR : Z.R = R) (hZW : Z.W = W) (hd : (x == ("__debug__" : Str)) = false := by decide) (he : starEach (e :: es) X.env = (false, eval e X.env) :: starEach es X.env := by rfl) (hpl : (backTo pos (starEach es X.env)).any (·.1) = false := by rfl) :
    DE X Z (.Call (.Name x p) (e :: es) [] pos) (tCallS (lift K S n) (WE W) ta) (dFn R S n da) := by subst hZK hZR hZW; exact de_fnC F hr hg hm hk hb tk hK ha hd he hpl
theorem de_methT {apos : Pos} {es : List Expr} {ta : TA} {da : TDA} {o : Expr} {to : TE} {t : TD} {name : Str} {T : String} {r : V → List V → Hp → VK → Prop} {od : DV → OC} (K : PySem.W.Frag) (hd : MtD Z r od) (ho : DE X Z o to t) (ha : DA X Z (e :: es) ta da) (hK : X.K = K) (hZK : Z.K = K)
    (h : PE X o to → PA X (e :: es) ta → PE X (.Call (.Attribute o name apos) (e :: es) [] pos) (tBM X.K T r to ta)) : DE X Z (.Call (.Attribute o name apos) (e :: es) [] pos) (tBM K T r to ta) (dMeth T od t da) := by
  have q := de_meth hd ho ha (hZK.trans hK.symm) h
  rw [hZK] at q
  exact q
/-- one class is caught -/
def cat1 (a : Addr) : Addr → Option Bool := fun C => if C = a then some true else none
theorem cat1_ok {K : PySem.W.Frag} {a : Addr} {c : Value} (h : PySem.W.exmOne K (.ref a) c = some true) : ∀ C b, cat1 a C = some b → PySem.W.exmOne K (.ref C) c = some b := fun C b e => by
  unfold cat1 at e
  split at e
  · rename_i z
    cases e
    rw [z]; exact h
  · cases e
end
/-- a def's one parameter by its name -/
theorem bindsK1 {K : PySem.W.Frag} {x qual : Str} {params : Arguments} {body : List Stmt} {scope : Scope} {f : Addr} {fd : FuncData} {ps : List Str} {y : Str} (F : FunD K x qual params body scope [] [] f fd)
    (h : ∀ (kV doc pm : Value) (an : Option Addr) (cdv ct : Value) (u : Value), bindArgs (PySem.W.fnOf x qual params body scope .none kV doc pm an cdv ct) ⟨[], [(y, u)]⟩ = pure (ps.zip [u])) (s : Shared) (u : Value) (_ : K.In s.heap) : BindsTo s fd ⟨[], [(y, u)]⟩ (ps.zip [u]) := by
  obtain ⟨oc, od, dV, kV, doc, pm, an, cdv, ct, osl, rfl, lk, hcd, hD, hK⟩ := F.ex
  rcases hD with ⟨_, rfl⟩ | ⟨e, _⟩
  · exact .of_eq (h kV doc pm an cdv ct u)
  · exact absurd rfl e
end PD
set_option Elab.async false
set_option linter.all false
set_option maxRecDepth 100000
set_option maxHeartbeats 1000000
namespace PD
open PySem PySem.Spec PyProof.Rows L2
/-! ### draws: [cells, at, n] -/
def DrawAt (H : Hp) (a c : Addr) : Prop := ∃ (cells : List Int) (t n : Int), H a = some (.lst [.ref c, .int t, .int n]) ∧ H c = some (.lst (cells.map V.int)) ∧ cells ≠ [] ∧ 0 ≤ n ∧ n < 2147483647
def drawReg (a c : Addr) : Reg where
  m b := b = a ∨ b = c
  J H := DrawAt H a c
  dom := fun H b j m => by
    obtain ⟨cells, t, n, h1, h2, _⟩ := j
    rcases m with rfl | rfl
    · rw [h1]; exact fun e => nomatch e
    · rw [h2]; exact fun e => nomatch e
  st := fun H H' j k => by
    obtain ⟨cells, t, n, h1, h2, h3⟩ := j
    exact ⟨cells, t, n, k a _ (.inl rfl) h1, k c _ (.inr rfl) h2, h3⟩
/-- _law_take(_law_draw, _law_size): some int below the size -/
def spTake : Spd := fun R xs Q _ => ∃ (a c : Addr) (k : Int), R = drawReg a c ∧ xs = [.v (.ref a), .d (.int k)] ∧ 1 ≤ k ∧ k ≤ 10 ^ 30 ∧ ∀ i : Int, 0 ≤ i → i < k → Q (.d (.int i))
/-- the region's lists are written anew -/
theorem ext_draw {a c : Addr} {I H H' : Hp} (g : Good (drawReg a c) I H) (k : ∀ b, b ≠ a → b ≠ c → H' b = H b) (j : DrawAt H' a c) : Ext (drawReg a c) I H I H' := by
  refine ⟨⟨fun b o e => ?_, j, g.off, g.len⟩, Same.refl _, fun b o e => .inl e, fun b o e m => ?_⟩
  · have m := g.off b o e
    rw [k b (fun z => m (.inl z)) (fun z => m (.inr z))]
    exact g.sub b o e
  · rw [k b (fun z => m (.inl z)) (fun z => m (.inr z))]
    exact e
theorem iteG' {c : Bool} {A B : Prop} (ht : c = true → A) (hf : c = false → B) : if c = true then A else B := by
  cases c with
  | true => exact ht rfl
  | false => exact hf rfl
theorem log2_le {n : Nat} (h : n < 10 ^ 60) : n.log2 ≤ 200 := by
  by_cases z : n = 0
  · rw [z]; decide
  · have := (Nat.log2_lt z (k := 200)).mpr (Nat.lt_of_lt_of_le h (by decide))
    omega
end PD
set_option Elab.async false
set_option linter.all false
set_option maxRecDepth 100000
set_option maxHeartbeats 1000000
namespace PD
open PySem PySem.Spec PyProof.Rows L2
/-! ### an exception that was caught and is held -/
/-- at a: an exception of the class cls, its dict -/
def ExZ (a : Addr) (cls : Value) (d : Option Addr) : Heap → Prop := fun h => ∃ oe vs, h.get? a = some oe ∧ Zc cls d oe ∧ oe.data = .fields vs
def exz (a : Addr) (cls : Value) (d : Option Addr) : HO := .ext (ExZ a cls d)
theorem exz_ok {P : Program} {w : World} {H : Hp} {h : Heap} {a : Addr} {cls : Value} {d : Option Addr} (z : ExZ a cls d h) : ObjOk P w H h a (exz a cls d) :=
  ⟨z, let ⟨oe, _, e, _⟩ := z; ⟨oe, e⟩, fun _ _ ⟨oe, vs, e, q, r⟩ k => ⟨oe, vs, k _ e, q, r⟩⟩
theorem exz_at {P : Program} {w : World} {H : Hp} {h : Heap} {a : Addr} {cls : Value} {d : Option Addr} (hok : HOk P w H h) (e : H a = some (exz a cls d)) : ExZ a cls d h := by
  have x : ObjOk P w H h a (.ext (ExZ a cls d)) := hok a _ e
  exact x.1
section
variable {X : Cx} {pins pins' : List (Addr × Obj)} {σ : St} {H : Hp} {s : Shared} {a : Addr} {cls : Value} {d : Option Addr}
theorem inv_track (I : Inv X pins σ H s) (z : ExZ a cls d s.heap) (na : H a = none) (nL : a ≠ X.env.locals) (n0 : ∀ o, X.s_0.heap.get? a ≠ some o) (hp : ∀ p ∈ X.pn ++ pins', p ∈ X.pn ++ pins ∧ p.1 ≠ a) : Inv X pins' σ (upd H a (exz a cls d)) s := by
  have ne : ∀ {b : Addr} {o : HO}, H b = some o → b ≠ a := fun e q => by rw [q, na] at e; cases e
  refine ⟨I.ok, I.os, I.bare, ⟨I.base.keep, I.base.slot, fun b o e n hx => ?_, I.base.there, fun b xs e => ?_, fun b o xs e => ?_, fun b ps e => ?_⟩, I.loc, I.cell, ?_, fun y c e => ?_, fun p m => ?_, fun b o e => ?_, I.len⟩
  · rw [upd_ne (fun q => n0 o (by rw [← q]; exact e))]
    exact I.base.free b o e n hx
  · have q := I.base.tups b xs e
    rw [upd_ne (ne q)]; exact q
  · have q := I.base.frzs b o xs e
    rw [upd_ne (ne q)]; exact q
  · obtain ⟨m, q⟩ := I.base.tbls b ps e
    exact ⟨m, by rw [upd_ne (ne q)]; exact q⟩
  · rw [upd_ne (Ne.symm nL)]; exact I.free
  · have : c ≠ a := fun q => by
      obtain ⟨v, hc⟩ := I.cell y c e
      obtain ⟨oe, vs, e1, _, e2⟩ := z
      obtain ⟨oc, e3, e4⟩ := hc
      rw [q, e1] at e3
      cases e3
      rw [e2] at e4
      cases e4
    rw [upd_ne this]; exact I.freeC y c e
  · obtain ⟨m1, m2⟩ := hp p m
    obtain ⟨q1, q2, q3⟩ := I.pin p m1
    exact ⟨q1, by rw [upd_ne m2]; exact q2, q3⟩
  · by_cases q : b = a
    · subst q
      rw [upd_same] at e
      cases e
      exact exz_ok z
    · rw [upd_ne q] at e
      exact (I.hok b o e).stay (fun _ _ _ r => r) (fun c r => by rw [upd_ne (ne r)]; exact r) fun c xs r => by rw [upd_ne (ne r)]; exact r
end
/-- the wish of a clause whose exception is held behind it -/
def wHeld (K : PySem.W.Frag) (c : Value) (i : Nat) (ts : Addr → TS) (D : Ends) : WX := fun cls d σ H =>
  PySem.W.exmOne K cls c = some true ∧
    (∀ a, H a = none → ts a ⟨fun σ' H' => D.nx (σ'.set i none) (upd H' a (exz a cls d)), fun _ _ => False, fun _ _ => False, fun _ _ => False⟩ (σ.set i (some (.ref a))) H)
section
variable {X : Cx} {x n : Str} {c : Value} {i : Nat} {body suite : List Stmt} {b₀ : Stmt} {np pos pos' : Pos} {tb : WX → TS} {ts : Addr → TS}
theorem ps_try_held (hs : X.stack = X.env :: X.outer) (hf : X.env.frame = some X.env.locals) (hex : X.ex = []) (hN : X.N.Nodup) (hi : X.N[i]? = some n) (hln : X.env.kindOf n = some .local) (hc : Names X x c)
    (hb : ∀ (W : WX) (pn : List (Addr × Obj)) (xe : Value → Shared → Prop), Takes (X.tr pn xe) W → PSs (X.tr pn xe) body (tb W))
    (hsu : ∀ (a : Addr) (pn : List (Addr × Obj)), PSs (X.suite a pn) (b₀ :: suite) (ts a)) :
    PS X (.Try body [.ExceptHandler (some (.Name x np)) (some n) (b₀ :: suite) pos'] [] [] pos) (fun D σ H => tb (wHeld X.K c i ts D) D σ H) := by
  refine ⟨fun pins s σ H D I h => wpAny_Try_except ?_⟩
  have hfr : X.A.frames = some (X.env :: X.outer) := I.ok.frames.trans (congrArg some hs)
  have ran := (hb (wHeld X.K c i ts D) (X.pn ++ pins) (fun e s₁ => wpAny (model X.prog X.w) X.A (noteFrame e X.env) (fun _ s₂ => wpAny (model X.prog X.w) X.A (setFlight e none)
    (fun _ s₃ => wpAny (model X.prog X.w) X.A (handleBy e X.env [.ExceptHandler (some (.Name x np)) (some n) (b₀ :: suite) pos']) (SP X pins D) X.xe s₃) X.xe s₂) X.xe s₁) (fun u s' xx => ?_)).run [] s σ H D (I.toTry _) h
  · refine wpAny_mono ran (fun f s1 p => ?_) fun _ _ p => p
    cases f with
    | next =>
      obtain ⟨σ1, H1, I1, q⟩ := p
      exact wpAny_execs_nil ⟨σ1, H1, I1.ofTry I.ok, q⟩
    | brk =>
      obtain ⟨σ1, H1, I1, q⟩ := p
      exact ⟨σ1, H1, I1.ofTry I.ok, q⟩
    | cont =>
      obtain ⟨σ1, H1, I1, q⟩ := p
      exact ⟨σ1, H1, I1.ofTry I.ok, q⟩
    | ret u =>
      obtain ⟨v1, σ1, H1, I1, r, q⟩ := p
      exact ⟨v1, σ1, H1, I1.ofTry I.ok, r, q⟩
  · obtain ⟨a, B, sI, pi, σ2, H2, cls, d, rfl, I2, nb, up, sky, na, os, ag, eb, hyes⟩ := xx
    replace I2 : Inv X pins σ2 H2 sI := I2.ofTry I.ok
    replace sky : Sky B (X.env :: X.outer) a (Zc cls d) X.env.locals s'.heap := hs ▸ sky
    show wpAny (model X.prog X.w) X.A (noteFrame (.ref a) X.env) _ _ _
    refine Sky.land Zc.steady hfr hf sky fun h3 f3 u3 => ?_
    obtain ⟨oe3, vs3, e3, z3, d3⟩ := f3.there
    have off : a ∉ frs (X.env :: X.outer) := fun m => by
      obtain ⟨_, o, eo, hn⟩ := f3.2.2.1.mem m
      rw [e3] at eo
      cases eo
      exact hn _ d3
    have nL : a ≠ X.env.locals := fun z => off (List.mem_filterMap.mpr ⟨X.env, List.mem_cons_self, by rw [hf, z]⟩)
    have nF : a ∉ X.fs := fun m => by
      obtain ⟨e, m1, m2⟩ := List.mem_filterMap.mp m
      exact off (List.mem_filterMap.mpr ⟨e, List.mem_cons_of_mem _ m1, m2⟩)
    have notI : ∀ o, sI.heap.get? a ≠ some o := fun o e => by
      have z := nb a o e (hs ▸ off)
      rw [f3.2.1] at z
      cases z
    have not0 : ∀ o, X.s_0.heap.get? a ≠ some o := fun o e => by
      obtain ⟨o', e'⟩ := I2.base.there a o e (by rw [hex]; exact List.not_mem_nil)
      exact notI o' e'
    have I3 : Inv X pins σ2 H2 { s' with heap := h3 } := I2.landed nb f3.1 (up.trans u3) os ag
    have S3 := I3.suite e3 d3 na nL nF
    refine wpAny_handleBy_cons (codeAny_handlers_test ?_) fun q => nomatch q
    have ty : PySem.W.Looks (model X.prog X.w) h3 (typeOf (.ref a)) cls := fun A Q E s k q => wpAny_typeOf_ref (k _ _ e3) (by rw [z3.1]; exact q)
    have ex := PySem.W.exm_one (M := model X.prog X.w) I3.kIn ty eb
    have look : ∀ {Q E : Value → Shared → Prop}, Q c { s' with heap := h3 } → wpAny (model X.prog X.w) (X.A.mark (some (.ref a))) (eval (.Name x np) X.env) Q E { s' with heap := h3 } := fun {Q E} q => by
      obtain ⟨g1, g2, g3 | ⟨g3, g4, g5⟩⟩ := hc
      · exact ld_glob (X := X.suite a _) S3 g1 g3 q g2
      · exact ld_blt (X := X.suite a _) S3 g1 g3 g4 q g5 g2
    refine look (ex.here ?_)
    refine codeAny_handlers_suite_as (HandSPX.lands_againZ f3 fun h4 f4 u4 => ?_)
    obtain ⟨oe, vs, e4, z4, d4⟩ := f4.there
    have I4 : Inv X pins σ2 H2 { s' with heap := h4 } := I2.landed nb f4.1 ((up.trans u3).trans u4) os ag
    refine store_ok (X := X.suite a ((a, oe) :: (X.pn ++ pins))) (v := .ref a) (I4.suite e4 d4 na nL nF) hN hi (.inl hln) rfl (fun s5 S5 => ?_) (.inr hln)
    refine wpAny_mono ((hsu a ((a, oe) :: (X.pn ++ pins))).run [] s5 _ H2 _ S5 (hyes a na)) (fun f s6 p => ?_) fun _ _ p => p.elim
    cases f with
    | next =>
      obtain ⟨σ6, H6, S6, q6⟩ := p
      show wpAny (model X.prog X.w) X.A (do bindName X.env n .none; unbindBehindTheSuite X.env n pos') _ _ _
      refine gone_ok (X := X.suite a ((a, oe) :: (X.pn ++ pins))) S6 hN hi hln fun s7 S7 => ?_
      obtain ⟨p1, p2, _⟩ := S7.pin (a, oe) (List.mem_append_left _ List.mem_cons_self)
      refine ⟨_, _, inv_track (Inv.unsuite S7 I.ok) ⟨oe, vs, p1, z4, d4⟩ p2 nL not0 fun p m => ⟨m, fun z => ?_⟩, q6⟩
      have z2 := (I2.pin p m).1
      rw [z] at z2
      exact notI _ z2
    | brk =>
      obtain ⟨_, _, _, q6⟩ := p
      exact q6.elim
    | cont =>
      obtain ⟨_, _, _, q6⟩ := p
      exact q6.elim
    | ret u =>
      obtain ⟨_, _, _, _, _, q6⟩ := p
      exact q6.elim
end
/-- its dict is tracked -/
def DictZ (H : Hp) (d : Option Addr) (fs : List (Str × V)) : Prop := match d with
  | none => fs = []
  | some dx => H dx = some (.xd fs)
theorem inst_held {X : Cx} {pins : List (Addr × Obj)} {σ : St} {H : Hp} {s : Shared} {a D : Addr} {d : Option Addr} {fs : List (Str × V)} (I : Inv X pins σ H s) (e : H a = some (exz a (.ref D) d)) (t : DictZ H d fs) :
    ∃ oe od, PySem.W.InstAt s.heap a oe D od ∧ (match od, d with
      | some o, some dx => ∃ mA, s.heap.Ns1 dx mA ∧ (∀ f, RelO (fs.lookup f) (mA f)) ∧ s.heap.get? dx = some o
      | none, none => True
      | _, _ => False) := by
  obtain ⟨oe, vs, e1, ⟨z1, z2⟩, e2⟩ := exz_at I.hok e
  have nc : PySem.W.notCls oe = true := by
    unfold PySem.W.notCls
    rw [e2]
  cases d with
  | none => exact ⟨oe, none, ⟨e1, z1, nc, by rw [z2]; trivial⟩, trivial⟩
  | some dx =>
    obtain ⟨mA, n1, r⟩ : ObjOk X.prog X.w H s.heap dx (.xd fs) := I.hok dx _ t
    obtain ⟨o, es, ep, eo, hr⟩ := id n1
    exact ⟨oe, some o, ⟨e1, z1, nc, by rw [z2]; exact eo⟩, mA, n1, r, eo⟩
/-- isinstance(e, c), e held -/
def rIsZ (K : PySem.W.Frag) : List V → Hp → VK → Prop := fun xs H Q => ∃ (a D : Addr) (d : Option Addr) (fs : List (Str × V)) (c : V) (cv : Value) (b : Bool), xs = [.ref a, c] ∧ H a = some (exz a (.ref D) d) ∧ DictZ H d fs ∧ ExcC K D ∧ (∀ u, RelV c u → u = cv) ∧ PySem.W.kitOne K (.ref D) cv = some b ∧ Q (.bl b) H
theorem call_isZ {X : Cx} : CallR X (.builtin "isinstance") (rIsZ X.K) := by
  intro pins s σ H xs us Q I r h
  obtain ⟨a, D, d, fs, c, cv, b, rfl, e, t, C, hc, k, q⟩ := h
  cases r with
  | cons r1 r =>
    cases r with
    | cons r2 r =>
      cases r
      cases r1
      have := hc _ r2
      subst this
      obtain ⟨oe, od, J, _⟩ := inst_held I e t
      have cl : (PySem.W.clsIn X.K D).isSome = true := by
        obtain ⟨cd, z, _⟩ := PySem.W.any_some C.hd
        rw [z]; rfl
      exact PySem.W.kia_one (PySem.W.kitx_exc cl C.hg C.hk C.hs C.ha C.hn C.ht C.hm) I.kIn J k (fun z => nomatch z) fun tk => ⟨.bl b, H, I.kept (t' := tk) fun _ _ z => z, rfl, q⟩
/-- e.f, e held -/
def tXz (K : PySem.W.Frag) (f : Str) (te : TE) : TE := fun σ H Q => te σ H fun x H1 => ∃ (a C dx : Addr) (fs : List (Str × V)) (v : V), x = .ref a ∧ H1 a = some (exz a (.ref C) (some dx)) ∧ H1 dx = some (.xd fs) ∧ XfC K C ∧ PySem.W.findIn K (.ref C) f = some none ∧ fs.lookup f = some v ∧ Q v H1
theorem pe_xz {X : Cx} {e : Expr} {te : TE} {pos : Pos} {n : Str} (he : PE X e te) (hb : attributeBase e n X.env (eval e X.env) = eval e X.env := by rfl) : PE X (.Attribute e n pos) (tXz X.K n te) := by
  refine ⟨fun pins s σ H Q I h => attr_of hb (thn (he.run pins s σ H _ I h) fun u s1 hh => ?_)⟩
  obtain ⟨x, H1, I1, rx, a, C, dx, fs, v, rfl, ea, ed, T, hno, l, q⟩ := hh
  obtain rfl : u = Value.ref a := rx
  obtain ⟨oe, vs, e1, ⟨z1, z2⟩, e2⟩ := exz_at I1.hok ea
  obtain ⟨mA, hns, hr⟩ : ObjOk X.prog X.w H1 s1.heap dx (.xd fs) := I1.hok dx _ ed
  obtain ⟨od, ho, hl⟩ := lookIn_ns hns
  obtain ⟨u, hu, ru⟩ := RelO.some_of (v := v) (o := mA n) (by rw [← l]; exact hr n)
  have nc : PySem.W.notCls oe = true := by
    unfold PySem.W.notCls
    rw [e2]
  exact HandSPX.exc_get I1.kIn (od := some od) ⟨e1, z1, nc, by rw [z2]; exact ho⟩ T.ga T.gg T.exC (PySem.W.findObj_own T.hdC hno rfl (by rw [hl, hu])) (handed_of ru) ⟨v, H1, I1.tok _, ru, q⟩
end PD
set_option Elab.async false
set_option linter.all false
set_option maxRecDepth 100000
set_option maxHeartbeats 1000000
namespace PD
open PySem PySem.Spec PyProof.Rows L2
/-- what is left to do, by any reading of it -/
def tAll (X : Cx) (ss : List Stmt) : TS := fun D σ H => ∃ ts : TS, PSs X ss ts ∧ ts D σ H
theorem pss_all {X : Cx} {ss : List Stmt} : PSs X ss (tAll X ss) := ⟨fun pins s σ H D I ⟨_, p, h⟩ => p.run pins s σ H D I h⟩
/-- a def called once, at one place -/
theorem once {CX : CXT} {P : Program} {w : World} {K : PySem.W.Frag} {mg : Str → Option Value} {base : Heap} {x qual : Str} {params : Arguments} {body : List Stmt} {scope : Scope} {dvs : List V} {kws : List (Str × V)} {f : Addr} {fd : FuncData} {N ps : List Str} {k : Nat}
    (F : FunD K x qual params body scope dvs kws f fd) (S : FnScope N ps scope) {A : Around} {outer : List Env} {s : Shared} {H : Hp} {args : Args} {us : List Value} {vs : List V} {Q : VK} {E : XK}
    (room : Room (k + 1) A) (e0 : Env0 P w K mg base A outer s H) (bind : BindsTo s fd args (ps.zip us)) (rv : Vals vs us) (len : vs.length = ps.length)
    (walk : ∀ cdv : Value, ∃ t, PSs (cxOf CX P w K mg base N qual scope f cdv A outer s H E) body t ∧ t { nx := fun _ H' => Q .non H', rt := Q } (start N vs) H) :
    codeAny (model P w) A (.call (.ref f) args) (CR CX outer P w H s Q E) s := by
  obtain ⟨oc, od, dV, kV, doc, pm, an, cdv, ct, osl, rfl, look, code, _, _⟩ := F.ex
  have here : K.In s.heap := e0.mod.kin.keeps fun b o q => (e0.bs b o q).1
  have free : s.heap.NoLimit := e0.mod.nolimit.keeps fun b o q => (e0.bs b o q).1
  refine codeAny_call_function room.depth (here _ _ look) rfl S.co S.gen rfl (PySem.W.codeRec_of here code) (bind _ _ _ _ ?_)
  refine wpAny_newFunctionEnv_cells S.kind (fun y my => ?_) fun env he s1 inn => ?_
  · rcases S.par y.1 (List.of_mem_zip my).1 with q | q
    · exact Or.inl q
    · exact Or.inr ⟨q, PySem.W.cellsFrom_some _ _ _ (Or.inl q)⟩
  · subst he
    refine ⟨free.keeps inn.toInCall.keep, codeAny_func ?_⟩
    obtain ⟨t, pt, qt⟩ := walk cdv
    refine wpAny_mono (pt.run [] s1 (start N vs) H _ (inv_start S room.hd e0 len rv inn) qt) (fun fl s2 end_ => ?_) fun e s2 q => q
    cases fl with
    | next =>
      obtain ⟨_, H2, J, q⟩ := end_
      exact ⟨.non, H2, J.os, J.bare, J.base, J.hok, rfl, q⟩
    | ret u =>
      obtain ⟨v, _, H2, J, r, q⟩ := end_
      exact ⟨v, H2, J.os, J.bare, J.base, J.hok, r, q⟩
    | brk =>
      obtain ⟨_, _, _, q⟩ := end_
      exact q.elim
    | cont =>
      obtain ⟨_, _, _, q⟩ := end_
      exact q.elim
end PD
namespace PD
open PySem PySem.Spec PyProof.Rows L2
/-- the script as the only object that is tracked, or as one of the module's -/
theorem script_heap {P : Program} {w : World} {K : PySem.W.Frag} {h : Heap} {a : Addr} {vs : List Value} {ns : List Int} (kin : K.In h) (at_ : h.get? a = some { cls := .type "list", data := .seq vs.toArray }) (are : IntsAre vs ns) (few : ns.length ≤ sizeLine) :
    ∃ H : Hp, (∀ b u, H b = some u → b = a ∧ (∃ o xs, u = .frz o (.lst xs)) ∧ K.lookup a = none) ∧ SqL K H a (ns.map V.int) ∧ HOk P w H h := by
  have rv := vals_ints are
  have lv := are.length
  cases look : K.lookup a with
  | some o =>
    have eo := (kin a o look).symm.trans at_
    cases eo
    refine ⟨fun _ => none, fun b u q => ?_, .inr ⟨_, _, _, look, rfl, rfl, rfl, by rw [List.size_toArray, lv]; exact few, by simpa using rv⟩, fun b u q => ?_⟩
    · cases q
    · cases q
  | none =>
    refine ⟨fun b => if b = a then some (.frz { cls := .type "list", data := .seq vs.toArray } (.lst (ns.map V.int))) else none, fun b u q => ?_, .inl (.inr ⟨_, if_pos rfl⟩), fun b u q => ?_⟩
    · dsimp only at q
      by_cases e : b = a
      · rw [if_pos e] at q
        cases q
        exact ⟨e, ⟨_, _, rfl⟩, rfl⟩
      · rw [if_neg e] at q
        cases q
    · dsimp only at q
      by_cases e : b = a
      · rw [if_pos e] at q
        cases q
        rw [e]
        exact ⟨at_, by rw [List.length_map]; exact few, vs, _, rv, at_⟩
      · rw [if_neg e] at q
        cases q
/-- the law's call, its def walked at this call alone -/
theorem law_once {P : Program} {w : World} {K : PySem.W.Frag} {mg mb : Str → Option Value} {CX : CXT} {fa a : Addr} {s1 : Shared} {vs : List Value} {ns : List Int} (kin : K.In s1.heap) (gl : s1.heap.Ns mainGlobals mg) (bl : s1.heap.Ns builtinsNs mb) (boot : ∀ x : Str, x ≠ "__name__" → mb x = bootBuiltins x)
    (free : s1.heap.NoLimit) (gens : s1.gens = #[]) (at_ : s1.heap.get? a = some { cls := .type "list", data := .seq vs.toArray }) (are : IntsAre vs ns) (few : ns.length ≤ sizeLine)
    (walk : ∀ (base : Heap) (H : Hp), K.In base → base.Ns mainGlobals mg → Env0 P w K mg base callerA [] s1 H → SqL K H a (ns.map V.int) → codeAny (model P w) callerA (.call (.ref fa) ⟨[.ref a], []⟩) (CR CX [] P w H s1 (fun v _ => v = .bl true) fun _ _ _ => False) s1)
    (noX : ∀ H e s', CX [] H s1 (fun _ _ _ => False) e s' → False) :
    codeAny (model P w) callerA (.call (.ref fa) ⟨[.ref a], []⟩) (fun r s' => r = .ok (.ret (.bool true)) ∧ OldK s1.heap s'.heap ∧ s'.os = s1.os ∧ AllBare s'.gens) s1 := by
  obtain ⟨H, only, sq, hok⟩ := script_heap (P := P) (w := w) kin at_ are few
  have notD : ∀ {b : Addr} {o : Obj} {es : Array DictEntry} {n : Nat}, s1.heap.get? b = some o → o.data = .dict es n → H b = none := fun {b o es n} g d => by
    cases q : H b with
    | none => rfl
    | some u =>
      obtain ⟨rfl, _, _⟩ := only b u q
      rw [at_] at g
      cases g
      cases d
  have ns_hid : ∀ {b : Addr} {m : Str → Option Value}, s1.heap.Ns b m → (hidT s1.heap H).Ns b m := fun ⟨o, es, n, g, d, r⟩ => ⟨o, es, n, hidT_get g (notD g d), d, r⟩
  have kin_hid : K.In (hidT s1.heap H) := fun b o g => hidT_get (kin b o g) (by
    cases q : H b with
    | none => rfl
    | some u =>
      obtain ⟨rfl, _, z⟩ := only b u q
      rw [z] at g
      cases g)
  have lim : (hidT s1.heap H).NoLimit := by
    obtain ⟨mc, l1, l2⟩ := free
    exact ⟨mc, ns_hid l1, l2⟩
  have e0 : Env0 P w K mg (hidT s1.heap H) callerA [] s1 H := ⟨rfl, ⟨kin_hid, ns_hid gl, ⟨mb, ns_hid bl, boot⟩, lim⟩, fun b o g => of_hidT g, Nat.le_of_eq (hidT_size _ _), trivial, fun b m => (nomatch m), hok, .of_eq gens⟩
  refine codeAny_mono (walk _ H kin_hid (ns_hid gl) e0 sq) fun r s' back => ?_
  cases r with
  | error e => exact (noX H e s' back).elim
  | ok fl =>
    cases fl with
    | ret u =>
      obtain ⟨v, H', os, bare, un, hok', rel, rfl⟩ := back
      obtain rfl : u = Value.bool true := rel
      refine ⟨rfl, OldK.of_keep fun b o g => ?_, os, bare⟩
      cases q : H b with
      | none => exact un.keep b o g q (fun m => nomatch m) (fun m => nomatch m)
      | some u =>
        obtain ⟨_, ⟨ob, xs, rfl⟩, _⟩ := only b u q
        have k1 := (hok b _ q).1
        have k2 := (hok' b _ (un.frzs b ob _ q)).1
        rw [g] at k1
        cases k1
        exact k2
    | next => exact False.elim back
    | brk => exact False.elim back
    | cont => exact False.elim back
/-- a law's end: F gives the written part and the walk of its def -/
theorem law_walk {l : PySem.W.OpenLaw} {n : Nat} {q : Program} {loose : List Str} {XP : (Str → Option Value) → Heap → Prop} {YP : World → Heap → Prop} {d : DefRec} {CX : World → CXT} (most : l.most = some n) (small : n ≤ sizeLine) (plain : d.params.defaults = [])
    (F : ∀ (w : World) (mg : Str → Option Value) (fa : Addr) (h : Heap), YP w h → h.Ns mainGlobals mg → mg d.name = some (.ref fa) → ∃ K : PySem.W.Frag, K.In h ∧ ∀ (s1 : Shared) (a : Addr) (ns : List Int) (base : Heap) (H : Hp), ns.length ≤ n → K.In base → base.Ns mainGlobals mg →
      Env0 l.prog w K mg base callerA [] s1 H → SqL K H a (ns.map V.int) → codeAny (model l.prog w) callerA (.call (.ref fa) ⟨[.ref a], []⟩) (CR (CX w) [] l.prog w H s1 (fun v _ => v = .bl true) fun _ _ _ => False) s1)
    (noX : ∀ (w : World) (H : Hp) (s : Shared) (e : Value) (s' : Shared), CX w [] H s (fun _ _ _ => False) e s' → False) :
    PySem.W.WalkO q loose XP YP l.row.toRowW d [] (fun f vs => PySem.call f vs) := by
  refine Att.attach_call most plain fun w s0 s1 mg mb fa o pm cd doc a vs ns G Y _ _ _ hmg obj are few gens => ?_
  obtain ⟨K, kin, walk⟩ := F w mg fa _ Y G.T.g hmg
  exact law_once kin G.T.g G.T.b G.T.builtins G.T.nolimit gens obj are (Nat.le_trans few small) (fun base H k1 k2 e0 sq => walk s1 a ns base H few k1 k2 e0 sq) fun H e s' => noX w H s1 e s'
end PD
set_option Elab.async false
set_option linter.all false
set_option maxRecDepth 100000
set_option maxHeartbeats 1000000
namespace PD
open PySem PySem.Spec PyProof.Rows L2
/-! ### facts of the head, as Bools over the written part -/
theorem band {a b : Bool} (h : (a && b) = true) : a = true ∧ b = true := Bool.and_eq_true_iff.mp h
/-- a class over an own class over ValueError -/
def clsB (K : PySem.W.Frag) (C : Addr) : Bool := match K.lookup C with
  | some ⟨.type t, _, .cls cd, sl⟩ => (match cd.mro, sl.toList with
    | .ref D :: up, [_, _, _, _, some (.builtin n), _] => decide (t = "type") && (decide (D = C) && (decide (n = "ValueError.__new__") && (!cd.hasDel && (cd.hasDict && PySem.HandSPX.refsVE up))))
    | _, _ => false)
  | _ => false
theorem clsB_ok {K : PySem.W.Frag} {C : Addr} (h : clsB K C = true) : ∃ nm q N bs up sn sub ab col dd k0 k1 k2 k3 k5, K.lookup C = some (excClassObj nm q C N bs up true sn sub ab col dd k0 k1 k2 k3 k5 "ValueError.__new__") ∧ PySem.HandSPX.refsVE up = true := by
  unfold clsB at h
  split at h
  · rename_i t dd cd sl look
    split at h
    · rename_i D up k0 k1 k2 k3 n k5 hm hs
      obtain ⟨h1, h⟩ := band h
      obtain ⟨h2, h⟩ := band h
      obtain ⟨h3, h⟩ := band h
      obtain ⟨h4, h⟩ := band h
      obtain ⟨h5, h6⟩ := band h
      have e1 := of_decide_eq_true h1
      have e2 := of_decide_eq_true h2
      have e3 := of_decide_eq_true h3
      have e4 : cd.hasDel = false := by simpa using h4
      subst e1 e2 e3
      obtain ⟨nm, bs, mro, ns, qn, hd, sn, sub, ab, col, del⟩ := cd
      dsimp only at hm e4 h5
      subst hm e4 h5
      obtain ⟨l⟩ := sl
      have hs : l = _ := hs
      subst hs
      exact ⟨nm, qn, ns, bs, up, sn, sub, ab, col, dd, k0, k1, k2, k3, k5, look, h6⟩
    · cases h
  · cases h
def oexB (K : PySem.W.Frag) (C : Addr) : Bool := clsB K C && (He.eqO (PySem.W.findIn K (.ref C) "__setattr__") (some (some (.builtin "object.__setattr__"))) && (decide (PySem.W.subIn K (.ref C) (.type "BaseException") = some true) && (decide (PySem.W.typeIn K (.ref C) = some (.type "type")) && PySem.W.keepIn K (.ref C))))
theorem oexB_ok {K : PySem.W.Frag} {C : Addr} (h : oexB K C = true) : OexC K C := by
  obtain ⟨h1, h⟩ := band h
  obtain ⟨h2, h⟩ := band h
  obtain ⟨h3, h⟩ := band h
  obtain ⟨h4, h5⟩ := band h
  exact ⟨clsB_ok h1, He.eqO_ok h2, of_decide_eq_true h3, of_decide_eq_true h4, h5⟩
def excB (K : PySem.W.Frag) (C : Addr) : Bool := xfB K C && (He.eqO (PySem.W.findIn K (.ref C) "__class__") (some (some (.builtin "object.__class__"))) && (He.eqO (PySem.W.specialIn K (.builtin "object.__class__") "__get__") (some (some (.builtin "getset_descriptor.__get__"))) && (decide (PySem.W.takesIn K (.builtin "object.__class__") = some true) && decide (PySem.W.mroIn K C (.type "object") = some true))))
theorem excB_ok {K : PySem.W.Frag} {C : Addr} (h : excB K C = true) : ExcC K C ∧ XfC K C := by
  obtain ⟨h1, h⟩ := band h
  obtain ⟨h2, h⟩ := band h
  obtain ⟨h3, h⟩ := band h
  obtain ⟨h4, h5⟩ := band h
  have x := xfB_ok h1
  exact ⟨⟨x.ga, x.gg, x.exC, x.hdC, He.eqO_ok h2, He.eqO_ok h3, of_decide_eq_true h4, of_decide_eq_true h5⟩, x⟩
def kitB (K : PySem.W.Frag) (C D : Addr) (b : Bool) : Bool := decide (PySem.W.kitOne K (.ref C) (.ref D) = some b)
/-! ### a table: texts to ints -/
def tabL : List DictEntry → List (Str × Int) → Bool
  | [], [] => true
  | e :: r, q :: s => (match e.key, e.val with
    | .str x _, .int i _ => decide (x = q.1) && decide (i = q.2)
    | _, _ => false) && tabL r s
  | _, _ => false
def tabB (K : PySem.W.Frag) (a : Addr) (kvs : List (Str × Int)) : Bool := match K.lookup a with
  | some ⟨_, _, .dict es _, _⟩ => tabL es.toList kvs
  | _ => false
theorem tabL_get : ∀ {es : List DictEntry} {kvs : List (Str × Int)}, tabL es kvs = true → es.any (·.refKey) = false ∧ ∀ z : Str, (match kvs.lookup z with | some i => ∃ e t, es.find? (·.key.isStr z) = some e ∧ e.val = .int i t | none => es.find? (·.key.isStr z) = none)
  | [], [], _ => ⟨rfl, fun z => rfl⟩
  | [], _ :: _, h => by cases h
  | _ :: _, [], h => by cases h
  | e :: r, (k, i) :: s, h => by
    obtain ⟨h1, h2⟩ := band (show ((match e.key, e.val with | .str x _, .int i' _ => decide (x = k) && decide (i' = i) | _, _ => false) && tabL r s) = true from h)
    obtain ⟨ih1, ih2⟩ := tabL_get h2
    split at h1
    · rename_i x t j u ek ev
      obtain ⟨h3, h4⟩ := band h1
      have e3 := of_decide_eq_true h3
      have e4 := of_decide_eq_true h4
      subst e3 e4
      refine ⟨?_, fun z => ?_⟩
      · rw [List.any_cons, ih1]
        unfold DictEntry.refKey
        rw [ek]
        rfl
      · have is : e.key.isStr z = (x == z) := by rw [ek]; rfl
        rw [List.find?_cons, is]
        show (match (match z == x with | true => some j | false => s.lookup z) with | some i => _ | none => _)
        cases q : (z == x) with
        | true =>
          have e5 := eq_of_beq q
          subst e5
          rw [beq_self_eq_true]
          exact ⟨e, u, rfl, ev⟩
        | false =>
          have q2 : (x == z) = false := by rw [beq_eq_false_iff_ne] at q ⊢; exact fun e => q e.symm
          rw [q2]
          exact ih2 z
    · cases h1
theorem tabB_ok {K : PySem.W.Frag} {w : World} {a : Addr} {kvs : List (Str × Int)} (h : tabB K a kvs = true) (d : ∃ es n, KDict K w a es n) : Tbl K w a kvs := by
  refine ⟨d, fun z => ?_⟩
  obtain ⟨es, n, D⟩ := d
  have look := D.at_
  unfold tabB at h
  rw [look] at h
  obtain ⟨h1, h2⟩ := tabL_get h
  have hz := h2 z
  unfold PySem.W.nsIn
  rw [look]
  cases q : kvs.lookup z with
  | some i =>
    rw [q] at hz
    obtain ⟨e, t, h3, h4⟩ := hz
    refine ⟨some e.val, ?_, t, by rw [h4]⟩
    show (match es.toList.find? (·.key.isStr z) with | some e => some (some e.val) | none => _) = _
    rw [h3]
  | none =>
    rw [q] at hz
    refine ⟨none, ?_, rfl⟩
    show (match es.toList.find? (·.key.isStr z) with | some e => some (some e.val) | none => if es.toList.any (·.refKey) then none else some none) = _
    rw [hz, h1]
    rfl
end PD
set_option Elab.async false
set_option linter.all false
set_option maxRecDepth 100000
set_option maxHeartbeats 1000000
namespace PD
open PySem PySem.Spec PyProof.Rows L2
section
variable {X : Cx} {Z : Zx} {pos : Pos}
/-! ### text * int -/
def repS (z : Str) (n : Nat) : Str := ⟨(List.replicate n z.cps).foldl (· ++ ·) #[]⟩
def rMulS : R2 := fun x y H Q => ∃ (z : Str) (n : Int), x = .str z ∧ y = .int n ∧ 2 ≤ n ∧ n ≤ 1000 ∧ 1 ≤ z.length ∧ z.length ≤ 1000 ∧ (repS z n.toNat).length ≤ sizeLine ∧ Q (.str (repS z n.toNat)) H
theorem op_mulS : OpR X (binaryOp .Mult) rMulS := by
  intro pins s σ H x y v u Q I rx ry h
  obtain ⟨z, n, rfl, rfl, h1, h2, h3, h4, h5, q⟩ := h
  obtain ⟨t, rfl⟩ := rx
  obtain ⟨t', rfl⟩ := ry
  have n1 : ¬ n < 1 := by omega
  have n2 : (n == 1 || z.length == 0) = false := by
    rw [Bool.or_eq_false_iff]
    exact ⟨by rw [beq_eq_false_iff_ne]; omega, by rw [beq_eq_false_iff_ne]; omega⟩
  refine P.mul_str (by rw [decide_eq_false (by omega), decide_eq_false (by omega)]; rfl) (fun _ _ => ?_) (fun _ _ => ?_) ?_
  · have hd : (1000 : Int) ≤ (2 ^ 63 - 1) / n := by
      rw [Int.le_ediv_iff_mul_le (by omega)]
      omega
    omega
  · have hm : z.length * n.toNat ≤ 1000 * 1000 := Nat.mul_le_mul h4 (by omega)
    have e : sizeLine = 16777216 := by decide
    show decide (_ > sizeLine) = false
    exact decide_eq_false (by omega)
  · rw [if_neg n1, n2]
    exact ⟨h5, ⟨.str (repS z n.toNat), H, I.tok _, ⟨_, rfl⟩, q⟩⟩
def oMulX : O2 := fun x y Q E => match x, y with
  | .d (.str z), .d (.int n) => 2 ≤ n ∧ n ≤ 1000 ∧ 1 ≤ z.length ∧ z.length ≤ 1000 ∧ (repS z n.toNat).length ≤ sizeLine ∧ Q (.d (.str (repS z n.toNat)))
  | x, y => oMul x y Q E
theorem op_mulX' : OpR X (binaryOp .Mult) (fun x y H Q => rMulS x y H Q ∨ (rI CMulW (fun i j => .int (i * j)) x y H Q ∨ rRep x y H Q)) := op_mulS.or op_mul'
theorem od_mulX : OpD Z (fun x y H Q => rMulS x y H Q ∨ (rI CMulW (fun i j => .int (i * j)) x y H Q ∨ rRep x y H Q)) oMulX := fun I H Hs x y v u Qd Ed Q g' ax ay t k => by
  unfold oMulX at t
  split at t
  · cases ax; cases ay
    exact .inl ⟨_, _, rfl, rfl, t.1, t.2.1, t.2.2.1, t.2.2.2.1, t.2.2.2.2.1, k.now g'.g (.str _) t.2.2.2.2.2⟩
  · exact .inr (od_mul I H Hs x y v u Qd Ed Q g' ax ay t k)
/-! ### xs[::-1] of a list -/
def dRev (a : TD) : TD := fun δ Q E => a δ (fun x => ∃ xs, lstOf x = some xs ∧ Q (.new xs.reverse)) E
theorem DaAll.rev {K : PySem.W.Frag} {H : Hp} {vs : List V} {ds : List PyData} (h : DaAll K H vs ds) : DaAll K H vs.reverse ds.reverse := by
  suffices hh : ∀ (vs : List V) (ds : List PyData), DaAll K H vs ds → DaAll K H vs.reverse ds.reverse from hh vs ds h
  intro vs
  induction vs with
  | nil => intro ds h; cases h; exact .nil
  | cons v vs ih =>
    intro ds h
    cases h with
    | cons a t =>
      rw [List.reverse_cons, List.reverse_cons]
      exact (ih _ t).app (.cons a .nil)
theorem de_rev' {e : Expr} {te : TE} {d : TD} {k : Nat} {p1 p2 p3 : Pos} (h : DE X Z e te d) (hK : Z.K = X.K) : DE X Z (.Subscript e (.Slice none none (some (.UnaryOp .USub (.Constant (.int 1) k p1) p2)) p3) pos) (tRevL X.K te) (dRev d) := by
  refine ⟨pe_revL h.pe, fun I H δ σ Qd Ed Q hh t k => h.rf I H δ σ _ Ed _ hh t fun x v I1 H1 e1 a1 q1 => ?_⟩
  have h1 := hh.ext e1
  obtain ⟨xs, el, q⟩ := q1
  obtain ⟨p, vs, rfl, hp, hv, hl⟩ := lst_at h1.g a1 el
  exact ⟨p, vs, rfl, SqL.of hp, (k.ext hh.g e1).new h1.g h1.old hv.rev (by rw [List.length_reverse]; exact hl) q⟩
theorem de_rev {e : Expr} {te : TE} {d : TD} {k : Nat} {p1 p2 p3 : Pos} (h : DE X Z e te d) (hK : Z.K = X.K) : DE X Z (.Subscript e (.Slice none none (some (.UnaryOp .USub (.Constant (.int 1) k p1) p2)) p3) pos) (tRevL Z.K te) (dRev d) := by rw [hK]; exact de_rev' h hK
/-! ### max(a, b, c) -/
def oMax3 : OC := fun xs Q _ => match xs with
  | [.d (.int i), .d (.int j), .d (.int k)] => Q (.d (.int (max (max i j) k)))
  | _ => False
theorem at3 {Hs I H : Hp} {x y z : DV} {vs : List V} (a : AtAll Z Hs I H [x, y, z] vs) : ∃ v u w, vs = [v, u, w] ∧ At Z Hs I H x v ∧ At Z Hs I H y u ∧ At Z Hs I H z w := by
  cases a with
  | cons a1 a =>
    cases a with
    | cons a2 a =>
      cases a with
      | cons a3 a =>
        cases a
        exact ⟨_, _, _, rfl, a1, a2, a3⟩
theorem nuMax2_int (i j : Int) : nuMax2 (.int i) (.int j) = some (.int (max i j)) := by
  show (some (decide (i < j))).map _ = _
  by_cases h : i < j
  · rw [decide_eq_true h, Int.max_eq_right (by omega)]
    rfl
  · rw [decide_eq_false h, Int.max_eq_left (by omega)]
    rfl
theorem cd_max3 : CallD Z (rNuC3 nuMax3) oMax3 := fun I H Hs xs vs Qd Ed Q g' a t k => by
  unfold oMax3 at t
  split at t
  · obtain ⟨v, u, w, rfl, a1, a2, a3⟩ := at3 a
    cases a1; cases a2; cases a3
    refine ⟨_, _, _, .int (max (max _ _) _), rfl, ?_, k.now g'.g (.int _) t⟩
    unfold nuMax3
    rw [nuMax2_int]
    exact nuMax2_int _ _
  · exact t.elim
end
end PD
set_option Elab.async false
set_option linter.all false
set_option maxRecDepth 100000
set_option maxHeartbeats 4000000
namespace K87
open PySem PySem.Spec PyProof.Rows L2 PD
abbrev St := L2.St
abbrev pw := PySem.Challenge.pw_playstead_k87_rows_read_or_refused
def top (i : Nat) : Stmt := pw.main.body.getD i (.Pass ⟨0, 0, 0, 0⟩)
def fdOf (K : PySem.W.Frag) (f : Addr) : FuncData := match K.lookup f with | some ⟨_, _, .func fd, _⟩ => fd | _ => default
structure Tx (K : PySem.W.Frag) (w : World) (mg : Str → Option Value) : Prop where
  fd_is_name : FunD K "is_name" "is_name" (defArgs (top 10)) (defBody (top 10)) (defScope (top 10)) [] [] (He.ga K "is_name") (fdOf K (He.ga K "is_name"))
  g_is_name : mg "is_name" = some (.ref (He.ga K "is_name"))
  fd_is_number : FunD K "is_number" "is_number" (defArgs (top 11)) (defBody (top 11)) (defScope (top 11)) [] [] (He.ga K "is_number") (fdOf K (He.ga K "is_number"))
  g_is_number : mg "is_number" = some (.ref (He.ga K "is_number"))
  fd_is_row : FunD K "is_row" "is_row" (defArgs (top 12)) (defBody (top 12)) (defScope (top 12)) [] [] (He.ga K "is_row") (fdOf K (He.ga K "is_row"))
  g_is_row : mg "is_row" = some (.ref (He.ga K "is_row"))
  fd_is_key : FunD K "is_key" "is_key" (defArgs (top 19)) (defBody (top 19)) (defScope (top 19)) [] [] (He.ga K "is_key") (fdOf K (He.ga K "is_key"))
  g_is_key : mg "is_key" = some (.ref (He.ga K "is_key"))
  fd_is_deed : FunD K "is_deed" "is_deed" (defArgs (top 20)) (defBody (top 20)) (defScope (top 20)) [] [] (He.ga K "is_deed") (fdOf K (He.ga K "is_deed"))
  g_is_deed : mg "is_deed" = some (.ref (He.ga K "is_deed"))
  fd_is_letter : FunD K "is_letter" "is_letter" (defArgs (top 21)) (defBody (top 21)) (defScope (top 21)) [] [] (He.ga K "is_letter") (fdOf K (He.ga K "is_letter"))
  g_is_letter : mg "is_letter" = some (.ref (He.ga K "is_letter"))
  fd_plain_text : FunD K "plain_text" "plain_text" (defArgs (top 22)) (defBody (top 22)) (defScope (top 22)) [] [] (He.ga K "plain_text") (fdOf K (He.ga K "plain_text"))
  g_plain_text : mg "plain_text" = some (.ref (He.ga K "plain_text"))
  fd_letter_text : FunD K "letter_text" "letter_text" (defArgs (top 23)) (defBody (top 23)) (defScope (top 23)) [] [] (He.ga K "letter_text") (fdOf K (He.ga K "letter_text"))
  g_letter_text : mg "letter_text" = some (.ref (He.ga K "letter_text"))
  fd_number_in : FunD K "number_in" "number_in" (defArgs (top 24)) (defBody (top 24)) (defScope (top 24)) [] [] (He.ga K "number_in") (fdOf K (He.ga K "number_in"))
  g_number_in : mg "number_in" = some (.ref (He.ga K "number_in"))
  fd_read_letter : FunD K "read_letter" "read_letter" (defArgs (top 25)) (defBody (top 25)) (defScope (top 25)) [] [] (He.ga K "read_letter") (fdOf K (He.ga K "read_letter"))
  g_read_letter : mg "read_letter" = some (.ref (He.ga K "read_letter"))
  fd_need : FunD K "need" "need" (defArgs (top 28)) (defBody (top 28)) (defScope (top 28)) [] [] (He.ga K "need") (fdOf K (He.ga K "need"))
  g_need : mg "need" = some (.ref (He.ga K "need"))
  fd_name_in : FunD K "name_in" "name_in" (defArgs (top 29)) (defBody (top 29)) (defScope (top 29)) [] [] (He.ga K "name_in") (fdOf K (He.ga K "name_in"))
  g_name_in : mg "name_in" = some (.ref (He.ga K "name_in"))
  fd_names_in : FunD K "names_in" "names_in" (defArgs (top 30)) (defBody (top 30)) (defScope (top 30)) [] [] (He.ga K "names_in") (fdOf K (He.ga K "names_in"))
  g_names_in : mg "names_in" = some (.ref (He.ga K "names_in"))
  fd_key_in : FunD K "key_in" "key_in" (defArgs (top 31)) (defBody (top 31)) (defScope (top 31)) [] [] (He.ga K "key_in") (fdOf K (He.ga K "key_in"))
  g_key_in : mg "key_in" = some (.ref (He.ga K "key_in"))
  fd_number_words : FunD K "number_words" "number_words" (defArgs (top 32)) (defBody (top 32)) (defScope (top 32)) [] [] (He.ga K "number_words") (fdOf K (He.ga K "number_words"))
  g_number_words : mg "number_words" = some (.ref (He.ga K "number_words"))
  fd_clock_in : FunD K "clock_in" "clock_in" (defArgs (top 33)) (defBody (top 33)) (defScope (top 33)) [] [] (He.ga K "clock_in") (fdOf K (He.ga K "clock_in"))
  g_clock_in : mg "clock_in" = some (.ref (He.ga K "clock_in"))
  fd_letter_in : FunD K "letter_in" "letter_in" (defArgs (top 34)) (defBody (top 34)) (defScope (top 34)) [] [] (He.ga K "letter_in") (fdOf K (He.ga K "letter_in"))
  g_letter_in : mg "letter_in" = some (.ref (He.ga K "letter_in"))
  fd_words_of : FunD K "words_of" "words_of" (defArgs (top 35)) (defBody (top 35)) (defScope (top 35)) [] [] (He.ga K "words_of") (fdOf K (He.ga K "words_of"))
  g_words_of : mg "words_of" = some (.ref (He.ga K "words_of"))
  fd_deed_text : FunD K "deed_text" "deed_text" (defArgs (top 37)) (defBody (top 37)) (defScope (top 37)) [] [] (He.ga K "deed_text") (fdOf K (He.ga K "deed_text"))
  g_deed_text : mg "deed_text" = some (.ref (He.ga K "deed_text"))
  fd_read_name : FunD K "read_name" "read_name" (defArgs (top 38)) (defBody (top 38)) (defScope (top 38)) [] [] (He.ga K "read_name") (fdOf K (He.ga K "read_name"))
  g_read_name : mg "read_name" = some (.ref (He.ga K "read_name"))
  fd_read_number : FunD K "read_number" "read_number" (defArgs (top 39)) (defBody (top 39)) (defScope (top 39)) [] [] (He.ga K "read_number") (fdOf K (He.ga K "read_number"))
  g_read_number : mg "read_number" = some (.ref (He.ga K "read_number"))
  fd_read_clock : FunD K "read_clock" "read_clock" (defArgs (top 40)) (defBody (top 40)) (defScope (top 40)) [] [] (He.ga K "read_clock") (fdOf K (He.ga K "read_clock"))
  g_read_clock : mg "read_clock" = some (.ref (He.ga K "read_clock"))
  fd_read_letter_of : FunD K "read_letter_of" "read_letter_of" (defArgs (top 41)) (defBody (top 41)) (defScope (top 41)) [] [] (He.ga K "read_letter_of") (fdOf K (He.ga K "read_letter_of"))
  g_read_letter_of : mg "read_letter_of" = some (.ref (He.ga K "read_letter_of"))
  fd_read_claim : FunD K "read_claim" "read_claim" (defArgs (top 42)) (defBody (top 42)) (defScope (top 42)) [] [] (He.ga K "read_claim") (fdOf K (He.ga K "read_claim"))
  g_read_claim : mg "read_claim" = some (.ref (He.ga K "read_claim"))
  fd_read_open : FunD K "read_open" "read_open" (defArgs (top 43)) (defBody (top 43)) (defScope (top 43)) [] [] (He.ga K "read_open") (fdOf K (He.ga K "read_open"))
  g_read_open : mg "read_open" = some (.ref (He.ga K "read_open"))
  fd_read_cup : FunD K "read_cup" "read_cup" (defArgs (top 44)) (defBody (top 44)) (defScope (top 44)) [] [] (He.ga K "read_cup") (fdOf K (He.ga K "read_cup"))
  g_read_cup : mg "read_cup" = some (.ref (He.ga K "read_cup"))
  fd_read_deed : FunD K "read_deed" "read_deed" (defArgs (top 45)) (defBody (top 45)) (defScope (top 45)) [] [] (He.ga K "read_deed") (fdOf K (He.ga K "read_deed"))
  g_read_deed : mg "read_deed" = some (.ref (He.ga K "read_deed"))
  fd__law_begin : FunD K "_law_begin" "_law_begin" (defArgs (top 47)) (defBody (top 47)) (defScope (top 47)) [] [] (He.ga K "_law_begin") (fdOf K (He.ga K "_law_begin"))
  g__law_begin : mg "_law_begin" = some (.ref (He.ga K "_law_begin"))
  fd__law_pick : FunD K "_law_pick" "_law_pick" (defArgs (top 49)) (defBody (top 49)) (defScope (top 49)) [] [] (He.ga K "_law_pick") (fdOf K (He.ga K "_law_pick"))
  g__law_pick : mg "_law_pick" = some (.ref (He.ga K "_law_pick"))
  fd__law_names : FunD K "_law_names" "_law_names" (defArgs (top 50)) (defBody (top 50)) (defScope (top 50)) [] [] (He.ga K "_law_names") (fdOf K (He.ga K "_law_names"))
  g__law_names : mg "_law_names" = some (.ref (He.ga K "_law_names"))
  fd__law_key : FunD K "_law_key" "_law_key" (defArgs (top 51)) (defBody (top 51)) (defScope (top 51)) [] [] (He.ga K "_law_key") (fdOf K (He.ga K "_law_key"))
  g__law_key : mg "_law_key" = some (.ref (He.ga K "_law_key"))
  fd__law_count : FunD K "_law_count" "_law_count" (defArgs (top 52)) (defBody (top 52)) (defScope (top 52)) [] [] (He.ga K "_law_count") (fdOf K (He.ga K "_law_count"))
  g__law_count : mg "_law_count" = some (.ref (He.ga K "_law_count"))
  fd__law_letter : FunD K "_law_letter" "_law_letter" (defArgs (top 53)) (defBody (top 53)) (defScope (top 53)) [] [] (He.ga K "_law_letter") (fdOf K (He.ga K "_law_letter"))
  g__law_letter : mg "_law_letter" = some (.ref (He.ga K "_law_letter"))
  fd__law_letter_words : FunD K "_law_letter_words" "_law_letter_words" (defArgs (top 54)) (defBody (top 54)) (defScope (top 54)) [] [] (He.ga K "_law_letter_words") (fdOf K (He.ga K "_law_letter_words"))
  g__law_letter_words : mg "_law_letter_words" = some (.ref (He.ga K "_law_letter_words"))
  fd__law_clock : FunD K "_law_clock" "_law_clock" (defArgs (top 55)) (defBody (top 55)) (defScope (top 55)) [] [] (He.ga K "_law_clock") (fdOf K (He.ga K "_law_clock"))
  g__law_clock : mg "_law_clock" = some (.ref (He.ga K "_law_clock"))
  fd__law_house_deed : FunD K "_law_house_deed" "_law_house_deed" (defArgs (top 56)) (defBody (top 56)) (defScope (top 56)) [] [] (He.ga K "_law_house_deed") (fdOf K (He.ga K "_law_house_deed"))
  g__law_house_deed : mg "_law_house_deed" = some (.ref (He.ga K "_law_house_deed"))
  fd__law_words : FunD K "_law_words" "_law_words" (defArgs (top 57)) (defBody (top 57)) (defScope (top 57)) [] [] (He.ga K "_law_words") (fdOf K (He.ga K "_law_words"))
  g__law_words : mg "_law_words" = some (.ref (He.ga K "_law_words"))
  fd__law_name_is : FunD K "_law_name_is" "_law_name_is" (defArgs (top 58)) (defBody (top 58)) (defScope (top 58)) [] [] (He.ga K "_law_name_is") (fdOf K (He.ga K "_law_name_is"))
  g__law_name_is : mg "_law_name_is" = some (.ref (He.ga K "_law_name_is"))
  fd__law_number : FunD K "_law_number" "_law_number" (defArgs (top 59)) (defBody (top 59)) (defScope (top 59)) [] [] (He.ga K "_law_number") (fdOf K (He.ga K "_law_number"))
  g__law_number : mg "_law_number" = some (.ref (He.ga K "_law_number"))
  fd__law_read_letter : FunD K "_law_read_letter" "_law_read_letter" (defArgs (top 60)) (defBody (top 60)) (defScope (top 60)) [] [] (He.ga K "_law_read_letter") (fdOf K (He.ga K "_law_read_letter"))
  g__law_read_letter : mg "_law_read_letter" = some (.ref (He.ga K "_law_read_letter"))
  fd__law_read_clock : FunD K "_law_read_clock" "_law_read_clock" (defArgs (top 61)) (defBody (top 61)) (defScope (top 61)) [] [] (He.ga K "_law_read_clock") (fdOf K (He.ga K "_law_read_clock"))
  g__law_read_clock : mg "_law_read_clock" = some (.ref (He.ga K "_law_read_clock"))
  fd__law_names_of : FunD K "_law_names_of" "_law_names_of" (defArgs (top 62)) (defBody (top 62)) (defScope (top 62)) [] [] (He.ga K "_law_names_of") (fdOf K (He.ga K "_law_names_of"))
  g__law_names_of : mg "_law_names_of" = some (.ref (He.ga K "_law_names_of"))
  fd__law_read_claim : FunD K "_law_read_claim" "_law_read_claim" (defArgs (top 63)) (defBody (top 63)) (defScope (top 63)) [] [] (He.ga K "_law_read_claim") (fdOf K (He.ga K "_law_read_claim"))
  g__law_read_claim : mg "_law_read_claim" = some (.ref (He.ga K "_law_read_claim"))
  fd__law_read_short : FunD K "_law_read_short" "_law_read_short" (defArgs (top 64)) (defBody (top 64)) (defScope (top 64)) [] [] (He.ga K "_law_read_short") (fdOf K (He.ga K "_law_read_short"))
  g__law_read_short : mg "_law_read_short" = some (.ref (He.ga K "_law_read_short"))
  fd__law_read : FunD K "_law_read" "_law_read" (defArgs (top 65)) (defBody (top 65)) (defScope (top 65)) [] [] (He.ga K "_law_read") (fdOf K (He.ga K "_law_read"))
  g__law_read : mg "_law_read" = some (.ref (He.ga K "_law_read"))
  fd__law_spoilt : FunD K "_law_spoilt" "_law_spoilt" (defArgs (top 66)) (defBody (top 66)) (defScope (top 66)) [] [] (He.ga K "_law_spoilt") (fdOf K (He.ga K "_law_spoilt"))
  g__law_spoilt : mg "_law_spoilt" = some (.ref (He.ga K "_law_spoilt"))
  fd__law_take : FunD K "_law_take" "_law_take" (defArgs (top 48)) (defBody (top 48)) (defScope (top 48)) [] [] (He.ga K "_law_take") (fdOf K (He.ga K "_law_take"))
  g__law_take : mg "_law_take" = some (.ref (He.ga K "_law_take"))
  fd__law_told : FunD K "_law_told" "_law_told" (defArgs (top 67)) (defBody (top 67)) (defScope (top 67)) [] [] (He.ga K "_law_told") (fdOf K (He.ga K "_law_told"))
  g__law_told : mg "_law_told" = some (.ref (He.ga K "_law_told"))
  fd_law : FunD K "law" "law" (defArgs (top 68)) (defBody (top 68)) (defScope (top 68)) [] [] (He.ga K "law") (fdOf K (He.ga K "law"))
  g_law : mg "law" = some (.ref (He.ga K "law"))
  k_CLOCK_PARTS : ∃ t, mg "CLOCK_PARTS" = some (.int 6 t)
  k_FIGURES : ∃ t, mg "FIGURES" = some (.str "0123456789" t)
  k_LAST_PLAYER : ∃ t, mg "LAST_PLAYER" = some (.int 3 t)
  k_LETTERS : ∃ t, mg "LETTERS" = some (.str "abcdefghijklmnopqrstuvwxyz" t)
  k_LONGEST : ∃ t, mg "LONGEST" = some (.int 8 t)
  k_LONGEST_KEY : ∃ t, mg "LONGEST_KEY" = some (.int 20 t)
  k_MOST_FIGURES : ∃ t, mg "MOST_FIGURES" = some (.int 40 t)
  k_MOST_MARK : ∃ t, mg "MOST_MARK" = some (.int 1000000000000000000000000000000 t)
  k_MOST_PLACE : ∃ t, mg "MOST_PLACE" = some (.int 99 t)
  g_SIZES : mg "SIZES" = some (.ref (He.ga K "SIZES"))
  tb_SIZES : Tbl K w (He.ga K "SIZES") [("member", 3), ("open", 5), ("hear", 2), ("tick", 2), ("day", 1), ("claim", 3), ("cup", 6), ("round", 2)]
  em_NoLetter_NoLetter : PySem.W.exmOne K (.ref (He.ga K "NoLetter")) (.ref (He.ga K "NoLetter")) = some true
  f_abs : mg "abs" = none
  f_all : mg "all" = none
  f_bool : mg "bool" = none
  f_enumerate : mg "enumerate" = none
  f_int : mg "int" = none
  f_isinstance : mg "isinstance" = none
  f_len : mg "len" = none
  f_list : mg "list" = none
  f_max : mg "max" = none
  f_min : mg "min" = none
  f_range : mg "range" = none
  f_repr : mg "repr" = none
  f_str : mg "str" = none
  f_tuple : mg "tuple" = none
  g_NoDeed : mg "NoDeed" = some (.ref (He.ga K "NoDeed"))
  g_NoLetter : mg "NoLetter" = some (.ref (He.ga K "NoLetter"))
  ex_NoLetter : PySem.W.excIn K (He.ga K "NoLetter") [.type "ValueError", .type "Exception", .type "BaseException", .type "object"] "ValueError.__new__" = true
  kc_NoLetter : PySem.W.keepIn K (.ref (He.ga K "NoLetter")) = true
  sb_NoLetter : PySem.W.subIn K (.ref (He.ga K "NoLetter")) (.type "BaseException") = some true
  ty_NoLetter : PySem.W.typeIn K (.ref (He.ga K "NoLetter")) = some (.type "type")
  g_NoName : mg "NoName" = some (.ref (He.ga K "NoName"))
  g_NoText : mg "NoText" = some (.ref (He.ga K "NoText"))
  ox_NoText : OexC K (He.ga K "NoText")
  na_NoText : PySem.W.findIn K (.ref (He.ga K "NoText")) "row" = some none
  in_NoText : PySem.W.findIn K (.ref (He.ga K "NoText")) "__init__" = some (some (.ref (He.ma K (He.ga K "NoText") "__init__")))
  it_NoText : PySem.W.typeIn K (.ref (He.ma K (He.ga K "NoText") "__init__")) = some (.type "function")
  fd_NoText : FunD K "__init__" "NoText.__init__" (defArgs (inClass (top 2) 0)) (defBody (inClass (top 2) 0)) (defScope (inClass (top 2) 0)) [] [] (He.ma K (He.ga K "NoText") "__init__") (fdOf K (He.ma K (He.ga K "NoText") "__init__"))
  g_SteadError : mg "SteadError" = some (.ref (He.ga K "SteadError"))
  xc_NoText : ExcC K (He.ga K "NoText")
  xf_NoText : XfC K (He.ga K "NoText")
  em_NoText_SteadError : PySem.W.exmOne K (.ref (He.ga K "NoText")) (.ref (He.ga K "SteadError")) = some true
  ki_NoDeed : PySem.W.kitOne K (.ref (He.ga K "NoText")) (.ref (He.ga K "NoDeed")) = some false
  ki_NoLetter : PySem.W.kitOne K (.ref (He.ga K "NoText")) (.ref (He.ga K "NoLetter")) = some false
  ki_NoName : PySem.W.kitOne K (.ref (He.ga K "NoText")) (.ref (He.ga K "NoName")) = some false
  ki_NoText : PySem.W.kitOne K (.ref (He.ga K "NoText")) (.ref (He.ga K "NoText")) = some true
section
variable {P : Program} {w : World} {K : PySem.W.Frag} {mg : Str → Option Value} {base : Heap}
theorem sc_NoText : FnScope ["self", "row"] ["self", "row"] (defScope (inClass (top 2) 0)) := ⟨rfl, rfl, rfl, by decide +kernel, rfl, by decide +kernel, by decide +kernel⟩
theorem bd_NoText (c : Tx K w mg) : Binds K (fdOf K (He.ma K (He.ga K "NoText") "__init__")) ["self", "row"] [] := c.fd_NoText.bindsN fun _ _ _ _ _ _ us hl => match us, hl with | [_, _], _ => rfl
theorem ok_NoText (c : Tx K w mg) : FnOk P w K mg base (L2.CX P w) 1 (He.ma K (He.ga K "NoText") "__init__") (fdOf K (He.ma K (He.ga K "NoText") "__init__")) ["self", "row"] (spOneField K "row") := one_field c.fd_NoText sc_NoText fun _ _ _ _ _ _ => pss_one (ps_ost (pv 0) (pv 1))
theorem sc_is_name : FnScope ["thing", "sign"] ["thing"] (defScope (top 10)) := ⟨rfl, rfl, rfl, by decide +kernel, rfl, by decide +kernel, by decide +kernel⟩
theorem bd_is_name (c : Tx K w mg) : Binds K (fdOf K (He.ga K "is_name")) ["thing"] [] := c.fd_is_name.bindsN fun _ _ _ _ _ _ us hl => match us, hl with | [_], _ => rfl
theorem sc_is_number : FnScope ["thing", "low", "high"] ["thing", "low", "high"] (defScope (top 11)) := ⟨rfl, rfl, rfl, by decide +kernel, rfl, by decide +kernel, by decide +kernel⟩
theorem bd_is_number (c : Tx K w mg) : Binds K (fdOf K (He.ga K "is_number")) ["thing", "low", "high"] [] := c.fd_is_number.bindsN fun _ _ _ _ _ _ us hl => match us, hl with | [_, _, _], _ => rfl
theorem sc_is_row : FnScope ["thing", "low", "high"] ["thing", "low", "high"] (defScope (top 12)) := ⟨rfl, rfl, rfl, by decide +kernel, rfl, by decide +kernel, by decide +kernel⟩
theorem bd_is_row (c : Tx K w mg) : Binds K (fdOf K (He.ga K "is_row")) ["thing", "low", "high"] [] := c.fd_is_row.bindsN fun _ _ _ _ _ _ us hl => match us, hl with | [_, _, _], _ => rfl
theorem sc_is_key : FnScope ["thing", "sign"] ["thing"] (defScope (top 19)) := ⟨rfl, rfl, rfl, by decide +kernel, rfl, by decide +kernel, by decide +kernel⟩
theorem bd_is_key (c : Tx K w mg) : Binds K (fdOf K (He.ga K "is_key")) ["thing"] [] := c.fd_is_key.bindsN fun _ _ _ _ _ _ us hl => match us, hl with | [_], _ => rfl
theorem sc_is_deed : FnScope ["thing"] ["thing"] (defScope (top 20)) := ⟨rfl, rfl, rfl, by decide +kernel, rfl, by decide +kernel, by decide +kernel⟩
theorem bd_is_deed (c : Tx K w mg) : Binds K (fdOf K (He.ga K "is_deed")) ["thing"] [] := c.fd_is_deed.bindsN fun _ _ _ _ _ _ us hl => match us, hl with | [_], _ => rfl
theorem sc_is_letter : FnScope ["thing", "word", "game", "player", "place", "ahead", "seen", "mark", "deed", "stamp", "seal", "part"] ["thing"] (defScope (top 21)) := ⟨rfl, rfl, rfl, by decide +kernel, rfl, by decide +kernel, by decide +kernel⟩
theorem bd_is_letter (c : Tx K w mg) : Binds K (fdOf K (He.ga K "is_letter")) ["thing"] [] := c.fd_is_letter.bindsN fun _ _ _ _ _ _ us hl => match us, hl with | [_], _ => rfl
theorem sc_plain_text : FnScope ["letter", "words", "part"] ["letter"] (defScope (top 22)) := ⟨rfl, rfl, rfl, by decide +kernel, rfl, by decide +kernel, by decide +kernel⟩
theorem bd_plain_text (c : Tx K w mg) : Binds K (fdOf K (He.ga K "plain_text")) ["letter"] [] := c.fd_plain_text.bindsN fun _ _ _ _ _ _ us hl => match us, hl with | [_], _ => rfl
theorem sc_letter_text : FnScope ["letter"] ["letter"] (defScope (top 23)) := ⟨rfl, rfl, rfl, by decide +kernel, rfl, by decide +kernel, by decide +kernel⟩
theorem bd_letter_text (c : Tx K w mg) : Binds K (fdOf K (He.ga K "letter_text")) ["letter"] [] := c.fd_letter_text.bindsN fun _ _ _ _ _ _ us hl => match us, hl with | [_], _ => rfl
theorem sc_number_in : FnScope ["word", "sign"] ["word"] (defScope (top 24)) := ⟨rfl, rfl, rfl, by decide +kernel, rfl, by decide +kernel, by decide +kernel⟩
theorem bd_number_in (c : Tx K w mg) : Binds K (fdOf K (He.ga K "number_in")) ["word"] [] := c.fd_number_in.bindsN fun _ _ _ _ _ _ us hl => match us, hl with | [_], _ => rfl
theorem sc_read_letter : FnScope ["text", "words", "game", "rest", "numbers", "word", "found"] ["text"] (defScope (top 25)) := ⟨rfl, rfl, rfl, by decide +kernel, rfl, by decide +kernel, by decide +kernel⟩
theorem bd_read_letter (c : Tx K w mg) : Binds K (fdOf K (He.ga K "read_letter")) ["text"] [] := c.fd_read_letter.bindsN fun _ _ _ _ _ _ us hl => match us, hl with | [_], _ => rfl
theorem sc_need : FnScope ["good"] ["good"] (defScope (top 28)) := ⟨rfl, rfl, rfl, by decide +kernel, rfl, by decide +kernel, by decide +kernel⟩
theorem bd_need (c : Tx K w mg) : Binds K (fdOf K (He.ga K "need")) ["good"] [] := c.fd_need.bindsN fun _ _ _ _ _ _ us hl => match us, hl with | [_], _ => rfl
theorem sc_name_in : FnScope ["thing"] ["thing"] (defScope (top 29)) := ⟨rfl, rfl, rfl, by decide +kernel, rfl, by decide +kernel, by decide +kernel⟩
theorem bd_name_in (c : Tx K w mg) : Binds K (fdOf K (He.ga K "name_in")) ["thing"] [] := c.fd_name_in.bindsN fun _ _ _ _ _ _ us hl => match us, hl with | [_], _ => rfl
theorem sc_names_in : FnScope ["thing", "one"] ["thing"] (defScope (top 30)) := ⟨rfl, rfl, rfl, by decide +kernel, rfl, by decide +kernel, by decide +kernel⟩
theorem bd_names_in (c : Tx K w mg) : Binds K (fdOf K (He.ga K "names_in")) ["thing"] [] := c.fd_names_in.bindsN fun _ _ _ _ _ _ us hl => match us, hl with | [_], _ => rfl
theorem sc_key_in : FnScope ["thing"] ["thing"] (defScope (top 31)) := ⟨rfl, rfl, rfl, by decide +kernel, rfl, by decide +kernel, by decide +kernel⟩
theorem bd_key_in (c : Tx K w mg) : Binds K (fdOf K (He.ga K "key_in")) ["thing"] [] := c.fd_key_in.bindsN fun _ _ _ _ _ _ us hl => match us, hl with | [_], _ => rfl
theorem sc_number_words : FnScope ["thing"] ["thing"] (defScope (top 32)) := ⟨rfl, rfl, rfl, by decide +kernel, rfl, by decide +kernel, by decide +kernel⟩
theorem bd_number_words (c : Tx K w mg) : Binds K (fdOf K (He.ga K "number_words")) ["thing"] [] := c.fd_number_words.bindsN fun _ _ _ _ _ _ us hl => match us, hl with | [_], _ => rfl
theorem sc_clock_in : FnScope ["thing", "at", "part", "word"] ["thing"] (defScope (top 33)) := ⟨rfl, rfl, rfl, by decide +kernel, rfl, by decide +kernel, by decide +kernel⟩
theorem bd_clock_in (c : Tx K w mg) : Binds K (fdOf K (He.ga K "clock_in")) ["thing"] [] := c.fd_clock_in.bindsN fun _ _ _ _ _ _ us hl => match us, hl with | [_], _ => rfl
theorem sc_letter_in : FnScope ["thing"] ["thing"] (defScope (top 34)) := ⟨rfl, rfl, rfl, by decide +kernel, rfl, by decide +kernel, by decide +kernel⟩
theorem bd_letter_in (c : Tx K w mg) : Binds K (fdOf K (He.ga K "letter_in")) ["thing"] [] := c.fd_letter_in.bindsN fun _ _ _ _ _ _ us hl => match us, hl with | [_], _ => rfl
theorem sc_words_of : FnScope ["word", "parts", "ahead"] ["word", "parts"] (defScope (top 35)) := ⟨rfl, rfl, rfl, by decide +kernel, rfl, by decide +kernel, by decide +kernel⟩
theorem bd_words_of (c : Tx K w mg) : Binds K (fdOf K (He.ga K "words_of")) ["word", "parts"] [] := c.fd_words_of.bindsN fun _ _ _ _ _ _ us hl => match us, hl with | [_, _], _ => rfl
theorem sc_deed_text : FnScope ["deed", "word", "parts"] ["deed"] (defScope (top 37)) := ⟨rfl, rfl, rfl, by decide +kernel, rfl, by decide +kernel, by decide +kernel⟩
theorem bd_deed_text (c : Tx K w mg) : Binds K (fdOf K (He.ga K "deed_text")) ["deed"] [] := c.fd_deed_text.bindsN fun _ _ _ _ _ _ us hl => match us, hl with | [_], _ => rfl
theorem bk_deed_text (c : Tx K w mg) : ∀ (s : Shared) (u : Value), K.In s.heap → BindsTo s (fdOf K (He.ga K "deed_text")) ⟨[], [("deed", u)]⟩ ((["deed"] : List Str).zip [u]) := bindsK1 c.fd_deed_text fun _ _ _ _ _ _ _ => rfl
theorem sc_read_name : FnScope ["word"] ["word"] (defScope (top 38)) := ⟨rfl, rfl, rfl, by decide +kernel, rfl, by decide +kernel, by decide +kernel⟩
theorem bd_read_name (c : Tx K w mg) : Binds K (fdOf K (He.ga K "read_name")) ["word"] [] := c.fd_read_name.bindsN fun _ _ _ _ _ _ us hl => match us, hl with | [_], _ => rfl
theorem sc_read_number : FnScope ["word", "found"] ["word"] (defScope (top 39)) := ⟨rfl, rfl, rfl, by decide +kernel, rfl, by decide +kernel, by decide +kernel⟩
theorem bd_read_number (c : Tx K w mg) : Binds K (fdOf K (He.ga K "read_number")) ["word"] [] := c.fd_read_number.bindsN fun _ _ _ _ _ _ us hl => match us, hl with | [_], _ => rfl
theorem sc_read_clock : FnScope ["words", "at", "word"] ["words"] (defScope (top 40)) := ⟨rfl, rfl, rfl, by decide +kernel, rfl, by decide +kernel, by decide +kernel⟩
theorem bd_read_clock (c : Tx K w mg) : Binds K (fdOf K (He.ga K "read_clock")) ["words"] [] := c.fd_read_clock.bindsN fun _ _ _ _ _ _ us hl => match us, hl with | [_], _ => rfl
theorem sc_read_letter_of : FnScope ["words", "found"] ["words"] (defScope (top 41)) := ⟨rfl, rfl, rfl, by decide +kernel, rfl, by decide +kernel, by decide +kernel⟩
theorem bd_read_letter_of (c : Tx K w mg) : Binds K (fdOf K (He.ga K "read_letter_of")) ["words"] [] := c.fd_read_letter_of.bindsN fun _ _ _ _ _ _ us hl => match us, hl with | [_], _ => rfl
theorem sc_read_claim : FnScope ["words", "at"] ["words"] (defScope (top 42)) := ⟨rfl, rfl, rfl, by decide +kernel, rfl, by decide +kernel, by decide +kernel⟩
theorem bd_read_claim (c : Tx K w mg) : Binds K (fdOf K (He.ga K "read_claim")) ["words"] [] := c.fd_read_claim.bindsN fun _ _ _ _ _ _ us hl => match us, hl with | [_], _ => rfl
theorem sc_read_open : FnScope ["words", "names", "word"] ["words"] (defScope (top 43)) := ⟨rfl, rfl, rfl, by decide +kernel, rfl, by decide +kernel, by decide +kernel⟩
theorem bd_read_open (c : Tx K w mg) : Binds K (fdOf K (He.ga K "read_open")) ["words"] [] := c.fd_read_open.bindsN fun _ _ _ _ _ _ us hl => match us, hl with | [_], _ => rfl
theorem sc_read_cup : FnScope ["words", "names", "word", "terms"] ["words"] (defScope (top 44)) := ⟨rfl, rfl, rfl, by decide +kernel, rfl, by decide +kernel, by decide +kernel⟩
theorem bd_read_cup (c : Tx K w mg) : Binds K (fdOf K (He.ga K "read_cup")) ["words"] [] := c.fd_read_cup.bindsN fun _ _ _ _ _ _ us hl => match us, hl with | [_], _ => rfl
theorem sc_read_deed : FnScope ["text", "word", "words"] ["text"] (defScope (top 45)) := ⟨rfl, rfl, rfl, by decide +kernel, rfl, by decide +kernel, by decide +kernel⟩
theorem bd_read_deed (c : Tx K w mg) : Binds K (fdOf K (He.ga K "read_deed")) ["text"] [] := c.fd_read_deed.bindsN fun _ _ _ _ _ _ us hl => match us, hl with | [_], _ => rfl
theorem bk_read_deed (c : Tx K w mg) : ∀ (s : Shared) (u : Value), K.In s.heap → BindsTo s (fdOf K (He.ga K "read_deed")) ⟨[], [("text", u)]⟩ ((["text"] : List Str).zip [u]) := bindsK1 c.fd_read_deed fun _ _ _ _ _ _ _ => rfl
theorem sc__law_begin : FnScope ["_law_script", "_law_cells", "_law_cell"] ["_law_script"] (defScope (top 47)) := ⟨rfl, rfl, rfl, by decide +kernel, rfl, by decide +kernel, by decide +kernel⟩
theorem bd__law_begin (c : Tx K w mg) : Binds K (fdOf K (He.ga K "_law_begin")) ["_law_script"] [] := c.fd__law_begin.bindsN fun _ _ _ _ _ _ us hl => match us, hl with | [_], _ => rfl
theorem sc__law_pick : FnScope ["_law_draw", "_law_some"] ["_law_draw", "_law_some"] (defScope (top 49)) := ⟨rfl, rfl, rfl, by decide +kernel, rfl, by decide +kernel, by decide +kernel⟩
theorem bd__law_pick (c : Tx K w mg) : Binds K (fdOf K (He.ga K "_law_pick")) ["_law_draw", "_law_some"] [] := c.fd__law_pick.bindsN fun _ _ _ _ _ _ us hl => match us, hl with | [_, _], _ => rfl
theorem sc__law_names : FnScope ["_law_draw", "_law_many", "_law_own", "_law_found", "_law_k", "_law_word", "_law_j", "_law_some", "_law_one"] ["_law_draw", "_law_many"] (defScope (top 50)) := ⟨rfl, rfl, rfl, by decide +kernel, rfl, by decide +kernel, by decide +kernel⟩
theorem bd__law_names (c : Tx K w mg) : Binds K (fdOf K (He.ga K "_law_names")) ["_law_draw", "_law_many"] [] := c.fd__law_names.bindsN fun _ _ _ _ _ _ us hl => match us, hl with | [_, _], _ => rfl
theorem sc__law_key : FnScope ["_law_draw", "_law_k"] ["_law_draw"] (defScope (top 51)) := ⟨rfl, rfl, rfl, by decide +kernel, rfl, by decide +kernel, by decide +kernel⟩
theorem bd__law_key (c : Tx K w mg) : Binds K (fdOf K (He.ga K "_law_key")) ["_law_draw"] [] := c.fd__law_key.bindsN fun _ _ _ _ _ _ us hl => match us, hl with | [_], _ => rfl
theorem sc__law_count : FnScope ["_law_draw", "_law_way"] ["_law_draw"] (defScope (top 52)) := ⟨rfl, rfl, rfl, by decide +kernel, rfl, by decide +kernel, by decide +kernel⟩
theorem bd__law_count (c : Tx K w mg) : Binds K (fdOf K (He.ga K "_law_count")) ["_law_draw"] [] := c.fd__law_count.bindsN fun _ _ _ _ _ _ us hl => match us, hl with | [_], _ => rfl
theorem sc__law_letter : FnScope ["_law_draw", "_law_deed", "_law_some", "_law_k", "_law_head"] ["_law_draw"] (defScope (top 53)) := ⟨rfl, rfl, rfl, by decide +kernel, rfl, by decide +kernel, by decide +kernel⟩
theorem bd__law_letter (c : Tx K w mg) : Binds K (fdOf K (He.ga K "_law_letter")) ["_law_draw"] [] := c.fd__law_letter.bindsN fun _ _ _ _ _ _ us hl => match us, hl with | [_], _ => rfl
theorem sc__law_letter_words : FnScope ["_law_letter_here", "_law_part"] ["_law_letter_here"] (defScope (top 54)) := ⟨rfl, rfl, rfl, by decide +kernel, rfl, by decide +kernel, by decide +kernel⟩
theorem bd__law_letter_words (c : Tx K w mg) : Binds K (fdOf K (He.ga K "_law_letter_words")) ["_law_letter_here"] [] := c.fd__law_letter_words.bindsN fun _ _ _ _ _ _ us hl => match us, hl with | [_], _ => rfl
theorem sc__law_clock : FnScope ["_law_draw", "_law_kind"] ["_law_draw"] (defScope (top 55)) := ⟨rfl, rfl, rfl, by decide +kernel, rfl, by decide +kernel, by decide +kernel⟩
theorem bd__law_clock (c : Tx K w mg) : Binds K (fdOf K (He.ga K "_law_clock")) ["_law_draw"] [] := c.fd__law_clock.bindsN fun _ _ _ _ _ _ us hl => match us, hl with | [_], _ => rfl
theorem sc__law_house_deed : FnScope ["_law_draw", "_law_names_here", "_law_way", "_law_some"] ["_law_draw"] (defScope (top 56)) := ⟨rfl, rfl, rfl, by decide +kernel, rfl, by decide +kernel, by decide +kernel⟩
theorem bd__law_house_deed (c : Tx K w mg) : Binds K (fdOf K (He.ga K "_law_house_deed")) ["_law_draw"] [] := c.fd__law_house_deed.bindsN fun _ _ _ _ _ _ us hl => match us, hl with | [_], _ => rfl
theorem sc__law_words : FnScope ["_law_deed", "_law_word", "_law_parts", "_law_some", "_law_part"] ["_law_deed"] (defScope (top 57)) := ⟨rfl, rfl, rfl, by decide +kernel, rfl, by decide +kernel, by decide +kernel⟩
theorem bd__law_words (c : Tx K w mg) : Binds K (fdOf K (He.ga K "_law_words")) ["_law_deed"] [] := c.fd__law_words.bindsN fun _ _ _ _ _ _ us hl => match us, hl with | [_], _ => rfl
theorem sc__law_name_is : FnScope ["_law_word", "_law_sign"] ["_law_word"] (defScope (top 58)) := ⟨rfl, rfl, rfl, by decide +kernel, rfl, by decide +kernel, by decide +kernel⟩
theorem bd__law_name_is (c : Tx K w mg) : Binds K (fdOf K (He.ga K "_law_name_is")) ["_law_word"] [] := c.fd__law_name_is.bindsN fun _ _ _ _ _ _ us hl => match us, hl with | [_], _ => rfl
theorem sc__law_number : FnScope ["_law_word", "_law_odd", "_law_sign"] ["_law_word"] (defScope (top 59)) := ⟨rfl, rfl, rfl, by decide +kernel, rfl, by decide +kernel, by decide +kernel⟩
theorem bd__law_number (c : Tx K w mg) : Binds K (fdOf K (He.ga K "_law_number")) ["_law_word"] [] := c.fd__law_number.bindsN fun _ _ _ _ _ _ us hl => match us, hl with | [_], _ => rfl
theorem sc__law_read_letter : FnScope ["_law_words_here", "_law_own", "_law_numbers", "_law_word"] ["_law_words_here"] (defScope (top 60)) := ⟨rfl, rfl, rfl, by decide +kernel, rfl, by decide +kernel, by decide +kernel⟩
theorem bd__law_read_letter (c : Tx K w mg) : Binds K (fdOf K (He.ga K "_law_read_letter")) ["_law_words_here"] [] := c.fd__law_read_letter.bindsN fun _ _ _ _ _ _ us hl => match us, hl with | [_], _ => rfl
theorem sc__law_read_clock : FnScope ["_law_words_here", "_law_found", "_law_at", "_law_word"] ["_law_words_here"] (defScope (top 61)) := ⟨rfl, rfl, rfl, by decide +kernel, rfl, by decide +kernel, by decide +kernel⟩
theorem bd__law_read_clock (c : Tx K w mg) : Binds K (fdOf K (He.ga K "_law_read_clock")) ["_law_words_here"] [] := c.fd__law_read_clock.bindsN fun _ _ _ _ _ _ us hl => match us, hl with | [_], _ => rfl
theorem sc__law_names_of : FnScope ["_law_words_here", "_law_word"] ["_law_words_here"] (defScope (top 62)) := ⟨rfl, rfl, rfl, by decide +kernel, rfl, by decide +kernel, by decide +kernel⟩
theorem bd__law_names_of (c : Tx K w mg) : Binds K (fdOf K (He.ga K "_law_names_of")) ["_law_words_here"] [] := c.fd__law_names_of.bindsN fun _ _ _ _ _ _ us hl => match us, hl with | [_], _ => rfl
theorem sc__law_read_claim : FnScope ["_law_words_here", "_law_at"] ["_law_words_here"] (defScope (top 63)) := ⟨rfl, rfl, rfl, by decide +kernel, rfl, by decide +kernel, by decide +kernel⟩
theorem bd__law_read_claim (c : Tx K w mg) : Binds K (fdOf K (He.ga K "_law_read_claim")) ["_law_words_here"] [] := c.fd__law_read_claim.bindsN fun _ _ _ _ _ _ us hl => match us, hl with | [_], _ => rfl
theorem sc__law_read_short : FnScope ["_law_word", "_law_words_here", "_law_key_here", "_law_good", "_law_sign"] ["_law_word", "_law_words_here"] (defScope (top 64)) := ⟨rfl, rfl, rfl, by decide +kernel, rfl, by decide +kernel, by decide +kernel⟩
theorem bd__law_read_short (c : Tx K w mg) : Binds K (fdOf K (He.ga K "_law_read_short")) ["_law_word", "_law_words_here"] [] := c.fd__law_read_short.bindsN fun _ _ _ _ _ _ us hl => match us, hl with | [_, _], _ => rfl
theorem sc__law_read : FnScope ["_law_writing", "_law_word", "_law_words_here", "_law_found", "_law_some", "_law_clock_here"] ["_law_writing"] (defScope (top 65)) := ⟨rfl, rfl, rfl, by decide +kernel, rfl, by decide +kernel, by decide +kernel⟩
theorem bd__law_read (c : Tx K w mg) : Binds K (fdOf K (He.ga K "_law_read")) ["_law_writing"] [] := c.fd__law_read.bindsN fun _ _ _ _ _ _ us hl => match us, hl with | [_], _ => rfl
theorem sc__law_spoilt : FnScope ["_law_draw", "_law_row", "_law_way", "_law_words_here", "_law_at", "_law_both", "_law_other"] ["_law_draw", "_law_row"] (defScope (top 66)) := ⟨rfl, rfl, rfl, by decide +kernel, rfl, by decide +kernel, by decide +kernel⟩
theorem bd__law_spoilt (c : Tx K w mg) : Binds K (fdOf K (He.ga K "_law_spoilt")) ["_law_draw", "_law_row"] [] := c.fd__law_spoilt.bindsN fun _ _ _ _ _ _ us hl => match us, hl with | [_, _], _ => rfl
theorem sc__law_take : FnScope ["_law_draw", "_law_size", "_law_cells", "_law_at", "_law_cell"] ["_law_draw", "_law_size"] (defScope (top 48)) := ⟨rfl, rfl, rfl, by decide +kernel, rfl, by decide +kernel, by decide +kernel⟩
theorem bd__law_take (c : Tx K w mg) : Binds K (fdOf K (He.ga K "_law_take")) ["_law_draw", "_law_size"] [] := c.fd__law_take.bindsN fun _ _ _ _ _ _ us hl => match us, hl with | [_, _], _ => rfl
theorem sc__law_told : FnScope ["_law_row", "_law_found", "_law_error", "e", "_law_others", "_law_good"] ["_law_row"] (defScope (top 67)) := ⟨rfl, rfl, rfl, by decide +kernel, rfl, by decide +kernel, by decide +kernel⟩
theorem bd__law_told (c : Tx K w mg) : Binds K (fdOf K (He.ga K "_law_told")) ["_law_row"] [] := c.fd__law_told.bindsN fun _ _ _ _ _ _ us hl => match us, hl with | [_], _ => rfl
theorem sc_law : FnScope ["_law_script", "_law_draw", "_law_turn", "_law_row", "_law_spoil", "_law_word", "_law_due", "_law_found", "_law_odd"] ["_law_script"] (defScope (top 68)) := ⟨rfl, rfl, rfl, by decide +kernel, rfl, by decide +kernel, by decide +kernel⟩
theorem bd_law (c : Tx K w mg) : Binds K (fdOf K (He.ga K "law")) ["_law_script"] [] := c.fd_law.bindsN fun _ _ _ _ _ _ us hl => match us, hl with | [_], _ => rfl
end
end K87
set_option Elab.async false
set_option linter.all false
set_option maxRecDepth 100000
set_option maxHeartbeats 0
namespace K87
open PySem PySem.Spec PyProof.Rows L2 PD
def d_is_name : He.DefD := ⟨("is_name", none), "is_name", "is_name", defArgs (top 10), defBody (top 10), defScope (top 10), [], []⟩
def d_is_number : He.DefD := ⟨("is_number", none), "is_number", "is_number", defArgs (top 11), defBody (top 11), defScope (top 11), [], []⟩
def d_is_row : He.DefD := ⟨("is_row", none), "is_row", "is_row", defArgs (top 12), defBody (top 12), defScope (top 12), [], []⟩
def d_is_key : He.DefD := ⟨("is_key", none), "is_key", "is_key", defArgs (top 19), defBody (top 19), defScope (top 19), [], []⟩
def d_is_deed : He.DefD := ⟨("is_deed", none), "is_deed", "is_deed", defArgs (top 20), defBody (top 20), defScope (top 20), [], []⟩
def d_is_letter : He.DefD := ⟨("is_letter", none), "is_letter", "is_letter", defArgs (top 21), defBody (top 21), defScope (top 21), [], []⟩
def d_plain_text : He.DefD := ⟨("plain_text", none), "plain_text", "plain_text", defArgs (top 22), defBody (top 22), defScope (top 22), [], []⟩
def d_letter_text : He.DefD := ⟨("letter_text", none), "letter_text", "letter_text", defArgs (top 23), defBody (top 23), defScope (top 23), [], []⟩
def d_number_in : He.DefD := ⟨("number_in", none), "number_in", "number_in", defArgs (top 24), defBody (top 24), defScope (top 24), [], []⟩
def d_read_letter : He.DefD := ⟨("read_letter", none), "read_letter", "read_letter", defArgs (top 25), defBody (top 25), defScope (top 25), [], []⟩
def d_need : He.DefD := ⟨("need", none), "need", "need", defArgs (top 28), defBody (top 28), defScope (top 28), [], []⟩
def d_name_in : He.DefD := ⟨("name_in", none), "name_in", "name_in", defArgs (top 29), defBody (top 29), defScope (top 29), [], []⟩
def d_names_in : He.DefD := ⟨("names_in", none), "names_in", "names_in", defArgs (top 30), defBody (top 30), defScope (top 30), [], []⟩
def d_key_in : He.DefD := ⟨("key_in", none), "key_in", "key_in", defArgs (top 31), defBody (top 31), defScope (top 31), [], []⟩
def d_number_words : He.DefD := ⟨("number_words", none), "number_words", "number_words", defArgs (top 32), defBody (top 32), defScope (top 32), [], []⟩
def d_clock_in : He.DefD := ⟨("clock_in", none), "clock_in", "clock_in", defArgs (top 33), defBody (top 33), defScope (top 33), [], []⟩
def d_letter_in : He.DefD := ⟨("letter_in", none), "letter_in", "letter_in", defArgs (top 34), defBody (top 34), defScope (top 34), [], []⟩
def d_words_of : He.DefD := ⟨("words_of", none), "words_of", "words_of", defArgs (top 35), defBody (top 35), defScope (top 35), [], []⟩
def d_deed_text : He.DefD := ⟨("deed_text", none), "deed_text", "deed_text", defArgs (top 37), defBody (top 37), defScope (top 37), [], []⟩
def d_read_name : He.DefD := ⟨("read_name", none), "read_name", "read_name", defArgs (top 38), defBody (top 38), defScope (top 38), [], []⟩
def d_read_number : He.DefD := ⟨("read_number", none), "read_number", "read_number", defArgs (top 39), defBody (top 39), defScope (top 39), [], []⟩
def d_read_clock : He.DefD := ⟨("read_clock", none), "read_clock", "read_clock", defArgs (top 40), defBody (top 40), defScope (top 40), [], []⟩
def d_read_letter_of : He.DefD := ⟨("read_letter_of", none), "read_letter_of", "read_letter_of", defArgs (top 41), defBody (top 41), defScope (top 41), [], []⟩
def d_read_claim : He.DefD := ⟨("read_claim", none), "read_claim", "read_claim", defArgs (top 42), defBody (top 42), defScope (top 42), [], []⟩
def d_read_open : He.DefD := ⟨("read_open", none), "read_open", "read_open", defArgs (top 43), defBody (top 43), defScope (top 43), [], []⟩
def d_read_cup : He.DefD := ⟨("read_cup", none), "read_cup", "read_cup", defArgs (top 44), defBody (top 44), defScope (top 44), [], []⟩
def d_read_deed : He.DefD := ⟨("read_deed", none), "read_deed", "read_deed", defArgs (top 45), defBody (top 45), defScope (top 45), [], []⟩
def d__law_begin : He.DefD := ⟨("_law_begin", none), "_law_begin", "_law_begin", defArgs (top 47), defBody (top 47), defScope (top 47), [], []⟩
def d__law_pick : He.DefD := ⟨("_law_pick", none), "_law_pick", "_law_pick", defArgs (top 49), defBody (top 49), defScope (top 49), [], []⟩
def d__law_names : He.DefD := ⟨("_law_names", none), "_law_names", "_law_names", defArgs (top 50), defBody (top 50), defScope (top 50), [], []⟩
def d__law_key : He.DefD := ⟨("_law_key", none), "_law_key", "_law_key", defArgs (top 51), defBody (top 51), defScope (top 51), [], []⟩
def d__law_count : He.DefD := ⟨("_law_count", none), "_law_count", "_law_count", defArgs (top 52), defBody (top 52), defScope (top 52), [], []⟩
def d__law_letter : He.DefD := ⟨("_law_letter", none), "_law_letter", "_law_letter", defArgs (top 53), defBody (top 53), defScope (top 53), [], []⟩
def d__law_letter_words : He.DefD := ⟨("_law_letter_words", none), "_law_letter_words", "_law_letter_words", defArgs (top 54), defBody (top 54), defScope (top 54), [], []⟩
def d__law_clock : He.DefD := ⟨("_law_clock", none), "_law_clock", "_law_clock", defArgs (top 55), defBody (top 55), defScope (top 55), [], []⟩
def d__law_house_deed : He.DefD := ⟨("_law_house_deed", none), "_law_house_deed", "_law_house_deed", defArgs (top 56), defBody (top 56), defScope (top 56), [], []⟩
def d__law_words : He.DefD := ⟨("_law_words", none), "_law_words", "_law_words", defArgs (top 57), defBody (top 57), defScope (top 57), [], []⟩
def d__law_name_is : He.DefD := ⟨("_law_name_is", none), "_law_name_is", "_law_name_is", defArgs (top 58), defBody (top 58), defScope (top 58), [], []⟩
def d__law_number : He.DefD := ⟨("_law_number", none), "_law_number", "_law_number", defArgs (top 59), defBody (top 59), defScope (top 59), [], []⟩
def d__law_read_letter : He.DefD := ⟨("_law_read_letter", none), "_law_read_letter", "_law_read_letter", defArgs (top 60), defBody (top 60), defScope (top 60), [], []⟩
def d__law_read_clock : He.DefD := ⟨("_law_read_clock", none), "_law_read_clock", "_law_read_clock", defArgs (top 61), defBody (top 61), defScope (top 61), [], []⟩
def d__law_names_of : He.DefD := ⟨("_law_names_of", none), "_law_names_of", "_law_names_of", defArgs (top 62), defBody (top 62), defScope (top 62), [], []⟩
def d__law_read_claim : He.DefD := ⟨("_law_read_claim", none), "_law_read_claim", "_law_read_claim", defArgs (top 63), defBody (top 63), defScope (top 63), [], []⟩
def d__law_read_short : He.DefD := ⟨("_law_read_short", none), "_law_read_short", "_law_read_short", defArgs (top 64), defBody (top 64), defScope (top 64), [], []⟩
def d__law_read : He.DefD := ⟨("_law_read", none), "_law_read", "_law_read", defArgs (top 65), defBody (top 65), defScope (top 65), [], []⟩
def d__law_spoilt : He.DefD := ⟨("_law_spoilt", none), "_law_spoilt", "_law_spoilt", defArgs (top 66), defBody (top 66), defScope (top 66), [], []⟩
def d__law_take : He.DefD := ⟨("_law_take", none), "_law_take", "_law_take", defArgs (top 48), defBody (top 48), defScope (top 48), [], []⟩
def d__law_told : He.DefD := ⟨("_law_told", none), "_law_told", "_law_told", defArgs (top 67), defBody (top 67), defScope (top 67), [], []⟩
def d_law : He.DefD := ⟨("law", none), "law", "law", defArgs (top 68), defBody (top 68), defScope (top 68), [], []⟩
def d_NoText : He.DefD := ⟨("NoText", some "__init__"), "__init__", "NoText.__init__", defArgs (inClass (top 2) 0), defBody (inClass (top 2) 0), defScope (inClass (top 2) 0), [], []⟩
def fns : List He.DefD := [d_is_name, d_is_number, d_is_row, d_is_key, d_is_deed, d_is_letter, d_plain_text, d_letter_text, d_number_in, d_read_letter, d_need, d_name_in, d_names_in, d_key_in, d_number_words, d_clock_in, d_letter_in, d_words_of, d_deed_text, d_read_name, d_read_number, d_read_clock, d_read_letter_of, d_read_claim, d_read_open, d_read_cup, d_read_deed, d__law_begin, d__law_pick, d__law_names, d__law_key, d__law_count, d__law_letter, d__law_letter_words, d__law_clock, d__law_house_deed, d__law_words, d__law_name_is, d__law_number, d__law_read_letter, d__law_read_clock, d__law_names_of, d__law_read_claim, d__law_read_short, d__law_read, d__law_spoilt, d__law_take, d__law_told, d_law, d_NoText]
def fas : List He.Fa := [.glo "is_name", .glo "is_number", .glo "is_row", .glo "is_key", .glo "is_deed", .glo "is_letter", .glo "plain_text", .glo "letter_text", .glo "number_in", .glo "read_letter", .glo "need", .glo "name_in", .glo "names_in", .glo "key_in", .glo "number_words", .glo "clock_in", .glo "letter_in", .glo "words_of", .glo "deed_text", .glo "read_name", .glo "read_number", .glo "read_clock", .glo "read_letter_of", .glo "read_claim", .glo "read_open", .glo "read_cup", .glo "read_deed", .glo "_law_begin", .glo "_law_pick", .glo "_law_names", .glo "_law_key", .glo "_law_count", .glo "_law_letter", .glo "_law_letter_words", .glo "_law_clock", .glo "_law_house_deed", .glo "_law_words", .glo "_law_name_is", .glo "_law_number", .glo "_law_read_letter", .glo "_law_read_clock", .glo "_law_names_of", .glo "_law_read_claim", .glo "_law_read_short", .glo "_law_read", .glo "_law_spoilt", .glo "_law_take", .glo "_law_told", .glo "law", .int "CLOCK_PARTS" 6, .str "FIGURES" "0123456789", .int "LAST_PLAYER" 3, .str "LETTERS" "abcdefghijklmnopqrstuvwxyz", .int "LONGEST" 8, .int "LONGEST_KEY" 20, .int "MOST_FIGURES" 40, .int "MOST_MARK" 1000000000000000000000000000000, .int "MOST_PLACE" 99, .glo "SIZES", .exm "NoLetter" "NoLetter" true, .free "abs", .free "all", .free "bool", .free "enumerate", .free "int", .free "isinstance", .free "len", .free "list", .free "max", .free "min", .free "range", .free "repr", .free "str", .free "tuple", .glo "NoDeed", .glo "NoLetter", .exc "NoLetter", .glo "NoName", .glo "NoText", .noat "NoText" "row", .meth "NoText" "__init__", .glo "SteadError", .exm "NoText" "SteadError" true]
def t_SIZES : He.Tab := (fun K => He.ga K "SIZES", ["member", "open", "hear", "tick", "day", "claim", "cup", "round"])
def tabs : List He.Tab := [t_SIZES]
def exs (K : PySem.W.Frag) : List Bool := [tabB K (He.ga K "SIZES") [("member", 3), ("open", 5), ("hear", 2), ("tick", 2), ("day", 1), ("claim", 3), ("cup", 6), ("round", 2)],
  oexB K (He.ga K "NoText"),
  excB K (He.ga K "NoText"),
  kitB K (He.ga K "NoText") (He.ga K "NoDeed") false,
  kitB K (He.ga K "NoText") (He.ga K "NoLetter") false,
  kitB K (He.ga K "NoText") (He.ga K "NoName") false,
  kitB K (He.ga K "NoText") (He.ga K "NoText") true]
def exAll (K : PySem.W.Frag) : Bool := (exs K).all id
abbrev R : PySem.W.OpenRow := PySem.W.OpenLaw.row PySem.Challenge.rw_playstead_k87_rows_read_or_refused
abbrev hk : PySem.W.Hook := He.hookX 4 fas fns tabs [] exAll
def ob (s : PySem.W.SharedT) : He.AlX := He.obsX 4 fas fns tabs [] exAll (HandSHeadRun.getT s)
theorem ob_eq (s : PySem.W.SharedT) : ob s = hk.obs s.abs := He.obsX_eq (HandSHeadRun.getT_eq s)
def names : List PySem.Str := (["__name__", "SteadError", "NoText", "NoLetter", "NoName", "NoDeed", "LETTERS", "LONGEST", "MOST_MARK", "is_name", "is_number", "is_row", "LONGEST_KEY", "MOST_PLACE", "LAST_PLAYER", "FIGURES", "MOST_FIGURES", "is_key", "is_deed", "is_letter", "plain_text", "letter_text", "number_in", "read_letter", "CLOCK_PARTS", "need", "name_in", "names_in", "key_in", "number_words"] : List PySem.Str) ++ (["clock_in", "letter_in", "words_of", "SIZES", "deed_text", "read_name", "read_number", "read_clock", "read_letter_of", "read_claim", "read_open", "read_cup", "read_deed", "_law_begin", "_law_take", "_law_pick", "_law_names", "_law_key", "_law_count", "_law_letter", "_law_letter_words", "_law_clock", "_law_house_deed", "_law_words", "_law_name_is", "_law_number", "_law_read_letter", "_law_read_clock", "_law_names_of", "_law_read_claim"] : List PySem.Str) ++ (["_law_read_short", "_law_read", "_law_spoilt", "_law_told"] : List PySem.Str)
theorem run (w : World) : HandSHeadRun.RunEq R (PySem.W.view R.prog [68]) hk ob 6000 names w := by
  refine PySem.W.byRow2 "special-get-raises" (P := fun w => HandSHeadRun.RunEq R (PySem.W.view R.prog [68]) hk ob 6000 names w) (fun w => ?_) (fun w => ?_) w
  · intro os
    kernel_rfl
  · intro os
    kernel_rfl
theorem fdOf_ok {K : PySem.W.Frag} {x qual : Str} {params : Arguments} {body : List Stmt} {scope : Scope} {dvs : List V} {kws : List (Str × V)} {f : Addr} (h : ∃ fd, FunD K x qual params body scope dvs kws f fd) : FunD K x qual params body scope dvs kws f (fdOf K f) := by
  obtain ⟨fd, F⟩ := h
  have e : fdOf K f = fd := by
    obtain ⟨oc, od, dV, kV, doc, pm, an, cdv, ct, osl, rfl, look, _⟩ := F.ex
    unfold fdOf
    rw [look]
  rw [e]
  exact F
section
variable {K : PySem.W.Frag} {w : World} {mg : Str → Option Value} {h : Heap}
theorem ex_at (c : He.SaysX fas fns tabs [] exAll w h K) (i : Nat) {b : Bool} (hb : (exs K)[i]? = some b := by rfl) : b = true := List.all_eq_true.mp c.more b (List.mem_of_getElem? hb)
theorem tx (X : K.In h) (G : h.Ns mainGlobals mg) (c : He.SaysX fas fns tabs [] exAll w h K) : Tx K w mg := by
  have s := c.t.d
  exact ⟨fdOf_ok (s.def_ 0 (d := d_is_name) rfl),
    He.glo_ok X G (s.fact 0 (f := .glo "is_name") rfl),
    fdOf_ok (s.def_ 1 (d := d_is_number) rfl),
    He.glo_ok X G (s.fact 1 (f := .glo "is_number") rfl),
    fdOf_ok (s.def_ 2 (d := d_is_row) rfl),
    He.glo_ok X G (s.fact 2 (f := .glo "is_row") rfl),
    fdOf_ok (s.def_ 3 (d := d_is_key) rfl),
    He.glo_ok X G (s.fact 3 (f := .glo "is_key") rfl),
    fdOf_ok (s.def_ 4 (d := d_is_deed) rfl),
    He.glo_ok X G (s.fact 4 (f := .glo "is_deed") rfl),
    fdOf_ok (s.def_ 5 (d := d_is_letter) rfl),
    He.glo_ok X G (s.fact 5 (f := .glo "is_letter") rfl),
    fdOf_ok (s.def_ 6 (d := d_plain_text) rfl),
    He.glo_ok X G (s.fact 6 (f := .glo "plain_text") rfl),
    fdOf_ok (s.def_ 7 (d := d_letter_text) rfl),
    He.glo_ok X G (s.fact 7 (f := .glo "letter_text") rfl),
    fdOf_ok (s.def_ 8 (d := d_number_in) rfl),
    He.glo_ok X G (s.fact 8 (f := .glo "number_in") rfl),
    fdOf_ok (s.def_ 9 (d := d_read_letter) rfl),
    He.glo_ok X G (s.fact 9 (f := .glo "read_letter") rfl),
    fdOf_ok (s.def_ 10 (d := d_need) rfl),
    He.glo_ok X G (s.fact 10 (f := .glo "need") rfl),
    fdOf_ok (s.def_ 11 (d := d_name_in) rfl),
    He.glo_ok X G (s.fact 11 (f := .glo "name_in") rfl),
    fdOf_ok (s.def_ 12 (d := d_names_in) rfl),
    He.glo_ok X G (s.fact 12 (f := .glo "names_in") rfl),
    fdOf_ok (s.def_ 13 (d := d_key_in) rfl),
    He.glo_ok X G (s.fact 13 (f := .glo "key_in") rfl),
    fdOf_ok (s.def_ 14 (d := d_number_words) rfl),
    He.glo_ok X G (s.fact 14 (f := .glo "number_words") rfl),
    fdOf_ok (s.def_ 15 (d := d_clock_in) rfl),
    He.glo_ok X G (s.fact 15 (f := .glo "clock_in") rfl),
    fdOf_ok (s.def_ 16 (d := d_letter_in) rfl),
    He.glo_ok X G (s.fact 16 (f := .glo "letter_in") rfl),
    fdOf_ok (s.def_ 17 (d := d_words_of) rfl),
    He.glo_ok X G (s.fact 17 (f := .glo "words_of") rfl),
    fdOf_ok (s.def_ 18 (d := d_deed_text) rfl),
    He.glo_ok X G (s.fact 18 (f := .glo "deed_text") rfl),
    fdOf_ok (s.def_ 19 (d := d_read_name) rfl),
    He.glo_ok X G (s.fact 19 (f := .glo "read_name") rfl),
    fdOf_ok (s.def_ 20 (d := d_read_number) rfl),
    He.glo_ok X G (s.fact 20 (f := .glo "read_number") rfl),
    fdOf_ok (s.def_ 21 (d := d_read_clock) rfl),
    He.glo_ok X G (s.fact 21 (f := .glo "read_clock") rfl),
    fdOf_ok (s.def_ 22 (d := d_read_letter_of) rfl),
    He.glo_ok X G (s.fact 22 (f := .glo "read_letter_of") rfl),
    fdOf_ok (s.def_ 23 (d := d_read_claim) rfl),
    He.glo_ok X G (s.fact 23 (f := .glo "read_claim") rfl),
    fdOf_ok (s.def_ 24 (d := d_read_open) rfl),
    He.glo_ok X G (s.fact 24 (f := .glo "read_open") rfl),
    fdOf_ok (s.def_ 25 (d := d_read_cup) rfl),
    He.glo_ok X G (s.fact 25 (f := .glo "read_cup") rfl),
    fdOf_ok (s.def_ 26 (d := d_read_deed) rfl),
    He.glo_ok X G (s.fact 26 (f := .glo "read_deed") rfl),
    fdOf_ok (s.def_ 27 (d := d__law_begin) rfl),
    He.glo_ok X G (s.fact 27 (f := .glo "_law_begin") rfl),
    fdOf_ok (s.def_ 28 (d := d__law_pick) rfl),
    He.glo_ok X G (s.fact 28 (f := .glo "_law_pick") rfl),
    fdOf_ok (s.def_ 29 (d := d__law_names) rfl),
    He.glo_ok X G (s.fact 29 (f := .glo "_law_names") rfl),
    fdOf_ok (s.def_ 30 (d := d__law_key) rfl),
    He.glo_ok X G (s.fact 30 (f := .glo "_law_key") rfl),
    fdOf_ok (s.def_ 31 (d := d__law_count) rfl),
    He.glo_ok X G (s.fact 31 (f := .glo "_law_count") rfl),
    fdOf_ok (s.def_ 32 (d := d__law_letter) rfl),
    He.glo_ok X G (s.fact 32 (f := .glo "_law_letter") rfl),
    fdOf_ok (s.def_ 33 (d := d__law_letter_words) rfl),
    He.glo_ok X G (s.fact 33 (f := .glo "_law_letter_words") rfl),
    fdOf_ok (s.def_ 34 (d := d__law_clock) rfl),
    He.glo_ok X G (s.fact 34 (f := .glo "_law_clock") rfl),
    fdOf_ok (s.def_ 35 (d := d__law_house_deed) rfl),
    He.glo_ok X G (s.fact 35 (f := .glo "_law_house_deed") rfl),
    fdOf_ok (s.def_ 36 (d := d__law_words) rfl),
    He.glo_ok X G (s.fact 36 (f := .glo "_law_words") rfl),
    fdOf_ok (s.def_ 37 (d := d__law_name_is) rfl),
    He.glo_ok X G (s.fact 37 (f := .glo "_law_name_is") rfl),
    fdOf_ok (s.def_ 38 (d := d__law_number) rfl),
    He.glo_ok X G (s.fact 38 (f := .glo "_law_number") rfl),
    fdOf_ok (s.def_ 39 (d := d__law_read_letter) rfl),
    He.glo_ok X G (s.fact 39 (f := .glo "_law_read_letter") rfl),
    fdOf_ok (s.def_ 40 (d := d__law_read_clock) rfl),
    He.glo_ok X G (s.fact 40 (f := .glo "_law_read_clock") rfl),
    fdOf_ok (s.def_ 41 (d := d__law_names_of) rfl),
    He.glo_ok X G (s.fact 41 (f := .glo "_law_names_of") rfl),
    fdOf_ok (s.def_ 42 (d := d__law_read_claim) rfl),
    He.glo_ok X G (s.fact 42 (f := .glo "_law_read_claim") rfl),
    fdOf_ok (s.def_ 43 (d := d__law_read_short) rfl),
    He.glo_ok X G (s.fact 43 (f := .glo "_law_read_short") rfl),
    fdOf_ok (s.def_ 44 (d := d__law_read) rfl),
    He.glo_ok X G (s.fact 44 (f := .glo "_law_read") rfl),
    fdOf_ok (s.def_ 45 (d := d__law_spoilt) rfl),
    He.glo_ok X G (s.fact 45 (f := .glo "_law_spoilt") rfl),
    fdOf_ok (s.def_ 46 (d := d__law_take) rfl),
    He.glo_ok X G (s.fact 46 (f := .glo "_law_take") rfl),
    fdOf_ok (s.def_ 47 (d := d__law_told) rfl),
    He.glo_ok X G (s.fact 47 (f := .glo "_law_told") rfl),
    fdOf_ok (s.def_ 48 (d := d_law) rfl),
    He.glo_ok X G (s.fact 48 (f := .glo "law") rfl),
    He.int_ok X G (s.fact 49 (f := .int "CLOCK_PARTS" 6) rfl),
    He.str_ok X G (s.fact 50 (f := .str "FIGURES" "0123456789") rfl),
    He.int_ok X G (s.fact 51 (f := .int "LAST_PLAYER" 3) rfl),
    He.str_ok X G (s.fact 52 (f := .str "LETTERS" "abcdefghijklmnopqrstuvwxyz") rfl),
    He.int_ok X G (s.fact 53 (f := .int "LONGEST" 8) rfl),
    He.int_ok X G (s.fact 54 (f := .int "LONGEST_KEY" 20) rfl),
    He.int_ok X G (s.fact 55 (f := .int "MOST_FIGURES" 40) rfl),
    He.int_ok X G (s.fact 56 (f := .int "MOST_MARK" 1000000000000000000000000000000) rfl),
    He.int_ok X G (s.fact 57 (f := .int "MOST_PLACE" 99) rfl),
    He.glo_ok X G (s.fact 58 (f := .glo "SIZES") rfl),
    tabB_ok (ex_at c 0) (c.t.tab 0 (t := t_SIZES) rfl),
    He.exm_ok (s.fact 59 (f := .exm "NoLetter" "NoLetter" true) rfl),
    He.free_ok X G (s.fact 60 (f := .free "abs") rfl),
    He.free_ok X G (s.fact 61 (f := .free "all") rfl),
    He.free_ok X G (s.fact 62 (f := .free "bool") rfl),
    He.free_ok X G (s.fact 63 (f := .free "enumerate") rfl),
    He.free_ok X G (s.fact 64 (f := .free "int") rfl),
    He.free_ok X G (s.fact 65 (f := .free "isinstance") rfl),
    He.free_ok X G (s.fact 66 (f := .free "len") rfl),
    He.free_ok X G (s.fact 67 (f := .free "list") rfl),
    He.free_ok X G (s.fact 68 (f := .free "max") rfl),
    He.free_ok X G (s.fact 69 (f := .free "min") rfl),
    He.free_ok X G (s.fact 70 (f := .free "range") rfl),
    He.free_ok X G (s.fact 71 (f := .free "repr") rfl),
    He.free_ok X G (s.fact 72 (f := .free "str") rfl),
    He.free_ok X G (s.fact 73 (f := .free "tuple") rfl),
    He.glo_ok X G (s.fact 74 (f := .glo "NoDeed") rfl),
    He.glo_ok X G (s.fact 75 (f := .glo "NoLetter") rfl),
    (He.exc_ok (s.fact 76 (f := .exc "NoLetter") rfl)).1,
    (He.exc_ok (s.fact 76 (f := .exc "NoLetter") rfl)).2.1,
    (He.exc_ok (s.fact 76 (f := .exc "NoLetter") rfl)).2.2.1,
    (He.exc_ok (s.fact 76 (f := .exc "NoLetter") rfl)).2.2.2,
    He.glo_ok X G (s.fact 77 (f := .glo "NoName") rfl),
    He.glo_ok X G (s.fact 78 (f := .glo "NoText") rfl),
    oexB_ok (ex_at c 1),
    He.noat_ok (s.fact 79 (f := .noat "NoText" "row") rfl),
    (He.meth_ok (s.fact 80 (f := .meth "NoText" "__init__") rfl)).1,
    beq_iff_eq.mp (He.meth_ok (s.fact 80 (f := .meth "NoText" "__init__") rfl)).2,
    fdOf_ok (s.def_ 49 (d := d_NoText) rfl),
    He.glo_ok X G (s.fact 81 (f := .glo "SteadError") rfl),
    (excB_ok (ex_at c 2)).1,
    (excB_ok (ex_at c 2)).2,
    He.exm_ok (s.fact 82 (f := .exm "NoText" "SteadError" true) rfl),
    of_decide_eq_true (ex_at c 3),
    of_decide_eq_true (ex_at c 4),
    of_decide_eq_true (ex_at c 5),
    of_decide_eq_true (ex_at c 6)⟩
end
end K87
set_option Elab.async false
set_option linter.all false
set_option maxRecDepth 100000
set_option maxHeartbeats 1000000
namespace DW
open PySem
abbrev L26 : Str := "abcdefghijklmnopqrstuvwxyz"
abbrev F10 : Str := "0123456789"
def isLet (c : Nat) : Bool := decide (c ∈ L26.cps.toList)
def isFig (c : Nat) : Bool := decide (c ∈ F10.cps.toList)
def wordOk (m : Int) (z : Str) : Bool := decide ((1 : Int) ≤ (z.length : Int)) && (decide ((z.length : Int) ≤ m) && z.cps.toList.all isLet)
def isName : PyData → Bool
  | .str z => wordOk 8 z
  | _ => false
def isKey : PyData → Bool
  | .str z => wordOk 20 z
  | _ => false
def isNum : PyData → Int → Option Int → Bool
  | .int i, lo, hi => !decide (i < lo) && (match hi with | none => true | some h => decide (i ≤ h))
  | _, _, _ => false
def optI : Option Int → PyData
  | none => .none
  | some h => .int h
def isRow : PyData → Int → Int → Bool
  | .list xs, lo, hi => isNum (.int xs.length) lo (some hi)
  | .tuple xs, lo, hi => isNum (.int xs.length) lo (some hi)
  | _, _, _ => false
def isDeed : PyData → Bool
  | .tuple (.str z :: r) => if z == "move" then (match r with | [x] => isName x | _ => false) else (z == "give" || z == "even") && r.isEmpty
  | _ => false
def M30 : Int := 1000000000000000000000000000000
def isLetter : PyData → Bool
  | .tuple [.str w, game, player, place, ahead, seen, mark, deed, stamp, sl] =>
    w == "letter" && (isName game && isNum player 0 (some 3) && isNum place 1 (some 99)) && (isNum seen 0 none && isNum stamp 0 none && isDeed deed) && (isNum ahead 0 (some M30) && isNum mark 0 (some M30) && isNum sl 0 (some M30))
  | _ => false
/-- str(x) of an int, a text -/
def strD : PyData → Str
  | .int i => toString i
  | .str z => z
  | _ => ""
inductive Dd where
  | move (n : Str)
  | give
  | even
def Dd.data : Dd → PyData
  | .move n => .tuple [.str "move", .str n]
  | .give => .tuple [.str "give"]
  | .even => .tuple [.str "even"]
def Dd.words : Dd → List Str
  | .move n => ["move", n]
  | .give => ["give"]
  | .even => ["even"]
def Dd.ok : Dd → Prop
  | .move n => wordOk 8 n = true
  | _ => True
structure Lt where
  g : Str
  p : Int
  pl : Int
  a : Int
  s : Int
  m : Int
  d : Dd
  st : Int
  se : Int
def Lt.data (l : Lt) : PyData := .tuple [.str "letter", .str l.g, .int l.p, .int l.pl, .int l.a, .int l.s, .int l.m, l.d.data, .int l.st, .int l.se]
structure Lt.ok (l : Lt) : Prop where
  g : wordOk 8 l.g = true
  p0 : 0 ≤ l.p
  p1 : l.p ≤ 3
  l0 : 1 ≤ l.pl
  l1 : l.pl ≤ 99
  a0 : 0 ≤ l.a
  a1 : l.a ≤ M30
  s0 : 0 ≤ l.s
  m0 : 0 ≤ l.m
  m1 : l.m ≤ M30
  d : l.d.ok
  t0 : 0 ≤ l.st
  e0 : 0 ≤ l.se
  e1 : l.se ≤ M30
def strI (i : Int) : Str := toString i
def Lt.ws (l : Lt) : List Str := [l.g, strI l.p, strI l.pl, strI l.a, strI l.s, strI l.m] ++ l.d.words ++ [strI l.st]
def Lt.plain (l : Lt) : Str := Txt.join " " l.ws
def Lt.text (l : Lt) : Str := l.plain ++ " " ++ strI l.se
theorem isNum_inv {d : PyData} {lo : Int} {hi : Option Int} (h : isNum d lo hi = true) : ∃ i, d = .int i ∧ lo ≤ i ∧ ∀ j, hi = some j → i ≤ j := by
  cases d with
  | int i =>
    simp only [isNum, Bool.and_eq_true, Bool.not_eq_true', decide_eq_false_iff_not] at h
    refine ⟨i, rfl, by omega, fun j e => ?_⟩
    subst e
    simpa using h.2
  | _ => cases h
theorem isName_inv {d : PyData} (h : isName d = true) : ∃ z, d = .str z ∧ wordOk 8 z = true := by
  cases d with
  | str z => exact ⟨z, rfl, h⟩
  | _ => cases h
theorem isDeed_inv {d : PyData} (h : isDeed d = true) : ∃ x : Dd, d = x.data ∧ x.ok := by
  unfold isDeed at h
  split at h
  · rename_i z r
    split at h
    · rename_i e
      have e := eq_of_beq e
      subst e
      split at h
      · rename_i x
        obtain ⟨n, rfl, hn⟩ := isName_inv h
        exact ⟨.move n, rfl, hn⟩
      · cases h
    · rw [Bool.and_eq_true, Bool.or_eq_true] at h
      have er := List.isEmpty_iff.mp h.2
      subst er
      rcases h.1 with e | e
      · have e := eq_of_beq e
        subst e
        exact ⟨.give, rfl, trivial⟩
      · have e := eq_of_beq e
        subst e
        exact ⟨.even, rfl, trivial⟩
  · cases h
theorem letter_inv {d : PyData} (h : isLetter d = true) : ∃ l : Lt, d = l.data ∧ l.ok := by
  unfold isLetter at h
  split at h
  · rename_i w game player place ahead seen mark deed stamp sl
    simp only [Bool.and_eq_true] at h
    obtain ⟨⟨⟨h0, ⟨h1, h2⟩, h3⟩, ⟨h4, h5⟩, h6⟩, ⟨h7, h8⟩, h9⟩ := h
    have e := eq_of_beq h0
    subst e
    obtain ⟨g, rfl, hg⟩ := isName_inv h1
    obtain ⟨p, rfl, p0, p1⟩ := isNum_inv h2
    obtain ⟨q, rfl, q0, q1⟩ := isNum_inv h3
    obtain ⟨s, rfl, s0, s1⟩ := isNum_inv h4
    obtain ⟨t, rfl, t0, t1⟩ := isNum_inv h5
    obtain ⟨x, rfl, hx⟩ := isDeed_inv h6
    obtain ⟨a, rfl, a0, a1⟩ := isNum_inv h7
    obtain ⟨m, rfl, m0, m1⟩ := isNum_inv h8
    obtain ⟨e, rfl, e0, e1⟩ := isNum_inv h9
    exact ⟨⟨g, p, q, a, s, m, x, t, e⟩, rfl, hg, p0, p1 _ rfl, q0, q1 _ rfl, a0, a1 _ rfl, s0, m0, m1 _ rfl, hx, t0, e0, e1 _ rfl⟩
  · cases h
/-- of letters: the text of what is one -/
def letterText (d : PyData) : Str := match d with
  | .tuple [_, .str g, .int p, .int pl, .int a, .int s, .int m, .tuple dd, .int st, .int se] => Txt.join " " ([g, strI p, strI pl, strI a, strI s, strI m] ++ dd.map strD ++ [strI st]) ++ " " ++ strI se
  | _ => ""
theorem letterText_data (l : Lt) : letterText l.data = l.text := by
  obtain ⟨g, p, pl, a, s, m, d, st, se⟩ := l
  cases d <;> rfl
/-! ### what fits the machine -/
mutual
def fit : PyData → Bool
  | .str z => decide (z.length ≤ 100000) && PyData.strOk z
  | .int i => decide (i.natAbs < 10 ^ 60)
  | .list xs => decide (xs.length ≤ 100000) && fitAll xs
  | .tuple xs => decide (xs.length ≤ 100000) && fitAll xs
  | _ => true
def fitAll : List PyData → Bool
  | [] => true
  | x :: xs => fit x && fitAll xs
end
theorem fitAll_mem : ∀ {xs : List PyData} {x : PyData}, fitAll xs = true → x ∈ xs → fit x = true
  | y :: ys, x, h, hx => by
    simp only [fitAll, Bool.and_eq_true] at h
    rcases List.mem_cons.mp hx with rfl | hx
    · exact h.1
    · exact fitAll_mem h.2 hx
theorem strI_len {i : Int} (h0 : 0 ≤ i) (h1 : i.natAbs < 10 ^ 60) : (strI i).length ≤ 60 := by
  obtain ⟨n, rfl⟩ := Int.eq_ofNat_of_zero_le h0
  have e : (strI (n : Int)).length = (TL.numL n).length := by
    show (Str.ofString (toString ((n : Nat) : Int))).length = _
    rw [← TL.tl_num n]
    exact TL.len_tl _
  rw [e]
  exact TL.numL_len (by decide) (by simpa using h1)
theorem log2_lt {i : Int} (h : i.natAbs < 10 ^ 60) : i.natAbs.log2 < 1920 := by
  by_cases z : i.natAbs = 0
  · rw [z]; decide
  · have := (Nat.log2_lt z (k := 200)).mpr (Nat.lt_of_lt_of_le h (by decide))
    omega
def numIn (z : Str) : Option Int :=
  if (decide ((1 : Int) ≤ (z.length : Int)) && (decide ((z.length : Int) ≤ 40) && z.cps.toList.all isFig)) then (if Txt.startswith z "0" && !(z == "0") then none else intText? z) else none
/-! ### what deed_text answers: the words, or a refusal -/
def nameIn (d : PyData) : Option (List Str) := if isName d then some [strD d] else none
def keyIn (d : PyData) : Option (List Str) := if isKey d then some [strD d] else none
def numW (d : PyData) : Option (List Str) := if isNum d 0 none then some [strD d] else none
def itemsD : PyData → List PyData
  | .list xs => xs
  | .tuple xs => xs
  | _ => []
def namesIn (d : PyData) : Option (List Str) := if isRow d 0 100 && (itemsD d).all isName then some ((itemsD d).map strD) else none
def seqO : List (Option (List Str)) → Option (List Str)
  | [] => some []
  | none :: _ => none
  | some a :: r => match seqO r with
    | some b => some (a ++ b)
    | none => none
def clockIn : PyData → Option (List Str)
  | .tuple [a, b, c, d, e, f] => seqO [numW a, numW b, nameIn c, numW d, numW e, numW f]
  | _ => none
def letterIn (d : PyData) : Option (List Str) := if isLetter d then some (Txt.split (letterText d) " ") else none
def wordsOf (w : Str) (ps : List PyData) : Option (List Str) :=
  let p := fun i => ps.getD i .none
  if w == "member" then seqO [nameIn (p 0), keyIn (p 1)]
  else if w == "open" then seqO [nameIn (p 0), nameIn (p 1), namesIn (p 2), clockIn (p 3)]
  else if w == "hear" then letterIn (p 0)
  else if w == "tick" then numW (p 0)
  else if w == "claim" then seqO [letterIn (p 0), some ["/"], letterIn (p 1)]
  else if w == "cup" then seqO [nameIn (p 0), numW (p 2), nameIn (p 3), clockIn (p 4), namesIn (p 1)]
  else if w == "day" then some []
  else nameIn (p 0)
def sizes : List (Str × Int) := [("member", 3), ("open", 5), ("hear", 2), ("tick", 2), ("day", 1), ("claim", 3), ("cup", 6), ("round", 2)]
def deedText : PyData → Option Str
  | .tuple (.str w :: ps) =>
    if (sizes.lookup w).getD 0 == (ps.length : Int) + 1 then
      if !(w == "tick") || isNum (ps.getD 0 .none) 1 (some 10000) then (wordsOf w ps).map fun ws => Txt.join " " (w :: ws) else none
    else none
  | _ => none
/-! ### what read_deed answers -/
def sd (ws : List Str) : List PyData := ws.map .str
def readLetter (z : Str) : Option PyData :=
  match Txt.split z " " with
  | [] => none
  | game :: rest =>
    if rest.length < 8 then none else
      let ns := (PD.cut rest none (some 5) ++ PD.cut rest (some (-2)) none).map fun w => optI (numIn w)
      let found := PyData.tuple ([.str "letter", .str game] ++ PD.cut ns none (some 5) ++ [.tuple (sd (PD.cut rest (some 5) (some (-2))))] ++ PD.cut ns (some 5) none)
      if isLetter found then some found else none
def readName (w : Str) : Option PyData := if wordOk 8 w then some (.str w) else none
def readNum (w : Str) : Option PyData := (numIn w).map .int
def allO : List (Option PyData) → Option (List PyData)
  | [] => some []
  | none :: _ => none
  | some a :: r => (allO r).map (a :: ·)
def readClock : List Str → Option PyData
  | [a, b, c, d, e, f] => (allO [readNum a, readNum b, readName c, readNum d, readNum e, readNum f]).map .tuple
  | _ => none
def readLetterOf (ws : List Str) : Option PyData := readLetter (Txt.join " " ws)
def idx (x : Str) : List Str → Option Nat
  | [] => none
  | y :: r => if y == x then some 0 else (idx x r).map (· + 1)
def tupO (w : Str) (l : List (Option PyData)) : Option PyData := (allO l).map fun xs => .tuple (.str w :: xs)
def readClaim (ws : List Str) : Option PyData := match idx "/" ws with
  | none => none
  | some k => tupO "claim" [readLetterOf (ws.take k), readLetterOf (ws.drop (k + 1))]
def readNames (ws : List Str) : Option PyData := (allO (ws.map readName)).map .tuple
def at_ (ws : List Str) (i : Nat) : Str := ws.getD i ""
def readOpen (ws : List Str) : Option PyData :=
  if ws.length < 8 then none else tupO "open" [readName (at_ ws 0), readName (at_ ws 1), readNames (PD.cut ws (some 2) (some (-6))), readClock (PD.cut ws (some (-6)) none)]
def readCup (ws : List Str) : Option PyData :=
  if ws.length < 9 then none else tupO "cup" [readName (at_ ws 0), readNames (PD.cut ws (some 9) none), readNum (at_ ws 1), readName (at_ ws 2), readClock (PD.cut ws (some 3) (some 9))]
def readWords (w : Str) (ws : List Str) : Option PyData :=
  if w == "open" then readOpen ws
  else if w == "cup" then readCup ws
  else if w == "claim" then readClaim ws
  else if w == "hear" then tupO "hear" [readLetterOf ws]
  else if w == "member" then (if ws.length = 2 ∧ wordOk 20 (at_ ws 1) = true then tupO "member" [readName (at_ ws 0), some (.str (at_ ws 1))] else none)
  else if w == "tick" then (if ws.length = 1 then tupO "tick" [readNum (at_ ws 0)] else none)
  else if w == "day" then (if ws.length = 0 then some (.tuple [.str "day"]) else none)
  else if w == "round" then (if ws.length = 1 then tupO "round" [readName (at_ ws 0)] else none)
  else none
def readDeed : PyData → Option PyData
  | .str z => match Txt.split z " " with
    | w :: ws => readWords w ws
    | [] => none
  | _ => none
end DW
set_option Elab.async false
set_option linter.all false
set_option maxRecDepth 100000
set_option maxHeartbeats 1000000
namespace DW
open PySem
/-! what is written is read back; no program in it -/
theorem split_join {ws : List Str} (hne : ws ≠ []) (h : ∀ w ∈ ws, 32 ∉ TL.tl w) : Txt.split (Txt.join " " ws) " " = ws := by
  refine TL.map_tl_inj ?_
  rw [TL.split_spl _ _ (by decide +kernel) (TL.kind_ok (by decide +kernel)), TL.join_eq, TL.tl_join]
  refine TL.spl_join (s := 32) (S := []) (by simpa using hne) fun p hp => ?_
  obtain ⟨w, hw, rfl⟩ := List.mem_map.mp hp
  exact h w hw
theorem let_ne {c : Nat} (h : isLet c = true) : c ≠ 32 := by
  rintro rfl
  exact absurd h (by decide +kernel)
theorem word_free {m : Int} {z : Str} (h : wordOk m z = true) : 32 ∉ TL.tl z := fun hm => by
  simp only [wordOk, Bool.and_eq_true] at h
  exact let_ne (List.all_eq_true.mp h.2.2 32 hm) rfl
theorem strI_tl (n : Nat) : TL.tl (strI (n : Int)) = TL.numL n := TL.tl_num n
theorem strI_free {i : Int} (h : 0 ≤ i) : 32 ∉ TL.tl (strI i) := by
  obtain ⟨n, rfl⟩ := Int.eq_ofNat_of_zero_le h
  rw [strI_tl]
  exact TL.numL_free (by omega)
theorem numL_head : ∀ n : Nat, 0 < n → ∃ c r, TL.numL n = c :: r ∧ c ≠ 48 := fun n => by
  induction n using Nat.strongRecOn with
  | _ n ih =>
    intro h
    by_cases h1 : n < 10
    · exact ⟨48 + n, [], TL.numL_lt h1, by omega⟩
    · obtain ⟨c, r, e, hc⟩ := ih (n / 10) (by omega) (by omega)
      exact ⟨c, r ++ [48 + n % 10], by rw [TL.numL_step (by omega), e]; rfl, hc⟩
theorem fig_of : ∀ c : Nat, 48 ≤ c ∧ c ≤ 57 → isFig c = true := fun c h => by
  have k : ∀ j < 10, isFig (48 + j) = true := by decide +kernel
  have := k (c - 48) (by omega)
  rwa [show 48 + (c - 48) = c by omega] at this
theorem starts_head {z : Str} (h : Txt.startswith z "0" = true) : ∃ r, TL.tl z = 48 :: r := by
  unfold Txt.startswith at h
  rw [Bool.and_eq_true] at h
  have h2 := h.2
  rw [StrLaws.subAt_eq] at h2
  have e : (z.cps.toList.drop 0).take (Str.ofString "0").length = (Str.ofString "0").cps.toList := eq_of_beq h2
  have e1 : (Str.ofString "0").cps.toList = [48] := by decide +kernel
  have e2 : (Str.ofString "0").length = 1 := by decide +kernel
  rw [e1, e2, List.drop_zero] at e
  show ∃ r, z.cps.toList = 48 :: r
  cases hz : z.cps.toList with
  | nil => rw [hz] at e; cases e
  | cons c r =>
    rw [hz] at e
    simp at e
    exact ⟨r, by rw [e]⟩
theorem numIn_strI {i : Int} (h0 : 0 ≤ i) (h1 : i < 10 ^ 40) : numIn (strI i) = some i := by
  obtain ⟨n, rfl⟩ := Int.eq_ofNat_of_zero_le h0
  have hn : n < 10 ^ 40 := by omega
  have hl := TL.numL_len (k := 40) (by decide) hn
  have hne := TL.numL_ne n
  have el : (strI (n : Int)).length = (TL.numL n).length := by rw [TL.len_tl, strI_tl]
  have ef : (strI (n : Int)).cps.toList.all isFig = true := by
    rw [show (strI (n : Int)).cps.toList = TL.numL n from strI_tl n, List.all_eq_true]
    exact fun c hc => fig_of c (TL.numL_digits n c hc)
  have lp : 0 < (TL.numL n).length := List.length_pos_iff.mpr hne
  unfold numIn
  rw [if_pos (by rw [el, ef, decide_eq_true (by omega), decide_eq_true (by omega)]; rfl)]
  have e2 : intText? (strI (n : Int)) = some (n : Int) := TL.int_num (by omega)
  rw [e2, if_neg]
  intro hz
  rw [Bool.and_eq_true] at hz
  obtain ⟨r, e3⟩ := starts_head hz.1
  rw [strI_tl] at e3
  by_cases z : n = 0
  · subst z
    exact absurd hz.2 (by decide +kernel)
  · obtain ⟨c, r2, e4, hc⟩ := numL_head n (by omega)
    rw [e4] at e3
    cases e3
    exact hc rfl
theorem isNum_of {i lo : Int} {hi : Option Int} (h0 : lo ≤ i) (h1 : ∀ j, hi = some j → i ≤ j) : isNum (.int i) lo hi = true := by
  simp only [isNum, Bool.and_eq_true, Bool.not_eq_true', decide_eq_false_iff_not]
  refine ⟨by omega, ?_⟩
  cases hi with
  | none => rfl
  | some j => exact decide_eq_true (h1 j rfl)
theorem dd_data {d : Dd} (h : d.ok) : isDeed d.data = true := by
  cases d with
  | move n => exact h
  | give => decide +kernel
  | even => decide +kernel
theorem lt_data {l : Lt} (h : l.ok) : isLetter l.data = true := by
  obtain ⟨g, p, pl, a, s, m, d, st, se⟩ := l
  obtain ⟨h1, h2, h3, h4, h5, h6, h7, h8, h9, h10, h11, h12, h13, h14⟩ := h
  show ((("letter" : Str) == "letter") && (isName (.str g) && isNum (.int p) 0 (some 3) && isNum (.int pl) 1 (some 99)) && (isNum (.int s) 0 none && isNum (.int st) 0 none && isDeed d.data) && (isNum (.int a) 0 (some M30) && isNum (.int m) 0 (some M30) && isNum (.int se) 0 (some M30))) = true
  rw [show isName (.str g) = true from h1, isNum_of h2 (fun j e => by cases e; exact h3), isNum_of h4 (fun j e => by cases e; exact h5), isNum_of h8 (fun j e => by cases e), isNum_of h12 (fun j e => by cases e), dd_data h11, isNum_of h6 (fun j e => by cases e; exact h7), isNum_of h9 (fun j e => by cases e; exact h10), isNum_of h13 (fun j e => by cases e; exact h14)]
  rfl
def Lt.all (l : Lt) : List Str := l.ws ++ [strI l.se]
theorem dd_free {d : Dd} (h : d.ok) : ∀ w ∈ d.words, 32 ∉ TL.tl w := fun w hw => by
  cases d with
  | move n =>
    simp only [Dd.words, List.mem_cons, List.not_mem_nil, or_false] at hw
    rcases hw with rfl | rfl
    · decide +kernel
    · exact word_free h
  | give =>
    rw [List.mem_singleton.mp hw]; decide +kernel
  | even =>
    rw [List.mem_singleton.mp hw]; decide +kernel
theorem lt_free {l : Lt} (h : l.ok) : ∀ w ∈ l.all, 32 ∉ TL.tl w := fun w hw => by
  simp only [Lt.all, Lt.ws, List.mem_append, List.mem_cons, List.not_mem_nil, or_false] at hw
  rcases hw with (((rfl | rfl | rfl | rfl | rfl | rfl) | hw) | rfl) | rfl
  · exact word_free h.g
  · exact strI_free h.p0
  · exact strI_free (by have := h.l0; omega)
  · exact strI_free h.a0
  · exact strI_free h.s0
  · exact strI_free h.m0
  · exact dd_free h.d w hw
  · exact strI_free h.t0
  · exact strI_free h.e0
theorem all_ne (l : Lt) : l.all ≠ [] := by unfold Lt.all; simp
theorem readLetter_all {l : Lt} (h : l.ok) (hs : l.s < 10 ^ 40) (ht : l.st < 10 ^ 40) : readLetter (Txt.join " " l.all) = some l.data := by
  have sp := split_join (all_ne l) (lt_free h)
  have m : M30 < 10 ^ 40 := by decide
  have gL := lt_data h
  obtain ⟨k1, k2, k3, k4, k5, k6, k7, k8, k9, k10, k11, k12, k13, k14⟩ := h
  have n1 := numIn_strI k2 (by omega)
  have n2 := numIn_strI (i := l.pl) (by omega) (by omega)
  have n3 := numIn_strI k6 (by omega)
  have n4 := numIn_strI k8 hs
  have n5 := numIn_strI k9 (by omega)
  have n6 := numIn_strI k12 ht
  have n7 := numIn_strI k13 (by omega)
  unfold readLetter
  rw [sp]
  obtain ⟨g, p, pl, a, s, m, d, st, se⟩ := l
  cases d with
  | move n =>
    show (if (8 : Nat) + 1 < 8 then none else if isLetter (.tuple [.str "letter", .str g, optI (numIn (strI p)), optI (numIn (strI pl)), optI (numIn (strI a)), optI (numIn (strI s)), optI (numIn (strI m)), .tuple [.str "move", .str n], optI (numIn (strI st)), optI (numIn (strI se))]) = true then some (PyData.tuple [.str "letter", .str g, optI (numIn (strI p)), optI (numIn (strI pl)), optI (numIn (strI a)), optI (numIn (strI s)), optI (numIn (strI m)), .tuple [.str "move", .str n], optI (numIn (strI st)), optI (numIn (strI se))]) else none) = _
    rw [if_neg (by decide), n1, n2, n3, n4, n5, n6, n7]
    exact if_pos gL
  | give =>
    show (if (8 : Nat) < 8 then none else if isLetter (.tuple [.str "letter", .str g, optI (numIn (strI p)), optI (numIn (strI pl)), optI (numIn (strI a)), optI (numIn (strI s)), optI (numIn (strI m)), .tuple [.str "give"], optI (numIn (strI st)), optI (numIn (strI se))]) = true then some (PyData.tuple [.str "letter", .str g, optI (numIn (strI p)), optI (numIn (strI pl)), optI (numIn (strI a)), optI (numIn (strI s)), optI (numIn (strI m)), .tuple [.str "give"], optI (numIn (strI st)), optI (numIn (strI se))]) else none) = _
    rw [if_neg (by decide), n1, n2, n3, n4, n5, n6, n7]
    exact if_pos gL
  | even =>
    show (if (8 : Nat) < 8 then none else if isLetter (.tuple [.str "letter", .str g, optI (numIn (strI p)), optI (numIn (strI pl)), optI (numIn (strI a)), optI (numIn (strI s)), optI (numIn (strI m)), .tuple [.str "even"], optI (numIn (strI st)), optI (numIn (strI se))]) = true then some (PyData.tuple [.str "letter", .str g, optI (numIn (strI p)), optI (numIn (strI pl)), optI (numIn (strI a)), optI (numIn (strI s)), optI (numIn (strI m)), .tuple [.str "even"], optI (numIn (strI st)), optI (numIn (strI se))]) else none) = _
    rw [if_neg (by decide), n1, n2, n3, n4, n5, n6, n7]
    exact if_pos gL
/-! the parts of a deed's row -/
theorem nameIn_ok {z : Str} (h : wordOk 8 z = true) : nameIn (.str z) = some [z] := by
  unfold nameIn
  exact if_pos h
theorem keyIn_ok {z : Str} (h : wordOk 20 z = true) : keyIn (.str z) = some [z] := by
  unfold keyIn
  exact if_pos h
theorem numW_ok {i : Int} (h : 0 ≤ i) : numW (.int i) = some [strI i] := by
  unfold numW
  exact if_pos (isNum_of h fun j e => by cases e)
theorem strD_sd (ns : List Str) : (sd ns).map strD = ns := by
  unfold sd
  rw [List.map_map]
  exact List.map_id'' (fun _ => rfl) ns
theorem all_sd {ns : List Str} (h : ∀ w ∈ ns, wordOk 8 w = true) : (sd ns).all isName = true := by
  rw [List.all_eq_true]
  intro x hx
  obtain ⟨w, hw, rfl⟩ := List.mem_map.mp hx
  exact h w hw
theorem isRow_of {xs : List PyData} {hi : Int} (h : (xs.length : Int) ≤ hi) : isNum (.int xs.length) 0 (some hi) = true := isNum_of (by omega) fun j e => by cases e; exact h
theorem namesIn_tup {ns : List Str} (hl : ns.length ≤ 100) (h : ∀ w ∈ ns, wordOk 8 w = true) : namesIn (.tuple (sd ns)) = some ns := by
  unfold namesIn
  rw [if_pos, show itemsD (.tuple (sd ns)) = sd ns from rfl, strD_sd]
  rw [show itemsD (.tuple (sd ns)) = sd ns from rfl, all_sd h, Bool.and_true]
  exact isRow_of (by unfold sd; rw [List.length_map]; omega)
theorem namesIn_lst {ns : List Str} (hl : ns.length ≤ 100) (h : ∀ w ∈ ns, wordOk 8 w = true) : namesIn (.list (sd ns)) = some ns := by
  unfold namesIn
  rw [if_pos, show itemsD (.list (sd ns)) = sd ns from rfl, strD_sd]
  rw [show itemsD (.list (sd ns)) = sd ns from rfl, all_sd h, Bool.and_true]
  exact isRow_of (by unfold sd; rw [List.length_map]; omega)
theorem readName_ok {z : Str} (h : wordOk 8 z = true) : readName z = some (.str z) := by
  unfold readName
  exact if_pos h
theorem readNum_ok {i : Int} (h0 : 0 ≤ i) (h1 : i < 10 ^ 40) : readNum (strI i) = some (.int i) := by
  unfold readNum
  rw [numIn_strI h0 h1]
  rfl
theorem readNames_ok : ∀ {ns : List Str}, (∀ w ∈ ns, wordOk 8 w = true) → allO (ns.map readName) = some (sd ns)
  | [], _ => rfl
  | a :: r, h => by
    show allO (readName a :: r.map readName) = _
    rw [readName_ok (h a List.mem_cons_self)]
    show (allO (r.map readName)).map _ = _
    rw [readNames_ok fun w hw => h w (List.mem_cons_of_mem _ hw)]
    rfl
theorem idx_at {x : Str} : ∀ {ws : List Str} {r : List Str}, (∀ w ∈ ws, (w == x) = false) → idx x (ws ++ x :: r) = some ws.length
  | [], r, _ => by
    show (if x == x then some 0 else _) = _
    rw [if_pos (beq_self_eq_true x)]
    rfl
  | a :: ws, r, h => by
    show (if a == x then some 0 else (idx x (ws ++ x :: r)).map (· + 1)) = _
    rw [if_neg (by rw [h a List.mem_cons_self]; decide), idx_at fun w hw => h w (List.mem_cons_of_mem _ hw)]
    rfl
theorem strI_ne {i : Int} (h : 0 ≤ i) {z : Str} (hz : 47 ∈ TL.tl z) : (strI i == z) = false := by
  rw [beq_eq_false_iff_ne]
  rintro rfl
  obtain ⟨n, rfl⟩ := Int.eq_ofNat_of_zero_le h
  rw [strI_tl] at hz
  exact TL.numL_free (by omega) hz
theorem word_ne {m : Int} {x z : Str} (h : wordOk m x = true) (hz : 47 ∈ TL.tl z) : (x == z) = false := by
  rw [beq_eq_false_iff_ne]
  rintro rfl
  simp only [wordOk, Bool.and_eq_true] at h
  exact absurd (List.all_eq_true.mp h.2.2 47 hz) (by decide +kernel)
theorem lt_noSlash {l : Lt} (h : l.ok) : ∀ w ∈ l.all, (w == ("/" : Str)) = false := fun w hw => by
  have hz : 47 ∈ TL.tl ("/" : Str) := by decide +kernel
  simp only [Lt.all, Lt.ws, List.mem_append, List.mem_cons, List.not_mem_nil, or_false] at hw
  rcases hw with (((rfl | rfl | rfl | rfl | rfl | rfl) | hw) | rfl) | rfl
  · exact word_ne h.g hz
  · exact strI_ne h.p0 hz
  · exact strI_ne (by have := h.l0; omega) hz
  · exact strI_ne h.a0 hz
  · exact strI_ne h.s0 hz
  · exact strI_ne h.m0 hz
  · obtain ⟨g, p, pl, a, s, m, d, st, se⟩ := l
    have hd := h.d
    cases d with
    | move n =>
      simp only [Dd.words, List.mem_cons, List.not_mem_nil, or_false] at hw
      rcases hw with rfl | rfl
      · decide +kernel
      · exact word_ne (show wordOk 8 _ = true from hd) hz
    | give => rw [List.mem_singleton.mp hw]; decide +kernel
    | even => rw [List.mem_singleton.mp hw]; decide +kernel
  · exact strI_ne h.t0 hz
  · exact strI_ne h.e0 hz
end DW
set_option Elab.async false
set_option linter.all false
set_option maxRecDepth 100000
set_option maxHeartbeats 1000000
namespace DW
open PySem
/-! what is read is written again; no program in it -/
theorem fig_inv {c : Nat} (h : isFig c = true) : 48 ≤ c ∧ c ≤ 57 := by
  have e : F10.cps.toList = [48, 49, 50, 51, 52, 53, 54, 55, 56, 57] := by decide +kernel
  have m : c ∈ F10.cps.toList := of_decide_eq_true h
  rw [e] at m
  simp only [List.mem_cons, List.not_mem_nil, or_false] at m
  omega
theorem val_snoc (cs : List Nat) (c : Nat) : NumText.digitsVal (cs ++ [c]) = NumText.digitsVal cs * 10 + (c - 48) := by
  unfold NumText.digitsVal
  rw [List.foldl_append]
  rfl
theorem val_lt : ∀ (cs : List Nat) (acc : Nat), NumText.AllDigits cs → cs.foldl (fun acc c => acc * 10 + (c - 48)) acc < (acc + 1) * 10 ^ cs.length
  | [], acc, _ => by simp
  | c :: cs, acc, h => by
    have hc := h c List.mem_cons_self
    have ih := val_lt cs (acc * 10 + (c - 48)) h.tail
    rw [List.foldl_cons, List.length_cons, Nat.pow_succ]
    refine Nat.lt_of_lt_of_le ih ?_
    have e : (acc * 10 + (c - 48) + 1) ≤ (acc + 1) * 10 := by omega
    calc (acc * 10 + (c - 48) + 1) * 10 ^ cs.length ≤ ((acc + 1) * 10) * 10 ^ cs.length := Nat.mul_le_mul_right _ e
      _ = (acc + 1) * (10 ^ cs.length * 10) := by rw [Nat.mul_assoc, Nat.mul_comm 10]
theorem numL_back : ∀ (n : Nat) (cs : List Nat), cs.length = n → NumText.AllDigits cs → cs ≠ [] → (∀ r, cs = 48 :: r → r = []) → TL.numL (NumText.digitsVal cs) = cs := fun n => by
  induction n with
  | zero => intro cs hl _ hne; exact absurd (List.length_eq_zero_iff.mp hl) hne
  | succ n ih =>
    intro cs hl hd hne h0
    rcases List.eq_nil_or_concat cs with rfl | ⟨p, c, rfl⟩
    · exact absurd rfl hne
    · rw [List.concat_eq_append] at *
      have hc := hd c (by simp)
      rw [val_snoc]
      by_cases hp : p = []
      · subst hp
        have e : NumText.digitsVal [] = 0 := rfl
        rw [e, TL.numL_lt (by omega)]
        show [48 + (0 * 10 + (c - 48))] = [c]
        congr 1
        omega
      · have hdp : NumText.AllDigits p := fun x hx => hd x (List.mem_append_left _ hx)
        have h0p : ∀ r, p = 48 :: r → r = [] := fun r e => by
          have := h0 (r ++ [c]) (by rw [e]; rfl)
          simp at this
        have hb := ih p (by rw [List.length_append] at hl; simpa using hl) hdp hp h0p
        have pos : 1 ≤ NumText.digitsVal p := by
          rcases Nat.eq_zero_or_pos (NumText.digitsVal p) with z | z
          · rw [z, TL.numL_lt (by decide)] at hb
            have := h0 [c] (by rw [← hb]; rfl)
            cases this
          · exact z
        rw [TL.numL_step (by omega)]
        have e1 : (NumText.digitsVal p * 10 + (c - 48)) / 10 = NumText.digitsVal p := by omega
        have e2 : 48 + (NumText.digitsVal p * 10 + (c - 48)) % 10 = c := by omega
        rw [e1, e2, hb]
theorem starts0 {z : Str} {r : List Nat} (h : TL.tl z = 48 :: r) : Txt.startswith z "0" = true := by
  have e1 : (Str.ofString "0").cps.toList = [48] := by decide +kernel
  have e2 : (Str.ofString "0").length = 1 := by decide +kernel
  unfold Txt.startswith
  rw [Bool.and_eq_true]
  refine ⟨?_, ?_⟩
  · rw [e2, TL.len_tl, h]
    exact decide_eq_true (by simp)
  · rw [StrLaws.subAt_eq, e2, e1]
    show ((z.cps.toList.drop 0).take 1 == [48]) = true
    rw [List.drop_zero, show z.cps.toList = 48 :: r from h]
    rfl
structure NumIs (z : Str) (i : Int) : Prop where
  lo : 0 ≤ i
  hi : i < 10 ^ 40
  tx : strI i = z
theorem numIn_inv {z : Str} {i : Int} (h : numIn z = some i) : NumIs z i := by
  unfold numIn at h
  split at h
  · rename_i c
    simp only [Bool.and_eq_true, decide_eq_true_eq] at c
    obtain ⟨c1, c2, c3⟩ := c
    have hd : NumText.AllDigits z.cps.toList := fun x hx => fig_inv (List.all_eq_true.mp c3 x hx)
    have el : z.length = z.cps.toList.length := TL.len_tl z
    have hne : z.cps.toList ≠ [] := fun e => by rw [el, e] at c1; simp at c1
    split at h
    · cases h
    · rename_i c4
      rw [PySem.intText_digits hd hne (by omega)] at h
      cases h
      have h0 : ∀ r, z.cps.toList = 48 :: r → r = [] := fun r e => by
        have s := starts0 (z := z) e
        rw [s, Bool.true_and] at c4
        have e0 : (z == ("0" : Str)) = true := by simpa using c4
        have e1 := eq_of_beq e0
        rw [e1] at e
        have e2 : (Str.ofString "0").cps.toList = [48] := by decide +kernel
        rw [e2] at e
        cases e
        rfl
      have hb := numL_back _ z.cps.toList rfl hd hne h0
      have lt := val_lt z.cps.toList 0 hd
      refine ⟨Int.natCast_nonneg _, ?_, ?_⟩
      · have h3 : 10 ^ z.cps.toList.length ≤ 10 ^ 40 := Nat.pow_le_pow_right (by decide) (by omega)
        have h4 : NumText.digitsVal z.cps.toList < 10 ^ 40 := by
          refine Nat.lt_of_lt_of_le ?_ h3
          simpa [NumText.digitsVal] using lt
        omega
      · refine TL.ext_tl ?_
        rw [strI_tl]
        exact hb
  · cases h
theorem optI_inv {o : Option Int} {i : Int} (h : optI o = .int i) : o = some i := by
  cases o with
  | none => cases h
  | some j => cases h; rfl
theorem readName_inv {w : Str} {y : PyData} (h : readName w = some y) : y = .str w ∧ wordOk 8 w = true := by
  unfold readName at h
  split at h
  · rename_i c
    cases h
    exact ⟨rfl, c⟩
  · cases h
theorem readNum_inv {w : Str} {y : PyData} (h : readNum w = some y) : ∃ i, y = .int i ∧ NumIs w i := by
  unfold readNum at h
  obtain ⟨i, e, rfl⟩ := Option.map_eq_some_iff.mp h
  exact ⟨i, rfl, numIn_inv e⟩
theorem allO_cons {o : Option PyData} {l : List (Option PyData)} {ys : List PyData} (h : allO (o :: l) = some ys) : ∃ y r, ys = y :: r ∧ o = some y ∧ allO l = some r := by
  cases o with
  | none => cases h
  | some y =>
    have h : (allO l).map (y :: ·) = some ys := h
    obtain ⟨r, e, rfl⟩ := Option.map_eq_some_iff.mp h
    exact ⟨y, r, rfl, rfl, e⟩
theorem allO_nil {ys : List PyData} (h : allO [] = some ys) : ys = [] := by cases h; rfl
theorem allNames_inv : ∀ {ws : List Str} {ys : List PyData}, allO (ws.map readName) = some ys → ys = sd ws ∧ ∀ w ∈ ws, wordOk 8 w = true
  | [], ys, h => by cases h; exact ⟨rfl, fun w hw => by cases hw⟩
  | w :: ws, ys, h => by
    obtain ⟨y, r, rfl, e1, e2⟩ := allO_cons h
    obtain ⟨rfl, k⟩ := readName_inv e1
    obtain ⟨rfl, ih⟩ := allNames_inv e2
    refine ⟨rfl, fun x hx => ?_⟩
    rcases List.mem_cons.mp hx with rfl | hx
    · exact k
    · exact ih x hx
theorem readNames_inv {ws : List Str} {y : PyData} (h : readNames ws = some y) : y = .tuple (sd ws) ∧ ∀ w ∈ ws, wordOk 8 w = true := by
  unfold readNames at h
  obtain ⟨ys, e, rfl⟩ := Option.map_eq_some_iff.mp h
  obtain ⟨rfl, k⟩ := allNames_inv e
  exact ⟨rfl, k⟩
theorem tupO_inv {w : Str} {l : List (Option PyData)} {y : PyData} (h : tupO w l = some y) : ∃ ys, y = .tuple (.str w :: ys) ∧ allO l = some ys := by
  unfold tupO at h
  obtain ⟨ys, e, rfl⟩ := Option.map_eq_some_iff.mp h
  exact ⟨ys, rfl, e⟩
theorem sd_inj : ∀ {a b : List Str}, sd a = sd b → a = b
  | [], [], _ => rfl
  | [], _ :: _, h => by cases h
  | _ :: _, [], h => by cases h
  | x :: a, y :: b, h => by
    have h : PyData.str x :: sd a = PyData.str y :: sd b := h
    injection h with h1 h2
    cases h1
    rw [sd_inj h2]
theorem dd_words (d : Dd) : d.data = .tuple (sd d.words) := by cases d <;> rfl
theorem eight {α : Type} {l : List α} (h : 8 ≤ l.length) : ∃ p q a s m mid t u, l = ([p, q, a, s, m] : List α) ++ mid ++ [t, u] := by
  have e1 : l = l.take 5 ++ (l.drop 5).take (l.length - 7) ++ (l.drop 5).drop (l.length - 7) := by
    rw [List.append_assoc, List.take_append_drop, List.take_append_drop]
  have l1 : (l.take 5).length = 5 := by rw [List.length_take]; omega
  have l2 : ((l.drop 5).drop (l.length - 7)).length = 2 := by rw [List.length_drop, List.length_drop]; omega
  generalize l.take 5 = x at *
  generalize (l.drop 5).drop (l.length - 7) = y at *
  match x, l1, y, l2 with
  | [p, q, a, s, m], _, [t, u], _ => exact ⟨p, q, a, s, m, _, t, u, e1⟩
theorem cutmid {α : Type} (p q a s m : α) (mid : List α) (t u : α) : PD.cut (([p, q, a, s, m] : List α) ++ mid ++ [t, u]) none (some 5) = [p, q, a, s, m] ∧ PD.cut (([p, q, a, s, m] : List α) ++ mid ++ [t, u]) (some (-2)) none = [t, u] ∧ PD.cut (([p, q, a, s, m] : List α) ++ mid ++ [t, u]) (some 5) (some (-2)) = mid := by
  have hl : (([p, q, a, s, m] : List α) ++ mid ++ [t, u]).length = 5 + mid.length + 2 := by simp only [List.length_append]; rfl
  have neg2 : ∀ n d : Nat, HT.sIx n d (some (-2)) = n - 2 := fun n d => by
    show (if (-2 : Int) < 0 then ((-2 : Int) + (n : Int)).toNat else min (-2 : Int).toNat n) = _
    rw [if_pos (by decide)]
    omega
  have pos5 : ∀ n d : Nat, HT.sIx n d (some 5) = min 5 n := fun n d => HT.sIx_nat n d 5
  refine ⟨?_, ?_, ?_⟩
  · unfold PD.cut
    rw [pos5, hl]
    show ((([p, q, a, s, m] : List α) ++ mid ++ [t, u]).drop 0).take (min 5 (5 + mid.length + 2) - 0) = _
    rw [show min 5 (5 + mid.length + 2) - 0 = 5 by omega]
    rfl
  · unfold PD.cut
    rw [neg2, hl]
    show ((([p, q, a, s, m] : List α) ++ mid ++ [t, u]).drop (5 + mid.length + 2 - 2)).take (5 + mid.length + 2 - (5 + mid.length + 2 - 2)) = _
    have e : (([p, q, a, s, m] : List α) ++ mid ++ [t, u]).drop (5 + mid.length + 2 - 2) = [t, u] := by
      rw [show 5 + mid.length + 2 - 2 = (([p, q, a, s, m] : List α) ++ mid).length by simp only [List.length_append]; rfl, List.drop_left]
    rw [e]
    exact List.take_of_length_le (by show 2 ≤ _; omega)
  · unfold PD.cut
    rw [neg2, pos5, hl]
    rw [show min 5 (5 + mid.length + 2) = 5 by omega, List.append_assoc]
    show (mid ++ [t, u]).take (5 + mid.length + 2 - 2 - 5) = mid
    rw [show 5 + mid.length + 2 - 2 - 5 = mid.length by omega, List.take_left]
/-- a letter's words: five, some, two -/
theorem readLetter_mid {ws : List Str} {g p q a s m t u : Str} {mid : List Str} (hw : ws = g :: (([p, q, a, s, m] : List Str) ++ mid ++ [t, u])) (free : ∀ w ∈ ws, 32 ∉ TL.tl w) (h1 : 1 ≤ mid.length) :
    readLetterOf ws = (if isLetter (.tuple [.str "letter", .str g, optI (numIn p), optI (numIn q), optI (numIn a), optI (numIn s), optI (numIn m), .tuple (sd mid), optI (numIn t), optI (numIn u)]) = true then some (.tuple [.str "letter", .str g, optI (numIn p), optI (numIn q), optI (numIn a), optI (numIn s), optI (numIn m), .tuple (sd mid), optI (numIn t), optI (numIn u)]) else none) := by
  unfold readLetterOf readLetter
  rw [split_join (by rw [hw]; simp) free, hw]
  obtain ⟨c1, c2, c3⟩ := cutmid p q a s m mid t u
  show (if (([p, q, a, s, m] : List Str) ++ mid ++ [t, u]).length < 8 then none else _) = _
  rw [if_neg (by simp only [List.length_append, List.length_cons, List.length_nil]; omega)]
  dsimp only
  rw [c1, c2, c3]
  rfl
theorem readLetter_few {ws : List Str} (free : ∀ w ∈ ws, 32 ∉ TL.tl w) (h : ws.length < 9) : readLetterOf ws = none := by
  unfold readLetterOf readLetter
  cases ws with
  | nil =>
    have e : Txt.split (Txt.join " " []) " " = ([""] : List Str) := by decide +kernel
    rw [e]
    rfl
  | cons g rest =>
    rw [split_join (by simp) free]
    show (if rest.length < 8 then none else _) = none
    rw [if_pos (by simp only [List.length_cons] at h; omega)]
structure LtR (l : Lt) : Prop where
  ok : l.ok
  s : l.s < 10 ^ 40
  st : l.st < 10 ^ 40
theorem readLetter_inv {ws : List Str} {d : PyData} (free : ∀ w ∈ ws, 32 ∉ TL.tl w) (h : readLetterOf ws = some d) : ∃ l : Lt, LtR l ∧ d = l.data ∧ l.all = ws := by
  by_cases hl : ws.length < 9
  · rw [readLetter_few free hl] at h; cases h
  · cases ws with
    | nil => simp at hl
    | cons g rest =>
      obtain ⟨p, q, a, s, m, mid, t, u, e⟩ := eight (l := rest) (by simp only [List.length_cons] at hl; omega)
      have h1 : 1 ≤ mid.length := by
        have := congrArg List.length e
        simp only [List.length_append, List.length_cons, List.length_nil] at this hl
        omega
      rw [readLetter_mid (by rw [e]) free h1] at h
      split at h
      · rename_i c
        cases h
        obtain ⟨l, el, ok⟩ := letter_inv c
        obtain ⟨lg, lp, lq, la, ls, lm, ld, lt, lu⟩ := l
        have el : (.tuple [.str "letter", .str g, optI (numIn p), optI (numIn q), optI (numIn a), optI (numIn s), optI (numIn m), .tuple (sd mid), optI (numIn t), optI (numIn u)] : PyData) = .tuple [.str "letter", .str lg, .int lp, .int lq, .int la, .int ls, .int lm, ld.data, .int lt, .int lu] := el
        rw [dd_words] at el
        simp only [PyData.tuple.injEq, List.cons.injEq, PyData.str.injEq, true_and, and_true] at el
        obtain ⟨rfl, e1, e2, e3, e4, e5, e6, e7, e8⟩ := el
        have i1 := numIn_inv (optI_inv e1)
        have i2 := numIn_inv (optI_inv e2)
        have i3 := numIn_inv (optI_inv e3)
        have i4 := numIn_inv (optI_inv e4)
        have i5 := numIn_inv (optI_inv e5)
        have i7 := numIn_inv (optI_inv e7)
        have i8 := numIn_inv (optI_inv e8)
        have w6 := sd_inj e6
        refine ⟨⟨g, lp, lq, la, ls, lm, ld, lt, lu⟩, ⟨ok, i4.hi, i7.hi⟩, ?_, ?_⟩
        · show _ = PyData.tuple [.str "letter", .str g, .int lp, .int lq, .int la, .int ls, .int lm, ld.data, .int lt, .int lu]
          rw [e1, e2, e3, e4, e5, e7, e8, w6, dd_words]
        · show ([g, strI lp, strI lq, strI la, strI ls, strI lm] ++ ld.words ++ [strI lt]) ++ [strI lu] = g :: rest
          rw [i1.tx, i2.tx, i3.tx, i4.tx, i5.tx, i7.tx, i8.tx, ← w6, e]
          simp only [List.append_assoc, List.cons_append, List.nil_append]
      · cases h
end DW
set_option Elab.async false
set_option linter.all false
set_option maxRecDepth 100000
set_option maxHeartbeats 4000000
namespace K87
open PySem PySem.Spec PyProof.Rows L2 PD
theorem lcGo_map {α : Type} {body : PyData → (Option PyData → Prop) → Prop} {g : α → PyData} {f : α → PyData} {Q : List PyData → Prop} : ∀ {l : List α} {acc : List PyData}, (∀ a ∈ l, ∀ K : Option PyData → Prop, K (some (f a)) → body (g a) K) → Q (acc ++ l.map f) → lcGo body (l.map g) acc Q
  | [], acc, _, q => by show Q acc; simpa using q
  | a :: l, acc, h, q => h a List.mem_cons_self _ (lcGo_map (fun b hb => h b (List.mem_cons_of_mem _ hb)) (by simpa using q))
theorem bools_map {α : Type} {f : α → Bool} : ∀ l : List α, boolsOf (l.map fun a => .bool (f a)) = some (l.map f)
  | [] => rfl
  | a :: l => by simp only [List.map_cons, boolsOf, bools_map l, Option.map_some]
theorem all_map {α : Type} {f : α → Bool} (l : List α) : (l.map f).all id = l.all f := by rw [List.all_map]; rfl
theorem isT_str (d : PyData) : isT (tyD d) "str" = (match d with | .str _ => true | _ => false) := by cases d <;> rfl
theorem isT_int (d : PyData) : isT (tyD d) "int" = (match d with | .int _ => true | .bool _ => true | _ => false) := by cases d <;> rfl
theorem isT_bool (d : PyData) : isT (tyD d) "bool" = (match d with | .bool _ => true | _ => false) := by cases d <;> rfl
theorem isT_tuple (d : PyData) : isT (tyD d) "tuple" = (match d with | .tuple _ => true | _ => false) := by cases d <;> rfl
theorem isT_list (d : PyData) : isT (tyD d) "list" = (match d with | .list _ => true | _ => false) := by cases d <;> rfl
/-- a text of the data fits the machine -/
def sFit : PyData → Prop
  | .str z => z.length ≤ sizeLine
  | _ => True
theorem iteG {c : Bool} {A B : Prop} (ht : c = true → A) (hf : c = false → B) : if c = true then A else B := by
  cases c with
  | true => exact ht rfl
  | false => exact hf rfl
theorem isL_one (c : Nat) : decide (c ∈ (Str.ofString "abcdefghijklmnopqrstuvwxyz").cps.toList) = DW.isLet c := rfl
theorem qB {Q : DV → Prop} {a b : Bool} (h : Q (.d (.bool a))) (e : a = b) : Q (.d (.bool b)) := e ▸ h
theorem nn1 {a : PyData} : ∀ x ∈ [DV.d a], ∀ ys, x ≠ DV.new ys := by
  intro x hx ys e
  subst e
  simp at hx
theorem nn2 {a b : PyData} : ∀ x ∈ [DV.d a, DV.d b], ∀ ys, x ≠ DV.new ys := by
  intro x hx ys e
  subst e
  simp at hx
theorem nn3 {a b c : PyData} : ∀ x ∈ [DV.d a, DV.d b, DV.d c], ∀ ys, x ≠ DV.new ys := by
  intro x hx ys e
  subst e
  simp at hx
theorem nE {d : PyData} : ∀ u, DV.d d = DV.v u → u ≠ V.non := fun u e => by cases e
theorem fit_str {z : Str} (h : DW.fit (.str z) = true) : z.length ≤ 100000 ∧ PyData.strOk z = true := by
  simpa only [DW.fit, Bool.and_eq_true, decide_eq_true_eq] using h
theorem fit_sFit {d : PyData} (h : DW.fit d = true) : sFit d := by
  cases d with
  | str z => exact Nat.le_trans (fit_str h).1 (by decide)
  | _ => trivial
theorem fit_tup {xs : List PyData} (h : DW.fit (.tuple xs) = true) : xs.length ≤ 100000 ∧ DW.fitAll xs = true := by
  simpa only [DW.fit, Bool.and_eq_true, decide_eq_true_eq] using h
theorem fit_lst {xs : List PyData} (h : DW.fit (.list xs) = true) : xs.length ≤ 100000 ∧ DW.fitAll xs = true := by
  simpa only [DW.fit, Bool.and_eq_true, decide_eq_true_eq] using h
theorem fit_cons {x : PyData} {xs : List PyData} (h : DW.fitAll (x :: xs) = true) : DW.fit x = true ∧ DW.fitAll xs = true := by
  simpa only [DW.fitAll, Bool.and_eq_true] using h
theorem fit_int {i : Int} (h : DW.fit (.int i) = true) : i.natAbs < 10 ^ 60 := by
  simpa only [DW.fit, decide_eq_true_eq] using h
theorem shaped_str {z : Str} (h : PyData.strOk z = true) : SeqAt.shaped (.str z) = true := by
  unfold SeqAt.shaped
  rw [Bool.and_eq_true]
  exact ⟨by simpa only [PyData.canLay0] using h, rfl⟩
theorem at0 {α : Type} {x : α} {r : List α} : atI (x :: r) 0 = some x := atI_nat (j := 0) rfl
theorem at1' {α : Type} {x y : α} {r : List α} : atI (x :: y :: r) 1 = some y := atI_nat (j := 1) rfl
theorem bKG {b : Bool} {Q : Bool → Prop} (ht : b = true → Q true) (hf : b = false → Q false) : bK Q (.d (.bool b)) := by
  cases b with
  | true => exact ht rfl
  | false => exact hf rfl

section
variable {P : Program} {w : World} {K : PySem.W.Frag} {mg : Str → Option Value} {base : Heap}
theorem ok_is_name (c : Tx K w mg) : FnOk P w K mg base (L2.CX P w) 1 (He.ga K "is_name") (fdOf K (He.ga K "is_name")) ["thing"] (lift K (fun _ xs Q _ => ∃ d, xs = [.d d] ∧ sFit d ∧ Q (.d (.bool (DW.isName d)))) 1) := by
  refine fn_ok c.fd_is_name sc_is_name rfl fun cdv A outer s I H E R hr => ⟨_, _, (dss_one (ds_ret (de_and (de_callB call_isi (cd_isi rfl) (by rfl) c.f_isinstance b_isinstance (da_cons (de_var (pv 0)) (da_cons (de_ty (by rfl) c.f_str b_str) da_nil))) (de_and (de_chain op_le op_le od_intB od_intB de_int (de_callB call_len (cd_len rfl) (by rfl) c.f_len b_len (da_cons (de_var (pv 0)) da_nil)) (de_gint (by rfl) c.k_LONGEST)) (de_one (de_callB (cr_all rfl) (cd_all rfl) (by rfl) c.f_all b_all (da_cons (de_lc (own := [("sign", 1)]) rfl sc_is_name.nd (di_any (de_var (pv 0)) rfl) (blkOk_by (N := ["thing", "sign"]) (sc := defScope (top 10)) (by decide +kernel)) (fun _ _ _ _ _ => (dg_name (i := 1) sc_is_name.nd rfl (by first | exact .inl rfl | exact .inr rfl))) (fun _ _ _ _ _ => dts_nil) (fun _ _ _ _ _ => (de_cmp (op_inX (hu65 hr)) rfl (od_in rfl) (de_var (pv 1)) (de_gstr (by rfl) c.k_LETTERS))) (tgt_name (by decide)) s) da_nil))))))), fun xs Qd Ed hl h => ?_⟩
  obtain ⟨d, rfl, hf, h⟩ := h
  refine ⟨d, rfl, .inl rfl, ?_⟩
  show bK _ _
  rw [isT_str]
  cases d with
  | str z =>
    refine ⟨hf, ?_⟩
    refine iteG (fun b1 => ?_) fun b1 => qB (Q := Qd) (b := false) h (by simp only [DW.isName, DW.wordOk, b1, Bool.false_and])
    refine iteG (fun b2 => ?_) fun b2 => qB (Q := Qd) (b := false) h (by simp only [DW.isName, DW.wordOk, b1, b2, Bool.false_and, Bool.and_false])
    refine ⟨hf, lcGo_map (f := fun c => .bool (DW.isLet c)) (fun c _ K k => ⟨c, rfl, k⟩) ?_⟩
    refine ⟨_, _, rfl, bools_map _, ?_⟩
    exact qB (Q := Qd) h (by simp only [DW.isName, DW.wordOk, b1, b2, Bool.true_and, all_map])
  | _ => exact h

theorem ok_is_key (c : Tx K w mg) : FnOk P w K mg base (L2.CX P w) 1 (He.ga K "is_key") (fdOf K (He.ga K "is_key")) ["thing"] (lift K (fun _ xs Q _ => ∃ d, xs = [.d d] ∧ sFit d ∧ Q (.d (.bool (DW.isKey d)))) 1) := by
  refine fn_ok c.fd_is_key sc_is_key rfl fun cdv A outer s I H E R hr => ⟨_, _, (dss_one (ds_ret (de_and (de_callB call_isi (cd_isi rfl) (by rfl) c.f_isinstance b_isinstance (da_cons (de_var (pv 0)) (da_cons (de_ty (by rfl) c.f_str b_str) da_nil))) (de_and (de_chain op_le op_le od_intB od_intB de_int (de_callB call_len (cd_len rfl) (by rfl) c.f_len b_len (da_cons (de_var (pv 0)) da_nil)) (de_gint (by rfl) c.k_LONGEST_KEY)) (de_one (de_callB (cr_all rfl) (cd_all rfl) (by rfl) c.f_all b_all (da_cons (de_lc (own := [("sign", 1)]) rfl sc_is_key.nd (di_any (de_var (pv 0)) rfl) (blkOk_by (N := ["thing", "sign"]) (sc := defScope (top 19)) (by decide +kernel)) (fun _ _ _ _ _ => (dg_name (i := 1) sc_is_key.nd rfl (by first | exact .inl rfl | exact .inr rfl))) (fun _ _ _ _ _ => dts_nil) (fun _ _ _ _ _ => (de_cmp (op_inX (hu65 hr)) rfl (od_in rfl) (de_var (pv 1)) (de_gstr (by rfl) c.k_LETTERS))) (tgt_name (by decide)) s) da_nil))))))), fun xs Qd Ed hl h => ?_⟩
  obtain ⟨d, rfl, hf, h⟩ := h
  refine ⟨d, rfl, .inl rfl, ?_⟩
  show bK _ _
  rw [isT_str]
  cases d with
  | str z =>
    refine ⟨hf, ?_⟩
    refine iteG (fun b1 => ?_) fun b1 => qB (Q := Qd) (b := false) h (by simp only [DW.isKey, DW.wordOk, b1, Bool.false_and])
    refine iteG (fun b2 => ?_) fun b2 => qB (Q := Qd) (b := false) h (by simp only [DW.isKey, DW.wordOk, b1, b2, Bool.false_and, Bool.and_false])
    refine ⟨hf, lcGo_map (f := fun c => .bool (DW.isLet c)) (fun c _ K k => ⟨c, rfl, k⟩) ?_⟩
    refine ⟨_, _, rfl, bools_map _, ?_⟩
    exact qB (Q := Qd) h (by simp only [DW.isKey, DW.wordOk, b1, b2, Bool.true_and, all_map])
  | _ => exact h

theorem ok_is_number (c : Tx K w mg) : FnOk P w K mg base (L2.CX P w) 1 (He.ga K "is_number") (fdOf K (He.ga K "is_number")) ["thing", "low", "high"] (lift K (fun _ xs Q _ => ∃ d lo hi, xs = [.d d, .d (.int lo), .d (DW.optI hi)] ∧ Q (.d (.bool (DW.isNum d lo hi)))) 3) := by
  refine fn_ok c.fd_is_number sc_is_number rfl fun cdv A outer s I H E R hr => ⟨_, _, (dss_cons flat_of (ds_if (dw_or (dt_not (dt_val (de_callB call_isi (cd_isi rfl) (by rfl) c.f_isinstance b_isinstance (da_cons (de_var (pv 0)) (da_cons (de_ty (by rfl) c.f_int b_int) da_nil))))) (dw_or (dt_val (de_callB call_isi (cd_isi rfl) (by rfl) c.f_isinstance b_isinstance (da_cons (de_var (pv 0)) (da_cons (de_ty (by rfl) c.f_bool b_bool) da_nil)))) (dw_or1 (dt_cmp op_lt (nomark _) od_intB (de_var (pv 0)) (de_var (pv 1)))))).dt (dss_one (ds_ret de_bl)) dss_nil)
      (dss_one (ds_ret (de_or (de_cmp op_isN (nomark _) od_isN (de_var (pv 2)) de_non) (de_one (de_cmp op_le (nomark _) od_intB (de_var (pv 0)) (de_var (pv 2)))))))), fun xs Qd Ed hl h => ?_⟩
  obtain ⟨d, lo, hi, rfl, h⟩ := h
  refine ⟨d, rfl, .inr (.inl rfl), ?_⟩
  show bK _ _
  rw [isT_int]
  cases d with
  | int i =>
    refine ⟨_, rfl, .inr (.inr (.inl rfl)), ?_⟩
    show bK _ _
    rw [isT_bool]
    refine iteG (fun b1 => ?_) fun b1 => ?_
    · exact qB (Q := Qd) (b := false) h (by simp only [DW.isNum, b1, Bool.not_true, Bool.false_and])
    · refine ⟨fun u e => (by cases e), ?_⟩
      cases hi with
      | none => exact qB (Q := Qd) (b := true) h (by simp only [DW.isNum, b1, Bool.not_false, Bool.true_and])
      | some j => exact qB (Q := Qd) (b := decide (i ≤ j)) h (by simp only [DW.isNum, b1, Bool.not_false, Bool.true_and])
  | bool b =>
    refine ⟨_, rfl, .inr (.inr (.inl rfl)), ?_⟩
    show bK _ _
    rw [isT_bool]
    exact h
  | _ => exact h

theorem ok_is_row (c : Tx K w mg) : FnOk P w K mg base (L2.CX P w) 2 (He.ga K "is_row") (fdOf K (He.ga K "is_row")) ["thing", "low", "high"] (lift K (fun _ xs Q _ => ∃ d lo hi, xs = [.d d, .d (.int lo), .d (.int hi)] ∧ Q (.d (.bool (DW.isRow d lo hi)))) 3) := by
  refine fn_ok c.fd_is_row sc_is_row rfl fun cdv A outer s I H E R hr => ⟨_, _, (dss_one (ds_ret (de_and (de_isi2 (de_var (pv 0)) rfl (by rfl) c.f_isinstance (pe_bltn (by rfl) c.f_list b_list rfl) (pe_bltn (by rfl) c.f_tuple b_tuple rfl)) (de_one (de_fnC (ok_is_number c) (hr.mono (by decide)) (by rfl) c.g_is_number c.fd_is_number.kp (bd_is_number c) (takesC (takes_of rfl rfl rfl rfl)) rfl (da_cons (de_callB call_len (cd_len rfl) (by rfl) c.f_len b_len (da_cons (de_var (pv 0)) da_nil)) (da_cons (de_var (pv 1)) (da_cons (de_var (pv 2)) da_nil)))))))), fun xs Qd Ed hl h => ?_⟩
  obtain ⟨d, lo, hi, rfl, h⟩ := h
  refine ⟨d, rfl, .inr (.inr (.inr (.inl rfl))), .inr (.inr (.inr (.inr rfl))), ?_⟩
  show bK _ _
  rw [isT_list, isT_tuple]
  cases d with
  | list ds => exact ⟨ds, rfl, rfl, nn3, _, lo, some hi, rfl, h⟩
  | tuple ds => exact ⟨rfl, nn3, _, lo, some hi, rfl, h⟩
  | _ => exact h

theorem ok_is_deed (c : Tx K w mg) : FnOk P w K mg base (L2.CX P w) 2 (He.ga K "is_deed") (fdOf K (He.ga K "is_deed")) ["thing"] (lift K (fun _ xs Q _ => ∃ d, xs = [.d d] ∧ DW.fit d = true ∧ Q (.d (.bool (DW.isDeed d)))) 1) := by
  refine fn_ok c.fd_is_deed sc_is_deed rfl fun cdv A outer s I H E R hr => ⟨_, _, (dss_cons flat_of (ds_if (dw_or (dt_not (dt_val (de_callB call_isi (cd_isi rfl) (by rfl) c.f_isinstance b_isinstance (da_cons (de_var (pv 0)) (da_cons (de_ty (by rfl) c.f_tuple b_tuple) da_nil))))) (dw_or (dt_cmp (op_eq0 (hu64 hr)) (nomark _) (od_eq0 rfl) (de_var (pv 0)) (de_tup da_nil)) (dw_or1 (dt_not (dt_val (de_callB call_isi (cd_isi rfl) (by rfl) c.f_isinstance b_isinstance (da_cons (de_ix (de_var (pv 0)) de_int (fun _ _ => rfl) rfl) (da_cons (de_ty (by rfl) c.f_str b_str) da_nil)))))))).dt (dss_one (ds_ret de_bl)) dss_nil)
      (dss_cons flat_of (ds_if (dt_cmp (op_eqX (hu64 hr)) (nomark _) (od_eq rfl) (de_ix (de_var (pv 0)) de_int (fun _ _ => rfl) rfl) de_str) (dss_one (ds_ret (de_and (de_cmp (op_eqX (hu64 hr)) (nomark _) (od_eq rfl) (de_callB call_len (cd_len rfl) (by rfl) c.f_len b_len (da_cons (de_var (pv 0)) da_nil)) de_int) (de_one (de_fnC (ok_is_name c) (hr.mono (by decide)) (by rfl) c.g_is_name c.fd_is_name.kp (bd_is_name c) (takesC (takes_of rfl rfl rfl rfl)) rfl (da_cons (de_ix (de_var (pv 0)) de_int (fun _ _ => rfl) rfl) da_nil)))))) dss_nil)
      (dss_one (ds_ret (de_and (de_cmp (op_inX (hu65 hr)) rfl (od_in rfl) (de_ix (de_var (pv 0)) de_int (fun _ _ => rfl) rfl) (de_tup (da_cons de_str (da_cons de_str da_nil)))) (de_one (de_cmp (op_eqX (hu64 hr)) (nomark _) (od_eq rfl) (de_callB call_len (cd_len rfl) (by rfl) c.f_len b_len (da_cons (de_var (pv 0)) da_nil)) de_int))))))), fun xs Qd Ed hl h => ?_⟩
  obtain ⟨d, rfl, hf, h⟩ := h
  refine ⟨d, rfl, .inr (.inr (.inr (.inr rfl))), ?_⟩
  show bK _ _
  rw [isT_tuple]
  cases d with
  | tuple ds =>
    refine ⟨Nat.zero_le _, ds, rfl, rfl, ?_⟩
    cases ds with
    | nil => exact h
    | cons x r =>
      obtain ⟨hx, hr⟩ := fit_cons (fit_tup hf).2
      refine ⟨x, at0, x, rfl, .inl rfl, ?_⟩
      show bK _ _
      rw [isT_str]
      cases x with
      | str z =>
        refine ⟨.str z, at0, .inl rfl, ?_⟩
        refine iteG (fun b1 => ?_) fun b1 => ?_
        · have e1 : (z == ("move" : Str)) = true := b1
          refine ⟨.inl rfl, ?_⟩
          cases r with
          | nil => exact qB (Q := Qd) (b := false) h (by simp only [DW.isDeed, e1, if_true])
          | cons y r =>
            cases r with
            | nil => exact ⟨y, at1', rfl, nn1, y, rfl, fit_sFit (fit_cons hr).1, qB (Q := Qd) h (by simp only [DW.isDeed, e1, if_true])⟩
            | cons y2 r =>
              refine bKG (fun b2 => ?_) fun b2 => qB (Q := Qd) (b := false) h (by simp only [DW.isDeed, e1, if_true])
              exfalso
              have := eq_of_beq (show (((PyData.str z :: y :: y2 :: r).length : Int) == 2) = true from b2)
              simp only [List.length_cons] at this
              omega
        · have e1 : (z == ("move" : Str)) = false := b1
          refine ⟨.str z, at0, by decide, .str z, rfl, shaped_str (fit_str hx).2, by decide +kernel, ?_⟩
          refine iteG (fun b2 => ?_) fun b2 => ?_
          · refine ⟨.inl rfl, ?_⟩
            refine qB (Q := Qd) (b := ((PyData.str z :: r).length : Int) == 1) h ?_
            simp only [DW.isDeed, e1]
            have e2 : (z == ("give" : Str) || z == ("even" : Str)) = true := by
              have b3 : (PyData.eqv (.str "give") (.str z) || (PyData.eqv (.str "even") (.str z) || false)) = true := b2
              simp only [PyData.eqv, Bool.or_false] at b3
              rw [Bool.or_eq_true] at b3 ⊢
              rcases b3 with e | e
              · exact .inl (by rw [← eq_of_beq e]; exact beq_self_eq_true _)
              · exact .inr (by rw [← eq_of_beq e]; exact beq_self_eq_true _)
            rw [e2]
            cases r with
            | nil => rfl
            | cons y r =>
              have : (((PyData.str z :: y :: r).length : Int) == 1) = false := by
                rw [beq_eq_false_iff_ne]
                simp only [List.length_cons]
                omega
              rw [this]
              rfl
          · refine qB (Q := Qd) (b := false) h ?_
            simp only [DW.isDeed, e1]
            have e2 : (z == ("give" : Str) || z == ("even" : Str)) = false := by
              have b3 : (PyData.eqv (.str "give") (.str z) || (PyData.eqv (.str "even") (.str z) || false)) = false := b2
              simp only [PyData.eqv, Bool.or_false] at b3
              rw [Bool.or_eq_false_iff] at b3 ⊢
              exact ⟨by rw [beq_eq_false_iff_ne] at b3 ⊢; exact fun e => b3.1 e.symm, by have b4 := b3.2; rw [beq_eq_false_iff_ne] at b4 ⊢; exact fun e => b4 e.symm⟩
            rw [e2]
            rfl
      | _ => exact h
  | _ => exact h

end
end K87
set_option Elab.async false
set_option linter.all false
set_option maxRecDepth 100000
set_option maxHeartbeats 4000000
namespace K87
open PySem PySem.Spec PyProof.Rows L2 PD
def exNL (K : PySem.W.Frag) : Ex := ⟨He.ga K "NoLetter", []⟩
def exNT (K : PySem.W.Frag) : Ex := ⟨He.ga K "NoText", [("row", .int 0)]⟩
theorem eqv_str {a b : Str} : PyData.eqv (.str a) (.str b) = (a == b) := by simp only [PyData.eqv]

section
variable {P : Program} {w : World} {K : PySem.W.Frag} {mg : Str → Option Value} {base : Heap}
theorem ok_is_letter (c : Tx K w mg) : FnOk P w K mg base (L2.CX P w) 3 (He.ga K "is_letter") (fdOf K (He.ga K "is_letter")) ["thing"] (lift K (fun _ xs Q _ => ∃ d, xs = [.d d] ∧ DW.fit d = true ∧ Q (.d (.bool (DW.isLetter d)))) 1) := by
  refine fn_ok c.fd_is_letter sc_is_letter rfl fun cdv A outer s I H E R hr => ⟨_, _, (dss_cons flat_of (ds_if (dw_or (dt_not (dt_val (de_callB call_isi (cd_isi rfl) (by rfl) c.f_isinstance b_isinstance (da_cons (de_var (pv 0)) (da_cons (de_ty (by rfl) c.f_tuple b_tuple) da_nil))))) (dw_or (dt_cmp (op_neX (hu64 hr)) (nomark _) (od_ne rfl) (de_callB call_len (cd_len rfl) (by rfl) c.f_len b_len (da_cons (de_var (pv 0)) da_nil)) de_int) (dw_or (dt_not (dt_val (de_callB call_isi (cd_isi rfl) (by rfl) c.f_isinstance b_isinstance (da_cons (de_ix (de_var (pv 0)) de_int (fun _ _ => rfl) rfl) (da_cons (de_ty (by rfl) c.f_str b_str) da_nil))))) (dw_or1 (dt_cmp (op_neX (hu64 hr)) (nomark _) (od_ne rfl) (de_ix (de_var (pv 0)) de_int (fun _ _ => rfl) rfl) de_str))))).dt (dss_one (ds_ret de_bl)) dss_nil)
      (dss_cons flat_of (ds_asg (de_var (pv 0)) (dg_tup (n := 10) rfl (dgs_cons (dg_name (i := 1) sc_is_letter.nd rfl (by first | exact .inl rfl | exact .inr rfl)) (dgs_cons (dg_name (i := 2) sc_is_letter.nd rfl (by first | exact .inl rfl | exact .inr rfl)) (dgs_cons (dg_name (i := 3) sc_is_letter.nd rfl (by first | exact .inl rfl | exact .inr rfl)) (dgs_cons (dg_name (i := 4) sc_is_letter.nd rfl (by first | exact .inl rfl | exact .inr rfl)) (dgs_cons (dg_name (i := 5) sc_is_letter.nd rfl (by first | exact .inl rfl | exact .inr rfl)) (dgs_cons (dg_name (i := 6) sc_is_letter.nd rfl (by first | exact .inl rfl | exact .inr rfl)) (dgs_cons (dg_name (i := 7) sc_is_letter.nd rfl (by first | exact .inl rfl | exact .inr rfl)) (dgs_cons (dg_name (i := 8) sc_is_letter.nd rfl (by first | exact .inl rfl | exact .inr rfl)) (dgs_cons (dg_name (i := 9) sc_is_letter.nd rfl (by first | exact .inl rfl | exact .inr rfl)) (dgs_cons (dg_name (i := 10) sc_is_letter.nd rfl (by first | exact .inl rfl | exact .inr rfl)) dgs_nil)))))))))) rfl))
      (dss_cons flat_of (ds_if (dw_or (dt_not (dt_val (de_fnC (ok_is_name c) (hr.mono (by decide)) (by rfl) c.g_is_name c.fd_is_name.kp (bd_is_name c) (takesC (takes_of rfl rfl rfl rfl)) rfl (da_cons (de_var (pv 2)) da_nil)))) (dw_or (dt_not (dt_val (de_fnC (ok_is_number c) (hr.mono (by decide)) (by rfl) c.g_is_number c.fd_is_number.kp (bd_is_number c) (takesC (takes_of rfl rfl rfl rfl)) rfl (da_cons (de_var (pv 3)) (da_cons de_int (da_cons (de_gint (by rfl) c.k_LAST_PLAYER) da_nil)))))) (dw_or1 (dt_not (dt_val (de_fnC (ok_is_number c) (hr.mono (by decide)) (by rfl) c.g_is_number c.fd_is_number.kp (bd_is_number c) (takesC (takes_of rfl rfl rfl rfl)) rfl (da_cons (de_var (pv 4)) (da_cons de_int (da_cons (de_gint (by rfl) c.k_MOST_PLACE) da_nil))))))))).dt (dss_one (ds_ret de_bl)) dss_nil)
      (dss_cons flat_of (ds_if (dw_or (dt_not (dt_val (de_fnC (ok_is_number c) (hr.mono (by decide)) (by rfl) c.g_is_number c.fd_is_number.kp (bd_is_number c) (takesC (takes_of rfl rfl rfl rfl)) rfl (da_cons (de_var (pv 6)) (da_cons de_int (da_cons de_non da_nil)))))) (dw_or (dt_not (dt_val (de_fnC (ok_is_number c) (hr.mono (by decide)) (by rfl) c.g_is_number c.fd_is_number.kp (bd_is_number c) (takesC (takes_of rfl rfl rfl rfl)) rfl (da_cons (de_var (pv 9)) (da_cons de_int (da_cons de_non da_nil)))))) (dw_or1 (dt_not (dt_val (de_fnC (ok_is_deed c) (hr.mono (by decide)) (by rfl) c.g_is_deed c.fd_is_deed.kp (bd_is_deed c) (takesC (takes_of rfl rfl rfl rfl)) rfl (da_cons (de_var (pv 8)) da_nil))))))).dt (dss_one (ds_ret de_bl)) dss_nil)
      (dss_one (ds_ret (de_callB (cr_all rfl) (cd_all rfl) (by rfl) c.f_all b_all (da_cons (de_lc (own := [("part", 11)]) rfl sc_is_letter.nd (di_any (de_tup (da_cons (de_var (pv 5)) (da_cons (de_var (pv 7)) (da_cons (de_var (pv 10)) da_nil)))) rfl) (blkOk_by (N := ["thing", "word", "game", "player", "place", "ahead", "seen", "mark", "deed", "stamp", "seal", "part"]) (sc := defScope (top 21)) (by decide +kernel)) (fun _ _ _ _ _ => (dg_name (i := 11) sc_is_letter.nd rfl (by first | exact .inl rfl | exact .inr rfl))) (fun _ _ _ _ _ => dts_nil) (fun _ _ _ _ _ => (de_fnC (ok_is_number c) (hr.mono (by decide)) (by rfl) c.g_is_number c.fd_is_number.kp (bd_is_number c) takesC0 rfl (da_cons (de_var (pv 11)) (da_cons de_int (da_cons (de_gint (by rfl) c.k_MOST_MARK) da_nil))))) (tgt_name (by decide)) s) da_nil)))))))), fun xs Qd Ed hl h => ?_⟩
  obtain ⟨d, rfl, hf, h⟩ := h
  refine ⟨d, rfl, .inr (.inr (.inr (.inr rfl))), ?_⟩
  show bK _ _
  rw [isT_tuple]
  cases d with
  | tuple ds =>
    refine ⟨.inl rfl, ?_⟩
    refine bKG (fun b1 => ?_) fun b1 => ?_
    · have e1 : ((ds.length : Int) == 10) = false := by
        have : (!((ds.length : Int) == 10)) = true := b1
        simpa using this
      refine qB (Q := Qd) (b := false) h ?_
      unfold DW.isLetter
      split
      · rename_i heq
        cases heq
        cases e1
      · rfl
    · have e1 : ds.length = 10 := by
        have : (!((ds.length : Int) == 10)) = false := b1
        simp at this
        omega
      match ds, e1 with
      | [x, game, player, place, ahead, seen, mark, deed, stamp, sl], _ =>
      have hm := fun y hy => DW.fitAll_mem (x := y) (fit_tup hf).2 hy
      refine ⟨x, at0, x, rfl, .inl rfl, ?_⟩
      show bK _ _
      rw [isT_str]
      cases x with
      | str z =>
        refine ⟨.str z, at0, .inl rfl, ?_⟩
        have hL : DW.isLetter (.tuple [.str z, game, player, place, ahead, seen, mark, deed, stamp, sl]) = (z == "letter" && (DW.isName game && DW.isNum player 0 (some 3) && DW.isNum place 1 (some 99)) && (DW.isNum seen 0 none && DW.isNum stamp 0 none && DW.isDeed deed) && (DW.isNum ahead 0 (some DW.M30) && DW.isNum mark 0 (some DW.M30) && DW.isNum sl 0 (some DW.M30))) := rfl
        rw [hL] at h
        clear hL
        refine bKG (fun b2 => ?_) fun b2 => ?_
        · have e2 : (z == ("letter" : Str)) = false := by
            have : (!PyData.eqv (.str z) (.str "letter")) = true := b2
            rw [eqv_str] at this
            simpa using this
          exact qB (Q := Qd) (b := false) h (by rw [e2]; rfl)
        · have e2 : (z == ("letter" : Str)) = true := by
            have : (!PyData.eqv (.str z) (.str "letter")) = false := b2
            rw [eqv_str] at this
            simpa using this
          refine ⟨rfl, rfl, ?_⟩
          dsimp only
          show dSeq _ _ _ _ [some (.d (.tuple [.str z, game, player, place, ahead, seen, mark, deed, stamp, sl])), some (.d (.str z)), some (.d game), some (.d player), some (.d place), some (.d ahead), some (.d seen), some (.d mark), some (.d deed), some (.d stamp), some (.d sl), none]
          refine ⟨rfl, nn1, game, rfl, fit_sFit (hm game (by simp)), bKG (fun b3 => ?_) fun b3 => qB (Q := Qd) (b := false) h (by simp only [e2, b3, Bool.and_false, Bool.false_and, Bool.and_true, Bool.true_and])⟩
          refine ⟨rfl, nn3, player, 0, some 3, rfl, bKG (fun b4 => ?_) fun b4 => qB (Q := Qd) (b := false) h (by simp only [e2, b3, b4, Bool.and_false, Bool.false_and, Bool.and_true, Bool.true_and])⟩
          refine ⟨rfl, nn3, place, 1, some 99, rfl, bKG (fun b5 => ?_) fun b5 => qB (Q := Qd) (b := false) h (by simp only [e2, b3, b4, b5, Bool.and_false, Bool.false_and, Bool.and_true, Bool.true_and])⟩
          refine ⟨rfl, nn3, seen, 0, none, rfl, bKG (fun b6 => ?_) fun b6 => qB (Q := Qd) (b := false) h (by simp only [e2, b3, b4, b5, b6, Bool.and_false, Bool.false_and, Bool.and_true, Bool.true_and])⟩
          refine ⟨rfl, nn3, stamp, 0, none, rfl, bKG (fun b7 => ?_) fun b7 => qB (Q := Qd) (b := false) h (by simp only [e2, b3, b4, b5, b6, b7, Bool.and_false, Bool.false_and, Bool.and_true, Bool.true_and])⟩
          refine ⟨rfl, nn1, deed, rfl, hm deed (by simp), bKG (fun b8 => ?_) fun b8 => qB (Q := Qd) (b := false) h (by simp only [e2, b3, b4, b5, b6, b7, b8, Bool.and_false, Bool.false_and, Bool.and_true, Bool.true_and])⟩
          refine ⟨(show 3 ≤ sizeLine by decide), trivial, rfl, nn3, ahead, 0, some DW.M30, rfl, rfl, nn3, mark, 0, some DW.M30, rfl, rfl, nn3, sl, 0, some DW.M30, rfl, _, _, rfl, rfl, ?_⟩
          exact qB (Q := Qd) h (by simp only [e2, b3, b4, b5, b6, b7, b8, Bool.true_and, List.all_cons, List.all_nil, id, Bool.and_true, Bool.and_assoc])
      | _ => exact h
  | _ => exact h

end
end K87
set_option Elab.async false
set_option linter.all false
set_option maxRecDepth 100000
set_option maxHeartbeats 4000000
namespace K87
open PySem PySem.Spec PyProof.Rows L2 PD
theorem strs_map : ∀ l : List Str, strsOf (l.map .str) = some l
  | [] => rfl
  | a :: l => by simp only [List.map_cons, strsOf, strs_map l, Option.map_some]
theorem strI_eq (i : Int) : Str.ofString (toString i) = DW.strI i := rfl
theorem wordOk_len {m : Int} {z : Str} (h : DW.wordOk m z = true) : (z.length : Int) ≤ m := by
  simp only [DW.wordOk, Bool.and_eq_true, decide_eq_true_eq] at h
  exact h.2.1
/-- a letter's ints fit -/
structure LtFit (l : DW.Lt) : Prop where
  p : l.p.natAbs < 10 ^ 60
  pl : l.pl.natAbs < 10 ^ 60
  a : l.a.natAbs < 10 ^ 60
  s : l.s.natAbs < 10 ^ 60
  m : l.m.natAbs < 10 ^ 60
  st : l.st.natAbs < 10 ^ 60
  se : l.se.natAbs < 10 ^ 60
theorem ltFit {l : DW.Lt} (h : DW.fit l.data = true) : LtFit l := by
  have hm := fun y hy => DW.fitAll_mem (x := y) (fit_tup h).2 hy
  exact ⟨fit_int (hm _ (by simp)), fit_int (hm _ (by simp)), fit_int (hm _ (by simp)), fit_int (hm _ (by simp)), fit_int (hm _ (by simp)), fit_int (hm _ (by simp)), fit_int (hm _ (by simp))⟩
theorem ws_len {l : DW.Lt} (ok : l.ok) (ft : LtFit l) : ∀ x ∈ l.ws, x.length ≤ 60 := by
  intro x hx
  have hg := wordOk_len ok.g
  have hp := DW.strI_len ok.p0 ft.p
  have hl := DW.strI_len (i := l.pl) (by have := ok.l0; omega) ft.pl
  have ha := DW.strI_len ok.a0 ft.a
  have hs := DW.strI_len ok.s0 ft.s
  have hmm := DW.strI_len ok.m0 ft.m
  have ht := DW.strI_len ok.t0 ft.st
  obtain ⟨g, p, pl, a, s, m, d, st, se⟩ := l
  dsimp only at hg hp hl ha hs hmm ht
  cases d with
  | move n =>
    have hn := wordOk_len (show DW.wordOk 8 n = true from ok.d)
    simp only [DW.Lt.ws, DW.Dd.words, List.cons_append, List.nil_append, List.mem_cons, List.not_mem_nil, or_false] at hx
    rcases hx with rfl | rfl | rfl | rfl | rfl | rfl | rfl | rfl | rfl
    all_goals first | omega | (show (4 : Nat) ≤ 60; decide)
  | give =>
    simp only [DW.Lt.ws, DW.Dd.words, List.cons_append, List.nil_append, List.mem_cons, List.not_mem_nil, or_false] at hx
    rcases hx with rfl | rfl | rfl | rfl | rfl | rfl | rfl | rfl
    all_goals first | omega | (show (4 : Nat) ≤ 60; decide)
  | even =>
    simp only [DW.Lt.ws, DW.Dd.words, List.cons_append, List.nil_append, List.mem_cons, List.not_mem_nil, or_false] at hx
    rcases hx with rfl | rfl | rfl | rfl | rfl | rfl | rfl | rfl
    all_goals first | omega | (show (4 : Nat) ≤ 60; decide)
theorem ws_count (l : DW.Lt) : l.ws.length ≤ 9 := by
  obtain ⟨g, p, pl, a, s, m, d, st, se⟩ := l
  cases d <;> simp [DW.Lt.ws, DW.Dd.words]
theorem sum_le {n : Nat} : ∀ {l : List Str}, (∀ x ∈ l, x.length ≤ n) → (l.map (·.length)).sum ≤ l.length * n
  | [], _ => by simp
  | a :: l, h => by
    have h1 := h a List.mem_cons_self
    have h2 := sum_le (n := n) (l := l) fun x hx => h x (List.mem_cons_of_mem _ hx)
    simp only [List.map_cons, List.sum_cons, List.length_cons]
    rw [Nat.add_mul]
    omega
theorem join_len_le (sep : Str) {n : Nat} : ∀ {l : List Str}, (∀ x ∈ l, x.length ≤ n) → (Txt.join sep l).length ≤ l.length * (n + sep.length)
  | [], _ => by rw [TL.join_eq]; exact Nat.zero_le _
  | [a], h => by
    rw [TL.join_eq]
    have h1 := h a List.mem_cons_self
    show a.length ≤ _
    simp only [List.length_singleton]
    omega
  | a :: b :: r, h => by
    have h1 := h a List.mem_cons_self
    have h2 := join_len_le sep (n := n) (l := b :: r) fun x hx => h x (List.mem_cons_of_mem _ hx)
    rw [TL.join_eq] at h2 ⊢
    show (a ++ sep ++ Str.join sep (b :: r)).length ≤ _
    have e : ∀ x y : Str, (x ++ y).length = x.length + y.length := fun x y => by rw [TL.len_tl, TL.tl_append, List.length_append, ← TL.len_tl, ← TL.len_tl]
    rw [e, e]
    simp only [List.length_cons] at h2 ⊢
    rw [Nat.add_mul]
    omega
theorem len_app (x y : Str) : (x ++ y).length = x.length + y.length := by rw [TL.len_tl, TL.tl_append, List.length_append, ← TL.len_tl, ← TL.len_tl]
theorem join_fits {l : List Str} (h : ∀ x ∈ l, x.length ≤ 10000) (hl : l.length ≤ 1000) : (l.map (·.length)).sum + l.length * (" " : Str).length ≤ 16777216 := by
  have h1 := sum_le h
  have h2 : (" " : Str).length = 1 := by decide
  rw [h2]
  have h3 : l.length * 10000 ≤ 1000 * 10000 := Nat.mul_le_mul_right _ hl
  omega

section
variable {P : Program} {w : World} {K : PySem.W.Frag} {mg : Str → Option Value} {base : Heap}
theorem ok_plain_text (c : Tx K w mg) : FnOk P w K mg base (L2.CX P w) 1 (He.ga K "plain_text") (fdOf K (He.ga K "plain_text")) ["letter"] (lift K (fun _ xs Q _ => ∃ l : DW.Lt, xs = [.d l.data] ∧ l.ok ∧ LtFit l ∧ Q (.d (.str l.plain))) 1) := by
  refine fn_ok c.fd_plain_text sc_plain_text rfl fun cdv A outer s I H E R hr => ⟨_, _, (dss_cons flat_of (ds_set (i := 1) sc_plain_text.nd rfl (by first | exact .inl rfl | exact .inr rfl) (de_op op_cat' (od_add rfl) (de_op op_cat' (od_add rfl) (de_lc (own := [("part", 2)]) rfl sc_plain_text.nd (di_any (de_slice (de_var (pv 0)) (do_some de_int) (do_some de_int) rfl) rfl) (blkOk_by (N := ["letter", "words", "part"]) (sc := defScope (top 22)) (by decide +kernel)) (fun _ _ _ _ _ => (dg_name (i := 2) sc_plain_text.nd rfl (by first | exact .inl rfl | exact .inr rfl))) (fun _ _ _ _ _ => dts_nil) (fun _ _ _ _ _ => (de_callTy call_strX cd_str (by rfl) c.f_str b_str (da_cons (de_var (pv 2)) da_nil))) (tgt_name (by decide)) s) (de_callTy call_list_of (cd_list rfl) (by rfl) c.f_list b_list (da_cons (de_ix (de_var (pv 0)) de_int (fun _ _ => rfl) rfl) da_nil))) (de_lst (da_cons (de_callTy call_strX cd_str (by rfl) c.f_str b_str (da_cons (de_ix (de_var (pv 0)) de_int (fun _ _ => rfl) rfl) da_nil)) da_nil))))
      (dss_one (ds_ret (de_meth (md_join rfl) de_str (da_cons (de_var (pv 1)) da_nil) rfl (fun q q' => pe_bm PySem.F.plainAttrs_str PySem.F.slot_str_join PySem.F.type_str_join (mt_join) q q'))))), fun xs Qd Ed hl h => ?_⟩
  obtain ⟨l, rfl, ok, ft, h⟩ := h
  have hw : ∀ x ∈ l.ws, x.length ≤ 10000 := fun x hx => Nat.le_trans (ws_len ok ft x hx) (by decide)
  have hj := join_fits hw (Nat.le_trans (ws_count l) (by decide))
  obtain ⟨g, p, pl, a, s, m, d, st, se⟩ := l
  have lg : ∀ {i : Int}, i.natAbs < 10 ^ 60 → i.natAbs.log2 < 1920 := fun h => DW.log2_lt h
  cases d with
  | move n =>
    refine ⟨trivial, ⟨lg ft.p, lg ft.pl, lg ft.a, lg ft.s, lg ft.m, ?_⟩⟩
    refine ⟨_, atI_nat (j := 7) rfl, _, rfl, (show 8 ≤ sizeLine by decide), _, atI_nat (j := 8) rfl, lg ft.st, (show 1 ≤ sizeLine by decide), (show 9 ≤ sizeLine by decide), ?_⟩
    exact ⟨rfl, _, _, rfl, rfl, hj, h⟩
  | give =>
    refine ⟨trivial, ⟨lg ft.p, lg ft.pl, lg ft.a, lg ft.s, lg ft.m, ?_⟩⟩
    refine ⟨_, atI_nat (j := 7) rfl, _, rfl, (show 7 ≤ sizeLine by decide), _, atI_nat (j := 8) rfl, lg ft.st, (show 1 ≤ sizeLine by decide), (show 8 ≤ sizeLine by decide), ?_⟩
    exact ⟨rfl, _, _, rfl, rfl, hj, h⟩
  | even =>
    refine ⟨trivial, ⟨lg ft.p, lg ft.pl, lg ft.a, lg ft.s, lg ft.m, ?_⟩⟩
    refine ⟨_, atI_nat (j := 7) rfl, _, rfl, (show 7 ≤ sizeLine by decide), _, atI_nat (j := 8) rfl, lg ft.st, (show 1 ≤ sizeLine by decide), (show 8 ≤ sizeLine by decide), ?_⟩
    exact ⟨rfl, _, _, rfl, rfl, hj, h⟩


theorem ok_letter_text (c : Tx K w mg) : FnOk P w K mg base (L2.CX P w) 4 (He.ga K "letter_text") (fdOf K (He.ga K "letter_text")) ["letter"] (lift K (fun _ xs Q E => ∃ d, xs = [.d d] ∧ DW.fit d = true ∧ (if DW.isLetter d = true then Q (.d (.str (DW.letterText d))) else E (exNL K))) 1) := by
  refine fn_ok c.fd_letter_text sc_letter_text rfl fun cdv A outer s I H E R hr => ⟨_, _, (dss_cons flat_of (ds_if (dt_not (dt_val (de_fnC (ok_is_letter c) (hr.mono (by decide)) (by rfl) c.g_is_letter c.fd_is_letter.kp (bd_is_letter c) (takesC (takes_of rfl rfl rfl rfl)) rfl (da_cons (de_var (pv 0)) da_nil)))) (dss_one (ds_raise rfl (takes_of rfl rfl rfl rfl) (dm_own PySem.F.excBase_ValueError c.ex_NoLetter c.g_NoLetter c.kc_NoLetter (raises_own c.sb_NoLetter c.ty_NoLetter) rfl))) dss_nil)
      (dss_one (ds_ret (de_op op_cat' (od_add rfl) (de_op op_cat' (od_add rfl) (de_fnC (ok_plain_text c) (hr.mono (by decide)) (by rfl) c.g_plain_text c.fd_plain_text.kp (bd_plain_text c) (takesC (takes_of rfl rfl rfl rfl)) rfl (da_cons (de_var (pv 0)) da_nil)) de_str) (de_callTy call_strX cd_str (by rfl) c.f_str b_str (da_cons (de_ix (de_var (pv 0)) de_int (fun _ _ => rfl) rfl) da_nil)))))), fun xs Qd Ed hl h => ?_⟩
  obtain ⟨d, rfl, hf, h⟩ := h
  refine ⟨rfl, nn1, d, rfl, hf, bKG (fun b1 => ?_) fun b1 => ?_⟩
  · rw [if_pos b1] at h
    obtain ⟨l, rfl, ok⟩ := DW.letter_inv b1
    have ft := ltFit hf
    have hp : l.plain.length ≤ 9 * 61 := by
      have := join_len_le " " (n := 60) (ws_len ok ft)
      have h1 : (" " : Str).length = 1 := by decide
      rw [h1] at this
      exact Nat.le_trans this (Nat.mul_le_mul_right _ (ws_count l))
    rw [DW.letterText_data] at h
    have h9 := DW.strI_len ok.e0 ft.se
    refine ⟨rfl, nn1, l, rfl, ok, ft, ?_⟩
    refine ⟨by have h1 : (" " : Str).length = 1 := (by decide); have : l.plain.length + 1 ≤ sizeLine := Nat.le_trans (by omega) (show 600 ≤ sizeLine by decide); exact this, ?_⟩
    refine ⟨_, atI_nat (j := 9) rfl, DW.log2_lt ft.se, ?_, h⟩
    have e : (l.plain ++ " " : Str).length = l.plain.length + 1 := by rw [len_app]; rfl
    show (l.plain ++ " " : Str).length + (DW.strI l.se).length ≤ sizeLine
    rw [e]
    exact Nat.le_trans (by omega) (show 700 ≤ sizeLine by decide)
  · rw [if_neg (by rw [b1]; decide)] at h
    exact h

end
end K87
set_option Elab.async false
set_option linter.all false
set_option maxRecDepth 100000
set_option maxHeartbeats 4000000
namespace K87
open PySem PySem.Spec PyProof.Rows L2 PD
def optK {α : Type} (o : Option α) (f : α → Prop) (n : Prop) : Prop := match o with
  | some a => f a
  | none => n
theorem optG {α : Type} {o : Option α} {f : α → Prop} {n : Prop} (hs : ∀ a, o = some a → f a) (hn : o = none → n) : optK o f n := by
  cases o with
  | some a => exact hs a rfl
  | none => exact hn rfl
theorem fig_range {c : Nat} (h : DW.isFig c = true) : 48 ≤ c ∧ c ≤ 57 := by
  have : c ∈ DW.F10.cps.toList := of_decide_eq_true h
  have e : DW.F10.cps.toList = [48, 49, 50, 51, 52, 53, 54, 55, 56, 57] := by decide +kernel
  rw [e] at this
  simp only [List.mem_cons, List.not_mem_nil, or_false] at this
  omega
theorem figs_int {z : Str} (h1 : 1 ≤ z.length) (h2 : z.length ≤ 640) (h : z.cps.toList.all DW.isFig = true) : ∃ n, intText? z = some n := by
  refine ⟨_, intText_digits (x := z) (fun c hc => fig_range (List.all_eq_true.mp h c hc)) (fun e => ?_) (by omega)⟩
  have : z.length = z.cps.toList.length := by rw [Array.length_toList]; rfl
  rw [e] at this
  simp at this
  omega
theorem lcGo_f {body : PyData → (Option PyData → Prop) → Prop} {f : PyData → PyData} {Q : List PyData → Prop} : ∀ {l : List PyData} {acc : List PyData}, (∀ a ∈ l, ∀ K : Option PyData → Prop, K (some (f a)) → body a K) → Q (acc ++ l.map f) → lcGo body l acc Q
  | [], acc, _, q => by show Q acc; simpa using q
  | a :: l, acc, h, q => h a List.mem_cons_self _ (lcGo_f (fun b hb => h b (List.mem_cons_of_mem _ hb)) (by simpa using q))
theorem names_of {xs : List PyData} (h : xs.all DW.isName = true) : xs = (xs.map DW.strD).map .str := by
  induction xs with
  | nil => rfl
  | cons x xs ih =>
    simp only [List.all_cons, Bool.and_eq_true] at h
    obtain ⟨z, rfl, _⟩ := DW.isName_inv h.1
    simp only [List.map_cons]
    rw [← ih h.2]
    rfl

section
variable {P : Program} {w : World} {K : PySem.W.Frag} {mg : Str → Option Value} {base : Heap}
theorem ok_number_in (c : Tx K w mg) : FnOk P w K mg base (L2.CX P w) 1 (He.ga K "number_in") (fdOf K (He.ga K "number_in")) ["word"] (lift K (fun _ xs Q _ => ∃ z, xs = [.d (.str z)] ∧ z.length ≤ sizeLine ∧ Q (.d (DW.optI (DW.numIn z)))) 1) := by
  refine fn_ok c.fd_number_in sc_number_in rfl fun cdv A outer s I H E R hr => ⟨_, _, (dss_cons flat_of (ds_if (dw_or (dt_not (dt_chain op_le op_le od_intB od_intB de_int (de_callB call_len (cd_len rfl) (by rfl) c.f_len b_len (da_cons (de_var (pv 0)) da_nil)) (de_gint (by rfl) c.k_MOST_FIGURES))) (dw_or1 (dt_not (dt_val (de_callB (cr_all rfl) (cd_all rfl) (by rfl) c.f_all b_all (da_cons (de_lc (own := [("sign", 1)]) rfl sc_number_in.nd (di_any (de_var (pv 0)) rfl) (blkOk_by (N := ["word", "sign"]) (sc := defScope (top 24)) (by decide +kernel)) (fun _ _ _ _ _ => (dg_name (i := 1) sc_number_in.nd rfl (by first | exact .inl rfl | exact .inr rfl))) (fun _ _ _ _ _ => dts_nil) (fun _ _ _ _ _ => (de_cmp (op_inX (hu65 hr)) rfl (od_in rfl) (de_var (pv 1)) (de_gstr (by rfl) c.k_FIGURES))) (tgt_name (by decide)) s) da_nil)))))).dt (dss_one (ds_ret de_non)) dss_nil)
      (dss_one (ds_ret (de_if (dw_and (dt_val (de_meth (md_starts) (de_var (pv 0)) (da_cons de_str da_nil) rfl (fun q q' => pe_bm PySem.F.plainAttrs_str PySem.F.slot_str_startswith PySem.F.type_str_startswith (mt_startswith) q q'))) (dw_and1 (dt_cmp (op_neX (hu64 hr)) (nomark _) (od_ne rfl) (de_var (pv 0)) de_str))).dt de_non (de_callTy call_int_str cd_intS (by rfl) c.f_int b_int (da_cons (de_var (pv 0)) da_nil)))))), fun xs Qd Ed hl h => ?_⟩
  obtain ⟨z, rfl, hf, h⟩ := h
  refine ⟨hf, ?_⟩
  refine iteG (fun b1 => ?_) fun b1 => ?_
  · refine iteG (fun b2 => ?_) fun b2 => ?_
    · have hn : DW.numIn z = none := by
        have b2 : (!decide ((z.length : Int) ≤ 40)) = true := b2
        rw [Bool.not_eq_true'] at b2
        unfold DW.numIn; rw [b2, Bool.false_and, Bool.and_false]; rfl
      rw [hn] at h
      exact h
    · have b2 : (!decide ((z.length : Int) ≤ 40)) = false := b2
      rw [Bool.not_eq_false'] at b2
      refine ⟨hf, lcGo_map (f := fun c => .bool (DW.isFig c)) (fun c _ K k => ⟨c, rfl, k⟩) ?_⟩
      refine ⟨_, _, rfl, bools_map _, ?_⟩
      refine bKG (fun b3 => ?_) fun b3 => ?_
      · have b3 : (z.cps.toList.map DW.isFig).all id = true := b3
        rw [all_map] at b3
        have c1 : (decide ((1 : Int) ≤ (z.length : Int)) && (decide ((z.length : Int) ≤ 40) && z.cps.toList.all DW.isFig)) = true := by
          rw [Bool.and_eq_true, Bool.and_eq_true]; exact ⟨b1, b2, b3⟩
        have hn : DW.numIn z = if Txt.startswith z "0" && !(z == "0") then none else intText? z := by unfold DW.numIn; rw [if_pos c1]
        rw [hn] at h
        have p1 := of_decide_eq_true b1
        have p2 := of_decide_eq_true b2
        obtain ⟨n, en⟩ := figs_int (by omega) (by omega) b3
        refine ⟨rfl, iteG (fun b4 => ?_) fun b4 => ?_⟩
        · refine ⟨.inl rfl, bKG (fun b5 => ?_) fun b5 => ?_⟩
          · have e5 : (!(z == ("0" : Str))) = true := by rw [← eqv_str]; exact b5
            rw [b4, e5] at h
            exact h
          · have e5 : (!(z == ("0" : Str))) = false := by rw [← eqv_str]; exact b5
            rw [b4, e5, en] at h
            exact ⟨n, en, by omega, h⟩
        · rw [b4, en] at h
          exact ⟨n, en, by omega, h⟩
      · have b3 : (z.cps.toList.map DW.isFig).all id = false := b3
        rw [all_map] at b3
        have hn : DW.numIn z = none := by unfold DW.numIn; rw [b3, Bool.and_false, Bool.and_false]; rfl
        rw [hn] at h
        exact h
  · have hn : DW.numIn z = none := by
      have b1 : decide ((1 : Int) ≤ (z.length : Int)) = false := b1
      unfold DW.numIn; rw [b1, Bool.false_and]; rfl
    rw [hn] at h
    exact h

theorem ok_need (c : Tx K w mg) : FnOk P w K mg base (L2.CX P w) 3 (He.ga K "need") (fdOf K (He.ga K "need")) ["good"] (lift K (fun _ xs Q E => ∃ b, xs = [.d (.bool b)] ∧ (if b = true then Q (.d .none) else E (exNT K))) 1) := by
  refine fn_ok c.fd_need sc_need rfl fun cdv A outer s I H E R hr => ⟨_, _, (dss_one (ds_if (dt_not (dt_val (de_var (pv 0)))) (dss_one (ds_raise rfl (takes_of rfl rfl rfl rfl) (dm_one c.ox_NoText c.na_NoText c.in_NoText c.it_NoText (ok_NoText c) (hr.mono (by decide)) (bd_NoText c) passL (by rfl) c.g_NoText de_int))) dss_nil)), fun xs Qd Ed hl h => ?_⟩
  obtain ⟨b, rfl, h⟩ := h
  cases b with
  | true => exact h
  | false => exact h

theorem ok_name_in (c : Tx K w mg) : FnOk P w K mg base (L2.CX P w) 4 (He.ga K "name_in") (fdOf K (He.ga K "name_in")) ["thing"] (lift K (fun _ xs Q E => ∃ d, xs = [.d d] ∧ DW.fit d = true ∧ optK (DW.nameIn d) (fun ws => Q (.d (.list (ws.map .str)))) (E (exNT K))) 1) := by
  refine fn_ok c.fd_name_in sc_name_in rfl fun cdv A outer s I H E R hr => ⟨_, _, (dss_cons flat_of (ds_expr (de_fnC (ok_need c) (hr.mono (by decide)) (by rfl) c.g_need c.fd_need.kp (bd_need c) (takesC (takes_of rfl rfl rfl rfl)) rfl (da_cons (de_fnC (ok_is_name c) (hr.mono (by decide)) (by rfl) c.g_is_name c.fd_is_name.kp (bd_is_name c) (takesC (takes_of rfl rfl rfl rfl)) rfl (da_cons (de_var (pv 0)) da_nil)) da_nil)))
      (dss_one (ds_ret (de_lst (da_cons (de_var (pv 0)) da_nil))))), fun xs Qd Ed hl h => ?_⟩
  obtain ⟨d, rfl, hf, h⟩ := h
  refine ⟨rfl, nn1, d, rfl, fit_sFit hf, rfl, nn1, _, rfl, ?_⟩
  cases b1 : DW.isName d with
  | true =>
    obtain ⟨z, rfl, _⟩ := DW.isName_inv b1
    rw [show DW.nameIn (.str z) = some [z] by unfold DW.nameIn; rw [b1]; rfl] at h
    exact ⟨(show 1 ≤ sizeLine by decide), h⟩
  | false =>
    rw [show DW.nameIn d = none by unfold DW.nameIn; rw [b1]; rfl] at h
    exact h

theorem ok_key_in (c : Tx K w mg) : FnOk P w K mg base (L2.CX P w) 4 (He.ga K "key_in") (fdOf K (He.ga K "key_in")) ["thing"] (lift K (fun _ xs Q E => ∃ d, xs = [.d d] ∧ DW.fit d = true ∧ optK (DW.keyIn d) (fun ws => Q (.d (.list (ws.map .str)))) (E (exNT K))) 1) := by
  refine fn_ok c.fd_key_in sc_key_in rfl fun cdv A outer s I H E R hr => ⟨_, _, (dss_cons flat_of (ds_expr (de_fnC (ok_need c) (hr.mono (by decide)) (by rfl) c.g_need c.fd_need.kp (bd_need c) (takesC (takes_of rfl rfl rfl rfl)) rfl (da_cons (de_fnC (ok_is_key c) (hr.mono (by decide)) (by rfl) c.g_is_key c.fd_is_key.kp (bd_is_key c) (takesC (takes_of rfl rfl rfl rfl)) rfl (da_cons (de_var (pv 0)) da_nil)) da_nil)))
      (dss_one (ds_ret (de_lst (da_cons (de_var (pv 0)) da_nil))))), fun xs Qd Ed hl h => ?_⟩
  obtain ⟨d, rfl, hf, h⟩ := h
  refine ⟨rfl, nn1, d, rfl, fit_sFit hf, rfl, nn1, _, rfl, ?_⟩
  cases b1 : DW.isKey d with
  | true =>
    obtain ⟨z, rfl⟩ : ∃ z, d = .str z := by cases d <;> first | exact ⟨_, rfl⟩ | cases b1
    rw [show DW.keyIn (.str z) = some [z] by unfold DW.keyIn; rw [b1]; rfl] at h
    exact ⟨(show 1 ≤ sizeLine by decide), h⟩
  | false =>
    rw [show DW.keyIn d = none by unfold DW.keyIn; rw [b1]; rfl] at h
    exact h

theorem ok_number_words (c : Tx K w mg) : FnOk P w K mg base (L2.CX P w) 4 (He.ga K "number_words") (fdOf K (He.ga K "number_words")) ["thing"] (lift K (fun _ xs Q E => ∃ d, xs = [.d d] ∧ DW.fit d = true ∧ optK (DW.numW d) (fun ws => Q (.d (.list (ws.map .str)))) (E (exNT K))) 1) := by
  refine fn_ok c.fd_number_words sc_number_words rfl fun cdv A outer s I H E R hr => ⟨_, _, (dss_cons flat_of (ds_expr (de_fnC (ok_need c) (hr.mono (by decide)) (by rfl) c.g_need c.fd_need.kp (bd_need c) (takesC (takes_of rfl rfl rfl rfl)) rfl (da_cons (de_fnC (ok_is_number c) (hr.mono (by decide)) (by rfl) c.g_is_number c.fd_is_number.kp (bd_is_number c) (takesC (takes_of rfl rfl rfl rfl)) rfl (da_cons (de_var (pv 0)) (da_cons de_int (da_cons de_non da_nil)))) da_nil)))
      (dss_one (ds_ret (de_lst (da_cons (de_callTy call_strX cd_str (by rfl) c.f_str b_str (da_cons (de_var (pv 0)) da_nil)) da_nil))))), fun xs Qd Ed hl h => ?_⟩
  obtain ⟨d, rfl, hf, h⟩ := h
  refine ⟨rfl, nn3, d, 0, none, rfl, rfl, nn1, _, rfl, ?_⟩
  cases b1 : DW.isNum d 0 none with
  | true =>
    obtain ⟨i, rfl, i0, _⟩ := DW.isNum_inv b1
    rw [show DW.numW (.int i) = some [DW.strI i] by unfold DW.numW; rw [b1]; rfl] at h
    exact ⟨DW.log2_lt (fit_int hf), (show 1 ≤ sizeLine by decide), h⟩
  | false =>
    rw [show DW.numW d = none by unfold DW.numW; rw [b1]; rfl] at h
    exact h

theorem ok_names_in (c : Tx K w mg) : FnOk P w K mg base (L2.CX P w) 4 (He.ga K "names_in") (fdOf K (He.ga K "names_in")) ["thing"] (lift K (fun _ xs Q E => ∃ d, xs = [.d d] ∧ DW.fit d = true ∧ optK (DW.namesIn d) (fun ws => Q (.d (.list (ws.map .str)))) (E (exNT K))) 1) := by
  refine fn_ok c.fd_names_in sc_names_in rfl fun cdv A outer s I H E R hr => ⟨_, _, (dss_cons flat_of (ds_expr (de_fnC (ok_need c) (hr.mono (by decide)) (by rfl) c.g_need c.fd_need.kp (bd_need c) (takesC (takes_of rfl rfl rfl rfl)) rfl (da_cons (de_and (de_fnC (ok_is_row c) (hr.mono (by decide)) (by rfl) c.g_is_row c.fd_is_row.kp (bd_is_row c) (takesC (takes_of rfl rfl rfl rfl)) rfl (da_cons (de_var (pv 0)) (da_cons de_int (da_cons de_int da_nil)))) (de_one (de_callB (cr_all rfl) (cd_all rfl) (by rfl) c.f_all b_all (da_cons (de_lc (own := [("one", 1)]) rfl sc_names_in.nd (di_any (de_var (pv 0)) rfl) (blkOk_by (N := ["thing", "one"]) (sc := defScope (top 30)) (by decide +kernel)) (fun _ _ _ _ _ => (dg_name (i := 1) sc_names_in.nd rfl (by first | exact .inl rfl | exact .inr rfl))) (fun _ _ _ _ _ => dts_nil) (fun _ _ _ _ _ => (de_fnC (ok_is_name c) (hr.mono (by decide)) (by rfl) c.g_is_name c.fd_is_name.kp (bd_is_name c) takesC0 rfl (da_cons (de_var (pv 1)) da_nil))) (tgt_name (by decide)) s) da_nil)))) da_nil)))
      (dss_one (ds_ret (de_callTy call_list_of (cd_list rfl) (by rfl) c.f_list b_list (da_cons (de_var (pv 0)) da_nil))))), fun xs Qd Ed hl h => ?_⟩
  obtain ⟨d, rfl, hf, h⟩ := h
  refine ⟨rfl, nn3, d, 0, 100, rfl, ?_⟩
  refine bKG (fun b1 => ?_) fun b1 => ?_
  · cases d with
    | list ds =>
      refine ⟨trivial, lcGo_f (f := fun x => .bool (DW.isName x)) (fun x hx K k => ⟨rfl, nn1, x, rfl, fit_sFit (DW.fitAll_mem (fit_lst hf).2 hx), k⟩) ?_⟩
      refine ⟨_, _, rfl, bools_map ds, rfl, nn1, _, rfl, ?_⟩
      cases b2 : ds.all DW.isName with
      | true =>
        have b3 : (ds.map DW.isName).all id = true := by rw [all_map]; exact b2
        rw [show DW.namesIn (.list ds) = some (ds.map DW.strD) by unfold DW.namesIn; rw [b1]; show (if (true && ds.all DW.isName) = true then _ else _) = _; rw [b2]; rfl] at h
        have h : Qd (.d (.list ((ds.map DW.strD).map .str))) := h
        rw [← names_of b2] at h
        show if (ds.map DW.isName).all id = true then _ else _
        rw [if_pos b3]
        exact ⟨_, rfl, h⟩
      | false =>
        have b3 : (ds.map DW.isName).all id = false := by rw [all_map]; exact b2
        rw [show DW.namesIn (.list ds) = none by unfold DW.namesIn; rw [b1]; show (if (true && ds.all DW.isName) = true then _ else _) = _; rw [b2]; rfl] at h
        show if (ds.map DW.isName).all id = true then _ else _
        rw [if_neg (by rw [b3]; decide)]
        exact h
    | tuple ds =>
      refine ⟨trivial, lcGo_f (f := fun x => .bool (DW.isName x)) (fun x hx K k => ⟨rfl, nn1, x, rfl, fit_sFit (DW.fitAll_mem (fit_tup hf).2 hx), k⟩) ?_⟩
      refine ⟨_, _, rfl, bools_map ds, rfl, nn1, _, rfl, ?_⟩
      cases b2 : ds.all DW.isName with
      | true =>
        have b3 : (ds.map DW.isName).all id = true := by rw [all_map]; exact b2
        rw [show DW.namesIn (.tuple ds) = some (ds.map DW.strD) by unfold DW.namesIn; rw [b1]; show (if (true && ds.all DW.isName) = true then _ else _) = _; rw [b2]; rfl] at h
        have h : Qd (.d (.list ((ds.map DW.strD).map .str))) := h
        rw [← names_of b2] at h
        show if (ds.map DW.isName).all id = true then _ else _
        rw [if_pos b3]
        exact ⟨_, rfl, h⟩
      | false =>
        have b3 : (ds.map DW.isName).all id = false := by rw [all_map]; exact b2
        rw [show DW.namesIn (.tuple ds) = none by unfold DW.namesIn; rw [b1]; show (if (true && ds.all DW.isName) = true then _ else _) = _; rw [b2]; rfl] at h
        show if (ds.map DW.isName).all id = true then _ else _
        rw [if_neg (by rw [b3]; decide)]
        exact h
    | _ => cases b1
  · refine ⟨rfl, nn1, _, rfl, ?_⟩
    rw [show DW.namesIn d = none by unfold DW.namesIn; rw [b1]; rfl] at h
    exact h

end
end K87
set_option Elab.async false
set_option linter.all false
set_option maxRecDepth 100000
set_option maxHeartbeats 4000000
namespace K87
open PySem PySem.Spec PyProof.Rows L2 PD
theorem lcGoS_id {body : PyData → (Option PyData → Prop) → Prop} {Q : List PyData → Prop} : ∀ {l : List PyData} {acc : List PyData}, (∀ a ∈ l, ∀ K : Option PyData → Prop, K (some a) → body a K) → acc.length + l.length ≤ sizeLine → Q (acc ++ l) → lcGoS body l acc Q
  | [], acc, _, _, q => by show Q acc; simpa using q
  | a :: l, acc, h, hs, q => h a List.mem_cons_self _ ⟨fun _ => by simp only [List.length_cons] at hs; omega, lcGoS_id (fun b hb => h b (List.mem_cons_of_mem _ hb)) (by simp only [List.length_append, Option.toList, List.length_cons, List.length_nil] at hs ⊢; omega) (by simpa using q)⟩
theorem numW_inv {d : PyData} {ws : List Str} (h : DW.numW d = some ws) : ws = [DW.strD d] := by
  unfold DW.numW at h
  split at h
  · cases h; rfl
  · cases h
theorem nameIn_inv {d : PyData} {ws : List Str} (h : DW.nameIn d = some ws) : ws = [DW.strD d] := by
  unfold DW.nameIn at h
  split at h
  · cases h; rfl
  · cases h
theorem letterIn_some {d : PyData} (h : DW.isLetter d = true) : DW.letterIn d = some (Txt.split (DW.letterText d) " ") := by unfold DW.letterIn; rw [if_pos h]
theorem letterIn_none {d : PyData} (h : DW.isLetter d = false) : DW.letterIn d = none := by unfold DW.letterIn; rw [h]; rfl
theorem letter_len {l : DW.Lt} (ok : l.ok) (ft : LtFit l) : l.text.length ≤ 700 := by
  have := join_len_le " " (n := 60) (ws_len ok ft)
  have h1 : (" " : Str).length = 1 := by decide
  rw [h1] at this
  have h2 : l.plain.length ≤ 9 * 61 := Nat.le_trans this (Nat.mul_le_mul_right _ (ws_count l))
  have h9 := DW.strI_len ok.e0 ft.se
  have e : l.text.length = l.plain.length + 1 + (DW.strI l.se).length := by unfold DW.Lt.text; rw [len_app, len_app]; rfl
  omega

section
variable {P : Program} {w : World} {K : PySem.W.Frag} {mg : Str → Option Value} {base : Heap}
theorem ok_clock_in (c : Tx K w mg) : FnOk P w K mg base (L2.CX P w) 5 (He.ga K "clock_in") (fdOf K (He.ga K "clock_in")) ["thing"] (lift K (fun _ xs Q E => ∃ d, xs = [.d d] ∧ DW.fit d = true ∧ optK (DW.clockIn d) (fun ws => Q (.d (.list (ws.map .str)))) (E (exNT K))) 1) := by
  refine fn_ok c.fd_clock_in sc_clock_in rfl fun cdv A outer s I H E R hr => ⟨_, _, (dss_cons flat_of (ds_expr (de_fnC (ok_need c) (hr.mono (by decide)) (by rfl) c.g_need c.fd_need.kp (bd_need c) (takesC (takes_of rfl rfl rfl rfl)) rfl (da_cons (de_and (de_callB call_isi (cd_isi rfl) (by rfl) c.f_isinstance b_isinstance (da_cons (de_var (pv 0)) (da_cons (de_ty (by rfl) c.f_tuple b_tuple) da_nil))) (de_one (de_cmp (op_eqX (hu64 hr)) (nomark _) (od_eq rfl) (de_callB call_len (cd_len rfl) (by rfl) c.f_len b_len (da_cons (de_var (pv 0)) da_nil)) (de_gint (by rfl) c.k_CLOCK_PARTS)))) da_nil)))
      (dss_one (ds_ret (de_lc2X (own := [("at", 1), ("part", 2), ("word", 3)]) (vs1 := [3]) rfl rfl (takes_of rfl rfl rfl rfl) flat_of rfl sc_clock_in.nd (di_enumT (by rfl) c.f_enumerate (da_cons (de_var (pv 0)) da_nil) rfl) (blkOk_by (N := ["thing", "at", "part", "word"]) (sc := defScope (top 33)) (by decide +kernel)) (by decide) (fun _ _ _ _ _ _ tkx => (dg_tup (n := 2) rfl (dgs_cons (dg_name (i := 1) sc_clock_in.nd rfl (by first | exact .inl rfl | exact .inr rfl)) (dgs_cons (dg_name (i := 2) sc_clock_in.nd rfl (by first | exact .inl rfl | exact .inr rfl)) dgs_nil)) rfl)) (fun _ _ _ _ _ _ tkx => dts_nil) (fun _ _ _ _ _ _ tkx => (di_any (de_if (dt_cmp (op_eqX (hu64 hr)) (nomark _) (od_eq rfl) (de_var (pv 1)) de_int) (de_fnC (ok_name_in c) (hr.mono (by decide)) (by rfl) c.g_name_in c.fd_name_in.kp (bd_name_in c) tkx rfl (da_cons (de_var (pv 2)) da_nil)) (de_fnC (ok_number_words c) (hr.mono (by decide)) (by rfl) c.g_number_words c.fd_number_words.kp (bd_number_words c) tkx rfl (da_cons (de_var (pv 2)) da_nil))) rfl)) (fun _ _ _ _ _ => (dg_name (i := 3) sc_clock_in.nd rfl (by first | exact .inl rfl | exact .inr rfl))) (fun _ _ _ _ _ => dts_nil) (fun _ _ _ _ _ => (de_var (pv 3))) (tgt_tup (tgt_names (is := [1, 2]) (by decide)).1) (tgt_name (by decide)) s)))), fun xs Qd Ed hl h => ?_⟩
  obtain ⟨d, rfl, hf, h⟩ := h
  refine ⟨d, rfl, .inr (.inr (.inr (.inr rfl))), ?_⟩
  show bK _ _
  rw [isT_tuple]
  cases d with
  | tuple ds =>
    refine ⟨.inl rfl, rfl, nn1, _, rfl, iteG (fun b1 => ?_) fun b1 => ?_⟩
    · have e1 : ds.length = 6 := by
        have : ((ds.length : Int) == 6) = true := b1
        simp at this
        omega
      match ds, e1 with
      | [a1, a2, a3, a4, a5, a6], _ =>
      have hm := fun y hy => DW.fitAll_mem (x := y) (fit_tup hf).2 hy
      clear b1 e1
      refine ⟨rfl, rfl, .inl rfl, rfl, nn1, a1, rfl, hm a1 (by simp), optG (fun ws e => ?_) fun e1 => (by rw [show DW.clockIn (.tuple [a1, a2, a3, a4, a5, a6]) = none by simp only [DW.clockIn, DW.seqO, e1]] at h; exact h)⟩
      have e1 : DW.numW a1 = some [DW.strD a1] := by rw [e, numW_inv e]
      rw [numW_inv e]
      clear e
      refine ⟨trivial, lcGoS_id (fun a _ K k => k) (show 1 ≤ sizeLine by decide) ?_⟩
      refine ⟨rfl, rfl, .inl rfl, rfl, nn1, a2, rfl, hm a2 (by simp), optG (fun ws e => ?_) fun e2 => (by rw [show DW.clockIn (.tuple [a1, a2, a3, a4, a5, a6]) = none by simp only [DW.clockIn, DW.seqO, e1, e2]] at h; exact h)⟩
      have e2 : DW.numW a2 = some [DW.strD a2] := by rw [e, numW_inv e]
      rw [numW_inv e]
      clear e
      refine ⟨trivial, lcGoS_id (fun a _ K k => k) (show 2 ≤ sizeLine by decide) ?_⟩
      refine ⟨rfl, rfl, .inl rfl, rfl, nn1, a3, rfl, hm a3 (by simp), optG (fun ws e => ?_) fun e3 => (by rw [show DW.clockIn (.tuple [a1, a2, a3, a4, a5, a6]) = none by simp only [DW.clockIn, DW.seqO, e1, e2, e3]] at h; exact h)⟩
      have e3 : DW.nameIn a3 = some [DW.strD a3] := by rw [e, nameIn_inv e]
      rw [nameIn_inv e]
      clear e
      refine ⟨trivial, lcGoS_id (fun a _ K k => k) (show 3 ≤ sizeLine by decide) ?_⟩
      refine ⟨rfl, rfl, .inl rfl, rfl, nn1, a4, rfl, hm a4 (by simp), optG (fun ws e => ?_) fun e4 => (by rw [show DW.clockIn (.tuple [a1, a2, a3, a4, a5, a6]) = none by simp only [DW.clockIn, DW.seqO, e1, e2, e3, e4]] at h; exact h)⟩
      have e4 : DW.numW a4 = some [DW.strD a4] := by rw [e, numW_inv e]
      rw [numW_inv e]
      clear e
      refine ⟨trivial, lcGoS_id (fun a _ K k => k) (show 4 ≤ sizeLine by decide) ?_⟩
      refine ⟨rfl, rfl, .inl rfl, rfl, nn1, a5, rfl, hm a5 (by simp), optG (fun ws e => ?_) fun e5 => (by rw [show DW.clockIn (.tuple [a1, a2, a3, a4, a5, a6]) = none by simp only [DW.clockIn, DW.seqO, e1, e2, e3, e4, e5]] at h; exact h)⟩
      have e5 : DW.numW a5 = some [DW.strD a5] := by rw [e, numW_inv e]
      rw [numW_inv e]
      clear e
      refine ⟨trivial, lcGoS_id (fun a _ K k => k) (show 5 ≤ sizeLine by decide) ?_⟩
      refine ⟨rfl, rfl, .inl rfl, rfl, nn1, a6, rfl, hm a6 (by simp), optG (fun ws e => ?_) fun e6 => (by rw [show DW.clockIn (.tuple [a1, a2, a3, a4, a5, a6]) = none by simp only [DW.clockIn, DW.seqO, e1, e2, e3, e4, e5, e6]] at h; exact h)⟩
      have e6 : DW.numW a6 = some [DW.strD a6] := by rw [e, numW_inv e]
      rw [numW_inv e]
      clear e
      refine ⟨trivial, lcGoS_id (fun a _ K k => k) (show 6 ≤ sizeLine by decide) ?_⟩
      rw [show DW.clockIn (.tuple [a1, a2, a3, a4, a5, a6]) = some [DW.strD a1, DW.strD a2, DW.strD a3, DW.strD a4, DW.strD a5, DW.strD a6] by simp only [DW.clockIn, DW.seqO, e1, e2, e3, e4, e5, e6, List.cons_append, List.nil_append, List.append_nil]] at h
      exact h
    · have e1 : ((ds.length : Int) == 6) = false := b1
      have e2 : DW.clockIn (.tuple ds) = none := by
        unfold DW.clockIn
        split
        · rename_i heq
          cases heq
          cases e1
        · rfl
      rw [e2] at h
      exact h
  | _ => exact ⟨rfl, nn1, _, rfl, h⟩

theorem ok_letter_in (c : Tx K w mg) : FnOk P w K mg base (L2.CX P w) 5 (He.ga K "letter_in") (fdOf K (He.ga K "letter_in")) ["thing"] (lift K (fun _ xs Q E => ∃ d, xs = [.d d] ∧ DW.fit d = true ∧ optK (DW.letterIn d) (fun ws => Q (.d (.list (ws.map .str)))) (E (exNT K))) 1) := by
  refine fn_ok c.fd_letter_in sc_letter_in rfl fun cdv A outer s I H E R hr => ⟨_, _, (dss_cons flat_of (ds_expr (de_fnC (ok_need c) (hr.mono (by decide)) (by rfl) c.g_need c.fd_need.kp (bd_need c) (takesC (takes_of rfl rfl rfl rfl)) rfl (da_cons (de_fnC (ok_is_letter c) (hr.mono (by decide)) (by rfl) c.g_is_letter c.fd_is_letter.kp (bd_is_letter c) (takesC (takes_of rfl rfl rfl rfl)) rfl (da_cons (de_var (pv 0)) da_nil)) da_nil)))
      (dss_one (ds_ret (de_meth (md_split) (de_fnC (ok_letter_text c) (hr.mono (by decide)) (by rfl) c.g_letter_text c.fd_letter_text.kp (bd_letter_text c) (takesC (takes_of rfl rfl rfl rfl)) rfl (da_cons (de_var (pv 0)) da_nil)) (da_cons de_str da_nil) rfl (fun q q' => pe_bm PySem.F.plainAttrs_str PySem.F.slot_str_split PySem.F.type_str_split (mt_split) q q'))))), fun xs Qd Ed hl h => ?_⟩
  obtain ⟨d, rfl, hf, h⟩ := h
  refine ⟨rfl, nn1, d, rfl, hf, rfl, nn1, _, rfl, ?_⟩
  cases b1 : DW.isLetter d with
  | true =>
    rw [letterIn_some b1] at h
    obtain ⟨l, rfl, ok⟩ := DW.letter_inv b1
    rw [DW.letterText_data] at h
    have hl := letter_len ok (ltFit hf)
    refine ⟨rfl, nn1, _, rfl, hf, ?_⟩
    rw [b1, if_pos rfl, DW.letterText_data]
    refine ⟨rfl, rfl, Nat.le_trans (show l.text.length + 2 ≤ 702 by omega) (by decide), Nat.le_trans (split_le _ _) (Nat.le_trans (show l.text.length + 2 ≤ 702 by omega) (by decide)), h⟩
  | false =>
    rw [letterIn_none b1] at h
    exact h

end
end K87
set_option Elab.async false
set_option linter.all false
set_option maxRecDepth 100000
set_option maxHeartbeats 4000000
namespace K87
open PySem PySem.Spec PyProof.Rows L2 PD
theorem skipG {a b : Str} {A B : Prop} (h : (a == b) = false) (k : B) : if PyData.eqv (.str a) (.str b) = true then A else B := by
  rw [if_neg (by rw [eqv_str, h]; decide)]
  exact k
theorem takeG {a b : Str} {A B : Prop} (h : (a == b) = true) (k : A) : if PyData.eqv (.str a) (.str b) = true then A else B := by
  rw [if_pos (by rw [eqv_str, h])]
  exact k
theorem skipB {a b : Str} {Q : Bool → Prop} (h : (a == b) = false) (k : Q false) : bK Q (.d (.bool ((fun b => b) (PyData.eqv (.str a) (.str b))))) := by
  show Q (PyData.eqv (.str a) (.str b))
  rw [eqv_str, h]
  exact k
theorem takeB {a b : Str} {Q : Bool → Prop} (h : (a == b) = true) (k : Q true) : bK Q (.d (.bool ((fun b => b) (PyData.eqv (.str a) (.str b))))) := by
  show Q (PyData.eqv (.str a) (.str b))
  rw [eqv_str, h]
  exact k
theorem keyIn_inv {d : PyData} {ws : List Str} (h : DW.keyIn d = some ws) : ws = [DW.strD d] := by
  unfold DW.keyIn at h
  split at h
  · cases h; rfl
  · cases h
theorem namesIn_len {d : PyData} {ws : List Str} (h : DW.namesIn d = some ws) : ws.length ≤ 100 := by
  unfold DW.namesIn at h
  split at h
  · rename_i c
    rw [Bool.and_eq_true] at c
    cases h
    rw [List.length_map]
    have c1 := c.1
    unfold DW.isRow at c1
    split at c1
    · simp [DW.isNum] at c1; simp only [DW.itemsD]; omega
    · simp [DW.isNum] at c1; simp only [DW.itemsD]; omega
    · cases c1
  · cases h
theorem seqO_some {a : Option (List Str)} {r : List (Option (List Str))} {ws : List Str} (h : DW.seqO (a :: r) = some ws) : ∃ x y, a = some x ∧ DW.seqO r = some y ∧ ws = x ++ y := by
  cases a with
  | none => cases h
  | some x =>
    simp only [DW.seqO] at h
    cases e : DW.seqO r with
    | none => rw [e] at h; cases h
    | some y => rw [e] at h; cases h; exact ⟨x, y, rfl, rfl, rfl⟩
theorem clockIn_len {d : PyData} {ws : List Str} (h : DW.clockIn d = some ws) : ws.length = 6 := by
  unfold DW.clockIn at h
  split at h
  · obtain ⟨x1, y1, e1, h1, z1⟩ := seqO_some h
    obtain ⟨x2, y2, e2, h2, z2⟩ := seqO_some h1
    obtain ⟨x3, y3, e3, h3, z3⟩ := seqO_some h2
    obtain ⟨x4, y4, e4, h4, z4⟩ := seqO_some h3
    obtain ⟨x5, y5, e5, h5, z5⟩ := seqO_some h4
    obtain ⟨x6, y6, e6, h6, z6⟩ := seqO_some h5
    cases h6
    rw [z1, z2, z3, z4, z5, z6]
    rw [numW_inv e1, numW_inv e2, nameIn_inv e3, numW_inv e4, numW_inv e5, numW_inv e6]
    rfl
  · cases h
theorem letterIn_len {d : PyData} {ws : List Str} (hf : DW.fit d = true) (h : DW.letterIn d = some ws) : ws.length ≤ 702 := by
  unfold DW.letterIn at h
  split at h
  · rename_i c
    cases h
    obtain ⟨l, rfl, ok⟩ := DW.letter_inv c
    rw [DW.letterText_data]
    have := letter_len ok (ltFit hf)
    exact Nat.le_trans (split_le _ _) (by omega)
  · cases h
theorem sz {n : Nat} (h : n ≤ 10000) : n ≤ sizeLine := Nat.le_trans h (by decide)
theorem len1 {α : Type} {x : α} {l : List α} (h : l = [x]) : l.length = 1 := by rw [h]; rfl
theorem sizes_inv {w : Str} {n : Nat} (h : (DW.sizes.lookup w).getD 0 = (n : Int) + 1) : (w = "member" ∧ n = 2) ∨ (w = "open" ∧ n = 4) ∨ (w = "hear" ∧ n = 1) ∨ (w = "tick" ∧ n = 1) ∨ (w = "day" ∧ n = 0) ∨ (w = "claim" ∧ n = 2) ∨ (w = "cup" ∧ n = 5) ∨ (w = "round" ∧ n = 1) := by
  unfold DW.sizes at h
  simp only [List.lookup] at h
  split at h
  · rename_i e; have e := eq_of_beq e; simp at h; left; exact ⟨e, by omega⟩
  split at h
  · rename_i e; have e := eq_of_beq e; simp at h; right; left; exact ⟨e, by omega⟩
  split at h
  · rename_i e; have e := eq_of_beq e; simp at h; right; right; left; exact ⟨e, by omega⟩
  split at h
  · rename_i e; have e := eq_of_beq e; simp at h; right; right; right; left; exact ⟨e, by omega⟩
  split at h
  · rename_i e; have e := eq_of_beq e; simp at h; right; right; right; right; left; exact ⟨e, by omega⟩
  split at h
  · rename_i e; have e := eq_of_beq e; simp at h; right; right; right; right; right; left; exact ⟨e, by omega⟩
  split at h
  · rename_i e; have e := eq_of_beq e; simp at h; right; right; right; right; right; right; left; exact ⟨e, by omega⟩
  split at h
  · rename_i e; have e := eq_of_beq e; simp at h; right; right; right; right; right; right; right; exact ⟨e, by omega⟩
  · simp at h; omega
theorem w_member {a b : PyData} : DW.wordsOf "member" [a, b] = DW.seqO [DW.nameIn a, DW.keyIn b] := rfl
theorem w_open {a b c d : PyData} : DW.wordsOf "open" [a, b, c, d] = DW.seqO [DW.nameIn a, DW.nameIn b, DW.namesIn c, DW.clockIn d] := rfl
theorem w_hear {a : PyData} : DW.wordsOf "hear" [a] = DW.letterIn a := rfl
theorem w_tick {a : PyData} : DW.wordsOf "tick" [a] = DW.numW a := rfl
theorem w_claim {a b : PyData} : DW.wordsOf "claim" [a, b] = DW.seqO [DW.letterIn a, some ["/"], DW.letterIn b] := rfl
theorem w_cup {a b c d e : PyData} : DW.wordsOf "cup" [a, b, c, d, e] = DW.seqO [DW.nameIn a, DW.numW c, DW.nameIn d, DW.clockIn e, DW.namesIn b] := rfl
theorem w_day : DW.wordsOf "day" [] = some [] := rfl
theorem w_round {a : PyData} : DW.wordsOf "round" [a] = DW.nameIn a := rfl

section
variable {P : Program} {w : World} {K : PySem.W.Frag} {mg : Str → Option Value} {base : Heap}
theorem ok_words_of (c : Tx K w mg) : FnOk P w K mg base (L2.CX P w) 6 (He.ga K "words_of") (fdOf K (He.ga K "words_of")) ["word", "parts"] (lift K (fun _ xs Q E => ∃ w ps, xs = [.d (.str w), .d (.list ps)] ∧ DW.fitAll ps = true ∧ (DW.sizes.lookup w).getD 0 = (ps.length : Int) + 1 ∧ optK (DW.wordsOf w ps) (fun ws => Q (.d (.list (ws.map .str)))) (E (exNT K))) 2) := by
  refine fn_ok c.fd_words_of sc_words_of rfl fun cdv A outer s I H E R hr => ⟨_, _, (dss_cons flat_of (ds_if (dt_cmp (op_eqX (hu64 hr)) (nomark _) (od_eq rfl) (de_var (pv 0)) de_str) (dss_one (ds_ret (de_op op_cat' (od_add rfl) (de_fnC (ok_name_in c) (hr.mono (by decide)) (by rfl) c.g_name_in c.fd_name_in.kp (bd_name_in c) (takesC (takes_of rfl rfl rfl rfl)) rfl (da_cons (de_ix (de_var (pv 1)) de_int (fun _ _ => rfl) rfl) da_nil)) (de_fnC (ok_key_in c) (hr.mono (by decide)) (by rfl) c.g_key_in c.fd_key_in.kp (bd_key_in c) (takesC (takes_of rfl rfl rfl rfl)) rfl (da_cons (de_ix (de_var (pv 1)) de_int (fun _ _ => rfl) rfl) da_nil))))) dss_nil)
      (dss_cons flat_of (ds_if (dt_cmp (op_eqX (hu64 hr)) (nomark _) (od_eq rfl) (de_var (pv 0)) de_str) (dss_one (ds_ret (de_op op_cat' (od_add rfl) (de_op op_cat' (od_add rfl) (de_op op_cat' (od_add rfl) (de_fnC (ok_name_in c) (hr.mono (by decide)) (by rfl) c.g_name_in c.fd_name_in.kp (bd_name_in c) (takesC (takes_of rfl rfl rfl rfl)) rfl (da_cons (de_ix (de_var (pv 1)) de_int (fun _ _ => rfl) rfl) da_nil)) (de_fnC (ok_name_in c) (hr.mono (by decide)) (by rfl) c.g_name_in c.fd_name_in.kp (bd_name_in c) (takesC (takes_of rfl rfl rfl rfl)) rfl (da_cons (de_ix (de_var (pv 1)) de_int (fun _ _ => rfl) rfl) da_nil))) (de_fnC (ok_names_in c) (hr.mono (by decide)) (by rfl) c.g_names_in c.fd_names_in.kp (bd_names_in c) (takesC (takes_of rfl rfl rfl rfl)) rfl (da_cons (de_ix (de_var (pv 1)) de_int (fun _ _ => rfl) rfl) da_nil))) (de_fnC (ok_clock_in c) (hr.mono (by decide)) (by rfl) c.g_clock_in c.fd_clock_in.kp (bd_clock_in c) (takesC (takes_of rfl rfl rfl rfl)) rfl (da_cons (de_ix (de_var (pv 1)) de_int (fun _ _ => rfl) rfl) da_nil))))) dss_nil)
      (dss_cons flat_of (ds_if (dt_cmp (op_eqX (hu64 hr)) (nomark _) (od_eq rfl) (de_var (pv 0)) de_str) (dss_one (ds_ret (de_fnC (ok_letter_in c) (hr.mono (by decide)) (by rfl) c.g_letter_in c.fd_letter_in.kp (bd_letter_in c) (takesC (takes_of rfl rfl rfl rfl)) rfl (da_cons (de_ix (de_var (pv 1)) de_int (fun _ _ => rfl) rfl) da_nil)))) dss_nil)
      (dss_cons flat_of (ds_if (dt_cmp (op_eqX (hu64 hr)) (nomark _) (od_eq rfl) (de_var (pv 0)) de_str) (dss_one (ds_ret (de_fnC (ok_number_words c) (hr.mono (by decide)) (by rfl) c.g_number_words c.fd_number_words.kp (bd_number_words c) (takesC (takes_of rfl rfl rfl rfl)) rfl (da_cons (de_ix (de_var (pv 1)) de_int (fun _ _ => rfl) rfl) da_nil)))) dss_nil)
      (dss_cons flat_of (ds_if (dt_cmp (op_eqX (hu64 hr)) (nomark _) (od_eq rfl) (de_var (pv 0)) de_str) (dss_one (ds_ret (de_op op_cat' (od_add rfl) (de_op op_cat' (od_add rfl) (de_fnC (ok_letter_in c) (hr.mono (by decide)) (by rfl) c.g_letter_in c.fd_letter_in.kp (bd_letter_in c) (takesC (takes_of rfl rfl rfl rfl)) rfl (da_cons (de_ix (de_var (pv 1)) de_int (fun _ _ => rfl) rfl) da_nil)) (de_lst (da_cons de_str da_nil))) (de_fnC (ok_letter_in c) (hr.mono (by decide)) (by rfl) c.g_letter_in c.fd_letter_in.kp (bd_letter_in c) (takesC (takes_of rfl rfl rfl rfl)) rfl (da_cons (de_ix (de_var (pv 1)) de_int (fun _ _ => rfl) rfl) da_nil))))) dss_nil)
      (dss_cons flat_of (ds_if (dt_cmp (op_eqX (hu64 hr)) (nomark _) (od_eq rfl) (de_var (pv 0)) de_str) (dss_cons flat_of (ds_set (i := 2) sc_words_of.nd rfl (by first | exact .inl rfl | exact .inr rfl) (de_op op_cat' (od_add rfl) (de_op op_cat' (od_add rfl) (de_fnC (ok_name_in c) (hr.mono (by decide)) (by rfl) c.g_name_in c.fd_name_in.kp (bd_name_in c) (takesC (takes_of rfl rfl rfl rfl)) rfl (da_cons (de_ix (de_var (pv 1)) de_int (fun _ _ => rfl) rfl) da_nil)) (de_fnC (ok_number_words c) (hr.mono (by decide)) (by rfl) c.g_number_words c.fd_number_words.kp (bd_number_words c) (takesC (takes_of rfl rfl rfl rfl)) rfl (da_cons (de_ix (de_var (pv 1)) de_int (fun _ _ => rfl) rfl) da_nil))) (de_fnC (ok_name_in c) (hr.mono (by decide)) (by rfl) c.g_name_in c.fd_name_in.kp (bd_name_in c) (takesC (takes_of rfl rfl rfl rfl)) rfl (da_cons (de_ix (de_var (pv 1)) de_int (fun _ _ => rfl) rfl) da_nil))))
      (dss_one (ds_ret (de_op op_cat' (od_add rfl) (de_op op_cat' (od_add rfl) (de_var (pv 2)) (de_fnC (ok_clock_in c) (hr.mono (by decide)) (by rfl) c.g_clock_in c.fd_clock_in.kp (bd_clock_in c) (takesC (takes_of rfl rfl rfl rfl)) rfl (da_cons (de_ix (de_var (pv 1)) de_int (fun _ _ => rfl) rfl) da_nil))) (de_fnC (ok_names_in c) (hr.mono (by decide)) (by rfl) c.g_names_in c.fd_names_in.kp (bd_names_in c) (takesC (takes_of rfl rfl rfl rfl)) rfl (da_cons (de_ix (de_var (pv 1)) de_int (fun _ _ => rfl) rfl) da_nil)))))) dss_nil)
      (dss_one (ds_ret (de_if (dt_cmp (op_eqX (hu64 hr)) (nomark _) (od_eq rfl) (de_var (pv 0)) de_str) (de_lst da_nil) (de_fnC (ok_name_in c) (hr.mono (by decide)) (by rfl) c.g_name_in c.fd_name_in.kp (bd_name_in c) (takesC (takes_of rfl rfl rfl rfl)) rfl (da_cons (de_ix (de_var (pv 1)) de_int (fun _ _ => rfl) rfl) da_nil))))))))))), fun xs Qd Ed hl h => ?_⟩
  obtain ⟨w, ps, rfl, hf, hz, h⟩ := h
  have hm := fun y hy => DW.fitAll_mem (x := y) hf hy
  rcases sizes_inv hz with ⟨rfl, hn⟩ | ⟨rfl, hn⟩ | ⟨rfl, hn⟩ | ⟨rfl, hn⟩ | ⟨rfl, hn⟩ | ⟨rfl, hn⟩ | ⟨rfl, hn⟩ | ⟨rfl, hn⟩
  · match ps, hn with
    | [a, b], _ =>
    rw [w_member] at h
    refine ⟨.inl rfl, takeB (by decide) ⟨_, a, rfl, at0, rfl, nn1, a, rfl, hm a (by simp), optG (fun ws0 e0 => ?_) fun e0 => (by rw [show DW.seqO _ = none by simp only [e0, DW.seqO]] at h; exact h)⟩⟩
    have l0 := len1 (nameIn_inv e0)
    refine ⟨_, b, rfl, at1', rfl, nn1, b, rfl, hm b (by simp), optG (fun ws1 e1 => ?_) fun e1 => (by rw [show DW.seqO _ = none by simp only [e0, e1, DW.seqO]] at h; exact h)⟩
    have l1 := len1 (keyIn_inv e1)
    refine ⟨sz (by simp only [List.length_append, List.length_map, List.length_cons, List.length_nil]; omega), ?_⟩
    simp only [e0, e1, DW.seqO, optK, List.append_nil, List.map_append, ← List.append_assoc] at h
    exact h
  · match ps, hn with
    | [a, b, c, d], _ =>
    rw [w_open] at h
    refine ⟨.inl rfl, skipB (by decide) ⟨.inl rfl, takeB (by decide) ⟨_, a, rfl, at0, rfl, nn1, a, rfl, hm a (by simp), optG (fun ws0 e0 => ?_) fun e0 => (by rw [show DW.seqO _ = none by simp only [e0, DW.seqO]] at h; exact h)⟩⟩⟩
    have l0 := len1 (nameIn_inv e0)
    refine ⟨_, b, rfl, at1', rfl, nn1, b, rfl, hm b (by simp), optG (fun ws1 e1 => ?_) fun e1 => (by rw [show DW.seqO _ = none by simp only [e0, e1, DW.seqO]] at h; exact h)⟩
    have l1 := len1 (nameIn_inv e1)
    refine ⟨sz (by simp only [List.length_append, List.length_map, List.length_cons, List.length_nil]; omega), ?_⟩
    refine ⟨_, c, rfl, atI_nat (j := 2) rfl, rfl, nn1, c, rfl, hm c (by simp), optG (fun ws2 e2 => ?_) fun e2 => (by rw [show DW.seqO _ = none by simp only [e0, e1, e2, DW.seqO]] at h; exact h)⟩
    have l2 := namesIn_len e2
    refine ⟨sz (by simp only [List.length_append, List.length_map, List.length_cons, List.length_nil]; omega), ?_⟩
    refine ⟨_, d, rfl, atI_nat (j := 3) rfl, rfl, nn1, d, rfl, hm d (by simp), optG (fun ws3 e3 => ?_) fun e3 => (by rw [show DW.seqO _ = none by simp only [e0, e1, e2, e3, DW.seqO]] at h; exact h)⟩
    have l3 := clockIn_len e3
    refine ⟨sz (by simp only [List.length_append, List.length_map, List.length_cons, List.length_nil]; omega), ?_⟩
    simp only [e0, e1, e2, e3, DW.seqO, optK, List.append_nil, List.map_append, ← List.append_assoc] at h
    exact h
  · match ps, hn with
    | [a], _ =>
    rw [w_hear] at h
    exact ⟨.inl rfl, skipB (by decide) ⟨.inl rfl, skipB (by decide) ⟨.inl rfl, takeB (by decide) ⟨_, a, rfl, at0, rfl, nn1, a, rfl, hm a (by simp), h⟩⟩⟩⟩
  · match ps, hn with
    | [a], _ =>
    rw [w_tick] at h
    exact ⟨.inl rfl, skipB (by decide) ⟨.inl rfl, skipB (by decide) ⟨.inl rfl, skipB (by decide) ⟨.inl rfl, takeB (by decide) ⟨_, a, rfl, at0, rfl, nn1, a, rfl, hm a (by simp), h⟩⟩⟩⟩⟩
  · match ps, hn with
    | [], _ =>
    exact ⟨.inl rfl, skipB (by decide) ⟨.inl rfl, skipB (by decide) ⟨.inl rfl, skipB (by decide) ⟨.inl rfl, skipB (by decide) ⟨.inl rfl, skipB (by decide) ⟨.inl rfl, skipB (by decide) ⟨.inl rfl, takeB (by decide) ⟨Nat.zero_le _, h⟩⟩⟩⟩⟩⟩⟩⟩
  · match ps, hn with
    | [a, b], _ =>
    rw [w_claim] at h
    refine ⟨.inl rfl, skipB (by decide) ⟨.inl rfl, skipB (by decide) ⟨.inl rfl, skipB (by decide) ⟨.inl rfl, skipB (by decide) ⟨.inl rfl, takeB (by decide) ⟨_, a, rfl, at0, rfl, nn1, a, rfl, hm a (by simp), optG (fun ws0 e0 => ?_) fun e0 => (by rw [show DW.seqO _ = none by simp only [e0, DW.seqO]] at h; exact h)⟩⟩⟩⟩⟩⟩
    have l0 := letterIn_len (hm a (by simp)) e0
    refine ⟨(show 1 ≤ sizeLine by decide), sz (by simp only [List.length_map, List.length_cons, List.length_nil]; omega), ?_⟩
    refine ⟨_, b, rfl, at1', rfl, nn1, b, rfl, hm b (by simp), optG (fun ws1 e1 => ?_) fun e1 => (by rw [show DW.seqO _ = none by simp only [e0, e1, DW.seqO]] at h; exact h)⟩
    have l1 := letterIn_len (hm b (by simp)) e1
    refine ⟨sz (by simp only [List.length_append, List.length_map, List.length_cons, List.length_nil]; omega), ?_⟩
    simp only [e0, e1, DW.seqO, optK, List.append_nil, List.map_append, ← List.append_assoc] at h
    exact h
  · match ps, hn with
    | [a, b, c, d, e], _ =>
    rw [w_cup] at h
    refine ⟨.inl rfl, skipB (by decide) ⟨.inl rfl, skipB (by decide) ⟨.inl rfl, skipB (by decide) ⟨.inl rfl, skipB (by decide) ⟨.inl rfl, skipB (by decide) ⟨.inl rfl, takeB (by decide) ⟨_, a, rfl, at0, rfl, nn1, a, rfl, hm a (by simp), optG (fun ws0 e0 => ?_) fun e0 => (by rw [show DW.seqO _ = none by simp only [e0, DW.seqO]] at h; exact h)⟩⟩⟩⟩⟩⟩⟩
    have l0 := len1 (nameIn_inv e0)
    refine ⟨_, c, rfl, atI_nat (j := 2) rfl, rfl, nn1, c, rfl, hm c (by simp), optG (fun ws1 e1 => ?_) fun e1 => (by rw [show DW.seqO _ = none by simp only [e0, e1, DW.seqO]] at h; exact h)⟩
    have l1 := len1 (numW_inv e1)
    refine ⟨sz (by simp only [List.length_append, List.length_map, List.length_cons, List.length_nil]; omega), ?_⟩
    refine ⟨_, d, rfl, atI_nat (j := 3) rfl, rfl, nn1, d, rfl, hm d (by simp), optG (fun ws2 e2 => ?_) fun e2 => (by rw [show DW.seqO _ = none by simp only [e0, e1, e2, DW.seqO]] at h; exact h)⟩
    have l2 := len1 (nameIn_inv e2)
    refine ⟨sz (by simp only [List.length_append, List.length_map, List.length_cons, List.length_nil]; omega), ?_⟩
    refine ⟨_, e, rfl, atI_nat (j := 4) rfl, rfl, nn1, e, rfl, hm e (by simp), optG (fun ws3 e3 => ?_) fun e3 => (by rw [show DW.seqO _ = none by simp only [e0, e1, e2, e3, DW.seqO]] at h; exact h)⟩
    have l3 := clockIn_len e3
    refine ⟨sz (by simp only [List.length_append, List.length_map, List.length_cons, List.length_nil]; omega), ?_⟩
    refine ⟨_, b, rfl, at1', rfl, nn1, b, rfl, hm b (by simp), optG (fun ws4 e4 => ?_) fun e4 => (by rw [show DW.seqO _ = none by simp only [e0, e1, e2, e3, e4, DW.seqO]] at h; exact h)⟩
    have l4 := namesIn_len e4
    refine ⟨sz (by simp only [List.length_append, List.length_map, List.length_cons, List.length_nil]; omega), ?_⟩
    simp only [e0, e1, e2, e3, e4, DW.seqO, optK, List.append_nil, List.map_append, ← List.append_assoc] at h
    exact h
  · match ps, hn with
    | [a], _ =>
    rw [w_round] at h
    exact ⟨.inl rfl, skipB (by decide) ⟨.inl rfl, skipB (by decide) ⟨.inl rfl, skipB (by decide) ⟨.inl rfl, skipB (by decide) ⟨.inl rfl, skipB (by decide) ⟨.inl rfl, skipB (by decide) ⟨.inl rfl, skipB (by decide) ⟨_, a, rfl, at0, rfl, nn1, a, rfl, hm a (by simp), h⟩⟩⟩⟩⟩⟩⟩⟩

end
end K87
set_option Elab.async false
set_option linter.all false
set_option maxRecDepth 100000
set_option maxHeartbeats 4000000
namespace K87
open PySem PySem.Spec PyProof.Rows L2 PD
theorem starG {r : TDGs} {x : PyData} {xs : List PyData} {δ : DEnv} {Q : DEnv → Prop} (h : r [x, .list xs] δ Q) : dGStar 2 1 r (.d (.tuple (x :: xs))) δ Q := by
  refine ⟨_, rfl, by simp only [List.length_cons]; omega, ?_⟩
  have e : (x :: xs).length + 1 - 2 = xs.length := by simp only [List.length_cons]; omega
  rw [e]
  show r ([x] ++ [.list (xs.take xs.length)] ++ xs.drop xs.length) δ Q
  rw [List.take_length, List.drop_length]
  exact h
theorem starL {r : TDGs} {x : PyData} {xs : List PyData} {δ : DEnv} {Q : DEnv → Prop} (h : r [x, .list xs] δ Q) : dGStar 2 1 r (.d (.list (x :: xs))) δ Q := by
  refine ⟨_, rfl, by simp only [List.length_cons]; omega, ?_⟩
  have e : (x :: xs).length + 1 - 2 = xs.length := by simp only [List.length_cons]; omega
  rw [e]
  show r ([x] ++ [.list (xs.take xs.length)] ++ xs.drop xs.length) δ Q
  rw [List.take_length, List.drop_length]
  exact h
/-- so many words, so long -/
def WL (n : Nat) (ws : List Str) : Prop := ws.length ≤ n ∧ ∀ x ∈ ws, x.length ≤ 700
theorem WL.app {n m : Nat} {a b : List Str} (h : WL n a) (k : WL m b) : WL (n + m) (a ++ b) := by
  refine ⟨by rw [List.length_append]; have := h.1; have := k.1; omega, fun x hx => ?_⟩
  rcases List.mem_append.mp hx with hx | hx
  · exact h.2 x hx
  · exact k.2 x hx
theorem WL.one {x : Str} (h : x.length ≤ 700) : WL 1 [x] := ⟨Nat.le_refl _, fun y hy => by rw [List.mem_singleton.mp hy]; exact h⟩
theorem nameIn_wl {d : PyData} {ws : List Str} (h : DW.nameIn d = some ws) : WL 1 ws := by
  unfold DW.nameIn at h
  split at h
  · rename_i c
    cases h
    obtain ⟨z, rfl, hz⟩ := DW.isName_inv c
    have := wordOk_len hz
    exact .one (show z.length ≤ 700 by omega)
  · cases h
theorem keyIn_wl {d : PyData} {ws : List Str} (h : DW.keyIn d = some ws) : WL 1 ws := by
  unfold DW.keyIn at h
  split at h
  · rename_i c
    cases h
    cases d with
    | str z =>
      have := wordOk_len (show DW.wordOk 20 z = true from c)
      exact .one (show z.length ≤ 700 by omega)
    | _ => cases c
  · cases h
theorem numW_wl {d : PyData} {ws : List Str} (hf : DW.fit d = true) (h : DW.numW d = some ws) : WL 1 ws := by
  unfold DW.numW at h
  split at h
  · rename_i c
    cases h
    obtain ⟨i, rfl, i0, _⟩ := DW.isNum_inv c
    exact .one (Nat.le_trans (DW.strI_len i0 (fit_int hf)) (by decide))
  · cases h
theorem namesIn_wl {d : PyData} {ws : List Str} (h : DW.namesIn d = some ws) : WL 100 ws := by
  have l := namesIn_len h
  unfold DW.namesIn at h
  split at h
  · rename_i c
    cases h
    rw [Bool.and_eq_true] at c
    refine ⟨l, fun x hx => ?_⟩
    obtain ⟨y, hy, rfl⟩ := List.mem_map.mp hx
    obtain ⟨z, rfl, hz⟩ := DW.isName_inv (List.all_eq_true.mp c.2 y hy)
    have := wordOk_len hz
    show z.length ≤ 700
    omega
  · cases h
theorem clockIn_wl {d : PyData} {ws : List Str} (hf : DW.fit d = true) (h : DW.clockIn d = some ws) : WL 6 ws := by
  unfold DW.clockIn at h
  split at h
  · have hm := fun y hy => DW.fitAll_mem (x := y) (fit_tup hf).2 hy
    obtain ⟨x1, y1, e1, h1, z1⟩ := seqO_some h
    obtain ⟨x2, y2, e2, h2, z2⟩ := seqO_some h1
    obtain ⟨x3, y3, e3, h3, z3⟩ := seqO_some h2
    obtain ⟨x4, y4, e4, h4, z4⟩ := seqO_some h3
    obtain ⟨x5, y5, e5, h5, z5⟩ := seqO_some h4
    obtain ⟨x6, y6, e6, h6, z6⟩ := seqO_some h5
    cases h6
    rw [z1, z2, z3, z4, z5, z6, List.append_nil]
    exact (numW_wl (hm _ (by simp)) e1).app ((numW_wl (hm _ (by simp)) e2).app ((nameIn_wl e3).app ((numW_wl (hm _ (by simp)) e4).app ((numW_wl (hm _ (by simp)) e5).app (numW_wl (hm _ (by simp)) e6)))))
  · cases h
theorem letterIn_wl {d : PyData} {ws : List Str} (hf : DW.fit d = true) (h : DW.letterIn d = some ws) : WL 702 ws := by
  have l := letterIn_len hf h
  unfold DW.letterIn at h
  split at h
  · rename_i c
    cases h
    obtain ⟨lt, rfl, ok⟩ := DW.letter_inv c
    rw [DW.letterText_data] at l ⊢
    have := letter_len ok (ltFit hf)
    exact ⟨l, fun x hx => Nat.le_trans (part_short hx) this⟩
  · cases h
theorem WL.mono {n m : Nat} {a : List Str} (h : WL n a) (k : n ≤ m) : WL m a := ⟨Nat.le_trans h.1 k, h.2⟩
theorem wordsOf_wl {w : Str} {ps : List PyData} {ws : List Str} (hf : DW.fitAll ps = true) (hz : (DW.sizes.lookup w).getD 0 = (ps.length : Int) + 1) (h : DW.wordsOf w ps = some ws) : WL 1500 ws := by
  have hm := fun y hy => DW.fitAll_mem (x := y) hf hy
  rcases sizes_inv hz with ⟨rfl, hn⟩ | ⟨rfl, hn⟩ | ⟨rfl, hn⟩ | ⟨rfl, hn⟩ | ⟨rfl, hn⟩ | ⟨rfl, hn⟩ | ⟨rfl, hn⟩ | ⟨rfl, hn⟩
  · match ps, hn with
    | [a, b], _ =>
    rw [w_member] at h
    obtain ⟨x1, y1, e1, h1, z1⟩ := seqO_some h
    obtain ⟨x2, y2, e2, h2, z2⟩ := seqO_some h1
    cases h2
    rw [z1, z2, List.append_nil]
    exact ((nameIn_wl e1).app (keyIn_wl e2)).mono (by decide)
  · match ps, hn with
    | [a, b, c, d], _ =>
    rw [w_open] at h
    obtain ⟨x1, y1, e1, h1, z1⟩ := seqO_some h
    obtain ⟨x2, y2, e2, h2, z2⟩ := seqO_some h1
    obtain ⟨x3, y3, e3, h3, z3⟩ := seqO_some h2
    obtain ⟨x4, y4, e4, h4, z4⟩ := seqO_some h3
    cases h4
    rw [z1, z2, z3, z4, List.append_nil]
    exact ((nameIn_wl e1).app ((nameIn_wl e2).app ((namesIn_wl e3).app (clockIn_wl (hm d (by simp)) e4)))).mono (by decide)
  · match ps, hn with
    | [a], _ => exact (letterIn_wl (hm a (by simp)) (by rw [w_hear] at h; exact h)).mono (by decide)
  · match ps, hn with
    | [a], _ => exact (numW_wl (hm a (by simp)) (by rw [w_tick] at h; exact h)).mono (by decide)
  · match ps, hn with
    | [], _ =>
      rw [w_day] at h
      cases h
      exact ⟨Nat.zero_le _, fun x hx => by cases hx⟩
  · match ps, hn with
    | [a, b], _ =>
    rw [w_claim] at h
    obtain ⟨x1, y1, e1, h1, z1⟩ := seqO_some h
    obtain ⟨x2, y2, e2, h2, z2⟩ := seqO_some h1
    obtain ⟨x3, y3, e3, h3, z3⟩ := seqO_some h2
    cases h3
    cases e2
    rw [z1, z2, z3, List.append_nil]
    exact ((letterIn_wl (hm a (by simp)) e1).app ((WL.one (by decide)).app (letterIn_wl (hm b (by simp)) e3))).mono (by decide)
  · match ps, hn with
    | [a, b, c, d, e], _ =>
    rw [w_cup] at h
    obtain ⟨x1, y1, e1, h1, z1⟩ := seqO_some h
    obtain ⟨x2, y2, e2, h2, z2⟩ := seqO_some h1
    obtain ⟨x3, y3, e3, h3, z3⟩ := seqO_some h2
    obtain ⟨x4, y4, e4, h4, z4⟩ := seqO_some h3
    obtain ⟨x5, y5, e5, h5, z5⟩ := seqO_some h4
    cases h5
    rw [z1, z2, z3, z4, z5, List.append_nil]
    exact ((nameIn_wl e1).app ((numW_wl (hm c (by simp)) e2).app ((nameIn_wl e3).app ((clockIn_wl (hm e (by simp)) e4).app (namesIn_wl e5))))).mono (by decide)
  · match ps, hn with
    | [a], _ => exact (nameIn_wl (by rw [w_round] at h; exact h)).mono (by decide)
theorem wl_join {ws : List Str} {n : Nat} (h : WL n ws) (hn : n ≤ 10000) : (ws.map (·.length)).sum + ws.length * (" " : Str).length ≤ 16777216 := by
  have h1 := sum_le h.2
  have h2 : (" " : Str).length = 1 := by decide
  rw [h2]
  have h3 : ws.length * 700 ≤ 10000 * 700 := Nat.mul_le_mul_right _ (Nat.le_trans h.1 hn)
  have := h.1
  omega
theorem sizes_w {w : Str} {n : Int} (h : (DW.sizes.lookup w).getD 0 = n + 1) (h0 : 0 ≤ n) : w.length ≤ 6 := by
  have : (DW.sizes.lookup w).getD 0 = ((n.toNat : Nat) : Int) + 1 := by omega
  rcases sizes_inv this with ⟨rfl, _⟩ | ⟨rfl, _⟩ | ⟨rfl, _⟩ | ⟨rfl, _⟩ | ⟨rfl, _⟩ | ⟨rfl, _⟩ | ⟨rfl, _⟩ | ⟨rfl, _⟩ <;> decide
theorem eqv_int {a b : Int} : PyData.eqv (.int a) (.int b) = (a == b) := by simp only [PyData.eqv]
theorem strs_cons {w : Str} {ws : List Str} : strsOf ([PyData.str w] ++ ws.map .str) = some (w :: ws) := by
  show strsOf ((w :: ws).map .str) = _
  exact strs_map _

section
variable {P : Program} {w : World} {K : PySem.W.Frag} {mg : Str → Option Value} {base : Heap}
theorem ok_deed_text (c : Tx K w mg) : FnOk P w K mg base (L2.CX P w) 7 (He.ga K "deed_text") (fdOf K (He.ga K "deed_text")) ["deed"] (lift K (fun _ xs Q E => ∃ d, xs = [.d d] ∧ DW.fit d = true ∧ optK (DW.deedText d) (fun z => Q (.d (.str z))) (E (exNT K))) 1) := by
  refine fn_ok c.fd_deed_text sc_deed_text rfl fun cdv A outer s I H E R hr => ⟨_, _, (dss_cons flat_of (ds_expr (de_fnC (ok_need c) (hr.mono (by decide)) (by rfl) c.g_need c.fd_need.kp (bd_need c) (takesC (takes_of rfl rfl rfl rfl)) rfl (da_cons (de_and (de_callB call_isi (cd_isi rfl) (by rfl) c.f_isinstance b_isinstance (da_cons (de_var (pv 0)) (da_cons (de_ty (by rfl) c.f_tuple b_tuple) da_nil))) (de_and (de_cmp (op_ne0 (hu64 hr)) (nomark _) (od_eq0 rfl) (de_var (pv 0)) (de_tup da_nil)) (de_one (de_callB call_isi (cd_isi rfl) (by rfl) c.f_isinstance b_isinstance (da_cons (de_ix (de_var (pv 0)) de_int (fun _ _ => rfl) rfl) (da_cons (de_ty (by rfl) c.f_str b_str) da_nil)))))) da_nil)))
      (dss_cons flat_of (ds_asg (de_var (pv 0)) (dg_star (n := 2) (i := 1) rfl (dgs_cons (dg_name (i := 1) sc_deed_text.nd rfl (by first | exact .inl rfl | exact .inr rfl)) (dgs_consS (dg_name (i := 2) sc_deed_text.nd rfl (by first | exact .inl rfl | exact .inr rfl)) dgs_nil)) rfl (by decide)))
      (dss_cons flat_of (ds_expr (de_fnC (ok_need c) (hr.mono (by decide)) (by rfl) c.g_need c.fd_need.kp (bd_need c) (takesC (takes_of rfl rfl rfl rfl)) rfl (da_cons (de_cmp (op_eqX (hu64 hr)) (nomark _) (od_eq rfl) (de_kget2 c.tb_SIZES (de_gcls (by rfl) c.g_SIZES) (de_var (pv 1)) de_int ⟨rfl, rfl, rfl, rfl⟩) (de_callB call_len (cd_len rfl) (by rfl) c.f_len b_len (da_cons (de_var (pv 0)) da_nil))) da_nil)))
      (dss_cons flat_of (ds_expr (de_fnC (ok_need c) (hr.mono (by decide)) (by rfl) c.g_need c.fd_need.kp (bd_need c) (takesC (takes_of rfl rfl rfl rfl)) rfl (da_cons (de_or (de_cmp (op_neX (hu64 hr)) (nomark _) (od_ne rfl) (de_var (pv 1)) de_str) (de_one (de_fnC (ok_is_number c) (hr.mono (by decide)) (by rfl) c.g_is_number c.fd_is_number.kp (bd_is_number c) (takesC (takes_of rfl rfl rfl rfl)) rfl (da_cons (de_ix (de_var (pv 2)) de_int (fun _ _ => rfl) rfl) (da_cons de_int (da_cons de_int da_nil)))))) da_nil)))
      (dss_one (ds_ret (de_meth (md_join rfl) de_str (da_cons (de_op op_cat' (od_add rfl) (de_lst (da_cons (de_var (pv 1)) da_nil)) (de_fnC (ok_words_of c) (hr.mono (by decide)) (by rfl) c.g_words_of c.fd_words_of.kp (bd_words_of c) (takesC (takes_of rfl rfl rfl rfl)) rfl (da_cons (de_var (pv 1)) (da_cons (de_var (pv 2)) da_nil)))) da_nil) rfl (fun q q' => pe_bm PySem.F.plainAttrs_str PySem.F.slot_str_join PySem.F.type_str_join (mt_join) q q')))))))), fun xs Qd Ed hl h => ?_⟩
  obtain ⟨d, rfl, hf, h⟩ := h
  refine ⟨d, rfl, .inr (.inr (.inr (.inr rfl))), ?_⟩
  show bK _ _
  rw [isT_tuple]
  cases d with
  | tuple ds =>
    refine ⟨Nat.zero_le _, ds, rfl, rfl, ?_⟩
    cases ds with
    | nil => exact ⟨rfl, nn1, _, rfl, h⟩
    | cons x ps =>
      refine ⟨x, at0, x, rfl, .inl rfl, ?_⟩
      rw [isT_str]
      cases x with
      | str w =>
        have hps := (fit_cons (fit_tup hf).2).2
        refine ⟨rfl, nn1, _, rfl, ?_⟩
        refine starG ?_
        refine ⟨rfl, ?_⟩
        dsimp only
        show dSeq _ _ _ _ [some (.d (.tuple (.str w :: ps))), some (.d (.str w)), some (.d (.list ps))]
        refine ⟨rfl, w, rfl, 0, rfl, .inl rfl, rfl, nn1, _, rfl, iteG (fun b1 => ?_) fun b1 => ?_⟩
        · have hz : (DW.sizes.lookup w).getD 0 = (ps.length : Int) + 1 := by
            have b2 : PyData.eqv (.int ((DW.sizes.lookup w).getD 0)) (.int (((PyData.str w :: ps).length : Nat) : Int)) = true := b1
            rw [eqv_int] at b2
            have b3 := eq_of_beq b2
            rw [b3, List.length_cons]
            omega
          have hd : DW.deedText (.tuple (.str w :: ps)) = if !(w == "tick") || DW.isNum (ps.getD 0 .none) 1 (some 10000) then (DW.wordsOf w ps).map fun ws => Txt.join " " (w :: ws) else none := by
            show (if (DW.sizes.lookup w).getD 0 == (ps.length : Int) + 1 then _ else _) = _
            rw [if_pos (by rw [hz]; exact beq_self_eq_true _)]
          rw [hd] at h
          clear hd b1
          refine ⟨.inl rfl, ?_⟩
          cases b4 : w == ("tick" : Str) with
          | false =>
            rw [b4] at h
            have h : optK ((DW.wordsOf w ps).map fun ws => Txt.join " " (w :: ws)) (fun z => Qd (.d (.str z))) (Ed (exNT K)) := h
            refine iteG (fun _ => ?_) fun b => absurd b (by show ¬ (!PyData.eqv (.str w) (.str "tick")) = false; rw [eqv_str, b4]; decide)
            refine ⟨rfl, nn1, _, rfl, ?_⟩
            refine ⟨rfl, (show 1 ≤ sizeLine by decide), rfl, nn2, w, ps, rfl, hps, hz, optG (fun ws e => ?_) fun e => (by rw [e] at h; exact h)⟩
            rw [e] at h
            have wl := wordsOf_wl hps hz e
            refine ⟨sz (by simp only [List.length_map, List.length_cons, List.length_nil]; have := wl.1; omega), _, _, rfl, strs_cons, ?_, h⟩
            exact wl_join ((WL.one (Nat.le_trans (sizes_w hz (Int.natCast_nonneg _)) (by decide))).app wl) (by decide)
          | true =>
            rw [b4] at h
            have h : optK (if DW.isNum (ps.getD 0 .none) 1 (some 10000) = true then (DW.wordsOf w ps).map fun ws => Txt.join " " (w :: ws) else none) (fun z => Qd (.d (.str z))) (Ed (exNT K)) := h
            refine iteG (fun b => absurd b (by show ¬ (!PyData.eqv (.str w) (.str "tick")) = true; rw [eqv_str, b4]; decide)) fun _ => ?_
            have ew := eq_of_beq b4
            have hl : ps.length = 1 := by
              rw [ew] at hz
              rcases sizes_inv hz with ⟨z, _⟩ | ⟨z, _⟩ | ⟨z, _⟩ | ⟨z, k⟩ | ⟨z, _⟩ | ⟨z, _⟩ | ⟨z, _⟩ | ⟨z, _⟩
              · exact absurd z (by decide)
              · exact absurd z (by decide)
              · exact absurd z (by decide)
              · exact k
              · exact absurd z (by decide)
              · exact absurd z (by decide)
              · exact absurd z (by decide)
              · exact absurd z (by decide)
            obtain ⟨a, ea⟩ : ∃ a, ps = [a] := by
              match ps, hl with
              | [a], _ => exact ⟨a, rfl⟩
            have eg : ps.getD 0 .none = a := by rw [ea]; rfl
            rw [eg] at h
            refine ⟨_, a, rfl, by rw [ea]; exact at0, rfl, nn3, a, 1, some 10000, rfl, rfl, nn1, _, rfl, iteG (fun b5 => ?_) fun b5 => ?_⟩
            · rw [if_pos b5] at h
              refine ⟨rfl, (show 1 ≤ sizeLine by decide), rfl, nn2, w, ps, rfl, hps, hz, optG (fun ws e => ?_) fun e => (by rw [e] at h; exact h)⟩
              rw [e] at h
              have wl := wordsOf_wl hps hz e
              refine ⟨sz (by simp only [List.length_map, List.length_cons, List.length_nil]; have := wl.1; omega), _, _, rfl, strs_cons, ?_, h⟩
              exact wl_join ((WL.one (Nat.le_trans (sizes_w hz (Int.natCast_nonneg _)) (by decide))).app wl) (by decide)
            · rw [if_neg (by rw [b5]; decide)] at h
              exact h
        · have hd : DW.deedText (.tuple (.str w :: ps)) = none := by
            have b2 : PyData.eqv (.int ((DW.sizes.lookup w).getD 0)) (.int (((PyData.str w :: ps).length : Nat) : Int)) = false := b1
            rw [eqv_int, List.length_cons] at b2
            show (if (DW.sizes.lookup w).getD 0 == (ps.length : Int) + 1 then _ else _) = _
            rw [if_neg]
            rw [show ((ps.length : Int) + 1) = ((ps.length + 1 : Nat) : Int) by omega, b2]
            decide
          rw [hd] at h
          exact h
      | _ => exact ⟨rfl, nn1, _, rfl, h⟩
  | _ => exact ⟨rfl, nn1, _, rfl, h⟩

end
end K87
set_option Elab.async false
set_option linter.all false
set_option maxRecDepth 100000
set_option maxHeartbeats 4000000
namespace K87
open PySem PySem.Spec PyProof.Rows L2 PD
theorem join_mem {S : List Nat} {c : Nat} : ∀ {ps : List (List Nat)} {p : List Nat}, p ∈ ps → c ∈ p → c ∈ TL.joinL S ps
  | [a], p, hp, hc => by rw [List.mem_singleton.mp hp] at hc; exact hc
  | a :: b :: r, p, hp, hc => by
    show c ∈ a ++ (S ++ TL.joinL S (b :: r))
    rcases List.mem_cons.mp hp with rfl | hp
    · exact List.mem_append_left _ hc
    · exact List.mem_append_right _ (List.mem_append_right _ (join_mem hp hc))
theorem split_ok {z y x : Str} (h : PyData.strOk z = true) (hx : x ∈ Txt.split z y) : PyData.strOk x = true := by
  have e := congrArg TL.tl (StrLaws.join_split z y)
  rw [TL.tl_join] at e
  unfold PyData.strOk at h ⊢
  rw [← Array.all_toList] at h ⊢
  rw [List.all_eq_true] at h ⊢
  intro c hc
  refine h c ?_
  show c ∈ TL.tl z
  rw [← e]
  exact join_mem (List.mem_map.mpr ⟨x, hx, rfl⟩) hc
theorem cut_map {α β : Type} (f : α → β) (xs : List α) (lo hi : Option Int) : PD.cut (xs.map f) lo hi = (PD.cut xs lo hi).map f := by
  unfold PD.cut
  rw [List.length_map, List.map_take, List.map_drop]
theorem cut_mem {α : Type} {xs : List α} {lo hi : Option Int} {x : α} (h : x ∈ PD.cut xs lo hi) : x ∈ xs := by
  unfold PD.cut at h
  exact List.mem_of_mem_drop (List.mem_of_mem_take h)
theorem numIn_fit {w : Str} {n : Int} (h : DW.numIn w = some n) : 0 ≤ n ∧ n.natAbs < 10 ^ 60 := by
  unfold DW.numIn at h
  split at h
  · rename_i c
    simp only [Bool.and_eq_true, decide_eq_true_eq] at c
    split at h
    · cases h
    · have hd : NumText.AllDigits w.cps.toList := fun x hx => fig_range (List.all_eq_true.mp c.2.2 x hx)
      have hl : w.length = w.cps.toList.length := by rw [Array.length_toList]; rfl
      have hne : w.cps.toList ≠ [] := fun e => by rw [e] at hl; simp at hl; omega
      have e := intText_digits hd hne (by omega)
      rw [e] at h
      cases h
      refine ⟨Int.natCast_nonneg _, ?_⟩
      have b : ∀ (l : List Nat) (a : Nat), NumText.AllDigits l → l.foldl (fun acc c => acc * 10 + (c - 48)) a < (a + 1) * 10 ^ l.length := by
        intro l
        induction l with
        | nil => intro a _; simp
        | cons c r ih =>
          intro a hr
          have hc := hr c List.mem_cons_self
          have := ih (a * 10 + (c - 48)) fun x hx => hr x (List.mem_cons_of_mem _ hx)
          rw [List.foldl_cons, List.length_cons, Nat.pow_succ]
          refine Nat.lt_of_lt_of_le this ?_
          rw [show (a + 1) * (10 ^ r.length * 10) = (a * 10 + 10) * 10 ^ r.length by rw [Nat.mul_comm (10 ^ r.length) 10, ← Nat.mul_assoc, Nat.add_mul]]
          exact Nat.mul_le_mul_right _ (by omega)
      have := b _ 0 hd
      rw [Nat.zero_add, Nat.one_mul] at this
      show NumText.digitsVal _ < _
      unfold NumText.digitsVal
      refine Nat.lt_of_lt_of_le this (Nat.pow_le_pow_right (by decide) ?_)
      omega
  · cases h
theorem fitAll_of {xs : List PyData} (h : ∀ x ∈ xs, DW.fit x = true) : DW.fitAll xs = true := by
  induction xs with
  | nil => rfl
  | cons x xs ih =>
    simp only [DW.fitAll, Bool.and_eq_true]
    exact ⟨h x List.mem_cons_self, ih fun y hy => h y (List.mem_cons_of_mem _ hy)⟩
theorem fit_optI {w : Str} : DW.fit (DW.optI (DW.numIn w)) = true := by
  cases e : DW.numIn w with
  | none => rfl
  | some n =>
    show decide (n.natAbs < 10 ^ 60) = true
    exact decide_eq_true (numIn_fit e).2
theorem fit_strI {z : Str} (h : z.length ≤ 100000) (h2 : PyData.strOk z = true) : DW.fit (.str z) = true := by
  simp only [DW.fit, Bool.and_eq_true, decide_eq_true_eq]
  exact ⟨h, h2⟩
theorem fit_sd {ws : List Str} (h : ∀ x ∈ ws, x.length ≤ 100000 ∧ PyData.strOk x = true) : DW.fitAll (DW.sd ws) = true := fitAll_of fun x hx => by
  obtain ⟨w, hw, rfl⟩ := List.mem_map.mp hx
  exact fit_strI (h w hw).1 (h w hw).2
theorem setG {i : Nat} {y : PyData} {δ δ' : DEnv} {Q : DEnv → Prop} (e : δ.set i (some (.d y)) = δ') (h : Q δ') : dName i (.d y) δ Q := by subst e; exact h
theorem cut_hi {α : Type} (xs : List α) : (PD.cut xs none (some 5)).length ≤ 5 := by
  unfold PD.cut
  rw [List.length_take, show HT.sIx xs.length xs.length (some 5) = min 5 xs.length from HT.sIx_nat _ _ 5]
  omega
theorem cut_lo2 {α : Type} (xs : List α) : (PD.cut xs (some (-2)) none).length ≤ 2 := by
  unfold PD.cut
  rw [List.length_take, List.length_drop]
  show min (xs.length - HT.sIx xs.length 0 (some (-2))) (xs.length - HT.sIx xs.length 0 (some (-2))) ≤ 2
  have : HT.sIx xs.length 0 (some (-2)) = ((-2 : Int) + (xs.length : Int)).toNat := rfl
  rw [this]
  omega

section
variable {P : Program} {w : World} {K : PySem.W.Frag} {mg : Str → Option Value} {base : Heap}
theorem ok_read_letter (c : Tx K w mg) : FnOk P w K mg base (L2.CX P w) 4 (He.ga K "read_letter") (fdOf K (He.ga K "read_letter")) ["text"] (lift K (fun _ xs Q E => ∃ z, xs = [.d (.str z)] ∧ z.length ≤ 90000 ∧ PyData.strOk z = true ∧ optK (DW.readLetter z) (fun y => Q (.d y)) (E (exNL K))) 1) := by
  refine fn_ok c.fd_read_letter sc_read_letter rfl fun cdv A outer s I H E R hr => ⟨_, _, (dss_cons flat_of (ds_set (i := 1) sc_read_letter.nd rfl (by first | exact .inl rfl | exact .inr rfl) (de_if (dt_val (de_callB call_isi (cd_isi rfl) (by rfl) c.f_isinstance b_isinstance (da_cons (de_var (pv 0)) (da_cons (de_ty (by rfl) c.f_str b_str) da_nil)))) (de_meth (md_split) (de_var (pv 0)) (da_cons de_str da_nil) rfl (fun q q' => pe_bm PySem.F.plainAttrs_str PySem.F.slot_str_split PySem.F.type_str_split (mt_split) q q')) (de_lst da_nil)))
      (dss_cons flat_of (ds_if (dt_cmp op_lt (nomark _) od_intB (de_callB call_len (cd_len rfl) (by rfl) c.f_len b_len (da_cons (de_var (pv 1)) da_nil)) de_int) (dss_one (ds_raise rfl (takes_of rfl rfl rfl rfl) (dm_own PySem.F.excBase_ValueError c.ex_NoLetter c.g_NoLetter c.kc_NoLetter (raises_own c.sb_NoLetter c.ty_NoLetter) rfl))) dss_nil)
      (dss_cons flat_of (ds_asg (de_var (pv 1)) (dg_star (n := 2) (i := 1) rfl (dgs_cons (dg_name (i := 2) sc_read_letter.nd rfl (by first | exact .inl rfl | exact .inr rfl)) (dgs_consS (dg_name (i := 3) sc_read_letter.nd rfl (by first | exact .inl rfl | exact .inr rfl)) dgs_nil)) rfl (by decide)))
      (dss_cons flat_of (ds_setLc (i := 4) (own := [("word", 5)]) s rfl sc_read_letter.nd rfl rfl (sw_true rfl rfl rfl (by decide +kernel)) (di_any (de_op op_cat' (od_add rfl) (de_slice (de_var (pv 3)) do_none (do_some de_int) rfl) (de_slice (de_var (pv 3)) (do_some (de_un un_neg ud_neg de_int)) do_none rfl)) rfl) (blkOk_by (N := ["text", "words", "game", "rest", "numbers", "word", "found"]) (sc := defScope (top 25)) (by decide +kernel)) (fun _ _ _ _ _ => (dg_name (i := 5) sc_read_letter.nd rfl (by first | exact .inl rfl | exact .inr rfl))) (fun _ _ _ _ _ => dts_nil) (fun _ _ _ _ _ => (de_fnC (ok_number_in c) (hr.mono (by decide)) (by rfl) c.g_number_in c.fd_number_in.kp (bd_number_in c) takesC0 rfl (da_cons (de_var (pv 5)) da_nil))) (tgt_name (by decide)))
      (dss_cons flat_of (ds_set (i := 6) sc_read_letter.nd rfl (by first | exact .inl rfl | exact .inr rfl) (de_op op_cat' (od_add rfl) (de_op op_cat' (od_add rfl) (de_op op_cat' (od_add rfl) (de_tup (da_cons de_str (da_cons (de_var (pv 2)) da_nil))) (de_callTy call_tuple_of (cd_tuple rfl) (by rfl) c.f_tuple b_tuple (da_cons (de_slice (de_var (pv 4)) do_none (do_some de_int) rfl) da_nil))) (de_tup (da_cons (de_callTy call_tuple_of (cd_tuple rfl) (by rfl) c.f_tuple b_tuple (da_cons (de_slice (de_var (pv 3)) (do_some de_int) (do_some (de_un un_neg ud_neg de_int)) rfl) da_nil)) da_nil))) (de_callTy call_tuple_of (cd_tuple rfl) (by rfl) c.f_tuple b_tuple (da_cons (de_slice (de_var (pv 4)) (do_some de_int) do_none rfl) da_nil))))
      (dss_cons flat_of (ds_if (dt_not (dt_val (de_fnC (ok_is_letter c) (hr.mono (by decide)) (by rfl) c.g_is_letter c.fd_is_letter.kp (bd_is_letter c) (takesC (takes_of rfl rfl rfl rfl)) rfl (da_cons (de_var (pv 6)) da_nil)))) (dss_one (ds_raise rfl (takes_of rfl rfl rfl rfl) (dm_own PySem.F.excBase_ValueError c.ex_NoLetter c.g_NoLetter c.kc_NoLetter (raises_own c.sb_NoLetter c.ty_NoLetter) rfl))) dss_nil)
      (dss_one (ds_ret (de_var (pv 6)))))))))), fun xs Qd Ed hl h => ?_⟩
  obtain ⟨z, rfl, hl0, ho, h⟩ := h
  refine ⟨_, rfl, .inl rfl, ?_⟩
  show bK _ _
  rw [isT_str]
  refine ⟨rfl, rfl, Nat.le_trans (Nat.add_le_add_right hl0 2) (by decide), Nat.le_trans (split_le _ _) (Nat.le_trans (Nat.add_le_add_right hl0 2) (by decide)), ?_⟩
  have hw : ∀ x ∈ Txt.split z " ", x.length ≤ 90000 ∧ PyData.strOk x = true := fun x hx => ⟨Nat.le_trans (part_short hx) hl0, split_ok ho hx⟩
  have hn : (Txt.split z " ").length ≤ 90002 := Nat.le_trans (split_le _ _) (Nat.add_le_add_right hl0 2)
  unfold DW.readLetter at h
  generalize Txt.split z " " = ws at *
  refine setG (δ' := [some (.d (.str z)), some (.d (.list (ws.map .str))), none, none, none, none, none]) rfl ?_
  refine ⟨_, rfl, ?_⟩
  cases ws with
  | nil => exact h
  | cons gm rest =>
    have h : optK (if rest.length < 8 then none else
      let ns := (PD.cut rest none (some 5) ++ PD.cut rest (some (-2)) none).map fun w => DW.optI (DW.numIn w)
      let found := PyData.tuple ([.str "letter", .str gm] ++ PD.cut ns none (some 5) ++ [.tuple (DW.sd (PD.cut rest (some 5) (some (-2))))] ++ PD.cut ns (some 5) none)
      if DW.isLetter found then some found else none) (fun y => Qd (.d y)) (Ed (exNL K)) := h
    refine iteG (fun b1 => ?_) fun b1 => ?_
    · have e1 : rest.length < 8 := by
        have := of_decide_eq_true (show decide ((((gm :: rest).map PyData.str).length : Int) < 9) = true from b1)
        rw [List.length_map, List.length_cons] at this
        omega
      rw [if_pos e1] at h
      exact h
    · have e1 : ¬ rest.length < 8 := by
        have := of_decide_eq_false (show decide ((((gm :: rest).map PyData.str).length : Int) < 9) = false from b1)
        rw [List.length_map, List.length_cons] at this
        omega
      rw [if_neg e1] at h
      clear b1
      refine starL ?_
      refine ⟨rfl, ?_⟩
      dsimp only
      show dSeq _ _ _ _ [some (.d (.str z)), some (.d (.list ((gm :: rest).map .str))), some (.d (.str gm)), some (.d (.list (rest.map .str))), none, none, none]
      have hr : ∀ x ∈ rest, x.length ≤ 90000 ∧ PyData.strOk x = true := fun x hx => hw x (List.mem_cons_of_mem _ hx)
      have hrn : rest.length ≤ 90001 := by rw [List.length_cons] at hn; omega
      have hs : ∀ n : Nat, n ≤ 1000000 → n ≤ sizeLine := fun n h => Nat.le_trans h (by decide)
      refine ⟨_, rfl, _, rfl, hs _ ?_, trivial, ?_⟩
      · have h1 := cut_len (rest.map PyData.str) none (some 5)
        have h2 := cut_len (rest.map PyData.str) (some (-2)) none
        rw [List.length_map] at h1 h2
        have h3 : (PD.cut (rest.map PyData.str) none (some 5)).length + (PD.cut (rest.map PyData.str) (some (-2)) none).length ≤ 1000000 := by omega
        exact h3
      show lcGo _ (PD.cut (rest.map .str) none (some 5) ++ PD.cut (rest.map .str) (some (-2)) none) [] _
      rw [cut_map, cut_map, ← List.map_append]
      have hq : ∀ x ∈ PD.cut rest none (some 5) ++ PD.cut rest (some (-2)) none, x ∈ rest := fun x hx => (List.mem_append.mp hx).elim cut_mem cut_mem
      have hql : (PD.cut rest none (some 5) ++ PD.cut rest (some (-2)) none).length ≤ 7 := by
        have h1 := cut_hi rest
        have h2 := cut_lo2 rest
        rw [List.length_append]
        omega
      revert h
      generalize PD.cut rest none (some 5) ++ PD.cut rest (some (-2)) none = q at *
      intro h
      refine lcGo_map (f := fun w => DW.optI (DW.numIn w)) (fun w hwq K k => ⟨rfl, nn1, w, rfl, Nat.le_trans (hr w (hq w hwq)).1 (by decide), k⟩) ?_
      rw [List.nil_append]
      have hns : DW.fitAll (q.map fun w => DW.optI (DW.numIn w)) = true := fitAll_of fun x hx => by
        obtain ⟨w, _, rfl⟩ := List.mem_map.mp hx
        exact fit_optI
      have hnl : (q.map fun w => DW.optI (DW.numIn w)).length ≤ 7 := by rw [List.length_map]; exact hql
      dsimp only at h
      revert h
      generalize (q.map fun w => DW.optI (DW.numIn w)) = ns at *
      intro h
      refine setG (δ' := [some (.d (.str z)), some (.d (.list ((gm :: rest).map .str))), some (.d (.str gm)), some (.d (.list (rest.map .str))), some (.d (.list ns)), none, none]) rfl ?_
      have c1 := cut_len ns none (some 5)
      have c2 := cut_len ns (some 5) none
      have c3 := cut_len rest (some 5) (some (-2))
      refine ⟨(show 2 ≤ sizeLine by decide), _, rfl, _, rfl, hs (2 + (PD.cut ns none (some 5)).length) (by omega), _, rfl, _, rfl, (show 1 ≤ sizeLine by decide), hs _ ?_, _, rfl, _, rfl, hs _ ?_, ?_⟩
      · show ([PyData.str "letter", .str gm] ++ PD.cut ns none (some 5)).length + 1 ≤ _
        simp only [List.length_append, List.length_cons, List.length_nil]
        omega
      · show ([PyData.str "letter", .str gm] ++ PD.cut ns none (some 5) ++ [PyData.tuple (PD.cut (rest.map PyData.str) (some 5) (some (-2)))]).length + (PD.cut ns (some 5) none).length ≤ _
        simp only [List.length_append, List.length_cons, List.length_nil]
        omega
      have ef : PD.cut (rest.map PyData.str) (some 5) (some (-2)) = DW.sd (PD.cut rest (some 5) (some (-2))) := cut_map _ _ _ _
      show dName 6 (.d (PyData.tuple ([.str "letter", .str gm] ++ PD.cut ns none (some 5) ++ [.tuple (PD.cut (rest.map PyData.str) (some 5) (some (-2)))] ++ PD.cut ns (some 5) none))) [some (.d (.str z)), some (.d (.list ((gm :: rest).map .str))), some (.d (.str gm)), some (.d (.list (rest.map .str))), some (.d (.list ns)), none, none] _
      refine setG (δ' := [some (.d (.str z)), some (.d (.list ((gm :: rest).map .str))), some (.d (.str gm)), some (.d (.list (rest.map .str))), some (.d (.list ns)), none, some (.d (PyData.tuple ([.str "letter", .str gm] ++ PD.cut ns none (some 5) ++ [.tuple (PD.cut (rest.map PyData.str) (some 5) (some (-2)))] ++ PD.cut ns (some 5) none)))]) rfl ?_
      rw [ef]
      have hff : DW.fit (PyData.tuple ([.str "letter", .str gm] ++ PD.cut ns none (some 5) ++ [.tuple (DW.sd (PD.cut rest (some 5) (some (-2))))] ++ PD.cut ns (some 5) none)) = true := by
        have hg := hw gm List.mem_cons_self
        have u1 : (PD.cut ns none (some 5)).length ≤ 5 := cut_hi _
        have u2 := c2
        simp only [DW.fit, Bool.and_eq_true, decide_eq_true_eq]
        refine ⟨?_, fitAll_of fun x hx => ?_⟩
        · simp only [List.length_append, List.length_cons, List.length_nil]
          omega
        · simp only [List.mem_append, List.mem_cons, List.not_mem_nil, or_false] at hx
          rcases hx with ((((rfl | rfl) | hx) | rfl) | hx)
          · exact fit_strI (by decide) (by decide +kernel)
          · exact fit_strI (by omega) hg.2
          · exact DW.fitAll_mem hns (cut_mem hx)
          · simp only [DW.fit, Bool.and_eq_true, decide_eq_true_eq]
            refine ⟨?_, fit_sd fun x hx => ?_⟩
            · show (DW.sd _).length ≤ _
              unfold DW.sd
              rw [List.length_map]
              omega
            · have := hr x (cut_mem hx)
              exact ⟨by omega, this.2⟩
          · exact DW.fitAll_mem hns (cut_mem hx)
      generalize PyData.tuple ([.str "letter", .str gm] ++ PD.cut ns none (some 5) ++ [.tuple (DW.sd (PD.cut rest (some 5) (some (-2))))] ++ PD.cut ns (some 5) none) = found at *
      refine ⟨rfl, nn1, found, rfl, hff, iteG (fun b2 => ?_) fun b2 => ?_⟩
      · rw [if_neg (by revert b2; cases DW.isLetter found <;> simp)] at h
        exact h
      · rw [if_pos (by revert b2; cases DW.isLetter found <;> simp)] at h
        exact h

end
end K87
set_option Elab.async false
set_option linter.all false
set_option maxRecDepth 100000
set_option maxHeartbeats 4000000
namespace K87
open PySem PySem.Spec PyProof.Rows L2 PD
def wsz (ws : List Str) : Nat := (ws.map (·.length)).sum + ws.length
structure WOk (ws : List Str) : Prop where
  n : wsz ws ≤ 80000
  s : ∀ x ∈ ws, PyData.strOk x = true
theorem wsz_cons (x : Str) (ws : List Str) : wsz (x :: ws) = x.length + 1 + wsz ws := by
  unfold wsz
  simp only [List.map_cons, List.sum_cons, List.length_cons]
  omega
theorem wsz_take (k : Nat) : ∀ ws : List Str, wsz (ws.take k) ≤ wsz ws := by
  induction k with
  | zero => intro ws; exact Nat.zero_le _
  | succ k ih =>
    intro ws
    cases ws with
    | nil => exact Nat.le_refl _
    | cons x ws => rw [List.take_succ_cons, wsz_cons, wsz_cons]; have := ih ws; omega
theorem wsz_drop (k : Nat) : ∀ ws : List Str, wsz (ws.drop k) ≤ wsz ws := by
  induction k with
  | zero => intro ws; exact Nat.le_refl _
  | succ k ih =>
    intro ws
    cases ws with
    | nil => exact Nat.le_refl _
    | cons x ws => rw [List.drop_succ_cons, wsz_cons]; have := ih ws; omega
theorem wsz_mem {x : Str} : ∀ {ws : List Str}, x ∈ ws → x.length ≤ wsz ws
  | y :: ws, h => by
    rw [wsz_cons]
    rcases List.mem_cons.mp h with rfl | h
    · omega
    · have := wsz_mem h; omega
theorem wsz_len (ws : List Str) : ws.length ≤ wsz ws := by unfold wsz; omega
theorem WOk.take {ws : List Str} (h : WOk ws) (k : Nat) : WOk (ws.take k) := ⟨Nat.le_trans (wsz_take k ws) h.n, fun x hx => h.s x (List.mem_of_mem_take hx)⟩
theorem WOk.drop {ws : List Str} (h : WOk ws) (k : Nat) : WOk (ws.drop k) := ⟨Nat.le_trans (wsz_drop k ws) h.n, fun x hx => h.s x (List.mem_of_mem_drop hx)⟩
theorem WOk.cut {ws : List Str} (h : WOk ws) (lo hi : Option Int) : WOk (PD.cut ws lo hi) := by unfold PD.cut; exact (h.drop _).take _
theorem WOk.len {ws : List Str} (h : WOk ws) : ws.length ≤ 80000 := Nat.le_trans (wsz_len ws) h.n
theorem WOk.mem {ws : List Str} (h : WOk ws) {x : Str} (hx : x ∈ ws) : x.length ≤ 80000 := Nat.le_trans (wsz_mem hx) h.n
theorem WOk.tail {x : Str} {ws : List Str} (h : WOk (x :: ws)) : WOk ws := h.drop 1
theorem split_wok {z : Str} (h : z.length ≤ 79000) (ho : PyData.strOk z = true) : WOk (Txt.split z " ") :=
  ⟨Nat.le_trans (split_weight z " " (by decide)) (by omega), fun x hx => split_ok ho hx⟩
theorem len_joinL {S : List Nat} (hS : S.length = 1) : ∀ ps : List (List Nat), (TL.joinL S ps).length ≤ (ps.map (·.length)).sum + ps.length
  | [] => Nat.zero_le _
  | [a] => by show a.length ≤ _; simp
  | a :: b :: r => by
    have := len_joinL hS (b :: r)
    show (a ++ (S ++ TL.joinL S (b :: r))).length ≤ _
    rw [List.length_append, List.length_append, hS]
    simp only [List.map_cons, List.sum_cons, List.length_cons] at this ⊢
    omega
theorem join_len {ws : List Str} (h : WOk ws) : (Txt.join " " ws).length ≤ 80000 := by
  rw [TL.join_eq, TL.len_tl, TL.tl_join]
  refine Nat.le_trans (len_joinL (by decide) _) (Nat.le_trans (Nat.le_of_eq ?_) h.n)
  unfold wsz
  rw [List.map_map, List.length_map]
  have e : ws.map ((fun l : List Nat => l.length) ∘ TL.tl) = ws.map (·.length) := List.map_congr_left fun x _ => (TL.len_tl x).symm
  rw [e]
theorem joinL_ok {S : List Nat} (hS : ∀ c ∈ S, c < 0x110000) : ∀ {ps : List (List Nat)}, (∀ p ∈ ps, ∀ c ∈ p, c < 0x110000) → ∀ c ∈ TL.joinL S ps, c < 0x110000
  | [], _, c, hc => by cases hc
  | [a], h, c, hc => h a List.mem_cons_self c hc
  | a :: b :: r, h, c, hc => by
    have hc : c ∈ a ++ (S ++ TL.joinL S (b :: r)) := hc
    rcases List.mem_append.mp hc with hc | hc
    · exact h a List.mem_cons_self c hc
    · rcases List.mem_append.mp hc with hc | hc
      · exact hS c hc
      · exact joinL_ok hS (fun p hp => h p (List.mem_cons_of_mem _ hp)) c hc
theorem strOk_iff {z : Str} : PyData.strOk z = true ↔ ∀ c ∈ TL.tl z, c < 0x110000 := by
  unfold PyData.strOk
  rw [← Array.all_toList, List.all_eq_true]
  simp only [decide_eq_true_eq]
theorem join_ok {ws : List Str} (h : WOk ws) : PyData.strOk (Txt.join " " ws) = true := by
  rw [strOk_iff, TL.join_eq, TL.tl_join]
  refine joinL_ok (by decide +kernel) fun p hp c hc => ?_
  obtain ⟨x, hx, rfl⟩ := List.mem_map.mp hp
  exact strOk_iff.mp (h.s x hx) c hc
theorem join_sz {ws : List Str} (h : WOk ws) : (ws.map (·.length)).sum + ws.length * (" " : Str).length ≤ 16777216 := by
  have e : (" " : Str).length = 1 := by decide
  have := h.n
  unfold wsz at this
  rw [e]
  omega
theorem depth_sd (ws : List Str) : PyData.depthAll (DW.sd ws) = 0 := by
  induction ws with
  | nil => rfl
  | cons x ws ih => show max 0 (PyData.depthAll (DW.sd ws)) = 0; rw [ih]; rfl
theorem lay_sd {ws : List Str} (h : ∀ x ∈ ws, PyData.strOk x = true) : PyData.canLayAll0 (DW.sd ws) = true := by
  induction ws with
  | nil => rfl
  | cons x ws ih =>
    show (PyData.canLay0 (.str x) && PyData.canLayAll0 (DW.sd ws)) = true
    rw [ih fun y hy => h y (List.mem_cons_of_mem _ hy), Bool.and_true]
    simpa only [PyData.canLay0] using h x List.mem_cons_self
theorem shaped_sd {ws : List Str} (h : ∀ x ∈ ws, PyData.strOk x = true) : SeqAt.shaped (.list (DW.sd ws)) = true := by
  unfold SeqAt.shaped
  rw [Bool.and_eq_true]
  refine ⟨by simpa only [PyData.canLay0] using lay_sd h, ?_⟩
  simp only [PyData.depth, depth_sd]
  decide
theorem readNum_none {w : Str} (h : DW.numIn w = none) : DW.readNum w = none := by unfold DW.readNum; rw [h]; rfl
theorem readNum_some {w : Str} {n : Int} (h : DW.numIn w = some n) : DW.readNum w = some (.int n) := by unfold DW.readNum; rw [h]; rfl

section
variable {P : Program} {w : World} {K : PySem.W.Frag} {mg : Str → Option Value} {base : Heap}
theorem ok_read_name (c : Tx K w mg) : FnOk P w K mg base (L2.CX P w) 4 (He.ga K "read_name") (fdOf K (He.ga K "read_name")) ["word"] (lift K (fun _ xs Q E => ∃ w : Str, xs = [.d (.str w)] ∧ w.length ≤ 90000 ∧ optK (DW.readName w) (fun y => Q (.d y)) (E (exNT K))) 1) := by
  refine fn_ok c.fd_read_name sc_read_name rfl fun cdv A outer s I H E R hr => ⟨_, _, (dss_cons flat_of (ds_expr (de_fnC (ok_need c) (hr.mono (by decide)) (by rfl) c.g_need c.fd_need.kp (bd_need c) (takesC (takes_of rfl rfl rfl rfl)) rfl (da_cons (de_fnC (ok_is_name c) (hr.mono (by decide)) (by rfl) c.g_is_name c.fd_is_name.kp (bd_is_name c) (takesC (takes_of rfl rfl rfl rfl)) rfl (da_cons (de_var (pv 0)) da_nil)) da_nil)))
      (dss_one (ds_ret (de_var (pv 0))))), fun xs Qd Ed hl h => ?_⟩
  obtain ⟨z, rfl, hl0, h⟩ := h
  refine ⟨rfl, nn1, .str z, rfl, Nat.le_trans hl0 (by decide), rfl, nn1, _, rfl, iteG (fun b1 => ?_) fun b1 => ?_⟩
  · have e : DW.readName z = some (.str z) := by unfold DW.readName; exact if_pos b1
    rw [e] at h
    exact h
  · have e : DW.readName z = none := by unfold DW.readName; exact if_neg (by rw [show DW.wordOk 8 z = false from b1]; decide)
    rw [e] at h
    exact h

theorem ok_read_number (c : Tx K w mg) : FnOk P w K mg base (L2.CX P w) 4 (He.ga K "read_number") (fdOf K (He.ga K "read_number")) ["word"] (lift K (fun _ xs Q E => ∃ w : Str, xs = [.d (.str w)] ∧ w.length ≤ 90000 ∧ optK (DW.readNum w) (fun y => Q (.d y)) (E (exNT K))) 1) := by
  refine fn_ok c.fd_read_number sc_read_number rfl fun cdv A outer s I H E R hr => ⟨_, _, (dss_cons flat_of (ds_set (i := 1) sc_read_number.nd rfl (by first | exact .inl rfl | exact .inr rfl) (de_fnC (ok_number_in c) (hr.mono (by decide)) (by rfl) c.g_number_in c.fd_number_in.kp (bd_number_in c) (takesC (takes_of rfl rfl rfl rfl)) rfl (da_cons (de_var (pv 0)) da_nil)))
      (dss_cons flat_of (ds_expr (de_fnC (ok_need c) (hr.mono (by decide)) (by rfl) c.g_need c.fd_need.kp (bd_need c) (takesC (takes_of rfl rfl rfl rfl)) rfl (da_cons (de_cmp op_notN (nomark _) od_notN (de_var (pv 1)) de_non) da_nil)))
      (dss_one (ds_ret (de_var (pv 1)))))), fun xs Qd Ed hl h => ?_⟩
  obtain ⟨z, rfl, hl0, h⟩ := h
  refine ⟨rfl, nn1, z, rfl, Nat.le_trans hl0 (by decide), ?_⟩
  cases e : DW.numIn z with
  | none =>
    rw [readNum_none e] at h
    exact ⟨nE, rfl, nn1, _, rfl, h⟩
  | some n =>
    rw [readNum_some e] at h
    exact ⟨nE, rfl, nn1, _, rfl, h⟩

theorem ok_read_clock (c : Tx K w mg) : FnOk P w K mg base (L2.CX P w) 5 (He.ga K "read_clock") (fdOf K (He.ga K "read_clock")) ["words"] (lift K (fun _ xs Q E => ∃ ws, xs = [.d (.list (DW.sd ws))] ∧ WOk ws ∧ optK (DW.readClock ws) (fun y => Q (.d y)) (E (exNT K))) 1) := by
  refine fn_ok c.fd_read_clock sc_read_clock rfl fun cdv A outer s I H E R hr => ⟨_, _, (dss_cons flat_of (ds_expr (de_fnC (ok_need c) (hr.mono (by decide)) (by rfl) c.g_need c.fd_need.kp (bd_need c) (takesC (takes_of rfl rfl rfl rfl)) rfl (da_cons (de_cmp (op_eqX (hu64 hr)) (nomark _) (od_eq rfl) (de_callB call_len (cd_len rfl) (by rfl) c.f_len b_len (da_cons (de_var (pv 0)) da_nil)) (de_gint (by rfl) c.k_CLOCK_PARTS)) da_nil)))
      (dss_one (ds_ret (de_callTy call_tuple_of (cd_tuple rfl) (by rfl) c.f_tuple b_tuple (da_cons (de_lcX (own := [("at", 1), ("word", 2)]) rfl rfl (takes_of rfl rfl rfl rfl) flat_of rfl sc_read_clock.nd (di_enum (by rfl) c.f_enumerate (da_cons (de_var (pv 0)) da_nil) rfl) (blkOk_by (N := ["words", "at", "word"]) (sc := defScope (top 40)) (by decide +kernel)) (fun _ _ _ _ _ _ tkx => (dg_tup (n := 2) rfl (dgs_cons (dg_name (i := 1) sc_read_clock.nd rfl (by first | exact .inl rfl | exact .inr rfl)) (dgs_cons (dg_name (i := 2) sc_read_clock.nd rfl (by first | exact .inl rfl | exact .inr rfl)) dgs_nil)) rfl)) (fun _ _ _ _ _ _ tkx => dts_nil) (fun _ _ _ _ _ _ tkx => (de_if (dt_cmp (op_eqX (hu64 hr)) (nomark _) (od_eq rfl) (de_var (pv 1)) de_int) (de_fnC (ok_read_name c) (hr.mono (by decide)) (by rfl) c.g_read_name c.fd_read_name.kp (bd_read_name c) tkx rfl (da_cons (de_var (pv 2)) da_nil)) (de_fnC (ok_read_number c) (hr.mono (by decide)) (by rfl) c.g_read_number c.fd_read_number.kp (bd_read_number c) tkx rfl (da_cons (de_var (pv 2)) da_nil)))) (tgt_tup (tgt_names (is := [1, 2]) (by decide)).1) s) da_nil))))), fun xs Qd Ed hl h => ?_⟩
  obtain ⟨ws, rfl, hw, h⟩ := h
  refine ⟨_, rfl, .inl rfl, rfl, nn1, _, rfl, iteG (fun b1 => ?_) fun b1 => ?_⟩
  · have e1 : ws.length = 6 := by
      have b2 : PyData.eqv (.int ((DW.sd ws).length : Nat)) (.int 6) = true := b1
      rw [eqv_int] at b2
      have b3 := eq_of_beq b2
      unfold DW.sd at b3
      rw [List.length_map] at b3
      omega
    match ws, e1 with
    | [a1, a2, a3, a4, a5, a6], _ =>
    have hm : ∀ x ∈ [a1, a2, a3, a4, a5, a6], x.length ≤ 90000 := fun x hx => Nat.le_trans (hw.mem hx) (by decide)
    clear b1 e1
    refine ⟨rfl, rfl, .inl rfl, rfl, nn1, a1, rfl, hm a1 (by simp), optG (fun y1 e1 => ?_) fun e1 => (by rw [show DW.readClock [a1, a2, a3, a4, a5, a6] = none by simp only [DW.readClock, DW.allO, e1, Option.map_none]] at h; exact h)⟩
    refine ⟨rfl, rfl, .inl rfl, rfl, nn1, a2, rfl, hm a2 (by simp), optG (fun y2 e2 => ?_) fun e2 => (by rw [show DW.readClock [a1, a2, a3, a4, a5, a6] = none by simp only [DW.readClock, DW.allO, e1, e2, Option.map_none]] at h; exact h)⟩
    refine ⟨rfl, rfl, .inl rfl, rfl, nn1, a3, rfl, hm a3 (by simp), optG (fun y3 e3 => ?_) fun e3 => (by rw [show DW.readClock [a1, a2, a3, a4, a5, a6] = none by simp only [DW.readClock, DW.allO, e1, e2, e3, Option.map_none]] at h; exact h)⟩
    refine ⟨rfl, rfl, .inl rfl, rfl, nn1, a4, rfl, hm a4 (by simp), optG (fun y4 e4 => ?_) fun e4 => (by rw [show DW.readClock [a1, a2, a3, a4, a5, a6] = none by simp only [DW.readClock, DW.allO, e1, e2, e3, e4, Option.map_none]] at h; exact h)⟩
    refine ⟨rfl, rfl, .inl rfl, rfl, nn1, a5, rfl, hm a5 (by simp), optG (fun y5 e5 => ?_) fun e5 => (by rw [show DW.readClock [a1, a2, a3, a4, a5, a6] = none by simp only [DW.readClock, DW.allO, e1, e2, e3, e4, e5, Option.map_none]] at h; exact h)⟩
    refine ⟨rfl, rfl, .inl rfl, rfl, nn1, a6, rfl, hm a6 (by simp), optG (fun y6 e6 => ?_) fun e6 => (by rw [show DW.readClock [a1, a2, a3, a4, a5, a6] = none by simp only [DW.readClock, DW.allO, e1, e2, e3, e4, e5, e6, Option.map_none]] at h; exact h)⟩
    rw [show DW.readClock [a1, a2, a3, a4, a5, a6] = some (.tuple [y1, y2, y3, y4, y5, y6]) by simp only [DW.readClock, DW.allO, e1, e2, e3, e4, e5, e6, Option.map_some]] at h
    exact ⟨_, rfl, h⟩
  · have e1 : ¬ ws.length = 6 := fun e => by
      have b2 : PyData.eqv (.int ((DW.sd ws).length : Nat)) (.int 6) = false := b1
      rw [eqv_int] at b2
      unfold DW.sd at b2
      rw [List.length_map, e] at b2
      cases b2
    have e2 : DW.readClock ws = none := by
      unfold DW.readClock
      split
      · exact absurd rfl e1
      · rfl
    rw [e2] at h
    exact h

end
end K87
set_option Elab.async false
set_option linter.all false
set_option maxRecDepth 100000
set_option maxHeartbeats 4000000
namespace K87
open PySem PySem.Spec PyProof.Rows L2 PD
theorem optM {α : Type} {o : Option α} {f g : α → Prop} {n m : Prop} (h : optK o f n) (hs : ∀ a, o = some a → f a → g a) (hn : o = none → n → m) : optK o g m := by
  cases o with
  | some a => exact hs a rfl h
  | none => exact hn rfl h
theorem idx_spec {x : Str} : ∀ {ws : List Str} {k : Nat}, DW.idx x ws = some k → ws[k]? = some x ∧ ∀ m y, m < k → ws[m]? = some y → (y == x) = false
  | [], _, h => by cases h
  | y :: r, k, h => by
    unfold DW.idx at h
    split at h
    · rename_i e
      cases h
      have e := eq_of_beq e
      subst e
      exact ⟨rfl, fun m z hm => by omega⟩
    · rename_i e
      cases e2 : DW.idx x r with
      | none => rw [e2] at h; cases h
      | some j =>
        rw [e2] at h
        cases h
        obtain ⟨h1, h2⟩ := idx_spec e2
        refine ⟨by simpa using h1, fun m z hm hz => ?_⟩
        cases m with
        | zero =>
          simp at hz
          subst hz
          simpa using e
        | succ m => exact h2 m z (by have hm : m + 1 < j + 1 := hm; omega) (by simpa using hz)
theorem idx_none {x : Str} : ∀ {ws : List Str}, DW.idx x ws = none → ∀ y ∈ ws, (y == x) = false
  | [], _, y, hy => by cases hy
  | z :: r, h, y, hy => by
    unfold DW.idx at h
    split at h
    · cases h
    · rename_i e
      cases e2 : DW.idx x r with
      | some j => rw [e2] at h; cases h
      | none =>
        rcases List.mem_cons.mp hy with rfl | hy
        · simpa using e
        · exact idx_none e2 y hy
theorem any_sd {x : Str} {ws : List Str} : ((DW.sd ws).any fun z => PyData.eqv z (.str x)) = (DW.idx x ws).isSome := by
  cases e : DW.idx x ws with
  | none =>
    show _ = false
    rw [List.any_eq_false]
    intro d hd
    obtain ⟨y, hy, rfl⟩ := List.mem_map.mp hd
    rw [eqv_str, idx_none e y hy]
    decide
  | some k =>
    show _ = true
    rw [List.any_eq_true]
    obtain ⟨h1, _⟩ := idx_spec e
    exact ⟨.str x, List.mem_map.mpr ⟨x, List.mem_of_getElem? h1, rfl⟩, by rw [eqv_str]; exact beq_self_eq_true _⟩
theorem lcGo_opt {α : Type} {body : PyData → (Option PyData → Prop) → Prop} {g : α → PyData} {f : α → Option PyData} {Q : List PyData → Prop} {n : Prop} : ∀ {l : List α} {acc : List PyData}, (∀ a ∈ l, ∀ K : Option PyData → Prop, optK (f a) (fun y => K (some y)) n → body (g a) K) → optK (DW.allO (l.map f)) (fun ys => Q (acc ++ ys)) n → lcGo body (l.map g) acc Q
  | [], acc, _, q => by
    show Q acc
    have q : Q (acc ++ []) := q
    rwa [List.append_nil] at q
  | a :: l, acc, h, q => by
    refine h a List.mem_cons_self _ ?_
    have q : optK (DW.allO (f a :: l.map f)) (fun ys => Q (acc ++ ys)) n := q
    cases e : f a with
    | none =>
      rw [e] at q
      exact q
    | some y =>
      rw [e] at q
      refine lcGo_opt (fun b hb => h b (List.mem_cons_of_mem _ hb)) ?_
      have q : optK ((DW.allO (l.map f)).map (y :: ·)) (fun ys => Q (acc ++ ys)) n := q
      cases e2 : DW.allO (l.map f) with
      | none => rw [e2] at q; exact q
      | some ys =>
        rw [e2] at q
        show Q ((acc ++ [y]) ++ ys)
        rw [List.append_assoc]
        exact q
theorem allO_len {l : List (Option PyData)} : ∀ {ys : List PyData}, DW.allO l = some ys → ys.length = l.length := by
  induction l with
  | nil => intro ys h; cases h; rfl
  | cons o l ih =>
    intro ys h
    cases o with
    | none => cases h
    | some a =>
      have h : (DW.allO l).map (a :: ·) = some ys := h
      cases e : DW.allO l with
      | none => rw [e] at h; cases h
      | some zs =>
        rw [e] at h
        cases h
        rw [List.length_cons, List.length_cons, ih e]
theorem at_get {ws : List Str} {i : Nat} (h : i < ws.length) : (DW.sd ws)[i]? = some (.str (DW.at_ ws i)) := by
  unfold DW.sd DW.at_
  rw [List.getElem?_map, List.getElem?_eq_getElem h, List.getD_eq_getElem?_getD, List.getElem?_eq_getElem h]
  rfl
theorem at_mem {ws : List Str} {i : Nat} (h : i < ws.length) : DW.at_ ws i ∈ ws := by
  unfold DW.at_
  rw [List.getD_eq_getElem?_getD, List.getElem?_eq_getElem h]
  exact List.getElem_mem h
theorem cut_sd (ws : List Str) (lo hi : Option Int) : PD.cut (DW.sd ws) lo hi = DW.sd (PD.cut ws lo hi) := cut_map _ _ _ _
theorem len_sd (ws : List Str) : (DW.sd ws).length = ws.length := by unfold DW.sd; rw [List.length_map]
theorem cut_to {α : Type} (xs : List α) (k : Nat) : PD.cut xs none (some (k : Int)) = xs.take k := by
  unfold PD.cut
  show (xs.drop 0).take (HT.sIx xs.length xs.length (some (k : Int)) - 0) = _
  rw [HT.sIx_nat, List.drop_zero, Nat.sub_zero]
  by_cases h : k ≤ xs.length
  · rw [Nat.min_eq_left h]
  · rw [Nat.min_eq_right (by omega), List.take_length, List.take_of_length_le (by omega)]
theorem cut_from {α : Type} (xs : List α) (k : Nat) : PD.cut xs (some (k : Int)) none = xs.drop k := by
  unfold PD.cut
  show (xs.drop (HT.sIx xs.length 0 (some (k : Int)))).take (xs.length - HT.sIx xs.length 0 (some (k : Int))) = _
  rw [HT.sIx_nat]
  by_cases h : k ≤ xs.length
  · rw [Nat.min_eq_left h]
    exact List.take_of_length_le (by rw [List.length_drop]; omega)
  · rw [Nat.min_eq_right (by omega), Nat.sub_self, List.take_zero, List.drop_of_length_le (by omega)]
theorem seqG {t u : TDS} {D : DEnds} {E : EK} {δ : DEnv} (h : t { D with nx := u D E } E δ) : dSeq t u D E δ := h
theorem asgC {y : PyData} {i : Nat} {D : DEnds} {E : EK} {δ : DEnv} (h : D.nx (δ.set i (some (.d y)))) : dAsg (dC (.d y)) (dName i) D E δ := h
theorem readLetter_tup {z : Str} {y : PyData} (h : DW.readLetter z = some y) : DW.isLetter y = true ∧ ∃ ds, y = .tuple ds := by
  unfold DW.readLetter at h
  split at h
  · cases h
  · split at h
    · cases h
    · dsimp only at h
      split at h
      · rename_i c
        cases h
        exact ⟨c, _, rfl⟩
      · cases h

section
variable {P : Program} {w : World} {K : PySem.W.Frag} {mg : Str → Option Value} {base : Heap}
theorem ok_read_letter_of (c : Tx K w mg) : FnOk P w K mg base (L2.CX P w) 5 (He.ga K "read_letter_of") (fdOf K (He.ga K "read_letter_of")) ["words"] (lift K (fun _ xs Q E => ∃ ws, xs = [.d (.list (DW.sd ws))] ∧ WOk ws ∧ optK (DW.readLetterOf ws) (fun y => Q (.d y)) (E (exNT K))) 1) := by
  refine fn_ok c.fd_read_letter_of sc_read_letter_of rfl fun cdv A outer s I H E R hr => ⟨_, _, (dss_cons flat_of (ds_set (i := 1) sc_read_letter_of.nd rfl (by first | exact .inl rfl | exact .inr rfl) de_non)
      (dss_cons flat_of (ds_try (c := .ref (He.ga K "NoLetter")) (cat := cat1 (He.ga K "NoLetter")) rfl rfl ⟨(by rfl), (by decide), .inl c.g_NoLetter⟩ (takes_of rfl rfl rfl rfl) rfl (cat1_ok c.em_NoLetter_NoLetter) (fun W I0 H0 pn xe tk => (dss_one (ds_set (i := 1) sc_read_letter_of.nd rfl (by first | exact .inl rfl | exact .inr rfl) (de_fnT K R W (ok_read_letter c) (hr.mono (by decide)) (by rfl) c.g_read_letter c.fd_read_letter.kp (bd_read_letter c) (takesC tk) rfl (da_cons (de_methT K (md_join rfl) de_str (da_cons (de_var (pv 0)) da_nil) rfl rfl (fun q q' => pe_bm PySem.F.plainAttrs_str PySem.F.slot_str_join PySem.F.type_str_join (mt_join) q q')) da_nil) rfl rfl rfl)))) (fun a cls d pn => (dss_one (ds_set (i := 1) sc_read_letter_of.nd rfl (by first | exact .inl rfl | exact .inr rfl) de_non))))
      (dss_cons flat_of (ds_expr (de_fnC (ok_need c) (hr.mono (by decide)) (by rfl) c.g_need c.fd_need.kp (bd_need c) (takesC (takes_of rfl rfl rfl rfl)) rfl (da_cons (de_cmp op_notN (nomark _) od_notN (de_var (pv 1)) de_non) da_nil)))
      (dss_one (ds_ret (de_var (pv 1))))))), fun xs Qd Ed hl h => ?_⟩
  obtain ⟨ws, rfl, hw, h⟩ := h
  refine seqG (asgC ?_)
  dsimp only
  show dSeq _ _ _ _ [some (.d (.list (DW.sd ws))), some (.d .none)]
  have hz := join_ok hw
  refine ⟨rfl, _, ws, rfl, strs_map ws, join_sz hw, rfl, nn1, _, rfl, Nat.le_trans (join_len hw) (by decide), hz, optG (fun y e => ?_) fun e => ?_⟩
  · rw [show DW.readLetterOf ws = some y from e] at h
    obtain ⟨_, ds, rfl⟩ := readLetter_tup e
    exact ⟨nE, rfl, nn1, _, rfl, h⟩
  · rw [show DW.readLetterOf ws = none from e] at h
    exact ⟨true, if_pos rfl, nE, rfl, nn1, _, rfl, h⟩

theorem ok_read_claim (c : Tx K w mg) : FnOk P w K mg base (L2.CX P w) 6 (He.ga K "read_claim") (fdOf K (He.ga K "read_claim")) ["words"] (lift K (fun _ xs Q E => ∃ ws, xs = [.d (.list (DW.sd ws))] ∧ WOk ws ∧ optK (DW.readClaim ws) (fun y => Q (.d y)) (E (exNT K))) 1) := by
  refine fn_ok c.fd_read_claim sc_read_claim rfl fun cdv A outer s I H E R hr => ⟨_, _, (dss_cons flat_of (ds_expr (de_fnC (ok_need c) (hr.mono (by decide)) (by rfl) c.g_need c.fd_need.kp (bd_need c) (takesC (takes_of rfl rfl rfl rfl)) rfl (da_cons (de_cmp (op_inX (hu65 hr)) rfl (od_in rfl) de_str (de_var (pv 0))) da_nil)))
      (dss_cons flat_of (ds_set (i := 1) sc_read_claim.nd rfl (by first | exact .inl rfl | exact .inr rfl) (de_meth (md_index rfl) (de_var (pv 0)) (da_cons de_str da_nil) rfl (fun q q' => pe_bm PySem.F.plainAttrs_list PySem.F.slot_list_index PySem.F.type_list_index (mt_indexD (hu65 hr)) q q')))
      (dss_one (ds_ret (de_tup (da_cons de_str (da_cons (de_fnC (ok_read_letter_of c) (hr.mono (by decide)) (by rfl) c.g_read_letter_of c.fd_read_letter_of.kp (bd_read_letter_of c) (takesC (takes_of rfl rfl rfl rfl)) rfl (da_cons (de_slice (de_var (pv 0)) do_none (do_some (de_var (pv 1))) rfl) da_nil)) (da_cons (de_fnC (ok_read_letter_of c) (hr.mono (by decide)) (by rfl) c.g_read_letter_of c.fd_read_letter_of.kp (bd_read_letter_of c) (takesC (takes_of rfl rfl rfl rfl)) rfl (da_cons (de_slice (de_var (pv 0)) (do_some (de_op op_cat' (od_add rfl) (de_var (pv 1)) de_int)) do_none rfl) da_nil)) da_nil)))))))), fun xs Qd Ed hl h => ?_⟩
  obtain ⟨ws, rfl, hw, h⟩ := h
  refine ⟨.str "/", _, rfl, rfl, by decide +kernel, shaped_sd hw.s, rfl, nn1, _, rfl, ?_⟩
  rw [any_sd]
  unfold DW.readClaim at h
  cases e : DW.idx "/" ws with
  | none =>
    rw [e] at h
    exact h
  | some k =>
    rw [e] at h
    obtain ⟨k1, k2⟩ := idx_spec e
    have hk : k < ws.length := (List.getElem?_eq_some_iff.mp k1).1
    refine ⟨⟨rfl, _, rfl⟩, DW.sd ws, .str "/", k, .str "/", rfl, rfl, shaped_sd hw.s, by decide +kernel, ?_, ?_, ?_, ?_⟩
    · unfold DW.sd
      rw [List.getElem?_map, k1]
      rfl
    · rw [eqv_str]; exact beq_self_eq_true _
    · intro m z' hm hz
      unfold DW.sd at hz
      rw [List.getElem?_map] at hz
      obtain ⟨y, hy, rfl⟩ := Option.map_eq_some_iff.mp hz
      rw [eqv_str]
      exact k2 m y hm hy
    · refine setG (δ' := [some (.d (.list (DW.sd ws))), some (.d (.int (k : Nat)))]) rfl ?_
      have e1 : PD.cut (DW.sd ws) none (some (k : Int)) = DW.sd (ws.take k) := by rw [cut_sd, cut_to]
      have e2 : PD.cut (DW.sd ws) (some ((k : Int) + 1)) none = DW.sd (ws.drop (k + 1)) := by rw [cut_sd, show ((k : Int) + 1) = ((k + 1 : Nat) : Int) by omega, cut_from]
      refine ⟨_, rfl, rfl, nn1, ws.take k, congrArg (fun x => [DV.d (.list x)]) e1, hw.take k, optG (fun y1 f1 => ?_) fun f1 => ?_⟩
      · refine ⟨_, rfl, rfl, nn1, ws.drop (k + 1), congrArg (fun x => [DV.d (.list x)]) e2, hw.drop (k + 1), optG (fun y2 f2 => ?_) fun f2 => ?_⟩
        · have g : optK (DW.tupO "claim" [DW.readLetterOf (ws.take k), DW.readLetterOf (ws.drop (k + 1))]) (fun y => Qd (.d y)) (Ed (exNT K)) := h
          rw [f1, f2] at g
          exact ⟨(show 3 ≤ sizeLine by decide), g⟩
        · have g : optK (DW.tupO "claim" [DW.readLetterOf (ws.take k), DW.readLetterOf (ws.drop (k + 1))]) (fun y => Qd (.d y)) (Ed (exNT K)) := h
          rw [f1, f2] at g
          exact g
      · have g : optK (DW.tupO "claim" [DW.readLetterOf (ws.take k), DW.readLetterOf (ws.drop (k + 1))]) (fun y => Qd (.d y)) (Ed (exNT K)) := h
        rw [f1] at g
        exact g

end
end K87
set_option Elab.async false
set_option linter.all false
set_option maxRecDepth 100000
set_option maxHeartbeats 4000000
namespace K87
open PySem PySem.Spec PyProof.Rows L2 PD
theorem allO_none {l : List (Option PyData)} (h : none ∈ l) : DW.allO l = none := by
  induction l with
  | nil => cases h
  | cons o l ih =>
    cases o with
    | none => rfl
    | some a =>
      have h : none ∈ l := by simpa using h
      show (DW.allO l).map (a :: ·) = none
      rw [ih h]
      rfl
theorem tupO_none {w : Str} {l : List (Option PyData)} (h : none ∈ l) : DW.tupO w l = none := by unfold DW.tupO; rw [allO_none h]; rfl
theorem wat_len {ws : List Str} (hw : WOk ws) {i : Nat} (h : i < ws.length) : (DW.at_ ws i).length ≤ 90000 := Nat.le_trans (hw.mem (at_mem h)) (by decide)
theorem names_len {ws : List Str} {y : PyData} (h : DW.readNames ws = some y) : ∃ ys, y = .tuple ys ∧ DW.allO (ws.map DW.readName) = some ys := by
  unfold DW.readNames at h
  obtain ⟨ys, e, rfl⟩ := Option.map_eq_some_iff.mp h
  exact ⟨ys, rfl, e⟩

section
variable {P : Program} {w : World} {K : PySem.W.Frag} {mg : Str → Option Value} {base : Heap}
theorem ok_read_open (c : Tx K w mg) : FnOk P w K mg base (L2.CX P w) 6 (He.ga K "read_open") (fdOf K (He.ga K "read_open")) ["words"] (lift K (fun _ xs Q E => ∃ ws, xs = [.d (.list (DW.sd ws))] ∧ WOk ws ∧ optK (DW.readOpen ws) (fun y => Q (.d y)) (E (exNT K))) 1) := by
  refine fn_ok c.fd_read_open sc_read_open rfl fun cdv A outer s I H E R hr => ⟨_, _, (dss_cons flat_of (ds_expr (de_fnC (ok_need c) (hr.mono (by decide)) (by rfl) c.g_need c.fd_need.kp (bd_need c) (takesC (takes_of rfl rfl rfl rfl)) rfl (da_cons (de_cmp op_ge (nomark _) od_intB (de_callB call_len (cd_len rfl) (by rfl) c.f_len b_len (da_cons (de_var (pv 0)) da_nil)) (de_op op_cat' (od_add rfl) de_int (de_gint (by rfl) c.k_CLOCK_PARTS))) da_nil)))
      (dss_cons flat_of (ds_set (i := 1) sc_read_open.nd rfl (by first | exact .inl rfl | exact .inr rfl) (de_callTy call_tuple_of (cd_tuple rfl) (by rfl) c.f_tuple b_tuple (da_cons (de_lcX (own := [("word", 2)]) rfl rfl (takes_of rfl rfl rfl rfl) flat_of rfl sc_read_open.nd (di_any (de_slice (de_var (pv 0)) (do_some de_int) (do_some (de_un un_neg ud_neg (de_gint (by rfl) c.k_CLOCK_PARTS))) rfl) rfl) (blkOk_by (N := ["words", "names", "word"]) (sc := defScope (top 43)) (by decide +kernel)) (fun _ _ _ _ _ _ tkx => (dg_name (i := 2) sc_read_open.nd rfl (by first | exact .inl rfl | exact .inr rfl))) (fun _ _ _ _ _ _ tkx => dts_nil) (fun _ _ _ _ _ _ tkx => (de_fnC (ok_read_name c) (hr.mono (by decide)) (by rfl) c.g_read_name c.fd_read_name.kp (bd_read_name c) tkx rfl (da_cons (de_var (pv 2)) da_nil))) (tgt_name (by decide)) s) da_nil)))
      (dss_one (ds_ret (de_tup (da_cons de_str (da_cons (de_fnC (ok_read_name c) (hr.mono (by decide)) (by rfl) c.g_read_name c.fd_read_name.kp (bd_read_name c) (takesC (takes_of rfl rfl rfl rfl)) rfl (da_cons (de_ix (de_var (pv 0)) de_int (fun _ _ => rfl) rfl) da_nil)) (da_cons (de_fnC (ok_read_name c) (hr.mono (by decide)) (by rfl) c.g_read_name c.fd_read_name.kp (bd_read_name c) (takesC (takes_of rfl rfl rfl rfl)) rfl (da_cons (de_ix (de_var (pv 0)) de_int (fun _ _ => rfl) rfl) da_nil)) (da_cons (de_var (pv 1)) (da_cons (de_fnC (ok_read_clock c) (hr.mono (by decide)) (by rfl) c.g_read_clock c.fd_read_clock.kp (bd_read_clock c) (takesC (takes_of rfl rfl rfl rfl)) rfl (da_cons (de_slice (de_var (pv 0)) (do_some (de_un un_neg ud_neg (de_gint (by rfl) c.k_CLOCK_PARTS))) do_none rfl) da_nil)) da_nil)))))))))), fun xs Qd Ed hl h => ?_⟩
  obtain ⟨ws, rfl, hw, h⟩ := h
  unfold DW.readOpen at h
  refine ⟨_, rfl, rfl, nn1, _, rfl, iteG (fun b1 => ?_) fun b1 => ?_⟩
  · have e1 : 8 ≤ ws.length := by
      have := of_decide_eq_true (show decide ((8 : Int) ≤ ((DW.sd ws).length : Int)) = true from b1)
      rw [len_sd] at this
      omega
    rw [if_neg (by omega)] at h
    clear b1
    have hn : ∀ o, o ∈ [DW.readName (DW.at_ ws 0), DW.readName (DW.at_ ws 1), DW.readNames (PD.cut ws (some 2) (some (-6))), DW.readClock (PD.cut ws (some (-6)) none)] → o = none → Ed (exNT K) := fun o ho e => by
      rw [tupO_none (e ▸ ho)] at h
      exact h
    refine ⟨_, rfl, trivial, ?_⟩
    show lcGo _ (PD.cut (DW.sd ws) (some 2) (some (-6))) [] _
    rw [cut_sd]
    refine lcGo_opt (f := DW.readName) (n := Ed (exNT K)) (fun w hwm KK k => ⟨rfl, nn1, w, rfl, Nat.le_trans (hw.mem (cut_mem hwm)) (by decide), k⟩) (optG (fun ys e2 => ?_) fun e2 => hn (DW.readNames (PD.cut ws (some 2) (some (-6)))) (by simp) (by unfold DW.readNames; rw [e2]; rfl))
    have e3 : DW.readNames (PD.cut ws (some 2) (some (-6))) = some (.tuple ys) := by unfold DW.readNames; rw [e2]; rfl
    refine ⟨ys, rfl, ?_⟩
    refine setG (δ' := [some (.d (.list (DW.sd ws))), some (.d (.tuple ys)), none]) rfl ?_
    refine ⟨_, .str (DW.at_ ws 0), rfl, atI_nat (j := 0) (at_get (by omega)), rfl, nn1, DW.at_ ws 0, rfl, wat_len hw (by omega), optG (fun y4 e4 => ?_) fun e4 => hn _ (by simp) e4⟩
    refine ⟨_, .str (DW.at_ ws 1), rfl, atI_nat (j := 1) (at_get (by omega)), rfl, nn1, DW.at_ ws 1, rfl, wat_len hw (by omega), optG (fun y5 e5 => ?_) fun e5 => hn _ (by simp) e5⟩
    refine ⟨_, rfl, rfl, nn1, PD.cut ws (some (-6)) none, congrArg (fun x => [DV.d (.list x)]) (cut_sd _ _ _), hw.cut _ _, optG (fun y6 e6 => ?_) fun e6 => hn _ (by simp) e6⟩
    rw [e3, e4, e5, e6] at h
    exact ⟨(show 5 ≤ sizeLine by decide), h⟩
  · have e1 : ws.length < 8 := by
      have := of_decide_eq_false (show decide ((8 : Int) ≤ ((DW.sd ws).length : Int)) = false from b1)
      rw [len_sd] at this
      omega
    rw [if_pos e1] at h
    exact h

theorem ok_read_cup (c : Tx K w mg) : FnOk P w K mg base (L2.CX P w) 6 (He.ga K "read_cup") (fdOf K (He.ga K "read_cup")) ["words"] (lift K (fun _ xs Q E => ∃ ws, xs = [.d (.list (DW.sd ws))] ∧ WOk ws ∧ optK (DW.readCup ws) (fun y => Q (.d y)) (E (exNT K))) 1) := by
  refine fn_ok c.fd_read_cup sc_read_cup rfl fun cdv A outer s I H E R hr => ⟨_, _, (dss_cons flat_of (ds_expr (de_fnC (ok_need c) (hr.mono (by decide)) (by rfl) c.g_need c.fd_need.kp (bd_need c) (takesC (takes_of rfl rfl rfl rfl)) rfl (da_cons (de_cmp op_ge (nomark _) od_intB (de_callB call_len (cd_len rfl) (by rfl) c.f_len b_len (da_cons (de_var (pv 0)) da_nil)) (de_op op_cat' (od_add rfl) de_int (de_gint (by rfl) c.k_CLOCK_PARTS))) da_nil)))
      (dss_cons flat_of (ds_set (i := 1) sc_read_cup.nd rfl (by first | exact .inl rfl | exact .inr rfl) (de_callTy call_tuple_of (cd_tuple rfl) (by rfl) c.f_tuple b_tuple (da_cons (de_lcX (own := [("word", 2)]) rfl rfl (takes_of rfl rfl rfl rfl) flat_of rfl sc_read_cup.nd (di_any (de_slice (de_var (pv 0)) (do_some (de_op op_cat' (od_add rfl) de_int (de_gint (by rfl) c.k_CLOCK_PARTS))) do_none rfl) rfl) (blkOk_by (N := ["words", "names", "word", "terms"]) (sc := defScope (top 44)) (by decide +kernel)) (fun _ _ _ _ _ _ tkx => (dg_name (i := 2) sc_read_cup.nd rfl (by first | exact .inl rfl | exact .inr rfl))) (fun _ _ _ _ _ _ tkx => dts_nil) (fun _ _ _ _ _ _ tkx => (de_fnC (ok_read_name c) (hr.mono (by decide)) (by rfl) c.g_read_name c.fd_read_name.kp (bd_read_name c) tkx rfl (da_cons (de_var (pv 2)) da_nil))) (tgt_name (by decide)) s) da_nil)))
      (dss_cons flat_of (ds_set (i := 3) sc_read_cup.nd rfl (by first | exact .inl rfl | exact .inr rfl) (de_fnC (ok_read_clock c) (hr.mono (by decide)) (by rfl) c.g_read_clock c.fd_read_clock.kp (bd_read_clock c) (takesC (takes_of rfl rfl rfl rfl)) rfl (da_cons (de_slice (de_var (pv 0)) (do_some de_int) (do_some (de_op op_cat' (od_add rfl) de_int (de_gint (by rfl) c.k_CLOCK_PARTS))) rfl) da_nil)))
      (dss_one (ds_ret (de_tup (da_cons de_str (da_cons (de_fnC (ok_read_name c) (hr.mono (by decide)) (by rfl) c.g_read_name c.fd_read_name.kp (bd_read_name c) (takesC (takes_of rfl rfl rfl rfl)) rfl (da_cons (de_ix (de_var (pv 0)) de_int (fun _ _ => rfl) rfl) da_nil)) (da_cons (de_var (pv 1)) (da_cons (de_fnC (ok_read_number c) (hr.mono (by decide)) (by rfl) c.g_read_number c.fd_read_number.kp (bd_read_number c) (takesC (takes_of rfl rfl rfl rfl)) rfl (da_cons (de_ix (de_var (pv 0)) de_int (fun _ _ => rfl) rfl) da_nil)) (da_cons (de_fnC (ok_read_name c) (hr.mono (by decide)) (by rfl) c.g_read_name c.fd_read_name.kp (bd_read_name c) (takesC (takes_of rfl rfl rfl rfl)) rfl (da_cons (de_ix (de_var (pv 0)) de_int (fun _ _ => rfl) rfl) da_nil)) (da_cons (de_var (pv 3)) da_nil)))))))))))), fun xs Qd Ed hl h => ?_⟩
  obtain ⟨ws, rfl, hw, h⟩ := h
  unfold DW.readCup at h
  refine ⟨_, rfl, rfl, nn1, _, rfl, iteG (fun b1 => ?_) fun b1 => ?_⟩
  · have e1 : 9 ≤ ws.length := by
      have := of_decide_eq_true (show decide ((9 : Int) ≤ ((DW.sd ws).length : Int)) = true from b1)
      rw [len_sd] at this
      omega
    rw [if_neg (by omega)] at h
    clear b1
    have hn : ∀ o, o ∈ [DW.readName (DW.at_ ws 0), DW.readNames (PD.cut ws (some 9) none), DW.readNum (DW.at_ ws 1), DW.readName (DW.at_ ws 2), DW.readClock (PD.cut ws (some 3) (some 9))] → o = none → Ed (exNT K) := fun o ho e => by
      rw [tupO_none (e ▸ ho)] at h
      exact h
    refine ⟨_, rfl, trivial, ?_⟩
    show lcGo _ (PD.cut (DW.sd ws) (some 9) none) [] _
    rw [cut_sd]
    refine lcGo_opt (f := DW.readName) (n := Ed (exNT K)) (fun w hwm KK k => ⟨rfl, nn1, w, rfl, Nat.le_trans (hw.mem (cut_mem hwm)) (by decide), k⟩) (optG (fun ys e2 => ?_) fun e2 => hn (DW.readNames (PD.cut ws (some 9) none)) (by simp) (by unfold DW.readNames; rw [e2]; rfl))
    have e3 : DW.readNames (PD.cut ws (some 9) none) = some (.tuple ys) := by unfold DW.readNames; rw [e2]; rfl
    refine ⟨ys, rfl, ?_⟩
    refine setG (δ' := [some (.d (.list (DW.sd ws))), some (.d (.tuple ys)), none, none]) rfl ?_
    refine ⟨_, rfl, rfl, nn1, PD.cut ws (some 3) (some 9), congrArg (fun x => [DV.d (.list x)]) (cut_sd _ _ _), hw.cut _ _, optG (fun y6 e6 => ?_) fun e6 => hn _ (by simp) e6⟩
    refine setG (δ' := [some (.d (.list (DW.sd ws))), some (.d (.tuple ys)), none, some (.d y6)]) rfl ?_
    refine ⟨_, .str (DW.at_ ws 0), rfl, atI_nat (j := 0) (at_get (by omega)), rfl, nn1, DW.at_ ws 0, rfl, wat_len hw (by omega), optG (fun y4 e4 => ?_) fun e4 => hn _ (by simp) e4⟩
    refine ⟨_, .str (DW.at_ ws 1), rfl, atI_nat (j := 1) (at_get (by omega)), rfl, nn1, DW.at_ ws 1, rfl, wat_len hw (by omega), optG (fun y5 e5 => ?_) fun e5 => hn _ (by simp) e5⟩
    refine ⟨_, .str (DW.at_ ws 2), rfl, atI_nat (j := 2) (at_get (by omega)), rfl, nn1, DW.at_ ws 2, rfl, wat_len hw (by omega), optG (fun y7 e7 => ?_) fun e7 => hn _ (by simp) e7⟩
    rw [e3, e4, e5, e6, e7] at h
    exact ⟨(show 6 ≤ sizeLine by decide), h⟩
  · have e1 : ws.length < 9 := by
      have := of_decide_eq_false (show decide ((9 : Int) ≤ ((DW.sd ws).length : Int)) = false from b1)
      rw [len_sd] at this
      omega
    rw [if_pos e1] at h
    exact h

end
end K87
set_option Elab.async false
set_option linter.all false
set_option maxRecDepth 100000
set_option maxHeartbeats 4000000
namespace K87
open PySem PySem.Spec PyProof.Rows L2 PD
theorem tupO_member {a b : Option PyData} : DW.tupO "member" [a, b] = match a, b with | some x, some y => some (.tuple [.str "member", x, y]) | _, _ => none := by
  cases a <;> cases b <;> rfl

section
variable {P : Program} {w : World} {K : PySem.W.Frag} {mg : Str → Option Value} {base : Heap}
theorem ok_read_deed (c : Tx K w mg) : FnOk P w K mg base (L2.CX P w) 7 (He.ga K "read_deed") (fdOf K (He.ga K "read_deed")) ["text"] (lift K (fun _ xs Q E => ∃ d, xs = [.d d] ∧ (∀ z, d = .str z → z.length ≤ 79000 ∧ PyData.strOk z = true) ∧ (∃ d2, datOf (.d d) = some d2) ∧ optK (DW.readDeed d) (fun y => Q (.d y)) (E (exNT K))) 1) := by
  refine fn_ok c.fd_read_deed sc_read_deed rfl fun cdv A outer s I H E R hr => ⟨_, _, (dss_cons flat_of (ds_expr (de_fnC (ok_need c) (hr.mono (by decide)) (by rfl) c.g_need c.fd_need.kp (bd_need c) (takesC (takes_of rfl rfl rfl rfl)) rfl (da_cons (de_callB call_isi (cd_isi rfl) (by rfl) c.f_isinstance b_isinstance (da_cons (de_var (pv 0)) (da_cons (de_ty (by rfl) c.f_str b_str) da_nil))) da_nil)))
      (dss_cons flat_of (ds_asg (de_meth (md_split) (de_var (pv 0)) (da_cons de_str da_nil) rfl (fun q q' => pe_bm PySem.F.plainAttrs_str PySem.F.slot_str_split PySem.F.type_str_split (mt_split) q q')) (dg_star (n := 2) (i := 1) rfl (dgs_cons (dg_name (i := 1) sc_read_deed.nd rfl (by first | exact .inl rfl | exact .inr rfl)) (dgs_consS (dg_name (i := 2) sc_read_deed.nd rfl (by first | exact .inl rfl | exact .inr rfl)) dgs_nil)) rfl (by decide)))
      (dss_cons flat_of (ds_if (dt_cmp (op_eqX (hu64 hr)) (nomark _) (od_eq rfl) (de_var (pv 1)) de_str) (dss_one (ds_ret (de_fnC (ok_read_open c) (hr.mono (by decide)) (by rfl) c.g_read_open c.fd_read_open.kp (bd_read_open c) (takesC (takes_of rfl rfl rfl rfl)) rfl (da_cons (de_var (pv 2)) da_nil)))) dss_nil)
      (dss_cons flat_of (ds_if (dt_cmp (op_eqX (hu64 hr)) (nomark _) (od_eq rfl) (de_var (pv 1)) de_str) (dss_one (ds_ret (de_fnC (ok_read_cup c) (hr.mono (by decide)) (by rfl) c.g_read_cup c.fd_read_cup.kp (bd_read_cup c) (takesC (takes_of rfl rfl rfl rfl)) rfl (da_cons (de_var (pv 2)) da_nil)))) dss_nil)
      (dss_cons flat_of (ds_if (dt_cmp (op_eqX (hu64 hr)) (nomark _) (od_eq rfl) (de_var (pv 1)) de_str) (dss_one (ds_ret (de_fnC (ok_read_claim c) (hr.mono (by decide)) (by rfl) c.g_read_claim c.fd_read_claim.kp (bd_read_claim c) (takesC (takes_of rfl rfl rfl rfl)) rfl (da_cons (de_var (pv 2)) da_nil)))) dss_nil)
      (dss_cons flat_of (ds_if (dt_cmp (op_eqX (hu64 hr)) (nomark _) (od_eq rfl) (de_var (pv 1)) de_str) (dss_one (ds_ret (de_tup (da_cons de_str (da_cons (de_fnC (ok_read_letter_of c) (hr.mono (by decide)) (by rfl) c.g_read_letter_of c.fd_read_letter_of.kp (bd_read_letter_of c) (takesC (takes_of rfl rfl rfl rfl)) rfl (da_cons (de_var (pv 2)) da_nil)) da_nil))))) dss_nil)
      (dss_cons flat_of (ds_expr (de_fnC (ok_need c) (hr.mono (by decide)) (by rfl) c.g_need c.fd_need.kp (bd_need c) (takesC (takes_of rfl rfl rfl rfl)) rfl (da_cons (de_and (de_cmp (op_inX (hu65 hr)) rfl (od_in rfl) (de_var (pv 1)) (de_tup (da_cons de_str (da_cons de_str (da_cons de_str (da_cons de_str da_nil)))))) (de_one (de_cmp (op_eqX (hu64 hr)) (nomark _) (od_eq rfl) (de_op op_cat' (od_add rfl) (de_callB call_len (cd_len rfl) (by rfl) c.f_len b_len (da_cons (de_var (pv 2)) da_nil)) de_int) (de_kix c.tb_SIZES (de_gcls (by rfl) c.g_SIZES) (de_var (pv 1)))))) da_nil)))
      (dss_cons flat_of (ds_if (dt_cmp (op_eqX (hu64 hr)) (nomark _) (od_eq rfl) (de_var (pv 1)) de_str) (dss_cons flat_of (ds_expr (de_fnC (ok_need c) (hr.mono (by decide)) (by rfl) c.g_need c.fd_need.kp (bd_need c) (takesC (takes_of rfl rfl rfl rfl)) rfl (da_cons (de_fnC (ok_is_key c) (hr.mono (by decide)) (by rfl) c.g_is_key c.fd_is_key.kp (bd_is_key c) (takesC (takes_of rfl rfl rfl rfl)) rfl (da_cons (de_ix (de_var (pv 2)) de_int (fun _ _ => rfl) rfl) da_nil)) da_nil)))
      (dss_one (ds_ret (de_tup (da_cons de_str (da_cons (de_fnC (ok_read_name c) (hr.mono (by decide)) (by rfl) c.g_read_name c.fd_read_name.kp (bd_read_name c) (takesC (takes_of rfl rfl rfl rfl)) rfl (da_cons (de_ix (de_var (pv 2)) de_int (fun _ _ => rfl) rfl) da_nil)) (da_cons (de_ix (de_var (pv 2)) de_int (fun _ _ => rfl) rfl) da_nil))))))) dss_nil)
      (dss_cons flat_of (ds_if (dt_cmp (op_eqX (hu64 hr)) (nomark _) (od_eq rfl) (de_var (pv 1)) de_str) (dss_one (ds_ret (de_tup (da_cons de_str (da_cons (de_fnC (ok_read_number c) (hr.mono (by decide)) (by rfl) c.g_read_number c.fd_read_number.kp (bd_read_number c) (takesC (takes_of rfl rfl rfl rfl)) rfl (da_cons (de_ix (de_var (pv 2)) de_int (fun _ _ => rfl) rfl) da_nil)) da_nil))))) dss_nil)
      (dss_one (ds_ret (de_if (dt_cmp (op_eqX (hu64 hr)) (nomark _) (od_eq rfl) (de_var (pv 1)) de_str) (de_tup (da_cons de_str da_nil)) (de_tup (da_cons de_str (da_cons (de_fnC (ok_read_name c) (hr.mono (by decide)) (by rfl) c.g_read_name c.fd_read_name.kp (bd_read_name c) (takesC (takes_of rfl rfl rfl rfl)) rfl (da_cons (de_ix (de_var (pv 2)) de_int (fun _ _ => rfl) rfl) da_nil)) da_nil))))))))))))))), fun xs Qd Ed hl h => ?_⟩
  obtain ⟨d, rfl, hz, _, h⟩ := h
  refine ⟨d, rfl, .inl rfl, rfl, nn1, _, rfl, ?_⟩
  rw [isT_str]
  cases d with
  | str z =>
    obtain ⟨hl0, ho⟩ := hz z rfl
    have hw := split_wok hl0 ho
    have hp := split_pos z " "
    have hl2 := split_le z " "
    have h : optK (match Txt.split z " " with
      | w :: ws => DW.readWords w ws
      | [] => none) (fun y => Qd (.d y)) (Ed (exNT K)) := h
    refine ⟨rfl, rfl, Nat.le_trans (Nat.add_le_add_right hl0 2) (by decide), Nat.le_trans hl2 (Nat.le_trans (Nat.add_le_add_right hl0 2) (by decide)), ?_⟩
    generalize Txt.split z " " = sp at *
    cases sp with
    | nil => simp at hp
    | cons w ws =>
    have h : optK (DW.readWords w ws) (fun y => Qd (.d y)) (Ed (exNT K)) := h
    have hs := hw.tail
    have hwo : PyData.strOk w = true := hw.s w List.mem_cons_self
    refine starL ?_
    refine ⟨rfl, ?_⟩
    dsimp only
    show dSeq _ _ _ _ [some (.d (.str z)), some (.d (.str w)), some (.d (.list (DW.sd ws)))]
    unfold DW.readWords at h
    refine ⟨.inl rfl, iteG (fun b => ?_) fun b => ?_⟩
    · have e : (w == ("open" : Str)) = true := by rw [← eqv_str]; exact b
      rw [if_pos e] at h
      exact ⟨rfl, nn1, ws, rfl, hs, h⟩
    have e : ¬ (w == ("open" : Str)) = true := by rw [← eqv_str]; rw [show PyData.eqv (.str w) (.str "open") = false from b]; decide
    rw [if_neg e] at h
    clear b e
    refine ⟨.inl rfl, iteG (fun b => ?_) fun b => ?_⟩
    · have e : (w == ("cup" : Str)) = true := by rw [← eqv_str]; exact b
      rw [if_pos e] at h
      exact ⟨rfl, nn1, ws, rfl, hs, h⟩
    have e : ¬ (w == ("cup" : Str)) = true := by rw [← eqv_str]; rw [show PyData.eqv (.str w) (.str "cup") = false from b]; decide
    rw [if_neg e] at h
    clear b e
    refine ⟨.inl rfl, iteG (fun b => ?_) fun b => ?_⟩
    · have e : (w == ("claim" : Str)) = true := by rw [← eqv_str]; exact b
      rw [if_pos e] at h
      exact ⟨rfl, nn1, ws, rfl, hs, h⟩
    have e : ¬ (w == ("claim" : Str)) = true := by rw [← eqv_str]; rw [show PyData.eqv (.str w) (.str "claim") = false from b]; decide
    rw [if_neg e] at h
    clear b e
    refine ⟨.inl rfl, iteG (fun b => ?_) fun b => ?_⟩
    · have e : (w == ("hear" : Str)) = true := by rw [← eqv_str]; exact b
      rw [if_pos e] at h
      refine ⟨rfl, nn1, ws, rfl, hs, optG (fun y e1 => ?_) fun e1 => ?_⟩
      · rw [e1] at h
        exact ⟨(show 2 ≤ sizeLine by decide), h⟩
      · rw [e1] at h
        exact h
    have e : ¬ (w == ("hear" : Str)) = true := by rw [← eqv_str]; rw [show PyData.eqv (.str w) (.str "hear") = false from b]; decide
    rw [if_neg e] at h
    clear b e
    refine ⟨(show 4 ≤ sizeLine by decide), .str w, rfl, shaped_str hwo, by decide +kernel, iteG (fun b => ?_) fun b => ?_⟩
    · have b2 : (PyData.eqv (.str "member") (.str w) || (PyData.eqv (.str "tick") (.str w) || (PyData.eqv (.str "day") (.str w) || (PyData.eqv (.str "round") (.str w) || false)))) = true := b
      clear b
      simp only [eqv_str, Bool.or_false, Bool.or_eq_true] at b2
      have hsl : (DW.sd ws).length = ws.length := len_sd ws
      have hc : ∀ {n m : Int}, PyData.eqv (.int (((DW.sd ws).length : Int) + 1)) (.int n) = true → (ws.length : Int) + 1 = n := fun {n m} b => by
        rw [eqv_int, hsl] at b
        exact eq_of_beq b
      have hc0 : ∀ {n : Int}, PyData.eqv (.int (((DW.sd ws).length : Int) + 1)) (.int n) = false → ¬ (ws.length : Int) + 1 = n := fun {n} b e => by
        rw [eqv_int, hsl, e] at b
        simp at b
      rcases b2 with b2 | b2 | b2 | b2
      · have ew := (eq_of_beq b2).symm
        subst ew
        rw [if_pos (by decide)] at h
        refine ⟨_, rfl, "member", 3, rfl, rfl, rfl, .inl rfl, rfl, nn1, _, rfl, iteG (fun b => ?_) fun b => ?_⟩
        · have hl := hc (m := 0) b
          have hl2 : ws.length = 2 := by omega
          refine ⟨.inl rfl, takeB (by decide) ⟨_, .str (DW.at_ ws 1), rfl, atI_nat (j := 1) (at_get (by omega)), rfl, nn1, .str (DW.at_ ws 1), rfl, Nat.le_trans (wat_len hs (by omega)) (by decide), rfl, nn1, _, rfl, iteG (fun b3 => ?_) fun b3 => ?_⟩⟩
          · rw [if_pos ⟨hl2, b3⟩] at h
            refine ⟨_, .str (DW.at_ ws 0), rfl, atI_nat (j := 0) (at_get (by omega)), rfl, nn1, DW.at_ ws 0, rfl, wat_len hs (by omega), optG (fun y e1 => ?_) fun e1 => ?_⟩
            · rw [e1] at h
              exact ⟨_, .str (DW.at_ ws 1), rfl, atI_nat (j := 1) (at_get (by omega)), (show 3 ≤ sizeLine by decide), h⟩
            · rw [e1] at h
              exact h
          · rw [if_neg (fun k => by have := k.2; rw [show DW.wordOk 20 (DW.at_ ws 1) = false from b3] at this; cases this)] at h
            exact h
        · have hl := hc0 b
          rw [if_neg (fun k => hl (by rw [k.1]; rfl))] at h
          exact h
      · have ew := (eq_of_beq b2).symm
        subst ew
        rw [if_neg (by decide), if_pos (by decide)] at h
        refine ⟨_, rfl, "tick", 2, rfl, rfl, rfl, .inl rfl, rfl, nn1, _, rfl, iteG (fun b => ?_) fun b => ?_⟩
        · have hl := hc (m := 0) b
          have hl2 : ws.length = 1 := by omega
          rw [if_pos hl2] at h
          refine ⟨.inl rfl, skipB (by decide) ⟨.inl rfl, takeB (by decide) ⟨_, .str (DW.at_ ws 0), rfl, atI_nat (j := 0) (at_get (by omega)), rfl, nn1, DW.at_ ws 0, rfl, wat_len hs (by omega), optG (fun y e1 => ?_) fun e1 => ?_⟩⟩⟩
          · rw [e1] at h
            exact ⟨(show 2 ≤ sizeLine by decide), h⟩
          · rw [e1] at h
            exact h
        · have hl := hc0 b
          rw [if_neg (fun k => hl (by rw [k]; rfl))] at h
          exact h
      · have ew := (eq_of_beq b2).symm
        subst ew
        rw [if_neg (by decide), if_neg (by decide), if_pos (by decide)] at h
        refine ⟨_, rfl, "day", 1, rfl, rfl, rfl, .inl rfl, rfl, nn1, _, rfl, iteG (fun b => ?_) fun b => ?_⟩
        · have hl := hc (m := 0) b
          have hl2 : ws.length = 0 := by omega
          rw [if_pos hl2] at h
          exact ⟨.inl rfl, skipB (by decide) ⟨.inl rfl, skipB (by decide) ⟨.inl rfl, takeB (by decide) ⟨(show 1 ≤ sizeLine by decide), h⟩⟩⟩⟩
        · have hl := hc0 b
          rw [if_neg (fun k => hl (by rw [k]; rfl))] at h
          exact h
      · have ew := (eq_of_beq b2).symm
        subst ew
        rw [if_neg (by decide), if_neg (by decide), if_neg (by decide), if_pos (by decide)] at h
        refine ⟨_, rfl, "round", 2, rfl, rfl, rfl, .inl rfl, rfl, nn1, _, rfl, iteG (fun b => ?_) fun b => ?_⟩
        · have hl := hc (m := 0) b
          have hl2 : ws.length = 1 := by omega
          rw [if_pos hl2] at h
          refine ⟨.inl rfl, skipB (by decide) ⟨.inl rfl, skipB (by decide) ⟨.inl rfl, skipB (by decide) ⟨_, .str (DW.at_ ws 0), rfl, atI_nat (j := 0) (at_get (by omega)), rfl, nn1, DW.at_ ws 0, rfl, wat_len hs (by omega), optG (fun y e1 => ?_) fun e1 => ?_⟩⟩⟩⟩
          · rw [e1] at h
            exact ⟨(show 2 ≤ sizeLine by decide), h⟩
          · rw [e1] at h
            exact h
        · have hl := hc0 b
          rw [if_neg (fun k => hl (by rw [k]; rfl))] at h
          exact h
    · have b2 : (PyData.eqv (.str "member") (.str w) || (PyData.eqv (.str "tick") (.str w) || (PyData.eqv (.str "day") (.str w) || (PyData.eqv (.str "round") (.str w) || false)))) = false := b
      simp only [eqv_str, Bool.or_false, Bool.or_eq_false_iff] at b2
      obtain ⟨c1, c2, c3, c4⟩ := b2
      have sw : ∀ {a : Str}, (a == w) = false → ¬ (w == a) = true := fun {a} c k => by rw [eq_of_beq k, beq_self_eq_true] at c; cases c
      rw [if_neg (sw c1), if_neg (sw c2), if_neg (sw c3), if_neg (sw c4)] at h
      exact ⟨rfl, nn1, _, rfl, h⟩
  | _ => exact h

end
end K87
set_option Elab.async false
set_option linter.all false
set_option maxRecDepth 100000
set_option maxHeartbeats 4000000
namespace K87
open PySem PySem.Spec PyProof.Rows L2 PD
section
variable {P : Program} {w : World} {K : PySem.W.Frag} {mg : Str → Option Value} {base : Heap}
theorem ok__law_take (c : Tx K w mg) : FnOk P w K mg base (L2.CX P w) 1 (He.ga K "_law_take") (fdOf K (He.ga K "_law_take")) ["_law_draw", "_law_size"] (lift K spTake 2) := by
  refine c.fd__law_take.ok sc__law_take (fun vs H Q E h => h.1) (fun cdv A outer s H vs Q E hr h => ⟨_,
    pss_cons (ps_set (i := 2) sc__law_take.nd rfl (.inl rfl) (pe_ix ix_seq (pv 0) pe_int (fun _ _ => rfl)))
    (pss_cons (ps_set (i := 3) sc__law_take.nd rfl (.inl rfl) (pe_op op_mod (pe_ix ix_seq (pv 0) pe_int (fun _ _ => rfl)) (pe_callB call_len (by rfl) c.f_len b_len (pa_cons (pv 2) pa_nil))))
    (pss_cons (ps_set (i := 4) sc__law_take.nd rfl (.inl rfl) (pe_ix ix_seq (pv 2) (pv 3) (fun _ _ => rfl)))
    (pss_cons (ps_if (pt_cmpR op_ge (pv 4) (pe_op op_pow pe_int pe_int) (nomark _)) (pss_cons (ps_asg (pe_op op_fdivW (pv 4) (pv 1)) (pg_sub (pv 2) (pv 3) set_list)) (pss_one (ps_ret (pe_op op_mod (pv 4) (pv 1))))) pss_nil)
    (pss_cons (ps_asg (pe_op op_add (pe_ix ix_seq (pv 0) pe_int (fun _ _ => rfl)) pe_int) (pg_sub (pv 0) pe_int set_list))
    (pss_cons (ps_asg (pe_op op_mod (pe_op op_add (pe_op op_add (pe_op op_mulW (pe_ix ix_seq (pv 0) pe_int (fun _ _ => rfl)) pe_int) (pv 4)) pe_int) pe_int) (pg_sub (pv 0) pe_int set_list))
    (pss_one (ps_ret (pe_op op_mod (pe_op op_fdivW (pe_op op_mod (pe_op op_mulW (pe_ix ix_seq (pv 0) pe_int (fun _ _ => rfl)) (pe_ix ix_seq (pv 0) pe_int (fun _ _ => rfl))) pe_int) pe_int) (pv 1))))))))), ?_⟩)
  obtain ⟨hl, R, I, xs, Qd, Ed, g, ar, hs, k, _⟩ := h
  obtain ⟨a, cc, n, rfl, rfl, n1, n2, hq⟩ := hs
  obtain ⟨cells, t, m, h1, h2, hne, m0, m1⟩ := g.j
  cases ar with
  | cons a1 ar =>
  cases ar with
  | cons a2 ar =>
  cases ar
  have ev : _ = V.ref a := a1
  subst ev
  cases a2
  have hL : 0 < cells.length := List.length_pos_iff.mpr hne
  have hLm : (cells.map V.int).length = cells.length := List.length_map _
  have at0' : 0 ≤ t % (((cells.map V.int).length : Nat) : Int) := Int.emod_nonneg _ (by omega)
  have at1' : t % (((cells.map V.int).length : Nat) : Int) < (((cells.map V.int).length : Nat) : Int) := Int.emod_lt_of_pos _ (by omega)
  refine ⟨_, rfl, .inl ⟨a, _, 0, .ref cc, rfl, rfl, SqL.of h1, rfl, ?_⟩⟩
  refine ⟨_, rfl, .inl ⟨a, _, 1, .int t, rfl, rfl, SqL.of h1, rfl, _, rfl, _, _, rfl, .inl ⟨_, SqL.of h2, rfl⟩, _, _, rfl, rfl, (by omega), ?_⟩⟩
  obtain ⟨j, ej⟩ := Int.eq_ofNat_of_zero_le at0'
  have hj : j < cells.length := by omega
  refine ⟨_, rfl, _, rfl, .inl ⟨cc, _, _, .int cells[j], rfl, rfl, SqL.of h2, ?_, ?_⟩⟩
  · rw [ej]
    exact atI_nat (by rw [List.getElem?_map, List.getElem?_eq_getElem hj]; rfl)
  generalize cells[j] = cell at *
  have hix : ixN (cells.map V.int).length (t % (((cells.map V.int).length : Nat) : Int)) = some j := by
    rw [ej]
    unfold ixN
    rw [if_pos (by omega), if_pos (by omega)]
    simp
  refine ⟨_, rfl, _, _, rfl, rfl, ⟨by decide, by decide, by decide⟩, _, _, rfl, rfl, _, rfl, ?_⟩
  have hac : a ≠ cc := fun e => by
    rw [e, h2] at h1
    cases cells with
    | nil => exact hne rfl
    | cons x xs => cases h1
  have nlog : n.natAbs.log2 < 9000 := by
    have : n.natAbs < 10 ^ 60 := by omega
    have := log2_le this
    omega
  refine iteG' (fun b => ?_) fun b => ?_
  · refine ⟨_, rfl, _, rfl, _, _, rfl, rfl, ⟨by omega, nlog⟩, _, rfl, _, rfl, cc, _, _, j, rfl, rfl, h2, hix, _, rfl, _, rfl, _, _, rfl, rfl, by omega, ?_⟩
    refine k (.d (.int (cell % n))) _ I _ (ext_draw g (fun b hb hc => upd_ne hc) ⟨cells.set j (cell / n), t, m, ?_, ?_, ?_, m0, m1⟩) (.int _) (hq _ (Int.emod_nonneg _ (by omega)) (Int.emod_lt_of_pos _ (by omega)))
    · rw [upd_ne hac]; exact h1
    · rw [upd_same, List.map_set]
    · intro e
      have := congrArg List.length e
      rw [List.length_set] at this
      exact hne (List.length_eq_zero_iff.mp this)
  · refine ⟨_, rfl, .inl ⟨a, _, 1, .int t, rfl, rfl, SqL.of h1, rfl, _, _, rfl, rfl, _, rfl, a, _, 1, 1, rfl, rfl, h1, rfl, ?_⟩⟩
    refine ⟨_, rfl, .inl ⟨a, _, 2, .int m, rfl, rfl, SqL.of upd_same, rfl, _, _, rfl, rfl, ?_, _, rfl, _, _, rfl, rfl, _, _, rfl, rfl, _, _, rfl, rfl, (show (0 : Int) < 2147483647 by decide), _, rfl, a, _, 2, 2, rfl, rfl, upd_same, rfl, ?_⟩⟩
    · show m.natAbs.log2 + (48271 : Int).natAbs.log2 < 1000000
      have : m.natAbs < 10 ^ 60 := by omega
      have := log2_le this
      have e : (48271 : Int).natAbs.log2 = 15 := by decide +kernel
      omega
    have q0 := Int.emod_nonneg (m * 48271 + cell + 12345) (show (2147483647 : Int) ≠ 0 by decide)
    have q1 := Int.emod_lt_of_pos (m * 48271 + cell + 12345) (show (0 : Int) < 2147483647 by decide)
    obtain ⟨r, er⟩ : ∃ r, r = (m * 48271 + cell + 12345) % 2147483647 := ⟨_, rfl⟩
    have es : ∀ l : List V, l.set 2 ((fun i j => V.int (i % j)) (m * 48271 + cell + 12345) 2147483647) = l.set 2 (.int r) := fun l => by rw [er]
    rw [← er] at q0 q1
    rw [es]
    clear es er
    refine ⟨_, rfl, .inl ⟨a, _, 2, .int r, rfl, rfl, SqL.of upd_same, rfl, _, rfl, .inl ⟨a, _, 2, .int r, rfl, rfl, SqL.of upd_same, rfl, _, _, rfl, rfl, ?_, _, _, rfl, rfl, (show (0 : Int) < 2147483629 by decide), _, _, rfl, rfl, ⟨by decide, by decide +kernel⟩, _, rfl, _, _, rfl, rfl, by omega, ?_⟩⟩⟩
    · show r.natAbs.log2 + r.natAbs.log2 < 1000000
      have : r.natAbs < 10 ^ 60 := by omega
      have := log2_le this
      omega
    refine k (.d (.int _)) _ I _ (ext_draw g (fun b hb hc => ?_) ⟨cells, t + 1, r, ?_, ?_, hne, q0, q1⟩) (.int _) (hq _ (Int.emod_nonneg _ (by omega)) (Int.emod_lt_of_pos _ (by omega)))
    · rw [upd_ne hb, upd_ne hb]
    · rw [upd_same]; rfl
    · rw [upd_ne (Ne.symm hac), upd_ne (Ne.symm hac)]; exact h2
end
/-- what may be picked from -/
def pickOf : PyData → Option (List PyData)
  | .list xs => some xs
  | .tuple xs => some xs
  | .str z => some (chars z)
  | _ => none
def spPick : Spd := fun R xs Q _ => ∃ (a c : Addr) (d : PyData) (ds : List PyData), R = drawReg a c ∧ xs = [.v (.ref a), .d d] ∧ pickOf d = some ds ∧ ds ≠ [] ∧ ds.length ≤ sizeLine ∧ ∀ y ∈ ds, Q (.d y)
theorem atI_mem {α : Type} {xs : List α} {i : Int} (h0 : 0 ≤ i) (h1 : i < xs.length) : ∃ y, atI xs i = some y ∧ y ∈ xs := by
  obtain ⟨j, rfl⟩ := Int.eq_ofNat_of_zero_le h0
  have hj : j < xs.length := by omega
  exact ⟨xs[j], atI_nat (List.getElem?_eq_getElem hj), List.getElem_mem hj⟩
theorem nnv {a : Addr} {d : PyData} : ∀ x ∈ [DV.v (.ref a), DV.d d], ∀ ys, x ≠ DV.new ys := by
  intro x hx ys e
  subst e
  simp at hx
theorem nnv1 {a : Addr} : ∀ x ∈ [DV.v (.ref a)], ∀ ys, x ≠ DV.new ys := by
  intro x hx ys e
  subst e
  simp at hx
theorem len_pos {α : Type} {xs : List α} (h : xs ≠ []) : (1 : Int) ≤ xs.length := by have := List.length_pos_iff.mpr h; omega
theorem sz30 {n : Nat} (h : n ≤ sizeLine) : (n : Int) ≤ 10 ^ 30 := by
  have : sizeLine = 16777216 := by decide
  omega
/-- nondeterministic elements -/
theorem lcGo_rel {body : PyData → (Option PyData → Prop) → Prop} {Pr : PyData → Prop} {Q : List PyData → Prop} : ∀ {l : List PyData} {acc : List PyData}, (∀ a ∈ l, ∀ K : Option PyData → Prop, (∀ y, Pr y → K (some y)) → body a K) → (∀ ys, ys.length = l.length → (∀ y ∈ ys, Pr y) → Q (acc ++ ys)) → lcGo body l acc Q
  | [], acc, _, q => by
    show Q acc
    have := q [] rfl (fun y hy => by cases hy)
    rwa [List.append_nil] at this
  | a :: l, acc, h, q => h a List.mem_cons_self _ fun y hy => lcGo_rel (fun b hb => h b (List.mem_cons_of_mem _ hb)) fun ys hl hp => by
    have := q (y :: ys) (by simp [hl]) (fun z hz => by
      rcases List.mem_cons.mp hz with rfl | hz
      · exact hy
      · exact hp z hz)
    show Q ((acc ++ [y]) ++ ys)
    rw [List.append_assoc]
    exact this
theorem forGo_inv {dg : TDG} {tb : TDS} {D : DEnds} {E : EK} (Inv : List PyData → DEnv → Prop) (hstep : ∀ d ds δ, Inv (d :: ds) δ → ∀ N : DEnv → Prop, (∀ δ', Inv ds δ' → N δ') → dg (.d d) δ (fun δ' => tb { D with nx := N, ct := N, bk := D.nx } E δ')) (hend : ∀ δ, Inv [] δ → D.nx δ) : ∀ (ds : List PyData) (δ : DEnv), Inv ds δ → forGo dg tb ds D E δ
  | [], δ, h => hend δ h
  | d :: ds, δ, h => hstep d ds δ h _ fun δ' h' => forGo_inv Inv hstep hend ds δ' h'
theorem range_len {lo : Int} {n : Nat} : (rangeD lo n).length = n := by unfold rangeD; simp

section
variable {P : Program} {w : World} {K : PySem.W.Frag} {mg : Str → Option Value} {base : Heap}
theorem ok__law_pick (c : Tx K w mg) : FnOk P w K mg base (L2.CX P w) 2 (He.ga K "_law_pick") (fdOf K (He.ga K "_law_pick")) ["_law_draw", "_law_some"] (lift K (spPick) 2) := by
  refine fn_ok c.fd__law_pick sc__law_pick rfl fun cdv A outer s I H E R hr => ⟨_, _, (dss_one (ds_ret (de_ix (de_var (pv 1)) (de_fnC (ok__law_take c) (hr.mono (by decide)) (by rfl) c.g__law_take c.fd__law_take.kp (bd__law_take c) (takesC (takes_of rfl rfl rfl rfl)) rfl (da_cons (de_var (pv 0)) (da_cons (de_callB call_len (cd_len rfl) (by rfl) c.f_len b_len (da_cons (de_var (pv 1)) da_nil)) da_nil))) (fun _ _ => rfl) rfl))), fun xs Qd Ed hl h => ?_⟩
  obtain ⟨a, cc, d, ds, rfl, rfl, hp, hne, hl', h⟩ := h
  cases d with
  | list ys =>
    cases hp
    refine ⟨_, rfl, rfl, nnv, a, cc, _, rfl, rfl, len_pos hne, sz30 hl', fun i i0 i1 => ?_⟩
    obtain ⟨y, e1, e2⟩ := atI_mem i0 i1
    exact ⟨_, y, rfl, e1, h y e2⟩
  | tuple ys =>
    cases hp
    refine ⟨rfl, nnv, a, cc, _, rfl, rfl, len_pos hne, sz30 hl', fun i i0 i1 => ?_⟩
    obtain ⟨y, e1, e2⟩ := atI_mem i0 i1
    exact ⟨y, e1, h y e2⟩
  | str z =>
    cases hp
    have e0 : (chars z).length = z.length := by unfold chars; rw [List.length_map, Array.length_toList]; rfl
    rw [e0] at hl'
    have hne' : z.cps.toList ≠ [] := fun e => hne (by unfold chars; rw [e]; rfl)
    have e1 : z.length = z.cps.toList.length := by rw [Array.length_toList]; rfl
    refine ⟨hl', rfl, nnv, a, cc, _, rfl, rfl, by rw [e1]; exact len_pos hne', sz30 hl', fun i i0 i1 => ?_⟩
    obtain ⟨y, e2, e3⟩ := atI_mem (xs := z.cps.toList) i0 (by rw [← e1]; exact i1)
    exact ⟨hl', y, e2, h _ (List.mem_map.mpr ⟨y, e3, rfl⟩)⟩
  | _ => cases hp

end
end K87
set_option Elab.async false
set_option linter.all false
set_option maxRecDepth 100000
set_option maxHeartbeats 4000000
namespace K87
open PySem PySem.Spec PyProof.Rows L2 PD
abbrev ch (c : Nat) : Str := ⟨#[c]⟩
def isCh (y : PyData) : Prop := ∃ c, DW.isLet c = true ∧ y = .str (ch c)
theorem chs_of {ys : List PyData} (h : ∀ y ∈ ys, isCh y) : ∃ cs : List Nat, ys = (cs.map ch).map .str ∧ ∀ c ∈ cs, DW.isLet c = true := by
  induction ys with
  | nil => exact ⟨[], rfl, fun c hc => by cases hc⟩
  | cons y ys ih =>
    obtain ⟨cs, rfl, h2⟩ := ih fun z hz => h z (List.mem_cons_of_mem _ hz)
    obtain ⟨c, hc, rfl⟩ := h y List.mem_cons_self
    refine ⟨c :: cs, rfl, fun x hx => ?_⟩
    rcases List.mem_cons.mp hx with rfl | hx
    · exact hc
    · exact h2 x hx
theorem joinL_nil : ∀ ps : List (List Nat), TL.joinL [] ps = ps.flatten
  | [] => rfl
  | [a] => by show a = _; simp
  | a :: b :: r => by
    show a ++ ([] ++ TL.joinL [] (b :: r)) = _
    rw [joinL_nil (b :: r)]
    simp
theorem join_chs (cs : List Nat) : Txt.join "" (cs.map ch) = ⟨cs.toArray⟩ := by
  refine TL.ext_tl ?_
  rw [TL.join_eq, TL.tl_join]
  have e : TL.tl ("" : Str) = [] := by decide
  rw [e, joinL_nil, List.map_map]
  show _ = (cs.toArray).toList
  rw [show (cs.toArray).toList = cs from rfl]
  induction cs with
  | nil => rfl
  | cons c cs ih =>
    rw [List.map_cons, List.flatten_cons, ih]
    rfl
theorem word_chs {cs : List Nat} {m : Int} (h : ∀ c ∈ cs, DW.isLet c = true) (h0 : 1 ≤ cs.length) (h1 : (cs.length : Int) ≤ m) : DW.wordOk m ⟨cs.toArray⟩ = true := by
  have e : (⟨cs.toArray⟩ : Str).length = cs.length := by show cs.toArray.size = _; simp
  unfold DW.wordOk
  rw [e, Bool.and_eq_true, Bool.and_eq_true]
  exact ⟨decide_eq_true (by omega), decide_eq_true h1, List.all_eq_true.mpr h⟩
theorem ch_sz (cs : List Nat) (h : cs.length ≤ 10000) : ((cs.map ch).map (·.length)).sum + (cs.map ch).length * ("" : Str).length ≤ 16777216 := by
  have e : ("" : Str).length = 0 := by decide
  have h1 := sum_le (n := 1) (l := cs.map ch) fun x hx => by
    obtain ⟨c, _, rfl⟩ := List.mem_map.mp hx
    exact Nat.le_refl 1
  rw [List.length_map] at h1
  rw [e]
  omega
theorem let_pick {y : PyData} (h : y ∈ chars DW.L26) : isCh y := by
  obtain ⟨c, hc, rfl⟩ := List.mem_map.mp h
  exact ⟨c, decide_eq_true hc, rfl⟩
theorem l26_ne : chars DW.L26 ≠ [] := by decide +kernel
theorem l26_len : (chars DW.L26).length ≤ sizeLine := by decide +kernel
def spDraw0 (p : PyData → Prop) : Spd := fun R xs Q _ => ∃ (a c : Addr), R = drawReg a c ∧ xs = [.v (.ref a)] ∧ ∀ y, p y → Q (.d y)
def isWord (m : Int) (y : PyData) : Prop := ∃ z, y = .str z ∧ DW.wordOk m z = true
def isCnt (y : PyData) : Prop := ∃ i : Int, y = .int i ∧ 0 ≤ i ∧ i < 10 ^ 40

section
variable {P : Program} {w : World} {K : PySem.W.Frag} {mg : Str → Option Value} {base : Heap}
theorem ok__law_key (c : Tx K w mg) : FnOk P w K mg base (L2.CX P w) 3 (He.ga K "_law_key") (fdOf K (He.ga K "_law_key")) ["_law_draw"] (lift K (spDraw0 (isWord 20)) 1) := by
  refine fn_ok c.fd__law_key sc__law_key rfl fun cdv A outer s I H E R hr => ⟨_, _, (dss_one (ds_ret (de_meth (md_join rfl) de_str (da_cons (de_lc (own := [("_law_k", 1)]) rfl sc__law_key.nd (di_range1 (by rfl) c.f_range (da_cons (de_op op_cat' (od_add rfl) de_int (de_fnC (ok__law_take c) (hr.mono (by decide)) (by rfl) c.g__law_take c.fd__law_take.kp (bd__law_take c) (takesC (takes_of rfl rfl rfl rfl)) rfl (da_cons (de_var (pv 0)) (da_cons de_int da_nil)))) da_nil)) (blkOk_by (N := ["_law_draw", "_law_k"]) (sc := defScope (top 51)) (by decide +kernel)) (fun _ _ _ _ _ => (dg_name (i := 1) sc__law_key.nd rfl (by first | exact .inl rfl | exact .inr rfl))) (fun _ _ _ _ _ => dts_nil) (fun _ _ _ _ _ => (de_fnC (ok__law_pick c) (hr.mono (by decide)) (by rfl) c.g__law_pick c.fd__law_pick.kp (bd__law_pick c) takesC0 rfl (da_cons (de_var (pv 0)) (da_cons de_str da_nil)))) (tgt_name (by decide)) s) da_nil) rfl (fun q q' => pe_bm PySem.F.plainAttrs_str PySem.F.slot_str_join PySem.F.type_str_join (mt_join) q q')))), fun xs Qd Ed hl h => ?_⟩
  obtain ⟨a, cc, rfl, rfl, h⟩ := h
  refine ⟨rfl, rfl, nnv, a, cc, 20, rfl, rfl, by decide, by decide, fun i i0 i1 => ?_⟩
  refine ⟨Int.le_trans (show 1 + i ≤ 21 by omega) (by decide), by omega, ?_⟩
  refine lcGo_rel (Pr := isCh) (fun x _ K k => ⟨rfl, nnv, a, cc, .str DW.L26, _, rfl, rfl, rfl, l26_ne, l26_len, fun y hy => k y (let_pick hy)⟩) fun ys hl hp => ?_
  rw [List.nil_append]
  obtain ⟨cs, rfl, h2⟩ := chs_of hp
  rw [List.length_map, List.length_map, range_len] at hl
  refine ⟨_, _, rfl, strs_map _, ch_sz cs (by omega), ?_⟩
  rw [join_chs]
  exact h _ ⟨_, rfl, word_chs h2 (by omega) (by omega)⟩

theorem ok__law_count (c : Tx K w mg) : FnOk P w K mg base (L2.CX P w) 2 (He.ga K "_law_count") (fdOf K (He.ga K "_law_count")) ["_law_draw"] (lift K (spDraw0 isCnt) 1) := by
  refine fn_ok c.fd__law_count sc__law_count rfl fun cdv A outer s I H E R hr => ⟨_, _, (dss_cons flat_of (ds_set (i := 1) sc__law_count.nd rfl (by first | exact .inl rfl | exact .inr rfl) (de_fnC (ok__law_take c) (hr.mono (by decide)) (by rfl) c.g__law_take c.fd__law_take.kp (bd__law_take c) (takesC (takes_of rfl rfl rfl rfl)) rfl (da_cons (de_var (pv 0)) (da_cons de_int da_nil))))
      (dss_one (ds_ret (de_ix (de_lst (da_cons de_int (da_cons (de_fnC (ok__law_take c) (hr.mono (by decide)) (by rfl) c.g__law_take c.fd__law_take.kp (bd__law_take c) (takesC (takes_of rfl rfl rfl rfl)) rfl (da_cons (de_var (pv 0)) (da_cons de_int da_nil))) (da_cons (de_fnC (ok__law_take c) (hr.mono (by decide)) (by rfl) c.g__law_take c.fd__law_take.kp (bd__law_take c) (takesC (takes_of rfl rfl rfl rfl)) rfl (da_cons (de_var (pv 0)) (da_cons de_int da_nil))) (da_cons (de_op op_pow od_int de_int de_int) (da_cons (de_op op_mulX' od_mulX (de_fnC (ok__law_take c) (hr.mono (by decide)) (by rfl) c.g__law_take c.fd__law_take.kp (bd__law_take c) (takesC (takes_of rfl rfl rfl rfl)) rfl (da_cons (de_var (pv 0)) (da_cons (de_op op_pow od_int de_int de_int) da_nil))) (de_op op_pow od_int de_int de_int)) da_nil)))))) (de_var (pv 1)) (fun _ _ => rfl) rfl)))), fun xs Qd Ed hl h => ?_⟩
  obtain ⟨a, cc, rfl, rfl, h⟩ := h
  refine ⟨rfl, nnv, a, cc, 5, rfl, rfl, by decide, by decide, fun i i0 i1 => ?_⟩
  refine setG (δ' := [some (.v (.ref a)), some (.d (.int i))]) rfl ?_
  refine ⟨rfl, nnv, a, cc, 10, rfl, rfl, by decide, by decide, fun j j0 j1 => ?_⟩
  refine ⟨rfl, nnv, a, cc, 10000, rfl, rfl, by decide, by decide, fun k k0 k1 => ?_⟩
  refine ⟨⟨by decide, by decide, by decide⟩, ⟨by decide, by decide, by decide⟩, rfl, nnv, a, cc, 10 ^ 20, rfl, rfl, by decide, by decide, fun l l0 l1 => ?_⟩
  refine ⟨⟨by decide, by decide, by decide⟩, ?_, (show 5 ≤ sizeLine by decide), ?_⟩
  · show l.natAbs.log2 + ((10 : Int) ^ 20).natAbs.log2 < 1000000
    have : l.natAbs < 10 ^ 60 := by omega
    have := log2_le this
    have e : ((10 : Int) ^ 20).natAbs.log2 = 66 := by decide +kernel
    omega
  have hi : i = 0 ∨ i = 1 ∨ i = 2 ∨ i = 3 ∨ i = 4 := by omega
  rcases hi with rfl | rfl | rfl | rfl | rfl
  · exact ⟨_, _, rfl, rfl, h _ ⟨_, rfl, by decide, by decide⟩⟩
  · exact ⟨_, _, rfl, rfl, h _ ⟨_, rfl, j0, by omega⟩⟩
  · exact ⟨_, _, rfl, rfl, h _ ⟨_, rfl, k0, by omega⟩⟩
  · exact ⟨_, _, rfl, rfl, h _ ⟨_, rfl, by decide, by decide⟩⟩
  · refine ⟨_, _, rfl, rfl, h _ ⟨_, rfl, ?_, ?_⟩⟩
    · show 0 ≤ l * 10 ^ 20
      omega
    · show l * 10 ^ 20 < 10 ^ 40
      omega

end
end K87
set_option Elab.async false
set_option linter.all false
set_option maxRecDepth 100000
set_option maxHeartbeats 4000000
namespace K87
open PySem PySem.Spec PyProof.Rows L2 PD
def isWords (n : Int) (y : PyData) : Prop := ∃ ws : List Str, y = .list (DW.sd ws) ∧ (ws.length : Int) = n ∧ ∀ w ∈ ws, DW.wordOk 8 w = true
def spNames : Spd := fun R xs Q _ => ∃ (a c : Addr) (n : Int), R = drawReg a c ∧ xs = [.v (.ref a), .d (.int n)] ∧ 0 ≤ n ∧ n ≤ 20 ∧ ∀ y, isWords n y → Q (.d y)
def owns : List Str := ["move", "by", "when", "then", "any", "end", "is", "put", "add", "give", "even", "over", "rule", "most"]
theorem owns_ok : ∀ w ∈ owns, DW.wordOk 8 w = true := by decide +kernel
theorem let_lt {c : Nat} (h : DW.isLet c = true) : c < 0x110000 := by
  have h := of_decide_eq_true h
  have e : ∀ x ∈ DW.L26.cps.toList, x < 0x110000 := by decide +kernel
  exact e c h
theorem word_strOk {m : Int} {z : Str} (h : DW.wordOk m z = true) : PyData.strOk z = true := by
  simp only [DW.wordOk, Bool.and_eq_true] at h
  rw [strOk_iff]
  exact fun c hc => let_lt (List.all_eq_true.mp h.2.2 c hc)
def qz (i : Nat) : Nat := ("qzxj" : Str).cps.toList.getD (i / 13) 0
def am (i : Nat) : Nat := ("abcdefghijklm" : Str).cps.toList.getD (i % 13) 0
def cand (w : Str) (i : Nat) : Str := cutS w none (some 6) ++ ch (qz i) ++ ch (am i)
theorem qz_at {i : Nat} (h : i < 52) : atI ("qzxj" : Str).cps.toList ((0 + (i : Int)) / 13) = some (qz i) := by
  have e : (0 + (i : Int)) / 13 = ((i / 13 : Nat) : Int) := by omega
  rw [e]
  refine atI_nat ?_
  have hl : ("qzxj" : Str).cps.toList.length = 4 := by decide
  have hi : i / 13 < ("qzxj" : Str).cps.toList.length := by rw [hl]; omega
  unfold qz
  rw [List.getD_eq_getElem?_getD, List.getElem?_eq_getElem hi]
  rfl
theorem am_at {i : Nat} (h : i < 52) : atI ("abcdefghijklm" : Str).cps.toList ((0 + (i : Int)) % 13) = some (am i) := by
  have e : (0 + (i : Int)) % 13 = ((i % 13 : Nat) : Int) := by omega
  rw [e]
  refine atI_nat ?_
  have hl : ("abcdefghijklm" : Str).cps.toList.length = 13 := by decide
  have hi : i % 13 < ("abcdefghijklm" : Str).cps.toList.length := by rw [hl]; omega
  unfold am
  rw [List.getD_eq_getElem?_getD, List.getElem?_eq_getElem hi]
  rfl
theorem cand_key : ∀ i < 52, ∀ j < 52, qz i = qz j → am i = am j → i = j := by decide +kernel
theorem cand_let : ∀ i < 52, DW.isLet (qz i) = true ∧ DW.isLet (am i) = true := by decide +kernel
theorem tl_cand (w : Str) (i : Nat) : TL.tl (cand w i) = TL.tl (cutS w none (some 6)) ++ [qz i, am i] := by
  unfold cand
  rw [TL.tl_append, TL.tl_append, List.append_assoc]
  rfl
theorem cand_inj {w : Str} {i j : Nat} (hi : i < 52) (hj : j < 52) (h : cand w i = cand w j) : i = j := by
  have e := congrArg TL.tl h
  rw [tl_cand, tl_cand] at e
  have e := List.append_cancel_left e
  injection e with e1 e2
  injection e2 with e2 _
  exact cand_key i hi j hj e1 e2
theorem cut6 (w : Str) : TL.tl (cutS w none (some 6)) = (TL.tl w).take 6 := by
  have e := cut_to (TL.tl w) 6
  rw [← e]
  unfold PD.cut
  rw [← TL.len_tl w]
  rfl
theorem cand_ok {w : Str} {i : Nat} (hw : DW.wordOk 8 w = true) (hi : i < 52) : DW.wordOk 8 (cand w i) = true := by
  have hl : (cand w i).length = (TL.tl (cand w i)).length := TL.len_tl _
  have h6 : ((TL.tl w).take 6).length ≤ 6 := by rw [List.length_take]; omega
  obtain ⟨c1, c2⟩ := cand_let i hi
  simp only [DW.wordOk, Bool.and_eq_true] at hw ⊢
  rw [hl, tl_cand, cut6]
  refine ⟨decide_eq_true ?_, decide_eq_true ?_, ?_⟩
  · simp only [List.length_append, List.length_cons, List.length_nil]; omega
  · simp only [List.length_append, List.length_cons, List.length_nil]; omega
  · show (TL.tl (cand w i)).all DW.isLet = true
    rw [tl_cand, cut6, List.all_append, Bool.and_eq_true]
    refine ⟨List.all_eq_true.mpr fun x hx => List.all_eq_true.mp hw.2.2 x (List.mem_of_mem_take hx), ?_⟩
    simp only [List.all_cons, List.all_nil, c1, c2, Bool.and_true]
theorem pigeon {α : Type} [DecidableEq α] : ∀ {l m : List α}, l.Nodup → (∀ x ∈ l, x ∈ m) → l.length ≤ m.length
  | [], _, _, _ => Nat.zero_le _
  | x :: l, m, hn, h => by
    rw [List.nodup_cons] at hn
    have hx := h x List.mem_cons_self
    have h2 : l.length ≤ (m.erase x).length := pigeon hn.2 fun y hy => by
      have ne : y ≠ x := fun e => hn.1 (e ▸ hy)
      exact (List.mem_erase_of_ne ne).mpr (h y (List.mem_cons_of_mem _ hy))
    rw [List.length_erase_of_mem hx] at h2
    have : 0 < m.length := List.length_pos_of_mem hx
    rw [List.length_cons]
    omega
theorem cand_nodup (w : Str) : ((List.range 52).map (cand w)).Nodup := by
  unfold List.Nodup
  rw [List.pairwise_map]
  refine List.Pairwise.imp_of_mem (fun {i j} hi hj h e => h (cand_inj (List.mem_range.mp hi) (List.mem_range.mp hj) e)) List.nodup_range
theorem lcGo_filter {body : PyData → (Option PyData → Prop) → Prop} {p : PyData → Bool} {Q : List PyData → Prop} : ∀ {l : List PyData} {acc : List PyData}, (∀ a ∈ l, ∀ K : Option PyData → Prop, (if p a = true then K (some a) else K none) → body a K) → Q (acc ++ l.filter p) → lcGo body l acc Q
  | [], acc, _, q => by
    show Q acc
    have q : Q (acc ++ []) := q
    rwa [List.append_nil] at q
  | a :: l, acc, h, q => by
    refine h a List.mem_cons_self _ ?_
    cases e : p a with
    | true =>
      rw [if_pos rfl]
      refine lcGo_filter (fun b hb => h b (List.mem_cons_of_mem _ hb)) ?_
      rw [List.filter_cons_of_pos e] at q
      simpa using q
    | false =>
      rw [if_neg (by decide)]
      refine lcGo_filter (fun b hb => h b (List.mem_cons_of_mem _ hb)) ?_
      rw [List.filter_cons_of_neg (by rw [e]; decide)] at q
      simpa using q

section
variable {P : Program} {w : World} {K : PySem.W.Frag} {mg : Str → Option Value} {base : Heap}
theorem ok__law_names (c : Tx K w mg) : FnOk P w K mg base (L2.CX P w) 3 (He.ga K "_law_names") (fdOf K (He.ga K "_law_names")) ["_law_draw", "_law_many"] (lift K (spNames) 2) := by
  refine fn_ok c.fd__law_names sc__law_names rfl fun cdv A outer s I H E R hr => ⟨_, _, (dss_cons flat_of (ds_set (i := 2) sc__law_names.nd rfl (by first | exact .inl rfl | exact .inr rfl) (de_lst (da_cons de_str (da_cons de_str (da_cons de_str (da_cons de_str (da_cons de_str (da_cons de_str (da_cons de_str (da_cons de_str (da_cons de_str (da_cons de_str (da_cons de_str (da_cons de_str (da_cons de_str (da_cons de_str da_nil))))))))))))))))
      (dss_cons flat_of (ds_setO (i := 3) sc__law_names.nd rfl (by first | exact .inl rfl | exact .inr rfl) (de_lst da_nil))
      (dss_cons flat_of (ds_for flat_of (passes_of rfl) rfl (di_range1 (by rfl) c.f_range (da_cons (de_var (pv 1)) da_nil)) (dg_name (i := 4) sc__law_names.nd rfl (by first | exact .inl rfl | exact .inr rfl)) (dss_cons flat_of (ds_set (i := 5) sc__law_names.nd rfl (by first | exact .inl rfl | exact .inr rfl) (de_fnC (ok__law_pick c) (hr.mono (by decide)) (by rfl) c.g__law_pick c.fd__law_pick.kp (bd__law_pick c) (takesC (takes_of rfl rfl rfl rfl)) rfl (da_cons (de_var (pv 0)) (da_cons (de_var (pv 2)) da_nil))))
      (dss_cons flat_of (ds_if (dt_cmp op_gt (nomark _) od_intB (de_fnC (ok__law_take c) (hr.mono (by decide)) (by rfl) c.g__law_take c.fd__law_take.kp (bd__law_take c) (takesC (takes_of rfl rfl rfl rfl)) rfl (da_cons (de_var (pv 0)) (da_cons de_int da_nil))) de_int) (dss_one (ds_set (i := 5) sc__law_names.nd rfl (by first | exact .inl rfl | exact .inr rfl) (de_meth (md_join rfl) de_str (da_cons (de_lc (own := [("_law_j", 6)]) rfl sc__law_names.nd (di_range1 (by rfl) c.f_range (da_cons (de_op op_cat' (od_add rfl) de_int (de_fnC (ok__law_take c) (hr.mono (by decide)) (by rfl) c.g__law_take c.fd__law_take.kp (bd__law_take c) (takesC (takes_of rfl rfl rfl rfl)) rfl (da_cons (de_var (pv 0)) (da_cons de_int da_nil)))) da_nil)) (blkOk_by (N := ["_law_draw", "_law_many", "_law_own", "_law_found", "_law_k", "_law_word", "_law_j", "_law_some", "_law_one"]) (sc := defScope (top 50)) (by decide +kernel)) (fun _ _ _ _ _ => (dg_name (i := 6) sc__law_names.nd rfl (by first | exact .inl rfl | exact .inr rfl))) (fun _ _ _ _ _ => dts_nil) (fun _ _ _ _ _ => (de_fnC (ok__law_pick c) (hr.mono (by decide)) (by rfl) c.g__law_pick c.fd__law_pick.kp (bd__law_pick c) takesC0 rfl (da_cons (de_var (pv 0)) (da_cons de_str da_nil)))) (tgt_name (by decide)) s) da_nil) rfl (fun q q' => pe_bm PySem.F.plainAttrs_str PySem.F.slot_str_join PySem.F.type_str_join (mt_join) q q')))) dss_nil)
      (dss_cons flat_of (ds_if (dt_cmp (op_inX (hu65 hr)) rfl (od_in rfl) (de_var (pv 5)) (de_var (pv 3))) (dss_cons flat_of (ds_setLc (i := 7) (own := [("_law_j", 6)]) s rfl sc__law_names.nd rfl rfl (sw_true rfl rfl rfl (by decide +kernel)) (di_range1 (by rfl) c.f_range (da_cons de_int da_nil)) (blkOk_by (N := ["_law_draw", "_law_many", "_law_own", "_law_found", "_law_k", "_law_word", "_law_j", "_law_some", "_law_one"]) (sc := defScope (top 50)) (by decide +kernel)) (fun _ _ _ _ _ => (dg_name (i := 6) sc__law_names.nd rfl (by first | exact .inl rfl | exact .inr rfl))) (fun _ _ _ _ _ => dts_nil) (fun _ _ _ _ _ => (de_op op_cat' (od_add rfl) (de_op op_cat' (od_add rfl) (de_slice (de_var (pv 5)) do_none (do_some de_int) rfl) (de_ix de_str (de_op op_fdivW od_int (de_var (pv 6)) de_int) (fun _ _ => rfl) rfl)) (de_ix de_str (de_op op_mod od_int (de_var (pv 6)) de_int) (fun _ _ => rfl) rfl))) (tgt_name (by decide)))
      (dss_one (ds_set (i := 5) sc__law_names.nd rfl (by first | exact .inl rfl | exact .inr rfl) (de_ix (de_lc (own := [("_law_one", 8)]) rfl sc__law_names.nd (di_any (de_var (pv 7)) rfl) (blkOk_by (N := ["_law_draw", "_law_many", "_law_own", "_law_found", "_law_k", "_law_word", "_law_j", "_law_some", "_law_one"]) (sc := defScope (top 50)) (by decide +kernel)) (fun _ _ _ _ _ => (dg_name (i := 8) sc__law_names.nd rfl (by first | exact .inl rfl | exact .inr rfl))) (fun _ _ _ _ _ => (dts_one (dt_cmp (op_notInX (hu65 hr)) rfl (od_notIn rfl) (de_var (pv 8)) (de_var (pv 3))))) (fun _ _ _ _ _ => (de_var (pv 8))) (tgt_name (by decide)) s) de_int (fun _ _ => rfl) rfl)))) dss_nil)
      (dss_one (ds_app (i := 3) rfl (de_var (pv 5)) (fun q => ps_expr (pe_bm PySem.F.plainAttrs_list PySem.F.slot_list_append PySem.F.type_list_append mt_append (pv 3) (pa_cons q pa_nil)))))))))
      (dss_one (ds_ret (de_var (pv 3))))))), fun xs Qd Ed hl h => ?_⟩
  obtain ⟨a, cc, n, rfl, rfl, n0, n1, h⟩ := h
  refine ⟨(show 14 ≤ sizeLine by decide), ?_⟩
  refine setG (δ' := [some (.v (.ref a)), some (.d (.int n)), some (.d (.list (DW.sd owns))), none, none, none, none, none, none]) rfl ?_
  refine ⟨Nat.zero_le _, ?_⟩
  dsimp only
  refine ⟨Int.le_trans n1 (by decide), by omega, ?_⟩
  refine forGo_inv (fun ds δ => ∃ (ws : List Str) (x4 x5 x6 x7 x8 : Option DV), δ = [some (.v (.ref a)), some (.d (.int n)), some (.d (.list (DW.sd owns))), some (.own (DW.sd ws)), x4, x5, x6, x7, x8] ∧ ((ws.length + ds.length : Nat) : Int) = n ∧ ∀ w ∈ ws, DW.wordOk 8 w = true) ?_ ?_ _ _ ⟨[], none, none, none, none, none, rfl, ?_, fun w hw => by cases hw⟩
  · rintro d ds δ ⟨ws, x4, x5, x6, x7, x8, rfl, hl2, hws⟩ N hN
    have fin : ∀ f : Str, DW.sd ws ++ [PyData.str f] = DW.sd (ws ++ [f]) := fun f => by unfold DW.sd; rw [List.map_append]; rfl
    refine setG (δ' := [some (.v (.ref a)), some (.d (.int n)), some (.d (.list (DW.sd owns))), some (.own (DW.sd ws)), some (.d d), x5, x6, x7, x8]) rfl ?_
    refine ⟨rfl, nnv, a, cc, .list (DW.sd owns), _, rfl, rfl, rfl, by decide +kernel, by decide +kernel, fun y hy => ?_⟩
    obtain ⟨w, hw0, rfl⟩ := List.mem_map.mp hy
    have hw := owns_ok w hw0
    refine setG (δ' := [some (.v (.ref a)), some (.d (.int n)), some (.d (.list (DW.sd owns))), some (.own (DW.sd ws)), some (.d d), some (.d (.str w)), x6, x7, x8]) rfl ?_
    refine ⟨rfl, nnv, a, cc, 3, rfl, rfl, by decide, by decide, fun i i0 i1 => iteG (fun _ => ?_) fun _ => ?_⟩
    · refine ⟨rfl, rfl, nnv, a, cc, 8, rfl, rfl, by decide, by decide, fun j j0 j1 => ?_⟩
      refine ⟨Int.le_trans (show 1 + j ≤ 21 by omega) (by decide), by omega, ?_⟩
      refine lcGo_rel (Pr := isCh) (fun x _ KK kk => ⟨rfl, nnv, a, cc, .str DW.L26, _, rfl, rfl, rfl, l26_ne, l26_len, fun y hy => kk y (let_pick hy)⟩) fun ys hly hp => ?_
      rw [List.nil_append]
      obtain ⟨cs, rfl, h2⟩ := chs_of hp
      rw [List.length_map, List.length_map, range_len] at hly
      refine ⟨_, _, rfl, strs_map _, ch_sz cs (by omega), ?_⟩
      rw [join_chs]
      have hv : DW.wordOk 8 ⟨cs.toArray⟩ = true := word_chs h2 (by omega) (by omega)
      generalize (⟨cs.toArray⟩ : Str) = v at *
      refine setG (δ' := [some (.v (.ref a)), some (.d (.int n)), some (.d (.list (DW.sd owns))), some (.own (DW.sd ws)), some (.d d), some (.d (.str v)), x6, x7, x8]) rfl ?_
      refine ⟨.str v, DW.sd ws, rfl, rfl, shaped_str (word_strOk hv), shaped_sd (fun x hx => word_strOk (hws x hx)), iteG (fun _ => ?_) fun _ => ?_⟩
      · refine ⟨(by decide), (by decide), ?_⟩
        show lcGo _ ((List.range 52).map fun (i : Nat) => PyData.int (0 + (i : Int))) [] _
        have wl : v.length ≤ 8 := by have := wordOk_len hv; omega
        refine lcGo_map (g := fun (i : Nat) => PyData.int (0 + (i : Int))) (f := fun i => .str (cand v i)) (fun i hi KK kk => ?_) ?_
        · have hi := List.mem_range.mp hi
          have l6 := cutS_length v none (some 6)
          refine ⟨Nat.le_trans wl (by decide), ⟨by decide, by decide +kernel⟩, (by decide), qz i, qz_at hi, sz (show (cutS v none (some 6)).length + 1 ≤ 10000 by omega), (show (0 : Int) < 13 by decide), (by decide), am i, am_at hi, sz ?_, kk⟩
          have e := TL.len_tl (cutS v none (some 6) ++ ch (qz i))
          rw [TL.tl_append, List.length_append, ← TL.len_tl] at e
          have e2 : (cutS v none (some 6) ++ ch (qz i)).length = (cutS v none (some 6)).length + 1 := e
          show (cutS v none (some 6) ++ ch (qz i)).length + 1 ≤ 10000
          rw [e2]
          omega
        rw [List.nil_append]
        have ec : ((List.range 52).map fun i => PyData.str (cand v i)) = DW.sd ((List.range 52).map (cand v)) := by unfold DW.sd; rw [List.map_map]; rfl
        rw [ec]
        refine setG (δ' := [some (.v (.ref a)), some (.d (.int n)), some (.d (.list (DW.sd owns))), some (.own (DW.sd ws)), some (.d d), some (.d (.str v)), x6, some (.d (.list (DW.sd ((List.range 52).map (cand v))))), x8]) rfl ?_
        have hcok : ∀ x ∈ (List.range 52).map (cand v), DW.wordOk 8 x = true := fun x hx => by
          obtain ⟨i, hi, rfl⟩ := List.mem_map.mp hx
          exact cand_ok hv (List.mem_range.mp hi)
        refine ⟨trivial, lcGo_filter (p := fun x => !((DW.sd ws).any fun z => PyData.eqv z x)) (fun x hx KK kk => ?_) ?_⟩
        · obtain ⟨y, hy, rfl⟩ := List.mem_map.mp hx
          exact ⟨.str y, DW.sd ws, rfl, rfl, shaped_str (word_strOk (hcok y hy)), shaped_sd (fun x hx => word_strOk (hws x hx)), kk⟩
        rw [List.nil_append]
        obtain ⟨z, hz1, hz2⟩ : ∃ z, z ∈ (List.range 52).map (cand v) ∧ z ∉ ws := by
          refine Classical.byContradiction fun hno => ?_
          have := pigeon (cand_nodup v) fun x hx => Classical.byContradiction fun hx2 => hno ⟨x, hx, hx2⟩
          rw [List.length_map, List.length_range] at this
          simp only [List.length_cons] at hl2
          omega
        have hzf : PyData.str z ∈ (DW.sd ((List.range 52).map (cand v))).filter fun x => !((DW.sd ws).any fun z => PyData.eqv z x) := by
          rw [List.mem_filter]
          refine ⟨List.mem_map.mpr ⟨z, hz1, rfl⟩, ?_⟩
          rw [any_sd]
          cases ei : DW.idx z ws with
          | none => rfl
          | some k => exact absurd (List.mem_of_getElem? (idx_spec ei).1) hz2
        cases ef : (DW.sd ((List.range 52).map (cand v))).filter fun x => !((DW.sd ws).any fun z => PyData.eqv z x) with
        | nil => rw [ef] at hzf; cases hzf
        | cons f0 fr =>
          have hf0 : f0 ∈ (DW.sd ((List.range 52).map (cand v))).filter fun x => !((DW.sd ws).any fun z => PyData.eqv z x) := by rw [ef]; exact List.mem_cons_self
          obtain ⟨hf1, _⟩ := List.mem_filter.mp hf0
          obtain ⟨f, hf2, rfl⟩ := List.mem_map.mp hf1
          refine ⟨_, _, rfl, at0, ?_⟩
          refine setG (δ' := [some (.v (.ref a)), some (.d (.int n)), some (.d (.list (DW.sd owns))), some (.own (DW.sd ws)), some (.d d), some (.d (.str f)), x6, some (.d (.list (DW.sd ((List.range 52).map (cand v))))), x8]) rfl ?_
          refine ⟨by rw [len_sd]; exact sz (by simp only [List.length_cons] at hl2; omega), hN _ ⟨ws ++ [f], _, _, _, _, _, (by rw [fin f]; rfl), by rw [List.length_append]; simp only [List.length_cons, List.length_nil] at hl2 ⊢; omega, fun x hx => ?_⟩⟩
          rcases List.mem_append.mp hx with hx | hx
          · exact hws x hx
          · rw [List.mem_singleton.mp hx]; exact hcok f hf2
      · refine ⟨by rw [len_sd]; exact sz (by simp only [List.length_cons] at hl2; omega), hN _ ⟨ws ++ [v], _, _, _, _, _, (by rw [fin v]; rfl), by rw [List.length_append]; simp only [List.length_cons, List.length_nil] at hl2 ⊢; omega, fun x hx => ?_⟩⟩
        rcases List.mem_append.mp hx with hx | hx
        · exact hws x hx
        · rw [List.mem_singleton.mp hx]; exact hv
    · dsimp only
      refine ⟨.str w, DW.sd ws, rfl, rfl, shaped_str (word_strOk hw), shaped_sd (fun x hx => word_strOk (hws x hx)), iteG (fun _ => ?_) fun _ => ?_⟩
      · refine ⟨(by decide), (by decide), ?_⟩
        show lcGo _ ((List.range 52).map fun (i : Nat) => PyData.int (0 + (i : Int))) [] _
        have wl : w.length ≤ 8 := by have := wordOk_len hw; omega
        refine lcGo_map (g := fun (i : Nat) => PyData.int (0 + (i : Int))) (f := fun i => .str (cand w i)) (fun i hi KK kk => ?_) ?_
        · have hi := List.mem_range.mp hi
          have l6 := cutS_length w none (some 6)
          refine ⟨Nat.le_trans wl (by decide), ⟨by decide, by decide +kernel⟩, (by decide), qz i, qz_at hi, sz (show (cutS w none (some 6)).length + 1 ≤ 10000 by omega), (show (0 : Int) < 13 by decide), (by decide), am i, am_at hi, sz ?_, kk⟩
          have e := TL.len_tl (cutS w none (some 6) ++ ch (qz i))
          rw [TL.tl_append, List.length_append, ← TL.len_tl] at e
          have e2 : (cutS w none (some 6) ++ ch (qz i)).length = (cutS w none (some 6)).length + 1 := e
          show (cutS w none (some 6) ++ ch (qz i)).length + 1 ≤ 10000
          rw [e2]
          omega
        rw [List.nil_append]
        have ec : ((List.range 52).map fun i => PyData.str (cand w i)) = DW.sd ((List.range 52).map (cand w)) := by unfold DW.sd; rw [List.map_map]; rfl
        rw [ec]
        refine setG (δ' := [some (.v (.ref a)), some (.d (.int n)), some (.d (.list (DW.sd owns))), some (.own (DW.sd ws)), some (.d d), some (.d (.str w)), x6, some (.d (.list (DW.sd ((List.range 52).map (cand w))))), x8]) rfl ?_
        have hcok : ∀ x ∈ (List.range 52).map (cand w), DW.wordOk 8 x = true := fun x hx => by
          obtain ⟨i, hi, rfl⟩ := List.mem_map.mp hx
          exact cand_ok hw (List.mem_range.mp hi)
        refine ⟨trivial, lcGo_filter (p := fun x => !((DW.sd ws).any fun z => PyData.eqv z x)) (fun x hx KK kk => ?_) ?_⟩
        · obtain ⟨y, hy, rfl⟩ := List.mem_map.mp hx
          exact ⟨.str y, DW.sd ws, rfl, rfl, shaped_str (word_strOk (hcok y hy)), shaped_sd (fun x hx => word_strOk (hws x hx)), kk⟩
        rw [List.nil_append]
        obtain ⟨z, hz1, hz2⟩ : ∃ z, z ∈ (List.range 52).map (cand w) ∧ z ∉ ws := by
          refine Classical.byContradiction fun hno => ?_
          have := pigeon (cand_nodup w) fun x hx => Classical.byContradiction fun hx2 => hno ⟨x, hx, hx2⟩
          rw [List.length_map, List.length_range] at this
          simp only [List.length_cons] at hl2
          omega
        have hzf : PyData.str z ∈ (DW.sd ((List.range 52).map (cand w))).filter fun x => !((DW.sd ws).any fun z => PyData.eqv z x) := by
          rw [List.mem_filter]
          refine ⟨List.mem_map.mpr ⟨z, hz1, rfl⟩, ?_⟩
          rw [any_sd]
          cases ei : DW.idx z ws with
          | none => rfl
          | some k => exact absurd (List.mem_of_getElem? (idx_spec ei).1) hz2
        cases ef : (DW.sd ((List.range 52).map (cand w))).filter fun x => !((DW.sd ws).any fun z => PyData.eqv z x) with
        | nil => rw [ef] at hzf; cases hzf
        | cons f0 fr =>
          have hf0 : f0 ∈ (DW.sd ((List.range 52).map (cand w))).filter fun x => !((DW.sd ws).any fun z => PyData.eqv z x) := by rw [ef]; exact List.mem_cons_self
          obtain ⟨hf1, _⟩ := List.mem_filter.mp hf0
          obtain ⟨f, hf2, rfl⟩ := List.mem_map.mp hf1
          refine ⟨_, _, rfl, at0, ?_⟩
          refine setG (δ' := [some (.v (.ref a)), some (.d (.int n)), some (.d (.list (DW.sd owns))), some (.own (DW.sd ws)), some (.d d), some (.d (.str f)), x6, some (.d (.list (DW.sd ((List.range 52).map (cand w))))), x8]) rfl ?_
          refine ⟨by rw [len_sd]; exact sz (by simp only [List.length_cons] at hl2; omega), hN _ ⟨ws ++ [f], _, _, _, _, _, (by rw [fin f]; rfl), by rw [List.length_append]; simp only [List.length_cons, List.length_nil] at hl2 ⊢; omega, fun x hx => ?_⟩⟩
          rcases List.mem_append.mp hx with hx | hx
          · exact hws x hx
          · rw [List.mem_singleton.mp hx]; exact hcok f hf2
      · refine ⟨by rw [len_sd]; exact sz (by simp only [List.length_cons] at hl2; omega), hN _ ⟨ws ++ [w], _, _, _, _, _, (by rw [fin w]; rfl), by rw [List.length_append]; simp only [List.length_cons, List.length_nil] at hl2 ⊢; omega, fun x hx => ?_⟩⟩
        rcases List.mem_append.mp hx with hx | hx
        · exact hws x hx
        · rw [List.mem_singleton.mp hx]; exact hw
  · rintro δ ⟨ws, x4, x5, x6, x7, x8, rfl, hl2, hws⟩
    exact h _ ⟨ws, rfl, by simpa using hl2, hws⟩
  · rw [range_len]
    simp only [List.length_nil]
    omega

end
end K87
set_option Elab.async false
set_option linter.all false
set_option maxRecDepth 100000
set_option maxHeartbeats 4000000
namespace K87
open PySem PySem.Spec PyProof.Rows L2 PD
/-- a letter of the law's own: its free numbers have at most forty figures -/
structure LtC (l : DW.Lt) : Prop where
  fit : LtFit l
  s : l.s < 10 ^ 40
  st : l.st < 10 ^ 40
def isLt (y : PyData) : Prop := ∃ l : DW.Lt, y = l.data ∧ l.ok ∧ LtC l
def isM30 (y : PyData) : Prop := ∃ i : Int, y = .int i ∧ 0 ≤ i ∧ i ≤ DW.M30
theorem words1 {y : PyData} (h : isWords 1 y) : ∃ w, y = .list [.str w] ∧ DW.wordOk 8 w = true := by
  obtain ⟨ws, rfl, hl, hw⟩ := h
  match ws, (show ws.length = 1 by omega) with
  | [w], _ => exact ⟨w, rfl, hw w List.mem_cons_self⟩
theorem m30_eq : DW.M30 = 10 ^ 30 := by decide
theorem abs60 {i : Int} (h0 : 0 ≤ i) (h1 : i < 10 ^ 40) : i.natAbs < 10 ^ 60 := by omega
theorem lt_text (l : DW.Lt) : Txt.join " " (l.ws ++ [DW.strI l.se]) = l.text := by
  unfold DW.Lt.text DW.Lt.plain
  obtain ⟨g, p, pl, a, s, m, d, st, se⟩ := l
  refine TL.ext_tl ?_
  cases d with
  | move n =>
    rw [TL.tl_append, TL.tl_append, TL.join_eq, TL.join_eq, TL.tl_join, TL.tl_join]
    simp only [DW.Lt.ws, DW.Dd.words, List.cons_append, List.nil_append, List.map_cons, List.map_nil, TL.joinL, List.append_assoc]
  | give =>
    rw [TL.tl_append, TL.tl_append, TL.join_eq, TL.join_eq, TL.tl_join, TL.tl_join]
    simp only [DW.Lt.ws, DW.Dd.words, List.cons_append, List.nil_append, List.map_cons, List.map_nil, TL.joinL, List.append_assoc]
  | even =>
    rw [TL.tl_append, TL.tl_append, TL.join_eq, TL.join_eq, TL.tl_join, TL.tl_join]
    simp only [DW.Lt.ws, DW.Dd.words, List.cons_append, List.nil_append, List.map_cons, List.map_nil, TL.joinL, List.append_assoc]

section
variable {P : Program} {w : World} {K : PySem.W.Frag} {mg : Str → Option Value} {base : Heap}
theorem ok__law_letter (c : Tx K w mg) : FnOk P w K mg base (L2.CX P w) 4 (He.ga K "_law_letter") (fdOf K (He.ga K "_law_letter")) ["_law_draw"] (lift K (spDraw0 isLt) 1) := by
  refine fn_ok c.fd__law_letter sc__law_letter rfl fun cdv A outer s I H E R hr => ⟨_, _, (dss_cons flat_of (ds_set (i := 1) sc__law_letter.nd rfl (by first | exact .inl rfl | exact .inr rfl) (de_fnC (ok__law_pick c) (hr.mono (by decide)) (by rfl) c.g__law_pick c.fd__law_pick.kp (bd__law_pick c) (takesC (takes_of rfl rfl rfl rfl)) rfl (da_cons (de_var (pv 0)) (da_cons (de_lst (da_cons (de_tup (da_cons de_str (da_cons (de_ix (de_fnC (ok__law_names c) (hr.mono (by decide)) (by rfl) c.g__law_names c.fd__law_names.kp (bd__law_names c) (takesC (takes_of rfl rfl rfl rfl)) rfl (da_cons (de_var (pv 0)) (da_cons de_int da_nil))) de_int (fun _ _ => rfl) rfl) da_nil))) (da_cons (de_tup (da_cons de_str da_nil)) (da_cons (de_tup (da_cons de_str da_nil)) da_nil)))) da_nil))))
      (dss_cons flat_of (ds_setLc (i := 2) (own := [("_law_k", 3)]) s rfl sc__law_letter.nd rfl rfl (sw_true rfl rfl rfl (by decide +kernel)) (di_range1 (by rfl) c.f_range (da_cons de_int da_nil)) (blkOk_by (N := ["_law_draw", "_law_deed", "_law_some", "_law_k", "_law_head"]) (sc := defScope (top 53)) (by decide +kernel)) (fun _ _ _ _ _ => (dg_name (i := 3) sc__law_letter.nd rfl (by first | exact .inl rfl | exact .inr rfl))) (fun _ _ _ _ _ => dts_nil) (fun _ _ _ _ _ => (de_callB (call_min2 rfl) cd_int2 (by rfl) c.f_min b_min (da_cons (de_fnC (ok__law_count c) (hr.mono (by decide)) (by rfl) c.g__law_count c.fd__law_count.kp (bd__law_count c) takesC0 rfl (da_cons (de_var (pv 0)) da_nil)) (da_cons (de_op op_pow od_int de_int de_int) da_nil)))) (tgt_name (by decide)))
      (dss_cons flat_of (ds_set (i := 4) sc__law_letter.nd rfl (by first | exact .inl rfl | exact .inr rfl) (de_tup (da_cons de_str (da_cons (de_ix (de_fnC (ok__law_names c) (hr.mono (by decide)) (by rfl) c.g__law_names c.fd__law_names.kp (bd__law_names c) (takesC (takes_of rfl rfl rfl rfl)) rfl (da_cons (de_var (pv 0)) (da_cons de_int da_nil))) de_int (fun _ _ => rfl) rfl) (da_cons (de_fnC (ok__law_take c) (hr.mono (by decide)) (by rfl) c.g__law_take c.fd__law_take.kp (bd__law_take c) (takesC (takes_of rfl rfl rfl rfl)) rfl (da_cons (de_var (pv 0)) (da_cons de_int da_nil))) (da_cons (de_op op_cat' (od_add rfl) de_int (de_fnC (ok__law_take c) (hr.mono (by decide)) (by rfl) c.g__law_take c.fd__law_take.kp (bd__law_take c) (takesC (takes_of rfl rfl rfl rfl)) rfl (da_cons (de_var (pv 0)) (da_cons de_int da_nil)))) (da_cons (de_ix (de_var (pv 2)) de_int (fun _ _ => rfl) rfl) da_nil)))))))
      (dss_one (ds_ret (de_op op_cat' (od_add rfl) (de_var (pv 4)) (de_tup (da_cons (de_fnC (ok__law_count c) (hr.mono (by decide)) (by rfl) c.g__law_count c.fd__law_count.kp (bd__law_count c) (takesC (takes_of rfl rfl rfl rfl)) rfl (da_cons (de_var (pv 0)) da_nil)) (da_cons (de_ix (de_var (pv 2)) de_int (fun _ _ => rfl) rfl) (da_cons (de_var (pv 1)) (da_cons (de_fnC (ok__law_count c) (hr.mono (by decide)) (by rfl) c.g__law_count c.fd__law_count.kp (bd__law_count c) (takesC (takes_of rfl rfl rfl rfl)) rfl (da_cons (de_var (pv 0)) da_nil)) (da_cons (de_ix (de_var (pv 2)) de_int (fun _ _ => rfl) rfl) da_nil)))))))))))), fun xs Qd Ed hl h => ?_⟩
  obtain ⟨a, cc, rfl, rfl, h⟩ := h
  refine ⟨rfl, nnv, a, cc, 1, rfl, rfl, by decide, by decide, fun y hy => ?_⟩
  obtain ⟨w, rfl, hw⟩ := words1 hy
  refine ⟨_, .str w, rfl, at0, (show 2 ≤ sizeLine by decide), (show 1 ≤ sizeLine by decide), (show 1 ≤ sizeLine by decide), (show 3 ≤ sizeLine by decide), rfl, nnv, a, cc, .list [(DW.Dd.move w).data, DW.Dd.give.data, DW.Dd.even.data], _, rfl, rfl, rfl, by simp, (show 3 ≤ sizeLine by decide), fun y hy => ?_⟩
  obtain ⟨x, rfl, hx⟩ : ∃ x : DW.Dd, y = x.data ∧ x.ok := by
    simp only [List.mem_cons, List.not_mem_nil, or_false] at hy
    rcases hy with rfl | rfl | rfl
    · exact ⟨.move w, rfl, hw⟩
    · exact ⟨.give, rfl, trivial⟩
    · exact ⟨.even, rfl, trivial⟩
  refine setG (δ' := [some (.v (.ref a)), some (.d x.data), none, none, none]) rfl ?_
  refine ⟨by decide, by decide, ?_⟩
  refine lcGo_rel (Pr := isM30) (fun z _ KK kk => ⟨rfl, nnv1, a, cc, rfl, rfl, fun y hy => ?_⟩) fun ys hl2 hp => ?_
  · obtain ⟨i, rfl, i0, i1⟩ := hy
    refine ⟨⟨by decide, by decide, by decide⟩, ?_⟩
    refine kk (.int (if (10 : Int) ^ 30 < i then 10 ^ 30 else i)) ⟨_, rfl, ?_, ?_⟩
    · split <;> omega
    · rw [m30_eq]; split <;> omega
  rw [range_len] at hl2
  rw [List.nil_append]
  match ys, hl2 with
  | [y1, y2, y3], _ =>
  obtain ⟨b1, rfl, b10, b11⟩ := hp y1 (by simp)
  obtain ⟨b2, rfl, b20, b21⟩ := hp y2 (by simp)
  obtain ⟨b3, rfl, b30, b31⟩ := hp y3 (by simp)
  refine setG (δ' := [some (.v (.ref a)), some (.d x.data), some (.d (.list [.int b1, .int b2, .int b3])), none, none]) rfl ?_
  refine ⟨rfl, nnv, a, cc, 1, rfl, rfl, by decide, by decide, fun y hy => ?_⟩
  obtain ⟨g, rfl, hg⟩ := words1 hy
  refine ⟨_, .str g, rfl, at0, rfl, nnv, a, cc, 4, rfl, rfl, by decide, by decide, fun p p0 p1 => ?_⟩
  refine ⟨rfl, nnv, a, cc, 99, rfl, rfl, by decide, by decide, fun q q0 q1 => ?_⟩
  refine ⟨_, .int b1, rfl, at0, (show 5 ≤ sizeLine by decide), ?_⟩
  refine setG (δ' := [some (.v (.ref a)), some (.d x.data), some (.d (.list [.int b1, .int b2, .int b3])), none, some (.d (.tuple [.str "letter", .str g, .int p, .int (1 + q), .int b1]))]) rfl ?_
  refine ⟨rfl, nnv1, a, cc, rfl, rfl, fun y hy => ?_⟩
  obtain ⟨s1, rfl, s10, s11⟩ := hy
  refine ⟨_, .int b2, rfl, at1', rfl, nnv1, a, cc, rfl, rfl, fun y hy => ?_⟩
  obtain ⟨t1, rfl, t10, t11⟩ := hy
  refine ⟨_, .int b3, rfl, atI_nat (j := 2) rfl, (show 5 ≤ sizeLine by decide), (show 10 ≤ sizeLine by decide), ?_⟩
  rw [m30_eq] at b11 b21 b31
  exact h _ ⟨⟨g, p, 1 + q, b1, s1, b2, x, t1, b3⟩, rfl, ⟨hg, p0, (by show p ≤ 3; omega), (by show 1 ≤ 1 + q; omega), (by show 1 + q ≤ 99; omega), b10, (by rw [m30_eq]; exact b11), s10, b20, (by rw [m30_eq]; exact b21), hx, t10, b30, (by rw [m30_eq]; exact b31)⟩, ⟨⟨(by show p.natAbs < _; omega), (by show (1 + q).natAbs < _; omega), (by show b1.natAbs < _; omega), (by show s1.natAbs < _; omega), (by show b2.natAbs < _; omega), (by show t1.natAbs < _; omega), (by show b3.natAbs < _; omega)⟩, s11, t11⟩⟩

theorem ok__law_letter_words (c : Tx K w mg) : FnOk P w K mg base (L2.CX P w) 1 (He.ga K "_law_letter_words") (fdOf K (He.ga K "_law_letter_words")) ["_law_letter_here"] (lift K (fun _ xs Q _ => ∃ l : DW.Lt, xs = [.d l.data] ∧ l.ok ∧ LtFit l ∧ Q (.d (.str l.text))) 1) := by
  refine fn_ok c.fd__law_letter_words sc__law_letter_words rfl fun cdv A outer s I H E R hr => ⟨_, _, (dss_one (ds_ret (de_meth (md_join rfl) de_str (da_cons (de_op op_cat' (od_add rfl) (de_op op_cat' (od_add rfl) (de_lc (own := [("_law_part", 1)]) rfl sc__law_letter_words.nd (di_any (de_slice (de_var (pv 0)) (do_some de_int) (do_some de_int) rfl) rfl) (blkOk_by (N := ["_law_letter_here", "_law_part"]) (sc := defScope (top 54)) (by decide +kernel)) (fun _ _ _ _ _ => (dg_name (i := 1) sc__law_letter_words.nd rfl (by first | exact .inl rfl | exact .inr rfl))) (fun _ _ _ _ _ => dts_nil) (fun _ _ _ _ _ => (de_callTy call_strX cd_str (by rfl) c.f_str b_str (da_cons (de_var (pv 1)) da_nil))) (tgt_name (by decide)) s) (de_callTy call_list_of (cd_list rfl) (by rfl) c.f_list b_list (da_cons (de_ix (de_var (pv 0)) de_int (fun _ _ => rfl) rfl) da_nil))) (de_lc (own := [("_law_part", 1)]) rfl sc__law_letter_words.nd (di_any (de_slice (de_var (pv 0)) (do_some de_int) do_none rfl) rfl) (blkOk_by (N := ["_law_letter_here", "_law_part"]) (sc := defScope (top 54)) (by decide +kernel)) (fun _ _ _ _ _ => (dg_name (i := 1) sc__law_letter_words.nd rfl (by first | exact .inl rfl | exact .inr rfl))) (fun _ _ _ _ _ => dts_nil) (fun _ _ _ _ _ => (de_callTy call_strX cd_str (by rfl) c.f_str b_str (da_cons (de_var (pv 1)) da_nil))) (tgt_name (by decide)) s)) da_nil) rfl (fun q q' => pe_bm PySem.F.plainAttrs_str PySem.F.slot_str_join PySem.F.type_str_join (mt_join) q q')))), fun xs Qd Ed hl h => ?_⟩
  obtain ⟨l, rfl, ok, ft, h⟩ := h
  have hw : ∀ x ∈ l.ws ++ [DW.strI l.se], x.length ≤ 10000 := fun x hx => by
    rcases List.mem_append.mp hx with hx | hx
    · exact Nat.le_trans (ws_len ok ft x hx) (by decide)
    · rw [List.mem_singleton.mp hx]; exact Nat.le_trans (DW.strI_len ok.e0 ft.se) (by decide)
  have hj := join_fits hw (by rw [List.length_append]; exact Nat.le_trans (Nat.add_le_add_right (ws_count l) 1) (by decide))
  rw [← lt_text] at h
  obtain ⟨g, p, pl, a, s, m, d, st, se⟩ := l
  have lg : ∀ {i : Int}, i.natAbs < 10 ^ 60 → i.natAbs.log2 < 1920 := fun h => DW.log2_lt h
  cases d with
  | move n =>
    refine ⟨rfl, trivial, ⟨lg ft.p, lg ft.pl, lg ft.a, lg ft.s, lg ft.m, ?_⟩⟩
    refine ⟨_, atI_nat (j := 7) rfl, _, rfl, (show 8 ≤ sizeLine by decide), trivial, ⟨lg ft.st, lg ft.se, ?_⟩⟩
    exact ⟨(show 10 ≤ sizeLine by decide), _, _, rfl, rfl, hj, h⟩
  | give =>
    refine ⟨rfl, trivial, ⟨lg ft.p, lg ft.pl, lg ft.a, lg ft.s, lg ft.m, ?_⟩⟩
    refine ⟨_, atI_nat (j := 7) rfl, _, rfl, (show 7 ≤ sizeLine by decide), trivial, ⟨lg ft.st, lg ft.se, ?_⟩⟩
    exact ⟨(show 9 ≤ sizeLine by decide), _, _, rfl, rfl, hj, h⟩
  | even =>
    refine ⟨rfl, trivial, ⟨lg ft.p, lg ft.pl, lg ft.a, lg ft.s, lg ft.m, ?_⟩⟩
    refine ⟨_, atI_nat (j := 7) rfl, _, rfl, (show 7 ≤ sizeLine by decide), trivial, ⟨lg ft.st, lg ft.se, ?_⟩⟩
    exact ⟨(show 9 ≤ sizeLine by decide), _, _, rfl, rfl, hj, h⟩

end
end K87
set_option Elab.async false
set_option linter.all false
set_option maxRecDepth 100000
set_option maxHeartbeats 4000000
namespace K87
open PySem PySem.Spec PyProof.Rows L2 PD
def cntOk (i : Int) : Prop := 0 ≤ i ∧ i < 10 ^ 40
structure Ck where
  a : Int
  b : Int
  k : Str
  d : Int
  e : Int
  f : Int
def Ck.data (c : Ck) : PyData := .tuple [.int c.a, .int c.b, .str c.k, .int c.d, .int c.e, .int c.f]
structure Ck.ok (c : Ck) : Prop where
  a : cntOk c.a
  b : cntOk c.b
  k : DW.wordOk 8 c.k = true
  d : cntOk c.d
  e : cntOk c.e
  f : cntOk c.f
inductive Told where
  | member (a k : Str)
  | opn (a b : Str) (ns : List Str) (c : Ck)
  | hear (l : DW.Lt)
  | tick (n : Int)
  | claim (l m : DW.Lt)
  | cup (a : Str) (ns : List Str) (n : Int) (b : Str) (c : Ck)
  | day
  | round (a : Str)
def Told.data : Told → PyData
  | .member a k => .tuple [.str "member", .str a, .str k]
  | .opn a b ns c => .tuple [.str "open", .str a, .str b, .tuple (DW.sd ns), c.data]
  | .hear l => .tuple [.str "hear", l.data]
  | .tick n => .tuple [.str "tick", .int n]
  | .claim l m => .tuple [.str "claim", l.data, m.data]
  | .cup a ns n b c => .tuple [.str "cup", .str a, .tuple (DW.sd ns), .int n, .str b, c.data]
  | .day => .tuple [.str "day"]
  | .round a => .tuple [.str "round", .str a]
def nsOk (ns : List Str) : Prop := ns.length ∈ [0, 1, 2, 3, 4, 9, 10] ∧ ∀ w ∈ ns, DW.wordOk 8 w = true
def Told.ok : Told → Prop
  | .member a k => DW.wordOk 8 a = true ∧ DW.wordOk 20 k = true
  | .opn a b ns c => DW.wordOk 8 a = true ∧ DW.wordOk 8 b = true ∧ nsOk ns ∧ c.ok
  | .hear l => l.ok ∧ LtC l
  | .tick n => 1 ≤ n ∧ n ≤ 10000
  | .claim l m => (l.ok ∧ LtC l) ∧ m.ok ∧ LtC m
  | .cup a ns n b c => DW.wordOk 8 a = true ∧ nsOk ns ∧ cntOk n ∧ DW.wordOk 8 b = true ∧ c.ok
  | .day => True
  | .round a => DW.wordOk 8 a = true
def isCk (y : PyData) : Prop := ∃ c : Ck, y = c.data ∧ c.ok
def isTold (y : PyData) : Prop := ∃ t : Told, y = t.data ∧ t.ok
theorem small_cnt {i n : Int} (h0 : 0 ≤ i) (h1 : i < n) (h : n ≤ 10000) : cntOk i := ⟨h0, by omega⟩
theorem words4 {y : PyData} (h : isWords 4 y) : ∃ w1 w2 w3 w4, y = .list [.str w1, .str w2, .str w3, .str w4] ∧ DW.wordOk 8 w1 = true ∧ DW.wordOk 8 w2 = true ∧ DW.wordOk 8 w3 = true := by
  obtain ⟨ws, rfl, hl, hw⟩ := h
  match ws, (show ws.length = 4 by omega) with
  | [w1, w2, w3, w4], _ => exact ⟨w1, w2, w3, w4, rfl, hw w1 (by simp), hw w2 (by simp), hw w3 (by simp)⟩

section
variable {P : Program} {w : World} {K : PySem.W.Frag} {mg : Str → Option Value} {base : Heap}
theorem ok__law_clock (c : Tx K w mg) : FnOk P w K mg base (L2.CX P w) 4 (He.ga K "_law_clock") (fdOf K (He.ga K "_law_clock")) ["_law_draw"] (lift K (spDraw0 isCk) 1) := by
  refine fn_ok c.fd__law_clock sc__law_clock rfl fun cdv A outer s I H E R hr => ⟨_, _, (dss_cons flat_of (ds_set (i := 1) sc__law_clock.nd rfl (by first | exact .inl rfl | exact .inr rfl) (de_fnC (ok__law_pick c) (hr.mono (by decide)) (by rfl) c.g__law_pick c.fd__law_pick.kp (bd__law_pick c) (takesC (takes_of rfl rfl rfl rfl)) rfl (da_cons (de_var (pv 0)) (da_cons (de_lst (da_cons de_str (da_cons de_str (da_cons de_str (da_cons de_str (da_cons (de_ix (de_fnC (ok__law_names c) (hr.mono (by decide)) (by rfl) c.g__law_names c.fd__law_names.kp (bd__law_names c) (takesC (takes_of rfl rfl rfl rfl)) rfl (da_cons (de_var (pv 0)) (da_cons de_int da_nil))) de_int (fun _ _ => rfl) rfl) da_nil)))))) da_nil))))
      (dss_one (ds_ret (de_tup (da_cons (de_fnC (ok__law_take c) (hr.mono (by decide)) (by rfl) c.g__law_take c.fd__law_take.kp (bd__law_take c) (takesC (takes_of rfl rfl rfl rfl)) rfl (da_cons (de_var (pv 0)) (da_cons de_int da_nil))) (da_cons (de_fnC (ok__law_count c) (hr.mono (by decide)) (by rfl) c.g__law_count c.fd__law_count.kp (bd__law_count c) (takesC (takes_of rfl rfl rfl rfl)) rfl (da_cons (de_var (pv 0)) da_nil)) (da_cons (de_var (pv 1)) (da_cons (de_fnC (ok__law_count c) (hr.mono (by decide)) (by rfl) c.g__law_count c.fd__law_count.kp (bd__law_count c) (takesC (takes_of rfl rfl rfl rfl)) rfl (da_cons (de_var (pv 0)) da_nil)) (da_cons (de_fnC (ok__law_take c) (hr.mono (by decide)) (by rfl) c.g__law_take c.fd__law_take.kp (bd__law_take c) (takesC (takes_of rfl rfl rfl rfl)) rfl (da_cons (de_var (pv 0)) (da_cons de_int da_nil))) (da_cons (de_fnC (ok__law_count c) (hr.mono (by decide)) (by rfl) c.g__law_count c.fd__law_count.kp (bd__law_count c) (takesC (takes_of rfl rfl rfl rfl)) rfl (da_cons (de_var (pv 0)) da_nil)) da_nil)))))))))), fun xs Qd Ed hl h => ?_⟩
  obtain ⟨a, cc, rfl, rfl, h⟩ := h
  refine ⟨rfl, nnv, a, cc, 1, rfl, rfl, by decide, by decide, fun y hy => ?_⟩
  obtain ⟨w, rfl, hw⟩ := words1 hy
  refine ⟨_, .str w, rfl, at0, (show 5 ≤ sizeLine by decide), rfl, nnv, a, cc, .list [.str "flat", .str "plus", .str "grace", .str "parts", .str w], _, rfl, rfl, rfl, by simp, (show 5 ≤ sizeLine by decide), fun y hy => ?_⟩
  obtain ⟨k, rfl, hk⟩ : ∃ k, y = .str k ∧ DW.wordOk 8 k = true := by
    simp only [List.mem_cons, List.not_mem_nil, or_false] at hy
    rcases hy with rfl | rfl | rfl | rfl | rfl
    · exact ⟨_, rfl, by decide +kernel⟩
    · exact ⟨_, rfl, by decide +kernel⟩
    · exact ⟨_, rfl, by decide +kernel⟩
    · exact ⟨_, rfl, by decide +kernel⟩
    · exact ⟨_, rfl, hw⟩
  refine setG (δ' := [some (.v (.ref a)), some (.d (.str k))]) rfl ?_
  refine ⟨rfl, nnv, a, cc, 6, rfl, rfl, by decide, by decide, fun p p0 p1 => ?_⟩
  refine ⟨rfl, nnv1, a, cc, rfl, rfl, fun y hy => ?_⟩
  obtain ⟨q, rfl, q0, q1⟩ := hy
  refine ⟨rfl, nnv1, a, cc, rfl, rfl, fun y hy => ?_⟩
  obtain ⟨r, rfl, r0, r1⟩ := hy
  refine ⟨rfl, nnv, a, cc, 6, rfl, rfl, by decide, by decide, fun s s0 s1 => ?_⟩
  refine ⟨rfl, nnv1, a, cc, rfl, rfl, fun y hy => ?_⟩
  obtain ⟨t, rfl, t0, t1⟩ := hy
  exact ⟨(show 6 ≤ sizeLine by decide), h _ ⟨⟨p, q, k, r, s, t⟩, rfl, small_cnt p0 p1 (by decide), ⟨q0, q1⟩, hk, ⟨r0, r1⟩, small_cnt s0 s1 (by decide), ⟨t0, t1⟩⟩⟩

theorem ok__law_house_deed (c : Tx K w mg) : FnOk P w K mg base (L2.CX P w) 5 (He.ga K "_law_house_deed") (fdOf K (He.ga K "_law_house_deed")) ["_law_draw"] (lift K (spDraw0 isTold) 1) := by
  refine fn_ok c.fd__law_house_deed sc__law_house_deed rfl fun cdv A outer s I H E R hr => ⟨_, _, (dss_cons flat_of (ds_par (i := 1) (j := 2) rfl sc__law_house_deed.nd rfl rfl (by decide) rfl rfl (da_cons (de_fnC (ok__law_names c) (hr.mono (by decide)) (by rfl) c.g__law_names c.fd__law_names.kp (bd__law_names c) (takesC (takes_of rfl rfl rfl rfl)) rfl (da_cons (de_var (pv 0)) (da_cons de_int da_nil))) (da_cons (de_fnC (ok__law_take c) (hr.mono (by decide)) (by rfl) c.g__law_take c.fd__law_take.kp (bd__law_take c) (takesC (takes_of rfl rfl rfl rfl)) rfl (da_cons (de_var (pv 0)) (da_cons de_int da_nil))) da_nil)) rfl)
      (dss_cons flat_of (ds_set (i := 3) sc__law_house_deed.nd rfl (by first | exact .inl rfl | exact .inr rfl) (de_callTy call_tuple_of (cd_tuple rfl) (by rfl) c.f_tuple b_tuple (da_cons (de_fnC (ok__law_names c) (hr.mono (by decide)) (by rfl) c.g__law_names c.fd__law_names.kp (bd__law_names c) (takesC (takes_of rfl rfl rfl rfl)) rfl (da_cons (de_var (pv 0)) (da_cons (de_fnC (ok__law_pick c) (hr.mono (by decide)) (by rfl) c.g__law_pick c.fd__law_pick.kp (bd__law_pick c) (takesC (takes_of rfl rfl rfl rfl)) rfl (da_cons (de_var (pv 0)) (da_cons (de_lst (da_cons de_int (da_cons de_int (da_cons de_int (da_cons de_int (da_cons de_int (da_cons de_int (da_cons de_int da_nil)))))))) da_nil))) da_nil))) da_nil)))
      (dss_cons flat_of (ds_if (dt_cmp (op_eqX (hu64 hr)) (nomark _) (od_eq rfl) (de_var (pv 2)) de_int) (dss_one (ds_ret (de_tup (da_cons de_str (da_cons (de_ix (de_var (pv 1)) de_int (fun _ _ => rfl) rfl) (da_cons (de_fnC (ok__law_key c) (hr.mono (by decide)) (by rfl) c.g__law_key c.fd__law_key.kp (bd__law_key c) (takesC (takes_of rfl rfl rfl rfl)) rfl (da_cons (de_var (pv 0)) da_nil)) da_nil)))))) dss_nil)
      (dss_cons flat_of (ds_if (dt_cmp (op_eqX (hu64 hr)) (nomark _) (od_eq rfl) (de_var (pv 2)) de_int) (dss_one (ds_ret (de_tup (da_cons de_str (da_cons (de_ix (de_var (pv 1)) de_int (fun _ _ => rfl) rfl) (da_cons (de_ix (de_var (pv 1)) de_int (fun _ _ => rfl) rfl) (da_cons (de_var (pv 3)) (da_cons (de_fnC (ok__law_clock c) (hr.mono (by decide)) (by rfl) c.g__law_clock c.fd__law_clock.kp (bd__law_clock c) (takesC (takes_of rfl rfl rfl rfl)) rfl (da_cons (de_var (pv 0)) da_nil)) da_nil)))))))) dss_nil)
      (dss_cons flat_of (ds_if (dt_cmp (op_eqX (hu64 hr)) (nomark _) (od_eq rfl) (de_var (pv 2)) de_int) (dss_one (ds_ret (de_tup (da_cons de_str (da_cons (de_fnC (ok__law_letter c) (hr.mono (by decide)) (by rfl) c.g__law_letter c.fd__law_letter.kp (bd__law_letter c) (takesC (takes_of rfl rfl rfl rfl)) rfl (da_cons (de_var (pv 0)) da_nil)) da_nil))))) dss_nil)
      (dss_cons flat_of (ds_if (dt_cmp (op_eqX (hu64 hr)) (nomark _) (od_eq rfl) (de_var (pv 2)) de_int) (dss_one (ds_ret (de_tup (da_cons de_str (da_cons (de_fnC (ok__law_pick c) (hr.mono (by decide)) (by rfl) c.g__law_pick c.fd__law_pick.kp (bd__law_pick c) (takesC (takes_of rfl rfl rfl rfl)) rfl (da_cons (de_var (pv 0)) (da_cons (de_lst (da_cons de_int (da_cons de_int (da_cons (de_op op_cat' (od_add rfl) de_int (de_fnC (ok__law_take c) (hr.mono (by decide)) (by rfl) c.g__law_take c.fd__law_take.kp (bd__law_take c) (takesC (takes_of rfl rfl rfl rfl)) rfl (da_cons (de_var (pv 0)) (da_cons de_int da_nil)))) da_nil)))) da_nil))) da_nil))))) dss_nil)
      (dss_cons flat_of (ds_if (dt_cmp (op_eqX (hu64 hr)) (nomark _) (od_eq rfl) (de_var (pv 2)) de_int) (dss_one (ds_ret (de_tup (da_cons de_str (da_cons (de_fnC (ok__law_letter c) (hr.mono (by decide)) (by rfl) c.g__law_letter c.fd__law_letter.kp (bd__law_letter c) (takesC (takes_of rfl rfl rfl rfl)) rfl (da_cons (de_var (pv 0)) da_nil)) (da_cons (de_fnC (ok__law_letter c) (hr.mono (by decide)) (by rfl) c.g__law_letter c.fd__law_letter.kp (bd__law_letter c) (takesC (takes_of rfl rfl rfl rfl)) rfl (da_cons (de_var (pv 0)) da_nil)) da_nil)))))) dss_nil)
      (dss_cons flat_of (ds_if (dt_cmp (op_eqX (hu64 hr)) (nomark _) (od_eq rfl) (de_var (pv 2)) de_int) (dss_one (ds_ret (de_tup (da_cons de_str (da_cons (de_ix (de_var (pv 1)) de_int (fun _ _ => rfl) rfl) (da_cons (de_var (pv 3)) (da_cons (de_fnC (ok__law_count c) (hr.mono (by decide)) (by rfl) c.g__law_count c.fd__law_count.kp (bd__law_count c) (takesC (takes_of rfl rfl rfl rfl)) rfl (da_cons (de_var (pv 0)) da_nil)) (da_cons (de_ix (de_var (pv 1)) de_int (fun _ _ => rfl) rfl) (da_cons (de_fnC (ok__law_clock c) (hr.mono (by decide)) (by rfl) c.g__law_clock c.fd__law_clock.kp (bd__law_clock c) (takesC (takes_of rfl rfl rfl rfl)) rfl (da_cons (de_var (pv 0)) da_nil)) da_nil))))))))) dss_nil)
      (dss_one (ds_ret (de_ix (de_lst (da_cons (de_tup (da_cons de_str da_nil)) (da_cons (de_tup (da_cons de_str (da_cons (de_ix (de_var (pv 1)) de_int (fun _ _ => rfl) rfl) da_nil))) da_nil))) (de_op op_subX od_sub (de_var (pv 2)) de_int) (fun _ _ => rfl) rfl))))))))))), fun xs Qd Ed hl h => ?_⟩
  obtain ⟨a, cc, rfl, rfl, h⟩ := h
  refine ⟨rfl, nnv, a, cc, 4, rfl, rfl, by decide, by decide, fun y hy => ?_⟩
  obtain ⟨w1, w2, w3, w4, rfl, o1, o2, o3⟩ := words4 hy
  refine ⟨rfl, nnv, a, cc, 8, rfl, rfl, by decide, by decide, fun i i0 i1 => ?_⟩
  refine ⟨(show 7 ≤ sizeLine by decide), rfl, nnv, a, cc, .list [.int 0, .int 1, .int 2, .int 3, .int 4, .int 9, .int 10], _, rfl, rfl, rfl, by simp, (show 7 ≤ sizeLine by decide), fun y hy => ?_⟩
  obtain ⟨n, rfl, n0, n1, hn⟩ : ∃ n : Int, y = .int n ∧ 0 ≤ n ∧ n ≤ 20 ∧ n.toNat ∈ [0, 1, 2, 3, 4, 9, 10] := by
    simp only [List.mem_cons, List.not_mem_nil, or_false] at hy
    rcases hy with rfl | rfl | rfl | rfl | rfl | rfl | rfl <;> exact ⟨_, rfl, by decide, by decide, by decide⟩
  clear hy
  refine ⟨rfl, nnv, a, cc, n, rfl, rfl, n0, n1, fun y hy => ?_⟩
  obtain ⟨ns, rfl, hnl, hns⟩ := hy
  have hno : nsOk ns := ⟨by rw [show ns.length = n.toNat by omega]; exact hn, hns⟩
  refine ⟨_, rfl, ?_⟩
  refine setG (δ' := [some (.v (.ref a)), some (.d (.list [.str w1, .str w2, .str w3, .str w4])), some (.d (.int i)), some (.d (.tuple (DW.sd ns)))]) rfl ?_
  have hi : i = 0 ∨ i = 1 ∨ i = 2 ∨ i = 3 ∨ i = 4 ∨ i = 5 ∨ i = 6 ∨ i = 7 := by omega
  rcases hi with rfl | rfl | rfl | rfl | rfl | rfl | rfl | rfl
  · refine ⟨.inl rfl, _, .str w1, rfl, at0, rfl, nnv1, a, cc, rfl, rfl, fun y hy => ?_⟩
    obtain ⟨k, rfl, hk⟩ := hy
    exact ⟨(show 3 ≤ sizeLine by decide), h _ ⟨.member w1 k, rfl, o1, hk⟩⟩
  · refine ⟨.inl rfl, .inl rfl, _, .str w1, rfl, at0, _, .str w2, rfl, at1', rfl, nnv1, a, cc, rfl, rfl, fun y hy => ?_⟩
    obtain ⟨k, rfl, hk⟩ := hy
    exact ⟨(show 5 ≤ sizeLine by decide), h _ ⟨.opn w1 w2 ns k, rfl, o1, o2, hno, hk⟩⟩
  · refine ⟨.inl rfl, .inl rfl, .inl rfl, rfl, nnv1, a, cc, rfl, rfl, fun y hy => ?_⟩
    obtain ⟨k, rfl, hk⟩ := hy
    exact ⟨(show 2 ≤ sizeLine by decide), h _ ⟨.hear k, rfl, hk⟩⟩
  · refine ⟨.inl rfl, .inl rfl, .inl rfl, .inl rfl, rfl, nnv, a, cc, 10000, rfl, rfl, by decide, by decide, fun j j0 j1 => ?_⟩
    refine ⟨(show 3 ≤ sizeLine by decide), rfl, nnv, a, cc, .list [.int 1, .int 10000, .int (1 + j)], _, rfl, rfl, rfl, by simp, (show 3 ≤ sizeLine by decide), fun y hy => ?_⟩
    obtain ⟨m, rfl, m0, m1⟩ : ∃ m : Int, y = .int m ∧ 1 ≤ m ∧ m ≤ 10000 := by
      simp only [List.mem_cons, List.not_mem_nil, or_false] at hy
      rcases hy with rfl | rfl | rfl
      · exact ⟨_, rfl, by decide, by decide⟩
      · exact ⟨_, rfl, by decide, by decide⟩
      · exact ⟨_, rfl, by omega, by omega⟩
    exact ⟨(show 2 ≤ sizeLine by decide), h _ ⟨.tick m, rfl, m0, m1⟩⟩
  · refine ⟨.inl rfl, .inl rfl, .inl rfl, .inl rfl, .inl rfl, rfl, nnv1, a, cc, rfl, rfl, fun y hy => ?_⟩
    obtain ⟨k, rfl, hk⟩ := hy
    refine ⟨rfl, nnv1, a, cc, rfl, rfl, fun y hy => ?_⟩
    obtain ⟨m, rfl, hm⟩ := hy
    exact ⟨(show 3 ≤ sizeLine by decide), h _ ⟨.claim k m, rfl, hk, hm⟩⟩
  · refine ⟨.inl rfl, .inl rfl, .inl rfl, .inl rfl, .inl rfl, .inl rfl, _, .str w1, rfl, at0, rfl, nnv1, a, cc, rfl, rfl, fun y hy => ?_⟩
    obtain ⟨m, rfl, hm⟩ := hy
    refine ⟨_, .str w2, rfl, at1', rfl, nnv1, a, cc, rfl, rfl, fun y hy => ?_⟩
    obtain ⟨k, rfl, hk⟩ := hy
    exact ⟨(show 6 ≤ sizeLine by decide), h _ ⟨.cup w1 ns m w2 k, rfl, o1, hno, hm, o2, hk⟩⟩
  · refine ⟨.inl rfl, .inl rfl, .inl rfl, .inl rfl, .inl rfl, .inl rfl, (show 1 ≤ sizeLine by decide), _, .str w3, rfl, atI_nat (j := 2) rfl, (show 2 ≤ sizeLine by decide), (show 2 ≤ sizeLine by decide), trivial, _, _, rfl, rfl, h _ ⟨.day, rfl, trivial⟩⟩
  · refine ⟨.inl rfl, .inl rfl, .inl rfl, .inl rfl, .inl rfl, .inl rfl, (show 1 ≤ sizeLine by decide), _, .str w3, rfl, atI_nat (j := 2) rfl, (show 2 ≤ sizeLine by decide), (show 2 ≤ sizeLine by decide), trivial, _, _, rfl, rfl, h _ ⟨.round w3, rfl, o3⟩⟩

end
end K87
set_option Elab.async false
set_option linter.all false
set_option maxRecDepth 100000
set_option maxHeartbeats 4000000
namespace K87
open PySem PySem.Spec PyProof.Rows L2 PD
def Ck.ws (c : Ck) : List Str := [DW.strI c.a, DW.strI c.b, c.k, DW.strI c.d, DW.strI c.e, DW.strI c.f]
def ltWs (l : DW.Lt) : List Str := l.ws ++ [DW.strI l.se]
def Told.words : Told → List Str
  | .member a k => ["member", a, k]
  | .opn a b ns c => (["open", a, b] : List Str) ++ ns ++ c.ws
  | .hear l => "hear" :: ltWs l
  | .tick n => ["tick", DW.strI n]
  | .claim l m => "claim" :: (ltWs l ++ ("/" : Str) :: ltWs m)
  | .cup a ns n b c => (["cup", a, DW.strI n, b] : List Str) ++ c.ws ++ ns
  | .day => ["day"]
  | .round a => ["round", a]
def Told.text (t : Told) : Str := Txt.join " " t.words
theorem joinL_in (S : List Nat) : ∀ (a : List (List Nat)) {b : List (List Nat)} (c : List (List Nat)), b ≠ [] → TL.joinL S (a ++ TL.joinL S b :: c) = TL.joinL S (a ++ (b ++ c))
  | [], [], _, h => absurd rfl h
  | [], [x], c, _ => rfl
  | [], x :: y :: r, c, _ => by
    have ih := joinL_in S [] (b := y :: r) c (by simp)
    cases c with
    | nil => simp [TL.joinL]
    | cons z c =>
      show (x ++ (S ++ TL.joinL S (y :: r))) ++ (S ++ TL.joinL S (z :: c)) = x ++ (S ++ TL.joinL S ((y :: r) ++ (z :: c)))
      have ih : TL.joinL S (y :: r) ++ (S ++ TL.joinL S (z :: c)) = TL.joinL S ((y :: r) ++ (z :: c)) := ih
      rw [← ih]
      simp only [List.append_assoc]
  | [u], b, c, h => by
    have ih := joinL_in S [] (b := b) c h
    have hb : ∃ p q, b ++ c = p :: q := by cases b with
      | nil => exact absurd rfl h
      | cons p q => exact ⟨p, q ++ c, rfl⟩
    obtain ⟨p, q, e⟩ := hb
    show u ++ (S ++ TL.joinL S (TL.joinL S b :: c)) = TL.joinL S (u :: (b ++ c))
    rw [e]
    show _ = u ++ (S ++ TL.joinL S (p :: q))
    rw [← e]
    have ih : TL.joinL S (TL.joinL S b :: c) = TL.joinL S (b ++ c) := ih
    rw [ih]
  | u :: v :: a, b, c, h => by
    have ih := joinL_in S (v :: a) (b := b) c h
    show u ++ (S ++ TL.joinL S ((v :: a) ++ TL.joinL S b :: c)) = u ++ (S ++ TL.joinL S ((v :: a) ++ (b ++ c)))
    rw [ih]
theorem join_in (a : List Str) {b : List Str} (c : List Str) (h : b ≠ []) : Txt.join " " (a ++ Txt.join " " b :: c) = Txt.join " " (a ++ (b ++ c)) := by
  refine TL.ext_tl ?_
  simp only [TL.join_eq]
  rw [TL.tl_join, TL.tl_join, List.map_append, List.map_cons, TL.tl_join]
  rw [joinL_in _ _ _ (by simpa using h)]
  simp only [List.map_append]
theorem ltWs_ne (l : DW.Lt) : ltWs l ≠ [] := by unfold ltWs; simp
theorem hear_text (l : DW.Lt) : Txt.join " " ["hear", l.text] = (Told.hear l).text := by
  rw [← lt_text l]
  have := join_in ["hear"] (b := ltWs l) [] (ltWs_ne l)
  rw [List.append_nil] at this
  exact this
theorem claim_text (l m : DW.Lt) : Txt.join " " ["claim", l.text, "/", m.text] = (Told.claim l m).text := by
  rw [← lt_text l, ← lt_text m]
  have e1 := join_in ["claim"] (b := ltWs l) (["/", Txt.join " " (ltWs m)] : List Str) (ltWs_ne l)
  have e2 := join_in ((["claim"] : List Str) ++ (ltWs l ++ (["/"] : List Str))) (b := ltWs m) [] (ltWs_ne m)
  have e1 : Txt.join " " ["claim", Txt.join " " (ltWs l), "/", Txt.join " " (ltWs m)] = Txt.join " " ((["claim"] : List Str) ++ (ltWs l ++ (["/", Txt.join " " (ltWs m)] : List Str))) := e1
  show Txt.join " " ["claim", Txt.join " " (ltWs l), "/", Txt.join " " (ltWs m)] = Txt.join " " (Told.claim l m).words
  rw [e1]
  simp only [List.append_nil, List.append_assoc, List.cons_append, List.nil_append] at e2 ⊢
  exact e2
theorem cnt_len {i : Int} (h : cntOk i) : (DW.strI i).length ≤ 700 := Nat.le_trans (DW.strI_len h.1 (abs60 h.1 h.2)) (by decide)
theorem cnt_log {i : Int} (h : cntOk i) : i.natAbs.log2 < 1920 := DW.log2_lt (abs60 h.1 h.2)
theorem name_len {z : Str} (h : DW.wordOk 8 z = true) : z.length ≤ 700 := by have := wordOk_len h; omega
theorem ck_wl {c : Ck} (h : c.ok) : WL 6 c.ws := ⟨Nat.le_refl _, fun x hx => by
  simp only [Ck.ws, List.mem_cons, List.not_mem_nil, or_false] at hx
  rcases hx with rfl | rfl | rfl | rfl | rfl | rfl
  · exact cnt_len h.a
  · exact cnt_len h.b
  · exact name_len h.k
  · exact cnt_len h.d
  · exact cnt_len h.e
  · exact cnt_len h.f⟩
theorem ns_wl {ns : List Str} (h : nsOk ns) : WL 10 ns := ⟨by have := h.1; simp only [List.mem_cons, List.not_mem_nil, or_false] at this; omega, fun x hx => name_len (h.2 x hx)⟩

section
variable {P : Program} {w : World} {K : PySem.W.Frag} {mg : Str → Option Value} {base : Heap}
theorem ok__law_words (c : Tx K w mg) : FnOk P w K mg base (L2.CX P w) 2 (He.ga K "_law_words") (fdOf K (He.ga K "_law_words")) ["_law_deed"] (lift K (fun _ xs Q _ => ∃ t : Told, xs = [.d t.data] ∧ t.ok ∧ Q (.d (.str t.text))) 1) := by
  refine fn_ok c.fd__law_words sc__law_words rfl fun cdv A outer s I H E R hr => ⟨_, _, (dss_cons flat_of (ds_asg (de_tup (da_cons (de_ix (de_var (pv 0)) de_int (fun _ _ => rfl) rfl) (da_cons (de_slice (de_var (pv 0)) (do_some de_int) do_none rfl) da_nil))) (dg_tup (n := 2) rfl (dgs_cons (dg_name (i := 1) sc__law_words.nd rfl (by first | exact .inl rfl | exact .inr rfl)) (dgs_cons (dg_name (i := 2) sc__law_words.nd rfl (by first | exact .inl rfl | exact .inr rfl)) dgs_nil)) rfl))
      (dss_cons flat_of (ds_if (dt_cmp (op_eqX (hu64 hr)) (nomark _) (od_eq rfl) (de_var (pv 1)) de_str) (dss_one (ds_set (i := 3) sc__law_words.nd rfl (by first | exact .inl rfl | exact .inr rfl) (de_op op_cat' (od_add rfl) (de_op op_cat' (od_add rfl) (de_lst (da_cons (de_ix (de_var (pv 2)) de_int (fun _ _ => rfl) rfl) (da_cons (de_ix (de_var (pv 2)) de_int (fun _ _ => rfl) rfl) da_nil))) (de_callTy call_list_of (cd_list rfl) (by rfl) c.f_list b_list (da_cons (de_ix (de_var (pv 2)) de_int (fun _ _ => rfl) rfl) da_nil))) (de_lc (own := [("_law_part", 4)]) rfl sc__law_words.nd (di_any (de_ix (de_var (pv 2)) de_int (fun _ _ => rfl) rfl) rfl) (blkOk_by (N := ["_law_deed", "_law_word", "_law_parts", "_law_some", "_law_part"]) (sc := defScope (top 57)) (by decide +kernel)) (fun _ _ _ _ _ => (dg_name (i := 4) sc__law_words.nd rfl (by first | exact .inl rfl | exact .inr rfl))) (fun _ _ _ _ _ => dts_nil) (fun _ _ _ _ _ => (de_callTy call_strX cd_str (by rfl) c.f_str b_str (da_cons (de_var (pv 4)) da_nil))) (tgt_name (by decide)) s)))) (dss_one (ds_if (dt_cmp (op_eqX (hu64 hr)) (nomark _) (od_eq rfl) (de_var (pv 1)) de_str) (dss_one (ds_set (i := 3) sc__law_words.nd rfl (by first | exact .inl rfl | exact .inr rfl) (de_op op_cat' (od_add rfl) (de_op op_cat' (od_add rfl) (de_lst (da_cons (de_ix (de_var (pv 2)) de_int (fun _ _ => rfl) rfl) (da_cons (de_callTy call_strX cd_str (by rfl) c.f_str b_str (da_cons (de_ix (de_var (pv 2)) de_int (fun _ _ => rfl) rfl) da_nil)) (da_cons (de_ix (de_var (pv 2)) de_int (fun _ _ => rfl) rfl) da_nil)))) (de_lc (own := [("_law_part", 4)]) rfl sc__law_words.nd (di_any (de_ix (de_var (pv 2)) de_int (fun _ _ => rfl) rfl) rfl) (blkOk_by (N := ["_law_deed", "_law_word", "_law_parts", "_law_some", "_law_part"]) (sc := defScope (top 57)) (by decide +kernel)) (fun _ _ _ _ _ => (dg_name (i := 4) sc__law_words.nd rfl (by first | exact .inl rfl | exact .inr rfl))) (fun _ _ _ _ _ => dts_nil) (fun _ _ _ _ _ => (de_callTy call_strX cd_str (by rfl) c.f_str b_str (da_cons (de_var (pv 4)) da_nil))) (tgt_name (by decide)) s)) (de_callTy call_list_of (cd_list rfl) (by rfl) c.f_list b_list (da_cons (de_ix (de_var (pv 2)) de_int (fun _ _ => rfl) rfl) da_nil))))) (dss_one (ds_if (dt_cmp (op_eqX (hu64 hr)) (nomark _) (od_eq rfl) (de_var (pv 1)) de_str) (dss_one (ds_set (i := 3) sc__law_words.nd rfl (by first | exact .inl rfl | exact .inr rfl) (de_lst (da_cons (de_fnC (ok__law_letter_words c) (hr.mono (by decide)) (by rfl) c.g__law_letter_words c.fd__law_letter_words.kp (bd__law_letter_words c) (takesC (takes_of rfl rfl rfl rfl)) rfl (da_cons (de_ix (de_var (pv 2)) de_int (fun _ _ => rfl) rfl) da_nil)) (da_cons de_str (da_cons (de_fnC (ok__law_letter_words c) (hr.mono (by decide)) (by rfl) c.g__law_letter_words c.fd__law_letter_words.kp (bd__law_letter_words c) (takesC (takes_of rfl rfl rfl rfl)) rfl (da_cons (de_ix (de_var (pv 2)) de_int (fun _ _ => rfl) rfl) da_nil)) da_nil)))))) (dss_one (ds_setLc (i := 3) (own := [("_law_part", 4)]) s rfl sc__law_words.nd rfl rfl (sw_true rfl rfl rfl (by decide +kernel)) (di_any (de_var (pv 2)) rfl) (blkOk_by (N := ["_law_deed", "_law_word", "_law_parts", "_law_some", "_law_part"]) (sc := defScope (top 57)) (by decide +kernel)) (fun _ _ _ _ _ => (dg_name (i := 4) sc__law_words.nd rfl (by first | exact .inl rfl | exact .inr rfl))) (fun _ _ _ _ _ => dts_nil) (fun _ _ _ _ _ => (de_if (dt_cmp (op_eqX (hu64 hr)) (nomark _) (od_eq rfl) (de_var (pv 1)) de_str) (de_fnC (ok__law_letter_words c) (hr.mono (by decide)) (by rfl) c.g__law_letter_words c.fd__law_letter_words.kp (bd__law_letter_words c) takesC0 rfl (da_cons (de_var (pv 4)) da_nil)) (de_callTy call_strX cd_str (by rfl) c.f_str b_str (da_cons (de_var (pv 4)) da_nil)))) (tgt_name (by decide)))))))))
      (dss_one (ds_ret (de_meth (md_join rfl) de_str (da_cons (de_op op_cat' (od_add rfl) (de_lst (da_cons (de_var (pv 1)) da_nil)) (de_var (pv 3))) da_nil) rfl (fun q q' => pe_bm PySem.F.plainAttrs_str PySem.F.slot_str_join PySem.F.type_str_join (mt_join) q q')))))), fun xs Qd Ed hl h => ?_⟩
  obtain ⟨t, rfl, ok, h⟩ := h
  cases t with
  | member a k =>
    refine ⟨.str "member", at0, (show 2 ≤ sizeLine by decide), rfl, rfl, ?_⟩
    dsimp only
    show dSeq _ _ _ _ [some (.d (Told.member a k).data), some (.d (.str "member")), some (.d (.tuple [.str a, .str k])), none, none]
    refine ⟨.inl rfl, skipB (by decide) ⟨.inl rfl, skipB (by decide) ⟨.inl rfl, skipB (by decide) ?_⟩⟩⟩
    refine ⟨trivial, .inl rfl, skipB (by decide) ⟨.inl rfl, skipB (by decide) ?_⟩⟩
    refine ⟨rfl, (show 1 ≤ sizeLine by decide), sz ?_, _, ["member", a, k], rfl, ?_, wl_join (n := 2000) ?_ (by decide), ?_⟩
    · show 1 + 2 ≤ 10000; decide
    · rfl
    · exact (WL.one (by decide)).app ((WL.one (name_len ok.1)).app (WL.one (by have := wordOk_len ok.2; omega))) |>.mono (by decide)
    · exact h
  | hear l =>
    refine ⟨.str "hear", at0, (show 2 ≤ sizeLine by decide), rfl, rfl, ?_⟩
    dsimp only
    show dSeq _ _ _ _ [some (.d (Told.hear l).data), some (.d (.str "hear")), some (.d (.tuple [l.data])), none, none]
    rw [← hear_text] at h
    refine ⟨.inl rfl, skipB (by decide) ⟨.inl rfl, skipB (by decide) ⟨.inl rfl, skipB (by decide) ?_⟩⟩⟩
    refine ⟨trivial, .inl rfl, takeB (by decide) ⟨rfl, nn1, l, rfl, ok.1, ok.2.fit, ?_⟩⟩
    refine ⟨rfl, (show 1 ≤ sizeLine by decide), sz ?_, _, ["hear", l.text], rfl, ?_, wl_join (n := 2000) ?_ (by decide), ?_⟩
    · show 1 + 1 ≤ 10000; decide
    · rfl
    · exact (WL.one (by decide)).app (WL.one (letter_len ok.1 ok.2.fit)) |>.mono (by decide)
    · exact h
  | tick n =>
    refine ⟨.str "tick", at0, (show 2 ≤ sizeLine by decide), rfl, rfl, ?_⟩
    dsimp only
    show dSeq _ _ _ _ [some (.d (Told.tick n).data), some (.d (.str "tick")), some (.d (.tuple [.int n])), none, none]
    refine ⟨.inl rfl, skipB (by decide) ⟨.inl rfl, skipB (by decide) ⟨.inl rfl, skipB (by decide) ?_⟩⟩⟩
    refine ⟨trivial, .inl rfl, skipB (by decide) ⟨cnt_log ⟨by have := ok.1; omega, by have := ok.2; omega⟩, ?_⟩⟩
    refine ⟨rfl, (show 1 ≤ sizeLine by decide), sz ?_, _, ["tick", DW.strI n], rfl, ?_, wl_join (n := 2000) ?_ (by decide), ?_⟩
    · show 1 + 1 ≤ 10000; decide
    · rfl
    · exact (WL.one (by decide)).app (WL.one (cnt_len ⟨by have := ok.1; omega, by have := ok.2; omega⟩)) |>.mono (by decide)
    · exact h
  | day  =>
    refine ⟨.str "day", at0, (show 2 ≤ sizeLine by decide), rfl, rfl, ?_⟩
    dsimp only
    show dSeq _ _ _ _ [some (.d (Told.day).data), some (.d (.str "day")), some (.d (.tuple [])), none, none]
    refine ⟨.inl rfl, skipB (by decide) ⟨.inl rfl, skipB (by decide) ⟨.inl rfl, skipB (by decide) ?_⟩⟩⟩
    refine ⟨trivial, ?_⟩
    refine ⟨rfl, (show 1 ≤ sizeLine by decide), sz ?_, _, ["day"], rfl, ?_, wl_join (n := 2000) ?_ (by decide), ?_⟩
    · show 1 + 0 ≤ 10000; decide
    · rfl
    · exact (WL.one (by decide)).mono (by decide)
    · exact h
  | round a =>
    refine ⟨.str "round", at0, (show 2 ≤ sizeLine by decide), rfl, rfl, ?_⟩
    dsimp only
    show dSeq _ _ _ _ [some (.d (Told.round a).data), some (.d (.str "round")), some (.d (.tuple [.str a])), none, none]
    refine ⟨.inl rfl, skipB (by decide) ⟨.inl rfl, skipB (by decide) ⟨.inl rfl, skipB (by decide) ?_⟩⟩⟩
    refine ⟨trivial, .inl rfl, skipB (by decide) ?_⟩
    refine ⟨rfl, (show 1 ≤ sizeLine by decide), sz ?_, _, ["round", a], rfl, ?_, wl_join (n := 2000) ?_ (by decide), ?_⟩
    · show 1 + 1 ≤ 10000; decide
    · rfl
    · exact (WL.one (by decide)).app (WL.one (name_len ok)) |>.mono (by decide)
    · exact h
  | claim l m =>
    refine ⟨.str "claim", at0, (show 2 ≤ sizeLine by decide), rfl, rfl, ?_⟩
    dsimp only
    show dSeq _ _ _ _ [some (.d (Told.claim l m).data), some (.d (.str "claim")), some (.d (.tuple [l.data, m.data])), none, none]
    rw [← claim_text] at h
    obtain ⟨⟨k1, ⟨k2, _, _⟩⟩, k3, ⟨k4, _, _⟩⟩ := ok
    refine ⟨.inl rfl, skipB (by decide) ⟨.inl rfl, skipB (by decide) ⟨.inl rfl, takeB (by decide) ?_⟩⟩⟩
    refine ⟨l.data, at0, rfl, nn1, l, rfl, k1, k2, m.data, at1', rfl, nn1, m, rfl, k3, k4, (show 3 ≤ sizeLine by decide), ?_⟩
    refine ⟨rfl, (show 1 ≤ sizeLine by decide), sz ?_, _, ["claim", l.text, "/", m.text], rfl, ?_, wl_join (n := 2000) ?_ (by decide), ?_⟩
    · show 1 + 3 ≤ 10000; decide
    · rfl
    · exact (WL.one (by decide)).app ((WL.one (letter_len k1 k2)).app ((WL.one (by decide)).app (WL.one (letter_len k3 k4)))) |>.mono (by decide)
    · exact h
  | opn a b ns c =>
    refine ⟨.str "open", at0, (show 2 ≤ sizeLine by decide), rfl, rfl, ?_⟩
    dsimp only
    show dSeq _ _ _ _ [some (.d (Told.opn a b ns c).data), some (.d (.str "open")), some (.d (.tuple [.str a, .str b, .tuple (DW.sd ns), c.data])), none, none]
    obtain ⟨k1, k2, k3, k4⟩ := ok
    have hn := (ns_wl k3).1
    refine ⟨.inl rfl, takeB (by decide) ?_⟩
    refine ⟨.str a, at0, .str b, at1', (show 2 ≤ sizeLine by decide), _, atI_nat (j := 2) rfl, _, rfl, sz (show 2 + (DW.sd ns).length ≤ 10000 by rw [len_sd]; omega), _, atI_nat (j := 3) rfl, trivial, ⟨cnt_log k4.a, cnt_log k4.b, cnt_log k4.d, cnt_log k4.e, cnt_log k4.f, ?_⟩⟩
    refine ⟨sz (show ([PyData.str a, .str b] ++ DW.sd ns).length + 6 ≤ 10000 by rw [List.length_append, len_sd]; simp only [List.length_cons, List.length_nil]; omega), ?_⟩
    refine ⟨rfl, (show 1 ≤ sizeLine by decide), sz ?_, _, (Told.opn a b ns c).words, rfl, ?_, wl_join (n := 2000) ?_ (by decide), ?_⟩
    · show 1 + ([PyData.str a, .str b] ++ DW.sd ns ++ [PyData.str (DW.strI c.a), .str (DW.strI c.b), .str c.k, .str (DW.strI c.d), .str (DW.strI c.e), .str (DW.strI c.f)]).length ≤ 10000; rw [List.length_append, List.length_append, len_sd]; simp only [List.length_cons, List.length_nil]; omega
    · show strsOf ([PyData.str "open"] ++ ([.str a, .str b] ++ DW.sd ns ++ [PyData.str (DW.strI c.a), .str (DW.strI c.b), .str c.k, .str (DW.strI c.d), .str (DW.strI c.e), .str (DW.strI c.f)])) = _; rw [show [PyData.str "open"] ++ ([.str a, .str b] ++ DW.sd ns ++ [PyData.str (DW.strI c.a), .str (DW.strI c.b), .str c.k, .str (DW.strI c.d), .str (DW.strI c.e), .str (DW.strI c.f)]) = ((Told.opn a b ns c).words).map .str by simp only [Told.words, Ck.ws, DW.sd, List.map_append, List.map_cons, List.map_nil, List.cons_append, List.nil_append]]; exact strs_map _
    · exact ((((WL.one (by decide)).app ((WL.one (name_len k1)).app (WL.one (name_len k2)))).app (ns_wl k3)).app (ck_wl k4)).mono (by decide)
    · exact h
  | cup a ns n b c =>
    refine ⟨.str "cup", at0, (show 2 ≤ sizeLine by decide), rfl, rfl, ?_⟩
    dsimp only
    show dSeq _ _ _ _ [some (.d (Told.cup a ns n b c).data), some (.d (.str "cup")), some (.d (.tuple [.str a, .tuple (DW.sd ns), .int n, .str b, c.data])), none, none]
    obtain ⟨k1, k3, k5, k2, k4⟩ := ok
    have hn := (ns_wl k3).1
    refine ⟨.inl rfl, skipB (by decide) ⟨.inl rfl, takeB (by decide) ?_⟩⟩
    refine ⟨.str a, at0, _, atI_nat (j := 2) rfl, cnt_log k5, .str b, atI_nat (j := 3) rfl, (show 3 ≤ sizeLine by decide), _, atI_nat (j := 4) rfl, trivial, ⟨cnt_log k4.a, cnt_log k4.b, cnt_log k4.d, cnt_log k4.e, cnt_log k4.f, ?_⟩⟩
    refine ⟨(show 3 + 6 ≤ sizeLine by decide), _, at1', _, rfl, sz (show 9 + (DW.sd ns).length ≤ 10000 by rw [len_sd]; omega), ?_⟩
    refine ⟨rfl, (show 1 ≤ sizeLine by decide), sz ?_, _, (Told.cup a ns n b c).words, rfl, ?_, wl_join (n := 2000) ?_ (by decide), ?_⟩
    · show 1 + ([PyData.str a, .str (DW.strI n), .str b] ++ [PyData.str (DW.strI c.a), .str (DW.strI c.b), .str c.k, .str (DW.strI c.d), .str (DW.strI c.e), .str (DW.strI c.f)] ++ DW.sd ns).length ≤ 10000; rw [List.length_append, List.length_append, len_sd]; simp only [List.length_cons, List.length_nil]; omega
    · show strsOf ([PyData.str "cup"] ++ ([.str a, .str (DW.strI n), .str b] ++ [PyData.str (DW.strI c.a), .str (DW.strI c.b), .str c.k, .str (DW.strI c.d), .str (DW.strI c.e), .str (DW.strI c.f)] ++ DW.sd ns)) = _; rw [show [PyData.str "cup"] ++ ([.str a, .str (DW.strI n), .str b] ++ [PyData.str (DW.strI c.a), .str (DW.strI c.b), .str c.k, .str (DW.strI c.d), .str (DW.strI c.e), .str (DW.strI c.f)] ++ DW.sd ns) = ((Told.cup a ns n b c).words).map .str by simp only [Told.words, Ck.ws, DW.sd, List.map_append, List.map_cons, List.map_nil, List.cons_append, List.nil_append]]; exact strs_map _
    · exact ((((WL.one (by decide)).app ((WL.one (name_len k1)).app ((WL.one (cnt_len k5)).app (WL.one (name_len k2))))).app (ck_wl k4)).app (ns_wl k3)).mono (by decide)
    · exact h

end
end K87
set_option Elab.async false
set_option linter.all false
set_option maxRecDepth 100000
set_option maxHeartbeats 4000000
namespace K87
open PySem PySem.Spec PyProof.Rows L2 PD
def isOdd (y : PyData) : Prop := DW.deedText y = none ∧ DW.fit y = true
theorem seqO_none {l : List (Option (List Str))} (h : none ∈ l) : DW.seqO l = none := by
  induction l with
  | nil => cases h
  | cons o l ih =>
    cases o with
    | none => rfl
    | some a =>
      have h : none ∈ l := by simpa using h
      simp only [DW.seqO, ih h]
theorem t_member {a b : PyData} : DW.deedText (.tuple [.str "member", a, b]) = (DW.seqO [DW.nameIn a, DW.keyIn b]).map fun ws => Txt.join " " ("member" :: ws) := rfl
theorem t_open {a b c d : PyData} : DW.deedText (.tuple [.str "open", a, b, c, d]) = (DW.seqO [DW.nameIn a, DW.nameIn b, DW.namesIn c, DW.clockIn d]).map fun ws => Txt.join " " ("open" :: ws) := rfl
theorem t_hear {a : PyData} : DW.deedText (.tuple [.str "hear", a]) = (DW.letterIn a).map fun ws => Txt.join " " ("hear" :: ws) := rfl
theorem t_tick {a : PyData} : DW.deedText (.tuple [.str "tick", a]) = if DW.isNum a 1 (some 10000) then (DW.numW a).map fun ws => Txt.join " " ("tick" :: ws) else none := rfl
theorem t_claim {a b : PyData} : DW.deedText (.tuple [.str "claim", a, b]) = (DW.seqO [DW.letterIn a, some ["/"], DW.letterIn b]).map fun ws => Txt.join " " ("claim" :: ws) := rfl
theorem t_cup {a b c d e : PyData} : DW.deedText (.tuple [.str "cup", a, b, c, d, e]) = (DW.seqO [DW.nameIn a, DW.numW c, DW.nameIn d, DW.clockIn e, DW.namesIn b]).map fun ws => Txt.join " " ("cup" :: ws) := rfl
theorem t_day : DW.deedText (.tuple [.str "day"]) = some "day" := rfl
theorem t_round {a : PyData} : DW.deedText (.tuple [.str "round", a]) = (DW.nameIn a).map fun ws => Txt.join " " ("round" :: ws) := rfl
theorem none_open {a b c d : PyData} (h : none ∈ [DW.nameIn a, DW.nameIn b, DW.namesIn c, DW.clockIn d]) : DW.deedText (.tuple [.str "open", a, b, c, d]) = none := by rw [t_open, seqO_none h]; rfl
theorem none_cup {a b c d e : PyData} (h : none ∈ [DW.nameIn a, DW.numW c, DW.nameIn d, DW.clockIn e, DW.namesIn b]) : DW.deedText (.tuple [.str "cup", a, b, c, d, e]) = none := by rw [t_cup, seqO_none h]; rfl
theorem none_len {w : Str} {ps : List PyData} (h : (DW.sizes.lookup w).getD 0 ≠ (ps.length : Int) + 1) : DW.deedText (.tuple (.str w :: ps)) = none := by
  show (if (DW.sizes.lookup w).getD 0 == (ps.length : Int) + 1 then _ else _) = none
  rw [if_neg]
  intro e
  exact h (eq_of_beq e)
/-! what fits -/
theorem fit_word {m : Int} {z : Str} (h : DW.wordOk m z = true) (hm : m ≤ 100) : DW.fit (.str z) = true := fit_strI (by have := wordOk_len h; omega) (word_strOk h)
theorem fit_cnt {i : Int} (h : i.natAbs < 10 ^ 60) : DW.fit (.int i) = true := by show decide _ = true; exact decide_eq_true h
theorem fit_tupI {xs : List PyData} (h : xs.length ≤ 100000) (h2 : ∀ x ∈ xs, DW.fit x = true) : DW.fit (.tuple xs) = true := by
  simp only [DW.fit, Bool.and_eq_true, decide_eq_true_eq]
  exact ⟨h, fitAll_of h2⟩
theorem fit_lstI {xs : List PyData} (h : xs.length ≤ 100000) (h2 : ∀ x ∈ xs, DW.fit x = true) : DW.fit (.list xs) = true := by
  simp only [DW.fit, Bool.and_eq_true, decide_eq_true_eq]
  exact ⟨h, fitAll_of h2⟩
theorem fit_ns {ns : List Str} (h : nsOk ns) : DW.fit (.tuple (DW.sd ns)) = true := fit_tupI (by rw [len_sd]; have := (ns_wl h).1; omega) fun x hx => by
  obtain ⟨w, hw, rfl⟩ := List.mem_map.mp hx
  exact fit_word (h.2 w hw) (by decide)
theorem fit_ck {c : Ck} (h : c.ok) : ∀ x ∈ [PyData.int c.a, .int c.b, .str c.k, .int c.d, .int c.e, .int c.f], DW.fit x = true := fun x hx => by
  simp only [List.mem_cons, List.not_mem_nil, or_false] at hx
  rcases hx with rfl | rfl | rfl | rfl | rfl | rfl
  · exact fit_cnt (abs60 h.a.1 h.a.2)
  · exact fit_cnt (abs60 h.b.1 h.b.2)
  · exact fit_word h.k (by decide)
  · exact fit_cnt (abs60 h.d.1 h.d.2)
  · exact fit_cnt (abs60 h.e.1 h.e.2)
  · exact fit_cnt (abs60 h.f.1 h.f.2)
theorem fit_ckd {c : Ck} (h : c.ok) : DW.fit c.data = true := fit_tupI (by show 6 ≤ 100000; decide) (fit_ck h)
theorem fit_dd {d : DW.Dd} (h : d.ok) : DW.fit d.data = true := by
  cases d with
  | move n =>
    refine fit_tupI (by show 2 ≤ 100000; decide) fun x hx => ?_
    simp only [List.mem_cons, List.not_mem_nil, or_false] at hx
    rcases hx with rfl | rfl
    · exact fit_strI (by decide) (by decide +kernel)
    · exact fit_word h (by decide)
  | give => decide +kernel
  | even => decide +kernel
theorem fit_lt {l : DW.Lt} (h : l.ok) (f : LtFit l) : DW.fit l.data = true := fit_tupI (by show 10 ≤ 100000; decide) fun x hx => by
  simp only [List.mem_cons, List.not_mem_nil, or_false] at hx
  rcases hx with rfl | rfl | rfl | rfl | rfl | rfl | rfl | rfl | rfl | rfl
  · exact fit_strI (by decide) (by decide +kernel)
  · exact fit_word h.g (by decide)
  · exact fit_cnt f.p
  · exact fit_cnt f.pl
  · exact fit_cnt f.a
  · exact fit_cnt f.s
  · exact fit_cnt f.m
  · exact fit_dd h.d
  · exact fit_cnt f.st
  · exact fit_cnt f.se
def Told.parts : Told → List PyData
  | .member a k => [.str a, .str k]
  | .opn a b ns c => [.str a, .str b, .tuple (DW.sd ns), c.data]
  | .hear l => [l.data]
  | .tick n => [.int n]
  | .claim l m => [l.data, m.data]
  | .cup a ns n b c => [.str a, .tuple (DW.sd ns), .int n, .str b, c.data]
  | .day => []
  | .round a => [.str a]
def Told.word : Told → Str
  | .member _ _ => "member"
  | .opn _ _ _ _ => "open"
  | .hear _ => "hear"
  | .tick _ => "tick"
  | .claim _ _ => "claim"
  | .cup _ _ _ _ _ => "cup"
  | .day => "day"
  | .round _ => "round"
theorem Told.data_eq (t : Told) : t.data = .tuple (.str t.word :: t.parts) := by cases t <;> rfl
theorem told_fit {t : Told} (ok : t.ok) : ∀ x ∈ t.parts, DW.fit x = true := fun x hx => by
  cases t with
  | member a k =>
    simp only [Told.parts, List.mem_cons, List.not_mem_nil, or_false] at hx
    rcases hx with rfl | rfl
    · exact fit_word ok.1 (by decide)
    · exact fit_word ok.2 (by decide)
  | opn a b ns c =>
    obtain ⟨k1, k2, k3, k4⟩ := ok
    simp only [Told.parts, List.mem_cons, List.not_mem_nil, or_false] at hx
    rcases hx with rfl | rfl | rfl | rfl
    · exact fit_word k1 (by decide)
    · exact fit_word k2 (by decide)
    · exact fit_ns k3
    · exact fit_ckd k4
  | hear l =>
    simp only [Told.parts, List.mem_cons, List.not_mem_nil, or_false] at hx
    rw [hx]; exact fit_lt ok.1 ok.2.fit
  | tick n =>
    simp only [Told.parts, List.mem_cons, List.not_mem_nil, or_false] at hx
    rw [hx]; exact fit_cnt (by have := ok.1; have := ok.2; omega)
  | claim l m =>
    simp only [Told.parts, List.mem_cons, List.not_mem_nil, or_false] at hx
    rcases hx with rfl | rfl
    · exact fit_lt ok.1.1 ok.1.2.fit
    · exact fit_lt ok.2.1 ok.2.2.fit
  | cup a ns n b c =>
    obtain ⟨k1, k3, k5, k2, k4⟩ := ok
    simp only [Told.parts, List.mem_cons, List.not_mem_nil, or_false] at hx
    rcases hx with rfl | rfl | rfl | rfl | rfl
    · exact fit_word k1 (by decide)
    · exact fit_ns k3
    · exact fit_cnt (abs60 k5.1 k5.2)
    · exact fit_word k2 (by decide)
    · exact fit_ckd k4
  | day => cases hx
  | round a =>
    simp only [Told.parts, List.mem_cons, List.not_mem_nil, or_false] at hx
    rw [hx]; exact fit_word ok (by decide)
theorem told_size (t : Told) : (DW.sizes.lookup t.word).getD 0 = (t.parts.length : Int) + 1 := by cases t <;> rfl
theorem told_len (t : Told) : t.parts.length ≤ 5 := by cases t <;> simp [Told.parts]
theorem fit_w (t : Told) : DW.fit (.str t.word) = true := by
  cases t with
  | member a k => exact (show DW.fit (.str "member") = true by decide +kernel)
  | opn a b ns c => exact (show DW.fit (.str "open") = true by decide +kernel)
  | hear l => exact (show DW.fit (.str "hear") = true by decide +kernel)
  | tick n => exact (show DW.fit (.str "tick") = true by decide +kernel)
  | claim l m => exact (show DW.fit (.str "claim") = true by decide +kernel)
  | cup a ns n b c => exact (show DW.fit (.str "cup") = true by decide +kernel)
  | day => exact (show DW.fit (.str "day") = true by decide +kernel)
  | round a => exact (show DW.fit (.str "round") = true by decide +kernel)
theorem fit_told {t : Told} (ok : t.ok) : DW.fit t.data = true := by
  rw [t.data_eq]
  refine fit_tupI (by rw [List.length_cons]; have := told_len t; omega) fun x hx => ?_
  rcases List.mem_cons.mp hx with rfl | hx
  · exact fit_w t
  · exact told_fit ok x hx
theorem bad_name {z : Str} (hz : DW.fit (.str z) = true) : ∀ y ∈ [PyData.str "", .str "A", .str "abcdefghi", .str "a b", .none, .int 7, .tuple [.str z], .bool true], DW.nameIn y = none ∧ DW.fit y = true := fun y hy => by
  simp only [List.mem_cons, List.not_mem_nil, or_false] at hy
  rcases hy with rfl | rfl | rfl | rfl | rfl | rfl | rfl | rfl
  · exact ⟨by decide +kernel, by decide +kernel⟩
  · exact ⟨by decide +kernel, by decide +kernel⟩
  · exact ⟨by decide +kernel, by decide +kernel⟩
  · exact ⟨by decide +kernel, by decide +kernel⟩
  · exact ⟨rfl, rfl⟩
  · exact ⟨rfl, by decide +kernel⟩
  · exact ⟨rfl, fit_tupI (by show 1 ≤ 100000; decide) fun x hx => by rw [List.mem_singleton.mp hx]; exact hz⟩
  · exact ⟨rfl, rfl⟩
theorem bad_names {ns : List Str} (h : nsOk ns) : ∀ y ∈ [PyData.str "ab", .dict [(.str "a", .int 1)], .tuple [.str "a", .str "A"], .list [.str "a", .none], .none, .int 7, .tuple (DW.sd ns ++ [.str ""]), .bool true], DW.namesIn y = none ∧ DW.fit y = true := fun y hy => by
  simp only [List.mem_cons, List.not_mem_nil, or_false] at hy
  rcases hy with rfl | rfl | rfl | rfl | rfl | rfl | rfl | rfl
  · exact ⟨rfl, by decide +kernel⟩
  · exact ⟨rfl, rfl⟩
  · exact ⟨by decide +kernel, by decide +kernel⟩
  · exact ⟨by decide +kernel, by decide +kernel⟩
  · exact ⟨rfl, rfl⟩
  · exact ⟨rfl, by decide +kernel⟩
  · refine ⟨?_, fit_tupI (by rw [List.length_append, len_sd]; have := (ns_wl h).1; simp only [List.length_cons, List.length_nil]; omega) fun x hx => ?_⟩
    · unfold DW.namesIn
      rw [if_neg]
      intro c
      rw [Bool.and_eq_true] at c
      have c2 : (DW.sd ns ++ [PyData.str ""]).all DW.isName = true := c.2
      rw [List.all_append, Bool.and_eq_true] at c2
      exact absurd c2.2 (by decide +kernel)
    · rcases List.mem_append.mp hx with hx | hx
      · obtain ⟨w, hw, rfl⟩ := List.mem_map.mp hx
        exact fit_word (h.2 w hw) (by decide)
      · rw [List.mem_singleton.mp hx]
        decide +kernel
  · exact ⟨rfl, rfl⟩
theorem bad_cnt : ∀ y ∈ [PyData.int (-1), .bool true, .none, .str "7", .tuple [.int 7]], DW.numW y = none ∧ DW.fit y = true := fun y hy => by
  simp only [List.mem_cons, List.not_mem_nil, or_false] at hy
  rcases hy with rfl | rfl | rfl | rfl | rfl
  · exact ⟨by decide +kernel, by decide +kernel⟩
  · exact ⟨rfl, rfl⟩
  · exact ⟨rfl, rfl⟩
  · exact ⟨rfl, by decide +kernel⟩
  · exact ⟨rfl, by decide +kernel⟩
theorem clock_none {a b c d e f : PyData} (h : none ∈ [DW.numW a, DW.numW b, DW.nameIn c, DW.numW d, DW.numW e, DW.numW f]) : DW.clockIn (.tuple [a, b, c, d, e, f]) = none := seqO_none h
theorem bad_clock {k : Ck} (h : k.ok) : ∀ y ∈ [PyData.list [.int k.a, .int k.b, .str k.k, .int k.d, .int k.e, .int k.f], .tuple [.int k.a, .int k.b, .str k.k, .int k.d, .int k.e], .tuple [.int k.a, .int k.b, .str k.k, .int k.d, .int k.e, .int k.f, .int 1], .tuple [.int k.a, .int k.b, .str "A", .int k.d, .int k.e, .int k.f], .tuple [.int (-1), .int k.b, .str k.k, .int k.d, .int k.e, .int k.f], .tuple [.int k.a, .int k.b, .str k.k, .int k.d, .int k.e, .bool true], .none, .tuple [.int k.a, .int k.b, .int 7, .int k.d, .int k.e, .int k.f], .tuple [.str "2", .int k.b, .str k.k, .int k.d, .int k.e, .int k.f]],
    DW.clockIn y = none ∧ DW.fit y = true := fun y hy => by
  have hf := fit_ck h
  have fa := hf (.int k.a) (by simp)
  have fb := hf (.int k.b) (by simp)
  have fk := hf (.str k.k) (by simp)
  have fd := hf (.int k.d) (by simp)
  have fe := hf (.int k.e) (by simp)
  have ff := hf (.int k.f) (by simp)
  have f1 : DW.fit (.int 1) = true := by decide +kernel
  have f2 : DW.fit (.str "A") = true := by decide +kernel
  have f3 : DW.fit (.int (-1)) = true := by decide +kernel
  have f4 : DW.fit (.int 7) = true := by decide +kernel
  have f5 : DW.fit (.str "2") = true := by decide +kernel
  have f6 : DW.fit (.bool true) = true := rfl
  have T : ∀ {xs : List PyData}, xs.length ≤ 10 → DW.fitAll xs = true → DW.fit (.tuple xs) = true := fun {xs} hl hx => by
    simp only [DW.fit, Bool.and_eq_true, decide_eq_true_eq]
    exact ⟨by omega, hx⟩
  simp only [List.mem_cons, List.not_mem_nil, or_false] at hy
  rcases hy with rfl | rfl | rfl | rfl | rfl | rfl | rfl | rfl | rfl
  · refine ⟨rfl, ?_⟩
    simp only [DW.fit, Bool.and_eq_true, decide_eq_true_eq]
    exact ⟨by show 6 ≤ 100000; decide, fitAll_of hf⟩
  · exact ⟨rfl, T (by show 5 ≤ 10; decide) (by simp only [DW.fitAll, fa, fb, fk, fd, fe, Bool.and_self])⟩
  · exact ⟨rfl, T (by show 7 ≤ 10; decide) (by simp only [DW.fitAll, fa, fb, fk, fd, fe, ff, f1, Bool.and_self])⟩
  · exact ⟨clock_none (by simp [show DW.nameIn (.str "A") = none by decide +kernel]), T (by show 6 ≤ 10; decide) (by simp only [DW.fitAll, fa, fb, f2, fd, fe, ff, Bool.and_self])⟩
  · exact ⟨clock_none (by simp [show DW.numW (.int (-1)) = none by decide +kernel]), T (by show 6 ≤ 10; decide) (by simp only [DW.fitAll, f3, fb, fk, fd, fe, ff, Bool.and_self])⟩
  · exact ⟨clock_none (by simp [show DW.numW (.bool true) = none from rfl]), T (by show 6 ≤ 10; decide) (by simp only [DW.fitAll, fa, fb, fk, fd, fe, f6, Bool.and_self])⟩
  · exact ⟨rfl, rfl⟩
  · exact ⟨clock_none (by simp [show DW.nameIn (.int 7) = none from rfl]), T (by show 6 ≤ 10; decide) (by simp only [DW.fitAll, fa, fb, f4, fd, fe, ff, Bool.and_self])⟩
  · exact ⟨clock_none (by simp [show DW.numW (.str "2") = none from rfl]), T (by show 6 ≤ 10; decide) (by simp only [DW.fitAll, f5, fb, fk, fd, fe, ff, Bool.and_self])⟩
theorem neG {a : Int} {Q : Bool → Prop} (h : a ≠ 6) (k : Q true) : bK Q (.d (.bool ((fun b => !b) (PyData.eqv (.int a) (.int 6))))) := by
  show Q (!PyData.eqv (.int a) (.int 6))
  rw [eqv_int, beq_eq_false_iff_ne.mpr h]
  exact k
theorem addG {i j : Int} {Q : DK} {E : EK} (h : Q (.d (.int (i + j)))) : oAdd (.d (.int i)) (.d (.int j)) Q E := h

section
variable {P : Program} {w : World} {K : PySem.W.Frag} {mg : Str → Option Value} {base : Heap}
end
end K87
set_option Elab.async false
set_option linter.all false
set_option maxRecDepth 100000
set_option maxHeartbeats 4000000
namespace K87
open PySem PySem.Spec PyProof.Rows L2 PD
section
variable {X : Cx} {Z : Zx} {pos : Pos}
/-- the script, a list of ints that stands in the hidden region -/
def IsScr (K : PySem.W.Frag) (R : Reg) (a : Addr) (ns : List Int) : Prop := (∀ H, R.J H → SqL K H a (ns.map V.int)) ∧ ns.length ≤ 63
def dSlV (K : PySem.W.Frag) (R : Reg) (a : TD) (lo hi : TDO) : TD := fun δ Q E => a δ (fun x => lo δ (fun l => hi δ (fun h => ∃ b ns, x = .v (.ref b) ∧ IsScr K R b ns ∧ Q (.new (PD.cut (ns.map PyData.int) l h))) E) E) E
theorem daa_ints {K : PySem.W.Frag} {H : Hp} : ∀ ns : List Int, DaAll K H (ns.map V.int) (ns.map PyData.int)
  | [] => .nil
  | n :: r => .cons (.int n) (daa_ints r)
theorem de_sliceV {e : Expr} {lo hi : Option Expr} {p2 : Pos} {te : TE} {tl th : TO} {d : TD} {dl dh : TDO} (ha : DE X Z e te d) (hl : DO X Z lo tl dl) (hh' : DO X Z hi th dh) (hK : Z.K = X.K) : DE X Z (.Subscript e (.Slice lo hi none p2) pos) (tSl (rSlX Z.K) te tl th) (dSlV Z.K Z.R d dl dh) := by
  rw [hK]
  refine ⟨pe_slice sl_x ha.pe hl.po hh'.po, fun I H δ σ Qd Ed Q hh t k => ha.rf I H δ σ _ Ed _ hh t fun x v I1 H1 e1 a1 q1 => ?_⟩
  refine hl.rf I1 H1 δ σ _ Ed _ (hh.ext e1) q1 fun l I2 H2 e2 q2 => ?_
  refine hh'.rf I2 H2 δ σ _ Ed _ ((hh.ext e1).ext e2) q2 fun u I3 H3 e3 q3 => ?_
  have h3 := ((hh.ext e1).ext e2).ext e3
  obtain ⟨b, ns, rfl, ⟨hs, hl2⟩, q⟩ := q3
  have a2 : v = .ref b := a1
  subst a2
  have kk := ((k.ext hh.g e1).ext e1.good e2).ext e2.good e3
  refine .inl ⟨b, _, rfl, hs H3 h3.g.j, ?_⟩
  exact kk.new h3.g h3.old ((daa_ints ns).cut l u) (Nat.le_trans (cutV_length _ _ _) (by rw [List.length_map]; exact Nat.le_trans hl2 (by decide))) q
end
/-- _law_begin(_law_script): the cells, 0, 1 -/
def spBegin (K : PySem.W.Frag) : Spd := fun R xs Q _ => ∃ a ns, IsScr K R a ns ∧ xs = [.v (.ref a)] ∧ ∀ cells : List Int, cells ≠ [] → Q (.d (.list [.list (cells.map PyData.int), .int 0, .int 1]))
theorem lay_ints : ∀ cs : List Int, PyData.canLayAll0 (cs.map PyData.int) = true
  | [] => rfl
  | c :: r => by
    show (PyData.canLay0 (.int c) && PyData.canLayAll0 (r.map PyData.int)) = true
    rw [lay_ints r]; rfl
theorem depth_ints (cs : List Int) : PyData.depthAll (cs.map PyData.int) = 0 := by
  induction cs with
  | nil => rfl
  | cons x ws ih => show max 0 (PyData.depthAll (ws.map PyData.int)) = 0; rw [ih]; rfl
theorem shaped_ints (cs : List Int) : SeqAt.shaped (.list (cs.map PyData.int)) = true := by
  unfold SeqAt.shaped
  rw [Bool.and_eq_true]
  refine ⟨by simpa only [PyData.canLay0] using lay_ints cs, ?_⟩
  simp only [PyData.depth, depth_ints]
  decide

section
variable {P : Program} {w : World} {K : PySem.W.Frag} {mg : Str → Option Value} {base : Heap}
theorem ok__law_begin (c : Tx K w mg) : FnOk P w K mg base (L2.CX P w) 1 (He.ga K "_law_begin") (fdOf K (He.ga K "_law_begin")) ["_law_script"] (lift K (spBegin K) 1) := by
  refine fn_ok c.fd__law_begin sc__law_begin rfl fun cdv A outer s I H E R hr => ⟨_, _, (dss_cons flat_of (ds_setLc (i := 1) (own := [("_law_cell", 2)]) s rfl sc__law_begin.nd rfl rfl (sw_true rfl rfl rfl (by decide +kernel)) (di_any (de_sliceV (de_var (pv 0)) do_none (do_some de_int) rfl) rfl) (blkOk_by (N := ["_law_script", "_law_cells", "_law_cell"]) (sc := defScope (top 47)) (by decide +kernel)) (fun _ _ _ _ _ => (dg_name (i := 2) sc__law_begin.nd rfl (by first | exact .inl rfl | exact .inr rfl))) (fun _ _ _ _ _ => dts_nil) (fun _ _ _ _ _ => (de_callB call_abs cd_abs (by rfl) c.f_abs b_abs (da_cons (de_var (pv 2)) da_nil))) (tgt_name (by decide)))
      (dss_cons flat_of (ds_if (dt_cmp (op_eqX (hu64 hr)) (nomark _) (od_eq rfl) (de_var (pv 1)) (de_lst da_nil)) (dss_one (ds_set (i := 1) sc__law_begin.nd rfl (by first | exact .inl rfl | exact .inr rfl) (de_lst (da_cons de_int da_nil)))) dss_nil)
      (dss_one (ds_ret (de_lst (da_cons (de_var (pv 1)) (da_cons de_int (da_cons de_int da_nil)))))))), fun xs Qd Ed hl h => ?_⟩
  obtain ⟨a, ns, hs, rfl, h⟩ := h
  refine ⟨a, ns, rfl, hs, ?_⟩
  have e : PD.cut (ns.map PyData.int) none (some 63) = (PD.cut ns none (some 63)).map PyData.int := by
    unfold PD.cut
    rw [List.length_map, List.map_take, List.map_drop]
  rw [e]
  refine ⟨trivial, lcGo_map (f := fun i : Int => .int (if i < 0 then -i else i)) (fun i hi K hK => ?_) ?_⟩
  · exact hK
  · rw [List.nil_append, show (PD.cut ns none (some 63)).map (fun i : Int => PyData.int (if i < 0 then -i else i)) = ((PD.cut ns none (some 63)).map fun i : Int => if i < 0 then -i else i).map PyData.int by rw [List.map_map]; rfl]
    generalize hcs : (PD.cut ns none (some 63)).map (fun i : Int => if i < 0 then -i else i) = cs
    refine setG (δ' := [some (.v (.ref a)), some (.d (.list (cs.map PyData.int))), none]) rfl ?_
    refine ⟨Nat.zero_le _, .inr ⟨shaped_ints cs, rfl⟩, iteG (fun hb => ?_) fun hb => ?_⟩
    · exact ⟨(show 1 ≤ sizeLine by decide), (show 3 ≤ sizeLine by decide), h [7] (by simp)⟩
    · refine ⟨(show 3 ≤ sizeLine by decide), h cs fun e => ?_⟩
      rw [e] at hb
      cases hb

end
end K87
set_option Elab.async false
set_option linter.all false
set_option maxRecDepth 100000
set_option maxHeartbeats 4000000
namespace K87
open PySem PySem.Spec PyProof.Rows L2 PD
/-! what the law asks of the rows, with no program in it -/
theorem ltAll_eq (l : DW.Lt) : ltWs l = l.all := rfl
theorem letterIn_ok {l : DW.Lt} (h : l.ok) : DW.letterIn l.data = some (ltWs l) := by
  unfold DW.letterIn
  rw [if_pos (DW.lt_data h), DW.letterText_data, ← lt_text]
  rw [show l.ws ++ [DW.strI l.se] = l.all from rfl, DW.split_join (DW.all_ne l) (DW.lt_free h)]
  rfl
theorem clockIn_ok {c : Ck} (h : c.ok) : DW.clockIn c.data = some c.ws := by
  show DW.seqO [DW.numW (.int c.a), DW.numW (.int c.b), DW.nameIn (.str c.k), DW.numW (.int c.d), DW.numW (.int c.e), DW.numW (.int c.f)] = _
  rw [DW.numW_ok h.a.1, DW.numW_ok h.b.1, DW.nameIn_ok h.k, DW.numW_ok h.d.1, DW.numW_ok h.e.1, DW.numW_ok h.f.1]
  rfl
theorem ns_100 {ns : List Str} (h : nsOk ns) : ns.length ≤ 100 := Nat.le_trans (ns_wl h).1 (by decide)
/-- the deed with its names in another row -/
def Told.handed : Told → PyData
  | .opn a b ns c => .tuple [.str "open", .str a, .str b, .list (DW.sd ns), c.data]
  | .cup a ns n b c => .tuple [.str "cup", .str a, .list (DW.sd ns), .int n, .str b, c.data]
  | t => t.data
theorem told_text {t : Told} (ok : t.ok) : DW.deedText t.data = some t.text ∧ DW.deedText t.handed = some t.text := by
  cases t with
  | member a k =>
    refine (fun q => ⟨q, q⟩) ?_
    rw [show (Told.member a k).data = .tuple [.str "member", .str a, .str k] from rfl, t_member, DW.nameIn_ok ok.1, DW.keyIn_ok ok.2]
    rfl
  | opn a b ns c =>
    obtain ⟨k1, k2, k3, k4⟩ := ok
    have e : some (Txt.join " " ((["open"] : List Str) ++ ([a] ++ ([b] ++ (ns ++ (c.ws ++ [])))))) = some (Told.opn a b ns c).text := by
      unfold Told.text Told.words
      simp only [List.append_nil, List.cons_append, List.nil_append]
    refine ⟨?_, ?_⟩
    · rw [show (Told.opn a b ns c).data = .tuple [.str "open", .str a, .str b, .tuple (DW.sd ns), c.data] from rfl, t_open, DW.nameIn_ok k1, DW.nameIn_ok k2, DW.namesIn_tup (ns_100 k3) k3.2, clockIn_ok k4]
      exact e
    · rw [show (Told.opn a b ns c).handed = .tuple [.str "open", .str a, .str b, .list (DW.sd ns), c.data] from rfl, t_open, DW.nameIn_ok k1, DW.nameIn_ok k2, DW.namesIn_lst (ns_100 k3) k3.2, clockIn_ok k4]
      exact e
  | hear l =>
    refine (fun q => ⟨q, q⟩) ?_
    rw [show (Told.hear l).data = .tuple [.str "hear", l.data] from rfl, t_hear, letterIn_ok ok.1]
    rfl
  | tick n =>
    refine (fun q => ⟨q, q⟩) ?_
    rw [show (Told.tick n).data = .tuple [.str "tick", .int n] from rfl, t_tick, if_pos (DW.isNum_of ok.1 fun j e => by cases e; exact ok.2), DW.numW_ok (by have := ok.1; omega)]
    rfl
  | claim l m =>
    refine (fun q => ⟨q, q⟩) ?_
    rw [show (Told.claim l m).data = .tuple [.str "claim", l.data, m.data] from rfl, t_claim, letterIn_ok ok.1.1, letterIn_ok ok.2.1]
    show some (Txt.join " " ("claim" :: (ltWs l ++ ((["/"] : List Str) ++ (ltWs m ++ []))))) = _
    rw [List.append_nil]
    rfl
  | cup a ns n b c =>
    obtain ⟨k1, k3, k5, k2, k4⟩ := ok
    have e : some (Txt.join " " ((["cup"] : List Str) ++ ([a] ++ ([DW.strI n] ++ ([b] ++ (c.ws ++ (ns ++ []))))))) = some (Told.cup a ns n b c).text := by
      unfold Told.text Told.words
      simp only [List.append_nil, List.cons_append, List.nil_append]
    refine ⟨?_, ?_⟩
    · rw [show (Told.cup a ns n b c).data = .tuple [.str "cup", .str a, .tuple (DW.sd ns), .int n, .str b, c.data] from rfl, t_cup, DW.nameIn_ok k1, DW.numW_ok k5.1, DW.nameIn_ok k2, clockIn_ok k4, DW.namesIn_tup (ns_100 k3) k3.2]
      exact e
    · rw [show (Told.cup a ns n b c).handed = .tuple [.str "cup", .str a, .list (DW.sd ns), .int n, .str b, c.data] from rfl, t_cup, DW.nameIn_ok k1, DW.numW_ok k5.1, DW.nameIn_ok k2, clockIn_ok k4, DW.namesIn_lst (ns_100 k3) k3.2]
      exact e
  | day => exact ⟨rfl, rfl⟩
  | round a =>
    refine (fun q => ⟨q, q⟩) ?_
    rw [show (Told.round a).data = .tuple [.str "round", .str a] from rfl, t_round, DW.nameIn_ok ok]
    rfl
theorem words_free {t : Told} (ok : t.ok) : ∀ w ∈ t.words, 32 ∉ TL.tl w := by
  have lw : ∀ {l : DW.Lt}, l.ok → ∀ w ∈ ltWs l, 32 ∉ TL.tl w := fun h w hw => DW.lt_free h w hw
  have cw : ∀ {c : Ck}, c.ok → ∀ w ∈ c.ws, 32 ∉ TL.tl w := fun {c} h w hw => by
    simp only [Ck.ws, List.mem_cons, List.not_mem_nil, or_false] at hw
    rcases hw with rfl | rfl | rfl | rfl | rfl | rfl
    · exact DW.strI_free h.a.1
    · exact DW.strI_free h.b.1
    · exact DW.word_free h.k
    · exact DW.strI_free h.d.1
    · exact DW.strI_free h.e.1
    · exact DW.strI_free h.f.1
  have nw : ∀ {ns : List Str}, nsOk ns → ∀ w ∈ ns, 32 ∉ TL.tl w := fun h w hw => DW.word_free (h.2 w hw)
  intro w hw
  cases t with
  | member a k =>
    simp only [Told.words, List.mem_cons, List.not_mem_nil, or_false] at hw
    rcases hw with rfl | rfl | rfl
    · decide +kernel
    · exact DW.word_free ok.1
    · exact DW.word_free ok.2
  | opn a b ns c =>
    obtain ⟨k1, k2, k3, k4⟩ := ok
    simp only [Told.words, List.mem_append, List.mem_cons, List.not_mem_nil, or_false] at hw
    rcases hw with ((rfl | rfl | rfl) | hw) | hw
    · decide +kernel
    · exact DW.word_free k1
    · exact DW.word_free k2
    · exact nw k3 w hw
    · exact cw k4 w hw
  | hear l =>
    rcases List.mem_cons.mp (show w ∈ ("hear" : Str) :: ltWs l from hw) with rfl | hw
    · decide +kernel
    · exact lw ok.1 w hw
  | tick n =>
    simp only [Told.words, List.mem_cons, List.not_mem_nil, or_false] at hw
    rcases hw with rfl | rfl
    · decide +kernel
    · exact DW.strI_free (by have := ok.1; omega)
  | claim l m =>
    rcases List.mem_cons.mp (show w ∈ ("claim" : Str) :: (ltWs l ++ ("/" : Str) :: ltWs m) from hw) with rfl | hw
    · decide +kernel
    · rcases List.mem_append.mp hw with hw | hw
      · exact lw ok.1.1 w hw
      · rcases List.mem_cons.mp hw with rfl | hw
        · decide +kernel
        · exact lw ok.2.1 w hw
  | cup a ns n b c =>
    obtain ⟨k1, k3, k5, k2, k4⟩ := ok
    simp only [Told.words, List.mem_append, List.mem_cons, List.not_mem_nil, or_false] at hw
    rcases hw with ((rfl | rfl | rfl | rfl) | hw) | hw
    · decide +kernel
    · exact DW.word_free k1
    · exact DW.strI_free k5.1
    · exact DW.word_free k2
    · exact cw k4 w hw
    · exact nw k3 w hw
  | day => rw [List.mem_singleton.mp (show w ∈ (["day"] : List Str) from hw)]; decide +kernel
  | round a =>
    simp only [Told.words, List.mem_cons, List.not_mem_nil, or_false] at hw
    rcases hw with rfl | rfl
    · decide +kernel
    · exact DW.word_free ok
theorem words_ne (t : Told) : t.words ≠ [] := by
  cases t <;> (intro e; simp [Told.words] at e)
theorem readClock_ok {c : Ck} (h : c.ok) : DW.readClock c.ws = some c.data := by
  show (DW.allO [DW.readNum (DW.strI c.a), DW.readNum (DW.strI c.b), DW.readName c.k, DW.readNum (DW.strI c.d), DW.readNum (DW.strI c.e), DW.readNum (DW.strI c.f)]).map PyData.tuple = _
  rw [DW.readNum_ok h.a.1 h.a.2, DW.readNum_ok h.b.1 h.b.2, DW.readName_ok h.k, DW.readNum_ok h.d.1 h.d.2, DW.readNum_ok h.e.1 h.e.2, DW.readNum_ok h.f.1 h.f.2]
  rfl
theorem readLetterOf_ok {l : DW.Lt} (h : l.ok) (f : LtC l) : DW.readLetterOf (ltWs l) = some l.data := DW.readLetter_all h f.s f.st
theorem readNames_ns {ns : List Str} (h : nsOk ns) : DW.readNames ns = some (.tuple (DW.sd ns)) := by
  unfold DW.readNames
  rw [DW.readNames_ok h.2]
  rfl
theorem sIx_neg {n d j : Nat} (h : 0 < j) : HT.sIx n d (some (-(j : Int))) = n - j := by
  show (if (-(j : Int)) < 0 then ((-(j : Int)) + (n : Int)).toNat else min (-(j : Int)).toNat n) = _
  rw [if_pos (by omega)]
  omega
theorem cut_ab {α : Type} (p xs q : List α) {i j : Nat} (hi : p.length = i) (hj : q.length = j) (h : 0 < j) : PD.cut (p ++ xs ++ q) (some (i : Int)) (some (-(j : Int))) = xs := by
  subst hi hj
  have hl : (p ++ xs ++ q).length = p.length + xs.length + q.length := by simp only [List.length_append]
  have e1 : HT.sIx (p ++ xs ++ q).length 0 (some (p.length : Int)) = p.length := by rw [HT.sIx_nat, hl]; omega
  have e2 : HT.sIx (p ++ xs ++ q).length (p ++ xs ++ q).length (some (-(q.length : Int))) = p.length + xs.length := by
    rw [sIx_neg h, hl]
    omega
  unfold PD.cut
  rw [e1, e2, List.append_assoc, List.drop_left, Nat.add_sub_cancel_left, List.take_left]
theorem cut_b {α : Type} (p q : List α) {j : Nat} (hj : q.length = j) (h : 0 < j) : PD.cut (p ++ q) (some (-(j : Int))) none = q := by
  subst hj
  have hl : (p ++ q).length = p.length + q.length := List.length_append
  have e1 : HT.sIx (p ++ q).length 0 (some (-(q.length : Int))) = p.length := by
    rw [sIx_neg h, hl]
    omega
  have e2 : HT.sIx (p ++ q).length (p ++ q).length none = p.length + q.length := hl
  unfold PD.cut
  rw [e1, e2, List.drop_left, Nat.add_sub_cancel_left, List.take_length]
theorem told_read {t : Told} (ok : t.ok) : DW.readDeed (.str t.text) = some t.data := by
  have sp := DW.split_join (words_ne t) (words_free ok)
  show (match Txt.split t.text " " with | w :: ws => DW.readWords w ws | [] => none) = _
  rw [show t.text = Txt.join " " t.words from rfl, sp]
  cases t with
  | member a k =>
    have e : DW.readWords "member" [a, k] = DW.tupO "member" [DW.readName a, some (.str k)] := by
      show (if ([a, k] : List Str).length = 2 ∧ DW.wordOk 20 (DW.at_ [a, k] 1) = true then _ else _) = _
      exact if_pos ⟨rfl, ok.2⟩
    refine e.trans ?_
    rw [DW.readName_ok ok.1]
    rfl
  | opn a b ns c =>
    obtain ⟨k1, k2, k3, k4⟩ := ok
    show (if ([a, b] ++ ns ++ c.ws).length < 8 then none else DW.tupO "open" [DW.readName a, DW.readName b, DW.readNames (PD.cut ([a, b] ++ ns ++ c.ws) (some 2) (some (-6))), DW.readClock (PD.cut ([a, b] ++ ns ++ c.ws) (some (-6)) none)]) = _
    have hl : ([a, b] ++ ns ++ c.ws).length = 2 + ns.length + 6 := by simp only [List.length_append]; rfl
    have e1 : PD.cut ([a, b] ++ ns ++ c.ws) (some 2) (some (-6)) = ns := cut_ab [a, b] ns c.ws (i := 2) (j := 6) rfl rfl (by decide)
    have e2 : PD.cut ([a, b] ++ ns ++ c.ws) (some (-6)) none = c.ws := cut_b ([a, b] ++ ns) c.ws (j := 6) rfl (by decide)
    rw [if_neg (by omega), e1, e2, DW.readName_ok k1, DW.readName_ok k2, readNames_ns k3, readClock_ok k4]
    rfl
  | hear l =>
    show DW.tupO "hear" [DW.readLetterOf (ltWs l)] = _
    rw [readLetterOf_ok ok.1 ok.2]
    rfl
  | tick n =>
    have e : DW.readWords "tick" [DW.strI n] = DW.tupO "tick" [DW.readNum (DW.strI n)] := by
      show (if ([DW.strI n] : List Str).length = 1 then _ else none) = _
      exact if_pos rfl
    refine e.trans ?_
    rw [DW.readNum_ok (by have := ok.1; omega) (by have := ok.2; omega)]
    rfl
  | claim l m =>
    show DW.readClaim (ltWs l ++ ("/" : Str) :: ltWs m) = _
    unfold DW.readClaim
    rw [show DW.idx "/" (ltWs l ++ ("/" : Str) :: ltWs m) = some (ltWs l).length from DW.idx_at (DW.lt_noSlash (l := l) ok.1.1)]
    show DW.tupO "claim" [DW.readLetterOf ((ltWs l ++ ("/" : Str) :: ltWs m).take (ltWs l).length), DW.readLetterOf ((ltWs l ++ ("/" : Str) :: ltWs m).drop ((ltWs l).length + 1))] = _
    rw [List.take_left, ← List.drop_drop, List.drop_left]
    show DW.tupO "claim" [DW.readLetterOf (ltWs l), DW.readLetterOf (ltWs m)] = _
    rw [readLetterOf_ok ok.1.1 ok.1.2, readLetterOf_ok ok.2.1 ok.2.2]
    rfl
  | cup a ns n b c =>
    obtain ⟨k1, k3, k5, k2, k4⟩ := ok
    show (if ([a, DW.strI n, b] ++ c.ws ++ ns).length < 9 then none else DW.tupO "cup" [DW.readName a, DW.readNames (PD.cut ([a, DW.strI n, b] ++ c.ws ++ ns) (some 9) none), DW.readNum (DW.strI n), DW.readName b, DW.readClock (PD.cut ([a, DW.strI n, b] ++ c.ws ++ ns) (some 3) (some 9))]) = _
    have hl : ([a, DW.strI n, b] ++ c.ws ++ ns).length = 3 + 6 + ns.length := by simp only [List.length_append]; rfl
    have e1 : PD.cut ([a, DW.strI n, b] ++ c.ws ++ ns) (some 9) none = ns := cut_from _ 9
    have e2 : PD.cut ([a, DW.strI n, b] ++ c.ws ++ ns) (some 3) (some 9) = c.ws := by
      unfold PD.cut
      have q1 : HT.sIx ([a, DW.strI n, b] ++ c.ws ++ ns).length 0 (some 3) = 3 := by rw [show (some (3 : Int)) = some ((3 : Nat) : Int) from rfl, HT.sIx_nat, hl]; omega
      have q2 : HT.sIx ([a, DW.strI n, b] ++ c.ws ++ ns).length ([a, DW.strI n, b] ++ c.ws ++ ns).length (some 9) = 9 := by rw [show (some (9 : Int)) = some ((9 : Nat) : Int) from rfl, HT.sIx_nat, hl]; omega
      rw [q1, q2]
      rfl
    rw [if_neg (by omega), e1, e2, DW.readName_ok k1, DW.readName_ok k2, readNames_ns k3, readClock_ok k4, DW.readNum_ok k5.1 k5.2]
    rfl
  | day => rfl
  | round a =>
    have e : DW.readWords "round" [a] = DW.tupO "round" [DW.readName a] := by
      show (if ([a] : List Str).length = 1 then _ else none) = _
      exact if_pos rfl
    refine e.trans ?_
    rw [DW.readName_ok ok]
    rfl
/-! ### its repr fits -/
mutual
def sz1 : PyData → Nat
  | .str z => 10 * z.length + 2
  | .int i => (DW.strI i).length
  | .list xs => szL xs + 3
  | .tuple xs => szL xs + 3
  | _ => 6
def szL : List PyData → Nat
  | [] => 0
  | x :: xs => sz1 x + 2 + szL xs
end
theorem szL_eq : ∀ xs : List PyData, szL xs = (xs.map fun x => sz1 x + 2).sum
  | [] => rfl
  | x :: xs => by simp only [szL, List.map_cons, List.sum_cons, szL_eq xs]
theorem textFrom_le : ∀ (ts : List Str) (k : Nat) (acc : Str), (textFrom k acc ts).length ≤ acc.length + (ts.map fun t => t.length + 2).sum
  | [], k, acc => Nat.le_refl _
  | t :: r, k, acc => by
    show (textFrom (k + 1) (acc ++ (if k > 0 then ", " else "" : String) ++ t) r).length ≤ _
    have ih := textFrom_le r (k + 1) (acc ++ (if k > 0 then ", " else "" : String) ++ t)
    have e : (acc ++ (if k > 0 then ", " else "" : String) ++ t).length ≤ acc.length + 2 + t.length := by
      simp only [TL.len_tl, TL.tl_append, List.length_append]
      have : (TL.tl ((if k > 0 then ", " else "" : String) : Str)).length ≤ 2 := by
        by_cases h : k > 0
        · rw [if_pos h]; decide +kernel
        · rw [if_neg h]; decide +kernel
      omega
    simp only [List.map_cons, List.sum_cons]
    omega
theorem join_le : ∀ ts : List Str, (Str.join ", " ts).length ≤ (ts.map fun t => t.length + 2).sum
  | [] => Nat.zero_le _
  | [x] => by show x.length ≤ _; simp
  | x :: y :: r => by
    have ih := join_le (y :: r)
    show (x ++ ", " ++ Str.join ", " (y :: r)).length ≤ _
    have e2 : (TL.tl (", " : Str)).length = 2 := by decide +kernel
    simp only [TL.len_tl, TL.tl_append, List.length_append, e2] at ih ⊢
    simp only [List.map_cons, List.sum_cons] at ih ⊢
    omega
mutual
theorem shown_le : ∀ d : PyData, d.canLay0 = true → d.shown.length ≤ sz1 d
  | .none, _ => by decide +kernel
  | .bool b, _ => by cases b <;> decide +kernel
  | .int i, _ => Nat.le_refl _
  | .str z, h => by
    have h : PyData.strOk z = true := by simpa only [PyData.canLay0] using h
    refine StrLaws.reprText_len z fun c hc => ?_
    unfold PyData.strOk at h
    rw [← Array.all_toList, List.all_eq_true] at h
    have := of_decide_eq_true (h c hc)
    omega
  | .list xs, h => by
    have ih := shownAll_le xs (by simpa only [PyData.canLay0] using h)
    show (textFrom 0 "[" (PyData.shownAll xs) ++ "]").length ≤ szL xs + 3
    have := textFrom_le (PyData.shownAll xs) 0 "["
    have e1 : ("[" : Str).length = 1 := by decide +kernel
    have e2 : (TL.tl ("]" : Str)).length = 1 := by decide +kernel
    simp only [TL.len_tl, TL.tl_append, List.length_append, e2] at this e1 ⊢
    simp only [TL.len_tl] at ih
    omega
  | .tuple xs, h => by
    have ih := shownAll_le xs (by simpa only [PyData.canLay0] using h)
    show (("(" : Str) ++ Str.join ", " (PyData.shownAll xs) ++ (if (PyData.shownAll xs).length == 1 then ",)" else ")" : String)).length ≤ szL xs + 3
    have := join_le (PyData.shownAll xs)
    have e1 : (TL.tl ("(" : Str)).length = 1 := by decide +kernel
    have e2 : (TL.tl ((if (PyData.shownAll xs).length == 1 then ",)" else ")" : String) : Str)).length ≤ 2 := by
      split <;> decide +kernel
    simp only [TL.len_tl, TL.tl_append, List.length_append, e1] at this ⊢
    simp only [TL.len_tl] at ih
    omega
  | .dict _, h => by simp [PyData.canLay0] at h
theorem shownAll_le : ∀ xs : List PyData, PyData.canLayAll0 xs = true → ((PyData.shownAll xs).map fun t => t.length + 2).sum ≤ szL xs
  | [], _ => Nat.le_refl _
  | x :: xs, h => by
    simp only [PyData.canLayAll0, Bool.and_eq_true] at h
    have h1 := shown_le x h.1
    have h2 := shownAll_le xs h.2
    simp only [PyData.shownAll, List.map_cons, List.sum_cons, szL]
    omega
end
structure Rp (d m : Nat) (x : PyData) : Prop where
  lay : x.canLay0 = true
  shw : x.showable = true
  dep : x.depth ≤ d
  sz : sz1 x ≤ m
theorem Rp.mono {d m d' m' : Nat} {x : PyData} (h : Rp d m x) (hd : d ≤ d') (hm : m ≤ m') : Rp d' m' x := ⟨h.lay, h.shw, Nat.le_trans h.dep hd, Nat.le_trans h.sz hm⟩
theorem Rp.all {d m : Nat} : ∀ {xs : List PyData}, (∀ x ∈ xs, Rp d m x) → PyData.canLayAll0 xs = true ∧ PyData.showableAll xs = true ∧ PyData.depthAll xs ≤ d ∧ szL xs ≤ xs.length * (m + 2)
  | [], _ => ⟨rfl, rfl, Nat.zero_le _, Nat.zero_le _⟩
  | x :: xs, h => by
    have a := h x List.mem_cons_self
    obtain ⟨h1, h2, h3, h4⟩ := Rp.all (d := d) (m := m) (xs := xs) fun y hy => h y (List.mem_cons_of_mem _ hy)
    refine ⟨?_, ?_, ?_, ?_⟩
    · simp only [PyData.canLayAll0, a.lay, h1, Bool.and_self]
    · simp only [PyData.showableAll, a.shw, h2, Bool.and_self]
    · show max x.depth (PyData.depthAll xs) ≤ d
      have := a.dep
      omega
    · show sz1 x + 2 + szL xs ≤ (xs.length + 1) * (m + 2)
      have := a.sz
      rw [Nat.add_mul]
      omega
theorem Rp.tup {d m n : Nat} {xs : List PyData} (hl : xs.length ≤ n) (h : ∀ x ∈ xs, Rp d m x) : Rp (d + 1) (n * (m + 2) + 3) (.tuple xs) := by
  obtain ⟨h1, h2, h3, h4⟩ := Rp.all h
  refine ⟨by simpa only [PyData.canLay0] using h1, by simpa only [PyData.showable] using h2, by show PyData.depthAll xs + 1 ≤ d + 1; omega, ?_⟩
  show szL xs + 3 ≤ _
  have := Nat.mul_le_mul_right (m + 2) hl
  omega
theorem Rp.lst {d m n : Nat} {xs : List PyData} (hl : xs.length ≤ n) (h : ∀ x ∈ xs, Rp d m x) : Rp (d + 1) (n * (m + 2) + 3) (.list xs) := by
  obtain ⟨h1, h2, h3, h4⟩ := Rp.all h
  refine ⟨by simpa only [PyData.canLay0] using h1, by simpa only [PyData.showable] using h2, by show PyData.depthAll xs + 1 ≤ d + 1; omega, ?_⟩
  show szL xs + 3 ≤ _
  have := Nat.mul_le_mul_right (m + 2) hl
  omega
theorem Rp.str {z : Str} (hl : z.length ≤ 60) (h : PyData.strOk z = true) : Rp 0 602 (.str z) :=
  ⟨by simpa only [PyData.canLay0] using h, rfl, Nat.le_refl _, by show 10 * z.length + 2 ≤ 602; omega⟩
theorem Rp.word {m : Int} {z : Str} (h : DW.wordOk m z = true) (hm : m ≤ 60) : Rp 0 602 (.str z) := .str (by have := wordOk_len h; omega) (word_strOk h)
theorem Rp.int {i : Int} (h0 : 0 ≤ i) (h1 : i.natAbs < 10 ^ 60) : Rp 0 602 (.int i) := by
  refine ⟨rfl, ?_, Nat.le_refl _, Nat.le_trans (DW.strI_len h0 h1) (by decide)⟩
  simp only [PyData.showable, decide_eq_true_eq]
  exact DW.log2_lt h1
theorem Rp.cnt {i : Int} (h : cntOk i) : Rp 0 602 (.int i) := .int h.1 (abs60 h.1 h.2)
theorem rp_dd {d : DW.Dd} (h : d.ok) : Rp 1 1211 d.data := by
  cases d with
  | move n =>
    refine Rp.tup (n := 2) (d := 0) (m := 602) (Nat.le_refl _) fun x hx => ?_
    simp only [List.mem_cons, List.not_mem_nil, or_false] at hx
    rcases hx with rfl | rfl
    · exact .str (by decide) (by decide +kernel)
    · exact .word h (by decide)
  | give => exact ⟨by decide +kernel, by decide +kernel, by decide +kernel, by decide +kernel⟩
  | even => exact ⟨by decide +kernel, by decide +kernel, by decide +kernel, by decide +kernel⟩
theorem rp_lt {l : DW.Lt} (h : l.ok) (f : LtFit l) : Rp 2 12133 l.data := by
  refine Rp.tup (n := 10) (d := 1) (m := 1211) (Nat.le_refl _) fun x hx => ?_
  simp only [List.mem_cons, List.not_mem_nil, or_false] at hx
  rcases hx with rfl | rfl | rfl | rfl | rfl | rfl | rfl | rfl | rfl | rfl
  · exact (Rp.str (by decide) (by decide +kernel)).mono (by decide) (by decide)
  · exact (Rp.word h.g (by decide)).mono (by decide) (by decide)
  · exact (Rp.int h.p0 f.p).mono (by decide) (by decide)
  · exact (Rp.int (by have := h.l0; omega) f.pl).mono (by decide) (by decide)
  · exact (Rp.int h.a0 f.a).mono (by decide) (by decide)
  · exact (Rp.int h.s0 f.s).mono (by decide) (by decide)
  · exact (Rp.int h.m0 f.m).mono (by decide) (by decide)
  · exact rp_dd h.d
  · exact (Rp.int h.t0 f.st).mono (by decide) (by decide)
  · exact (Rp.int h.e0 f.se).mono (by decide) (by decide)
theorem rp_ns {ns : List Str} (h : nsOk ns) : ∀ x ∈ DW.sd ns, Rp 0 602 x := fun x hx => by
  obtain ⟨w, hw, rfl⟩ := List.mem_map.mp hx
  exact .word (h.2 w hw) (by decide)
theorem rp_nt {ns : List Str} (h : nsOk ns) : Rp 2 12133 (.tuple (DW.sd ns)) := (Rp.tup (n := 10) (by rw [len_sd]; exact (ns_wl h).1) (rp_ns h)).mono (by decide) (by decide)
theorem rp_nl {ns : List Str} (h : nsOk ns) : Rp 2 12133 (.list (DW.sd ns)) := (Rp.lst (n := 10) (by rw [len_sd]; exact (ns_wl h).1) (rp_ns h)).mono (by decide) (by decide)
theorem rp_ck {c : Ck} (h : c.ok) : Rp 2 12133 c.data := by
  refine (Rp.tup (n := 6) (d := 0) (m := 602) (Nat.le_refl _) fun x hx => ?_).mono (by decide) (by decide)
  simp only [List.mem_cons, List.not_mem_nil, or_false] at hx
  rcases hx with rfl | rfl | rfl | rfl | rfl | rfl
  · exact .cnt h.a
  · exact .cnt h.b
  · exact .word h.k (by decide)
  · exact .cnt h.d
  · exact .cnt h.e
  · exact .cnt h.f
theorem Rp.up {x : PyData} (h : Rp 0 602 x) : Rp 2 12133 x := h.mono (by decide) (by decide)
theorem rp_parts {t : Told} (ok : t.ok) : ∀ x ∈ t.parts, Rp 2 12133 x := fun x hx => by
  cases t with
  | member a k =>
    simp only [Told.parts, List.mem_cons, List.not_mem_nil, or_false] at hx
    rcases hx with rfl | rfl
    · exact (Rp.word ok.1 (by decide)).up
    · exact (Rp.word ok.2 (by decide)).up
  | opn a b ns c =>
    obtain ⟨k1, k2, k3, k4⟩ := ok
    simp only [Told.parts, List.mem_cons, List.not_mem_nil, or_false] at hx
    rcases hx with rfl | rfl | rfl | rfl
    · exact (Rp.word k1 (by decide)).up
    · exact (Rp.word k2 (by decide)).up
    · exact rp_nt k3
    · exact rp_ck k4
  | hear l =>
    simp only [Told.parts, List.mem_cons, List.not_mem_nil, or_false] at hx
    rw [hx]; exact rp_lt ok.1 ok.2.fit
  | tick n =>
    simp only [Told.parts, List.mem_cons, List.not_mem_nil, or_false] at hx
    rw [hx]; exact (Rp.int (by have := ok.1; omega) (by have := ok.1; have := ok.2; omega)).up
  | claim l m =>
    simp only [Told.parts, List.mem_cons, List.not_mem_nil, or_false] at hx
    rcases hx with rfl | rfl
    · exact rp_lt ok.1.1 ok.1.2.fit
    · exact rp_lt ok.2.1 ok.2.2.fit
  | cup a ns n b c =>
    obtain ⟨k1, k3, k5, k2, k4⟩ := ok
    simp only [Told.parts, List.mem_cons, List.not_mem_nil, or_false] at hx
    rcases hx with rfl | rfl | rfl | rfl | rfl
    · exact (Rp.word k1 (by decide)).up
    · exact rp_nt k3
    · exact (Rp.cnt k5).up
    · exact (Rp.word k2 (by decide)).up
    · exact rp_ck k4
  | day => cases hx
  | round a =>
    simp only [Told.parts, List.mem_cons, List.not_mem_nil, or_false] at hx
    rw [hx]; exact (Rp.word (show DW.wordOk 8 a = true from ok) (by decide)).up
theorem rp_w (t : Told) : Rp 0 602 (.str t.word) := .str (by cases t <;> (simp only [Told.word]; decide)) (fit_str (fit_w t)).2
theorem Rp.seq {xs : List PyData} (h : Rp 3 72813 (.tuple xs)) : reprOk (.tuple xs) := by
  refine ⟨rfl, h.lay, h.shw, Nat.le_trans h.dep (by decide), ?_⟩
  exact Nat.le_trans (shown_le _ h.lay) (Nat.le_trans h.sz (by decide))
theorem repr_told {t : Told} (ok : t.ok) : reprOk t.data := by
  rw [t.data_eq]
  refine Rp.seq (Rp.tup (n := 6) (d := 2) (m := 12133) (by have := told_len t; rw [List.length_cons]; omega) fun x hx => ?_)
  rcases List.mem_cons.mp hx with rfl | hx
  · exact (rp_w t).up
  · exact rp_parts ok x hx
/-- what may be handed in -/
structure Hand (t : Told) (y : PyData) : Prop where
  txt : DW.deedText y = some t.text
  fit : DW.fit y = true
  rep : reprOk y
theorem hand_data {t : Told} (ok : t.ok) : Hand t t.data := ⟨(told_text ok).1, fit_told ok, repr_told ok⟩
theorem hand_opn {a b : Str} {ns : List Str} {c : Ck} (ok : (Told.opn a b ns c).ok) : Hand (.opn a b ns c) (.tuple [.str "open", .str a, .str b, .list (DW.sd ns), c.data]) := by
  have hp := rp_parts ok
  have hf := told_fit ok
  have h3 : nsOk ns := ok.2.2.1
  refine ⟨(told_text ok).2, fit_tupI (by show 5 ≤ 100000; decide) fun x hx => ?_, Rp.seq (Rp.tup (n := 6) (d := 2) (m := 12133) (by show 5 ≤ 6; decide) fun x hx => ?_)⟩
  · simp only [List.mem_cons, List.not_mem_nil, or_false] at hx
    rcases hx with rfl | rfl | rfl | rfl | rfl
    · exact fit_w (Told.opn a b ns c)
    · exact hf _ (by simp [Told.parts])
    · exact hf _ (by simp [Told.parts])
    · exact (fit_ns h3 : DW.fit (.tuple (DW.sd ns)) = true)
    · exact hf _ (by simp [Told.parts])
  · simp only [List.mem_cons, List.not_mem_nil, or_false] at hx
    rcases hx with rfl | rfl | rfl | rfl | rfl
    · exact (rp_w (Told.opn a b ns c)).up
    · exact hp _ (by simp [Told.parts])
    · exact hp _ (by simp [Told.parts])
    · exact rp_nl h3
    · exact hp _ (by simp [Told.parts])
theorem hand_cup {a b : Str} {ns : List Str} {n : Int} {c : Ck} (ok : (Told.cup a ns n b c).ok) : Hand (.cup a ns n b c) (.tuple [.str "cup", .str a, .list (DW.sd ns), .int n, .str b, c.data]) := by
  have hp := rp_parts ok
  have hf := told_fit ok
  have h3 : nsOk ns := ok.2.1
  refine ⟨(told_text ok).2, fit_tupI (by show 6 ≤ 100000; decide) fun x hx => ?_, Rp.seq (Rp.tup (n := 6) (d := 2) (m := 12133) (by show 6 ≤ 6; decide) fun x hx => ?_)⟩
  · simp only [List.mem_cons, List.not_mem_nil, or_false] at hx
    rcases hx with rfl | rfl | rfl | rfl | rfl | rfl
    · exact fit_w (Told.cup a ns n b c)
    · exact hf _ (by simp [Told.parts])
    · exact (fit_ns h3 : DW.fit (.tuple (DW.sd ns)) = true)
    · exact hf _ (by simp [Told.parts])
    · exact hf _ (by simp [Told.parts])
    · exact hf _ (by simp [Told.parts])
  · simp only [List.mem_cons, List.not_mem_nil, or_false] at hx
    rcases hx with rfl | rfl | rfl | rfl | rfl | rfl
    · exact (rp_w (Told.cup a ns n b c)).up
    · exact hp _ (by simp [Told.parts])
    · exact rp_nl h3
    · exact hp _ (by simp [Told.parts])
    · exact hp _ (by simp [Told.parts])
    · exact hp _ (by simp [Told.parts])
/-! ### its row fits -/
def sOk (z : Str) : Prop := z.length ≤ 60 ∧ PyData.strOk z = true
theorem sOk_word {m : Int} {z : Str} (h : DW.wordOk m z = true) (hm : m ≤ 60) : sOk z := ⟨by have := wordOk_len h; omega, word_strOk h⟩
theorem sOk_num {i : Int} (h0 : 0 ≤ i) (h1 : i.natAbs < 10 ^ 60) : sOk (DW.strI i) := by
  refine ⟨DW.strI_len h0 h1, ?_⟩
  obtain ⟨n, rfl⟩ := Int.eq_ofNat_of_zero_le h0
  rw [strOk_iff, DW.strI_tl]
  intro c hc
  have := TL.numL_digits n c hc
  omega
theorem sOk_cnt {i : Int} (h : cntOk i) : sOk (DW.strI i) := sOk_num h.1 (abs60 h.1 h.2)
theorem sOk_dd {d : DW.Dd} (h : d.ok) : ∀ w ∈ d.words, sOk w := fun w hw => by
  cases d with
  | move n =>
    simp only [DW.Dd.words, List.mem_cons, List.not_mem_nil, or_false] at hw
    rcases hw with rfl | rfl
    · exact ⟨by decide, by decide +kernel⟩
    · exact sOk_word (show DW.wordOk 8 _ = true from h) (by decide)
  | give => rw [List.mem_singleton.mp hw]; exact ⟨by decide, by decide +kernel⟩
  | even => rw [List.mem_singleton.mp hw]; exact ⟨by decide, by decide +kernel⟩
theorem sOk_lt {l : DW.Lt} (h : l.ok) (f : LtFit l) : ∀ w ∈ ltWs l, sOk w := fun w hw => by
  simp only [ltWs, DW.Lt.ws, List.mem_append, List.mem_cons, List.not_mem_nil, or_false] at hw
  rcases hw with (((rfl | rfl | rfl | rfl | rfl | rfl) | hw) | rfl) | rfl
  · exact sOk_word h.g (by decide)
  · exact sOk_num h.p0 f.p
  · exact sOk_num (by have := h.l0; omega) f.pl
  · exact sOk_num h.a0 f.a
  · exact sOk_num h.s0 f.s
  · exact sOk_num h.m0 f.m
  · exact sOk_dd h.d w hw
  · exact sOk_num h.t0 f.st
  · exact sOk_num h.e0 f.se
theorem sOk_ck {c : Ck} (h : c.ok) : ∀ w ∈ c.ws, sOk w := fun w hw => by
  simp only [Ck.ws, List.mem_cons, List.not_mem_nil, or_false] at hw
  rcases hw with rfl | rfl | rfl | rfl | rfl | rfl
  · exact sOk_cnt h.a
  · exact sOk_cnt h.b
  · exact sOk_word h.k (by decide)
  · exact sOk_cnt h.d
  · exact sOk_cnt h.e
  · exact sOk_cnt h.f
theorem lt_count (l : DW.Lt) : (ltWs l).length ≤ 10 := by
  unfold ltWs
  rw [List.length_append]
  have := ws_count l
  simp only [List.length_cons, List.length_nil]
  omega
theorem words_sOk {t : Told} (ok : t.ok) : t.words.length ≤ 24 ∧ ∀ w ∈ t.words, sOk w := by
  have lit : ∀ w ∈ ([("member" : Str), "open", "hear", "tick", "claim", "/", "cup", "day", "round"] : List Str), sOk w := by
    intro w hw
    simp only [List.mem_cons, List.not_mem_nil, or_false] at hw
    rcases hw with rfl | rfl | rfl | rfl | rfl | rfl | rfl | rfl | rfl <;> exact ⟨by decide, by decide +kernel⟩
  cases t with
  | member a k =>
    refine ⟨by show 3 ≤ 24; decide, fun w hw => ?_⟩
    simp only [Told.words, List.mem_cons, List.not_mem_nil, or_false] at hw
    rcases hw with rfl | rfl | rfl
    · exact lit _ (by simp)
    · exact sOk_word ok.1 (by decide)
    · exact sOk_word ok.2 (by decide)
  | opn a b ns c =>
    obtain ⟨k1, k2, k3, k4⟩ := ok
    refine ⟨by have := (ns_wl k3).1; simp only [Told.words, Ck.ws, List.length_append, List.length_cons, List.length_nil]; omega, fun w hw => ?_⟩
    simp only [Told.words, List.mem_append, List.mem_cons, List.not_mem_nil, or_false] at hw
    rcases hw with ((rfl | rfl | rfl) | hw) | hw
    · exact lit _ (by simp)
    · exact sOk_word k1 (by decide)
    · exact sOk_word k2 (by decide)
    · exact sOk_word (k3.2 w hw) (by decide)
    · exact sOk_ck k4 w hw
  | hear l =>
    refine ⟨by have := lt_count l; show (ltWs l).length + 1 ≤ 24; omega, fun w hw => ?_⟩
    rcases List.mem_cons.mp (show w ∈ ("hear" : Str) :: ltWs l from hw) with rfl | hw
    · exact lit _ (by simp)
    · exact sOk_lt ok.1 ok.2.fit w hw
  | tick n =>
    refine ⟨by show 2 ≤ 24; decide, fun w hw => ?_⟩
    simp only [Told.words, List.mem_cons, List.not_mem_nil, or_false] at hw
    rcases hw with rfl | rfl
    · exact lit _ (by simp)
    · exact sOk_num (by have := ok.1; omega) (by have := ok.1; have := ok.2; omega)
  | claim l m =>
    refine ⟨by have := lt_count l; have := lt_count m; simp only [Told.words, List.length_append, List.length_cons]; omega, fun w hw => ?_⟩
    rcases List.mem_cons.mp (show w ∈ ("claim" : Str) :: (ltWs l ++ ("/" : Str) :: ltWs m) from hw) with rfl | hw
    · exact lit _ (by simp)
    · rcases List.mem_append.mp hw with hw | hw
      · exact sOk_lt ok.1.1 ok.1.2.fit w hw
      · rcases List.mem_cons.mp hw with rfl | hw
        · exact lit _ (by simp)
        · exact sOk_lt ok.2.1 ok.2.2.fit w hw
  | cup a ns n b c =>
    obtain ⟨k1, k3, k5, k2, k4⟩ := ok
    refine ⟨by have := (ns_wl k3).1; simp only [Told.words, Ck.ws, List.length_append, List.length_cons, List.length_nil]; omega, fun w hw => ?_⟩
    simp only [Told.words, List.mem_append, List.mem_cons, List.not_mem_nil, or_false] at hw
    rcases hw with ((rfl | rfl | rfl | rfl) | hw) | hw
    · exact lit _ (by simp)
    · exact sOk_word k1 (by decide)
    · exact sOk_cnt k5
    · exact sOk_word k2 (by decide)
    · exact sOk_ck k4 w hw
    · exact sOk_word (k3.2 w hw) (by decide)
  | day =>
    refine ⟨by show 1 ≤ 24; decide, fun w hw => ?_⟩
    rw [List.mem_singleton.mp (show w ∈ (["day"] : List Str) from hw)]
    exact lit _ (by simp)
  | round a =>
    refine ⟨by show 2 ≤ 24; decide, fun w hw => ?_⟩
    simp only [Told.words, List.mem_cons, List.not_mem_nil, or_false] at hw
    rcases hw with rfl | rfl
    · exact lit _ (by simp)
    · exact sOk_word (show DW.wordOk 8 _ = true from ok) (by decide)
theorem text_fit {t : Told} (ok : t.ok) : t.text.length ≤ 79000 ∧ PyData.strOk t.text = true := by
  obtain ⟨h1, h2⟩ := words_sOk ok
  have h3 := join_len_le " " (n := 60) (l := t.words) fun x hx => (h2 x hx).1
  have e : (" " : Str).length = 1 := by decide
  rw [e] at h3
  have h4 := Nat.mul_le_mul_right 61 h1
  have h5 := sum_le (n := 60) (l := t.words) fun x hx => (h2 x hx).1
  refine ⟨by show (Txt.join " " t.words).length ≤ 79000; omega, join_ok ⟨?_, fun x hx => (h2 x hx).2⟩⟩
  unfold wsz
  omega

section
variable {P : Program} {w : World} {K : PySem.W.Frag} {mg : Str → Option Value} {base : Heap}
end
end K87
set_option Elab.async false
set_option linter.all false
set_option maxRecDepth 100000
set_option maxHeartbeats 4000000
namespace K87
open PySem PySem.Spec PyProof.Rows L2 PD
/-! what is read of a row -/
def nsR (ns : List Str) : Prop := ∀ w ∈ ns, DW.wordOk 8 w = true
def Rd : Told → Prop
  | .member a k => DW.wordOk 8 a = true ∧ DW.wordOk 20 k = true
  | .opn a b ns c => DW.wordOk 8 a = true ∧ DW.wordOk 8 b = true ∧ nsR ns ∧ c.ok
  | .hear l => DW.LtR l
  | .tick n => cntOk n
  | .claim l m => DW.LtR l ∧ DW.LtR m
  | .cup a ns n b c => DW.wordOk 8 a = true ∧ nsR ns ∧ cntOk n ∧ DW.wordOk 8 b = true ∧ c.ok
  | .day => True
  | .round a => DW.wordOk 8 a = true
theorem readClock_inv {ws : List Str} {d : PyData} (h : DW.readClock ws = some d) : ∃ c : Ck, c.ok ∧ d = c.data ∧ ws = c.ws := by
  unfold DW.readClock at h
  split at h
  · rename_i a b k p q r
    obtain ⟨ys, e, rfl⟩ := Option.map_eq_some_iff.mp h
    obtain ⟨y1, r1, rfl, e1, e⟩ := DW.allO_cons e
    obtain ⟨y2, r2, rfl, e2, e⟩ := DW.allO_cons e
    obtain ⟨y3, r3, rfl, e3, e⟩ := DW.allO_cons e
    obtain ⟨y4, r4, rfl, e4, e⟩ := DW.allO_cons e
    obtain ⟨y5, r5, rfl, e5, e⟩ := DW.allO_cons e
    obtain ⟨y6, r6, rfl, e6, e⟩ := DW.allO_cons e
    obtain rfl := DW.allO_nil e
    obtain ⟨i1, rfl, n1⟩ := DW.readNum_inv e1
    obtain ⟨i2, rfl, n2⟩ := DW.readNum_inv e2
    obtain ⟨rfl, n3⟩ := DW.readName_inv e3
    obtain ⟨i4, rfl, n4⟩ := DW.readNum_inv e4
    obtain ⟨i5, rfl, n5⟩ := DW.readNum_inv e5
    obtain ⟨i6, rfl, n6⟩ := DW.readNum_inv e6
    refine ⟨⟨i1, i2, k, i4, i5, i6⟩, ⟨⟨n1.lo, n1.hi⟩, ⟨n2.lo, n2.hi⟩, n3, ⟨n4.lo, n4.hi⟩, ⟨n5.lo, n5.hi⟩, ⟨n6.lo, n6.hi⟩⟩, rfl, ?_⟩
    show _ = [DW.strI i1, DW.strI i2, k, DW.strI i4, DW.strI i5, DW.strI i6]
    rw [n1.tx, n2.tx, n4.tx, n5.tx, n6.tx]
  · cases h
theorem at_split {ws : List Str} {k : Nat} {x : Str} (h : ws[k]? = some x) : ws = ws.take k ++ x :: ws.drop (k + 1) := by
  obtain ⟨hk, e⟩ := List.getElem?_eq_some_iff.mp h
  conv => lhs; rw [← List.take_append_drop k ws, List.drop_eq_getElem_cons hk, e]
theorem two_six {α : Type} {l : List α} (h : 8 ≤ l.length) : ∃ a b mid six, l = ([a, b] : List α) ++ mid ++ six ∧ six.length = 6 := by
  have e1 : l = l.take 2 ++ (l.drop 2).take (l.length - 8) ++ (l.drop 2).drop (l.length - 8) := by
    rw [List.append_assoc, List.take_append_drop, List.take_append_drop]
  have l1 : (l.take 2).length = 2 := by rw [List.length_take]; omega
  have l2 : ((l.drop 2).drop (l.length - 8)).length = 6 := by rw [List.length_drop, List.length_drop]; omega
  generalize l.take 2 = x at *
  match x, l1 with
  | [a, b], _ => exact ⟨a, b, _, _, e1, l2⟩
theorem nine {l : List Str} (h : 9 ≤ l.length) : ∃ a n b six ns, l = ([a, n, b] : List Str) ++ six ++ ns ∧ six.length = 6 := by
  have e1 : l = l.take 3 ++ (l.drop 3).take 6 ++ (l.drop 3).drop 6 := by
    rw [List.append_assoc, List.take_append_drop, List.take_append_drop]
  have l1 : (l.take 3).length = 3 := by rw [List.length_take]; omega
  have l2 : ((l.drop 3).take 6).length = 6 := by rw [List.length_take, List.length_drop]; omega
  generalize l.take 3 = x at *
  match x, l1 with
  | [a, n, b], _ => exact ⟨a, n, b, _, _, e1, l2⟩
theorem cut_cup (a n b : Str) (six ns : List Str) (h : six.length = 6) : PD.cut (([a, n, b] : List Str) ++ six ++ ns) (some 9) none = ns ∧ PD.cut (([a, n, b] : List Str) ++ six ++ ns) (some 3) (some 9) = six := by
  have hl : (([a, n, b] : List Str) ++ six ++ ns).length = 9 + ns.length := by simp only [List.length_append, h]; rfl
  have l9 : (([a, n, b] : List Str) ++ six).length = 9 := by simp only [List.length_append, h]; rfl
  refine ⟨(cut_from _ 9).trans ?_, ?_⟩
  · rw [← l9, List.drop_left]
  · unfold PD.cut
    have q1 : HT.sIx (([a, n, b] : List Str) ++ six ++ ns).length 0 (some 3) = 3 := by
      refine (HT.sIx_nat _ _ 3).trans ?_
      rw [hl]; omega
    have q2 : HT.sIx (([a, n, b] : List Str) ++ six ++ ns).length (([a, n, b] : List Str) ++ six ++ ns).length (some 9) = 9 := by
      refine (HT.sIx_nat _ _ 9).trans ?_
      rw [hl]; omega
    rw [q1, q2, List.append_assoc]
    show (six ++ ns).take 6 = six
    rw [← h, List.take_left]
theorem read_words {w : Str} {ws : List Str} {d : PyData} (free : ∀ x ∈ ws, 32 ∉ TL.tl x) (h : DW.readWords w ws = some d) : ∃ t : Told, Rd t ∧ d = t.data ∧ w :: ws = t.words := by
  unfold DW.readWords at h
  split at h
  · rename_i b
    have ew := eq_of_beq b
    subst ew
    unfold DW.readOpen at h
    split at h
    · cases h
    · rename_i hl
      obtain ⟨a, b2, ns, six, e, l6⟩ := two_six (l := ws) (by omega)
      obtain ⟨ys, rfl, q⟩ := DW.tupO_inv h
      obtain ⟨y1, r1, rfl, e1, q⟩ := DW.allO_cons q
      obtain ⟨y2, r2, rfl, e2, q⟩ := DW.allO_cons q
      obtain ⟨y3, r3, rfl, e3, q⟩ := DW.allO_cons q
      obtain ⟨y4, r4, rfl, e4, q⟩ := DW.allO_cons q
      obtain rfl := DW.allO_nil q
      subst e
      have f1 : PD.cut ([a, b2] ++ ns ++ six) (some 2) (some (-6)) = ns := cut_ab [a, b2] ns six (i := 2) (j := 6) rfl l6 (by decide)
      have f2 : PD.cut ([a, b2] ++ ns ++ six) (some (-6)) none = six := cut_b ([a, b2] ++ ns) six (j := 6) l6 (by decide)
      rw [f1] at e3
      rw [f2] at e4
      obtain ⟨rfl, k1⟩ := DW.readName_inv e1
      obtain ⟨rfl, k2⟩ := DW.readName_inv e2
      obtain ⟨rfl, k3⟩ := DW.readNames_inv e3
      obtain ⟨c, k4, rfl, rfl⟩ := readClock_inv e4
      exact ⟨.opn a b2 ns c, ⟨k1, k2, k3, k4⟩, rfl, rfl⟩
  split at h
  · rename_i b
    have ew := eq_of_beq b
    subst ew
    unfold DW.readCup at h
    split at h
    · cases h
    · rename_i hl
      obtain ⟨a, n, b2, six, ns, e, l6⟩ := nine (l := ws) (by omega)
      obtain ⟨ys, rfl, q⟩ := DW.tupO_inv h
      obtain ⟨y1, r1, rfl, e1, q⟩ := DW.allO_cons q
      obtain ⟨y2, r2, rfl, e2, q⟩ := DW.allO_cons q
      obtain ⟨y3, r3, rfl, e3, q⟩ := DW.allO_cons q
      obtain ⟨y4, r4, rfl, e4, q⟩ := DW.allO_cons q
      obtain ⟨y5, r5, rfl, e5, q⟩ := DW.allO_cons q
      obtain rfl := DW.allO_nil q
      subst e
      obtain ⟨f1, f2⟩ := cut_cup a n b2 six ns l6
      rw [f1] at e2
      rw [f2] at e5
      obtain ⟨rfl, k1⟩ := DW.readName_inv e1
      obtain ⟨rfl, k2⟩ := DW.readNames_inv e2
      obtain ⟨i, rfl, k3⟩ := DW.readNum_inv e3
      obtain ⟨rfl, k4⟩ := DW.readName_inv e4
      obtain ⟨c, k5, rfl, rfl⟩ := readClock_inv e5
      refine ⟨.cup a ns i b2 c, ⟨k1, k2, ⟨k3.lo, k3.hi⟩, k4, k5⟩, rfl, ?_⟩
      show _ = (["cup", a, DW.strI i, b2] : List Str) ++ c.ws ++ ns
      rw [show DW.strI i = n from k3.tx]
      rfl
  split at h
  · rename_i b
    have ew := eq_of_beq b
    subst ew
    unfold DW.readClaim at h
    split at h
    · cases h
    · rename_i k ek
      obtain ⟨ys, rfl, q⟩ := DW.tupO_inv h
      obtain ⟨y1, r1, rfl, e1, q⟩ := DW.allO_cons q
      obtain ⟨y2, r2, rfl, e2, q⟩ := DW.allO_cons q
      obtain rfl := DW.allO_nil q
      obtain ⟨l, k1, rfl, f1⟩ := DW.readLetter_inv (fun x hx => free x (List.mem_of_mem_take hx)) e1
      obtain ⟨m, k2, rfl, f2⟩ := DW.readLetter_inv (fun x hx => free x (List.mem_of_mem_drop hx)) e2
      refine ⟨.claim l m, ⟨k1, k2⟩, rfl, ?_⟩
      have s := at_split (idx_spec ek).1
      rw [← f1, ← f2] at s
      show _ = ("claim" : Str) :: (ltWs l ++ ("/" : Str) :: ltWs m)
      conv => lhs; rw [s]
      rfl
  split at h
  · rename_i b
    have ew := eq_of_beq b
    subst ew
    obtain ⟨ys, rfl, q⟩ := DW.tupO_inv h
    obtain ⟨y1, r1, rfl, e1, q⟩ := DW.allO_cons q
    obtain rfl := DW.allO_nil q
    obtain ⟨l, k1, rfl, f1⟩ := DW.readLetter_inv free e1
    refine ⟨.hear l, k1, rfl, ?_⟩
    rw [← f1]
    rfl
  split at h
  · rename_i b
    have ew := eq_of_beq b
    subst ew
    split at h
    · rename_i c
      obtain ⟨c1, c2⟩ := c
      match ws, c1 with
      | [a, k], _ =>
      obtain ⟨ys, rfl, q⟩ := DW.tupO_inv h
      obtain ⟨y1, r1, rfl, e1, q⟩ := DW.allO_cons q
      obtain ⟨y2, r2, rfl, e2, q⟩ := DW.allO_cons q
      obtain rfl := DW.allO_nil q
      obtain ⟨rfl, k1⟩ := DW.readName_inv e1
      cases e2
      exact ⟨.member a k, ⟨k1, c2⟩, rfl, rfl⟩
    · cases h
  split at h
  · rename_i b
    have ew := eq_of_beq b
    subst ew
    split at h
    · rename_i c
      match ws, c with
      | [a], _ =>
      obtain ⟨ys, rfl, q⟩ := DW.tupO_inv h
      obtain ⟨y1, r1, rfl, e1, q⟩ := DW.allO_cons q
      obtain rfl := DW.allO_nil q
      obtain ⟨i, rfl, k⟩ := DW.readNum_inv e1
      refine ⟨.tick i, ⟨k.lo, k.hi⟩, rfl, ?_⟩
      show _ = (["tick", DW.strI i] : List Str)
      rw [show DW.strI i = a from k.tx]
    · cases h
  split at h
  · rename_i b
    have ew := eq_of_beq b
    subst ew
    split at h
    · rename_i c
      have c := List.length_eq_zero_iff.mp c
      subst c
      cases h
      exact ⟨.day, trivial, rfl, rfl⟩
    · cases h
  split at h
  · rename_i b
    have ew := eq_of_beq b
    subst ew
    split at h
    · rename_i c
      match ws, c with
      | [a], _ =>
      obtain ⟨ys, rfl, q⟩ := DW.tupO_inv h
      obtain ⟨y1, r1, rfl, e1, q⟩ := DW.allO_cons q
      obtain rfl := DW.allO_nil q
      obtain ⟨rfl, k1⟩ := DW.readName_inv e1
      exact ⟨.round a, k1, rfl, rfl⟩
    · cases h
  · cases h
theorem sp_eq : (" " : Str) = ⟨#[32]⟩ := by decide +kernel
theorem split_sp (z : Str) : ∀ w ∈ Txt.split z " ", 32 ∉ TL.tl w := by
  rw [sp_eq]
  exact StrLaws.split_free z 32
theorem read_told {z : Str} {d : PyData} (h : DW.readDeed (.str z) = some d) : ∃ t : Told, Rd t ∧ d = t.data ∧ Txt.split z " " = t.words := by
  have h : (match Txt.split z " " with | w :: ws => DW.readWords w ws | [] => none) = some d := h
  have free := split_sp z
  cases e : Txt.split z " " with
  | nil => rw [e] at h; cases h
  | cons w ws =>
    rw [e] at h free
    exact read_words (fun x hx => free x (List.mem_cons_of_mem _ hx)) h
theorem text_back {z : Str} {t : Told} (h : Txt.split z " " = t.words) : z = t.text := by
  unfold Told.text
  rw [← h, TL.join_eq]
  exact (StrLaws.join_split z " ").symm
/-- names that can be written -/
def fewNs : Told → Prop
  | .opn _ _ ns _ => ns.length ≤ 100
  | .cup _ ns _ _ _ => ns.length ≤ 100
  | _ => True
def tickOk : Told → Prop
  | .tick n => 1 ≤ n ∧ n ≤ 10000
  | _ => True
theorem rd_text {t : Told} (rd : Rd t) (few : fewNs t) (tk : tickOk t) : DW.deedText t.data = some t.text := by
  cases t with
  | member a k =>
    rw [show (Told.member a k).data = .tuple [.str "member", .str a, .str k] from rfl, t_member, DW.nameIn_ok rd.1, DW.keyIn_ok rd.2]
    rfl
  | opn a b ns c =>
    obtain ⟨k1, k2, k3, k4⟩ := rd
    rw [show (Told.opn a b ns c).data = .tuple [.str "open", .str a, .str b, .tuple (DW.sd ns), c.data] from rfl, t_open, DW.nameIn_ok k1, DW.nameIn_ok k2, DW.namesIn_tup few k3, clockIn_ok k4]
    show some (Txt.join " " ((["open"] : List Str) ++ ([a] ++ ([b] ++ (ns ++ (c.ws ++ [])))))) = _
    unfold Told.text Told.words
    simp only [List.append_nil, List.cons_append, List.nil_append]
  | hear l =>
    rw [show (Told.hear l).data = .tuple [.str "hear", l.data] from rfl, t_hear, letterIn_ok rd.ok]
    rfl
  | tick n =>
    have tk : 1 ≤ n ∧ n ≤ 10000 := tk
    rw [show (Told.tick n).data = .tuple [.str "tick", .int n] from rfl, t_tick, if_pos (DW.isNum_of tk.1 fun j e => by cases e; exact tk.2), DW.numW_ok (by omega)]
    rfl
  | claim l m =>
    rw [show (Told.claim l m).data = .tuple [.str "claim", l.data, m.data] from rfl, t_claim, letterIn_ok rd.1.ok, letterIn_ok rd.2.ok]
    show some (Txt.join " " ("claim" :: (ltWs l ++ ((["/"] : List Str) ++ (ltWs m ++ []))))) = _
    rw [List.append_nil]
    rfl
  | cup a ns n b c =>
    obtain ⟨k1, k3, k5, k2, k4⟩ := rd
    rw [show (Told.cup a ns n b c).data = .tuple [.str "cup", .str a, .tuple (DW.sd ns), .int n, .str b, c.data] from rfl, t_cup, DW.nameIn_ok k1, DW.numW_ok k5.1, DW.nameIn_ok k2, clockIn_ok k4, DW.namesIn_tup few k3]
    show some (Txt.join " " ((["cup"] : List Str) ++ ([a] ++ ([DW.strI n] ++ ([b] ++ (c.ws ++ (ns ++ []))))))) = _
    unfold Told.text Told.words
    simp only [List.append_nil, List.cons_append, List.nil_append]
  | day => rfl
  | round a =>
    rw [show (Told.round a).data = .tuple [.str "round", .str a] from rfl, t_round, DW.nameIn_ok rd]
    rfl

section
variable {P : Program} {w : World} {K : PySem.W.Frag} {mg : Str → Option Value} {base : Heap}
end
end K87
set_option Elab.async false
set_option linter.all false
set_option maxRecDepth 100000
set_option maxHeartbeats 4000000
namespace K87
open PySem PySem.Spec PyProof.Rows L2 PD
theorem ltR_fit {l : DW.Lt} (h : DW.LtR l) : LtFit l := by
  have m := m30_eq
  obtain ⟨ok, hs, ht⟩ := h
  obtain ⟨k1, k2, k3, k4, k5, k6, k7, k8, k9, k10, k11, k12, k13, k14⟩ := ok
  exact ⟨by omega, by omega, by omega, by omega, by omega, by omega, by omega⟩
def nsOf : Told → List Str
  | .opn _ _ ns _ => ns
  | .cup _ ns _ _ _ => ns
  | _ => []
theorem fit_nsR {ns : List Str} (h : nsR ns) (hl : ns.length ≤ 1000) : DW.fit (.tuple (DW.sd ns)) = true := fit_tupI (by rw [len_sd]; omega) fun x hx => by
  obtain ⟨w, hw, rfl⟩ := List.mem_map.mp hx
  exact fit_word (h w hw) (by decide)
theorem rd_fit {t : Told} (rd : Rd t) (hl : (nsOf t).length ≤ 1000) : ∀ x ∈ t.parts, DW.fit x = true := fun x hx => by
  cases t with
  | member a k =>
    simp only [Told.parts, List.mem_cons, List.not_mem_nil, or_false] at hx
    rcases hx with rfl | rfl
    · exact fit_word rd.1 (by decide)
    · exact fit_word rd.2 (by decide)
  | opn a b ns c =>
    obtain ⟨k1, k2, k3, k4⟩ := rd
    simp only [Told.parts, List.mem_cons, List.not_mem_nil, or_false] at hx
    rcases hx with rfl | rfl | rfl | rfl
    · exact fit_word k1 (by decide)
    · exact fit_word k2 (by decide)
    · exact fit_nsR k3 hl
    · exact fit_ckd k4
  | hear l =>
    simp only [Told.parts, List.mem_cons, List.not_mem_nil, or_false] at hx
    rw [hx]; exact fit_lt rd.ok (ltR_fit rd)
  | tick n =>
    simp only [Told.parts, List.mem_cons, List.not_mem_nil, or_false] at hx
    rw [hx]; exact fit_cnt (abs60 rd.1 rd.2)
  | claim l m =>
    simp only [Told.parts, List.mem_cons, List.not_mem_nil, or_false] at hx
    rcases hx with rfl | rfl
    · exact fit_lt rd.1.ok (ltR_fit rd.1)
    · exact fit_lt rd.2.ok (ltR_fit rd.2)
  | cup a ns n b c =>
    obtain ⟨k1, k3, k5, k2, k4⟩ := rd
    simp only [Told.parts, List.mem_cons, List.not_mem_nil, or_false] at hx
    rcases hx with rfl | rfl | rfl | rfl | rfl
    · exact fit_word k1 (by decide)
    · exact fit_nsR k3 hl
    · exact fit_cnt (abs60 k5.1 k5.2)
    · exact fit_word k2 (by decide)
    · exact fit_ckd k4
  | day => cases hx
  | round a =>
    simp only [Told.parts, List.mem_cons, List.not_mem_nil, or_false] at hx
    rw [hx]; exact fit_word (show DW.wordOk 8 a = true from rd) (by decide)
theorem rd_fits {t : Told} (rd : Rd t) (hl : (nsOf t).length ≤ 1000) : DW.fit t.data = true := by
  rw [t.data_eq]
  refine fit_tupI (by rw [List.length_cons]; have := told_len t; omega) fun x hx => ?_
  rcases List.mem_cons.mp hx with rfl | hx
  · exact fit_w t
  · exact rd_fit rd hl x hx
theorem Rp.big {d m : Nat} {x : PyData} (h : Rp d m x) (hd : d ≤ 2) (hm : m ≤ 700000) : Rp 2 700000 x := h.mono hd hm
theorem rp_nsR {ns : List Str} (h : nsR ns) (hl : ns.length ≤ 1000) : Rp 2 700000 (.tuple (DW.sd ns)) := (Rp.tup (n := 1000) (d := 0) (m := 602) (by rw [len_sd]; exact hl) fun x hx => by
  obtain ⟨w, hw, rfl⟩ := List.mem_map.mp hx
  exact .word (h w hw) (by decide)).big (by decide) (by decide)
theorem rd_rp {t : Told} (rd : Rd t) (hl : (nsOf t).length ≤ 1000) : ∀ x ∈ t.parts, Rp 2 700000 x := fun x hx => by
  have up : ∀ {y : PyData}, Rp 0 602 y → Rp 2 700000 y := fun h => h.big (by decide) (by decide)
  cases t with
  | member a k =>
    simp only [Told.parts, List.mem_cons, List.not_mem_nil, or_false] at hx
    rcases hx with rfl | rfl
    · exact up (Rp.word rd.1 (by decide))
    · exact up (Rp.word rd.2 (by decide))
  | opn a b ns c =>
    obtain ⟨k1, k2, k3, k4⟩ := rd
    simp only [Told.parts, List.mem_cons, List.not_mem_nil, or_false] at hx
    rcases hx with rfl | rfl | rfl | rfl
    · exact up (Rp.word k1 (by decide))
    · exact up (Rp.word k2 (by decide))
    · exact rp_nsR k3 hl
    · exact (rp_ck k4).big (by decide) (by decide)
  | hear l =>
    simp only [Told.parts, List.mem_cons, List.not_mem_nil, or_false] at hx
    rw [hx]; exact (rp_lt rd.ok (ltR_fit rd)).big (by decide) (by decide)
  | tick n =>
    simp only [Told.parts, List.mem_cons, List.not_mem_nil, or_false] at hx
    rw [hx]; exact up (Rp.cnt rd)
  | claim l m =>
    simp only [Told.parts, List.mem_cons, List.not_mem_nil, or_false] at hx
    rcases hx with rfl | rfl
    · exact (rp_lt rd.1.ok (ltR_fit rd.1)).big (by decide) (by decide)
    · exact (rp_lt rd.2.ok (ltR_fit rd.2)).big (by decide) (by decide)
  | cup a ns n b c =>
    obtain ⟨k1, k3, k5, k2, k4⟩ := rd
    simp only [Told.parts, List.mem_cons, List.not_mem_nil, or_false] at hx
    rcases hx with rfl | rfl | rfl | rfl | rfl
    · exact up (Rp.word k1 (by decide))
    · exact rp_nsR k3 hl
    · exact up (Rp.cnt k5)
    · exact up (Rp.word k2 (by decide))
    · exact (rp_ck k4).big (by decide) (by decide)
  | day => cases hx
  | round a =>
    simp only [Told.parts, List.mem_cons, List.not_mem_nil, or_false] at hx
    rw [hx]; exact up (Rp.word (show DW.wordOk 8 a = true from rd) (by decide))
theorem rd_repr {t : Told} (rd : Rd t) (hl : (nsOf t).length ≤ 1000) : reprOk t.data := by
  rw [t.data_eq]
  have h : Rp 3 4200015 (.tuple (.str t.word :: t.parts)) := Rp.tup (n := 6) (d := 2) (m := 700000) (by have := told_len t; rw [List.length_cons]; omega) fun x hx => by
    rcases List.mem_cons.mp hx with rfl | hx
    · exact (rp_w t).big (by decide) (by decide)
    · exact rd_rp rd hl x hx
  refine ⟨rfl, h.lay, h.shw, Nat.le_trans h.dep (by decide), ?_⟩
  exact Nat.le_trans (shown_le _ h.lay) (Nat.le_trans h.sz (by decide))
/-! ### rows and their words -/
def W (z : Str) : Nat := (Txt.split z " ").length
theorem spl_count : ∀ (l acc : List Nat), (TL.spl [32] 0 acc l).length = l.count 32 + 1
  | [], acc => by rw [TL.spl_nil]; rfl
  | c :: r, acc => by
    by_cases h : c = 32
    · subst h
      rw [TL.spl_hit (by rfl), List.length_cons, List.count_cons_self]
      show (TL.spl [32] 0 [] r).length + 1 = _
      rw [spl_count r]
    · rw [TL.spl_miss (TL.pre_of_head [] r h), spl_count r, List.count_cons_of_ne h]
theorem W_eq (z : Str) : W z = (TL.tl z).count 32 + 1 := by
  have h := congrArg List.length (TL.split_spl z " " (by decide +kernel) (TL.kind_ok (by decide +kernel)))
  rw [List.length_map] at h
  unfold W
  rw [h]
  exact spl_count _ _
theorem join_split' (z : Str) : Txt.join " " (Txt.split z " ") = z := by
  rw [TL.join_eq]
  exact StrLaws.join_split z " "
theorem split_ne (z : Str) : Txt.split z " " ≠ [] := fun e => by
  have := split_pos z " "
  rw [e] at this
  simp at this
def dbl (z : Str) : Str := z ++ " " ++ z
theorem joinL_app (S : List Nat) : ∀ {a b : List (List Nat)}, a ≠ [] → b ≠ [] → TL.joinL S (a ++ b) = TL.joinL S a ++ (S ++ TL.joinL S b)
  | [], _, h, _ => absurd rfl h
  | [x], b, _, hb => by
    obtain ⟨y, r, rfl⟩ := List.exists_cons_of_ne_nil hb
    rfl
  | x :: y :: a, b, _, hb => by
    have ih := joinL_app S (a := y :: a) (b := b) (by simp) hb
    show x ++ (S ++ TL.joinL S ((y :: a) ++ b)) = (x ++ (S ++ TL.joinL S (y :: a))) ++ (S ++ TL.joinL S b)
    rw [ih]
    simp only [List.append_assoc]
theorem split_dbl (z : Str) : Txt.split (dbl z) " " = Txt.split z " " ++ Txt.split z " " := by
  have hne := split_ne z
  have e : dbl z = Txt.join " " (Txt.split z " " ++ Txt.split z " ") := by
    refine TL.ext_tl ?_
    have tz : TL.tl z = TL.joinL (TL.tl " ") ((Txt.split z " ").map TL.tl) := by
      rw [← TL.tl_join, ← TL.join_eq, join_split']
    rw [TL.join_eq, TL.tl_join, List.map_append, joinL_app _ (by simpa using hne) (by simpa using hne), ← tz]
    unfold dbl
    rw [TL.tl_append, TL.tl_append, List.append_assoc]
  rw [e]
  exact DW.split_join (by simp [hne]) fun w hw => by
    rcases List.mem_append.mp hw with hw | hw
    · exact split_sp z w hw
    · exact split_sp z w hw
theorem W_dbl (z : Str) : W (dbl z) = 2 * W z := by
  unfold W
  rw [split_dbl, List.length_append]
  omega
def rep (t : Told) : Nat → Str
  | 0 => t.text
  | k + 1 => dbl (rep t k)
def LL : Nat → Nat
  | 0 => 2000
  | k + 1 => 2 * LL k + 50
def BB : Nat → Nat
  | 0 => 0
  | 1 => 25
  | 2 => 50
  | _ => 100
/-- what became of a row -/
structure Row (k : Nat) (z : Str) : Prop where
  ok : PyData.strOk z = true
  len : z.length ≤ LL k
  w : W z ≤ BB k ∨ ∃ t : Told, t.ok ∧ z = rep t k
structure SpOk (z z' : Str) : Prop where
  ok : PyData.strOk z' = true
  len : z'.length ≤ 2 * z.length + 50
  w : W z' ≤ W z + 1 ∨ z' = dbl z
theorem split_text {t : Told} (ok : t.ok) : Txt.split t.text " " = t.words := DW.split_join (words_ne t) (words_free ok)
theorem W_rep {t : Told} (ok : t.ok) : ∀ k, W (rep t k) = 2 ^ k * t.words.length
  | 0 => by
    show (Txt.split t.text " ").length = _
    rw [split_text ok]
    simp
  | k + 1 => by
    show W (dbl (rep t k)) = _
    rw [W_dbl, W_rep ok k, Nat.pow_succ, Nat.mul_comm (2 ^ k) 2, Nat.mul_assoc]
theorem Row.first {t : Told} (ok : t.ok) : Row 0 t.text := by
  have h := words_sOk ok
  have h3 := join_len_le " " (n := 60) (l := t.words) fun x hx => (h.2 x hx).1
  have e : (" " : Str).length = 1 := by decide
  rw [e] at h3
  have h4 := Nat.mul_le_mul_right 61 h.1
  exact ⟨(text_fit ok).2, by show (Txt.join " " t.words).length ≤ 2000; omega, .inr ⟨t, ok, rfl⟩⟩
theorem Row.next {k : Nat} {z z' : Str} (hk : k < 3) (h : Row k z) (s : SpOk z z') : Row (k + 1) z' := by
  refine ⟨s.ok, ?_, ?_⟩
  · have := s.len
    have := h.len
    show z'.length ≤ 2 * LL k + 50
    omega
  · have hB : W z ≤ BB k → k ≠ 0 := fun e z0 => by
      subst z0
      have e : W z ≤ 0 := e
      rw [W_eq] at e
      omega
    rcases s.w with hw | rfl
    · refine .inl ?_
      rcases h.w with e | ⟨t, ok, rfl⟩
      · have k0 := hB e
        have : k = 1 ∨ k = 2 := by omega
        rcases this with rfl | rfl
        · exact Nat.le_trans hw (Nat.le_trans (Nat.add_le_add_right e 1) (by decide))
        · exact Nat.le_trans hw (Nat.le_trans (Nat.add_le_add_right e 1) (by decide))
      · rw [W_rep ok k] at hw
        have hl := (words_sOk ok).1
        have : k = 0 ∨ k = 1 ∨ k = 2 := by omega
        rcases this with rfl | rfl | rfl
        · show W z' ≤ 25; omega
        · show W z' ≤ 50; omega
        · show W z' ≤ 100; omega
    · rcases h.w with e | ⟨t, ok, rfl⟩
      · refine .inl ?_
        rw [W_dbl]
        have k0 := hB e
        have : k = 1 ∨ k = 2 := by omega
        rcases this with rfl | rfl
        · have e : W z ≤ 25 := e
          show _ ≤ 50; omega
        · have e : W z ≤ 50 := e
          show _ ≤ 100; omega
      · exact .inr ⟨t, ok, rfl⟩
theorem num_notword {i : Int} (h : 0 ≤ i) : DW.wordOk 8 (DW.strI i) = false := by
  obtain ⟨n, rfl⟩ := Int.eq_ofNat_of_zero_le h
  cases q : DW.wordOk 8 (DW.strI (n : Int)) with
  | false => rfl
  | true =>
    exfalso
    simp only [DW.wordOk, Bool.and_eq_true] at q
    have ha := q.2.2
    rw [show (DW.strI (n : Int)).cps.toList = TL.numL n from DW.strI_tl n, List.all_eq_true] at ha
    obtain ⟨c, r, e⟩ := List.exists_cons_of_ne_nil (TL.numL_ne n)
    have hc := TL.numL_digits n c (by rw [e]; exact List.mem_cons_self)
    have h1 := ha c (by rw [e]; exact List.mem_cons_self)
    have k : ∀ j < 10, DW.isLet (48 + j) = false := by decide +kernel
    have h2 := k (c - 48) (by omega)
    rw [show 48 + (c - 48) = c by omega, h1] at h2
    cases h2
theorem Row.few {k : Nat} {z : Str} {t : Told} (hk : k ≤ 3) (h : Row k z) (rd : Rd t) (e : Txt.split z " " = t.words) : (nsOf t).length ≤ 100 := by
  have hl : (nsOf t).length ≤ t.words.length := by
    cases t <;> simp [nsOf, Told.words] <;> omega
  have ew : W z = t.words.length := congrArg List.length e
  rcases h.w with hw | ⟨t0, ok, rfl⟩
  · have : BB k ≤ 100 := by
      have : k = 0 ∨ k = 1 ∨ k = 2 ∨ k = 3 := by omega
      rcases this with rfl | rfl | rfl | rfl <;> decide
    omega
  · have hl0 := (words_sOk ok).1
    rw [W_rep ok k] at ew
    by_cases h3 : k = 3
    · subst h3
      have es : Txt.split (rep t0 3) " " = t0.words ++ (t0.words ++ (t0.words ++ t0.words ++ (t0.words ++ t0.words ++ (t0.words ++ t0.words)))) := by
        show Txt.split (dbl (dbl (dbl t0.text))) " " = _
        rw [split_dbl, split_dbl, split_dbl, split_text ok]
        simp only [List.append_assoc]
      rw [e] at es
      by_cases big : (nsOf t).length ≤ 100
      · exact big
      · exfalso
        generalize (t0.words ++ t0.words ++ (t0.words ++ t0.words ++ (t0.words ++ t0.words))) = rest at es
        cases t with
        | opn a b ns c =>
          have big : ¬ ns.length ≤ 100 := big
          have hw : t0.word = "open" := by
            have := congrArg List.head? es
            cases t0 <;> simp [Told.words] at this <;> first | rfl | (exact absurd this (by decide))
          cases t0 with
          | opn a0 b0 ns0 c0 =>
            have n0 := (ns_wl ok.2.2.1).1
            have l1 : (Told.opn a b ns c).words[3 + ns0.length]? = some ns[ns0.length] := by
              show ((["open", a, b] : List Str) ++ ns ++ c.ws)[3 + ns0.length]? = _
              rw [List.append_assoc, List.getElem?_append_right (by simp), List.getElem?_append_left (by simp; omega)]
              simp
            have l2 : ((Told.opn a0 b0 ns0 c0).words ++ ((Told.opn a0 b0 ns0 c0).words ++ rest))[3 + ns0.length]? = some (DW.strI c0.a) := by
              show (((["open", a0, b0] : List Str) ++ ns0 ++ c0.ws) ++ _)[3 + ns0.length]? = _
              rw [List.append_assoc, List.getElem?_append_right (by simp; omega)]
              have i0 : 3 + ns0.length - ((["open", a0, b0] : List Str) ++ ns0).length = 0 := by simp; omega
              rw [i0]
              rfl
            rw [es, l2] at l1
            have l3 := Option.some.inj l1
            have l4 := rd.2.2.1 _ (List.getElem_mem (by omega : ns0.length < ns.length))
            rw [← l3, num_notword ok.2.2.2.a.1] at l4
            cases l4
          | _ => exact absurd hw (by simp only [Told.word]; decide)
        | cup a ns n b c =>
          have big : ¬ ns.length ≤ 100 := big
          have hw : t0.word = "cup" := by
            have := congrArg List.head? es
            cases t0 <;> simp [Told.words] at this <;> first | rfl | (exact absurd this (by decide))
          cases t0 with
          | cup a0 ns0 n0 b0 c0 =>
            have k0 := (ns_wl ok.2.1).1
            have l1 : (Told.cup a ns n b c).words[10 + (ns0.length + 2)]? = some ns[ns0.length + 2] := by
              show ((["cup", a, DW.strI n, b] : List Str) ++ c.ws ++ ns)[10 + (ns0.length + 2)]? = _
              rw [List.getElem?_append_right (by simp [Ck.ws])]
              simp [Ck.ws]
            have l2 : ((Told.cup a0 ns0 n0 b0 c0).words ++ ((Told.cup a0 ns0 n0 b0 c0).words ++ rest))[10 + (ns0.length + 2)]? = some (DW.strI n0) := by
              rw [List.getElem?_append_right (by simp [Told.words, Ck.ws]; omega)]
              have : 10 + (ns0.length + 2) - (Told.cup a0 ns0 n0 b0 c0).words.length = 2 := by simp [Told.words, Ck.ws]; omega
              rw [this]
              rfl
            rw [es, l2] at l1
            have l3 := Option.some.inj l1
            have l4 := rd.2.1 _ (List.getElem_mem (by omega : ns0.length + 2 < ns.length))
            rw [← l3, num_notword ok.2.2.1.1] at l4
            cases l4
          | _ => exact absurd hw (by simp only [Told.word]; decide)
        | _ => exact big (Nat.zero_le _)
    · have : 2 ^ k ≤ 4 := by
        have : k = 0 ∨ k = 1 ∨ k = 2 := by omega
        rcases this with rfl | rfl | rfl <;> decide
      have := Nat.mul_le_mul this hl0
      omega

section
variable {P : Program} {w : World} {K : PySem.W.Frag} {mg : Str → Option Value} {base : Heap}
end
end K87
set_option Elab.async false
set_option linter.all false
set_option maxRecDepth 100000
set_option maxHeartbeats 4000000
namespace K87
open PySem PySem.Spec PyProof.Rows L2 PD
def signOf : PyData → Nat
  | .str z => z.cps.toList.headD 0
  | _ => 0
/-- a sign that the text has not -/
def offS (S : Str) (d : PyData) : Bool := !(decide (signOf d ∈ S.cps.toList))
theorem filt_chars (S z : Str) : (chars z).filter (offS S) = DW.sd ((z.cps.toList.filter fun c => !(decide (c ∈ S.cps.toList))).map fun c => (⟨#[c]⟩ : Str)) := by
  unfold chars DW.sd
  rw [List.filter_map, List.map_map]
  rfl
theorem filt_shaped {S z : Str} (h : PyData.strOk z = true) : SeqAt.shaped (.list ((chars z).filter (offS S))) = true := by
  rw [filt_chars]
  refine shaped_sd fun x hx => ?_
  obtain ⟨c, hc, rfl⟩ := List.mem_map.mp hx
  have := strOk_iff.mp h c (List.mem_filter.mp hc).1
  rw [strOk_iff]
  intro d hd
  have hd : d ∈ [c] := hd
  rw [List.mem_singleton.mp hd]
  exact this
theorem filt_none (S z : Str) : ((chars z).filter (offS S)).isEmpty = z.cps.toList.all fun c => decide (c ∈ S.cps.toList) := by
  rw [filt_chars]
  unfold DW.sd
  rw [List.isEmpty_map, List.isEmpty_map]
  generalize z.cps.toList = l
  induction l with
  | nil => rfl
  | cons c l ih =>
    by_cases hc : c ∈ S.cps.toList
    · rw [List.filter_cons_of_neg (by simp [hc]), ih, List.all_cons, decide_eq_true hc, Bool.true_and]
    · rw [List.filter_cons_of_pos (by simp [hc]), List.all_cons, decide_eq_false hc, Bool.false_and]
      rfl
theorem eqv_nil (xs : List PyData) : PyData.eqv (.list xs) (.list []) = xs.isEmpty := by
  cases xs <;> simp [PyData.eqv, PyData.eqvAll]
theorem shaped_nil : SeqAt.shaped (.list []) = true := by decide +kernel
theorem sz80 {n : Nat} (h : n ≤ 80000) : n ≤ sizeLine := Nat.le_trans h (by decide)
theorem numIn_off {z : Str} (h : DW.numIn z ≠ none → False) : DW.numIn z = none := by
  cases e : DW.numIn z with
  | none => rfl
  | some n => exact (h (by rw [e]; exact fun q => nomatch q)).elim
theorem all_filt {α : Type} {p : α → Bool} : ∀ {l : List α}, (l.filter fun a => !p a).isEmpty = l.all p
  | [] => rfl
  | a :: l => by
    cases q : p a with
    | true => rw [List.filter_cons_of_neg (by simp [q]), all_filt, List.all_cons, q, Bool.true_and]
    | false => rw [List.filter_cons_of_pos (by simp [q]), List.all_cons, q, Bool.false_and]; rfl
theorem filt_sd (p : Str → Bool) (ws : List Str) (q : PyData → Bool) (h : ∀ w ∈ ws, q (.str w) = p w) : (DW.sd ws).filter q = DW.sd (ws.filter p) := by
  unfold DW.sd
  rw [List.filter_map]
  congr 1
  exact List.filter_congr fun w hw => h w hw
def wordB : PyData → Bool
  | .str w => DW.wordOk 8 w
  | _ => false
theorem readNames_if (ws : List Str) : DW.readNames ws = if ws.all (DW.wordOk 8) then some (.tuple (DW.sd ws)) else none := by
  by_cases h : ws.all (DW.wordOk 8) = true
  · rw [if_pos h]
    unfold DW.readNames
    rw [DW.readNames_ok fun w hw => List.all_eq_true.mp h w hw]
    rfl
  · rw [if_neg h]
    unfold DW.readNames
    rw [allO_none]
    · rfl
    · have h2 : ws.all (DW.wordOk 8) = false := by simpa using h
      obtain ⟨w, hw, e⟩ := List.all_eq_false.mp h2
      refine List.mem_map.mpr ⟨w, hw, ?_⟩
      unfold DW.readName
      exact if_neg e

section
variable {P : Program} {w : World} {K : PySem.W.Frag} {mg : Str → Option Value} {base : Heap}
theorem ok__law_name_is (c : Tx K w mg) : FnOk P w K mg base (L2.CX P w) 1 (He.ga K "_law_name_is") (fdOf K (He.ga K "_law_name_is")) ["_law_word"] (lift K (fun _ xs Q _ => ∃ z : Str, xs = [.d (.str z)] ∧ z.length ≤ 80000 ∧ PyData.strOk z = true ∧ Q (.d (.bool (DW.wordOk 8 z)))) 1) := by
  refine fn_ok c.fd__law_name_is sc__law_name_is rfl fun cdv A outer s I H E R hr => ⟨_, _, (dss_one (ds_ret (de_and (de_chain op_le op_le od_intB od_intB de_int (de_callB call_len (cd_len rfl) (by rfl) c.f_len b_len (da_cons (de_var (pv 0)) da_nil)) de_int) (de_one (de_cmp (op_eqX (hu64 hr)) (nomark _) (od_eq rfl) (de_lc (own := [("_law_sign", 1)]) rfl sc__law_name_is.nd (di_any (de_var (pv 0)) rfl) (blkOk_by (N := ["_law_word", "_law_sign"]) (sc := defScope (top 58)) (by decide +kernel)) (fun _ _ _ _ _ => (dg_name (i := 1) sc__law_name_is.nd rfl (by first | exact .inl rfl | exact .inr rfl))) (fun _ _ _ _ _ => (dts_one (dt_cmp (op_notInX (hu65 hr)) rfl (od_notIn rfl) (de_var (pv 1)) de_str))) (fun _ _ _ _ _ => (de_var (pv 1))) (tgt_name (by decide)) s) (de_lst da_nil)))))), fun xs Qd Ed hl h => ?_⟩
  obtain ⟨z, rfl, hl, ho, h⟩ := h
  have hz := sz80 hl
  refine ⟨hz, ?_⟩
  refine iteG (fun b1 => ?_) fun b1 => qB (Q := Qd) (b := false) h (by simp only [DW.wordOk, b1, Bool.false_and])
  refine iteG (fun b2 => ?_) fun b2 => qB (Q := Qd) (b := false) h (by simp only [DW.wordOk, b1, b2, Bool.false_and, Bool.and_false])
  refine ⟨hz, lcGo_filter (p := offS DW.L26) (fun a ha KK kk => ?_) ?_⟩
  · obtain ⟨cc, _, rfl⟩ := List.mem_map.mp ha
    exact ⟨cc, rfl, kk⟩
  · refine ⟨Nat.zero_le _, .inr ⟨filt_shaped ho, shaped_nil⟩, qB (Q := Qd) h ?_⟩
    rw [eqv_nil, List.nil_append, filt_none]
    simp only [DW.wordOk, b1, b2, Bool.true_and]
    rfl

theorem ok__law_number (c : Tx K w mg) : FnOk P w K mg base (L2.CX P w) 1 (He.ga K "_law_number") (fdOf K (He.ga K "_law_number")) ["_law_word"] (lift K (fun _ xs Q _ => ∃ z : Str, xs = [.d (.str z)] ∧ z.length ≤ 80000 ∧ PyData.strOk z = true ∧ Q (.d (DW.optI (DW.numIn z)))) 1) := by
  refine fn_ok c.fd__law_number sc__law_number rfl fun cdv A outer s I H E R hr => ⟨_, _, (dss_cons flat_of (ds_setLc (i := 1) (own := [("_law_sign", 2)]) s rfl sc__law_number.nd rfl rfl (sw_true rfl rfl rfl (by decide +kernel)) (di_any (de_var (pv 0)) rfl) (blkOk_by (N := ["_law_word", "_law_odd", "_law_sign"]) (sc := defScope (top 59)) (by decide +kernel)) (fun _ _ _ _ _ => (dg_name (i := 2) sc__law_number.nd rfl (by first | exact .inl rfl | exact .inr rfl))) (fun _ _ _ _ _ => (dts_one (dt_cmp (op_notInX (hu65 hr)) rfl (od_notIn rfl) (de_var (pv 2)) de_str))) (fun _ _ _ _ _ => (de_var (pv 2))) (tgt_name (by decide)))
      (dss_cons flat_of (ds_if (dw_or (dt_cmp (op_eqX (hu64 hr)) (nomark _) (od_eq rfl) (de_var (pv 0)) de_str) (dw_or (dt_cmp op_gt (nomark _) od_intB (de_callB call_len (cd_len rfl) (by rfl) c.f_len b_len (da_cons (de_var (pv 0)) da_nil)) de_int) (dw_or (dt_cmp (op_neX (hu64 hr)) (nomark _) (od_ne rfl) (de_var (pv 1)) (de_lst da_nil)) (dw_or1 (dw_and (dt_cmp (op_eqX (hu64 hr)) (nomark _) (od_eq rfl) (de_ix (de_var (pv 0)) de_int (fun _ _ => rfl) rfl) de_str) (dw_and1 (dt_cmp (op_neX (hu64 hr)) (nomark _) (od_ne rfl) (de_var (pv 0)) de_str))).dt)))).dt (dss_one (ds_ret de_non)) dss_nil)
      (dss_one (ds_ret (de_callTy call_int_str cd_intS (by rfl) c.f_int b_int (da_cons (de_var (pv 0)) da_nil)))))), fun xs Qd Ed hl h => ?_⟩
  obtain ⟨z, rfl, hl, ho, h⟩ := h
  have hz := sz80 hl
  refine ⟨hz, lcGo_filter (p := offS DW.F10) (fun a ha KK kk => ?_) ?_⟩
  · obtain ⟨cc, _, rfl⟩ := List.mem_map.mp ha
    exact ⟨cc, rfl, kk⟩
  rw [List.nil_append]
  refine setG (δ' := [some (.d (.str z)), some (.d (.list ((chars z).filter (offS DW.F10)))), none]) rfl ?_
  have off : DW.numIn z = none → Qd (.d .none) := fun e => by rw [e] at h; exact h
  refine ⟨.inl rfl, iteG (fun b1 => ?_) fun b1 => ?_⟩
  · refine off ?_
    have e := eq_of_beq (show (z == ("" : Str)) = true by rw [← eqv_str]; exact b1)
    rw [e]
    decide +kernel
  refine ⟨hz, iteG (fun b2 => ?_) fun b2 => ?_⟩
  · refine off (numIn_off fun e => ?_)
    obtain ⟨n, en⟩ := Option.ne_none_iff_exists'.mp e
    unfold DW.numIn at en
    split at en
    · rename_i k
      simp only [Bool.and_eq_true, decide_eq_true_eq] at k
      have := of_decide_eq_true b2
      omega
    · cases en
  refine ⟨Nat.zero_le _, .inr ⟨filt_shaped ho, shaped_nil⟩, ?_⟩
  have e3 : PyData.eqv (.list ((chars z).filter (offS DW.F10))) (.list []) = z.cps.toList.all DW.isFig := by
    rw [eqv_nil, filt_none]
    rfl
  refine bKG (fun b3 => ?_) fun b3 => ?_
  · refine off ?_
    have b3 : (!PyData.eqv (.list ((chars z).filter (offS DW.F10))) (.list [])) = true := b3
    rw [e3] at b3
    unfold DW.numIn
    rw [if_neg]
    simp only [Bool.and_eq_true]
    intro k
    rw [k.2.2] at b3
    cases b3
  have b3 : (!PyData.eqv (.list ((chars z).filter (offS DW.F10))) (.list [])) = false := b3
  rw [e3] at b3
  have hall : z.cps.toList.all DW.isFig = true := by simpa using b3
  have b1' : (z == ("" : Str)) = false := by rw [← eqv_str]; exact b1
  obtain ⟨c0, r0, ez⟩ : ∃ c0 r0, z.cps.toList = c0 :: r0 := by
    cases e : z.cps.toList with
    | nil =>
      exfalso
      have : z = ("" : Str) := TL.ext_tl (by show z.cps.toList = _; rw [e]; decide)
      rw [this] at b1'
      exact absurd b1' (by decide)
    | cons a r => exact ⟨a, r, rfl⟩
  have hle : z.length ≤ 40 := by
    have := of_decide_eq_false b2
    omega
  have hlen : 1 ≤ z.length := by
    show 1 ≤ z.cps.size
    rw [← Array.length_toList, ez]
    simp
  have num : DW.numIn z = if Txt.startswith z "0" && !(z == "0") then none else intText? z := by
    unfold DW.numIn
    rw [if_pos]
    rw [hall, decide_eq_true (by omega), decide_eq_true (by omega)]
    rfl
  refine ⟨hz, c0, by rw [ez]; exact at0, .inl rfl, ?_⟩
  have es : PyData.eqv (.str ⟨#[c0]⟩) (.str "0") = decide (c0 = 48) := by
    rw [eqv_str]
    by_cases hc : c0 = 48
    · rw [hc]; decide +kernel
    · rw [decide_eq_false hc, beq_eq_false_iff_ne]
      intro e
      have := congrArg TL.tl e
      have e2 : TL.tl ("0" : Str) = [48] := by decide +kernel
      rw [e2] at this
      have this : [c0] = [48] := this
      simp at this
      exact hc this
  have st : Txt.startswith z "0" = decide (c0 = 48) := by
    by_cases hc : c0 = 48
    · rw [decide_eq_true hc]
      exact DW.starts0 (r := r0) (by show z.cps.toList = _; rw [ez, hc])
    · rw [decide_eq_false hc]
      cases q : Txt.startswith z "0" with
      | false => rfl
      | true =>
        obtain ⟨r, er⟩ := DW.starts_head q
        have er : z.cps.toList = 48 :: r := er
        rw [ez] at er
        cases er
        exact absurd rfl hc
  have fin : (Txt.startswith z "0" && !(z == ("0" : Str))) = false → ∃ n, intText? z = some n ∧ z.length ≤ 640 ∧ Qd (.d (.int n)) := fun e => by
    rw [num, e] at h
    have hd : NumText.AllDigits z.cps.toList := fun x hx => DW.fig_inv (List.all_eq_true.mp hall x hx)
    have t := intText_digits hd (by rw [ez]; simp) (by omega)
    refine ⟨_, t, by omega, ?_⟩
    rw [if_neg (by decide), t] at h
    exact h
  refine bKG (fun b4 => ?_) fun b4 => ?_
  · have b4 : PyData.eqv (.str ⟨#[c0]⟩) (.str "0") = true := b4
    rw [es] at b4
    refine ⟨.inl rfl, bKG (fun b5 => ?_) fun b5 => ?_⟩
    · have b5 : (!PyData.eqv (.str z) (.str "0")) = true := b5
      rw [eqv_str] at b5
      refine off ?_
      rw [num, st, b4, b5]
      rfl
    · have b5 : (!PyData.eqv (.str z) (.str "0")) = false := b5
      rw [eqv_str] at b5
      exact fin (by rw [b5, Bool.and_false])
  · have b4 : PyData.eqv (.str ⟨#[c0]⟩) (.str "0") = false := b4
    rw [es] at b4
    exact fin (by rw [st, b4]; rfl)

theorem ok__law_names_of (c : Tx K w mg) : FnOk P w K mg base (L2.CX P w) 2 (He.ga K "_law_names_of") (fdOf K (He.ga K "_law_names_of")) ["_law_words_here"] (lift K (fun _ xs Q _ => ∃ ws : List Str, xs = [.d (.list (DW.sd ws))] ∧ WOk ws ∧ Q (.d ((DW.readNames ws).getD .none))) 1) := by
  refine fn_ok c.fd__law_names_of sc__law_names_of rfl fun cdv A outer s I H E R hr => ⟨_, _, (dss_one (ds_ret (de_if (dt_cmp (op_eqX (hu64 hr)) (nomark _) (od_eq rfl) (de_lc (own := [("_law_word", 1)]) rfl sc__law_names_of.nd (di_any (de_var (pv 0)) rfl) (blkOk_by (N := ["_law_words_here", "_law_word"]) (sc := defScope (top 62)) (by decide +kernel)) (fun _ _ _ _ _ => (dg_name (i := 1) sc__law_names_of.nd rfl (by first | exact .inl rfl | exact .inr rfl))) (fun _ _ _ _ _ => (dts_one (dt_not (dt_val (de_fnC (ok__law_name_is c) (hr.mono (by decide)) (by rfl) c.g__law_name_is c.fd__law_name_is.kp (bd__law_name_is c) takesC0 rfl (da_cons (de_var (pv 1)) da_nil)))))) (fun _ _ _ _ _ => (de_var (pv 1))) (tgt_name (by decide)) s) (de_lst da_nil)) (de_callTy call_tuple_of (cd_tuple rfl) (by rfl) c.f_tuple b_tuple (da_cons (de_var (pv 0)) da_nil)) de_non))), fun xs Qd Ed hl h => ?_⟩
  obtain ⟨ws, rfl, hw, h⟩ := h
  rw [readNames_if] at h
  refine ⟨trivial, lcGo_filter (p := fun d => !wordB d) (fun a ha KK kk => ?_) ?_⟩
  · obtain ⟨x, hx, rfl⟩ := List.mem_map.mp ha
    exact ⟨rfl, nn1, x, rfl, hw.mem hx, hw.s x hx, kk⟩
  · rw [List.nil_append, filt_sd (fun w => !DW.wordOk 8 w) ws _ fun w _ => rfl]
    refine ⟨Nat.zero_le _, .inr ⟨shaped_sd fun x hx => hw.s x (List.mem_filter.mp hx).1, shaped_nil⟩, ?_⟩
    have e : PyData.eqv (.list (DW.sd (ws.filter fun w => !DW.wordOk 8 w))) (.list []) = ws.all (DW.wordOk 8) := by
      rw [eqv_nil]
      unfold DW.sd
      rw [List.isEmpty_map]
      exact all_filt
    refine bKG (fun b => ?_) fun b => ?_
    · have b : PyData.eqv (.list (DW.sd (ws.filter fun w => !DW.wordOk 8 w))) (.list []) = true := b
      rw [e] at b
      rw [if_pos b] at h
      exact ⟨_, rfl, h⟩
    · have b : PyData.eqv (.list (DW.sd (ws.filter fun w => !DW.wordOk 8 w))) (.list []) = false := b
      rw [e] at b
      rw [if_neg (by rw [b]; decide)] at h
      exact h

end
end K87
set_option Elab.async false
set_option linter.all false
set_option maxRecDepth 100000
set_option maxHeartbeats 4000000
namespace K87
open PySem PySem.Spec PyProof.Rows L2 PD
def flatOk (d : PyData) : Prop := d.canLay0 = true ∧ d.depth ≤ 4
theorem allLay : ∀ {xs : List PyData}, (∀ x ∈ xs, flatOk x) → PyData.canLayAll0 xs = true ∧ PyData.depthAll xs ≤ 4
  | [], _ => ⟨rfl, Nat.zero_le _⟩
  | x :: xs, h => by
    obtain ⟨h1, h2⟩ := h x List.mem_cons_self
    obtain ⟨h3, h4⟩ := allLay fun y hy => h y (List.mem_cons_of_mem _ hy)
    refine ⟨?_, ?_⟩
    · simp only [PyData.canLayAll0, h1, h3, Bool.and_self]
    · show max x.depth (PyData.depthAll xs) ≤ 4
      omega
theorem shaped_lst {xs : List PyData} (h : ∀ x ∈ xs, flatOk x) : SeqAt.shaped (.list xs) = true := by
  obtain ⟨h1, h2⟩ := allLay h
  unfold SeqAt.shaped
  rw [Bool.and_eq_true]
  refine ⟨by simpa only [PyData.canLay0] using h1, ?_⟩
  simp only [PyData.depth]
  exact decide_eq_true (by omega)
theorem shaped_tup {xs : List PyData} (h : ∀ x ∈ xs, flatOk x) : SeqAt.shaped (.tuple xs) = true := by
  obtain ⟨h1, h2⟩ := allLay h
  unfold SeqAt.shaped
  rw [Bool.and_eq_true]
  refine ⟨by simpa only [PyData.canLay0] using h1, ?_⟩
  simp only [PyData.depth]
  exact decide_eq_true (by omega)
theorem flat_none : flatOk .none := ⟨rfl, by decide⟩
theorem flat_str {z : Str} (h : PyData.strOk z = true) : flatOk (.str z) := ⟨by simpa only [PyData.canLay0] using h, by show 0 ≤ 4; decide⟩
theorem flat_int (i : Int) : flatOk (.int i) := ⟨rfl, by show 0 ≤ 4; decide⟩
theorem flat_optI (o : Option Int) : flatOk (DW.optI o) := by
  cases o with
  | none => exact flat_none
  | some i => exact flat_int i
theorem shaped_none : SeqAt.shaped .none = true := by decide +kernel
theorem eqv_optN (o : Option Int) : PyData.eqv (DW.optI o) .none = o.isNone := by
  cases o <;> simp [DW.optI, PyData.eqv]
theorem eqv_strN (z : Str) : PyData.eqv (.str z) .none = false := by simp [PyData.eqv]
theorem pairs_sd (ws : List Str) : pairs (DW.sd ws) = (List.range ws.length).map fun i => .tuple [.int (i : Nat), .str (DW.at_ ws i)] := by
  unfold pairs
  rw [len_sd]
  refine List.map_congr_left fun i hi => ?_
  have hi := List.mem_range.mp hi
  have e := at_get hi
  rw [List.getD_eq_getElem?_getD, e]
  rfl
def ckF (ws : List Str) (i : Nat) : PyData := if (i == 2) = true then .str (DW.at_ ws i) else DW.optI (DW.numIn (DW.at_ ws i))
theorem clock_if (a b k d e f : Str) : DW.readClock [a, b, k, d, e, f] = if ((DW.numIn a).isNone || ((DW.numIn b).isNone || ((DW.numIn d).isNone || ((DW.numIn e).isNone || (DW.numIn f).isNone)))) || !DW.wordOk 8 k then none else some (.tuple [DW.optI (DW.numIn a), DW.optI (DW.numIn b), .str k, DW.optI (DW.numIn d), DW.optI (DW.numIn e), DW.optI (DW.numIn f)]) := by
  show (DW.allO [DW.readNum a, DW.readNum b, DW.readName k, DW.readNum d, DW.readNum e, DW.readNum f]).map PyData.tuple = _
  unfold DW.readNum DW.readName
  cases DW.numIn a <;> cases DW.numIn b <;> cases DW.numIn d <;> cases DW.numIn e <;> cases DW.numIn f <;> cases DW.wordOk 8 k <;> rfl
theorem at2' {α : Type} {x y z : α} {r : List α} : atI (x :: y :: z :: r) 2 = some z := atI_nat (j := 2) rfl

section
variable {P : Program} {w : World} {K : PySem.W.Frag} {mg : Str → Option Value} {base : Heap}
theorem ok__law_read_clock (c : Tx K w mg) : FnOk P w K mg base (L2.CX P w) 2 (He.ga K "_law_read_clock") (fdOf K (He.ga K "_law_read_clock")) ["_law_words_here"] (lift K (fun _ xs Q _ => ∃ ws : List Str, xs = [.d (.list (DW.sd ws))] ∧ WOk ws ∧ Q (.d ((DW.readClock ws).getD .none))) 1) := by
  refine fn_ok c.fd__law_read_clock sc__law_read_clock rfl fun cdv A outer s I H E R hr => ⟨_, _, (dss_cons flat_of (ds_setLc (i := 1) (own := [("_law_at", 2), ("_law_word", 3)]) s rfl sc__law_read_clock.nd rfl rfl (sw_true rfl rfl rfl (by decide +kernel)) (di_enum (by rfl) c.f_enumerate (da_cons (de_var (pv 0)) da_nil) rfl) (blkOk_by (N := ["_law_words_here", "_law_found", "_law_at", "_law_word"]) (sc := defScope (top 61)) (by decide +kernel)) (fun _ _ _ _ _ => (dg_tup (n := 2) rfl (dgs_cons (dg_name (i := 2) sc__law_read_clock.nd rfl (by first | exact .inl rfl | exact .inr rfl)) (dgs_cons (dg_name (i := 3) sc__law_read_clock.nd rfl (by first | exact .inl rfl | exact .inr rfl)) dgs_nil)) rfl)) (fun _ _ _ _ _ => dts_nil) (fun _ _ _ _ _ => (de_if (dt_cmp (op_eqX (hu64 hr)) (nomark _) (od_eq rfl) (de_var (pv 2)) de_int) (de_var (pv 3)) (de_fnC (ok__law_number c) (hr.mono (by decide)) (by rfl) c.g__law_number c.fd__law_number.kp (bd__law_number c) takesC0 rfl (da_cons (de_var (pv 3)) da_nil)))) (tgt_tup (tgt_names (is := [2, 3]) (by decide)).1))
      (dss_cons flat_of (ds_if (dw_or (dt_cmp (op_neX (hu64 hr)) (nomark _) (od_ne rfl) (de_callB call_len (cd_len rfl) (by rfl) c.f_len b_len (da_cons (de_var (pv 0)) da_nil)) de_int) (dw_or (dt_cmp (op_inX (hu65 hr)) rfl (od_in rfl) de_non (de_var (pv 1))) (dw_or1 (dt_not (dt_val (de_fnC (ok__law_name_is c) (hr.mono (by decide)) (by rfl) c.g__law_name_is c.fd__law_name_is.kp (bd__law_name_is c) (takesC (takes_of rfl rfl rfl rfl)) rfl (da_cons (de_ix (de_var (pv 0)) de_int (fun _ _ => rfl) rfl) da_nil))))))).dt (dss_one (ds_ret de_non)) dss_nil)
      (dss_one (ds_ret (de_callTy call_tuple_of (cd_tuple rfl) (by rfl) c.f_tuple b_tuple (da_cons (de_var (pv 1)) da_nil)))))), fun xs Qd Ed hl h => ?_⟩
  obtain ⟨ws, rfl, hw, h⟩ := h
  refine cast (congrArg (fun l => lcGo _ l [] _) (pairs_sd ws).symm) ?_
  refine lcGo_map (f := ckF ws) (fun i hi KK kk => ?_) ?_
  · have hi := List.mem_range.mp hi
    refine ⟨rfl, rfl, .inl rfl, ?_⟩
    have ei : PyData.eqv (.int (i : Nat)) (.int 2) = (i == 2) := by
      rw [eqv_int]
      by_cases e : i = 2
      · subst e; rfl
      · rw [beq_eq_false_iff_ne.mpr e, beq_eq_false_iff_ne]; omega
    refine bKG (fun b => ?_) fun b => ?_
    · have b : PyData.eqv (.int (i : Nat)) (.int 2) = true := b
      rw [ei] at b
      unfold ckF at kk
      rw [if_pos b] at kk
      exact kk
    · have b : PyData.eqv (.int (i : Nat)) (.int 2) = false := b
      rw [ei] at b
      unfold ckF at kk
      rw [if_neg (by rw [b]; decide)] at kk
      exact ⟨rfl, nn1, _, rfl, hw.mem (at_mem hi), hw.s _ (at_mem hi), kk⟩
  rw [List.nil_append]
  refine setG (δ' := [some (.d (.list (DW.sd ws))), some (.d (.list ((List.range ws.length).map (ckF ws)))), none, none]) rfl ?_
  refine ⟨_, rfl, .inl rfl, bKG (fun b1 => ?_) fun b1 => ?_⟩
  · have b1 : (!PyData.eqv (.int ((DW.sd ws).length : Nat)) (.int 6)) = true := b1
    have e1 : ¬ ws.length = 6 := fun e => by
      rw [eqv_int, len_sd, e] at b1
      cases b1
    have e2 : DW.readClock ws = none := by
      unfold DW.readClock
      split
      · exact absurd rfl e1
      · rfl
    rw [e2] at h
    exact h
  have b1 : (!PyData.eqv (.int ((DW.sd ws).length : Nat)) (.int 6)) = false := b1
  have e1 : ws.length = 6 := by
    rw [eqv_int, len_sd] at b1
    have b2 : (((ws.length : Nat) : Int) == 6) = true := by simpa using b1
    have b3 := eq_of_beq b2
    omega
  clear b1
  match ws, e1 with
  | [a1, a2, a3, a4, a5, a6], _ =>
  rw [clock_if] at h
  have ef : (List.range ([a1, a2, a3, a4, a5, a6] : List Str).length).map (ckF [a1, a2, a3, a4, a5, a6]) = [DW.optI (DW.numIn a1), DW.optI (DW.numIn a2), .str a3, DW.optI (DW.numIn a4), DW.optI (DW.numIn a5), DW.optI (DW.numIn a6)] := rfl
  rw [ef]
  have h3 := hw.mem (show a3 ∈ [a1, a2, a3, a4, a5, a6] by simp)
  have o3 := hw.s a3 (show a3 ∈ [a1, a2, a3, a4, a5, a6] by simp)
  refine ⟨.none, _, rfl, rfl, shaped_none, shaped_lst fun x hx => ?_, ?_⟩
  · simp only [List.mem_cons, List.not_mem_nil, or_false] at hx
    rcases hx with rfl | rfl | rfl | rfl | rfl | rfl
    · exact flat_optI _
    · exact flat_optI _
    · exact flat_str o3
    · exact flat_optI _
    · exact flat_optI _
    · exact flat_optI _
  have ea : ([DW.optI (DW.numIn a1), DW.optI (DW.numIn a2), .str a3, DW.optI (DW.numIn a4), DW.optI (DW.numIn a5), DW.optI (DW.numIn a6)].any fun z => PyData.eqv z .none) = ((DW.numIn a1).isNone || ((DW.numIn a2).isNone || ((DW.numIn a4).isNone || ((DW.numIn a5).isNone || (DW.numIn a6).isNone)))) := by
    simp only [List.any_cons, List.any_nil, eqv_optN, eqv_strN, Bool.or_false, Bool.false_or]
  refine bKG (fun b2 => ?_) fun b2 => ?_
  · have b2 : ([DW.optI (DW.numIn a1), DW.optI (DW.numIn a2), .str a3, DW.optI (DW.numIn a4), DW.optI (DW.numIn a5), DW.optI (DW.numIn a6)].any fun z => PyData.eqv z .none) = true := b2
    rw [ea] at b2
    rw [b2] at h
    exact h
  have b2 : ([DW.optI (DW.numIn a1), DW.optI (DW.numIn a2), .str a3, DW.optI (DW.numIn a4), DW.optI (DW.numIn a5), DW.optI (DW.numIn a6)].any fun z => PyData.eqv z .none) = false := b2
  rw [ea] at b2
  rw [b2] at h
  refine ⟨_, .str a3, rfl, at2', rfl, nn1, a3, rfl, h3, o3, ?_⟩
  cases q : DW.wordOk 8 a3 with
  | true =>
    rw [q] at h
    exact ⟨_, rfl, h⟩
  | false =>
    rw [q] at h
    exact h

end
end K87
set_option Elab.async false
set_option linter.all false
set_option maxRecDepth 100000
set_option maxHeartbeats 4000000
namespace K87
open PySem PySem.Spec PyProof.Rows L2 PD
theorem dd_len (d : DW.Dd) : d.words.length = 1 ∨ d.words.length = 2 := by cases d <;> simp [DW.Dd.words]
theorem letter_count {ws : List Str} {d : PyData} (free : ∀ w ∈ ws, 32 ∉ TL.tl w) (h : DW.readLetterOf ws = some d) : ws.length = 9 ∨ ws.length = 10 := by
  obtain ⟨l, _, _, e⟩ := DW.readLetter_inv free h
  have := dd_len l.d
  rw [← e]
  simp only [DW.Lt.all, DW.Lt.ws, List.length_append, List.length_cons, List.length_nil]
  omega
theorem letter_none {ws : List Str} (free : ∀ w ∈ ws, 32 ∉ TL.tl w) (h : ¬ (ws.length = 9 ∨ ws.length = 10)) : DW.readLetterOf ws = none := by
  cases e : DW.readLetterOf ws with
  | none => rfl
  | some d => exact absurd (letter_count free e) h
theorem letter_words {ws : List Str} (h : ws.length = 9 ∨ ws.length = 10) : ∃ g p q a s m t u mid, ws = g :: (([p, q, a, s, m] : List Str) ++ mid ++ [t, u]) ∧ (mid.length = 1 ∨ mid.length = 2) := by
  cases ws with
  | nil => simp at h
  | cons g rest =>
    obtain ⟨p, q, a, s, m, mid, t, u, rfl⟩ := DW.eight (l := rest) (by simp only [List.length_cons] at h; omega)
    refine ⟨g, p, q, a, s, m, t, u, mid, rfl, ?_⟩
    simp only [List.length_cons, List.length_append, List.length_nil] at h
    omega
theorem isNum_nn {i : Int} (h : 0 ≤ i) : DW.isNum (.int i) 0 none = true := DW.isNum_of h fun j e => by cases e
theorem isNum_le {i j : Int} (h : 0 ≤ i) : DW.isNum (.int i) 0 (some j) = decide (i ≤ j) := by
  simp only [DW.isNum]
  rw [decide_eq_false (by omega : ¬ i < 0)]
  rfl
theorem isNum_in {i lo hi : Int} : DW.isNum (.int i) lo (some hi) = (decide (lo ≤ i) && decide (i ≤ hi)) := by
  simp only [DW.isNum]
  by_cases h : i < lo
  · rw [decide_eq_true h, decide_eq_false (by omega : ¬ lo ≤ i)]; rfl
  · rw [decide_eq_false h, decide_eq_true (by omega : lo ≤ i)]; rfl
/-- a letter of numbers -/
theorem letter_if {g : Str} {p q a s m t u : Int} {dd : PyData} (hp : 0 ≤ p) (hq : 0 ≤ q) (ha : 0 ≤ a) (hs : 0 ≤ s) (hm : 0 ≤ m) (ht : 0 ≤ t) (hu : 0 ≤ u) :
    DW.isLetter (.tuple [.str "letter", .str g, .int p, .int q, .int a, .int s, .int m, dd, .int t, .int u]) = (DW.wordOk 8 g && (decide (p ≤ 3) && ((decide (1 ≤ q) && decide (q ≤ 99)) && (DW.isDeed dd && decide (max (max a m) u ≤ DW.M30))))) := by
  show ((("letter" : Str) == "letter") && (DW.isName (.str g) && DW.isNum (.int p) 0 (some 3) && DW.isNum (.int q) 1 (some 99)) && (DW.isNum (.int s) 0 none && DW.isNum (.int t) 0 none && DW.isDeed dd) && (DW.isNum (.int a) 0 (some DW.M30) && DW.isNum (.int m) 0 (some DW.M30) && DW.isNum (.int u) 0 (some DW.M30))) = _
  rw [isNum_nn hs, isNum_nn ht, isNum_le hp, isNum_le ha, isNum_le hm, isNum_le hu, isNum_in, beq_self_eq_true]
  have e : decide (max (max a m) u ≤ DW.M30) = (decide (a ≤ DW.M30) && decide (m ≤ DW.M30) && decide (u ≤ DW.M30)) := by
    by_cases h1 : a ≤ DW.M30 <;> by_cases h2 : m ≤ DW.M30 <;> by_cases h3 : u ≤ DW.M30 <;> simp [h1, h2, h3] <;> omega
  rw [e]
  show (true && (DW.wordOk 8 g && _ && _) && _ && _) = _
  cases DW.wordOk 8 g <;> cases decide (p ≤ 3) <;> cases (decide (1 ≤ q) && decide (q ≤ 99)) <;> cases DW.isDeed dd <;> simp
theorem isDeed1 (x : Str) : DW.isDeed (.tuple (DW.sd [x])) = (x == ("give" : Str) || x == ("even" : Str)) := by
  show (if (x == ("move" : Str)) = true then false else (x == ("give" : Str) || x == ("even" : Str)) && true) = _
  by_cases h : (x == ("move" : Str)) = true
  · rw [if_pos h, eq_of_beq h]
    decide +kernel
  · rw [if_neg h, Bool.and_true]
theorem isDeed2 (x y : Str) : DW.isDeed (.tuple (DW.sd [x, y])) = (x == ("move" : Str) && DW.wordOk 8 y) := by
  show (if (x == ("move" : Str)) = true then DW.isName (.str y) else (x == ("give" : Str) || x == ("even" : Str)) && false) = _
  by_cases h : (x == ("move" : Str)) = true
  · rw [if_pos h, h]
    rfl
  · rw [if_neg h, Bool.and_false]
    have : (x == ("move" : Str)) = false := by simpa using h
    rw [this]
    rfl
theorem eqv_sd1 (a x : Str) : PyData.eqv (.tuple [.str a]) (.tuple (DW.sd [x])) = (a == x) := by
  simp [PyData.eqv, PyData.eqvAll, DW.sd]
theorem eqv_sd2 (a x y : Str) : PyData.eqv (.tuple [.str a]) (.tuple (DW.sd [x, y])) = false := by
  simp [PyData.eqv, PyData.eqvAll, DW.sd]
theorem flat_sd {ws : List Str} (h : ∀ x ∈ ws, PyData.strOk x = true) : ∀ x ∈ DW.sd ws, flatOk x := fun x hx => by
  obtain ⟨w, hw, rfl⟩ := List.mem_map.mp hx
  exact flat_str (h w hw)
def numL7 (p q a s m t u : Str) : List PyData := [DW.optI (DW.numIn p), DW.optI (DW.numIn q), DW.optI (DW.numIn a), DW.optI (DW.numIn s), DW.optI (DW.numIn m), DW.optI (DW.numIn t), DW.optI (DW.numIn u)]
theorem any7 (p q a s m t u : Str) : ((numL7 p q a s m t u).any fun z => PyData.eqv z .none) = ((DW.numIn p).isNone || ((DW.numIn q).isNone || ((DW.numIn a).isNone || ((DW.numIn s).isNone || ((DW.numIn m).isNone || ((DW.numIn t).isNone || (DW.numIn u).isNone)))))) := by
  unfold numL7
  simp only [List.any_cons, List.any_nil, eqv_optN, Bool.or_false]
theorem notLetter {g : Str} {o1 o2 o3 o4 o5 o6 o7 : Option Int} {dd : PyData} (h : (o1.isNone || (o2.isNone || (o3.isNone || (o4.isNone || (o5.isNone || (o6.isNone || o7.isNone)))))) = true) : DW.isLetter (.tuple [.str "letter", .str g, DW.optI o1, DW.optI o2, DW.optI o3, DW.optI o4, DW.optI o5, dd, DW.optI o6, DW.optI o7]) = false := by
  have nn : ∀ (lo : Int) (hi : Option Int), DW.isNum .none lo hi = false := fun _ _ => rfl
  show ((("letter" : Str) == "letter") && (DW.isName (.str g) && DW.isNum (DW.optI o1) 0 (some 3) && DW.isNum (DW.optI o2) 1 (some 99)) && (DW.isNum (DW.optI o4) 0 none && DW.isNum (DW.optI o6) 0 none && DW.isDeed dd) && (DW.isNum (DW.optI o3) 0 (some DW.M30) && DW.isNum (DW.optI o5) 0 (some DW.M30) && DW.isNum (DW.optI o7) 0 (some DW.M30))) = false
  cases o1 with
  | none => simp [DW.optI, nn]
  | some _ => cases o2 with
    | none => simp [DW.optI, nn]
    | some _ => cases o3 with
      | none => simp [DW.optI, nn]
      | some _ => cases o4 with
        | none => simp [DW.optI, nn]
        | some _ => cases o5 with
          | none => simp [DW.optI, nn]
          | some _ => cases o6 with
            | none => simp [DW.optI, nn]
            | some _ => cases o7 with
              | none => simp [DW.optI, nn]
              | some _ => cases h
theorem notLetterG {g : Str} {a b c d e f k l : PyData} (h : DW.wordOk 8 g = false) : DW.isLetter (.tuple [.str "letter", .str g, a, b, c, d, e, f, k, l]) = false := by
  show ((("letter" : Str) == "letter") && (DW.isName (.str g) && DW.isNum a 0 (some 3) && DW.isNum b 1 (some 99)) && (DW.isNum d 0 none && DW.isNum k 0 none && DW.isDeed f) && (DW.isNum c 0 (some DW.M30) && DW.isNum e 0 (some DW.M30) && DW.isNum l 0 (some DW.M30))) = false
  rw [show DW.isName (.str g) = false from h]
  simp only [Bool.false_and, Bool.and_false]
theorem nott {b : Bool} (h : (!b) = false) : b = true := by cases b <;> first | rfl | cases h
theorem notf {b : Bool} (h : (!b) = true) : b = false := by cases b <;> first | rfl | cases h

section
variable {P : Program} {w : World} {K : PySem.W.Frag} {mg : Str → Option Value} {base : Heap}
theorem ok__law_read_letter (c : Tx K w mg) : FnOk P w K mg base (L2.CX P w) 2 (He.ga K "_law_read_letter") (fdOf K (He.ga K "_law_read_letter")) ["_law_words_here"] (lift K (fun _ xs Q _ => ∃ ws : List Str, xs = [.d (.list (DW.sd ws))] ∧ WOk ws ∧ (∀ w ∈ ws, 32 ∉ TL.tl w) ∧ Q (.d ((DW.readLetterOf ws).getD .none))) 1) := by
  refine fn_ok c.fd__law_read_letter sc__law_read_letter rfl fun cdv A outer s I H E R hr => ⟨_, _, (dss_cons flat_of (ds_if (dw_or (dt_cmp (op_notInX (hu65 hr)) rfl (od_notIn rfl) (de_callB call_len (cd_len rfl) (by rfl) c.f_len b_len (da_cons (de_var (pv 0)) da_nil)) (de_lst (da_cons de_int (da_cons de_int da_nil)))) (dw_or1 (dt_not (dt_val (de_fnC (ok__law_name_is c) (hr.mono (by decide)) (by rfl) c.g__law_name_is c.fd__law_name_is.kp (bd__law_name_is c) (takesC (takes_of rfl rfl rfl rfl)) rfl (da_cons (de_ix (de_var (pv 0)) de_int (fun _ _ => rfl) rfl) da_nil)))))).dt (dss_one (ds_ret de_non)) dss_nil)
      (dss_cons flat_of (ds_set (i := 1) sc__law_read_letter.nd rfl (by first | exact .inl rfl | exact .inr rfl) (de_callTy call_tuple_of (cd_tuple rfl) (by rfl) c.f_tuple b_tuple (da_cons (de_slice (de_var (pv 0)) (do_some de_int) (do_some (de_un un_neg ud_neg de_int)) rfl) da_nil)))
      (dss_cons flat_of (ds_setLc (i := 2) (own := [("_law_word", 3)]) s rfl sc__law_read_letter.nd rfl rfl (sw_true rfl rfl rfl (by decide +kernel)) (di_any (de_op op_cat' (od_add rfl) (de_slice (de_var (pv 0)) (do_some de_int) (do_some de_int) rfl) (de_slice (de_var (pv 0)) (do_some (de_un un_neg ud_neg de_int)) do_none rfl)) rfl) (blkOk_by (N := ["_law_words_here", "_law_own", "_law_numbers", "_law_word"]) (sc := defScope (top 60)) (by decide +kernel)) (fun _ _ _ _ _ => (dg_name (i := 3) sc__law_read_letter.nd rfl (by first | exact .inl rfl | exact .inr rfl))) (fun _ _ _ _ _ => dts_nil) (fun _ _ _ _ _ => (de_fnC (ok__law_number c) (hr.mono (by decide)) (by rfl) c.g__law_number c.fd__law_number.kp (bd__law_number c) takesC0 rfl (da_cons (de_var (pv 3)) da_nil))) (tgt_name (by decide)))
      (dss_cons flat_of (ds_if (dw_or (dt_cmp (op_inX (hu65 hr)) rfl (od_in rfl) de_non (de_var (pv 2))) (dw_or (dt_cmp op_gt (nomark _) od_intB (de_ix (de_var (pv 2)) de_int (fun _ _ => rfl) rfl) de_int) (dw_or1 (dt_not (dt_chain op_le op_le od_intB od_intB de_int (de_ix (de_var (pv 2)) de_int (fun _ _ => rfl) rfl) de_int))))).dt (dss_one (ds_ret de_non)) dss_nil)
      (dss_cons flat_of (ds_if (dt_cmp op_gt (nomark _) od_intB (de_callB (call_max3Nu rfl) cd_max3 (by rfl) c.f_max b_max (da_cons (de_ix (de_var (pv 2)) de_int (fun _ _ => rfl) rfl) (da_cons (de_ix (de_var (pv 2)) de_int (fun _ _ => rfl) rfl) (da_cons (de_ix (de_var (pv 2)) de_int (fun _ _ => rfl) rfl) da_nil)))) (de_op op_pow od_int de_int de_int)) (dss_one (ds_ret de_non)) dss_nil)
      (dss_cons flat_of (ds_if (dw_and (dt_cmp (op_notInX (hu65 hr)) rfl (od_notIn rfl) (de_var (pv 1)) (de_lst (da_cons (de_tup (da_cons de_str da_nil)) (da_cons (de_tup (da_cons de_str da_nil)) da_nil)))) (dw_and1 (dw_or (dt_cmp (op_neX (hu64 hr)) (nomark _) (od_ne rfl) (de_callB call_len (cd_len rfl) (by rfl) c.f_len b_len (da_cons (de_var (pv 1)) da_nil)) de_int) (dw_or (dt_cmp (op_neX (hu64 hr)) (nomark _) (od_ne rfl) (de_ix (de_var (pv 1)) de_int (fun _ _ => rfl) rfl) de_str) (dw_or1 (dt_not (dt_val (de_fnC (ok__law_name_is c) (hr.mono (by decide)) (by rfl) c.g__law_name_is c.fd__law_name_is.kp (bd__law_name_is c) (takesC (takes_of rfl rfl rfl rfl)) rfl (da_cons (de_ix (de_var (pv 1)) de_int (fun _ _ => rfl) rfl) da_nil))))))).dt)).dt (dss_one (ds_ret de_non)) dss_nil)
      (dss_one (ds_ret (de_op op_cat' (od_add rfl) (de_op op_cat' (od_add rfl) (de_op op_cat' (od_add rfl) (de_tup (da_cons de_str (da_cons (de_ix (de_var (pv 0)) de_int (fun _ _ => rfl) rfl) da_nil))) (de_callTy call_tuple_of (cd_tuple rfl) (by rfl) c.f_tuple b_tuple (da_cons (de_slice (de_var (pv 2)) do_none (do_some de_int) rfl) da_nil))) (de_tup (da_cons (de_var (pv 1)) da_nil))) (de_callTy call_tuple_of (cd_tuple rfl) (by rfl) c.f_tuple b_tuple (da_cons (de_slice (de_var (pv 2)) (do_some de_int) do_none rfl) da_nil))))))))))), fun xs Qd Ed hl h => ?_⟩
  obtain ⟨ws, rfl, hw, free, h⟩ := h
  refine ⟨_, rfl, (show 2 ≤ sizeLine by decide), _, _, rfl, rfl, rfl, by decide +kernel, ?_⟩
  have en : (([PyData.int 9, .int 10].any fun z => PyData.eqv z (.int ((DW.sd ws).length : Nat)))) = true ↔ ws.length = 9 ∨ ws.length = 10 := by
    rw [len_sd]
    simp only [List.any_cons, List.any_nil, eqv_int, Bool.or_false, Bool.or_eq_true, beq_iff_eq]
    omega
  refine bKG (fun b1 => ?_) fun b1 => ?_
  · have b1 : (!([PyData.int 9, .int 10].any fun z => PyData.eqv z (.int ((DW.sd ws).length : Nat)))) = true := b1
    rw [letter_none free fun k => by rw [en.mpr k] at b1; cases b1] at h
    exact h
  have b1 : (!([PyData.int 9, .int 10].any fun z => PyData.eqv z (.int ((DW.sd ws).length : Nat)))) = false := b1
  have hl : ws.length = 9 ∨ ws.length = 10 := en.mp (nott b1)
  clear b1 en
  obtain ⟨g, p, q, a, s, m, t, u, mid, rfl, hmid⟩ := letter_words hl
  have m1 : 1 ≤ mid.length := by omega
  rw [DW.readLetter_mid rfl free m1] at h
  have hm : ∀ x ∈ (g :: (([p, q, a, s, m] : List Str) ++ mid ++ [t, u])), x.length ≤ 80000 ∧ PyData.strOk x = true := fun x hx => ⟨hw.mem hx, hw.s x hx⟩
  have hg := hm g (by simp)
  refine ⟨_, .str g, rfl, at0, rfl, nn1, g, rfl, hg.1, hg.2, ?_⟩
  refine bKG (fun b2 => ?_) fun b2 => (by rw [if_neg (by rw [notLetterG b2]; decide)] at h; exact h)
  have b2 : DW.wordOk 8 g = true := b2
  have c6 : PD.cut (g :: (([p, q, a, s, m] : List Str) ++ mid ++ [t, u])) (some 6) (some (-2)) = mid := cut_ab [g, p, q, a, s, m] mid [t, u] (i := 6) (j := 2) rfl rfl (by decide)
  have c2 : PD.cut (g :: (([p, q, a, s, m] : List Str) ++ mid ++ [t, u])) (some (-2)) none = [t, u] := cut_b ([g, p, q, a, s, m] ++ mid) [t, u] (j := 2) rfl (by decide)
  have c1 : PD.cut (g :: (([p, q, a, s, m] : List Str) ++ mid ++ [t, u])) (some 1) (some 6) = [p, q, a, s, m] := by
    unfold PD.cut
    have l9 : (g :: (([p, q, a, s, m] : List Str) ++ mid ++ [t, u])).length = 8 + mid.length := by simp only [List.length_append, List.length_cons, List.length_nil]; omega
    have q1 : HT.sIx (g :: (([p, q, a, s, m] : List Str) ++ mid ++ [t, u])).length 0 (some 1) = 1 := (HT.sIx_nat _ _ 1).trans (by rw [l9]; omega)
    have q2 : HT.sIx (g :: (([p, q, a, s, m] : List Str) ++ mid ++ [t, u])).length (g :: (([p, q, a, s, m] : List Str) ++ mid ++ [t, u])).length (some 6) = 6 := (HT.sIx_nat _ _ 6).trans (by rw [l9]; omega)
    rw [q1, q2]
    rfl
  have c6s : PD.cut (DW.sd (g :: (([p, q, a, s, m] : List Str) ++ mid ++ [t, u]))) (some 6) (some (-2)) = DW.sd mid := by rw [cut_sd, c6]
  refine ⟨_, rfl, DW.sd mid, congrArg some c6s, ?_⟩
  refine setG (δ' := [some (.d (.list (DW.sd (g :: (([p, q, a, s, m] : List Str) ++ mid ++ [t, u]))))), some (.d (.tuple (DW.sd mid))), none, none]) rfl ?_
  have csz : (PD.cut (DW.sd (g :: (([p, q, a, s, m] : List Str) ++ mid ++ [t, u]))) (some 1) (some 6) ++ PD.cut (DW.sd (g :: (([p, q, a, s, m] : List Str) ++ mid ++ [t, u]))) (some (-2)) none) = DW.sd [p, q, a, s, m, t, u] := by
    rw [cut_sd, cut_sd, c1, c2]
    rfl
  refine ⟨_, rfl, _, rfl, ?_, trivial, ?_⟩
  · rw [cut_sd, cut_sd, c1, c2]
    show 5 + 2 ≤ sizeLine
    decide
  refine cast (congrArg (fun l => lcGo _ l [] _) csz.symm) ?_
  refine lcGo_map (f := fun w => DW.optI (DW.numIn w)) (fun w hx KK kk => ?_) ?_
  · have hx2 : w ∈ (g :: (([p, q, a, s, m] : List Str) ++ mid ++ [t, u])) := by
      simp only [List.mem_cons, List.not_mem_nil, or_false] at hx
      simp only [List.mem_cons, List.mem_append, List.not_mem_nil, or_false]
      rcases hx with rfl | rfl | rfl | rfl | rfl | rfl | rfl <;> simp
    exact ⟨rfl, nn1, w, rfl, (hm w hx2).1, (hm w hx2).2, kk⟩
  rw [List.nil_append]
  refine setG (δ' := [some (.d (.list (DW.sd (g :: (([p, q, a, s, m] : List Str) ++ mid ++ [t, u]))))), some (.d (.tuple (DW.sd mid))), some (.d (.list (numL7 p q a s m t u))), none]) rfl ?_
  refine ⟨.none, _, rfl, rfl, shaped_none, shaped_lst fun x hx => ?_, ?_⟩
  · simp only [numL7, List.mem_cons, List.not_mem_nil, or_false] at hx
    rcases hx with rfl | rfl | rfl | rfl | rfl | rfl | rfl <;> exact flat_optI _
  refine bKG (fun b3 => ?_) fun b3 => ?_
  · have b3 : ((numL7 p q a s m t u).any fun z => PyData.eqv z .none) = true := b3
    rw [any7] at b3
    rw [if_neg (by rw [notLetter b3]; decide)] at h
    exact h
  have b3 : ((numL7 p q a s m t u).any fun z => PyData.eqv z .none) = false := b3
  rw [any7] at b3
  simp only [Bool.or_eq_false_iff] at b3
  obtain ⟨k1, k2, k3, k4, k5, k6, k7⟩ := b3
  have some_of : ∀ {w : Str}, (DW.numIn w).isNone = false → ∃ i, DW.numIn w = some i ∧ 0 ≤ i ∧ i < 10 ^ 40 := fun {w} e => by
    cases q : DW.numIn w with
    | none => rw [q] at e; cases e
    | some i => exact ⟨i, rfl, (DW.numIn_inv q).lo, (DW.numIn_inv q).hi⟩
  obtain ⟨ip, e1, p0, p9⟩ := some_of k1
  obtain ⟨iq, e2, q0, q9⟩ := some_of k2
  obtain ⟨ia, e3, a0, a9⟩ := some_of k3
  obtain ⟨is_, e4, s0, s9⟩ := some_of k4
  obtain ⟨im, e5, m0, m9⟩ := some_of k5
  obtain ⟨it_, e6, t0, t9⟩ := some_of k6
  obtain ⟨iu, e7, u0, u9⟩ := some_of k7
  have en7 : numL7 p q a s m t u = [.int ip, .int iq, .int ia, .int is_, .int im, .int it_, .int iu] := by
    unfold numL7
    rw [e1, e2, e3, e4, e5, e6, e7]
    rfl
  rw [en7]
  rw [e1, e2, e3, e4, e5, e6, e7] at h
  have h : Qd (.d ((if DW.isLetter (.tuple [.str "letter", .str g, .int ip, .int iq, .int ia, .int is_, .int im, .tuple (DW.sd mid), .int it_, .int iu]) = true then some (PyData.tuple [.str "letter", .str g, .int ip, .int iq, .int ia, .int is_, .int im, .tuple (DW.sd mid), .int it_, .int iu]) else none).getD .none)) := h
  rw [letter_if p0 q0 a0 s0 m0 t0 u0, b2, Bool.true_and] at h
  have none_ : ∀ {b : Bool}, b = false → (if b = true then some (PyData.tuple [.str "letter", .str g, .int ip, .int iq, .int ia, .int is_, .int im, .tuple (DW.sd mid), .int it_, .int iu]) else none).getD .none = PyData.none := fun e => by rw [e]; rfl
  refine ⟨_, .int ip, rfl, at0, iteG (fun b4 => ?_) fun b4 => ?_⟩
  · have b4 := of_decide_eq_true (show decide ((3 : Int) < ip) = true from b4)
    rw [none_ (by rw [decide_eq_false (by omega : ¬ ip ≤ 3), Bool.false_and])] at h
    exact h
  have b4 := of_decide_eq_false (show decide ((3 : Int) < ip) = false from b4)
  rw [decide_eq_true (by omega : ip ≤ 3), Bool.true_and] at h
  refine ⟨_, .int iq, rfl, at1', ?_⟩
  refine iteG (fun b5 => ?_) fun b5 => (by
    have b5 := of_decide_eq_false (show decide ((1 : Int) ≤ iq) = false from b5)
    rw [none_ (by rw [decide_eq_false b5, Bool.false_and, Bool.false_and])] at h
    exact h)
  have b5 := of_decide_eq_true (show decide ((1 : Int) ≤ iq) = true from b5)
  rw [decide_eq_true b5, Bool.true_and] at h
  refine iteG (fun b6 => (by
    have b6 := of_decide_eq_false (notf (show (!decide (iq ≤ 99)) = true from b6))
    rw [none_ (by rw [decide_eq_false b6, Bool.false_and])] at h
    exact h)) fun b6 => ?_
  have b6 := of_decide_eq_true (nott (show (!decide (iq ≤ 99)) = false from b6))
  rw [decide_eq_true b6, Bool.true_and] at h
  refine ⟨_, .int ia, rfl, atI_nat (j := 2) rfl, _, .int im, rfl, atI_nat (j := 4) rfl, _, .int iu, rfl, atI_nat (j := 6) rfl, ⟨by decide, by decide, by decide⟩, iteG (fun b7 => ?_) fun b7 => ?_⟩
  · have b7 := of_decide_eq_true (show decide ((10 : Int) ^ 30 < max (max ia im) iu) = true from b7)
    rw [none_ (by rw [decide_eq_false (by rw [m30_eq]; omega : ¬ max (max ia im) iu ≤ DW.M30), Bool.and_false])] at h
    exact h
  have b7 := of_decide_eq_false (show decide ((10 : Int) ^ 30 < max (max ia im) iu) = false from b7)
  rw [decide_eq_true (by rw [m30_eq]; omega : max (max ia im) iu ≤ DW.M30), Bool.and_true] at h
  have om : ∀ x ∈ mid, x.length ≤ 80000 ∧ PyData.strOk x = true := fun x hx => hm x (by simp [hx])
  refine ⟨(show 1 ≤ sizeLine by decide), (show 1 ≤ sizeLine by decide), (show 2 ≤ sizeLine by decide), _, _, rfl, rfl, shaped_tup (flat_sd fun x hx => (om x hx).2), by decide +kernel, ?_⟩
  have fin : DW.isDeed (.tuple (DW.sd mid)) = true → Qd (.d (.tuple [.str "letter", .str g, .int ip, .int iq, .int ia, .int is_, .int im, .tuple (DW.sd mid), .int it_, .int iu])) := fun e => by
    rw [e] at h
    exact h
  have non : DW.isDeed (.tuple (DW.sd mid)) = false → Qd (.d .none) := fun e => by
    rw [e] at h
    exact h
  rcases hmid with h1 | h2
  · match mid, h1 with
    | [x], _ =>
    rw [isDeed1] at fin non
    have ea : ([PyData.tuple [.str "give"], .tuple [.str "even"]].any fun z => PyData.eqv z (.tuple (DW.sd [x]))) = (x == ("give" : Str) || x == ("even" : Str)) := by
      simp only [List.any_cons, List.any_nil, eqv_sd1, Bool.or_false]
      rw [show (("give" : Str) == x) = (x == ("give" : Str)) from BEq.comm, show (("even" : Str) == x) = (x == ("even" : Str)) from BEq.comm]
    refine bKG (fun b8 => ?_) fun b8 => ?_
    · have b8 : (!([PyData.tuple [.str "give"], .tuple [.str "even"]].any fun z => PyData.eqv z (.tuple (DW.sd [x])))) = true := b8
      rw [ea] at b8
      exact ⟨.inl rfl, non (notf b8)⟩
    · have b8 : (!([PyData.tuple [.str "give"], .tuple [.str "even"]].any fun z => PyData.eqv z (.tuple (DW.sd [x])))) = false := b8
      rw [ea] at b8
      exact ⟨_, .str g, rfl, at0, (show 2 ≤ sizeLine by decide), _, rfl, _, rfl, (show 2 + 5 ≤ sizeLine by decide), (show 1 ≤ sizeLine by decide), (show 7 + 1 ≤ sizeLine by decide), _, rfl, _, rfl, (show 8 + 2 ≤ sizeLine by decide), fin (nott b8)⟩
  · match mid, h2 with
    | [x, y], _ =>
    rw [isDeed2] at fin non
    have ea : ([PyData.tuple [.str "give"], .tuple [.str "even"]].any fun z => PyData.eqv z (.tuple (DW.sd [x, y]))) = false := by
      simp only [List.any_cons, List.any_nil, eqv_sd2, Bool.or_false]
    refine bKG (fun _ => ?_) fun b8 => (by
      have b8 : (!([PyData.tuple [.str "give"], .tuple [.str "even"]].any fun z => PyData.eqv z (.tuple (DW.sd [x, y])))) = false := b8
      rw [ea] at b8
      cases b8)
    refine ⟨.inl rfl, .str x, at0, .inl rfl, ?_⟩
    refine bKG (fun b9 => ?_) fun b9 => ?_
    · have b9 : (!PyData.eqv (.str x) (.str "move")) = true := b9
      rw [eqv_str] at b9
      exact non (by rw [notf b9]; rfl)
    have b9 : (!PyData.eqv (.str x) (.str "move")) = false := b9
    rw [eqv_str] at b9
    refine ⟨.str y, at1', rfl, nn1, y, rfl, (om y (by simp)).1, (om y (by simp)).2, ?_⟩
    refine bKG (fun b10 => ?_) fun b10 => ?_
    · exact ⟨_, .str g, rfl, at0, (show 2 ≤ sizeLine by decide), _, rfl, _, rfl, (show 2 + 5 ≤ sizeLine by decide), (show 1 ≤ sizeLine by decide), (show 7 + 1 ≤ sizeLine by decide), _, rfl, _, rfl, (show 8 + 2 ≤ sizeLine by decide), fin (by rw [nott b9, b10]; rfl)⟩
    · exact non (by rw [b10, Bool.and_false])

end
end K87
set_option Elab.async false
set_option linter.all false
set_option maxRecDepth 100000
set_option maxHeartbeats 4000000
namespace K87
open PySem PySem.Spec PyProof.Rows L2 PD
def claimRaw (ws : List Str) : PyData := match DW.idx "/" ws with
  | none => .none
  | some k => .tuple [.str "claim", (DW.readLetterOf (ws.take k)).getD .none, (DW.readLetterOf (ws.drop (k + 1))).getD .none]
def shortRaw (w : Str) (ws : List Str) : PyData :=
  if w = "day" ∧ ws = [] then .tuple [.str "day"]
  else if (w == ("tick" : Str)) = true ∧ ws.length = 1 then .tuple [.str "tick", DW.optI (DW.numIn (DW.at_ ws 0))]
  else if (w == ("round" : Str)) = true ∧ ws.length = 1 ∧ DW.wordOk 8 (DW.at_ ws 0) = true then .tuple [.str "round", .str (DW.at_ ws 0)]
  else if (w == ("member" : Str)) = true ∧ ws.length = 2 ∧ DW.wordOk 8 (DW.at_ ws 0) = true ∧ DW.wordOk 20 (DW.at_ ws 1) = true then .tuple [.str "member", .str (DW.at_ ws 0), .str (DW.at_ ws 1)]
  else .none
theorem eqv_day (w : Str) (ws : List Str) : PyData.eqv (.list ([PyData.str w] ++ DW.sd ws)) (.list [.str "day"]) = (w == ("day" : Str) && ws.isEmpty) := by
  cases ws with
  | nil => simp [PyData.eqv, PyData.eqvAll, DW.sd]
  | cons a r => simp [PyData.eqv, PyData.eqvAll, DW.sd]
theorem len_eq {n : Nat} {m : Int} : PyData.eqv (.int (n : Nat)) (.int m) = ((n : Int) == m) := eqv_int
theorem seqI {t u : TDS} {D : DEnds} {E : EK} {δ : DEnv} (R : DEnv → Prop) (tail : ∀ δ', R δ' → u D E δ') (h : ∀ N : DEnv → Prop, (∀ δ', R δ' → N δ') → t { D with nx := N } E δ) : dSeq t u D E δ := h _ tail
theorem lenI {ws : List Str} {m : Nat} (h : PyData.eqv (.int ((DW.sd ws).length : Nat)) (.int (m : Nat)) = true) : ws.length = m := by
  rw [eqv_int, len_sd] at h
  have := eq_of_beq h
  omega
theorem lenN {ws : List Str} {m : Nat} (h : PyData.eqv (.int ((DW.sd ws).length : Nat)) (.int (m : Nat)) = false) : ¬ ws.length = m := fun e => by
  rw [eqv_int, len_sd, e] at h
  rw [beq_self_eq_true] at h
  cases h
theorem ifF {A B : Prop} (h : B) : if false = true then A else B := h

section
variable {P : Program} {w : World} {K : PySem.W.Frag} {mg : Str → Option Value} {base : Heap}
theorem ok__law_read_claim (c : Tx K w mg) : FnOk P w K mg base (L2.CX P w) 3 (He.ga K "_law_read_claim") (fdOf K (He.ga K "_law_read_claim")) ["_law_words_here"] (lift K (fun _ xs Q _ => ∃ ws : List Str, xs = [.d (.list (DW.sd ws))] ∧ WOk ws ∧ (∀ w ∈ ws, 32 ∉ TL.tl w) ∧ Q (.d (claimRaw ws))) 1) := by
  refine fn_ok c.fd__law_read_claim sc__law_read_claim rfl fun cdv A outer s I H E R hr => ⟨_, _, (dss_cons flat_of (ds_if (dt_cmp (op_notInX (hu65 hr)) rfl (od_notIn rfl) de_str (de_var (pv 0))) (dss_one (ds_ret de_non)) dss_nil)
      (dss_cons flat_of (ds_set (i := 1) sc__law_read_claim.nd rfl (by first | exact .inl rfl | exact .inr rfl) (de_meth (md_index rfl) (de_var (pv 0)) (da_cons de_str da_nil) rfl (fun q q' => pe_bm PySem.F.plainAttrs_list PySem.F.slot_list_index PySem.F.type_list_index (mt_indexD (hu65 hr)) q q')))
      (dss_one (ds_ret (de_tup (da_cons de_str (da_cons (de_fnC (ok__law_read_letter c) (hr.mono (by decide)) (by rfl) c.g__law_read_letter c.fd__law_read_letter.kp (bd__law_read_letter c) (takesC (takes_of rfl rfl rfl rfl)) rfl (da_cons (de_slice (de_var (pv 0)) do_none (do_some (de_var (pv 1))) rfl) da_nil)) (da_cons (de_fnC (ok__law_read_letter c) (hr.mono (by decide)) (by rfl) c.g__law_read_letter c.fd__law_read_letter.kp (bd__law_read_letter c) (takesC (takes_of rfl rfl rfl rfl)) rfl (da_cons (de_slice (de_var (pv 0)) (do_some (de_op op_cat' (od_add rfl) (de_var (pv 1)) de_int)) do_none rfl) da_nil)) da_nil)))))))), fun xs Qd Ed hl h => ?_⟩
  obtain ⟨ws, rfl, hw, free, h⟩ := h
  refine ⟨.str "/", _, rfl, rfl, by decide +kernel, shaped_sd hw.s, ?_⟩
  rw [any_sd]
  unfold claimRaw at h
  cases e : DW.idx "/" ws with
  | none =>
    rw [e] at h
    exact h
  | some k =>
    rw [e] at h
    obtain ⟨k1, k2⟩ := idx_spec e
    have hk : k < ws.length := (List.getElem?_eq_some_iff.mp k1).1
    refine ⟨⟨rfl, _, rfl⟩, DW.sd ws, .str "/", k, .str "/", rfl, rfl, shaped_sd hw.s, by decide +kernel, ?_, ?_, ?_, ?_⟩
    · unfold DW.sd
      rw [List.getElem?_map, k1]
      rfl
    · rw [eqv_str]; exact beq_self_eq_true _
    · intro m z' hm hz
      unfold DW.sd at hz
      rw [List.getElem?_map] at hz
      obtain ⟨y, hy, rfl⟩ := Option.map_eq_some_iff.mp hz
      rw [eqv_str]
      exact k2 m y hm hy
    · refine setG (δ' := [some (.d (.list (DW.sd ws))), some (.d (.int (k : Nat)))]) rfl ?_
      have e1 : PD.cut (DW.sd ws) none (some (k : Int)) = DW.sd (ws.take k) := by rw [cut_sd, cut_to]
      have e2 : PD.cut (DW.sd ws) (some ((k : Int) + 1)) none = DW.sd (ws.drop (k + 1)) := by rw [cut_sd, show ((k : Int) + 1) = ((k + 1 : Nat) : Int) by omega, cut_from]
      refine ⟨_, rfl, rfl, nn1, ws.take k, congrArg (fun x => [DV.d (.list x)]) e1, hw.take k, fun x hx => free x (List.mem_of_mem_take hx), ?_⟩
      refine ⟨_, rfl, rfl, nn1, ws.drop (k + 1), congrArg (fun x => [DV.d (.list x)]) e2, hw.drop (k + 1), fun x hx => free x (List.mem_of_mem_drop hx), ?_⟩
      exact ⟨(show 3 ≤ sizeLine by decide), h⟩

theorem ok__law_read_short (c : Tx K w mg) : FnOk P w K mg base (L2.CX P w) 2 (He.ga K "_law_read_short") (fdOf K (He.ga K "_law_read_short")) ["_law_word", "_law_words_here"] (lift K (fun _ xs Q _ => ∃ (w : Str) (ws : List Str), xs = [.d (.str w), .d (.list (DW.sd ws))] ∧ WOk (w :: ws) ∧ Q (.d (shortRaw w ws))) 2) := by
  refine fn_ok c.fd__law_read_short sc__law_read_short rfl fun cdv A outer s I H E R hr => ⟨_, _, (dss_cons flat_of (ds_if (dt_cmp (op_eqX (hu64 hr)) (nomark _) (od_eq rfl) (de_op op_cat' (od_add rfl) (de_lst (da_cons (de_var (pv 0)) da_nil)) (de_var (pv 1))) (de_lst (da_cons de_str da_nil))) (dss_one (ds_ret (de_tup (da_cons de_str da_nil)))) dss_nil)
      (dss_cons flat_of (ds_if (dw_and (dt_cmp (op_eqX (hu64 hr)) (nomark _) (od_eq rfl) (de_var (pv 0)) de_str) (dw_and1 (dt_cmp (op_eqX (hu64 hr)) (nomark _) (od_eq rfl) (de_callB call_len (cd_len rfl) (by rfl) c.f_len b_len (da_cons (de_var (pv 1)) da_nil)) de_int))).dt (dss_one (ds_ret (de_tup (da_cons de_str (da_cons (de_fnC (ok__law_number c) (hr.mono (by decide)) (by rfl) c.g__law_number c.fd__law_number.kp (bd__law_number c) (takesC (takes_of rfl rfl rfl rfl)) rfl (da_cons (de_ix (de_var (pv 1)) de_int (fun _ _ => rfl) rfl) da_nil)) da_nil))))) dss_nil)
      (dss_cons flat_of (ds_if (dw_and (dt_cmp (op_eqX (hu64 hr)) (nomark _) (od_eq rfl) (de_var (pv 0)) de_str) (dw_and (dt_cmp (op_eqX (hu64 hr)) (nomark _) (od_eq rfl) (de_callB call_len (cd_len rfl) (by rfl) c.f_len b_len (da_cons (de_var (pv 1)) da_nil)) de_int) (dw_and1 (dt_val (de_fnC (ok__law_name_is c) (hr.mono (by decide)) (by rfl) c.g__law_name_is c.fd__law_name_is.kp (bd__law_name_is c) (takesC (takes_of rfl rfl rfl rfl)) rfl (da_cons (de_ix (de_var (pv 1)) de_int (fun _ _ => rfl) rfl) da_nil)))))).dt (dss_one (ds_ret (de_tup (da_cons de_str (da_cons (de_ix (de_var (pv 1)) de_int (fun _ _ => rfl) rfl) da_nil))))) dss_nil)
      (dss_cons flat_of (ds_if (dw_or (dt_cmp (op_neX (hu64 hr)) (nomark _) (od_ne rfl) (de_var (pv 0)) de_str) (dw_or (dt_cmp (op_neX (hu64 hr)) (nomark _) (od_ne rfl) (de_callB call_len (cd_len rfl) (by rfl) c.f_len b_len (da_cons (de_var (pv 1)) da_nil)) de_int) (dw_or1 (dt_not (dt_val (de_fnC (ok__law_name_is c) (hr.mono (by decide)) (by rfl) c.g__law_name_is c.fd__law_name_is.kp (bd__law_name_is c) (takesC (takes_of rfl rfl rfl rfl)) rfl (da_cons (de_ix (de_var (pv 1)) de_int (fun _ _ => rfl) rfl) da_nil))))))).dt (dss_one (ds_ret de_non)) dss_nil)
      (dss_cons flat_of (ds_set (i := 2) sc__law_read_short.nd rfl (by first | exact .inl rfl | exact .inr rfl) (de_ix (de_var (pv 1)) de_int (fun _ _ => rfl) rfl))
      (dss_cons flat_of (ds_set (i := 3) sc__law_read_short.nd rfl (by first | exact .inl rfl | exact .inr rfl) (de_and (de_chain op_le op_le od_intB od_intB de_int (de_callB call_len (cd_len rfl) (by rfl) c.f_len b_len (da_cons (de_var (pv 2)) da_nil)) de_int) (de_one (de_cmp (op_eqX (hu64 hr)) (nomark _) (od_eq rfl) (de_lc (own := [("_law_sign", 4)]) rfl sc__law_read_short.nd (di_any (de_var (pv 2)) rfl) (blkOk_by (N := ["_law_word", "_law_words_here", "_law_key_here", "_law_good", "_law_sign"]) (sc := defScope (top 64)) (by decide +kernel)) (fun _ _ _ _ _ => (dg_name (i := 4) sc__law_read_short.nd rfl (by first | exact .inl rfl | exact .inr rfl))) (fun _ _ _ _ _ => (dts_one (dt_cmp (op_notInX (hu65 hr)) rfl (od_notIn rfl) (de_var (pv 4)) de_str))) (fun _ _ _ _ _ => (de_var (pv 4))) (tgt_name (by decide)) s) (de_lst da_nil)))))
      (dss_one (ds_ret (de_if (dt_val (de_var (pv 3))) (de_tup (da_cons de_str (da_cons (de_ix (de_var (pv 1)) de_int (fun _ _ => rfl) rfl) (da_cons (de_var (pv 2)) da_nil)))) de_non))))))))), fun xs Qd Ed hl h => ?_⟩
  obtain ⟨w, ws, rfl, hww, h⟩ := h
  have hw := hww.tail
  have hwo := hww.s w List.mem_cons_self
  have hat : ∀ {i : Nat}, i < ws.length → (DW.at_ ws i).length ≤ 80000 ∧ PyData.strOk (DW.at_ ws i) = true := fun hi => ⟨hw.mem (at_mem hi), hw.s _ (at_mem hi)⟩
  have sh : SeqAt.shaped (.list ([PyData.str w] ++ DW.sd ws)) = true := shaped_sd (ws := w :: ws) hww.s
  have hn := hww.len
  rw [List.length_cons] at hn
  unfold shortRaw at h
  refine ⟨(show 1 ≤ sizeLine by decide), by rw [len_sd]; exact Nat.le_trans (show 1 + ws.length ≤ 80000 by omega) (by decide), (show 1 ≤ sizeLine by decide), .inr ⟨sh, by decide +kernel⟩, ?_⟩
  refine bKG (fun b1 => ?_) fun b1 => ?_
  · have b1 : PyData.eqv (.list ([PyData.str w] ++ DW.sd ws)) (.list [.str "day"]) = true := b1
    rw [eqv_day, Bool.and_eq_true] at b1
    rw [if_pos ⟨eq_of_beq b1.1, List.isEmpty_iff.mp b1.2⟩] at h
    exact ⟨(show 1 ≤ sizeLine by decide), h⟩
  have b1 : PyData.eqv (.list ([PyData.str w] ++ DW.sd ws)) (.list [.str "day"]) = false := b1
  rw [eqv_day] at b1
  rw [if_neg fun k => by rw [k.1, k.2] at b1; cases b1] at h
  refine ifF ?_
  dsimp only [dNext]
  refine seqI (fun δ' => δ' = [some (.d (.str w)), some (.d (.list (DW.sd ws))), none, none, none] ∧ ¬ ((w == ("tick" : Str)) = true ∧ ws.length = 1)) ?_ fun N hN => ?_
  rotate_left
  · refine ⟨.inl rfl, bKG (fun b2 => ?_) fun b2 => ?_⟩
    · have b2 : PyData.eqv (.str w) (.str "tick") = true := b2
      rw [eqv_str] at b2
      refine ⟨_, rfl, .inl rfl, bKG (fun b3 => ?_) fun b3 => ?_⟩
      · have e3 : ws.length = 1 := lenI (m := 1) b3
        rw [if_pos ⟨b2, e3⟩] at h
        have i0 : 0 < ws.length := by omega
        exact ⟨_, .str (DW.at_ ws 0), rfl, atI_nat (j := 0) (at_get i0), rfl, nn1, DW.at_ ws 0, rfl, (hat i0).1, (hat i0).2, (show 2 ≤ sizeLine by decide), h⟩
      · exact hN _ ⟨rfl, fun k => lenN (m := 1) b3 k.2⟩
    · have b2 : PyData.eqv (.str w) (.str "tick") = false := b2
      rw [eqv_str] at b2
      exact hN _ ⟨rfl, fun k => by rw [b2] at k; cases k.1⟩
  rintro _ ⟨rfl, no2⟩
  rw [if_neg no2] at h
  refine seqI (fun δ' => δ' = [some (.d (.str w)), some (.d (.list (DW.sd ws))), none, none, none] ∧ ¬ ((w == ("round" : Str)) = true ∧ ws.length = 1 ∧ DW.wordOk 8 (DW.at_ ws 0) = true)) ?_ fun N hN => ?_
  rotate_left
  · refine ⟨.inl rfl, bKG (fun b2 => ?_) fun b2 => ?_⟩
    · have b2 : PyData.eqv (.str w) (.str "round") = true := b2
      rw [eqv_str] at b2
      refine ⟨_, rfl, .inl rfl, bKG (fun b3 => ?_) fun b3 => ?_⟩
      · have e3 : ws.length = 1 := lenI (m := 1) b3
        have i0 : 0 < ws.length := by omega
        refine ⟨_, .str (DW.at_ ws 0), rfl, atI_nat (j := 0) (at_get i0), rfl, nn1, DW.at_ ws 0, rfl, (hat i0).1, (hat i0).2, bKG (fun b4 => ?_) fun b4 => ?_⟩
        · rw [if_pos ⟨b2, e3, b4⟩] at h
          exact ⟨_, .str (DW.at_ ws 0), rfl, atI_nat (j := 0) (at_get i0), (show 2 ≤ sizeLine by decide), h⟩
        · exact hN _ ⟨rfl, fun k => by rw [b4] at k; cases k.2.2⟩
      · exact hN _ ⟨rfl, fun k => lenN (m := 1) b3 k.2.1⟩
    · have b2 : PyData.eqv (.str w) (.str "round") = false := b2
      rw [eqv_str] at b2
      exact hN _ ⟨rfl, fun k => by rw [b2] at k; cases k.1⟩
  rintro _ ⟨rfl, no3⟩
  rw [if_neg no3] at h
  refine seqI (fun δ' => δ' = [some (.d (.str w)), some (.d (.list (DW.sd ws))), none, none, none] ∧ (w == ("member" : Str)) = true ∧ ws.length = 2 ∧ DW.wordOk 8 (DW.at_ ws 0) = true) ?_ fun N hN => ?_
  rotate_left
  · refine ⟨.inl rfl, bKG (fun b2 => ?_) fun b2 => ?_⟩
    · have b2 : (!PyData.eqv (.str w) (.str "member")) = true := b2
      rw [eqv_str] at b2
      rw [if_neg fun k => by rw [k.1] at b2; cases b2] at h
      exact h
    · have b2 : (!PyData.eqv (.str w) (.str "member")) = false := b2
      rw [eqv_str] at b2
      have b2 := nott b2
      refine ⟨_, rfl, .inl rfl, bKG (fun b3 => ?_) fun b3 => ?_⟩
      · have b3 : (!PyData.eqv (.int ((DW.sd ws).length : Nat)) (.int (2 : Nat))) = true := b3
        rw [if_neg fun k => lenN (m := 2) (notf b3) k.2.1] at h
        exact h
      · have b3 : (!PyData.eqv (.int ((DW.sd ws).length : Nat)) (.int (2 : Nat))) = false := b3
        have e3 : ws.length = 2 := lenI (m := 2) (nott b3)
        have i0 : 0 < ws.length := by omega
        refine ⟨_, .str (DW.at_ ws 0), rfl, atI_nat (j := 0) (at_get i0), rfl, nn1, DW.at_ ws 0, rfl, (hat i0).1, (hat i0).2, bKG (fun b4 => ?_) fun b4 => ?_⟩
        · exact hN _ ⟨rfl, b2, e3, b4⟩
        · rw [if_neg fun k => by rw [b4] at k; cases k.2.2.1] at h
          exact h
  rintro _ ⟨rfl, c1, c2, c3⟩
  have i0 : 0 < ws.length := by omega
  have i1 : 1 < ws.length := by omega
  refine ⟨_, .str (DW.at_ ws 1), rfl, atI_nat (j := 1) (at_get i1), ?_⟩
  generalize hk : DW.at_ ws 1 = key at h
  have hl := (hat i1).1
  have ho := (hat i1).2
  rw [hk] at hl ho
  refine setG (δ' := [some (.d (.str w)), some (.d (.list (DW.sd ws))), some (.d (.str key)), none, none]) rfl ?_
  have hz := sz80 hl
  have good : (DW.wordOk 20 key = true → Qd (.d (.tuple [.str "member", .str (DW.at_ ws 0), .str key]))) ∧ (DW.wordOk 20 key = false → Qd (.d .none)) := by
    refine ⟨fun e => ?_, fun e => ?_⟩
    · rw [if_pos ⟨c1, c2, c3, e⟩] at h
      exact h
    · rw [if_neg fun k => by rw [e] at k; cases k.2.2.2] at h
      exact h
  dsimp only
  refine seqI (fun δ' => δ' = [some (.d (.str w)), some (.d (.list (DW.sd ws))), some (.d (.str key)), some (.d (.bool (DW.wordOk 20 key))), none]) ?_ fun N hN => ?_
  · rintro _ rfl
    cases e : DW.wordOk 20 key with
    | true => exact ⟨_, .str (DW.at_ ws 0), rfl, atI_nat (j := 0) (at_get i0), (show 3 ≤ sizeLine by decide), good.1 e⟩
    | false => exact good.2 e
  · have fin : ∀ b : Bool, b = DW.wordOk 20 key → N [some (.d (.str w)), some (.d (.list (DW.sd ws))), some (.d (.str key)), some (.d (.bool b)), none] := fun b e => hN _ (by rw [e])
    refine ⟨hz, ?_⟩
    refine iteG (fun b1 => ?_) fun b1 => fin false (by simp only [DW.wordOk, b1, Bool.false_and])
    refine iteG (fun b2 => ?_) fun b2 => fin false (by simp only [DW.wordOk, b1, b2, Bool.false_and, Bool.and_false])
    refine ⟨hz, lcGo_filter (p := offS DW.L26) (fun a ha KK kk => ?_) ?_⟩
    · obtain ⟨cc, _, rfl⟩ := List.mem_map.mp ha
      exact ⟨cc, rfl, kk⟩
    · refine ⟨Nat.zero_le _, .inr ⟨filt_shaped ho, shaped_nil⟩, fin _ ?_⟩
      rw [eqv_nil, List.nil_append, filt_none]
      simp only [DW.wordOk, b1, b2, Bool.true_and]
      rfl

end
end K87
set_option Elab.async false
set_option linter.all false
set_option maxRecDepth 100000
set_option maxHeartbeats 4000000
namespace K87
open PySem PySem.Spec PyProof.Rows L2 PD
def outc : PyData → PyData
  | .tuple xs => if (xs.any fun z => PyData.eqv z .none) = true then .none else .tuple xs
  | _ => .none
def getN (o : Option PyData) : PyData := o.getD .none
theorem outc_tupO (w : Str) {os : List (Option PyData)} (h : ∀ o ∈ os, ∀ y, o = some y → PyData.eqv y .none = false) : outc (.tuple (.str w :: os.map getN)) = (DW.tupO w os).getD .none := by
  have key : ((os.map getN).any fun z => PyData.eqv z .none) = (DW.allO os).isNone ∧ ∀ ys, DW.allO os = some ys → os.map getN = ys := by
    induction os with
    | nil => exact ⟨rfl, fun ys e => by cases e; rfl⟩
    | cons o os ih =>
      obtain ⟨h1, h2⟩ := ih fun o ho => h o (List.mem_cons_of_mem _ ho)
      cases o with
      | none => exact ⟨by simp [getN, PyData.eqv, DW.allO], fun ys e => by cases e⟩
      | some y =>
        have hy := h (some y) List.mem_cons_self y rfl
        refine ⟨?_, fun ys e => ?_⟩
        · rw [List.map_cons, List.any_cons, show getN (some y) = y from rfl, hy, Bool.false_or, h1]
          show _ = ((DW.allO os).map (y :: ·)).isNone
          cases DW.allO os <;> rfl
        · have e : (DW.allO os).map (y :: ·) = some ys := e
          obtain ⟨r, e1, rfl⟩ := Option.map_eq_some_iff.mp e
          rw [List.map_cons, h2 r e1]
          rfl
  obtain ⟨k1, k2⟩ := key
  show (if ((PyData.str w :: os.map getN).any fun z => PyData.eqv z .none) = true then PyData.none else .tuple (.str w :: os.map getN)) = _
  rw [List.any_cons, eqv_strN, Bool.false_or, k1]
  unfold DW.tupO
  cases e : DW.allO os with
  | none => rfl
  | some ys => rw [k2 ys e]; rfl
/-- what the law's reader found ahead of its last row -/
def rawOk (raw : PyData) : Prop := raw = .none ∨ ∃ xs, raw = .tuple xs ∧ ∀ x ∈ xs, flatOk x
theorem read_tail {i : Nat} {δ : DEnv} {D : DEnds} {E : EK} {raw : PyData} (hδ : δ[i]? = some (some (.d raw))) (fl : rawOk raw) (h : D.rt (.d (outc raw))) :
    dRet (dIf (dOrT (dB (dBin (fun x y Q E => (∀ u, x = .v u → u ≠ V.non) ∧ oIsN (fun b => b) x y Q E) (dVar i) (dC (.d .none)))) (dB (dBin oIn (dC (.d .none)) (dVar i)))) (dC (.d .none)) (dVar i)) D E δ := by
  have hv : ∀ {Q : DK} {E : EK}, Q (.d raw) → dVar i δ Q E := fun {Q E} q => by
    unfold dVar
    rw [hδ]
    exact q
  unfold dRet dIf dOrT dB dBin
  refine hv ?_
  rcases fl with rfl | ⟨xs, rfl, hx⟩
  · exact ⟨nE, h⟩
  · refine ⟨nE, ?_⟩
    simp only [oIsN, PD.isNon, bK, Bool.false_eq_true, if_false, dC]
    refine hv ⟨.none, rfl, shaped_none, shaped_tup hx, ?_⟩
    have h : D.rt (.d (if (xs.any fun z => PyData.eqv z .none) = true then .none else .tuple xs)) := h
    refine bKG (fun b => ?_) fun b => ?_
    · have b : (xs.any fun z => PyData.eqv z .none) = true := b
      rw [if_pos b] at h
      exact h
    · have b : (xs.any fun z => PyData.eqv z .none) = false := b
      rw [if_neg (by rw [b]; decide)] at h
      exact hv (E := E) h
theorem eqvN_str {z : Str} : PyData.eqv (.str z) .none = false := eqv_strN z
theorem eqvN_int {i : Int} : PyData.eqv (.int i) .none = false := by simp [PyData.eqv]
theorem eqvN_tup {xs : List PyData} : PyData.eqv (.tuple xs) .none = false := by simp [PyData.eqv]
theorem nnName {w : Str} {y : PyData} (h : DW.readName w = some y) : PyData.eqv y .none = false := by
  obtain ⟨rfl, _⟩ := DW.readName_inv h
  exact eqvN_str
theorem nnNum {w : Str} {y : PyData} (h : DW.readNum w = some y) : PyData.eqv y .none = false := by
  obtain ⟨i, rfl, _⟩ := DW.readNum_inv h
  exact eqvN_int
theorem nnNames {ws : List Str} {y : PyData} (h : DW.readNames ws = some y) : PyData.eqv y .none = false := by
  obtain ⟨rfl, _⟩ := DW.readNames_inv h
  exact eqvN_tup
theorem nnClock {ws : List Str} {y : PyData} (h : DW.readClock ws = some y) : PyData.eqv y .none = false := by
  obtain ⟨c, _, rfl, _⟩ := readClock_inv h
  exact eqvN_tup
theorem nnLetter {ws : List Str} {y : PyData} (free : ∀ w ∈ ws, 32 ∉ TL.tl w) (h : DW.readLetterOf ws = some y) : PyData.eqv y .none = false := by
  obtain ⟨l, _, rfl, _⟩ := DW.readLetter_inv free h
  exact eqvN_tup
theorem flat_names (ws : List Str) (h : ∀ x ∈ ws, PyData.strOk x = true) : flatOk (getN (DW.readNames ws)) := by
  cases e : DW.readNames ws with
  | none => exact flat_none
  | some y =>
    obtain ⟨rfl, _⟩ := DW.readNames_inv e
    refine ⟨by show PyData.canLay0 (.tuple (DW.sd ws)) = true; simpa only [PyData.canLay0] using lay_sd h, ?_⟩
    show PyData.depthAll (DW.sd ws) + 1 ≤ 4
    rw [depth_sd]
    decide
theorem flat_clock (ws : List Str) : flatOk (getN (DW.readClock ws)) := by
  cases e : DW.readClock ws with
  | none => exact flat_none
  | some y =>
    obtain ⟨c, ok, rfl, _⟩ := readClock_inv e
    have r := rp_ck ok
    exact ⟨r.lay, Nat.le_trans r.dep (by decide)⟩
theorem flat_letter {ws : List Str} (free : ∀ w ∈ ws, 32 ∉ TL.tl w) : flatOk (getN (DW.readLetterOf ws)) := by
  cases e : DW.readLetterOf ws with
  | none => exact flat_none
  | some y =>
    obtain ⟨l, ok, rfl, _⟩ := DW.readLetter_inv free e
    have r := rp_lt ok.ok (ltR_fit ok)
    exact ⟨r.lay, Nat.le_trans r.dep (by decide)⟩
theorem getNum (w : Str) : getN (DW.readNum w) = DW.optI (DW.numIn w) := by
  unfold getN DW.readNum
  cases DW.numIn w <;> rfl
theorem getName {w : Str} (h : DW.wordOk 8 w = true) : getN (DW.readName w) = .str w := by rw [DW.readName_ok h]; rfl
theorem one_some {P : Option PyData → Prop} {o : Option PyData} (h : P o) : ∀ x ∈ [o], P x := fun x hx => by rw [List.mem_singleton.mp hx]; exact h
theorem claim_out {ws : List Str} (free : ∀ w ∈ ws, 32 ∉ TL.tl w) : rawOk (claimRaw ws) ∧ outc (claimRaw ws) = (DW.readClaim ws).getD .none := by
  unfold claimRaw DW.readClaim
  cases e : DW.idx "/" ws with
  | none => exact ⟨.inl rfl, rfl⟩
  | some k =>
    have f1 : ∀ w ∈ ws.take k, 32 ∉ TL.tl w := fun w hw => free w (List.mem_of_mem_take hw)
    have f2 : ∀ w ∈ ws.drop (k + 1), 32 ∉ TL.tl w := fun w hw => free w (List.mem_of_mem_drop hw)
    refine ⟨.inr ⟨_, rfl, fun x hx => ?_⟩, outc_tupO "claim" (os := [DW.readLetterOf (ws.take k), DW.readLetterOf (ws.drop (k + 1))]) fun o ho y hy => ?_⟩
    · simp only [List.mem_cons, List.not_mem_nil, or_false] at hx
      rcases hx with rfl | rfl | rfl
      · exact flat_str (by decide +kernel)
      · exact flat_letter f1
      · exact flat_letter f2
    · simp only [List.mem_cons, List.not_mem_nil, or_false] at ho
      rcases ho with rfl | rfl
      · exact nnLetter f1 hy
      · exact nnLetter f2 hy
theorem hear_out {ws : List Str} (free : ∀ w ∈ ws, 32 ∉ TL.tl w) : rawOk (.tuple [.str "hear", (DW.readLetterOf ws).getD .none]) ∧ outc (.tuple [.str "hear", (DW.readLetterOf ws).getD .none]) = (DW.tupO "hear" [DW.readLetterOf ws]).getD .none := by
  refine ⟨.inr ⟨_, rfl, fun x hx => ?_⟩, outc_tupO "hear" (os := [DW.readLetterOf ws]) (one_some fun y hy => nnLetter free hy)⟩
  simp only [List.mem_cons, List.not_mem_nil, or_false] at hx
  rcases hx with rfl | rfl
  · exact flat_str (by decide +kernel)
  · exact flat_letter free
/-- the short rows -/
theorem short_out {w : Str} {ws : List Str} (hw : ∀ x ∈ ws, PyData.strOk x = true) (h1 : (w == ("open" : Str)) = false) (h2 : (w == ("cup" : Str)) = false) (h3 : (w == ("claim" : Str)) = false) (h4 : (w == ("hear" : Str)) = false) :
    rawOk (shortRaw w ws) ∧ outc (shortRaw w ws) = (DW.readWords w ws).getD .none := by
  have sat : ∀ {i : Nat}, i < ws.length → PyData.strOk (DW.at_ ws i) = true := fun hi => hw _ (at_mem hi)
  unfold shortRaw DW.readWords
  rw [h1, h2, h3, h4]
  simp only [Bool.false_eq_true, if_false]
  by_cases d : w = "day" ∧ ws = []
  · rw [if_pos d]
    obtain ⟨rfl, rfl⟩ := d
    exact ⟨.inr ⟨_, rfl, fun x hx => by rw [List.mem_singleton.mp hx]; exact flat_str (by decide +kernel)⟩, by rw [if_neg (by decide), if_neg (by decide), if_pos (by decide), if_pos List.length_nil]; rfl⟩
  rw [if_neg d]
  by_cases t : (w == ("tick" : Str)) = true ∧ ws.length = 1
  · rw [if_pos t]
    have e := eq_of_beq t.1
    subst e
    refine ⟨.inr ⟨_, rfl, fun x hx => ?_⟩, ?_⟩
    · simp only [List.mem_cons, List.not_mem_nil, or_false] at hx
      rcases hx with rfl | rfl
      · exact flat_str (by decide +kernel)
      · exact flat_optI _
    · rw [if_neg (by decide), if_pos (by decide), if_pos t.2, ← outc_tupO "tick" (os := [DW.readNum (DW.at_ ws 0)]) (one_some fun y hy => nnNum hy)]
      rw [← getNum]
      rfl
  rw [if_neg t]
  by_cases r : (w == ("round" : Str)) = true ∧ ws.length = 1 ∧ DW.wordOk 8 (DW.at_ ws 0) = true
  · rw [if_pos r]
    have e := eq_of_beq r.1
    subst e
    refine ⟨.inr ⟨_, rfl, fun x hx => ?_⟩, ?_⟩
    · simp only [List.mem_cons, List.not_mem_nil, or_false] at hx
      rcases hx with rfl | rfl
      · exact flat_str (by decide +kernel)
      · exact flat_str (sat (by omega))
    · rw [if_neg (by decide), if_neg (by decide), if_neg (by decide), if_pos (by decide), if_pos r.2.1, ← outc_tupO "round" (os := [DW.readName (DW.at_ ws 0)]) (one_some fun y hy => nnName hy)]
      rw [List.map_cons, getName r.2.2]
      rfl
  rw [if_neg r]
  by_cases m : (w == ("member" : Str)) = true ∧ ws.length = 2 ∧ DW.wordOk 8 (DW.at_ ws 0) = true ∧ DW.wordOk 20 (DW.at_ ws 1) = true
  · rw [if_pos m]
    have e := eq_of_beq m.1
    subst e
    refine ⟨.inr ⟨_, rfl, fun x hx => ?_⟩, ?_⟩
    · simp only [List.mem_cons, List.not_mem_nil, or_false] at hx
      rcases hx with rfl | rfl | rfl
      · exact flat_str (by decide +kernel)
      · exact flat_str (sat (by omega))
      · exact flat_str (sat (by omega))
    · rw [if_pos (by decide), if_pos ⟨m.2.1, m.2.2.2⟩, ← outc_tupO "member" (os := [DW.readName (DW.at_ ws 0), some (.str (DW.at_ ws 1))]) fun o ho y hy => ?_]
      · rw [List.map_cons, getName m.2.2.1]
        rfl
      · simp only [List.mem_cons, List.not_mem_nil, or_false] at ho
        rcases ho with rfl | rfl
        · exact nnName hy
        · cases hy; exact eqvN_str
  rw [if_neg m]
  refine ⟨.inl rfl, ?_⟩
  show PyData.none = _
  by_cases hm : (w == ("member" : Str)) = true
  · rw [if_pos hm]
    by_cases k : ws.length = 2 ∧ DW.wordOk 20 (DW.at_ ws 1) = true
    · rw [if_pos k]
      have hn : DW.readName (DW.at_ ws 0) = none := by
        unfold DW.readName
        exact if_neg fun q => m ⟨hm, k.1, q, k.2⟩
      rw [tupO_none (by rw [hn]; exact List.mem_cons_self)]
      rfl
    · rw [if_neg k]; rfl
  rw [if_neg hm]
  by_cases ht : (w == ("tick" : Str)) = true
  · rw [if_pos ht, if_neg fun k => t ⟨ht, k⟩]; rfl
  rw [if_neg ht]
  by_cases hd : (w == ("day" : Str)) = true
  · rw [if_pos hd, if_neg fun k => d ⟨eq_of_beq hd, List.length_eq_zero_iff.mp k⟩]; rfl
  rw [if_neg hd]
  by_cases hr : (w == ("round" : Str)) = true
  · rw [if_pos hr]
    by_cases k : ws.length = 1
    · rw [if_pos k]
      have hn : DW.readName (DW.at_ ws 0) = none := by
        unfold DW.readName
        exact if_neg fun q => r ⟨hr, k, q⟩
      rw [tupO_none (by rw [hn]; exact List.mem_cons_self)]
      rfl
    · rw [if_neg k]; rfl
  rw [if_neg hr]
  rfl

section
variable {P : Program} {w : World} {K : PySem.W.Frag} {mg : Str → Option Value} {base : Heap}
theorem ok__law_read (c : Tx K w mg) : FnOk P w K mg base (L2.CX P w) 4 (He.ga K "_law_read") (fdOf K (He.ga K "_law_read")) ["_law_writing"] (lift K (fun _ xs Q _ => ∃ z : Str, xs = [.d (.str z)] ∧ z.length ≤ 79000 ∧ PyData.strOk z = true ∧ Q (.d ((DW.readDeed (.str z)).getD .none))) 1) := by
  refine fn_ok c.fd__law_read sc__law_read rfl fun cdv A outer s I H E R hr => ⟨_, _, (dss_cons flat_of (ds_par (i := 1) (j := 2) rfl sc__law_read.nd rfl rfl (by decide) rfl rfl (da_cons (de_ix (de_meth (md_split) (de_var (pv 0)) (da_cons de_str da_nil) rfl (fun q q' => pe_bm PySem.F.plainAttrs_str PySem.F.slot_str_split PySem.F.type_str_split (mt_split) q q')) de_int (fun _ _ => rfl) rfl) (da_cons (de_slice (de_meth (md_split) (de_var (pv 0)) (da_cons de_str da_nil) rfl (fun q q' => pe_bm PySem.F.plainAttrs_str PySem.F.slot_str_split PySem.F.type_str_split (mt_split) q q')) (do_some de_int) do_none rfl) da_nil)) rfl)
      (dss_cons flat_of (ds_set (i := 3) sc__law_read.nd rfl (by first | exact .inl rfl | exact .inr rfl) (de_fnC (ok__law_read_short c) (hr.mono (by decide)) (by rfl) c.g__law_read_short c.fd__law_read_short.kp (bd__law_read_short c) (takesC (takes_of rfl rfl rfl rfl)) rfl (da_cons (de_var (pv 1)) (da_cons (de_var (pv 2)) da_nil))))
      (dss_cons flat_of (ds_if (dt_cmp (op_eqX (hu64 hr)) (nomark _) (od_eq rfl) (de_var (pv 1)) de_str) (dss_one (ds_set (i := 3) sc__law_read.nd rfl (by first | exact .inl rfl | exact .inr rfl) (de_tup (da_cons de_str (da_cons (de_fnC (ok__law_read_letter c) (hr.mono (by decide)) (by rfl) c.g__law_read_letter c.fd__law_read_letter.kp (bd__law_read_letter c) (takesC (takes_of rfl rfl rfl rfl)) rfl (da_cons (de_var (pv 2)) da_nil)) da_nil))))) dss_nil)
      (dss_cons flat_of (ds_if (dt_cmp (op_eqX (hu64 hr)) (nomark _) (od_eq rfl) (de_var (pv 1)) de_str) (dss_one (ds_set (i := 3) sc__law_read.nd rfl (by first | exact .inl rfl | exact .inr rfl) (de_fnC (ok__law_read_claim c) (hr.mono (by decide)) (by rfl) c.g__law_read_claim c.fd__law_read_claim.kp (bd__law_read_claim c) (takesC (takes_of rfl rfl rfl rfl)) rfl (da_cons (de_var (pv 2)) da_nil)))) dss_nil)
      (dss_cons flat_of (ds_if (dw_and (dt_cmp (op_eqX (hu64 hr)) (nomark _) (od_eq rfl) (de_var (pv 1)) de_str) (dw_and (dt_cmp op_gt (nomark _) od_intB (de_callB call_len (cd_len rfl) (by rfl) c.f_len b_len (da_cons (de_var (pv 2)) da_nil)) de_int) (dw_and1 (dt_cmp op_notN (nomark _) od_notN (de_fnC (ok__law_names_of c) (hr.mono (by decide)) (by rfl) c.g__law_names_of c.fd__law_names_of.kp (bd__law_names_of c) (takesC (takes_of rfl rfl rfl rfl)) rfl (da_cons (de_slice (de_var (pv 2)) do_none (do_some de_int) rfl) da_nil)) de_non)))).dt (dss_one (ds_set (i := 3) sc__law_read.nd rfl (by first | exact .inl rfl | exact .inr rfl) (de_tup (da_cons de_str (da_cons (de_ix (de_var (pv 2)) de_int (fun _ _ => rfl) rfl) (da_cons (de_ix (de_var (pv 2)) de_int (fun _ _ => rfl) rfl) (da_cons (de_fnC (ok__law_names_of c) (hr.mono (by decide)) (by rfl) c.g__law_names_of c.fd__law_names_of.kp (bd__law_names_of c) (takesC (takes_of rfl rfl rfl rfl)) rfl (da_cons (de_slice (de_var (pv 2)) (do_some de_int) (do_some (de_un un_neg ud_neg de_int)) rfl) da_nil)) (da_cons (de_fnC (ok__law_read_clock c) (hr.mono (by decide)) (by rfl) c.g__law_read_clock c.fd__law_read_clock.kp (bd__law_read_clock c) (takesC (takes_of rfl rfl rfl rfl)) rfl (da_cons (de_slice (de_var (pv 2)) (do_some (de_un un_neg ud_neg de_int)) do_none rfl) da_nil)) da_nil)))))))) dss_nil)
      (dss_cons flat_of (ds_if (dw_and (dt_cmp (op_eqX (hu64 hr)) (nomark _) (od_eq rfl) (de_var (pv 1)) de_str) (dw_and (dt_cmp op_gt (nomark _) od_intB (de_callB call_len (cd_len rfl) (by rfl) c.f_len b_len (da_cons (de_var (pv 2)) da_nil)) de_int) (dw_and (dt_val (de_fnC (ok__law_name_is c) (hr.mono (by decide)) (by rfl) c.g__law_name_is c.fd__law_name_is.kp (bd__law_name_is c) (takesC (takes_of rfl rfl rfl rfl)) rfl (da_cons (de_ix (de_var (pv 2)) de_int (fun _ _ => rfl) rfl) da_nil))) (dw_and1 (dt_val (de_fnC (ok__law_name_is c) (hr.mono (by decide)) (by rfl) c.g__law_name_is c.fd__law_name_is.kp (bd__law_name_is c) (takesC (takes_of rfl rfl rfl rfl)) rfl (da_cons (de_ix (de_var (pv 2)) de_int (fun _ _ => rfl) rfl) da_nil))))))).dt (dss_cons flat_of (ds_par (i := 4) (j := 5) rfl sc__law_read.nd rfl rfl (by decide) rfl rfl (da_cons (de_fnC (ok__law_names_of c) (hr.mono (by decide)) (by rfl) c.g__law_names_of c.fd__law_names_of.kp (bd__law_names_of c) (takesC (takes_of rfl rfl rfl rfl)) rfl (da_cons (de_slice (de_var (pv 2)) (do_some de_int) do_none rfl) da_nil)) (da_cons (de_fnC (ok__law_read_clock c) (hr.mono (by decide)) (by rfl) c.g__law_read_clock c.fd__law_read_clock.kp (bd__law_read_clock c) (takesC (takes_of rfl rfl rfl rfl)) rfl (da_cons (de_slice (de_var (pv 2)) (do_some de_int) (do_some de_int) rfl) da_nil)) da_nil)) rfl)
      (dss_one (ds_set (i := 3) sc__law_read.nd rfl (by first | exact .inl rfl | exact .inr rfl) (de_tup (da_cons de_str (da_cons (de_ix (de_var (pv 2)) de_int (fun _ _ => rfl) rfl) (da_cons (de_var (pv 4)) (da_cons (de_fnC (ok__law_number c) (hr.mono (by decide)) (by rfl) c.g__law_number c.fd__law_number.kp (bd__law_number c) (takesC (takes_of rfl rfl rfl rfl)) rfl (da_cons (de_ix (de_var (pv 2)) de_int (fun _ _ => rfl) rfl) da_nil)) (da_cons (de_ix (de_var (pv 2)) de_int (fun _ _ => rfl) rfl) (da_cons (de_var (pv 5)) da_nil)))))))))) dss_nil)
      (dss_one (ds_ret (de_if (dw_or (dt_cmp op_isN (nomark _) od_isN (de_var (pv 3)) de_non) (dw_or1 (dt_cmp (op_inX (hu65 hr)) rfl (od_in rfl) de_non (de_var (pv 3))))).dt de_non (de_var (pv 3))))))))))), fun xs Qd Ed hl h => ?_⟩
  obtain ⟨z, rfl, hl0, ho, h⟩ := h
  have hww := split_wok hl0 ho
  have free0 := split_sp z
  have hne := split_ne z
  have hl2 := split_le z " "
  have a1 : z.length + 2 ≤ sizeLine := Nat.le_trans (Nat.add_le_add_right hl0 2) (by decide)
  have a2 : (Txt.split z " ").length ≤ sizeLine := Nat.le_trans hl2 a1
  have h : Qd (.d ((match Txt.split z " " with | w :: ws => DW.readWords w ws | [] => none).getD .none)) := h
  obtain ⟨w, ws, es⟩ := List.exists_cons_of_ne_nil hne
  have e0 : (Txt.split z " ").map PyData.str = .str w :: DW.sd ws := by rw [es]; rfl
  have e1 : PD.cut ((Txt.split z " ").map PyData.str) (some 1) none = DW.sd ws := by
    rw [e0, show (some (1 : Int)) = some ((1 : Nat) : Int) from rfl, cut_from]
    rfl
  rw [es] at h hww free0
  have h : Qd (.d ((DW.readWords w ws).getD .none)) := h
  have free : ∀ x ∈ ws, 32 ∉ TL.tl x := fun x hx => free0 x (List.mem_cons_of_mem _ hx)
  have hw := hww.tail
  refine ⟨rfl, rfl, a1, a2, _, .str w, rfl, by rw [e0]; exact at0, rfl, rfl, a1, a2, _, rfl, ?_⟩
  rw [e1]
  dsimp only [dNil, dName, froz]
  show dSeq _ _ _ _ [some (.d (.str z)), some (.d (.str w)), some (.d (.list (DW.sd ws))), none, none, none]
  refine ⟨rfl, nn2, w, ws, rfl, hww, ?_⟩
  refine setG (δ' := [some (.d (.str z)), some (.d (.str w)), some (.d (.list (DW.sd ws))), some (.d (shortRaw w ws)), none, none]) rfl ?_
  cases b1 : w == ("hear" : Str) with
  | true =>
    have ew := eq_of_beq b1
    subst ew
    have h : Qd (.d ((DW.tupO "hear" [DW.readLetterOf ws]).getD .none)) := h
    obtain ⟨o1, o2⟩ := hear_out free
    rw [← o2] at h
    refine ⟨.inl rfl, ?_⟩
    refine takeB (by decide) ?_
    refine ⟨rfl, nn1, ws, rfl, hw, free, (show 2 ≤ sizeLine by decide), ?_⟩
    refine setG (δ' := [some (.d (.str z)), some (.d (.str "hear")), some (.d (.list (DW.sd ws))), some (.d (.tuple [.str "hear", (DW.readLetterOf ws).getD .none])), none, none]) rfl ?_
    refine ⟨.inl rfl, skipB (by decide) ⟨.inl rfl, skipB (by decide) ⟨.inl rfl, skipB (by decide) ?_⟩⟩⟩
    refine ifF ?_
    dsimp only [dNext]
    refine read_tail (i := 3) rfl o1 ?_
    exact h
  | false =>
  cases b2 : w == ("claim" : Str) with
  | true =>
    have ew := eq_of_beq b2
    subst ew
    have h : Qd (.d ((DW.readClaim ws).getD .none)) := h
    obtain ⟨o1, o2⟩ := claim_out free
    rw [← o2] at h
    refine ⟨.inl rfl, skipB (by decide) ⟨.inl rfl, takeB (by decide) ?_⟩⟩
    refine ⟨rfl, nn1, ws, rfl, hw, free, ?_⟩
    refine setG (δ' := [some (.d (.str z)), some (.d (.str "claim")), some (.d (.list (DW.sd ws))), some (.d (claimRaw ws)), none, none]) rfl ?_
    refine ⟨.inl rfl, skipB (by decide) ⟨.inl rfl, skipB (by decide) ?_⟩⟩
    refine ifF ?_
    dsimp only [dNext]
    refine read_tail (i := 3) rfl o1 ?_
    exact h
  | false =>
  cases b3 : w == ("open" : Str) with
  | true =>
    have ew := eq_of_beq b3
    subst ew
    have h : Qd (.d ((DW.readOpen ws).getD .none)) := h
    have raw0 : shortRaw "open" ws = .none := by
      unfold shortRaw
      rw [if_neg fun k => absurd k.1 (by decide), if_neg fun k => absurd k.1 (by decide), if_neg fun k => absurd k.1 (by decide), if_neg fun k => absurd k.1 (by decide)]
    rw [raw0]
    refine ⟨.inl rfl, skipB (by decide) ⟨.inl rfl, skipB (by decide) ?_⟩⟩
    refine ifF ?_
    dsimp only [dNext]
    refine seqI (fun δ' => ∃ raw, δ' = [some (.d (.str z)), some (.d (.str "open")), some (.d (.list (DW.sd ws))), some (.d raw), none, none] ∧ rawOk raw ∧ outc raw = (DW.readOpen ws).getD .none) ?_ fun N hN => ?_
    · rintro _ ⟨raw, rfl, o1, o2⟩
      rw [← o2] at h
      refine ⟨.inl rfl, skipB (by decide) ?_⟩
      refine ifF ?_
      dsimp only [dNext]
      refine read_tail (i := 3) rfl o1 ?_
      exact h
    · refine ⟨.inl rfl, takeB (by decide) ⟨_, rfl, ?_⟩⟩
      refine iteG (fun b5 => ?_) fun b5 => ?_
      · have b5 : (7 : Int) < ((DW.sd ws).length : Nat) := of_decide_eq_true b5
        rw [len_sd] at b5
        obtain ⟨a, b, mid, six, rfl, l6⟩ := two_six (l := ws) (by omega)
        have f0 : PD.cut (DW.sd (([a, b] : List Str) ++ mid ++ six)) none (some 2) = DW.sd [a, b] := by rw [cut_sd, show (some (2 : Int)) = some ((2 : Nat) : Int) from rfl, cut_to]; rfl
        have f1 : PD.cut (DW.sd (([a, b] : List Str) ++ mid ++ six)) (some 2) (some (-6)) = DW.sd mid := by rw [cut_sd]; exact congrArg DW.sd (cut_ab [a, b] mid six (i := 2) (j := 6) rfl l6 (by decide))
        have f2 : PD.cut (DW.sd (([a, b] : List Str) ++ mid ++ six)) (some (-6)) none = DW.sd six := by rw [cut_sd]; exact congrArg DW.sd (cut_b ([a, b] ++ mid) six (j := 6) l6 (by decide))
        have wab : WOk ([a, b] : List Str) := hw.take 2
        have wmid : WOk mid := by
          have t := (hw.drop 2).take mid.length
          rwa [show (([a, b] : List Str) ++ mid ++ six).drop 2 = mid ++ six from rfl, List.take_left] at t
        have wsix : WOk six := by
          have t := hw.drop (([a, b] : List Str) ++ mid).length
          rwa [List.drop_left] at t
        have ro : DW.readOpen (([a, b] : List Str) ++ mid ++ six) = DW.tupO "open" [DW.readName a, DW.readName b, DW.readNames mid, DW.readClock six] := by
          unfold DW.readOpen
          rw [if_neg (by simp only [List.length_append, List.length_cons, List.length_nil]; omega)]
          have g1 : PD.cut (([a, b] : List Str) ++ mid ++ six) (some 2) (some (-6)) = mid := cut_ab [a, b] mid six (i := 2) (j := 6) rfl l6 (by decide)
          have g2 : PD.cut (([a, b] : List Str) ++ mid ++ six) (some (-6)) none = six := cut_b ([a, b] ++ mid) six (j := 6) l6 (by decide)
          rw [g1, g2]
          rfl
        refine ⟨_, rfl, rfl, nn1, [a, b], congrArg (fun x => [DV.d (.list x)]) f0, wab, nE, ?_⟩
        rw [readNames_if]
        cases q : ([a, b] : List Str).all (DW.wordOk 8) with
        | true =>
          have qq : DW.wordOk 8 a = true ∧ DW.wordOk 8 b = true := by simpa using q
          refine ⟨_, .str a, rfl, at0, _, .str b, rfl, at1', _, rfl, rfl, nn1, mid, congrArg (fun x => [DV.d (.list x)]) f1, wmid, _, rfl, rfl, nn1, six, congrArg (fun x => [DV.d (.list x)]) f2, wsix, (show 5 ≤ sizeLine by decide), ?_⟩
          refine hN _ ⟨_, rfl, .inr ⟨_, rfl, fun x hx => ?_⟩, ?_⟩
          · simp only [List.mem_cons, List.not_mem_nil, or_false] at hx
            rcases hx with rfl | rfl | rfl | rfl | rfl
            · exact flat_str (by decide +kernel)
            · exact flat_str (word_strOk qq.1)
            · exact flat_str (word_strOk qq.2)
            · exact flat_names mid wmid.s
            · exact flat_clock six
          · rw [ro, ← outc_tupO "open" (os := [DW.readName a, DW.readName b, DW.readNames mid, DW.readClock six]) fun o ho y hy => ?_]
            · rw [List.map_cons, List.map_cons, getName qq.1, getName qq.2]
              rfl
            · simp only [List.mem_cons, List.not_mem_nil, or_false] at ho
              rcases ho with rfl | rfl | rfl | rfl
              · exact nnName hy
              · exact nnName hy
              · exact nnNames hy
              · exact nnClock hy
        | false =>
          refine hN _ ⟨.none, rfl, .inl rfl, ?_⟩
          rw [ro, tupO_none]
          · rfl
          · have qq : DW.wordOk 8 a = false ∨ DW.wordOk 8 b = false := by
              cases ha : DW.wordOk 8 a with
              | false => exact .inl rfl
              | true =>
                cases hb : DW.wordOk 8 b with
                | false => exact .inr rfl
                | true =>
                  rw [show ([a, b] : List Str).all (DW.wordOk 8) = (DW.wordOk 8 a && (DW.wordOk 8 b && true)) from rfl, ha, hb] at q
                  cases q
            have no : ∀ {x : Str}, DW.wordOk 8 x = false → DW.readName x = none := fun e => by
              unfold DW.readName
              rw [e]
              rfl
            rcases qq with e | e
            · rw [no e]; exact List.mem_cons_self
            · rw [no e]; exact List.mem_cons_of_mem _ List.mem_cons_self
      · have b5 := of_decide_eq_false (show decide ((7 : Int) < ((DW.sd ws).length : Nat)) = false from b5)
        rw [len_sd] at b5
        refine hN _ ⟨.none, rfl, .inl rfl, ?_⟩
        unfold DW.readOpen
        rw [if_pos (by omega)]
        rfl
  | false =>
  cases b4 : w == ("cup" : Str) with
  | true =>
    have ew := eq_of_beq b4
    subst ew
    have h : Qd (.d ((DW.readCup ws).getD .none)) := h
    have raw0 : shortRaw "cup" ws = .none := by
      unfold shortRaw
      rw [if_neg fun k => absurd k.1 (by decide), if_neg fun k => absurd k.1 (by decide), if_neg fun k => absurd k.1 (by decide), if_neg fun k => absurd k.1 (by decide)]
    rw [raw0]
    refine ⟨.inl rfl, skipB (by decide) ⟨.inl rfl, skipB (by decide) ⟨.inl rfl, skipB (by decide) ?_⟩⟩⟩
    refine ifF ?_
    dsimp only [dNext]
    refine ifF ?_
    refine seqI (fun δ' => ∃ raw x4 x5, δ' = [some (.d (.str z)), some (.d (.str "cup")), some (.d (.list (DW.sd ws))), some (.d raw), x4, x5] ∧ rawOk raw ∧ outc raw = (DW.readCup ws).getD .none) ?_ fun N hN => ?_
    · rintro _ ⟨raw, x4, x5, rfl, o1, o2⟩
      rw [← o2] at h
      refine read_tail (i := 3) rfl o1 ?_
      exact h
    have no : ∀ {x : Str}, DW.wordOk 8 x = false → DW.readName x = none := fun e => by
      unfold DW.readName
      rw [e]
      rfl
    refine ⟨.inl rfl, takeB (by decide) ⟨_, rfl, ?_⟩⟩
    refine iteG (fun b5 => ?_) fun b5 => ?_
    rotate_left
    · have b5 := of_decide_eq_false (show decide ((8 : Int) < ((DW.sd ws).length : Nat)) = false from b5)
      rw [len_sd] at b5
      refine hN _ ⟨.none, _, _, rfl, .inl rfl, ?_⟩
      unfold DW.readCup
      rw [if_pos (by omega)]
      rfl
    have b5 : (8 : Int) < ((DW.sd ws).length : Nat) := of_decide_eq_true b5
    rw [len_sd] at b5
    obtain ⟨a, n, b, six, ns, rfl, l6⟩ := nine (l := ws) (by omega)
    obtain ⟨g1, g2⟩ := cut_cup a n b six ns l6
    have f1 : PD.cut (DW.sd (([a, n, b] : List Str) ++ six ++ ns)) (some 9) none = DW.sd ns := by rw [cut_sd, g1]
    have f2 : PD.cut (DW.sd (([a, n, b] : List Str) ++ six ++ ns)) (some 3) (some 9) = DW.sd six := by rw [cut_sd, g2]
    have wns : WOk ns := by
      have t := hw.drop (([a, n, b] : List Str) ++ six).length
      rwa [List.drop_left] at t
    have wsix : WOk six := by
      have t := (hw.drop 3).take six.length
      rwa [show (([a, n, b] : List Str) ++ six ++ ns).drop 3 = six ++ ns from rfl, List.take_left] at t
    have rc : DW.readCup (([a, n, b] : List Str) ++ six ++ ns) = DW.tupO "cup" [DW.readName a, DW.readNames ns, DW.readNum n, DW.readName b, DW.readClock six] := by
      unfold DW.readCup
      rw [if_neg (by simp only [List.length_append, List.length_cons, List.length_nil]; omega), g1, g2]
      rfl
    have ha : a.length ≤ 80000 ∧ PyData.strOk a = true := ⟨hw.mem (by simp), hw.s a (by simp)⟩
    have hn : n.length ≤ 80000 ∧ PyData.strOk n = true := ⟨hw.mem (by simp), hw.s n (by simp)⟩
    have hb : b.length ≤ 80000 ∧ PyData.strOk b = true := ⟨hw.mem (by simp), hw.s b (by simp)⟩
    refine ⟨_, .str a, rfl, at0, rfl, nn1, a, rfl, ha.1, ha.2, bKG (fun b6 => ?_) fun b6 => ?_⟩
    rotate_left
    · refine hN _ ⟨.none, _, _, rfl, .inl rfl, ?_⟩
      rw [rc, tupO_none (by rw [no b6]; exact List.mem_cons_self)]
      rfl
    refine ⟨_, .str b, rfl, at2', rfl, nn1, b, rfl, hb.1, hb.2, bKG (fun b7 => ?_) fun b7 => ?_⟩
    rotate_left
    · refine hN _ ⟨.none, _, _, rfl, .inl rfl, ?_⟩
      rw [rc, tupO_none (by rw [no b7]; simp)]
      rfl
    refine ⟨_, rfl, rfl, nn1, ns, congrArg (fun x => [DV.d (.list x)]) f1, wns, _, rfl, rfl, nn1, six, congrArg (fun x => [DV.d (.list x)]) f2, wsix, ?_⟩
    refine ⟨_, .str a, rfl, at0, _, .str n, rfl, at1', rfl, nn1, n, rfl, hn.1, hn.2, _, .str b, rfl, at2', (show 6 ≤ sizeLine by decide), ?_⟩
    refine hN _ ⟨_, _, _, rfl, .inr ⟨_, rfl, fun x hx => ?_⟩, ?_⟩
    · simp only [List.mem_cons, List.not_mem_nil, or_false] at hx
      rcases hx with rfl | rfl | rfl | rfl | rfl | rfl
      · exact flat_str (by decide +kernel)
      · exact flat_str ha.2
      · exact flat_names ns wns.s
      · exact flat_optI _
      · exact flat_str hb.2
      · exact flat_clock six
    · rw [rc, ← outc_tupO "cup" (os := [DW.readName a, DW.readNames ns, DW.readNum n, DW.readName b, DW.readClock six]) fun o ho y hy => ?_]
      · simp only [List.map_cons, List.map_nil, getName b6, getName b7, getNum]
        rfl
      · simp only [List.mem_cons, List.not_mem_nil, or_false] at ho
        rcases ho with rfl | rfl | rfl | rfl | rfl
        · exact nnName hy
        · exact nnNames hy
        · exact nnNum hy
        · exact nnName hy
        · exact nnClock hy
  | false =>
    obtain ⟨o1, o2⟩ := short_out (fun x hx => hw.s x hx) b3 b4 b2 b1
    rw [← o2] at h
    have ne : ∀ {x : Str}, (w == x) = false → PyData.eqv (.str w) (.str x) = false := fun e => by rw [eqv_str]; exact e
    refine ⟨.inl rfl, skipB b1 ⟨.inl rfl, skipB b2 ⟨.inl rfl, skipB b3 ⟨.inl rfl, skipB b4 ?_⟩⟩⟩⟩
    refine ifF ?_
    dsimp only [dNext]
    refine read_tail (i := 3) rfl o1 ?_
    exact h

end
end K87
set_option Elab.async false
set_option linter.all false
set_option maxRecDepth 100000
set_option maxHeartbeats 4000000
namespace K87
open PySem PySem.Spec PyProof.Rows L2 PD
def spPickB : Spd := fun R xs Q _ => ∃ (a c : Addr) (ds : List PyData), R = drawReg a c ∧ xs = [.v (.ref a), .bor false ds] ∧ ds ≠ [] ∧ ds.length ≤ sizeLine ∧ ∀ y ∈ ds, Q (.d y)
theorem nnb {a : Addr} {ds : List PyData} {f : Bool} : ∀ x ∈ [DV.v (.ref a), DV.bor f ds], ∀ ys, x ≠ DV.new ys := by
  intro x hx ys e
  subst e
  simp at hx
theorem wsz_app (a b : List Str) : wsz (a ++ b) = wsz a + wsz b := by
  unfold wsz
  simp only [List.map_append, List.sum_append, List.length_append]
  omega
theorem wsz_rev (a : List Str) : wsz a.reverse = wsz a := by
  unfold wsz
  rw [List.length_reverse, List.map_reverse, List.sum_reverse]
theorem wsz_td (k : Nat) (ws : List Str) : wsz (ws.take k) + wsz (ws.drop k) = wsz ws := by
  rw [← wsz_app, List.take_append_drop]
theorem joinL_len : ∀ ps : List (List Nat), (TL.joinL [32] ps).length ≤ (ps.map (·.length)).sum + ps.length
  | [] => Nat.zero_le _
  | [a] => by show a.length ≤ _; simp
  | a :: b :: r => by
    have ih := joinL_len (b :: r)
    show (a ++ ([32] ++ TL.joinL [32] (b :: r))).length ≤ _
    simp only [List.length_append, List.length_cons, List.length_nil, List.map_cons, List.sum_cons] at ih ⊢
    omega
theorem join_wsz (ws : List Str) : (Txt.join " " ws).length ≤ wsz ws := by
  have h := joinL_len (ws.map TL.tl)
  rw [TL.len_tl, TL.join_eq, TL.tl_join]
  have e : (ws.map TL.tl).map (·.length) = ws.map (·.length) := by
    rw [List.map_map]
    exact List.map_congr_left fun w _ => (TL.len_tl w).symm
  rw [e, List.length_map] at h
  exact h
theorem wsz_split (z : Str) : wsz (Txt.split z " ") ≤ z.length + 1 := split_weight z " " (by decide)
/-- words for words -/
theorem join_sp {z : Str} {ws : List Str} (free : ∀ w ∈ ws, 32 ∉ TL.tl w) (ok : ∀ w ∈ ws, PyData.strOk w = true) (sz : wsz ws ≤ 2 * z.length + 50) (n : ws.length ≤ W z + 1) (small : wsz ws ≤ 80000) : SpOk z (Txt.join " " ws) := by
  refine ⟨join_ok ⟨small, ok⟩, Nat.le_trans (join_wsz ws) sz, .inl ?_⟩
  by_cases e : ws = []
  · subst e
    have : W (Txt.join " " ([] : List Str)) = 1 := by decide +kernel
    rw [this]
    omega
  · have : W (Txt.join " " ws) = ws.length := congrArg List.length (DW.split_join e free)
    rw [this]
    exact n
theorem strs_sd : ∀ ws : List Str, strsOf (DW.sd ws) = some ws := strs_map
theorem sd_app (a b : List Str) : DW.sd (a ++ b) = DW.sd a ++ DW.sd b := by unfold DW.sd; rw [List.map_append]
theorem join_room {ws : List Str} (h : wsz ws ≤ 80000) : (ws.map (·.length)).sum + ws.length * (" " : Str).length ≤ 16777216 := by
  have e : (" " : Str).length = 1 := by decide
  unfold wsz at h
  rw [e]
  omega
theorem tl_cutTo (z : Str) (k : Nat) : TL.tl (cutS z none (some (k : Int))) = (TL.tl z).take k := by
  have e := cut_to (TL.tl z) k
  rw [← e]
  unfold PD.cut
  rw [← TL.len_tl z]
  rfl
theorem tl_cutFrom (z : Str) (k : Nat) : TL.tl (cutS z (some (k : Int)) none) = (TL.tl z).drop k := by
  have e := cut_from (TL.tl z) k
  rw [← e]
  unfold PD.cut
  rw [← TL.len_tl z]
  rfl
/-- signs for signs -/
theorem sign_sp {z s z' : Str} {i j : Nat} (hj : i ≤ j) (hs : TL.tl s = [] ∨ ∃ c, TL.tl s = [c] ∧ c < 0x110000) (ho : PyData.strOk z = true) (e : TL.tl z' = (TL.tl z).take i ++ TL.tl s ++ (TL.tl z).drop j) : SpOk z z' := by
  have ls : (TL.tl s).length ≤ 1 := by rcases hs with h | ⟨c, h, _⟩ <;> rw [h] <;> simp
  have td : ((TL.tl z).take i).length + ((TL.tl z).drop j).length ≤ (TL.tl z).length := by
    rw [List.length_take, List.length_drop]
    omega
  have cd : ((TL.tl z).take i).count 32 + ((TL.tl z).drop j).count 32 ≤ (TL.tl z).count 32 := by
    have h1 : ((TL.tl z).take i).count 32 + ((TL.tl z).drop i).count 32 = (TL.tl z).count 32 := by rw [← List.count_append, List.take_append_drop]
    have h2 : ((TL.tl z).drop j).count 32 ≤ ((TL.tl z).drop i).count 32 := by
      have : (TL.tl z).drop j = ((TL.tl z).drop i).drop (j - i) := by rw [List.drop_drop]; congr 1; omega
      rw [this]
      exact List.Sublist.count_le 32 (List.drop_sublist _ _)
    omega
  refine ⟨?_, ?_, .inl ?_⟩
  · rw [strOk_iff, e]
    intro c hc
    have ho := strOk_iff.mp ho
    rcases List.mem_append.mp hc with hc | hc
    · rcases List.mem_append.mp hc with hc | hc
      · exact ho c (List.mem_of_mem_take hc)
      · rcases hs with h | ⟨d, h, hd⟩
        · rw [h] at hc; cases hc
        · rw [h] at hc; rw [List.mem_singleton.mp hc]; exact hd
    · exact ho c (List.mem_of_mem_drop hc)
  · rw [TL.len_tl, TL.len_tl z, e]
    simp only [List.length_append]
    omega
  · rw [W_eq, W_eq, e]
    simp only [List.count_append]
    have : (TL.tl s).count 32 ≤ 1 := Nat.le_trans List.count_le_length ls
    omega
theorem dbl_sp {z : Str} (ho : PyData.strOk z = true) : SpOk z (dbl z) := by
  have e : (" " : Str).length = 1 := by decide
  refine ⟨?_, ?_, .inr rfl⟩
  · rw [strOk_iff]
    intro c hc
    unfold dbl at hc
    rw [TL.tl_append, TL.tl_append] at hc
    have ho := strOk_iff.mp ho
    rcases List.mem_append.mp hc with hc | hc
    · rcases List.mem_append.mp hc with hc | hc
      · exact ho c hc
      · have e2 : TL.tl (" " : Str) = [32] := by decide +kernel
        rw [e2] at hc
        rw [List.mem_singleton.mp hc]
        decide
    · exact ho c hc
  · unfold dbl
    simp only [TL.len_tl, TL.tl_append, List.length_append] at e ⊢
    omega
def ones : Str := repS "1" 40
def bees : Str := repS "b" 21
def others : List Str := ["a", "0", "00", "7", ones, "flat", "/", "A", "", "move", "give", "even", "-1", "hear", "day", bees]
theorem others_ok : ∀ w ∈ others, 32 ∉ TL.tl w ∧ PyData.strOk w = true ∧ w.length ≤ 40 := by decide +kernel
def signs7 : List Str := ["", " ", "a", "0", "/", "A", "."]
theorem signs_ok : ∀ s ∈ signs7, TL.tl s = [] ∨ ∃ c, TL.tl s = [c] ∧ c < 0x110000 := fun s hs => by
  simp only [signs7, List.mem_cons, List.not_mem_nil, or_false] at hs
  rcases hs with rfl | rfl | rfl | rfl | rfl | rfl | rfl
  · exact .inl (by decide +kernel)
  · exact .inr ⟨32, by decide +kernel, by decide⟩
  · exact .inr ⟨97, by decide +kernel, by decide⟩
  · exact .inr ⟨48, by decide +kernel, by decide⟩
  · exact .inr ⟨47, by decide +kernel, by decide⟩
  · exact .inr ⟨65, by decide +kernel, by decide⟩
  · exact .inr ⟨46, by decide +kernel, by decide⟩
theorem cut_two {α : Type} {xs : List α} {k : Nat} (hk : k < xs.length) : PD.cut xs (some (k : Int)) (some ((k : Int) + 2)) = (xs.drop k).take 2 := by
  have q1 : HT.sIx xs.length 0 (some (k : Int)) = k := (HT.sIx_nat _ _ _).trans (by omega)
  have q2 : HT.sIx xs.length xs.length (some ((k : Int) + 2)) = min (k + 2) xs.length := by
    rw [show ((k : Int) + 2) = ((k + 2 : Nat) : Int) by omega]
    exact HT.sIx_nat _ _ _
  unfold PD.cut
  rw [q1, q2]
  by_cases h : k + 2 ≤ xs.length
  · rw [Nat.min_eq_left h, show k + 2 - k = 2 by omega]
  · rw [Nat.min_eq_right (by omega), List.take_of_length_le (by rw [List.length_drop]; omega), List.take_of_length_le (by rw [List.length_drop]; omega)]
theorem sd_rev (a : List Str) : (DW.sd a).reverse = DW.sd a.reverse := by unfold DW.sd; rw [List.map_reverse]
theorem sd_len (a : List Str) : (DW.sd a).length = a.length := len_sd a
theorem short1 {s : Str} (h : s ∈ signs7) : s.length ≤ 1 := by
  rw [TL.len_tl]
  rcases signs_ok s h with e | ⟨c, e, _⟩ <;> rw [e] <;> simp

section
variable {P : Program} {w : World} {K : PySem.W.Frag} {mg : Str → Option Value} {base : Heap}
theorem ok__law_pickB (c : Tx K w mg) : FnOk P w K mg base (L2.CX P w) 2 (He.ga K "_law_pick") (fdOf K (He.ga K "_law_pick")) ["_law_draw", "_law_some"] (lift K (spPickB) 2) := by
  refine fn_ok c.fd__law_pick sc__law_pick rfl fun cdv A outer s I H E R hr => ⟨_, _, (dss_one (ds_ret (de_ix (de_var (pv 1)) (de_fnC (ok__law_take c) (hr.mono (by decide)) (by rfl) c.g__law_take c.fd__law_take.kp (bd__law_take c) (takesC (takes_of rfl rfl rfl rfl)) rfl (da_cons (de_var (pv 0)) (da_cons (de_callB call_len (cd_len rfl) (by rfl) c.f_len b_len (da_cons (de_var (pv 1)) da_nil)) da_nil))) (fun _ _ => rfl) rfl))), fun xs Qd Ed hl h => ?_⟩
  obtain ⟨a, cc, ds, rfl, rfl, hne, hl', h⟩ := h
  refine ⟨_, rfl, rfl, nnv, a, cc, _, rfl, rfl, len_pos hne, sz30 hl', fun i i0 i1 => ?_⟩
  obtain ⟨y, e1, e2⟩ := atI_mem i0 i1
  exact ⟨_, y, rfl, e1, h y e2⟩

theorem ok__law_spoilt (c : Tx K w mg) : FnOk P w K mg base (L2.CX P w) 3 (He.ga K "_law_spoilt") (fdOf K (He.ga K "_law_spoilt")) ["_law_draw", "_law_row"] (lift K (fun R xs Q _ => ∃ (a c : Addr) (z : Str), R = drawReg a c ∧ xs = [.v (.ref a), .d (.str z)] ∧ z.length ≤ 20000 ∧ PyData.strOk z = true ∧ ∀ z2, SpOk z z2 → Q (.d (.str z2))) 2) := by
  refine fn_ok c.fd__law_spoilt sc__law_spoilt rfl fun cdv A outer s I H E R hr => ⟨_, _, (dss_cons flat_of (ds_par (i := 2) (j := 3) rfl sc__law_spoilt.nd rfl rfl (by decide) rfl rfl (da_cons (de_fnC (ok__law_take c) (hr.mono (by decide)) (by rfl) c.g__law_take c.fd__law_take.kp (bd__law_take c) (takesC (takes_of rfl rfl rfl rfl)) rfl (da_cons (de_var (pv 0)) (da_cons de_int da_nil))) (da_cons (de_meth (md_split) (de_var (pv 1)) (da_cons de_str da_nil) rfl (fun q q' => pe_bm PySem.F.plainAttrs_str PySem.F.slot_str_split PySem.F.type_str_split (mt_split) q q')) da_nil)) rfl)
      (dss_cons flat_of (ds_set (i := 4) sc__law_spoilt.nd rfl (by first | exact .inl rfl | exact .inr rfl) (de_fnC (ok__law_take c) (hr.mono (by decide)) (by rfl) c.g__law_take c.fd__law_take.kp (bd__law_take c) (takesC (takes_of rfl rfl rfl rfl)) rfl (da_cons (de_var (pv 0)) (da_cons (de_callB call_len (cd_len rfl) (by rfl) c.f_len b_len (da_cons (de_var (pv 3)) da_nil)) da_nil))))
      (dss_cons flat_of (ds_if (dt_cmp (op_eqX (hu64 hr)) (nomark _) (od_eq rfl) (de_var (pv 2)) de_int) (dss_one (ds_ret (de_meth (md_join rfl) de_str (da_cons (de_op op_cat' (od_add rfl) (de_slice (de_var (pv 3)) do_none (do_some (de_var (pv 4))) rfl) (de_slice (de_var (pv 3)) (do_some (de_op op_cat' (od_add rfl) (de_var (pv 4)) de_int)) do_none rfl)) da_nil) rfl (fun q q' => pe_bm PySem.F.plainAttrs_str PySem.F.slot_str_join PySem.F.type_str_join (mt_join) q q')))) dss_nil)
      (dss_cons flat_of (ds_if (dt_cmp (op_eqX (hu64 hr)) (nomark _) (od_eq rfl) (de_var (pv 2)) de_int) (dss_one (ds_ret (de_meth (md_join rfl) de_str (da_cons (de_op op_cat' (od_add rfl) (de_op op_cat' (od_add rfl) (de_slice (de_var (pv 3)) do_none (do_some (de_var (pv 4))) rfl) (de_lst (da_cons (de_ix (de_var (pv 3)) (de_var (pv 4)) (fun _ _ => rfl) rfl) da_nil))) (de_slice (de_var (pv 3)) (do_some (de_var (pv 4))) do_none rfl)) da_nil) rfl (fun q q' => pe_bm PySem.F.plainAttrs_str PySem.F.slot_str_join PySem.F.type_str_join (mt_join) q q')))) dss_nil)
      (dss_cons flat_of (ds_if (dt_cmp (op_eqX (hu64 hr)) (nomark _) (od_eq rfl) (de_var (pv 2)) de_int) (dss_cons flat_of (ds_set (i := 5) sc__law_spoilt.nd rfl (by first | exact .inl rfl | exact .inr rfl) (de_slice (de_var (pv 3)) (do_some (de_var (pv 4))) (do_some (de_op op_cat' (od_add rfl) (de_var (pv 4)) de_int)) rfl))
      (dss_one (ds_ret (de_meth (md_join rfl) de_str (da_cons (de_op op_cat' (od_add rfl) (de_op op_cat' (od_add rfl) (de_slice (de_var (pv 3)) do_none (do_some (de_var (pv 4))) rfl) (de_rev (de_var (pv 5)) rfl)) (de_slice (de_var (pv 3)) (do_some (de_op op_cat' (od_add rfl) (de_var (pv 4)) de_int)) do_none rfl)) da_nil) rfl (fun q q' => pe_bm PySem.F.plainAttrs_str PySem.F.slot_str_join PySem.F.type_str_join (mt_join) q q'))))) dss_nil)
      (dss_cons flat_of (ds_if (dt_cmp (op_eqX (hu64 hr)) (nomark _) (od_eq rfl) (de_var (pv 2)) de_int) (dss_cons flat_of (ds_setO (i := 6) sc__law_spoilt.nd rfl (by first | exact .inl rfl | exact .inr rfl) (de_lst (da_cons de_str (da_cons de_str (da_cons de_str (da_cons de_str (da_cons (de_op op_mulX' od_mulX de_str de_int) (da_cons de_str (da_cons de_str (da_cons de_str (da_cons de_str (da_cons de_str (da_cons de_str (da_cons de_str (da_cons de_str (da_cons de_str (da_cons de_str da_nil)))))))))))))))))
      (dss_cons flat_of (ds_app (i := 6) rfl (de_op op_mulX' od_mulX de_str de_int) (fun q => ps_expr (pe_bm PySem.F.plainAttrs_list PySem.F.slot_list_append PySem.F.type_list_append mt_append (pv 6) (pa_cons q pa_nil))))
      (dss_one (ds_ret (de_meth (md_join rfl) de_str (da_cons (de_op op_cat' (od_add rfl) (de_op op_cat' (od_add rfl) (de_slice (de_var (pv 3)) do_none (do_some (de_var (pv 4))) rfl) (de_lst (da_cons (de_fnC (ok__law_pickB c) (hr.mono (by decide)) (by rfl) c.g__law_pick c.fd__law_pick.kp (bd__law_pick c) (takesC (takes_of rfl rfl rfl rfl)) rfl (da_cons (de_var (pv 0)) (da_cons (de_var (pv 6)) da_nil))) da_nil))) (de_slice (de_var (pv 3)) (do_some (de_op op_cat' (od_add rfl) (de_var (pv 4)) de_int)) do_none rfl)) da_nil) rfl (fun q q' => pe_bm PySem.F.plainAttrs_str PySem.F.slot_str_join PySem.F.type_str_join (mt_join) q q')))))) dss_nil)
      (dss_cons flat_of (ds_if (dt_cmp (op_eqX (hu64 hr)) (nomark _) (od_eq rfl) (de_var (pv 2)) de_int) (dss_one (ds_ret (de_op op_cat' (od_add rfl) (de_op op_cat' (od_add rfl) (de_var (pv 1)) de_str) (de_var (pv 1))))) dss_nil)
      (dss_cons flat_of (ds_set (i := 4) sc__law_spoilt.nd rfl (by first | exact .inl rfl | exact .inr rfl) (de_fnC (ok__law_take c) (hr.mono (by decide)) (by rfl) c.g__law_take c.fd__law_take.kp (bd__law_take c) (takesC (takes_of rfl rfl rfl rfl)) rfl (da_cons (de_var (pv 0)) (da_cons (de_op op_cat' (od_add rfl) (de_callB call_len (cd_len rfl) (by rfl) c.f_len b_len (da_cons (de_var (pv 1)) da_nil)) de_int) da_nil))))
      (dss_one (ds_ret (de_op op_cat' (od_add rfl) (de_op op_cat' (od_add rfl) (de_slice (de_var (pv 1)) do_none (do_some (de_var (pv 4))) rfl) (de_fnC (ok__law_pick c) (hr.mono (by decide)) (by rfl) c.g__law_pick c.fd__law_pick.kp (bd__law_pick c) (takesC (takes_of rfl rfl rfl rfl)) rfl (da_cons (de_var (pv 0)) (da_cons (de_lst (da_cons de_str (da_cons de_str (da_cons de_str (da_cons de_str (da_cons de_str (da_cons de_str (da_cons de_str da_nil)))))))) da_nil)))) (de_slice (de_var (pv 1)) (do_some (de_op op_subX od_sub (de_op op_cat' (od_add rfl) (de_var (pv 4)) (de_var (pv 2))) de_int)) do_none rfl)))))))))))), fun xs Qd Ed hl h => ?_⟩
  obtain ⟨a, cc, z, rfl, rfl, hl, ho, h⟩ := h
  have hl2 := split_le z " "
  have hws := wsz_split z
  have a1 : z.length + 2 ≤ sizeLine := Nat.le_trans (Nat.add_le_add_right hl 2) (by decide)
  have a2 : (Txt.split z " ").length ≤ sizeLine := Nat.le_trans hl2 a1
  have hz : z.length ≤ sizeLine := by omega
  have free := split_sp z
  have oks : ∀ w ∈ Txt.split z " ", PyData.strOk w = true := fun w hw => split_ok ho hw
  have hW : W z = (Txt.split z " ").length := rfl
  have hne := split_ne z
  refine ⟨rfl, nnv, a, cc, 7, rfl, rfl, by decide, by decide, fun i i0 i1 => ?_⟩
  refine ⟨rfl, rfl, a1, a2, ?_⟩
  dsimp only [dNil, dName, froz]
  show dSeq _ _ _ _ [some (.v (.ref a)), some (.d (.str z)), some (.d (.int i)), some (.d (.list (DW.sd (Txt.split z " ")))), none, none, none]
  generalize Txt.split z " " = ws at *
  have lp : 0 < ws.length := List.length_pos_iff.mpr hne
  refine ⟨_, rfl, rfl, nnv, a, cc, _, rfl, rfl, by rw [len_sd]; omega, sz30 (by rw [len_sd]; exact a2), fun j j0 j1 => ?_⟩
  rw [len_sd] at j1
  obtain ⟨k, rfl⟩ := Int.eq_ofNat_of_zero_le j0
  have hk : k < ws.length := by omega
  refine setG (δ' := [some (.v (.ref a)), some (.d (.str z)), some (.d (.int i)), some (.d (.list (DW.sd ws))), some (.d (.int (k : Nat))), none, none]) rfl ?_
  have c1 : PD.cut (DW.sd ws) none (some (k : Int)) = DW.sd (ws.take k) := by rw [cut_sd, cut_to]
  have c2 : PD.cut (DW.sd ws) (some ((k : Int) + 1)) none = DW.sd (ws.drop (k + 1)) := by rw [cut_sd, show ((k : Int) + 1) = ((k + 1 : Nat) : Int) by omega, cut_from]
  have c3 : PD.cut (DW.sd ws) (some (k : Int)) none = DW.sd (ws.drop k) := by rw [cut_sd, cut_from]
  have td := wsz_td k ws
  have dd : wsz (ws.drop (k + 1)) ≤ wsz (ws.drop k) := by
    have := wsz_drop 1 (ws.drop k)
    rwa [List.drop_drop] at this
  have lt_ : (ws.take k).length = k := by rw [List.length_take]; omega
  have ld_ : (ws.drop k).length = ws.length - k := List.length_drop
  have ld1 : (ws.drop (k + 1)).length = ws.length - (k + 1) := List.length_drop
  have mt : ∀ {w : Str}, w ∈ ws.take k → w ∈ ws := fun hw => List.mem_of_mem_take hw
  have md : ∀ {w : Str} {n : Nat}, w ∈ ws.drop n → w ∈ ws := fun hw => List.mem_of_mem_drop hw
  have s64 : ∀ {n : Nat}, n ≤ 100000 → n ≤ sizeLine := fun h => Nat.le_trans h (by decide)
  have hi : i = 0 ∨ i = 1 ∨ i = 2 ∨ i = 3 ∨ i = 4 ∨ i = 5 ∨ i = 6 := by omega
  rcases hi with rfl | rfl | rfl | rfl | rfl | rfl | rfl
  · have sz : wsz (ws.take k ++ ws.drop (k + 1)) ≤ z.length + 1 := by rw [wsz_app]; omega
    refine ⟨.inl rfl, rfl, _, rfl, _, rfl, ?_, _, ws.take k ++ ws.drop (k + 1), rfl, ?_, join_room (by omega), ?_⟩
    · rw [c1, c2, len_sd, len_sd]; exact s64 (by omega)
    · rw [c1, c2, ← sd_app]; exact strs_sd _
    · refine h _ (join_sp (fun w hw => ?_) (fun w hw => ?_) (by omega) (by rw [List.length_append]; omega) (by omega))
      · rcases List.mem_append.mp hw with hw | hw
        · exact free w (mt hw)
        · exact free w (md hw)
      · rcases List.mem_append.mp hw with hw | hw
        · exact oks w (mt hw)
        · exact oks w (md hw)
  · have hin : ws[k] ∈ ws := List.getElem_mem hk
    have w1 : ws[k].length + 1 ≤ wsz ws := by
      have : wsz [ws[k]] ≤ wsz (ws.drop k) := by rw [List.drop_eq_getElem_cons hk, wsz_cons, wsz_cons]; have e : wsz ([] : List Str) = 0 := rfl; omega
      rw [wsz_cons] at this
      have e : wsz ([] : List Str) = 0 := rfl
      omega
    have sz : wsz (ws.take k ++ [ws[k]] ++ ws.drop k) ≤ 2 * z.length + 2 := by
      rw [wsz_app, wsz_app, wsz_cons]
      have e : wsz ([] : List Str) = 0 := rfl
      omega
    refine ⟨.inl rfl, .inl rfl, rfl, _, rfl, _, .str ws[k], rfl, atI_nat (by unfold DW.sd; rw [List.getElem?_map, List.getElem?_eq_getElem hk]; rfl), (show 1 ≤ sizeLine by decide), ?_, _, rfl, ?_, _, ws.take k ++ [ws[k]] ++ ws.drop k, rfl, ?_, join_room (by omega), ?_⟩
    · rw [c1, len_sd]; exact s64 (by simp only [List.length_cons, List.length_nil]; omega)
    · rw [c1, c3, List.length_append, len_sd, len_sd]; exact s64 (by simp only [List.length_cons, List.length_nil]; omega)
    · rw [c1, c3]
      have : DW.sd (ws.take k) ++ [PyData.str ws[k]] ++ DW.sd (ws.drop k) = DW.sd (ws.take k ++ [ws[k]] ++ ws.drop k) := by rw [sd_app, sd_app]; rfl
      rw [this]; exact strs_sd _
    · refine h _ (join_sp (fun w hw => ?_) (fun w hw => ?_) (by omega) (by simp only [List.length_append, List.length_cons, List.length_nil]; omega) (by omega))
      · rcases List.mem_append.mp hw with hw | hw
        · rcases List.mem_append.mp hw with hw | hw
          · exact free w (mt hw)
          · rw [List.mem_singleton.mp hw]; exact free _ hin
        · exact free w (md hw)
      · rcases List.mem_append.mp hw with hw | hw
        · rcases List.mem_append.mp hw with hw | hw
          · exact oks w (mt hw)
          · rw [List.mem_singleton.mp hw]; exact oks _ hin
        · exact oks w (md hw)
  · have c4 : PD.cut (DW.sd ws) (some (k : Int)) (some ((k : Int) + 2)) = DW.sd ((ws.drop k).take 2) := by rw [cut_sd, cut_two hk]
    have c5 : PD.cut (DW.sd ws) (some ((k : Int) + 2)) none = DW.sd (ws.drop (k + 2)) := by rw [cut_sd, show ((k : Int) + 2) = ((k + 2 : Nat) : Int) by omega, cut_from]
    have t2 := wsz_td 2 (ws.drop k)
    rw [List.drop_drop] at t2
    have sz : wsz (ws.take k ++ ((ws.drop k).take 2).reverse ++ ws.drop (k + 2)) ≤ z.length + 1 := by rw [wsz_app, wsz_app, wsz_rev]; omega
    have l2 : (((ws.drop k).take 2).reverse).length ≤ ws.length - k := by rw [List.length_reverse, List.length_take, List.length_drop]; omega
    have l3 : (((ws.drop k).take 2).reverse).length + (ws.drop (k + 2)).length ≤ ws.length - k := by rw [List.length_reverse, List.length_take, List.length_drop, List.length_drop]; omega
    refine ⟨.inl rfl, .inl rfl, .inl rfl, _, rfl, ?_⟩
    rw [c4]
    refine setG (δ' := [some (.v (.ref a)), some (.d (.str z)), some (.d (.int 2)), some (.d (.list (DW.sd ws))), some (.d (.int (k : Nat))), some (.d (.list (DW.sd ((ws.drop k).take 2)))), none]) rfl ?_
    refine ⟨rfl, _, rfl, _, rfl, ?_, _, rfl, ?_, _, ws.take k ++ ((ws.drop k).take 2).reverse ++ ws.drop (k + 2), rfl, ?_, join_room (by omega), ?_⟩
    · rw [c1, sd_rev, len_sd, len_sd]; exact s64 (by omega)
    · rw [c1, sd_rev, c5, List.length_append, len_sd, len_sd, len_sd]; exact s64 (by omega)
    · rw [c1, sd_rev, c5, ← sd_app, ← sd_app]; exact strs_sd _
    · refine h _ (join_sp (fun w hw => ?_) (fun w hw => ?_) (by omega) (by rw [List.length_append, List.length_append]; omega) (by omega))
      · rcases List.mem_append.mp hw with hw | hw
        · rcases List.mem_append.mp hw with hw | hw
          · exact free w (mt hw)
          · exact free w (md (List.mem_of_mem_take (List.mem_reverse.mp hw)))
        · exact free w (md hw)
      · rcases List.mem_append.mp hw with hw | hw
        · rcases List.mem_append.mp hw with hw | hw
          · exact oks w (mt hw)
          · exact oks w (md (List.mem_of_mem_take (List.mem_reverse.mp hw)))
        · exact oks w (md hw)
  · refine ⟨.inl rfl, .inl rfl, .inl rfl, .inl rfl, by decide, by decide, by decide, by decide, by decide +kernel, (show 15 ≤ sizeLine by decide), ?_⟩
    refine ⟨by decide, by decide, by decide, by decide, by decide +kernel, (show 15 < sizeLine by decide), ?_⟩
    refine ⟨rfl, _, rfl, rfl, nnb, a, cc, DW.sd others, rfl, rfl, by decide +kernel, by decide +kernel, fun y hy => ?_⟩
    obtain ⟨s, hs, rfl⟩ := List.mem_map.mp hy
    obtain ⟨o1, o2, o3⟩ := others_ok s hs
    have sz : wsz (ws.take k ++ [s] ++ ws.drop (k + 1)) ≤ z.length + 42 := by
      rw [wsz_app, wsz_app, wsz_cons]
      have e : wsz ([] : List Str) = 0 := rfl
      omega
    refine ⟨(show 1 ≤ sizeLine by decide), ?_, _, rfl, ?_, _, ws.take k ++ [s] ++ ws.drop (k + 1), rfl, ?_, join_room (by omega), ?_⟩
    · rw [c1, len_sd]; exact s64 (by simp only [List.length_cons, List.length_nil]; omega)
    · rw [c1, c2, List.length_append, len_sd, len_sd]; exact s64 (by simp only [List.length_cons, List.length_nil]; omega)
    · rw [c1, c2]
      have : DW.sd (ws.take k) ++ [PyData.str s] ++ DW.sd (ws.drop (k + 1)) = DW.sd (ws.take k ++ [s] ++ ws.drop (k + 1)) := by rw [sd_app, sd_app]; rfl
      rw [this]; exact strs_sd _
    · refine h _ (join_sp (fun w hw => ?_) (fun w hw => ?_) (by omega) (by simp only [List.length_append, List.length_cons, List.length_nil]; omega) (by omega))
      · rcases List.mem_append.mp hw with hw | hw
        · rcases List.mem_append.mp hw with hw | hw
          · exact free w (mt hw)
          · rw [List.mem_singleton.mp hw]; exact o1
        · exact free w (md hw)
      · rcases List.mem_append.mp hw with hw | hw
        · rcases List.mem_append.mp hw with hw | hw
          · exact oks w (mt hw)
          · rw [List.mem_singleton.mp hw]; exact o2
        · exact oks w (md hw)
  · have e1 : (" " : Str).length = 1 := by decide
    refine ⟨.inl rfl, .inl rfl, .inl rfl, .inl rfl, .inl rfl, by rw [e1]; exact s64 (by omega), ?_, h _ (dbl_sp ho)⟩
    have e2 : (z ++ " ").length = z.length + 1 := by simp only [TL.len_tl, TL.tl_append, List.length_append] at e1 ⊢; omega
    rw [e2]
    exact s64 (by omega)
  · refine ⟨.inl rfl, .inl rfl, .inl rfl, .inl rfl, .inl rfl, hz, rfl, nnv, a, cc, _, rfl, rfl, by omega, sz30 (n := z.length + 1) (by omega), fun m m0 m1 => ?_⟩
    obtain ⟨m, rfl⟩ := Int.eq_ofNat_of_zero_le m0
    refine setG (δ' := [some (.v (.ref a)), some (.d (.str z)), some (.d (.int 5)), some (.d (.list (DW.sd ws))), some (.d (.int (m : Nat))), none, none]) rfl ?_
    refine ⟨hz, (show 7 ≤ sizeLine by decide), rfl, nnv, a, cc, .list (DW.sd signs7), _, rfl, rfl, rfl, by decide +kernel, (show 7 ≤ sizeLine by decide), fun y hy => ?_⟩
    obtain ⟨s, hs, rfl⟩ := List.mem_map.mp hy
    have s1 := short1 hs
    have ec : (m : Int) + 5 - 5 = ((m + 0 : Nat) : Int) := by omega
    have t1 := tl_cutTo z m
    have t2 := tl_cutFrom z (m + 0)
    have n1 : (cutS z none (some (m : Int))).length ≤ z.length := by rw [TL.len_tl, t1, List.length_take, TL.len_tl z]; omega
    have n2 : (cutS z (some ((m + 0 : Nat) : Int)) none).length ≤ z.length := by rw [TL.len_tl, t2, List.length_drop, TL.len_tl z]; omega
    have n3 : (cutS z none (some (m : Int)) ++ s).length = (cutS z none (some (m : Int))).length + s.length := by simp only [TL.len_tl, TL.tl_append, List.length_append]
    refine ⟨s64 (by omega), trivial, hz, ?_⟩
    show (cutS z none (some (m : Int)) ++ s).length + (cutS z (some ((m : Int) + 5 - 5)) none).length ≤ sizeLine ∧ Qd (.d (.str (cutS z none (some (m : Int)) ++ s ++ cutS z (some ((m : Int) + 5 - 5)) none)))
    rw [ec]
    refine ⟨by rw [n3]; exact s64 (by omega), h _ (sign_sp (i := m) (j := m + 0) (s := s) (by omega) (signs_ok s hs) ho ?_)⟩
    rw [TL.tl_append, TL.tl_append, t1, t2]
  · refine ⟨.inl rfl, .inl rfl, .inl rfl, .inl rfl, .inl rfl, hz, rfl, nnv, a, cc, _, rfl, rfl, by omega, sz30 (n := z.length + 1) (by omega), fun m m0 m1 => ?_⟩
    obtain ⟨m, rfl⟩ := Int.eq_ofNat_of_zero_le m0
    refine setG (δ' := [some (.v (.ref a)), some (.d (.str z)), some (.d (.int 6)), some (.d (.list (DW.sd ws))), some (.d (.int (m : Nat))), none, none]) rfl ?_
    refine ⟨hz, (show 7 ≤ sizeLine by decide), rfl, nnv, a, cc, .list (DW.sd signs7), _, rfl, rfl, rfl, by decide +kernel, (show 7 ≤ sizeLine by decide), fun y hy => ?_⟩
    obtain ⟨s, hs, rfl⟩ := List.mem_map.mp hy
    have s1 := short1 hs
    have ec : (m : Int) + 6 - 5 = ((m + 1 : Nat) : Int) := by omega
    have t1 := tl_cutTo z m
    have t2 := tl_cutFrom z (m + 1)
    have n1 : (cutS z none (some (m : Int))).length ≤ z.length := by rw [TL.len_tl, t1, List.length_take, TL.len_tl z]; omega
    have n2 : (cutS z (some ((m + 1 : Nat) : Int)) none).length ≤ z.length := by rw [TL.len_tl, t2, List.length_drop, TL.len_tl z]; omega
    have n3 : (cutS z none (some (m : Int)) ++ s).length = (cutS z none (some (m : Int))).length + s.length := by simp only [TL.len_tl, TL.tl_append, List.length_append]
    refine ⟨s64 (by omega), trivial, hz, ?_⟩
    show (cutS z none (some (m : Int)) ++ s).length + (cutS z (some ((m : Int) + 6 - 5)) none).length ≤ sizeLine ∧ Qd (.d (.str (cutS z none (some (m : Int)) ++ s ++ cutS z (some ((m : Int) + 6 - 5)) none)))
    rw [ec]
    refine ⟨by rw [n3]; exact s64 (by omega), h _ (sign_sp (i := m) (j := m + 1) (s := s) (by omega) (signs_ok s hs) ho ?_)⟩
    rw [TL.tl_append, TL.tl_append, t1, t2]

end
end K87
set_option Elab.async false
set_option linter.all false
set_option maxRecDepth 100000
set_option maxHeartbeats 4000000
namespace K87
open PySem PySem.Spec PyProof.Rows L2 PD
/-- _law_told(_law_row): the deed that is read, or a word -/
def spTold : Spd := fun _ xs Q _ => ∃ d, xs = [.d d] ∧ (∀ z, d = .str z → z.length ≤ 79000 ∧ PyData.strOk z = true) ∧ (∃ d2, datOf (.d d) = some d2) ∧ Q (.d ((DW.readDeed d).getD (.str "refused")))
abbrev spRD (K : PySem.W.Frag) : Spd := fun _ xs Q E => ∃ d, xs = [.d d] ∧ (∀ z, d = .str z → z.length ≤ 79000 ∧ PyData.strOk z = true) ∧ (∃ d2, datOf (.d d) = some d2) ∧ optK (DW.readDeed d) (fun y => Q (.d y)) (E (exNT K))
section
variable {P : Program} {w : World} {K : PySem.W.Frag} {mg : Str → Option Value} {base : Heap}
theorem ok__law_told (c : Tx K w mg) : FnOk P w K mg base (L2.CX P w) 8 (He.ga K "_law_told") (fdOf K (He.ga K "_law_told")) ["_law_row"] (lift K spTold 1) := by
  refine c.fd__law_told.ok sc__law_told (fun vs H Q E h => h.1) (fun cdv A outer s H vs Q E hr h => ⟨_,
    pss_cons (ps_asg (pe_tup (pa_cons pe_non (pa_cons pe_non pa_nil))) (pg_tup rfl (pgs_cons (pg_name (i := 1) sc__law_told.nd rfl (.inl rfl)) (pgs_cons (pg_name (i := 2) sc__law_told.nd rfl (.inl rfl)) pgs_nil))))
    (pss_cons (ps_try_held (c := .ref (He.ga K "SteadError")) (i := 3) (tb := fun W => tAsg (tCallS (lift K (spRD K) 1) (WE W) (tCons (tVar 0) tNil)) (gName 1)) (ts := fun _ => tAsg (tVar 3) (gName 2)) rfl rfl rfl sc__law_told.nd rfl rfl ⟨(by rfl), (by decide), .inl c.g_SteadError⟩
      (fun W pn xe tk => pss_one (ps_set (i := 1) sc__law_told.nd rfl (.inl rfl) (pe_callS (ok_read_deed c) (hr.mono (by decide)) (by rfl) c.g_read_deed c.fd_read_deed.kp (bd_read_deed c) (fun σ => passAt tk σ) (pa_cons (pv 0) pa_nil))))
      (fun a pn => pss_one (ps_set (i := 2) sc__law_told.nd rfl (.inl rfl) (pv 3))))
    (pss_cons (ps_if (pt_cmpR op_isN (pv 2) pe_non (nomark _)) (pss_one (ps_ret (pv 1))) pss_nil)
    (pss_cons (ps_set (i := 4) sc__law_told.nd rfl (.inl rfl) (pe_lst (pa_cons (pe_callB call_isZ (by rfl) c.f_isinstance b_isinstance (pa_cons (pv 2) (pa_cons (pe_glob (by rfl) c.g_NoDeed (v := .ref (He.ga K "NoDeed")) rfl) pa_nil)))
      (pa_cons (pe_callB call_isZ (by rfl) c.f_isinstance b_isinstance (pa_cons (pv 2) (pa_cons (pe_glob (by rfl) c.g_NoLetter (v := .ref (He.ga K "NoLetter")) rfl) pa_nil)))
      (pa_cons (pe_callB call_isZ (by rfl) c.f_isinstance b_isinstance (pa_cons (pv 2) (pa_cons (pe_glob (by rfl) c.g_NoName (v := .ref (He.ga K "NoName")) rfl) pa_nil))) pa_nil)))))
    (pss_cons (ps_set (i := 5) sc__law_told.nd rfl (.inl rfl) (pe_and (pe_callB call_isZ (by rfl) c.f_isinstance b_isinstance (pa_cons (pv 2) (pa_cons (pe_glob (by rfl) c.g_NoText (v := .ref (He.ga K "NoText")) rfl) pa_nil)))
      (pe_and (pe_cmpR op_eq (pe_xz (pv 2)) pe_int (nomark _)) (pe_one (pe_cmpR (op_notInD (hu65 hr)) pe_bl (pv 4) rfl)))))
    (pss_one (ps_ret (pe_ifExp (pt_val (pv 5) (by intro _; rfl)) pe_str pe_str))))))), ?_⟩)
  obtain ⟨hl, R, I, xs, Qd, Ed, g, ar, hs, k, _⟩ := h
  obtain ⟨d, rfl, hf, h2, hq⟩ := hs
  cases ar with
  | @cons x v xs' vs' a1 ar =>
  cases ar
  refine ⟨(show 2 ≤ sizeLine by decide), fun pz nz => ?_⟩
  have e0 := ext_own (o := .tup [.non, .non]) g nz
  refine ⟨pz, [.non, .non], rfl, SqT.of upd_same, rfl, _, _, rfl, _, _, rfl, rfl, ?_⟩
  cases er : DW.readDeed d with
  | some y =>
    rw [er] at hq
    refine ⟨_, rfl, rfl, R, I, [.d d], fun x => x = .d y, fun _ => False, e0.good, .cons a1 .nil, ⟨d, rfl, hf, h2, ?_⟩, ?_, fun x c od I' H' _ _ q => q.elim⟩
    · rw [er]
      rfl
    · intro x v2 I' H' ext ret hx
      subst hx
      refine ⟨_, rfl, rfl, _, rfl, iteG (fun _ => ?_) fun b => absurd b (by decide)⟩
      exact ⟨_, rfl, k (.d y) v2 I' H' (e0.trans g ext) ret hq⟩
  | none =>
  rw [er] at hq
  refine ⟨_, rfl, rfl, R, I, [.d d], fun _ => False, fun x => x = exNT K, e0.good, .cons a1 .nil, ⟨d, rfl, hf, h2, ?_⟩, fun x v I' H' e r q => q.elim, ?_⟩
  · rw [er]
    rfl
  intro x cl od I' H' ext xa hx
  subst hx
  obtain ⟨ec, hfs⟩ := xa
  subst ec
  rcases hfs with ⟨h1, _⟩ | ⟨dx, us, rfl, hd, hk, hv⟩
  · cases h1
  obtain ⟨fv, rfl⟩ : ∃ fv, us = ([("row", fv)] : List (Str × V)) := by
    match us, hk with
    | [(f, fv)], hk =>
      have : f = "row" := by
        have := congrArg List.head? hk
        simpa [exNT] using this
      exact ⟨fv, by rw [this]⟩
  have ef : fv = .int 0 := by
    have hv : DaAll K I' [fv] [.int 0] := hv
    cases hv with
    | cons h _ => cases h; rfl
  subst ef
  refine ⟨c.em_NoText_SteadError, fun a na => ?_⟩
  refine ⟨_, rfl, ?_⟩
  have ndx : dx ≠ a := fun e => by rw [e, na] at hd; cases hd
  have e1 := ext_own (o := exz a (.ref (exNT K).C) (some dx)) ext.good na
  have z1 : (upd H' a (exz a (.ref (exNT K).C) (some dx))) a = some (exz a (.ref (exNT K).C) (some dx)) := upd_same
  have z2 : (upd H' a (exz a (.ref (exNT K).C) (some dx))) dx = some (.xd ([("row", .int 0)] : List (Str × V))) := by rw [upd_ne ndx]; exact hd
  refine ⟨_, rfl, rfl, _, rfl, iteG (fun b => absurd (of_decide_eq_true b) nofun) fun _ => ?_⟩
  refine ⟨_, rfl, ?_⟩
  refine ⟨a, _, some dx, [("row", .int 0)], _, .ref _, _, rfl, z1, z2, c.xc_NoText, fun u r => r, c.ki_NoDeed, ?_⟩
  refine ⟨_, rfl, ?_⟩
  refine ⟨a, _, some dx, [("row", .int 0)], _, .ref _, _, rfl, z1, z2, c.xc_NoText, fun u r => r, c.ki_NoLetter, ?_⟩
  refine ⟨_, rfl, ?_⟩
  refine ⟨a, _, some dx, [("row", .int 0)], _, .ref _, _, rfl, z1, z2, c.xc_NoText, fun u r => r, c.ki_NoName, ?_⟩
  refine ⟨(show 3 ≤ sizeLine by decide), fun p np => ?_⟩
  have pa : a ≠ p := fun e => by have q := np; rw [← e, z1] at q; cases q
  have pd : dx ≠ p := fun e => by have q := np; rw [← e, z2] at q; cases q
  have w1 : ∀ o : HO, upd (upd H' a (exz a (.ref (exNT K).C) (some dx))) p o a = some (exz a (.ref (exNT K).C) (some dx)) := fun o => by rw [upd_ne pa]; exact z1
  have w2 : ∀ o : HO, upd (upd H' a (exz a (.ref (exNT K).C) (some dx))) p o dx = some (.xd ([("row", .int 0)] : List (Str × V))) := fun o => by rw [upd_ne pd]; exact z2
  refine ⟨_, rfl, ?_⟩
  refine ⟨a, _, some dx, [("row", .int 0)], _, .ref _, _, rfl, w1 _, w2 _, c.xc_NoText, fun u r => r, c.ki_NoText, ?_⟩
  refine ⟨true, rfl, iteG (fun _ => ?_) fun b => by cases b⟩
  refine ⟨_, rfl, a, _, dx, _, .int 0, rfl, w1 _, w2 _, c.xf_NoText, c.na_NoText, rfl, rfl, _, rfl, iteG (fun _ => ?_) fun b => absurd b (by decide)⟩
  have dpa : DpAll K (upd (upd H' a (exz a (.ref (exNT K).C) (some dx))) p (.lst [.bl false, .bl false, .bl false])) [.bl false, .bl false, .bl false] [.bool false, .bool false, .bool false] := .cons (.bl _) (.cons (.bl _) (.cons (.bl _) .nil))
  refine ⟨_, rfl, .bool true, [.bool false, .bool false, .bool false], .bl _, .lst (SqL.of upd_same) dpa, by decide +kernel, by decide +kernel, ?_⟩
  have eb : (!([PyData.bool false, .bool false, .bool false].any fun z => PyData.eqv z (.bool true))) = true := by decide +kernel
  rw [eb]
  have e3 := ext_own (o := .lst [.bl false, .bl false, .bl false]) e1.good np
  refine ⟨_, rfl, _, rfl, iteG (fun _ => ?_) fun b => by cases b⟩
  exact k (.d (.str "refused")) _ I' _ (((e0.trans g ext).trans g e1).trans g e3) (.str _) hq
end

section
variable {P : Program} {w : World} {K : PySem.W.Frag} {mg : Str → Option Value} {base : Heap}
end
end K87
set_option Elab.async false
set_option linter.all false
set_option maxRecDepth 100000
set_option maxHeartbeats 4000000
namespace K87
open PySem PySem.Spec PyProof.Rows L2 PD
theorem asgV {i j : Nat} {y : PyData} {u : TDS} {D : DEnds} {E : EK} {δ δ' : DEnv} (h1 : δ[i]? = some (some (.d y))) (h2 : δ.set j (some (.d y)) = δ') (h : u D E δ') : dSeq (dAsg (dVar i) (dName j)) u D E δ := by
  subst h2
  unfold dSeq dAsg dVar
  rw [h1]
  exact h
theorem LL_le {k : Nat} (h : k ≤ 3) : LL k ≤ 16350 := by
  have : k = 0 ∨ k = 1 ∨ k = 2 ∨ k = 3 := by omega
  rcases this with rfl | rfl | rfl | rfl <;> decide
theorem LL_le2 {k : Nat} (h : k < 3) : LL k ≤ 8150 := by
  have : k = 0 ∨ k = 1 ∨ k = 2 := by omega
  rcases this with rfl | rfl | rfl <;> decide
theorem few_ns {t : Told} (h : (nsOf t).length ≤ 100) : fewNs t := by
  cases t <;> first | exact h | exact trivial
theorem not_non (t : Told) : isNon t.data = false := by rw [t.data_eq]; rfl
theorem ifT {A B : Prop} (h : A) : if true = true then A else B := h
theorem isN_bK {a : PyData} {Q : Bool → Prop} {E : EK} (h : bK Q (.d (.bool (isNon a)))) : oIsN (fun b => b) (.d a) (.d .none) (bK Q) E := h
theorem intB_bK {p : Int → Int → Bool} {i j : Int} {Q : Bool → Prop} {E : EK} (h : bK Q (.d (.bool (p i j)))) : oIntB p (.d (.int i)) (.d (.int j)) (bK Q) E := h
/-- due[0] != 'tick' or 1 <= due[1] <= 10000 -/
theorem tick_test {t : Told} {u1 u2 : TDS} {D : DEnds} {E : EK} {δ : DEnv} (h6 : δ[6]? = some (some (.d t.data))) (h1 : tickOk t → u1 D E δ) (h2 : u2 D E δ) :
    dIfS (dOrT (dB (dBin oNe (dBin oIx (dVar 6) (dC (.d (.int 0)))) (dC (.d (.str "tick")))))
      (dB (dChain (oIntB fun i j => decide (i ≤ j)) (oIntB fun i j => decide (i ≤ j)) (dC (.d (.int 1))) (dBin oIx (dVar 6) (dC (.d (.int 1)))) (dC (.d (.int 10000)))))) u1 u2 D E δ := by
  unfold dIfS dOrT dB dBin dChain dVar
  simp only [h6]
  have ne : ∀ {w : Str} {ps : List PyData}, t.data = .tuple (.str w :: ps) → (w == ("tick" : Str)) = false → tickOk t → dIfS (dOrT (dB (dBin oNe (dBin oIx (dVar 6) (dC (.d (.int 0)))) (dC (.d (.str "tick")))))
      (dB (dChain (oIntB fun i j => decide (i ≤ j)) (oIntB fun i j => decide (i ≤ j)) (dC (.d (.int 1))) (dBin oIx (dVar 6) (dC (.d (.int 1)))) (dC (.d (.int 10000)))))) u1 u2 D E δ := fun {w ps} e b tk => by
    unfold dIfS dOrT dB dBin dChain dVar
    simp only [h6, e]
    refine ⟨.str w, at0, .inl rfl, ?_⟩
    refine bKG (fun _ => ?_) fun b' => ?_
    · exact h1 tk
    · rw [eqv_str, b] at b'
      cases b'
  unfold dIfS dOrT dB dBin dChain dVar at ne
  simp only [h6] at ne
  cases t with
  | tick n =>
    refine ⟨.str "tick", at0, .inl rfl, ?_⟩
    refine bKG (fun b => absurd b (by decide +kernel)) fun _ => ?_
    refine ifF ?_
    refine ⟨.int n, atI_nat (j := 1) rfl, ?_⟩
    refine intB_bK ?_
    refine bKG (fun b1 => ?_) fun _ => ?_
    · refine ifT ?_
      dsimp only [dC]
      refine intB_bK ?_
      refine bKG (fun b2 => ?_) fun _ => ?_
      · exact h1 ⟨of_decide_eq_true b1, of_decide_eq_true b2⟩
      · exact h2
    · exact h2
  | opn a b ns c => exact ne rfl (by decide +kernel) trivial
  | cup a ns n b c => exact ne rfl (by decide +kernel) trivial
  | member a k => exact ne rfl (by decide +kernel) trivial
  | hear l => exact ne rfl (by decide +kernel) trivial
  | claim l m => exact ne rfl (by decide +kernel) trivial
  | day => exact ne rfl (by decide +kernel) trivial
  | round a => exact ne rfl (by decide +kernel) trivial
def longD : PyData → Bool
  | .str w => decide ((40 : Int) < (w.length : Nat))
  | _ => false
def lawOdds : List PyData := [.none, .int 7, .bool true, .list [.str "day"], .tuple [.str "day"], .dict [], .str "", .str " ", .str "rule a", .str "day ", .str " day"]
theorem lawOdds_odd : ∀ y ∈ lawOdds, DW.readDeed y = none ∧ ∀ z, y = .str z → z.length ≤ 79000 ∧ PyData.strOk z = true := fun y hy => by
  simp only [lawOdds, List.mem_cons, List.not_mem_nil, or_false] at hy
  have st : ∀ {x z : Str}, PyData.str x = .str z → x.length ≤ 79000 ∧ PyData.strOk x = true → z.length ≤ 79000 ∧ PyData.strOk z = true := fun e h => by cases e; exact h
  rcases hy with rfl | rfl | rfl | rfl | rfl | rfl | rfl | rfl | rfl | rfl | rfl
  · exact ⟨rfl, fun z e => by cases e⟩
  · exact ⟨rfl, fun z e => by cases e⟩
  · exact ⟨rfl, fun z e => by cases e⟩
  · exact ⟨rfl, fun z e => by cases e⟩
  · exact ⟨rfl, fun z e => by cases e⟩
  · exact ⟨rfl, fun z e => by cases e⟩
  · exact ⟨by decide +kernel, fun z e => st e (by decide +kernel)⟩
  · exact ⟨by decide +kernel, fun z e => st e (by decide +kernel)⟩
  · exact ⟨by decide +kernel, fun z e => st e (by decide +kernel)⟩
  · exact ⟨by decide +kernel, fun z e => st e (by decide +kernel)⟩
  · exact ⟨by decide +kernel, fun z e => st e (by decide +kernel)⟩
section
variable {P : Program} {w : World} {K : PySem.W.Frag} {mg : Str → Option Value} {base : Heap}
theorem rest_law (c : Tx K w mg) {cdv : Value} {A : Around} {outer : List Env} {s : Shared} {H : Hp} {E : XK} (hr : Room 8 (A.deeper (envOfC "law" (defScope (top 68)) s.heap.objs.size (He.ga K "law") cdv))) (hG : (A.deeper (envOfC "law" (defScope (top 68)) s.heap.objs.size (He.ga K "law") cdv)).guards = some []) (R : Reg) (I H0 : Hp) :
    ∃ ts t, DSs (cxOf (L2.CX P w) P w K mg base ["_law_script", "_law_draw", "_law_turn", "_law_row", "_law_spoil", "_law_word", "_law_due", "_law_found", "_law_odd"] "law" (defScope (top 68)) (He.ga K "law") cdv A outer s H E) ⟨K, R, wOf E, I, H0⟩ ((defBody (top 68)).drop 1) ts t ∧
      ∀ a cc, R = drawReg a cc → t { nx := fun _ => False, rt := fun x => x = .d (.bool true) } (fun _ => False) [none, some (.v (.ref a)), none, none, none, none, none, none, none] := by
  refine ⟨_, _, (dss_cons flat_of (ds_for flat_of (passes_of rfl) rfl (di_range1 (by rfl) c.f_range (da_cons de_int da_nil)) (dg_name (i := 2) sc_law.nd rfl (by first | exact .inl rfl | exact .inr rfl)) (dss_cons flat_of (ds_set (i := 3) sc_law.nd rfl (by first | exact .inl rfl | exact .inr rfl) (de_fnC (ok__law_words c) (hr.mono (by decide)) (by rfl) c.g__law_words c.fd__law_words.kp (bd__law_words c) (takesC (takes_of rfl rfl rfl rfl)) rfl (da_cons (de_fnC (ok__law_house_deed c) (hr.mono (by decide)) (by rfl) c.g__law_house_deed c.fd__law_house_deed.kp (bd__law_house_deed c) (takesC (takes_of rfl rfl rfl rfl)) rfl (da_cons (de_var (pv 1)) da_nil)) da_nil)))
      (dss_cons flat_of (ds_for flat_of (passes_of rfl) rfl (di_range1 (by rfl) c.f_range (da_cons (de_fnC (ok__law_take c) (hr.mono (by decide)) (by rfl) c.g__law_take c.fd__law_take.kp (bd__law_take c) (takesC (takes_of rfl rfl rfl rfl)) rfl (da_cons (de_var (pv 1)) (da_cons de_int da_nil))) da_nil)) (dg_name (i := 4) sc_law.nd rfl (by first | exact .inl rfl | exact .inr rfl)) (dss_one (ds_set (i := 3) sc_law.nd rfl (by first | exact .inl rfl | exact .inr rfl) (de_fnC (ok__law_spoilt c) (hr.mono (by decide)) (by rfl) c.g__law_spoilt c.fd__law_spoilt.kp (bd__law_spoilt c) (takesC (takes_of rfl rfl rfl rfl)) rfl (da_cons (de_var (pv 1)) (da_cons (de_var (pv 3)) da_nil))))))
      (dss_cons flat_of (ds_if (dt_cmp (op_neX (hu64 hr)) (nomark _) (od_ne rfl) (de_lc (own := [("_law_word", 5)]) rfl sc_law.nd (di_any (de_meth (md_split) (de_var (pv 3)) (da_cons de_str da_nil) rfl (fun q q' => pe_bm PySem.F.plainAttrs_str PySem.F.slot_str_split PySem.F.type_str_split (mt_split) q q')) rfl) (blkOk_by (N := ["_law_script", "_law_draw", "_law_turn", "_law_row", "_law_spoil", "_law_word", "_law_due", "_law_found", "_law_odd"]) (sc := defScope (top 68)) (by decide +kernel)) (fun _ _ _ _ _ => (dg_name (i := 5) sc_law.nd rfl (by first | exact .inl rfl | exact .inr rfl))) (fun _ _ _ _ _ => (dts_one (dt_cmp op_gt (nomark _) od_intB (de_callB call_len (cd_len rfl) (by rfl) c.f_len b_len (da_cons (de_var (pv 5)) da_nil)) de_int))) (fun _ _ _ _ _ => (de_var (pv 5))) (tgt_name (by decide)) s) (de_lst da_nil)) (dss_one ds_continue) dss_nil)
      (dss_cons flat_of (ds_par (i := 6) (j := 7) rfl sc_law.nd rfl rfl (by decide) rfl rfl (da_cons (de_fnC (ok__law_read c) (hr.mono (by decide)) (by rfl) c.g__law_read c.fd__law_read.kp (bd__law_read c) (takesC (takes_of rfl rfl rfl rfl)) rfl (da_cons (de_var (pv 3)) da_nil)) (da_cons (de_fnC (ok__law_told c) (hr.mono (by decide)) (by rfl) c.g__law_told c.fd__law_told.kp (bd__law_told c) (takesC (takes_of rfl rfl rfl rfl)) rfl (da_cons (de_var (pv 3)) da_nil)) da_nil)) rfl)
      (dss_cons flat_of (ds_if (dt_cmp op_isN (nomark _) od_isN (de_var (pv 6)) de_non) (dss_cons flat_of (ds_if (dw_or (dt_not (dt_val (de_callB call_isi (cd_isi rfl) (by rfl) c.f_isinstance b_isinstance (da_cons (de_var (pv 7)) (da_cons (de_ty (by rfl) c.f_str b_str) da_nil))))) (dw_or1 (dt_cmp (op_neX (hu64 hr)) (nomark _) (od_ne rfl) (de_var (pv 7)) de_str))).dt (dss_one (ds_ret de_bl)) dss_nil)
      (dss_one ds_continue)) dss_nil)
      (dss_cons flat_of (ds_if (dt_cmp (op_neX (hu64 hr)) (nomark _) (od_ne rfl) (de_callB (call_reprD hG (hu64 hr)) (cd_repr rfl) (by rfl) c.f_repr b_repr (da_cons (de_var (pv 7)) da_nil)) (de_callB (call_reprD hG (hu64 hr)) (cd_repr rfl) (by rfl) c.f_repr b_repr (da_cons (de_var (pv 6)) da_nil))) (dss_one (ds_ret de_bl)) dss_nil)
      (dss_one (ds_if (dw_or (dt_cmp (op_neX (hu64 hr)) (nomark _) (od_ne rfl) (de_ix (de_var (pv 6)) de_int (fun _ _ => rfl) rfl) de_str) (dw_or1 (dt_chain op_le op_le od_intB od_intB de_int (de_ix (de_var (pv 6)) de_int (fun _ _ => rfl) rfl) de_int))).dt (dss_one (ds_if (dt_cmp (op_neX (hu64 hr)) (nomark _) (od_ne rfl) (de_fnC (ok_deed_text c) (hr.mono (by decide)) (by rfl) c.g_deed_text c.fd_deed_text.kp (bd_deed_text c) (takesC (takes_of rfl rfl rfl rfl)) rfl (da_cons (de_var (pv 7)) da_nil)) (de_var (pv 3))) (dss_one (ds_ret de_bl)) dss_nil)) dss_nil)))))))))
      (dss_cons flat_of (ds_set (i := 8) sc_law.nd rfl (by first | exact .inl rfl | exact .inr rfl) (de_lst (da_cons de_non (da_cons de_int (da_cons de_bl (da_cons (de_lst (da_cons de_str da_nil)) (da_cons (de_tup (da_cons de_str da_nil)) (da_cons de_dict0 (da_cons de_str (da_cons de_str (da_cons de_str (da_cons de_str (da_cons de_str da_nil)))))))))))))
      (dss_one (ds_ret (de_cmp (op_eqX (hu64 hr)) (nomark _) (od_eq rfl) (de_fnC (ok__law_told c) (hr.mono (by decide)) (by rfl) c.g__law_told c.fd__law_told.kp (bd__law_told c) (takesC (takes_of rfl rfl rfl rfl)) rfl (da_cons (de_fnC (ok__law_pick c) (hr.mono (by decide)) (by rfl) c.g__law_pick c.fd__law_pick.kp (bd__law_pick c) (takesC (takes_of rfl rfl rfl rfl)) rfl (da_cons (de_var (pv 1)) (da_cons (de_var (pv 8)) da_nil))) da_nil)) de_str))))), fun a cc hR => ?_⟩
  subst hR
  have es : ∀ z : Str, PyData.eqv (.str z) (.str z) = true := fun z => by rw [eqv_str]; exact beq_self_eq_true z
  refine ⟨by decide, by decide, forGo_inv (fun _ δ => ∃ (x2 x3 x4 x5 x6 x7 x8 : Option DV), δ = [none, some (.v (.ref a)), x2, x3, x4, x5, x6, x7, x8]) ?_ ?_ _ _ ⟨none, none, none, none, none, none, none, rfl⟩⟩
  · rintro d ds _ ⟨x2, x3, x4, x5, x6, x7, x8, rfl⟩ N hN
    refine setG (δ' := [none, some (.v (.ref a)), some (.d d), x3, x4, x5, x6, x7, x8]) rfl ?_
    refine ⟨rfl, nnv1, a, cc, rfl, rfl, fun y hy => ?_⟩
    obtain ⟨t, rfl, ok⟩ := hy
    refine ⟨rfl, nn1, t, rfl, ok, ?_⟩
    refine setG (δ' := [none, some (.v (.ref a)), some (.d d), some (.d (.str t.text)), x4, x5, x6, x7, x8]) rfl ?_
    dsimp only
    refine seqI (fun δ' => ∃ (k : Nat) (z : Str) (x4' : Option DV), k ≤ 3 ∧ Row k z ∧ δ' = [none, some (.v (.ref a)), some (.d d), some (.d (.str z)), x4', x5, x6, x7, x8]) ?_ ?_
    · rintro _ ⟨k, z, x4', hk, hrow, rfl⟩
      have hl : z.length ≤ 16350 := Nat.le_trans hrow.len (LL_le hk)
      have hl9 : z.length ≤ 79000 := Nat.le_trans hl (by decide)
      have hww := split_wok hl9 hrow.ok
      have hl2 := split_le z " "
      have a1 : z.length + 2 ≤ sizeLine := Nat.le_trans (Nat.add_le_add_right hl9 2) (by decide)
      have a2 : (Txt.split z " ").length ≤ sizeLine := Nat.le_trans hl2 a1
      refine ⟨rfl, rfl, a1, a2, trivial, ?_⟩
      refine lcGo_filter (p := longD) (fun x hx KK kk => ?_) ?_
      · obtain ⟨v, hv, rfl⟩ := List.mem_map.mp hx
        have hv1 : v.length ≤ sizeLine := Nat.le_trans (hww.mem hv) (by decide)
        refine setG (δ' := [none, some (.v (.ref a)), some (.d d), some (.d (.str z)), x4', some (.d (.str v)), x6, x7, x8]) rfl ?_
        refine ⟨hv1, ?_⟩
        exact kk
      rw [List.nil_append]
      have efl : ∀ ws : List Str, (ws.map PyData.str).filter longD = DW.sd (ws.filter fun w => longD (.str w)) := fun ws => by
        unfold DW.sd
        rw [List.filter_map]
        rfl
      rw [efl]
      have shf : SeqAt.shaped (.list (DW.sd ((Txt.split z " ").filter fun w => longD (.str w)))) = true := shaped_sd fun x hx => hww.s x (List.mem_filter.mp hx).1
      refine ⟨Nat.zero_le _, .inr ⟨shf, by decide +kernel⟩, ?_⟩
      refine bKG (fun _ => hN _ ⟨_, _, _, _, _, _, _, rfl⟩) fun _ => ?_
      refine ifF ?_
      dsimp only [dNext]
      refine ⟨rfl, nn1, z, rfl, hl9, hrow.ok, rfl, nn1, .str z, rfl, (fun z2 e => by cases e; exact ⟨hl9, hrow.ok⟩), ⟨_, rfl⟩, ?_⟩
      cases er : DW.readDeed (.str z) with
      | none =>
        dsimp only [dNil]
        refine setG (δ' := [none, some (.v (.ref a)), some (.d d), some (.d (.str z)), x4', x5, some (.d .none), x7, x8]) rfl ?_
        refine setG (δ' := [none, some (.v (.ref a)), some (.d d), some (.d (.str z)), x4', x5, some (.d .none), some (.d (.str "refused")), x8]) rfl ?_
        refine ⟨(fun u e => (by cases e)), isN_bK ?_⟩
        refine bKG (fun _ => ?_) fun b => absurd b (by decide)
        refine ⟨_, rfl, .inl rfl, ?_⟩
        refine bKG (fun _ => ?_) fun b => absurd b (by decide)
        refine ⟨.inl rfl, ?_⟩
        refine bKG (fun hb => absurd hb (by decide +kernel)) fun _ => ?_
        exact hN _ ⟨_, _, _, _, _, _, _, rfl⟩
      | some y =>
        obtain ⟨t2, rd, rfl, esp⟩ := read_told er
        have few := hrow.few hk rd esp
        have rep := rd_repr rd (Nat.le_trans few (by decide))
        have ez : t2.text = z := (text_back esp).symm
        dsimp only [dNil]
        refine setG (δ' := [none, some (.v (.ref a)), some (.d d), some (.d (.str z)), x4', x5, some (.d t2.data), x7, x8]) rfl ?_
        refine setG (δ' := [none, some (.v (.ref a)), some (.d d), some (.d (.str z)), x4', x5, some (.d t2.data), some (.d t2.data), x8]) rfl ?_
        refine ⟨(fun u e => (by cases e)), isN_bK ?_⟩
        refine bKG (fun b => absurd b (by rw [not_non]; decide)) fun _ => ?_
        refine ifF ?_
        dsimp only [dNext]
        refine ⟨_, rfl, rep, _, rfl, rep, .inl rfl, ?_⟩
        refine bKG (fun hb => absurd hb (by show ¬ (!PyData.eqv (.str t2.data.shown) (.str t2.data.shown)) = true; rw [es]; decide)) fun _ => ?_
        refine ifF ?_
        dsimp only [dNext]
        refine tick_test (t := t2) rfl (fun tk => ?_) (hN _ ⟨_, _, _, _, _, _, _, rfl⟩)
        refine ⟨rfl, nn1, t2.data, rfl, rd_fits rd (Nat.le_trans few (by decide)), ?_⟩
        rw [rd_text rd (few_ns few) tk, ez]
        refine ⟨.inl rfl, ?_⟩
        refine bKG (fun hb => absurd hb (by show ¬ (!PyData.eqv (.str z) (.str z)) = true; rw [es]; decide)) fun _ => ?_
        exact hN _ ⟨_, _, _, _, _, _, _, rfl⟩
    · intro N' hN'
      refine ⟨rfl, nnv, a, cc, 4, rfl, rfl, by decide, by decide, fun j j0 j1 => ?_⟩
      refine ⟨Int.le_trans (show j ≤ 4 by omega) (by decide), by omega, ?_⟩
      have hj : (rangeD 0 j.toNat).length ≤ 3 := by rw [range_len]; omega
      refine forGo_inv (fun ds δ => ∃ (k : Nat) (z : Str) (x4' : Option DV), k + ds.length ≤ 3 ∧ Row k z ∧ δ = [none, some (.v (.ref a)), some (.d d), some (.d (.str z)), x4', x5, x6, x7, x8]) ?_ ?_ _ _ ⟨0, t.text, x4, by omega, Row.first ok, rfl⟩
      · rintro d' ds' _ ⟨k, z, x4', hk, hrow, rfl⟩ N2 hN2
        rw [List.length_cons] at hk
        refine setG (δ' := [none, some (.v (.ref a)), some (.d d), some (.d (.str z)), some (.d d'), x5, x6, x7, x8]) rfl ?_
        refine ⟨rfl, nnv, a, cc, z, rfl, rfl, Nat.le_trans hrow.len (Nat.le_trans (LL_le (by omega)) (by decide)), hrow.ok, fun z2 hz => ?_⟩
        refine setG (δ' := [none, some (.v (.ref a)), some (.d d), some (.d (.str z2)), some (.d d'), x5, x6, x7, x8]) rfl ?_
        exact hN2 _ ⟨k + 1, z2, _, by omega, hrow.next (by omega) hz, rfl⟩
      · rintro _ ⟨k, z, x4', hk, hrow, rfl⟩
        exact hN' _ ⟨k, z, x4', by simpa using hk, hrow, rfl⟩
  · rintro _ ⟨x2, x3, x4, x5, x6, x7, x8, rfl⟩
    refine ⟨(show 1 ≤ sizeLine by decide), (show 1 ≤ sizeLine by decide), (show 11 ≤ sizeLine by decide), ?_⟩
    refine setG (δ' := [none, some (.v (.ref a)), x2, x3, x4, x5, x6, x7, some (.d (.list lawOdds))]) rfl ?_
    refine ⟨rfl, nnv, a, cc, .list lawOdds, lawOdds, rfl, rfl, rfl, by simp [lawOdds], (show 11 ≤ sizeLine by decide), fun y hy => ?_⟩
    obtain ⟨y1, y2⟩ := lawOdds_odd y hy
    refine ⟨rfl, nn1, y, rfl, y2, ⟨_, rfl⟩, ?_⟩
    rw [y1]
    refine ⟨.inl rfl, ?_⟩
    show DV.d (.bool (PyData.eqv (.str "refused") (.str "refused"))) = .d (.bool true)
    rw [es]
end

end K87
set_option Elab.async false
set_option linter.all false
set_option maxRecDepth 100000
set_option maxHeartbeats 4000000
namespace K87
open PySem PySem.Spec PyProof.Rows L2 PD
theorem room9 : Room 9 callerA := ⟨rfl, by decide, by decide⟩
/-- what stood at the beginning stays -/
def regAll (H0 : Hp) : Reg where
  m b := H0 b ≠ none
  J H := ∀ b o, H0 b = some o → H b = some o
  dom := fun H b j m => by
    cases q : H0 b with
    | none => exact absurd q m
    | some o => rw [j b o q]; exact fun e => nomatch e
  st := fun H H' j k b o q => k b o (by rw [q]; exact fun e => nomatch e) (j b o q)
def hNone : Hp := fun _ => none
theorem good_all (H0 : Hp) : PD.Good (regAll H0) hNone H0 := ⟨fun b o q => (by cases q), fun b o q => q, fun b o q => (by cases q), fun b o q => (by cases q)⟩
section
variable {P : Program} {w : World} {K : PySem.W.Frag} {mg : Str → Option Value} {base : Heap}
theorem law_ok (c : Tx K w mg) {s1 : Shared} {H : Hp} {a : Addr} {ns : List Int} (few : ns.length ≤ 63) (e0 : Env0 P w K mg base callerA [] s1 H) (sq : SqL K H a (ns.map V.int)) :
    codeAny (model P w) callerA (.call (.ref (He.ga K "law")) ⟨[.ref a], []⟩) (CR (L2.CX P w) [] P w H s1 (fun v _ => v = .bl true) fun _ _ _ => False) s1 := by
  have kin : K.In s1.heap := e0.mod.kin.keeps fun b o q => (e0.bs b o q).1
  refine once (k := 8) c.fd_law sc_law room9 e0 (bd_law c s1 [.ref a] kin rfl) (.cons (a := V.ref a) rfl .nil) rfl fun cdv => ?_
  have hr : Room 8 (callerA.deeper (envOfC "law" (defScope (top 68)) s1.heap.objs.size (He.ga K "law") cdv)) := room9.deeper _
  refine ⟨_, pss_cons (ps_set (i := 1) sc_law.nd rfl (.inl rfl) (pe_callS (E := WE (wOf fun _ _ _ => False)) (ok__law_begin c) (hr.mono (by decide)) (by rfl) c.g__law_begin c.fd__law_begin.kp (bd__law_begin c) (fun σ => passAt (takes_of rfl rfl rfl rfl) σ) (pa_cons (pv 0) pa_nil))) pss_all, ?_⟩
  refine ⟨_, rfl, rfl, regAll H, hNone, [.v (.ref a)], fun x => ∃ cells : List Int, cells ≠ [] ∧ x = .d (.list [.list (cells.map PyData.int), .int 0, .int 1]), fun _ => False, good_all H, .cons rfl .nil, ⟨a, ns, ⟨fun H' j => sqL_mono j sq, few⟩, rfl, fun cells hne => ⟨cells, hne, rfl⟩⟩, ?_, fun x c od I' H' _ _ q => q.elim⟩
  intro x v I' H' ext ret hx
  obtain ⟨cells, hne, rfl⟩ := hx
  have ret : Da K I' v (.list [.list (cells.map PyData.int), .int 0, .int 1]) := ret
  cases ret with
  | @lst p vs ds hp hv =>
  cases hv with
  | @cons v1 vs1 d1 ds1 b1 hv =>
  cases hv with
  | @cons v2 vs2 d2 ds2 b2 hv =>
  cases hv with
  | @cons v3 vs3 d3 ds3 b3 hv =>
  cases hv
  cases b2
  cases b3
  cases b1 with
  | @lst q us es hq hu =>
  have eu : us = cells.map V.int := by
    clear hq hp
    have : ∀ (cs : List Int) (us : List V), DaAll K I' us (cs.map PyData.int) → us = cs.map V.int := by
      intro cs
      induction cs with
      | nil => intro us h; cases h; rfl
      | cons x r ih =>
        intro us h
        cases h with
        | cons h1 h2 =>
          cases h1
          rw [ih _ h2]
          rfl
    exact this cells us hu
  subst eu
  have d0 : DrawAt H' p q := ⟨cells, 0, 1, ext.good.sub _ _ hp, ext.good.sub _ _ hq, hne, by decide, by decide⟩
  have g0 : PD.Good (drawReg p q) hNone H' := ⟨fun b o e => (by cases e), d0, fun b o e => (by cases e), fun b o e => (by cases e)⟩
  obtain ⟨ts, t, D, sp⟩ := rest_law (P := P) (base := base) (outer := []) (s := s1) (H := H) (E := fun _ _ _ => False) c hr rfl (drawReg p q) hNone H'
  refine ⟨ts, D.ps, D.rf hNone H' [none, some (.v (.ref p)), none, none, none, none, none, none, none] _ _ (fun _ => False) _ ⟨g0, Ext.refl g0, ?_, fun x c od I' H' _ _ q => q.elim⟩ (sp p q rfl) ?_⟩
  · refine ⟨rfl, fun i x e => ?_, fun i j xs ys v _ e => ?_⟩
    · rcases i with _ | _ | i
      · cases e
      · cases e
        exact ⟨.ref p, rfl, rfl⟩
      · have m := List.mem_of_getElem? (show ([none, none, none, none, none, none, none] : DEnv)[i]? = some (some x) from e)
        simp at m
    · have m := List.mem_of_getElem? e
      simp at m
  · exact ⟨fun _ _ _ _ _ _ _ q => q.elim, fun x v I2 H2 _ r q => by subst q; cases r; rfl, fun _ _ _ _ _ _ _ q => q.elim, fun _ _ _ _ _ _ _ q => q.elim⟩
end

end K87
set_option Elab.async false
set_option linter.all false
open PySem PySem.W PyProof.Rows
set_option maxRecDepth 100000 in
set_option maxHeartbeats 0 in
theorem PySem.Challenge.cw_playstead_k87_rows_read_or_refused_holds : PySem.Challenge.rw_playstead_k87_rows_read_or_refused.Holds := by
  w_on; o_law
  refine HandSHeadRun.head_any (r := OpenLaw.row PySem.Challenge.rw_playstead_k87_rows_read_or_refused) (q := view (OpenLaw.row PySem.Challenge.rw_playstead_k87_rows_read_or_refused).prog [68]) (H := K87.hk) (ob := K87.ob) (M := 6000) (loose := K87.names) (d := HandSHeadRun.topDef (OpenLaw.row PySem.Challenge.rw_playstead_k87_rows_read_or_refused).prog 68) (kwd := []) K87.ob_eq
    (by kernel_rfl) (fun s => by kernel_rfl) K87.run (by kernel_rfl) (by kernel_rfl) (by kernel_rfl) (by rfl) (by first | assumption | decide +kernel) (by decide +kernel) ⟨rfl, rfl, rfl, rfl, rfl, by decide +kernel⟩ ?hw ?hc
  case hw => w_witness2
  case hc =>
    refine PD.law_walk (l := PySem.Challenge.rw_playstead_k87_rows_read_or_refused) (n := 63) (CX := fun w => L2.CX (PySem.Challenge.rw_playstead_k87_rows_read_or_refused).prog w) rfl (by decide) (by kernel_rfl) ?F ?X
    case X =>
      intro w H s e s' z
      obtain ⟨_, _, _, _, _, _, _, _, _, _, _, _, z⟩ := z
      exact z
    case F =>
      intro w mg fa h Y G hmg0
      obtain ⟨K, KX, c⟩ := Y
      have hmg : mg ("law" : PySem.Str) = some (.ref fa) := by
        have e : (HandSHeadRun.topDef (OpenLaw.row PySem.Challenge.rw_playstead_k87_rows_read_or_refused).prog 68).name = ("law" : PySem.Str) := by kernel_rfl
        rw [← e]
        exact hmg0
      have t := K87.tx KX G c
      have e := hmg.symm.trans t.g_law
      cases e
      exact ⟨K, KX, fun s1 a ns base H few _ _ e0 sq => K87.law_ok t few e0 sq⟩
