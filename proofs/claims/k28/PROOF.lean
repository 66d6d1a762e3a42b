import PyProof.Rows.All
import Wide.All
import OpenK.AllK
import Wide.FinOn
import PyProof.EqAt
import PyProof.EqKinds
import PyProof.TupleCall
import HandS.ForMost
import HandS.ForExc
import HandS.HeadHook1
import HandS.Defaults
import HandS.CallSlots
import HandS.IsInst
import HandS.Wide
import HandS.TupAny
import HandS.Style
import HandS.Zip
import HandS.Flow
import HandS.Evl
import HandS.Exc
import HandS.RaiseMore
import HandS.TupLen
import HandS.Walk
import KE.GoesNew
import KE.GoesMore
import KE.GoesEnum
import HandS.Small
import HandS.Comp
import HandS.WordsExc
import HandS.Ends
import HandS.HeadEnd
import HandS.StrMore
import KE.KStateDown
import Lean
import HandS.More
import HandS.Words
import HandS.Head0
import HandS.Head1
import HandS.Head2
import HandS.HeadHook2
import PySem.Challenge.RW_sumdigits_k28_determinants
import PyProof.ReprLen
import PyProof.FitsInt
section
set_option Elab.async false
set_option linter.all false
set_option maxRecDepth 100000
set_option maxHeartbeats 1000000
/-! Z1: values without addresses, a store of what may change, and what they stand for in the layer's heap. -/
namespace Z
open PySem PySem.Spec PyProof.Rows L2
open Evl (Ex)

/-- a dict's key: an int or a text; a tuple of such -/
inductive PK where
  | k (x : Key) | t (xs : List Key)
  deriving DecidableEq
/-- what a compound value is -/
inductive Kd where
  | tup | lst | scr
  | dct (t : Bool) (ks : List PK)
  | ins (c : Nat) (fs : List Nat)
  deriving DecidableEq
/-- a value: nd a compound that never changes any more, ref a place of the store -/
inductive PV where
  | non | bl (b : Bool) | int (i : Int) | str (x : Str) | ty (n : String) | cls (c : Nat)
  | ref (n : Nat)
  | nd (k : Kd) (xs : List PV)
/-- names of classes and fields by numbers -/
structure Tb where
  cn : Nat → Str
  fd : Nat → Str
  nf : Nat
  okf : Nat → Nat → Bool
abbrev Tb.ca (T : Tb) (K : PySem.W.Frag) (c : Nat) : Addr := He.ga K (T.cn c)

/-- what stands at an address for a compound of the kind k over the values us -/
def Shp (T : Tb) (K : PySem.W.Frag) (H : Hp) (a : Addr) : Kd → List V → Prop
  | .tup, us => H a = some (.tup us)
  | .lst, us => H a = some (.lst us)
  | .scr, us => SqL K H a us
  | .dct false ks, us => us.length = ks.length ∧ ∃ kk : List Key, ks = kk.map PK.k ∧ H a = some (.dK (kk.zip us))
  | .dct true ks, us => us.length = ks.length ∧ ∃ kk : List (List Key), ks = kk.map PK.t ∧ H a = some (.dT (kk.zip us))
  | .ins c fs, us => us.length = fs.length ∧ ∃ dx, H a = some (.ins (T.ca K c) dx ((fs.map T.fd).zip us))
/-- the same of a thing that may change: it is tracked itself -/
def Liv (T : Tb) (K : PySem.W.Frag) (H : Hp) (a : Addr) : Kd → List V → Prop
  | .tup, _ => False
  | .scr, _ => False
  | .lst, us => H a = some (.lst us)
  | .dct false ks, us => us.length = ks.length ∧ ∃ kk : List Key, ks = kk.map PK.k ∧ H a = some (.dK (kk.zip us))
  | .dct true ks, us => us.length = ks.length ∧ ∃ kk : List (List Key), ks = kk.map PK.t ∧ H a = some (.dT (kk.zip us))
  | .ins c fs, us => us.length = fs.length ∧ ∃ dx, H a = some (.ins (T.ca K c) dx ((fs.map T.fd).zip us))
theorem Liv.shp {T : Tb} {K : PySem.W.Frag} {H : Hp} {a : Addr} {k : Kd} {us : List V} (h : Liv T K H a k us) : Shp T K H a k us := by
  cases k with
  | tup => exact h.elim
  | scr => exact h.elim
  | lst => exact h
  | dct t ks => cases t <;> exact h
  | ins c fs => exact h
theorem Shp.mono {T : Tb} {K : PySem.W.Frag} {H H' : Hp} {a : Addr} {k : Kd} {us : List V} (e : Ex H H') (h : Shp T K H a k us) : Shp T K H' a k us := by
  cases k with
  | tup => exact e _ _ h
  | scr => exact Evl.ex_l e h
  | lst => exact e _ _ h
  | dct t ks =>
    cases t <;> (obtain ⟨hl, kk, h1, h2⟩ := h; exact ⟨hl, kk, h1, e _ _ h2⟩)
  | ins c fs =>
    obtain ⟨hl, dx, h⟩ := h
    exact ⟨hl, dx, e _ _ h⟩

/-- the addresses of the store's places; things held aside while a comprehension runs -/
structure Pl where
  as : List Addr
  hid : List (Addr × HO)
def Pl.le (R R' : Pl) : Prop := R.as <+: R'.as ∧ R'.hid = R.hid
theorem Pl.refl (R : Pl) : Pl.le R R := ⟨List.prefix_refl _, rfl⟩
theorem Pl.le.trans {R R' R2 : Pl} (p : Pl.le R R') (q : Pl.le R' R2) : Pl.le R R2 := ⟨p.1.trans q.1, q.2.trans p.2⟩
def Pl.add (R : Pl) (a : Addr) : Pl := ⟨R.as ++ [a], R.hid⟩
theorem Pl.app (R : Pl) (a : Addr) : Pl.le R (R.add a) := ⟨List.prefix_append _ _, rfl⟩
mutual
/-- the value x stands for u: R the store's places, F the part of the heap that never changes any more -/
def Rel (T : Tb) (K : PySem.W.Frag) (R : Pl) (F : Hp) : PV → V → Prop
  | .non, u => u = .non
  | .bl b, u => u = .bl b
  | .int i, u => u = .int i
  | .str x, u => u = .str x
  | .ty n, u => u = .ty n
  | .cls c, u => u = .ref (T.ca K c)
  | .ref n, u => ∃ a, u = .ref a ∧ R.as[n]? = some a
  | .nd k xs, u => ∃ a us, u = .ref a ∧ Shp T K F a k us ∧ RelL T K R F xs us
def RelL (T : Tb) (K : PySem.W.Frag) (R : Pl) (F : Hp) : List PV → List V → Prop
  | [], us => us = []
  | x :: xs, us => ∃ u r, us = u :: r ∧ Rel T K R F x u ∧ RelL T K R F xs r
end
section
variable {T : Tb} {K : PySem.W.Frag} {R R' : Pl} {F F' : Hp}
theorem rel_get (p : R.as <+: R'.as) {n : Nat} {a : Addr} (h : R.as[n]? = some a) : R'.as[n]? = some a := by
  obtain ⟨t, e⟩ := p
  have hl : n < R.as.length := (List.getElem?_eq_some_iff.mp h).1
  rw [← e, List.getElem?_append_left hl]; exact h
mutual
theorem Rel.mono0 (p : R.as <+: R'.as) (e : Ex F F') : ∀ (x : PV) (u : V), Rel T K R F x u → Rel T K R' F' x u
  | .non, u, h => by simpa [Rel] using h
  | .bl b, u, h => by simpa [Rel] using h
  | .int i, u, h => by simpa [Rel] using h
  | .str s, u, h => by simpa [Rel] using h
  | .ty n, u, h => by simpa [Rel] using h
  | .cls c, u, h => by simpa [Rel] using h
  | .ref n, u, h => by
    rw [Rel] at h ⊢
    obtain ⟨a, h1, h2⟩ := h
    exact ⟨a, h1, rel_get p h2⟩
  | .nd k xs, u, h => by
    rw [Rel] at h ⊢
    obtain ⟨a, us, h1, h2, h3⟩ := h
    exact ⟨a, us, h1, h2.mono e, RelL.mono0 p e xs us h3⟩
theorem RelL.mono0 (p : R.as <+: R'.as) (e : Ex F F') : ∀ (xs : List PV) (us : List V), RelL T K R F xs us → RelL T K R' F' xs us
  | [], us, h => by simpa [RelL] using h
  | x :: xs, us, h => by
    rw [RelL] at h ⊢
    obtain ⟨u, r, h1, h2, h3⟩ := h
    exact ⟨u, r, h1, Rel.mono0 p e x u h2, RelL.mono0 p e xs r h3⟩
end
theorem Rel.mono (p : Pl.le R R') (e : Ex F F') (x : PV) (u : V) (h : Rel T K R F x u) : Rel T K R' F' x u := Rel.mono0 p.1 e x u h
theorem RelL.mono (p : Pl.le R R') (e : Ex F F') (x : List PV) (u : List V) (h : RelL T K R F x u) : RelL T K R' F' x u := RelL.mono0 p.1 e x u h
theorem RelL.length : ∀ {xs : List PV} {us : List V}, RelL T K R F xs us → us.length = xs.length
  | [], us, h => by rw [RelL] at h; subst h; rfl
  | x :: xs, us, h => by
    rw [RelL] at h
    obtain ⟨u, r, rfl, _, h3⟩ := h
    simp [RelL.length h3]
theorem RelL.nil : RelL T K R F [] [] := by rw [RelL]
theorem RelL.cons {x : PV} {xs : List PV} {u : V} {us : List V} (h : Rel T K R F x u) (t : RelL T K R F xs us) : RelL T K R F (x :: xs) (u :: us) := by
  rw [RelL]; exact ⟨u, us, rfl, h, t⟩
theorem RelL.get : ∀ {xs : List PV} {us : List V} {i : Nat} {x : PV}, RelL T K R F xs us → xs[i]? = some x → ∃ u, us[i]? = some u ∧ Rel T K R F x u
  | [], us, i, x, h, e => by simp at e
  | y :: xs, us, 0, x, h, e => by
    rw [RelL] at h
    obtain ⟨u, r, rfl, h2, h3⟩ := h
    simp at e; subst e
    exact ⟨u, rfl, h2⟩
  | y :: xs, us, i + 1, x, h, e => by
    rw [RelL] at h
    obtain ⟨u, r, rfl, h2, h3⟩ := h
    simp at e
    obtain ⟨v, h4, h5⟩ := RelL.get (i := i) h3 e
    exact ⟨v, by simpa using h4, h5⟩
theorem RelL.append : ∀ {xs : List PV} {us : List V} {ys : List PV} {ws : List V}, RelL T K R F xs us → RelL T K R F ys ws → RelL T K R F (xs ++ ys) (us ++ ws)
  | [], us, ys, ws, h, t => by rw [RelL] at h; subst h; exact t
  | x :: xs, us, ys, ws, h, t => by
    rw [RelL] at h
    obtain ⟨u, r, rfl, h2, h3⟩ := h
    exact .cons h2 (RelL.append h3 t)
theorem RelL.set {y : PV} {w : V} (hy : Rel T K R F y w) : ∀ {xs : List PV} {us : List V} (i : Nat), RelL T K R F xs us → RelL T K R F (xs.set i y) (us.set i w)
  | [], us, i, h => by rw [RelL] at h; subst h; simp [RelL]
  | x :: xs, us, 0, h => by
    rw [RelL] at h
    obtain ⟨u, r, rfl, h2, h3⟩ := h
    exact .cons hy h3
  | x :: xs, us, i + 1, h => by
    rw [RelL] at h
    obtain ⟨u, r, rfl, h2, h3⟩ := h
    exact .cons h2 (RelL.set hy i h3)
theorem RelL.take : ∀ {xs : List PV} {us : List V} (n : Nat), RelL T K R F xs us → RelL T K R F (xs.take n) (us.take n)
  | _, us, 0, h => by simp [RelL]
  | [], us, n + 1, h => by rw [RelL] at h; subst h; simp [RelL]
  | x :: xs, us, n + 1, h => by
    rw [RelL] at h
    obtain ⟨u, r, rfl, h2, h3⟩ := h
    exact .cons h2 (RelL.take n h3)
theorem RelL.drop : ∀ {xs : List PV} {us : List V} (n : Nat), RelL T K R F xs us → RelL T K R F (xs.drop n) (us.drop n)
  | _, us, 0, h => h
  | [], us, n + 1, h => by rw [RelL] at h; subst h; simp [RelL]
  | x :: xs, us, n + 1, h => by
    rw [RelL] at h
    obtain ⟨u, r, rfl, h2, h3⟩ := h
    exact RelL.drop n h3
theorem RelL.reverse : ∀ {xs : List PV} {us : List V}, RelL T K R F xs us → RelL T K R F xs.reverse us.reverse
  | [], us, h => by rw [RelL] at h; subst h; exact .nil
  | x :: xs, us, h => by
    rw [RelL] at h
    obtain ⟨u, r, rfl, h2, h3⟩ := h
    rw [List.reverse_cons, List.reverse_cons]
    exact .append (RelL.reverse h3) (.cons h2 .nil)
theorem RelL.of_get : ∀ {xs : List PV} {us : List V}, us.length = xs.length → (∀ (i : Nat) (x : PV) (u : V), xs[i]? = some x → us[i]? = some u → Rel T K R F x u) → RelL T K R F xs us
  | [], [], _, _ => .nil
  | [], _ :: _, h, _ => by simp at h
  | _ :: _, [], h, _ => by simp at h
  | x :: xs, u :: us, h, hi => .cons (hi 0 x u rfl rfl) (RelL.of_get (by simpa using h) fun i y w h1 h2 => hi (i + 1) y w (by simpa using h1) (by simpa using h2))
end

/-- what may change, by place: nothing any more, or a compound -/
abbrev Sto := List (Option (Kd × List PV))
/-- the store S as it stands in the heap -/
structure Rep (T : Tb) (K : PySem.W.Frag) (R : Pl) (F : Hp) (S : Sto) (H : Hp) : Prop where
  ex : Ex F H
  len : R.as.length = S.length
  nd : R.as.Nodup
  there : ∀ a ∈ R.as, H a ≠ none
  hid : ∀ p ∈ R.hid, H p.1 = some p.2 ∧ p.1 ∉ R.as ∧ F p.1 = none
  hidnd : (R.hid.map Prod.fst).Nodup
  live : ∀ (n : Nat) (a : Addr) (k : Kd) (xs : List PV), R.as[n]? = some a → S[n]? = some (some (k, xs)) → F a = none ∧ ∃ us, Liv T K H a k us ∧ RelL T K R F xs us
/-- the names' values -/
abbrev Loc := List (Option PV)
structure RelE (T : Tb) (K : PySem.W.Frag) (R : Pl) (F : Hp) (l : Loc) (σ : L2.St) : Prop where
  len : l.length = σ.length
  at_ : ∀ (i : Nat) (v : PV), l[i]? = some (some v) → ∃ u, σ[i]? = some (some u) ∧ Rel T K R F v u
theorem RelE.mono {T : Tb} {K : PySem.W.Frag} {R R' : Pl} {F F' : Hp} {l : Loc} {σ : L2.St} (p : Pl.le R R') (e : Ex F F') (h : RelE T K R F l σ) : RelE T K R' F' l σ :=
  ⟨h.len, fun i v q => let ⟨u, h1, h2⟩ := h.at_ i v q; ⟨u, h1, h2.mono p e⟩⟩
theorem RelE.set {T : Tb} {K : PySem.W.Frag} {R : Pl} {F : Hp} {l : Loc} {σ : L2.St} {v : PV} {u : V} (h : RelE T K R F l σ) (i : Nat) (r : Rel T K R F v u) : RelE T K R F (l.set i (some v)) (σ.set i (some u)) := by
  refine ⟨by rw [List.length_set, List.length_set]; exact h.len, fun j w q => ?_⟩
  by_cases e : i = j
  · subst e
    by_cases hl : i < l.length
    · rw [List.getElem?_set_self hl] at q
      cases q
      exact ⟨u, by rw [List.getElem?_set_self (by rw [← h.len]; exact hl)], r⟩
    · rw [List.getElem?_eq_none (by simpa using hl)] at q; cases q
  · rw [List.getElem?_set_ne e] at q
    obtain ⟨x, h1, h2⟩ := h.at_ j w q
    exact ⟨x, by rw [List.getElem?_set_ne e]; exact h1, h2⟩

/-- an error in flight: its class, its fields -/
structure XV where
  c : Nat
  fs : List Nat
  xs : List PV
def RelX (T : Tb) (K : PySem.W.Frag) (R : Pl) (F : Hp) (H : Hp) (e : XV) (cls : Value) (d : Option Addr) : Prop :=
  cls = .ref (T.ca K e.c) ∧ ((e.fs = [] ∧ d = none) ∨ (∃ dd us, d = some dd ∧ F dd = none ∧ H dd = some (.xd ((e.fs.map T.fd).zip us)) ∧ us.length = e.fs.length ∧ RelL T K R F e.xs us))
/-- what an expression comes to -/
inductive Out (α : Type) where
  | ok (a : α) (S : Sto)
  | err (e : XV) (S : Sto)
  | bad
def Out.bind {α β : Type} (o : Out α) (k : α → Sto → Out β) : Out β := match o with
  | .ok a S => k a S
  | .err e S => .err e S
  | .bad => .bad
/-- what a statement comes to -/
inductive OutS where
  | nx (l : Loc) (S : Sto)
  | ret (v : PV) (S : Sto)
  | brk (l : Loc) (S : Sto)
  | cnt (l : Loc) (S : Sto)
  | err (e : XV) (l : Loc) (S : Sto)
  | bad
def OutS.seq (o : OutS) (k : Loc → Sto → OutS) : OutS := match o with
  | .nx l S => k l S
  | o => o
/-- an expression's value | error: in statements -/
def Out.st {α : Type} (o : Out α) (l : Loc) (k : α → Sto → OutS) : OutS := match o with
  | .ok a S => k a S
  | .err e S => .err e l S
  | .bad => .bad
abbrev DE := Loc → Sto → Out PV
abbrev DB := Loc → Sto → Out Bool
abbrev DA := Loc → Sto → Out (List PV)
abbrev DS := Loc → Sto → OutS
/-- a def: its arguments, the store -/
abbrev DF := List PV → Sto → Out PV

section
variable (T : Tb) (K : PySem.W.Frag) (R : Pl) (F : Hp)
def PostV (v : PV) (S : Sto) (Q : VK) : Prop := ∀ R' F' H u, Pl.le R R' → Ex F F' → Rep T K R' F' S H → Rel T K R' F' v u → Q u H
def PostL (vs : List PV) (S : Sto) (Q : List V → Hp → Prop) : Prop := ∀ R' F' H us, Pl.le R R' → Ex F F' → Rep T K R' F' S H → RelL T K R' F' vs us → Q us H
def PostB (b : Bool) (S : Sto) (Q : Bool → Hp → Prop) : Prop := ∀ R' F' H, Pl.le R R' → Ex F F' → Rep T K R' F' S H → Q b H
def PostX (e : XV) (S : Sto) (E : XK) : Prop := ∀ R' F' H cls d, Pl.le R R' → Ex F F' → Rep T K R' F' S H → RelX T K R' F' H e cls d → E cls d H
def PostE (l : Loc) (S : Sto) (Q : L2.St → Hp → Prop) : Prop := ∀ R' F' H σ, Pl.le R R' → Ex F F' → Rep T K R' F' S H → RelE T K R' F' l σ → Q σ H
def OkV (o : Out PV) (Q : VK) (E : XK) : Prop := match o with
  | .ok v S => PostV T K R F v S Q
  | .err e S => PostX T K R F e S E
  | .bad => False
def OkB (o : Out Bool) (Q : Bool → Hp → Prop) (E : XK) : Prop := match o with
  | .ok v S => PostB T K R F v S Q
  | .err e S => PostX T K R F e S E
  | .bad => False
def OkL (o : Out (List PV)) (Q : List V → Hp → Prop) (E : XK) : Prop := match o with
  | .ok v S => PostL T K R F v S Q
  | .err e S => PostX T K R F e S E
  | .bad => False
def OkS (o : OutS) (D : Ends) (E : XK) : Prop := match o with
  | .nx l S => PostE T K R F l S D.nx
  | .ret v S => PostV T K R F v S D.rt
  | .brk l S => PostE T K R F l S D.bk
  | .cnt l S => PostE T K R F l S D.ct
  | .err e _ S => PostX T K R F e S E
  | .bad => False
end
/-- the state, as the layer's readings take it -/
def tV (T : Tb) (K : PySem.W.Frag) (E : XK) (d : DE) : TE := fun σ H Q => ∃ R F l S, Rep T K R F S H ∧ RelE T K R F l σ ∧ OkV T K R F (d l S) Q E
def tT (T : Tb) (K : PySem.W.Frag) (E : XK) (d : DB) : TT := fun σ H Q => ∃ R F l S, Rep T K R F S H ∧ RelE T K R F l σ ∧ OkB T K R F (d l S) Q E
def tL (T : Tb) (K : PySem.W.Frag) (E : XK) (d : DA) : TA := fun σ H Q => ∃ R F l S, Rep T K R F S H ∧ RelE T K R F l σ ∧ OkL T K R F (d l S) Q E
def tS (T : Tb) (K : PySem.W.Frag) (E : XK) (d : DS) : TS := fun D σ H => ∃ R F l S, Rep T K R F S H ∧ RelE T K R F l σ ∧ OkS T K R F (d l S) D E
def spOf (T : Tb) (K : PySem.W.Frag) (n : Nat) (d : DF) : Sp := fun vs H Q E => vs.length = n ∧ ∃ R F S xs, Rep T K R F S H ∧ RelL T K R F xs vs ∧ OkV T K R F (d xs S) Q E

section
variable {T : Tb} {K : PySem.W.Frag} {R R1 : Pl} {F F1 : Hp} {S : Sto}
theorem PostX.mono {e : XV} {E : XK} (p : Pl.le R R1) (x : Ex F F1) (h : PostX T K R F e S E) : PostX T K R1 F1 e S E := fun R' F' H cls d p' x' => h R' F' H cls d (p.trans p') (x.trans x')
theorem PostV.mono {v : PV} {Q : VK} (p : Pl.le R R1) (x : Ex F F1) (h : PostV T K R F v S Q) : PostV T K R1 F1 v S Q := fun R' F' H u p' x' => h R' F' H u (p.trans p') (x.trans x')
theorem PostE.mono {l : Loc} {Q : L2.St → Hp → Prop} (p : Pl.le R R1) (x : Ex F F1) (h : PostE T K R F l S Q) : PostE T K R1 F1 l S Q := fun R' F' H u p' x' => h R' F' H u (p.trans p') (x.trans x')
theorem PostL.mono {v : List PV} {Q : List V → Hp → Prop} (p : Pl.le R R1) (x : Ex F F1) (h : PostL T K R F v S Q) : PostL T K R1 F1 v S Q := fun R' F' H u p' x' => h R' F' H u (p.trans p') (x.trans x')
theorem PostB.mono {v : Bool} {Q : Bool → Hp → Prop} (p : Pl.le R R1) (x : Ex F F1) (h : PostB T K R F v S Q) : PostB T K R1 F1 v S Q := fun R' F' H p' x' => h R' F' H (p.trans p') (x.trans x')
theorem OkV.mono {o : Out PV} {Q : VK} {E : XK} (p : Pl.le R R1) (x : Ex F F1) (h : OkV T K R F o Q E) : OkV T K R1 F1 o Q E := by
  cases o with
  | ok v S => exact PostV.mono p x h
  | err e S => exact PostX.mono p x h
  | bad => exact h
theorem OkB.mono {o : Out Bool} {Q : Bool → Hp → Prop} {E : XK} (p : Pl.le R R1) (x : Ex F F1) (h : OkB T K R F o Q E) : OkB T K R1 F1 o Q E := by
  cases o with
  | ok v S => exact PostB.mono p x h
  | err e S => exact PostX.mono p x h
  | bad => exact h
theorem OkL.mono {o : Out (List PV)} {Q : List V → Hp → Prop} {E : XK} (p : Pl.le R R1) (x : Ex F F1) (h : OkL T K R F o Q E) : OkL T K R1 F1 o Q E := by
  cases o with
  | ok v S => exact PostL.mono p x h
  | err e S => exact PostX.mono p x h
  | bad => exact h
theorem OkS.mono {o : OutS} {D : Ends} {E : XK} (p : Pl.le R R1) (x : Ex F F1) (h : OkS T K R F o D E) : OkS T K R1 F1 o D E := by
  cases o with
  | nx l S => exact PostE.mono p x h
  | ret v S => exact PostV.mono p x h
  | brk l S => exact PostE.mono p x h
  | cnt l S => exact PostE.mono p x h
  | err e l S => exact PostX.mono p x h
  | bad => exact h
end
end Z
end
section
set_option Elab.async false
set_option linter.all false
set_option maxRecDepth 100000
set_option maxHeartbeats 1000000
/-! Z2: new things, changed things; names, constants, displays, operators, comparisons, tests. -/
namespace Z
open PySem PySem.Spec PyProof.Rows L2
open Evl (Ex)

section
variable {T : Tb} {K : PySem.W.Frag} {R : Pl} {F H : Hp} {S : Sto}
theorem ex_upd {p : Addr} {o : HO} (h : H p = none) : Ex H (upd H p o) := Ex.new h
theorem Rep.fnone (r : Rep T K R F S H) {p : Addr} (h : H p = none) : F p = none := by
  cases e : F p with
  | none => rfl
  | some o => rw [r.ex p o e] at h; cases h
theorem Liv.upd {a p : Addr} {o : HO} {k : Kd} {us : List V} (ne : a ≠ p) (h : Liv T K H a k us) : Liv T K (L2.upd H p o) a k us := by
  cases k with
  | tup => exact h.elim
  | scr => exact h.elim
  | lst => show L2.upd H p o a = _; rw [upd_ne ne]; exact h
  | dct t ks =>
    cases t <;> (obtain ⟨hl, kk, h1, h2⟩ := h; exact ⟨hl, kk, h1, by rw [upd_ne ne]; exact h2⟩)
  | ins c fs =>
    obtain ⟨hl, dx, h⟩ := h
    exact ⟨hl, dx, by rw [upd_ne ne]; exact h⟩
theorem Liv.there {a : Addr} {k : Kd} {us : List V} (h : Liv T K H a k us) : H a ≠ none := by
  cases k with
  | tup => exact h.elim
  | scr => exact h.elim
  | lst => intro z; rw [show H a = _ from h] at z; cases z
  | dct t ks =>
    cases t <;> (obtain ⟨hl, kk, h1, h2⟩ := h; intro z; rw [h2] at z; cases z)
  | ins c fs =>
    obtain ⟨hl, dx, h⟩ := h
    intro z; rw [h] at z; cases z
/-- a new thing that never changes any more -/
theorem Rep.frozen (r : Rep T K R F S H) {p : Addr} {o : HO} (hp : H p = none) : Rep T K R (L2.upd F p o) S (L2.upd H p o) where
  ex := fun a u e => by
    by_cases h : a = p
    · subst h; rw [upd_same] at e ⊢; exact e
    · rw [upd_ne h] at e ⊢; exact r.ex a u e
  len := r.len
  nd := r.nd
  there := fun a ha => by
    by_cases h : a = p
    · rw [h, upd_same]; exact fun z => by cases z
    · rw [upd_ne h]; exact r.there a ha
  hidnd := r.hidnd
  hid := fun q hq => by
    obtain ⟨h1, h2, h3⟩ := r.hid q hq
    have ne : q.1 ≠ p := fun z => by rw [z, hp] at h1; cases h1
    exact ⟨by rw [upd_ne ne]; exact h1, h2, by rw [upd_ne ne]; exact h3⟩
  live := fun n a k xs h1 h2 => by
    obtain ⟨h3, us, h4, h5⟩ := r.live n a k xs h1 h2
    have ne : a ≠ p := fun z => h4.there (by rw [z]; exact hp)
    exact ⟨by rw [upd_ne ne]; exact h3, us, h4.upd ne, h5.mono (Pl.refl R) (ex_upd (r.fnone hp))⟩
/-- a new thing that may change -/
theorem Rep.laid (r : Rep T K R F S H) {p : Addr} {o : HO} {k : Kd} {xs : List PV} {us : List V} (hp : H p = none) (hl : Liv T K (L2.upd H p o) p k us) (hx : RelL T K R F xs us) : Rep T K (R.add p) F (S ++ [some (k, xs)]) (L2.upd H p o) where
  ex := fun a u e => by
    have h : a ≠ p := fun z => by rw [z, r.fnone hp] at e; cases e
    rw [upd_ne h]; exact r.ex a u e
  len := by
    show (R.as ++ [p]).length = _
    rw [List.length_append, List.length_append, r.len]; rfl
  hidnd := r.hidnd
  hid := fun q hq => by
    obtain ⟨h1, h2, h3⟩ := r.hid q hq
    have ne : q.1 ≠ p := fun z => by rw [z, hp] at h1; cases h1
    exact ⟨by rw [upd_ne ne]; exact h1, fun z => (List.mem_append.mp z).elim h2 fun z => ne (List.mem_singleton.mp z), h3⟩
  there := fun a ha => by
    by_cases h : a = p
    · rw [h, upd_same]; exact fun z => by cases z
    · rw [upd_ne h]
      rcases List.mem_append.mp ha with z | z
      · exact r.there a z
      · exact absurd (List.mem_singleton.mp z) h
  nd := by
    have hn : p ∉ R.as := fun z => r.there p z hp
    show (R.as ++ [p]).Nodup
    rw [List.nodup_append]
    exact ⟨r.nd, by simp, fun a ha b hb => by rw [List.mem_singleton.mp hb]; exact fun z => hn (by rw [← z]; exact ha)⟩
  live := fun n a k' xs' h1 h2 => by
    have h1 : (R.as ++ [p])[n]? = some a := h1
    by_cases hlt : n < R.as.length
    · rw [List.getElem?_append_left hlt] at h1
      rw [List.getElem?_append_left (by rw [← r.len]; exact hlt)] at h2
      obtain ⟨h3, us', h4, h5⟩ := r.live n a k' xs' h1 h2
      have ne : a ≠ p := fun z => h4.there (by rw [z]; exact hp)
      exact ⟨h3, us', h4.upd ne, h5.mono (Pl.app R p) (Ex.refl F)⟩
    · have hge : R.as.length ≤ n := Nat.le_of_not_lt hlt
      rw [List.getElem?_append_right hge] at h1
      rw [List.getElem?_append_right (by rw [← r.len]; exact hge)] at h2
      have e0 : n - R.as.length = 0 := by
        by_cases z : n - R.as.length = 0
        · exact z
        · rw [List.getElem?_eq_none (by simp; omega)] at h1; cases h1
      have e1 : n - S.length = 0 := by rw [← r.len]; exact e0
      rw [e0] at h1
      rw [e1] at h2
      cases h1; cases h2
      exact ⟨r.fnone hp, us, hl, hx.mono (Pl.app R _) (Ex.refl F)⟩
/-- a thing that may change, changed -/
theorem Rep.put (r : Rep T K R F S H) {n : Nat} {a : Addr} {o : HO} {k : Kd} {xs : List PV} {us : List V} (hn : R.as[n]? = some a) (hf : F a = none) (hl : Liv T K (L2.upd H a o) a k us) (hx : RelL T K R F xs us) : Rep T K R F (S.set n (some (k, xs))) (L2.upd H a o) where
  ex := fun b u e => by
    have h : b ≠ a := fun z => by rw [z, hf] at e; cases e
    rw [upd_ne h]; exact r.ex b u e
  len := by rw [List.length_set]; exact r.len
  nd := r.nd
  there := fun b hb => by
    by_cases h : b = a
    · rw [h, upd_same]; exact fun z => by cases z
    · rw [upd_ne h]; exact r.there b hb
  hidnd := r.hidnd
  hid := fun q hq => by
    obtain ⟨h1, h2, h3⟩ := r.hid q hq
    have ne : q.1 ≠ a := fun z => h2 (by rw [z]; exact List.mem_of_getElem? hn)
    exact ⟨by rw [upd_ne ne]; exact h1, h2, h3⟩
  live := fun m b k' xs' h1 h2 => by
    by_cases e : n = m
    · subst e
      rw [hn] at h1; cases h1
      have hlt : n < S.length := by
        rw [← r.len]; exact (List.getElem?_eq_some_iff.mp hn).1
      rw [List.getElem?_set_self hlt] at h2
      cases h2
      exact ⟨hf, us, hl, hx⟩
    · rw [List.getElem?_set_ne e] at h2
      obtain ⟨h3, us', h4, h5⟩ := r.live m b k' xs' h1 h2
      have ne : b ≠ a := fun z => e (by
        subst z
        exact ((List.getElem?_inj (List.getElem?_eq_some_iff.mp hn).1 r.nd).mp (by rw [hn, h1])))
      exact ⟨h3, us', h4.upd ne, h5⟩
/-- a thing that may change, from now on not any more -/
theorem Rep.freeze (r : Rep T K R F S H) {n : Nat} {a : Addr} {o : HO} (hn : R.as[n]? = some a) (ho : H a = some o) (hf : F a = none) : Rep T K R (L2.upd F a o) (S.set n none) H where
  ex := fun b u e => by
    by_cases h : b = a
    · subst h; rw [upd_same] at e; cases e; exact ho
    · rw [upd_ne h] at e; exact r.ex b u e
  len := by rw [List.length_set]; exact r.len
  nd := r.nd
  there := r.there
  hidnd := r.hidnd
  hid := fun q hq => by
    obtain ⟨h1, h2, h3⟩ := r.hid q hq
    have ne : q.1 ≠ a := fun z => h2 (by rw [z]; exact List.mem_of_getElem? hn)
    exact ⟨h1, h2, by rw [upd_ne ne]; exact h3⟩
  live := fun m b k' xs' h1 h2 => by
    have e : n ≠ m := fun z => by
      subst z
      have hlt : n < S.length := by
        rw [← r.len]; exact (List.getElem?_eq_some_iff.mp hn).1
      rw [List.getElem?_set_self hlt] at h2
      cases h2
    rw [List.getElem?_set_ne e] at h2
    obtain ⟨h3, us', h4, h5⟩ := r.live m b k' xs' h1 h2
    have ne : b ≠ a := fun z => e (by
      subst z
      exact ((List.getElem?_inj (List.getElem?_eq_some_iff.mp hn).1 r.nd).mp (by rw [hn, h1])))
    exact ⟨by rw [upd_ne ne]; exact h3, us', h4, h5.mono (Pl.refl R) (ex_upd hf)⟩
end
/-- the compound behind a value -/
def view (x : PV) (S : Sto) : Option (Kd × List PV) := match x with
  | .nd k xs => some (k, xs)
  | .ref n => (S[n]?).join
  | _ => none
theorem view_nd (k : Kd) (xs : List PV) (S : Sto) : view (.nd k xs) S = some (k, xs) := rfl
theorem view_ref {n : Nat} {S : Sto} {k : Kd} {xs : List PV} (h : S[n]? = some (some (k, xs))) : view (.ref n) S = some (k, xs) := by
  show (S[n]?).join = _; rw [h]; rfl
section
variable {T : Tb} {K : PySem.W.Frag} {R : Pl} {F H : Hp} {S : Sto}
theorem view_rel (r : Rep T K R F S H) {x : PV} {u : V} (h : Rel T K R F x u) {k : Kd} {xs : List PV} (e : view x S = some (k, xs)) : ∃ a us, u = .ref a ∧ Shp T K H a k us ∧ RelL T K R F xs us := by
  cases x with
  | nd k' xs' =>
    cases e
    rw [Rel] at h
    obtain ⟨a, us, h1, h2, h3⟩ := h
    exact ⟨a, us, h1, h2.mono r.ex, h3⟩
  | ref n =>
    rw [Rel] at h
    obtain ⟨a, h1, h2⟩ := h
    have e' : (S[n]?).join = some (k, xs) := e
    have e2 : S[n]? = some (some (k, xs)) := by
      cases q : S[n]? with
      | none => rw [q] at e'; cases e'
      | some o => rw [q] at e'; cases o with
        | none => cases e'
        | some y => cases e'; rfl
    obtain ⟨_, us, h4, h5⟩ := r.live n a k xs h2 e2
    exact ⟨a, us, h1, h4.shp, h5⟩
  | _ => cases e
end

/-! ### sequencing -/
structure Go (T : Tb) (K : PySem.W.Frag) (E : XK) (β : Type) where
  ok : Pl → Hp → Out β → Prop
  mono : ∀ {R R' : Pl} {F F' : Hp} {o : Out β}, Pl.le R R' → Ex F F' → ok R F o → ok R' F' o
  err : ∀ {R : Pl} {F : Hp} {e : XV} {S : Sto}, ok R F (.err e S) → PostX T K R F e S E
  bad : ∀ {R : Pl} {F : Hp}, ¬ ok R F .bad
def goV (T : Tb) (K : PySem.W.Frag) (E : XK) (Q : VK) : Go T K E PV := ⟨fun R F o => OkV T K R F o Q E, fun p x h => OkV.mono p x h, fun h => h, fun h => h⟩
def goB (T : Tb) (K : PySem.W.Frag) (E : XK) (Q : Bool → Hp → Prop) : Go T K E Bool := ⟨fun R F o => OkB T K R F o Q E, fun p x h => OkB.mono p x h, fun h => h, fun h => h⟩
def goL (T : Tb) (K : PySem.W.Frag) (E : XK) (Q : List V → Hp → Prop) : Go T K E (List PV) := ⟨fun R F o => OkL T K R F o Q E, fun p x h => OkL.mono p x h, fun h => h, fun h => h⟩
section
variable {T : Tb} {K : PySem.W.Frag} {E : XK} {R : Pl} {F H : Hp} {S : Sto} {l : Loc} {σ : L2.St} {β : Type}
theorem seqV (G : Go T K E β) {d : DE} {k : PV → Sto → Out β} {C : VK} (r : Rep T K R F S H) (e : RelE T K R F l σ) (h : G.ok R F ((d l S).bind k))
    (hk : ∀ (x : PV) (S1 : Sto) (R1 : Pl) (F1 H1 : Hp) (u : V), Pl.le R R1 → Ex F F1 → Rep T K R1 F1 S1 H1 → Rel T K R1 F1 x u → RelE T K R1 F1 l σ → G.ok R1 F1 (k x S1) → C u H1) : tV T K E d σ H C := by
  refine ⟨R, F, l, S, r, e, ?_⟩
  cases hd : d l S with
  | ok x S1 =>
    rw [hd] at h
    exact fun R1 F1 H1 u p x' r1 rx => hk x S1 R1 F1 H1 u p x' r1 rx (e.mono p x') (G.mono p x' h)
  | err e' S1 => rw [hd] at h; exact G.err h
  | bad => rw [hd] at h; exact G.bad h
theorem seqT (G : Go T K E β) {d : DB} {k : Bool → Sto → Out β} {C : Bool → Hp → Prop} (r : Rep T K R F S H) (e : RelE T K R F l σ) (h : G.ok R F ((d l S).bind k))
    (hk : ∀ (x : Bool) (S1 : Sto) (R1 : Pl) (F1 H1 : Hp), Pl.le R R1 → Ex F F1 → Rep T K R1 F1 S1 H1 → RelE T K R1 F1 l σ → G.ok R1 F1 (k x S1) → C x H1) : tT T K E d σ H C := by
  refine ⟨R, F, l, S, r, e, ?_⟩
  cases hd : d l S with
  | ok x S1 =>
    rw [hd] at h
    exact fun R1 F1 H1 p x' r1 => hk x S1 R1 F1 H1 p x' r1 (e.mono p x') (G.mono p x' h)
  | err e' S1 => rw [hd] at h; exact G.err h
  | bad => rw [hd] at h; exact G.bad h
theorem seqL (G : Go T K E β) {d : DA} {k : List PV → Sto → Out β} {C : List V → Hp → Prop} (r : Rep T K R F S H) (e : RelE T K R F l σ) (h : G.ok R F ((d l S).bind k))
    (hk : ∀ (x : List PV) (S1 : Sto) (R1 : Pl) (F1 H1 : Hp) (u : List V), Pl.le R R1 → Ex F F1 → Rep T K R1 F1 S1 H1 → RelL T K R1 F1 x u → RelE T K R1 F1 l σ → G.ok R1 F1 (k x S1) → C u H1) : tL T K E d σ H C := by
  refine ⟨R, F, l, S, r, e, ?_⟩
  cases hd : d l S with
  | ok x S1 =>
    rw [hd] at h
    exact fun R1 F1 H1 u p x' r1 rx => hk x S1 R1 F1 H1 u p x' r1 rx (e.mono p x') (G.mono p x' h)
  | err e' S1 => rw [hd] at h; exact G.err h
  | bad => rw [hd] at h; exact G.bad h
/-- an expression's value handed on as it is -/
theorem PostV.here {v : PV} {u : V} {Q : VK} (r : Rep T K R F S H) (rv : Rel T K R F v u) (h : PostV T K R F v S Q) : Q u H := h R F H u (Pl.refl R) (Ex.refl F) r rv
theorem PostL.here {v : List PV} {u : List V} {Q : List V → Hp → Prop} (r : Rep T K R F S H) (rv : RelL T K R F v u) (h : PostL T K R F v S Q) : Q u H := h R F H u (Pl.refl R) (Ex.refl F) r rv
theorem PostB.here {v : Bool} {Q : Bool → Hp → Prop} (r : Rep T K R F S H) (h : PostB T K R F v S Q) : Q v H := h R F H (Pl.refl R) (Ex.refl F) r
theorem PostE.here {Q : L2.St → Hp → Prop} (r : Rep T K R F S H) (e : RelE T K R F l σ) (h : PostE T K R F l S Q) : Q σ H := h R F H σ (Pl.refl R) (Ex.refl F) r e
/-- a new compound that never changes any more, as the value -/
theorem PostV.new {k : Kd} {xs : List PV} {us : List V} {p : Addr} {o : HO} {Q : VK} (r : Rep T K R F S H) (hp : H p = none) (hs : Shp T K (L2.upd F p o) p k us) (hx : RelL T K R F xs us) (h : PostV T K R F (.nd k xs) S Q) : Q (.ref p) (L2.upd H p o) := by
  have e : Ex F (L2.upd F p o) := ex_upd (r.fnone hp)
  refine h R _ _ _ (Pl.refl R) e (r.frozen hp) ?_
  rw [Rel]
  exact ⟨p, us, rfl, hs, hx.mono (Pl.refl R) e⟩
/-- a new compound that may change, as the value -/
theorem PostV.newM {k : Kd} {xs : List PV} {us : List V} {p : Addr} {o : HO} {Q : VK} (r : Rep T K R F S H) (hp : H p = none) (hs : Liv T K (L2.upd H p o) p k us) (hx : RelL T K R F xs us) (h : PostV T K R F (.ref S.length) (S ++ [some (k, xs)]) Q) : Q (.ref p) (L2.upd H p o) := by
  refine h (R.add p) F _ _ (Pl.app R _) (Ex.refl F) (r.laid hp hs hx) ?_
  rw [Rel]
  exact ⟨p, rfl, by show (R.as ++ [p])[S.length]? = _; rw [← r.len, List.getElem?_append_right (Nat.le_refl _)]; simp⟩
end

/-! ### judgements -/
abbrev JE (T : Tb) (X : Cx) (E : XK) (e : Expr) (d : DE) : Prop := PE X e (tV T X.K E d)
abbrev JT (T : Tb) (X : Cx) (E : XK) (e : Expr) (d : DB) : Prop := PT X e (tT T X.K E d)
abbrev JW (T : Tb) (X : Cx) (E : XK) (e : Expr) (d : DB) : Prop := PW X e (tT T X.K E d)
abbrev JA (T : Tb) (X : Cx) (E : XK) (es : List Expr) (d : DA) : Prop := PA X es (tL T X.K E d)
abbrev JS (T : Tb) (X : Cx) (E : XK) (st : Stmt) (d : DS) : Prop := PS X st (tS T X.K E d)
abbrev JB (T : Tb) (X : Cx) (E : XK) (st : List Stmt) (d : DS) : Prop := PSs X st (tS T X.K E d)
theorem pe_imp {X : Cx} {e : Expr} {t t' : TE} (h : PE X e t) (i : ∀ σ H Q, t' σ H Q → t σ H Q) : PE X e t' := ⟨fun pins s σ H Q I q => h.run pins s σ H Q I (i σ H Q q)⟩
theorem pt_imp {X : Cx} {e : Expr} {t t' : TT} (h : PT X e t) (i : ∀ σ H Q, t' σ H Q → t σ H Q) : PT X e t' := ⟨fun pins s σ H Q I q => h.run pins s σ H Q I (i σ H Q q)⟩
theorem pw_imp {X : Cx} {e : Expr} {t t' : TT} (h : PW X e t) (i : ∀ σ H Q, t' σ H Q → t σ H Q) : PW X e t' := ⟨fun wh pins s σ H Q I q => h.run wh pins s σ H Q I (i σ H Q q)⟩
theorem pa_imp {X : Cx} {e : List Expr} {t t' : TA} (h : PA X e t) (i : ∀ σ H Q, t' σ H Q → t σ H Q) : PA X e t' := ⟨fun pos pins s σ H Q I q => h.run pos pins s σ H Q I (i σ H Q q)⟩
theorem ps_imp {X : Cx} {e : Stmt} {t t' : TS} (h : PS X e t) (i : ∀ D σ H, t' D σ H → t D σ H) : PS X e t' := ⟨fun pins s σ H D I q => h.run pins s σ H D I (i D σ H q)⟩
theorem pss_imp {X : Cx} {e : List Stmt} {t t' : TS} (h : PSs X e t) (i : ∀ D σ H, t' D σ H → t D σ H) : PSs X e t' := ⟨fun pins s σ H D I q => h.run pins s σ H D I (i D σ H q)⟩

/-! ### names, constants -/
def dVar (i : Nat) : DE := fun l S => match l[i]? with
  | some (some v) => .ok v S
  | _ => .bad
def dC (v : PV) : DE := fun _ S => .ok v S
/-- a value that has no address, as the layer's -/
def PV.at0 : PV → Option V
  | .non => some .non
  | .bl b => some (.bl b)
  | .int i => some (.int i)
  | .str x => some (.str x)
  | .ty n => some (.ty n)
  | _ => none
theorem rel_at0 {T : Tb} {K : PySem.W.Frag} {R : Pl} {F : Hp} {v : PV} {u : V} (h : v.at0 = some u) : Rel T K R F v u := by
  cases v <;> simp [PV.at0] at h <;> subst h <;> simp [Rel]
section
variable {T : Tb} {X : Cx} {E : XK}
theorem je_var (i : Nat) {x : Str} {pos : Pos} (hN : X.N[i]? = some x := by rfl) (hv : Vis X.env.scope x := by first | exact Or.inl rfl | exact Or.inr (Or.inl rfl) | exact Or.inr (Or.inr rfl)) (hd : (x == ("__debug__" : Str)) = false := by decide)
    (hcd : (x == ("__classdict__" : Str)) = false := by decide) : JE T X E (.Name x pos) (dVar i) := by
  refine pe_imp (pe_var (i := i) hN hv hd hcd) fun σ H Q ⟨R, F, l, S, r, e, h⟩ => ?_
  unfold dVar at h
  split at h
  · rename_i v hv'
    obtain ⟨u, h1, h2⟩ := e.at_ i v hv'
    exact ⟨u, h1, PostV.here r h2 h⟩
  · exact h.elim
theorem je_c {e : Expr} {v : PV} {u : V} (hu : v.at0 = some u) (h : PE X e (tC u)) : JE T X E e (dC v) :=
  pe_imp h fun σ H Q ⟨R, F, l, S, r, e, h⟩ => PostV.here r (rel_at0 hu) h
theorem je_int {i : Int} {j pos} : JE T X E (.Constant (.int i) j pos) (dC (.int i)) := je_c rfl pe_int
theorem je_bl {i : Bool} {j pos} : JE T X E (.Constant (.bool i) j pos) (dC (.bl i)) := je_c rfl pe_bl
theorem je_non {j pos} : JE T X E (.Constant .none j pos) (dC .non) := je_c rfl pe_non
theorem je_str {x : Str} {j pos} : JE T X E (.Constant (.str x) j pos) (dC (.str x)) := je_c rfl pe_str
theorem je_gint {x : Str} {i : Int} {pos : Pos} (hm : ∃ t, X.mg x = some (.int i t)) (hg : Gl X x := by rfl) (hd : (x == ("__debug__" : Str)) = false := by decide) : JE T X E (.Name x pos) (dC (.int i)) :=
  let ⟨t, h⟩ := hm; je_c rfl (pe_glob hg h (v := .int i) ⟨t, rfl⟩ hd)
theorem je_gstr {x z : Str} {pos : Pos} (hm : ∃ t, X.mg x = some (.str z t)) (hg : Gl X x := by rfl) (hd : (x == ("__debug__" : Str)) = false := by decide) : JE T X E (.Name x pos) (dC (.str z)) :=
  let ⟨t, h⟩ := hm; je_c rfl (pe_glob hg h (v := .str z) ⟨t, rfl⟩ hd)
/-- a built-in type, a class of the text, as a value -/
theorem je_ty {x : Str} {n : String} {pos : Pos} (hm : X.mg x = none) (hv : bootBuiltins x = some (.type n)) (hg : Gl X x := by rfl) (hn : x ≠ "__name__" := by decide) (hd : (x == ("__debug__" : Str)) = false := by decide) : JE T X E (.Name x pos) (dC (.ty n)) :=
  je_c rfl (pe_bltn hg hm hv (v := .ty n) rfl hn hd)
theorem je_cls {x : Str} {c : Nat} {pos : Pos} (hm : X.mg x = some (.ref (T.ca X.K c))) (hg : Gl X x := by rfl) (hd : (x == ("__debug__" : Str)) = false := by decide) : JE T X E (.Name x pos) (dC (.cls c)) :=
  pe_imp (pe_glob hg hm (v := .ref (T.ca X.K c)) rfl hd) fun σ H Q ⟨R, F, l, S, r, e, h⟩ => PostV.here (v := .cls c) r (by rw [Rel]) h

/-! ### argument lists, displays -/
def dNil : DA := fun _ S => .ok [] S
def dCons (a : DE) (r : DA) : DA := fun l S => (a l S).bind fun x S1 => (r l S1).bind fun xs S2 => .ok (x :: xs) S2
variable {e : Expr} {es : List Expr} {a : DE} {ar : DA}
theorem ja_nil : JA T X E [] dNil := pa_imp pa_nil fun σ H Q ⟨R, F, l, S, r, e, h⟩ => PostL.here r .nil h
theorem ja_cons (ha : JE T X E e a) (hr : JA T X E es ar) (hs : starEach (e :: es) X.env = (false, eval e X.env) :: starEach es X.env := by rfl) : JA T X E (e :: es) (dCons a ar) := by
  refine pa_imp (pa_cons ha hr hs) fun σ H Q ⟨R, F, l, S, r, e, h⟩ => ?_
  refine seqV (goL T X.K E Q) r e h fun x S1 R1 F1 H1 u p ex r1 rx e1 h1 => ?_
  refine seqL (goL T X.K E Q) r1 e1 h1 fun xs S2 R2 F2 H2 us p2 ex2 r2 rxs e2 h2 => ?_
  exact PostL.here r2 (.cons (rx.mono p2 ex2) rxs) h2
def mkNd (k : Kd) (xs : List PV) (S : Sto) : Out PV := if xs.length ≤ 16777216 then .ok (.nd k xs) S else .bad
def mkRf (k : Kd) (xs : List PV) (S : Sto) : Out PV := if xs.length ≤ 16777216 then .ok (.ref S.length) (S ++ [some (k, xs)]) else .bad
def dTup (t : DA) : DE := fun l S => (t l S).bind fun xs S1 => mkNd .tup xs S1
def dLst (t : DA) : DE := fun l S => (t l S).bind fun xs S1 => mkNd .lst xs S1
def dLstM (t : DA) : DE := fun l S => (t l S).bind fun xs S1 => mkRf .lst xs S1
theorem sz16 {n : Nat} (h : n ≤ 16777216) : n ≤ sizeLine := by rw [sizeLine_eq]; exact h
theorem je_tup {k pos} (h : JA T X E es ar) : JE T X E (.Tuple es k pos) (dTup ar) := by
  refine pe_imp (pe_tup h) fun σ H Q ⟨R, F, l, S, r, e, h⟩ => ?_
  refine seqL (goV T X.K E Q) r e h fun xs S1 R1 F1 H1 us p ex r1 rx e1 h1 => ?_
  have h1 : OkV T X.K R1 F1 (mkNd .tup xs S1) Q E := h1
  unfold mkNd at h1
  split at h1
  · rename_i hz
    exact ⟨sz16 (by rw [rx.length]; exact hz), fun q hq => PostV.new (k := .tup) r1 hq upd_same rx h1⟩
  · exact h1.elim
theorem je_lst {pos} (h : JA T X E es ar) : JE T X E (.List es pos) (dLst ar) := by
  refine pe_imp (pe_lst h) fun σ H Q ⟨R, F, l, S, r, e, h⟩ => ?_
  refine seqL (goV T X.K E Q) r e h fun xs S1 R1 F1 H1 us p ex r1 rx e1 h1 => ?_
  have h1 : OkV T X.K R1 F1 (mkNd .lst xs S1) Q E := h1
  unfold mkNd at h1
  split at h1
  · rename_i hz
    exact ⟨sz16 (by rw [rx.length]; exact hz), fun q hq => PostV.new (k := .lst) r1 hq upd_same rx h1⟩
  · exact h1.elim
theorem je_lstM {pos} (h : JA T X E es ar) : JE T X E (.List es pos) (dLstM ar) := by
  refine pe_imp (pe_lst h) fun σ H Q ⟨R, F, l, S, r, e, h⟩ => ?_
  refine seqL (goV T X.K E Q) r e h fun xs S1 R1 F1 H1 us p ex r1 rx e1 h1 => ?_
  have h1 : OkV T X.K R1 F1 (mkRf .lst xs S1) Q E := h1
  unfold mkRf at h1
  split at h1
  · rename_i hz
    exact ⟨sz16 (by rw [rx.length]; exact hz), fun q hq => PostV.newM (k := .lst) r1 hq upd_same rx h1⟩
  · exact h1.elim
end
end Z
end
section
set_option Elab.async false
set_option linter.all false
set_option maxRecDepth 100000
set_option maxHeartbeats 1000000
/-! Z3: operators and comparisons by values. -/
namespace Z
open PySem PySem.Spec PyProof.Rows L2
open Evl (Ex)

/-- an operation on values and the layer's reading of it -/
def OpZ (T : Tb) (K : PySem.W.Frag) (f : PV → PV → Sto → Out PV) (r : R2) : Prop := ∀ (E : XK) (R : Pl) (F H : Hp) (S : Sto) (x y : PV) (u w : V) (Q : VK), Rep T K R F S H → Rel T K R F x u → Rel T K R F y w → OkV T K R F (f x y S) Q E → r u w H Q
def dBin (f : PV → PV → Sto → Out PV) (a b : DE) : DE := fun l S => (a l S).bind fun x S1 => (b l S1).bind fun y S2 => f x y S2
section
variable {T : Tb} {X : Cx} {E : XK} {a b : Expr} {da db : DE} {pos : Pos}
theorem bin_tOp {f : PV → PV → Sto → Out PV} {r : R2} (hz : OpZ T X.K f r) {σ : L2.St} {H : Hp} {Q : VK} (h : tV T X.K E (dBin f da db) σ H Q) : tOp r (tV T X.K E da) (tV T X.K E db) σ H Q := by
  obtain ⟨R, F, l, S, re, e, h⟩ := h
  refine seqV (goV T X.K E Q) re e h fun x S1 R1 F1 H1 u p ex r1 rx e1 h1 => ?_
  refine seqV (goV T X.K E Q) r1 e1 h1 fun y S2 R2 F2 H2 w p2 ex2 r2 ry e2 h2 => ?_
  exact hz E R2 F2 H2 S2 x y u w Q r2 (rx.mono p2 ex2) ry h2
theorem je_bin {op : Operator} {f : PV → PV → Sto → Out PV} {r : R2} (ho : OpR X (binaryOp op) r) (hz : OpZ T X.K f r) (ha : JE T X E a da) (hb : JE T X E b db) : JE T X E (.BinOp a op b pos) (dBin f da db) :=
  pe_imp (pe_op ho ha hb) fun _ _ _ h => bin_tOp hz h
theorem je_cmp {op : CmpOp} {f : PV → PV → Sto → Out PV} {r : R2} (ho : OpR X (compareOp op) r) (hz : OpZ T X.K f r) (ha : JE T X E a da) (hb : JE T X E b db) (hm : behindInMarks op b = false := by rfl) : JE T X E (.Compare a [op] [b] pos) (dBin f da db) :=
  pe_imp (pe_cmpR ho ha hb hm) fun _ _ _ h => bin_tOp hz h
/-- a value that is a bool, as a test -/
def asB (o : Out PV) : Out Bool := o.bind fun x S => match x with
  | .bl b => .ok b S
  | _ => .bad
def dB (d : DE) : DB := fun l S => asB (d l S)
theorem tB_of {t : TE} (hi : ∀ (σ : L2.St) (H : Hp) (Q : VK), tV T X.K E da σ H Q → t σ H Q) {σ : L2.St} {H : Hp} {Q : Bool → Hp → Prop} (h : tT T X.K E (dB da) σ H Q) : t σ H fun x H' => ∃ k, x = .bl k ∧ Q k H' := by
  obtain ⟨R, F, l, S, re, e, h⟩ := h
  refine hi σ H _ (seqV (goB T X.K E Q) re e h fun x S1 R1 F1 H1 u p ex r1 rx e1 h1 => ?_)
  cases x with
  | bl k =>
    rw [Rel] at rx
    exact ⟨k, rx, PostB.here r1 h1⟩
  | _ => exact h1.elim
theorem jt_cmp {op : CmpOp} {f : PV → PV → Sto → Out PV} {r : R2} (ho : OpR X (compareOp op) r) (hz : OpZ T X.K f r) (ha : JE T X E a da) (hb : JE T X E b db) (hm : behindInMarks op b = false := by rfl) : JT T X E (.Compare a [op] [b] pos) (dB (dBin f da db)) :=
  pt_imp (pt_cmpR ho ha hb hm) fun _ _ _ h => tB_of (fun _ _ _ q => bin_tOp hz q) h
/-- a < b < c -/
def dChain (f g : PV → PV → Sto → Out PV) (a b c : DE) : DE := fun l S => (a l S).bind fun x S1 => (b l S1).bind fun y S2 => (asB (f x y S2)).bind fun k S3 => if k = true then (c l S3).bind fun z S4 => g y z S4 else .ok (.bl false) S3
theorem chain_t {f g : PV → PV → Sto → Out PV} {r r' : R2} {dc : DE} (hf : OpZ T X.K f r) (hg : OpZ T X.K g r') {σ : L2.St} {H : Hp} {Q : VK} (h : tV T X.K E (dChain f g da db dc) σ H Q) : tChain r r' (tV T X.K E da) (tV T X.K E db) (tV T X.K E dc) σ H Q := by
  obtain ⟨R, F, l, S, re, e, h⟩ := h
  refine seqV (goV T X.K E Q) re e h fun x S1 R1 F1 H1 u p ex r1 rx e1 h1 => ?_
  refine seqV (goV T X.K E Q) r1 e1 h1 fun y S2 R2 F2 H2 w p2 ex2 r2 ry e2 h2 => ?_
  refine hf E R2 F2 H2 S2 x y u w _ r2 (rx.mono p2 ex2) ry ?_
  have h2 : OkV T X.K R2 F2 ((asB (f x y S2)).bind fun k S3 => if k = true then (dc l S3).bind fun z S4 => g y z S4 else .ok (.bl false) S3) Q E := h2
  cases hfx : f x y S2 with
  | bad => rw [hfx] at h2; exact h2.elim
  | err x' S3 => rw [hfx] at h2; exact h2
  | ok v S3 =>
    rw [hfx] at h2
    intro R3 F3 H3 z p3 ex3 r3 rz
    cases v with
    | bl k =>
      rw [Rel] at rz
      refine ⟨k, rz, ?_⟩
      cases k with
      | false => exact PostV.here r3 (by rw [Rel]) (OkV.mono p3 ex3 h2)
      | true =>
        have h3 : OkV T X.K R3 F3 ((dc l S3).bind fun z S4 => g y z S4) Q E := OkV.mono p3 ex3 h2
        refine seqV (goV T X.K E Q) r3 (e2.mono p3 ex3) h3 fun z' S4 R4 F4 H4 w4 p4 ex4 r4 rz4 e4 h4 => ?_
        exact hg E R4 F4 H4 S4 y z' w w4 Q r4 ((ry.mono p3 ex3).mono p4 ex4) rz4 h4
    | _ => exact h2.elim
theorem je_chain {c : Expr} {op op' : CmpOp} {f g : PV → PV → Sto → Out PV} {r r' : R2} {dc : DE} (ho : OpR X (compareOp op) r) (hf : OpZ T X.K f r) (ho' : OpR X (compareOp op') r') (hg : OpZ T X.K g r') (ha : JE T X E a da) (hb : JE T X E b db) (hc : JE T X E c dc)
    (hm : lastMarks [op, op'] [b, c] = false := by with_unfolding_all rfl) : JE T X E (.Compare a [op, op'] [b, c] pos) (dChain f g da db dc) :=
  pe_imp (pe_chain ho ho' ha hb hc hm) fun _ _ _ h => chain_t hf hg h
theorem jt_chain {c : Expr} {op op' : CmpOp} {f g : PV → PV → Sto → Out PV} {r r' : R2} {dc : DE} (ho : OpR X (compareOp op) r) (hf : OpZ T X.K f r) (ho' : OpR X (compareOp op') r') (hg : OpZ T X.K g r') (ha : JE T X E a da) (hb : JE T X E b db) (hc : JE T X E c dc)
    (hm : lastMarks [op, op'] [b, c] = false := by with_unfolding_all rfl) : JT T X E (.Compare a [op, op'] [b, c] pos) (dB (dChain f g da db dc)) :=
  pt_imp (pt_chain ho ho' ha hb hc hm) fun _ _ _ h => tB_of (fun _ _ _ q => chain_t hf hg q) h
end

/-! ### arithmetic -/
set_option exponentiation.threshold 500000 in
@[irreducible] def BIG : Nat := 2 ^ 400000
set_option exponentiation.threshold 10000 in
@[irreducible] def DIVB : Nat := 2 ^ 9000
theorem BIG_eq : BIG = 2 ^ 400000 := by unfold BIG; rfl
theorem DIVB_eq : DIVB = 2 ^ 9000 := by unfold DIVB; rfl
theorem lt_BIG {n k : Nat} (h : n < 2 ^ k) (hk : k ≤ 400000) : n < BIG := by
  rw [BIG_eq]; exact Nat.lt_of_lt_of_le h (Nat.pow_le_pow_right (by omega) hk)
theorem lt_DIVB {n k : Nat} (h : n < 2 ^ k) (hk : k ≤ 9000) : n < DIVB := by
  rw [DIVB_eq]; exact Nat.lt_of_lt_of_le h (Nat.pow_le_pow_right (by omega) hk)
def mulOk (i j : Int) : Prop := i.natAbs < 2 ^ 64 ∨ j.natAbs < 2 ^ 64 ∨ (i.natAbs < BIG ∧ j.natAbs < BIG)
instance (i j : Int) : Decidable (mulOk i j) := by unfold mulOk; infer_instance
theorem mulOk.ok {i j : Int} (h : mulOk i j) : IntMulOk i j := by
  rcases h with h | h | ⟨h1, h2⟩
  · exact CMul.ok (.inl ⟨by omega, by omega⟩)
  · exact CMul.ok (.inr ⟨by omega, by omega⟩)
  · rw [BIG_eq] at h1 h2
    exact CMulW.ok (wide_mul h1 h2 (by decide) (by decide) (by decide))
def addP (x y : PV) (S : Sto) : Out PV := match x with
  | .int i => (match y with
    | .int j => .ok (.int (i + j)) S
    | .bl k => .ok (.int (i + b2i k)) S
    | _ => .bad)
  | .str a => (match y with
    | .str b => if a.length + b.length ≤ 16777216 then .ok (.str (a ++ b)) S else .bad
    | _ => .bad)
  | x => match view x S, view y S with
    | some (.lst, xs), some (.lst, ys) => mkNd .lst (xs ++ ys) S
    | some (.tup, xs), some (.tup, ys) => mkNd .tup (xs ++ ys) S
    | _, _ => .bad
def subP (x y : PV) (S : Sto) : Out PV := match x, y with
  | .int i, .int j => .ok (.int (i - j)) S
  | _, _ => .bad
def mulP (x y : PV) (S : Sto) : Out PV := match x with
  | .int i => (match y with
    | .int j => if mulOk i j then .ok (.int (i * j)) S else .bad
    | _ => .bad)
  | .str a => (match y with
    | .int j => if 0 ≤ j ∧ j < 2 ^ 62 ∧ a.length * j.toNat ≤ 16777216 then .ok (.str ⟨(List.replicate j.toNat a.cps.toList).flatten.toArray⟩) S else .bad
    | _ => .bad)
  | x => match view x S with
    | some (.lst, xs) => (match y with
      | .int j => if 0 ≤ j ∧ j < 2 ^ 62 ∧ xs.length * j.toNat ≤ 16777216 then .ok (.nd .lst (List.replicate j.toNat xs).flatten) S else .bad
      | _ => .bad)
    | _ => .bad
def divP (x y : PV) (S : Sto) : Out PV := match x, y with
  | .int i, .int j => if 0 < j ∧ j.natAbs < DIVB then .ok (.int (i / j)) S else if j ≠ 0 ∧ j.natAbs < DIVB then .ok (.int (i.fdiv j)) S else .bad
  | _, _ => .bad
def modP (x y : PV) (S : Sto) : Out PV := match x, y with
  | .int i, .int j => if 0 < j then .ok (.int (i % j)) S else if j ≠ 0 then .ok (.int (i.fmod j)) S else .bad
  | _, _ => .bad
def powP (x y : PV) (S : Sto) : Out PV := match x, y with
  | .int i, .int j => if 0 ≤ j ∧ j ≤ 1000000 ∧ i.natAbs < 2 ^ 64 then .ok (.int (i ^ j.toNat)) S else .bad
  | _, _ => .bad
section
variable {T : Tb} {X : Cx} {K : PySem.W.Frag}
theorem rel_int {R : Pl} {F : Hp} {i : Int} {u : V} (h : Rel T K R F (.int i) u) : u = .int i := by rw [Rel] at h; exact h
theorem rel_str {R : Pl} {F : Hp} {i : Str} {u : V} (h : Rel T K R F (.str i) u) : u = .str i := by rw [Rel] at h; exact h
theorem rel_bl {R : Pl} {F : Hp} {i : Bool} {u : V} (h : Rel T K R F (.bl i) u) : u = .bl i := by rw [Rel] at h; exact h
theorem rel_non {R : Pl} {F : Hp} {u : V} (h : Rel T K R F .non u) : u = .non := by rw [Rel] at h; exact h
theorem rel_ty {R : Pl} {F : Hp} {n : String} {u : V} (h : Rel T K R F (.ty n) u) : u = .ty n := by rw [Rel] at h; exact h
theorem rel_cls {R : Pl} {F : Hp} {n : Nat} {u : V} (h : Rel T K R F (.cls n) u) : u = .ref (T.ca K n) := by rw [Rel] at h; exact h
/-- a tuple never stands in the store -/
theorem tup_nd {R : Pl} {F H : Hp} {S : Sto} (r : Rep T K R F S H) {x : PV} {u : V} (rx : Rel T K R F x u) {xs : List PV} (h : view x S = some (.tup, xs)) : x = .nd .tup xs := by
  cases x with
  | nd k zs => cases h; rfl
  | ref n =>
    exfalso
    rw [Rel] at rx
    obtain ⟨b', _, hb'⟩ := rx
    have e' : (S[n]?).join = some (.tup, xs) := h
    cases q : S[n]? with
    | none => rw [q] at e'; cases e'
    | some o =>
      rw [q] at e'
      cases o with
      | none => cases e'
      | some y => cases e'; obtain ⟨_, us', h4, _⟩ := r.live n b' _ _ hb' q; exact h4
  | _ => cases h
def rMulZ : R2 := rI IntMulOk fun i j => .int (i * j)
theorem op_mulZ : OpR X (binaryOp .Mult) rMulZ := opI fun _ _ _ _ _ _ _ hc q => mul_int q hc
def rDivZ : R2 := rI (fun _ j => j ≠ 0 ∧ j.natAbs < DIVB) fun i j => .int (i.fdiv j)
theorem op_divZ : OpR X (binaryOp .FloorDiv) rDivZ := opI fun i j _ _ _ _ _ hc q => floordiv_int hc.1 q (.inl (PyProof.noPylong_of_log2 (by
  have h := hc.2
  rw [DIVB_eq] at h
  exact PySem.Flt.log2_lt_of (by decide) h)))
abbrev rAddZ (K : PySem.W.Frag) : R2 := fun x y H Q => rI0 (fun i j => .int (i + j)) x y H Q ∨ (∃ i k, x = .int i ∧ y = .bl k ∧ Q (.int (i + b2i k)) H) ∨ (∃ i j, x = .str i ∧ y = .str j ∧ i.length + j.length ≤ sizeLine ∧ Q (.str (i ++ j)) H) ∨ rCat x y H Q ∨ rCatA K x y H Q
theorem op_addZ : OpR X (binaryOp .Add) (rAddZ X.K) := OpR.or op_add (OpR.or op_add_ib (OpR.or op_add_str (OpR.or op_cat op_catA)))
theorem oz_add : OpZ T K addP (rAddZ K) := by
  intro E R F H S x y u w Q r rx ry h
  cases x with
  | int i =>
    have := rel_int rx; subst this
    cases y with
    | int j =>
      have := rel_int ry; subst this
      exact .inl ⟨i, j, rfl, rfl, PostV.here r (by rw [Rel]) h⟩
    | bl k =>
      have := rel_bl ry; subst this
      exact .inr (.inl ⟨i, k, rfl, rfl, PostV.here r (by rw [Rel]) h⟩)
    | _ => exact h.elim
  | str a =>
    have := rel_str rx; subst this
    cases y with
    | str b =>
      have := rel_str ry; subst this
      have h : OkV T K R F (if a.length + b.length ≤ 16777216 then .ok (.str (a ++ b)) S else .bad) Q E := h
      split at h
      · rename_i hz
        exact .inr (.inr (.inl ⟨a, b, rfl, rfl, sz16 hz, PostV.here r (by rw [Rel]) h⟩))
      · exact h.elim
    | _ => exact h.elim
  | _ =>
    all_goals
      simp only [addP] at h
      split at h
      · rename_i xs ys h1 h2
        obtain ⟨a, us, rfl, sa, ra⟩ := view_rel r rx h1
        obtain ⟨b, ws, rfl, sb, rb⟩ := view_rel r ry h2
        unfold mkNd at h
        split at h
        · rename_i hz
          refine .inr (.inr (.inr (.inl ⟨a, b, us, ws, rfl, rfl, sa, sb, sz16 ?_, fun p hp => PostV.new (k := .lst) r hp upd_same (ra.append rb) h⟩)))
          rw [ra.length, rb.length, ← List.length_append]; exact hz
        · exact h.elim
      · rename_i xs ys h1 h2
        obtain ⟨a, us, ea, sa, ra⟩ := view_rel r rx h1
        obtain ⟨b, ws, eb, sb, rb⟩ := view_rel r ry h2
        unfold mkNd at h
        split at h
        · rename_i hz
          refine .inr (.inr (.inr (.inr ⟨a, b, us, ws, ea, eb, SqT.of sa, SqT.of sb, sz16 ?_, fun z => ?_, fun z z2 => ?_, fun z z2 p hp => PostV.new (k := .tup) r hp upd_same (ra.append rb) h⟩)))
          · rw [ra.length, rb.length, ← List.length_append]; exact hz
          · have hx : xs = [] := by
              have := ra.length; rw [z] at this; exact List.length_eq_zero_iff.mp this.symm
            subst hx
            have hy := tup_nd r ry h2
            subst hy
            rw [← eb]
            exact PostV.here r ry h
          · have hy : ys = [] := by
              have := rb.length; rw [z2] at this; exact List.length_eq_zero_iff.mp this.symm
            subst hy
            rw [← ea]
            have hx := tup_nd r rx h1
            rw [hx] at rx
            exact PostV.here r rx (by rw [List.append_nil] at h; exact h)
        · exact h.elim
      · exact h.elim
theorem oz_sub : OpZ T K subP (rI0 fun i j => .int (i - j)) := by
  intro E R F H S x y u w Q r rx ry h
  unfold subP at h
  split at h
  · have := rel_int rx; subst this
    have := rel_int ry; subst this
    exact ⟨_, _, rfl, rfl, PostV.here r (by rw [Rel]) h⟩
  · exact h.elim
theorem oz_div : OpZ T K divP rDivZ := by
  intro E R F H S x y u w Q r rx ry h
  unfold divP at h
  split at h
  · have := rel_int rx; subst this
    have := rel_int ry; subst this
    rename_i i j
    split at h
    · rename_i hj
      refine ⟨i, j, rfl, rfl, ⟨by omega, hj.2⟩, ?_⟩
      show Q (V.int (i.fdiv j)) H
      rw [Int.fdiv_eq_ediv_of_nonneg i (by omega)]
      exact PostV.here r (by rw [Rel]) h
    · split at h
      · rename_i hj
        exact ⟨_, _, rfl, rfl, hj, PostV.here r (by rw [Rel]) h⟩
      · exact h.elim
  · exact h.elim
theorem oz_mod : OpZ T K modP (rI (fun _ j => j ≠ 0) fun i j => .int (i.fmod j)) := by
  intro E R F H S x y u w Q r rx ry h
  unfold modP at h
  split at h
  · have := rel_int rx; subst this
    have := rel_int ry; subst this
    rename_i i j
    split at h
    · rename_i hj
      refine ⟨i, j, rfl, rfl, by omega, ?_⟩
      show Q (V.int (i.fmod j)) H
      rw [Int.fmod_eq_emod_of_nonneg i (by omega)]
      exact PostV.here r (by rw [Rel]) h
    · split at h
      · rename_i hj
        exact ⟨_, _, rfl, rfl, hj, PostV.here r (by rw [Rel]) h⟩
      · exact h.elim
  · exact h.elim
theorem oz_pow : OpZ T K powP (rI CPow fun i j => .int (i ^ j.toNat)) := by
  intro E R F H S x y u w Q r rx ry h
  unfold powP at h
  split at h
  · have := rel_int rx; subst this
    have := rel_int ry; subst this
    split at h
    · rename_i hj
      exact ⟨_, _, rfl, rfl, hj, PostV.here r (by rw [Rel]) h⟩
    · exact h.elim
  · exact h.elim
end
end Z
end
section
set_option Elab.async false
set_option linter.all false
set_option maxRecDepth 100000
set_option maxHeartbeats 1000000
/-! Z4: products, comparisons, truth. -/
namespace Z
open PySem PySem.Spec PyProof.Rows L2
open Evl (Ex)

/-! ### products -/
def strMul (a : Str) (n : Int) : Str := if n < 1 then Str.empty else if (n == 1 || a.length == 0) = true then a else ⟨(List.replicate n.toNat a.cps).foldl (· ++ ·) #[]⟩
noncomputable def mulZ (x y : PV) (S : Sto) : Out PV := match x with
  | .int i => (match y with
    | .int j => if mulOk i j then .ok (.int (i * j)) S else .bad
    | _ => .bad)
  | .str a => (match y with
    | .int j => @ite _ (j < 2 ^ 40 ∧ -(2 ^ 40) < j ∧ a.length * j.toNat ≤ 16777216) (Classical.propDecidable _) (.ok (.str (strMul a j)) S) .bad
    | _ => .bad)
  | x => match view x S with
    | some (.lst, xs) => (match y with
      | .int j => @ite _ (j < 2 ^ 40 ∧ -(2 ^ 40) < j ∧ xs.length * j.toNat ≤ 16777216) (Classical.propDecidable _) (.ok (.nd .lst (List.replicate j.toNat xs).flatten) S) .bad
      | _ => .bad)
    | _ => .bad
section
variable {T : Tb} {X : Cx} {K : PySem.W.Frag}
def rMulS : R2 := fun x y H Q => ∃ a j, x = .str a ∧ y = .int j ∧ (j < 2 ^ 40 ∧ -(2 ^ 40) < j ∧ a.length * j.toNat ≤ 16777216) ∧ Q (.str (strMul a j)) H
theorem foldl_app_size : ∀ (k : Nat) (a acc : Array Nat), ((List.replicate k a).foldl (· ++ ·) acc).size = acc.size + k * a.size
  | 0, a, acc => by simp
  | k + 1, a, acc => by
    rw [List.replicate_succ, List.foldl_cons, foldl_app_size k a (acc ++ a), Array.size_append, Nat.succ_mul]
    omega
theorem op_mulS : OpR X (binaryOp .Mult) rMulS := by
  intro pins s σ H x y v u Q I rx ry h
  obtain ⟨a, j, rfl, rfl, ⟨h1, h2, h3⟩, q⟩ := h
  obtain ⟨t, rfl⟩ := rx
  obtain ⟨t', rfl⟩ := ry
  have hs : sizeLine = 16777216 := sizeLine_eq
  refine PySem.P.mul_str ?_ (fun hn hz => ?_) (fun hn hz => ?_) ?_
  · rw [decide_eq_false (by omega), decide_eq_false (by omega)]; rfl
  · rw [Bool.or_eq_false_iff] at hz
    have hj : 1 ≤ j := by omega
    have h4 : a.length ≤ 16777216 := Nat.le_trans (Nat.le_mul_of_pos_right _ (by omega)) h3
    have h5 : (a.length : Int) * j ≤ 16777216 := by
      have e : (j.toNat : Int) = j := Int.toNat_of_nonneg (by omega)
      have h7 : ((a.length * j.toNat : Nat) : Int) ≤ ((16777216 : Nat) : Int) := Int.ofNat_le.mpr h3
      rw [Int.natCast_mul, e] at h7
      exact h7
    have h6 : (a.length : Int) ≤ (2 ^ 63 - 1) / j := by
      rw [Int.le_ediv_iff_mul_le (by omega)]
      omega
    omega
  · unfold Builtin.Str.tooLong
    exact decide_eq_false (by omega)
  · unfold strMul at q
    split
    · rename_i hn
      rw [if_pos hn] at q
      exact ⟨by decide, ⟨.str Str.empty, H, I.tok _, ⟨_, rfl⟩, q⟩⟩
    · rename_i hn
      rw [if_neg hn] at q
      split
      · rename_i hz
        rw [if_pos hz] at q
        exact ⟨.str a, H, I, ⟨_, rfl⟩, q⟩
      · rename_i hz
        rw [if_neg hz] at q
        refine ⟨?_, ⟨.str _, H, I.tok _, ⟨_, rfl⟩, q⟩⟩
        show ((List.replicate j.toNat a.cps).foldl (· ++ ·) #[]).size ≤ sizeLine
        rw [foldl_app_size, hs]
        have e : a.cps.size = a.length := rfl
        rw [e, Nat.mul_comm]
        have e0 : (#[] : Array Nat).size = 0 := rfl
        omega
abbrev rMulA : R2 := fun x y H Q => rMulZ x y H Q ∨ rMulS x y H Q ∨ rRep x y H Q
theorem op_mulA : OpR X (binaryOp .Mult) rMulA := OpR.or op_mulZ (OpR.or op_mulS op_rep)
theorem oz_mul : OpZ T K mulZ rMulA := by
  intro E R F H S x y u w Q r rx ry h
  cases x with
  | int i =>
    have := rel_int rx; subst this
    cases y with
    | int j =>
      have := rel_int ry; subst this
      have h : OkV T K R F (if mulOk i j then .ok (.int (i * j)) S else .bad) Q E := h
      split at h
      · rename_i hz
        exact .inl ⟨i, j, rfl, rfl, hz.ok, PostV.here r (by rw [Rel]) h⟩
      · exact h.elim
    | _ => exact h.elim
  | str a =>
    have := rel_str rx; subst this
    cases y with
    | int j =>
      have := rel_int ry; subst this
      have h : OkV T K R F (@ite _ (j < 2 ^ 40 ∧ -(2 ^ 40) < j ∧ a.length * j.toNat ≤ 16777216) (Classical.propDecidable _) (.ok (.str (strMul a j)) S) .bad) Q E := h
      split at h
      · rename_i hz
        exact .inr (.inl ⟨a, j, rfl, rfl, hz, PostV.here r (by rw [Rel]) h⟩)
      · exact h.elim
    | _ => exact h.elim
  | _ =>
    all_goals
      simp only [mulZ] at h
      split at h
      · rename_i xs h1
        obtain ⟨a, us, ea, sa, ra⟩ := view_rel r rx h1
        cases y with
        | int j =>
          have := rel_int ry; subst this
          simp only at h
          split at h
          · rename_i hz
            refine .inr (.inr ⟨a, j, us, ea, rfl, sa, by omega, by omega, ?_, fun p hp => PostV.new (k := .lst) r hp upd_same ?_ h⟩)
            · rw [ra.length]; exact sz16 hz.2.2
            · have rr : ∀ k : Nat, RelL T K R F (List.replicate k xs).flatten (List.replicate k us).flatten := fun k => by
                induction k with
                | zero => exact .nil
                | succ k ih => rw [List.replicate_succ, List.replicate_succ, List.flatten_cons, List.flatten_cons]; exact ra.append ih
              exact rr _
          · exact h.elim
        | _ => exact h.elim
      · exact h.elim
end

/-! ### data -/
mutual
def dat : PV → Option PyData
  | .non => some .none
  | .bl b => some (.bool b)
  | .int i => some (.int i)
  | .str x => some (.str x)
  | .nd .lst xs => (datL xs).map .list
  | .nd .scr xs => (datL xs).map .list
  | .nd .tup xs => (datL xs).map .tuple
  | _ => none
def datL : List PV → Option (List PyData)
  | [] => some []
  | x :: xs => (dat x).bind fun d => (datL xs).map fun ds => d :: ds
end
/-- .. of a value whose outermost compound may stand in the store -/
def datS (x : PV) (S : Sto) : Option PyData := match view x S with
  | some (k, xs) => dat (.nd k xs)
  | none => dat x
section
variable {T : Tb} {X : Cx} {K : PySem.W.Frag} {R : Pl} {F H : Hp}
theorem shp_rd {a : Addr} {k : Kd} {us : List V} (h : Shp T K H a k us) : (k = .lst ∨ k = .scr → SqL K H a us) ∧ (k = .tup → SqT K H a us) := by
  refine ⟨fun e => ?_, fun e => ?_⟩
  · rcases e with e | e <;> subst e
    · exact SqL.of h
    · exact h
  · subst e; exact SqT.of h
mutual
theorem dat_dp (ex : Ex F H) : ∀ (x : PV) (u : V) (d : PyData), Rel T K R F x u → dat x = some d → Dp K H u d
  | .non, u, d, r, h => by rw [dat] at h; cases h; rw [Rel] at r; subst r; exact .non
  | .bl b, u, d, r, h => by rw [dat] at h; cases h; rw [Rel] at r; subst r; exact .bl b
  | .int i, u, d, r, h => by rw [dat] at h; cases h; rw [Rel] at r; subst r; exact .int i
  | .str x, u, d, r, h => by rw [dat] at h; cases h; rw [Rel] at r; subst r; exact .str x
  | .nd .lst xs, u, d, r, h => by
    rw [dat, Option.map_eq_some_iff] at h
    obtain ⟨ds, h1, rfl⟩ := h
    rw [Rel] at r
    obtain ⟨a, us, rfl, hs, hl⟩ := r
    exact .lst ((shp_rd (hs.mono ex)).1 (.inl rfl)) (datL_dp ex xs us ds hl h1)
  | .nd .scr xs, u, d, r, h => by
    rw [dat, Option.map_eq_some_iff] at h
    obtain ⟨ds, h1, rfl⟩ := h
    rw [Rel] at r
    obtain ⟨a, us, rfl, hs, hl⟩ := r
    exact .lst ((shp_rd (hs.mono ex)).1 (.inr rfl)) (datL_dp ex xs us ds hl h1)
  | .nd .tup xs, u, d, r, h => by
    rw [dat, Option.map_eq_some_iff] at h
    obtain ⟨ds, h1, rfl⟩ := h
    rw [Rel] at r
    obtain ⟨a, us, rfl, hs, hl⟩ := r
    exact .tup ((shp_rd (hs.mono ex)).2 rfl) (datL_dp ex xs us ds hl h1)
  | .nd (.dct t ks) xs, u, d, r, h => by rw [dat] at h <;> first | cases h | (intros; intro z; cases z)
  | .nd (.ins c fs) xs, u, d, r, h => by rw [dat] at h <;> first | cases h | (intros; intro z; cases z)
  | .ty n, u, d, r, h => by rw [dat] at h <;> first | cases h | (intros; intro z; cases z)
  | .cls n, u, d, r, h => by rw [dat] at h <;> first | cases h | (intros; intro z; cases z)
  | .ref n, u, d, r, h => by rw [dat] at h <;> first | cases h | (intros; intro z; cases z)
theorem datL_dp (ex : Ex F H) : ∀ (xs : List PV) (us : List V) (ds : List PyData), RelL T K R F xs us → datL xs = some ds → DpAll K H us ds
  | [], us, ds, r, h => by rw [datL] at h; cases h; rw [RelL] at r; subst r; exact .nil
  | x :: xs, us, ds, r, h => by
    rw [datL, Option.bind_eq_some_iff] at h
    obtain ⟨d, h1, h2⟩ := h
    rw [Option.map_eq_some_iff] at h2
    obtain ⟨es, h3, rfl⟩ := h2
    rw [RelL] at r
    obtain ⟨u, vs, rfl, r1, r2⟩ := r
    exact .cons (dat_dp ex x u d r1 h1) (datL_dp ex xs vs es r2 h3)
end
theorem datS_dp {S : Sto} (r : Rep T K R F S H) {x : PV} {u : V} {d : PyData} (rx : Rel T K R F x u) (h : datS x S = some d) : Dp K H u d := by
  unfold datS at h
  split at h
  · rename_i k xs hv
    obtain ⟨a, us, rfl, hs, hl⟩ := view_rel r rx hv
    cases k with
    | lst =>
      rw [dat, Option.map_eq_some_iff] at h
      obtain ⟨ds, h1, rfl⟩ := h
      exact .lst ((shp_rd hs).1 (.inl rfl)) (datL_dp r.ex xs us ds hl h1)
    | scr =>
      rw [dat, Option.map_eq_some_iff] at h
      obtain ⟨ds, h1, rfl⟩ := h
      exact .lst ((shp_rd hs).1 (.inr rfl)) (datL_dp r.ex xs us ds hl h1)
    | tup =>
      rw [dat, Option.map_eq_some_iff] at h
      obtain ⟨ds, h1, rfl⟩ := h
      exact .tup ((shp_rd hs).2 rfl) (datL_dp r.ex xs us ds hl h1)
    | dct t ks => rw [dat] at h <;> first | cases h | (intros; intro z; cases z)
    | ins c fs => rw [dat] at h <;> first | cases h | (intros; intro z; cases z)
  · exact dat_dp r.ex x u d rx h
end

/-! ### comparisons -/
def strPair (x y : PV) : Option (Str × Str) := match y with
  | .str b => (match x with
    | .str a => some (a, b)
    | _ => none)
  | _ => none
def eqD (x y : PV) (S : Sto) : Out PV := match datS x S, datS y S with
  | some d, some e => if SeqAt.shaped d = true ∧ SeqAt.shaped e = true then .ok (.bl (PyData.eqv d e)) S else .bad
  | _, _ => .bad
def neD (x y : PV) (S : Sto) : Out PV := match datS x S, datS y S with
  | some d, some e => if SeqAt.shaped d = true ∧ SeqAt.shaped e = true then .ok (.bl (!PyData.eqv d e)) S else .bad
  | _, _ => .bad
def eqZ (x y : PV) (S : Sto) : Out PV := match strPair x y with
  | some (a, b) => .ok (.bl (decide (a = b))) S
  | none => eqD x y S
def neZ (x y : PV) (S : Sto) : Out PV := match strPair x y with
  | some (a, b) => .ok (.bl (!decide (a = b))) S
  | none => neD x y S
def ltZ (x y : PV) (S : Sto) : Out PV := match x, y with
  | .int i, .int j => .ok (.bl (decide (i < j))) S
  | .str i, .str j => .ok (.bl (decide (i.cps.toList < j.cps.toList))) S
  | _, _ => .bad
def leZ (x y : PV) (S : Sto) : Out PV := match x, y with
  | .int i, .int j => .ok (.bl (decide (i ≤ j))) S
  | .str i, .str j => .ok (.bl (!decide (j.cps.toList < i.cps.toList))) S
  | _, _ => .bad
def gtZ (x y : PV) (S : Sto) : Out PV := match x, y with
  | .int i, .int j => .ok (.bl (decide (j < i))) S
  | .str i, .str j => .ok (.bl (decide (j.cps.toList < i.cps.toList))) S
  | _, _ => .bad
def geZ (x y : PV) (S : Sto) : Out PV := match x, y with
  | .int i, .int j => .ok (.bl (decide (j ≤ i))) S
  | .str i, .str j => .ok (.bl (!decide (i.cps.toList < j.cps.toList))) S
  | _, _ => .bad
def PV.isNon : PV → Bool
  | .non => true
  | _ => false
def isZ (x y : PV) (S : Sto) : Out PV := match y with
  | .non => .ok (.bl x.isNon) S
  | .bl b => (match x with
    | .bl a => .ok (.bl (decide (a = b))) S
    | _ => .bad)
  | _ => .bad
def isntZ (x y : PV) (S : Sto) : Out PV := match y with
  | .non => .ok (.bl (!x.isNon)) S
  | .bl b => (match x with
    | .bl a => .ok (.bl (!decide (a = b))) S
    | _ => .bad)
  | _ => .bad
def PV.flat : PV → Bool
  | .non | .bl _ | .int _ | .str _ => true
  | _ => false
def eqF : PV → PV → Bool
  | .non, .non => true
  | .bl a, .bl b => a == b
  | .bl a, .int b => (if a then 1 else 0) == b
  | .int a, .bl b => a == (if b then 1 else 0)
  | .int a, .int b => a == b
  | .str a, .str b => a == b
  | _, _ => false
def inB (x : PV) (xs : List PV) : Bool := xs.any fun y => eqF y x
def inZ (neg : Bool) (x y : PV) (S : Sto) : Out PV := match y with
  | .str z => (match x with
    | .str c => (match c.cps.toList with
      | [k] => .ok (.bl (if neg then !decide (k ∈ z.cps.toList) else decide (k ∈ z.cps.toList))) S
      | _ => .bad)
    | _ => .bad)
  | y => match view y S with
    | some (k, ys) => if (k = .lst ∨ k = .scr ∨ k = .tup) ∧ x.flat = true ∧ ys.all PV.flat = true then .ok (.bl (if neg then !inB x ys else inB x ys)) S else .bad
    | _ => .bad
section
variable {T : Tb} {X : Cx} {K : PySem.W.Frag}
theorem strPair_some {x y : PV} {a b : Str} (h : strPair x y = some (a, b)) : x = .str a ∧ y = .str b := by
  unfold strPair at h
  split at h
  · split at h
    · cases h; exact ⟨rfl, rfl⟩
    · cases h
  · cases h
theorem dec_strV (a b : Str) : decide (V.str a = V.str b) = decide (a = b) := by
  congr 1
  apply propext
  exact ⟨fun h => by cases h; rfl, fun h => by rw [h]⟩
theorem op_eqZ (hu : X.A.units + 64 < cLine) : OpR X (compareOp .Eq) (fun x y H Q => rEq x y H Q ∨ rEqD X.K x y H Q) := OpR.or op_eq (op_eqD hu)
theorem op_neZ (hu : X.A.units + 64 < cLine) : OpR X (compareOp .NotEq) (fun x y H Q => rNe x y H Q ∨ rNeD X.K x y H Q) := OpR.or op_ne (op_neD hu)
theorem oz_eq : OpZ T K eqZ (fun x y H Q => rEq x y H Q ∨ rEqD K x y H Q) := by
  intro E R F H S x y u w Q r rx ry h
  unfold eqZ at h
  split at h
  · rename_i a b hs
    obtain ⟨rfl, rfl⟩ := strPair_some hs
    have := rel_str rx; subst this
    have := rel_str ry; subst this
    exact .inl ⟨rfl, by rw [dec_strV]; exact PostV.here r (by rw [Rel]) h⟩
  · unfold eqD at h
    split at h
    · rename_i d e h1 h2
      split at h
      · rename_i hs
        exact .inr ⟨d, e, datS_dp r rx h1, datS_dp r ry h2, hs.1, hs.2, PostV.here r (by rw [Rel]) h⟩
      · exact h.elim
    · exact h.elim
theorem oz_ne : OpZ T K neZ (fun x y H Q => rNe x y H Q ∨ rNeD K x y H Q) := by
  intro E R F H S x y u w Q r rx ry h
  unfold neZ at h
  split at h
  · rename_i a b hs
    obtain ⟨rfl, rfl⟩ := strPair_some hs
    have := rel_str rx; subst this
    have := rel_str ry; subst this
    exact .inl ⟨rfl, by rw [dec_strV]; exact PostV.here r (by rw [Rel]) h⟩
  · unfold neD at h
    split at h
    · rename_i d e h1 h2
      split at h
      · rename_i hs
        exact .inr ⟨d, e, datS_dp r rx h1, datS_dp r ry h2, hs.1, hs.2, PostV.here r (by rw [Rel]) h⟩
      · exact h.elim
    · exact h.elim
abbrev rLtZ : R2 := fun x y H Q => rI0 (fun i j => .bl (decide (i < j))) x y H Q ∨ (∃ i j, x = .str i ∧ y = .str j ∧ Q (.bl (decide (i.cps.toList < j.cps.toList))) H)
theorem op_ltZ : OpR X (compareOp .Lt) rLtZ := OpR.or op_lt op_lt_str
abbrev rLeZ : R2 := fun x y H Q => rI0 (fun i j => .bl (decide (i ≤ j))) x y H Q ∨ (∃ i j, x = .str i ∧ y = .str j ∧ Q (.bl (!decide (j.cps.toList < i.cps.toList))) H)
theorem op_leZ : OpR X (compareOp .LtE) rLeZ := OpR.or op_le op_le_str
abbrev rGtZ : R2 := fun x y H Q => rI0 (fun i j => .bl (decide (j < i))) x y H Q ∨ (∃ i j, x = .str i ∧ y = .str j ∧ Q (.bl (decide (j.cps.toList < i.cps.toList))) H)
theorem op_gtZ : OpR X (compareOp .Gt) rGtZ := OpR.or op_gt op_gt_str
abbrev rGeZ : R2 := fun x y H Q => rI0 (fun i j => .bl (decide (j ≤ i))) x y H Q ∨ (∃ i j, x = .str i ∧ y = .str j ∧ Q (.bl (!decide (i.cps.toList < j.cps.toList))) H)
theorem op_geZ : OpR X (compareOp .GtE) rGeZ := OpR.or op_ge op_ge_str
theorem oz_lt : OpZ T K ltZ rLtZ := by
  intro E R F H S x y u w Q r rx ry h
  unfold ltZ at h
  split at h
  · have := rel_int rx; subst this
    have := rel_int ry; subst this
    exact .inl ⟨_, _, rfl, rfl, PostV.here r (by rw [Rel]) h⟩
  · have := rel_str rx; subst this
    have := rel_str ry; subst this
    exact .inr ⟨_, _, rfl, rfl, PostV.here r (by rw [Rel]) h⟩
  · exact h.elim
theorem oz_le : OpZ T K leZ rLeZ := by
  intro E R F H S x y u w Q r rx ry h
  unfold leZ at h
  split at h
  · have := rel_int rx; subst this
    have := rel_int ry; subst this
    exact .inl ⟨_, _, rfl, rfl, PostV.here r (by rw [Rel]) h⟩
  · have := rel_str rx; subst this
    have := rel_str ry; subst this
    exact .inr ⟨_, _, rfl, rfl, PostV.here r (by rw [Rel]) h⟩
  · exact h.elim
theorem oz_gt : OpZ T K gtZ rGtZ := by
  intro E R F H S x y u w Q r rx ry h
  unfold gtZ at h
  split at h
  · have := rel_int rx; subst this
    have := rel_int ry; subst this
    exact .inl ⟨_, _, rfl, rfl, PostV.here r (by rw [Rel]) h⟩
  · have := rel_str rx; subst this
    have := rel_str ry; subst this
    exact .inr ⟨_, _, rfl, rfl, PostV.here r (by rw [Rel]) h⟩
  · exact h.elim
theorem oz_ge : OpZ T K geZ rGeZ := by
  intro E R F H S x y u w Q r rx ry h
  unfold geZ at h
  split at h
  · have := rel_int rx; subst this
    have := rel_int ry; subst this
    exact .inl ⟨_, _, rfl, rfl, PostV.here r (by rw [Rel]) h⟩
  · have := rel_str rx; subst this
    have := rel_str ry; subst this
    exact .inr ⟨_, _, rfl, rfl, PostV.here r (by rw [Rel]) h⟩
  · exact h.elim
theorem isNon_rel {R : Pl} {F : Hp} {x : PV} {u : V} (rx : Rel T K R F x u) : x.isNon = decide (u = .non) := by
  cases x with
  | non => rw [rel_non rx]; rfl
  | bl b => rw [rel_bl rx]; rfl
  | int b => rw [rel_int rx]; rfl
  | str b => rw [rel_str rx]; rfl
  | ty b => rw [rel_ty rx]; rfl
  | cls b => rw [rel_cls rx]; rfl
  | ref n => rw [Rel] at rx; obtain ⟨a, rfl, _⟩ := rx; rfl
  | nd k xs => rw [Rel] at rx; obtain ⟨a, us, rfl, _⟩ := rx; rfl
abbrev rIsZ : R2 := fun x y H Q => (y = .non ∧ Q (.bl (decide (x = .non))) H) ∨ rIsB x y H Q
theorem op_isZ : OpR X (compareOp .Is) rIsZ := OpR.or op_isN op_isBl
abbrev rIsntZ : R2 := fun x y H Q => (y = .non ∧ Q (.bl (!decide (x = .non))) H) ∨ rNotB x y H Q
theorem op_isntZ : OpR X (compareOp .IsNot) rIsntZ := OpR.or op_notN op_notBl
theorem oz_is : OpZ T K isZ rIsZ := by
  intro E R F H S x y u w Q r rx ry h
  cases y with
  | non =>
    have := rel_non ry; subst this
    have e := isNon_rel rx
    refine .inl ⟨rfl, ?_⟩
    rw [← e]
    exact PostV.here r (by rw [Rel]) h
  | bl b =>
    have := rel_bl ry; subst this
    cases x with
    | bl a =>
      have := rel_bl rx; subst this
      exact .inr ⟨a, b, rfl, rfl, PostV.here r (by rw [Rel]) h⟩
    | _ => exact h.elim
  | _ => exact h.elim
theorem oz_isnt : OpZ T K isntZ rIsntZ := by
  intro E R F H S x y u w Q r rx ry h
  cases y with
  | non =>
    have := rel_non ry; subst this
    have e := isNon_rel rx
    refine .inl ⟨rfl, ?_⟩
    rw [← e]
    exact PostV.here r (by rw [Rel]) h
  | bl b =>
    have := rel_bl ry; subst this
    cases x with
    | bl a =>
      have := rel_bl rx; subst this
      exact .inr ⟨a, b, rfl, rfl, PostV.here r (by rw [Rel]) h⟩
    | _ => exact h.elim
  | _ => exact h.elim
theorem flat_rel {R : Pl} {F : Hp} {x : PV} {u : V} (rx : Rel T K R F x u) (h : x.flat = true) : x.at0 = some u ∧ flatV u = true := by
  cases x with
  | non => rw [rel_non rx]; exact ⟨rfl, rfl⟩
  | bl b => rw [rel_bl rx]; exact ⟨rfl, rfl⟩
  | int b => rw [rel_int rx]; exact ⟨rfl, rfl⟩
  | str b => rw [rel_str rx]; exact ⟨rfl, rfl⟩
  | _ => exact absurd h Bool.false_ne_true
theorem eqF_eq {x y : PV} {u w : V} (h1 : x.flat = true) (h2 : y.flat = true) (e1 : x.at0 = some u) (e2 : y.at0 = some w) : eqF x y = eqV u w := by
  cases x <;> first | (exact absurd h1 Bool.false_ne_true) | skip
  all_goals (cases y <;> first | (exact absurd h2 Bool.false_ne_true) | (cases e1; cases e2; rfl))
theorem inB_rel {R : Pl} {F : Hp} {x : PV} {u : V} (rx : Rel T K R F x u) (h : x.flat = true) : ∀ {ys : List PV} {us : List V}, RelL T K R F ys us → ys.all PV.flat = true → inB x ys = inV u us ∧ us.all flatV = true
  | [], us, r, _ => by rw [RelL] at r; subst r; exact ⟨rfl, rfl⟩
  | y :: ys, us, r, hy => by
    rw [RelL] at r
    obtain ⟨w, vs, rfl, r1, r2⟩ := r
    rw [List.all_cons, Bool.and_eq_true] at hy
    obtain ⟨i1, i2⟩ := inB_rel rx h r2 hy.2
    obtain ⟨a1, a2⟩ := flat_rel rx h
    obtain ⟨b1, b2⟩ := flat_rel r1 hy.1
    refine ⟨?_, by rw [List.all_cons, b2, i2]; rfl⟩
    show (eqF y x || inB x ys) = (eqV w u || inV u vs)
    rw [i1, eqF_eq hy.1 h b1 a1]
abbrev rInZ (K : PySem.W.Frag) (neg : Bool) : R2 := fun x y H Q => rIn K neg x y H Q ∨ (∃ (c : Nat) (z : Str), x = .str ⟨#[c]⟩ ∧ y = .str z ∧ Q (.bl (if neg then !decide (c ∈ z.cps.toList) else decide (c ∈ z.cps.toList))) H)
theorem op_inZ : OpR X (compareOp .In) (rInZ X.K false) := OpR.or op_in_seq op_in_sign
theorem op_notInZ : OpR X (compareOp .NotIn) (rInZ X.K true) := OpR.or op_notIn_seq op_notIn_sign
theorem oz_in (neg : Bool) : OpZ T K (inZ neg) (rInZ K neg) := by
  intro E R F H S x y u w Q r rx ry h
  cases y with
  | str z =>
    have := rel_str ry; subst this
    cases x with
    | str c =>
      have := rel_str rx; subst this
      simp only [inZ] at h
      split at h
      · rename_i k hk
        have ec : c = ⟨#[k]⟩ := by
          cases c with
          | mk a =>
            have : a = #[k] := by
              have h2 : a.toList = [k] := hk
              rw [← Array.toArray_toList (xs := a), h2]
            rw [this]
        exact .inr ⟨k, z, by rw [ec], rfl, PostV.here r (by rw [Rel]) h⟩
      · exact h.elim
    | _ => exact h.elim
  | _ =>
    all_goals
      simp only [inZ] at h
      split at h
      · rename_i k ys hv
        obtain ⟨a, us, ea, hs, hl⟩ := view_rel r ry hv
        split at h
        · rename_i hc
          obtain ⟨hk, hx, hy⟩ := hc
          obtain ⟨i1, i2⟩ := inB_rel rx hx hl hy
          refine .inl ⟨a, us, ea, ?_, (flat_rel rx hx).2, i2, ?_⟩
          · rcases hk with e | e | e
            · exact .inl ((shp_rd hs).1 (.inl e))
            · exact .inl ((shp_rd hs).1 (.inr e))
            · exact .inr ((shp_rd hs).2 e)
          · rw [← i1]
            exact PostV.here r (by rw [Rel]) h
        · exact h.elim
      · exact h.elim
end
end Z
end
section
set_option Elab.async false
set_option linter.all false
set_option maxRecDepth 100000
set_option maxHeartbeats 1000000
/-! Z5: truth, tests, subscripts, slices, fields, what dicts hold. -/
namespace Z
open PySem PySem.Spec PyProof.Rows L2
open Evl (Ex)

/-! ### truth -/
def truP (x : PV) (S : Sto) : Out Bool := match x with
  | .non => .ok false S
  | .bl b => .ok b S
  | .int i => .ok (i != 0) S
  | .str s => if s.length ≤ 16777216 then .ok ((s.length : Int) != 0) S else .bad
  | x => match view x S with
    | some (.lst, xs) => .ok (!xs.isEmpty) S
    | some (.scr, xs) => .ok (!xs.isEmpty) S
    | some (.tup, xs) => .ok (!xs.isEmpty) S
    | _ => .bad
section
variable {T : Tb} {X : Cx} {K : PySem.W.Frag} {R : Pl} {F H : Hp} {S : Sto} {E : XK}
theorem isEmpty_rel {xs : List PV} {us : List V} (h : RelL T K R F xs us) : xs.isEmpty = us.isEmpty := by
  have e := h.length
  cases xs <;> cases us <;> first | rfl | (simp at e)
theorem tru_rel (r : Rep T K R F S H) {x : PV} {u : V} (rx : Rel T K R F x u) {Q : Bool → Hp → Prop} (h : OkB T K R F (truP x S) Q E) : ∃ k, TruV K u H k ∧ Q k H := by
  cases x with
  | non => rw [rel_non rx]; exact ⟨false, rfl, PostB.here r h⟩
  | bl b => rw [rel_bl rx]; exact ⟨b, rfl, PostB.here r h⟩
  | int i => rw [rel_int rx]; exact ⟨_, rfl, PostB.here r h⟩
  | str s =>
    rw [rel_str rx]
    have h : OkB T K R F (if s.length ≤ 16777216 then .ok ((s.length : Int) != 0) S else .bad) Q E := h
    split at h
    · rename_i hz; exact ⟨_, ⟨sz16 hz, rfl⟩, PostB.here r h⟩
    · exact h.elim
  | _ =>
    all_goals
      simp only [truP] at h
      split at h
      · rename_i xs hv
        obtain ⟨a, us, rfl, hs, hl⟩ := view_rel r rx hv
        exact ⟨_, .inl ⟨us, (shp_rd hs).1 (.inl rfl), by rw [isEmpty_rel hl]⟩, PostB.here r h⟩
      · rename_i xs hv
        obtain ⟨a, us, rfl, hs, hl⟩ := view_rel r rx hv
        exact ⟨_, .inl ⟨us, (shp_rd hs).1 (.inr rfl), by rw [isEmpty_rel hl]⟩, PostB.here r h⟩
      · rename_i xs hv
        obtain ⟨a, us, rfl, hs, hl⟩ := view_rel r rx hv
        exact ⟨_, .inr (.inl ⟨us, (shp_rd hs).2 rfl, by rw [isEmpty_rel hl]⟩), PostB.here r h⟩
      · exact h.elim
end

/-! ### tests -/
def dTru (a : DE) : DB := fun l S => (a l S).bind fun x S1 => truP x S1
def dNotT (a : DB) : DB := fun l S => (a l S).bind fun b S1 => .ok (!b) S1
def dAndT (a b : DB) : DB := fun l S => (a l S).bind fun k S1 => if k = true then b l S1 else .ok false S1
def dOrT (a b : DB) : DB := fun l S => (a l S).bind fun k S1 => if k = true then .ok true S1 else b l S1
def dOr (a b : DE) : DE := fun l S => (a l S).bind fun x S1 => (truP x S1).bind fun k S2 => if k = true then .ok x S2 else b l S2
def dAnd (a b : DE) : DE := fun l S => (a l S).bind fun x S1 => (truP x S1).bind fun k S2 => if k = true then b l S2 else .ok x S2
def dNot (a : DE) : DE := fun l S => (a l S).bind fun x S1 => (truP x S1).bind fun k S2 => .ok (.bl (!k)) S2
def dIf (c : DB) (a b : DE) : DE := fun l S => (c l S).bind fun k S1 => if k = true then a l S1 else b l S1
theorem truP_same {x : PV} {S S1 : Sto} {k : Bool} (h : truP x S = .ok k S1) : S1 = S := by
  unfold truP at h
  split at h <;> first | (cases h; rfl) | (split at h <;> first | (cases h; rfl) | cases h)
section
variable {T : Tb} {X : Cx} {E : XK} {a b c : Expr} {rest : List Expr} {da db : DE} {ta tb : DB} {pos : Pos}
theorem jt_tru (ha : JE T X E a da) (he : ∀ whole, isTrue a X.env whole = (do let v ← whole; standAt a.pos; holding [v] (truthy v)) := by intro _; rfl) : JT T X E a (dTru da) := by
  refine pt_imp (pt_truth ha he) fun σ H Q ⟨R, F, l, S, r, e, h⟩ => ?_
  refine seqV (goB T X.K E Q) r e h fun x S1 R1 F1 H1 u p ex r1 rx e1 h1 => ?_
  exact tru_rel r1 rx h1
theorem jt_not (ha : JT T X E a ta) : JT T X E (.UnaryOp .Not a pos) (dNotT ta) := by
  refine pt_imp (pt_not ha) fun σ H Q ⟨R, F, l, S, r, e, h⟩ => ?_
  refine seqT (goB T X.K E Q) r e h fun x S1 R1 F1 H1 p ex r1 e1 h1 => ?_
  exact PostB.here r1 h1
theorem jw_and1 (ha : JT T X E a ta) : JW T X E (.BoolOp .And [a] pos) ta := pw_and1 ha
theorem jw_or1 (ha : JT T X E a ta) : JW T X E (.BoolOp .Or [a] pos) ta := pw_or1 ha
theorem jw_and (ha : JT T X E a ta) (hb : JW T X E (.BoolOp .And (b :: rest) pos) tb) : JW T X E (.BoolOp .And (a :: b :: rest) pos) (dAndT ta tb) := by
  refine pw_imp (pw_and ha hb) fun σ H Q ⟨R, F, l, S, r, e, h⟩ => ?_
  refine seqT (goB T X.K E Q) r e h fun k S1 R1 F1 H1 p ex r1 e1 h1 => ?_
  cases k with
  | true => exact ⟨R1, F1, l, S1, r1, e1, h1⟩
  | false => exact PostB.here r1 h1
theorem jw_or (ha : JT T X E a ta) (hb : JW T X E (.BoolOp .Or (b :: rest) pos) tb) : JW T X E (.BoolOp .Or (a :: b :: rest) pos) (dOrT ta tb) := by
  refine pw_imp (pw_or ha hb) fun σ H Q ⟨R, F, l, S, r, e, h⟩ => ?_
  refine seqT (goB T X.K E Q) r e h fun k S1 R1 F1 H1 p ex r1 e1 h1 => ?_
  cases k with
  | false => exact ⟨R1, F1, l, S1, r1, e1, h1⟩
  | true => exact PostB.here r1 h1
theorem je_one {op} (h : JE T X E a da) : JE T X E (.BoolOp op [a] pos) da := pe_one h
theorem je_or (ha : JE T X E a da) (hb : JE T X E (.BoolOp .Or (b :: rest) pos) db) : JE T X E (.BoolOp .Or (a :: b :: rest) pos) (dOr da db) := by
  refine pe_imp (pe_orT ha hb) fun σ H Q ⟨R, F, l, S, r, e, h⟩ => ?_
  refine seqV (goV T X.K E Q) r e h fun x S1 R1 F1 H1 u p ex r1 rx e1 h1 => ?_
  have h1 : OkV T X.K R1 F1 ((truP x S1).bind fun k S2 => if k = true then .ok x S2 else db l S2) Q E := h1
  refine tru_rel (E := E) (Q := fun k H => if k = true then Q u H else tV T X.K E db σ H Q) r1 rx ?_
  cases ht : truP x S1 with
  | bad => rw [ht] at h1; exact h1.elim
  | err x' S3 => rw [ht] at h1; exact h1
  | ok k S2 =>
    rw [ht] at h1
    have := truP_same ht; subst this
    intro R2 F2 H2 p2 ex2 r2
    cases k with
    | true => exact PostV.here r2 (rx.mono p2 ex2) (OkV.mono p2 ex2 h1)
    | false => exact ⟨R2, F2, l, S2, r2, e1.mono p2 ex2, OkV.mono p2 ex2 h1⟩
theorem je_and (ha : JE T X E a da) (hb : JE T X E (.BoolOp .And (b :: rest) pos) db) : JE T X E (.BoolOp .And (a :: b :: rest) pos) (dAnd da db) := by
  refine pe_imp (pe_andT ha hb) fun σ H Q ⟨R, F, l, S, r, e, h⟩ => ?_
  refine seqV (goV T X.K E Q) r e h fun x S1 R1 F1 H1 u p ex r1 rx e1 h1 => ?_
  have h1 : OkV T X.K R1 F1 ((truP x S1).bind fun k S2 => if k = true then db l S2 else .ok x S2) Q E := h1
  refine tru_rel (E := E) (Q := fun k H => if k = true then tV T X.K E db σ H Q else Q u H) r1 rx ?_
  cases ht : truP x S1 with
  | bad => rw [ht] at h1; exact h1.elim
  | err x' S3 => rw [ht] at h1; exact h1
  | ok k S2 =>
    rw [ht] at h1
    have := truP_same ht; subst this
    intro R2 F2 H2 p2 ex2 r2
    cases k with
    | false => exact PostV.here r2 (rx.mono p2 ex2) (OkV.mono p2 ex2 h1)
    | true => exact ⟨R2, F2, l, S2, r2, e1.mono p2 ex2, OkV.mono p2 ex2 h1⟩
theorem je_not (ha : JE T X E a da) : JE T X E (.UnaryOp .Not a pos) (dNot da) := by
  refine pe_imp (pe_notT ha) fun σ H Q ⟨R, F, l, S, r, e, h⟩ => ?_
  refine seqV (goV T X.K E Q) r e h fun x S1 R1 F1 H1 u p ex r1 rx e1 h1 => ?_
  have h1 : OkV T X.K R1 F1 ((truP x S1).bind fun k S2 => .ok (.bl (!k)) S2) Q E := h1
  refine tru_rel (E := E) (Q := fun k H => Q (.bl (!k)) H) r1 rx ?_
  cases ht : truP x S1 with
  | bad => rw [ht] at h1; exact h1.elim
  | err x' S3 => rw [ht] at h1; exact h1
  | ok k S2 =>
    rw [ht] at h1
    intro R2 F2 H2 p2 ex2 r2
    exact PostV.here r2 (by rw [Rel]) (OkV.mono p2 ex2 h1)
theorem je_if (hc : JT T X E c ta) (ha : JE T X E a da) (hb : JE T X E b db) : JE T X E (.IfExp c a b pos) (dIf ta da db) := by
  refine pe_imp (pe_ifExp hc ha hb) fun σ H Q ⟨R, F, l, S, r, e, h⟩ => ?_
  refine seqT (goV T X.K E Q) r e h fun k S1 R1 F1 H1 p ex r1 e1 h1 => ?_
  cases k with
  | true => exact ⟨R1, F1, l, S1, r1, e1, h1⟩
  | false => exact ⟨R1, F1, l, S1, r1, e1, h1⟩
/-- a test's answer as a bool handed on: used where a test is a value -/
def dUn (f : PV → Sto → Out PV) (a : DE) : DE := fun l S => (a l S).bind fun x S1 => f x S1
def negP (x : PV) (S : Sto) : Out PV := match x with
  | .int i => .ok (.int (-i)) S
  | _ => .bad
theorem je_neg (ha : JE T X E a da) : JE T X E (.UnaryOp .USub a pos) (dUn negP da) := by
  refine pe_imp (pe_un un_neg ha) fun σ H Q ⟨R, F, l, S, r, e, h⟩ => ?_
  refine seqV (goV T X.K E Q) r e h fun x S1 R1 F1 H1 u p ex r1 rx e1 h1 => ?_
  cases x with
  | int i => exact ⟨i, rel_int rx, PostV.here r1 (by rw [Rel]) h1⟩
  | _ => exact h1.elim
end

/-! ### dicts as they are read -/
def flatKey : PV → Option Key
  | .int i => some (.inl i)
  | .str x => some (.inr x)
  | _ => none
def flatKeys : List PV → Option (List Key)
  | [] => some []
  | x :: xs => (flatKey x).bind fun k => (flatKeys xs).map fun ks => k :: ks
def keyOf : PV → Option PK
  | .int i => some (.k (.inl i))
  | .str x => some (.k (.inr x))
  | .nd .tup xs => (flatKeys xs).map .t
  | _ => none
/-- the key is of the dict's kind -/
def PK.fits : PK → Bool → Bool
  | .k _, false => true
  | .t _, true => true
  | _, _ => false
def dLook : List PK → List PV → PK → Option PV
  | k :: ks, x :: xs, q => if k = q then some x else dLook ks xs q
  | _, _, _ => none
section
variable {T : Tb} {X : Cx} {K : PySem.W.Frag} {R : Pl} {F H : Hp} {S : Sto} {E : XK}
theorem flatKey_rel {x : PV} {u : V} {k : Key} (rx : Rel T K R F x u) (h : flatKey x = some k) : u = kV k := by
  cases x with
  | int i => cases h; exact rel_int rx
  | str i => cases h; exact rel_str rx
  | _ => cases h
theorem flatKeys_rel : ∀ {xs : List PV} {us : List V} {ks : List Key}, RelL T K R F xs us → flatKeys xs = some ks → us = ks.map kV
  | [], us, ks, r, h => by cases h; rw [RelL] at r; exact r
  | x :: xs, us, ks, r, h => by
    rw [flatKeys, Option.bind_eq_some_iff] at h
    obtain ⟨k, h1, h2⟩ := h
    rw [Option.map_eq_some_iff] at h2
    obtain ⟨ks', h3, rfl⟩ := h2
    rw [RelL] at r
    obtain ⟨u, vs, rfl, r1, r2⟩ := r
    rw [flatKey_rel r1 h1, flatKeys_rel r2 h3]; rfl
theorem valV_cons {κ : Type} [DecidableEq κ] (p : κ × V) (r : List (κ × V)) (k : κ) : valV (p :: r) k = if p.1 = k then some p.2 else valV r k := by
  unfold valV
  rw [List.find?_cons]
  by_cases h : p.1 = k
  · rw [if_pos h, h]; simp
  · rw [if_neg h]; simp [h]
theorem dLook_k {q : Key} : ∀ {kk : List Key} {xs : List PV} {us : List V}, us.length = kk.length → RelL T K R F xs us →
    (∀ x, dLook (kk.map PK.k) xs (.k q) = some x → ∃ u, valV (kk.zip us) q = some u ∧ Rel T K R F x u) ∧ (dLook (kk.map PK.k) xs (.k q) = none → valV (kk.zip us) q = none)
  | [], xs, us, hl, r => by
    have : us = [] := List.length_eq_zero_iff.mp (by simpa using hl)
    subst this
    refine ⟨fun x h => ?_, fun _ => rfl⟩
    cases xs <;> simp [dLook] at h
  | k :: kk, xs, us, hl, r => by
    cases us with
    | nil => simp at hl
    | cons u us =>
      cases xs with
      | nil => rw [RelL] at r; cases r
      | cons x xs =>
        rw [RelL] at r
        obtain ⟨u', vs, e, r1, r2⟩ := r
        cases e
        have ih := dLook_k (q := q) (kk := kk) (xs := xs) (us := us) (by simpa using hl) r2
        rw [List.map_cons, List.zip_cons_cons, valV_cons]
        show (∀ y, (if (PK.k k) = PK.k q then some x else dLook (kk.map PK.k) xs (.k q)) = some y → _) ∧ ((if (PK.k k) = PK.k q then some x else dLook (kk.map PK.k) xs (.k q)) = none → _)
        by_cases h : k = q
        · subst h
          simp only [if_true]
          exact ⟨fun y hy => by cases hy; exact ⟨u, rfl, r1⟩, fun z => by cases z⟩
        · have h' : ¬ (PK.k k = PK.k q) := fun z => h (by injection z)
          rw [if_neg h', if_neg h]
          exact ih
theorem dLook_t {q : List Key} : ∀ {kk : List (List Key)} {xs : List PV} {us : List V}, us.length = kk.length → RelL T K R F xs us →
    (∀ x, dLook (kk.map PK.t) xs (.t q) = some x → ∃ u, valV (kk.zip us) q = some u ∧ Rel T K R F x u) ∧ (dLook (kk.map PK.t) xs (.t q) = none → valV (kk.zip us) q = none)
  | [], xs, us, hl, r => by
    have : us = [] := List.length_eq_zero_iff.mp (by simpa using hl)
    subst this
    refine ⟨fun x h => ?_, fun _ => rfl⟩
    cases xs <;> simp [dLook] at h
  | k :: kk, xs, us, hl, r => by
    cases us with
    | nil => simp at hl
    | cons u us =>
      cases xs with
      | nil => rw [RelL] at r; cases r
      | cons x xs =>
        rw [RelL] at r
        obtain ⟨u', vs, e, r1, r2⟩ := r
        cases e
        have ih := dLook_t (q := q) (kk := kk) (xs := xs) (us := us) (by simpa using hl) r2
        rw [List.map_cons, List.zip_cons_cons, valV_cons]
        show (∀ y, (if (PK.t k) = PK.t q then some x else dLook (kk.map PK.t) xs (.t q)) = some y → _) ∧ ((if (PK.t k) = PK.t q then some x else dLook (kk.map PK.t) xs (.t q)) = none → _)
        by_cases h : k = q
        · subst h
          simp only [if_true]
          exact ⟨fun y hy => by cases hy; exact ⟨u, rfl, r1⟩, fun z => by cases z⟩
        · have h' : ¬ (PK.t k = PK.t q) := fun z => h (by injection z)
          rw [if_neg h', if_neg h]
          exact ih
/-- what a dict holds at a key -/
theorem dict_get (r : Rep T K R F S H) {d k : PV} {u w : V} (rd : Rel T K R F d u) (rk : Rel T K R F k w) {t : Bool} {ks : List PK} {xs : List PV} {q : PK} (hv : view d S = some (.dct t ks, xs)) (hk : keyOf k = some q) (hf : q.fits t = true) :
    ∃ a o, u = .ref a ∧ DGet H a w o ∧ (∀ x, dLook ks xs q = some x → ∃ v, o = some v ∧ Rel T K R F x v) ∧ (dLook ks xs q = none → o = none) := by
  obtain ⟨a, us, rfl, hs, hl⟩ := view_rel r rd hv
  cases t with
  | false =>
    obtain ⟨h0, kk, rfl, h2⟩ := hs
    cases q with
    | t _ => exact absurd hf Bool.false_ne_true
    | k q =>
      have ew : w = kV q := by
        cases k with
        | int i => cases hk; exact rel_int rk
        | str i => cases hk; exact rel_str rk
        | nd kd ys => cases kd <;> simp [keyOf] at hk
        | _ => cases hk
      subst ew
      have hd := dLook_k (q := q) (by rw [h0, List.length_map]) hl
      refine ⟨a, valV (kk.zip us) q, rfl, DGet.k h2, fun x hx => hd.1 x hx, hd.2⟩
  | true =>
    obtain ⟨h0, kk, rfl, h2⟩ := hs
    cases q with
    | k _ => exact absurd hf Bool.false_ne_true
    | t q =>
      cases k with
      | nd kd ys =>
        cases kd with
        | tup =>
          rw [keyOf, Option.map_eq_some_iff] at hk
          obtain ⟨q', hq, e⟩ := hk
          cases e
          rw [Rel] at rk
          obtain ⟨b, ws, rfl, hb, hbl⟩ := rk
          have eb := flatKeys_rel hbl hq
          subst eb
          have hd := dLook_t (q := q) (by rw [h0, List.length_map]) hl
          exact ⟨a, valV (kk.zip us) q, rfl, DGet.t h2 (r.ex _ _ hb), fun x hx => hd.1 x hx, hd.2⟩
        | _ => simp [keyOf] at hk
      | _ => cases hk
end

/-! ### subscripts -/
def subZ (x y : PV) (S : Sto) : Out PV := match x with
  | .str z => (match y with
    | .int i => if z.length ≤ 16777216 then (match atI z.cps.toList i with
      | some c => .ok (.str ⟨#[c]⟩) S
      | none => .bad) else .bad
    | _ => .bad)
  | x => match view x S with
    | some (.dct t ks, xs) => (match keyOf y with
      | some q => if q.fits t = true then (match dLook ks xs q with
        | some v => .ok v S
        | none => .bad) else .bad
      | none => .bad)
    | some (.lst, xs) => (match y with
      | .int i => (match atI xs i with
        | some v => .ok v S
        | none => .bad)
      | _ => .bad)
    | some (.scr, xs) => (match y with
      | .int i => (match atI xs i with
        | some v => .ok v S
        | none => .bad)
      | _ => .bad)
    | some (.tup, xs) => (match y with
      | .int i => (match atI xs i with
        | some v => .ok v S
        | none => .bad)
      | _ => .bad)
    | _ => .bad
def rIxG : R2 := fun x y H Q => ∃ a v, x = .ref a ∧ DGet H a y (some v) ∧ Q v H
section
variable {T : Tb} {X : Cx} {K : PySem.W.Frag} {R : Pl} {F H : Hp} {S : Sto} {E : XK} {a b : Expr} {da db : DE} {pos : Pos}
theorem ix_dct (hu : X.A.units + 1 < cLine) : IxR X rIxG := by
  intro value slice pins s σ H x y v u Q I rx ry h hs
  obtain ⟨a, z, rfl, g, q⟩ := h
  obtain rfl : v = Value.ref a := rx
  exact PyProof.Rows.tail_any (dict_typeIs I g) PySem.F.slot_dict_getitem.lookup (d_getItem hu I g ry fun w' s3 I3 rw' => ⟨z, H, I3, rw', q⟩) hs
theorem atI_rel {xs : List PV} {us : List V} {i : Int} {x : PV} (h : RelL T K R F xs us) (e : atI xs i = some x) : ∃ u, atI us i = some u ∧ Rel T K R F x u := by
  unfold atI at e ⊢
  rw [h.length]
  rw [Option.bind_eq_some_iff] at e
  obtain ⟨j, h1, h2⟩ := e
  obtain ⟨u, h3, h4⟩ := h.get h2
  exact ⟨u, by rw [h1]; exact h3, h4⟩
abbrev rSubZ (K : PySem.W.Frag) : R2 := fun x y H Q => rIx K x y H Q ∨ rIxG x y H Q
theorem oz_sub' : OpZ T K subZ (rSubZ K) := by
  intro E R F H S x y u w Q r rx ry h
  cases x with
  | str z =>
    have := rel_str rx; subst this
    cases y with
    | int i =>
      have := rel_int ry; subst this
      simp only [subZ] at h
      split at h
      · rename_i hz
        split at h
        · rename_i c hc
          exact .inl (.inr (.inr ⟨z, i, c, rfl, rfl, sz16 hz, hc, PostV.here r (by rw [Rel]) h⟩))
        · exact h.elim
      · exact h.elim
    | _ => exact h.elim
  | _ =>
    all_goals
      simp only [subZ] at h
      split at h
      · rename_i t ks xs hv
        split at h
        · rename_i q hk
          split at h
          · rename_i hf
            split at h
            · rename_i v hd
              obtain ⟨a, o, ea, hg, h1, h2⟩ := dict_get r rx ry hv hk hf
              obtain ⟨v', eo, rv⟩ := h1 v hd
              subst eo
              exact .inr ⟨a, v', ea, hg, PostV.here r rv h⟩
            · exact h.elim
          · exact h.elim
        · exact h.elim
      · rename_i xs hv
        obtain ⟨a, us, ea, hs, hl⟩ := view_rel r rx hv
        cases y with
        | int i =>
          have := rel_int ry; subst this
          simp only at h
          split at h
          · rename_i v hi
            obtain ⟨v', h1, rv⟩ := atI_rel hl hi
            exact .inl (.inl ⟨a, us, i, v', ea, rfl, (shp_rd hs).1 (.inl rfl), h1, PostV.here r rv h⟩)
          · exact h.elim
        | _ => exact h.elim
      · rename_i xs hv
        obtain ⟨a, us, ea, hs, hl⟩ := view_rel r rx hv
        cases y with
        | int i =>
          have := rel_int ry; subst this
          simp only at h
          split at h
          · rename_i v hi
            obtain ⟨v', h1, rv⟩ := atI_rel hl hi
            exact .inl (.inl ⟨a, us, i, v', ea, rfl, (shp_rd hs).1 (.inr rfl), h1, PostV.here r rv h⟩)
          · exact h.elim
        | _ => exact h.elim
      · rename_i xs hv
        obtain ⟨a, us, ea, hs, hl⟩ := view_rel r rx hv
        cases y with
        | int i =>
          have := rel_int ry; subst this
          simp only at h
          split at h
          · rename_i v hi
            obtain ⟨v', h1, rv⟩ := atI_rel hl hi
            exact .inl (.inr (.inl ⟨a, us, i, v', ea, rfl, (shp_rd hs).2 rfl, h1, PostV.here r rv h⟩))
          · exact h.elim
        | _ => exact h.elim
      · exact h.elim
theorem je_sub (hu : X.A.units + 1 < cLine) (ha : JE T X E a da) (hb : JE T X E b db) (hs : PlainIx b := by intro _ _; rfl) : JE T X E (.Subscript a b pos) (dBin subZ da db) :=
  pe_imp (pe_ix (IxR.or ix_seq (ix_dct hu)) ha hb hs) fun _ _ _ h => bin_tOp oz_sub' h

/-! ### slices -/
abbrev DO := Loc → Sto → Out (Option Int)
def dNone : DO := fun _ S => .ok none S
def asI (o : Out PV) : Out (Option Int) := o.bind fun x S => match x with
  | .int i => .ok (some i) S
  | _ => .bad
def dSome (a : DE) : DO := fun l S => asI (a l S)
def cutP (xs : List PV) (lo hi : Option Int) : List PV := (xs.drop (HT.sIx xs.length 0 lo)).take (HT.sIx xs.length xs.length hi - HT.sIx xs.length 0 lo)
def sliZ (x : PV) (lo hi : Option Int) (S : Sto) : Out PV := match x with
  | .str z => if z.length ≤ 16777216 then .ok (.str (cutS z lo hi)) S else .bad
  | x => match view x S with
    | some (.lst, xs) => .ok (.nd .lst (cutP xs lo hi)) S
    | some (.scr, xs) => .ok (.nd .lst (cutP xs lo hi)) S
    | some (.tup, xs) => .ok (.nd .tup (cutP xs lo hi)) S
    | _ => .bad
def dSli (a : DE) (lo hi : DO) : DE := fun l S => (a l S).bind fun x S1 => (lo l S1).bind fun p S2 => (hi l S2).bind fun q S3 => sliZ x p q S3
def PostO (T : Tb) (K : PySem.W.Frag) (R : Pl) (F : Hp) (o : Out (Option Int)) (Q : Option Int → Hp → Prop) (E : XK) : Prop := match o with
  | .ok v S => ∀ R' F' H, Pl.le R R' → Ex F F' → Rep T K R' F' S H → Q v H
  | .err e S => PostX T K R F e S E
  | .bad => False
def tO (T : Tb) (K : PySem.W.Frag) (E : XK) (d : DO) : TO := fun σ H Q => ∃ R F l S, Rep T K R F S H ∧ RelE T K R F l σ ∧ PostO T K R F (d l S) Q E
abbrev JO (T : Tb) (X : Cx) (E : XK) (e : Option Expr) (d : DO) : Prop := PO X e (tO T X.K E d)
theorem jo_none : JO T X E none dNone := ⟨fun pins s σ H Q I ⟨R, F, l, S, r, e, h⟩ => po_none.run pins s σ H Q I (h R F H (Pl.refl R) (Ex.refl F) r)⟩
theorem jo_some {e : Expr} {d : DE} (he : JE T X E e d) : JO T X E (some e) (dSome d) := by
  refine ⟨fun pins s σ H Q I ⟨R, F, l, S, r, e, h⟩ => (po_some he).run pins s σ H Q I ⟨R, F, l, S, r, e, ?_⟩⟩
  have h : PostO T X.K R F (asI (d l S)) Q E := h
  cases hd : d l S with
  | ok x S1 =>
    rw [hd] at h
    intro R1 F1 H1 u p ex r1 rx
    cases x with
    | int i => exact ⟨i, rel_int rx, h R1 F1 H1 p ex r1⟩
    | _ => exact h.elim
  | err e' S1 => rw [hd] at h; exact h
  | bad => rw [hd] at h; exact h
theorem seqO {β : Type} {σ : L2.St} {l : Loc} (G : Go T K E β) {d : DO} {k : Option Int → Sto → Out β} {C : Option Int → Hp → Prop} (r : Rep T K R F S H) (e : RelE T K R F l σ) (h : G.ok R F ((d l S).bind k))
    (hk : ∀ (x : Option Int) (S1 : Sto) (R1 : Pl) (F1 H1 : Hp), Pl.le R R1 → Ex F F1 → Rep T K R1 F1 S1 H1 → RelE T K R1 F1 l σ → G.ok R1 F1 (k x S1) → C x H1) : tO T K E d σ H C := by
  refine ⟨R, F, l, S, r, e, ?_⟩
  cases hd : d l S with
  | ok x S1 =>
    rw [hd] at h
    exact fun R1 F1 H1 p x' r1 => hk x S1 R1 F1 H1 p x' r1 (e.mono p x') (G.mono p x' h)
  | err e' S1 => rw [hd] at h; exact G.err h
  | bad => rw [hd] at h; exact G.bad h
theorem cut_rel {xs : List PV} {us : List V} (h : RelL T K R F xs us) (lo hi : Option Int) : RelL T K R F (cutP xs lo hi) (cutV us lo hi) := by
  unfold cutP cutV
  rw [h.length]
  exact (h.drop _).take _
abbrev rSliZ (K : PySem.W.Frag) : V → Option Int → Option Int → Hp → VK → Prop := fun x lo hi H Q => rSlL K x lo hi H Q ∨ (rSlA K x lo hi H Q ∨ rSlS x lo hi H Q)
theorem cut_all {us : List V} {lo hi : Option Int} (h : HT.sIx us.length 0 lo = 0 ∧ HT.sIx us.length us.length hi = us.length) {xs : List PV} (e : us.length = xs.length) : cutP xs lo hi = xs := by
  unfold cutP
  rw [← e, h.1, h.2]
  simp [e]
theorem je_sli {o : Expr} {lo hi : Option Expr} {d : DE} {dl dh : DO} {p2 : Pos} (ho : JE T X E o d) (hl : JO T X E lo dl) (hh : JO T X E hi dh) : JE T X E (.Subscript o (.Slice lo hi none p2) pos) (dSli d dl dh) := by
  refine pe_imp (pe_slice (SlR.or sl_list (SlR.or sl_tupA sl_str)) ho hl hh) fun σ H Q ⟨R, F, l, S, r, e, h⟩ => ?_
  refine seqV (goV T X.K E Q) r e h fun x S1 R1 F1 H1 u p ex r1 rx e1 h1 => ?_
  refine seqO (goV T X.K E Q) r1 e1 h1 fun i S2 R2 F2 H2 p2 ex2 r2 e2 h2 => ?_
  refine seqO (goV T X.K E Q) r2 e2 h2 fun j S3 R3 F3 H3 p3 ex3 r3 e3 h3 => ?_
  have rx := (rx.mono p2 ex2).mono p3 ex3
  have h3 : OkV T X.K R3 F3 (sliZ x i j S3) Q E := h3
  cases x with
  | str z =>
    have := rel_str rx; subst this
    simp only [sliZ] at h3
    split at h3
    · rename_i hz
      exact .inr (.inr ⟨z, rfl, sz16 hz, PostV.here r3 (by rw [Rel]) h3⟩)
    · exact h3.elim
  | _ =>
    all_goals
      simp only [sliZ] at h3
      split at h3
      · rename_i xs hv
        obtain ⟨a, us, ea, hs, hl⟩ := view_rel r3 rx hv
        exact .inl ⟨a, us, ea, (shp_rd hs).1 (.inl rfl), fun p hp => PostV.new (k := .lst) r3 hp upd_same (cut_rel hl _ _) h3⟩
      · rename_i xs hv
        obtain ⟨a, us, ea, hs, hl⟩ := view_rel r3 rx hv
        exact .inl ⟨a, us, ea, (shp_rd hs).1 (.inr rfl), fun p hp => PostV.new (k := .lst) r3 hp upd_same (cut_rel hl _ _) h3⟩
      · rename_i xs hv
        obtain ⟨a, us, ea, hs, hl⟩ := view_rel r3 rx hv
        refine .inr (.inl ⟨a, us, ea, (shp_rd hs).2 rfl, fun hw => ?_, fun _ p hp => PostV.new (k := .tup) r3 hp upd_same (cut_rel hl _ _) h3⟩)
        rw [cut_all hw hl.length] at h3
        have ex := tup_nd r3 rx hv
        rw [ex] at rx
        rw [← ea]
        exact PostV.here r3 rx h3
      · exact h3.elim
end
end Z
end
section
set_option Elab.async false
set_option linter.all false
set_option maxRecDepth 100000
set_option maxHeartbeats 1000000
/-! Z6: calls of built-ins. -/
namespace Z
open PySem PySem.Spec PyProof.Rows L2
open Evl (Ex)

/-- what a derivation may lean on at a place of a def -/
structure Cg (X : Cx) (E : XK) (k : Nat) : Prop where
  calm : X.calm = true
  nd : X.N.Nodup
  room : Room k X.A
  gd : X.A.guards = some []
  takes : Takes X (fun cls d _ H => E cls d H)
  own : PassesOwn (model X.prog X.w) X.A X.env X.xe
theorem Cg.pass {X : Cx} {E : XK} {k : Nat} (c : Cg X E k) : Passes (L2.CX X.prog X.w) X E := passes_call c.takes fun _ _ _ _ h => h
theorem Cg.hu {X : Cx} {E : XK} {k : Nat} (c : Cg X E k) : X.A.units + 64 < cLine := c.room.units
theorem Cg.hu1 {X : Cx} {E : XK} {k : Nat} (c : Cg X E k) : X.A.units + 1 < cLine := by have := c.hu; omega
theorem Cg.hu100 {X : Cx} {E : XK} {k : Nat} (c : Cg X E k) : X.A.units + 100 < cLine := by have := c.room.un; omega

/-- a built-in's answer by values, and the layer's reading of it -/
def CalZ (T : Tb) (K : PySem.W.Frag) (f : List PV → Sto → Out PV) (r : List V → Hp → VK → Prop) : Prop := ∀ (E : XK) (R : Pl) (F H : Hp) (S : Sto) (xs : List PV) (us : List V) (Q : VK), Rep T K R F S H → RelL T K R F xs us → OkV T K R F (f xs S) Q E → r us H Q
def dApp (f : List PV → Sto → Out PV) (ar : DA) : DE := fun l S => (ar l S).bind fun xs S1 => f xs S1
section
variable {T : Tb} {X : Cx} {E : XK} {e : Expr} {es : List Expr} {ar : DA} {p pos : Pos} {f : List PV → Sto → Out PV} {r : List V → Hp → VK → Prop} {x : Str}
theorem app_tCB (hz : CalZ T X.K f r) {σ : L2.St} {H : Hp} {Q : VK} (h : tV T X.K E (dApp f ar) σ H Q) : tCB r (tL T X.K E ar) σ H Q := by
  obtain ⟨R, F, l, S, re, e, h⟩ := h
  exact seqL (goV T X.K E Q) re e h fun xs S1 R1 F1 H1 us p ex r1 rx e1 h1 => hz E R1 F1 H1 S1 xs us Q r1 rx h1
theorem je_callB {id : String} (hc : CallR X (.builtin id) r) (hz : CalZ T X.K f r) (hm : X.mg x = none) (ha : JA T X E (e :: es) ar) (hg : Gl X x := by rfl) (hv : bootBuiltins x = some (.builtin id) := by rfl) (hn : x ≠ "__name__" := by decide) (hdb : (x == ("__debug__" : Str)) = false := by decide)
    (he : starEach (e :: es) X.env = (false, eval e X.env) :: starEach es X.env := by rfl) (hpl : (backTo pos (starEach es X.env)).any (·.1) = false := by rfl) : JE T X E (.Call (.Name x p) (e :: es) [] pos) (dApp f ar) :=
  pe_imp (pe_callB hc hg hm hv ha hn hdb he hpl) fun _ _ _ h => app_tCB hz h
theorem je_callT {n : String} (hc : CallR X (.type n) r) (hz : CalZ T X.K f r) (hm : X.mg x = none) (ha : JA T X E (e :: es) ar) (hg : Gl X x := by rfl) (hv : bootBuiltins x = some (.type n) := by rfl) (hn : x ≠ "__name__" := by decide) (hdb : (x == ("__debug__" : Str)) = false := by decide)
    (he : starEach (e :: es) X.env = (false, eval e X.env) :: starEach es X.env := by rfl) (hpl : (backTo pos (starEach es X.env)).any (·.1) = false := by rfl) : JE T X E (.Call (.Name x p) (e :: es) [] pos) (dApp f ar) :=
  pe_imp (pe_callTy hc hg hm hv ha hn hdb he hpl) fun _ _ _ h => app_tCB hz h
end
section
variable {T : Tb} {K : PySem.W.Frag} {R : Pl} {F H : Hp} {S : Sto}
theorem rel1 {x : PV} {us : List V} (h : RelL T K R F [x] us) : ∃ u, us = [u] ∧ Rel T K R F x u := by
  rw [RelL] at h
  obtain ⟨u, r, rfl, h1, h2⟩ := h
  rw [RelL] at h2
  subst h2
  exact ⟨u, rfl, h1⟩
theorem rel2 {x y : PV} {us : List V} (h : RelL T K R F [x, y] us) : ∃ u w, us = [u, w] ∧ Rel T K R F x u ∧ Rel T K R F y w := by
  rw [RelL] at h
  obtain ⟨u, r, rfl, h1, h2⟩ := h
  obtain ⟨w, rfl, h3⟩ := rel1 h2
  exact ⟨u, w, rfl, h1, h3⟩
end

/-! ### len -/
def lenP (xs : List PV) (S : Sto) : Out PV := match xs with
  | [.str z] => if z.length ≤ 16777216 then .ok (.int z.length) S else .bad
  | [x] => (match view x S with
    | some (.lst, ys) => .ok (.int ys.length) S
    | some (.scr, ys) => .ok (.int ys.length) S
    | some (.tup, ys) => .ok (.int ys.length) S
    | some (.dct _ ks, _) => .ok (.int ks.length) S
    | _ => .bad)
  | _ => .bad
abbrev rLenZ (K : PySem.W.Frag) : List V → Hp → VK → Prop := fun xs H Q => (∃ x n, xs = [x] ∧ LenV K x H n ∧ Q (.int n) H) ∨ ((∃ a kvs, xs = [V.ref a] ∧ H a = some (.dK kvs) ∧ Q (.int kvs.length) H) ∨ rLenT xs H Q)
theorem cr_len {X : Cx} : CallR X (.builtin "len") (rLenZ X.K) := CallR.or call_len (CallR.or call_lenD call_len_dT)
section
variable {T : Tb} {K : PySem.W.Frag}
theorem cz_len : CalZ T K lenP (rLenZ K) := by
  intro E R F H S xs us Q r rx h
  unfold lenP at h
  split at h
  · obtain ⟨u, rfl, r1⟩ := rel1 rx
    have := rel_str r1; subst this
    split at h
    · rename_i hz
      exact .inl ⟨_, _, rfl, ⟨sz16 hz, rfl⟩, PostV.here r (by rw [Rel]) h⟩
    · exact h.elim
  · obtain ⟨u, rfl, r1⟩ := rel1 rx
    split at h
    · rename_i ys hv
      obtain ⟨a, us, rfl, hs, hl⟩ := view_rel r r1 hv
      exact .inl ⟨_, ys.length, rfl, .inl ⟨us, (shp_rd hs).1 (.inl rfl), hl.length.symm⟩, PostV.here r (by rw [Rel]) h⟩
    · rename_i ys hv
      obtain ⟨a, us, rfl, hs, hl⟩ := view_rel r r1 hv
      exact .inl ⟨_, ys.length, rfl, .inl ⟨us, (shp_rd hs).1 (.inr rfl), hl.length.symm⟩, PostV.here r (by rw [Rel]) h⟩
    · rename_i ys hv
      obtain ⟨a, us, rfl, hs, hl⟩ := view_rel r r1 hv
      exact .inl ⟨_, ys.length, rfl, .inr ⟨us, (shp_rd hs).2 rfl, hl.length.symm⟩, PostV.here r (by rw [Rel]) h⟩
    · rename_i t ks ys hv
      obtain ⟨a, us, rfl, hs, hl⟩ := view_rel r r1 hv
      cases t with
      | false =>
        obtain ⟨h0, kk, rfl, h2⟩ := hs
        rw [List.length_map] at h0
        refine .inr (.inl ⟨a, _, rfl, h2, PostV.here r (v := .int (kk.map PK.k).length) ?_ h⟩)
        rw [Rel, List.length_zip, h0, List.length_map, Nat.min_self]
      | true =>
        obtain ⟨h0, kk, rfl, h2⟩ := hs
        rw [List.length_map] at h0
        refine .inr (.inr ⟨a, _, rfl, h2, PostV.here r (v := .int (kk.map PK.t).length) ?_ h⟩)
        rw [Rel, List.length_zip, h0, List.length_map, Nat.min_self]
    · exact h.elim
  · exact h.elim

/-! ### int, abs, bool -/
def intP (xs : List PV) (S : Sto) : Out PV := match xs with
  | [.int i] => .ok (.int i) S
  | [.bl b] => .ok (.int (if b then 1 else 0)) S
  | _ => .bad
theorem cz_int : CalZ T K intP (fun xs H Q => (∃ i, xs = [.int i] ∧ Q (.int i) H) ∨ ∃ k, xs = [.bl k] ∧ Q (.int (if k then 1 else 0)) H) := by
  intro E R F H S xs us Q r rx h
  unfold intP at h
  split at h
  · obtain ⟨u, rfl, r1⟩ := rel1 rx
    have := rel_int r1; subst this
    exact .inl ⟨_, rfl, PostV.here r (by rw [Rel]) h⟩
  · obtain ⟨u, rfl, r1⟩ := rel1 rx
    have := rel_bl r1; subst this
    exact .inr ⟨_, rfl, PostV.here r (by rw [Rel]) h⟩
  · exact h.elim
def absP (xs : List PV) (S : Sto) : Out PV := match xs with
  | [.int i] => .ok (.int (if i < 0 then -i else i)) S
  | _ => .bad
theorem cz_abs : CalZ T K absP (fun xs H Q => ∃ i, xs = [.int i] ∧ Q (.int (if i < 0 then -i else i)) H) := by
  intro E R F H S xs us Q r rx h
  unfold absP at h
  split at h
  · obtain ⟨u, rfl, r1⟩ := rel1 rx
    have := rel_int r1; subst this
    exact ⟨_, rfl, PostV.here r (by rw [Rel]) h⟩
  · exact h.elim

/-! ### list, tuple -/
def listP (xs : List PV) (S : Sto) : Out PV := match xs with
  | [x] => (match view x S with
    | some (.lst, ys) => .ok (.nd .lst ys) S
    | some (.scr, ys) => .ok (.nd .lst ys) S
    | some (.tup, ys) => .ok (.nd .lst ys) S
    | _ => .bad)
  | _ => .bad
def listM (xs : List PV) (S : Sto) : Out PV := match xs with
  | [x] => (match view x S with
    | some (.lst, ys) => .ok (.ref S.length) (S ++ [some (.lst, ys)])
    | some (.scr, ys) => .ok (.ref S.length) (S ++ [some (.lst, ys)])
    | some (.tup, ys) => .ok (.ref S.length) (S ++ [some (.lst, ys)])
    | _ => .bad)
  | _ => .bad
abbrev rListZ (K : PySem.W.Frag) : List V → Hp → VK → Prop := fun xs H Q => ∃ p ys, xs = [.ref p] ∧ (SqL K H p ys ∨ SqT K H p ys) ∧ ∀ l, H l = none → Q (.ref l) (upd H l (.lst ys))
theorem cz_list : CalZ T K listP (rListZ K) := by
  intro E R F H S xs us Q r rx h
  unfold listP at h
  split at h
  · obtain ⟨u, rfl, r1⟩ := rel1 rx
    split at h
    · rename_i ys hv
      obtain ⟨a, us, rfl, hs, hl⟩ := view_rel r r1 hv
      exact ⟨a, us, rfl, .inl ((shp_rd hs).1 (.inl rfl)), fun p hp => PostV.new (k := .lst) r hp upd_same hl h⟩
    · rename_i ys hv
      obtain ⟨a, us, rfl, hs, hl⟩ := view_rel r r1 hv
      exact ⟨a, us, rfl, .inl ((shp_rd hs).1 (.inr rfl)), fun p hp => PostV.new (k := .lst) r hp upd_same hl h⟩
    · rename_i ys hv
      obtain ⟨a, us, rfl, hs, hl⟩ := view_rel r r1 hv
      exact ⟨a, us, rfl, .inr ((shp_rd hs).2 rfl), fun p hp => PostV.new (k := .lst) r hp upd_same hl h⟩
    · exact h.elim
  · exact h.elim
theorem cz_listM : CalZ T K listM (rListZ K) := by
  intro E R F H S xs us Q r rx h
  unfold listM at h
  split at h
  · obtain ⟨u, rfl, r1⟩ := rel1 rx
    split at h
    · rename_i ys hv
      obtain ⟨a, us, rfl, hs, hl⟩ := view_rel r r1 hv
      exact ⟨a, us, rfl, .inl ((shp_rd hs).1 (.inl rfl)), fun p hp => PostV.newM (k := .lst) r hp upd_same hl h⟩
    · rename_i ys hv
      obtain ⟨a, us, rfl, hs, hl⟩ := view_rel r r1 hv
      exact ⟨a, us, rfl, .inl ((shp_rd hs).1 (.inr rfl)), fun p hp => PostV.newM (k := .lst) r hp upd_same hl h⟩
    · rename_i ys hv
      obtain ⟨a, us, rfl, hs, hl⟩ := view_rel r r1 hv
      exact ⟨a, us, rfl, .inr ((shp_rd hs).2 rfl), fun p hp => PostV.newM (k := .lst) r hp upd_same hl h⟩
    · exact h.elim
  · exact h.elim
def tupP (xs : List PV) (S : Sto) : Out PV := match xs with
  | [x] => (match view x S with
    | some (.lst, ys) => .ok (.nd .tup ys) S
    | some (.scr, ys) => .ok (.nd .tup ys) S
    | some (.tup, _) => .ok x S
    | _ => .bad)
  | _ => .bad
theorem cz_tup : CalZ T K tupP (fun xs H Q => ∃ p ys, xs = [.ref p] ∧ ((SqL K H p ys ∧ ∀ l, H l = none → Q (.ref l) (upd H l (.tup ys))) ∨ (SqT K H p ys ∧ Q (.ref p) H))) := by
  intro E R F H S xs us Q r rx h
  unfold tupP at h
  split at h
  · obtain ⟨u, rfl, r1⟩ := rel1 rx
    split at h
    · rename_i ys hv
      obtain ⟨a, us, rfl, hs, hl⟩ := view_rel r r1 hv
      exact ⟨a, us, rfl, .inl ⟨(shp_rd hs).1 (.inl rfl), fun p hp => PostV.new (k := .tup) r hp upd_same hl h⟩⟩
    · rename_i ys hv
      obtain ⟨a, us, rfl, hs, hl⟩ := view_rel r r1 hv
      exact ⟨a, us, rfl, .inl ⟨(shp_rd hs).1 (.inr rfl), fun p hp => PostV.new (k := .tup) r hp upd_same hl h⟩⟩
    · rename_i ys hv
      obtain ⟨a, us, rfl, hs, hl⟩ := view_rel r r1 hv
      exact ⟨a, us, rfl, .inr ⟨(shp_rd hs).2 rfl, PostV.here r r1 h⟩⟩
    · exact h.elim
  · exact h.elim

/-! ### sum, any, all -/
def asIs : List PV → Option (List Int)
  | [] => some []
  | .int i :: xs => (asIs xs).map fun r => i :: r
  | _ :: _ => none
def asBs : List PV → Option (List Bool)
  | [] => some []
  | .bl i :: xs => (asBs xs).map fun r => i :: r
  | _ :: _ => none
theorem asIs_map (ns : List Int) : asIs (ns.map PV.int) = some ns := by
  induction ns with
  | nil => rfl
  | cons n ns ih => rw [List.map_cons, asIs, ih]; rfl
theorem asBs_map (ns : List Bool) : asBs (ns.map PV.bl) = some ns := by
  induction ns with
  | nil => rfl
  | cons n ns ih => rw [List.map_cons, asBs, ih]; rfl
theorem asIs_rel {R : Pl} {F : Hp} : ∀ {xs : List PV} {us : List V} {ns : List Int}, RelL T K R F xs us → asIs xs = some ns → us = ns.map V.int
  | [], us, ns, r, h => by cases h; rw [RelL] at r; exact r
  | x :: xs, us, ns, r, h => by
    rw [RelL] at r
    obtain ⟨u, vs, rfl, r1, r2⟩ := r
    cases x with
    | int i =>
      rw [asIs, Option.map_eq_some_iff] at h
      obtain ⟨ns', h1, rfl⟩ := h
      rw [rel_int r1, asIs_rel r2 h1]; rfl
    | _ => cases h
theorem asBs_rel {R : Pl} {F : Hp} : ∀ {xs : List PV} {us : List V} {ns : List Bool}, RelL T K R F xs us → asBs xs = some ns → us = ns.map V.bl
  | [], us, ns, r, h => by cases h; rw [RelL] at r; exact r
  | x :: xs, us, ns, r, h => by
    rw [RelL] at r
    obtain ⟨u, vs, rfl, r1, r2⟩ := r
    cases x with
    | bl i =>
      rw [asBs, Option.map_eq_some_iff] at h
      obtain ⟨ns', h1, rfl⟩ := h
      rw [rel_bl r1, asBs_rel r2 h1]; rfl
    | _ => cases h
/-- the items of a list -/
def lstOf (x : PV) (S : Sto) : Option (List PV) := match view x S with
  | some (.lst, ys) => some ys
  | some (.scr, ys) => some ys
  | _ => none
theorem lstOf_rel {R : Pl} {F H : Hp} {S : Sto} (r : Rep T K R F S H) {x : PV} {u : V} (h : Rel T K R F x u) {ys : List PV} (e : lstOf x S = some ys) : ∃ a us, u = .ref a ∧ SqL K H a us ∧ RelL T K R F ys us := by
  unfold lstOf at e
  split at e
  · rename_i zs hv
    cases e
    obtain ⟨a, us, rfl, hs, hl⟩ := view_rel r h hv
    exact ⟨a, us, rfl, (shp_rd hs).1 (.inl rfl), hl⟩
  · rename_i zs hv
    cases e
    obtain ⟨a, us, rfl, hs, hl⟩ := view_rel r h hv
    exact ⟨a, us, rfl, (shp_rd hs).1 (.inr rfl), hl⟩
  · cases e
def sumP (xs : List PV) (S : Sto) : Out PV := match xs with
  | [x] => (match (lstOf x S).bind asIs with
    | some ns => .ok (.int ns.sum) S
    | none => .bad)
  | _ => .bad
def anyP (xs : List PV) (S : Sto) : Out PV := match xs with
  | [x] => (match (lstOf x S).bind asBs with
    | some bs => .ok (.bl (bs.any id)) S
    | none => .bad)
  | _ => .bad
def allP (xs : List PV) (S : Sto) : Out PV := match xs with
  | [x] => (match (lstOf x S).bind asBs with
    | some bs => .ok (.bl (bs.all id)) S
    | none => .bad)
  | _ => .bad
theorem cz_sum : CalZ T K sumP (rSum K) := by
  intro E R F H S xs us Q r rx h
  unfold sumP at h
  split at h
  · obtain ⟨u, rfl, r1⟩ := rel1 rx
    split at h
    · rename_i ns hv
      rw [Option.bind_eq_some_iff] at hv
      obtain ⟨ys, h1, h2⟩ := hv
      obtain ⟨a, us, rfl, hs, hl⟩ := lstOf_rel r r1 h1
      have := asIs_rel hl h2; subst this
      exact ⟨a, ns, rfl, hs, PostV.here r (by rw [Rel]) h⟩
    · exact h.elim
  · exact h.elim
theorem cz_any : CalZ T K anyP (rAny K) := by
  intro E R F H S xs us Q r rx h
  unfold anyP at h
  split at h
  · obtain ⟨u, rfl, r1⟩ := rel1 rx
    split at h
    · rename_i ns hv
      rw [Option.bind_eq_some_iff] at hv
      obtain ⟨ys, h1, h2⟩ := hv
      obtain ⟨a, us, rfl, hs, hl⟩ := lstOf_rel r r1 h1
      have := asBs_rel hl h2; subst this
      exact ⟨a, ns, rfl, hs, PostV.here r (by rw [Rel]) h⟩
    · exact h.elim
  · exact h.elim
theorem cz_all : CalZ T K allP (rAll K) := by
  intro E R F H S xs us Q r rx h
  unfold allP at h
  split at h
  · obtain ⟨u, rfl, r1⟩ := rel1 rx
    split at h
    · rename_i ns hv
      rw [Option.bind_eq_some_iff] at hv
      obtain ⟨ys, h1, h2⟩ := hv
      obtain ⟨a, us, rfl, hs, hl⟩ := lstOf_rel r r1 h1
      have := asBs_rel hl h2; subst this
      exact ⟨a, ns, rfl, hs, PostV.here r (by rw [Rel]) h⟩
    · exact h.elim
  · exact h.elim
end

/-! ### repr of data -/
mutual
theorem dat_noD : ∀ (x : PV) (d : PyData), dat x = some d → d.hasDict = false
  | .non, d, h => by rw [dat] at h; cases h; rw [PyData.hasDict]
  | .bl b, d, h => by rw [dat] at h; cases h; rw [PyData.hasDict]
  | .int i, d, h => by rw [dat] at h; cases h; rw [PyData.hasDict]
  | .str x, d, h => by rw [dat] at h; cases h; rw [PyData.hasDict]
  | .nd .lst xs, d, h => by
    rw [dat, Option.map_eq_some_iff] at h
    obtain ⟨ds, h1, rfl⟩ := h
    rw [PyData.hasDict]; exact datL_noD xs ds h1
  | .nd .scr xs, d, h => by
    rw [dat, Option.map_eq_some_iff] at h
    obtain ⟨ds, h1, rfl⟩ := h
    rw [PyData.hasDict]; exact datL_noD xs ds h1
  | .nd .tup xs, d, h => by
    rw [dat, Option.map_eq_some_iff] at h
    obtain ⟨ds, h1, rfl⟩ := h
    rw [PyData.hasDict]; exact datL_noD xs ds h1
  | .nd (.dct _ _) xs, d, h => by simp [dat] at h
  | .nd (.ins _ _) xs, d, h => by simp [dat] at h
  | .ty _, d, h => by simp [dat] at h
  | .cls _, d, h => by simp [dat] at h
  | .ref _, d, h => by simp [dat] at h
theorem datL_noD : ∀ (xs : List PV) (ds : List PyData), datL xs = some ds → PyData.hasDictAll ds = false
  | [], ds, h => by rw [datL] at h; cases h; rw [PyData.hasDictAll]
  | x :: xs, ds, h => by
    rw [datL, Option.bind_eq_some_iff] at h
    obtain ⟨d, h1, h2⟩ := h
    rw [Option.map_eq_some_iff] at h2
    obtain ⟨ds', h3, rfl⟩ := h2
    rw [PyData.hasDictAll, dat_noD x d h1, datL_noD xs ds' h3]; rfl
end
theorem datS_noD {x : PV} {S : Sto} {d : PyData} (h : datS x S = some d) : d.hasDict = false := by
  unfold datS at h
  split at h
  · exact dat_noD _ _ h
  · exact dat_noD _ _ h
def reprP (xs : List PV) (S : Sto) : Out PV := match xs with
  | [x] => (match datS x S with
    | some d => if d.showable = true ∧ d.depth ≤ 20 ∧ d.shown.length ≤ 16777216 then .ok (.str d.shown) S else .bad
    | none => .bad)
  | _ => .bad
abbrev rReprZ (K : PySem.W.Frag) : List V → Hp → VK → Prop := fun xs H Q => ∃ x d, xs = [x] ∧ Dp K H x d ∧ d.hasDict = false ∧ d.showable = true ∧ d.depth ≤ 20 ∧ d.shown.length ≤ sizeLine ∧ Q (.str d.shown) H
theorem cr_repr {X : Cx} (gd : X.A.guards = some []) (hu : X.A.units + 64 < cLine) : CallR X (.builtin "repr") (rReprZ X.K) := by
  intro pins s σ H xs us Q I r h
  obtain ⟨x, d, rfl, hd, nd, sh, dp, hz, q⟩ := h
  obtain ⟨u, rfl, rx⟩ := vals1 r
  obtain ⟨as, rd⟩ := Dp.reads I d x u hd rx
  cases hd with
  | non => cases rx; exact PySem.P.repr_of_none ⟨.str _, H, I.tok _, ⟨_, rfl⟩, q⟩
  | bl b => cases rx; exact PySem.P.repr_of_bool ⟨.str _, H, I.tok _, ⟨_, rfl⟩, q⟩
  | int i =>
    obtain ⟨t, rfl⟩ := rx
    exact PySem.P.repr_of_int (by simpa [PyData.showable] using sh) ⟨.str _, H, I.tok _, ⟨_, rfl⟩, q⟩
  | str z =>
    obtain ⟨t, rfl⟩ := rx
    exact PySem.P.repr_of_str ⟨.str _, H, I.tok _, ⟨_, rfl⟩, q⟩ hz
  | lst hs ha =>
    cases rx
    exact repr_of_reads' rd sh (PyData.noDict_hsm nd) gd (by omega) (fun b o e => e) (fun h' u tk k => ⟨.str _, H, I.kept k, ⟨_, rfl⟩, q⟩) hz
  | tup hs ha =>
    cases rx
    exact repr_of_reads' rd sh (PyData.noDict_hsm nd) gd (by omega) (fun b o e => e) (fun h' u tk k => ⟨.str _, H, I.kept k, ⟨_, rfl⟩, q⟩) hz
theorem cz_repr {T : Tb} {K : PySem.W.Frag} : CalZ T K reprP (rReprZ K) := by
  intro E R F H S xs us Q r rx h
  unfold reprP at h
  split at h
  · obtain ⟨u, rfl, r1⟩ := rel1 rx
    split at h
    · rename_i d hd
      split at h
      · rename_i hh
        exact ⟨u, d, rfl, datS_dp r r1 hd, datS_noD hd, hh.1, hh.2.1, sz16 hh.2.2, PostV.here r (by rw [Rel]) h⟩
      · exact h.elim
    · exact h.elim
  · exact h.elim

/-! ### isinstance by built-in types -/
def tyZ (x : PV) (S : Sto) : Option String := match x with
  | .non => some "NoneType"
  | .bl _ => some "bool"
  | .int _ => some "int"
  | .str _ => some "str"
  | x => match view x S with
    | some (.lst, _) => some "list"
    | some (.scr, _) => some "list"
    | some (.tup, _) => some "tuple"
    | some (.dct _ _, _) => some "dict"
    | _ => none
def kitAll (t : String) : List PV → Option Bool
  | [] => some false
  | .ty n :: r => (kitB t n).bind fun b => (kitAll t r).map fun c => b || c
  | _ => none
def isiP (xs : List PV) (S : Sto) : Out PV := match xs with
  | [x, .ty n] => (match (tyZ x S).bind fun t => kitB t n with
    | some b => .ok (.bl b) S
    | none => .bad)
  | [x, .nd .tup cs] => (match (tyZ x S).bind fun t => kitAll t cs with
    | some b => .ok (.bl b) S
    | none => .bad)
  | _ => .bad
section
variable {T : Tb} {K : PySem.W.Frag} {R : Pl} {F H : Hp} {S : Sto}
theorem sql_ty {a : Addr} {us : List V} (h : SqL K H a us) : TyX K H (.ref a) (.type "list") := by
  rcases h with (h | ⟨o, h⟩) | ⟨o, its, n, h1, h2, h3, _⟩
  · exact .base (.lst h)
  · exact .base (.frz h)
  · exact .kList h1 h2
theorem tyZ_rel (r : Rep T K R F S H) {x : PV} {u : V} (h : Rel T K R F x u) {t : String} (e : tyZ x S = some t) : TyX K H u (.type t) := by
  cases x with
  | non => cases e; rw [rel_non h]; exact .base .non
  | bl b => cases e; rw [rel_bl h]; exact .base (.bl b)
  | int b => cases e; rw [rel_int h]; exact .base (.int b)
  | str b => cases e; rw [rel_str h]; exact .base (.str b)
  | _ =>
    all_goals
      simp only [tyZ] at e
      split at e
      · rename_i ys hv
        cases e
        obtain ⟨a, us, rfl, hs, hl⟩ := view_rel r h hv
        exact sql_ty ((shp_rd hs).1 (.inl rfl))
      · rename_i ys hv
        cases e
        obtain ⟨a, us, rfl, hs, hl⟩ := view_rel r h hv
        exact sql_ty ((shp_rd hs).1 (.inr rfl))
      · rename_i ys hv
        cases e
        obtain ⟨a, us, rfl, hs, hl⟩ := view_rel r h hv
        exact .base (.tup hs)
      · rename_i tt ks ys hv
        cases e
        obtain ⟨a, us, rfl, hs, hl⟩ := view_rel r h hv
        cases tt with
        | false => obtain ⟨_, kk, _, h2⟩ := hs; exact .base (.dK h2)
        | true => obtain ⟨_, kk, _, h2⟩ := hs; exact .base (.dT h2)
      · cases e
theorem kitAll_rel {t : String} : ∀ {cs : List PV} {us : List V} {b : Bool}, RelL T K R F cs us → kitAll t cs = some b → ∃ ws : List Value, Paired ClsV us ws ∧ PySem.W.kitAny K (.type t) ws = some b
  | [], us, b, r, h => by
    cases h
    rw [RelL] at r
    subst r
    exact ⟨[], .nil, kitAny_nil⟩
  | c :: cs, us, b, r, h => by
    rw [RelL] at r
    obtain ⟨u, vs, rfl, r1, r2⟩ := r
    cases c with
    | ty n =>
      rw [kitAll, Option.bind_eq_some_iff] at h
      obtain ⟨b1, h1, h2⟩ := h
      rw [Option.map_eq_some_iff] at h2
      obtain ⟨b2, h3, h4⟩ := h2
      obtain ⟨ws, w1, w2⟩ := kitAll_rel r2 h3
      rw [rel_ty r1]
      refine ⟨.type n :: ws, .cons (.ty n) w1, kitAny_cons (kit_ty h1) (fun z => ?_) (fun z => ?_)⟩
      · rw [w2, ← h4, z]; rfl
      · rw [← h4, z]; rfl
    | _ => cases h
theorem cz_isi : CalZ T K isiP (fun xs H Q => rIsi K xs H Q ∨ rIsiT K xs H Q) := by
  intro E R F H S xs us Q r rx h
  unfold isiP at h
  split at h
  · obtain ⟨u, w, rfl, r1, r2⟩ := rel2 rx
    have := rel_ty r2; subst this
    split at h
    · rename_i b hb
      rw [Option.bind_eq_some_iff] at hb
      obtain ⟨t, h1, h2⟩ := hb
      exact .inl ⟨u, _, .type t, _, b, rfl, .ty _, tyZ_rel r r1 h1, kit_ty h2, PostV.here r (by rw [Rel]) h⟩
    · exact h.elim
  · obtain ⟨u, w, rfl, r1, r2⟩ := rel2 rx
    rw [Rel] at r2
    obtain ⟨a, us, rfl, hs, hl⟩ := r2
    split at h
    · rename_i b hb
      rw [Option.bind_eq_some_iff] at hb
      obtain ⟨t, h1, h2⟩ := hb
      obtain ⟨ws, w1, w2⟩ := kitAll_rel hl h2
      exact .inr ⟨u, a, us, .type t, ws, b, rfl, r.ex _ _ hs, w1, tyZ_rel r r1 h1, w2, PostV.here r (by rw [Rel]) h⟩
    · exact h.elim
  · exact h.elim
end
theorem cr_isi {X : Cx} : CallR X (.builtin "isinstance") (fun xs H Q => rIsi X.K xs H Q ∨ rIsiT X.K xs H Q) := CallR.or call_isi call_isiT
end Z
end
section
set_option Elab.async false
set_option linter.all false
set_option maxRecDepth 100000
set_option maxHeartbeats 1000000
/-! ZS: zip and enumerate over lists, tuples, texts in any mixture, as the layer's iterators. -/
namespace Z
open PySem PySem.Spec PyProof.Rows L2
open Evl (Ex)

theorem vals_right : ∀ {xs : List V} {us : List Value} {i : Nat} {u : Value}, Vals xs us → us[i]? = some u → ∃ x, xs[i]? = some x ∧ RelV x u
  | _, _, _, _, .nil, e => by simp at e
  | _, _, 0, _, .cons r _, e => ⟨_, rfl, by simp at e; rw [← e]; exact r⟩
  | _, _, i + 1, _, .cons _ t, e => by
    obtain ⟨x, h1, h2⟩ := vals_right (i := i) t (by simpa using e)
    exact ⟨x, by simpa using h1, h2⟩
/-- what is walked -/
inductive Sc where
  | l (a : Addr) | t (a : Addr) | s (z : Str)
def ScAt (K : PySem.W.Frag) (H : Hp) : Sc → List V → Prop
  | .l a, xs => SqL K H a xs
  | .t a, xs => SqT K H a xs
  | .s z, xs => xs = z.cps.toList.map fun c => V.str ⟨#[c]⟩
def ScIt (h : Heap) (it : Addr) : Sc → Nat → Prop
  | .l a, i => h.IsListIter it a i
  | .t a, i => h.IsTupleIter it a i
  | .s z, i => ∃ t, h.IsStrIter it (PySem.strIterType z) z t i
def ScBelow (n : Nat) : Sc → Prop
  | .l a => a < n
  | .t a => a < n
  | .s _ => True
theorem ScIt.obj {h : Heap} {it : Addr} {sc : Sc} {i : Nat} (q : ScIt h it sc i) : ∃ o, h.get? it = some o ∧ ∀ v, o.data ≠ .cell v := by
  cases sc with
  | l a => obtain ⟨o, e, _, d⟩ := q; exact ⟨o, e, fun v z => by rw [d] at z; cases z⟩
  | t a => obtain ⟨o, e, _, d⟩ := q; exact ⟨o, e, fun v z => by rw [d] at z; cases z⟩
  | s z => obtain ⟨t, o, e, _, d⟩ := q; exact ⟨o, e, fun v z => by rw [d] at z; cases z⟩
theorem ScIt.keep {h h' : Heap} {it : Addr} {sc : Sc} {i : Nat} (q : ScIt h it sc i) (k : ∀ o, h.get? it = some o → h'.get? it = some o) : ScIt h' it sc i := by
  cases sc with
  | l a => exact Heap.IsListIter.at q fun o e => k o e
  | t a => exact Heap.IsTupleIter.at q fun o e => k o e
  | s z => obtain ⟨t, o, e, r⟩ := q; exact ⟨t, o, k o e, r⟩
/-- the items behind a source, as the library draws them -/
structure ScD (X : Cx) (A : Around) (s : Shared) (sc : Sc) (it : Addr) (xs : List V) (fp : List Addr) (P : Nat → Value → Prop) (St : Nat → Heap → Prop) : Prop where
  dr : Draws X.prog X.w A it fp xs.length P St
  val : ∀ i v, P i v → ∃ x, xs[i]? = some x ∧ RelV x v
  st : ∀ i, ScIt s.heap it sc i → St i s.heap
  un : ∀ i h, St i h → ScIt h it sc i
  mem : it ∈ fp
  fp : ∀ b ∈ fp, b = it ∨ ∃ a, (sc = .l a ∨ sc = .t a) ∧ b = a
theorem sc_draws {X : Cx} {pins : List (Addr × Obj)} {σ : L2.St} {H : Hp} {s : Shared} {A : Around} (hh : A.handled = none) (I : Inv X pins σ H s) {sc : Sc} {xs : List V} {it : Addr} (q : ScAt X.K H sc xs) (ne : ∀ a, sc = .l a ∨ sc = .t a → a ≠ it) (ex : ∃ i, ScIt s.heap it sc i) :
    ∃ fp P St, ScD X A s sc it xs fp P St := by
  cases sc with
  | l a =>
    obtain ⟨its, rv, p, hz⟩ := I.list q
    have d := Draws.list (prog := X.prog) (w := X.w) (A := A) hh it a (ne a (.inl rfl)) its.toArray
    have hl : its.toArray.size = xs.length := by rw [List.size_toArray, rv.length]
    rw [hl] at d
    refine ⟨_, _, _, d, fun i v e => ?_, fun i h => ⟨h, p.isList⟩, fun i h e => e.1, List.mem_cons_self, fun b hb => ?_⟩
    · have e' : its[i]? = some v := by simpa using e
      exact vals_right rv e'
    · rcases List.mem_cons.mp hb with z | z
      · exact .inl z
      · exact .inr ⟨a, .inl rfl, List.mem_singleton.mp z⟩
  | t a =>
    obtain ⟨its, rv, p, hz⟩ := I.tuple q
    have d := Draws.tuple (prog := X.prog) (w := X.w) (A := A) hh it a (ne a (.inr rfl)) its.toArray
    have hl : its.toArray.size = xs.length := by rw [List.size_toArray, rv.length]
    rw [hl] at d
    refine ⟨_, _, _, d, fun i v e => ?_, fun i h => ⟨h, p⟩, fun i h e => e.1, List.mem_cons_self, fun b hb => ?_⟩
    · have e' : its[i]? = some v := by simpa using e
      exact vals_right rv e'
    · rcases List.mem_cons.mp hb with z | z
      · exact .inl z
      · exact .inr ⟨a, .inr rfl, List.mem_singleton.mp z⟩
  | s z =>
    obtain ⟨i0, t, o0, e0, c0, d0⟩ := ex
    have d := Draws.text (prog := X.prog) (w := X.w) (A := A) hh it z t
    have q' : xs = z.cps.toList.map fun c => V.str ⟨#[c]⟩ := q
    have hl : z.cps.size = xs.length := by rw [q', List.length_map]; rfl
    rw [hl] at d
    refine ⟨_, _, _, d, fun i v e => ?_, fun i h => ?_, fun i h e => ⟨t, e⟩, List.mem_cons_self, fun b hb => .inl (List.mem_singleton.mp hb)⟩
    · obtain ⟨c, u, h1, rfl⟩ := e
      refine ⟨V.str ⟨#[c]⟩, ?_, ⟨u, rfl⟩⟩
      rw [q', List.getElem?_map]
      have h2 : z.cps.toList[i]? = some c := by simpa using h1
      rw [h2]; rfl
    · obtain ⟨t', o1, e1, c1, d1⟩ := h
      refine ⟨o1, e1, c1, ?_⟩
      rw [e0] at e1
      cases e1
      rw [d0] at d1
      have q := Data.fields.inj d1
      have q2 := congrArg Array.toList q
      simp at q2
      rw [d0, q2.1, q2.2]

/-! ### zip of two -/
def ItzG (K : PySem.W.Frag) (a b : Sc) : It :=
  ⟨fun i H => ∃ (xs ys : List V), ScAt K H a xs ∧ ScAt K H b ys ∧ i < xs.length ∧ i < ys.length,
    fun i H v H' => ∃ T x y, v = .ref T ∧ H T = none ∧ H' = upd H T (.tup [x, y]) ∧ (∀ xs, ScAt K H a xs → xs[i]? = some x) ∧ ∀ ys, ScAt K H b ys → ys[i]? = some y,
    fun i H => ∃ xs ys : List V, ScAt K H a xs ∧ ScAt K H b ys ∧ i = min xs.length ys.length⟩
theorem scAt_inj {X : Cx} {pins : List (Addr × Obj)} {σ : L2.St} {H : Hp} {s : Shared} (I : Inv X pins σ H s) {sc : Sc} {xs ys : List V} (h : ScAt X.K H sc xs) (q : ScAt X.K H sc ys) : xs = ys := by
  cases sc with
  | l a => exact I.list_inj h q
  | t a => exact I.tuple_inj h q
  | s z => exact h.trans q.symm
theorem sep2 {n : Nat} {sc1 sc2 : Sc} {fp1 fp2 : List Addr} (h1 : ∀ b ∈ fp1, b = n ∨ ∃ a, (sc1 = .l a ∨ sc1 = .t a) ∧ b = a) (h2 : ∀ b ∈ fp2, b = n + 1 ∨ ∃ a, (sc2 = .l a ∨ sc2 = .t a) ∧ b = a) (b1 : ScBelow n sc1) (b2 : ScBelow n sc2) (m1 : n ∈ fp1) (m2 : n + 1 ∈ fp2) :
    ZipSep2 (n + 4) (n + 2) (n + 3) n (n + 1) fp1 fp2 := by
  have lt1 : ∀ b : Nat, b ∈ fp1 → b = n ∨ b < n := fun b hb => by
    rcases h1 b hb with e | ⟨a, e | e, z⟩
    · exact .inl e
    · subst e; subst z; exact .inr b1
    · subst e; subst z; exact .inr b1
  have lt2 : ∀ b : Nat, b ∈ fp2 → b = n + 1 ∨ b < n := fun b hb => by
    rcases h2 b hb with e | ⟨a, e | e, z⟩
    · exact .inl e
    · subst e; subst z; exact .inr b2
    · subst e; subst z; exact .inr b2
  have k1 : ∀ j : Nat, 0 < j → n + j ∉ fp1 := fun j hj z => by have := lt1 (n + j) z; omega
  have k2 : ∀ j : Nat, j ≠ 1 → n + j ∉ fp2 := fun j hj z => by have := lt2 (n + j) z; omega
  have k3 : ∀ i j : Nat, i ≠ j → n + i ≠ n + j := fun i j h => by omega
  exact { TIz := k3 2 4 (by decide), TOz := k3 3 4 (by decide), TITO := k3 2 3 (by decide), TIi1 := k3 2 0 (by decide), mem1 := m1, zf1 := k1 4 (by decide), Tf1 := k1 3 (by decide), TIi2 := k3 2 1 (by decide), mem2 := m2, zf2 := k2 4 (by decide), Tf2 := k2 3 (by decide), sep1_2 := k2 0 (by decide), sep2_1 := k1 1 (by decide) }
theorem ScBelow.ne {n : Nat} {sc : Sc} (h : ScBelow n sc) {m : Nat} (hm : n ≤ m) : ∀ a, sc = .l a ∨ sc = .t a → a ≠ m := fun a e => by
  rcases e with e | e <;> (subst e; exact Nat.ne_of_lt (Nat.lt_of_lt_of_le h hm))
abbrev ZipTn (n : Nat) (a b : Sc) (i : Nat) (h : Heap) : Prop := IsZip h (n + 4) (n + 2) (n + 3) .none ∧ IsTupOf2 h (n + 2) (.ref n) (.ref (n + 1)) ∧ (∃ x y, IsTupOf2 h (n + 3) x y) ∧ ScIt h n a i ∧ ScIt h (n + 1) b i
theorem turn_zipG {P : Program} {w : World} {K : PySem.W.Frag} {elts : List Expr} {kk : Nat} {tpos : Pos} {n : Nat} {a b : Sc} (b1 : ScBelow n a) (b2 : ScBelow n b) :
    Turn P w K (.Tuple elts kk tpos) (ItzG K a b) [n + 4, n + 2, n + 3, n, n + 1] (n + 4) (ZipTn n a b) where
  mem := by simp
  obj := fun i h st c hc => by
    obtain ⟨hz, hTI, ⟨x, y, hTO⟩, h1, h2⟩ := st
    have e' : c = n + 4 ∨ c = n + 2 ∨ c = n + 3 ∨ c = n ∨ c = n + 1 := by simpa using hc
    rcases e' with q | q | q | q | q <;> subst q
    · exact ⟨_, hz, fun v q => nomatch q⟩
    · exact ⟨_, hTI, fun v q => nomatch q⟩
    · exact ⟨_, hTO, fun v q => nomatch q⟩
    · exact h1.obj
    · exact h2.obj
  keep := fun i h h' st k => by
    obtain ⟨hz, hTI, ⟨x, y, hTO⟩, h1, h2⟩ := st
    exact ⟨k _ (by simp) _ hz, k _ (by simp) _ hTI, ⟨x, y, k _ (by simp) _ hTO⟩, h1.keep fun o q => k n (by simp) o q, h2.keep fun o q => k (n + 1) (by simp) o q⟩
  item := by
    intro X hP hw hK hc i pins s σ H E I hf st hg
    subst hP hw hK
    obtain ⟨hz, hTI, ⟨x0, y0, hTO⟩, h1, h2⟩ := st
    obtain ⟨xs, ys, q1, q2, l1, l2⟩ := hg
    have hh : X.A.in1.handled = none := I.ok.hd hc
    obtain ⟨fp1, P1, St1, D1⟩ := sc_draws hh I q1 (b1.ne (Nat.le_refl n)) ⟨i, h1⟩
    obtain ⟨fp2, P2, St2, D2⟩ := sc_draws hh I q2 (b2.ne (Nat.le_succ n)) ⟨i, h2⟩
    have G := GoesN.zip2 (elts := elts) (x1 := kk) (pos := tpos) (sep2 D1.fp D2.fp b1 b2 D1.mem D2.mem) D1.dr D2.dr
    refine wpAny_mono (G.goes i s (fun v s2 => ∃ x H', Inv X pins σ H' s2 ∧ RelV x v ∧ (ItzG X.K a b).yld i H x H' ∧ ZipTn n a b (i + 1) s2.heap ∧ ∀ c ∈ [n + 4, n + 2, n + 3, n, n + 1], H' c = none) E (by omega) ⟨hz, hTI, ⟨x0, y0, hTO⟩, D1.st i h1, D2.st i h2⟩ fun v h' tk Y st' hk htk => ?_) (fun r s1 hq => hq) fun e s1 z => z
    obtain ⟨T, u1, u2, rfl, hT, p1, p2, ht⟩ := Y
    obtain ⟨x, hx, rx⟩ := D1.val i u1 p1
    obtain ⟨y, hy, ry⟩ := D2.val i u2 p2
    obtain ⟨o, ho, hoc, m, hod⟩ := ht
    have new : ObjOk X.prog X.w (upd H T (.tup [x, y])) h' T (.tup [x, y]) := ⟨by show 2 ≤ sizeLine; rw [sizeLine_eq]; decide, [u1, u2], .cons rx (.cons ry .nil), ⟨o, ho, hoc, m, hod⟩⟩
    have I1 : Inv X pins σ (upd H T (.tup [x, y])) { s with heap := h', toks := tk } :=
      I.turnedNew (ch := [n + 4, n + 3, n, n + 1]) (fun c o hb q => hk c o hb q) (fun c hc => hf c (by
        have e' : c = n + 4 ∨ c = n + 3 ∨ c = n ∨ c = n + 1 := by simpa using hc
        rcases e' with q | q | q | q <;> (subst q; simp))) hT new
    obtain ⟨z1, z2, z3, z4, z5⟩ := st'
    refine ⟨.ref T, _, I1, rfl, ⟨T, x, y, rfl, I.hok.fresh hT, rfl, fun l hl => by rw [scAt_inj I hl q1]; exact hx, fun l hl => by rw [scAt_inj I hl q2]; exact hy⟩, ⟨z1, z2, z3, D1.un _ _ z4, D2.un _ _ z5⟩, fun c hcm => ?_⟩
    have hlt : c < s.heap.objs.size := by
      have e' : c = n + 4 ∨ c = n + 2 ∨ c = n + 3 ∨ c = n ∨ c = n + 1 := by simpa using hcm
      rcases e' with q | q | q | q | q <;> subst q
      · exact Heap.lt_size hz
      · exact Heap.lt_size hTI
      · exact Heap.lt_size hTO
      · obtain ⟨_, e1, _⟩ := h1.obj; exact Heap.lt_size e1
      · obtain ⟨_, e1, _⟩ := h2.obj; exact Heap.lt_size e1
    rw [upd_ne (Nat.ne_of_lt (Nat.lt_of_lt_of_le hlt hT))]
    exact (hf c hcm).1
  done := by
    intro X hP hw hK hc i pins s σ H E I hf st hg
    subst hP hw hK
    obtain ⟨hz, hTI, ⟨x0, y0, hTO⟩, h1, h2⟩ := st
    obtain ⟨xs, ys, q1, q2, rfl⟩ := hg
    have hh : X.A.in1.handled = none := I.ok.hd hc
    obtain ⟨fp1, P1, St1, D1⟩ := sc_draws hh I q1 (b1.ne (Nat.le_refl n)) ⟨_, h1⟩
    obtain ⟨fp2, P2, St2, D2⟩ := sc_draws hh I q2 (b2.ne (Nat.le_succ n)) ⟨_, h2⟩
    have G := GoesN.zip2 (elts := elts) (x1 := kk) (pos := tpos) (sep2 D1.fp D2.fp b1 b2 D1.mem D2.mem) D1.dr D2.dr
    exact wpAny_mono (G.stops s (fun s1 => Inv X pins σ H s1) E ⟨hz, hTI, ⟨x0, y0, hTO⟩, D1.st _ h1, D2.st _ h2⟩ fun h' tk hk htk =>
      I.turnedL (ch := [n + 4, n + 3, n, n + 1]) (fun c o hb q => hk c o hb q) (fun c hc => hf c (by
        have e' : c = n + 4 ∨ c = n + 3 ∨ c = n ∨ c = n + 1 := by simpa using hc
        rcases e' with q | q | q | q <;> (subst q; simp)))) (fun r s1 hq => hq) fun e s1 z => z
  self := fun A i s Q E st h => wpAny_pyIter_zip st.1 h
/-- a source as a value -/
def ScV (sc : Sc) (v : V) : Prop := match sc with
  | .l a => v = .ref a
  | .t a => v = .ref a
  | .s z => v = .str z
theorem sc_begins {X : Cx} {pins : List (Addr × Obj)} {σ : L2.St} {H : Hp} {s : Shared} (I : Inv X pins σ H s) {sc : Sc} {v : V} {u : Value} {xs : List V} (hv : ScV sc v) (r : RelV v u) (q : ScAt X.K H sc xs) :
    ∃ o Hb, Begins u o Hb ∧ Hb s.heap ∧ (∀ (h : Heap) (it : Addr), h.get? it = some o → ScIt h it sc 0) ∧ ScBelow s.heap.objs.size sc := by
  cases sc with
  | l a =>
    have hv : v = .ref a := hv
    subst hv
    cases r
    obtain ⟨its, rv, p, hz⟩ := I.list q
    refine ⟨_, _, begins_list a its.toArray, p.isList, fun h it e => ⟨_, e, rfl, rfl⟩, by obtain ⟨o, ho, _⟩ := p.isList; exact Heap.lt_size ho⟩
  | t a =>
    have hv : v = .ref a := hv
    subst hv
    cases r
    obtain ⟨its, rv, p, hz⟩ := I.tuple q
    obtain ⟨o, ho, _⟩ := id p
    refine ⟨_, _, begins_tuple a its.toArray, p, fun h it e => ⟨_, e, rfl, rfl⟩, Heap.lt_size ho⟩
  | s z =>
    have hv : v = .str z := hv
    subst hv
    obtain ⟨t, rfl⟩ := r
    refine ⟨_, _, begins_text z t, trivial, fun h it e => ⟨t, _, e, rfl, rfl⟩, trivial⟩
def iZipG (K : PySem.W.Frag) (ta : TA) : TI := fun σ H R => ta σ H fun vs H1 => ∃ a b u w xs ys, vs = [u, w] ∧ ScV a u ∧ ScV b w ∧ ScAt K H1 a xs ∧ ScAt K H1 b ys ∧ R (ItzG K a b) H1
theorem pi_zipG {X : Cx} {e e2 : Expr} {ta : TA} {p pos tpos : Pos} {elts : List Expr} {kk : Nat} (hm : X.mg "zip" = none) (ha : PA X [e, e2] ta) (hg : Gl X "zip" := by rfl)
    (hs : starEach [e, e2] X.env = (false, eval e X.env) :: starEach [e2] X.env := by rfl) (hpl : (backTo pos (starEach [e2] X.env)).any (·.1) = false := by rfl) :
    PI X (.Tuple elts kk tpos) (.Call (.Name "zip" p) [e, e2] [] pos) (iZipG X.K ta) := by
  refine ⟨fun pins s σ H R I h => ?_⟩
  refine Call_ (ld_blt I hg hm PyProof.Rows.boot_zip (PyProof.Rows.callWith_type1 (thn (ha.run pos pins s σ H _ I h) fun us s1 ⟨vs, H1, I1, r1, q1⟩ => ?_) hs hpl))
  obtain ⟨a, b, u, w, xs, ys, ex, va, vb, qa, qb, q⟩ := q1
  subst ex
  obtain ⟨u1, u2, rfl, ru, rw'⟩ := vals2 r1
  obtain ⟨o1, G1, B1, g1, n1, w1⟩ := sc_begins I1 va ru qa
  obtain ⟨o2, G2, B2, g2, n2, w2⟩ := sc_begins I1 vb rw' qb
  refine zip_begins2 B1 B2 g1 g2 fun h' hz hTI hTO e1 e2' hsz hk => wpAny_pyIter_zip hz ?_
  have I2 : Inv X pins σ H1 { s1 with heap := h' } := I1.kept (t' := s1.toks) hk
  refine ⟨s1.heap.objs.size + 4, _, _, _, H1, rfl, I2, turn_zipG w1 w2, ⟨hz, hTI, ⟨_, _, hTO⟩, n1 _ _ e1, n2 _ _ e2'⟩, fun c hcm => ?_, q⟩
  have hle : s1.heap.objs.size ≤ c := by
    have e' : c = s1.heap.objs.size + 4 ∨ c = s1.heap.objs.size + 2 ∨ c = s1.heap.objs.size + 3 ∨ c = s1.heap.objs.size ∨ c = s1.heap.objs.size + 1 := by simpa using hcm
    rcases e' with z | z | z | z | z <;> rw [z]
    · exact Nat.le_add_right _ _
    · exact Nat.le_add_right _ _
    · exact Nat.le_add_right _ _
    · exact Nat.le_refl _
    · exact Nat.le_add_right _ _
  exact I1.fpOk hle (I1.hok.fresh hle)
theorem walk_zipG {K : PySem.W.Frag} {a b : Sc} {xs ys : List V} {n : Nat} (hn : n = min xs.length ys.length) : Walk (ItzG K a b) n (fun H => ScAt K H a xs ∧ ScAt K H b ys) (YPair (fun i => xs[i]?) (fun i => ys[i]?)) := by
  subst hn
  refine ⟨fun i _ hi q => ⟨xs, ys, q.1, q.2, by omega, by omega⟩, fun _ q => ⟨xs, ys, q.1, q.2, rfl⟩, fun i H v H' _ q y => ?_⟩
  obtain ⟨T, x, z, h1, h2, h3, h4, h5⟩ := y
  exact ⟨T, x, z, h1, h2, h3, h4 xs q.1, h5 ys q.2⟩
end Z
end
section
set_option Elab.async false
set_option linter.all false
set_option maxRecDepth 100000
set_option maxHeartbeats 1000000
/-! Z7: targets, what is walked, for, while. -/
namespace Z
open PySem PySem.Spec PyProof.Rows L2
open Evl (Ex)

/-! ### targets -/
inductive TgZ where
  | nm (i : Nat) | tp (ts : List TgZ)
mutual
def gOf (K : PySem.W.Frag) : TgZ → TG
  | .nm i => gName i
  | .tp ts => gTup K ts.length (gsOf K ts)
def gsOf (K : PySem.W.Frag) : List TgZ → TGs
  | [] => gNil
  | t :: ts => gCons (gOf K t) (gsOf K ts)
end
mutual
def asg : TgZ → PV → Option (List (Nat × PV))
  | .nm i, v => some [(i, v)]
  | .tp ts, .nd .tup xs => asgs ts xs
  | .tp _, _ => none
def asgs : List TgZ → List PV → Option (List (Nat × PV))
  | [], [] => some []
  | t :: ts, x :: xs => (asg t x).bind fun a => (asgs ts xs).map fun b => a ++ b
  | _, _ => none
end
def setZ (l : Loc) (ps : List (Nat × PV)) : Loc := ps.foldl (fun l p => l.set p.1 (some p.2)) l
def setV (σ : L2.St) (ps : List (Nat × V)) : L2.St := ps.foldl (fun l p => l.set p.1 (some p.2)) σ
def wipeZ (l : Loc) : List Nat → Loc
  | [] => l
  | v :: vs => (wipeZ l vs).set v none
mutual
def TgZ.slots : TgZ → List Nat
  | .nm i => [i]
  | .tp ts => TgZ.slotsL ts
def TgZ.slotsL : List TgZ → List Nat
  | [] => []
  | t :: ts => t.slots ++ TgZ.slotsL ts
end
section
variable {T : Tb} {K : PySem.W.Frag} {R : Pl} {F H : Hp} {S : Sto} {l : Loc} {σ : L2.St}
theorem setZ_cons (l : Loc) (p : Nat × PV) (ps : List (Nat × PV)) : setZ l (p :: ps) = setZ (l.set p.1 (some p.2)) ps := rfl
theorem setZ_app (l : Loc) (ps qs : List (Nat × PV)) : setZ l (ps ++ qs) = setZ (setZ l ps) qs := List.foldl_append
theorem setV_app (l : L2.St) (ps qs : List (Nat × V)) : setV l (ps ++ qs) = setV (setV l ps) qs := List.foldl_append
mutual
theorem gOf_ok (re : Rep T K R F S H) : ∀ (t : TgZ) (x : PV) (u : V) (l : Loc) (σ : L2.St) (ps : List (Nat × PV)) (Q : L2.St → Hp → Prop), RelE T K R F l σ → Rel T K R F x u → asg t x = some ps →
    (∀ qs : List (Nat × V), (∀ q ∈ qs, q.1 ∈ t.slots) → RelE T K R F (setZ l ps) (setV σ qs) → Q (setV σ qs) H) → gOf K t u σ H Q
  | .nm i, x, u, l, σ, ps, Q, e, r, h, k => by
    cases h
    exact k [(i, u)] (fun q hq => by rw [List.mem_singleton.mp hq]; exact List.mem_singleton.mpr rfl) (e.set i r)
  | .tp ts, x, u, l, σ, ps, Q, e, r, h, k => by
    cases x with
    | nd kd xs =>
      cases kd with
      | tup =>
        rw [asg] at h
        rw [Rel] at r
        obtain ⟨a, us, rfl, hs, hl⟩ := r
        exact ⟨a, us, rfl, SqT.of (re.ex _ _ hs), by rw [hl.length]; exact asgs_len ts xs ps h, gsOf_ok re ts xs us l σ ps Q e hl h k⟩
      | _ => simp [asg] at h
    | _ => simp [asg] at h
theorem gsOf_ok (re : Rep T K R F S H) : ∀ (ts : List TgZ) (xs : List PV) (us : List V) (l : Loc) (σ : L2.St) (ps : List (Nat × PV)) (Q : L2.St → Hp → Prop), RelE T K R F l σ → RelL T K R F xs us → asgs ts xs = some ps →
    (∀ qs : List (Nat × V), (∀ q ∈ qs, q.1 ∈ TgZ.slotsL ts) → RelE T K R F (setZ l ps) (setV σ qs) → Q (setV σ qs) H) → gsOf K ts us σ H Q
  | [], [], us, l, σ, ps, Q, e, r, h, k => by
    cases h
    rw [RelL] at r
    exact ⟨r, k [] (fun q hq => absurd hq (by simp)) e⟩
  | t :: ts, x :: xs, us, l, σ, ps, Q, e, r, h, k => by
    rw [RelL] at r
    obtain ⟨u, vs, rfl, r1, r2⟩ := r
    rw [asgs, Option.bind_eq_some_iff] at h
    obtain ⟨a, h1, h2⟩ := h
    rw [Option.map_eq_some_iff] at h2
    obtain ⟨b, h3, rfl⟩ := h2
    refine ⟨u, vs, rfl, gOf_ok re t x u l σ a _ e r1 h1 fun qs hq e1 => ?_⟩
    refine gsOf_ok re ts xs vs _ _ b _ e1 r2 h3 fun qs2 hq2 e2 => ?_
    rw [← setV_app] at e2 ⊢
    rw [← setZ_app] at e2
    refine k (qs ++ qs2) (fun q hq' => ?_) e2
    rw [TgZ.slotsL, List.mem_append]
    exact (List.mem_append.mp hq').imp (hq q) (hq2 q)
  | [], _ :: _, us, l, σ, ps, Q, e, r, h, k => by simp [asgs] at h
  | _ :: _, [], us, l, σ, ps, Q, e, r, h, k => by simp [asgs] at h
theorem asgs_len : ∀ (ts : List TgZ) (xs : List PV) (ps : List (Nat × PV)), asgs ts xs = some ps → xs.length = ts.length
  | [], [], ps, h => rfl
  | t :: ts, x :: xs, ps, h => by
    rw [asgs, Option.bind_eq_some_iff] at h
    obtain ⟨a, h1, h2⟩ := h
    rw [Option.map_eq_some_iff] at h2
    obtain ⟨b, h3, rfl⟩ := h2
    rw [List.length_cons, List.length_cons, asgs_len ts xs b h3]
  | [], _ :: _, ps, h => by simp [asgs] at h
  | _ :: _, [], ps, h => by simp [asgs] at h
end
end
abbrev JG (X : Cx) (tg : Expr) (t : TgZ) : Prop := PG X tg (gOf X.K t)
abbrev JGs (X : Cx) (tg : List Expr) (t : List TgZ) : Prop := PGs X tg (gsOf X.K t)
section
variable {X : Cx} {x : Str} {pos : Pos}
theorem jg_n (i : Nat) (hN : X.N.Nodup) (hi : X.N[i]? = some x := by rfl) (hx : L2.Loc X.env.scope x := by first | exact Or.inl rfl | exact Or.inr rfl) (hf : X.fn x = true ∨ X.env.scope.names.lookup x = some .local := by first | exact .inl rfl | exact .inr rfl) : JG X (.Name x pos) (.nm i) := pg_name hN hi hx hf
theorem jgs_nil : JGs X [] [] := pgs_nil
theorem jgs_cons {e : Expr} {es : List Expr} {t : TgZ} {ts : List TgZ} (h1 : JG X e t) (h2 : JGs X es ts) (hs : (assignEach (e :: es) X.env).map (·.2) = assign e X.env :: (assignEach es X.env).map (·.2) := by rfl) : JGs X (e :: es) (t :: ts) := pgs_cons h1 h2 hs
theorem jg_t {es : List Expr} {k : Nat} {ts : List TgZ} (hc : X.calm = true) (h : JGs X es ts) (hn : (assignEach es X.env).length = ts.length := by rfl) (hst : (assignEach es X.env).findIdx? (·.1) = none := by rfl) : JG X (.Tuple es k pos) (.tp ts) := pg_tup hc h hn hst
end

/-! ### what is walked -/
structure ItZ where
  items : List PV
  held : List (PV × Kd × List PV)
open Classical in
noncomputable def heldB (hs : List (PV × Kd × List PV)) (S : Sto) : Bool := decide (∀ p ∈ hs, view p.1 S = some p.2)
open Classical in
theorem heldB_nil (S : Sto) : heldB [] S = true := by unfold heldB; exact decide_eq_true fun p hp => by cases hp
open Classical in
theorem heldB_all {hs : List (PV × Kd × List PV)} {S : Sto} (h : heldB hs S = true) : ∀ p ∈ hs, view p.1 S = some p.2 := by unfold heldB at h; exact of_decide_eq_true h
open Classical in
theorem heldB_of {hs : List (PV × Kd × List PV)} {S : Sto} (h : ∀ p ∈ hs, view p.1 S = some p.2) : heldB hs S = true := by unfold heldB; exact decide_eq_true h
/-- a place is watched while it is walked -/
def holdOf (x : PV) (v : Kd × List PV) : List (PV × Kd × List PV) := match x with
  | .ref n => [(.ref n, v)]
  | _ => []
abbrev DI := Loc → Sto → Out ItZ
structure WalkZ (T : Tb) (K : PySem.W.Frag) (J : It) (R1 : Pl) (F1 : Hp) (it : ItZ) : Prop where
  goes : ∀ (i : Nat) (R : Pl) (F H : Hp) (S : Sto), i < it.items.length → R1.as <+: R.as → Ex F1 F → Rep T K R F S H → heldB it.held S = true → J.go i H
  stops : ∀ (R : Pl) (F H : Hp) (S : Sto), R1.as <+: R.as → Ex F1 F → Rep T K R F S H → heldB it.held S = true → J.stop it.items.length H
  yields : ∀ (i : Nat) (R : Pl) (F H H' : Hp) (S : Sto) (x : V), i < it.items.length → R1.as <+: R.as → Ex F1 F → Rep T K R F S H → heldB it.held S = true → J.yld i H x H' →
    ∃ F' v, Ex F F' ∧ Rep T K R F' S H' ∧ it.items[i]? = some v ∧ Rel T K R F' v x
def OkI (T : Tb) (K : PySem.W.Frag) (R : Pl) (F : Hp) (o : Out ItZ) (Q : It → Hp → Prop) (E : XK) : Prop := match o with
  | .ok it S => ∀ R' F' H J, Pl.le R R' → Ex F F' → Rep T K R' F' S H → WalkZ T K J R' F' it → Q J H
  | .err e S => PostX T K R F e S E
  | .bad => False
def tI (T : Tb) (K : PySem.W.Frag) (E : XK) (d : DI) : TI := fun σ H Q => ∃ R F l S, Rep T K R F S H ∧ RelE T K R F l σ ∧ OkI T K R F (d l S) Q E
abbrev JI (T : Tb) (X : Cx) (E : XK) (tg e : Expr) (d : DI) : Prop := PI X tg e (tI T X.K E d)
theorem pi_imp {X : Cx} {tg e : Expr} {t t' : TI} (h : PI X tg e t) (i : ∀ σ H Q, t' σ H Q → t σ H Q) : PI X tg e t' := ⟨fun pins s σ H Q I q => h.run pins s σ H Q I (i σ H Q q)⟩
theorem pi_or {X : Cx} {tg e : Expr} {t t' : TI} (h : PI X tg e t) (h' : PI X tg e t') : PI X tg e (fun σ H Q => t σ H Q ∨ t' σ H Q) := ⟨fun pins s σ H Q I q => q.elim (h.run pins s σ H Q I) (h'.run pins s σ H Q I)⟩
/-- the sequence behind a value: list or script, tuple -/
def seqIt (x : PV) (S : Sto) : Option ItZ := match view x S with
  | some (.lst, xs) => some ⟨xs, holdOf x (.lst, xs)⟩
  | some (.scr, xs) => some ⟨xs, holdOf x (.scr, xs)⟩
  | some (.tup, xs) => some ⟨xs, holdOf x (.tup, xs)⟩
  | _ => none
def strIt (z : Str) : ItZ := ⟨z.cps.toList.map fun c => .str ⟨#[c]⟩, []⟩
def itOf (x : PV) (S : Sto) : Out ItZ := match x with
  | .str z => .ok (strIt z) S
  | x => match seqIt x S with
    | some it => .ok it S
    | none => .bad
def dItV (d : DE) : DI := fun l S => (d l S).bind fun x S1 => itOf x S1
section
variable {T : Tb} {X : Cx} {E : XK} {tg : Expr}
theorem hold_view {K : PySem.W.Frag} {R R1 : Pl} {F F1 H1 H : Hp} {S1 S : Sto} {x : PV} {u : V} {k : Kd} {xs : List PV} (r1 : Rep T K R1 F1 S1 H1) (rx : Rel T K R1 F1 x u) (hv : view x S1 = some (k, xs)) (p : R1.as <+: R.as) (e : Ex F1 F) (r : Rep T K R F S H) (hh : heldB (holdOf x (k, xs)) S = true) :
    ∃ a us, u = .ref a ∧ Shp T K H a k us ∧ RelL T K R F xs us := by
  cases x with
  | ref n => exact view_rel r (rx.mono0 p e) (heldB_all hh (.ref n, k, xs) (List.mem_singleton.mpr rfl))
  | nd k' xs' => exact view_rel r (rx.mono0 p e) hv
  | _ => cases hv
theorem walkz_of {K : PySem.W.Frag} {R1 : Pl} {F1 H1 : Hp} {S1 : Sto} {x : PV} {u : V} {k : Kd} {xs : List PV} {J : It} (r1 : Rep T K R1 F1 S1 H1) (rx : Rel T K R1 F1 x u) (hv : view x S1 = some (k, xs))
    (w : ∀ (a : Addr) (us : List V), u = .ref a → Walk J us.length (fun H => Shp T K H a k us) (YAt us)) : WalkZ T K J R1 F1 ⟨xs, holdOf x (k, xs)⟩ where
  goes := fun i R F H S hi p e r hh => by
    obtain ⟨a, us, eu, hs, hl⟩ := hold_view r1 rx hv p e r hh
    exact (w a us eu).goes i H (by rw [hl.length]; exact hi) hs
  stops := fun R F H S p e r hh => by
    obtain ⟨a, us, eu, hs, hl⟩ := hold_view r1 rx hv p e r hh
    have := (w a us eu).stops H hs
    rw [hl.length] at this
    exact this
  yields := fun i R F H H' S v hi p e r hh y => by
    obtain ⟨a, us, eu, hs, hl⟩ := hold_view r1 rx hv p e r hh
    obtain ⟨rfl, hx⟩ := (w a us eu).yields i H v H' (by rw [hl.length]; exact hi) hs y
    have hi' : i < xs.length := hi
    obtain ⟨u', h1, h2⟩ := hl.get (List.getElem?_eq_getElem hi')
    rw [h1] at hx
    cases hx
    exact ⟨F, xs[i], Ex.refl F, r, List.getElem?_eq_getElem hi', h2⟩
theorem ji_val {e : Expr} {d : DE} (he : JE T X E e d) : JI T X E tg e (dItV d) := by
  refine pi_imp (pi_or (pi_list he) (pi_or (pi_tup he) (pi_str he))) fun σ H Q ⟨R, F, l, S, r, e, h⟩ => ?_
  cases hd : d l S with
  | bad => unfold dItV at h; rw [hd] at h; exact h.elim
  | err x S1 =>
    unfold dItV at h; rw [hd] at h
    refine .inl ⟨R, F, l, S, r, e, ?_⟩
    rw [hd]; exact h
  | ok x S1 =>
    unfold dItV at h; rw [hd] at h
    have h : OkI T X.K R F (itOf x S1) Q E := h
    cases x with
    | str z =>
      refine .inr (.inr ⟨R, F, l, S, r, e, ?_⟩)
      rw [hd]
      intro R1 F1 H1 u p ex r1 rx
      have := rel_str rx; subst this
      refine ⟨z, rfl, h R1 F1 H1 (Its z) p ex r1 ⟨fun i R F H S hi _ _ _ _ => ?_, fun R F H S _ _ _ _ => ?_, fun i R F H H' S v hi p e r hh y => ?_⟩⟩
      · have : i < z.cps.size := by simpa [strIt] using hi
        exact this
      · show z.cps.size ≤ _
        simp [strIt]
      · obtain ⟨rfl, c, h1, rfl⟩ := y
        refine ⟨F, .str ⟨#[c]⟩, Ex.refl F, r, ?_, by rw [Rel]⟩
        have h2 : z.cps.toList[i]? = some c := by simpa using h1
        simp [strIt, h2]
    | _ =>
      all_goals
        simp only [itOf, seqIt] at h
        split at h
        · rename_i it hit
          split at hit
          · rename_i xs hv
            cases hit
            refine .inl ⟨R, F, l, S, r, e, ?_⟩
            rw [hd]
            intro R1 F1 H1 u p ex r1 rx
            obtain ⟨a, us, eu, hs, hl⟩ := view_rel r1 rx hv
            refine ⟨a, eu, ⟨us, (shp_rd hs).1 (.inl rfl)⟩, h R1 F1 H1 _ p ex r1 (walkz_of r1 rx hv fun b ws eb => ?_)⟩
            rw [eu] at eb; cases eb
            exact walk_list.mono (fun H q => (shp_rd q).1 (.inl rfl)) fun _ _ _ _ _ _ y => y
          · rename_i xs hv
            cases hit
            refine .inl ⟨R, F, l, S, r, e, ?_⟩
            rw [hd]
            intro R1 F1 H1 u p ex r1 rx
            obtain ⟨a, us, eu, hs, hl⟩ := view_rel r1 rx hv
            refine ⟨a, eu, ⟨us, (shp_rd hs).1 (.inr rfl)⟩, h R1 F1 H1 _ p ex r1 (walkz_of r1 rx hv fun b ws eb => ?_)⟩
            rw [eu] at eb; cases eb
            exact walk_list.mono (fun H q => (shp_rd q).1 (.inr rfl)) fun _ _ _ _ _ _ y => y
          · rename_i xs hv
            cases hit
            refine .inr (.inl ⟨R, F, l, S, r, e, ?_⟩)
            rw [hd]
            intro R1 F1 H1 u p ex r1 rx
            obtain ⟨a, us, eu, hs, hl⟩ := view_rel r1 rx hv
            refine ⟨a, eu, ⟨us, (shp_rd hs).2 rfl⟩, h R1 F1 H1 _ p ex r1 (walkz_of r1 rx hv fun b ws eb => ?_)⟩
            rw [eu] at eb; cases eb
            exact walk_tup.mono (fun H q => (shp_rd q).2 rfl) fun _ _ _ _ _ _ y => y
          · cases hit
        · exact h.elim

/-! ### range -/
def rngZ (lo : Int) (n : Nat) : List PV := (List.range n).map fun i => .int (lo + (i : Nat))
noncomputable def rngP (xs : List PV) (S : Sto) : Out ItZ := match xs with
  | [.int j] => @ite _ (-(2 ^ 62) ≤ j ∧ j < 2 ^ 62) (Classical.propDecidable _) (.ok ⟨rngZ 0 j.toNat, []⟩ S) .bad
  | _ => .bad
noncomputable def rngP2 (xs : List PV) (S : Sto) : Out ItZ := match xs with
  | [.int i, .int j] => @ite _ (-(2 ^ 62) ≤ i ∧ i < 2 ^ 62 ∧ -(2 ^ 62) ≤ j ∧ j < 2 ^ 62) (Classical.propDecidable _) (.ok ⟨rngZ i (j - i).toNat, []⟩ S) .bad
  | _ => .bad
def dItA (f : List PV → Sto → Out ItZ) (ar : DA) : DI := fun l S => (ar l S).bind fun xs S1 => f xs S1
theorem walkz_rng {K : PySem.W.Frag} {R1 : Pl} {F1 : Hp} {lo : Int} {n : Nat} : WalkZ T K (Itr lo n) R1 F1 ⟨rngZ lo n, []⟩ where
  goes := fun i R F H S hi _ _ _ _ => by have : i < n := by simpa [rngZ] using hi
                                         exact this
  stops := fun R F H S _ _ _ _ => by show n ≤ _; simp [rngZ]
  yields := fun i R F H H' S v hi p e r hh y => by
    obtain ⟨rfl, rfl⟩ := y
    have : i < n := by simpa [rngZ] using hi
    refine ⟨F, .int (lo + (i : Nat)), Ex.refl F, r, ?_, by rw [Rel]⟩
    simp [rngZ, this]
/-- the iterable's argument list first -/
theorem seqI {ar : DA} {f : List PV → Sto → Out ItZ} {K : PySem.W.Frag} {σ : L2.St} {H : Hp} {Q : It → Hp → Prop} {C : List V → Hp → Prop} (h : tI T K E (dItA f ar) σ H Q)
    (hk : ∀ (xs : List PV) (S1 : Sto) (R1 : Pl) (F1 H1 : Hp) (us : List V), Rep T K R1 F1 S1 H1 → RelL T K R1 F1 xs us → OkI T K R1 F1 (f xs S1) Q E → C us H1) : tL T K E ar σ H C := by
  obtain ⟨R, F, l, S, r, e, h⟩ := h
  refine ⟨R, F, l, S, r, e, ?_⟩
  unfold dItA at h
  cases hd : ar l S with
  | ok xs S1 =>
    rw [hd] at h
    intro R1 F1 H1 us p ex r1 rx
    refine hk xs S1 R1 F1 H1 us r1 rx ?_
    have h : OkI T K R F (f xs S1) Q E := h
    cases hf : f xs S1 with
    | ok it S2 => rw [hf] at h; exact fun R' F' H' J p' ex' => h R' F' H' J (p.trans p') (ex.trans ex')
    | err x S2 => rw [hf] at h; exact PostX.mono p ex h
    | bad => rw [hf] at h; exact h
  | err x S1 => rw [hd] at h; exact h
  | bad => rw [hd] at h; exact h
theorem ji_rng1 {a : Expr} {ar : DA} {p pos : Pos} (hm : X.mg "range" = none) (ha : JA T X E [a] ar) (hg : Gl X "range" := by rfl) (hs : starEach [a] X.env = [(false, eval a X.env)] := by rfl) : JI T X E tg (.Call (.Name "range" p) [a] [] pos) (dItA rngP ar) := by
  refine pi_imp (pi_range1 hg hm ha hs) fun σ H Q h => seqI h fun xs S1 R1 F1 H1 us r1 rx h1 => ?_
  unfold rngP at h1
  split at h1
  · obtain ⟨u, rfl, rx'⟩ := rel1 rx
    have := rel_int rx'; subst this
    split at h1
    · rename_i hb
      exact ⟨_, rfl, hb.1, hb.2, h1 R1 F1 H1 _ (Pl.refl R1) (Ex.refl F1) r1 walkz_rng⟩
    · exact h1.elim
  · exact h1.elim
theorem ji_rng2 {a b : Expr} {ar : DA} {p pos : Pos} (hm : X.mg "range" = none) (ha : JA T X E [a, b] ar) (hg : Gl X "range" := by rfl) (hs : starEach [a, b] X.env = [(false, eval a X.env), (false, eval b X.env)] := by rfl) (hs2 : starEach [b] X.env = [(false, eval b X.env)] := by rfl) : JI T X E tg (.Call (.Name "range" p) [a, b] [] pos) (dItA rngP2 ar) := by
  refine pi_imp (pi_range2 hg hm ha hs hs2) fun σ H Q h => seqI h fun xs S1 R1 F1 H1 us r1 rx h1 => ?_
  unfold rngP2 at h1
  split at h1
  · obtain ⟨u, w, rfl, rx1, rx2⟩ := rel2 rx
    have := rel_int rx1; subst this
    have := rel_int rx2; subst this
    split at h1
    · rename_i hb
      exact ⟨_, _, rfl, hb, h1 R1 F1 H1 _ (Pl.refl R1) (Ex.refl F1) r1 walkz_rng⟩
    · exact h1.elim
  · exact h1.elim

/-! ### enumerate, zip -/
def encZ : List PV → Nat → List PV
  | [], _ => []
  | x :: xs, i => .nd .tup [.int (i : Nat), x] :: encZ xs (i + 1)
def zipZ : List PV → List PV → List PV
  | x :: xs, y :: ys => .nd .tup [x, y] :: zipZ xs ys
  | _, _ => []
theorem encZ_get : ∀ (xs : List PV) (k i : Nat), (encZ xs k)[i]? = xs[i]?.map fun x => .nd .tup [.int ((k + i : Nat)), x]
  | [], k, i => by simp [encZ]
  | x :: xs, k, 0 => by simp [encZ]
  | x :: xs, k, i + 1 => by
    rw [encZ, List.getElem?_cons_succ, encZ_get xs (k + 1) i, List.getElem?_cons_succ]
    have e : k + 1 + i = k + (i + 1) := by omega
    rw [e]
theorem encZ_len : ∀ (xs : List PV) (k : Nat), (encZ xs k).length = xs.length
  | [], k => rfl
  | x :: xs, k => by simp [encZ, encZ_len xs (k + 1)]
theorem zipZ_len : ∀ (xs ys : List PV), (zipZ xs ys).length = min xs.length ys.length
  | [], ys => by simp [zipZ]
  | x :: xs, [] => by simp [zipZ]
  | x :: xs, y :: ys => by simp [zipZ, zipZ_len xs ys]
theorem zipZ_get : ∀ (xs ys : List PV) (i : Nat) (x y : PV), xs[i]? = some x → ys[i]? = some y → (zipZ xs ys)[i]? = some (.nd .tup [x, y])
  | [], ys, i, x, y, h, _ => by simp at h
  | a :: xs, [], i, x, y, _, h => by simp at h
  | a :: xs, b :: ys, 0, x, y, h1, h2 => by simp at h1 h2; simp [zipZ, h1, h2]
  | a :: xs, b :: ys, i + 1, x, y, h1, h2 => by simp at h1 h2; simp [zipZ, zipZ_get xs ys i x y h1 h2]
def enuP (xs : List PV) (S : Sto) : Out ItZ := match xs with
  | [x] => (match view x S with
    | some (.lst, ys) => .ok ⟨encZ ys 0, holdOf x (.lst, ys)⟩ S
    | some (.scr, ys) => .ok ⟨encZ ys 0, holdOf x (.scr, ys)⟩ S
    | _ => .bad)
  | _ => .bad
/-- a fresh pair that a turn hands out -/
theorem pair_yield {K : PySem.W.Frag} {R : Pl} {F H H' : Hp} {S : Sto} {v u w : V} {x y : PV} {T' : Addr} (r : Rep T K R F S H) (ev : v = .ref T') (hn : H T' = none) (eH : H' = upd H T' (.tup [u, w])) (h1 : Rel T K R F x u) (h2 : Rel T K R F y w) :
    ∃ F', Ex F F' ∧ Rep T K R F' S H' ∧ Rel T K R F' (.nd .tup [x, y]) v := by
  subst ev eH
  have e : Ex F (upd F T' (.tup [u, w])) := ex_upd (r.fnone hn)
  refine ⟨upd F T' (.tup [u, w]), e, r.frozen hn, ?_⟩
  rw [Rel]
  exact ⟨T', [u, w], rfl, upd_same, .cons (h1.mono (Pl.refl R) e) (.cons (h2.mono (Pl.refl R) e) .nil)⟩
theorem walkz_enu {K : PySem.W.Frag} {R1 : Pl} {F1 H1 : Hp} {S1 : Sto} {x : PV} {u : V} {k : Kd} {xs : List PV} {a : Addr} (r1 : Rep T K R1 F1 S1 H1) (rx : Rel T K R1 F1 x u) (hv : view x S1 = some (k, xs)) (hk : k = .lst ∨ k = .scr) (eu : u = .ref a) : WalkZ T K (Ite K a) R1 F1 ⟨encZ xs 0, holdOf x (k, xs)⟩ where
  goes := fun i R F H S hi p e r hh => by
    obtain ⟨b, us, eb, hs, hl⟩ := hold_view r1 rx hv p e r hh
    rw [eu] at eb; cases eb
    have hi : i < xs.length := by rw [encZ_len] at hi; exact hi
    exact walk_enum.goes i H (by rw [hl.length]; exact hi) ((shp_rd hs).1 hk)
  stops := fun R F H S p e r hh => by
    obtain ⟨b, us, eb, hs, hl⟩ := hold_view r1 rx hv p e r hh
    rw [eu] at eb; cases eb
    have := walk_enum.stops H ((shp_rd hs).1 hk)
    rw [hl.length] at this
    show (Ite K a).stop (encZ xs 0).length H
    rw [encZ_len]; exact this
  yields := fun i R F H H' S v hi p e r hh y => by
    obtain ⟨b, us, eb, hs, hl⟩ := hold_view r1 rx hv p e r hh
    rw [eu] at eb; cases eb
    have hi : i < xs.length := by rw [encZ_len] at hi; exact hi
    obtain ⟨T', z1, z2, ev, hn, eH, e1, e2⟩ := walk_enum.yields i H v H' (by rw [hl.length]; exact hi) ((shp_rd hs).1 hk) y
    cases e1
    obtain ⟨w, h1, h2⟩ := hl.get (List.getElem?_eq_getElem hi)
    have e2 : us[i]? = some z2 := e2
    rw [h1] at e2; cases e2
    obtain ⟨F', e', r', rv⟩ := pair_yield (x := .int (i : Nat)) r ev hn eH (by rw [Rel]) h2
    refine ⟨F', _, e', r', ?_, rv⟩
    show (encZ xs 0)[i]? = _
    rw [encZ_get, List.getElem?_eq_getElem hi]
    simp
theorem ji_enu {e : Expr} {elts : List Expr} {kk : Nat} {tpos p pos : Pos} {ar : DA} (hm : X.mg "enumerate" = none) (ha : JA T X E [e] ar) (hg : Gl X "enumerate" := by rfl) (hs : starEach [e] X.env = [(false, eval e X.env)] := by rfl) : JI T X E (.Tuple elts kk tpos) (.Call (.Name "enumerate" p) [e] [] pos) (dItA enuP ar) := by
  refine pi_imp (pi_enum hg hm ha hs) fun σ H Q h => seqI h fun xs S1 R1 F1 H1 us r1 rx h1 => ?_
  unfold enuP at h1
  split at h1
  · obtain ⟨u, rfl, rx'⟩ := rel1 rx
    split at h1
    · rename_i ys hv
      obtain ⟨a, us, rfl, hs, hl⟩ := view_rel r1 rx' hv
      exact ⟨a, us, rfl, (shp_rd hs).1 (.inl rfl), h1 R1 F1 H1 _ (Pl.refl R1) (Ex.refl F1) r1 (walkz_enu r1 rx' hv (.inl rfl) rfl)⟩
    · rename_i ys hv
      obtain ⟨a, us, rfl, hs, hl⟩ := view_rel r1 rx' hv
      exact ⟨a, us, rfl, (shp_rd hs).1 (.inr rfl), h1 R1 F1 H1 _ (Pl.refl R1) (Ex.refl F1) r1 (walkz_enu r1 rx' hv (.inr rfl) rfl)⟩
    · exact h1.elim
  · exact h1.elim
def zipP (xs : List PV) (S : Sto) : Out ItZ := match xs with
  | [x, y] => (match itOf x S, itOf y S with
    | .ok a _, .ok b _ => .ok ⟨zipZ a.items b.items, a.held ++ b.held⟩ S
    | _, _ => .bad)
  | _ => .bad
theorem itOf_ok {x : PV} {S S' : Sto} {it : ItZ} (h : itOf x S = .ok it S') : (∃ z, x = .str z ∧ it = strIt z) ∨ ∃ k xs, (k = .lst ∨ k = .scr ∨ k = .tup) ∧ view x S = some (k, xs) ∧ it = ⟨xs, holdOf x (k, xs)⟩ := by
  cases x with
  | str z => cases h; exact .inl ⟨z, rfl, rfl⟩
  | _ =>
    all_goals
      simp only [itOf, seqIt] at h
      split at h
      · rename_i it' hit
        cases h
        split at hit
        · rename_i xs hv; cases hit; exact .inr ⟨_, _, .inl rfl, hv, rfl⟩
        · rename_i xs hv; cases hit; exact .inr ⟨_, _, .inr (.inl rfl), hv, rfl⟩
        · rename_i xs hv; cases hit; exact .inr ⟨_, _, .inr (.inr rfl), hv, rfl⟩
        · cases hit
      · cases h
/-- a walked value as a source -/
structure ScZ (T : Tb) (K : PySem.W.Frag) (R1 : Pl) (F1 : Hp) (u : V) (sc : Sc) (it : ItZ) : Prop where
  val : ScV sc u
  rd : ∀ (R : Pl) (F H : Hp) (S : Sto), R1.as <+: R.as → Ex F1 F → Rep T K R F S H → heldB it.held S = true → ∃ us, ScAt K H sc us ∧ RelL T K R F it.items us
theorem rel_signs {K : PySem.W.Frag} {R : Pl} {F : Hp} : ∀ cs : List Nat, RelL T K R F (cs.map fun c => .str ⟨#[c]⟩) (cs.map fun c => V.str ⟨#[c]⟩)
  | [] => .nil
  | c :: cs => .cons (by rw [Rel]) (rel_signs cs)
theorem scz_of {K : PySem.W.Frag} {R1 : Pl} {F1 H1 : Hp} {S1 S' : Sto} {x : PV} {u : V} {it : ItZ} (r1 : Rep T K R1 F1 S1 H1) (rx : Rel T K R1 F1 x u) (h : itOf x S1 = .ok it S') : ∃ sc, ScZ T K R1 F1 u sc it := by
  rcases itOf_ok h with ⟨z, rfl, rfl⟩ | ⟨k, xs, hk, hv, rfl⟩
  · have := rel_str rx; subst this
    exact ⟨.s z, rfl, fun R F H S p e r hh => ⟨_, rfl, rel_signs _⟩⟩
  · obtain ⟨a, us0, rfl, _, _⟩ := view_rel r1 rx hv
    rcases hk with hk | hk | hk
    · refine ⟨.l a, rfl, fun R F H S p e r hh => ?_⟩
      obtain ⟨b, us, eb, hs, hl⟩ := hold_view r1 rx hv p e r hh
      cases eb
      exact ⟨us, (shp_rd hs).1 (.inl hk), hl⟩
    · refine ⟨.l a, rfl, fun R F H S p e r hh => ?_⟩
      obtain ⟨b, us, eb, hs, hl⟩ := hold_view r1 rx hv p e r hh
      cases eb
      exact ⟨us, (shp_rd hs).1 (.inr hk), hl⟩
    · refine ⟨.t a, rfl, fun R F H S p e r hh => ?_⟩
      obtain ⟨b, us, eb, hs, hl⟩ := hold_view r1 rx hv p e r hh
      cases eb
      exact ⟨us, (shp_rd hs).2 hk, hl⟩
theorem heldB_app {a b : List (PV × Kd × List PV)} {S : Sto} (h : heldB (a ++ b) S = true) : heldB a S = true ∧ heldB b S = true :=
  ⟨heldB_of fun p hp => heldB_all h p (List.mem_append_left _ hp), heldB_of fun p hp => heldB_all h p (List.mem_append_right _ hp)⟩
theorem ji_zip {e e2 : Expr} {elts : List Expr} {kk : Nat} {tpos p pos : Pos} {ar : DA} (hm : X.mg "zip" = none) (ha : JA T X E [e, e2] ar) (hg : Gl X "zip" := by rfl) (hs : starEach [e, e2] X.env = (false, eval e X.env) :: starEach [e2] X.env := by rfl) (hpl : (backTo pos (starEach [e2] X.env)).any (·.1) = false := by rfl) :
    JI T X E (.Tuple elts kk tpos) (.Call (.Name "zip" p) [e, e2] [] pos) (dItA zipP ar) := by
  refine pi_imp (pi_zipG hm ha hg hs hpl) fun σ H Q h => seqI h fun xs S1 R1 F1 H1 us r1 rx h1 => ?_
  unfold zipP at h1
  split at h1
  · obtain ⟨u, w, rfl, rx1, rx2⟩ := rel2 rx
    split at h1
    · rename_i x y a S2 b S3 i1 i2
      obtain ⟨sc1, z1⟩ := scz_of r1 rx1 i1
      obtain ⟨sc2, z2⟩ := scz_of r1 rx2 i2
      have ok0 : ∀ {x : PV} {it : ItZ} {S' : Sto} {u : V}, Rel T X.K R1 F1 x u → itOf x S1 = .ok it S' → heldB it.held S1 = true := fun {x it S' u} rx h => by
        rcases itOf_ok h with ⟨z, rfl, rfl⟩ | ⟨k, xs, hk, hv, rfl⟩
        · exact heldB_nil S1
        · refine heldB_of fun p hp => ?_
          cases x with
          | ref n => rw [List.mem_singleton.mp hp]; exact hv
          | _ => cases hp
      obtain ⟨us1, q1, l1⟩ := z1.rd R1 F1 H1 S1 (List.prefix_refl _) (Ex.refl F1) r1 (ok0 rx1 i1)
      obtain ⟨us2, q2, l2⟩ := z2.rd R1 F1 H1 S1 (List.prefix_refl _) (Ex.refl F1) r1 (ok0 rx2 i2)
      refine ⟨sc1, sc2, u, w, us1, us2, rfl, z1.val, z2.val, q1, q2, h1 R1 F1 H1 _ (Pl.refl R1) (Ex.refl F1) r1 ⟨fun i R F H S hi p e r hh => ?_, fun R F H S p e r hh => ?_, fun i R F H H' S v hi p e r hh y => ?_⟩⟩
      · obtain ⟨h1, h2⟩ := heldB_app hh
        obtain ⟨xs1, c1, m1⟩ := z1.rd R F H S p e r h1
        obtain ⟨xs2, c2, m2⟩ := z2.rd R F H S p e r h2
        have hi : i < (zipZ a.items b.items).length := hi
        rw [zipZ_len, ← m1.length, ← m2.length] at hi
        exact (walk_zipG rfl).goes i H hi ⟨c1, c2⟩
      · obtain ⟨h1, h2⟩ := heldB_app hh
        obtain ⟨xs1, c1, m1⟩ := z1.rd R F H S p e r h1
        obtain ⟨xs2, c2, m2⟩ := z2.rd R F H S p e r h2
        show (ItzG X.K sc1 sc2).stop (zipZ a.items b.items).length H
        rw [zipZ_len, ← m1.length, ← m2.length]
        exact (walk_zipG rfl).stops H ⟨c1, c2⟩
      · obtain ⟨h1, h2⟩ := heldB_app hh
        obtain ⟨xs1, c1, m1⟩ := z1.rd R F H S p e r h1
        obtain ⟨xs2, c2, m2⟩ := z2.rd R F H S p e r h2
        have hi : i < (zipZ a.items b.items).length := hi
        rw [zipZ_len] at hi
        obtain ⟨T', y1, y2, ev, hn, eH, e1, e2⟩ := (walk_zipG (n := min xs1.length xs2.length) rfl).yields i H v H' (by rw [m1.length, m2.length]; exact hi) ⟨c1, c2⟩ y
        have ha : i < a.items.length := by omega
        have hb : i < b.items.length := by omega
        obtain ⟨w1, g1, g2⟩ := m1.get (List.getElem?_eq_getElem ha)
        obtain ⟨w2, g3, g4⟩ := m2.get (List.getElem?_eq_getElem hb)
        have e1 : xs1[i]? = some y1 := e1
        have e2 : xs2[i]? = some y2 := e2
        rw [g1] at e1; cases e1
        rw [g3] at e2; cases e2
        obtain ⟨F', e', r', rv⟩ := pair_yield r ev hn eH g2 g4
        exact ⟨F', _, e', r', zipZ_get _ _ i _ _ (List.getElem?_eq_getElem ha) (List.getElem?_eq_getElem hb), rv⟩
    · exact h1.elim
  · exact h1.elim
end
end Z
end
section
set_option Elab.async false
set_option linter.all false
set_option maxRecDepth 100000
set_option maxHeartbeats 1000000
/-! Z8: statements. -/
noncomputable section
namespace Z
open PySem PySem.Spec PyProof.Rows L2
open Evl (Ex)

def dSkip : DS := fun l S => .nx l S
def dSeq (a b : DS) : DS := fun l S => (a l S).seq b
def dExpr (d : DE) : DS := fun l S => (d l S).st l fun _ S1 => .nx l S1
def dRet (d : DE) : DS := fun l S => (d l S).st l fun v S1 => .ret v S1
def dRetN : DS := fun _ S => .ret .non S
def dIfS (c : DB) (a b : DS) : DS := fun l S => (c l S).st l fun k S1 => if k = true then a l S1 else b l S1
def dSet (i : Nat) (d : DE) : DS := fun l S => (d l S).st l fun v S1 => .nx (l.set i (some v)) S1
def dNever : DS := fun _ _ => .bad
def dBrk : DS := fun l S => .brk l S
def dCnt : DS := fun l S => .cnt l S
/-- a target of any kind -/
abbrev DG := PV → Loc → Sto → OutS
def onlyNx (o : OutS) : OutS := match o with
  | .nx l S => .nx l S
  | _ => .bad
def dAsg (d : DE) (g : DG) : DS := fun l S => (d l S).st l fun v S1 => onlyNx (g v l S1)
def gzN (i : Nat) : DG := fun v l S => .nx (l.set i (some v)) S
def gzL : List DG → List PV → Loc → Sto → OutS
  | [], [], l, S => .nx l S
  | g :: gs, x :: xs, l, S => (g x l S).seq fun l1 S1 => gzL gs xs l1 S1
  | _, _, _, _ => .bad
def gzT (gs : List DG) : DG := fun v l S => match v with
  | .nd .tup xs => gzL gs xs l S
  | _ => .bad
/-- o[i] = v -/
def putP (x i v : PV) (S : Sto) : Option Sto := match x with
  | .ref n => (match S[n]? with
    | some (some (.lst, xs)) => (match i with
      | .int k => (ixN xs.length k).map fun j => S.set n (some (.lst, xs.set j v))
      | _ => none)
    | _ => none)
  | _ => none
def gzI (o i : DE) : DG := fun v l S => (o l S).st l fun x S1 => (i l S1).st l fun y S2 => match putP x y v S2 with
  | some S3 => .nx l S3
  | none => .bad
def OkG (T : Tb) (K : PySem.W.Frag) (R : Pl) (F : Hp) (o : OutS) (Q : L2.St → Hp → Prop) : Prop := match o with
  | .nx l S => PostE T K R F l S Q
  | _ => False
def tG (T : Tb) (K : PySem.W.Frag) (d : DG) : TG := fun u σ H Q => ∃ R F l S x, Rep T K R F S H ∧ RelE T K R F l σ ∧ Rel T K R F x u ∧ OkG T K R F (d x l S) Q
def tGs (T : Tb) (K : PySem.W.Frag) (ds : List DG) : TGs := fun us σ H Q => ∃ R F l S xs, Rep T K R F S H ∧ RelE T K R F l σ ∧ RelL T K R F xs us ∧ OkG T K R F (gzL ds xs l S) Q
abbrev JGz (T : Tb) (X : Cx) (e : Expr) (d : DG) : Prop := PG X e (tG T X.K d)
abbrev JGzs (T : Tb) (X : Cx) (es : List Expr) (ds : List DG) : Prop := PGs X es (tGs T X.K ds)
theorem pg_imp {X : Cx} {e : Expr} {t t' : TG} (h : PG X e t) (i : ∀ v σ H Q, t' v σ H Q → t v σ H Q) : PG X e t' := ⟨fun pins s σ H v u Q I r q => h.run pins s σ H v u Q I r (i v σ H Q q)⟩
theorem pgs_imp {X : Cx} {e : List Expr} {t t' : TGs} (h : PGs X e t) (i : ∀ v σ H Q, t' v σ H Q → t v σ H Q) : PGs X e t' := ⟨fun pins s σ H v u Q I r q => h.run pins s σ H v u Q I r (i v σ H Q q)⟩
section
variable {T : Tb} {X : Cx} {E : XK} {pos : Pos} {x : Str} {e : Expr} {d : DE}
theorem OkG.mono {K : PySem.W.Frag} {R R1 : Pl} {F F1 : Hp} {o : OutS} {Q : L2.St → Hp → Prop} (p : Pl.le R R1) (x : Ex F F1) (h : OkG T K R F o Q) : OkG T K R1 F1 o Q := by
  cases o with
  | nx l S => exact PostE.mono p x h
  | _ => exact h.elim

/-! ### targets -/
theorem jgz_n (i : Nat) (hN : X.N.Nodup) (hi : X.N[i]? = some x := by rfl) (hx : L2.Loc X.env.scope x := by first | exact Or.inl rfl | exact Or.inr rfl) (hf : X.fn x = true ∨ X.env.scope.names.lookup x = some .local := by first | exact .inl rfl | exact .inr rfl) : JGz T X (.Name x pos) (gzN i) :=
  pg_imp (pg_name hN hi hx hf) fun u σ H Q ⟨R, F, l, S, y, r, e, ry, h⟩ => PostE.here r (e.set i ry) h
theorem jgzs_nil : JGzs T X [] [] := pgs_imp pgs_nil fun us σ H Q ⟨R, F, l, S, xs, r, e, rx, h⟩ => by
  cases xs with
  | nil => rw [RelL] at rx; exact ⟨rx, PostE.here r e h⟩
  | cons y ys => exact h.elim
theorem jgzs_cons {es : List Expr} {g : DG} {gs : List DG} (h1 : JGz T X e g) (h2 : JGzs T X es gs) (hs : (assignEach (e :: es) X.env).map (·.2) = assign e X.env :: (assignEach es X.env).map (·.2) := by rfl) : JGzs T X (e :: es) (g :: gs) :=
  pgs_imp (pgs_cons h1 h2 hs) fun us σ H Q ⟨R, F, l, S, xs, r, e, rx, h⟩ => by
    cases xs with
    | nil => exact h.elim
    | cons y ys =>
      rw [RelL] at rx
      obtain ⟨u, vs, rfl, r1, r2⟩ := rx
      refine ⟨u, vs, rfl, R, F, l, S, y, r, e, r1, ?_⟩
      have h : OkG T X.K R F ((g y l S).seq fun l1 S1 => gzL gs ys l1 S1) Q := h
      cases hg : g y l S with
      | nx l1 S1 =>
        rw [hg] at h
        exact fun R1 F1 H1 σ1 p ex r' e' => ⟨R1, F1, l1, S1, ys, r', e', r2.mono p ex, OkG.mono p ex h⟩
      | _ => rw [hg] at h; exact h.elim
theorem gzL_len : ∀ {gs : List DG} {xs : List PV} {l l' : Loc} {S S' : Sto}, gzL gs xs l S = .nx l' S' → xs.length = gs.length
  | [], [], _, _, _, _, _ => rfl
  | [], _ :: _, _, _, _, _, h => by cases h
  | _ :: _, [], _, _, _, _, h => by cases h
  | g :: gs, x :: xs, l, l', S, S', h => by
    have h : (g x l S).seq (fun l1 S1 => gzL gs xs l1 S1) = .nx l' S' := h
    cases hg : g x l S with
    | nx l1 S1 => rw [hg] at h; rw [List.length_cons, List.length_cons, gzL_len (gs := gs) h]
    | _ => rw [hg] at h; cases h
theorem jgz_t {es : List Expr} {k : Nat} {gs : List DG} (hc : X.calm = true) (h : JGzs T X es gs) (hn : (assignEach es X.env).length = gs.length := by rfl) (hst : (assignEach es X.env).findIdx? (·.1) = none := by rfl) : JGz T X (.Tuple es k pos) (gzT gs) :=
  pg_imp (pg_tup hc h hn hst) fun u σ H Q ⟨R, F, l, S, y, r, e, ry, h⟩ => by
    cases y with
    | nd kd xs =>
      cases kd with
      | tup =>
        rw [Rel] at ry
        obtain ⟨a, us, rfl, hs, hl⟩ := ry
        have h : OkG T X.K R F (gzL gs xs l S) Q := h
        refine ⟨a, us, rfl, SqT.of (r.ex _ _ hs), ?_, R, F, l, S, xs, r, e, hl, h⟩
        cases hg : gzL gs xs l S with
        | nx l1 S1 => rw [hl.length, gzL_len hg]
        | _ => rw [hg] at h; exact h.elim
      | _ => exact h.elim
    | _ => exact h.elim
theorem put_rel {K : PySem.W.Frag} {R : Pl} {F H : Hp} {S S' : Sto} (r : Rep T K R F S H) {o i v : PV} {ou iu vu : V} (ro : Rel T K R F o ou) (ri : Rel T K R F i iu) (rv : Rel T K R F v vu) (h : putP o i v S = some S') {Q : Hp → Prop} (hq : ∀ H', Rep T K R F S' H' → Q H') : rSetL ou iu vu H Q := by
  cases o with
  | ref n =>
    simp only [putP] at h
    split at h
    · rename_i xs hS
      cases i with
      | int k =>
        have := rel_int ri; subst this
        rw [Option.map_eq_some_iff] at h
        obtain ⟨j, h1, rfl⟩ := h
        rw [Rel] at ro
        obtain ⟨a, rfl, ha⟩ := ro
        obtain ⟨hf, us, hl, hx⟩ := r.live n a .lst xs ha hS
        have hl : H a = some (.lst us) := hl
        refine ⟨a, us, k, j, rfl, rfl, hl, by rw [hx.length]; exact h1, hq _ (r.put ha hf (k := .lst) (xs := xs.set j v) upd_same (RelL.set rv j hx))⟩
      | _ => simp at h
    · cases h
  | _ => cases h
theorem jgz_i {o i : Expr} {dO dI : DE} (ho : JE T X E o dO) (hi : JE T X E i dI)
    (ha : ∀ v, assign (.Subscript o i pos) X.env v = (do
      let ov ← holding [v] (eval o X.env)
      let iv ← holding [v, ov] (eval i X.env)
      standAt pos
      holding [v, ov, iv] (setItem ov iv v)
      release [v, ov, iv] []) := by intro _; rfl) : JGz T X (.Subscript o i pos) (gzI dO dI) :=
  pg_imp (pg_sub ho hi set_list ha) fun u σ H Q ⟨R, F, l, S, y, r, e, ry, h⟩ => by
    refine ⟨R, F, l, S, r, e, ?_⟩
    have h : OkG T X.K R F ((dO l S).st l fun x S1 => (dI l S1).st l fun z S2 => match putP x z y S2 with
      | some S3 => .nx l S3
      | none => .bad) Q := h
    cases hd : dO l S with
    | ok x S1 =>
      rw [hd] at h
      intro R1 F1 H1 u1 p ex r1 rx
      have h1 := OkG.mono p ex h
      refine ⟨R1, F1, l, S1, r1, e.mono p ex, ?_⟩
      have h1 : OkG T X.K R1 F1 ((dI l S1).st l fun z S2 => match putP x z y S2 with
        | some S3 => .nx l S3
        | none => .bad) Q := h1
      cases hd2 : dI l S1 with
      | ok z S2 =>
        rw [hd2] at h1
        intro R2 F2 H2 u2 p2 ex2 r2 rz
        have h2 := OkG.mono p2 ex2 h1
        have h2 : OkG T X.K R2 F2 (match putP x z y S2 with
          | some S3 => .nx l S3
          | none => .bad) Q := h2
        split at h2
        · rename_i S3 hp
          exact put_rel r2 (rx.mono p2 ex2) rz ((ry.mono p ex).mono p2 ex2) hp fun H' r' => PostE.here r' ((e.mono p ex).mono p2 ex2) h2
        · exact h2.elim
      | err x' S2 => rw [hd2] at h1; exact h1.elim
      | bad => rw [hd2] at h1; exact h1.elim
    | err x' S1 => rw [hd] at h; exact h.elim
    | bad => rw [hd] at h; exact h.elim

/-! ### statements -/
theorem st_v {K : PySem.W.Frag} {σ : L2.St} {H : Hp} {D : Ends} {k : PV → Sto → OutS} {C : VK} {R : Pl} {F : Hp} {l : Loc} {S : Sto} (r : Rep T K R F S H) (e : RelE T K R F l σ) (h : OkS T K R F ((d l S).st l k) D E)
    (hk : ∀ (x : PV) (S1 : Sto) (R1 : Pl) (F1 H1 : Hp) (u : V), Pl.le R R1 → Ex F F1 → Rep T K R1 F1 S1 H1 → Rel T K R1 F1 x u → RelE T K R1 F1 l σ → OkS T K R1 F1 (k x S1) D E → C u H1) : tV T K E d σ H C := by
  refine ⟨R, F, l, S, r, e, ?_⟩
  cases hd : d l S with
  | ok x S1 =>
    rw [hd] at h
    exact fun R1 F1 H1 u p x' r1 rx => hk x S1 R1 F1 H1 u p x' r1 rx (e.mono p x') (OkS.mono p x' h)
  | err e' S1 => rw [hd] at h; exact h
  | bad => rw [hd] at h; exact h
theorem st_t {K : PySem.W.Frag} {σ : L2.St} {H : Hp} {D : Ends} {c : DB} {k : Bool → Sto → OutS} {C : Bool → Hp → Prop} {R : Pl} {F : Hp} {l : Loc} {S : Sto} (r : Rep T K R F S H) (e : RelE T K R F l σ) (h : OkS T K R F ((c l S).st l k) D E)
    (hk : ∀ (x : Bool) (S1 : Sto) (R1 : Pl) (F1 H1 : Hp), Pl.le R R1 → Ex F F1 → Rep T K R1 F1 S1 H1 → RelE T K R1 F1 l σ → OkS T K R1 F1 (k x S1) D E → C x H1) : tT T K E c σ H C := by
  refine ⟨R, F, l, S, r, e, ?_⟩
  cases hd : c l S with
  | ok x S1 =>
    rw [hd] at h
    exact fun R1 F1 H1 p x' r1 => hk x S1 R1 F1 H1 p x' r1 (e.mono p x') (OkS.mono p x' h)
  | err e' S1 => rw [hd] at h; exact h
  | bad => rw [hd] at h; exact h
theorem js_expr (h : JE T X E e d) (hs : swapsWith e none pos.line X.env = pure false := by rfl) : JS T X E (.Expr e pos) (dExpr d) :=
  ps_imp (ps_expr h hs) fun D σ H ⟨R, F, l, S, r, e, h⟩ => st_v r e h fun x S1 R1 F1 H1 u p ex r1 rx e1 h1 => PostE.here r1 e1 h1
theorem js_ret (h : JE T X E e d) : JS T X E (.Return (some e) pos) (dRet d) :=
  ps_imp (ps_ret h) fun D σ H ⟨R, F, l, S, r, e, h⟩ => st_v r e h fun x S1 R1 F1 H1 u p ex r1 rx e1 h1 => PostV.here r1 rx h1
theorem js_retN : JS T X E (.Return none pos) dRetN :=
  ps_imp ps_retN fun D σ H ⟨R, F, l, S, r, e, h⟩ => PostV.here r (by rw [Rel]) h
theorem js_never {st : Stmt} : JS T X E st dNever := ps_imp ps_never fun D σ H ⟨R, F, l, S, r, e, h⟩ => h.elim
theorem js_brk : JS T X E (.Break pos) dBrk := ps_imp ps_break fun D σ H ⟨R, F, l, S, r, e, h⟩ => PostE.here r e h
theorem js_cnt : JS T X E (.Continue pos) dCnt := ps_imp ps_continue fun D σ H ⟨R, F, l, S, r, e, h⟩ => PostE.here r e h
theorem js_pass : JS T X E (.Pass pos) dSkip := ps_imp ps_pass fun D σ H ⟨R, F, l, S, r, e, h⟩ => PostE.here r e h
theorem js_doc {z : Str} {j pos pos'} : JS T X E (.Expr (.Constant (.str z) j pos) pos') dSkip := ps_imp ps_doc fun D σ H ⟨R, F, l, S, r, e, h⟩ => PostE.here r e h
theorem js_if {c : Expr} {a b : List Stmt} {dc : DB} {da db : DS} (hc : JT T X E c dc) (ha : JB T X E a da) (hb : JB T X E b db) : JS T X E (.If c a b pos) (dIfS dc da db) :=
  ps_imp (ps_if hc ha hb) fun D σ H ⟨R, F, l, S, r, e, h⟩ => st_t r e h fun x S1 R1 F1 H1 p ex r1 e1 h1 => by
    cases x with
    | true => exact ⟨R1, F1, l, S1, r1, e1, h1⟩
    | false => exact ⟨R1, F1, l, S1, r1, e1, h1⟩
theorem js_set (i : Nat) {pos' : Pos} (hN : X.N.Nodup) (he : JE T X E e d) (hi : X.N[i]? = some x := by rfl) (hx : L2.Loc X.env.scope x := by first | exact Or.inl rfl | exact Or.inr rfl) (hs : swapsWith e (some (.Name x pos')) pos.line X.env = pure false := by rfl) (hf : X.fn x = true ∨ X.env.scope.names.lookup x = some .local := by first | exact .inl rfl | exact .inr rfl) :
    JS T X E (.Assign [.Name x pos'] e pos) (dSet i d) :=
  ps_imp (ps_set hN hi hx he hs hf) fun D σ H ⟨R, F, l, S, r, e, h⟩ => st_v r e h fun x S1 R1 F1 H1 u p ex r1 rx e1 h1 => PostE.here r1 (e1.set i rx) h1
theorem js_asg {tg : Expr} {g : DG} (he : JE T X E e d) (hg : JGz T X tg g) (hs : swapsWithSole [tg] e pos.line X.env = pure false := by rfl) (hw : swappedStores [tg] e X.env = pure none := by rfl)
    (h1 : (assignEach [tg] X.env).map (·.2) = [assign tg X.env] := by rfl) : JS T X E (.Assign [tg] e pos) (dAsg d g) :=
  ps_imp (ps_asg he hg hs hw h1) fun D σ H ⟨R, F, l, S, r, e, h⟩ => st_v r e h fun x S1 R1 F1 H1 u p ex r1 rx e1 h1 => by
    refine ⟨R1, F1, l, S1, x, r1, e1, rx, ?_⟩
    have h1 : OkS T X.K R1 F1 (onlyNx (g x l S1)) D E := h1
    cases hg : g x l S1 with
    | nx l2 S2 => rw [hg] at h1; exact h1
    | _ => rw [hg] at h1; exact h1.elim
/-- a, b = x, y with plain local names -/
def dPar (i j : Nat) (ar : DA) : DS := fun l S => (ar l S).st l fun xs S1 => match xs with
  | [v, w] => .nx ((l.set i (some v)).set j (some w)) S1
  | _ => .bad
def dPar3 (i j k : Nat) (ar : DA) : DS := fun l S => (ar l S).st l fun xs S1 => match xs with
  | [u, v, w] => .nx (((l.set i (some u)).set j (some v)).set k (some w)) S1
  | _ => .bad
theorem st_l {K : PySem.W.Frag} {σ : L2.St} {H : Hp} {D : Ends} {ar : DA} {k : List PV → Sto → OutS} {C : List V → Hp → Prop} {R : Pl} {F : Hp} {l : Loc} {S : Sto} (r : Rep T K R F S H) (e : RelE T K R F l σ) (h : OkS T K R F ((ar l S).st l k) D E)
    (hk : ∀ (x : List PV) (S1 : Sto) (R1 : Pl) (F1 H1 : Hp) (u : List V), Pl.le R R1 → Ex F F1 → Rep T K R1 F1 S1 H1 → RelL T K R1 F1 x u → RelE T K R1 F1 l σ → OkS T K R1 F1 (k x S1) D E → C u H1) : tL T K E ar σ H C := by
  refine ⟨R, F, l, S, r, e, ?_⟩
  cases hd : ar l S with
  | ok x S1 =>
    rw [hd] at h
    exact fun R1 F1 H1 u p x' r1 rx => hk x S1 R1 F1 H1 u p x' r1 rx (e.mono p x') (OkS.mono p x' h)
  | err e' S1 => rw [hd] at h; exact h
  | bad => rw [hd] at h; exact h
theorem js_par (i j : Nat) {x y : Str} {a b : Expr} {ar : DA} {px py pt : Pos} {kt k2 pt2} (hc : X.calm = true) (hN : X.N.Nodup) (ha : JA T X E [a, b] ar) (hi : X.N[i]? = some x := by rfl) (hj : X.N[j]? = some y := by rfl) (hij : i ≠ j := by decide)
    (hx : X.env.scope.names.lookup x = some .local := by rfl) (hy : X.env.scope.names.lookup y = some .local := by rfl)
    (hw : swappedStores [.Tuple [.Name x px, .Name y py] kt pt] (.Tuple [a, b] k2 pt2) X.env = pure (some [x, y]) := by rfl)
    (hs : swapsWithSole [.Tuple [.Name x px, .Name y py] kt pt] (.Tuple [a, b] k2 pt2) pos.line X.env = pure false := by rfl) : JS T X E (.Assign [.Tuple [.Name x px, .Name y py] kt pt] (.Tuple [a, b] k2 pt2) pos) (dPar i j ar) :=
  ps_imp (ps_par hc hN hi hj hij hx hy ha hw hs) fun D σ H ⟨R, F, l, S, r, e, h⟩ => st_l r e h fun xs S1 R1 F1 H1 us p ex r1 rx e1 h1 => by
    split at h1
    · obtain ⟨v, w, rfl, r2, r3⟩ := rel2 rx
      exact ⟨v, w, rfl, PostE.here r1 ((e1.set i r2).set j r3) h1⟩
    · exact h1.elim
theorem js_par3 (i j k : Nat) {x y z : Str} {a b c : Expr} {ar : DA} {px py pz pt : Pos} {kt k2 pt2} (hc : X.calm = true) (hN : X.N.Nodup) (ha : JA T X E [a, b, c] ar) (hi : X.N[i]? = some x := by rfl) (hj : X.N[j]? = some y := by rfl) (hk : X.N[k]? = some z := by rfl) (hij : i ≠ j := by decide) (hik : i ≠ k := by decide) (hjk : j ≠ k := by decide)
    (hx : X.env.scope.names.lookup x = some .local := by rfl) (hy : X.env.scope.names.lookup y = some .local := by rfl) (hz : X.env.scope.names.lookup z = some .local := by rfl)
    (hw : swappedStores [.Tuple [.Name x px, .Name y py, .Name z pz] kt pt] (.Tuple [a, b, c] k2 pt2) X.env = pure (some [x, y, z]) := by rfl)
    (hs : swapsWithSole [.Tuple [.Name x px, .Name y py, .Name z pz] kt pt] (.Tuple [a, b, c] k2 pt2) pos.line X.env = pure false := by rfl) : JS T X E (.Assign [.Tuple [.Name x px, .Name y py, .Name z pz] kt pt] (.Tuple [a, b, c] k2 pt2) pos) (dPar3 i j k ar) :=
  ps_imp (ps_par3 hc hN hi hj hk hij hik hjk hx hy hz ha hw hs) fun D σ H ⟨R, F, l, S, r, e, h⟩ => st_l r e h fun xs S1 R1 F1 H1 us p ex r1 rx e1 h1 => by
    split at h1
    · rw [RelL] at rx
      obtain ⟨u, vs, rfl, r2, rx⟩ := rx
      obtain ⟨v, w, rfl, r3, r4⟩ := rel2 rx
      exact ⟨u, v, w, rfl, PostE.here r1 (((e1.set i r2).set j r3).set k r4) h1⟩
    · exact h1.elim
/-- name += e, ints -/
def dAug (f : PV → PV → Sto → Out PV) (i : Nat) (d : DE) : DS := fun l S => match l[i]? with
  | some (some x) => (d l S).st l fun y S1 => (f x y S1).st l fun z S2 => .nx (l.set i (some z)) S2
  | _ => .bad
def augP (x y : PV) (S : Sto) : Out PV := match x, y with
  | .int i, .int j => .ok (.int (i + j)) S
  | _, _ => .bad
theorem js_aug (i : Nat) {pos' : Pos} (hN : X.N.Nodup) (he : JE T X E e d) (hi : X.N[i]? = some x := by rfl) (hx : L2.Loc X.env.scope x := by first | exact Or.inl rfl | exact Or.inr rfl) (hf : X.fn x = true ∨ X.env.scope.names.lookup x = some .local := by first | exact .inl rfl | exact .inr rfl) : JS T X E (.AugAssign (.Name x pos') .Add e pos) (dAug augP i d) :=
  ps_imp (ps_aug hN hi hx he ip_add hf) fun D σ H ⟨R, F, l, S, r, e, h⟩ => by
    unfold dAug at h
    split at h
    · rename_i v hv
      obtain ⟨u, h1, h2⟩ := e.at_ i v hv
      refine ⟨u, h1, st_v r e h fun y S1 R1 F1 H1 w p ex r1 ry e1 k1 => ?_⟩
      have h2 := h2.mono p ex
      have k1 : OkS T X.K R1 F1 ((augP v y S1).st l fun z S2 => .nx (l.set i (some z)) S2) D E := k1
      cases v with
      | int a =>
        cases y with
        | int b =>
          have := rel_int h2; subst this
          have := rel_int ry; subst this
          exact ⟨a, b, rfl, rfl, PostE.here r1 (e1.set i (by rw [Rel])) k1⟩
        | _ => exact k1.elim
      | _ => exact k1.elim
    · exact h.elim

/-! ### blocks -/
theorem seq_s {K : PySem.W.Frag} {R : Pl} {F : Hp} {o : OutS} {k : Loc → Sto → OutS} {D : Ends} {b : DS} (hb : k = b) (h : OkS T K R F (o.seq k) D E) : OkS T K R F o { D with nx := tS T K E b D } E := by
  subst hb
  cases o with
  | nx l S => exact fun R1 F1 H1 σ p ex r e => ⟨R1, F1, l, S, r, e, OkS.mono p ex h⟩
  | ret v S => exact h
  | brk l S => exact h
  | cnt l S => exact h
  | err e l S => exact h
  | bad => exact h
theorem jb_nil : JB T X E [] dSkip := pss_imp pss_nil fun D σ H ⟨R, F, l, S, r, e, h⟩ => PostE.here r e h
theorem jb_one {st : Stmt} {ds : DS} (h : JS T X E st ds) : JB T X E [st] ds := pss_one h
theorem jb_cons {st : Stmt} {rest : List Stmt} {ds db : DS} (h : JS T X E st ds) (hr : JB T X E rest db) : JB T X E (st :: rest) (dSeq ds db) :=
  pss_imp (pss_cons h hr) fun D σ H ⟨R, F, l, S, r, e, h⟩ => ⟨R, F, l, S, r, e, seq_s rfl h⟩
theorem jb_never {sts : List Stmt} : JB T X E sts dNever := pss_imp pss_never fun D σ H ⟨R, F, l, S, r, e, h⟩ => h.elim

/-! ### for -/
def forZ (t : TgZ) (hs : List (PV × Kd × List PV)) (b : DS) : List PV → Loc → Sto → OutS
  | [], l, S => .nx l S
  | x :: xs, l, S => match asg t x with
    | none => .bad
    | some ps => match b (setZ l ps) S with
      | .nx l1 S1 => if heldB hs S1 = true then forZ t hs b xs l1 S1 else .bad
      | .cnt l1 S1 => if heldB hs S1 = true then forZ t hs b xs l1 S1 else .bad
      | .brk l1 S1 => .nx l1 S1
      | o => o
def dFor (di : DI) (t : TgZ) (b : DS) : DS := fun l S => (di l S).st l fun it S1 => if heldB it.held S1 = true then forZ t it.held b it.items l S1 else .bad
theorem js_for {tg iter : Expr} {body : List Stmt} {di : DI} {t : TgZ} {b : DS} (hp : PassesOwn (model X.prog X.w) X.A X.env X.xe) (hc : X.calm = true) (hi : JI T X E tg iter di) (hg : JG X tg t) (hb : JB T X E body b)
    (hs : ∀ x, foldedSetIterable iter X.env x = pure x := by intro _; rfl) : JS T X E (.For tg iter body [] pos) (dFor di t b) := by
  refine ps_imp (ps_for hp hc hi hg hb hs) fun D σ H ⟨R, F, l, S, r, e, h⟩ => ⟨R, F, l, S, r, e, ?_⟩
  unfold dFor at h
  cases hd : di l S with
  | bad => rw [hd] at h; exact h.elim
  | err x S1 => rw [hd] at h; exact h
  | ok it S1 =>
    rw [hd] at h
    intro R1 F1 H1 J p ex r1 wz
    have h : OkS T X.K R F (if heldB it.held S1 = true then forZ t it.held b it.items l S1 else .bad) D E := h
    split at h
    · rename_i hh
      refine ⟨fun i m σ' H' => m = it.items.length - i ∧ i ≤ it.items.length ∧ ∃ R2 F2 l2 S2, Pl.le R1 R2 ∧ Ex F1 F2 ∧ Rep T X.K R2 F2 S2 H' ∧ RelE T X.K R2 F2 l2 σ' ∧ heldB it.held S2 = true ∧ OkS T X.K R2 F2 (forZ t it.held b (it.items.drop i) l2 S2) D E,
        ⟨_, rfl, Nat.zero_le _, R1, F1, l, S1, Pl.refl R1, Ex.refl F1, r1, e.mono p ex, hh, OkS.mono p ex h⟩, ?_⟩
      rintro i m σ' H' ⟨rfl, hi, R2, F2, l2, S2, p2, ex2, r2, e2, hh2, h2⟩
      by_cases hlt : i < it.items.length
      · refine .inr ⟨wz.goes i R2 F2 H' S2 hlt p2.1 ex2 r2 hh2, fun σ3 H3 => i + 1 ≤ it.items.length ∧ ∃ R2 F2 l2 S2, Pl.le R1 R2 ∧ Ex F1 F2 ∧ Rep T X.K R2 F2 S2 H3 ∧ RelE T X.K R2 F2 l2 σ3 ∧ heldB it.held S2 = true ∧ OkS T X.K R2 F2 (forZ t it.held b (it.items.drop (i + 1)) l2 S2) D E,
          fun σ3 H3 ⟨q1, q2⟩ => ⟨it.items.length - (i + 1), by omega, rfl, q1, q2⟩, fun v H3 y => ?_⟩
        obtain ⟨F3, x, ex3, r3, hx, rv⟩ := wz.yields i R2 F2 H' H3 S2 v hlt p2.1 ex2 r2 hh2 y
        have hdr : it.items.drop i = x :: it.items.drop (i + 1) := by
          rw [List.drop_eq_getElem_cons hlt]
          rw [List.getElem?_eq_getElem hlt] at hx
          cases hx; rfl
        rw [hdr, forZ] at h2
        cases ha : asg t x with
        | none => rw [ha] at h2; exact h2.elim
        | some ps =>
          rw [ha] at h2
          refine gOf_ok r3 t x v l2 σ' ps _ (e2.mono (Pl.refl R2) ex3) rv ha fun qs _ e3 => ⟨R2, F3, setZ l2 ps, S2, r3, e3, ?_⟩
          have h3 := OkS.mono (Pl.refl R2) ex3 h2
          have h3 : OkS T X.K R2 F3 (match b (setZ l2 ps) S2 with
            | .nx l1 S1 => if heldB it.held S1 = true then forZ t it.held b (it.items.drop (i + 1)) l1 S1 else .bad
            | .cnt l1 S1 => if heldB it.held S1 = true then forZ t it.held b (it.items.drop (i + 1)) l1 S1 else .bad
            | .brk l1 S1 => .nx l1 S1
            | o => o) D E := h3
          cases hb2 : b (setZ l2 ps) S2 with
          | nx l4 S4 =>
            rw [hb2] at h3
            simp only at h3
            split at h3
            · rename_i hh4
              exact fun R4 F4 H4 σ4 p4 ex4 r4 e4 => ⟨hlt, R4, F4, l4, S4, p2.trans p4, (ex2.trans ex3).trans ex4, r4, e4, hh4, OkS.mono p4 ex4 h3⟩
            · exact h3.elim
          | cnt l4 S4 =>
            rw [hb2] at h3
            simp only at h3
            split at h3
            · rename_i hh4
              exact fun R4 F4 H4 σ4 p4 ex4 r4 e4 => ⟨hlt, R4, F4, l4, S4, p2.trans p4, (ex2.trans ex3).trans ex4, r4, e4, hh4, OkS.mono p4 ex4 h3⟩
            · exact h3.elim
          | brk l4 S4 => rw [hb2] at h3; exact h3
          | ret v4 S4 => rw [hb2] at h3; exact h3
          | err x4 l4 S4 => rw [hb2] at h3; exact h3
          | bad => rw [hb2] at h3; exact h3.elim
      · have e' : i = it.items.length := by omega
        subst e'
        rw [List.drop_length, forZ] at h2
        exact .inl ⟨wz.stops R2 F2 H' S2 p2.1 ex2 r2 hh2, PostE.here r2 e2 h2⟩
    · exact h.elim

/-! ### while -/
def whileN (c : DB) (b : DS) : Nat → Loc → Sto → OutS
  | 0, _, _ => .bad
  | n + 1, l, S => (c l S).st l fun k S1 => if k = true then (match b l S1 with
    | .nx l2 S2 => whileN c b n l2 S2
    | .cnt l2 S2 => whileN c b n l2 S2
    | .brk l2 S2 => .nx l2 S2
    | o => o) else .nx l S1
open Classical in
def dWhile (c : DB) (b : DS) : DS := fun l S => if h : ∃ n, whileN c b n l S ≠ .bad then whileN c b (Classical.choose h) l S else .bad
theorem whileN_mono {c : DB} {b : DS} : ∀ (n m : Nat) (l : Loc) (S : Sto), n ≤ m → whileN c b n l S ≠ .bad → whileN c b m l S = whileN c b n l S
  | 0, m, l, S, _, h => absurd rfl h
  | n + 1, 0, l, S, h, _ => absurd h (by omega)
  | n + 1, m + 1, l, S, hle, h => by
    rw [whileN] at h ⊢
    rw [whileN]
    cases hc : c l S with
    | bad => rw [hc] at h; exact absurd rfl h
    | err x S1 => rfl
    | ok k S1 =>
      rw [hc] at h
      simp only [Out.st] at h ⊢
      cases k with
      | false => rfl
      | true =>
        simp only [if_true] at h ⊢
        cases hb : b l S1 with
        | nx l2 S2 => rw [hb] at h; exact whileN_mono n m l2 S2 (by omega) h
        | cnt l2 S2 => rw [hb] at h; exact whileN_mono n m l2 S2 (by omega) h
        | _ => rfl
theorem dWhile_eq {c : DB} {b : DS} {n : Nat} {l : Loc} {S : Sto} (h : whileN c b n l S ≠ .bad) : dWhile c b l S = whileN c b n l S := by
  have hx : ∃ n, whileN c b n l S ≠ .bad := ⟨n, h⟩
  unfold dWhile
  rw [dif_pos hx]
  have h2 := Classical.choose_spec hx
  rcases Nat.le_total n (Classical.choose hx) with z | z
  · exact whileN_mono _ _ l S z h
  · exact (whileN_mono _ _ l S z h2).symm
theorem js_while {cond : Expr} {body : List Stmt} {c : DB} {b : DS} (hp : PassesOwn (model X.prog X.w) X.A X.env X.xe) (hc : JT T X E cond c) (hb : JB T X E body b) : JS T X E (.While cond body [] pos) (dWhile c b) := by
  refine ps_imp (ps_while hp hc hb) fun D σ H ⟨R, F, l, S, r, e, h⟩ => ?_
  by_cases hx : ∃ n, whileN c b n l S ≠ .bad
  · obtain ⟨n, hn⟩ := hx
    rw [dWhile_eq hn] at h
    refine ⟨fun m σ' H' => ∃ R2 F2 l2 S2, Rep T X.K R2 F2 S2 H' ∧ RelE T X.K R2 F2 l2 σ' ∧ OkS T X.K R2 F2 (whileN c b m l2 S2) D E, ⟨n, R, F, l, S, r, e, h⟩, ?_⟩
    rintro m σ' H' ⟨R2, F2, l2, S2, r2, e2, h2⟩
    cases m with
    | zero => exact h2.elim
    | succ m =>
      rw [whileN] at h2
      refine st_t r2 e2 h2 fun k S3 R3 F3 H3 p ex r3 e3 h3 => ?_
      cases k with
      | false => exact PostE.here r3 e3 h3
      | true =>
        simp only [if_true] at h3 ⊢
        refine ⟨fun σ4 H4 => ∃ R2 F2 l2 S2, Rep T X.K R2 F2 S2 H4 ∧ RelE T X.K R2 F2 l2 σ4 ∧ OkS T X.K R2 F2 (whileN c b m l2 S2) D E, fun σ4 H4 q => ⟨m, by omega, q⟩, R3, F3, l2, S3, r3, e3, ?_⟩
        cases hb2 : b l2 S3 with
        | nx l4 S4 =>
          rw [hb2] at h3
          exact fun R4 F4 H4 σ4 p4 ex4 r4 e4 => ⟨R4, F4, l4, S4, r4, e4, OkS.mono p4 ex4 h3⟩
        | cnt l4 S4 =>
          rw [hb2] at h3
          exact fun R4 F4 H4 σ4 p4 ex4 r4 e4 => ⟨R4, F4, l4, S4, r4, e4, OkS.mono p4 ex4 h3⟩
        | brk l4 S4 => rw [hb2] at h3; exact h3
        | ret v4 S4 => rw [hb2] at h3; exact h3
        | err x4 l4 S4 => rw [hb2] at h3; exact h3
        | bad => rw [hb2] at h3; exact h3.elim
  · unfold dWhile at h
    rw [dif_neg hx] at h
    exact h.elim
end
end Z
end
end
section
set_option Elab.async false
set_option linter.all false
set_option maxRecDepth 100000
set_option maxHeartbeats 1000000
/-! Z9: list comprehensions. -/
noncomputable section
namespace Z
open PySem PySem.Spec PyProof.Rows L2
open Evl (Ex)

section
variable {T : Tb} {K : PySem.W.Frag} {as as' : List Addr} {hid hid' : List (Addr × HO)} {F F' : Hp}
theorem RelL.sh {xs : List PV} {us : List V} (h : RelL T K ⟨as, hid⟩ F xs us) (p : as <+: as') (e : Ex F F') : RelL T K ⟨as', hid'⟩ F' xs us := RelL.mono0 (R := ⟨as, hid⟩) (R' := ⟨as', hid'⟩) p e xs us h
theorem Rel.sh {x : PV} {u : V} (h : Rel T K ⟨as, hid⟩ F x u) (p : as <+: as') (e : Ex F F') : Rel T K ⟨as', hid'⟩ F' x u := Rel.mono0 (R := ⟨as, hid⟩) (R' := ⟨as', hid'⟩) p e x u h
end
section
variable {T : Tb} {K : PySem.W.Frag} {as : List Addr} {hid : List (Addr × HO)} {R : Pl} {F H : Hp} {S : Sto} {D : Addr} {o o' : HO}
theorem Rep.hide (r : Rep T K R F S H) (hD : H D = none) : Rep T K ⟨R.as, (D, o) :: R.hid⟩ F S (upd H D o) where
  ex := fun a u e => by
    have h : a ≠ D := fun z => by rw [z, r.fnone hD] at e; cases e
    rw [upd_ne h]; exact r.ex a u e
  len := r.len
  nd := r.nd
  there := fun a ha => by
    have h : a ≠ D := fun z => r.there a ha (by rw [z]; exact hD)
    rw [upd_ne h]; exact r.there a ha
  hidnd := by
    show ((D, o).1 :: R.hid.map Prod.fst).Nodup
    rw [List.nodup_cons]
    refine ⟨fun z => ?_, r.hidnd⟩
    obtain ⟨q, hq, e⟩ := List.mem_map.mp z
    have := (r.hid q hq).1
    rw [e, hD] at this
    cases this
  hid := fun q hq => by
    rcases List.mem_cons.mp hq with e | hq
    · subst e
      exact ⟨upd_same, fun z => r.there D z hD, r.fnone hD⟩
    · obtain ⟨h1, h2, h3⟩ := r.hid q hq
      have ne : q.1 ≠ D := fun z => by rw [z, hD] at h1; cases h1
      exact ⟨by rw [upd_ne ne]; exact h1, h2, h3⟩
  live := fun n a k xs h1 h2 => by
    obtain ⟨h3, us, h4, h5⟩ := r.live n a k xs h1 h2
    have ne : a ≠ D := fun z => h4.there (by rw [z]; exact hD)
    exact ⟨h3, us, h4.upd ne, h5.sh (List.prefix_refl _) (Ex.refl F)⟩
theorem Rep.rehide (r : Rep T K ⟨as, (D, o) :: hid⟩ F S H) : Rep T K ⟨as, (D, o') :: hid⟩ F S (upd H D o') := by
  obtain ⟨d1, d2, d3⟩ := r.hid (D, o) List.mem_cons_self
  have hnd : D ∉ hid.map Prod.fst := by have := r.hidnd; exact (List.nodup_cons.mp this).1
  exact {
    ex := fun a u e => by
      have h : a ≠ D := fun z => by
        have d3 : F D = none := d3
        rw [z, d3] at e; cases e
      rw [upd_ne h]; exact r.ex a u e
    len := r.len
    nd := r.nd
    there := fun a ha => by
      have h : a ≠ D := fun z => d2 (by rw [← z]; exact ha)
      rw [upd_ne h]; exact r.there a ha
    hidnd := r.hidnd
    hid := fun q hq => by
      rcases List.mem_cons.mp hq with e | hq
      · subst e
        exact ⟨upd_same, d2, d3⟩
      · obtain ⟨h1, h2, h3⟩ := r.hid q (List.mem_cons_of_mem _ hq)
        have ne : q.1 ≠ D := fun z => hnd (List.mem_map.mpr ⟨q, hq, z⟩)
        exact ⟨by rw [upd_ne ne]; exact h1, h2, h3⟩
    live := fun n a k xs h1 h2 => by
      obtain ⟨h3, us, h4, h5⟩ := r.live n a k xs h1 h2
      have ne : a ≠ D := fun z => d2 (by
        have h1 : as[n]? = some a := h1
        rw [← z]; exact List.mem_of_getElem? h1)
      exact ⟨h3, us, h4.upd ne, h5.sh (List.prefix_refl _) (Ex.refl F)⟩ }
/-- held no longer: from now on it never changes any more -/
theorem Rep.bare (r : Rep T K ⟨as, (D, o) :: hid⟩ F S H) : Ex F (upd F D o) ∧ Rep T K ⟨as, hid⟩ (upd F D o) S H := by
  obtain ⟨d1, d2, d3⟩ := r.hid (D, o) List.mem_cons_self
  have hnd : D ∉ hid.map Prod.fst := by have := r.hidnd; exact (List.nodup_cons.mp this).1
  have d3 : F D = none := d3
  refine ⟨ex_upd d3, {
    ex := fun a u e => by
      by_cases h : a = D
      · subst h; rw [upd_same] at e; cases e; exact d1
      · rw [upd_ne h] at e; exact r.ex a u e
    len := r.len
    nd := r.nd
    there := r.there
    hidnd := (List.nodup_cons.mp r.hidnd).2
    hid := fun q hq => by
      obtain ⟨h1, h2, h3⟩ := r.hid q (List.mem_cons_of_mem _ hq)
      have ne : q.1 ≠ D := fun z => hnd (List.mem_map.mpr ⟨q, hq, z⟩)
      exact ⟨h1, h2, by rw [upd_ne ne]; exact h3⟩
    live := fun n a k xs h1 h2 => by
      obtain ⟨h3, us, h4, h5⟩ := r.live n a k xs h1 h2
      have ne : a ≠ D := fun z => d2 (by
        have h1 : as[n]? = some a := h1
        rw [← z]; exact List.mem_of_getElem? h1)
      exact ⟨by rw [upd_ne ne]; exact h3, us, h4, h5.sh (List.prefix_refl _) (ex_upd d3)⟩ }⟩
/-- .. or it becomes a place -/
theorem Rep.bareM {us : List V} {xs : List PV} (r : Rep T K ⟨as, (D, .lst us) :: hid⟩ F S H) (hx : RelL T K ⟨as, hid⟩ F xs us) : Rep T K ⟨as ++ [D], hid⟩ F (S ++ [some (.lst, xs)]) H := by
  obtain ⟨d1, d2, d3⟩ := r.hid (D, .lst us) List.mem_cons_self
  have hnd : D ∉ hid.map Prod.fst := by have := r.hidnd; exact (List.nodup_cons.mp this).1
  have d1 : H D = some (.lst us) := d1
  have d3 : F D = none := d3
  have d2 : D ∉ as := d2
  have hlen : as.length = S.length := r.len
  exact {
    ex := r.ex
    len := by
      show (as ++ [D]).length = _
      rw [List.length_append, List.length_append, hlen]; rfl
    nd := by
      show (as ++ [D]).Nodup
      rw [List.nodup_append]
      exact ⟨r.nd, by simp, fun a ha b hb => by rw [List.mem_singleton.mp hb]; exact fun z => d2 (by rw [← z]; exact ha)⟩
    there := fun a ha => by
      rcases List.mem_append.mp ha with z | z
      · exact r.there a z
      · rw [List.mem_singleton.mp z, d1]; exact fun z => by cases z
    hidnd := (List.nodup_cons.mp r.hidnd).2
    hid := fun q hq => by
      obtain ⟨h1, h2, h3⟩ := r.hid q (List.mem_cons_of_mem _ hq)
      exact ⟨h1, fun z => (List.mem_append.mp z).elim h2 fun z => hnd (List.mem_map.mpr ⟨q, hq, List.mem_singleton.mp z⟩), h3⟩
    live := fun n a k xs' h1 h2 => by
      have h1 : (as ++ [D])[n]? = some a := h1
      by_cases hlt : n < as.length
      · rw [List.getElem?_append_left hlt] at h1
        rw [List.getElem?_append_left (by rw [← hlen]; exact hlt)] at h2
        obtain ⟨h3, us', h4, h5⟩ := r.live n a k xs' h1 h2
        exact ⟨h3, us', h4, h5.sh (List.prefix_append _ _) (Ex.refl F)⟩
      · have hge : as.length ≤ n := Nat.le_of_not_lt hlt
        rw [List.getElem?_append_right hge] at h1
        rw [List.getElem?_append_right (by rw [← hlen]; exact hge)] at h2
        have e0 : n - as.length = 0 := by
          by_cases z : n - as.length = 0
          · exact z
          · rw [List.getElem?_eq_none (by simp; omega)] at h1; cases h1
        have e1 : n - S.length = 0 := by rw [← hlen]; exact e0
        rw [e0] at h1
        rw [e1] at h2
        cases h1; cases h2
        exact ⟨d3, us, d1, hx.sh (List.prefix_append _ _) (Ex.refl F)⟩ }
end

/-! ### slots wiped -/
theorem wipe_get (σ : L2.St) : ∀ (vs : List Nat) (j : Nat), (wipe σ vs)[j]? = if j ∈ vs then (if j < σ.length then some none else none) else σ[j]?
  | [], j => by simp [wipe]
  | v :: vs, j => by
    unfold wipe
    rw [List.getElem?_set, wipe_length, wipe_get σ vs j]
    by_cases h : v = j
    · subst h
      simp
    · have h' : ¬ j = v := fun z => h z.symm
      simp [h, h']
theorem wipeZ_length (l : Loc) : ∀ vs : List Nat, (wipeZ l vs).length = l.length
  | [] => rfl
  | v :: vs => by unfold wipeZ; rw [List.length_set, wipeZ_length l vs]
theorem wipeZ_get (l : Loc) : ∀ (vs : List Nat) (j : Nat), (wipeZ l vs)[j]? = if j ∈ vs then (if j < l.length then some none else none) else l[j]?
  | [], j => by simp [wipeZ]
  | v :: vs, j => by
    unfold wipeZ
    rw [List.getElem?_set, wipeZ_length, wipeZ_get l vs j]
    by_cases h : v = j
    · subst h
      simp
    · have h' : ¬ j = v := fun z => h z.symm
      simp [h, h']
theorem wipe_set {σ : L2.St} {vs : List Nat} {i : Nat} {x : Option V} (h : i ∈ vs) : wipe (σ.set i x) vs = wipe σ vs := by
  apply List.ext_getElem?
  intro j
  rw [wipe_get, wipe_get, List.length_set]
  by_cases hj : j ∈ vs
  · rw [if_pos hj, if_pos hj]
  · rw [if_neg hj, if_neg hj, List.getElem?_set_ne (fun z => hj (by rw [← z]; exact h))]
theorem wipe_idem {σ : L2.St} {vs : List Nat} : wipe (wipe σ vs) vs = wipe σ vs := by
  apply List.ext_getElem?
  intro j
  rw [wipe_get, wipe_get, wipe_length]
  by_cases hj : j ∈ vs
  · rw [if_pos hj, if_pos hj]
  · rw [if_neg hj, if_neg hj]
theorem wipe_setV {vs : List Nat} : ∀ {qs : List (Nat × V)} {σ : L2.St}, (∀ q ∈ qs, q.1 ∈ vs) → wipe (setV σ qs) vs = wipe σ vs
  | [], σ, _ => rfl
  | q :: qs, σ, h => by
    show wipe (setV (σ.set q.1 (some q.2)) qs) vs = _
    rw [wipe_setV fun p hp => h p (List.mem_cons_of_mem _ hp), wipe_set (h q List.mem_cons_self)]
section
variable {T : Tb} {K : PySem.W.Frag} {R R' : Pl} {F F' : Hp} {l : Loc} {σ : L2.St}
theorem RelE.wipe (h : RelE T K R F l σ) (vs : List Nat) : RelE T K R F (wipeZ l vs) (L2.wipe σ vs) := by
  refine ⟨by rw [wipeZ_length, wipe_length]; exact h.len, fun i v e => ?_⟩
  rw [wipeZ_get] at e
  by_cases hi : i ∈ vs
  · rw [if_pos hi] at e
    split at e <;> cases e
  · rw [if_neg hi] at e
    obtain ⟨u, h1, h2⟩ := h.at_ i v e
    exact ⟨u, by rw [wipe_get, if_neg hi]; exact h1, h2⟩
theorem RelE.mono0 (p : R.as <+: R'.as) (e : Ex F F') (h : RelE T K R F l σ) : RelE T K R' F' l σ :=
  ⟨h.len, fun i v q => let ⟨u, h1, h2⟩ := h.at_ i v q; ⟨u, h1, h2.mono0 p e⟩⟩
end

/-! ### [elt for target in iter if test] -/
def dYes : DB := fun _ S => .ok true S
def lcZ (t : TgZ) (hs : List (PV × Kd × List PV)) (c : DB) (el : DE) (l : Loc) : List PV → Sto → Out (List PV)
  | [], S => .ok [] S
  | x :: xs, S => match asg t x with
    | none => .bad
    | some ps => match c (setZ l ps) S with
      | .ok true S1 => (match el (setZ l ps) S1 with
        | .ok v S2 => if heldB hs S2 = true then (lcZ t hs c el l xs S2).bind fun r S3 => .ok (v :: r) S3 else .bad
        | _ => .bad)
      | .ok false S1 => if heldB hs S1 = true then lcZ t hs c el l xs S1 else .bad
      | _ => .bad
def dLc0 (vs : List Nat) (di : DI) (t : TgZ) (c : DB) (el : DE) : DA := fun l S => (di l S).bind fun it S1 => if heldB it.held S1 = true ∧ it.items.length ≤ 16777216 then lcZ t it.held c el (wipeZ l vs) it.items S1 else .bad
def dLc (vs : List Nat) (di : DI) (t : TgZ) (c : DB) (el : DE) : DE := fun l S => (dLc0 vs di t c el l S).bind fun xs S1 => .ok (.nd .lst xs) S1
def dLcM (vs : List Nat) (di : DI) (t : TgZ) (c : DB) (el : DE) : DE := fun l S => (dLc0 vs di t c el l S).bind fun xs S1 => .ok (.ref S1.length) (S1 ++ [some (.lst, xs)])
abbrev E00 : XK := fun _ _ _ => False
section
variable {T : Tb} {X : Cx} {E : XK} {pos : Pos} {elt tg iter : Expr} {ifs : List Expr} {scope : Scope} {own : List (Str × Nat)} {di : DI} {t : TgZ} {c : DB} {el : DE}
abbrev JTs (T : Tb) (X : Cx) (E : XK) (es : List Expr) (d : DB) : Prop := PTs X es (tT T X.K E d)
theorem jts_nil : JTs T X E [] dYes := ⟨fun pins s σ H Q I ⟨R, F, l, S, r, e, h⟩ => pts_nil.run pins s σ H Q I (PostB.here r h)⟩
theorem jts_one {e : Expr} (h : JT T X E e c) : JTs T X E [e] c := pts_one h
/-- what the list is to be at the end: a value that stays, or a place -/
def Fin (T : Tb) (K : PySem.W.Frag) (as : List Addr) (hid : List (Addr × HO)) (F : Hp) (D : Addr) (Q : VK) (xs : List PV) (S : Sto) : Prop :=
  ∀ as' F' H us, as <+: as' → Ex F F' → Rep T K ⟨as', (D, .lst us) :: hid⟩ F' S H → RelL T K ⟨as', hid⟩ F' xs us → Q (.ref D) H
theorem lc_ok {K : PySem.W.Frag} {vs : List Nat} (hvs : ∀ i ∈ t.slots, i ∈ vs) {σ : L2.St} {H1 : Hp} {Q : VK} {R1 : Pl} {F1 : Hp} {l : Loc} {S1 : Sto} {J : It} {it : ItZ} {D : Addr} (r1 : Rep T K R1 F1 S1 H1) (e1 : RelE T K R1 F1 l σ) (wz : WalkZ T K J R1 F1 it) (hh : heldB it.held S1 = true) (hsz : it.items.length ≤ 16777216)
    {xs : List PV} {S9 : Sto} (hl : lcZ t it.held c el (wipeZ l vs) it.items S1 = .ok xs S9) (hq : Fin T K R1.as R1.hid F1 D Q xs S9) (hD : H1 D = none) :
    ∃ W : Nat → Nat → Hp → Prop, (∃ m, W 0 m (upd H1 D (.lst []))) ∧ ∀ i m H, W i m H →
      (J.stop i H ∧ Q (.ref D) H) ∨ (J.go i H ∧ ∃ Nx : Hp → Prop, (∀ H', Nx H' → ∃ m', m' < m ∧ W (i + 1) m' H') ∧ ∀ x H', J.yld i H x H' → gOf K t x (wipe σ vs) H' fun σ2 H2 => wipe σ2 vs = wipe σ vs ∧ tT T K E00 c σ2 H2 fun b H3 =>
        if b = true then tV T K E00 el σ2 H3 fun y H4 => ∃ acc, H4 D = some (.lst acc) ∧ acc.length < sizeLine ∧ Nx (upd H4 D (.lst (acc ++ [y]))) else Nx H3) := by
  let Inn : Nat → Hp → Prop := fun i H' => ∃ as2 F2 S2 acc us rest, R1.as <+: as2 ∧ Ex F1 F2 ∧ Rep T K ⟨as2, (D, .lst us) :: R1.hid⟩ F2 S2 H' ∧ RelL T K ⟨as2, R1.hid⟩ F2 acc us ∧ heldB it.held S2 = true ∧ acc.length ≤ i ∧ lcZ t it.held c el (wipeZ l vs) (it.items.drop i) S2 = .ok rest S9 ∧ xs = acc ++ rest
  refine ⟨fun i m H' => m = it.items.length - i ∧ i ≤ it.items.length ∧ Inn i H', ⟨_, rfl, Nat.zero_le _, R1.as, F1, S1, [], [], xs, List.prefix_refl _, Ex.refl F1, r1.hide hD, .nil, hh, Nat.le_refl _, hl, rfl⟩, ?_⟩
  rintro i m H' ⟨rfl, hi, as2, F2, S2, acc, us, rest, p2, ex2, r2, ra, hh2, hacc, hr, exs⟩
  by_cases hlt : i < it.items.length
  · refine .inr ⟨wz.goes i _ F2 H' S2 hlt p2 ex2 r2 hh2, fun H3 => i + 1 ≤ it.items.length ∧ Inn (i + 1) H3, fun H3 ⟨q1, q2⟩ => ⟨it.items.length - (i + 1), by omega, rfl, q1, q2⟩, fun v H3 y => ?_⟩
    obtain ⟨F3, x, ex3, r3, hx, rv⟩ := wz.yields i _ F2 H' H3 S2 v hlt p2 ex2 r2 hh2 y
    have hdr : it.items.drop i = x :: it.items.drop (i + 1) := by
      rw [List.drop_eq_getElem_cons hlt]
      rw [List.getElem?_eq_getElem hlt] at hx
      cases hx; rfl
    rw [hdr, lcZ] at hr
    cases ha : asg t x with
    | none => rw [ha] at hr; cases hr
    | some ps =>
      rw [ha] at hr
      simp only at hr
      have e3 : RelE T K ⟨as2, (D, .lst us) :: R1.hid⟩ F3 (wipeZ l vs) (wipe σ vs) := (e1.wipe vs).mono0 p2 (ex2.trans ex3)
      refine gOf_ok r3 t x v (wipeZ l vs) (wipe σ vs) ps _ e3 rv ha fun qs hqs e4 => ⟨by rw [wipe_setV (fun q hq' => hvs q.1 (hqs q hq')), wipe_idem], ⟨_, F3, setZ (wipeZ l vs) ps, S2, r3, e4, ?_⟩⟩
      cases hc : c (setZ (wipeZ l vs) ps) S2 with
      | bad => rw [hc] at hr; cases hr
      | err z S3 => rw [hc] at hr; cases hr
      | ok b S4 =>
        rw [hc] at hr
        intro R5 F5 H5 p5 ex5 r5
        obtain ⟨as5, hid5⟩ := R5
        obtain ⟨p5a, p5b⟩ := p5
        have p5b : hid5 = (D, .lst us) :: R1.hid := p5b
        have p5a : as2 <+: as5 := p5a
        subst p5b
        cases b with
        | false =>
          simp only at hr
          split at hr
          · rename_i hh5
            exact ⟨hlt, as5, F5, S4, acc, us, rest, p2.trans p5a, (ex2.trans ex3).trans ex5, r5, ra.sh p5a (ex3.trans ex5), hh5, by omega, hr, exs⟩
          · cases hr
        | true =>
          simp only [if_true] at hr ⊢
          refine ⟨_, F5, setZ (wipeZ l vs) ps, S4, r5, e4.mono0 p5a ex5, ?_⟩
          cases hel : el (setZ (wipeZ l vs) ps) S4 with
          | bad => rw [hel] at hr; cases hr
          | err z S3 => rw [hel] at hr; cases hr
          | ok w S6 =>
            rw [hel] at hr
            simp only at hr
            intro R7 F7 H7 u7 p7 ex7 r7 rw7
            obtain ⟨as7, hid7⟩ := R7
            obtain ⟨p7a, p7b⟩ := p7
            have p7b : hid7 = (D, .lst us) :: R1.hid := p7b
            have p7a : as5 <+: as7 := p7a
            subst p7b
            split at hr
            · rename_i hh7
              have d7 := (r7.hid (D, .lst us) List.mem_cons_self).1
              have lus : us.length = acc.length := ra.length
              refine ⟨us, d7, by rw [sizeLine_eq, lus]; omega, hlt, ?_⟩
              cases hrest : lcZ t it.held c el (wipeZ l vs) (it.items.drop (i + 1)) S6 with
              | bad => rw [hrest] at hr; cases hr
              | err z S3 => rw [hrest] at hr; cases hr
              | ok rest' S8 =>
                rw [hrest] at hr
                cases hr
                refine ⟨as7, F7, S6, acc ++ [w], us ++ [u7], rest', (p2.trans p5a).trans p7a, ((ex2.trans ex3).trans ex5).trans ex7, r7.rehide, ?_, hh7, ?_, hrest, ?_⟩
                · exact (ra.sh (p5a.trans p7a) ((ex3.trans ex5).trans ex7)).append (.cons (rw7.sh (List.prefix_refl _) (Ex.refl F7)) .nil)
                · rw [List.length_append, List.length_singleton]; omega
                · rw [exs, List.append_assoc]; rfl
            · cases hr
  · have e' : i = it.items.length := by omega
    subst e'
    rw [List.drop_length, lcZ] at hr
    cases hr
    rw [List.append_nil] at exs
    subst exs
    exact .inl ⟨wz.stops _ F2 H' S9 p2 ex2 r2 hh2, hq as2 F2 H' us p2 ex2 r2 ra⟩
/-- the reading of a comprehension -/
theorem lc_t {vs : List Nat} (hvs : ∀ i ∈ t.slots, i ∈ vs) {k : List PV → Sto → Out PV} {σ : L2.St} {H : Hp} {Q : VK} (h : tV T X.K E (fun l S => (dLc0 vs di t c el l S).bind k) σ H Q)
    (hk : ∀ (xs : List PV) (S : Sto) (R : Pl) (F : Hp) (D : Addr), OkV T X.K R F (k xs S) Q E → Fin T X.K R.as R.hid F D Q xs S) : tLc (tI T X.K E di) (gOf X.K t) (tT T X.K E00 c) (tV T X.K E00 el) vs σ H Q := by
  obtain ⟨R, F, l, S, r, e, h⟩ := h
  refine ⟨R, F, l, S, r, e, ?_⟩
  have h : OkV T X.K R F (((di l S).bind fun it S1 => if heldB it.held S1 = true ∧ it.items.length ≤ 16777216 then lcZ t it.held c el (wipeZ l vs) it.items S1 else .bad).bind k) Q E := h
  cases hd : di l S with
  | bad => rw [hd] at h; exact h.elim
  | err x S1 => rw [hd] at h; exact h
  | ok it S1 =>
    rw [hd] at h
    intro R1 F1 H1 J p ex r1 wz D hD
    have h : OkV T X.K R F ((if heldB it.held S1 = true ∧ it.items.length ≤ 16777216 then lcZ t it.held c el (wipeZ l vs) it.items S1 else .bad).bind k) Q E := h
    split at h
    · rename_i hh
      cases hl : lcZ t it.held c el (wipeZ l vs) it.items S1 with
      | ok xs S9 =>
        rw [hl] at h
        exact lc_ok hvs r1 (e.mono p ex) wz hh.1 hh.2 hl (hk xs S9 R1 F1 D (OkV.mono p ex h)) hD
      | err z S9 =>
        exfalso
        have noerr : ∀ (ys : List PV) (S : Sto) (z : XV) (S' : Sto), lcZ t it.held c el (wipeZ l vs) ys S ≠ .err z S' := by
          intro ys
          induction ys with
          | nil => intro S z S' q; cases q
          | cons y ys ih =>
            intro S z S' q
            rw [lcZ] at q
            split at q
            · cases q
            · split at q
              · split at q
                · split at q
                  · rename_i v S2 _ _
                    cases hh : lcZ t it.held c el (wipeZ l vs) ys S2 with
                    | err z' S3 => exact ih S2 z' S3 hh
                    | ok _ _ => rw [hh] at q; cases q
                    | bad => rw [hh] at q; cases q
                  · cases q
                · cases q
              · split at q
                · exact ih _ _ _ q
                · cases q
              · cases q
        exact noerr _ _ _ _ hl
      | bad => rw [hl] at h; exact h.elim
    · exact h.elim
theorem fin_nd {K : PySem.W.Frag} {xs : List PV} {S : Sto} {R : Pl} {F : Hp} {D : Addr} {Q : VK} (h : OkV T K R F (.ok (.nd .lst xs) S) Q E) : Fin T K R.as R.hid F D Q xs S := by
  intro as' F' H us p ex r rx
  obtain ⟨e1, r1⟩ := r.bare
  refine h ⟨as', R.hid⟩ _ H _ ⟨p, rfl⟩ (ex.trans e1) r1 ?_
  rw [Rel]
  exact ⟨D, us, rfl, upd_same, rx.sh (List.prefix_refl _) e1⟩
theorem fin_rf {K : PySem.W.Frag} {xs : List PV} {S : Sto} {R : Pl} {F : Hp} {D : Addr} {Q : VK} (h : OkV T K R F (.ok (.ref S.length) (S ++ [some (.lst, xs)])) Q E) : Fin T K R.as R.hid F D Q xs S := by
  intro as' F' H us p ex r rx
  refine h ⟨as' ++ [D], R.hid⟩ F' H _ ⟨p.trans (List.prefix_append _ _), rfl⟩ ex (r.bareM rx) ?_
  rw [Rel]
  have hlen : as'.length = S.length := r.len
  exact ⟨D, rfl, by show (as' ++ [D])[S.length]? = _; rw [← hlen, List.getElem?_append_right (Nat.le_refl _)]; simp⟩
/-- the block's derivations, in every block of this def -/
structure Blk (T : Tb) (X : Cx) (scope : Scope) (tg : Expr) (ifs : List Expr) (elt : Expr) (t : TgZ) (c : DB) (el : DE) : Prop where
  tg : ∀ (s : Shared) (H : Hp) (C : Addr) (cl : List (Str × Addr)) (fp : List Addr), JG (X.blk s H scope (compEnvC scope cl C X.env) fp) tg t
  ts : ∀ (s : Shared) (H : Hp) (C : Addr) (cl : List (Str × Addr)) (fp : List Addr), JTs T (X.blk s H scope (compEnvC scope cl C X.env) fp) E00 ifs c
  el : ∀ (s : Shared) (H : Hp) (C : Addr) (cl : List (Str × Addr)) (fp : List Addr), JE T (X.blk s H scope (compEnvC scope cl C X.env) fp) E00 elt el
theorem je_lc (own : List (Str × Nat)) (hc : X.calm = true) (hN : X.N.Nodup) (hi : JI T X E tg iter di) (hb : Blk T X scope tg ifs elt t c el) (ok : BlkOk X.N X.env.scope scope own) (hvs : ∀ i ∈ t.slots, i ∈ own.map (·.2) := by decide)
    (hs : ∀ x, foldedSetIterable iter X.env x = pure x := by intro _; rfl) : JE T X E (.ListComp elt [⟨tg, iter, ifs, 0⟩] scope pos) (dLc (own.map (·.2)) di t c el) :=
  pe_imp (pe_lc hc hN hi ok hb.tg hb.ts hb.el hs) fun σ H Q h => lc_t hvs h fun xs S R F D h => fin_nd h
theorem je_lcM (own : List (Str × Nat)) (hc : X.calm = true) (hN : X.N.Nodup) (hi : JI T X E tg iter di) (hb : Blk T X scope tg ifs elt t c el) (ok : BlkOk X.N X.env.scope scope own) (hvs : ∀ i ∈ t.slots, i ∈ own.map (·.2) := by decide)
    (hs : ∀ x, foldedSetIterable iter X.env x = pure x := by intro _; rfl) : JE T X E (.ListComp elt [⟨tg, iter, ifs, 0⟩] scope pos) (dLcM (own.map (·.2)) di t c el) :=
  pe_imp (pe_lc hc hN hi ok hb.tg hb.ts hb.el hs) fun σ H Q h => lc_t hvs h fun xs S R F D h => fin_rf h
theorem asg_st {d : DE} {i : Nat} {D : Ends} {σ : L2.St} {H : Hp} (h : tS T X.K E (dSet i d) D σ H) : tV T X.K E d σ H fun x H1 => gName i x σ H1 D.nx := by
  obtain ⟨R, F, l, S, r, e, h⟩ := h
  exact st_v r e h fun x S1 R1 F1 H1 u p ex r1 rx e1 h1 => PostE.here r1 (e1.set i rx) h1
theorem js_setLc (i : Nat) (own : List (Str × Nat)) {y : Str} {py spos : Pos} (hc : X.calm = true) (hN : X.N.Nodup) (hi : JI T X E tg iter di) (hb : Blk T X scope tg ifs elt t c el) (ok : BlkOk X.N X.env.scope scope own) (hy : X.N[i]? = some y := by rfl) (hyl : X.env.scope.names.lookup y = some .local := by rfl)
    (hsw : swapsWith (.ListComp elt [⟨tg, iter, ifs, 0⟩] scope pos) (some (.Name y py)) spos.line X.env = pure true := by rfl) (hvs : ∀ i ∈ t.slots, i ∈ own.map (·.2) := by decide)
    (hs : ∀ x, foldedSetIterable iter X.env x = pure x := by intro _; rfl) : JS T X E (.Assign [.Name y py] (.ListComp elt [⟨tg, iter, ifs, 0⟩] scope pos) spos) (dSet i (dLc (own.map (·.2)) di t c el)) :=
  ps_imp (ps_setLc hc hN hy hyl hsw hi ok hb.tg hb.ts hb.el hs) fun D σ H h => lc_t hvs (asg_st h) fun xs S R F D h => fin_nd h
theorem js_setLcM (i : Nat) (own : List (Str × Nat)) {y : Str} {py spos : Pos} (hc : X.calm = true) (hN : X.N.Nodup) (hi : JI T X E tg iter di) (hb : Blk T X scope tg ifs elt t c el) (ok : BlkOk X.N X.env.scope scope own) (hy : X.N[i]? = some y := by rfl) (hyl : X.env.scope.names.lookup y = some .local := by rfl)
    (hsw : swapsWith (.ListComp elt [⟨tg, iter, ifs, 0⟩] scope pos) (some (.Name y py)) spos.line X.env = pure true := by rfl) (hvs : ∀ i ∈ t.slots, i ∈ own.map (·.2) := by decide)
    (hs : ∀ x, foldedSetIterable iter X.env x = pure x := by intro _; rfl) : JS T X E (.Assign [.Name y py] (.ListComp elt [⟨tg, iter, ifs, 0⟩] scope pos) spos) (dSet i (dLcM (own.map (·.2)) di t c el)) :=
  ps_imp (ps_setLc hc hN hy hyl hsw hi ok hb.tg hb.ts hb.el hs) fun D σ H h => lc_t hvs (asg_st h) fun xs S R F D h => fin_rf h
end
end Z
end
end
section
set_option Elab.async false
set_option linter.all false
set_option maxRecDepth 100000
set_option maxHeartbeats 1000000
/-! ZF: defs. -/
noncomputable section
namespace Z
open PySem PySem.Spec PyProof.Rows L2
open Evl (Ex)

/-! ### what a def leaves behind: its own places are closed -/
mutual
def fits (n : Nat) : PV → Bool
  | .ref m => decide (m < n)
  | .nd _ xs => fitsL n xs
  | _ => true
def fitsL (n : Nat) : List PV → Bool
  | [] => true
  | x :: xs => fits n x && fitsL n xs
end
def optMap (g : PV → Option PV) : List PV → Option (List PV)
  | [] => some []
  | x :: xs => (g x).bind fun y => (optMap g xs).map fun ys => y :: ys
def thaw : Nat → Nat → Sto → PV → Option PV
  | 0, _, _, _ => none
  | f + 1, n, S, .ref m => if m < n then some (.ref m) else match S[m]? with
    | some (some (k, xs)) => (optMap (thaw f n S) xs).map fun ys => .nd k ys
    | _ => none
  | f + 1, n, S, .nd k xs => if fitsL n xs = true then some (.nd k xs) else (optMap (thaw f n S) xs).map fun ys => .nd k ys
  | _ + 1, _, _, x => some x
def fitsO (n : Nat) (o : Option (Kd × List PV)) : Bool := match o with
  | some (_, xs) => fitsL n xs
  | none => true
open Classical in
/-- the old places are as they were, or they look at one another alone -/
def fitsS (S S1 : Sto) : Bool := decide (∀ i, i < S.length → S1[i]? = S[i]? ∨ ∃ o, S1[i]? = some o ∧ fitsO S.length o = true)
def shut (S : Sto) (o : Out PV) : Out PV := match o with
  | .ok v S1 => if S1.length ≤ S.length then .ok v S1 else match thaw 12 S.length S1 v with
    | some w => if fitsS S S1 = true then .ok w (S1.take S.length) else .bad
    | none => .bad
  | .err e S1 => if S1.length ≤ S.length then .err e S1 else match optMap (thaw 12 S.length S1) e.xs with
    | some ws => if fitsS S S1 = true then .err ⟨e.c, e.fs, ws⟩ (S1.take S.length) else .bad
    | none => .bad
  | .bad => .bad
section
variable {T : Tb} {K : PySem.W.Frag} {R : Pl} {F H : Hp} {S : Sto} {n : Nat}
open Classical in
/-- the places from n on, closed -/
def melt (R : Pl) (S : Sto) (n : Nat) (F H : Hp) : Hp := fun b => if ∃ m k xs, n ≤ m ∧ R.as[m]? = some b ∧ S[m]? = some (some (k, xs)) then H b else F b
theorem melt_ex (r : Rep T K R F S H) : Ex F (melt R S n F H) := fun a u e => by
  unfold melt
  split
  · exact r.ex a u e
  · exact e
theorem melt_in {m : Nat} {a : Addr} {k : Kd} {xs : List PV} (hm : n ≤ m) (h1 : R.as[m]? = some a) (h2 : S[m]? = some (some (k, xs))) : melt R S n F H a = H a := by
  unfold melt
  rw [if_pos ⟨m, k, xs, hm, h1, h2⟩]
theorem Liv.melt (r : Rep T K R F S H) {m : Nat} {a : Addr} {k : Kd} {xs : List PV} {us : List V} (hm : n ≤ m) (h1 : R.as[m]? = some a) (h2 : S[m]? = some (some (k, xs))) (h : Liv T K H a k us) : Shp T K (melt R S n F H) a k us := by
  have e := melt_in (F := F) (H := H) hm h1 h2
  cases k with
  | tup => exact h.elim
  | scr => exact h.elim
  | lst => exact e.trans h
  | dct t ks => cases t <;> (obtain ⟨q1, kk, q2, q3⟩ := h; exact ⟨q1, kk, q2, e.trans q3⟩)
  | ins c fs => obtain ⟨q1, dx, q2⟩ := h; exact ⟨q1, dx, e.trans q2⟩
mutual
theorem fits_rel (r : Rep T K R F S H) : ∀ (x : PV) (u : V), fits n x = true → Rel T K R F x u → Rel T K ⟨R.as.take n, R.hid⟩ (melt R S n F H) x u
  | .non, u, _, h => by rw [Rel] at h ⊢; exact h
  | .bl b, u, _, h => by rw [Rel] at h ⊢; exact h
  | .int i, u, _, h => by rw [Rel] at h ⊢; exact h
  | .str s, u, _, h => by rw [Rel] at h ⊢; exact h
  | .ty n, u, _, h => by rw [Rel] at h ⊢; exact h
  | .cls c, u, _, h => by rw [Rel] at h ⊢; exact h
  | .ref m, u, f, h => by
    rw [fits] at f
    have f := of_decide_eq_true f
    rw [Rel] at h ⊢
    obtain ⟨a, h1, h2⟩ := h
    exact ⟨a, h1, by rw [List.getElem?_take_of_lt f]; exact h2⟩
  | .nd k xs, u, f, h => by
    rw [fits] at f
    rw [Rel] at h ⊢
    obtain ⟨a, us, h1, h2, h3⟩ := h
    exact ⟨a, us, h1, h2.mono (melt_ex r), fitsL_rel r xs us f h3⟩
theorem fitsL_rel (r : Rep T K R F S H) : ∀ (xs : List PV) (us : List V), fitsL n xs = true → RelL T K R F xs us → RelL T K ⟨R.as.take n, R.hid⟩ (melt R S n F H) xs us
  | [], us, _, h => by rw [RelL] at h ⊢; exact h
  | x :: xs, us, f, h => by
    rw [fitsL, Bool.and_eq_true] at f
    rw [RelL] at h ⊢
    obtain ⟨u, vs, h1, h2, h3⟩ := h
    exact ⟨u, vs, h1, fits_rel r x u f.1 h2, fitsL_rel r xs vs f.2 h3⟩
end
theorem optMap_rel {R' : Pl} {F' : Hp} {g : PV → Option PV} (hg : ∀ x y u, g x = some y → Rel T K R F x u → Rel T K R' F' y u) : ∀ (xs ys : List PV) (us : List V), optMap g xs = some ys → RelL T K R F xs us → RelL T K R' F' ys us
  | [], ys, us, h, r => by cases h; rw [RelL] at r ⊢; exact r
  | x :: xs, ys, us, h, r => by
    rw [optMap, Option.bind_eq_some_iff] at h
    obtain ⟨y, h1, h2⟩ := h
    rw [Option.map_eq_some_iff] at h2
    obtain ⟨ys', h3, rfl⟩ := h2
    rw [RelL] at r ⊢
    obtain ⟨u, vs, e, r1, r2⟩ := r
    exact ⟨u, vs, e, hg x y u h1 r1, optMap_rel hg xs ys' vs h3 r2⟩
theorem thaw_rel (r : Rep T K R F S H) : ∀ (f : Nat) (x y : PV) (u : V), thaw f n S x = some y → Rel T K R F x u → Rel T K ⟨R.as.take n, R.hid⟩ (melt R S n F H) y u
  | 0, x, y, u, h, _ => by cases h
  | f + 1, x, y, u, h, hr => by
    cases x with
    | ref m =>
      rw [thaw] at h
      split at h
      · rename_i hm
        cases h
        exact fits_rel r (.ref m) u (by rw [fits]; exact decide_eq_true hm) hr
      · rename_i hm
        split at h
        · rename_i k xs hS
          rw [Option.map_eq_some_iff] at h
          obtain ⟨ys, h1, rfl⟩ := h
          rw [Rel] at hr
          obtain ⟨a, rfl, ha⟩ := hr
          obtain ⟨_, us, hl, hx⟩ := r.live m a k xs ha hS
          rw [Rel]
          exact ⟨a, us, rfl, hl.melt r (by omega) ha hS, optMap_rel (thaw_rel r f) xs ys us h1 hx⟩
        · cases h
    | nd k xs =>
      rw [thaw] at h
      split at h
      · rename_i hf
        cases h
        exact fits_rel r (.nd k xs) u (by rw [fits]; exact hf) hr
      · rw [Option.map_eq_some_iff] at h
        obtain ⟨ys, h1, rfl⟩ := h
        rw [Rel] at hr ⊢
        obtain ⟨a, us, e, h2, h3⟩ := hr
        exact ⟨a, us, e, h2.mono (melt_ex r), optMap_rel (thaw_rel r f) xs ys us h1 h3⟩
    | _ => cases h; exact fits_rel r _ u (by rfl) hr
theorem Rep.shut (r : Rep T K R F S H) (hf : ∀ m k xs, m < n → S[m]? = some (some (k, xs)) → fitsL n xs = true) : Rep T K ⟨R.as.take n, R.hid⟩ (melt R S n F H) (S.take n) H where
  ex := fun a u e => by
    unfold melt at e
    split at e
    · exact e
    · exact r.ex a u e
  len := by
    show (R.as.take n).length = _
    rw [List.length_take, List.length_take, r.len]
  nd := r.nd.sublist (List.take_sublist _ _)
  there := fun a ha => r.there a (List.mem_of_mem_take ha)
  hidnd := r.hidnd
  hid := fun q hq => by
    obtain ⟨h1, h2, h3⟩ := r.hid q hq
    refine ⟨h1, fun z => h2 (List.mem_of_mem_take z), ?_⟩
    unfold melt
    rw [if_neg]
    · exact h3
    · rintro ⟨m, k, xs, _, z, _⟩
      exact h2 (List.mem_of_getElem? z)
  live := fun m a k xs h1 h2 => by
    have hm : m < n := by
      have := (List.getElem?_eq_some_iff.mp h2).1
      rw [List.length_take] at this
      omega
    have h1 : (R.as.take n)[m]? = some a := h1
    rw [List.getElem?_take_of_lt hm] at h1 h2
    obtain ⟨h3, us, h4, h5⟩ := r.live m a k xs h1 h2
    have hfx : fitsL n xs = true := hf m k xs hm h2
    refine ⟨?_, us, h4, fitsL_rel r xs us hfx h5⟩
    unfold melt
    rw [if_neg]
    · exact h3
    · rintro ⟨m', k', xs', hge, z, _⟩
      have := (List.getElem?_inj (List.getElem?_eq_some_iff.mp h1).1 r.nd).mp (h1.trans z.symm)
      omega
mutual
theorem rel_fits : ∀ (x : PV) (u : V), Rel T K R F x u → fits R.as.length x = true
  | .non, u, h => by rfl
  | .bl b, u, h => by rfl
  | .int i, u, h => by rfl
  | .str s, u, h => by rfl
  | .ty n, u, h => by rfl
  | .cls c, u, h => by rfl
  | .ref m, u, h => by
    rw [Rel] at h
    obtain ⟨a, h1, h2⟩ := h
    rw [fits]
    exact decide_eq_true (List.getElem?_eq_some_iff.mp h2).1
  | .nd k xs, u, h => by
    rw [Rel] at h
    obtain ⟨a, us, h1, h2, h3⟩ := h
    rw [fits]
    exact rel_fitsL xs us h3
theorem rel_fitsL : ∀ (xs : List PV) (us : List V), RelL T K R F xs us → fitsL R.as.length xs = true
  | [], us, h => by rfl
  | x :: xs, us, h => by
    rw [RelL] at h
    obtain ⟨u, vs, h1, h2, h3⟩ := h
    rw [fitsL, rel_fits x u h2, rel_fitsL xs vs h3]; rfl
end
open Classical in
theorem fitsS_all (r : Rep T K R F S H) {S1 : Sto} (h : fitsS S S1 = true) : ∀ m k xs, m < S.length → S1[m]? = some (some (k, xs)) → fitsL S.length xs = true := fun m k xs hm e => by
  unfold fitsS at h
  have h := of_decide_eq_true h
  rcases h m hm with q | ⟨o, q1, q2⟩
  · rw [e] at q
    have hm' : m < R.as.length := by rw [r.len]; exact hm
    have ha : R.as[m]? = some R.as[m] := List.getElem?_eq_getElem hm'
    obtain ⟨_, us, _, hx⟩ := r.live m _ k xs ha q.symm
    have := rel_fitsL xs us hx
    rw [r.len] at this
    exact this
  · rw [e] at q1
    cases q1
    exact q2
theorem take_pl {R R' : Pl} (p : Pl.le R R') : (⟨R'.as.take R.as.length, R'.hid⟩ : Pl) = R := by
  obtain ⟨⟨t, e⟩, h⟩ := p
  rw [← e, h, List.take_left]
theorem shut_ok {E : XK} {Q : VK} {o : Out PV} (r0 : Rep T K R F S H) (h : OkV T K R F (shut S o) Q E) : OkV T K R F o Q E := by
  have hlen := r0.len
  cases o with
  | ok v S1 =>
    unfold Z.shut at h
    simp only at h
    split at h
    · exact h
    · split at h
      · rename_i w hw
        split at h
        · rename_i hf
          intro R' F' H u p ex r rv
          have r2 := r.shut (fitsS_all r0 hf)
          have rv2 := thaw_rel r 12 v w u hw rv
          rw [← hlen, take_pl p] at r2 rv2
          refine h R _ H u (Pl.refl R) (ex.trans (melt_ex r)) ?_ rv2
          rw [← hlen]; exact r2
        · exact h.elim
      · exact h.elim
  | err e S1 =>
    unfold Z.shut at h
    simp only at h
    split at h
    · exact h
    · split at h
      · rename_i ws hw
        split at h
        · rename_i hf
          intro R' F' H cls d p ex r rx
          have r2 := r.shut (fitsS_all r0 hf)
          rw [← hlen, take_pl p] at r2
          refine h R (melt R' S1 R.as.length F' H) H cls d (Pl.refl R) (ex.trans (melt_ex r)) (by rw [← hlen]; exact r2) ?_
          obtain ⟨h1, h2⟩ := rx
          refine ⟨h1, h2.imp (fun z => z) ?_⟩
          rintro ⟨dd, us, e1, e2, e3, e4, e5⟩
          refine ⟨dd, us, e1, ?_, e3, e4, ?_⟩
          · unfold melt
            rw [if_neg]
            · exact e2
            · rintro ⟨m, k, xs, _, z1, z2⟩
              obtain ⟨_, us', hl, _⟩ := r.live m dd k xs z1 z2
              cases k with
              | tup => exact hl
              | scr => exact hl
              | lst => have hl : H dd = _ := hl; rw [e3] at hl; cases hl
              | dct t ks => cases t <;> (obtain ⟨_, kk, _, q3⟩ := hl; rw [e3] at q3; cases q3)
              | ins c fs => obtain ⟨_, dx, q3⟩ := hl; rw [e3] at q3; cases q3
          · have := optMap_rel (thaw_rel r 12) e.xs ws us (by rw [← hlen] at hw; exact hw) e5
            rw [take_pl p] at this
            exact this
        · exact h.elim
      · exact h.elim
  | bad => exact h.elim
end

/-! ### a def by its body -/
def dDef0 (n m : Nat) (b : DS) : DF := fun xs S => if xs.length = n then (match b (xs.map some ++ List.replicate (m - n) none) S with
  | .nx _ S1 => .ok .non S1
  | .ret v S1 => .ok v S1
  | .err e _ S1 => .err e S1
  | _ => .bad) else .bad
def dDef (n m : Nat) (b : DS) : DF := fun xs S => shut S (dDef0 n m b xs S)
structure FnG (T : Tb) (P : Program) (w : World) (K : PySem.W.Frag) (mg : Str → Option Value) (base : Heap) (k : Nat) (f : Addr) (fd : FuncData) (ps : List Str) (d : DF) : Prop where
  run : ∀ (A : Around) (outer : List Env) (s : Shared) (H : Hp) (args : Args) (us : List Value) (vs : List V) (Q : VK) (E : XK), Room k A → A.guards = some [] → Env0 P w K mg base A outer s H → BindsTo s fd args (ps.zip us) → Vals vs us → spOf T K ps.length d vs H Q E →
    codeAny (model P w) A (.call (.ref f) args) (CR (L2.CX P w) outer P w H s Q E) s
theorem FnG.mono {T : Tb} {P : Program} {w : World} {K : PySem.W.Frag} {mg : Str → Option Value} {base : Heap} {j k : Nat} {f : Addr} {fd : FuncData} {ps : List Str} {d : DF} (g : FnG T P w K mg base j f fd ps d) (h : j ≤ k) : FnG T P w K mg base k f fd ps d :=
  ⟨fun A outer s H args us vs Q E hr => g.run A outer s H args us vs Q E (hr.mono h)⟩
theorem rel_start {T : Tb} {K : PySem.W.Frag} {R : Pl} {F : Hp} {N : List Str} {xs : List PV} {vs : List V} (h : RelL T K R F xs vs) : RelE T K R F (xs.map some ++ List.replicate (N.length - xs.length) none) (L2.start N vs) := by
  have hl := h.length
  unfold L2.start
  refine ⟨by simp [hl], fun i v e => ?_⟩
  by_cases hi : i < xs.length
  · rw [List.getElem?_append_left (by simpa using hi), List.getElem?_map] at e
    rw [List.getElem?_eq_getElem hi] at e
    cases e
    obtain ⟨u, h1, h2⟩ := h.get (List.getElem?_eq_getElem hi)
    refine ⟨u, ?_, h2⟩
    rw [List.getElem?_append_left (by rw [List.length_map, hl]; exact hi), List.getElem?_map, h1]; rfl
  · rw [List.getElem?_append_right (by simp; omega), List.getElem?_replicate] at e
    split at e <;> cases e
section
variable {T : Tb} {P : Program} {w : World} {K : PySem.W.Frag} {mg : Str → Option Value} {base : Heap} {x qual : Str} {params : Arguments} {body : List Stmt} {scope : Scope} {dvs : List V} {kws : List (Str × V)} {f : Addr} {fd : FuncData} {N ps : List Str} {k : Nat} {b : DS}
theorem def_ok0 {vs : List V} {H : Hp} {Q : VK} {E : XK} (h : spOf T K ps.length (dDef0 ps.length N.length b) vs H Q E) : tS T K E b { nx := fun _ H' => Q .non H', rt := Q } (L2.start N vs) H := by
  obtain ⟨hl, R, F, S, xs, r, rx, h⟩ := h
  have hx : xs.length = ps.length := by rw [← rx.length]; exact hl
  unfold dDef0 at h
  rw [if_pos hx] at h
  refine ⟨R, F, _, S, r, rel_start rx, ?_⟩
  rw [hx]
  cases hb : b (xs.map some ++ List.replicate (N.length - ps.length) none) S with
  | nx l1 S1 =>
    rw [hb] at h
    exact fun R1 F1 H1 σ p ex r1 _ => h R1 F1 H1 .non p ex r1 (by rw [Rel])
  | ret v S1 => rw [hb] at h; exact h
  | err e l1 S1 => rw [hb] at h; exact h
  | brk l1 S1 => rw [hb] at h; exact h.elim
  | cnt l1 S1 => rw [hb] at h; exact h.elim
  | bad => rw [hb] at h; exact h.elim
theorem def_ok {vs : List V} {H : Hp} {Q : VK} {E : XK} (h : spOf T K ps.length (dDef ps.length N.length b) vs H Q E) : tS T K E b { nx := fun _ H' => Q .non H', rt := Q } (L2.start N vs) H := by
  obtain ⟨hl, R, F, S, xs, r, rx, h⟩ := h
  exact def_ok0 ⟨hl, R, F, S, xs, r, rx, shut_ok r h⟩
theorem fng_of_ok {d : DF} (hd : ∀ (vs : List V) (H : Hp) (Q : VK) (E : XK), spOf T K ps.length d vs H Q E → tS T K E b { nx := fun _ H' => Q .non H', rt := Q } (L2.start N vs) H) (G : FunD K x qual params body scope dvs kws f fd) (S : FnScope N ps scope)
    (hb : ∀ (cdv : Value) (A : Around) (outer : List Env) (s : Shared) (H : Hp) (E : XK), Cg (cxOf (L2.CX P w) P w K mg base N qual scope f cdv A outer s H E) E k → JB T (cxOf (L2.CX P w) P w K mg base N qual scope f cdv A outer s H E) E body b) :
    FnG T P w K mg base (k + 1) f fd ps d := by
  obtain ⟨oc, od, dV, kV, doc, pm, an, cdv, ct, osl, rfl, lk, hcd, _, _⟩ := G.ex
  refine ⟨fun A outer s H args us vs Q E hr hgd e0 hbi r hsp => ?_⟩
  have hlen : vs.length = ps.length := hsp.1
  have inK : K.In s.heap := e0.mod.kin.keeps fun b o e => (e0.bs b o e).1
  have nolim : s.heap.NoLimit := e0.mod.nolimit.keeps fun b o e => (e0.bs b o e).1
  have kinds : ∀ y ∈ ps.zip us, scope.names.lookup y.1 = some .local ∨ (scope.names.lookup y.1 = some .cell ∧ ((cellsFrom (s.heap.objs.size + 1) scope.names []).lookup y.1).isSome = true) := fun y hy => by
    rcases S.par y.1 (List.of_mem_zip (a := y.1) (b := y.2) hy).1 with q | q
    · exact .inl q
    · exact .inr ⟨q, PySem.W.cellsFrom_some _ _ _ (.inl q)⟩
  refine codeAny_call_function hr.depth (inK _ _ lk) rfl S.co S.gen rfl (PySem.W.codeRec_of inK hcd) (hbi _ _ _ _ ?_)
  refine wpAny_newFunctionEnv_cells S.kind kinds fun env he s1 xc => ?_
  subst he
  refine ⟨nolim.keeps xc.toInCall.keep, codeAny_func ?_⟩
  have I : Inv (cxOf (L2.CX P w) P w K mg base N qual scope f cdv A outer s H E) [] (L2.start N vs) H s1 := inv_start S hr.hd e0 hlen r xc
  have cg : Cg (cxOf (L2.CX P w) P w K mg base N qual scope f cdv A outer s H E) E k :=
    ⟨rfl, S.nd, hr.deeper _, hgd, takes_of rfl rfl rfl rfl, passes_of rfl⟩
  have ht := (hb cdv A outer s H E cg).run [] s1 (L2.start N vs) H _ I (hd _ _ _ _ hsp)
  refine wpAny_mono ht (fun fl s' hs => ?_) fun e s' hs => hs
  have fin : ∀ {σ' : L2.St} {H' : Hp} {v : V} {u : Value}, Inv (cxOf (L2.CX P w) P w K mg base N qual scope f cdv A outer s H E) [] σ' H' s' → RelV v u → Q v H' → CE outer P w H s Q u s' :=
    fun {σ' H' v u} J rv q => ⟨v, H', J.os, J.bare, J.base, J.hok, rv, q⟩
  cases fl with
  | next =>
    obtain ⟨σ', H', J, q⟩ := hs
    exact fin (v := V.non) (u := Value.none) J rfl q
  | ret u =>
    obtain ⟨v, σ', H', J, rv, q⟩ := hs
    exact fin J rv q
  | brk => obtain ⟨_, _, _, q⟩ := hs; exact False.elim q
  | cont => obtain ⟨_, _, _, q⟩ := hs; exact False.elim q
theorem fng_of (G : FunD K x qual params body scope dvs kws f fd) (S : FnScope N ps scope)
    (hb : ∀ (cdv : Value) (A : Around) (outer : List Env) (s : Shared) (H : Hp) (E : XK), Cg (cxOf (L2.CX P w) P w K mg base N qual scope f cdv A outer s H E) E k → JB T (cxOf (L2.CX P w) P w K mg base N qual scope f cdv A outer s H E) E body b) :
    FnG T P w K mg base (k + 1) f fd ps (dDef ps.length N.length b) := fng_of_ok (fun _ _ _ _ h => def_ok h) G S hb
end

/-- the same of a def whose new places stay -/
theorem fng_of0 {T : Tb} {P : Program} {w : World} {K : PySem.W.Frag} {mg : Str → Option Value} {base : Heap} {x qual : Str} {params : Arguments} {body : List Stmt} {scope : Scope} {dvs : List V} {kws : List (Str × V)} {f : Addr} {fd : FuncData} {N ps : List Str} {k : Nat} {b : DS}
    (G : FunD K x qual params body scope dvs kws f fd) (S : FnScope N ps scope)
    (hb : ∀ (cdv : Value) (A : Around) (outer : List Env) (s : Shared) (H : Hp) (E : XK), Cg (cxOf (L2.CX P w) P w K mg base N qual scope f cdv A outer s H E) E k → JB T (cxOf (L2.CX P w) P w K mg base N qual scope f cdv A outer s H E) E body b) :
    FnG T P w K mg base (k + 1) f fd ps (dDef0 ps.length N.length b) := fng_of_ok (fun _ _ _ _ h => def_ok0 h) G S hb
theorem fng_bad {T : Tb} {P : Program} {w : World} {K : PySem.W.Frag} {mg : Str → Option Value} {base : Heap} {k : Nat} {f : Addr} {fd : FuncData} {ps : List Str} : FnG T P w K mg base k f fd ps (fun _ _ => .bad) :=
  ⟨fun _ _ _ _ _ _ _ _ _ _ _ _ _ _ ⟨_, _, _, _, _, _, _, h⟩ => h.elim⟩
theorem arity_0 {n m : Nat} {b : DS} (xs : List PV) (S : Sto) (h : xs.length ≠ n) : dDef0 n m b xs S = .bad := by unfold dDef0; rw [if_neg h]
theorem arity_d {n m : Nat} {b : DS} (xs : List PV) (S : Sto) (h : xs.length ≠ n) : dDef n m b xs S = .bad := by unfold dDef; rw [arity_0 xs S h]; rfl
theorem kw_of {K : PySem.W.Frag} {x qual : Str} {params : Arguments} {body : List Stmt} {scope : Scope} {kws : List (Str × V)} {f : Addr} {fd : FuncData} {ps : List Str} (F : FunD K x qual params body scope [] kws f fd)
    (h : ∀ (kV doc pm : Value) (an : Option Addr) (cdv ct : Value) (ws : List Value), ws.length = ps.length → bindArgs (PySem.W.fnOf x qual params body scope .none kV doc pm an cdv ct) ⟨[], ps.zip ws⟩ = pure (ps.zip ws)) (s : Shared) (ws : List Value) (hl : ws.length = ps.length) : BindsTo s fd ⟨[], ps.zip ws⟩ (ps.zip ws) := by
  obtain ⟨oc, od, dV, kV, doc, pm, an, cdv, ct, osl, rfl, lk, hcd, hD, hK⟩ := F.ex
  rcases hD with ⟨_, z⟩ | ⟨z, _⟩
  · subst z
    exact .of_eq (h kV doc pm an cdv ct ws hl)
  · exact absurd rfl z

/-! ### a def as it is known by its name -/
structure Fn (T : Tb) (P : Program) (w : World) (K : PySem.W.Frag) (mg : Str → Option Value) (base : Heap) (k : Nat) (x : Str) (ps : List Str) (d : DF) : Prop where
  ex : ∃ (f : Addr) (fd : FuncData), mg x = some (.ref f) ∧ PySem.W.keepIn K (.ref f) = true ∧ FnG T P w K mg base k f fd ps d ∧ Binds K fd ps [] ∧ (∀ (s : Shared) (ws : List Value), ws.length = ps.length → BindsTo s fd ⟨[], ps.zip ws⟩ (ps.zip ws))
  ar : ∀ (xs : List PV) (S : Sto), xs.length ≠ ps.length → d xs S = .bad
def dFn (d : DF) (ar : DA) : DE := fun l S => (ar l S).bind fun xs S1 => d xs S1
section
variable {T : Tb} {X : Cx} {E : XK} {x : Str} {p pos : Pos} {e : Expr} {es : List Expr} {ps : List Str} {d : DF} {ar : DA} {j k : Nat} {f : Addr} {fd : FuncData} {ds : List Value} {dvs : List V}
theorem run_fng {pins : List (Addr × Obj)} {σ : L2.St} {H : Hp} {s : Shared} {Q : VK} {us : List Value} {vs : List V} (c : Cg X E k) (hj : j ≤ k) (G : FnG T X.prog X.w X.K X.mg X.base j f fd ps d) {args : Args} (hb : BindsTo s fd args (ps.zip us))
    (I : Inv X pins σ H s) (r : Vals vs us) (h : spOf T X.K ps.length d vs H Q E) : codeAny (model X.prog X.w) X.A (.call (.ref f) args) (fun r s' => match r with
      | .ok (.ret u) => EP X pins σ Q u s'
      | .ok _ => False
      | .error e => X.xe e s') s := by
  refine codeAny_mono (G.run X.A X.stack s H args us vs Q E (c.room.mono hj) c.gd I.env0 hb r h) fun z s' hq => ?_
  cases z with
  | error e => exact c.pass pins σ H s e s' I hq
  | ok fl =>
    cases fl with
    | ret u => exact I.after hq
    | next => exact False.elim hq
    | brk => exact False.elim hq
    | cont => exact False.elim hq
theorem sp_of {K : PySem.W.Frag} {R : Pl} {F H : Hp} {S : Sto} {xs : List PV} {vs : List V} {Q : VK} {n : Nat} (hl : xs.length = n) (r : Rep T K R F S H) (rx : RelL T K R F xs vs) (h : OkV T K R F (d xs S) Q E) : spOf T K n d vs H Q E :=
  ⟨by rw [rx.length]; exact hl, R, F, S, xs, r, rx, h⟩
/-- f(e, ..), every parameter by its place -/
theorem je_fn (c : Cg X E k) (F : Fn T X.prog X.w X.K X.mg X.base j x ps d) (ha : JA T X E (e :: es) ar) (hj : j ≤ k := by decide) (hn : (e :: es).length = ps.length := by rfl) (hg : Gl X x := by rfl) (hdb : (x == ("__debug__" : Str)) = false := by decide)
    (he : starEach (e :: es) X.env = (false, eval e X.env) :: starEach es X.env := by rfl) (hpl : (backTo pos (starEach es X.env)).any (·.1) = false := by rfl) : JE T X E (.Call (.Name x p) (e :: es) [] pos) (dFn d ar) := by
  obtain ⟨f, fd, hm, hk, G, hb, _⟩ := F.ex
  refine ⟨fun pins s σ H Q I h => ?_⟩
  refine wpAny_Call_Name_kw (ld_glob I hg hm ?_ hdb)
  obtain ⟨R, Fz, l, S, r, e', h⟩ := h
  have hh : tL T X.K E ar σ H fun vs H1 => spOf T X.K ps.length d vs H1 Q E := seqL (goV T X.K E Q) r e' h fun xs S1 R1 F1 H1 us p ex r1 rx e1 h1 => by
    have h1 : OkV T X.K R1 F1 (d xs S1) Q E := h1
    by_cases hl : xs.length = ps.length
    · exact sp_of hl r1 rx h1
    · rw [F.ar xs S1 hl] at h1; exact h1.elim
  refine PySem.W.callWith_K (h₀ := X.base) I.ok.mod.kin hk (thn (ha.run pos pins s σ H _ I hh) fun us s1 ⟨vs, H1, I1, r1, q1⟩ => ⟨I1.kIn, ?_⟩) he hpl
  have hl : us.length = ps.length := by rw [← r1.length]; exact q1.1
  have hb' := hb s1 us I1.kIn (by rw [List.append_nil]; exact hl)
  rw [List.append_nil] at hb'
  refine wpAny_call (codeAny_mono (run_fng c hj G hb' I1 r1 q1) fun z s' hq => ?_)
  cases z with
  | error e => exact hq
  | ok fl => cases fl with
    | ret u => exact hq
    | _ => exact False.elim hq
/-- f() -/
theorem je_fn0 (c : Cg X E k) (F : Fn T X.prog X.w X.K X.mg X.base j x [] d) (hj : j ≤ k := by decide) (hg : Gl X x := by rfl) (hdb : (x == ("__debug__" : Str)) = false := by decide) : JE T X E (.Call (.Name x p) [] [] pos) (fun _ S => d [] S) := by
  obtain ⟨f, fd, hm, hk, G, hb, _⟩ := F.ex
  refine ⟨fun pins s σ H Q I h => ?_⟩
  refine wpAny_Call_Name_kw (ld_glob I hg hm ?_ hdb)
  obtain ⟨R, Fz, l, S, r, e', h⟩ := h
  have hb' := hb s [] I.kIn rfl
  refine PySem.W.callWith_K0 I.kIn hk (wpAny_call (codeAny_mono (run_fng c hj G hb' I .nil (sp_of (xs := []) rfl r .nil h)) fun z s' hq => ?_))
  cases z with
  | error e => exact hq
  | ok fl => cases fl with
    | ret u => exact hq
    | _ => exact False.elim hq
end
end Z
end
section
set_option Elab.async false
set_option linter.all false
set_option maxRecDepth 100000
set_option maxHeartbeats 1000000
/-! ZM: methods of built-in things, calls by keywords, the law's end. -/
noncomputable section
namespace Z
open PySem PySem.Spec PyProof.Rows L2
open Evl (Ex)

theorem Cg.blk {X : Cx} {E : XK} {k : Nat} (c : Cg X E k) {s : Shared} {H : Hp} {scope : Scope} {env : Env} {fp : List Addr} : Cg (X.blk s H scope env fp) E00 k :=
  ⟨c.calm, c.nd, c.room, c.gd, takes0, PassesOwn.never⟩
/-! ### o.m(..) -/
def MetZ (T : Tb) (K : PySem.W.Frag) (f : PV → List PV → Sto → Out PV) (r : V → List V → Hp → VK → Prop) : Prop := ∀ (E : XK) (R : Pl) (F H : Hp) (S : Sto) (x : PV) (xs : List PV) (u : V) (us : List V) (Q : VK), Rep T K R F S H → Rel T K R F x u → RelL T K R F xs us → OkV T K R F (f x xs S) Q E → r u us H Q
def tyOk (n : String) (x : PV) (S : Sto) : Bool := match tyZ x S with
  | some t => t == n && (n == "str" || n == "int" || n == "list" || n == "dict")
  | none => false
def dMet (n : String) (f : PV → List PV → Sto → Out PV) (o : DE) (ar : DA) : DE := fun l S => (o l S).bind fun x S1 => if tyOk n x S1 = true then (ar l S1).bind fun xs S2 => f x xs S2 else .bad
section
variable {T : Tb} {X : Cx} {E : XK} {o e : Expr} {es : List Expr} {dO : DE} {ar : DA} {name : Str} {apos cpos : Pos} {n id : String} {f : PV → List PV → Sto → Out PV} {r : V → List V → Hp → VK → Prop}
theorem tyOk_v {K : PySem.W.Frag} {R : Pl} {F H : Hp} {S : Sto} (re : Rep T K R F S H) {x : PV} {u : V} (rx : Rel T K R F x u) (h : tyOk n x S = true) : tyV K n u H := by
  unfold tyOk at h
  split at h
  · rename_i t ht
    rw [Bool.and_eq_true] at h
    have e := eq_of_beq h.1
    subst e
    have h2 := h.2
    cases x with
    | str z => cases ht; rw [rel_str rx]; rfl
    | int z => cases ht; rw [rel_int rx]; rfl
    | non => cases ht; simp at h2
    | bl b => cases ht; simp at h2
    | _ =>
      all_goals
        simp only [tyZ] at ht
        split at ht
        · rename_i ys hv
          cases ht
          obtain ⟨a, us, rfl, hs, hl⟩ := view_rel re rx hv
          exact .inl ⟨rfl, us, (shp_rd hs).1 (.inl rfl)⟩
        · rename_i ys hv
          cases ht
          obtain ⟨a, us, rfl, hs, hl⟩ := view_rel re rx hv
          exact .inl ⟨rfl, us, (shp_rd hs).1 (.inr rfl)⟩
        · cases ht; simp at h2
        · rename_i tt ks ys hv
          cases ht
          obtain ⟨a, us, rfl, hs, hl⟩ := view_rel re rx hv
          cases tt with
          | false => obtain ⟨_, kk, _, h2⟩ := hs; exact .inr (.inr (.inl ⟨rfl, .inl ⟨_, h2⟩⟩))
          | true => obtain ⟨_, kk, _, h2⟩ := hs; exact .inr (.inr (.inl ⟨rfl, .inr ⟨_, h2⟩⟩))
        · cases ht
  · cases h
theorem je_met (pa : PlainAttrs n) (slot : Slot n name id) (hty : typeOf (.builtin id) = pure (.type "method_descriptor")) (hm : MtR X id r) (hz : MetZ T X.K f r) (ho : JE T X E o dO) (ha : JA T X E (e :: es) ar)
    (hbase : attributeBase o name X.env (eval o X.env) = eval o X.env := by rfl)
    (hfew : ((backTo cpos (starEach (e :: es) X.env)).all (fun x => !x.1) && (backToKw cpos (keywordEach [] X.env)).all (fun x => x.1.isSome)
      && decide ((e :: es).length + ([] : List Keyword).length + (if ([] : List Keyword).isEmpty then 0 else 1) < 30)) = true := by rfl)
    (hline : (apos.endLine == cpos.line) = true := by rfl) (hs : starEach (e :: es) X.env = (false, eval e X.env) :: starEach es X.env := by rfl) (hplain : (backTo cpos (starEach es X.env)).any (·.1) = false := by rfl) :
    JE T X E (.Call (.Attribute o name apos) (e :: es) [] cpos) (dMet n f dO ar) :=
  pe_imp (pe_bm pa slot hty hm ho ha hbase hfew hline hs hplain) fun σ H Q ⟨R, F, l, S, re, e, h⟩ => by
    refine seqV (goV T X.K E Q) re e h fun x S1 R1 F1 H1 u p ex r1 rx e1 h1 => ?_
    have h1 : OkV T X.K R1 F1 (if tyOk n x S1 = true then (ar l S1).bind fun xs S2 => f x xs S2 else .bad) Q E := h1
    split at h1
    · rename_i hty
      refine ⟨tyOk_v r1 rx hty, seqL (goV T X.K E Q) r1 e1 h1 fun xs S2 R2 F2 H2 us p2 ex2 r2 rxs e2 h2 => hz E R2 F2 H2 S2 x xs u us Q r2 (rx.mono p2 ex2) rxs h2⟩
    · exact h1.elim
theorem je_met0 (pa : PlainAttrs n) (slot : Slot n name id) (hty : typeOf (.builtin id) = pure (.type "method_descriptor")) (hm : MtR X id r) (hz : MetZ T X.K f r) (ho : JE T X E o dO)
    (hbase : attributeBase o name X.env (eval o X.env) = eval o X.env := by rfl) (hline : (apos.endLine == cpos.line) = true := by rfl) : JE T X E (.Call (.Attribute o name apos) [] [] cpos) (dMet n f dO dNil) :=
  pe_imp (pe_bm0 pa slot hty hm ho hbase hline) fun σ H Q ⟨R, F, l, S, re, e, h⟩ => by
    refine seqV (goV T X.K E Q) re e h fun x S1 R1 F1 H1 u p ex r1 rx e1 h1 => ?_
    have h1 : OkV T X.K R1 F1 (if tyOk n x S1 = true then f x [] S1 else .bad) Q E := h1
    split at h1
    · rename_i hty
      exact ⟨tyOk_v r1 rx hty, hz E R1 F1 H1 S1 x [] u [] Q r1 rx .nil h1⟩
    · exact h1.elim
end

/-! ### list.append, list.pop -/
def appP (x : PV) (ys : List PV) (S : Sto) : Out PV := match x, ys with
  | .ref n, [y] => (match S[n]? with
    | some (some (.lst, xs)) => if xs.length < 16777216 then .ok .non (S.set n (some (.lst, xs ++ [y]))) else .bad
    | _ => .bad)
  | _, _ => .bad
def popP (x : PV) (ys : List PV) (S : Sto) : Out PV := match x, ys with
  | .ref n, [] => (match S[n]? with
    | some (some (.lst, xs)) => (match xs[xs.length - 1]? with
      | some y => .ok y (S.set n (some (.lst, xs.dropLast)))
      | none => .bad)
    | _ => .bad)
  | _, _ => .bad
section
variable {T : Tb} {K : PySem.W.Frag}
theorem RelL.dropLast {R : Pl} {F : Hp} {xs : List PV} {us : List V} (h : RelL T K R F xs us) : RelL T K R F xs.dropLast us.dropLast := by
  rw [List.dropLast_eq_take, List.dropLast_eq_take, h.length]
  exact h.take _
theorem mz_append : MetZ T K appP rAppend := by
  intro E R F H S x xs u us Q r rx rxs h
  unfold appP at h
  split at h
  · rename_i n y
    obtain ⟨w, rfl, ry⟩ := rel1 rxs
    split at h
    · rename_i zs hS
      split at h
      · rename_i hz
        rw [Rel] at rx
        obtain ⟨a, rfl, ha⟩ := rx
        obtain ⟨hf, ws, hl, hx⟩ := r.live n a .lst zs ha hS
        have hl : H a = some (.lst ws) := hl
        refine ⟨a, ws, w, rfl, rfl, hl, by rw [sizeLine_eq, hx.length]; exact hz, ?_⟩
        exact PostV.here (v := .non) (r.put ha hf (k := .lst) (xs := zs ++ [y]) upd_same (hx.append (.cons ry .nil))) (by rw [Rel]) h
      · exact h.elim
    · exact h.elim
  · exact h.elim
theorem mz_pop : MetZ T K popP rPop := by
  intro E R F H S x xs u us Q r rx rxs h
  unfold popP at h
  split at h
  · rename_i n
    rw [RelL] at rxs; subst rxs
    split at h
    · rename_i zs hS
      split at h
      · rename_i y hy
        rw [Rel] at rx
        obtain ⟨a, rfl, ha⟩ := rx
        obtain ⟨hf, ws, hl, hx⟩ := r.live n a .lst zs ha hS
        have hl : H a = some (.lst ws) := hl
        obtain ⟨w, h1, h2⟩ := hx.get hy
        refine ⟨a, ws, w, rfl, rfl, hl, by rw [hx.length]; exact h1, ?_⟩
        exact PostV.here (r.put ha hf (k := .lst) (xs := zs.dropLast) upd_same hx.dropLast) h2 h
      · exact h.elim
    · exact h.elim
  · exact h.elim
end
section
variable {T : Tb} {X : Cx} {E : XK} {o e : Expr} {dO d : DE} {apos cpos : Pos}
theorem je_append (ho : JE T X E o dO) (ha : JE T X E e d) (hbase : attributeBase o "append" X.env (eval o X.env) = eval o X.env := by rfl)
    (hline : (apos.endLine == cpos.line) = true := by rfl) (hs : starEach [e] X.env = (false, eval e X.env) :: starEach [] X.env := by rfl) : JE T X E (.Call (.Attribute o "append" apos) [e] [] cpos) (dMet "list" appP dO (dCons d dNil)) :=
  je_met PySem.F.plainAttrs_list PySem.F.slot_list_append PySem.F.type_list_append mt_append mz_append ho (ja_cons ha ja_nil hs) hbase (by rw [hs]; rfl) hline hs rfl

/-! ### xs[::-1] of a list -/
def revP (x : PV) (S : Sto) : Out PV := match lstOf x S with
  | some xs => .ok (.nd .lst xs.reverse) S
  | none => .bad
def dRev (d : DE) : DE := fun l S => (d l S).bind fun x S1 => revP x S1
theorem je_rev {k : Nat} {p1 p2 p3 pos : Pos} (he : JE T X E e d) : JE T X E (.Subscript e (.Slice none none (some (.UnaryOp .USub (.Constant (.int 1) k p1) p2)) p3) pos) (dRev d) :=
  pe_imp (pe_revL he) fun σ H Q ⟨R, F, l, S, re, e, h⟩ => by
    refine seqV (goV T X.K E Q) re e h fun x S1 R1 F1 H1 u p ex r1 rx e1 h1 => ?_
    have h1 : OkV T X.K R1 F1 (revP x S1) Q E := h1
    unfold revP at h1
    split at h1
    · rename_i xs hv
      obtain ⟨a, us, rfl, hs, hl⟩ := lstOf_rel r1 rx hv
      exact ⟨a, us, rfl, hs, fun p hp => PostV.new (k := .lst) r1 hp upd_same hl.reverse h1⟩
    · exact h1.elim
end

/-! ### f(k = e, ..): all parameters by their names, in their order -/
abbrev JK (T : Tb) (X : Cx) (E : XK) (kws : List Keyword) (ar : DA) : Prop := L2.PK X kws (tL T X.K E ar)
section
variable {T : Tb} {X : Cx} {E : XK} {x : Str} {p pos kpos : Pos} {e : Expr} {kws : List Keyword} {ps : List Str} {d : DF} {a : DE} {ar : DA} {j k : Nat} {nm : Option Str}
theorem jk_nil : JK T X E [] dNil := ⟨fun pos pins s σ H Q I ⟨R, F, l, S, r, e, h⟩ => pk_nil.run pos pins s σ H Q I (PostL.here r .nil h)⟩
theorem jk_cons (ha : JE T X E e a) (hr : JK T X E kws ar) : JK T X E (⟨nm, e, kpos⟩ :: kws) (dCons a ar) :=
  ⟨fun pos pins s σ H Q I ⟨R, F, l, S, r, e, h⟩ => (pk_cons ha hr).run pos pins s σ H Q I (by
    refine seqV (goL T X.K E Q) r e h fun x S1 R1 F1 H1 u p ex r1 rx e1 h1 => ?_
    refine seqL (goL T X.K E Q) r1 e1 h1 fun xs S2 R2 F2 H2 us p2 ex2 r2 rxs e2 h2 => ?_
    exact PostL.here r2 (.cons (rx.mono p2 ex2) rxs) h2)⟩
theorem je_fnK {kw : Keyword} (c : Cg X E k) (F : Fn T X.prog X.w X.K X.mg X.base j x ps d) (hk : JK T X E (kw :: kws) ar) (hj : j ≤ k := by decide) (hg : Gl X x := by rfl) (hdb : (x == ("__debug__" : Str)) = false := by decide)
    (hall : (backToKw pos (keywordEach (kw :: kws) X.env)).all (·.1.isSome) = true := by rfl) (hks : (backToKw pos (keywordEach (kw :: kws) X.env)).filterMap (·.1) = ps := by rfl)
    (hpl : ((backTo pos (starEach [] X.env)).any (·.1) || (backToKw pos (keywordEach (kw :: kws) X.env)).any (·.1.isNone)) = false := by rfl) :
    JE T X E (.Call (.Name x p) [] (kw :: kws) pos) (dFn d ar) := by
  obtain ⟨f, fd, hm, hkp, G, _, hb⟩ := F.ex
  refine ⟨fun pins s σ H Q I h => ?_⟩
  refine wpAny_Call_Name_kw (ld_glob I hg hm ?_ hdb)
  obtain ⟨R, Fz, l, S, r, e', h⟩ := h
  have hh : tL T X.K E ar σ H fun vs H1 => spOf T X.K ps.length d vs H1 Q E := seqL (goV T X.K E Q) r e' h fun xs S1 R1 F1 H1 us p ex r1 rx e1 h1 => by
    have h1 : OkV T X.K R1 F1 (d xs S1) Q E := h1
    by_cases hl : xs.length = ps.length
    · exact sp_of hl r1 rx h1
    · rw [F.ar xs S1 hl] at h1; exact h1.elim
  refine PySem.W.callWith_KW0 (h₀ := X.base) I.ok.mod.kin hkp hall (thn (hk.run pos pins s σ H _ I hh) fun us s1 ⟨vs, H1, I1, r1, q1⟩ => ⟨I1.kIn, ?_⟩) hpl
  rw [hks]
  have hl : us.length = ps.length := by rw [← r1.length]; exact q1.1
  refine wpAny_call (codeAny_mono (run_fng c hj G (hb s1 us hl) I1 r1 q1) fun z s' hq => ?_)
  cases z with
  | error e => exact hq
  | ok fl => cases fl with
    | ret u => exact hq
    | _ => exact False.elim hq
end

/-! ### the law's end -/
theorem law_g {T : Tb} {P : Program} {w : World} {K : PySem.W.Frag} {mg mb : Str → Option Value} {k : Nat} {fa a : Addr} {fd : FuncData} {x : Str} {d : DF} {s₁ : Shared} {vs : List Value} {ns : List Int}
    (inK : K.In s₁.heap) (gl : s₁.heap.Ns mainGlobals mg) (bl : s₁.heap.Ns builtinsNs mb) (bb : ∀ x : Str, x ≠ "__name__" → mb x = bootBuiltins x) (nl : s₁.heap.NoLimit) (ng : s₁.gens = #[])
    (sc : s₁.heap.get? a = some { cls := .type "list", data := .seq vs.toArray }) (hints : IntsAre vs ns) (few : ns.length ≤ sizeLine) (rm : Room k callerA)
    (G : ∀ base : Heap, K.In base → base.Ns mainGlobals mg → FnG T P w K mg base k fa fd [x] d) (bi : ∀ (s : Shared) (u : Value), BindsTo s fd ⟨[u], []⟩ [(x, u)])
    (good : ∃ S, d [.nd .scr (ns.map .int)] [] = .ok (.bl true) S) :
    codeAny (model P w) callerA (.call (.ref fa) ⟨[.ref a], []⟩) (fun r s' => r = .ok (.ret (.bool true)) ∧ OldK s₁.heap s'.heap ∧ s'.os = s₁.os ∧ AllBare s'.gens) s₁ := by
  have rv := vals_ints hints
  have zl : vs.length = ns.length := hints.length.symm ▸ rfl
  -- what is known of the heap: at most the script is told
  have run : ∀ H : Hp, Only H → SqL K H a (ns.map V.int) → HOk P w H s₁.heap → (∀ b, H b ≠ none → b = a ∧ K.lookup a = none) →
      codeAny (model P w) callerA (.call (.ref fa) ⟨[.ref a], []⟩) (fun r s' => r = .ok (.ret (.bool true)) ∧ OldK s₁.heap s'.heap ∧ s'.os = s₁.os ∧ AllBare s'.gens) s₁ := by
    intro H only sq hok told
    have dict_free : ∀ {b : Addr} {o : Obj} {es : Array DictEntry} {ep : Nat}, s₁.heap.get? b = some o → o.data = .dict es ep → H b = none := fun {b o es ep} e q => by
      by_cases z : H b = none
      · exact z
      · exfalso
        have eb := (told b z).1
        rw [eb, sc] at e
        cases e
        have q' : Data.seq vs.toArray _ = Data.dict es ep := q
        cases q'
    have ns_in : ∀ {b : Addr} {m : Str → Option Value}, s₁.heap.Ns b m → (hidT s₁.heap H).Ns b m := fun ⟨o, es, ep, e, q, r⟩ => ⟨o, es, ep, hidT_get e (dict_free e q), q, r⟩
    have inB : K.In (hidT s₁.heap H) := fun b o e => hidT_get (inK b o e) (by
      by_cases z : H b = none
      · exact z
      · obtain ⟨eb, hk⟩ := told b z
        rw [eb, hk] at e
        cases e)
    have md : Mod K mg (hidT s₁.heap H) := ⟨inB, ns_in gl, ⟨mb, ns_in bl, bb⟩, let ⟨mc, h1, h2⟩ := nl; ⟨mc, ns_in h1, h2⟩⟩
    have noF : ∀ b : Addr, b ∉ frs ([] : List Env) := fun b z => absurd (show b ∈ ([] : List Addr) from z) (by simp)
    have e0 : Env0 P w K mg (hidT s₁.heap H) callerA [] s₁ H := ⟨rfl, md, fun b o e => of_hidT e, Nat.le_of_eq (hidT_size _ _), trivial, fun b hb => absurd hb (noF b), hok, .of_eq ng⟩
    have sp : spOf T K 1 d [.ref a] H (fun v _ => v = .bl true) (fun _ _ _ => False) := by
      obtain ⟨S, hS⟩ := good
      refine ⟨rfl, (⟨[], []⟩ : Pl), H, [], [.nd .scr (ns.map .int)], { ex := Ex.refl H, len := rfl, nd := List.nodup_nil, there := fun a ha => (nomatch ha), hid := fun p hp => (nomatch hp), hidnd := List.nodup_nil, live := fun n a k xs h1 h2 => by simp at h1 : Rep T K ⟨[], []⟩ H [] H }, ?_, ?_⟩
      · refine .cons ?_ .nil
        rw [Rel]
        refine ⟨a, ns.map V.int, rfl, sq, ?_⟩
        clear sc hints few rv zl hS sq
        induction ns with
        | nil => exact .nil
        | cons n ns ih => exact .cons (by rw [Rel]) ih
      · rw [hS]
        intro R' F' H' u p ex r ru
        rw [Rel] at ru
        exact ru
    refine codeAny_mono ((G _ inB (ns_in gl)).run callerA [] s₁ H ⟨[.ref a], []⟩ [.ref a] [.ref a] _ _ rm rfl e0 (bi s₁ (.ref a)) (.cons rfl .nil) sp) fun z s' hz => ?_
    cases z with
    | error e => exact absurd hz (by
        intro q
        obtain ⟨_, _, _, _, _, _, _, _, _, _, _, _, f⟩ := q
        exact f)
    | ok fl =>
      cases fl with
      | ret u =>
        obtain ⟨v, H', os, bare, un, hok', rel, q⟩ := hz
        have q : v = .bl true := q
        subst q
        have eu : u = Value.bool true := rel
        subst eu
        refine ⟨rfl, OldK.of_keep fun b o e => ?_, os, bare⟩
        by_cases z : H b = none
        · exact un.keep b o e z (noF b) (by simp)
        · rcases only b with z2 | ⟨ob, xs, z2⟩
          · exact absurd z2 z
          · obtain ⟨e2, _⟩ := hok' b _ (un.frzs b ob _ z2)
            obtain ⟨e1, _⟩ := hok b _ z2
            rw [e] at e1
            cases e1
            exact e2
      | _ => exact False.elim hz
  cases hk : K.lookup a with
  | some o =>
    have e := inK a o hk
    rw [sc] at e
    cases e
    exact run (fun _ => none) (fun _ => .inl rfl) (.inr ⟨_, vs.toArray, _, hk, rfl, rfl, rfl, by rw [List.size_toArray, zl]; exact few, by simpa using rv⟩) (fun b u z => nomatch z) fun b z => absurd rfl z
  | none =>
    let H0 : Hp := fun b => if b = a then some (.frz { cls := .type "list", data := .seq vs.toArray } (.lst (ns.map V.int))) else none
    have at_a : H0 a = some (.frz { cls := .type "list", data := .seq vs.toArray } (.lst (ns.map V.int))) := if_pos rfl
    have off : ∀ b, b ≠ a → H0 b = none := fun b z => if_neg z
    refine run H0 (fun b => ?_) (.inl (.inr ⟨_, at_a⟩)) (fun b u z => ?_) fun b z => ⟨?_, hk⟩
    · by_cases hb : b = a
      · rw [hb]; exact .inr ⟨_, _, at_a⟩
      · exact .inl (off b hb)
    · by_cases hb : b = a
      · subst hb
        rw [at_a] at z
        cases z
        exact ⟨sc, by rw [List.length_map]; exact few, vs, _, rv, sc⟩
      · rw [off b hb] at z
        cases z
    · by_cases hb : b = a
      · exact hb
      · exact absurd (off b hb) z
/-- what a law's walk needs: the law's def, and that its answer is True at every script -/
theorem walk_g {l : PySem.W.OpenLaw} {n k : Nat} {q : Program} {loose : List Str} {XP : (Str → Option Value) → Heap → Prop} {YP : World → Heap → Prop} {dr : DefRec} {x : Str} {T : Tb} {d : DF}
    (hn : l.most = some n) (hn2 : n ≤ sizeLine) (hdf : dr.params.defaults = []) (rm : Room k callerA) (good : ∀ ns : List Int, ns.length ≤ n → ∃ S, d [.nd .scr (ns.map .int)] [] = .ok (.bl true) S)
    (G : ∀ (w : World) (mg : Str → Option Value) (fa : Addr) (h : Heap), YP w h → h.Ns mainGlobals mg → mg dr.name = some (.ref fa) →
      ∃ (K : PySem.W.Frag) (fd : FuncData), K.In h ∧ (∀ (s : Shared) (u : Value), BindsTo s fd ⟨[u], []⟩ [(x, u)]) ∧ ∀ base : Heap, K.In base → base.Ns mainGlobals mg → FnG T l.prog w K mg base k fa fd [x] d) :
    PySem.W.WalkO q loose XP YP l.row.toRowW dr [] (fun f vs => PySem.call f vs) := by
  refine Att.attach_call hn hdf fun w s₀ s₁ mg mb fa o pm cd doc a vs ns gr yy ho hd hcd hmg hobj hints hlen hg => ?_
  obtain ⟨K, fd, inK, hb, hF⟩ := G w mg fa _ yy gr.T.g hmg
  exact law_g inK gr.T.g gr.T.b gr.T.builtins gr.T.nolimit hg hobj hints (Nat.le_trans hlen hn2) rm hF hb (good ns hlen)
end Z
end
end
section
set_option Elab.async false
set_option linter.all false
set_option maxRecDepth 100000
set_option maxHeartbeats 1000000
/-! ZQ: reckoning with denotations. -/
noncomputable section
namespace Z
open PySem PySem.Spec PyProof.Rows L2

section
variable {α β : Type} (v : PV) (S : Sto) (l : Loc) (a b c : DE) (ar : DA) (p q : DB) (s t : DS)
@[simp] theorem bind_ok (x : α) (k : α → Sto → Out β) : (Out.ok x S).bind k = k x S := rfl
@[simp] theorem bind_err (e : XV) (k : α → Sto → Out β) : (Out.err e S : Out α).bind k = .err e S := rfl
@[simp] theorem bind_bad (k : α → Sto → Out β) : (Out.bad : Out α).bind k = .bad := rfl
@[simp] theorem st_ok (x : α) (k : α → Sto → OutS) : (Out.ok x S).st l k = k x S := rfl
@[simp] theorem st_err (e : XV) (k : α → Sto → OutS) : (Out.err e S : Out α).st l k = .err e l S := rfl
@[simp] theorem st_bad (k : α → Sto → OutS) : (Out.bad : Out α).st l k = .bad := rfl
@[simp] theorem seq_nx (k : Loc → Sto → OutS) : (OutS.nx l S).seq k = k l S := rfl
@[simp] theorem seq_ret (k : Loc → Sto → OutS) : (OutS.ret v S).seq k = .ret v S := rfl
@[simp] theorem seq_brk (k : Loc → Sto → OutS) : (OutS.brk l S).seq k = .brk l S := rfl
@[simp] theorem seq_cnt (k : Loc → Sto → OutS) : (OutS.cnt l S).seq k = .cnt l S := rfl
@[simp] theorem seq_err (e : XV) (k : Loc → Sto → OutS) : (OutS.err e l S).seq k = .err e l S := rfl
@[simp] theorem seq_bad (k : Loc → Sto → OutS) : OutS.bad.seq k = .bad := rfl
@[simp] theorem dC_ap : dC v l S = .ok v S := rfl
theorem dVar_at {i : Nat} (h : l[i]? = some (some v)) : dVar i l S = .ok v S := by unfold dVar; rw [h]
@[simp] theorem dVar_0 : dVar 0 (some v :: l) S = .ok v S := rfl
@[simp] theorem dVar_s (i : Nat) (o : Option PV) : dVar (i + 1) (o :: l) S = dVar i l S := rfl
@[simp] theorem dNil_ap : dNil l S = .ok [] S := rfl
@[simp] theorem dCons_ap : dCons a ar l S = (a l S).bind fun x S1 => (ar l S1).bind fun xs S2 => .ok (x :: xs) S2 := rfl
@[simp] theorem dTup_ap : dTup ar l S = (ar l S).bind fun xs S1 => mkNd .tup xs S1 := rfl
@[simp] theorem dLst_ap : dLst ar l S = (ar l S).bind fun xs S1 => mkNd .lst xs S1 := rfl
@[simp] theorem dLstM_ap : dLstM ar l S = (ar l S).bind fun xs S1 => mkRf .lst xs S1 := rfl
@[simp] theorem dBin_ap (f : PV → PV → Sto → Out PV) : dBin f a b l S = (a l S).bind fun x S1 => (b l S1).bind fun y S2 => f x y S2 := rfl
@[simp] theorem dB_ap : dB a l S = asB (a l S) := rfl
@[simp] theorem asB_ok (k : Bool) : asB (.ok (.bl k) S) = .ok k S := rfl
@[simp] theorem dApp_ap (f : List PV → Sto → Out PV) : dApp f ar l S = (ar l S).bind fun xs S1 => f xs S1 := rfl
@[simp] theorem dFn_ap (f : DF) : dFn f ar l S = (ar l S).bind fun xs S1 => f xs S1 := rfl
@[simp] theorem dTru_ap : dTru a l S = (a l S).bind fun x S1 => truP x S1 := rfl
@[simp] theorem dNotT_ap : dNotT p l S = (p l S).bind fun b S1 => .ok (!b) S1 := rfl
@[simp] theorem dAndT_ap : dAndT p q l S = (p l S).bind fun k S1 => if k = true then q l S1 else .ok false S1 := rfl
@[simp] theorem dOrT_ap : dOrT p q l S = (p l S).bind fun k S1 => if k = true then .ok true S1 else q l S1 := rfl
@[simp] theorem dOr_ap : dOr a b l S = (a l S).bind fun x S1 => (truP x S1).bind fun k S2 => if k = true then .ok x S2 else b l S2 := rfl
@[simp] theorem dAnd_ap : dAnd a b l S = (a l S).bind fun x S1 => (truP x S1).bind fun k S2 => if k = true then b l S2 else .ok x S2 := rfl
@[simp] theorem dNot_ap : dNot a l S = (a l S).bind fun x S1 => (truP x S1).bind fun k S2 => .ok (.bl (!k)) S2 := rfl
@[simp] theorem dIf_ap : dIf p a b l S = (p l S).bind fun k S1 => if k = true then a l S1 else b l S1 := rfl
@[simp] theorem dUn_ap (f : PV → Sto → Out PV) : dUn f a l S = (a l S).bind fun x S1 => f x S1 := rfl
@[simp] theorem dNone_ap : dNone l S = .ok none S := rfl
@[simp] theorem dSome_ap : dSome a l S = asI (a l S) := rfl
@[simp] theorem asI_ok (i : Int) : asI (.ok (.int i) S) = .ok (some i) S := rfl
@[simp] theorem dSli_ap (lo hi : DO) : dSli a lo hi l S = (a l S).bind fun x S1 => (lo l S1).bind fun p S2 => (hi l S2).bind fun q S3 => sliZ x p q S3 := rfl
@[simp] theorem dRev_ap : dRev a l S = (a l S).bind fun x S1 => revP x S1 := rfl
@[simp] theorem dMet_ap (n : String) (f : PV → List PV → Sto → Out PV) : dMet n f a ar l S = (a l S).bind fun x S1 => if tyOk n x S1 = true then (ar l S1).bind fun xs S2 => f x xs S2 else .bad := rfl
@[simp] theorem dSkip_ap : dSkip l S = .nx l S := rfl
@[simp] theorem dSeq_ap : dSeq s t l S = (s l S).seq t := rfl
@[simp] theorem dExpr_ap : dExpr a l S = (a l S).st l fun _ S1 => .nx l S1 := rfl
@[simp] theorem dRet_ap : dRet a l S = (a l S).st l fun v S1 => .ret v S1 := rfl
@[simp] theorem dRetN_ap : dRetN l S = .ret .non S := rfl
@[simp] theorem dIfS_ap : dIfS p s t l S = (p l S).st l fun k S1 => if k = true then s l S1 else t l S1 := rfl
@[simp] theorem dSet_ap (i : Nat) : dSet i a l S = (a l S).st l fun v S1 => .nx (l.set i (some v)) S1 := rfl
@[simp] theorem dBrk_ap : dBrk l S = .brk l S := rfl
@[simp] theorem dCnt_ap : dCnt l S = .cnt l S := rfl
@[simp] theorem dNever_ap : dNever l S = .bad := rfl
@[simp] theorem dAsg_ap (g : DG) : dAsg a g l S = (a l S).st l fun v S1 => onlyNx (g v l S1) := rfl
@[simp] theorem onlyNx_nx : onlyNx (.nx l S) = .nx l S := rfl
@[simp] theorem gzN_ap (i : Nat) : gzN i v l S = .nx (l.set i (some v)) S := rfl
@[simp] theorem gzT_ap (gs : List DG) (xs : List PV) : gzT gs (.nd .tup xs) l S = gzL gs xs l S := rfl
@[simp] theorem gzL_nil : gzL [] [] l S = .nx l S := rfl
@[simp] theorem gzL_cons (g : DG) (gs : List DG) (x : PV) (xs : List PV) : gzL (g :: gs) (x :: xs) l S = (g x l S).seq fun l1 S1 => gzL gs xs l1 S1 := rfl
@[simp] theorem gzI_ap : gzI a b v l S = (a l S).st l fun x S1 => (b l S1).st l fun y S2 => match putP x y v S2 with
  | some S3 => .nx l S3
  | none => .bad := rfl
@[simp] theorem dPar_ap (i j : Nat) : dPar i j ar l S = (ar l S).st l fun xs S1 => match xs with
  | [v, w] => .nx ((l.set i (some v)).set j (some w)) S1
  | _ => .bad := rfl
@[simp] theorem dPar3_ap (i j k : Nat) : dPar3 i j k ar l S = (ar l S).st l fun xs S1 => match xs with
  | [u, v, w] => .nx (((l.set i (some u)).set j (some v)).set k (some w)) S1
  | _ => .bad := rfl
@[simp] theorem dFor_ap (di : DI) (tg : TgZ) : dFor di tg s l S = (di l S).st l fun it S1 => if heldB it.held S1 = true then forZ tg it.held s it.items l S1 else .bad := rfl
@[simp] theorem dItV_ap : dItV a l S = (a l S).bind fun x S1 => itOf x S1 := rfl
@[simp] theorem dItA_ap (f : List PV → Sto → Out ItZ) : dItA f ar l S = (ar l S).bind fun xs S1 => f xs S1 := rfl
@[simp] theorem dLc_ap (vs : List Nat) (di : DI) (tg : TgZ) : dLc vs di tg p a l S = (dLc0 vs di tg p a l S).bind fun xs S1 => .ok (.nd .lst xs) S1 := rfl
@[simp] theorem dLcM_ap (vs : List Nat) (di : DI) (tg : TgZ) : dLcM vs di tg p a l S = (dLc0 vs di tg p a l S).bind fun xs S1 => .ok (.ref S1.length) (S1 ++ [some (.lst, xs)]) := rfl
@[simp] theorem dLc0_ap (vs : List Nat) (di : DI) (tg : TgZ) : dLc0 vs di tg p a l S = (di l S).bind fun it S1 => if heldB it.held S1 = true ∧ it.items.length ≤ 16777216 then lcZ tg it.held p a (wipeZ l vs) it.items S1 else .bad := rfl
@[simp] theorem dYes_ap : dYes l S = .ok true S := rfl
@[simp] theorem wipeZ_nil : wipeZ l [] = l := rfl
@[simp] theorem wipeZ_cons (i : Nat) (is : List Nat) : wipeZ l (i :: is) = (wipeZ l is).set i none := rfl
@[simp] theorem heldB_nil' : heldB [] S = true := heldB_nil S
open Classical in
@[simp] theorem heldB_one (n : Nat) (v : Kd × List PV) : heldB [(.ref n, v)] S = decide (S[n]? = some (some v)) := by
  unfold heldB
  congr 1
  apply propext
  constructor
  · intro h
    have := h _ (List.mem_singleton.mpr rfl)
    have h2 : (S[n]?).join = some v := this
    cases q : S[n]? with
    | none => rw [q] at h2; cases h2
    | some o => rw [q] at h2; cases o with
      | none => cases h2
      | some y => cases h2; rfl
  · intro h p hp
    rw [List.mem_singleton.mp hp]
    show (S[n]?).join = _
    rw [h]; rfl
@[simp] theorem view_nd' (k : Kd) (xs : List PV) : view (.nd k xs) S = some (k, xs) := rfl
@[simp] theorem view_ref' (n : Nat) : view (.ref n) S = (S[n]?).join := rfl
@[simp] theorem hold_nd (k : Kd) (xs : List PV) (w : Kd × List PV) : holdOf (.nd k xs) w = [] := rfl
@[simp] theorem hold_ref (n : Nat) (w : Kd × List PV) : holdOf (.ref n) w = [(.ref n, w)] := rfl
theorem dDef0_ap {n m : Nat} {xs : List PV} (h : xs.length = n) : dDef0 n m s xs S = (match s (xs.map some ++ List.replicate (m - n) none) S with
  | .nx _ S1 => .ok .non S1
  | .ret v S1 => .ok v S1
  | .err e _ S1 => .err e S1
  | _ => .bad) := by unfold dDef0; rw [if_pos h] <;> rfl
theorem shut_same {S S1 : Sto} (h : S1.length ≤ S.length) : shut S (.ok v S1) = .ok v S1 := by unfold shut; simp only; rw [if_pos h]
/-- a def that makes no new place -/
theorem dDef_ret {n m : Nat} {xs : List PV} {S1 : Sto} {v : PV} (h : xs.length = n) (hb : s (xs.map some ++ List.replicate (m - n) none) S = .ret v S1) (hl : S1.length ≤ S.length) : dDef n m s xs S = .ok v S1 := by
  unfold dDef
  rw [dDef0_ap S s h, hb]
  exact shut_same v hl
theorem dDef_nx {n m : Nat} {xs : List PV} {S1 : Sto} {l1 : Loc} (h : xs.length = n) (hb : s (xs.map some ++ List.replicate (m - n) none) S = .nx l1 S1) (hl : S1.length ≤ S.length) : dDef n m s xs S = .ok .non S1 := by
  unfold dDef
  rw [dDef0_ap S s h, hb]
  exact shut_same _ hl
theorem dDef0_ret {n m : Nat} {xs : List PV} {S1 : Sto} {v : PV} (h : xs.length = n) (hb : s (xs.map some ++ List.replicate (m - n) none) S = .ret v S1) : dDef0 n m s xs S = .ok v S1 := by
  rw [dDef0_ap S s h, hb]
/-- a def whose result was made new -/
theorem dDef_thaw {n m : Nat} {xs : List PV} {S1 : Sto} {v w : PV} (h : xs.length = n) (hb : s (xs.map some ++ List.replicate (m - n) none) S = .ret v S1) (hl : S.length < S1.length) (ht : thaw 12 S.length S1 v = some w) (hf : fitsS S S1 = true) : dDef n m s xs S = .ok w (S1.take S.length) := by
  unfold dDef
  rw [dDef0_ap S s h, hb]
  unfold shut
  simp only
  rw [if_neg (by omega), ht]
  simp only
  rw [if_pos hf]
end
open Classical in
theorem fitsS_app (S X : Sto) : fitsS S (S ++ X) = true := by
  unfold fitsS
  exact decide_eq_true fun i hi => .inl (List.getElem?_append_left hi)
open Classical in
theorem fitsS_head {o p : Option (Kd × List PV)} {T X : Sto} (h : fitsO (T.length + 1) p = true) : fitsS (o :: T) (p :: (T ++ X)) = true := by
  unfold fitsS
  refine decide_eq_true fun i hi => ?_
  cases i with
  | zero => exact .inr ⟨p, rfl, h⟩
  | succ i =>
    rw [List.length_cons] at hi
    exact .inl (by rw [List.getElem?_cons_succ, List.getElem?_cons_succ, List.getElem?_append_left (by omega)])
theorem fits_ints (n : Nat) (ns : List Int) : fitsL n (ns.map PV.int) = true := by
  induction ns with
  | nil => rfl
  | cons m ns ih =>
    show (true && fitsL n (ns.map PV.int)) = true
    rw [ih]; rfl
/-! ### operations on plain values -/
section
variable (S : Sto) (i j : Int) (k : Bool) (xs ys : List PV)
@[simp] theorem addP_int : addP (.int i) (.int j) S = .ok (.int (i + j)) S := rfl
@[simp] theorem addP_ib : addP (.int i) (.bl k) S = .ok (.int (i + b2i k)) S := rfl
@[simp] theorem addP_lst : addP (.nd .lst xs) (.nd .lst ys) S = mkNd .lst (xs ++ ys) S := rfl
@[simp] theorem addP_tup : addP (.nd .tup xs) (.nd .tup ys) S = mkNd .tup (xs ++ ys) S := rfl
@[simp] theorem subP_int : subP (.int i) (.int j) S = .ok (.int (i - j)) S := rfl
@[simp] theorem mulZ_int : mulZ (.int i) (.int j) S = if mulOk i j then .ok (.int (i * j)) S else .bad := rfl
theorem divP_int (h : 0 < j ∧ j.natAbs < DIVB) : divP (.int i) (.int j) S = .ok (.int (i / j)) S := by unfold divP; simp only; rw [if_pos h]
theorem modP_int (h : 0 < j) : modP (.int i) (.int j) S = .ok (.int (i % j)) S := by unfold modP; simp only; rw [if_pos h]
@[simp] theorem powP_int : powP (.int i) (.int j) S = if 0 ≤ j ∧ j ≤ 1000000 ∧ i.natAbs < 2 ^ 64 then .ok (.int (i ^ j.toNat)) S else .bad := rfl
@[simp] theorem ltZ_int : ltZ (.int i) (.int j) S = .ok (.bl (decide (i < j))) S := rfl
@[simp] theorem leZ_int : leZ (.int i) (.int j) S = .ok (.bl (decide (i ≤ j))) S := rfl
@[simp] theorem gtZ_int : gtZ (.int i) (.int j) S = .ok (.bl (decide (j < i))) S := rfl
@[simp] theorem geZ_int : geZ (.int i) (.int j) S = .ok (.bl (decide (j ≤ i))) S := rfl
@[simp] theorem eqZ_str (a b : Str) : eqZ (.str a) (.str b) S = .ok (.bl (decide (a = b))) S := rfl
@[simp] theorem neZ_str (a b : Str) : neZ (.str a) (.str b) S = .ok (.bl (!decide (a = b))) S := rfl
theorem shaped_int : SeqAt.shaped (.int i) = true := by
  unfold SeqAt.shaped
  simp [PyData.canLay0, PyData.depth]
@[simp] theorem eqZ_int : eqZ (.int i) (.int j) S = .ok (.bl (decide (i = j))) S := by
  show eqD (.int i) (.int j) S = _
  unfold eqD datS view
  simp only [dat, shaped_int, and_self, if_true, PyData.eqv]
  rfl
@[simp] theorem neZ_int : neZ (.int i) (.int j) S = .ok (.bl (!decide (i = j))) S := by
  show neD (.int i) (.int j) S = _
  unfold neD datS view
  simp only [dat, shaped_int, and_self, if_true, PyData.eqv]
  rfl
@[simp] theorem negP_int : negP (.int i) S = .ok (.int (-i)) S := rfl
@[simp] theorem intP_int : intP [.int i] S = .ok (.int i) S := rfl
@[simp] theorem intP_bl : intP [.bl k] S = .ok (.int (if k then 1 else 0)) S := rfl
@[simp] theorem absP_int : absP [.int i] S = .ok (.int (if i < 0 then -i else i)) S := rfl
@[simp] theorem lenP_nd_lst : lenP [.nd .lst xs] S = .ok (.int xs.length) S := rfl
@[simp] theorem lenP_nd_tup : lenP [.nd .tup xs] S = .ok (.int xs.length) S := rfl
@[simp] theorem lenP_nd_scr : lenP [.nd .scr xs] S = .ok (.int xs.length) S := rfl
@[simp] theorem listP_lst : listP [.nd .lst xs] S = .ok (.nd .lst xs) S := rfl
@[simp] theorem listP_tup : listP [.nd .tup xs] S = .ok (.nd .lst xs) S := rfl
@[simp] theorem listP_scr : listP [.nd .scr xs] S = .ok (.nd .lst xs) S := rfl
@[simp] theorem tupP_lst : tupP [.nd .lst xs] S = .ok (.nd .tup xs) S := rfl
@[simp] theorem tupP_tup : tupP [.nd .tup xs] S = .ok (.nd .tup xs) S := rfl
@[simp] theorem isZ_non (x : PV) : isZ x .non S = .ok (.bl x.isNon) S := by cases x <;> rfl
@[simp] theorem isntZ_non (x : PV) : isntZ x .non S = .ok (.bl (!x.isNon)) S := by cases x <;> rfl
@[simp] theorem isNon_int : (PV.int i).isNon = false := rfl
@[simp] theorem isNon_non : PV.non.isNon = true := rfl
@[simp] theorem truP_bl : truP (.bl k) S = .ok k S := rfl
@[simp] theorem itOf_lst : itOf (.nd .lst xs) S = .ok ⟨xs, []⟩ S := rfl
@[simp] theorem itOf_tup : itOf (.nd .tup xs) S = .ok ⟨xs, []⟩ S := rfl
@[simp] theorem sliZ_lst (lo hi : Option Int) : sliZ (.nd .lst xs) lo hi S = .ok (.nd .lst (cutP xs lo hi)) S := rfl
@[simp] theorem sliZ_scr (lo hi : Option Int) : sliZ (.nd .scr xs) lo hi S = .ok (.nd .lst (cutP xs lo hi)) S := rfl
@[simp] theorem sliZ_tup (lo hi : Option Int) : sliZ (.nd .tup xs) lo hi S = .ok (.nd .tup (cutP xs lo hi)) S := rfl
theorem subZ_lst {x : PV} (h : atI xs i = some x) : subZ (.nd .lst xs) (.int i) S = .ok x S := by
  simp only [subZ, view]
  rw [h]
theorem subZ_tup {x : PV} (h : atI xs i = some x) : subZ (.nd .tup xs) (.int i) S = .ok x S := by
  simp only [subZ, view]
  rw [h]
theorem subZ_ref {n : Nat} {x : PV} (hn : S[n]? = some (some (.lst, xs))) (h : atI xs i = some x) : subZ (.ref n) (.int i) S = .ok x S := by
  simp only [subZ]
  rw [view_ref hn]
  simp only
  rw [h]
theorem atI_ofNat {α : Type} (xs : List α) (n : Nat) : atI xs (n : Int) = xs[n]? := by
  cases h : xs[n]? with
  | some v => exact atI_nat h
  | none =>
    unfold atI ixN
    have : ¬ (n : Int) < xs.length := by
      have := List.getElem?_eq_none_iff.mp h
      omega
    simp [this]
theorem mkNd_ok {kd : Kd} {xs : List PV} (h : xs.length ≤ 16777216) : mkNd kd xs S = .ok (.nd kd xs) S := by unfold mkNd; rw [if_pos h]
theorem mkRf_ok {kd : Kd} {xs : List PV} (h : xs.length ≤ 16777216) : mkRf kd xs S = .ok (.ref S.length) (S ++ [some (kd, xs)]) := by unfold mkRf; rw [if_pos h]
theorem mulOk_l {i j : Int} (h : i.natAbs < 18446744073709551616) : mulOk i j := .inl (by omega)
theorem mulOk_r {i j : Int} (h : j.natAbs < 18446744073709551616) : mulOk i j := .inr (.inl (by omega))
theorem divb_of {n : Nat} (h : n < 18446744073709551616) : n < DIVB := lt_DIVB (k := 64) (by omega) (by decide)
end
/-! ### data -/
theorem datL_ints (ns : List Int) : datL (ns.map PV.int) = some (ns.map PyData.int) := by
  induction ns with
  | nil => rfl
  | cons n ns ih => rw [List.map_cons, datL, dat, ih]; rfl
theorem canLay_ints (ns : List Int) : PyData.canLayAll0 (ns.map PyData.int) = true := by
  induction ns with
  | nil => rfl
  | cons n ns ih => rw [List.map_cons, PyData.canLayAll0, ih]; rfl
theorem depth_ints (ns : List Int) : PyData.depthAll (ns.map PyData.int) = 0 := by
  induction ns with
  | nil => rfl
  | cons n ns ih => rw [List.map_cons, PyData.depthAll, ih]; rfl
theorem shaped_ints (ns : List Int) : SeqAt.shaped (.list (ns.map PyData.int)) = true := by
  unfold SeqAt.shaped
  rw [PyData.canLay0, PyData.depth, canLay_ints, depth_ints]; rfl
theorem shaped_intsT (ns : List Int) : SeqAt.shaped (.tuple (ns.map PyData.int)) = true := by
  unfold SeqAt.shaped
  rw [PyData.canLay0, PyData.depth, canLay_ints, depth_ints]; rfl
theorem eqv_ints : ∀ ns ms : List Int, PyData.eqvAll (ns.map PyData.int) (ms.map PyData.int) = decide (ns = ms)
  | [], [] => by rw [List.map_nil, PyData.eqvAll]; simp
  | [], m :: ms => by rw [List.map_nil, List.map_cons, PyData.eqvAll]; simp
  | n :: ns, [] => by rw [List.map_nil, List.map_cons, PyData.eqvAll]; simp
  | n :: ns, m :: ms => by
    rw [List.map_cons, List.map_cons, PyData.eqvAll, PyData.eqv, eqv_ints ns ms]
    by_cases h : n = m <;> simp [h]
/-- a list that is compared with [] -/
theorem datL_len : ∀ (xs : List PV) (ds : List PyData), datL xs = some ds → ds.length = xs.length
  | [], ds, h => by rw [datL] at h; cases h; rfl
  | x :: xs, ds, h => by
    rw [datL, Option.bind_eq_some_iff] at h
    obtain ⟨d, h1, h2⟩ := h
    rw [Option.map_eq_some_iff] at h2
    obtain ⟨ds', h3, rfl⟩ := h2
    rw [List.length_cons, List.length_cons, datL_len xs ds' h3]
theorem eqv_nil (ds : List PyData) : PyData.eqv (.list ds) (.list []) = decide (ds = []) := by
  cases ds <;> rw [PyData.eqv, PyData.eqvAll] <;> simp
theorem shaped_nil : SeqAt.shaped (.list []) = true := by
  unfold SeqAt.shaped; rw [PyData.canLay0, PyData.canLayAll0]; rfl
theorem neZ_nil {xs : List PV} {ds : List PyData} {S : Sto} (h : datL xs = some ds) (hs : SeqAt.shaped (.list ds) = true) : neZ (.nd .lst xs) (.nd .lst []) S = .ok (.bl (!decide (xs = []))) S := by
  show neD (.nd .lst xs) (.nd .lst []) S = _
  unfold neD datS view
  simp only [dat, h, datL, Option.map_some, hs, shaped_nil, and_self, if_true, eqv_nil]
  have := datL_len xs ds h
  have e : decide (ds = []) = decide (xs = []) := by
    cases ds with
    | nil => cases xs with
      | nil => rfl
      | cons x xs => simp at this
    | cons d ds => cases xs with
      | nil => simp at this
      | cons x xs => rfl
  rw [e]
theorem eqZ_nil {xs : List PV} {ds : List PyData} {S : Sto} (h : datL xs = some ds) (hs : SeqAt.shaped (.list ds) = true) : eqZ (.nd .lst xs) (.nd .lst []) S = .ok (.bl (decide (xs = []))) S := by
  show eqD (.nd .lst xs) (.nd .lst []) S = _
  unfold eqD datS view
  simp only [dat, h, datL, Option.map_some, hs, shaped_nil, and_self, if_true, eqv_nil]
  have := datL_len xs ds h
  have e : decide (ds = []) = decide (xs = []) := by
    cases ds with
    | nil => cases xs with
      | nil => rfl
      | cons x xs => simp at this
    | cons d ds => cases xs with
      | nil => simp at this
      | cons x xs => rfl
  rw [e]
end Z
end
end
section
set_option Elab.async false
set_option linter.all false
set_option maxRecDepth 100000
set_option maxHeartbeats 1000000
/-! ZD: the laws' pen. -/
noncomputable section
namespace Z
open PySem PySem.Spec PyProof.Rows L2

/-- the pen as it stands in the store -/
def pn (cs : List Int) (a lf : Int) : Option (Kd × List PV) := some (.lst, [.nd .lst (cs.map .int), .int a, .int lf])
section
variable {cs : List Int} {a lf v : Int} {T : Sto}
theorem pn_0 : subZ (.ref 0) (.int 0) (pn cs a lf :: T) = .ok (.nd .lst (cs.map .int)) (pn cs a lf :: T) := rfl
theorem pn_1 : subZ (.ref 0) (.int 1) (pn cs a lf :: T) = .ok (.int a) (pn cs a lf :: T) := rfl
theorem pn_2 : subZ (.ref 0) (.int 2) (pn cs a lf :: T) = .ok (.int lf) (pn cs a lf :: T) := rfl
theorem pn_p1 : putP (.ref 0) (.int 1) (.int v) (pn cs a lf :: T) = some (pn cs v lf :: T) := rfl
theorem pn_p2 : putP (.ref 0) (.int 2) (.int v) (pn cs a lf :: T) = some (pn cs a v :: T) := rfl
end
def drawT (m1 k3 k4 m2 k5 k6 k7 m3 : Int) : DS := dSeq (dIfS (dAndT (dB (dBin ltZ (dVar 3) (dApp lenP (dCons (dBin subZ (dVar 0) (dC (.int 0))) (dNil))))) (dB (dBin geZ (dApp absP (dCons (dVar 4) (dNil))) (dBin powP (dC (.int 10)) (dC (.int 18)))))) (dSeq (dSet 5 (dBin addP (dBin mulZ (dC (.int 2)) (dBin subP (dApp absP (dCons (dVar 4) (dNil))) (dBin powP (dC (.int 10)) (dC (.int 18))))) (dApp intP (dCons (dBin ltZ (dVar 4) (dC (.int 0))) (dNil))))) (dSeq (dAsg (dBin divP (dApp intP (dCons (dVar 5) (dNil))) (dVar 1)) (gzI (dVar 0) (dC (.int 2)))) (dRet (dBin modP (dApp intP (dCons (dVar 5) (dNil))) (dVar 1))))) (dSkip)) (dSeq (dSet 6 (dBin modP (dApp intP (dCons (dBin powP (dBin addP (dBin addP (dBin modP (dApp intP (dCons (dVar 4) (dNil))) (dC (.int m1))) (dBin mulZ (dC (.int k3)) (dVar 3))) (dC (.int k4))) (dC (.int 5))) (dNil))) (dC (.int m2)))) (dSeq (dSet 6 (dBin modP (dApp intP (dCons (dBin powP (dBin addP (dBin addP (dBin mulZ (dVar 6) (dBin addP (dBin mulZ (dC (.int 2)) (dVar 3)) (dC (.int k5)))) (dBin mulZ (dBin mulZ (dC (.int k6)) (dVar 3)) (dVar 3))) (dC (.int k7))) (dC (.int 3))) (dNil))) (dC (.int m3)))) (dRet (dBin modP (dApp intP (dCons (dBin divP (dVar 6) (dC (.int 32))) (dNil))) (dVar 1)))))
def drawB (k1 k2 m1 k3 k4 m2 k5 k6 k7 m3 : Int) : DS := dSeq (dIfS (dB (dBin gtZ (dBin subZ (dVar 0) (dC (.int 2))) (dC (.int 0)))) (dSeq (dSet 2 (dBin modP (dApp intP (dCons (dBin subZ (dVar 0) (dC (.int 2))) (dNil))) (dVar 1))) (dSeq (dAsg (dBin divP (dApp intP (dCons (dBin subZ (dVar 0) (dC (.int 2))) (dNil))) (dVar 1)) (gzI (dVar 0) (dC (.int 2)))) (dRet (dVar 2)))) (dSkip)) (dSeq (dSet 3 (dBin subZ (dVar 0) (dC (.int 1)))) (dSeq (dAsg (dBin addP (dVar 3) (dC (.int 1))) (gzI (dVar 0) (dC (.int 1)))) (dSeq (dSet 4 (dBin addP (dBin mulZ (dC (.int k1)) (dVar 3)) (dC (.int k2)))) (dSeq (dIfS (dB (dBin neZ (dBin subZ (dVar 0) (dC (.int 0))) (dLst (dNil)))) (dSet 4 (dBin subZ (dBin subZ (dVar 0) (dC (.int 0))) (dBin modP (dApp intP (dCons (dVar 3) (dNil))) (dApp lenP (dCons (dBin subZ (dVar 0) (dC (.int 0))) (dNil)))))) (dSkip)) (drawT m1 k3 k4 m2 k5 k6 k7 m3)))))
/-- small constants -/
abbrev Sm (k : Int) : Prop := 0 ≤ k ∧ k ≤ 1000000
abbrev Md (k : Int) : Prop := 0 < k ∧ k ≤ 4294967296
theorem wk {e : Int} (h1 : 0 ≤ e) (h2 : e < 18446744073709551616) : e.natAbs < 2 ^ 64 := by omega
theorem atI_mod {cs : List Int} (h : cs ≠ []) (a : Int) : ∃ c, atI (cs.map PV.int) (a % (cs.length : Nat)) = some (.int c) := by
  have hl : 0 < cs.length := List.length_pos_iff.mpr h
  have h1 := Int.emod_nonneg a (b := (cs.length : Nat)) (by omega)
  have h2 := Int.emod_lt_of_pos a (b := (cs.length : Nat)) (by omega)
  obtain ⟨n, hn⟩ := Int.eq_ofNat_of_zero_le h1
  rw [hn] at h2 ⊢
  have h3 : n < cs.length := by omega
  refine ⟨cs[n], ?_⟩
  rw [atI_ofNat, List.getElem?_map, List.getElem?_eq_getElem h3]; rfl
theorem natAbs_pos {e : Int} (h : 0 ≤ e) {n : Nat} (h2 : e < n) : e.natAbs < n := by omega
theorem tail_ok {m1 k3 k4 m2 k5 k6 k7 m3 : Int} (s3 : Sm k3) (s4 : Sm k4) (s5 : Sm k5) (s6 : Sm k6) (s7 : Sm k7) (d1 : Md m1) (d2 : Md m2) (d3 : Md m3)
    {cs : List Int} {a many c : Int} {T : Sto} (hm : 1 ≤ many) (hm2 : many ≤ 1000000000) (ha : 0 ≤ a) (ha2 : a ≤ 100000) :
    ∃ v lf', drawT m1 k3 k4 m2 k5 k6 k7 m3 [some (.ref 0), some (.int many), none, some (.int a), some (.int c), none, none] (pn cs (a + 1) 0 :: T) = .ret (.int v) (pn cs (a + 1) lf' :: T) ∧ 0 ≤ v ∧ v < many ∧ 0 ≤ lf' := by
  have dm : 0 < many ∧ many.natAbs < DIVB := ⟨by omega, divb_of (by omega)⟩
  have pm : 0 < many := by omega
  have e18 : (10 : Int) ^ (18 : Int).toNat = 1000000000000000000 := by decide
  by_cases h : a < cs.length ∧ 1000000000000000000 ≤ (if c < 0 then -c else c)
  · obtain ⟨h1, h2⟩ := h
    have hg : 0 ≤ 2 * ((if c < 0 then -c else c) - 1000000000000000000) + (if c < 0 then 1 else 0) := by split <;> split at h2 <;> omega
    refine ⟨(2 * ((if c < 0 then -c else c) - 1000000000000000000) + (if c < 0 then 1 else 0)) % many, (2 * ((if c < 0 then -c else c) - 1000000000000000000) + (if c < 0 then 1 else 0)) / many, ?_, Int.emod_nonneg _ (by omega), Int.emod_lt_of_pos _ pm, Int.ediv_nonneg hg (by omega)⟩
    unfold drawT
    have mo : mulOk 2 ((if c < 0 then -c else c) - 1000000000000000000) := mulOk_l (by decide)
    simp [pn_0, pn_2, pn_p2, h1, h2, modP_int _ _ _ pm, divP_int _ _ _ dm, mo]
  · have hq1 : 0 ≤ c % m1 := Int.emod_nonneg _ (by omega)
    have hq2 : c % m1 < m1 := Int.emod_lt_of_pos _ (by omega)
    have hk3 : 0 ≤ k3 * a := Int.mul_nonneg s3.1 ha
    have hk3' : k3 * a ≤ 1000000 * 100000 := Int.mul_le_mul s3.2 ha2 ha (by decide)
    have he1 : (c % m1 + k3 * a + k4).natAbs < 18446744073709551616 := by omega
    generalize hE1 : c % m1 + k3 * a + k4 = e1 at he1
    have hr1 : 0 ≤ e1 ^ 5 % m2 := Int.emod_nonneg _ (by omega)
    have hr2 : e1 ^ 5 % m2 < m2 := Int.emod_lt_of_pos _ (by omega)
    have hk6 : 0 ≤ k6 * a := Int.mul_nonneg s6.1 ha
    have hk6' : k6 * a ≤ 1000000 * 100000 := Int.mul_le_mul s6.2 ha2 ha (by decide)
    have hk6a : 0 ≤ k6 * a * a := Int.mul_nonneg hk6 ha
    have hk6a' : k6 * a * a ≤ 1000000 * 100000 * 100000 := Int.mul_le_mul hk6' ha2 ha (by decide)
    have hp : 0 ≤ e1 ^ 5 % m2 * (2 * a + k5) := Int.mul_nonneg hr1 (by omega)
    have hp' : e1 ^ 5 % m2 * (2 * a + k5) ≤ 4294967296 * 1200000 := Int.mul_le_mul (by omega) (by omega) (by omega) (by decide)
    have he2 : (e1 ^ 5 % m2 * (2 * a + k5) + k6 * a * a + k7).natAbs < 18446744073709551616 := by omega
    have mo1 : mulOk k3 a := mulOk_l (by omega)
    have mo2 : mulOk 2 a := mulOk_l (by decide)
    have mo3 : mulOk k6 a := mulOk_l (by omega)
    have mo4 : mulOk (k6 * a) a := mulOk_r (by omega)
    have mo5 : mulOk (e1 ^ 5 % m2) (2 * a + k5) := mulOk_l (by omega)
    have q1 : 0 < m1 := d1.1
    have q2 : 0 < m2 := d2.1
    have q3 : 0 < m3 := d3.1
    have d32 : (0 : Int) < 32 ∧ (32 : Int).natAbs < DIVB := ⟨by decide, divb_of (by decide)⟩
    refine ⟨(e1 ^ 5 % m2 * (2 * a + k5) + k6 * a * a + k7) ^ 3 % m3 / 32 % many, 0, ?_, Int.emod_nonneg _ (by omega), Int.emod_lt_of_pos _ pm, Int.le_refl _⟩
    have hn : (decide (a < (cs.length : Int)) && decide (1000000000000000000 ≤ (if c < 0 then -c else c))) = false := by
      rw [Bool.and_eq_false_iff]
      by_cases hc : a < (cs.length : Int)
      · right
        exact decide_eq_false fun z => h ⟨hc, z⟩
      · left
        exact decide_eq_false hc
    unfold drawT
    by_cases hc : a < (cs.length : Int)
    · have hc2 : ¬ 1000000000000000000 ≤ (if c < 0 then -c else c) := fun z => h ⟨hc, z⟩
      simp [pn_0, pn_2, hc, hc2, modP_int _ _ _ pm, modP_int _ _ _ q1, modP_int _ _ _ q2, modP_int _ _ _ q3, divP_int _ _ _ d32, mo1, mo2, mo3, mo4, mo5, hE1, he1, he2]
    · simp [pn_0, pn_2, hc, modP_int _ _ _ pm, modP_int _ _ _ q1, modP_int _ _ _ q2, modP_int _ _ _ q3, divP_int _ _ _ d32, mo1, mo2, mo3, mo4, mo5, hE1, he1, he2]
theorem draw_ok {k1 k2 m1 k3 k4 m2 k5 k6 k7 m3 : Int} (s1 : Sm k1) (s3 : Sm k3) (s4 : Sm k4) (s5 : Sm k5) (s6 : Sm k6) (s7 : Sm k7) (d1 : Md m1) (d2 : Md m2) (d3 : Md m3)
    {cs : List Int} {a lf many : Int} {T : Sto} (hm : 1 ≤ many) (hm2 : many ≤ 1000000000) (ha : 0 ≤ a) (ha2 : a ≤ 100000) (hlf : 0 ≤ lf) :
    ∃ v a' lf', dDef 2 7 (drawB k1 k2 m1 k3 k4 m2 k5 k6 k7 m3) [.ref 0, .int many] (pn cs a lf :: T) = .ok (.int v) (pn cs a' lf' :: T) ∧ 0 ≤ v ∧ v < many ∧ a ≤ a' ∧ a' ≤ a + 1 ∧ 0 ≤ lf' := by
  have dm : 0 < many ∧ many.natAbs < DIVB := ⟨by omega, divb_of (by omega)⟩
  have pm : 0 < many := by omega
  by_cases h : 0 < lf
  · refine ⟨lf % many, a, lf / many, ?_, Int.emod_nonneg _ (by omega), Int.emod_lt_of_pos _ pm, Int.le_refl _, by omega, Int.ediv_nonneg (by omega) (by omega)⟩
    refine dDef_ret _ _ rfl ?_ (Nat.le_refl _)
    unfold drawB
    simp [pn_2, pn_p2, h, modP_int _ _ _ pm, divP_int _ _ _ dm]
  · have h0 : lf = 0 := by omega
    subst h0
    have mo : mulOk k1 a := mulOk_l (by omega)
    by_cases hcs : cs = []
    · subst hcs
      obtain ⟨v, lf', h1, h2, h3, h4⟩ := tail_ok (cs := []) (c := k1 * a + k2) (T := T) s3 s4 s5 s6 s7 d1 d2 d3 hm hm2 ha ha2
      refine ⟨v, a + 1, lf', ?_, h2, h3, by omega, Int.le_refl _, h4⟩
      refine dDef_ret _ _ rfl ?_ (Nat.le_refl _)
      unfold drawB
      have hne := neZ_nil (S := pn [] (a + 1) 0 :: T) (datL_ints []) (shaped_ints [])
      simp [pn_0, pn_1, pn_2, pn_p1, mo, mkNd, hne] at hne ⊢
      exact h1
    · obtain ⟨c, hc⟩ := atI_mod hcs a
      obtain ⟨v, lf', h1, h2, h3, h4⟩ := tail_ok (cs := cs) (c := c) (T := T) s3 s4 s5 s6 s7 d1 d2 d3 hm hm2 ha ha2
      refine ⟨v, a + 1, lf', ?_, h2, h3, by omega, Int.le_refl _, h4⟩
      refine dDef_ret _ _ rfl ?_ (Nat.le_refl _)
      unfold drawB
      have hne := neZ_nil (S := pn cs (a + 1) 0 :: T) (datL_ints cs) (shaped_ints cs)
      have pl : 0 < (cs.length : Int) := by have := List.length_pos_iff.mpr hcs; omega
      simp [pn_0, pn_1, pn_2, pn_p1, mo, mkNd, hne, hcs, modP_int _ _ _ pl, subZ_lst _ _ _ hc]
      exact h1
end Z
end
end
section
set_option Elab.async false
set_option linter.all false
set_option maxRecDepth 100000
set_option maxHeartbeats 1000000
/-! ZL: loops and comprehensions by invariants; the pen by the number of its draws. -/
noncomputable section
namespace Z
open PySem PySem.Spec PyProof.Rows L2

theorem lcZ_pure {t : TgZ} {hs : List (PV × Kd × List PV)} {el : DE} {l : Loc} {S : Sto} {g : PV → PV} (hh : heldB hs S = true) : ∀ xs : List PV, (∀ x ∈ xs, ∃ ps, asg t x = some ps ∧ el (setZ l ps) S = .ok (g x) S) → lcZ t hs dYes el l xs S = .ok (xs.map g) S
  | [], _ => rfl
  | x :: xs, h => by
    obtain ⟨ps, h1, h2⟩ := h x List.mem_cons_self
    rw [lcZ, h1]
    simp only [dYes_ap]
    rw [h2]
    simp only
    rw [if_pos hh, lcZ_pure hh xs fun y hy => h y (List.mem_cons_of_mem _ hy)]
    rfl
theorem lcZ_inv {t : TgZ} {el : DE} {l : Loc} (P : PV → Prop) (I : Nat → Sto → Prop) : ∀ (xs : List PV) (k : Nat) (S : Sto), I k S →
    (∀ i x S, xs[i]? = some x → I (k + i) S → ∃ ps v S', asg t x = some ps ∧ el (setZ l ps) S = .ok v S' ∧ P v ∧ I (k + i + 1) S') →
    ∃ vs S', lcZ t [] dYes el l xs S = .ok vs S' ∧ vs.length = xs.length ∧ (∀ v ∈ vs, P v) ∧ I (k + xs.length) S'
  | [], k, S, h, _ => ⟨[], S, rfl, rfl, fun v hv => (nomatch hv), h⟩
  | x :: xs, k, S, h, st => by
    obtain ⟨ps, v, S1, h1, h2, h3, h4⟩ := st 0 x S rfl h
    obtain ⟨vs, S2, g1, g2, g3, g4⟩ := lcZ_inv P I xs (k + 1) S1 h4 fun i y S hy hI => by
      have e : k + (i + 1) = k + 1 + i := by omega
      have := st (i + 1) y S (by rw [List.getElem?_cons_succ]; exact hy) (by rw [e]; exact hI)
      rw [e] at this
      exact this
    refine ⟨v :: vs, S2, ?_, by rw [List.length_cons, g2]; rfl, fun w hw => ?_, (show k + (xs.length + 1) = k + 1 + xs.length by omega) ▸ g4⟩
    · rw [lcZ, h1]
      simp only [dYes_ap]
      rw [h2]
      simp only
      rw [heldB_nil, g1]
      rfl
    · rcases List.mem_cons.mp hw with e | e
      · rw [e]; exact h3
      · exact g3 w e
theorem forZ_inv {t : TgZ} {hs : List (PV × Kd × List PV)} {b : DS} (Q : Nat → Loc → Sto → Prop) : ∀ (xs : List PV) (k : Nat) (l : Loc) (S : Sto), Q k l S →
    (∀ i x l S, xs[i]? = some x → Q (k + i) l S → ∃ ps l' S', asg t x = some ps ∧ b (setZ l ps) S = .nx l' S' ∧ heldB hs S' = true ∧ Q (k + i + 1) l' S') →
    ∃ l' S', forZ t hs b xs l S = .nx l' S' ∧ Q (k + xs.length) l' S'
  | [], k, l, S, h, _ => ⟨l, S, rfl, h⟩
  | x :: xs, k, l, S, h, st => by
    obtain ⟨ps, l1, S1, h1, h2, h3, h4⟩ := st 0 x l S rfl h
    obtain ⟨l2, S2, g1, g2⟩ := forZ_inv Q xs (k + 1) l1 S1 h4 fun i y l S hy hI => by
      have e : k + (i + 1) = k + 1 + i := by omega
      have := st (i + 1) y l S (by rw [List.getElem?_cons_succ]; exact hy) (by rw [e]; exact hI)
      rw [e] at this
      exact this
    refine ⟨l2, S2, ?_, (show k + (xs.length + 1) = k + 1 + xs.length by omega) ▸ g2⟩
    rw [forZ, h1]
    simp only
    rw [h2]
    simp only
    rw [if_pos h3]
    exact g1
theorem dLc_pure {vs : List Nat} {di : DI} {t : TgZ} {el : DE} {l : Loc} {S : Sto} {it : ItZ} (g : PV → PV) (hi : di l S = .ok it S) (hh : heldB it.held S = true) (hl : it.items.length ≤ 16777216)
    (he : ∀ x ∈ it.items, ∃ ps, asg t x = some ps ∧ el (setZ (wipeZ l vs) ps) S = .ok (g x) S) : dLc vs di t dYes el l S = .ok (.nd .lst (it.items.map g)) S := by
  rw [dLc_ap, dLc0_ap, hi, bind_ok, if_pos ⟨hh, hl⟩, lcZ_pure hh it.items he, bind_ok]
theorem dLcM_pure {vs : List Nat} {di : DI} {t : TgZ} {el : DE} {l : Loc} {S : Sto} {it : ItZ} (g : PV → PV) (hi : di l S = .ok it S) (hh : heldB it.held S = true) (hl : it.items.length ≤ 16777216)
    (he : ∀ x ∈ it.items, ∃ ps, asg t x = some ps ∧ el (setZ (wipeZ l vs) ps) S = .ok (g x) S) : dLcM vs di t dYes el l S = .ok (.ref S.length) (S ++ [some (.lst, it.items.map g)]) := by
  rw [dLcM_ap, dLc0_ap, hi, bind_ok, if_pos ⟨hh, hl⟩, lcZ_pure hh it.items he, bind_ok]
theorem dFor_eq {di : DI} {t : TgZ} {b : DS} {l : Loc} {S : Sto} {it : ItZ} (h : di l S = .ok it S) (hh : heldB it.held S = true) : dFor di t b l S = forZ t it.held b it.items l S := by
  rw [dFor_ap, h, st_ok, if_pos hh]
theorem dLc_inv {vs : List Nat} {di : DI} {t : TgZ} {el : DE} {l : Loc} {S : Sto} {items : List PV} (P : PV → Prop) (I : Nat → Sto → Prop) (hi : di l S = .ok ⟨items, []⟩ S) (hl : items.length ≤ 16777216) (h0 : I 0 S)
    (st : ∀ i x S, items[i]? = some x → I i S → ∃ ps v S', asg t x = some ps ∧ el (setZ (wipeZ l vs) ps) S = .ok v S' ∧ P v ∧ I (i + 1) S') :
    ∃ ws S', dLc vs di t dYes el l S = .ok (.nd .lst ws) S' ∧ ws.length = items.length ∧ (∀ v ∈ ws, P v) ∧ I items.length S' := by
  obtain ⟨ws, S', h1, h2, h3, h4⟩ := lcZ_inv (t := t) (el := el) (l := wipeZ l vs) P I items 0 S h0 (by
    intro i x S hx hI
    rw [Nat.zero_add] at hI ⊢
    exact st i x S hx hI)
  rw [Nat.zero_add] at h4
  refine ⟨ws, S', ?_, h2, h3, h4⟩
  rw [dLc_ap, dLc0_ap, hi, bind_ok, if_pos ⟨heldB_nil S, hl⟩, h1, bind_ok]
theorem all_ints {B : Nat} : ∀ ws : List PV, (∀ v ∈ ws, ∃ i : Int, v = .int i ∧ i.natAbs ≤ B) → ∃ r : List Int, ws = r.map .int ∧ r.length = ws.length ∧ ∀ v ∈ r, v.natAbs ≤ B
  | [], _ => ⟨[], rfl, rfl, fun v hv => (nomatch hv)⟩
  | w :: ws, h => by
    obtain ⟨i, rfl, hi⟩ := h w List.mem_cons_self
    obtain ⟨r, rfl, h2, h3⟩ := all_ints ws fun v hv => h v (List.mem_cons_of_mem _ hv)
    refine ⟨i :: r, rfl, by rw [List.length_cons, h2]; rfl, fun v hv => ?_⟩
    rcases List.mem_cons.mp hv with e | e
    · rw [e]; exact hi
    · exact h3 v e
theorem rngZ_len (lo : Int) (n : Nat) : (rngZ lo n).length = n := by simp [rngZ]
theorem rngZ_get {lo : Int} {n i : Nat} {x : PV} (h : (rngZ lo n)[i]? = some x) : i < n ∧ x = .int (lo + (i : Nat)) := by
  have hi : i < n := by
    have := (List.getElem?_eq_some_iff.mp h).1
    rwa [rngZ_len] at this
  refine ⟨hi, ?_⟩
  simp [rngZ, hi] at h
  exact h.symm
theorem rngP_nat (n : Nat) (S : Sto) (h : n < 1000000000000) : rngP [.int (n : Int)] S = .ok ⟨rngZ 0 n, []⟩ S := by
  unfold rngP
  simp only
  rw [if_pos (by omega)]
  rfl
/-- a list of one value, n times -/
theorem mulZ_rep (x : PV) (n : Nat) (S : Sto) (h : n ≤ 16777216) : mulZ (.nd .lst [x]) (.int (n : Int)) S = .ok (.nd .lst (List.replicate n x)) S := by
  simp only [mulZ, view]
  rw [if_pos ⟨by omega, by omega, by simp; omega⟩]
  congr 2
  have : ((n : Int)).toNat = n := by omega
  rw [this]
  clear h this
  induction n with
  | zero => rfl
  | succ n ih => rw [List.replicate_succ, List.flatten_cons, ih, List.replicate_succ]; rfl
theorem asg2 {i j : Nat} {x y : PV} : asg (.tp [.nm i, .nm j]) (.nd .tup [x, y]) = some [(i, x), (j, y)] := by
  simp [asg, asgs]
theorem asg1 {i : Nat} {x : PV} : asg (.nm i) x = some [(i, x)] := by simp [asg]
theorem zipZ_map : ∀ fs ls : List Int, zipZ (fs.map PV.int) (ls.map PV.int) = (fs.zip ls).map fun p => .nd .tup [.int p.1, .int p.2]
  | [], ls => by simp [zipZ]
  | f :: fs, [] => by simp [zipZ]
  | f :: fs, l :: ls => by simp [zipZ, zipZ_map fs ls]
theorem atI_0 {α : Type} (x : α) (xs : List α) : atI (x :: xs) 0 = some x := atI_ofNat (x :: xs) 0
theorem subZ_l0 (x : PV) (xs : List PV) (S : Sto) : subZ (.nd .lst (x :: xs)) (.int 0) S = .ok x S := subZ_lst S 0 _ (atI_0 x xs)
theorem subZ_t0 (x : PV) (xs : List PV) (S : Sto) : subZ (.nd .tup (x :: xs)) (.int 0) S = .ok x S := subZ_tup S 0 _ (atI_0 x xs)
theorem sliZ_ref {n : Nat} {xs : List PV} {S : Sto} (h : S[n]? = some (some (.lst, xs))) (lo hi : Option Int) : sliZ (.ref n) lo hi S = .ok (.nd .lst (cutP xs lo hi)) S := by
  simp only [sliZ]
  rw [view_ref h]
def decI (x : PV) : List Int := match x with
  | .nd _ xs => (asIs xs).getD []
  | _ => []
theorem decI_nd (k : Kd) (r : List Int) : decI (.nd k (r.map .int)) = r := by show (asIs (r.map .int)).getD [] = r; rw [asIs_map]; rfl
theorem DIVB_lt {n : Nat} (h : n < DIVB) : n < BIG := by
  rw [DIVB_eq] at h
  exact lt_BIG h (by decide)
theorem mulOk_b {i j : Int} (h1 : i.natAbs < DIVB) (h2 : j.natAbs < DIVB) : mulOk i j := .inr (.inr ⟨DIVB_lt h1, DIVB_lt h2⟩)
theorem cutP_from (xs : List PV) (k : Nat) : cutP xs (some (k : Int)) none = xs.drop k := by
  unfold cutP
  rw [HT.sIx_nat, HT.sIx_none]
  by_cases h : k ≤ xs.length
  · rw [Nat.min_eq_left h, List.take_of_length_le (by simp)]
  · rw [Nat.min_eq_right (by omega), List.drop_of_length_le (Nat.le_refl _), List.drop_of_length_le (by omega)]
    simp
theorem cutP_to (xs : List PV) (k : Nat) : cutP xs none (some (k : Int)) = xs.take k := by
  unfold cutP
  rw [HT.sIx_nat, HT.sIx_none]
  by_cases h : k ≤ xs.length
  · rw [Nat.min_eq_left h]; simp
  · rw [Nat.min_eq_right (by omega), List.take_of_length_le (by omega : xs.length ≤ k)]; simp
theorem cutP_1 (xs : List PV) : cutP xs (some 1) none = xs.drop 1 := cutP_from xs 1
/-- the pen in front of T, after at most n draws -/
def PenS (n : Nat) (T S : Sto) : Prop := ∃ cs a lf, S = pn cs a lf :: T ∧ 0 ≤ a ∧ a ≤ n ∧ 0 ≤ lf
/-- what a law's draw keeps -/
def DrOk (dr : DF) : Prop := ∀ (n : Nat) (T S : Sto) (many : Int), PenS n T S → n ≤ 100000 → 1 ≤ many → many ≤ 1000000000 → ∃ v S', dr [.ref 0, .int many] S = .ok (.int v) S' ∧ 0 ≤ v ∧ v < many ∧ PenS (n + 1) T S'
theorem PenS.mono {n m : Nat} {T S : Sto} (h : PenS n T S) (hn : n ≤ m) : PenS m T S := by
  obtain ⟨cs, a, lf, h1, h2, h3, h4⟩ := h
  exact ⟨cs, a, lf, h1, h2, by omega, h4⟩
theorem PenS.len {n : Nat} {T S : Sto} (h : PenS n T S) : S.length = T.length + 1 := by
  obtain ⟨cs, a, lf, h1, _⟩ := h
  rw [h1]; rfl
/-- further places behind it -/
theorem PenS.app {n : Nat} {T S X : Sto} (h : PenS n T S) : PenS n (T ++ X) (S ++ X) := by
  obtain ⟨cs, a, lf, h1, h2⟩ := h
  exact ⟨cs, a, lf, by rw [h1]; rfl, h2⟩
theorem PenS.get {n : Nat} {T S : Sto} (h : PenS n T S) (i : Nat) : S[i + 1]? = T[i]? := by
  obtain ⟨cs, a, lf, h1, _⟩ := h
  rw [h1]; rfl
theorem PenS.set {n : Nat} {T S : Sto} (h : PenS n T S) (i : Nat) (o : Option (Kd × List PV)) : PenS n (T.set i o) (S.set (i + 1) o) := by
  obtain ⟨cs, a, lf, h1, h2⟩ := h
  exact ⟨cs, a, lf, by rw [h1]; rfl, h2⟩
/-- the pen's own places closed: what is behind T goes -/
theorem PenS.shut {n m : Nat} {T X S S1 : Sto} (h : PenS n T S) (h1 : PenS m (T ++ X) S1) : fitsS S S1 = true ∧ PenS m T (S1.take S.length) := by
  obtain ⟨cs, a, lf, e, _⟩ := h
  obtain ⟨cs1, a1, lf1, e1, q⟩ := h1
  subst e e1
  refine ⟨fitsS_head ?_, cs1, a1, lf1, ?_, q⟩
  · show (fits _ _ && _) = true
    rw [fits, fits_ints]; rfl
  · show (pn cs1 a1 lf1 :: (T ++ X)).take (T.length + 1) = _
    rw [List.take_succ_cons, List.take_left]
theorem dr_of {k1 k2 m1 k3 k4 m2 k5 k6 k7 m3 : Int} (s1 : Sm k1) (s3 : Sm k3) (s4 : Sm k4) (s5 : Sm k5) (s6 : Sm k6) (s7 : Sm k7) (d1 : Md m1) (d2 : Md m2) (d3 : Md m3) : DrOk (dDef 2 7 (drawB k1 k2 m1 k3 k4 m2 k5 k6 k7 m3)) := by
  rintro n T S many ⟨cs, a, lf, rfl, ha, ha2, hlf⟩ hn hm hm2
  obtain ⟨v, a', lf', h1, h2, h3, h4, h5, h6⟩ := draw_ok (T := T) (cs := cs) (lf := lf) s1 s3 s4 s5 s6 s7 d1 d2 d3 hm hm2 ha (by omega) hlf
  exact ⟨v, _, h1, h2, h3, cs, a', lf', rfl, by omega, by omega, h6⟩
def pickB (dr : DF) : DS := dRet (dBin subZ (dVar 1) (dFn dr (dCons (dVar 0) (dCons (dApp lenP (dCons (dVar 1) (dNil))) (dNil)))))
theorem pick_ok {dr : DF} (hd : DrOk dr) {n : Nat} {T S : Sto} {xs : List PV} (h : PenS n T S) (hn : n ≤ 100000) (hx : xs ≠ []) (hx2 : xs.length ≤ 1000000000) : ∃ x S', dDef 2 2 (pickB dr) [.ref 0, .nd .lst xs] S = .ok x S' ∧ x ∈ xs ∧ PenS (n + 1) T S' := by
  have hl : 0 < xs.length := List.length_pos_iff.mpr hx
  obtain ⟨v, S', h1, h2, h3, h4⟩ := hd n T S xs.length h hn (by omega) (by omega)
  obtain ⟨i, rfl⟩ := Int.eq_ofNat_of_zero_le h2
  have hi : i < xs.length := by omega
  refine ⟨xs[i], S', ?_, List.getElem_mem hi, h4⟩
  refine dDef_ret _ _ rfl ?_ (by rw [h4.len, h.len]; exact Nat.le_refl _)
  unfold pickB
  have hat : atI xs (i : Int) = some xs[i] := by rw [atI_ofNat, List.getElem?_eq_getElem hi]
  simp [h1, subZ_lst _ _ _ hat]
theorem optMap_id {g : PV → Option PV} : ∀ xs : List PV, (∀ x ∈ xs, g x = some x) → optMap g xs = some xs
  | [], _ => rfl
  | x :: xs, h => by
    rw [optMap, h x List.mem_cons_self, Option.bind_some, optMap_id xs fun y hy => h y (List.mem_cons_of_mem _ hy)]; rfl
theorem thaw_nd {f n : Nat} {S : Sto} {k : Kd} {xs : List PV} (h : fitsL n xs = true) : thaw (f + 1) n S (.nd k xs) = some (.nd k xs) := by
  rw [thaw, if_pos h]
theorem thaw_ref {f n m : Nat} {S : Sto} {k : Kd} {xs : List PV} (hm : n ≤ m) (h : S[m]? = some (some (k, xs))) (hx : ∀ x ∈ xs, thaw f n S x = some x) : thaw (f + 1) n S (.ref m) = some (.nd k xs) := by
  rw [thaw, if_neg (by omega), h]
  simp only
  rw [optMap_id xs hx]; rfl
theorem appP_at {n : Nat} {xs : List PV} {S : Sto} {y : PV} (h : S[n]? = some (some (.lst, xs))) (hl : xs.length < 16777216) : appP (.ref n) [y] S = .ok .non (S.set n (some (.lst, xs ++ [y]))) := by
  unfold appP
  simp only [h]
  rw [if_pos hl]
theorem tyOk_ref {n : Nat} {xs : List PV} {S : Sto} (h : S[n]? = some (some (.lst, xs))) : tyOk "list" (.ref n) S = true := by
  unfold tyOk tyZ
  simp only [view_ref h]
  decide
/-- the last place behind the pen -/
theorem PenS.last {n : Nat} {T S : Sto} {o : Option (Kd × List PV)} (h : PenS n (T ++ [o]) S) : S[T.length + 1]? = some o := by
  rw [h.get, List.getElem?_append_right (Nat.le_refl _)]; simp
theorem PenS.setLast {n : Nat} {T S : Sto} {o o' : Option (Kd × List PV)} (h : PenS n (T ++ [o]) S) : PenS n (T ++ [o']) (S.set (T.length + 1) o') := by
  have := h.set T.length o'
  rw [List.set_append_right _ _ (Nat.le_refl _), Nat.sub_self] at this
  exact this
end Z
end
end
section
set_option Elab.async false
set_option linter.all false
set_option maxRecDepth 100000
set_option maxHeartbeats 1000000
/-! MD: determinants by operators on functions of column lists; the fraction-free clearing. -/
namespace Dt
abbrev Rw := Nat → Int
/-- one row's expansion -/
def Tp (r : Rw) : List Nat → (List Nat → Int) → Int
  | [], _ => 0
  | c :: cs, F => r c * F cs - Tp r cs fun x => F (c :: x)
def D : List Rw → List Nat → Int
  | [], [] => 1
  | [], _ :: _ => 0
  | r :: rs, cs => Tp r cs (D rs)
theorem tp_zero (r : Rw) : ∀ cs, Tp r cs (fun _ => 0) = 0
  | [] => rfl
  | c :: cs => by rw [Tp, tp_zero r cs]; simp
theorem tp_add (r : Rw) : ∀ (cs : List Nat) (F G : List Nat → Int), Tp r cs (fun x => F x + G x) = Tp r cs F + Tp r cs G
  | [], F, G => rfl
  | c :: cs, F, G => by
    rw [Tp, Tp, Tp, tp_add r cs (fun x => F (c :: x)) (fun x => G (c :: x)), Int.mul_add]
    omega
theorem tp_smul (r : Rw) (k : Int) : ∀ (cs : List Nat) (F : List Nat → Int), Tp r cs (fun x => k * F x) = k * Tp r cs F
  | [], F => by simp [Tp]
  | c :: cs, F => by
    rw [Tp, Tp, tp_smul r k cs (fun x => F (c :: x)), Int.mul_sub, Int.mul_left_comm]
theorem tp_neg (r : Rw) (cs : List Nat) (F : List Nat → Int) : Tp r cs (fun x => - F x) = - Tp r cs F := by
  have h := tp_smul r (-1) cs F
  have e : (fun x => - F x) = fun x => -1 * F x := by funext x; omega
  rw [e, h]; omega
theorem tp_sub (r : Rw) (cs : List Nat) (F G : List Nat → Int) : Tp r cs (fun x => F x - G x) = Tp r cs F - Tp r cs G := by
  have e : (fun x => F x - G x) = fun x => F x + -G x := by funext x; omega
  rw [e, tp_add, tp_neg]; omega
theorem tp_radd (r s : Rw) : ∀ (cs : List Nat) (F : List Nat → Int), Tp (fun j => r j + s j) cs F = Tp r cs F + Tp s cs F
  | [], F => rfl
  | c :: cs, F => by
    rw [Tp, Tp, Tp, tp_radd r s cs (fun x => F (c :: x)), Int.add_mul]
    omega
theorem tp_rsmul (r : Rw) (k : Int) : ∀ (cs : List Nat) (F : List Nat → Int), Tp (fun j => k * r j) cs F = k * Tp r cs F
  | [], F => by simp [Tp]
  | c :: cs, F => by
    rw [Tp, Tp, tp_rsmul r k cs (fun x => F (c :: x)), Int.mul_sub, Int.mul_assoc]
/-- two rows' expansions change the sign as they are exchanged -/
theorem tp_anti (r s : Rw) : ∀ (cs : List Nat) (F : List Nat → Int), Tp r cs (fun x => Tp s x F) = - Tp s cs (fun x => Tp r x F)
  | [], F => rfl
  | c :: cs, F => by
    rw [Tp, Tp]
    have e1 : (fun x => Tp s (c :: x) F) = fun x => s c * F x - Tp s x (fun y => F (c :: y)) := rfl
    have e2 : (fun x => Tp r (c :: x) F) = fun x => r c * F x - Tp r x (fun y => F (c :: y)) := rfl
    rw [e1, e2, tp_sub, tp_sub, tp_smul, tp_smul, tp_anti r s cs (fun y => F (c :: y))]
    omega
theorem tp_self (r : Rw) (cs : List Nat) (F : List Nat → Int) : Tp r cs (fun x => Tp r x F) = 0 := by
  have := tp_anti r r cs F
  omega
/-- rows' expansions, one within another -/
def TT : List Rw → List Nat → (List Nat → Int) → Int
  | [], cs, F => F cs
  | r :: rs, cs, F => Tp r cs fun x => TT rs x F
theorem D_app : ∀ (rs ss : List Rw) (cs : List Nat), D (rs ++ ss) cs = TT rs cs (D ss)
  | [], ss, cs => rfl
  | r :: rs, ss, cs => by
    show Tp r cs (D (rs ++ ss)) = Tp r cs fun x => TT rs x (D ss)
    congr 1
    funext x
    exact D_app rs ss x
theorem D_cons (r : Rw) (rs : List Rw) (cs : List Nat) : D (r :: rs) cs = Tp r cs (D rs) := rfl
theorem tt_smul (k : Int) : ∀ (rs : List Rw) (cs : List Nat) (F : List Nat → Int), TT rs cs (fun x => k * F x) = k * TT rs cs F
  | [], cs, F => rfl
  | r :: rs, cs, F => by
    show Tp r cs (fun x => TT rs x fun y => k * F y) = k * Tp r cs fun x => TT rs x F
    rw [← tp_smul]
    congr 1
    funext x
    exact tt_smul k rs x F
theorem tt_neg (rs : List Rw) (cs : List Nat) (F : List Nat → Int) : TT rs cs (fun x => - F x) = - TT rs cs F := by
  have e : (fun x => - F x) = fun x => -1 * F x := by funext x; omega
  rw [e, tt_smul]; omega
theorem tt_add : ∀ (rs : List Rw) (cs : List Nat) (F G : List Nat → Int), TT rs cs (fun x => F x + G x) = TT rs cs F + TT rs cs G
  | [], cs, F, G => rfl
  | r :: rs, cs, F, G => by
    show Tp r cs (fun x => TT rs x fun y => F y + G y) = Tp r cs (fun x => TT rs x F) + Tp r cs (fun x => TT rs x G)
    rw [← tp_add]
    congr 1
    funext x
    exact tt_add rs x F G
/-- two rows exchanged, whatever stands between -/
theorem tt_swap (a b : Rw) : ∀ (M : List Rw) (cs : List Nat) (F : List Nat → Int), Tp a cs (fun x => TT M x fun y => Tp b y F) = - Tp b cs (fun x => TT M x fun y => Tp a y F)
  | [], cs, F => tp_anti a b cs F
  | m :: M, cs, F => by
    show Tp a cs (fun x => Tp m x fun z => TT M z fun y => Tp b y F) = - Tp b cs (fun x => Tp m x fun z => TT M z fun y => Tp a y F)
    rw [tp_anti a m cs (fun z => TT M z fun y => Tp b y F), tp_anti b m cs (fun z => TT M z fun y => Tp a y F)]
    have e : (fun x => Tp a x fun z => TT M z fun y => Tp b y F) = fun x => - Tp b x fun z => TT M z fun y => Tp a y F := by
      funext x; exact tt_swap a b M x F
    rw [e, tp_neg]
theorem D_swap (P : List Rw) (a b : Rw) (M Q : List Rw) (cs : List Nat) : D (P ++ (a :: (M ++ b :: Q))) cs = - D (P ++ (b :: (M ++ a :: Q))) cs := by
  rw [D_app, D_app, ← tt_neg]
  congr 1
  funext x
  rw [D_cons, D_cons]
  have e1 : D (M ++ b :: Q) = fun y => TT M y fun z => Tp b z (D Q) := by funext y; rw [D_app]; rfl
  have e2 : D (M ++ a :: Q) = fun y => TT M y fun z => Tp a z (D Q) := by funext y; rw [D_app]; rfl
  rw [e1, e2]
  exact tt_swap a b M x (D Q)
/-- a row that stands twice -/
theorem D_twice (P : List Rw) (a : Rw) (M Q : List Rw) (cs : List Nat) : D (P ++ (a :: (M ++ a :: Q))) cs = 0 := by
  have := D_swap P a a M Q cs
  omega
theorem D_add (P : List Rw) (a b : Rw) (Q : List Rw) (cs : List Nat) : D (P ++ (fun j => a j + b j) :: Q) cs = D (P ++ a :: Q) cs + D (P ++ b :: Q) cs := by
  rw [D_app, D_app, D_app, ← tt_add]
  congr 1
  funext x
  rw [D_cons, D_cons, D_cons, tp_radd]
theorem D_mul (P : List Rw) (k : Int) (a : Rw) (Q : List Rw) (cs : List Nat) : D (P ++ (fun j => k * a j) :: Q) cs = k * D (P ++ a :: Q) cs := by
  rw [D_app, D_app, ← tt_smul]
  congr 1
  funext x
  rw [D_cons, D_cons, tp_rsmul]
/-- columns chosen by f -/
theorem tp_map (f : Nat → Nat) (r : Rw) : ∀ (cs : List Nat) (G : List Nat → Int), Tp (fun j => r (f j)) cs (fun x => G (x.map f)) = Tp r (cs.map f) G
  | [], G => rfl
  | c :: cs, G => by
    rw [Tp, List.map_cons, Tp]
    have := tp_map f r cs (fun x => G (f c :: x))
    simp only [List.map_cons]
    rw [this]
theorem D_map (f : Nat → Nat) : ∀ (rs : List Rw) (cs : List Nat), D (rs.map fun r j => r (f j)) cs = D rs (cs.map f)
  | [], [] => rfl
  | [], c :: cs => rfl
  | r :: rs, cs => by
    show Tp (fun j => r (f j)) cs (D (rs.map fun r j => r (f j))) = Tp r (cs.map f) (D rs)
    have e : D (rs.map fun r j => r (f j)) = fun x => D rs (x.map f) := by funext x; exact D_map f rs x
    rw [e]
    exact tp_map f r cs (D rs)
/-- a first column of noughts -/
theorem D_zero (c : Nat) : ∀ (rs : List Rw) (cs : List Nat), (∀ r ∈ rs, r c = 0) → D rs (c :: cs) = 0
  | [], cs, _ => rfl
  | r :: rs, cs, h => by
    rw [D_cons, Tp, h r List.mem_cons_self]
    have e : (fun x => D rs (c :: x)) = fun _ => 0 := by funext x; exact D_zero c rs x fun s hs => h s (List.mem_cons_of_mem _ hs)
    rw [e, tp_zero]; simp
/-- the first row alone begins -/
theorem D_lead (c : Nat) (f : Rw) (hs : List Rw) (cs : List Nat) (h : ∀ r ∈ hs, r c = 0) : D (f :: hs) (c :: cs) = f c * D hs cs := by
  rw [D_cons, Tp]
  have e : (fun x => D hs (c :: x)) = fun _ => 0 := by funext x; exact D_zero c hs x h
  rw [e, tp_zero]; simp
/-- each lower row cleared by the first one -/
theorem tp_clear (f : Rw) (k : Int) : ∀ (ls : List (Rw × Int)) (cs : List Nat) (F : List Nat → Int),
    Tp f cs (fun x => TT (ls.map fun l j => k * l.1 j - l.2 * f j) x F) = k ^ ls.length * Tp f cs (fun x => TT (ls.map Prod.fst) x F)
  | [], cs, F => by simp [TT]
  | l :: ls, cs, F => by
    show Tp f cs (fun x => Tp (fun j => k * l.1 j - l.2 * f j) x fun y => TT (ls.map fun l j => k * l.1 j - l.2 * f j) y F) = k ^ (ls.length + 1) * Tp f cs (fun x => Tp l.1 x fun y => TT (ls.map Prod.fst) y F)
    have er : (fun j => k * l.1 j - l.2 * f j) = fun j => (fun j => k * l.1 j) j + (fun j => -l.2 * f j) j := by
      funext j
      simp only [Int.neg_mul]; omega
    rw [er]
    have e1 : (fun x => Tp (fun j => (fun j => k * l.1 j) j + (fun j => -l.2 * f j) j) x fun y => TT (ls.map fun l j => k * l.1 j - l.2 * f j) y F)
        = fun x => k * Tp l.1 x (fun y => TT (ls.map fun l j => k * l.1 j - l.2 * f j) y F) + -l.2 * Tp f x (fun y => TT (ls.map fun l j => k * l.1 j - l.2 * f j) y F) := by
      funext x
      rw [tp_radd, tp_rsmul, tp_rsmul]
    rw [e1, tp_add, tp_smul, tp_smul, tp_self]
    rw [tp_anti f l.1 cs]
    have e2 : (fun x => Tp f x fun y => TT (ls.map fun l j => k * l.1 j - l.2 * f j) y F) = fun x => k ^ ls.length * Tp f x fun y => TT (ls.map Prod.fst) y F := by
      funext x; exact tp_clear f k ls x F
    rw [e2, tp_smul, tp_anti f l.1 cs, Int.pow_succ]
    rw [Int.mul_comm (k ^ ls.length) k, Int.mul_assoc]
    simp only [Int.mul_neg, Int.mul_zero, Int.add_zero]
theorem tt_D (rs : List Rw) (cs : List Nat) : TT rs cs (D []) = D rs cs := by
  have := D_app rs [] cs
  rw [List.append_nil] at this
  exact this.symm
theorem D_clear (f : Rw) (k : Int) (ls : List (Rw × Int)) (cs : List Nat) : D (f :: ls.map fun l j => k * l.1 j - l.2 * f j) cs = k ^ ls.length * D (f :: ls.map Prod.fst) cs := by
  rw [D_cons, D_cons]
  have e1 : D (ls.map fun l j => k * l.1 j - l.2 * f j) = fun x => TT (ls.map fun l j => k * l.1 j - l.2 * f j) x (D []) := by funext x; rw [tt_D]
  have e2 : D (ls.map Prod.fst) = fun x => TT (ls.map Prod.fst) x (D []) := by funext x; rw [tt_D]
  rw [e1, e2]
  exact tp_clear f k ls cs (D [])
theorem D_rmul (k : Int) : ∀ (rs : List Rw) (cs : List Nat), D (rs.map fun r j => k * r j) cs = k ^ rs.length * D rs cs
  | [], cs => by simp
  | r :: rs, cs => by
    show Tp (fun j => k * r j) cs (D (rs.map fun r j => k * r j)) = _
    have e : D (rs.map fun r j => k * r j) = fun x => k ^ rs.length * D rs x := by funext x; exact D_rmul k rs x
    rw [e, tp_rsmul, tp_smul, List.length_cons, Int.pow_succ, ← Int.mul_assoc, D_cons, Int.mul_comm k]

/-! ### the clearing -/
/-- each row told with the row of the beginning that it came from -/
def Inv (k : Nat) (ps : List Rw) (L : List (Rw × Rw)) (d : Int) : Prop :=
  ∀ q : List (Rw × Rw), (∀ p ∈ q, p ∈ L) → q ≠ [] → ∀ cs : List Nat, D (q.map Prod.fst) cs = d ^ (q.length - 1) * D (ps ++ q.map Prod.snd) (List.range k ++ cs.map (· + k))
theorem inv_start (A : List Rw) : Inv 0 [] (A.map fun r => (r, r)) 1 := fun q hq _ cs => by
  have e : q.map Prod.fst = q.map Prod.snd := by
    apply List.map_congr_left
    intro p hp
    obtain ⟨r, _, rfl⟩ := List.mem_map.mp (hq p hp)
    rfl
  rw [e]
  simp [Int.one_pow]
theorem D_one (r : Rw) (c : Nat) : D [r] [c] = r c := by simp [D, Tp]
theorem D_two (f l : Rw) (c d : Nat) : D [f, l] [c, d] = f c * l d - l c * f d := by
  simp [D, Tp, Int.mul_comm]
theorem Inv.entry {k : Nat} {ps : List Rw} {L : List (Rw × Rw)} {d : Int} (h : Inv k ps L d) {p : Rw × Rw} (hp : p ∈ L) (j : Nat) : p.1 j = D (ps ++ [p.2]) (List.range k ++ [j + k]) := by
  have := h [p] (fun q hq => by rw [List.mem_singleton.mp hq]; exact hp) (by simp) [j]
  simp only [List.map_cons, List.map_nil, List.length_singleton, Nat.sub_self, Int.pow_zero, Int.one_mul] at this
  rw [D_one] at this
  exact this
theorem Inv.two {k : Nat} {ps : List Rw} {L : List (Rw × Rw)} {d : Int} (h : Inv k ps L d) {f l : Rw × Rw} (hf : f ∈ L) (hl : l ∈ L) (j : Nat) : d ∣ f.1 0 * l.1 (j + 1) - l.1 0 * f.1 (j + 1) := by
  have := h [f, l] (fun q hq => by
    rcases List.mem_cons.mp hq with e | e
    · rw [e]; exact hf
    · rw [List.mem_singleton.mp e]; exact hl) (by simp) [0, j + 1]
  simp only [List.map_cons, List.map_nil] at this
  rw [D_two] at this
  rw [this]
  show d ∣ d ^ 1 * _
  rw [Int.pow_one]
  exact Int.dvd_mul_right _ _
/-- one step: f leads, the others are cleared by it and divided -/
theorem Inv.step {k : Nat} {ps : List Rw} {L L' : List (Rw × Rw)} {d : Int} {f : Rw × Rw} (h : Inv k ps L d) (hd : d ≠ 0) (hf : f ∈ L) (f0 : f.1 0 ≠ 0)
    (hL : ∀ g ∈ L', ∃ l ∈ L, g.2 = l.2 ∧ ∀ j, d * g.1 j = f.1 0 * l.1 (j + 1) - l.1 0 * f.1 (j + 1)) : Inv (k + 1) (ps ++ [f.2]) L' (f.1 0) := by
  intro q hq hne cs
  -- the rows that q came from
  have hex : ∃ ls : List (Rw × Rw), ls.map Prod.snd = q.map Prod.snd ∧ (∀ p ∈ ls, p ∈ L) ∧ (q.map fun g => fun j => d * g.1 j) = ls.map fun l => fun j => f.1 0 * l.1 (j + 1) - l.1 0 * f.1 (j + 1) := by
    clear hne
    induction q with
    | nil => exact ⟨[], rfl, fun p hp => (nomatch hp), rfl⟩
    | cons g q ih =>
      obtain ⟨ls, h1, h2, h3⟩ := ih fun p hp => hq p (List.mem_cons_of_mem _ hp)
      obtain ⟨l, l1, l2, l3⟩ := hL g (hq g List.mem_cons_self)
      refine ⟨l :: ls, by rw [List.map_cons, List.map_cons, h1, l2], fun p hp => ?_, ?_⟩
      · rcases List.mem_cons.mp hp with e | e
        · rw [e]; exact l1
        · exact h2 p e
      · rw [List.map_cons, List.map_cons, h3]
        congr 1
        funext j
        exact l3 j
  obtain ⟨ls, h1, h2, h3⟩ := hex
  have hlen : ls.length = q.length := by
    have := congrArg List.length h1
    rw [List.length_map, List.length_map] at this
    exact this
  -- d^m * D gs = D hs (cs + 1)
  have e1 : d ^ q.length * D (q.map Prod.fst) cs = D (ls.map fun l => fun j => f.1 0 * l.1 j - l.1 0 * f.1 j) (cs.map (· + 1)) := by
    have := D_rmul d (q.map Prod.fst) cs
    rw [List.length_map, List.map_map] at this
    rw [← this]
    have e2 : (q.map ((fun r : Rw => fun j => d * r j) ∘ Prod.fst)) = q.map fun g => fun j => d * g.1 j := rfl
    rw [e2, h3, ← D_map (· + 1), List.map_map]
    rfl
  have e2 : f.1 0 * D (ls.map fun l => fun j => f.1 0 * l.1 j - l.1 0 * f.1 j) (cs.map (· + 1)) = f.1 0 ^ q.length * D (f.1 :: ls.map Prod.fst) (0 :: cs.map (· + 1)) := by
    rw [← D_lead]
    · have := D_clear f.1 (f.1 0) (ls.map fun l => (l.1, l.1 0)) (0 :: cs.map (· + 1))
      rw [List.map_map, List.map_map, List.length_map, hlen] at this
      exact this
    · intro r hr
      obtain ⟨l, _, rfl⟩ := List.mem_map.mp hr
      show f.1 0 * l.1 0 - l.1 0 * f.1 0 = 0
      rw [Int.mul_comm]; omega
  have e3 := h (f :: ls) (fun p hp => by
    rcases List.mem_cons.mp hp with e | e
    · rw [e]; exact hf
    · exact h2 p e) (by simp) (0 :: cs.map (· + 1))
  simp only [List.map_cons, List.length_cons, Nat.add_sub_cancel] at e3
  have hq1 : 1 ≤ q.length := List.length_pos_iff.mpr hne
  have ep : f.1 0 ^ q.length = f.1 0 * f.1 0 ^ (q.length - 1) := by
    rw [← Int.pow_succ']
    congr 1
    omega
  -- cancel
  have e4 : d ^ q.length * D (q.map Prod.fst) cs = f.1 0 ^ (q.length - 1) * D (f.1 :: ls.map Prod.fst) (0 :: cs.map (· + 1)) := by
    rw [e1]
    apply Int.eq_of_mul_eq_mul_left f0
    rw [e2, ep, Int.mul_assoc]
  rw [e3, hlen, h1] at e4
  have hdp : d ^ q.length ≠ 0 := Int.pow_ne_zero hd
  have e5 : D (q.map Prod.fst) cs = f.1 0 ^ (q.length - 1) * D (ps ++ f.2 :: q.map Prod.snd) (List.range k ++ (0 + k) :: (cs.map (· + 1)).map (· + k)) := by
    apply Int.eq_of_mul_eq_mul_left hdp
    rw [e4, ← Int.mul_assoc, ← Int.mul_assoc, Int.mul_comm (d ^ q.length)]
  rw [e5, List.append_assoc]
  have ec : List.range (k + 1) ++ cs.map (· + (k + 1)) = List.range k ++ (0 + k) :: (cs.map (· + 1)).map (· + k) := by
    rw [List.range_succ, List.append_assoc, List.map_map]
    simp only [Nat.zero_add, List.singleton_append]
    congr 2
    apply List.map_congr_left
    intro x _
    show x + (k + 1) = x + 1 + k
    omega
  rw [ec]
  rfl
/-! ### how great -/
theorem tp_le (r : Rw) {B M : Nat} (hr : ∀ j, (r j).natAbs ≤ B) : ∀ (cs : List Nat) (F : List Nat → Int), (∀ x, x.length + 1 = cs.length → (F x).natAbs ≤ M) → (Tp r cs F).natAbs ≤ cs.length * (B * M)
  | [], F, _ => by simp [Tp]
  | c :: cs, F, h => by
    rw [Tp]
    have h1 : (r c * F cs).natAbs ≤ B * M := by
      rw [Int.natAbs_mul]
      exact Nat.mul_le_mul (hr c) (h cs rfl)
    have h2 := tp_le r hr cs (fun x => F (c :: x)) fun x hx => h (c :: x) (by rw [List.length_cons, List.length_cons, hx])
    rw [List.length_cons, Nat.add_mul, Nat.one_mul]
    omega
theorem D_le {B N : Nat} : ∀ (rs : List Rw) (cs : List Nat), (∀ r ∈ rs, ∀ j, (r j).natAbs ≤ B) → cs.length ≤ N → (D rs cs).natAbs ≤ (N * B) ^ rs.length
  | [], [], _, _ => by simp [D]
  | [], _ :: _, _, _ => by simp [D]
  | r :: rs, cs, h, hc => by
    rw [D_cons]
    have := tp_le r (M := (N * B) ^ rs.length) (h r List.mem_cons_self) cs (D rs) fun x hx => D_le rs x (fun s hs => h s (List.mem_cons_of_mem _ hs)) (by omega)
    refine Nat.le_trans this ?_
    rw [List.length_cons, Nat.pow_succ, ← Nat.mul_assoc, Nat.mul_comm ((N * B) ^ rs.length)]
    exact Nat.mul_le_mul_right _ (Nat.mul_le_mul_right _ hc)
end Dt
end
section
set_option Elab.async false
set_option linter.all false
set_option maxRecDepth 100000
set_option maxHeartbeats 0
noncomputable section
namespace Z
open PySem PySem.Spec PyProof.Rows L2
def T0 : Tb := ⟨fun _ => "", fun _ => "", 0, fun _ _ => false⟩
def b_is_integer : DS := dRet (dAnd (dApp isiP (dCons (dVar 0) (dCons (dC (.ty "int")) (dNil)))) (dNot (dApp isiP (dCons (dVar 0) (dCons (dC (.ty "bool")) (dNil))))))
def d_is_integer : DF := dDef 1 1 b_is_integer
def b_first_place : DS := dSeq (dFor (dItA enuP (dCons (dVar 0) (dNil))) (.tp [.nm 1, .nm 2]) (dIfS (dB (dBin neZ (dVar 2) (dC (.int 0)))) (dRet (dVar 1)) (dSkip))) (dRet (dC .non))
def d_first_place : DF := dDef 1 3 b_first_place
def b_led_line : DS := dRet (dLc [3, 4] (dItA zipP (dCons (dSli (dVar 0) (dSome (dC (.int 1))) (dNone)) (dCons (dSli (dVar 1) (dSome (dC (.int 1))) (dNone)) (dNil)))) (.tp [.nm 3, .nm 4]) (dYes) (dBin divP (dBin subP (dBin mulZ (dBin subZ (dVar 0) (dC (.int 0))) (dVar 4)) (dBin mulZ (dBin subZ (dVar 1) (dC (.int 0))) (dVar 3))) (dVar 2)))
def d_led_line : DF := dDef 3 5 b_led_line
def b_is_square : DS := dSeq (dIfS (dOrT (dNotT (dTru (dApp isiP (dCons (dVar 0) (dCons (dTup (dCons (dC (.ty "list")) (dCons (dC (.ty "tuple")) (dNil)))) (dNil)))))) (dB (dBin gtZ (dApp lenP (dCons (dVar 0) (dNil))) (dC (.int 40))))) (dRet (dC (.bl false))) (dSkip)) (dSeq (dFor (dItV (dVar 0)) (.nm 1) (dIfS (dOrT (dNotT (dTru (dApp isiP (dCons (dVar 1) (dCons (dTup (dCons (dC (.ty "list")) (dCons (dC (.ty "tuple")) (dNil)))) (dNil)))))) (dOrT (dB (dBin neZ (dApp lenP (dCons (dVar 1) (dNil))) (dApp lenP (dCons (dVar 0) (dNil))))) (dNotT (dTru (dApp allP (dCons (dLc [2] (dItV (dVar 1)) (.nm 2) (dYes) (dFn d_is_integer (dCons (dVar 2) (dNil)))) (dNil))))))) (dRet (dC (.bl false))) (dSkip))) (dRet (dC (.bl true))))
def d_is_square : DF := dDef 1 3 b_is_square
def b_determinant : DS := dSeq (dIfS (dNotT (dTru (dFn d_is_square (dCons (dVar 0) (dNil))))) (dNever) (dSkip)) (dSeq (dAsg (dTup (dCons (dLcM [4] (dItV (dVar 0)) (.nm 4) (dYes) (dApp listP (dCons (dVar 4) (dNil)))) (dCons (dC (.int 1)) (dCons (dC (.int 1)) (dNil))))) (gzT [gzN 1, gzN 2, gzN 3])) (dSeq (dWhile (dB (dBin neZ (dVar 1) (dLst (dNil)))) (dSeq (dSet 5 (dFn d_first_place (dCons (dLc [6] (dItV (dVar 1)) (.nm 6) (dYes) (dBin subZ (dVar 6) (dC (.int 0)))) (dNil)))) (dSeq (dIfS (dB (dBin isZ (dVar 5) (dC .non))) (dRet (dC (.int 0))) (dSkip)) (dSeq (dIfS (dB (dBin gtZ (dVar 5) (dC (.int 0)))) (dSeq (dAsg (dTup (dCons (dBin subZ (dVar 1) (dVar 5)) (dCons (dBin subZ (dVar 1) (dC (.int 0))) (dNil)))) (gzT [gzI (dVar 1) (dC (.int 0)), gzI (dVar 1) (dVar 5)])) (dSet 2 (dBin subP (dC (.int 0)) (dVar 2)))) (dSkip)) (dSeq (dSet 7 (dBin subZ (dVar 1) (dC (.int 0)))) (dSeq (dSet 1 (dLcM [6] (dItV (dSli (dVar 1) (dSome (dC (.int 1))) (dNone))) (.nm 6) (dYes) (dFn d_led_line (dCons (dVar 7) (dCons (dVar 6) (dCons (dVar 3) (dNil))))))) (dSet 3 (dBin subZ (dVar 7) (dC (.int 0)))))))))) (dRet (dBin mulZ (dVar 2) (dVar 3)))))
def d_determinant : DF := dDef 1 8 b_determinant
def b__law_pen : DS := dRet (dLstM (dCons (dApp listP (dCons (dSli (dVar 0) (dNone) (dSome (dC (.int 63)))) (dNil))) (dCons (dC (.int 0)) (dCons (dC (.int 0)) (dNil)))))
def d__law_pen : DF := dDef0 1 1 b__law_pen
def b__law_draw : DS := dSeq (dIfS (dB (dBin gtZ (dBin subZ (dVar 0) (dC (.int 2))) (dC (.int 0)))) (dSeq (dSet 2 (dBin modP (dApp intP (dCons (dBin subZ (dVar 0) (dC (.int 2))) (dNil))) (dVar 1))) (dSeq (dAsg (dBin divP (dApp intP (dCons (dBin subZ (dVar 0) (dC (.int 2))) (dNil))) (dVar 1)) (gzI (dVar 0) (dC (.int 2)))) (dRet (dVar 2)))) (dSkip)) (dSeq (dSet 3 (dBin subZ (dVar 0) (dC (.int 1)))) (dSeq (dAsg (dBin addP (dVar 3) (dC (.int 1))) (gzI (dVar 0) (dC (.int 1)))) (dSeq (dSet 4 (dBin addP (dBin mulZ (dC (.int 72559)) (dVar 3)) (dC (.int 1879)))) (dSeq (dIfS (dB (dBin neZ (dBin subZ (dVar 0) (dC (.int 0))) (dLst (dNil)))) (dSet 4 (dBin subZ (dBin subZ (dVar 0) (dC (.int 0))) (dBin modP (dApp intP (dCons (dVar 3) (dNil))) (dApp lenP (dCons (dBin subZ (dVar 0) (dC (.int 0))) (dNil)))))) (dSkip)) (dSeq (dIfS (dAndT (dB (dBin ltZ (dVar 3) (dApp lenP (dCons (dBin subZ (dVar 0) (dC (.int 0))) (dNil))))) (dB (dBin geZ (dApp absP (dCons (dVar 4) (dNil))) (dBin powP (dC (.int 10)) (dC (.int 18)))))) (dSeq (dSet 5 (dBin addP (dBin mulZ (dC (.int 2)) (dBin subP (dApp absP (dCons (dVar 4) (dNil))) (dBin powP (dC (.int 10)) (dC (.int 18))))) (dApp intP (dCons (dBin ltZ (dVar 4) (dC (.int 0))) (dNil))))) (dSeq (dAsg (dBin divP (dApp intP (dCons (dVar 5) (dNil))) (dVar 1)) (gzI (dVar 0) (dC (.int 2)))) (dRet (dBin modP (dApp intP (dCons (dVar 5) (dNil))) (dVar 1))))) (dSkip)) (dSeq (dSet 6 (dBin modP (dApp intP (dCons (dBin powP (dBin addP (dBin addP (dBin modP (dApp intP (dCons (dVar 4) (dNil))) (dC (.int 2147483647))) (dBin mulZ (dC (.int 52919)) (dVar 3))) (dC (.int 1217))) (dC (.int 5))) (dNil))) (dC (.int 2147483549)))) (dSeq (dSet 6 (dBin modP (dApp intP (dCons (dBin powP (dBin addP (dBin addP (dBin mulZ (dVar 6) (dBin addP (dBin mulZ (dC (.int 2)) (dVar 3)) (dC (.int 743)))) (dBin mulZ (dBin mulZ (dC (.int 45481)) (dVar 3)) (dVar 3))) (dC (.int 853))) (dC (.int 3))) (dNil))) (dC (.int 2147483489)))) (dRet (dBin modP (dApp intP (dCons (dBin divP (dVar 6) (dC (.int 32))) (dNil))) (dVar 1))))))))))
def d__law_draw : DF := dDef 2 7 b__law_draw
def b__law_pick : DS := dRet (dBin subZ (dVar 1) (dFn d__law_draw (dCons (dVar 0) (dCons (dApp lenP (dCons (dVar 1) (dNil))) (dNil)))))
def d__law_pick : DF := dDef 2 2 b__law_pick
def b__law_row : DS := dSeq (dSet 3 (dBin addP (dLst (dCons (dC (.int 0)) (dCons (dC (.int 0)) (dCons (dC (.int 1)) (dCons (dUn negP (dC (.int 1))) (dCons (dC (.int 2)) (dCons (dUn negP (dC (.int 3))) (dCons (dC (.int 6)) (dCons (dC (.int 10)) (dNil)))))))))) (dIf (dTru (dVar 2)) (dLst (dCons (dBin powP (dC (.int 10)) (dC (.int 39))) (dCons (dBin addP (dUn negP (dBin powP (dC (.int 10)) (dC (.int 40)))) (dC (.int 1))) (dCons (dBin mulZ (dC (.int 3)) (dBin powP (dC (.int 10)) (dC (.int 30)))) (dNil))))) (dLst (dNil))))) (dRet (dApp tupP (dCons (dLc [4] (dItA rngP (dCons (dVar 1) (dNil))) (.nm 4) (dYes) (dFn d__law_pick (dCons (dVar 0) (dCons (dVar 3) (dNil))))) (dNil))))
def d__law_row : DF := dDef 3 5 b__law_row
def b__law_mixed : DS := dSeq (dSet 3 (dBin mulZ (dLst (dCons (dC (.int 0)) (dNil))) (dVar 2))) (dSeq (dFor (dItV (dVar 1)) (.nm 4) (dSeq (dSet 5 (dFn d__law_pick (dCons (dVar 0) (dCons (dLst (dCons (dC (.int 0)) (dCons (dC (.int 1)) (dCons (dUn negP (dC (.int 1))) (dCons (dC (.int 2)) (dCons (dC (.int 5)) (dNil))))))) (dNil))))) (dSet 3 (dLc [6, 7] (dItA zipP (dCons (dVar 3) (dCons (dVar 4) (dNil)))) (.tp [.nm 6, .nm 7]) (dYes) (dBin addP (dVar 6) (dBin mulZ (dVar 5) (dVar 7))))))) (dRet (dApp tupP (dCons (dVar 3) (dNil)))))
def d__law_mixed : DF := dDef 3 8 b__law_mixed
def b__law_rows : DS := dSeq (dSet 4 (dLstM (dNil))) (dSeq (dFor (dItA rngP (dCons (dVar 2) (dNil))) (.nm 5) (dSeq (dSet 6 (dOr (dBin eqZ (dVar 4) (dLst (dNil))) (dBin gtZ (dFn d__law_draw (dCons (dVar 0) (dCons (dC (.int 3)) (dNil)))) (dC (.int 0))))) (dExpr (dMet "list" appP (dVar 4) (dCons (dIf (dTru (dVar 6)) (dFn d__law_row (dCons (dVar 0) (dCons (dVar 1) (dCons (dVar 3) (dNil))))) (dFn d__law_mixed (dCons (dVar 0) (dCons (dVar 4) (dCons (dVar 1) (dNil)))))) dNil))))) (dRet (dVar 4)))
def d__law_rows : DF := dDef 4 7 b__law_rows
def b__law_due (n : Nat) (rec_ : DF) : DS := dSeq (dIfS (dB (dBin eqZ (dVar 0) (dLst (dNil)))) (dRet (dC (.int 1))) (dSkip)) (dSeq (dSet 1 (dC (.int 0))) (dSeq (dFor (dItA rngP (dCons (dApp lenP (dCons (dVar 0) (dNil))) (dNil))) (.nm 2) (dIfS (dB (dBin neZ (dBin subZ (dBin subZ (dVar 0) (dC (.int 0))) (dVar 2)) (dC (.int 0)))) (dSeq (dSet 3 (dLc [4] (dItV (dSli (dVar 0) (dSome (dC (.int 1))) (dNone))) (.nm 4) (dYes) (dBin addP (dApp listP (dCons (dSli (dVar 4) (dNone) (dSome (dVar 2))) (dNil))) (dApp listP (dCons (dSli (dVar 4) (dSome (dBin addP (dVar 2) (dC (.int 1)))) (dNone)) (dNil)))))) (dSet 1 (dBin addP (dVar 1) (dBin mulZ (dBin mulZ (dIf (dB (dBin eqZ (dBin modP (dApp intP (dCons (dVar 2) (dNil))) (dC (.int 2))) (dC (.int 0)))) (dC (.int 1)) (dUn negP (dC (.int 1)))) (dBin subZ (dBin subZ (dVar 0) (dC (.int 0))) (dVar 2))) (dFn rec_ (dCons (dVar 3) (dNil))))))) (dSkip))) (dRet (dVar 1))))
def d__law_due : Nat → DF
  | 0 => fun _ _ => .bad
  | n + 1 => dDef 1 5 (b__law_due n (d__law_due n))
def b__law_great : DS := dSeq (dPar 2 3 (dCons (dLstM (dNil)) (dCons (dC (.int 1)) (dNil)))) (dSeq (dFor (dItA rngP (dCons (dVar 1) (dNil))) (.nm 4) (dSeq (dSet 5 (dFn d__law_pick (dCons (dVar 0) (dCons (dLst (dCons (dC (.int 1)) (dCons (dUn negP (dC (.int 1))) (dCons (dC (.int 2)) (dCons (dC (.int 3)) (dCons (dUn negP (dC (.int 5))) (dNil))))))) (dNil))))) (dSeq (dSet 3 (dBin mulZ (dVar 3) (dVar 5))) (dExpr (dMet "list" appP (dVar 2) (dCons (dBin addP (dBin addP (dBin mulZ (dLst (dCons (dC (.int 0)) (dNil))) (dVar 4)) (dLst (dCons (dVar 5) (dNil)))) (dLc [6] (dItA rngP (dCons (dBin subP (dBin subP (dVar 1) (dVar 4)) (dC (.int 1))) (dNil))) (.nm 6) (dYes) (dFn d__law_pick (dCons (dVar 0) (dCons (dLst (dCons (dC (.int 0)) (dCons (dC (.int 1)) (dCons (dUn negP (dC (.int 2))) (dNil))))) (dNil)))))) dNil)))))) (dSeq (dFor (dItA rngP (dCons (dC (.int 12)) (dNil))) (.nm 7) (dSeq (dPar 8 9 (dCons (dFn d__law_draw (dCons (dVar 0) (dCons (dVar 1) (dNil)))) (dCons (dFn d__law_draw (dCons (dVar 0) (dCons (dVar 1) (dNil)))) (dNil)))) (dIfS (dAndT (dB (dBin neZ (dVar 8) (dVar 9))) (dB (dBin eqZ (dFn d__law_draw (dCons (dVar 0) (dCons (dC (.int 2)) (dNil)))) (dC (.int 0))))) (dSeq (dSet 10 (dApp listP (dCons (dBin subZ (dVar 2) (dVar 8)) (dNil)))) (dSeq (dAsg (dApp listP (dCons (dBin subZ (dVar 2) (dVar 9)) (dNil))) (gzI (dVar 2) (dVar 8))) (dSeq (dAsg (dVar 10) (gzI (dVar 2) (dVar 9))) (dSet 3 (dBin subP (dC (.int 0)) (dVar 3)))))) (dIfS (dB (dBin neZ (dVar 8) (dVar 9))) (dAsg (dLc [11, 12] (dItA zipP (dCons (dBin subZ (dVar 2) (dVar 8)) (dCons (dBin subZ (dVar 2) (dVar 9)) (dNil)))) (.tp [.nm 11, .nm 12]) (dYes) (dBin addP (dVar 11) (dBin mulZ (dC (.int 2)) (dVar 12)))) (gzI (dVar 2) (dVar 8))) (dSkip))))) (dRet (dTup (dCons (dVar 2) (dCons (dVar 3) (dNil)))))))
def d__law_great : DF := dDef0 2 13 b__law_great
def b_law : DS := dSeq (dSet 1 (dFn d__law_pen (dCons (dVar 0) (dNil)))) (dSeq (dFor (dItA rngP (dCons (dC (.int 6)) (dNil))) (.nm 2) (dSeq (dSet 3 (dFn d__law_draw (dCons (dVar 1) (dCons (dC (.int 6)) (dNil))))) (dSeq (dSet 4 (dLcM [5] (dItV (dFn d__law_rows (dCons (dVar 1) (dCons (dVar 3) (dCons (dVar 3) (dCons (dBin eqZ (dFn d__law_draw (dCons (dVar 1) (dCons (dC (.int 3)) (dNil)))) (dC (.int 0))) (dNil))))))) (.nm 5) (dYes) (dApp listP (dCons (dVar 5) (dNil))))) (dSeq (dSet 6 (dApp reprP (dCons (dVar 4) (dNil)))) (dSeq (dIfS (dOrT (dB (dBin neZ (dFn d_determinant (dCons (dVar 4) (dNil))) (dFn (d__law_due 8) (dCons (dVar 4) (dNil))))) (dB (dBin neZ (dApp reprP (dCons (dVar 4) (dNil))) (dVar 6)))) (dRet (dC (.bl false))) (dSkip)) (dIfS (dB (dBin neZ (dFn d_determinant (dCons (dApp tupP (dCons (dLc [5] (dItV (dVar 4)) (.nm 5) (dYes) (dApp tupP (dCons (dVar 5) (dNil)))) (dNil))) (dNil))) (dFn (d__law_due 8) (dCons (dVar 4) (dNil))))) (dRet (dC (.bl false))) (dSkip))))))) (dSeq (dFor (dItV (dTup (dCons (dC (.int 6)) (dCons (dC (.int 13)) (dCons (dFn d__law_pick (dCons (dVar 1) (dCons (dLst (dCons (dC (.int 1)) (dCons (dC (.int 20)) (dCons (dC (.int 40)) (dNil))))) (dNil)))) (dNil)))))) (.nm 3) (dSeq (dAsg (dFn d__law_great (dCons (dVar 1) (dCons (dVar 3) (dNil)))) (gzT [gzN 4, gzN 7])) (dSeq (dIfS (dOrT (dB (dBin neZ (dFn d_determinant (dCons (dVar 4) (dNil))) (dVar 7))) (dB (dBin neZ (dFn d_determinant (dCons (dRev (dVar 4)) (dNil))) (dBin mulZ (dVar 7) (dIf (dB (dBin (inZ false) (dBin modP (dApp intP (dCons (dVar 3) (dNil))) (dC (.int 4))) (dTup (dCons (dC (.int 2)) (dCons (dC (.int 3)) (dNil)))))) (dUn negP (dC (.int 1))) (dC (.int 1))))))) (dRet (dC (.bl false))) (dSkip)) (dSeq (dAsg (dLc [8] (dItV (dBin subZ (dVar 4) (dBin subP (dVar 3) (dC (.int 1))))) (.nm 8) (dYes) (dBin mulZ (dC (.int 5)) (dVar 8))) (gzI (dVar 4) (dC (.int 0)))) (dIfS (dAndT (dB (dBin gtZ (dVar 3) (dC (.int 1)))) (dB (dBin neZ (dFn d_determinant (dCons (dVar 4) (dNil))) (dC (.int 0))))) (dRet (dC (.bl false))) (dSkip)))))) (dRet (dBin eqZ (dLst (dCons (dFn d_determinant (dCons (dLst (dNil)) (dNil))) (dCons (dFn d_determinant (dCons (dTup (dNil)) (dNil))) (dCons (dFn d_determinant (dCons (dLst (dCons (dLst (dCons (dC (.int 0)) (dNil))) (dNil))) (dNil))) (dCons (dFn d_determinant (dCons (dLst (dCons (dTup (dCons (dC (.int 0)) (dCons (dC (.int 1)) (dNil)))) (dCons (dLst (dCons (dC (.int 1)) (dCons (dC (.int 0)) (dNil)))) (dNil)))) (dNil))) (dNil)))))) (dLst (dCons (dC (.int 1)) (dCons (dC (.int 1)) (dCons (dC (.int 0)) (dCons (dUn negP (dC (.int 1))) (dNil))))))))))
def d_law : DF := dDef 1 9 b_law
end Z
end
end
section
set_option Elab.async false
set_option linter.all false
set_option maxRecDepth 100000
set_option maxHeartbeats 2000000
/-! K28G: what the defs of k28 compute. -/
noncomputable section
namespace Z
open PySem PySem.Spec PyProof.Rows L2

/-- a row of ints: a list, a tuple -/
def rL (r : List Int) : PV := .nd .lst (r.map .int)
def rT (r : List Int) : PV := .nd .tup (r.map .int)
def rK (t : Bool) (r : List Int) : PV := if t then rT r else rL r
theorem d_isint (i : Int) (S : Sto) : d_is_integer [.int i] S = .ok (.bl true) S := by
  refine dDef_ret _ _ rfl ?_ (Nat.le_refl _)
  unfold b_is_integer
  have h1 : isiP [.int i, .ty "int"] S = .ok (.bl true) S := rfl
  have h2 : isiP [.int i, .ty "bool"] S = .ok (.bl false) S := rfl
  simp [h1, h2]
/-- the first place of a number that is not 0 -/
def fp : List Int → Nat → Option Nat
  | [], _ => none
  | x :: xs, k => if x = 0 then fp xs (k + 1) else some k
def fpV : Option Nat → PV
  | none => .non
  | some k => .int (k : Nat)
theorem d_first (ns : List Int) (S : Sto) : d_first_place [rL ns] S = .ok (fpV (fp ns 0)) S := by
  have key : ∀ (ns : List Int) (k : Nat) (l : Loc), (∃ o1 o2, l = [some (rL ns), o1, o2] ∨ ∃ m, l = [some m, o1, o2]) →
      ((fp ns k = none ∧ ∃ l', forZ (.tp [.nm 1, .nm 2]) [] (dIfS (dB (dBin neZ (dVar 2) (dC (.int 0)))) (dRet (dVar 1)) (dSkip)) (encZ (ns.map PV.int) k) l S = .nx l' S) ∨ (∃ j, fp ns k = some j ∧ forZ (.tp [.nm 1, .nm 2]) [] (dIfS (dB (dBin neZ (dVar 2) (dC (.int 0)))) (dRet (dVar 1)) (dSkip)) (encZ (ns.map PV.int) k) l S = .ret (.int (j : Nat)) S)) := by
    intro ns
    induction ns with
    | nil => intro k l _; exact .inl ⟨rfl, l, rfl⟩
    | cons x xs ih =>
      intro k l hl
      obtain ⟨m, o1, o2, rfl⟩ : ∃ m o1 o2, l = [some m, o1, o2] := by
        obtain ⟨o1, o2, h | ⟨m, h⟩⟩ := hl
        · exact ⟨_, o1, o2, h⟩
        · exact ⟨m, o1, o2, h⟩
      rw [List.map_cons, encZ, forZ]
      simp only [asg, asgs, Option.bind_some, Option.map_some, List.cons_append, List.nil_append]
      by_cases hx : x = 0
      · subst hx
        have := ih (k + 1) [some m, some (.int (k : Nat)), some (.int 0)] ⟨_, _, .inr ⟨m, rfl⟩⟩
        rw [fp, if_pos rfl]
        simp [setZ] at this ⊢
        exact this
      · right
        refine ⟨k, by rw [fp, if_neg hx], ?_⟩
        simp [setZ, hx]
  have hen : enuP [rL ns] S = .ok ⟨encZ (ns.map PV.int) 0, []⟩ S := rfl
  have h := key ns 0 [some (rL ns), none, none] ⟨none, none, .inl rfl⟩
  rcases h with ⟨h1, l', h2⟩ | ⟨j, h1, h2⟩
  · rw [h1]
    refine dDef_ret _ _ rfl ?_ (Nat.le_refl _)
    unfold b_first_place
    simp [hen, h2]
    rfl
  · rw [h1]
    refine dDef_ret _ _ rfl ?_ (Nat.le_refl _)
    unfold b_first_place
    simp [hen, h2]
    rfl
/-- the cleared line -/
def led (f0 l0 d : Int) (fs ls : List Int) : List Int := (fs.zip ls).map fun p => (f0 * p.2 - l0 * p.1) / d
theorem divP_ex {d x : Int} {S : Sto} (hd : d ≠ 0) (hb : d.natAbs < DIVB) (h : d ∣ x) : divP (.int x) (.int d) S = .ok (.int (x / d)) S := by
  by_cases h0 : 0 < d
  · exact divP_int S x d ⟨h0, hb⟩
  · unfold divP
    simp only
    rw [if_neg (fun z => h0 z.1), if_pos ⟨hd, hb⟩, Int.fdiv_eq_ediv_of_dvd h]
theorem d_led {f0 l0 d : Int} {fs ls : List Int} {S : Sto} (hd : d ≠ 0) (hb : d.natAbs < DIVB) (hlen : fs.length ≤ 16777216)
    (h : ∀ p ∈ fs.zip ls, mulOk f0 p.2 ∧ mulOk l0 p.1 ∧ d ∣ f0 * p.2 - l0 * p.1) : d_led_line [rL (f0 :: fs), rL (l0 :: ls), .int d] S = .ok (rL (led f0 l0 d fs ls)) S := by
  refine dDef_ret _ _ rfl ?_ (Nat.le_refl _)
  unfold b_led_line
  have hz : zipP [.nd .lst (fs.map PV.int), .nd .lst (ls.map PV.int)] S = .ok ⟨zipZ (fs.map PV.int) (ls.map PV.int), []⟩ S := rfl
  have hl1 : (zipZ (fs.map PV.int) (ls.map PV.int)).length ≤ 16777216 := by
    rw [zipZ_len, List.length_map, List.length_map]; omega
  rw [dRet_ap, dLc_pure (it := ⟨zipZ (fs.map PV.int) (ls.map PV.int), []⟩) (fun x => match x with
      | .nd .tup [.int a, .int b] => .int ((f0 * b - l0 * a) / d)
      | _ => .non) ?_ (heldB_nil S) hl1 ?_]
  · simp [zipZ_map, rL, led]
  · simp [rL, cutP_1, hz]
  · intro x hx
    simp only [zipZ_map] at hx
    obtain ⟨p, hp, rfl⟩ := List.mem_map.mp hx
    obtain ⟨m1, m2, dv⟩ := h p hp
    refine ⟨_, asg2, ?_⟩
    simp [setZ, rL, subZ_l0, m1, m2, divP_ex hd hb dv]
/-- a value that is walked as items, a list or a tuple -/
structure SqV (sq : PV) (S : Sto) (items : List PV) : Prop where
  isi : isiP [sq, .nd .tup [.ty "list", .ty "tuple"]] S = .ok (.bl true) S
  len : lenP [sq] S = .ok (.int items.length) S
  it : ∃ held, itOf sq S = .ok ⟨items, held⟩ S ∧ heldB held S = true
theorem kit_lt : kitAll "list" [.ty "list", .ty "tuple"] = some true := by decide +kernel
theorem kit_tt : kitAll "tuple" [.ty "list", .ty "tuple"] = some true := by decide +kernel
theorem isi_lst (xs : List PV) (S : Sto) : isiP [.nd .lst xs, .nd .tup [.ty "list", .ty "tuple"]] S = .ok (.bl true) S := by
  unfold isiP
  simp only [tyZ, view_nd', Option.bind_some, kit_lt]
theorem isi_tup (xs : List PV) (S : Sto) : isiP [.nd .tup xs, .nd .tup [.ty "list", .ty "tuple"]] S = .ok (.bl true) S := by
  unfold isiP
  simp only [tyZ, view_nd', Option.bind_some, kit_tt]
theorem sqv_lst (xs : List PV) (S : Sto) : SqV (.nd .lst xs) S xs := ⟨isi_lst xs S, rfl, [], rfl, heldB_nil S⟩
theorem sqv_tup (xs : List PV) (S : Sto) : SqV (.nd .tup xs) S xs := ⟨isi_tup xs S, rfl, [], rfl, heldB_nil S⟩
theorem sqv_ref {n : Nat} {xs : List PV} {S : Sto} (h : S[n]? = some (some (.lst, xs))) : SqV (.ref n) S xs := by
  have hv : view (.ref n) S = some (.lst, xs) := view_ref h
  refine ⟨?_, ?_, [(.ref n, (.lst, xs))], ?_, ?_⟩
  · unfold isiP
    simp only [tyZ, hv, Option.bind_some, kit_lt]
  · unfold lenP
    simp only [hv]
  · simp only [itOf, seqIt, hv, hold_ref]
  · refine heldB_of fun p hp => ?_
    rw [List.mem_singleton.mp hp]; exact hv
theorem sqv_rK (t : Bool) (r : List Int) (S : Sto) : SqV (rK t r) S (r.map .int) := by
  cases t
  · exact sqv_lst _ S
  · exact sqv_tup _ S
theorem all_true {α : Type} (f : α → PV) (hf : ∀ x, f x = .bl true) (xs : List α) (S : Sto) : allP [.nd .lst (xs.map f)] S = .ok (.bl true) S := by
  have e : xs.map f = (xs.map fun _ => true).map PV.bl := by
    rw [List.map_map]
    exact List.map_congr_left fun x _ => hf x
  unfold allP lstOf
  simp only [view_nd', Option.bind_some]
  rw [e, asBs_map]
  simp only
  congr 2
  rw [List.all_eq_true]
  intro b hb
  obtain ⟨_, _, rfl⟩ := List.mem_map.mp hb
  rfl
theorem d_sq {sq : PV} {S : Sto} {rows : List (Bool × List Int)} (h : SqV sq S (rows.map fun p => rK p.1 p.2)) (hn : rows.length ≤ 40) (hr : ∀ p ∈ rows, p.2.length = rows.length) : d_is_square [sq] S = .ok (.bl true) S := by
  obtain ⟨h1, h2, held, h3, h4⟩ := h
  rw [List.length_map] at h2
  refine dDef_ret _ _ rfl ?_ (Nat.le_refl _)
  unfold b_is_square
  have hg : ¬ (40 : Int) < (rows.length : Nat) := by omega
  obtain ⟨l', S', f1, f2, o1, f3⟩ := forZ_inv (t := .nm 1) (hs := held) (b := dIfS (dOrT (dNotT (dTru (dApp isiP (dCons (dVar 1) (dCons (dTup (dCons (dC (.ty "list")) (dCons (dC (.ty "tuple")) (dNil)))) (dNil)))))) (dOrT (dB (dBin neZ (dApp lenP (dCons (dVar 1) (dNil))) (dApp lenP (dCons (dVar 0) (dNil))))) (dNotT (dTru (dApp allP (dCons (dLc [2] (dItV (dVar 1)) (.nm 2) (dYes) (dFn d_is_integer (dCons (dVar 2) (dNil)))) (dNil))))))) (dRet (dC (.bl false))) (dSkip))
    (fun _ l S' => S' = S ∧ ∃ o1, l = [some sq, o1, none]) (rows.map fun p => rK p.1 p.2) 0 [some sq, none, none] S ⟨rfl, none, rfl⟩ (by
      rintro i x l S' hx ⟨rfl, o1, rfl⟩
      have hx' := List.mem_of_getElem? hx
      obtain ⟨p, hp, rfl⟩ := List.mem_map.mp hx'
      obtain ⟨g1, g2, held', g3, g4⟩ := sqv_rK p.1 p.2 S'
      have hlc := dLc_pure (vs := [2]) (di := dItV (dVar 1)) (t := .nm 2) (el := dFn d_is_integer (dCons (dVar 2) dNil)) (l := [some sq, some (rK p.1 p.2), none]) (S := S') (it := ⟨p.2.map .int, held'⟩) (fun _ => .bl true)
        (by simp [g3]) g4 (by simp only [List.length_map]; rw [hr p hp]; omega) (by
          intro x hx
          obtain ⟨i, _, rfl⟩ := List.mem_map.mp hx
          refine ⟨_, asg1, ?_⟩
          simp [setZ, d_isint])
      rw [List.length_map, hr p hp] at g2
      refine ⟨_, _, _, asg1, ?_, h4, rfl, some (rK p.1 p.2), rfl⟩
      have hm : mkNd .tup [PV.ty "list", PV.ty "tuple"] S' = .ok (.nd .tup [PV.ty "list", PV.ty "tuple"]) S' := mkNd_ok S' (by decide)
      simp only [setZ, List.foldl, List.set]
      have ha := all_true ((fun _ => PV.bl true) ∘ PV.int) (fun _ => rfl) p.2 S'
      simp [hm, g1, h2, g2, hlc, ha, -dLc_ap])
  subst f2 f3
  have hm : mkNd .tup [PV.ty "list", PV.ty "tuple"] S' = .ok (.nd .tup [PV.ty "list", PV.ty "tuple"]) S' := mkNd_ok S' (by decide)
  simp [hm, h1, h2, hg, h3, h4, f1]
end Z
end
end
section
set_option Elab.async false
set_option linter.all false
set_option maxRecDepth 100000
set_option maxHeartbeats 2000000
/-! K28B: the determinant of k28. -/
noncomputable section
namespace Z
open PySem PySem.Spec PyProof.Rows L2

def ro (r : List Int) : Dt.Rw := fun j => r.getD j 0
theorem datL_rows (k : Bool) : ∀ L : List (List Int), datL (L.map (rK k)) = some (L.map fun r => if k then PyData.tuple (r.map .int) else .list (r.map .int))
  | [] => rfl
  | r :: L => by
    rw [List.map_cons, datL, datL_rows k L]
    cases k <;> simp [rK, rL, rT, dat, datL_ints]
theorem shaped_rows (k : Bool) (L : List (List Int)) : SeqAt.shaped (.list (L.map fun r => if k then PyData.tuple (r.map .int) else .list (r.map .int))) = true := by
  have h : ∀ L : List (List Int), PyData.canLayAll0 (L.map fun r => if k then PyData.tuple (r.map .int) else .list (r.map .int)) = true ∧ PyData.depthAll (L.map fun r => if k then PyData.tuple (r.map .int) else .list (r.map .int)) ≤ 1 := by
    intro L
    induction L with
    | nil => exact ⟨rfl, by rw [List.map_nil, PyData.depthAll]; omega⟩
    | cons r L ih =>
      rw [List.map_cons, PyData.canLayAll0, PyData.depthAll, ih.1]
      have ih2 := ih.2
      cases k <;> simp [PyData.canLay0, PyData.depth, canLay_ints, depth_ints] at ih2 ⊢ <;> omega
  unfold SeqAt.shaped
  rw [PyData.canLay0, PyData.depth, (h L).1, Bool.true_and]
  exact decide_eq_true (by have := (h L).2; omega)
theorem neZ_nilv {x : PV} {xs : List PV} {ds : List PyData} {S : Sto} (hv : view x S = some (.lst, xs)) (h : datL xs = some ds) (hs : SeqAt.shaped (.list ds) = true) : neZ x (.nd .lst []) S = .ok (.bl (!decide (xs = []))) S := by
  rw [← neZ_nil h hs]
  show neD x (.nd .lst []) S = neD (.nd .lst xs) (.nd .lst []) S
  unfold neD datS
  rw [hv]
  rfl
theorem eqZ_nilv {x : PV} {xs : List PV} {ds : List PyData} {S : Sto} (hv : view x S = some (.lst, xs)) (h : datL xs = some ds) (hs : SeqAt.shaped (.list ds) = true) : eqZ x (.nd .lst []) S = .ok (.bl (decide (xs = []))) S := by
  rw [← eqZ_nil h hs]
  show eqD x (.nd .lst []) S = eqD (.nd .lst xs) (.nd .lst []) S
  unfold eqD datS
  rw [hv]
  rfl
def cD : DB := dB (dBin neZ (dVar 1) (dLst (dNil)))
/-- behind the exchange -/
def tD : DS := dSeq (dSet 7 (dBin subZ (dVar 1) (dC (.int 0)))) (dSeq (dSet 1 (dLcM [6] (dItV (dSli (dVar 1) (dSome (dC (.int 1))) (dNone))) (.nm 6) (dYes) (dFn d_led_line (dCons (dVar 7) (dCons (dVar 6) (dCons (dVar 3) (dNil))))))) (dSet 3 (dBin subZ (dVar 7) (dC (.int 0)))))
def bD : DS := dSeq (dSet 5 (dFn d_first_place (dCons (dLc [6] (dItV (dVar 1)) (.nm 6) (dYes) (dBin subZ (dVar 6) (dC (.int 0)))) (dNil)))) (dSeq (dIfS (dB (dBin isZ (dVar 5) (dC .non))) (dRet (dC (.int 0))) (dSkip)) (dSeq (dIfS (dB (dBin gtZ (dVar 5) (dC (.int 0)))) (dSeq (dAsg (dTup (dCons (dBin subZ (dVar 1) (dVar 5)) (dCons (dBin subZ (dVar 1) (dC (.int 0))) (dNil)))) (gzT [gzI (dVar 1) (dC (.int 0)), gzI (dVar 1) (dVar 5)])) (dSet 2 (dBin subP (dC (.int 0)) (dVar 2)))) (dSkip)) tD))
theorem bdet_eq : b_determinant = dSeq (dIfS (dNotT (dTru (dFn d_is_square (dCons (dVar 0) (dNil))))) (dNever) (dSkip)) (dSeq (dAsg (dTup (dCons (dLcM [4] (dItV (dVar 0)) (.nm 4) (dYes) (dApp listP (dCons (dVar 4) (dNil)))) (dCons (dC (.int 1)) (dCons (dC (.int 1)) (dNil))))) (gzT [gzN 1, gzN 2, gzN 3])) (dSeq (dWhile cD bD) (dRet (dBin mulZ (dVar 2) (dVar 3))))) := rfl
/-- a row as it is now, and the row that it came from -/
abbrev Xr := List Int × Dt.Rw
def LP (X : List Xr) : List (Dt.Rw × Dt.Rw) := X.map fun x => (ro x.1, x.2)
def nxt (f0 d : Int) (fs : List Int) (R : List Xr) : List Xr := R.map fun y => (led f0 (y.1.headD 0) d fs y.1.tail, y.2)
theorem led_len (f0 l0 d : Int) (fs ls : List Int) : (led f0 l0 d fs ls).length = min fs.length ls.length := by
  unfold led; rw [List.length_map, List.length_zip]
/-- one clearing keeps what holds -/
theorem inv_nxt {k m : Nat} {ps : List Dt.Rw} {f0 d : Int} {fs : List Int} {o : Dt.Rw} {R : List Xr} (h : Dt.Inv k ps (LP ((f0 :: fs, o) :: R)) d) (hd : d ≠ 0) (hf : f0 ≠ 0) (hfs : fs.length = m) (hR : ∀ y ∈ R, y.1.length = m + 1) :
    Dt.Inv (k + 1) (ps ++ [o]) (LP (nxt f0 d fs R)) f0 := by
  have hfm : ((ro (f0 :: fs), o) : Dt.Rw × Dt.Rw) ∈ LP ((f0 :: fs, o) :: R) := List.mem_cons_self
  refine Dt.Inv.step (f := (ro (f0 :: fs), o)) h hd hfm hf fun g hg => ?_
  obtain ⟨z, hz, rfl⟩ := List.mem_map.mp hg
  obtain ⟨y, hy, rfl⟩ := List.mem_map.mp hz
  have hym : (ro y.1, y.2) ∈ LP ((f0 :: fs, o) :: R) := List.mem_map.mpr ⟨y, List.mem_cons_of_mem _ hy, rfl⟩
  refine ⟨(ro y.1, y.2), hym, rfl, fun j => ?_⟩
  have hl := hR y hy
  obtain ⟨l0, ls, e⟩ : ∃ l0 ls, y.1 = l0 :: ls := by
    cases hq : y.1 with
    | nil => rw [hq] at hl; simp at hl
    | cons a b => exact ⟨a, b, rfl⟩
  have hdv := Dt.Inv.two h hfm hym j
  rw [e] at hdv hl ⊢
  have hls : ls.length = m := by simpa using hl
  show d * ro (led f0 l0 d fs ls) j = f0 * ro (l0 :: ls) (j + 1) - l0 * ro (f0 :: fs) (j + 1)
  have hdv : d ∣ f0 * ro (l0 :: ls) (j + 1) - l0 * ro (f0 :: fs) (j + 1) := hdv
  by_cases hj : j < m
  · have e1 : ro (l0 :: ls) (j + 1) = ls[j] := by simp [ro, List.getElem?_eq_getElem (show j < ls.length by omega)]
    have e2 : ro (f0 :: fs) (j + 1) = fs[j] := by simp [ro, List.getElem?_eq_getElem (show j < fs.length by omega)]
    have e3 : ro (led f0 l0 d fs ls) j = (f0 * ls[j] - l0 * fs[j]) / d := by
      have h1 : (fs.zip ls)[j]? = some (fs[j], ls[j]) := by
        rw [List.getElem?_zip_eq_some]
        exact ⟨List.getElem?_eq_getElem _, List.getElem?_eq_getElem _⟩
      simp [ro, led, h1]
    rw [e1, e2] at hdv
    rw [e3, e1, e2]
    exact Int.mul_ediv_cancel' hdv
  · have e1 : ro (l0 :: ls) (j + 1) = 0 := by simp [ro, List.getElem?_eq_none (show ls.length ≤ j by omega)]
    have e2 : ro (f0 :: fs) (j + 1) = 0 := by simp [ro, List.getElem?_eq_none (show fs.length ≤ j by omega)]
    have e3 : ro (led f0 l0 d fs ls) j = 0 := by
      have := led_len f0 l0 d fs ls
      simp [ro, List.getElem?_eq_none (show (led f0 l0 d fs ls).length ≤ j by omega)]
    rw [e1, e2, e3]
    simp
theorem tD_ok {sq : Option PV} {n : Nat} {sg d f0 : Int} {fs : List Int} {o : Dt.Rw} {R : List Xr} {o4 o5 o6 o7 : Option PV} {S : Sto} {k m : Nat} {ps : List Dt.Rw}
    (hS : S[n]? = some (some (.lst, ((f0 :: fs, o) :: R).map fun x => rL x.1))) (h : Dt.Inv k ps (LP ((f0 :: fs, o) :: R)) d) (hd : d ≠ 0) (hfs : fs.length = m) (hm : m ≤ 40) (hRn : R.length = m) (hR : ∀ y ∈ R, y.1.length = m + 1)
    (hdb : d.natAbs < DIVB) (hb : ∀ x ∈ ((f0 :: fs, o) :: R), ∀ v ∈ x.1, v.natAbs < DIVB) :
    ∃ o6' o7', tD [sq, some (.ref n), some (.int sg), some (.int d), o4, o5, o6, o7] S = .nx [sq, some (.ref S.length), some (.int sg), some (.int f0), o4, o5, o6', o7'] (S ++ [some (.lst, (nxt f0 d fs R).map fun x => rL x.1)]) := by
  have h0 : subZ (.ref n) (.int 0) S = .ok (rL (f0 :: fs)) S := by
    refine subZ_ref S 0 _ hS ?_
    rw [List.map_cons]
    exact atI_0 _ _
  have hsl : sliZ (.ref n) (some 1) none S = .ok (.nd .lst (R.map fun x => rL x.1)) S := by
    rw [sliZ_ref hS, cutP_1, List.map_cons]; rfl
  have hlc := dLcM_pure (vs := [6]) (di := dItV (dSli (dVar 1) (dSome (dC (.int 1))) dNone)) (t := .nm 6) (el := dFn d_led_line (dCons (dVar 7) (dCons (dVar 6) (dCons (dVar 3) dNil)))) (l := [sq, some (.ref n), some (.int sg), some (.int d), o4, o5, o6, some (rL (f0 :: fs))]) (S := S)
    (it := ⟨R.map fun x => rL x.1, []⟩) (fun x => rL (led f0 ((decI x).headD 0) d fs (decI x).tail)) (by simp [hsl]) (heldB_nil S) (by simp only [List.length_map]; omega) (by
      intro x hx
      obtain ⟨y, hy, rfl⟩ := List.mem_map.mp hx
      have hl := hR y hy
      obtain ⟨l0, ls, e⟩ : ∃ l0 ls, y.1 = l0 :: ls := by
        cases hq : y.1 with
        | nil => rw [hq] at hl; simp at hl
        | cons a b => exact ⟨a, b, rfl⟩
      have hym : (ro y.1, y.2) ∈ LP ((f0 :: fs, o) :: R) := List.mem_map.mpr ⟨y, List.mem_cons_of_mem _ hy, rfl⟩
      have hfm : ((ro (f0 :: fs), o) : Dt.Rw × Dt.Rw) ∈ LP ((f0 :: fs, o) :: R) := List.mem_cons_self
      rw [e] at hym hl ⊢
      have hls : ls.length = m := by simpa using hl
      have hby : ∀ v ∈ l0 :: ls, v.natAbs < DIVB := by
        have := hb y (List.mem_cons_of_mem _ hy)
        rw [e] at this
        exact this
      have hbf := hb _ (List.mem_cons_self (a := (f0 :: fs, o)) (l := R))
      have hled := d_led (S := S) (f0 := f0) (l0 := l0) (fs := fs) (ls := ls) hd hdb (by omega) (by
        intro p hp
        obtain ⟨p1, p2⟩ := List.of_mem_zip (a := p.1) (b := p.2) hp
        refine ⟨mulOk_b (hbf _ List.mem_cons_self) (hby _ (List.mem_cons_of_mem _ p2)), mulOk_b (hby _ List.mem_cons_self) (hbf _ (List.mem_cons_of_mem _ p1)), ?_⟩
        obtain ⟨j, hj⟩ := List.mem_iff_getElem?.mp hp
        rw [List.getElem?_zip_eq_some] at hj
        have := Dt.Inv.two h hfm hym j
        have e1 : ro (l0 :: ls) (j + 1) = p.2 := by simp [ro, hj.2]
        have e2 : ro (f0 :: fs) (j + 1) = p.1 := by simp [ro, hj.1]
        have this : d ∣ f0 * ro (l0 :: ls) (j + 1) - l0 * ro (f0 :: fs) (j + 1) := this
        rw [e1, e2] at this
        exact this)
      refine ⟨_, asg1, ?_⟩
      have e3 : decI (rL (l0 :: ls)) = l0 :: ls := decI_nd _ _
      simp [setZ, hled, e3])
  refine ⟨o6, some (rL (f0 :: fs)), ?_⟩
  unfold tD
  have hmap : (R.map fun x => rL x.1).map (fun x => rL (led f0 ((decI x).headD 0) d fs (decI x).tail)) = (nxt f0 d fs R).map fun x => rL x.1 := by
    unfold nxt
    rw [List.map_map, List.map_map]
    apply List.map_congr_left
    intro y _
    show rL (led f0 ((decI (rL y.1)).headD 0) d fs (decI (rL y.1)).tail) = _
    have e3 : decI (rL y.1) = y.1 := decI_nd _ _
    rw [e3]
    rfl
  simp only at hlc
  rw [hmap] at hlc
  have h00 : ∀ S, subZ (rL (f0 :: fs)) (.int 0) S = .ok (.int f0) S := fun S => subZ_l0 _ _ S
  simp [h0, hlc, h00, -dLcM_ap]
theorem fp_none : ∀ (ns : List Int) (k : Nat), fp ns k = none → ∀ x ∈ ns, x = 0
  | [], _, _, x, hx => (nomatch hx)
  | y :: ns, k, h, x, hx => by
    rw [fp] at h
    split at h
    · rename_i hy
      rcases List.mem_cons.mp hx with e | e
      · rw [e]; exact hy
      · exact fp_none ns (k + 1) h x e
    · cases h
theorem fp_some : ∀ (ns : List Int) (k j : Nat), fp ns k = some j → ∃ i x, j = k + i ∧ ns[i]? = some x ∧ x ≠ 0
  | [], _, _, h => by cases h
  | y :: ns, k, j, h => by
    rw [fp] at h
    split at h
    · obtain ⟨i, x, h1, h2, h3⟩ := fp_some ns (k + 1) j h
      exact ⟨i + 1, x, by omega, by rw [List.getElem?_cons_succ]; exact h2, h3⟩
    · rename_i hy
      cases h
      exact ⟨0, y, rfl, rfl, hy⟩
structure BSt (n0 B : Nat) (V : Int) (S0 : Sto) (X : List Xr) (m k : Nat) (ps : List Dt.Rw) (sg d : Int) (n : Nat) (S : Sto) : Prop where
  inv : Dt.Inv k ps (LP X) d
  dne : d ≠ 0
  dv : d = Dt.D ps (List.range k)
  len : X.length = m
  rows : ∀ y ∈ X, y.1.length = m
  tot : k + m = n0
  psl : ps.length = k
  bo : ∀ y ∈ X, ∀ j, (y.2 j).natAbs ≤ B
  bp : ∀ r ∈ ps, ∀ j, (r j).natAbs ≤ B
  val : V = sg * Dt.D (ps ++ X.map Prod.snd) (List.range n0)
  sg1 : sg = 1 ∨ sg = -1
  pre : S0 <+: S
  ge : S0.length ≤ n
  at_ : S[n]? = some (some (.lst, X.map fun x => rL x.1))
theorem pow_le {a b c n : Nat} (h1 : a ≤ c + 1) (h2 : b ≤ n) : a ^ b ≤ (c + 1) ^ n := by
  refine Nat.le_trans (Nat.pow_le_pow_left h1 b) (Nat.pow_le_pow_right (by omega) h2)
section
variable {n0 B : Nat} {V : Int} {S0 : Sto} {X : List Xr} {m k : Nat} {ps : List Dt.Rw} {sg d : Int} {n : Nat} {S : Sto}
theorem BSt.dlt (h : BSt n0 B V S0 X m k ps sg d n S) (hB : (n0 * B + 1) ^ n0 < DIVB) : d.natAbs < DIVB := by
  refine Nat.lt_of_le_of_lt ?_ hB
  rw [h.dv]
  have hkm := h.tot
  have := Dt.D_le (B := B) (N := n0) ps (List.range k) h.bp (by rw [List.length_range]; omega)
  refine Nat.le_trans this ?_
  rw [h.psl]
  exact pow_le (by omega) (by omega)
theorem BSt.elt (h : BSt n0 B V S0 X m k ps sg d n S) (hB : (n0 * B + 1) ^ n0 < DIVB) : ∀ x ∈ X, ∀ v ∈ x.1, v.natAbs < DIVB := fun x hx v hv => by
  refine Nat.lt_of_le_of_lt ?_ hB
  obtain ⟨j, hj⟩ := List.mem_iff_getElem?.mp hv
  have e := Dt.Inv.entry h.inv (p := (ro x.1, x.2)) (List.mem_map.mpr ⟨x, hx, rfl⟩) j
  have e2 : ro x.1 j = v := by simp [ro, hj]
  have e : ro x.1 j = Dt.D (ps ++ [x.2]) (List.range k ++ [j + k]) := e
  rw [e2] at e
  rw [e]
  have hm : 1 ≤ m := by
    have := h.len
    have := List.length_pos_of_mem hx
    omega
  have hkm := h.tot
  have := Dt.D_le (B := B) (N := n0) (ps ++ [x.2]) (List.range k ++ [j + k]) (fun r hr => by
    rcases List.mem_append.mp hr with z | z
    · exact h.bp r z
    · rw [List.mem_singleton.mp z]; exact h.bo x hx) (by rw [List.length_append, List.length_range, List.length_singleton]; omega)
  refine Nat.le_trans this ?_
  rw [List.length_append, h.psl, List.length_singleton]
  exact pow_le (by omega) (by omega)
/-- all heads are nought: so is the determinant -/
theorem BSt.nought (h : BSt n0 B V S0 X m k ps sg d n S) (hm : 0 < m) (hz : ∀ x ∈ X, ro x.1 0 = 0) : V = 0 := by
  have hne : LP X ≠ [] := by
    intro z
    have := congrArg List.length z
    unfold LP at this
    rw [List.length_map, h.len] at this
    simp at this
    omega
  have e := h.inv (LP X) (fun p hp => hp) hne (List.range m)
  have e1 : (LP X).map Prod.snd = X.map Prod.snd := by unfold LP; rw [List.map_map]; rfl
  obtain ⟨m', rfl⟩ : ∃ m', m = m' + 1 := ⟨m - 1, by omega⟩
  have e2 : Dt.D ((LP X).map Prod.fst) (List.range (m' + 1)) = 0 := by
    rw [List.range_succ_eq_map]
    refine Dt.D_zero 0 _ _ fun r hr => ?_
    unfold LP at hr
    rw [List.map_map] at hr
    obtain ⟨x, hx, rfl⟩ := List.mem_map.mp hr
    exact hz x hx
  rw [e2, e1] at e
  have e3 : List.range k ++ (List.range (m' + 1)).map (· + k) = List.range n0 := by
    rw [← h.tot, List.range_add (n := k) (m := m' + 1)]
    congr 1
    apply List.map_congr_left
    intro x _
    exact Nat.add_comm x k
  rw [e3] at e
  have hp : d ^ ((LP X).length - 1) ≠ 0 := Int.pow_ne_zero h.dne
  rcases Int.mul_eq_zero.mp e.symm with z | z
  · exact absurd z hp
  · rw [h.val, z]; simp
end
section
variable {n0 B : Nat} {V : Int} {S0 : Sto} {X : List Xr} {m k : Nat} {ps : List Dt.Rw} {sg d : Int} {n : Nat} {S : Sto} {sq : Option PV}
/-- behind one turn with the first row leading -/
theorem BSt.next {f0 : Int} {fs : List Int} {o : Dt.Rw} {R : List Xr} (h : BSt n0 B V S0 ((f0 :: fs, o) :: R) (m + 1) k ps sg d n S) (hf : f0 ≠ 0) :
    BSt n0 B V S0 (nxt f0 d fs R) m (k + 1) (ps ++ [o]) sg f0 S.length (S ++ [some (.lst, (nxt f0 d fs R).map fun x => rL x.1)]) := by
  have hfl : fs.length = m := by have := h.rows _ List.mem_cons_self; simpa using this
  have hR : ∀ y ∈ R, y.1.length = m + 1 := fun y hy => h.rows y (List.mem_cons_of_mem _ hy)
  have hinv := inv_nxt h.inv h.dne hf hfl hR
  refine ⟨hinv, hf, ?_, ?_, ?_, ?_, ?_, ?_, ?_, ?_, h.sg1, ?_, ?_, ?_⟩
  · have e := Dt.Inv.entry h.inv (p := (ro (f0 :: fs), o)) List.mem_cons_self 0
    have e : f0 = Dt.D (ps ++ [o]) (List.range k ++ [0 + k]) := e
    rw [Nat.zero_add] at e
    rw [List.range_succ]; exact e
  · unfold nxt; rw [List.length_map]; have := h.len; simpa using this
  · intro y hy
    obtain ⟨z, hz, rfl⟩ := List.mem_map.mp hy
    show (led _ _ _ _ _).length = m
    rw [led_len, hfl, List.length_tail, hR z hz]; simp
  · have := h.tot; omega
  · rw [List.length_append, h.psl]; rfl
  · intro y hy
    obtain ⟨z, hz, rfl⟩ := List.mem_map.mp hy
    exact h.bo z (List.mem_cons_of_mem _ hz)
  · intro r hr
    rcases List.mem_append.mp hr with z | z
    · exact h.bp r z
    · rw [List.mem_singleton.mp z]; exact h.bo _ List.mem_cons_self
  · rw [h.val]
    have e : (nxt f0 d fs R).map Prod.snd = R.map Prod.snd := by unfold nxt; rw [List.map_map]; rfl
    rw [e, List.append_assoc]
    rfl
  · exact h.pre.trans (List.prefix_append _ _)
  · have := h.pre.length_le; exact this
  · rw [List.getElem?_append_right (Nat.le_refl _)]; simp
theorem BSt.tD (h : BSt n0 B V S0 X (m + 1) k ps sg d n S) (hB : (n0 * B + 1) ^ n0 < DIVB) (hm : m ≤ 40) {f0 : Int} {fs : List Int} {o : Dt.Rw} {R : List Xr} (hX : X = (f0 :: fs, o) :: R) (o4 o5 o6 o7 : Option PV) :
    ∃ o6' o7', tD [sq, some (.ref n), some (.int sg), some (.int d), o4, o5, o6, o7] S = .nx [sq, some (.ref S.length), some (.int sg), some (.int f0), o4, o5, o6', o7'] (S ++ [some (.lst, (nxt f0 d fs R).map fun x => rL x.1)]) := by
  subst hX
  refine tD_ok (m := m) h.at_ h.inv h.dne ?_ hm ?_ (fun y hy => h.rows y (List.mem_cons_of_mem _ hy)) (h.dlt hB) (h.elt hB)
  · have := h.rows _ List.mem_cons_self; simpa using this
  · have := h.len; simpa using this
/-- two rows exchanged -/
theorem BSt.swap {a b : Xr} {M Q : List Xr} (h : BSt n0 B V S0 (a :: (M ++ b :: Q)) m k ps sg d n S) :
    BSt n0 B V S0 (b :: (M ++ a :: Q)) m k ps (0 - sg) d n (S.set n (some (.lst, (b :: (M ++ a :: Q)).map fun x => rL x.1))) := by
  have mem : ∀ {x : Xr}, x ∈ b :: (M ++ a :: Q) → x ∈ a :: (M ++ b :: Q) := fun {x} hx => by
    simp only [List.mem_cons, List.mem_append] at hx ⊢
    rcases hx with e | e | e | e
    · exact .inr (.inr (.inl e))
    · exact .inr (.inl e)
    · exact .inl e
    · exact .inr (.inr (.inr e))
  have hn : n < S.length := (List.getElem?_eq_some_iff.mp h.at_).1
  refine ⟨fun q hq => h.inv q fun p hp => ?_, h.dne, h.dv, ?_, fun y hy => h.rows y (mem hy), h.tot, h.psl, fun y hy => h.bo y (mem hy), h.bp, ?_, ?_, ?_, h.ge, ?_⟩
  · obtain ⟨x, hx, rfl⟩ := List.mem_map.mp (hq p hp)
    exact List.mem_map.mpr ⟨x, mem hx, rfl⟩
  · have := h.len
    simp only [List.length_cons, List.length_append] at this ⊢
    exact this
  · rw [h.val]
    simp only [List.map_cons, List.map_append]
    rw [Dt.D_swap ps a.2 b.2 (M.map Prod.snd) (Q.map Prod.snd)]
    rw [Int.sub_mul, Int.zero_mul, Int.mul_neg]; omega
  · rcases h.sg1 with e | e <;> rw [e]
    · exact .inr rfl
    · exact .inl rfl
  · obtain ⟨t, ht⟩ := h.pre
    subst ht
    exact ⟨_, (List.set_append_right _ _ h.ge).symm⟩
  · rw [List.getElem?_set_self hn]
end
/-- a place and what stands there -/
theorem split_at {α : Type} : ∀ (L : List α) (i : Nat) (x : α), L[i]? = some x → ∃ M Q, L = M ++ x :: Q ∧ M.length = i
  | [], i, x, h => by simp at h
  | y :: L, 0, x, h => ⟨[], L, by simp at h; rw [h]; rfl, rfl⟩
  | y :: L, i + 1, x, h => by
    obtain ⟨M, Q, e, hl⟩ := split_at L i x (by simpa using h)
    exact ⟨y :: M, Q, by rw [e]; rfl, by rw [List.length_cons, hl]⟩
section
variable {n0 B : Nat} {V : Int} {S0 : Sto} {sq : Option PV}
theorem putP_at {n : Nat} {xs : List PV} {S : Sto} {v : PV} {j : Nat} (h : S[n]? = some (some (.lst, xs))) (hj : j < xs.length) : putP (.ref n) (.int (j : Nat)) v S = some (S.set n (some (.lst, xs.set j v))) := by
  unfold putP
  simp only [h]
  have e : ixN xs.length (j : Int) = some j := by unfold ixN; simp [hj]
  rw [e]; rfl
theorem loopD (hB : (n0 * B + 1) ^ n0 < DIVB) (hn0 : n0 ≤ 40) : ∀ (m : Nat) (X : List Xr) (k : Nat) (ps : List Dt.Rw) (sg d : Int) (n : Nat) (S : Sto) (o4 o5 o6 o7 : Option PV), BSt n0 B V S0 X m k ps sg d n S →
    (∃ l' S' sg' d', whileN cD bD (m + 1) [sq, some (.ref n), some (.int sg), some (.int d), o4, o5, o6, o7] S = .nx l' S' ∧ l'[2]? = some (some (.int sg')) ∧ l'[3]? = some (some (.int d')) ∧ (sg' = 1 ∨ sg' = -1) ∧ sg' * d' = V ∧ S0 <+: S') ∨
    (∃ S', whileN cD bD (m + 1) [sq, some (.ref n), some (.int sg), some (.int d), o4, o5, o6, o7] S = .ret (.int 0) S' ∧ V = 0 ∧ S0 <+: S') := by
  intro m
  induction m with
  | zero =>
    intro X k ps sg d n S o4 o5 o6 o7 h
    left
    have hX : X = [] := List.length_eq_zero_iff.mp h.len
    subst hX
    refine ⟨[sq, some (.ref n), some (.int sg), some (.int d), o4, o5, o6, o7], S, sg, d, ?_, rfl, rfl, h.sg1, ?_, h.pre⟩
    · rw [whileN]
      have hv : view (.ref n) S = some (.lst, []) := view_ref h.at_
      have hne := neZ_nilv (x := .ref n) hv (datL_rows false []) (shaped_rows false [])
      simp [cD, mkNd, hne]
    · rw [h.val]
      have : k = n0 := by have := h.tot; omega
      subst this
      rw [List.map_nil, List.append_nil, ← h.dv]
  | succ m ih =>
    intro X k ps sg d n S o4 o5 o6 o7 h
    have hv : view (.ref n) S = some (.lst, X.map fun x => rL x.1) := view_ref h.at_
    have hXne : X ≠ [] := fun z => by have := h.len; rw [z] at this; simp at this
    have hrow : (X.map fun x => rL x.1) = (X.map Prod.fst).map (rK false) := by rw [List.map_map]; rfl
    have hne : neZ (.ref n) (.nd .lst []) S = .ok (.bl true) S := by
      have := neZ_nilv (x := .ref n) (xs := (X.map Prod.fst).map (rK false)) (by rw [hv, hrow]) (datL_rows false _) (shaped_rows false _)
      rw [this]
      congr 2
      simp [hXne]
    have hfst := dLc_pure (vs := [6]) (di := dItV (dVar 1)) (t := .nm 6) (el := dBin subZ (dVar 6) (dC (.int 0))) (l := [sq, some (.ref n), some (.int sg), some (.int d), o4, o5, o6, o7]) (S := S)
      (it := ⟨X.map fun x => rL x.1, [(.ref n, (.lst, X.map fun x => rL x.1))]⟩) (fun x => .int ((decI x).headD 0)) (by
        have : itOf (.ref n) S = .ok ⟨X.map fun x => rL x.1, [(.ref n, (.lst, X.map fun x => rL x.1))]⟩ S := by
          simp only [itOf, seqIt, hv, hold_ref]
        simp [this]) (heldB_of fun p hp => by rw [List.mem_singleton.mp hp]; exact hv) (by simp only [List.length_map, h.len]; have := h.tot; omega) (by
        intro x hx
        obtain ⟨y, hy, rfl⟩ := List.mem_map.mp hx
        have hl := h.rows y hy
        obtain ⟨l0, ls, e⟩ : ∃ l0 ls, y.1 = l0 :: ls := by
          cases hq : y.1 with
          | nil => rw [hq] at hl; simp at hl
          | cons a b => exact ⟨a, b, rfl⟩
        refine ⟨_, asg1, ?_⟩
        have e3 : decI (rL y.1) = y.1 := decI_nd _ _
        rw [e3, e]
        have := subZ_l0 (.int l0) (ls.map .int) S
        simp [setZ, rL, this])
    have hheads : (X.map fun x => rL x.1).map (fun x => PV.int ((decI x).headD 0)) = (X.map fun x => x.1.headD 0).map PV.int := by
      rw [List.map_map, List.map_map]
      apply List.map_congr_left
      intro y _
      show PV.int ((decI (rL y.1)).headD 0) = _
      have e3 : decI (rL y.1) = y.1 := decI_nd _ _
      rw [e3]; rfl
    simp only at hfst
    rw [hheads] at hfst
    obtain ⟨hs, hH⟩ : ∃ hs, hs = X.map fun x => x.1.headD 0 := ⟨_, rfl⟩
    rw [← hH] at hfst
    have hd1 := d_first hs S
    unfold rL at hd1
    have hro : ∀ x : Xr, ro x.1 0 = x.1.headD 0 := fun x => by unfold ro; cases x.1 <;> rfl
    -- the first row after the exchange
    have fin : ∀ (X' : List Xr) (sg' : Int) (S' : Sto) (b : Xr) (R : List Xr) (o5' : Option PV), BSt n0 B V S0 X' (m + 1) k ps sg' d n S' → X' = b :: R → b.1.headD 0 ≠ 0 →
        whileN cD bD (m + 1 + 1) [sq, some (.ref n), some (.int sg), some (.int d), o4, o5, o6, o7] S = (match (tD [sq, some (.ref n), some (.int sg'), some (.int d), o4, o5', o6, o7] S' : OutS) with
          | .nx l2 S2 => whileN cD bD (m + 1) l2 S2
          | .cnt l2 S2 => whileN cD bD (m + 1) l2 S2
          | .brk l2 S2 => .nx l2 S2
          | o => o) →
        (∃ l' S' sg' d', whileN cD bD (m + 1 + 1) [sq, some (.ref n), some (.int sg), some (.int d), o4, o5, o6, o7] S = .nx l' S' ∧ l'[2]? = some (some (.int sg')) ∧ l'[3]? = some (some (.int d')) ∧ (sg' = 1 ∨ sg' = -1) ∧ sg' * d' = V ∧ S0 <+: S') ∨
        (∃ S', whileN cD bD (m + 1 + 1) [sq, some (.ref n), some (.int sg), some (.int d), o4, o5, o6, o7] S = .ret (.int 0) S' ∧ V = 0 ∧ S0 <+: S') := by
      intro X' sg' S' b R o5' h' hX' hb0 he
      obtain ⟨br, bo⟩ := b
      obtain ⟨f0, fs, rfl⟩ : ∃ f0 fs, br = f0 :: fs := by
        cases br with
        | nil => exact absurd rfl hb0
        | cons a b => exact ⟨a, b, rfl⟩
      have hf0 : f0 ≠ 0 := hb0
      obtain ⟨o6', o7', ht⟩ := h'.tD (sq := sq) hB (by have := h.tot; omega) hX' o4 o5' o6 o7
      rw [ht] at he
      subst hX'
      rw [he]
      exact ih _ _ _ _ _ _ _ o4 o5' o6' o7' (h'.next hf0)
    cases hfp : fp hs 0 with
    | none =>
      right
      refine ⟨S, ?_, h.nought (by omega) fun x hx => ?_, h.pre⟩
      · rw [whileN]
        rw [hfp] at hd1
        simp [cD, bD, mkNd, hne, hfst, hd1, fpV, -dLc_ap]
      · rw [hro]
        exact fp_none _ 0 hfp _ (by rw [hH]; exact List.mem_map.mpr ⟨x, hx, rfl⟩)
    | some at_ =>
      obtain ⟨i, x, hi, hx, hx0⟩ := fp_some _ 0 at_ hfp
      have hi : at_ = i := by omega
      subst hi
      rw [hH, List.getElem?_map, Option.map_eq_some_iff] at hx
      obtain ⟨b, hb, rfl⟩ := hx
      rw [hfp] at hd1
      cases at_ with
      | zero =>
        obtain ⟨M, Q, hXe, hM⟩ := split_at X 0 b hb
        have hM := List.length_eq_zero_iff.mp hM
        subst hM
        refine fin X sg S b Q (some (.int 0)) h hXe hx0 ?_
        rw [whileN]
        simp [cD, bD, mkNd, hne, hfst, hd1, fpV, -dLc_ap] <;> rfl
      | succ i =>
        obtain ⟨a, X', rfl⟩ : ∃ a X', X = a :: X' := by
          cases X with
          | nil => exact absurd rfl hXne
          | cons a b => exact ⟨a, b, rfl⟩
        obtain ⟨M, Q, hXe, hM⟩ := split_at X' i b (by simpa using hb)
        subst hXe
        have hsw := h.swap
        refine fin _ (0 - sg) _ b (M ++ a :: Q) (some (.int ((i + 1 : Nat) : Int))) hsw rfl hx0 ?_
        rw [whileN]
        have hlen : ((a :: (M ++ b :: Q)).map fun x => rL x.1).length = M.length + Q.length + 2 := by simp; omega
        have g1 : subZ (.ref n) (.int ((i + 1 : Nat) : Int)) S = .ok (rL b.1) S := by
          refine subZ_ref S _ _ h.at_ ?_
          rw [atI_ofNat, List.map_cons, List.getElem?_cons_succ, List.map_append, List.getElem?_append_right (by rw [List.length_map]; omega), List.length_map, hM]
          simp
        have g2 : subZ (.ref n) (.int 0) S = .ok (rL a.1) S := by
          refine subZ_ref S _ _ h.at_ ?_
          rw [List.map_cons]
          exact atI_0 _ _
        have g3 : putP (.ref n) (.int 0) (rL b.1) S = some (S.set n (some (.lst, rL b.1 :: (M ++ b :: Q).map fun x => rL x.1))) := by
          have := putP_at (v := rL b.1) (j := 0) h.at_ (by rw [hlen]; omega)
          exact this
        have hn : n < S.length := (List.getElem?_eq_some_iff.mp h.at_).1
        have g4 : putP (.ref n) (.int ((i + 1 : Nat) : Int)) (rL a.1) (S.set n (some (.lst, rL b.1 :: (M ++ b :: Q).map fun x => rL x.1))) = some (S.set n (some (.lst, (b :: (M ++ a :: Q)).map fun x => rL x.1))) := by
          rw [putP_at (xs := rL b.1 :: (M ++ b :: Q).map fun x => rL x.1) (List.getElem?_set_self hn) (by simp; omega), List.set_set]
          congr 4
          rw [List.map_cons]
          show rL b.1 :: ((M ++ b :: Q).map fun x => rL x.1).set i (rL a.1) = _
          congr 1
          rw [List.map_append, List.map_append, List.map_cons, List.map_cons, List.set_append_right _ _ (by rw [List.length_map]; omega), List.length_map, hM, Nat.sub_self]
          rfl
        have ec : ((i + 1 : Nat) : Int) = (i : Int) + 1 := by omega
        rw [ec] at g1 g4 ⊢
        have hpos : (0 : Int) < (i : Int) + 1 := by omega
        have hfv : fpV (some (i + 1)) = .int ((i : Int) + 1) := by rw [← ec]; rfl
        rw [hfv] at hd1
        simp only [List.map_append, List.map_cons] at g3 g4
        simp [cD, bD, mkNd, hne, hfst, hd1, g1, g2, g3, g4, hpos, -dLc_ap] <;> rfl
end
def detI (rows : List (List Int)) : Int := Dt.D (rows.map ro) (List.range rows.length)
theorem fitsS_pre {S S' : Sto} (h : S <+: S') : fitsS S S' = true := by
  obtain ⟨t, rfl⟩ := h
  exact fitsS_app S t
theorem take_pre {S S' : Sto} (h : S <+: S') : S'.take S.length = S := by
  obtain ⟨t, rfl⟩ := h
  exact List.take_left
theorem d_det {sq : PV} {S : Sto} {rows : List (Bool × List Int)} {B : Nat} (h : SqV sq S (rows.map fun p => rK p.1 p.2)) (hn : rows.length ≤ 40) (hr : ∀ p ∈ rows, p.2.length = rows.length) (hb : ∀ p ∈ rows, ∀ v ∈ p.2, v.natAbs ≤ B) (hB : (rows.length * B + 1) ^ rows.length < DIVB) :
    d_determinant [sq] S = .ok (.int (detI (rows.map Prod.snd))) S := by
  have hsq := d_sq h hn hr
  obtain ⟨h1, h2, held, h3, h4⟩ := h
  have hlc := dLcM_pure (vs := [4]) (di := dItV (dVar 0)) (t := .nm 4) (el := dApp listP (dCons (dVar 4) dNil)) (l := [some sq, none, none, none, none, none, none, none]) (S := S) (it := ⟨rows.map fun p => rK p.1 p.2, held⟩)
    (fun x => rL (decI x)) (by simp [h3]) h4 (by simp only [List.length_map]; omega) (by
      intro x hx
      obtain ⟨p, hp, rfl⟩ := List.mem_map.mp hx
      refine ⟨_, asg1, ?_⟩
      have e3 : decI (rK p.1 p.2) = p.2 := by unfold rK; split <;> exact decI_nd _ _
      rw [e3]
      unfold rK
      split <;> simp [setZ, rL, rT])
  have hrows : (rows.map fun p => rK p.1 p.2).map (fun x => rL (decI x)) = (rows.map fun p => ((p.2, ro p.2) : Xr)).map fun x => rL x.1 := by
    rw [List.map_map, List.map_map]
    apply List.map_congr_left
    intro p _
    show rL (decI (rK p.1 p.2)) = rL p.2
    have e3 : decI (rK p.1 p.2) = p.2 := by unfold rK; split <;> exact decI_nd _ _
    rw [e3]
  simp only at hlc
  rw [hrows] at hlc
  have hst : BSt rows.length B (detI (rows.map Prod.snd)) S (rows.map fun p => ((p.2, ro p.2) : Xr)) rows.length 0 [] 1 1 S.length (S ++ [some (.lst, (rows.map fun p => ((p.2, ro p.2) : Xr)).map fun x => rL x.1)]) := by
    refine ⟨?_, by decide, rfl, by rw [List.length_map], fun y hy => ?_, Nat.zero_add _, rfl, fun y hy j => ?_, fun r hr => (nomatch hr), ?_, .inl rfl, List.prefix_append _ _, Nat.le_refl _, ?_⟩
    · have := Dt.inv_start ((rows.map Prod.snd).map ro)
      unfold LP
      rw [List.map_map, List.map_map] at this
      rw [List.map_map]
      exact this
    · obtain ⟨p, hp, rfl⟩ := List.mem_map.mp hy
      exact hr p hp
    · obtain ⟨p, hp, rfl⟩ := List.mem_map.mp hy
      show (ro p.2 j).natAbs ≤ B
      unfold ro
      by_cases hj : j < p.2.length
      · rw [List.getD_eq_getElem?_getD, List.getElem?_eq_getElem hj]
        exact hb p hp _ (List.getElem_mem hj)
      · rw [List.getD_eq_getElem?_getD, List.getElem?_eq_none (by omega)]
        exact Nat.zero_le _
    · rw [Int.one_mul, List.nil_append, List.map_map]
      unfold detI
      rw [List.length_map, List.map_map]
      rfl
    · rw [List.getElem?_append_right (Nat.le_refl _)]; simp
  have hlp := loopD (sq := some sq) hB hn _ _ _ _ _ _ _ _ none none none none hst
  have hwh : ∀ o, whileN cD bD (rows.length + 1) [some sq, some (.ref S.length), some (.int 1), some (.int 1), none, none, none, none] (S ++ [some (.lst, (rows.map fun p => ((p.2, ro p.2) : Xr)).map fun x => rL x.1)]) = o → o ≠ .bad →
      dWhile cD bD [some sq, some (.ref S.length), some (.int 1), some (.int 1), none, none, none, none] (S ++ [some (.lst, (rows.map fun p => ((p.2, ro p.2) : Xr)).map fun x => rL x.1)]) = o := fun o e ne => by
    rw [dWhile_eq (n := rows.length + 1) (by rw [e]; exact ne), e]
  clear hst hrows
  generalize (rows.map fun p => ((p.2, ro p.2) : Xr)).map (fun x => rL x.1) = Z at hlc hlp hwh
  rcases hlp with ⟨l', S', sg', d', w1, w2, w3, w4, w5, w6⟩ | ⟨S', w1, w2, w3⟩
  · have w := hwh _ w1 (by intro z; cases z)
    have hb : b_determinant [some sq, none, none, none, none, none, none, none] S = .ret (.int (detI (rows.map Prod.snd))) S' := by
      rw [bdet_eq]
      have mo : mulOk sg' d' := mulOk_l (by rcases w4 with e | e <;> rw [e] <;> decide)
      simp [hsq, hlc, mkNd, w, dVar_at _ _ _ w2, dVar_at _ _ _ w3, mo, w5, -dLcM_ap]
    obtain ⟨t, rfl⟩ := w6
    by_cases ht : t = []
    · subst ht
      rw [List.append_nil] at hb
      exact dDef_ret _ _ rfl hb (Nat.le_refl _)
    · have := dDef_thaw (n := 1) (m := 8) (xs := [sq]) (w := .int (detI (rows.map Prod.snd))) S b_determinant rfl hb (by rw [List.length_append]; have := List.length_pos_iff.mpr ht; omega) rfl (fitsS_app S t)
      rw [List.take_left] at this
      exact this
  · have w := hwh _ w1 (by intro z; cases z)
    have hb : b_determinant [some sq, none, none, none, none, none, none, none] S = .ret (.int (detI (rows.map Prod.snd))) S' := by
      rw [bdet_eq, w2]
      simp [hsq, hlc, mkNd, w, -dLcM_ap]
    obtain ⟨t, rfl⟩ := w3
    by_cases ht : t = []
    · subst ht
      rw [List.append_nil] at hb
      exact dDef_ret _ _ rfl hb (Nat.le_refl _)
    · have := dDef_thaw (n := 1) (m := 8) (xs := [sq]) (w := .int (detI (rows.map Prod.snd))) S b_determinant rfl hb (by rw [List.length_append]; have := List.length_pos_iff.mpr ht; omega) rfl (fitsS_app S t)
      rw [List.take_left] at this
      exact this
end Z
end
end
section
set_option Elab.async false
set_option linter.all false
set_option maxRecDepth 100000
set_option maxHeartbeats 2000000
/-! K28C: this law's own sum over first rows. -/
namespace Dt
/-- g 0 + .. + g (n - 1) -/
def Sg (g : Nat → Int) : Nat → Int
  | 0 => 0
  | n + 1 => Sg g n + g n
theorem sg_shift (g : Nat → Int) : ∀ n, Sg g (n + 1) = g 0 + Sg (fun i => g (i + 1)) n
  | 0 => by simp [Sg]
  | n + 1 => by
    rw [Sg, sg_shift g n, Sg]
    omega
theorem sg_neg (g : Nat → Int) : ∀ n, Sg (fun i => - g i) n = - Sg g n
  | 0 => rfl
  | n + 1 => by rw [Sg, Sg, sg_neg g n]; omega
theorem sg_congr {g g' : Nat → Int} : ∀ n, (∀ i, i < n → g i = g' i) → Sg g n = Sg g' n
  | 0, _ => rfl
  | n + 1, h => by rw [Sg, Sg, sg_congr n fun i hi => h i (by omega), h n (by omega)]
def sgn (i : Nat) : Int := if i % 2 = 0 then 1 else -1
theorem sgn_s (i : Nat) : sgn (i + 1) = - sgn i := by
  unfold sgn
  rcases Nat.mod_two_eq_zero_or_one i with h | h
  · have h2 : ¬ (i + 1) % 2 = 0 := by omega
    rw [if_neg h2, if_pos h]
  · have h2 : (i + 1) % 2 = 0 := by omega
    have h3 : ¬ i % 2 = 0 := by omega
    rw [if_pos h2, if_neg h3]; rfl
theorem tp_sum (r : Rw) : ∀ (cs : List Nat) (F : List Nat → Int), Tp r cs F = Sg (fun i => sgn i * r (cs.getD i 0) * F (cs.eraseIdx i)) cs.length
  | [], F => rfl
  | c :: cs, F => by
    rw [Tp, tp_sum r cs, List.length_cons, sg_shift, ← sub_neg_helper]
    congr 1
    · simp [sgn]
    · rw [← sg_neg]
      congr 1
      funext i
      rw [sgn_s]
      simp [Int.neg_mul]
where sub_neg_helper : ∀ {a b : Int}, a + -b = a - b := by intros; omega
end Dt
noncomputable section
namespace Z
open PySem PySem.Spec PyProof.Rows L2
/-- a row without its i-th number -/
def dropC (i : Nat) (r : List Int) : List Int := r.take i ++ r.drop (i + 1)
theorem ro_drop {i : Nat} {r : List Int} (hi : i < r.length) (j : Nat) : ro (dropC i r) j = ro r (if j < i then j else j + 1) := by
  unfold ro dropC
  rw [List.getD_eq_getElem?_getD, List.getD_eq_getElem?_getD]
  congr 1
  have hl : (r.take i).length = i := by rw [List.length_take]; omega
  by_cases h : j < i
  · rw [if_pos h, List.getElem?_append_left (by omega), List.getElem?_take_of_lt h]
  · rw [if_neg h, List.getElem?_append_right (by omega), List.getElem?_drop, hl]
    congr 1
    omega
theorem range_erase (i : Nat) : ∀ n, i < n → (List.range n).eraseIdx i = (List.range (n - 1)).map fun j => if j < i then j else j + 1 := fun n hi => by
  apply List.ext_getElem?
  intro j
  rw [List.getElem?_eraseIdx, List.getElem?_map]
  by_cases h : j < i
  · rw [if_pos h]
    rw [List.getElem?_range (by omega), List.getElem?_range (by omega)]
    simp [h]
  · rw [if_neg h]
    by_cases hj : j < n - 1
    · rw [List.getElem?_range (by omega), List.getElem?_range hj]
      simp [h]
    · rw [List.getElem?_eq_none (by simp; omega), List.getElem?_eq_none (by simp; omega)]
      rfl
theorem det_first {f : List Int} {R : List (List Int)} (hR : ∀ r ∈ R, r.length = R.length + 1) :
    detI (f :: R) = Dt.Sg (fun i => Dt.sgn i * ro f i * detI (R.map (dropC i))) (R.length + 1) := by
  unfold detI
  rw [List.map_cons, Dt.D_cons, Dt.tp_sum, List.length_range, List.length_cons]
  apply Dt.sg_congr
  intro i hi
  have e1 : (List.range (R.length + 1)).getD i 0 = i := by
    rw [List.getD_eq_getElem?_getD, List.getElem?_range hi]; rfl
  rw [e1, range_erase i _ hi, Nat.add_sub_cancel, ← Dt.D_map, List.map_map, List.map_map, List.length_map]
  congr 2
  apply List.map_congr_left
  intro r hr
  funext j
  exact (ro_drop (by rw [hR r hr]; exact hi) j).symm
theorem detI_le {rows : List (List Int)} {B : Nat} (hb : ∀ r ∈ rows, ∀ v ∈ r, v.natAbs ≤ B) : (detI rows).natAbs ≤ (rows.length * B) ^ rows.length := by
  have := Dt.D_le (B := B) (N := rows.length) (rows.map ro) (List.range rows.length) (fun r hr j => by
    obtain ⟨x, hx, rfl⟩ := List.mem_map.mp hr
    unfold ro
    by_cases hj : j < x.length
    · rw [List.getD_eq_getElem?_getD, List.getElem?_eq_getElem hj]
      exact hb x hx _ (List.getElem_mem hj)
    · rw [List.getD_eq_getElem?_getD, List.getElem?_eq_none (by omega)]
      exact Nat.zero_le _) (by rw [List.length_range]; exact Nat.le_refl _)
  rw [List.length_map] at this
  exact this
theorem d_due : ∀ (n : Nat) (rows : List (List Int)) (x : PV) (S : Sto) (B : Nat), rows.length < n → view x S = some (.lst, rows.map rL) → rows.length ≤ 40 → (∀ r ∈ rows, r.length = rows.length) → (∀ r ∈ rows, ∀ v ∈ r, v.natAbs ≤ B) → (rows.length * B + 1) ^ rows.length < DIVB →
    d__law_due n [x] S = .ok (.int (detI rows)) S := by
  intro n
  induction n with
  | zero => intro rows x S B h; omega
  | succ n ih =>
    intro rows x S B hn hv h40 hr hb hB
    have hrow : rows.map rL = rows.map (rK false) := rfl
    have heq : eqZ x (.nd .lst []) S = .ok (.bl (decide (rows.map rL = []))) S := eqZ_nilv (by rw [hv, hrow]) (datL_rows false _) (shaped_rows false _)
    show dDef 1 5 (b__law_due n (d__law_due n)) [x] S = _
    refine dDef_ret _ _ rfl ?_ (Nat.le_refl _)
    cases rows with
    | nil =>
      unfold b__law_due
      have heq : eqZ x (.nd .lst []) S = .ok (.bl true) S := heq
      simp [mkNd, heq]
      rfl
    | cons f R =>
      have heq : eqZ x (.nd .lst []) S = .ok (.bl false) S := heq
      have hlen : lenP [x] S = .ok (.int ((R.length + 1 : Nat) : Int)) S := by
        cases x with
        | str z => cases hv
        | _ =>
          all_goals
            unfold lenP
            simp only [hv]
            simp
      simp only [List.length_cons] at hn h40 hr hB
      have hf : f.length = R.length + 1 := hr f List.mem_cons_self
      have hR : ∀ r ∈ R, r.length = R.length + 1 := fun r h => hr r (List.mem_cons_of_mem _ h)
      have hrg : rngP [.int ((R.length + 1 : Nat) : Int)] S = .ok ⟨rngZ 0 (R.length + 1), []⟩ S := by
        unfold rngP
        simp only
        rw [if_pos (by omega)]
        rfl
      have h0 : subZ x (.int 0) S = .ok (rL f) S := by
        have ha : atI (rL f :: R.map rL) 0 = some (rL f) := atI_0 _ _
        cases x with
        | str z => cases hv
        | _ =>
          all_goals
            simp only [subZ, hv, List.map_cons, ha]
      have hsl : sliZ x (some 1) none S = .ok (.nd .lst (R.map rL)) S := by
        cases x with
        | str z => cases hv
        | _ =>
          all_goals
            simp only [sliZ, hv, cutP_1, List.map_cons]
            rfl
      let g : Nat → Int := fun i => Dt.sgn i * ro f i * detI (R.map (dropC i))
      let body : DS := dIfS (dB (dBin neZ (dBin subZ (dBin subZ (dVar 0) (dC (.int 0))) (dVar 2)) (dC (.int 0)))) (dSeq (dSet 3 (dLc [4] (dItV (dSli (dVar 0) (dSome (dC (.int 1))) (dNone))) (.nm 4) (dYes) (dBin addP (dApp listP (dCons (dSli (dVar 4) (dNone) (dSome (dVar 2))) (dNil))) (dApp listP (dCons (dSli (dVar 4) (dSome (dBin addP (dVar 2) (dC (.int 1)))) (dNone)) (dNil)))))) (dSet 1 (dBin addP (dVar 1) (dBin mulZ (dBin mulZ (dIf (dB (dBin eqZ (dBin modP (dApp intP (dCons (dVar 2) (dNil))) (dC (.int 2))) (dC (.int 0)))) (dC (.int 1)) (dUn negP (dC (.int 1)))) (dBin subZ (dBin subZ (dVar 0) (dC (.int 0))) (dVar 2))) (dFn (d__law_due n) (dCons (dVar 3) (dNil))))))) (dSkip)
      have hloop := forZ_inv (t := .nm 2) (hs := []) (b := body) (fun i l S' => S' = S ∧ ∃ o2 o3, l = [some x, some (.int (Dt.Sg g i)), o2, o3, none]) (rngZ 0 (R.length + 1)) 0 [some x, some (.int 0), none, none, none] S ⟨rfl, none, none, rfl⟩ (by
        rintro i y l S' hy ⟨rfl, o2, o3, rfl⟩
        have hi : i < R.length + 1 := by
          have := (List.getElem?_eq_some_iff.mp hy).1
          simpa [rngZ] using this
        have ey : y = .int (i : Nat) := by
          have : (rngZ 0 (R.length + 1))[i]? = some (.int (0 + (i : Nat))) := by simp [rngZ, hi]
          rw [this] at hy
          cases hy
          simp
        subst ey
        simp only [Nat.zero_add]
        have hat : subZ (rL f) (.int (i : Nat)) S' = .ok (.int (ro f i)) S' := by
          refine subZ_lst S' _ _ ?_
          rw [atI_ofNat, List.getElem?_map, List.getElem?_eq_getElem (by omega)]
          simp [ro, List.getElem?_eq_getElem (show i < f.length by omega)]
        by_cases hz : ro f i = 0
        · refine ⟨_, [some x, some (.int (Dt.Sg g i)), some (.int (i : Nat)), o3, none], S', asg1, ?_, heldB_nil _, rfl, some (.int (i : Nat)), o3, ?_⟩
          · simp [setZ, body, h0, hat, hz]
          · have : Dt.Sg g (i + 1) = Dt.Sg g i := by
              show Dt.Sg g i + Dt.sgn i * ro f i * detI (R.map (dropC i)) = _
              rw [hz]; simp
            rw [this]
        · have hlc := dLc_pure (vs := [4]) (di := dItV (dSli (dVar 0) (dSome (dC (.int 1))) dNone)) (t := .nm 4) (el := dBin addP (dApp listP (dCons (dSli (dVar 4) (dNone) (dSome (dVar 2))) (dNil))) (dApp listP (dCons (dSli (dVar 4) (dSome (dBin addP (dVar 2) (dC (.int 1)))) (dNone)) (dNil))))
            (l := [some x, some (.int (Dt.Sg g i)), some (.int (i : Nat)), o3, none]) (S := S') (it := ⟨R.map rL, []⟩) (fun z => rL (dropC i (decI z))) (by simp [hsl]) (heldB_nil _) (by simp only [List.length_map]; omega) (by
              intro z hz
              obtain ⟨r, hrm, rfl⟩ := List.mem_map.mp hz
              refine ⟨_, asg1, ?_⟩
              have e3 : decI (rL r) = r := decI_nd _ _
              have ec : ((i : Nat) : Int) + 1 = ((i + 1 : Nat) : Int) := by omega
              have hrl := hR r hrm
              have hmk : mkNd .lst ((r.map PV.int).take i ++ (r.map PV.int).drop (i + 1)) S' = .ok (rL (dropC i r)) S' := by
                rw [mkNd_ok S' (by rw [List.length_append, List.length_take, List.length_drop, List.length_map]; omega)]
                unfold rL dropC
                rw [List.map_append, List.map_take, List.map_drop]
              simp only [setZ, List.foldl]
              rw [e3]
              have c1 := cutP_to (r.map PV.int) i
              have c2 := cutP_from (r.map PV.int) (i + 1)
              rw [← ec] at c2
              simp [rL, c1, c2, hmk, -List.map_take, -List.map_drop])
          have hmm : (R.map rL).map (fun z => rL (dropC i (decI z))) = (R.map (dropC i)).map rL := by
            rw [List.map_map, List.map_map]
            apply List.map_congr_left
            intro r _
            show rL (dropC i (decI (rL r))) = _
            have e3 : decI (rL r) = r := decI_nd _ _
            rw [e3]; rfl
          simp only at hlc
          rw [hmm] at hlc
          have hdl : ∀ r ∈ R.map (dropC i), r.length = R.length := by
            intro r hr'
            obtain ⟨r', h1, rfl⟩ := List.mem_map.mp hr'
            unfold dropC
            rw [List.length_append, List.length_take, List.length_drop, hR r' h1]; omega
          have hdb : ∀ r ∈ R.map (dropC i), ∀ v ∈ r, v.natAbs ≤ B := by
            intro r hr' v hv'
            obtain ⟨r', h1, rfl⟩ := List.mem_map.mp hr'
            refine hb r' (List.mem_cons_of_mem _ h1) v ?_
            unfold dropC at hv'
            exact (List.mem_append.mp hv').elim (fun z => List.mem_of_mem_take z) fun z => List.mem_of_mem_drop z
          have hBd : (R.length * B + 1) ^ R.length < DIVB := by
            refine Nat.lt_of_le_of_lt (pow_le (c := (R.length + 1) * B) ?_ ?_) hB
            · exact Nat.add_le_add_right (Nat.mul_le_mul_right B (Nat.le_succ R.length)) 1
            · exact Nat.le_succ _
          have hih := ih (R.map (dropC i)) (.nd .lst ((R.map (dropC i)).map rL)) S' B (by rw [List.length_map]; omega) rfl (by rw [List.length_map]; omega) (by rw [List.length_map]; exact hdl) hdb (by rw [List.length_map]; exact hBd)
          have hdet : (detI (R.map (dropC i))).natAbs < DIVB := by
            refine Nat.lt_of_le_of_lt (detI_le hdb) ?_
            rw [List.length_map]
            exact Nat.lt_of_le_of_lt (Nat.pow_le_pow_left (Nat.le_succ _) _) hBd
          have hfi : (ro f i).natAbs < DIVB := by
            have h1 : (ro f i).natAbs ≤ B := by
              unfold ro
              rw [List.getD_eq_getElem?_getD, List.getElem?_eq_getElem (show i < f.length by omega)]
              exact hb f List.mem_cons_self _ (List.getElem_mem (show i < f.length by omega))
            refine Nat.lt_of_le_of_lt h1 (Nat.lt_of_le_of_lt ?_ hB)
            have : B ≤ (R.length + 1) * B + 1 := Nat.le_succ_of_le (Nat.le_mul_of_pos_left B (Nat.succ_pos R.length))
            exact Nat.le_trans this (Nat.le_self_pow (by simp) _)
          have hsg : (Dt.sgn i * ro f i).natAbs < DIVB := by
            rw [Int.natAbs_mul]
            have : (Dt.sgn i).natAbs = 1 := by unfold Dt.sgn; split <;> rfl
            rw [this, Nat.one_mul]; exact hfi
          have m1 : mulOk (Dt.sgn i) (ro f i) := mulOk_l (by unfold Dt.sgn; split <;> decide)
          have m2 : mulOk (Dt.sgn i * ro f i) (detI (R.map (dropC i))) := mulOk_b hsg hdet
          have hmod : modP (.int (i : Nat)) (.int 2) S' = .ok (.int ((i : Int) % 2)) S' := modP_int _ _ _ (by decide)
          refine ⟨_, [some x, some (.int (Dt.Sg g (i + 1))), some (.int (i : Nat)), some (.nd .lst ((R.map (dropC i)).map rL)), none], S', asg1, ?_, heldB_nil _, rfl, _, _, rfl⟩
          have hsgn : (if (i : Int) % 2 = 0 then (1 : Int) else -1) = Dt.sgn i := by
            unfold Dt.sgn
            by_cases hp : i % 2 = 0
            · rw [if_pos hp, if_pos (by omega)]
            · rw [if_neg hp, if_neg (by omega)]
          generalize hZ : (R.map (dropC i)).map rL = Z at hlc hih ⊢
          have hsum : Dt.Sg g (i + 1) = Dt.Sg g i + Dt.sgn i * ro f i * detI (R.map (dropC i)) := rfl
          rw [hsum]
          by_cases hp : (i : Int) % 2 = 0
          · rw [if_pos hp] at hsgn
            rw [← hsgn] at m1 m2 ⊢
            simp [setZ, body, h0, hat, hz, hlc, hmod, hp, hih, m1, m2, -dLc_ap] at m1 m2 ⊢
            simp [m2]
          · rw [if_neg hp] at hsgn
            rw [← hsgn] at m1 m2 ⊢
            simp [setZ, body, h0, hat, hz, hlc, hmod, hp, hih, m1, m2, -dLc_ap] at m1 m2 ⊢
            simp [m1, m2])
      obtain ⟨l', S', f1, rfl, o2, o3, rfl⟩ := hloop
      rw [det_first hR]
      have hL : (rngZ 0 (R.length + 1)).length = R.length + 1 := by simp [rngZ]
      rw [hL, Nat.zero_add] at f1
      have hfor : dFor (dItA rngP (dCons (dApp lenP (dCons (dVar 0) (dNil))) (dNil))) (.nm 2) body [some x, some (.int 0), none, none, none] S' = .nx [some x, some (.int (Dt.Sg g (R.length + 1))), o2, o3, none] S' := by
        have e : dCons (dApp lenP (dCons (dVar 0) (dNil))) dNil [some x, some (.int 0), none, none, none] S' = .ok [.int ((R.length + 1 : Nat) : Int)] S' := by
          simp [hlen]
        rw [dFor_ap, dItA_ap, e, bind_ok, hrg, st_ok]
        rw [if_pos (heldB_nil S'), f1]
      have hbody : b__law_due n (d__law_due n) = dSeq (dIfS (dB (dBin eqZ (dVar 0) (dLst (dNil)))) (dRet (dC (.int 1))) (dSkip)) (dSeq (dSet 1 (dC (.int 0))) (dSeq (dFor (dItA rngP (dCons (dApp lenP (dCons (dVar 0) (dNil))) (dNil))) (.nm 2) body) (dRet (dVar 1)))) := rfl
      have h1 : dIfS (dB (dBin eqZ (dVar 0) (dLst (dNil)))) (dRet (dC (.int 1))) (dSkip) [some x, none, none, none, none] S' = .nx [some x, none, none, none, none] S' := by
        simp [mkNd, heq]
      show b__law_due n (d__law_due n) [some x, none, none, none, none] S' = _
      rw [hbody, dSeq_ap, h1, seq_nx, dSeq_ap, dSet_ap, dC_ap, st_ok, seq_nx, dSeq_ap]
      show (dFor (dItA rngP (dCons (dApp lenP (dCons (dVar 0) (dNil))) (dNil))) (.nm 2) body [some x, some (.int 0), none, none, none] S').seq _ = _
      rw [hfor, seq_nx]
      simp
      rfl
end Z
end
end
section
set_option Elab.async false
set_option linter.all false
set_option maxRecDepth 100000
set_option maxHeartbeats 2000000
/-! K28E: the drawn rows of k28. -/
noncomputable section
namespace Z
open PySem PySem.Spec PyProof.Rows L2

theorem dr : DrOk d__law_draw := dr_of (k1 := 72559) (k2 := 1879) (m1 := 2147483647) (k3 := 52919) (k4 := 1217) (m2 := 2147483549) (k5 := 743) (k6 := 45481) (k7 := 853) (m3 := 2147483489) ⟨by decide, by decide⟩ ⟨by decide, by decide⟩ ⟨by decide, by decide⟩ ⟨by decide, by decide⟩ ⟨by decide, by decide⟩ ⟨by decide, by decide⟩ ⟨by decide, by decide⟩ ⟨by decide, by decide⟩ ⟨by decide, by decide⟩
theorem pick {n : Nat} {T S : Sto} {xs : List PV} (h : PenS n T S) (hn : n ≤ 100000) (hx : xs ≠ []) (hx2 : xs.length ≤ 1000000000) : ∃ x S', d__law_pick [.ref 0, .nd .lst xs] S = .ok x S' ∧ x ∈ xs ∧ PenS (n + 1) T S' := pick_ok dr h hn hx hx2
/-- one of some ints -/
theorem pickI {n : Nat} {T S : Sto} {ns : List Int} (h : PenS n T S) (hn : n ≤ 100000) (hx : ns ≠ []) (hx2 : ns.length ≤ 1000000000) : ∃ i S', d__law_pick [.ref 0, .nd .lst (ns.map .int)] S = .ok (.int i) S' ∧ i ∈ ns ∧ PenS (n + 1) T S' := by
  obtain ⟨x, S', h1, h2, h3⟩ := pick (xs := ns.map .int) h hn (by simpa using hx) (by simpa using hx2)
  obtain ⟨i, hi, rfl⟩ := List.mem_map.mp h2
  exact ⟨i, S', h1, hi, h3⟩
def B0 : Nat := 10 ^ 40
def someI (w : Bool) : List Int := [0, 0, 1, -1, 2, -3, 6, 10] ++ (if w then [1000000000000000000000000000000000000000, -10000000000000000000000000000000000000000 + 1, 3 * 1000000000000000000000000000000] else [])
theorem someI_le (w : Bool) : ∀ v ∈ someI w, v.natAbs ≤ B0 := by cases w <;> decide
theorem d_row {m : Nat} {T S : Sto} (h : PenS m T S) (w : Nat) (hw : w ≤ 1000) (hm : m + w ≤ 100000) (wide : Bool) :
    ∃ r S', d__law_row [.ref 0, .int (w : Nat), .bl wide] S = .ok (rT r) S' ∧ r.length = w ∧ (∀ v ∈ r, v.natAbs ≤ B0) ∧ PenS (m + w) T S' := by
  have hlc := dLc_inv (vs := [4]) (di := dItA rngP (dCons (dVar 1) dNil)) (t := .nm 4) (el := dFn d__law_pick (dCons (dVar 0) (dCons (dVar 3) dNil))) (l := [some (.ref 0), some (.int (w : Nat)), some (.bl wide), some (.nd .lst ((someI wide).map .int)), none]) (S := S)
    (items := rngZ 0 w) (fun v => ∃ i : Int, v = .int i ∧ i.natAbs ≤ B0) (fun k S' => PenS (m + k) T S') (by simp [rngP_nat w S (by omega)]) (by rw [rngZ_len]; omega) h (by
      intro i x S' hx hI
      obtain ⟨hi, rfl⟩ := rngZ_get hx
      obtain ⟨v, S2, g1, g2, g3⟩ := pickI (ns := someI wide) hI (by omega) (by cases wide <;> simp [someI]) (by cases wide <;> decide)
      exact ⟨_, _, S2, asg1, by simp [setZ, g1], ⟨v, rfl, someI_le wide v g2⟩, g3⟩)
  obtain ⟨ws, S', h1, h2, h3, h4⟩ := hlc
  obtain ⟨r, rfl, h5, h6⟩ := all_ints ws h3
  rw [rngZ_len] at h2 h4
  refine ⟨r, S', ?_, by omega, h6, h4⟩
  refine dDef_ret _ _ rfl ?_ (by rw [h4.len, h.len]; exact Nat.le_refl _)
  have hs : ∀ S : Sto, (dBin addP (dLst (dCons (dC (.int 0)) (dCons (dC (.int 0)) (dCons (dC (.int 1)) (dCons (dUn negP (dC (.int 1))) (dCons (dC (.int 2)) (dCons (dUn negP (dC (.int 3))) (dCons (dC (.int 6)) (dCons (dC (.int 10)) (dNil)))))))))) (dIf (dTru (dVar 2)) (dLst (dCons (dBin powP (dC (.int 10)) (dC (.int 39))) (dCons (dBin addP (dUn negP (dBin powP (dC (.int 10)) (dC (.int 40)))) (dC (.int 1))) (dCons (dBin mulZ (dC (.int 3)) (dBin powP (dC (.int 10)) (dC (.int 30)))) (dNil))))) (dLst (dNil)))) [some (.ref 0), some (.int (w : Nat)), some (.bl wide), none, none] S = .ok (.nd .lst ((someI wide).map .int)) S := by
    intro S
    have e39 : (10 : Int) ^ (39 : Int).toNat = 1000000000000000000000000000000000000000 := by decide
    have e40 : (10 : Int) ^ (40 : Int).toNat = 10000000000000000000000000000000000000000 := by decide
    have e30 : (10 : Int) ^ (30 : Int).toNat = 1000000000000000000000000000000 := by decide
    have mo : mulOk 3 1000000000000000000000000000000 := mulOk_l (by decide)
    cases wide
    · simp [mkNd, someI]
    · simp [mkNd, someI, mo]
  show b__law_row [some (.ref 0), some (.int (w : Nat)), some (.bl wide), none, none] S = _
  have hbody : b__law_row = dSeq (dSet 3 (dBin addP (dLst (dCons (dC (.int 0)) (dCons (dC (.int 0)) (dCons (dC (.int 1)) (dCons (dUn negP (dC (.int 1))) (dCons (dC (.int 2)) (dCons (dUn negP (dC (.int 3))) (dCons (dC (.int 6)) (dCons (dC (.int 10)) (dNil)))))))))) (dIf (dTru (dVar 2)) (dLst (dCons (dBin powP (dC (.int 10)) (dC (.int 39))) (dCons (dBin addP (dUn negP (dBin powP (dC (.int 10)) (dC (.int 40)))) (dC (.int 1))) (dCons (dBin mulZ (dC (.int 3)) (dBin powP (dC (.int 10)) (dC (.int 30)))) (dNil))))) (dLst (dNil))))) (dRet (dApp tupP (dCons (dLc [4] (dItA rngP (dCons (dVar 1) (dNil))) (.nm 4) (dYes) (dFn d__law_pick (dCons (dVar 0) (dCons (dVar 3) (dNil))))) (dNil)))) := rfl
  rw [hbody, dSeq_ap, dSet_ap, hs, st_ok, seq_nx]
  show dRet _ [some (.ref 0), some (.int (w : Nat)), some (.bl wide), some (.nd .lst ((someI wide).map .int)), none] S = _
  rw [dRet_ap, dApp_ap, dCons_ap, h1, bind_ok, dNil_ap, bind_ok, bind_ok, tupP_lst, st_ok]
  rfl
theorem d_mixed {m : Nat} {T S : Sto} (h : PenS m T S) {p : Nat} {rows : List (List Int)} {B w : Nat} (hp : S[p + 1]? = some (some (.lst, rows.map rT))) (hw : w ≤ 1000) (hr : ∀ r ∈ rows, r.length = w ∧ ∀ v ∈ r, v.natAbs ≤ B) (hn : rows.length ≤ 1000) (hm : m + rows.length ≤ 100000) :
    ∃ r S', d__law_mixed [.ref 0, .ref (p + 1), .int (w : Nat)] S = .ok (rT r) S' ∧ r.length = w ∧ (∀ v ∈ r, v.natAbs ≤ 5 * rows.length * B) ∧ PenS (m + rows.length) T S' := by
  have hT : T[p]? = some (some (.lst, rows.map rT)) := by rw [← h.get]; exact hp
  have hview : ∀ {n : Nat} {S' : Sto}, PenS n T S' → view (.ref (p + 1)) S' = some (.lst, rows.map rT) := fun {n S'} h' => view_ref (by rw [h'.get]; exact hT)
  let body : DS := dSeq (dSet 5 (dFn d__law_pick (dCons (dVar 0) (dCons (dLst (dCons (dC (.int 0)) (dCons (dC (.int 1)) (dCons (dUn negP (dC (.int 1))) (dCons (dC (.int 2)) (dCons (dC (.int 5)) (dNil))))))) (dNil))))) (dSet 3 (dLc [6, 7] (dItA zipP (dCons (dVar 3) (dCons (dVar 4) (dNil)))) (.tp [.nm 6, .nm 7]) (dYes) (dBin addP (dVar 6) (dBin mulZ (dVar 5) (dVar 7)))))
  have hb : b__law_mixed = dSeq (dSet 3 (dBin mulZ (dLst (dCons (dC (.int 0)) (dNil))) (dVar 2))) (dSeq (dFor (dItV (dVar 1)) (.nm 4) body) (dRet (dApp tupP (dCons (dVar 3) (dNil))))) := rfl
  have hloop := forZ_inv (t := .nm 4) (hs := [(.ref (p + 1), (.lst, rows.map rT))]) (b := body) (fun i l S' => PenS (m + i) T S' ∧ ∃ (fr : List Int) (o4 o5 : Option PV), l = [some (.ref 0), some (.ref (p + 1)), some (.int (w : Nat)), some (.nd .lst (fr.map .int)), o4, o5, none, none] ∧ fr.length = w ∧ ∀ v ∈ fr, v.natAbs ≤ 5 * i * B)
    (rows.map rT) 0 [some (.ref 0), some (.ref (p + 1)), some (.int (w : Nat)), some (.nd .lst ((List.replicate w (0 : Int)).map .int)), none, none, none, none] S ⟨h, _, none, none, rfl, List.length_replicate, fun v hv => by rw [List.eq_of_mem_replicate hv]; exact Nat.zero_le _⟩ (by
      rintro i x l S' hx ⟨hP, fr, o4, o5, rfl, hfl, hfb⟩
      rw [Nat.zero_add] at hP hfb ⊢
      have hi : i < rows.length := by
        have := (List.getElem?_eq_some_iff.mp hx).1
        rwa [List.length_map] at this
      rw [List.getElem?_map, Option.map_eq_some_iff] at hx
      obtain ⟨r, hri, rfl⟩ := hx
      obtain ⟨hrl, hrb⟩ := hr r (List.mem_of_getElem? hri)
      obtain ⟨k, S2, g1, g2, g3⟩ := pickI (ns := [0, 1, -1, 2, 5]) hP (by omega) (by decide) (by decide)
      have hk : k.natAbs ≤ 5 := by
        simp only [List.mem_cons, List.not_mem_nil, or_false] at g2
        rcases g2 with e | e | e | e | e <;> rw [e] <;> decide
      have hz : zipP [.nd .lst (fr.map PV.int), .nd .tup (r.map PV.int)] S2 = .ok ⟨zipZ (fr.map PV.int) (r.map PV.int), []⟩ S2 := rfl
      have hlc := dLc_pure (vs := [6, 7]) (di := dItA zipP (dCons (dVar 3) (dCons (dVar 4) dNil))) (t := .tp [.nm 6, .nm 7]) (el := dBin addP (dVar 6) (dBin mulZ (dVar 5) (dVar 7)))
        (l := [some (.ref 0), some (.ref (p + 1)), some (.int (w : Nat)), some (.nd .lst (fr.map .int)), some (rT r), some (.int k), none, none]) (S := S2) (it := ⟨zipZ (fr.map PV.int) (r.map PV.int), []⟩)
        (fun x => match x with
          | .nd .tup [.int a, .int b] => .int (a + k * b)
          | _ => .non) (by simp [rT, hz]) (heldB_nil S2) (by
            show (zipZ (fr.map PV.int) (r.map PV.int)).length ≤ _
            rw [zipZ_len, List.length_map, List.length_map]; omega) (by
          intro x hx
          simp only [zipZ_map] at hx
          obtain ⟨q, _, rfl⟩ := List.mem_map.mp hx
          have mo : mulOk k q.2 := mulOk_l (by omega)
          refine ⟨_, asg2, ?_⟩
          simp [setZ, mo])
      have hmap : (zipZ (fr.map PV.int) (r.map PV.int)).map (fun x => match x with
          | .nd .tup [.int a, .int b] => PV.int (a + k * b)
          | _ => .non) = ((fr.zip r).map fun q => q.1 + k * q.2).map .int := by
        rw [zipZ_map, List.map_map, List.map_map]
        exact List.map_congr_left fun q _ => rfl
      simp only at hlc
      rw [hmap] at hlc
      refine ⟨_, [some (.ref 0), some (.ref (p + 1)), some (.int (w : Nat)), some (.nd .lst (((fr.zip r).map fun q => q.1 + k * q.2).map .int)), some (rT r), some (.int k), none, none], S2, asg1, ?_, heldB_of fun q hq => by rw [List.mem_singleton.mp hq]; exact hview g3, g3, _, _, _, rfl, ?_, ?_⟩
      · simp only [setZ, List.foldl, List.set]
        simp only [List.map_cons, List.map_nil] at g1
        generalize hZ : ((fr.zip r).map fun q => q.1 + k * q.2).map PV.int = Z at hlc ⊢
        simp [body, mkNd, g1, hlc, -dLc_ap]
      · rw [List.length_map, List.length_zip, hfl, hrl, Nat.min_self]
      · intro v hv
        obtain ⟨q, hq, rfl⟩ := List.mem_map.mp hv
        obtain ⟨q1, q2⟩ := List.of_mem_zip (a := q.1) (b := q.2) hq
        have b1 := hfb _ q1
        have b2 := hrb _ q2
        have b3 : (k * q.2).natAbs ≤ 5 * B := by rw [Int.natAbs_mul]; exact Nat.mul_le_mul hk b2
        have e : 5 * (i + 1) * B = 5 * i * B + 5 * B := by rw [Nat.mul_add, Nat.add_mul]
        rw [e]
        omega)
  obtain ⟨l', S', f1, f2, fr, o4, o5, rfl, f3, f4⟩ := hloop
  rw [List.length_map, Nat.zero_add] at f2 f4
  refine ⟨fr, S', ?_, f3, f4, f2⟩
  refine dDef_ret _ _ rfl ?_ (by rw [f2.len, h.len]; exact Nat.le_refl _)
  show b__law_mixed [some (.ref 0), some (.ref (p + 1)), some (.int (w : Nat)), none, none, none, none, none] S = _
  have hrep : List.replicate w (PV.int 0) = (List.replicate w (0 : Int)).map .int := by rw [List.map_replicate]
  have hmul : dBin mulZ (dLst (dCons (dC (.int 0)) dNil)) (dVar 2) [some (.ref 0), some (.ref (p + 1)), some (.int (w : Nat)), none, none, none, none, none] S = .ok (.nd .lst ((List.replicate w (0 : Int)).map .int)) S := by
    rw [← hrep, ← mulZ_rep _ w S (by omega)]
    simp [mkNd]
  have hit : dItV (dVar 1) [some (.ref 0), some (.ref (p + 1)), some (.int (w : Nat)), some (.nd .lst ((List.replicate w (0 : Int)).map .int)), none, none, none, none] S = .ok ⟨rows.map rT, [(.ref (p + 1), (.lst, rows.map rT))]⟩ S := by
    have : itOf (.ref (p + 1)) S = .ok ⟨rows.map rT, [(.ref (p + 1), (.lst, rows.map rT))]⟩ S := by
      simp only [itOf, seqIt, hview h, hold_ref]
    simp [this]
  rw [hb, dSeq_ap, dSet_ap, hmul, st_ok, seq_nx, dSeq_ap]
  show (dFor _ _ _ [some (.ref 0), some (.ref (p + 1)), some (.int (w : Nat)), some (.nd .lst ((List.replicate w (0 : Int)).map .int)), none, none, none, none] S).seq _ = _
  rw [dFor_eq hit (heldB_of fun q hq => by rw [List.mem_singleton.mp hq]; exact hview h), f1, seq_nx]
  simp
  rfl
theorem thaw_rT {f n : Nat} {S : Sto} (r : List Int) : thaw (f + 1) n S (rT r) = some (rT r) := thaw_nd (fits_ints n r)
theorem pow32 (i : Nat) : B0 ≤ B0 * 32 ^ i := Nat.le_mul_of_pos_right _ (Nat.pow_pos (by decide))
theorem d_rows {m : Nat} {T S : Sto} (h : PenS m T S) (w n : Nat) (hw : w ≤ 100) (hn : n ≤ 6) (hm : m + n * (1 + w + n) ≤ 100000) (wide : Bool) :
    ∃ (rows : List (List Int)) (S' : Sto), d__law_rows [.ref 0, .int (w : Nat), .int (n : Nat), .bl wide] S = .ok (.nd .lst (rows.map rT)) S' ∧ rows.length = n ∧ (∀ r ∈ rows, r.length = w ∧ ∀ v ∈ r, v.natAbs ≤ B0 * 32 ^ n) ∧ PenS (m + n * (1 + w + n)) T S' := by
  let body : DS := dSeq (dSet 6 (dOr (dBin eqZ (dVar 4) (dLst (dNil))) (dBin gtZ (dFn d__law_draw (dCons (dVar 0) (dCons (dC (.int 3)) (dNil)))) (dC (.int 0))))) (dExpr (dMet "list" appP (dVar 4) (dCons (dIf (dTru (dVar 6)) (dFn d__law_row (dCons (dVar 0) (dCons (dVar 1) (dCons (dVar 3) (dNil))))) (dFn d__law_mixed (dCons (dVar 0) (dCons (dVar 4) (dCons (dVar 1) (dNil)))))) dNil)))
  have hb : b__law_rows = dSeq (dSet 4 (dLstM (dNil))) (dSeq (dFor (dItA rngP (dCons (dVar 2) (dNil))) (.nm 5) body) (dRet (dVar 4))) := rfl
  have hloop := forZ_inv (t := .nm 5) (hs := []) (b := body) (fun i l S' => ∃ rows : List (List Int), rows.length = i ∧ (∀ r ∈ rows, r.length = w ∧ ∀ v ∈ r, v.natAbs ≤ B0 * 32 ^ i) ∧ PenS (m + i * (1 + w + n)) (T ++ [some (.lst, rows.map rT)]) S' ∧
      ∃ o5 o6, l = [some (.ref 0), some (.int (w : Nat)), some (.int (n : Nat)), some (.bl wide), some (.ref (T.length + 1)), o5, o6]) (rngZ 0 n) 0
    [some (.ref 0), some (.int (w : Nat)), some (.int (n : Nat)), some (.bl wide), some (.ref (T.length + 1)), none, none] (S ++ [some (.lst, [])]) ⟨[], rfl, fun r hr => (nomatch hr), by rw [Nat.zero_mul, Nat.add_zero]; exact h.app, none, none, rfl⟩ (by
      rintro i x l S' hx ⟨rows, hl, hr, hP, o5, o6, rfl⟩
      rw [Nat.zero_add] at hl hr hP ⊢
      obtain ⟨hi, rfl⟩ := rngZ_get hx
      have hmi : m + i * (1 + w + n) + (1 + w + n) ≤ 100000 := by
        have : (i + 1) * (1 + w + n) ≤ n * (1 + w + n) := Nat.mul_le_mul_right _ hi
        rw [Nat.succ_mul] at this
        omega
      have e1 : m + (i + 1) * (1 + w + n) = m + i * (1 + w + n) + (1 + w + n) := by rw [Nat.succ_mul]; omega
      have hat := hP.last
      have hv : view (.ref (T.length + 1)) S' = some (.lst, rows.map rT) := view_ref hat
      have heq := eqZ_nilv (x := .ref (T.length + 1)) (S := S') (xs := rows.map rT) hv (datL_rows true rows) (shaped_rows true rows)
      -- is it new
      obtain ⟨isn, S2, a1, a2⟩ : ∃ isn S2, (dOr (dBin eqZ (dVar 4) (dLst (dNil))) (dBin gtZ (dFn d__law_draw (dCons (dVar 0) (dCons (dC (.int 3)) (dNil)))) (dC (.int 0)))) [some (.ref 0), some (.int (w : Nat)), some (.int (n : Nat)), some (.bl wide), some (.ref (T.length + 1)), some (.int (0 + (i : Nat))), o6] S' = .ok (.bl isn) S2 ∧ PenS (m + i * (1 + w + n) + 1) (T ++ [some (.lst, rows.map rT)]) S2 := by
        by_cases hz : rows.map rT = []
        · refine ⟨true, S', ?_, hP.mono (by omega)⟩
          rw [decide_eq_true hz] at heq
          simp [mkNd, heq]
        · obtain ⟨v, S2, g1, g2, g3, g4⟩ := dr _ _ _ 3 hP (by omega) (by decide) (by decide)
          refine ⟨decide (0 < v), S2, ?_, g4⟩
          rw [decide_eq_false hz] at heq
          simp [mkNd, heq, g1]
      have a3 := a2.last
      obtain ⟨r, S3, b1, b2, b3, b4⟩ : ∃ r S3, (dIf (dTru (dVar 6)) (dFn d__law_row (dCons (dVar 0) (dCons (dVar 1) (dCons (dVar 3) (dNil))))) (dFn d__law_mixed (dCons (dVar 0) (dCons (dVar 4) (dCons (dVar 1) (dNil)))))) [some (.ref 0), some (.int (w : Nat)), some (.int (n : Nat)), some (.bl wide), some (.ref (T.length + 1)), some (.int (0 + (i : Nat))), some (.bl isn)] S2 = .ok (rT r) S3 ∧ r.length = w ∧ (∀ v ∈ r, v.natAbs ≤ B0 * 32 ^ (i + 1)) ∧ PenS (m + i * (1 + w + n) + (1 + w + n)) (T ++ [some (.lst, rows.map rT)]) S3 := by
        cases isn with
        | true =>
          obtain ⟨r, S3, g1, g2, g3, g4⟩ := d_row a2 w (by omega) (by omega) wide
          refine ⟨r, S3, ?_, g2, fun v hv => Nat.le_trans (g3 v hv) (pow32 _), g4.mono (by omega)⟩
          simp [g1]
        | false =>
          obtain ⟨r, S3, g1, g2, g3, g4⟩ := d_mixed (B := B0 * 32 ^ i) (w := w) a2 a3 (by omega) hr (by omega) (by omega)
          refine ⟨r, S3, ?_, g2, fun v hv => Nat.le_trans (g3 v hv) ?_, g4.mono (by omega)⟩
          · simp [g1]
          · have e : B0 * 32 ^ (i + 1) = 32 * (B0 * 32 ^ i) := by rw [Nat.pow_succ, ← Nat.mul_assoc, Nat.mul_comm]
            rw [e]
            exact Nat.mul_le_mul_right _ (by omega)
      have b5 := b4.last
      have happ := appP_at (y := rT r) b5 (by rw [List.length_map]; omega)
      have hty := tyOk_ref a3
      refine ⟨_, [some (.ref 0), some (.int (w : Nat)), some (.int (n : Nat)), some (.bl wide), some (.ref (T.length + 1)), some (.int (0 + (i : Nat))), some (.bl isn)], S3.set (T.length + 1) (some (.lst, (rows ++ [r]).map rT)), asg1, ?_, heldB_nil _, rows ++ [r], ?_, ?_, ?_, _, _, rfl⟩
      · have hmm : rows.map rT ++ [rT r] = (rows ++ [r]).map rT := by rw [List.map_append]; rfl
        rw [hmm] at happ
        show body [some (.ref 0), some (.int (w : Nat)), some (.int (n : Nat)), some (.bl wide), some (.ref (T.length + 1)), some (.int (0 + (i : Nat))), o6] S' = _
        show (dSeq _ _) _ _ = _
        rw [dSeq_ap, dSet_ap, a1, st_ok, seq_nx]
        show dExpr (dMet "list" appP (dVar 4) (dCons _ dNil)) [some (.ref 0), some (.int (w : Nat)), some (.int (n : Nat)), some (.bl wide), some (.ref (T.length + 1)), some (.int (0 + (i : Nat))), some (.bl isn)] S2 = _
        have h4 : dVar 4 [some (.ref 0), some (.int (w : Nat)), some (.int (n : Nat)), some (.bl wide), some (.ref (T.length + 1)), some (.int (0 + (i : Nat))), some (.bl isn)] S2 = .ok (.ref (T.length + 1)) S2 := rfl
        rw [dExpr_ap, dMet_ap, h4, bind_ok, if_pos hty, dCons_ap, b1, bind_ok, dNil_ap, bind_ok, bind_ok, happ, st_ok]
      · rw [List.length_append, hl]; rfl
      · intro r' hr'
        rcases List.mem_append.mp hr' with z | z
        · obtain ⟨z1, z2⟩ := hr r' z
          refine ⟨z1, fun v hv => Nat.le_trans (z2 v hv) ?_⟩
          exact Nat.mul_le_mul_left _ (Nat.pow_le_pow_right (by decide) (by omega))
        · rw [List.mem_singleton.mp z]; exact ⟨b2, b3⟩
      · rw [e1]; exact b4.setLast)
  obtain ⟨l', S', f1, rows, f2, f3, f4, o5, o6, rfl⟩ := hloop
  rw [rngZ_len, Nat.zero_add] at f2 f3 f4
  obtain ⟨q1, q2⟩ := h.shut f4
  refine ⟨rows, S'.take S.length, ?_, f2, f3, q2⟩
  have hlen := h.len
  have hlen' := f4.len
  rw [List.length_append, List.length_singleton] at hlen'
  refine dDef_thaw S b__law_rows (v := .ref (T.length + 1)) (S1 := S') rfl ?_ (by omega) (thaw_ref (by omega) f4.last fun x hx => ?_) q1
  · show b__law_rows [some (.ref 0), some (.int (w : Nat)), some (.int (n : Nat)), some (.bl wide), none, none, none] S = _
    have h4 : dLstM dNil [some (.ref 0), some (.int (w : Nat)), some (.int (n : Nat)), some (.bl wide), none, none, none] S = .ok (.ref (T.length + 1)) (S ++ [some (.lst, [])]) := by
      rw [dLstM_ap, dNil_ap, bind_ok, mkRf_ok S (by decide), hlen]
    have hit : dItA rngP (dCons (dVar 2) dNil) [some (.ref 0), some (.int (w : Nat)), some (.int (n : Nat)), some (.bl wide), some (.ref (T.length + 1)), none, none] (S ++ [some (.lst, [])]) = .ok ⟨rngZ 0 n, []⟩ (S ++ [some (.lst, [])]) := by
      simp [rngP_nat n _ (by omega)]
    rw [hb, dSeq_ap, dSet_ap, h4, st_ok, seq_nx, dSeq_ap]
    show (dFor _ _ _ [some (.ref 0), some (.int (w : Nat)), some (.int (n : Nat)), some (.bl wide), some (.ref (T.length + 1)), none, none] (S ++ [some (.lst, [])])).seq _ = _
    rw [dFor_eq hit (heldB_nil _), f1, seq_nx]
    rfl
  · obtain ⟨r, _, rfl⟩ := List.mem_map.mp hx
    exact thaw_rT r
end Z
end
end
section
set_option Elab.async false
set_option linter.all false
set_option maxRecDepth 100000
set_option maxHeartbeats 2000000
/-! K28F: triangles, exchanges, sums of rows, reversals. -/
namespace Dt
theorem D_move (a : Rw) : ∀ (rs : List Rw) (ss : List Rw) (cs : List Nat), D (a :: (rs ++ ss)) cs = sgn rs.length * D (rs ++ a :: ss) cs
  | [], ss, cs => by simp [sgn]
  | r :: rs, ss, cs => by
    have h := D_swap [] a r [] (rs ++ ss) cs
    have h : D (a :: r :: (rs ++ ss)) cs = - D (r :: a :: (rs ++ ss)) cs := h
    show D (a :: r :: (rs ++ ss)) cs = _
    rw [h, List.length_cons, sgn_s]
    have e : D (r :: a :: (rs ++ ss)) cs = sgn rs.length * D (r :: (rs ++ a :: ss)) cs := by
      rw [D_cons, D_cons, ← tp_smul]
      congr 1
      funext x
      exact D_move a rs ss x
    rw [e]
    show _ = -sgn rs.length * D (r :: (rs ++ a :: ss)) cs
    rw [Int.neg_mul]
def sgr (n : Nat) : Int := if n % 4 = 2 ∨ n % 4 = 3 then -1 else 1
theorem sgr_s (n : Nat) : sgr (n + 1) = sgn n * sgr n := by
  unfold sgr sgn
  have h : n % 4 = 0 ∨ n % 4 = 1 ∨ n % 4 = 2 ∨ n % 4 = 3 := by omega
  rcases h with h | h | h | h
  · have h1 : (n + 1) % 4 = 1 := by omega
    have h2 : n % 2 = 0 := by omega
    simp [h, h1, h2]
  · have h1 : (n + 1) % 4 = 2 := by omega
    have h2 : n % 2 = 1 := by omega
    simp [h, h1, h2]
  · have h1 : (n + 1) % 4 = 3 := by omega
    have h2 : n % 2 = 0 := by omega
    simp [h, h1, h2]
  · have h1 : (n + 1) % 4 = 0 := by omega
    have h2 : n % 2 = 1 := by omega
    simp [h, h1, h2]
theorem sgn_sq (n : Nat) : sgn n * sgn n = 1 := by unfold sgn; split <;> rfl
theorem D_rev : ∀ (rs : List Rw) (cs : List Nat), D rs.reverse cs = sgr rs.length * D rs cs
  | [], cs => by simp [sgr]
  | r :: rs, cs => by
    rw [List.reverse_cons]
    have h := D_move r rs.reverse [] cs
    rw [List.append_nil] at h
    have h2 : D (rs.reverse ++ [r]) cs = sgn rs.length * D (r :: rs.reverse) cs := by
      rw [h, List.length_reverse, ← Int.mul_assoc, sgn_sq, Int.one_mul]
    rw [h2, List.length_cons, sgr_s, D_cons]
    have e : D rs.reverse = fun x => sgr rs.length * D rs x := by funext x; exact D_rev rs x
    rw [e, tp_smul, D_cons, Int.mul_assoc]
end Dt
noncomputable section
namespace Z
open PySem PySem.Spec PyProof.Rows L2
def tri : List (List Int) → Nat → Prop
  | [], _ => True
  | r :: rs, k => (∀ j, j < k → ro r j = 0) ∧ tri rs (k + 1)
def pd : List (List Int) → Nat → Int
  | [], _ => 1
  | r :: rs, k => ro r k * pd rs (k + 1)
theorem tri_zero : ∀ (rs : List (List Int)) (k j : Nat), tri rs k → j < k → ∀ r ∈ rs, ro r j = 0
  | [], _, _, _, _, r, hr => (nomatch hr)
  | s :: rs, k, j, h, hj, r, hr => by
    rcases List.mem_cons.mp hr with e | e
    · rw [e]; exact h.1 j hj
    · exact tri_zero rs (k + 1) j h.2 (by omega) r e
theorem tri_det : ∀ (rs : List (List Int)) (k : Nat), tri rs k → Dt.D (rs.map ro) (List.range' k rs.length) = pd rs k
  | [], k, _ => rfl
  | r :: rs, k, h => by
    rw [List.map_cons, List.length_cons, List.range'_succ, Dt.D_lead]
    · rw [tri_det rs (k + 1) h.2]; rfl
    · intro x hx
      obtain ⟨s, hs, rfl⟩ := List.mem_map.mp hx
      exact tri_zero rs (k + 1) k h.2 (by omega) s hs
theorem tri_app {r : List Int} : ∀ (rs : List (List Int)) (k : Nat), tri rs k → (∀ j, j < k + rs.length → ro r j = 0) → tri (rs ++ [r]) k
  | [], k, _, h => ⟨h, trivial⟩
  | s :: rs, k, h, hr => ⟨h.1, tri_app rs (k + 1) h.2 fun j hj => hr j (by rw [List.length_cons]; omega)⟩
theorem pd_app {r : List Int} : ∀ (rs : List (List Int)) (k : Nat), pd (rs ++ [r]) k = pd rs k * ro r (k + rs.length)
  | [], k => by simp [pd]
  | s :: rs, k => by
    show ro s k * pd (rs ++ [r]) (k + 1) = ro s k * pd rs (k + 1) * ro r (k + (rs.length + 1))
    rw [pd_app rs (k + 1), Int.mul_assoc, show k + 1 + rs.length = k + (rs.length + 1) by omega]
theorem detI_tri {rs : List (List Int)} (h : tri rs 0) : detI rs = pd rs 0 := by
  unfold detI
  rw [List.range_eq_range']
  exact tri_det rs 0 h
theorem detI_rev (rs : List (List Int)) : detI rs.reverse = Dt.sgr rs.length * detI rs := by
  unfold detI
  rw [List.map_reverse, Dt.D_rev, List.length_map, List.length_reverse]
theorem detI_swap (P : List (List Int)) (a b : List Int) (M Q : List (List Int)) : detI (P ++ (b :: (M ++ a :: Q))) = - detI (P ++ (a :: (M ++ b :: Q))) := by
  unfold detI
  simp only [List.map_append, List.map_cons]
  rw [Dt.D_swap (P.map ro) (ro b) (ro a)]
  congr 2
  simp
/-- row a becomes a + 2 b -/
def add2 (a b : List Int) : List Int := (a.zip b).map fun q => q.1 + 2 * q.2
theorem ro_add2 {a b : List Int} (h : a.length = b.length) : ro (add2 a b) = fun j => ro a j + (fun j => 2 * ro b j) j := by
  funext j
  show (add2 a b).getD j 0 = a.getD j 0 + 2 * b.getD j 0
  rw [List.getD_eq_getElem?_getD, List.getD_eq_getElem?_getD, List.getD_eq_getElem?_getD]
  by_cases hj : j < a.length
  · have e : (add2 a b)[j]? = some (a[j] + 2 * b[j]'(by omega)) := by
      unfold add2
      rw [List.getElem?_map]
      have : (a.zip b)[j]? = some (a[j], b[j]'(by omega)) := by
        rw [List.getElem?_zip_eq_some]
        exact ⟨List.getElem?_eq_getElem _, List.getElem?_eq_getElem _⟩
      rw [this]; rfl
    rw [e, List.getElem?_eq_getElem hj, List.getElem?_eq_getElem (show j < b.length by omega)]
    rfl
  · have e : (add2 a b)[j]? = none := by
      unfold add2
      rw [List.getElem?_eq_none_iff, List.length_map, List.length_zip]; omega
    rw [e, List.getElem?_eq_none (by omega), List.getElem?_eq_none (by omega)]
    rfl
theorem detI_add (P : List (List Int)) (a b : List Int) (M Q : List (List Int)) (h : a.length = b.length) : detI (P ++ (add2 a b :: (M ++ b :: Q))) = detI (P ++ (a :: (M ++ b :: Q))) := by
  unfold detI
  simp only [List.map_append, List.map_cons, List.length_append, List.length_cons]
  rw [ro_add2 h, Dt.D_add, Dt.D_mul, Dt.D_twice]
  omega
theorem detI_add' (P : List (List Int)) (a b : List Int) (M Q : List (List Int)) (h : a.length = b.length) : detI (P ++ (b :: (M ++ add2 a b :: Q))) = detI (P ++ (b :: (M ++ a :: Q))) := by
  rw [detI_swap, detI_add P a b M Q h, detI_swap P b a]
  omega
theorem set_two {α : Type} (P M Q : List α) (a b x y : α) : ((P ++ (a :: (M ++ b :: Q))).set P.length x).set (P.length + 1 + M.length) y = P ++ (x :: (M ++ y :: Q)) := by
  rw [List.set_append_right _ _ (Nat.le_refl _), Nat.sub_self, List.set_cons_zero, List.set_append_right _ _ (by omega)]
  congr 1
  rw [show P.length + 1 + M.length - P.length = M.length + 1 by omega, List.set_cons_succ, List.set_append_right _ _ (Nat.le_refl _), Nat.sub_self, List.set_cons_zero]
/-- two places apart -/
theorem split_two {α : Type} {L : List α} {i j : Nat} {a b : α} (hij : i < j) (ha : L[i]? = some a) (hb : L[j]? = some b) : ∃ P M Q, L = P ++ (a :: (M ++ b :: Q)) ∧ i = P.length ∧ j = P.length + 1 + M.length := by
  obtain ⟨P, L', e, hP⟩ := split_at L i a ha
  subst e
  rw [List.getElem?_append_right (by omega), hP, show j - i = (j - i - 1) + 1 by omega, List.getElem?_cons_succ] at hb
  obtain ⟨M, Q, e, hM⟩ := split_at L' _ b hb
  subst e
  exact ⟨P, M, Q, rfl, hP.symm, by omega⟩
theorem detI_set_swap {L : List (List Int)} {i j : Nat} {a b : List Int} (hij : i ≠ j) (ha : L[i]? = some a) (hb : L[j]? = some b) : detI ((L.set i b).set j a) = - detI L := by
  rcases Nat.lt_or_gt_of_ne hij with h | h
  · obtain ⟨P, M, Q, rfl, rfl, rfl⟩ := split_two h ha hb
    rw [set_two, detI_swap]
  · obtain ⟨P, M, Q, rfl, rfl, rfl⟩ := split_two h hb ha
    rw [List.set_comm _ _ (by omega), set_two, detI_swap]
theorem detI_set_add {L : List (List Int)} {i j : Nat} {a b : List Int} (hij : i ≠ j) (ha : L[i]? = some a) (hb : L[j]? = some b) (hl : a.length = b.length) : detI (L.set i (add2 a b)) = detI L := by
  rcases Nat.lt_or_gt_of_ne hij with h | h
  · obtain ⟨P, M, Q, rfl, rfl, rfl⟩ := split_two h ha hb
    rw [List.set_append_right _ _ (Nat.le_refl _), Nat.sub_self, List.set_cons_zero, detI_add P a b M Q hl]
  · obtain ⟨P, M, Q, rfl, rfl, rfl⟩ := split_two h hb ha
    have := set_two P M Q b a b (add2 a b)
    rw [List.set_append_right _ _ (Nat.le_refl _), Nat.sub_self, List.set_cons_zero] at this
    rw [this, detI_add' P a b M Q hl]
/-- the first row k times the last one -/
theorem detI_same {L : List (List Int)} {j : Nat} {b : List Int} (k : Int) (hj : 0 < j) (hb : L[j]? = some b) : detI (L.set 0 (b.map fun v => k * v)) = 0 := by
  cases L with
  | nil => simp at hb
  | cons a L =>
    obtain ⟨P, M, Q, e, hP, hj'⟩ := split_two (L := a :: L) hj rfl hb
    have hP : P = [] := List.length_eq_zero_iff.mp hP.symm
    subst hP
    rw [e]
    have er : ro (b.map fun v => k * v) = fun i => k * ro b i := by
      funext i
      show (b.map fun v => k * v).getD i 0 = k * b.getD i 0
      rw [List.getD_eq_getElem?_getD, List.getD_eq_getElem?_getD, List.getElem?_map]
      cases b[i]? <;> simp
    unfold detI
    simp only [List.nil_append, List.set_cons_zero, List.map_cons, List.map_append]
    rw [er]
    have h1 := Dt.D_mul [] k (ro b) (M.map ro ++ ro b :: Q.map ro) (List.range ((b.map fun v => k * v) :: (M ++ b :: Q)).length)
    have h2 := Dt.D_twice [] (ro b) (M.map ro) (Q.map ro) (List.range ((b.map fun v => k * v) :: (M ++ b :: Q)).length)
    simp only [List.nil_append] at h1 h2
    rw [h1, h2]; simp
end Z
end
end
section
set_option Elab.async false
set_option linter.all false
set_option maxRecDepth 100000
set_option maxHeartbeats 2000000
/-! K28H: the great squares of k28. -/
noncomputable section
namespace Z
open PySem PySem.Spec PyProof.Rows L2

theorem thaw_rL {f n : Nat} {S : Sto} (r : List Int) : thaw (f + 1) n S (rL r) = some (rL r) := thaw_nd (fits_ints n r)
def g1B : DS := dSeq (dSet 5 (dFn d__law_pick (dCons (dVar 0) (dCons (dLst (dCons (dC (.int 1)) (dCons (dUn negP (dC (.int 1))) (dCons (dC (.int 2)) (dCons (dC (.int 3)) (dCons (dUn negP (dC (.int 5))) (dNil))))))) (dNil))))) (dSeq (dSet 3 (dBin mulZ (dVar 3) (dVar 5))) (dExpr (dMet "list" appP (dVar 2) (dCons (dBin addP (dBin addP (dBin mulZ (dLst (dCons (dC (.int 0)) (dNil))) (dVar 4)) (dLst (dCons (dVar 5) (dNil)))) (dLc [6] (dItA rngP (dCons (dBin subP (dBin subP (dVar 1) (dVar 4)) (dC (.int 1))) (dNil))) (.nm 6) (dYes) (dFn d__law_pick (dCons (dVar 0) (dCons (dLst (dCons (dC (.int 0)) (dCons (dC (.int 1)) (dCons (dUn negP (dC (.int 2))) (dNil))))) (dNil)))))) dNil))))
def g2B : DS := dSeq (dPar 8 9 (dCons (dFn d__law_draw (dCons (dVar 0) (dCons (dVar 1) (dNil)))) (dCons (dFn d__law_draw (dCons (dVar 0) (dCons (dVar 1) (dNil)))) (dNil)))) (dIfS (dAndT (dB (dBin neZ (dVar 8) (dVar 9))) (dB (dBin eqZ (dFn d__law_draw (dCons (dVar 0) (dCons (dC (.int 2)) (dNil)))) (dC (.int 0))))) (dSeq (dSet 10 (dApp listP (dCons (dBin subZ (dVar 2) (dVar 8)) (dNil)))) (dSeq (dAsg (dApp listP (dCons (dBin subZ (dVar 2) (dVar 9)) (dNil))) (gzI (dVar 2) (dVar 8))) (dSeq (dAsg (dVar 10) (gzI (dVar 2) (dVar 9))) (dSet 3 (dBin subP (dC (.int 0)) (dVar 3)))))) (dIfS (dB (dBin neZ (dVar 8) (dVar 9))) (dAsg (dLc [11, 12] (dItA zipP (dCons (dBin subZ (dVar 2) (dVar 8)) (dCons (dBin subZ (dVar 2) (dVar 9)) (dNil)))) (.tp [.nm 11, .nm 12]) (dYes) (dBin addP (dVar 11) (dBin mulZ (dC (.int 2)) (dVar 12)))) (gzI (dVar 2) (dVar 8))) (dSkip)))
theorem great_eq : b__law_great = dSeq (dPar 2 3 (dCons (dLstM (dNil)) (dCons (dC (.int 1)) (dNil)))) (dSeq (dFor (dItA rngP (dCons (dVar 1) (dNil))) (.nm 4) g1B) (dSeq (dFor (dItA rngP (dCons (dC (.int 12)) (dNil))) (.nm 7) g2B) (dRet (dTup (dCons (dVar 2) (dCons (dVar 3) (dNil))))))) := rfl
/-- one row of the triangle -/
theorem g1_turn {m : Nat} {T S : Sto} {n i : Nat} {rows : List (List Int)} {du : Int} (hP : PenS m (T ++ [some (.lst, rows.map rL)]) S) (hi : i < n) (hn : n ≤ 40) (hm : m + 1 + n ≤ 100000) (hl : rows.length = i) (o4 o5 o6 o7 o8 o9 o10 o11 o12 : Option PV) :
    ∃ (mid : Int) (rest : List Int) (S' : Sto), g1B [some (.ref 0), some (.int (n : Nat)), some (.ref (T.length + 1)), some (.int du), some (.int (i : Nat)), o5, o6, o7, o8, o9, o10, o11, o12] S = .nx [some (.ref 0), some (.int (n : Nat)), some (.ref (T.length + 1)), some (.int (du * mid)), some (.int (i : Nat)), some (.int mid), o6, o7, o8, o9, o10, o11, o12] S' ∧
      mid.natAbs ≤ 5 ∧ rest.length = n - i - 1 ∧ (∀ v ∈ rest, v.natAbs ≤ 5) ∧ PenS (m + 1 + n) (T ++ [some (.lst, (rows ++ [List.replicate i 0 ++ (mid :: rest)]).map rL)]) S' := by
  obtain ⟨mid, S1, a1, a2, a3⟩ := pickI (ns := [1, -1, 2, 3, -5]) hP (by omega) (by decide) (by decide)
  have hmid : mid.natAbs ≤ 5 := by
    simp only [List.mem_cons, List.not_mem_nil, or_false] at a2
    rcases a2 with e | e | e | e | e <;> rw [e] <;> decide
  have ec : ((n : Nat) : Int) - (i : Nat) - 1 = ((n - i - 1 : Nat) : Int) := by omega
  have hlc := dLc_inv (vs := [6]) (di := dItA rngP (dCons (dBin subP (dBin subP (dVar 1) (dVar 4)) (dC (.int 1))) (dNil))) (t := .nm 6) (el := dFn d__law_pick (dCons (dVar 0) (dCons (dLst (dCons (dC (.int 0)) (dCons (dC (.int 1)) (dCons (dUn negP (dC (.int 2))) (dNil))))) (dNil))))
    (l := [some (.ref 0), some (.int (n : Nat)), some (.ref (T.length + 1)), some (.int (du * mid)), some (.int (i : Nat)), some (.int mid), o6, o7, o8, o9, o10, o11, o12]) (S := S1) (items := rngZ 0 (n - i - 1)) (fun v => ∃ j : Int, v = .int j ∧ j.natAbs ≤ 5) (fun k S' => PenS (m + 1 + k) (T ++ [some (.lst, rows.map rL)]) S')
    (by
      have := rngP_nat (n - i - 1) S1 (by omega)
      rw [← ec] at this
      simp [this]) (by rw [rngZ_len]; omega) a3 (by
      intro k x S' hx hI
      obtain ⟨hk, rfl⟩ := rngZ_get hx
      obtain ⟨v, S2, g1, g2, g3⟩ := pickI (ns := [0, 1, -2]) hI (by omega) (by decide) (by decide)
      simp only [List.map_cons, List.map_nil] at g1
      refine ⟨_, _, S2, asg1, by simp [setZ, mkNd, g1], ⟨v, rfl, ?_⟩, g3⟩
      simp only [List.mem_cons, List.not_mem_nil, or_false] at g2
      rcases g2 with e | e | e <;> rw [e] <;> decide)
  obtain ⟨ws, S2, b1, b2, b3, b4⟩ := hlc
  obtain ⟨rest, rfl, b5, b6⟩ := all_ints ws b3
  rw [rngZ_len] at b2 b4
  have hat := b4.last
  have hat1 := a3.last
  have happ := appP_at (y := rL (List.replicate i 0 ++ (mid :: rest))) hat (by rw [List.length_map]; omega)
  have hmm : rows.map rL ++ [rL (List.replicate i 0 ++ (mid :: rest))] = (rows ++ [List.replicate i 0 ++ (mid :: rest)]).map rL := by rw [List.map_append]; rfl
  rw [hmm] at happ
  refine ⟨mid, rest, S2.set (T.length + 1) (some (.lst, (rows ++ [List.replicate i 0 ++ (mid :: rest)]).map rL)), ?_, hmid, by omega, b6, (b4.mono (by omega)).setLast⟩
  unfold g1B
  have mo : mulOk du mid := mulOk_r (by omega)
  simp only [List.map_cons, List.map_nil] at a1
  rw [dSeq_ap, dSet_ap]
  have s1 : dFn d__law_pick (dCons (dVar 0) (dCons (dLst (dCons (dC (.int 1)) (dCons (dUn negP (dC (.int 1))) (dCons (dC (.int 2)) (dCons (dC (.int 3)) (dCons (dUn negP (dC (.int 5))) (dNil))))))) (dNil))) [some (.ref 0), some (.int (n : Nat)), some (.ref (T.length + 1)), some (.int du), some (.int (i : Nat)), o5, o6, o7, o8, o9, o10, o11, o12] S = .ok (.int mid) S1 := by
    simp [mkNd, a1]
  rw [s1, st_ok, seq_nx]
  show dSeq (dSet 3 _) _ [some (.ref 0), some (.int (n : Nat)), some (.ref (T.length + 1)), some (.int du), some (.int (i : Nat)), some (.int mid), o6, o7, o8, o9, o10, o11, o12] S1 = _
  rw [dSeq_ap, dSet_ap]
  have s2 : dBin mulZ (dVar 3) (dVar 5) [some (.ref 0), some (.int (n : Nat)), some (.ref (T.length + 1)), some (.int du), some (.int (i : Nat)), some (.int mid), o6, o7, o8, o9, o10, o11, o12] S1 = .ok (.int (du * mid)) S1 := by
    simp [mo]
  rw [s2, st_ok, seq_nx]
  show dExpr (dMet "list" appP (dVar 2) (dCons _ dNil)) [some (.ref 0), some (.int (n : Nat)), some (.ref (T.length + 1)), some (.int (du * mid)), some (.int (i : Nat)), some (.int mid), o6, o7, o8, o9, o10, o11, o12] S1 = _
  have h4 : dVar 2 [some (.ref 0), some (.int (n : Nat)), some (.ref (T.length + 1)), some (.int (du * mid)), some (.int (i : Nat)), some (.int mid), o6, o7, o8, o9, o10, o11, o12] S1 = .ok (.ref (T.length + 1)) S1 := rfl
  have hrep : List.replicate i (PV.int 0) = (List.replicate i (0 : Int)).map .int := by rw [List.map_replicate]
  have s3 : dBin addP (dBin mulZ (dLst (dCons (dC (.int 0)) (dNil))) (dVar 4)) (dLst (dCons (dVar 5) (dNil))) [some (.ref 0), some (.int (n : Nat)), some (.ref (T.length + 1)), some (.int (du * mid)), some (.int (i : Nat)), some (.int mid), o6, o7, o8, o9, o10, o11, o12] S1 = .ok (.nd .lst (List.replicate i (.int 0) ++ [.int mid])) S1 := by
    have hm1 := mulZ_rep (.int 0) i S1 (by omega)
    have hm2 : mkNd .lst (List.replicate i (PV.int 0) ++ [.int mid]) S1 = .ok (.nd .lst (List.replicate i (.int 0) ++ [.int mid])) S1 := mkNd_ok S1 (by simp; omega)
    have hm3 : mkNd .lst [PV.int 0] S1 = .ok (.nd .lst [.int 0]) S1 := mkNd_ok S1 (by decide)
    have hm4 : mkNd .lst [PV.int mid] S1 = .ok (.nd .lst [.int mid]) S1 := mkNd_ok S1 (by simp)
    simp [hm3, hm4, hm1, hm2]
  have hm5 : mkNd .lst (List.replicate i (PV.int 0) ++ [.int mid] ++ rest.map .int) S2 = .ok (rL (List.replicate i 0 ++ (mid :: rest))) S2 := by
    rw [mkNd_ok S2 (by simp; omega)]
    unfold rL
    rw [List.map_append, ← hrep, List.append_assoc]; rfl
  rw [dExpr_ap, dMet_ap, h4, bind_ok, if_pos (tyOk_ref hat1), dCons_ap, dBin_ap, s3, bind_ok, b1, bind_ok, addP_lst, hm5, bind_ok, dNil_ap, bind_ok, bind_ok, happ, st_ok]
theorem g2_turn {m : Nat} {T S : Sto} {n B : Nat} {rows : List (List Int)} {du : Int} (hP : PenS m (T ++ [some (.lst, rows.map rL)]) S) (h1 : 1 ≤ n) (hn : n ≤ 40) (hm : m + 3 ≤ 100000) (hl : rows.length = n) (hr : ∀ r ∈ rows, r.length = n ∧ ∀ v ∈ r, v.natAbs ≤ B) (o4 o5 o6 o7 o8 o9 o10 o11 o12 : Option PV) :
    ∃ (rows' : List (List Int)) (du' : Int) (S' : Sto) (p8 p9 p10 : Option PV), g2B [some (.ref 0), some (.int (n : Nat)), some (.ref (T.length + 1)), some (.int du), o4, o5, o6, o7, o8, o9, o10, o11, o12] S = .nx [some (.ref 0), some (.int (n : Nat)), some (.ref (T.length + 1)), some (.int du'), o4, o5, o6, o7, p8, p9, p10, o11, o12] S' ∧
      rows'.length = n ∧ (∀ r ∈ rows', r.length = n ∧ ∀ v ∈ r, v.natAbs ≤ 3 * B) ∧ (detI rows = du → detI rows' = du') ∧ PenS (m + 3) (T ++ [some (.lst, rows'.map rL)]) S' := by
  obtain ⟨one, S1, a1, a2, a3, a4⟩ := dr m _ S n hP (by omega) (by omega) (by omega)
  obtain ⟨two, S2, b1, b2, b3, b4⟩ := dr (m + 1) _ S1 n a4 (by omega) (by omega) (by omega)
  obtain ⟨i, rfl⟩ := Int.eq_ofNat_of_zero_le a2
  obtain ⟨j, rfl⟩ := Int.eq_ofNat_of_zero_le b2
  have hi : i < rows.length := by omega
  have hj : j < rows.length := by omega
  have hra := hr _ (List.getElem_mem hi)
  have hrb := hr _ (List.getElem_mem hj)
  have ga : rows[i]? = some rows[i] := List.getElem?_eq_getElem hi
  have gb : rows[j]? = some rows[j] := List.getElem?_eq_getElem hj
  have hweak : ∀ r ∈ rows, r.length = n ∧ ∀ v ∈ r, v.natAbs ≤ 3 * B := fun r h => ⟨(hr r h).1, fun v hv => Nat.le_trans ((hr r h).2 v hv) (by omega)⟩
  have sub : ∀ {S' : Sto} {k : Nat} (hk : k < rows.length), S'[T.length + 1]? = some (some (.lst, rows.map rL)) → subZ (.ref (T.length + 1)) (.int (k : Nat)) S' = .ok (rL rows[k]) S' := fun {S' k} hk h => by
    refine subZ_ref S' _ _ h ?_
    rw [atI_ofNat, List.getElem?_map, List.getElem?_eq_getElem hk]; rfl
  have hpar : dPar 8 9 (dCons (dFn d__law_draw (dCons (dVar 0) (dCons (dVar 1) (dNil)))) (dCons (dFn d__law_draw (dCons (dVar 0) (dCons (dVar 1) (dNil)))) (dNil))) [some (.ref 0), some (.int (n : Nat)), some (.ref (T.length + 1)), some (.int du), o4, o5, o6, o7, o8, o9, o10, o11, o12] S = .nx [some (.ref 0), some (.int (n : Nat)), some (.ref (T.length + 1)), some (.int du), o4, o5, o6, o7, some (.int (i : Nat)), some (.int (j : Nat)), o10, o11, o12] S2 := by
    simp [a1, b1]
  by_cases hij : i = j
  · subst hij
    refine ⟨rows, du, S2, some (.int (i : Nat)), some (.int (i : Nat)), o10, ?_, hl, hweak, fun h => h, b4.mono (by omega)⟩
    unfold g2B
    rw [dSeq_ap, hpar, seq_nx]
    simp
  · have hij' : ¬ (i : Int) = (j : Int) := by omega
    obtain ⟨v, S3, c1, c2, c3, c4⟩ := dr (m + 1 + 1) _ S2 2 b4 (by omega) (by decide) (by decide)
    have hat := c4.last
    have hlen : (rows.map rL).length = n := by rw [List.length_map]; exact hl
    by_cases hv : v = 0
    · subst hv
      have p1 := putP_at (v := rL rows[j]) (j := i) hat (by rw [hlen]; omega)
      have e1 : (rows.map rL).set i (rL rows[j]) = (rows.set i rows[j]).map rL := by rw [List.map_set]
      rw [e1] at p1
      have P2 := c4.setLast (o' := some (.lst, (rows.set i rows[j]).map rL))
      have hat2 := P2.last
      have p2 := putP_at (v := rL rows[i]) (j := j) hat2 (by rw [List.length_map, List.length_set]; omega)
      have e2 : ((rows.set i rows[j]).map rL).set j (rL rows[i]) = ((rows.set i rows[j]).set j rows[i]).map rL := List.map_set.symm
      rw [e2] at p2
      have P3 := P2.setLast (o' := some (.lst, ((rows.set i rows[j]).set j rows[i]).map rL))
      refine ⟨(rows.set i rows[j]).set j rows[i], 0 - du, _, some (.int (i : Nat)), some (.int (j : Nat)), some (rL rows[i]), ?_, by rw [List.length_set, List.length_set]; exact hl, fun r hr' => ?_, fun h => ?_, P3.mono (by omega)⟩
      · unfold g2B
        rw [dSeq_ap, hpar, seq_nx]
        have s1 := sub hi hat
        have s2 := sub hj hat
        have l1 : ∀ (r : List Int) (S : Sto), listP [rL r] S = .ok (rL r) S := fun r S => rfl
        generalize hZ2 : ((rows.set i rows[j]).set j rows[i]).map rL = Z2 at p2 ⊢
        generalize hZ1 : (rows.set i rows[j]).map rL = Z1 at p1 p2 ⊢
        simp [hij', c1, s1, s2, l1, p1, p2]
      · rcases List.mem_or_eq_of_mem_set hr' with z | z
        · rcases List.mem_or_eq_of_mem_set z with y | y
          · exact hweak r y
          · rw [y]; exact hweak _ (List.getElem_mem hj)
        · rw [z]; exact hweak _ (List.getElem_mem hi)
      · rw [detI_set_swap hij ga gb, h]; omega
    · have hz : zipP [rL rows[i], rL rows[j]] S3 = .ok ⟨zipZ (rows[i].map .int) (rows[j].map .int), []⟩ S3 := rfl
      have s1 := sub hi hat
      have s2 := sub hj hat
      have hlc := dLc_pure (vs := [11, 12]) (di := dItA zipP (dCons (dBin subZ (dVar 2) (dVar 8)) (dCons (dBin subZ (dVar 2) (dVar 9)) (dNil)))) (t := .tp [.nm 11, .nm 12]) (el := dBin addP (dVar 11) (dBin mulZ (dC (.int 2)) (dVar 12)))
        (l := [some (.ref 0), some (.int (n : Nat)), some (.ref (T.length + 1)), some (.int du), o4, o5, o6, o7, some (.int (i : Nat)), some (.int (j : Nat)), o10, o11, o12]) (S := S3) (it := ⟨zipZ (rows[i].map .int) (rows[j].map .int), []⟩)
        (fun x => match x with
          | .nd .tup [.int a, .int b] => .int (a + 2 * b)
          | _ => .non) (by simp [s1, s2, hz]) (heldB_nil S3) (by
            show (zipZ (rows[i].map PV.int) (rows[j].map PV.int)).length ≤ _
            rw [zipZ_len, List.length_map, List.length_map, hra.1]; omega) (by
          intro x hx
          simp only [zipZ_map] at hx
          obtain ⟨q, _, rfl⟩ := List.mem_map.mp hx
          have mo : mulOk 2 q.2 := mulOk_l (by decide)
          refine ⟨_, asg2, ?_⟩
          simp [setZ, mo])
      have hmap : (zipZ (rows[i].map PV.int) (rows[j].map PV.int)).map (fun x => match x with
          | .nd .tup [.int a, .int b] => PV.int (a + 2 * b)
          | _ => .non) = (add2 rows[i] rows[j]).map .int := by
        unfold add2
        rw [zipZ_map, List.map_map, List.map_map]
        exact List.map_congr_left fun q _ => rfl
      simp only at hlc
      rw [hmap] at hlc
      have p1 := putP_at (v := rL (add2 rows[i] rows[j])) (j := i) hat (by rw [hlen]; omega)
      have e1 : (rows.map rL).set i (rL (add2 rows[i] rows[j])) = (rows.set i (add2 rows[i] rows[j])).map rL := by rw [List.map_set]
      rw [e1] at p1
      have P2 := c4.setLast (o' := some (.lst, (rows.set i (add2 rows[i] rows[j])).map rL))
      refine ⟨rows.set i (add2 rows[i] rows[j]), du, _, some (.int (i : Nat)), some (.int (j : Nat)), o10, ?_, by rw [List.length_set]; exact hl, fun r hr' => ?_, fun h => ?_, P2.mono (by omega)⟩
      · unfold g2B
        rw [dSeq_ap, hpar, seq_nx]
        have hlc' : dLc [11, 12] (dItA zipP (dCons (dBin subZ (dVar 2) (dVar 8)) (dCons (dBin subZ (dVar 2) (dVar 9)) (dNil)))) (.tp [.nm 11, .nm 12]) dYes (dBin addP (dVar 11) (dBin mulZ (dC (.int 2)) (dVar 12))) [some (.ref 0), some (.int (n : Nat)), some (.ref (T.length + 1)), some (.int du), o4, o5, o6, o7, some (.int (i : Nat)), some (.int (j : Nat)), o10, o11, o12] S3 = .ok (rL (add2 rows[i] rows[j])) S3 := hlc
        generalize hZ1 : (rows.set i (add2 rows[i] rows[j])).map rL = Z1 at p1 ⊢
        simp [hij', c1, hv, hlc', p1, -dLc_ap]
      · rcases List.mem_or_eq_of_mem_set hr' with z | z
        · exact hweak r z
        · rw [z]
          refine ⟨by unfold add2; rw [List.length_map, List.length_zip, hra.1, hrb.1, Nat.min_self], fun v hv' => ?_⟩
          unfold add2 at hv'
          obtain ⟨q, hq, rfl⟩ := List.mem_map.mp hv'
          obtain ⟨q1, q2⟩ := List.of_mem_zip (a := q.1) (b := q.2) hq
          have b1 := hra.2 _ q1
          have b2 := hrb.2 _ q2
          omega
      · rw [detI_set_add hij ga gb (by rw [hra.1, hrb.1]), h]
theorem d_great {m : Nat} {T S : Sto} (h : PenS m T S) (n : Nat) (h1 : 1 ≤ n) (hn : n ≤ 40) (hm : m + 2000 ≤ 100000) :
    ∃ (rows : List (List Int)) (S' : Sto), d__law_great [.ref 0, .int (n : Nat)] S = .ok (.nd .tup [.ref (T.length + 1), .int (detI rows)]) S' ∧ rows.length = n ∧ (∀ r ∈ rows, r.length = n ∧ ∀ v ∈ r, v.natAbs ≤ 5 * 3 ^ 12) ∧ PenS (m + 2000) (T ++ [some (.lst, rows.map rL)]) S' := by
  have hlen := h.len
  have hnn : n * (1 + n) ≤ 40 * 41 := Nat.mul_le_mul hn (by omega)
  have hloop1 := forZ_inv (t := .nm 4) (hs := []) (b := g1B) (fun i l S' => ∃ (rows : List (List Int)) (du : Int) (o4 o5 o6 o7 o8 o9 o10 o11 o12 : Option PV), rows.length = i ∧ tri rows 0 ∧ pd rows 0 = du ∧ (∀ r ∈ rows, r.length = n ∧ ∀ v ∈ r, v.natAbs ≤ 5) ∧ PenS (m + i * (1 + n)) (T ++ [some (.lst, rows.map rL)]) S' ∧
      l = [some (.ref 0), some (.int (n : Nat)), some (.ref (T.length + 1)), some (.int du), o4, o5, o6, o7, o8, o9, o10, o11, o12]) (rngZ 0 n) 0
    [some (.ref 0), some (.int (n : Nat)), some (.ref (T.length + 1)), some (.int 1), none, none, none, none, none, none, none, none, none] (S ++ [some (.lst, [])])
    ⟨[], 1, none, none, none, none, none, none, none, none, none, rfl, trivial, rfl, fun r hr => (nomatch hr), by rw [Nat.zero_mul]; exact h.app, rfl⟩ (by
      rintro i x l S' hx ⟨rows, du, o4, o5, o6, o7, o8, o9, o10, o11, o12, hl, ht, hd, hr, hP, rfl⟩
      rw [Nat.zero_add] at hl hP ⊢
      obtain ⟨hi, rfl⟩ := rngZ_get hx
      have hmi : i * (1 + n) + (1 + n) ≤ 40 * 41 := by
        have : (i + 1) * (1 + n) ≤ 40 * 41 := Nat.mul_le_mul (by omega) (by omega)
        rw [Nat.succ_mul] at this
        exact this
      obtain ⟨mid, rest, S2, g1, g2, g3, g4, g5⟩ := g1_turn hP hi hn (by omega) hl (o4) o5 o6 o7 o8 o9 o10 o11 o12
      have hlr : (List.replicate i (0 : Int)).length = i := List.length_replicate
      have hz : ∀ j, j < i → ro (List.replicate i 0 ++ (mid :: rest)) j = 0 := fun j hj => by
        unfold ro
        rw [List.getD_eq_getElem?_getD, List.getElem?_append_left (by omega), List.getElem?_replicate, if_pos hj]; rfl
      have hzi : ro (List.replicate i 0 ++ (mid :: rest)) i = mid := by
        unfold ro
        rw [List.getD_eq_getElem?_getD, List.getElem?_append_right (by omega), hlr, Nat.sub_self]; rfl
      refine ⟨_, _, S2, asg1, ?_, heldB_nil _, rows ++ [List.replicate i 0 ++ (mid :: rest)], du * mid, some (.int (i : Nat)), some (.int mid), o6, o7, o8, o9, o10, o11, o12, ?_, ?_, ?_, ?_, ?_, rfl⟩
      · have e0 : (0 : Int) + (i : Nat) = (i : Nat) := by omega
        rw [e0]
        exact g1
      · rw [List.length_append, hl]; rfl
      · exact tri_app rows 0 ht fun j hj => hz j (by omega)
      · rw [pd_app, hd, Nat.zero_add, hl, hzi]
      · intro r hr'
        rcases List.mem_append.mp hr' with z | z
        · exact hr r z
        · rw [List.mem_singleton.mp z]
          refine ⟨by rw [List.length_append, hlr, List.length_cons]; omega, fun v hv => ?_⟩
          rcases List.mem_append.mp hv with y | y
          · rw [List.eq_of_mem_replicate y]; decide
          · rcases List.mem_cons.mp y with e | e
            · rw [e]; exact g2
            · exact g4 v e
      · have e : m + (i + 1) * (1 + n) = m + i * (1 + n) + 1 + n := by rw [Nat.succ_mul]; omega
        rw [e]; exact g5)
  obtain ⟨l1, S1, f1, rows1, du1, o4, o5, o6, o7, o8, o9, o10, o11, o12, q1, q2, q3, q4, q5, rfl⟩ := hloop1
  rw [rngZ_len, Nat.zero_add] at q1 q5
  have hloop2 := forZ_inv (t := .nm 7) (hs := []) (b := g2B) (fun i l S' => ∃ (rows : List (List Int)) (o4 o5 o6 o7 o8 o9 o10 o11 o12 : Option PV), rows.length = n ∧ (∀ r ∈ rows, r.length = n ∧ ∀ v ∈ r, v.natAbs ≤ 5 * 3 ^ i) ∧ PenS (m + n * (1 + n) + 3 * i) (T ++ [some (.lst, rows.map rL)]) S' ∧
      l = [some (.ref 0), some (.int (n : Nat)), some (.ref (T.length + 1)), some (.int (detI rows)), o4, o5, o6, o7, o8, o9, o10, o11, o12]) (rngZ 0 12) 0
    [some (.ref 0), some (.int (n : Nat)), some (.ref (T.length + 1)), some (.int du1), o4, o5, o6, o7, o8, o9, o10, o11, o12] S1
    ⟨rows1, o4, o5, o6, o7, o8, o9, o10, o11, o12, q1, fun r hr => ⟨(q4 r hr).1, fun v hv => Nat.le_trans ((q4 r hr).2 v hv) (by decide)⟩, q5, by rw [detI_tri q2, q3]⟩ (by
      rintro i x l S' hx ⟨rows, o4, o5, o6, o7, o8, o9, o10, o11, o12, hl, hr, hP, rfl⟩
      rw [Nat.zero_add] at hr hP ⊢
      obtain ⟨hi, rfl⟩ := rngZ_get hx
      obtain ⟨rows', du', S2, p8, p9, p10, g1, g2, g3, g4, g5⟩ := g2_turn hP h1 hn (by omega) hl hr o4 o5 o6 (some (.int (0 + (i : Nat)))) o8 o9 o10 o11 o12
      refine ⟨_, _, S2, asg1, g1, heldB_nil _, rows', _, _, _, _, _, _, _, _, _, g2, fun r hr' => ⟨(g3 r hr').1, fun v hv => Nat.le_trans ((g3 r hr').2 v hv) ?_⟩, ?_, by rw [g4 rfl]⟩
      · rw [Nat.pow_succ]; omega
      · have e : m + n * (1 + n) + 3 * (i + 1) = m + n * (1 + n) + 3 * i + 3 := by omega
        rw [e]; exact g5)
  obtain ⟨l2, S2, f2, rows, o4, o5, o6, o7, o8, o9, o10, o11, o12, r1, r2, r3, rfl⟩ := hloop2
  rw [rngZ_len, Nat.zero_add] at r2 r3
  refine ⟨rows, S2, ?_, r1, r2, r3.mono (by omega)⟩
  refine dDef0_ret S b__law_great rfl ?_
  show b__law_great [some (.ref 0), some (.int (n : Nat)), none, none, none, none, none, none, none, none, none, none, none] S = _
  have hp : dPar 2 3 (dCons (dLstM (dNil)) (dCons (dC (.int 1)) (dNil))) [some (.ref 0), some (.int (n : Nat)), none, none, none, none, none, none, none, none, none, none, none] S = .nx [some (.ref 0), some (.int (n : Nat)), some (.ref (T.length + 1)), some (.int 1), none, none, none, none, none, none, none, none, none] (S ++ [some (.lst, [])]) := by
    rw [dPar_ap, dCons_ap, dLstM_ap, dNil_ap, bind_ok, mkRf_ok S (by decide), hlen]
    rfl
  have hit : ∀ S, dItA rngP (dCons (dVar 1) dNil) [some (.ref 0), some (.int (n : Nat)), some (.ref (T.length + 1)), some (.int 1), none, none, none, none, none, none, none, none, none] S = .ok ⟨rngZ 0 n, []⟩ S := fun S => by
    simp [rngP_nat n S (by omega)]
  have hit2 : ∀ l S, dItA rngP (dCons (dC (.int 12)) dNil) l S = .ok ⟨rngZ 0 12, []⟩ S := fun l S => by
    have := rngP_nat 12 S (by decide)
    have this : rngP [.int 12] S = .ok ⟨rngZ 0 12, []⟩ S := this
    simp [this]
  rw [great_eq, dSeq_ap, hp, seq_nx, dSeq_ap, dFor_eq (hit _) (heldB_nil _), f1, seq_nx, dSeq_ap, dFor_eq (hit2 _ _) (heldB_nil _), f2, seq_nx]
  simp [mkNd]
end Z
end
end
section
set_option Elab.async false
set_option linter.all false
set_option maxRecDepth 100000
set_option maxHeartbeats 2000000
/-! K28I: repr of rows. -/
noncomputable section
namespace Z
open PySem PySem.Spec PyProof.Rows L2
def dR (rows : List (List Int)) : PyData := .list (rows.map fun r => .list (r.map .int))
theorem shInts {k : Nat} (h1 : 8 ≤ k) : ∀ ns : List Int, (∀ v ∈ ns, v.natAbs.log2 < k) → PyData.leavesShortAll (k + 1) (ns.map .int) = true
  | [], _ => rfl
  | n :: r, h => by
    have e := int_text_length_le (k := k) (by omega) (h n List.mem_cons_self)
    have e2 : (PyData.shown (.int n)).length ≤ k + 1 := by
      show (Str.ofString (toString n)).length ≤ _
      rw [PySem.ofString_length]; exact e
    simp only [List.map_cons, PyData.leavesShortAll, PyData.leavesShort, Bool.and_eq_true, decide_eq_true_eq]
    exact ⟨e2, shInts h1 r fun m hm => h m (List.mem_cons_of_mem _ hm)⟩
theorem shRows {k : Nat} (h1 : 8 ≤ k) : ∀ rows : List (List Int), (∀ r ∈ rows, ∀ v ∈ r, v.natAbs.log2 < k) → PyData.leavesShortAll (k + 1) (rows.map fun r => .list (r.map .int)) = true
  | [], _ => rfl
  | r :: R, h => by
    simp only [List.map_cons, PyData.leavesShortAll, PyData.leavesShort, Bool.and_eq_true]
    exact ⟨shInts h1 r (h r List.mem_cons_self), shRows h1 R fun m hm => h m (List.mem_cons_of_mem _ hm)⟩
theorem wtInts : ∀ ns : List Int, (∀ v ∈ ns, v.natAbs.log2 < 200) → PyData.weightAll (ns.map .int) ≤ 202 * ns.length
  | [], _ => by simp [PyData.weightAll]
  | n :: r, h => by
    have := wtInts r fun m hm => h m (List.mem_cons_of_mem _ hm)
    have h2 := h n List.mem_cons_self
    have h3 : (if (n == 0) = true then 0 else n.natAbs.log2 + 1) ≤ 200 := by split <;> omega
    simp only [List.map_cons, PyData.weightAll, PyData.weight, List.length_cons]
    omega
theorem wtRows {w : Nat} : ∀ rows : List (List Int), (∀ r ∈ rows, r.length ≤ w) → (∀ r ∈ rows, ∀ v ∈ r, v.natAbs.log2 < 200) → PyData.weightAll (rows.map fun r => .list (r.map .int)) ≤ (202 * w + 2) * rows.length
  | [], _, _ => by simp [PyData.weightAll]
  | r :: R, h, hb => by
    have h0 := wtRows R (fun m hm => h m (List.mem_cons_of_mem _ hm)) fun m hm => hb m (List.mem_cons_of_mem _ hm)
    have h2 := wtInts r (hb r List.mem_cons_self)
    have h3 := h r List.mem_cons_self
    simp only [List.map_cons, PyData.weightAll, PyData.weight, List.length_cons, List.length_map, Nat.mul_succ]
    omega
theorem swInts : ∀ ns : List Int, (∀ v ∈ ns, v.natAbs.log2 < 1920) → PyData.showableAll (ns.map .int) = true ∧ PyData.depthAll (ns.map .int) ≤ 0
  | [], _ => by simp [PyData.showableAll, PyData.depthAll]
  | n :: r, h => by
    have := swInts r fun m hm => h m (List.mem_cons_of_mem _ hm)
    have h2 := h n List.mem_cons_self
    simp only [List.map_cons, PyData.showableAll, PyData.showable, PyData.depthAll, PyData.depth, this.1, Bool.and_true, decide_eq_true_eq]
    exact ⟨h2, by have := this.2; omega⟩
theorem swRows : ∀ rows : List (List Int), (∀ r ∈ rows, ∀ v ∈ r, v.natAbs.log2 < 1920) → PyData.showableAll (rows.map fun r => .list (r.map .int)) = true ∧ PyData.depthAll (rows.map fun r => .list (r.map .int)) ≤ 1
  | [], _ => by simp [PyData.showableAll, PyData.depthAll]
  | r :: R, h => by
    have h0 := swRows R fun m hm => h m (List.mem_cons_of_mem _ hm)
    have h2 := swInts r (h r List.mem_cons_self)
    simp only [List.map_cons, PyData.showableAll, PyData.showable, PyData.depthAll, PyData.depth, h0.1, h2.1, Bool.and_true, true_and]
    have := h0.2
    have := h2.2
    omega
theorem reprRows {x : PV} {rows : List (List Int)} {S : Sto} (hv : view x S = some (.lst, rows.map rL)) (hn : rows.length ≤ 6) (hr : ∀ r ∈ rows, r.length ≤ 6) (hb : ∀ r ∈ rows, ∀ v ∈ r, v.natAbs < 2 ^ 200) :
    reprP [x] S = .ok (.str (dR rows).shown) S := by
  have hl : ∀ k, 200 ≤ k → ∀ r ∈ rows, ∀ v ∈ r, v.natAbs.log2 < k := fun k hk r h1 v h2 => by
    rcases Nat.eq_zero_or_pos v.natAbs with z | z
    · rw [z]; simp; omega
    · exact Nat.lt_of_lt_of_le ((Nat.log2_lt (by omega)).mpr (hb r h1 v h2)) hk
  have hd : datS x S = some (dR rows) := by
    unfold datS
    rw [hv]
    show dat (.nd .lst (rows.map (rK false))) = _
    rw [dat, datL_rows false rows]
    rfl
  have hs := swRows rows (hl 1920 (by decide))
  have h1 : (dR rows).showable = true := by unfold dR; rw [PyData.showable]; exact hs.1
  have h2 : (dR rows).depth ≤ 20 := by unfold dR; rw [PyData.depth]; have := hs.2; omega
  have h3 : (dR rows).shown.length ≤ 16777216 := by
    have e1 := PyData.shown_le 201 (by decide) (dR rows) (by unfold dR; rw [PyData.leavesShort]; exact shRows (k := 200) (by decide) rows (hl 200 (by decide)))
    have e2 := wtRows (w := 6) rows hr (hl 200 (by decide))
    have e3 : (202 * 6 + 2) * rows.length ≤ 1214 * 6 := Nat.mul_le_mul_left _ hn
    have e4 : (dR rows).weight ≤ 7284 := by
      unfold dR
      rw [PyData.weight]
      first | omega | (simp only [List.length_map]; omega)
    have e5 : (201 + 2) * (dR rows).weight ≤ 203 * 7284 := Nat.mul_le_mul_left _ e4
    omega
  unfold reprP
  simp only [hd, h1, h2, h3, and_self, if_true]
end Z
end
end
section
set_option Elab.async false
set_option linter.all false
set_option maxRecDepth 100000
set_option maxHeartbeats 2000000
set_option exponentiation.threshold 100000
/-! K28J: the law of k28. -/
noncomputable section
namespace Z
open PySem PySem.Spec PyProof.Rows L2

theorem d_detK (k : Bool) {sq : PV} {S : Sto} {rows : List (List Int)} {B : Nat} (h : SqV sq S (rows.map (rK k))) (hn : rows.length ≤ 40) (hr : ∀ r ∈ rows, r.length = rows.length) (hb : ∀ r ∈ rows, ∀ v ∈ r, v.natAbs ≤ B) (hB : (rows.length * B + 1) ^ rows.length < DIVB) :
    d_determinant [sq] S = .ok (.int (detI rows)) S := by
  have e1 : (rows.map fun r => (k, r)).map (fun p => rK p.1 p.2) = rows.map (rK k) := by rw [List.map_map]; rfl
  have e2 : (rows.map fun r => (k, r)).map Prod.snd = rows := by
    rw [List.map_map]
    exact List.map_id rows
  have hl : (rows.map fun r => (k, r)).length = rows.length := List.length_map ..
  have := d_det (rows := rows.map fun r => (k, r)) (B := B) (by rw [e1]; exact h) (by rw [hl]; exact hn) (fun p hp => by
    obtain ⟨r, hr', rfl⟩ := List.mem_map.mp hp
    rw [hl]
    exact hr r hr') (fun p hp => by
    obtain ⟨r, hr', rfl⟩ := List.mem_map.mp hp
    exact hb r hr') (by rw [hl]; exact hB)
  rw [e2] at this
  exact this
theorem dLcM_pure1 {vs : List Nat} {di : DI} {t : TgZ} {el : DE} {l : Loc} {S S1 : Sto} {it : ItZ} (g : PV → PV) (hi : di l S = .ok it S1) (hh : heldB it.held S1 = true) (hl : it.items.length ≤ 16777216)
    (he : ∀ x ∈ it.items, ∃ ps, asg t x = some ps ∧ el (setZ (wipeZ l vs) ps) S1 = .ok (g x) S1) : dLcM vs di t dYes el l S = .ok (.ref S1.length) (S1 ++ [some (.lst, it.items.map g)]) := by
  rw [dLcM_ap, dLc0_ap, hi, bind_ok, if_pos ⟨hh, hl⟩, lcZ_pure hh it.items he, bind_ok]
theorem pen_ok {ns : List Int} (h : ns.length ≤ 63) : d__law_pen [.nd .scr (ns.map .int)] [] = .ok (.ref 0) [pn ns 0 0] := by
  refine dDef0_ret [] b__law_pen rfl ?_
  show b__law_pen [some (.nd .scr (ns.map .int))] [] = _
  have e : cutP (ns.map PV.int) none (some (63 : Int)) = ns.map .int := by
    rw [show (63 : Int) = ((63 : Nat) : Int) from rfl, cutP_to, List.take_of_length_le (by rw [List.length_map]; omega)]
  have hs : sliZ (.nd .scr (ns.map .int)) none (some 63) [] = .ok (.nd .lst (ns.map .int)) [] := by
    show Out.ok (PV.nd .lst (cutP (ns.map PV.int) none (some 63))) [] = _
    rw [e]
  unfold b__law_pen
  show _ = OutS.ret (PV.ref 0) [some (.lst, [.nd .lst (ns.map .int), .int 0, .int 0])]
  generalize ns.map PV.int = Z at hs ⊢
  have hm : mkRf Kd.lst [PV.nd Kd.lst Z, PV.int 0, PV.int 0] [] = .ok (.ref 0) [some (.lst, [PV.nd Kd.lst Z, PV.int 0, PV.int 0])] := mkRf_ok [] (by simp)
  simp [hs, hm]
def w1B : DS := dSeq (dSet 3 (dFn d__law_draw (dCons (dVar 1) (dCons (dC (.int 6)) (dNil))))) (dSeq (dSet 4 (dLcM [5] (dItV (dFn d__law_rows (dCons (dVar 1) (dCons (dVar 3) (dCons (dVar 3) (dCons (dBin eqZ (dFn d__law_draw (dCons (dVar 1) (dCons (dC (.int 3)) (dNil)))) (dC (.int 0))) (dNil))))))) (.nm 5) (dYes) (dApp listP (dCons (dVar 5) (dNil))))) (dSeq (dSet 6 (dApp reprP (dCons (dVar 4) (dNil)))) (dSeq (dIfS (dOrT (dB (dBin neZ (dFn d_determinant (dCons (dVar 4) (dNil))) (dFn (d__law_due 8) (dCons (dVar 4) (dNil))))) (dB (dBin neZ (dApp reprP (dCons (dVar 4) (dNil))) (dVar 6)))) (dRet (dC (.bl false))) (dSkip)) (dIfS (dB (dBin neZ (dFn d_determinant (dCons (dApp tupP (dCons (dLc [5] (dItV (dVar 4)) (.nm 5) (dYes) (dApp tupP (dCons (dVar 5) (dNil)))) (dNil))) (dNil))) (dFn (d__law_due 8) (dCons (dVar 4) (dNil))))) (dRet (dC (.bl false))) (dSkip)))))
def w2B : DS := dSeq (dAsg (dFn d__law_great (dCons (dVar 1) (dCons (dVar 3) (dNil)))) (gzT [gzN 4, gzN 7])) (dSeq (dIfS (dOrT (dB (dBin neZ (dFn d_determinant (dCons (dVar 4) (dNil))) (dVar 7))) (dB (dBin neZ (dFn d_determinant (dCons (dRev (dVar 4)) (dNil))) (dBin mulZ (dVar 7) (dIf (dB (dBin (inZ false) (dBin modP (dApp intP (dCons (dVar 3) (dNil))) (dC (.int 4))) (dTup (dCons (dC (.int 2)) (dCons (dC (.int 3)) (dNil)))))) (dUn negP (dC (.int 1))) (dC (.int 1))))))) (dRet (dC (.bl false))) (dSkip)) (dSeq (dAsg (dLc [8] (dItV (dBin subZ (dVar 4) (dBin subP (dVar 3) (dC (.int 1))))) (.nm 8) (dYes) (dBin mulZ (dC (.int 5)) (dVar 8))) (gzI (dVar 4) (dC (.int 0)))) (dIfS (dAndT (dB (dBin gtZ (dVar 3) (dC (.int 1)))) (dB (dBin neZ (dFn d_determinant (dCons (dVar 4) (dNil))) (dC (.int 0))))) (dRet (dC (.bl false))) (dSkip))))
theorem law_eq : b_law = dSeq (dSet 1 (dFn d__law_pen (dCons (dVar 0) (dNil)))) (dSeq (dFor (dItA rngP (dCons (dC (.int 6)) (dNil))) (.nm 2) w1B) (dSeq (dFor (dItV (dTup (dCons (dC (.int 6)) (dCons (dC (.int 13)) (dCons (dFn d__law_pick (dCons (dVar 1) (dCons (dLst (dCons (dC (.int 1)) (dCons (dC (.int 20)) (dCons (dC (.int 40)) (dNil))))) (dNil)))) (dNil)))))) (.nm 3) w2B) (dRet (dBin eqZ (dLst (dCons (dFn d_determinant (dCons (dLst (dNil)) (dNil))) (dCons (dFn d_determinant (dCons (dTup (dNil)) (dNil))) (dCons (dFn d_determinant (dCons (dLst (dCons (dLst (dCons (dC (.int 0)) (dNil))) (dNil))) (dNil))) (dCons (dFn d_determinant (dCons (dLst (dCons (dTup (dCons (dC (.int 0)) (dCons (dC (.int 1)) (dNil)))) (dCons (dLst (dCons (dC (.int 1)) (dCons (dC (.int 0)) (dNil)))) (dNil)))) (dNil))) (dNil)))))) (dLst (dCons (dC (.int 1)) (dCons (dC (.int 1)) (dCons (dC (.int 0)) (dCons (dUn negP (dC (.int 1))) (dNil)))))))))) := rfl

theorem bound1 {n : Nat} (hn : n ≤ 5) : (n * (B0 * 32 ^ n) + 1) ^ n < DIVB := by
  have h : (n * (B0 * 32 ^ n) + 1) ^ n ≤ (5 * (B0 * 32 ^ 5) + 1) ^ 5 := pow_le (by
    have h1 : (32 : Nat) ^ n ≤ 32 ^ 5 := Nat.pow_le_pow_right (by decide) hn
    exact Nat.add_le_add_right (Nat.mul_le_mul hn (Nat.mul_le_mul_left _ h1)) 1) hn
  exact lt_DIVB (k := 1000) (Nat.lt_of_le_of_lt h (by decide)) (by decide)
/-- a turn of the small squares -/
theorem w1_turn {m : Nat} {T S : Sto} (h : PenS m T S) (hm : m + 100 ≤ 100000) (sc o2 o3 o4 o5 o6 o7 o8 : Option PV) :
    ∃ (x : Option (Kd × List PV)) (S' : Sto) (p3 p4 p6 : Option PV), w1B [sc, some (.ref 0), o2, o3, o4, o5, o6, o7, o8] S = .nx [sc, some (.ref 0), o2, p3, p4, o5, p6, o7, o8] S' ∧ PenS (m + 100) (T ++ [x]) S' := by
  obtain ⟨w, S1, a1, a2, a3, a4⟩ := dr _ _ _ 6 h (by omega) (by decide) (by decide)
  obtain ⟨n, rfl⟩ := Int.eq_ofNat_of_zero_le a2
  have hn : n ≤ 5 := by omega
  obtain ⟨v, S2, b1, b2, b3, b4⟩ := dr _ _ _ 3 a4 (by omega) (by decide) (by decide)
  have hnn : n * (1 + n + n) ≤ 5 * 11 := Nat.mul_le_mul hn (by omega)
  obtain ⟨rows, S3, c1, c2, c3, c4⟩ := d_rows b4 n n (by omega) (by omega) (by omega) (decide (v = 0))
  have hlc := dLcM_pure1 (vs := [5]) (di := dItV (dFn d__law_rows (dCons (dVar 1) (dCons (dVar 3) (dCons (dVar 3) (dCons (dBin eqZ (dFn d__law_draw (dCons (dVar 1) (dCons (dC (.int 3)) (dNil)))) (dC (.int 0))) (dNil))))))) (t := .nm 5) (el := dApp listP (dCons (dVar 5) (dNil)))
    (l := [sc, some (.ref 0), o2, some (.int (n : Nat)), o4, o5, o6, o7, o8]) (S := S1) (S1 := S3) (it := ⟨rows.map rT, []⟩) (fun x => rL (decI x)) (by
      simp [b1, c1]) (heldB_nil S3) (by simp only [List.length_map]; omega) (by
      intro x hx
      obtain ⟨r, hr, rfl⟩ := List.mem_map.mp hx
      refine ⟨_, asg1, ?_⟩
      have e3 : decI (rT r) = r := decI_nd _ _
      rw [e3]
      simp [setZ, rL, rT])
  have hmap : (rows.map rT).map (fun x => rL (decI x)) = rows.map rL := by
    rw [List.map_map]
    refine List.map_congr_left fun r _ => ?_
    show rL (decI (rT r)) = rL r
    rw [show decI (rT r) = r from decI_nd _ _]
  simp only [hmap] at hlc
  have c5 : PenS (m + 100) (T ++ [some (.lst, rows.map rL)]) (S3 ++ [some (.lst, rows.map rL)]) := (c4.mono (by omega)).app
  have hlen := c4.len
  have hat := c5.last
  rw [hlen] at hlc
  have hv : view (.ref (T.length + 1)) (S3 ++ [some (.lst, rows.map rL)]) = some (.lst, rows.map rL) := view_ref hat
  generalize hS4 : S3 ++ [some (.lst, rows.map rL)] = S4 at hlc c5 hat hv
  have hr : ∀ r ∈ rows, r.length = rows.length := fun r hr' => by rw [(c3 r hr').1, c2]
  have hb : ∀ r ∈ rows, ∀ v ∈ r, v.natAbs ≤ B0 * 32 ^ n := fun r hr' => (c3 r hr').2
  have hB := bound1 hn
  rw [← c2] at hB hb
  have hD := d_detK false (sqv_ref hat) (by omega) hr hb hB
  have hU := d_due 8 rows _ S4 _ (by omega) hv (by omega) hr hb hB
  have hE := reprRows hv (by omega) (fun r hr' => by rw [hr r hr', c2]; omega) (fun r hr' v hv' => Nat.lt_of_le_of_lt (hb r hr' v hv') (by
    have h1 : (32 : Nat) ^ rows.length ≤ 32 ^ 5 := Nat.pow_le_pow_right (by decide) (by omega)
    exact Nat.lt_of_le_of_lt (Nat.mul_le_mul_left _ h1) (by decide)))
  obtain ⟨-, q1, hq, q2, q3⟩ := sqv_ref hat
  have hlt := dLc_pure (vs := [5]) (di := dItV (dVar 4)) (t := .nm 5) (el := dApp tupP (dCons (dVar 5) (dNil)))
    (l := [sc, some (.ref 0), o2, some (.int (n : Nat)), some (.ref (T.length + 1)), o5, some (.str (dR rows).shown), o7, o8]) (S := S4) (it := ⟨rows.map rL, hq⟩) (fun x => rT (decI x)) (by
      simp [q2]) q3 (by simp only [List.length_map]; omega) (by
      intro x hx
      obtain ⟨r, hr, rfl⟩ := List.mem_map.mp hx
      refine ⟨_, asg1, ?_⟩
      have e3 : decI (rL r) = r := decI_nd _ _
      rw [e3]
      simp [setZ, rL, rT])
  have hmap2 : (rows.map rL).map (fun x => rT (decI x)) = rows.map rT := by
    rw [List.map_map]
    refine List.map_congr_left fun r _ => ?_
    show rT (decI (rL r)) = rT r
    rw [show decI (rL r) = r from decI_nd _ _]
  simp only [hmap2] at hlt
  have hDt := d_detK (sq := .nd .tup (rows.map rT)) (S := S4) true (sqv_tup _ S4) (by omega) hr hb hB
  refine ⟨some (.lst, rows.map rL), S4, some (.int (n : Nat)), some (.ref (T.length + 1)), some (.str (dR rows).shown), ?_, c5⟩
  unfold w1B
  rw [dSeq_ap, dSet_ap]
  have s1 : dFn d__law_draw (dCons (dVar 1) (dCons (dC (.int 6)) (dNil))) [sc, some (.ref 0), o2, o3, o4, o5, o6, o7, o8] S = .ok (.int (n : Nat)) S1 := by simp [a1]
  rw [s1, st_ok, seq_nx]
  show dSeq _ _ [sc, some (.ref 0), o2, some (.int (n : Nat)), o4, o5, o6, o7, o8] S1 = _
  rw [dSeq_ap, dSet_ap, hlc, st_ok, seq_nx]
  show dSeq _ _ [sc, some (.ref 0), o2, some (.int (n : Nat)), some (.ref (T.length + 1)), o5, o6, o7, o8] S4 = _
  rw [dSeq_ap, dSet_ap]
  have s2 : dApp reprP (dCons (dVar 4) (dNil)) [sc, some (.ref 0), o2, some (.int (n : Nat)), some (.ref (T.length + 1)), o5, o6, o7, o8] S4 = .ok (.str (dR rows).shown) S4 := by simp [hE]
  rw [s2, st_ok, seq_nx]
  show dSeq _ _ [sc, some (.ref 0), o2, some (.int (n : Nat)), some (.ref (T.length + 1)), o5, some (.str (dR rows).shown), o7, o8] S4 = _
  simp [hD, hU, hE, hlt, hDt, -dLc_ap]
theorem bound2 {n : Nat} (hn : n ≤ 40) : (n * (25 * 3 ^ 12) + 1) ^ n < DIVB :=
  lt_DIVB (k := 1300) (Nat.lt_of_le_of_lt (pow_le (a := n * (25 * 3 ^ 12) + 1) (c := 40 * (25 * 3 ^ 12)) (n := 40) (Nat.add_le_add_right (Nat.mul_le_mul_right _ hn) 1) hn) (by decide)) (by decide)
theorem in23 (i : Int) (S : Sto) : inZ false (.int i) (.nd .tup [.int 2, .int 3]) S = .ok (.bl (decide (i = 2 ∨ i = 3))) S := by
  have e : inB (.int i) [.int 2, .int 3] = decide (i = 2 ∨ i = 3) := by
    have e2 : ∀ k : Int, eqF (.int k) (.int i) = decide (i = k) := fun k => by
      show (k == i) = _
      rw [Bool.eq_iff_iff]
      rw [beq_iff_eq, decide_eq_true_eq]
      exact eq_comm
    simp [inB, e2]
  rw [← e]
  rfl
/-- a turn of the great squares -/
theorem w2_turn {m : Nat} {T S : Sto} (h : PenS m T S) (hm : m + 2000 ≤ 100000) {n : Nat} (h1 : 1 ≤ n) (hn : n ≤ 40) (sc o2 o4 o5 o6 o7 o8 : Option PV) :
    ∃ (x : Option (Kd × List PV)) (S' : Sto) (p4 p7 : Option PV), w2B [sc, some (.ref 0), o2, some (.int (n : Nat)), o4, o5, o6, o7, o8] S = .nx [sc, some (.ref 0), o2, some (.int (n : Nat)), p4, o5, o6, p7, o8] S' ∧ PenS (m + 2000) (T ++ [x]) S' := by
  obtain ⟨rows, S1, a1, a2, a3, a4⟩ := d_great h n h1 hn hm
  have hat := a4.last
  have hr : ∀ r ∈ rows, r.length = rows.length := fun r hr' => by rw [(a3 r hr').1, a2]
  have hb : ∀ r ∈ rows, ∀ v ∈ r, v.natAbs ≤ 25 * 3 ^ 12 := fun r hr' v hv => Nat.le_trans ((a3 r hr').2 v hv) (by decide)
  have hB := bound2 hn
  rw [← a2] at hB
  have hD := d_detK false (sqv_ref hat) (by omega) hr hb hB
  have hv : view (.ref (T.length + 1)) S1 = some (.lst, rows.map rL) := view_ref hat
  have hrl : rows.reverse.length = rows.length := List.length_reverse
  have hR := d_detK (sq := .nd .lst (rows.reverse.map rL)) (S := S1) false (sqv_lst _ S1) (by rw [hrl]; omega) (fun r hr' => by rw [hrl]; exact hr r (List.mem_reverse.mp hr')) (fun r hr' => hb r (List.mem_reverse.mp hr')) (by rw [hrl]; exact hB)
  rw [detI_rev, a2] at hR
  have hrev : revP (.ref (T.length + 1)) S1 = .ok (.nd .lst (rows.reverse.map rL)) S1 := by
    unfold revP lstOf
    rw [hv]
    rw [List.map_reverse]
  have hmod : modP (.int ((n : Nat) : Int)) (.int 4) S1 = .ok (.int (((n : Nat) : Int) % 4)) S1 := modP_int S1 _ _ (by decide)
  generalize rows.reverse.map rL = Z at hR hrev
  have hi : n - 1 < rows.length := by omega
  have hs : subZ (.ref (T.length + 1)) (.int ((n : Nat) - 1 : Int)) S1 = .ok (rL rows[n - 1]) S1 := by
    have e : ((n : Nat) : Int) - 1 = ((n - 1 : Nat) : Int) := by omega
    rw [e]
    refine subZ_ref S1 _ _ hat ?_
    rw [atI_ofNat, List.getElem?_map, List.getElem?_eq_getElem hi]
    rfl
  have hlc := dLc_pure (vs := [8]) (di := dItV (dBin subZ (dVar 4) (dBin subP (dVar 3) (dC (.int 1))))) (t := .nm 8) (el := dBin mulZ (dC (.int 5)) (dVar 8))
    (l := [sc, some (.ref 0), o2, some (.int (n : Nat)), some (.ref (T.length + 1)), o5, o6, some (.int (detI rows)), o8]) (S := S1) (it := ⟨rows[n - 1].map .int, []⟩) (fun x => match x with
      | .int i => .int (5 * i)
      | _ => .non) (by
      simp [hs]
      rfl) (heldB_nil S1) (by
        show (rows[n - 1].map PV.int).length ≤ _
        rw [List.length_map, hr _ (List.getElem_mem hi)]; omega) (by
      intro x hx
      obtain ⟨v, hv, rfl⟩ := List.mem_map.mp hx
      refine ⟨_, asg1, ?_⟩
      have mo : mulOk 5 v := mulOk_l (by decide)
      simp [setZ, mo])
  have hmap : (rows[n - 1].map PV.int).map (fun x => match x with
      | .int i => PV.int (5 * i)
      | _ => .non) = (rows[n - 1].map fun v => 5 * v).map .int := by
    rw [List.map_map, List.map_map]
    exact List.map_congr_left fun q _ => rfl
  simp only at hlc
  rw [hmap] at hlc
  have hlc' : dLc [8] (dItV (dBin subZ (dVar 4) (dBin subP (dVar 3) (dC (.int 1))))) (.nm 8) dYes (dBin mulZ (dC (.int 5)) (dVar 8)) [sc, some (.ref 0), o2, some (.int (n : Nat)), some (.ref (T.length + 1)), o5, o6, some (.int (detI rows)), o8] S1 = .ok (rL (rows[n - 1].map fun v => 5 * v)) S1 := hlc
  have p1 : putP (.ref (T.length + 1)) (.int 0) (rL (rows[n - 1].map fun v => 5 * v)) S1 = _ := putP_at (v := rL (rows[n - 1].map fun v => 5 * v)) (j := 0) hat (by rw [List.length_map]; omega)
  have e1 : (rows.map rL).set 0 (rL (rows[n - 1].map fun v => 5 * v)) = (rows.set 0 (rows[n - 1].map fun v => 5 * v)).map rL := by rw [List.map_set]
  rw [e1] at p1
  have P2 := a4.setLast (o' := some (.lst, (rows.set 0 (rows[n - 1].map fun v => 5 * v)).map rL))
  have hat2 := P2.last
  generalize hS2 : S1.set (T.length + 1) (some (Kd.lst, (rows.set 0 (rows[n - 1].map fun v => 5 * v)).map rL)) = S2 at p1 P2 hat2
  have hsl : (rows.set 0 (rows[n - 1].map fun v => 5 * v)).length = rows.length := List.length_set
  have hD2 := d_detK false (sqv_ref hat2) (by rw [hsl]; omega) (fun r hr' => by
    rw [hsl]
    rcases List.mem_or_eq_of_mem_set hr' with z | z
    · exact hr r z
    · rw [z, List.length_map]; exact hr _ (List.getElem_mem hi)) (B := 25 * 3 ^ 12) (fun r hr' v hv => by
    rcases List.mem_or_eq_of_mem_set hr' with z | z
    · exact hb r z v hv
    · rw [z] at hv
      obtain ⟨q, hq, rfl⟩ := List.mem_map.mp hv
      have := (a3 _ (List.getElem_mem hi)).2 q hq
      omega) (by rw [hsl]; exact hB)
  have hz : 1 < n → detI (rows.set 0 (rows[n - 1].map fun v => 5 * v)) = 0 := fun hn1 => detI_same 5 (j := n - 1) (by omega) (List.getElem?_eq_getElem hi)
  refine ⟨_, S2, some (.ref (T.length + 1)), some (.int (detI rows)), ?_, P2⟩
  unfold w2B
  rw [dSeq_ap]
  have s1 : dAsg (dFn d__law_great (dCons (dVar 1) (dCons (dVar 3) (dNil)))) (gzT [gzN 4, gzN 7]) [sc, some (.ref 0), o2, some (.int (n : Nat)), o4, o5, o6, o7, o8] S = .nx [sc, some (.ref 0), o2, some (.int (n : Nat)), some (.ref (T.length + 1)), o5, o6, some (.int (detI rows)), o8] S1 := by
    simp [a1]
  rw [s1, seq_nx, dSeq_ap]
  have s2 : (dIfS (dOrT (dB (dBin neZ (dFn d_determinant (dCons (dVar 4) (dNil))) (dVar 7))) (dB (dBin neZ (dFn d_determinant (dCons (dRev (dVar 4)) (dNil))) (dBin mulZ (dVar 7) (dIf (dB (dBin (inZ false) (dBin modP (dApp intP (dCons (dVar 3) (dNil))) (dC (.int 4))) (dTup (dCons (dC (.int 2)) (dCons (dC (.int 3)) (dNil)))))) (dUn negP (dC (.int 1))) (dC (.int 1))))))) (dRet (dC (.bl false))) (dSkip)) [sc, some (.ref 0), o2, some (.int (n : Nat)), some (.ref (T.length + 1)), o5, o6, some (.int (detI rows)), o8] S1 = .nx [sc, some (.ref 0), o2, some (.int (n : Nat)), some (.ref (T.length + 1)), o5, o6, some (.int (detI rows)), o8] S1 := by
    have mo : ∀ j : Int, j.natAbs ≤ 1 → mulOk (detI rows) j := fun j hj => mulOk_r (by omega)
    by_cases hc : ((n : Nat) : Int) % 4 = 2 ∨ ((n : Nat) : Int) % 4 = 3
    · have hc2 : n % 4 = 2 ∨ n % 4 = 3 := by omega
      rw [show Dt.sgr n = -1 from if_pos hc2] at hR
      have hm1 := mo (-1) (by decide)
      simp [hD, hrev, hR, in23, hc, mkNd, hmod, hm1]
    · have hc2 : ¬ (n % 4 = 2 ∨ n % 4 = 3) := by omega
      rw [show Dt.sgr n = 1 from if_neg hc2] at hR
      have hm1 := mo 1 (by decide)
      simp [hD, hrev, hR, in23, hc, mkNd, hmod, hm1]
  rw [s2, seq_nx, dSeq_ap]
  have s3 : dAsg (dLc [8] (dItV (dBin subZ (dVar 4) (dBin subP (dVar 3) (dC (.int 1))))) (.nm 8) (dYes) (dBin mulZ (dC (.int 5)) (dVar 8))) (gzI (dVar 4) (dC (.int 0))) [sc, some (.ref 0), o2, some (.int (n : Nat)), some (.ref (T.length + 1)), o5, o6, some (.int (detI rows)), o8] S1 = .nx [sc, some (.ref 0), o2, some (.int (n : Nat)), some (.ref (T.length + 1)), o5, o6, some (.int (detI rows)), o8] S2 := by
    rw [dAsg_ap, hlc', st_ok]
    simp [p1]
  rw [s3, seq_nx]
  by_cases hn1 : 1 < n
  · have e : (1 : Int) < (n : Nat) := by omega
    rw [hz hn1] at hD2
    simp [e, hn1, hD2]
  · have e : ¬ (1 : Int) < (n : Nat) := by omega
    simp [e, hn1]
end Z
end
end
section
set_option Elab.async false
set_option linter.all false
set_option maxRecDepth 100000
set_option maxHeartbeats 2000000
set_option exponentiation.threshold 100000
/-! K28K: the law of k28, joined. -/
noncomputable section
namespace Z
open PySem PySem.Spec PyProof.Rows L2

theorem law_good (ns : List Int) (h : ns.length ≤ 63) : ∃ S, d_law [.nd .scr (ns.map .int)] [] = .ok (.bl true) S := by
  have hpen := pen_ok h
  have h0 : PenS 0 [] [pn ns 0 0] := ⟨ns, 0, 0, rfl, by decide, by decide, by decide⟩
  generalize PV.nd .scr (ns.map .int) = sc at hpen ⊢
  have hl1 := forZ_inv (t := .nm 2) (hs := []) (b := w1B) (fun i l S => ∃ (T : Sto) (o2 o3 o4 o5 o6 o7 o8 : Option PV), PenS (i * 100) T S ∧ l = [some sc, some (.ref 0), o2, o3, o4, o5, o6, o7, o8]) (rngZ 0 6) 0
    [some sc, some (.ref 0), none, none, none, none, none, none, none] [pn ns 0 0] ⟨[], none, none, none, none, none, none, none, h0, rfl⟩ (by
      rintro i x l S' hx ⟨T, o2, o3, o4, o5, o6, o7, o8, hP, rfl⟩
      rw [Nat.zero_add] at hP ⊢
      obtain ⟨hi, rfl⟩ := rngZ_get hx
      obtain ⟨y, S2, p3, p4, p6, g1, g2⟩ := w1_turn hP (by omega) (some sc) (some (.int (0 + (i : Nat)))) o3 o4 o5 o6 o7 o8
      refine ⟨_, _, S2, asg1, g1, heldB_nil _, T ++ [y], _, _, _, _, _, _, _, ?_, rfl⟩
      have e : (i + 1) * 100 = i * 100 + 100 := by omega
      rw [e]; exact g2)
  obtain ⟨l1, S1, f1, T1, o2, o3, o4, o5, o6, o7, o8, hP1, rfl⟩ := hl1
  rw [rngZ_len, Nat.zero_add] at hP1
  obtain ⟨k, S2, k1, k2, k3⟩ := pickI (ns := [1, 20, 40]) hP1 (by omega) (by decide) (by decide)
  simp only [List.map_cons, List.map_nil] at k1
  have hk : ∃ n : Nat, k = (n : Nat) ∧ 1 ≤ n ∧ n ≤ 40 := by
    simp only [List.mem_cons, List.not_mem_nil, or_false] at k2
    rcases k2 with e | e | e
    · exact ⟨1, e, by decide, by decide⟩
    · exact ⟨20, e, by decide, by decide⟩
    · exact ⟨40, e, by decide, by decide⟩
  have hl2 := forZ_inv (t := .nm 3) (hs := []) (b := w2B) (fun i l S => ∃ (T : Sto) (o2 o3 o4 o5 o6 o7 o8 : Option PV), PenS (1000 + i * 2000) T S ∧ l = [some sc, some (.ref 0), o2, o3, o4, o5, o6, o7, o8]) [.int 6, .int 13, .int k] 0
    [some sc, some (.ref 0), o2, o3, o4, o5, o6, o7, o8] S2 ⟨T1, o2, o3, o4, o5, o6, o7, o8, k3.mono (by omega), rfl⟩ (by
      rintro i x l S' hx ⟨T, o2, o3, o4, o5, o6, o7, o8, hP, rfl⟩
      rw [Nat.zero_add] at hP ⊢
      have hx2 : i < 3 ∧ ∃ n : Nat, x = .int (n : Nat) ∧ 1 ≤ n ∧ n ≤ 40 := by
        have hi : i < 3 := (List.getElem?_eq_some_iff.mp hx).1
        have hm := List.mem_of_getElem? hx
        refine ⟨hi, ?_⟩
        rcases List.mem_cons.mp hm with e | hm
        · exact ⟨6, e, by decide, by decide⟩
        rcases List.mem_cons.mp hm with e | hm
        · exact ⟨13, e, by decide, by decide⟩
        obtain ⟨n, e2, q1, q2⟩ := hk
        exact ⟨n, by rw [← e2]; exact List.mem_singleton.mp hm, q1, q2⟩
      obtain ⟨hi, n, rfl, q1, q2⟩ := hx2
      obtain ⟨y, S2, p4, p7, g1, g2⟩ := w2_turn hP (by omega) q1 q2 (some sc) o2 o4 o5 o6 o7 o8
      refine ⟨_, _, S2, asg1, g1, heldB_nil _, T ++ [y], _, _, _, _, _, _, _, ?_, rfl⟩
      have e : 1000 + (i + 1) * 2000 = 1000 + i * 2000 + 2000 := by omega
      rw [e]; exact g2)
  obtain ⟨l2, S3, f2, T2, u2, u3, u4, u5, u6, u7, u8, hP2, rfl⟩ := hl2
  have hlen := hP2.len
  -- the four small squares
  have dn : d_determinant [.nd .lst []] S3 = .ok (.int 1) S3 := d_detK (rows := []) (B := 0) false (sqv_lst _ S3) (by decide) (fun r hr => nomatch hr) (fun r hr => nomatch hr) (lt_DIVB (k := 8) (by decide) (by decide))
  have dt : d_determinant [.nd .tup []] S3 = .ok (.int 1) S3 := d_detK (rows := []) (B := 0) true (sqv_tup _ S3) (by decide) (fun r hr => nomatch hr) (fun r hr => nomatch hr) (lt_DIVB (k := 8) (by decide) (by decide))
  have d0 : d_determinant [.nd .lst [.nd .lst [.int 0]]] S3 = .ok (.int 0) S3 := d_detK (rows := [[0]]) (B := 0) false (sqv_lst _ S3) (by decide) (by decide) (by decide) (lt_DIVB (k := 8) (by decide) (by decide))
  have d1 : d_determinant [.nd .lst [.nd .tup [.int 0, .int 1], .nd .lst [.int 1, .int 0]]] S3 = .ok (.int (-1)) S3 := d_det (rows := [(true, [0, 1]), (false, [1, 0])]) (B := 1) (sqv_lst _ S3) (by decide) (by decide) (by decide) (lt_DIVB (k := 8) (by decide) (by decide))
  have heq : eqZ (.nd .lst [.int 1, .int 1, .int 0, .int (-1)]) (.nd .lst [.int 1, .int 1, .int 0, .int (-1)]) S3 = .ok (.bl true) S3 := by
    show eqD (.nd .lst (([1, 1, 0, -1] : List Int).map .int)) (.nd .lst (([1, 1, 0, -1] : List Int).map .int)) S3 = _
    unfold eqD datS view
    simp only [dat, datL_ints, Option.map_some, shaped_ints, and_self, if_true]
    rfl
  have hit : ∀ l S, dItA rngP (dCons (dC (.int 6)) dNil) l S = .ok ⟨rngZ 0 6, []⟩ S := fun l S => by
    have := rngP_nat 6 S (by decide)
    have this : rngP [.int 6] S = .ok ⟨rngZ 0 6, []⟩ S := this
    simp [this]
  have hit2 : dItV (dTup (dCons (dC (.int 6)) (dCons (dC (.int 13)) (dCons (dFn d__law_pick (dCons (dVar 1) (dCons (dLst (dCons (dC (.int 1)) (dCons (dC (.int 20)) (dCons (dC (.int 40)) (dNil))))) (dNil)))) (dNil))))) [some sc, some (.ref 0), o2, o3, o4, o5, o6, o7, o8] S1 = .ok ⟨[.int 6, .int 13, .int k], []⟩ S2 := by
    simp [mkNd, k1]
  have hbody : b_law [some sc, none, none, none, none, none, none, none, none] [] = .ret (.bl true) S3 := by
    rw [law_eq, dSeq_ap]
    have s1 : dSet 1 (dFn d__law_pen (dCons (dVar 0) (dNil))) [some sc, none, none, none, none, none, none, none, none] [] = .nx [some sc, some (.ref 0), none, none, none, none, none, none, none] [pn ns 0 0] := by simp [hpen]
    rw [s1, seq_nx, dSeq_ap, dFor_eq (hit _ _) (heldB_nil _), f1, seq_nx, dSeq_ap, dFor_ap, hit2, st_ok, if_pos (heldB_nil S2), f2, seq_nx]
    simp [mkNd, dn, dt, d0, d1, heq]
  refine ⟨[], dDef_thaw [] b_law (S1 := S3) (v := .bl true) (w := .bl true) rfl hbody (by rw [hlen]; simp) rfl ?_⟩
  exact fitsS_pre (List.nil_prefix)
end Z
end
end
section
set_option Elab.async false
set_option linter.all false
set_option maxRecDepth 100000
set_option maxHeartbeats 0
noncomputable section
namespace Z
open PySem PySem.Spec PyProof.Rows L2
def top (i : Nat) : Stmt := PySem.Challenge.pw_sumdigits_k28_determinants.main.body.getD i (.Pass ⟨0, 0, 0, 0⟩)
def hd0 : He.DefD := ⟨("is_integer", none), "is_integer", "is_integer", defArgs (top 1), defBody (top 1), defScope (top 1), [], []⟩
def hd1 : He.DefD := ⟨("first_place", none), "first_place", "first_place", defArgs (top 7), defBody (top 7), defScope (top 7), [], []⟩
def hd2 : He.DefD := ⟨("led_line", none), "led_line", "led_line", defArgs (top 8), defBody (top 8), defScope (top 8), [], []⟩
def hd3 : He.DefD := ⟨("is_square", none), "is_square", "is_square", defArgs (top 9), defBody (top 9), defScope (top 9), [], []⟩
def hd4 : He.DefD := ⟨("determinant", none), "determinant", "determinant", defArgs (top 10), defBody (top 10), defScope (top 10), [], []⟩
def hd5 : He.DefD := ⟨("_law_pen", none), "_law_pen", "_law_pen", defArgs (top 12), defBody (top 12), defScope (top 12), [], []⟩
def hd6 : He.DefD := ⟨("_law_draw", none), "_law_draw", "_law_draw", defArgs (top 13), defBody (top 13), defScope (top 13), [], []⟩
def hd7 : He.DefD := ⟨("_law_pick", none), "_law_pick", "_law_pick", defArgs (top 14), defBody (top 14), defScope (top 14), [], []⟩
def hd8 : He.DefD := ⟨("_law_row", none), "_law_row", "_law_row", defArgs (top 15), defBody (top 15), defScope (top 15), [], []⟩
def hd9 : He.DefD := ⟨("_law_mixed", none), "_law_mixed", "_law_mixed", defArgs (top 16), defBody (top 16), defScope (top 16), [], []⟩
def hd10 : He.DefD := ⟨("_law_rows", none), "_law_rows", "_law_rows", defArgs (top 17), defBody (top 17), defScope (top 17), [], []⟩
def hd11 : He.DefD := ⟨("_law_due", none), "_law_due", "_law_due", defArgs (top 18), defBody (top 18), defScope (top 18), [], []⟩
def hd12 : He.DefD := ⟨("_law_great", none), "_law_great", "_law_great", defArgs (top 19), defBody (top 19), defScope (top 19), [], []⟩
def hd13 : He.DefD := ⟨("law", none), "law", "law", defArgs (top 20), defBody (top 20), defScope (top 20), [], []⟩
def fnl : List He.DefD := ([hd0, hd1, hd2, hd3, hd4, hd5, hd6, hd7, hd8, hd9, hd10, hd11, hd12, hd13] : List He.DefD)
def fal : List He.Fa := ([.free "int", .free "isinstance", .free "bool", .glo "is_integer", .free "enumerate", .glo "first_place", .free "zip", .glo "led_line", .free "tuple", .free "list", .free "len", .int "MOST_SQUARE" (40), .free "all", .glo "is_square", .glo "determinant", .glo "_law_pen", .free "abs", .glo "_law_draw", .glo "_law_pick", .free "range", .glo "_law_row", .glo "_law_mixed", .glo "_law_rows", .glo "_law_due", .glo "_law_great", .free "repr", .glo "law"] : List He.Fa)
def names : List PySem.Str := (["__name__", "is_integer", "SumError", "BadNumber", "MOST_SQUARE", "first_place", "led_line", "is_square", "determinant", "_law_pen", "_law_draw", "_law_pick", "_law_row", "_law_mixed", "_law_rows", "_law_due", "_law_great"] : List PySem.Str)
structure Gd (K : PySem.W.Frag) (mg : Str → Option Value) : Prop where
  c : He.SaysD fal fnl K
  at_ : ∃ h : Heap, K.In h ∧ h.Ns mainGlobals mg
section
variable {K : PySem.W.Frag} {mg : Str → Option Value}
theorem Gd.glo (g : Gd K mg) (i : Nat) {x : Str} (h : fal[i]? = some (.glo x) := by rfl) : mg x = some (.ref (He.ga K x)) := let ⟨_, a, b⟩ := g.at_; He.glo_ok a b (g.c.fact i h)
theorem Gd.free (g : Gd K mg) (i : Nat) {x : Str} (h : fal[i]? = some (.free x) := by rfl) : mg x = none := let ⟨_, a, b⟩ := g.at_; He.free_ok a b (g.c.fact i h)
theorem Gd.int (g : Gd K mg) (i : Nat) {x : Str} {v : Int} (h : fal[i]? = some (.int x v) := by rfl) : ∃ t, mg x = some (.int v t) := let ⟨_, a, b⟩ := g.at_; He.int_ok a b (g.c.fact i h)
theorem Gd.str (g : Gd K mg) (i : Nat) {x z : Str} (h : fal[i]? = some (.str x z) := by rfl) : ∃ t, mg x = some (.str z t) := let ⟨_, a, b⟩ := g.at_; He.str_ok a b (g.c.fact i h)
end
section
variable {P : Program} {w : World} {K : PySem.W.Frag} {mg : Str → Option Value} {base : Heap}
abbrev nm_is_integer : List Str := ["value"]
theorem sc_is_integer : FnScope ["value"] ["value"] (defScope (top 1)) := ⟨rfl, rfl, rfl, by decide +kernel, rfl, by decide +kernel, by decide +kernel⟩
theorem fn_is_integer (g : Gd K mg) : Fn T0 P w K mg base 1 "is_integer" ["value"] d_is_integer := by
  obtain ⟨fd, F⟩ := g.c.def_ 0 (d := hd0) rfl
  refine ⟨⟨_, fd, (g.glo 3), F.kp, fng_of F sc_is_integer fun cdv A outer s H E c => ?_, F.bindsN (fun _ _ _ _ _ _ us hl => match us, hl with | [_], _ => rfl), kw_of F (fun _ _ _ _ _ _ ws hl => match ws, hl with | [_], _ => rfl)⟩, arity_d⟩
  exact jb_one (js_ret (je_and (je_callB cr_isi cz_isi (g.free 1) (ja_cons (je_var 0) (ja_cons (je_ty (g.free 0) rfl) (ja_nil)))) (je_one (je_not (je_callB cr_isi cz_isi (g.free 1) (ja_cons (je_var 0) (ja_cons (je_ty (g.free 2) rfl) (ja_nil))))))))
abbrev nm_first_place : List Str := ["row", "at", "number"]
theorem sc_first_place : FnScope ["row", "at", "number"] ["row"] (defScope (top 7)) := ⟨rfl, rfl, rfl, by decide +kernel, rfl, by decide +kernel, by decide +kernel⟩
theorem fn_first_place (g : Gd K mg) : Fn T0 P w K mg base 1 "first_place" ["row"] d_first_place := by
  obtain ⟨fd, F⟩ := g.c.def_ 1 (d := hd1) rfl
  refine ⟨⟨_, fd, (g.glo 5), F.kp, fng_of F sc_first_place fun cdv A outer s H E c => ?_, F.bindsN (fun _ _ _ _ _ _ us hl => match us, hl with | [_], _ => rfl), kw_of F (fun _ _ _ _ _ _ ws hl => match ws, hl with | [_], _ => rfl)⟩, arity_d⟩
  exact jb_cons (js_for c.own c.calm (ji_enu (g.free 4) (ja_cons (je_var 0) (ja_nil))) (jg_t c.calm (jgs_cons (jg_n 1 c.nd) (jgs_cons (jg_n 2 c.nd) (jgs_nil)))) (jb_one (js_if (jt_cmp (op_neZ c.hu) oz_ne (je_var 2) (je_int)) (jb_one (js_ret (je_var 1))) (jb_nil)))) (jb_one (js_ret (je_non)))
abbrev nm_led_line : List Str := ["first", "line", "last", "left", "right"]
theorem sc_led_line : FnScope ["first", "line", "last", "left", "right"] ["first", "line", "last"] (defScope (top 8)) := ⟨rfl, rfl, rfl, by decide +kernel, rfl, by decide +kernel, by decide +kernel⟩
theorem fn_led_line (g : Gd K mg) : Fn T0 P w K mg base 1 "led_line" ["first", "line", "last"] d_led_line := by
  obtain ⟨fd, F⟩ := g.c.def_ 2 (d := hd2) rfl
  refine ⟨⟨_, fd, (g.glo 7), F.kp, fng_of F sc_led_line fun cdv A outer s H E c => ?_, F.bindsN (fun _ _ _ _ _ _ us hl => match us, hl with | [_, _, _], _ => rfl), kw_of F (fun _ _ _ _ _ _ ws hl => match ws, hl with | [_, _, _], _ => rfl)⟩, arity_d⟩
  exact jb_one (js_ret (je_lc [("left", 3), ("right", 4)] c.calm c.nd (ji_zip (g.free 6) (ja_cons (je_sli (je_var 0) (jo_some (je_int)) (jo_none)) (ja_cons (je_sli (je_var 1) (jo_some (je_int)) (jo_none)) (ja_nil)))) ⟨fun _ _ _ _ _ => jg_t c.blk.calm (jgs_cons (jg_n 3 c.blk.nd) (jgs_cons (jg_n 4 c.blk.nd) (jgs_nil))), fun _ _ _ _ _ => jts_nil, fun _ _ _ _ _ => je_bin op_divZ oz_div (je_bin op_sub oz_sub (je_bin op_mulA oz_mul (je_sub c.blk.hu1 (je_var 0) (je_int)) (je_var 4)) (je_bin op_mulA oz_mul (je_sub c.blk.hu1 (je_var 1) (je_int)) (je_var 3))) (je_var 2)⟩ (blkOk_by (N := nm_led_line) (sc := defScope (top 8)) (by decide +kernel))))
abbrev nm_is_square : List Str := ["value", "row", "one"]
theorem sc_is_square : FnScope ["value", "row", "one"] ["value"] (defScope (top 9)) := ⟨rfl, rfl, rfl, by decide +kernel, rfl, by decide +kernel, by decide +kernel⟩
theorem fn_is_square (g : Gd K mg) : Fn T0 P w K mg base 2 "is_square" ["value"] d_is_square := by
  obtain ⟨fd, F⟩ := g.c.def_ 3 (d := hd3) rfl
  refine ⟨⟨_, fd, (g.glo 13), F.kp, fng_of F sc_is_square fun cdv A outer s H E c => ?_, F.bindsN (fun _ _ _ _ _ _ us hl => match us, hl with | [_], _ => rfl), kw_of F (fun _ _ _ _ _ _ ws hl => match ws, hl with | [_], _ => rfl)⟩, arity_d⟩
  exact jb_cons (js_if ((jw_or (jt_not (jt_tru (je_callB cr_isi cz_isi (g.free 1) (ja_cons (je_var 0) (ja_cons (je_tup (ja_cons (je_ty (g.free 9) rfl) (ja_cons (je_ty (g.free 8) rfl) (ja_nil)))) (ja_nil)))))) (jw_or1 (jt_cmp op_gtZ oz_gt (je_callB cr_len cz_len (g.free 10) (ja_cons (je_var 0) (ja_nil))) (je_gint (g.int 11))))).pt) (jb_one (js_ret (je_bl))) (jb_nil)) (jb_cons (js_for c.own c.calm (ji_val (je_var 0)) (jg_n 1 c.nd) (jb_one (js_if ((jw_or (jt_not (jt_tru (je_callB cr_isi cz_isi (g.free 1) (ja_cons (je_var 1) (ja_cons (je_tup (ja_cons (je_ty (g.free 9) rfl) (ja_cons (je_ty (g.free 8) rfl) (ja_nil)))) (ja_nil)))))) (jw_or (jt_cmp (op_neZ c.hu) oz_ne (je_callB cr_len cz_len (g.free 10) (ja_cons (je_var 1) (ja_nil))) (je_callB cr_len cz_len (g.free 10) (ja_cons (je_var 0) (ja_nil)))) (jw_or1 (jt_not (jt_tru (je_callB (cr_all c.calm) cz_all (g.free 12) (ja_cons (je_lc [("one", 2)] c.calm c.nd (ji_val (je_var 1)) ⟨fun _ _ _ _ _ => jg_n 2 c.blk.nd, fun _ _ _ _ _ => jts_nil, fun _ _ _ _ _ => je_fn c.blk (fn_is_integer g) (ja_cons (je_var 2) (ja_nil)) (by decide)⟩ (blkOk_by (N := nm_is_square) (sc := defScope (top 9)) (by decide +kernel))) (ja_nil)))))))).pt) (jb_one (js_ret (je_bl))) (jb_nil)))) (jb_one (js_ret (je_bl))))
abbrev nm_determinant : List Str := ["square", "lines", "sign", "last", "row", "at", "line", "first"]
theorem sc_determinant : FnScope ["square", "lines", "sign", "last", "row", "at", "line", "first"] ["square"] (defScope (top 10)) := ⟨rfl, rfl, rfl, by decide +kernel, rfl, by decide +kernel, by decide +kernel⟩
theorem fn_determinant (g : Gd K mg) : Fn T0 P w K mg base 3 "determinant" ["square"] d_determinant := by
  obtain ⟨fd, F⟩ := g.c.def_ 4 (d := hd4) rfl
  refine ⟨⟨_, fd, (g.glo 14), F.kp, fng_of F sc_determinant fun cdv A outer s H E c => ?_, F.bindsN (fun _ _ _ _ _ _ us hl => match us, hl with | [_], _ => rfl), kw_of F (fun _ _ _ _ _ _ ws hl => match ws, hl with | [_], _ => rfl)⟩, arity_d⟩
  exact jb_cons (js_if (jt_not (jt_tru (je_fn c (fn_is_square g) (ja_cons (je_var 0) (ja_nil)) (by decide)))) (jb_one (js_never)) (jb_nil)) (jb_cons (js_asg (je_tup (ja_cons (je_lcM [("row", 4)] c.calm c.nd (ji_val (je_var 0)) ⟨fun _ _ _ _ _ => jg_n 4 c.blk.nd, fun _ _ _ _ _ => jts_nil, fun _ _ _ _ _ => je_callT call_list_of cz_list (g.free 9) (ja_cons (je_var 4) (ja_nil))⟩ (blkOk_by (N := nm_determinant) (sc := defScope (top 10)) (by decide +kernel))) (ja_cons (je_int) (ja_cons (je_int) (ja_nil))))) (jgz_t c.calm (jgzs_cons (jgz_n 1 c.nd) (jgzs_cons (jgz_n 2 c.nd) (jgzs_cons (jgz_n 3 c.nd) (jgzs_nil)))))) (jb_cons (js_while c.own (jt_cmp (op_neZ c.hu) oz_ne (je_var 1) (je_lst (ja_nil))) (jb_cons (js_set 5 c.nd (je_fn c (fn_first_place g) (ja_cons (je_lc [("line", 6)] c.calm c.nd (ji_val (je_var 1)) ⟨fun _ _ _ _ _ => jg_n 6 c.blk.nd, fun _ _ _ _ _ => jts_nil, fun _ _ _ _ _ => je_sub c.blk.hu1 (je_var 6) (je_int)⟩ (blkOk_by (N := nm_determinant) (sc := defScope (top 10)) (by decide +kernel))) (ja_nil)) (by decide))) (jb_cons (js_if (jt_cmp op_isZ oz_is (je_var 5) (je_non)) (jb_one (js_ret (je_int))) (jb_nil)) (jb_cons (js_if (jt_cmp op_gtZ oz_gt (je_var 5) (je_int)) (jb_cons (js_asg (je_tup (ja_cons (je_sub c.hu1 (je_var 1) (je_var 5)) (ja_cons (je_sub c.hu1 (je_var 1) (je_int)) (ja_nil)))) (jgz_t c.calm (jgzs_cons (jgz_i (E := E) (je_var 1) (je_int)) (jgzs_cons (jgz_i (E := E) (je_var 1) (je_var 5)) (jgzs_nil))))) (jb_one (js_set 2 c.nd (je_bin op_sub oz_sub (je_int) (je_var 2))))) (jb_nil)) (jb_cons (js_set 7 c.nd (je_sub c.hu1 (je_var 1) (je_int))) (jb_cons (js_setLcM 1 [("line", 6)] c.calm c.nd (ji_val (je_sli (je_var 1) (jo_some (je_int)) (jo_none))) ⟨fun _ _ _ _ _ => jg_n 6 c.blk.nd, fun _ _ _ _ _ => jts_nil, fun _ _ _ _ _ => je_fn c.blk (fn_led_line g) (ja_cons (je_var 7) (ja_cons (je_var 6) (ja_cons (je_var 3) (ja_nil)))) (by decide)⟩ (blkOk_by (N := nm_determinant) (sc := defScope (top 10)) (by decide +kernel))) (jb_one (js_set 3 c.nd (je_sub c.hu1 (je_var 7) (je_int)))))))))) (jb_one (js_ret (je_bin op_mulA oz_mul (je_var 2) (je_var 3))))))
abbrev nm__law_pen : List Str := ["_law_script"]
theorem sc__law_pen : FnScope ["_law_script"] ["_law_script"] (defScope (top 12)) := ⟨rfl, rfl, rfl, by decide +kernel, rfl, by decide +kernel, by decide +kernel⟩
theorem fn__law_pen (g : Gd K mg) : Fn T0 P w K mg base 1 "_law_pen" ["_law_script"] d__law_pen := by
  obtain ⟨fd, F⟩ := g.c.def_ 5 (d := hd5) rfl
  refine ⟨⟨_, fd, (g.glo 15), F.kp, fng_of0 F sc__law_pen fun cdv A outer s H E c => ?_, F.bindsN (fun _ _ _ _ _ _ us hl => match us, hl with | [_], _ => rfl), kw_of F (fun _ _ _ _ _ _ ws hl => match ws, hl with | [_], _ => rfl)⟩, arity_0⟩
  exact jb_one (js_ret (je_lstM (ja_cons (je_callT call_list_of cz_list (g.free 9) (ja_cons (je_sli (je_var 0) (jo_none) (jo_some (je_int))) (ja_nil))) (ja_cons (je_int) (ja_cons (je_int) (ja_nil))))))
abbrev nm__law_draw : List Str := ["_law_pen_here", "_law_many", "_law_digit", "_law_at", "_law_cell", "_law_great_here", "_law_stirred"]
theorem sc__law_draw : FnScope ["_law_pen_here", "_law_many", "_law_digit", "_law_at", "_law_cell", "_law_great_here", "_law_stirred"] ["_law_pen_here", "_law_many"] (defScope (top 13)) := ⟨rfl, rfl, rfl, by decide +kernel, rfl, by decide +kernel, by decide +kernel⟩
theorem fn__law_draw (g : Gd K mg) : Fn T0 P w K mg base 1 "_law_draw" ["_law_pen_here", "_law_many"] d__law_draw := by
  obtain ⟨fd, F⟩ := g.c.def_ 6 (d := hd6) rfl
  refine ⟨⟨_, fd, (g.glo 17), F.kp, fng_of F sc__law_draw fun cdv A outer s H E c => ?_, F.bindsN (fun _ _ _ _ _ _ us hl => match us, hl with | [_, _], _ => rfl), kw_of F (fun _ _ _ _ _ _ ws hl => match ws, hl with | [_, _], _ => rfl)⟩, arity_d⟩
  exact jb_cons (js_if (jt_cmp op_gtZ oz_gt (je_sub c.hu1 (je_var 0) (je_int)) (je_int)) (jb_cons (js_set 2 c.nd (je_bin op_modN oz_mod (je_callT call_int1 cz_int (g.free 0) (ja_cons (je_sub c.hu1 (je_var 0) (je_int)) (ja_nil))) (je_var 1))) (jb_cons (js_asg (je_bin op_divZ oz_div (je_callT call_int1 cz_int (g.free 0) (ja_cons (je_sub c.hu1 (je_var 0) (je_int)) (ja_nil))) (je_var 1)) (jgz_i (E := E) (je_var 0) (je_int))) (jb_one (js_ret (je_var 2))))) (jb_nil)) (jb_cons (js_set 3 c.nd (je_sub c.hu1 (je_var 0) (je_int))) (jb_cons (js_asg (je_bin op_addZ oz_add (je_var 3) (je_int)) (jgz_i (E := E) (je_var 0) (je_int))) (jb_cons (js_set 4 c.nd (je_bin op_addZ oz_add (je_bin op_mulA oz_mul (je_int) (je_var 3)) (je_int))) (jb_cons (js_if (jt_cmp (op_neZ c.hu) oz_ne (je_sub c.hu1 (je_var 0) (je_int)) (je_lst (ja_nil))) (jb_one (js_set 4 c.nd (je_sub c.hu1 (je_sub c.hu1 (je_var 0) (je_int)) (je_bin op_modN oz_mod (je_callT call_int1 cz_int (g.free 0) (ja_cons (je_var 3) (ja_nil))) (je_callB cr_len cz_len (g.free 10) (ja_cons (je_sub c.hu1 (je_var 0) (je_int)) (ja_nil))))))) (jb_nil)) (jb_cons (js_if ((jw_and (jt_cmp op_ltZ oz_lt (je_var 3) (je_callB cr_len cz_len (g.free 10) (ja_cons (je_sub c.hu1 (je_var 0) (je_int)) (ja_nil)))) (jw_and1 (jt_cmp op_geZ oz_ge (je_callB call_abs cz_abs (g.free 16) (ja_cons (je_var 4) (ja_nil))) (je_bin op_pow oz_pow (je_int) (je_int))))).pt) (jb_cons (js_set 5 c.nd (je_bin op_addZ oz_add (je_bin op_mulA oz_mul (je_int) (je_bin op_sub oz_sub (je_callB call_abs cz_abs (g.free 16) (ja_cons (je_var 4) (ja_nil))) (je_bin op_pow oz_pow (je_int) (je_int)))) (je_callT call_int1 cz_int (g.free 0) (ja_cons (je_cmp op_ltZ oz_lt (je_var 4) (je_int)) (ja_nil))))) (jb_cons (js_asg (je_bin op_divZ oz_div (je_callT call_int1 cz_int (g.free 0) (ja_cons (je_var 5) (ja_nil))) (je_var 1)) (jgz_i (E := E) (je_var 0) (je_int))) (jb_one (js_ret (je_bin op_modN oz_mod (je_callT call_int1 cz_int (g.free 0) (ja_cons (je_var 5) (ja_nil))) (je_var 1)))))) (jb_nil)) (jb_cons (js_set 6 c.nd (je_bin op_modN oz_mod (je_callT call_int1 cz_int (g.free 0) (ja_cons (je_bin op_pow oz_pow (je_bin op_addZ oz_add (je_bin op_addZ oz_add (je_bin op_modN oz_mod (je_callT call_int1 cz_int (g.free 0) (ja_cons (je_var 4) (ja_nil))) (je_int)) (je_bin op_mulA oz_mul (je_int) (je_var 3))) (je_int)) (je_int)) (ja_nil))) (je_int))) (jb_cons (js_set 6 c.nd (je_bin op_modN oz_mod (je_callT call_int1 cz_int (g.free 0) (ja_cons (je_bin op_pow oz_pow (je_bin op_addZ oz_add (je_bin op_addZ oz_add (je_bin op_mulA oz_mul (je_var 6) (je_bin op_addZ oz_add (je_bin op_mulA oz_mul (je_int) (je_var 3)) (je_int))) (je_bin op_mulA oz_mul (je_bin op_mulA oz_mul (je_int) (je_var 3)) (je_var 3))) (je_int)) (je_int)) (ja_nil))) (je_int))) (jb_one (js_ret (je_bin op_modN oz_mod (je_callT call_int1 cz_int (g.free 0) (ja_cons (je_bin op_divZ oz_div (je_var 6) (je_int)) (ja_nil))) (je_var 1)))))))))))
abbrev nm__law_pick : List Str := ["_law_pen_here", "_law_some"]
theorem sc__law_pick : FnScope ["_law_pen_here", "_law_some"] ["_law_pen_here", "_law_some"] (defScope (top 14)) := ⟨rfl, rfl, rfl, by decide +kernel, rfl, by decide +kernel, by decide +kernel⟩
theorem fn__law_pick (g : Gd K mg) : Fn T0 P w K mg base 2 "_law_pick" ["_law_pen_here", "_law_some"] d__law_pick := by
  obtain ⟨fd, F⟩ := g.c.def_ 7 (d := hd7) rfl
  refine ⟨⟨_, fd, (g.glo 18), F.kp, fng_of F sc__law_pick fun cdv A outer s H E c => ?_, F.bindsN (fun _ _ _ _ _ _ us hl => match us, hl with | [_, _], _ => rfl), kw_of F (fun _ _ _ _ _ _ ws hl => match ws, hl with | [_, _], _ => rfl)⟩, arity_d⟩
  exact jb_one (js_ret (je_sub c.hu1 (je_var 1) (je_fn c (fn__law_draw g) (ja_cons (je_var 0) (ja_cons (je_callB cr_len cz_len (g.free 10) (ja_cons (je_var 1) (ja_nil))) (ja_nil))) (by decide))))
abbrev nm__law_row : List Str := ["_law_pen_here", "_law_width", "_law_wide", "_law_some", "_law_place"]
theorem sc__law_row : FnScope ["_law_pen_here", "_law_width", "_law_wide", "_law_some", "_law_place"] ["_law_pen_here", "_law_width", "_law_wide"] (defScope (top 15)) := ⟨rfl, rfl, rfl, by decide +kernel, rfl, by decide +kernel, by decide +kernel⟩
theorem fn__law_row (g : Gd K mg) : Fn T0 P w K mg base 3 "_law_row" ["_law_pen_here", "_law_width", "_law_wide"] d__law_row := by
  obtain ⟨fd, F⟩ := g.c.def_ 8 (d := hd8) rfl
  refine ⟨⟨_, fd, (g.glo 20), F.kp, fng_of F sc__law_row fun cdv A outer s H E c => ?_, F.bindsN (fun _ _ _ _ _ _ us hl => match us, hl with | [_, _, _], _ => rfl), kw_of F (fun _ _ _ _ _ _ ws hl => match ws, hl with | [_, _, _], _ => rfl)⟩, arity_d⟩
  exact jb_cons (js_set 3 c.nd (je_bin op_addZ oz_add (je_lst (ja_cons (je_int) (ja_cons (je_int) (ja_cons (je_int) (ja_cons (je_neg (je_int)) (ja_cons (je_int) (ja_cons (je_neg (je_int)) (ja_cons (je_int) (ja_cons (je_int) (ja_nil)))))))))) (je_if (jt_tru (je_var 2)) (je_lst (ja_cons (je_bin op_pow oz_pow (je_int) (je_int)) (ja_cons (je_bin op_addZ oz_add (je_neg (je_bin op_pow oz_pow (je_int) (je_int))) (je_int)) (ja_cons (je_bin op_mulA oz_mul (je_int) (je_bin op_pow oz_pow (je_int) (je_int))) (ja_nil))))) (je_lst (ja_nil))))) (jb_one (js_ret (je_callT call_tuple_of cz_tup (g.free 8) (ja_cons (je_lc [("_law_place", 4)] c.calm c.nd (ji_rng1 (g.free 19) (ja_cons (je_var 1) (ja_nil))) ⟨fun _ _ _ _ _ => jg_n 4 c.blk.nd, fun _ _ _ _ _ => jts_nil, fun _ _ _ _ _ => je_fn c.blk (fn__law_pick g) (ja_cons (je_var 0) (ja_cons (je_var 3) (ja_nil))) (by decide)⟩ (blkOk_by (N := nm__law_row) (sc := defScope (top 15)) (by decide +kernel))) (ja_nil)))))
abbrev nm__law_mixed : List Str := ["_law_pen_here", "_law_rows_here", "_law_width", "_law_found", "_law_row_here", "_law_times", "_law_here", "_law_there"]
theorem sc__law_mixed : FnScope ["_law_pen_here", "_law_rows_here", "_law_width", "_law_found", "_law_row_here", "_law_times", "_law_here", "_law_there"] ["_law_pen_here", "_law_rows_here", "_law_width"] (defScope (top 16)) := ⟨rfl, rfl, rfl, by decide +kernel, rfl, by decide +kernel, by decide +kernel⟩
theorem fn__law_mixed (g : Gd K mg) : Fn T0 P w K mg base 3 "_law_mixed" ["_law_pen_here", "_law_rows_here", "_law_width"] d__law_mixed := by
  obtain ⟨fd, F⟩ := g.c.def_ 9 (d := hd9) rfl
  refine ⟨⟨_, fd, (g.glo 21), F.kp, fng_of F sc__law_mixed fun cdv A outer s H E c => ?_, F.bindsN (fun _ _ _ _ _ _ us hl => match us, hl with | [_, _, _], _ => rfl), kw_of F (fun _ _ _ _ _ _ ws hl => match ws, hl with | [_, _, _], _ => rfl)⟩, arity_d⟩
  exact jb_cons (js_set 3 c.nd (je_bin op_mulA oz_mul (je_lst (ja_cons (je_int) (ja_nil))) (je_var 2))) (jb_cons (js_for c.own c.calm (ji_val (je_var 1)) (jg_n 4 c.nd) (jb_cons (js_set 5 c.nd (je_fn c (fn__law_pick g) (ja_cons (je_var 0) (ja_cons (je_lst (ja_cons (je_int) (ja_cons (je_int) (ja_cons (je_neg (je_int)) (ja_cons (je_int) (ja_cons (je_int) (ja_nil))))))) (ja_nil))) (by decide))) (jb_one (js_setLc 3 [("_law_here", 6), ("_law_there", 7)] c.calm c.nd (ji_zip (g.free 6) (ja_cons (je_var 3) (ja_cons (je_var 4) (ja_nil)))) ⟨fun _ _ _ _ _ => jg_t c.blk.calm (jgs_cons (jg_n 6 c.blk.nd) (jgs_cons (jg_n 7 c.blk.nd) (jgs_nil))), fun _ _ _ _ _ => jts_nil, fun _ _ _ _ _ => je_bin op_addZ oz_add (je_var 6) (je_bin op_mulA oz_mul (je_var 5) (je_var 7))⟩ (blkOk_by (N := nm__law_mixed) (sc := defScope (top 16)) (by decide +kernel)))))) (jb_one (js_ret (je_callT call_tuple_of cz_tup (g.free 8) (ja_cons (je_var 3) (ja_nil))))))
abbrev nm__law_rows : List Str := ["_law_pen_here", "_law_width", "_law_many", "_law_wide", "_law_found", "_law_turn", "_law_is_new"]
theorem sc__law_rows : FnScope ["_law_pen_here", "_law_width", "_law_many", "_law_wide", "_law_found", "_law_turn", "_law_is_new"] ["_law_pen_here", "_law_width", "_law_many", "_law_wide"] (defScope (top 17)) := ⟨rfl, rfl, rfl, by decide +kernel, rfl, by decide +kernel, by decide +kernel⟩
theorem fn__law_rows (g : Gd K mg) : Fn T0 P w K mg base 4 "_law_rows" ["_law_pen_here", "_law_width", "_law_many", "_law_wide"] d__law_rows := by
  obtain ⟨fd, F⟩ := g.c.def_ 10 (d := hd10) rfl
  refine ⟨⟨_, fd, (g.glo 22), F.kp, fng_of F sc__law_rows fun cdv A outer s H E c => ?_, F.bindsN (fun _ _ _ _ _ _ us hl => match us, hl with | [_, _, _, _], _ => rfl), kw_of F (fun _ _ _ _ _ _ ws hl => match ws, hl with | [_, _, _, _], _ => rfl)⟩, arity_d⟩
  exact jb_cons (js_set 4 c.nd (je_lstM (ja_nil))) (jb_cons (js_for c.own c.calm (ji_rng1 (g.free 19) (ja_cons (je_var 2) (ja_nil))) (jg_n 5 c.nd) (jb_cons (js_set 6 c.nd (je_or (je_cmp (op_eqZ c.hu) oz_eq (je_var 4) (je_lst (ja_nil))) (je_one (je_cmp op_gtZ oz_gt (je_fn c (fn__law_draw g) (ja_cons (je_var 0) (ja_cons (je_int) (ja_nil))) (by decide)) (je_int))))) (jb_one (js_expr (je_append (je_var 4) (je_if (jt_tru (je_var 6)) (je_fn c (fn__law_row g) (ja_cons (je_var 0) (ja_cons (je_var 1) (ja_cons (je_var 3) (ja_nil)))) (by decide)) (je_fn c (fn__law_mixed g) (ja_cons (je_var 0) (ja_cons (je_var 4) (ja_cons (je_var 1) (ja_nil)))) (by decide)))))))) (jb_one (js_ret (je_var 4))))
abbrev nm__law_due : List Str := ["_law_rows_here", "_law_found", "_law_at", "_law_rest", "_law_row_here"]
theorem sc__law_due : FnScope ["_law_rows_here", "_law_found", "_law_at", "_law_rest", "_law_row_here"] ["_law_rows_here"] (defScope (top 18)) := ⟨rfl, rfl, rfl, by decide +kernel, rfl, by decide +kernel, by decide +kernel⟩
theorem fn__law_due (g : Gd K mg) : ∀ n : Nat, Fn T0 P w K mg base (1 + n) "_law_due" ["_law_rows_here"] (d__law_due n)
  | 0 => by
    obtain ⟨fd, F⟩ := g.c.def_ 11 (d := hd11) rfl
    exact ⟨⟨_, fd, (g.glo 23), F.kp, fng_bad, F.bindsN (fun _ _ _ _ _ _ us hl => match us, hl with | [_], _ => rfl), kw_of F (fun _ _ _ _ _ _ ws hl => match ws, hl with | [_], _ => rfl)⟩, fun _ _ _ => rfl⟩
  | n + 1 => by
    have ih := fn__law_due g n
    obtain ⟨fd, F⟩ := g.c.def_ 11 (d := hd11) rfl
    refine ⟨⟨_, fd, (g.glo 23), F.kp, fng_of F sc__law_due fun cdv A outer s H E c => ?_, F.bindsN (fun _ _ _ _ _ _ us hl => match us, hl with | [_], _ => rfl), kw_of F (fun _ _ _ _ _ _ ws hl => match ws, hl with | [_], _ => rfl)⟩, arity_d⟩
    exact jb_cons (js_if (jt_cmp (op_eqZ c.hu) oz_eq (je_var 0) (je_lst (ja_nil))) (jb_one (js_ret (je_int))) (jb_nil)) (jb_cons (js_set 1 c.nd (je_int)) (jb_cons (js_for c.own c.calm (ji_rng1 (g.free 19) (ja_cons (je_callB cr_len cz_len (g.free 10) (ja_cons (je_var 0) (ja_nil))) (ja_nil))) (jg_n 2 c.nd) (jb_one (js_if (jt_cmp (op_neZ c.hu) oz_ne (je_sub c.hu1 (je_sub c.hu1 (je_var 0) (je_int)) (je_var 2)) (je_int)) (jb_cons (js_setLc 3 [("_law_row_here", 4)] c.calm c.nd (ji_val (je_sli (je_var 0) (jo_some (je_int)) (jo_none))) ⟨fun _ _ _ _ _ => jg_n 4 c.blk.nd, fun _ _ _ _ _ => jts_nil, fun _ _ _ _ _ => je_bin op_addZ oz_add (je_callT call_list_of cz_list (g.free 9) (ja_cons (je_sli (je_var 4) (jo_none) (jo_some (je_var 2))) (ja_nil))) (je_callT call_list_of cz_list (g.free 9) (ja_cons (je_sli (je_var 4) (jo_some (je_bin op_addZ oz_add (je_var 2) (je_int))) (jo_none)) (ja_nil)))⟩ (blkOk_by (N := nm__law_due) (sc := defScope (top 18)) (by decide +kernel))) (jb_one (js_set 1 c.nd (je_bin op_addZ oz_add (je_var 1) (je_bin op_mulA oz_mul (je_bin op_mulA oz_mul (je_if (jt_cmp (op_eqZ c.hu) oz_eq (je_bin op_modN oz_mod (je_callT call_int1 cz_int (g.free 0) (ja_cons (je_var 2) (ja_nil))) (je_int)) (je_int)) (je_int) (je_neg (je_int))) (je_sub c.hu1 (je_sub c.hu1 (je_var 0) (je_int)) (je_var 2))) (je_fn c ih (ja_cons (je_var 3) (ja_nil)) (Nat.le_refl _))))))) (jb_nil)))) (jb_one (js_ret (je_var 1)))))
abbrev nm__law_great : List Str := ["_law_pen_here", "_law_many", "_law_rows_here", "_law_due_here", "_law_at", "_law_middle", "_law_place", "_law_turn", "_law_one", "_law_two", "_law_held", "_law_here", "_law_there"]
theorem sc__law_great : FnScope ["_law_pen_here", "_law_many", "_law_rows_here", "_law_due_here", "_law_at", "_law_middle", "_law_place", "_law_turn", "_law_one", "_law_two", "_law_held", "_law_here", "_law_there"] ["_law_pen_here", "_law_many"] (defScope (top 19)) := ⟨rfl, rfl, rfl, by decide +kernel, rfl, by decide +kernel, by decide +kernel⟩
theorem fn__law_great (g : Gd K mg) : Fn T0 P w K mg base 3 "_law_great" ["_law_pen_here", "_law_many"] d__law_great := by
  obtain ⟨fd, F⟩ := g.c.def_ 12 (d := hd12) rfl
  refine ⟨⟨_, fd, (g.glo 24), F.kp, fng_of0 F sc__law_great fun cdv A outer s H E c => ?_, F.bindsN (fun _ _ _ _ _ _ us hl => match us, hl with | [_, _], _ => rfl), kw_of F (fun _ _ _ _ _ _ ws hl => match ws, hl with | [_, _], _ => rfl)⟩, arity_0⟩
  exact jb_cons (js_par 2 3 c.calm c.nd (ja_cons (je_lstM (ja_nil)) (ja_cons (je_int) (ja_nil)))) (jb_cons (js_for c.own c.calm (ji_rng1 (g.free 19) (ja_cons (je_var 1) (ja_nil))) (jg_n 4 c.nd) (jb_cons (js_set 5 c.nd (je_fn c (fn__law_pick g) (ja_cons (je_var 0) (ja_cons (je_lst (ja_cons (je_int) (ja_cons (je_neg (je_int)) (ja_cons (je_int) (ja_cons (je_int) (ja_cons (je_neg (je_int)) (ja_nil))))))) (ja_nil))) (by decide))) (jb_cons (js_set 3 c.nd (je_bin op_mulA oz_mul (je_var 3) (je_var 5))) (jb_one (js_expr (je_append (je_var 2) (je_bin op_addZ oz_add (je_bin op_addZ oz_add (je_bin op_mulA oz_mul (je_lst (ja_cons (je_int) (ja_nil))) (je_var 4)) (je_lst (ja_cons (je_var 5) (ja_nil)))) (je_lc [("_law_place", 6)] c.calm c.nd (ji_rng1 (g.free 19) (ja_cons (je_bin op_sub oz_sub (je_bin op_sub oz_sub (je_var 1) (je_var 4)) (je_int)) (ja_nil))) ⟨fun _ _ _ _ _ => jg_n 6 c.blk.nd, fun _ _ _ _ _ => jts_nil, fun _ _ _ _ _ => je_fn c.blk (fn__law_pick g) (ja_cons (je_var 0) (ja_cons (je_lst (ja_cons (je_int) (ja_cons (je_int) (ja_cons (je_neg (je_int)) (ja_nil))))) (ja_nil))) (by decide)⟩ (blkOk_by (N := nm__law_great) (sc := defScope (top 19)) (by decide +kernel)))))))))) (jb_cons (js_for c.own c.calm (ji_rng1 (g.free 19) (ja_cons (je_int) (ja_nil))) (jg_n 7 c.nd) (jb_cons (js_par 8 9 c.calm c.nd (ja_cons (je_fn c (fn__law_draw g) (ja_cons (je_var 0) (ja_cons (je_var 1) (ja_nil))) (by decide)) (ja_cons (je_fn c (fn__law_draw g) (ja_cons (je_var 0) (ja_cons (je_var 1) (ja_nil))) (by decide)) (ja_nil)))) (jb_one (js_if ((jw_and (jt_cmp (op_neZ c.hu) oz_ne (je_var 8) (je_var 9)) (jw_and1 (jt_cmp (op_eqZ c.hu) oz_eq (je_fn c (fn__law_draw g) (ja_cons (je_var 0) (ja_cons (je_int) (ja_nil))) (by decide)) (je_int)))).pt) (jb_cons (js_set 10 c.nd (je_callT call_list_of cz_list (g.free 9) (ja_cons (je_sub c.hu1 (je_var 2) (je_var 8)) (ja_nil)))) (jb_cons (js_asg (je_callT call_list_of cz_list (g.free 9) (ja_cons (je_sub c.hu1 (je_var 2) (je_var 9)) (ja_nil))) (jgz_i (E := E) (je_var 2) (je_var 8))) (jb_cons (js_asg (je_var 10) (jgz_i (E := E) (je_var 2) (je_var 9))) (jb_one (js_set 3 c.nd (je_bin op_sub oz_sub (je_int) (je_var 3))))))) (jb_one (js_if (jt_cmp (op_neZ c.hu) oz_ne (je_var 8) (je_var 9)) (jb_one (js_asg (je_lc [("_law_here", 11), ("_law_there", 12)] c.calm c.nd (ji_zip (g.free 6) (ja_cons (je_sub c.hu1 (je_var 2) (je_var 8)) (ja_cons (je_sub c.hu1 (je_var 2) (je_var 9)) (ja_nil)))) ⟨fun _ _ _ _ _ => jg_t c.blk.calm (jgs_cons (jg_n 11 c.blk.nd) (jgs_cons (jg_n 12 c.blk.nd) (jgs_nil))), fun _ _ _ _ _ => jts_nil, fun _ _ _ _ _ => je_bin op_addZ oz_add (je_var 11) (je_bin op_mulA oz_mul (je_int) (je_var 12))⟩ (blkOk_by (N := nm__law_great) (sc := defScope (top 19)) (by decide +kernel))) (jgz_i (E := E) (je_var 2) (je_var 8)))) (jb_nil))))))) (jb_one (js_ret (je_tup (ja_cons (je_var 2) (ja_cons (je_var 3) (ja_nil))))))))
abbrev nm_law : List Str := ["_law_script", "_law_pen_here", "_law_turn", "_law_many", "_law_rows_here", "_law_row_here", "_law_kept", "_law_due_here", "_law_number"]
theorem sc_law : FnScope ["_law_script", "_law_pen_here", "_law_turn", "_law_many", "_law_rows_here", "_law_row_here", "_law_kept", "_law_due_here", "_law_number"] ["_law_script"] (defScope (top 20)) := ⟨rfl, rfl, rfl, by decide +kernel, rfl, by decide +kernel, by decide +kernel⟩
theorem law_g0 (g : Gd K mg) {fd : FuncData} (F : FunD K hd13.name hd13.qual hd13.params hd13.body hd13.scope (hd13.dvs K) (hd13.kws K) (He.fAd K hd13.at_) fd) : FnG T0 P w K mg base 10 (He.fAd K hd13.at_) fd ["_law_script"] d_law :=
  fng_of F sc_law fun cdv A outer s H E c => jb_cons (js_set 1 c.nd (je_fn c (fn__law_pen g) (ja_cons (je_var 0) (ja_nil)) (by decide))) (jb_cons (js_for c.own c.calm (ji_rng1 (g.free 19) (ja_cons (je_int) (ja_nil))) (jg_n 2 c.nd) (jb_cons (js_set 3 c.nd (je_fn c (fn__law_draw g) (ja_cons (je_var 1) (ja_cons (je_int) (ja_nil))) (by decide))) (jb_cons (js_setLcM 4 [("_law_row_here", 5)] c.calm c.nd (ji_val (je_fn c (fn__law_rows g) (ja_cons (je_var 1) (ja_cons (je_var 3) (ja_cons (je_var 3) (ja_cons (je_cmp (op_eqZ c.hu) oz_eq (je_fn c (fn__law_draw g) (ja_cons (je_var 1) (ja_cons (je_int) (ja_nil))) (by decide)) (je_int)) (ja_nil))))) (by decide))) ⟨fun _ _ _ _ _ => jg_n 5 c.blk.nd, fun _ _ _ _ _ => jts_nil, fun _ _ _ _ _ => je_callT call_list_of cz_list (g.free 9) (ja_cons (je_var 5) (ja_nil))⟩ (blkOk_by (N := nm_law) (sc := defScope (top 20)) (by decide +kernel))) (jb_cons (js_set 6 c.nd (je_callB (cr_repr c.gd c.hu) cz_repr (g.free 25) (ja_cons (je_var 4) (ja_nil)))) (jb_cons (js_if ((jw_or (jt_cmp (op_neZ c.hu) oz_ne (je_fn c (fn_determinant g) (ja_cons (je_var 4) (ja_nil)) (by decide)) (je_fn c (fn__law_due g 8) (ja_cons (je_var 4) (ja_nil)) (by decide))) (jw_or1 (jt_cmp (op_neZ c.hu) oz_ne (je_callB (cr_repr c.gd c.hu) cz_repr (g.free 25) (ja_cons (je_var 4) (ja_nil))) (je_var 6)))).pt) (jb_one (js_ret (je_bl))) (jb_nil)) (jb_one (js_if (jt_cmp (op_neZ c.hu) oz_ne (je_fnK c (fn_determinant g) (jk_cons (je_callT call_tuple_of cz_tup (g.free 8) (ja_cons (je_lc [("_law_row_here", 5)] c.calm c.nd (ji_val (je_var 4)) ⟨fun _ _ _ _ _ => jg_n 5 c.blk.nd, fun _ _ _ _ _ => jts_nil, fun _ _ _ _ _ => je_callT call_tuple_of cz_tup (g.free 8) (ja_cons (je_var 5) (ja_nil))⟩ (blkOk_by (N := nm_law) (sc := defScope (top 20)) (by decide +kernel))) (ja_nil))) (jk_nil)) (by decide)) (je_fn c (fn__law_due g 8) (ja_cons (je_var 4) (ja_nil)) (by decide))) (jb_one (js_ret (je_bl))) (jb_nil)))))))) (jb_cons (js_for c.own c.calm (ji_val (je_tup (ja_cons (je_int) (ja_cons (je_int) (ja_cons (je_fn c (fn__law_pick g) (ja_cons (je_var 1) (ja_cons (je_lst (ja_cons (je_int) (ja_cons (je_int) (ja_cons (je_int) (ja_nil))))) (ja_nil))) (by decide)) (ja_nil)))))) (jg_n 3 c.nd) (jb_cons (js_asg (je_fn c (fn__law_great g) (ja_cons (je_var 1) (ja_cons (je_var 3) (ja_nil))) (by decide)) (jgz_t c.calm (jgzs_cons (jgz_n 4 c.nd) (jgzs_cons (jgz_n 7 c.nd) (jgzs_nil))))) (jb_cons (js_if ((jw_or (jt_cmp (op_neZ c.hu) oz_ne (je_fn c (fn_determinant g) (ja_cons (je_var 4) (ja_nil)) (by decide)) (je_var 7)) (jw_or1 (jt_cmp (op_neZ c.hu) oz_ne (je_fn c (fn_determinant g) (ja_cons (je_rev (je_var 4)) (ja_nil)) (by decide)) (je_bin op_mulA oz_mul (je_var 7) (je_if (jt_cmp op_inZ (oz_in false) (je_bin op_modN oz_mod (je_callT call_int1 cz_int (g.free 0) (ja_cons (je_var 3) (ja_nil))) (je_int)) (je_tup (ja_cons (je_int) (ja_cons (je_int) (ja_nil))))) (je_neg (je_int)) (je_int)))))).pt) (jb_one (js_ret (je_bl))) (jb_nil)) (jb_cons (js_asg (je_lc [("_law_number", 8)] c.calm c.nd (ji_val (je_sub c.hu1 (je_var 4) (je_bin op_sub oz_sub (je_var 3) (je_int)))) ⟨fun _ _ _ _ _ => jg_n 8 c.blk.nd, fun _ _ _ _ _ => jts_nil, fun _ _ _ _ _ => je_bin op_mulA oz_mul (je_int) (je_var 8)⟩ (blkOk_by (N := nm_law) (sc := defScope (top 20)) (by decide +kernel))) (jgz_i (E := E) (je_var 4) (je_int))) (jb_one (js_if ((jw_and (jt_cmp op_gtZ oz_gt (je_var 3) (je_int)) (jw_and1 (jt_cmp (op_neZ c.hu) oz_ne (je_fn c (fn_determinant g) (ja_cons (je_var 4) (ja_nil)) (by decide)) (je_int)))).pt) (jb_one (js_ret (je_bl))) (jb_nil))))))) (jb_one (js_ret (je_cmp (op_eqZ c.hu) oz_eq (je_lst (ja_cons (je_fn c (fn_determinant g) (ja_cons (je_lst (ja_nil)) (ja_nil)) (by decide)) (ja_cons (je_fn c (fn_determinant g) (ja_cons (je_tup (ja_nil)) (ja_nil)) (by decide)) (ja_cons (je_fn c (fn_determinant g) (ja_cons (je_lst (ja_cons (je_lst (ja_cons (je_int) (ja_nil))) (ja_nil))) (ja_nil)) (by decide)) (ja_cons (je_fn c (fn_determinant g) (ja_cons (je_lst (ja_cons (je_tup (ja_cons (je_int) (ja_cons (je_int) (ja_nil)))) (ja_cons (je_lst (ja_cons (je_int) (ja_cons (je_int) (ja_nil)))) (ja_nil)))) (ja_nil)) (by decide)) (ja_nil)))))) (je_lst (ja_cons (je_int) (ja_cons (je_int) (ja_cons (je_int) (ja_cons (je_neg (je_int)) (ja_nil)))))))))))
end
theorem law_fn {w : World} {K : PySem.W.Frag} {h : Heap} {mg : Str → Option Value} {fa : Addr} (KX : K.In h) (G : h.Ns mainGlobals mg) (hm : mg ("law" : Str) = some (.ref fa)) (c : He.SaysD fal fnl K) :
    ∃ (K : PySem.W.Frag) (fd : FuncData), K.In h ∧ (∀ (s : Shared) (u : Value), BindsTo s fd ⟨[u], []⟩ [("_law_script", u)]) ∧ ∀ base : Heap, K.In base → base.Ns mainGlobals mg → FnG T0 (PySem.Challenge.rw_sumdigits_k28_determinants).prog w K mg base 10 fa fd ["_law_script"] d_law := by
  have g : Gd K mg := ⟨c, h, KX, G⟩
  obtain ⟨fd, F⟩ := g.c.def_ 13 (d := hd13) rfl
  have e := hm.symm.trans (g.glo 26)
  cases e
  refine ⟨K, fd, KX, fun s u => FunD.bindsA (ps := ["_law_script"]) F (fun _ _ _ _ _ _ us hl => match us, hl with | [_], _ => rfl) s [u] rfl, fun base _ _ => ?_⟩
  exact law_g0 g F
end Z
end
end
section
set_option Elab.async false
set_option linter.all false
set_option maxRecDepth 100000
set_option maxHeartbeats 0
noncomputable section
namespace Z
open PySem PySem.Spec PyProof.Rows L2
abbrev R : PySem.W.OpenRow := PySem.W.OpenLaw.row PySem.Challenge.rw_sumdigits_k28_determinants
abbrev hk : PySem.W.Hook := He.hookD 6 fal fnl
def ob (s : PySem.W.SharedT) : He.AlD := He.obsDG 6 fal fnl (HandSHeadRun.getT s)
theorem ob_eq (s : PySem.W.SharedT) : ob s = hk.obs s.abs := He.obsDG_eq (HandSHeadRun.getT_eq s)
theorem run (w : World) : HandSHeadRun.RunEq R (PySem.W.view R.prog [20]) hk ob 3000 names w := by
  intro os
  kernel_rfl
end Z
end
end
set_option Elab.async false
set_option maxRecDepth 100000
set_option maxHeartbeats 0
open PySem PySem.W PyProof.Rows
theorem PySem.Challenge.cw_sumdigits_k28_determinants_holds : PySem.Challenge.rw_sumdigits_k28_determinants.Holds := by
  w_on; o_law
  refine HandSHeadRun.head_any (r := PySem.W.OpenLaw.row PySem.Challenge.rw_sumdigits_k28_determinants) (q := PySem.W.view (PySem.W.OpenLaw.row PySem.Challenge.rw_sumdigits_k28_determinants).prog [20]) (H := Z.hk) (ob := Z.ob) (M := 3000) (loose := Z.names) (d := HandSHeadRun.topDef (PySem.W.OpenLaw.row PySem.Challenge.rw_sumdigits_k28_determinants).prog 20) (kwd := []) Z.ob_eq
    (by kernel_rfl) (fun s => by kernel_rfl) Z.run (by kernel_rfl) (by kernel_rfl) (by kernel_rfl) (by rfl) (by first | assumption | decide +kernel) (by decide +kernel) ⟨rfl, rfl, rfl, rfl, rfl, by decide +kernel⟩ ?hw ?hc
  case hw => w_witness2
  case hc =>
    refine Z.walk_g (l := PySem.Challenge.rw_sumdigits_k28_determinants) (n := 63) (k := 10) (x := "_law_script") (T := Z.T0) (d := Z.d_law) rfl (by decide) (by kernel_rfl) ⟨rfl, by decide, by decide⟩ Z.law_good ?F
    intro w mg fa h Y G hmg0
    obtain ⟨K, KX, c⟩ := Y
    have hmg : mg ("law" : PySem.Str) = some (.ref fa) := by
      have e : (HandSHeadRun.topDef (PySem.W.OpenLaw.row PySem.Challenge.rw_sumdigits_k28_determinants).prog 20).name = ("law" : PySem.Str) := by kernel_rfl
      rw [← e]
      exact hmg0
    exact Z.law_fn KX G hmg c

