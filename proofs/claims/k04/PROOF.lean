import PyProof.Rows.All
import Wide.All
import OpenK.AllK
import Wide.FinOn
import PyProof.EqAt
import PyProof.EqKinds
import PyProof.TupleCall
import HandS.ForMost
import HandS.ForExc
import HandS.HeadHook1
import HandS.Defaults
import HandS.CallSlots
import HandS.IsInst
import HandS.Wide
import HandS.TupAny
import HandS.Style
import HandS.Zip
import HandS.Flow
import HandS.Evl
import HandS.Exc
import HandS.Lambda
import HandS.RaiseMore
import HandS.TupLen
import HandS.ExcIs
import KE.KExcIs
import HandS.Walk
import KE.GoesNew
import KE.GoesMore
import KE.GoesEnum
import HandS.Small
import HandS.Comp
import HandS.WordsExc
import HandS.Ends
import HandS.HeadEnd
import HandS.StrMore
import HandS.MakeKw
import HandS.ExcInit
import HandS.ExcField
import HandS.HeadNt
import HandS.Star
import HandS.ClsMeth
import HandS.Records
import HandS.DictComp
import HandS.Conv
import HandS.Iter
import KE.KDictSum
import HandS.EndTab
import KE.KNestM
import HandS.Text
import HandS.Replace
import HandS.IterVal
import HandS.OwnIter
import KE.KOwnIter
import PyProof.CollectIter
import HandS.TupMul
import PyProof.MeetsIn
import PyProof.Conv_bool
import PyProof.InstNe
import PyProof.FactsAll.object_2
import PyProof.PureInt
import PyProof.Rows.StrMeet
import HandS.More
import PyProof.DictMoreH
import HandS.DictTup
import KE.KDictWalk
import KE.KDictCopyH
import HandS.New0
import HandS.GenYield
import HandS.GenCall
import HandS.GenList
import KE.DataCmp
import KE.KStateDown
import Lean
import HandS.Words
import HandS.Head0
import HandS.Head1
import HandS.Head2
import HandS.HeadHook2
import PySem.Challenge.RW_sumdigits_k04_whole_readings_of_words
section
set_option Elab.async false
set_option linter.all false
set_option maxRecDepth 100000
set_option maxHeartbeats 1000000
/-! Z1: values without addresses, a store of what may change, and what they stand for in the layer's heap. -/
namespace Z
open PySem PySem.Spec PyProof.Rows L2
/-- a thing that may be locked while it is walked -/
def isD : HO → Bool
  | .dK _ => true
  | .dT _ => true
  | _ => false
/-- what is known stays known; a dict may be locked -/
def Ex (F H : Hp) : Prop := ∀ a o, F a = some o → H a = some o ∨ (isD o = true ∧ ∃ ob, H a = some (.frz ob o))
theorem Ex.refl (F : Hp) : Ex F F := fun _ _ h => .inl h
theorem Ex.trans {F G H : Hp} (p : Ex F G) (q : Ex G H) : Ex F H := fun a o h => by
  rcases p a o h with h | ⟨hd, ob, h⟩
  · exact q a o h
  · rcases q a _ h with h | ⟨hd', _⟩
    · exact .inr ⟨hd, ob, h⟩
    · cases hd'
theorem Ex.new {H : Hp} {p : Addr} {o : HO} (h : H p = none) : Ex H (L2.upd H p o) := fun a u e => .inl (by rw [upd_ne (ne_of_none e h)]; exact e)
theorem Ex.at_ {F H : Hp} (e : Ex F H) {a : Addr} {o : HO} (h : F a = some o) (hn : isD o = false := by rfl) : H a = some o := by
  rcases e a o h with h | ⟨hd, _⟩
  · exact h
  · rw [hn] at hd; cases hd
theorem Ex.rd {F H : Hp} (e : Ex F H) {a : Addr} {o : HO} (h : Rd F a o) : Rd H a o := by
  rcases h with h | ⟨ob, h⟩
  · rcases e a o h with h | ⟨_, ob, h⟩
    · exact .inl h
    · exact .inr ⟨ob, h⟩
  · exact .inr ⟨ob, e.at_ h⟩
theorem Ex.some {F H : Hp} (e : Ex F H) {a : Addr} (h : H a = none) : F a = none := by
  cases q : F a with
  | none => rfl
  | some o =>
    rcases e a o q with z | ⟨_, ob, z⟩
    · rw [h] at z; cases z
    · rw [h] at z; cases z
theorem ex_l {K : PySem.W.Frag} {F H : Hp} {a : Addr} {xs : List V} (e : Ex F H) (h : SqL K F a xs) : SqL K H a xs := by
  rcases h with (h | ⟨o, h⟩) | h
  · exact .inl (.inl (e.at_ h))
  · exact .inl (.inr ⟨o, e.at_ h⟩)
  · exact .inr h
/-- an exception that is held as a value -/
def EXV (C : Addr) (d : Option Addr) (a : Addr) : HO := .ext fun h => ∃ (oe : Obj) (vs : Array Value), h.get? a = some oe ∧ Zc (.ref C) d oe ∧ oe.data = .fields vs

/-- a dict's key: an int or a text; a tuple of such -/
inductive PK where
  | k (x : Key) | t (xs : List Key)
  deriving DecidableEq
/-- what a compound value is -/
inductive Kd where
  | tup | lst | scr
  | dct (t : Bool) (ks : List PK)
  | ins (c : Nat) (fs : List Nat)
  | exn (c : Nat) (fs : List Nat)
  /-- a lambda at a, its code at c, what its def's names stood for -/
  | clo (a c : Addr) (q : Str) (us : List V)
  deriving DecidableEq
/-- a value: nd a compound that never changes any more, ref a place of the store -/
inductive PV where
  | non | bl (b : Bool) | int (i : Int) | str (x : Str) | ty (n : String) | cls (c : Nat)
  | ref (n : Nat)
  | nd (k : Kd) (xs : List PV)

mutual
def pvEq : PV → PV → Bool
  | .non, .non => true
  | .bl b, .bl c => b == c
  | .int i, .int j => decide (i = j)
  | .str x, .str y => decide (x = y)
  | .ty n, .ty m => decide (n = m)
  | .cls c, .cls d => Nat.beq c d
  | .ref n, .ref m => Nat.beq n m
  | .nd k xs, .nd l ys => decide (k = l) && pvEqL xs ys
  | _, _ => false
def pvEqL : List PV → List PV → Bool
  | [], [] => true
  | x :: xs, y :: ys => pvEq x y && pvEqL xs ys
  | _, _ => false
end
mutual
theorem pvEq_eq : ∀ x y : PV, pvEq x y = true ↔ x = y
  | .non, y => by cases y <;> simp [pvEq]
  | .bl b, y => by cases y <;> simp [pvEq]
  | .int b, y => by cases y <;> simp [pvEq]
  | .str b, y => by cases y <;> simp [pvEq]
  | .ty b, y => by cases y <;> simp [pvEq]
  | .cls b, y => by cases y <;> simp [pvEq]
  | .ref b, y => by cases y <;> simp [pvEq]
  | .nd k xs, y => by
    cases y with
    | nd l ys => simp [pvEq, pvEqL_eq xs ys]
    | _ => simp [pvEq]
theorem pvEqL_eq : ∀ xs ys : List PV, pvEqL xs ys = true ↔ xs = ys
  | [], ys => by cases ys <;> simp [pvEqL]
  | x :: xs, ys => by
    cases ys with
    | nil => simp [pvEqL]
    | cons y ys => simp [pvEqL, pvEq_eq x y, pvEqL_eq xs ys]
end
instance : DecidableEq PV := fun x y => if h : pvEq x y = true then .isTrue ((pvEq_eq x y).mp h) else .isFalse fun e => h ((pvEq_eq x y).mpr e)
/-- names of classes and fields by numbers -/
structure Tb where
  cn : Nat → Str
  fd : Nat → Str
  nf : Nat
  okf : Nat → Nat → Bool
  /-- the errors' fields -/
  okx : Nat → Nat → Bool := fun _ _ => false
  /-- the tables of code of the defs in which lambdas stand -/
  tabs : PySem.W.Frag → List (Addr × Str) := fun _ => []
abbrev Tb.ca (T : Tb) (K : PySem.W.Frag) (c : Nat) : Addr := He.ga K (T.cn c)

/-- what stands at an address for a compound of the kind k over the values us -/
def Shp (T : Tb) (K : PySem.W.Frag) (H : Hp) (a : Addr) : Kd → List V → Prop
  | .tup, us => H a = some (.tup us)
  | .lst, us => H a = some (.lst us)
  | .scr, us => SqL K H a us
  | .dct false ks, us => us.length = ks.length ∧ ∃ kk : List Key, ks = kk.map PK.k ∧ Rd H a (.dK (kk.zip us))
  | .dct true ks, us => us.length = ks.length ∧ ∃ kk : List (List Key), ks = kk.map PK.t ∧ Rd H a (.dT (kk.zip us))
  | .ins c fs, us => us.length = fs.length ∧ ∃ dx, H a = some (.ins (T.ca K c) dx ((fs.map T.fd).zip us))
  | .exn c fs, us => us.length = fs.length ∧ ∃ d, H a = some (EXV (T.ca K c) d a) ∧ ((fs = [] ∧ d = none) ∨ ∃ dd, d = some dd ∧ H dd = some (.xd ((fs.map T.fd).zip us)))
  | .clo b c q ws, us => a = b ∧ us = ws ∧ H c = some (LamX.CodeO c q)
/-- the same of a thing that may change: it is tracked itself -/
def Liv (T : Tb) (K : PySem.W.Frag) (H : Hp) (a : Addr) : Kd → List V → Prop
  | .tup, _ => False
  | .scr, _ => False
  | .lst, us => H a = some (.lst us)
  | .dct false ks, us => us.length = ks.length ∧ ∃ kk : List Key, ks = kk.map PK.k ∧ H a = some (.dK (kk.zip us))
  | .dct true ks, us => us.length = ks.length ∧ ∃ kk : List (List Key), ks = kk.map PK.t ∧ H a = some (.dT (kk.zip us))
  | .ins c fs, us => us.length = fs.length ∧ ∃ dx, H a = some (.ins (T.ca K c) dx ((fs.map T.fd).zip us))
  | .exn _ _, _ => False
  | .clo _ _ _ _, _ => False
theorem Liv.shp {T : Tb} {K : PySem.W.Frag} {H : Hp} {a : Addr} {k : Kd} {us : List V} (h : Liv T K H a k us) : Shp T K H a k us := by
  cases k with
  | tup => exact h.elim
  | scr => exact h.elim
  | lst => exact h
  | dct t ks => cases t <;> exact ⟨h.1, h.2.imp fun _ z => ⟨z.1, .inl z.2⟩⟩
  | ins c fs => exact h
  | exn c fs => exact h.elim
  | clo a0 c0 q0 us0 => exact h.elim
theorem Shp.mono {T : Tb} {K : PySem.W.Frag} {H H' : Hp} {a : Addr} {k : Kd} {us : List V} (e : Ex H H') (h : Shp T K H a k us) : Shp T K H' a k us := by
  cases k with
  | tup => exact e.at_ h
  | scr => exact ex_l e h
  | lst => exact e.at_ h
  | dct t ks =>
    cases t <;> (obtain ⟨hl, kk, h1, h2⟩ := h; exact ⟨hl, kk, h1, e.rd h2⟩)
  | ins c fs =>
    obtain ⟨hl, dx, h⟩ := h
    exact ⟨hl, dx, e.at_ h⟩
  | clo b c q ws =>
    obtain ⟨h1, h2, h3⟩ := h
    exact ⟨h1, h2, e.at_ h3⟩
  | exn c fs =>
    obtain ⟨hl, d, h1, h2⟩ := h
    refine ⟨hl, d, e.at_ h1, ?_⟩
    rcases h2 with h2 | ⟨dd, h2, h3⟩
    · exact .inl h2
    · exact .inr ⟨dd, h2, e.at_ h3⟩

/-- the addresses of the store's places; things held aside while a comprehension runs -/
structure Pl where
  as : List Addr
  hid : List (Addr × HO)
def Pl.le (R R' : Pl) : Prop := R.as <+: R'.as ∧ R'.hid = R.hid
theorem Pl.refl (R : Pl) : Pl.le R R := ⟨List.prefix_refl _, rfl⟩
theorem Pl.le.trans {R R' R2 : Pl} (p : Pl.le R R') (q : Pl.le R' R2) : Pl.le R R2 := ⟨p.1.trans q.1, q.2.trans p.2⟩
def Pl.add (R : Pl) (a : Addr) : Pl := ⟨R.as ++ [a], R.hid⟩
theorem Pl.app (R : Pl) (a : Addr) : Pl.le R (R.add a) := ⟨List.prefix_append _ _, rfl⟩
mutual
/-- the value x stands for u: R the store's places, F the part of the heap that never changes any more -/
def Rel (T : Tb) (K : PySem.W.Frag) (R : Pl) (F : Hp) : PV → V → Prop
  | .non, u => u = .non
  | .bl b, u => u = .bl b
  | .int i, u => u = .int i
  | .str x, u => u = .str x
  | .ty n, u => u = .ty n
  | .cls c, u => u = .ref (T.ca K c)
  | .ref n, u => ∃ a, u = .ref a ∧ R.as[n]? = some a
  | .nd k xs, u => ∃ a us, u = .ref a ∧ Shp T K F a k us ∧ RelL T K R F xs us
def RelL (T : Tb) (K : PySem.W.Frag) (R : Pl) (F : Hp) : List PV → List V → Prop
  | [], us => us = []
  | x :: xs, us => ∃ u r, us = u :: r ∧ Rel T K R F x u ∧ RelL T K R F xs r
end
section
variable {T : Tb} {K : PySem.W.Frag} {R R' : Pl} {F F' : Hp}
theorem rel_get (p : R.as <+: R'.as) {n : Nat} {a : Addr} (h : R.as[n]? = some a) : R'.as[n]? = some a := by
  obtain ⟨t, e⟩ := p
  have hl : n < R.as.length := (List.getElem?_eq_some_iff.mp h).1
  rw [← e, List.getElem?_append_left hl]; exact h
mutual
theorem Rel.mono0 (p : R.as <+: R'.as) (e : Ex F F') : ∀ (x : PV) (u : V), Rel T K R F x u → Rel T K R' F' x u
  | .non, u, h => by simpa [Rel] using h
  | .bl b, u, h => by simpa [Rel] using h
  | .int i, u, h => by simpa [Rel] using h
  | .str s, u, h => by simpa [Rel] using h
  | .ty n, u, h => by simpa [Rel] using h
  | .cls c, u, h => by simpa [Rel] using h
  | .ref n, u, h => by
    rw [Rel] at h ⊢
    obtain ⟨a, h1, h2⟩ := h
    exact ⟨a, h1, rel_get p h2⟩
  | .nd k xs, u, h => by
    rw [Rel] at h ⊢
    obtain ⟨a, us, h1, h2, h3⟩ := h
    exact ⟨a, us, h1, h2.mono e, RelL.mono0 p e xs us h3⟩
theorem RelL.mono0 (p : R.as <+: R'.as) (e : Ex F F') : ∀ (xs : List PV) (us : List V), RelL T K R F xs us → RelL T K R' F' xs us
  | [], us, h => by simpa [RelL] using h
  | x :: xs, us, h => by
    rw [RelL] at h ⊢
    obtain ⟨u, r, h1, h2, h3⟩ := h
    exact ⟨u, r, h1, Rel.mono0 p e x u h2, RelL.mono0 p e xs r h3⟩
end
theorem Rel.mono (p : Pl.le R R') (e : Ex F F') (x : PV) (u : V) (h : Rel T K R F x u) : Rel T K R' F' x u := Rel.mono0 p.1 e x u h
theorem RelL.mono (p : Pl.le R R') (e : Ex F F') (x : List PV) (u : List V) (h : RelL T K R F x u) : RelL T K R' F' x u := RelL.mono0 p.1 e x u h
theorem RelL.length : ∀ {xs : List PV} {us : List V}, RelL T K R F xs us → us.length = xs.length
  | [], us, h => by rw [RelL] at h; subst h; rfl
  | x :: xs, us, h => by
    rw [RelL] at h
    obtain ⟨u, r, rfl, _, h3⟩ := h
    simp [RelL.length h3]
theorem RelL.nil : RelL T K R F [] [] := by rw [RelL]
theorem RelL.cons {x : PV} {xs : List PV} {u : V} {us : List V} (h : Rel T K R F x u) (t : RelL T K R F xs us) : RelL T K R F (x :: xs) (u :: us) := by
  rw [RelL]; exact ⟨u, us, rfl, h, t⟩
theorem RelL.get : ∀ {xs : List PV} {us : List V} {i : Nat} {x : PV}, RelL T K R F xs us → xs[i]? = some x → ∃ u, us[i]? = some u ∧ Rel T K R F x u
  | [], us, i, x, h, e => by simp at e
  | y :: xs, us, 0, x, h, e => by
    rw [RelL] at h
    obtain ⟨u, r, rfl, h2, h3⟩ := h
    simp at e; subst e
    exact ⟨u, rfl, h2⟩
  | y :: xs, us, i + 1, x, h, e => by
    rw [RelL] at h
    obtain ⟨u, r, rfl, h2, h3⟩ := h
    simp at e
    obtain ⟨v, h4, h5⟩ := RelL.get (i := i) h3 e
    exact ⟨v, by simpa using h4, h5⟩
theorem RelL.append : ∀ {xs : List PV} {us : List V} {ys : List PV} {ws : List V}, RelL T K R F xs us → RelL T K R F ys ws → RelL T K R F (xs ++ ys) (us ++ ws)
  | [], us, ys, ws, h, t => by rw [RelL] at h; subst h; exact t
  | x :: xs, us, ys, ws, h, t => by
    rw [RelL] at h
    obtain ⟨u, r, rfl, h2, h3⟩ := h
    exact .cons h2 (RelL.append h3 t)
theorem RelL.set {y : PV} {w : V} (hy : Rel T K R F y w) : ∀ {xs : List PV} {us : List V} (i : Nat), RelL T K R F xs us → RelL T K R F (xs.set i y) (us.set i w)
  | [], us, i, h => by rw [RelL] at h; subst h; simp [RelL]
  | x :: xs, us, 0, h => by
    rw [RelL] at h
    obtain ⟨u, r, rfl, h2, h3⟩ := h
    exact .cons hy h3
  | x :: xs, us, i + 1, h => by
    rw [RelL] at h
    obtain ⟨u, r, rfl, h2, h3⟩ := h
    exact .cons h2 (RelL.set hy i h3)
theorem RelL.take : ∀ {xs : List PV} {us : List V} (n : Nat), RelL T K R F xs us → RelL T K R F (xs.take n) (us.take n)
  | _, us, 0, h => by simp [RelL]
  | [], us, n + 1, h => by rw [RelL] at h; subst h; simp [RelL]
  | x :: xs, us, n + 1, h => by
    rw [RelL] at h
    obtain ⟨u, r, rfl, h2, h3⟩ := h
    exact .cons h2 (RelL.take n h3)
theorem RelL.drop : ∀ {xs : List PV} {us : List V} (n : Nat), RelL T K R F xs us → RelL T K R F (xs.drop n) (us.drop n)
  | _, us, 0, h => h
  | [], us, n + 1, h => by rw [RelL] at h; subst h; simp [RelL]
  | x :: xs, us, n + 1, h => by
    rw [RelL] at h
    obtain ⟨u, r, rfl, h2, h3⟩ := h
    exact RelL.drop n h3
theorem RelL.reverse : ∀ {xs : List PV} {us : List V}, RelL T K R F xs us → RelL T K R F xs.reverse us.reverse
  | [], us, h => by rw [RelL] at h; subst h; exact .nil
  | x :: xs, us, h => by
    rw [RelL] at h
    obtain ⟨u, r, rfl, h2, h3⟩ := h
    rw [List.reverse_cons, List.reverse_cons]
    exact .append (RelL.reverse h3) (.cons h2 .nil)
theorem RelL.of_get : ∀ {xs : List PV} {us : List V}, us.length = xs.length → (∀ (i : Nat) (x : PV) (u : V), xs[i]? = some x → us[i]? = some u → Rel T K R F x u) → RelL T K R F xs us
  | [], [], _, _ => .nil
  | [], _ :: _, h, _ => by simp at h
  | _ :: _, [], h, _ => by simp at h
  | x :: xs, u :: us, h, hi => .cons (hi 0 x u rfl rfl) (RelL.of_get (by simpa using h) fun i y w h1 h2 => hi (i + 1) y w (by simpa using h1) (by simpa using h2))
end

/-- what may be held aside -/
def hidO : HO → Bool
  | .lst _ => true
  | .dK _ => true
  | .dT _ => true
  | .ins _ _ _ => true
  | _ => false
theorem hidO.nt {o : HO} (h : hidO o = true) : ∀ us, o ≠ .tup us := fun us z => by rw [z] at h; cases h
/-- neither a table of code nor a thing told by a sentence -/
def plainO : HO → Bool
  | .tbl _ => false
  | .ext _ => false
  | _ => true
theorem hidO.plain {o : HO} (h : hidO o = true) : plainO o = true := by cases o <;> first | rfl | cases h
theorem tabs_new {L : List (Addr × Str)} {H : Hp} {p : Addr} {o : HO} (t : LamX.Tabs L H) (h : H p = none) : LamX.Tabs L (L2.upd H p o) := t.ext fun b u e => by rw [upd_ne (ne_of_none e h)]; exact e
theorem tabs_put {L : List (Addr × Str)} {H : Hp} {a : Addr} {o u : HO} (t : LamX.Tabs L H) (ha : H a = some u) (hu : plainO u = true) : LamX.Tabs L (L2.upd H a o) := fun p hp => by
  obtain ⟨ps, h1, h2, h3⟩ := t p hp
  have ne : p.1 ≠ a := fun z => by rw [z, ha] at h1; cases h1; cases hu
  refine ⟨ps, by rw [upd_ne ne]; exact h1, h2, fun pos cv hc => ?_⟩
  obtain ⟨c, e1, e2⟩ := h3 pos cv hc
  have nc : c ≠ a := fun z => by
    rw [z, ha] at e2
    unfold LamX.CodeO at e2
    cases e2; cases hu
  exact ⟨c, e1, by rw [upd_ne nc]; exact e2⟩
/-- what may change, by place: nothing any more, or a compound -/
abbrev Sto := List (Option (Kd × List PV))
/-- the store S as it stands in the heap -/
structure Rep (T : Tb) (K : PySem.W.Frag) (R : Pl) (F : Hp) (S : Sto) (H : Hp) : Prop where
  ex : Ex F H
  len : R.as.length = S.length
  nd : R.as.Nodup
  there : ∀ a ∈ R.as, H a ≠ none ∧ ∀ ps, H a ≠ some (.tbl ps)
  hid : ∀ p ∈ R.hid, H p.1 = some p.2 ∧ p.1 ∉ R.as ∧ F p.1 = none
  hidt : ∀ p ∈ R.hid, hidO p.2 = true
  ntb : ∀ a ps, F a ≠ some (.tbl ps)
  tabs : LamX.Tabs (T.tabs K) H
  hidnd : (R.hid.map Prod.fst).Nodup
  live : ∀ (n : Nat) (a : Addr) (k : Kd) (xs : List PV), R.as[n]? = some a → S[n]? = some (some (k, xs)) → F a = none ∧ ∃ us, Liv T K H a k us ∧ RelL T K R F xs us
/-- the names' values -/
abbrev Loc := List (Option PV)
structure RelE (T : Tb) (K : PySem.W.Frag) (R : Pl) (F : Hp) (l : Loc) (σ : L2.St) : Prop where
  len : l.length = σ.length
  at_ : ∀ (i : Nat) (v : PV), l[i]? = some (some v) → ∃ u, σ[i]? = some (some u) ∧ Rel T K R F v u
theorem RelE.mono {T : Tb} {K : PySem.W.Frag} {R R' : Pl} {F F' : Hp} {l : Loc} {σ : L2.St} (p : Pl.le R R') (e : Ex F F') (h : RelE T K R F l σ) : RelE T K R' F' l σ :=
  ⟨h.len, fun i v q => let ⟨u, h1, h2⟩ := h.at_ i v q; ⟨u, h1, h2.mono p e⟩⟩
theorem RelE.set {T : Tb} {K : PySem.W.Frag} {R : Pl} {F : Hp} {l : Loc} {σ : L2.St} {v : PV} {u : V} (h : RelE T K R F l σ) (i : Nat) (r : Rel T K R F v u) : RelE T K R F (l.set i (some v)) (σ.set i (some u)) := by
  refine ⟨by rw [List.length_set, List.length_set]; exact h.len, fun j w q => ?_⟩
  by_cases e : i = j
  · subst e
    by_cases hl : i < l.length
    · rw [List.getElem?_set_self hl] at q
      cases q
      exact ⟨u, by rw [List.getElem?_set_self (by rw [← h.len]; exact hl)], r⟩
    · rw [List.getElem?_eq_none (by simpa using hl)] at q; cases q
  · rw [List.getElem?_set_ne e] at q
    obtain ⟨x, h1, h2⟩ := h.at_ j w q
    exact ⟨x, by rw [List.getElem?_set_ne e]; exact h1, h2⟩

/-- an error in flight: its class, its fields -/
structure XV where
  c : Nat
  fs : List Nat
  xs : List PV
def RelX (T : Tb) (K : PySem.W.Frag) (R : Pl) (F : Hp) (H : Hp) (e : XV) (cls : Value) (d : Option Addr) : Prop :=
  cls = .ref (T.ca K e.c) ∧ ((e.fs = [] ∧ d = none) ∨ (∃ dd us, d = some dd ∧ F dd = none ∧ H dd = some (.xd ((e.fs.map T.fd).zip us)) ∧ us.length = e.fs.length ∧ RelL T K R F e.xs us))
/-- what an expression comes to -/
inductive Out (α : Type) where
  | ok (a : α) (S : Sto)
  | err (e : XV) (S : Sto)
  | bad
def Out.bind {α β : Type} (o : Out α) (k : α → Sto → Out β) : Out β := match o with
  | .ok a S => k a S
  | .err e S => .err e S
  | .bad => .bad
/-- what a statement comes to -/
inductive OutS where
  | nx (l : Loc) (S : Sto)
  | ret (v : PV) (S : Sto)
  | brk (l : Loc) (S : Sto)
  | cnt (l : Loc) (S : Sto)
  | err (e : XV) (l : Loc) (S : Sto)
  | bad
def OutS.seq (o : OutS) (k : Loc → Sto → OutS) : OutS := match o with
  | .nx l S => k l S
  | o => o
/-- an expression's value | error: in statements -/
def Out.st {α : Type} (o : Out α) (l : Loc) (k : α → Sto → OutS) : OutS := match o with
  | .ok a S => k a S
  | .err e S => .err e l S
  | .bad => .bad
abbrev DE := Loc → Sto → Out PV
abbrev DB := Loc → Sto → Out Bool
abbrev DA := Loc → Sto → Out (List PV)
abbrev DS := Loc → Sto → OutS
/-- what is wished of an error, by the names' values -/
abbrev XS := L2.St → XK
/-- a def: its arguments, the store -/
abbrev DF := List PV → Sto → Out PV

section
variable (T : Tb) (K : PySem.W.Frag) (R : Pl) (F : Hp)
def PostV (v : PV) (S : Sto) (Q : VK) : Prop := ∀ R' F' H u, Pl.le R R' → Ex F F' → Rep T K R' F' S H → Rel T K R' F' v u → Q u H
def PostL (vs : List PV) (S : Sto) (Q : List V → Hp → Prop) : Prop := ∀ R' F' H us, Pl.le R R' → Ex F F' → Rep T K R' F' S H → RelL T K R' F' vs us → Q us H
def PostB (b : Bool) (S : Sto) (Q : Bool → Hp → Prop) : Prop := ∀ R' F' H, Pl.le R R' → Ex F F' → Rep T K R' F' S H → Q b H
def PostX (e : XV) (S : Sto) (E : XK) : Prop := ∀ R' F' H cls d, Pl.le R R' → Ex F F' → Rep T K R' F' S H → RelX T K R' F' H e cls d → E cls d H
def PostE (l : Loc) (S : Sto) (Q : L2.St → Hp → Prop) : Prop := ∀ R' F' H σ, Pl.le R R' → Ex F F' → Rep T K R' F' S H → RelE T K R' F' l σ → Q σ H
def OkV (o : Out PV) (Q : VK) (E : XK) : Prop := match o with
  | .ok v S => PostV T K R F v S Q
  | .err e S => PostX T K R F e S E
  | .bad => False
def OkB (o : Out Bool) (Q : Bool → Hp → Prop) (E : XK) : Prop := match o with
  | .ok v S => PostB T K R F v S Q
  | .err e S => PostX T K R F e S E
  | .bad => False
def OkL (o : Out (List PV)) (Q : List V → Hp → Prop) (E : XK) : Prop := match o with
  | .ok v S => PostL T K R F v S Q
  | .err e S => PostX T K R F e S E
  | .bad => False
/-- an error in a statement: the names stand as they stood -/
def PostXS (l : Loc) (e : XV) (S : Sto) (E : XS) : Prop := ∀ R' F' H σ cls d, Pl.le R R' → Ex F F' → Rep T K R' F' S H → RelE T K R' F' l σ → RelX T K R' F' H e cls d → E σ cls d H
def OkS (o : OutS) (D : Ends) (E : XS) : Prop := match o with
  | .nx l S => PostE T K R F l S D.nx
  | .ret v S => PostV T K R F v S D.rt
  | .brk l S => PostE T K R F l S D.bk
  | .cnt l S => PostE T K R F l S D.ct
  | .err e l S => PostXS T K R F l e S E
  | .bad => False
end
/-- the state, as the layer's readings take it -/
def tV (T : Tb) (K : PySem.W.Frag) (E : XS) (d : DE) : TE := fun σ H Q => ∃ R F l S, Rep T K R F S H ∧ RelE T K R F l σ ∧ OkV T K R F (d l S) Q (E σ)
def tT (T : Tb) (K : PySem.W.Frag) (E : XS) (d : DB) : TT := fun σ H Q => ∃ R F l S, Rep T K R F S H ∧ RelE T K R F l σ ∧ OkB T K R F (d l S) Q (E σ)
def tL (T : Tb) (K : PySem.W.Frag) (E : XS) (d : DA) : TA := fun σ H Q => ∃ R F l S, Rep T K R F S H ∧ RelE T K R F l σ ∧ OkL T K R F (d l S) Q (E σ)
def tS (T : Tb) (K : PySem.W.Frag) (E : XS) (d : DS) : TS := fun D σ H => ∃ R F l S, Rep T K R F S H ∧ RelE T K R F l σ ∧ OkS T K R F (d l S) D E
def spOf (T : Tb) (K : PySem.W.Frag) (n : Nat) (d : DF) : Sp := fun vs H Q E => vs.length = n ∧ ∃ R F S xs, Rep T K R F S H ∧ RelL T K R F xs vs ∧ OkV T K R F (d xs S) Q E

section
variable {T : Tb} {K : PySem.W.Frag} {R R1 : Pl} {F F1 : Hp} {S : Sto}
theorem PostX.mono {e : XV} {E : XK} (p : Pl.le R R1) (x : Ex F F1) (h : PostX T K R F e S E) : PostX T K R1 F1 e S E := fun R' F' H cls d p' x' => h R' F' H cls d (p.trans p') (x.trans x')
theorem PostXS.mono {l : Loc} {e : XV} {E : XS} (p : Pl.le R R1) (x : Ex F F1) (h : PostXS T K R F l e S E) : PostXS T K R1 F1 l e S E := fun R' F' H σ cls d p' x' => h R' F' H σ cls d (p.trans p') (x.trans x')
theorem PostV.mono {v : PV} {Q : VK} (p : Pl.le R R1) (x : Ex F F1) (h : PostV T K R F v S Q) : PostV T K R1 F1 v S Q := fun R' F' H u p' x' => h R' F' H u (p.trans p') (x.trans x')
theorem PostE.mono {l : Loc} {Q : L2.St → Hp → Prop} (p : Pl.le R R1) (x : Ex F F1) (h : PostE T K R F l S Q) : PostE T K R1 F1 l S Q := fun R' F' H u p' x' => h R' F' H u (p.trans p') (x.trans x')
theorem PostL.mono {v : List PV} {Q : List V → Hp → Prop} (p : Pl.le R R1) (x : Ex F F1) (h : PostL T K R F v S Q) : PostL T K R1 F1 v S Q := fun R' F' H u p' x' => h R' F' H u (p.trans p') (x.trans x')
theorem PostB.mono {v : Bool} {Q : Bool → Hp → Prop} (p : Pl.le R R1) (x : Ex F F1) (h : PostB T K R F v S Q) : PostB T K R1 F1 v S Q := fun R' F' H p' x' => h R' F' H (p.trans p') (x.trans x')
theorem OkV.mono {o : Out PV} {Q : VK} {E : XK} (p : Pl.le R R1) (x : Ex F F1) (h : OkV T K R F o Q E) : OkV T K R1 F1 o Q E := by
  cases o with
  | ok v S => exact PostV.mono p x h
  | err e S => exact PostX.mono p x h
  | bad => exact h
theorem OkB.mono {o : Out Bool} {Q : Bool → Hp → Prop} {E : XK} (p : Pl.le R R1) (x : Ex F F1) (h : OkB T K R F o Q E) : OkB T K R1 F1 o Q E := by
  cases o with
  | ok v S => exact PostB.mono p x h
  | err e S => exact PostX.mono p x h
  | bad => exact h
theorem OkL.mono {o : Out (List PV)} {Q : List V → Hp → Prop} {E : XK} (p : Pl.le R R1) (x : Ex F F1) (h : OkL T K R F o Q E) : OkL T K R1 F1 o Q E := by
  cases o with
  | ok v S => exact PostL.mono p x h
  | err e S => exact PostX.mono p x h
  | bad => exact h
theorem OkS.mono {o : OutS} {D : Ends} {E : XS} (p : Pl.le R R1) (x : Ex F F1) (h : OkS T K R F o D E) : OkS T K R1 F1 o D E := by
  cases o with
  | nx l S => exact PostE.mono p x h
  | ret v S => exact PostV.mono p x h
  | brk l S => exact PostE.mono p x h
  | cnt l S => exact PostE.mono p x h
  | err e l S => exact PostXS.mono p x h
  | bad => exact h
end
end Z
end
section
set_option Elab.async false
set_option linter.all false
set_option maxRecDepth 100000
set_option maxHeartbeats 1000000
/-! Z2: new things, changed things; names, constants, displays, operators, comparisons, tests. -/
namespace Z
open PySem PySem.Spec PyProof.Rows L2

section
variable {T : Tb} {K : PySem.W.Frag} {R : Pl} {F H : Hp} {S : Sto}
theorem ex_upd {p : Addr} {o : HO} (h : H p = none) : Ex H (upd H p o) := Ex.new h
theorem Rep.fnone (r : Rep T K R F S H) {p : Addr} (h : H p = none) : F p = none := r.ex.some h
theorem rd_upd {a p : Addr} {o u : HO} (ne : a ≠ p) (h : Rd H a u) : Rd (L2.upd H p o) a u := by
  rcases h with h | ⟨ob, h⟩
  · exact .inl (by rw [upd_ne ne]; exact h)
  · exact .inr ⟨ob, by rw [upd_ne ne]; exact h⟩
theorem rd_there {a : Addr} {u : HO} (h : Rd H a u) : H a ≠ none := by
  rcases h with h | ⟨ob, h⟩ <;> (rw [h]; exact fun z => nomatch z)
theorem Liv.upd {a p : Addr} {o : HO} {k : Kd} {us : List V} (ne : a ≠ p) (h : Liv T K H a k us) : Liv T K (L2.upd H p o) a k us := by
  cases k with
  | tup => exact h.elim
  | scr => exact h.elim
  | lst => show L2.upd H p o a = _; rw [upd_ne ne]; exact h
  | dct t ks =>
    cases t <;> (obtain ⟨hl, kk, h1, h2⟩ := h; exact ⟨hl, kk, h1, by rw [upd_ne ne]; exact h2⟩)
  | ins c fs =>
    obtain ⟨hl, dx, h⟩ := h
    exact ⟨hl, dx, by rw [upd_ne ne]; exact h⟩
  | exn c fs => exact h.elim
  | clo a0 c0 q0 us0 => exact h.elim
theorem Liv.there {a : Addr} {k : Kd} {us : List V} (h : Liv T K H a k us) : H a ≠ none := by
  cases k with
  | tup => exact h.elim
  | scr => exact h.elim
  | lst => intro z; rw [show H a = _ from h] at z; cases z
  | dct t ks =>
    cases t <;> (obtain ⟨hl, kk, h1, h2⟩ := h; intro z; rw [h2] at z; cases z)
  | ins c fs =>
    obtain ⟨hl, dx, h⟩ := h
    intro z; rw [h] at z; cases z
  | exn c fs => exact h.elim
  | clo a0 c0 q0 us0 => exact h.elim
theorem Liv.plain {a : Addr} {k : Kd} {us : List V} (h : Liv T K H a k us) : ∃ u, H a = some u ∧ plainO u = true := by
  cases k with
  | tup => exact h.elim
  | scr => exact h.elim
  | lst => exact ⟨_, h, rfl⟩
  | dct t ks => cases t <;> (obtain ⟨_, kk, _, h⟩ := h; exact ⟨_, h, rfl⟩)
  | ins c fs => obtain ⟨_, dx, h⟩ := h; exact ⟨_, h, rfl⟩
  | exn c fs => exact h.elim
  | clo a0 c0 q0 us0 => exact h.elim
theorem Liv.plain_ne {a : Addr} {k : Kd} {us : List V} (h : Liv T K H a k us) : H a ≠ none ∧ ∀ ps, H a ≠ some (.tbl ps) := by
  obtain ⟨u, h1, h2⟩ := h.plain
  rw [h1]
  exact ⟨fun z => (nomatch z), fun ps z => by rw [Option.some.inj z] at h2; cases h2⟩
/-- a new thing that never changes any more -/
theorem Rep.frozen (r : Rep T K R F S H) {p : Addr} {o : HO} (hp : H p = none) (ho : ∀ ps, o ≠ .tbl ps := by intro _ h; cases h) : Rep T K R (L2.upd F p o) S (L2.upd H p o) where
  ex := fun a u e => by
    by_cases h : a = p
    · subst h; rw [upd_same] at e ⊢; exact .inl e
    · rw [upd_ne h] at e ⊢; exact r.ex a u e
  len := r.len
  nd := r.nd
  there := fun a ha => by
    have h : a ≠ p := fun z => (r.there a ha).1 (by rw [z]; exact hp)
    rw [upd_ne h]; exact r.there a ha
  hidt := r.hidt
  ntb := fun a ps e => by
    by_cases h : a = p
    · rw [h, upd_same] at e; exact ho ps (Option.some.inj e)
    · rw [upd_ne h] at e; exact r.ntb a ps e
  tabs := tabs_new r.tabs hp
  hidnd := r.hidnd
  hid := fun q hq => by
    obtain ⟨h1, h2, h3⟩ := r.hid q hq
    have ne : q.1 ≠ p := fun z => by rw [z, hp] at h1; cases h1
    exact ⟨by rw [upd_ne ne]; exact h1, h2, by rw [upd_ne ne]; exact h3⟩
  live := fun n a k xs h1 h2 => by
    obtain ⟨h3, us, h4, h5⟩ := r.live n a k xs h1 h2
    have ne : a ≠ p := fun z => h4.there (by rw [z]; exact hp)
    exact ⟨by rw [upd_ne ne]; exact h3, us, h4.upd ne, h5.mono (Pl.refl R) (ex_upd (r.fnone hp))⟩
/-- a new thing that may change -/
theorem Rep.laid (r : Rep T K R F S H) {p : Addr} {o : HO} {k : Kd} {xs : List PV} {us : List V} (hp : H p = none) (hl : Liv T K (L2.upd H p o) p k us) (hx : RelL T K R F xs us) : Rep T K (R.add p) F (S ++ [some (k, xs)]) (L2.upd H p o) where
  ex := fun a u e => by
    have h : a ≠ p := fun z => by rw [z, r.fnone hp] at e; cases e
    rw [upd_ne h]; exact r.ex a u e
  len := by
    show (R.as ++ [p]).length = _
    rw [List.length_append, List.length_append, r.len]; rfl
  hidt := r.hidt
  ntb := r.ntb
  tabs := tabs_new r.tabs hp
  hidnd := r.hidnd
  hid := fun q hq => by
    obtain ⟨h1, h2, h3⟩ := r.hid q hq
    have ne : q.1 ≠ p := fun z => by rw [z, hp] at h1; cases h1
    exact ⟨by rw [upd_ne ne]; exact h1, fun z => (List.mem_append.mp z).elim h2 fun z => ne (List.mem_singleton.mp z), h3⟩
  there := fun a ha => by
    by_cases h : a = p
    · rw [h]; exact hl.plain_ne
    · rw [upd_ne h]
      rcases List.mem_append.mp ha with z | z
      · exact r.there a z
      · exact absurd (List.mem_singleton.mp z) h
  nd := by
    have hn : p ∉ R.as := fun z => (r.there p z).1 hp
    show (R.as ++ [p]).Nodup
    rw [List.nodup_append]
    exact ⟨r.nd, by simp, fun a ha b hb => by rw [List.mem_singleton.mp hb]; exact fun z => hn (by rw [← z]; exact ha)⟩
  live := fun n a k' xs' h1 h2 => by
    have h1 : (R.as ++ [p])[n]? = some a := h1
    by_cases hlt : n < R.as.length
    · rw [List.getElem?_append_left hlt] at h1
      rw [List.getElem?_append_left (by rw [← r.len]; exact hlt)] at h2
      obtain ⟨h3, us', h4, h5⟩ := r.live n a k' xs' h1 h2
      have ne : a ≠ p := fun z => h4.there (by rw [z]; exact hp)
      exact ⟨h3, us', h4.upd ne, h5.mono (Pl.app R p) (Ex.refl F)⟩
    · have hge : R.as.length ≤ n := Nat.le_of_not_lt hlt
      rw [List.getElem?_append_right hge] at h1
      rw [List.getElem?_append_right (by rw [← r.len]; exact hge)] at h2
      have e0 : n - R.as.length = 0 := by
        by_cases z : n - R.as.length = 0
        · exact z
        · rw [List.getElem?_eq_none (by simp; omega)] at h1; cases h1
      have e1 : n - S.length = 0 := by rw [← r.len]; exact e0
      rw [e0] at h1
      rw [e1] at h2
      cases h1; cases h2
      exact ⟨r.fnone hp, us, hl, hx.mono (Pl.app R _) (Ex.refl F)⟩
/-- a thing that may change, changed -/
theorem Rep.put (r : Rep T K R F S H) {n : Nat} {a : Addr} {o : HO} {k : Kd} {xs : List PV} {us : List V} (hn : R.as[n]? = some a) (hf : F a = none) (hl : Liv T K (L2.upd H a o) a k us) (hx : RelL T K R F xs us) (hp : ∃ u, H a = some u ∧ plainO u = true := by exact ⟨_, by assumption, rfl⟩) : Rep T K R F (S.set n (some (k, xs))) (L2.upd H a o) where
  ex := fun b u e => by
    have h : b ≠ a := fun z => by rw [z, hf] at e; cases e
    rw [upd_ne h]; exact r.ex b u e
  len := by rw [List.length_set]; exact r.len
  nd := r.nd
  there := fun b hb => by
    by_cases h : b = a
    · rw [h]; exact hl.plain_ne
    · rw [upd_ne h]; exact r.there b hb
  hidt := r.hidt
  ntb := r.ntb
  tabs := tabs_put r.tabs hp.choose_spec.1 hp.choose_spec.2
  hidnd := r.hidnd
  hid := fun q hq => by
    obtain ⟨h1, h2, h3⟩ := r.hid q hq
    have ne : q.1 ≠ a := fun z => h2 (by rw [z]; exact List.mem_of_getElem? hn)
    exact ⟨by rw [upd_ne ne]; exact h1, h2, h3⟩
  live := fun m b k' xs' h1 h2 => by
    by_cases e : n = m
    · subst e
      rw [hn] at h1; cases h1
      have hlt : n < S.length := by
        rw [← r.len]; exact (List.getElem?_eq_some_iff.mp hn).1
      rw [List.getElem?_set_self hlt] at h2
      cases h2
      exact ⟨hf, us, hl, hx⟩
    · rw [List.getElem?_set_ne e] at h2
      obtain ⟨h3, us', h4, h5⟩ := r.live m b k' xs' h1 h2
      have ne : b ≠ a := fun z => e (by
        subst z
        exact ((List.getElem?_inj (List.getElem?_eq_some_iff.mp hn).1 r.nd).mp (by rw [hn, h1])))
      exact ⟨h3, us', h4.upd ne, h5⟩
/-- a thing that may change, from now on not any more -/
theorem Rep.freeze (r : Rep T K R F S H) {n : Nat} {a : Addr} {o : HO} (hn : R.as[n]? = some a) (ho : H a = some o) (hf : F a = none) (ht : ∀ ps, o ≠ .tbl ps) : Rep T K R (L2.upd F a o) (S.set n none) H where
  ex := fun b u e => by
    by_cases h : b = a
    · subst h; rw [upd_same] at e; cases e; exact .inl ho
    · rw [upd_ne h] at e; exact r.ex b u e
  len := by rw [List.length_set]; exact r.len
  nd := r.nd
  there := r.there
  hidt := r.hidt
  ntb := fun b ps e => by
    by_cases h : b = a
    · rw [h, upd_same] at e; exact ht ps (Option.some.inj e)
    · rw [upd_ne h] at e; exact r.ntb b ps e
  tabs := r.tabs
  hidnd := r.hidnd
  hid := fun q hq => by
    obtain ⟨h1, h2, h3⟩ := r.hid q hq
    have ne : q.1 ≠ a := fun z => h2 (by rw [z]; exact List.mem_of_getElem? hn)
    exact ⟨h1, h2, by rw [upd_ne ne]; exact h3⟩
  live := fun m b k' xs' h1 h2 => by
    have e : n ≠ m := fun z => by
      subst z
      have hlt : n < S.length := by
        rw [← r.len]; exact (List.getElem?_eq_some_iff.mp hn).1
      rw [List.getElem?_set_self hlt] at h2
      cases h2
    rw [List.getElem?_set_ne e] at h2
    obtain ⟨h3, us', h4, h5⟩ := r.live m b k' xs' h1 h2
    have ne : b ≠ a := fun z => e (by
      subst z
      exact ((List.getElem?_inj (List.getElem?_eq_some_iff.mp hn).1 r.nd).mp (by rw [hn, h1])))
    exact ⟨by rw [upd_ne ne]; exact h3, us', h4, h5.mono (Pl.refl R) (ex_upd hf)⟩
end
/-- the compound behind a value -/
def view (x : PV) (S : Sto) : Option (Kd × List PV) := match x with
  | .nd k xs => some (k, xs)
  | .ref n => (S[n]?).join
  | _ => none
theorem view_nd (k : Kd) (xs : List PV) (S : Sto) : view (.nd k xs) S = some (k, xs) := rfl
theorem view_ref {n : Nat} {S : Sto} {k : Kd} {xs : List PV} (h : S[n]? = some (some (k, xs))) : view (.ref n) S = some (k, xs) := by
  show (S[n]?).join = _; rw [h]; rfl
section
variable {T : Tb} {K : PySem.W.Frag} {R : Pl} {F H : Hp} {S : Sto}
theorem view_rel (r : Rep T K R F S H) {x : PV} {u : V} (h : Rel T K R F x u) {k : Kd} {xs : List PV} (e : view x S = some (k, xs)) : ∃ a us, u = .ref a ∧ Shp T K H a k us ∧ RelL T K R F xs us := by
  cases x with
  | nd k' xs' =>
    cases e
    rw [Rel] at h
    obtain ⟨a, us, h1, h2, h3⟩ := h
    exact ⟨a, us, h1, h2.mono r.ex, h3⟩
  | ref n =>
    rw [Rel] at h
    obtain ⟨a, h1, h2⟩ := h
    have e' : (S[n]?).join = some (k, xs) := e
    have e2 : S[n]? = some (some (k, xs)) := by
      cases q : S[n]? with
      | none => rw [q] at e'; cases e'
      | some o => rw [q] at e'; cases o with
        | none => cases e'
        | some y => cases e'; rfl
    obtain ⟨_, us, h4, h5⟩ := r.live n a k xs h2 e2
    exact ⟨a, us, h1, h4.shp, h5⟩
  | _ => cases e
end

/-! ### sequencing -/
structure Go (T : Tb) (K : PySem.W.Frag) (E : XK) (β : Type) where
  ok : Pl → Hp → Out β → Prop
  mono : ∀ {R R' : Pl} {F F' : Hp} {o : Out β}, Pl.le R R' → Ex F F' → ok R F o → ok R' F' o
  err : ∀ {R : Pl} {F : Hp} {e : XV} {S : Sto}, ok R F (.err e S) → PostX T K R F e S E
  bad : ∀ {R : Pl} {F : Hp}, ¬ ok R F .bad
def goV (T : Tb) (K : PySem.W.Frag) (E : XK) (Q : VK) : Go T K E PV := ⟨fun R F o => OkV T K R F o Q E, fun p x h => OkV.mono p x h, fun h => h, fun h => h⟩
def goB (T : Tb) (K : PySem.W.Frag) (E : XK) (Q : Bool → Hp → Prop) : Go T K E Bool := ⟨fun R F o => OkB T K R F o Q E, fun p x h => OkB.mono p x h, fun h => h, fun h => h⟩
def goL (T : Tb) (K : PySem.W.Frag) (E : XK) (Q : List V → Hp → Prop) : Go T K E (List PV) := ⟨fun R F o => OkL T K R F o Q E, fun p x h => OkL.mono p x h, fun h => h, fun h => h⟩
section
variable {T : Tb} {K : PySem.W.Frag} {E : XS} {R : Pl} {F H : Hp} {S : Sto} {l : Loc} {σ : L2.St} {β : Type}
theorem seqV (G : Go T K (E σ) β) {d : DE} {k : PV → Sto → Out β} {C : VK} (r : Rep T K R F S H) (e : RelE T K R F l σ) (h : G.ok R F ((d l S).bind k))
    (hk : ∀ (x : PV) (S1 : Sto) (R1 : Pl) (F1 H1 : Hp) (u : V), Pl.le R R1 → Ex F F1 → Rep T K R1 F1 S1 H1 → Rel T K R1 F1 x u → RelE T K R1 F1 l σ → G.ok R1 F1 (k x S1) → C u H1) : tV T K E d σ H C := by
  refine ⟨R, F, l, S, r, e, ?_⟩
  cases hd : d l S with
  | ok x S1 =>
    rw [hd] at h
    exact fun R1 F1 H1 u p x' r1 rx => hk x S1 R1 F1 H1 u p x' r1 rx (e.mono p x') (G.mono p x' h)
  | err e' S1 => rw [hd] at h; exact G.err h
  | bad => rw [hd] at h; exact G.bad h
theorem seqT (G : Go T K (E σ) β) {d : DB} {k : Bool → Sto → Out β} {C : Bool → Hp → Prop} (r : Rep T K R F S H) (e : RelE T K R F l σ) (h : G.ok R F ((d l S).bind k))
    (hk : ∀ (x : Bool) (S1 : Sto) (R1 : Pl) (F1 H1 : Hp), Pl.le R R1 → Ex F F1 → Rep T K R1 F1 S1 H1 → RelE T K R1 F1 l σ → G.ok R1 F1 (k x S1) → C x H1) : tT T K E d σ H C := by
  refine ⟨R, F, l, S, r, e, ?_⟩
  cases hd : d l S with
  | ok x S1 =>
    rw [hd] at h
    exact fun R1 F1 H1 p x' r1 => hk x S1 R1 F1 H1 p x' r1 (e.mono p x') (G.mono p x' h)
  | err e' S1 => rw [hd] at h; exact G.err h
  | bad => rw [hd] at h; exact G.bad h
theorem seqL (G : Go T K (E σ) β) {d : DA} {k : List PV → Sto → Out β} {C : List V → Hp → Prop} (r : Rep T K R F S H) (e : RelE T K R F l σ) (h : G.ok R F ((d l S).bind k))
    (hk : ∀ (x : List PV) (S1 : Sto) (R1 : Pl) (F1 H1 : Hp) (u : List V), Pl.le R R1 → Ex F F1 → Rep T K R1 F1 S1 H1 → RelL T K R1 F1 x u → RelE T K R1 F1 l σ → G.ok R1 F1 (k x S1) → C u H1) : tL T K E d σ H C := by
  refine ⟨R, F, l, S, r, e, ?_⟩
  cases hd : d l S with
  | ok x S1 =>
    rw [hd] at h
    exact fun R1 F1 H1 u p x' r1 rx => hk x S1 R1 F1 H1 u p x' r1 rx (e.mono p x') (G.mono p x' h)
  | err e' S1 => rw [hd] at h; exact G.err h
  | bad => rw [hd] at h; exact G.bad h
/-- an expression's value handed on as it is -/
theorem PostV.here {v : PV} {u : V} {Q : VK} (r : Rep T K R F S H) (rv : Rel T K R F v u) (h : PostV T K R F v S Q) : Q u H := h R F H u (Pl.refl R) (Ex.refl F) r rv
theorem PostL.here {v : List PV} {u : List V} {Q : List V → Hp → Prop} (r : Rep T K R F S H) (rv : RelL T K R F v u) (h : PostL T K R F v S Q) : Q u H := h R F H u (Pl.refl R) (Ex.refl F) r rv
theorem PostB.here {v : Bool} {Q : Bool → Hp → Prop} (r : Rep T K R F S H) (h : PostB T K R F v S Q) : Q v H := h R F H (Pl.refl R) (Ex.refl F) r
theorem PostE.here {Q : L2.St → Hp → Prop} (r : Rep T K R F S H) (e : RelE T K R F l σ) (h : PostE T K R F l S Q) : Q σ H := h R F H σ (Pl.refl R) (Ex.refl F) r e
/-- a new compound that never changes any more, as the value -/
theorem PostV.new {k : Kd} {xs : List PV} {us : List V} {p : Addr} {o : HO} {Q : VK} (r : Rep T K R F S H) (hp : H p = none) (hs : Shp T K (L2.upd F p o) p k us) (hx : RelL T K R F xs us) (h : PostV T K R F (.nd k xs) S Q) (ho : ∀ ps, o ≠ .tbl ps := by intro _ h; cases h) : Q (.ref p) (L2.upd H p o) := by
  have e : Ex F (L2.upd F p o) := ex_upd (r.fnone hp)
  refine h R _ _ _ (Pl.refl R) e (r.frozen hp ho) ?_
  rw [Rel]
  exact ⟨p, us, rfl, hs, hx.mono (Pl.refl R) e⟩
/-- a new compound that may change, as the value -/
theorem PostV.newM {k : Kd} {xs : List PV} {us : List V} {p : Addr} {o : HO} {Q : VK} (r : Rep T K R F S H) (hp : H p = none) (hs : Liv T K (L2.upd H p o) p k us) (hx : RelL T K R F xs us) (h : PostV T K R F (.ref S.length) (S ++ [some (k, xs)]) Q) : Q (.ref p) (L2.upd H p o) := by
  refine h (R.add p) F _ _ (Pl.app R _) (Ex.refl F) (r.laid hp hs hx) ?_
  rw [Rel]
  exact ⟨p, rfl, by show (R.as ++ [p])[S.length]? = _; rw [← r.len, List.getElem?_append_right (Nat.le_refl _)]; simp⟩
end

/-! ### judgements -/
abbrev JE (T : Tb) (X : Cx) (E : XS) (e : Expr) (d : DE) : Prop := PE X e (tV T X.K E d)
abbrev JT (T : Tb) (X : Cx) (E : XS) (e : Expr) (d : DB) : Prop := PT X e (tT T X.K E d)
abbrev JW (T : Tb) (X : Cx) (E : XS) (e : Expr) (d : DB) : Prop := PW X e (tT T X.K E d)
abbrev JA (T : Tb) (X : Cx) (E : XS) (es : List Expr) (d : DA) : Prop := PA X es (tL T X.K E d)
abbrev JS (T : Tb) (X : Cx) (E : XS) (st : Stmt) (d : DS) : Prop := PS X st (tS T X.K E d)
abbrev JB (T : Tb) (X : Cx) (E : XS) (st : List Stmt) (d : DS) : Prop := PSs X st (tS T X.K E d)
theorem pe_imp {X : Cx} {e : Expr} {t t' : TE} (h : PE X e t) (i : ∀ σ H Q, t' σ H Q → t σ H Q) : PE X e t' := ⟨fun pins s σ H Q I q => h.run pins s σ H Q I (i σ H Q q)⟩
theorem pt_imp {X : Cx} {e : Expr} {t t' : TT} (h : PT X e t) (i : ∀ σ H Q, t' σ H Q → t σ H Q) : PT X e t' := ⟨fun pins s σ H Q I q => h.run pins s σ H Q I (i σ H Q q)⟩
theorem pw_imp {X : Cx} {e : Expr} {t t' : TT} (h : PW X e t) (i : ∀ σ H Q, t' σ H Q → t σ H Q) : PW X e t' := ⟨fun wh pins s σ H Q I q => h.run wh pins s σ H Q I (i σ H Q q)⟩
theorem pa_imp {X : Cx} {e : List Expr} {t t' : TA} (h : PA X e t) (i : ∀ σ H Q, t' σ H Q → t σ H Q) : PA X e t' := ⟨fun pos pins s σ H Q I q => h.run pos pins s σ H Q I (i σ H Q q)⟩
theorem ps_imp {X : Cx} {e : Stmt} {t t' : TS} (h : PS X e t) (i : ∀ D σ H, t' D σ H → t D σ H) : PS X e t' := ⟨fun pins s σ H D I q => h.run pins s σ H D I (i D σ H q)⟩
theorem pss_imp {X : Cx} {e : List Stmt} {t t' : TS} (h : PSs X e t) (i : ∀ D σ H, t' D σ H → t D σ H) : PSs X e t' := ⟨fun pins s σ H D I q => h.run pins s σ H D I (i D σ H q)⟩

/-! ### names, constants -/
def dVar (i : Nat) : DE := fun l S => match l[i]? with
  | some (some v) => .ok v S
  | _ => .bad
def dC (v : PV) : DE := fun _ S => .ok v S
/-- a value that has no address, as the layer's -/
def PV.at0 : PV → Option V
  | .non => some .non
  | .bl b => some (.bl b)
  | .int i => some (.int i)
  | .str x => some (.str x)
  | .ty n => some (.ty n)
  | _ => none
theorem rel_at0 {T : Tb} {K : PySem.W.Frag} {R : Pl} {F : Hp} {v : PV} {u : V} (h : v.at0 = some u) : Rel T K R F v u := by
  cases v <;> simp [PV.at0] at h <;> subst h <;> simp [Rel]
section
variable {T : Tb} {X : Cx} {E : XS}
theorem je_var (i : Nat) {x : Str} {pos : Pos} (hN : X.N[i]? = some x := by rfl) (hv : Vis X.env.scope x := by first | exact Or.inl rfl | exact Or.inr (Or.inl rfl) | exact Or.inr (Or.inr rfl)) (hd : (x == ("__debug__" : Str)) = false := by decide)
    (hcd : (x == ("__classdict__" : Str)) = false := by decide) : JE T X E (.Name x pos) (dVar i) := by
  refine pe_imp (pe_var (i := i) hN hv hd hcd) fun σ H Q ⟨R, F, l, S, r, e, h⟩ => ?_
  unfold dVar at h
  split at h
  · rename_i v hv'
    obtain ⟨u, h1, h2⟩ := e.at_ i v hv'
    exact ⟨u, h1, PostV.here r h2 h⟩
  · exact h.elim
theorem je_c {e : Expr} {v : PV} {u : V} (hu : v.at0 = some u) (h : PE X e (tC u)) : JE T X E e (dC v) :=
  pe_imp h fun σ H Q ⟨R, F, l, S, r, e, h⟩ => PostV.here r (rel_at0 hu) h
theorem je_int {i : Int} {j pos} : JE T X E (.Constant (.int i) j pos) (dC (.int i)) := je_c rfl pe_int
theorem je_bl {i : Bool} {j pos} : JE T X E (.Constant (.bool i) j pos) (dC (.bl i)) := je_c rfl pe_bl
theorem je_non {j pos} : JE T X E (.Constant .none j pos) (dC .non) := je_c rfl pe_non
theorem je_str {x : Str} {j pos} : JE T X E (.Constant (.str x) j pos) (dC (.str x)) := je_c rfl pe_str
theorem je_gint {x : Str} {i : Int} {pos : Pos} (hm : ∃ t, X.mg x = some (.int i t)) (hg : Gl X x := by rfl) (hd : (x == ("__debug__" : Str)) = false := by decide) : JE T X E (.Name x pos) (dC (.int i)) :=
  let ⟨t, h⟩ := hm; je_c rfl (pe_glob hg h (v := .int i) ⟨t, rfl⟩ hd)
theorem je_gstr {x z : Str} {pos : Pos} (hm : ∃ t, X.mg x = some (.str z t)) (hg : Gl X x := by rfl) (hd : (x == ("__debug__" : Str)) = false := by decide) : JE T X E (.Name x pos) (dC (.str z)) :=
  let ⟨t, h⟩ := hm; je_c rfl (pe_glob hg h (v := .str z) ⟨t, rfl⟩ hd)
/-- a built-in type, a class of the text, as a value -/
theorem je_ty {x : Str} {n : String} {pos : Pos} (hm : X.mg x = none) (hv : bootBuiltins x = some (.type n)) (hg : Gl X x := by rfl) (hn : x ≠ "__name__" := by decide) (hd : (x == ("__debug__" : Str)) = false := by decide) : JE T X E (.Name x pos) (dC (.ty n)) :=
  je_c rfl (pe_bltn hg hm hv (v := .ty n) rfl hn hd)
theorem je_cls {x : Str} {c : Nat} {pos : Pos} (hm : X.mg x = some (.ref (T.ca X.K c))) (hg : Gl X x := by rfl) (hd : (x == ("__debug__" : Str)) = false := by decide) : JE T X E (.Name x pos) (dC (.cls c)) :=
  pe_imp (pe_glob hg hm (v := .ref (T.ca X.K c)) rfl hd) fun σ H Q ⟨R, F, l, S, r, e, h⟩ => PostV.here (v := .cls c) r (by rw [Rel]) h

/-! ### argument lists, displays -/
def dNil : DA := fun _ S => .ok [] S
def dCons (a : DE) (r : DA) : DA := fun l S => (a l S).bind fun x S1 => (r l S1).bind fun xs S2 => .ok (x :: xs) S2
variable {e : Expr} {es : List Expr} {a : DE} {ar : DA}
theorem ja_nil : JA T X E [] dNil := pa_imp pa_nil fun σ H Q ⟨R, F, l, S, r, e, h⟩ => PostL.here r .nil h
theorem ja_cons (ha : JE T X E e a) (hr : JA T X E es ar) (hs : starEach (e :: es) X.env = (false, eval e X.env) :: starEach es X.env := by rfl) : JA T X E (e :: es) (dCons a ar) := by
  refine pa_imp (pa_cons ha hr hs) fun σ H Q ⟨R, F, l, S, r, e, h⟩ => ?_
  refine seqV (goL T X.K (E σ) Q) r e h fun x S1 R1 F1 H1 u p ex r1 rx e1 h1 => ?_
  refine seqL (goL T X.K (E σ) Q) r1 e1 h1 fun xs S2 R2 F2 H2 us p2 ex2 r2 rxs e2 h2 => ?_
  exact PostL.here r2 (.cons (rx.mono p2 ex2) rxs) h2
def mkNd (k : Kd) (xs : List PV) (S : Sto) : Out PV := if xs.length ≤ 16777216 then .ok (.nd k xs) S else .bad
def mkRf (k : Kd) (xs : List PV) (S : Sto) : Out PV := if xs.length ≤ 16777216 then .ok (.ref S.length) (S ++ [some (k, xs)]) else .bad
def dTup (t : DA) : DE := fun l S => (t l S).bind fun xs S1 => mkNd .tup xs S1
def dLst (t : DA) : DE := fun l S => (t l S).bind fun xs S1 => mkNd .lst xs S1
def dLstM (t : DA) : DE := fun l S => (t l S).bind fun xs S1 => mkRf .lst xs S1
theorem sz16 {n : Nat} (h : n ≤ 16777216) : n ≤ sizeLine := by rw [sizeLine_eq]; exact h
theorem je_tup {k pos} (h : JA T X E es ar) : JE T X E (.Tuple es k pos) (dTup ar) := by
  refine pe_imp (pe_tup h) fun σ H Q ⟨R, F, l, S, r, e, h⟩ => ?_
  refine seqL (goV T X.K (E σ) Q) r e h fun xs S1 R1 F1 H1 us p ex r1 rx e1 h1 => ?_
  have h1 : OkV T X.K R1 F1 (mkNd .tup xs S1) Q (E σ) := h1
  unfold mkNd at h1
  split at h1
  · rename_i hz
    exact ⟨sz16 (by rw [rx.length]; exact hz), fun q hq => PostV.new (k := .tup) r1 hq upd_same rx h1⟩
  · exact h1.elim
theorem je_lst {pos} (h : JA T X E es ar) : JE T X E (.List es pos) (dLst ar) := by
  refine pe_imp (pe_lst h) fun σ H Q ⟨R, F, l, S, r, e, h⟩ => ?_
  refine seqL (goV T X.K (E σ) Q) r e h fun xs S1 R1 F1 H1 us p ex r1 rx e1 h1 => ?_
  have h1 : OkV T X.K R1 F1 (mkNd .lst xs S1) Q (E σ) := h1
  unfold mkNd at h1
  split at h1
  · rename_i hz
    exact ⟨sz16 (by rw [rx.length]; exact hz), fun q hq => PostV.new (k := .lst) r1 hq upd_same rx h1⟩
  · exact h1.elim
theorem je_lstM {pos} (h : JA T X E es ar) : JE T X E (.List es pos) (dLstM ar) := by
  refine pe_imp (pe_lst h) fun σ H Q ⟨R, F, l, S, r, e, h⟩ => ?_
  refine seqL (goV T X.K (E σ) Q) r e h fun xs S1 R1 F1 H1 us p ex r1 rx e1 h1 => ?_
  have h1 : OkV T X.K R1 F1 (mkRf .lst xs S1) Q (E σ) := h1
  unfold mkRf at h1
  split at h1
  · rename_i hz
    exact ⟨sz16 (by rw [rx.length]; exact hz), fun q hq => PostV.newM (k := .lst) r1 hq upd_same rx h1⟩
  · exact h1.elim
end
end Z
end
section
set_option Elab.async false
set_option linter.all false
set_option maxRecDepth 100000
set_option maxHeartbeats 1000000
/-! Z3: operators and comparisons by values. -/
namespace Z
open PySem PySem.Spec PyProof.Rows L2

/-- an operation on values and the layer's reading of it -/
def OpZ (T : Tb) (K : PySem.W.Frag) (f : PV → PV → Sto → Out PV) (r : R2) : Prop := ∀ (E : XK) (R : Pl) (F H : Hp) (S : Sto) (x y : PV) (u w : V) (Q : VK), Rep T K R F S H → Rel T K R F x u → Rel T K R F y w → OkV T K R F (f x y S) Q E → r u w H Q
def dBin (f : PV → PV → Sto → Out PV) (a b : DE) : DE := fun l S => (a l S).bind fun x S1 => (b l S1).bind fun y S2 => f x y S2
section
variable {T : Tb} {X : Cx} {E : XS} {a b : Expr} {da db : DE} {pos : Pos}
theorem bin_tOp {f : PV → PV → Sto → Out PV} {r : R2} (hz : OpZ T X.K f r) {σ : L2.St} {H : Hp} {Q : VK} (h : tV T X.K E (dBin f da db) σ H Q) : tOp r (tV T X.K E da) (tV T X.K E db) σ H Q := by
  obtain ⟨R, F, l, S, re, e, h⟩ := h
  refine seqV (goV T X.K (E σ) Q) re e h fun x S1 R1 F1 H1 u p ex r1 rx e1 h1 => ?_
  refine seqV (goV T X.K (E σ) Q) r1 e1 h1 fun y S2 R2 F2 H2 w p2 ex2 r2 ry e2 h2 => ?_
  exact hz (E σ) R2 F2 H2 S2 x y u w Q r2 (rx.mono p2 ex2) ry h2
theorem je_bin {op : Operator} {f : PV → PV → Sto → Out PV} {r : R2} (ho : OpR X (binaryOp op) r) (hz : OpZ T X.K f r) (ha : JE T X E a da) (hb : JE T X E b db) : JE T X E (.BinOp a op b pos) (dBin f da db) :=
  pe_imp (pe_op ho ha hb) fun _ _ _ h => bin_tOp hz h
theorem je_cmp {op : CmpOp} {f : PV → PV → Sto → Out PV} {r : R2} (ho : OpR X (compareOp op) r) (hz : OpZ T X.K f r) (ha : JE T X E a da) (hb : JE T X E b db) (hm : behindInMarks op b = false := by rfl) : JE T X E (.Compare a [op] [b] pos) (dBin f da db) :=
  pe_imp (pe_cmpR ho ha hb hm) fun _ _ _ h => bin_tOp hz h
/-- a value that is a bool, as a test -/
def asB (o : Out PV) : Out Bool := o.bind fun x S => match x with
  | .bl b => .ok b S
  | _ => .bad
def dB (d : DE) : DB := fun l S => asB (d l S)
theorem tB_of {t : TE} (hi : ∀ (σ : L2.St) (H : Hp) (Q : VK), tV T X.K E da σ H Q → t σ H Q) {σ : L2.St} {H : Hp} {Q : Bool → Hp → Prop} (h : tT T X.K E (dB da) σ H Q) : t σ H fun x H' => ∃ k, x = .bl k ∧ Q k H' := by
  obtain ⟨R, F, l, S, re, e, h⟩ := h
  refine hi σ H _ (seqV (goB T X.K (E σ) Q) re e h fun x S1 R1 F1 H1 u p ex r1 rx e1 h1 => ?_)
  cases x with
  | bl k =>
    rw [Rel] at rx
    exact ⟨k, rx, PostB.here r1 h1⟩
  | _ => exact h1.elim
theorem jt_cmp {op : CmpOp} {f : PV → PV → Sto → Out PV} {r : R2} (ho : OpR X (compareOp op) r) (hz : OpZ T X.K f r) (ha : JE T X E a da) (hb : JE T X E b db) (hm : behindInMarks op b = false := by rfl) : JT T X E (.Compare a [op] [b] pos) (dB (dBin f da db)) :=
  pt_imp (pt_cmpR ho ha hb hm) fun _ _ _ h => tB_of (fun _ _ _ q => bin_tOp hz q) h
/-- a < b < c -/
def dChain (f g : PV → PV → Sto → Out PV) (a b c : DE) : DE := fun l S => (a l S).bind fun x S1 => (b l S1).bind fun y S2 => (asB (f x y S2)).bind fun k S3 => if k = true then (c l S3).bind fun z S4 => g y z S4 else .ok (.bl false) S3
theorem chain_t {f g : PV → PV → Sto → Out PV} {r r' : R2} {dc : DE} (hf : OpZ T X.K f r) (hg : OpZ T X.K g r') {σ : L2.St} {H : Hp} {Q : VK} (h : tV T X.K E (dChain f g da db dc) σ H Q) : tChain r r' (tV T X.K E da) (tV T X.K E db) (tV T X.K E dc) σ H Q := by
  obtain ⟨R, F, l, S, re, e, h⟩ := h
  refine seqV (goV T X.K (E σ) Q) re e h fun x S1 R1 F1 H1 u p ex r1 rx e1 h1 => ?_
  refine seqV (goV T X.K (E σ) Q) r1 e1 h1 fun y S2 R2 F2 H2 w p2 ex2 r2 ry e2 h2 => ?_
  refine hf (E σ) R2 F2 H2 S2 x y u w _ r2 (rx.mono p2 ex2) ry ?_
  have h2 : OkV T X.K R2 F2 ((asB (f x y S2)).bind fun k S3 => if k = true then (dc l S3).bind fun z S4 => g y z S4 else .ok (.bl false) S3) Q (E σ) := h2
  cases hfx : f x y S2 with
  | bad => rw [hfx] at h2; exact h2.elim
  | err x' S3 => rw [hfx] at h2; exact h2
  | ok v S3 =>
    rw [hfx] at h2
    intro R3 F3 H3 z p3 ex3 r3 rz
    cases v with
    | bl k =>
      rw [Rel] at rz
      refine ⟨k, rz, ?_⟩
      cases k with
      | false => exact PostV.here r3 (by rw [Rel]) (OkV.mono p3 ex3 h2)
      | true =>
        have h3 : OkV T X.K R3 F3 ((dc l S3).bind fun z S4 => g y z S4) Q (E σ) := OkV.mono p3 ex3 h2
        refine seqV (goV T X.K (E σ) Q) r3 (e2.mono p3 ex3) h3 fun z' S4 R4 F4 H4 w4 p4 ex4 r4 rz4 e4 h4 => ?_
        exact hg (E σ) R4 F4 H4 S4 y z' w w4 Q r4 ((ry.mono p3 ex3).mono p4 ex4) rz4 h4
    | _ => exact h2.elim
theorem je_chain {c : Expr} {op op' : CmpOp} {f g : PV → PV → Sto → Out PV} {r r' : R2} {dc : DE} (ho : OpR X (compareOp op) r) (hf : OpZ T X.K f r) (ho' : OpR X (compareOp op') r') (hg : OpZ T X.K g r') (ha : JE T X E a da) (hb : JE T X E b db) (hc : JE T X E c dc)
    (hm : lastMarks [op, op'] [b, c] = false := by with_unfolding_all rfl) : JE T X E (.Compare a [op, op'] [b, c] pos) (dChain f g da db dc) :=
  pe_imp (pe_chain ho ho' ha hb hc hm) fun _ _ _ h => chain_t hf hg h
theorem jt_chain {c : Expr} {op op' : CmpOp} {f g : PV → PV → Sto → Out PV} {r r' : R2} {dc : DE} (ho : OpR X (compareOp op) r) (hf : OpZ T X.K f r) (ho' : OpR X (compareOp op') r') (hg : OpZ T X.K g r') (ha : JE T X E a da) (hb : JE T X E b db) (hc : JE T X E c dc)
    (hm : lastMarks [op, op'] [b, c] = false := by with_unfolding_all rfl) : JT T X E (.Compare a [op, op'] [b, c] pos) (dB (dChain f g da db dc)) :=
  pt_imp (pt_chain ho ho' ha hb hc hm) fun _ _ _ h => tB_of (fun _ _ _ q => chain_t hf hg q) h
end

/-! ### arithmetic -/
set_option exponentiation.threshold 500000 in
@[irreducible] def BIG : Nat := 2 ^ 400000
set_option exponentiation.threshold 10000 in
@[irreducible] def DIVB : Nat := 2 ^ 9000
theorem BIG_eq : BIG = 2 ^ 400000 := by unfold BIG; rfl
theorem DIVB_eq : DIVB = 2 ^ 9000 := by unfold DIVB; rfl
theorem lt_BIG {n k : Nat} (h : n < 2 ^ k) (hk : k ≤ 400000) : n < BIG := by
  rw [BIG_eq]; exact Nat.lt_of_lt_of_le h (Nat.pow_le_pow_right (by omega) hk)
theorem lt_DIVB {n k : Nat} (h : n < 2 ^ k) (hk : k ≤ 9000) : n < DIVB := by
  rw [DIVB_eq]; exact Nat.lt_of_lt_of_le h (Nat.pow_le_pow_right (by omega) hk)
def mulOk (i j : Int) : Prop := i.natAbs < 2 ^ 64 ∨ j.natAbs < 2 ^ 64 ∨ (i.natAbs < BIG ∧ j.natAbs < BIG)
instance (i j : Int) : Decidable (mulOk i j) := by unfold mulOk; infer_instance
theorem mulOk.ok {i j : Int} (h : mulOk i j) : IntMulOk i j := by
  rcases h with h | h | ⟨h1, h2⟩
  · exact CMul.ok (.inl ⟨by omega, by omega⟩)
  · exact CMul.ok (.inr ⟨by omega, by omega⟩)
  · rw [BIG_eq] at h1 h2
    exact CMulW.ok (wide_mul h1 h2 (by decide) (by decide) (by decide))
def addP (x y : PV) (S : Sto) : Out PV := match x with
  | .int i => (match y with
    | .int j => .ok (.int (i + j)) S
    | .bl k => .ok (.int (i + b2i k)) S
    | _ => .bad)
  | .str a => (match y with
    | .str b => if a.length + b.length ≤ 16777216 then .ok (.str (a ++ b)) S else .bad
    | _ => .bad)
  | x => match view x S, view y S with
    | some (.lst, xs), some (.lst, ys) => mkNd .lst (xs ++ ys) S
    | some (.tup, xs), some (.tup, ys) => mkNd .tup (xs ++ ys) S
    | _, _ => .bad
def subP (x y : PV) (S : Sto) : Out PV := match x, y with
  | .int i, .int j => .ok (.int (i - j)) S
  | _, _ => .bad
def mulP (x y : PV) (S : Sto) : Out PV := match x with
  | .int i => (match y with
    | .int j => if mulOk i j then .ok (.int (i * j)) S else .bad
    | _ => .bad)
  | .str a => (match y with
    | .int j => if 0 ≤ j ∧ j < 2 ^ 62 ∧ a.length * j.toNat ≤ 16777216 then .ok (.str ⟨(List.replicate j.toNat a.cps.toList).flatten.toArray⟩) S else .bad
    | _ => .bad)
  | x => match view x S with
    | some (.lst, xs) => (match y with
      | .int j => if 0 ≤ j ∧ j < 2 ^ 62 ∧ xs.length * j.toNat ≤ 16777216 then .ok (.nd .lst (List.replicate j.toNat xs).flatten) S else .bad
      | _ => .bad)
    | _ => .bad
def divP (x y : PV) (S : Sto) : Out PV := match x, y with
  | .int i, .int j => if 0 < j ∧ j.natAbs < DIVB then .ok (.int (i / j)) S else if j ≠ 0 ∧ j.natAbs < DIVB then .ok (.int (i.fdiv j)) S else .bad
  | _, _ => .bad
def modP (x y : PV) (S : Sto) : Out PV := match x, y with
  | .int i, .int j => if 0 < j then .ok (.int (i % j)) S else if j ≠ 0 then .ok (.int (i.fmod j)) S else .bad
  | _, _ => .bad
def powP (x y : PV) (S : Sto) : Out PV := match x, y with
  | .int i, .int j => if 0 ≤ j ∧ j ≤ 1000000 ∧ i.natAbs < 2 ^ 64 then .ok (.int (i ^ j.toNat)) S else .bad
  | _, _ => .bad
section
variable {T : Tb} {X : Cx} {K : PySem.W.Frag}
theorem rel_int {R : Pl} {F : Hp} {i : Int} {u : V} (h : Rel T K R F (.int i) u) : u = .int i := by rw [Rel] at h; exact h
theorem rel_str {R : Pl} {F : Hp} {i : Str} {u : V} (h : Rel T K R F (.str i) u) : u = .str i := by rw [Rel] at h; exact h
theorem rel_bl {R : Pl} {F : Hp} {i : Bool} {u : V} (h : Rel T K R F (.bl i) u) : u = .bl i := by rw [Rel] at h; exact h
theorem rel_non {R : Pl} {F : Hp} {u : V} (h : Rel T K R F .non u) : u = .non := by rw [Rel] at h; exact h
theorem rel_ty {R : Pl} {F : Hp} {n : String} {u : V} (h : Rel T K R F (.ty n) u) : u = .ty n := by rw [Rel] at h; exact h
theorem rel_cls {R : Pl} {F : Hp} {n : Nat} {u : V} (h : Rel T K R F (.cls n) u) : u = .ref (T.ca K n) := by rw [Rel] at h; exact h
/-- a tuple never stands in the store -/
theorem tup_nd {R : Pl} {F H : Hp} {S : Sto} (r : Rep T K R F S H) {x : PV} {u : V} (rx : Rel T K R F x u) {xs : List PV} (h : view x S = some (.tup, xs)) : x = .nd .tup xs := by
  cases x with
  | nd k zs => cases h; rfl
  | ref n =>
    exfalso
    rw [Rel] at rx
    obtain ⟨b', _, hb'⟩ := rx
    have e' : (S[n]?).join = some (.tup, xs) := h
    cases q : S[n]? with
    | none => rw [q] at e'; cases e'
    | some o =>
      rw [q] at e'
      cases o with
      | none => cases e'
      | some y => cases e'; obtain ⟨_, us', h4, _⟩ := r.live n b' _ _ hb' q; exact h4
  | _ => cases h
def rMulZ : R2 := rI IntMulOk fun i j => .int (i * j)
theorem op_mulZ : OpR X (binaryOp .Mult) rMulZ := opI fun _ _ _ _ _ _ _ hc q => mul_int q hc
def rDivZ : R2 := rI (fun _ j => j ≠ 0 ∧ j.natAbs < DIVB) fun i j => .int (i.fdiv j)
theorem op_divZ : OpR X (binaryOp .FloorDiv) rDivZ := opI fun i j _ _ _ _ _ hc q => floordiv_int hc.1 q (.inl (PyProof.noPylong_of_log2 (by
  have h := hc.2
  rw [DIVB_eq] at h
  exact PySem.Flt.log2_lt_of (by decide) h)))
abbrev rAddZ (K : PySem.W.Frag) : R2 := fun x y H Q => rI0 (fun i j => .int (i + j)) x y H Q ∨ (∃ i k, x = .int i ∧ y = .bl k ∧ Q (.int (i + b2i k)) H) ∨ (∃ i j, x = .str i ∧ y = .str j ∧ i.length + j.length ≤ sizeLine ∧ Q (.str (i ++ j)) H) ∨ rCat x y H Q ∨ rCatA K x y H Q
theorem op_addZ : OpR X (binaryOp .Add) (rAddZ X.K) := OpR.or op_add (OpR.or op_add_ib (OpR.or op_add_str (OpR.or op_cat op_catA)))
theorem oz_add : OpZ T K addP (rAddZ K) := by
  intro E R F H S x y u w Q r rx ry h
  cases x with
  | int i =>
    have := rel_int rx; subst this
    cases y with
    | int j =>
      have := rel_int ry; subst this
      exact .inl ⟨i, j, rfl, rfl, PostV.here r (by rw [Rel]) h⟩
    | bl k =>
      have := rel_bl ry; subst this
      exact .inr (.inl ⟨i, k, rfl, rfl, PostV.here r (by rw [Rel]) h⟩)
    | _ => exact h.elim
  | str a =>
    have := rel_str rx; subst this
    cases y with
    | str b =>
      have := rel_str ry; subst this
      have h : OkV T K R F (if a.length + b.length ≤ 16777216 then .ok (.str (a ++ b)) S else .bad) Q E := h
      split at h
      · rename_i hz
        exact .inr (.inr (.inl ⟨a, b, rfl, rfl, sz16 hz, PostV.here r (by rw [Rel]) h⟩))
      · exact h.elim
    | _ => exact h.elim
  | _ =>
    all_goals
      simp only [addP] at h
      split at h
      · rename_i xs ys h1 h2
        obtain ⟨a, us, rfl, sa, ra⟩ := view_rel r rx h1
        obtain ⟨b, ws, rfl, sb, rb⟩ := view_rel r ry h2
        unfold mkNd at h
        split at h
        · rename_i hz
          refine .inr (.inr (.inr (.inl ⟨a, b, us, ws, rfl, rfl, sa, sb, sz16 ?_, fun p hp => PostV.new (k := .lst) r hp upd_same (ra.append rb) h⟩)))
          rw [ra.length, rb.length, ← List.length_append]; exact hz
        · exact h.elim
      · rename_i xs ys h1 h2
        obtain ⟨a, us, ea, sa, ra⟩ := view_rel r rx h1
        obtain ⟨b, ws, eb, sb, rb⟩ := view_rel r ry h2
        unfold mkNd at h
        split at h
        · rename_i hz
          refine .inr (.inr (.inr (.inr ⟨a, b, us, ws, ea, eb, SqT.of sa, SqT.of sb, sz16 ?_, fun z => ?_, fun z z2 => ?_, fun z z2 p hp => PostV.new (k := .tup) r hp upd_same (ra.append rb) h⟩)))
          · rw [ra.length, rb.length, ← List.length_append]; exact hz
          · have hx : xs = [] := by
              have := ra.length; rw [z] at this; exact List.length_eq_zero_iff.mp this.symm
            subst hx
            have hy := tup_nd r ry h2
            subst hy
            rw [← eb]
            exact PostV.here r ry h
          · have hy : ys = [] := by
              have := rb.length; rw [z2] at this; exact List.length_eq_zero_iff.mp this.symm
            subst hy
            rw [← ea]
            have hx := tup_nd r rx h1
            rw [hx] at rx
            exact PostV.here r rx (by rw [List.append_nil] at h; exact h)
        · exact h.elim
      · exact h.elim
theorem oz_sub : OpZ T K subP (rI0 fun i j => .int (i - j)) := by
  intro E R F H S x y u w Q r rx ry h
  unfold subP at h
  split at h
  · have := rel_int rx; subst this
    have := rel_int ry; subst this
    exact ⟨_, _, rfl, rfl, PostV.here r (by rw [Rel]) h⟩
  · exact h.elim
theorem oz_div : OpZ T K divP rDivZ := by
  intro E R F H S x y u w Q r rx ry h
  unfold divP at h
  split at h
  · have := rel_int rx; subst this
    have := rel_int ry; subst this
    rename_i i j
    split at h
    · rename_i hj
      refine ⟨i, j, rfl, rfl, ⟨by omega, hj.2⟩, ?_⟩
      show Q (V.int (i.fdiv j)) H
      rw [Int.fdiv_eq_ediv_of_nonneg i (by omega)]
      exact PostV.here r (by rw [Rel]) h
    · split at h
      · rename_i hj
        exact ⟨_, _, rfl, rfl, hj, PostV.here r (by rw [Rel]) h⟩
      · exact h.elim
  · exact h.elim
theorem oz_mod : OpZ T K modP (rI (fun _ j => j ≠ 0) fun i j => .int (i.fmod j)) := by
  intro E R F H S x y u w Q r rx ry h
  unfold modP at h
  split at h
  · have := rel_int rx; subst this
    have := rel_int ry; subst this
    rename_i i j
    split at h
    · rename_i hj
      refine ⟨i, j, rfl, rfl, by omega, ?_⟩
      show Q (V.int (i.fmod j)) H
      rw [Int.fmod_eq_emod_of_nonneg i (by omega)]
      exact PostV.here r (by rw [Rel]) h
    · split at h
      · rename_i hj
        exact ⟨_, _, rfl, rfl, hj, PostV.here r (by rw [Rel]) h⟩
      · exact h.elim
  · exact h.elim
theorem oz_pow : OpZ T K powP (rI CPow fun i j => .int (i ^ j.toNat)) := by
  intro E R F H S x y u w Q r rx ry h
  unfold powP at h
  split at h
  · have := rel_int rx; subst this
    have := rel_int ry; subst this
    split at h
    · rename_i hj
      exact ⟨_, _, rfl, rfl, hj, PostV.here r (by rw [Rel]) h⟩
    · exact h.elim
  · exact h.elim
end
end Z
end
section
set_option Elab.async false
set_option linter.all false
set_option maxRecDepth 100000
set_option maxHeartbeats 1000000
/-! Z4: products, comparisons, truth. -/
namespace Z
open PySem PySem.Spec PyProof.Rows L2

/-! ### products -/
def strMul (a : Str) (n : Int) : Str := if n < 1 then Str.empty else if (n == 1 || a.length == 0) = true then a else ⟨(List.replicate n.toNat a.cps).foldl (· ++ ·) #[]⟩
def mulZ (x y : PV) (S : Sto) : Out PV := match x with
  | .int i => (match y with
    | .int j => if mulOk i j then .ok (.int (i * j)) S else .bad
    | _ => .bad)
  | .str a => (match y with
    | .int j => if j < 2 ^ 40 ∧ -(2 ^ 40) < j ∧ a.length * j.toNat ≤ 16777216 then .ok (.str (strMul a j)) S else .bad
    | _ => .bad)
  | x => match view x S with
    | some (.lst, xs) => (match y with
      | .int j => if j < 2 ^ 40 ∧ -(2 ^ 40) < j ∧ xs.length * j.toNat ≤ 16777216 then .ok (.nd .lst (List.replicate j.toNat xs).flatten) S else .bad
      | _ => .bad)
    | _ => .bad
section
variable {T : Tb} {X : Cx} {K : PySem.W.Frag}
def rMulS : R2 := fun x y H Q => ∃ a j, x = .str a ∧ y = .int j ∧ (j < 2 ^ 40 ∧ -(2 ^ 40) < j ∧ a.length * j.toNat ≤ 16777216) ∧ Q (.str (strMul a j)) H
theorem foldl_app_size : ∀ (k : Nat) (a acc : Array Nat), ((List.replicate k a).foldl (· ++ ·) acc).size = acc.size + k * a.size
  | 0, a, acc => by simp
  | k + 1, a, acc => by
    rw [List.replicate_succ, List.foldl_cons, foldl_app_size k a (acc ++ a), Array.size_append, Nat.succ_mul]
    omega
theorem op_mulS : OpR X (binaryOp .Mult) rMulS := by
  intro pins s σ H x y v u Q I rx ry h
  obtain ⟨a, j, rfl, rfl, ⟨h1, h2, h3⟩, q⟩ := h
  obtain ⟨t, rfl⟩ := rx
  obtain ⟨t', rfl⟩ := ry
  have hs : sizeLine = 16777216 := sizeLine_eq
  refine PySem.P.mul_str ?_ (fun hn hz => ?_) (fun hn hz => ?_) ?_
  · rw [decide_eq_false (by omega), decide_eq_false (by omega)]; rfl
  · rw [Bool.or_eq_false_iff] at hz
    have hj : 1 ≤ j := by omega
    have h4 : a.length ≤ 16777216 := Nat.le_trans (Nat.le_mul_of_pos_right _ (by omega)) h3
    have h5 : (a.length : Int) * j ≤ 16777216 := by
      have e : (j.toNat : Int) = j := Int.toNat_of_nonneg (by omega)
      have h7 : ((a.length * j.toNat : Nat) : Int) ≤ ((16777216 : Nat) : Int) := Int.ofNat_le.mpr h3
      rw [Int.natCast_mul, e] at h7
      exact h7
    have h6 : (a.length : Int) ≤ (2 ^ 63 - 1) / j := by
      rw [Int.le_ediv_iff_mul_le (by omega)]
      omega
    omega
  · unfold Builtin.Str.tooLong
    exact decide_eq_false (by omega)
  · unfold strMul at q
    split
    · rename_i hn
      rw [if_pos hn] at q
      exact ⟨by decide, ⟨.str Str.empty, H, I.tok _, ⟨_, rfl⟩, q⟩⟩
    · rename_i hn
      rw [if_neg hn] at q
      split
      · rename_i hz
        rw [if_pos hz] at q
        exact ⟨.str a, H, I, ⟨_, rfl⟩, q⟩
      · rename_i hz
        rw [if_neg hz] at q
        refine ⟨?_, ⟨.str _, H, I.tok _, ⟨_, rfl⟩, q⟩⟩
        show ((List.replicate j.toNat a.cps).foldl (· ++ ·) #[]).size ≤ sizeLine
        rw [foldl_app_size, hs]
        have e : a.cps.size = a.length := rfl
        rw [e, Nat.mul_comm]
        have e0 : (#[] : Array Nat).size = 0 := rfl
        omega
abbrev rMulA : R2 := fun x y H Q => rMulZ x y H Q ∨ rMulS x y H Q ∨ rRep x y H Q
theorem op_mulA : OpR X (binaryOp .Mult) rMulA := OpR.or op_mulZ (OpR.or op_mulS op_rep)
theorem oz_mul : OpZ T K mulZ rMulA := by
  intro E R F H S x y u w Q r rx ry h
  cases x with
  | int i =>
    have := rel_int rx; subst this
    cases y with
    | int j =>
      have := rel_int ry; subst this
      have h : OkV T K R F (if mulOk i j then .ok (.int (i * j)) S else .bad) Q E := h
      split at h
      · rename_i hz
        exact .inl ⟨i, j, rfl, rfl, hz.ok, PostV.here r (by rw [Rel]) h⟩
      · exact h.elim
    | _ => exact h.elim
  | str a =>
    have := rel_str rx; subst this
    cases y with
    | int j =>
      have := rel_int ry; subst this
      have h : OkV T K R F (if j < 2 ^ 40 ∧ -(2 ^ 40) < j ∧ a.length * j.toNat ≤ 16777216 then .ok (.str (strMul a j)) S else .bad) Q E := h
      split at h
      · rename_i hz
        exact .inr (.inl ⟨a, j, rfl, rfl, hz, PostV.here r (by rw [Rel]) h⟩)
      · exact h.elim
    | _ => exact h.elim
  | _ =>
    all_goals
      simp only [mulZ] at h
      split at h
      · rename_i xs h1
        obtain ⟨a, us, ea, sa, ra⟩ := view_rel r rx h1
        cases y with
        | int j =>
          have := rel_int ry; subst this
          simp only at h
          split at h
          · rename_i hz
            refine .inr (.inr ⟨a, j, us, ea, rfl, sa, by omega, by omega, ?_, fun p hp => PostV.new (k := .lst) r hp upd_same ?_ h⟩)
            · rw [ra.length]; exact sz16 hz.2.2
            · have rr : ∀ k : Nat, RelL T K R F (List.replicate k xs).flatten (List.replicate k us).flatten := fun k => by
                induction k with
                | zero => exact .nil
                | succ k ih => rw [List.replicate_succ, List.replicate_succ, List.flatten_cons, List.flatten_cons]; exact ra.append ih
              exact rr _
          · exact h.elim
        | _ => exact h.elim
      · exact h.elim
end

/-! ### data -/
mutual
def dat : PV → Option PyData
  | .non => some .none
  | .bl b => some (.bool b)
  | .int i => some (.int i)
  | .str x => some (.str x)
  | .nd .lst xs => (datL xs).map .list
  | .nd .scr xs => (datL xs).map .list
  | .nd .tup xs => (datL xs).map .tuple
  | _ => none
def datL : List PV → Option (List PyData)
  | [] => some []
  | x :: xs => (dat x).bind fun d => (datL xs).map fun ds => d :: ds
end
/-- .. of a value whose outermost compound may stand in the store -/
def datS (x : PV) (S : Sto) : Option PyData := match view x S with
  | some (k, xs) => dat (.nd k xs)
  | none => dat x
section
variable {T : Tb} {X : Cx} {K : PySem.W.Frag} {R : Pl} {F H : Hp}
theorem shp_rd {a : Addr} {k : Kd} {us : List V} (h : Shp T K H a k us) : (k = .lst ∨ k = .scr → SqL K H a us) ∧ (k = .tup → SqT K H a us) := by
  refine ⟨fun e => ?_, fun e => ?_⟩
  · rcases e with e | e <;> subst e
    · exact SqL.of h
    · exact h
  · subst e; exact SqT.of h
mutual
theorem dat_dp (ex : Ex F H) : ∀ (x : PV) (u : V) (d : PyData), Rel T K R F x u → dat x = some d → Dp K H u d
  | .non, u, d, r, h => by rw [dat] at h; cases h; rw [Rel] at r; subst r; exact .non
  | .bl b, u, d, r, h => by rw [dat] at h; cases h; rw [Rel] at r; subst r; exact .bl b
  | .int i, u, d, r, h => by rw [dat] at h; cases h; rw [Rel] at r; subst r; exact .int i
  | .str x, u, d, r, h => by rw [dat] at h; cases h; rw [Rel] at r; subst r; exact .str x
  | .nd .lst xs, u, d, r, h => by
    rw [dat, Option.map_eq_some_iff] at h
    obtain ⟨ds, h1, rfl⟩ := h
    rw [Rel] at r
    obtain ⟨a, us, rfl, hs, hl⟩ := r
    exact .lst ((shp_rd (hs.mono ex)).1 (.inl rfl)) (datL_dp ex xs us ds hl h1)
  | .nd .scr xs, u, d, r, h => by
    rw [dat, Option.map_eq_some_iff] at h
    obtain ⟨ds, h1, rfl⟩ := h
    rw [Rel] at r
    obtain ⟨a, us, rfl, hs, hl⟩ := r
    exact .lst ((shp_rd (hs.mono ex)).1 (.inr rfl)) (datL_dp ex xs us ds hl h1)
  | .nd .tup xs, u, d, r, h => by
    rw [dat, Option.map_eq_some_iff] at h
    obtain ⟨ds, h1, rfl⟩ := h
    rw [Rel] at r
    obtain ⟨a, us, rfl, hs, hl⟩ := r
    exact .tup ((shp_rd (hs.mono ex)).2 rfl) (datL_dp ex xs us ds hl h1)
  | .nd (.dct t ks) xs, u, d, r, h => by rw [dat] at h <;> first | cases h | (intros; intro z; cases z)
  | .nd (.ins c fs) xs, u, d, r, h => by rw [dat] at h <;> first | cases h | (intros; intro z; cases z)
  | .ty n, u, d, r, h => by rw [dat] at h <;> first | cases h | (intros; intro z; cases z)
  | .cls n, u, d, r, h => by rw [dat] at h <;> first | cases h | (intros; intro z; cases z)
  | .ref n, u, d, r, h => by rw [dat] at h <;> first | cases h | (intros; intro z; cases z)
theorem datL_dp (ex : Ex F H) : ∀ (xs : List PV) (us : List V) (ds : List PyData), RelL T K R F xs us → datL xs = some ds → DpAll K H us ds
  | [], us, ds, r, h => by rw [datL] at h; cases h; rw [RelL] at r; subst r; exact .nil
  | x :: xs, us, ds, r, h => by
    rw [datL, Option.bind_eq_some_iff] at h
    obtain ⟨d, h1, h2⟩ := h
    rw [Option.map_eq_some_iff] at h2
    obtain ⟨es, h3, rfl⟩ := h2
    rw [RelL] at r
    obtain ⟨u, vs, rfl, r1, r2⟩ := r
    exact .cons (dat_dp ex x u d r1 h1) (datL_dp ex xs vs es r2 h3)
end
theorem datS_dp {S : Sto} (r : Rep T K R F S H) {x : PV} {u : V} {d : PyData} (rx : Rel T K R F x u) (h : datS x S = some d) : Dp K H u d := by
  unfold datS at h
  split at h
  · rename_i k xs hv
    obtain ⟨a, us, rfl, hs, hl⟩ := view_rel r rx hv
    cases k with
    | lst =>
      rw [dat, Option.map_eq_some_iff] at h
      obtain ⟨ds, h1, rfl⟩ := h
      exact .lst ((shp_rd hs).1 (.inl rfl)) (datL_dp r.ex xs us ds hl h1)
    | scr =>
      rw [dat, Option.map_eq_some_iff] at h
      obtain ⟨ds, h1, rfl⟩ := h
      exact .lst ((shp_rd hs).1 (.inr rfl)) (datL_dp r.ex xs us ds hl h1)
    | tup =>
      rw [dat, Option.map_eq_some_iff] at h
      obtain ⟨ds, h1, rfl⟩ := h
      exact .tup ((shp_rd hs).2 rfl) (datL_dp r.ex xs us ds hl h1)
    | dct t ks => rw [dat] at h <;> first | cases h | (intros; intro z; cases z)
    | ins c fs => rw [dat] at h <;> first | cases h | (intros; intro z; cases z)
    | exn c fs => rw [dat] at h <;> first | cases h | (intros; intro z; cases z)
    | clo a0 c0 q0 us0 => rw [dat] at h <;> first | cases h | (intros; intro z; cases z)
  · exact dat_dp r.ex x u d rx h
end

/-! ### comparisons -/
def strPair (x y : PV) : Option (Str × Str) := match y with
  | .str b => (match x with
    | .str a => some (a, b)
    | _ => none)
  | _ => none
def eqD (x y : PV) (S : Sto) : Out PV := match datS x S, datS y S with
  | some d, some e => if SeqAt.shaped d = true ∧ SeqAt.shaped e = true then .ok (.bl (PyData.eqv d e)) S else .bad
  | _, _ => .bad
def neD (x y : PV) (S : Sto) : Out PV := match datS x S, datS y S with
  | some d, some e => if SeqAt.shaped d = true ∧ SeqAt.shaped e = true then .ok (.bl (!PyData.eqv d e)) S else .bad
  | _, _ => .bad
def eqZ (x y : PV) (S : Sto) : Out PV := match strPair x y with
  | some (a, b) => .ok (.bl (decide (a = b))) S
  | none => eqD x y S
def neZ (x y : PV) (S : Sto) : Out PV := match strPair x y with
  | some (a, b) => .ok (.bl (!decide (a = b))) S
  | none => neD x y S
def ltZ (x y : PV) (S : Sto) : Out PV := match x, y with
  | .int i, .int j => .ok (.bl (decide (i < j))) S
  | .str i, .str j => .ok (.bl (decide (i.cps.toList < j.cps.toList))) S
  | _, _ => .bad
def leZ (x y : PV) (S : Sto) : Out PV := match x, y with
  | .int i, .int j => .ok (.bl (decide (i ≤ j))) S
  | .str i, .str j => .ok (.bl (!decide (j.cps.toList < i.cps.toList))) S
  | _, _ => .bad
def gtZ (x y : PV) (S : Sto) : Out PV := match x, y with
  | .int i, .int j => .ok (.bl (decide (j < i))) S
  | .str i, .str j => .ok (.bl (decide (j.cps.toList < i.cps.toList))) S
  | _, _ => .bad
def geZ (x y : PV) (S : Sto) : Out PV := match x, y with
  | .int i, .int j => .ok (.bl (decide (j ≤ i))) S
  | .str i, .str j => .ok (.bl (!decide (i.cps.toList < j.cps.toList))) S
  | _, _ => .bad
def PV.isNon : PV → Bool
  | .non => true
  | _ => false
def isZ (x y : PV) (S : Sto) : Out PV := match y with
  | .non => .ok (.bl x.isNon) S
  | .bl b => (match x with
    | .bl a => .ok (.bl (decide (a = b))) S
    | _ => .bad)
  | _ => .bad
def isntZ (x y : PV) (S : Sto) : Out PV := match y with
  | .non => .ok (.bl (!x.isNon)) S
  | .bl b => (match x with
    | .bl a => .ok (.bl (!decide (a = b))) S
    | _ => .bad)
  | _ => .bad
def PV.flat : PV → Bool
  | .non | .bl _ | .int _ | .str _ => true
  | _ => false
def eqF : PV → PV → Bool
  | .non, .non => true
  | .bl a, .bl b => a == b
  | .bl a, .int b => (if a then 1 else 0) == b
  | .int a, .bl b => a == (if b then 1 else 0)
  | .int a, .int b => a == b
  | .str a, .str b => a == b
  | _, _ => false
def inB (x : PV) (xs : List PV) : Bool := xs.any fun y => eqF y x
def inZ (neg : Bool) (x y : PV) (S : Sto) : Out PV := match y with
  | .str z => (match x with
    | .str c => (match c.cps.toList with
      | [k] => .ok (.bl (if neg then !decide (k ∈ z.cps.toList) else decide (k ∈ z.cps.toList))) S
      | _ => .bad)
    | _ => .bad)
  | y => match view y S with
    | some (k, ys) => if (k = .lst ∨ k = .scr ∨ k = .tup) ∧ x.flat = true ∧ ys.all PV.flat = true then .ok (.bl (if neg then !inB x ys else inB x ys)) S else .bad
    | _ => .bad
section
variable {T : Tb} {X : Cx} {K : PySem.W.Frag}
theorem strPair_some {x y : PV} {a b : Str} (h : strPair x y = some (a, b)) : x = .str a ∧ y = .str b := by
  unfold strPair at h
  split at h
  · split at h
    · cases h; exact ⟨rfl, rfl⟩
    · cases h
  · cases h
theorem dec_strV (a b : Str) : decide (V.str a = V.str b) = decide (a = b) := by
  congr 1
  apply propext
  exact ⟨fun h => by cases h; rfl, fun h => by rw [h]⟩
theorem op_eqZ (hu : X.A.units + 64 < cLine) : OpR X (compareOp .Eq) (fun x y H Q => rEq x y H Q ∨ rEqD X.K x y H Q) := OpR.or op_eq (op_eqD hu)
theorem op_neZ (hu : X.A.units + 64 < cLine) : OpR X (compareOp .NotEq) (fun x y H Q => rNe x y H Q ∨ rNeD X.K x y H Q) := OpR.or op_ne (op_neD hu)
theorem oz_eq : OpZ T K eqZ (fun x y H Q => rEq x y H Q ∨ rEqD K x y H Q) := by
  intro E R F H S x y u w Q r rx ry h
  unfold eqZ at h
  split at h
  · rename_i a b hs
    obtain ⟨rfl, rfl⟩ := strPair_some hs
    have := rel_str rx; subst this
    have := rel_str ry; subst this
    exact .inl ⟨rfl, by rw [dec_strV]; exact PostV.here r (by rw [Rel]) h⟩
  · unfold eqD at h
    split at h
    · rename_i d e h1 h2
      split at h
      · rename_i hs
        exact .inr ⟨d, e, datS_dp r rx h1, datS_dp r ry h2, hs.1, hs.2, PostV.here r (by rw [Rel]) h⟩
      · exact h.elim
    · exact h.elim
theorem oz_ne : OpZ T K neZ (fun x y H Q => rNe x y H Q ∨ rNeD K x y H Q) := by
  intro E R F H S x y u w Q r rx ry h
  unfold neZ at h
  split at h
  · rename_i a b hs
    obtain ⟨rfl, rfl⟩ := strPair_some hs
    have := rel_str rx; subst this
    have := rel_str ry; subst this
    exact .inl ⟨rfl, by rw [dec_strV]; exact PostV.here r (by rw [Rel]) h⟩
  · unfold neD at h
    split at h
    · rename_i d e h1 h2
      split at h
      · rename_i hs
        exact .inr ⟨d, e, datS_dp r rx h1, datS_dp r ry h2, hs.1, hs.2, PostV.here r (by rw [Rel]) h⟩
      · exact h.elim
    · exact h.elim
abbrev rLtZ : R2 := fun x y H Q => rI0 (fun i j => .bl (decide (i < j))) x y H Q ∨ (∃ i j, x = .str i ∧ y = .str j ∧ Q (.bl (decide (i.cps.toList < j.cps.toList))) H)
theorem op_ltZ : OpR X (compareOp .Lt) rLtZ := OpR.or op_lt op_lt_str
abbrev rLeZ : R2 := fun x y H Q => rI0 (fun i j => .bl (decide (i ≤ j))) x y H Q ∨ (∃ i j, x = .str i ∧ y = .str j ∧ Q (.bl (!decide (j.cps.toList < i.cps.toList))) H)
theorem op_leZ : OpR X (compareOp .LtE) rLeZ := OpR.or op_le op_le_str
abbrev rGtZ : R2 := fun x y H Q => rI0 (fun i j => .bl (decide (j < i))) x y H Q ∨ (∃ i j, x = .str i ∧ y = .str j ∧ Q (.bl (decide (j.cps.toList < i.cps.toList))) H)
theorem op_gtZ : OpR X (compareOp .Gt) rGtZ := OpR.or op_gt op_gt_str
abbrev rGeZ : R2 := fun x y H Q => rI0 (fun i j => .bl (decide (j ≤ i))) x y H Q ∨ (∃ i j, x = .str i ∧ y = .str j ∧ Q (.bl (!decide (i.cps.toList < j.cps.toList))) H)
theorem op_geZ : OpR X (compareOp .GtE) rGeZ := OpR.or op_ge op_ge_str
theorem oz_lt : OpZ T K ltZ rLtZ := by
  intro E R F H S x y u w Q r rx ry h
  unfold ltZ at h
  split at h
  · have := rel_int rx; subst this
    have := rel_int ry; subst this
    exact .inl ⟨_, _, rfl, rfl, PostV.here r (by rw [Rel]) h⟩
  · have := rel_str rx; subst this
    have := rel_str ry; subst this
    exact .inr ⟨_, _, rfl, rfl, PostV.here r (by rw [Rel]) h⟩
  · exact h.elim
theorem oz_le : OpZ T K leZ rLeZ := by
  intro E R F H S x y u w Q r rx ry h
  unfold leZ at h
  split at h
  · have := rel_int rx; subst this
    have := rel_int ry; subst this
    exact .inl ⟨_, _, rfl, rfl, PostV.here r (by rw [Rel]) h⟩
  · have := rel_str rx; subst this
    have := rel_str ry; subst this
    exact .inr ⟨_, _, rfl, rfl, PostV.here r (by rw [Rel]) h⟩
  · exact h.elim
theorem oz_gt : OpZ T K gtZ rGtZ := by
  intro E R F H S x y u w Q r rx ry h
  unfold gtZ at h
  split at h
  · have := rel_int rx; subst this
    have := rel_int ry; subst this
    exact .inl ⟨_, _, rfl, rfl, PostV.here r (by rw [Rel]) h⟩
  · have := rel_str rx; subst this
    have := rel_str ry; subst this
    exact .inr ⟨_, _, rfl, rfl, PostV.here r (by rw [Rel]) h⟩
  · exact h.elim
theorem oz_ge : OpZ T K geZ rGeZ := by
  intro E R F H S x y u w Q r rx ry h
  unfold geZ at h
  split at h
  · have := rel_int rx; subst this
    have := rel_int ry; subst this
    exact .inl ⟨_, _, rfl, rfl, PostV.here r (by rw [Rel]) h⟩
  · have := rel_str rx; subst this
    have := rel_str ry; subst this
    exact .inr ⟨_, _, rfl, rfl, PostV.here r (by rw [Rel]) h⟩
  · exact h.elim
theorem isNon_rel {R : Pl} {F : Hp} {x : PV} {u : V} (rx : Rel T K R F x u) : x.isNon = decide (u = .non) := by
  cases x with
  | non => rw [rel_non rx]; rfl
  | bl b => rw [rel_bl rx]; rfl
  | int b => rw [rel_int rx]; rfl
  | str b => rw [rel_str rx]; rfl
  | ty b => rw [rel_ty rx]; rfl
  | cls b => rw [rel_cls rx]; rfl
  | ref n => rw [Rel] at rx; obtain ⟨a, rfl, _⟩ := rx; rfl
  | nd k xs => rw [Rel] at rx; obtain ⟨a, us, rfl, _⟩ := rx; rfl
abbrev rIsZ : R2 := fun x y H Q => (y = .non ∧ Q (.bl (decide (x = .non))) H) ∨ rIsB x y H Q
theorem op_isZ : OpR X (compareOp .Is) rIsZ := OpR.or op_isN op_isBl
abbrev rIsntZ : R2 := fun x y H Q => (y = .non ∧ Q (.bl (!decide (x = .non))) H) ∨ rNotB x y H Q
theorem op_isntZ : OpR X (compareOp .IsNot) rIsntZ := OpR.or op_notN op_notBl
theorem oz_is : OpZ T K isZ rIsZ := by
  intro E R F H S x y u w Q r rx ry h
  cases y with
  | non =>
    have := rel_non ry; subst this
    have e := isNon_rel rx
    refine .inl ⟨rfl, ?_⟩
    rw [← e]
    exact PostV.here r (by rw [Rel]) h
  | bl b =>
    have := rel_bl ry; subst this
    cases x with
    | bl a =>
      have := rel_bl rx; subst this
      exact .inr ⟨a, b, rfl, rfl, PostV.here r (by rw [Rel]) h⟩
    | _ => exact h.elim
  | _ => exact h.elim
theorem oz_isnt : OpZ T K isntZ rIsntZ := by
  intro E R F H S x y u w Q r rx ry h
  cases y with
  | non =>
    have := rel_non ry; subst this
    have e := isNon_rel rx
    refine .inl ⟨rfl, ?_⟩
    rw [← e]
    exact PostV.here r (by rw [Rel]) h
  | bl b =>
    have := rel_bl ry; subst this
    cases x with
    | bl a =>
      have := rel_bl rx; subst this
      exact .inr ⟨a, b, rfl, rfl, PostV.here r (by rw [Rel]) h⟩
    | _ => exact h.elim
  | _ => exact h.elim
theorem flat_rel {R : Pl} {F : Hp} {x : PV} {u : V} (rx : Rel T K R F x u) (h : x.flat = true) : x.at0 = some u ∧ flatV u = true := by
  cases x with
  | non => rw [rel_non rx]; exact ⟨rfl, rfl⟩
  | bl b => rw [rel_bl rx]; exact ⟨rfl, rfl⟩
  | int b => rw [rel_int rx]; exact ⟨rfl, rfl⟩
  | str b => rw [rel_str rx]; exact ⟨rfl, rfl⟩
  | _ => exact absurd h Bool.false_ne_true
theorem eqF_eq {x y : PV} {u w : V} (h1 : x.flat = true) (h2 : y.flat = true) (e1 : x.at0 = some u) (e2 : y.at0 = some w) : eqF x y = eqV u w := by
  cases x <;> first | (exact absurd h1 Bool.false_ne_true) | skip
  all_goals (cases y <;> first | (exact absurd h2 Bool.false_ne_true) | (cases e1; cases e2; rfl))
theorem inB_rel {R : Pl} {F : Hp} {x : PV} {u : V} (rx : Rel T K R F x u) (h : x.flat = true) : ∀ {ys : List PV} {us : List V}, RelL T K R F ys us → ys.all PV.flat = true → inB x ys = inV u us ∧ us.all flatV = true
  | [], us, r, _ => by rw [RelL] at r; subst r; exact ⟨rfl, rfl⟩
  | y :: ys, us, r, hy => by
    rw [RelL] at r
    obtain ⟨w, vs, rfl, r1, r2⟩ := r
    rw [List.all_cons, Bool.and_eq_true] at hy
    obtain ⟨i1, i2⟩ := inB_rel rx h r2 hy.2
    obtain ⟨a1, a2⟩ := flat_rel rx h
    obtain ⟨b1, b2⟩ := flat_rel r1 hy.1
    refine ⟨?_, by rw [List.all_cons, b2, i2]; rfl⟩
    show (eqF y x || inB x ys) = (eqV w u || inV u vs)
    rw [i1, eqF_eq hy.1 h b1 a1]
abbrev rInZ (K : PySem.W.Frag) (neg : Bool) : R2 := fun x y H Q => rIn K neg x y H Q ∨ (∃ (c : Nat) (z : Str), x = .str ⟨#[c]⟩ ∧ y = .str z ∧ Q (.bl (if neg then !decide (c ∈ z.cps.toList) else decide (c ∈ z.cps.toList))) H)
theorem op_inZ : OpR X (compareOp .In) (rInZ X.K false) := OpR.or op_in_seq op_in_sign
theorem op_notInZ : OpR X (compareOp .NotIn) (rInZ X.K true) := OpR.or op_notIn_seq op_notIn_sign
theorem oz_in (neg : Bool) : OpZ T K (inZ neg) (rInZ K neg) := by
  intro E R F H S x y u w Q r rx ry h
  cases y with
  | str z =>
    have := rel_str ry; subst this
    cases x with
    | str c =>
      have := rel_str rx; subst this
      simp only [inZ] at h
      split at h
      · rename_i k hk
        have ec : c = ⟨#[k]⟩ := by
          cases c with
          | mk a =>
            have : a = #[k] := by
              have h2 : a.toList = [k] := hk
              rw [← Array.toArray_toList (xs := a), h2]
            rw [this]
        exact .inr ⟨k, z, by rw [ec], rfl, PostV.here r (by rw [Rel]) h⟩
      · exact h.elim
    | _ => exact h.elim
  | _ =>
    all_goals
      simp only [inZ] at h
      split at h
      · rename_i k ys hv
        obtain ⟨a, us, ea, hs, hl⟩ := view_rel r ry hv
        split at h
        · rename_i hc
          obtain ⟨hk, hx, hy⟩ := hc
          obtain ⟨i1, i2⟩ := inB_rel rx hx hl hy
          refine .inl ⟨a, us, ea, ?_, (flat_rel rx hx).2, i2, ?_⟩
          · rcases hk with e | e | e
            · exact .inl ((shp_rd hs).1 (.inl e))
            · exact .inl ((shp_rd hs).1 (.inr e))
            · exact .inr ((shp_rd hs).2 e)
          · rw [← i1]
            exact PostV.here r (by rw [Rel]) h
        · exact h.elim
      · exact h.elim
end
end Z
end
section
set_option Elab.async false
set_option linter.all false
set_option maxRecDepth 100000
set_option maxHeartbeats 1000000
/-! Z5: truth, tests, subscripts, slices, fields, what dicts hold. -/
namespace Z
open PySem PySem.Spec PyProof.Rows L2

/-! ### truth -/
def truP (x : PV) (S : Sto) : Out Bool := match x with
  | .non => .ok false S
  | .bl b => .ok b S
  | .int i => .ok (i != 0) S
  | .str s => if s.length ≤ 16777216 then .ok ((s.length : Int) != 0) S else .bad
  | x => match view x S with
    | some (.lst, xs) => .ok (!xs.isEmpty) S
    | some (.scr, xs) => .ok (!xs.isEmpty) S
    | some (.tup, xs) => .ok (!xs.isEmpty) S
    | _ => .bad
section
variable {T : Tb} {X : Cx} {K : PySem.W.Frag} {R : Pl} {F H : Hp} {S : Sto} {E : XK}
theorem isEmpty_rel {xs : List PV} {us : List V} (h : RelL T K R F xs us) : xs.isEmpty = us.isEmpty := by
  have e := h.length
  cases xs <;> cases us <;> first | rfl | (simp at e)
theorem tru_rel (r : Rep T K R F S H) {x : PV} {u : V} (rx : Rel T K R F x u) {Q : Bool → Hp → Prop} (h : OkB T K R F (truP x S) Q E) : ∃ k, TruV K u H k ∧ Q k H := by
  cases x with
  | non => rw [rel_non rx]; exact ⟨false, rfl, PostB.here r h⟩
  | bl b => rw [rel_bl rx]; exact ⟨b, rfl, PostB.here r h⟩
  | int i => rw [rel_int rx]; exact ⟨_, rfl, PostB.here r h⟩
  | str s =>
    rw [rel_str rx]
    have h : OkB T K R F (if s.length ≤ 16777216 then .ok ((s.length : Int) != 0) S else .bad) Q E := h
    split at h
    · rename_i hz; exact ⟨_, ⟨sz16 hz, rfl⟩, PostB.here r h⟩
    · exact h.elim
  | _ =>
    all_goals
      simp only [truP] at h
      split at h
      · rename_i xs hv
        obtain ⟨a, us, rfl, hs, hl⟩ := view_rel r rx hv
        exact ⟨_, .inl ⟨us, (shp_rd hs).1 (.inl rfl), by rw [isEmpty_rel hl]⟩, PostB.here r h⟩
      · rename_i xs hv
        obtain ⟨a, us, rfl, hs, hl⟩ := view_rel r rx hv
        exact ⟨_, .inl ⟨us, (shp_rd hs).1 (.inr rfl), by rw [isEmpty_rel hl]⟩, PostB.here r h⟩
      · rename_i xs hv
        obtain ⟨a, us, rfl, hs, hl⟩ := view_rel r rx hv
        exact ⟨_, .inr (.inl ⟨us, (shp_rd hs).2 rfl, by rw [isEmpty_rel hl]⟩), PostB.here r h⟩
      · exact h.elim
end

/-! ### tests -/
def dTru (a : DE) : DB := fun l S => (a l S).bind fun x S1 => truP x S1
def dNotT (a : DB) : DB := fun l S => (a l S).bind fun b S1 => .ok (!b) S1
def dAndT (a b : DB) : DB := fun l S => (a l S).bind fun k S1 => if k = true then b l S1 else .ok false S1
def dOrT (a b : DB) : DB := fun l S => (a l S).bind fun k S1 => if k = true then .ok true S1 else b l S1
def dOr (a b : DE) : DE := fun l S => (a l S).bind fun x S1 => (truP x S1).bind fun k S2 => if k = true then .ok x S2 else b l S2
def dAnd (a b : DE) : DE := fun l S => (a l S).bind fun x S1 => (truP x S1).bind fun k S2 => if k = true then b l S2 else .ok x S2
def dNot (a : DE) : DE := fun l S => (a l S).bind fun x S1 => (truP x S1).bind fun k S2 => .ok (.bl (!k)) S2
def dIf (c : DB) (a b : DE) : DE := fun l S => (c l S).bind fun k S1 => if k = true then a l S1 else b l S1
theorem truP_same {x : PV} {S S1 : Sto} {k : Bool} (h : truP x S = .ok k S1) : S1 = S := by
  unfold truP at h
  split at h <;> first | (cases h; rfl) | (split at h <;> first | (cases h; rfl) | cases h)
section
variable {T : Tb} {X : Cx} {E : XS} {a b c : Expr} {rest : List Expr} {da db : DE} {ta tb : DB} {pos : Pos}
theorem jt_tru (ha : JE T X E a da) (he : ∀ whole, isTrue a X.env whole = (do let v ← whole; standAt a.pos; holding [v] (truthy v)) := by intro _; rfl) : JT T X E a (dTru da) := by
  refine pt_imp (pt_truth ha he) fun σ H Q ⟨R, F, l, S, r, e, h⟩ => ?_
  refine seqV (goB T X.K (E σ) Q) r e h fun x S1 R1 F1 H1 u p ex r1 rx e1 h1 => ?_
  exact tru_rel r1 rx h1
theorem jt_not (ha : JT T X E a ta) : JT T X E (.UnaryOp .Not a pos) (dNotT ta) := by
  refine pt_imp (pt_not ha) fun σ H Q ⟨R, F, l, S, r, e, h⟩ => ?_
  refine seqT (goB T X.K (E σ) Q) r e h fun x S1 R1 F1 H1 p ex r1 e1 h1 => ?_
  exact PostB.here r1 h1
theorem jw_and1 (ha : JT T X E a ta) : JW T X E (.BoolOp .And [a] pos) ta := pw_and1 ha
theorem jw_or1 (ha : JT T X E a ta) : JW T X E (.BoolOp .Or [a] pos) ta := pw_or1 ha
theorem jw_and (ha : JT T X E a ta) (hb : JW T X E (.BoolOp .And (b :: rest) pos) tb) : JW T X E (.BoolOp .And (a :: b :: rest) pos) (dAndT ta tb) := by
  refine pw_imp (pw_and ha hb) fun σ H Q ⟨R, F, l, S, r, e, h⟩ => ?_
  refine seqT (goB T X.K (E σ) Q) r e h fun k S1 R1 F1 H1 p ex r1 e1 h1 => ?_
  cases k with
  | true => exact ⟨R1, F1, l, S1, r1, e1, h1⟩
  | false => exact PostB.here r1 h1
theorem jw_or (ha : JT T X E a ta) (hb : JW T X E (.BoolOp .Or (b :: rest) pos) tb) : JW T X E (.BoolOp .Or (a :: b :: rest) pos) (dOrT ta tb) := by
  refine pw_imp (pw_or ha hb) fun σ H Q ⟨R, F, l, S, r, e, h⟩ => ?_
  refine seqT (goB T X.K (E σ) Q) r e h fun k S1 R1 F1 H1 p ex r1 e1 h1 => ?_
  cases k with
  | false => exact ⟨R1, F1, l, S1, r1, e1, h1⟩
  | true => exact PostB.here r1 h1
theorem je_one {op} (h : JE T X E a da) : JE T X E (.BoolOp op [a] pos) da := pe_one h
theorem je_or (ha : JE T X E a da) (hb : JE T X E (.BoolOp .Or (b :: rest) pos) db) : JE T X E (.BoolOp .Or (a :: b :: rest) pos) (dOr da db) := by
  refine pe_imp (pe_orT ha hb) fun σ H Q ⟨R, F, l, S, r, e, h⟩ => ?_
  refine seqV (goV T X.K (E σ) Q) r e h fun x S1 R1 F1 H1 u p ex r1 rx e1 h1 => ?_
  have h1 : OkV T X.K R1 F1 ((truP x S1).bind fun k S2 => if k = true then .ok x S2 else db l S2) Q (E σ) := h1
  refine tru_rel (E := E σ) (Q := fun k H => if k = true then Q u H else tV T X.K E db σ H Q) r1 rx ?_
  cases ht : truP x S1 with
  | bad => rw [ht] at h1; exact h1.elim
  | err x' S3 => rw [ht] at h1; exact h1
  | ok k S2 =>
    rw [ht] at h1
    have := truP_same ht; subst this
    intro R2 F2 H2 p2 ex2 r2
    cases k with
    | true => exact PostV.here r2 (rx.mono p2 ex2) (OkV.mono p2 ex2 h1)
    | false => exact ⟨R2, F2, l, S2, r2, e1.mono p2 ex2, OkV.mono p2 ex2 h1⟩
theorem je_and (ha : JE T X E a da) (hb : JE T X E (.BoolOp .And (b :: rest) pos) db) : JE T X E (.BoolOp .And (a :: b :: rest) pos) (dAnd da db) := by
  refine pe_imp (pe_andT ha hb) fun σ H Q ⟨R, F, l, S, r, e, h⟩ => ?_
  refine seqV (goV T X.K (E σ) Q) r e h fun x S1 R1 F1 H1 u p ex r1 rx e1 h1 => ?_
  have h1 : OkV T X.K R1 F1 ((truP x S1).bind fun k S2 => if k = true then db l S2 else .ok x S2) Q (E σ) := h1
  refine tru_rel (E := E σ) (Q := fun k H => if k = true then tV T X.K E db σ H Q else Q u H) r1 rx ?_
  cases ht : truP x S1 with
  | bad => rw [ht] at h1; exact h1.elim
  | err x' S3 => rw [ht] at h1; exact h1
  | ok k S2 =>
    rw [ht] at h1
    have := truP_same ht; subst this
    intro R2 F2 H2 p2 ex2 r2
    cases k with
    | false => exact PostV.here r2 (rx.mono p2 ex2) (OkV.mono p2 ex2 h1)
    | true => exact ⟨R2, F2, l, S2, r2, e1.mono p2 ex2, OkV.mono p2 ex2 h1⟩
theorem je_not (ha : JE T X E a da) : JE T X E (.UnaryOp .Not a pos) (dNot da) := by
  refine pe_imp (pe_notT ha) fun σ H Q ⟨R, F, l, S, r, e, h⟩ => ?_
  refine seqV (goV T X.K (E σ) Q) r e h fun x S1 R1 F1 H1 u p ex r1 rx e1 h1 => ?_
  have h1 : OkV T X.K R1 F1 ((truP x S1).bind fun k S2 => .ok (.bl (!k)) S2) Q (E σ) := h1
  refine tru_rel (E := E σ) (Q := fun k H => Q (.bl (!k)) H) r1 rx ?_
  cases ht : truP x S1 with
  | bad => rw [ht] at h1; exact h1.elim
  | err x' S3 => rw [ht] at h1; exact h1
  | ok k S2 =>
    rw [ht] at h1
    intro R2 F2 H2 p2 ex2 r2
    exact PostV.here r2 (by rw [Rel]) (OkV.mono p2 ex2 h1)
theorem je_if (hc : JT T X E c ta) (ha : JE T X E a da) (hb : JE T X E b db) : JE T X E (.IfExp c a b pos) (dIf ta da db) := by
  refine pe_imp (pe_ifExp hc ha hb) fun σ H Q ⟨R, F, l, S, r, e, h⟩ => ?_
  refine seqT (goV T X.K (E σ) Q) r e h fun k S1 R1 F1 H1 p ex r1 e1 h1 => ?_
  cases k with
  | true => exact ⟨R1, F1, l, S1, r1, e1, h1⟩
  | false => exact ⟨R1, F1, l, S1, r1, e1, h1⟩
/-- a test's answer as a bool handed on: used where a test is a value -/
def dUn (f : PV → Sto → Out PV) (a : DE) : DE := fun l S => (a l S).bind fun x S1 => f x S1
def negP (x : PV) (S : Sto) : Out PV := match x with
  | .int i => .ok (.int (-i)) S
  | _ => .bad
theorem je_neg (ha : JE T X E a da) : JE T X E (.UnaryOp .USub a pos) (dUn negP da) := by
  refine pe_imp (pe_un un_neg ha) fun σ H Q ⟨R, F, l, S, r, e, h⟩ => ?_
  refine seqV (goV T X.K (E σ) Q) r e h fun x S1 R1 F1 H1 u p ex r1 rx e1 h1 => ?_
  cases x with
  | int i => exact ⟨i, rel_int rx, PostV.here r1 (by rw [Rel]) h1⟩
  | _ => exact h1.elim
end

/-! ### dicts as they are read -/
def flatKey : PV → Option Key
  | .int i => some (.inl i)
  | .str x => some (.inr x)
  | _ => none
def flatKeys : List PV → Option (List Key)
  | [] => some []
  | x :: xs => (flatKey x).bind fun k => (flatKeys xs).map fun ks => k :: ks
def keyOf : PV → Option PK
  | .int i => some (.k (.inl i))
  | .str x => some (.k (.inr x))
  | .nd .tup xs => (flatKeys xs).map .t
  | _ => none
/-- the key is of the dict's kind -/
def PK.fits : PK → Bool → Bool
  | .k _, false => true
  | .t _, true => true
  | _, _ => false
def dLook : List PK → List PV → PK → Option PV
  | k :: ks, x :: xs, q => if k = q then some x else dLook ks xs q
  | _, _, _ => none
section
variable {T : Tb} {X : Cx} {K : PySem.W.Frag} {R : Pl} {F H : Hp} {S : Sto} {E : XK}
theorem flatKey_rel {x : PV} {u : V} {k : Key} (rx : Rel T K R F x u) (h : flatKey x = some k) : u = kV k := by
  cases x with
  | int i => cases h; exact rel_int rx
  | str i => cases h; exact rel_str rx
  | _ => cases h
theorem flatKeys_rel : ∀ {xs : List PV} {us : List V} {ks : List Key}, RelL T K R F xs us → flatKeys xs = some ks → us = ks.map kV
  | [], us, ks, r, h => by cases h; rw [RelL] at r; exact r
  | x :: xs, us, ks, r, h => by
    rw [flatKeys, Option.bind_eq_some_iff] at h
    obtain ⟨k, h1, h2⟩ := h
    rw [Option.map_eq_some_iff] at h2
    obtain ⟨ks', h3, rfl⟩ := h2
    rw [RelL] at r
    obtain ⟨u, vs, rfl, r1, r2⟩ := r
    rw [flatKey_rel r1 h1, flatKeys_rel r2 h3]; rfl
theorem valV_cons {κ : Type} [DecidableEq κ] (p : κ × V) (r : List (κ × V)) (k : κ) : valV (p :: r) k = if p.1 = k then some p.2 else valV r k := by
  unfold valV
  rw [List.find?_cons]
  by_cases h : p.1 = k
  · rw [if_pos h, h]; simp
  · rw [if_neg h]; simp [h]
theorem dLook_k {q : Key} : ∀ {kk : List Key} {xs : List PV} {us : List V}, us.length = kk.length → RelL T K R F xs us →
    (∀ x, dLook (kk.map PK.k) xs (.k q) = some x → ∃ u, valV (kk.zip us) q = some u ∧ Rel T K R F x u) ∧ (dLook (kk.map PK.k) xs (.k q) = none → valV (kk.zip us) q = none)
  | [], xs, us, hl, r => by
    have : us = [] := List.length_eq_zero_iff.mp (by simpa using hl)
    subst this
    refine ⟨fun x h => ?_, fun _ => rfl⟩
    cases xs <;> simp [dLook] at h
  | k :: kk, xs, us, hl, r => by
    cases us with
    | nil => simp at hl
    | cons u us =>
      cases xs with
      | nil => rw [RelL] at r; cases r
      | cons x xs =>
        rw [RelL] at r
        obtain ⟨u', vs, e, r1, r2⟩ := r
        cases e
        have ih := dLook_k (q := q) (kk := kk) (xs := xs) (us := us) (by simpa using hl) r2
        rw [List.map_cons, List.zip_cons_cons, valV_cons]
        show (∀ y, (if (PK.k k) = PK.k q then some x else dLook (kk.map PK.k) xs (.k q)) = some y → _) ∧ ((if (PK.k k) = PK.k q then some x else dLook (kk.map PK.k) xs (.k q)) = none → _)
        by_cases h : k = q
        · subst h
          simp only [if_true]
          exact ⟨fun y hy => by cases hy; exact ⟨u, rfl, r1⟩, fun z => by cases z⟩
        · have h' : ¬ (PK.k k = PK.k q) := fun z => h (by injection z)
          rw [if_neg h', if_neg h]
          exact ih
theorem dLook_t {q : List Key} : ∀ {kk : List (List Key)} {xs : List PV} {us : List V}, us.length = kk.length → RelL T K R F xs us →
    (∀ x, dLook (kk.map PK.t) xs (.t q) = some x → ∃ u, valV (kk.zip us) q = some u ∧ Rel T K R F x u) ∧ (dLook (kk.map PK.t) xs (.t q) = none → valV (kk.zip us) q = none)
  | [], xs, us, hl, r => by
    have : us = [] := List.length_eq_zero_iff.mp (by simpa using hl)
    subst this
    refine ⟨fun x h => ?_, fun _ => rfl⟩
    cases xs <;> simp [dLook] at h
  | k :: kk, xs, us, hl, r => by
    cases us with
    | nil => simp at hl
    | cons u us =>
      cases xs with
      | nil => rw [RelL] at r; cases r
      | cons x xs =>
        rw [RelL] at r
        obtain ⟨u', vs, e, r1, r2⟩ := r
        cases e
        have ih := dLook_t (q := q) (kk := kk) (xs := xs) (us := us) (by simpa using hl) r2
        rw [List.map_cons, List.zip_cons_cons, valV_cons]
        show (∀ y, (if (PK.t k) = PK.t q then some x else dLook (kk.map PK.t) xs (.t q)) = some y → _) ∧ ((if (PK.t k) = PK.t q then some x else dLook (kk.map PK.t) xs (.t q)) = none → _)
        by_cases h : k = q
        · subst h
          simp only [if_true]
          exact ⟨fun y hy => by cases hy; exact ⟨u, rfl, r1⟩, fun z => by cases z⟩
        · have h' : ¬ (PK.t k = PK.t q) := fun z => h (by injection z)
          rw [if_neg h', if_neg h]
          exact ih
/-- what a dict holds at a key -/
theorem dict_get (r : Rep T K R F S H) {d k : PV} {u w : V} (rd : Rel T K R F d u) (rk : Rel T K R F k w) {t : Bool} {ks : List PK} {xs : List PV} {q : PK} (hv : view d S = some (.dct t ks, xs)) (hk : keyOf k = some q) (hf : q.fits t = true) :
    ∃ a o, u = .ref a ∧ DGet H a w o ∧ (∀ x, dLook ks xs q = some x → ∃ v, o = some v ∧ Rel T K R F x v) ∧ (dLook ks xs q = none → o = none) := by
  obtain ⟨a, us, rfl, hs, hl⟩ := view_rel r rd hv
  cases t with
  | false =>
    obtain ⟨h0, kk, rfl, h2⟩ := hs
    cases q with
    | t _ => exact absurd hf Bool.false_ne_true
    | k q =>
      have ew : w = kV q := by
        cases k with
        | int i => cases hk; exact rel_int rk
        | str i => cases hk; exact rel_str rk
        | nd kd ys => cases kd <;> simp [keyOf] at hk
        | _ => cases hk
      subst ew
      have hd := dLook_k (q := q) (by rw [h0, List.length_map]) hl
      refine ⟨a, valV (kk.zip us) q, rfl, .inl ⟨_, q, h2, rfl, rfl⟩, fun x hx => hd.1 x hx, hd.2⟩
  | true =>
    obtain ⟨h0, kk, rfl, h2⟩ := hs
    cases q with
    | k _ => exact absurd hf Bool.false_ne_true
    | t q =>
      cases k with
      | nd kd ys =>
        cases kd with
        | tup =>
          rw [keyOf, Option.map_eq_some_iff] at hk
          obtain ⟨q', hq, e⟩ := hk
          cases e
          rw [Rel] at rk
          obtain ⟨b, ws, rfl, hb, hbl⟩ := rk
          have eb := flatKeys_rel hbl hq
          subst eb
          have hd := dLook_t (q := q) (by rw [h0, List.length_map]) hl
          exact ⟨a, valV (kk.zip us) q, rfl, .inr ⟨_, q, b, h2, rfl, r.ex.at_ hb, rfl⟩, fun x hx => hd.1 x hx, hd.2⟩
        | _ => simp [keyOf] at hk
      | _ => cases hk
end

/-! ### subscripts -/
def subZ (x y : PV) (S : Sto) : Out PV := match x with
  | .str z => (match y with
    | .int i => if z.length ≤ 16777216 then (match atI z.cps.toList i with
      | some c => .ok (.str ⟨#[c]⟩) S
      | none => .bad) else .bad
    | _ => .bad)
  | x => match view x S with
    | some (.dct t ks, xs) => (match keyOf y with
      | some q => if q.fits t = true then (match dLook ks xs q with
        | some v => .ok v S
        | none => .bad) else .bad
      | none => .bad)
    | some (.lst, xs) => (match y with
      | .int i => (match atI xs i with
        | some v => .ok v S
        | none => .bad)
      | _ => .bad)
    | some (.scr, xs) => (match y with
      | .int i => (match atI xs i with
        | some v => .ok v S
        | none => .bad)
      | _ => .bad)
    | some (.tup, xs) => (match y with
      | .int i => (match atI xs i with
        | some v => .ok v S
        | none => .bad)
      | _ => .bad)
    | _ => .bad
def rIxG : R2 := fun x y H Q => ∃ a v, x = .ref a ∧ DGet H a y (some v) ∧ Q v H
section
variable {T : Tb} {X : Cx} {K : PySem.W.Frag} {R : Pl} {F H : Hp} {S : Sto} {E : XS} {a b : Expr} {da db : DE} {pos : Pos}
theorem ix_dct (hu : X.A.units + 1 < cLine) : IxR X rIxG := by
  intro value slice pins s σ H x y v u Q I rx ry h hs
  obtain ⟨a, z, rfl, g, q⟩ := h
  obtain rfl : v = Value.ref a := rx
  exact PyProof.Rows.tail_any (dict_typeIs I g) PySem.F.slot_dict_getitem.lookup (d_getItem hu I g ry fun w' s3 I3 rw' => ⟨z, H, I3, rw', q⟩) hs
theorem atI_rel {xs : List PV} {us : List V} {i : Int} {x : PV} (h : RelL T K R F xs us) (e : atI xs i = some x) : ∃ u, atI us i = some u ∧ Rel T K R F x u := by
  unfold atI at e ⊢
  rw [h.length]
  rw [Option.bind_eq_some_iff] at e
  obtain ⟨j, h1, h2⟩ := e
  obtain ⟨u, h3, h4⟩ := h.get h2
  exact ⟨u, by rw [h1]; exact h3, h4⟩
abbrev rSubZ (K : PySem.W.Frag) : R2 := fun x y H Q => rIx K x y H Q ∨ rIxG x y H Q
theorem oz_sub' : OpZ T K subZ (rSubZ K) := by
  intro E R F H S x y u w Q r rx ry h
  cases x with
  | str z =>
    have := rel_str rx; subst this
    cases y with
    | int i =>
      have := rel_int ry; subst this
      simp only [subZ] at h
      split at h
      · rename_i hz
        split at h
        · rename_i c hc
          exact .inl (.inr (.inr ⟨z, i, c, rfl, rfl, sz16 hz, hc, PostV.here r (by rw [Rel]) h⟩))
        · exact h.elim
      · exact h.elim
    | _ => exact h.elim
  | _ =>
    all_goals
      simp only [subZ] at h
      split at h
      · rename_i t ks xs hv
        split at h
        · rename_i q hk
          split at h
          · rename_i hf
            split at h
            · rename_i v hd
              obtain ⟨a, o, ea, hg, h1, h2⟩ := dict_get r rx ry hv hk hf
              obtain ⟨v', eo, rv⟩ := h1 v hd
              subst eo
              exact .inr ⟨a, v', ea, hg, PostV.here r rv h⟩
            · exact h.elim
          · exact h.elim
        · exact h.elim
      · rename_i xs hv
        obtain ⟨a, us, ea, hs, hl⟩ := view_rel r rx hv
        cases y with
        | int i =>
          have := rel_int ry; subst this
          simp only at h
          split at h
          · rename_i v hi
            obtain ⟨v', h1, rv⟩ := atI_rel hl hi
            exact .inl (.inl ⟨a, us, i, v', ea, rfl, (shp_rd hs).1 (.inl rfl), h1, PostV.here r rv h⟩)
          · exact h.elim
        | _ => exact h.elim
      · rename_i xs hv
        obtain ⟨a, us, ea, hs, hl⟩ := view_rel r rx hv
        cases y with
        | int i =>
          have := rel_int ry; subst this
          simp only at h
          split at h
          · rename_i v hi
            obtain ⟨v', h1, rv⟩ := atI_rel hl hi
            exact .inl (.inl ⟨a, us, i, v', ea, rfl, (shp_rd hs).1 (.inr rfl), h1, PostV.here r rv h⟩)
          · exact h.elim
        | _ => exact h.elim
      · rename_i xs hv
        obtain ⟨a, us, ea, hs, hl⟩ := view_rel r rx hv
        cases y with
        | int i =>
          have := rel_int ry; subst this
          simp only at h
          split at h
          · rename_i v hi
            obtain ⟨v', h1, rv⟩ := atI_rel hl hi
            exact .inl (.inr (.inl ⟨a, us, i, v', ea, rfl, (shp_rd hs).2 rfl, h1, PostV.here r rv h⟩))
          · exact h.elim
        | _ => exact h.elim
      · exact h.elim
theorem je_sub (hu : X.A.units + 1 < cLine) (ha : JE T X E a da) (hb : JE T X E b db) (hs : PlainIx b := by intro _ _; rfl) : JE T X E (.Subscript a b pos) (dBin subZ da db) :=
  pe_imp (pe_ix (IxR.or ix_seq (ix_dct hu)) ha hb hs) fun _ _ _ h => bin_tOp oz_sub' h

/-! ### slices -/
abbrev DO := Loc → Sto → Out (Option Int)
def dNone : DO := fun _ S => .ok none S
def asI (o : Out PV) : Out (Option Int) := o.bind fun x S => match x with
  | .int i => .ok (some i) S
  | _ => .bad
def dSome (a : DE) : DO := fun l S => asI (a l S)
def cutP (xs : List PV) (lo hi : Option Int) : List PV := (xs.drop (HT.sIx xs.length 0 lo)).take (HT.sIx xs.length xs.length hi - HT.sIx xs.length 0 lo)
def sliZ (x : PV) (lo hi : Option Int) (S : Sto) : Out PV := match x with
  | .str z => if z.length ≤ 16777216 then .ok (.str (cutS z lo hi)) S else .bad
  | x => match view x S with
    | some (.lst, xs) => .ok (.nd .lst (cutP xs lo hi)) S
    | some (.scr, xs) => .ok (.nd .lst (cutP xs lo hi)) S
    | some (.tup, xs) => .ok (.nd .tup (cutP xs lo hi)) S
    | _ => .bad
def dSli (a : DE) (lo hi : DO) : DE := fun l S => (a l S).bind fun x S1 => (lo l S1).bind fun p S2 => (hi l S2).bind fun q S3 => sliZ x p q S3
def PostO (T : Tb) (K : PySem.W.Frag) (R : Pl) (F : Hp) (o : Out (Option Int)) (Q : Option Int → Hp → Prop) (E : XK) : Prop := match o with
  | .ok v S => ∀ R' F' H, Pl.le R R' → Ex F F' → Rep T K R' F' S H → Q v H
  | .err e S => PostX T K R F e S E
  | .bad => False
def tO (T : Tb) (K : PySem.W.Frag) (E : XS) (d : DO) : TO := fun σ H Q => ∃ R F l S, Rep T K R F S H ∧ RelE T K R F l σ ∧ PostO T K R F (d l S) Q (E σ)
abbrev JO (T : Tb) (X : Cx) (E : XS) (e : Option Expr) (d : DO) : Prop := PO X e (tO T X.K E d)
theorem jo_none : JO T X E none dNone := ⟨fun pins s σ H Q I ⟨R, F, l, S, r, e, h⟩ => po_none.run pins s σ H Q I (h R F H (Pl.refl R) (Ex.refl F) r)⟩
theorem jo_some {e : Expr} {d : DE} (he : JE T X E e d) : JO T X E (some e) (dSome d) := by
  refine ⟨fun pins s σ H Q I ⟨R, F, l, S, r, e, h⟩ => (po_some he).run pins s σ H Q I ⟨R, F, l, S, r, e, ?_⟩⟩
  have h : PostO T X.K R F (asI (d l S)) Q (E σ) := h
  cases hd : d l S with
  | ok x S1 =>
    rw [hd] at h
    intro R1 F1 H1 u p ex r1 rx
    cases x with
    | int i => exact ⟨i, rel_int rx, h R1 F1 H1 p ex r1⟩
    | _ => exact h.elim
  | err e' S1 => rw [hd] at h; exact h
  | bad => rw [hd] at h; exact h
theorem seqO {β : Type} {σ : L2.St} {l : Loc} (G : Go T K (E σ) β) {d : DO} {k : Option Int → Sto → Out β} {C : Option Int → Hp → Prop} (r : Rep T K R F S H) (e : RelE T K R F l σ) (h : G.ok R F ((d l S).bind k))
    (hk : ∀ (x : Option Int) (S1 : Sto) (R1 : Pl) (F1 H1 : Hp), Pl.le R R1 → Ex F F1 → Rep T K R1 F1 S1 H1 → RelE T K R1 F1 l σ → G.ok R1 F1 (k x S1) → C x H1) : tO T K E d σ H C := by
  refine ⟨R, F, l, S, r, e, ?_⟩
  cases hd : d l S with
  | ok x S1 =>
    rw [hd] at h
    exact fun R1 F1 H1 p x' r1 => hk x S1 R1 F1 H1 p x' r1 (e.mono p x') (G.mono p x' h)
  | err e' S1 => rw [hd] at h; exact G.err h
  | bad => rw [hd] at h; exact G.bad h
theorem cut_rel {xs : List PV} {us : List V} (h : RelL T K R F xs us) (lo hi : Option Int) : RelL T K R F (cutP xs lo hi) (cutV us lo hi) := by
  unfold cutP cutV
  rw [h.length]
  exact (h.drop _).take _
abbrev rSliZ (K : PySem.W.Frag) : V → Option Int → Option Int → Hp → VK → Prop := fun x lo hi H Q => rSlL K x lo hi H Q ∨ (rSlA K x lo hi H Q ∨ rSlS x lo hi H Q)
theorem cut_all {us : List V} {lo hi : Option Int} (h : HT.sIx us.length 0 lo = 0 ∧ HT.sIx us.length us.length hi = us.length) {xs : List PV} (e : us.length = xs.length) : cutP xs lo hi = xs := by
  unfold cutP
  rw [← e, h.1, h.2]
  simp [e]
theorem je_sli {o : Expr} {lo hi : Option Expr} {d : DE} {dl dh : DO} {p2 : Pos} (ho : JE T X E o d) (hl : JO T X E lo dl) (hh : JO T X E hi dh) : JE T X E (.Subscript o (.Slice lo hi none p2) pos) (dSli d dl dh) := by
  refine pe_imp (pe_slice (SlR.or sl_list (SlR.or sl_tupA sl_str)) ho hl hh) fun σ H Q ⟨R, F, l, S, r, e, h⟩ => ?_
  refine seqV (goV T X.K (E σ) Q) r e h fun x S1 R1 F1 H1 u p ex r1 rx e1 h1 => ?_
  refine seqO (goV T X.K (E σ) Q) r1 e1 h1 fun i S2 R2 F2 H2 p2 ex2 r2 e2 h2 => ?_
  refine seqO (goV T X.K (E σ) Q) r2 e2 h2 fun j S3 R3 F3 H3 p3 ex3 r3 e3 h3 => ?_
  have rx := (rx.mono p2 ex2).mono p3 ex3
  have h3 : OkV T X.K R3 F3 (sliZ x i j S3) Q (E σ) := h3
  cases x with
  | str z =>
    have := rel_str rx; subst this
    simp only [sliZ] at h3
    split at h3
    · rename_i hz
      exact .inr (.inr ⟨z, rfl, sz16 hz, PostV.here r3 (by rw [Rel]) h3⟩)
    · exact h3.elim
  | _ =>
    all_goals
      simp only [sliZ] at h3
      split at h3
      · rename_i xs hv
        obtain ⟨a, us, ea, hs, hl⟩ := view_rel r3 rx hv
        exact .inl ⟨a, us, ea, (shp_rd hs).1 (.inl rfl), fun p hp => PostV.new (k := .lst) r3 hp upd_same (cut_rel hl _ _) h3⟩
      · rename_i xs hv
        obtain ⟨a, us, ea, hs, hl⟩ := view_rel r3 rx hv
        exact .inl ⟨a, us, ea, (shp_rd hs).1 (.inr rfl), fun p hp => PostV.new (k := .lst) r3 hp upd_same (cut_rel hl _ _) h3⟩
      · rename_i xs hv
        obtain ⟨a, us, ea, hs, hl⟩ := view_rel r3 rx hv
        refine .inr (.inl ⟨a, us, ea, (shp_rd hs).2 rfl, fun hw => ?_, fun _ p hp => PostV.new (k := .tup) r3 hp upd_same (cut_rel hl _ _) h3⟩)
        rw [cut_all hw hl.length] at h3
        have ex := tup_nd r3 rx hv
        rw [ex] at rx
        rw [← ea]
        exact PostV.here r3 rx h3
      · exact h3.elim
end
end Z
end
section
set_option Elab.async false
set_option linter.all false
set_option maxRecDepth 100000
set_option maxHeartbeats 1000000
/-! Z6: calls of built-ins. -/
namespace Z
open PySem PySem.Spec PyProof.Rows L2

/-- what a derivation may lean on at a place of a def -/
structure Cg (X : Cx) (E : XS) (k : Nat) : Prop where
  calm : X.calm = true
  nd : X.N.Nodup
  room : Room k X.A
  gd : X.A.guards = some []
  takes : Takes X (fun cls d σ H => E σ cls d H)
  own : PassesOwn (model X.prog X.w) X.A X.env X.xe
theorem Cg.pass {X : Cx} {E : XS} {k : Nat} (c : Cg X E k) (pins : List (Addr × Obj)) (σ : L2.St) (H : Hp) (s : Shared) (e : Value) (s' : Shared) (I : Inv X pins σ H s) (q : L2.CX X.prog X.w X.stack H s (E σ) e s') : X.xe e s' :=
  c.takes e s' (XE.of_call I (fun _ _ _ h => h) q)
theorem Cg.hu {X : Cx} {E : XS} {k : Nat} (c : Cg X E k) : X.A.units + 64 < cLine := c.room.units
theorem Cg.hu1 {X : Cx} {E : XS} {k : Nat} (c : Cg X E k) : X.A.units + 1 < cLine := by have := c.hu; omega
theorem Cg.hu100 {X : Cx} {E : XS} {k : Nat} (c : Cg X E k) : X.A.units + 100 < cLine := by have := c.room.un; omega

/-- a built-in's answer by values, and the layer's reading of it -/
def CalZ (T : Tb) (K : PySem.W.Frag) (f : List PV → Sto → Out PV) (r : List V → Hp → VK → Prop) : Prop := ∀ (E : XK) (R : Pl) (F H : Hp) (S : Sto) (xs : List PV) (us : List V) (Q : VK), Rep T K R F S H → RelL T K R F xs us → OkV T K R F (f xs S) Q E → r us H Q
def dApp (f : List PV → Sto → Out PV) (ar : DA) : DE := fun l S => (ar l S).bind fun xs S1 => f xs S1
section
variable {T : Tb} {X : Cx} {E : XS} {e : Expr} {es : List Expr} {ar : DA} {p pos : Pos} {f : List PV → Sto → Out PV} {r : List V → Hp → VK → Prop} {x : Str}
theorem app_tCB (hz : CalZ T X.K f r) {σ : L2.St} {H : Hp} {Q : VK} (h : tV T X.K E (dApp f ar) σ H Q) : tCB r (tL T X.K E ar) σ H Q := by
  obtain ⟨R, F, l, S, re, e, h⟩ := h
  exact seqL (goV T X.K (E σ) Q) re e h fun xs S1 R1 F1 H1 us p ex r1 rx e1 h1 => hz (E σ) R1 F1 H1 S1 xs us Q r1 rx h1
theorem je_callB {id : String} (hc : CallR X (.builtin id) r) (hz : CalZ T X.K f r) (hm : X.mg x = none) (ha : JA T X E (e :: es) ar) (hg : Gl X x := by rfl) (hv : bootBuiltins x = some (.builtin id) := by rfl) (hn : x ≠ "__name__" := by decide) (hdb : (x == ("__debug__" : Str)) = false := by decide)
    (he : starEach (e :: es) X.env = (false, eval e X.env) :: starEach es X.env := by rfl) (hpl : (backTo pos (starEach es X.env)).any (·.1) = false := by rfl) : JE T X E (.Call (.Name x p) (e :: es) [] pos) (dApp f ar) :=
  pe_imp (pe_callB hc hg hm hv ha hn hdb he hpl) fun _ _ _ h => app_tCB hz h
theorem je_callT {n : String} (hc : CallR X (.type n) r) (hz : CalZ T X.K f r) (hm : X.mg x = none) (ha : JA T X E (e :: es) ar) (hg : Gl X x := by rfl) (hv : bootBuiltins x = some (.type n) := by rfl) (hn : x ≠ "__name__" := by decide) (hdb : (x == ("__debug__" : Str)) = false := by decide)
    (he : starEach (e :: es) X.env = (false, eval e X.env) :: starEach es X.env := by rfl) (hpl : (backTo pos (starEach es X.env)).any (·.1) = false := by rfl) : JE T X E (.Call (.Name x p) (e :: es) [] pos) (dApp f ar) :=
  pe_imp (pe_callTy hc hg hm hv ha hn hdb he hpl) fun _ _ _ h => app_tCB hz h
end
section
variable {T : Tb} {K : PySem.W.Frag} {R : Pl} {F H : Hp} {S : Sto}
theorem rel1 {x : PV} {us : List V} (h : RelL T K R F [x] us) : ∃ u, us = [u] ∧ Rel T K R F x u := by
  rw [RelL] at h
  obtain ⟨u, r, rfl, h1, h2⟩ := h
  rw [RelL] at h2
  subst h2
  exact ⟨u, rfl, h1⟩
theorem rel2 {x y : PV} {us : List V} (h : RelL T K R F [x, y] us) : ∃ u w, us = [u, w] ∧ Rel T K R F x u ∧ Rel T K R F y w := by
  rw [RelL] at h
  obtain ⟨u, r, rfl, h1, h2⟩ := h
  obtain ⟨w, rfl, h3⟩ := rel1 h2
  exact ⟨u, w, rfl, h1, h3⟩
end

/-! ### len -/
def lenP (xs : List PV) (S : Sto) : Out PV := match xs with
  | [.str z] => if z.length ≤ 16777216 then .ok (.int z.length) S else .bad
  | [x] => (match view x S with
    | some (.lst, ys) => .ok (.int ys.length) S
    | some (.scr, ys) => .ok (.int ys.length) S
    | some (.tup, ys) => .ok (.int ys.length) S
    | some (.dct _ ks, _) => .ok (.int ks.length) S
    | _ => .bad)
  | _ => .bad
def rLenRK : List V → Hp → VK → Prop := fun xs H Q => ∃ (a : Addr) (kvs : List (Key × V)), xs = [V.ref a] ∧ Rd H a (.dK kvs) ∧ Q (.int ((kvs.length : Nat) : Int)) H
def rLenRT : List V → Hp → VK → Prop := fun xs H Q => ∃ (a : Addr) (kvs : List (List Key × V)), xs = [V.ref a] ∧ Rd H a (.dT kvs) ∧ Q (.int ((kvs.length : Nat) : Int)) H
theorem call_lenRK {X : Cx} : CallR X (.builtin "len") rLenRK := by
  rintro pins s σ H xs us Q I r ⟨a, kvs, rfl, ha, q⟩
  cases r with
  | cons rx rr =>
    cases rr
    cases rx
    exact d_len I ha fun t s' I' => ⟨.int ((kvs.length : Nat) : Int), H, I', ⟨t, rfl⟩, q⟩
theorem call_lenRT {X : Cx} : CallR X (.builtin "len") rLenRT := by
  rintro pins s σ H xs us Q I r ⟨a, kvs, rfl, ha, q⟩
  cases r with
  | cons rx rr =>
    cases rr
    cases rx
    obtain ⟨z, hd, ys, rel, dd⟩ := dt_rd I.hok ha
    have e := Paired.length rel
    have hz : (ys.length : Int) < 2 ^ 63 := by
      rw [sizeLine_eq, e] at z
      omega
    refine call_len_dictH hd dd hz ⟨.int ((kvs.length : Nat) : Int), H, I.tok _, ⟨s.toks + 1, ?_⟩, q⟩
    rw [e]
abbrev rLenZ (K : PySem.W.Frag) : List V → Hp → VK → Prop := fun xs H Q => (∃ x n, xs = [x] ∧ LenV K x H n ∧ Q (.int n) H) ∨ (rLenRK xs H Q ∨ rLenRT xs H Q)
theorem cr_len {X : Cx} : CallR X (.builtin "len") (rLenZ X.K) := CallR.or call_len (CallR.or call_lenRK call_lenRT)
section
variable {T : Tb} {K : PySem.W.Frag}
theorem cz_len : CalZ T K lenP (rLenZ K) := by
  intro E R F H S xs us Q r rx h
  unfold lenP at h
  split at h
  · obtain ⟨u, rfl, r1⟩ := rel1 rx
    have := rel_str r1; subst this
    split at h
    · rename_i hz
      exact .inl ⟨_, _, rfl, ⟨sz16 hz, rfl⟩, PostV.here r (by rw [Rel]) h⟩
    · exact h.elim
  · obtain ⟨u, rfl, r1⟩ := rel1 rx
    split at h
    · rename_i ys hv
      obtain ⟨a, us, rfl, hs, hl⟩ := view_rel r r1 hv
      exact .inl ⟨_, ys.length, rfl, .inl ⟨us, (shp_rd hs).1 (.inl rfl), hl.length.symm⟩, PostV.here r (by rw [Rel]) h⟩
    · rename_i ys hv
      obtain ⟨a, us, rfl, hs, hl⟩ := view_rel r r1 hv
      exact .inl ⟨_, ys.length, rfl, .inl ⟨us, (shp_rd hs).1 (.inr rfl), hl.length.symm⟩, PostV.here r (by rw [Rel]) h⟩
    · rename_i ys hv
      obtain ⟨a, us, rfl, hs, hl⟩ := view_rel r r1 hv
      exact .inl ⟨_, ys.length, rfl, .inr ⟨us, (shp_rd hs).2 rfl, hl.length.symm⟩, PostV.here r (by rw [Rel]) h⟩
    · rename_i t ks ys hv
      obtain ⟨a, us, rfl, hs, hl⟩ := view_rel r r1 hv
      cases t with
      | false =>
        obtain ⟨h0, kk, rfl, h2⟩ := hs
        rw [List.length_map] at h0
        refine .inr (.inl ⟨a, _, rfl, h2, PostV.here r (v := .int (kk.map PK.k).length) ?_ h⟩)
        rw [Rel, List.length_zip, h0, List.length_map, Nat.min_self]
      | true =>
        obtain ⟨h0, kk, rfl, h2⟩ := hs
        rw [List.length_map] at h0
        refine .inr (.inr ⟨a, _, rfl, h2, PostV.here r (v := .int (kk.map PK.t).length) ?_ h⟩)
        rw [Rel, List.length_zip, h0, List.length_map, Nat.min_self]
    · exact h.elim
  · exact h.elim

/-! ### int, abs, bool -/
def intP (xs : List PV) (S : Sto) : Out PV := match xs with
  | [.int i] => .ok (.int i) S
  | [.bl b] => .ok (.int (if b then 1 else 0)) S
  | _ => .bad
theorem cz_int : CalZ T K intP (fun xs H Q => (∃ i, xs = [.int i] ∧ Q (.int i) H) ∨ ∃ k, xs = [.bl k] ∧ Q (.int (if k then 1 else 0)) H) := by
  intro E R F H S xs us Q r rx h
  unfold intP at h
  split at h
  · obtain ⟨u, rfl, r1⟩ := rel1 rx
    have := rel_int r1; subst this
    exact .inl ⟨_, rfl, PostV.here r (by rw [Rel]) h⟩
  · obtain ⟨u, rfl, r1⟩ := rel1 rx
    have := rel_bl r1; subst this
    exact .inr ⟨_, rfl, PostV.here r (by rw [Rel]) h⟩
  · exact h.elim
def absP (xs : List PV) (S : Sto) : Out PV := match xs with
  | [.int i] => .ok (.int (if i < 0 then -i else i)) S
  | _ => .bad
theorem cz_abs : CalZ T K absP (fun xs H Q => ∃ i, xs = [.int i] ∧ Q (.int (if i < 0 then -i else i)) H) := by
  intro E R F H S xs us Q r rx h
  unfold absP at h
  split at h
  · obtain ⟨u, rfl, r1⟩ := rel1 rx
    have := rel_int r1; subst this
    exact ⟨_, rfl, PostV.here r (by rw [Rel]) h⟩
  · exact h.elim

/-! ### list, tuple -/
def listP (xs : List PV) (S : Sto) : Out PV := match xs with
  | [x] => (match view x S with
    | some (.lst, ys) => .ok (.nd .lst ys) S
    | some (.scr, ys) => .ok (.nd .lst ys) S
    | some (.tup, ys) => .ok (.nd .lst ys) S
    | _ => .bad)
  | _ => .bad
def listM (xs : List PV) (S : Sto) : Out PV := match xs with
  | [x] => (match view x S with
    | some (.lst, ys) => .ok (.ref S.length) (S ++ [some (.lst, ys)])
    | some (.scr, ys) => .ok (.ref S.length) (S ++ [some (.lst, ys)])
    | some (.tup, ys) => .ok (.ref S.length) (S ++ [some (.lst, ys)])
    | _ => .bad)
  | _ => .bad
abbrev rListZ (K : PySem.W.Frag) : List V → Hp → VK → Prop := fun xs H Q => ∃ p ys, xs = [.ref p] ∧ (SqL K H p ys ∨ SqT K H p ys) ∧ ∀ l, H l = none → Q (.ref l) (upd H l (.lst ys))
theorem cz_list : CalZ T K listP (rListZ K) := by
  intro E R F H S xs us Q r rx h
  unfold listP at h
  split at h
  · obtain ⟨u, rfl, r1⟩ := rel1 rx
    split at h
    · rename_i ys hv
      obtain ⟨a, us, rfl, hs, hl⟩ := view_rel r r1 hv
      exact ⟨a, us, rfl, .inl ((shp_rd hs).1 (.inl rfl)), fun p hp => PostV.new (k := .lst) r hp upd_same hl h⟩
    · rename_i ys hv
      obtain ⟨a, us, rfl, hs, hl⟩ := view_rel r r1 hv
      exact ⟨a, us, rfl, .inl ((shp_rd hs).1 (.inr rfl)), fun p hp => PostV.new (k := .lst) r hp upd_same hl h⟩
    · rename_i ys hv
      obtain ⟨a, us, rfl, hs, hl⟩ := view_rel r r1 hv
      exact ⟨a, us, rfl, .inr ((shp_rd hs).2 rfl), fun p hp => PostV.new (k := .lst) r hp upd_same hl h⟩
    · exact h.elim
  · exact h.elim
theorem cz_listM : CalZ T K listM (rListZ K) := by
  intro E R F H S xs us Q r rx h
  unfold listM at h
  split at h
  · obtain ⟨u, rfl, r1⟩ := rel1 rx
    split at h
    · rename_i ys hv
      obtain ⟨a, us, rfl, hs, hl⟩ := view_rel r r1 hv
      exact ⟨a, us, rfl, .inl ((shp_rd hs).1 (.inl rfl)), fun p hp => PostV.newM (k := .lst) r hp upd_same hl h⟩
    · rename_i ys hv
      obtain ⟨a, us, rfl, hs, hl⟩ := view_rel r r1 hv
      exact ⟨a, us, rfl, .inl ((shp_rd hs).1 (.inr rfl)), fun p hp => PostV.newM (k := .lst) r hp upd_same hl h⟩
    · rename_i ys hv
      obtain ⟨a, us, rfl, hs, hl⟩ := view_rel r r1 hv
      exact ⟨a, us, rfl, .inr ((shp_rd hs).2 rfl), fun p hp => PostV.newM (k := .lst) r hp upd_same hl h⟩
    · exact h.elim
  · exact h.elim
def tupP (xs : List PV) (S : Sto) : Out PV := match xs with
  | [x] => (match view x S with
    | some (.lst, ys) => .ok (.nd .tup ys) S
    | some (.scr, ys) => .ok (.nd .tup ys) S
    | some (.tup, _) => .ok x S
    | _ => .bad)
  | _ => .bad
theorem cz_tup : CalZ T K tupP (fun xs H Q => ∃ p ys, xs = [.ref p] ∧ ((SqL K H p ys ∧ ∀ l, H l = none → Q (.ref l) (upd H l (.tup ys))) ∨ (SqT K H p ys ∧ Q (.ref p) H))) := by
  intro E R F H S xs us Q r rx h
  unfold tupP at h
  split at h
  · obtain ⟨u, rfl, r1⟩ := rel1 rx
    split at h
    · rename_i ys hv
      obtain ⟨a, us, rfl, hs, hl⟩ := view_rel r r1 hv
      exact ⟨a, us, rfl, .inl ⟨(shp_rd hs).1 (.inl rfl), fun p hp => PostV.new (k := .tup) r hp upd_same hl h⟩⟩
    · rename_i ys hv
      obtain ⟨a, us, rfl, hs, hl⟩ := view_rel r r1 hv
      exact ⟨a, us, rfl, .inl ⟨(shp_rd hs).1 (.inr rfl), fun p hp => PostV.new (k := .tup) r hp upd_same hl h⟩⟩
    · rename_i ys hv
      obtain ⟨a, us, rfl, hs, hl⟩ := view_rel r r1 hv
      exact ⟨a, us, rfl, .inr ⟨(shp_rd hs).2 rfl, PostV.here r r1 h⟩⟩
    · exact h.elim
  · exact h.elim

/-! ### sum, any, all -/
def asIs : List PV → Option (List Int)
  | [] => some []
  | .int i :: xs => (asIs xs).map fun r => i :: r
  | _ :: _ => none
def asBs : List PV → Option (List Bool)
  | [] => some []
  | .bl i :: xs => (asBs xs).map fun r => i :: r
  | _ :: _ => none
theorem asIs_map (ns : List Int) : asIs (ns.map PV.int) = some ns := by
  induction ns with
  | nil => rfl
  | cons n ns ih => rw [List.map_cons, asIs, ih]; rfl
theorem asBs_map (ns : List Bool) : asBs (ns.map PV.bl) = some ns := by
  induction ns with
  | nil => rfl
  | cons n ns ih => rw [List.map_cons, asBs, ih]; rfl
theorem asIs_rel {R : Pl} {F : Hp} : ∀ {xs : List PV} {us : List V} {ns : List Int}, RelL T K R F xs us → asIs xs = some ns → us = ns.map V.int
  | [], us, ns, r, h => by cases h; rw [RelL] at r; exact r
  | x :: xs, us, ns, r, h => by
    rw [RelL] at r
    obtain ⟨u, vs, rfl, r1, r2⟩ := r
    cases x with
    | int i =>
      rw [asIs, Option.map_eq_some_iff] at h
      obtain ⟨ns', h1, rfl⟩ := h
      rw [rel_int r1, asIs_rel r2 h1]; rfl
    | _ => cases h
theorem asBs_rel {R : Pl} {F : Hp} : ∀ {xs : List PV} {us : List V} {ns : List Bool}, RelL T K R F xs us → asBs xs = some ns → us = ns.map V.bl
  | [], us, ns, r, h => by cases h; rw [RelL] at r; exact r
  | x :: xs, us, ns, r, h => by
    rw [RelL] at r
    obtain ⟨u, vs, rfl, r1, r2⟩ := r
    cases x with
    | bl i =>
      rw [asBs, Option.map_eq_some_iff] at h
      obtain ⟨ns', h1, rfl⟩ := h
      rw [rel_bl r1, asBs_rel r2 h1]; rfl
    | _ => cases h
/-- the items of a list -/
def lstOf (x : PV) (S : Sto) : Option (List PV) := match view x S with
  | some (.lst, ys) => some ys
  | some (.scr, ys) => some ys
  | _ => none
theorem lstOf_rel {R : Pl} {F H : Hp} {S : Sto} (r : Rep T K R F S H) {x : PV} {u : V} (h : Rel T K R F x u) {ys : List PV} (e : lstOf x S = some ys) : ∃ a us, u = .ref a ∧ SqL K H a us ∧ RelL T K R F ys us := by
  unfold lstOf at e
  split at e
  · rename_i zs hv
    cases e
    obtain ⟨a, us, rfl, hs, hl⟩ := view_rel r h hv
    exact ⟨a, us, rfl, (shp_rd hs).1 (.inl rfl), hl⟩
  · rename_i zs hv
    cases e
    obtain ⟨a, us, rfl, hs, hl⟩ := view_rel r h hv
    exact ⟨a, us, rfl, (shp_rd hs).1 (.inr rfl), hl⟩
  · cases e
def sumP (xs : List PV) (S : Sto) : Out PV := match xs with
  | [x] => (match (lstOf x S).bind asIs with
    | some ns => .ok (.int ns.sum) S
    | none => .bad)
  | _ => .bad
def anyP (xs : List PV) (S : Sto) : Out PV := match xs with
  | [x] => (match (lstOf x S).bind asBs with
    | some bs => .ok (.bl (bs.any id)) S
    | none => .bad)
  | _ => .bad
def allP (xs : List PV) (S : Sto) : Out PV := match xs with
  | [x] => (match (lstOf x S).bind asBs with
    | some bs => .ok (.bl (bs.all id)) S
    | none => .bad)
  | _ => .bad
theorem cz_sum : CalZ T K sumP (rSum K) := by
  intro E R F H S xs us Q r rx h
  unfold sumP at h
  split at h
  · obtain ⟨u, rfl, r1⟩ := rel1 rx
    split at h
    · rename_i ns hv
      rw [Option.bind_eq_some_iff] at hv
      obtain ⟨ys, h1, h2⟩ := hv
      obtain ⟨a, us, rfl, hs, hl⟩ := lstOf_rel r r1 h1
      have := asIs_rel hl h2; subst this
      exact ⟨a, ns, rfl, hs, PostV.here r (by rw [Rel]) h⟩
    · exact h.elim
  · exact h.elim
theorem cz_any : CalZ T K anyP (rAny K) := by
  intro E R F H S xs us Q r rx h
  unfold anyP at h
  split at h
  · obtain ⟨u, rfl, r1⟩ := rel1 rx
    split at h
    · rename_i ns hv
      rw [Option.bind_eq_some_iff] at hv
      obtain ⟨ys, h1, h2⟩ := hv
      obtain ⟨a, us, rfl, hs, hl⟩ := lstOf_rel r r1 h1
      have := asBs_rel hl h2; subst this
      exact ⟨a, ns, rfl, hs, PostV.here r (by rw [Rel]) h⟩
    · exact h.elim
  · exact h.elim
theorem cz_all : CalZ T K allP (rAll K) := by
  intro E R F H S xs us Q r rx h
  unfold allP at h
  split at h
  · obtain ⟨u, rfl, r1⟩ := rel1 rx
    split at h
    · rename_i ns hv
      rw [Option.bind_eq_some_iff] at hv
      obtain ⟨ys, h1, h2⟩ := hv
      obtain ⟨a, us, rfl, hs, hl⟩ := lstOf_rel r r1 h1
      have := asBs_rel hl h2; subst this
      exact ⟨a, ns, rfl, hs, PostV.here r (by rw [Rel]) h⟩
    · exact h.elim
  · exact h.elim
end

/-! ### repr of data -/
mutual
theorem dat_noD : ∀ (x : PV) (d : PyData), dat x = some d → d.hasDict = false
  | .non, d, h => by rw [dat] at h; cases h; rw [PyData.hasDict]
  | .bl b, d, h => by rw [dat] at h; cases h; rw [PyData.hasDict]
  | .int i, d, h => by rw [dat] at h; cases h; rw [PyData.hasDict]
  | .str x, d, h => by rw [dat] at h; cases h; rw [PyData.hasDict]
  | .nd .lst xs, d, h => by
    rw [dat, Option.map_eq_some_iff] at h
    obtain ⟨ds, h1, rfl⟩ := h
    rw [PyData.hasDict]; exact datL_noD xs ds h1
  | .nd .scr xs, d, h => by
    rw [dat, Option.map_eq_some_iff] at h
    obtain ⟨ds, h1, rfl⟩ := h
    rw [PyData.hasDict]; exact datL_noD xs ds h1
  | .nd .tup xs, d, h => by
    rw [dat, Option.map_eq_some_iff] at h
    obtain ⟨ds, h1, rfl⟩ := h
    rw [PyData.hasDict]; exact datL_noD xs ds h1
  | .nd (.dct _ _) xs, d, h => by simp [dat] at h
  | .nd (.ins _ _) xs, d, h => by simp [dat] at h
  | .ty _, d, h => by simp [dat] at h
  | .cls _, d, h => by simp [dat] at h
  | .ref _, d, h => by simp [dat] at h
theorem datL_noD : ∀ (xs : List PV) (ds : List PyData), datL xs = some ds → PyData.hasDictAll ds = false
  | [], ds, h => by rw [datL] at h; cases h; rw [PyData.hasDictAll]
  | x :: xs, ds, h => by
    rw [datL, Option.bind_eq_some_iff] at h
    obtain ⟨d, h1, h2⟩ := h
    rw [Option.map_eq_some_iff] at h2
    obtain ⟨ds', h3, rfl⟩ := h2
    rw [PyData.hasDictAll, dat_noD x d h1, datL_noD xs ds' h3]; rfl
end
theorem datS_noD {x : PV} {S : Sto} {d : PyData} (h : datS x S = some d) : d.hasDict = false := by
  unfold datS at h
  split at h
  · exact dat_noD _ _ h
  · exact dat_noD _ _ h
def reprP (xs : List PV) (S : Sto) : Out PV := match xs with
  | [x] => (match datS x S with
    | some d => if d.showable = true ∧ d.depth ≤ 20 ∧ d.shown.length ≤ 16777216 then .ok (.str d.shown) S else .bad
    | none => .bad)
  | _ => .bad
abbrev rReprZ (K : PySem.W.Frag) : List V → Hp → VK → Prop := fun xs H Q => ∃ x d, xs = [x] ∧ Dp K H x d ∧ d.hasDict = false ∧ d.showable = true ∧ d.depth ≤ 20 ∧ d.shown.length ≤ sizeLine ∧ Q (.str d.shown) H
theorem cr_repr {X : Cx} (gd : X.A.guards = some []) (hu : X.A.units + 64 < cLine) : CallR X (.builtin "repr") (rReprZ X.K) := by
  intro pins s σ H xs us Q I r h
  obtain ⟨x, d, rfl, hd, nd, sh, dp, hz, q⟩ := h
  obtain ⟨u, rfl, rx⟩ := vals1 r
  obtain ⟨as, rd⟩ := Dp.reads I d x u hd rx
  cases hd with
  | non => cases rx; exact PySem.P.repr_of_none ⟨.str _, H, I.tok _, ⟨_, rfl⟩, q⟩
  | bl b => cases rx; exact PySem.P.repr_of_bool ⟨.str _, H, I.tok _, ⟨_, rfl⟩, q⟩
  | int i =>
    obtain ⟨t, rfl⟩ := rx
    exact PySem.P.repr_of_int (by simpa [PyData.showable] using sh) ⟨.str _, H, I.tok _, ⟨_, rfl⟩, q⟩
  | str z =>
    obtain ⟨t, rfl⟩ := rx
    exact PySem.P.repr_of_str ⟨.str _, H, I.tok _, ⟨_, rfl⟩, q⟩ hz
  | lst hs ha =>
    cases rx
    exact repr_of_reads' rd sh (PyData.noDict_hsm nd) gd (by omega) (fun b o e => e) (fun h' u tk k => ⟨.str _, H, I.kept k, ⟨_, rfl⟩, q⟩) hz
  | tup hs ha =>
    cases rx
    exact repr_of_reads' rd sh (PyData.noDict_hsm nd) gd (by omega) (fun b o e => e) (fun h' u tk k => ⟨.str _, H, I.kept k, ⟨_, rfl⟩, q⟩) hz
theorem cz_repr {T : Tb} {K : PySem.W.Frag} : CalZ T K reprP (rReprZ K) := by
  intro E R F H S xs us Q r rx h
  unfold reprP at h
  split at h
  · obtain ⟨u, rfl, r1⟩ := rel1 rx
    split at h
    · rename_i d hd
      split at h
      · rename_i hh
        exact ⟨u, d, rfl, datS_dp r r1 hd, datS_noD hd, hh.1, hh.2.1, sz16 hh.2.2, PostV.here r (by rw [Rel]) h⟩
      · exact h.elim
    · exact h.elim
  · exact h.elim

/-! ### isinstance by built-in types -/
inductive TyR (K : PySem.W.Frag) (H : Hp) : V → Value → Prop where
  | base {x : V} {t : Value} (h : TyX K H x t) : TyR K H x t
  | rT {a : Addr} {kvs : List (List Key × V)} (h : Rd H a (.dT kvs)) : TyR K H (.ref a) (.type "dict")
  | exn {a C : Addr} {d : Option Addr} (h : H a = some (EXV C d a)) (hd : d = none ∨ ∃ dd fs, d = some dd ∧ H dd = some (.xd fs)) (O : ExcC K C) : TyR K H (.ref a) (.ref C)
theorem exv_inst {X : Cx} {pins : List (Addr × Obj)} {σ : L2.St} {H : Hp} {s : Shared} {a C : Addr} {d : Option Addr} (I : Inv X pins σ H s) (h : H a = some (EXV C d a)) (hd : d = none ∨ ∃ dd fs, d = some dd ∧ H dd = some (.xd fs)) :
    ∃ oe od, PySem.W.InstAt s.heap a oe C od := by
  have q : ObjOk X.prog X.w H s.heap a (.ext fun h => ∃ (oe : Obj) (vs : Array Value), h.get? a = some oe ∧ Zc (.ref C) d oe ∧ oe.data = .fields vs) := I.hok a _ h
  obtain ⟨⟨oe, vs, e1, e2, e3⟩, _, _⟩ := q
  have nc : PySem.W.notCls oe := by unfold PySem.W.notCls; rw [e3] <;> rfl
  rcases hd with rfl | ⟨dd, fs, rfl, hx⟩
  · exact ⟨oe, none, e1, e2.1, nc, by rw [e2.2]; trivial⟩
  · have hx' : ObjOk X.prog X.w H s.heap dd (.xd fs) := I.hok dd _ hx
    obtain ⟨mA, hns, _⟩ := hx'
    obtain ⟨od, ho, _⟩ := lookIn_ns hns
    exact ⟨oe, some od, e1, e2.1, nc, by rw [e2.2]; exact ho⟩
theorem kit_ofR {X : Cx} {pins : List (Addr × Obj)} {σ : L2.St} {H : Hp} {s : Shared} {x : V} {u t : Value} (I : Inv X pins σ H s) (rx : RelV x u) (ty : TyR X.K H x t) : ∃ P : Heap → Prop, PySem.W.KitX X.K u t P ∧ P s.heap ∧ u ≠ .builtin "__main__.__loader__#opaque" := by
  cases ty with
  | base h => exact kit_of I rx h
  | rT h =>
    cases rx
    obtain ⟨_, _, ys, _, dd⟩ := dt_rd I.hok h
    obtain ⟨o, ho, hc⟩ := dd.typeIs
    exact ⟨_, PySem.W.kitx_dict, ⟨o, ho, hc⟩, fun z => nomatch z⟩
  | @exn a C d h hd O =>
    cases rx
    obtain ⟨oe, od, J⟩ := exv_inst I h hd
    refine ⟨_, PySem.W.kitx_exc (x := a) (C := C) (ox := oe) (od := od) ?_ O.hg O.hk O.hs O.ha O.hn O.ht O.hm, J, fun z => nomatch z⟩
    obtain ⟨cd, hc, _⟩ := PySem.W.any_some O.hd
    rw [hc]; rfl
def rIsiZ (K : PySem.W.Frag) : List V → Hp → VK → Prop := fun xs H Q => ∃ (x c : V) (t u : Value) (b : Bool), xs = [x, c] ∧ ClsV c u ∧ TyR K H x t ∧ PySem.W.kitOne K t u = some b ∧ Q (.bl b) H
def rIsiTZ (K : PySem.W.Frag) : List V → Hp → VK → Prop := fun xs H Q => ∃ (x : V) (tp : Addr) (cs : List V) (t : Value) (us : List Value) (b : Bool), xs = [x, .ref tp] ∧ H tp = some (.tup cs) ∧ Paired ClsV cs us ∧ TyR K H x t ∧ PySem.W.kitAny K t us = some b ∧ Q (.bl b) H
theorem call_isiZ {X : Cx} : CallR X (.builtin "isinstance") (rIsiZ X.K) := by
  rintro pins s σ H xs us Q I r ⟨x, c, t, u, b, rfl, hc, ty, e, q⟩
  cases r with
  | cons rx rr =>
    cases rr with
    | cons rc rr =>
      cases rr
      have ec := hc.eq rc
      subst ec
      obtain ⟨P, Z, hP, hx⟩ := kit_ofR I rx ty
      exact PySem.W.kia_one Z I.kIn hP e hx fun tk => ⟨.bl b, H, I.tok tk, rfl, q⟩
theorem call_isiTZ {X : Cx} : CallR X (.builtin "isinstance") (rIsiTZ X.K) := by
  rintro pins s σ H xs us Q I r ⟨x, tp, cs, t, ws, b, rfl, hT, hc, ty, e, q⟩
  cases r with
  | cons rx rr =>
    cases rr with
    | cons rc rr =>
      cases rr
      cases rc
      obtain ⟨P, Z, hP, hx⟩ := kit_ofR I rx ty
      obtain ⟨_, its, rv, ⟨oc, od, dt, sl⟩, h1, h2, n, h3⟩ := I.hok tp _ hT
      have ew := ClsV.all hc rv
      subst ew
      dsimp only at h2 h3
      subst h2 h3
      exact PySem.W.kia_tup Z I.kIn hP h1 e hx fun tk => ⟨.bl b, H, I.tok tk, rfl, q⟩
def tyZ (x : PV) (S : Sto) : Option String := match x with
  | .non => some "NoneType"
  | .bl _ => some "bool"
  | .int _ => some "int"
  | .str _ => some "str"
  | x => match view x S with
    | some (.lst, _) => some "list"
    | some (.scr, _) => some "list"
    | some (.tup, _) => some "tuple"
    | some (.dct _ _, _) => some "dict"
    | _ => none
def kitAll (t : String) : List PV → Option Bool
  | [] => some false
  | .ty n :: r => (kitB t n).bind fun b => (kitAll t r).map fun c => b || c
  | _ => none
def isiP (xs : List PV) (S : Sto) : Out PV := match xs with
  | [x, .ty n] => (match (tyZ x S).bind fun t => kitB t n with
    | some b => .ok (.bl b) S
    | none => .bad)
  | [x, .nd .tup cs] => (match (tyZ x S).bind fun t => kitAll t cs with
    | some b => .ok (.bl b) S
    | none => .bad)
  | _ => .bad
section
variable {T : Tb} {K : PySem.W.Frag} {R : Pl} {F H : Hp} {S : Sto}
theorem sql_ty {a : Addr} {us : List V} (h : SqL K H a us) : TyR K H (.ref a) (.type "list") := by
  rcases h with (h | ⟨o, h⟩) | ⟨o, its, n, h1, h2, h3, _⟩
  · exact .base (.base (.lst h))
  · exact .base (.base (.frz h))
  · exact .base (.kList h1 h2)
theorem tyZ_rel (r : Rep T K R F S H) {x : PV} {u : V} (h : Rel T K R F x u) {t : String} (e : tyZ x S = some t) : TyR K H u (.type t) := by
  cases x with
  | non => cases e; rw [rel_non h]; exact .base (.base .non)
  | bl b => cases e; rw [rel_bl h]; exact .base (.base (.bl b))
  | int b => cases e; rw [rel_int h]; exact .base (.base (.int b))
  | str b => cases e; rw [rel_str h]; exact .base (.base (.str b))
  | _ =>
    all_goals
      simp only [tyZ] at e
      split at e
      · rename_i ys hv
        cases e
        obtain ⟨a, us, rfl, hs, hl⟩ := view_rel r h hv
        exact sql_ty ((shp_rd hs).1 (.inl rfl))
      · rename_i ys hv
        cases e
        obtain ⟨a, us, rfl, hs, hl⟩ := view_rel r h hv
        exact sql_ty ((shp_rd hs).1 (.inr rfl))
      · rename_i ys hv
        cases e
        obtain ⟨a, us, rfl, hs, hl⟩ := view_rel r h hv
        exact .base (.base (.tup hs))
      · rename_i tt ks ys hv
        cases e
        obtain ⟨a, us, rfl, hs, hl⟩ := view_rel r h hv
        cases tt with
        | false => obtain ⟨_, kk, _, h2⟩ := hs; rcases h2 with h2 | ⟨ob, h2⟩ <;> first | exact .base (.base (.dK h2)) | exact .base (.fDict h2)
        | true => obtain ⟨_, kk, _, h2⟩ := hs; exact .rT h2
      · cases e
theorem kitAll_rel {t : String} : ∀ {cs : List PV} {us : List V} {b : Bool}, RelL T K R F cs us → kitAll t cs = some b → ∃ ws : List Value, Paired ClsV us ws ∧ PySem.W.kitAny K (.type t) ws = some b
  | [], us, b, r, h => by
    cases h
    rw [RelL] at r
    subst r
    exact ⟨[], .nil, kitAny_nil⟩
  | c :: cs, us, b, r, h => by
    rw [RelL] at r
    obtain ⟨u, vs, rfl, r1, r2⟩ := r
    cases c with
    | ty n =>
      rw [kitAll, Option.bind_eq_some_iff] at h
      obtain ⟨b1, h1, h2⟩ := h
      rw [Option.map_eq_some_iff] at h2
      obtain ⟨b2, h3, h4⟩ := h2
      obtain ⟨ws, w1, w2⟩ := kitAll_rel r2 h3
      rw [rel_ty r1]
      refine ⟨.type n :: ws, .cons (.ty n) w1, kitAny_cons (kit_ty h1) (fun z => ?_) (fun z => ?_)⟩
      · rw [w2, ← h4, z]; rfl
      · rw [← h4, z]; rfl
    | _ => cases h
theorem cz_isi : CalZ T K isiP (fun xs H Q => rIsiZ K xs H Q ∨ rIsiTZ K xs H Q) := by
  intro E R F H S xs us Q r rx h
  unfold isiP at h
  split at h
  · obtain ⟨u, w, rfl, r1, r2⟩ := rel2 rx
    have := rel_ty r2; subst this
    split at h
    · rename_i b hb
      rw [Option.bind_eq_some_iff] at hb
      obtain ⟨t, h1, h2⟩ := hb
      exact .inl ⟨u, _, .type t, _, b, rfl, .ty _, tyZ_rel r r1 h1, kit_ty h2, PostV.here r (by rw [Rel]) h⟩
    · exact h.elim
  · obtain ⟨u, w, rfl, r1, r2⟩ := rel2 rx
    rw [Rel] at r2
    obtain ⟨a, us, rfl, hs, hl⟩ := r2
    split at h
    · rename_i b hb
      rw [Option.bind_eq_some_iff] at hb
      obtain ⟨t, h1, h2⟩ := hb
      obtain ⟨ws, w1, w2⟩ := kitAll_rel hl h2
      exact .inr ⟨u, a, us, .type t, ws, b, rfl, r.ex.at_ hs, w1, tyZ_rel r r1 h1, w2, PostV.here r (by rw [Rel]) h⟩
    · exact h.elim
  · exact h.elim
end
theorem cr_isi {X : Cx} : CallR X (.builtin "isinstance") (fun xs H Q => rIsiZ X.K xs H Q ∨ rIsiTZ X.K xs H Q) := CallR.or call_isiZ call_isiTZ
end Z
end
section
set_option Elab.async false
set_option linter.all false
set_option maxRecDepth 100000
set_option maxHeartbeats 1000000
/-! ZS: zip and enumerate over lists, tuples, texts in any mixture, as the layer's iterators. -/
namespace Z
open PySem PySem.Spec PyProof.Rows L2

theorem vals_right : ∀ {xs : List V} {us : List Value} {i : Nat} {u : Value}, Vals xs us → us[i]? = some u → ∃ x, xs[i]? = some x ∧ RelV x u
  | _, _, _, _, .nil, e => by simp at e
  | _, _, 0, _, .cons r _, e => ⟨_, rfl, by simp at e; rw [← e]; exact r⟩
  | _, _, i + 1, _, .cons _ t, e => by
    obtain ⟨x, h1, h2⟩ := vals_right (i := i) t (by simpa using e)
    exact ⟨x, by simpa using h1, h2⟩
/-- what is walked -/
inductive Sc where
  | l (a : Addr) | t (a : Addr) | s (z : Str)
def ScAt (K : PySem.W.Frag) (H : Hp) : Sc → List V → Prop
  | .l a, xs => SqL K H a xs
  | .t a, xs => SqT K H a xs
  | .s z, xs => xs = z.cps.toList.map fun c => V.str ⟨#[c]⟩
def ScIt (h : Heap) (it : Addr) : Sc → Nat → Prop
  | .l a, i => h.IsListIter it a i
  | .t a, i => h.IsTupleIter it a i
  | .s z, i => ∃ t, h.IsStrIter it (PySem.strIterType z) z t i
def ScBelow (n : Nat) : Sc → Prop
  | .l a => a < n
  | .t a => a < n
  | .s _ => True
theorem ScIt.obj {h : Heap} {it : Addr} {sc : Sc} {i : Nat} (q : ScIt h it sc i) : ∃ o, h.get? it = some o ∧ ∀ v, o.data ≠ .cell v := by
  cases sc with
  | l a => obtain ⟨o, e, _, d⟩ := q; exact ⟨o, e, fun v z => by rw [d] at z; cases z⟩
  | t a => obtain ⟨o, e, _, d⟩ := q; exact ⟨o, e, fun v z => by rw [d] at z; cases z⟩
  | s z => obtain ⟨t, o, e, _, d⟩ := q; exact ⟨o, e, fun v z => by rw [d] at z; cases z⟩
theorem ScIt.keep {h h' : Heap} {it : Addr} {sc : Sc} {i : Nat} (q : ScIt h it sc i) (k : ∀ o, h.get? it = some o → h'.get? it = some o) : ScIt h' it sc i := by
  cases sc with
  | l a => exact Heap.IsListIter.at q fun o e => k o e
  | t a => exact Heap.IsTupleIter.at q fun o e => k o e
  | s z => obtain ⟨t, o, e, r⟩ := q; exact ⟨t, o, k o e, r⟩
/-- the items behind a source, as the library draws them -/
structure ScD (X : Cx) (A : Around) (s : Shared) (sc : Sc) (it : Addr) (xs : List V) (fp : List Addr) (P : Nat → Value → Prop) (St : Nat → Heap → Prop) : Prop where
  dr : Draws X.prog X.w A it fp xs.length P St
  val : ∀ i v, P i v → ∃ x, xs[i]? = some x ∧ RelV x v
  st : ∀ i, ScIt s.heap it sc i → St i s.heap
  un : ∀ i h, St i h → ScIt h it sc i
  mem : it ∈ fp
  fp : ∀ b ∈ fp, b = it ∨ ∃ a, (sc = .l a ∨ sc = .t a) ∧ b = a
theorem sc_draws {X : Cx} {pins : List (Addr × Obj)} {σ : L2.St} {H : Hp} {s : Shared} {A : Around} (hh : A.handled = none) (I : Inv X pins σ H s) {sc : Sc} {xs : List V} {it : Addr} (q : ScAt X.K H sc xs) (ne : ∀ a, sc = .l a ∨ sc = .t a → a ≠ it) (ex : ∃ i, ScIt s.heap it sc i) :
    ∃ fp P St, ScD X A s sc it xs fp P St := by
  cases sc with
  | l a =>
    obtain ⟨its, rv, p, hz⟩ := I.list q
    have d := Draws.list (prog := X.prog) (w := X.w) (A := A) hh it a (ne a (.inl rfl)) its.toArray
    have hl : its.toArray.size = xs.length := by rw [List.size_toArray, rv.length]
    rw [hl] at d
    refine ⟨_, _, _, d, fun i v e => ?_, fun i h => ⟨h, p.isList⟩, fun i h e => e.1, List.mem_cons_self, fun b hb => ?_⟩
    · have e' : its[i]? = some v := by simpa using e
      exact vals_right rv e'
    · rcases List.mem_cons.mp hb with z | z
      · exact .inl z
      · exact .inr ⟨a, .inl rfl, List.mem_singleton.mp z⟩
  | t a =>
    obtain ⟨its, rv, p, hz⟩ := I.tuple q
    have d := Draws.tuple (prog := X.prog) (w := X.w) (A := A) hh it a (ne a (.inr rfl)) its.toArray
    have hl : its.toArray.size = xs.length := by rw [List.size_toArray, rv.length]
    rw [hl] at d
    refine ⟨_, _, _, d, fun i v e => ?_, fun i h => ⟨h, p⟩, fun i h e => e.1, List.mem_cons_self, fun b hb => ?_⟩
    · have e' : its[i]? = some v := by simpa using e
      exact vals_right rv e'
    · rcases List.mem_cons.mp hb with z | z
      · exact .inl z
      · exact .inr ⟨a, .inr rfl, List.mem_singleton.mp z⟩
  | s z =>
    obtain ⟨i0, t, o0, e0, c0, d0⟩ := ex
    have d := Draws.text (prog := X.prog) (w := X.w) (A := A) hh it z t
    have q' : xs = z.cps.toList.map fun c => V.str ⟨#[c]⟩ := q
    have hl : z.cps.size = xs.length := by rw [q', List.length_map]; rfl
    rw [hl] at d
    refine ⟨_, _, _, d, fun i v e => ?_, fun i h => ?_, fun i h e => ⟨t, e⟩, List.mem_cons_self, fun b hb => .inl (List.mem_singleton.mp hb)⟩
    · obtain ⟨c, u, h1, rfl⟩ := e
      refine ⟨V.str ⟨#[c]⟩, ?_, ⟨u, rfl⟩⟩
      rw [q', List.getElem?_map]
      have h2 : z.cps.toList[i]? = some c := by simpa using h1
      rw [h2]; rfl
    · obtain ⟨t', o1, e1, c1, d1⟩ := h
      refine ⟨o1, e1, c1, ?_⟩
      rw [e0] at e1
      cases e1
      rw [d0] at d1
      have q := Data.fields.inj d1
      have q2 := congrArg Array.toList q
      simp at q2
      rw [d0, q2.1, q2.2]

/-! ### zip of two -/
def ItzG (K : PySem.W.Frag) (a b : Sc) : It :=
  ⟨fun i H => ∃ (xs ys : List V), ScAt K H a xs ∧ ScAt K H b ys ∧ i < xs.length ∧ i < ys.length,
    fun i H v H' => ∃ T x y, v = .ref T ∧ H T = none ∧ H' = upd H T (.tup [x, y]) ∧ (∀ xs, ScAt K H a xs → xs[i]? = some x) ∧ ∀ ys, ScAt K H b ys → ys[i]? = some y,
    fun i H => ∃ xs ys : List V, ScAt K H a xs ∧ ScAt K H b ys ∧ i = min xs.length ys.length⟩
theorem scAt_inj {X : Cx} {pins : List (Addr × Obj)} {σ : L2.St} {H : Hp} {s : Shared} (I : Inv X pins σ H s) {sc : Sc} {xs ys : List V} (h : ScAt X.K H sc xs) (q : ScAt X.K H sc ys) : xs = ys := by
  cases sc with
  | l a => exact I.list_inj h q
  | t a => exact I.tuple_inj h q
  | s z => exact h.trans q.symm
theorem sep2 {n : Nat} {sc1 sc2 : Sc} {fp1 fp2 : List Addr} (h1 : ∀ b ∈ fp1, b = n ∨ ∃ a, (sc1 = .l a ∨ sc1 = .t a) ∧ b = a) (h2 : ∀ b ∈ fp2, b = n + 1 ∨ ∃ a, (sc2 = .l a ∨ sc2 = .t a) ∧ b = a) (b1 : ScBelow n sc1) (b2 : ScBelow n sc2) (m1 : n ∈ fp1) (m2 : n + 1 ∈ fp2) :
    ZipSep2 (n + 4) (n + 2) (n + 3) n (n + 1) fp1 fp2 := by
  have lt1 : ∀ b : Nat, b ∈ fp1 → b = n ∨ b < n := fun b hb => by
    rcases h1 b hb with e | ⟨a, e | e, z⟩
    · exact .inl e
    · subst e; subst z; exact .inr b1
    · subst e; subst z; exact .inr b1
  have lt2 : ∀ b : Nat, b ∈ fp2 → b = n + 1 ∨ b < n := fun b hb => by
    rcases h2 b hb with e | ⟨a, e | e, z⟩
    · exact .inl e
    · subst e; subst z; exact .inr b2
    · subst e; subst z; exact .inr b2
  have k1 : ∀ j : Nat, 0 < j → n + j ∉ fp1 := fun j hj z => by have := lt1 (n + j) z; omega
  have k2 : ∀ j : Nat, j ≠ 1 → n + j ∉ fp2 := fun j hj z => by have := lt2 (n + j) z; omega
  have k3 : ∀ i j : Nat, i ≠ j → n + i ≠ n + j := fun i j h => by omega
  exact { TIz := k3 2 4 (by decide), TOz := k3 3 4 (by decide), TITO := k3 2 3 (by decide), TIi1 := k3 2 0 (by decide), mem1 := m1, zf1 := k1 4 (by decide), Tf1 := k1 3 (by decide), TIi2 := k3 2 1 (by decide), mem2 := m2, zf2 := k2 4 (by decide), Tf2 := k2 3 (by decide), sep1_2 := k2 0 (by decide), sep2_1 := k1 1 (by decide) }
theorem ScBelow.ne {n : Nat} {sc : Sc} (h : ScBelow n sc) {m : Nat} (hm : n ≤ m) : ∀ a, sc = .l a ∨ sc = .t a → a ≠ m := fun a e => by
  rcases e with e | e <;> (subst e; exact Nat.ne_of_lt (Nat.lt_of_lt_of_le h hm))
abbrev ZipTn (n : Nat) (a b : Sc) (i : Nat) (h : Heap) : Prop := IsZip h (n + 4) (n + 2) (n + 3) .none ∧ IsTupOf2 h (n + 2) (.ref n) (.ref (n + 1)) ∧ (∃ x y, IsTupOf2 h (n + 3) x y) ∧ ScIt h n a i ∧ ScIt h (n + 1) b i
theorem turn_zipG {P : Program} {w : World} {K : PySem.W.Frag} {elts : List Expr} {kk : Nat} {tpos : Pos} {n : Nat} {a b : Sc} (b1 : ScBelow n a) (b2 : ScBelow n b) :
    Turn P w K (.Tuple elts kk tpos) (ItzG K a b) [n + 4, n + 2, n + 3, n, n + 1] (n + 4) (ZipTn n a b) where
  mem := by simp
  obj := fun i h st c hc => by
    obtain ⟨hz, hTI, ⟨x, y, hTO⟩, h1, h2⟩ := st
    have e' : c = n + 4 ∨ c = n + 2 ∨ c = n + 3 ∨ c = n ∨ c = n + 1 := by simpa using hc
    rcases e' with q | q | q | q | q <;> subst q
    · exact ⟨_, hz, fun v q => nomatch q⟩
    · exact ⟨_, hTI, fun v q => nomatch q⟩
    · exact ⟨_, hTO, fun v q => nomatch q⟩
    · exact h1.obj
    · exact h2.obj
  keep := fun i h h' st k => by
    obtain ⟨hz, hTI, ⟨x, y, hTO⟩, h1, h2⟩ := st
    exact ⟨k _ (by simp) _ hz, k _ (by simp) _ hTI, ⟨x, y, k _ (by simp) _ hTO⟩, h1.keep fun o q => k n (by simp) o q, h2.keep fun o q => k (n + 1) (by simp) o q⟩
  item := by
    intro X hP hw hK hc i pins s σ H E I hf st hg
    subst hP hw hK
    obtain ⟨hz, hTI, ⟨x0, y0, hTO⟩, h1, h2⟩ := st
    obtain ⟨xs, ys, q1, q2, l1, l2⟩ := hg
    have hh : X.A.in1.handled = none := I.ok.hd hc
    obtain ⟨fp1, P1, St1, D1⟩ := sc_draws hh I q1 (b1.ne (Nat.le_refl n)) ⟨i, h1⟩
    obtain ⟨fp2, P2, St2, D2⟩ := sc_draws hh I q2 (b2.ne (Nat.le_succ n)) ⟨i, h2⟩
    have G := GoesN.zip2 (elts := elts) (x1 := kk) (pos := tpos) (sep2 D1.fp D2.fp b1 b2 D1.mem D2.mem) D1.dr D2.dr
    refine wpAny_mono (G.goes i s (fun v s2 => ∃ x H', Inv X pins σ H' s2 ∧ RelV x v ∧ (ItzG X.K a b).yld i H x H' ∧ ZipTn n a b (i + 1) s2.heap ∧ ∀ c ∈ [n + 4, n + 2, n + 3, n, n + 1], H' c = none) E (by omega) ⟨hz, hTI, ⟨x0, y0, hTO⟩, D1.st i h1, D2.st i h2⟩ fun v h' tk Y st' hk htk => ?_) (fun r s1 hq => hq) fun e s1 z => z
    obtain ⟨T, u1, u2, rfl, hT, p1, p2, ht⟩ := Y
    obtain ⟨x, hx, rx⟩ := D1.val i u1 p1
    obtain ⟨y, hy, ry⟩ := D2.val i u2 p2
    obtain ⟨o, ho, hoc, m, hod⟩ := ht
    have new : ObjOk X.prog X.w (upd H T (.tup [x, y])) h' T (.tup [x, y]) := ⟨by show 2 ≤ sizeLine; rw [sizeLine_eq]; decide, [u1, u2], .cons rx (.cons ry .nil), ⟨o, ho, hoc, m, hod⟩⟩
    have I1 : Inv X pins σ (upd H T (.tup [x, y])) { s with heap := h', toks := tk } :=
      I.turnedNew (ch := [n + 4, n + 3, n, n + 1]) (fun c o hb q => hk c o hb q) (fun c hc => hf c (by
        have e' : c = n + 4 ∨ c = n + 3 ∨ c = n ∨ c = n + 1 := by simpa using hc
        rcases e' with q | q | q | q <;> (subst q; simp))) hT new
    obtain ⟨z1, z2, z3, z4, z5⟩ := st'
    refine ⟨.ref T, _, I1, rfl, ⟨T, x, y, rfl, I.hok.fresh hT, rfl, fun l hl => by rw [scAt_inj I hl q1]; exact hx, fun l hl => by rw [scAt_inj I hl q2]; exact hy⟩, ⟨z1, z2, z3, D1.un _ _ z4, D2.un _ _ z5⟩, fun c hcm => ?_⟩
    have hlt : c < s.heap.objs.size := by
      have e' : c = n + 4 ∨ c = n + 2 ∨ c = n + 3 ∨ c = n ∨ c = n + 1 := by simpa using hcm
      rcases e' with q | q | q | q | q <;> subst q
      · exact Heap.lt_size hz
      · exact Heap.lt_size hTI
      · exact Heap.lt_size hTO
      · obtain ⟨_, e1, _⟩ := h1.obj; exact Heap.lt_size e1
      · obtain ⟨_, e1, _⟩ := h2.obj; exact Heap.lt_size e1
    rw [upd_ne (Nat.ne_of_lt (Nat.lt_of_lt_of_le hlt hT))]
    exact (hf c hcm).1
  done := by
    intro X hP hw hK hc i pins s σ H E I hf st hg
    subst hP hw hK
    obtain ⟨hz, hTI, ⟨x0, y0, hTO⟩, h1, h2⟩ := st
    obtain ⟨xs, ys, q1, q2, rfl⟩ := hg
    have hh : X.A.in1.handled = none := I.ok.hd hc
    obtain ⟨fp1, P1, St1, D1⟩ := sc_draws hh I q1 (b1.ne (Nat.le_refl n)) ⟨_, h1⟩
    obtain ⟨fp2, P2, St2, D2⟩ := sc_draws hh I q2 (b2.ne (Nat.le_succ n)) ⟨_, h2⟩
    have G := GoesN.zip2 (elts := elts) (x1 := kk) (pos := tpos) (sep2 D1.fp D2.fp b1 b2 D1.mem D2.mem) D1.dr D2.dr
    exact wpAny_mono (G.stops s (fun s1 => Inv X pins σ H s1) E ⟨hz, hTI, ⟨x0, y0, hTO⟩, D1.st _ h1, D2.st _ h2⟩ fun h' tk hk htk =>
      I.turnedL (ch := [n + 4, n + 3, n, n + 1]) (fun c o hb q => hk c o hb q) (fun c hc => hf c (by
        have e' : c = n + 4 ∨ c = n + 3 ∨ c = n ∨ c = n + 1 := by simpa using hc
        rcases e' with q | q | q | q <;> (subst q; simp)))) (fun r s1 hq => hq) fun e s1 z => z
  self := fun A i s Q E st h => wpAny_pyIter_zip st.1 h
/-- a source as a value -/
def ScV (sc : Sc) (v : V) : Prop := match sc with
  | .l a => v = .ref a
  | .t a => v = .ref a
  | .s z => v = .str z
theorem sc_begins {X : Cx} {pins : List (Addr × Obj)} {σ : L2.St} {H : Hp} {s : Shared} (I : Inv X pins σ H s) {sc : Sc} {v : V} {u : Value} {xs : List V} (hv : ScV sc v) (r : RelV v u) (q : ScAt X.K H sc xs) :
    ∃ o Hb, Begins u o Hb ∧ Hb s.heap ∧ (∀ (h : Heap) (it : Addr), h.get? it = some o → ScIt h it sc 0) ∧ ScBelow s.heap.objs.size sc := by
  cases sc with
  | l a =>
    have hv : v = .ref a := hv
    subst hv
    cases r
    obtain ⟨its, rv, p, hz⟩ := I.list q
    refine ⟨_, _, begins_list a its.toArray, p.isList, fun h it e => ⟨_, e, rfl, rfl⟩, by obtain ⟨o, ho, _⟩ := p.isList; exact Heap.lt_size ho⟩
  | t a =>
    have hv : v = .ref a := hv
    subst hv
    cases r
    obtain ⟨its, rv, p, hz⟩ := I.tuple q
    obtain ⟨o, ho, _⟩ := id p
    refine ⟨_, _, begins_tuple a its.toArray, p, fun h it e => ⟨_, e, rfl, rfl⟩, Heap.lt_size ho⟩
  | s z =>
    have hv : v = .str z := hv
    subst hv
    obtain ⟨t, rfl⟩ := r
    refine ⟨_, _, begins_text z t, trivial, fun h it e => ⟨t, _, e, rfl, rfl⟩, trivial⟩
def iZipG (K : PySem.W.Frag) (ta : TA) : TI := fun σ H R => ta σ H fun vs H1 => ∃ a b u w xs ys, vs = [u, w] ∧ ScV a u ∧ ScV b w ∧ ScAt K H1 a xs ∧ ScAt K H1 b ys ∧ R (ItzG K a b) H1
theorem pi_zipG {X : Cx} {e e2 : Expr} {ta : TA} {p pos tpos : Pos} {elts : List Expr} {kk : Nat} (hm : X.mg "zip" = none) (ha : PA X [e, e2] ta) (hg : Gl X "zip" := by rfl)
    (hs : starEach [e, e2] X.env = (false, eval e X.env) :: starEach [e2] X.env := by rfl) (hpl : (backTo pos (starEach [e2] X.env)).any (·.1) = false := by rfl) :
    PI X (.Tuple elts kk tpos) (.Call (.Name "zip" p) [e, e2] [] pos) (iZipG X.K ta) := by
  refine ⟨fun pins s σ H R I h => ?_⟩
  refine Call_ (ld_blt I hg hm PyProof.Rows.boot_zip (PyProof.Rows.callWith_type1 (thn (ha.run pos pins s σ H _ I h) fun us s1 ⟨vs, H1, I1, r1, q1⟩ => ?_) hs hpl))
  obtain ⟨a, b, u, w, xs, ys, ex, va, vb, qa, qb, q⟩ := q1
  subst ex
  obtain ⟨u1, u2, rfl, ru, rw'⟩ := vals2 r1
  obtain ⟨o1, G1, B1, g1, n1, w1⟩ := sc_begins I1 va ru qa
  obtain ⟨o2, G2, B2, g2, n2, w2⟩ := sc_begins I1 vb rw' qb
  refine zip_begins2 B1 B2 g1 g2 fun h' hz hTI hTO e1 e2' hsz hk => wpAny_pyIter_zip hz ?_
  have I2 : Inv X pins σ H1 { s1 with heap := h' } := I1.kept (t' := s1.toks) hk
  refine ⟨s1.heap.objs.size + 4, _, _, _, H1, rfl, I2, turn_zipG w1 w2, ⟨hz, hTI, ⟨_, _, hTO⟩, n1 _ _ e1, n2 _ _ e2'⟩, fun c hcm => ?_, q⟩
  have hle : s1.heap.objs.size ≤ c := by
    have e' : c = s1.heap.objs.size + 4 ∨ c = s1.heap.objs.size + 2 ∨ c = s1.heap.objs.size + 3 ∨ c = s1.heap.objs.size ∨ c = s1.heap.objs.size + 1 := by simpa using hcm
    rcases e' with z | z | z | z | z <;> rw [z]
    · exact Nat.le_add_right _ _
    · exact Nat.le_add_right _ _
    · exact Nat.le_add_right _ _
    · exact Nat.le_refl _
    · exact Nat.le_add_right _ _
  exact I1.fpOk hle (I1.hok.fresh hle)
theorem walk_zipG {K : PySem.W.Frag} {a b : Sc} {xs ys : List V} {n : Nat} (hn : n = min xs.length ys.length) : Walk (ItzG K a b) n (fun H => ScAt K H a xs ∧ ScAt K H b ys) (YPair (fun i => xs[i]?) (fun i => ys[i]?)) := by
  subst hn
  refine ⟨fun i _ hi q => ⟨xs, ys, q.1, q.2, by omega, by omega⟩, fun _ q => ⟨xs, ys, q.1, q.2, rfl⟩, fun i H v H' _ q y => ?_⟩
  obtain ⟨T, x, z, h1, h2, h3, h4, h5⟩ := y
  exact ⟨T, x, z, h1, h2, h3, h4 xs q.1, h5 ys q.2⟩
end Z
end
section
set_option Elab.async false
set_option linter.all false
set_option maxRecDepth 100000
set_option maxHeartbeats 1000000
/-! Z7: targets, what is walked, for, while. -/
namespace Z
open PySem PySem.Spec PyProof.Rows L2

/-! ### targets -/
inductive TgZ where
  | nm (i : Nat) | tp (ts : List TgZ)
mutual
def gOf (K : PySem.W.Frag) : TgZ → TG
  | .nm i => gName i
  | .tp ts => gTup K ts.length (gsOf K ts)
def gsOf (K : PySem.W.Frag) : List TgZ → TGs
  | [] => gNil
  | t :: ts => gCons (gOf K t) (gsOf K ts)
end
mutual
def asg : TgZ → PV → Option (List (Nat × PV))
  | .nm i, v => some [(i, v)]
  | .tp ts, .nd .tup xs => asgs ts xs
  | .tp _, _ => none
def asgs : List TgZ → List PV → Option (List (Nat × PV))
  | [], [] => some []
  | t :: ts, x :: xs => (asg t x).bind fun a => (asgs ts xs).map fun b => a ++ b
  | _, _ => none
end
def setZ (l : Loc) (ps : List (Nat × PV)) : Loc := ps.foldl (fun l p => l.set p.1 (some p.2)) l
def setV (σ : L2.St) (ps : List (Nat × V)) : L2.St := ps.foldl (fun l p => l.set p.1 (some p.2)) σ
def wipeZ (l : Loc) : List Nat → Loc
  | [] => l
  | v :: vs => (wipeZ l vs).set v none
mutual
def TgZ.slots : TgZ → List Nat
  | .nm i => [i]
  | .tp ts => TgZ.slotsL ts
def TgZ.slotsL : List TgZ → List Nat
  | [] => []
  | t :: ts => t.slots ++ TgZ.slotsL ts
end
section
variable {T : Tb} {K : PySem.W.Frag} {R : Pl} {F H : Hp} {S : Sto} {l : Loc} {σ : L2.St}
theorem setZ_cons (l : Loc) (p : Nat × PV) (ps : List (Nat × PV)) : setZ l (p :: ps) = setZ (l.set p.1 (some p.2)) ps := rfl
theorem setZ_app (l : Loc) (ps qs : List (Nat × PV)) : setZ l (ps ++ qs) = setZ (setZ l ps) qs := List.foldl_append
theorem setV_app (l : L2.St) (ps qs : List (Nat × V)) : setV l (ps ++ qs) = setV (setV l ps) qs := List.foldl_append
mutual
theorem gOf_ok (re : Rep T K R F S H) : ∀ (t : TgZ) (x : PV) (u : V) (l : Loc) (σ : L2.St) (ps : List (Nat × PV)) (Q : L2.St → Hp → Prop), RelE T K R F l σ → Rel T K R F x u → asg t x = some ps →
    (∀ qs : List (Nat × V), (∀ q ∈ qs, q.1 ∈ t.slots) → RelE T K R F (setZ l ps) (setV σ qs) → Q (setV σ qs) H) → gOf K t u σ H Q
  | .nm i, x, u, l, σ, ps, Q, e, r, h, k => by
    cases h
    exact k [(i, u)] (fun q hq => by rw [List.mem_singleton.mp hq]; exact List.mem_singleton.mpr rfl) (e.set i r)
  | .tp ts, x, u, l, σ, ps, Q, e, r, h, k => by
    cases x with
    | nd kd xs =>
      cases kd with
      | tup =>
        rw [asg] at h
        rw [Rel] at r
        obtain ⟨a, us, rfl, hs, hl⟩ := r
        exact ⟨a, us, rfl, SqT.of (re.ex.at_ hs), by rw [hl.length]; exact asgs_len ts xs ps h, gsOf_ok re ts xs us l σ ps Q e hl h k⟩
      | _ => simp [asg] at h
    | _ => simp [asg] at h
theorem gsOf_ok (re : Rep T K R F S H) : ∀ (ts : List TgZ) (xs : List PV) (us : List V) (l : Loc) (σ : L2.St) (ps : List (Nat × PV)) (Q : L2.St → Hp → Prop), RelE T K R F l σ → RelL T K R F xs us → asgs ts xs = some ps →
    (∀ qs : List (Nat × V), (∀ q ∈ qs, q.1 ∈ TgZ.slotsL ts) → RelE T K R F (setZ l ps) (setV σ qs) → Q (setV σ qs) H) → gsOf K ts us σ H Q
  | [], [], us, l, σ, ps, Q, e, r, h, k => by
    cases h
    rw [RelL] at r
    exact ⟨r, k [] (fun q hq => absurd hq (by simp)) e⟩
  | t :: ts, x :: xs, us, l, σ, ps, Q, e, r, h, k => by
    rw [RelL] at r
    obtain ⟨u, vs, rfl, r1, r2⟩ := r
    rw [asgs, Option.bind_eq_some_iff] at h
    obtain ⟨a, h1, h2⟩ := h
    rw [Option.map_eq_some_iff] at h2
    obtain ⟨b, h3, rfl⟩ := h2
    refine ⟨u, vs, rfl, gOf_ok re t x u l σ a _ e r1 h1 fun qs hq e1 => ?_⟩
    refine gsOf_ok re ts xs vs _ _ b _ e1 r2 h3 fun qs2 hq2 e2 => ?_
    rw [← setV_app] at e2 ⊢
    rw [← setZ_app] at e2
    refine k (qs ++ qs2) (fun q hq' => ?_) e2
    rw [TgZ.slotsL, List.mem_append]
    exact (List.mem_append.mp hq').imp (hq q) (hq2 q)
  | [], _ :: _, us, l, σ, ps, Q, e, r, h, k => by simp [asgs] at h
  | _ :: _, [], us, l, σ, ps, Q, e, r, h, k => by simp [asgs] at h
theorem asgs_len : ∀ (ts : List TgZ) (xs : List PV) (ps : List (Nat × PV)), asgs ts xs = some ps → xs.length = ts.length
  | [], [], ps, h => rfl
  | t :: ts, x :: xs, ps, h => by
    rw [asgs, Option.bind_eq_some_iff] at h
    obtain ⟨a, h1, h2⟩ := h
    rw [Option.map_eq_some_iff] at h2
    obtain ⟨b, h3, rfl⟩ := h2
    rw [List.length_cons, List.length_cons, asgs_len ts xs b h3]
  | [], _ :: _, ps, h => by simp [asgs] at h
  | _ :: _, [], ps, h => by simp [asgs] at h
end
end
abbrev JG (X : Cx) (tg : Expr) (t : TgZ) : Prop := PG X tg (gOf X.K t)
abbrev JGs (X : Cx) (tg : List Expr) (t : List TgZ) : Prop := PGs X tg (gsOf X.K t)
section
variable {X : Cx} {x : Str} {pos : Pos}
theorem jg_n (i : Nat) (hN : X.N.Nodup) (hi : X.N[i]? = some x := by rfl) (hx : L2.Loc X.env.scope x := by first | exact Or.inl rfl | exact Or.inr rfl) (hf : X.fn x = true ∨ X.env.scope.names.lookup x = some .local := by first | exact .inl rfl | exact .inr rfl) : JG X (.Name x pos) (.nm i) := pg_name hN hi hx hf
theorem jgs_nil : JGs X [] [] := pgs_nil
theorem jgs_cons {e : Expr} {es : List Expr} {t : TgZ} {ts : List TgZ} (h1 : JG X e t) (h2 : JGs X es ts) (hs : (assignEach (e :: es) X.env).map (·.2) = assign e X.env :: (assignEach es X.env).map (·.2) := by rfl) : JGs X (e :: es) (t :: ts) := pgs_cons h1 h2 hs
theorem jg_t {es : List Expr} {k : Nat} {ts : List TgZ} (hc : X.calm = true) (h : JGs X es ts) (hn : (assignEach es X.env).length = ts.length := by rfl) (hst : (assignEach es X.env).findIdx? (·.1) = none := by rfl) : JG X (.Tuple es k pos) (.tp ts) := pg_tup hc h hn hst
end

/-! ### what is walked -/
structure ItZ where
  items : List PV
  held : List (PV × Kd × List PV)
def heldB (hs : List (PV × Kd × List PV)) (S : Sto) : Bool := hs.all fun p => decide (view p.1 S = some p.2)
theorem heldB_nil (S : Sto) : heldB [] S = true := rfl
theorem heldB_all {hs : List (PV × Kd × List PV)} {S : Sto} (h : heldB hs S = true) : ∀ p ∈ hs, view p.1 S = some p.2 := fun p hp => of_decide_eq_true (List.all_eq_true.mp h p hp)
theorem heldB_of {hs : List (PV × Kd × List PV)} {S : Sto} (h : ∀ p ∈ hs, view p.1 S = some p.2) : heldB hs S = true := List.all_eq_true.mpr fun p hp => decide_eq_true (h p hp)
/-- a place is watched while it is walked -/
def holdOf (x : PV) (v : Kd × List PV) : List (PV × Kd × List PV) := match x with
  | .ref n => [(.ref n, v)]
  | _ => []
abbrev DI := Loc → Sto → Out ItZ
structure WalkZ (T : Tb) (K : PySem.W.Frag) (J : It) (R1 : Pl) (F1 : Hp) (it : ItZ) : Prop where
  goes : ∀ (i : Nat) (R : Pl) (F H : Hp) (S : Sto), i < it.items.length → R1.as <+: R.as → Ex F1 F → Rep T K R F S H → heldB it.held S = true → J.go i H
  stops : ∀ (R : Pl) (F H : Hp) (S : Sto), R1.as <+: R.as → Ex F1 F → Rep T K R F S H → heldB it.held S = true → J.stop it.items.length H
  yields : ∀ (i : Nat) (R : Pl) (F H H' : Hp) (S : Sto) (x : V), i < it.items.length → R1.as <+: R.as → Ex F1 F → Rep T K R F S H → heldB it.held S = true → J.yld i H x H' →
    ∃ F' v, Ex F F' ∧ Rep T K R F' S H' ∧ it.items[i]? = some v ∧ Rel T K R F' v x
def OkI (T : Tb) (K : PySem.W.Frag) (R : Pl) (F : Hp) (o : Out ItZ) (Q : It → Hp → Prop) (E : XK) : Prop := match o with
  | .ok it S => ∀ R' F' H J, Pl.le R R' → Ex F F' → Rep T K R' F' S H → WalkZ T K J R' F' it → Q J H
  | .err e S => PostX T K R F e S E
  | .bad => False
def tI (T : Tb) (K : PySem.W.Frag) (E : XS) (d : DI) : TI := fun σ H Q => ∃ R F l S, Rep T K R F S H ∧ RelE T K R F l σ ∧ OkI T K R F (d l S) Q (E σ)
abbrev JI (T : Tb) (X : Cx) (E : XS) (tg e : Expr) (d : DI) : Prop := PI X tg e (tI T X.K E d)
theorem pi_imp {X : Cx} {tg e : Expr} {t t' : TI} (h : PI X tg e t) (i : ∀ σ H Q, t' σ H Q → t σ H Q) : PI X tg e t' := ⟨fun pins s σ H Q I q => h.run pins s σ H Q I (i σ H Q q)⟩
theorem pi_or {X : Cx} {tg e : Expr} {t t' : TI} (h : PI X tg e t) (h' : PI X tg e t') : PI X tg e (fun σ H Q => t σ H Q ∨ t' σ H Q) := ⟨fun pins s σ H Q I q => q.elim (h.run pins s σ H Q I) (h'.run pins s σ H Q I)⟩
/-- the sequence behind a value: list or script, tuple -/
def seqIt (x : PV) (S : Sto) : Option ItZ := match view x S with
  | some (.lst, xs) => some ⟨xs, holdOf x (.lst, xs)⟩
  | some (.scr, xs) => some ⟨xs, holdOf x (.scr, xs)⟩
  | some (.tup, xs) => some ⟨xs, holdOf x (.tup, xs)⟩
  | _ => none
def strIt (z : Str) : ItZ := ⟨z.cps.toList.map fun c => .str ⟨#[c]⟩, []⟩
def itOf (x : PV) (S : Sto) : Out ItZ := match x with
  | .str z => .ok (strIt z) S
  | x => match seqIt x S with
    | some it => .ok it S
    | none => .bad
def dItV (d : DE) : DI := fun l S => (d l S).bind fun x S1 => itOf x S1
section
variable {T : Tb} {X : Cx} {E : XS} {tg : Expr}
theorem hold_view {K : PySem.W.Frag} {R R1 : Pl} {F F1 H1 H : Hp} {S1 S : Sto} {x : PV} {u : V} {k : Kd} {xs : List PV} (r1 : Rep T K R1 F1 S1 H1) (rx : Rel T K R1 F1 x u) (hv : view x S1 = some (k, xs)) (p : R1.as <+: R.as) (e : Ex F1 F) (r : Rep T K R F S H) (hh : heldB (holdOf x (k, xs)) S = true) :
    ∃ a us, u = .ref a ∧ Shp T K H a k us ∧ RelL T K R F xs us := by
  cases x with
  | ref n => exact view_rel r (rx.mono0 p e) (heldB_all hh (.ref n, k, xs) (List.mem_singleton.mpr rfl))
  | nd k' xs' => exact view_rel r (rx.mono0 p e) hv
  | _ => cases hv
theorem walkz_of {K : PySem.W.Frag} {R1 : Pl} {F1 H1 : Hp} {S1 : Sto} {x : PV} {u : V} {k : Kd} {xs : List PV} {J : It} (r1 : Rep T K R1 F1 S1 H1) (rx : Rel T K R1 F1 x u) (hv : view x S1 = some (k, xs))
    (w : ∀ (a : Addr) (us : List V), u = .ref a → Walk J us.length (fun H => Shp T K H a k us) (YAt us)) : WalkZ T K J R1 F1 ⟨xs, holdOf x (k, xs)⟩ where
  goes := fun i R F H S hi p e r hh => by
    obtain ⟨a, us, eu, hs, hl⟩ := hold_view r1 rx hv p e r hh
    exact (w a us eu).goes i H (by rw [hl.length]; exact hi) hs
  stops := fun R F H S p e r hh => by
    obtain ⟨a, us, eu, hs, hl⟩ := hold_view r1 rx hv p e r hh
    have := (w a us eu).stops H hs
    rw [hl.length] at this
    exact this
  yields := fun i R F H H' S v hi p e r hh y => by
    obtain ⟨a, us, eu, hs, hl⟩ := hold_view r1 rx hv p e r hh
    obtain ⟨rfl, hx⟩ := (w a us eu).yields i H v H' (by rw [hl.length]; exact hi) hs y
    have hi' : i < xs.length := hi
    obtain ⟨u', h1, h2⟩ := hl.get (List.getElem?_eq_getElem hi')
    rw [h1] at hx
    cases hx
    exact ⟨F, xs[i], Ex.refl F, r, List.getElem?_eq_getElem hi', h2⟩
theorem ji_val {e : Expr} {d : DE} (he : JE T X E e d) : JI T X E tg e (dItV d) := by
  refine pi_imp (pi_or (pi_list he) (pi_or (pi_tup he) (pi_str he))) fun σ H Q ⟨R, F, l, S, r, e, h⟩ => ?_
  cases hd : d l S with
  | bad => unfold dItV at h; rw [hd] at h; exact h.elim
  | err x S1 =>
    unfold dItV at h; rw [hd] at h
    refine .inl ⟨R, F, l, S, r, e, ?_⟩
    rw [hd]; exact h
  | ok x S1 =>
    unfold dItV at h; rw [hd] at h
    have h : OkI T X.K R F (itOf x S1) Q (E σ) := h
    cases x with
    | str z =>
      refine .inr (.inr ⟨R, F, l, S, r, e, ?_⟩)
      rw [hd]
      intro R1 F1 H1 u p ex r1 rx
      have := rel_str rx; subst this
      refine ⟨z, rfl, h R1 F1 H1 (Its z) p ex r1 ⟨fun i R F H S hi _ _ _ _ => ?_, fun R F H S _ _ _ _ => ?_, fun i R F H H' S v hi p e r hh y => ?_⟩⟩
      · have : i < z.cps.size := by simpa [strIt] using hi
        exact this
      · show z.cps.size ≤ _
        simp [strIt]
      · obtain ⟨rfl, c, h1, rfl⟩ := y
        refine ⟨F, .str ⟨#[c]⟩, Ex.refl F, r, ?_, by rw [Rel]⟩
        have h2 : z.cps.toList[i]? = some c := by simpa using h1
        simp [strIt, h2]
    | _ =>
      all_goals
        simp only [itOf, seqIt] at h
        split at h
        · rename_i it hit
          split at hit
          · rename_i xs hv
            cases hit
            refine .inl ⟨R, F, l, S, r, e, ?_⟩
            rw [hd]
            intro R1 F1 H1 u p ex r1 rx
            obtain ⟨a, us, eu, hs, hl⟩ := view_rel r1 rx hv
            refine ⟨a, eu, ⟨us, (shp_rd hs).1 (.inl rfl)⟩, h R1 F1 H1 _ p ex r1 (walkz_of r1 rx hv fun b ws eb => ?_)⟩
            rw [eu] at eb; cases eb
            exact walk_list.mono (fun H q => (shp_rd q).1 (.inl rfl)) fun _ _ _ _ _ _ y => y
          · rename_i xs hv
            cases hit
            refine .inl ⟨R, F, l, S, r, e, ?_⟩
            rw [hd]
            intro R1 F1 H1 u p ex r1 rx
            obtain ⟨a, us, eu, hs, hl⟩ := view_rel r1 rx hv
            refine ⟨a, eu, ⟨us, (shp_rd hs).1 (.inr rfl)⟩, h R1 F1 H1 _ p ex r1 (walkz_of r1 rx hv fun b ws eb => ?_)⟩
            rw [eu] at eb; cases eb
            exact walk_list.mono (fun H q => (shp_rd q).1 (.inr rfl)) fun _ _ _ _ _ _ y => y
          · rename_i xs hv
            cases hit
            refine .inr (.inl ⟨R, F, l, S, r, e, ?_⟩)
            rw [hd]
            intro R1 F1 H1 u p ex r1 rx
            obtain ⟨a, us, eu, hs, hl⟩ := view_rel r1 rx hv
            refine ⟨a, eu, ⟨us, (shp_rd hs).2 rfl⟩, h R1 F1 H1 _ p ex r1 (walkz_of r1 rx hv fun b ws eb => ?_)⟩
            rw [eu] at eb; cases eb
            exact walk_tup.mono (fun H q => (shp_rd q).2 rfl) fun _ _ _ _ _ _ y => y
          · cases hit
        · exact h.elim

/-! ### range -/
def rngZ (lo : Int) (n : Nat) : List PV := (List.range n).map fun i => .int (lo + (i : Nat))
def rngP (xs : List PV) (S : Sto) : Out ItZ := match xs with
  | [.int j] => if -(2 ^ 62) ≤ j ∧ j < 2 ^ 62 then .ok ⟨rngZ 0 j.toNat, []⟩ S else .bad
  | _ => .bad
def rngP2 (xs : List PV) (S : Sto) : Out ItZ := match xs with
  | [.int i, .int j] => if -(2 ^ 62) ≤ i ∧ i < 2 ^ 62 ∧ -(2 ^ 62) ≤ j ∧ j < 2 ^ 62 then .ok ⟨rngZ i (j - i).toNat, []⟩ S else .bad
  | _ => .bad
def dItA (f : List PV → Sto → Out ItZ) (ar : DA) : DI := fun l S => (ar l S).bind fun xs S1 => f xs S1
theorem walkz_rng {K : PySem.W.Frag} {R1 : Pl} {F1 : Hp} {lo : Int} {n : Nat} : WalkZ T K (Itr lo n) R1 F1 ⟨rngZ lo n, []⟩ where
  goes := fun i R F H S hi _ _ _ _ => by have : i < n := by simpa [rngZ] using hi
                                         exact this
  stops := fun R F H S _ _ _ _ => by show n ≤ _; simp [rngZ]
  yields := fun i R F H H' S v hi p e r hh y => by
    obtain ⟨rfl, rfl⟩ := y
    have : i < n := by simpa [rngZ] using hi
    refine ⟨F, .int (lo + (i : Nat)), Ex.refl F, r, ?_, by rw [Rel]⟩
    simp [rngZ, this]
/-- the iterable's argument list first -/
theorem seqI {ar : DA} {f : List PV → Sto → Out ItZ} {K : PySem.W.Frag} {σ : L2.St} {H : Hp} {Q : It → Hp → Prop} {C : List V → Hp → Prop} (h : tI T K E (dItA f ar) σ H Q)
    (hk : ∀ (xs : List PV) (S1 : Sto) (R1 : Pl) (F1 H1 : Hp) (us : List V), Rep T K R1 F1 S1 H1 → RelL T K R1 F1 xs us → OkI T K R1 F1 (f xs S1) Q (E σ) → C us H1) : tL T K E ar σ H C := by
  obtain ⟨R, F, l, S, r, e, h⟩ := h
  refine ⟨R, F, l, S, r, e, ?_⟩
  unfold dItA at h
  cases hd : ar l S with
  | ok xs S1 =>
    rw [hd] at h
    intro R1 F1 H1 us p ex r1 rx
    refine hk xs S1 R1 F1 H1 us r1 rx ?_
    have h : OkI T K R F (f xs S1) Q (E σ) := h
    cases hf : f xs S1 with
    | ok it S2 => rw [hf] at h; exact fun R' F' H' J p' ex' => h R' F' H' J (p.trans p') (ex.trans ex')
    | err x S2 => rw [hf] at h; exact PostX.mono p ex h
    | bad => rw [hf] at h; exact h
  | err x S1 => rw [hd] at h; exact h
  | bad => rw [hd] at h; exact h
theorem ji_rng1 {a : Expr} {ar : DA} {p pos : Pos} (hm : X.mg "range" = none) (ha : JA T X E [a] ar) (hg : Gl X "range" := by rfl) (hs : starEach [a] X.env = [(false, eval a X.env)] := by rfl) : JI T X E tg (.Call (.Name "range" p) [a] [] pos) (dItA rngP ar) := by
  refine pi_imp (pi_range1 hg hm ha hs) fun σ H Q h => seqI h fun xs S1 R1 F1 H1 us r1 rx h1 => ?_
  unfold rngP at h1
  split at h1
  · obtain ⟨u, rfl, rx'⟩ := rel1 rx
    have := rel_int rx'; subst this
    split at h1
    · rename_i hb
      exact ⟨_, rfl, hb.1, hb.2, h1 R1 F1 H1 _ (Pl.refl R1) (Ex.refl F1) r1 walkz_rng⟩
    · exact h1.elim
  · exact h1.elim
theorem ji_rng2 {a b : Expr} {ar : DA} {p pos : Pos} (hm : X.mg "range" = none) (ha : JA T X E [a, b] ar) (hg : Gl X "range" := by rfl) (hs : starEach [a, b] X.env = [(false, eval a X.env), (false, eval b X.env)] := by rfl) (hs2 : starEach [b] X.env = [(false, eval b X.env)] := by rfl) : JI T X E tg (.Call (.Name "range" p) [a, b] [] pos) (dItA rngP2 ar) := by
  refine pi_imp (pi_range2 hg hm ha hs hs2) fun σ H Q h => seqI h fun xs S1 R1 F1 H1 us r1 rx h1 => ?_
  unfold rngP2 at h1
  split at h1
  · obtain ⟨u, w, rfl, rx1, rx2⟩ := rel2 rx
    have := rel_int rx1; subst this
    have := rel_int rx2; subst this
    split at h1
    · rename_i hb
      exact ⟨_, _, rfl, hb, h1 R1 F1 H1 _ (Pl.refl R1) (Ex.refl F1) r1 walkz_rng⟩
    · exact h1.elim
  · exact h1.elim

/-! ### enumerate, zip -/
def encZ : List PV → Nat → List PV
  | [], _ => []
  | x :: xs, i => .nd .tup [.int (i : Nat), x] :: encZ xs (i + 1)
def zipZ : List PV → List PV → List PV
  | x :: xs, y :: ys => .nd .tup [x, y] :: zipZ xs ys
  | _, _ => []
theorem encZ_get : ∀ (xs : List PV) (k i : Nat), (encZ xs k)[i]? = xs[i]?.map fun x => .nd .tup [.int ((k + i : Nat)), x]
  | [], k, i => by simp [encZ]
  | x :: xs, k, 0 => by simp [encZ]
  | x :: xs, k, i + 1 => by
    rw [encZ, List.getElem?_cons_succ, encZ_get xs (k + 1) i, List.getElem?_cons_succ]
    have e : k + 1 + i = k + (i + 1) := by omega
    rw [e]
theorem encZ_len : ∀ (xs : List PV) (k : Nat), (encZ xs k).length = xs.length
  | [], k => rfl
  | x :: xs, k => by simp [encZ, encZ_len xs (k + 1)]
theorem zipZ_len : ∀ (xs ys : List PV), (zipZ xs ys).length = min xs.length ys.length
  | [], ys => by simp [zipZ]
  | x :: xs, [] => by simp [zipZ]
  | x :: xs, y :: ys => by simp [zipZ, zipZ_len xs ys]
theorem zipZ_get : ∀ (xs ys : List PV) (i : Nat) (x y : PV), xs[i]? = some x → ys[i]? = some y → (zipZ xs ys)[i]? = some (.nd .tup [x, y])
  | [], ys, i, x, y, h, _ => by simp at h
  | a :: xs, [], i, x, y, _, h => by simp at h
  | a :: xs, b :: ys, 0, x, y, h1, h2 => by simp at h1 h2; simp [zipZ, h1, h2]
  | a :: xs, b :: ys, i + 1, x, y, h1, h2 => by simp at h1 h2; simp [zipZ, zipZ_get xs ys i x y h1 h2]
def enuP (xs : List PV) (S : Sto) : Out ItZ := match xs with
  | [x] => (match view x S with
    | some (.lst, ys) => .ok ⟨encZ ys 0, holdOf x (.lst, ys)⟩ S
    | some (.scr, ys) => .ok ⟨encZ ys 0, holdOf x (.scr, ys)⟩ S
    | _ => .bad)
  | _ => .bad
/-- a fresh pair that a turn hands out -/
theorem pair_yield {K : PySem.W.Frag} {R : Pl} {F H H' : Hp} {S : Sto} {v u w : V} {x y : PV} {T' : Addr} (r : Rep T K R F S H) (ev : v = .ref T') (hn : H T' = none) (eH : H' = upd H T' (.tup [u, w])) (h1 : Rel T K R F x u) (h2 : Rel T K R F y w) :
    ∃ F', Ex F F' ∧ Rep T K R F' S H' ∧ Rel T K R F' (.nd .tup [x, y]) v := by
  subst ev eH
  have e : Ex F (upd F T' (.tup [u, w])) := ex_upd (r.fnone hn)
  refine ⟨upd F T' (.tup [u, w]), e, r.frozen hn, ?_⟩
  rw [Rel]
  exact ⟨T', [u, w], rfl, upd_same, .cons (h1.mono (Pl.refl R) e) (.cons (h2.mono (Pl.refl R) e) .nil)⟩
theorem walkz_enu {K : PySem.W.Frag} {R1 : Pl} {F1 H1 : Hp} {S1 : Sto} {x : PV} {u : V} {k : Kd} {xs : List PV} {a : Addr} (r1 : Rep T K R1 F1 S1 H1) (rx : Rel T K R1 F1 x u) (hv : view x S1 = some (k, xs)) (hk : k = .lst ∨ k = .scr) (eu : u = .ref a) : WalkZ T K (Ite K a) R1 F1 ⟨encZ xs 0, holdOf x (k, xs)⟩ where
  goes := fun i R F H S hi p e r hh => by
    obtain ⟨b, us, eb, hs, hl⟩ := hold_view r1 rx hv p e r hh
    rw [eu] at eb; cases eb
    have hi : i < xs.length := by rw [encZ_len] at hi; exact hi
    exact walk_enum.goes i H (by rw [hl.length]; exact hi) ((shp_rd hs).1 hk)
  stops := fun R F H S p e r hh => by
    obtain ⟨b, us, eb, hs, hl⟩ := hold_view r1 rx hv p e r hh
    rw [eu] at eb; cases eb
    have := walk_enum.stops H ((shp_rd hs).1 hk)
    rw [hl.length] at this
    show (Ite K a).stop (encZ xs 0).length H
    rw [encZ_len]; exact this
  yields := fun i R F H H' S v hi p e r hh y => by
    obtain ⟨b, us, eb, hs, hl⟩ := hold_view r1 rx hv p e r hh
    rw [eu] at eb; cases eb
    have hi : i < xs.length := by rw [encZ_len] at hi; exact hi
    obtain ⟨T', z1, z2, ev, hn, eH, e1, e2⟩ := walk_enum.yields i H v H' (by rw [hl.length]; exact hi) ((shp_rd hs).1 hk) y
    cases e1
    obtain ⟨w, h1, h2⟩ := hl.get (List.getElem?_eq_getElem hi)
    have e2 : us[i]? = some z2 := e2
    rw [h1] at e2; cases e2
    obtain ⟨F', e', r', rv⟩ := pair_yield (x := .int (i : Nat)) r ev hn eH (by rw [Rel]) h2
    refine ⟨F', _, e', r', ?_, rv⟩
    show (encZ xs 0)[i]? = _
    rw [encZ_get, List.getElem?_eq_getElem hi]
    simp
theorem ji_enu {e : Expr} {elts : List Expr} {kk : Nat} {tpos p pos : Pos} {ar : DA} (hm : X.mg "enumerate" = none) (ha : JA T X E [e] ar) (hg : Gl X "enumerate" := by rfl) (hs : starEach [e] X.env = [(false, eval e X.env)] := by rfl) : JI T X E (.Tuple elts kk tpos) (.Call (.Name "enumerate" p) [e] [] pos) (dItA enuP ar) := by
  refine pi_imp (pi_enum hg hm ha hs) fun σ H Q h => seqI h fun xs S1 R1 F1 H1 us r1 rx h1 => ?_
  unfold enuP at h1
  split at h1
  · obtain ⟨u, rfl, rx'⟩ := rel1 rx
    split at h1
    · rename_i ys hv
      obtain ⟨a, us, rfl, hs, hl⟩ := view_rel r1 rx' hv
      exact ⟨a, us, rfl, (shp_rd hs).1 (.inl rfl), h1 R1 F1 H1 _ (Pl.refl R1) (Ex.refl F1) r1 (walkz_enu r1 rx' hv (.inl rfl) rfl)⟩
    · rename_i ys hv
      obtain ⟨a, us, rfl, hs, hl⟩ := view_rel r1 rx' hv
      exact ⟨a, us, rfl, (shp_rd hs).1 (.inr rfl), h1 R1 F1 H1 _ (Pl.refl R1) (Ex.refl F1) r1 (walkz_enu r1 rx' hv (.inr rfl) rfl)⟩
    · exact h1.elim
  · exact h1.elim
def zipP (xs : List PV) (S : Sto) : Out ItZ := match xs with
  | [x, y] => (match itOf x S, itOf y S with
    | .ok a _, .ok b _ => .ok ⟨zipZ a.items b.items, a.held ++ b.held⟩ S
    | _, _ => .bad)
  | _ => .bad
theorem itOf_ok {x : PV} {S S' : Sto} {it : ItZ} (h : itOf x S = .ok it S') : (∃ z, x = .str z ∧ it = strIt z) ∨ ∃ k xs, (k = .lst ∨ k = .scr ∨ k = .tup) ∧ view x S = some (k, xs) ∧ it = ⟨xs, holdOf x (k, xs)⟩ := by
  cases x with
  | str z => cases h; exact .inl ⟨z, rfl, rfl⟩
  | _ =>
    all_goals
      simp only [itOf, seqIt] at h
      split at h
      · rename_i it' hit
        cases h
        split at hit
        · rename_i xs hv; cases hit; exact .inr ⟨_, _, .inl rfl, hv, rfl⟩
        · rename_i xs hv; cases hit; exact .inr ⟨_, _, .inr (.inl rfl), hv, rfl⟩
        · rename_i xs hv; cases hit; exact .inr ⟨_, _, .inr (.inr rfl), hv, rfl⟩
        · cases hit
      · cases h
/-- a walked value as a source -/
structure ScZ (T : Tb) (K : PySem.W.Frag) (R1 : Pl) (F1 : Hp) (u : V) (sc : Sc) (it : ItZ) : Prop where
  val : ScV sc u
  rd : ∀ (R : Pl) (F H : Hp) (S : Sto), R1.as <+: R.as → Ex F1 F → Rep T K R F S H → heldB it.held S = true → ∃ us, ScAt K H sc us ∧ RelL T K R F it.items us
theorem rel_signs {K : PySem.W.Frag} {R : Pl} {F : Hp} : ∀ cs : List Nat, RelL T K R F (cs.map fun c => .str ⟨#[c]⟩) (cs.map fun c => V.str ⟨#[c]⟩)
  | [] => .nil
  | c :: cs => .cons (by rw [Rel]) (rel_signs cs)
theorem scz_of {K : PySem.W.Frag} {R1 : Pl} {F1 H1 : Hp} {S1 S' : Sto} {x : PV} {u : V} {it : ItZ} (r1 : Rep T K R1 F1 S1 H1) (rx : Rel T K R1 F1 x u) (h : itOf x S1 = .ok it S') : ∃ sc, ScZ T K R1 F1 u sc it := by
  rcases itOf_ok h with ⟨z, rfl, rfl⟩ | ⟨k, xs, hk, hv, rfl⟩
  · have := rel_str rx; subst this
    exact ⟨.s z, rfl, fun R F H S p e r hh => ⟨_, rfl, rel_signs _⟩⟩
  · obtain ⟨a, us0, rfl, _, _⟩ := view_rel r1 rx hv
    rcases hk with hk | hk | hk
    · refine ⟨.l a, rfl, fun R F H S p e r hh => ?_⟩
      obtain ⟨b, us, eb, hs, hl⟩ := hold_view r1 rx hv p e r hh
      cases eb
      exact ⟨us, (shp_rd hs).1 (.inl hk), hl⟩
    · refine ⟨.l a, rfl, fun R F H S p e r hh => ?_⟩
      obtain ⟨b, us, eb, hs, hl⟩ := hold_view r1 rx hv p e r hh
      cases eb
      exact ⟨us, (shp_rd hs).1 (.inr hk), hl⟩
    · refine ⟨.t a, rfl, fun R F H S p e r hh => ?_⟩
      obtain ⟨b, us, eb, hs, hl⟩ := hold_view r1 rx hv p e r hh
      cases eb
      exact ⟨us, (shp_rd hs).2 hk, hl⟩
theorem heldB_app {a b : List (PV × Kd × List PV)} {S : Sto} (h : heldB (a ++ b) S = true) : heldB a S = true ∧ heldB b S = true :=
  ⟨heldB_of fun p hp => heldB_all h p (List.mem_append_left _ hp), heldB_of fun p hp => heldB_all h p (List.mem_append_right _ hp)⟩
theorem ji_zip {e e2 : Expr} {elts : List Expr} {kk : Nat} {tpos p pos : Pos} {ar : DA} (hm : X.mg "zip" = none) (ha : JA T X E [e, e2] ar) (hg : Gl X "zip" := by rfl) (hs : starEach [e, e2] X.env = (false, eval e X.env) :: starEach [e2] X.env := by rfl) (hpl : (backTo pos (starEach [e2] X.env)).any (·.1) = false := by rfl) :
    JI T X E (.Tuple elts kk tpos) (.Call (.Name "zip" p) [e, e2] [] pos) (dItA zipP ar) := by
  refine pi_imp (pi_zipG hm ha hg hs hpl) fun σ H Q h => seqI h fun xs S1 R1 F1 H1 us r1 rx h1 => ?_
  unfold zipP at h1
  split at h1
  · obtain ⟨u, w, rfl, rx1, rx2⟩ := rel2 rx
    split at h1
    · rename_i x y a S2 b S3 i1 i2
      obtain ⟨sc1, z1⟩ := scz_of r1 rx1 i1
      obtain ⟨sc2, z2⟩ := scz_of r1 rx2 i2
      have ok0 : ∀ {x : PV} {it : ItZ} {S' : Sto} {u : V}, Rel T X.K R1 F1 x u → itOf x S1 = .ok it S' → heldB it.held S1 = true := fun {x it S' u} rx h => by
        rcases itOf_ok h with ⟨z, rfl, rfl⟩ | ⟨k, xs, hk, hv, rfl⟩
        · exact heldB_nil S1
        · refine heldB_of fun p hp => ?_
          cases x with
          | ref n => rw [List.mem_singleton.mp hp]; exact hv
          | _ => cases hp
      obtain ⟨us1, q1, l1⟩ := z1.rd R1 F1 H1 S1 (List.prefix_refl _) (Ex.refl F1) r1 (ok0 rx1 i1)
      obtain ⟨us2, q2, l2⟩ := z2.rd R1 F1 H1 S1 (List.prefix_refl _) (Ex.refl F1) r1 (ok0 rx2 i2)
      refine ⟨sc1, sc2, u, w, us1, us2, rfl, z1.val, z2.val, q1, q2, h1 R1 F1 H1 _ (Pl.refl R1) (Ex.refl F1) r1 ⟨fun i R F H S hi p e r hh => ?_, fun R F H S p e r hh => ?_, fun i R F H H' S v hi p e r hh y => ?_⟩⟩
      · obtain ⟨h1, h2⟩ := heldB_app hh
        obtain ⟨xs1, c1, m1⟩ := z1.rd R F H S p e r h1
        obtain ⟨xs2, c2, m2⟩ := z2.rd R F H S p e r h2
        have hi : i < (zipZ a.items b.items).length := hi
        rw [zipZ_len, ← m1.length, ← m2.length] at hi
        exact (walk_zipG rfl).goes i H hi ⟨c1, c2⟩
      · obtain ⟨h1, h2⟩ := heldB_app hh
        obtain ⟨xs1, c1, m1⟩ := z1.rd R F H S p e r h1
        obtain ⟨xs2, c2, m2⟩ := z2.rd R F H S p e r h2
        show (ItzG X.K sc1 sc2).stop (zipZ a.items b.items).length H
        rw [zipZ_len, ← m1.length, ← m2.length]
        exact (walk_zipG rfl).stops H ⟨c1, c2⟩
      · obtain ⟨h1, h2⟩ := heldB_app hh
        obtain ⟨xs1, c1, m1⟩ := z1.rd R F H S p e r h1
        obtain ⟨xs2, c2, m2⟩ := z2.rd R F H S p e r h2
        have hi : i < (zipZ a.items b.items).length := hi
        rw [zipZ_len] at hi
        obtain ⟨T', y1, y2, ev, hn, eH, e1, e2⟩ := (walk_zipG (n := min xs1.length xs2.length) rfl).yields i H v H' (by rw [m1.length, m2.length]; exact hi) ⟨c1, c2⟩ y
        have ha : i < a.items.length := by omega
        have hb : i < b.items.length := by omega
        obtain ⟨w1, g1, g2⟩ := m1.get (List.getElem?_eq_getElem ha)
        obtain ⟨w2, g3, g4⟩ := m2.get (List.getElem?_eq_getElem hb)
        have e1 : xs1[i]? = some y1 := e1
        have e2 : xs2[i]? = some y2 := e2
        rw [g1] at e1; cases e1
        rw [g3] at e2; cases e2
        obtain ⟨F', e', r', rv⟩ := pair_yield r ev hn eH g2 g4
        exact ⟨F', _, e', r', zipZ_get _ _ i _ _ (List.getElem?_eq_getElem ha) (List.getElem?_eq_getElem hb), rv⟩
    · exact h1.elim
  · exact h1.elim
end
end Z
end
section
set_option Elab.async false
set_option linter.all false
set_option maxRecDepth 100000
set_option maxHeartbeats 1000000
/-! Z8: statements. -/
noncomputable section
namespace Z
open PySem PySem.Spec PyProof.Rows L2

def dSkip : DS := fun l S => .nx l S
def dSeq (a b : DS) : DS := fun l S => (a l S).seq b
def dExpr (d : DE) : DS := fun l S => (d l S).st l fun _ S1 => .nx l S1
def dRet (d : DE) : DS := fun l S => (d l S).st l fun v S1 => .ret v S1
def dRetN : DS := fun _ S => .ret .non S
def dIfS (c : DB) (a b : DS) : DS := fun l S => (c l S).st l fun k S1 => if k = true then a l S1 else b l S1
def dSet (i : Nat) (d : DE) : DS := fun l S => (d l S).st l fun v S1 => .nx (l.set i (some v)) S1
def dNever : DS := fun _ _ => .bad
def dBrk : DS := fun l S => .brk l S
def dCnt : DS := fun l S => .cnt l S
/-- a target of any kind -/
abbrev DG := PV → Loc → Sto → OutS
def onlyNx (o : OutS) : OutS := match o with
  | .nx l S => .nx l S
  | _ => .bad
def dAsg (d : DE) (g : DG) : DS := fun l S => (d l S).st l fun v S1 => onlyNx (g v l S1)
def gzN (i : Nat) : DG := fun v l S => .nx (l.set i (some v)) S
def gzL : List DG → List PV → Loc → Sto → OutS
  | [], [], l, S => .nx l S
  | g :: gs, x :: xs, l, S => (g x l S).seq fun l1 S1 => gzL gs xs l1 S1
  | _, _, _, _ => .bad
def gzT (gs : List DG) : DG := fun v l S => match v with
  | .nd .tup xs => gzL gs xs l S
  | _ => .bad
/-- o[i] = v -/
def putP (x i v : PV) (S : Sto) : Option Sto := match x with
  | .ref n => (match S[n]? with
    | some (some (.lst, xs)) => (match i with
      | .int k => (ixN xs.length k).map fun j => S.set n (some (.lst, xs.set j v))
      | _ => none)
    | _ => none)
  | _ => none
def gzI (o i : DE) : DG := fun v l S => (o l S).st l fun x S1 => (i l S1).st l fun y S2 => match putP x y v S2 with
  | some S3 => .nx l S3
  | none => .bad
def OkG (T : Tb) (K : PySem.W.Frag) (R : Pl) (F : Hp) (o : OutS) (Q : L2.St → Hp → Prop) : Prop := match o with
  | .nx l S => PostE T K R F l S Q
  | _ => False
def tG (T : Tb) (K : PySem.W.Frag) (d : DG) : TG := fun u σ H Q => ∃ R F l S x, Rep T K R F S H ∧ RelE T K R F l σ ∧ Rel T K R F x u ∧ OkG T K R F (d x l S) Q
def tGs (T : Tb) (K : PySem.W.Frag) (ds : List DG) : TGs := fun us σ H Q => ∃ R F l S xs, Rep T K R F S H ∧ RelE T K R F l σ ∧ RelL T K R F xs us ∧ OkG T K R F (gzL ds xs l S) Q
abbrev JGz (T : Tb) (X : Cx) (e : Expr) (d : DG) : Prop := PG X e (tG T X.K d)
abbrev JGzs (T : Tb) (X : Cx) (es : List Expr) (ds : List DG) : Prop := PGs X es (tGs T X.K ds)
theorem pg_imp {X : Cx} {e : Expr} {t t' : TG} (h : PG X e t) (i : ∀ v σ H Q, t' v σ H Q → t v σ H Q) : PG X e t' := ⟨fun pins s σ H v u Q I r q => h.run pins s σ H v u Q I r (i v σ H Q q)⟩
theorem pgs_imp {X : Cx} {e : List Expr} {t t' : TGs} (h : PGs X e t) (i : ∀ v σ H Q, t' v σ H Q → t v σ H Q) : PGs X e t' := ⟨fun pins s σ H v u Q I r q => h.run pins s σ H v u Q I r (i v σ H Q q)⟩
section
variable {T : Tb} {X : Cx} {E : XS} {pos : Pos} {x : Str} {e : Expr} {d : DE}
theorem OkG.mono {K : PySem.W.Frag} {R R1 : Pl} {F F1 : Hp} {o : OutS} {Q : L2.St → Hp → Prop} (p : Pl.le R R1) (x : Ex F F1) (h : OkG T K R F o Q) : OkG T K R1 F1 o Q := by
  cases o with
  | nx l S => exact PostE.mono p x h
  | _ => exact h.elim

/-! ### targets -/
theorem jgz_n (i : Nat) (hN : X.N.Nodup) (hi : X.N[i]? = some x := by rfl) (hx : L2.Loc X.env.scope x := by first | exact Or.inl rfl | exact Or.inr rfl) (hf : X.fn x = true ∨ X.env.scope.names.lookup x = some .local := by first | exact .inl rfl | exact .inr rfl) : JGz T X (.Name x pos) (gzN i) :=
  pg_imp (pg_name hN hi hx hf) fun u σ H Q ⟨R, F, l, S, y, r, e, ry, h⟩ => PostE.here r (e.set i ry) h
theorem jgzs_nil : JGzs T X [] [] := pgs_imp pgs_nil fun us σ H Q ⟨R, F, l, S, xs, r, e, rx, h⟩ => by
  cases xs with
  | nil => rw [RelL] at rx; exact ⟨rx, PostE.here r e h⟩
  | cons y ys => exact h.elim
theorem jgzs_cons {es : List Expr} {g : DG} {gs : List DG} (h1 : JGz T X e g) (h2 : JGzs T X es gs) (hs : (assignEach (e :: es) X.env).map (·.2) = assign e X.env :: (assignEach es X.env).map (·.2) := by rfl) : JGzs T X (e :: es) (g :: gs) :=
  pgs_imp (pgs_cons h1 h2 hs) fun us σ H Q ⟨R, F, l, S, xs, r, e, rx, h⟩ => by
    cases xs with
    | nil => exact h.elim
    | cons y ys =>
      rw [RelL] at rx
      obtain ⟨u, vs, rfl, r1, r2⟩ := rx
      refine ⟨u, vs, rfl, R, F, l, S, y, r, e, r1, ?_⟩
      have h : OkG T X.K R F ((g y l S).seq fun l1 S1 => gzL gs ys l1 S1) Q := h
      cases hg : g y l S with
      | nx l1 S1 =>
        rw [hg] at h
        exact fun R1 F1 H1 σ1 p ex r' e' => ⟨R1, F1, l1, S1, ys, r', e', r2.mono p ex, OkG.mono p ex h⟩
      | _ => rw [hg] at h; exact h.elim
theorem gzL_len : ∀ {gs : List DG} {xs : List PV} {l l' : Loc} {S S' : Sto}, gzL gs xs l S = .nx l' S' → xs.length = gs.length
  | [], [], _, _, _, _, _ => rfl
  | [], _ :: _, _, _, _, _, h => by cases h
  | _ :: _, [], _, _, _, _, h => by cases h
  | g :: gs, x :: xs, l, l', S, S', h => by
    have h : (g x l S).seq (fun l1 S1 => gzL gs xs l1 S1) = .nx l' S' := h
    cases hg : g x l S with
    | nx l1 S1 => rw [hg] at h; rw [List.length_cons, List.length_cons, gzL_len (gs := gs) h]
    | _ => rw [hg] at h; cases h
theorem jgz_t {es : List Expr} {k : Nat} {gs : List DG} (hc : X.calm = true) (h : JGzs T X es gs) (hn : (assignEach es X.env).length = gs.length := by rfl) (hst : (assignEach es X.env).findIdx? (·.1) = none := by rfl) : JGz T X (.Tuple es k pos) (gzT gs) :=
  pg_imp (pg_tup hc h hn hst) fun u σ H Q ⟨R, F, l, S, y, r, e, ry, h⟩ => by
    cases y with
    | nd kd xs =>
      cases kd with
      | tup =>
        rw [Rel] at ry
        obtain ⟨a, us, rfl, hs, hl⟩ := ry
        have h : OkG T X.K R F (gzL gs xs l S) Q := h
        refine ⟨a, us, rfl, SqT.of (r.ex.at_ hs), ?_, R, F, l, S, xs, r, e, hl, h⟩
        cases hg : gzL gs xs l S with
        | nx l1 S1 => rw [hl.length, gzL_len hg]
        | _ => rw [hg] at h; exact h.elim
      | _ => exact h.elim
    | _ => exact h.elim
theorem put_rel {K : PySem.W.Frag} {R : Pl} {F H : Hp} {S S' : Sto} (r : Rep T K R F S H) {o i v : PV} {ou iu vu : V} (ro : Rel T K R F o ou) (ri : Rel T K R F i iu) (rv : Rel T K R F v vu) (h : putP o i v S = some S') {Q : Hp → Prop} (hq : ∀ H', Rep T K R F S' H' → Q H') : rSetL ou iu vu H Q := by
  cases o with
  | ref n =>
    simp only [putP] at h
    split at h
    · rename_i xs hS
      cases i with
      | int k =>
        have := rel_int ri; subst this
        rw [Option.map_eq_some_iff] at h
        obtain ⟨j, h1, rfl⟩ := h
        rw [Rel] at ro
        obtain ⟨a, rfl, ha⟩ := ro
        obtain ⟨hf, us, hl, hx⟩ := r.live n a .lst xs ha hS
        have hl : H a = some (.lst us) := hl
        refine ⟨a, us, k, j, rfl, rfl, hl, by rw [hx.length]; exact h1, hq _ (r.put ha hf (k := .lst) (xs := xs.set j v) upd_same (RelL.set rv j hx))⟩
      | _ => simp at h
    · cases h
  | _ => cases h
theorem jgz_i {o i : Expr} {dO dI : DE} (ho : JE T X E o dO) (hi : JE T X E i dI)
    (ha : ∀ v, assign (.Subscript o i pos) X.env v = (do
      let ov ← holding [v] (eval o X.env)
      let iv ← holding [v, ov] (eval i X.env)
      standAt pos
      holding [v, ov, iv] (setItem ov iv v)
      release [v, ov, iv] []) := by intro _; rfl) : JGz T X (.Subscript o i pos) (gzI dO dI) :=
  pg_imp (pg_sub ho hi set_list ha) fun u σ H Q ⟨R, F, l, S, y, r, e, ry, h⟩ => by
    refine ⟨R, F, l, S, r, e, ?_⟩
    have h : OkG T X.K R F ((dO l S).st l fun x S1 => (dI l S1).st l fun z S2 => match putP x z y S2 with
      | some S3 => .nx l S3
      | none => .bad) Q := h
    cases hd : dO l S with
    | ok x S1 =>
      rw [hd] at h
      intro R1 F1 H1 u1 p ex r1 rx
      have h1 := OkG.mono p ex h
      refine ⟨R1, F1, l, S1, r1, e.mono p ex, ?_⟩
      have h1 : OkG T X.K R1 F1 ((dI l S1).st l fun z S2 => match putP x z y S2 with
        | some S3 => .nx l S3
        | none => .bad) Q := h1
      cases hd2 : dI l S1 with
      | ok z S2 =>
        rw [hd2] at h1
        intro R2 F2 H2 u2 p2 ex2 r2 rz
        have h2 := OkG.mono p2 ex2 h1
        have h2 : OkG T X.K R2 F2 (match putP x z y S2 with
          | some S3 => .nx l S3
          | none => .bad) Q := h2
        split at h2
        · rename_i S3 hp
          exact put_rel r2 (rx.mono p2 ex2) rz ((ry.mono p ex).mono p2 ex2) hp fun H' r' => PostE.here r' ((e.mono p ex).mono p2 ex2) h2
        · exact h2.elim
      | err x' S2 => rw [hd2] at h1; exact h1.elim
      | bad => rw [hd2] at h1; exact h1.elim
    | err x' S1 => rw [hd] at h; exact h.elim
    | bad => rw [hd] at h; exact h.elim

/-! ### statements -/
theorem PostXS.now {K : PySem.W.Frag} {R : Pl} {F : Hp} {l : Loc} {σ : L2.St} {e : XV} {S : Sto} (re : RelE T K R F l σ) (h : PostXS T K R F l e S E) : PostX T K R F e S (E σ) := fun R' F' H cls d p x r rx => h R' F' H σ cls d p x r (re.mono p x) rx
theorem st_v {K : PySem.W.Frag} {σ : L2.St} {H : Hp} {D : Ends} {k : PV → Sto → OutS} {C : VK} {R : Pl} {F : Hp} {l : Loc} {S : Sto} (r : Rep T K R F S H) (e : RelE T K R F l σ) (h : OkS T K R F ((d l S).st l k) D E)
    (hk : ∀ (x : PV) (S1 : Sto) (R1 : Pl) (F1 H1 : Hp) (u : V), Pl.le R R1 → Ex F F1 → Rep T K R1 F1 S1 H1 → Rel T K R1 F1 x u → RelE T K R1 F1 l σ → OkS T K R1 F1 (k x S1) D E → C u H1) : tV T K E d σ H C := by
  refine ⟨R, F, l, S, r, e, ?_⟩
  cases hd : d l S with
  | ok x S1 =>
    rw [hd] at h
    exact fun R1 F1 H1 u p x' r1 rx => hk x S1 R1 F1 H1 u p x' r1 rx (e.mono p x') (OkS.mono p x' h)
  | err e' S1 => rw [hd] at h; exact PostXS.now e h
  | bad => rw [hd] at h; exact h
theorem st_t {K : PySem.W.Frag} {σ : L2.St} {H : Hp} {D : Ends} {c : DB} {k : Bool → Sto → OutS} {C : Bool → Hp → Prop} {R : Pl} {F : Hp} {l : Loc} {S : Sto} (r : Rep T K R F S H) (e : RelE T K R F l σ) (h : OkS T K R F ((c l S).st l k) D E)
    (hk : ∀ (x : Bool) (S1 : Sto) (R1 : Pl) (F1 H1 : Hp), Pl.le R R1 → Ex F F1 → Rep T K R1 F1 S1 H1 → RelE T K R1 F1 l σ → OkS T K R1 F1 (k x S1) D E → C x H1) : tT T K E c σ H C := by
  refine ⟨R, F, l, S, r, e, ?_⟩
  cases hd : c l S with
  | ok x S1 =>
    rw [hd] at h
    exact fun R1 F1 H1 p x' r1 => hk x S1 R1 F1 H1 p x' r1 (e.mono p x') (OkS.mono p x' h)
  | err e' S1 => rw [hd] at h; exact PostXS.now e h
  | bad => rw [hd] at h; exact h
theorem js_expr (h : JE T X E e d) (hs : swapsWith e none pos.line X.env = pure false := by rfl) : JS T X E (.Expr e pos) (dExpr d) :=
  ps_imp (ps_expr h hs) fun D σ H ⟨R, F, l, S, r, e, h⟩ => st_v r e h fun x S1 R1 F1 H1 u p ex r1 rx e1 h1 => PostE.here r1 e1 h1
theorem js_ret (h : JE T X E e d) : JS T X E (.Return (some e) pos) (dRet d) :=
  ps_imp (ps_ret h) fun D σ H ⟨R, F, l, S, r, e, h⟩ => st_v r e h fun x S1 R1 F1 H1 u p ex r1 rx e1 h1 => PostV.here r1 rx h1
theorem js_retN : JS T X E (.Return none pos) dRetN :=
  ps_imp ps_retN fun D σ H ⟨R, F, l, S, r, e, h⟩ => PostV.here r (by rw [Rel]) h
theorem js_never {st : Stmt} : JS T X E st dNever := ps_imp ps_never fun D σ H ⟨R, F, l, S, r, e, h⟩ => h.elim
theorem js_brk : JS T X E (.Break pos) dBrk := ps_imp ps_break fun D σ H ⟨R, F, l, S, r, e, h⟩ => PostE.here r e h
theorem js_cnt : JS T X E (.Continue pos) dCnt := ps_imp ps_continue fun D σ H ⟨R, F, l, S, r, e, h⟩ => PostE.here r e h
theorem js_pass : JS T X E (.Pass pos) dSkip := ps_imp ps_pass fun D σ H ⟨R, F, l, S, r, e, h⟩ => PostE.here r e h
theorem js_doc {z : Str} {j pos pos'} : JS T X E (.Expr (.Constant (.str z) j pos) pos') dSkip := ps_imp ps_doc fun D σ H ⟨R, F, l, S, r, e, h⟩ => PostE.here r e h
theorem js_if {c : Expr} {a b : List Stmt} {dc : DB} {da db : DS} (hc : JT T X E c dc) (ha : JB T X E a da) (hb : JB T X E b db) : JS T X E (.If c a b pos) (dIfS dc da db) :=
  ps_imp (ps_if hc ha hb) fun D σ H ⟨R, F, l, S, r, e, h⟩ => st_t r e h fun x S1 R1 F1 H1 p ex r1 e1 h1 => by
    cases x with
    | true => exact ⟨R1, F1, l, S1, r1, e1, h1⟩
    | false => exact ⟨R1, F1, l, S1, r1, e1, h1⟩
theorem js_set (i : Nat) {pos' : Pos} (hN : X.N.Nodup) (he : JE T X E e d) (hi : X.N[i]? = some x := by rfl) (hx : L2.Loc X.env.scope x := by first | exact Or.inl rfl | exact Or.inr rfl) (hs : swapsWith e (some (.Name x pos')) pos.line X.env = pure false := by rfl) (hf : X.fn x = true ∨ X.env.scope.names.lookup x = some .local := by first | exact .inl rfl | exact .inr rfl) :
    JS T X E (.Assign [.Name x pos'] e pos) (dSet i d) :=
  ps_imp (ps_set hN hi hx he hs hf) fun D σ H ⟨R, F, l, S, r, e, h⟩ => st_v r e h fun x S1 R1 F1 H1 u p ex r1 rx e1 h1 => PostE.here r1 (e1.set i rx) h1
theorem js_asg {tg : Expr} {g : DG} (he : JE T X E e d) (hg : JGz T X tg g) (hs : swapsWithSole [tg] e pos.line X.env = pure false := by rfl) (hw : swappedStores [tg] e X.env = pure none := by rfl)
    (h1 : (assignEach [tg] X.env).map (·.2) = [assign tg X.env] := by rfl) : JS T X E (.Assign [tg] e pos) (dAsg d g) :=
  ps_imp (ps_asg he hg hs hw h1) fun D σ H ⟨R, F, l, S, r, e, h⟩ => st_v r e h fun x S1 R1 F1 H1 u p ex r1 rx e1 h1 => by
    refine ⟨R1, F1, l, S1, x, r1, e1, rx, ?_⟩
    have h1 : OkS T X.K R1 F1 (onlyNx (g x l S1)) D E := h1
    cases hg : g x l S1 with
    | nx l2 S2 => rw [hg] at h1; exact h1
    | _ => rw [hg] at h1; exact h1.elim
/-- a, b = x, y with plain local names -/
def dPar (i j : Nat) (ar : DA) : DS := fun l S => (ar l S).st l fun xs S1 => match xs with
  | [v, w] => .nx ((l.set i (some v)).set j (some w)) S1
  | _ => .bad
def dPar3 (i j k : Nat) (ar : DA) : DS := fun l S => (ar l S).st l fun xs S1 => match xs with
  | [u, v, w] => .nx (((l.set i (some u)).set j (some v)).set k (some w)) S1
  | _ => .bad
theorem st_l {K : PySem.W.Frag} {σ : L2.St} {H : Hp} {D : Ends} {ar : DA} {k : List PV → Sto → OutS} {C : List V → Hp → Prop} {R : Pl} {F : Hp} {l : Loc} {S : Sto} (r : Rep T K R F S H) (e : RelE T K R F l σ) (h : OkS T K R F ((ar l S).st l k) D E)
    (hk : ∀ (x : List PV) (S1 : Sto) (R1 : Pl) (F1 H1 : Hp) (u : List V), Pl.le R R1 → Ex F F1 → Rep T K R1 F1 S1 H1 → RelL T K R1 F1 x u → RelE T K R1 F1 l σ → OkS T K R1 F1 (k x S1) D E → C u H1) : tL T K E ar σ H C := by
  refine ⟨R, F, l, S, r, e, ?_⟩
  cases hd : ar l S with
  | ok x S1 =>
    rw [hd] at h
    exact fun R1 F1 H1 u p x' r1 rx => hk x S1 R1 F1 H1 u p x' r1 rx (e.mono p x') (OkS.mono p x' h)
  | err e' S1 => rw [hd] at h; exact PostXS.now e h
  | bad => rw [hd] at h; exact h
theorem js_par (i j : Nat) {x y : Str} {a b : Expr} {ar : DA} {px py pt : Pos} {kt k2 pt2} (hc : X.calm = true) (hN : X.N.Nodup) (ha : JA T X E [a, b] ar) (hi : X.N[i]? = some x := by rfl) (hj : X.N[j]? = some y := by rfl) (hij : i ≠ j := by decide)
    (hx : X.env.scope.names.lookup x = some .local := by rfl) (hy : X.env.scope.names.lookup y = some .local := by rfl)
    (hw : swappedStores [.Tuple [.Name x px, .Name y py] kt pt] (.Tuple [a, b] k2 pt2) X.env = pure (some [x, y]) := by rfl)
    (hs : swapsWithSole [.Tuple [.Name x px, .Name y py] kt pt] (.Tuple [a, b] k2 pt2) pos.line X.env = pure false := by rfl) : JS T X E (.Assign [.Tuple [.Name x px, .Name y py] kt pt] (.Tuple [a, b] k2 pt2) pos) (dPar i j ar) :=
  ps_imp (ps_par hc hN hi hj hij hx hy ha hw hs) fun D σ H ⟨R, F, l, S, r, e, h⟩ => st_l r e h fun xs S1 R1 F1 H1 us p ex r1 rx e1 h1 => by
    split at h1
    · obtain ⟨v, w, rfl, r2, r3⟩ := rel2 rx
      exact ⟨v, w, rfl, PostE.here r1 ((e1.set i r2).set j r3) h1⟩
    · exact h1.elim
theorem js_par3 (i j k : Nat) {x y z : Str} {a b c : Expr} {ar : DA} {px py pz pt : Pos} {kt k2 pt2} (hc : X.calm = true) (hN : X.N.Nodup) (ha : JA T X E [a, b, c] ar) (hi : X.N[i]? = some x := by rfl) (hj : X.N[j]? = some y := by rfl) (hk : X.N[k]? = some z := by rfl) (hij : i ≠ j := by decide) (hik : i ≠ k := by decide) (hjk : j ≠ k := by decide)
    (hx : X.env.scope.names.lookup x = some .local := by rfl) (hy : X.env.scope.names.lookup y = some .local := by rfl) (hz : X.env.scope.names.lookup z = some .local := by rfl)
    (hw : swappedStores [.Tuple [.Name x px, .Name y py, .Name z pz] kt pt] (.Tuple [a, b, c] k2 pt2) X.env = pure (some [x, y, z]) := by rfl)
    (hs : swapsWithSole [.Tuple [.Name x px, .Name y py, .Name z pz] kt pt] (.Tuple [a, b, c] k2 pt2) pos.line X.env = pure false := by rfl) : JS T X E (.Assign [.Tuple [.Name x px, .Name y py, .Name z pz] kt pt] (.Tuple [a, b, c] k2 pt2) pos) (dPar3 i j k ar) :=
  ps_imp (ps_par3 hc hN hi hj hk hij hik hjk hx hy hz ha hw hs) fun D σ H ⟨R, F, l, S, r, e, h⟩ => st_l r e h fun xs S1 R1 F1 H1 us p ex r1 rx e1 h1 => by
    split at h1
    · rw [RelL] at rx
      obtain ⟨u, vs, rfl, r2, rx⟩ := rx
      obtain ⟨v, w, rfl, r3, r4⟩ := rel2 rx
      exact ⟨u, v, w, rfl, PostE.here r1 (((e1.set i r2).set j r3).set k r4) h1⟩
    · exact h1.elim
/-- name += e, ints -/
def dAug (f : PV → PV → Sto → Out PV) (i : Nat) (d : DE) : DS := fun l S => match l[i]? with
  | some (some x) => (d l S).st l fun y S1 => (f x y S1).st l fun z S2 => .nx (l.set i (some z)) S2
  | _ => .bad
def augP (x y : PV) (S : Sto) : Out PV := match x, y with
  | .int i, .int j => .ok (.int (i + j)) S
  | _, _ => .bad
theorem js_aug (i : Nat) {pos' : Pos} (hN : X.N.Nodup) (he : JE T X E e d) (hi : X.N[i]? = some x := by rfl) (hx : L2.Loc X.env.scope x := by first | exact Or.inl rfl | exact Or.inr rfl) (hf : X.fn x = true ∨ X.env.scope.names.lookup x = some .local := by first | exact .inl rfl | exact .inr rfl) : JS T X E (.AugAssign (.Name x pos') .Add e pos) (dAug augP i d) :=
  ps_imp (ps_aug hN hi hx he ip_add hf) fun D σ H ⟨R, F, l, S, r, e, h⟩ => by
    unfold dAug at h
    split at h
    · rename_i v hv
      obtain ⟨u, h1, h2⟩ := e.at_ i v hv
      refine ⟨u, h1, st_v r e h fun y S1 R1 F1 H1 w p ex r1 ry e1 k1 => ?_⟩
      have h2 := h2.mono p ex
      have k1 : OkS T X.K R1 F1 ((augP v y S1).st l fun z S2 => .nx (l.set i (some z)) S2) D E := k1
      cases v with
      | int a =>
        cases y with
        | int b =>
          have := rel_int h2; subst this
          have := rel_int ry; subst this
          exact ⟨a, b, rfl, rfl, PostE.here r1 (e1.set i (by rw [Rel])) k1⟩
        | _ => exact k1.elim
      | _ => exact k1.elim
    · exact h.elim

/-! ### blocks -/
theorem seq_s {K : PySem.W.Frag} {R : Pl} {F : Hp} {o : OutS} {k : Loc → Sto → OutS} {D : Ends} {b : DS} (hb : k = b) (h : OkS T K R F (o.seq k) D E) : OkS T K R F o { D with nx := tS T K E b D } E := by
  subst hb
  cases o with
  | nx l S => exact fun R1 F1 H1 σ p ex r e => ⟨R1, F1, l, S, r, e, OkS.mono p ex h⟩
  | ret v S => exact h
  | brk l S => exact h
  | cnt l S => exact h
  | err e l S => exact h
  | bad => exact h
theorem jb_nil : JB T X E [] dSkip := pss_imp pss_nil fun D σ H ⟨R, F, l, S, r, e, h⟩ => PostE.here r e h
theorem jb_one {st : Stmt} {ds : DS} (h : JS T X E st ds) : JB T X E [st] ds := pss_one h
theorem jb_cons {st : Stmt} {rest : List Stmt} {ds db : DS} (h : JS T X E st ds) (hr : JB T X E rest db) : JB T X E (st :: rest) (dSeq ds db) :=
  pss_imp (pss_cons h hr) fun D σ H ⟨R, F, l, S, r, e, h⟩ => ⟨R, F, l, S, r, e, seq_s rfl h⟩
theorem jb_never {sts : List Stmt} : JB T X E sts dNever := pss_imp pss_never fun D σ H ⟨R, F, l, S, r, e, h⟩ => h.elim

/-! ### for -/
def forZ (t : TgZ) (hs : List (PV × Kd × List PV)) (b : DS) : List PV → Loc → Sto → OutS
  | [], l, S => .nx l S
  | x :: xs, l, S => match asg t x with
    | none => .bad
    | some ps => match b (setZ l ps) S with
      | .nx l1 S1 => if heldB hs S1 = true then forZ t hs b xs l1 S1 else .bad
      | .cnt l1 S1 => if heldB hs S1 = true then forZ t hs b xs l1 S1 else .bad
      | .brk l1 S1 => .nx l1 S1
      | o => o
def dFor (di : DI) (t : TgZ) (b : DS) : DS := fun l S => (di l S).st l fun it S1 => if heldB it.held S1 = true then forZ t it.held b it.items l S1 else .bad
theorem js_for {tg iter : Expr} {body : List Stmt} {di : DI} {t : TgZ} {b : DS} (hp : PassesOwn (model X.prog X.w) X.A X.env X.xe) (hc : X.calm = true) (hi : JI T X E tg iter di) (hg : JG X tg t) (hb : JB T X E body b)
    (hs : ∀ x, foldedSetIterable iter X.env x = pure x := by intro _; rfl) : JS T X E (.For tg iter body [] pos) (dFor di t b) := by
  refine ps_imp (ps_for hp hc hi hg hb hs) fun D σ H ⟨R, F, l, S, r, e, h⟩ => ⟨R, F, l, S, r, e, ?_⟩
  unfold dFor at h
  cases hd : di l S with
  | bad => rw [hd] at h; exact h.elim
  | err x S1 => rw [hd] at h; exact PostXS.now e h
  | ok it S1 =>
    rw [hd] at h
    intro R1 F1 H1 J p ex r1 wz
    have h : OkS T X.K R F (if heldB it.held S1 = true then forZ t it.held b it.items l S1 else .bad) D E := h
    split at h
    · rename_i hh
      refine ⟨fun i m σ' H' => m = it.items.length - i ∧ i ≤ it.items.length ∧ ∃ R2 F2 l2 S2, Pl.le R1 R2 ∧ Ex F1 F2 ∧ Rep T X.K R2 F2 S2 H' ∧ RelE T X.K R2 F2 l2 σ' ∧ heldB it.held S2 = true ∧ OkS T X.K R2 F2 (forZ t it.held b (it.items.drop i) l2 S2) D E,
        ⟨_, rfl, Nat.zero_le _, R1, F1, l, S1, Pl.refl R1, Ex.refl F1, r1, e.mono p ex, hh, OkS.mono p ex h⟩, ?_⟩
      rintro i m σ' H' ⟨rfl, hi, R2, F2, l2, S2, p2, ex2, r2, e2, hh2, h2⟩
      by_cases hlt : i < it.items.length
      · refine .inr ⟨wz.goes i R2 F2 H' S2 hlt p2.1 ex2 r2 hh2, fun σ3 H3 => i + 1 ≤ it.items.length ∧ ∃ R2 F2 l2 S2, Pl.le R1 R2 ∧ Ex F1 F2 ∧ Rep T X.K R2 F2 S2 H3 ∧ RelE T X.K R2 F2 l2 σ3 ∧ heldB it.held S2 = true ∧ OkS T X.K R2 F2 (forZ t it.held b (it.items.drop (i + 1)) l2 S2) D E,
          fun σ3 H3 ⟨q1, q2⟩ => ⟨it.items.length - (i + 1), by omega, rfl, q1, q2⟩, fun v H3 y => ?_⟩
        obtain ⟨F3, x, ex3, r3, hx, rv⟩ := wz.yields i R2 F2 H' H3 S2 v hlt p2.1 ex2 r2 hh2 y
        have hdr : it.items.drop i = x :: it.items.drop (i + 1) := by
          rw [List.drop_eq_getElem_cons hlt]
          rw [List.getElem?_eq_getElem hlt] at hx
          cases hx; rfl
        rw [hdr, forZ] at h2
        cases ha : asg t x with
        | none => rw [ha] at h2; exact h2.elim
        | some ps =>
          rw [ha] at h2
          refine gOf_ok r3 t x v l2 σ' ps _ (e2.mono (Pl.refl R2) ex3) rv ha fun qs _ e3 => ⟨R2, F3, setZ l2 ps, S2, r3, e3, ?_⟩
          have h3 := OkS.mono (Pl.refl R2) ex3 h2
          have h3 : OkS T X.K R2 F3 (match b (setZ l2 ps) S2 with
            | .nx l1 S1 => if heldB it.held S1 = true then forZ t it.held b (it.items.drop (i + 1)) l1 S1 else .bad
            | .cnt l1 S1 => if heldB it.held S1 = true then forZ t it.held b (it.items.drop (i + 1)) l1 S1 else .bad
            | .brk l1 S1 => .nx l1 S1
            | o => o) D E := h3
          cases hb2 : b (setZ l2 ps) S2 with
          | nx l4 S4 =>
            rw [hb2] at h3
            simp only at h3
            split at h3
            · rename_i hh4
              exact fun R4 F4 H4 σ4 p4 ex4 r4 e4 => ⟨hlt, R4, F4, l4, S4, p2.trans p4, (ex2.trans ex3).trans ex4, r4, e4, hh4, OkS.mono p4 ex4 h3⟩
            · exact h3.elim
          | cnt l4 S4 =>
            rw [hb2] at h3
            simp only at h3
            split at h3
            · rename_i hh4
              exact fun R4 F4 H4 σ4 p4 ex4 r4 e4 => ⟨hlt, R4, F4, l4, S4, p2.trans p4, (ex2.trans ex3).trans ex4, r4, e4, hh4, OkS.mono p4 ex4 h3⟩
            · exact h3.elim
          | brk l4 S4 => rw [hb2] at h3; exact h3
          | ret v4 S4 => rw [hb2] at h3; exact h3
          | err x4 l4 S4 => rw [hb2] at h3; exact h3
          | bad => rw [hb2] at h3; exact h3.elim
      · have e' : i = it.items.length := by omega
        subst e'
        rw [List.drop_length, forZ] at h2
        exact .inl ⟨wz.stops R2 F2 H' S2 p2.1 ex2 r2 hh2, PostE.here r2 e2 h2⟩
    · exact h.elim

/-! ### while -/
def whileN (c : DB) (b : DS) : Nat → Loc → Sto → OutS
  | 0, _, _ => .bad
  | n + 1, l, S => (c l S).st l fun k S1 => if k = true then (match b l S1 with
    | .nx l2 S2 => whileN c b n l2 S2
    | .cnt l2 S2 => whileN c b n l2 S2
    | .brk l2 S2 => .nx l2 S2
    | o => o) else .nx l S1
open Classical in
def dWhile (c : DB) (b : DS) : DS := fun l S => if h : ∃ n, whileN c b n l S ≠ .bad then whileN c b (Classical.choose h) l S else .bad
theorem whileN_mono {c : DB} {b : DS} : ∀ (n m : Nat) (l : Loc) (S : Sto), n ≤ m → whileN c b n l S ≠ .bad → whileN c b m l S = whileN c b n l S
  | 0, m, l, S, _, h => absurd rfl h
  | n + 1, 0, l, S, h, _ => absurd h (by omega)
  | n + 1, m + 1, l, S, hle, h => by
    rw [whileN] at h ⊢
    rw [whileN]
    cases hc : c l S with
    | bad => rw [hc] at h; exact absurd rfl h
    | err x S1 => rfl
    | ok k S1 =>
      rw [hc] at h
      simp only [Out.st] at h ⊢
      cases k with
      | false => rfl
      | true =>
        simp only [if_true] at h ⊢
        cases hb : b l S1 with
        | nx l2 S2 => rw [hb] at h; exact whileN_mono n m l2 S2 (by omega) h
        | cnt l2 S2 => rw [hb] at h; exact whileN_mono n m l2 S2 (by omega) h
        | _ => rfl
theorem dWhile_eq {c : DB} {b : DS} {n : Nat} {l : Loc} {S : Sto} (h : whileN c b n l S ≠ .bad) : dWhile c b l S = whileN c b n l S := by
  have hx : ∃ n, whileN c b n l S ≠ .bad := ⟨n, h⟩
  unfold dWhile
  rw [dif_pos hx]
  have h2 := Classical.choose_spec hx
  rcases Nat.le_total n (Classical.choose hx) with z | z
  · exact whileN_mono _ _ l S z h
  · exact (whileN_mono _ _ l S z h2).symm
theorem js_while {cond : Expr} {body : List Stmt} {c : DB} {b : DS} (hp : PassesOwn (model X.prog X.w) X.A X.env X.xe) (hc : JT T X E cond c) (hb : JB T X E body b) : JS T X E (.While cond body [] pos) (dWhile c b) := by
  refine ps_imp (ps_while hp hc hb) fun D σ H ⟨R, F, l, S, r, e, h⟩ => ?_
  by_cases hx : ∃ n, whileN c b n l S ≠ .bad
  · obtain ⟨n, hn⟩ := hx
    rw [dWhile_eq hn] at h
    refine ⟨fun m σ' H' => ∃ R2 F2 l2 S2, Rep T X.K R2 F2 S2 H' ∧ RelE T X.K R2 F2 l2 σ' ∧ OkS T X.K R2 F2 (whileN c b m l2 S2) D E, ⟨n, R, F, l, S, r, e, h⟩, ?_⟩
    rintro m σ' H' ⟨R2, F2, l2, S2, r2, e2, h2⟩
    cases m with
    | zero => exact h2.elim
    | succ m =>
      rw [whileN] at h2
      refine st_t r2 e2 h2 fun k S3 R3 F3 H3 p ex r3 e3 h3 => ?_
      cases k with
      | false => exact PostE.here r3 e3 h3
      | true =>
        simp only [if_true] at h3 ⊢
        refine ⟨fun σ4 H4 => ∃ R2 F2 l2 S2, Rep T X.K R2 F2 S2 H4 ∧ RelE T X.K R2 F2 l2 σ4 ∧ OkS T X.K R2 F2 (whileN c b m l2 S2) D E, fun σ4 H4 q => ⟨m, by omega, q⟩, R3, F3, l2, S3, r3, e3, ?_⟩
        cases hb2 : b l2 S3 with
        | nx l4 S4 =>
          rw [hb2] at h3
          exact fun R4 F4 H4 σ4 p4 ex4 r4 e4 => ⟨R4, F4, l4, S4, r4, e4, OkS.mono p4 ex4 h3⟩
        | cnt l4 S4 =>
          rw [hb2] at h3
          exact fun R4 F4 H4 σ4 p4 ex4 r4 e4 => ⟨R4, F4, l4, S4, r4, e4, OkS.mono p4 ex4 h3⟩
        | brk l4 S4 => rw [hb2] at h3; exact h3
        | ret v4 S4 => rw [hb2] at h3; exact h3
        | err x4 l4 S4 => rw [hb2] at h3; exact h3
        | bad => rw [hb2] at h3; exact h3.elim
  · unfold dWhile at h
    rw [dif_neg hx] at h
    exact h.elim
/-- a while with a bound on its turns that can be reckoned -/
def dWhl (n : Nat) (c : DB) (b : DS) : DS := whileN c b n
theorem js_whl (n : Nat) {cond : Expr} {body : List Stmt} {c : DB} {b : DS} (hp : PassesOwn (model X.prog X.w) X.A X.env X.xe) (hc : JT T X E cond c) (hb : JB T X E body b) : JS T X E (.While cond body [] pos) (dWhl n c b) :=
  ps_imp (js_while hp hc hb) fun D σ H ⟨R, F, l, S, r, e, h⟩ => ⟨R, F, l, S, r, e, by
    have hn : whileN c b n l S ≠ .bad := fun z => by
      have h : OkS T X.K R F (whileN c b n l S) D E := h
      rw [z] at h; exact h
    rw [dWhile_eq hn]; exact h⟩
end
end Z
end
end
section
set_option Elab.async false
set_option linter.all false
set_option maxRecDepth 100000
set_option maxHeartbeats 1000000
/-! Z9: list comprehensions. -/
noncomputable section
namespace Z
open PySem PySem.Spec PyProof.Rows L2

section
variable {T : Tb} {K : PySem.W.Frag} {as as' : List Addr} {hid hid' : List (Addr × HO)} {F F' : Hp}
theorem RelL.sh {xs : List PV} {us : List V} (h : RelL T K ⟨as, hid⟩ F xs us) (p : as <+: as') (e : Ex F F') : RelL T K ⟨as', hid'⟩ F' xs us := RelL.mono0 (R := ⟨as, hid⟩) (R' := ⟨as', hid'⟩) p e xs us h
theorem Rel.sh {x : PV} {u : V} (h : Rel T K ⟨as, hid⟩ F x u) (p : as <+: as') (e : Ex F F') : Rel T K ⟨as', hid'⟩ F' x u := Rel.mono0 (R := ⟨as, hid⟩) (R' := ⟨as', hid'⟩) p e x u h
end
section
variable {T : Tb} {K : PySem.W.Frag} {as : List Addr} {hid : List (Addr × HO)} {R : Pl} {F H : Hp} {S : Sto} {D : Addr} {o o' : HO}
theorem Rep.hide (r : Rep T K R F S H) (hD : H D = none) (ho : hidO o = true := by rfl) : Rep T K ⟨R.as, (D, o) :: R.hid⟩ F S (upd H D o) where
  ex := fun a u e => by
    have h : a ≠ D := fun z => by rw [z, r.fnone hD] at e; cases e
    rw [upd_ne h]; exact r.ex a u e
  len := r.len
  nd := r.nd
  there := fun a ha => by
    have h : a ≠ D := fun z => (r.there a ha).1 (by rw [z]; exact hD)
    rw [upd_ne h]; exact r.there a ha
  hidt := fun q hq => by
    rcases List.mem_cons.mp hq with e | hq
    · rw [e]; exact ho
    · exact r.hidt q hq
  ntb := r.ntb
  tabs := tabs_new r.tabs hD
  hidnd := by
    show ((D, o).1 :: R.hid.map Prod.fst).Nodup
    rw [List.nodup_cons]
    refine ⟨fun z => ?_, r.hidnd⟩
    obtain ⟨q, hq, e⟩ := List.mem_map.mp z
    have := (r.hid q hq).1
    rw [e, hD] at this
    cases this
  hid := fun q hq => by
    rcases List.mem_cons.mp hq with e | hq
    · subst e
      exact ⟨upd_same, fun z => (r.there D z).1 hD, r.fnone hD⟩
    · obtain ⟨h1, h2, h3⟩ := r.hid q hq
      have ne : q.1 ≠ D := fun z => by rw [z, hD] at h1; cases h1
      exact ⟨by rw [upd_ne ne]; exact h1, h2, h3⟩
  live := fun n a k xs h1 h2 => by
    obtain ⟨h3, us, h4, h5⟩ := r.live n a k xs h1 h2
    have ne : a ≠ D := fun z => h4.there (by rw [z]; exact hD)
    exact ⟨h3, us, h4.upd ne, h5.sh (List.prefix_refl _) (Ex.refl F)⟩
theorem Rep.rehide (r : Rep T K ⟨as, (D, o) :: hid⟩ F S H) (ho : hidO o' = true := by rfl) : Rep T K ⟨as, (D, o') :: hid⟩ F S (upd H D o') := by
  obtain ⟨d1, d2, d3⟩ := r.hid (D, o) List.mem_cons_self
  have hnd : D ∉ hid.map Prod.fst := by have := r.hidnd; exact (List.nodup_cons.mp this).1
  exact {
    ex := fun a u e => by
      have h : a ≠ D := fun z => by
        have d3 : F D = none := d3
        rw [z, d3] at e; cases e
      rw [upd_ne h]; exact r.ex a u e
    len := r.len
    nd := r.nd
    there := fun a ha => by
      have h : a ≠ D := fun z => d2 (by rw [← z]; exact ha)
      rw [upd_ne h]; exact r.there a ha
    hidt := fun q hq => by
      rcases List.mem_cons.mp hq with e | hq
      · rw [e]; exact ho
      · exact r.hidt q (List.mem_cons_of_mem _ hq)
    ntb := r.ntb
    tabs := tabs_put r.tabs d1 (hidO.plain (o := o) (r.hidt (D, o) List.mem_cons_self))
    hidnd := r.hidnd
    hid := fun q hq => by
      rcases List.mem_cons.mp hq with e | hq
      · subst e
        exact ⟨upd_same, d2, d3⟩
      · obtain ⟨h1, h2, h3⟩ := r.hid q (List.mem_cons_of_mem _ hq)
        have ne : q.1 ≠ D := fun z => hnd (List.mem_map.mpr ⟨q, hq, z⟩)
        exact ⟨by rw [upd_ne ne]; exact h1, h2, h3⟩
    live := fun n a k xs h1 h2 => by
      obtain ⟨h3, us, h4, h5⟩ := r.live n a k xs h1 h2
      have ne : a ≠ D := fun z => d2 (by
        have h1 : as[n]? = some a := h1
        rw [← z]; exact List.mem_of_getElem? h1)
      exact ⟨h3, us, h4.upd ne, h5.sh (List.prefix_refl _) (Ex.refl F)⟩ }
/-- held no longer: from now on it never changes any more -/
theorem Rep.bare (r : Rep T K ⟨as, (D, o) :: hid⟩ F S H) : Ex F (upd F D o) ∧ Rep T K ⟨as, hid⟩ (upd F D o) S H := by
  obtain ⟨d1, d2, d3⟩ := r.hid (D, o) List.mem_cons_self
  have hnd : D ∉ hid.map Prod.fst := by have := r.hidnd; exact (List.nodup_cons.mp this).1
  have d3 : F D = none := d3
  refine ⟨ex_upd d3, {
    ex := fun a u e => by
      by_cases h : a = D
      · subst h; rw [upd_same] at e; cases e; exact .inl d1
      · rw [upd_ne h] at e; exact r.ex a u e
    len := r.len
    nd := r.nd
    there := r.there
    hidt := fun q hq => r.hidt q (List.mem_cons_of_mem _ hq)
    ntb := fun a ps e => by
      by_cases h : a = D
      · rw [h, upd_same] at e
        have q := r.hidt _ List.mem_cons_self
        have e := Option.some.inj e
        rw [e] at q; cases q
      · rw [upd_ne h] at e; exact r.ntb a ps e
    tabs := r.tabs
    hidnd := (List.nodup_cons.mp r.hidnd).2
    hid := fun q hq => by
      obtain ⟨h1, h2, h3⟩ := r.hid q (List.mem_cons_of_mem _ hq)
      have ne : q.1 ≠ D := fun z => hnd (List.mem_map.mpr ⟨q, hq, z⟩)
      exact ⟨h1, h2, by rw [upd_ne ne]; exact h3⟩
    live := fun n a k xs h1 h2 => by
      obtain ⟨h3, us, h4, h5⟩ := r.live n a k xs h1 h2
      have ne : a ≠ D := fun z => d2 (by
        have h1 : as[n]? = some a := h1
        rw [← z]; exact List.mem_of_getElem? h1)
      exact ⟨by rw [upd_ne ne]; exact h3, us, h4, h5.sh (List.prefix_refl _) (ex_upd d3)⟩ }⟩
/-- .. or it becomes a place -/
theorem Rep.bareM {us : List V} {xs : List PV} (r : Rep T K ⟨as, (D, .lst us) :: hid⟩ F S H) (hx : RelL T K ⟨as, hid⟩ F xs us) : Rep T K ⟨as ++ [D], hid⟩ F (S ++ [some (.lst, xs)]) H := by
  obtain ⟨d1, d2, d3⟩ := r.hid (D, .lst us) List.mem_cons_self
  have hnd : D ∉ hid.map Prod.fst := by have := r.hidnd; exact (List.nodup_cons.mp this).1
  have d1 : H D = some (.lst us) := d1
  have d3 : F D = none := d3
  have d2 : D ∉ as := d2
  have hlen : as.length = S.length := r.len
  exact {
    ex := r.ex
    len := by
      show (as ++ [D]).length = _
      rw [List.length_append, List.length_append, hlen]; rfl
    nd := by
      show (as ++ [D]).Nodup
      rw [List.nodup_append]
      exact ⟨r.nd, by simp, fun a ha b hb => by rw [List.mem_singleton.mp hb]; exact fun z => d2 (by rw [← z]; exact ha)⟩
    there := fun a ha => by
      rcases List.mem_append.mp ha with z | z
      · exact r.there a z
      · rw [List.mem_singleton.mp z, d1]; exact ⟨fun z => (nomatch z), fun ps z => by cases z⟩
    hidt := fun q hq => r.hidt q (List.mem_cons_of_mem _ hq)
    ntb := r.ntb
    tabs := r.tabs
    hidnd := (List.nodup_cons.mp r.hidnd).2
    hid := fun q hq => by
      obtain ⟨h1, h2, h3⟩ := r.hid q (List.mem_cons_of_mem _ hq)
      exact ⟨h1, fun z => (List.mem_append.mp z).elim h2 fun z => hnd (List.mem_map.mpr ⟨q, hq, List.mem_singleton.mp z⟩), h3⟩
    live := fun n a k xs' h1 h2 => by
      have h1 : (as ++ [D])[n]? = some a := h1
      by_cases hlt : n < as.length
      · rw [List.getElem?_append_left hlt] at h1
        rw [List.getElem?_append_left (by rw [← hlen]; exact hlt)] at h2
        obtain ⟨h3, us', h4, h5⟩ := r.live n a k xs' h1 h2
        exact ⟨h3, us', h4, h5.sh (List.prefix_append _ _) (Ex.refl F)⟩
      · have hge : as.length ≤ n := Nat.le_of_not_lt hlt
        rw [List.getElem?_append_right hge] at h1
        rw [List.getElem?_append_right (by rw [← hlen]; exact hge)] at h2
        have e0 : n - as.length = 0 := by
          by_cases z : n - as.length = 0
          · exact z
          · rw [List.getElem?_eq_none (by simp; omega)] at h1; cases h1
        have e1 : n - S.length = 0 := by rw [← hlen]; exact e0
        rw [e0] at h1
        rw [e1] at h2
        cases h1; cases h2
        exact ⟨d3, us, d1, hx.sh (List.prefix_append _ _) (Ex.refl F)⟩ }
end

/-! ### slots wiped -/
theorem wipe_get (σ : L2.St) : ∀ (vs : List Nat) (j : Nat), (wipe σ vs)[j]? = if j ∈ vs then (if j < σ.length then some none else none) else σ[j]?
  | [], j => by simp [wipe]
  | v :: vs, j => by
    unfold wipe
    rw [List.getElem?_set, wipe_length, wipe_get σ vs j]
    by_cases h : v = j
    · subst h
      simp
    · have h' : ¬ j = v := fun z => h z.symm
      simp [h, h']
theorem wipeZ_length (l : Loc) : ∀ vs : List Nat, (wipeZ l vs).length = l.length
  | [] => rfl
  | v :: vs => by unfold wipeZ; rw [List.length_set, wipeZ_length l vs]
theorem wipeZ_get (l : Loc) : ∀ (vs : List Nat) (j : Nat), (wipeZ l vs)[j]? = if j ∈ vs then (if j < l.length then some none else none) else l[j]?
  | [], j => by simp [wipeZ]
  | v :: vs, j => by
    unfold wipeZ
    rw [List.getElem?_set, wipeZ_length, wipeZ_get l vs j]
    by_cases h : v = j
    · subst h
      simp
    · have h' : ¬ j = v := fun z => h z.symm
      simp [h, h']
theorem wipe_set {σ : L2.St} {vs : List Nat} {i : Nat} {x : Option V} (h : i ∈ vs) : wipe (σ.set i x) vs = wipe σ vs := by
  apply List.ext_getElem?
  intro j
  rw [wipe_get, wipe_get, List.length_set]
  by_cases hj : j ∈ vs
  · rw [if_pos hj, if_pos hj]
  · rw [if_neg hj, if_neg hj, List.getElem?_set_ne (fun z => hj (by rw [← z]; exact h))]
theorem wipe_idem {σ : L2.St} {vs : List Nat} : wipe (wipe σ vs) vs = wipe σ vs := by
  apply List.ext_getElem?
  intro j
  rw [wipe_get, wipe_get, wipe_length]
  by_cases hj : j ∈ vs
  · rw [if_pos hj, if_pos hj]
  · rw [if_neg hj, if_neg hj]
theorem wipe_setV {vs : List Nat} : ∀ {qs : List (Nat × V)} {σ : L2.St}, (∀ q ∈ qs, q.1 ∈ vs) → wipe (setV σ qs) vs = wipe σ vs
  | [], σ, _ => rfl
  | q :: qs, σ, h => by
    show wipe (setV (σ.set q.1 (some q.2)) qs) vs = _
    rw [wipe_setV fun p hp => h p (List.mem_cons_of_mem _ hp), wipe_set (h q List.mem_cons_self)]
section
variable {T : Tb} {K : PySem.W.Frag} {R R' : Pl} {F F' : Hp} {l : Loc} {σ : L2.St}
theorem RelE.wipe (h : RelE T K R F l σ) (vs : List Nat) : RelE T K R F (wipeZ l vs) (L2.wipe σ vs) := by
  refine ⟨by rw [wipeZ_length, wipe_length]; exact h.len, fun i v e => ?_⟩
  rw [wipeZ_get] at e
  by_cases hi : i ∈ vs
  · rw [if_pos hi] at e
    split at e <;> cases e
  · rw [if_neg hi] at e
    obtain ⟨u, h1, h2⟩ := h.at_ i v e
    exact ⟨u, by rw [wipe_get, if_neg hi]; exact h1, h2⟩
theorem RelE.mono0 (p : R.as <+: R'.as) (e : Ex F F') (h : RelE T K R F l σ) : RelE T K R' F' l σ :=
  ⟨h.len, fun i v q => let ⟨u, h1, h2⟩ := h.at_ i v q; ⟨u, h1, h2.mono0 p e⟩⟩
end

/-! ### [elt for target in iter if test] -/
def dYes : DB := fun _ S => .ok true S
def lcZ (t : TgZ) (hs : List (PV × Kd × List PV)) (c : DB) (el : DE) (l : Loc) : List PV → Sto → Out (List PV)
  | [], S => .ok [] S
  | x :: xs, S => match asg t x with
    | none => .bad
    | some ps => match c (setZ l ps) S with
      | .ok true S1 => (match el (setZ l ps) S1 with
        | .ok v S2 => if heldB hs S2 = true then (lcZ t hs c el l xs S2).bind fun r S3 => .ok (v :: r) S3 else .bad
        | _ => .bad)
      | .ok false S1 => if heldB hs S1 = true then lcZ t hs c el l xs S1 else .bad
      | _ => .bad
def dLc0 (vs : List Nat) (di : DI) (t : TgZ) (c : DB) (el : DE) : DA := fun l S => (di l S).bind fun it S1 => if heldB it.held S1 = true ∧ it.items.length ≤ 16777216 then lcZ t it.held c el (wipeZ l vs) it.items S1 else .bad
def dLc (vs : List Nat) (di : DI) (t : TgZ) (c : DB) (el : DE) : DE := fun l S => (dLc0 vs di t c el l S).bind fun xs S1 => .ok (.nd .lst xs) S1
def dLcM (vs : List Nat) (di : DI) (t : TgZ) (c : DB) (el : DE) : DE := fun l S => (dLc0 vs di t c el l S).bind fun xs S1 => .ok (.ref S1.length) (S1 ++ [some (.lst, xs)])
abbrev E00 : XS := fun _ _ _ _ => False
section
variable {T : Tb} {X : Cx} {E : XS} {pos : Pos} {elt tg iter : Expr} {ifs : List Expr} {scope : Scope} {own : List (Str × Nat)} {di : DI} {t : TgZ} {c : DB} {el : DE}
abbrev JTs (T : Tb) (X : Cx) (E : XS) (es : List Expr) (d : DB) : Prop := PTs X es (tT T X.K E d)
theorem jts_nil : JTs T X E [] dYes := ⟨fun pins s σ H Q I ⟨R, F, l, S, r, e, h⟩ => pts_nil.run pins s σ H Q I (PostB.here r h)⟩
theorem jts_one {e : Expr} (h : JT T X E e c) : JTs T X E [e] c := pts_one h
/-- what the list is to be at the end: a value that stays, or a place -/
def Fin (T : Tb) (K : PySem.W.Frag) (as : List Addr) (hid : List (Addr × HO)) (F : Hp) (D : Addr) (Q : VK) (xs : List PV) (S : Sto) : Prop :=
  ∀ as' F' H us, as <+: as' → Ex F F' → Rep T K ⟨as', (D, .lst us) :: hid⟩ F' S H → RelL T K ⟨as', hid⟩ F' xs us → Q (.ref D) H
theorem lc_ok {K : PySem.W.Frag} {vs : List Nat} (hvs : ∀ i ∈ t.slots, i ∈ vs) {σ : L2.St} {H1 : Hp} {Q : VK} {R1 : Pl} {F1 : Hp} {l : Loc} {S1 : Sto} {J : It} {it : ItZ} {D : Addr} (r1 : Rep T K R1 F1 S1 H1) (e1 : RelE T K R1 F1 l σ) (wz : WalkZ T K J R1 F1 it) (hh : heldB it.held S1 = true) (hsz : it.items.length ≤ 16777216)
    {xs : List PV} {S9 : Sto} (hl : lcZ t it.held c el (wipeZ l vs) it.items S1 = .ok xs S9) (hq : Fin T K R1.as R1.hid F1 D Q xs S9) (hD : H1 D = none) :
    ∃ W : Nat → Nat → Hp → Prop, (∃ m, W 0 m (upd H1 D (.lst []))) ∧ ∀ i m H, W i m H →
      (J.stop i H ∧ Q (.ref D) H) ∨ (J.go i H ∧ ∃ Nx : Hp → Prop, (∀ H', Nx H' → ∃ m', m' < m ∧ W (i + 1) m' H') ∧ ∀ x H', J.yld i H x H' → gOf K t x (wipe σ vs) H' fun σ2 H2 => wipe σ2 vs = wipe σ vs ∧ tT T K E00 c σ2 H2 fun b H3 =>
        if b = true then tV T K E00 el σ2 H3 fun y H4 => ∃ acc, H4 D = some (.lst acc) ∧ acc.length < sizeLine ∧ Nx (upd H4 D (.lst (acc ++ [y]))) else Nx H3) := by
  let Inn : Nat → Hp → Prop := fun i H' => ∃ as2 F2 S2 acc us rest, R1.as <+: as2 ∧ Ex F1 F2 ∧ Rep T K ⟨as2, (D, .lst us) :: R1.hid⟩ F2 S2 H' ∧ RelL T K ⟨as2, R1.hid⟩ F2 acc us ∧ heldB it.held S2 = true ∧ acc.length ≤ i ∧ lcZ t it.held c el (wipeZ l vs) (it.items.drop i) S2 = .ok rest S9 ∧ xs = acc ++ rest
  refine ⟨fun i m H' => m = it.items.length - i ∧ i ≤ it.items.length ∧ Inn i H', ⟨_, rfl, Nat.zero_le _, R1.as, F1, S1, [], [], xs, List.prefix_refl _, Ex.refl F1, r1.hide hD, .nil, hh, Nat.le_refl _, hl, rfl⟩, ?_⟩
  rintro i m H' ⟨rfl, hi, as2, F2, S2, acc, us, rest, p2, ex2, r2, ra, hh2, hacc, hr, exs⟩
  by_cases hlt : i < it.items.length
  · refine .inr ⟨wz.goes i _ F2 H' S2 hlt p2 ex2 r2 hh2, fun H3 => i + 1 ≤ it.items.length ∧ Inn (i + 1) H3, fun H3 ⟨q1, q2⟩ => ⟨it.items.length - (i + 1), by omega, rfl, q1, q2⟩, fun v H3 y => ?_⟩
    obtain ⟨F3, x, ex3, r3, hx, rv⟩ := wz.yields i _ F2 H' H3 S2 v hlt p2 ex2 r2 hh2 y
    have hdr : it.items.drop i = x :: it.items.drop (i + 1) := by
      rw [List.drop_eq_getElem_cons hlt]
      rw [List.getElem?_eq_getElem hlt] at hx
      cases hx; rfl
    rw [hdr, lcZ] at hr
    cases ha : asg t x with
    | none => rw [ha] at hr; cases hr
    | some ps =>
      rw [ha] at hr
      simp only at hr
      have e3 : RelE T K ⟨as2, (D, .lst us) :: R1.hid⟩ F3 (wipeZ l vs) (wipe σ vs) := (e1.wipe vs).mono0 p2 (ex2.trans ex3)
      refine gOf_ok r3 t x v (wipeZ l vs) (wipe σ vs) ps _ e3 rv ha fun qs hqs e4 => ⟨by rw [wipe_setV (fun q hq' => hvs q.1 (hqs q hq')), wipe_idem], ⟨_, F3, setZ (wipeZ l vs) ps, S2, r3, e4, ?_⟩⟩
      cases hc : c (setZ (wipeZ l vs) ps) S2 with
      | bad => rw [hc] at hr; cases hr
      | err z S3 => rw [hc] at hr; cases hr
      | ok b S4 =>
        rw [hc] at hr
        intro R5 F5 H5 p5 ex5 r5
        obtain ⟨as5, hid5⟩ := R5
        obtain ⟨p5a, p5b⟩ := p5
        have p5b : hid5 = (D, .lst us) :: R1.hid := p5b
        have p5a : as2 <+: as5 := p5a
        subst p5b
        cases b with
        | false =>
          simp only at hr
          split at hr
          · rename_i hh5
            exact ⟨hlt, as5, F5, S4, acc, us, rest, p2.trans p5a, (ex2.trans ex3).trans ex5, r5, ra.sh p5a (ex3.trans ex5), hh5, by omega, hr, exs⟩
          · cases hr
        | true =>
          simp only [if_true] at hr ⊢
          refine ⟨_, F5, setZ (wipeZ l vs) ps, S4, r5, e4.mono0 p5a ex5, ?_⟩
          cases hel : el (setZ (wipeZ l vs) ps) S4 with
          | bad => rw [hel] at hr; cases hr
          | err z S3 => rw [hel] at hr; cases hr
          | ok w S6 =>
            rw [hel] at hr
            simp only at hr
            intro R7 F7 H7 u7 p7 ex7 r7 rw7
            obtain ⟨as7, hid7⟩ := R7
            obtain ⟨p7a, p7b⟩ := p7
            have p7b : hid7 = (D, .lst us) :: R1.hid := p7b
            have p7a : as5 <+: as7 := p7a
            subst p7b
            split at hr
            · rename_i hh7
              have d7 := (r7.hid (D, .lst us) List.mem_cons_self).1
              have lus : us.length = acc.length := ra.length
              refine ⟨us, d7, by rw [sizeLine_eq, lus]; omega, hlt, ?_⟩
              cases hrest : lcZ t it.held c el (wipeZ l vs) (it.items.drop (i + 1)) S6 with
              | bad => rw [hrest] at hr; cases hr
              | err z S3 => rw [hrest] at hr; cases hr
              | ok rest' S8 =>
                rw [hrest] at hr
                cases hr
                refine ⟨as7, F7, S6, acc ++ [w], us ++ [u7], rest', (p2.trans p5a).trans p7a, ((ex2.trans ex3).trans ex5).trans ex7, r7.rehide, ?_, hh7, ?_, hrest, ?_⟩
                · exact (ra.sh (p5a.trans p7a) ((ex3.trans ex5).trans ex7)).append (.cons (rw7.sh (List.prefix_refl _) (Ex.refl F7)) .nil)
                · rw [List.length_append, List.length_singleton]; omega
                · rw [exs, List.append_assoc]; rfl
            · cases hr
  · have e' : i = it.items.length := by omega
    subst e'
    rw [List.drop_length, lcZ] at hr
    cases hr
    rw [List.append_nil] at exs
    subst exs
    exact .inl ⟨wz.stops _ F2 H' S9 p2 ex2 r2 hh2, hq as2 F2 H' us p2 ex2 r2 ra⟩
/-- the reading of a comprehension -/
theorem lc_t {vs : List Nat} (hvs : ∀ i ∈ t.slots, i ∈ vs) {k : List PV → Sto → Out PV} {σ : L2.St} {H : Hp} {Q : VK} (h : tV T X.K E (fun l S => (dLc0 vs di t c el l S).bind k) σ H Q)
    (hk : ∀ (xs : List PV) (S : Sto) (R : Pl) (F : Hp) (D : Addr), OkV T X.K R F (k xs S) Q (E σ) → Fin T X.K R.as R.hid F D Q xs S) : tLc (tI T X.K E di) (gOf X.K t) (tT T X.K E00 c) (tV T X.K E00 el) vs σ H Q := by
  obtain ⟨R, F, l, S, r, e, h⟩ := h
  refine ⟨R, F, l, S, r, e, ?_⟩
  have h : OkV T X.K R F (((di l S).bind fun it S1 => if heldB it.held S1 = true ∧ it.items.length ≤ 16777216 then lcZ t it.held c el (wipeZ l vs) it.items S1 else .bad).bind k) Q (E σ) := h
  cases hd : di l S with
  | bad => rw [hd] at h; exact h.elim
  | err x S1 => rw [hd] at h; exact h
  | ok it S1 =>
    rw [hd] at h
    intro R1 F1 H1 J p ex r1 wz D hD
    have h : OkV T X.K R F ((if heldB it.held S1 = true ∧ it.items.length ≤ 16777216 then lcZ t it.held c el (wipeZ l vs) it.items S1 else .bad).bind k) Q (E σ) := h
    split at h
    · rename_i hh
      cases hl : lcZ t it.held c el (wipeZ l vs) it.items S1 with
      | ok xs S9 =>
        rw [hl] at h
        exact lc_ok hvs r1 (e.mono p ex) wz hh.1 hh.2 hl (hk xs S9 R1 F1 D (OkV.mono p ex h)) hD
      | err z S9 =>
        exfalso
        have noerr : ∀ (ys : List PV) (S : Sto) (z : XV) (S' : Sto), lcZ t it.held c el (wipeZ l vs) ys S ≠ .err z S' := by
          intro ys
          induction ys with
          | nil => intro S z S' q; cases q
          | cons y ys ih =>
            intro S z S' q
            rw [lcZ] at q
            split at q
            · cases q
            · split at q
              · split at q
                · split at q
                  · rename_i v S2 _ _
                    cases hh : lcZ t it.held c el (wipeZ l vs) ys S2 with
                    | err z' S3 => exact ih S2 z' S3 hh
                    | ok _ _ => rw [hh] at q; cases q
                    | bad => rw [hh] at q; cases q
                  · cases q
                · cases q
              · split at q
                · exact ih _ _ _ q
                · cases q
              · cases q
        exact noerr _ _ _ _ hl
      | bad => rw [hl] at h; exact h.elim
    · exact h.elim
theorem fin_nd {E : XK} {K : PySem.W.Frag} {xs : List PV} {S : Sto} {R : Pl} {F : Hp} {D : Addr} {Q : VK} (h : OkV T K R F (.ok (.nd .lst xs) S) Q E) : Fin T K R.as R.hid F D Q xs S := by
  intro as' F' H us p ex r rx
  obtain ⟨e1, r1⟩ := r.bare
  refine h ⟨as', R.hid⟩ _ H _ ⟨p, rfl⟩ (ex.trans e1) r1 ?_
  rw [Rel]
  exact ⟨D, us, rfl, upd_same, rx.sh (List.prefix_refl _) e1⟩
theorem fin_rf {E : XK} {K : PySem.W.Frag} {xs : List PV} {S : Sto} {R : Pl} {F : Hp} {D : Addr} {Q : VK} (h : OkV T K R F (.ok (.ref S.length) (S ++ [some (.lst, xs)])) Q E) : Fin T K R.as R.hid F D Q xs S := by
  intro as' F' H us p ex r rx
  refine h ⟨as' ++ [D], R.hid⟩ F' H _ ⟨p.trans (List.prefix_append _ _), rfl⟩ ex (r.bareM rx) ?_
  rw [Rel]
  have hlen : as'.length = S.length := r.len
  exact ⟨D, rfl, by show (as' ++ [D])[S.length]? = _; rw [← hlen, List.getElem?_append_right (Nat.le_refl _)]; simp⟩
/-- the block's derivations, in every block of this def -/
structure Blk (T : Tb) (X : Cx) (scope : Scope) (tg : Expr) (ifs : List Expr) (elt : Expr) (t : TgZ) (c : DB) (el : DE) : Prop where
  tg : ∀ (s : Shared) (H : Hp) (C : Addr) (cl : List (Str × Addr)) (fp : List Addr), JG (X.blk s H scope (compEnvC scope cl C X.env) fp) tg t
  ts : ∀ (s : Shared) (H : Hp) (C : Addr) (cl : List (Str × Addr)) (fp : List Addr), JTs T (X.blk s H scope (compEnvC scope cl C X.env) fp) E00 ifs c
  el : ∀ (s : Shared) (H : Hp) (C : Addr) (cl : List (Str × Addr)) (fp : List Addr), JE T (X.blk s H scope (compEnvC scope cl C X.env) fp) E00 elt el
theorem je_lc (own : List (Str × Nat)) (hc : X.calm = true) (hN : X.N.Nodup) (hi : JI T X E tg iter di) (hb : Blk T X scope tg ifs elt t c el) (ok : BlkOk X.N X.env.scope scope own) (hvs : ∀ i ∈ t.slots, i ∈ own.map (·.2) := by decide)
    (hs : ∀ x, foldedSetIterable iter X.env x = pure x := by intro _; rfl) : JE T X E (.ListComp elt [⟨tg, iter, ifs, 0⟩] scope pos) (dLc (own.map (·.2)) di t c el) :=
  pe_imp (pe_lc hc hN hi ok hb.tg hb.ts hb.el hs) fun σ H Q h => lc_t hvs h fun xs S R F D h => fin_nd h
theorem je_lcM (own : List (Str × Nat)) (hc : X.calm = true) (hN : X.N.Nodup) (hi : JI T X E tg iter di) (hb : Blk T X scope tg ifs elt t c el) (ok : BlkOk X.N X.env.scope scope own) (hvs : ∀ i ∈ t.slots, i ∈ own.map (·.2) := by decide)
    (hs : ∀ x, foldedSetIterable iter X.env x = pure x := by intro _; rfl) : JE T X E (.ListComp elt [⟨tg, iter, ifs, 0⟩] scope pos) (dLcM (own.map (·.2)) di t c el) :=
  pe_imp (pe_lc hc hN hi ok hb.tg hb.ts hb.el hs) fun σ H Q h => lc_t hvs h fun xs S R F D h => fin_rf h
theorem asg_st {d : DE} {i : Nat} {D : Ends} {σ : L2.St} {H : Hp} (h : tS T X.K E (dSet i d) D σ H) : tV T X.K E d σ H fun x H1 => gName i x σ H1 D.nx := by
  obtain ⟨R, F, l, S, r, e, h⟩ := h
  exact st_v r e h fun x S1 R1 F1 H1 u p ex r1 rx e1 h1 => PostE.here r1 (e1.set i rx) h1
theorem js_setLc (i : Nat) (own : List (Str × Nat)) {y : Str} {py spos : Pos} (hc : X.calm = true) (hN : X.N.Nodup) (hi : JI T X E tg iter di) (hb : Blk T X scope tg ifs elt t c el) (ok : BlkOk X.N X.env.scope scope own) (hy : X.N[i]? = some y := by rfl) (hyl : X.env.scope.names.lookup y = some .local := by rfl)
    (hsw : swapsWith (.ListComp elt [⟨tg, iter, ifs, 0⟩] scope pos) (some (.Name y py)) spos.line X.env = pure true := by rfl) (hvs : ∀ i ∈ t.slots, i ∈ own.map (·.2) := by decide)
    (hs : ∀ x, foldedSetIterable iter X.env x = pure x := by intro _; rfl) : JS T X E (.Assign [.Name y py] (.ListComp elt [⟨tg, iter, ifs, 0⟩] scope pos) spos) (dSet i (dLc (own.map (·.2)) di t c el)) :=
  ps_imp (ps_setLc hc hN hy hyl hsw hi ok hb.tg hb.ts hb.el hs) fun D σ H h => lc_t hvs (asg_st h) fun xs S R F D h => fin_nd h
theorem js_setLcM (i : Nat) (own : List (Str × Nat)) {y : Str} {py spos : Pos} (hc : X.calm = true) (hN : X.N.Nodup) (hi : JI T X E tg iter di) (hb : Blk T X scope tg ifs elt t c el) (ok : BlkOk X.N X.env.scope scope own) (hy : X.N[i]? = some y := by rfl) (hyl : X.env.scope.names.lookup y = some .local := by rfl)
    (hsw : swapsWith (.ListComp elt [⟨tg, iter, ifs, 0⟩] scope pos) (some (.Name y py)) spos.line X.env = pure true := by rfl) (hvs : ∀ i ∈ t.slots, i ∈ own.map (·.2) := by decide)
    (hs : ∀ x, foldedSetIterable iter X.env x = pure x := by intro _; rfl) : JS T X E (.Assign [.Name y py] (.ListComp elt [⟨tg, iter, ifs, 0⟩] scope pos) spos) (dSet i (dLcM (own.map (·.2)) di t c el)) :=
  ps_imp (ps_setLc hc hN hy hyl hsw hi ok hb.tg hb.ts hb.el hs) fun D σ H h => lc_t hvs (asg_st h) fun xs S R F D h => fin_rf h
end
end Z
end
end
section
set_option Elab.async false
set_option linter.all false
set_option maxRecDepth 100000
set_option maxHeartbeats 1000000
/-! ZF: defs. -/
noncomputable section
namespace Z
open PySem PySem.Spec PyProof.Rows L2

/-! ### what a def leaves behind: its own places are closed -/
mutual
def fits (n : Nat) : PV → Bool
  | .ref m => decide (m < n)
  | .nd _ xs => fitsL n xs
  | _ => true
def fitsL (n : Nat) : List PV → Bool
  | [] => true
  | x :: xs => fits n x && fitsL n xs
end
def optMap (g : PV → Option PV) : List PV → Option (List PV)
  | [] => some []
  | x :: xs => (g x).bind fun y => (optMap g xs).map fun ys => y :: ys
def thaw : Nat → Nat → Sto → PV → Option PV
  | 0, _, _, _ => none
  | f + 1, n, S, .ref m => if m < n then some (.ref m) else match S[m]? with
    | some (some (k, xs)) => (optMap (thaw f n S) xs).map fun ys => .nd k ys
    | _ => none
  | f + 1, n, S, .nd k xs => if fitsL n xs = true then some (.nd k xs) else (optMap (thaw f n S) xs).map fun ys => .nd k ys
  | _ + 1, _, _, x => some x
def fitsO (n : Nat) (o : Option (Kd × List PV)) : Bool := match o with
  | some (_, xs) => fitsL n xs
  | none => true
/-- the old places are as they were, or they look at one another alone -/
def fitsS (S S1 : Sto) : Bool := (List.range S.length).all fun i => decide (S1[i]? = S[i]?) || (match S1[i]? with
  | some o => fitsO S.length o
  | none => false)
theorem fitsS_iff {S S1 : Sto} : fitsS S S1 = true ↔ ∀ i, i < S.length → S1[i]? = S[i]? ∨ ∃ o, S1[i]? = some o ∧ fitsO S.length o = true := by
  unfold fitsS
  rw [List.all_eq_true]
  constructor
  · intro h i hi
    have := h i (List.mem_range.mpr hi)
    rw [Bool.or_eq_true] at this
    rcases this with h1 | h1
    · exact .inl (of_decide_eq_true h1)
    · split at h1
      · rename_i o ho
        exact .inr ⟨o, ho, h1⟩
      · cases h1
  · intro h i hi
    rw [Bool.or_eq_true]
    rcases h i (List.mem_range.mp hi) with h1 | ⟨o, h1, h2⟩
    · exact .inl (decide_eq_true h1)
    · exact .inr (by rw [h1]; exact h2)
def shut (S : Sto) (o : Out PV) : Out PV := match o with
  | .ok v S1 => if S1.length ≤ S.length then .ok v S1 else match thaw 12 S.length S1 v with
    | some w => if fitsS S S1 = true then .ok w (S1.take S.length) else .bad
    | none => .bad
  | .err e S1 => if S1.length ≤ S.length then .err e S1 else match optMap (thaw 12 S.length S1) e.xs with
    | some ws => if fitsS S S1 = true then .err ⟨e.c, e.fs, ws⟩ (S1.take S.length) else .bad
    | none => .bad
  | .bad => .bad
section
variable {T : Tb} {K : PySem.W.Frag} {R : Pl} {F H : Hp} {S : Sto} {n : Nat}
open Classical in
/-- the places from n on, closed -/
def melt (R : Pl) (S : Sto) (n : Nat) (F H : Hp) : Hp := fun b => if ∃ m k xs, n ≤ m ∧ R.as[m]? = some b ∧ S[m]? = some (some (k, xs)) then H b else F b
theorem melt_ex (r : Rep T K R F S H) : Ex F (melt R S n F H) := fun a u e => by
  unfold melt
  split
  · exact r.ex a u e
  · exact .inl e
theorem melt_in {m : Nat} {a : Addr} {k : Kd} {xs : List PV} (hm : n ≤ m) (h1 : R.as[m]? = some a) (h2 : S[m]? = some (some (k, xs))) : melt R S n F H a = H a := by
  unfold melt
  rw [if_pos ⟨m, k, xs, hm, h1, h2⟩]
theorem Liv.melt (r : Rep T K R F S H) {m : Nat} {a : Addr} {k : Kd} {xs : List PV} {us : List V} (hm : n ≤ m) (h1 : R.as[m]? = some a) (h2 : S[m]? = some (some (k, xs))) (h : Liv T K H a k us) : Shp T K (melt R S n F H) a k us := by
  have e := melt_in (F := F) (H := H) hm h1 h2
  cases k with
  | tup => exact h.elim
  | scr => exact h.elim
  | lst => exact e.trans h
  | dct t ks => cases t <;> (obtain ⟨q1, kk, q2, q3⟩ := h; exact ⟨q1, kk, q2, .inl (e.trans q3)⟩)
  | ins c fs => obtain ⟨q1, dx, q2⟩ := h; exact ⟨q1, dx, e.trans q2⟩
  | exn c fs => exact h.elim
  | clo a0 c0 q0 us0 => exact h.elim
mutual
theorem fits_rel (r : Rep T K R F S H) : ∀ (x : PV) (u : V), fits n x = true → Rel T K R F x u → Rel T K ⟨R.as.take n, R.hid⟩ (melt R S n F H) x u
  | .non, u, _, h => by rw [Rel] at h ⊢; exact h
  | .bl b, u, _, h => by rw [Rel] at h ⊢; exact h
  | .int i, u, _, h => by rw [Rel] at h ⊢; exact h
  | .str s, u, _, h => by rw [Rel] at h ⊢; exact h
  | .ty n, u, _, h => by rw [Rel] at h ⊢; exact h
  | .cls c, u, _, h => by rw [Rel] at h ⊢; exact h
  | .ref m, u, f, h => by
    rw [fits] at f
    have f := of_decide_eq_true f
    rw [Rel] at h ⊢
    obtain ⟨a, h1, h2⟩ := h
    exact ⟨a, h1, by rw [List.getElem?_take_of_lt f]; exact h2⟩
  | .nd k xs, u, f, h => by
    rw [fits] at f
    rw [Rel] at h ⊢
    obtain ⟨a, us, h1, h2, h3⟩ := h
    exact ⟨a, us, h1, h2.mono (melt_ex r), fitsL_rel r xs us f h3⟩
theorem fitsL_rel (r : Rep T K R F S H) : ∀ (xs : List PV) (us : List V), fitsL n xs = true → RelL T K R F xs us → RelL T K ⟨R.as.take n, R.hid⟩ (melt R S n F H) xs us
  | [], us, _, h => by rw [RelL] at h ⊢; exact h
  | x :: xs, us, f, h => by
    rw [fitsL, Bool.and_eq_true] at f
    rw [RelL] at h ⊢
    obtain ⟨u, vs, h1, h2, h3⟩ := h
    exact ⟨u, vs, h1, fits_rel r x u f.1 h2, fitsL_rel r xs vs f.2 h3⟩
end
theorem optMap_rel {R' : Pl} {F' : Hp} {g : PV → Option PV} (hg : ∀ x y u, g x = some y → Rel T K R F x u → Rel T K R' F' y u) : ∀ (xs ys : List PV) (us : List V), optMap g xs = some ys → RelL T K R F xs us → RelL T K R' F' ys us
  | [], ys, us, h, r => by cases h; rw [RelL] at r ⊢; exact r
  | x :: xs, ys, us, h, r => by
    rw [optMap, Option.bind_eq_some_iff] at h
    obtain ⟨y, h1, h2⟩ := h
    rw [Option.map_eq_some_iff] at h2
    obtain ⟨ys', h3, rfl⟩ := h2
    rw [RelL] at r ⊢
    obtain ⟨u, vs, e, r1, r2⟩ := r
    exact ⟨u, vs, e, hg x y u h1 r1, optMap_rel hg xs ys' vs h3 r2⟩
theorem thaw_rel (r : Rep T K R F S H) : ∀ (f : Nat) (x y : PV) (u : V), thaw f n S x = some y → Rel T K R F x u → Rel T K ⟨R.as.take n, R.hid⟩ (melt R S n F H) y u
  | 0, x, y, u, h, _ => by cases h
  | f + 1, x, y, u, h, hr => by
    cases x with
    | ref m =>
      rw [thaw] at h
      split at h
      · rename_i hm
        cases h
        exact fits_rel r (.ref m) u (by rw [fits]; exact decide_eq_true hm) hr
      · rename_i hm
        split at h
        · rename_i k xs hS
          rw [Option.map_eq_some_iff] at h
          obtain ⟨ys, h1, rfl⟩ := h
          rw [Rel] at hr
          obtain ⟨a, rfl, ha⟩ := hr
          obtain ⟨_, us, hl, hx⟩ := r.live m a k xs ha hS
          rw [Rel]
          exact ⟨a, us, rfl, hl.melt r (by omega) ha hS, optMap_rel (thaw_rel r f) xs ys us h1 hx⟩
        · cases h
    | nd k xs =>
      rw [thaw] at h
      split at h
      · rename_i hf
        cases h
        exact fits_rel r (.nd k xs) u (by rw [fits]; exact hf) hr
      · rw [Option.map_eq_some_iff] at h
        obtain ⟨ys, h1, rfl⟩ := h
        rw [Rel] at hr ⊢
        obtain ⟨a, us, e, h2, h3⟩ := hr
        exact ⟨a, us, e, h2.mono (melt_ex r), optMap_rel (thaw_rel r f) xs ys us h1 h3⟩
    | _ => cases h; exact fits_rel r _ u (by rfl) hr
theorem Rep.shut (r : Rep T K R F S H) (hf : ∀ m k xs, m < n → S[m]? = some (some (k, xs)) → fitsL n xs = true) : Rep T K ⟨R.as.take n, R.hid⟩ (melt R S n F H) (S.take n) H where
  ex := fun a u e => by
    unfold melt at e
    split at e
    · exact .inl e
    · exact r.ex a u e
  len := by
    show (R.as.take n).length = _
    rw [List.length_take, List.length_take, r.len]
  nd := r.nd.sublist (List.take_sublist _ _)
  there := fun a ha => r.there a (List.mem_of_mem_take ha)
  hidt := r.hidt
  ntb := fun a ps e => by
    unfold melt at e
    split at e
    · rename_i q
      obtain ⟨m, k, xs, _, q1, q2⟩ := q
      obtain ⟨_, us, h4, _⟩ := r.live m a k xs q1 q2
      obtain ⟨u, h5, h6⟩ := h4.plain
      rw [h5] at e; cases e; cases h6
    · exact r.ntb a ps e
  tabs := r.tabs
  hidnd := r.hidnd
  hid := fun q hq => by
    obtain ⟨h1, h2, h3⟩ := r.hid q hq
    refine ⟨h1, fun z => h2 (List.mem_of_mem_take z), ?_⟩
    unfold melt
    rw [if_neg]
    · exact h3
    · rintro ⟨m, k, xs, _, z, _⟩
      exact h2 (List.mem_of_getElem? z)
  live := fun m a k xs h1 h2 => by
    have hm : m < n := by
      have := (List.getElem?_eq_some_iff.mp h2).1
      rw [List.length_take] at this
      omega
    have h1 : (R.as.take n)[m]? = some a := h1
    rw [List.getElem?_take_of_lt hm] at h1 h2
    obtain ⟨h3, us, h4, h5⟩ := r.live m a k xs h1 h2
    have hfx : fitsL n xs = true := hf m k xs hm h2
    refine ⟨?_, us, h4, fitsL_rel r xs us hfx h5⟩
    unfold melt
    rw [if_neg]
    · exact h3
    · rintro ⟨m', k', xs', hge, z, _⟩
      have := (List.getElem?_inj (List.getElem?_eq_some_iff.mp h1).1 r.nd).mp (h1.trans z.symm)
      omega
mutual
theorem rel_fits : ∀ (x : PV) (u : V), Rel T K R F x u → fits R.as.length x = true
  | .non, u, h => by rfl
  | .bl b, u, h => by rfl
  | .int i, u, h => by rfl
  | .str s, u, h => by rfl
  | .ty n, u, h => by rfl
  | .cls c, u, h => by rfl
  | .ref m, u, h => by
    rw [Rel] at h
    obtain ⟨a, h1, h2⟩ := h
    rw [fits]
    exact decide_eq_true (List.getElem?_eq_some_iff.mp h2).1
  | .nd k xs, u, h => by
    rw [Rel] at h
    obtain ⟨a, us, h1, h2, h3⟩ := h
    rw [fits]
    exact rel_fitsL xs us h3
theorem rel_fitsL : ∀ (xs : List PV) (us : List V), RelL T K R F xs us → fitsL R.as.length xs = true
  | [], us, h => by rfl
  | x :: xs, us, h => by
    rw [RelL] at h
    obtain ⟨u, vs, h1, h2, h3⟩ := h
    rw [fitsL, rel_fits x u h2, rel_fitsL xs vs h3]; rfl
end
theorem fitsS_all (r : Rep T K R F S H) {S1 : Sto} (h : fitsS S S1 = true) : ∀ m k xs, m < S.length → S1[m]? = some (some (k, xs)) → fitsL S.length xs = true := fun m k xs hm e => by
  rcases fitsS_iff.mp h m hm with q | ⟨o, q1, q2⟩
  · rw [e] at q
    have hm' : m < R.as.length := by rw [r.len]; exact hm
    have ha : R.as[m]? = some R.as[m] := List.getElem?_eq_getElem hm'
    obtain ⟨_, us, _, hx⟩ := r.live m _ k xs ha q.symm
    have := rel_fitsL xs us hx
    rw [r.len] at this
    exact this
  · rw [e] at q1
    cases q1
    exact q2
theorem take_pl {R R' : Pl} (p : Pl.le R R') : (⟨R'.as.take R.as.length, R'.hid⟩ : Pl) = R := by
  obtain ⟨⟨t, e⟩, h⟩ := p
  rw [← e, h, List.take_left]
theorem shut_ok {E : XK} {Q : VK} {o : Out PV} (r0 : Rep T K R F S H) (h : OkV T K R F (shut S o) Q E) : OkV T K R F o Q E := by
  have hlen := r0.len
  cases o with
  | ok v S1 =>
    unfold Z.shut at h
    simp only at h
    split at h
    · exact h
    · split at h
      · rename_i w hw
        split at h
        · rename_i hf
          intro R' F' H u p ex r rv
          have r2 := r.shut (fitsS_all r0 hf)
          have rv2 := thaw_rel r 12 v w u hw rv
          rw [← hlen, take_pl p] at r2 rv2
          refine h R _ H u (Pl.refl R) (ex.trans (melt_ex r)) ?_ rv2
          rw [← hlen]; exact r2
        · exact h.elim
      · exact h.elim
  | err e S1 =>
    unfold Z.shut at h
    simp only at h
    split at h
    · exact h
    · split at h
      · rename_i ws hw
        split at h
        · rename_i hf
          intro R' F' H cls d p ex r rx
          have r2 := r.shut (fitsS_all r0 hf)
          rw [← hlen, take_pl p] at r2
          refine h R (melt R' S1 R.as.length F' H) H cls d (Pl.refl R) (ex.trans (melt_ex r)) (by rw [← hlen]; exact r2) ?_
          obtain ⟨h1, h2⟩ := rx
          refine ⟨h1, h2.imp (fun z => z) ?_⟩
          rintro ⟨dd, us, e1, e2, e3, e4, e5⟩
          refine ⟨dd, us, e1, ?_, e3, e4, ?_⟩
          · unfold melt
            rw [if_neg]
            · exact e2
            · rintro ⟨m, k, xs, _, z1, z2⟩
              obtain ⟨_, us', hl, _⟩ := r.live m dd k xs z1 z2
              cases k with
              | tup => exact hl
              | scr => exact hl
              | lst => have hl : H dd = _ := hl; rw [e3] at hl; cases hl
              | dct t ks => cases t <;> (obtain ⟨_, kk, _, q3⟩ := hl; rw [e3] at q3; cases q3)
              | ins c fs => obtain ⟨_, dx, q3⟩ := hl; rw [e3] at q3; cases q3
              | exn c fs => exact hl
              | clo a0 c0 q0 us0 => exact hl
          · have := optMap_rel (thaw_rel r 12) e.xs ws us (by rw [← hlen] at hw; exact hw) e5
            rw [take_pl p] at this
            exact this
        · exact h.elim
      · exact h.elim
  | bad => exact h.elim
end

/-! ### a def by its body -/
def dDef0 (n m : Nat) (b : DS) : DF := fun xs S => if xs.length = n then (match b (xs.map some ++ List.replicate (m - n) none) S with
  | .nx _ S1 => .ok .non S1
  | .ret v S1 => .ok v S1
  | .err e _ S1 => .err e S1
  | _ => .bad) else .bad
def dDef (n m : Nat) (b : DS) : DF := fun xs S => shut S (dDef0 n m b xs S)
structure FnG (T : Tb) (P : Program) (w : World) (K : PySem.W.Frag) (mg : Str → Option Value) (base : Heap) (k : Nat) (f : Addr) (fd : FuncData) (ps : List Str) (d : DF) : Prop where
  run : ∀ (A : Around) (outer : List Env) (s : Shared) (H : Hp) (args : Args) (us : List Value) (vs : List V) (Q : VK) (E : XK), Room k A → A.guards = some [] → Env0 P w K mg base A outer s H → BindsTo s fd args (ps.zip us) → Vals vs us → spOf T K ps.length d vs H Q E →
    codeAny (model P w) A (.call (.ref f) args) (CR (L2.CX P w) outer P w H s Q E) s
theorem FnG.mono {T : Tb} {P : Program} {w : World} {K : PySem.W.Frag} {mg : Str → Option Value} {base : Heap} {j k : Nat} {f : Addr} {fd : FuncData} {ps : List Str} {d : DF} (g : FnG T P w K mg base j f fd ps d) (h : j ≤ k) : FnG T P w K mg base k f fd ps d :=
  ⟨fun A outer s H args us vs Q E hr => g.run A outer s H args us vs Q E (hr.mono h)⟩
theorem rel_start {T : Tb} {K : PySem.W.Frag} {R : Pl} {F : Hp} {N : List Str} {xs : List PV} {vs : List V} (h : RelL T K R F xs vs) : RelE T K R F (xs.map some ++ List.replicate (N.length - xs.length) none) (L2.start N vs) := by
  have hl := h.length
  unfold L2.start
  refine ⟨by simp [hl], fun i v e => ?_⟩
  by_cases hi : i < xs.length
  · rw [List.getElem?_append_left (by simpa using hi), List.getElem?_map] at e
    rw [List.getElem?_eq_getElem hi] at e
    cases e
    obtain ⟨u, h1, h2⟩ := h.get (List.getElem?_eq_getElem hi)
    refine ⟨u, ?_, h2⟩
    rw [List.getElem?_append_left (by rw [List.length_map, hl]; exact hi), List.getElem?_map, h1]; rfl
  · rw [List.getElem?_append_right (by simp; omega), List.getElem?_replicate] at e
    split at e <;> cases e
section
variable {T : Tb} {P : Program} {w : World} {K : PySem.W.Frag} {mg : Str → Option Value} {base : Heap} {x qual : Str} {params : Arguments} {body : List Stmt} {scope : Scope} {dvs : List V} {kws : List (Str × V)} {f : Addr} {fd : FuncData} {N ps : List Str} {k : Nat} {b : DS}
theorem def_ok0 {vs : List V} {H : Hp} {Q : VK} {E : XK} (h : spOf T K ps.length (dDef0 ps.length N.length b) vs H Q E) : tS T K (fun _ => E) b { nx := fun _ H' => Q .non H', rt := Q } (L2.start N vs) H := by
  obtain ⟨hl, R, F, S, xs, r, rx, h⟩ := h
  have hx : xs.length = ps.length := by rw [← rx.length]; exact hl
  unfold dDef0 at h
  rw [if_pos hx] at h
  refine ⟨R, F, _, S, r, rel_start rx, ?_⟩
  rw [hx]
  cases hb : b (xs.map some ++ List.replicate (N.length - ps.length) none) S with
  | nx l1 S1 =>
    rw [hb] at h
    exact fun R1 F1 H1 σ p ex r1 _ => h R1 F1 H1 .non p ex r1 (by rw [Rel])
  | ret v S1 => rw [hb] at h; exact h
  | err e l1 S1 => rw [hb] at h; exact fun R' F' H' σ' cls d p x r1 _ rx1 => h R' F' H' cls d p x r1 rx1
  | brk l1 S1 => rw [hb] at h; exact h.elim
  | cnt l1 S1 => rw [hb] at h; exact h.elim
  | bad => rw [hb] at h; exact h.elim
theorem def_ok {vs : List V} {H : Hp} {Q : VK} {E : XK} (h : spOf T K ps.length (dDef ps.length N.length b) vs H Q E) : tS T K (fun _ => E) b { nx := fun _ H' => Q .non H', rt := Q } (L2.start N vs) H := by
  obtain ⟨hl, R, F, S, xs, r, rx, h⟩ := h
  exact def_ok0 ⟨hl, R, F, S, xs, r, rx, shut_ok r h⟩
/-- the code of the function at f -/
def codeOf (K : PySem.W.Frag) (f : Addr) : Value := match K.lookup f with
  | some ⟨_, _, .func fd, _⟩ => fd.code
  | _ => .none
theorem fng_of_ok {d : DF} (hd : ∀ (vs : List V) (H : Hp) (Q : VK) (E : XK), spOf T K ps.length d vs H Q E → tS T K (fun _ => E) b { nx := fun _ H' => Q .non H', rt := Q } (L2.start N vs) H) (G : FunD K x qual params body scope dvs kws f fd) (S : FnScope N ps scope)
    (hb : ∀ (cdv : Value) (_ : codeOf K f = cdv) (A : Around) (outer : List Env) (s : Shared) (H : Hp) (E : XK), Cg (cxOf (L2.CX P w) P w K mg base N qual scope f cdv A outer s H E) (fun _ => E) k → JB T (cxOf (L2.CX P w) P w K mg base N qual scope f cdv A outer s H E) (fun _ => E) body b) :
    FnG T P w K mg base (k + 1) f fd ps d := by
  obtain ⟨oc, od, dV, kV, doc, pm, an, cdv, ct, osl, rfl, lk, hcd, _, _⟩ := G.ex
  refine ⟨fun A outer s H args us vs Q E hr hgd e0 hbi r hsp => ?_⟩
  have hlen : vs.length = ps.length := hsp.1
  have inK : K.In s.heap := e0.mod.kin.keeps fun b o e => (e0.bs b o e).1
  have nolim : s.heap.NoLimit := e0.mod.nolimit.keeps fun b o e => (e0.bs b o e).1
  have kinds : ∀ y ∈ ps.zip us, scope.names.lookup y.1 = some .local ∨ (scope.names.lookup y.1 = some .cell ∧ ((cellsFrom (s.heap.objs.size + 1) scope.names []).lookup y.1).isSome = true) := fun y hy => by
    rcases S.par y.1 (List.of_mem_zip (a := y.1) (b := y.2) hy).1 with q | q
    · exact .inl q
    · exact .inr ⟨q, PySem.W.cellsFrom_some _ _ _ (.inl q)⟩
  refine codeAny_call_function hr.depth (inK _ _ lk) rfl S.co S.gen rfl (PySem.W.codeRec_of inK hcd) (hbi _ _ _ _ ?_)
  refine wpAny_newFunctionEnv_cells S.kind kinds fun env he s1 xc => ?_
  subst he
  refine ⟨nolim.keeps xc.toInCall.keep, codeAny_func ?_⟩
  have I : Inv (cxOf (L2.CX P w) P w K mg base N qual scope f cdv A outer s H E) [] (L2.start N vs) H s1 := inv_start S hr.hd e0 hlen r xc
  have cg : Cg (cxOf (L2.CX P w) P w K mg base N qual scope f cdv A outer s H E) (fun _ => E) k :=
    ⟨rfl, S.nd, hr.deeper _, hgd, takes_of rfl rfl rfl rfl, passes_of rfl⟩
  have hcode : codeOf K f = cdv := by unfold codeOf; rw [lk]
  have ht := (hb cdv hcode A outer s H E cg).run [] s1 (L2.start N vs) H _ I (hd _ _ _ _ hsp)
  refine wpAny_mono ht (fun fl s' hs => ?_) fun e s' hs => hs
  have fin : ∀ {σ' : L2.St} {H' : Hp} {v : V} {u : Value}, Inv (cxOf (L2.CX P w) P w K mg base N qual scope f cdv A outer s H E) [] σ' H' s' → RelV v u → Q v H' → CE outer P w H s Q u s' :=
    fun {σ' H' v u} J rv q => ⟨v, H', J.os, J.bare, J.base, J.hok, rv, q⟩
  cases fl with
  | next =>
    obtain ⟨σ', H', J, q⟩ := hs
    exact fin (v := V.non) (u := Value.none) J rfl q
  | ret u =>
    obtain ⟨v, σ', H', J, rv, q⟩ := hs
    exact fin J rv q
  | brk => obtain ⟨_, _, _, q⟩ := hs; exact False.elim q
  | cont => obtain ⟨_, _, _, q⟩ := hs; exact False.elim q
theorem fng_of (G : FunD K x qual params body scope dvs kws f fd) (S : FnScope N ps scope)
    (hb : ∀ (cdv : Value) (_ : codeOf K f = cdv) (A : Around) (outer : List Env) (s : Shared) (H : Hp) (E : XK), Cg (cxOf (L2.CX P w) P w K mg base N qual scope f cdv A outer s H E) (fun _ => E) k → JB T (cxOf (L2.CX P w) P w K mg base N qual scope f cdv A outer s H E) (fun _ => E) body b) :
    FnG T P w K mg base (k + 1) f fd ps (dDef ps.length N.length b) := fng_of_ok (fun _ _ _ _ h => def_ok h) G S hb
end

/-- the same of a def whose new places stay -/
theorem fng_of0 {T : Tb} {P : Program} {w : World} {K : PySem.W.Frag} {mg : Str → Option Value} {base : Heap} {x qual : Str} {params : Arguments} {body : List Stmt} {scope : Scope} {dvs : List V} {kws : List (Str × V)} {f : Addr} {fd : FuncData} {N ps : List Str} {k : Nat} {b : DS}
    (G : FunD K x qual params body scope dvs kws f fd) (S : FnScope N ps scope)
    (hb : ∀ (cdv : Value) (_ : codeOf K f = cdv) (A : Around) (outer : List Env) (s : Shared) (H : Hp) (E : XK), Cg (cxOf (L2.CX P w) P w K mg base N qual scope f cdv A outer s H E) (fun _ => E) k → JB T (cxOf (L2.CX P w) P w K mg base N qual scope f cdv A outer s H E) (fun _ => E) body b) :
    FnG T P w K mg base (k + 1) f fd ps (dDef0 ps.length N.length b) := fng_of_ok (fun _ _ _ _ h => def_ok0 h) G S hb
theorem fng_bad {T : Tb} {P : Program} {w : World} {K : PySem.W.Frag} {mg : Str → Option Value} {base : Heap} {k : Nat} {f : Addr} {fd : FuncData} {ps : List Str} : FnG T P w K mg base k f fd ps (fun _ _ => .bad) :=
  ⟨fun _ _ _ _ _ _ _ _ _ _ _ _ _ _ ⟨_, _, _, _, _, _, _, h⟩ => h.elim⟩
theorem arity_0 {n m : Nat} {b : DS} (xs : List PV) (S : Sto) (h : xs.length ≠ n) : dDef0 n m b xs S = .bad := by unfold dDef0; rw [if_neg h]
theorem arity_d {n m : Nat} {b : DS} (xs : List PV) (S : Sto) (h : xs.length ≠ n) : dDef n m b xs S = .bad := by unfold dDef; rw [arity_0 xs S h]; rfl
theorem kw_of {K : PySem.W.Frag} {x qual : Str} {params : Arguments} {body : List Stmt} {scope : Scope} {kws : List (Str × V)} {f : Addr} {fd : FuncData} {ps : List Str} (F : FunD K x qual params body scope [] kws f fd)
    (h : ∀ (kV doc pm : Value) (an : Option Addr) (cdv ct : Value) (ws : List Value), ws.length = ps.length → bindArgs (PySem.W.fnOf x qual params body scope .none kV doc pm an cdv ct) ⟨[], ps.zip ws⟩ = pure (ps.zip ws)) (s : Shared) (ws : List Value) (hl : ws.length = ps.length) : BindsTo s fd ⟨[], ps.zip ws⟩ (ps.zip ws) := by
  obtain ⟨oc, od, dV, kV, doc, pm, an, cdv, ct, osl, rfl, lk, hcd, hD, hK⟩ := F.ex
  rcases hD with ⟨_, z⟩ | ⟨z, _⟩
  · subst z
    exact .of_eq (h kV doc pm an cdv ct ws hl)
  · exact absurd rfl z

theorem lk_of {K : PySem.W.Frag} {x qual : Str} {params : Arguments} {body : List Stmt} {scope : Scope} {dvs : List V} {kws : List (Str × V)} {f : Addr} {fd : FuncData} (F : FunD K x qual params body scope dvs kws f fd) : ∃ oc od osl, K.lookup f = some ⟨oc, od, .func fd, osl⟩ := by
  obtain ⟨oc, od, _, _, _, _, _, _, _, osl, _, lk, _⟩ := F.ex
  exact ⟨oc, od, osl, lk⟩
/-! ### a def as it is known by its name -/
structure Fn (T : Tb) (P : Program) (w : World) (K : PySem.W.Frag) (mg : Str → Option Value) (base : Heap) (k : Nat) (x : Str) (ps : List Str) (d : DF) : Prop where
  ex : ∃ (f : Addr) (fd : FuncData), mg x = some (.ref f) ∧ PySem.W.keepIn K (.ref f) = true ∧ FnG T P w K mg base k f fd ps d ∧ Binds K fd ps [] ∧ (∀ (s : Shared) (ws : List Value), ws.length = ps.length → BindsTo s fd ⟨[], ps.zip ws⟩ (ps.zip ws)) ∧ ∃ oc od osl, K.lookup f = some ⟨oc, od, .func fd, osl⟩
  ar : ∀ (xs : List PV) (S : Sto), xs.length ≠ ps.length → d xs S = .bad
def dFn (d : DF) (ar : DA) : DE := fun l S => (ar l S).bind fun xs S1 => d xs S1
section
variable {T : Tb} {X : Cx} {E : XS} {x : Str} {p pos : Pos} {e : Expr} {es : List Expr} {ps : List Str} {d : DF} {ar : DA} {j k : Nat} {f : Addr} {fd : FuncData} {ds : List Value} {dvs : List V}
theorem run_fng {pins : List (Addr × Obj)} {σ : L2.St} {H : Hp} {s : Shared} {Q : VK} {us : List Value} {vs : List V} (c : Cg X E k) (hj : j ≤ k) (G : FnG T X.prog X.w X.K X.mg X.base j f fd ps d) {args : Args} (hb : BindsTo s fd args (ps.zip us))
    (I : Inv X pins σ H s) (r : Vals vs us) (h : spOf T X.K ps.length d vs H Q (E σ)) : codeAny (model X.prog X.w) X.A (.call (.ref f) args) (fun r s' => match r with
      | .ok (.ret u) => EP X pins σ Q u s'
      | .ok _ => False
      | .error e => X.xe e s') s := by
  refine codeAny_mono (G.run X.A X.stack s H args us vs Q (E σ) (c.room.mono hj) c.gd I.env0 hb r h) fun z s' hq => ?_
  cases z with
  | error e => exact c.pass pins σ H s e s' I hq
  | ok fl =>
    cases fl with
    | ret u => exact I.after hq
    | next => exact False.elim hq
    | brk => exact False.elim hq
    | cont => exact False.elim hq
theorem sp_of {E : XK} {K : PySem.W.Frag} {R : Pl} {F H : Hp} {S : Sto} {xs : List PV} {vs : List V} {Q : VK} {n : Nat} (hl : xs.length = n) (r : Rep T K R F S H) (rx : RelL T K R F xs vs) (h : OkV T K R F (d xs S) Q E) : spOf T K n d vs H Q E :=
  ⟨by rw [rx.length]; exact hl, R, F, S, xs, r, rx, h⟩
/-- f(e, ..), every parameter by its place -/
theorem je_fn (c : Cg X E k) (F : Fn T X.prog X.w X.K X.mg X.base j x ps d) (ha : JA T X E (e :: es) ar) (hj : j ≤ k := by decide) (hn : (e :: es).length = ps.length := by rfl) (hg : Gl X x := by rfl) (hdb : (x == ("__debug__" : Str)) = false := by decide)
    (he : starEach (e :: es) X.env = (false, eval e X.env) :: starEach es X.env := by rfl) (hpl : (backTo pos (starEach es X.env)).any (·.1) = false := by rfl) : JE T X E (.Call (.Name x p) (e :: es) [] pos) (dFn d ar) := by
  obtain ⟨f, fd, hm, hk, G, hb, _⟩ := F.ex
  refine ⟨fun pins s σ H Q I h => ?_⟩
  refine wpAny_Call_Name_kw (ld_glob I hg hm ?_ hdb)
  obtain ⟨R, Fz, l, S, r, e', h⟩ := h
  have hh : tL T X.K E ar σ H fun vs H1 => spOf T X.K ps.length d vs H1 Q (E σ) := seqL (goV T X.K (E σ) Q) r e' h fun xs S1 R1 F1 H1 us p ex r1 rx e1 h1 => by
    have h1 : OkV T X.K R1 F1 (d xs S1) Q (E σ) := h1
    by_cases hl : xs.length = ps.length
    · exact sp_of hl r1 rx h1
    · rw [F.ar xs S1 hl] at h1; exact h1.elim
  refine PySem.W.callWith_K (h₀ := X.base) I.ok.mod.kin hk (thn (ha.run pos pins s σ H _ I hh) fun us s1 ⟨vs, H1, I1, r1, q1⟩ => ⟨I1.kIn, ?_⟩) he hpl
  have hl : us.length = ps.length := by rw [← r1.length]; exact q1.1
  have hb' := hb s1 us I1.kIn (by rw [List.append_nil]; exact hl)
  rw [List.append_nil] at hb'
  refine wpAny_call (codeAny_mono (run_fng c hj G hb' I1 r1 q1) fun z s' hq => ?_)
  cases z with
  | error e => exact hq
  | ok fl => cases fl with
    | ret u => exact hq
    | _ => exact False.elim hq
/-- f() -/
theorem je_fn0 (c : Cg X E k) (F : Fn T X.prog X.w X.K X.mg X.base j x [] d) (hj : j ≤ k := by decide) (hg : Gl X x := by rfl) (hdb : (x == ("__debug__" : Str)) = false := by decide) : JE T X E (.Call (.Name x p) [] [] pos) (fun _ S => d [] S) := by
  obtain ⟨f, fd, hm, hk, G, hb, _⟩ := F.ex
  refine ⟨fun pins s σ H Q I h => ?_⟩
  refine wpAny_Call_Name_kw (ld_glob I hg hm ?_ hdb)
  obtain ⟨R, Fz, l, S, r, e', h⟩ := h
  have hb' := hb s [] I.kIn rfl
  refine PySem.W.callWith_K0 I.kIn hk (wpAny_call (codeAny_mono (run_fng c hj G hb' I .nil (sp_of (xs := []) rfl r .nil h)) fun z s' hq => ?_))
  cases z with
  | error e => exact hq
  | ok fl => cases fl with
    | ret u => exact hq
    | _ => exact False.elim hq
end
end Z
end
section
set_option Elab.async false
set_option linter.all false
set_option maxRecDepth 100000
set_option maxHeartbeats 1000000
/-! ZM: methods of built-in things, calls by keywords, the law's end. -/
noncomputable section
namespace Z
open PySem PySem.Spec PyProof.Rows L2

theorem Cg.blk {X : Cx} {E : XS} {k : Nat} (c : Cg X E k) {s : Shared} {H : Hp} {scope : Scope} {env : Env} {fp : List Addr} : Cg (X.blk s H scope env fp) E00 k :=
  ⟨c.calm, c.nd, c.room, c.gd, takes0, PassesOwn.never⟩
/-! ### o.m(..) -/
def MetZ (T : Tb) (K : PySem.W.Frag) (f : PV → List PV → Sto → Out PV) (r : V → List V → Hp → VK → Prop) : Prop := ∀ (E : XK) (R : Pl) (F H : Hp) (S : Sto) (x : PV) (xs : List PV) (u : V) (us : List V) (Q : VK), Rep T K R F S H → Rel T K R F x u → RelL T K R F xs us → OkV T K R F (f x xs S) Q E → r u us H Q
def tyOk (n : String) (x : PV) (S : Sto) : Bool := match tyZ x S with
  | some t => t == n && (n == "str" || n == "int" || n == "list")
  | none => false
def dMet (n : String) (f : PV → List PV → Sto → Out PV) (o : DE) (ar : DA) : DE := fun l S => (o l S).bind fun x S1 => if tyOk n x S1 = true then (ar l S1).bind fun xs S2 => f x xs S2 else .bad
section
variable {T : Tb} {X : Cx} {E : XS} {o e : Expr} {es : List Expr} {dO : DE} {ar : DA} {name : Str} {apos cpos : Pos} {n id : String} {f : PV → List PV → Sto → Out PV} {r : V → List V → Hp → VK → Prop}
theorem tyOk_v {K : PySem.W.Frag} {R : Pl} {F H : Hp} {S : Sto} (re : Rep T K R F S H) {x : PV} {u : V} (rx : Rel T K R F x u) (h : tyOk n x S = true) : tyV K n u H := by
  unfold tyOk at h
  split at h
  · rename_i t ht
    rw [Bool.and_eq_true] at h
    have e := eq_of_beq h.1
    subst e
    have h2 := h.2
    cases x with
    | str z => cases ht; rw [rel_str rx]; rfl
    | int z => cases ht; rw [rel_int rx]; rfl
    | non => cases ht; simp at h2
    | bl b => cases ht; simp at h2
    | _ =>
      all_goals
        simp only [tyZ] at ht
        split at ht
        · rename_i ys hv
          cases ht
          obtain ⟨a, us, rfl, hs, hl⟩ := view_rel re rx hv
          exact .inl ⟨rfl, us, (shp_rd hs).1 (.inl rfl)⟩
        · rename_i ys hv
          cases ht
          obtain ⟨a, us, rfl, hs, hl⟩ := view_rel re rx hv
          exact .inl ⟨rfl, us, (shp_rd hs).1 (.inr rfl)⟩
        · cases ht; simp at h2
        · cases ht; simp at h2
        · cases ht
  · cases h
theorem je_met (pa : PlainAttrs n) (slot : Slot n name id) (hty : typeOf (.builtin id) = pure (.type "method_descriptor")) (hm : MtR X id r) (hz : MetZ T X.K f r) (ho : JE T X E o dO) (ha : JA T X E (e :: es) ar)
    (hbase : attributeBase o name X.env (eval o X.env) = eval o X.env := by rfl)
    (hfew : ((backTo cpos (starEach (e :: es) X.env)).all (fun x => !x.1) && (backToKw cpos (keywordEach [] X.env)).all (fun x => x.1.isSome)
      && decide ((e :: es).length + ([] : List Keyword).length + (if ([] : List Keyword).isEmpty then 0 else 1) < 30)) = true := by rfl)
    (hline : (apos.endLine == cpos.line) = true := by rfl) (hs : starEach (e :: es) X.env = (false, eval e X.env) :: starEach es X.env := by rfl) (hplain : (backTo cpos (starEach es X.env)).any (·.1) = false := by rfl) :
    JE T X E (.Call (.Attribute o name apos) (e :: es) [] cpos) (dMet n f dO ar) :=
  pe_imp (pe_bm pa slot hty hm ho ha hbase hfew hline hs hplain) fun σ H Q ⟨R, F, l, S, re, e, h⟩ => by
    refine seqV (goV T X.K (E σ) Q) re e h fun x S1 R1 F1 H1 u p ex r1 rx e1 h1 => ?_
    have h1 : OkV T X.K R1 F1 (if tyOk n x S1 = true then (ar l S1).bind fun xs S2 => f x xs S2 else .bad) Q (E σ) := h1
    split at h1
    · rename_i hty
      refine ⟨tyOk_v r1 rx hty, seqL (goV T X.K (E σ) Q) r1 e1 h1 fun xs S2 R2 F2 H2 us p2 ex2 r2 rxs e2 h2 => hz (E σ) R2 F2 H2 S2 x xs u us Q r2 (rx.mono p2 ex2) rxs h2⟩
    · exact h1.elim
theorem je_met0 (pa : PlainAttrs n) (slot : Slot n name id) (hty : typeOf (.builtin id) = pure (.type "method_descriptor")) (hm : MtR X id r) (hz : MetZ T X.K f r) (ho : JE T X E o dO)
    (hbase : attributeBase o name X.env (eval o X.env) = eval o X.env := by rfl) (hline : (apos.endLine == cpos.line) = true := by rfl) : JE T X E (.Call (.Attribute o name apos) [] [] cpos) (dMet n f dO dNil) :=
  pe_imp (pe_bm0 pa slot hty hm ho hbase hline) fun σ H Q ⟨R, F, l, S, re, e, h⟩ => by
    refine seqV (goV T X.K (E σ) Q) re e h fun x S1 R1 F1 H1 u p ex r1 rx e1 h1 => ?_
    have h1 : OkV T X.K R1 F1 (if tyOk n x S1 = true then f x [] S1 else .bad) Q (E σ) := h1
    split at h1
    · rename_i hty
      exact ⟨tyOk_v r1 rx hty, hz (E σ) R1 F1 H1 S1 x [] u [] Q r1 rx .nil h1⟩
    · exact h1.elim
end

/-! ### list.append, list.pop -/
def appP (x : PV) (ys : List PV) (S : Sto) : Out PV := match x, ys with
  | .ref n, [y] => (match S[n]? with
    | some (some (.lst, xs)) => if xs.length < 16777216 then .ok .non (S.set n (some (.lst, xs ++ [y]))) else .bad
    | _ => .bad)
  | _, _ => .bad
def popP (x : PV) (ys : List PV) (S : Sto) : Out PV := match x, ys with
  | .ref n, [] => (match S[n]? with
    | some (some (.lst, xs)) => (match xs[xs.length - 1]? with
      | some y => .ok y (S.set n (some (.lst, xs.dropLast)))
      | none => .bad)
    | _ => .bad)
  | _, _ => .bad
section
variable {T : Tb} {K : PySem.W.Frag}
theorem RelL.dropLast {R : Pl} {F : Hp} {xs : List PV} {us : List V} (h : RelL T K R F xs us) : RelL T K R F xs.dropLast us.dropLast := by
  rw [List.dropLast_eq_take, List.dropLast_eq_take, h.length]
  exact h.take _
theorem mz_append : MetZ T K appP rAppend := by
  intro E R F H S x xs u us Q r rx rxs h
  unfold appP at h
  split at h
  · rename_i n y
    obtain ⟨w, rfl, ry⟩ := rel1 rxs
    split at h
    · rename_i zs hS
      split at h
      · rename_i hz
        rw [Rel] at rx
        obtain ⟨a, rfl, ha⟩ := rx
        obtain ⟨hf, ws, hl, hx⟩ := r.live n a .lst zs ha hS
        have hl : H a = some (.lst ws) := hl
        refine ⟨a, ws, w, rfl, rfl, hl, by rw [sizeLine_eq, hx.length]; exact hz, ?_⟩
        exact PostV.here (v := .non) (r.put ha hf (k := .lst) (xs := zs ++ [y]) upd_same (hx.append (.cons ry .nil))) (by rw [Rel]) h
      · exact h.elim
    · exact h.elim
  · exact h.elim
theorem mz_pop : MetZ T K popP rPop := by
  intro E R F H S x xs u us Q r rx rxs h
  unfold popP at h
  split at h
  · rename_i n
    rw [RelL] at rxs; subst rxs
    split at h
    · rename_i zs hS
      split at h
      · rename_i y hy
        rw [Rel] at rx
        obtain ⟨a, rfl, ha⟩ := rx
        obtain ⟨hf, ws, hl, hx⟩ := r.live n a .lst zs ha hS
        have hl : H a = some (.lst ws) := hl
        obtain ⟨w, h1, h2⟩ := hx.get hy
        refine ⟨a, ws, w, rfl, rfl, hl, by rw [hx.length]; exact h1, ?_⟩
        exact PostV.here (r.put ha hf (k := .lst) (xs := zs.dropLast) upd_same hx.dropLast) h2 h
      · exact h.elim
    · exact h.elim
  · exact h.elim
end
section
variable {T : Tb} {X : Cx} {E : XS} {o e : Expr} {dO d : DE} {apos cpos : Pos}
theorem je_append (ho : JE T X E o dO) (ha : JE T X E e d) (hbase : attributeBase o "append" X.env (eval o X.env) = eval o X.env := by rfl)
    (hline : (apos.endLine == cpos.line) = true := by rfl) (hs : starEach [e] X.env = (false, eval e X.env) :: starEach [] X.env := by rfl) : JE T X E (.Call (.Attribute o "append" apos) [e] [] cpos) (dMet "list" appP dO (dCons d dNil)) :=
  je_met PySem.F.plainAttrs_list PySem.F.slot_list_append PySem.F.type_list_append mt_append mz_append ho (ja_cons ha ja_nil hs) hbase (by rw [hs]; rfl) hline hs rfl

/-! ### xs[::-1] of a list -/
def revP (x : PV) (S : Sto) : Out PV := match lstOf x S with
  | some xs => .ok (.nd .lst xs.reverse) S
  | none => .bad
def dRev (d : DE) : DE := fun l S => (d l S).bind fun x S1 => revP x S1
theorem je_rev {k : Nat} {p1 p2 p3 pos : Pos} (he : JE T X E e d) : JE T X E (.Subscript e (.Slice none none (some (.UnaryOp .USub (.Constant (.int 1) k p1) p2)) p3) pos) (dRev d) :=
  pe_imp (pe_revL he) fun σ H Q ⟨R, F, l, S, re, e, h⟩ => by
    refine seqV (goV T X.K (E σ) Q) re e h fun x S1 R1 F1 H1 u p ex r1 rx e1 h1 => ?_
    have h1 : OkV T X.K R1 F1 (revP x S1) Q (E σ) := h1
    unfold revP at h1
    split at h1
    · rename_i xs hv
      obtain ⟨a, us, rfl, hs, hl⟩ := lstOf_rel r1 rx hv
      exact ⟨a, us, rfl, hs, fun p hp => PostV.new (k := .lst) r1 hp upd_same hl.reverse h1⟩
    · exact h1.elim
end

/-! ### f(k = e, ..): all parameters by their names, in their order -/
abbrev JK (T : Tb) (X : Cx) (E : XS) (kws : List Keyword) (ar : DA) : Prop := L2.PK X kws (tL T X.K E ar)
section
variable {T : Tb} {X : Cx} {E : XS} {x : Str} {p pos kpos : Pos} {e : Expr} {kws : List Keyword} {ps : List Str} {d : DF} {a : DE} {ar : DA} {j k : Nat} {nm : Option Str}
theorem jk_nil : JK T X E [] dNil := ⟨fun pos pins s σ H Q I ⟨R, F, l, S, r, e, h⟩ => pk_nil.run pos pins s σ H Q I (PostL.here r .nil h)⟩
theorem jk_cons (ha : JE T X E e a) (hr : JK T X E kws ar) : JK T X E (⟨nm, e, kpos⟩ :: kws) (dCons a ar) :=
  ⟨fun pos pins s σ H Q I ⟨R, F, l, S, r, e, h⟩ => (pk_cons ha hr).run pos pins s σ H Q I (by
    refine seqV (goL T X.K (E σ) Q) r e h fun x S1 R1 F1 H1 u p ex r1 rx e1 h1 => ?_
    refine seqL (goL T X.K (E σ) Q) r1 e1 h1 fun xs S2 R2 F2 H2 us p2 ex2 r2 rxs e2 h2 => ?_
    exact PostL.here r2 (.cons (rx.mono p2 ex2) rxs) h2)⟩
theorem je_fnK {kw : Keyword} (c : Cg X E k) (F : Fn T X.prog X.w X.K X.mg X.base j x ps d) (hk : JK T X E (kw :: kws) ar) (hj : j ≤ k := by decide) (hg : Gl X x := by rfl) (hdb : (x == ("__debug__" : Str)) = false := by decide)
    (hall : (backToKw pos (keywordEach (kw :: kws) X.env)).all (·.1.isSome) = true := by rfl) (hks : (backToKw pos (keywordEach (kw :: kws) X.env)).filterMap (·.1) = ps := by rfl)
    (hpl : ((backTo pos (starEach [] X.env)).any (·.1) || (backToKw pos (keywordEach (kw :: kws) X.env)).any (·.1.isNone)) = false := by rfl) :
    JE T X E (.Call (.Name x p) [] (kw :: kws) pos) (dFn d ar) := by
  obtain ⟨f, fd, hm, hkp, G, _, hb, _⟩ := F.ex
  refine ⟨fun pins s σ H Q I h => ?_⟩
  refine wpAny_Call_Name_kw (ld_glob I hg hm ?_ hdb)
  obtain ⟨R, Fz, l, S, r, e', h⟩ := h
  have hh : tL T X.K E ar σ H fun vs H1 => spOf T X.K ps.length d vs H1 Q (E σ) := seqL (goV T X.K (E σ) Q) r e' h fun xs S1 R1 F1 H1 us p ex r1 rx e1 h1 => by
    have h1 : OkV T X.K R1 F1 (d xs S1) Q (E σ) := h1
    by_cases hl : xs.length = ps.length
    · exact sp_of hl r1 rx h1
    · rw [F.ar xs S1 hl] at h1; exact h1.elim
  refine PySem.W.callWith_KW0 (h₀ := X.base) I.ok.mod.kin hkp hall (thn (hk.run pos pins s σ H _ I hh) fun us s1 ⟨vs, H1, I1, r1, q1⟩ => ⟨I1.kIn, ?_⟩) hpl
  rw [hks]
  have hl : us.length = ps.length := by rw [← r1.length]; exact q1.1
  refine wpAny_call (codeAny_mono (run_fng c hj G (hb s1 us hl) I1 r1 q1) fun z s' hq => ?_)
  cases z with
  | error e => exact hq
  | ok fl => cases fl with
    | ret u => exact hq
    | _ => exact False.elim hq
end

end Z
end
end
section
set_option Elab.async false
set_option linter.all false
set_option maxRecDepth 100000
set_option maxHeartbeats 1000000
/-! ZQ: reckoning with denotations. -/
noncomputable section
namespace Z
open PySem PySem.Spec PyProof.Rows L2

section
variable {α β : Type} (v : PV) (S : Sto) (l : Loc) (a b c : DE) (ar : DA) (p q : DB) (s t : DS)
@[simp] theorem bind_ok (x : α) (k : α → Sto → Out β) : (Out.ok x S).bind k = k x S := rfl
@[simp] theorem bind_err (e : XV) (k : α → Sto → Out β) : (Out.err e S : Out α).bind k = .err e S := rfl
@[simp] theorem bind_bad (k : α → Sto → Out β) : (Out.bad : Out α).bind k = .bad := rfl
@[simp] theorem st_ok (x : α) (k : α → Sto → OutS) : (Out.ok x S).st l k = k x S := rfl
@[simp] theorem st_err (e : XV) (k : α → Sto → OutS) : (Out.err e S : Out α).st l k = .err e l S := rfl
@[simp] theorem st_bad (k : α → Sto → OutS) : (Out.bad : Out α).st l k = .bad := rfl
@[simp] theorem seq_nx (k : Loc → Sto → OutS) : (OutS.nx l S).seq k = k l S := rfl
@[simp] theorem seq_ret (k : Loc → Sto → OutS) : (OutS.ret v S).seq k = .ret v S := rfl
@[simp] theorem seq_brk (k : Loc → Sto → OutS) : (OutS.brk l S).seq k = .brk l S := rfl
@[simp] theorem seq_cnt (k : Loc → Sto → OutS) : (OutS.cnt l S).seq k = .cnt l S := rfl
@[simp] theorem seq_err (e : XV) (k : Loc → Sto → OutS) : (OutS.err e l S).seq k = .err e l S := rfl
@[simp] theorem seq_bad (k : Loc → Sto → OutS) : OutS.bad.seq k = .bad := rfl
@[simp] theorem dC_ap : dC v l S = .ok v S := rfl
theorem dVar_at {i : Nat} (h : l[i]? = some (some v)) : dVar i l S = .ok v S := by unfold dVar; rw [h]
@[simp] theorem dVar_0 : dVar 0 (some v :: l) S = .ok v S := rfl
@[simp] theorem dVar_s (i : Nat) (o : Option PV) : dVar (i + 1) (o :: l) S = dVar i l S := rfl
@[simp] theorem dNil_ap : dNil l S = .ok [] S := rfl
@[simp] theorem dCons_ap : dCons a ar l S = (a l S).bind fun x S1 => (ar l S1).bind fun xs S2 => .ok (x :: xs) S2 := rfl
@[simp] theorem dTup_ap : dTup ar l S = (ar l S).bind fun xs S1 => mkNd .tup xs S1 := rfl
@[simp] theorem dLst_ap : dLst ar l S = (ar l S).bind fun xs S1 => mkNd .lst xs S1 := rfl
@[simp] theorem dLstM_ap : dLstM ar l S = (ar l S).bind fun xs S1 => mkRf .lst xs S1 := rfl
@[simp] theorem dBin_ap (f : PV → PV → Sto → Out PV) : dBin f a b l S = (a l S).bind fun x S1 => (b l S1).bind fun y S2 => f x y S2 := rfl
@[simp] theorem dB_ap : dB a l S = asB (a l S) := rfl
@[simp] theorem asB_ok (k : Bool) : asB (.ok (.bl k) S) = .ok k S := rfl
@[simp] theorem dApp_ap (f : List PV → Sto → Out PV) : dApp f ar l S = (ar l S).bind fun xs S1 => f xs S1 := rfl
@[simp] theorem dFn_ap (f : DF) : dFn f ar l S = (ar l S).bind fun xs S1 => f xs S1 := rfl
@[simp] theorem dTru_ap : dTru a l S = (a l S).bind fun x S1 => truP x S1 := rfl
@[simp] theorem dNotT_ap : dNotT p l S = (p l S).bind fun b S1 => .ok (!b) S1 := rfl
@[simp] theorem dAndT_ap : dAndT p q l S = (p l S).bind fun k S1 => if k = true then q l S1 else .ok false S1 := rfl
@[simp] theorem dOrT_ap : dOrT p q l S = (p l S).bind fun k S1 => if k = true then .ok true S1 else q l S1 := rfl
@[simp] theorem dOr_ap : dOr a b l S = (a l S).bind fun x S1 => (truP x S1).bind fun k S2 => if k = true then .ok x S2 else b l S2 := rfl
@[simp] theorem dAnd_ap : dAnd a b l S = (a l S).bind fun x S1 => (truP x S1).bind fun k S2 => if k = true then b l S2 else .ok x S2 := rfl
@[simp] theorem dNot_ap : dNot a l S = (a l S).bind fun x S1 => (truP x S1).bind fun k S2 => .ok (.bl (!k)) S2 := rfl
@[simp] theorem dIf_ap : dIf p a b l S = (p l S).bind fun k S1 => if k = true then a l S1 else b l S1 := rfl
@[simp] theorem dUn_ap (f : PV → Sto → Out PV) : dUn f a l S = (a l S).bind fun x S1 => f x S1 := rfl
@[simp] theorem dNone_ap : dNone l S = .ok none S := rfl
@[simp] theorem dSome_ap : dSome a l S = asI (a l S) := rfl
@[simp] theorem asI_ok (i : Int) : asI (.ok (.int i) S) = .ok (some i) S := rfl
@[simp] theorem dSli_ap (lo hi : DO) : dSli a lo hi l S = (a l S).bind fun x S1 => (lo l S1).bind fun p S2 => (hi l S2).bind fun q S3 => sliZ x p q S3 := rfl
@[simp] theorem dRev_ap : dRev a l S = (a l S).bind fun x S1 => revP x S1 := rfl
@[simp] theorem dMet_ap (n : String) (f : PV → List PV → Sto → Out PV) : dMet n f a ar l S = (a l S).bind fun x S1 => if tyOk n x S1 = true then (ar l S1).bind fun xs S2 => f x xs S2 else .bad := rfl
@[simp] theorem dSkip_ap : dSkip l S = .nx l S := rfl
@[simp] theorem dSeq_ap : dSeq s t l S = (s l S).seq t := rfl
@[simp] theorem dExpr_ap : dExpr a l S = (a l S).st l fun _ S1 => .nx l S1 := rfl
@[simp] theorem dRet_ap : dRet a l S = (a l S).st l fun v S1 => .ret v S1 := rfl
@[simp] theorem dRetN_ap : dRetN l S = .ret .non S := rfl
@[simp] theorem dIfS_ap : dIfS p s t l S = (p l S).st l fun k S1 => if k = true then s l S1 else t l S1 := rfl
@[simp] theorem dSet_ap (i : Nat) : dSet i a l S = (a l S).st l fun v S1 => .nx (l.set i (some v)) S1 := rfl
@[simp] theorem dBrk_ap : dBrk l S = .brk l S := rfl
@[simp] theorem dCnt_ap : dCnt l S = .cnt l S := rfl
@[simp] theorem dNever_ap : dNever l S = .bad := rfl
@[simp] theorem dAsg_ap (g : DG) : dAsg a g l S = (a l S).st l fun v S1 => onlyNx (g v l S1) := rfl
@[simp] theorem onlyNx_nx : onlyNx (.nx l S) = .nx l S := rfl
@[simp] theorem gzN_ap (i : Nat) : gzN i v l S = .nx (l.set i (some v)) S := rfl
@[simp] theorem gzT_ap (gs : List DG) (xs : List PV) : gzT gs (.nd .tup xs) l S = gzL gs xs l S := rfl
@[simp] theorem gzL_nil : gzL [] [] l S = .nx l S := rfl
@[simp] theorem gzL_cons (g : DG) (gs : List DG) (x : PV) (xs : List PV) : gzL (g :: gs) (x :: xs) l S = (g x l S).seq fun l1 S1 => gzL gs xs l1 S1 := rfl
@[simp] theorem gzI_ap : gzI a b v l S = (a l S).st l fun x S1 => (b l S1).st l fun y S2 => match putP x y v S2 with
  | some S3 => .nx l S3
  | none => .bad := rfl
@[simp] theorem dPar_ap (i j : Nat) : dPar i j ar l S = (ar l S).st l fun xs S1 => match xs with
  | [v, w] => .nx ((l.set i (some v)).set j (some w)) S1
  | _ => .bad := rfl
@[simp] theorem dPar3_ap (i j k : Nat) : dPar3 i j k ar l S = (ar l S).st l fun xs S1 => match xs with
  | [u, v, w] => .nx (((l.set i (some u)).set j (some v)).set k (some w)) S1
  | _ => .bad := rfl
@[simp] theorem dFor_ap (di : DI) (tg : TgZ) : dFor di tg s l S = (di l S).st l fun it S1 => if heldB it.held S1 = true then forZ tg it.held s it.items l S1 else .bad := rfl
@[simp] theorem dItV_ap : dItV a l S = (a l S).bind fun x S1 => itOf x S1 := rfl
@[simp] theorem dItA_ap (f : List PV → Sto → Out ItZ) : dItA f ar l S = (ar l S).bind fun xs S1 => f xs S1 := rfl
@[simp] theorem dLc_ap (vs : List Nat) (di : DI) (tg : TgZ) : dLc vs di tg p a l S = (dLc0 vs di tg p a l S).bind fun xs S1 => .ok (.nd .lst xs) S1 := rfl
@[simp] theorem dLcM_ap (vs : List Nat) (di : DI) (tg : TgZ) : dLcM vs di tg p a l S = (dLc0 vs di tg p a l S).bind fun xs S1 => .ok (.ref S1.length) (S1 ++ [some (.lst, xs)]) := rfl
@[simp] theorem dLc0_ap (vs : List Nat) (di : DI) (tg : TgZ) : dLc0 vs di tg p a l S = (di l S).bind fun it S1 => if heldB it.held S1 = true ∧ it.items.length ≤ 16777216 then lcZ tg it.held p a (wipeZ l vs) it.items S1 else .bad := rfl
@[simp] theorem dYes_ap : dYes l S = .ok true S := rfl
@[simp] theorem wipeZ_nil : wipeZ l [] = l := rfl
@[simp] theorem wipeZ_cons (i : Nat) (is : List Nat) : wipeZ l (i :: is) = (wipeZ l is).set i none := rfl
@[simp] theorem heldB_nil' : heldB [] S = true := heldB_nil S
@[simp] theorem heldB_one (n : Nat) (v : Kd × List PV) : heldB [(.ref n, v)] S = decide (S[n]? = some (some v)) := by
  rw [Bool.eq_iff_iff, decide_eq_true_iff, show (heldB [(PV.ref n, v)] S = true ↔ ∀ p ∈ [(PV.ref n, v)], view p.1 S = some p.2) from ⟨heldB_all, heldB_of⟩]
  constructor
  · intro h
    have := h _ (List.mem_singleton.mpr rfl)
    have h2 : (S[n]?).join = some v := this
    cases q : S[n]? with
    | none => rw [q] at h2; cases h2
    | some o => rw [q] at h2; cases o with
      | none => cases h2
      | some y => cases h2; rfl
  · intro h p hp
    rw [List.mem_singleton.mp hp]
    show (S[n]?).join = _
    rw [h]; rfl
@[simp] theorem view_nd' (k : Kd) (xs : List PV) : view (.nd k xs) S = some (k, xs) := rfl
@[simp] theorem view_ref' (n : Nat) : view (.ref n) S = (S[n]?).join := rfl
@[simp] theorem hold_nd (k : Kd) (xs : List PV) (w : Kd × List PV) : holdOf (.nd k xs) w = [] := rfl
@[simp] theorem hold_ref (n : Nat) (w : Kd × List PV) : holdOf (.ref n) w = [(.ref n, w)] := rfl
theorem dDef0_ap {n m : Nat} {xs : List PV} (h : xs.length = n) : dDef0 n m s xs S = (match s (xs.map some ++ List.replicate (m - n) none) S with
  | .nx _ S1 => .ok .non S1
  | .ret v S1 => .ok v S1
  | .err e _ S1 => .err e S1
  | _ => .bad) := by unfold dDef0; rw [if_pos h] <;> rfl
theorem shut_same {S S1 : Sto} (h : S1.length ≤ S.length) : shut S (.ok v S1) = .ok v S1 := by unfold shut; simp only; rw [if_pos h]
/-- a def that makes no new place -/
theorem dDef_ret {n m : Nat} {xs : List PV} {S1 : Sto} {v : PV} (h : xs.length = n) (hb : s (xs.map some ++ List.replicate (m - n) none) S = .ret v S1) (hl : S1.length ≤ S.length) : dDef n m s xs S = .ok v S1 := by
  unfold dDef
  rw [dDef0_ap S s h, hb]
  exact shut_same v hl
theorem dDef_nx {n m : Nat} {xs : List PV} {S1 : Sto} {l1 : Loc} (h : xs.length = n) (hb : s (xs.map some ++ List.replicate (m - n) none) S = .nx l1 S1) (hl : S1.length ≤ S.length) : dDef n m s xs S = .ok .non S1 := by
  unfold dDef
  rw [dDef0_ap S s h, hb]
  exact shut_same _ hl
theorem dDef0_ret {n m : Nat} {xs : List PV} {S1 : Sto} {v : PV} (h : xs.length = n) (hb : s (xs.map some ++ List.replicate (m - n) none) S = .ret v S1) : dDef0 n m s xs S = .ok v S1 := by
  rw [dDef0_ap S s h, hb]
/-- a def whose result was made new -/
theorem dDef_thaw {n m : Nat} {xs : List PV} {S1 : Sto} {v w : PV} (h : xs.length = n) (hb : s (xs.map some ++ List.replicate (m - n) none) S = .ret v S1) (hl : S.length < S1.length) (ht : thaw 12 S.length S1 v = some w) (hf : fitsS S S1 = true) : dDef n m s xs S = .ok w (S1.take S.length) := by
  unfold dDef
  rw [dDef0_ap S s h, hb]
  unfold shut
  simp only
  rw [if_neg (by omega), ht]
  simp only
  rw [if_pos hf]
end
theorem fitsS_app (S X : Sto) : fitsS S (S ++ X) = true := by
  exact fitsS_iff.mpr fun i hi => .inl (List.getElem?_append_left hi)
theorem fitsS_head {o p : Option (Kd × List PV)} {T X : Sto} (h : fitsO (T.length + 1) p = true) : fitsS (o :: T) (p :: (T ++ X)) = true := by
  refine fitsS_iff.mpr fun i hi => ?_
  cases i with
  | zero => exact .inr ⟨p, rfl, h⟩
  | succ i =>
    rw [List.length_cons] at hi
    exact .inl (by rw [List.getElem?_cons_succ, List.getElem?_cons_succ, List.getElem?_append_left (by omega)])
theorem fits_ints (n : Nat) (ns : List Int) : fitsL n (ns.map PV.int) = true := by
  induction ns with
  | nil => rfl
  | cons m ns ih =>
    show (true && fitsL n (ns.map PV.int)) = true
    rw [ih]; rfl
/-! ### operations on plain values -/
section
variable (S : Sto) (i j : Int) (k : Bool) (xs ys : List PV)
@[simp] theorem addP_int : addP (.int i) (.int j) S = .ok (.int (i + j)) S := rfl
@[simp] theorem addP_ib : addP (.int i) (.bl k) S = .ok (.int (i + b2i k)) S := rfl
@[simp] theorem addP_lst : addP (.nd .lst xs) (.nd .lst ys) S = mkNd .lst (xs ++ ys) S := rfl
@[simp] theorem addP_tup : addP (.nd .tup xs) (.nd .tup ys) S = mkNd .tup (xs ++ ys) S := rfl
@[simp] theorem subP_int : subP (.int i) (.int j) S = .ok (.int (i - j)) S := rfl
@[simp] theorem mulZ_int : mulZ (.int i) (.int j) S = if mulOk i j then .ok (.int (i * j)) S else .bad := rfl
theorem divP_int (h : 0 < j ∧ j.natAbs < DIVB) : divP (.int i) (.int j) S = .ok (.int (i / j)) S := by unfold divP; simp only; rw [if_pos h]
theorem modP_int (h : 0 < j) : modP (.int i) (.int j) S = .ok (.int (i % j)) S := by unfold modP; simp only; rw [if_pos h]
@[simp] theorem powP_int : powP (.int i) (.int j) S = if 0 ≤ j ∧ j ≤ 1000000 ∧ i.natAbs < 2 ^ 64 then .ok (.int (i ^ j.toNat)) S else .bad := rfl
@[simp] theorem ltZ_int : ltZ (.int i) (.int j) S = .ok (.bl (decide (i < j))) S := rfl
@[simp] theorem leZ_int : leZ (.int i) (.int j) S = .ok (.bl (decide (i ≤ j))) S := rfl
@[simp] theorem gtZ_int : gtZ (.int i) (.int j) S = .ok (.bl (decide (j < i))) S := rfl
@[simp] theorem geZ_int : geZ (.int i) (.int j) S = .ok (.bl (decide (j ≤ i))) S := rfl
@[simp] theorem eqZ_str (a b : Str) : eqZ (.str a) (.str b) S = .ok (.bl (decide (a = b))) S := rfl
@[simp] theorem neZ_str (a b : Str) : neZ (.str a) (.str b) S = .ok (.bl (!decide (a = b))) S := rfl
theorem shaped_int : SeqAt.shaped (.int i) = true := by
  unfold SeqAt.shaped
  simp [PyData.canLay0, PyData.depth]
@[simp] theorem eqZ_int : eqZ (.int i) (.int j) S = .ok (.bl (decide (i = j))) S := by
  show eqD (.int i) (.int j) S = _
  unfold eqD datS view
  simp only [dat, shaped_int, and_self, if_true, PyData.eqv]
  rfl
@[simp] theorem neZ_int : neZ (.int i) (.int j) S = .ok (.bl (!decide (i = j))) S := by
  show neD (.int i) (.int j) S = _
  unfold neD datS view
  simp only [dat, shaped_int, and_self, if_true, PyData.eqv]
  rfl
@[simp] theorem negP_int : negP (.int i) S = .ok (.int (-i)) S := rfl
@[simp] theorem intP_int : intP [.int i] S = .ok (.int i) S := rfl
@[simp] theorem intP_bl : intP [.bl k] S = .ok (.int (if k then 1 else 0)) S := rfl
@[simp] theorem absP_int : absP [.int i] S = .ok (.int (if i < 0 then -i else i)) S := rfl
@[simp] theorem lenP_nd_lst : lenP [.nd .lst xs] S = .ok (.int xs.length) S := rfl
@[simp] theorem lenP_nd_tup : lenP [.nd .tup xs] S = .ok (.int xs.length) S := rfl
@[simp] theorem lenP_nd_scr : lenP [.nd .scr xs] S = .ok (.int xs.length) S := rfl
@[simp] theorem listP_lst : listP [.nd .lst xs] S = .ok (.nd .lst xs) S := rfl
@[simp] theorem listP_tup : listP [.nd .tup xs] S = .ok (.nd .lst xs) S := rfl
@[simp] theorem listP_scr : listP [.nd .scr xs] S = .ok (.nd .lst xs) S := rfl
@[simp] theorem tupP_lst : tupP [.nd .lst xs] S = .ok (.nd .tup xs) S := rfl
@[simp] theorem tupP_tup : tupP [.nd .tup xs] S = .ok (.nd .tup xs) S := rfl
@[simp] theorem isZ_non (x : PV) : isZ x .non S = .ok (.bl x.isNon) S := by cases x <;> rfl
@[simp] theorem isntZ_non (x : PV) : isntZ x .non S = .ok (.bl (!x.isNon)) S := by cases x <;> rfl
@[simp] theorem isNon_int : (PV.int i).isNon = false := rfl
@[simp] theorem isNon_non : PV.non.isNon = true := rfl
@[simp] theorem truP_bl : truP (.bl k) S = .ok k S := rfl
@[simp] theorem itOf_lst : itOf (.nd .lst xs) S = .ok ⟨xs, []⟩ S := rfl
@[simp] theorem itOf_tup : itOf (.nd .tup xs) S = .ok ⟨xs, []⟩ S := rfl
@[simp] theorem sliZ_lst (lo hi : Option Int) : sliZ (.nd .lst xs) lo hi S = .ok (.nd .lst (cutP xs lo hi)) S := rfl
@[simp] theorem sliZ_scr (lo hi : Option Int) : sliZ (.nd .scr xs) lo hi S = .ok (.nd .lst (cutP xs lo hi)) S := rfl
@[simp] theorem sliZ_tup (lo hi : Option Int) : sliZ (.nd .tup xs) lo hi S = .ok (.nd .tup (cutP xs lo hi)) S := rfl
theorem subZ_lst {x : PV} (h : atI xs i = some x) : subZ (.nd .lst xs) (.int i) S = .ok x S := by
  simp only [subZ, view]
  rw [h]
theorem subZ_tup {x : PV} (h : atI xs i = some x) : subZ (.nd .tup xs) (.int i) S = .ok x S := by
  simp only [subZ, view]
  rw [h]
theorem subZ_ref {n : Nat} {x : PV} (hn : S[n]? = some (some (.lst, xs))) (h : atI xs i = some x) : subZ (.ref n) (.int i) S = .ok x S := by
  simp only [subZ]
  rw [view_ref hn]
  simp only
  rw [h]
theorem atI_ofNat {α : Type} (xs : List α) (n : Nat) : atI xs (n : Int) = xs[n]? := by
  cases h : xs[n]? with
  | some v => exact atI_nat h
  | none =>
    unfold atI ixN
    have : ¬ (n : Int) < xs.length := by
      have := List.getElem?_eq_none_iff.mp h
      omega
    simp [this]
theorem mkNd_ok {kd : Kd} {xs : List PV} (h : xs.length ≤ 16777216) : mkNd kd xs S = .ok (.nd kd xs) S := by unfold mkNd; rw [if_pos h]
theorem mkRf_ok {kd : Kd} {xs : List PV} (h : xs.length ≤ 16777216) : mkRf kd xs S = .ok (.ref S.length) (S ++ [some (kd, xs)]) := by unfold mkRf; rw [if_pos h]
theorem mulOk_l {i j : Int} (h : i.natAbs < 18446744073709551616) : mulOk i j := .inl (by omega)
theorem mulOk_r {i j : Int} (h : j.natAbs < 18446744073709551616) : mulOk i j := .inr (.inl (by omega))
theorem divb_of {n : Nat} (h : n < 18446744073709551616) : n < DIVB := lt_DIVB (k := 64) (by omega) (by decide)
end
/-! ### data -/
theorem datL_ints (ns : List Int) : datL (ns.map PV.int) = some (ns.map PyData.int) := by
  induction ns with
  | nil => rfl
  | cons n ns ih => rw [List.map_cons, datL, dat, ih]; rfl
theorem canLay_ints (ns : List Int) : PyData.canLayAll0 (ns.map PyData.int) = true := by
  induction ns with
  | nil => rfl
  | cons n ns ih => rw [List.map_cons, PyData.canLayAll0, ih]; rfl
theorem depth_ints (ns : List Int) : PyData.depthAll (ns.map PyData.int) = 0 := by
  induction ns with
  | nil => rfl
  | cons n ns ih => rw [List.map_cons, PyData.depthAll, ih]; rfl
theorem shaped_ints (ns : List Int) : SeqAt.shaped (.list (ns.map PyData.int)) = true := by
  unfold SeqAt.shaped
  rw [PyData.canLay0, PyData.depth, canLay_ints, depth_ints]; rfl
theorem shaped_intsT (ns : List Int) : SeqAt.shaped (.tuple (ns.map PyData.int)) = true := by
  unfold SeqAt.shaped
  rw [PyData.canLay0, PyData.depth, canLay_ints, depth_ints]; rfl
theorem eqv_ints : ∀ ns ms : List Int, PyData.eqvAll (ns.map PyData.int) (ms.map PyData.int) = decide (ns = ms)
  | [], [] => by rw [List.map_nil, PyData.eqvAll]; simp
  | [], m :: ms => by rw [List.map_nil, List.map_cons, PyData.eqvAll]; simp
  | n :: ns, [] => by rw [List.map_nil, List.map_cons, PyData.eqvAll]; simp
  | n :: ns, m :: ms => by
    rw [List.map_cons, List.map_cons, PyData.eqvAll, PyData.eqv, eqv_ints ns ms]
    by_cases h : n = m <;> simp [h]
/-- a list that is compared with [] -/
theorem datL_len : ∀ (xs : List PV) (ds : List PyData), datL xs = some ds → ds.length = xs.length
  | [], ds, h => by rw [datL] at h; cases h; rfl
  | x :: xs, ds, h => by
    rw [datL, Option.bind_eq_some_iff] at h
    obtain ⟨d, h1, h2⟩ := h
    rw [Option.map_eq_some_iff] at h2
    obtain ⟨ds', h3, rfl⟩ := h2
    rw [List.length_cons, List.length_cons, datL_len xs ds' h3]
theorem eqv_nil (ds : List PyData) : PyData.eqv (.list ds) (.list []) = decide (ds = []) := by
  cases ds <;> rw [PyData.eqv, PyData.eqvAll] <;> simp
theorem shaped_nil : SeqAt.shaped (.list []) = true := by
  unfold SeqAt.shaped; rw [PyData.canLay0, PyData.canLayAll0]; rfl
theorem neZ_nil {xs : List PV} {ds : List PyData} {S : Sto} (h : datL xs = some ds) (hs : SeqAt.shaped (.list ds) = true) : neZ (.nd .lst xs) (.nd .lst []) S = .ok (.bl (!decide (xs = []))) S := by
  show neD (.nd .lst xs) (.nd .lst []) S = _
  unfold neD datS view
  simp only [dat, h, datL, Option.map_some, hs, shaped_nil, and_self, if_true, eqv_nil]
  have := datL_len xs ds h
  have e : decide (ds = []) = decide (xs = []) := by
    cases ds with
    | nil => cases xs with
      | nil => rfl
      | cons x xs => simp at this
    | cons d ds => cases xs with
      | nil => simp at this
      | cons x xs => rfl
  rw [e]
theorem eqZ_nil {xs : List PV} {ds : List PyData} {S : Sto} (h : datL xs = some ds) (hs : SeqAt.shaped (.list ds) = true) : eqZ (.nd .lst xs) (.nd .lst []) S = .ok (.bl (decide (xs = []))) S := by
  show eqD (.nd .lst xs) (.nd .lst []) S = _
  unfold eqD datS view
  simp only [dat, h, datL, Option.map_some, hs, shaped_nil, and_self, if_true, eqv_nil]
  have := datL_len xs ds h
  have e : decide (ds = []) = decide (xs = []) := by
    cases ds with
    | nil => cases xs with
      | nil => rfl
      | cons x xs => simp at this
    | cons d ds => cases xs with
      | nil => simp at this
      | cons x xs => rfl
  rw [e]
end Z
end
end
section
set_option Elab.async false
set_option linter.all false
set_option maxRecDepth 100000
set_option maxHeartbeats 1000000
/-! ZD: the laws' pen. -/
noncomputable section
namespace Z
open PySem PySem.Spec PyProof.Rows L2

/-- the pen as it stands in the store -/
def pn (cs : List Int) (a lf : Int) : Option (Kd × List PV) := some (.lst, [.nd .lst (cs.map .int), .int a, .int lf])
section
variable {cs : List Int} {a lf v : Int} {T : Sto}
theorem pn_0 : subZ (.ref 0) (.int 0) (pn cs a lf :: T) = .ok (.nd .lst (cs.map .int)) (pn cs a lf :: T) := rfl
theorem pn_1 : subZ (.ref 0) (.int 1) (pn cs a lf :: T) = .ok (.int a) (pn cs a lf :: T) := rfl
theorem pn_2 : subZ (.ref 0) (.int 2) (pn cs a lf :: T) = .ok (.int lf) (pn cs a lf :: T) := rfl
theorem pn_p1 : putP (.ref 0) (.int 1) (.int v) (pn cs a lf :: T) = some (pn cs v lf :: T) := rfl
theorem pn_p2 : putP (.ref 0) (.int 2) (.int v) (pn cs a lf :: T) = some (pn cs a v :: T) := rfl
end
def drawT (m1 k3 k4 m2 k5 k6 k7 m3 : Int) : DS := dSeq (dIfS (dAndT (dB (dBin ltZ (dVar 3) (dApp lenP (dCons (dBin subZ (dVar 0) (dC (.int 0))) (dNil))))) (dB (dBin geZ (dApp absP (dCons (dVar 4) (dNil))) (dBin powP (dC (.int 10)) (dC (.int 18)))))) (dSeq (dSet 5 (dBin addP (dBin mulZ (dC (.int 2)) (dBin subP (dApp absP (dCons (dVar 4) (dNil))) (dBin powP (dC (.int 10)) (dC (.int 18))))) (dApp intP (dCons (dBin ltZ (dVar 4) (dC (.int 0))) (dNil))))) (dSeq (dAsg (dBin divP (dApp intP (dCons (dVar 5) (dNil))) (dVar 1)) (gzI (dVar 0) (dC (.int 2)))) (dRet (dBin modP (dApp intP (dCons (dVar 5) (dNil))) (dVar 1))))) (dSkip)) (dSeq (dSet 6 (dBin modP (dApp intP (dCons (dBin powP (dBin addP (dBin addP (dBin modP (dApp intP (dCons (dVar 4) (dNil))) (dC (.int m1))) (dBin mulZ (dC (.int k3)) (dVar 3))) (dC (.int k4))) (dC (.int 5))) (dNil))) (dC (.int m2)))) (dSeq (dSet 6 (dBin modP (dApp intP (dCons (dBin powP (dBin addP (dBin addP (dBin mulZ (dVar 6) (dBin addP (dBin mulZ (dC (.int 2)) (dVar 3)) (dC (.int k5)))) (dBin mulZ (dBin mulZ (dC (.int k6)) (dVar 3)) (dVar 3))) (dC (.int k7))) (dC (.int 3))) (dNil))) (dC (.int m3)))) (dRet (dBin modP (dApp intP (dCons (dBin divP (dVar 6) (dC (.int 32))) (dNil))) (dVar 1)))))
def drawB (k1 k2 m1 k3 k4 m2 k5 k6 k7 m3 : Int) : DS := dSeq (dIfS (dB (dBin gtZ (dBin subZ (dVar 0) (dC (.int 2))) (dC (.int 0)))) (dSeq (dSet 2 (dBin modP (dApp intP (dCons (dBin subZ (dVar 0) (dC (.int 2))) (dNil))) (dVar 1))) (dSeq (dAsg (dBin divP (dApp intP (dCons (dBin subZ (dVar 0) (dC (.int 2))) (dNil))) (dVar 1)) (gzI (dVar 0) (dC (.int 2)))) (dRet (dVar 2)))) (dSkip)) (dSeq (dSet 3 (dBin subZ (dVar 0) (dC (.int 1)))) (dSeq (dAsg (dBin addP (dVar 3) (dC (.int 1))) (gzI (dVar 0) (dC (.int 1)))) (dSeq (dSet 4 (dBin addP (dBin mulZ (dC (.int k1)) (dVar 3)) (dC (.int k2)))) (dSeq (dIfS (dB (dBin neZ (dBin subZ (dVar 0) (dC (.int 0))) (dLst (dNil)))) (dSet 4 (dBin subZ (dBin subZ (dVar 0) (dC (.int 0))) (dBin modP (dApp intP (dCons (dVar 3) (dNil))) (dApp lenP (dCons (dBin subZ (dVar 0) (dC (.int 0))) (dNil)))))) (dSkip)) (drawT m1 k3 k4 m2 k5 k6 k7 m3)))))
/-- small constants -/
abbrev Sm (k : Int) : Prop := 0 ≤ k ∧ k ≤ 1000000
abbrev Md (k : Int) : Prop := 0 < k ∧ k ≤ 4294967296
theorem wk {e : Int} (h1 : 0 ≤ e) (h2 : e < 18446744073709551616) : e.natAbs < 2 ^ 64 := by omega
theorem atI_mod {cs : List Int} (h : cs ≠ []) (a : Int) : ∃ c, atI (cs.map PV.int) (a % (cs.length : Nat)) = some (.int c) := by
  have hl : 0 < cs.length := List.length_pos_iff.mpr h
  have h1 := Int.emod_nonneg a (b := (cs.length : Nat)) (by omega)
  have h2 := Int.emod_lt_of_pos a (b := (cs.length : Nat)) (by omega)
  obtain ⟨n, hn⟩ := Int.eq_ofNat_of_zero_le h1
  rw [hn] at h2 ⊢
  have h3 : n < cs.length := by omega
  refine ⟨cs[n], ?_⟩
  rw [atI_ofNat, List.getElem?_map, List.getElem?_eq_getElem h3]; rfl
theorem natAbs_pos {e : Int} (h : 0 ≤ e) {n : Nat} (h2 : e < n) : e.natAbs < n := by omega
theorem tail_ok {m1 k3 k4 m2 k5 k6 k7 m3 : Int} (s3 : Sm k3) (s4 : Sm k4) (s5 : Sm k5) (s6 : Sm k6) (s7 : Sm k7) (d1 : Md m1) (d2 : Md m2) (d3 : Md m3)
    {cs : List Int} {a many c : Int} {T : Sto} (hm : 1 ≤ many) (hm2 : many ≤ 1000000000) (ha : 0 ≤ a) (ha2 : a ≤ 100000) :
    ∃ v lf', drawT m1 k3 k4 m2 k5 k6 k7 m3 [some (.ref 0), some (.int many), none, some (.int a), some (.int c), none, none] (pn cs (a + 1) 0 :: T) = .ret (.int v) (pn cs (a + 1) lf' :: T) ∧ 0 ≤ v ∧ v < many ∧ 0 ≤ lf' := by
  have dm : 0 < many ∧ many.natAbs < DIVB := ⟨by omega, divb_of (by omega)⟩
  have pm : 0 < many := by omega
  have e18 : (10 : Int) ^ (18 : Int).toNat = 1000000000000000000 := by decide
  by_cases h : a < cs.length ∧ 1000000000000000000 ≤ (if c < 0 then -c else c)
  · obtain ⟨h1, h2⟩ := h
    have hg : 0 ≤ 2 * ((if c < 0 then -c else c) - 1000000000000000000) + (if c < 0 then 1 else 0) := by split <;> split at h2 <;> omega
    refine ⟨(2 * ((if c < 0 then -c else c) - 1000000000000000000) + (if c < 0 then 1 else 0)) % many, (2 * ((if c < 0 then -c else c) - 1000000000000000000) + (if c < 0 then 1 else 0)) / many, ?_, Int.emod_nonneg _ (by omega), Int.emod_lt_of_pos _ pm, Int.ediv_nonneg hg (by omega)⟩
    unfold drawT
    have mo : mulOk 2 ((if c < 0 then -c else c) - 1000000000000000000) := mulOk_l (by decide)
    simp [pn_0, pn_2, pn_p2, h1, h2, modP_int _ _ _ pm, divP_int _ _ _ dm, mo]
  · have hq1 : 0 ≤ c % m1 := Int.emod_nonneg _ (by omega)
    have hq2 : c % m1 < m1 := Int.emod_lt_of_pos _ (by omega)
    have hk3 : 0 ≤ k3 * a := Int.mul_nonneg s3.1 ha
    have hk3' : k3 * a ≤ 1000000 * 100000 := Int.mul_le_mul s3.2 ha2 ha (by decide)
    have he1 : (c % m1 + k3 * a + k4).natAbs < 18446744073709551616 := by omega
    generalize hE1 : c % m1 + k3 * a + k4 = e1 at he1
    have hr1 : 0 ≤ e1 ^ 5 % m2 := Int.emod_nonneg _ (by omega)
    have hr2 : e1 ^ 5 % m2 < m2 := Int.emod_lt_of_pos _ (by omega)
    have hk6 : 0 ≤ k6 * a := Int.mul_nonneg s6.1 ha
    have hk6' : k6 * a ≤ 1000000 * 100000 := Int.mul_le_mul s6.2 ha2 ha (by decide)
    have hk6a : 0 ≤ k6 * a * a := Int.mul_nonneg hk6 ha
    have hk6a' : k6 * a * a ≤ 1000000 * 100000 * 100000 := Int.mul_le_mul hk6' ha2 ha (by decide)
    have hp : 0 ≤ e1 ^ 5 % m2 * (2 * a + k5) := Int.mul_nonneg hr1 (by omega)
    have hp' : e1 ^ 5 % m2 * (2 * a + k5) ≤ 4294967296 * 1200000 := Int.mul_le_mul (by omega) (by omega) (by omega) (by decide)
    have he2 : (e1 ^ 5 % m2 * (2 * a + k5) + k6 * a * a + k7).natAbs < 18446744073709551616 := by omega
    have mo1 : mulOk k3 a := mulOk_l (by omega)
    have mo2 : mulOk 2 a := mulOk_l (by decide)
    have mo3 : mulOk k6 a := mulOk_l (by omega)
    have mo4 : mulOk (k6 * a) a := mulOk_r (by omega)
    have mo5 : mulOk (e1 ^ 5 % m2) (2 * a + k5) := mulOk_l (by omega)
    have q1 : 0 < m1 := d1.1
    have q2 : 0 < m2 := d2.1
    have q3 : 0 < m3 := d3.1
    have d32 : (0 : Int) < 32 ∧ (32 : Int).natAbs < DIVB := ⟨by decide, divb_of (by decide)⟩
    refine ⟨(e1 ^ 5 % m2 * (2 * a + k5) + k6 * a * a + k7) ^ 3 % m3 / 32 % many, 0, ?_, Int.emod_nonneg _ (by omega), Int.emod_lt_of_pos _ pm, Int.le_refl _⟩
    have hn : (decide (a < (cs.length : Int)) && decide (1000000000000000000 ≤ (if c < 0 then -c else c))) = false := by
      rw [Bool.and_eq_false_iff]
      by_cases hc : a < (cs.length : Int)
      · right
        exact decide_eq_false fun z => h ⟨hc, z⟩
      · left
        exact decide_eq_false hc
    unfold drawT
    by_cases hc : a < (cs.length : Int)
    · have hc2 : ¬ 1000000000000000000 ≤ (if c < 0 then -c else c) := fun z => h ⟨hc, z⟩
      simp [pn_0, pn_2, hc, hc2, modP_int _ _ _ pm, modP_int _ _ _ q1, modP_int _ _ _ q2, modP_int _ _ _ q3, divP_int _ _ _ d32, mo1, mo2, mo3, mo4, mo5, hE1, he1, he2]
    · simp [pn_0, pn_2, hc, modP_int _ _ _ pm, modP_int _ _ _ q1, modP_int _ _ _ q2, modP_int _ _ _ q3, divP_int _ _ _ d32, mo1, mo2, mo3, mo4, mo5, hE1, he1, he2]
theorem draw_ok {k1 k2 m1 k3 k4 m2 k5 k6 k7 m3 : Int} (s1 : Sm k1) (s3 : Sm k3) (s4 : Sm k4) (s5 : Sm k5) (s6 : Sm k6) (s7 : Sm k7) (d1 : Md m1) (d2 : Md m2) (d3 : Md m3)
    {cs : List Int} {a lf many : Int} {T : Sto} (hm : 1 ≤ many) (hm2 : many ≤ 1000000000) (ha : 0 ≤ a) (ha2 : a ≤ 100000) (hlf : 0 ≤ lf) :
    ∃ v a' lf', dDef 2 7 (drawB k1 k2 m1 k3 k4 m2 k5 k6 k7 m3) [.ref 0, .int many] (pn cs a lf :: T) = .ok (.int v) (pn cs a' lf' :: T) ∧ 0 ≤ v ∧ v < many ∧ a ≤ a' ∧ a' ≤ a + 1 ∧ 0 ≤ lf' := by
  have dm : 0 < many ∧ many.natAbs < DIVB := ⟨by omega, divb_of (by omega)⟩
  have pm : 0 < many := by omega
  by_cases h : 0 < lf
  · refine ⟨lf % many, a, lf / many, ?_, Int.emod_nonneg _ (by omega), Int.emod_lt_of_pos _ pm, Int.le_refl _, by omega, Int.ediv_nonneg (by omega) (by omega)⟩
    refine dDef_ret _ _ rfl ?_ (Nat.le_refl _)
    unfold drawB
    simp [pn_2, pn_p2, h, modP_int _ _ _ pm, divP_int _ _ _ dm]
  · have h0 : lf = 0 := by omega
    subst h0
    have mo : mulOk k1 a := mulOk_l (by omega)
    by_cases hcs : cs = []
    · subst hcs
      obtain ⟨v, lf', h1, h2, h3, h4⟩ := tail_ok (cs := []) (c := k1 * a + k2) (T := T) s3 s4 s5 s6 s7 d1 d2 d3 hm hm2 ha ha2
      refine ⟨v, a + 1, lf', ?_, h2, h3, by omega, Int.le_refl _, h4⟩
      refine dDef_ret _ _ rfl ?_ (Nat.le_refl _)
      unfold drawB
      have hne := neZ_nil (S := pn [] (a + 1) 0 :: T) (datL_ints []) (shaped_ints [])
      simp [pn_0, pn_1, pn_2, pn_p1, mo, mkNd, hne] at hne ⊢
      exact h1
    · obtain ⟨c, hc⟩ := atI_mod hcs a
      obtain ⟨v, lf', h1, h2, h3, h4⟩ := tail_ok (cs := cs) (c := c) (T := T) s3 s4 s5 s6 s7 d1 d2 d3 hm hm2 ha ha2
      refine ⟨v, a + 1, lf', ?_, h2, h3, by omega, Int.le_refl _, h4⟩
      refine dDef_ret _ _ rfl ?_ (Nat.le_refl _)
      unfold drawB
      have hne := neZ_nil (S := pn cs (a + 1) 0 :: T) (datL_ints cs) (shaped_ints cs)
      have pl : 0 < (cs.length : Int) := by have := List.length_pos_iff.mpr hcs; omega
      simp [pn_0, pn_1, pn_2, pn_p1, mo, mkNd, hne, hcs, modP_int _ _ _ pl, subZ_lst _ _ _ hc]
      exact h1
end Z
end
end
section
set_option Elab.async false
set_option linter.all false
set_option maxRecDepth 100000
set_option maxHeartbeats 1000000
/-! ZL: loops and comprehensions by invariants; the pen by the number of its draws. -/
noncomputable section
namespace Z
open PySem PySem.Spec PyProof.Rows L2

theorem lcZ_pure {t : TgZ} {hs : List (PV × Kd × List PV)} {el : DE} {l : Loc} {S : Sto} {g : PV → PV} (hh : heldB hs S = true) : ∀ xs : List PV, (∀ x ∈ xs, ∃ ps, asg t x = some ps ∧ el (setZ l ps) S = .ok (g x) S) → lcZ t hs dYes el l xs S = .ok (xs.map g) S
  | [], _ => rfl
  | x :: xs, h => by
    obtain ⟨ps, h1, h2⟩ := h x List.mem_cons_self
    rw [lcZ, h1]
    simp only [dYes_ap]
    rw [h2]
    simp only
    rw [if_pos hh, lcZ_pure hh xs fun y hy => h y (List.mem_cons_of_mem _ hy)]
    rfl
theorem lcZ_inv {t : TgZ} {el : DE} {l : Loc} (P : PV → Prop) (I : Nat → Sto → Prop) : ∀ (xs : List PV) (k : Nat) (S : Sto), I k S →
    (∀ i x S, xs[i]? = some x → I (k + i) S → ∃ ps v S', asg t x = some ps ∧ el (setZ l ps) S = .ok v S' ∧ P v ∧ I (k + i + 1) S') →
    ∃ vs S', lcZ t [] dYes el l xs S = .ok vs S' ∧ vs.length = xs.length ∧ (∀ v ∈ vs, P v) ∧ I (k + xs.length) S'
  | [], k, S, h, _ => ⟨[], S, rfl, rfl, fun v hv => (nomatch hv), h⟩
  | x :: xs, k, S, h, st => by
    obtain ⟨ps, v, S1, h1, h2, h3, h4⟩ := st 0 x S rfl h
    obtain ⟨vs, S2, g1, g2, g3, g4⟩ := lcZ_inv P I xs (k + 1) S1 h4 fun i y S hy hI => by
      have e : k + (i + 1) = k + 1 + i := by omega
      have := st (i + 1) y S (by rw [List.getElem?_cons_succ]; exact hy) (by rw [e]; exact hI)
      rw [e] at this
      exact this
    refine ⟨v :: vs, S2, ?_, by rw [List.length_cons, g2]; rfl, fun w hw => ?_, (show k + (xs.length + 1) = k + 1 + xs.length by omega) ▸ g4⟩
    · rw [lcZ, h1]
      simp only [dYes_ap]
      rw [h2]
      simp only
      rw [heldB_nil, g1]
      rfl
    · rcases List.mem_cons.mp hw with e | e
      · rw [e]; exact h3
      · exact g3 w e
theorem forZ_inv {t : TgZ} {hs : List (PV × Kd × List PV)} {b : DS} (Q : Nat → Loc → Sto → Prop) : ∀ (xs : List PV) (k : Nat) (l : Loc) (S : Sto), Q k l S →
    (∀ i x l S, xs[i]? = some x → Q (k + i) l S → ∃ ps l' S', asg t x = some ps ∧ b (setZ l ps) S = .nx l' S' ∧ heldB hs S' = true ∧ Q (k + i + 1) l' S') →
    ∃ l' S', forZ t hs b xs l S = .nx l' S' ∧ Q (k + xs.length) l' S'
  | [], k, l, S, h, _ => ⟨l, S, rfl, h⟩
  | x :: xs, k, l, S, h, st => by
    obtain ⟨ps, l1, S1, h1, h2, h3, h4⟩ := st 0 x l S rfl h
    obtain ⟨l2, S2, g1, g2⟩ := forZ_inv Q xs (k + 1) l1 S1 h4 fun i y l S hy hI => by
      have e : k + (i + 1) = k + 1 + i := by omega
      have := st (i + 1) y l S (by rw [List.getElem?_cons_succ]; exact hy) (by rw [e]; exact hI)
      rw [e] at this
      exact this
    refine ⟨l2, S2, ?_, (show k + (xs.length + 1) = k + 1 + xs.length by omega) ▸ g2⟩
    rw [forZ, h1]
    simp only
    rw [h2]
    simp only
    rw [if_pos h3]
    exact g1
theorem dLc_pure {vs : List Nat} {di : DI} {t : TgZ} {el : DE} {l : Loc} {S : Sto} {it : ItZ} (g : PV → PV) (hi : di l S = .ok it S) (hh : heldB it.held S = true) (hl : it.items.length ≤ 16777216)
    (he : ∀ x ∈ it.items, ∃ ps, asg t x = some ps ∧ el (setZ (wipeZ l vs) ps) S = .ok (g x) S) : dLc vs di t dYes el l S = .ok (.nd .lst (it.items.map g)) S := by
  rw [dLc_ap, dLc0_ap, hi, bind_ok, if_pos ⟨hh, hl⟩, lcZ_pure hh it.items he, bind_ok]
theorem dLcM_pure {vs : List Nat} {di : DI} {t : TgZ} {el : DE} {l : Loc} {S : Sto} {it : ItZ} (g : PV → PV) (hi : di l S = .ok it S) (hh : heldB it.held S = true) (hl : it.items.length ≤ 16777216)
    (he : ∀ x ∈ it.items, ∃ ps, asg t x = some ps ∧ el (setZ (wipeZ l vs) ps) S = .ok (g x) S) : dLcM vs di t dYes el l S = .ok (.ref S.length) (S ++ [some (.lst, it.items.map g)]) := by
  rw [dLcM_ap, dLc0_ap, hi, bind_ok, if_pos ⟨hh, hl⟩, lcZ_pure hh it.items he, bind_ok]
theorem dFor_eq {di : DI} {t : TgZ} {b : DS} {l : Loc} {S : Sto} {it : ItZ} (h : di l S = .ok it S) (hh : heldB it.held S = true) : dFor di t b l S = forZ t it.held b it.items l S := by
  rw [dFor_ap, h, st_ok, if_pos hh]
theorem dLc_inv {vs : List Nat} {di : DI} {t : TgZ} {el : DE} {l : Loc} {S : Sto} {items : List PV} (P : PV → Prop) (I : Nat → Sto → Prop) (hi : di l S = .ok ⟨items, []⟩ S) (hl : items.length ≤ 16777216) (h0 : I 0 S)
    (st : ∀ i x S, items[i]? = some x → I i S → ∃ ps v S', asg t x = some ps ∧ el (setZ (wipeZ l vs) ps) S = .ok v S' ∧ P v ∧ I (i + 1) S') :
    ∃ ws S', dLc vs di t dYes el l S = .ok (.nd .lst ws) S' ∧ ws.length = items.length ∧ (∀ v ∈ ws, P v) ∧ I items.length S' := by
  obtain ⟨ws, S', h1, h2, h3, h4⟩ := lcZ_inv (t := t) (el := el) (l := wipeZ l vs) P I items 0 S h0 (by
    intro i x S hx hI
    rw [Nat.zero_add] at hI ⊢
    exact st i x S hx hI)
  rw [Nat.zero_add] at h4
  refine ⟨ws, S', ?_, h2, h3, h4⟩
  rw [dLc_ap, dLc0_ap, hi, bind_ok, if_pos ⟨heldB_nil S, hl⟩, h1, bind_ok]
theorem all_ints {B : Nat} : ∀ ws : List PV, (∀ v ∈ ws, ∃ i : Int, v = .int i ∧ i.natAbs ≤ B) → ∃ r : List Int, ws = r.map .int ∧ r.length = ws.length ∧ ∀ v ∈ r, v.natAbs ≤ B
  | [], _ => ⟨[], rfl, rfl, fun v hv => (nomatch hv)⟩
  | w :: ws, h => by
    obtain ⟨i, rfl, hi⟩ := h w List.mem_cons_self
    obtain ⟨r, rfl, h2, h3⟩ := all_ints ws fun v hv => h v (List.mem_cons_of_mem _ hv)
    refine ⟨i :: r, rfl, by rw [List.length_cons, h2]; rfl, fun v hv => ?_⟩
    rcases List.mem_cons.mp hv with e | e
    · rw [e]; exact hi
    · exact h3 v e
theorem rngZ_len (lo : Int) (n : Nat) : (rngZ lo n).length = n := by simp [rngZ]
theorem rngZ_get {lo : Int} {n i : Nat} {x : PV} (h : (rngZ lo n)[i]? = some x) : i < n ∧ x = .int (lo + (i : Nat)) := by
  have hi : i < n := by
    have := (List.getElem?_eq_some_iff.mp h).1
    rwa [rngZ_len] at this
  refine ⟨hi, ?_⟩
  simp [rngZ, hi] at h
  exact h.symm
theorem rngP_nat (n : Nat) (S : Sto) (h : n < 1000000000000) : rngP [.int (n : Int)] S = .ok ⟨rngZ 0 n, []⟩ S := by
  unfold rngP
  simp only
  rw [if_pos (by omega)]
  rfl
/-- a list of one value, n times -/
theorem mulZ_rep (x : PV) (n : Nat) (S : Sto) (h : n ≤ 16777216) : mulZ (.nd .lst [x]) (.int (n : Int)) S = .ok (.nd .lst (List.replicate n x)) S := by
  simp only [mulZ, view]
  rw [if_pos ⟨by omega, by omega, by simp; omega⟩]
  congr 2
  have : ((n : Int)).toNat = n := by omega
  rw [this]
  clear h this
  induction n with
  | zero => rfl
  | succ n ih => rw [List.replicate_succ, List.flatten_cons, ih, List.replicate_succ]; rfl
theorem asg2 {i j : Nat} {x y : PV} : asg (.tp [.nm i, .nm j]) (.nd .tup [x, y]) = some [(i, x), (j, y)] := by
  simp [asg, asgs]
theorem asg1 {i : Nat} {x : PV} : asg (.nm i) x = some [(i, x)] := by simp [asg]
theorem zipZ_map : ∀ fs ls : List Int, zipZ (fs.map PV.int) (ls.map PV.int) = (fs.zip ls).map fun p => .nd .tup [.int p.1, .int p.2]
  | [], ls => by simp [zipZ]
  | f :: fs, [] => by simp [zipZ]
  | f :: fs, l :: ls => by simp [zipZ, zipZ_map fs ls]
theorem atI_0 {α : Type} (x : α) (xs : List α) : atI (x :: xs) 0 = some x := atI_ofNat (x :: xs) 0
theorem subZ_l0 (x : PV) (xs : List PV) (S : Sto) : subZ (.nd .lst (x :: xs)) (.int 0) S = .ok x S := subZ_lst S 0 _ (atI_0 x xs)
theorem subZ_t0 (x : PV) (xs : List PV) (S : Sto) : subZ (.nd .tup (x :: xs)) (.int 0) S = .ok x S := subZ_tup S 0 _ (atI_0 x xs)
theorem sliZ_ref {n : Nat} {xs : List PV} {S : Sto} (h : S[n]? = some (some (.lst, xs))) (lo hi : Option Int) : sliZ (.ref n) lo hi S = .ok (.nd .lst (cutP xs lo hi)) S := by
  simp only [sliZ]
  rw [view_ref h]
def decI (x : PV) : List Int := match x with
  | .nd _ xs => (asIs xs).getD []
  | _ => []
theorem decI_nd (k : Kd) (r : List Int) : decI (.nd k (r.map .int)) = r := by show (asIs (r.map .int)).getD [] = r; rw [asIs_map]; rfl
theorem DIVB_lt {n : Nat} (h : n < DIVB) : n < BIG := by
  rw [DIVB_eq] at h
  exact lt_BIG h (by decide)
theorem mulOk_b {i j : Int} (h1 : i.natAbs < DIVB) (h2 : j.natAbs < DIVB) : mulOk i j := .inr (.inr ⟨DIVB_lt h1, DIVB_lt h2⟩)
theorem cutP_from (xs : List PV) (k : Nat) : cutP xs (some (k : Int)) none = xs.drop k := by
  unfold cutP
  rw [HT.sIx_nat, HT.sIx_none]
  by_cases h : k ≤ xs.length
  · rw [Nat.min_eq_left h, List.take_of_length_le (by simp)]
  · rw [Nat.min_eq_right (by omega), List.drop_of_length_le (Nat.le_refl _), List.drop_of_length_le (by omega)]
    simp
theorem cutP_to (xs : List PV) (k : Nat) : cutP xs none (some (k : Int)) = xs.take k := by
  unfold cutP
  rw [HT.sIx_nat, HT.sIx_none]
  by_cases h : k ≤ xs.length
  · rw [Nat.min_eq_left h]; simp
  · rw [Nat.min_eq_right (by omega), List.take_of_length_le (by omega : xs.length ≤ k)]; simp
theorem cutP_1 (xs : List PV) : cutP xs (some 1) none = xs.drop 1 := cutP_from xs 1
/-- the pen in front of T, after at most n draws -/
def PenS (n : Nat) (T S : Sto) : Prop := ∃ cs a lf, S = pn cs a lf :: T ∧ 0 ≤ a ∧ a ≤ n ∧ 0 ≤ lf
/-- what a law's draw keeps -/
def DrOk (dr : DF) : Prop := ∀ (n : Nat) (T S : Sto) (many : Int), PenS n T S → n ≤ 100000 → 1 ≤ many → many ≤ 1000000000 → ∃ v S', dr [.ref 0, .int many] S = .ok (.int v) S' ∧ 0 ≤ v ∧ v < many ∧ PenS (n + 1) T S'
theorem PenS.mono {n m : Nat} {T S : Sto} (h : PenS n T S) (hn : n ≤ m) : PenS m T S := by
  obtain ⟨cs, a, lf, h1, h2, h3, h4⟩ := h
  exact ⟨cs, a, lf, h1, h2, by omega, h4⟩
theorem PenS.len {n : Nat} {T S : Sto} (h : PenS n T S) : S.length = T.length + 1 := by
  obtain ⟨cs, a, lf, h1, _⟩ := h
  rw [h1]; rfl
/-- further places behind it -/
theorem PenS.app {n : Nat} {T S X : Sto} (h : PenS n T S) : PenS n (T ++ X) (S ++ X) := by
  obtain ⟨cs, a, lf, h1, h2⟩ := h
  exact ⟨cs, a, lf, by rw [h1]; rfl, h2⟩
theorem PenS.get {n : Nat} {T S : Sto} (h : PenS n T S) (i : Nat) : S[i + 1]? = T[i]? := by
  obtain ⟨cs, a, lf, h1, _⟩ := h
  rw [h1]; rfl
theorem PenS.set {n : Nat} {T S : Sto} (h : PenS n T S) (i : Nat) (o : Option (Kd × List PV)) : PenS n (T.set i o) (S.set (i + 1) o) := by
  obtain ⟨cs, a, lf, h1, h2⟩ := h
  exact ⟨cs, a, lf, by rw [h1]; rfl, h2⟩
/-- the pen's own places closed: what is behind T goes -/
theorem PenS.shut {n m : Nat} {T X S S1 : Sto} (h : PenS n T S) (h1 : PenS m (T ++ X) S1) : fitsS S S1 = true ∧ PenS m T (S1.take S.length) := by
  obtain ⟨cs, a, lf, e, _⟩ := h
  obtain ⟨cs1, a1, lf1, e1, q⟩ := h1
  subst e e1
  refine ⟨fitsS_head ?_, cs1, a1, lf1, ?_, q⟩
  · show (fits _ _ && _) = true
    rw [fits, fits_ints]; rfl
  · show (pn cs1 a1 lf1 :: (T ++ X)).take (T.length + 1) = _
    rw [List.take_succ_cons, List.take_left]
theorem dr_of {k1 k2 m1 k3 k4 m2 k5 k6 k7 m3 : Int} (s1 : Sm k1) (s3 : Sm k3) (s4 : Sm k4) (s5 : Sm k5) (s6 : Sm k6) (s7 : Sm k7) (d1 : Md m1) (d2 : Md m2) (d3 : Md m3) : DrOk (dDef 2 7 (drawB k1 k2 m1 k3 k4 m2 k5 k6 k7 m3)) := by
  rintro n T S many ⟨cs, a, lf, rfl, ha, ha2, hlf⟩ hn hm hm2
  obtain ⟨v, a', lf', h1, h2, h3, h4, h5, h6⟩ := draw_ok (T := T) (cs := cs) (lf := lf) s1 s3 s4 s5 s6 s7 d1 d2 d3 hm hm2 ha (by omega) hlf
  exact ⟨v, _, h1, h2, h3, cs, a', lf', rfl, by omega, by omega, h6⟩
def pickB (dr : DF) : DS := dRet (dBin subZ (dVar 1) (dFn dr (dCons (dVar 0) (dCons (dApp lenP (dCons (dVar 1) (dNil))) (dNil)))))
theorem pick_ok {dr : DF} (hd : DrOk dr) {n : Nat} {T S : Sto} {xs : List PV} (h : PenS n T S) (hn : n ≤ 100000) (hx : xs ≠ []) (hx2 : xs.length ≤ 1000000000) : ∃ x S', dDef 2 2 (pickB dr) [.ref 0, .nd .lst xs] S = .ok x S' ∧ x ∈ xs ∧ PenS (n + 1) T S' := by
  have hl : 0 < xs.length := List.length_pos_iff.mpr hx
  obtain ⟨v, S', h1, h2, h3, h4⟩ := hd n T S xs.length h hn (by omega) (by omega)
  obtain ⟨i, rfl⟩ := Int.eq_ofNat_of_zero_le h2
  have hi : i < xs.length := by omega
  refine ⟨xs[i], S', ?_, List.getElem_mem hi, h4⟩
  refine dDef_ret _ _ rfl ?_ (by rw [h4.len, h.len]; exact Nat.le_refl _)
  unfold pickB
  have hat : atI xs (i : Int) = some xs[i] := by rw [atI_ofNat, List.getElem?_eq_getElem hi]
  simp [h1, subZ_lst _ _ _ hat]
theorem optMap_id {g : PV → Option PV} : ∀ xs : List PV, (∀ x ∈ xs, g x = some x) → optMap g xs = some xs
  | [], _ => rfl
  | x :: xs, h => by
    rw [optMap, h x List.mem_cons_self, Option.bind_some, optMap_id xs fun y hy => h y (List.mem_cons_of_mem _ hy)]; rfl
theorem thaw_nd {f n : Nat} {S : Sto} {k : Kd} {xs : List PV} (h : fitsL n xs = true) : thaw (f + 1) n S (.nd k xs) = some (.nd k xs) := by
  rw [thaw, if_pos h]
theorem thaw_ref {f n m : Nat} {S : Sto} {k : Kd} {xs : List PV} (hm : n ≤ m) (h : S[m]? = some (some (k, xs))) (hx : ∀ x ∈ xs, thaw f n S x = some x) : thaw (f + 1) n S (.ref m) = some (.nd k xs) := by
  rw [thaw, if_neg (by omega), h]
  simp only
  rw [optMap_id xs hx]; rfl
theorem appP_at {n : Nat} {xs : List PV} {S : Sto} {y : PV} (h : S[n]? = some (some (.lst, xs))) (hl : xs.length < 16777216) : appP (.ref n) [y] S = .ok .non (S.set n (some (.lst, xs ++ [y]))) := by
  unfold appP
  simp only [h]
  rw [if_pos hl]
theorem tyOk_ref {n : Nat} {xs : List PV} {S : Sto} (h : S[n]? = some (some (.lst, xs))) : tyOk "list" (.ref n) S = true := by
  unfold tyOk tyZ
  simp only [view_ref h]
  decide
/-- the last place behind the pen -/
theorem PenS.last {n : Nat} {T S : Sto} {o : Option (Kd × List PV)} (h : PenS n (T ++ [o]) S) : S[T.length + 1]? = some o := by
  rw [h.get, List.getElem?_append_right (Nat.le_refl _)]; simp
theorem PenS.setLast {n : Nat} {T S : Sto} {o o' : Option (Kd × List PV)} (h : PenS n (T ++ [o]) S) : PenS n (T ++ [o']) (S.set (T.length + 1) o') := by
  have := h.set T.length o'
  rw [List.set_append_right _ _ (Nat.le_refl _), Nat.sub_self] at this
  exact this
end Z
end
end
section
set_option Elab.async false
set_option linter.all false
set_option maxRecDepth 100000
set_option maxHeartbeats 1000000
/-! ZA: own classes: fields, methods, new instances. -/
noncomputable section
namespace Z
open PySem PySem.Spec PyProof.Rows L2

/-- what the table of names says truly -/
structure TbOk (T : Tb) (K : PySem.W.Frag) : Prop where
  inj : ∀ i j, i < T.nf → j < T.nf → T.fd i = T.fd j → i = j
  ok : ∀ c f, T.okf c f = true → f < T.nf ∧ Cls K (T.ca K c) ∧ NoAttr K (T.ca K c) (T.fd f)
  okx : ∀ c f, T.okx c f = true → f < T.nf ∧ XfC K (T.ca K c) ∧ PySem.W.findIn K (.ref (T.ca K c)) (T.fd f) = some none
/-! ### fields by numbers -/
def fLook : List Nat → List PV → Nat → Option PV
  | g :: gs, x :: xs, f => if g = f then some x else fLook gs xs f
  | _, _, _ => none
def fPutN : List Nat → Nat → List Nat
  | [], f => [f]
  | g :: gs, f => if g = f then g :: gs else g :: fPutN gs f
def fPutV {α : Type} : List Nat → List α → Nat → α → List α
  | g :: gs, x :: xs, f, v => if g = f then v :: xs else x :: fPutV gs xs f v
  | _, _, _, v => [v]
section
variable {T : Tb} {K : PySem.W.Frag} {R : Pl} {F H : Hp} {S : Sto}
theorem fLook_rel (O : TbOk T K) {f : Nat} (hf : f < T.nf) : ∀ {gs : List Nat} {xs : List PV} {us : List V} {x : PV}, (∀ g ∈ gs, g < T.nf) → RelL T K R F xs us → fLook gs xs f = some x → ∃ u, ((gs.map T.fd).zip us).lookup (T.fd f) = some u ∧ Rel T K R F x u
  | [], xs, us, x, _, _, e => by cases xs <;> cases e
  | g :: gs, [], us, x, _, _, e => by cases e
  | g :: gs, y :: xs, us, x, hg, h, e => by
    rw [RelL] at h
    obtain ⟨u, r, rfl, h2, h3⟩ := h
    rw [List.map_cons, List.zip_cons_cons, lookup_put]
    rw [fLook] at e
    by_cases q : g = f
    · rw [if_pos q] at e
      cases e
      exact ⟨u, by rw [if_pos (by rw [q])], h2⟩
    · rw [if_neg q] at e
      rw [if_neg (fun z => q (O.inj g f (hg g List.mem_cons_self) hf z.symm))]
      exact fLook_rel O hf (fun g' m => hg g' (List.mem_cons_of_mem _ m)) h3 e
theorem putF_zip (O : TbOk T K) {f : Nat} (hf : f < T.nf) (w : V) : ∀ {gs : List Nat} {us : List V}, (∀ g ∈ gs, g < T.nf) → us.length = gs.length → putF (T.fd f) w ((gs.map T.fd).zip us) = ((fPutN gs f).map T.fd).zip (fPutV gs us f w)
  | [], us, _, h => by
    cases us with
    | nil => rfl
    | cons u r => cases h
  | g :: gs, [], _, h => by cases h
  | g :: gs, u :: us, hg, h => by
    rw [List.map_cons, List.zip_cons_cons, putF, fPutN, fPutV]
    by_cases q : g = f
    · rw [if_pos (by rw [q]), if_pos q, if_pos q]
      rfl
    · rw [if_neg (fun z => q (O.inj g f (hg g List.mem_cons_self) hf z)), if_neg q, if_neg q, putF_zip O hf w (fun g' m => hg g' (List.mem_cons_of_mem _ m)) (by simpa using h)]
      rfl
theorem fPutV_rel {f : Nat} {x : PV} {w : V} (rx : Rel T K R F x w) : ∀ {gs : List Nat} {xs : List PV} {us : List V}, RelL T K R F xs us → RelL T K R F (fPutV gs xs f x) (fPutV gs us f w)
  | [], xs, us, h => by unfold fPutV; exact .cons rx .nil
  | g :: gs, [], us, h => by
    rw [RelL] at h; subst h
    unfold fPutV; exact .cons rx .nil
  | g :: gs, y :: xs, us, h => by
    rw [RelL] at h
    obtain ⟨u, r, rfl, h2, h3⟩ := h
    unfold fPutV
    by_cases q : g = f
    · rw [if_pos q, if_pos q]; exact .cons rx h3
    · rw [if_neg q, if_neg q]; exact .cons h2 (fPutV_rel rx h3)
theorem fPutV_len {α : Type} {f : Nat} {w : α} : ∀ {gs : List Nat} {us : List α}, us.length = gs.length → (fPutV gs us f w).length = (fPutN gs f).length
  | [], us, h => by
    cases us with
    | nil => rfl
    | cons u r => cases h
  | g :: gs, [], h => by cases h
  | g :: gs, u :: us, h => by
    unfold fPutV fPutN
    by_cases q : g = f
    · rw [if_pos q, if_pos q]; simpa using h
    · rw [if_neg q, if_neg q, List.length_cons, List.length_cons, fPutV_len (by simpa using h)]
theorem noMeth {c : Nat} {m : Str} {g : Addr} (O : TbOk T K) (hm : Meth K (T.ca K c) m g) : ∀ {fs : List Nat} {us : List V}, fs.all (T.okf c) = true → ((fs.map T.fd).zip us).lookup m = none
  | [], us, _ => rfl
  | f :: fs, [], _ => rfl
  | f :: fs, u :: us, h => by
    obtain ⟨h1, h2⟩ := Bool.and_eq_true_iff.mp h
    rw [List.map_cons, List.zip_cons_cons, lookup_put, if_neg, noMeth O hm h2]
    intro e
    have := (O.ok c f h1).2.2
    unfold NoAttr at this
    rw [← e, hm.at_] at this
    cases this
end

/-! ### o.f -/
def getF (T : Tb) (f : Nat) (x : PV) (S : Sto) : Out PV := match view x S with
  | some (.ins c fs, xs) => if T.okf c f = true ∧ fs.all (T.okf c) = true then (match fLook fs xs f with
    | some v => .ok v S
    | none => .bad) else .bad
  | _ => .bad
def dAttr (T : Tb) (f : Nat) (a : DE) : DE := dUn (getF T f) a
/-- o.f = v: the place changed -/
def putA (T : Tb) (f : Nat) (x v : PV) (S : Sto) : Option Sto := match x with
  | .ref n => (match S[n]? with
    | some (some (.ins c fs, xs)) => if T.okf c f = true ∧ fs.all (T.okf c) = true ∧ fs.length < 1000 then some (S.set n (some (.ins c (fPutN fs f), fPutV fs xs f v))) else none
    | _ => none)
  | _ => none
def dPutA (T : Tb) (f : Nat) (o v : DE) : DS := fun l S => (v l S).st l fun y S1 => (o l S1).st l fun x S2 => match putA T f x y S2 with
  | some S3 => .nx l S3
  | none => .bad
theorem all_lt {T : Tb} {K : PySem.W.Frag} (O : TbOk T K) {c : Nat} {fs : List Nat} (h : fs.all (T.okf c) = true) : ∀ g ∈ fs, g < T.nf := fun g hg => (O.ok c g (List.all_eq_true.mp h g hg)).1
section
variable {T : Tb} {X : Cx} {E : XS} {o e v : Expr} {dO dv : DE} {pos pos' : Pos} {f : Nat} {F : Str}
theorem getF_rel {E : XK} {K : PySem.W.Frag} {R : Pl} {Fz H : Hp} {S : Sto} (O : TbOk T K) (r : Rep T K R Fz S H) {x : PV} {u : V} (rx : Rel T K R Fz x u) {Q : VK} (h : OkV T K R Fz (getF T f x S) Q E) :
    ∃ a C dx fs v, u = .ref a ∧ H a = some (.ins C dx fs) ∧ Cls K C ∧ NoAttr K C (T.fd f) ∧ fs.lookup (T.fd f) = some v ∧ Q v H := by
  unfold getF at h
  split at h
  · rename_i c fs xs hv
    split at h
    · rename_i hc
      obtain ⟨a, us, rfl, hs, hl⟩ := view_rel r rx hv
      obtain ⟨hlen, dx, ha⟩ := hs
      obtain ⟨hf, hcl, hno⟩ := O.ok c f hc.1
      split at h
      · rename_i y hy
        obtain ⟨w, h1, h2⟩ := fLook_rel O hf (all_lt O hc.2) hl hy
        exact ⟨a, _, dx, _, w, rfl, ha, hcl, hno, h1, h R Fz H w (Pl.refl R) (Ex.refl Fz) r h2⟩
      · exact h.elim
    · exact h.elim
  · exact h.elim
theorem je_attr (f : Nat) (O : TbOk T X.K) (ho : JE T X E o dO) (hf : T.fd f = F := by rfl) (hb : attributeBase o F X.env (eval o X.env) = eval o X.env := by rfl) : JE T X E (.Attribute o F pos) (dAttr T f dO) := by
  subst hf
  refine pe_imp (pe_fld ho hb) fun σ H Q ⟨R, Fz, l, S, r, e, h⟩ => ?_
  exact seqV (goV T X.K (E σ) Q) r e h fun x S1 R1 F1 H1 u p ex r1 rx e1 h1 => getF_rel O r1 rx h1
theorem putA_rel {K : PySem.W.Frag} {R : Pl} {Fz H : Hp} {S S3 : Sto} (O : TbOk T K) (r : Rep T K R Fz S H) {x y : PV} {u w : V} (rx : Rel T K R Fz x u) (ry : Rel T K R Fz y w) (h : putA T f x y S = some S3) :
    ∃ a C dx fs, u = .ref a ∧ H a = some (.ins C dx fs) ∧ Cls K C ∧ NoAttr K C (T.fd f) ∧ fs.length < 1000 ∧ Rep T K R Fz S3 (upd H a (.ins C dx (putF (T.fd f) w fs))) := by
  cases x with
  | ref n =>
    simp only [putA] at h
    split at h
    · rename_i c fs xs hS
      split at h
      · rename_i hc
        cases h
        rw [Rel] at rx
        obtain ⟨a, rfl, ha⟩ := rx
        obtain ⟨hz, us, hl, hx⟩ := r.live n a _ xs ha hS
        obtain ⟨hlen, dx, hl⟩ := hl
        obtain ⟨hf, hcl, hno⟩ := O.ok c f hc.1
        refine ⟨a, _, dx, _, rfl, hl, hcl, hno, by simp [hlen]; exact hc.2.2, ?_⟩
        rw [putF_zip O hf w (all_lt O hc.2.1) hlen]
        exact r.put ha hz (k := .ins c (fPutN fs f)) (xs := fPutV fs xs f y) ⟨fPutV_len hlen, dx, upd_same⟩ (fPutV_rel ry hx)
      · cases h
    · cases h
  | _ => cases h
theorem js_attr (f : Nat) (O : TbOk T X.K) (ho : JE T X E o dO) (hv : JE T X E v dv) (hf : T.fd f = F := by rfl) (hs : swapsWith v (some (.Attribute o F pos')) pos.line X.env = pure false := by rfl) : JS T X E (.Assign [.Attribute o F pos'] v pos) (dPutA T f dO dv) := by
  subst hf
  refine ps_imp (ps_fld ho hv hs) fun D σ H ⟨R, Fz, l, S, r, e, h⟩ => ?_
  refine st_v r e h fun y S1 R1 F1 H1 w p ex r1 ry e1 h1 => ?_
  refine st_v r1 e1 h1 fun x S2 R2 F2 H2 u p2 ex2 r2 rx e2 h2 => ?_
  have h2 : OkS T X.K R2 F2 (match putA T f x y S2 with
    | some S3 => .nx l S3
    | none => .bad) D E := h2
  split at h2
  · rename_i S3 hp
    obtain ⟨a, C, dx, fs, rfl, h3, h4, h5, h6, h7⟩ := putA_rel O r2 rx (ry.mono p2 ex2) hp
    exact ⟨a, C, dx, fs, rfl, h3, h4, h5, h6, PostE.here h7 e2 h2⟩
  · exact h2.elim
end

/-! ### o.m(..) -/
/-- a method m of the class c -/
structure FnM (T : Tb) (P : Program) (w : World) (K : PySem.W.Frag) (mg : Str → Option Value) (base : Heap) (k c : Nat) (m : Str) (ps : List Str) (d : DF) : Prop where
  ex : ∃ (f : Addr) (fd : FuncData), Cls K (T.ca K c) ∧ Meth K (T.ca K c) m f ∧ FnG T P w K mg base k f fd ps d ∧ Binds K fd ps [] ∧ ∀ (s : Shared) (v : Value) (ws : List Value), ws.length = ps.tail.length → BindsTo s fd ⟨[v], ps.tail.zip ws⟩ (ps.zip (v :: ws))
  ar : ∀ (xs : List PV) (S : Sto), xs.length ≠ ps.length → d xs S = .bad
def insOk (T : Tb) (c : Nat) (x : PV) (S : Sto) : Bool := match view x S with
  | some (.ins c' fs, _) => c' == c && fs.all (T.okf c)
  | _ => false
def dMeth (T : Tb) (c : Nat) (d : DF) (o : DE) (ar : DA) : DE := fun l S => (o l S).bind fun x S1 => if insOk T c x S1 = true then (ar l S1).bind fun xs S2 => d (x :: xs) S2 else .bad
section
variable {T : Tb} {X : Cx} {E : XS} {o e : Expr} {es : List Expr} {dO : DE} {ar : DA} {d : DF} {pos apos kpos : Pos} {c : Nat} {m : Str} {ps : List Str} {j k : Nat} {kws : List Keyword}
theorem insOk_rel {K : PySem.W.Frag} {R : Pl} {Fz H : Hp} {S : Sto} (O : TbOk T K) {g : Addr} (hm : Meth K (T.ca K c) m g) (r : Rep T K R Fz S H) {x : PV} {u : V} (rx : Rel T K R Fz x u) (h : insOk T c x S = true) :
    ∃ a dx fs, u = .ref a ∧ H a = some (.ins (T.ca K c) dx fs) ∧ fs.lookup m = none := by
  unfold insOk at h
  split at h
  · rename_i c' fs xs hv
    obtain ⟨h1, h2⟩ := Bool.and_eq_true_iff.mp h
    have e : c' = c := beq_iff_eq.mp h1
    subst e
    obtain ⟨a, us, rfl, hs, hl⟩ := view_rel r rx hv
    obtain ⟨hlen, dx, ha⟩ := hs
    exact ⟨a, dx, _, rfl, ha, noMeth O hm h2⟩
  · cases h
theorem meth_t {Q : VK} {σ : L2.St} {H : Hp} (O : TbOk T X.K) {g : Addr} (hm : Meth X.K (T.ca X.K c) m g) (har : ∀ (xs : List PV) (S : Sto), xs.length ≠ ps.length → d xs S = .bad) (h : tV T X.K E (dMeth T c d dO ar) σ H Q) :
    tV T X.K E dO σ H fun x H1 => ∃ a dx fs, x = .ref a ∧ H1 a = some (.ins (T.ca X.K c) dx fs) ∧ fs.lookup m = none ∧ tL T X.K E ar σ H1 fun vs H2 => spOf T X.K ps.length d (x :: vs) H2 Q (E σ) := by
  obtain ⟨R, Fz, l, S, r, e, h⟩ := h
  refine seqV (goV T X.K (E σ) Q) r e h fun x S1 R1 F1 H1 u p ex r1 rx e1 h1 => ?_
  have h1 : OkV T X.K R1 F1 (if insOk T c x S1 = true then (ar l S1).bind fun xs S2 => d (x :: xs) S2 else .bad) Q (E σ) := h1
  split at h1
  · rename_i hi
    obtain ⟨a, dx, fs, rfl, ha, hl⟩ := insOk_rel O hm r1 rx hi
    refine ⟨a, dx, fs, rfl, ha, hl, ?_⟩
    refine seqL (goV T X.K (E σ) Q) r1 e1 h1 fun xs S2 R2 F2 H2 us p2 ex2 r2 rxs e2 h2 => ?_
    have h2 : OkV T X.K R2 F2 (d (x :: xs) S2) Q (E σ) := h2
    by_cases hl : (x :: xs).length = ps.length
    · exact sp_of hl r2 (.cons (rx.mono p2 ex2) rxs) h2
    · rw [har _ S2 hl] at h2; exact h2.elim
  · exact h1.elim
theorem je_meth {pl : Sem Bool} (O : TbOk T X.K) (cg : Cg X E k) (F : FnM T X.prog X.w X.K X.mg X.base j c m ps d) (ho : JE T X E o dO) (ha : JA T X E (e :: es) ar) (hj : j ≤ k := by decide)
    (hst : starEach (e :: es) X.env = (false, eval e X.env) :: starEach es X.env := by rfl) (hpl : (backTo pos (starEach es X.env)).any (·.1) = false := by rfl)
    (ht : eval (.Call (.Attribute o m apos) (e :: es) [] pos) X.env = (do
      let ov ← eval o X.env
      standAt apos.atName
      let (f, first) ← holding [ov] (getMethod ov m pl)
      callWith pos f first (backTo pos (starEach (e :: es) X.env)) (backToKw pos (keywordEach [] X.env))) := by rfl) : JE T X E (.Call (.Attribute o m apos) (e :: es) [] pos) (dMeth T c d dO ar) := by
  obtain ⟨f, fd, cl, hm, G, hb, _⟩ := F.ex
  refine ⟨fun pins s σ H Q I h => ?_⟩
  refine PySem.W.methodCall_KW (pl := pl) (thn (ho.run pins s σ H _ I (meth_t O hm F.ar h)) fun u s1 ⟨x, H1, I1, rx, a, dx, fs, ex, ea, l, q⟩ => ?_) ht
  subst ex
  obtain rfl : u = Value.ref a := rx
  refine getmeth_ok I1 ea cl hm l ?_
  refine PySem.W.callWith_K (first := [.ref a]) (h₀ := X.base) I.ok.mod.kin hm.kp (thn (ha.run pos pins s1 σ H1 _ I1 q) fun us s2 ⟨vs, H2, I2, r, q2⟩ => ⟨I2.kIn, ?_⟩) hst hpl
  have r2 : Vals (V.ref a :: vs) (Value.ref a :: us) := .cons rfl r
  have hl : (Value.ref a :: us).length = ps.length := by rw [← r2.length]; exact q2.1
  have hb' := hb s2 (Value.ref a :: us) I2.kIn (by rw [List.append_nil]; exact hl)
  rw [List.append_nil] at hb'
  refine wpAny_call (codeAny_mono (run_fng cg hj G hb' I2 r2 q2) fun z s' hq => ?_)
  cases z with
  | error e => exact hq
  | ok fl => cases fl with
    | ret u => exact hq
    | _ => exact False.elim hq
theorem je_meth0 {pl : Sem Bool} (O : TbOk T X.K) (cg : Cg X E k) (F : FnM T X.prog X.w X.K X.mg X.base j c m ps d) (ho : JE T X E o dO) (hj : j ≤ k := by decide)
    (ht : eval (.Call (.Attribute o m apos) [] [] pos) X.env = (do
      let ov ← eval o X.env
      standAt apos.atName
      let (f, first) ← holding [ov] (getMethod ov m pl)
      callWith pos f first (backTo pos (starEach [] X.env)) (backToKw pos (keywordEach [] X.env))) := by rfl) : JE T X E (.Call (.Attribute o m apos) [] [] pos) (dMeth T c d dO dNil) := by
  obtain ⟨f, fd, cl, hm, G, hb, _⟩ := F.ex
  refine ⟨fun pins s σ H Q I h => ?_⟩
  refine PySem.W.methodCall_KW (pl := pl) (thn (ho.run pins s σ H _ I (meth_t O hm F.ar h)) fun u s1 ⟨x, H1, I1, rx, a, dx, fs, ex, ea, l, q⟩ => ?_) ht
  subst ex
  obtain rfl : u = Value.ref a := rx
  refine getmeth_ok I1 ea cl hm l ?_
  obtain ⟨R1, F1, l1, S1, r1, e1, q⟩ := q
  have q2 := PostL.here r1 .nil q
  have r2 : Vals [V.ref a] [Value.ref a] := .cons rfl .nil
  have hl : [Value.ref a].length = ps.length := by rw [← r2.length]; exact q2.1
  have hb' := hb s1 [Value.ref a] I1.kIn (by rw [List.append_nil]; exact hl)
  rw [List.append_nil] at hb'
  refine PySem.W.callWith_K0 (first := [.ref a]) I1.kIn hm.kp (wpAny_call (codeAny_mono (run_fng cg hj G hb' I1 r2 q2) fun z s' hq => ?_))
  cases z with
  | error e => exact hq
  | ok fl => cases fl with
    | ret u => exact hq
    | _ => exact False.elim hq
/-- o.m(k = e, ..): all further parameters by their names, in their order -/
theorem je_methK {kw : Keyword} {pl : Sem Bool} (O : TbOk T X.K) (cg : Cg X E k) (F : FnM T X.prog X.w X.K X.mg X.base j c m ps d) (ho : JE T X E o dO) (hk : JK T X E (kw :: kws) ar) (hj : j ≤ k := by decide)
    (hall : (backToKw pos (keywordEach (kw :: kws) X.env)).all (·.1.isSome) = true := by rfl) (hks : (backToKw pos (keywordEach (kw :: kws) X.env)).filterMap (·.1) = ps.tail := by rfl)
    (hpl : ((backTo pos (starEach [] X.env)).any (·.1) || (backToKw pos (keywordEach (kw :: kws) X.env)).any (·.1.isNone)) = false := by rfl)
    (ht : eval (.Call (.Attribute o m apos) [] (kw :: kws) pos) X.env = (do
      let ov ← eval o X.env
      standAt apos.atName
      let (f, first) ← holding [ov] (getMethod ov m pl)
      callWith pos f first (backTo pos (starEach [] X.env)) (backToKw pos (keywordEach (kw :: kws) X.env))) := by rfl) : JE T X E (.Call (.Attribute o m apos) [] (kw :: kws) pos) (dMeth T c d dO ar) := by
  obtain ⟨f, fd, cl, hm, G, _, hb⟩ := F.ex
  refine ⟨fun pins s σ H Q I h => ?_⟩
  refine PySem.W.methodCall_KW (pl := pl) (thn (ho.run pins s σ H _ I (meth_t O hm F.ar h)) fun u s1 ⟨x, H1, I1, rx, a, dx, fs, ex, ea, l, q⟩ => ?_) ht
  subst ex
  obtain rfl : u = Value.ref a := rx
  refine getmeth_ok I1 ea cl hm l ?_
  refine PySem.W.callWith_KW0 (first := [.ref a]) (h₀ := X.base) I.ok.mod.kin hm.kp hall (thn (hk.run pos pins s1 σ H1 _ I1 q) fun us s2 ⟨vs, H2, I2, r, q2⟩ => ⟨I2.kIn, ?_⟩) hpl
  rw [hks]
  have r2 : Vals (V.ref a :: vs) (Value.ref a :: us) := .cons rfl r
  have hl : us.length = ps.tail.length := by
    have : (V.ref a :: vs).length = ps.length := q2.1
    rw [List.length_tail, ← this, ← r.length]; rfl
  refine wpAny_call (codeAny_mono (run_fng cg hj G (hb s2 (.ref a) us hl) I2 r2 q2) fun z s' hq => ?_)
  cases z with
  | error e => exact hq
  | ok fl => cases fl with
    | ret u => exact hq
    | _ => exact False.elim hq
end

/-! ### C(..) -/
def newP (c : Nat) (d : DF) (xs : List PV) (S : Sto) : Out PV := (d (.ref S.length :: xs) (S ++ [some (.ins c [], [])])).bind fun v S2 => match v with
  | .non => .ok (.ref S.length) S2
  | _ => .bad
/-- .. that never changes any more -/
def newF (c : Nat) (d : DF) (xs : List PV) (S : Sto) : Out PV := shut S (newP c d xs S)
structure NewC (T : Tb) (P : Program) (w : World) (K : PySem.W.Frag) (mg : Str → Option Value) (base : Heap) (k : Nat) (x : Str) (c : Nat) (ps : List Str) (d : DF) : Prop where
  ex : ∃ (f : Addr) (fd : FuncData), mg x = some (.ref (T.ca K c)) ∧ Mk K (T.ca K c) f ∧ FnG T P w K mg base k f fd ps d ∧ Binds K fd ps [] ∧ ∀ (s : Shared) (v : Value) (ws : List Value), ws.length = ps.tail.length → BindsTo s fd ⟨[v], ps.tail.zip ws⟩ (ps.zip (v :: ws))
  ar : ∀ (xs : List PV) (S : Sto), xs.length ≠ ps.length → d xs S = .bad
section
variable {T : Tb} {X : Cx} {E : XS} {x : Str} {e : Expr} {es : List Expr} {ar : DA} {d : DF} {p pos kpos : Pos} {c : Nat} {ps : List Str} {j k : Nat} {kws : List Keyword}
theorem make_guards {A : Around} {C : Addr} {us : List Value} {kw : List (Str × Value)} : (A.under (.builtin "type.__call__" ⟨.ref C :: us, kw⟩)).guards = A.guards := by
  first | rfl | simp [Around.under, Code.guards, Code.isGuard, pushGuards, guardIds]
theorem new_sp {E : XK} {K : PySem.W.Frag} {R : Pl} {Fz H : Hp} {S : Sto} {xs : List PV} {us : List V} {Q : VK} (har : ∀ (xs : List PV) (S : Sto), xs.length ≠ ps.length → d xs S = .bad) (r : Rep T K R Fz S H) (rx : RelL T K R Fz xs us) (h : OkV T K R Fz (newP c d xs S) Q E)
    (a dx : Addr) (ha : H a = none) (hd : H dx = none) (hne : dx ≠ a) : spOf T K ps.length d (.ref a :: us) (upd (upd H dx (.own a)) a (.ins (T.ca K c) dx [])) (fun v H2 => v = .non ∧ Q (.ref a) H2) E := by
  have r1 := r.frozen (o := .own a) hd
  have ha1 : (upd H dx (.own a)) a = none := by rw [upd_ne (Ne.symm hne)]; exact ha
  have r2 : Rep T K (R.add a) (upd Fz dx (.own a)) (S ++ [some (.ins c [], [])]) (upd (upd H dx (.own a)) a (.ins (T.ca K c) dx [])) := r1.laid (k := .ins c []) (xs := []) (us := []) ha1 ⟨rfl, dx, upd_same⟩ .nil
  have exF : Ex Fz (upd Fz dx (.own a)) := ex_upd (r.fnone hd)
  have rs : Rel T K (R.add a) (upd Fz dx (.own a)) (.ref S.length) (.ref a) := by
    rw [Rel]
    refine ⟨a, rfl, ?_⟩
    show (R.as ++ [a])[S.length]? = some a
    rw [← r.len, List.getElem?_append_right (Nat.le_refl _)]; simp
  have rl : RelL T K (R.add a) (upd Fz dx (.own a)) (.ref S.length :: xs) (.ref a :: us) := .cons rs (rx.mono (R.app a) exF)
  have h := OkV.mono (R.app a) exF h
  unfold newP at h
  by_cases hl : (PV.ref S.length :: xs).length = ps.length
  · refine sp_of hl r2 rl ?_
    cases hd2 : d (.ref S.length :: xs) (S ++ [some (.ins c [], [])]) with
    | ok v S2 =>
      rw [hd2] at h
      cases v with
      | non =>
        intro R' F' H' u p' x' r' ru
        rw [Rel] at ru
        subst ru
        exact ⟨rfl, h R' F' H' (.ref a) p' x' r' (rs.mono p' x')⟩
      | _ => exact h.elim
    | err e' S2 => rw [hd2] at h; exact h
    | bad => rw [hd2] at h; exact h.elim
  · rw [har _ _ hl] at h; exact h.elim
/-- the callee behind a new instance runs -/
theorem run_new {pins : List (Addr × Obj)} {σ : L2.St} {H : Hp} {s : Shared} {Q : VK} {us ws : List Value} {vs : List V} {f : Addr} {fd : FuncData} {C : Addr} {kw : List (Str × Value)} (cg : Cg X E k) (hj : j + 1 ≤ k) (M : Mk X.K C f) (G : FnG T X.prog X.w X.K X.mg X.base j f fd ps d)
    (hb : ∀ (s : Shared) (v : Value), X.K.In s.heap → BindsTo s fd ⟨v :: us, kw⟩ (ps.zip (v :: ws))) (I : Inv X pins σ H s) (r : Vals vs ws)
    (h : ∀ a dx, H a = none → H dx = none → dx ≠ a → spOf T X.K ps.length d (.ref a :: vs) (upd (upd H dx (.own a)) a (.ins C dx [])) (fun v H2 => v = .non ∧ Q (.ref a) H2) (E σ)) :
    wpAny (model X.prog X.w) X.A (call (.ref C) us kw) (EP X pins σ Q) X.xe s := by
  have hq := h (s.heap.objs.size + 1) s.heap.objs.size (I.hok.fresh (Nat.le_succ _)) (I.hok.fresh (Nat.le_refl _)) (Nat.ne_of_lt (Nat.lt_succ_self _))
  have I2 := Inv.made (C := C) I
  have r2 : Vals (V.ref (s.heap.objs.size + 1) :: vs) (Value.ref (s.heap.objs.size + 1) :: ws) := .cons rfl r
  refine wpAny_call (make_map (f := f) I.kIn M.makes M.init (beq_iff_eq.mp M.fn) (codeAny_mono (G.run _ X.stack _ _ ⟨Value.ref (s.heap.objs.size + 1) :: us, kw⟩ (Value.ref (s.heap.objs.size + 1) :: ws) _ _ (E σ) ((cg.room.mono hj).make C us kw)
    (by rw [make_guards]; exact cg.gd) (I2.env0.make C us kw) (hb _ (Value.ref (s.heap.objs.size + 1)) I2.kIn) r2 hq) fun r s' hq' => ?_))
  cases r with
  | error e => exact cg.pass pins σ _ _ e s' I2 hq'
  | ok fl =>
    cases fl with
    | ret u =>
      obtain ⟨v, H', I3, rv, ev, q3⟩ := I2.after hq'
      subst ev
      exact ⟨rv, ⟨V.ref (s.heap.objs.size + 1), H', I3, rfl, q3⟩⟩
    | next => exact False.elim hq'
    | brk => exact False.elim hq'
    | cont => exact False.elim hq'
theorem new_t {Q : VK} {σ : L2.St} {H : Hp} {kk : List PV → Sto → Out PV} (hk : ∀ {K : PySem.W.Frag} {R : Pl} {Fz H : Hp} {S : Sto} {xs : List PV} {us : List V}, Rep T K R Fz S H → RelL T K R Fz xs us → OkV T K R Fz (kk xs S) Q (E σ) → ∃ R' S', Rep T K R' Fz S' H ∧ RelL T K R' Fz xs us ∧ OkV T K R' Fz (newP c d xs S') Q (E σ)) (har : ∀ (xs : List PV) (S : Sto), xs.length ≠ ps.length → d xs S = .bad) (h : tV T X.K E (dApp kk ar) σ H Q) :
    tL T X.K E ar σ H fun vs H1 => ∀ a dx, H1 a = none → H1 dx = none → dx ≠ a → spOf T X.K ps.length d (.ref a :: vs) (upd (upd H1 dx (.own a)) a (.ins (T.ca X.K c) dx [])) (fun v H2 => v = .non ∧ Q (.ref a) H2) (E σ) := by
  obtain ⟨R, Fz, l, S, r, e, h⟩ := h
  exact seqL (goV T X.K (E σ) Q) r e h fun xs S1 R1 F1 H1 us p ex r1 rxs e1 h1 a dx ha hd hne => let ⟨_, _, r', rx', h'⟩ := hk r1 rxs h1; new_sp har r' rx' h' a dx ha hd hne
theorem je_newG {kk : List PV → Sto → Out PV} (cg : Cg X E k) (F : NewC T X.prog X.w X.K X.mg X.base j x c ps d) (hk : ∀ {Q : VK} {E : XK} {K : PySem.W.Frag} {R : Pl} {Fz H : Hp} {S : Sto} {xs : List PV} {us : List V}, Rep T K R Fz S H → RelL T K R Fz xs us → OkV T K R Fz (kk xs S) Q E → ∃ R' S', Rep T K R' Fz S' H ∧ RelL T K R' Fz xs us ∧ OkV T K R' Fz (newP c d xs S') Q E)
    (ha : JA T X E (e :: es) ar) (hj : j + 1 ≤ k := by decide) (hg : Gl X x := by rfl) (hdb : (x == ("__debug__" : Str)) = false := by decide)
    (he : starEach (e :: es) X.env = (false, eval e X.env) :: starEach es X.env := by rfl) (hpl : (backTo pos (starEach es X.env)).any (·.1) = false := by rfl) : JE T X E (.Call (.Name x p) (e :: es) [] pos) (dApp kk ar) := by
  obtain ⟨f, fd, hm, M, G, hb, _⟩ := F.ex
  refine ⟨fun pins s σ H Q I h => ?_⟩
  refine wpAny_Call_Name_kw (ld_glob I hg hm ?_ hdb)
  refine PySem.W.callWith_K (h₀ := X.base) I.ok.mod.kin M.kp (thn (ha.run pos pins s σ H _ I (new_t hk F.ar h)) fun us s1 ⟨vs, H1, I1, r1, q1⟩ => ⟨I1.kIn, ?_⟩) he hpl
  have hl : vs.length + 1 = ps.length := by
    have := q1 _ _ (I1.hok.fresh (Nat.le_succ _)) (I1.hok.fresh (Nat.le_refl _)) (Nat.ne_of_lt (Nat.lt_succ_self _))
    simpa using this.1
  refine run_new cg hj M G (fun s v hin => ?_) I1 r1 q1
  have hb' := hb s (v :: us) hin (by rw [List.append_nil, List.length_cons, ← r1.length]; exact hl)
  rw [List.append_nil] at hb'
  exact hb'
theorem je_newGK {kw : Keyword} {kk : List PV → Sto → Out PV} (cg : Cg X E k) (F : NewC T X.prog X.w X.K X.mg X.base j x c ps d) (hk : ∀ {Q : VK} {E : XK} {K : PySem.W.Frag} {R : Pl} {Fz H : Hp} {S : Sto} {xs : List PV} {us : List V}, Rep T K R Fz S H → RelL T K R Fz xs us → OkV T K R Fz (kk xs S) Q E → ∃ R' S', Rep T K R' Fz S' H ∧ RelL T K R' Fz xs us ∧ OkV T K R' Fz (newP c d xs S') Q E)
    (ha : JK T X E (kw :: kws) ar) (hj : j + 1 ≤ k := by decide) (hg : Gl X x := by rfl) (hdb : (x == ("__debug__" : Str)) = false := by decide)
    (hall : (backToKw pos (keywordEach (kw :: kws) X.env)).all (·.1.isSome) = true := by rfl) (hks : (backToKw pos (keywordEach (kw :: kws) X.env)).filterMap (·.1) = ps.tail := by rfl)
    (hpl : ((backTo pos (starEach [] X.env)).any (·.1) || (backToKw pos (keywordEach (kw :: kws) X.env)).any (·.1.isNone)) = false := by rfl) : JE T X E (.Call (.Name x p) [] (kw :: kws) pos) (dApp kk ar) := by
  obtain ⟨f, fd, hm, M, G, _, hb⟩ := F.ex
  refine ⟨fun pins s σ H Q I h => ?_⟩
  refine wpAny_Call_Name_kw (ld_glob I hg hm ?_ hdb)
  refine PySem.W.callWith_KW0 (h₀ := X.base) I.ok.mod.kin M.kp hall (thn (ha.run pos pins s σ H _ I (new_t hk F.ar h)) fun us s1 ⟨vs, H1, I1, r1, q1⟩ => ⟨I1.kIn, ?_⟩) hpl
  rw [hks]
  have hl : vs.length + 1 = ps.length := by
    have := q1 _ _ (I1.hok.fresh (Nat.le_succ _)) (I1.hok.fresh (Nat.le_refl _)) (Nat.ne_of_lt (Nat.lt_succ_self _))
    simpa using this.1
  exact run_new cg hj M G (fun s v _ => hb s v us (by rw [List.length_tail, ← hl, ← r1.length]; rfl)) I1 r1 q1
/-- a new instance that may change -/
theorem je_newM (cg : Cg X E k) (F : NewC T X.prog X.w X.K X.mg X.base j x c ps d) (ha : JA T X E (e :: es) ar) (hj : j + 1 ≤ k := by decide) (hg : Gl X x := by rfl) (hdb : (x == ("__debug__" : Str)) = false := by decide)
    (he : starEach (e :: es) X.env = (false, eval e X.env) :: starEach es X.env := by rfl) (hpl : (backTo pos (starEach es X.env)).any (·.1) = false := by rfl) : JE T X E (.Call (.Name x p) (e :: es) [] pos) (dApp (newP c d) ar) :=
  je_newG cg F (fun r rx h => ⟨_, _, r, rx, h⟩) ha hj hg hdb he hpl
theorem je_new (cg : Cg X E k) (F : NewC T X.prog X.w X.K X.mg X.base j x c ps d) (ha : JA T X E (e :: es) ar) (hj : j + 1 ≤ k := by decide) (hg : Gl X x := by rfl) (hdb : (x == ("__debug__" : Str)) = false := by decide)
    (he : starEach (e :: es) X.env = (false, eval e X.env) :: starEach es X.env := by rfl) (hpl : (backTo pos (starEach es X.env)).any (·.1) = false := by rfl) : JE T X E (.Call (.Name x p) (e :: es) [] pos) (dApp (newF c d) ar) :=
  je_newG cg F (fun r rx h => ⟨_, _, r, rx, shut_ok r h⟩) ha hj hg hdb he hpl
theorem je_newK {kw : Keyword} (cg : Cg X E k) (F : NewC T X.prog X.w X.K X.mg X.base j x c ps d) (ha : JK T X E (kw :: kws) ar) (hj : j + 1 ≤ k := by decide) (hg : Gl X x := by rfl) (hdb : (x == ("__debug__" : Str)) = false := by decide)
    (hall : (backToKw pos (keywordEach (kw :: kws) X.env)).all (·.1.isSome) = true := by rfl) (hks : (backToKw pos (keywordEach (kw :: kws) X.env)).filterMap (·.1) = ps.tail := by rfl)
    (hpl : ((backTo pos (starEach [] X.env)).any (·.1) || (backToKw pos (keywordEach (kw :: kws) X.env)).any (·.1.isNone)) = false := by rfl) : JE T X E (.Call (.Name x p) [] (kw :: kws) pos) (dApp (newF c d) ar) :=
  je_newGK cg F (fun r rx h => ⟨_, _, r, rx, shut_ok r h⟩) ha hj hg hdb hall hks hpl
end
end Z
end
end
section
set_option Elab.async false
set_option linter.all false
set_option maxRecDepth 100000
set_option maxHeartbeats 1000000
/-! ZB: facts of a head; defs called by their places, starred ones; staticmethods. -/
noncomputable section
namespace Z
open PySem PySem.Spec PyProof.Rows L2

/-! ### the head's facts -/
def obsZ (fa : List He.Fa) (ex : List (PySem.W.Frag → Bool)) (fn : List He5.DefA) (K : PySem.W.Frag) : He.AlD := ((fa.all fun f => f.ok K) && ((ex.all fun f => f K) && fn.all fun d => d.ok K), fn.map fun d => He5.fnA K (d.at_ K))
def valZ (fn : List He5.DefA) : He.AlD := (true, fn.map He5.DefA.val)
def SaysZ (fa : List He.Fa) (ex : List (PySem.W.Frag → Bool)) (fn : List He5.DefA) (K : PySem.W.Frag) : Prop := obsZ fa ex fn K = valZ fn
def obsZG (n : Nat) (fa : List He.Fa) (ex : List (PySem.W.Frag → Bool)) (fn : List He5.DefA) (g : Addr → Option Obj) : He.AlD := obsZ fa ex fn (He.frG g (He5.asA g n))
def hookZ (n : Nat) (fa : List He.Fa) (ex : List (PySem.W.Frag → Bool)) (fn : List He5.DefA) : PySem.W.Hook where
  α := He.AlD
  obs := fun s => obsZG n fa ex fn s.heap.get?
  val := fun _ => valZ fn
  says := fun _ h => ∃ K : PySem.W.Frag, K.In h ∧ SaysZ fa ex fn K
  of := fun _ _ e => ⟨_, He.frG_in, e⟩
  keeps := fun _ _ _ ⟨K, hK, c⟩ k => ⟨K, PySem.W.Frag.In.keeps hK k, c⟩
theorem obsZG_eq {n : Nat} {fa : List He.Fa} {ex : List (PySem.W.Frag → Bool)} {fn : List He5.DefA} {g : Addr → Option Obj} {s : Shared} (h : ∀ a, g a = s.heap.get? a) : obsZG n fa ex fn g = (hookZ n fa ex fn).obs s := by
  have e : g = s.heap.get? := funext h
  rw [e] <;> rfl
section
variable {fa : List He.Fa} {ex : List (PySem.W.Frag → Bool)} {fn : List He5.DefA} {K : PySem.W.Frag}
theorem SaysZ.bools (c : SaysZ fa ex fn K) : ((fa.all fun f => f.ok K) && ((ex.all fun f => f K) && fn.all fun d => d.ok K)) = true := congrArg (fun z : He.AlD => z.1) c
theorem SaysZ.facts (c : SaysZ fa ex fn K) {f : He.Fa} (h : f ∈ fa) : f.ok K = true := List.all_eq_true.mp (Bool.and_eq_true_iff.mp c.bools).1 f h
theorem SaysZ.fact (c : SaysZ fa ex fn K) (i : Nat) {f : He.Fa} (h : fa[i]? = some f := by rfl) : f.ok K = true := c.facts (List.mem_of_getElem? h)
theorem SaysZ.extra (c : SaysZ fa ex fn K) (i : Nat) {f : PySem.W.Frag → Bool} (h : ex[i]? = some f := by rfl) : f K = true :=
  List.all_eq_true.mp (Bool.and_eq_true_iff.mp (Bool.and_eq_true_iff.mp c.bools).2).1 f (List.mem_of_getElem? h)
theorem SaysZ.def_ (c : SaysZ fa ex fn K) (i : Nat) {d : He5.DefA} (h : fn[i]? = some d := by rfl) : ∃ fd, L2.FunD K d.name d.qual d.params d.body d.scope (d.dvs K) (d.kws K) (d.at_ K) fd := by
  have c2 := (Bool.and_eq_true_iff.mp (Bool.and_eq_true_iff.mp c.bools).2).2
  have e : fn.map (fun d => He5.fnA K (d.at_ K)) = fn.map He5.DefA.val := congrArg (fun z : He.AlD => z.2) c
  have e2 : (fn.map fun d => He5.fnA K (d.at_ K))[i]? = (fn.map He5.DefA.val)[i]? := by rw [e]
  rw [List.getElem?_map, List.getElem?_map, h] at e2
  exact He5.DefA.funD (Option.some.inj e2) (List.all_eq_true.mp c2 d (List.mem_of_getElem? h))
end

/-! ### a def by the places of what it is given -/
def spP (T : Tb) (K : PySem.W.Frag) (d : DF) : Sp := fun vs H Q E => ∃ R F S xs, Rep T K R F S H ∧ RelL T K R F xs vs ∧ OkV T K R F (d xs S) Q E
def FnP (T : Tb) (P : Program) (w : World) (K : PySem.W.Frag) (mg : Str → Option Value) (base : Heap) (k : Nat) (f : Addr) (d : DF) : Prop :=
  ∀ (A : Around) (outer : List Env) (s : Shared) (H : Hp) (us : List Value) (vs : List V) (Q : VK) (E : XK), Room k A → A.guards = some [] → Env0 P w K mg base A outer s H → Vals vs us → spP T K d vs H Q E →
    codeAny (model P w) A (.call (.ref f) ⟨us, []⟩) (CR (L2.CX P w) outer P w H s Q E) s
theorem FnP.mono {T : Tb} {P : Program} {w : World} {K : PySem.W.Frag} {mg : Str → Option Value} {base : Heap} {j k : Nat} {f : Addr} {d : DF} (g : FnP T P w K mg base j f d) (h : j ≤ k) : FnP T P w K mg base k f d :=
  fun A outer s H us vs Q E hr => g A outer s H us vs Q E (hr.mono h)
section
variable {T : Tb} {P : Program} {w : World} {K : PySem.W.Frag} {mg : Str → Option Value} {base : Heap} {k : Nat} {f : Addr} {fd : FuncData} {ps : List Str} {d : DF}
theorem fnp_of (G : FnG T P w K mg base k f fd ps d) (hb : Binds K fd ps []) (har : ∀ (xs : List PV) (S : Sto), xs.length ≠ ps.length → d xs S = .bad) : FnP T P w K mg base k f d := by
  rintro A outer s H us vs Q E hr hg e0 r ⟨R, F, S, xs, r0, rx, h⟩
  by_cases hl : xs.length = ps.length
  · have hv : vs.length = ps.length := by rw [rx.length]; exact hl
    have hb' := hb s us (e0.mod.kin.keeps fun b o e => (e0.bs b o e).1) (by rw [List.append_nil, ← r.length]; exact hv)
    rw [List.append_nil] at hb'
    exact G.run A outer s H ⟨us, []⟩ us vs Q E hr hg e0 hb' r ⟨hv, R, F, S, xs, r0, rx, h⟩
  · rw [har xs S hl] at h; exact h.elim
/-- .. the last ones by their defaults -/
def dDfl (n : Nat) (dv : List PV) (d : DF) : DF := fun xs S => if n - dv.length ≤ xs.length ∧ xs.length ≤ n then d (xs ++ dv.drop (dv.length - (n - xs.length))) S else .bad
/-- def f(a, .., *v) -/
def dStar (n : Nat) (d : DF) : DF := fun xs S => if n ≤ xs.length ∧ xs.length ≤ 16777216 then d (xs.take n ++ [.nd .tup (xs.drop n)]) S else .bad
end
theorem fnp_star {T : Tb} {P : Program} {w : World} {K : PySem.W.Frag} {mg : Str → Option Value} {base : Heap} {k : Nat} {f : Addr} {fd : FuncData} {x qual pv : Str} {params : Arguments} {body : List Stmt} {scope : Scope} {kws : List (Str × V)} {N ps : List Str} {b : DS}
    {d : DF} (hd : ∀ (vs : List V) (H : Hp) (Q : VK) (E : XK), spOf T K (ps.length + 1) d vs H Q E → tS T K (fun _ => E) b { nx := fun _ H' => Q .non H', rt := Q } (L2.start N vs) H)
    (G : FunD K x qual params body scope [] kws f fd) (S : FnScope N (ps ++ [pv]) scope) (har : ∀ (xs : List PV) (S : Sto), xs.length ≠ ps.length + 1 → d xs S = .bad)
    (hbi : ∀ (kV doc pm : Value) (an : Option Addr) (cdv ct : Value) (us rest : List Value), us.length = ps.length → bindArgs (PySem.W.fnOf x qual params body scope .none kV doc pm an cdv ct) ⟨us ++ rest, []⟩ = (newTuple rest >>= fun t => pure (ps.zip us ++ [(pv, t)])))
    (hb : ∀ (cdv : Value) (A : Around) (outer : List Env) (s : Shared) (H : Hp) (E : XK), Cg (cxOf (L2.CX P w) P w K mg base N qual scope f cdv A outer s H E) (fun _ => E) k → JB T (cxOf (L2.CX P w) P w K mg base N qual scope f cdv A outer s H E) (fun _ => E) body b) :
    FnP T P w K mg base (k + 1) f (dStar ps.length d) := by
  obtain ⟨oc, od, dV, kV, doc, pm, an, cdv, ct, osl, rfl, lk, hcd, hD, _⟩ := G.ex
  have e0 : dV = .none := by
    rcases hD with ⟨_, z⟩ | ⟨z, _⟩
    · exact z
    · exact absurd rfl z
  subst e0
  rintro A outer s H us vs Q E hr hgd e0 r ⟨R, Fz, St, xs, r0, rx, h⟩
  unfold dStar at h
  split at h
  · rename_i hn
    have hxl := rx.length
    have hvs : vs = vs.take ps.length ++ vs.drop ps.length := (List.take_append_drop ..).symm
    rw [hvs] at r
    obtain ⟨u1, u2, rfl, r1, r2⟩ := StX.vals_split r
    have l1 : (vs.take ps.length).length = ps.length := by rw [List.length_take, hxl]; omega
    have hz : (vs.drop ps.length).length ≤ sizeLine := by rw [List.length_drop, hxl, sizeLine_eq]; omega
    have hl1 : u1.length = ps.length := by rw [← r1.length]; exact l1
    have hl2 : u2.length ≤ sizeLine := by rw [← r2.length]; exact hz
    have hnn : H s.heap.objs.size = Option.none := e0.hok.fresh (Nat.le_refl _)
    refine StX.run_bnd (CX := L2.CX P w) lk hcd S hr e0 (G := fun ys H2 => ∃ p, H p = Option.none ∧ ys = vs.take ps.length ++ [V.ref p] ∧ H2 = upd H p (.tup (vs.drop ps.length))) (fun A' Ex Q' hQ => ?_) fun s2 H2 ys ⟨p, hp, ey, eH⟩ hr' => ?_
    · rw [hbi kV doc pm an cdv ct u1 u2 hl1]
      refine wpAny_bind (wpAny_newTuple (wpAny_pure ?_) hl2)
      have new : ObjOk P w (upd H s.heap.objs.size (.tup (vs.drop ps.length))) (s.heap.push ({ cls := .type "tuple", data := .seq u2.toArray } : Obj)) s.heap.objs.size (.tup (vs.drop ps.length)) := ⟨hz, u2, r2, ⟨_, Heap.get?_push_size _ rfl, rfl, _, rfl⟩⟩
      have un := StX.un_laid (fs := frs outer) (s := s) (o := ({ cls := .type "tuple", data := .seq u2.toArray } : Obj)) (u := .tup (vs.drop ps.length)) hnn
      have z := hQ _ _ (vs.take ps.length ++ [V.ref s.heap.objs.size]) (u1 ++ [Value.ref s.heap.objs.size]) (StX.env0_laid e0 new) un rfl (fun e s' => StX.cxUp outer s H _ _ E e s' un (fun b o q => Heap.get?_push_of_some _ q) rfl) (r1.append (.cons rfl .nil))
        (by rw [List.length_append, List.length_append, l1] <;> rfl) ⟨_, hnn, rfl, rfl⟩
      rw [List.zip_append hl1.symm] at z
      exact z
    · subst ey eH
      have cg : Cg (cxOf (L2.CX P w) P w K mg base N qual scope f cdv A outer s2 (upd H p (.tup (vs.drop ps.length))) E) (fun _ => E) k :=
        ⟨rfl, S.nd, hr', hgd, takes_of rfl rfl rfl rfl, passes_of rfl⟩
      refine ⟨_, hb cdv A outer s2 _ E cg, hd _ _ _ _ ?_⟩
      have rF := r0.frozen (o := .tup (vs.drop ps.length)) hp
      have ex := ex_upd (o := .tup (vs.drop ps.length)) (r0.fnone hp)
      have rn : Rel T K R (upd Fz p (.tup (vs.drop ps.length))) (.nd .tup (xs.drop ps.length)) (.ref p) := by
        rw [Rel]
        exact ⟨p, _, rfl, upd_same, (rx.drop ps.length).mono (Pl.refl R) ex⟩
      refine ⟨?_, R, _, St, xs.take ps.length ++ [.nd .tup (xs.drop ps.length)], rF, ((rx.take ps.length).mono (Pl.refl R) ex).append (.cons rn .nil), OkV.mono (Pl.refl R) ex h⟩
      rw [List.length_append, l1]; rfl
  · exact h.elim

section
variable {T : Tb} {X : Cx} {E : XS} {x m : Str} {p pos apos : Pos} {e o : Expr} {es : List Expr} {d : DF} {dO de : DE} {ar : DA} {j k c : Nat} {f g : Addr}
theorem run_fnp {pins : List (Addr × Obj)} {σ : L2.St} {H : Hp} {s : Shared} {Q : VK} {us : List Value} {vs : List V} (cg : Cg X E k) (hj : j ≤ k) (G : FnP T X.prog X.w X.K X.mg X.base j f d) (I : Inv X pins σ H s) (r : Vals vs us) (h : spP T X.K d vs H Q (E σ)) :
    wpAny (model X.prog X.w) X.A (call (.ref f) us) (EP X pins σ Q) X.xe s := by
  refine wpAny_call (codeAny_mono (G X.A X.stack s H us vs Q (E σ) (cg.room.mono hj) cg.gd I.env0 r h) fun z s' hq => ?_)
  cases z with
  | error e => exact cg.pass pins σ H s e s' I hq
  | ok fl =>
    cases fl with
    | ret u => exact I.after hq
    | next => exact False.elim hq
    | brk => exact False.elim hq
    | cont => exact False.elim hq
/-- .. inside a built-in -/
theorem run_fnp1 {pins : List (Addr × Obj)} {σ : L2.St} {H : Hp} {s : Shared} {Q : VK} {us : List Value} {vs : List V} (cg : Cg X E k) (hj : j + 1 ≤ k) (G : FnP T X.prog X.w X.K X.mg X.base j f d) (I : Inv X pins σ H s) (r : Vals vs us) (h : spP T X.K d vs H Q (E σ)) :
    wpAny (model X.prog X.w) X.A.in1 (call (.ref f) us) (EP X pins σ Q) X.xe s := by
  have e0 := I.env0
  have e1 : Env0 X.prog X.w X.K X.mg X.base X.A.in1 X.stack s H := ⟨e0.frames, e0.mod, e0.bs, e0.bsz, e0.funs, e0.frf, e0.hok, e0.bare⟩
  refine wpAny_call (codeAny_mono (G X.A.in1 X.stack s H us vs Q (E σ) ((cg.room.mono hj).in1) cg.gd e1 r h) fun z s' hq => ?_)
  cases z with
  | error e => exact cg.pass pins σ H s e s' I hq
  | ok fl =>
    cases fl with
    | ret u => exact I.after hq
    | next => exact False.elim hq
    | brk => exact False.elim hq
    | cont => exact False.elim hq
theorem spP_of {E : XK} {K : PySem.W.Frag} {R : Pl} {F H : Hp} {S : Sto} {xs : List PV} {vs : List V} {Q : VK} (r : Rep T K R F S H) (rx : RelL T K R F xs vs) (h : OkV T K R F (d xs S) Q E) : spP T K d vs H Q E := ⟨R, F, S, xs, r, rx, h⟩
theorem fn_t {Q : VK} {σ : L2.St} {H : Hp} (h : tV T X.K E (dFn d ar) σ H Q) : tL T X.K E ar σ H fun vs H1 => spP T X.K d vs H1 Q (E σ) := by
  obtain ⟨R, Fz, l, S, r, e', h⟩ := h
  exact seqL (goV T X.K (E σ) Q) r e' h fun xs S1 R1 F1 H1 us p ex r1 rx e1 h1 => spP_of r1 rx h1

/-- *e among arguments -/
def itemsOf (x : PV) (S : Sto) : Option (List PV) := match view x S with
  | some (.lst, xs) => some xs
  | some (.tup, xs) => some xs
  | some (.scr, xs) => some xs
  | _ => none
def dStarA (a : DE) (r : DA) : DA := fun l S => (a l S).bind fun x S1 => match itemsOf x S1 with
  | some xs => (r l S1).bind fun ys S2 => .ok (xs ++ ys) S2
  | none => .bad
theorem itemsOf_rel {K : PySem.W.Frag} {R : Pl} {F H : Hp} {S : Sto} (r : Rep T K R F S H) {x : PV} {u : V} (h : Rel T K R F x u) {ys : List PV} (e : itemsOf x S = some ys) : ∃ a us, u = .ref a ∧ (SqT K H a us ∨ SqL K H a us) ∧ RelL T K R F ys us := by
  unfold itemsOf at e
  split at e
  · rename_i xs hv
    cases e
    obtain ⟨a, us, h1, h2, h3⟩ := view_rel r h hv
    exact ⟨a, us, h1, .inr ((shp_rd h2).1 (.inl rfl)), h3⟩
  · rename_i xs hv
    cases e
    obtain ⟨a, us, h1, h2, h3⟩ := view_rel r h hv
    exact ⟨a, us, h1, .inl ((shp_rd h2).2 rfl), h3⟩
  · rename_i xs hv
    cases e
    obtain ⟨a, us, h1, h2, h3⟩ := view_rel r h hv
    exact ⟨a, us, h1, .inr ((shp_rd h2).1 (.inr rfl)), h3⟩
  · cases e
theorem ja_star (ha : JE T X E e de) (hr : JA T X E es ar) (hs : starEach (.Starred e p :: es) X.env = (true, eval e X.env) :: starEach es X.env := by rfl) : JA T X E (.Starred e p :: es) (dStarA de ar) := by
  refine pa_imp (StX.pa_star ha hr hs) fun σ H Q ⟨R, F, l, S, r, e', h⟩ => ?_
  refine seqV (goL T X.K (E σ) Q) r e' h fun x S1 R1 F1 H1 u p ex r1 rx e1 h1 => ?_
  have h1 : OkL T X.K R1 F1 (match itemsOf x S1 with
    | some xs => (ar l S1).bind fun ys S2 => .ok (xs ++ ys) S2
    | none => .bad) Q (E σ) := h1
  split at h1
  · rename_i xs hx
    obtain ⟨a, us, rfl, hs', hl⟩ := itemsOf_rel r1 rx hx
    refine ⟨a, us, rfl, hs', ?_⟩
    refine seqL (goL T X.K (E σ) Q) r1 e1 h1 fun ys S2 R2 F2 H2 ws p2 ex2 r2 rys e2 h2 => ?_
    exact PostL.here r2 ((hl.mono p2 ex2).append rys) h2
  · exact h1.elim

/-! ### f(..) by places -/
structure FnV (T : Tb) (P : Program) (w : World) (K : PySem.W.Frag) (mg : Str → Option Value) (base : Heap) (k : Nat) (x : Str) (d : DF) : Prop where
  ex : ∃ f : Addr, mg x = some (.ref f) ∧ PySem.W.keepIn K (.ref f) = true ∧ FnP T P w K mg base k f d
theorem je_fnP (cg : Cg X E k) (F : FnV T X.prog X.w X.K X.mg X.base j x d) (ha : JA T X E (e :: es) ar) (hj : j ≤ k := by decide) (hg : Gl X x := by rfl) (hdb : (x == ("__debug__" : Str)) = false := by decide)
    (he : starEach (e :: es) X.env = (false, eval e X.env) :: starEach es X.env := by rfl) (hpl : (backTo pos (starEach es X.env)).any (·.1) = false := by rfl) : JE T X E (.Call (.Name x p) (e :: es) [] pos) (dFn d ar) := by
  obtain ⟨f, hm, hk, G⟩ := F.ex
  refine ⟨fun pins s σ H Q I h => ?_⟩
  refine wpAny_Call_Name_kw (ld_glob I hg hm ?_ hdb)
  refine PySem.W.callWith_K (h₀ := X.base) I.ok.mod.kin hk (thn (ha.run pos pins s σ H _ I (fn_t h)) fun us s1 ⟨vs, H1, I1, r1, q1⟩ => ⟨I1.kIn, ?_⟩) he hpl
  exact run_fnp cg hj G I1 r1 q1
/-- f(e, .., *y) -/
theorem je_fnS (cg : Cg X E k) (F : FnV T X.prog X.w X.K X.mg X.base j x d) (ha : JA T X E (e :: es) ar) (hj : j ≤ k := by decide) (hg : Gl X x := by rfl) (hdb : (x == ("__debug__" : Str)) = false := by decide)
    (he : starEach (e :: es) X.env = (false, eval e X.env) :: starEach es X.env := by rfl) (hst : (backTo pos (starEach es X.env)).any (·.1) = true := by rfl) : JE T X E (.Call (.Name x p) (e :: es) [] pos) (dFn d ar) := by
  obtain ⟨f, hm, hk, G⟩ := F.ex
  refine ⟨fun pins s σ H Q I h => ?_⟩
  refine wpAny_Call_Name_kw (ld_glob I hg hm ?_ hdb)
  refine PySem.W.callWith_S2 (h₀ := X.base) I.ok.mod.kin hk (thn (ha.run pos pins s σ H _ I (fn_t h)) fun us s1 ⟨vs, H1, I1, r1, q1⟩ => ⟨I1.kIn, ?_⟩) he hst
  exact run_fnp cg hj G I1 r1 q1
/-- f(*y) -/
theorem je_fnS1 (cg : Cg X E k) (F : FnV T X.prog X.w X.K X.mg X.base j x d) (ha : JE T X E e de) (hj : j ≤ k := by decide) (hg : Gl X x := by rfl) (hdb : (x == ("__debug__" : Str)) = false := by decide)
    (hst : starEach [.Starred e apos] X.env = [(true, eval e X.env)] := by rfl) : JE T X E (.Call (.Name x p) [.Starred e apos] [] pos) (dFn d (dStarA de dNil)) := by
  obtain ⟨f, hm, hk, G⟩ := F.ex
  refine ⟨fun pins s σ H Q I h => ?_⟩
  refine wpAny_Call_Name_kw (ld_glob I hg hm ?_ hdb)
  obtain ⟨R, Fz, l, S, r, e', h⟩ := h
  have hh : tV T X.K E de σ H fun y H1 => ∃ a xs, y = V.ref a ∧ (SqT X.K H1 a xs ∨ SqL X.K H1 a xs) ∧ spP T X.K d xs H1 Q (E σ) := by
    have h : OkV T X.K R Fz (((de l S).bind fun x S1 => match itemsOf x S1 with
      | some xs => (Out.ok [] S1 : Out (List PV)).bind fun ys S2 => .ok (xs ++ ys) S2
      | none => .bad).bind fun xs S1 => d xs S1) Q (E σ) := h
    have h2 : OkV T X.K R Fz ((de l S).bind fun x S1 => match itemsOf x S1 with
      | some xs => d xs S1
      | none => .bad) Q (E σ) := by
      cases hd : de l S with
      | ok x S1 =>
        rw [hd] at h
        have h : OkV T X.K R Fz ((match itemsOf x S1 with
          | some xs => (Out.ok [] S1 : Out (List PV)).bind fun ys S2 => .ok (xs ++ ys) S2
          | none => .bad).bind fun xs S1 => d xs S1) Q (E σ) := h
        show OkV T X.K R Fz (match itemsOf x S1 with
          | some xs => d xs S1
          | none => .bad) Q (E σ)
        split at h
        · rename_i xs hx
          have h : OkV T X.K R Fz (d (xs ++ []) S1) Q (E σ) := h
          rw [List.append_nil] at h
          exact h
        · exact h.elim
      | err e' S1 => rw [hd] at h; exact h
      | bad => rw [hd] at h; exact h.elim
    refine seqV (goV T X.K (E σ) Q) r e' h2 fun x S1 R1 F1 H1 u p ex r1 rx e1 h1 => ?_
    have h1 : OkV T X.K R1 F1 (match itemsOf x S1 with
      | some xs => d xs S1
      | none => .bad) Q (E σ) := h1
    split at h1
    · rename_i xs hx
      obtain ⟨a, us, rfl, hs', hl⟩ := itemsOf_rel r1 rx hx
      exact ⟨a, us, rfl, hs', spP_of r1 hl h1⟩
    · exact h1.elim
  refine PySem.W.callWith_S (h₀ := X.base) I.ok.mod.kin hk (thn (ha.run pins s σ H _ I hh) fun v s1 ⟨y, H1, I1, ry, a, xs, ey, hxs, q⟩ => ?_) hst
  subst ey
  obtain rfl : v = Value.ref a := ry
  exact StX.star_any I1 hxs fun us s2 I2 rv => ⟨I2.kIn, run_fnp cg hj G I2 rv q⟩

/-! ### C.m(..), m a staticmethod -/
structure StatM (T : Tb) (P : Program) (w : World) (K : PySem.W.Frag) (mg : Str → Option Value) (base : Heap) (k c : Nat) (m : Str) (d : DF) : Prop where
  ex : ∃ (p g : Addr) (rest : List Value), ClX.CRead K (T.ca K c) (.type "type") ∧ PySem.W.findCls K (.ref (T.ca K c)) (.type "type") m = some (.get (.builtin "staticmethod.__get__") (.ref p) .none (.ref (T.ca K c))) ∧ PySem.W.recIn K p "staticmethod" = some (.ref g :: rest) ∧
    PySem.W.keepIn K (.ref g) = true ∧ FnP T P w K mg base k g d
theorem getstat_ok {A : Around} {E : Value → Shared → Prop} {pl : Sem Bool} {pins : List (Addr × Obj)} {σ : L2.St} {H : Hp} {s : Shared} {C pm : Addr} {rest : List Value} {Q : Value × List Value → Shared → Prop} (I : Inv X pins σ H s) (r : ClX.CRead X.K C (.type "type"))
    (h1 : PySem.W.findCls X.K (.ref C) (.type "type") m = some (.get (.builtin "staticmethod.__get__") (.ref pm) .none (.ref C))) (h2 : PySem.W.recIn X.K pm "staticmethod" = some (.ref g :: rest)) (h : ∀ s', Inv X pins σ H s' → Q (.ref g, []) s') :
    wpAny (model X.prog X.w) A (getMethod (.ref C) m pl) Q E s :=
  PySem.W.method_cls I.kIn r.ga (PySem.W.cls_bind I.kIn r.rd h1 (wpAny_call (PySem.W.sm_get (s := { s with toks := s.toks + 1 }) I.kIn h2 (PySem.W.handed_on rfl (h _ (I.tok _))))))
theorem je_stat {pl : Sem Bool} (cg : Cg X E k) (F : StatM T X.prog X.w X.K X.mg X.base j c m d) (ho : JE T X E o (dC (.cls c))) (ha : JA T X E (e :: es) ar) (hj : j ≤ k := by decide)
    (hst : starEach (e :: es) X.env = (false, eval e X.env) :: starEach es X.env := by rfl) (hpl : (backTo pos (starEach es X.env)).any (·.1) = false := by rfl)
    (ht : eval (.Call (.Attribute o m apos) (e :: es) [] pos) X.env = (do
      let ov ← eval o X.env
      standAt apos.atName
      let (f, first) ← holding [ov] (getMethod ov m pl)
      callWith pos f first (backTo pos (starEach (e :: es) X.env)) (backToKw pos (keywordEach [] X.env))) := by rfl) : JE T X E (.Call (.Attribute o m apos) (e :: es) [] pos) (dFn d ar) := by
  obtain ⟨pm, g, rest, r, h1, h2, hk, G⟩ := F.ex
  refine ⟨fun pins s σ H Q I h => ?_⟩
  have hh : tV T X.K E (dC (.cls c)) σ H fun x H1 => x = .ref (T.ca X.K c) ∧ tV T X.K E (dFn d ar) σ H1 Q := by
    obtain ⟨R, Fz, l, S, r, e', h⟩ := h
    refine ⟨R, Fz, l, S, r, e', fun R1 F1 H1 u p ex r1 rx => ?_⟩
    rw [Rel] at rx
    exact ⟨rx, R1, F1, l, S, r1, e'.mono p ex, OkV.mono p ex h⟩
  refine PySem.W.methodCall_KW (pl := pl) (thn (ho.run pins s σ H _ I hh) fun u s1 ⟨x, H1, I1, rx, ex, q⟩ => ?_) ht
  subst ex
  obtain rfl : u = Value.ref (T.ca X.K c) := rx
  refine getstat_ok I1 r h1 h2 fun s2 I2 => ?_
  refine PySem.W.callWith_K (first := []) (h₀ := X.base) I.ok.mod.kin hk (thn (ha.run pos pins s2 σ H1 _ I2 (fn_t q)) fun us s3 ⟨vs, H2, I3, r3, q3⟩ => ⟨I3.kIn, ?_⟩) hst hpl
  exact run_fnp cg hj G I3 r3 q3
theorem je_statS {pl : Sem Bool} (cg : Cg X E k) (F : StatM T X.prog X.w X.K X.mg X.base j c m d) (ho : JE T X E o (dC (.cls c))) (ha : JA T X E (e :: es) ar) (hj : j ≤ k := by decide)
    (hst : starEach (e :: es) X.env = (false, eval e X.env) :: starEach es X.env := by rfl) (hpl : (backTo pos (starEach es X.env)).any (·.1) = true := by rfl)
    (ht : eval (.Call (.Attribute o m apos) (e :: es) [] pos) X.env = (do
      let ov ← eval o X.env
      standAt apos.atName
      let (f, first) ← holding [ov] (getMethod ov m pl)
      callWith pos f first (backTo pos (starEach (e :: es) X.env)) (backToKw pos (keywordEach [] X.env))) := by rfl) : JE T X E (.Call (.Attribute o m apos) (e :: es) [] pos) (dFn d ar) := by
  obtain ⟨pm, g, rest, r, h1, h2, hk, G⟩ := F.ex
  refine ⟨fun pins s σ H Q I h => ?_⟩
  have hh : tV T X.K E (dC (.cls c)) σ H fun x H1 => x = .ref (T.ca X.K c) ∧ tV T X.K E (dFn d ar) σ H1 Q := by
    obtain ⟨R, Fz, l, S, r, e', h⟩ := h
    refine ⟨R, Fz, l, S, r, e', fun R1 F1 H1 u p ex r1 rx => ?_⟩
    rw [Rel] at rx
    exact ⟨rx, R1, F1, l, S, r1, e'.mono p ex, OkV.mono p ex h⟩
  refine PySem.W.methodCall_KW (pl := pl) (thn (ho.run pins s σ H _ I hh) fun u s1 ⟨x, H1, I1, rx, ex, q⟩ => ?_) ht
  subst ex
  obtain rfl : u = Value.ref (T.ca X.K c) := rx
  refine getstat_ok I1 r h1 h2 fun s2 I2 => ?_
  refine PySem.W.callWith_S2 (first := []) (h₀ := X.base) I.ok.mod.kin hk (thn (ha.run pos pins s2 σ H1 _ I2 (fn_t q)) fun us s3 ⟨vs, H2, I3, r3, q3⟩ => ⟨I3.kIn, ?_⟩) hst hpl
  exact run_fnp cg hj G I3 r3 q3
end
end Z
end
end
section
set_option Elab.async false
set_option linter.all false
set_option maxRecDepth 100000
set_option maxHeartbeats 1000000
/-! ZC: operators by own methods. -/
noncomputable section
namespace Z
open PySem PySem.Spec PyProof.Rows L2

/-! ### operators whose exceptions are those of the place -/
def OpE (T : Tb) (K : PySem.W.Frag) (E : XK) (f : PV → PV → Sto → Out PV) (r : R2) : Prop := ∀ (R : Pl) (F H : Hp) (S : Sto) (x y : PV) (u w : V) (Q : VK), Rep T K R F S H → Rel T K R F x u → Rel T K R F y w → OkV T K R F (f x y S) Q E → r u w H Q
def CalE (T : Tb) (K : PySem.W.Frag) (E : XK) (f : List PV → Sto → Out PV) (r : List V → Hp → VK → Prop) : Prop := ∀ (R : Pl) (F H : Hp) (S : Sto) (xs : List PV) (us : List V) (Q : VK), Rep T K R F S H → RelL T K R F xs us → OkV T K R F (f xs S) Q E → r us H Q
section
variable {T : Tb} {K : PySem.W.Frag} {E : XK} {f g : PV → PV → Sto → Out PV} {r r' : R2}
theorem OpZ.e (h : OpZ T K f r) : OpE T K E f r := fun R F H S x y u w Q => h E R F H S x y u w Q
theorem CalZ.e {f : List PV → Sto → Out PV} {r : List V → Hp → VK → Prop} (h : CalZ T K f r) : CalE T K E f r := fun R F H S xs us Q => h E R F H S xs us Q
end
section
variable {T : Tb} {X : Cx} {E : XK} {a b c : Expr} {da db : DE} {pos : Pos}
theorem bin_tOpE {f : PV → PV → Sto → Out PV} {r : R2} (hz : OpE T X.K E f r) {σ : L2.St} {H : Hp} {Q : VK} (h : tV T X.K (fun _ => E) (dBin f da db) σ H Q) : tOp r (tV T X.K (fun _ => E) da) (tV T X.K (fun _ => E) db) σ H Q := by
  obtain ⟨R, F, l, S, re, e, h⟩ := h
  refine seqV (goV T X.K E Q) re e h fun x S1 R1 F1 H1 u p ex r1 rx e1 h1 => ?_
  refine seqV (goV T X.K E Q) r1 e1 h1 fun y S2 R2 F2 H2 w p2 ex2 r2 ry e2 h2 => ?_
  exact hz R2 F2 H2 S2 x y u w Q r2 (rx.mono p2 ex2) ry h2
theorem je_binE {op : Operator} {f : PV → PV → Sto → Out PV} {r : R2} (ho : OpR X (binaryOp op) r) (hz : OpE T X.K E f r) (ha : JE T X (fun _ => E) a da) (hb : JE T X (fun _ => E) b db) : JE T X (fun _ => E) (.BinOp a op b pos) (dBin f da db) :=
  pe_imp (pe_op ho ha hb) fun _ _ _ h => bin_tOpE hz h
theorem je_cmpE {op : CmpOp} {f : PV → PV → Sto → Out PV} {r : R2} (ho : OpR X (compareOp op) r) (hz : OpE T X.K E f r) (ha : JE T X (fun _ => E) a da) (hb : JE T X (fun _ => E) b db) (hm : behindInMarks op b = false := by rfl) : JE T X (fun _ => E) (.Compare a [op] [b] pos) (dBin f da db) :=
  pe_imp (pe_cmpR ho ha hb hm) fun _ _ _ h => bin_tOpE hz h
theorem jt_cmpE {op : CmpOp} {f : PV → PV → Sto → Out PV} {r : R2} (ho : OpR X (compareOp op) r) (hz : OpE T X.K E f r) (ha : JE T X (fun _ => E) a da) (hb : JE T X (fun _ => E) b db) (hm : behindInMarks op b = false := by rfl) : JT T X (fun _ => E) (.Compare a [op] [b] pos) (dB (dBin f da db)) :=
  pt_imp (pt_cmpR ho ha hb hm) fun _ _ _ h => tB_of (fun _ _ _ q => bin_tOpE hz q) h
end

/-! ### an own class's methods, by places -/
structure FnMP (T : Tb) (P : Program) (w : World) (K : PySem.W.Frag) (mg : Str → Option Value) (base : Heap) (k c : Nat) (m : Str) (d : DF) : Prop where
  ex : ∃ f : Addr, Cls K (T.ca K c) ∧ Meth K (T.ca K c) m f ∧ FnP T P w K mg base k f d
theorem FnM.p {T : Tb} {P : Program} {w : World} {K : PySem.W.Frag} {mg : Str → Option Value} {base : Heap} {k c : Nat} {m : Str} {ps : List Str} {d : DF} (F : FnM T P w K mg base k c m ps d) : FnMP T P w K mg base k c m d := by
  obtain ⟨f, fd, h1, h2, h3, h4, _⟩ := F.ex
  exact ⟨f, h1, h2, fnp_of h3 h4 F.ar⟩
theorem FnMP.mono {T : Tb} {P : Program} {w : World} {K : PySem.W.Frag} {mg : Str → Option Value} {base : Heap} {j k c : Nat} {m : Str} {d : DF} (F : FnMP T P w K mg base j c m d) (h : j ≤ k) : FnMP T P w K mg base k c m d := by
  obtain ⟨f, h1, h2, h3⟩ := F.ex
  exact ⟨f, h1, h2, h3.mono h⟩
theorem inst_of {X : Cx} {pins : List (Addr × Obj)} {σ : L2.St} {H : Hp} {s : Shared} {a C dx : Addr} {fs : List (Str × V)} (I : Inv X pins σ H s) (e : H a = some (.ins C dx fs)) : ∃ ox od, PySem.W.InstAt s.heap a ox C (some od) := by
  obtain ⟨mA, O, _⟩ := ins_get I.hok e
  obtain ⟨od, J, _⟩ := O.look
  exact ⟨_, od, J⟩
/-- an instance of the class c -/
def isIns (c : Nat) (x : PV) (S : Sto) : Bool := match view x S with
  | some (.ins c' _, _) => c' == c
  | _ => false
theorem isIns_rel {T : Tb} {K : PySem.W.Frag} {R : Pl} {F H : Hp} {S : Sto} {c : Nat} (r : Rep T K R F S H) {x : PV} {u : V} (rx : Rel T K R F x u) (h : isIns c x S = true) : ∃ a dx fs, u = .ref a ∧ H a = some (.ins (T.ca K c) dx fs) := by
  unfold isIns at h
  split at h
  · rename_i c' fs xs hv
    have e : c' = c := beq_iff_eq.mp h
    subst e
    obtain ⟨a, us, rfl, ⟨_, dx, ha⟩, _⟩ := view_rel r rx hv
    exact ⟨a, dx, _, rfl, ha⟩
  · cases h
/-- a bool that an own method gives -/
def onlyB (o : Out PV) (g : Bool → PV) : Out PV := o.bind fun v S => match v with
  | .bl b => .ok (g b) S
  | _ => .bad
theorem onlyB_ok {T : Tb} {K : PySem.W.Frag} {R : Pl} {F : Hp} {E : XK} {o : Out PV} {g : Bool → PV} {Q : VK} (h : OkV T K R F (onlyB o g) Q E) : OkV T K R F o (fun v H' => ∃ b, v = .bl b ∧ ∀ u, (g b).at0 = some u → Q u H') E := by
  unfold onlyB at h
  cases o with
  | ok v S =>
    intro R1 F1 H1 u p ex r1 ru
    cases v with
    | bl b =>
      rw [Rel] at ru
      subst ru
      exact ⟨b, rfl, fun u hu => h R1 F1 H1 u p ex r1 (rel_at0 hu)⟩
    | _ => exact h.elim
  | err e S => exact h
  | bad => exact h.elim

/-! ### x in o -/
def rOwnIn (T : Tb) (K : PySem.W.Frag) (E : XK) (c : Nat) (d : DF) (neg : Bool) : R2 := fun x y H Q => ∃ a dx fs, y = .ref a ∧ H a = some (.ins (T.ca K c) dx fs) ∧ spP T K d [.ref a, x] H (fun v H' => ∃ b, v = .bl b ∧ Q (.bl (if neg then !b else b)) H') E
/-- x in y, y an instance of the class c | something else -/
def inX (c : Nat) (d : DF) (neg : Bool) (f : PV → PV → Sto → Out PV) (x y : PV) (S : Sto) : Out PV := if isIns c y S = true then onlyB (d [y, x] S) (fun b => .bl (if neg then !b else b)) else f x y S
section
variable {T : Tb} {X : Cx} {E : XK} {c j k : Nat} {d : DF} {f : PV → PV → Sto → Out PV} {r : R2}
theorem op_ownIn (cg : Cg X (fun _ => E) k) (F : FnMP T X.prog X.w X.K X.mg X.base j c "__contains__" d) (hj : j ≤ k := by decide) : OpR X (compareOp .In) (rOwnIn T X.K E c d false) := by
  obtain ⟨g, cl, hm, G⟩ := F.ex
  intro pins s σ H x y v u Q I rx ry ⟨a, dx, fs, ey, ha, hsp⟩
  subst ey
  obtain rfl : u = Value.ref a := ry
  obtain ⟨ox, od, J⟩ := inst_of I ha
  obtain ⟨m, hF⟩ := I.fr
  refine PySem.W.in_K hF I.ok.mod.kin J hm.at_ hm.fn (thn (run_fnp cg hj G I (vs := [V.ref a, x]) (us := [Value.ref a, v]) (.cons rfl (.cons rx .nil)) hsp) fun rv s1 ⟨v1, H1, I1, r1, b, e1, q⟩ => ?_)
  subst e1
  cases (show rv = Value.bool b from r1)
  exact wpAny_truthy_bool ⟨.bl b, H1, I1, rfl, q⟩
theorem op_ownNotIn (cg : Cg X (fun _ => E) k) (F : FnMP T X.prog X.w X.K X.mg X.base j c "__contains__" d) (hj : j ≤ k := by decide) : OpR X (compareOp .NotIn) (rOwnIn T X.K E c d true) := by
  obtain ⟨g, cl, hm, G⟩ := F.ex
  intro pins s σ H x y v u Q I rx ry ⟨a, dx, fs, ey, ha, hsp⟩
  subst ey
  obtain rfl : u = Value.ref a := ry
  obtain ⟨ox, od, J⟩ := inst_of I ha
  obtain ⟨m, hF⟩ := I.fr
  refine PySem.W.notIn_K hF I.ok.mod.kin J hm.at_ hm.fn (thn (run_fnp cg hj G I (vs := [V.ref a, x]) (us := [Value.ref a, v]) (.cons rfl (.cons rx .nil)) hsp) fun rv s1 ⟨v1, H1, I1, r1, b, e1, q⟩ => ?_)
  subst e1
  cases (show rv = Value.bool b from r1)
  exact wpAny_truthy_bool ⟨.bl !b, H1, I1, rfl, q⟩
theorem oe_in {K : PySem.W.Frag} {neg : Bool} (hf : OpE T K E f r) : OpE T K E (inX c d neg f) (fun x y H Q => rOwnIn T K E c d neg x y H Q ∨ r x y H Q) := by
  intro R F H S x y u w Q re rx ry h
  unfold inX at h
  split at h
  · rename_i hi
    obtain ⟨a, dx, fs, rfl, ha⟩ := isIns_rel re ry hi
    refine .inl ⟨a, dx, fs, rfl, ha, spP_of re (.cons ry (.cons rx .nil)) ?_⟩
    have h2 := onlyB_ok h
    cases hd : d [y, x] S with
    | ok v S1 =>
      rw [hd] at h2
      intro R1 F1 H1 u1 p ex r1 ru
      obtain ⟨b, e, q⟩ := h2 R1 F1 H1 u1 p ex r1 ru
      exact ⟨b, e, q _ rfl⟩
    | err e S1 => rw [hd] at h2; exact h2
    | bad => rw [hd] at h2; exact h2
  · exact .inr (hf R F H S x y u w Q re rx ry h)
theorem op_inX (cg : Cg X (fun _ => E) k) (F : FnMP T X.prog X.w X.K X.mg X.base j c "__contains__" d) (ho : OpR X (compareOp .In) r) (hj : j ≤ k := by decide) : OpR X (compareOp .In) (fun x y H Q => rOwnIn T X.K E c d false x y H Q ∨ r x y H Q) := OpR.or (op_ownIn cg F hj) ho
theorem op_notInX (cg : Cg X (fun _ => E) k) (F : FnMP T X.prog X.w X.K X.mg X.base j c "__contains__" d) (ho : OpR X (compareOp .NotIn) r) (hj : j ≤ k := by decide) : OpR X (compareOp .NotIn) (fun x y H Q => rOwnIn T X.K E c d true x y H Q ∨ r x y H Q) := OpR.or (op_ownNotIn cg F hj) ho
end

/-! ### len(o), bool(o), o as a test -/
def rOwnLen (T : Tb) (K : PySem.W.Frag) (E : XK) (c : Nat) (d : DF) : List V → Hp → VK → Prop := fun xs H Q => ∃ a dx fs, xs = [.ref a] ∧ H a = some (.ins (T.ca K c) dx fs) ∧ spP T K d [.ref a] H (fun v H' => ∃ n : Int, v = .int n ∧ 0 ≤ n ∧ n < 2 ^ 63 ∧ Q (.int n) H') E
def onlyN (o : Out PV) : Out PV := o.bind fun v S => match v with
  | .int n => if 0 ≤ n ∧ n < 9223372036854775808 then .ok (.int n) S else .bad
  | _ => .bad
def lenX (c : Nat) (d : DF) (f : List PV → Sto → Out PV) (xs : List PV) (S : Sto) : Out PV := match xs with
  | [x] => if isIns c x S = true then onlyN (d [x] S) else f [x] S
  | xs => f xs S
section
variable {T : Tb} {X : Cx} {E : XK} {c j k : Nat} {d : DF} {f : List PV → Sto → Out PV} {r : List V → Hp → VK → Prop}
theorem call_ownLen (cg : Cg X (fun _ => E) k) (F : FnMP T X.prog X.w X.K X.mg X.base j c "__len__" d) (hj : j + 1 ≤ k := by decide) : CallR X (.builtin "len") (rOwnLen T X.K E c d) := by
  obtain ⟨g, cl, hm, G⟩ := F.ex
  intro pins s σ H xs us Q I r ⟨a, dx, fs, e, ha, hsp⟩
  subst e
  cases r with
  | cons ra rr =>
    cases rr
    cases ra
    obtain ⟨ox, od, J⟩ := inst_of I ha
    obtain ⟨m, hF⟩ := I.fr
    refine PySem.W.len_K hF I.ok.mod.kin J hm.at_ hm.fn (thn (run_fnp1 cg hj G I (vs := [V.ref a]) (us := [Value.ref a]) (.cons rfl .nil) hsp) fun rv s1 ⟨v1, H1, I1, r1, n, e1, h0, h1, q⟩ => ?_)
    subst e1
    obtain ⟨t, rfl⟩ := (show ∃ t, rv = Value.int n t from r1)
    exact ⟨⟨h0, h1⟩, .int n, H1, I1.tok _, ⟨_, rfl⟩, q⟩
theorem ce_len {K : PySem.W.Frag} (hf : CalE T K E f r) : CalE T K E (lenX c d f) (fun xs H Q => rOwnLen T K E c d xs H Q ∨ r xs H Q) := by
  intro R F H S xs us Q re rx h
  unfold lenX at h
  split at h
  · rename_i x
    split at h
    · rename_i hi
      obtain ⟨u, rfl, ru⟩ := rel1 rx
      obtain ⟨a, dx, fs, rfl, ha⟩ := isIns_rel re ru hi
      refine .inl ⟨a, dx, fs, rfl, ha, spP_of re rx ?_⟩
      unfold onlyN at h
      cases hd : d [x] S with
      | ok v S1 =>
        rw [hd] at h
        intro R1 F1 H1 u1 p ex r1 ru1
        cases v with
        | int n =>
          have h : OkV T K R F (if 0 ≤ n ∧ n < 9223372036854775808 then .ok (.int n) S1 else .bad) Q E := h
          split at h
          · rename_i hn
            rw [Rel] at ru1
            exact ⟨n, ru1, hn.1, hn.2, h R1 F1 H1 (.int n) p ex r1 (by rw [Rel])⟩
          · exact h.elim
        | _ => exact h.elim
      | err e S1 => rw [hd] at h; exact h
      | bad => rw [hd] at h; exact h.elim
    · exact .inr (hf R F H S [x] us Q re rx h)
  · exact .inr (hf R F H S xs us Q re rx h)
theorem cr_lenX (cg : Cg X (fun _ => E) k) (F : FnMP T X.prog X.w X.K X.mg X.base j c "__len__" d) (hc : CallR X (.builtin "len") r) (hj : j + 1 ≤ k := by decide) : CallR X (.builtin "len") (fun xs H Q => rOwnLen T X.K E c d xs H Q ∨ r xs H Q) := CallR.or (call_ownLen cg F hj) hc
end
section
variable {T : Tb} {X : Cx} {E : XK} {e : Expr} {es : List Expr} {ar : DA} {p pos : Pos} {f : List PV → Sto → Out PV} {r : List V → Hp → VK → Prop} {x : Str}
theorem app_tCBE (hz : CalE T X.K E f r) {σ : L2.St} {H : Hp} {Q : VK} (h : tV T X.K (fun _ => E) (dApp f ar) σ H Q) : tCB r (tL T X.K (fun _ => E) ar) σ H Q := by
  obtain ⟨R, F, l, S, re, e, h⟩ := h
  exact seqL (goV T X.K E Q) re e h fun xs S1 R1 F1 H1 us p ex r1 rx e1 h1 => hz R1 F1 H1 S1 xs us Q r1 rx h1
theorem je_callBE {id : String} (hc : CallR X (.builtin id) r) (hz : CalE T X.K E f r) (hm : X.mg x = none) (ha : JA T X (fun _ => E) (e :: es) ar) (hg : Gl X x := by rfl) (hv : bootBuiltins x = some (.builtin id) := by rfl) (hn : x ≠ "__name__" := by decide) (hdb : (x == ("__debug__" : Str)) = false := by decide)
    (he : starEach (e :: es) X.env = (false, eval e X.env) :: starEach es X.env := by rfl) (hpl : (backTo pos (starEach es X.env)).any (·.1) = false := by rfl) : JE T X (fun _ => E) (.Call (.Name x p) (e :: es) [] pos) (dApp f ar) :=
  pe_imp (pe_callB hc hg hm hv ha hn hdb he hpl) fun _ _ _ h => app_tCBE hz h
end
/-! ### truth by an own __bool__ -/
def truX (c : Nat) (d : DF) (x : PV) (S : Sto) : Out Bool := if isIns c x S = true then asB (d [x] S) else truP x S
def dTruX (c : Nat) (d : DF) (a : DE) : DB := fun l S => (a l S).bind fun x S1 => truX c d x S1
section
variable {T : Tb} {X : Cx} {E : XK} {c j k : Nat} {d : DF} {a : Expr} {da : DE}
theorem tru_own (cg : Cg X (fun _ => E) k) (F : FnMP T X.prog X.w X.K X.mg X.base j c "__bool__" d) (hj : j ≤ k := by decide) : TruR X (fun x H Q => ∃ a dx fs, x = .ref a ∧ H a = some (.ins (T.ca X.K c) dx fs) ∧ spP T X.K d [.ref a] H (fun v H' => ∃ b, v = .bl b ∧ Q b H') E) := by
  obtain ⟨g, cl, hm, G⟩ := F.ex
  intro pins s σ H x v Q I rx ⟨a, dx, fs, ex, ha, hsp⟩
  subst ex
  obtain rfl : v = Value.ref a := rx
  obtain ⟨ox, od, J⟩ := inst_of I ha
  obtain ⟨m, hF⟩ := I.fr
  refine PySem.W.truthy_K hF I.ok.mod.kin J hm.at_ hm.fn (thn (run_fnp cg hj G I (vs := [V.ref a]) (us := [Value.ref a]) (.cons rfl .nil) hsp) fun rv s1 ⟨v1, H1, I1, r1, b, e1, q⟩ => ?_)
  subst e1
  cases (show rv = Value.bool b from r1)
  exact ⟨H1, I1, q⟩
theorem jt_truX (cg : Cg X (fun _ => E) k) (F : FnMP T X.prog X.w X.K X.mg X.base j c "__bool__" d) (ha : JE T X (fun _ => E) a da) (hj : j ≤ k := by decide) (he : ∀ whole, isTrue a X.env whole = (do let v ← whole; standAt a.pos; holding [v] (truthy v)) := by intro _; rfl) : JT T X (fun _ => E) a (dTruX c d da) := by
  have hr : TruR X (fun x H Q => (∃ a dx fs, x = .ref a ∧ H a = some (.ins (T.ca X.K c) dx fs) ∧ spP T X.K d [.ref a] H (fun v H' => ∃ b, v = .bl b ∧ Q b H') E) ∨ ∃ k, TruV X.K x H k ∧ Q k H) := by
    intro pins s σ H x v Q I rx h
    rcases h with h | ⟨k, h1, h2⟩
    · exact tru_own cg F hj pins s σ H x v Q I rx h
    · exact tru_ok pins s σ H x v Q I rx ⟨k, h1, h2⟩
  refine pt_imp (pt_truthR ha hr he) fun σ H Q ⟨R, Fz, l, S, r, e, h⟩ => ?_
  refine seqV (goB T X.K E Q) r e h fun x S1 R1 F1 H1 u p ex r1 rx e1 h1 => ?_
  have h1 : OkB T X.K R1 F1 (truX c d x S1) Q E := h1
  unfold truX at h1
  split at h1
  · rename_i hi
    obtain ⟨a, dx, fs, rfl, hx⟩ := isIns_rel r1 rx hi
    refine .inl ⟨a, dx, fs, rfl, hx, spP_of r1 (.cons rx .nil) ?_⟩
    cases hd : d [x] S1 with
    | ok v S2 =>
      rw [hd] at h1
      intro R2 F2 H2 u2 p2 ex2 r2 ru
      cases v with
      | bl b => rw [Rel] at ru; exact ⟨b, ru, h1 R2 F2 H2 p2 ex2 r2⟩
      | _ => exact h1.elim
    | err e S2 => rw [hd] at h1; exact h1
    | bad => rw [hd] at h1; exact h1.elim
  · exact .inr (tru_rel r1 rx h1)
end

/-! ### what classes values are of -/
inductive Ty where
  | b (n : String) | c (k : Nat) | x (k : Nat)
  deriving DecidableEq
def tyW (x : PV) (S : Sto) : Option Ty := match view x S with
  | some (.ins c _, _) => some (.c c)
  | some (.exn c _, _) => some (.x c)
  | _ => (tyZ x S).map .b
/-- isinstance by tables: a built-in's instance of a class, a class's of a class, of a built-in; the classes that are known; whose methods go first -/
structure Ki where
  kb : List ((String × Nat) × Bool)
  kc : List ((Nat × Nat) × Bool)
  kt : List ((Nat × String) × Bool)
  cs : List Nat
  fb : List (String × Nat)
  es : List Nat := []
def Ki.kit (I : Ki) (t : Ty) (x : PV) : Option Bool := match t, x with
  | .b t, .ty n => kitB t n
  | .b t, .cls c => I.kb.lookup (t, c)
  | .c k, .cls c => if k ∈ I.cs then I.kc.lookup (k, c) else none
  | .c k, .ty n => if k ∈ I.cs then I.kt.lookup (k, n) else none
  | .x k, .cls c => if k ∈ I.es then I.kc.lookup (k, c) else none
  | .x k, .ty n => if k ∈ I.es then I.kt.lookup (k, n) else none
  | _, _ => none
def Ki.first (I : Ki) (t : Ty) (c : Nat) : Bool := match t with
  | .b t => decide ((t, c) ∈ I.fb)
  | .c k => k == c
  | .x _ => false
def Ki.knows (I : Ki) (t : Ty) : Bool := match t with
  | .b _ => true
  | .c k => decide (k ∈ I.cs)
  | .x k => decide (k ∈ I.es)
theorem Ki.knows_of {I : Ki} {t : Ty} (h : I.knows t = true) : (∀ k, t = .c k → k ∈ I.cs) ∧ ∀ k, t = .x k → k ∈ I.es := ⟨fun k e => by
  subst e
  exact of_decide_eq_true h, fun k e => by
  subst e
  exact of_decide_eq_true h⟩
/-- the tables as they are asked of the text -/
def kiB (T : Tb) (I : Ki) (K : PySem.W.Frag) : Bool := (I.kb.all fun p => decide (PySem.W.kitOne K (.type p.1.1) (.ref (T.ca K p.1.2)) = some p.2)) && ((I.kc.all fun p => decide (PySem.W.kitOne K (.ref (T.ca K p.1.1)) (.ref (T.ca K p.1.2)) = some p.2)) &&
  ((I.kt.all fun p => decide (PySem.W.kitOne K (.ref (T.ca K p.1.1)) (.type p.1.2) = some p.2)) && ((I.fb.all fun p => decide (PySem.W.subIn K (.type p.1) (.ref (T.ca K p.2)) = some false)) &&
  ((decide (PySem.W.specialIn K (.builtin "object.__class__") "__get__" = some (some (.builtin "getset_descriptor.__get__"))) && decide (PySem.W.takesIn K (.builtin "object.__class__") = some true)) &&
  ((I.es.all fun c => He.Fa.ok K (.keep (T.cn c)) && (xfB K (T.ca K c) && (decide (PySem.W.findIn K (.ref (T.ca K c)) "__class__" = some (some (.builtin "object.__class__"))) && decide (PySem.W.mroIn K (T.ca K c) (.type "object") = some true)))) &&
  I.cs.all fun c => He.Fa.ok K (.cls (T.cn c)) && (decide (PySem.W.findIn K (.ref (T.ca K c)) "__class__" = some (some (.builtin "object.__class__"))) && decide (PySem.W.mroIn K (T.ca K c) (.type "object") = some true)))))))
structure KiOk (T : Tb) (I : Ki) (K : PySem.W.Frag) : Prop where
  kb : ∀ p ∈ I.kb, PySem.W.kitOne K (.type p.1.1) (.ref (T.ca K p.1.2)) = some p.2
  kc : ∀ p ∈ I.kc, PySem.W.kitOne K (.ref (T.ca K p.1.1)) (.ref (T.ca K p.1.2)) = some p.2
  kt : ∀ p ∈ I.kt, PySem.W.kitOne K (.ref (T.ca K p.1.1)) (.type p.1.2) = some p.2
  fb : ∀ p ∈ I.fb, PySem.W.subIn K (.type p.1) (.ref (T.ca K p.2)) = some false
  hn : PySem.W.specialIn K (.builtin "object.__class__") "__get__" = some (some (.builtin "getset_descriptor.__get__"))
  tk : PySem.W.takesIn K (.builtin "object.__class__") = some true
  cl : ∀ c ∈ I.cs, Cls K (T.ca K c)
  ca : ∀ c ∈ I.cs, PySem.W.findIn K (.ref (T.ca K c)) "__class__" = some (some (.builtin "object.__class__"))
  mr : ∀ c ∈ I.cs, PySem.W.mroIn K (T.ca K c) (.type "object") = some true
  xc : ∀ c ∈ I.es, ExcC K (T.ca K c)
theorem kiB_ok {T : Tb} {I : Ki} {K : PySem.W.Frag} (h : kiB T I K = true) : KiOk T I K := by
  obtain ⟨h1, h⟩ := Bool.and_eq_true_iff.mp h
  obtain ⟨h2, h⟩ := Bool.and_eq_true_iff.mp h
  obtain ⟨h3, h⟩ := Bool.and_eq_true_iff.mp h
  obtain ⟨h4, h⟩ := Bool.and_eq_true_iff.mp h
  obtain ⟨h5, h7⟩ := Bool.and_eq_true_iff.mp h
  obtain ⟨h5, h6⟩ := Bool.and_eq_true_iff.mp h5
  obtain ⟨h8, h7⟩ := Bool.and_eq_true_iff.mp h7
  have a8 := fun c hc => Bool.and_eq_true_iff.mp (Bool.and_eq_true_iff.mp (List.all_eq_true.mp h8 c hc)).2
  have a7 := fun c hc => Bool.and_eq_true_iff.mp (List.all_eq_true.mp h7 c hc)
  exact ⟨fun p hp => of_decide_eq_true (List.all_eq_true.mp h1 p hp), fun p hp => of_decide_eq_true (List.all_eq_true.mp h2 p hp), fun p hp => of_decide_eq_true (List.all_eq_true.mp h3 p hp), fun p hp => of_decide_eq_true (List.all_eq_true.mp h4 p hp),
    of_decide_eq_true h5, of_decide_eq_true h6, fun c hc => He.cls_ok (a7 c hc).1, fun c hc => of_decide_eq_true (Bool.and_eq_true_iff.mp (a7 c hc).2).1, fun c hc => of_decide_eq_true (Bool.and_eq_true_iff.mp (a7 c hc).2).2,
    fun c hc =>
      let t := xfB_ok (a8 c hc).1
      let q := Bool.and_eq_true_iff.mp (a8 c hc).2
      ⟨t.ga, t.gg, t.exC, t.hdC, of_decide_eq_true q.1, of_decide_eq_true h5, of_decide_eq_true h6, of_decide_eq_true q.2⟩⟩
theorem mem_of_lookup {α β : Type} [BEq α] [LawfulBEq α] {k : α} {v : β} : ∀ {l : List (α × β)}, l.lookup k = some v → (k, v) ∈ l
  | [], h => by cases h
  | (a, b) :: l, h => by
    rw [List.lookup_cons] at h
    by_cases e : (k == a) = true
    · rw [e] at h
      have : b = v := Option.some.inj h
      rw [eq_of_beq e, this]
      exact List.mem_cons_self
    · rw [Bool.not_eq_true] at e
      rw [e] at h
      exact List.mem_cons_of_mem _ (mem_of_lookup h)
def Ty.v (T : Tb) (K : PySem.W.Frag) : Ty → Value
  | .b n => .type n
  | .c k => .ref (T.ca K k)
  | .x k => .ref (T.ca K k)
section
variable {T : Tb} {I : Ki} {K : PySem.W.Frag} {R : Pl} {F H : Hp} {S : Sto}
theorem tyW_rel (O : KiOk T I K) (r : Rep T K R F S H) {x : PV} {u : V} (h : Rel T K R F x u) {t : Ty} (e : tyW x S = some t) (hc : (∀ c, t = .c c → c ∈ I.cs) ∧ ∀ c, t = .x c → c ∈ I.es) : TyR K H u (t.v T K) := by
  unfold tyW at e
  split at e
  · rename_i c fs xs hv
    cases e
    obtain ⟨a, us, rfl, ⟨_, dx, ha⟩, _⟩ := view_rel r h hv
    have hm := hc.1 c rfl
    exact .base (.base (.ins ha (O.cl c hm) (O.ca c hm) O.hn O.tk (O.mr c hm)))
  · rename_i c fs xs hv
    cases e
    obtain ⟨a, us, rfl, ⟨_, d, ha, hd⟩, _⟩ := view_rel r h hv
    refine .exn ha ?_ (O.xc c (hc.2 c rfl))
    rcases hd with ⟨_, hd⟩ | ⟨dd, h1, h2⟩
    · exact .inl hd
    · exact .inr ⟨dd, _, h1, h2⟩
  · rw [Option.map_eq_some_iff] at e
    obtain ⟨n, h1, rfl⟩ := e
    exact tyZ_rel r h h1
theorem kit_rel (O : KiOk T I K) {t : Ty} {x : PV} {u : V} {b : Bool} (h : Rel T K R F x u) (e : I.kit t x = some b) : ∃ w, ClsV u w ∧ PySem.W.kitOne K (t.v T K) w = some b ∧ ((∀ c, t = .c c → c ∈ I.cs) ∧ ∀ c, t = .x c → c ∈ I.es) := by
  cases t with
  | b n =>
    cases x with
    | ty m =>
      rw [rel_ty h]
      exact ⟨.type m, .ty m, kit_ty e, fun c z => (nomatch z), fun c z => nomatch z⟩
    | cls c =>
      rw [rel_cls h]
      exact ⟨_, .own _, O.kb ((n, c), b) (mem_of_lookup e), fun c z => (nomatch z), fun c z => nomatch z⟩
    | _ => cases e
  | c k =>
    cases x with
    | ty m =>
      rw [rel_ty h]
      have e : (if k ∈ I.cs then I.kt.lookup (k, m) else none) = some b := e
      split at e
      · rename_i hk
        exact ⟨.type m, .ty m, O.kt ((k, m), b) (mem_of_lookup e), fun c z => by cases z; exact hk, fun c z => nomatch z⟩
      · cases e
    | cls c =>
      rw [rel_cls h]
      have e : (if k ∈ I.cs then I.kc.lookup (k, c) else none) = some b := e
      split at e
      · rename_i hk
        exact ⟨_, .own _, O.kc ((k, c), b) (mem_of_lookup e), fun c z => by cases z; exact hk, fun c z => nomatch z⟩
      · cases e
    | _ => cases e
  | x k =>
    cases x with
    | ty m =>
      rw [rel_ty h]
      have e : (if k ∈ I.es then I.kt.lookup (k, m) else none) = some b := e
      split at e
      · rename_i hk
        exact ⟨.type m, .ty m, O.kt ((k, m), b) (mem_of_lookup e), fun c z => (nomatch z), fun c z => by cases z; exact hk⟩
      · cases e
    | cls c =>
      rw [rel_cls h]
      have e : (if k ∈ I.es then I.kc.lookup (k, c) else none) = some b := e
      split at e
      · rename_i hk
        exact ⟨_, .own _, O.kc ((k, c), b) (mem_of_lookup e), fun c z => (nomatch z), fun c z => by cases z; exact hk⟩
      · cases e
    | _ => cases e
end
/-- isinstance, own classes too -/
def isiX (I : Ki) (xs : List PV) (S : Sto) : Out PV := match xs with
  | [x, .nd k cs] => isiP [x, .nd k cs] S
  | [x, y] => (match (tyW x S).bind fun t => I.kit t y with
    | some b => .ok (.bl b) S
    | none => .bad)
  | _ => .bad
theorem cz_isiX {T : Tb} {I : Ki} {K : PySem.W.Frag} (O : KiOk T I K) : CalZ T K (isiX I) (fun xs H Q => rIsiZ K xs H Q ∨ rIsiTZ K xs H Q) := by
  intro E R F H S xs us Q r rx h
  unfold isiX at h
  split at h
  · exact cz_isi E R F H S _ us Q r rx h
  · rename_i x y _
    obtain ⟨u, w, rfl, r1, r2⟩ := rel2 rx
    split at h
    · rename_i b hb
      rw [Option.bind_eq_some_iff] at hb
      obtain ⟨t, h1, h2⟩ := hb
      obtain ⟨cw, c1, c2, c3⟩ := kit_rel O r2 h2
      exact .inl ⟨u, w, _, cw, b, rfl, c1, tyW_rel O r r1 h1 c3, c2, PostV.here r (by rw [Rel]) h⟩
    · exact h.elim
  · exact h.elim

/-! ### == by an own method -/
def rOwnC (T : Tb) (K : PySem.W.Frag) (E : XK) (c : Nat) (d : DF) : R2 := fun x y H Q => ∃ a dx fs tb, x = .ref a ∧ H a = some (.ins (T.ca K c) dx fs) ∧ TyR K H y tb ∧ PySem.W.notFirst K (T.ca K c) tb = true ∧ spP T K d [.ref a, y] H Q E
/-- x == y, x < y .., x an instance of the class c -/
def cmpX (I : Ki) (c : Nat) (d : DF) (f : PV → PV → Sto → Out PV) (x y : PV) (S : Sto) : Out PV := if isIns c x S = true then (match tyW y S with
  | some t => if I.first t c = true ∧ I.knows t = true then d [x, y] S else .bad
  | none => .bad) else f x y S
section
variable {T : Tb} {I : Ki} {X : Cx} {E : XK} {c j k : Nat} {d : DF} {f : PV → PV → Sto → Out PV} {r : R2}
theorem op_ownC {op : CmpOp} {nm : Str} (hnm : (cmpInfo op).2.1 = nm) (hop : ∀ x y, compareOp op x y = richCompare op x y) (cg : Cg X (fun _ => E) k) (F : FnMP T X.prog X.w X.K X.mg X.base j c nm d) (hj : j ≤ k := by decide) : OpR X (compareOp op) (rOwnC T X.K E c d) := by
  subst hnm
  obtain ⟨g, cl, hm, G⟩ := F.ex
  intro pins s σ H x y v u Q I rx ry ⟨a, dx, fs, tb, ex, ha, hty, hnf, hsp⟩
  subst ex
  obtain rfl : v = Value.ref a := rx
  obtain ⟨ox, od, J⟩ := inst_of I ha
  obtain ⟨m, hF⟩ := I.fr
  obtain ⟨P, KX, hP, _⟩ := kit_ofR I ry hty
  rw [hop]
  refine PySem.W.cmp_K (cg.room.units0) hF I.ok.mod.kin J (KX.ty _ _ I.kIn hP) hnf hm.at_ hm.fn (thn (run_fnp cg hj G I (vs := [V.ref a, y]) (us := [Value.ref a, u]) (.cons rfl (.cons ry .nil)) hsp) fun rv s1 ⟨v1, H1, I1, r1, q⟩ => ?_)
  have hni : ∀ w : Value, RelV v1 w → w ≠ .notImplemented := by
    intro w hw z
    subst z
    cases v1 <;> first | exact (nomatch hw) | (obtain ⟨_, z⟩ := hw; cases z)
  unfold PySem.W.CmpBack
  cases rv <;> first | exact ⟨v1, H1, I1, r1, q⟩ | exact absurd rfl (hni _ r1)
theorem oe_cmpX (O : KiOk T I X.K) (hf : OpE T X.K E f r) : OpE T X.K E (cmpX I c d f) (fun x y H Q => rOwnC T X.K E c d x y H Q ∨ r x y H Q) := by
  intro R F H S x y u w Q re rx ry h
  unfold cmpX at h
  split at h
  · rename_i hi
    obtain ⟨a, dx, fs, rfl, ha⟩ := isIns_rel re rx hi
    split at h
    · rename_i t ht
      split at h
      · rename_i hc
        refine .inl ⟨a, dx, fs, t.v T X.K, rfl, ha, tyW_rel O re ry ht (Ki.knows_of hc.2), ?_, spP_of re (.cons rx (.cons ry .nil)) h⟩
        unfold PySem.W.notFirst
        cases t with
        | b n =>
          have hm : (n, c) ∈ I.fb := of_decide_eq_true hc.1
          have := O.fb (n, c) hm
          show (_ || PySem.W.subIn X.K (.type n) (.ref (T.ca X.K c)) == some false) = true
          rw [this]; simp
        | c k =>
          have e : k = c := beq_iff_eq.mp hc.1
          subst e
          show (Value.ref (T.ca X.K k) == Value.ref (T.ca X.K k) || _) = true
          simp
        | x k => cases hc.1
      · exact h.elim
    · exact h.elim
  · exact .inr (hf R F H S x y u w Q re rx ry h)
end
end Z
end
end
section
set_option Elab.async false
set_option linter.all false
set_option maxRecDepth 100000
set_option maxHeartbeats 1000000
/-! ZE: dicts. -/
noncomputable section
namespace Z
open PySem PySem.Spec PyProof.Rows L2

/-! ### an empty dict is of both kinds -/
section
variable {P : Program} {w : World} {H : Hp} {h : Heap} {a : Addr}
theorem em_k (ok : HOk P w H h) (e : Rd H a (.dT [])) : (a == sysModules) = false ∧ h.DictOf (mixKind P w) a [] := by
  obtain ⟨_, hd, xs, r, o, es, ep, h1, h2, h3, h4, _⟩ := dt_rd ok e
  cases r
  have h5 : es = #[] := by
    have : es.toList = [] := h4
    exact Array.toList_eq_nil_iff.mp this
  subst h5
  exact ⟨hd, o, #[], ep, h1, h2, h3, fun e he => by simp at he, .nil, List.nodup_nil⟩
theorem em_t (ok : HOk P w H h) (e : Rd H a (.dK [])) : (a == sysModules) = false ∧ h.DictOfH (tupleKind (mixKind P w)) a [] := by
  obtain ⟨_, hd, vs, r, o, es, ep, h1, h2, h3, h4, h5, _⟩ := dk_rd ok e
  cases r
  have h6 : es = #[] := by
    have : es.toList = [] := by
      generalize es.toList = l at h5
      cases h5
      rfl
    exact Array.toList_eq_nil_iff.mp this
  subst h6
  exact ⟨hd, o, #[], ep, h1, h2, h3, rfl, fun x hx => (nomatch hx), List.nodup_nil⟩
/-- a key of the other kind, asked of an empty dict -/
def DGet0 (H : Hp) (a : Addr) (y : V) : Prop := (Rd H a (.dT []) ∧ ∃ k, y = kV k) ∨ (Rd H a (.dK []) ∧ ∃ (k : List Key) (b : Addr), y = .ref b ∧ H b = some (.tup (k.map kV)))
def DGetZ (H : Hp) (a : Addr) (y : V) (o : Option V) : Prop := DGet H a y o ∨ (DGet0 H a y ∧ o = none)
end
section
variable {X : Cx} {pins : List (Addr × Obj)} {σ : L2.St} {H : Hp} {s : Shared} {a : Addr} {y d : V} {u r : Value} {o : Option V} {A : Around} {E : Value → Shared → Prop}
theorem z_in {Q : Value → Shared → Prop} (hu : A.units + 1 < cLine) (I : Inv X pins σ H s) (g : DGetZ H a y o) (ry : RelV y u) (h : ∀ s', Inv X pins σ H s' → Q (.bool o.isSome) s') : wpAny (model X.prog X.w) A (compareOp .In u (.ref a)) Q E s := by
  rcases g with g | ⟨⟨e, k, rfl⟩ | ⟨e, k, b, rfl, eb⟩, rfl⟩
  · exact d_in hu I g ry h
  · obtain ⟨hd, dd⟩ := em_k I.hok e
    exact wpAny_in_of (kV_is ry) hd dd.mapOf (h _ (I.tok _))
  · obtain ⟨hd, dd⟩ := em_t I.hok e
    cases ry
    exact wpAny_in_heap (tupleKind_room_in1 hu) (key_of I.hok eb) hd dd (h _ (I.tok _))
theorem z_notIn {Q : Value → Shared → Prop} (hu : A.units + 1 < cLine) (I : Inv X pins σ H s) (g : DGetZ H a y o) (ry : RelV y u) (h : ∀ s', Inv X pins σ H s' → Q (.bool (!o.isSome)) s') : wpAny (model X.prog X.w) A (compareOp .NotIn u (.ref a)) Q E s := by
  rcases g with g | ⟨⟨e, k, rfl⟩ | ⟨e, k, b, rfl, eb⟩, rfl⟩
  · exact d_notIn hu I g ry h
  · obtain ⟨hd, dd⟩ := em_k I.hok e
    exact wpAny_notIn_of (kV_is ry) hd dd.mapOf (h _ (I.tok _))
  · obtain ⟨hd, dd⟩ := em_t I.hok e
    cases ry
    exact wpAny_notIn_heap (tupleKind_room_in1 hu) (key_of I.hok eb) hd dd (h _ (I.tok _))
theorem z_get2 {Q : Value → Shared → Prop} (hu : A.units + 1 < cLine) (I : Inv X pins σ H s) (g : DGetZ H a y o) (ry : RelV y u) (rd : RelV d r) (h : ∀ w' s', Inv X pins σ H s' → RelV (o.getD d) w' → Q w' s') : wpAny (model X.prog X.w) A (call (.builtin "dict.get") [.ref a, u, r]) Q E s := by
  rcases g with g | ⟨⟨e, k, rfl⟩ | ⟨e, k, b, rfl, eb⟩, rfl⟩
  · exact d_get2 hu I g ry rd h
  · obtain ⟨hd, dd⟩ := em_k I.hok e
    exact call_meetsIn PySem.F.slot_dict_get dd.typeIs PySem.F.entry_dict_get (PySem.F.args_dict_get_3 _ _ _) (meets_dict_get_default (mixKind X.prog X.w) a (kV_is ry) hd r) ⟨_, dd.mapOf, h _ _ (I.tok _) rd⟩
  · obtain ⟨hd, dd⟩ := em_t I.hok e
    cases ry
    exact call_meetsIn PySem.F.slot_dict_get dd.typeIs PySem.F.entry_dict_get (PySem.F.args_dict_get_3 _ _ _) (meetsH_dict_get_default (tupleKind (mixKind X.prog X.w)) a b hd r) ⟨tupleKind_room_in1 hu, k, [], key_of I.hok eb, dd, h _ _ (I.tok _) rd⟩
/-- .. becomes one of the other kind -/
theorem em_retype (I : Inv X pins σ H s) (e : H a = some (.dK [])) : Inv X pins σ (upd H a (.dT [])) s := by
  obtain ⟨hd, o, es, ep, h1, h2, h3, h4, h5, h6⟩ := em_t I.hok (.inl e)
  have := d_write (t' := s.toks) (ob := .dT []) I (by rw [e]; exact True.intro) (Heap.SameBut.refl a s.heap) ⟨o, h1⟩ ⟨Nat.zero_le _, hd, [], .nil, o, es, ep, h1, h2, h3, h4, h6⟩
  exact this
def DPutZ (H : Hp) (a : Addr) (y v : V) (H' : Hp) : Prop := DPut H a y v H' ∨ (H a = some (.dK []) ∧ ∃ (k : List Key) (b : Addr), y = .ref b ∧ H b = some (.tup (k.map kV)) ∧ H' = upd H a (.dT [(k, v)]))
theorem upd2 {H : Hp} {a : Addr} {o o' : HO} : upd (upd H a o) a o' = upd H a o' := by
  funext b
  unfold upd
  split <;> rfl
theorem z_setItem {v : V} {H' : Hp} {Q : Unit → Shared → Prop} (hu : A.units + 1 < cLine) (I : Inv X pins σ H s) (g : DPutZ H a y v H') (ry : RelV y u) (rv : RelV v r) (h : ∀ s', Inv X pins σ H' s' → Q () s') : wpAny (model X.prog X.w) A (setItem (.ref a) u r) Q E s := by
  rcases g with g | ⟨e, k, b, ey, eb, eH⟩
  · exact d_setItem hu I g ry rv h
  · subst ey eH
    have I2 := em_retype I e
    have nb : b ≠ a := fun z => by rw [z, e] at eb; cases eb
    refine d_setItem hu I2 (.inr ⟨[], k, b, upd_same, rfl, by rw [upd_ne nb]; exact eb, by rw [sizeLine_eq]; decide, rfl⟩) ry rv fun s' I3 => ?_
    rw [upd2] at I3
    exact h s' I3
end

/-! ### dicts by values -/
def keyP : Key → PV
  | .inl i => .int i
  | .inr x => .str x
def pkV : PK → PV
  | .k x => keyP x
  | .t ks => .nd .tup (ks.map keyP)
/-- the dict with v at q -/
def dPutK (ks : List PK) (q : PK) : List PK := if q ∈ ks then ks else ks ++ [q]
def dRepl {α : Type} (q : PK) (v : α) : List PK → List α → List α
  | k :: ks, x :: xs => (if k = q then v else x) :: dRepl q v ks xs
  | _, _ => []
def dPutV {α : Type} (ks : List PK) (xs : List α) (q : PK) (v : α) : List α := if q ∈ ks then dRepl q v ks xs else xs ++ [v]
section
variable {T : Tb} {K : PySem.W.Frag} {R : Pl} {F H : Hp} {S : Sto}
theorem dRepl_rel {q : PK} {v : PV} {w : V} (rv : Rel T K R F v w) : ∀ {ks : List PK} {xs : List PV} {us : List V}, RelL T K R F xs us → RelL T K R F (dRepl q v ks xs) (dRepl q w ks us)
  | [], _, _, _ => by unfold dRepl; exact .nil
  | k :: ks, [], us, h => by rw [RelL] at h; subst h; exact .nil
  | k :: ks, x :: xs, us, h => by
    rw [RelL] at h
    obtain ⟨u, r, rfl, h1, h2⟩ := h
    unfold dRepl
    refine .cons ?_ (dRepl_rel rv h2)
    by_cases e : k = q
    · rw [if_pos e, if_pos e]; exact rv
    · rw [if_neg e, if_neg e]; exact h1
theorem dPutV_rel {ks : List PK} {q : PK} {v : PV} {w : V} (rv : Rel T K R F v w) {xs : List PV} {us : List V} (h : RelL T K R F xs us) : RelL T K R F (dPutV ks xs q v) (dPutV ks us q w) := by
  unfold dPutV
  by_cases e : q ∈ ks
  · rw [if_pos e, if_pos e]; exact dRepl_rel rv h
  · rw [if_neg e, if_neg e]; exact h.append (.cons rv .nil)
theorem dRepl_len {α : Type} {q : PK} {v : α} : ∀ {ks : List PK} {xs : List α}, xs.length = ks.length → (dRepl q v ks xs).length = ks.length
  | [], [], _ => rfl
  | [], _ :: _, h => by cases h
  | _ :: _, [], h => by cases h
  | k :: ks, x :: xs, h => by unfold dRepl; rw [List.length_cons, List.length_cons, dRepl_len (by simpa using h)]
theorem dPutV_len {α : Type} {ks : List PK} {xs : List α} {q : PK} {v : α} (h : xs.length = ks.length) : (dPutV ks xs q v).length = (dPutK ks q).length := by
  unfold dPutV dPutK
  by_cases e : q ∈ ks
  · rw [if_pos e, if_pos e]; exact dRepl_len h
  · rw [if_neg e, if_neg e]; simp [h]
/-- one kind of keys after the other -/
theorem dPut_zip {κ : Type} [DecidableEq κ] (f : κ → PK) (inj : ∀ a b, f a = f b → a = b) (q : κ) (w : V) {kk : List κ} {us : List V} (hl : us.length = kk.length) :
    ∃ kk' : List κ, dPutK (kk.map f) (f q) = kk'.map f ∧ putK (kk.zip us) q w = kk'.zip (dPutV (kk.map f) us (f q) w) := by
  have hm : (f q ∈ kk.map f) ↔ q ∈ kk := ⟨fun h => by
    obtain ⟨a, ha, e⟩ := List.mem_map.mp h
    rw [← inj _ _ e]; exact ha, fun h => List.mem_map_of_mem h⟩
  have hany : ∀ {kk : List κ} {us : List V}, us.length = kk.length → (((kk.zip us).any fun kv => decide (kv.1 = q)) = decide (q ∈ kk)) := by
    intro kk
    induction kk with
    | nil => intro us _; simp
    | cons k kk ih =>
      intro us h
      cases us with
      | nil => cases h
      | cons u us =>
        rw [List.zip_cons_cons, List.any_cons, ih (by simpa using h)]
        by_cases e : k = q
        · simp [e]
        · have e' : ¬ q = k := fun z => e z.symm
          simp [e, e']
  unfold putK
  rw [hany hl]
  by_cases h : q ∈ kk
  · refine ⟨kk, by unfold dPutK; rw [if_pos (hm.mpr h)], ?_⟩
    rw [if_pos (by simpa using h)]
    unfold dPutV
    rw [if_pos (hm.mpr h)]
    clear h hm hany
    induction kk generalizing us with
    | nil => rfl
    | cons k kk ih =>
      cases us with
      | nil => cases hl
      | cons u us =>
        rw [List.zip_cons_cons, List.map_cons, List.map_cons, dRepl, List.zip_cons_cons, ih (by simpa using hl)]
        by_cases e : k = q
        · rw [if_pos (show (k, u).1 = q from e), if_pos (by rw [e])]
        · rw [if_neg (show ¬ (k, u).1 = q from e), if_neg (fun z => e (inj _ _ z))]
  · refine ⟨kk ++ [q], by unfold dPutK; rw [if_neg (fun z => h (hm.mp z)), List.map_append]; rfl, ?_⟩
    rw [if_neg (by simpa using h)]
    unfold dPutV
    rw [if_neg (fun z => h (hm.mp z)), List.zip_append hl.symm]
    rfl
/-- a key's value -/
theorem key_rel (r : Rep T K R F S H) {k : PV} {w : V} {q : PK} (rk : Rel T K R F k w) (hk : keyOf k = some q) : (∃ x, q = .k x ∧ w = kV x) ∨ ∃ (x : List Key) (b : Addr), q = .t x ∧ w = .ref b ∧ H b = some (.tup (x.map kV)) := by
  cases k with
  | int i => cases hk; exact .inl ⟨_, rfl, rel_int rk⟩
  | str i => cases hk; exact .inl ⟨_, rfl, rel_str rk⟩
  | nd kd ys =>
    cases kd with
    | tup =>
      rw [keyOf, Option.map_eq_some_iff] at hk
      obtain ⟨q', hq, rfl⟩ := hk
      rw [Rel] at rk
      obtain ⟨b, ws, rfl, hb, hbl⟩ := rk
      have ew := flatKeys_rel hbl hq
      subst ew
      exact .inr ⟨q', b, rfl, rfl, r.ex.at_ hb⟩
    | _ => simp [keyOf] at hk
  | _ => cases hk
theorem dct_isD {a : Addr} {t : Bool} {ks : List PK} {us : List V} (h : Shp T K H a (.dct t ks) us) : IsD H a := by
  cases t with
  | false => obtain ⟨_, kk, _, h⟩ := h; exact .inl ⟨_, h⟩
  | true => obtain ⟨_, kk, _, h⟩ := h; exact .inr ⟨_, h⟩
/-- what a dict holds at a key, the empty one of any kind -/
theorem dict_getZ (r : Rep T K R F S H) {d k : PV} {u w : V} (rd : Rel T K R F d u) (rk : Rel T K R F k w) {t : Bool} {ks : List PK} {xs : List PV} {q : PK} (hv : view d S = some (.dct t ks, xs)) (hk : keyOf k = some q) (hf : q.fits t = true ∨ ks = []) :
    ∃ a o, u = .ref a ∧ IsD H a ∧ DGetZ H a w o ∧ (∀ x, dLook ks xs q = some x → ∃ v, o = some v ∧ Rel T K R F x v) ∧ (dLook ks xs q = none → o = none) := by
  obtain ⟨a, us, eu, hs, hl⟩ := view_rel r rd hv
  have hd := dct_isD hs
  by_cases hq : q.fits t = true
  · obtain ⟨a', o, e, g, h1, h2⟩ := dict_get r rd rk hv hk hq
    rw [eu] at e
    cases e
    exact ⟨a, o, eu, hd, .inl g, h1, h2⟩
  · have hks : ks = [] := hf.resolve_left hq
    subst hks
    refine ⟨a, none, eu, hd, .inr ⟨?_, rfl⟩, fun x hx => ?_, fun _ => rfl⟩
    · rcases key_rel r rk hk with ⟨x, rfl, rfl⟩ | ⟨x, b, rfl, rfl, hb⟩
      · cases t with
        | false => exact absurd rfl hq
        | true =>
          obtain ⟨hl0, kk, e, h⟩ := hs
          have : kk = [] := List.map_eq_nil_iff.mp e.symm
          subst this
          exact .inl ⟨h, x, rfl⟩
      · cases t with
        | true => exact absurd rfl hq
        | false =>
          obtain ⟨hl0, kk, e, h⟩ := hs
          have : kk = [] := List.map_eq_nil_iff.mp e.symm
          subst this
          exact .inr ⟨h, x, b, rfl, hb⟩
    · cases xs <;> cases hx
end

/-! ### k in d -/
def inD (neg : Bool) (x y : PV) (S : Sto) : Out PV := match view y S with
  | some (.dct t ks, xs) => (match keyOf x with
    | some q => if q.fits t = true ∨ ks = [] then .ok (.bl (if neg then (dLook ks xs q).isNone else (dLook ks xs q).isSome)) S else .bad
    | none => .bad)
  | _ => inZ neg x y S
def rInD (neg : Bool) : R2 := fun x y H Q => ∃ a o, y = .ref a ∧ DGetZ H a x o ∧ Q (.bl (if neg then !o.isSome else o.isSome)) H
theorem op_inD0 {X : Cx} (hu : X.A.units + 1 < cLine) : OpR X (compareOp .In) (rInD false) := by
  rintro pins s σ H x y v u Q I rx ry ⟨a, o, rfl, g, q⟩
  cases ry
  exact z_in hu I g rx fun s' I' => ⟨.bl o.isSome, H, I', rfl, q⟩
theorem op_notInD0 {X : Cx} (hu : X.A.units + 1 < cLine) : OpR X (compareOp .NotIn) (rInD true) := by
  rintro pins s σ H x y v u Q I rx ry ⟨a, o, rfl, g, q⟩
  cases ry
  exact z_notIn hu I g rx fun s' I' => ⟨.bl !o.isSome, H, I', rfl, q⟩
theorem op_inD {X : Cx} (hu : X.A.units + 1 < cLine) : OpR X (compareOp .In) (fun x y H Q => rInD false x y H Q ∨ rInZ X.K false x y H Q) := OpR.or (op_inD0 hu) op_inZ
theorem op_notInD {X : Cx} (hu : X.A.units + 1 < cLine) : OpR X (compareOp .NotIn) (fun x y H Q => rInD true x y H Q ∨ rInZ X.K true x y H Q) := OpR.or (op_notInD0 hu) op_notInZ
theorem oz_inD {T : Tb} {K : PySem.W.Frag} (neg : Bool) : OpZ T K (inD neg) (fun x y H Q => rInD neg x y H Q ∨ rInZ K neg x y H Q) := by
  intro E R F H S x y u w Q re rx ry h
  unfold inD at h
  split at h
  · rename_i t ks xs hv
    split at h
    · rename_i q hk
      split at h
      · rename_i hf
        obtain ⟨a, o, rfl, _, g, h1, h2⟩ := dict_getZ re ry rx hv hk hf
        refine .inl ⟨a, o, rfl, g, ?_⟩
        have e : (if neg then (dLook ks xs q).isNone else (dLook ks xs q).isSome) = (if neg then !o.isSome else o.isSome) := by
          cases hd : dLook ks xs q with
          | none => rw [h2 hd]; cases neg <;> rfl
          | some x => obtain ⟨v, e, _⟩ := h1 x hd; rw [e]; cases neg <;> rfl
        rw [e] at h
        exact PostV.here re (by rw [Rel]) h
      · exact h.elim
    · exact h.elim
  · exact .inr (oz_in neg E R F H S x y u w Q re rx ry h)

/-! ### d.get(k, x) -/
def getD2 (d k x : PV) (S : Sto) : Out PV := match view d S with
  | some (.dct t ks, xs) => (match keyOf k with
    | some q => if q.fits t = true ∨ ks = [] then .ok ((dLook ks xs q).getD x) S else .bad
    | none => .bad)
  | _ => .bad
def isDct (x : PV) (S : Sto) : Bool := match view x S with
  | some (.dct _ _, _) => true
  | _ => false
def dGet2 (o k x : DE) : DE := fun l S => (o l S).bind fun d S1 => if isDct d S1 = true then (k l S1).bind fun y S2 => (x l S2).bind fun z S3 => getD2 d y z S3 else .bad
theorem isDct_rel {T : Tb} {K : PySem.W.Frag} {R : Pl} {F H : Hp} {S : Sto} (r : Rep T K R F S H) {x : PV} {u : V} (rx : Rel T K R F x u) (h : isDct x S = true) : ∃ a, u = .ref a ∧ IsD H a := by
  unfold isDct at h
  split at h
  · rename_i t ks xs hv
    obtain ⟨a, us, e, hs, _⟩ := view_rel r rx hv
    exact ⟨a, e, dct_isD hs⟩
  · cases h
section
variable {T : Tb} {X : Cx} {E : XS} {o e f : Expr} {dO de df : DE} {apos cpos : Pos}
theorem pe_getZ {td ty tx : TE} (hu : X.A.units + 1 < cLine) (ho : L2.PE X o td) (he : L2.PE X e ty) (hf : L2.PE X f tx) (m : M2 X o "get" apos e f cpos) :
    L2.PE X (.Call (.Attribute o "get" apos) [e, f] [] cpos) (fun σ H Q => td σ H fun x H1 => ∃ a, x = .ref a ∧ IsD H1 a ∧ ty σ H1 fun y H2 => tx σ H2 fun z H3 => ∃ r, DGetZ H3 a y r ∧ Q (r.getD z) H3) := by
  refine ⟨fun pins s σ H Q I h => ?_⟩
  refine wpAny_Call_method m.base m.few m.line PySem.F.plainAttrs_dict PySem.F.slot_dict_get PySem.F.type_dict_get (thn (ho.run pins s σ H _ I h) fun u s1 ⟨x, H1, I1, rx, a, ex, d, q1⟩ => ?_)
  subst ex
  cases rx
  obtain ⟨t1, t2, _⟩ := isD_at I1 d
  refine ⟨t1, t2, ?_⟩
  rw [m.trees]
  refine Calls.callWith_builtin rfl (Calls.evalArgs_plain (Calls.spliced_cons (thn (he.run pins s1 σ H1 _ I1 q1) fun iv s2 ⟨y, H2, I2, ry, q2⟩ => Calls.spliced_cons (thn (hf.run pins s2 σ H2 _ I2 q2) fun fv s3 ⟨z, H3, I3, rz, ov, g, q3⟩ => Calls.spliced_nil ?_))))
  exact z_get2 hu I3 g ry rz fun w' s4 I4 rw' => ⟨_, H3, I4, rw', q3⟩
theorem je_get2 (hu : X.A.units + 1 < cLine) (ho : JE T X E o dO) (he : JE T X E e de) (hf : JE T X E f df) (hbase : attributeBase o "get" X.env (eval o X.env) = eval o X.env := by rfl)
    (hfew : ((backTo cpos (starEach [e, f] X.env)).all (fun x => !x.1) && (backToKw cpos (keywordEach [] X.env)).all (fun x => x.1.isSome)
      && decide (([e, f] : List Expr).length + ([] : List Keyword).length + (if ([] : List Keyword).isEmpty then 0 else 1) < 30)) = true := by rfl)
    (hline : (apos.endLine == cpos.line) = true := by rfl) (htr : backTo cpos (starEach [e, f] X.env) = [(false, eval e X.env), (false, eval f X.env)] := by rfl) :
    JE T X E (.Call (.Attribute o "get" apos) [e, f] [] cpos) (dGet2 dO de df) := by
  refine pe_imp (pe_getZ hu ho he hf ⟨hbase, hfew, hline, htr⟩) fun σ H Q ⟨R, F, l, S, re, e', h⟩ => ?_
  refine seqV (goV T X.K (E σ) Q) re e' h fun x S1 R1 F1 H1 u p ex r1 rx e1 h1 => ?_
  have h1 : OkV T X.K R1 F1 (if isDct x S1 = true then (de l S1).bind fun y S2 => (df l S2).bind fun z S3 => getD2 x y z S3 else .bad) Q (E σ) := h1
  split at h1
  · rename_i hi
    obtain ⟨a, rfl, hd⟩ := isDct_rel r1 rx hi
    refine ⟨a, rfl, hd, ?_⟩
    refine seqV (goV T X.K (E σ) Q) r1 e1 h1 fun y S2 R2 F2 H2 w p2 ex2 r2 ry e2 h2 => ?_
    refine seqV (goV T X.K (E σ) Q) r2 e2 h2 fun z S3 R3 F3 H3 t p3 ex3 r3 rz e3 h3 => ?_
    have h3 : OkV T X.K R3 F3 (getD2 x y z S3) Q (E σ) := h3
    unfold getD2 at h3
    split at h3
    · rename_i tt ks xs hv
      split at h3
      · rename_i q hk
        split at h3
        · rename_i hf
          obtain ⟨a', o, e, _, g, h4, h5⟩ := dict_getZ r3 ((rx.mono p2 ex2).mono p3 ex3) (ry.mono p3 ex3) hv hk hf
          cases e
          refine ⟨o, g, ?_⟩
          refine PostV.here r3 (v := (dLook ks xs q).getD z) ?_ h3
          cases hd : dLook ks xs q with
          | none => rw [h5 hd]; exact rz
          | some x => obtain ⟨v, e, rv⟩ := h4 x hd; rw [e]; exact rv
        · exact h3.elim
      · exact h3.elim
    · exact h3.elim
  · exact h1.elim
end

/-! ### {}, d[k] = v -/
def dDctM : DE := fun _ S => .ok (.ref S.length) (S ++ [some (.dct false [], [])])
def dDct0 : DE := fun _ S => .ok (.nd (.dct false []) []) S
def putZ (x i v : PV) (S : Sto) : Option Sto := match x with
  | .ref n => (match S[n]? with
    | some (some (.dct t ks, xs)) => (match keyOf i with
      | some q => if q.fits t = true ∧ ks.length < 16777216 then some (S.set n (some (.dct t (dPutK ks q), dPutV ks xs q v))) else
        if ks = [] ∧ t = false ∧ xs = [] then some (S.set n (some (.dct true [q], [v]))) else none
      | none => none)
    | _ => putP x i v S)
  | _ => none
def gzD (o i : DE) : DG := fun v l S => (o l S).st l fun x S1 => (i l S1).st l fun y S2 => match putZ x y v S2 with
  | some S3 => .nx l S3
  | none => .bad
def rSetD : TSet := fun x i v H Q => ∃ a H', x = .ref a ∧ DPutZ H a i v H' ∧ Q H'
theorem set_dct {X : Cx} (hu : X.A.units + 1 < cLine) : PSet X rSetD := by
  rintro pins s σ H x y z v u w Q I rx ry rz ⟨a, H', rfl, g, q⟩
  cases rx
  exact z_setItem hu I g ry rz fun s' I' => ⟨H', I', q⟩
theorem putZ_rel {T : Tb} {K : PySem.W.Frag} {R : Pl} {F H : Hp} {S S3 : Sto} (r : Rep T K R F S H) {x i v : PV} {u w z : V} (rx : Rel T K R F x u) (ri : Rel T K R F i w) (rv : Rel T K R F v z) (h : putZ x i v S = some S3) {Q : Hp → Prop} (hq : ∀ H', Rep T K R F S3 H' → Q H') :
    rSetD u w z H Q ∨ rSetL u w z H Q := by
  cases x with
  | ref n =>
    simp only [putZ] at h
    split at h
    · rename_i t ks xs hS
      left
      split at h
      · rename_i q hk
        rw [Rel] at rx
        obtain ⟨a, rfl, ha⟩ := rx
        obtain ⟨hz, us, hl, hx⟩ := r.live n a _ xs ha hS
        split at h
        · rename_i hf
          cases h
          rcases key_rel r ri hk with ⟨k, rfl, rfl⟩ | ⟨k, b, rfl, rfl, hb⟩
          · cases t with
            | true => exact absurd hf.1 Bool.false_ne_true
            | false =>
              obtain ⟨h0, kk, rfl, h2⟩ := hl
              have h0' : us.length = kk.length := by rw [h0, List.length_map]
              obtain ⟨kk', e1, e2⟩ := dPut_zip PK.k (fun a b e => by injection e) k z h0'
              refine ⟨a, upd H a (.dK (putK (kk.zip us) k z)), rfl, .inl (.inl ⟨_, k, h2, rfl, ?_, rfl⟩), hq _ ?_⟩
              · rw [List.length_zip, h0', Nat.min_self, sizeLine_eq]
                have := hf.2
                rw [List.length_map] at this
                exact this
              · rw [e2, e1]
                refine r.put ha hz (k := .dct false (kk'.map PK.k)) (us := dPutV (kk.map PK.k) us (.k k) z) ⟨?_, kk', rfl, upd_same⟩ (dPutV_rel rv hx)
                rw [← e1]
                exact dPutV_len h0
          · cases t with
            | false => exact absurd hf.1 Bool.false_ne_true
            | true =>
              obtain ⟨h0, kk, rfl, h2⟩ := hl
              have h0' : us.length = kk.length := by rw [h0, List.length_map]
              obtain ⟨kk', e1, e2⟩ := dPut_zip PK.t (fun a b e => by injection e) k z h0'
              refine ⟨a, upd H a (.dT (putK (kk.zip us) k z)), rfl, .inl (.inr ⟨_, k, b, h2, rfl, hb, ?_, rfl⟩), hq _ ?_⟩
              · rw [List.length_zip, h0', Nat.min_self, sizeLine_eq]
                have := hf.2
                rw [List.length_map] at this
                exact this
              · rw [e2, e1]
                refine r.put ha hz (k := .dct true (kk'.map PK.t)) (us := dPutV (kk.map PK.t) us (.t k) z) ⟨?_, kk', rfl, upd_same⟩ (dPutV_rel rv hx)
                rw [← e1]
                exact dPutV_len h0
        · rename_i hf
          split at h
          · rename_i hc
            obtain ⟨rfl, rfl, rfl⟩ := hc
            cases h
            rcases key_rel r ri hk with ⟨k, rfl, rfl⟩ | ⟨k, b, rfl, rfl, hb⟩
            · exact absurd ⟨rfl, by decide⟩ hf
            · obtain ⟨h0, kk, e, h2⟩ := hl
              have : kk = [] := List.map_eq_nil_iff.mp e.symm
              subst this
              refine ⟨a, upd H a (.dT [(k, z)]), rfl, .inr ⟨h2, k, b, rfl, hb, rfl⟩, hq _ ?_⟩
              exact r.put ha hz (k := .dct true [.t k]) (us := [z]) ⟨rfl, [k], rfl, upd_same⟩ (.cons rv .nil)
          · cases h
      · cases h
    · exact .inr (put_rel r rx ri rv h hq)
  | _ => cases h
theorem jgz_d {T : Tb} {X : Cx} {E : XS} {o i : Expr} {dO dI : DE} {pos : Pos} (hu : X.A.units + 1 < cLine) (ho : JE T X E o dO) (hi : JE T X E i dI)
    (ha : ∀ v, assign (.Subscript o i pos) X.env v = (do
      let ov ← holding [v] (eval o X.env)
      let iv ← holding [v, ov] (eval i X.env)
      standAt pos
      holding [v, ov, iv] (setItem ov iv v)
      release [v, ov, iv] []) := by intro _; rfl) : JGz T X (.Subscript o i pos) (gzD dO dI) := by
  have hs : PSet X (fun x i v H Q => rSetD x i v H Q ∨ rSetL x i v H Q) := fun pins s σ H x y z v u w Q I rx ry rz h =>
    h.elim (set_dct hu pins s σ H x y z v u w Q I rx ry rz) (set_list pins s σ H x y z v u w Q I rx ry rz)
  exact pg_imp (pg_sub ho hi hs ha) fun u σ H Q ⟨R, F, l, S, y, r, e, ry, h⟩ => by
    refine ⟨R, F, l, S, r, e, ?_⟩
    have h : OkG T X.K R F ((dO l S).st l fun x S1 => (dI l S1).st l fun z S2 => match putZ x z y S2 with
      | some S3 => .nx l S3
      | none => .bad) Q := h
    cases hd : dO l S with
    | ok x S1 =>
      rw [hd] at h
      intro R1 F1 H1 u1 p ex r1 rx
      have h1 := OkG.mono p ex h
      refine ⟨R1, F1, l, S1, r1, e.mono p ex, ?_⟩
      have h1 : OkG T X.K R1 F1 ((dI l S1).st l fun z S2 => match putZ x z y S2 with
        | some S3 => .nx l S3
        | none => .bad) Q := h1
      cases hd2 : dI l S1 with
      | ok z S2 =>
        rw [hd2] at h1
        intro R2 F2 H2 u2 p2 ex2 r2 rz
        have h2 := OkG.mono p2 ex2 h1
        have h2 : OkG T X.K R2 F2 (match putZ x z y S2 with
          | some S3 => .nx l S3
          | none => .bad) Q := h2
        split at h2
        · rename_i S3 hp
          exact putZ_rel r2 (rx.mono p2 ex2) rz ((ry.mono p ex).mono p2 ex2) hp fun H' r' => PostE.here r' ((e.mono p ex).mono p2 ex2) h2
        · exact h2.elim
      | err x' S2 => rw [hd2] at h1; exact h1.elim
      | bad => rw [hd2] at h1; exact h1.elim
    | err x' S1 => rw [hd] at h; exact h.elim
    | bad => rw [hd] at h; exact h.elim
section
variable {T : Tb} {X : Cx} {E : XS} {pos : Pos}
theorem je_dctM : JE T X E (.Dict [] [] pos) dDctM := by
  refine pe_imp pe_dnewK fun σ H Q ⟨R, F, l, S, r, e, h⟩ p hp => ?_
  exact PostV.newM (k := .dct false []) (xs := []) (us := []) r hp ⟨rfl, [], rfl, upd_same⟩ .nil h
theorem je_dct0 : JE T X E (.Dict [] [] pos) dDct0 := by
  refine pe_imp pe_dnewK fun σ H Q ⟨R, F, l, S, r, e, h⟩ p hp => ?_
  exact PostV.new (k := .dct false []) (xs := []) (us := []) r hp ⟨rfl, [], rfl, .inl upd_same⟩ .nil h
end
end Z
end
end
section
set_option Elab.async false
set_option linter.all false
set_option maxRecDepth 100000
set_option maxHeartbeats 1000000
/-! ZG: dicts walked, made by comprehensions. -/
noncomputable section
namespace Z
open PySem PySem.Spec PyProof.Rows L2

section
variable {T : Tb} {K : PySem.W.Frag} {R : Pl} {F H : Hp} {S : Sto}
/-- the part that never changes, with one thing more (or locked) -/
theorem Rep.more (r : Rep T K R F S H) {q : Addr} {o : HO} (ht : ∀ ps, o ≠ .tbl ps) (hq : H q = some o) (hF : F q = none ∨ ∃ u, F q = some u ∧ (o = u ∨ (isD u = true ∧ ∃ ob, o = .frz ob u))) (hp : F q ≠ none ∨ ∀ k us, ¬ Liv T K H q k us) (hh : ∀ p ∈ R.hid, p.1 ≠ q) : Ex F (upd F q o) ∧ Rep T K R (upd F q o) S H := by
  have ex : Ex F (upd F q o) := fun a u e => by
    by_cases h : a = q
    · subst h
      rw [upd_same]
      rcases hF with hF | ⟨v, hF, hv⟩
      · rw [e] at hF; cases hF
      · rw [e] at hF
        cases hF
        rcases hv with rfl | ⟨hd, ob, rfl⟩
        · exact .inl rfl
        · exact .inr ⟨hd, ob, rfl⟩
    · exact .inl (by rw [upd_ne h]; exact e)
  refine ⟨ex, fun a u e => ?_, r.len, r.nd, r.there, fun p hp' => ?_, r.hidt, fun a ps e => ?_, r.tabs, r.hidnd, fun n a k xs h1 h2 => ?_⟩
  · by_cases h : a = q
    · subst h; rw [upd_same] at e; cases e; exact .inl hq
    · rw [upd_ne h] at e; exact r.ex a u e
  · obtain ⟨h1, h2, h3⟩ := r.hid p hp'
    exact ⟨h1, h2, by rw [upd_ne (hh p hp')]; exact h3⟩
  · by_cases h : a = q
    · rw [h, upd_same] at e; exact ht ps (Option.some.inj e)
    · rw [upd_ne h] at e; exact r.ntb a ps e
  · obtain ⟨h3, us, h4, h5⟩ := r.live n a k xs h1 h2
    have ne : a ≠ q := fun z => hp.elim (fun y => y (by rw [← z]; exact h3)) fun y => y k us (by rw [← z]; exact h4)
    exact ⟨by rw [upd_ne ne]; exact h3, us, h4, h5.mono (Pl.refl R) ex⟩
/-- a tuple that is seen -/
theorem Rep.tup (r : Rep T K R F S H) (hd : ∀ p ∈ R.hid, hidO p.2 = true) {q : Addr} {us : List V} (hq : H q = some (.tup us)) : ∃ F', Ex F F' ∧ F' q = some (.tup us) ∧ Rep T K R F' S H := by
  cases e : F q with
  | some o =>
    have h1 := r.ex q o e
    rw [hq] at h1
    rcases h1 with h1 | ⟨_, ob, h1⟩
    · cases h1
      exact ⟨F, Ex.refl F, e, r⟩
    · cases h1
  | none =>
    obtain ⟨ex, r2⟩ := r.more (fun _ z => by cases z) hq (.inl e) (.inr fun k ws h => by
      cases k with
      | tup => exact h
      | scr => exact h
      | lst => have h : H q = _ := h; rw [hq] at h; cases h
      | dct t ks => cases t <;> (obtain ⟨_, kk, _, h⟩ := h; rw [hq] at h; cases h)
      | ins c fs => obtain ⟨_, dx, h⟩ := h; rw [hq] at h; cases h
      | clo a0 c0 q0 us0 => exact h
      | exn c fs => exact h) fun p hp z => hidO.nt (hd p hp) us (by
        have h1 := (r.hid p hp).1
        rw [z, hq] at h1
        exact (Option.some.inj h1).symm)
    exact ⟨_, ex, upd_same, r2⟩
/-- a dict that stays is locked -/
theorem Rep.lock (r : Rep T K R F S H) {d : Addr} {u : HO} {od : Obj} (hu : isD u = true) (hF : F d = some u) (hH : H d = some u) : Ex F (upd F d (.frz od u)) ∧ Rep T K R (upd F d (.frz od u)) S (upd H d (.frz od u)) := by
  have ex : Ex F (upd F d (.frz od u)) := fun a v e => by
    by_cases h : a = d
    · subst h
      rw [hF] at e
      cases e
      exact .inr ⟨hu, od, upd_same⟩
    · exact .inl (by rw [upd_ne h]; exact e)
  refine ⟨ex, fun a v e => ?_, r.len, r.nd, fun a ha => ?_, fun p hp => ?_, r.hidt, fun a ps e => ?_, tabs_put r.tabs hH (by cases u <;> first | rfl | cases hu), r.hidnd, fun n a k xs h1 h2 => ?_⟩
  · by_cases h : a = d
    · subst h; rw [upd_same] at e ⊢; exact .inl e
    · rw [upd_ne h] at e ⊢; exact r.ex a v e
  · by_cases h : a = d
    · rw [h, upd_same]; exact ⟨fun z => (nomatch z), fun ps z => by cases z⟩
    · rw [upd_ne h]; exact r.there a ha
  · obtain ⟨h1, h2, h3⟩ := r.hid p hp
    have ne : p.1 ≠ d := fun z => by rw [z, hF] at h3; cases h3
    exact ⟨by rw [upd_ne ne]; exact h1, h2, by rw [upd_ne ne]; exact h3⟩
  · by_cases h : a = d
    · rw [h, upd_same] at e; cases e
    · rw [upd_ne h] at e; exact r.ntb a ps e
  · obtain ⟨h3, us, h4, h5⟩ := r.live n a k xs h1 h2
    have ne : a ≠ d := fun z => by rw [z, hF] at h3; cases h3
    exact ⟨by rw [upd_ne ne]; exact h3, us, h4.upd ne, h5.mono (Pl.refl R) ex⟩
end
/-- a dict's value is locked as it comes -/
theorem pe_lk {X : Cx} {e : Expr} {t : TE} (he : L2.PE X e t) : L2.PE X e (fun σ H Q => t σ H fun x H1 => (∃ d u, x = .ref d ∧ H1 d = some u ∧ Mut (some u) ∧ ∀ od, Q x (upd H1 d (.frz od u))) ∨ Q x H1) := by
  refine ⟨fun pins s σ H Q I h => ?_⟩
  refine thn (he.run pins s σ H _ I h) fun u s1 ⟨x, H1, I1, rx, q⟩ => ?_
  rcases q with ⟨d, v, rfl, hd, mu, q⟩ | q
  · obtain ⟨od, I2⟩ := I1.lock hd mu
    exact ⟨_, _, I2, rx, q od⟩
  · exact ⟨x, H1, I1, rx, q⟩
/-! ### for k in d -/
def itD (x : PV) (S : Sto) : Out ItZ := match x with
  | .nd (.dct _ ks) _ => .ok ⟨ks.map pkV, []⟩ S
  | x => itOf x S
def dItD (d : DE) : DI := fun l S => (d l S).bind fun x S1 => itD x S1
section
variable {T : Tb} {K : PySem.W.Frag} {R : Pl} {F H : Hp} {S : Sto}
theorem keyP_rel (k : Key) : Rel T K R F (keyP k) (kV k) := by
  cases k with
  | inl i => unfold keyP; rw [Rel]; rfl
  | inr i => unfold keyP; rw [Rel]; rfl
theorem keyPs_rel : ∀ ks : List Key, RelL T K R F (ks.map keyP) (ks.map kV)
  | [] => .nil
  | k :: ks => .cons (keyP_rel k) (keyPs_rel ks)
end
theorem zip_get {α β : Type} : ∀ {xs : List α} {ys : List β} {i : Nat} {x : α} {y : β}, (xs.zip ys)[i]? = some (x, y) → xs[i]? = some x
  | [], _, _, _, _, h => by simp at h
  | _ :: _, [], _, _, _, h => by simp at h
  | a :: xs, b :: ys, 0, x, y, h => by
    simp at h
    simp [h.1]
  | a :: xs, b :: ys, i + 1, x, y, h => by
    simp only [List.zip_cons_cons, List.getElem?_cons_succ] at h ⊢
    exact zip_get h
theorem walkz_k {T : Tb} {K : PySem.W.Frag} {R1 : Pl} {F1 : Hp} {d : Addr} {od : Obj} {kk : List Key} {us : List V} (hl : us.length = kk.length) (hF : F1 d = some (.frz od (.dK (kk.zip us)))) : WalkZ T K (Itk d od (kk.zip us)) R1 F1 ⟨(kk.map PK.k).map pkV, []⟩ where
  goes := fun i R F H S hi p e r _ => ⟨r.ex.at_ (e.at_ hF), by
    have : i < kk.length := by simpa using hi
    rw [List.length_zip, hl, Nat.min_self]; exact this⟩
  stops := fun R F H S p e r _ => ⟨r.ex.at_ (e.at_ hF), by
    show (kk.zip us).length ≤ ((kk.map PK.k).map pkV).length
    rw [List.length_zip, hl, Nat.min_self]; simp⟩
  yields := fun i R F H H' S x hi p e r _ y => by
    obtain ⟨rfl, k, v, h1, rfl⟩ := y
    have h2 := zip_get h1
    refine ⟨F, keyP k, Ex.refl F, r, ?_, keyP_rel k⟩
    show ((kk.map PK.k).map pkV)[i]? = _
    rw [List.getElem?_map, List.getElem?_map, h2]; rfl
theorem walkz_t {T : Tb} {K : PySem.W.Frag} {R1 : Pl} {F1 : Hp} {d : Addr} {od : Obj} {kk : List (List Key)} {us : List V} (hl : us.length = kk.length) (hF : F1 d = some (.frz od (.dT (kk.zip us)))) : WalkZ T K (Itkt d od (kk.zip us)) R1 F1 ⟨(kk.map PK.t).map pkV, []⟩ where
  goes := fun i R F H S hi p e r _ => ⟨r.ex.at_ (e.at_ hF), by
    have : i < kk.length := by simpa using hi
    rw [List.length_zip, hl, Nat.min_self]; exact this⟩
  stops := fun R F H S p e r _ => ⟨r.ex.at_ (e.at_ hF), by
    show (kk.zip us).length ≤ ((kk.map PK.t).map pkV).length
    rw [List.length_zip, hl, Nat.min_self]; simp⟩
  yields := fun i R F H H' S x hi p e r _ y => by
    obtain ⟨rfl, k, v, q, h1, rfl, hq⟩ := y
    have h2 := zip_get h1
    obtain ⟨F', ex, hF', r'⟩ := r.tup r.hidt hq
    refine ⟨F', .nd .tup (k.map keyP), ex, r', ?_, ?_⟩
    · show ((kk.map PK.t).map pkV)[i]? = _
      rw [List.getElem?_map, List.getElem?_map, h2]; rfl
    · rw [Rel]
      exact ⟨q, _, rfl, hF', keyPs_rel k⟩
theorem ji_dct {T : Tb} {X : Cx} {E : XS} {tg e : Expr} {d : DE} (he : JE T X E e d) : JI T X E tg e (dItD d) := by
  refine pi_imp (pi_or (ji_val he) (pi_keys (pe_lk he))) fun σ H Q ⟨R, F, l, S, r, e, h⟩ => ?_
  have old : (∀ t ks xs S1, d l S ≠ .ok (.nd (.dct t ks) xs) S1) → tI T X.K E (dItV d) σ H Q := fun hn => by
    refine ⟨R, F, l, S, r, e, ?_⟩
    unfold dItD at h
    unfold dItV
    cases hd : d l S with
    | ok x S1 =>
      rw [hd] at h
      have h : OkI T X.K R F (itD x S1) Q (E σ) := h
      unfold itD at h
      split at h
      · rename_i t ks xs
        exact absurd hd (hn _ _ _ _)
      · exact h
    | err x S1 => rw [hd] at h; exact h
    | bad => rw [hd] at h; exact h
  by_cases hc : ∃ t ks xs S1, d l S = .ok (.nd (.dct t ks) xs) S1
  · obtain ⟨t, ks, xs, S1, hd⟩ := hc
    right
    unfold dItD at h
    rw [hd] at h
    refine ⟨R, F, l, S, r, e, ?_⟩
    rw [hd]
    intro R1 F1 H1 u p ex r1 rx
    rw [Rel] at rx
    obtain ⟨a, us, rfl, hs, hl⟩ := rx
    have h : OkI T X.K R F (.ok ⟨ks.map pkV, []⟩ S1) Q (E σ) := h
    cases t with
    | false =>
      obtain ⟨h0, kk, rfl, hk⟩ := hs
      have h0' : us.length = kk.length := by rw [h0, List.length_map]
      have fin : ∀ (od : Obj) (F2 : Hp) (H2 : Hp), Ex F1 F2 → Rep T X.K R1 F2 S1 H2 → F2 a = some (.frz od (.dK (kk.zip us))) → ∃ d o, V.ref a = V.ref d ∧ ((∃ kvs, H2 d = some (.frz o (.dK kvs)) ∧ Q (Itk d o kvs) H2) ∨ ∃ kvs, H2 d = some (.frz o (.dT kvs)) ∧ Q (Itkt d o kvs) H2) :=
        fun od F2 H2 ex2 r2 hF => ⟨a, od, rfl, .inl ⟨_, r2.ex.at_ hF, h R1 F2 H2 _ p (ex.trans ex2) r2 (walkz_k h0' hF)⟩⟩
      rcases hk with hk | ⟨od, hk⟩
      · rcases r1.ex a _ hk with hH | ⟨_, od, hH⟩
        · refine .inl ⟨a, _, rfl, hH, True.intro, fun od => ?_⟩
          obtain ⟨ex2, r2⟩ := r1.lock (od := od) rfl hk hH
          exact fin od _ _ ex2 r2 upd_same
        · obtain ⟨ex2, r2⟩ := r1.more (fun _ z => by cases z) hH (.inr ⟨_, hk, .inr ⟨rfl, od, rfl⟩⟩) (.inl (by rw [hk]; exact fun z => nomatch z)) (fun p hp z => by
            have := (r1.hid p hp).2.2
            rw [z, hk] at this; cases this)
          exact .inr (fin od _ _ ex2 r2 upd_same)
      · exact .inr (fin od F1 H1 (Ex.refl F1) r1 hk)
    | true =>
      obtain ⟨h0, kk, rfl, hk⟩ := hs
      have h0' : us.length = kk.length := by rw [h0, List.length_map]
      have fin : ∀ (od : Obj) (F2 : Hp) (H2 : Hp), Ex F1 F2 → Rep T X.K R1 F2 S1 H2 → F2 a = some (.frz od (.dT (kk.zip us))) → ∃ d o, V.ref a = V.ref d ∧ ((∃ kvs, H2 d = some (.frz o (.dK kvs)) ∧ Q (Itk d o kvs) H2) ∨ ∃ kvs, H2 d = some (.frz o (.dT kvs)) ∧ Q (Itkt d o kvs) H2) :=
        fun od F2 H2 ex2 r2 hF => ⟨a, od, rfl, .inr ⟨_, r2.ex.at_ hF, h R1 F2 H2 _ p (ex.trans ex2) r2 (walkz_t h0' hF)⟩⟩
      rcases hk with hk | ⟨od, hk⟩
      · rcases r1.ex a _ hk with hH | ⟨_, od, hH⟩
        · refine .inl ⟨a, _, rfl, hH, True.intro, fun od => ?_⟩
          obtain ⟨ex2, r2⟩ := r1.lock (od := od) rfl hk hH
          exact fin od _ _ ex2 r2 upd_same
        · obtain ⟨ex2, r2⟩ := r1.more (fun _ z => by cases z) hH (.inr ⟨_, hk, .inr ⟨rfl, od, rfl⟩⟩) (.inl (by rw [hk]; exact fun z => nomatch z)) (fun p hp z => by
            have := (r1.hid p hp).2.2
            rw [z, hk] at this; cases this)
          exact .inr (fin od _ _ ex2 r2 upd_same)
      · exact .inr (fin od F1 H1 (Ex.refl F1) r1 hk)
  · exact .inl (old fun t ks xs S1 z => hc ⟨t, ks, xs, S1, z⟩)

/-! ### {k: v for ..}, keys of any kind -/
section
variable {X : Cx} {pins : List (Addr × Obj)} {σ : L2.St} {H : Hp} {s : Shared} {D : Addr} {y v : V} {u w : Value}
/-- a comprehension's store -/
theorem z_dictSet {E : Value → Shared → Prop} {G : Hp} {Q : Unit → Shared → Prop} (hu : X.A.units < cLine) (I : Inv X pins σ H s) (p : DPutZ H D y v G) (ry : RelV y u) (rv : RelV v w) (h : ∀ s', Inv X pins σ G s' → Q () s') : wpAny (model X.prog X.w) X.A (dictSet D u w) Q E s := by
  have room : (tupleKind (mixKind X.prog X.w)).room X.A := hu
  have tupset : ∀ {H : Hp} {s : Shared} {kvs : List (List Key × V)} {k : List Key} {b : Addr}, Inv X pins σ H s → H D = some (.dT kvs) → H b = some (.tup (k.map kV)) → kvs.length < sizeLine → (∀ s', Inv X pins σ (upd H D (.dT (putK kvs k v))) s' → Q () s') → wpAny (model X.prog X.w) X.A (dictSet D (.ref b) w) Q E s := by
    intro H s kvs k b I e eb hz h
    obtain ⟨zz, hd, xs, rel, dd⟩ := dt_of I.hok e
    have hl : (putK kvs k v).length ≤ sizeLine := by have := length_putK kvs k v; omega
    refine wpAny_dictSet_heap (hsz := by rw [← Paired.length rel]; exact zz) room (key_of I.hok eb) dd fun h' dd' hs => h _ ?_
    obtain ⟨q, es, ep, hq, c2, c3, c4, _, c5⟩ := dd'
    refine d_write I (by rw [e]; exact True.intro) hs ⟨q, hq⟩ ⟨hl, hd, _, (rel.put k eb rv).keeps fun c ys ec => ?_, q, es, ep, hq, c2, c3, c4, c5⟩
    rw [upd_ne (ne_of ec e (fun z => nomatch z))]
    exact ec
  rcases p with (⟨kvs, k, e, rfl, hz, rfl⟩ | ⟨kvs, k, b, e, rfl, eb, hz, rfl⟩) | ⟨e, k, b, rfl, eb, rfl⟩
  · exact d_dictSet I e hz ry rv h
  · cases ry
    exact tupset I e eb hz h
  · cases ry
    have nb : b ≠ D := fun z => by rw [z, e] at eb; cases eb
    refine tupset (em_retype I e) upd_same (by rw [upd_ne nb]; exact eb) (by rw [sizeLine_eq]; decide) fun s' J => ?_
    rw [upd2] at J
    exact h s' J
end

def tDz (wi : TI) (g : TG) (tt : TT) (tk tv : TE) (vs : List Nat) : TE := fun σ H Q => wi σ H fun J G => ∀ D, G D = none → ∃ W : Nat → Nat → Hp → Prop, (∃ m, W 0 m (upd G D (.dK []))) ∧ ∀ i m L, W i m L →
  (J.stop i L ∧ Q (.ref D) L) ∨ (J.go i L ∧ ∃ Nx : Hp → Prop, (∀ L', Nx L' → ∃ m', m' < m ∧ W (i + 1) m' L') ∧ ∀ x L', J.yld i L x L' → g x (wipe σ vs) L' fun τ M => wipe τ vs = wipe σ vs ∧ tt τ M fun b N =>
    if b = true then tk τ N fun y N1 => tv τ N1 fun z N2 => ∃ N3, DPutZ N2 D y z N3 ∧ Nx N3 else Nx N)
section
variable {X : Cx}
theorem dz_core {pins : List (Addr × Obj)} {s : Shared} {σ : L2.St} {H : Hp} {Q : VK} {kx vx tg iter : Expr} {ifs : List Expr} {scope : Scope} {own : List (Str × Nat)} {pos pos2 : Pos} {wi : TI} {g : TG} {tt : TT} {tk tv : TE} {use : Option (Value → Sem Unit)} {Fi : Value → Shared → Prop} (hc : X.calm = true) (hN : X.N.Nodup)
    (hu : ∀ (s : Shared) (H : Hp) (env : Env) (fp : List Addr), (X.blk s H scope env fp).A.units < cLine) (I : Inv X pins σ H s) (hi : PI X tg iter wi) (ok : BlkOk X.N X.env.scope scope own)
    (hg : ∀ (s : Shared) (H : Hp) (C : Addr) (cl : List (Str × Addr)) (fp : List Addr), PG (X.blk s H scope (compEnvC scope cl C X.env) fp) tg g)
    (ht : ∀ (s : Shared) (H : Hp) (C : Addr) (cl : List (Str × Addr)) (fp : List Addr), PTs (X.blk s H scope (compEnvC scope cl C X.env) fp) ifs tt)
    (hk : ∀ (s : Shared) (H : Hp) (C : Addr) (cl : List (Str × Addr)) (fp : List Addr), L2.PE (X.blk s H scope (compEnvC scope cl C X.env) fp) kx tk)
    (hv : ∀ (s : Shared) (H : Hp) (C : Addr) (cl : List (Str × Addr)) (fp : List Addr), L2.PE (X.blk s H scope (compEnvC scope cl C X.env) fp) vx tv) (hs : ∀ x, foldedSetIterable iter X.env x = pure x) (h : tDz wi g tt tk tv (own.map (·.2)) σ H Q)
    (fi : ∀ D C s' m L, Inv X pins σ L s' → Q (.ref D) L → s'.heap.Ns C m → FpOk X pins L C → compPost (model X.prog X.w) X.A X.xe use Fi (.ref D) C (.ok .next) s') :
    wpAny (model X.prog X.w) X.A (comprehension (.DictComp kx vx [⟨tg, iter, ifs, 0⟩] scope pos) scope X.env pos2 newDict false (eval iter X.env) use) Fi X.xe s := by
  -- what the block sees of the cells about it
  have frees : ∀ y ∈ scope.names, y.2 = .free → ∃ c, X.env.cells.lookup y.1 = some c := fun y my e => (ok.free y my e).elim (fun k => I.ok.has _ (.inl k)) fun k => I.ok.has _ (.inr k)
  refine wpAny_comprehension_free (use := use) rfl hs (closure_ok frees) ok.kind (fun y my e => by rw [ok.uniq y my, e]) (thn (hi.run pins s σ H _ I h) fun _ sa hx => thn hx fun _ sb hx2 => ?_)
  obtain ⟨it, fp, tn, J, Hb, rfl, Ib, Tu, stb, fb, wish⟩ := hx2
  refine wpAny_newObj_type (newEnv_comp ?_)
  -- the new dict, at D
  generalize eD : sb.heap.objs.size = D
  have nD : Hb D = none := Ib.hok.fresh (Nat.le_of_eq eD)
  obtain ⟨W, ⟨m0, w0⟩, step⟩ := wish D nD
  generalize esc : ({ sb with heap := sb.heap.push { cls := .type "dict", data := .dict #[] } } : Shared) = sc
  have ehc : sc.heap = sb.heap.push { cls := .type "dict", data := .dict #[] } := by rw [← esc]
  obtain ⟨Hc, eHc⟩ : ∃ Hc : Hp, upd Hb D (.dK []) = Hc := ⟨_, rfl⟩
  have Ic : Inv X pins σ Hc sc := by
    rw [← esc, ← eHc]
    exact Ib.laid (t' := sb.toks) (fun _ _ e => Heap.get?_push_of_some _ e) (Nat.le_of_eq eD) (by rw [← eD]; exact dk_empty sb.heap Ib.big)
  have below : ∀ b ∈ fp, b < sb.heap.objs.size := fun b mb => let ⟨_, e, _⟩ := Tu.obj _ _ stb b mb; Heap.lt_size e
  have fc : ∀ b ∈ fp, FpOk X pins Hc b ∧ b < sc.heap.objs.size := fun b mb =>
    ⟨⟨by rw [← eHc, upd_ne (by rw [← eD]; exact Nat.ne_of_lt (below b mb))]; exact (fb b mb).1, (fb b mb).2⟩, by rw [ehc, Heap.size_push]; exact Nat.lt_succ_of_lt (below b mb)⟩
  have stc : tn 0 sc.heap := Tu.keep _ _ _ stb fun b _ o e => by rw [ehc]; exact Heap.get?_push_of_some _ e
  have Id := block_start Ic ok hN fc
  show codeAny _ _ (.compStart (.DictComp kx vx [⟨tg, iter, ifs, 0⟩] scope pos) 0 (.ref it) (.ref D) (compEnvC scope (cellsFrom (sc.heap.objs.size + 1) scope.names (cloFrom X.env.cells scope.names [])) sc.heap.objs.size X.env)) _ { sc with heap := pushCells (sc.heap.push { cls := .type "dict", data := .dict #[] }) scope.names }
  -- the rules within the block
  have pg := hg sc Hc sc.heap.objs.size (cellsFrom (sc.heap.objs.size + 1) scope.names (cloFrom X.env.cells scope.names [])) fp
  have pt := ht sc Hc sc.heap.objs.size (cellsFrom (sc.heap.objs.size + 1) scope.names (cloFrom X.env.cells scope.names [])) fp
  have pk := hk sc Hc sc.heap.objs.size (cellsFrom (sc.heap.objs.size + 1) scope.names (cloFrom X.env.cells scope.names [])) fp
  have pv := hv sc Hc sc.heap.objs.size (cellsFrom (sc.heap.objs.size + 1) scope.names (cloFrom X.env.cells scope.names [])) fp
  obtain ⟨ce, ece⟩ : ∃ ce, compEnvC scope (cellsFrom (sc.heap.objs.size + 1) scope.names (cloFrom X.env.cells scope.names [])) sc.heap.objs.size X.env = ce := ⟨_, rfl⟩
  rw [ece] at Id pg pt pk pv ⊢
  have ecl : ce.locals = sc.heap.objs.size := by rw [← ece]; rfl
  obtain ⟨sd, esd⟩ : ∃ sd : Shared, ({ sc with heap := pushCells (sc.heap.push { cls := .type "dict", data := .dict #[] }) scope.names } : Shared) = sd := ⟨_, rfl⟩
  rw [esd] at Id ⊢
  have std : tn 0 sd.heap := Tu.keep _ _ _ stc fun b _ o e => by rw [← esd]; exact pushCells_keeps _ _ _ _ (Heap.get?_push_of_some _ e)
  have still : ∀ {σ' : L2.St} {L : Hp} {s' : Shared}, Inv (X.blk sc Hc scope ce fp) [] σ' L s' → (∀ b ∈ fp, L b = none) → ∀ b ∈ fp, FpOk (X.blk sc Hc scope ce fp) [] L b := fun {σ' L s'} J' nn b mb =>
    ⟨nn b mb, (J'.ok.exf b mb).1, J'.ok.exfs b mb, .inl mb, fun x c e => (J'.ok.exf b mb).2 x c e, fun p mp => absurd (show p ∈ ([] : List (Addr × Obj)) ++ [] from mp) (by simp)⟩
  refine codeAny_compStart_dict ?_ (Tu.self X.A 0 _ _ _ std ?_)
  all_goals
    refine compLoop_anyD (fun n s' => ∃ i L, Inv (X.blk sc Hc scope ce fp) [] (wipe σ (own.map (·.2))) L s' ∧ tn i s'.heap ∧ (∀ b ∈ fp, L b = none) ∧ W i n L) ?_ m0 ⟨0, Hc, Id, std, fun b mb => (fc b mb).1.1, by rw [← eHc]; exact w0⟩
    rintro n se ⟨i, L, Ie, ste, ne, we⟩
    rcases step i n L we with ⟨stop, qq⟩ | ⟨go, Nx, less, turn⟩
    · -- no item is left
      refine thnF (Tu.done (X.blk sc Hc scope ce fp) rfl rfl rfl hc i [] se _ L (fun _ _ => False) Ie (still Ie ne) ste stop) fun r sf ⟨er, If⟩ => ?_
      subst er
      have Ig : Inv X pins σ L sf := Ic.call' (ch := fp) If.os If.base If.hok If.bare fun b mb => ⟨(fc b mb).1.2.2.2.1, (fc b mb).1.2.1, (fc b mb).1.2.2.2.2.1, (fc b mb).1.2.2.2.2.2⟩
      have nC : L sc.heap.objs.size = none := by rw [← ecl]; exact If.free
      obtain ⟨m, hn, _⟩ := If.loc
      rw [show (X.blk sc Hc scope ce fp).env.locals = ce.locals from rfl, ecl] at hn
      exact fi D sc.heap.objs.size sf m L Ig qq hn (Ic.fpOk (Nat.le_refl sc.heap.objs.size) nC)
    · -- a turn
      refine thnF (Tu.item (X.blk sc Hc scope ce fp) rfl rfl rfl hc i [] se _ L (fun _ _ => False) Ie (still Ie ne) ste go) fun r sf ⟨u, er, hf⟩ => ?_
      subst er
      refine thnF hf fun _ sg ⟨x, Lg, Ig, rg, yg, stg, ng⟩ => ?_
      have back : ∀ {σ8 : L2.St} {s' : Shared} {L' : Hp}, wipe σ8 (own.map (·.2)) = wipe σ (own.map (·.2)) → Inv (X.blk sc Hc scope ce fp) ([] ++ pinsAt fp sg.heap) σ8 L' s' → Nx L' →
          ∃ m, m < n ∧ ∃ i L, Inv (X.blk sc Hc scope ce fp) [] (wipe σ (own.map (·.2))) L s' ∧ tn i s'.heap ∧ (∀ b ∈ fp, L b = none) ∧ W i m L := fun {σ8 s' L'} ew I' nx => by
        obtain ⟨m', lt, w'⟩ := less L' nx
        have pin : ∀ b ∈ fp, ∀ o, sg.heap.get? b = some o → s'.heap.get? b = some o ∧ L' b = none := fun b mb o e =>
          have z := I'.pin (b, o) (List.mem_append_right _ (List.mem_append_right _ (mem_pinsAt mb e)))
          ⟨z.1, z.2.1⟩
        refine ⟨m', lt, i + 1, L', (I'.unpinned (pins := [])).weak (by rw [← ew, wipe_length]) (fun j v e => ?_), Tu.keep _ _ _ stg fun b mb o e => (pin b mb o e).1, fun b mb => ?_, w'⟩
        · rw [← ew] at e
          exact (wipe_some e).1
        · obtain ⟨o, e, _⟩ := Tu.obj _ _ stg b mb
          exact (pin b mb o e).2
      refine thnF (pg.run _ sg _ Lg x u _ (Ig.pinned (still Ig ng) (Tu.obj _ _ stg)) rg (turn x Lg yg)) fun _ sh ⟨σ8, Lh, Ih, ew, qh⟩ => ?_
      refine thnF (pt.run _ sh σ8 Lh _ Ih qh) fun b si ⟨Li, Ii, qi⟩ => ?_
      cases b with
      | false =>
        simp only [Bool.false_eq_true, if_false] at qi ⊢
        exact back ew Ii qi
      | true =>
        simp only [if_true] at qi ⊢
        refine thnF (pk.run _ si σ8 Li _ Ii qi) fun zk sj ⟨yk, Lj, Ij, rj, qj⟩ => ?_
        refine thnF (pv.run _ sj σ8 Lj _ Ij qj) fun zv sl ⟨yv, Ll, Il, rl, N3, dp, nx⟩ => ?_
        exact z_dictSet (X := X.blk sc Hc scope ce fp) (hu sc Hc ce fp) Il dp rj rl fun so Io => back ew Io nx
theorem pe_dz {kx vx tg iter : Expr} {ifs : List Expr} {scope : Scope} {own : List (Str × Nat)} {pos : Pos} {wi : TI} {g : TG} {tt : TT} {tk tv : TE} (hc : X.calm = true) (hN : X.N.Nodup) (hu : ∀ (s : Shared) (H : Hp) (env : Env) (fp : List Addr), (X.blk s H scope env fp).A.units < cLine) (hi : PI X tg iter wi) (ok : BlkOk X.N X.env.scope scope own)
    (hg : ∀ (s : Shared) (H : Hp) (C : Addr) (cl : List (Str × Addr)) (fp : List Addr), PG (X.blk s H scope (compEnvC scope cl C X.env) fp) tg g)
    (ht : ∀ (s : Shared) (H : Hp) (C : Addr) (cl : List (Str × Addr)) (fp : List Addr), PTs (X.blk s H scope (compEnvC scope cl C X.env) fp) ifs tt)
    (hk : ∀ (s : Shared) (H : Hp) (C : Addr) (cl : List (Str × Addr)) (fp : List Addr), L2.PE (X.blk s H scope (compEnvC scope cl C X.env) fp) kx tk)
    (hv : ∀ (s : Shared) (H : Hp) (C : Addr) (cl : List (Str × Addr)) (fp : List Addr), L2.PE (X.blk s H scope (compEnvC scope cl C X.env) fp) vx tv) (hs : ∀ x, foldedSetIterable iter X.env x = pure x := by intro _; rfl) :
    L2.PE X (.DictComp kx vx [⟨tg, iter, ifs, 0⟩] scope pos) (tDz wi g tt tk tv (own.map (·.2))) := by
  refine ⟨fun pins s σ H Q I h => ?_⟩
  rw [arm_eval_DictComp]
  refine dz_core hc hN hu I hi ok hg ht hk hv hs h fun D C s' m L J q hn f => ⟨m, hn, fun hz sb => ?_⟩
  obtain ⟨f0, f1, f2, f3, f4, f5⟩ := f
  exact ⟨.ref D, L, J.turned (t' := s'.toks) (fun b o nb e => (sb.2 b nb).trans e) f0 f1 f3 f4 f5, rfl, q⟩
/-- name = {..} on one line, the name a local -/
theorem ps_setDz {i : Nat} {y : Str} {py : Pos} {kx vx tg iter : Expr} {ifs : List Expr} {scope : Scope} {own : List (Str × Nat)} {pos spos : Pos} {wi : TI} {g : TG} {tt : TT} {tk tv : TE} (hc : X.calm = true) (hN : X.N.Nodup) (hy : X.N[i]? = some y) (hyl : X.env.scope.names.lookup y = some .local)
    (hsw : swapsWith (.DictComp kx vx [⟨tg, iter, ifs, 0⟩] scope pos) (some (.Name y py)) spos.line X.env = pure true) (hu : ∀ (s : Shared) (H : Hp) (env : Env) (fp : List Addr), (X.blk s H scope env fp).A.units < cLine) (hi : PI X tg iter wi) (ok : BlkOk X.N X.env.scope scope own)
    (hg : ∀ (s : Shared) (H : Hp) (C : Addr) (cl : List (Str × Addr)) (fp : List Addr), PG (X.blk s H scope (compEnvC scope cl C X.env) fp) tg g)
    (ht : ∀ (s : Shared) (H : Hp) (C : Addr) (cl : List (Str × Addr)) (fp : List Addr), PTs (X.blk s H scope (compEnvC scope cl C X.env) fp) ifs tt)
    (hk : ∀ (s : Shared) (H : Hp) (C : Addr) (cl : List (Str × Addr)) (fp : List Addr), L2.PE (X.blk s H scope (compEnvC scope cl C X.env) fp) kx tk)
    (hv : ∀ (s : Shared) (H : Hp) (C : Addr) (cl : List (Str × Addr)) (fp : List Addr), L2.PE (X.blk s H scope (compEnvC scope cl C X.env) fp) vx tv) (hs : ∀ x, foldedSetIterable iter X.env x = pure x := by intro _; rfl) :
    PS X (.Assign [.Name y py] (.DictComp kx vx [⟨tg, iter, ifs, 0⟩] scope pos) spos) (tAsg (tDz wi g tt tk tv (own.map (·.2))) (gName i)) := by
  refine ⟨fun pins s σ H D I h => ?_⟩
  rw [exec_Assign_Name_used _ _ _ _ hsw]
  refine wpAny_bind (wpAny_standAt (wpAny_bind ?_))
  show wpAny _ X.A (do let _ ← comprehension (.DictComp kx vx [⟨tg, iter, ifs, 0⟩] scope pos) scope X.env (firstIterPos [⟨tg, iter, ifs, 0⟩] pos) newDict false (eval iter X.env) (some (assign (.Name y py) X.env))) _ _ s
  have hw : tDz wi g tt tk tv (own.map (·.2)) σ H (fun x L => gName i x σ L D.nx) := h
  refine wpAny_bind (thn (dz_core (Fi := fun _ s' => SP X pins D .next s') hc hN hu I hi ok hg ht hk hv hs hw fun L C s' m G J q hn f => ?_) fun _ s' hq => wpAny_pure (wpAny_pure hq))
  show wpAny _ _ (assign (.Name y py) X.env (.ref L)) _ _ _
  refine wpAny_assign_Name (store_ok2 (v := V.ref L) J hN hy (.inl hyl) rfl (fun s2 J2 ⟨a, sb, ha⟩ => ?_) (.inr hyl))
  obtain ⟨f0, f1, f2, f3, f4, f5⟩ := f
  have ne : C ≠ a := ha.elim (fun z => by rw [z]; exact f1) fun z e => f4 y a z e.symm
  exact ⟨m, hn.sameBut sb ne, fun hz sb3 => ⟨_, G, J2.turned (t' := s2.toks) (fun b o nb e => (sb3.2 b nb).trans e) f0 f1 f3 f4 f5, q⟩⟩
end

/-! ### by values -/
abbrev DSt := Bool × List PK × List PV
def dStep (a : DSt) (q : PK) (v : PV) : Option DSt := if q.fits a.1 = true ∧ a.2.1.length < 16777216 then some (a.1, dPutK a.2.1 q, dPutV a.2.1 a.2.2 q v) else
  if a.2.1 = [] ∧ a.1 = false ∧ a.2.2 = [] then some (true, [q], [v]) else none
def dcZ (t : TgZ) (hs : List (PV × Kd × List PV)) (c : DB) (ek ev : DE) (l : Loc) : List PV → DSt → Sto → Out DSt
  | [], a, S => .ok a S
  | x :: xs, a, S => match asg t x with
    | none => .bad
    | some ps => match c (setZ l ps) S with
      | .ok true S1 => (match ek (setZ l ps) S1 with
        | .ok y S2 => (match ev (setZ l ps) S2 with
          | .ok v S3 => if heldB hs S3 = true then (match (keyOf y).bind fun q => dStep a q v with
            | some a' => dcZ t hs c ek ev l xs a' S3
            | none => .bad) else .bad
          | _ => .bad)
        | _ => .bad)
      | .ok false S1 => if heldB hs S1 = true then dcZ t hs c ek ev l xs a S1 else .bad
      | _ => .bad
def dDc0 (vs : List Nat) (di : DI) (t : TgZ) (c : DB) (ek ev : DE) : Loc → Sto → Out DSt := fun l S => (di l S).bind fun it S1 => if heldB it.held S1 = true then dcZ t it.held c ek ev (wipeZ l vs) it.items (false, [], []) S1 else .bad
def dDc (vs : List Nat) (di : DI) (t : TgZ) (c : DB) (ek ev : DE) : DE := fun l S => (dDc0 vs di t c ek ev l S).bind fun a S1 => .ok (.nd (.dct a.1 a.2.1) a.2.2) S1
def dDcM (vs : List Nat) (di : DI) (t : TgZ) (c : DB) (ek ev : DE) : DE := fun l S => (dDc0 vs di t c ek ev l S).bind fun a S1 => .ok (.ref S1.length) (S1 ++ [some (.dct a.1 a.2.1, a.2.2)])
/-- the dict as it stands -/
def DRep (t : Bool) (ks : List PK) (o : HO) (us : List V) : Prop := us.length = ks.length ∧ ((t = false ∧ ∃ kk : List Key, ks = kk.map PK.k ∧ o = .dK (kk.zip us)) ∨ (t = true ∧ ∃ kk : List (List Key), ks = kk.map PK.t ∧ o = .dT (kk.zip us)))
theorem DRep.nt {t : Bool} {ks : List PK} {o : HO} {us : List V} (d : DRep t ks o us) : hidO o = true := by
  obtain ⟨_, ⟨_, _, _, rfl⟩ | ⟨_, _, _, rfl⟩⟩ := d <;> rfl
section
variable {T : Tb} {K : PySem.W.Frag}
theorem dStep_rel {R : Pl} {F H : Hp} {S : Sto} {D : Addr} {o : HO} {a a' : DSt} {us : List V} {q : PK} {y v : PV} {z w : V} (r : Rep T K R F S H) (hD : H D = some o) (d : DRep a.1 a.2.1 o us) (ry : Rel T K R F y z) (hk : keyOf y = some q) (h : dStep a q v = some a') :
    ∃ o' us', DPutZ H D z w (upd H D o') ∧ DRep a'.1 a'.2.1 o' us' ∧ ∀ (R' : Pl) (F' : Hp), RelL T K R' F' a.2.2 us → Rel T K R' F' v w → RelL T K R' F' a'.2.2 us' := by
  obtain ⟨t, ks, xs⟩ := a
  obtain ⟨hl, d⟩ := d
  unfold dStep at h
  split at h
  · rename_i hf
    cases h
    rcases d with ⟨et, kk, ek, rfl⟩ | ⟨et, kk, ek, rfl⟩
    · have et : t = false := et
      have ek : ks = kk.map PK.k := ek
      have hl : us.length = ks.length := hl
      subst et ek
      have hl' : us.length = kk.length := by rw [hl, List.length_map]
      rcases key_rel r ry hk with ⟨k, rfl, rfl⟩ | ⟨k, b, rfl, rfl, hb⟩
      · obtain ⟨kk', e1, e2⟩ := dPut_zip PK.k (fun a b e => by injection e) k w hl'
        refine ⟨.dK (putK (kk.zip us) k w), dPutV (kk.map PK.k) us (.k k) w, .inl (.inl ⟨_, k, hD, rfl, ?_, rfl⟩), ⟨dPutV_len hl, .inl ⟨rfl, kk', e1, by rw [e2]⟩⟩, fun R' F' hx hv => dPutV_rel hv hx⟩
        rw [List.length_zip, hl', Nat.min_self, sizeLine_eq]
        have := hf.2
        simpa using this
      · exact absurd hf.1 Bool.false_ne_true
    · have et : t = true := et
      have ek : ks = kk.map PK.t := ek
      have hl : us.length = ks.length := hl
      subst et ek
      have hl' : us.length = kk.length := by rw [hl, List.length_map]
      rcases key_rel r ry hk with ⟨k, rfl, rfl⟩ | ⟨k, b, rfl, rfl, hb⟩
      · exact absurd hf.1 Bool.false_ne_true
      · obtain ⟨kk', e1, e2⟩ := dPut_zip PK.t (fun a b e => by injection e) k w hl'
        refine ⟨.dT (putK (kk.zip us) k w), dPutV (kk.map PK.t) us (.t k) w, .inl (.inr ⟨_, k, b, hD, rfl, hb, ?_, rfl⟩), ⟨dPutV_len hl, .inr ⟨rfl, kk', e1, by rw [e2]⟩⟩, fun R' F' hx hv => dPutV_rel hv hx⟩
        rw [List.length_zip, hl', Nat.min_self, sizeLine_eq]
        have := hf.2
        simpa using this
  · rename_i hf
    split at h
    · rename_i hc
      cases h
      obtain ⟨e1, e2, e3⟩ := hc
      have e1 : ks = [] := e1
      have e2 : t = false := e2
      have e3 : xs = [] := e3
      subst e1 e2 e3
      rcases key_rel r ry hk with ⟨k, rfl, rfl⟩ | ⟨k, b, rfl, rfl, hb⟩
      · exact absurd ⟨rfl, by decide⟩ hf
      · rcases d with ⟨_, kk, ek, rfl⟩ | ⟨et, _⟩
        · have : kk = [] := List.map_eq_nil_iff.mp ek.symm
          subst this
          exact ⟨.dT [(k, w)], [w], .inr ⟨hD, k, b, rfl, hb, rfl⟩, ⟨rfl, .inr ⟨rfl, [k], rfl, rfl⟩⟩, fun R' F' _ hv => .cons hv .nil⟩
        · cases et
    · cases h
def FinD (T : Tb) (K : PySem.W.Frag) (as : List Addr) (hid : List (Addr × HO)) (F : Hp) (D : Addr) (Q : VK) (a : DSt) (S : Sto) : Prop :=
  ∀ as' F' H o us, as <+: as' → Ex F F' → Rep T K ⟨as', (D, o) :: hid⟩ F' S H → DRep a.1 a.2.1 o us → RelL T K ⟨as', hid⟩ F' a.2.2 us → Q (.ref D) H
theorem dc_ok {t : TgZ} {c : DB} {ek ev : DE} {vs : List Nat} (hvs : ∀ i ∈ t.slots, i ∈ vs) {σ : L2.St} {H1 : Hp} {Q : VK} {R1 : Pl} {F1 : Hp} {l : Loc} {S1 : Sto} {J : It} {it : ItZ} {D : Addr} (r1 : Rep T K R1 F1 S1 H1) (e1 : RelE T K R1 F1 l σ) (wz : WalkZ T K J R1 F1 it) (hh : heldB it.held S1 = true)
    {a9 : DSt} {S9 : Sto} (hl : dcZ t it.held c ek ev (wipeZ l vs) it.items (false, [], []) S1 = .ok a9 S9) (hq : FinD T K R1.as R1.hid F1 D Q a9 S9) (hD : H1 D = none) :
    ∃ W : Nat → Nat → Hp → Prop, (∃ m, W 0 m (upd H1 D (.dK []))) ∧ ∀ i m L, W i m L →
      (J.stop i L ∧ Q (.ref D) L) ∨ (J.go i L ∧ ∃ Nx : Hp → Prop, (∀ L', Nx L' → ∃ m', m' < m ∧ W (i + 1) m' L') ∧ ∀ x L', J.yld i L x L' → gOf K t x (wipe σ vs) L' fun τ M => wipe τ vs = wipe σ vs ∧ tT T K E00 c τ M fun b N =>
        if b = true then tV T K E00 ek τ N fun y N1 => tV T K E00 ev τ N1 fun z N2 => ∃ N3, DPutZ N2 D y z N3 ∧ Nx N3 else Nx N) := by
  let Inn : Nat → Hp → Prop := fun i L => ∃ as2 F2 S2 a o us, R1.as <+: as2 ∧ Ex F1 F2 ∧ Rep T K ⟨as2, (D, o) :: R1.hid⟩ F2 S2 L ∧ DRep a.1 a.2.1 o us ∧ RelL T K ⟨as2, R1.hid⟩ F2 a.2.2 us ∧ heldB it.held S2 = true ∧ dcZ t it.held c ek ev (wipeZ l vs) (it.items.drop i) a S2 = .ok a9 S9
  refine ⟨fun i m L => m = it.items.length - i ∧ i ≤ it.items.length ∧ Inn i L, ⟨_, rfl, Nat.zero_le _, R1.as, F1, S1, (false, [], []), _, [], List.prefix_refl _, Ex.refl F1, r1.hide hD, ⟨rfl, .inl ⟨rfl, [], rfl, rfl⟩⟩, .nil, hh, hl⟩, ?_⟩
  rintro i m L ⟨rfl, hi, as2, F2, S2, a, o, us, p2, ex2, r2, dr, ra, hh2, hr⟩
  by_cases hlt : i < it.items.length
  · refine .inr ⟨wz.goes i _ F2 L S2 hlt p2 ex2 r2 hh2, fun L3 => i + 1 ≤ it.items.length ∧ Inn (i + 1) L3, fun L3 ⟨q1, q2⟩ => ⟨it.items.length - (i + 1), by omega, rfl, q1, q2⟩, fun v L3 y => ?_⟩
    obtain ⟨F3, x, ex3, r3, hx, rv⟩ := wz.yields i _ F2 L L3 S2 v hlt p2 ex2 r2 hh2 y
    have hdr : it.items.drop i = x :: it.items.drop (i + 1) := by
      rw [List.drop_eq_getElem_cons hlt]
      rw [List.getElem?_eq_getElem hlt] at hx
      cases hx; rfl
    rw [hdr, dcZ] at hr
    cases ha : asg t x with
    | none => rw [ha] at hr; cases hr
    | some ps =>
      rw [ha] at hr
      simp only at hr
      have e3 : RelE T K ⟨as2, (D, o) :: R1.hid⟩ F3 (wipeZ l vs) (wipe σ vs) := (e1.wipe vs).mono0 p2 (ex2.trans ex3)
      refine gOf_ok r3 t x v (wipeZ l vs) (wipe σ vs) ps _ e3 rv ha fun qs hqs e4 => ⟨by rw [wipe_setV (fun q hq' => hvs q.1 (hqs q hq')), wipe_idem], ⟨_, F3, setZ (wipeZ l vs) ps, S2, r3, e4, ?_⟩⟩
      cases hc : c (setZ (wipeZ l vs) ps) S2 with
      | bad => rw [hc] at hr; cases hr
      | err z S3 => rw [hc] at hr; cases hr
      | ok b S4 =>
        rw [hc] at hr
        rintro ⟨as5, hid5⟩ F5 H5 ⟨p5a, p5b⟩ ex5 r5
        have p5b : hid5 = (D, o) :: R1.hid := p5b
        have p5a : as2 <+: as5 := p5a
        subst p5b
        cases b with
        | false =>
          simp only at hr
          split at hr
          · rename_i hh5
            exact ⟨hlt, as5, F5, S4, a, o, us, p2.trans p5a, (ex2.trans ex3).trans ex5, r5, dr, ra.sh p5a (ex3.trans ex5), hh5, hr⟩
          · cases hr
        | true =>
          simp only [if_true] at hr ⊢
          refine ⟨_, F5, setZ (wipeZ l vs) ps, S4, r5, e4.mono0 p5a ex5, ?_⟩
          cases hek : ek (setZ (wipeZ l vs) ps) S4 with
          | bad => rw [hek] at hr; cases hr
          | err z S3 => rw [hek] at hr; cases hr
          | ok yk S6 =>
            rw [hek] at hr
            simp only at hr
            rintro ⟨as7, hid7⟩ F7 H7 u7 ⟨p7a, p7b⟩ ex7 r7 rw7
            have p7b : hid7 = (D, o) :: R1.hid := p7b
            have p7a : as5 <+: as7 := p7a
            subst p7b
            refine ⟨_, F7, setZ (wipeZ l vs) ps, S6, r7, (e4.mono0 p5a ex5).mono0 p7a ex7, ?_⟩
            cases hev : ev (setZ (wipeZ l vs) ps) S6 with
            | bad => rw [hev] at hr; cases hr
            | err z S3 => rw [hev] at hr; cases hr
            | ok yv S8 =>
              rw [hev] at hr
              simp only at hr
              rintro ⟨as8, hid8⟩ F8 H8 u8 ⟨p8a, p8b⟩ ex8 r8 rw8
              have p8b : hid8 = (D, o) :: R1.hid := p8b
              have p8a : as7 <+: as8 := p8a
              subst p8b
              split at hr
              · rename_i hh8
                split at hr
                · rename_i a' ha'
                  rw [Option.bind_eq_some_iff] at ha'
                  obtain ⟨q, hkq, hst⟩ := ha'
                  have d8 := (r8.hid (D, o) List.mem_cons_self).1
                  obtain ⟨o', us', g1, g2, g3⟩ := dStep_rel (w := u8) r8 d8 dr (rw7.mono0 (R' := ⟨as8, (D, o) :: R1.hid⟩) p8a ex8) hkq hst
                  refine ⟨upd H8 D o', g1, hlt, as8, F8, S8, a', o', us', ((p2.trans p5a).trans p7a).trans p8a, (((ex2.trans ex3).trans ex5).trans ex7).trans ex8, r8.rehide g2.nt, g2, ?_, hh8, hr⟩
                  exact g3 _ _ (ra.sh ((p5a.trans p7a).trans p8a) (((ex3.trans ex5).trans ex7).trans ex8)) (rw8.sh (List.prefix_refl _) (Ex.refl F8))
                · cases hr
              · cases hr
  · have e' : i = it.items.length := by omega
    subst e'
    rw [List.drop_length, dcZ] at hr
    cases hr
    exact .inl ⟨wz.stops _ F2 L S9 p2 ex2 r2 hh2, hq as2 F2 L o us p2 ex2 r2 dr ra⟩
end
theorem dcZ_noerr {t : TgZ} {hs : List (PV × Kd × List PV)} {c : DB} {ek ev : DE} {l : Loc} : ∀ (ys : List PV) (a : DSt) (S : Sto) (z : XV) (S' : Sto), dcZ t hs c ek ev l ys a S ≠ .err z S'
  | [], a, S, z, S', q => by cases q
  | y :: ys, a, S, z, S', q => by
    rw [dcZ] at q
    split at q
    · cases q
    · split at q
      · split at q
        · split at q
          · split at q
            · split at q
              · exact dcZ_noerr ys _ _ _ _ q
              · cases q
            · cases q
          · cases q
        · cases q
      · split at q
        · exact dcZ_noerr ys _ _ _ _ q
        · cases q
      · cases q
theorem DRep.shp {T : Tb} {K : PySem.W.Frag} {H : Hp} {D : Addr} {t : Bool} {ks : List PK} {o : HO} {us : List V} (d : DRep t ks o us) (h : H D = some o) : Liv T K H D (.dct t ks) us := by
  obtain ⟨hl, ⟨rfl, kk, e, rfl⟩ | ⟨rfl, kk, e, rfl⟩⟩ := d
  · exact ⟨hl, kk, e, h⟩
  · exact ⟨hl, kk, e, h⟩
theorem Rep.bareG {T : Tb} {K : PySem.W.Frag} {as : List Addr} {hid : List (Addr × HO)} {F H : Hp} {S : Sto} {D : Addr} {o : HO} {k : Kd} {us : List V} {xs : List PV} (r : Rep T K ⟨as, (D, o) :: hid⟩ F S H) (hv : Liv T K H D k us) (hx : RelL T K ⟨as, hid⟩ F xs us) : Rep T K ⟨as ++ [D], hid⟩ F (S ++ [some (k, xs)]) H := by
  obtain ⟨d1, d2, d3⟩ := r.hid (D, o) List.mem_cons_self
  have hnd : D ∉ hid.map Prod.fst := (List.nodup_cons.mp r.hidnd).1
  have d3 : F D = none := d3
  have d2 : D ∉ as := d2
  have hlen : as.length = S.length := r.len
  exact {
    ex := r.ex
    len := by
      show (as ++ [D]).length = _
      rw [List.length_append, List.length_append, hlen]; rfl
    nd := List.nodup_append.mpr ⟨r.nd, List.nodup_cons.mpr ⟨fun z => (nomatch z), List.nodup_nil⟩, fun a ha b hb z => d2 (by rw [← List.mem_singleton.mp hb, ← z]; exact ha)⟩
    there := fun a ha => by
      rcases List.mem_append.mp ha with z | z
      · exact r.there a z
      · rw [List.mem_singleton.mp z]
        exact hv.plain_ne
    hidt := fun q hq => r.hidt q (List.mem_cons_of_mem _ hq)
    ntb := r.ntb
    tabs := r.tabs
    hidnd := (List.nodup_cons.mp r.hidnd).2
    hid := fun q hq =>
      have h := r.hid q (List.mem_cons_of_mem _ hq)
      ⟨h.1, fun z => (List.mem_append.mp z).elim h.2.1 fun z => hnd (List.mem_map.mpr ⟨q, hq, List.mem_singleton.mp z⟩), h.2.2⟩
    live := fun n a k' xs' h1 h2 => by
      have h1 : (as ++ [D])[n]? = some a := h1
      by_cases hlt : n < as.length
      · rw [List.getElem?_append_left hlt] at h1
        rw [List.getElem?_append_left (by rw [← hlen]; exact hlt)] at h2
        have h := r.live n a k' xs' h1 h2
        exact ⟨h.1, h.2.imp fun us' q => ⟨q.1, q.2.sh (List.prefix_append _ _) (Ex.refl F)⟩⟩
      · have hn : n = as.length := by
          have := (List.getElem?_eq_some_iff.mp h1).1
          rw [List.length_append, List.length_singleton] at this
          omega
        subst hn
        rw [List.getElem?_append_right (Nat.le_refl _), Nat.sub_self] at h1
        cases h1
        rw [hlen, List.getElem?_append_right (Nat.le_refl _), Nat.sub_self] at h2
        cases h2
        exact ⟨d3, us, hv, hx.sh (List.prefix_append _ _) (Ex.refl F)⟩ }
section
variable {T : Tb} {X : Cx} {E : XS} {pos : Pos} {kx vx tg iter : Expr} {ifs : List Expr} {scope : Scope} {own : List (Str × Nat)} {di : DI} {t : TgZ} {c : DB} {ek ev : DE}
theorem dc_t {vs : List Nat} (hvs : ∀ i ∈ t.slots, i ∈ vs) {k : DSt → Sto → Out PV} {σ : L2.St} {H : Hp} {Q : VK} (h : tV T X.K E (fun l S => (dDc0 vs di t c ek ev l S).bind k) σ H Q)
    (hk : ∀ (a : DSt) (S : Sto) (R : Pl) (F : Hp) (D : Addr), OkV T X.K R F (k a S) Q (E σ) → FinD T X.K R.as R.hid F D Q a S) : tDz (tI T X.K E di) (gOf X.K t) (tT T X.K E00 c) (tV T X.K E00 ek) (tV T X.K E00 ev) vs σ H Q := by
  obtain ⟨R, F, l, S, r, e, h⟩ := h
  refine ⟨R, F, l, S, r, e, ?_⟩
  have h : OkV T X.K R F (((di l S).bind fun it S1 => if heldB it.held S1 = true then dcZ t it.held c ek ev (wipeZ l vs) it.items (false, [], []) S1 else .bad).bind k) Q (E σ) := h
  cases hd : di l S with
  | bad => rw [hd] at h; exact h.elim
  | err x S1 => rw [hd] at h; exact h
  | ok it S1 =>
    rw [hd] at h
    intro R1 F1 H1 J p ex r1 wz D hD
    have h : OkV T X.K R F ((if heldB it.held S1 = true then dcZ t it.held c ek ev (wipeZ l vs) it.items (false, [], []) S1 else .bad).bind k) Q (E σ) := h
    split at h
    · rename_i hh
      cases hl : dcZ t it.held c ek ev (wipeZ l vs) it.items (false, [], []) S1 with
      | ok a S9 =>
        rw [hl] at h
        exact dc_ok hvs r1 (e.mono p ex) wz hh hl (hk a S9 R1 F1 D (OkV.mono p ex h)) hD
      | err z S9 => exact absurd hl (dcZ_noerr _ _ _ _ _)
      | bad => rw [hl] at h; exact h.elim
    · exact h.elim
theorem find_nd {E : XK} {K : PySem.W.Frag} {a : DSt} {S : Sto} {R : Pl} {F : Hp} {D : Addr} {Q : VK} (h : OkV T K R F (.ok (.nd (.dct a.1 a.2.1) a.2.2) S) Q E) : FinD T K R.as R.hid F D Q a S := by
  intro as' F' H o us p ex r d rx
  obtain ⟨e1, r1⟩ := r.bare
  refine h ⟨as', R.hid⟩ _ H _ ⟨p, rfl⟩ (ex.trans e1) r1 ?_
  rw [Rel]
  exact ⟨D, us, rfl, (d.shp upd_same).shp, rx.sh (List.prefix_refl _) e1⟩
theorem find_rf {E : XK} {K : PySem.W.Frag} {a : DSt} {S : Sto} {R : Pl} {F : Hp} {D : Addr} {Q : VK} (h : OkV T K R F (.ok (.ref S.length) (S ++ [some (.dct a.1 a.2.1, a.2.2)])) Q E) : FinD T K R.as R.hid F D Q a S := by
  intro as' F' H o us p ex r d rx
  refine h ⟨as' ++ [D], R.hid⟩ F' H _ ⟨p.trans (List.prefix_append _ _), rfl⟩ ex (r.bareG (d.shp (r.hid (D, o) List.mem_cons_self).1) rx) ?_
  rw [Rel]
  have hlen : as'.length = S.length := r.len
  exact ⟨D, rfl, by show (as' ++ [D])[S.length]? = _; rw [← hlen, List.getElem?_append_right (Nat.le_refl _)]; simp⟩
/-- the block's derivations -/
structure BlkD (T : Tb) (X : Cx) (scope : Scope) (tg : Expr) (ifs : List Expr) (kx vx : Expr) (t : TgZ) (c : DB) (ek ev : DE) : Prop where
  tg : ∀ (s : Shared) (H : Hp) (C : Addr) (cl : List (Str × Addr)) (fp : List Addr), JG (X.blk s H scope (compEnvC scope cl C X.env) fp) tg t
  ts : ∀ (s : Shared) (H : Hp) (C : Addr) (cl : List (Str × Addr)) (fp : List Addr), JTs T (X.blk s H scope (compEnvC scope cl C X.env) fp) E00 ifs c
  ek : ∀ (s : Shared) (H : Hp) (C : Addr) (cl : List (Str × Addr)) (fp : List Addr), JE T (X.blk s H scope (compEnvC scope cl C X.env) fp) E00 kx ek
  ev : ∀ (s : Shared) (H : Hp) (C : Addr) (cl : List (Str × Addr)) (fp : List Addr), JE T (X.blk s H scope (compEnvC scope cl C X.env) fp) E00 vx ev
theorem Cg.blkU {k : Nat} (g : Cg X E k) : ∀ (s : Shared) (H : Hp) (env : Env) (fp : List Addr), (X.blk s H scope env fp).A.units < cLine := fun s H env fp => (g.blk (s := s) (H := H) (scope := scope) (env := env) (fp := fp)).room.units0
theorem je_dc {k : Nat} (own : List (Str × Nat)) (g : Cg X E k) (hi : JI T X E tg iter di) (hb : BlkD T X scope tg ifs kx vx t c ek ev) (ok : BlkOk X.N X.env.scope scope own) (hvs : ∀ i ∈ t.slots, i ∈ own.map (·.2) := by decide)
    (hs : ∀ x, foldedSetIterable iter X.env x = pure x := by intro _; rfl) : JE T X E (.DictComp kx vx [⟨tg, iter, ifs, 0⟩] scope pos) (dDc (own.map (·.2)) di t c ek ev) :=
  pe_imp (pe_dz g.calm g.nd g.blkU hi ok hb.tg hb.ts hb.ek hb.ev hs) fun σ H Q h => dc_t hvs h fun xs S R F D h => find_nd h
theorem je_dcM {k : Nat} (own : List (Str × Nat)) (g : Cg X E k) (hi : JI T X E tg iter di) (hb : BlkD T X scope tg ifs kx vx t c ek ev) (ok : BlkOk X.N X.env.scope scope own) (hvs : ∀ i ∈ t.slots, i ∈ own.map (·.2) := by decide)
    (hs : ∀ x, foldedSetIterable iter X.env x = pure x := by intro _; rfl) : JE T X E (.DictComp kx vx [⟨tg, iter, ifs, 0⟩] scope pos) (dDcM (own.map (·.2)) di t c ek ev) :=
  pe_imp (pe_dz g.calm g.nd g.blkU hi ok hb.tg hb.ts hb.ek hb.ev hs) fun σ H Q h => dc_t hvs h fun xs S R F D h => find_rf h
theorem js_setDc {k : Nat} (i : Nat) (own : List (Str × Nat)) {y : Str} {py spos : Pos} (g : Cg X E k) (hi : JI T X E tg iter di) (hb : BlkD T X scope tg ifs kx vx t c ek ev) (ok : BlkOk X.N X.env.scope scope own) (hy : X.N[i]? = some y := by rfl) (hyl : X.env.scope.names.lookup y = some .local := by rfl)
    (hsw : swapsWith (.DictComp kx vx [⟨tg, iter, ifs, 0⟩] scope pos) (some (.Name y py)) spos.line X.env = pure true := by rfl) (hvs : ∀ i ∈ t.slots, i ∈ own.map (·.2) := by decide)
    (hs : ∀ x, foldedSetIterable iter X.env x = pure x := by intro _; rfl) : JS T X E (.Assign [.Name y py] (.DictComp kx vx [⟨tg, iter, ifs, 0⟩] scope pos) spos) (dSet i (dDc (own.map (·.2)) di t c ek ev)) :=
  ps_imp (ps_setDz g.calm g.nd hy hyl hsw g.blkU hi ok hb.tg hb.ts hb.ek hb.ev hs) fun D σ H h => dc_t hvs (asg_st h) fun xs S R F D h => find_nd h
theorem js_setDcM {k : Nat} (i : Nat) (own : List (Str × Nat)) {y : Str} {py spos : Pos} (g : Cg X E k) (hi : JI T X E tg iter di) (hb : BlkD T X scope tg ifs kx vx t c ek ev) (ok : BlkOk X.N X.env.scope scope own) (hy : X.N[i]? = some y := by rfl) (hyl : X.env.scope.names.lookup y = some .local := by rfl)
    (hsw : swapsWith (.DictComp kx vx [⟨tg, iter, ifs, 0⟩] scope pos) (some (.Name y py)) spos.line X.env = pure true := by rfl) (hvs : ∀ i ∈ t.slots, i ∈ own.map (·.2) := by decide)
    (hs : ∀ x, foldedSetIterable iter X.env x = pure x := by intro _; rfl) : JS T X E (.Assign [.Name y py] (.DictComp kx vx [⟨tg, iter, ifs, 0⟩] scope pos) spos) (dSet i (dDcM (own.map (·.2)) di t c ek ev)) :=
  ps_imp (ps_setDz g.calm g.nd hy hyl hsw g.blkU hi ok hb.tg hb.ts hb.ek hb.ev hs) fun D σ H h => dc_t hvs (asg_st h) fun xs S R F D h => find_rf h
end
end Z
end
end
section
set_option Elab.async false
set_option linter.all false
set_option maxRecDepth 100000
set_option maxHeartbeats 2000000
/-! ZH: enumerate of what is walked, dicts among arguments, dicts compared. -/
noncomputable section
namespace Z
open PySem PySem.Spec PyProof.Rows L2

/-! ### enumerate(x), x a list, a tuple, a text -/
theorem meets_enu1 {v : Value} {o : Obj} {H : Heap → Prop} (B : Begins v o H) :
    Meets (Builtin.«enumerate.__new__» ⟨[.type "enumerate", v], []⟩) (fun _ R s => H s.heap ∧
      R (.ok (.ret (.ref (s.heap.push o).objs.size))) { s with heap := (s.heap.push o).push { cls := .type "enumerate", data := .fields #[.none, .bool false, .ref s.heap.objs.size, rawInt 0, .none, .none] } }) :=
  .of_wp fun prog w A R s h => by
    obtain ⟨hp, gs, dr, tk, os⟩ := s
    obtain ⟨hH, hR⟩ := h
    have hsub := sub_enumerate
    have start : ∀ {A' : Around} {E : Value → Shared → Prop} {Q : Value → Shared → Prop}, Q (.ref hp.objs.size) ⟨hp.push o, gs, dr, tk, os⟩ → wpAny (model prog w) A' (pyIter v) Q E ⟨hp, gs, dr, tk, os⟩ := fun q => B.iter prog w _ _ ⟨hp, gs, dr, tk, os⟩ _ hH q
    wp_walk using start
    refine wpAny_stack_any fun stk => wpAny_pure ?_
    split
    · rename_i c _ _ _ _ _
      cases (c == Value.type "enumerate") <;> (wp_walk using start; exact ⟨_, rfl, hR⟩)
    · wp_walk using start
      exact ⟨_, rfl, hR⟩
theorem enu_begins {prog : Program} {w : World} {A : Around} {E : Value → Shared → Prop} {s : Shared} {v : Value} {o : Obj} {H : Heap → Prop} {Q : Value → Shared → Prop} (B : Begins v o H) (h1 : H s.heap)
    (h : ∀ h', IsEnum h' (s.heap.objs.size + 1) s.heap.objs.size 0 .none → h'.get? s.heap.objs.size = some o → (∀ b u, s.heap.get? b = some u → h'.get? b = some u) → Q (.ref (s.heap.objs.size + 1)) { s with heap := h' }) : wpAny (model prog w) A (call (.type "enumerate") [v]) Q E s := by
  refine callType_new F.called_enumerate (by decide) (F.typeCall_enumerate_1 _) (F.newCall_enumerate_1 _) (fun obj => F.args_object_init_2 obj _) F.entry_enumerate_new (meets_enu1 B) ⟨h1, ?_⟩
  have hz : (s.heap.push o).objs.size = s.heap.objs.size + 1 := Heap.size_push ..
  show _ ∧ _
  rw [hz]
  have he : IsEnum ((s.heap.push o).push { cls := .type "enumerate", data := .fields #[.none, .bool false, .ref s.heap.objs.size, rawInt 0, .none, .none] }) (s.heap.objs.size + 1) s.heap.objs.size 0 .none := by
    have q := Heap.get?_push_size (s.heap.push o) (o := { cls := .type "enumerate", data := .fields #[.none, .bool false, .ref s.heap.objs.size, rawInt 0, .none, .none] }) rfl
    rw [hz] at q
    exact q
  exact ⟨⟨_, he, rfl⟩, h _ he (Heap.get?_push_of_some _ (Heap.get?_push_size _ B.free)) fun b u x => Heap.get?_push_of_some _ (Heap.get?_push_of_some _ x)⟩
def IteG (K : PySem.W.Frag) (a : Sc) : It :=
  ⟨fun i H => ∃ xs : List V, ScAt K H a xs ∧ i < xs.length,
    fun i H v H' => ∃ T x, v = .ref T ∧ H T = none ∧ H' = upd H T (.tup [.int (i : Nat), x]) ∧ ∀ xs, ScAt K H a xs → xs[i]? = some x,
    fun i H => ∃ xs : List V, ScAt K H a xs ∧ i = xs.length⟩
abbrev EnuTn (n : Nat) (a : Sc) (i : Nat) (h : Heap) : Prop := (∃ old, IsEnum h (n + 1) n (0 + (i : Int)) old) ∧ ScIt h n a i
theorem turn_enuG {P : Program} {w : World} {K : PySem.W.Frag} {elts : List Expr} {kk : Nat} {tpos : Pos} {n : Nat} {a : Sc} (b1 : ScBelow n a) : Turn P w K (.Tuple elts kk tpos) (IteG K a) [n + 1, n] (n + 1) (EnuTn n a) where
  mem := by simp
  obj := fun i h st c hc => by
    obtain ⟨⟨old, he⟩, h1⟩ := st
    have e' : c = n + 1 ∨ c = n := by simpa using hc
    rcases e' with q | q <;> subst q
    · exact ⟨_, he, fun v q => nomatch q⟩
    · exact h1.obj
  keep := fun i h h' st k => by
    obtain ⟨⟨old, he⟩, h1⟩ := st
    exact ⟨⟨old, k _ (by simp) _ he⟩, h1.keep fun o q => k n (by simp) o q⟩
  item := by
    intro X hP hw hK hc i pins s σ H E I hf st hg
    subst hP hw hK
    obtain ⟨⟨old, he⟩, h1⟩ := st
    obtain ⟨xs, q1, l1⟩ := hg
    have hh : X.A.in1.handled = none := I.ok.hd hc
    obtain ⟨fp1, P1, St1, D1⟩ := sc_draws hh I q1 (b1.ne (Nat.le_refl n)) ⟨i, h1⟩
    have hef : n + 1 ∉ fp1 := fun z => by
      rcases D1.fp _ z with q | ⟨a', q | q, z'⟩
      · exact absurd q (Nat.succ_ne_self n)
      · subst q; have hb : a' < n := b1; rw [← z'] at hb; exact absurd hb (Nat.not_lt.mpr (Nat.le_succ n))
      · subst q; have hb : a' < n := b1; rw [← z'] at hb; exact absurd hb (Nat.not_lt.mpr (Nat.le_succ n))
    have G := GoesN.enumFrom (elts := elts) (x1 := kk) (pos := tpos) 0 D1.dr (n + 1) (Nat.succ_ne_self n) hef D1.mem
    refine wpAny_mono (G.goes i s (fun v s2 => ∃ x H', Inv X pins σ H' s2 ∧ RelV x v ∧ (IteG X.K a).yld i H x H' ∧ EnuTn n a (i + 1) s2.heap ∧ ∀ c ∈ [n + 1, n], H' c = none) E l1 ⟨⟨old, he⟩, D1.st i h1⟩ fun v h' tk Y st' hk htk => ?_) (fun r s1 hq => hq) fun e s1 z => z
    obtain ⟨T, t, u, rfl, hT, p1, ht⟩ := Y
    obtain ⟨x, hx, rx⟩ := D1.val i u p1
    obtain ⟨o, ho, hoc, m, hod⟩ := ht
    have ri : RelV (.int ((i : Nat) : Int)) (Value.int (0 + (i : Int)) t) := ⟨t, by rw [Int.zero_add]⟩
    have new : ObjOk X.prog X.w (upd H T (.tup [.int (i : Nat), x])) h' T (.tup [.int (i : Nat), x]) := ⟨by show 2 ≤ sizeLine; rw [sizeLine_eq]; decide, [.int (0 + (i : Int)) t, u], .cons ri (.cons rx .nil), ⟨o, ho, hoc, m, hod⟩⟩
    have I1 : Inv X pins σ (upd H T (.tup [.int (i : Nat), x])) { s with heap := h', toks := tk } :=
      I.turnedNew (ch := [n + 1, n]) (fun c o hb q => hk c o hb q) (fun c hcm => hf c hcm) hT new
    refine ⟨.ref T, _, I1, rfl, ⟨T, x, rfl, I.hok.fresh hT, rfl, fun l hl => by rw [scAt_inj I hl q1]; exact hx⟩, ⟨st'.1, D1.un _ _ st'.2⟩, fun c hcm => ?_⟩
    have hlt : c < s.heap.objs.size := by
      have e' : c = n + 1 ∨ c = n := by simpa using hcm
      rcases e' with q | q <;> subst q
      · exact Heap.lt_size he
      · obtain ⟨_, e1, _⟩ := h1.obj; exact Heap.lt_size e1
    rw [upd_ne (Nat.ne_of_lt (Nat.lt_of_lt_of_le hlt hT))]
    exact (hf c hcm).1
  done := by
    intro X hP hw hK hc i pins s σ H E I hf st hg
    subst hP hw hK
    obtain ⟨⟨old, he⟩, h1⟩ := st
    obtain ⟨xs, q1, rfl⟩ := hg
    have hh : X.A.in1.handled = none := I.ok.hd hc
    obtain ⟨fp1, P1, St1, D1⟩ := sc_draws hh I q1 (b1.ne (Nat.le_refl n)) ⟨_, h1⟩
    have hef : n + 1 ∉ fp1 := fun z => by
      rcases D1.fp _ z with q | ⟨a', q | q, z'⟩
      · exact absurd q (Nat.succ_ne_self n)
      · subst q; have hb : a' < n := b1; rw [← z'] at hb; exact absurd hb (Nat.not_lt.mpr (Nat.le_succ n))
      · subst q; have hb : a' < n := b1; rw [← z'] at hb; exact absurd hb (Nat.not_lt.mpr (Nat.le_succ n))
    have G := GoesN.enumFrom (elts := elts) (x1 := kk) (pos := tpos) 0 D1.dr (n + 1) (Nat.succ_ne_self n) hef D1.mem
    exact wpAny_mono (G.stops s (fun s1 => Inv X pins σ H s1) E ⟨⟨old, he⟩, D1.st _ h1⟩ fun h' tk hk htk =>
      I.turnedL (ch := [n + 1, n]) (fun c o hb q => hk c o hb q) fun c hcm => hf c hcm) (fun r s1 hq => hq) fun e s1 z => z
  self := fun A i s Q E st h => let ⟨⟨_, he⟩, _⟩ := st; wpAny_pyIter_enum he h
def iEnuG (K : PySem.W.Frag) (ta : TA) : TI := fun σ H R => ta σ H fun vs H1 => ∃ a u xs, vs = [u] ∧ ScV a u ∧ ScAt K H1 a xs ∧ R (IteG K a) H1
theorem pi_enuG {X : Cx} {e : Expr} {ta : TA} {p pos tpos : Pos} {elts : List Expr} {kk : Nat} (hm : X.mg "enumerate" = none) (ha : PA X [e] ta) (hg : Gl X "enumerate" := by rfl) (hs : starEach [e] X.env = [(false, eval e X.env)] := by rfl) :
    PI X (.Tuple elts kk tpos) (.Call (.Name "enumerate" p) [e] [] pos) (iEnuG X.K ta) := by
  refine ⟨fun pins s σ H R I h => ?_⟩
  refine Call_ (ld_blt I hg hm boot_enumerate (PyProof.Rows.callWith_type1 (thn (ha.run pos pins s σ H _ I h) fun us s1 ⟨vs, H1, I1, r1, a, u, xs, ex, va, qa, q⟩ => ?_) hs rfl))
  subst ex
  cases r1 with
  | cons r rr =>
    cases rr
    obtain ⟨o1, G1, B1, g1, n1, w1⟩ := sc_begins I1 va r qa
    refine enu_begins B1 g1 fun h' he e1 hk => wpAny_pyIter_enum he ?_
    refine ⟨s1.heap.objs.size + 1, _, _, _, H1, rfl, I1.kept (t' := s1.toks) hk, turn_enuG w1, ⟨⟨.none, he⟩, n1 _ _ e1⟩, fun c hcm => ?_, q⟩
    have hle : s1.heap.objs.size ≤ c := by
      have e' : c = s1.heap.objs.size + 1 ∨ c = s1.heap.objs.size := by simpa using hcm
      rcases e' with z | z <;> rw [z]
      · exact Nat.le_add_right _ _
      · exact Nat.le_refl _
    exact I1.fpOk hle (I1.hok.fresh hle)
/-- the pairs of places and items -/
def enuX (xs : List PV) (S : Sto) : Out ItZ := match xs with
  | [x] => (match itOf x S with
    | .ok it S1 => .ok ⟨encZ it.items 0, it.held⟩ S1
    | _ => .bad)
  | _ => .bad
theorem itOf_held {x : PV} {S S' : Sto} {it : ItZ} (h : itOf x S = .ok it S') : heldB it.held S = true := by
  rcases itOf_ok h with ⟨z, rfl, rfl⟩ | ⟨k, xs, hk, hv, rfl⟩
  · exact heldB_nil S
  · refine heldB_of fun p hp => ?_
    cases x with
    | ref n => rw [List.mem_singleton.mp hp]; exact hv
    | _ => cases hp
theorem itOf_same {x : PV} {S S' : Sto} {it : ItZ} (h : itOf x S = .ok it S') : S' = S := by
  cases x <;> simp only [itOf] at h <;> first | (cases h; rfl) | (split at h <;> first | (cases h; rfl) | cases h)
theorem ji_enuG {T : Tb} {X : Cx} {E : XS} {e : Expr} {elts : List Expr} {kk : Nat} {tpos p pos : Pos} {ar : DA} (hm : X.mg "enumerate" = none) (ha : JA T X E [e] ar) (hg : Gl X "enumerate" := by rfl) (hs : starEach [e] X.env = [(false, eval e X.env)] := by rfl) :
    JI T X E (.Tuple elts kk tpos) (.Call (.Name "enumerate" p) [e] [] pos) (dItA enuX ar) := by
  refine pi_imp (pi_enuG hm ha hg hs) fun σ H Q h => seqI h fun xs S1 R1 F1 H1 us r1 rx h1 => ?_
  unfold enuX at h1
  split at h1
  · rename_i x
    obtain ⟨u, rfl, ru⟩ := rel1 rx
    split at h1
    · rename_i it S2 hi
      have hS2 := itOf_same hi
      subst hS2
      obtain ⟨sc, z⟩ := scz_of r1 ru hi
      obtain ⟨us, q, l⟩ := z.rd R1 F1 H1 S2 (List.prefix_refl _) (Ex.refl F1) r1 (itOf_held hi)
      refine ⟨sc, u, us, rfl, z.val, q, h1 R1 F1 H1 _ (Pl.refl R1) (Ex.refl F1) r1 ⟨fun i R F H S hi p e r hh => ?_, fun R F H S p e r hh => ?_, fun i R F H H' S v hi p e r hh y => ?_⟩⟩
      · obtain ⟨xs, c, m⟩ := z.rd R F H S p e r hh
        have hi : i < (encZ it.items 0).length := hi
        rw [encZ_len, ← m.length] at hi
        exact ⟨xs, c, hi⟩
      · obtain ⟨xs, c, m⟩ := z.rd R F H S p e r hh
        exact ⟨xs, c, by show (encZ it.items 0).length = _; rw [encZ_len, ← m.length]⟩
      · obtain ⟨xs, c, m⟩ := z.rd R F H S p e r hh
        have hi : i < (encZ it.items 0).length := hi
        rw [encZ_len] at hi
        obtain ⟨T', x', ev, hn, eH, e1⟩ := y
        have e1 := e1 xs c
        obtain ⟨w, g1, g2⟩ := m.get (List.getElem?_eq_getElem hi)
        rw [g1] at e1
        cases e1
        obtain ⟨F', e', r', rv⟩ := pair_yield (x := .int (i : Nat)) r ev hn eH (by rw [Rel]) g2
        refine ⟨F', _, e', r', ?_, rv⟩
        show (encZ it.items 0)[i]? = _
        rw [encZ_get, List.getElem?_eq_getElem hi, Nat.zero_add]
        rfl
    · exact h1.elim
  · exact h1.elim

/-! ### *d, list(d): a dict's keys -/
section
variable {X : Cx} {pins : List (Addr × Obj)} {σ : L2.St} {H : Hp} {s : Shared} {a : Addr}
theorem items_k {kvs : List (Key × V)} {vs : List (Key × Value)} {acc : Array Value} (rk : KV kvs vs) (it : ItemsOf (fun i v => ∃ k x, vs[i]? = some (k, x) ∧ (mixKind X.prog X.w).is k v = true) acc vs.length) : Vals (kvs.map fun kv => kV kv.1) acc.toList := by
  have hl : kvs.length = vs.length := Paired.length rk
  have el : acc.toList.length = acc.size := Array.length_toList
  refine vals_of_at (by rw [List.length_map, el, it.1, hl]) fun j x w h1 h2 => ?_
  obtain ⟨k, y, hky, hi⟩ := it.2 j w (by rw [← Array.getElem?_toList]; exact h2)
  have e1 : (kvs.map (·.1))[j]? = some k := by rw [KV.keys rk, List.getElem?_map, hky] <;> rfl
  have e3 : (kvs.map fun kv => kV kv.1) = (kvs.map (·.1)).map kV := by rw [List.map_map] <;> rfl
  rw [e3, List.getElem?_map, e1] at h1
  cases h1
  exact keyIs_rel hi
theorem star_dk {kvs : List (Key × V)} {E : Value → Shared → Prop} {Q : List Value → Shared → Prop} (hc : X.calm = true) (I : Inv X pins σ H s) (h : Rd H a (.dK kvs)) (hQ : ∀ us s', Inv X pins σ H s' → Vals (kvs.map fun kv => kV kv.1) us → Q us s') : PySem.W.StarOf (model X.prog X.w) X.A E (.ref a) Q s := by
  obtain ⟨z, lo, vs, rk, hd⟩ := dk_rd I.hok h
  obtain ⟨ep, hat⟩ := hd.dictAt
  have hl : kvs.length = vs.length := Paired.length rk
  have cl : wpAny (model X.prog X.w) X.A (collect (.ref a)) Q E s :=
    PySem.W.kdu_collect (PySem.W.kdl_dict (knd := mixKind X.prog X.w) (kvs := vs) (ep := ep) lo) (I.ok.hd hc) hat (by rw [← hl]; exact z) fun h' tk acc kp it => hQ _ _ (I.kept (t' := tk) kp) (items_k rk it)
  unfold PySem.W.StarOf notIterableAtAll
  exact wpAny_bind (wpAny_specialOf hd.typeIs PySem.F.slot_dict_iter.lookup (wpAny_pure ⟨rfl, cl⟩))
theorem star_dt {kvs : List (List Key × V)} {E : Value → Shared → Prop} {Q : List Value → Shared → Prop} (hc : X.calm = true) (I : Inv X pins σ H s) (h : Rd H a (.dT kvs)) (hQ : ∀ bs us s', Inv X pins σ H s' → IsKeys H kvs bs → Vals (bs.map V.ref) us → Q us s') : PySem.W.StarOf (model X.prog X.w) X.A E (.ref a) Q s := by
  obtain ⟨z, lo, ks, pr, o, es, ep, ho, hx, hdt, he, hn⟩ := (show ObjOk X.prog X.w H s.heap a (.dT kvs) from h.ok I.hok)
  have l1 : es.size = ks.length := size_of_entries he
  have l2 : kvs.length = ks.length := Paired.length pr
  have cl : wpAny (model X.prog X.w) X.A (collect (.ref a)) Q E s := by
    refine PySem.W.kdu_collect (kdl_raw lo hx hdt) (I.ok.hd hc) ho (by omega) fun h' tk acc kp it => hQ (ks.map fun x => x.2.1) _ _ (I.kept (t' := tk) kp) (isKeys_of pr) ?_
    have el : acc.toList.length = acc.size := Array.length_toList
    have ea : acc.toList = (ks.map fun x => x.2.1).map Value.ref := by
      apply List.ext_getElem?
      intro j
      rw [List.getElem?_map, List.getElem?_map]
      have qe := entry_at he j
      cases hb : ks[j]? with
      | none =>
        have : ks.length ≤ j := List.getElem?_eq_none_iff.mp hb
        rw [List.getElem?_eq_none (by rw [el, it.1]; omega)]
        rfl
      | some b =>
        rw [hb] at qe
        have hj : j < acc.toList.length := by
          have := (List.getElem?_eq_some_iff.mp hb).1
          rw [el, it.1]; omega
        obtain ⟨en, hen, hv⟩ := it.2 j acc.toList[j] (by rw [← Array.getElem?_toList, List.getElem?_eq_getElem hj])
        rw [hen] at qe
        cases qe
        rw [List.getElem?_eq_getElem hj, hv]
        rfl
    rw [ea]
    exact vals_refs _
  unfold PySem.W.StarOf notIterableAtAll
  exact wpAny_bind (wpAny_specialOf ⟨o, ho, hx.1⟩ PySem.F.slot_dict_iter.lookup (wpAny_pure ⟨rfl, cl⟩))
end
/-- the keys as values -/
theorem Rep.keys {T : Tb} {K : PySem.W.Frag} {R : Pl} {H : Hp} {S : Sto} : ∀ {kk : List (List Key)} {us : List V} {bs : List Addr} {F : Hp}, Rep T K R F S H → us.length = kk.length → IsKeys H (kk.zip us) bs → ∃ F', Ex F F' ∧ Rep T K R F' S H ∧ RelL T K R F' (kk.map fun k => .nd .tup (k.map keyP)) (bs.map V.ref)
  | [], us, bs, F, r, hl, h => by
    cases us with
    | nil => cases h; exact ⟨F, Ex.refl F, r, .nil⟩
    | cons u us => cases hl
  | k :: kk, [], bs, F, r, hl, h => by cases hl
  | k :: kk, u :: us, bs, F, r, hl, h => by
    cases h with
    | cons h1 h2 =>
      obtain ⟨F1, e1, q1, r1⟩ := r.tup r.hidt h1
      obtain ⟨F2, e2, r2, l2⟩ := Rep.keys (F := F1) r1 (by simpa using hl) h2
      refine ⟨F2, e1.trans e2, r2, .cons ?_ l2⟩
      rw [Rel]
      exact ⟨_, _, rfl, e2.at_ q1, keyPs_rel k⟩
/-- what is behind a star -/
def starOf (x : PV) (S : Sto) : Option (List PV) := match view x S with
  | some (.dct _ ks, _) => some (ks.map pkV)
  | _ => itemsOf x S
def dStarD (a : DE) (r : DA) : DA := fun l S => (a l S).bind fun x S1 => match starOf x S1 with
  | some xs => (r l S1).bind fun ys S2 => .ok (xs ++ ys) S2
  | none => .bad
theorem pkV_k (kk : List Key) : (kk.map PK.k).map pkV = kk.map keyP := by rw [List.map_map]; rfl
theorem pkV_t (kk : List (List Key)) : (kk.map PK.t).map pkV = kk.map fun k => .nd .tup (k.map keyP) := by rw [List.map_map]; rfl
theorem zip_keys {κ : Type} : ∀ {kk : List κ} {us : List V}, us.length = kk.length → (kk.zip us).map (·.1) = kk
  | [], us, _ => by cases us <;> rfl
  | k :: kk, [], h => by cases h
  | k :: kk, u :: us, h => by rw [List.zip_cons_cons, List.map_cons, zip_keys (by simpa using h)]
section
variable {T : Tb} {X : Cx} {E : XS} {e : Expr} {es : List Expr} {de : DE} {ar : DA} {p : Pos}
theorem pa_starD {te : TE} {t : TA} (hc : X.calm = true) (he : L2.PE X e te) (hr : PA X es t) (hs : starEach (.Starred e p :: es) X.env = (true, eval e X.env) :: starEach es X.env := by rfl) :
    PA X (.Starred e p :: es) (fun σ H Q => te σ H fun x H1 => ∃ a, x = V.ref a ∧ ((∃ kvs : List (Key × V), Rd H1 a (.dK kvs) ∧ t σ H1 fun ys H2 => Q ((kvs.map fun kv => kV kv.1) ++ ys) H2) ∨ (∃ kvs : List (List Key × V), Rd H1 a (.dT kvs) ∧ ∀ bs, IsKeys H1 kvs bs → t σ H1 fun ys H2 => Q (bs.map V.ref ++ ys) H2) ∨
      ∃ xs, (SqT X.K H1 a xs ∨ SqL X.K H1 a xs) ∧ t σ H1 fun ys H2 => Q (xs ++ ys) H2)) := by
  refine ⟨fun pos pins s σ H Q I h => ?_⟩
  refine PySem.W.items_star (thn (he.run pins s σ H _ I h) fun v s1 ⟨y, H1, I1, ry, a, ey, hx⟩ => ?_) hs
  subst ey
  cases ry
  rcases hx with ⟨kvs, hd, q⟩ | ⟨kvs, hd, q⟩ | ⟨xs, hx, q⟩
  · refine star_dk hc I1 hd fun us s2 I2 rv => ?_
    exact thn (hr.run pos pins s2 σ H1 _ I2 q) fun ws s3 ⟨vs, H3, I3, r3, q3⟩ => ⟨_, H3, I3, rv.append r3, q3⟩
  · refine star_dt hc I1 hd fun bs us s2 I2 ik rv => ?_
    exact thn (hr.run pos pins s2 σ H1 _ I2 (q bs ik)) fun ws s3 ⟨vs, H3, I3, r3, q3⟩ => ⟨_, H3, I3, rv.append r3, q3⟩
  · refine StX.star_any I1 hx fun us s2 I2 rv => ?_
    exact thn (hr.run pos pins s2 σ H1 _ I2 q) fun ws s3 ⟨vs, H3, I3, r3, q3⟩ => ⟨_, H3, I3, rv.append r3, q3⟩
theorem ja_starD (hc : X.calm = true) (ha : JE T X E e de) (hr : JA T X E es ar) (hs : starEach (.Starred e p :: es) X.env = (true, eval e X.env) :: starEach es X.env := by rfl) : JA T X E (.Starred e p :: es) (dStarD de ar) := by
  refine pa_imp (pa_starD hc ha hr hs) fun σ H Q ⟨R, F, l, S, r, e', h⟩ => ?_
  refine seqV (goL T X.K (E σ) Q) r e' h fun x S1 R1 F1 H1 u p ex r1 rx e1 h1 => ?_
  have h1 : OkL T X.K R1 F1 (match starOf x S1 with
    | some xs => (ar l S1).bind fun ys S2 => .ok (xs ++ ys) S2
    | none => .bad) Q (E σ) := h1
  have fin : ∀ (xs : List PV) (us : List V) (F2 : Hp), Ex F1 F2 → Rep T X.K R1 F2 S1 H1 → RelL T X.K R1 F2 xs us → OkL T X.K R1 F1 ((ar l S1).bind fun ys S2 => .ok (xs ++ ys) S2) Q (E σ) → tL T X.K E ar σ H1 fun ys H2 => Q (us ++ ys) H2 := fun xs us F2 ex2 r2 hl h =>
    seqL (goL T X.K (E σ) Q) r2 (e1.mono (Pl.refl R1) ex2) (OkL.mono (Pl.refl R1) ex2 h) fun ys S2 R3 F3 H2 ws p3 ex3 r3 rys e3 h3 => PostL.here r3 ((hl.mono p3 ex3).append rys) h3
  unfold starOf at h1
  split at h1
  · rename_i xs hx
    split at hx
    · rename_i t ks ys hv
      cases hx
      obtain ⟨a, us, rfl, hs', hl⟩ := view_rel r1 rx hv
      refine ⟨a, rfl, ?_⟩
      cases t with
      | false =>
        obtain ⟨h0, kk, rfl, hk⟩ := hs'
        have h0' : us.length = kk.length := by rw [h0, List.length_map]
        refine .inl ⟨_, hk, fin _ _ F1 (Ex.refl F1) r1 ?_ h1⟩
        rw [pkV_k, show ((kk.zip us).map fun kv => kV kv.1) = ((kk.zip us).map (·.1)).map kV by rw [List.map_map]; rfl, zip_keys h0']
        exact keyPs_rel kk
      | true =>
        obtain ⟨h0, kk, rfl, hk⟩ := hs'
        have h0' : us.length = kk.length := by rw [h0, List.length_map]
        refine .inr (.inl ⟨_, hk, fun bs ik => ?_⟩)
        obtain ⟨F2, ex2, r2, l2⟩ := Rep.keys r1 h0' ik
        exact fin _ _ F2 ex2 r2 (by rw [pkV_t]; exact l2) h1
    · obtain ⟨a, us, rfl, hs', hl⟩ := itemsOf_rel r1 rx hx
      exact ⟨a, rfl, .inr (.inr ⟨us, hs', fin _ _ F1 (Ex.refl F1) r1 hl h1⟩)⟩
  · exact h1.elim
end

/-! ### list(d), list(x) -/
def listD (xs : List PV) (S : Sto) : Out PV := match xs with
  | [x] => (match view x S with
    | some (.dct _ ks, _) => .ok (.nd .lst (ks.map pkV)) S
    | _ => listP [x] S)
  | _ => .bad
def rListK : List V → Hp → VK → Prop := fun xs H Q => ∃ p kvs, xs = [.ref p] ∧ Rd H p (.dK kvs) ∧ ∀ q, H q = none → Q (.ref q) (upd H q (.lst (kvs.map fun kv => kV kv.1)))
def rListT : List V → Hp → VK → Prop := fun xs H Q => ∃ d kvs, xs = [V.ref d] ∧ Rd H d (.dT kvs) ∧ ∀ p bs, H p = none → IsKeys H kvs bs → Q (.ref p) (upd H p (.lst (bs.map V.ref)))
theorem call_listK {X : Cx} (hc : X.calm = true) : CallR X (.type "list") rListK := by
  rintro pins s σ H xs us Q I r ⟨p, kvs, rfl, hk, q⟩
  cases r with
  | cons rx rr =>
    cases rr
    cases rx
    obtain ⟨z, lo, vs, rk, hd⟩ := dk_rd I.hok hk
    obtain ⟨ep, hat⟩ := hd.dictAt
    have hl : kvs.length = vs.length := Paired.length rk
    refine PySem.W.kdl_call (PySem.W.kdl_dict (knd := mixKind X.prog X.w) (kvs := vs) (ep := ep) lo) (I.ok.hd hc) hat (by rw [← hl]; exact z) fun h' tk acc c' kp e it => ?_
    refine ⟨.ref s.heap.objs.size, upd H s.heap.objs.size (.lst (kvs.map fun kv => kV kv.1)), I.laid kp (Nat.le_refl _) (show ObjOk X.prog X.w _ _ _ (.lst (kvs.map fun kv => kV kv.1)) from ⟨by rw [List.length_map]; exact z, acc.toList, c', items_k rk it, by rw [Array.toArray_toList]; exact e⟩), rfl, q _ (I.hok.fresh (Nat.le_refl _))⟩
theorem cr_listD {X : Cx} (hc : X.calm = true) : CallR X (.type "list") (fun xs H Q => rListK xs H Q ∨ rListT xs H Q ∨ rListZ X.K xs H Q) := CallR.or (call_listK hc) (CallR.or (call_list_dT hc) call_list_of)
theorem cz_listD {T : Tb} {K : PySem.W.Frag} : CalZ T K listD (fun xs H Q => rListK xs H Q ∨ rListT xs H Q ∨ rListZ K xs H Q) := by
  intro E R F H S xs us Q r rx h
  unfold listD at h
  split at h
  · rename_i x
    obtain ⟨u, rfl, ru⟩ := rel1 rx
    split at h
    · rename_i t ks ys hv
      obtain ⟨a, us, rfl, hs', hl⟩ := view_rel r ru hv
      cases t with
      | false =>
        obtain ⟨h0, kk, rfl, hk⟩ := hs'
        have h0' : us.length = kk.length := by rw [h0, List.length_map]
        refine .inl ⟨a, _, rfl, hk, fun q hq => PostV.new (k := .lst) r hq upd_same ?_ h⟩
        rw [pkV_k, show ((kk.zip us).map fun kv => kV kv.1) = ((kk.zip us).map (·.1)).map kV by rw [List.map_map]; rfl, zip_keys h0']
        exact keyPs_rel kk
      | true =>
        obtain ⟨h0, kk, rfl, hk⟩ := hs'
        have h0' : us.length = kk.length := by rw [h0, List.length_map]
        refine .inr (.inl ⟨a, _, rfl, hk, fun q bs hq ik => ?_⟩)
        obtain ⟨F2, ex2, r2, l2⟩ := Rep.keys r h0' ik
        exact PostV.new (k := .lst) r2 hq upd_same (by rw [pkV_t]; exact l2) (PostV.mono (Pl.refl R) ex2 h)
    · exact .inr (.inr (cz_list E R F H S [x] [u] Q r rx h))
  · exact h.elim
end Z
end
end
section
set_option Elab.async false
set_option linter.all false
set_option maxRecDepth 100000
set_option maxHeartbeats 1000000
/-! ZT: tables of code: seen at the head, told at the law's end. -/
noncomputable section
namespace Z
open PySem PySem.Spec PyProof.Rows L2

/-! ### the tables at the head -/
abbrev tabO : Obj := { cls := .none, data := .fields #[] }
def isTab (o : Option Obj) : Bool := match o with
  | some ⟨.none, none, .fields vs, sl⟩ => vs.isEmpty && sl.isEmpty
  | _ => false
theorem isTab_eq {o : Option Obj} (h : isTab o = true) : o = some tabO := by
  unfold isTab at h
  split at h
  · rename_i vs sl
    obtain ⟨h1, h2⟩ := Bool.and_eq_true_iff.mp h
    rw [Array.isEmpty_iff] at h1 h2
    rw [h1, h2]
  · cases h
/-- the addresses of the head, but for the tables -/
def asZ (g : Addr → Option Obj) (n : Nat) : List Addr := (He5.asA g n).filter fun a => !(isTab (g a))
def tabsOf (tb : List (Str × Str)) (K : PySem.W.Frag) : List (Addr × Str) := tb.filterMap fun p => (PySem.W.tabIn K p.1).map fun c => (c.2, p.2)
def tabOk (g : Addr → Option Obj) (K : PySem.W.Frag) (p : Str × Str) : Bool := match PySem.W.tabIn K p.1 with
  | some (c, P) => PySem.W.codeHdIn K c P && ((K.lookup P).isNone && isTab (g P))
  | none => false
def obsT (n : Nat) (fa : List He.Fa) (ex : List (PySem.W.Frag → Bool)) (fn : List He5.DefA) (tb : List (Str × Str)) (g : Addr → Option Obj) : He.AlD :=
  let K := He.frG g (asZ g n)
  ((obsZ fa ex fn K).1 && ((tb.all fun p => tabOk g K p) && decide ((tabsOf tb K).map (·.1)).Nodup), (obsZ fa ex fn K).2)
structure TabsGood (tb : List (Str × Str)) (K : PySem.W.Frag) (h : Heap) : Prop where
  each : ∀ p ∈ tb, ∃ c P, PySem.W.tabIn K p.1 = some (c, P) ∧ PySem.W.codeHdIn K c P = true ∧ K.lookup P = none ∧ h.get? P = some tabO
  one : ((tabsOf tb K).map (·.1)).Nodup
theorem TabsGood.at_ {tb : List (Str × Str)} {K : PySem.W.Frag} {h : Heap} (t : TabsGood tb K h) {p : Addr × Str} (hp : p ∈ tabsOf tb K) : ∃ x ∈ tb, ∃ c, x.2 = p.2 ∧ PySem.W.tabIn K x.1 = some (c, p.1) ∧ PySem.W.codeHdIn K c p.1 = true ∧ K.lookup p.1 = none ∧ h.get? p.1 = some tabO := by
  unfold tabsOf at hp
  obtain ⟨x, hx, e⟩ := List.mem_filterMap.mp hp
  obtain ⟨c, P, h1, h2, h3, h4⟩ := t.each x hx
  rw [h1] at e
  cases e
  exact ⟨x, hx, c, rfl, h1, h2, h3, h4⟩
def hookT (n : Nat) (fa : List He.Fa) (ex : List (PySem.W.Frag → Bool)) (fn : List He5.DefA) (tb : List (Str × Str)) : PySem.W.Hook where
  α := He.AlD
  obs := fun s => obsT n fa ex fn tb s.heap.get?
  val := fun _ => valZ fn
  says := fun _ h => ∃ K : PySem.W.Frag, K.In h ∧ SaysZ fa ex fn K ∧ TabsGood tb K h
  of := fun _ s e => by
    have e1 : (obsT n fa ex fn tb s.heap.get?).1 = true := congrArg Prod.fst e
    have e2 : (obsT n fa ex fn tb s.heap.get?).2 = fn.map He5.DefA.val := congrArg Prod.snd e
    obtain ⟨a, b⟩ := Bool.and_eq_true_iff.mp e1
    obtain ⟨b1, b2⟩ := Bool.and_eq_true_iff.mp b
    refine ⟨_, He.frG_in, Prod.ext a e2, ⟨fun p hp => ?_, of_decide_eq_true b2⟩⟩
    have q := List.all_eq_true.mp b1 p hp
    unfold tabOk at q
    split at q
    · rename_i c P ht
      obtain ⟨q1, q2⟩ := Bool.and_eq_true_iff.mp q
      obtain ⟨q2, q3⟩ := Bool.and_eq_true_iff.mp q2
      exact ⟨c, P, ht, q1, Option.isNone_iff_eq_none.mp q2, isTab_eq q3⟩
    · cases q
  keeps := fun _ _ _ ⟨K, hK, c, t⟩ k => ⟨K, PySem.W.Frag.In.keeps hK k, c, ⟨fun p hp => let ⟨c, P, h1, h2, h3, h4⟩ := t.each p hp; ⟨c, P, h1, h2, h3, k _ _ h4⟩, t.one⟩⟩
theorem obsT_eq {n : Nat} {fa : List He.Fa} {ex : List (PySem.W.Frag → Bool)} {fn : List He5.DefA} {tb : List (Str × Str)} {g : Addr → Option Obj} {s : Shared} (h : ∀ a, g a = s.heap.get? a) : obsT n fa ex fn tb g = (hookT n fa ex fn tb).obs s := by
  have e : g = s.heap.get? := funext h
  rw [e] <;> rfl
/-- what is lasting about the tables -/
def BaseT (L : List (Addr × Str)) (mg : Str → Option Value) (base : Heap) : Prop := ∀ p ∈ L, base.BuiltinsAt mg p.1 ∧ mainGlobals ≠ p.1

/-! ### the law's end -/
theorem law_gT {T : Tb} {P : Program} {w : World} {K : PySem.W.Frag} {mg mb : Str → Option Value} {k : Nat} {fa a : Addr} {fd : FuncData} {x : Str} {d : DF} {s₁ : Shared} {vs : List Value} {ns : List Int}
    (inK : K.In s₁.heap) (gl : s₁.heap.Ns mainGlobals mg) (bl : s₁.heap.Ns builtinsNs mb) (bb : ∀ x : Str, x ≠ "__name__" → mb x = bootBuiltins x) (nl : s₁.heap.NoLimit) (ng : s₁.gens = #[])
    (hbm : ∃ (bm : Addr) (ob : Obj), mg "__builtins__" = some (.ref bm) ∧ bm ≠ builtinsNs ∧ s₁.heap.get? bm = some ob ∧ ob.cls = .type "module" ∧ ob.dict = some builtinsNs ∧ ob.data = .plain)
    (tb : ∀ p ∈ T.tabs K, s₁.heap.get? p.1 = some tabO ∧ K.lookup p.1 = none ∧ ∃ c, PySem.W.CodeHd s₁.heap c p.1)
    (sc : s₁.heap.get? a = some { cls := .type "list", data := .seq vs.toArray }) (hints : IntsAre vs ns) (few : ns.length ≤ sizeLine) (rm : Room k callerA)
    (G : ∀ base : Heap, K.In base → base.Ns mainGlobals mg → BaseT (T.tabs K) mg base → FnG T P w K mg base k fa fd [x] d) (bi : ∀ (s : Shared) (u : Value), BindsTo s fd ⟨[u], []⟩ [(x, u)])
    (good : ∃ S, d [.nd .scr (ns.map .int)] [] = .ok (.bl true) S) :
    codeAny (model P w) callerA (.call (.ref fa) ⟨[.ref a], []⟩) (fun r s' => r = .ok (.ret (.bool true)) ∧ OldK s₁.heap s'.heap ∧ s'.os = s₁.os ∧ AllBare s'.gens) s₁ := by
  classical
  have rv := vals_ints hints
  have zl : vs.length = ns.length := hints.length.symm ▸ rfl
  let ts : List Addr := (T.tabs K).map (·.1)
  have tat : ∀ b ∈ ts, s₁.heap.get? b = some tabO := fun b hb => by
    obtain ⟨p, hp, rfl⟩ := List.mem_map.mp hb
    exact (tb p hp).1
  have aT : a ∉ ts := fun z => by
    have q := tat a z
    rw [sc] at q
    have z' : Data.seq vs.toArray _ = Data.fields #[] := congrArg Obj.data (Option.some.inj q)
    cases z'
  let Ht : Hp := fun b => if b ∈ ts then some (.tbl #[]) else none
  -- what is known of the heap: the tables, and at most the script
  have run : ∀ H F : Hp, (∀ b ∈ ts, H b = some (.tbl #[])) → (∀ b, b ∉ ts → F b = H b) → (∀ b ∈ ts, F b = none) → (∀ b, b ∉ ts → H b = none ∨ ∃ o xs, H b = some (.frz o (.lst xs))) → SqL K F a (ns.map V.int) → HOk P w H s₁.heap → (∀ b, b ∉ ts → H b ≠ none → b = a ∧ K.lookup a = none) →
      codeAny (model P w) callerA (.call (.ref fa) ⟨[.ref a], []⟩) (fun r s' => r = .ok (.ret (.bool true)) ∧ OldK s₁.heap s'.heap ∧ s'.os = s₁.os ∧ AllBare s'.gens) s₁ := by
    intro H F hT hF hF0 only sq hok told
    have keepB : ∀ {b : Addr} {o : Obj}, s₁.heap.get? b = some o → (∀ vs n, o.data ≠ .seq vs n) → o ≠ tabO → H b = none := fun {b o} e h1 h2 => by
      by_cases z : b ∈ ts
      · have q := tat b z
        rw [e] at q
        exact absurd (Option.some.inj q) h2
      · by_cases y : H b = none
        · exact y
        · have eb := (told b z y).1
          rw [eb, sc] at e
          cases e
          exact absurd rfl (h1 _ _)
    have ns_in : ∀ {b : Addr} {m : Str → Option Value}, s₁.heap.Ns b m → (hidT s₁.heap H).Ns b m := fun ⟨o, es, ep, e, q, r⟩ => ⟨o, es, ep, hidT_get e (keepB e (fun vs n z => by rw [q] at z; cases z) fun z => by rw [z] at q; cases q), q, r⟩
    have inB : K.In (hidT s₁.heap H) := fun b o e => hidT_get (inK b o e) (by
      by_cases y : b ∈ ts
      · obtain ⟨p, hp, rfl⟩ := List.mem_map.mp y
        rw [(tb p hp).2.1] at e; cases e
      · by_cases z : H b = none
        · exact z
        · obtain ⟨eb, hk⟩ := told b y z
          rw [eb, hk] at e
          cases e)
    have md : Mod K mg (hidT s₁.heap H) := ⟨inB, ns_in gl, ⟨mb, ns_in bl, bb⟩, let ⟨mc, h1, h2⟩ := nl; ⟨mc, ns_in h1, h2⟩⟩
    have noF : ∀ b : Addr, b ∉ frs ([] : List Env) := fun b z => absurd (show b ∈ ([] : List Addr) from z) (by simp)
    have e0 : Env0 P w K mg (hidT s₁.heap H) callerA [] s₁ H := ⟨rfl, md, fun b o e => of_hidT e, Nat.le_of_eq (hidT_size _ _), trivial, fun b hb => absurd hb (noF b), hok, .of_eq ng⟩
    have bt : BaseT (T.tabs K) mg (hidT s₁.heap H) := fun p hp => by
      obtain ⟨bm, ob, b1, b2, b3, b4, b5, b6⟩ := hbm
      have hTp := (tb p hp).1
      refine ⟨⟨bm, ob, b1, b2, fun q => ?_, fun q => ?_, hidT_get b3 (keepB b3 (fun vs n z => by rw [b6] at z; cases z) fun z => by rw [z] at b6; cases b6), b4, b5, b6⟩, fun z => ?_⟩
      · obtain ⟨o, es, ep, e, hd, _⟩ := gl
        rw [q, e] at b3
        cases b3
        rw [hd] at b6
        cases b6
      · rw [q, hTp] at b3
        cases b3
        cases b6
      · obtain ⟨o, es, ep, e, hd, _⟩ := gl
        rw [z, hTp] at e
        cases e
        cases hd
    have sp : spOf T K 1 d [.ref a] H (fun v _ => v = .bl true) (fun _ _ _ => False) := by
      obtain ⟨S, hS⟩ := good
      have exF : Ex F H := fun b o e => by
        by_cases z : b ∈ ts
        · rw [hF0 b z] at e; cases e
        · rw [hF b z] at e; exact .inl e
      refine ⟨rfl, (⟨[], []⟩ : Pl), F, [], [.nd .scr (ns.map .int)], { ex := exF, len := rfl, nd := List.nodup_nil, there := fun a ha => (nomatch ha), hid := fun p hp => (nomatch hp), hidt := fun p hp => (nomatch hp), hidnd := List.nodup_nil, ntb := fun b ps e => ?_, tabs := fun p hp => ?_, live := fun n a k xs h1 h2 => by simp at h1 : Rep T K ⟨[], []⟩ F [] H }, ?_, ?_⟩
      · by_cases z : b ∈ ts
        · rw [hF0 b z] at e; cases e
        · rw [hF b z] at e
          rcases only b z with q | ⟨o, xs, q⟩
          · rw [q] at e; cases e
          · rw [q] at e; cases e
      · exact LamX.TabS.nil (hT p.1 (List.mem_map.mpr ⟨p, hp, rfl⟩))
      · refine .cons ?_ .nil
        rw [Rel]
        refine ⟨a, ns.map V.int, rfl, sq, ?_⟩
        clear sc hints few rv zl hS sq
        induction ns with
        | nil => exact .nil
        | cons n ns ih => exact .cons (by rw [Rel]) ih
      · rw [hS]
        intro R' F' H' u p ex r ru
        rw [Rel] at ru
        exact ru
    refine codeAny_mono ((G _ inB (ns_in gl) bt).run callerA [] s₁ H ⟨[.ref a], []⟩ [.ref a] [.ref a] _ _ rm rfl e0 (bi s₁ (.ref a)) (.cons rfl .nil) sp) fun z s' hz => ?_
    cases z with
    | error e => exact absurd hz (by
        intro q
        obtain ⟨_, _, _, _, _, _, _, _, _, _, _, _, f⟩ := q
        exact f)
    | ok fl =>
      cases fl with
      | ret u =>
        obtain ⟨v, H', os, bare, un, hok', rel, q⟩ := hz
        have q : v = .bl true := q
        subst q
        have eu : u = Value.bool true := rel
        subst eu
        have grown : ∀ p ∈ T.tabs K, ∃ more : Array Value, s'.heap.get? p.1 = some { cls := .none, data := .fields more } := fun p hp => by
          obtain ⟨more, z⟩ := un.tbls p.1 #[] (hT p.1 (List.mem_map.mpr ⟨p, hp, rfl⟩))
          exact ⟨_, hok' p.1 _ z⟩
        have same : ∀ b o, b ∉ ts → s₁.heap.get? b = some o → s'.heap.get? b = some o := fun b o nb e => by
          by_cases z : H b = none
          · exact un.keep b o e z (noF b) (by simp)
          · rcases only b nb with z2 | ⟨ob, xs, z2⟩
            · exact absurd z2 z
            · obtain ⟨e2, _⟩ := hok' b _ (un.frzs b ob _ z2)
              obtain ⟨e1, _⟩ := hok b _ z2
              rw [e] at e1
              cases e1
              exact e2
        refine ⟨rfl, ⟨fun b o e => ?_, fun b o e => ?_⟩, os, bare⟩
        · by_cases hb : b ∈ ts
          · obtain ⟨p, hp, rfl⟩ := List.mem_map.mp hb
            obtain ⟨more, hm⟩ := grown p hp
            obtain ⟨h1, _, c, hc⟩ := tb p hp
            rw [h1] at e
            cases e
            exact .inr (.inl ⟨(hc.tab h1).isCodeTable, rfl, #[], more, rfl, by rw [Array.empty_append]; exact hm⟩)
          · exact .inl (same b o hb e)
        · by_cases hb : b ∈ ts
          · obtain ⟨p, hp, rfl⟩ := List.mem_map.mp hb
            obtain ⟨more, hm⟩ := grown p hp
            exact ⟨_, hm⟩
          · exact ⟨o, same b o hb e⟩
      | _ => exact False.elim hz
  cases hk : K.lookup a with
  | some o =>
    have e := inK a o hk
    rw [sc] at e
    cases e
    refine run Ht (fun _ => none) (fun b hb => if_pos hb) (fun b hb => (if_neg hb).symm) (fun b hb => rfl) (fun b hb => .inl (if_neg hb)) (.inr ⟨_, vs.toArray, _, hk, rfl, rfl, rfl, by rw [List.size_toArray, zl]; exact few, by simpa using rv⟩) (fun b u z => ?_) fun b hb z => absurd (if_neg hb) z
    by_cases hb : b ∈ ts
    · have z' := (show Ht b = some (.tbl #[]) from if_pos hb).symm.trans z
      cases z'
      exact tat b hb
    · have z' := (show Ht b = none from if_neg hb).symm.trans z
      cases z'
  | none =>
    let H0 : Hp := fun b => if b = a then some (.frz { cls := .type "list", data := .seq vs.toArray } (.lst (ns.map V.int))) else Ht b
    let F0 : Hp := fun b => if b = a then some (.frz { cls := .type "list", data := .seq vs.toArray } (.lst (ns.map V.int))) else none
    have at_a : H0 a = some (.frz { cls := .type "list", data := .seq vs.toArray } (.lst (ns.map V.int))) := if_pos rfl
    have nea : ∀ b ∈ ts, b ≠ a := fun b hb z => aT (by rw [← z]; exact hb)
    have offT : ∀ b ∈ ts, H0 b = some (.tbl #[]) := fun b hb => (if_neg (nea b hb)).trans (if_pos hb)
    have off : ∀ b, b ≠ a → b ∉ ts → H0 b = none := fun b z hb => (if_neg z).trans (if_neg hb)
    refine run H0 F0 offT (fun b hb => ?_) (fun b hb => if_neg (nea b hb)) (fun b hb => ?_) (.inl (.inr ⟨_, if_pos rfl⟩)) (fun b u z => ?_) fun b hb z => ⟨?_, hk⟩
    · by_cases h : b = a
      · rw [h, at_a]; exact if_pos rfl
      · rw [off b h hb]; exact if_neg h
    · by_cases h : b = a
      · rw [h]; exact .inr ⟨_, _, at_a⟩
      · exact .inl (off b h hb)
    · by_cases h : b = a
      · subst h
        rw [at_a] at z
        cases z
        exact ⟨sc, by rw [List.length_map]; exact few, vs, _, rv, sc⟩
      · by_cases hb : b ∈ ts
        · rw [offT b hb] at z
          cases z
          exact tat b hb
        · rw [off b h hb] at z
          cases z
    · by_cases h : b = a
      · exact h
      · exact absurd (off b h hb) z
/-- what a law's walk needs: the law's def, and that its answer is True at every script -/
theorem walk_g {l : PySem.W.OpenLaw} {n k : Nat} {q : Program} {loose : List Str} {XP : (Str → Option Value) → Heap → Prop} {YP : World → Heap → Prop} {dr : DefRec} {x : Str} {T : Tb} {d : DF}
    (hn : l.most = some n) (hn2 : n ≤ sizeLine) (hdf : dr.params.defaults = []) (rm : Room k callerA) (good : ∀ ns : List Int, ns.length ≤ n → ∃ S, d [.nd .scr (ns.map .int)] [] = .ok (.bl true) S)
    (G : ∀ (w : World) (mg : Str → Option Value) (fa : Addr) (h : Heap), YP w h → h.Ns mainGlobals mg → mg dr.name = some (.ref fa) →
      ∃ (K : PySem.W.Frag) (fd : FuncData), K.In h ∧ (∀ p ∈ T.tabs K, h.get? p.1 = some tabO ∧ K.lookup p.1 = none ∧ ∃ c, PySem.W.CodeHd h c p.1) ∧ (∀ (s : Shared) (u : Value), BindsTo s fd ⟨[u], []⟩ [(x, u)]) ∧ ∀ base : Heap, K.In base → base.Ns mainGlobals mg → BaseT (T.tabs K) mg base → FnG T l.prog w K mg base k fa fd [x] d) :
    PySem.W.WalkO q loose XP YP l.row.toRowW dr [] (fun f vs => PySem.call f vs) := by
  refine Att.attach_call hn hdf fun w s₀ s₁ mg mb fa o pm cd doc a vs ns gr yy ho hd hcd hmg hobj hints hlen hg => ?_
  obtain ⟨K, fd, inK, tb, hb, hF⟩ := G w mg fa _ yy gr.T.g hmg
  exact law_gT inK gr.T.g gr.T.b gr.T.builtins gr.T.nolimit hg gr.T.bmain tb hobj hints (Nat.le_trans hlen hn2) rm hF hb (good ns hlen)
end Z
end
end
section
set_option Elab.async false
set_option linter.all false
set_option maxRecDepth 100000
set_option maxHeartbeats 1000000
/-! ZX: errors: raised, caught, held as values. -/
noncomputable section
namespace Z
open PySem PySem.Spec PyProof.Rows L2

section
variable {T : Tb} {K : PySem.W.Frag} {R : Pl} {F H : Hp} {S : Sto}
/-- a new thing that no value tells of -/
theorem Rep.aside (r : Rep T K R F S H) {p : Addr} {o : HO} (hp : H p = none) : Rep T K R F S (upd H p o) where
  ex := fun a u e => by
    have h : a ≠ p := fun z => by rw [z, r.fnone hp] at e; cases e
    rw [upd_ne h]; exact r.ex a u e
  len := r.len
  nd := r.nd
  there := fun a ha => by
    have h : a ≠ p := fun z => (r.there a ha).1 (by rw [z]; exact hp)
    rw [upd_ne h]; exact r.there a ha
  hidt := r.hidt
  ntb := r.ntb
  tabs := tabs_new r.tabs hp
  hidnd := r.hidnd
  hid := fun q hq => by
    obtain ⟨h1, h2, h3⟩ := r.hid q hq
    have ne : q.1 ≠ p := fun z => by rw [z, hp] at h1; cases h1
    exact ⟨by rw [upd_ne ne]; exact h1, h2, h3⟩
  live := fun n a k xs h1 h2 => by
    obtain ⟨h3, us, h4, h5⟩ := r.live n a k xs h1 h2
    have ne : a ≠ p := fun z => h4.there (by rw [z]; exact hp)
    exact ⟨h3, us, h4.upd ne, h5⟩
end

/-! ### raise C(..), C's own __init__ laying its fields one by one -/
/-- what an error's own __init__ keeps: the fields ns in their order -/
def spE (K : PySem.W.Frag) (C : Addr) (ns : List Str) : Sp := fun vs H Q _ => ∃ a ys, vs = .ref a :: ys ∧ ys.length = ns.length ∧ H a = some (exo a C none) ∧
  ∀ d H2, H d = none → d ≠ a → H2 a = some (exo a C (some d)) → H2 d = some (exd d (ns.zip ys).reverse) → (∀ b, b ≠ a → b ≠ d → H2 b = H b) → Q .non H2
structure ExN (T : Tb) (P : Program) (w : World) (K : PySem.W.Frag) (mg : Str → Option Value) (base : Heap) (k : Nat) (x : Str) (c : Nat) (fs : List Nat) : Prop where
  ex : ∃ fI fd ps, mg x = some (.ref (T.ca K c)) ∧ OexC K (T.ca K c) ∧ PySem.W.findIn K (.ref (T.ca K c)) "__init__" = some (some (.ref fI)) ∧ PySem.W.typeIn K (.ref fI) = some (.type "function") ∧
    FnOk P w K mg base (L2.CX P w) k fI fd ps (spE K (T.ca K c) (fs.map T.fd)) ∧ Binds K fd ps []
  few : fs.length ≤ 900
  some_ : fs ≠ []
def dRaise (c : Nat) (fs : List Nat) (ar : DA) : DS := fun l S => (ar l S).st l fun xs S1 => if xs.length = fs.length then .err ⟨c, fs.reverse, xs.reverse⟩ l S1 else .bad
theorem RelL.zipr {T : Tb} {K : PySem.W.Frag} {fs : List Nat} {us : List V} (h : us.length = fs.length) : ((fs.map T.fd).zip us).reverse = (fs.reverse.map T.fd).zip us.reverse := by
  rw [List.map_reverse]
  unfold List.zip
  rw [List.reverse_zipWith]
  rw [List.length_map, h]
section
variable {T : Tb} {X : Cx} {E : XS} {x : Str} {c j k : Nat} {fs : List Nat} {e : Expr} {es : List Expr} {ar : DA} {p pos rpos : Pos}
theorem passes_no {X : Cx} : Passes (L2.CX X.prog X.w) X (fun _ _ _ => False) := fun _ _ _ _ _ _ _ q => by
  obtain ⟨_, _, _, _, _, _, _, _, _, _, _, _, f⟩ := q
  exact f.elim
theorem js_raise (cg : Cg X E k) (N : ExN T X.prog X.w X.K X.mg X.base j x c fs) (ha : JA T X E (e :: es) ar) (hj : j + 1 ≤ k := by decide) (hg : Gl X x := by rfl) (hdb : (x == ("__debug__" : Str)) = false := by decide)
    (he : starEach (e :: es) X.env = (false, eval e X.env) :: starEach es X.env := by rfl) (hpl : (backTo pos (starEach es X.env)).any (·.1) = false := by rfl) : JS T X E (.Raise (some (.Call (.Name x p) (e :: es) [] pos)) none rpos) (dRaise c fs ar) := by
  obtain ⟨fI, fd, ps, hm, O, iC, tI, G, hb⟩ := N.ex
  refine ps_imp (ps_raise cg.calm cg.takes (pmk_oex (ds := []) (dvs := []) O iC tI G (cg.room.mono hj) hb .nil passes_no hg hm ha hdb he hpl)) fun D σ H ⟨R, Fz, l, S, r, re, h⟩ => ?_
  refine st_l r re h fun xs S1 R1 F1 H1 us pl ex r1 rx e1 h1 => ?_
  have h1 : OkS T X.K R1 F1 (if xs.length = fs.length then .err ⟨c, fs.reverse, xs.reverse⟩ l S1 else .bad) D E := h1
  split at h1
  · rename_i hl
    have hlu : us.length = fs.length := by rw [rx.length]; exact hl
    refine ⟨by rw [hlu]; exact Nat.le_trans N.few (by decide), fun a hn => ⟨a, us, by rw [List.append_nil], by rw [List.length_map]; exact hlu, upd_same, fun d H2 hd hda ea ed hoth => ⟨rfl, d, _, ea, ed, ?_, ?_⟩⟩⟩
    · rw [upd_ne hda] at hd; exact hd
    · rw [upd_ne hda] at hd
      have eH : upd (del H2 a) d (.xd ((fs.map T.fd).zip us).reverse) = upd H1 d (.xd ((fs.map T.fd).zip us).reverse) := by
        funext b
        by_cases hbd : b = d
        · rw [hbd, upd_same, upd_same]
        · rw [upd_ne hbd, upd_ne hbd]
          by_cases hba : b = a
          · rw [hba, del_same, hn]
          · rw [del_ne hba, hoth b hba hbd, upd_ne hba]
      rw [eH]
      refine h1 R1 F1 _ σ _ _ (Pl.refl R1) (Ex.refl F1) (r1.aside hd) e1 ⟨rfl, .inr ⟨d, us.reverse, rfl, r1.fnone hd, ?_, ?_, rx.reverse⟩⟩
      · rw [upd_same, RelL.zipr (K := X.K) hlu]
      · rw [List.length_reverse, List.length_reverse]; exact hlu
  · exact h1.elim
end
/-! ### such an __init__ of one field, of two -/
section
variable {P : Program} {w : World} {K : PySem.W.Frag} {mg : Str → Option Value} {base : Heap} {nm qual : Str} {params : Arguments} {scope : Scope} {fI C : Addr} {fd : FuncData} {s v1 v2 f1 f2 : Str} {p1 p2 p3 p4 q1 q2 q3 q4 : Pos}
theorem init1 (G : FunD K nm qual params [.Assign [.Attribute (.Name s p1) f1 p2] (.Name v1 p3) p4] scope [] [] fI fd) (S : FnScope [s, v1] [s, v1] scope) (O : OexC K C) (hno : PySem.W.findIn K (.ref C) f1 = some none)
    (vs : Vis scope s := by first | exact Or.inl rfl | exact Or.inr (Or.inl rfl)) (vv : Vis scope v1 := by first | exact Or.inl rfl | exact Or.inr (Or.inl rfl))
    (ds : (s == ("__debug__" : Str)) = false := by decide) (dv : (v1 == ("__debug__" : Str)) = false := by decide) (cs : (s == ("__classdict__" : Str)) = false := by decide) (cv : (v1 == ("__classdict__" : Str)) = false := by decide) :
    FnOk P w K mg base (L2.CX P w) 1 fI fd [s, v1] (spE K C [f1]) :=
  FunD.ok (k := 0) G S (fun _ _ _ _ ⟨a, ys, e, l, _⟩ => by rw [e, List.length_cons, l]; rfl) fun cdv A outer st H vs Q E hr ⟨a, ys, e, l, ha, hq⟩ => by
    match ys, l with
    | [y], _ =>
      subst e
      refine ⟨_, pss_one (ps_ost (pe_var (i := 0) rfl vs ds cs) (pe_var (i := 1) rfl vv dv cv)), ?_⟩
      refine ⟨y, rfl, .ref a, rfl, a, C, rfl, O, hno, .inl ⟨ha, fun dx hdx hne => hq dx _ hdx hne upd_same ?_ fun b h1 h2 => by rw [upd_ne h1, upd_ne h2]⟩⟩
      rw [upd_ne hne, upd_same]; rfl
theorem init2 (G : FunD K nm qual params [.Assign [.Attribute (.Name s p1) f1 p2] (.Name v1 p3) p4, .Assign [.Attribute (.Name s q1) f2 q2] (.Name v2 q3) q4] scope [] [] fI fd) (S : FnScope [s, v1, v2] [s, v1, v2] scope) (O : OexC K C) (hno : PySem.W.findIn K (.ref C) f1 = some none) (hno2 : PySem.W.findIn K (.ref C) f2 = some none)
    (vs : Vis scope s := by first | exact Or.inl rfl | exact Or.inr (Or.inl rfl)) (vv : Vis scope v1 := by first | exact Or.inl rfl | exact Or.inr (Or.inl rfl)) (vw : Vis scope v2 := by first | exact Or.inl rfl | exact Or.inr (Or.inl rfl))
    (ds : (s == ("__debug__" : Str)) = false := by decide) (dv : (v1 == ("__debug__" : Str)) = false := by decide) (dw : (v2 == ("__debug__" : Str)) = false := by decide) (cs : (s == ("__classdict__" : Str)) = false := by decide) (cv : (v1 == ("__classdict__" : Str)) = false := by decide) (cw : (v2 == ("__classdict__" : Str)) = false := by decide) :
    FnOk P w K mg base (L2.CX P w) 1 fI fd [s, v1, v2] (spE K C [f1, f2]) :=
  FunD.ok (k := 0) G S (fun _ _ _ _ ⟨a, ys, e, l, _⟩ => by rw [e, List.length_cons, l]; rfl) fun cdv A outer st H vs Q E hr ⟨a, ys, e, l, ha, hq⟩ => by
    match ys, l with
    | [y, z], _ =>
      subst e
      refine ⟨_, pss_cons (ps_ost (pe_var (i := 0) rfl vs ds cs) (pe_var (i := 1) rfl vv dv cv)) (pss_one (ps_ost (pe_var (i := 0) rfl vs ds cs) (pe_var (i := 2) rfl vw dw cw))), ?_⟩
      refine ⟨y, rfl, .ref a, rfl, a, C, rfl, O, hno, .inl ⟨ha, fun dx hdx hne => ?_⟩⟩
      refine ⟨z, rfl, .ref a, rfl, a, C, rfl, O, hno2, .inr ⟨dx, _, upd_same, by rw [upd_ne hne, upd_same], (by simp), hq dx _ hdx hne ?_ ?_ fun b h1 h2 => by rw [upd_ne h2, upd_ne h1, upd_ne h2]⟩⟩
      · rw [upd_ne (Ne.symm hne), upd_same]
      · rw [upd_same]; rfl
end

/-! ### what the head must tell of an error's class -/
def oexB (K : PySem.W.Frag) (C : Addr) : Bool := (match K.lookup C with
  | some ⟨.type "type", _, .cls cd, sl⟩ => (match cd.mro, sl.toList with
    | .ref B :: bm, [_, _, _, _, some (.builtin n), _] => B == C && (n == "ValueError.__new__" && (!cd.hasDel && (cd.hasDict && PySem.HandSPX.refsVE bm)))
    | _, _ => false)
  | _ => false) && (decide (PySem.W.findIn K (.ref C) "__setattr__" = some (some (.builtin "object.__setattr__"))) && (decide (PySem.W.subIn K (.ref C) (.type "BaseException") = some true) && (decide (PySem.W.typeIn K (.ref C) = some (.type "type")) && PySem.W.keepIn K (.ref C))))
theorem oexB_ok {K : PySem.W.Frag} {C : Addr} (h : oexB K C = true) : OexC K C := by
  unfold oexB at h
  obtain ⟨h1, h⟩ := Bool.and_eq_true_iff.mp h
  obtain ⟨h2, h⟩ := Bool.and_eq_true_iff.mp h
  obtain ⟨h3, h⟩ := Bool.and_eq_true_iff.mp h
  obtain ⟨h4, h5⟩ := Bool.and_eq_true_iff.mp h
  refine ⟨?_, of_decide_eq_true h2, of_decide_eq_true h3, of_decide_eq_true h4, h5⟩
  split at h1
  · rename_i dd cd sl hl
    split at h1
    · rename_i B bm k0 k1 k2 k3 n k5 hm hs
      simp only [Bool.and_eq_true, beq_iff_eq, Bool.not_eq_true'] at h1
      obtain ⟨rfl, rfl, e1, e2, e3⟩ := h1
      obtain ⟨nm, bs, mro, ns, qn, hd, sn, sub, ab, col, del⟩ := cd
      dsimp only at hm e1 e2
      subst hm e1 e2
      have hsl : sl = #[k0, k1, k2, k3, some (.builtin "ValueError.__new__"), k5] := by
        obtain ⟨l⟩ := sl
        simp only at hs
        rw [hs]
      subst hsl
      exact ⟨nm, qn, ns, bs, bm, sn, sub, ab, col, dd, k0, k1, k2, k3, k5, hl, e3⟩
    · cases h1
  · cases h1
def exnB (x : Str) (fs : List Str) (K : PySem.W.Frag) : Bool := oexB K (He.ga K x) && ((match PySem.W.findIn K (.ref (He.ga K x)) "__init__" with
  | some (some (.ref a)) => decide (PySem.W.typeIn K (.ref a) = some (.type "function"))
  | _ => false) && (fs.all fun f => decide (PySem.W.findIn K (.ref (He.ga K x)) f = some none)))
theorem exnB_init {x : Str} {fs : List Str} {K : PySem.W.Frag} (h : exnB x fs K = true) : PySem.W.findIn K (.ref (He.ga K x)) "__init__" = some (some (.ref (He.ma K (He.ga K x) "__init__"))) ∧ PySem.W.typeIn K (.ref (He.ma K (He.ga K x) "__init__")) = some (.type "function") := by
  unfold exnB at h
  have h1 := (Bool.and_eq_true_iff.mp (Bool.and_eq_true_iff.mp h).2).1
  split at h1
  · rename_i a ha
    have e : He.ma K (He.ga K x) "__init__" = a := by unfold He.ma; rw [ha]
    rw [e]
    exact ⟨ha, of_decide_eq_true h1⟩
  · cases h1
theorem exnB_no {x f : Str} {fs : List Str} {K : PySem.W.Frag} (h : exnB x fs K = true) (hf : f ∈ fs) : PySem.W.findIn K (.ref (He.ga K x)) f = some none := by
  unfold exnB at h
  exact of_decide_eq_true (List.all_eq_true.mp (Bool.and_eq_true_iff.mp (Bool.and_eq_true_iff.mp h).2).2 f hf)

/-! ### an error that is held from now on -/
section
variable {X : Cx} {pins : List (Addr × Obj)} {σ : L2.St} {H : Hp} {s : Shared}
theorem exv_tup {C a : Addr} {d : Option Addr} {xs : List V} : EXV C d a ≠ .tup xs := fun z => by unfold EXV at z; cases z
theorem exv_own {C a x : Addr} {d : Option Addr} : EXV C d a ≠ .own x := fun z => by unfold EXV at z; cases z
theorem Inv.hold {a C : Addr} {d : Option Addr} {oe : Obj} {vs : Array Value} (I : Inv X pins σ H s) (ha : s.heap.get? a = some oe) (hz : Zc (.ref C) d oe) (hd : oe.data = .fields vs) (na : H a = none)
    (old : X.s_0.heap.get? a = none) (nl : a ≠ X.env.locals) (nc : ∀ x c, X.env.cells.lookup x = some c → c ≠ a) (np : ∀ p ∈ X.pn ++ pins, p.1 ≠ a) : Inv X pins σ (upd H a (EXV C d a)) s where
  ok := I.ok
  os := I.os
  bare := I.bare
  base := {
    keep := I.base.keep
    slot := I.base.slot
    free := fun b o e n hx => by
      have hb : b ≠ a := fun z => by rw [z, old] at e; cases e
      rw [upd_ne hb]; exact I.base.free b o e n hx
    there := I.base.there
    tups := fun b xs e => by
      have q := I.base.tups b xs e
      rw [upd_ne (ne_of_none q na)]; exact q
    frzs := fun b o u e => by
      have q := I.base.frzs b o u e
      rw [upd_ne (ne_of_none q na)]; exact q
    tbls := fun b ps e => by
      obtain ⟨more, q⟩ := I.base.tbls b ps e
      exact ⟨more, by rw [upd_ne (ne_of_none q na)]; exact q⟩ }
  loc := I.loc
  cell := I.cell
  free := by rw [upd_ne (Ne.symm nl)]; exact I.free
  freeC := fun x c e => by rw [upd_ne (nc x c e)]; exact I.freeC x c e
  pin := fun p hp => by
    obtain ⟨h1, h2, h3, h4, h5⟩ := I.pin p hp
    exact ⟨h1, by rw [upd_ne (np p hp)]; exact h2, h3, h4, h5⟩
  hok := fun b o e => by
    by_cases hb : b = a
    · subst hb
      rw [upd_same] at e
      cases e
      exact ⟨⟨oe, vs, ha, hz, hd⟩, ⟨oe, ha⟩, fun h1 h2 ⟨oe, vs, q1, q2, q3⟩ k => ⟨oe, vs, k _ q1, q2, q3⟩⟩
    · rw [upd_ne hb] at e
      exact (I.hok b o e).stay (fun _ _ _ z => z) (fun c hc => by rw [upd_ne (ne_of_none hc na)]; exact hc) fun c xs hc => by rw [upd_ne (ne_of_none hc na)]; exact hc
  len := I.len
end
end Z
end
end
section
set_option Elab.async false
set_option linter.all false
set_option maxRecDepth 100000
set_option maxHeartbeats 1000000
/-! ZY: try: .. except C as n: .., the error held as a value from there on. -/
noncomputable section
namespace Z
open PySem PySem.Spec PyProof.Rows L2

/-- the ends of a suite behind whose end slot i is empty again -/
def gone (i : Nat) (D : Ends) : Ends := { nx := fun τ M => D.nx (τ.set i none) M, rt := D.rt, bk := fun τ M => D.bk (τ.set i none) M, ct := fun τ M => D.ct (τ.set i none) M }
/-- what is wished of an error of the body -/
def wHeld (K : PySem.W.Frag) (cv : Value) (i : Nat) (ts : TS) (Wout : WX) (D : Ends) : WX := fun cls d τ M =>
  ∃ b, PySem.W.exmOne K cls cv = some b ∧ (b = true → ∃ C, cls = .ref C ∧ ∀ a, M a = none → ts (gone i D) (τ.set i (some (.ref a))) (upd M a (EXV C d a))) ∧ (b = false → Wout cls d τ M)
section
variable {X : Cx} {x n : Str} {cv : Value} {i : Nat} {body suite : List Stmt} {b₀ : Stmt} {np pos pos' : Pos} {tb : WX → TS} {ts : TS} {Wout : WX}
theorem Inv.back {pins : List (Addr × Obj)} {σ : L2.St} {H : Hp} {s : Shared} {a : Addr} (J : Inv (X.suite a (X.pn ++ pins)) [] σ H s) (ok : X.Ok) : Inv X pins σ H s where
  ok := ok
  os := J.os
  bare := J.bare
  base := J.base
  loc := J.loc
  cell := J.cell
  free := J.free
  freeC := J.freeC
  pin := fun p hp => J.pin p (List.mem_append_left _ hp)
  hok := J.hok
  len := J.len
/-- the state in the except suite: the error is told -/
theorem Inv.inSuite {pins : List (Addr × Obj)} {σ : L2.St} {H : Hp} {s sI : Shared} {a C : Addr} {d : Option Addr} {oe : Obj} {vs : Array Value} (J : Inv X pins σ H s) (J0 : Inv X pins σ H sI) (new : sI.heap.get? a = none) (na : H a = none)
    (ha : s.heap.get? a = some oe) (hz : Zc (.ref C) d oe) (hd : oe.data = .fields vs) (nl : a ≠ X.env.locals) (hx : X.ex = []) : Inv (X.suite a (X.pn ++ pins)) [] σ (upd H a (EXV C d a)) s := by
  have J1 : Inv X pins σ (upd H a (EXV C d a)) s := by
    refine Inv.hold J ha hz hd na ?_ nl (fun y c e z => ?_) fun p hp z => ?_
    · cases q : X.s_0.heap.get? a with
      | none => rfl
      | some o =>
        obtain ⟨o', q'⟩ := J0.base.there a o q (by rw [hx]; exact fun z => nomatch z)
        rw [new] at q'; cases q'
    · obtain ⟨v, o, q, _⟩ := J0.cell y c e
      rw [z, new] at q; cases q
    · have q := (J0.pin p hp).1
      rw [z, new] at q; cases q
  exact ⟨J1.ok.suite _ _, J1.os, J1.bare, J1.base, J1.loc, J1.cell, J1.free, J1.freeC, fun p hp => J1.pin p (by rw [List.append_nil] at hp; exact hp), J1.hok, J1.len⟩
theorem ps_held (hx : X.ex = []) (hs : X.stack = X.env :: X.outer) (hf : X.env.frame = some X.env.locals) (nd : X.N.Nodup) (hi : X.N[i]? = some n) (hl : X.env.kindOf n = some .local) (nx : Names X x cv) (tk : Takes X Wout)
    (hB : ∀ (W : WX) (pn : List (Addr × Obj)) (xe : Value → Shared → Prop), Takes (X.tr pn xe) W → PassesOwn (model X.prog X.w) X.A X.env xe → PSs (X.tr pn xe) body (tb W))
    (hS : ∀ (a : Addr) (pn : List (Addr × Obj)), PSs (X.suite a pn) (b₀ :: suite) ts) :
    PS X (.Try body [.ExceptHandler (some (.Name x np)) (some n) (b₀ :: suite) pos'] [] [] pos) (fun D σ H => tb (wHeld X.K cv i ts Wout D) D σ H) := by
  refine ⟨fun pins s σ H D I prom => ?_⟩
  have xok := I.ok
  have frm : X.A.frames = some (X.env :: X.outer) := xok.frames.trans (congrArg some hs)
  let hd : List ExceptHandler := [.ExceptHandler (some (.Name x np)) (some n) (b₀ :: suite) pos']
  let xe1 : Value → Shared → Prop := fun e s₁ => wpAny (model X.prog X.w) X.A (noteFrame e X.env) (fun _ s₂ => wpAny (model X.prog X.w) X.A (setFlight e none) (fun _ s₃ => wpAny (model X.prog X.w) X.A (handleBy e X.env hd) (SP X pins D) X.xe s₃) X.xe s₂) X.xe s₁
  have caught : Takes (X.tr (X.pn ++ pins) xe1) (wHeld X.K cv i ts Wout D) := by
    intro u s' air
    obtain ⟨a, B, sI, pins', τ, M, cls, d, eu, J1, gr, up, sky, na, hos, hag, b, hb, yes, no⟩ := air
    subst eu
    have J : Inv X pins τ M sI := J1.ofTry xok
    have sky2 : Sky B (X.env :: X.outer) a (Zc cls d) X.env.locals s'.heap := hs ▸ sky
    refine Sky.land Zc.steady frm hf sky2 fun g fl upg => ?_
    have Jg : Inv X pins τ M { s' with heap := g } := J.landed gr fl.1 (up.trans upg) hos hag
    obtain ⟨oe, ve, qe, ze, de⟩ := fl.there
    have offF : a ∉ frs (X.env :: X.outer) := fun hm => by
      obtain ⟨_, o', q', bad⟩ := fl.2.2.1.mem hm
      rw [qe] at q'
      cases q'
      exact bad _ de
    have offL : a ≠ X.env.locals := fun z => offF (List.mem_filterMap.mpr ⟨X.env, List.mem_cons_self, by rw [hf, z]⟩)
    have offO : a ∉ X.fs := fun hm => by
      obtain ⟨e, he, q⟩ := List.mem_filterMap.mp hm
      exact offF (List.mem_filterMap.mpr ⟨e, List.mem_cons_of_mem _ he, q⟩)
    have new : sI.heap.get? a = none := by
      cases q : sI.heap.get? a with
      | none => rfl
      | some o =>
        have z := gr a o q (by rw [hs]; exact offF)
        rw [fl.2.1] at z
        cases z
    have Sg := Jg.suite qe de na offL offO
    refine wpAny_handleBy_cons (codeAny_handlers_test ?_) (by intro q; cases q)
    have lkT : PySem.W.Looks (model X.prog X.w) g (typeOf (.ref a)) cls := fun _ _ _ _ kk qq => wpAny_typeOf_ref (kk _ _ qe) (by rw [ze.1]; exact qq)
    have lkM := PySem.W.exm_one (M := model X.prog X.w) Jg.kIn lkT hb
    have named : ∀ {Q Er : Value → Shared → Prop}, Q cv { s' with heap := g } → wpAny (model X.prog X.w) (X.A.mark (some (.ref a))) (eval (.Name x np) X.env) Q Er { s' with heap := g } := fun {Q Er} q => by
      obtain ⟨h1, h2, h3 | ⟨h3, h4, h5⟩⟩ := nx
      · exact ld_glob (X := X.suite a ((a, oe) :: (X.pn ++ pins))) Sg h1 h3 q h2
      · exact ld_blt (X := X.suite a ((a, oe) :: (X.pn ++ pins))) Sg h1 h3 h4 q h5 h2
    refine named (lkM.here ?_)
    cases b with
    | false =>
      show wpAny _ X.A (handleBy (.ref a) X.env []) _ _ _
      refine wpAny_handleBy_nil ?_
      obtain ⟨_, _, _, oe2, ve2, Tb, oT, tf, qe2, _, de2, trc, _⟩ := id fl
      unfold PySem.passOn
      refine wpAny_bind (wpAny_field qe2 de2 trc ?_)
      rw [if_neg (show ¬ ((Value.ref Tb == Value.none) = true) from by simp)]
      have out : wpAny (model X.prog X.w) X.A (setFlight (.ref a) X.env.frame) (fun _ s4 => wpAny (model X.prog X.w) X.A (throw (.ref a) : Sem Flow) (SP X pins D) X.xe s4) X.xe { s' with heap := g } := by
        rw [hf]
        exact HandSPX.setFlight_upZ fl fun g2 held up2 => wpAny_throw (tk _ _ ⟨a, B, sI, pins, τ, M, cls, d, rfl, J, gr, (up.trans upg).trans up2, .inr (.inr (by rw [hs]; exact held)), na, hos, hag, no rfl⟩)
      first
        | exact wpAny_bind (wpAny_pure (wpAny_bind out))
        | exact wpAny_bind out
    | true =>
      obtain ⟨C, ec, yes2⟩ := yes rfl
      subst ec
      refine codeAny_handlers_suite_as (HandSPX.lands_againZ fl fun g2 fl2 up2 => ?_)
      have J2 : Inv X pins τ M { s' with heap := g2 } := J.landed gr fl2.1 ((up.trans upg).trans up2) hos hag
      obtain ⟨o2, v2, q2, z2, d2⟩ := fl2.there
      have S2 : Inv (X.suite a (X.pn ++ pins)) [] τ (upd M a (EXV C d a)) { s' with heap := g2 } := Inv.inSuite J2 J new na q2 z2 d2 offL hx
      refine store_ok (X := X.suite a (X.pn ++ pins)) (v := .ref a) S2 nd hi (.inl hl) rfl (fun s5 S5 => ?_) (.inr hl)
      refine wpAny_mono ((hS a (X.pn ++ pins)).run [] s5 _ _ _ S5 (yes2 a na)) (fun f s6 done => ?_) fun _ _ z => False.elim z
      have goes : ∀ {ρ : L2.St} {N : Hp} {Q : Shared → Prop}, Inv (X.suite a (X.pn ++ pins)) [] ρ N s6 → (∀ s7, Inv X pins (ρ.set i none) N s7 → Q s7) →
          wpAny (model X.prog X.w) X.A (do bindName X.env n .none; unbindBehindTheSuite X.env n pos') (fun _ s7 => Q s7) X.xe s6 := fun Jr hq => gone_ok (Inv.back Jr xok) nd hi hl hq
      cases f with
      | ret u =>
        obtain ⟨v, ρ, N, Jr, rv, q⟩ := done
        exact goes Jr fun s7 J7 => ⟨_, _, _, J7, rv, q⟩
      | next =>
        obtain ⟨ρ, N, Jr, q⟩ := done
        exact goes Jr fun s7 J7 => ⟨_, _, J7, q⟩
      | brk =>
        obtain ⟨ρ, N, Jr, q⟩ := done
        exact goes Jr fun s7 J7 => ⟨_, _, J7, q⟩
      | cont =>
        obtain ⟨ρ, N, Jr, q⟩ := done
        exact goes Jr fun s7 J7 => ⟨_, _, J7, q⟩
  refine wpAny_Try_except (wpAny_mono ((hB _ (X.pn ++ pins) xe1 caught PassesOwn.looking).run [] s σ H D (I.toTry _) prom) (fun f s1 done => ?_) fun e s1 he => he)
  cases f with
  | ret u =>
    obtain ⟨v, τ, M, J, rv, q⟩ := done
    exact ⟨v, τ, M, J.ofTry xok, rv, q⟩
  | next =>
    obtain ⟨τ, M, J, q⟩ := done
    exact wpAny_execs_nil ⟨τ, M, J.ofTry xok, q⟩
  | brk =>
    obtain ⟨τ, M, J, q⟩ := done
    exact ⟨τ, M, J.ofTry xok, q⟩
  | cont =>
    obtain ⟨τ, M, J, q⟩ := done
    exact ⟨τ, M, J.ofTry xok, q⟩
end
end Z
end
end
section
set_option Elab.async false
set_option linter.all false
set_option maxRecDepth 100000
set_option maxHeartbeats 1000000
/-! ZV: try, by values; the fields of an error that is held. -/
noncomputable section
namespace Z
open PySem PySem.Spec PyProof.Rows L2

/-- the error as a value -/
def XV.val (e : XV) : PV := .nd (.exn e.c e.fs) (if e.fs = [] then [] else e.xs)
/-- an except suite comes to its end -/
def goneO (i : Nat) (o : OutS) : OutS := match o with
  | .nx l S => .nx (l.set i none) S
  | .brk l S => .brk (l.set i none) S
  | .cnt l S => .cnt (l.set i none) S
  | .ret v S => .ret v S
  | .err _ _ _ => .bad
  | .bad => .bad
def dTryAs (tst : Nat → Option Bool) (i : Nat) (b su : DS) : DS := fun l S => match b l S with
  | .err e l1 S1 => (match tst e.c with
    | some true => goneO i (su (l1.set i (some e.val)) S1)
    | some false => .err e l1 S1
    | none => .bad)
  | o => o
section
variable {T : Tb} {K : PySem.W.Frag} {R : Pl} {F H : Hp} {S : Sto} {l : Loc} {σ : L2.St}
theorem RelE.setNone (h : RelE T K R F l σ) (i : Nat) : RelE T K R F (l.set i none) (σ.set i none) := by
  refine ⟨by rw [List.length_set, List.length_set]; exact h.len, fun j w q => ?_⟩
  by_cases e : i = j
  · subst e
    by_cases hl : i < l.length
    · rw [List.getElem?_set_self hl] at q; cases q
    · rw [List.getElem?_eq_none (by simpa using hl)] at q; cases q
  · rw [List.getElem?_set_ne e] at q
    obtain ⟨u, h1, h2⟩ := h.at_ j w q
    exact ⟨u, by rw [List.getElem?_set_ne e]; exact h1, h2⟩
theorem notLiv_xd {a : Addr} {fs : List (Str × V)} (h : H a = some (.xd fs)) : ∀ k us, ¬ Liv T K H a k us := fun k us q => by
  obtain ⟨u, h1, h2⟩ := q.plain
  cases k with
  | tup => exact q
  | scr => exact q
  | lst => have q : H a = _ := q; rw [h] at q; cases q
  | dct t ks => cases t <;> (obtain ⟨_, kk, _, q⟩ := q; rw [h] at q; cases q)
  | ins c fs => obtain ⟨_, dx, q⟩ := q; rw [h] at q; cases q
  | exn c fs => exact q
  | clo a0 c0 q0 us0 => exact q
/-- the caught error is told from now on -/
theorem caught_rel {e : XV} {cls : Value} {d : Option Addr} {a : Addr} (r : Rep T K R F S H) (na : H a = none) (x : RelX T K R F H e cls d) :
    ∃ F', Ex F F' ∧ Rep T K R F' S (upd H a (EXV (T.ca K e.c) d a)) ∧ Rel T K R F' e.val (.ref a) := by
  have hex : Ex F (upd F a (EXV (T.ca K e.c) d a)) := ex_upd (r.fnone na)
  have r1 := r.frozen (o := EXV (T.ca K e.c) d a) na (fun ps z => by unfold EXV at z; cases z)
  obtain ⟨_, ⟨h1, rfl⟩ | ⟨dd, us, rfl, h1, h2, h3, h4⟩⟩ := x
  · refine ⟨_, hex, r1, ?_⟩
    unfold XV.val
    rw [Rel, if_pos h1]
    refine ⟨a, [], rfl, ⟨?_, none, upd_same, .inl ⟨h1, rfl⟩⟩, .nil⟩
    rw [h1]; rfl
  · have ne : dd ≠ a := fun z => by rw [z, na] at h2; cases h2
    have q2 : upd H a (EXV (T.ca K e.c) (some dd) a) dd = some (.xd ((e.fs.map T.fd).zip us)) := by rw [upd_ne ne]; exact h2
    have q1 : upd F a (EXV (T.ca K e.c) (some dd) a) dd = none := by rw [upd_ne ne]; exact h1
    obtain ⟨ex2, r2⟩ := r1.more (fun _ z => by cases z) q2 (.inl q1) (.inr (notLiv_xd q2)) fun p hp z => by
      have y := (r1.hid p hp).1
      rw [z, q2] at y
      have w := r1.hidt p hp
      rw [← Option.some.inj y] at w
      cases w
    refine ⟨_, hex.trans ex2, r2, ?_⟩
    unfold XV.val
    rw [Rel]
    refine ⟨a, us, rfl, ⟨h3, some dd, by rw [upd_ne (Ne.symm ne), upd_same], .inr ⟨dd, rfl, upd_same⟩⟩, ?_⟩
    split
    · rename_i hn
      have : us = [] := by
        rw [hn] at h3
        exact List.length_eq_zero_iff.mp h3
      subst this
      exact .nil
    · exact h4.mono (Pl.refl R) (hex.trans ex2)
theorem gone_ok2 {i : Nat} {D : Ends} {E : XS} {o : OutS} (h : OkS T K R F (goneO i o) D E) : OkS T K R F o (gone i D) E00 := by
  cases o with
  | nx l S => exact fun R' F' H' τ p x r e => h R' F' H' _ p x r (e.setNone i)
  | brk l S => exact fun R' F' H' τ p x r e => h R' F' H' _ p x r (e.setNone i)
  | cnt l S => exact fun R' F' H' τ p x r e => h R' F' H' _ p x r (e.setNone i)
  | ret v S => exact h
  | err e l S => exact h.elim
  | bad => exact h.elim
end
section
variable {T : Tb} {X : Cx} {E : XS} {x n : Str} {cv : Value} {i k : Nat} {body suite : List Stmt} {b₀ : Stmt} {np pos pos' : Pos} {b su : DS} {tst : Nat → Option Bool}
theorem js_tryAs (i : Nat) (cg : Cg X E k) (nx : Names X x cv) (ht : ∀ c b, tst c = some b → PySem.W.exmOne X.K (.ref (T.ca X.K c)) cv = some b)
    (hB : ∀ (E1 : XS) (pn : List (Addr × Obj)) (xe : Value → Shared → Prop), Cg (X.tr pn xe) E1 k → JB T (X.tr pn xe) E1 body b) (hS : ∀ (a : Addr) (pn : List (Addr × Obj)), JB T (X.suite a pn) E00 (b₀ :: suite) su)
    (hi : X.N[i]? = some n := by rfl) (hl : X.env.kindOf n = some .local := by rfl) (hx : X.ex = [] := by rfl) (hs : X.stack = X.env :: X.outer := by rfl) (hf : X.env.frame = some X.env.locals := by rfl) :
    JS T X E (.Try body [.ExceptHandler (some (.Name x np)) (some n) (b₀ :: suite) pos'] [] [] pos) (dTryAs tst i b su) := by
  refine ps_imp (ps_held (tb := fun W D σ H => tS T X.K (fun τ cls d M => W cls d τ M) b D σ H) (ts := tS T X.K E00 su) (Wout := fun cls d τ M => E τ cls d M) hx hs hf cg.nd hi hl nx cg.takes
    (fun W pn xe tk ow => hB _ pn xe ⟨cg.calm, cg.nd, cg.room, cg.gd, tk, ow⟩) hS) fun D σ H ⟨R, F, l, S, r, re, h⟩ => ⟨R, F, l, S, r, re, ?_⟩
  unfold dTryAs at h
  cases hb : b l S with
  | err e l1 S1 =>
    rw [hb] at h
    intro R1 F1 H1 τ cls d p ex r1 e1 x1
    have h : OkS T X.K R F (match tst e.c with
      | some true => goneO i (su (l1.set i (some e.val)) S1)
      | some false => .err e l1 S1
      | none => .bad) D E := h
    have ec : cls = .ref (T.ca X.K e.c) := x1.1
    cases ht1 : tst e.c with
    | none => rw [ht1] at h; exact h.elim
    | some t =>
      rw [ht1] at h
      refine ⟨t, by rw [ec]; exact ht _ _ ht1, fun q => ?_, fun q => ?_⟩
      · subst q
        refine ⟨T.ca X.K e.c, ec, fun a na => ?_⟩
        obtain ⟨F2, ex2, r2, rv⟩ := caught_rel r1 na x1
        exact ⟨R1, F2, _, S1, r2, (e1.mono (Pl.refl R1) ex2).set i rv, gone_ok2 (OkS.mono p (ex.trans ex2) h)⟩
      · subst q
        exact h R1 F1 H1 τ cls d p ex r1 e1 x1
  | nx l1 S1 => rw [hb] at h; exact h
  | ret v S1 => rw [hb] at h; exact h
  | brk l1 S1 => rw [hb] at h; exact h
  | cnt l1 S1 => rw [hb] at h; exact h
  | bad => rw [hb] at h; exact h
end
/-! ### e.f, e an error that is held -/
def getE (T : Tb) (f : Nat) (x : PV) (S : Sto) : Out PV := match view x S with
  | some (.exn c fs, xs) => if T.okx c f = true ∧ fs.all (T.okx c) = true then (match fLook fs xs f with
    | some v => .ok v S
    | none => .bad) else .bad
  | _ => .bad
def dAttrE (T : Tb) (f : Nat) (a : DE) : DE := dUn (getE T f) a
def tFldE (K : PySem.W.Frag) (f : Str) (te : TE) : TE := fun σ H Q => te σ H fun x H1 => ∃ a C dd fs v, x = .ref a ∧ H1 a = some (EXV C (some dd) a) ∧ H1 dd = some (.xd fs) ∧ XfC K C ∧ PySem.W.findIn K (.ref C) f = some none ∧ fs.lookup f = some v ∧ Q v H1
section
variable {T : Tb} {X : Cx} {E : XS} {o : Expr} {dO : DE} {pos : Pos} {F : Str}
theorem pe_fldE {te : TE} (ho : L2.PE X o te) (hb : attributeBase o F X.env (eval o X.env) = eval o X.env := by rfl) : L2.PE X (.Attribute o F pos) (tFldE X.K F te) := by
  refine ⟨fun pins s σ H Q I h => ?_⟩
  refine attr_of hb (thn (ho.run pins s σ H _ I h) fun u s1 ⟨x, H1, I1, rx, a, C, dd, fs, v, ex, ha, hd, O, no, hv, q⟩ => ?_)
  subst ex
  obtain rfl : u = Value.ref a := rx
  have told : ObjOk X.prog X.w H1 s1.heap a (.ext fun h => ∃ (oe : Obj) (vs : Array Value), h.get? a = some oe ∧ Zc (.ref C) (some dd) oe ∧ oe.data = .fields vs) := I1.hok a _ ha
  obtain ⟨⟨oe, vs, e1, e2, e3⟩, _, _⟩ := told
  have hx : ObjOk X.prog X.w H1 s1.heap dd (.xd fs) := I1.hok dd _ hd
  obtain ⟨mA, hns, hr⟩ := hx
  obtain ⟨od, ho', hl⟩ := lookIn_ns hns
  obtain ⟨w, hw, rw'⟩ := RelO.some_of (v := v) (o := mA F) (by rw [← hv]; exact hr F)
  have J : PySem.W.InstAt s1.heap a oe C (some od) := ⟨e1, e2.1, by unfold PySem.W.notCls; rw [e3] <;> rfl, by rw [e2.2]; exact ho'⟩
  have found := PySem.W.findObj_own (od := od) O.hdC no rfl (by rw [hl, hw])
  exact PySem.HandSPX.exc_get I1.kIn J O.ga O.gg O.exC found (handed_of rw') ⟨v, H1, I1.tok _, rw', q⟩
theorem je_attrE (f : Nat) (O : TbOk T X.K) (ho : JE T X E o dO) (hf : T.fd f = F := by rfl) (hb : attributeBase o F X.env (eval o X.env) = eval o X.env := by rfl) : JE T X E (.Attribute o F pos) (dAttrE T f dO) := by
  subst hf
  refine pe_imp (pe_fldE ho hb) fun σ H Q ⟨R, Fz, l, S, r, e, h⟩ => ?_
  refine seqV (goV T X.K (E σ) Q) r e h fun x S1 R1 F1 H1 u p ex r1 rx e1 h1 => ?_
  have h1 : OkV T X.K R1 F1 (getE T f x S1) Q (E σ) := h1
  unfold getE at h1
  split at h1
  · rename_i c fs xs hv
    split at h1
    · rename_i hc
      obtain ⟨a, us, rfl, hsh, hl⟩ := view_rel r1 rx hv
      obtain ⟨hlen, d, ha, hd⟩ := hsh
      obtain ⟨hf, hcl, hno⟩ := O.okx c f hc.1
      split at h1
      · rename_i y hy
        rcases hd with ⟨e0, _⟩ | ⟨dd, rfl, hdd⟩
        · subst e0
          cases xs <;> cases hy
        · obtain ⟨w, q1, q2⟩ := fLook_rel O hf (fun g hg => (O.okx c g (List.all_eq_true.mp hc.2 g hg)).1) hl hy
          exact ⟨a, _, dd, _, w, rfl, ha, hdd, hcl, hno, q1, h1 R1 F1 H1 w (Pl.refl R1) (Ex.refl F1) r1 q2⟩
      · exact h1.elim
    · exact h1.elim
  · exact h1.elim
end
end Z
end
end
section
set_option Elab.async false
set_option linter.all false
set_option maxRecDepth 100000
set_option maxHeartbeats 1000000
/-! ZW: a lambda handed to a def that calls it. -/
noncomputable section
namespace Z
open PySem PySem.Spec PyProof.Rows L2

section
variable {T : Tb} {K : PySem.W.Frag} {R : Pl} {F H H1 : Hp} {S : Sto} {l : Loc} {σ : L2.St}
theorem Liv.of_eq {a : Addr} {k : Kd} {us : List V} (e : H1 a = H a) (h : Liv T K H a k us) : Liv T K H1 a k us := by
  cases k with
  | tup => exact h
  | scr => exact h
  | lst => exact e.trans h
  | dct t ks => cases t <;> exact ⟨h.1, h.2.imp fun _ z => ⟨z.1, e.trans z.2⟩⟩
  | ins c fs => exact ⟨h.1, h.2.imp fun _ z => e.trans z⟩
  | exn c fs => exact h
  | clo a0 c0 q0 us0 => exact h
/-- all but the tables stays -/
theorem Rep.tables (r : Rep T K R F S H) (e : LamX.ExtN H H1) (t : LamX.Tabs (T.tabs K) H1) : Rep T K R F S H1 where
  ex := fun a o h => by
    have n := r.ntb a
    rcases r.ex a o h with q | ⟨hd, ob, q⟩
    · exact .inl (e a o q fun ps z => n ps (by rw [h, z]))
    · exact .inr ⟨hd, ob, e a _ q fun ps z => nomatch z⟩
  len := r.len
  nd := r.nd
  there := fun a ha => by
    obtain ⟨h1, h2⟩ := r.there a ha
    cases q : H a with
    | none => exact absurd q h1
    | some o =>
      rw [e a o q fun ps z => h2 ps (by rw [q, z])]
      exact ⟨fun z => (nomatch z), fun ps z => h2 ps (by rw [q, z])⟩
  hidt := r.hidt
  ntb := r.ntb
  tabs := t
  hidnd := r.hidnd
  hid := fun p hp => by
    obtain ⟨h1, h2, h3⟩ := r.hid p hp
    exact ⟨e _ _ h1 (fun ps z => by have q := r.hidt p hp; rw [z] at q; cases q), h2, h3⟩
  live := fun n a k xs h1 h2 => by
    obtain ⟨h3, us, h4, h5⟩ := r.live n a k xs h1 h2
    obtain ⟨u, q1, q2⟩ := h4.plain
    exact ⟨h3, us, h4.of_eq ((e a u q1 (fun ps z => by rw [z] at q2; cases q2)).trans q1.symm), h5⟩
/-- a code object is known from now on -/
theorem Rep.coded (r : Rep T K R F S H) {c : Addr} {q : Str} (hc : H c = some (LamX.CodeO c q)) : ∃ F', Ex F F' ∧ F' c = some (LamX.CodeO c q) ∧ Rep T K R F' S H := by
  cases e : F c with
  | some o =>
    rcases r.ex c o e with z | ⟨_, ob, z⟩
    · rw [hc] at z
      cases z
      exact ⟨F, Ex.refl F, e, r⟩
    · rw [hc] at z
      unfold LamX.CodeO at z
      cases z
  | none =>
    have nl : ∀ k us, ¬ Liv T K H c k us := fun k us h => by
      obtain ⟨u, h1, h2⟩ := h.plain
      rw [hc] at h1
      rw [← Option.some.inj h1] at h2
      unfold LamX.CodeO at h2
      cases h2
    obtain ⟨ex, r2⟩ := r.more (fun ps z => by unfold LamX.CodeO at z; cases z) hc (.inl e) (.inr nl) fun p hp z => by
      have h1 := (r.hid p hp).1
      rw [z, hc] at h1
      have h2 := r.hidt p hp
      rw [← Option.some.inj h1] at h2
      unfold LamX.CodeO at h2
      cases h2
    exact ⟨_, ex, upd_same, r2⟩
/-- the names' values as one list -/
theorem RelE.pack : ∀ {l : Loc} {σ : L2.St}, RelE T K R F l σ → ∃ us, RelL T K R F (l.filterMap id) us ∧ ∀ R' F', RelL T K R' F' (l.filterMap id) us → RelE T K R' F' l σ
  | [], σ, h => ⟨[], .nil, fun _ _ _ => ⟨h.len, fun i v q => by simp at q⟩⟩
  | none :: l, σ, h => by
    cases σ with
    | nil => have := h.len; cases this
    | cons s σ =>
      have h2 : RelE T K R F l σ := ⟨by simpa using h.len, fun i v q => by have := h.at_ (i + 1) v (by simpa using q); simpa using this⟩
      obtain ⟨us, a, b⟩ := RelE.pack h2
      refine ⟨us, a, fun R' F' q => ⟨by simpa using (b R' F' q).len, fun i v e => ?_⟩⟩
      cases i with
      | zero => simp at e
      | succ i => simpa using (b R' F' q).at_ i v (by simpa using e)
  | some x :: l, σ, h => by
    cases σ with
    | nil => have := h.len; cases this
    | cons s σ =>
      have h2 : RelE T K R F l σ := ⟨by simpa using h.len, fun i v q => by have := h.at_ (i + 1) v (by simpa using q); simpa using this⟩
      obtain ⟨us, a, b⟩ := RelE.pack h2
      obtain ⟨u, e1, e2⟩ := h.at_ 0 x rfl
      refine ⟨u :: us, .cons e2 a, fun R' F' q => ?_⟩
      have q : RelL T K R' F' (x :: l.filterMap id) (u :: us) := q
      rw [RelL] at q
      obtain ⟨u', r', e3, q1, q2⟩ := q
      cases e3
      refine ⟨by simpa using (b R' F' q2).len, fun i v e => ?_⟩
      cases i with
      | zero =>
        simp at e e1
        subst e e1
        exact ⟨u, rfl, q1⟩
      | succ i => simpa using (b R' F' q2).at_ i v (by simpa using e)
end
/-- the thing behind slot i is called: it is x0, and that comes to tl -/
def dCallT (x0 : PV) (i : Nat) (tl : Sto → Out PV) : DE := fun l S => if l[i]? = some (some x0) then tl S else .bad
/-- D is handed a lambda of the body db: it makes nothing of which thing the lambda is -/
def dLam (D : PV → (Sto → Out PV) → Sto → Out PV) (db : DE) : DE := fun l S => @dite _ (∃ o, ∀ x0, D x0 (db l) S = o) (Classical.propDecidable _) (fun h => Classical.choose h) fun _ => .bad
theorem dLam_eq {D : PV → (Sto → Out PV) → Sto → Out PV} {db : DE} {l : Loc} {S : Sto} {o : Out PV} (h : ∀ x0, D x0 (db l) S = o) : dLam D db l S = o := by
  unfold dLam
  rw [dif_pos ⟨o, h⟩]
  have q : ∃ o, ∀ x0, D x0 (db l) S = o := ⟨o, h⟩
  have := Classical.choose_spec q .non
  exact this.symm.trans (h .non)
theorem dLam_of {D : PV → (Sto → Out PV) → Sto → Out PV} {db : DE} {l : Loc} {S : Sto} : dLam D db l S = .bad ∨ ∀ x0, D x0 (db l) S = dLam D db l S := by
  by_cases q : ∃ o, ∀ x0, D x0 (db l) S = o
  · refine .inr fun x0 => ?_
    unfold dLam
    rw [dif_pos q]
    exact Classical.choose_spec q x0
  · refine .inl ?_
    unfold dLam
    rw [dif_neg q]
/-- a's call in the def that got it -/
def CallT (T : Tb) (Y : Cx) (a : Str) (x0 : PV) (tl : Sto → Out PV) (j : Nat) : Prop :=
  ∀ (E1 : XS) (pn : List (Addr × Obj)) (xe : Value → Shared → Prop) (p1 p2 : Pos), Cg (Y.tr pn xe) E1 j → JE T (Y.tr pn xe) E1 (.Call (.Name a p1) [] [] p2) (dCallT x0 0 tl)
/-- the def x, handed one thing, which it calls -/
structure LamD (T : Tb) (P : Program) (w : World) (K : PySem.W.Frag) (mg : Str → Option Value) (base : Heap) (x : Str) (n : Nat) (b : PV → (Sto → Out PV) → DS) : Prop where
  ex : ∃ (g : Addr) (fd : FuncData) (a : Str) (N : List Str) (body : List Stmt) (sc : Scope) (params : Arguments), mg x = some (.ref g) ∧ FunD K x x params body sc [] [] g fd ∧ Binds K fd [a] [] ∧ FnScope N [a] sc ∧ N.length = n ∧ N[0]? = some a ∧ Vis sc a ∧
    (a == ("__debug__" : Str)) = false ∧ (a == ("__classdict__" : Str)) = false ∧
    ∀ (x0 : PV) (tl : Sto → Out PV) (j : Nat) (cdv : Value) (A : Around) (outer : List Env) (s : Shared) (H : Hp) (E : XK), Cg (cxOf (L2.CX P w) P w K mg base N x sc g cdv A outer s H E) (fun _ => E) j →
      CallT T (cxOf (L2.CX P w) P w K mg base N x sc g cdv A outer s H E) a x0 tl j → JB T (cxOf (L2.CX P w) P w K mg base N x sc g cdv A outer s H E) (fun _ => E) body (b x0 tl)
/-- where a lambda stands: its def's code at c, the table at P -/
structure LamAt (T : Tb) (X : Cx) : Prop where
  ex : ∃ c P, LamX.TabB X.base X.mg c P ∧ X.env.code = .ref c ∧ (P, X.env.qual ++ "<lambda>") ∈ T.tabs X.K ∧ ∀ p ∈ T.tabs X.K, p.1 = P → p.2 = X.env.qual ++ "<lambda>"
section
variable {T : Tb} {X : Cx} {E : XS} {x : Str} {n k kb : Nat} {b : PV → (Sto → Out PV) → DS} {db : DE} {body : Expr} {params : Arguments} {scope : Scope} {p lpos pos : Pos}
theorem lam_cg {A : Around} {outer : List Env} {s : Shared} {H : Hp} {E1 : XK} {f c' : Addr} (nd : X.N.Nodup) (rm : Room kb (A.deeper (LamX.lamEnv X scope s.heap.objs.size f c'))) (gd : A.guards = some []) : Cg (LamX.lamCx X A outer s H E1 scope f c') (fun _ => E1) kb :=
  ⟨rfl, nd, rm, gd, takes_of rfl rfl rfl rfl, passes_of rfl⟩
theorem je_lam (cg : Cg X E k) (D : LamD T X.prog X.w X.K X.mg X.base x n b) (L : LamX.LamS X.env.scope scope) (at_ : LamAt T X)
    (hb : ∀ (A : Around) (outer : List Env) (s : Shared) (H : Hp) (E1 : XK) (f c' : Addr), Cg (LamX.lamCx X A outer s H E1 scope f c') (fun _ => E1) kb → JE T (LamX.lamCx X A outer s H E1 scope f c') (fun _ => E1) body db)
    (hk : kb + 2 ≤ k := by decide) (hg : Gl X x := by rfl) (hdef : defaultsOf params X.env = ([], []) := by rfl)
    (hbind : ∀ (q : Str) (cl : List (Str × Addr)) (pm cv ctv : Value), bindArgs (PySem.W.kla_fn "<lambda>" q params body scope cl pm cv ctv) ⟨[], []⟩ = pure [] := by intros; rfl) (hdb : (x == ("__debug__" : Str)) = false := by decide) :
    JE T X E (.Call (.Name x p) [.Lambda params body scope lpos] [] pos) (dLam (fun x0 tl S => dDef 1 n (b x0 tl) [x0] S) db) := by
  obtain ⟨g, fd, a, N, gb, sc, gp, hm, G, bi, Sg, hn, hN, va, d1, d2, gbody⟩ := D.ex
  obtain ⟨c, P, TB, hcode, hmem, huniq⟩ := at_.ex
  obtain ⟨oc, od, dV, kV, doc, pm, an, cdv, ct, osl, rfl, lk, hcd, _, _⟩ := G.ex
  have rm := cg.room.mono hk
  refine ⟨fun pins s σ H Q I ⟨R, F, l, S, r, re, h⟩ => ?_⟩
  refine wpAny_Call_Name_kw (ld_glob I hg hm (PySem.W.callWith_K (h₀ := X.base) I.ok.mod.kin G.kp ?_ (by rfl) (by rfl)) hdb)
  show wpAny _ _ (spliced ((false, eval (.Lambda params body scope lpos) X.env) :: backTo pos (starEach [] X.env))) _ _ s
  refine Calls.spliced_cons (LamX.lam_make2 I TB hcode hmem huniq r.tabs hdef (L.has I.ok) fun f c' pmv ctv H1 s1 I1 eN T1 hf hfn hfr hco => Calls.spliced_nil ⟨I1.kIn, ?_⟩)
  -- what is known when the def is entered
  obtain ⟨F1, ex1, hF1, r1⟩ := (r.tables eN T1).coded hco
  have re1 := re.mono (Pl.refl R) ex1
  obtain ⟨us, pk, unpk⟩ := re1.pack
  let x0 : PV := .nd (.clo f c' (X.env.qual ++ "<lambda>") us) (l.filterMap id)
  have rx0 : Rel T X.K R F1 x0 (.ref f) := by
    show Rel T X.K R F1 (.nd (.clo f c' (X.env.qual ++ "<lambda>") us) (l.filterMap id)) (.ref f)
    rw [Rel]
    exact ⟨f, us, rfl, ⟨rfl, rfl, hF1⟩, pk⟩
  have h0 : OkV T X.K R F (dDef 1 n (b x0 (db l)) [x0] S) Q (E σ) := by
    rcases dLam_of (D := fun x0 tl S => dDef 1 n (b x0 tl) [x0] S) (db := db) (l := l) (S := S) with z | z
    · rw [z] at h; exact h.elim
    · have zz : dDef 1 n (b x0 (db l)) [x0] S = dLam (fun x0 tl S => dDef 1 n (b x0 tl) [x0] S) db l S := z x0
      rw [zz]; exact h
  have prom : spOf T X.K [a].length (dDef [a].length N.length (b x0 (db l))) [.ref f] H1 Q (E σ) :=
    ⟨rfl, R, F1, S, [x0], r1, .cons rx0 .nil, by rw [hn]; exact OkV.mono (Pl.refl R) ex1 h0⟩
  have ran : codeAny (model X.prog X.w) X.A (.call (.ref g) ⟨[.ref f], []⟩) (CR (L2.CX X.prog X.w) X.stack X.prog X.w H1 s1 Q (E σ)) s1 := by
    refine LamX.run_ofS (k := kb + 1) (N := N) (ps := [a]) (us := [.ref f]) (vs := [.ref f]) lk hcd Sg rm I1.env0 (bi s1 [.ref f] I1.kIn rfl) (.cons rfl .nil) rfl fun rmg => ⟨_, ?_, def_ok prom⟩
    have cgY : Cg (cxOf (L2.CX X.prog X.w) X.prog X.w X.K X.mg X.base N x sc g cdv X.A X.stack s1 H1 (E σ)) (fun _ => E σ) (kb + 1) := ⟨rfl, Sg.nd, rmg, cg.gd, takes_of rfl rfl rfl rfl, passes_of rfl⟩
    refine gbody x0 (db l) (kb + 1) cdv X.A X.stack s1 H1 (E σ) cgY ?_
    -- the lambda's own call
    intro E1 pn xe p1 p2 cgZ
    refine ⟨fun pinsZ sZ τ M QZ IZ ⟨R2, F2, l2, S2, r2, re2, hz⟩ => ?_⟩
    by_cases hl : l2[0]? = some (some x0)
    · have hz2 : OkV T X.K R2 F2 (db l S2) QZ (E1 τ) := by
        have e : dCallT x0 0 (db l) l2 S2 = db l S2 := by unfold dCallT; exact if_pos hl
        rw [e] at hz; exact hz
      obtain ⟨u, hu, ru⟩ := re2.at_ 0 x0 hl
      rw [Rel] at ru
      obtain ⟨f', us', rfl, ⟨ef, eu, hc2⟩, pk2⟩ := ru
      subst ef eu
      have reB : RelE T X.K R2 F2 l σ := unpk R2 F2 pk2
      refine wpAny_Call_Name_kw (thn ((pe_var (pos := p1) (i := 0) hN va d1 d2).run pinsZ sZ τ M (fun v M' => v = .ref f' ∧ M' = M) IZ ⟨.ref f', hu, rfl, rfl⟩) fun uv s2 ⟨v, M2, I2, rv, ev, eM⟩ => ?_)
      subst ev eM
      obtain rfl : uv = Value.ref f' := rv
      have there : s2.heap.get? f' = some (PySem.W.kla_obj "<lambda>" (X.env.qual ++ "<lambda>") params body scope (cloFrom X.env.cells scope.names []) pmv c' ctv) := I2.base.keep f' _ hf hfn hfr (fun z => nomatch (show f' ∈ ([] : List Addr) from z))
      refine PySem.W.callWith_F0 ⟨_, _, _, _, there⟩ ?_
      have unb : Un (frs X.stack) [] H1 M2 s1.heap s2.heap := I2.base
      have hcM : M2 c' = some (LamX.CodeO c' (X.env.qual ++ "<lambda>")) := r2.ex.at_ hc2
      have told : ObjOk X.prog X.w M2 s2.heap c' (.ext fun h => ∃ (oc : Obj) (vs : Array Value) (t : Tok), h.get? c' = some oc ∧ oc.data = .fields vs ∧ vs[1]? = some (.str (X.env.qual ++ "<lambda>") t)) := I2.hok c' _ hcM
      obtain ⟨⟨ocd, vsc, tc, q1, q2, q3⟩, _, _⟩ := told
      have called : codeAny (model X.prog X.w) (X.A.deeper (envOfC x sc s1.heap.objs.size g cdv)) (.call (.ref f') ⟨[], []⟩)
          (CR (L2.CX X.prog X.w) (envOfC x sc s1.heap.objs.size g cdv :: X.stack) X.prog X.w M2 s2 QZ (E1 τ)) s2 := by
        have rmZ : Room (kb + 1) (X.A.deeper (envOfC x sc s1.heap.objs.size g cdv)) := cgZ.room
        refine PySem.W.kla_callFunE rmZ.depth there rfl L.co L.gen rfl ⟨c', ocd, vsc, tc, rfl, q1, q2, q3⟩ ?_
        rw [hbind]
        refine wpAny_pure (wpAny_newFunctionEnv (fun y hy => (L.own y hy).2) (fun y hy => absurd hy (by simp)) (fun h₁ hns hsb => ⟨I2.nolimit.fresh _ hsb, ?_⟩) L.kind)
        show codeAny _ _ (.expr body (LamX.lamEnv X scope s2.heap.objs.size f' c')) _ _
        have kp : ∀ b o, s2.heap.get? b = some o → h₁.get? b = some o := fun b o e => hsb.extBut b o (Nat.ne_of_lt (Heap.lt_size e)) (Heap.get?_push_of_some _ e)
        have J : Inv (LamX.lamCx X (X.A.deeper (envOfC x sc s1.heap.objs.size g cdv)) (envOfC x sc s1.heap.objs.size g cdv :: X.stack) s2 M2 (E1 τ) scope f' c') [] σ M2 { s2 with heap := h₁, toks := s2.toks + ([] : List (Str × Value)).length } :=
          LamX.lam_start2 I1 L I2.env0 rmZ.hd unb hns kp
        have cgB : Cg (LamX.lamCx X (X.A.deeper (envOfC x sc s1.heap.objs.size g cdv)) (envOfC x sc s1.heap.objs.size g cdv :: X.stack) s2 M2 (E1 τ) scope f' c') (fun _ => E1 τ) kb := lam_cg cg.nd (rmZ.deeper _) cg.gd
        refine PySem.W.kla_codeExpr (wpAny_mono ((hb _ _ s2 M2 (E1 τ) f' c' cgB).run [] _ σ M2 QZ J ⟨R2, F2, l, S2, r2, reB, hz2⟩) (fun v s' hq => ?_) fun e s' hq => hq)
        obtain ⟨w', M3, J3, rw3, q⟩ := hq
        exact ⟨w', M3, J3.os, J3.bare, J3.base, J3.hok, rw3, q⟩
      refine wpAny_call (codeAny_mono called fun z s' hq => ?_)
      cases z with
      | error e => exact cgZ.pass pinsZ τ M2 s2 e s' I2 hq
      | ok fl =>
        cases fl with
        | ret u => exact I2.after hq
        | next => exact False.elim hq
        | brk => exact False.elim hq
        | cont => exact False.elim hq
    · have e : dCallT x0 0 (db l) l2 S2 = .bad := by unfold dCallT; exact if_neg hl
      rw [e] at hz; exact hz.elim
  refine wpAny_call (codeAny_mono ran fun z s2 hq => ?_)
  cases z with
  | error e => exact cg.pass pins σ H1 s1 e s2 I1 hq
  | ok fl =>
    cases fl with
    | ret u => exact I1.after hq
    | next => exact False.elim hq
    | brk => exact False.elim hq
    | cont => exact False.elim hq
end
end Z
end
end
section
set_option Elab.async false
set_option linter.all false
set_option maxRecDepth 100000
set_option maxHeartbeats 1000000
/-! ZU: texts: join, index, int and str of them; repr of an empty dict; displays of constants; keywords in any order. -/
noncomputable section
namespace Z
open PySem PySem.Spec PyProof.Rows L2

/-! ### sep.join(xs), text.index(sign) -/
def asSs : List PV → Option (List Str)
  | [] => some []
  | .str a :: r => (asSs r).map (a :: ·)
  | _ => none
theorem asSs_map (zs : List Str) : asSs (zs.map PV.str) = some zs := by
  induction zs with
  | nil => rfl
  | cons a r ih => show (asSs (r.map PV.str)).map (a :: ·) = _; rw [ih]; rfl
theorem asSs_rel {T : Tb} {K : PySem.W.Frag} {R : Pl} {F : Hp} : ∀ {xs : List PV} {us : List V} {zs : List Str}, RelL T K R F xs us → asSs xs = some zs → us = zs.map V.str
  | [], us, zs, h, e => by
    rw [RelL] at h
    cases e
    exact h
  | x :: xs, us, zs, h, e => by
    rw [RelL] at h
    obtain ⟨u, r, rfl, h1, h2⟩ := h
    cases x with
    | str a =>
      rw [asSs, Option.map_eq_some_iff] at e
      obtain ⟨ws, e1, rfl⟩ := e
      rw [rel_str h1, asSs_rel h2 e1]; rfl
    | _ => cases e
/-- a list or a tuple as it stands -/
def seqOf (x : PV) (S : Sto) : Option (List PV) := match view x S with
  | some (.lst, xs) => some xs
  | some (.scr, xs) => some xs
  | some (.tup, xs) => some xs
  | _ => none
theorem seqOf_rel {T : Tb} {K : PySem.W.Frag} {R : Pl} {F H : Hp} {S : Sto} (r : Rep T K R F S H) {x : PV} {u : V} (h : Rel T K R F x u) {ys : List PV} (e : seqOf x S = some ys) : ∃ a us, u = .ref a ∧ (SqL K H a us ∨ SqT K H a us) ∧ RelL T K R F ys us := by
  unfold seqOf at e
  split at e
  · rename_i xs hv
    cases e
    obtain ⟨a, us, h1, h2, h3⟩ := view_rel r h hv
    exact ⟨a, us, h1, .inl ((shp_rd h2).1 (.inl rfl)), h3⟩
  · rename_i xs hv
    cases e
    obtain ⟨a, us, h1, h2, h3⟩ := view_rel r h hv
    exact ⟨a, us, h1, .inl ((shp_rd h2).1 (.inr rfl)), h3⟩
  · rename_i xs hv
    cases e
    obtain ⟨a, us, h1, h2, h3⟩ := view_rel r h hv
    exact ⟨a, us, h1, .inr ((shp_rd h2).2 rfl), h3⟩
  · cases e
def joinP (x : PV) (ys : List PV) (S : Sto) : Out PV := match x, ys with
  | .str a, [y] => (match (seqOf y S).bind asSs with
    | some zs => if (zs.map (·.length)).sum + zs.length * a.length ≤ 16777216 then .ok (.str (Txt.join a zs)) S else .bad
    | none => .bad)
  | _, _ => .bad
def sidxP (x : PV) (ys : List PV) (S : Sto) : Out PV := match x, ys with
  | .str a, [.str b] => (match Builtin.Str.occurrences a b 0 a.length 1 with
    | i :: _ => .ok (.int (i : Nat)) S
    | [] => .bad)
  | _, _ => .bad
section
variable {T : Tb} {X : Cx} {E : XS} {o e : Expr} {dO d : DE} {apos pos : Pos}
theorem mz_join {K : PySem.W.Frag} : MetZ T K joinP (fun x xs H Q => ∃ a p, ∃ ys : List Str, x = .str a ∧ xs = [.ref p] ∧ (SqL K H p (ys.map V.str) ∨ SqT K H p (ys.map V.str)) ∧ (ys.map (·.length)).sum + ys.length * a.length ≤ 16777216 ∧ Q (.str (Txt.join a ys)) H) := by
  intro E R F H S x xs u us Q r rx rxs h
  unfold joinP at h
  split at h
  · rename_i a y
    obtain ⟨w, rfl, ry⟩ := rel1 rxs
    split at h
    · rename_i zs hz
      rw [Option.bind_eq_some_iff] at hz
      obtain ⟨ys, h1, h2⟩ := hz
      split at h
      · rename_i hl
        obtain ⟨p, ws, rfl, hs, hr⟩ := seqOf_rel r ry h1
        have ew := asSs_rel hr h2
        subst ew
        exact ⟨a, p, zs, rel_str rx, rfl, hs, hl, PostV.here r (by rw [Rel]) h⟩
      · exact h.elim
    · exact h.elim
  · exact h.elim
theorem mz_sidx {K : PySem.W.Frag} : MetZ T K sidxP (fun x xs H Q => ∃ a b i rest, x = .str a ∧ xs = [.str b] ∧ Builtin.Str.occurrences a b 0 a.length 1 = i :: rest ∧ Q (.int (i : Nat)) H) := by
  intro E R F H S x xs u us Q r rx rxs h
  unfold sidxP at h
  split at h
  · rename_i a b
    obtain ⟨w, rfl, ry⟩ := rel1 rxs
    split at h
    · rename_i i rest hi
      rw [rel_str ry]
      exact ⟨a, b, i, rest, rel_str rx, rfl, hi, PostV.here r (by rw [Rel]) h⟩
    · exact h.elim
  · exact h.elim
theorem je_join (ho : JE T X E o dO) (he : JE T X E e d) (hbase : attributeBase o "join" X.env (eval o X.env) = eval o X.env := by rfl)
    (hfew : ((backTo pos (starEach [e] X.env)).all (fun x => !x.1) && (backToKw pos (keywordEach [] X.env)).all (fun x => x.1.isSome) && decide (([e] : List Expr).length + ([] : List Keyword).length + (if ([] : List Keyword).isEmpty then 0 else 1) < 30)) = true := by rfl)
    (hline : (apos.endLine == pos.line) = true := by rfl) (hs : starEach [e] X.env = (false, eval e X.env) :: starEach [] X.env := by rfl) (hpl : (backTo pos (starEach [] X.env)).any (·.1) = false := by rfl) :
    JE T X E (.Call (.Attribute o "join" apos) [e] [] pos) (dMet "str" joinP dO (dCons d dNil)) :=
  je_met PySem.F.plainAttrs_str PySem.F.slot_str_join PySem.F.type_str_join mt_join mz_join ho (ja_cons he ja_nil hs) hbase hfew hline hs hpl
theorem je_sindex (ho : JE T X E o dO) (he : JE T X E e d) (hbase : attributeBase o "index" X.env (eval o X.env) = eval o X.env := by rfl)
    (hfew : ((backTo pos (starEach [e] X.env)).all (fun x => !x.1) && (backToKw pos (keywordEach [] X.env)).all (fun x => x.1.isSome) && decide (([e] : List Expr).length + ([] : List Keyword).length + (if ([] : List Keyword).isEmpty then 0 else 1) < 30)) = true := by rfl)
    (hline : (apos.endLine == pos.line) = true := by rfl) (hs : starEach [e] X.env = (false, eval e X.env) :: starEach [] X.env := by rfl) (hpl : (backTo pos (starEach [] X.env)).any (·.1) = false := by rfl) :
    JE T X E (.Call (.Attribute o "index" apos) [e] [] pos) (dMet "str" sidxP dO (dCons d dNil)) :=
  je_met PySem.F.plainAttrs_str PySem.F.slot_str_index PySem.F.type_str_index mt_sindex mz_sidx ho (ja_cons he ja_nil hs) hbase hfew hline hs hpl
end
/-! ### int(x), str(x), repr(x) -/
def intX (xs : List PV) (S : Sto) : Out PV := match xs with
  | [.str a] => (match PySem.intText? a with
    | some n => if a.length ≤ 640 then .ok (.int n) S else .bad
    | none => .bad)
  | xs => intP xs S
abbrev rIntX : List V → Hp → VK → Prop := fun xs H Q => ((∃ i, xs = [.int i] ∧ Q (.int i) H) ∨ ∃ k, xs = [.bl k] ∧ Q (.int (if k then 1 else 0)) H) ∨ (∃ a n, xs = [.str a] ∧ PySem.intText? a = some n ∧ a.length ≤ 640 ∧ Q (.int n) H)
theorem cr_int {X : Cx} : CallR X (.type "int") rIntX := CallR.or call_int1 call_int_str
theorem cz_intX {T : Tb} {K : PySem.W.Frag} : CalZ T K intX rIntX := by
  intro E R F H S xs us Q r rx h
  unfold intX at h
  split at h
  · rename_i a
    obtain ⟨u, rfl, r1⟩ := rel1 rx
    rw [rel_str r1]
    split at h
    · rename_i n hn
      split at h
      · rename_i hl
        exact .inr ⟨a, n, rfl, hn, hl, PostV.here r (by rw [Rel]) h⟩
      · exact h.elim
    · exact h.elim
  · exact .inl (cz_int E R F H S _ us Q r rx h)
def strX (xs : List PV) (S : Sto) : Out PV := match xs with
  | [.str a] => .ok (.str a) S
  | [.int i] => if i.natAbs.log2 < 1920 then .ok (.str (toString i)) S else .bad
  | _ => .bad
abbrev rStrX : List V → Hp → VK → Prop := fun xs H Q => (∃ i, xs = [.int i] ∧ i.natAbs.log2 < 1920 ∧ Q (.str (toString i)) H) ∨ (∃ a, xs = [.str a] ∧ Q (.str a) H)
theorem cr_str {X : Cx} : CallR X (.type "str") rStrX := CallR.or call_str_int SkE.call_str_str
theorem cz_str {T : Tb} {K : PySem.W.Frag} : CalZ T K strX rStrX := by
  intro E R F H S xs us Q r rx h
  unfold strX at h
  split at h
  · rename_i a
    obtain ⟨u, rfl, r1⟩ := rel1 rx
    rw [rel_str r1]
    exact .inr ⟨a, rfl, PostV.here r (by rw [Rel]) h⟩
  · rename_i i
    obtain ⟨u, rfl, r1⟩ := rel1 rx
    rw [rel_int r1]
    split at h
    · rename_i hl
      exact .inl ⟨i, rfl, hl, PostV.here r (by rw [Rel]) h⟩
    · exact h.elim
  · exact h.elim
/-- an empty dict is shown, too -/
def reprX (xs : List PV) (S : Sto) : Out PV := match xs with
  | [x] => (match view x S with
    | some (.dct _ [], _) => .ok (.str (PyData.dict []).shown) S
    | _ => reprP [x] S)
  | _ => .bad
def rReprD : List V → Hp → VK → Prop := fun xs H Q => ∃ a, xs = [.ref a] ∧ (Rd H a (.dK []) ∨ Rd H a (.dT [])) ∧ Q (.str (PyData.dict []).shown) H
theorem pairs_nil {P : Program} {w : World} {κ : Type} [DecidableEq κ] {knd : PySem.KeyKind P w κ} {es : List DictEntry} (h : Pairs knd es []) : es = [] := by cases h; rfl
theorem call_reprD {X : Cx} (gd : X.A.guards = some []) (hu : X.A.units + 64 < cLine) : CallR X (.builtin "repr") rReprD := by
  rintro pins s σ H xs us Q I r ⟨a, rfl, hd, q⟩
  obtain ⟨u, rfl, rx⟩ := vals1 r
  obtain rfl : u = Value.ref a := rx
  have em : (a == sysModules) = false ∧ ∃ o es n, s.heap.get? a = some o ∧ o.cls = .type "dict" ∧ o.data = .dict es n ∧ es.toList = [] := by
    rcases hd with hd | hd
    · obtain ⟨_, hs, vs, rel, o, es, n, h1, ⟨h2, _⟩, h3, _, h4, _⟩ := dk_rd I.hok hd
      cases rel
      exact ⟨hs, o, es, n, h1, h2, h3, pairs_nil h4⟩
    · obtain ⟨_, hs, ys, rel, o, es, n, h1, ⟨h2, _⟩, h3, h4, _⟩ := dt_rd I.hok hd
      cases rel
      exact ⟨hs, o, es, n, h1, h2, h3, by simpa using h4⟩
  obtain ⟨hs, o, es, n, h1, h2, h3, h4⟩ := em
  have rd : Reads s.heap (.ref a) (.dict []) (a :: [] ++ []) := .dict h1 h2 h3 (by rw [h4]; exact .nil) (by rw [h4]; exact .nil)
  have dp : (PyData.dict []).depth ≤ 20 := by decide +kernel
  refine repr_of_reads' (as := a :: [] ++ []) rd (by decide +kernel) (fun _ z => ?_) gd (by omega) (fun b o e => e) (fun h' u tk k => ⟨.str _, H, I.kept k, ⟨_, rfl⟩, q⟩) (sz16 (by decide +kernel))
  have z : sysModules = a := by simpa using z
  rw [z] at hs
  simp at hs
theorem cr_reprX {X : Cx} (gd : X.A.guards = some []) (hu : X.A.units + 64 < cLine) : CallR X (.builtin "repr") (fun xs H Q => rReprD xs H Q ∨ rReprZ X.K xs H Q) := CallR.or (call_reprD gd hu) (cr_repr gd hu)
theorem cz_reprX {T : Tb} {K : PySem.W.Frag} : CalZ T K reprX (fun xs H Q => rReprD xs H Q ∨ rReprZ K xs H Q) := by
  intro E R F H S xs us Q r rx h
  unfold reprX at h
  split at h
  · rename_i x
    split at h
    · rename_i t ys hv
      obtain ⟨u, rfl, r1⟩ := rel1 rx
      obtain ⟨a, us, rfl, hs, hl⟩ := view_rel r r1 hv
      cases t with
      | false =>
        obtain ⟨_, kk, e, hd⟩ := hs
        cases kk with
        | nil => exact .inl ⟨a, rfl, .inl hd, PostV.here r (by rw [Rel]) h⟩
        | cons _ _ => cases e
      | true =>
        obtain ⟨_, kk, e, hd⟩ := hs
        cases kk with
        | nil => exact .inl ⟨a, rfl, .inr hd, PostV.here r (by rw [Rel]) h⟩
        | cons _ _ => cases e
    · exact .inr (cz_repr E R F H S _ us Q r rx h)
  · exact h.elim

/-! ### {k: v, ..} of constants -/
def dDispC (ks : List Key) (vs : List PV) : DE := fun _ S => .ok (.nd (.dct false (ks.map PK.k)) vs) S
theorem putK_out {k : Key} {v : V} {kvs : List (Key × V)} (h : k ∉ kvs.map (·.1)) : putK kvs k v = kvs ++ [(k, v)] := by
  unfold putK
  rw [if_neg]
  intro z
  obtain ⟨p, hp, e⟩ := List.any_eq_true.mp z
  exact h (List.mem_map.mpr ⟨p, hp, of_decide_eq_true e⟩)
theorem mergeK_nodup : ∀ {more kvs : List (Key × V)}, ((kvs ++ more).map (·.1)).Nodup → mergeK kvs more = kvs ++ more
  | [], kvs, _ => by rw [List.append_nil]; rfl
  | (k, v) :: r, kvs, h => by
    have hk : k ∉ kvs.map (·.1) := fun z => by
      rw [List.map_append, List.nodup_append] at h
      exact h.2.2 k z k List.mem_cons_self rfl
    have e : kvs ++ (k, v) :: r = (kvs ++ [(k, v)]) ++ r := by rw [List.append_assoc]; rfl
    show mergeK (putK kvs k v) r = _
    rw [putK_out hk, e]
    rw [e] at h
    exact mergeK_nodup h
section
variable {T : Tb} {X : Cx} {E : XS} {pos : Pos}
theorem je_dispC {keys : List (Option Expr)} {values : List Expr} (ks : List Key) (vs : List PV) (us : List V) (h : PPs X pos keys values ((ks.zip us).map fun p => (tC (kV p.1), tC p.2)))
    (hall : keys.all (·.isSome) = true := by rfl) (hl : keys.length = values.length := by rfl) (h0 : keys ≠ [] := by exact fun z => nomatch z) (h15 : keys.length ≤ 15 := by decide)
    (hn : ks.Nodup := by decide) (hl2 : us.length = ks.length := by rfl) (h15' : ks.length ≤ 15 := by decide) (ha : vs.map PV.at0 = us.map some := by rfl) : JE T X E (.Dict keys values pos) (dDispC ks vs) := by
  refine pe_imp (pe_disp h hall hl h0 h15) fun σ H Q ⟨R, F, l, S, r, re, q⟩ p hp => ?_
  have walk : ∀ (L : List (Key × V)) (H : Hp) (C : List (V × V) → Hp → Prop), C (L.map fun p => (kV p.1, p.2)) H → tPairs (L.map fun p => (tC (kV p.1), tC p.2)) σ H C := by
    intro L
    induction L with
    | nil => intro H C c; exact c
    | cons p L ih => intro H C c; exact ih H _ c
  refine walk _ _ _ ⟨upd_same, ks.zip us, rfl, ?_, ?_⟩
  · rw [List.length_zip, hl2, Nat.min_self]; exact h15'
  · have ez : (ks.zip us).map (·.1) = ks := zip_keys hl2
    rw [mergeK_nodup (by rw [List.nil_append, ez]; exact hn), List.nil_append]
    have eu : upd (upd H p (.dK [])) p (.dK (ks.zip us)) = upd H p (.dK (ks.zip us)) := by
      funext b
      by_cases hb : b = p
      · rw [hb, upd_same, upd_same]
      · rw [upd_ne hb, upd_ne hb, upd_ne hb]
    rw [eu]
    have q : PostV T X.K R F (.nd (.dct false (ks.map PK.k)) vs) S Q := q
    have hr : ∀ (vs : List PV) (us : List V), vs.map PV.at0 = us.map some → RelL T X.K R F vs us := by
      intro vs
      induction vs with
      | nil =>
        intro us e
        cases us with
        | nil => exact .nil
        | cons _ _ => cases e
      | cons v vs ih =>
        intro us e
        cases us with
        | nil => cases e
        | cons u us =>
          rw [List.map_cons, List.map_cons] at e
          injection e with e1 e2
          exact .cons (rel_at0 e1) (ih us e2)
    exact PostV.new r hp (k := .dct false (ks.map PK.k)) ⟨by rw [List.length_map]; exact hl2, ks, rfl, .inl upd_same⟩ (hr vs us ha) q
end

/-! ### f(b=.., a=..): the keywords in any order -/
/-- the arguments, put in the parameters' order -/
def permL {α : Type} (π : List Nat) (xs : List α) : List α := π.filterMap fun i => xs[i]?
structure FnB (K : PySem.W.Frag) (mg : Str → Option Value) (x : Str) (ps nms : List Str) (π : List Nat) : Prop where
  ok : ∀ (f : Addr) (fd : FuncData) (oc : Value) (od : Option Addr) (osl : Array (Option Value)), mg x = some (.ref f) → K.lookup f = some ⟨oc, od, .func fd, osl⟩ →
    ∀ (s : Shared) (ws : List Value), ws.length = nms.length → BindsTo s fd ⟨[], nms.zip ws⟩ (ps.zip (permL π ws))
theorem fnb_of {K : PySem.W.Frag} {mg : Str → Option Value} {x y qual : Str} {params : Arguments} {body : List Stmt} {scope : Scope} {kws : List (Str × V)} {g : Addr} {fd : FuncData} {ps nms : List Str} {π : List Nat} (F : FunD K y qual params body scope [] kws g fd) (hm : mg x = some (.ref g))
    (h : ∀ (kV doc pm : Value) (an : Option Addr) (cdv ct : Value) (ws : List Value), ws.length = nms.length → bindArgs (PySem.W.fnOf y qual params body scope .none kV doc pm an cdv ct) ⟨[], nms.zip ws⟩ = pure (ps.zip (permL π ws))) : FnB K mg x ps nms π := by
  refine ⟨fun f fd' oc od osl e1 e2 s ws hl => ?_⟩
  rw [hm] at e1
  cases e1
  obtain ⟨oc, od, dV, kV, doc, pm, an, cdv, ct, osl, rfl, lk, hcd, hD, hK⟩ := F.ex
  rw [lk] at e2
  cases e2
  rcases hD with ⟨_, z⟩ | ⟨z, _⟩
  · subst z
    exact .of_eq (h kV doc pm an cdv ct ws hl)
  · exact absurd rfl z
def dFnP (π : List Nat) (d : DF) (ar : DA) : DE := fun l S => (ar l S).bind fun xs S1 => if xs.length = π.length then d (permL π xs) S1 else .bad
theorem permL_rel {T : Tb} {K : PySem.W.Frag} {R : Pl} {F : Hp} {xs : List PV} {us : List V} (h : RelL T K R F xs us) : ∀ π : List Nat, RelL T K R F (permL π xs) (permL π us)
  | [] => .nil
  | i :: π => by
    unfold permL
    rw [List.filterMap_cons, List.filterMap_cons]
    cases e : xs[i]? with
    | none =>
      rw [List.getElem?_eq_none (by rw [h.length]; exact List.getElem?_eq_none_iff.mp e)]
      exact permL_rel h π
    | some x =>
      obtain ⟨u, e2, r⟩ := h.get e
      rw [e2]
      exact .cons r (permL_rel h π)
theorem permL_vals {xs : List V} {us : List Value} (h : Vals xs us) : ∀ π : List Nat, Vals (permL π xs) (permL π us)
  | [] => .nil
  | i :: π => by
    unfold permL
    rw [List.filterMap_cons, List.filterMap_cons]
    cases e : xs[i]? with
    | none =>
      rw [List.getElem?_eq_none (by rw [← h.length]; exact List.getElem?_eq_none_iff.mp e)]
      exact permL_vals h π
    | some x =>
      obtain ⟨u, e2, r⟩ := h.get e
      rw [e2]
      exact .cons r (permL_vals h π)
theorem je_fnKP {T : Tb} {X : Cx} {E : XS} {x : Str} {p pos : Pos} {kw : Keyword} {kws : List Keyword} {ps nms : List Str} {π : List Nat} {d : DF} {ar : DA} {j k : Nat} (c : Cg X E k) (F : Fn T X.prog X.w X.K X.mg X.base j x ps d) (B : FnB X.K X.mg x ps nms π) (hk : JK T X E (kw :: kws) ar) (hj : j ≤ k := by decide) (hg : Gl X x := by rfl) (hdb : (x == ("__debug__" : Str)) = false := by decide)
    (hall : (backToKw pos (keywordEach (kw :: kws) X.env)).all (·.1.isSome) = true := by rfl) (hks : (backToKw pos (keywordEach (kw :: kws) X.env)).filterMap (·.1) = nms := by rfl) (hn : π.length = nms.length := by rfl)
    (hpl : ((backTo pos (starEach [] X.env)).any (·.1) || (backToKw pos (keywordEach (kw :: kws) X.env)).any (·.1.isNone)) = false := by rfl) :
    JE T X E (.Call (.Name x p) [] (kw :: kws) pos) (dFnP π d ar) := by
  obtain ⟨f, fd, hm, hkp, G, _, _, oc, od, osl, lk⟩ := F.ex
  refine ⟨fun pins s σ H Q I h => ?_⟩
  refine wpAny_Call_Name_kw (ld_glob I hg hm ?_ hdb)
  obtain ⟨R, Fz, l, S, r, e', h⟩ := h
  have hh : tL T X.K E ar σ H fun vs H1 => vs.length = nms.length ∧ spOf T X.K ps.length d (permL π vs) H1 Q (E σ) := seqL (goV T X.K (E σ) Q) r e' h fun xs S1 R1 F1 H1 us p ex r1 rx e1 h1 => by
    have h1 : OkV T X.K R1 F1 (if xs.length = π.length then d (permL π xs) S1 else .bad) Q (E σ) := h1
    split at h1
    · rename_i hx
      by_cases hl : (permL π xs).length = ps.length
      · exact ⟨by rw [rx.length, hx]; exact hn, sp_of hl r1 (permL_rel rx π) h1⟩
      · rw [F.ar _ S1 hl] at h1; exact h1.elim
    · exact h1.elim
  refine PySem.W.callWith_KW0 (h₀ := X.base) I.ok.mod.kin hkp hall (thn (hk.run pos pins s σ H _ I hh) fun us s1 ⟨vs, H1, I1, r1, hv, q1⟩ => ⟨I1.kIn, ?_⟩) hpl
  rw [hks]
  have hl : us.length = nms.length := by rw [← r1.length]; exact hv
  have hb := B.ok f fd oc od osl hm lk s1 us hl
  refine wpAny_call (codeAny_mono (run_fng c hj G hb I1 (permL_vals r1 π) q1) fun z s' hq => ?_)
  cases z with
  | error e => exact hq
  | ok fl => cases fl with
    | ret u => exact hq
    | _ => exact False.elim hq
end Z
end
end
section
set_option Elab.async false
set_option linter.all false
set_option maxRecDepth 100000
set_option maxHeartbeats 1000000
/-! ZR: where lambdas stand. -/
noncomputable section
namespace Z
open PySem PySem.Spec PyProof.Rows L2

/-- what the head tells of the tables, but for their contents -/
structure TabsK (tb : List (Str × Str)) (K : PySem.W.Frag) : Prop where
  each : ∀ p ∈ tb, ∃ c P, PySem.W.tabIn K p.1 = some (c, P) ∧ PySem.W.codeHdIn K c P = true
  one : ((tabsOf tb K).map (·.1)).Nodup
theorem TabsGood.k {tb : List (Str × Str)} {K : PySem.W.Frag} {h : Heap} (t : TabsGood tb K h) : TabsK tb K := ⟨fun p hp => let ⟨c, P, h1, h2, _⟩ := t.each p hp; ⟨c, P, h1, h2⟩, t.one⟩
theorem TabsGood.law {tb : List (Str × Str)} {K : PySem.W.Frag} {h : Heap} (t : TabsGood tb K h) (inK : K.In h) : ∀ p ∈ tabsOf tb K, h.get? p.1 = some tabO ∧ K.lookup p.1 = none ∧ ∃ c, PySem.W.CodeHd h c p.1 := fun p hp => by
  obtain ⟨x, _, c, _, _, h2, h3, h4⟩ := t.at_ hp
  exact ⟨h4, h3, c, PySem.W.codeHd_of_K inK h2⟩
theorem tabIn_code {K : PySem.W.Frag} {x : Str} {c P : Addr} (h : PySem.W.tabIn K x = some (c, P)) : codeOf K (He.ga K x) = .ref c := by
  unfold PySem.W.tabIn at h
  split at h
  · rename_i f hf
    have eg : He.ga K x = f := by unfold He.ga; rw [hf]
    unfold codeOf
    rw [eg]
    split at h
    · rename_i oc od fd sl hl
      rw [hl]
      split at h
      · rename_i c2 hc
        split at h
        · split at h
          · cases h
            exact hc
          · cases h
        · cases h
      · cases h
    · cases h
  · cases h
theorem nodup_fst {α β : Type} : ∀ {l : List (α × β)} {a : α} {b b' : β}, (l.map (·.1)).Nodup → (a, b) ∈ l → (a, b') ∈ l → b = b'
  | [], _, _, _, _, h, _ => nomatch h
  | (x, y) :: l, a, b, b', hn, h, h' => by
    rw [List.map_cons, List.nodup_cons] at hn
    rcases List.mem_cons.mp h with e | h <;> rcases List.mem_cons.mp h' with e' | h'
    · exact (Prod.mk.inj e).2.trans (Prod.mk.inj e').2.symm
    · exact absurd (List.mem_map.mpr ⟨_, h', (Prod.mk.inj e).1⟩) hn.1
    · exact absurd (List.mem_map.mpr ⟨_, h, (Prod.mk.inj e').1⟩) hn.1
    · exact nodup_fst hn.2 h h'
theorem lamAt_of {T : Tb} {tb : List (Str × Str)} {X : Cx} {x : Str} {f : Addr} (hT : T.tabs = tabsOf tb) (t : TabsK tb X.K) (inB : X.K.In X.base) (bt : BaseT (T.tabs X.K) X.mg X.base) (hx : (x, X.env.qual ++ "<lambda>") ∈ tb) (hf : f = He.ga X.K x) (hc : codeOf X.K f = X.env.code) : LamAt T X := by
  obtain ⟨c, P, h1, h2⟩ := t.each _ hx
  have hm : (P, X.env.qual ++ "<lambda>") ∈ tabsOf tb X.K := List.mem_filterMap.mpr ⟨_, hx, by rw [h1]; rfl⟩
  have hb := bt _ (by rw [hT]; exact hm)
  refine ⟨c, P, ⟨PySem.W.codeHd_of_K inB h2, hb.1, hb.2⟩, ?_, by rw [hT]; exact hm, fun p hp e => ?_⟩
  · rw [← hc, hf]; exact tabIn_code h1
  · rw [hT] at hp
    obtain ⟨p1, p2⟩ := p
    have e : p1 = P := e
    subst e
    exact nodup_fst t.one hp hm

/-! ### tables of names -/
def TbX (cns fds : List Str) (okl oxl : List (Nat × Nat)) (tb : List (Str × Str)) : Tb := { cn := fun i => cns.getD i "", fd := fun i => fds.getD i "", nf := fds.length, okf := fun c f => decide ((c, f) ∈ okl), okx := fun c f => decide ((c, f) ∈ oxl), tabs := tabsOf tb }
def tbB (T : Tb) (fds : List Str) (okl oxl : List (Nat × Nat)) (K : PySem.W.Frag) : Bool :=
  decide fds.Nodup && ((okl.all fun p => decide (p.2 < fds.length) && (He.Fa.ok K (.cls (T.cn p.1)) && He.Fa.ok K (.noat (T.cn p.1) (T.fd p.2)))) &&
    oxl.all fun p => decide (p.2 < fds.length) && (xfB K (T.ca K p.1) && decide (PySem.W.findIn K (.ref (T.ca K p.1)) (T.fd p.2) = some none)))
theorem tbB_ok {cns fds : List Str} {okl oxl : List (Nat × Nat)} {tb : List (Str × Str)} {K : PySem.W.Frag} (h : tbB (TbX cns fds okl oxl tb) fds okl oxl K = true) : TbOk (TbX cns fds okl oxl tb) K := by
  obtain ⟨h1, h⟩ := Bool.and_eq_true_iff.mp h
  obtain ⟨h2, h3⟩ := Bool.and_eq_true_iff.mp h
  have nd := of_decide_eq_true h1
  refine ⟨fun i j hi hj e => ?_, fun c f q => ?_, fun c f q => ?_⟩
  · have hi : i < fds.length := hi
    have hj : j < fds.length := hj
    have e : fds.getD i "" = fds.getD j "" := e
    rw [List.getD_eq_getElem?_getD, List.getD_eq_getElem?_getD, List.getElem?_eq_getElem hi, List.getElem?_eq_getElem hj] at e
    have e : fds[i] = fds[j] := e
    exact (List.getElem?_inj hi nd).mp (by rw [List.getElem?_eq_getElem hi, List.getElem?_eq_getElem hj, e])
  · have q : (c, f) ∈ okl := of_decide_eq_true q
    obtain ⟨a, b⟩ := Bool.and_eq_true_iff.mp (List.all_eq_true.mp h2 _ q)
    obtain ⟨b, c⟩ := Bool.and_eq_true_iff.mp b
    exact ⟨of_decide_eq_true a, He.cls_ok b, He.noat_ok c⟩
  · have q : (c, f) ∈ oxl := of_decide_eq_true q
    obtain ⟨a, b⟩ := Bool.and_eq_true_iff.mp (List.all_eq_true.mp h3 _ q)
    obtain ⟨b, c⟩ := Bool.and_eq_true_iff.mp b
    exact ⟨of_decide_eq_true a, xfB_ok b, of_decide_eq_true c⟩
/-- which errors an except clause takes -/
def exmB (T : Tb) (C : Nat) (l : List (Nat × Bool)) (K : PySem.W.Frag) : Bool := l.all fun p => decide (PySem.W.exmOne K (.ref (T.ca K p.1)) (.ref (T.ca K C)) = some p.2)
theorem exm_of {T : Tb} {C : Nat} {l : List (Nat × Bool)} {K : PySem.W.Frag} (h : exmB T C l K = true) : ∀ c b, l.lookup c = some b → PySem.W.exmOne K (.ref (T.ca K c)) (.ref (T.ca K C)) = some b := fun c b e =>
  of_decide_eq_true (List.all_eq_true.mp h (c, b) (mem_of_lookup e))
end Z
end
end
section
set_option Elab.async false
set_option linter.all false
set_option maxRecDepth 100000
set_option maxHeartbeats 1000000
/-! ZN: to reckon with errors, texts. -/
noncomputable section
namespace Z
open PySem PySem.Spec PyProof.Rows L2

section
variable {l : Loc} {S S1 : Sto} {ar : DA} {a : DE} {b su s : DS} {e : XV}
@[simp] theorem dRaise_ap (c : Nat) (fs : List Nat) : dRaise c fs ar l S = (ar l S).st l fun xs S1 => if xs.length = fs.length then .err ⟨c, fs.reverse, xs.reverse⟩ l S1 else .bad := rfl
@[simp] theorem dFnP_ap (π : List Nat) (d : DF) : dFnP π d ar l S = (ar l S).bind fun xs S1 => if xs.length = π.length then d (permL π xs) S1 else .bad := rfl
@[simp] theorem dDispC_ap (ks : List Key) (vs : List PV) : dDispC ks vs l S = .ok (.nd (.dct false (ks.map PK.k)) vs) S := rfl
@[simp] theorem dDct0_ap : dDct0 l S = .ok (.nd (.dct false []) []) S := rfl
@[simp] theorem dAttrE_ap (T : Tb) (f : Nat) : dAttrE T f a l S = (a l S).bind fun x S1 => getE T f x S1 := rfl
theorem try_ok {tst : Nat → Option Bool} {i : Nat} {l1 : Loc} (h : b l S = .nx l1 S1) : dTryAs tst i b su l S = .nx l1 S1 := by unfold dTryAs; rw [h]
theorem try_err {tst : Nat → Option Bool} {i : Nat} {l1 : Loc} (h : b l S = .err e l1 S1) (ht : tst e.c = some true) : dTryAs tst i b su l S = goneO i (su (l1.set i (some e.val)) S1) := by unfold dTryAs; rw [h]; simp only; rw [ht]
theorem callT_eq {x0 : PV} {i : Nat} {tl : Sto → Out PV} (h : l[i]? = some (some x0)) : dCallT x0 i tl l S = tl S := by unfold dCallT; exact if_pos h
/-- a def that lets an error out, no new place made -/
theorem dDef_err {n m : Nat} {xs : List PV} {l1 : Loc} (h : xs.length = n) (hb : s (xs.map some ++ List.replicate (m - n) none) S = .err e l1 S1) (hl : S1.length ≤ S.length) : dDef n m s xs S = .err e S1 := by
  unfold dDef
  rw [dDef0_ap S s h, hb]
  unfold shut
  simp only
  rw [if_pos hl]
end

/-! ### words of digits -/
def wd (ds : List Nat) : Str := ⟨(ds.map (48 + ·)).toArray⟩
def sg (d : Nat) : PV := .str ⟨#[48 + d]⟩
theorem wd_cps (ds : List Nat) : (wd ds).cps.toList = ds.map (48 + ·) := rfl
theorem wd_len (ds : List Nat) : (wd ds).length = ds.length := by show ((ds.map (48 + ·)).toArray).size = _; rw [List.size_toArray, List.length_map]
theorem strIt_wd (ds : List Nat) : strIt (wd ds) = ⟨ds.map sg, []⟩ := by
  unfold strIt
  rw [wd_cps, List.map_map]; rfl
theorem wd_inj {ds es : List Nat} (h : wd ds = wd es) : ds = es := by
  have e : ds.map (48 + ·) = es.map (48 + ·) := by rw [← wd_cps, ← wd_cps, h]
  exact (List.map_inj_right (f := fun x => 48 + x) fun a b q => Nat.add_left_cancel q).mp e
theorem glued_wd : ∀ (ds : List Nat) (acc : Array Nat), ((ds.map fun d => (⟨#[48 + d]⟩ : Str)).foldl (fun acc p => acc ++ (Str.empty).cps ++ p.cps) acc) = acc ++ (ds.map (48 + ·)).toArray
  | [], acc => by simp
  | d :: ds, acc => by
    rw [List.map_cons, List.foldl_cons, glued_wd ds]
    have e0 : (Str.empty).cps = #[] := rfl
    rw [e0]
    simp [Array.append_assoc]
theorem join_wd (ds : List Nat) : Txt.join ⟨#[]⟩ (ds.map fun d => (⟨#[48 + d]⟩ : Str)) = wd ds := by
  show Builtin.Str.glued ⟨#[]⟩ _ = _
  unfold Builtin.Str.glued
  cases ds with
  | nil => rfl
  | cons d ds =>
    have := glued_wd ds #[48 + d]
    rw [List.map_cons, List.drop_one, List.tail_cons, List.headD_cons]
    show (⟨_⟩ : Str) = _
    have e : ((ds.map fun d => (⟨#[48 + d]⟩ : Str)).foldl (fun acc p => acc ++ (⟨#[]⟩ : Str).cps ++ p.cps) #[48 + d]) = #[48 + d] ++ (ds.map (48 + ·)).toArray := this
    rw [e]
    unfold wd
    simp
theorem asSs_sg (ds : List Nat) : asSs (ds.map sg) = some (ds.map fun d => (⟨#[48 + d]⟩ : Str)) := by
  have e : ds.map sg = (ds.map fun d => (⟨#[48 + d]⟩ : Str)).map PV.str := by rw [List.map_map]; rfl
  rw [e, asSs_map]
theorem joinP_wd {ds : List Nat} {S : Sto} (h : ds.length ≤ 16777216) : joinP (.str ⟨#[]⟩) [.nd .lst (ds.map sg)] S = .ok (.str (wd ds)) S := by
  have e : (seqOf (.nd .lst (ds.map sg)) S).bind asSs = some (ds.map fun d => (⟨#[48 + d]⟩ : Str)) := asSs_sg ds
  unfold joinP
  simp only [e]
  have hl : (List.map (fun x : Str => x.length) (ds.map fun d => (⟨#[48 + d]⟩ : Str))).sum + (ds.map fun d => (⟨#[48 + d]⟩ : Str)).length * (⟨#[]⟩ : Str).length ≤ 16777216 := by
    have q : ∀ ds : List Nat, (List.map (fun x : Str => x.length) (ds.map fun d => (⟨#[48 + d]⟩ : Str))).sum = ds.length := by
      intro ds
      induction ds with
      | nil => rfl
      | cons d ds ih => rw [List.map_cons, List.map_cons, List.sum_cons, ih, List.length_cons]; show 1 + _ = _; omega
    rw [q]
    show ds.length + _ * 0 ≤ _
    omega
  rw [if_pos hl, join_wd]
theorem empty_str : ("" : Str) = ⟨#[]⟩ := rfl
theorem intX_sg {d : Nat} (h : d < 4) (S : Sto) : intX [sg d] S = .ok (.int (d : Nat)) S := by
  have e : ∀ d, d < 4 → PySem.intText? ⟨#[48 + d]⟩ = some (d : Int) := by decide +kernel
  show (match PySem.intText? ⟨#[48 + d]⟩ with
    | some n => if (⟨#[48 + d]⟩ : Str).length ≤ 640 then Out.ok (PV.int n) S else .bad
    | none => .bad) = _
  rw [e d h]
  rfl
theorem strX_sg {d : Nat} (h : d < 4) (S : Sto) : strX [.int (d : Nat)] S = .ok (sg d) S := by
  have e : ∀ d : Nat, d < 4 → ((toString (d : Int) : Str) = ⟨#[48 + d]⟩) ∧ ((d : Int).natAbs.log2 < 1920) := by decide +kernel
  unfold strX
  simp only
  rw [if_pos (e d h).2, (e d h).1]
  rfl
theorem sidx_sg {d : Nat} (h : d < 4) (S : Sto) : sidxP (.str "0123") [sg d] S = .ok (.int (d : Nat)) S := by
  have e : ∀ d : Nat, d < 4 → Builtin.Str.occurrences "0123" ⟨#[48 + d]⟩ 0 ("0123" : Str).length 1 = [d] := by decide +kernel
  show (match Builtin.Str.occurrences "0123" ⟨#[48 + d]⟩ 0 ("0123" : Str).length 1 with
    | i :: _ => Out.ok (PV.int (i : Nat)) S
    | [] => .bad) = _
  rw [e d h]

/-! ### the places -/
theorem fitsS_pre {S S' : Sto} (h : S <+: S') : fitsS S S' = true := by
  obtain ⟨t, rfl⟩ := h
  exact fitsS_app S t
theorem take_pre {S S' : Sto} (h : S <+: S') : S'.take S.length = S := by
  obtain ⟨t, rfl⟩ := h
  exact List.take_left
/-! ### the laws' pen -/
def penB : DS := dRet (dLstM (dCons (dApp listP (dCons (dSli (dVar 0) (dNone) (dSome (dC (.int 63)))) (dNil))) (dCons (dC (.int 0)) (dCons (dC (.int 0)) (dNil)))))
theorem penB_ok {ns : List Int} (h : ns.length ≤ 63) : dDef0 1 1 penB [.nd .scr (ns.map .int)] [] = .ok (.ref 0) [pn ns 0 0] := by
  refine dDef0_ret [] penB rfl ?_
  show penB [some (.nd .scr (ns.map .int))] [] = _
  have e : cutP (ns.map PV.int) none (some (63 : Int)) = ns.map .int := by
    rw [show (63 : Int) = ((63 : Nat) : Int) from rfl, cutP_to, List.take_of_length_le (by rw [List.length_map]; omega)]
  have hs : sliZ (.nd .scr (ns.map .int)) none (some 63) [] = .ok (.nd .lst (ns.map .int)) [] := by
    show Out.ok (PV.nd .lst (cutP (ns.map PV.int) none (some 63))) [] = _
    rw [e]
  unfold penB
  show _ = OutS.ret (PV.ref 0) [some (.lst, [.nd .lst (ns.map .int), .int 0, .int 0])]
  generalize ns.map PV.int = Z at hs ⊢
  have hm : mkRf Kd.lst [PV.nd Kd.lst Z, PV.int 0, PV.int 0] [] = .ok (.ref 0) [some (.lst, [PV.nd Kd.lst Z, PV.int 0, PV.int 0])] := mkRf_ok [] (by simp)
  simp [hs, hm]
/-- a sign of a text is picked -/
theorem pickS_ok {dr : DF} (hd : DrOk dr) {n : Nat} {T S : Sto} {z : Str} (h : PenS n T S) (hn : n ≤ 100000) (hx : 0 < z.length) (hx2 : z.length ≤ 16777216) : ∃ c S', dDef 2 2 (pickB dr) [.ref 0, .str z] S = .ok (.str ⟨#[c]⟩) S' ∧ c ∈ z.cps.toList ∧ PenS (n + 1) T S' := by
  have hlz : z.cps.toList.length = z.length := by show z.cps.toList.length = z.cps.size; simp
  obtain ⟨v, S', h1, h2, h3, h4⟩ := hd n T S z.length h hn (by omega) (by omega)
  obtain ⟨i, rfl⟩ := Int.eq_ofNat_of_zero_le h2
  have hi : i < z.cps.toList.length := by omega
  have e1 : lenP [.str z] S = .ok (.int z.length) S := by unfold lenP; simp only; rw [if_pos hx2]
  refine ⟨z.cps.toList[i], S', ?_, List.getElem_mem hi, h4⟩
  refine dDef_ret _ _ rfl ?_ (by rw [h4.len, h.len]; exact Nat.le_refl _)
  have hat : atI z.cps.toList (i : Int) = some z.cps.toList[i] := by rw [atI_ofNat, List.getElem?_eq_getElem hi]
  have e2 : subZ (.str z) (.int (i : Nat)) S' = .ok (.str ⟨#[z.cps.toList[i]]⟩) S' := by
    show (if z.length ≤ 16777216 then (match atI z.cps.toList (i : Int) with
      | some c => Out.ok (PV.str ⟨#[c]⟩) S'
      | none => .bad) else .bad) = _
    rw [if_pos hx2, hat]
  unfold pickB
  simp only [dRet_ap, dBin_ap, dFn_ap, dCons_ap, dNil_ap, dApp_ap, List.map_cons, List.map_nil, List.cons_append, List.nil_append, List.replicate, Nat.reduceSub, dVar_0, dVar_s, bind_ok, e1, h1, e2, st_ok]
end Z
end
end
section
set_option Elab.async false
set_option linter.all false
set_option maxRecDepth 100000
set_option maxHeartbeats 1000000
/-! ZO: own __iter__ that gives iter(self.f), f a tuple. -/
noncomputable section
namespace Z
open PySem PySem.Spec PyProof.Rows L2

/-- at it an iterator over the tuple at t, the next place is i -/
def TItO (t it : Addr) (i : Nat) : HO := .ext fun h => h.IsTupleIter it t i
theorem tItO_ok {P : Program} {w : World} {H : Hp} {h : Heap} {t it : Addr} {i : Nat} (e : h.IsTupleIter it t i) : ObjOk P w H h it (TItO t it i) := ⟨e, let ⟨o, z, _⟩ := e; ⟨o, z⟩, fun h1 h2 q k => q.at fun o z => k o z⟩
def rIterTp (K : PySem.W.Frag) (n : Nat) : List V → Hp → VK → Prop := fun xs H Q => ∃ (t : Addr) (zs : List V), xs = [.ref t] ∧ SqT K H t zs ∧ ∀ it, H it = Option.none → n ≤ it → Q (.ref it) (upd H it (TItO t it 0))
theorem call_iterTp {X : Cx} : CallR X (.builtin "iter") (rIterTp X.K X.s_0.heap.objs.size) := by
  intro pins s σ H xs us Q I r h
  obtain ⟨t, zs, rfl, hq, q⟩ := h
  obtain ⟨u, rfl, ru⟩ := vals1 r
  cases ru
  obtain ⟨its, rv, pl, hz⟩ := I.tuple hq
  refine Calls.call_function_entry (by decide +kernel) (by decide +kernel) PySem.W.kdk_entry_iter (PySem.W.kdk_args_iter _) ?_
  unfold Builtin.«iter»
  refine wpAny_bind (m := someArgs "iter" 1 2 _) (wpAny_of_eq (a := [Value.ref t]) (by first | rfl | kernel_rfl!) ?_)
  show wpAny _ _ (pyIter (.ref t) >>= _) _ _ _
  refine wpAny_bind (wpAny_pyIter_tuple pl ?_)
  refine wpAny_pure ⟨_, rfl, ?_⟩
  exact ⟨.ref s.heap.objs.size, _, I.laid (t' := s.toks) (fun b u e => Heap.get?_push_of_some _ e) (Nat.le_refl _) (tItO_ok ⟨_, Heap.get?_push_size _ rfl, rfl, rfl⟩), rfl, q _ (I.hok.fresh (Nat.le_refl _)) I.sz⟩

/-- f, called with an instance of C whose field fld is a tuple, gives a new iterator over it -/
def ItF (P : Program) (w : World) (K : PySem.W.Frag) (mg : Str → Option Value) (base : Heap) (k : Nat) (f C : Addr) (fld : Str) : Prop :=
  ∀ (A : Around) (outer : List Env) (s : Shared) (H : Hp) (a dx t : Addr) (fs : List (Str × V)) (zs : List V) (Q : VK) (E : XK), Room k A → A.guards = some [] → Env0 P w K mg base A outer s H → H a = some (.ins C dx fs) → fs.lookup fld = some (.ref t) → SqT K H t zs →
    (∀ it, H it = Option.none → s.heap.objs.size ≤ it → Q (.ref it) (upd H it (TItO t it 0))) → codeAny (model P w) A (.call (.ref f) ⟨[.ref a], []⟩) (CR (L2.CX P w) outer P w H s Q E) s
section
variable {P : Program} {w : World} {K : PySem.W.Frag} {mg : Str → Option Value} {base : Heap} {x qual : Str} {params : Arguments} {scope : Scope} {f C : Addr} {fd : FuncData} {fld : Str} {p1 p2 p3 p4 p5 : Pos} {doc : List Stmt} {N : List Str}
theorem itf_of (G : FunD K x qual params [.Return (some (.Call (.Name "iter" p1) [.Attribute (.Name "self" p2) fld p3] [] p4)) p5] scope [] [] f fd) (S : FnScope ["self"] ["self"] scope) (hb : Binds K fd ["self"] [])
    (cl : Cls K C) (na : NoAttr K C fld) (hm : mg "iter" = Option.none)
    (hgl : ∀ (cdv : Value) (A : Around) (outer : List Env) (s : Shared) (H : Hp) (E : XK), Gl (cxOf (L2.CX P w) P w K mg base ["self"] qual scope f cdv A outer s H E) "iter") :
    ItF P w K mg base 1 f C fld := by
  obtain ⟨oc, od, dV, kV, doc, pm, an, cdv, ct, osl, rfl, lk, hcd, _, _⟩ := G.ex
  intro A outer s H a dx t fs zs Q E hr hgd e0 ha hl hq hQ
  have inK : K.In s.heap := e0.mod.kin.keeps fun b o e => (e0.bs b o e).1
  have nolim : s.heap.NoLimit := e0.mod.nolimit.keeps fun b o e => (e0.bs b o e).1
  have kinds : ∀ y ∈ (["self"] : List Str).zip [Value.ref a], scope.names.lookup y.1 = some .local ∨ (scope.names.lookup y.1 = some .cell ∧ ((cellsFrom (s.heap.objs.size + 1) scope.names []).lookup y.1).isSome = true) := fun y hy => by
    rcases S.par y.1 (List.of_mem_zip (a := y.1) (b := y.2) hy).1 with q | q
    · exact .inl q
    · exact .inr ⟨q, PySem.W.cellsFrom_some _ _ _ (.inl q)⟩
  have hbi := hb s [.ref a] inK rfl
  refine codeAny_call_function hr.depth (inK _ _ lk) rfl S.co S.gen rfl (PySem.W.codeRec_of inK hcd) (hbi _ _ _ _ ?_)
  refine wpAny_newFunctionEnv_cells S.kind kinds fun env he s1 xc => ?_
  subst he
  refine ⟨nolim.keeps xc.toInCall.keep, codeAny_func ?_⟩
  have I : Inv (cxOf (L2.CX P w) P w K mg base ["self"] qual scope f cdv A outer s H E) [] (L2.start ["self"] [.ref a]) H s1 := inv_start S hr.hd e0 rfl (.cons rfl .nil) xc
  have hv : L2.Vis scope "self" := by
    rcases S.par "self" List.mem_cons_self with q | q
    · exact .inl q
    · exact .inr (.inl q)
  have hp : PE (cxOf (L2.CX P w) P w K mg base ["self"] qual scope f cdv A outer s H E) (.Call (.Name "iter" p1) [.Attribute (.Name "self" p2) fld p3] [] p4) _ :=
    pe_callB (x := "iter") (id := "iter") call_iterTp (hgl cdv A outer s H E) hm rfl (pa_cons (pe_fld (pe_var (i := 0) (x := "self") rfl hv) rfl) pa_nil)
  have ht := (pss_one (ps_ret (pos := p5) hp)).run [] s1 (L2.start ["self"] [.ref a]) H { nx := fun _ H' => Q .non H', rt := Q } I ?_
  · refine wpAny_mono ht (fun fl s' hs => ?_) fun e s' hs => hs
    cases fl with
    | next =>
      obtain ⟨σ', H', J, q⟩ := hs
      exact ⟨.non, H', J.os, J.bare, J.base, J.hok, rfl, q⟩
    | ret u =>
      obtain ⟨v, σ', H', J, rv, q⟩ := hs
      exact ⟨v, H', J.os, J.bare, J.base, J.hok, rv, q⟩
    | brk => obtain ⟨_, _, _, q⟩ := hs; exact False.elim q
    | cont => obtain ⟨_, _, _, q⟩ := hs; exact False.elim q
  · refine ⟨.ref a, rfl, a, C, dx, fs, .ref t, rfl, ha, cl, na, hl, t, zs, rfl, hq, fun it hi hn => hQ it hi hn⟩
end

/-! ### what is walked: an instance whose __iter__ gives iter(self.fld) -/
/-- the class c's __iter__ -/
structure ItM (T : Tb) (P : Program) (w : World) (K : PySem.W.Frag) (mg : Str → Option Value) (base : Heap) (k c : Nat) (fld : Nat) : Prop where
  ex : ∃ f : Addr, PySem.W.findIn K (.ref (T.ca K c)) "__iter__" = some (some (.ref f)) ∧ PySem.W.isFn K (.ref f) = true ∧ ItF P w K mg base k f (T.ca K c) (T.fd fld)
/-- the iterator stands -/
theorem own_iter {X : Cx} {E : XS} {k j : Nat} {pins : List (Addr × Obj)} {σ : L2.St} {H : Hp} {s : Shared} {f C a dx t : Addr} {fld : Str} {fs : List (Str × V)} {zs : List V} {Q : Value → Shared → Prop} (cg : Cg X E k) (hj : j ≤ k)
    (hi : PySem.W.findIn X.K (.ref C) "__iter__" = some (some (.ref f))) (hf : PySem.W.isFn X.K (.ref f) = true) (G : ItF X.prog X.w X.K X.mg X.base j f C fld) (I : Inv X pins σ H s) (ha : H a = some (.ins C dx fs)) (hl : fs.lookup fld = some (.ref t)) (hq : SqT X.K H t zs)
    (h : ∀ it s', H it = Option.none → s.heap.objs.size ≤ it → Inv X pins σ (upd H it (TItO t it 0)) s' → Q (.ref it) s') : wpAny (model X.prog X.w) X.A (pyIter (.ref a)) Q X.xe s := by
  obtain ⟨ox, od, J⟩ := inst_of I ha
  obtain ⟨m, hF⟩ := I.fr
  refine PySem.W.owit_iter hF I.ok.mod.kin J hi hf ?_
  refine wpAny_call (codeAny_mono (G X.A X.stack s H a dx t fs zs (fun v H' => ∃ it, v = .ref it ∧ H it = Option.none ∧ s.heap.objs.size ≤ it ∧ H' = upd H it (TItO t it 0)) (E σ) (cg.room.mono hj) cg.gd I.env0 ha hl hq fun it h1 h2 => ⟨it, rfl, h1, h2, rfl⟩) fun z s' hq => ?_)
  cases z with
  | error e => exact cg.pass pins σ H s e s' I hq
  | ok fl =>
    cases fl with
    | ret u =>
      obtain ⟨v, H1, I1, r1, it, ev, h1, h2, eH⟩ := I.after hq
      subst ev eH
      cases r1
      unfold PySem.W.OwitIt
      have st : s'.heap.IsTupleIter it t 0 := (I1.hok it _ upd_same).1
      exact wpAny_specialOf st.typeIs PySem.F.slot_tuple_iterator_next.lookup (h it s' h1 h2 I1)
    | next => exact False.elim hq
    | brk => exact False.elim hq
    | cont => exact False.elim hq

/-- for tg in e, e an instance of the class c -/
def iOwn (X : Cx) (C : Addr) (fld : Str) (te : TE) : TI := fun σ H R => te σ H fun x H1 => ∃ a dx t fs zs, x = .ref a ∧ H1 a = some (.ins C dx fs) ∧ fs.lookup fld = some (.ref t) ∧ SqT X.K H1 t zs ∧ R (Itt X.K t) H1
theorem pi_own {X : Cx} {E : XS} {k j : Nat} {tg e : Expr} {te : TE} {f C : Addr} {fld : Str} (cg : Cg X E k) (hj : j ≤ k)
    (hi : PySem.W.findIn X.K (.ref C) "__iter__" = some (some (.ref f))) (hf : PySem.W.isFn X.K (.ref f) = true) (G : ItF X.prog X.w X.K X.mg X.base j f C fld) (he : PE X e te) : PI X tg e (iOwn X C fld te) := by
  refine ⟨fun pins s σ H R I h => ?_⟩
  refine thn (he.run pins s σ H _ I h) fun v s1 ⟨x, H1, I1, r1, a, dx, t, fs, zs, ex, ha, hl, hq, q⟩ => ?_
  subst ex
  cases r1
  refine own_iter cg hj hi hf G I1 ha hl hq fun it s2 h1 h2 I2 => ?_
  have st : s2.heap.IsTupleIter it t 0 := (I2.hok it _ upd_same).1
  have hd := ItX.inv_drop I2 (φ := fun h => h.IsTupleIter it t 0) upd_same
  have hfp := ItX.inv_fp I2 (u := TItO t it 0) upd_same (Nat.le_trans I1.sz h2)
  rw [ItX.dropH_upd h1] at hd hfp
  refine ⟨it, [it], _, _, H1, rfl, hd, turn_tuple t it, st, fun b hb => ?_, q⟩
  have e : b = it := by simpa using hb
  rw [e]; exact hfp

/-! ### .. as a denotation -/
def tupOf (x : PV) (S : Sto) : Out ItZ := match view x S with
  | some (.tup, xs) => .ok ⟨xs, holdOf x (.tup, xs)⟩ S
  | _ => .bad
/-- the items of an instance of the class c: those of its field -/
def ownIt (T : Tb) (c fld : Nat) (x : PV) (S : Sto) : Out ItZ := if isIns c x S = true then (match view x S with
  | some (.ins _ fs, xs) => if T.okf c fld = true ∧ fs.all (T.okf c) = true then (match fLook fs xs fld with
    | some y => tupOf y S
    | none => .bad) else .bad
  | _ => .bad) else .bad
def dItOwn (T : Tb) (c fld : Nat) (d : DE) : DI := fun l S => (d l S).bind fun x S1 => ownIt T c fld x S1
theorem ownIt_rel {T : Tb} {K : PySem.W.Frag} {R : Pl} {F H : Hp} {S : Sto} {c fld : Nat} {E : XK} {Q : It → Hp → Prop} (O : TbOk T K) (r : Rep T K R F S H) {x : PV} {u : V} (rx : Rel T K R F x u) (h : OkI T K R F (ownIt T c fld x S) Q E) :
    ∃ a dx t fs zs, u = .ref a ∧ H a = some (.ins (T.ca K c) dx fs) ∧ fs.lookup (T.fd fld) = some (.ref t) ∧ SqT K H t zs ∧ Q (Itt K t) H := by
  unfold ownIt at h
  split at h
  · rename_i hi
    obtain ⟨a, dx, fs, rfl, ha⟩ := isIns_rel r rx hi
    split at h
    · rename_i c' gs xs hv
      split at h
      · rename_i hc
        have ec : c = c' := by
          unfold isIns at hi
          rw [hv] at hi
          exact (beq_iff_eq.mp hi).symm
        subst ec
        obtain ⟨a', us, ea, hs, hl⟩ := view_rel r rx hv
        cases ea
        obtain ⟨hlen, dx', ha'⟩ := hs
        rw [ha] at ha'
        cases ha'
        obtain ⟨hf, _, _⟩ := O.ok c fld hc.1
        split at h
        · rename_i y hy
          obtain ⟨w, h1, h2⟩ := fLook_rel O hf (all_lt O hc.2) hl hy
          unfold tupOf at h
          split at h
          · rename_i ys hvy
            obtain ⟨t, zs, ew, hs2, hl2⟩ := view_rel r h2 hvy
            subst ew
            refine ⟨a, _, t, _, zs, rfl, ha, h1, (shp_rd hs2).2 rfl, h R F H _ (Pl.refl R) (Ex.refl F) r (walkz_of r h2 hvy fun b ws eb => ?_)⟩
            cases eb
            exact walk_tup.mono (fun H q => (shp_rd q).2 rfl) fun _ _ _ _ _ _ y => y
          · exact h.elim
        · exact h.elim
      · exact h.elim
    · exact h.elim
  · exact h.elim
theorem ji_own {T : Tb} {X : Cx} {E : XS} {k j c fld : Nat} {tg e : Expr} {d : DE} (O : TbOk T X.K) (cg : Cg X E k) (F : ItM T X.prog X.w X.K X.mg X.base j c fld) (he : JE T X E e d) (hj : j ≤ k := by decide) : JI T X E tg e (dItOwn T c fld d) := by
  obtain ⟨f, hi, hf, G⟩ := F.ex
  refine pi_imp (pi_own cg hj hi hf G he) fun σ H Q ⟨R, Fz, l, S, r, e', h⟩ => ⟨R, Fz, l, S, r, e', ?_⟩
  cases hd : d l S with
  | bad => unfold dItOwn at h; rw [hd] at h; exact h.elim
  | err x S1 => unfold dItOwn at h; rw [hd] at h; exact h
  | ok x S1 =>
    unfold dItOwn at h
    rw [hd] at h
    have h : OkI T X.K R Fz (ownIt T c fld x S1) Q (E σ) := h
    intro R1 F1 H1 u p ex r1 rx
    have h1 : OkI T X.K R1 F1 (ownIt T c fld x S1) Q (E σ) := by
      cases ho : ownIt T c fld x S1 with
      | bad => rw [ho] at h; exact h.elim
      | err x' S' => rw [ho] at h; exact PostX.mono p ex h
      | ok it S' => rw [ho] at h; exact fun R2 F2 H2 J p2 ex2 r2 => h R2 F2 H2 J (p.trans p2) (ex.trans ex2) r2
    exact ownIt_rel O r1 rx h1

/-! ### list(o) -/
theorem sqT_upd {K : PySem.W.Frag} {H : Hp} {q t : Addr} {o : HO} {zs : List V} (h : SqT K H t zs) (n : q ≠ t) : SqT K (upd H q o) t zs := by
  have e : upd H q o t = H t := upd_ne (Ne.symm n)
  unfold SqT Rd at *
  rw [e]
  exact h
section
variable {X : Cx} {pins : List (Addr × Obj)} {σ : L2.St} {A1 : Around} {q it t : Addr}
theorem tup_loop {Rs : Result → Shared → Prop} {zs : List V} {H0 : Hp} (hh : A1.in1.handled = Option.none) (hqt : q ≠ t) (hqi : q ≠ it) (hz : zs.length ≤ sizeLine) (hE : ∀ (s : Shared), Inv X pins σ (upd H0 q (.lst zs)) s → Rs (.ok (.ret .none)) s) :
    ∀ (k i : Nat) (H : Hp) (s : Shared), zs.length - i = k → i ≤ zs.length → Inv X pins σ H s → FpOk X pins H it → s.heap.IsTupleIter it t i → SqT X.K H t zs → H = upd H0 q (.lst (zs.take i)) →
      codeAny (model X.prog X.w) A1 (.builtin "list.extend.loop" ⟨[.ref q, .ref it, .none], []⟩) Rs s := by
  intro k
  induction k with
  | zero =>
    intro i H s hk hi I hf st hq hH
    have hl : H q = some (.lst (zs.take i)) := by rw [hH, upd_same]
    refine codeAny_builtin PySem.F.entry_extend_loop ?_
    rw [Around.under_plainId PySem.F.plain_extend_loop _]
    show wpAny _ A1.in1 (pyNext (.ref it) >>= _) _ _ s
    obtain ⟨its, rv, p, hz⟩ := I.tuple hq
    obtain ⟨f0, f1, f2, f3, f4, f5⟩ := hf
    have hl2 := rv.length
    refine wpAny_bind (wpAny_pyNext_tuple_end hh st (show s.heap.IsTuple t its.toArray from p) (by simp; omega) fun h' eb => ?_)
    have I1 : Inv X pins σ H { s with heap := h' } := I.turned (t' := s.toks) (fun b o hb e => eb b o hb e) f0 f1 f3 f4 f5
    rw [hH, List.take_of_length_le (by omega)] at I1
    exact wpAny_pure (hE _ I1)
  | succ k ih =>
    intro i H s hk hi I hf st hq hH
    have hl : H q = some (.lst (zs.take i)) := by rw [hH, upd_same]
    refine codeAny_builtin PySem.F.entry_extend_loop ?_
    rw [Around.under_plainId PySem.F.plain_extend_loop _]
    show wpAny _ A1.in1 (pyNext (.ref it) >>= _) _ _ s
    obtain ⟨its, rv, p, hz⟩ := I.tuple hq
    obtain ⟨f0, f1, f2, f3, f4, f5⟩ := id hf
    have hlt : i < zs.length := by omega
    obtain ⟨u, hu, ru⟩ := rv.get (List.getElem?_eq_getElem hlt)
    refine wpAny_bind (wpAny_pyNext_tuple_item st (show s.heap.IsTuple t its.toArray from p) (x := u) (by simpa using hu) fun h' st' sb => ?_)
    have I1 : Inv X pins σ H { s with heap := h' } := I.turned (t' := s.toks) (fun b o hb e => (sb.2 b hb).trans e) f0 f1 f3 f4 f5
    show wpAny _ A1.in1 (updateSeq q (·.push u) >>= _) _ _ _
    obtain ⟨z, its2, k2, r2, hl2, e⟩ := I1.lstM hl
    have hlen : its2.length = i := by rw [← r2.length, List.length_take]; omega
    refine wpAny_bind (wpAny_updateSeq e rfl (wpAny_pure ⟨plainId_quiet PySem.F.plain_extend_loop _, ?_⟩) (by rw [List.size_toArray]; omega) (by show (its2.toArray.push u).size ≤ sizeLine + 1; rw [Array.size_push, List.size_toArray]; omega))
    have I2 := I1.lset (f := (·.push u)) (its' := its2 ++ [u]) (ys := zs.take i ++ [zs[i]]) (t' := s.toks) hl e (by simp) (r2.append (.cons ru .nil)) (by rw [List.length_append, List.length_singleton]; omega)
    have e3 : zs.take i ++ [zs[i]] = zs.take (i + 1) := by rw [List.take_succ, List.getElem?_eq_getElem hlt]; rfl
    rw [e3] at I2
    refine ih (i + 1) _ _ (by omega) hlt I2 ⟨by rw [upd_ne hqi.symm]; exact f0, f1, f2, f3, f4, f5⟩ (st'.at fun o ho => (Heap.get?_update_other _ _ hqi).trans ho) ?_ (by rw [hH, upd_upd])
    exact sqT_upd hq hqt
end

/-- f, called with an instance of C whose field fld is a tuple, gives its length -/
def LenF (P : Program) (w : World) (K : PySem.W.Frag) (mg : Str → Option Value) (base : Heap) (k : Nat) (f C : Addr) (fld : Str) : Prop :=
  ∀ (A : Around) (outer : List Env) (s : Shared) (H : Hp) (a dx t : Addr) (fs : List (Str × V)) (zs : List V) (Q : VK) (E : XK), Room k A → A.guards = some [] → Env0 P w K mg base A outer s H → H a = some (.ins C dx fs) → fs.lookup fld = some (.ref t) → SqT K H t zs →
    Q (.int zs.length) H → codeAny (model P w) A (.call (.ref f) ⟨[.ref a], []⟩) (CR (L2.CX P w) outer P w H s Q E) s
section
variable {P : Program} {w : World} {K : PySem.W.Frag} {mg : Str → Option Value} {base : Heap} {x qual : Str} {params : Arguments} {scope : Scope} {f C : Addr} {fd : FuncData} {fld : Str} {p1 p2 p3 p4 p5 : Pos} {doc : List Stmt} {N : List Str}
theorem lenf_of (G : FunD K x qual params [.Return (some (.Call (.Name "len" p1) [.Attribute (.Name "self" p2) fld p3] [] p4)) p5] scope [] [] f fd) (S : FnScope ["self"] ["self"] scope) (hb : Binds K fd ["self"] [])
    (cl : Cls K C) (na : NoAttr K C fld) (hm : mg "len" = Option.none)
    (hgl : ∀ (cdv : Value) (A : Around) (outer : List Env) (s : Shared) (H : Hp) (E : XK), Gl (cxOf (L2.CX P w) P w K mg base ["self"] qual scope f cdv A outer s H E) "len") :
    LenF P w K mg base 1 f C fld := by
  obtain ⟨oc, od, dV, kV, doc, pm, an, cdv, ct, osl, rfl, lk, hcd, _, _⟩ := G.ex
  intro A outer s H a dx t fs zs Q E hr hgd e0 ha hl hq hQ
  have inK : K.In s.heap := e0.mod.kin.keeps fun b o e => (e0.bs b o e).1
  have nolim : s.heap.NoLimit := e0.mod.nolimit.keeps fun b o e => (e0.bs b o e).1
  have kinds : ∀ y ∈ (["self"] : List Str).zip [Value.ref a], scope.names.lookup y.1 = some .local ∨ (scope.names.lookup y.1 = some .cell ∧ ((cellsFrom (s.heap.objs.size + 1) scope.names []).lookup y.1).isSome = true) := fun y hy => by
    rcases S.par y.1 (List.of_mem_zip (a := y.1) (b := y.2) hy).1 with q | q
    · exact .inl q
    · exact .inr ⟨q, PySem.W.cellsFrom_some _ _ _ (.inl q)⟩
  have hbi := hb s [.ref a] inK rfl
  refine codeAny_call_function hr.depth (inK _ _ lk) rfl S.co S.gen rfl (PySem.W.codeRec_of inK hcd) (hbi _ _ _ _ ?_)
  refine wpAny_newFunctionEnv_cells S.kind kinds fun env he s1 xc => ?_
  subst he
  refine ⟨nolim.keeps xc.toInCall.keep, codeAny_func ?_⟩
  have I : Inv (cxOf (L2.CX P w) P w K mg base ["self"] qual scope f cdv A outer s H E) [] (L2.start ["self"] [.ref a]) H s1 := inv_start S hr.hd e0 rfl (.cons rfl .nil) xc
  have hv : L2.Vis scope "self" := by
    rcases S.par "self" List.mem_cons_self with q | q
    · exact .inl q
    · exact .inr (.inl q)
  have hp : PE (cxOf (L2.CX P w) P w K mg base ["self"] qual scope f cdv A outer s H E) (.Call (.Name "len" p1) [.Attribute (.Name "self" p2) fld p3] [] p4) _ :=
    pe_callB (x := "len") (id := "len") call_len_seq (hgl cdv A outer s H E) hm rfl (pa_cons (pe_fld (pe_var (i := 0) (x := "self") rfl hv) rfl) pa_nil)
  have ht := (pss_one (ps_ret (pos := p5) hp)).run [] s1 (L2.start ["self"] [.ref a]) H { nx := fun _ H' => Q .non H', rt := Q } I ?_
  · refine wpAny_mono ht (fun fl s' hs => ?_) fun e s' hs => hs
    cases fl with
    | next =>
      obtain ⟨σ', H', J, q⟩ := hs
      exact ⟨.non, H', J.os, J.bare, J.base, J.hok, rfl, q⟩
    | ret u =>
      obtain ⟨v, σ', H', J, rv, q⟩ := hs
      exact ⟨v, H', J.os, J.bare, J.base, J.hok, rv, q⟩
    | brk => obtain ⟨_, _, _, q⟩ := hs; exact False.elim q
    | cont => obtain ⟨_, _, _, q⟩ := hs; exact False.elim q
  · exact ⟨.ref a, rfl, a, C, dx, fs, .ref t, rfl, ha, cl, na, hl, t, zs, rfl, .inr hq, hQ⟩
end
/-- .. and the class c's __len__ -/
structure LnM (T : Tb) (P : Program) (w : World) (K : PySem.W.Frag) (mg : Str → Option Value) (base : Heap) (k c : Nat) (fld : Nat) : Prop where
  ex : ∃ f : Addr, PySem.W.findIn K (.ref (T.ca K c)) "__len__" = some (some (.ref f)) ∧ PySem.W.isFn K (.ref f) = true ∧ LenF P w K mg base k f (T.ca K c) (T.fd fld)
section
variable {X : Cx} {pins : List (Addr × Obj)} {σ : L2.St} {A1 : Around} {H : Hp} {s : Shared}
/-- a call that lets no error out -/
theorem no_err {v : Value} {s' : Shared} (q : L2.CX X.prog X.w X.stack H s (fun _ _ _ => False) v s') : False := by
  obtain ⟨a, B, H', cls, d, rfl, fl, hok, ub, na, os, ag, hE⟩ := q
  exact hE
theorem env1 {n : Nat} (sb : Sub X n A1) (I : Inv X pins σ H s) : Env0 X.prog X.w X.K X.mg X.base A1 X.stack s H := by
  have e := I.env0
  exact ⟨by rw [sb.fr]; exact e.frames, e.mod, e.bs, e.bsz, e.funs, e.frf, e.hok, e.bare⟩
theorem own_iter1 {k : Nat} {f C a dx t : Addr} {fld : Str} {fs : List (Str × V)} {zs : List V} {Q : Value → Shared → Prop} {E : Value → Shared → Prop} (sb : Sub X k A1.in1) (hg : A1.in1.guards = some [])
    (hi : PySem.W.findIn X.K (.ref C) "__iter__" = some (some (.ref f))) (hf : PySem.W.isFn X.K (.ref f) = true) (G : ItF X.prog X.w X.K X.mg X.base k f C fld) (I : Inv X pins σ H s) (ha : H a = some (.ins C dx fs)) (hl : fs.lookup fld = some (.ref t)) (hq : SqT X.K H t zs)
    (h : ∀ it s', H it = Option.none → s.heap.objs.size ≤ it → Inv X pins σ (upd H it (TItO t it 0)) s' → Q (.ref it) s') : wpAny (model X.prog X.w) A1.in1 (pyIter (.ref a)) Q E s := by
  obtain ⟨ox, od, J⟩ := inst_of I ha
  obtain ⟨m, hF⟩ := I.fr
  refine PySem.W.owit_iter hF I.ok.mod.kin J hi hf ?_
  refine wpAny_call (codeAny_mono (G A1.in1 X.stack s H a dx t fs zs (fun v H' => ∃ it, v = .ref it ∧ H it = Option.none ∧ s.heap.objs.size ≤ it ∧ H' = upd H it (TItO t it 0)) (fun _ _ _ => False) sb.room hg (env1 sb I) ha hl hq fun it h1 h2 => ⟨it, rfl, h1, h2, rfl⟩) fun z s' hq => ?_)
  cases z with
  | error e => exact (no_err hq).elim
  | ok fl =>
    cases fl with
    | ret u =>
      obtain ⟨v, H1, I1, r1, it, ev, h1, h2, eH⟩ := I.after hq
      subst ev eH
      cases r1
      unfold PySem.W.OwitIt
      have st : s'.heap.IsTupleIter it t 0 := (I1.hok it _ upd_same).1
      exact wpAny_specialOf st.typeIs PySem.F.slot_tuple_iterator_next.lookup (h it s' h1 h2 I1)
    | next => exact False.elim hq
    | brk => exact False.elim hq
    | cont => exact False.elim hq
theorem own_hint1 {k : Nat} {f C a dx t : Addr} {fld : Str} {fs : List (Str × V)} {zs : List V} {Q : Bool → Shared → Prop} {E : Value → Shared → Prop} (sb : Sub X k A1.in1) (hg : A1.in1.guards = some [])
    (hi : PySem.W.findIn X.K (.ref C) "__len__" = some (some (.ref f))) (hf : PySem.W.isFn X.K (.ref f) = true) (G : LenF X.prog X.w X.K X.mg X.base k f C fld) (I : Inv X pins σ H s) (ha : H a = some (.ins C dx fs)) (hl : fs.lookup fld = some (.ref t)) (hq : SqT X.K H t zs) (hz : zs.length ≤ 16777216)
    (h : ∀ b s', Inv X pins σ H s' → Q b s') : wpAny (model X.prog X.w) A1 (Builtin.List.listLengthHint (.ref a)) Q E s := by
  obtain ⟨ox, od, J⟩ := inst_of I ha
  obtain ⟨m, hF⟩ := I.fr
  unfold Builtin.List.listLengthHint
  refine wpAny_bind (wpAny_bind (J.type.here ((PySem.W.looks_findIn I.kIn hi).here ?_)))
  refine PySem.W.KFB.if_not rfl ?_
  show wpAny _ _ (rule "list.length-hint.len" >>= _) _ _ _
  refine wpAny_bind (wpAny_rule ?_)
  refine wpAny_bind (wpAny_attempt ?_)
  refine PySem.W.len_K hF I.ok.mod.kin J hi hf ?_
  refine wpAny_call (codeAny_mono (G A1.in1 X.stack s H a dx t fs zs (fun v H' => v = .int zs.length ∧ H' = H) (fun _ _ _ => False) sb.room hg (env1 sb I) ha hl hq ⟨rfl, rfl⟩) fun z s' hq => ?_)
  cases z with
  | error e => exact (no_err hq).elim
  | ok fl =>
    cases fl with
    | ret u =>
      obtain ⟨v, H1, I1, r1, ev, eH⟩ := I.after hq
      subst ev eH
      obtain ⟨t1, rfl⟩ := r1
      refine ⟨⟨by omega, by omega⟩, ?_⟩
      refine wpAny_bind (wpAny_of_eq (a := some (zs.length : Int)) (by rfl) ?_)
      show wpAny _ _ (if Builtin.List.listTooLong (zs.length : Int).toNat = true then _ else _) _ _ _
      have hs : sizeLine = 16777216 := sizeLine_eq
      have e : Builtin.List.listTooLong (zs.length : Int).toNat = false := by
        unfold Builtin.List.listTooLong
        first
          | (simp; omega)
          | (rw [decide_eq_false]; omega)
      rw [e]
      exact wpAny_pure (h _ _ (I1.tok _))
    | next => exact False.elim hq
    | brk => exact False.elim hq
    | cont => exact False.elim hq
end

section
variable {X : Cx} {pins : List (Addr × Obj)} {σ : L2.St} {A1 : Around} {H : Hp} {s : Shared}
theorem own_ext1 {k : Nat} {fi fl C a dx t q : Addr} {fld : Str} {fs : List (Str × V)} {zs : List V} {Rs : Result → Shared → Prop} (sb : Sub X (k + 1) A1.in1) (hg : A1.guards = some []) (hh : A1.in1.handled = Option.none)
    (hi : PySem.W.findIn X.K (.ref C) "__iter__" = some (some (.ref fi))) (hif : PySem.W.isFn X.K (.ref fi) = true) (GI : ItF X.prog X.w X.K X.mg X.base k fi C fld)
    (hn : PySem.W.findIn X.K (.ref C) "__len__" = some (some (.ref fl))) (hnf : PySem.W.isFn X.K (.ref fl) = true) (GL : LenF X.prog X.w X.K X.mg X.base k fl C fld)
    (I : Inv X pins σ H s) (ha : H a = some (.ins C dx fs)) (hl : fs.lookup fld = some (.ref t)) (ht : SqT X.K H t zs) (hz : zs.length ≤ sizeLine) (hq : H q = some (.lst [])) (hqt : q ≠ t) (hE : ∀ s, Inv X pins σ (upd H q (.lst zs)) s → Rs (.ok (.ret .none)) s) :
    wpAny (model X.prog X.w) A1.in1 (Builtin.List.listExtendWith (.ref q) (.ref a) .none)
      (fun fin s' => match fin with | .done f => Rs (.ok f) s' | .again c' => c'.quiet = true ∧ codeAny (model X.prog X.w) A1 c' Rs s') (fun e s' => Rs (.error e) s') s := by
  have hsz : sizeLine = 16777216 := sizeLine_eq
  have hne : q ≠ a := ne_of hq ha (fun z => nomatch z)
  obtain ⟨mA, J, _⟩ := ins_get I.hok ha
  obtain ⟨od, J, _⟩ := J.look
  unfold Builtin.List.listExtendWith
  refine wpAny_bind (J.type.here ?_)
  have h1 : Builtin.List.listSameRef (.ref q) (.ref a) = false := by simp [Builtin.List.listSameRef, hne]
  have h2 : (Value.ref C == Value.type "list") = false := rfl
  have h3 : (Value.ref C == Value.type "tuple") = false := rfl
  simp only [h1, h2, h3, Bool.or_false, Bool.false_eq_true, if_false]
  refine wpAny_bind (own_iter1 (A1 := A1) (k := k) (sb.mono (Nat.le_succ k)) hg hi hif GI I ha hl ht fun it s2 hit hle I2 => ?_)
  have hqi : q ≠ it := fun z => by rw [z, hit] at hq; cases hq
  have hai : a ≠ it := fun z => by rw [z, hit] at ha; cases ha
  have st : s2.heap.IsTupleIter it t 0 := (I2.hok it _ upd_same).1
  have hd := ItX.inv_drop I2 (φ := fun h => h.IsTupleIter it t 0) upd_same
  have hfp := ItX.inv_fp I2 (u := TItO t it 0) upd_same (Nat.le_trans I.sz hle)
  rw [ItX.dropH_upd hit] at hd hfp
  have ha2 : upd H it (TItO t it 0) a = some (.ins C dx fs) := by rw [upd_ne hai]; exact ha
  have hti : it ≠ t := fun z => by
    obtain ⟨its, rv, pl, _⟩ := I.tuple ht
    obtain ⟨o, ho, _⟩ := pl
    have := Heap.lt_size ho
    exact absurd this (Nat.not_lt.mpr (by rw [← z]; exact hle))
  have ht2 : SqT X.K (upd H it (TItO t it 0)) t zs := sqT_upd ht hti
  refine wpAny_bind (wpAny_holding (own_hint1 (A1 := A1.in1) (k := k) sb.in1 hg hn hnf GL I2 ha2 hl ht2 (by omega) fun b s3 I3 => ?_))
  have st3 : s3.heap.IsTupleIter it t 0 := (I3.hok it _ upd_same).1
  have hd3 := ItX.inv_drop I3 (φ := fun h => h.IsTupleIter it t 0) upd_same
  have hfp3 := ItX.inv_fp I3 (u := TItO t it 0) upd_same (Nat.le_trans I.sz hle)
  rw [ItX.dropH_upd hit] at hd3 hfp3
  have fin : ∀ s4, Inv X pins σ H s4 → s4.heap.IsTupleIter it t 0 → FpOk X pins H it → codeAny (model X.prog X.w) A1 (.builtin "list.extend.loop" ⟨[.ref q, .ref it, .none], []⟩) Rs s4 := fun s4 I4 st4 fp4 =>
    tup_loop (zs := zs) (H0 := H) hh hqt hqi hz hE zs.length 0 H s4 (by omega) (Nat.zero_le _) I4 fp4 st4 ht (by
      rw [List.take_zero]
      funext b
      by_cases hb : b = q
      · rw [hb, upd_same, hq]
      · rw [upd_ne hb])
  obtain ⟨z, its, kk, r3, hl3, e3⟩ := hd3.lstM hq
  cases r3
  refine wpAny_ite_split (fun _ => ?_) (fun _ => wpAny_pure ⟨plainId_quiet PySem.F.plain_extend_loop _, fin s3 hd3 st3 hfp3⟩)
  refine wpAny_bind (wpAny_rule ?_)
  refine wpAny_bind ?_
  show wpAny _ _ (updateSeq q (·.push .none) >>= fun _ => updateSeq q (·.pop)) _ _ _
  refine wpAny_bind (wpAny_updateSeq e3 rfl ?_)
  have I5 := hd3.lset (f := (·.push Value.none)) (its' := [Value.none]) (ys := [.non]) (t' := s3.toks) hq e3 (by simp) (.cons rfl .nil) (by rw [List.length_singleton, sizeLine_eq]; decide)
  obtain ⟨z4, its4, k4, r4, hl4, e4⟩ := I5.lstM upd_same
  obtain ⟨u4, rfl, ru4⟩ := r4.one
  refine wpAny_updateSeq e4 rfl ?_ (by show 1 ≤ sizeLine; rw [sizeLine_eq]; decide) (by show 0 ≤ sizeLine + 1; exact Nat.zero_le _)
  have I6 := I5.lset (f := (·.pop)) (its := [u4]) (its' := []) (ys := []) (t' := s3.toks) upd_same e4 (by rfl) .nil (Nat.zero_le _)
  rw [upd_upd] at I6
  have hH : upd H q (.lst []) = H := by
    funext b
    by_cases hb : b = q
    · rw [hb, upd_same, hq]
    · rw [upd_ne hb]
  rw [hH] at I6
  exact wpAny_pure ⟨plainId_quiet PySem.F.plain_extend_loop _, fin _ I6 ((st3.at fun o ho => (Heap.get?_update_other _ _ hqi).trans ho).at fun o ho => (Heap.get?_update_other _ _ hqi).trans ho) hfp3⟩
end

/-- list(o) -/
def rListO (T : Tb) (K : PySem.W.Frag) (c fld : Nat) : List V → Hp → VK → Prop := fun xs H Q => ∃ a dx t fs zs, xs = [.ref a] ∧ H a = some (.ins (T.ca K c) dx fs) ∧ fs.lookup (T.fd fld) = some (.ref t) ∧ SqT K H t zs ∧ zs.length ≤ sizeLine ∧
  ∀ q, H q = none → Q (.ref q) (upd H q (.lst zs))
section
variable {T : Tb} {X : Cx} {E : XS} {c fld j k : Nat}
theorem call_listO (cg : Cg X E k) (FI : ItM T X.prog X.w X.K X.mg X.base j c fld) (FL : LnM T X.prog X.w X.K X.mg X.base j c fld) (hj : j + 3 ≤ k := by decide) : CallR X (.type "list") (rListO T X.K c fld) := by
  obtain ⟨fi, hi, hif, GI⟩ := FI.ex
  obtain ⟨fl, hn, hnf, GL⟩ := FL.ex
  intro pins s σ H xs us Q I rv h
  obtain ⟨a, dx, t, fs, zs, rfl, ha, hl, ht, hz, hq⟩ := h
  obtain ⟨u, rfl, ru⟩ := rv.one
  cases ru
  have sb : Sub X (j + 1) X.A.in1.in1 := (Sub.in1 (Sub.in1 (⟨cg.room.mono hj, rfl⟩ : Sub X (j + 3) X.A)))
  refine callType_codes (Q₁ := fun obj s₁ => obj = .ref s.heap.objs.size ∧ s₁ = { s with heap := s.heap.push { cls := .type "list", data := .seq #[] } }) PySem.F.called_list (PySem.F.typeCall_list_1 _) PySem.F.entry_list_init
    (code_list_new _ ⟨rfl, rfl⟩) fun obj s₁ h₁ => ?_
  obtain ⟨rfl, rfl⟩ := h₁
  have hS : (s.heap.push { cls := .type "list", data := .seq #[] }).get? s.heap.objs.size = some { cls := .type "list", data := .seq #[] } := Heap.get?_push_size _ rfl
  refine ⟨⟨_, hS, rfl⟩, PySem.F.args_list_init_2 _ _, ?_⟩
  have fr : H s.heap.objs.size = none := I.hok.fresh (Nat.le_refl _)
  have hqt : s.heap.objs.size ≠ t := fun z => by
    obtain ⟨its, rv, pl, _⟩ := I.tuple ht
    obtain ⟨o, ho, _⟩ := pl
    have := Heap.lt_size ho
    exact absurd this (by rw [z]; exact Nat.lt_irrefl _)
  have I1 : Inv X pins σ (upd H s.heap.objs.size (.lst [])) { s with heap := s.heap.push { cls := .type "list", data := .seq #[] } } := I.lnew (its := []) (t' := s.toks) .nil (Nat.zero_le _)
  show wpAny _ _ (do let old ← Builtin.List.listItems (.ref s.heap.objs.size); Builtin.List.listUpdate (.ref s.heap.objs.size) (fun _ => #[]); letGo old.toList.reverse; Builtin.List.listExtendWith (.ref s.heap.objs.size) (.ref a) .none) _ _ _
  refine wpAny_bind ?_
  unfold Builtin.List.listItems
  refine wpAny_bind (wpAny_seqItems hS rfl (wpAny_pure ?_))
  show wpAny _ _ (updateSeq s.heap.objs.size (fun _ => #[]) >>= fun _ => letGo (#[] : Array Value).toList.reverse >>= fun _ => Builtin.List.listExtendWith (.ref s.heap.objs.size) (.ref a) .none) _ _ _
  refine wpAny_bind (wpAny_updateSeq hS rfl ?_)
  have I2 := I1.lset (f := fun _ => #[]) (its := []) (its' := []) (ys := []) (t' := s.toks) upd_same hS rfl .nil (Nat.zero_le _)
  rw [upd_upd] at I2
  refine wpAny_bind (wpAny_letGo ?_)
  have ha2 : upd H s.heap.objs.size (.lst []) a = some (.ins (T.ca X.K c) dx fs) := by rw [upd_ne (ne_of_none ha fr)]; exact ha
  exact own_ext1 (A1 := X.A.in1) (Rs := wants (fun r s₂ => r = .none ∧ EP X pins σ Q (.ref s.heap.objs.size) s₂) X.xe) sb cg.gd (I.ok.hd cg.calm) hi hif GI hn hnf GL I2 ha2 hl (sqT_upd ht hqt) hz upd_same hqt
    (fun s' I' => ⟨rfl, .ref s.heap.objs.size, _, by rw [upd_upd] at I'; exact I', rfl, hq _ fr⟩)
end
/-- list(o), o an instance of the class c whose __iter__ gives iter(self.fld), whose __len__ gives its length -/
def listX (T : Tb) (c fld : Nat) (mk : List PV → Sto → Out PV) (f : List PV → Sto → Out PV) (xs : List PV) (S : Sto) : Out PV := match xs with
  | [x] => if isIns c x S = true then (match ownIt T c fld x S with
    | .ok it S1 => mk it.items S1
    | _ => .bad) else f [x] S
  | xs => f xs S
theorem ownIt_shape {T : Tb} {c fld : Nat} {x : PV} {S S1 : Sto} {it : ItZ} (h : ownIt T c fld x S = .ok it S1) : S1 = S ∧ ∃ fs xs y, view x S = some (.ins c fs, xs) ∧ T.okf c fld = true ∧ fs.all (T.okf c) = true ∧ fLook fs xs fld = some y ∧ view y S = some (.tup, it.items) := by
  unfold ownIt at h
  split at h
  · rename_i hi
    split at h
    · rename_i c' fs xs hv
      have ec : c' = c := by
        unfold isIns at hi
        rw [hv] at hi
        exact beq_iff_eq.mp hi
      subst ec
      split at h
      · rename_i hc
        split at h
        · rename_i y hy
          unfold tupOf at h
          split at h
          · rename_i ys hvy
            cases h
            exact ⟨rfl, fs, xs, y, hv, hc.1, hc.2, hy, hvy⟩
          · cases h
        · cases h
      · cases h
    · cases h
  · cases h
theorem ce_listX {T : Tb} {K : PySem.W.Frag} {E : XK} {c fld : Nat} {f mk : List PV → Sto → Out PV} {r : List V → Hp → VK → Prop} (O : TbOk T K) (hf : CalE T K E f r)
    (hmk : ∀ {R : Pl} {F H : Hp} {S : Sto} {xs : List PV} {us : List V} {Q : VK}, Rep T K R F S H → RelL T K R F xs us → OkV T K R F (mk xs S) Q E → us.length ≤ sizeLine ∧ ∀ q, H q = none → Q (.ref q) (upd H q (.lst us))) :
    CalE T K E (listX T c fld mk f) (fun xs H Q => rListO T K c fld xs H Q ∨ r xs H Q) := by
  intro R F H S xs us Q re rx h
  unfold listX at h
  split at h
  · rename_i x
    split at h
    · rename_i hi
      obtain ⟨u, rfl, ru⟩ := rel1 rx
      split at h
      · rename_i it S1 ho
        obtain ⟨rfl, fs, xs, y, hv, hc1, hc2, hy, hvy⟩ := ownIt_shape ho
        obtain ⟨a, us, rfl, hs, hl⟩ := view_rel re ru hv
        obtain ⟨hlen, dx, ha⟩ := hs
        obtain ⟨hfl, _, _⟩ := O.ok c fld hc1
        obtain ⟨w, h1, h2⟩ := fLook_rel O hfl (all_lt O hc2) hl hy
        obtain ⟨t, zs, ew, hs2, hl2⟩ := view_rel re h2 hvy
        subst ew
        obtain ⟨hz, hq⟩ := hmk re hl2 h
        exact .inl ⟨a, dx, t, _, zs, rfl, ha, h1, (shp_rd hs2).2 rfl, hz, hq⟩
      · exact h.elim
    · exact .inr (hf R F H S [x] us Q re rx h)
  · exact .inr (hf R F H S xs us Q re rx h)
theorem mkNd_lst {T : Tb} {K : PySem.W.Frag} {E : XK} {R : Pl} {F H : Hp} {S : Sto} {xs : List PV} {us : List V} {Q : VK} (r : Rep T K R F S H) (rx : RelL T K R F xs us) (h : OkV T K R F (mkNd .lst xs S) Q E) : us.length ≤ sizeLine ∧ ∀ q, H q = none → Q (.ref q) (upd H q (.lst us)) := by
  unfold mkNd at h
  split at h
  · rename_i hz
    exact ⟨sz16 (by rw [rx.length]; exact hz), fun q hq => PostV.new (k := .lst) r hq upd_same rx h⟩
  · exact h.elim
theorem mkRf_lst {T : Tb} {K : PySem.W.Frag} {E : XK} {R : Pl} {F H : Hp} {S : Sto} {xs : List PV} {us : List V} {Q : VK} (r : Rep T K R F S H) (rx : RelL T K R F xs us) (h : OkV T K R F (mkRf .lst xs S) Q E) : us.length ≤ sizeLine ∧ ∀ q, H q = none → Q (.ref q) (upd H q (.lst us)) := by
  unfold mkRf at h
  split at h
  · rename_i hz
    exact ⟨sz16 (by rw [rx.length]; exact hz), fun q hq => PostV.newM (k := .lst) r hq upd_same rx h⟩
  · exact h.elim
section
variable {T : Tb} {X : Cx} {E : XK} {e : Expr} {es : List Expr} {ar : DA} {p pos : Pos} {f : List PV → Sto → Out PV} {r : List V → Hp → VK → Prop} {x : Str}
theorem je_callTE {n : String} (hc : CallR X (.type n) r) (hz : CalE T X.K E f r) (hm : X.mg x = none) (ha : JA T X (fun _ => E) (e :: es) ar) (hg : Gl X x := by rfl) (hv : bootBuiltins x = some (.type n) := by rfl) (hn : x ≠ "__name__" := by decide) (hdb : (x == ("__debug__" : Str)) = false := by decide)
    (he : starEach (e :: es) X.env = (false, eval e X.env) :: starEach es X.env := by rfl) (hpl : (backTo pos (starEach es X.env)).any (·.1) = false := by rfl) : JE T X (fun _ => E) (.Call (.Name x p) (e :: es) [] pos) (dApp f ar) :=
  pe_imp (pe_callTy hc hg hm hv ha hn hdb he hpl) fun _ _ _ h => app_tCBE hz h
end
end Z
end
end
section
set_option Elab.async false
set_option linter.all false
set_option maxRecDepth 100000
set_option maxHeartbeats 1000000
/-! ZP: a def that gets no places: reckoned over an empty store, the places set aside meanwhile. -/
noncomputable section
namespace Z
open PySem PySem.Spec PyProof.Rows L2

mutual
theorem clo_rel {T : Tb} {K : PySem.W.Frag} {R R' : Pl} {F : Hp} : ∀ (x : PV) (u : V), fits 0 x = true → Rel T K R F x u → Rel T K R' F x u
  | .non, u, _, h => by rw [Rel] at h ⊢; exact h
  | .bl b, u, _, h => by rw [Rel] at h ⊢; exact h
  | .int i, u, _, h => by rw [Rel] at h ⊢; exact h
  | .str s, u, _, h => by rw [Rel] at h ⊢; exact h
  | .ty n, u, _, h => by rw [Rel] at h ⊢; exact h
  | .cls c, u, _, h => by rw [Rel] at h ⊢; exact h
  | .ref m, u, f, h => by
    rw [fits] at f
    exact absurd (of_decide_eq_true f) (Nat.not_lt_zero m)
  | .nd k xs, u, f, h => by
    rw [fits] at f
    rw [Rel] at h ⊢
    obtain ⟨a, us, h1, h2, h3⟩ := h
    exact ⟨a, us, h1, h2, cloL_rel xs us f h3⟩
theorem cloL_rel {T : Tb} {K : PySem.W.Frag} {R R' : Pl} {F : Hp} : ∀ (xs : List PV) (us : List V), fitsL 0 xs = true → RelL T K R F xs us → RelL T K R' F xs us
  | [], us, _, h => by rw [RelL] at h ⊢; exact h
  | x :: xs, us, f, h => by
    rw [fitsL, Bool.and_eq_true] at f
    rw [RelL] at h ⊢
    obtain ⟨u, vs, h1, h2, h3⟩ := h
    exact ⟨u, vs, h1, clo_rel x u f.1 h2, cloL_rel xs vs f.2 h3⟩
end
/-- f with things that look at no place: over the empty store -/
def clo (f : List PV → Sto → Out PV) (xs : List PV) (S : Sto) : Out PV := if (fitsL 0 xs && S.all Option.isSome) = true then (match f xs [] with
  | .ok v [] => .ok v S
  | .err e [] => .err e S
  | _ => .bad) else .bad
theorem Liv.cong {T : Tb} {K : PySem.W.Frag} {H H' : Hp} {a : Addr} {k : Kd} {us : List V} (e : H' a = H a) (h : Liv T K H a k us) : Liv T K H' a k us := by
  cases k with
  | tup => exact h.elim
  | scr => exact h.elim
  | lst => exact e.trans h
  | dct t ks => cases t <;> (obtain ⟨q1, kk, q2, q3⟩ := h; exact ⟨q1, kk, q2, e.trans q3⟩)
  | ins c fs => obtain ⟨q1, dx, q2⟩ := h; exact ⟨q1, dx, e.trans q2⟩
  | exn c fs => exact h.elim
  | clo a0 c0 q0 us0 => exact h.elim
theorem Liv.hid {T : Tb} {K : PySem.W.Frag} {H : Hp} {a : Addr} {k : Kd} {us : List V} (h : Liv T K H a k us) : ∃ o, H a = some o ∧ hidO o = true := by
  cases k with
  | tup => exact h.elim
  | scr => exact h.elim
  | lst => exact ⟨_, h, rfl⟩
  | dct t ks => cases t <;> (obtain ⟨q1, kk, q2, q3⟩ := h; exact ⟨_, q3, rfl⟩)
  | ins c fs => obtain ⟨q1, dx, q2⟩ := h; exact ⟨_, q2, rfl⟩
  | exn c fs => exact h.elim
  | clo a0 c0 q0 us0 => exact h.elim
section
variable {T : Tb} {K : PySem.W.Frag} {R : Pl} {F H : Hp} {S : Sto}
theorem all_live (r : Rep T K R F S H) (hS : S.all Option.isSome = true) : ∀ a ∈ R.as, F a = none ∧ ∃ o, H a = some o ∧ hidO o = true := fun a ha => by
  obtain ⟨n, hn, e⟩ := List.getElem_of_mem ha
  have h1 : R.as[n]? = some a := by rw [List.getElem?_eq_getElem hn, e]
  have hn2 : n < S.length := by rw [← r.len]; exact hn
  have h2 := List.all_eq_true.mp hS S[n] (List.getElem_mem hn2)
  obtain ⟨⟨k, xs⟩, h3⟩ := Option.isSome_iff_exists.mp h2
  obtain ⟨h4, us, h5, h6⟩ := r.live n a k xs h1 (by rw [List.getElem?_eq_getElem hn2, h3])
  exact ⟨h4, h5.hid⟩
def Pl.off (R : Pl) (H : Hp) : Pl := ⟨[], (R.as.map fun a => (a, (H a).getD (.lst []))) ++ R.hid⟩
theorem Rep.off (r : Rep T K R F S H) (hS : S.all Option.isSome = true) : Rep T K (R.off H) F [] H where
  ex := r.ex
  len := rfl
  nd := List.nodup_nil
  there := fun a ha => nomatch ha
  hid := fun p hp => by
    rcases List.mem_append.mp hp with q | q
    · obtain ⟨a, ha, rfl⟩ := List.mem_map.mp q
      obtain ⟨h1, o, h2, _⟩ := all_live r hS a ha
      exact ⟨by show H a = some ((H a).getD _); rw [h2]; rfl, (fun z => nomatch z), h1⟩
    · exact ⟨(r.hid p q).1, (fun z => nomatch z), (r.hid p q).2.2⟩
  hidt := fun p hp => by
    rcases List.mem_append.mp hp with q | q
    · obtain ⟨a, ha, rfl⟩ := List.mem_map.mp q
      obtain ⟨h1, o, h2, h3⟩ := all_live r hS a ha
      show hidO ((H a).getD _) = true
      rw [h2]; exact h3
    · exact r.hidt p q
  ntb := r.ntb
  tabs := r.tabs
  hidnd := by
    show (((R.as.map fun a => (a, (H a).getD (.lst []))) ++ R.hid).map Prod.fst).Nodup
    rw [List.map_append, List.map_map]
    have e : (R.as.map (Prod.fst ∘ fun a => (a, (H a).getD (HO.lst [])))) = R.as := by
      rw [show (Prod.fst ∘ fun a => (a, (H a).getD (HO.lst []))) = id from rfl, List.map_id]
    rw [e, List.nodup_append]
    refine ⟨r.nd, r.hidnd, fun a ha b hb z => ?_⟩
    obtain ⟨p, hp, rfl⟩ := List.mem_map.mp hb
    exact (r.hid p hp).2.1 (z ▸ ha)
  live := fun n a k xs h1 h2 => by cases h2
theorem Rep.back (r : Rep T K R F S H) (hS : S.all Option.isSome = true) {R' : Pl} {F' H' : Hp} (p : Pl.le (R.off H) R') (x : Ex F F') (r' : Rep T K R' F' [] H') : Rep T K R F' S H' where
  ex := r'.ex
  len := r.len
  nd := r.nd
  there := fun a ha => by
    obtain ⟨h1, o, h2, h3⟩ := all_live r hS a ha
    have hm : (a, o) ∈ R'.hid := by
      rw [p.2]
      refine List.mem_append_left _ (List.mem_map.mpr ⟨a, ha, ?_⟩)
      rw [h2]; rfl
    have := (r'.hid _ hm).1
    have this : H' a = some o := this
    rw [this]
    exact ⟨(fun z => nomatch z), fun ps z => by cases z; cases h3⟩
  hid := fun q hq => by
    have hm : q ∈ R'.hid := by rw [p.2]; exact List.mem_append_right _ hq
    exact ⟨(r'.hid q hm).1, (r.hid q hq).2.1, (r'.hid q hm).2.2⟩
  hidt := r.hidt
  ntb := r'.ntb
  tabs := r'.tabs
  hidnd := r.hidnd
  live := fun n a k xs h1 h2 => by
    have ha : a ∈ R.as := List.mem_of_getElem? h1
    obtain ⟨_, o, h3, h4⟩ := all_live r hS a ha
    have hm : (a, o) ∈ R'.hid := by
      rw [p.2]
      refine List.mem_append_left _ (List.mem_map.mpr ⟨a, ha, ?_⟩)
      rw [h3]; rfl
    obtain ⟨_, us, h5, h6⟩ := r.live n a k xs h1 h2
    exact ⟨(r'.hid _ hm).2.2, us, h5.cong ((r'.hid _ hm).1.trans h3.symm), h6.mono (Pl.refl R) x⟩
theorem clo_ok {f : List PV → Sto → Out PV} {E : XK} {Q : VK} {xs : List PV} {us : List V} (r : Rep T K R F S H) (rx : RelL T K R F xs us) (h : OkV T K R F (clo f xs S) Q E) :
    ∃ R' S', Rep T K R' F S' H ∧ RelL T K R' F xs us ∧ OkV T K R' F (f xs S') Q E := by
  unfold clo at h
  split at h
  · rename_i hc
    obtain ⟨h1, h2⟩ := Bool.and_eq_true_iff.mp hc
    refine ⟨R.off H, [], r.off h2, cloL_rel xs us h1 rx, ?_⟩
    split at h
    · rename_i v ho
      rw [ho]
      intro R' F' H' u p x r' rv
      have e : R'.as = [] := List.eq_nil_of_length_eq_zero r'.len
      exact h R F' H' u (Pl.refl R) x (r.back h2 p x r') (rv.mono0 (by rw [e]; exact List.nil_prefix) (Ex.refl F'))
    · rename_i e ho
      rw [ho]
      intro R' F' H' cls d p x r' re
      have e' : R'.as = [] := List.eq_nil_of_length_eq_zero r'.len
      refine h R F' H' cls d (Pl.refl R) x (r.back h2 p x r') ⟨re.1, ?_⟩
      rcases re.2 with q | ⟨dd, ws, q1, q2, q3, q4, q5⟩
      · exact .inl q
      · exact .inr ⟨dd, ws, q1, q2, q3, q4, q5.mono0 (by rw [e']; exact List.nil_prefix) (Ex.refl F')⟩
    · exact h.elim
  · exact h.elim
end
section
variable {T : Tb} {P : Program} {w : World} {K : PySem.W.Frag} {mg : Str → Option Value} {base : Heap} {k : Nat} {d : DF} {ps : List Str}
theorem FnG.clo {f : Addr} {fd : FuncData} (G : FnG T P w K mg base k f fd ps d) : FnG T P w K mg base k f fd ps (Z.clo d) :=
  ⟨fun A outer s H args us vs Q E hr hg e0 hb hv ⟨hl, R, F, S, xs, r, rx, h⟩ =>
    let ⟨R', S', r', rx', h'⟩ := clo_ok r rx h
    G.run A outer s H args us vs Q E hr hg e0 hb hv ⟨hl, R', F, S', xs, r', rx', h'⟩⟩
theorem clo_bad {xs : List PV} (h : ∀ S, d xs S = .bad) (S : Sto) : Z.clo d xs S = .bad := by
  unfold Z.clo
  rw [h]
  split <;> rfl
theorem Fn.clo {x : Str} (F : Fn T P w K mg base k x ps d) : Fn T P w K mg base k x ps (Z.clo d) := by
  obtain ⟨f, fd, h1, h2, h3, h4⟩ := F.ex
  exact ⟨⟨f, fd, h1, h2, h3.clo, h4⟩, fun xs S hl => clo_bad (fun S => F.ar xs S hl) S⟩
theorem FnP.clo {f : Addr} (G : FnP T P w K mg base k f d) : FnP T P w K mg base k f (Z.clo d) :=
  fun A outer s H us vs Q E hr hg e0 hv ⟨R, F, S, xs, r, rx, h⟩ =>
    let ⟨R', S', r', rx', h'⟩ := clo_ok r rx h
    G A outer s H us vs Q E hr hg e0 hv ⟨R', F, S', xs, r', rx', h'⟩
theorem FnV.clo {x : Str} (F : FnV T P w K mg base k x d) : FnV T P w K mg base k x (Z.clo d) := by
  obtain ⟨f, h1, h2, h3⟩ := F.ex
  exact ⟨f, h1, h2, h3.clo⟩
theorem StatM.clo {c : Nat} {m : Str} (F : StatM T P w K mg base k c m d) : StatM T P w K mg base k c m (Z.clo d) := by
  obtain ⟨p, g, rest, h1, h2, h3, h4, h5⟩ := F.ex
  exact ⟨p, g, rest, h1, h2, h3, h4, h5.clo⟩
theorem FnM.clo {c : Nat} {m : Str} (F : FnM T P w K mg base k c m ps d) : FnM T P w K mg base k c m ps (Z.clo d) := by
  obtain ⟨f, fd, h1, h2, h3, h4⟩ := F.ex
  exact ⟨⟨f, fd, h1, h2, h3.clo, h4⟩, fun xs S hl => clo_bad (fun S => F.ar xs S hl) S⟩
theorem FnMP.clo {c : Nat} {m : Str} (F : FnMP T P w K mg base k c m d) : FnMP T P w K mg base k c m (Z.clo d) := by
  obtain ⟨f, h1, h2, h3⟩ := F.ex
  exact ⟨f, h1, h2, h3.clo⟩
end
section
variable {T : Tb} {X : Cx} {E : XS} {x : Str} {e : Expr} {es : List Expr} {ar : DA} {d : DF} {p pos kpos : Pos} {c : Nat} {ps : List Str} {j k : Nat} {kws : List Keyword}
theorem newF_hk {Q : VK} {E : XK} {K : PySem.W.Frag} {R : Pl} {Fz H : Hp} {S : Sto} {xs : List PV} {us : List V} (r : Rep T K R Fz S H) (rx : RelL T K R Fz xs us) (h : OkV T K R Fz (clo (newF c d) xs S) Q E) : ∃ R' S', Rep T K R' Fz S' H ∧ RelL T K R' Fz xs us ∧ OkV T K R' Fz (newP c d xs S') Q E :=
  let ⟨R', S', r', rx', h'⟩ := clo_ok r rx h
  ⟨R', S', r', rx', shut_ok r' h'⟩
theorem je_newC (cg : Cg X E k) (F : NewC T X.prog X.w X.K X.mg X.base j x c ps d) (ha : JA T X E (e :: es) ar) (hj : j + 1 ≤ k := by decide) (hg : Gl X x := by rfl) (hdb : (x == ("__debug__" : Str)) = false := by decide)
    (he : starEach (e :: es) X.env = (false, eval e X.env) :: starEach es X.env := by rfl) (hpl : (backTo pos (starEach es X.env)).any (·.1) = false := by rfl) : JE T X E (.Call (.Name x p) (e :: es) [] pos) (dApp (clo (newF c d)) ar) :=
  je_newG cg F (fun r rx h => newF_hk r rx h) ha hj hg hdb he hpl
theorem je_newCK {kw : Keyword} (cg : Cg X E k) (F : NewC T X.prog X.w X.K X.mg X.base j x c ps d) (ha : JK T X E (kw :: kws) ar) (hj : j + 1 ≤ k := by decide) (hg : Gl X x := by rfl) (hdb : (x == ("__debug__" : Str)) = false := by decide)
    (hall : (backToKw pos (keywordEach (kw :: kws) X.env)).all (·.1.isSome) = true := by rfl) (hks : (backToKw pos (keywordEach (kw :: kws) X.env)).filterMap (·.1) = ps.tail := by rfl)
    (hpl : ((backTo pos (starEach [] X.env)).any (·.1) || (backToKw pos (keywordEach (kw :: kws) X.env)).any (·.1.isNone)) = false := by rfl) : JE T X E (.Call (.Name x p) [] (kw :: kws) pos) (dApp (clo (newF c d)) ar) :=
  je_newGK cg F (fun r rx h => newF_hk r rx h) ha hj hg hdb hall hks hpl
end

/-! ### what is not covered; one of two readings -/
def dBad : DE := fun _ _ => .bad
def dBadI : DI := fun _ _ => .bad
def dEi (a b : DE) : DE := fun l S => match a l S with
  | .bad => b l S
  | o => o
section
variable {T : Tb} {X : Cx} {E : XS} {e tg : Expr} {a b : DE}
theorem je_bad : JE T X E e dBad := ⟨fun pins s σ H Q I ⟨_, _, _, _, _, _, h⟩ => h.elim⟩
theorem ji_bad : JI T X E tg e dBadI := ⟨fun pins s σ H Q I ⟨_, _, _, _, _, _, h⟩ => h.elim⟩
theorem je_ei (ha : JE T X E e a) (hb : JE T X E e b) : JE T X E e (dEi a b) := ⟨fun pins s σ H Q I ⟨R, F, l, S, r, re, h⟩ => by
  unfold dEi at h
  cases hd : a l S with
  | bad => rw [hd] at h; exact hb.run pins s σ H Q I ⟨R, F, l, S, r, re, h⟩
  | ok v S1 => rw [hd] at h; exact ha.run pins s σ H Q I ⟨R, F, l, S, r, re, by rw [hd]; exact h⟩
  | err v S1 => rw [hd] at h; exact ha.run pins s σ H Q I ⟨R, F, l, S, r, re, by rw [hd]; exact h⟩⟩
/-- one of two ways to walk -/
def dEiI (a b : DI) : DI := fun l S => match a l S with
  | .bad => b l S
  | o => o
theorem ji_ei {a b : DI} (ha : JI T X E tg e a) (hb : JI T X E tg e b) : JI T X E tg e (dEiI a b) := ⟨fun pins s σ H Q I ⟨R, F, l, S, r, re, h⟩ => by
  unfold dEiI at h
  cases hd : a l S with
  | bad => rw [hd] at h; exact hb.run pins s σ H Q I ⟨R, F, l, S, r, re, h⟩
  | ok v S1 => rw [hd] at h; exact ha.run pins s σ H Q I ⟨R, F, l, S, r, re, by rw [hd]; exact h⟩
  | err v S1 => rw [hd] at h; exact ha.run pins s σ H Q I ⟨R, F, l, S, r, re, by rw [hd]; exact h⟩⟩
end
/-! ### methods as the head tells them -/
theorem kwm_of {K : PySem.W.Frag} {x qual : Str} {params : Arguments} {body : List Stmt} {scope : Scope} {kws : List (Str × V)} {f : Addr} {fd : FuncData} {ps : List Str} (F : FunD K x qual params body scope [] kws f fd)
    (h : ∀ (kV doc pm : Value) (an : Option Addr) (cdv ct : Value) (v : Value) (ws : List Value), ws.length = ps.tail.length → bindArgs (PySem.W.fnOf x qual params body scope .none kV doc pm an cdv ct) ⟨[v], ps.tail.zip ws⟩ = pure (ps.zip (v :: ws))) (s : Shared) (v : Value) (ws : List Value) (hl : ws.length = ps.tail.length) : BindsTo s fd ⟨[v], ps.tail.zip ws⟩ (ps.zip (v :: ws)) := by
  obtain ⟨oc, od, dV, kV, doc, pm, an, cdv, ct, osl, rfl, lk, hcd, hD, hK⟩ := F.ex
  rcases hD with ⟨_, z⟩ | ⟨z, _⟩
  · subst z
    exact .of_eq (h kV doc pm an cdv ct v ws hl)
  · exact absurd rfl z
/-- a staticmethod's record, its def, the class -/
def stR (K : PySem.W.Frag) (C : Addr) (m : Str) : Option (Addr × Addr × Addr) := match PySem.W.findCls K (.ref C) (.type "type") m with
  | some (.get (.builtin b) (.ref p) .none (.ref C')) => if b = "staticmethod.__get__" then (match PySem.W.recIn K p "staticmethod" with
    | some (.ref g :: _) => some (p, g, C')
    | _ => none) else none
  | _ => none
def stA (K : PySem.W.Frag) (C : Addr) (m : Str) : Addr := match stR K C m with
  | some (_, g, _) => g
  | none => 0
def statB (x m : Str) (K : PySem.W.Frag) : Bool := PySem.W.readsIn K (He.ga K x) (.type "type") && (decide (PySem.W.specialIn K (.ref (He.ga K x)) "__getattribute__" = some (some (.builtin "type.__getattribute__"))) && ((match stR K (He.ga K x) m with
  | some (_, g, C') => decide (C' = He.ga K x) && PySem.W.keepIn K (.ref g)
  | none => false)))
theorem stR_ok {K : PySem.W.Frag} {C : Addr} {m : Str} {p g C' : Addr} (h : stR K C m = some (p, g, C')) : PySem.W.findCls K (.ref C) (.type "type") m = some (.get (.builtin "staticmethod.__get__") (.ref p) .none (.ref C')) ∧ ∃ rest, PySem.W.recIn K p "staticmethod" = some (.ref g :: rest) := by
  unfold stR at h
  split at h
  · rename_i b p0 C0 hf
    split at h
    · rename_i hb
      subst hb
      split at h
      · rename_i g0 rest hr
        cases h
        exact ⟨hf, rest, hr⟩
      · cases h
    · cases h
  · cases h
theorem statM_of {T : Tb} {P : Program} {w : World} {K : PySem.W.Frag} {mg : Str → Option Value} {base : Heap} {k c : Nat} {x m : Str} {d : DF} (hx : T.cn c = x) (h : statB x m K = true) (G : FnP T P w K mg base k (stA K (He.ga K x) m) d) : StatM T P w K mg base k c m d := by
  subst hx
  obtain ⟨h1, h⟩ := Bool.and_eq_true_iff.mp h
  obtain ⟨h2, h3⟩ := Bool.and_eq_true_iff.mp h
  split at h3
  · rename_i p g C' hr
    obtain ⟨h4, h5⟩ := Bool.and_eq_true_iff.mp h3
    have eg : stA K (He.ga K (T.cn c)) m = g := by unfold stA; rw [hr]
    rw [eg] at G
    obtain ⟨e1, rest, e2⟩ := stR_ok hr
    have e3 := of_decide_eq_true h4
    subst e3
    exact ⟨p, g, rest, ⟨h1, of_decide_eq_true h2⟩, e1, e2, h5, G⟩
  · cases h3
end Z
end
section
set_option Elab.async false
set_option linter.all false
set_option maxRecDepth 100000
set_option maxHeartbeats 1000000
/-! ZK: names that are forgotten, blocks whose new places go, lambdas that can be reckoned. -/
noncomputable section
namespace Z
open PySem PySem.Spec PyProof.Rows L2

/-! ### forgetting names -/
def keepL (ks : List Nat) : Nat → Loc → Loc
  | _, [] => []
  | i, v :: l => (if ks.contains i then v else none) :: keepL ks (i + 1) l
theorem keepL_len (ks : List Nat) : ∀ (i : Nat) (l : Loc), (keepL ks i l).length = l.length
  | _, [] => rfl
  | i, v :: l => by rw [keepL, List.length_cons, List.length_cons, keepL_len ks (i + 1) l]
theorem keepL_get (ks : List Nat) : ∀ (i j : Nat) (l : Loc) (v : PV), (keepL ks i l)[j]? = some (some v) → l[j]? = some (some v)
  | _, _, [], _, h => by cases h
  | i, 0, x :: l, v, h => by
    rw [keepL, List.getElem?_cons_zero] at h
    split at h
    · exact h
    · cases h
  | i, j + 1, x :: l, v, h => by
    rw [keepL, List.getElem?_cons_succ] at h
    rw [List.getElem?_cons_succ]
    exact keepL_get ks (i + 1) j l v h
def dKeep (ks : List Nat) : DS := fun l S => .nx (keepL ks 0 l) S
section
variable {T : Tb} {X : Cx} {E : XS} {sts : List Stmt} {b : DS}
theorem jb_keep (ks : List Nat) (h : JB T X E sts b) : JB T X E sts (dSeq (dKeep ks) b) :=
  pss_imp h fun D σ H ⟨R, F, l, S, r, e, q⟩ => ⟨R, F, keepL ks 0 l, S, r, ⟨by rw [keepL_len]; exact e.len, fun i v hv => e.at_ i v (keepL_get ks 0 i l v hv)⟩, q⟩
end

/-! ### a block whose new places go -/
def fitsV (n : Nat) (v : Option PV) : Bool := match v with
  | some x => fits n x
  | none => true
def shL (S : Sto) (l1 : Loc) (S1 : Sto) (k : Loc → Sto → OutS) : OutS := if S1.length ≤ S.length then k l1 S1 else if (fitsS S S1 && l1.all (fitsV S.length)) = true then k l1 (S1.take S.length) else .bad
def dShS (b : DS) : DS := fun l S => match b l S with
  | .nx l1 S1 => shL S l1 S1 .nx
  | .cnt l1 S1 => shL S l1 S1 .cnt
  | .brk l1 S1 => shL S l1 S1 .brk
  | o => o
section
variable {T : Tb} {K : PySem.W.Frag} {R : Pl} {F H : Hp} {S S1 : Sto} {l1 : Loc}
theorem postE_sh {Q : L2.St → Hp → Prop} (r0 : Rep T K R F S H) (hf : fitsS S S1 = true) (hl : l1.all (fitsV S.length) = true) (h : PostE T K R F l1 (S1.take S.length) Q) : PostE T K R F l1 S1 Q := by
  intro R' F' H' σ p x r e
  have hlen := r0.len
  have r2 := r.shut (fitsS_all r0 hf)
  rw [← hlen, take_pl p] at r2
  refine h R _ H' σ (Pl.refl R) (x.trans (melt_ex (n := R.as.length) r)) (by rw [← hlen]; exact r2) ⟨e.len, fun i v hv => ?_⟩
  obtain ⟨u, h1, h2⟩ := e.at_ i v hv
  refine ⟨u, h1, ?_⟩
  have hm := List.all_eq_true.mp hl _ (List.mem_of_getElem? hv)
  have := fits_rel (n := R.as.length) r v u (by rw [hlen]; exact hm) h2
  rw [take_pl p] at this
  exact this
theorem okS_sh {b : DS} {l : Loc} {D : Ends} {E : XS} (r0 : Rep T K R F S H) (h : OkS T K R F (dShS b l S) D E) : OkS T K R F (b l S) D E := by
  unfold dShS at h
  cases hb : b l S with
  | nx l1 S1 =>
    rw [hb] at h
    have h : OkS T K R F (shL S l1 S1 .nx) D E := h
    unfold shL at h
    split at h
    · exact h
    · split at h
      · rename_i hc
        obtain ⟨h1, h2⟩ := Bool.and_eq_true_iff.mp hc
        exact postE_sh r0 h1 h2 h
      · exact h.elim
  | cnt l1 S1 =>
    rw [hb] at h
    have h : OkS T K R F (shL S l1 S1 .cnt) D E := h
    unfold shL at h
    split at h
    · exact h
    · split at h
      · rename_i hc
        obtain ⟨h1, h2⟩ := Bool.and_eq_true_iff.mp hc
        exact postE_sh r0 h1 h2 h
      · exact h.elim
  | brk l1 S1 =>
    rw [hb] at h
    have h : OkS T K R F (shL S l1 S1 .brk) D E := h
    unfold shL at h
    split at h
    · exact h
    · split at h
      · rename_i hc
        obtain ⟨h1, h2⟩ := Bool.and_eq_true_iff.mp hc
        exact postE_sh r0 h1 h2 h
      · exact h.elim
  | ret v S1 => rw [hb] at h; exact h
  | err e l1 S1 => rw [hb] at h; exact h
  | bad => rw [hb] at h; exact h
end
section
variable {T : Tb} {X : Cx} {E : XS} {sts : List Stmt} {b : DS}
theorem jb_sh (h : JB T X E sts b) : JB T X E sts (dShS b) :=
  pss_imp h fun D σ H ⟨R, F, l, S, r, e, q⟩ => ⟨R, F, l, S, r, e, okS_sh r q⟩
end

/-! ### lambdas -/
/-- D makes nothing of which thing it is handed: it is reckoned with none -/
def dLamK (D : PV → (Sto → Out PV) → Sto → Out PV) (db : DE) : DE := fun l S => D .non (db l) S
theorem dLam_k {D : PV → (Sto → Out PV) → Sto → Out PV} (h : ∀ x0 tl S, D x0 tl S = D .non tl S) (db : DE) : dLam D db = dLamK D db := by
  funext l S
  exact dLam_eq fun x0 => h x0 (db l) S
theorem je_lamK {T : Tb} {X : Cx} {E : XS} {e : Expr} {D : PV → (Sto → Out PV) → Sto → Out PV} {db : DE} (h : ∀ x0 tl S, D x0 tl S = D .non tl S) (hj : JE T X E e (dLam D db)) : JE T X E e (dLamK D db) := by
  rw [← dLam_k h]; exact hj
/-- two ends of a body that the def does not tell apart -/
def defOut (o : OutS) : Out PV := match o with
  | .nx _ S1 => .ok .non S1
  | .ret v S1 => .ok v S1
  | .err e _ S1 => .err e S1
  | _ => .bad
theorem dDef_out (n m : Nat) (b b' : DS) (xs ys : List PV) (S : Sto) (hx : xs.length = n) (hy : ys.length = n) (h : defOut (b (xs.map some ++ List.replicate (m - n) none) S) = defOut (b' (ys.map some ++ List.replicate (m - n) none) S)) : dDef n m b xs S = dDef n m b' ys S := by
  unfold dDef
  congr 1
  unfold dDef0
  rw [if_pos hx, if_pos hy]
  exact h
theorem callT_0 {x0 : PV} {tl : Sto → Out PV} {l : Loc} {S : Sto} : dCallT x0 0 tl (some x0 :: l) S = tl S := callT_eq rfl

/-! ### t * k, t a tuple -/
theorem tuple_mul1W (l : Addr) (items : Array Value) (n : Nat) (dd : Option Addr) (sl : Array (Option Value)) (u : Tok) :
    Meets (Builtin.«tuple.__mul__» ⟨[.ref l, .int 1 u], []⟩) (fun _ R s => s.heap.get? l = some { cls := .type "tuple", dict := dd, data := .seq items n, slots := sl } ∧
      R (.ok (.ret (Value.ref l))) s) :=
  .of_wp fun prog w A R s h => by
    obtain ⟨hp, g, d, tk, os⟩ := s
    obtain ⟨hl, h⟩ := h
    have f1 := AutoSeq1.idx_int
    have c0 : (decide ((1 : Int) < -(2 ^ 63)) || decide ((1 : Int) ≥ 2 ^ 63)) = false := by decide
    have c1 : (items.isEmpty || (1 : Int) == 1) = true := by simp
    wp_walk using wpAny_loadPart' hl
    repeat (first
      | (refine wpAny_ite_false (decide_eq_false (by rw [c0]; exact Bool.false_ne_true)) ?_; wp_walk using wpAny_loadPart' hl)
      | (refine wpAny_ite_true (decide_eq_true c1) ?_; wp_walk using wpAny_loadPart' hl))
    exact ⟨_, rfl, h⟩
def rRep1 (K : PySem.W.Frag) : R2 := fun x y H Q => ∃ l xs, x = .ref l ∧ y = .int 1 ∧ SqT K H l xs ∧ Q (.ref l) H
theorem op_rep1 {X : Cx} : OpR X (binaryOp .Mult) (rRep1 X.K) := by
  intro pins s σ H x y v u Q I rx ry h
  obtain ⟨l, xs, rfl, rfl, hT, q⟩ := h
  cases rx
  obtain ⟨t, rfl⟩ := ry
  obtain ⟨its, r, ⟨⟨cls, dd, data, sl⟩, ho, hc, n, hd⟩, hs⟩ := I.tuple hT
  simp only at hc hd
  subst hc hd
  refine wpAny_binaryOp_repeat_ref (T := "tuple") (U := "int") (by decide) ⟨_, ho, rfl⟩ (fun s' => typeIs_int s' 1 t) noFill_tuple_mul F.fills_int_mul F.slot_int_rmul repeat_tuple F.slot_int_index.lookup
    (call_meets F.slot_int_rmul (typeIs_int s 1 t) F.entry_int_rmul (F.args_int_rmul_2 _ _) (int_rmul_tuple 1 t l its.toArray n dd sl)
      ⟨ho, rfl, ⟨_, ho, rfl⟩, call_meets F.slot_tuple_mul ⟨_, ho, rfl⟩ F.entry_tuple_mul (F.args_tuple_mul_2 _ _) (tuple_mul1W l its.toArray n dd sl t) ⟨ho, ?_⟩⟩)
  exact ⟨.ref l, H, I, rfl, q⟩
def mulT (x y : PV) (S : Sto) : Out PV := match x, y with
  | .nd .tup xs, .int j => if j = 1 then .ok (.nd .tup xs) S else if xs ≠ [] ∧ 2 ≤ j ∧ j ≤ 1000 ∧ xs.length ≤ 1000 then mkNd .tup (List.replicate j.toNat xs).flatten S else .bad
  | x, y => mulZ x y S
abbrev rMulT (K : PySem.W.Frag) : R2 := fun x y H Q => rRepT K x y H Q ∨ rRep1 K x y H Q ∨ rMulA x y H Q
theorem op_mulT {X : Cx} : OpR X (binaryOp .Mult) (rMulT X.K) := OpR.or op_repT (OpR.or op_rep1 op_mulA)
theorem oz_mulT {T : Tb} {K : PySem.W.Frag} : OpZ T K mulT (rMulT K) := by
  intro E R F H S x y u w Q r rx ry h
  unfold mulT at h
  split at h
  · rename_i xs j
    have rx0 := rx
    split at h
    · rename_i hj
      subst hj
      obtain ⟨a, us, rfl, hs, hl⟩ := view_rel r rx (view_nd .tup xs S)
      have := rel_int ry; subst this
      exact .inr (.inl ⟨a, us, rfl, rfl, (shp_rd hs).2 rfl, PostV.here r rx0 h⟩)
    split at h
    · rename_i hc
      obtain ⟨a, us, rfl, hs, hl⟩ := view_rel r rx (view_nd .tup xs S)
      have := rel_int ry; subst this
      have rr : ∀ k : Nat, RelL T K R F (List.replicate k xs).flatten (List.replicate k us).flatten := fun k => by
        induction k with
        | zero => exact .nil
        | succ k ih => rw [List.replicate_succ, List.replicate_succ, List.flatten_cons, List.flatten_cons]; exact hl.append ih
      refine .inl ⟨a, j, us, rfl, rfl, (shp_rd hs).2 rfl, fun z => hc.1 ?_, hc.2.1, hc.2.2.1, by rw [hl.length]; exact hc.2.2.2, fun p hp => ?_⟩
      · have := hl.length
        rw [z] at this
        exact List.eq_nil_of_length_eq_zero this.symm
      · unfold mkNd at h
        split at h
        · exact PostV.new (k := .tup) r hp upd_same (rr _) h
        · exact h.elim
    · exact h.elim
  · exact .inr (.inr (oz_mul E R F H S _ _ u w Q r rx ry h))
end Z
end
end
section
set_option Elab.async false
set_option linter.all false
set_option maxRecDepth 100000
set_option maxHeartbeats 1000000
/-! ZJ: laws whose turns are reckoned case by case. -/
noncomputable section
namespace Z
open PySem PySem.Spec PyProof.Rows L2

def dSeqs : List DS → DS
  | [] => dSkip
  | s :: r => dSeq s (dSeqs r)
theorem seqs_app (r : List DS) : ∀ (a : List DS) (l : Loc) (S : Sto), dSeqs (a ++ r) l S = (dSeqs a l S).seq (dSeqs r)
  | [], l, S => rfl
  | s :: a, l, S => by
    show (s l S).seq (dSeqs (a ++ r)) = ((s l S).seq (dSeqs a)).seq (dSeqs r)
    cases s l S with
    | nx l1 S1 => exact seqs_app r a l1 S1
    | _ => rfl
theorem seqs_run {a r : List DS} {l l1 : Loc} {S S1 : Sto} (h : dSeqs a l S = .nx l1 S1) : dSeqs (a ++ r) l S = dSeqs r l1 S1 := by rw [seqs_app, h]; rfl
theorem seqs_one {s : DS} {r : List DS} {l l1 : Loc} {S S1 : Sto} (h : s l S = .nx l1 S1) : dSeqs (s :: r) l S = dSeqs r l1 S1 := by
  show (s l S).seq (dSeqs r) = _
  rw [h]; rfl
/-- one of some things is picked -/
theorem set_pick {dr : DF} (hd : DrOk dr) {n i : Nat} {T S : Sto} {l : Loc} {ar : DA} (xs : List PV) (h : PenS n T S) (hn : n ≤ 100000) (ha : ar l S = .ok [.ref 0, .nd .lst xs] S) (hx : xs ≠ []) (hx2 : xs.length ≤ 1000000000) :
    ∃ x S', dSet i (dFn (dDef 2 2 (pickB dr)) ar) l S = .nx (l.set i (some x)) S' ∧ x ∈ xs ∧ PenS (n + 1) T S' := by
  obtain ⟨x, S', h1, h2, h3⟩ := pick_ok hd h hn hx hx2
  exact ⟨x, S', by rw [dSet_ap, dFn_ap, ha, bind_ok, h1]; rfl, h2, h3⟩
theorem shS_pen {B : DS} {l l' : Loc} {S S' : Sto} {n m : Nat} {T' : Sto} (hP : PenS n [] S) (h : B l S = .nx l' S') (hP' : PenS m T' S') (hl : l'.all (fitsV 1) = true) : ∃ S'', dShS B l S = .nx l' S'' ∧ PenS m [] S'' := by
  have e1 : S.length = 1 := hP.len
  obtain ⟨h1, h2⟩ := hP.shut (T := []) (X := T') (by rw [List.nil_append]; exact hP')
  unfold dShS
  rw [h]
  show ∃ S'', shL S l' S' .nx = .nx l' S'' ∧ PenS m [] S''
  unfold shL
  by_cases q : S'.length ≤ S.length
  · rw [if_pos q]
    have hl' : S'.length = T'.length + 1 := hP'.len
    have : T' = [] := List.eq_nil_of_length_eq_zero (by omega)
    subst this
    exact ⟨S', rfl, hP'⟩
  · rw [if_neg q, h1, e1, hl]
    exact ⟨_, rfl, by rw [← e1]; exact h2⟩
theorem loop_pen {B : DS} {t : TgZ} {l0 : Loc} {k n0 : Nat} {S0 : Sto} {items : List PV} (hP : PenS n0 [] S0) (hb : n0 + k * items.length ≤ 100000) (hl : l0.all (fitsV 1) = true)
    (step : ∀ n S x, x ∈ items → PenS n [] S → n + k ≤ 100000 → ∃ ps S' T', asg t x = some ps ∧ B (setZ l0 ps) S = .nx l0 S' ∧ PenS (n + k) T' S') :
    ∃ S1, forZ t [] (dShS B) items l0 S0 = .nx l0 S1 ∧ PenS (n0 + k * items.length) [] S1 := by
  obtain ⟨l', S', h1, h2, h3⟩ := forZ_inv (t := t) (hs := []) (b := dShS B) (fun i l S => l = l0 ∧ PenS (n0 + k * i) [] S ∧ i ≤ items.length) items 0 l0 S0 ⟨rfl, hP, Nat.zero_le _⟩ (by
    rintro i x l S hx ⟨rfl, hi, hle⟩
    rw [Nat.zero_add] at hi ⊢
    have hlt : i < items.length := (List.getElem?_eq_some_iff.mp hx).1
    have hm : k * i + k ≤ k * items.length := by
      have := Nat.mul_le_mul_left k hlt
      rw [Nat.mul_succ] at this
      exact this
    obtain ⟨ps, S1, T1, g1, g2, g3⟩ := step (n0 + k * i) S x (List.mem_of_getElem? hx) hi (by omega)
    obtain ⟨S2, g4, g5⟩ := shS_pen hi g2 g3 hl
    refine ⟨ps, l, S2, g1, g4, heldB_nil _, rfl, ?_, hlt⟩
    have e : n0 + k * (i + 1) = n0 + k * i + k := by rw [Nat.mul_succ]; omega
    rw [e]; exact g5)
  subst h2
  rw [Nat.zero_add] at h3
  exact ⟨S', h1, h3.1⟩
/-- what stands behind a state's first place -/
def oRest : OutS → Sto
  | .nx _ (_ :: T) => T
  | _ => []
/-- the law's end -/
theorem law_end {b : DS} {sc : PV} {S1 : Sto} {m : Nat} (hb : b (some sc :: List.replicate (m - 1) none) [] = .ret (.bl true) S1) (hl : 0 < S1.length) : dDef 1 m b [sc] [] = .ok (.bl true) [] := by
  have := dDef_thaw (n := 1) (m := m) (xs := [sc]) (S1 := S1) (v := .bl true) (w := .bl true) [] b rfl hb hl rfl (fitsS_pre List.nil_prefix)
  rw [this]; rfl
theorem eqZ_same {x y : PV} {d : PyData} {S : Sto} (hp : strPair x y = none) (h1 : datS x S = some d) (h2 : datS y S = some d) (hc : d.canLay0 = true) (hd : d.depth ≤ 64) : eqZ x y S = .ok (.bl true) S ∧ neZ x y S = .ok (.bl false) S := by
  have sh : SeqAt.shaped d = true := by unfold SeqAt.shaped; rw [hc, decide_eq_true hd]; rfl
  have er := SeqAt.eqv_refl d hc
  unfold eqZ neZ
  rw [hp]
  simp only
  unfold eqD neD
  rw [h1, h2]
  simp only
  rw [if_pos ⟨sh, sh⟩, if_pos ⟨sh, sh⟩, er]
  exact ⟨rfl, rfl⟩
theorem pn_cons {n : Nat} {T S : Sto} (h : PenS n T S) : ∃ cs a lf, S = pn cs a lf :: T := let ⟨cs, a, lf, e, _⟩ := h; ⟨cs, a, lf, e⟩
theorem penS_rest {n : Nat} {T T' S : Sto} {cs : List Int} {a lf : Int} (h : PenS n T S) (e : S = pn cs a lf :: T) : PenS n T' (pn cs a lf :: T') := by
  obtain ⟨cs', a', lf', e', h1⟩ := h
  rw [e] at e'
  have e2 := (List.cons.inj e').1
  exact ⟨cs', a', lf', by rw [e2], h1⟩
end Z
end
end
section
set_option Elab.async false
set_option linter.all false
set_option maxRecDepth 100000
set_option maxHeartbeats 1000000
/-! ZI: x != y by an own __eq__; bool(o); more displays and calls. -/
noncomputable section
namespace Z
open PySem PySem.Spec PyProof.Rows L2

section
open PySem.W
variable {prog : Program} {w : World} {A : Around} {E : Value → Shared → Prop} {s : Shared} {K : PySem.W.Frag} {x C L f : Addr} {h₀ : Heap} {m : Str → Option Value} {ox : Obj} {od : Option Obj} {b tb : Value}
theorem ifBound_ne {M : Model} {args : List Value} {Q : Option Value → Shared → Prop} (X : K.In s.heap) (I : InstAt s.heap x ox C od) (hs : findIn K (.ref C) "__ne__" = some (some (.builtin "object.__ne__")))
    (h : wpAny M A (call (.builtin "object.__ne__") (.ref x :: args)) (fun v => Q (some v)) E s) : wpAny M A (callSpecialIfBound? (.ref x) "__ne__" args) Q E s := by
  simp only [callSpecialIfBound?, bindSpecialIfBound?]
  refine wpAny_holding (wpAny_bind (wpAny_bind (wpAny_bind (I.type.here ((looks_findIn X hs).here ?_)))))
  simp only [PySem.F.slot_object_ne.bind]
  refine wpAny_bind (wpAny_askSetting (wpAny_ite ?_))
  have fin : wpAny M A (call (.builtin "object.__ne__") ([.ref x] ++ args) >>= fun v => pure (some v)) Q E s := wpAny_bind (wpAny_mono h (fun v s' h' => wpAny_pure h') fun _ _ h' => h')
  split
  · exact wpAny_bind (wpAny_pure (wpAny_pure fin))
  · exact wpAny_tryCatch (wpAny_bind (wpAny_pure (wpAny_pure fin)))
theorem objNe_K {Q : PySem.Fin → Shared → Prop} (hu : A.units < cLine) (X : K.In s.heap) (I : InstAt s.heap x ox C od) (hs : findIn K (.ref C) "__eq__" = some (some (.ref f))) (hf : isFn K (.ref f) = true)
    (h : wpAny (model prog w) A (call (.ref f) [.ref x, b]) (fun v s' => ∃ k, v = .bool k ∧ Q (.done (.ret (.bool (!k)))) s') E s) : wpAny (model prog w) A (Builtin.«object.__ne__» ⟨[.ref x, b], []⟩) Q E s := by
  unfold Builtin.«object.__ne__»
  refine wpAny_bind (m := slotArgs "__ne__" 1 ⟨[.ref x, b], []⟩) (wpAny_pure ?_)
  refine wpAny_bind (wpAny_cRoomFor hu ?_)
  refine wpAny_bind (m := callSpecialIfBound? (.ref x) (Str.ofString "__eq__") [b]) (ifBound_K X I hs hf (wpAny_mono h (fun v s' hv => ?_) fun _ _ e => e))
  obtain ⟨k, rfl, hq⟩ := hv
  show wpAny _ _ (truthy (.bool k) >>= _) _ _ _
  refine wpAny_bind (wpAny_truthy_bool ?_)
  exact wpAny_pure hq
theorem ne_K {Q : Value → Shared → Prop} (hu : A.units + 1 < cLine) (F : Fr h₀ L s.heap m) (X₀ : K.In h₀) (I : InstAt s.heap x ox C od) (hb : Looks (model prog w) s.heap (typeOf b) tb) (hn : notFirst K C tb = true)
    (hs : findIn K (.ref C) "__eq__" = some (some (.ref f))) (hf : isFn K (.ref f) = true) (hne : findIn K (.ref C) "__ne__" = some (some (.builtin "object.__ne__"))) (hmr : mroIn K C (.type "object") = some true)
    (h : wpAny (model prog w) A.in1 (call (.ref f) [.ref x, b]) (fun v s' => ∃ k, v = .bool k ∧ Q (.bool (!k)) s') E s) : wpAny (model prog w) A (richCompare .NotEq (.ref x) b) Q E s := by
  have X := X₀.keeps F.keep
  have one : wpAny (model prog w) A (tryCompare (.ref x) "__ne__" b) (fun r s' => ∃ v, r = some v ∧ Q v s') E s := by
    unfold tryCompare
    have sub : Looks (model prog w) s.heap (isInstance (.ref x) (.type "object")) true := I.type.andThen (looks_mroIn X hmr)
    refine wpAny_bind (ifBound_ne X I hne (wpAny_call (codeAny_call_builtin PySem.F.slot_object_ne.plain PySem.F.cmpEntry_ne (check_slot PySem.F.cmpKind_ne PySem.F.cmpSplit_ne sub (PySem.F.cmpArgs_ne _ _)
      (objNe_K (A := A.in1) (by show A.units + 1 < cLine; exact hu) X I hs hf (wpAny_mono h (fun v s' hv => ?_) fun _ _ e => e))))))
    obtain ⟨k, rfl, hq⟩ := hv
    exact ⟨k, rfl, wpAny_pure ⟨_, rfl, hq⟩⟩
  unfold richCompare
  simp only [oneThing_ref]
  refine wpAny_holding (wpAny_bind (wpAny_cRoomFor (Nat.lt_of_succ_lt hu) ?_))
  rw [cmpInfo_NotEq]
  dsimp only
  refine wpAny_bind (I.type.here (wpAny_bind (hb.here ?_)))
  split
  · rename_i q
    have e : subIn K tb (.ref C) = some false := by
      rcases Bool.or_eq_true_iff.mp hn with e | e
      · rw [beq_iff_eq.mp e] at q; simp at q
      · exact beq_iff_eq.mp e
    refine wpAny_bind ((looks_subIn X e).here ?_)
    simp only [Bool.false_eq_true, if_false]
    refine wpAny_bind (wpAny_mono one (fun r s' z => ?_) fun _ _ e => e)
    obtain ⟨v, rfl, hq⟩ := z
    exact wpAny_pure hq
  · refine wpAny_bind (wpAny_pure ?_)
    simp only [Bool.false_eq_true, if_false]
    refine wpAny_bind (wpAny_mono one (fun r s' z => ?_) fun _ _ e => e)
    obtain ⟨v, rfl, hq⟩ := z
    exact wpAny_pure hq
end

/-! ### x != y, x an instance of the class c with an own __eq__ alone -/
def neB (x : Str) (K : PySem.W.Frag) : Bool := decide (PySem.W.findIn K (.ref (He.ga K x)) "__ne__" = some (some (.builtin "object.__ne__")))
def rOwnNe (T : Tb) (K : PySem.W.Frag) (E : XK) (c : Nat) (d : DF) : R2 := fun x y H Q => ∃ a dx fs tb, x = .ref a ∧ H a = some (.ins (T.ca K c) dx fs) ∧ TyR K H y tb ∧ PySem.W.notFirst K (T.ca K c) tb = true ∧ spP T K d [.ref a, y] H (fun v H' => ∃ b, v = .bl b ∧ Q (.bl (!b)) H') E
def neX (I : Ki) (c : Nat) (d : DF) (f : PV → PV → Sto → Out PV) (x y : PV) (S : Sto) : Out PV := if isIns c x S = true then (match tyW y S with
  | some t => if I.first t c = true ∧ I.knows t = true then onlyB (d [x, y] S) (fun b => .bl (!b)) else .bad
  | none => .bad) else f x y S
section
variable {T : Tb} {I : Ki} {X : Cx} {E : XK} {c j k : Nat} {d : DF} {f : PV → PV → Sto → Out PV} {r : R2}
theorem op_ownNe (cg : Cg X (fun _ => E) k) (F : FnMP T X.prog X.w X.K X.mg X.base j c "__eq__" d) (O : KiOk T I X.K) (hc : c ∈ I.cs) (hne : PySem.W.findIn X.K (.ref (T.ca X.K c)) "__ne__" = some (some (.builtin "object.__ne__"))) (hj : j + 1 ≤ k := by decide) : OpR X (compareOp .NotEq) (rOwnNe T X.K E c d) := by
  obtain ⟨g, cl, hm, G⟩ := F.ex
  intro pins s σ H x y v u Q I rx ry ⟨a, dx, fs, tb, ex, ha, hty, hnf, hsp⟩
  subst ex
  obtain rfl : v = Value.ref a := rx
  obtain ⟨ox, od, J⟩ := inst_of I ha
  obtain ⟨m, hF⟩ := I.fr
  obtain ⟨P, KX, hP, _⟩ := kit_ofR I ry hty
  have cg1 := cg.hu1
  unfold compareOp
  refine ne_K cg1 hF I.ok.mod.kin J (KX.ty _ _ I.kIn hP) hnf hm.at_ hm.fn hne (O.mr c hc) (thn (run_fnp1 cg hj G I (vs := [V.ref a, y]) (us := [Value.ref a, u]) (.cons rfl (.cons ry .nil)) hsp) fun rv s1 ⟨v1, H1, I1, r1, b, e1, q⟩ => ?_)
  subst e1
  cases (show rv = Value.bool b from r1)
  exact ⟨b, rfl, .bl (!b), H1, I1, rfl, q⟩
theorem oe_neX (O : KiOk T I X.K) (hf : OpE T X.K E f r) : OpE T X.K E (neX I c d f) (fun x y H Q => rOwnNe T X.K E c d x y H Q ∨ r x y H Q) := by
  intro R F H S x y u w Q re rx ry h
  unfold neX at h
  split at h
  · rename_i hi
    obtain ⟨a, dx, fs, rfl, ha⟩ := isIns_rel re rx hi
    split at h
    · rename_i t ht
      split at h
      · rename_i hc
        refine .inl ⟨a, dx, fs, t.v T X.K, rfl, ha, tyW_rel O re ry ht (Ki.knows_of hc.2), ?_, spP_of re (.cons rx (.cons ry .nil)) ?_⟩
        · unfold PySem.W.notFirst
          cases t with
          | b n =>
            have hm : (n, c) ∈ I.fb := of_decide_eq_true hc.1
            have := O.fb (n, c) hm
            show (_ || PySem.W.subIn X.K (.type n) (.ref (T.ca X.K c)) == some false) = true
            rw [this]; simp
          | c k =>
            have e : k = c := beq_iff_eq.mp hc.1
            subst e
            show (Value.ref (T.ca X.K k) == Value.ref (T.ca X.K k) || _) = true
            simp
          | x k => cases hc.1
        · have h2 := onlyB_ok h
          cases hd : d [x, y] S with
          | ok v S1 =>
            rw [hd] at h2
            intro R1 F1 H1 u1 p ex r1 ru
            obtain ⟨b, e, q⟩ := h2 R1 F1 H1 u1 p ex r1 ru
            exact ⟨b, e, q _ rfl⟩
          | err e S1 => rw [hd] at h2; exact h2
          | bad => rw [hd] at h2; exact h2
      · exact h.elim
    · exact h.elim
  · exact .inr (hf R F H S x y u w Q re rx ry h)
end

/-! ### bool(o), o an instance of the class c with an own __bool__ -/
theorem meets_bool_own {prog : Program} {w : World} {x : Value} : MeetsIn prog w (Builtin.«bool.__new__» ⟨[.type "bool", x], []⟩) (fun A R s => wpAny (model prog w) A.in1 (truthy x) (fun b s' => R (.ok (.ret (.bool b))) s') (fun e s' => R (.error e) s') s) := by
  intro A R s hs
  refine wpAny_mono (Q := fun fin s' => ∃ v, fin = .done (.ret v) ∧ R (.ok (.ret v)) s') ?_ (fun fin s' h' => by obtain ⟨v, rfl, hv⟩ := h'; exact hv) fun _ _ x => x
  have f1 := PySem.F.conv_sub_bool
  have ht : ∀ (Q : Bool → Shared → Prop), (∀ b s', R (.ok (.ret (.bool b))) s' → Q b s') → wpAny (model prog w) A.in1 (truthy x) Q (fun e s' => R (.error e) s') s := fun Q hQ => wpAny_mono hs hQ fun _ _ x => x
  obtain ⟨hp, g, d, tk, os⟩ := s
  repeat (any_goals (first | assumption | (with_reducible refine ht _ fun b s' hb => ?_) | wp_step))
  all_goals first | exact ⟨_, rfl, hb⟩ | skip
theorem callType_in {prog : Program} {w : World} {A : Around} {E : Value → Shared → Prop} {s : Shared} {T newId : String} {Bn : Builtin} {args : List Value} {S : PySem.Spec} {Q : Value → Shared → Prop} (ft : TypeCalled T newId "object.__init__")
    (hne : (some newId != some "object.__new__") = true) (hct : checkTypeCall T ⟨args, []⟩ = pure ()) (hcn : checkBuiltinCall newId ⟨.type T :: args, []⟩ = pure ())
    (hok : ∀ obj, argsOk "object.__init__" ⟨obj :: args, []⟩) (entryN : entryFor table newId = some Bn) (g : MeetsIn prog w (Bn ⟨.type T :: args, []⟩) S)
    (h : S A.in1 (wants (fun obj s₁ => s₁.TypeIs obj T ∧ Q obj s₁) E) s) : wpAny (model prog w) A (call (.type T) args) Q E s := by
  obtain ⟨c, tl, hmro⟩ := ft.mro
  have hmade := ft.made
  have hsub := ft.sub
  refine wpAny_call (codeAny_of_tree ?_)
  show wpAny _ _ (callAny (.type T) _) _ _ _
  refine wpAny_pure ⟨Code.quiet_builtin _ (by decide +kernel), codeAny_builtin PySem.F.entry_type_call ?_⟩
  rw [Around.under_plain (weight_type_call_type T args []) (units_type_call_type T args [])]
  have h1 := ft.notType
  have h2 := ft.canCreate
  repeat (any_goals (first | assumption | wp_step))
  refine codeAny_mono (codeAny_call_builtin ft.plain entryN (wpAny_of_eq hcn (g A.in1 _ s h))) fun r s₁ hr => ?_
  cases r with
  | error e => exact hr
  | ok fl =>
    cases fl with
    | ret obj =>
      obtain ⟨hT, hq1⟩ := hr
      have hli := ft.init.lookup
      have hbi := ft.init.bind obj
      repeat (any_goals (first | assumption | wp_step))
      refine codeAny_mono (codeAny_call_builtin ft.init.plain PySem.F.entry_object_init (ft.init.check _ _ _ _ _ _ _ _ hT (hok obj) ((object_init_meets (T := T) (newId := newId) (self := obj) (rest := args) ft.init.lookup ft.made hne) prog w A.in1 (wants (fun r s₂ => r = .none ∧ Q obj s₂) E) s₁ ⟨hT, rfl, hq1⟩))) fun r₂ s₂ hr₂ => ?_
      cases r₂ with
      | error e => exact hr₂
      | ok fl₂ =>
        cases fl₂ with
        | ret r =>
          obtain ⟨rfl, hq⟩ := hr₂
          repeat (any_goals (first | assumption | wp_step))
        | _ => exact hr₂.elim
    | _ => exact hr.elim
def rOwnBool (T : Tb) (K : PySem.W.Frag) (E : XK) (c : Nat) (d : DF) : List V → Hp → VK → Prop := fun xs H Q => ∃ a dx fs, xs = [.ref a] ∧ H a = some (.ins (T.ca K c) dx fs) ∧ spP T K d [.ref a] H (fun v H' => ∃ b, v = .bl b ∧ Q (.bl b) H') E
def boolX (c : Nat) (d : DF) (f : List PV → Sto → Out PV) (xs : List PV) (S : Sto) : Out PV := match xs with
  | [x] => if isIns c x S = true then onlyB (d [x] S) .bl else f [x] S
  | xs => f xs S
/-- bool(x) of plain things -/
def boolP (xs : List PV) (S : Sto) : Out PV := match xs with
  | [.bl b] => .ok (.bl b) S
  | _ => .bad
section
variable {T : Tb} {X : Cx} {E : XK} {c j k : Nat} {d : DF} {f : List PV → Sto → Out PV} {r : List V → Hp → VK → Prop}
theorem call_boolB : CallR X (.type "bool") (fun xs H Q => ∃ b, xs = [.bl b] ∧ Q (.bl b) H) := by
  intro pins s σ H xs us Q I rv ⟨b, e, q⟩
  subst e
  obtain ⟨u, rfl, ru⟩ := vals1 rv
  cases (show u = Value.bool b from ru)
  exact call_bool_bool ⟨.bl b, H, I, rfl, q⟩
theorem cz_bool {K : PySem.W.Frag} : CalZ T K boolP (fun xs H Q => ∃ b, xs = [.bl b] ∧ Q (.bl b) H) := by
  intro E R F H S xs us Q re rx h
  unfold boolP at h
  split at h
  · rename_i b
    obtain ⟨u, rfl, ru⟩ := rel1 rx
    rw [Rel] at ru
    exact ⟨b, by rw [ru], PostV.here re (by rw [Rel]) h⟩
  · exact h.elim
theorem run_fnp2 {X : Cx} {E : XS} {k j : Nat} {f : Addr} {pins : List (Addr × Obj)} {σ : L2.St} {H : Hp} {s : Shared} {Q : VK} {us : List Value} {vs : List V} (cg : Cg X E k) (hj : j + 2 ≤ k) (G : FnP T X.prog X.w X.K X.mg X.base j f d) (I : Inv X pins σ H s) (r : Vals vs us) (h : spP T X.K d vs H Q (E σ)) :
    wpAny (model X.prog X.w) X.A.in1.in1 (call (.ref f) us) (EP X pins σ Q) X.xe s := by
  have e0 := I.env0
  have e1 : Env0 X.prog X.w X.K X.mg X.base X.A.in1.in1 X.stack s H := ⟨e0.frames, e0.mod, e0.bs, e0.bsz, e0.funs, e0.frf, e0.hok, e0.bare⟩
  refine wpAny_call (codeAny_mono (G X.A.in1.in1 X.stack s H us vs Q (E σ) (((cg.room.mono hj).in1).in1) cg.gd e1 r h) fun z s' hq => ?_)
  cases z with
  | error e => exact cg.pass pins σ H s e s' I hq
  | ok fl =>
    cases fl with
    | ret u => exact I.after hq
    | next => exact False.elim hq
    | brk => exact False.elim hq
    | cont => exact False.elim hq
theorem call_ownBool (cg : Cg X (fun _ => E) k) (F : FnMP T X.prog X.w X.K X.mg X.base j c "__bool__" d) (hj : j + 2 ≤ k := by decide) : CallR X (.type "bool") (rOwnBool T X.K E c d) := by
  obtain ⟨g, cl, hm, G⟩ := F.ex
  intro pins s σ H xs us Q I rv ⟨a, dx, fs, e, ha, hsp⟩
  subst e
  obtain ⟨u, rfl, ru⟩ := vals1 rv
  obtain rfl : u = Value.ref a := ru
  obtain ⟨ox, od, J⟩ := inst_of I ha
  obtain ⟨m, hF⟩ := I.fr
  refine callType_in PySem.F.called_bool PySem.F.newNe_bool (PySem.F.typeCall_bool_1 _) (PySem.F.newCall_bool_1 _) (fun obj => PySem.F.args_object_init_2 obj _) PySem.F.entry_bool_new meets_bool_own ?_
  refine PySem.W.truthy_K hF I.ok.mod.kin J hm.at_ hm.fn (wpAny_mono (run_fnp2 cg hj G I (vs := [V.ref a]) (us := [Value.ref a]) (.cons rfl .nil) hsp) (fun rv s1 hv => ?_) fun _ _ e => e)
  obtain ⟨v1, H1, I1, r1, b, e1, q⟩ := hv
  subst e1
  cases (show rv = Value.bool b from r1)
  exact ⟨PySem.typeIs_bool _ _, .bl b, H1, I1, rfl, q⟩
theorem ce_bool {K : PySem.W.Frag} (hf : CalE T K E f r) : CalE T K E (boolX c d f) (fun xs H Q => rOwnBool T K E c d xs H Q ∨ r xs H Q) := by
  intro R F H S xs us Q re rx h
  unfold boolX at h
  split at h
  · rename_i x
    split at h
    · rename_i hi
      obtain ⟨u, rfl, ru⟩ := rel1 rx
      obtain ⟨a, dx, fs, rfl, ha⟩ := isIns_rel re ru hi
      refine .inl ⟨a, dx, fs, rfl, ha, spP_of re rx ?_⟩
      have h2 := onlyB_ok h
      cases hd : d [x] S with
      | ok v S1 =>
        rw [hd] at h2
        intro R1 F1 H1 u1 p ex r1 ru1
        obtain ⟨b, e, q⟩ := h2 R1 F1 H1 u1 p ex r1 ru1
        exact ⟨b, e, q _ rfl⟩
      | err e S1 => rw [hd] at h2; exact h2
      | bad => rw [hd] at h2; exact h2
    · exact .inr (hf R F H S [x] us Q re rx h)
  · exact .inr (hf R F H S xs us Q re rx h)
end
/-! ### not o -/
theorem pe_notR {X : Cx} {a : Expr} {ta : TE} {r : V → Hp → (Bool → Hp → Prop) → Prop} {pos : Pos} (ha : PE X a ta) (hr : TruR X r) : PE X (.UnaryOp .Not a pos) (fun σ H Q => ta σ H fun x H' => r x H' fun b H2 => Q (.bl (!b)) H2) := by
  refine ⟨fun pins s σ H Q I h => ?_⟩
  refine UnaryOp_ (thn (ha.run pins s σ H _ I h) fun v s1 ⟨x, H1, I1, r1, q1⟩ => ?_)
  exact not_of (thn (hr pins s1 σ H1 x v (fun c H2 => Q (.bl (!c)) H2) I1 r1 q1) fun c s2 ⟨H2, I2, q2⟩ => ⟨.bl (!c), H2, I2, rfl, q2⟩)
def dNotX (c : Nat) (d : DF) (a : DE) : DE := fun l S => (a l S).bind fun x S1 => (truX c d x S1).bind fun b S2 => .ok (.bl (!b)) S2
theorem je_notX {T : Tb} {X : Cx} {E : XK} {c j k : Nat} {d : DF} {a : Expr} {da : DE} {pos : Pos} (cg : Cg X (fun _ => E) k) (F : FnMP T X.prog X.w X.K X.mg X.base j c "__bool__" d) (ha : JE T X (fun _ => E) a da) (hj : j ≤ k := by decide) : JE T X (fun _ => E) (.UnaryOp .Not a pos) (dNotX c d da) := by
  have hr : TruR X (fun x H Q => (∃ a dx fs, x = .ref a ∧ H a = some (.ins (T.ca X.K c) dx fs) ∧ spP T X.K d [.ref a] H (fun v H' => ∃ b, v = .bl b ∧ Q b H') E) ∨ ∃ k, TruV X.K x H k ∧ Q k H) := by
    intro pins s σ H x v Q I rx h
    rcases h with h | ⟨k, h1, h2⟩
    · exact tru_own cg F hj pins s σ H x v Q I rx h
    · exact tru_ok pins s σ H x v Q I rx ⟨k, h1, h2⟩
  refine pe_imp (pe_notR ha hr) fun σ H Q ⟨R, Fz, l, S, r, e, h⟩ => ?_
  refine seqV (goV T X.K E Q) r e h fun x S1 R1 F1 H1 u p ex r1 rx e1 h1 => ?_
  have h1 : OkV T X.K R1 F1 ((truX c d x S1).bind fun b S2 => .ok (.bl (!b)) S2) Q E := h1
  unfold truX at h1
  split at h1
  · rename_i hi
    obtain ⟨a, dx, fs, rfl, hx⟩ := isIns_rel r1 rx hi
    refine .inl ⟨a, dx, fs, rfl, hx, spP_of r1 (.cons rx .nil) ?_⟩
    cases hd : d [x] S1 with
    | ok v S2 =>
      rw [hd] at h1
      intro R2 F2 H2 u2 p2 ex2 r2 ru
      cases v with
      | bl b => rw [Rel] at ru; exact ⟨b, ru, h1 R2 F2 H2 (.bl (!b)) p2 ex2 r2 (by rw [Rel])⟩
      | _ => exact h1.elim
    | err e S2 => rw [hd] at h1; exact h1
    | bad => rw [hd] at h1; exact h1.elim
  · refine .inr (tru_rel (E := E) (Q := fun k H => Q (.bl (!k)) H) r1 rx ?_)
    cases ht : truP x S1 with
    | bad => rw [ht] at h1; exact h1.elim
    | err x' S3 => rw [ht] at h1; exact h1
    | ok k S2 =>
      rw [ht] at h1
      intro R2 F2 H2 p2 ex2 r2
      exact PostV.here r2 (by rw [Rel]) (OkV.mono p2 ex2 h1)
/-- a bound on the turns of a while, beyond all numbers that may divide -/
def FUEL : Nat := 2 ^ 9001
theorem clo_eq {f : List PV → Sto → Out PV} {xs : List PV} {S : Sto} {v : PV} (h1 : fitsL 0 xs = true) (h2 : S.all Option.isSome = true) (h : f xs [] = .ok v []) : clo f xs S = .ok v S := by
  unfold clo
  rw [h1, h2, h]
  rfl
end Z
end
end
section
set_option Elab.async false
set_option linter.all false
set_option maxRecDepth 100000
set_option maxHeartbeats 1000000
/-! YA: name *= e; comprehensions of two generators. -/
noncomputable section
namespace Z
open PySem PySem.Spec PyProof.Rows L2

section
variable {X : Cx}
def ipM : TIp := fun x y H Q => ∃ i j, x = .int i ∧ y = .int j ∧ IntMulOk i j ∧ Q (.int (i * j)) H
theorem ip_mul : PIp X .Mult ipM := by
  intro pins s σ H x y v u Q I r1 r2 h
  obtain ⟨i, j, e1, e2, hm, q⟩ := h
  subst e1; subst e2
  obtain ⟨t, rfl⟩ := r1
  obtain ⟨t', rfl⟩ := r2
  exact PySem.P.imul_int ⟨.int _, H, I.tok _, ⟨_, rfl⟩, q⟩ hm
end
def augM (x y : PV) (S : Sto) : Out PV := match x, y with
  | .int i, .int j => if mulOk i j then .ok (.int (i * j)) S else .bad
  | _, _ => .bad
section
variable {T : Tb} {X : Cx} {E : XS} {e : Expr} {d : DE} {x : Str} {pos : Pos}
theorem js_augM (i : Nat) {pos' : Pos} (hN : X.N.Nodup) (he : JE T X E e d) (hi : X.N[i]? = some x := by rfl) (hx : L2.Loc X.env.scope x := by first | exact Or.inl rfl | exact Or.inr rfl) (hf : X.fn x = true ∨ X.env.scope.names.lookup x = some .local := by first | exact .inl rfl | exact .inr rfl) : JS T X E (.AugAssign (.Name x pos') .Mult e pos) (dAug augM i d) :=
  ps_imp (ps_aug hN hi hx he ip_mul hf) fun D σ H ⟨R, F, l, S, r, e, h⟩ => by
    unfold dAug at h
    split at h
    · rename_i v hv
      obtain ⟨u, h1, h2⟩ := e.at_ i v hv
      refine ⟨u, h1, st_v r e h fun y S1 R1 F1 H1 w p ex r1 ry e1 k1 => ?_⟩
      have h2 := h2.mono p ex
      have k1 : OkS T X.K R1 F1 ((augM v y S1).st l fun z S2 => .nx (l.set i (some z)) S2) D E := k1
      cases v with
      | int a =>
        cases y with
        | int b =>
          have := rel_int h2; subst this
          have := rel_int ry; subst this
          have k1 : OkS T X.K R1 F1 ((if mulOk a b then Out.ok (PV.int (a * b)) S1 else .bad).st l fun z S2 => .nx (l.set i (some z)) S2) D E := k1
          split at k1
          · rename_i hm
            exact ⟨a, b, rfl, rfl, hm.ok, PostE.here r1 (e1.set i (by rw [Rel])) k1⟩
          · exact k1.elim
        | _ => exact k1.elim
      | _ => exact k1.elim
    · exact h.elim
end
end Z
end
end
section
set_option Elab.async false
set_option linter.all false
set_option maxRecDepth 100000
set_option maxHeartbeats 1000000
/-! YB: sorted(list of texts). -/
noncomputable section
namespace Z
open PySem PySem.Spec PyProof.Rows L2

def insT (x : Str) : List Str → List Str
  | [] => [x]
  | y :: ys => if ltCps y.cps.toList x.cps.toList = true then y :: insT x ys else x :: y :: ys
def srtT : List Str → List Str
  | [] => []
  | x :: xs => insT x (srtT xs)
theorem insT_perm (x : Str) : ∀ ys, (insT x ys).Perm (x :: ys)
  | [] => .refl _
  | y :: ys => by
    unfold insT
    split
    · exact ((insT_perm x ys).cons y).trans (.swap x y ys)
    · exact .refl _
theorem srtT_perm : ∀ xs, (srtT xs).Perm xs
  | [] => .refl _
  | x :: xs => (insT_perm x _).trans ((srtT_perm xs).cons x)
abbrev leS (a b : Str) : Prop := a.cps.toList ≤ b.cps.toList
theorem insT_pair (x : Str) : ∀ ys, ys.Pairwise leS → (insT x ys).Pairwise leS
  | [], _ => List.pairwise_singleton _ _
  | y :: ys, h => by
    obtain ⟨h1, h2⟩ := List.pairwise_cons.mp h
    unfold insT
    split
    · rename_i hlt
      rw [ltCps_eq, decide_eq_true_iff] at hlt
      refine List.pairwise_cons.mpr ⟨fun z hz => ?_, insT_pair x ys h2⟩
      rcases List.mem_cons.mp ((insT_perm x ys).mem_iff.mp hz) with rfl | hz
      · exact List.le_of_lt hlt
      · exact h1 z hz
    · rename_i hlt
      have hle : leS x y := by
        rw [ltCps_eq, decide_eq_true_iff] at hlt
        exact List.not_lt.mp hlt
      refine List.pairwise_cons.mpr ⟨fun z hz => ?_, h⟩
      rcases List.mem_cons.mp hz with rfl | hz
      · exact hle
      · exact List.le_trans hle (h1 z hz)
theorem srtT_pair : ∀ xs, (srtT xs).Pairwise leS
  | [] => .nil
  | x :: xs => insT_pair x _ (srtT_pair xs)
theorem rising_pair : ∀ (r : List Str) (p : Str), risingS p r = true → (p :: r).Pairwise leS
  | [], p, _ => List.pairwise_singleton _ _
  | x :: r, p, h => by
    rw [risingS, Bool.and_eq_true] at h
    have ih := rising_pair r x h.2
    have hle : leS p x := by
      have := h.1
      rw [ltCps_eq] at this
      simp only [Bool.not_eq_true', decide_eq_false_iff_not] at this
      exact List.not_lt.mp this
    refine List.pairwise_cons.mpr ⟨fun z hz => ?_, ih⟩
    rcases List.mem_cons.mp hz with rfl | hz
    · exact hle
    · exact List.le_trans hle ((List.pairwise_cons.mp ih).1 z hz)
theorem sorted_pair : ∀ ys : List Str, sortedS ys = true → ys.Pairwise leS
  | [], _ => .nil
  | y :: ys, h => rising_pair ys y h
theorem srtT_eq {xs ys : List Str} (h1 : ys.Perm xs) (h2 : sortedS ys = true) : ys = srtT xs := by
  refine List.Perm.eq_of_pairwise (le := leS) (fun a b _ _ p q => ?_) (sorted_pair ys h2) (srtT_pair xs) (h1.trans (srtT_perm xs).symm)
  have e := List.le_antisymm p q
  cases a; cases b
  congr 1
  exact Array.toList_inj.mp e
def asTs : List PV → Option (List Str)
  | [] => some []
  | .str z :: xs => (asTs xs).map fun r => z :: r
  | _ :: _ => none
theorem asTs_rel {T : Tb} {K : PySem.W.Frag} {R : Pl} {F : Hp} : ∀ {xs : List PV} {us : List V} {ns : List Str}, RelL T K R F xs us → asTs xs = some ns → us = ns.map V.str
  | [], us, ns, r, h => by cases h; rw [RelL] at r; exact r
  | x :: xs, us, ns, r, h => by
    rw [RelL] at r
    obtain ⟨u, vs, rfl, r1, r2⟩ := r
    cases x with
    | str z =>
      rw [asTs, Option.map_eq_some_iff] at h
      obtain ⟨ns', h1, rfl⟩ := h
      rw [asTs_rel r2 h1, rel_str r1]; rfl
    | _ => cases h
theorem rel_strs {T : Tb} {K : PySem.W.Frag} {R : Pl} {F : Hp} : ∀ ns : List Str, RelL T K R F (ns.map PV.str) (ns.map V.str)
  | [] => by rw [List.map_nil, RelL]; rfl
  | n :: ns => by
    rw [List.map_cons, RelL]
    exact ⟨_, _, rfl, by rw [Rel], rel_strs ns⟩
/-- sorted(texts) -/
def srtP (xs : List PV) (S : Sto) : Out PV := match xs with
  | [x] => (match (lstOf x S).bind asTs with
    | some ns => if ns.length < 64 then .ok (.nd .lst ((srtT ns).map .str)) S else .bad
    | none => .bad)
  | _ => .bad
theorem cz_srt {T : Tb} {K : PySem.W.Frag} : CalZ T K srtP (rSortedS K) := by
  intro E R F H S xs us Q r rx h
  unfold srtP at h
  split at h
  · obtain ⟨u, rfl, r1⟩ := rel1 rx
    split at h
    · rename_i ns hv
      rw [Option.bind_eq_some_iff] at hv
      obtain ⟨ys, h1, h2⟩ := hv
      obtain ⟨a, us, rfl, hs, hl⟩ := lstOf_rel r r1 h1
      have := asTs_rel hl h2; subst this
      split at h
      · rename_i h64
        refine ⟨a, ns, rfl, hs, h64, fun zs p hp1 hp2 hp => ?_⟩
        rw [srtT_eq hp1 hp2]
        exact PostV.new (k := .lst) r hp upd_same (rel_strs _) h
      · exact h.elim
    · exact h.elim
  · exact h.elim
end Z
end
end
section
set_option Elab.async false
set_option linter.all false
set_option maxRecDepth 100000
set_option maxHeartbeats 1000000
/-! YC: dict displays with expressions. -/
noncomputable section
namespace Z
open PySem PySem.Spec PyProof.Rows L2

def dKvs : List (DE × DE) → DA
  | [] => dNil
  | (a, b) :: r => fun l S => (a l S).bind fun x S1 => (b l S1).bind fun y S2 => (dKvs r l S2).bind fun xs S3 => .ok (x :: y :: xs) S3
def flat2 {α : Type} : List (α × α) → List α
  | [] => []
  | (a, b) :: r => a :: b :: flat2 r
theorem kvs_t {T : Tb} {K : PySem.W.Frag} {E : XS} : ∀ (prs : List (DE × DE)) (σ : L2.St) (H : Hp) (C : List (V × V) → Hp → Prop), tL T K E (dKvs prs) σ H (fun vs H' => ∀ ps, flat2 ps = vs → C ps H') → tPairs (prs.map fun p => (tV T K E p.1, tV T K E p.2)) σ H C
  | [], σ, H, C, ⟨R, F, l, S, r, e, h⟩ => by
    have h : PostL T K R F [] S (fun vs H' => ∀ ps, flat2 ps = vs → C ps H') := h
    exact PostL.here r .nil h [] rfl
  | (a, b) :: prs, σ, H, C, ⟨R, F, l, S, r, e, h⟩ => by
    show tV T K E a σ H fun x H1 => tV T K E b σ H1 fun y H2 => tPairs _ σ H2 fun ps H3 => C ((x, y) :: ps) H3
    refine seqV (goL T K (E σ) _) r e h fun x S1 R1 F1 H1 u p ex r1 rx e1 h1 => ?_
    refine seqV (goL T K (E σ) _) r1 e1 h1 fun y S2 R2 F2 H2 u2 p2 ex2 r2 ry e2 h2 => ?_
    refine kvs_t prs σ H2 _ (seqL (goL T K (E σ) _) r2 e2 h2 fun xs S3 R3 F3 H3 us p3 ex3 r3 rxs e3 h3 => ?_)
    intro ps hps
    exact PostL.here r3 (.cons ((rx.mono p2 ex2).mono p3 ex3) (.cons (ry.mono p3 ex3) rxs)) h3 ((u, u2) :: ps) (by rw [← hps]; rfl)
def kyOf : PV → Option Key
  | .int i => some (.inl i)
  | .str x => some (.inr x)
  | _ => none
/-- the keys, the values of pairs in a row -/
def splitK : List PV → Option (List Key × List PV)
  | [] => some ([], [])
  | k :: v :: r => (kyOf k).bind fun q => (splitK r).map fun p => (q :: p.1, v :: p.2)
  | [_] => none
theorem splitK_rel {T : Tb} {K : PySem.W.Frag} {R : Pl} {F : Hp} : ∀ (n : Nat) {xs : List PV} {us : List V} {ks : List Key} {vs : List PV}, xs.length ≤ n → RelL T K R F xs us → splitK xs = some (ks, vs) → ∃ kvs : List (Key × V), us = flat2 (kvs.map fun kv => (kV kv.1, kv.2)) ∧ kvs.map (·.1) = ks ∧ RelL T K R F vs (kvs.map (·.2))
  | _, [], us, ks, vs, _, r, h => by
    cases h
    rw [RelL] at r
    subst r
    exact ⟨[], rfl, rfl, by rw [List.map_nil, RelL]⟩
  | _, [_], us, ks, vs, _, r, h => by cases h
  | 0, _ :: _ :: _, us, ks, vs, hn, r, h => absurd hn (by simp)
  | n + 1, k :: v :: xs, us, ks, vs, hn, r, h => by
    rw [splitK, Option.bind_eq_some_iff] at h
    obtain ⟨q, hq, h⟩ := h
    rw [Option.map_eq_some_iff] at h
    obtain ⟨p, hp, h⟩ := h
    cases h
    rw [RelL] at r
    obtain ⟨u, us1, rfl, r1, r⟩ := r
    rw [RelL] at r
    obtain ⟨u2, us2, rfl, r2, r⟩ := r
    obtain ⟨kvs, e1, e2, e3⟩ := splitK_rel n (by simp at hn; omega) r hp
    refine ⟨(q, u2) :: kvs, ?_, by rw [List.map_cons, e2], ?_⟩
    · have eu : u = kV q := by
        cases k with
        | int i => cases hq; exact rel_int r1
        | str x => cases hq; exact rel_str r1
        | _ => cases hq
      rw [eu, e1]; rfl
    · rw [List.map_cons, RelL]
      exact ⟨_, _, rfl, r2, e3⟩
/-- {k: v, ..}, the keys ints or texts, each once -/
def dDispE (prs : List (DE × DE)) : DE := fun l S => match dKvs prs l S with
  | .ok xs S1 => (match splitK xs with
    | some (ks, vs) => if ks.Nodup ∧ ks.length ≤ 15 then .ok (.nd (.dct false (ks.map PK.k)) vs) S1 else .bad
    | none => .bad)
  | _ => .bad
theorem flat2_inj {α : Type} : ∀ {xs ys : List (α × α)}, flat2 xs = flat2 ys → xs = ys
  | [], [], _ => rfl
  | [], _ :: _, h => by cases h
  | _ :: _, [], h => by cases h
  | (a, b) :: xs, (c, d) :: ys, h => by
    injection h with h1 h2
    injection h2 with h2 h3
    rw [h1, h2, flat2_inj h3]
section
variable {T : Tb} {X : Cx} {E : XS} {pos : Pos}
theorem je_dispE {keys : List (Option Expr)} {values : List Expr} (prs : List (DE × DE)) (h : PPs X pos keys values (prs.map fun p => (tV T X.K E00 p.1, tV T X.K E00 p.2)))
    (hall : keys.all (·.isSome) = true := by rfl) (hl : keys.length = values.length := by rfl) (h0 : keys ≠ [] := by exact fun z => nomatch z) (h15 : keys.length ≤ 15 := by decide) : JE T X E (.Dict keys values pos) (dDispE prs) := by
  refine pe_imp (pe_disp h hall hl h0 h15) fun σ H Q ⟨R, F, l, S, r, re, q⟩ p hp => ?_
  have q : OkV T X.K R F (dDispE prs l S) Q (E σ) := q
  unfold dDispE at q
  cases hd : dKvs prs l S with
  | bad => rw [hd] at q; exact q.elim
  | err z S1 => rw [hd] at q; exact q.elim
  | ok xs S1 =>
    rw [hd] at q
    simp only at q
    cases hs : splitK xs with
    | none => rw [hs] at q; exact q.elim
    | some kv =>
      obtain ⟨ks, vs⟩ := kv
      rw [hs] at q
      simp only at q
      split at q
      · rename_i hc
        have hp0 : R.as <+: (Pl.mk R.as ((p, .dK []) :: R.hid)).as := List.prefix_refl R.as
        refine kvs_t prs σ _ _ ⟨⟨R.as, (p, .dK []) :: R.hid⟩, F, l, S, r.hide hp, re.mono0 hp0 (Ex.refl F), ?_⟩
        show OkL T X.K _ F (dKvs prs l S) _ _
        rw [hd]
        intro R1 F1 H1 us le ex r1 rx ps hps
        obtain ⟨as1, hid1⟩ := R1
        obtain ⟨pa, pb⟩ := le
        have pb : hid1 = (p, .dK []) :: R.hid := pb
        have pa : R.as <+: as1 := pa
        subst pb
        obtain ⟨kvs, e1, e2, e3⟩ := splitK_rel xs.length (Nat.le_refl _) rx hs
        have eps := flat2_inj (hps.trans e1)
        have hlen : kvs.length = ks.length := by rw [← e2, List.length_map]
        refine ⟨(r1.hid (p, .dK []) List.mem_cons_self).1, kvs, eps, by omega, ?_⟩
        rw [mergeK_nodup (by rw [List.nil_append, e2]; exact hc.1), List.nil_append]
        obtain ⟨ex2, r2⟩ := (r1.rehide (o' := .dK kvs)).bare
        refine q ⟨as1, R.hid⟩ _ _ _ ⟨pa, rfl⟩ (ex.trans ex2) r2 ?_
        rw [Rel]
        have ez : ks.zip (kvs.map (·.2)) = kvs := by
          rw [← e2]
          clear e2 e1 eps e3 hlen hps r2 ex2
          induction kvs with
          | nil => rfl
          | cons kv kvs ih => rw [List.map_cons, List.map_cons, List.zip_cons_cons, ih]
        exact ⟨p, kvs.map (·.2), rfl, ⟨by rw [List.length_map, List.length_map]; exact hlen, ks, rfl, .inl (by rw [ez]; exact upd_same)⟩, e3.sh (List.prefix_refl _) ex2⟩
      · exact q.elim
/-- a part of a display: no errors -/
theorem je_00 {e : Expr} {d : DE} (h : JE T X E e d) : PE X e (tV T X.K E00 d) := pe_imp h fun σ H Q ⟨R, F, l, S, r, re, q⟩ => ⟨R, F, l, S, r, re, by
  cases hd : d l S with
  | ok v S1 => rw [hd] at q; exact q
  | err z S1 =>
    rw [hd] at q
    intro R' F' H' cls dd p ex r' rx
    exact (q R' F' H' cls dd p ex r' rx).elim
  | bad => rw [hd] at q; exact q⟩
end
end Z
end
end
section
set_option Elab.async false
set_option linter.all false
set_option maxRecDepth 100000
set_option maxHeartbeats 1000000
/-! YD: dict(x), x a dict. -/
noncomputable section
namespace Z
open PySem PySem.Spec PyProof.Rows L2

def rDictD : List V → Hp → VK → Prop := fun xs H Q => ∃ (a : Addr) (kvs : List (Key × V)), xs = [.ref a] ∧ Rd H a (.dK kvs) ∧ ∀ p, H p = none → Q (.ref p) (upd H p (.dK kvs))
def dictP (xs : List PV) (S : Sto) : Out PV := match xs with
  | [x] => (match view x S with
    | some (.dct false ks, ys) => .ok (.nd (.dct false ks) ys) S
    | _ => .bad)
  | _ => .bad
theorem cz_dictD {T : Tb} {K : PySem.W.Frag} : CalZ T K dictP rDictD := by
  intro E R F H S xs us Q r rx h
  unfold dictP at h
  split at h
  · rename_i x
    obtain ⟨u, rfl, ru⟩ := rel1 rx
    split at h
    · rename_i ks ys hv
      obtain ⟨a, us, rfl, hs', hl⟩ := view_rel r ru hv
      obtain ⟨h0, kk, rfl, hk⟩ := hs'
      exact ⟨a, _, rfl, hk, fun q hq => PostV.new r hq (k := .dct false (kk.map PK.k)) ⟨h0, kk, rfl, .inl upd_same⟩ hl h⟩
    · exact h.elim
  · exact h.elim
def dictM (xs : List PV) (S : Sto) : Out PV := match xs with
  | [x] => (match view x S with
    | some (.dct false ks, ys) => .ok (.ref S.length) (S ++ [some (.dct false ks, ys)])
    | _ => .bad)
  | _ => .bad
theorem cz_dictDM {T : Tb} {K : PySem.W.Frag} : CalZ T K dictM rDictD := by
  intro E R F H S xs us Q r rx h
  unfold dictM at h
  split at h
  · rename_i x
    obtain ⟨u, rfl, ru⟩ := rel1 rx
    split at h
    · rename_i ks ys hv
      obtain ⟨a, us, rfl, hs', hl⟩ := view_rel r ru hv
      obtain ⟨h0, kk, rfl, hk⟩ := hs'
      exact ⟨a, _, rfl, hk, fun q hq => PostV.newM (k := .dct false (kk.map PK.k)) r hq ⟨h0, kk, rfl, upd_same⟩ hl h⟩
    · exact h.elim
  · exact h.elim
end Z
end
end
section
set_option Elab.async false
set_option linter.all false
set_option maxRecDepth 100000
set_option maxHeartbeats 1000000
/-! YE: comprehensions of two generators. -/
noncomputable section
namespace Z
open PySem PySem.Spec PyProof.Rows L2

section
variable {T : Tb} {X : Cx} {E : XS} {pos : Pos} {elt tg iter : Expr} {ifs : List Expr} {scope : Scope} {own : List (Str × Nat)} {di : DI} {t : TgZ} {c : DB} {el : DE}
/-- the inner walk, behind what stands already -/
theorem lc_in {K : PySem.W.Frag} {vs : List Nat} (hvs : ∀ i ∈ t.slots, i ∈ vs) {σ : L2.St} {H1 : Hp} {Q : Hp → Prop} {as1 : List Addr} {hid : List (Addr × HO)} {us0 : List V} {acc0 : List PV} {F1 : Hp} {l : Loc} {S1 : Sto} {J : It} {it : ItZ} {D : Addr} (r1 : Rep T K ⟨as1, (D, .lst us0) :: hid⟩ F1 S1 H1) (e1 : RelE T K ⟨as1, (D, .lst us0) :: hid⟩ F1 l σ) (wz : WalkZ T K J ⟨as1, (D, .lst us0) :: hid⟩ F1 it) (hh : heldB it.held S1 = true)
    {xs : List PV} {S9 : Sto} (hl : lcZ t it.held c el (wipeZ l vs) it.items S1 = .ok xs S9) (ra0 : RelL T K ⟨as1, hid⟩ F1 acc0 us0) (hsz : (acc0 ++ xs).length ≤ 16777216) (hq : ∀ as' F' H us, as1 <+: as' → Ex F1 F' → Rep T K ⟨as', (D, .lst us) :: hid⟩ F' S9 H → RelL T K ⟨as', hid⟩ F' (acc0 ++ xs) us → Q H) :
    ∃ W : Nat → Nat → Hp → Prop, (∃ m, W 0 m H1) ∧ ∀ i m H, W i m H →
      (J.stop i H ∧ Q H) ∨ (J.go i H ∧ ∃ Nx : Hp → Prop, (∀ H', Nx H' → ∃ m', m' < m ∧ W (i + 1) m' H') ∧ ∀ x H', J.yld i H x H' → gOf K t x (wipe σ vs) H' fun σ2 H2 => wipe σ2 vs = wipe σ vs ∧ tT T K E00 c σ2 H2 fun b H3 =>
        if b = true then tV T K E00 el σ2 H3 fun y H4 => ∃ acc, H4 D = some (.lst acc) ∧ acc.length < sizeLine ∧ Nx (upd H4 D (.lst (acc ++ [y]))) else Nx H3) := by
  let Inn : Nat → Hp → Prop := fun i H' => ∃ as2 F2 S2 acc us rest, as1 <+: as2 ∧ Ex F1 F2 ∧ Rep T K ⟨as2, (D, .lst us) :: hid⟩ F2 S2 H' ∧ RelL T K ⟨as2, hid⟩ F2 acc us ∧ heldB it.held S2 = true ∧ lcZ t it.held c el (wipeZ l vs) (it.items.drop i) S2 = .ok rest S9 ∧ acc0 ++ xs = acc ++ rest
  refine ⟨fun i m H' => m = it.items.length - i ∧ i ≤ it.items.length ∧ Inn i H', ⟨_, rfl, Nat.zero_le _, as1, F1, S1, acc0, us0, xs, List.prefix_refl _, Ex.refl F1, r1, ra0, hh, hl, rfl⟩, ?_⟩
  rintro i m H' ⟨rfl, hi, as2, F2, S2, acc, us, rest, p2, ex2, r2, ra, hh2, hr, exs⟩
  by_cases hlt : i < it.items.length
  · refine .inr ⟨wz.goes i _ F2 H' S2 hlt p2 ex2 r2 hh2, fun H3 => i + 1 ≤ it.items.length ∧ Inn (i + 1) H3, fun H3 ⟨q1, q2⟩ => ⟨it.items.length - (i + 1), by omega, rfl, q1, q2⟩, fun v H3 y => ?_⟩
    obtain ⟨F3, x, ex3, r3, hx, rv⟩ := wz.yields i _ F2 H' H3 S2 v hlt p2 ex2 r2 hh2 y
    have hdr : it.items.drop i = x :: it.items.drop (i + 1) := by
      rw [List.drop_eq_getElem_cons hlt]
      rw [List.getElem?_eq_getElem hlt] at hx
      cases hx; rfl
    rw [hdr, lcZ] at hr
    cases ha : asg t x with
    | none => rw [ha] at hr; cases hr
    | some ps =>
      rw [ha] at hr
      simp only at hr
      have e3 : RelE T K ⟨as2, (D, .lst us) :: hid⟩ F3 (wipeZ l vs) (wipe σ vs) := (e1.wipe vs).mono0 p2 (ex2.trans ex3)
      refine gOf_ok r3 t x v (wipeZ l vs) (wipe σ vs) ps _ e3 rv ha fun qs hqs e4 => ⟨by rw [wipe_setV (fun q hq' => hvs q.1 (hqs q hq')), wipe_idem], ⟨_, F3, setZ (wipeZ l vs) ps, S2, r3, e4, ?_⟩⟩
      cases hc : c (setZ (wipeZ l vs) ps) S2 with
      | bad => rw [hc] at hr; cases hr
      | err z S3 => rw [hc] at hr; cases hr
      | ok b S4 =>
        rw [hc] at hr
        intro R5 F5 H5 p5 ex5 r5
        obtain ⟨as5, hid5⟩ := R5
        obtain ⟨p5a, p5b⟩ := p5
        have p5b : hid5 = (D, .lst us) :: hid := p5b
        have p5a : as2 <+: as5 := p5a
        subst p5b
        cases b with
        | false =>
          simp only at hr
          split at hr
          · rename_i hh5
            exact ⟨hlt, as5, F5, S4, acc, us, rest, p2.trans p5a, (ex2.trans ex3).trans ex5, r5, ra.sh p5a (ex3.trans ex5), hh5, hr, exs⟩
          · cases hr
        | true =>
          simp only [if_true] at hr ⊢
          refine ⟨_, F5, setZ (wipeZ l vs) ps, S4, r5, e4.mono0 p5a ex5, ?_⟩
          cases hel : el (setZ (wipeZ l vs) ps) S4 with
          | bad => rw [hel] at hr; cases hr
          | err z S3 => rw [hel] at hr; cases hr
          | ok w S6 =>
            rw [hel] at hr
            simp only at hr
            intro R7 F7 H7 u7 p7 ex7 r7 rw7
            obtain ⟨as7, hid7⟩ := R7
            obtain ⟨p7a, p7b⟩ := p7
            have p7b : hid7 = (D, .lst us) :: hid := p7b
            have p7a : as5 <+: as7 := p7a
            subst p7b
            split at hr
            · rename_i hh7
              have d7 := (r7.hid (D, .lst us) List.mem_cons_self).1
              have lus : us.length = acc.length := ra.length
              have hbd : acc.length < (acc0 ++ xs).length := by
                cases hrest : lcZ t it.held c el (wipeZ l vs) (it.items.drop (i + 1)) S6 with
                | bad => rw [hrest] at hr; cases hr
                | err z S3 => rw [hrest] at hr; cases hr
                | ok rest' S8 =>
                  rw [hrest] at hr
                  cases hr
                  rw [exs, List.length_append, List.length_cons]
                  omega
              refine ⟨us, d7, by rw [sizeLine_eq, lus]; omega, hlt, ?_⟩
              cases hrest : lcZ t it.held c el (wipeZ l vs) (it.items.drop (i + 1)) S6 with
              | bad => rw [hrest] at hr; cases hr
              | err z S3 => rw [hrest] at hr; cases hr
              | ok rest' S8 =>
                rw [hrest] at hr
                cases hr
                refine ⟨as7, F7, S6, acc ++ [w], us ++ [u7], rest', (p2.trans p5a).trans p7a, ((ex2.trans ex3).trans ex5).trans ex7, r7.rehide, ?_, hh7, hrest, ?_⟩
                · exact (ra.sh (p5a.trans p7a) ((ex3.trans ex5).trans ex7)).append (.cons (rw7.sh (List.prefix_refl _) (Ex.refl F7)) .nil)
                · rw [exs, List.append_assoc]; rfl
            · cases hr
  · have e' : i = it.items.length := by omega
    subst e'
    rw [List.drop_length, lcZ] at hr
    cases hr
    rw [List.append_nil] at exs
    subst exs
    exact .inl ⟨wz.stops _ F2 H' S9 p2 ex2 r2 hh2, hq as2 F2 H' us p2 ex2 r2 ra⟩
end
def lcZ2 (t : TgZ) (hs : List (PV × Kd × List PV)) (c : DB) (vs1 : List Nat) (di1 : DI) (t1 : TgZ) (c1 : DB) (el : DE) (l : Loc) : List PV → Sto → Out (List PV)
  | [], S => .ok [] S
  | x :: xs, S => match asg t x with
    | none => .bad
    | some ps => match c (setZ l ps) S with
      | .ok true S1 => (match di1 (setZ l ps) S1 with
        | .ok it1 S2 => if heldB it1.held S2 = true then (match lcZ t1 it1.held c1 el (wipeZ (setZ l ps) vs1) it1.items S2 with
          | .ok ys S3 => if heldB hs S3 = true then (lcZ2 t hs c vs1 di1 t1 c1 el l xs S3).bind fun r S4 => .ok (ys ++ r) S4 else .bad
          | _ => .bad) else .bad
        | _ => .bad)
      | .ok false S1 => if heldB hs S1 = true then lcZ2 t hs c vs1 di1 t1 c1 el l xs S1 else .bad
      | _ => .bad
section
variable {T : Tb} {X : Cx} {E : XS} {pos : Pos} {elt tg iter tg1 iter1 : Expr} {ifs ifs1 : List Expr} {scope : Scope} {own : List (Str × Nat)} {di di1 : DI} {t t1 : TgZ} {c c1 : DB} {el : DE}
theorem lc2_ok {K : PySem.W.Frag} {vs vs1 : List Nat} (hvs : ∀ i ∈ t.slots, i ∈ vs) (hvs1 : ∀ i ∈ t1.slots, i ∈ vs1) {σ : L2.St} {H1 : Hp} {Q : VK} {R1 : Pl} {F1 : Hp} {l : Loc} {S1 : Sto} {J : It} {it : ItZ} {D : Addr} (r1 : Rep T K R1 F1 S1 H1) (e1 : RelE T K R1 F1 l σ) (wz : WalkZ T K J R1 F1 it) (hh : heldB it.held S1 = true)
    {xs : List PV} {S9 : Sto} (hsz : xs.length ≤ 16777216) (hl : lcZ2 t it.held c vs1 di1 t1 c1 el (wipeZ l vs) it.items S1 = .ok xs S9) (hq : Fin T K R1.as R1.hid F1 D Q xs S9) (hD : H1 D = none) :
    ∃ W : Nat → Nat → Hp → Prop, (∃ m, W 0 m (upd H1 D (.lst []))) ∧ ∀ i m H, W i m H →
      (J.stop i H ∧ Q (.ref D) H) ∨ (J.go i H ∧ ∃ Nx : Hp → Prop, (∀ H', Nx H' → ∃ m', m' < m ∧ W (i + 1) m' H') ∧ ∀ x H', J.yld i H x H' → gOf K t x (wipe σ vs) H' fun σ2 H2 => wipe σ2 vs = wipe σ vs ∧ tT T K E00 c σ2 H2 fun b H3 =>
        if b = true then tI T K E00 di1 σ2 H3 (fun J1 H4 => ∃ W1 : Nat → Nat → Hp → Prop, (∃ m, W1 0 m H4) ∧ ∀ j k H, W1 j k H →
          (J1.stop j H ∧ Nx H) ∨ (J1.go j H ∧ ∃ Nx1 : Hp → Prop, (∀ H', Nx1 H' → ∃ k', k' < k ∧ W1 (j + 1) k' H') ∧ ∀ x H', J1.yld j H x H' → gOf K t1 x (wipe σ2 vs1) H' fun σ3 H5 => wipe σ3 vs1 = wipe σ2 vs1 ∧ tT T K E00 c1 σ3 H5 fun b H6 =>
            if b = true then tV T K E00 el σ3 H6 fun y H7 => ∃ acc, H7 D = some (.lst acc) ∧ acc.length < sizeLine ∧ Nx1 (upd H7 D (.lst (acc ++ [y]))) else Nx1 H6)) else Nx H3) := by
  let Inn : Nat → Hp → Prop := fun i H' => ∃ as2 F2 S2 acc us rest, R1.as <+: as2 ∧ Ex F1 F2 ∧ Rep T K ⟨as2, (D, .lst us) :: R1.hid⟩ F2 S2 H' ∧ RelL T K ⟨as2, R1.hid⟩ F2 acc us ∧ heldB it.held S2 = true ∧ lcZ2 t it.held c vs1 di1 t1 c1 el (wipeZ l vs) (it.items.drop i) S2 = .ok rest S9 ∧ xs = acc ++ rest
  refine ⟨fun i m H' => m = it.items.length - i ∧ i ≤ it.items.length ∧ Inn i H', ⟨_, rfl, Nat.zero_le _, R1.as, F1, S1, [], [], xs, List.prefix_refl _, Ex.refl F1, r1.hide hD, .nil, hh, hl, rfl⟩, ?_⟩
  rintro i m H' ⟨rfl, hi, as2, F2, S2, acc, us, rest, p2, ex2, r2, ra, hh2, hr, exs⟩
  by_cases hlt : i < it.items.length
  · refine .inr ⟨wz.goes i _ F2 H' S2 hlt p2 ex2 r2 hh2, fun H3 => i + 1 ≤ it.items.length ∧ Inn (i + 1) H3, fun H3 ⟨q1, q2⟩ => ⟨it.items.length - (i + 1), by omega, rfl, q1, q2⟩, fun v H3 y => ?_⟩
    obtain ⟨F3, x, ex3, r3, hx, rv⟩ := wz.yields i _ F2 H' H3 S2 v hlt p2 ex2 r2 hh2 y
    have hdr : it.items.drop i = x :: it.items.drop (i + 1) := by
      rw [List.drop_eq_getElem_cons hlt]
      rw [List.getElem?_eq_getElem hlt] at hx
      cases hx; rfl
    rw [hdr, lcZ2] at hr
    cases ha : asg t x with
    | none => rw [ha] at hr; cases hr
    | some ps =>
      rw [ha] at hr
      simp only at hr
      have e3 : RelE T K ⟨as2, (D, .lst us) :: R1.hid⟩ F3 (wipeZ l vs) (wipe σ vs) := (e1.wipe vs).mono0 p2 (ex2.trans ex3)
      refine gOf_ok r3 t x v (wipeZ l vs) (wipe σ vs) ps _ e3 rv ha fun qs hqs e4 => ⟨by rw [wipe_setV (fun q hq' => hvs q.1 (hqs q hq')), wipe_idem], ⟨_, F3, setZ (wipeZ l vs) ps, S2, r3, e4, ?_⟩⟩
      cases hc : c (setZ (wipeZ l vs) ps) S2 with
      | bad => rw [hc] at hr; cases hr
      | err z S3 => rw [hc] at hr; cases hr
      | ok b S4 =>
        rw [hc] at hr
        intro R5 F5 H5 p5 ex5 r5
        obtain ⟨as5, hid5⟩ := R5
        obtain ⟨p5a, p5b⟩ := p5
        have p5b : hid5 = (D, .lst us) :: R1.hid := p5b
        have p5a : as2 <+: as5 := p5a
        subst p5b
        cases b with
        | false =>
          simp only at hr
          split at hr
          · rename_i hh5
            exact ⟨hlt, as5, F5, S4, acc, us, rest, p2.trans p5a, (ex2.trans ex3).trans ex5, r5, ra.sh p5a (ex3.trans ex5), hh5, hr, exs⟩
          · cases hr
        | true =>
          simp only [if_true] at hr ⊢
          cases hdi : di1 (setZ (wipeZ l vs) ps) S4 with
          | bad => rw [hdi] at hr; cases hr
          | err z S3 => rw [hdi] at hr; cases hr
          | ok it1 S6 =>
            rw [hdi] at hr
            simp only at hr
            split at hr
            · rename_i hh6
              cases hin : lcZ t1 it1.held c1 el (wipeZ (setZ (wipeZ l vs) ps) vs1) it1.items S6 with
              | bad => rw [hin] at hr; cases hr
              | err z S3 => rw [hin] at hr; cases hr
              | ok ys S7 =>
                rw [hin] at hr
                simp only at hr
                split at hr
                · rename_i hh7
                  cases hrest : lcZ2 t it.held c vs1 di1 t1 c1 el (wipeZ l vs) (it.items.drop (i + 1)) S7 with
                  | bad => rw [hrest] at hr; cases hr
                  | err z S3 => rw [hrest] at hr; cases hr
                  | ok rest' S8 =>
                    rw [hrest] at hr
                    cases hr
                    refine ⟨_, F5, setZ (wipeZ l vs) ps, S4, r5, e4.mono0 p5a ex5, ?_⟩
                    show OkI T K _ F5 (di1 (setZ (wipeZ l vs) ps) S4) _ _
                    rw [hdi]
                    intro R6 F6 H6 J1 p6 ex6 r6 wz1
                    obtain ⟨as6, hid6⟩ := R6
                    obtain ⟨p6a, p6b⟩ := p6
                    have p6b : hid6 = (D, .lst us) :: R1.hid := p6b
                    have p6a : as5 <+: as6 := p6a
                    subst p6b
                    refine lc_in hvs1 r6 (e4.mono0 (p5a.trans p6a) (ex5.trans ex6)) wz1 hh6 hin (ra.sh (p5a.trans p6a) ((ex3.trans ex5).trans ex6)) ?_ fun as' F' H8 us' pa exa r' ra' => ?_
                    · rw [exs] at hsz
                      rw [List.length_append, List.length_append] at hsz
                      rw [List.length_append]
                      omega
                    · exact ⟨hlt, as', F', S7, acc ++ ys, us', rest', ((p2.trans p5a).trans p6a).trans pa, (((ex2.trans ex3).trans ex5).trans ex6).trans exa, r', ra', hh7, hrest, by rw [exs, List.append_assoc]⟩
                · cases hr
            · cases hr
  · have e' : i = it.items.length := by omega
    subst e'
    rw [List.drop_length, lcZ2] at hr
    cases hr
    rw [List.append_nil] at exs
    subst exs
    exact .inl ⟨wz.stops _ F2 H' S9 p2 ex2 r2 hh2, hq as2 F2 H' us p2 ex2 r2 ra⟩
def dLc20 (vs vs1 : List Nat) (di : DI) (t : TgZ) (c : DB) (di1 : DI) (t1 : TgZ) (c1 : DB) (el : DE) : DA := fun l S => (di l S).bind fun it S1 => if heldB it.held S1 = true then (match lcZ2 t it.held c vs1 di1 t1 c1 el (wipeZ l vs) it.items S1 with
  | .ok xs S2 => if xs.length ≤ 16777216 then .ok xs S2 else .bad
  | _ => .bad) else .bad
/-- [el for t in di if c for t1 in di1 if c1] -/
def dLc2 (vs vs1 : List Nat) (di : DI) (t : TgZ) (c : DB) (di1 : DI) (t1 : TgZ) (c1 : DB) (el : DE) : DE := fun l S => (dLc20 vs vs1 di t c di1 t1 c1 el l S).bind fun xs S1 => .ok (.nd .lst xs) S1
def dLc2M (vs vs1 : List Nat) (di : DI) (t : TgZ) (c : DB) (di1 : DI) (t1 : TgZ) (c1 : DB) (el : DE) : DE := fun l S => (dLc20 vs vs1 di t c di1 t1 c1 el l S).bind fun xs S1 => .ok (.ref S1.length) (S1 ++ [some (.lst, xs)])
theorem lc2_t {vs vs1 : List Nat} (hvs : ∀ i ∈ t.slots, i ∈ vs) (hvs1 : ∀ i ∈ t1.slots, i ∈ vs1) {k : List PV → Sto → Out PV} {σ : L2.St} {H : Hp} {Q : VK} (h : tV T X.K E (fun l S => (dLc20 vs vs1 di t c di1 t1 c1 el l S).bind k) σ H Q)
    (hk : ∀ (xs : List PV) (S : Sto) (R : Pl) (F : Hp) (D : Addr), OkV T X.K R F (k xs S) Q (E σ) → Fin T X.K R.as R.hid F D Q xs S) : tLc2 (tI T X.K E di) (gOf X.K t) (tT T X.K E00 c) (tI T X.K E00 di1) (gOf X.K t1) (tT T X.K E00 c1) (tV T X.K E00 el) vs vs1 σ H Q := by
  obtain ⟨R, F, l, S, r, e, h⟩ := h
  refine ⟨R, F, l, S, r, e, ?_⟩
  have h : OkV T X.K R F (((di l S).bind fun it S1 => if heldB it.held S1 = true then (match lcZ2 t it.held c vs1 di1 t1 c1 el (wipeZ l vs) it.items S1 with
    | .ok xs S2 => if xs.length ≤ 16777216 then Out.ok xs S2 else .bad
    | _ => .bad) else .bad).bind k) Q (E σ) := h
  cases hd : di l S with
  | bad => rw [hd] at h; exact h.elim
  | err x S1 => rw [hd] at h; exact h
  | ok it S1 =>
    rw [hd] at h
    intro R1 F1 H1 J p ex r1 wz D hD
    have h : OkV T X.K R F ((if heldB it.held S1 = true then (match lcZ2 t it.held c vs1 di1 t1 c1 el (wipeZ l vs) it.items S1 with
      | .ok xs S2 => if xs.length ≤ 16777216 then Out.ok xs S2 else .bad
      | _ => .bad) else .bad).bind k) Q (E σ) := h
    split at h
    · rename_i hh
      cases hl : lcZ2 t it.held c vs1 di1 t1 c1 el (wipeZ l vs) it.items S1 with
      | ok xs S9 =>
        rw [hl] at h
        simp only at h
        split at h
        · rename_i hsz
          exact lc2_ok hvs hvs1 r1 (e.mono p ex) wz hh hsz hl (hk xs S9 R1 F1 D (OkV.mono p ex h)) hD
        · exact h.elim
      | err z S9 => rw [hl] at h; exact h.elim
      | bad => rw [hl] at h; exact h.elim
    · exact h.elim
/-- the blocks' derivations -/
structure Blk2 (T : Tb) (X : Cx) (scope : Scope) (tg : Expr) (ifs : List Expr) (tg1 iter1 : Expr) (ifs1 : List Expr) (elt : Expr) (t : TgZ) (c : DB) (di1 : DI) (t1 : TgZ) (c1 : DB) (el : DE) : Prop where
  tg : ∀ (s : Shared) (H : Hp) (C : Addr) (cl : List (Str × Addr)) (fp : List Addr), JG (X.blk s H scope (compEnvC scope cl C X.env) fp) tg t
  ts : ∀ (s : Shared) (H : Hp) (C : Addr) (cl : List (Str × Addr)) (fp : List Addr), JTs T (X.blk s H scope (compEnvC scope cl C X.env) fp) E00 ifs c
  hi : ∀ (s : Shared) (H : Hp) (C : Addr) (cl : List (Str × Addr)) (fp : List Addr), JI T (X.blk s H scope (compEnvC scope cl C X.env) fp) E00 tg1 iter1 di1
  tg1 : ∀ (s : Shared) (H : Hp) (C : Addr) (cl : List (Str × Addr)) (fp : List Addr), JG (X.blk s H scope (compEnvC scope cl C X.env) fp) tg1 t1
  ts1 : ∀ (s : Shared) (H : Hp) (C : Addr) (cl : List (Str × Addr)) (fp : List Addr), JTs T (X.blk s H scope (compEnvC scope cl C X.env) fp) E00 ifs1 c1
  el : ∀ (s : Shared) (H : Hp) (C : Addr) (cl : List (Str × Addr)) (fp : List Addr), JE T (X.blk s H scope (compEnvC scope cl C X.env) fp) E00 elt el
theorem je_lc2 (own : List (Str × Nat)) (vs1 : List Nat) (hc : X.calm = true) (hN : X.N.Nodup) (hi : JI T X E tg iter di) (hb : Blk2 T X scope tg ifs tg1 iter1 ifs1 elt t c di1 t1 c1 el) (ok : BlkOk X.N X.env.scope scope own) (hvs : ∀ i ∈ t.slots, i ∈ own.map (·.2) := by decide) (hvs1 : ∀ i ∈ t1.slots, i ∈ vs1 := by decide) (hv : ∀ i ∈ vs1, i ∈ own.map (·.2) := by decide)
    (hs : ∀ x, foldedSetIterable iter X.env x = pure x := by intro _; rfl) (hs1 : ∀ env x, foldedSetIterable iter1 env x = pure x := by intro _ _; rfl) : JE T X E (.ListComp elt [⟨tg, iter, ifs, 0⟩, ⟨tg1, iter1, ifs1, 0⟩] scope pos) (dLc2 (own.map (·.2)) vs1 di t c di1 t1 c1 el) :=
  pe_imp (pe_lc2 hc hN hi ok hv hb.tg hb.ts hb.hi hb.tg1 hb.ts1 hb.el hs hs1) fun σ H Q h => lc2_t hvs hvs1 h fun xs S R F D h => fin_nd h
theorem js_setLc2 (i : Nat) (own : List (Str × Nat)) (vs1 : List Nat) {y : Str} {py spos : Pos} (hc : X.calm = true) (hN : X.N.Nodup) (hi : JI T X E tg iter di) (hb : Blk2 T X scope tg ifs tg1 iter1 ifs1 elt t c di1 t1 c1 el) (ok : BlkOk X.N X.env.scope scope own) (hy : X.N[i]? = some y := by rfl) (hyl : X.env.scope.names.lookup y = some .local := by rfl)
    (hsw : swapsWith (.ListComp elt [⟨tg, iter, ifs, 0⟩, ⟨tg1, iter1, ifs1, 0⟩] scope pos) (some (.Name y py)) spos.line X.env = pure true := by rfl) (hvs : ∀ i ∈ t.slots, i ∈ own.map (·.2) := by decide) (hvs1 : ∀ i ∈ t1.slots, i ∈ vs1 := by decide) (hv : ∀ i ∈ vs1, i ∈ own.map (·.2) := by decide)
    (hs : ∀ x, foldedSetIterable iter X.env x = pure x := by intro _; rfl) (hs1 : ∀ env x, foldedSetIterable iter1 env x = pure x := by intro _ _; rfl) : JS T X E (.Assign [.Name y py] (.ListComp elt [⟨tg, iter, ifs, 0⟩, ⟨tg1, iter1, ifs1, 0⟩] scope pos) spos) (dSet i (dLc2 (own.map (·.2)) vs1 di t c di1 t1 c1 el)) :=
  ps_imp (ps_setLc2 hc hN hy hyl hsw hi ok hv hb.tg hb.ts hb.hi hb.tg1 hb.ts1 hb.el hs hs1) fun D σ H h => lc2_t hvs hvs1 (asg_st h) fun xs S R F D h => fin_nd h
end
end Z
end
end
section
set_option Elab.async false
set_option linter.all false
set_option maxRecDepth 100000
set_option maxHeartbeats 1000000
/-! YF: list.pop(i), extend, d.get(k), del d[k], o.f += e, a thing closed where it is named last. -/
noncomputable section
namespace Z
open PySem PySem.Spec PyProof.Rows L2

/-! ### a thing that may change, closed -/
def frzP (x : PV) (S : Sto) : Out PV := match x with
  | .ref n => (match S[n]? with
    | some (some (k, xs)) => .ok (.nd k xs) (S.set n none)
    | _ => .bad)
  | x => .ok x S
def dFz (d : DE) : DE := fun l S => (d l S).bind fun x S1 => frzP x S1
theorem liv_eq {T : Tb} {K : PySem.W.Frag} {H : Hp} {a : Addr} {k : Kd} {us : List V} (h : Liv T K H a k us) : ∃ o, H a = some o ∧ (∀ ps, o ≠ .tbl ps) ∧ ∀ F : Hp, Shp T K (upd F a o) a k us := by
  cases k with
  | tup => exact h.elim
  | scr => exact h.elim
  | lst => exact ⟨_, h, (fun _ z => by cases z), fun F => upd_same⟩
  | dct t ks =>
    cases t <;> (obtain ⟨h1, kk, h2, h3⟩ := h; exact ⟨_, h3, (fun _ z => by cases z), fun F => ⟨h1, kk, h2, .inl upd_same⟩⟩)
  | ins c fs =>
    obtain ⟨h1, dx, h2⟩ := h
    exact ⟨_, h2, (fun _ z => by cases z), fun F => ⟨h1, dx, upd_same⟩⟩
  | exn c fs => exact h.elim
  | clo a0 c0 q0 us0 => exact h.elim
theorem frzP_ok {T : Tb} {K : PySem.W.Frag} {R : Pl} {F H : Hp} {S : Sto} {x : PV} {u : V} {Q : VK} {E : XK} (r : Rep T K R F S H) (rx : Rel T K R F x u) (h : OkV T K R F (frzP x S) Q E) : Q u H := by
  cases x with
  | ref n =>
    unfold frzP at h
    simp only at h
    split at h
    · rename_i k xs hS
      rw [Rel] at rx
      obtain ⟨a, rfl, ha⟩ := rx
      obtain ⟨hf, us, hl, hx⟩ := r.live n a k xs ha hS
      obtain ⟨o, ho, ht, hs⟩ := liv_eq hl
      have r2 := r.freeze ha ho hf ht
      have ex : Ex F (upd F a o) := ex_upd hf
      refine h R (upd F a o) H (.ref a) (Pl.refl R) ex r2 ?_
      rw [Rel]
      exact ⟨a, us, rfl, hs F, hx.mono (Pl.refl R) ex⟩
    · exact h.elim
  | _ => exact PostV.here r rx h
section
variable {T : Tb} {X : Cx} {E : XS} {o e i value : Expr} {dO de di dv d : DE} {apos cpos pos tpos : Pos}
theorem je_fz (h : JE T X E e d) : JE T X E e (dFz d) := pe_imp h fun σ H Q ⟨R, F, l, S, r, e', h⟩ => by
  exact seqV (goV T X.K (E σ) Q) r e' h fun x S1 R1 F1 H1 u p ex r1 rx e1 h1 => frzP_ok r1 rx h1
/-! ### list.pop(i), list.extend(xs) -/
theorem eraseIdx_td {α : Type} (xs : List α) (k : Nat) : xs.eraseIdx k = xs.take k ++ xs.drop (k + 1) := List.eraseIdx_eq_take_drop_succ xs k
theorem RelL.erase {T : Tb} {K : PySem.W.Frag} {R : Pl} {F : Hp} {xs : List PV} {us : List V} (k : Nat) (h : RelL T K R F xs us) : RelL T K R F (xs.eraseIdx k) (us.eraseIdx k) := by
  rw [eraseIdx_td, eraseIdx_td]
  exact (h.take k).append (h.drop (k + 1))
def popAtP (x : PV) (ys : List PV) (S : Sto) : Out PV := match x, ys with
  | .ref n, [.int i] => (match S[n]? with
    | some (some (.lst, xs)) => if -(2 ^ 63) ≤ i ∧ i < 2 ^ 63 then (match seqIndex? i xs.length with
      | some k => (match xs[k]? with
        | some y => .ok y (S.set n (some (.lst, xs.eraseIdx k)))
        | none => .bad)
      | none => .bad) else .bad
    | _ => .bad)
  | _, _ => .bad
theorem mz_popAt {T : Tb} {K : PySem.W.Frag} : MetZ T K popAtP rPopAt := by
  intro E R F H S x xs u us Q r rx rxs h
  unfold popAtP at h
  split at h
  · rename_i n i
    obtain ⟨w, rfl, ri⟩ := rel1 rxs
    have := rel_int ri; subst this
    split at h
    · rename_i zs hS
      split at h
      · rename_i hi
        split at h
        · rename_i k hk
          split at h
          · rename_i y hy
            rw [Rel] at rx
            obtain ⟨a, rfl, ha⟩ := rx
            obtain ⟨hf, ws, hl, hx⟩ := r.live n a .lst zs ha hS
            have hl : H a = some (.lst ws) := hl
            obtain ⟨w, h1, h2⟩ := hx.get hy
            refine ⟨a, ws, i, k, w, rfl, rfl, hl, hi.1, hi.2, by rw [hx.length]; exact hk, h1, ?_⟩
            exact PostV.here (r.put ha hf (k := .lst) (xs := zs.eraseIdx k) upd_same (hx.erase k)) h2 h
          · exact h.elim
        · exact h.elim
      · exact h.elim
    · exact h.elim
  · exact h.elim
def extP (x : PV) (ys : List PV) (S : Sto) : Out PV := match x, ys with
  | .ref n, [y] => (match S[n]?, view y S with
    | some (some (.lst, xs)), some (.lst, zs) => if xs.length + zs.length ≤ 16777216 then .ok .non (S.set n (some (.lst, xs ++ zs))) else .bad
    | _, _ => .bad)
  | _, _ => .bad
theorem mz_ext {T : Tb} {K : PySem.W.Frag} : MetZ T K extP rExtend := by
  intro E R F H S x xs u us Q r rx rxs h
  unfold extP at h
  split at h
  · rename_i n y
    obtain ⟨w, rfl, ry⟩ := rel1 rxs
    split at h
    · rename_i zs ys hS hv
      split at h
      · rename_i hz
        rw [Rel] at rx
        obtain ⟨a, rfl, ha⟩ := rx
        obtain ⟨hf, ws, hl, hx⟩ := r.live n a .lst zs ha hS
        have hl : H a = some (.lst ws) := hl
        obtain ⟨b, vs, rfl, hb, hbl⟩ := view_rel r ry hv
        have hb : H b = some (.lst vs) := hb
        refine ⟨a, b, ws, vs, rfl, rfl, hl, hb, by rw [sizeLine_eq, hx.length, hbl.length]; exact hz, ?_⟩
        exact PostV.here (v := .non) (r.put ha hf (k := .lst) (xs := zs ++ ys) upd_same (hx.append hbl)) (by rw [Rel]) h
      · exact h.elim
    · exact h.elim
  · exact h.elim
theorem je_pop (ho : JE T X E o dO) (hbase : attributeBase o "pop" X.env (eval o X.env) = eval o X.env := by rfl) (hline : (apos.endLine == cpos.line) = true := by rfl) :
    JE T X E (.Call (.Attribute o "pop" apos) [] [] cpos) (dMet "list" popP dO dNil) :=
  je_met0 PySem.F.plainAttrs_list PySem.F.slot_list_pop PySem.F.type_list_pop mt_pop mz_pop ho hbase hline
theorem je_popAt (ho : JE T X E o dO) (ha : JE T X E e d) (hbase : attributeBase o "pop" X.env (eval o X.env) = eval o X.env := by rfl)
    (hfew : ((backTo cpos (starEach [e] X.env)).all (fun x => !x.1) && (backToKw cpos (keywordEach [] X.env)).all (fun x => x.1.isSome) && decide (([e] : List Expr).length + ([] : List Keyword).length + (if ([] : List Keyword).isEmpty then 0 else 1) < 30)) = true := by rfl)
    (hline : (apos.endLine == cpos.line) = true := by rfl) (hs : starEach [e] X.env = (false, eval e X.env) :: starEach [] X.env := by rfl) (hpl : (backTo cpos (starEach [] X.env)).any (·.1) = false := by rfl) :
    JE T X E (.Call (.Attribute o "pop" apos) [e] [] cpos) (dMet "list" popAtP dO (dCons d dNil)) :=
  je_met PySem.F.plainAttrs_list PySem.F.slot_list_pop PySem.F.type_list_pop mt_popAt mz_popAt ho (ja_cons ha ja_nil hs) hbase hfew hline hs hpl
theorem je_ext (ho : JE T X E o dO) (ha : JE T X E e d) (hbase : attributeBase o "extend" X.env (eval o X.env) = eval o X.env := by rfl)
    (hfew : ((backTo cpos (starEach [e] X.env)).all (fun x => !x.1) && (backToKw cpos (keywordEach [] X.env)).all (fun x => x.1.isSome) && decide (([e] : List Expr).length + ([] : List Keyword).length + (if ([] : List Keyword).isEmpty then 0 else 1) < 30)) = true := by rfl)
    (hline : (apos.endLine == cpos.line) = true := by rfl) (hs : starEach [e] X.env = (false, eval e X.env) :: starEach [] X.env := by rfl) (hpl : (backTo cpos (starEach [] X.env)).any (·.1) = false := by rfl) :
    JE T X E (.Call (.Attribute o "extend" apos) [e] [] cpos) (dMet "list" extP dO (dCons d dNil)) :=
  je_met PySem.F.plainAttrs_list PySem.F.slot_list_extend PySem.F.type_list_extend mt_extend mz_ext ho (ja_cons ha ja_nil hs) hbase hfew hline hs hpl

/-! ### d.get(k) -/
def getD1 (d k : PV) (S : Sto) : Out PV := getD2 d k .non S
def dGet1 (o k : DE) : DE := fun l S => (o l S).bind fun d S1 => if isDct d S1 = true then (k l S1).bind fun y S2 => getD1 d y S2 else .bad
section
variable {pins : List (Addr × Obj)} {σ : L2.St} {H : Hp} {s : Shared} {a : Addr} {y : V} {u : Value} {ov : Option V} {A : Around} {Ev : Value → Shared → Prop}
theorem z_get1 {Q : Value → Shared → Prop} (hu : A.units + 1 < cLine) (I : Inv X pins σ H s) (g : DGetZ H a y ov) (ry : RelV y u) (h : ∀ w' s', Inv X pins σ H s' → RelV (ov.getD .non) w' → Q w' s') : wpAny (model X.prog X.w) A (call (.builtin "dict.get") [.ref a, u]) Q Ev s := by
  rcases g with g | ⟨⟨e, k, rfl⟩ | ⟨e, k, b, rfl, eb⟩, rfl⟩
  · exact d_get1 hu I g ry h
  · obtain ⟨hd, dd⟩ := em_k I.hok e
    exact call_meetsIn PySem.F.slot_dict_get dd.typeIs PySem.F.entry_dict_get (PySem.F.args_dict_get_2 _ _) (meets_dict_get (mixKind X.prog X.w) a (kV_is ry) hd) ⟨_, dd.mapOf, h _ _ (I.tok _) rfl⟩
  · obtain ⟨hd, dd⟩ := em_t I.hok e
    cases ry
    exact call_meetsIn PySem.F.slot_dict_get dd.typeIs PySem.F.entry_dict_get (PySem.F.args_dict_get_2 _ _) (meetsH_dict_get (tupleKind (mixKind X.prog X.w)) a b hd) ⟨tupleKind_room_in1 hu, k, [], key_of I.hok eb, dd, h _ _ (I.tok _) rfl⟩
end
theorem pe_getZ1 {td ty : TE} (hu : X.A.units + 1 < cLine) (ho : L2.PE X o td) (he : L2.PE X e ty) (m : M1 X o "get" apos e cpos) :
    L2.PE X (.Call (.Attribute o "get" apos) [e] [] cpos) (fun σ H Q => td σ H fun x H1 => ∃ a, x = .ref a ∧ IsD H1 a ∧ ty σ H1 fun y H2 => ∃ r, DGetZ H2 a y r ∧ Q (r.getD .non) H2) := by
  refine ⟨fun pins s σ H Q I h => ?_⟩
  refine wpAny_Call_method m.base m.few m.line PySem.F.plainAttrs_dict PySem.F.slot_dict_get PySem.F.type_dict_get (thn (ho.run pins s σ H _ I h) fun u s1 ⟨x, H1, I1, rx, a, ex, d, q1⟩ => ?_)
  subst ex
  cases rx
  obtain ⟨t1, t2, _⟩ := isD_at I1 d
  refine ⟨t1, t2, ?_⟩
  rw [m.trees]
  refine Calls.callWith_builtin rfl (Calls.evalArgs_plain (Calls.spliced_cons (thn (he.run pins s1 σ H1 _ I1 q1) fun iv s2 ⟨y, H2, I2, ry, ov, g, q2⟩ => Calls.spliced_nil ?_)))
  exact z_get1 hu I2 g ry fun w' s4 I4 rw' => ⟨_, H2, I4, rw', q2⟩
theorem je_get1 (hu : X.A.units + 1 < cLine) (ho : JE T X E o dO) (he : JE T X E e de) (hbase : attributeBase o "get" X.env (eval o X.env) = eval o X.env := by rfl)
    (hfew : ((backTo cpos (starEach [e] X.env)).all (fun x => !x.1) && (backToKw cpos (keywordEach [] X.env)).all (fun x => x.1.isSome)
      && decide (([e] : List Expr).length + ([] : List Keyword).length + (if ([] : List Keyword).isEmpty then 0 else 1) < 30)) = true := by rfl)
    (hline : (apos.endLine == cpos.line) = true := by rfl) (htr : backTo cpos (starEach [e] X.env) = [(false, eval e X.env)] := by rfl) :
    JE T X E (.Call (.Attribute o "get" apos) [e] [] cpos) (dGet1 dO de) := by
  refine pe_imp (pe_getZ1 hu ho he ⟨hbase, hfew, hline, htr⟩) fun σ H Q ⟨R, F, l, S, re, e', h⟩ => ?_
  refine seqV (goV T X.K (E σ) Q) re e' h fun x S1 R1 F1 H1 u p ex r1 rx e1 h1 => ?_
  have h1 : OkV T X.K R1 F1 (if isDct x S1 = true then (de l S1).bind fun y S2 => getD1 x y S2 else .bad) Q (E σ) := h1
  split at h1
  · rename_i hi
    obtain ⟨a, rfl, hd⟩ := isDct_rel r1 rx hi
    refine ⟨a, rfl, hd, ?_⟩
    refine seqV (goV T X.K (E σ) Q) r1 e1 h1 fun y S2 R2 F2 H2 w p2 ex2 r2 ry e2 h3 => ?_
    have h3 : OkV T X.K R2 F2 (getD2 x y .non S2) Q (E σ) := h3
    unfold getD2 at h3
    split at h3
    · rename_i tt ks xs hv
      split at h3
      · rename_i q hk
        split at h3
        · rename_i hf
          obtain ⟨a', o, e, _, g, h4, h5⟩ := dict_getZ r2 (rx.mono p2 ex2) ry hv hk hf
          cases e
          refine ⟨o, g, ?_⟩
          refine PostV.here r2 (v := (dLook ks xs q).getD .non) ?_ h3
          cases hd : dLook ks xs q with
          | none => rw [h5 hd]; show Rel T X.K R2 F2 .non .non; rw [Rel]
          | some x => obtain ⟨v, e, rv⟩ := h4 x hd; rw [e]; exact rv
        · exact h3.elim
      · exact h3.elim
    · exact h3.elim
  · exact h1.elim

/-! ### del d[k] -/
def dDropK (ks : List PK) (q : PK) : List PK := ks.filter fun k => decide (k ≠ q)
def dDropV {α : Type} (q : PK) : List PK → List α → List α
  | k :: ks, x :: xs => if k = q then dDropV q ks xs else x :: dDropV q ks xs
  | _, _ => []
theorem dDropV_rel {K : PySem.W.Frag} {R : Pl} {F : Hp} {q : PK} : ∀ {ks : List PK} {xs : List PV} {us : List V}, RelL T K R F xs us → RelL T K R F (dDropV q ks xs) (dDropV q ks us)
  | [], _, _, _ => by unfold dDropV; exact .nil
  | k :: ks, [], us, h => by rw [RelL] at h; subst h; exact .nil
  | k :: ks, x :: xs, us, h => by
    rw [RelL] at h
    obtain ⟨u, r, rfl, h1, h2⟩ := h
    unfold dDropV
    by_cases e : k = q
    · rw [if_pos e, if_pos e]; exact dDropV_rel h2
    · rw [if_neg e, if_neg e]; exact .cons h1 (dDropV_rel h2)
theorem dDropV_len {α : Type} {q : PK} : ∀ {ks : List PK} {xs : List α}, xs.length = ks.length → (dDropV q ks xs).length = (dDropK ks q).length
  | [], [], _ => rfl
  | [], _ :: _, h => by cases h
  | _ :: _, [], h => by cases h
  | k :: ks, x :: xs, h => by
    have ih := dDropV_len (α := α) (q := q) (ks := ks) (xs := xs) (by simpa using h)
    unfold dDropV
    by_cases e : k = q
    · rw [if_pos e, ih]
      unfold dDropK
      rw [List.filter_cons_of_neg (by simp [e])]
    · rw [if_neg e, List.length_cons, ih]
      unfold dDropK
      rw [List.filter_cons_of_pos (by simp [e]), List.length_cons]
theorem dDrop_zip {κ : Type} [DecidableEq κ] (f : κ → PK) (inj : ∀ a b, f a = f b → a = b) (q : κ) : ∀ {kk : List κ} {us : List V}, us.length = kk.length →
    ∃ kk' : List κ, dDropK (kk.map f) (f q) = kk'.map f ∧ dropK (kk.zip us) q = kk'.zip (dDropV (f q) (kk.map f) us)
  | [], us, _ => ⟨[], rfl, rfl⟩
  | k :: kk, [], h => by cases h
  | k :: kk, u :: us, h => by
    obtain ⟨kk', h1, h2⟩ := dDrop_zip f inj q (kk := kk) (us := us) (by simpa using h)
    by_cases e : k = q
    · refine ⟨kk', ?_, ?_⟩
      · rw [← h1]; unfold dDropK
        rw [List.map_cons, List.filter_cons_of_neg (by simp [e])]
      · rw [List.map_cons, dDropV, if_pos (by rw [e]), ← h2, List.zip_cons_cons]
        unfold dropK
        rw [List.filter_cons_of_neg (by simp [e])]
    · have e' : ¬ f k = f q := fun z => e (inj _ _ z)
      refine ⟨k :: kk', ?_, ?_⟩
      · show dDropK (f k :: kk.map f) (f q) = f k :: kk'.map f
        rw [← h1]; unfold dDropK
        rw [List.filter_cons_of_pos (by simp [e'])]
      · rw [List.map_cons, dDropV, if_neg e', List.zip_cons_cons, List.zip_cons_cons, ← h2]
        unfold dropK
        rw [List.filter_cons_of_pos (by simp [e])]
def delP (x i : PV) (S : Sto) : Option Sto := match x with
  | .ref n => (match S[n]? with
    | some (some (.dct t ks, xs)) => (match keyOf i with
      | some q => if q.fits t = true ∧ q ∈ ks then some (S.set n (some (.dct t (dDropK ks q), dDropV q ks xs))) else none
      | none => none)
    | _ => none)
  | _ => none
def dDel (o i : DE) : DS := fun l S => (o l S).st l fun x S1 => (i l S1).st l fun y S2 => match delP x y S2 with
  | some S3 => .nx l S3
  | none => .bad
theorem ps_ddelT {td ty : TE} (hu : X.A.units + 1 < cLine) (ho : L2.PE X o td) (hi : L2.PE X i ty) : PS X (.Delete [.Subscript o i tpos] pos)
    (fun D σ H => td σ H fun x H1 => ty σ H1 fun y H2 => (∃ a kvs k, x = .ref a ∧ H2 a = some (.dK kvs) ∧ y = kV k ∧ (valV kvs k).isSome = true ∧ D.nx σ (upd H2 a (.dK (dropK kvs k)))) ∨
      ∃ (a : Addr) (kvs : List (List L2.Key × V)) (k : List L2.Key) (b : Addr), x = .ref a ∧ H2 a = some (.dT kvs) ∧ y = .ref b ∧ H2 b = some (.tup (k.map kV)) ∧ (valV kvs k).isSome = true ∧ D.nx σ (upd H2 a (.dT (dropK kvs k)))) := by
  refine ⟨fun pins s σ H D I h => ?_⟩
  refine wpAny_Delete (wpAny_deleteEach_cons (wpAny_delete_Subscript (thn (ho.run pins s σ H _ I h) fun u s1 ⟨x, H1, I1, rx, q1⟩ => thn (hi.run pins s1 σ H1 _ I1 q1) fun iv s2 ⟨y, H2, I2, ry, q2⟩ => ?_)))
  rcases q2 with ⟨a, kvs, k, ex, e, ey, l, q2⟩ | ⟨a, kvs, k, b, ex, e, ey, eb, l, q2⟩
  · subst ex ey
    obtain rfl : u = Value.ref a := rx
    exact d_delItem I2 e ry l fun s3 I3 => wpAny_deleteEach_nil ⟨σ, _, I3, q2⟩
  · subst ex ey
    obtain rfl : u = Value.ref a := rx
    cases ry
    obtain ⟨z, hd, xs', rel, dd⟩ := dt_of I2.hok e
    have hz : xs'.length ≤ sizeLine := by rw [← Paired.length rel]; exact z
    have rv := rel.val k
    obtain ⟨v0, hv0⟩ := Option.isSome_iff_exists.mp l
    rw [hv0] at rv
    obtain ⟨p, hp⟩ : ∃ p, atKey xs' k = some p := by
      cases hq : atKey xs' k with
      | some p => exact ⟨p, rfl⟩
      | none => rw [hq] at rv; exact (show False from rv).elim
    refine wpAny_delItem_heap (tupleKind_room_in1 hu) (key_of I2.hok eb) hd dd hp (fun h' dd' hs => wpAny_deleteEach_nil ⟨σ, _, ?_, q2⟩) hz
    obtain ⟨o, es, ep, hq, h2, h3, h4, _, h5⟩ := dd'
    exact d_write I2 (by rw [e]; exact True.intro) hs ⟨o, hq⟩ ⟨Nat.le_trans (dropK_le kvs k) z, hd, _, (L2.DX.KT_drop k rel).keeps (fun c ys ec => (by rw [upd_ne (ne_of ec e (fun z => nomatch z))]; exact ec)), o, es, ep, hq, h2, h3, h4, h5⟩
theorem js_del (hu : X.A.units + 1 < cLine) (ho : JE T X E o dO) (hi : JE T X E i di) : JS T X E (.Delete [.Subscript o i tpos] pos) (dDel dO di) :=
  ps_imp (ps_ddelT hu ho hi) fun D σ H ⟨R, F, l, S, r, e, h⟩ => by
    refine st_v r e h fun x S1 R1 F1 H1 u p ex r1 rx e1 h1 => ?_
    refine st_v r1 e1 h1 fun y S2 R2 F2 H2 w p2 ex2 r2 ry e2 h2 => ?_
    have h2 : OkS T X.K R2 F2 (match delP x y S2 with
      | some S3 => .nx l S3
      | none => .bad) D E := h2
    split at h2
    · rename_i S3 hp
      have rx2 := rx.mono p2 ex2
      cases x with
      | ref n =>
        simp only [delP] at hp
        split at hp
        · rename_i t ks xs hS
          split at hp
          · rename_i q hk
            split at hp
            · rename_i hf
              cases hp
              rw [Rel] at rx2
              obtain ⟨a, rfl, ha⟩ := rx2
              obtain ⟨hz, us, hl, hx⟩ := r2.live n a _ xs ha hS
              rcases key_rel r2 ry hk with ⟨k, rfl, rfl⟩ | ⟨k, b, rfl, rfl, hb⟩
              · cases t with
                | true => exact absurd hf.1 Bool.false_ne_true
                | false =>
                  obtain ⟨h0, kk, rfl, hH⟩ := hl
                  have h0' : us.length = kk.length := by rw [h0, List.length_map]
                  obtain ⟨kk', e1', e2'⟩ := dDrop_zip PK.k (fun a b e => by injection e) k h0'
                  have hm : k ∈ kk := by
                    obtain ⟨z, hz1, hz2⟩ := List.mem_map.mp hf.2
                    cases hz2; exact hz1
                  refine .inl ⟨a, _, k, rfl, hH, rfl, ?_, PostE.here (r2.put ha hz (k := .dct false (dDropK (kk.map PK.k) (.k k))) (us := dDropV (.k k) (kk.map PK.k) us) ⟨dDropV_len (by rw [List.length_map]; exact h0'), kk', e1', ?_⟩ (dDropV_rel hx)) e2 h2⟩
                  · rw [← valV_any, List.any_eq_true]
                    obtain ⟨j, hj, ej⟩ := List.getElem_of_mem hm
                    exact ⟨(kk[j], us[j]'(by rw [h0']; exact hj)), List.mem_iff_getElem.mpr ⟨j, by rw [List.length_zip, h0', Nat.min_self]; exact hj, by rw [List.getElem_zip]⟩, by simp [ej]⟩
                  · rw [upd_same, e2']
              · cases t with
                | false => exact absurd hf.1 Bool.false_ne_true
                | true =>
                  obtain ⟨h0, kk, rfl, hH⟩ := hl
                  have h0' : us.length = kk.length := by rw [h0, List.length_map]
                  obtain ⟨kk', e1', e2'⟩ := dDrop_zip PK.t (fun a b e => by injection e) k h0'
                  have hm : k ∈ kk := by
                    obtain ⟨z, hz1, hz2⟩ := List.mem_map.mp hf.2
                    cases hz2; exact hz1
                  refine .inr ⟨a, _, k, b, rfl, hH, rfl, hb, ?_, PostE.here (r2.put ha hz (k := .dct true (dDropK (kk.map PK.t) (.t k))) (us := dDropV (.t k) (kk.map PK.t) us) ⟨dDropV_len (by rw [List.length_map]; exact h0'), kk', e1', ?_⟩ (dDropV_rel hx)) e2 h2⟩
                  · rw [← valV_any, List.any_eq_true]
                    obtain ⟨j, hj, ej⟩ := List.getElem_of_mem hm
                    exact ⟨(kk[j], us[j]'(by rw [h0']; exact hj)), List.mem_iff_getElem.mpr ⟨j, by rw [List.length_zip, h0', Nat.min_self]; exact hj, by rw [List.getElem_zip]⟩, by simp [ej]⟩
                  · rw [upd_same, e2']
            · cases hp
          · cases hp
        · cases hp
      | _ => cases hp
    · exact h2.elim

/-! ### o.f += e -/
def dAugA (T : Tb) (f : Nat) (o v : DE) : DS := fun l S => (o l S).st l fun x S1 => match view x S1 with
  | some (.ins c fs, xs) => if T.okf c f = true ∧ fs.all (T.okf c) = true then (match fLook fs xs f with
    | some (.int i) => (v l S1).st l fun z S3 => (match z with
      | .int j => if isIns c x S3 = true then (match putA T f x (.int (i + j)) S3 with
        | some S4 => .nx l S4
        | none => .bad) else .bad
      | _ => .bad)
    | _ => .bad) else .bad
  | _ => .bad
theorem js_augA (f : Nat) {N : Str} (O : TbOk T X.K) (ho : JE T X E o dO) (hv : JE T X E value dv) (hf : T.fd f = N := by rfl) : JS T X E (.AugAssign (.Attribute o N tpos) .Add value pos) (dAugA T f dO dv) := by
  subst hf
  refine ps_imp (ps_fldaug ho hv in_add) fun D σ H ⟨R, Fz, l, S, r, e, h⟩ => ?_
  refine st_v r e h fun x S1 R1 F1 H1 u p ex r1 rx e1 h1 => ?_
  split at h1
  · rename_i c fs xs hv'
    split at h1
    · rename_i hc
      split at h1
      · rename_i i hi
        obtain ⟨a, us, rfl, hs, hl⟩ := view_rel r1 rx hv'
        obtain ⟨hlen, dx, ha⟩ := hs
        obtain ⟨hf, hcl, hno⟩ := O.ok c f hc.1
        obtain ⟨w, q1, q2⟩ := fLook_rel O hf (all_lt O hc.2) hl hi
        have := rel_int q2; subst this
        refine ⟨a, _, dx, _, _, rfl, ha, hcl, hno, q1, ?_⟩
        refine st_v r1 e1 h1 fun z S3 R3 F3 H3 w p3 ex3 r3 rz e3 h3 => ?_
        split at h3
        · rename_i j
          have := rel_int rz; subst this
          split at h3
          · rename_i hin
            split at h3
            · rename_i S4 hp
              have rx3 := rx.mono p3 ex3
              obtain ⟨a1, dx1, fs1, ea1, ha1⟩ := isIns_rel r3 rx3 hin
              cases ea1
              obtain ⟨a2, C2, dx2, fs2, ea2, ha2, _, _, hlt, r4⟩ := putA_rel (y := .int (i + j)) (w := .int (i + j)) O r3 rx3 (by rw [Rel]) hp
              cases ea2
              rw [ha1] at ha2
              cases ha2
              exact ⟨_, _, rfl, rfl, dx1, fs1, ha1, hlt, PostE.here r4 e3 h3⟩
            · exact h3.elim
          · exact h3.elim
        · exact h3.elim
      · exact h1.elim
    · exact h1.elim
  · exact h1.elim
end
end Z
end
end
section
set_option Elab.async false
set_option linter.all false
set_option maxRecDepth 100000
set_option maxHeartbeats 1000000
/-! YG: d.items(), d.values() walked, keys of both kinds. -/
noncomputable section
namespace Z
open PySem PySem.Spec PyProof.Rows L2

/-- tuple keys: an entry's key and value -/
theorem frzT2 {X : Cx} {pins : List (Addr × Obj)} {σ : L2.St} {H : Hp} {s : Shared} {d : Addr} {o : Obj} {kvs : List (List Key × V)} (I : Inv X pins σ H s) (h : H d = some (.frz o (.dT kvs))) :
    (d == sysModules) = false ∧ s.heap.get? d = some o ∧ o.ExactDict ∧ ∃ (es : Array DictEntry) (ep : Nat), o.data = .dict es ep ∧ es.size = kvs.length ∧
      ∀ (i : Nat) (k : List Key) (v : V), kvs[i]? = some (k, v) → ∃ (en : DictEntry) (q : Addr), es[i]? = some en ∧ en.key = .ref q ∧ H q = some (.tup (k.map kV)) ∧ RelV v en.val := by
  obtain ⟨hd, z, hs, xs, pr, o', es, ep, ho, hx, hdt, he, _⟩ := I.hok d _ h
  rw [hd] at ho
  cases ho
  refine ⟨hs, hd, hx, es, ep, hdt, ?_, fun i k v e => ?_⟩
  · have l1 : es.size = xs.length := size_of_entries he
    have l2 : kvs.length = xs.length := Paired.length pr
    omega
  · obtain ⟨b, hb, e1, e2, e3⟩ := paired_get pr e
    have q := entry_at he i
    rw [hb] at q
    exact ⟨_, b.2.1, q, rfl, e2, e3⟩
/-- the values of tuple keys -/
def Itdt (d : Addr) (o : Obj) (kvs : List (List Key × V)) : It :=
  ⟨fun i H => H d = some (.frz o (.dT kvs)) ∧ i < kvs.length, fun i H x H' => H' = H ∧ ∃ k, kvs[i]? = some (k, x), fun i H => H d = some (.frz o (.dT kvs)) ∧ kvs.length ≤ i⟩
/-- the pairs, each a new tuple -/
def Itit (d : Addr) (o : Obj) (kvs : List (List Key × V)) : It :=
  ⟨fun i H => H d = some (.frz o (.dT kvs)) ∧ i < kvs.length, fun i H x H' => ∃ (T : Addr) (k : List Key) (v : V) (q : Addr), kvs[i]? = some (k, v) ∧ H q = some (.tup (k.map kV)) ∧ x = .ref T ∧ H T = none ∧ H' = upd H T (.tup [.ref q, v]), fun i H => H d = some (.frz o (.dT kvs)) ∧ kvs.length ≤ i⟩
section
variable {P : Program} {w : World} {K : PySem.W.Frag} {tg : Expr} {d : Addr} {o : Obj} {es : Array DictEntry} {ep : Nat}
theorem turn_valsT {kvs : List (List Key × V)} (it : Addr) (hod : o.data = .dict es ep) : Turn P w K tg (Itdt d o kvs) [it] it (fun i h => h.IsValIter it d i kvs.length ep) where
  mem := by simp
  obj := fun i h st b hb => by
    have e : b = it := by simpa using hb
    subst e
    obtain ⟨oi, e, c, dd⟩ := st
    exact ⟨oi, e, fun v z => by rw [dd] at z; cases z⟩
  keep := fun i h h' st k => st.at fun oi e => k it (by simp) oi e
  item := by
    intro X hP hw hK hc i pins s σ H E I hf st hg
    subst hP hw hK
    obtain ⟨hd, hi⟩ := hg
    obtain ⟨f0, f1, f2, f3, f4, f5⟩ := hf it (by simp)
    obtain ⟨hs, hgd, hx, es', ep', hdt, hsz, ent⟩ := frzT2 I hd
    obtain ⟨rfl, rfl⟩ := dict_ep hod hdt
    obtain ⟨⟨k, v⟩, hkv⟩ : ∃ p, kvs[i]? = some p := ⟨kvs[i], List.getElem?_eq_getElem hi⟩
    obtain ⟨en, q, hen, hkey, hq, rv⟩ := ent i k v hkv
    have hi' : i < es'.size := by rw [hsz]; exact hi
    have een : es'[i] = en := by rw [Array.getElem?_eq_getElem hi'] at hen; exact Option.some.inj hen
    rw [← hsz] at st
    refine PySem.wpAny_pyNext_values_item_raw st ⟨o, hgd, hx, hdt⟩ hi' fun h' st' sb => ?_
    have I1 : Inv X pins σ H { s with heap := h' } := I.turned (t' := s.toks) (fun b ob hb e => (sb.2 b hb).trans e) f0 f1 f3 f4 f5
    obtain ⟨oi, e, c, dd⟩ := id st'
    refine ⟨_, rfl, go_of (s := { s with heap := h' }) e c dd (by decide) ⟨v, H, I1, by rw [een]; exact rv, ⟨rfl, k, hkv⟩, ?_, fun b hb => (hf b hb).1⟩⟩
    show h'.IsValIter it d (i + 1) kvs.length _
    rw [← hsz]
    exact st'
  done := by
    intro X hP hw hK hc i pins s σ H E I hf st hg
    subst hP hw hK
    obtain ⟨hd, hi⟩ := hg
    obtain ⟨f0, f1, f2, f3, f4, f5⟩ := hf it (by simp)
    obtain ⟨hs, hgd, hx, es', ep', hdt, hsz, ent⟩ := frzT2 I hd
    obtain ⟨rfl, rfl⟩ := dict_ep hod hdt
    rw [← hsz] at st
    exact PySem.wpAny_pyNext_values_end_raw (I.ok.hd hc) st ⟨o, hgd, hx, hdt⟩ (by rw [hsz]; exact hi) fun h' eb => ⟨rfl, I.turned (t' := s.toks) (fun b ob hb e => eb b ob hb e) f0 f1 f3 f4 f5⟩
  self := fun A i s Q E st h => wpAny_pyIter_valiter st h
theorem turn_itemsT {kvs : List (List Key × V)} {elts : List Expr} {kk : Nat} {tpos : Pos} (it : Addr) (hod : o.data = .dict es ep) :
    Turn P w K (.Tuple elts kk tpos) (Itit d o kvs) [it] it (fun i h => ∃ ok ov, IsItemIter h it d i kvs.length ep ok ov) where
  mem := by simp
  obj := fun i h st b hb => by
    have e : b = it := by simpa using hb
    subst e
    obtain ⟨ok, ov, e⟩ := st
    exact ⟨_, e, fun v z => nomatch z⟩
  keep := fun i h h' st k => let ⟨ok, ov, e⟩ := st; ⟨ok, ov, k it (by simp) _ e⟩
  item := by
    intro X hP hw hK hc i pins s σ H E I hf st hg
    subst hP hw hK
    obtain ⟨hd, hi⟩ := hg
    obtain ⟨hs, hgd, hx, es', ep', hdt, hsz, ent⟩ := frzT2 I hd
    obtain ⟨rfl, rfl⟩ := dict_ep hod hdt
    obtain ⟨⟨k, v⟩, hkv⟩ : ∃ p, kvs[i]? = some p := ⟨kvs[i], List.getElem?_eq_getElem hi⟩
    obtain ⟨en, q, hen, hkey, hq, rv⟩ := ent i k v hkv
    have hi' : i < es'.size := by rw [hsz]; exact hi
    have een : es'[i] = en := by rw [Array.getElem?_eq_getElem hi'] at hen; exact Option.some.inj hen
    obtain ⟨ok, ov, he⟩ := st
    rw [← hsz] at he
    have hlt : it < s.heap.objs.size := Heap.lt_size he
    refine PySem.wpAny_pyNext_items_item_raw he ⟨o, hgd, hx, hdt⟩ hi' fun h' ho hT hz hk => ?_
    refine ⟨_, rfl, wpAny_letOwnedTupleGo_items (s := { s with heap := h' }) ho fun h'' he' sb => ?_⟩
    have hT2 : h''.get? s.heap.objs.size = some { cls := .type "tuple", data := .seq #[es'[i].key, es'[i].val] } := (sb.2 _ (Nat.ne_of_gt hlt)).trans hT
    have rk : RelV (.ref q) es'[i].key := by rw [een, hkey]; exact rfl
    have new : ObjOk X.prog X.w (upd H s.heap.objs.size (.tup [.ref q, v])) h'' s.heap.objs.size (.tup [.ref q, v]) :=
      ⟨by show 2 ≤ sizeLine; rw [sizeLine_eq]; decide, [es'[i].key, es'[i].val], .cons rk (.cons (by rw [een]; exact rv) .nil), ⟨_, hT2, rfl, _, rfl⟩⟩
    have I1 : Inv X pins σ (upd H s.heap.objs.size (.tup [.ref q, v])) { s with heap := h'' } :=
      I.turnedNew (t' := s.toks) (ch := [it]) (fun b ob hb e => (sb.2 b (by simpa using hb)).trans (hk b ob (by simpa using hb) e)) hf (Nat.le_refl _) new
    refine ⟨.ref s.heap.objs.size, _, I1, rfl, ⟨_, k, v, q, hkv, hq, rfl, I.hok.fresh (Nat.le_refl _), rfl⟩, ⟨es'[i].key, es'[i].val, ?_⟩, fun b hb => ?_⟩
    · rw [← hsz]; exact he'
    · have e : b = it := by simpa using hb
      rw [e, upd_ne (Nat.ne_of_lt hlt)]
      exact (hf it (by simp)).1
  done := by
    intro X hP hw hK hc i pins s σ H E I hf st hg
    subst hP hw hK
    obtain ⟨hd, hi⟩ := hg
    obtain ⟨f0, f1, f2, f3, f4, f5⟩ := hf it (by simp)
    obtain ⟨hs, hgd, hx, es', ep', hdt, hsz, ent⟩ := frzT2 I hd
    obtain ⟨rfl, rfl⟩ := dict_ep hod hdt
    obtain ⟨ok, ov, he⟩ := st
    rw [← hsz] at he
    exact PySem.wpAny_pyNext_items_end_raw (I.ok.hd hc) he ⟨o, hgd, hx, hdt⟩ (by rw [hsz]; exact hi) fun h' eb => ⟨rfl, I.turned (t' := s.toks) (fun b ob hb e => eb b ob hb e) f0 f1 f3 f4 f5⟩
  self := fun A i s Q E st h => let ⟨_, _, e⟩ := st; PySem.W.kcp_self e h
end
def iValsT (td : TE) : TI := fun σ H R => td σ H fun x H1 => ∃ d o kvs, x = .ref d ∧ H1 d = some (.frz o (.dT kvs)) ∧ R (Itdt d o kvs) H1
def iItemsT (td : TE) : TI := fun σ H R => td σ H fun x H1 => ∃ d o kvs, x = .ref d ∧ H1 d = some (.frz o (.dT kvs)) ∧ R (Itit d o kvs) H1
section
variable {X : Cx} {tg e : Expr} {td : TE} {apos cpos : Pos}
theorem pi_valuesT (he : L2.PE X e td) (hbase : attributeBase e "values" X.env (eval e X.env) = eval e X.env := by rfl) (hline : (apos.endLine == cpos.line) = true := by rfl) : PI X tg (.Call (.Attribute e "values" apos) [] [] cpos) (iValsT td) := by
  refine ⟨fun pins s σ H R I h => ?_⟩
  refine wpAny_Call_method (T := "dict") (id := "dict.values") hbase rfl hline F.plainAttrs_dict F.slot_dict_values F.type_dict_values (thn (he.run pins s σ H _ I h) fun u s1 ⟨x, H1, I1, rx, d, o, kvs, ex, hd, q⟩ => ?_)
  subst ex
  obtain rfl : u = Value.ref d := rx
  obtain ⟨hs, hgd, hx, es, ep, hdt, hsz, ent⟩ := frzT2 I1 hd
  have raw : s1.heap.DictRaw d es ep := ⟨o, hgd, hx, hdt⟩
  refine ⟨raw.typeIs, fun a z => by cases z; exact ⟨o, hgd, hx.2.1⟩, ?_⟩
  have I2 : Inv X pins σ H1 { s1 with heap := s1.heap.push { cls := .type "dict_values", data := .fields #[.ref d] } } := I1.kept (t' := s1.toks) fun b ob q => Heap.get?_push_of_some _ q
  have fin : wpAny (model X.prog X.w) X.A (pyIter (.ref s1.heap.objs.size)) (PIE X pins σ tg R) X.xe { s1 with heap := s1.heap.push { cls := .type "dict_values", data := .fields #[.ref d] } } := by
    refine PySem.wpAny_pyIter_values_raw (d := d) ⟨_, Heap.get?_push_size _ rfl, rfl, rfl⟩ (raw.at fun _ e => Heap.get?_push_of_some _ e) (pi_one (tk := s1.toks) I2 _ (turn_valsT _ hdt) ⟨_, Heap.get?_push_size _ rfl, rfl, ?_⟩ q)
    rw [hsz] <;> rfl
  show wpAny _ _ (callWith cpos (.builtin "dict.values") [.ref d] [] []) _ X.xe s1
  exact method_meetsIn F.slot_dict_values F.entry_dict_values rfl (PySem.evalArgs_none ⟨rfl, raw.typeIs, F.args_dict_values_1 _, _, PySem.meets_dict_values_raw d hs, ⟨es, ep, raw⟩, fin⟩)
theorem pi_itemsT {elts : List Expr} {kk : Nat} {tpos : Pos} (he : L2.PE X e td) (hbase : attributeBase e "items" X.env (eval e X.env) = eval e X.env := by rfl) (hline : (apos.endLine == cpos.line) = true := by rfl) :
    PI X (.Tuple elts kk tpos) (.Call (.Attribute e "items" apos) [] [] cpos) (iItemsT td) := by
  refine ⟨fun pins s σ H R I h => ?_⟩
  refine wpAny_Call_method (T := "dict") (id := "dict.items") hbase rfl hline F.plainAttrs_dict F.slot_dict_items F.type_dict_items (thn (he.run pins s σ H _ I h) fun u s1 ⟨x, H1, I1, rx, d, o, kvs, ex, hd, q⟩ => ?_)
  subst ex
  obtain rfl : u = Value.ref d := rx
  obtain ⟨hs, hgd, hx, es, ep, hdt, hsz, ent⟩ := frzT2 I1 hd
  have raw : s1.heap.DictRaw d es ep := ⟨o, hgd, hx, hdt⟩
  refine ⟨raw.typeIs, fun a z => by cases z; exact ⟨o, hgd, hx.2.1⟩, ?_⟩
  have I2 : Inv X pins σ H1 { s1 with heap := s1.heap.push { cls := .type "dict_items", data := .fields #[.ref d] } } := I1.kept (t' := s1.toks) fun b ob q => Heap.get?_push_of_some _ q
  have fin : wpAny (model X.prog X.w) X.A (pyIter (.ref s1.heap.objs.size)) (PIE X pins σ (.Tuple elts kk tpos) R) X.xe { s1 with heap := s1.heap.push { cls := .type "dict_items", data := .fields #[.ref d] } } := by
    refine PySem.wpAny_pyIter_items_raw (d := d) ⟨_, Heap.get?_push_size _ rfl, rfl, rfl⟩ (raw.at fun _ e => Heap.get?_push_of_some _ e) (pi_one (tk := s1.toks) I2 _ (turn_itemsT _ hdt) ⟨.none, .none, ?_⟩ q)
    rw [← hsz]
    exact Heap.get?_push_size _ rfl
  show wpAny _ _ (callWith cpos (.builtin "dict.items") [.ref d] [] []) _ X.xe s1
  exact method_meetsIn F.slot_dict_items F.entry_dict_items rfl (PySem.evalArgs_none ⟨rfl, raw.typeIs, F.args_dict_items_1 _, _, PySem.meets_dict_items_raw d hs, ⟨es, ep, raw⟩, fin⟩)
end

/-! ### by values -/
def itVals (x : PV) (S : Sto) : Out ItZ := match x with
  | .nd (.dct _ _) xs => .ok ⟨xs, []⟩ S
  | _ => .bad
def itItems (x : PV) (S : Sto) : Out ItZ := match x with
  | .nd (.dct _ ks) xs => .ok ⟨(ks.zip xs).map fun p => .nd .tup [pkV p.1, p.2], []⟩ S
  | _ => .bad
def dItVals (d : DE) : DI := fun l S => (d l S).bind fun x S1 => itVals x S1
def dItItems (d : DE) : DI := fun l S => (d l S).bind fun x S1 => itItems x S1
section
variable {T : Tb} {K : PySem.W.Frag} {R1 : Pl} {F1 : Hp} {d : Addr} {od : Obj}
theorem zip_get2 {α β : Type} : ∀ {xs : List α} {ys : List β} {i : Nat} {x : α} {y : β}, (xs.zip ys)[i]? = some (x, y) → ys[i]? = some y
  | [], _, _, _, _, h => by simp at h
  | _ :: _, [], _, _, _, h => by simp at h
  | a :: xs, b :: ys, 0, x, y, h => by
    simp at h
    simp [h.2]
  | a :: xs, b :: ys, i + 1, x, y, h => by
    simp only [List.zip_cons_cons, List.getElem?_cons_succ] at h ⊢
    exact zip_get2 h
theorem get_rel {xs : List PV} {us : List V} {F : Hp} {R : Pl} {i : Nat} {u : V} (h : RelL T K R F xs us) (e : us[i]? = some u) : ∃ x, xs[i]? = some x ∧ Rel T K R F x u := by
  have hi : i < us.length := (List.getElem?_eq_some_iff.mp e).1
  have hi' : i < xs.length := by rw [← h.length]; exact hi
  obtain ⟨w, h1, h2⟩ := h.get (List.getElem?_eq_getElem hi')
  rw [e] at h1
  cases h1
  exact ⟨_, List.getElem?_eq_getElem hi', h2⟩
theorem walkz_vk {kk : List Key} {us : List V} {xs : List PV} (hl : us.length = kk.length) (hx : RelL T K R1 F1 xs us) (hF : F1 d = some (.frz od (.dK (kk.zip us)))) : WalkZ T K (Itd d od (kk.zip us)) R1 F1 ⟨xs, []⟩ where
  goes := fun i R F H S hi p e r _ => ⟨r.ex.at_ (e.at_ hF), by
    have : i < xs.length := hi
    rw [List.length_zip, hl, Nat.min_self, ← hl, hx.length]; exact this⟩
  stops := fun R F H S p e r _ => ⟨r.ex.at_ (e.at_ hF), by
    show (kk.zip us).length ≤ xs.length
    rw [List.length_zip, hl, Nat.min_self, ← hl, hx.length]; exact Nat.le_refl _⟩
  yields := fun i R F H H' S x hi p e r _ y => by
    obtain ⟨rfl, k, h1⟩ := y
    obtain ⟨v, h2, h3⟩ := get_rel hx (zip_get2 h1)
    exact ⟨F, v, Ex.refl F, r, h2, h3.mono0 p e⟩
theorem walkz_vt {kk : List (List Key)} {us : List V} {xs : List PV} (hl : us.length = kk.length) (hx : RelL T K R1 F1 xs us) (hF : F1 d = some (.frz od (.dT (kk.zip us)))) : WalkZ T K (Itdt d od (kk.zip us)) R1 F1 ⟨xs, []⟩ where
  goes := fun i R F H S hi p e r _ => ⟨r.ex.at_ (e.at_ hF), by
    have : i < xs.length := hi
    rw [List.length_zip, hl, Nat.min_self, ← hl, hx.length]; exact this⟩
  stops := fun R F H S p e r _ => ⟨r.ex.at_ (e.at_ hF), by
    show (kk.zip us).length ≤ xs.length
    rw [List.length_zip, hl, Nat.min_self, ← hl, hx.length]; exact Nat.le_refl _⟩
  yields := fun i R F H H' S x hi p e r _ y => by
    obtain ⟨rfl, k, h1⟩ := y
    obtain ⟨v, h2, h3⟩ := get_rel hx (zip_get2 h1)
    exact ⟨F, v, Ex.refl F, r, h2, h3.mono0 p e⟩
theorem zip_at {α β γ : Type} {f : α × β → γ} {xs : List α} {ys : List β} {i : Nat} {x : α} {y : β} (h1 : xs[i]? = some x) (h2 : ys[i]? = some y) : ((xs.zip ys).map f)[i]? = some (f (x, y)) := by
  have h3 : (xs.zip ys)[i]? = some (x, y) := List.getElem?_zip_eq_some.mpr ⟨h1, h2⟩
  rw [List.getElem?_map, h3]; rfl
theorem walkz_ik {kk : List Key} {us : List V} {xs : List PV} (hl : us.length = kk.length) (hx : RelL T K R1 F1 xs us) (hF : F1 d = some (.frz od (.dK (kk.zip us)))) : WalkZ T K (Iti d od (kk.zip us)) R1 F1 ⟨((kk.map PK.k).zip xs).map fun p => .nd .tup [pkV p.1, p.2], []⟩ where
  goes := fun i R F H S hi p e r _ => ⟨r.ex.at_ (e.at_ hF), by
    have : i < kk.length := by
      have h := hi
      simp only [List.length_map, List.length_zip] at h
      omega
    rw [List.length_zip, hl, Nat.min_self]; exact this⟩
  stops := fun R F H S p e r _ => ⟨r.ex.at_ (e.at_ hF), by
    show (kk.zip us).length ≤ (((kk.map PK.k).zip xs).map _).length
    simp only [List.length_map, List.length_zip]
    rw [hx.length.symm, hl]; exact Nat.le_refl _⟩
  yields := fun i R F H H' S x hi p e r _ y => by
    obtain ⟨T', k, v, h1, rfl, hn, rfl⟩ := y
    obtain ⟨w, h2, h3⟩ := get_rel hx (zip_get2 h1)
    have hk := zip_get h1
    obtain ⟨F', e', r', rv⟩ := pair_yield (x := keyP k) (y := w) r rfl hn rfl (keyP_rel k) (h3.mono0 p e)
    exact ⟨F', _, e', r', zip_at (f := fun p : PK × PV => PV.nd .tup [pkV p.1, p.2]) (x := PK.k k) (by rw [List.getElem?_map, hk]; rfl) h2, rv⟩
theorem walkz_it {kk : List (List Key)} {us : List V} {xs : List PV} (hl : us.length = kk.length) (hx : RelL T K R1 F1 xs us) (hF : F1 d = some (.frz od (.dT (kk.zip us)))) : WalkZ T K (Itit d od (kk.zip us)) R1 F1 ⟨((kk.map PK.t).zip xs).map fun p => .nd .tup [pkV p.1, p.2], []⟩ where
  goes := fun i R F H S hi p e r _ => ⟨r.ex.at_ (e.at_ hF), by
    have : i < kk.length := by
      have h := hi
      simp only [List.length_map, List.length_zip] at h
      omega
    rw [List.length_zip, hl, Nat.min_self]; exact this⟩
  stops := fun R F H S p e r _ => ⟨r.ex.at_ (e.at_ hF), by
    show (kk.zip us).length ≤ (((kk.map PK.t).zip xs).map _).length
    simp only [List.length_map, List.length_zip]
    rw [hx.length.symm, hl]; exact Nat.le_refl _⟩
  yields := fun i R F H H' S x hi p e r _ y => by
    obtain ⟨T', k, v, q, h1, hq, rfl, hn, rfl⟩ := y
    obtain ⟨w, h2, h3⟩ := get_rel hx (zip_get2 h1)
    have hk := zip_get h1
    obtain ⟨F2, ex2, hF2, r2⟩ := r.tup r.hidt hq
    have rk : Rel T K R F2 (.nd .tup (k.map keyP)) (.ref q) := by rw [Rel]; exact ⟨q, _, rfl, hF2, keyPs_rel k⟩
    obtain ⟨F', e', r', rv⟩ := pair_yield (x := .nd .tup (k.map keyP)) (y := w) r2 rfl hn rfl rk (h3.mono0 p (e.trans ex2))
    exact ⟨F', _, ex2.trans e', r', zip_at (f := fun p : PK × PV => PV.nd .tup [pkV p.1, p.2]) (x := PK.t k) (by rw [List.getElem?_map, hk]; rfl) h2, rv⟩
/-- a dict that stays, locked as it comes -/
theorem lock_any {S1 : Sto} {H1 : Hp} (r1 : Rep T K R1 F1 S1 H1) {a : Addr} {u : HO} (hu : isD u = true) (hk : Rd F1 a u) {Q : V → Hp → Prop} {C : Prop}
    (h1 : ∀ od F2 H2, Ex F1 F2 → Rep T K R1 F2 S1 H2 → F2 a = some (.frz od u) → Q (.ref a) H2) (mu : Mut (some u)) : (∃ d v, V.ref a = .ref d ∧ H1 d = some v ∧ Mut (some v) ∧ ∀ od, Q (.ref a) (upd H1 d (.frz od v))) ∨ Q (.ref a) H1 := by
  rcases hk with hk | ⟨od, hk⟩
  · rcases r1.ex a _ hk with hH | ⟨_, od, hH⟩
    · refine .inl ⟨a, _, rfl, hH, mu, fun od => ?_⟩
      obtain ⟨ex2, r2⟩ := r1.lock (od := od) hu hk hH
      exact h1 od _ _ ex2 r2 upd_same
    · obtain ⟨ex2, r2⟩ := r1.more (fun _ z => by cases z) hH (.inr ⟨_, hk, .inr ⟨hu, od, rfl⟩⟩) (.inl (by rw [hk]; exact fun z => nomatch z)) (fun p hp z => by
        have := (r1.hid p hp).2.2
        rw [z, hk] at this; cases this)
      exact .inr (h1 od _ _ ex2 r2 upd_same)
  · exact .inr (h1 od F1 H1 (Ex.refl F1) r1 hk)
end
section
variable {T : Tb} {X : Cx} {E : XS} {tg e : Expr} {de : DE} {apos cpos : Pos}
theorem ji_vals (he : JE T X E e de) (hbase : attributeBase e "values" X.env (eval e X.env) = eval e X.env := by rfl) (hline : (apos.endLine == cpos.line) = true := by rfl) : JI T X E tg (.Call (.Attribute e "values" apos) [] [] cpos) (dItVals de) := by
  refine pi_imp (pi_or (pi_values (pe_lk he) hbase hline) (pi_valuesT (pe_lk he) hbase hline)) fun σ H Q ⟨R, F, l, S, r, re, h⟩ => ?_
  have h : OkI T X.K R F ((de l S).bind fun x S1 => itVals x S1) Q (E σ) := h
  cases hd : de l S with
  | bad => rw [hd] at h; exact h.elim
  | err z S1 =>
    rw [hd] at h
    exact .inl ⟨R, F, l, S, r, re, by rw [hd]; exact h⟩
  | ok x S1 =>
    rw [hd] at h
    have h : OkI T X.K R F (itVals x S1) Q (E σ) := h
    cases x with
    | nd k xs =>
      cases k with
      | dct t ks =>
        have h : OkI T X.K R F (.ok ⟨xs, []⟩ S1) Q (E σ) := h
        cases t with
        | false =>
          refine .inl ⟨R, F, l, S, r, re, ?_⟩
          rw [hd]
          intro R1 F1 H1 u p ex r1 rx
          rw [Rel] at rx
          obtain ⟨a, us, rfl, ⟨h0, kk, rfl, hk⟩, hl⟩ := rx
          have h0' : us.length = kk.length := by rw [h0, List.length_map]
          exact lock_any (C := False) (Q := fun x H2 => ∃ d o kvs, x = V.ref d ∧ H2 d = some (.frz o (.dK kvs)) ∧ Q (Itd d o kvs) H2) r1 rfl hk (fun od F2 H2 ex2 r2 hF => ⟨a, od, _, rfl, r2.ex.at_ hF, h R1 F2 H2 _ p (ex.trans ex2) r2 (walkz_vk h0' (hl.mono0 (List.prefix_refl _) ex2) hF)⟩) True.intro
        | true =>
          refine .inr ⟨R, F, l, S, r, re, ?_⟩
          rw [hd]
          intro R1 F1 H1 u p ex r1 rx
          rw [Rel] at rx
          obtain ⟨a, us, rfl, ⟨h0, kk, rfl, hk⟩, hl⟩ := rx
          have h0' : us.length = kk.length := by rw [h0, List.length_map]
          exact lock_any (C := False) (Q := fun x H2 => ∃ d o kvs, x = V.ref d ∧ H2 d = some (.frz o (.dT kvs)) ∧ Q (Itdt d o kvs) H2) r1 rfl hk (fun od F2 H2 ex2 r2 hF => ⟨a, od, _, rfl, r2.ex.at_ hF, h R1 F2 H2 _ p (ex.trans ex2) r2 (walkz_vt h0' (hl.mono0 (List.prefix_refl _) ex2) hF)⟩) True.intro
      | _ => exact h.elim
    | _ => exact h.elim
theorem ji_items {elts : List Expr} {kk : Nat} {tpos : Pos} (he : JE T X E e de) (hbase : attributeBase e "items" X.env (eval e X.env) = eval e X.env := by rfl) (hline : (apos.endLine == cpos.line) = true := by rfl) : JI T X E (.Tuple elts kk tpos) (.Call (.Attribute e "items" apos) [] [] cpos) (dItItems de) := by
  refine pi_imp (pi_or (pi_items (pe_lk he) hbase hline) (pi_itemsT (pe_lk he) hbase hline)) fun σ H Q ⟨R, F, l, S, r, re, h⟩ => ?_
  have h : OkI T X.K R F ((de l S).bind fun x S1 => itItems x S1) Q (E σ) := h
  cases hd : de l S with
  | bad => rw [hd] at h; exact h.elim
  | err z S1 =>
    rw [hd] at h
    exact .inl ⟨R, F, l, S, r, re, by rw [hd]; exact h⟩
  | ok x S1 =>
    rw [hd] at h
    have h : OkI T X.K R F (itItems x S1) Q (E σ) := h
    cases x with
    | nd k xs =>
      cases k with
      | dct t ks =>
        have h : OkI T X.K R F (.ok ⟨(ks.zip xs).map fun p => .nd .tup [pkV p.1, p.2], []⟩ S1) Q (E σ) := h
        cases t with
        | false =>
          refine .inl ⟨R, F, l, S, r, re, ?_⟩
          rw [hd]
          intro R1 F1 H1 u p ex r1 rx
          rw [Rel] at rx
          obtain ⟨a, us, rfl, ⟨h0, kk, rfl, hk⟩, hl⟩ := rx
          have h0' : us.length = kk.length := by rw [h0, List.length_map]
          exact lock_any (C := False) (Q := fun x H2 => ∃ d o kvs, x = V.ref d ∧ H2 d = some (.frz o (.dK kvs)) ∧ Q (Iti d o kvs) H2) r1 rfl hk (fun od F2 H2 ex2 r2 hF => ⟨a, od, _, rfl, r2.ex.at_ hF, h R1 F2 H2 _ p (ex.trans ex2) r2 (walkz_ik h0' (hl.mono0 (List.prefix_refl _) ex2) hF)⟩) True.intro
        | true =>
          refine .inr ⟨R, F, l, S, r, re, ?_⟩
          rw [hd]
          intro R1 F1 H1 u p ex r1 rx
          rw [Rel] at rx
          obtain ⟨a, us, rfl, ⟨h0, kk, rfl, hk⟩, hl⟩ := rx
          have h0' : us.length = kk.length := by rw [h0, List.length_map]
          exact lock_any (C := False) (Q := fun x H2 => ∃ d o kvs, x = V.ref d ∧ H2 d = some (.frz o (.dT kvs)) ∧ Q (Itit d o kvs) H2) r1 rfl hk (fun od F2 H2 ex2 r2 hF => ⟨a, od, _, rfl, r2.ex.at_ hF, h R1 F2 H2 _ p (ex.trans ex2) r2 (walkz_it h0' (hl.mono0 (List.prefix_refl _) ex2) hF)⟩) True.intro
      | _ => exact h.elim
    | _ => exact h.elim
end
end Z
end
end
section
set_option Elab.async false
set_option linter.all false
set_option maxRecDepth 100000
set_option maxHeartbeats 1000000
/-! YH: *d.values() among arguments. -/
noncomputable section
namespace Z
open PySem PySem.Spec PyProof.Rows L2

section
variable {X : Cx} {pins : List (Addr × Obj)} {σ : L2.St} {H : Hp} {s : Shared} {a : Addr}
/-- a dict's values, as they stand -/
theorem vals_raw {u : HO} (hu : (∃ kvs : List (Key × V), u = .dK kvs) ∨ ∃ kvs : List (List Key × V), u = .dT kvs) (I : Inv X pins σ H s) (h : Rd H a u) : (a == sysModules) = false ∧ ∃ (es : Array DictEntry) (ep : Nat) (zs : List V), s.heap.DictRaw a es ep ∧ es.size = zs.length ∧ zs.length ≤ sizeLine ∧
    ((∃ kvs : List (Key × V), u = .dK kvs ∧ zs = kvs.map (·.2)) ∨ ∃ kvs : List (List Key × V), u = .dT kvs ∧ zs = kvs.map (·.2)) ∧ ∀ (i : Nat) (v : V), zs[i]? = some v → ∃ en : DictEntry, es[i]? = some en ∧ RelV v en.val := by
  rcases hu with ⟨kvs, rfl⟩ | ⟨kvs, rfl⟩
  · obtain ⟨z, lo, vs, rk, hd⟩ := dk_rd I.hok h
    obtain ⟨es, ep, raw, hz, he⟩ := hd.raw
    have hl : kvs.length = vs.length := Paired.length rk
    refine ⟨lo, es, ep, kvs.map (·.2), raw, by rw [List.length_map, hz, hl], by rw [List.length_map]; exact z, .inl ⟨_, rfl, rfl⟩, fun i v hv => ?_⟩
    rw [List.getElem?_map, Option.map_eq_some_iff] at hv
    obtain ⟨⟨k, v'⟩, hkv, rfl⟩ := hv
    obtain ⟨w, hw, rw_⟩ := kv_get rk hkv
    have hi : i < es.size := by rw [hz]; exact (List.getElem?_eq_some_iff.mp hw).1
    refine ⟨es[i], Array.getElem?_eq_getElem hi, ?_⟩
    rw [(he i hi k w hw).2]; exact rw_
  · obtain ⟨z, lo, vs, rk, hd⟩ := dt_rd I.hok h
    obtain ⟨es, ep, raw, hz, he⟩ := hd.raw
    have hl : kvs.length = vs.length := Paired.length rk
    refine ⟨lo, es, ep, kvs.map (·.2), raw, by rw [List.length_map, hz, hl], by rw [List.length_map]; exact z, .inr ⟨_, rfl, rfl⟩, fun i v hv => ?_⟩
    rw [List.getElem?_map, Option.map_eq_some_iff] at hv
    obtain ⟨⟨k, v'⟩, hkv, rfl⟩ := hv
    obtain ⟨b, hb, e1, e2, e3⟩ := L2.paired_get rk hkv
    have hi : i < es.size := by rw [hz]; exact (List.getElem?_eq_some_iff.mp hb).1
    refine ⟨es[i], Array.getElem?_eq_getElem hi, ?_⟩
    obtain ⟨y, hy, _, hv2, _⟩ := he i hi
    rw [hb] at hy
    cases hy
    rw [hv2]; exact e3
end
section
variable {X : Cx} {e : Expr} {es : List Expr} {apos cpos p : Pos}
theorem pa_starV {te : TE} {t : TA} (hc : X.calm = true) (he : L2.PE X e te) (hr : PA X es t) (hbase : attributeBase e "values" X.env (eval e X.env) = eval e X.env := by rfl) (hline : (apos.endLine == cpos.line) = true := by rfl)
    (hs : starEach (.Starred (.Call (.Attribute e "values" apos) [] [] cpos) p :: es) X.env = (true, eval (.Call (.Attribute e "values" apos) [] [] cpos) X.env) :: starEach es X.env := by rfl) :
    PA X (.Starred (.Call (.Attribute e "values" apos) [] [] cpos) p :: es) (fun σ H Q => te σ H fun x H1 => ∃ a, x = V.ref a ∧ ((∃ kvs : List (Key × V), Rd H1 a (.dK kvs) ∧ t σ H1 fun ys H2 => Q (kvs.map (·.2) ++ ys) H2) ∨ ∃ kvs : List (List Key × V), Rd H1 a (.dT kvs) ∧ t σ H1 fun ys H2 => Q (kvs.map (·.2) ++ ys) H2)) := by
  refine ⟨fun pos pins s σ H Q I h => ?_⟩
  refine PySem.W.items_star (wpAny_Call_method (T := "dict") (id := "dict.values") hbase rfl hline F.plainAttrs_dict F.slot_dict_values F.type_dict_values (thn (he.run pins s σ H _ I h) fun v s1 ⟨y, H1, I1, ry, a, ey, hx⟩ => ?_)) hs
  subst ey
  cases ry
  have key : ∃ zs : List V, (∃ u, ((∃ kvs : List (Key × V), u = HO.dK kvs ∧ zs = kvs.map (·.2)) ∨ ∃ kvs : List (List Key × V), u = HO.dT kvs ∧ zs = kvs.map (·.2)) ∧ Rd H1 a u) ∧ t σ H1 fun ys H2 => Q (zs ++ ys) H2 := by
    rcases hx with ⟨kvs, hd, q⟩ | ⟨kvs, hd, q⟩
    · exact ⟨_, ⟨_, .inl ⟨kvs, rfl, rfl⟩, hd⟩, q⟩
    · exact ⟨_, ⟨_, .inr ⟨kvs, rfl, rfl⟩, hd⟩, q⟩
  obtain ⟨zs, ⟨u, hu, hrd⟩, q⟩ := key
  obtain ⟨lo, es', ep, zs', raw, hz, hsz, hu2, hv⟩ := vals_raw (by rcases hu with ⟨kvs, e, _⟩ | ⟨kvs, e, _⟩; exact .inl ⟨_, e⟩; exact .inr ⟨_, e⟩) I1 hrd
  have ezs : zs' = zs := by
    rcases hu with ⟨kvs, e, e2⟩ | ⟨kvs, e, e2⟩ <;> rcases hu2 with ⟨kvs', e', e2'⟩ | ⟨kvs', e', e2'⟩
    · rw [e] at e'; cases e'; rw [e2, e2']
    · rw [e] at e'; cases e'
    · rw [e] at e'; cases e'
    · rw [e] at e'; cases e'; rw [e2, e2']
  subst ezs
  refine ⟨raw.typeIs, fun b z => by cases z; obtain ⟨o, ho, hx, _⟩ := raw; exact ⟨o, ho, hx.2.1⟩, ?_⟩
  have I2 : Inv X pins σ H1 { s1 with heap := s1.heap.push { cls := .type "dict_values", data := .fields #[.ref a] } } := I1.kept (t' := s1.toks) fun b ob q => Heap.get?_push_of_some _ q
  have view : (s1.heap.push { cls := .type "dict_values", data := .fields #[.ref a] }).IsValuesView s1.heap.objs.size a := ⟨_, Heap.get?_push_size _ rfl, rfl, rfl⟩
  have raw2 : (s1.heap.push { cls := .type "dict_values", data := .fields #[.ref a] }).DictRaw a es' ep := raw.at fun _ e => Heap.get?_push_of_some _ e
  show wpAny _ _ (callWith cpos (.builtin "dict.values") [.ref a] [] []) _ X.xe s1
  refine method_meetsIn F.slot_dict_values F.entry_dict_values rfl (PySem.evalArgs_none ⟨rfl, raw.typeIs, F.args_dict_values_1 _, _, PySem.meets_dict_values_raw a lo, ⟨es', ep, raw⟩, ?_⟩)
  have cl : wpAny (model X.prog X.w) X.A (collect (.ref s1.heap.objs.size)) (fun here s₂ => wpAny (model X.prog X.w) X.A (spliced (backTo pos (starEach es X.env))) (fun vs s₃ => AP X pins σ Q (here ++ vs) s₃) X.xe s₂) X.xe { s1 with heap := s1.heap.push { cls := .type "dict_values", data := .fields #[.ref a] } } := by
    refine PySem.W.kdu_collect (PySem.KdlSrc.rawValues (es := es') (ep := ep) (d := a)) (I2.ok.hd hc) ⟨view, raw2⟩ (by rw [hz]; exact hsz) fun h' tk acc kp it => ?_
    have I3 : Inv X pins σ H1 { s1 with heap := h', toks := tk } := I2.kept (t' := tk) kp
    have rv : Vals zs' acc.toList := by
      have el : acc.toList.length = acc.size := Array.length_toList
      refine vals_of_at (by rw [el, it.1, hz]) fun j x w h1 h2 => ?_
      obtain ⟨hj, e1⟩ := it.2 j w (by rw [← Array.getElem?_toList]; exact h2)
      obtain ⟨en, h3, h4⟩ := hv j x h1
      rw [Array.getElem?_eq_getElem hj] at h3
      cases h3
      rw [e1]; exact h4
    exact thn (hr.run pos pins _ σ H1 _ I3 q) fun ws s3 ⟨vs, H3, I4, r3, q3⟩ => ⟨_, H3, I4, rv.append r3, q3⟩
  unfold PySem.W.StarOf notIterableAtAll
  exact wpAny_bind (wpAny_specialOf view.typeIs PySem.F.slot_dict_values_iter.lookup (wpAny_pure ⟨rfl, cl⟩))
def valsOf (x : PV) (S : Sto) : Option (List PV) := match view x S with
  | some (.dct _ _, xs) => some xs
  | _ => none
def dStarV (a : DE) (r : DA) : DA := fun l S => (a l S).bind fun x S1 => match valsOf x S1 with
  | some xs => (r l S1).bind fun ys S2 => .ok (xs ++ ys) S2
  | none => .bad
theorem zip_vals {κ : Type} : ∀ {kk : List κ} {us : List V}, us.length = kk.length → (kk.zip us).map (·.2) = us
  | [], us, h => by cases us; rfl; cases h
  | k :: kk, [], h => by cases h
  | k :: kk, u :: us, h => by rw [List.zip_cons_cons, List.map_cons, zip_vals (by simpa using h)]
theorem ja_starV {T : Tb} {E : XS} {de : DE} {ar : DA} (hc : X.calm = true) (ha : JE T X E e de) (hr : JA T X E es ar) (hbase : attributeBase e "values" X.env (eval e X.env) = eval e X.env := by rfl) (hline : (apos.endLine == cpos.line) = true := by rfl)
    (hs : starEach (.Starred (.Call (.Attribute e "values" apos) [] [] cpos) p :: es) X.env = (true, eval (.Call (.Attribute e "values" apos) [] [] cpos) X.env) :: starEach es X.env := by rfl) :
    JA T X E (.Starred (.Call (.Attribute e "values" apos) [] [] cpos) p :: es) (dStarV de ar) := by
  refine pa_imp (pa_starV hc ha hr hbase hline hs) fun σ H Q ⟨R, F, l, S, r, e', h⟩ => ?_
  refine seqV (goL T X.K (E σ) Q) r e' h fun x S1 R1 F1 H1 u p ex r1 rx e1 h1 => ?_
  have h1 : OkL T X.K R1 F1 (match valsOf x S1 with
    | some xs => (ar l S1).bind fun ys S2 => .ok (xs ++ ys) S2
    | none => .bad) Q (E σ) := h1
  unfold valsOf at h1
  split at h1
  · rename_i xs hx
    split at hx
    · rename_i t ks ys hv
      cases hx
      obtain ⟨a, us, rfl, hs', hl⟩ := view_rel r1 rx hv
      refine ⟨a, rfl, ?_⟩
      have fin : tL T X.K E ar σ H1 fun zs H2 => Q (us ++ zs) H2 := seqL (goL T X.K (E σ) Q) r1 e1 h1 fun zs S2 R3 F3 H2 ws p3 ex3 r3 rys e3 h3 => PostL.here r3 ((hl.mono p3 ex3).append rys) h3
      cases t with
      | false =>
        obtain ⟨h0, kk, rfl, hk⟩ := hs'
        have h0' : us.length = kk.length := by rw [h0, List.length_map]
        exact .inl ⟨_, hk, by rw [zip_vals h0']; exact fin⟩
      | true =>
        obtain ⟨h0, kk, rfl, hk⟩ := hs'
        have h0' : us.length = kk.length := by rw [h0, List.length_map]
        exact .inr ⟨_, hk, by rw [zip_vals h0']; exact fin⟩
    · cases hx
  · exact h1.elim
end
end Z
end
end
section
set_option Elab.async false
set_option linter.all false
set_option maxRecDepth 100000
set_option maxHeartbeats 2000000
/-! YI: C(), C(k = v, ..) in any order, C() without an own __init__. -/
noncomputable section
namespace Z
open PySem PySem.Spec PyProof.Rows L2

/-! ### C(k = v, ..), the keywords in any order -/
structure NewCP (T : Tb) (P : Program) (w : World) (K : PySem.W.Frag) (mg : Str → Option Value) (base : Heap) (k : Nat) (x : Str) (c : Nat) (ps nms : List Str) (π : List Nat) (d : DF) : Prop where
  ex : ∃ (f : Addr) (fd : FuncData), mg x = some (.ref (T.ca K c)) ∧ Mk K (T.ca K c) f ∧ FnG T P w K mg base k f fd ps d ∧ ∀ (s : Shared) (v : Value) (ws : List Value), ws.length = nms.length → BindsTo s fd ⟨[v], nms.zip ws⟩ (ps.zip (v :: permL π ws))
  ar : ∀ (xs : List PV) (S : Sto), xs.length ≠ ps.length → d xs S = .bad
theorem kwmP_of {K : PySem.W.Frag} {x qual : Str} {params : Arguments} {body : List Stmt} {scope : Scope} {kws : List (Str × V)} {f : Addr} {fd : FuncData} {ps nms : List Str} {π : List Nat} (F : FunD K x qual params body scope [] kws f fd)
    (h : ∀ (kV doc pm : Value) (an : Option Addr) (cdv ct : Value) (v : Value) (ws : List Value), ws.length = nms.length → bindArgs (PySem.W.fnOf x qual params body scope .none kV doc pm an cdv ct) ⟨[v], nms.zip ws⟩ = pure (ps.zip (v :: permL π ws))) (s : Shared) (v : Value) (ws : List Value) (hl : ws.length = nms.length) : BindsTo s fd ⟨[v], nms.zip ws⟩ (ps.zip (v :: permL π ws)) := by
  obtain ⟨oc, od, dV, kV, doc, pm, an, cdv, ct, osl, rfl, lk, hcd, hD, hK⟩ := F.ex
  rcases hD with ⟨_, z⟩ | ⟨z, _⟩
  · subst z
    exact .of_eq (h kV doc pm an cdv ct v ws hl)
  · exact absurd rfl z
/-- the arguments in another order -/
def permD (π : List Nat) (f : List PV → Sto → Out PV) (xs : List PV) (S : Sto) : Out PV := if xs.length = π.length then f (permL π xs) S else .bad
section
variable {T : Tb} {X : Cx} {E : XS} {x : Str} {e : Expr} {es : List Expr} {ar : DA} {d : DF} {p pos kpos : Pos} {c : Nat} {ps nms : List Str} {π : List Nat} {j k : Nat} {kws : List Keyword}
theorem new_tP {Q : VK} {σ : L2.St} {H : Hp} {kk : List PV → Sto → Out PV} (hk : ∀ {Q : VK} {E : XK} {K : PySem.W.Frag} {R : Pl} {Fz H : Hp} {S : Sto} {xs : List PV} {us : List V}, Rep T K R Fz S H → RelL T K R Fz xs us → OkV T K R Fz (kk xs S) Q E → ∃ R' S', Rep T K R' Fz S' H ∧ RelL T K R' Fz xs us ∧ OkV T K R' Fz (newP c d xs S') Q E) (har : ∀ (xs : List PV) (S : Sto), xs.length ≠ ps.length → d xs S = .bad) (h : tV T X.K E (dApp (permD π kk) ar) σ H Q) :
    tL T X.K E ar σ H fun vs H1 => vs.length = π.length ∧ ∀ a dx, H1 a = none → H1 dx = none → dx ≠ a → spOf T X.K ps.length d (.ref a :: permL π vs) (upd (upd H1 dx (.own a)) a (.ins (T.ca X.K c) dx [])) (fun v H2 => v = .non ∧ Q (.ref a) H2) (E σ) := by
  obtain ⟨R, Fz, l, S, r, e, h⟩ := h
  refine seqL (goV T X.K (E σ) Q) r e h fun xs S1 R1 F1 H1 us p ex r1 rxs e1 h1 => ?_
  have h1 : OkV T X.K R1 F1 (if xs.length = π.length then kk (permL π xs) S1 else .bad) Q (E σ) := h1
  split at h1
  · rename_i hx
    refine ⟨by rw [rxs.length, hx], fun a dx ha hd hne => ?_⟩
    obtain ⟨_, _, r', rx', h'⟩ := hk r1 (permL_rel rxs π) h1
    exact new_sp har r' rx' h' a dx ha hd hne
  · exact h1.elim
theorem je_newGP {kw : Keyword} {kk : List PV → Sto → Out PV} (cg : Cg X E k) (F : NewCP T X.prog X.w X.K X.mg X.base j x c ps nms π d) (hk : ∀ {Q : VK} {E : XK} {K : PySem.W.Frag} {R : Pl} {Fz H : Hp} {S : Sto} {xs : List PV} {us : List V}, Rep T K R Fz S H → RelL T K R Fz xs us → OkV T K R Fz (kk xs S) Q E → ∃ R' S', Rep T K R' Fz S' H ∧ RelL T K R' Fz xs us ∧ OkV T K R' Fz (newP c d xs S') Q E)
    (ha : JK T X E (kw :: kws) ar) (hj : j + 1 ≤ k := by decide) (hg : Gl X x := by rfl) (hdb : (x == ("__debug__" : Str)) = false := by decide)
    (hall : (backToKw pos (keywordEach (kw :: kws) X.env)).all (·.1.isSome) = true := by rfl) (hks : (backToKw pos (keywordEach (kw :: kws) X.env)).filterMap (·.1) = nms := by rfl) (hn : π.length = nms.length := by rfl)
    (hpl : ((backTo pos (starEach [] X.env)).any (·.1) || (backToKw pos (keywordEach (kw :: kws) X.env)).any (·.1.isNone)) = false := by rfl) : JE T X E (.Call (.Name x p) [] (kw :: kws) pos) (dApp (permD π kk) ar) := by
  obtain ⟨f, fd, hm, M, G, hb⟩ := F.ex
  refine ⟨fun pins s σ H Q I h => ?_⟩
  refine wpAny_Call_Name_kw (ld_glob I hg hm ?_ hdb)
  refine PySem.W.callWith_KW0 (h₀ := X.base) I.ok.mod.kin M.kp hall (thn (ha.run pos pins s σ H _ I (new_tP hk F.ar h)) fun us s1 ⟨vs, H1, I1, r1, hv, q1⟩ => ⟨I1.kIn, ?_⟩) hpl
  rw [hks]
  have hl : us.length = nms.length := by rw [← r1.length, hv]; exact hn
  exact run_new (ws := permL π us) cg hj M G (fun s v _ => hb s v us hl) I1 (permL_vals r1 π) q1
theorem je_newP {kw : Keyword} (cg : Cg X E k) (F : NewCP T X.prog X.w X.K X.mg X.base j x c ps nms π d) (ha : JK T X E (kw :: kws) ar) (hj : j + 1 ≤ k := by decide) (hg : Gl X x := by rfl) (hdb : (x == ("__debug__" : Str)) = false := by decide)
    (hall : (backToKw pos (keywordEach (kw :: kws) X.env)).all (·.1.isSome) = true := by rfl) (hks : (backToKw pos (keywordEach (kw :: kws) X.env)).filterMap (·.1) = nms := by rfl) (hn : π.length = nms.length := by rfl)
    (hpl : ((backTo pos (starEach [] X.env)).any (·.1) || (backToKw pos (keywordEach (kw :: kws) X.env)).any (·.1.isNone)) = false := by rfl) : JE T X E (.Call (.Name x p) [] (kw :: kws) pos) (dApp (permD π (clo (newF c d))) ar) :=
  je_newGP cg F (fun r rx h => newF_hk r rx h) ha hj hg hdb hall hks hn hpl

/-! ### C() -/
theorem je_new0G {kk : List PV → Sto → Out PV} (cg : Cg X E k) (F : NewC T X.prog X.w X.K X.mg X.base j x c ps d) (hk : ∀ {Q : VK} {E : XK} {K : PySem.W.Frag} {R : Pl} {Fz H : Hp} {S : Sto} {xs : List PV} {us : List V}, Rep T K R Fz S H → RelL T K R Fz xs us → OkV T K R Fz (kk xs S) Q E → ∃ R' S', Rep T K R' Fz S' H ∧ RelL T K R' Fz xs us ∧ OkV T K R' Fz (newP c d xs S') Q E)
    (hj : j + 1 ≤ k := by decide) (hg : Gl X x := by rfl) (hdb : (x == ("__debug__" : Str)) = false := by decide) : JE T X E (.Call (.Name x p) [] [] pos) (dApp kk dNil) := by
  obtain ⟨f, fd, hm, M, G, hb, _⟩ := F.ex
  refine ⟨fun pins s σ H Q I h => ?_⟩
  have q := new_t hk F.ar h
  obtain ⟨R1, F1, l1, S1, r1, e1, q⟩ := q
  have q1 := PostL.here r1 .nil q
  refine wpAny_Call_Name_kw (ld_glob I hg hm ?_ hdb)
  refine PySem.W.callWith_K0 (first := []) I.kIn M.kp ?_
  have hl : 1 = ps.length := by
    have := q1 _ _ (I.hok.fresh (Nat.le_succ _)) (I.hok.fresh (Nat.le_refl _)) (Nat.ne_of_lt (Nat.lt_succ_self _))
    simpa using this.1
  refine run_new (us := []) (ws := []) cg hj M G (fun s v hin => ?_) I .nil q1
  have hb' := hb s [v] hin (by rw [List.append_nil]; exact hl)
  rw [List.append_nil] at hb'
  exact hb'
theorem je_new0 (cg : Cg X E k) (F : NewC T X.prog X.w X.K X.mg X.base j x c ps d) (hj : j + 1 ≤ k := by decide) (hg : Gl X x := by rfl) (hdb : (x == ("__debug__" : Str)) = false := by decide) : JE T X E (.Call (.Name x p) [] [] pos) (dApp (clo (newF c d)) dNil) :=
  je_new0G cg F (fun r rx h => newF_hk r rx h) hj hg hdb
theorem je_new0M (cg : Cg X E k) (F : NewC T X.prog X.w X.K X.mg X.base j x c ps d) (hj : j + 1 ≤ k := by decide) (hg : Gl X x := by rfl) (hdb : (x == ("__debug__" : Str)) = false := by decide) : JE T X E (.Call (.Name x p) [] [] pos) (dApp (newP c d) dNil) :=
  je_new0G cg F (fun r rx h => ⟨_, _, r, rx, h⟩) hj hg hdb

/-! ### C(), object's own __init__ -/
def mk0B (x : Str) (K : PySem.W.Frag) : Bool := PySem.W.makesIn K (He.ga K x) && (decide (PySem.W.findIn K (.ref (He.ga K x)) "__init__" = some (some (.builtin "object.__init__"))) && (PySem.W.keepIn K (.ref (He.ga K x)) && decide (PySem.W.mroIn K (He.ga K x) (.type "object") = some true)))
structure New0 (T : Tb) (K : PySem.W.Frag) (mg : Str → Option Value) (x : Str) (c : Nat) : Prop where
  at_ : mg x = some (.ref (T.ca K c))
  makes : PySem.W.makesIn K (T.ca K c) = true
  init : PySem.W.findIn K (.ref (T.ca K c)) "__init__" = some (some (.builtin "object.__init__"))
  kp : PySem.W.keepIn K (.ref (T.ca K c)) = true
  top : PySem.W.mroIn K (T.ca K c) (.type "object") = some true
theorem new0_of {T : Tb} {K : PySem.W.Frag} {mg : Str → Option Value} {x : Str} {c : Nat} (hx : T.cn c = x) (hm : mg x = some (.ref (He.ga K x))) (h : mk0B x K = true) : New0 T K mg x c := by
  subst hx
  obtain ⟨h1, h⟩ := Bool.and_eq_true_iff.mp h
  obtain ⟨h2, h⟩ := Bool.and_eq_true_iff.mp h
  obtain ⟨h3, h4⟩ := Bool.and_eq_true_iff.mp h
  exact ⟨hm, h1, of_decide_eq_true h2, h3, of_decide_eq_true h4⟩
theorem oi_init {prog : Program} {w : World} {K : PySem.W.Frag} {C y : Addr} {o : Obj} {A : Around} {R : Result → Shared → Prop} {s : Shared} (X : K.In s.heap) (ho : s.heap.get? y = some o) (hc : o.cls = .ref C) (top : PySem.W.mroIn K C (.type "object") = some true) (q : R (.ok (.ret .none)) s) :
    codeAny (model prog w) A (.call (.builtin "object.__init__") ⟨[.ref y], []⟩) R s := by
  have t1 : PySem.W.Looks (model prog w) s.heap (typeOf (.ref y)) (.ref C) := NwA.type_at ho hc
  have t2 : PySem.W.Looks (model prog w) s.heap (isInstance (.ref y) (.type "object")) true := t1.andThen (PySem.W.looks_mroIn X top)
  refine codeAny_call_builtin PySem.W.oi_plain PySem.W.entry_oi (@PySem.W.check_slot (model prog w) _ _ _ "object.__init__" "object" "__init__" (.ref y) [] [] _ PySem.W.oi_kind PySem.W.oi_split t2 (NwA.oi_args_any (.ref y) [] []) ?_)
  obtain ⟨hh, g, d, t, os⟩ := s
  rw [PySem.W.oi_run]
  exact wpAny_pure q
def dO0 (c : Nat) : DE := fun _ S => .ok (.nd (.ins c []) []) S
theorem je_newO (cg : Cg X E k) (F : New0 T X.K X.mg x c) (hg : Gl X x := by rfl) (hdb : (x == ("__debug__" : Str)) = false := by decide) : JE T X E (.Call (.Name x p) [] [] pos) (dO0 c) := by
  refine ⟨fun pins s σ H Q I h => ?_⟩
  obtain ⟨R, Fz, l, S, r, e1, h⟩ := h
  refine wpAny_Call_Name_kw (ld_glob I hg F.at_ ?_ hdb)
  refine PySem.W.callWith_K0 (first := []) I.kIn F.kp ?_
  have I2 := Inv.made (C := T.ca X.K c) I
  have ha : H (s.heap.objs.size + 1) = none := I.hok.fresh (Nat.le_succ _)
  have hd : H s.heap.objs.size = none := I.hok.fresh (Nat.le_refl _)
  have hne : s.heap.objs.size ≠ s.heap.objs.size + 1 := Nat.ne_of_lt (Nat.lt_succ_self _)
  have r1 := r.frozen (o := .own (s.heap.objs.size + 1)) hd
  have ex1 : Ex Fz (upd Fz s.heap.objs.size (.own (s.heap.objs.size + 1))) := ex_upd (r.fnone hd)
  have ha1 : (upd H s.heap.objs.size (.own (s.heap.objs.size + 1))) (s.heap.objs.size + 1) = none := by rw [upd_ne (Ne.symm hne)]; exact ha
  have q : Q (.ref (s.heap.objs.size + 1)) (upd (upd H s.heap.objs.size (.own (s.heap.objs.size + 1))) (s.heap.objs.size + 1) (.ins (T.ca X.K c) s.heap.objs.size [])) :=
    PostV.new (k := .ins c []) (xs := []) (us := []) r1 ha1 ⟨rfl, s.heap.objs.size, upd_same⟩ .nil (PostV.mono (Pl.refl R) ex1 h)
  refine wpAny_call (make_map0 I.kIn F.makes F.init (fun self => PySem.W.Looks.of_pure (PySem.W.oi_bind _)) ?_)
  have hget : ({ s with heap := (s.heap.push PySem.W.emptyDict).push (PySem.W.instObj (T.ca X.K c) s.heap.objs.size) } : Shared).heap.get? (s.heap.objs.size + 1) = some (PySem.W.instObj (T.ca X.K c) s.heap.objs.size) := by
    have hz : (s.heap.push PySem.W.emptyDict).objs.size = s.heap.objs.size + 1 := Heap.size_push ..
    rw [← hz]
    exact Heap.get?_push_size _ rfl
  refine oi_init I2.kIn hget rfl F.top ?_
  exact ⟨rfl, ⟨V.ref (s.heap.objs.size + 1), _, I2, rfl, q⟩⟩
end
end Z
end
end
section
set_option Elab.async false
set_option linter.all false
set_option maxRecDepth 100000
set_option maxHeartbeats 2000000
/-! YJ: for in a generator's body. -/
noncomputable section
namespace Z
open PySem PySem.Spec PyProof.Rows L2 GenW

section
variable {M : Model} {A : Around} {R : GenEnd} {Y : Protocol} {n : Nat} {s₀ : Shared} {c : Code} {fs : List Frame} {s : Shared} {env : Env}
  {K : Flow → Sem PySem.Fin} {H : Value → Sem PySem.Fin} {gd : Bool → Bool} {lv : List Value → List Value}
theorem seg_For {target iter : Expr} {body orelse : List Stmt} {pos : Pos}
    (h : wpAny M (A.over c fs) (eval iter env) (fun x s₁ => wpAny M (A.over c fs) (pyIter x) (fun it s₂ => ∀ p, Seg M A R Y n s₀ (.forLoop target it body orelse env) (M.den (.forLoop target it body orelse env))
      (.ret (fun r => ((match r with | .ok f => (.pure f : Sem Flow) | .error e => .raise e).onRaise (cameBack env)).wrap K H gd lv) none (gd false) (lv []) c p [] :: fs) s₂) (fun x s' => Seg M A R Y n s₀ c (H x) fs s') s₁) (fun x s' => Seg M A R Y n s₀ c (H x) fs s') s)
    (hs : ∀ x, foldedSetIterable iter env x = pure x := by intro _; rfl) :
    Seg M A R Y n s₀ c ((exec (.For target iter body orelse pos) env).wrap K H gd lv) fs s := by
  rw [exec_For]
  refine seg_at ?_
  have e1 : ((eval iter env >>= fun x0 => foldedSetIterable iter env x0 >>= fun x => standAt iter.pos >>= fun _ => holding [x] (pyIter x) >>= fun it => runOwn (.forLoop target it body orelse env) env) : Sem Flow) =
      (eval iter env >>= fun x => standAt iter.pos >>= fun _ => holding [x] (pyIter x)) >>= fun it => runOwn (.forLoop target it body orelse env) env := by
    rw [bind_assoc]
    congr 1
    funext x
    rw [hs x]
    rfl
  show Seg M A R Y n s₀ c (Sem.wrap K H gd lv (eval iter env >>= fun x0 => foldedSetIterable iter env x0 >>= fun x => standAt iter.pos >>= fun _ => holding [x] (pyIter x) >>= fun it => runOwn (.forLoop target it body orelse env) env)) fs s
  rw [e1, Sem.bind_eq_wrap', Sem.wrap_wrap]
  refine seg_wrap (wpAny_bind (wpAny_mono h (fun x s1 h1 => wpAny_bind (wpAny_standAt (wpAny_holding (wpAny_mono h1 (fun it s2 h2 => ?_) fun _ _ z => z)))) fun _ _ z => z))
  exact seg_call h2
end
section
variable {prog : Program} {w : World} {A : Around} {R : GenEnd} {Y : Protocol} {n : Nat} {s₀ : Shared} {fs : List Frame} {s : Shared} {env : Env}
abbrev noted (env : Env) (e : Value) : Sem PySem.Fin := (do noteFrame e env; theTreesLotGoes e : Sem Unit).wrap (fun _ => .raise e) .raise id id
theorem seg_forLoop {target : Expr} {it : Value} {body : List Stmt}
    (h : wpAny (model prog w) (A.over (.forLoop target it body [] env) fs) (pyNext it) (fun r s₁ => match r with
      | none => Seg (model prog w) A R Y n s₀ (.forLoop target it body [] env) (.pure (.again (.block [] env))) fs s₁
      | some v => wpAny (model prog w) (A.over (.forLoop target it body [] env) fs) (letOwnedTupleGo target it v) (fun _ s₂ => wpAny (model prog w) (A.over (.forLoop target it body [] env) fs) (assign target env v) (fun _ s₃ =>
          Seg (model prog w) A R Y n s₀ (.forLoop target it body [] env) ((execs body env).wrap (fun f => match f with
            | .next | .cont => .pure (.again (.forLoop target it body [] env))
            | .brk => .pure (.done .next)
            | .ret v => .pure (.done (.ret v))) (noted env) id id) fs s₃)
          (fun x s' => Seg (model prog w) A R Y n s₀ (.forLoop target it body [] env) (noted env x) fs s') s₂)
        (fun x s' => Seg (model prog w) A R Y n s₀ (.forLoop target it body [] env) (noted env x) fs s') s₁)
      (fun x s' => Seg (model prog w) A R Y n s₀ (.forLoop target it body [] env) (noted env x) fs s') s) :
    Seg (model prog w) A R Y n s₀ (.forLoop target it body [] env) ((model prog w).den (.forLoop target it body [] env)) fs s := by
  show Seg _ A R Y n s₀ _ ((forTurn target it body [] env).onRaise (fun x => do noteFrame x env; theTreesLotGoes x)) fs s
  unfold forTurn
  rw [Sem.onRaise_eq_wrap]
  refine seg_at ?_
  have hN : (fun e => ((do noteFrame e env; theTreesLotGoes e : Sem Unit).bind fun _ => (Sem.raise e : Sem PySem.Fin))) = noted env := by
    funext e
    exact Sem.bind_eq_wrap _ _
  show Seg _ A R Y n s₀ _ (Sem.wrap _ _ _ _ (((pyNext it).onRaise fun _ => standAt { target.pos with line := 0 }) >>= _)) fs s
  rw [Sem.bind_eq_wrap', Sem.wrap_wrap]
  refine seg_wrap (wpAny_onRaise (wpAny_mono h (fun r s1 h1 => ?_) fun x s' hx => wpAny_standAt ?_))
  · cases r with
    | none => exact h1
    | some v =>
      show Seg _ A R Y n s₀ _ (Sem.wrap _ _ _ _ (letOwnedTupleGo target it v >>= fun _ => assign target env v >>= fun _ => execs body env >>= _)) fs s1
      rw [Sem.bind_eq_wrap', Sem.wrap_wrap]
      refine seg_wrap (wpAny_mono h1 (fun _ s2 h2 => ?_) fun x s' hx => ?_)
      · show Seg _ A R Y n s₀ _ (Sem.wrap _ _ _ _ (assign target env v >>= fun _ => execs body env >>= _)) fs s2
        rw [Sem.bind_eq_wrap', Sem.wrap_wrap]
        refine seg_wrap (wpAny_mono h2 (fun _ s3 h3 => ?_) fun x s' hx => ?_)
        · show Seg _ A R Y n s₀ _ (Sem.wrap _ _ _ _ (execs body env >>= _)) fs s3
          rw [Sem.bind_eq_wrap', Sem.wrap_wrap]
          rw [Sem.wrap_congr (execs body env) _ _ (K' := fun f => match f with
            | .next | .cont => .pure (.again (.forLoop target it body [] env))
            | .brk => .pure (.done .next)
            | .ret v => .pure (.done (.ret v))) (H' := noted env) (fun f => by cases f <;> rfl) (fun e => by exact congrFun hN e)]
          exact h3
        · first | exact hx | (rw [← hN] at hx; exact hx)
      · first | exact hx | (rw [← hN] at hx; exact hx)
  · first | exact hx | (rw [← hN] at hx; exact hx)
end
def tGFor (wi : TI) (g : TG) (tb : TGn) : TGn := fun D ys σ H => wi σ H fun J H1 => ∃ W : Nat → Nat → List V → L2.St → Hp → Prop, (∃ m, W 0 m ys σ H1) ∧ ∀ i m ys σ H, W i m ys σ H → (J.stop i H ∧ D.nx ys σ H) ∨
  (J.go i H ∧ ∃ N : List V → L2.St → Hp → Prop, (∀ ys' σ' H', N ys' σ' H' → ∃ m', m' < m ∧ W (i + 1) m' ys' σ' H') ∧ ∀ x H', J.yld i H x H' → g x σ H' fun σ2 H2 => tb { D with nx := N, ct := N, bk := D.nx } ys σ2 H2)
section
variable {X : Cx}
theorem gcPinned {S : Addr} {ip : List (Addr × Obj)} {A : Around} {c : Code} {fs : List Frame} {gd : Bool → Bool} (g : GC X S ip A c fs gd) {more : List (Addr × Obj)} (h : ∀ p ∈ more, p.1 ≠ S) : GC X S (ip ++ more) A c fs gd where
  pn := g.pn
  ip := fun p hp => (List.mem_append.mp hp).elim (g.ip p) (h p)
  apart := g.apart
  over := g.over
  split := g.split
  guard := g.guard
  gd := g.gd
theorem gs_for {target iter : Expr} {body : List Stmt} {pos : Pos} {wi : TI} {g : TG} {tb : TGn} (hp : PassesOwn (model X.prog X.w) X.A X.env X.xe) (hc : X.calm = true) (hi : PI X target iter wi) (hg : PG X target g) (hb : GSs X body tb)
    (hs : ∀ x, foldedSetIterable iter X.env x = pure x := by intro _; rfl) : GS X (.For target iter body [] pos) (tGFor wi g tb) := by
  refine ⟨fun A S ip R n ys s₀ c fs K J gd lv s σ H D gc hn k hI ht => ?_⟩
  obtain ⟨acc, cc, rv, I⟩ := hI
  refine seg_For ?_ hs
  rw [gc.over]
  refine wpAny_mono (hi.run _ s σ H _ I ht) (fun v s1 h1 => wpAny_mono h1 (fun itv s2 h2 => ?_) fun x s' hx => k.exc n s₀ x s' hx) fun x s' hx => k.exc n s₀ x s' hx
  intro p
  obtain ⟨it, fp, tn, J', H2, e, I2, T, st2, f2, W, ⟨m0, w0⟩, turn⟩ := h2
  subst e
  have gl := fun (kk : Result → Sem PySem.Fin) => gc_loop (k := kk) (c' := .forLoop target (.ref it) body [] X.env) (l := lv []) (kp := []) (p := p) gc rfl rfl
  -- the list that is filled is none of the iterator's objects
  have hfS : ∀ b ∈ fp, b ≠ S := fun b hb z => (f2 b hb).2.2.2.2.2 (S, lstObj acc cc) (List.mem_append_right _ List.mem_cons_self) z.symm
  have stat : ∀ {H' : Hp} {acc' : Array Value} {c' : Nat}, (∀ b ∈ fp, H' b = none) → ∀ b ∈ fp, FpOk X ((S, lstObj acc' c') :: ip) H' b := fun {H' acc' c'} hn b hb => by
    obtain ⟨_, q1, q2, q3, q4, q5⟩ := f2 b hb
    refine ⟨hn b hb, q1, q2, q3, q4, fun p hp => ?_⟩
    rcases List.mem_append.mp hp with z | z
    · exact q5 p (List.mem_append_left _ z)
    · rcases List.mem_cons.mp z with z | z
      · rw [z]; exact fun y => hfS b hb y.symm
      · exact q5 p (List.mem_append_right _ (List.mem_cons_of_mem _ z))
  have loop : ∀ (m i n : Nat) (ys : List V) (s₀ s : Shared) (σ : L2.St) (H : Hp), n + ys.length = sizeLine → W i m ys σ H → GI X S ip ys σ H s → tn i s.heap → (∀ b ∈ fp, H b = none) →
      Seg (model X.prog X.w) A R (GY X S) n s₀ (.forLoop target (.ref it) body [] X.env) ((model X.prog X.w).den (.forLoop target (.ref it) body [] X.env))
        (.ret (fun r => ((match r with | .ok f => (.pure f : Sem Flow) | .error e => .raise e).onRaise (cameBack X.env)).wrap K J gd lv) none (gd false) (lv []) c p [] :: fs) s := by
    intro m
    induction m using Nat.strongRecOn with
    | ind m ih =>
      intro i n ys s₀ s σ H hn w hI st fr
      have ee : ∀ (n : Nat) (s₀ : Shared) (x : Value) (s' : Shared), X.xe x s' → Seg (model X.prog X.w) A R (GY X S) n s₀ (.forLoop target (.ref it) body [] X.env) (noted X.env x)
          (.ret (fun r => ((match r with | .ok f => (.pure f : Sem Flow) | .error e => .raise e).onRaise (cameBack X.env)).wrap K J gd lv) none (gd false) (lv []) c p [] :: fs) s' := fun n s₀ x s' hx => by
        refine seg_wrap ?_
        rw [(gl _).over]
        refine wpAny_bind (wpAny_mono (hp x s' hx) (fun _ s'' hcb => wpAny_theTreesLotGoes ?_) fun y s'' hcb => ?_)
        · exact seg_leaf (.error x) (seg_cameBack gc k hcb)
        · exact seg_leaf (.error y) (seg_cameBack gc k hcb)
      refine seg_forLoop ?_
      rw [(gl _).over]
      obtain ⟨acc, cc, rv, I⟩ := hI
      rcases turn i m ys σ H w with ⟨stop, qn⟩ | ⟨go, N, hN, step⟩
      · refine wpAny_mono (T.done X rfl rfl rfl hc i _ s σ H X.xe I (stat fr) st stop) (fun r s4 ⟨hr, I4⟩ => ?_) fun x s' hx => ee n s₀ x s' hx
        subst hr
        refine seg_again rfl ?_
        show Seg _ _ _ _ _ _ _ (.pure (.done .next)) _ _
        exact seg_leaf (.ok .next) (k.ok n ys s₀ s4 .next hn ⟨σ, H, ⟨acc, cc, rv, I4⟩, qn⟩)
      · refine wpAny_mono (T.item X rfl rfl rfl hc i _ s σ H X.xe I (stat fr) st go) (fun r s4 ⟨u, hr, h4⟩ => ?_) fun x s' hx => ee n s₀ x s' hx
        subst hr
        refine wpAny_mono h4 (fun _ s5 ⟨x, H5, I5, r5, y5, st5, fr5⟩ => ?_) fun x s' hx => ee n s₀ x s' hx
        have I5' := I5.pinned (stat fr5) (T.obj _ _ st5)
        refine wpAny_mono (hg.run _ s5 σ H5 x u _ I5' r5 (step x H5 y5)) (fun _ s6 ⟨σ6, H6, I6, q6⟩ => ?_) fun x s' hx => ee n s₀ x s' hx
        have gi6 : GI X S (ip ++ pinsAt fp s5.heap) ys σ6 H6 s6 := ⟨acc, cc, rv, I6⟩
        have gp := gcPinned (gl (fun r => ((match r with | .ok f => (.pure f : Sem Flow) | .error e => .raise e).onRaise (cameBack X.env)).wrap K J gd lv)) (more := pinsAt fp s5.heap) (fun q hq => by
          obtain ⟨b, o⟩ := q
          exact hfS b (of_pinsAt hq).1)
        have back : ∀ {ys' : List V} {σ7 : L2.St} {H7 : Hp} {s7 : Shared}, GI X S (ip ++ pinsAt fp s5.heap) ys' σ7 H7 s7 → GI X S ip ys' σ7 H7 s7 ∧ tn (i + 1) s7.heap ∧ ∀ b ∈ fp, H7 b = none := fun {ys' σ7 H7 s7} ⟨acc', c', r', I7⟩ => by
          have I7 : Inv X (((S, lstObj acc' c') :: ip) ++ pinsAt fp s5.heap) σ7 H7 s7 := I7
          refine ⟨⟨acc', c', r', I7.unpinned⟩, T.keep _ _ _ st5 fun b hb o e => (I7.pin (b, o) (List.mem_append_right _ (List.mem_append_right _ (mem_pinsAt hb e)))).1, fun b hb => ?_⟩
          obtain ⟨o, e, d⟩ := T.obj _ _ st5 b hb
          exact (I7.pin (b, o) (List.mem_append_right _ (List.mem_append_right _ (mem_pinsAt hb e)))).2.1
        refine hb.run A S (ip ++ pinsAt fp s5.heap) R n ys s₀ _ _ _ _ id id s6 σ6 H6 { D with nx := N, ct := N, bk := D.nx } gp hn ⟨fun n' ys' s₀' s7 f hn' hs => ?_, fun n' s₀' x s7 hx => ee n' s₀' x s7 hx⟩ gi6 q6
        cases f with
        | next =>
          obtain ⟨σ7, H7, I7, n7⟩ := hs
          obtain ⟨m', hm, w7⟩ := hN ys' σ7 H7 n7
          obtain ⟨b1, b2, b3⟩ := back I7
          exact seg_again rfl (ih m' hm (i + 1) n' ys' s₀' s7 σ7 H7 hn' w7 b1 b2 b3)
        | cont =>
          obtain ⟨σ7, H7, I7, n7⟩ := hs
          obtain ⟨m', hm, w7⟩ := hN ys' σ7 H7 n7
          obtain ⟨b1, b2, b3⟩ := back I7
          exact seg_again rfl (ih m' hm (i + 1) n' ys' s₀' s7 σ7 H7 hn' w7 b1 b2 b3)
        | brk =>
          obtain ⟨σ7, H7, I7, q7⟩ := hs
          exact seg_leaf (.ok .next) (k.ok n' ys' s₀' s7 .next hn' ⟨σ7, H7, (back I7).1, q7⟩)
        | ret v =>
          obtain ⟨x7, σ7, H7, I7, r7, q7⟩ := hs
          exact seg_leaf (.ok (.ret v)) (k.ok n' ys' s₀' s7 (.ret v) hn' ⟨x7, σ7, H7, (back I7).1, r7, q7⟩)
  exact loop m0 0 n ys s₀ s2 σ H2 hn w0 ⟨acc, cc, rv, I2⟩ st2 (fun b hb => (f2 b hb).1)
end
end Z
end
end
section
set_option Elab.async false
set_option linter.all false
set_option maxRecDepth 100000
set_option maxHeartbeats 2000000
/-! YK: the truth of what may be of several own classes. -/
noncomputable section
namespace Z
open PySem PySem.Spec PyProof.Rows L2

abbrev RTru := V → Hp → (Bool → Hp → Prop) → Prop
def TruE (T : Tb) (K : PySem.W.Frag) (E : XK) (f : PV → Sto → Out Bool) (r : RTru) : Prop := ∀ (R : Pl) (F H : Hp) (S : Sto) (x : PV) (u : V) (Q : Bool → Hp → Prop), Rep T K R F S H → Rel T K R F x u → OkB T K R F (f x S) Q E → r u H Q
def rOwnTru (T : Tb) (K : PySem.W.Frag) (E : XK) (c : Nat) (d : DF) : RTru := fun x H Q => ∃ a dx fs, x = .ref a ∧ H a = some (.ins (T.ca K c) dx fs) ∧ spP T K d [.ref a] H (fun v H' => ∃ b, v = .bl b ∧ Q b H') E
def rTru (K : PySem.W.Frag) : RTru := fun x H Q => ∃ k, TruV K x H k ∧ Q k H
/-- by c's own __bool__, otherwise as f says -/
def truF (c : Nat) (d : DF) (f : PV → Sto → Out Bool) (x : PV) (S : Sto) : Out Bool := if isIns c x S = true then asB (d [x] S) else f x S
def dTruG (f : PV → Sto → Out Bool) (a : DE) : DB := fun l S => (a l S).bind fun x S1 => f x S1
def dNotG (f : PV → Sto → Out Bool) (a : DE) : DE := fun l S => (a l S).bind fun x S1 => (f x S1).bind fun b S2 => .ok (.bl (!b)) S2
section
variable {T : Tb} {X : Cx} {E : XK} {c j k : Nat} {d : DF} {a : Expr} {da : DE} {f : PV → Sto → Out Bool} {r : RTru} {pos : Pos}
theorem tr_base : TruR X (rTru X.K) := fun pins s σ H x v Q I rx h => tru_ok pins s σ H x v Q I rx h
theorem te_base {K : PySem.W.Frag} : TruE T K E truP (rTru K) := fun R F H S x u Q re rx h => tru_rel re rx h
theorem tr_own (cg : Cg X (fun _ => E) k) (F : FnMP T X.prog X.w X.K X.mg X.base j c "__bool__" d) (hr : TruR X r) (hj : j ≤ k := by decide) : TruR X (fun x H Q => rOwnTru T X.K E c d x H Q ∨ r x H Q) := fun pins s σ H x v Q I rx h =>
  h.elim (tru_own cg F hj pins s σ H x v Q I rx) (hr pins s σ H x v Q I rx)
theorem te_own {K : PySem.W.Frag} (hz : TruE T K E f r) : TruE T K E (truF c d f) (fun x H Q => rOwnTru T K E c d x H Q ∨ r x H Q) := by
  intro R F H S x u Q re rx h
  unfold truF at h
  split at h
  · rename_i hi
    obtain ⟨a, dx, fs, rfl, hx⟩ := isIns_rel re rx hi
    refine .inl ⟨a, dx, fs, rfl, hx, spP_of re (.cons rx .nil) ?_⟩
    cases hd : d [x] S with
    | ok v S2 =>
      rw [hd] at h
      intro R2 F2 H2 u2 p2 ex2 r2 ru
      cases v with
      | bl b => rw [Rel] at ru; exact ⟨b, ru, h R2 F2 H2 p2 ex2 r2⟩
      | _ => exact h.elim
    | err e S2 => rw [hd] at h; exact h
    | bad => rw [hd] at h; exact h.elim
  · exact .inr (hz R F H S x u Q re rx h)
theorem jt_truG (hr : TruR X r) (hz : TruE T X.K E f r) (ha : JE T X (fun _ => E) a da) (he : ∀ whole, isTrue a X.env whole = (do let v ← whole; standAt a.pos; holding [v] (truthy v)) := by intro _; rfl) : JT T X (fun _ => E) a (dTruG f da) := by
  refine pt_imp (pt_truthR ha hr he) fun σ H Q ⟨R, Fz, l, S, re, e, h⟩ => ?_
  exact seqV (goB T X.K E Q) re e h fun x S1 R1 F1 H1 u p ex r1 rx e1 h1 => hz R1 F1 H1 S1 x u Q r1 rx h1
theorem je_notG (hr : TruR X r) (hz : TruE T X.K E f r) (ha : JE T X (fun _ => E) a da) : JE T X (fun _ => E) (.UnaryOp .Not a pos) (dNotG f da) := by
  refine pe_imp (pe_notR ha hr) fun σ H Q ⟨R, Fz, l, S, re, e, h⟩ => ?_
  refine seqV (goV T X.K E Q) re e h fun x S1 R1 F1 H1 u p ex r1 rx e1 h1 => ?_
  have h1 : OkV T X.K R1 F1 ((f x S1).bind fun b S2 => .ok (.bl (!b)) S2) Q E := h1
  refine hz R1 F1 H1 S1 x u _ r1 rx ?_
  cases ht : f x S1 with
  | bad => rw [ht] at h1; exact h1.elim
  | err x' S3 => rw [ht] at h1; exact h1
  | ok k S2 =>
    rw [ht] at h1
    intro R2 F2 H2 p2 ex2 r2
    exact PostV.here r2 (by rw [Rel]) (OkV.mono p2 ex2 h1)
end
end Z
end
end
section
set_option Elab.async false
set_option linter.all false
set_option maxRecDepth 100000
set_option maxHeartbeats 2000000
/-! YL: generators: defs that they call; list(g). -/
noncomputable section
namespace Z
open PySem PySem.Spec PyProof.Rows L2 GenW

/-! ### defs that ask for no guards -/
structure Cg0 (X : Cx) (E : XS) (k : Nat) : Prop where
  calm : X.calm = true
  nd : X.N.Nodup
  room : Room k X.A
  takes : Takes X (fun cls d σ H => E σ cls d H)
  own : PassesOwn (model X.prog X.w) X.A X.env X.xe
theorem Cg0.pass {X : Cx} {E : XS} {k : Nat} (c : Cg0 X E k) (pins : List (Addr × Obj)) (σ : L2.St) (H : Hp) (s : Shared) (e : Value) (s' : Shared) (I : Inv X pins σ H s) (q : L2.CX X.prog X.w X.stack H s (E σ) e s') : X.xe e s' :=
  c.takes e s' (XE.of_call I (fun _ _ _ h => h) q)
theorem Cg0.hu {X : Cx} {E : XS} {k : Nat} (c : Cg0 X E k) : X.A.units + 64 < cLine := c.room.units
theorem Cg0.hu1 {X : Cx} {E : XS} {k : Nat} (c : Cg0 X E k) : X.A.units + 1 < cLine := by have := c.hu; omega
theorem Cg.z {X : Cx} {E : XS} {k : Nat} (c : Cg X E k) : Cg0 X E k := ⟨c.calm, c.nd, c.room, c.takes, c.own⟩
structure FnG0 (T : Tb) (P : Program) (w : World) (K : PySem.W.Frag) (mg : Str → Option Value) (base : Heap) (k : Nat) (f : Addr) (fd : FuncData) (ps : List Str) (d : DF) : Prop where
  run : ∀ (A : Around) (outer : List Env) (s : Shared) (H : Hp) (args : Args) (us : List Value) (vs : List V) (Q : VK) (E : XK), Room k A → Env0 P w K mg base A outer s H → BindsTo s fd args (ps.zip us) → Vals vs us → spOf T K ps.length d vs H Q E →
    codeAny (model P w) A (.call (.ref f) args) (CR (L2.CX P w) outer P w H s Q E) s
theorem FnG0.g {T : Tb} {P : Program} {w : World} {K : PySem.W.Frag} {mg : Str → Option Value} {base : Heap} {k : Nat} {f : Addr} {fd : FuncData} {ps : List Str} {d : DF} (G : FnG0 T P w K mg base k f fd ps d) : FnG T P w K mg base k f fd ps d :=
  ⟨fun A outer s H args us vs Q E hr _ => G.run A outer s H args us vs Q E hr⟩
structure Fn0 (T : Tb) (P : Program) (w : World) (K : PySem.W.Frag) (mg : Str → Option Value) (base : Heap) (k : Nat) (x : Str) (ps : List Str) (d : DF) : Prop where
  ex : ∃ (f : Addr) (fd : FuncData), mg x = some (.ref f) ∧ PySem.W.keepIn K (.ref f) = true ∧ FnG0 T P w K mg base k f fd ps d ∧ Binds K fd ps [] ∧ (∀ (s : Shared) (ws : List Value), ws.length = ps.length → BindsTo s fd ⟨[], ps.zip ws⟩ (ps.zip ws)) ∧ ∃ oc od osl, K.lookup f = some ⟨oc, od, .func fd, osl⟩
  ar : ∀ (xs : List PV) (S : Sto), xs.length ≠ ps.length → d xs S = .bad
theorem Fn0.fn {T : Tb} {P : Program} {w : World} {K : PySem.W.Frag} {mg : Str → Option Value} {base : Heap} {k : Nat} {x : Str} {ps : List Str} {d : DF} (F : Fn0 T P w K mg base k x ps d) : Fn T P w K mg base k x ps d := by
  obtain ⟨f, fd, h1, h2, h3, h4⟩ := F.ex
  exact ⟨⟨f, fd, h1, h2, h3.g, h4⟩, F.ar⟩
section
variable {T : Tb} {P : Program} {w : World} {K : PySem.W.Frag} {mg : Str → Option Value} {base : Heap} {x qual : Str} {params : Arguments} {body : List Stmt} {scope : Scope} {dvs : List V} {kws : List (Str × V)} {f : Addr} {fd : FuncData} {N ps : List Str} {k : Nat} {b : DS}
theorem fng0_of_ok {d : DF} (hd : ∀ (vs : List V) (H : Hp) (Q : VK) (E : XK), spOf T K ps.length d vs H Q E → tS T K (fun _ => E) b { nx := fun _ H' => Q .non H', rt := Q } (L2.start N vs) H) (G : FunD K x qual params body scope dvs kws f fd) (S : FnScope N ps scope)
    (hb : ∀ (cdv : Value) (_ : codeOf K f = cdv) (A : Around) (outer : List Env) (s : Shared) (H : Hp) (E : XK), Cg0 (cxOf (L2.CX P w) P w K mg base N qual scope f cdv A outer s H E) (fun _ => E) k → JB T (cxOf (L2.CX P w) P w K mg base N qual scope f cdv A outer s H E) (fun _ => E) body b) :
    FnG0 T P w K mg base (k + 1) f fd ps d := by
  obtain ⟨oc, od, dV, kV, doc, pm, an, cdv, ct, osl, rfl, lk, hcd, _, _⟩ := G.ex
  refine ⟨fun A outer s H args us vs Q E hr e0 hbi r hsp => ?_⟩
  have hlen : vs.length = ps.length := hsp.1
  have inK : K.In s.heap := e0.mod.kin.keeps fun b o e => (e0.bs b o e).1
  have nolim : s.heap.NoLimit := e0.mod.nolimit.keeps fun b o e => (e0.bs b o e).1
  have kinds : ∀ y ∈ ps.zip us, scope.names.lookup y.1 = some .local ∨ (scope.names.lookup y.1 = some .cell ∧ ((cellsFrom (s.heap.objs.size + 1) scope.names []).lookup y.1).isSome = true) := fun y hy => by
    rcases S.par y.1 (List.of_mem_zip (a := y.1) (b := y.2) hy).1 with q | q
    · exact .inl q
    · exact .inr ⟨q, PySem.W.cellsFrom_some _ _ _ (.inl q)⟩
  refine codeAny_call_function hr.depth (inK _ _ lk) rfl S.co S.gen rfl (PySem.W.codeRec_of inK hcd) (hbi _ _ _ _ ?_)
  refine wpAny_newFunctionEnv_cells S.kind kinds fun env he s1 xc => ?_
  subst he
  refine ⟨nolim.keeps xc.toInCall.keep, codeAny_func ?_⟩
  have I : Inv (cxOf (L2.CX P w) P w K mg base N qual scope f cdv A outer s H E) [] (L2.start N vs) H s1 := inv_start S hr.hd e0 hlen r xc
  have cg : Cg0 (cxOf (L2.CX P w) P w K mg base N qual scope f cdv A outer s H E) (fun _ => E) k :=
    ⟨rfl, S.nd, hr.deeper _, takes_of rfl rfl rfl rfl, passes_of rfl⟩
  have hcode : codeOf K f = cdv := by unfold codeOf; rw [lk]
  have ht := (hb cdv hcode A outer s H E cg).run [] s1 (L2.start N vs) H _ I (hd _ _ _ _ hsp)
  refine wpAny_mono ht (fun fl s' hs => ?_) fun e s' hs => hs
  have fin : ∀ {σ' : L2.St} {H' : Hp} {v : V} {u : Value}, Inv (cxOf (L2.CX P w) P w K mg base N qual scope f cdv A outer s H E) [] σ' H' s' → RelV v u → Q v H' → CE outer P w H s Q u s' :=
    fun {σ' H' v u} J rv q => ⟨v, H', J.os, J.bare, J.base, J.hok, rv, q⟩
  cases fl with
  | next =>
    obtain ⟨σ', H', J, q⟩ := hs
    exact fin (v := V.non) (u := Value.none) J rfl q
  | ret u =>
    obtain ⟨v, σ', H', J, rv, q⟩ := hs
    exact fin J rv q
  | brk => obtain ⟨_, _, _, q⟩ := hs; exact False.elim q
  | cont => obtain ⟨_, _, _, q⟩ := hs; exact False.elim q
theorem fng0_of (G : FunD K x qual params body scope dvs kws f fd) (S : FnScope N ps scope)
    (hb : ∀ (cdv : Value) (_ : codeOf K f = cdv) (A : Around) (outer : List Env) (s : Shared) (H : Hp) (E : XK), Cg0 (cxOf (L2.CX P w) P w K mg base N qual scope f cdv A outer s H E) (fun _ => E) k → JB T (cxOf (L2.CX P w) P w K mg base N qual scope f cdv A outer s H E) (fun _ => E) body b) :
    FnG0 T P w K mg base (k + 1) f fd ps (dDef ps.length N.length b) := fng0_of_ok (fun _ _ _ _ h => def_ok h) G S hb
theorem FnG0.clo {d : DF} (G : FnG0 T P w K mg base k f fd ps d) : FnG0 T P w K mg base k f fd ps (Z.clo d) :=
  ⟨fun A outer s H args us vs Q E hr e0 hb hv ⟨hl, R, F, S, xs, r, rx, h⟩ =>
    let ⟨R', S', r', rx', h'⟩ := clo_ok r rx h
    G.run A outer s H args us vs Q E hr e0 hb hv ⟨hl, R', F, S', xs, r', rx', h'⟩⟩
theorem Fn0.clo {d : DF} (F : Fn0 T P w K mg base k x ps d) : Fn0 T P w K mg base k x ps (Z.clo d) := by
  obtain ⟨f, fd, h1, h2, h3, h4⟩ := F.ex
  exact ⟨⟨f, fd, h1, h2, h3.clo, h4⟩, fun xs S hl => clo_bad (fun S => F.ar xs S hl) S⟩
end
section
variable {T : Tb} {X : Cx} {E : XS} {x : Str} {p pos : Pos} {e : Expr} {es : List Expr} {ps : List Str} {d : DF} {ar : DA} {j k : Nat} {f : Addr} {fd : FuncData} {ds : List Value} {dvs : List V}
theorem run_fng0 {pins : List (Addr × Obj)} {σ : L2.St} {H : Hp} {s : Shared} {Q : VK} {us : List Value} {vs : List V} (c : Cg0 X E k) (hj : j ≤ k) (G : FnG0 T X.prog X.w X.K X.mg X.base j f fd ps d) {args : Args} (hb : BindsTo s fd args (ps.zip us))
    (I : Inv X pins σ H s) (r : Vals vs us) (h : spOf T X.K ps.length d vs H Q (E σ)) : codeAny (model X.prog X.w) X.A (.call (.ref f) args) (fun r s' => match r with
      | .ok (.ret u) => EP X pins σ Q u s'
      | .ok _ => False
      | .error e => X.xe e s') s := by
  refine codeAny_mono (G.run X.A X.stack s H args us vs Q (E σ) (c.room.mono hj) I.env0 hb r h) fun z s' hq => ?_
  cases z with
  | error e => exact c.pass pins σ H s e s' I hq
  | ok fl =>
    cases fl with
    | ret u => exact I.after hq
    | next => exact False.elim hq
    | brk => exact False.elim hq
    | cont => exact False.elim hq
theorem je_fnZ (c : Cg0 X E k) (F : Fn0 T X.prog X.w X.K X.mg X.base j x ps d) (ha : JA T X E (e :: es) ar) (hj : j ≤ k := by decide) (hn : (e :: es).length = ps.length := by rfl) (hg : Gl X x := by rfl) (hdb : (x == ("__debug__" : Str)) = false := by decide)
    (he : starEach (e :: es) X.env = (false, eval e X.env) :: starEach es X.env := by rfl) (hpl : (backTo pos (starEach es X.env)).any (·.1) = false := by rfl) : JE T X E (.Call (.Name x p) (e :: es) [] pos) (dFn d ar) := by
  obtain ⟨f, fd, hm, hk, G, hb, _⟩ := F.ex
  refine ⟨fun pins s σ H Q I h => ?_⟩
  refine wpAny_Call_Name_kw (ld_glob I hg hm ?_ hdb)
  obtain ⟨R, Fz, l, S, r, e', h⟩ := h
  have hh : tL T X.K E ar σ H fun vs H1 => spOf T X.K ps.length d vs H1 Q (E σ) := seqL (goV T X.K (E σ) Q) r e' h fun xs S1 R1 F1 H1 us p ex r1 rx e1 h1 => by
    have h1 : OkV T X.K R1 F1 (d xs S1) Q (E σ) := h1
    by_cases hl : xs.length = ps.length
    · exact sp_of hl r1 rx h1
    · rw [F.ar xs S1 hl] at h1; exact h1.elim
  refine PySem.W.callWith_K (h₀ := X.base) I.ok.mod.kin hk (thn (ha.run pos pins s σ H _ I hh) fun us s1 ⟨vs, H1, I1, r1, q1⟩ => ⟨I1.kIn, ?_⟩) he hpl
  have hl : us.length = ps.length := by rw [← r1.length]; exact q1.1
  have hb' := hb s1 us I1.kIn (by rw [List.append_nil]; exact hl)
  rw [List.append_nil] at hb'
  refine wpAny_call (codeAny_mono (run_fng0 c hj G hb' I1 r1 q1) fun z s' hq => ?_)
  cases z with
  | error e => exact hq
  | ok fl => cases fl with
    | ret u => exact hq
    | _ => exact False.elim hq
end
section
variable {T : Tb} {X : Cx} {E : XS} {x : Str} {c j k : Nat} {fs : List Nat} {e : Expr} {es : List Expr} {ar : DA} {p pos rpos : Pos}
theorem js_raiseZ (cg : Cg0 X E k) (N : ExN T X.prog X.w X.K X.mg X.base j x c fs) (ha : JA T X E (e :: es) ar) (hj : j + 1 ≤ k := by decide) (hg : Gl X x := by rfl) (hdb : (x == ("__debug__" : Str)) = false := by decide)
    (he : starEach (e :: es) X.env = (false, eval e X.env) :: starEach es X.env := by rfl) (hpl : (backTo pos (starEach es X.env)).any (·.1) = false := by rfl) : JS T X E (.Raise (some (.Call (.Name x p) (e :: es) [] pos)) none rpos) (dRaise c fs ar) := by
  obtain ⟨fI, fd, ps, hm, O, iC, tI, G, hb⟩ := N.ex
  refine ps_imp (ps_raise cg.calm cg.takes (pmk_oex (ds := []) (dvs := []) O iC tI G (cg.room.mono hj) hb .nil passes_no hg hm ha hdb he hpl)) fun D σ H ⟨R, Fz, l, S, r, re, h⟩ => ?_
  refine st_l r re h fun xs S1 R1 F1 H1 us pl ex r1 rx e1 h1 => ?_
  have h1 : OkS T X.K R1 F1 (if xs.length = fs.length then .err ⟨c, fs.reverse, xs.reverse⟩ l S1 else .bad) D E := h1
  split at h1
  · rename_i hl
    have hlu : us.length = fs.length := by rw [rx.length]; exact hl
    refine ⟨by rw [hlu]; exact Nat.le_trans N.few (by decide), fun a hn => ⟨a, us, by rw [List.append_nil], by rw [List.length_map]; exact hlu, upd_same, fun d H2 hd hda ea ed hoth => ⟨rfl, d, _, ea, ed, ?_, ?_⟩⟩⟩
    · rw [upd_ne hda] at hd; exact hd
    · rw [upd_ne hda] at hd
      have eH : upd (del H2 a) d (.xd ((fs.map T.fd).zip us).reverse) = upd H1 d (.xd ((fs.map T.fd).zip us).reverse) := by
        funext b
        by_cases hbd : b = d
        · rw [hbd, upd_same, upd_same]
        · rw [upd_ne hbd, upd_ne hbd]
          by_cases hba : b = a
          · rw [hba, del_same, hn]
          · rw [del_ne hba, hoth b hba hbd, upd_ne hba]
      rw [eH]
      refine h1 R1 F1 _ σ _ _ (Pl.refl R1) (Ex.refl F1) (r1.aside hd) e1 ⟨rfl, .inr ⟨d, us.reverse, rfl, r1.fnone hd, ?_, ?_, rx.reverse⟩⟩
      · rw [upd_same, RelL.zipr (K := X.K) hlu]
      · rw [List.length_reverse, List.length_reverse]; exact hlu
  · exact h1.elim
end

/-! ### a generator's body: statements, then one for that hands out an item in each turn -/
abbrev DGn := Loc → Sto → Out (List PV)
def yieldZ (t : TgZ) (hs : List (PV × Kd × List PV)) (de : DE) : List PV → DGn
  | [], _, S => .ok [] S
  | x :: xs, l, S => match asg t x with
    | none => .bad
    | some ps => (de (setZ l ps) S).bind fun v S1 => if heldB hs S1 = true then (yieldZ t hs de xs (setZ l ps) S1).bind fun vs S2 => .ok (v :: vs) S2 else .bad
def dGFor (di : DI) (t : TgZ) (de : DE) : DGn := fun l S => (di l S).bind fun it S1 => if heldB it.held S1 = true ∧ it.items.length ≤ 16777216 then yieldZ t it.held de it.items l S1 else .bad
def dGPre (b : DS) (g : DGn) : DGn := fun l S => match b l S with
  | .nx l1 S1 => g l1 S1
  | .err e _ S1 => .err e S1
  | _ => .bad
def dGen (n m : Nat) (g : DGn) (xs : List PV) (S : Sto) : Out (List PV) := if xs.length = n then g (xs.map some ++ List.replicate (m - n) none) S else .bad
/-- the reading of a generator's body -/
def tGz (T : Tb) (K : PySem.W.Frag) (E : XK) (g : DGn) : TGn := fun D ys σ H => ys = [] ∧ ∃ R F l S, Rep T K R F S H ∧ RelE T K R F l σ ∧ OkL T K R F (g l S) (fun us H' => ∀ σ', D.nx us σ' H') E
abbrev JGn (T : Tb) (X : Cx) (E : XK) (b : List Stmt) (g : DGn) : Prop := GSs X b (tGz T X.K E g)
theorem gss_imp {X : Cx} {b : List Stmt} {t t' : TGn} (h : GSs X b t) (i : ∀ D ys σ H, t' D ys σ H → t D ys σ H) : GSs X b t' :=
  ⟨fun A S ip R n ys s₀ c fs K J gd lv s σ H D g hn k hI ht => h.run A S ip R n ys s₀ c fs K J gd lv s σ H D g hn k hI (i D ys σ H ht)⟩
section
variable {T : Tb} {X : Cx} {E : XK} {st : Stmt} {rest : List Stmt} {ds : DS} {g : DGn}
theorem jgn_pre (hs : JS T X (fun _ => E) st ds) (hr : JGn T X E rest g) : JGn T X E (st :: rest) (dGPre ds g) := by
  refine gss_imp (gss_cons (gs_ps hs) hr) fun D ys σ H ⟨hy, R, F, l, S, r, e, h⟩ => ?_
  subst hy
  refine ⟨R, F, l, S, r, e, ?_⟩
  unfold dGPre at h
  cases hd : ds l S with
  | nx l1 S1 =>
    rw [hd] at h
    exact fun R' F' H' σ' p x r' e' => ⟨rfl, R', F', l1, S1, r', e', OkL.mono p x h⟩
  | err z l1 S1 =>
    rw [hd] at h
    exact fun R' F' H' σ' cls d p x r' _ rx => h R' F' H' cls d p x r' rx
  | ret v S1 => rw [hd] at h; exact h.elim
  | brk l1 S1 => rw [hd] at h; exact h.elim
  | cnt l1 S1 => rw [hd] at h; exact h.elim
  | bad => rw [hd] at h; exact h.elim
theorem jgn_for {tg iter ye : Expr} {yp p1 pos : Pos} {di : DI} {t : TgZ} {de : DE} (hp : PassesOwn (model X.prog X.w) X.A X.env X.xe) (hc : X.calm = true) (hi : JI T X (fun _ => E) tg iter di) (hg : JG X tg t) (he : JE T X (fun _ => E) ye de)
    (hco : X.env.scope.isCoroutine = false := by rfl) (hin : interactive X.env = false := by rfl) (hs : ∀ x, foldedSetIterable iter X.env x = pure x := by intro _; rfl) :
    JGn T X E [.For tg iter [.Expr (.Yield (some ye) yp) p1] [] pos] (dGFor di t de) := by
  refine gss_imp (gss_cons (gs_for hp hc hi hg (gss_cons (gs_yield he hco hin) gss_nil) hs) gss_nil) fun D ys σ H ⟨hy, R, F, l, S, r, e, h⟩ => ?_
  subst hy
  refine ⟨R, F, l, S, r, e, ?_⟩
  unfold dGFor at h
  cases hd : di l S with
  | bad => rw [hd] at h; exact h.elim
  | err x S1 => rw [hd] at h; exact h
  | ok it S1 =>
    rw [hd] at h
    intro R1 F1 H1 J p ex r1 wz
    have h : OkL T X.K R F (if heldB it.held S1 = true ∧ it.items.length ≤ 16777216 then yieldZ t it.held de it.items l S1 else .bad) (fun us H' => ∀ σ', D.nx us σ' H') E := h
    split at h
    · rename_i hh
      obtain ⟨hh, hsz⟩ := hh
      refine ⟨fun i m ys σ' H' => m = it.items.length - i ∧ i ≤ it.items.length ∧ ys.length = i ∧ ∃ R2 F2 l2 S2 vs, Pl.le R1 R2 ∧ Ex F1 F2 ∧ Rep T X.K R2 F2 S2 H' ∧ RelE T X.K R2 F2 l2 σ' ∧ heldB it.held S2 = true ∧ RelL T X.K R2 F2 vs ys ∧ OkL T X.K R2 F2 ((yieldZ t it.held de (it.items.drop i) l2 S2).bind fun ws S3 => .ok (vs ++ ws) S3) (fun us H' => ∀ σ', D.nx us σ' H') E,
        ⟨_, rfl, Nat.zero_le _, rfl, R1, F1, l, S1, [], Pl.refl R1, Ex.refl F1, r1, e.mono p ex, hh, .nil, ?_⟩, ?_⟩
      · have h2 := OkL.mono p ex h
        rw [List.drop_zero]
        cases hy : yieldZ t it.held de it.items l S1 with
        | ok ws S3 => rw [hy] at h2; exact h2
        | err z S3 => rw [hy] at h2; exact h2
        | bad => rw [hy] at h2; exact h2.elim
      · rintro i m ys σ' H' ⟨rfl, hi, hys, R2, F2, l2, S2, vs, p2, ex2, r2, e2, hh2, rv2, h2⟩
        by_cases hlt : i < it.items.length
        · refine .inr ⟨wz.goes i R2 F2 H' S2 hlt p2.1 ex2 r2 hh2, fun ys σ3 H3 => i + 1 ≤ it.items.length ∧ ys.length = i + 1 ∧ ∃ R2 F2 l2 S2 vs, Pl.le R1 R2 ∧ Ex F1 F2 ∧ Rep T X.K R2 F2 S2 H3 ∧ RelE T X.K R2 F2 l2 σ3 ∧ heldB it.held S2 = true ∧ RelL T X.K R2 F2 vs ys ∧ OkL T X.K R2 F2 ((yieldZ t it.held de (it.items.drop (i + 1)) l2 S2).bind fun ws S3 => .ok (vs ++ ws) S3) (fun us H' => ∀ σ', D.nx us σ' H') E,
            fun ys' σ3 H3 ⟨q1, q2⟩ => ⟨it.items.length - (i + 1), by omega, rfl, q1, q2⟩, fun v H3 y => ?_⟩
          obtain ⟨F3, x, ex3, r3, hx, rv⟩ := wz.yields i R2 F2 H' H3 S2 v hlt p2.1 ex2 r2 hh2 y
          have hdr : it.items.drop i = x :: it.items.drop (i + 1) := by
            rw [List.drop_eq_getElem_cons hlt]
            rw [List.getElem?_eq_getElem hlt] at hx
            cases hx; rfl
          rw [hdr, yieldZ] at h2
          cases ha : asg t x with
          | none => rw [ha] at h2; exact h2.elim
          | some ps =>
            rw [ha] at h2
            refine gOf_ok r3 t x v l2 σ' ps _ (e2.mono (Pl.refl R2) ex3) rv ha fun qs _ e3 => ?_
            have h3 := OkL.mono (Pl.refl R2) ex3 h2
            refine ⟨by rw [hys]; rw [sizeLine_eq]; omega, R2, F3, setZ l2 ps, S2, r3, e3, ?_⟩
            have h3 : OkL T X.K R2 F3 (((de (setZ l2 ps) S2).bind fun v S1 => if heldB it.held S1 = true then (yieldZ t it.held de (it.items.drop (i + 1)) (setZ l2 ps) S1).bind fun vs S2 => .ok (v :: vs) S2 else .bad).bind fun ws S3 => .ok (vs ++ ws) S3) (fun us H' => ∀ σ', D.nx us σ' H') E := h3
            cases hde : de (setZ l2 ps) S2 with
            | bad => rw [hde] at h3; exact h3.elim
            | err z S4 => rw [hde] at h3; exact h3
            | ok w S4 =>
              rw [hde] at h3
              intro R4 F4 H4 u p4 ex4 r4 rw4
              have h3 : OkL T X.K R2 F3 ((if heldB it.held S4 = true then (yieldZ t it.held de (it.items.drop (i + 1)) (setZ l2 ps) S4).bind fun vs S2 => .ok (w :: vs) S2 else .bad).bind fun ws S3 => .ok (vs ++ ws) S3) (fun us H' => ∀ σ', D.nx us σ' H') E := h3
              split at h3
              · rename_i hh4
                refine ⟨hlt, by rw [List.length_append, hys]; rfl, R4, F4, setZ l2 ps, S4, vs ++ [w], p2.trans p4, (ex2.trans ex3).trans ex4, r4, e3.mono p4 ex4, hh4, (rv2.mono p4 (ex3.trans ex4)).append (.cons rw4 .nil), ?_⟩
                have h5 := OkL.mono p4 ex4 h3
                cases hy : yieldZ t it.held de (it.items.drop (i + 1)) (setZ l2 ps) S4 with
                | ok ws S5 =>
                  rw [hy] at h5
                  have h5 : OkL T X.K R4 F4 (.ok (vs ++ w :: ws) S5) (fun us H' => ∀ σ', D.nx us σ' H') E := h5
                  show OkL T X.K R4 F4 (.ok ((vs ++ [w]) ++ ws) S5) _ E
                  rw [List.append_assoc]; exact h5
                | err z S5 => rw [hy] at h5; exact h5
                | bad => rw [hy] at h5; exact h5.elim
              · exact h3.elim
        · have e' : i = it.items.length := by omega
          subst e'
          rw [List.drop_length, yieldZ] at h2
          have h2 : PostL T X.K R2 F2 (vs ++ []) S2 (fun us H' => ∀ σ', D.nx us σ' H') := h2
          rw [List.append_nil] at h2
          exact .inl ⟨wz.stops R2 F2 H' S2 p2.1 ex2 r2 hh2, PostL.here r2 rv2 h2 σ'⟩
    · exact h.elim
end
end Z
end
end
section
set_option Elab.async false
set_option linter.all false
set_option maxRecDepth 100000
set_option maxHeartbeats 2000000
/-! YM: generator defs, list(g(..)). -/
noncomputable section
namespace Z
open PySem PySem.Spec PyProof.Rows L2 GenW

def spGz (T : Tb) (K : PySem.W.Frag) (n : Nat) (d : List PV → Sto → Out (List PV)) : SpG := fun vs H cont E => vs.length = n ∧ ∃ R F S xs, Rep T K R F S H ∧ RelL T K R F xs vs ∧ OkL T K R F (d xs S) cont E
section
variable {T : Tb} {P : Program} {w : World} {K : PySem.W.Frag} {mg : Str → Option Value} {base : Heap} {x qual : Str} {params : Arguments} {body : List Stmt} {scope : Scope} {kws : List (Str × V)} {f : Addr} {fd : FuncData} {N ps : List Str} {k : Nat} {g : DGn}
theorem gen_of (G : FunD K x qual params body scope [] kws f fd) (S : GScope N ps scope)
    (hb : ∀ (cdv : Value) (A : Around) (outer : List Env) (s : Shared) (H : Hp) (E : XK) (pn : List (Addr × Obj)), Cg0 (gcxOf P w K mg base N qual scope f cdv A outer s H E pn) (fun _ => E) k → JGn T (gcxOf P w K mg base N qual scope f cdv A outer s H E pn) E body g) :
    GFn P w K mg base (k + 1) f fd ps (spGz T K ps.length (dGen ps.length N.length g)) := by
  obtain ⟨oc, od, dV, kV, doc, pm, an, cdv, ct, osl, rfl, lk, hcd, _, _⟩ := G.ex
  refine gfn_of lk hcd S (fun vs H Q E h => h.1) fun A outer s H vs Q E pn hr hsp => ?_
  have cg : Cg0 (gcxOf P w K mg base N qual scope f cdv A outer s H E pn) (fun _ => E) k := ⟨rfl, S.nd, hr, takes_gcx, owns_gcx⟩
  refine ⟨_, hb cdv A outer s H E pn cg, ?_⟩
  obtain ⟨hl, R, F, S', xs, r, rx, h⟩ := hsp
  have hx : xs.length = ps.length := by rw [← rx.length]; exact hl
  unfold dGen at h
  rw [if_pos hx] at h
  refine ⟨rfl, R, F, _, S', r, rel_start rx, ?_⟩
  rw [hx]
  cases hg : g (xs.map some ++ List.replicate (N.length - ps.length) none) S' with
  | ok us S1 =>
    rw [hg] at h
    exact fun R' F' H' vs' p' x' r' rv σ' => h R' F' H' vs' p' x' r' rv
  | err z S1 => rw [hg] at h; exact h
  | bad => rw [hg] at h; exact h.elim
structure GenV (T : Tb) (P : Program) (w : World) (K : PySem.W.Frag) (mg : Str → Option Value) (base : Heap) (k : Nat) (x : Str) (n : Nat) (d : List PV → Sto → Out (List PV)) : Prop where
  ex : ∃ (f : Addr) (fd : FuncData) (ps : List Str), mg x = some (.ref f) ∧ PySem.W.keepIn K (.ref f) = true ∧ ps.length = n ∧ GFn P w K mg base k f fd ps (spGz T K n d) ∧ Binds K fd ps []
end
/-- errors that end no iterator -/
def nsB (T : Tb) (l : List Nat) (K : PySem.W.Frag) : Bool := l.all fun c => decide (PySem.W.subIn K (.ref (T.ca K c)) (.type "StopIteration") = some false)
def onlyX (l : List Nat) {α : Type} (o : Out α) : Out α := match o with
  | .err e S => if e.c ∈ l then .err e S else .bad
  | o => o
def dListG (l : List Nat) (n : Nat) (mk : List PV → Sto → Out PV) (d : List PV → Sto → Out (List PV)) (ar : DA) : DE := fun lc S => (ar lc S).bind fun xs S1 => if xs.length = n then (onlyX l (d xs S1)).bind fun ys S2 => mk ys S2 else .bad
section
variable {T : Tb} {X : Cx} {E : XK} {x : Str} {n j k : Nat} {e : Expr} {es : List Expr} {ar : DA} {d : List PV → Sto → Out (List PV)} {p p2 pos pos' : Pos} {l : List Nat} {mk : List PV → Sto → Out PV}
theorem je_listG (cg : Cg X (fun _ => E) k) (F : GenV T X.prog X.w X.K X.mg X.base j x n d) (hns : nsB T l X.K = true)
    (hmk : ∀ {E : XK} {K : PySem.W.Frag} {R : Pl} {F H : Hp} {S : Sto} {xs : List PV} {us : List V} {Q : VK}, Rep T K R F S H → RelL T K R F xs us → OkV T K R F (mk xs S) Q E → us.length ≤ sizeLine ∧ ∀ q, H q = none → Q (.ref q) (upd H q (.lst us)))
    (hmg : X.mg "list" = none) (ha : JA T X (fun _ => E) (e :: es) ar) (hj : j + 3 ≤ k := by decide) (hg : Gl X x := by rfl) (hgl : Gl X "list" := by rfl) (hdb : (x == ("__debug__" : Str)) = false := by decide)
    (he : starEach (e :: es) X.env = (false, eval e X.env) :: starEach es X.env := by rfl) (hpl : (backTo pos' (starEach es X.env)).any (·.1) = false := by rfl)
    (he2 : starEach [.Call (.Name x p) (e :: es) [] pos'] X.env = (false, eval (.Call (.Name x p) (e :: es) [] pos') X.env) :: starEach [] X.env := by rfl) :
    JE T X (fun _ => E) (.Call (.Name "list" p2) [.Call (.Name x p) (e :: es) [] pos'] [] pos) (dListG l n mk d ar) := by
  obtain ⟨f, fd, ps, hm, hk, hn, G, hb⟩ := F.ex
  let E' : XK := fun cls dd H => E cls dd H ∧ PySem.W.subIn X.K cls (.type "StopIteration") = some false
  have hx : Passes (L2.CX X.prog X.w) X E' := fun pins σ H s e s' I q => cg.pass pins σ H s e s' I (by
    obtain ⟨a, B, H', cls, d, z1, fl, z2, ub, z3, z4, z5, z6⟩ := q
    exact ⟨a, B, H', cls, d, z1, fl, z2, ub, z3, z4, z5, z6.1⟩)
  have key := pe_listG (pos := pos) (p := p2) (nm := "list") (pgen_call (pos' := pos') (p := p) (E := E') G (cg.room.mono (Nat.le_trans (by omega) hj)) hg hm hk hb .nil ha hdb he hpl) hx (fun cls d H h => h.2) (cg.room.mono hj) hgl hmg (by rfl) (by decide) (by decide) he2
  refine pe_imp key fun σ H Q ⟨R, Fz, lc, S, r, e', h⟩ => ?_
  have h : OkV T X.K R Fz ((ar lc S).bind fun xs S1 => if xs.length = n then (onlyX l (d xs S1)).bind fun ys S2 => mk ys S2 else .bad) Q E := h
  show tL T X.K (fun _ => E) ar σ H _
  refine seqL (goV T X.K E Q) r e' h fun xs S1 R1 F1 H1 us p ex r1 rx e1 h1 => ?_
  have h1 : OkV T X.K R1 F1 (if xs.length = n then (onlyX l (d xs S1)).bind fun ys S2 => mk ys S2 else .bad) Q E := h1
  split at h1
  · rename_i hl
    refine ⟨by rw [List.append_nil, rx.length]; exact hl, R1, F1, S1, xs, r1, by rw [List.append_nil]; exact rx, ?_⟩
    cases hd : d xs S1 with
    | bad => rw [hd] at h1; exact h1.elim
    | err z S2 =>
      rw [hd] at h1
      have h1 : OkV T X.K R1 F1 ((if z.c ∈ l then (.err z S2 : Out (List PV)) else .bad).bind fun ys S2 => mk ys S2) Q E := h1
      split at h1
      · rename_i hz
        have hns' := of_decide_eq_true (List.all_eq_true.mp hns z.c hz)
        intro R' F' H' cls dd p' x' r' rx'
        exact ⟨h1 R' F' H' cls dd p' x' r' rx', by rw [rx'.1]; exact hns'⟩
      · exact h1.elim
    | ok ys S2 =>
      rw [hd] at h1
      have h1 : OkV T X.K R1 F1 (mk ys S2) Q E := h1
      exact fun R' F' H' vs p' x' r' rv q hq => (hmk r' rv (OkV.mono p' x' h1)).2 q hq
  · exact h1.elim
end
end Z
end
end
section
set_option Elab.async false
set_option linter.all false
set_option maxRecDepth 100000
set_option maxHeartbeats 1000000
/-! YO: dict displays with keys of any kind. -/
noncomputable section
namespace Z
open PySem PySem.Spec PyProof.Rows L2

/-- the pairs are put, one after the other -/
def putsZ (D : Addr) : List (V × V) → Hp → (Hp → Prop) → Prop
  | [], H, C => C H
  | (k, v) :: r, H, C => ∃ H', DPutZ H D k v H' ∧ putsZ D r H' C
def tDispG (trs : List (TE × TE)) : TE := fun σ H Q => ∀ p, H p = none → tPairs trs σ (upd H p (.dK [])) fun ps H2 => putsZ p ps H2 fun H3 => Q (.ref p) H3
section
variable {X : Cx} {pins : List (Addr × Obj)} {σ : L2.St}
theorem puts_ok {E : Value → Shared → Prop} {D : Addr} (hu : X.A.units < cLine) {C : Hp → Prop} {Q : PUnit → Shared → Prop} : ∀ {ps : List (V × V)} {vs : List (Value × Value)} {H : Hp} {s : Shared}, Inv X pins σ H s → VV ps vs → putsZ D ps H C → (∀ G s', Inv X pins σ G s' → C G → Q PUnit.unit s') →
    wpAny (model X.prog X.w) X.A (forIn vs PUnit.unit fun (x : Value × Value) (_ : PUnit) => (do dictSet D x.1 x.2; pure (ForInStep.yield PUnit.unit) : Sem (ForInStep PUnit))) Q E s
  | [], _, H, s, I, .nil, h, hQ => by
    rw [List.forIn_nil]
    exact wpAny_pure (hQ _ _ I h)
  | (k, v) :: ps, _, H, s, I, .cons (b := q) (l₂ := vs) ⟨rk, rv⟩ rel, ⟨H', hp, h⟩, hQ => by
    rw [List.forIn_cons]
    exact wpAny_bind (wpAny_bind (z_dictSet hu I hp rk rv fun s' J => wpAny_pure (puts_ok hu J rel h hQ)))
theorem pe_dispG {pos : Pos} {keys : List (Option Expr)} {values : List Expr} {trs : List (TE × TE)} (hu : X.A.units < cLine) (h : PPs X pos keys values trs) (hall : keys.all (·.isSome) = true) (hl : keys.length = values.length) (h0 : keys ≠ [])
    (h15 : keys.length ≤ 15) : L2.PE X (.Dict keys values pos) (tDispG trs) := by
  refine ⟨fun pins s σ H Q I q => ?_⟩
  have hn := I.hok.fresh (Nat.le_refl s.heap.objs.size)
  have I1 := I.laid (a := s.heap.objs.size) (o := .dK []) (h' := s.heap.push { cls := .type "dict", data := .dict #[] }) (t' := s.toks) (fun _ _ q => Heap.get?_push_of_some _ q) (Nat.le_refl _) (dk_empty s.heap I.big)
  have hn2 := pairTrees_length keys values X.env pos hall hl
  rw [arm_eval_Dict, zip_pairTrees keys values X.env pos hall hl, dictDisplay_pairs _ (fun z => h0 (List.length_eq_zero_iff.mp (by rw [← hn2, z]; rfl))) (by omega)]
  refine wpAny_bind (wpAny_standAt (wpAny_bind ?_))
  unfold subDict
  refine wpAny_bind (wpAny_alloc ?_)
  refine wpAny_bind (wpAny_holding ?_)
  rw [if_pos (by omega)]
  refine wpAny_bind (thn (h.run pins _ σ _ _ I1 (q _ hn)) fun ws s2 ⟨ps, H2, I2, rel, q2⟩ => ?_)
  refine wpAny_holding (wpAny_bind (puts_ok hu I2 rel q2 fun G s3 J q3 => wpAny_pure (wpAny_pure (wpAny_pure ?_))))
  exact ⟨.ref s.heap.objs.size, G, J, rfl, q3⟩
end
/-- keys and values in a row, put into a dict -/
def foldK : List PV → DSt → Option DSt
  | [], a => some a
  | k :: v :: r, a => match (keyOf k).bind fun q => dStep a q v with
    | some a' => foldK r a'
    | none => none
  | [_], _ => none
/-- {k: v, ..}, keys of any kind -/
def dDispG (prs : List (DE × DE)) : DE := fun l S => match dKvs prs l S with
  | .ok xs S1 => (match foldK xs (false, [], []) with
    | some a => .ok (.nd (.dct a.1 a.2.1) a.2.2) S1
    | none => .bad)
  | _ => .bad
def dDispGM (prs : List (DE × DE)) : DE := fun l S => match dKvs prs l S with
  | .ok xs S1 => (match foldK xs (false, [], []) with
    | some a => .ok (.ref S1.length) (S1 ++ [some (.dct a.1 a.2.1, a.2.2)])
    | none => .bad)
  | _ => .bad
theorem foldK_rel {T : Tb} {K : PySem.W.Frag} {as : List Addr} {hid : List (Addr × HO)} {F : Hp} {S : Sto} {D : Addr} {Q : VK} : ∀ (n : Nat) {xs : List PV} {us : List V} {ps : List (V × V)} {a a9 : DSt} {o : HO} {ws : List V} {H : Hp}, xs.length ≤ n →
    Rep T K ⟨as, (D, o) :: hid⟩ F S H → DRep a.1 a.2.1 o ws → RelL T K ⟨as, hid⟩ F a.2.2 ws → RelL T K ⟨as, hid⟩ F xs us → flat2 ps = us → foldK xs a = some a9 → FinD T K as hid F D Q a9 S → putsZ D ps H fun H3 => Q (.ref D) H3
  | _, [], us, ps, a, a9, o, ws, H, _, r, d, rw', rx, e, hf, hq => by
    rw [RelL] at rx
    subst rx
    cases ps with
    | cons p ps => obtain ⟨x, y⟩ := p; cases e
    | nil => cases hf; exact hq as F H o ws (List.prefix_refl _) (Ex.refl F) r d rw'
  | _, [_], us, ps, a, a9, o, ws, H, _, r, d, rw', rx, e, hf, hq => by cases hf
  | 0, _ :: _ :: _, us, ps, a, a9, o, ws, H, hn, r, d, rw', rx, e, hf, hq => absurd hn (by simp)
  | n + 1, k :: v :: xs, us, ps, a, a9, o, ws, H, hn, r, d, rw', rx, e, hf, hq => by
    rw [RelL] at rx
    obtain ⟨u, us1, rfl, r1, rx⟩ := rx
    rw [RelL] at rx
    obtain ⟨u2, us2, rfl, r2, rx⟩ := rx
    cases ps with
    | nil => cases e
    | cons p ps =>
      obtain ⟨x, y⟩ := p
      injection e with e1 e
      injection e with e2 e
      subst e1 e2
      rw [foldK] at hf
      split at hf
      · rename_i a' ha'
        rw [Option.bind_eq_some_iff] at ha'
        obtain ⟨q, hkq, hst⟩ := ha'
        have d8 := (r.hid (D, o) List.mem_cons_self).1
        obtain ⟨o', us', g1, g2, g3⟩ := dStep_rel (w := y) r d8 d (r1.mono0 (R' := ⟨as, (D, o) :: hid⟩) (List.prefix_refl as) (Ex.refl F)) hkq hst
        exact ⟨_, g1, foldK_rel n (by simp at hn; omega) (r.rehide g2.nt) g2 (g3 _ _ rw' r2) rx e hf hq⟩
      · cases hf
section
variable {T : Tb} {X : Cx} {E : XS} {pos : Pos} {k : Nat}
theorem disp_t {prs : List (DE × DE)} {f : DSt → Sto → Out PV} {σ : L2.St} {H : Hp} {Q : VK} (h : tV T X.K E (fun l S => match dKvs prs l S with
  | .ok xs S1 => (match foldK xs (false, [], []) with
    | some a => f a S1
    | none => .bad)
  | _ => .bad) σ H Q) (hk : ∀ (a : DSt) (S : Sto) (R : Pl) (F : Hp) (D : Addr), OkV T X.K R F (f a S) Q (E σ) → FinD T X.K R.as R.hid F D Q a S) : tDispG (prs.map fun p => (tV T X.K E00 p.1, tV T X.K E00 p.2)) σ H Q := by
  obtain ⟨R, F, l, S, r, re, q⟩ := h
  intro p hp
  have hp0 : R.as <+: (Pl.mk R.as ((p, .dK []) :: R.hid)).as := List.prefix_refl R.as
  refine kvs_t prs σ _ _ ⟨⟨R.as, (p, .dK []) :: R.hid⟩, F, l, S, r.hide hp, re.mono0 hp0 (Ex.refl F), ?_⟩
  show OkL T X.K _ F (dKvs prs l S) _ _
  cases hd : dKvs prs l S with
  | bad => simp only [hd] at q; exact q.elim
  | err z S1 => simp only [hd] at q; exact q.elim
  | ok xs S1 =>
    simp only [hd] at q
    cases hs : foldK xs (false, [], []) with
    | none => simp only [hs] at q; exact q.elim
    | some a9 =>
      simp only [hs] at q
      intro R1 F1 H1 us le ex r1 rx ps hps
      obtain ⟨as1, hid1⟩ := R1
      obtain ⟨pa, pb⟩ := le
      have pb : hid1 = (p, .dK []) :: R.hid := pb
      have pa : R.as <+: as1 := pa
      subst pb
      have hq : FinD T X.K as1 R.hid F1 p Q a9 S1 := hk a9 S1 ⟨as1, R.hid⟩ F1 p (OkV.mono (R := R) (R1 := ⟨as1, R.hid⟩) ⟨pa, rfl⟩ ex q)
      exact foldK_rel xs.length (Nat.le_refl _) r1 ⟨rfl, .inl ⟨rfl, [], rfl, rfl⟩⟩ (by rw [RelL]) (rx.sh (List.prefix_refl _) (Ex.refl F1)) hps hs hq
theorem je_dispG {keys : List (Option Expr)} {values : List Expr} (prs : List (DE × DE)) (g : Cg X E k) (h : PPs X pos keys values (prs.map fun p => (tV T X.K E00 p.1, tV T X.K E00 p.2)))
    (hall : keys.all (·.isSome) = true := by rfl) (hl : keys.length = values.length := by rfl) (h0 : keys ≠ [] := by exact fun z => nomatch z) (h15 : keys.length ≤ 15 := by decide) : JE T X E (.Dict keys values pos) (dDispG prs) :=
  pe_imp (pe_dispG g.room.units0 h hall hl h0 h15) fun σ H Q q => disp_t q fun a S R F D h => find_nd h
theorem je_dispGM {keys : List (Option Expr)} {values : List Expr} (prs : List (DE × DE)) (g : Cg X E k) (h : PPs X pos keys values (prs.map fun p => (tV T X.K E00 p.1, tV T X.K E00 p.2)))
    (hall : keys.all (·.isSome) = true := by rfl) (hl : keys.length = values.length := by rfl) (h0 : keys ≠ [] := by exact fun z => nomatch z) (h15 : keys.length ≤ 15 := by decide) : JE T X E (.Dict keys values pos) (dDispGM prs) :=
  pe_imp (pe_dispG g.room.units0 h hall hl h0 h15) fun σ H Q q => disp_t q fun a S R F D h => find_rf h
end
end Z
end
end
section
set_option Elab.async false
set_option linter.all false
set_option maxRecDepth 100000
set_option maxHeartbeats 1000000
/-! YP: zip(*texts), each tuple kept by a name. -/
noncomputable section
namespace Z
open PySem PySem.Spec PyProof.Rows L2

abbrev zipO (f0 f1 : Value) (TI TO : Addr) : Obj := { cls := .type "zip", dict := none, data := .fields #[f0, f1, .bool false, .ref TI, .ref TO], slots := #[] }
abbrev tupV (vs : List Value) : Obj := { cls := .type "tuple", data := .seq vs.toArray }
abbrev itRefs (n0 m : Nat) : List Value := (List.range m).map fun k => .ref (n0 + k)
theorem addne {a b c : Nat} (h : b ≠ c) : a + b ≠ a + c := by omega
theorem outne {n0 m j c : Nat} (h : c < n0 ∨ n0 + m ≤ c) (hj : j < m) : c ≠ n0 + j := by omega
/-- the iterators, the first j of them one step on -/
def ItsAt (h : Heap) (n0 : Nat) (zs : List Str) (i j : Nat) : Prop := ∀ k x, zs[k]? = some x → ∃ t, h.IsStrIter (n0 + k) (PySem.strIterType x) x t (if k < j then i + 1 else i)
/-- the i-th signs of the first j texts -/
def CharsAt (zs : List Str) (i j : Nat) (vs : List Value) : Prop := ∀ k x, k < j → zs[k]? = some x → ∃ c u, x.cps[i]? = some c ∧ vs[k]? = some (.str ⟨#[c]⟩ u)
structure ZnAt (h : Heap) (n0 : Nat) (zs : List Str) (i : Nat) : Prop where
  z : ∃ f0 b, (f0 = .none ∨ ∃ k : Nat, f0 = rawInt k) ∧ h.get? (n0 + zs.length + 2) = some (zipO f0 (.bool b) (n0 + zs.length) (n0 + zs.length + 1))
  ti : h.get? (n0 + zs.length) = some (tupV (itRefs n0 zs.length))
  to : ∃ vs : List Value, vs.length = zs.length ∧ h.get? (n0 + zs.length + 1) = some (tupV vs)
  it : ItsAt h n0 zs i 0
theorem ItsAt.keep {h h' : Heap} {n0 : Nat} {zs : List Str} {i j : Nat} (a : ItsAt h n0 zs i j) (k : ∀ q o, q < zs.length → h.get? (n0 + q) = some o → h'.get? (n0 + q) = some o) : ItsAt h' n0 zs i j := fun q x hq => by
  obtain ⟨t, o, ho, r⟩ := a q x hq
  exact ⟨t, o, k q o (List.getElem?_eq_some_iff.mp hq).1 ho, r⟩
section
variable {prog : Program} {w : World} {A : Around} {E : Value → Shared → Prop} {s : Shared} {n0 i : Nat} {zs : List Str}
/-- one iterator is drawn from -/
theorem draw_it {j : Nat} {x : Str} {Q : Value → Shared → Prop} (hh : A.handled = none) (hx : zs[j]? = some x) (hi : i < x.cps.size) (a : ItsAt s.heap n0 zs i j)
    (hQ : ∀ c u h' tk, x.cps[i]? = some c → ItsAt h' n0 zs i (j + 1) → Heap.SameBut (n0 + j) s.heap h' → Q (.str ⟨#[c]⟩ u) { s with heap := h', toks := tk }) : wpAny (model prog w) A (Builtin.SmallTypes.nextOf (.ref (n0 + j))) Q E s := by
  obtain ⟨t, st⟩ := a j x hx
  rw [if_neg (Nat.lt_irrefl j)] at st
  refine (Draws.text (prog := prog) (w := w) (A := A) hh (n0 + j) x t).item i s Q E hi st fun v h' tk hv st' hs => ?_
  obtain ⟨c, u, hc, rfl⟩ := hv
  refine hQ c u h' tk hc (fun k y hy => ?_) hs
  by_cases e : k = j
  · subst e
    rw [hx] at hy
    cases hy
    exact ⟨t, by rw [if_pos (Nat.lt_succ_self k)]; exact st'⟩
  · obtain ⟨t2, o, ho, r⟩ := a k y hy
    refine ⟨t2, o, hs.extBut _ _ (addne e) ho, ?_⟩
    by_cases l : k < j
    · rw [if_pos l] at r; rw [if_pos (Nat.lt_succ_of_lt l)]; exact r
    · rw [if_neg l] at r; rw [if_neg (fun z => (Nat.lt_succ_iff_lt_or_eq.mp z).elim l e)]; exact r
/-- nothing else is changed -/
def OthN (n0 m : Nat) (h h' : Heap) : Prop := h'.objs.size = h.objs.size ∧ ∀ c o, c < n0 ∨ n0 + m ≤ c → h.get? c = some o → h'.get? c = some o
theorem OthN.step {m j : Nat} {h h1 h2 : Heap} (a : OthN n0 m h h1) (b : Heap.SameBut (n0 + j) h1 h2) (hj : j < m) : OthN n0 m h h2 := ⟨by rw [b.1, a.1], fun c o hc q => b.extBut _ _ (outne hc hj) (a.2 c o hc q)⟩
theorem OthN.skip {m : Nat} {h h1 h2 : Heap} {c0 : Nat} (a : OthN n0 m h h1) (b : Heap.SameBut c0 h1 h2) : h2.objs.size = h.objs.size ∧ ∀ c o, c ≠ c0 → (c < n0 ∨ n0 + m ≤ c) → h.get? c = some o → h2.get? c = some o := ⟨by rw [b.1, a.1], fun c o ne hc q => b.extBut _ _ ne (a.2 c o hc q)⟩
theorem drop_at {j : Nat} (hlt : j < zs.length) {v : Value} {rest : List Value} (hr : v :: rest = (itRefs n0 zs.length).drop j) : v = .ref (n0 + j) ∧ rest = (itRefs n0 zs.length).drop (j + 1) := by
  rw [List.drop_eq_getElem_cons (by simpa using hlt)] at hr
  injection hr with h1 h2
  exact ⟨by rw [h1]; simp, h2⟩
theorem CharsAt.snoc {j : Nat} {vs : List Value} {x : Str} {c : Nat} {u : Tok} (ch : CharsAt zs i j vs) (hl : vs.length = j) (hx : zs[j]? = some x) (hc : x.cps[i]? = some c) : CharsAt zs i (j + 1) (vs ++ [.str ⟨#[c]⟩ u]) := fun k y hk hy => by
  by_cases e : k = j
  · subst e
    rw [hx] at hy
    cases hy
    exact ⟨c, u, hc, by rw [List.getElem?_append_right (by omega)]; simp [hl]⟩
  · obtain ⟨c', u', q1, q2⟩ := ch k y (by omega) hy
    exact ⟨c', u', q1, by rw [List.getElem?_append_left (by omega)]; exact q2⟩
/-- the road where the last tuple is still out -/
theorem loopB {Q : Option PySem.Fin × Array Value → Shared → Prop} (hh : A.handled = none) (hi : ∀ x ∈ zs, i < x.cps.size) (a : ItsAt s.heap n0 zs i 0)
    (hQ : ∀ vs h' tk, vs.length = zs.length → CharsAt zs i zs.length vs → ItsAt h' n0 zs i zs.length → OthN n0 zs.length s.heap h' → Q (none, vs.toArray) { s with heap := h', toks := tk })
    {F : Value → Option PySem.Fin × Array Value → Sem (ForInStep (Option PySem.Fin × Array Value))}
    (hF : ∀ v acc Qf s1, wpAny (model prog w) A (Builtin.SmallTypes.nextOf v) (fun x s' => Qf (.yield (none, acc.push x)) s') E s1 → wpAny (model prog w) A (F v (none, acc)) Qf E s1) :
    wpAny (model prog w) A (forIn (itRefs n0 zs.length) (none, #[]) F) Q E s := by
  refine wpAny_forIn_list F (fun rest b s' => ∃ j vs h' tk, rest = (itRefs n0 zs.length).drop j ∧ j ≤ zs.length ∧ b = (none, List.toArray vs) ∧ vs.length = j ∧ CharsAt zs i j vs ∧ ItsAt h' n0 zs i j ∧ OthN n0 zs.length s.heap h' ∧ s' = { s with heap := h', toks := tk }) Q ?_ ?_ _ _ ⟨0, [], s.heap, s.toks, rfl, Nat.zero_le _, rfl, rfl, fun k x hk => absurd hk (Nat.not_lt_zero k), a, ⟨rfl, fun c o _ q => q⟩, rfl⟩
  · rintro v rest b s' ⟨j, vs, h', tk, hr, hj, rfl, hl, ch, ia, ot, rfl⟩
    have hlt : j < zs.length := by
      rcases Nat.lt_or_ge j zs.length with z | z
      · exact z
      · rw [List.drop_of_length_le (by simpa using z)] at hr; cases hr
    obtain ⟨rfl, rfl⟩ := drop_at hlt hr
    have hx : zs[j]? = some zs[j] := List.getElem?_eq_getElem hlt
    refine hF _ _ _ _ (draw_it hh hx (hi _ (List.getElem_mem hlt)) ia fun c u h2 tk2 hc ia2 sb => ?_)
    exact ⟨j + 1, vs ++ [.str ⟨#[c]⟩ u], h2, tk2, rfl, hlt, by simp, by simp [hl], ch.snoc hl hx hc, ia2, ot.step sb hlt, rfl⟩
  · rintro b s' ⟨j, vs, h', tk, hr, hj, rfl, hl, ch, ia, ot, rfl⟩
    have e : j = zs.length := by
      rcases Nat.lt_or_ge j zs.length with z | z
      · rw [List.drop_eq_getElem_cons (by simpa using z)] at hr; cases hr
      · omega
    subst e
    exact hQ vs h' tk hl ch ia ot
/-- what stands besides the iterators and the tuple that is written -/
def OthA (n0 m : Nat) (h h' : Heap) : Prop := h'.objs.size = h.objs.size ∧ ∀ c o, (c < n0 ∨ n0 + m ≤ c) → c ≠ n0 + m + 1 → h.get? c = some o → h'.get? c = some o
theorem OthA.it {m j : Nat} {h h1 h2 : Heap} (a : OthA n0 m h h1) (b : Heap.SameBut (n0 + j) h1 h2) (hj : j < m) : OthA n0 m h h2 := ⟨by rw [b.1, a.1], fun c o hc e q => b.extBut _ _ (outne hc hj) (a.2 c o hc e q)⟩
theorem OthA.to {m : Nat} {h h1 h2 : Heap} (a : OthA n0 m h h1) (b : Heap.SameBut (n0 + m + 1) h1 h2) : OthA n0 m h h2 := ⟨by rw [b.1, a.1], fun c o hc e q => b.extBut _ _ e (a.2 c o hc e q)⟩
theorem toNe {m k : Nat} (h : k < m) : n0 + k ≠ n0 + m + 1 := by omega
theorem CharsAt.put {j : Nat} {vs : List Value} {x : Str} {c : Nat} {u : Tok} (ch : CharsAt zs i j vs) (hl : j < vs.length) (hx : zs[j]? = some x) (hc : x.cps[i]? = some c) : CharsAt zs i (j + 1) (vs.set j (.str ⟨#[c]⟩ u)) := fun k y hk hy => by
  by_cases e : k = j
  · subst e
    rw [hx] at hy
    cases hy
    exact ⟨c, u, hc, by rw [List.getElem?_set_self hl]⟩
  · obtain ⟨c', u', q1, q2⟩ := ch k y (by omega) hy
    exact ⟨c', u', q1, by rw [List.getElem?_set_ne (fun z => e z.symm)]; exact q2⟩
/-- the road where the tuple of the zip's own is written anew -/
theorem loopA {Q : Option PySem.Fin × PUnit → Shared → Prop} (hh : A.handled = none) (hi : ∀ x ∈ zs, i < x.cps.size) (a : ItsAt s.heap n0 zs i 0) {ov : List Value} (hov : ov.length = zs.length) (hTO : s.heap.get? (n0 + zs.length + 1) = some (tupV ov))
    (hQ : ∀ vs h' tk, vs.length = zs.length → CharsAt zs i zs.length vs → ItsAt h' n0 zs i zs.length → h'.get? (n0 + zs.length + 1) = some (tupV vs) → OthA n0 zs.length s.heap h' → Q (none, ()) { s with heap := h', toks := tk })
    {F : Value × Nat → Option PySem.Fin × PUnit → Sem (ForInStep (Option PySem.Fin × PUnit))}
    (hF : ∀ v k Qf s1, (∀ E', wpAny (model prog w) A (Builtin.SmallTypes.nextOf v) (fun x s' => ∃ vs, vs.length = zs.length ∧ s'.heap.get? (n0 + zs.length + 1) = some (tupV vs) ∧ ∀ h', h'.get? (n0 + zs.length + 1) = some (tupV (vs.set k x)) → Heap.SameBut (n0 + zs.length + 1) s'.heap h' → Qf (.yield (none, ())) { s' with heap := h' }) E' s1) → wpAny (model prog w) A (F (v, k) (none, ())) Qf E s1) :
    wpAny (model prog w) A (forIn ((itRefs n0 zs.length).zipIdx) (none, ()) F) Q E s := by
  refine wpAny_forIn_list F (fun rest b s' => ∃ j vs h' tk, rest = ((itRefs n0 zs.length).zipIdx).drop j ∧ j ≤ zs.length ∧ b = (none, ()) ∧ vs.length = zs.length ∧ CharsAt zs i j vs ∧ ItsAt h' n0 zs i j ∧ h'.get? (n0 + zs.length + 1) = some (tupV vs) ∧ OthA n0 zs.length s.heap h' ∧ s' = { s with heap := h', toks := tk }) Q ?_ ?_ _ _ ⟨0, ov, s.heap, s.toks, rfl, Nat.zero_le _, rfl, hov, fun k x hk => absurd hk (Nat.not_lt_zero k), a, hTO, ⟨rfl, fun c o _ _ q => q⟩, rfl⟩
  · rintro v rest b s' ⟨j, vs, h', tk, hr, hj, rfl, hl, ch, ia, to, ot, rfl⟩
    have hlt : j < zs.length := by
      rcases Nat.lt_or_ge j zs.length with z | z
      · exact z
      · rw [List.drop_of_length_le (by simpa using z)] at hr; cases hr
    have hv : v = (.ref (n0 + j), j) ∧ rest = ((itRefs n0 zs.length).zipIdx).drop (j + 1) := by
      rw [List.drop_eq_getElem_cons (by simpa using hlt)] at hr
      injection hr with h1 h2
      exact ⟨by rw [h1]; simp, h2⟩
    obtain ⟨rfl, rfl⟩ := hv
    have hx : zs[j]? = some zs[j] := List.getElem?_eq_getElem hlt
    refine hF _ _ _ _ fun E' => draw_it hh hx (hi _ (List.getElem_mem hlt)) ia fun c u h2 tk2 hc ia2 sb => ?_
    refine ⟨vs, hl, sb.extBut _ _ (fun z => toNe hlt z.symm) to, fun h3 to3 sb3 => ⟨j + 1, vs.set j (.str ⟨#[c]⟩ u), h3, tk2, rfl, hlt, rfl, by simp [hl], ch.put (by omega) hx hc, ia2.keep fun q o hq e => sb3.extBut _ _ (toNe hq) e, to3, (ot.it sb hlt).to sb3, rfl⟩⟩
  · rintro b s' ⟨j, vs, h', tk, hr, hj, rfl, hl, ch, ia, to, ot, rfl⟩
    have e : j = zs.length := by
      rcases Nat.lt_or_ge j zs.length with z | z
      · rw [List.drop_eq_getElem_cons (by simpa using z)] at hr; cases hr
      · omega
    subst e
    exact hQ vs h' tk hl ch ia to ot
theorem ItsAt.next {h : Heap} (a : ItsAt h n0 zs i zs.length) : ItsAt h n0 zs (i + 1) 0 := fun k x hx => by
  obtain ⟨t, st⟩ := a k x hx
  rw [if_pos (List.getElem?_eq_some_iff.mp hx).1] at st
  exact ⟨t, by rw [if_neg (Nat.not_lt_zero k)]; exact st⟩
theorem alive_any {a : Addr} {Q : Option Obj → Shared → Prop} (h : Q (s.heap.get? a) s) : wpAny (model prog w) A (loadIfAlive a) Q E s := fun _ _ _ => h
theorem owned_zip {z TI TO : Addr} {f0 : Value} {b : Bool} {Q : Bool → Shared → Prop} (hf : f0 = .none ∨ ∃ k : Nat, f0 = rawInt k) (hz : s.heap.get? z = some (zipO f0 (.bool b) TI TO)) (h1 : Q true s)
    (h2 : ∀ h' b', h'.get? z = some (zipO f0 (.bool b') TI TO) → Heap.SameBut z s.heap h' → Q false { s with heap := h' }) : wpAny (model prog w) A (Builtin.SmallTypes.ownedTupleIsFree (.ref z)) Q E s := by
  unfold Builtin.SmallTypes.ownedTupleIsFree
  rcases hf with rfl | ⟨k, rfl⟩
  · exact wpAny_bind (wpAny_field hz rfl (x := .none) rfl (wpAny_pure h1))
  · refine wpAny_bind (wpAny_field hz rfl (x := rawInt k) rfl ?_)
    show wpAny _ _ (loadIfAlive ((k : Int).toNat) >>= _) _ _ _
    refine wpAny_bind (alive_any ?_)
    cases s.heap.get? ((k : Int).toNat) with
    | none => exact wpAny_pure h1
    | some o =>
      simp only [Option.isNone_some, Bool.false_eq_true, if_false]
      refine wpAny_bind (wpAny_field hz rfl (x := .bool b) rfl ?_)
      cases b with
      | true =>
        rw [if_neg (show ¬ ((Value.bool true != Value.bool true) = true) from Bool.false_ne_true)]
        exact wpAny_pure (h2 s.heap true hz (Heap.SameBut.refl _ _))
      | false =>
        rw [if_pos (show (Value.bool false != Value.bool true) = true from rfl)]
        exact wpAny_bind (wpAny_setField_rec hz (by simp) fun h₁ hz₁ hs₁ => wpAny_pure (h2 h₁ true hz₁ hs₁))
theorem offz {m c : Nat} (h : c < n0 ∨ n0 + m + 2 < c) : c ≠ n0 + m + 2 := by omega
theorem offt {m c : Nat} (h : c < n0 ∨ n0 + m + 2 < c) : c ≠ n0 + m + 1 := by omega
theorem offi {m c : Nat} (h : c < n0 ∨ n0 + m + 2 < c) : c < n0 ∨ n0 + m ≤ c := by omega
theorem toz {m : Nat} : n0 + m + 1 ≠ n0 + m + 2 := by omega
theorem tiz {m : Nat} : n0 + m ≠ n0 + m + 2 := by omega
theorem tito {m : Nat} : n0 + m ≠ n0 + m + 1 := by omega
theorem zNe {m k : Nat} (h : k < m) : n0 + k ≠ n0 + m + 2 := by omega
theorem next_item {Q : Value → Shared → Prop} (hh : A.handled = none) (hi : ∀ x ∈ zs, i < x.cps.size) (h0 : zs ≠ []) (hz9 : zs.length ≤ sizeLine) (a : ZnAt s.heap n0 zs i)
    (hQ : ∀ vs h' tk, vs.length = zs.length → CharsAt zs i zs.length vs → ZnAt h' n0 zs (i + 1) → h'.get? s.heap.objs.size = some (tupV vs) → h'.objs.size = s.heap.objs.size + 1 →
      (∀ c o, c < n0 ∨ n0 + zs.length + 2 < c → s.heap.get? c = some o → h'.get? c = some o) → Q (.ref s.heap.objs.size) { s with heap := h', toks := tk }) :
    wpAny (model prog w) A (Builtin.«zip.__next__» ⟨[.ref (n0 + zs.length + 2)], []⟩) (fun fin s' => ∃ v, fin = .done (.ret v) ∧ Q v s') E s := by
  obtain ⟨⟨f0, b, hf, hz⟩, hTI, ⟨ov, hov, hTO⟩, hit⟩ := a
  show wpAny _ _ (field (.ref (n0 + zs.length + 2)) 2 >>= _) _ _ _
  refine wpAny_bind (wpAny_field hz rfl (x := .bool false) rfl ?_)
  show wpAny _ _ (field (.ref (n0 + zs.length + 2)) 3 >>= _) _ _ _
  refine wpAny_bind (wpAny_field hz rfl (x := .ref (n0 + zs.length)) rfl ?_)
  refine wpAny_bind (wpAny_seqItems hTI rfl ?_)
  have hne : (itRefs n0 zs.length).toArray.isEmpty = false := by
    cases zs with
    | nil => exact absurd rfl h0
    | cons y ys => simp [itRefs, List.range_succ_eq_map]
  simp only [hne, Bool.false_eq_true, if_false]
  show wpAny _ _ (Builtin.SmallTypes.ownedTupleIsFree (.ref (n0 + zs.length + 2)) >>= _) _ _ _
  refine wpAny_bind (owned_zip hf hz ?_ fun h1 b1 hz1 hs1 => ?_)
  · -- the tuple is the zip's own
    simp only [if_true]
    refine wpAny_bind (wpAny_rule ?_)
    refine wpAny_bind (wpAny_field hz rfl (x := .ref (n0 + zs.length + 1)) rfl ?_)
    refine wpAny_bind (wpAny_setField_rec hz (by simp) fun g0 hz0 hs0 => ?_)
    replace hz0 : g0.get? (n0 + zs.length + 2) = some (zipO .ellipsis (.bool b) (n0 + zs.length) (n0 + zs.length + 1)) := hz0
    have it0 : ItsAt g0 n0 zs i 0 := hit.keep fun q o hq e => hs0.extBut _ _ (zNe hq) e
    have to0 : g0.get? (n0 + zs.length + 1) = some (tupV ov) := hs0.extBut _ _ toz hTO
    refine wpAny_bind (loopA (s := { s with heap := g0 }) hh hi it0 hov to0 (fun vs h' tk hl ch ia to ot => ?_) fun v k Qf s1 hn => ?_)
    · refine wpAny_bind (wpAny_seqItems (s := { s with heap := h', toks := tk }) to rfl ?_)
      refine wpAny_bind (wpAny_newTuple (hsz := by simpa [hl] using hz9) ?_)
      have hsz : h'.objs.size = s.heap.objs.size := by rw [ot.1]; exact hs0.1
      have hz4 : h'.get? (n0 + zs.length + 2) = some (zipO .ellipsis (.bool b) (n0 + zs.length) (n0 + zs.length + 1)) := ot.2 _ _ (.inr (by omega)) (fun z => toz z.symm) hz0
      have ti4 : h'.get? (n0 + zs.length) = some (tupV (itRefs n0 zs.length)) := ot.2 _ _ (.inr (Nat.le_refl _)) tito (hs0.extBut _ _ tiz hTI)
      show wpAny _ _ (Builtin.SmallTypes.ownedTupleHandOut (.ref (n0 + zs.length + 2)) (.ref h'.objs.size) >>= _) _ _ { s with heap := h'.push (tupV vs), toks := tk }
      refine wpAny_bind ?_
      unfold Builtin.SmallTypes.ownedTupleHandOut
      have hz5 : (h'.push (tupV vs)).get? (n0 + zs.length + 2) = some (zipO .ellipsis (.bool b) (n0 + zs.length) (n0 + zs.length + 1)) := Heap.get?_push_of_some _ hz4
      refine wpAny_bind (wpAny_setField_rec hz5 (by simp) fun h6 hz6 hs6 => ?_)
      replace hz6 : h6.get? (n0 + zs.length + 2) = some (zipO (rawInt (h'.objs.size : Nat)) (.bool b) (n0 + zs.length) (n0 + zs.length + 1)) := hz6
      replace hs6 : Heap.SameBut (n0 + zs.length + 2) (h'.push (tupV vs)) h6 := hs6
      refine wpAny_setField_rec hz6 (by simp) fun h7 hz7 hs7 => ?_
      replace hz7 : h7.get? (n0 + zs.length + 2) = some (zipO (rawInt (h'.objs.size : Nat)) (.bool false) (n0 + zs.length) (n0 + zs.length + 1)) := hz7
      replace hs7 : Heap.SameBut (n0 + zs.length + 2) h6 h7 := hs7
      have up : ∀ c o, c ≠ n0 + zs.length + 2 → h'.get? c = some o → h7.get? c = some o := fun c o e q => hs7.extBut _ _ e (hs6.extBut _ _ e (Heap.get?_push_of_some _ q))
      have zlt : n0 + zs.length + 2 < h'.objs.size := Heap.lt_size hz4
      have hT : h7.get? h'.objs.size = some (tupV vs) := hs7.extBut _ _ (Nat.ne_of_gt zlt) (hs6.extBut _ _ (Nat.ne_of_gt zlt) (Heap.get?_push_size _ rfl))
      have hs9 : h7.objs.size = h'.objs.size + 1 := by rw [hs7.1, hs6.1, Heap.size_push]
      have zn : ZnAt h7 n0 zs (i + 1) := ⟨⟨_, _, .inr ⟨_, rfl⟩, hz7⟩, up _ _ tiz ti4, ⟨vs, hl, up _ _ toz to⟩, (ia.next).keep fun q o hq e => up _ _ (zNe hq) e⟩
      refine wpAny_pure ⟨_, rfl, ?_⟩
      rw [hsz] at hT hs9
      show Q (.ref h'.objs.size) { s with heap := h7, toks := tk }
      rw [hsz]
      exact hQ vs h7 tk hl ch zn hT hs9 fun c o hc q => up c o (offz hc) (ot.2 c o (offi hc) (offt hc) (hs0.extBut _ _ (offz hc) q))
    · refine wpAny_bind (wpAny_onRaise ?_)
      show wpAny _ _ (Builtin.SmallTypes.nextOf v >>= _) _ _ s1
      refine wpAny_bind (thn (hn _) fun x s2 ⟨vs, h1, h2, h3⟩ => wpAny_pure ?_)
      refine wpAny_bind (wpAny_seqItems h2 rfl ?_)
      refine wpAny_bind (wpAny_updateSeq (hz := by simpa [h1] using hz9) (_hz' := by have := hz9; simp [h1]; omega) h2 rfl ?_)
      refine wpAny_bind (wpAny_letGo (wpAny_pure (h3 _ ?_ (Heap.SameBut.update ..))))
      rw [Heap.get?_update_self _ h2 rfl]
      simp [Obj.mapSeq]
  · simp only [Bool.false_eq_true, if_false]
    have it1 : ItsAt h1 n0 zs i 0 := hit.keep fun q o hq e => hs1.extBut _ _ (zNe hq) e
    refine wpAny_bind ?_
    rw [← Array.forIn_toList]
    refine loopB (s := { s with heap := h1 }) hh hi it1 (fun vs h' tk hl ch ia ot => ?_) fun v acc Qf s1 hn => ?_
    · refine wpAny_bind (wpAny_newTuple (hsz := by simpa [hl] using hz9) ?_)
      have hsz : h'.objs.size = s.heap.objs.size := by rw [ot.1]; exact hs1.1
      have hz4 : h'.get? (n0 + zs.length + 2) = some (zipO f0 (.bool b1) (n0 + zs.length) (n0 + zs.length + 1)) := ot.2 _ _ (.inr (by omega)) hz1
      have zn : ZnAt (h'.push (tupV vs)) n0 zs (i + 1) := ⟨⟨_, _, hf, Heap.get?_push_of_some _ hz4⟩, Heap.get?_push_of_some _ (ot.2 _ _ (.inr (Nat.le_refl _)) (hs1.extBut _ _ tiz hTI)), ⟨ov, hov, Heap.get?_push_of_some _ (ot.2 _ _ (.inr (by omega)) (hs1.extBut _ _ toz hTO))⟩, (ia.next).keep fun q o hq e => Heap.get?_push_of_some _ e⟩
      refine wpAny_pure ⟨_, rfl, ?_⟩
      have hT : (h'.push (tupV vs)).get? h'.objs.size = some (tupV vs) := Heap.get?_push_size _ rfl
      have hs9 : (h'.push (tupV vs)).objs.size = h'.objs.size + 1 := Heap.size_push ..
      rw [hsz] at hT hs9
      show Q (.ref h'.objs.size) { s with heap := h'.push (tupV vs), toks := tk }
      rw [hsz]
      exact hQ vs _ tk hl ch zn hT hs9 fun c o hc q => Heap.get?_push_of_some _ (ot.2 c o (offi hc) (hs1.extBut _ _ (offz hc) q))
    · refine wpAny_bind (wpAny_holding ?_)
      show wpAny _ _ (Builtin.SmallTypes.nextOf v >>= _) _ _ s1
      exact wpAny_bind (thn hn fun x s' q => wpAny_pure (wpAny_pure q))
theorem itRefs_cons {m : Nat} : itRefs n0 (m + 1) = .ref n0 :: (List.range m).map fun k => .ref (n0 + (k + 1)) := by
  unfold itRefs
  rw [List.range_succ_eq_map, List.map_cons, List.map_map]
  rfl
theorem next_end {x0 : Str} {r : List Str} {Q : PySem.Fin → Shared → Prop} (hh : A.handled = none) (hi : i = x0.cps.size) (a : ZnAt s.heap n0 (x0 :: r) i)
    (hE : ∀ h' tk e, (∀ c o, c < n0 ∨ n0 + (x0 :: r).length + 2 < c → s.heap.get? c = some o → h'.get? c = some o) → (∃ o, h'.get? e = some o ∧ o.cls = .type "StopIteration") → E (.ref e) { s with heap := h', toks := tk }) :
    wpAny (model prog w) A (Builtin.«zip.__next__» ⟨[.ref (n0 + (x0 :: r).length + 2)], []⟩) Q E s := by
  obtain ⟨⟨f0, b, hf, hz⟩, hTI, ⟨ov, hov, hTO⟩, hit⟩ := a
  show wpAny _ _ (field (.ref (n0 + (x0 :: r).length + 2)) 2 >>= _) _ _ _
  refine wpAny_bind (wpAny_field hz rfl (x := .bool false) rfl ?_)
  show wpAny _ _ (field (.ref (n0 + (x0 :: r).length + 2)) 3 >>= _) _ _ _
  refine wpAny_bind (wpAny_field hz rfl (x := .ref (n0 + (x0 :: r).length)) rfl ?_)
  refine wpAny_bind (wpAny_seqItems hTI rfl ?_)
  have hne : (itRefs n0 (x0 :: r).length).toArray.isEmpty = false := by rw [List.length_cons, itRefs_cons]; rfl
  simp only [hne, Bool.false_eq_true, if_false]
  show wpAny _ _ (Builtin.SmallTypes.ownedTupleIsFree (.ref (n0 + (x0 :: r).length + 2)) >>= _) _ _ _
  obtain ⟨t, st⟩ := hit 0 x0 rfl
  rw [if_neg (Nat.lt_irrefl 0), hi] at st
  replace st : s.heap.IsStrIter n0 (PySem.strIterType x0) x0 t x0.cps.size := st
  have D : Draws prog w A n0 [n0] x0.cps.size _ _ := Draws.text hh n0 x0 t
  have nz : n0 ≠ n0 + (x0 :: r).length + 2 := by omega
  refine wpAny_bind (owned_zip hf hz ?_ fun h1 b1 hz1 hs1 => ?_)
  · simp only [if_true]
    refine wpAny_bind (wpAny_rule ?_)
    refine wpAny_bind (wpAny_field hz rfl (x := .ref (n0 + (x0 :: r).length + 1)) rfl ?_)
    refine wpAny_bind (wpAny_setField_rec hz (by simp) fun g0 hz0 hs0 => ?_)
    replace hz0 : g0.get? (n0 + (x0 :: r).length + 2) = some (zipO .ellipsis (.bool b) (n0 + (x0 :: r).length) (n0 + (x0 :: r).length + 1)) := hz0
    replace hs0 : Heap.SameBut (n0 + (x0 :: r).length + 2) s.heap g0 := hs0
    refine wpAny_bind ?_
    rw [show (itRefs n0 (x0 :: r).length).zipIdx = (.ref n0, 0) :: ((List.range r.length).map fun k => Value.ref (n0 + (k + 1))).zipIdx 1 from by rw [List.length_cons, itRefs_cons]; rfl, List.forIn_cons]
    refine wpAny_bind (wpAny_bind (wpAny_onRaise ?_))
    show wpAny _ _ (Builtin.SmallTypes.nextOf (.ref n0) >>= _) _ _ { s with heap := g0 }
    refine wpAny_bind (D.done { s with heap := g0 } _ _ (D.frame _ _ _ st fun c hc o q => hs0.extBut _ _ (by rw [List.mem_singleton.mp hc]; exact nz) q) fun q e hq he => ?_)
    replace hq : Heap.ExtBut n0 g0 q := hq
    obtain ⟨oe, hoe, hce⟩ := he
    replace hoe : q.get? e = some oe := hoe
    have hzq := hq _ _ (Ne.symm nz) hz0
    have hez : e ≠ n0 + (x0 :: r).length + 2 := fun z => by rw [z, hzq] at hoe; cases hoe; simp at hce
    refine wpAny_setField_rec (s := { s with heap := q }) hzq (by simp) fun q' _ hq' => ?_
    replace hq' : Heap.SameBut (n0 + (x0 :: r).length + 2) q q' := hq'
    exact hE q' s.toks e (fun c o hc k => hq'.extBut _ _ (offz hc) (hq _ _ (fun z => by rw [z] at hc; omega) (hs0.extBut _ _ (offz hc) k))) ⟨oe, hq'.extBut _ _ hez hoe, hce⟩
  · simp only [Bool.false_eq_true, if_false]
    refine wpAny_bind ?_
    rw [← Array.forIn_toList]
    show wpAny _ _ (forIn (itRefs n0 (x0 :: r).length) _ _) _ _ _
    rw [List.length_cons, itRefs_cons, List.forIn_cons]
    refine wpAny_bind (wpAny_bind (wpAny_holding ?_))
    show wpAny _ _ (Builtin.SmallTypes.nextOf (.ref n0) >>= _) _ _ { s with heap := h1 }
    refine wpAny_bind (D.done { s with heap := h1 } _ _ (D.frame _ _ _ st fun c hc o q => hs1.extBut _ _ (by rw [List.mem_singleton.mp hc]; exact nz) q) fun q e hq he => ?_)
    exact hE q s.toks e (fun c o hc k => hq _ _ (fun z => by rw [z] at hc; omega) (hs1.extBut _ _ (offz hc) k)) he
theorem next_nil {Q : PySem.Fin → Shared → Prop} (hh : A.handled = none) (a : ZnAt s.heap n0 [] i)
    (hE : ∀ h' tk e, (∀ c o, c < n0 ∨ n0 + ([] : List Str).length + 2 < c → s.heap.get? c = some o → h'.get? c = some o) → (∃ o, h'.get? e = some o ∧ o.cls = .type "StopIteration") → E (.ref e) { s with heap := h', toks := tk }) :
    wpAny (model prog w) A (Builtin.«zip.__next__» ⟨[.ref (n0 + ([] : List Str).length + 2)], []⟩) Q E s := by
  obtain ⟨⟨f0, b, hf, hz⟩, hTI, ⟨ov, hov, hTO⟩, hit⟩ := a
  show wpAny _ _ (field (.ref (n0 + ([] : List Str).length + 2)) 2 >>= _) _ _ _
  refine wpAny_bind (wpAny_field hz rfl (x := .bool false) rfl ?_)
  show wpAny _ _ (field (.ref (n0 + ([] : List Str).length + 2)) 3 >>= _) _ _ _
  refine wpAny_bind (wpAny_field hz rfl (x := .ref (n0 + ([] : List Str).length)) rfl ?_)
  refine wpAny_bind (wpAny_seqItems hTI rfl ?_)
  show wpAny _ _ (rule _ >>= fun _ => Builtin.SmallTypes.stopIteration >>= _) _ _ _
  refine wpAny_bind (wpAny_rule (wpAny_bind ?_))
  show wpAny _ _ (newExc (.type "StopIteration") [] >>= _) _ _ _
  refine wpAny_bind ?_
  simp only [newExc, newTuple]
  refine wpAny_bind (wpAny_newObj_type ?_ (by size_fits))
  refine wpAny_bind (m := firstArgMember _ _) (wpAny_of_eq (a := Value.none) (by first | rfl | (simp only [firstArgMember]; rfl)) ?_)
  refine wpAny_newObj_type ?_ (by size_fits)
  simp only [raiseNew]
  refine wpAny_bind (wpAny_handled ?_)
  rw [hh]
  exact wpAny_throw (hE _ s.toks _ (fun c o _ q => Heap.get?_push_of_some _ (Heap.get?_push_of_some _ q)) ⟨_, Heap.get?_push_size _ rfl, rfl⟩)
theorem pyn_item {Q : Option Value → Shared → Prop} (hh : A.in1.handled = none) (hi : ∀ x ∈ zs, i < x.cps.size) (h0 : zs ≠ []) (hz9 : zs.length ≤ sizeLine) (a : ZnAt s.heap n0 zs i)
    (hQ : ∀ vs h' tk, vs.length = zs.length → CharsAt zs i zs.length vs → ZnAt h' n0 zs (i + 1) → h'.get? s.heap.objs.size = some (tupV vs) → h'.objs.size = s.heap.objs.size + 1 →
      (∀ c o, c < n0 ∨ n0 + zs.length + 2 < c → s.heap.get? c = some o → h'.get? c = some o) → Q (some (.ref s.heap.objs.size)) { s with heap := h', toks := tk }) :
    wpAny (model prog w) A (pyNext (.ref (n0 + zs.length + 2))) Q E s := by
  obtain ⟨f0, b, hf, hz⟩ := a.z
  have hT : s.TypeIs (.ref (n0 + zs.length + 2)) "zip" := ⟨_, hz, rfl⟩
  unfold pyNext
  exact wpAny_bind (wpAny_attempt (wpAny_callSpecial?_slot (name := Str.ofString "__next__") hT F.slot_zip_next
    (wpAny_call_entry F.slot_zip_next hT F.entry_zip_next (next_item hh hi h0 hz9 a fun vs h' tk q1 q2 q3 q4 q5 q6 => wpAny_pure (hQ vs h' tk q1 q2 q3 q4 q5 q6)) (F.args_zip_next_1 _))))
theorem pyn_end {Q : Option Value → Shared → Prop} (hh : A.in1.handled = none) (hi : zs = [] ∨ ∃ x0 r, zs = x0 :: r ∧ i = x0.cps.size) (a : ZnAt s.heap n0 zs i)
    (hQ : ∀ h' tk, (∀ c o, c < n0 ∨ n0 + zs.length + 2 < c → s.heap.get? c = some o → h'.get? c = some o) → Q none { s with heap := h', toks := tk }) :
    wpAny (model prog w) A (pyNext (.ref (n0 + zs.length + 2))) Q E s := by
  obtain ⟨f0, b, hf, hz⟩ := a.z
  have hT : s.TypeIs (.ref (n0 + zs.length + 2)) "zip" := ⟨_, hz, rfl⟩
  unfold pyNext
  have fin : ∀ h' tk e, (∀ c o, c < n0 ∨ n0 + zs.length + 2 < c → s.heap.get? c = some o → h'.get? c = some o) → (∃ o, h'.get? e = some o ∧ o.cls = .type "StopIteration") → wpAny (model prog w) A (do if (← isInstance (.ref e) (.type "StopIteration")) = true then pure none else throw (.ref e) : Sem (Option Value)) Q E { s with heap := h', toks := tk } := fun h' tk e hk he => by
    obtain ⟨o, ho, hc⟩ := he
    exact wpAny_bind (wpAny_isInstance (T := "StopIteration") (b := true) ⟨o, ho, hc⟩ isSubtype_stop (wpAny_pure (hQ _ _ hk)))
  refine wpAny_bind (wpAny_attempt (wpAny_callSpecial?_slot (name := Str.ofString "__next__") hT F.slot_zip_next
    (wpAny_call_entry F.slot_zip_next hT F.entry_zip_next ?_ (F.args_zip_next_1 _))))
  rcases hi with rfl | ⟨x0, r, rfl, hi⟩
  · exact next_nil hh a fin
  · exact next_end hh hi a fin
end
/-- the i-th sign -/
def sgnAt (i : Nat) (x : Str) : Str := ⟨#[x.cps.getD i 0]⟩
def ItzN (zs : List Str) : It :=
  ⟨fun i _ => zs ≠ [] ∧ ∀ x ∈ zs, i < x.cps.size, fun i H v H' => ∃ T, v = .ref T ∧ H T = none ∧ H' = upd H T (.tup (zs.map fun x => V.str (sgnAt i x))), fun i _ => zs = [] ∨ ∃ x0 r, zs = x0 :: r ∧ i = x0.cps.size⟩
theorem vals_at : ∀ {xs : List V} {us : List Value}, xs.length = us.length → (∀ (k : Nat) (v : V) (u : Value), xs[k]? = some v → us[k]? = some u → RelV v u) → Vals xs us
  | [], [], _, _ => .nil
  | x :: xs, u :: us, h, k => .cons (k 0 x u rfl rfl) (vals_at (by simpa using h) fun j v w hv hw => k (j + 1) v w (by simpa using hv) (by simpa using hw))
  | [], _ :: _, h, _ => by simp at h
  | _ :: _, [], h, _ => by simp at h
theorem chars_vals {zs : List Str} {i : Nat} {vs : List Value} (hl : vs.length = zs.length) (ch : CharsAt zs i zs.length vs) : Vals (zs.map fun x => V.str (sgnAt i x)) vs := by
  refine vals_at (by rw [List.length_map, hl]) fun k v u hv hu => ?_
  rw [List.getElem?_map, Option.map_eq_some_iff] at hv
  obtain ⟨x, hx, rfl⟩ := hv
  obtain ⟨c, t, h1, h2⟩ := ch k x (List.getElem?_eq_some_iff.mp hx).1 hx
  rw [h2] at hu
  cases hu
  refine ⟨t, ?_⟩
  unfold sgnAt
  rw [Array.getD_eq_getD_getElem?, h1]
  rfl
theorem mem_fp {n0 m c : Nat} : c ∈ (List.range (m + 3)).map (n0 + ·) ↔ n0 ≤ c ∧ c ≤ n0 + m + 2 := by
  rw [List.mem_map]
  constructor
  · rintro ⟨k, hk, rfl⟩
    rw [List.mem_range] at hk
    omega
  · rintro ⟨h1, h2⟩
    exact ⟨c - n0, by rw [List.mem_range]; omega, by omega⟩
theorem cnear {n0 m c : Nat} (h1 : n0 ≤ c) (h2 : c ≤ n0 + m + 2) (e0 : ¬ c = n0 + m) (e1 : ¬ c = n0 + m + 1) (e2 : ¬ c = n0 + m + 2) : c - n0 < m := by omega
theorem turn_zipN {P : Program} {w : World} {K : PySem.W.Frag} {y : Str} {yp : Pos} {n0 : Nat} {zs : List Str} (hz9 : zs.length ≤ sizeLine) :
    Turn P w K (.Name y yp) (ItzN zs) ((List.range (zs.length + 3)).map (n0 + ·)) (n0 + zs.length + 2) (fun i h => ZnAt h n0 zs i) where
  mem := mem_fp.mpr ⟨by omega, Nat.le_refl _⟩
  obj := fun i h a c hc => by
    obtain ⟨h1, h2⟩ := mem_fp.mp hc
    obtain ⟨f0, b, hf, hz⟩ := a.z
    by_cases e2 : c = n0 + zs.length + 2
    · subst e2; exact ⟨_, hz, fun v q => nomatch q⟩
    · by_cases e1 : c = n0 + zs.length + 1
      · obtain ⟨vs, _, h⟩ := a.to
        subst e1; exact ⟨_, h, fun v q => nomatch q⟩
      · by_cases e0 : c = n0 + zs.length
        · subst e0; exact ⟨_, a.ti, fun v q => nomatch q⟩
        · have hk : c - n0 < zs.length := cnear h1 h2 e0 e1 e2
          obtain ⟨t, o, ho, _, hd⟩ := a.it (c - n0) _ (List.getElem?_eq_getElem hk)
          rw [show n0 + (c - n0) = c from Nat.add_sub_cancel' h1] at ho
          exact ⟨o, ho, fun v q => by rw [hd] at q; cases q⟩
  keep := fun i h h' a k => by
    have kk : ∀ c : Nat, n0 ≤ c → c ≤ n0 + zs.length + 2 → ∀ o, h.get? c = some o → h'.get? c = some o := fun c h1 h2 o q => k c (mem_fp.mpr ⟨h1, h2⟩) o q
    obtain ⟨⟨f0, b, hf, hz⟩, ti, ⟨vs, hl, to⟩, it⟩ := a
    exact ⟨⟨f0, b, hf, kk _ (by omega) (Nat.le_refl _) _ hz⟩, kk _ (by omega) (by omega) _ ti, ⟨vs, hl, kk _ (by omega) (by omega) _ to⟩, it.keep fun q o hq e => kk _ (by omega) (by omega) _ e⟩
  item := by
    intro X hP hw hK hc i pins s σ H E I hf a hg
    subst hP hw hK
    obtain ⟨h0, hi⟩ := hg
    have hh : X.A.in1.handled = none := I.ok.hd hc
    refine pyn_item hh hi h0 hz9 a fun vs h' tk hl ch zn hT hs hk => ⟨_, rfl, wpAny_pure ?_⟩
    have new : ObjOk X.prog X.w (upd H s.heap.objs.size (.tup (zs.map fun x => V.str (sgnAt i x)))) h' s.heap.objs.size (.tup (zs.map fun x => V.str (sgnAt i x))) := ⟨by show (zs.map _).length ≤ sizeLine; rw [List.length_map]; exact hz9, vs, chars_vals hl ch, ⟨_, hT, rfl, _, rfl⟩⟩
    have I1 : Inv X pins σ (upd H s.heap.objs.size (.tup (zs.map fun x => V.str (sgnAt i x)))) { s with heap := h', toks := tk } :=
      I.turnedNew (ch := (List.range (zs.length + 3)).map (n0 + ·)) (fun c o hb q => hk c o (Decidable.byContradiction fun z => hb (mem_fp.mpr (by omega))) q) hf (Nat.le_refl _) new
    refine ⟨.ref s.heap.objs.size, _, I1, rfl, ⟨_, rfl, I.hok.fresh (Nat.le_refl _), rfl⟩, zn, fun c hcm => ?_⟩
    obtain ⟨f0, b, _, hz⟩ := a.z
    have hlt : c < s.heap.objs.size := Nat.lt_of_le_of_lt (mem_fp.mp hcm).2 (Heap.lt_size hz)
    rw [upd_ne (Nat.ne_of_lt hlt)]
    exact (hf c hcm).1
  done := by
    intro X hP hw hK hc i pins s σ H E I hf a hg
    subst hP hw hK
    have hh : X.A.in1.handled = none := I.ok.hd hc
    exact pyn_end hh hg a fun h' tk hk => ⟨rfl, I.turnedL (ch := (List.range (zs.length + 3)).map (n0 + ·)) (fun c o hb q => hk c o (Decidable.byContradiction fun z => hb (mem_fp.mpr (by omega))) q) hf⟩
  self := fun A i s Q E a h => by
    obtain ⟨f0, b, _, hz⟩ := a.z
    have hT : s.TypeIs (.ref (n0 + zs.length + 2)) "zip" := ⟨_, hz, rfl⟩
    refine wpAny_pyIter_slot hT F.slot_zip_iter (wpAny_call_entry F.slot_zip_iter hT F.entry_zip_iter ?_ (F.args_zip_iter_1 _))
    show wpAny _ _ (ret (.ref (n0 + zs.length + 2))) _ _ s
    exact wpAny_pure ⟨_, rfl, "zip", _, hT, F.slot_zip_next.lookup, h⟩
end Z
end
end
section
set_option Elab.async false
set_option linter.all false
set_option maxRecDepth 100000
set_option maxHeartbeats 1000000
/-! YQ: zip(*texts) as what is walked. -/
noncomputable section
namespace Z
open PySem PySem.Spec PyProof.Rows L2
theorem tcz0 : checkTypeCall "zip" ⟨[], []⟩ = pure () := by kernel_rfl
theorem ncz0 : checkBuiltinCall "zip.__new__" ⟨[.type "zip"], []⟩ = pure () := by kernel_rfl
theorem tcz1 (a : Value) : checkTypeCall "zip" ⟨[a], []⟩ = pure () := by kernel_rfl
theorem ncz1 (a : Value) : checkBuiltinCall "zip.__new__" ⟨[.type "zip", a], []⟩ = pure () := by kernel_rfl
abbrev hz0T (h : Heap) : Heap := h.push (tupV [])
abbrev hz0O (h : Heap) : Heap := (hz0T h).push (tupV [])
abbrev hz0Z (h : Heap) : Heap := (hz0O h).push (zipO .none (.bool false) h.objs.size (hz0T h).objs.size)
theorem meets_zip0 : Meets (Builtin.«zip.__new__» ⟨[.type "zip"], []⟩) (fun _ R s => R (.ok (.ret (.ref (hz0O s.heap).objs.size))) { s with heap := hz0Z s.heap }) :=
  .of_wp fun prog w A R s h => by
    obtain ⟨hp, g, d, tk, os⟩ := s
    have hsub := sub_zip
    wp_walk
    exact ⟨_, rfl, h⟩
abbrev hz1T (h : Heap) (o : Obj) : Heap := (h.push o).push (tupV [.ref h.objs.size])
abbrev hz1O (h : Heap) (o : Obj) : Heap := (hz1T h o).push (tupV [.none])
abbrev hz1Z (h : Heap) (o : Obj) : Heap := (hz1O h o).push (zipO .none (.bool false) (h.push o).objs.size (hz1T h o).objs.size)
theorem meets_zip1 {v : Value} {o : Obj} {H : Heap → Prop} (B : Begins v o H) : Meets (Builtin.«zip.__new__» ⟨[.type "zip", v], []⟩) (fun _ R s => H s.heap ∧ R (.ok (.ret (.ref (hz1O s.heap o).objs.size))) { s with heap := hz1Z s.heap o }) :=
  .of_wp fun prog w A R s h => by
    obtain ⟨hp, g, d, tk, os⟩ := s; obtain ⟨h1, h⟩ := h
    have hsub := sub_zip
    have q1 : ∀ {A' : Around} {E : Value → Shared → Prop} {Q : Value → Shared → Prop}, Q (.ref hp.objs.size) ⟨(hp.push o), g, d, tk, os⟩ → wpAny (model prog w) A' (pyIter v) Q E ⟨hp, g, d, tk, os⟩ :=
      fun q => B.iter prog w _ _ ⟨hp, g, d, tk, os⟩ _ h1 q
    wp_walk using q1
    exact ⟨_, rfl, h⟩
/-- a text's iterator, new -/
abbrev siO (x : Str) (t : Tok) : Obj := { cls := .type (PySem.strIterType x), data := .fields #[.str x t, .int 0 0] }
theorem its_cons {h : Heap} {n0 : Nat} {x : Str} {zs : List Str} {t : Tok} (h0 : h.get? n0 = some (siO x t)) (hr : ItsAt h (n0 + 1) zs 0 0) : ItsAt h n0 (x :: zs) 0 0 := fun k y hy => by
  cases k with
  | zero => cases hy; exact ⟨t, _, h0, rfl, rfl⟩
  | succ k =>
    obtain ⟨t', st⟩ := hr k y (by simpa using hy)
    rw [show n0 + 1 + k = n0 + (k + 1) by omega] at st
    exact ⟨t', by simpa using st⟩
theorem its_nil {h : Heap} {n0 : Nat} : ItsAt h n0 [] 0 0 := fun k y hy => by simp at hy
section
variable {prog : Program} {w : World} {A : Around} {E : Value → Shared → Prop} {s : Shared}
theorem vals_nil {us : List Value} (h : Vals [] us) : us = [] := by cases h; rfl
theorem vals_head {v : V} {r : List V} {us : List Value} (h : Vals (v :: r) us) : ∃ u us', us = u :: us' ∧ RelV v u ∧ Vals r us' := by
  cases h with
  | cons a b => exact ⟨_, _, rfl, a, b⟩
theorem zip_new {zs : List Str} {us : List Value} {Q : Value → Shared → Prop} (hu : Vals (zs.map V.str) us) (h3 : zs.length ≤ 3)
    (h : ∀ h', ZnAt h' s.heap.objs.size zs 0 → (∀ c o, s.heap.get? c = some o → h'.get? c = some o) → Q (.ref (s.heap.objs.size + zs.length + 2)) { s with heap := h' }) : wpAny (model prog w) A (call (.type "zip") us) Q E s := by
  rcases zs with _ | ⟨x, _ | ⟨y, _ | ⟨z, _ | ⟨z4, r⟩⟩⟩⟩
  · obtain rfl := vals_nil hu
    refine callType_new F.called_zip (by decide) tcz0 ncz0 (fun obj => F.args_object_init_1 obj) F.entry_zip_new meets_zip0 ?_
    have zT : (hz0T s.heap).objs.size = s.heap.objs.size + 1 := by rw [Heap.size_push]
    have zO : (hz0O s.heap).objs.size = s.heap.objs.size + 2 := by rw [Heap.size_push, zT]
    have gZ : (hz0Z s.heap).get? (hz0O s.heap).objs.size = some (zipO .none (.bool false) s.heap.objs.size (hz0T s.heap).objs.size) := Heap.get?_push_size _ rfl
    have gO : (hz0Z s.heap).get? (hz0T s.heap).objs.size = some (tupV []) := Heap.get?_push_of_some _ (Heap.get?_push_size _ rfl)
    have gT : (hz0Z s.heap).get? s.heap.objs.size = some (tupV []) := Heap.get?_push_of_some _ (Heap.get?_push_of_some _ (Heap.get?_push_size _ rfl))
    rw [zO, zT] at gZ
    rw [zT] at gO
    show _ ∧ _
    rw [zO]
    exact ⟨⟨_, gZ, rfl⟩, h _ ⟨⟨_, _, .inl rfl, gZ⟩, gT, ⟨[], rfl, gO⟩, its_nil⟩ fun c o e => Heap.get?_push_of_some _ (Heap.get?_push_of_some _ (Heap.get?_push_of_some _ e))⟩
  · obtain ⟨_, u1, rfl, ⟨t, rfl⟩, hu1⟩ := vals_head hu
    obtain rfl := vals_nil hu1
    refine callType_new F.called_zip (by decide) (tcz1 _) (ncz1 _) (fun obj => F.args_object_init_2 obj _) F.entry_zip_new (meets_zip1 (begins_text x t)) ⟨trivial, ?_⟩
    have z1 : (s.heap.push (siO x t)).objs.size = s.heap.objs.size + 1 := by rw [Heap.size_push]
    have zT : (hz1T s.heap (siO x t)).objs.size = s.heap.objs.size + 2 := by rw [Heap.size_push, z1]
    have zO : (hz1O s.heap (siO x t)).objs.size = s.heap.objs.size + 3 := by rw [Heap.size_push, zT]
    have gZ : (hz1Z s.heap (siO x t)).get? (hz1O s.heap (siO x t)).objs.size = some (zipO .none (.bool false) (s.heap.push (siO x t)).objs.size (hz1T s.heap (siO x t)).objs.size) := Heap.get?_push_size _ rfl
    have gO : (hz1Z s.heap (siO x t)).get? (hz1T s.heap (siO x t)).objs.size = some (tupV [.none]) := Heap.get?_push_of_some _ (Heap.get?_push_size _ rfl)
    have gT : (hz1Z s.heap (siO x t)).get? (s.heap.push (siO x t)).objs.size = some (tupV [.ref s.heap.objs.size]) := Heap.get?_push_of_some _ (Heap.get?_push_of_some _ (Heap.get?_push_size _ rfl))
    have g1 : (hz1Z s.heap (siO x t)).get? s.heap.objs.size = some (siO x t) := Heap.get?_push_of_some _ (Heap.get?_push_of_some _ (Heap.get?_push_of_some _ (Heap.get?_push_size _ rfl)))
    rw [zO, zT, z1] at gZ
    rw [zT] at gO
    rw [z1] at gT
    show _ ∧ _
    rw [zO]
    exact ⟨⟨_, gZ, rfl⟩, h _ ⟨⟨_, _, .inl rfl, gZ⟩, gT, ⟨[.none], rfl, gO⟩, its_cons g1 its_nil⟩ fun c o e => Heap.get?_push_of_some _ (Heap.get?_push_of_some _ (Heap.get?_push_of_some _ (Heap.get?_push_of_some _ e)))⟩
  · obtain ⟨_, u1, rfl, ⟨t, rfl⟩, hu1⟩ := vals_head hu
    obtain ⟨_, u2, rfl, ⟨t2, rfl⟩, hu2⟩ := vals_head hu1
    obtain rfl := vals_nil hu2
    exact zip_begins2 (begins_text x t) (begins_text y t2) trivial trivial fun h' hz hTI hTO e1 e2 hsz hk => h h' ⟨⟨_, _, .inl rfl, hz⟩, hTI, ⟨[.none, .none], rfl, hTO⟩, its_cons e1 (its_cons e2 its_nil)⟩ hk
  · obtain ⟨_, u1, rfl, ⟨t, rfl⟩, hu1⟩ := vals_head hu
    obtain ⟨_, u2, rfl, ⟨t2, rfl⟩, hu2⟩ := vals_head hu1
    obtain ⟨_, u3, rfl, ⟨t3, rfl⟩, hu3⟩ := vals_head hu2
    obtain rfl := vals_nil hu3
    exact zip_begins3 (begins_text x t) (begins_text y t2) (begins_text z t3) trivial trivial trivial fun h' hz hTI hTO e1 e2 e3 hsz hk => h h' ⟨⟨_, _, .inl rfl, hz⟩, hTI, ⟨[.none, .none, .none], rfl, hTO⟩, its_cons e1 (its_cons e2 (its_cons e3 its_nil))⟩ hk
  · simp at h3
end
def iZipN (K : PySem.W.Frag) (te : TE) : TI := fun σ H R => te σ H fun y H1 => ∃ a zs, y = V.ref a ∧ (SqT K H1 a (zs.map V.str) ∨ SqL K H1 a (zs.map V.str)) ∧ zs.length ≤ 3 ∧ R (ItzN zs) H1
theorem pi_zipN {X : Cx} {e : Expr} {te : TE} {p sp_ pos yp : Pos} {y : Str} (hm : X.mg "zip" = none) (he : L2.PE X e te) (hg : Gl X "zip" := by rfl)
    (hst : starEach [.Starred e sp_] X.env = [(true, eval e X.env)] := by rfl) :
    PI X (.Name y yp) (.Call (.Name "zip" p) [.Starred e sp_] [] pos) (iZipN X.K te) := by
  refine ⟨fun pins s σ H R I h => ?_⟩
  refine Call_ (ld_blt I hg hm PyProof.Rows.boot_zip ?_)
  rw [hst]
  refine PySem.W.ks_call (P := fun _ => True) rfl (fun h _ => ⟨_, .inr (.inl rfl), PySem.W.Looks.now⟩) (PySem.W.ks_lone (thn (he.run pins s σ H _ I h) fun v s1 ⟨x, H1, I1, rx, a, zs, ex, hs, h3, q⟩ => ?_))
  subst ex
  obtain rfl : v = Value.ref a := rx
  refine StX.star_any I1 hs fun us s2 I2 rv => ⟨trivial, ?_⟩
  refine zip_new rv h3 fun h' zn hk => ?_
  have J : Inv X pins σ H1 { s2 with heap := h' } := I2.kept (t' := s2.toks) hk
  have T := turn_zipN (P := X.prog) (w := X.w) (K := X.K) (y := y) (yp := yp) (n0 := s2.heap.objs.size) (zs := zs) (Nat.le_trans h3 (by rw [sizeLine_eq]; decide))
  refine T.self X.A 0 _ _ _ zn ⟨_, _, _, _, H1, rfl, J, T, zn, fun c hc => ?_, q⟩
  exact I2.fpOk (mem_fp.mp hc).1 (I2.hok.fresh (mem_fp.mp hc).1)
/-- the texts -/
def strsOf : List PV → Option (List Str)
  | [] => some []
  | .str x :: r => (strsOf r).map (x :: ·)
  | _ :: _ => none
theorem strsOf_rel {T : Tb} {K : PySem.W.Frag} {R : Pl} {F : Hp} : ∀ {xs : List PV} {us : List V} {zs : List Str}, strsOf xs = some zs → RelL T K R F xs us → us = zs.map V.str
  | [], us, zs, h, r => by
    cases h
    rw [RelL] at r
    exact r
  | .str x :: xs, us, zs, h, r => by
    rw [strsOf, Option.map_eq_some_iff] at h
    obtain ⟨ys, hy, rfl⟩ := h
    rw [RelL] at r
    obtain ⟨u, us', rfl, r1, r2⟩ := r
    rw [strsOf_rel hy r2, rel_str r1]
    rfl
  | .non :: _, _, _, h, _ => by cases h
  | .bl _ :: _, _, _, h, _ => by cases h
  | .int _ :: _, _, _, h, _ => by cases h
  | .ty _ :: _, _, _, h, _ => by cases h
  | .cls _ :: _, _, _, h, _ => by cases h
  | .ref _ :: _, _, _, h, _ => by cases h
  | .nd _ _ :: _, _, _, h, _ => by cases h
def lenHd : List Str → Nat
  | [] => 0
  | x :: _ => x.cps.size
def zipNs (zs : List Str) : List PV := (List.range (lenHd zs)).map fun i => .nd .tup (zs.map fun x => .str (sgnAt i x))
/-- zip(*e), e some texts of one length, at most three -/
def dItZs (d : DE) : DI := fun l S => (d l S).bind fun x S1 => match (itemsOf x S1).bind strsOf with
  | some zs => if zs.length ≤ 3 ∧ zs.all (fun z => z.cps.size == lenHd zs) = true then .ok ⟨zipNs zs, []⟩ S1 else .bad
  | none => .bad
theorem rel_sgns {T : Tb} {K : PySem.W.Frag} {R : Pl} {F : Hp} (f : Str → Str) : ∀ (zs : List Str), RelL T K R F (zs.map fun x => PV.str (f x)) (zs.map fun x => V.str (f x))
  | [] => by rw [List.map_nil, List.map_nil, RelL]
  | z :: zs => by
    rw [List.map_cons, List.map_cons, RelL]
    exact ⟨_, _, rfl, by rw [Rel], rel_sgns f zs⟩
theorem ji_zipN {T : Tb} {X : Cx} {E : XS} {e : Expr} {de : DE} {p sp_ pos yp : Pos} {y : Str} (hm : X.mg "zip" = none) (he : JE T X E e de) (hg : Gl X "zip" := by rfl)
    (hst : starEach [.Starred e sp_] X.env = [(true, eval e X.env)] := by rfl) : JI T X E (.Name y yp) (.Call (.Name "zip" p) [.Starred e sp_] [] pos) (dItZs de) := by
  refine pi_imp (pi_zipN hm he hg hst) fun σ H Q ⟨R, F, l, S, r, re, h⟩ => ?_
  refine ⟨R, F, l, S, r, re, ?_⟩
  have h : OkI T X.K R F ((de l S).bind fun x S1 => match (itemsOf x S1).bind strsOf with
    | some zs => if zs.length ≤ 3 ∧ zs.all (fun z => z.cps.size == lenHd zs) = true then .ok ⟨zipNs zs, []⟩ S1 else .bad
    | none => .bad) Q (E σ) := h
  cases hd : de l S with
  | bad => rw [hd] at h; exact h.elim
  | err z S1 => rw [hd] at h; exact h
  | ok x S1 =>
    rw [hd] at h
    replace h : OkI T X.K R F (match (itemsOf x S1).bind strsOf with
      | some zs => if zs.length ≤ 3 ∧ zs.all (fun z => z.cps.size == lenHd zs) = true then .ok ⟨zipNs zs, []⟩ S1 else .bad
      | none => .bad) Q (E σ) := h
    cases hs : (itemsOf x S1).bind strsOf with
    | none => rw [hs] at h; exact h.elim
    | some zs =>
      rw [hs] at h
      simp only at h
      rw [Option.bind_eq_some_iff] at hs
      obtain ⟨xs, hx, hz⟩ := hs
      split at h
      · rename_i hc
        intro R1 F1 H1 u p1 ex r1 rx
        obtain ⟨a, us, rfl, q1, q2⟩ := itemsOf_rel r1 rx hx
        obtain rfl := strsOf_rel hz q2
        have hall : ∀ z ∈ zs, z.cps.size = lenHd zs := fun z hz => by simpa using List.all_eq_true.mp hc.2 z hz
        refine ⟨a, zs, rfl, q1, hc.1, h R1 F1 H1 _ p1 ex r1 ⟨fun i R F H S hi p e r hh => ?_, fun R F H S p e r hh => ?_, fun i R F H H' S v hi p e r hh y => ?_⟩⟩
        · have hi : i < (zipNs zs).length := hi
          unfold zipNs at hi
          rw [List.length_map, List.length_range] at hi
          refine ⟨fun z => by rw [z] at hi; exact absurd hi (Nat.not_lt_zero i), fun z hz => by rw [hall z hz]; exact hi⟩
        · show zs = [] ∨ ∃ x0 r, zs = x0 :: r ∧ (zipNs zs).length = x0.cps.size
          cases zs with
          | nil => exact .inl rfl
          | cons x0 r => exact .inr ⟨x0, r, rfl, by unfold zipNs; rw [List.length_map, List.length_range]; rfl⟩
        · obtain ⟨T', ev, hn, eH⟩ := y
          subst ev eH
          have hi : i < (zipNs zs).length := hi
          have e : Ex F (upd F T' (.tup (zs.map fun x => V.str (sgnAt i x)))) := ex_upd (r.fnone hn)
          refine ⟨_, .nd .tup (zs.map fun x => .str (sgnAt i x)), e, r.frozen hn, ?_, ?_⟩
          · show (zipNs zs)[i]? = _
            unfold zipNs at hi ⊢
            rw [List.length_map, List.length_range] at hi
            rw [List.getElem?_map, List.getElem?_range hi]
            rfl
          · rw [Rel]
            exact ⟨T', _, rfl, upd_same, rel_sgns (sgnAt i) zs⟩
      · exact h.elim
/-- f(), f all of whose places are taken by one star -/
theorem je_fnP0 {T : Tb} {X : Cx} {E : XS} {x : Str} {p pos : Pos} {d : DF} {j k : Nat} (cg : Cg X E k) (F : FnV T X.prog X.w X.K X.mg X.base j x d) (hj : j ≤ k := by decide) (hg : Gl X x := by rfl) (hdb : (x == ("__debug__" : Str)) = false := by decide) :
    JE T X E (.Call (.Name x p) [] [] pos) (fun _ S => d [] S) := by
  obtain ⟨f, hm, hk, G⟩ := F.ex
  refine ⟨fun pins s σ H Q I h => ?_⟩
  refine wpAny_Call_Name_kw (ld_glob I hg hm ?_ hdb)
  obtain ⟨R, Fz, l, S, r, e', h⟩ := h
  exact PySem.W.callWith_K0 I.kIn hk (run_fnp cg hj G I .nil (spP_of (xs := []) r (by rw [RelL]) h))
end Z
end
end
section
set_option Elab.async false
set_option linter.all false
set_option maxRecDepth 100000
set_option maxHeartbeats 1000000
/-! YR: >= of tuples. -/
noncomputable section
namespace Z
open PySem PySem.Spec PyProof.Rows L2
abbrev rGeD (K : PySem.W.Frag) : R2 := fun x y H Q => ∃ d e, Dp K H x d ∧ Dp K H y e ∧ PySem.W.alike d e = true ∧ d ≠ .none ∧ min d.depth e.depth ≤ 60 ∧ Q (.bl (!PySem.W.dataLt d e)) H
theorem op_geD {X : Cx} (hu : X.A.units + 64 < cLine) : OpR X (compareOp .GtE) (rGeD X.K) := by
  intro pins s σ H x y v u Q I rx ry h
  obtain ⟨d, e, hd, he, sd, se, hm, q⟩ := h
  obtain ⟨as, r1⟩ := Dp.reads I d x v hd rx
  obtain ⟨bs, r2⟩ := Dp.reads I e y u he ry
  exact PySem.W.ge_data r1 r2 sd se (by omega) ⟨.bl _, H, I, rfl, q⟩
def geX (x y : PV) (S : Sto) : Out PV := match x, y with
  | .nd .tup xs, .nd .tup ys => (match dat (.nd .tup xs), dat (.nd .tup ys) with
    | some d, some e => if PySem.W.alike d e = true ∧ min d.depth e.depth ≤ 60 then .ok (.bl (!PySem.W.dataLt d e)) S else .bad
    | _, _ => .bad)
  | x, y => geZ x y S
theorem op_geX {X : Cx} (hu : X.A.units + 64 < cLine) : OpR X (compareOp .GtE) (fun x y H Q => rGeZ x y H Q ∨ rGeD X.K x y H Q) := OpR.or op_geZ (op_geD hu)
theorem oz_geX {T : Tb} {K : PySem.W.Frag} : OpZ T K geX (fun x y H Q => rGeZ x y H Q ∨ rGeD K x y H Q) := by
  intro E R F H S x y u w Q r rx ry h
  unfold geX at h
  split at h
  · split at h
    · rename_i d e h1 h2
      split at h
      · rename_i hc
        refine .inr ⟨d, e, dat_dp r.ex _ _ _ rx h1, dat_dp r.ex _ _ _ ry h2, hc.1, fun z => ?_, hc.2, PostV.here r (by rw [Rel]) h⟩
        subst z
        rw [dat, Option.map_eq_some_iff] at h1
        obtain ⟨_, _, z⟩ := h1
        cases z
      · exact h.elim
    · exact h.elim
  · exact .inl (oz_ge E R F H S _ _ _ _ _ r rx ry h)
end Z
end
end
section
set_option Elab.async false
set_option linter.all false
set_option maxRecDepth 100000
set_option maxHeartbeats 0
noncomputable section
namespace Z
open PySem PySem.Spec PyProof.Rows L2
def cns : List Str := ["SumError", "BadLetter", "BadWidth", "BadWord", "TooMany", "Unlike"]
def fds : List Str := ["part", "what", "most", "value"]
def okl : List (Nat × Nat) := []
def oxl : List (Nat × Nat) := [(5, 0), (4, 1), (4, 2), (3, 3), (2, 3), (1, 3)]
def tbl : List (Str × Str) := [("_law_refused_right", ("_law_refused_right" : Str) ++ ".<locals>." ++ "<lambda>")]
abbrev nsl : List Nat := [5, 4, 3, 2, 1]
def T0 : Tb := TbX cns fds okl oxl tbl
def I0 : Ki := { kb := [(("NoneType", 1), false), (("int", 1), false), (("str", 1), false), (("bool", 1), false), (("list", 1), false), (("tuple", 1), false), (("dict", 1), false), (("NoneType", 2), false), (("int", 2), false), (("str", 2), false), (("bool", 2), false), (("list", 2), false), (("tuple", 2), false), (("dict", 2), false), (("NoneType", 3), false), (("int", 3), false), (("str", 3), false), (("bool", 3), false), (("list", 3), false), (("tuple", 3), false), (("dict", 3), false), (("NoneType", 4), false), (("int", 4), false), (("str", 4), false), (("bool", 4), false), (("list", 4), false), (("tuple", 4), false), (("dict", 4), false), (("NoneType", 5), false), (("int", 5), false), (("str", 5), false), (("bool", 5), false), (("list", 5), false), (("tuple", 5), false), (("dict", 5), false)], kc := [((5, 1), false), ((4, 1), false), ((3, 1), false), ((2, 1), false), ((1, 1), true), ((5, 2), false), ((4, 2), false), ((3, 2), false), ((2, 2), true), ((1, 2), false), ((5, 3), false), ((4, 3), false), ((3, 3), true), ((2, 3), false), ((1, 3), false), ((5, 4), false), ((4, 4), true), ((3, 4), false), ((2, 4), false), ((1, 4), false), ((5, 5), true), ((4, 5), false), ((3, 5), false), ((2, 5), false), ((1, 5), false)], kt := [((5, "ValueError"), true), ((4, "ValueError"), true), ((3, "ValueError"), true), ((2, "ValueError"), true), ((1, "ValueError"), true), ((5, "bool"), false), ((4, "bool"), false), ((3, "bool"), false), ((2, "bool"), false), ((1, "bool"), false), ((5, "int"), false), ((4, "int"), false), ((3, "int"), false), ((2, "int"), false), ((1, "int"), false), ((5, "str"), false), ((4, "str"), false), ((3, "str"), false), ((2, "str"), false), ((1, "str"), false), ((5, "tuple"), false), ((4, "tuple"), false), ((3, "tuple"), false), ((2, "tuple"), false), ((1, "tuple"), false)], cs := [], fb := [], es := [5, 4, 3, 2, 1] }
abbrev exm0 : List (Nat × Bool) := [(5, true), (4, true), (3, true), (2, true), (1, true)]
def b_is_integer : DS := dRet (dAnd (dApp (isiX I0) (dCons (dVar 0) (dCons (dC (.ty "int")) (dNil)))) (dNot (dApp (isiX I0) (dCons (dVar 0) (dCons (dC (.ty "bool")) (dNil))))))
def d_is_integer : DF := dDef 1 1 b_is_integer
def b_is_between : DS := dRet (dAnd (dFn d_is_integer (dCons (dVar 0) (dNil))) (dChain leZ leZ (dVar 1) (dVar 0) (dVar 2)))
def d_is_between : DF := dDef 3 3 b_is_between
def b_are_digits : DS := dRet (dAnd (dApp (isiX I0) (dCons (dVar 0) (dCons (dC (.ty "str")) (dNil)))) (dApp allP (dCons (dLc [2] (dItV (dVar 0)) (.nm 2) (dYes) (dBin (inZ false) (dVar 2) (dSli (dC (.str "0123")) (dNone) (dSome (dVar 1))))) (dNil))))
def d_are_digits : DF := dDef 2 3 b_are_digits
def b_is_word_of : DS := dRet (dAnd (dFn d_are_digits (dCons (dVar 0) (dCons (dVar 1) (dNil)))) (dBin leZ (dApp lenP (dCons (dVar 0) (dNil))) (dC (.int 100))))
def d_is_word_of : DF := dDef 2 2 b_is_word_of
def b_is_letter_of : DS := dRet (dAnd (dFn d_are_digits (dCons (dVar 0) (dCons (dVar 1) (dNil)))) (dBin eqZ (dApp lenP (dCons (dVar 0) (dNil))) (dVar 2)))
def d_is_letter_of : DF := dDef 3 3 b_is_letter_of
def b_reading : DS := dSeq (dFor (dItV (dVar 0)) (.nm 1) (dIfS (dNotT (dTru (dFn d_is_word_of (dCons (dVar 1) (dCons (dC (.int 4)) (dNil)))))) (dRaise 3 [3] (dCons (dVar 1) (dNil))) (dSkip))) (dSeq (dIfS (dTru (dApp anyP (dCons (dLc [1] (dItV (dVar 0)) (.nm 1) (dYes) (dBin neZ (dApp lenP (dCons (dVar 1) (dNil))) (dApp lenP (dCons (dBin subZ (dVar 0) (dC (.int 0))) (dNil))))) (dNil)))) (dRaise 5 [0] (dCons (dC (.str "length")) (dNil))) (dSkip)) (dSeq (dIfS (dB (dBin gtZ (dApp lenP (dCons (dVar 0) (dNil))) (dC (.int 3)))) (dRaise 4 [1, 2] (dCons (dC (.str "words")) (dCons (dC (.int 3)) (dNil)))) (dSkip)) (dRet (dApp tupP (dCons (dLc [2] (dItZs (dVar 0)) (.nm 2) (dYes) (dMet "str" joinP (dC (.str "")) (dCons (dVar 2) dNil))) (dNil))))))
def d_reading : DF := dDef 1 3 b_reading
def b_words_of : DS := dSeq (dIfS (dNotT (dTru (dFn d_is_between (dCons (dVar 1) (dCons (dC (.int 1)) (dCons (dC (.int 3)) (dNil))))))) (dRaise 2 [3] (dCons (dVar 1) (dNil))) (dSkip)) (dSeq (dIfS (dOrT (dNotT (dTru (dApp (isiX I0) (dCons (dVar 0) (dCons (dC (.ty "tuple")) (dNil)))))) (dB (dBin gtZ (dApp lenP (dCons (dVar 0) (dNil))) (dC (.int 100))))) (dRaise 1 [3] (dCons (dC .non) (dNil))) (dSkip)) (dSeq (dFor (dItV (dVar 0)) (.nm 2) (dIfS (dNotT (dTru (dFn d_is_letter_of (dCons (dVar 2) (dCons (dC (.int 4)) (dCons (dVar 1) (dNil))))))) (dRaise 1 [3] (dCons (dVar 2) (dNil))) (dSkip))) (dRet (dApp tupP (dCons (dLc [3] (dItA rngP (dCons (dVar 1) (dNil))) (.nm 3) (dYes) (dMet "str" joinP (dC (.str "")) (dCons (dLc [2] (dItV (dVar 0)) (.nm 2) (dYes) (dBin subZ (dVar 2) (dVar 3))) dNil))) (dNil))))))
def d_words_of : DF := dDef 2 4 b_words_of
def b__law_pen : DS := dRet (dLstM (dCons (dApp listP (dCons (dSli (dVar 0) (dNone) (dSome (dC (.int 63)))) (dNil))) (dCons (dC (.int 0)) (dCons (dC (.int 0)) (dNil)))))
def d__law_pen : DF := dDef0 1 1 b__law_pen
def b__law_draw : DS := dSeq (dIfS (dB (dBin gtZ (dBin subZ (dVar 0) (dC (.int 2))) (dC (.int 0)))) (dSeq (dSet 2 (dBin modP (dApp intP (dCons (dBin subZ (dVar 0) (dC (.int 2))) (dNil))) (dVar 1))) (dSeq (dAsg (dBin divP (dApp intP (dCons (dBin subZ (dVar 0) (dC (.int 2))) (dNil))) (dVar 1)) (gzI (dVar 0) (dC (.int 2)))) (dRet (dVar 2)))) (dSkip)) (dSeq (dSet 3 (dBin subZ (dVar 0) (dC (.int 1)))) (dSeq (dAsg (dBin addP (dVar 3) (dC (.int 1))) (gzI (dVar 0) (dC (.int 1)))) (dSeq (dSet 4 (dBin addP (dBin mulZ (dC (.int 88223)) (dVar 3)) (dC (.int 9099)))) (dSeq (dIfS (dB (dBin neZ (dBin subZ (dVar 0) (dC (.int 0))) (dLst (dNil)))) (dSet 4 (dBin subZ (dBin subZ (dVar 0) (dC (.int 0))) (dBin modP (dApp intP (dCons (dVar 3) (dNil))) (dApp lenP (dCons (dBin subZ (dVar 0) (dC (.int 0))) (dNil)))))) (dSkip)) (dSeq (dIfS (dAndT (dB (dBin ltZ (dVar 3) (dApp lenP (dCons (dBin subZ (dVar 0) (dC (.int 0))) (dNil))))) (dB (dBin geZ (dApp absP (dCons (dVar 4) (dNil))) (dBin powP (dC (.int 10)) (dC (.int 18)))))) (dSeq (dSet 5 (dBin addP (dBin mulZ (dC (.int 2)) (dBin subP (dApp absP (dCons (dVar 4) (dNil))) (dBin powP (dC (.int 10)) (dC (.int 18))))) (dApp intP (dCons (dBin ltZ (dVar 4) (dC (.int 0))) (dNil))))) (dSeq (dAsg (dBin divP (dApp intP (dCons (dVar 5) (dNil))) (dVar 1)) (gzI (dVar 0) (dC (.int 2)))) (dRet (dBin modP (dApp intP (dCons (dVar 5) (dNil))) (dVar 1))))) (dSkip)) (dSeq (dSet 6 (dBin modP (dApp intP (dCons (dBin powP (dBin addP (dBin addP (dBin modP (dApp intP (dCons (dVar 4) (dNil))) (dC (.int 2147483587))) (dBin mulZ (dC (.int 35179)) (dVar 3))) (dC (.int 327))) (dC (.int 5))) (dNil))) (dC (.int 2147483563)))) (dSeq (dSet 6 (dBin modP (dApp intP (dCons (dBin powP (dBin addP (dBin addP (dBin mulZ (dVar 6) (dBin addP (dBin mulZ (dC (.int 2)) (dVar 3)) (dC (.int 139)))) (dBin mulZ (dBin mulZ (dC (.int 62167)) (dVar 3)) (dVar 3))) (dC (.int 25))) (dC (.int 3))) (dNil))) (dC (.int 2147483587)))) (dRet (dBin modP (dApp intP (dCons (dBin divP (dVar 6) (dC (.int 32))) (dNil))) (dVar 1))))))))))
def d__law_draw : DF := dDef 2 7 b__law_draw
def b__law_pick : DS := dRet (dBin subZ (dVar 1) (dFn d__law_draw (dCons (dVar 0) (dCons (dApp lenP (dCons (dVar 1) (dNil))) (dNil)))))
def d__law_pick : DF := dDef 2 2 b__law_pick
def b__law_heard (x0 : PV) (tl : Sto → Out PV) : DS := dSeq (dAsg (dTup (dCons (dC .non) (dCons (dC .non) (dNil)))) (gzT [gzN 1, gzN 2])) (dSeq (dTryAs (fun c => exm0.lookup c) 3 (dSet 2 (dCallT x0 0 tl)) (dSet 1 (dVar 3))) (dSeq (dKeep [1, 2, 3, 4]) (dSeq (dIfS (dB (dBin isZ (dVar 1) (dC .non))) (dRet (dLst (dCons (dVar 2) (dNil)))) (dSkip)) (dSeq (dSet 4 (dLstM (dNil))) (dSeq (dIfS (dTru (dApp (isiX I0) (dCons (dVar 1) (dCons (dC (.cls 1)) (dNil))))) (dExpr (dMet "list" appP (dVar 4) (dCons (dTup (dCons (dC (.str "letter")) (dCons (dApp reprX (dCons (dAttrE T0 3 (dVar 1)) (dNil))) (dNil)))) dNil))) (dSkip)) (dSeq (dIfS (dTru (dApp (isiX I0) (dCons (dVar 1) (dCons (dC (.cls 2)) (dNil))))) (dExpr (dMet "list" appP (dVar 4) (dCons (dTup (dCons (dC (.str "width")) (dCons (dApp reprX (dCons (dAttrE T0 3 (dVar 1)) (dNil))) (dNil)))) dNil))) (dSkip)) (dSeq (dIfS (dTru (dApp (isiX I0) (dCons (dVar 1) (dCons (dC (.cls 3)) (dNil))))) (dExpr (dMet "list" appP (dVar 4) (dCons (dTup (dCons (dC (.str "word")) (dCons (dApp reprX (dCons (dAttrE T0 3 (dVar 1)) (dNil))) (dNil)))) dNil))) (dSkip)) (dSeq (dIfS (dTru (dApp (isiX I0) (dCons (dVar 1) (dCons (dC (.cls 4)) (dNil))))) (dExpr (dMet "list" appP (dVar 4) (dCons (dTup (dCons (dC (.str "many")) (dCons (dApp reprX (dCons (dAttrE T0 1 (dVar 1)) (dNil))) (dCons (dApp reprX (dCons (dAttrE T0 2 (dVar 1)) (dNil))) (dNil))))) dNil))) (dSkip)) (dSeq (dIfS (dTru (dApp (isiX I0) (dCons (dVar 1) (dCons (dC (.cls 5)) (dNil))))) (dExpr (dMet "list" appP (dVar 4) (dCons (dTup (dCons (dC (.str "unlike")) (dCons (dApp reprX (dCons (dAttrE T0 0 (dVar 1)) (dNil))) (dNil)))) dNil))) (dSkip)) (dRet (dIf (dAndT (dB (dBin eqZ (dApp lenP (dCons (dVar 4) (dNil))) (dC (.int 1)))) (dTru (dApp (isiX I0) (dCons (dVar 1) (dCons (dC (.ty "ValueError")) (dNil)))))) (dBin subZ (dVar 4) (dC (.int 0))) (dTup (dCons (dC (.str "odd")) (dNil))))))))))))))
theorem irrR__law_heard (R : DS) (x0 : PV) (tl : Sto → Out PV) (S : Sto) : dDef 1 5 (dSeq (dAsg (dTup (dCons (dC .non) (dCons (dC .non) (dNil)))) (gzT [gzN 1, gzN 2])) (dSeq (dTryAs (fun c => exm0.lookup c) 3 (dSet 2 (dCallT x0 0 tl)) (dSet 1 (dVar 3))) (dSeq (dKeep [1, 2, 3, 4]) R))) [x0] S = dDef 1 5 (dSeq (dAsg (dTup (dCons (dC .non) (dCons (dC .non) (dNil)))) (gzT [gzN 1, gzN 2])) (dSeq (dTryAs (fun c => exm0.lookup c) 3 (dSet 2 (dCallT .non 0 tl)) (dSet 1 (dVar 3))) (dSeq (dKeep [1, 2, 3, 4]) R))) [.non] S := by
  refine dDef_out _ _ _ _ _ _ _ rfl rfl ?_
  cases hq : tl S with
  | ok v S1 => simp [dSeq, dSet_ap, dC_ap, dTryAs, dExpr_ap, callT_0, hq, dKeep, keepL, OutS.seq, Out.st, Out.bind, defOut, dAsg, dTup, mkNd, gzT, gzN]
  | err e S1 => cases h2 : exm0.lookup e.c with
    | none => simp [dSeq, dSet_ap, dC_ap, dTryAs, dExpr_ap, callT_0, hq, h2, dKeep, keepL, OutS.seq, Out.st, Out.bind, defOut, goneO, dAsg, dTup, mkNd, gzT, gzN]
    | some bb => cases bb <;> simp [dSeq, dSet_ap, dC_ap, dVar, dTryAs, dExpr_ap, callT_0, hq, h2, dKeep, keepL, OutS.seq, Out.st, Out.bind, defOut, goneO, dAsg, dTup, mkNd, gzT, gzN]
  | bad => simp [dSeq, dSet_ap, dC_ap, dTryAs, dExpr_ap, callT_0, hq, dKeep, keepL, OutS.seq, Out.st, Out.bind, defOut, dAsg, dTup, mkNd, gzT, gzN]
theorem irr__law_heard (x0 : PV) (tl : Sto → Out PV) (S : Sto) : dDef 1 5 (b__law_heard x0 tl) [x0] S = dDef 1 5 (b__law_heard .non tl) [.non] S := irrR__law_heard ((dSeq (dIfS (dB (dBin isZ (dVar 1) (dC .non))) (dRet (dLst (dCons (dVar 2) (dNil)))) (dSkip)) (dSeq (dSet 4 (dLstM (dNil))) (dSeq (dIfS (dTru (dApp (isiX I0) (dCons (dVar 1) (dCons (dC (.cls 1)) (dNil))))) (dExpr (dMet "list" appP (dVar 4) (dCons (dTup (dCons (dC (.str "letter")) (dCons (dApp reprX (dCons (dAttrE T0 3 (dVar 1)) (dNil))) (dNil)))) dNil))) (dSkip)) (dSeq (dIfS (dTru (dApp (isiX I0) (dCons (dVar 1) (dCons (dC (.cls 2)) (dNil))))) (dExpr (dMet "list" appP (dVar 4) (dCons (dTup (dCons (dC (.str "width")) (dCons (dApp reprX (dCons (dAttrE T0 3 (dVar 1)) (dNil))) (dNil)))) dNil))) (dSkip)) (dSeq (dIfS (dTru (dApp (isiX I0) (dCons (dVar 1) (dCons (dC (.cls 3)) (dNil))))) (dExpr (dMet "list" appP (dVar 4) (dCons (dTup (dCons (dC (.str "word")) (dCons (dApp reprX (dCons (dAttrE T0 3 (dVar 1)) (dNil))) (dNil)))) dNil))) (dSkip)) (dSeq (dIfS (dTru (dApp (isiX I0) (dCons (dVar 1) (dCons (dC (.cls 4)) (dNil))))) (dExpr (dMet "list" appP (dVar 4) (dCons (dTup (dCons (dC (.str "many")) (dCons (dApp reprX (dCons (dAttrE T0 1 (dVar 1)) (dNil))) (dCons (dApp reprX (dCons (dAttrE T0 2 (dVar 1)) (dNil))) (dNil))))) dNil))) (dSkip)) (dSeq (dIfS (dTru (dApp (isiX I0) (dCons (dVar 1) (dCons (dC (.cls 5)) (dNil))))) (dExpr (dMet "list" appP (dVar 4) (dCons (dTup (dCons (dC (.str "unlike")) (dCons (dApp reprX (dCons (dAttrE T0 0 (dVar 1)) (dNil))) (dNil)))) dNil))) (dSkip)) (dRet (dIf (dAndT (dB (dBin eqZ (dApp lenP (dCons (dVar 4) (dNil))) (dC (.int 1)))) (dTru (dApp (isiX I0) (dCons (dVar 1) (dCons (dC (.ty "ValueError")) (dNil)))))) (dBin subZ (dVar 4) (dC (.int 0))) (dTup (dCons (dC (.str "odd")) (dNil))))))))))))) x0 tl S
def b__law_drawn : DS := dRet (dMet "str" joinP (dC (.str "")) (dCons (dLc [2] (dItA rngP (dCons (dVar 1) (dNil))) (.nm 2) (dYes) (dFn d__law_pick (dCons (dVar 0) (dCons (dC (.str "0123")) (dNil))))) dNil))
def d__law_drawn : DF := dDef 2 3 b__law_drawn
def b__law_read : DS := dSeq (dIfS (dB (dBin eqZ (dVar 0) (dLst (dNil)))) (dRet (dTup (dNil))) (dSkip)) (dRet (dApp tupP (dCons (dLc [2] (dItA rngP (dCons (dApp lenP (dCons (dBin subZ (dVar 0) (dC (.int 0))) (dNil))) (dNil))) (.nm 2) (dYes) (dMet "str" joinP (dC (.str "")) (dCons (dLc [1] (dItV (dVar 0)) (.nm 1) (dYes) (dBin subZ (dVar 1) (dVar 2))) dNil))) (dNil))))
def d__law_read : DF := dDef 1 3 b__law_read
def b__law_told : DS := dSeq (dIfS (dB (dBin ltZ (dApp lenP (dCons (dVar 0) (dNil))) (dC (.int 2)))) (dRet (dIf (dB (dBin eqZ (dVar 0) (dLst (dNil)))) ((fun _ S => (dStar 0 d_reading) [] S)) (dFn (dStar 0 d_reading) (dCons (dBin subZ (dVar 0) (dC (.int 0))) (dNil))))) (dSkip)) (dSeq (dIfS (dB (dBin eqZ (dApp lenP (dCons (dVar 0) (dNil))) (dC (.int 2)))) (dRet (dFn (dStar 0 d_reading) (dCons (dBin subZ (dVar 0) (dC (.int 0))) (dCons (dBin subZ (dVar 0) (dC (.int 1))) (dNil))))) (dSkip)) (dRet (dIf (dB (dBin eqZ (dApp lenP (dCons (dVar 0) (dNil))) (dC (.int 3)))) (dFn (dStar 0 d_reading) (dCons (dBin subZ (dVar 0) (dC (.int 0))) (dCons (dBin subZ (dVar 0) (dC (.int 1))) (dCons (dBin subZ (dVar 0) (dC (.int 2))) (dNil))))) (dFn (dStar 0 d_reading) (dCons (dBin subZ (dVar 0) (dC (.int 0))) (dCons (dBin subZ (dVar 0) (dC (.int 1))) (dCons (dBin subZ (dVar 0) (dC (.int 2))) (dCons (dBin subZ (dVar 0) (dC (.int 3))) (dNil)))))))))
def d__law_told : DF := dDef 1 1 b__law_told
def b__law_right : DS := dSeq (dSet 1 (dFn d__law_pick (dCons (dVar 0) (dCons (dLst (dCons (dC (.int 0)) (dCons (dC (.int 1)) (dCons (dC (.int 2)) (dCons (dC (.int 7)) (dCons (dFn d__law_draw (dCons (dVar 0) (dCons (dC (.int 101)) (dNil)))) (dNil))))))) (dNil))))) (dSeq (dSet 2 (dLc [3] (dItA rngP (dCons (dFn d__law_draw (dCons (dVar 0) (dCons (dC (.int 4)) (dNil)))) (dNil))) (.nm 3) (dYes) (dFn d__law_drawn (dCons (dVar 0) (dCons (dVar 1) (dNil)))))) (dSeq (dSet 4 (dFn d__law_read (dCons (dVar 2) (dNil)))) (dSeq (dIfS (dOrT (dB (dBin neZ (dFn d__law_told (dCons (dVar 2) (dNil))) (dVar 4))) (dAndT (dB (dBin neZ (dVar 2) (dLst (dNil)))) (dB (dBin neZ (dFn d_words_of (dCons (dVar 4) (dCons (dApp lenP (dCons (dVar 2) (dNil))) (dNil)))) (dApp tupP (dCons (dVar 2) (dNil))))))) (dRet (dC (.bl false))) (dSkip)) (dSeq (dIfS (dAndT (dB (dBin neZ (dVar 2) (dLst (dNil)))) (dB (dBin neZ (dFnP [1, 0] d_words_of (dCons (dApp lenP (dCons (dVar 2) (dNil))) (dCons (dVar 4) (dNil)))) (dApp tupP (dCons (dVar 2) (dNil)))))) (dRet (dC (.bl false))) (dSkip)) (dRet (dAnd (dBin eqZ (dFn d_words_of (dCons (dTup (dNil)) (dCons (dC (.int 3)) (dNil)))) (dTup (dCons (dC (.str "")) (dCons (dC (.str "")) (dCons (dC (.str "")) (dNil)))))) (dBin eqZ (dFn d_words_of (dCons (dTup (dNil)) (dCons (dC (.int 1)) (dNil)))) (dTup (dCons (dC (.str "")) (dNil))))))))))
def d__law_right : DF := dDef 1 5 b__law_right
def b__law_refused_right : DS := dSeq (dSet 1 (dFn d__law_pick (dCons (dVar 0) (dCons (dLst (dCons (dC .non) (dCons (dC (.int 0)) (dCons (dC (.str "4")) (dCons (dC (.str "0 ")) (dCons (dC (.str "a")) (dCons (dLst (dCons (dC (.str "0")) (dNil))) (dCons (dTup (dCons (dC (.str "0")) (dNil))) (dCons (dC (.bl true)) (dCons (dBin mulT (dC (.str "0")) (dC (.int 101))) (dNil))))))))))) (dNil))))) (dSeq (dSet 2 (dLstM (dCons (dLamK (fun x0 tl S => dDef 1 5 (b__law_heard x0 tl) [x0] S) (dFn (dStar 0 d_reading) (dCons (dC (.str "00")) (dCons (dVar 1) (dCons (dC (.str "0")) (dNil)))))) (dNil)))) (dSeq (dExpr (dMet "list" appP (dVar 2) (dCons (dLamK (fun x0 tl S => dDef 1 5 (b__law_heard x0 tl) [x0] S) (dFn (dStar 0 d_reading) (dCons (dC (.str "0")) (dCons (dC (.str "00")) (dCons (dC (.str "0")) (dCons (dVar 1) (dNil))))))) dNil))) (dSeq (dExpr (dMet "list" appP (dVar 2) (dCons (dLamK (fun x0 tl S => dDef 1 5 (b__law_heard x0 tl) [x0] S) (dFn (dStar 0 d_reading) (dCons (dC (.str "0")) (dCons (dC (.str "00")) (dCons (dC (.str "0")) (dCons (dC (.str "0")) (dNil))))))) dNil))) (dSeq (dExpr (dMet "list" appP (dVar 2) (dCons (dLamK (fun x0 tl S => dDef 1 5 (b__law_heard x0 tl) [x0] S) (dFn (dStar 0 d_reading) (dCons (dC (.str "0")) (dCons (dC (.str "1")) (dCons (dC (.str "2")) (dCons (dC (.str "3")) (dNil))))))) dNil))) (dSeq (dSet 3 (dFn d__law_pick (dCons (dVar 0) (dCons (dLst (dCons (dC .non) (dCons (dC (.int 0)) (dCons (dC (.int 4)) (dCons (dC (.bl true)) (dCons (dC (.str "1")) (dCons (dTup (dCons (dC (.int 1)) (dNil))) (dNil)))))))) (dNil))))) (dSeq (dSet 4 (dFn d__law_pick (dCons (dVar 0) (dCons (dLst (dCons (dC .non) (dCons (dC (.str "00")) (dCons (dLst (dCons (dC (.str "00")) (dNil))) (dCons (dDct0) (dCons (dC (.int 0)) (dCons (dBin mulT (dTup (dCons (dC (.str "00")) (dNil))) (dC (.int 101))) (dNil)))))))) (dNil))))) (dSeq (dSet 5 (dFn d__law_pick (dCons (dVar 0) (dCons (dLst (dCons (dC .non) (dCons (dC (.str "0")) (dCons (dC (.str "000")) (dCons (dC (.str "04")) (dCons (dC (.str "")) (dCons (dC (.int 0)) (dCons (dTup (dCons (dC (.str "0")) (dCons (dC (.str "0")) (dNil)))) (dCons (dC (.str "a0")) (dNil)))))))))) (dNil))))) (dSeq (dExpr (dMet "list" appP (dVar 2) (dCons (dLamK (fun x0 tl S => dDef 1 5 (b__law_heard x0 tl) [x0] S) (dFn d_words_of (dCons (dVar 4) (dCons (dVar 3) (dNil))))) dNil))) (dSeq (dExpr (dMet "list" appP (dVar 2) (dCons (dLamK (fun x0 tl S => dDef 1 5 (b__law_heard x0 tl) [x0] S) (dFn d_words_of (dCons (dVar 4) (dCons (dC (.int 2)) (dNil))))) dNil))) (dSeq (dExpr (dMet "list" appP (dVar 2) (dCons (dLamK (fun x0 tl S => dDef 1 5 (b__law_heard x0 tl) [x0] S) (dFn d_words_of (dCons (dTup (dCons (dC (.str "00")) (dCons (dC (.str "13")) (dCons (dVar 5) (dCons (dC .non) (dNil)))))) (dCons (dC (.int 2)) (dNil))))) dNil))) (dSeq (dSet 6 (dLst (dCons (dTup (dCons (dC (.str "word")) (dCons (dApp reprX (dCons (dVar 1) (dNil))) (dNil)))) (dCons (dTup (dCons (dC (.str "word")) (dCons (dApp reprX (dCons (dVar 1) (dNil))) (dNil)))) (dCons (dTup (dCons (dC (.str "unlike")) (dCons (dC (.str "'length'")) (dNil)))) (dCons (dTup (dCons (dC (.str "many")) (dCons (dC (.str "'words'")) (dCons (dC (.str "3")) (dNil))))) (dNil))))))) (dRet (dBin eqZ (dVar 2) (dBin addP (dVar 6) (dLst (dCons (dTup (dCons (dC (.str "width")) (dCons (dApp reprX (dCons (dVar 3) (dNil))) (dNil)))) (dCons (dTup (dCons (dC (.str "letter")) (dCons (dC (.str "None")) (dNil)))) (dCons (dTup (dCons (dC (.str "letter")) (dCons (dApp reprX (dCons (dVar 5) (dNil))) (dNil)))) (dNil)))))))))))))))))))
def d__law_refused_right : DF := dDef 1 7 b__law_refused_right
def b_law : DS := dSeq (dSet 1 (dFn d__law_pen (dCons (dVar 0) (dNil)))) (dSeq (dKeep [1]) (dSeq (dFor (dItA rngP (dCons (dC (.int 8)) (dNil))) (.nm 2) (dShS (dSeq (dIfS (dOrT (dNotT (dTru (dFn d__law_right (dCons (dVar 1) (dNil))))) (dNotT (dTru (dFn d__law_refused_right (dCons (dVar 1) (dNil)))))) (dRet (dC (.bl false))) (dSkip)) (dSeq (dKeep [1]) dSkip)))) (dSeq (dKeep []) (dSeq (dSet 3 (dLst (dCons (dFn (dStar 0 d_reading) (dCons (dC (.str "00")) (dCons (dC (.str "11")) (dNil)))) (dCons (dFn (dStar 0 d_reading) (dCons (dC (.str "01")) (dCons (dC (.str "00")) (dNil)))) (dCons (dFn (dStar 0 d_reading) (dCons (dC (.str "0")) (dCons (dC (.str "1")) (dNil)))) (dNil)))))) (dSeq (dIfS (dOrT (dB (dBin geX (dBin subZ (dVar 3) (dC (.int 1))) (dBin subZ (dVar 3) (dC (.int 0))))) (dB (dBin neZ (dVar 3) (dLst (dCons (dTup (dCons (dC (.str "01")) (dCons (dC (.str "01")) (dNil)))) (dCons (dTup (dCons (dC (.str "00")) (dCons (dC (.str "10")) (dNil)))) (dCons (dTup (dCons (dC (.str "01")) (dNil))) (dNil)))))))) (dRet (dC (.bl false))) (dSkip)) (dSeq (dKeep []) (dRet (dBin eqZ (dApp lenP (dCons (dBin subZ (dFn d_words_of (dCons (dBin mulT (dTup (dCons (dC (.str "123")) (dNil))) (dC (.int 100))) (dCons (dC (.int 3)) (dNil)))) (dC (.int 2))) (dNil))) (dC (.int 100))))))))))
def d_law : DF := dDef 1 4 b_law
end Z
end
end
section
set_option Elab.async false
set_option linter.all false
set_option maxRecDepth 100000
set_option maxHeartbeats 2000000
/-! K04A: what counts as a word; letters. -/
noncomputable section
namespace Z
open PySem PySem.Spec PyProof.Rows L2

/-- the digits of a base -/
def digs (b : Int) : List Nat := (cutS "0123" none (some b)).cps.toList
theorem digs_2 : digs 2 = [48, 49] := by decide +kernel
theorem digs_3 : digs 3 = [48, 49, 50] := by decide +kernel
theorem digs_4 : digs 4 = [48, 49, 50, 51] := by decide +kernel
/-- what the program's checks tell of a thing, a base -/
def isW (b : Int) : PV → Bool
  | .str z => z.cps.toList.all (fun c => decide (c ∈ digs b)) && decide (z.length ≤ 100)
  | _ => false
/-- the things that are handed in: texts that are not too long, what is no text -/
def thing (S : Sto) (v : PV) : Prop := match v with
  | .str z => z.length ≤ 16777216
  | v => ∃ t, tyW v S = some (.b t) ∧ t ≠ "str" ∧ kitB t "str" = some false
theorem isi_str (z : Str) (S : Sto) : isiX I0 [.str z, .ty "str"] S = .ok (.bl true) S := rfl
theorem isi_no {v : PV} {S : Sto} (h : thing S v) (hs : ∀ z, v ≠ .str z) : isiX I0 [v, .ty "str"] S = .ok (.bl false) S := by
  have h : ∃ t, tyW v S = some (.b t) ∧ t ≠ "str" ∧ kitB t "str" = some false := by
    cases v with
    | str z => exact absurd rfl (hs z)
    | _ => exact h
  obtain ⟨t, h1, h2, h3⟩ := h
  have e : (tyW v S).bind (fun t => I0.kit t (.ty "str")) = some false := by rw [h1, Option.bind_some]; exact h3
  unfold isiX
  simp only [e]
theorem dgA (z : Str) (b : Int) (S : Sto) (hz : z.length ≤ 16777216) : d_are_digits [.str z, .int b] S = .ok (.bl (z.cps.toList.all fun c => decide (c ∈ digs b))) S := by
  refine dDef_ret _ _ rfl ?_ (Nat.le_refl _)
  have hc : dLc [2] (dItV (dVar 0)) (.nm 2) dYes (dBin (inZ false) (dVar 2) (dSli (dC (.str "0123")) dNone (dSome (dVar 1)))) [some (.str z), some (.int b), none] S
      = .ok (.nd .lst ((z.cps.toList.map fun c => decide (c ∈ digs b)).map PV.bl)) S := by
    have hl : (strIt z).items.length ≤ 16777216 := by show (z.cps.toList.map _).length ≤ _; rw [List.length_map]; exact hz
    have := dLc_pure (vs := [2]) (di := dItV (dVar 0)) (t := .nm 2) (el := dBin (inZ false) (dVar 2) (dSli (dC (.str "0123")) dNone (dSome (dVar 1)))) (l := [some (.str z), some (.int b), none]) (S := S) (it := strIt z)
      (fun x => match x with | .str c => .bl (decide (c.cps.toList.headD 0 ∈ digs b)) | _ => .non) rfl (heldB_nil _) hl (by
        intro x hx
        obtain ⟨c, _, rfl⟩ := List.mem_map.mp hx
        refine ⟨_, asg1, ?_⟩
        have e1 : sliZ (.str "0123") none (some b) S = .ok (.str (cutS "0123" none (some b))) S := by
          unfold sliZ
          exact if_pos (by decide)
        have e2 : inZ false (.str ⟨#[c]⟩) (.str (cutS "0123" none (some b))) S = .ok (.bl (decide (c ∈ digs b))) S := rfl
        simp [setZ, e1, e2])
    rw [this]
    unfold strIt
    simp only [List.map_map]
    rfl
  have ha : allP [.nd .lst ((z.cps.toList.map fun c => decide (c ∈ digs b)).map PV.bl)] S = .ok (.bl (z.cps.toList.all fun c => decide (c ∈ digs b))) S := by
    unfold allP
    have e : (lstOf (.nd .lst ((z.cps.toList.map fun c => decide (c ∈ digs b)).map PV.bl)) S).bind asBs = some (z.cps.toList.map fun c => decide (c ∈ digs b)) := asBs_map _
    simp only [e]
    rw [List.all_map]; rfl
  unfold b_are_digits
  simp only [dRet_ap, dAnd_ap, dApp_ap, dCons_ap, dNil_ap, dC_ap, bind_ok, List.map_cons, List.map_nil, List.cons_append, List.nil_append, List.replicate, dVar_0, isi_str, truP, if_true, hc, ha, st_ok, Nat.reduceSub]
theorem dgN {v : PV} {b : Int} {S : Sto} (h : thing S v) (hs : ∀ z, v ≠ .str z) : d_are_digits [v, .int b] S = .ok (.bl false) S := by
  refine dDef_ret _ _ rfl ?_ (Nat.le_refl _)
  unfold b_are_digits
  simp [isi_no h hs, truP]
theorem wo {v : PV} {b : Int} {S : Sto} (h : thing S v) : d_is_word_of [v, .int b] S = .ok (.bl (isW b v)) S := by
  refine dDef_ret _ _ rfl ?_ (Nat.le_refl _)
  unfold b_is_word_of
  by_cases hs : ∃ z, v = .str z
  · obtain ⟨z, rfl⟩ := hs
    have hz : z.length ≤ 16777216 := h
    have hlen : lenP [.str z] S = .ok (.int z.length) S := by unfold lenP; simp only; rw [if_pos hz]
    cases hk : z.cps.toList.all (fun c => decide (c ∈ digs b)) with
    | false => simp [dgA z b S hz, hk, truP, isW]
    | true =>
      have hle : leZ (.int z.length) (.int 100) S = .ok (.bl (decide (z.length ≤ 100))) S := by
        have e : decide ((z.length : Int) ≤ 100) = decide (z.length ≤ 100) := decide_eq_decide.mpr (by omega)
        show Out.ok (PV.bl (decide ((z.length : Int) ≤ 100))) S = _
        rw [e]
      simp [dgA z b S hz, hk, truP, isW, hlen, hle]
  · have hn : ∀ z, v ≠ .str z := fun z e => hs ⟨z, e⟩
    have e : isW b v = false := by
      cases v with
      | str z => exact absurd rfl (hn z)
      | _ => rfl
    rw [e]
    simp [dgN h hn, truP]
theorem isint (i : Int) (S : Sto) : d_is_integer [.int i] S = .ok (.bl true) S := by
  refine dDef_ret _ _ rfl ?_ (Nat.le_refl _)
  unfold b_is_integer
  have h1 : isiX I0 [.int i, .ty "int"] S = .ok (.bl true) S := rfl
  have h2 : isiX I0 [.int i, .ty "bool"] S = .ok (.bl false) S := rfl
  simp [h1, h2, truP]
theorem between (i a b : Int) (S : Sto) : d_is_between [.int i, .int a, .int b] S = .ok (.bl (decide (a ≤ i) && decide (i ≤ b))) S := by
  refine dDef_ret _ _ rfl ?_ (Nat.le_refl _)
  unfold b_is_between
  have h1 : leZ (.int a) (.int i) S = .ok (.bl (decide (a ≤ i))) S := rfl
  have h2 : leZ (.int i) (.int b) S = .ok (.bl (decide (i ≤ b))) S := rfl
  cases q : decide (a ≤ i) with
  | false => simp [isint, truP, dChain, h1, q]
  | true => simp [isint, truP, dChain, h1, h2, q]
/-- words are words -/
theorem isW_wd {b : Nat} {ds : List Nat} (hb : b = 2 ∨ b = 4) (h : ∀ d ∈ ds, d < b) (hl : ds.length ≤ 100) : isW (b : Nat) (.str (wd ds)) = true := by
  show ((wd ds).cps.toList.all (fun c => decide (c ∈ digs (b : Nat))) && decide ((wd ds).length ≤ 100)) = true
  rw [wd_cps, wd_len, Bool.and_eq_true]
  refine ⟨List.all_eq_true.mpr fun c hc => ?_, decide_eq_true hl⟩
  obtain ⟨d, hd, rfl⟩ := List.mem_map.mp hc
  have := h d hd
  refine decide_eq_true ?_
  rcases hb with rfl | rfl
  · show 48 + d ∈ digs 2
    rw [digs_2]
    have : d = 0 ∨ d = 1 := by omega
    rcases this with rfl | rfl <;> decide
  · show 48 + d ∈ digs 4
    rw [digs_4]
    have : d = 0 ∨ d = 1 ∨ d = 2 ∨ d = 3 := by omega
    rcases this with rfl | rfl | rfl | rfl <;> decide
theorem isW2 {ds : List Nat} (h : ∀ d ∈ ds, d < 2) (hl : ds.length ≤ 100) : isW 2 (.str (wd ds)) = true := isW_wd (b := 2) (.inl rfl) h hl
theorem isW4 {ds : List Nat} (h : ∀ d ∈ ds, d < 4) (hl : ds.length ≤ 100) : isW 4 (.str (wd ds)) = true := isW_wd (b := 4) (.inr rfl) h hl
theorem thing_wd {S : Sto} {ds : List Nat} (hl : ds.length ≤ 16777216) : thing S (.str (wd ds)) := by
  show (wd ds).length ≤ _
  rw [wd_len]; exact hl

/-! ### letters of words -/
def colOf (dss : List (List Nat)) (i : Nat) : List Nat := dss.map fun ds => ds.getD i 0
def letsOf (dss : List (List Nat)) (m : Nat) : List PV := (List.range m).map fun i => .str (wd (colOf dss i))
def wdsOf (dss : List (List Nat)) : List PV := dss.map fun ds => .str (wd ds)
structure Good (dss : List (List Nat)) (m : Nat) : Prop where
  len : ∀ ds ∈ dss, ds.length = m
  dig : ∀ ds ∈ dss, ∀ d ∈ ds, d < 4
  few : dss.length ≤ 3
  m100 : m ≤ 100
  nil : dss = [] → m = 0
theorem getD_lt {ds : List Nat} (h : ∀ d ∈ ds, d < 4) (i : Nat) : ds.getD i 0 < 4 := by
  rw [List.getD_eq_getElem?_getD]
  cases e : ds[i]? with
  | none => decide
  | some d => exact h d (List.mem_of_getElem? e)
theorem Good.col {dss : List (List Nat)} {m : Nat} (g : Good dss m) (i : Nat) : ∀ d ∈ colOf dss i, d < 4 := fun d hd => by
  obtain ⟨ds, h1, rfl⟩ := List.mem_map.mp hd
  exact getD_lt (g.dig ds h1) i
theorem sgn_wd {ds : List Nat} {i : Nat} (h : i < ds.length) : sgnAt i (wd ds) = ⟨#[48 + ds.getD i 0]⟩ := by
  have e : (wd ds).cps[i]? = some (48 + ds.getD i 0) := by
    show ((ds.map (48 + ·)).toArray)[i]? = _
    rw [List.getElem?_toArray, List.getElem?_map, List.getD_eq_getElem?_getD, List.getElem?_eq_getElem h]
    rfl
  unfold sgnAt
  rw [Array.getD_eq_getD_getElem?, e]
  rfl
theorem zip_wd {dss : List (List Nat)} {m : Nat} (g : Good dss m) : zipNs (dss.map wd) = (List.range m).map fun i => .nd .tup ((colOf dss i).map sg) := by
  have hh : lenHd (dss.map wd) = m := by
    cases dss with
    | nil => rw [g.nil rfl]; rfl
    | cons a r =>
      show (wd a).length = m
      rw [wd_len]
      exact g.len a List.mem_cons_self
  unfold zipNs
  rw [hh]
  refine List.map_congr_left fun i hi => ?_
  have hi := List.mem_range.mp hi
  unfold colOf
  rw [List.map_map, List.map_map]
  congr 1
  refine List.map_congr_left fun ds hd => ?_
  show PV.str (sgnAt i (wd ds)) = sg (ds.getD i 0)
  rw [sgn_wd (by rw [g.len ds hd]; exact hi)]
  rfl
theorem joinT_wd {ds : List Nat} {S : Sto} (h : ds.length ≤ 16777216) : joinP (.str ⟨#[]⟩) [.nd .tup (ds.map sg)] S = .ok (.str (wd ds)) S := joinP_wd (ds := ds) (S := S) h
theorem strs_wds : ∀ dss : List (List Nat), strsOf (wdsOf dss) = some (dss.map wd)
  | [] => rfl
  | ds :: r => by
    show (strsOf (wdsOf r)).map (wd ds :: ·) = _
    rw [strs_wds r]; rfl
theorem len_wd {ds : List Nat} (h : ds.length ≤ 16777216) (S : Sto) : lenP [.str (wd ds)] S = .ok (.int (ds.length : Nat)) S := by
  unfold lenP
  simp only
  rw [if_pos (by rw [wd_len]; exact h), wd_len]
theorem tyOk_str (z : Str) (S : Sto) : tyOk "str" (.str z) S = true := rfl
end Z
end
end
section
set_option Elab.async false
set_option linter.all false
set_option maxRecDepth 100000
set_option maxHeartbeats 2000000
/-! K04B: words read, letters taken apart. -/
noncomputable section
namespace Z
open PySem PySem.Spec PyProof.Rows L2
theorem for_chk {b : DS} {S : Sto} {k : Nat} {l : Loc} (items : List PV) (h : ∀ x ∈ items, b (l.set k (some x)) S = .nx (l.set k (some x)) S) : ∃ y, forZ (.nm k) [] b items l S = .nx (l.set k y) S := by
  obtain ⟨l', S', h1, h2, h3⟩ := forZ_inv (t := .nm k) (hs := []) (b := b) (fun _ l' S' => (∃ y, l' = l.set k y) ∧ S' = S) items 0 l S ⟨⟨l.getD k none, by
    apply List.ext_getElem? ; intro j
    rw [List.getElem?_set]
    split
    · rename_i e; subst e
      split
      · rename_i hl; rw [List.getD_eq_getElem?_getD, List.getElem?_eq_getElem hl]; rfl
      · rename_i hl; rw [List.getElem?_eq_none (by omega)]
    · rfl⟩, rfl⟩ (by
    rintro i x l1 S1 hx ⟨⟨y, rfl⟩, rfl⟩
    refine ⟨_, l.set k (some x), S1, asg1, ?_, heldB_nil _, ⟨_, rfl⟩, rfl⟩
    have e : setZ (l.set k y) [(k, x)] = l.set k (some x) := by
      show (l.set k y).set k (some x) = _
      rw [List.set_set]
    rw [e]
    exact h x (List.mem_of_getElem? hx))
  obtain ⟨y, rfl⟩ := h2
  subst h3
  exact ⟨y, h1⟩
theorem dg4 {ds : List Nat} (h : ∀ d ∈ ds, d < 4) (hl : ds.length ≤ 100) (S : Sto) : d_is_word_of [.str (wd ds), .int 4] S = .ok (.bl true) S := by
  rw [wo (thing_wd (by omega))]
  exact congrArg (fun b => Out.ok (PV.bl b) S) (isW4 h hl)
theorem wds_len (dss : List (List Nat)) : (wdsOf dss).length = dss.length := List.length_map _
theorem any_len {dss : List (List Nat)} {m : Nat} (g : Good dss m) {y : Option PV} {S : Sto} :
    dApp anyP (dCons (dLc [1] (dItV (dVar 0)) (.nm 1) (dYes) (dBin neZ (dApp lenP (dCons (dVar 1) (dNil))) (dApp lenP (dCons (dBin subZ (dVar 0) (dC (.int 0))) (dNil))))) (dNil)) [some (.nd .tup (wdsOf dss)), y, none] S = .ok (.bl false) S := by
  have hc : dLc [1] (dItV (dVar 0)) (.nm 1) (dYes) (dBin neZ (dApp lenP (dCons (dVar 1) (dNil))) (dApp lenP (dCons (dBin subZ (dVar 0) (dC (.int 0))) (dNil)))) [some (.nd .tup (wdsOf dss)), y, none] S
      = .ok (.nd .lst ((wdsOf dss).map fun _ => .bl false)) S := by
    refine dLc_pure (vs := [1]) (it := ⟨wdsOf dss, []⟩) (fun _ => .bl false) rfl (heldB_nil _) (by rw [wds_len]; have := g.few; omega) fun x hx => ⟨_, asg1, ?_⟩
    obtain ⟨ds, hd, rfl⟩ := List.mem_map.mp hx
    have h0 : ∃ a r, dss = a :: r := by
      cases dss with
      | nil => cases hd
      | cons a r => exact ⟨a, r, rfl⟩
    obtain ⟨a, r, e⟩ := h0
    have e1 : subZ (.nd .tup (wdsOf dss)) (.int 0) S = .ok (.str (wd a)) S := by rw [e]; exact subZ_t0 _ _ S
    have l1 : ds.length = m := g.len ds hd
    have l2 : a.length = m := g.len a (by rw [e]; exact List.mem_cons_self)
    have hm := g.m100
    simp [setZ, wipeZ, len_wd (show ds.length ≤ 16777216 by omega), len_wd (show a.length ≤ 16777216 by omega), e1, l1, l2, neZ_int]
  have ha : anyP [.nd .lst ((wdsOf dss).map fun _ => .bl false)] S = .ok (.bl false) S := by
    have hf := g.few
    rcases dss with _ | ⟨a, _ | ⟨b, _ | ⟨c, _ | ⟨d, r⟩⟩⟩⟩
    · rfl
    · rfl
    · rfl
    · rfl
    · simp at hf
  simp only [dApp_ap, dCons_ap, dNil_ap, bind_ok, hc, ha]
theorem zip_lc {dss : List (List Nat)} {m : Nat} (g : Good dss m) {y z : Option PV} {S : Sto} :
    dLc [2] (dItZs (dVar 0)) (.nm 2) (dYes) (dMet "str" joinP (dC (.str "")) (dCons (dVar 2) dNil)) [some (.nd .tup (wdsOf dss)), y, z] S = .ok (.nd .lst (letsOf dss m)) S := by
  have hi : dItZs (dVar 0) [some (.nd .tup (wdsOf dss)), y, z] S = .ok ⟨zipNs (dss.map wd), []⟩ S := by
    have e : (itemsOf (.nd .tup (wdsOf dss)) S).bind strsOf = some (dss.map wd) := strs_wds dss
    have hc : (dss.map wd).length ≤ 3 ∧ (dss.map wd).all (fun z => z.cps.size == lenHd (dss.map wd)) = true := by
      refine ⟨by rw [List.length_map]; exact g.few, List.all_eq_true.mpr fun x hx => ?_⟩
      obtain ⟨ds, hd, rfl⟩ := List.mem_map.mp hx
      have hh : lenHd (dss.map wd) = m := by
        cases dss with
        | nil => cases hd
        | cons a r => show (wd a).length = m; rw [wd_len]; exact g.len a List.mem_cons_self
      rw [hh, beq_iff_eq]
      show (wd ds).length = m
      rw [wd_len]; exact g.len ds hd
    unfold dItZs
    simp only [dVar_0, bind_ok, e]
    rw [if_pos hc]
  rw [zip_wd g] at hi
  have hm := g.m100
  have := dLc_pure (vs := [2]) (t := .nm 2) (el := dMet "str" joinP (dC (.str "")) (dCons (dVar 2) dNil)) (l := [some (.nd .tup (wdsOf dss)), y, z]) (S := S)
    (fun x => match x with | .nd .tup xs => .str ⟨xs.toArray.map fun c => match c with | .str t => t.cps.toList.headD 0 | _ => 0⟩ | _ => .non) hi (heldB_nil _) (by rw [List.length_map, List.length_range]; omega) (by
      intro x hx
      obtain ⟨i, hi, rfl⟩ := List.mem_map.mp hx
      refine ⟨_, asg1, ?_⟩
      have hf := g.few
      have hj : joinP (.str "") [.nd .tup ((colOf dss i).map sg)] S = .ok (.str (wd (colOf dss i))) S := joinT_wd (by unfold colOf; rw [List.length_map]; omega)
      have hw : (⟨((colOf dss i).map sg).toArray.map fun c => match c with | .str t => t.cps.toList.headD 0 | _ => 0⟩ : Str) = wd (colOf dss i) := by
        unfold wd
        rw [List.map_toArray, List.map_map]
        rfl
      show _ = Out.ok (PV.str ⟨((colOf dss i).map sg).toArray.map fun c => match c with | .str t => t.cps.toList.headD 0 | _ => 0⟩) S
      rw [hw]
      simp [setZ, wipeZ, hj, tyOk_str])
  rw [this]
  congr 2
  unfold letsOf
  rw [List.map_map]
  refine List.map_congr_left fun i _ => ?_
  show PV.str _ = PV.str _
  unfold wd
  rw [List.map_toArray, List.map_map]
  rfl
theorem lets_len (dss : List (List Nat)) (m : Nat) : (letsOf dss m).length = m := by unfold letsOf; rw [List.length_map, List.length_range]
/-- words are read -/
theorem reading_ok {dss : List (List Nat)} {m : Nat} (g : Good dss m) (S : Sto) : d_reading [.nd .tup (wdsOf dss)] S = .ok (.nd .tup (letsOf dss m)) S := by
  refine dDef_ret _ _ rfl ?_ (Nat.le_refl _)
  have hf := g.few
  have hm := g.m100
  obtain ⟨y, hfor⟩ := for_chk (b := dIfS (dNotT (dTru (dFn d_is_word_of (dCons (dVar 1) (dCons (dC (.int 4)) (dNil)))))) (dRaise 3 [3] (dCons (dVar 1) (dNil))) (dSkip)) (S := S) (k := 1) (l := [some (.nd .tup (wdsOf dss)), none, none]) (wdsOf dss) (by
    intro x hx
    obtain ⟨ds, hd, rfl⟩ := List.mem_map.mp hx
    have e := dg4 (g.dig ds hd) (by rw [g.len ds hd]; exact hm) S
    simp [e, truP])
  have hit : dItV (dVar 0) [some (.nd .tup (wdsOf dss)), none, none] S = .ok ⟨wdsOf dss, []⟩ S := rfl
  have hl : lenP [.nd .tup (wdsOf dss)] S = .ok (.int (dss.length : Nat)) S := by
    rw [lenP_nd_tup, wds_len]
  have hg : gtZ (.int (dss.length : Nat)) (.int 3) S = .ok (.bl false) S := by
    show Out.ok (PV.bl (decide ((3 : Int) < (dss.length : Nat)))) S = _
    rw [decide_eq_false (by omega)]
  have hF : dFor (dItV (dVar 0)) (.nm 1) (dIfS (dNotT (dTru (dFn d_is_word_of (dCons (dVar 1) (dCons (dC (.int 4)) (dNil)))))) (dRaise 3 [3] (dCons (dVar 1) (dNil))) (dSkip)) [some (.nd .tup (wdsOf dss)), none, none] S = .nx [some (.nd .tup (wdsOf dss)), y, none] S := by
    rw [dFor_eq hit (heldB_nil _)]
    exact hfor
  unfold b_reading
  simp only [List.map_cons, List.map_nil, List.cons_append, List.nil_append, List.replicate, Nat.reduceSub, dSeq_ap, hF, seq_nx, dIfS_ap, dTru_ap, any_len g, bind_ok, truP_bl, st_ok, Bool.false_eq_true, if_false, dSkip_ap, dB_ap, dBin_ap, dApp_ap, dCons_ap, dNil_ap, dVar_0, hl, dC_ap, hg, asB_ok, dRet_ap, zip_lc g, tupP_lst]
end Z
end
end
section
set_option Elab.async false
set_option linter.all false
set_option maxRecDepth 100000
set_option maxHeartbeats 2000000
/-! K04C: the law's reading; letters told apart; equal things. -/
noncomputable section
namespace Z
open PySem PySem.Spec PyProof.Rows L2
theorem dItA_of {f : List PV → Sto → Out ItZ} {ar : DA} {l : Loc} {S : Sto} {xs : List PV} {it : ItZ} (h : ar l S = .ok xs S) (hf : f xs S = .ok it S) : dItA f ar l S = .ok it S := by
  rw [dItA_ap, h]
  exact hf
theorem dFn_of {f : DF} {ar : DA} {l : Loc} {S S1 : Sto} {xs : List PV} {v : PV} (h : ar l S = .ok xs S) (hf : f xs S = .ok v S1) : dFn f ar l S = .ok v S1 := by
  rw [dFn_ap, h]
  exact hf
theorem dFn_of2 {f : DF} {ar : DA} {l : Loc} {S S1 S2 : Sto} {xs : List PV} {v : PV} (h : ar l S = .ok xs S1) (hf : f xs S1 = .ok v S2) : dFn f ar l S = .ok v S2 := by
  rw [dFn_ap, h]
  exact hf
theorem dSet_of {i : Nat} {a : DE} {l : Loc} {S S1 : Sto} {v : PV} (h : a l S = .ok v S1) : dSet i a l S = .nx (l.set i (some v)) S1 := by
  rw [dSet_ap, h]
  rfl
theorem seq_of {s t : DS} {l l1 : Loc} {S S1 : Sto} (h : s l S = .nx l1 S1) : dSeq s t l S = t l1 S1 := by
  rw [dSeq_ap, h]
  rfl
theorem strOk_wd {ds : List Nat} (h : ∀ d ∈ ds, d < 4) : PyData.strOk (wd ds) = true := by
  unfold PyData.strOk
  rw [Array.all_eq_true]
  intro i hi
  have hm : (wd ds).cps[i] ∈ (wd ds).cps.toList := by simp
  rw [wd_cps] at hm
  obtain ⟨d, hd, e⟩ := List.mem_map.mp hm
  have := h d hd
  exact decide_eq_true (by omega)
theorem datL_strs : ∀ zs : List Str, datL (zs.map PV.str) = some (zs.map PyData.str)
  | [] => rfl
  | z :: zs => by
    rw [List.map_cons, datL, datL_strs zs]
    rfl
theorem lay_strs : ∀ zs : List Str, (∀ z ∈ zs, PyData.strOk z = true) → PyData.canLayAll0 (zs.map PyData.str) = true ∧ PyData.depthAll (zs.map PyData.str) = 0
  | [], _ => ⟨rfl, rfl⟩
  | z :: zs, h => by
    obtain ⟨h1, h2⟩ := lay_strs zs fun y hy => h y (List.mem_cons_of_mem _ hy)
    refine ⟨?_, ?_⟩
    · show (PyData.strOk z && PyData.canLayAll0 (zs.map PyData.str)) = true
      rw [h z List.mem_cons_self, h1]; rfl
    · show max 0 (PyData.depthAll (zs.map PyData.str)) = 0
      rw [h2]; rfl
theorem same_strs {k : Kd} (hk : k = .lst ∨ k = .tup) {zs : List Str} (h : ∀ z ∈ zs, PyData.strOk z = true) (S : Sto) : eqZ (.nd k (zs.map PV.str)) (.nd k (zs.map PV.str)) S = .ok (.bl true) S ∧ neZ (.nd k (zs.map PV.str)) (.nd k (zs.map PV.str)) S = .ok (.bl false) S := by
  obtain ⟨h1, h2⟩ := lay_strs zs h
  have hd : PyData.depthAll (zs.map PyData.str) + 1 ≤ 64 := by rw [h2]; decide
  rcases hk with rfl | rfl
  · have e : datS (.nd .lst (zs.map PV.str)) S = some (.list (zs.map PyData.str)) := by
      show (datL (zs.map PV.str)).map PyData.list = _
      rw [datL_strs]; rfl
    exact eqZ_same rfl e e h1 hd
  · have e : datS (.nd .tup (zs.map PV.str)) S = some (.tuple (zs.map PyData.str)) := by
      show (datL (zs.map PV.str)).map PyData.tuple = _
      rw [datL_strs]; rfl
    exact eqZ_same rfl e e h1 hd
/-- some words are not none -/
theorem ne_nil {z : Str} {zs : List Str} (h : ∀ y ∈ z :: zs, PyData.strOk y = true) (S : Sto) : eqZ (.nd .lst ((z :: zs).map PV.str)) (.nd .lst []) S = .ok (.bl false) S ∧ neZ (.nd .lst ((z :: zs).map PV.str)) (.nd .lst []) S = .ok (.bl true) S := by
  obtain ⟨h1, h2⟩ := lay_strs (z :: zs) h
  have hd : PyData.depthAll ((z :: zs).map PyData.str) + 1 ≤ 64 := by rw [h2]; decide
  have e : datS (.nd .lst ((z :: zs).map PV.str)) S = some (.list ((z :: zs).map PyData.str)) := by
    show (datL ((z :: zs).map PV.str)).map PyData.list = _
    rw [datL_strs]; rfl
  have e2 : datS (.nd .lst []) S = some (.list []) := rfl
  have sh : SeqAt.shaped (.list ((z :: zs).map PyData.str)) = true := by
    unfold SeqAt.shaped
    rw [show PyData.canLay0 (.list ((z :: zs).map PyData.str)) = true from h1, decide_eq_true (show PyData.depth (.list ((z :: zs).map PyData.str)) ≤ 64 from hd)]; rfl
  have sh2 : SeqAt.shaped (.list []) = true := by decide +kernel
  have er : PyData.eqv (.list ((z :: zs).map PyData.str)) (.list []) = false := rfl
  unfold eqZ neZ
  rw [show strPair (.nd .lst ((z :: zs).map PV.str)) (.nd .lst []) = none from rfl]
  simp only
  unfold eqD neD
  rw [e, e2]
  simp only
  rw [if_pos ⟨sh, sh2⟩, if_pos ⟨sh, sh2⟩, er]
  exact ⟨rfl, rfl⟩
theorem mk0 (k : Kd) (S : Sto) : mkNd k [] S = .ok (.nd k []) S := mkNd_ok S (by simp)
theorem wds_map (dss : List (List Nat)) : wdsOf dss = (dss.map wd).map PV.str := by unfold wdsOf; rw [List.map_map]; rfl
theorem lets_map (dss : List (List Nat)) (m : Nat) : letsOf dss m = ((List.range m).map fun i => wd (colOf dss i)).map PV.str := by unfold letsOf; rw [List.map_map]; rfl
theorem Good.oks {dss : List (List Nat)} {m : Nat} (g : Good dss m) : ∀ z ∈ dss.map wd, PyData.strOk z = true := fun z hz => by
  obtain ⟨ds, hd, rfl⟩ := List.mem_map.mp hz
  exact strOk_wd (g.dig ds hd)
theorem Good.lks {dss : List (List Nat)} {m : Nat} (g : Good dss m) : ∀ z ∈ (List.range m).map fun i => wd (colOf dss i), PyData.strOk z = true := fun z hz => by
  obtain ⟨i, _, rfl⟩ := List.mem_map.mp hz
  exact strOk_wd (g.col i)
theorem sub_wd {ds : List Nat} {i : Nat} (h : i < ds.length) (h2 : ds.length ≤ 16777216) (S : Sto) : subZ (.str (wd ds)) (.int (i : Nat)) S = .ok (sg (ds.getD i 0)) S := by
  have hat : atI (wd ds).cps.toList (i : Int) = some (48 + ds.getD i 0) := by
    rw [atI_ofNat, wd_cps, List.getElem?_map, List.getD_eq_getElem?_getD, List.getElem?_eq_getElem h]; rfl
  show (if (wd ds).length ≤ 16777216 then (match atI (wd ds).cps.toList (i : Int) with
    | some c => Out.ok (PV.str ⟨#[c]⟩) S
    | none => .bad) else .bad) = _
  rw [if_pos (by rw [wd_len]; exact h2), hat]
  rfl
theorem read_lc {a : List Nat} {r : List (List Nat)} {m : Nat} (g : Good (a :: r) m) {S : Sto} (e2 : subZ (.nd .lst (wdsOf (a :: r))) (.int 0) S = .ok (.str (wd a)) S) (e3 : lenP [.str (wd a)] S = .ok (.int (m : Nat)) S) : dLc [2] (dItA rngP (dCons (dApp lenP (dCons (dBin subZ (dVar 0) (dC (.int 0))) (dNil))) (dNil))) (.nm 2) (dYes) (dMet "str" joinP (dC (.str "")) (dCons (dLc [1] (dItV (dVar 0)) (.nm 1) (dYes) (dBin subZ (dVar 1) (dVar 2))) dNil)) [some (.nd .lst (wdsOf (a :: r))), none, none] S = .ok (.nd .lst (letsOf (a :: r) m)) S := by
  have hm := g.m100
  have hf := g.few
  have hi : dItA rngP (dCons (dApp lenP (dCons (dBin subZ (dVar 0) (dC (.int 0))) (dNil))) (dNil)) [some (.nd .lst (wdsOf (a :: r))), none, none] S = .ok ⟨rngZ 0 m, []⟩ S := by
    exact dItA_of (xs := [.int (m : Nat)]) (by simp only [dCons_ap, dApp_ap, dBin_ap, dVar_0, dC_ap, dNil_ap, bind_ok, e2, e3]) (rngP_nat m S (by omega))
  have := dLc_pure (vs := [2]) (t := .nm 2) (el := dMet "str" joinP (dC (.str "")) (dCons (dLc [1] (dItV (dVar 0)) (.nm 1) (dYes) (dBin subZ (dVar 1) (dVar 2))) dNil)) (l := [some (.nd .lst (wdsOf (a :: r))), none, none]) (S := S)
    (fun x => match x with | .int i => .str (wd (colOf (a :: r) i.toNat)) | _ => .non) hi (heldB_nil _) (by rw [rngZ_len]; omega) (by
      intro x hx
      obtain ⟨i, hx⟩ := List.mem_iff_getElem?.mp hx
      obtain ⟨hlt, rfl⟩ := rngZ_get hx
      refine ⟨_, asg1, ?_⟩
      have hj : joinP (.str "") [.nd .lst ((colOf (a :: r) i).map sg)] S = .ok (.str (wd (colOf (a :: r) i))) S := joinP_wd (by unfold colOf; rw [List.length_map]; omega)
      have hk : dLc [1] (dItV (dVar 0)) (.nm 1) (dYes) (dBin subZ (dVar 1) (dVar 2)) [some (.nd .lst (wdsOf (a :: r))), none, some (.int (i : Nat))] S = .ok (.nd .lst ((colOf (a :: r) i).map sg)) S := by
        have := dLc_pure (vs := [1]) (t := .nm 1) (di := dItV (dVar 0)) (el := dBin subZ (dVar 1) (dVar 2)) (l := [some (.nd .lst (wdsOf (a :: r))), none, some (.int (i : Nat))]) (S := S) (it := ⟨wdsOf (a :: r), []⟩)
          (fun x => match x with | .str t => .str ⟨#[t.cps.toList.getD i 0]⟩ | _ => .non) rfl (heldB_nil _) (by rw [wds_len]; omega) (by
            intro x hx
            obtain ⟨ds, hd, rfl⟩ := List.mem_map.mp hx
            refine ⟨_, asg1, ?_⟩
            have hl : i < ds.length := by rw [g.len ds hd]; omega
            have e := sub_wd hl (by rw [g.len ds hd]; omega) S
            show _ = Out.ok (PV.str ⟨#[(wd ds).cps.toList.getD i 0]⟩) S
            rw [wd_cps, List.getD_eq_getElem?_getD, List.getElem?_map, List.getElem?_eq_getElem hl]
            rw [List.getD_eq_getElem?_getD, List.getElem?_eq_getElem hl] at e
            simp [setZ, wipeZ]
            exact e)
        rw [this]
        congr 2
        unfold wdsOf colOf
        rw [List.map_map, List.map_map]
        refine List.map_congr_left fun ds hd => ?_
        have hl : i < ds.length := by rw [g.len ds hd]; omega
        show PV.str ⟨#[(wd ds).cps.toList.getD i 0]⟩ = sg (ds.getD i 0)
        rw [wd_cps, List.getD_eq_getElem?_getD, List.getElem?_map, List.getD_eq_getElem?_getD, List.getElem?_eq_getElem hl]
        rfl
      simp only [setZ, wipeZ_cons, wipeZ_nil, List.set_cons_succ, List.set_cons_zero, List.foldl_cons, List.foldl_nil, dMet_ap, dC_ap, bind_ok, tyOk_str, if_true, dCons_ap, dNil_ap, Nat.zero_add, Int.zero_add, hk, hj]
      rfl)
  rw [this]
  congr 2
  unfold letsOf rngZ
  rw [List.map_map]
  refine List.map_congr_left fun i _ => ?_
  show PV.str (wd (colOf (a :: r) ((0 : Int) + (i : Nat)).toNat)) = _
  rw [Int.zero_add, Int.toNat_natCast]
theorem read_body {X : DE} {V : PV} {L : List PV} {S : Sto} (h : X [some V, none, none] S = .ok (.nd .lst L) S) (e1 : eqZ V (.nd .lst []) S = .ok (.bl false) S) :
    (dSeq (dIfS (dB (dBin eqZ (dVar 0) (dLst (dNil)))) (dRet (dTup (dNil))) (dSkip)) (dRet (dApp tupP (dCons X (dNil))))) [some V, none, none] S = .ret (.nd .tup L) S := by
  simp [mk0, e1, h]
/-- the law's own reading -/
theorem read_ok {dss : List (List Nat)} {m : Nat} (g : Good dss m) (S : Sto) : d__law_read [.nd .lst (wdsOf dss)] S = .ok (.nd .tup (letsOf dss m)) S := by
  refine dDef_ret _ _ rfl ?_ (Nat.le_refl _)
  have hm := g.m100
  have hf := g.few
  unfold b__law_read
  cases dss with
  | nil =>
    obtain rfl := g.nil rfl
    rfl
  | cons a r =>
    have e1 := (ne_nil (z := wd a) (zs := r.map wd) (by rw [← List.map_cons]; exact g.oks) S).1
    rw [← List.map_cons, ← wds_map] at e1
    have e2 : subZ (.nd .lst (wdsOf (a :: r))) (.int 0) S = .ok (.str (wd a)) S := subZ_l0 _ _ S
    have la : a.length = m := g.len a List.mem_cons_self
    have e3 : lenP [.str (wd a)] S = .ok (.int (m : Nat)) S := by rw [len_wd (by omega), la]
    exact read_body (read_lc g e2 e3) e1
/-- reading(*words) -/
theorem star_ok {dss : List (List Nat)} {m : Nat} (g : Good dss m) (S : Sto) : dStar 0 d_reading (wdsOf dss) S = .ok (.nd .tup (letsOf dss m)) S := by
  unfold dStar
  rw [if_pos ⟨Nat.zero_le _, by rw [wds_len]; have := g.few; omega⟩]
  exact reading_ok g S
theorem told_ok {dss : List (List Nat)} {m : Nat} (g : Good dss m) (S : Sto) : d__law_told [.nd .lst (wdsOf dss)] S = .ok (.nd .tup (letsOf dss m)) S := by
  refine dDef_ret _ _ rfl ?_ (Nat.le_refl _)
  have hf := g.few
  have hs := star_ok g S
  have e1 : ∀ a r, dss = a :: r → eqZ (.nd .lst (wdsOf dss)) (.nd .lst []) S = .ok (.bl false) S := fun a r e => by
    have := (ne_nil (z := wd a) (zs := r.map wd) (by rw [← List.map_cons, ← e]; exact g.oks) S).1
    rw [← List.map_cons, ← e, ← wds_map] at this
    exact this
  unfold b__law_told
  rcases dss with _ | ⟨a, _ | ⟨b, _ | ⟨c, _ | ⟨d, r⟩⟩⟩⟩
  · obtain rfl := g.nil rfl
    have hs : dStar 0 d_reading [] S = .ok (.nd .tup (letsOf [] 0)) S := hs
    have l : ltZ (.int ((wdsOf []).length : Nat)) (.int 2) S = .ok (.bl true) S := rfl
    have e : eqZ (.nd .lst (wdsOf [])) (.nd .lst []) S = .ok (.bl true) S := rfl
    simp [mk0, l, e, hs]
  · have e := e1 a [] rfl
    have l : ltZ (.int ((wdsOf [a]).length : Nat)) (.int 2) S = .ok (.bl true) S := rfl
    have s0 : subZ (.nd .lst (wdsOf [a])) (.int 0) S = .ok (.str (wd a)) S := subZ_l0 _ _ S
    have hs : dStar 0 d_reading [.str (wd a)] S = _ := hs
    simp [mk0, l, e, hs, s0]
  · have e := e1 a [b] rfl
    have l : ltZ (.int ((wdsOf [a, b]).length : Nat)) (.int 2) S = .ok (.bl false) S := rfl
    have l2 : eqZ (.int ((wdsOf [a, b]).length : Nat)) (.int 2) S = .ok (.bl true) S := rfl
    have s0 : subZ (.nd .lst (wdsOf [a, b])) (.int 0) S = .ok (.str (wd a)) S := subZ_l0 _ _ S
    have s1 : subZ (.nd .lst (wdsOf [a, b])) (.int 1) S = .ok (.str (wd b)) S := rfl
    have hs : dStar 0 d_reading [.str (wd a), .str (wd b)] S = _ := hs
    simp [mk0, l, l2, hs, s0, s1]
  · have l : ltZ (.int ((wdsOf [a, b, c]).length : Nat)) (.int 2) S = .ok (.bl false) S := rfl
    have l2 : eqZ (.int ((wdsOf [a, b, c]).length : Nat)) (.int 2) S = .ok (.bl false) S := rfl
    have l3 : eqZ (.int ((wdsOf [a, b, c]).length : Nat)) (.int 3) S = .ok (.bl true) S := rfl
    have s0 : subZ (.nd .lst (wdsOf [a, b, c])) (.int 0) S = .ok (.str (wd a)) S := subZ_l0 _ _ S
    have s1 : subZ (.nd .lst (wdsOf [a, b, c])) (.int 1) S = .ok (.str (wd b)) S := rfl
    have s2 : subZ (.nd .lst (wdsOf [a, b, c])) (.int 2) S = .ok (.str (wd c)) S := rfl
    have hs : dStar 0 d_reading [.str (wd a), .str (wd b), .str (wd c)] S = _ := hs
    simp [mk0, l, l2, l3, hs, s0, s1, s2]
  · simp at hf
end Z
end
end
section
set_option Elab.async false
set_option linter.all false
set_option maxRecDepth 100000
set_option maxHeartbeats 2000000
/-! K04F: the words behind letters. -/
noncomputable section
namespace Z
open PySem PySem.Spec PyProof.Rows L2
theorem int_same (i : Int) (S : Sto) : eqZ (.int i) (.int i) S = .ok (.bl true) S := (eqZ_same (d := .int i) rfl rfl rfl rfl (by show 0 ≤ 64; decide)).1
theorem all4 {ds : List Nat} (h : ∀ d ∈ ds, d < 4) : ((wd ds).cps.toList.all fun c => decide (c ∈ digs 4)) = true := by
  rw [wd_cps, List.all_eq_true]
  intro c hc
  obtain ⟨d, hd, rfl⟩ := List.mem_map.mp hc
  have := h d hd
  refine decide_eq_true ?_
  rw [digs_4]
  have : d = 0 ∨ d = 1 ∨ d = 2 ∨ d = 3 := by omega
  rcases this with rfl | rfl | rfl | rfl <;> decide
theorem letter_ok {ds : List Nat} (h : ∀ d ∈ ds, d < 4) (hl : ds.length ≤ 100) (S : Sto) : d_is_letter_of [.str (wd ds), .int 4, .int (ds.length : Nat)] S = .ok (.bl true) S := by
  refine dDef_ret _ _ rfl ?_ (Nat.le_refl _)
  have h1 : d_are_digits [.str (wd ds), .int 4] S = .ok (.bl true) S := by rw [dgA _ _ _ (by rw [wd_len]; omega), all4 h]
  have h2 := len_wd (show ds.length ≤ 16777216 by omega) S
  unfold b_is_letter_of
  simp [h1, h2, truP, int_same]
theorem col_len (dss : List (List Nat)) (i : Nat) : (colOf dss i).length = dss.length := List.length_map _
theorem back_col {dss : List (List Nat)} {m p : Nat} {ds : List Nat} (g : Good dss m) (hp : dss[p]? = some ds) : ((List.range m).map fun i => sg ((colOf dss i).getD p 0)) = ds.map sg := by
  have hl : ds.length = m := g.len ds (List.mem_of_getElem? hp)
  apply List.ext_getElem?
  intro i
  rw [List.getElem?_map, List.getElem?_map]
  by_cases hi : i < m
  · rw [List.getElem?_range hi, List.getElem?_eq_getElem (by omega)]
    show some (sg _) = some (sg _)
    congr 2
    unfold colOf
    rw [List.getD_eq_getElem?_getD, List.getElem?_map, hp]
    show ds.getD i 0 = _
    rw [List.getD_eq_getElem?_getD, List.getElem?_eq_getElem (by omega)]
    rfl
  · rw [List.getElem?_eq_none (by rw [List.length_range]; omega), List.getElem?_eq_none (by omega)]
    rfl
/-- one place of each letter -/
theorem place_lc {dss : List (List Nat)} {m p : Nat} {ds : List Nat} (g : Good dss m) (hp : dss[p]? = some ds) {w : PV} {y : Option PV} {S : Sto} :
    dLc [2] (dItV (dVar 0)) (.nm 2) (dYes) (dBin subZ (dVar 2) (dVar 3)) [some (.nd .tup (letsOf dss m)), some w, y, some (.int (p : Nat))] S = .ok (.nd .lst (ds.map sg)) S := by
  have hm := g.m100
  have hf := g.few
  have hlt : p < dss.length := (List.getElem?_eq_some_iff.mp hp).1
  have := dLc_pure (vs := [2]) (t := .nm 2) (di := dItV (dVar 0)) (el := dBin subZ (dVar 2) (dVar 3)) (l := [some (.nd .tup (letsOf dss m)), some w, y, some (.int (p : Nat))]) (S := S) (it := ⟨letsOf dss m, []⟩)
    (fun x => match x with | .str t => .str ⟨#[t.cps.toList.getD p 0]⟩ | _ => .non) rfl (heldB_nil _) (by rw [lets_len]; omega) (by
      intro x hx
      obtain ⟨i, hd, rfl⟩ := List.mem_map.mp hx
      refine ⟨_, asg1, ?_⟩
      have hl : p < (colOf dss i).length := by rw [col_len]; exact hlt
      have e := sub_wd hl (by rw [col_len]; omega) S
      show _ = Out.ok (PV.str ⟨#[(wd (colOf dss i)).cps.toList.getD p 0]⟩) S
      rw [wd_cps, List.getD_eq_getElem?_getD, List.getElem?_map, List.getElem?_eq_getElem hl]
      rw [List.getD_eq_getElem?_getD, List.getElem?_eq_getElem hl] at e
      simp [setZ, wipeZ]
      exact e)
  rw [this, ← back_col g hp]
  congr 2
  unfold letsOf
  rw [List.map_map]
  refine List.map_congr_left fun i _ => ?_
  have hl : p < (colOf dss i).length := by rw [col_len]; exact hlt
  show PV.str ⟨#[(wd (colOf dss i)).cps.toList.getD p 0]⟩ = sg ((colOf dss i).getD p 0)
  rw [wd_cps, List.getD_eq_getElem?_getD, List.getElem?_map, List.getD_eq_getElem?_getD, List.getElem?_eq_getElem hl]
  rfl
theorem back_wds (dss : List (List Nat)) : ((rngZ 0 dss.length).map fun x => match x with | .int i => PV.str (wd (dss.getD i.toNat [])) | _ => .non) = wdsOf dss := by
  unfold wdsOf rngZ
  rw [List.map_map]
  apply List.ext_getElem?
  intro i
  rw [List.getElem?_map, List.getElem?_map]
  by_cases hi : i < dss.length
  · rw [List.getElem?_range hi, List.getElem?_eq_getElem hi]
    show some (PV.str (wd (dss.getD ((0 : Int) + (i : Nat)).toNat []))) = _
    rw [Int.zero_add, Int.toNat_natCast, List.getD_eq_getElem?_getD, List.getElem?_eq_getElem hi]; rfl
  · rw [List.getElem?_eq_none (by rw [List.length_range]; omega), List.getElem?_eq_none (by omega)]
    rfl
theorem words_lc {dss : List (List Nat)} {m : Nat} (g : Good dss m) {y : Option PV} {S : Sto} :
    dLc [3] (dItA rngP (dCons (dVar 1) (dNil))) (.nm 3) (dYes) (dMet "str" joinP (dC (.str "")) (dCons (dLc [2] (dItV (dVar 0)) (.nm 2) (dYes) (dBin subZ (dVar 2) (dVar 3))) dNil)) [some (.nd .tup (letsOf dss m)), some (.int (dss.length : Nat)), y, none] S = .ok (.nd .lst (wdsOf dss)) S := by
  have hm := g.m100
  have hf := g.few
  have hi : dItA rngP (dCons (dVar 1) (dNil)) [some (.nd .tup (letsOf dss m)), some (.int (dss.length : Nat)), y, none] S = .ok ⟨rngZ 0 dss.length, []⟩ S :=
    dItA_of (xs := [.int (dss.length : Nat)]) (by simp only [dCons_ap, dVar_0, dVar_s, dNil_ap, bind_ok]) (rngP_nat _ S (by omega))
  have := dLc_pure (vs := [3]) (t := .nm 3) (el := dMet "str" joinP (dC (.str "")) (dCons (dLc [2] (dItV (dVar 0)) (.nm 2) (dYes) (dBin subZ (dVar 2) (dVar 3))) dNil)) (l := [some (.nd .tup (letsOf dss m)), some (.int (dss.length : Nat)), y, none]) (S := S)
    (fun x => match x with | .int i => .str (wd (dss.getD i.toNat [])) | _ => .non) hi (heldB_nil _) (by rw [rngZ_len]; omega) (by
      intro x hx
      obtain ⟨i, hx⟩ := List.mem_iff_getElem?.mp hx
      obtain ⟨hlt, rfl⟩ := rngZ_get hx
      refine ⟨_, asg1, ?_⟩
      have hp : dss[i]? = some dss[i] := List.getElem?_eq_getElem hlt
      have hl : (dss[i]).length = m := g.len _ (List.getElem_mem hlt)
      have hj : joinP (.str "") [.nd .lst ((dss[i]).map sg)] S = .ok (.str (wd dss[i])) S := joinP_wd (by omega)
      have hk := place_lc g hp (w := .int (dss.length : Nat)) (y := y) (S := S)
      have e : dss.getD ((0 : Int) + (i : Nat)).toNat [] = dss[i] := by
        rw [Int.zero_add, Int.toNat_natCast, List.getD_eq_getElem?_getD, hp]; rfl
      show _ = Out.ok (PV.str (wd (dss.getD ((0 : Int) + (i : Nat)).toNat []))) S
      rw [e]
      simp only [setZ, wipeZ_cons, wipeZ_nil, List.set_cons_succ, List.set_cons_zero, List.foldl_cons, List.foldl_nil, dMet_ap, dC_ap, bind_ok, tyOk_str, if_true, dCons_ap, dNil_ap, Nat.zero_add, Int.zero_add, hk, hj])
  rw [this, back_wds]
theorem gt100 {n : Nat} (h : n ≤ 100) (S : Sto) : gtZ (.int (n : Nat)) (.int 100) S = .ok (.bl false) S := by
  show Out.ok (PV.bl (decide ((100 : Int) < (n : Nat)))) S = _
  rw [decide_eq_false (by omega)]
theorem isi_tup (xs : List PV) (S : Sto) : isiX I0 [.nd .tup xs, .ty "tuple"] S = .ok (.bl true) S := rfl
theorem words_body {X : DE} {F : DS} {B : DF} {I : List PV → Sto → Out PV} {gt_ : PV → PV → Sto → Out PV} {R1 R2 : DS} {xs L : List PV} {k : PV} {y : Option PV} {S : Sto} (hb : B [k, .int 1, .int 3] S = .ok (.bl true) S)
    (hi : I [.nd .tup xs, .ty "tuple"] S = .ok (.bl true) S) (hg : gt_ (.int (xs.length : Nat)) (.int 100) S = .ok (.bl false) S) (hF : F [some (.nd .tup xs), some k, none, none] S = .nx [some (.nd .tup xs), some k, y, none] S)
    (hX : X [some (.nd .tup xs), some k, y, none] S = .ok (.nd .lst L) S) :
    (dSeq (dIfS (dNotT (dTru (dFn B (dCons (dVar 1) (dCons (dC (.int 1)) (dCons (dC (.int 3)) (dNil))))))) R1 (dSkip)) (dSeq (dIfS (dOrT (dNotT (dTru (dApp I (dCons (dVar 0) (dCons (dC (.ty "tuple")) (dNil)))))) (dB (dBin gt_ (dApp lenP (dCons (dVar 0) (dNil))) (dC (.int 100))))) R2 (dSkip)) (dSeq F (dRet (dApp tupP (dCons X (dNil))))))) [some (.nd .tup xs), some k, none, none] S = .ret (.nd .tup L) S := by
  simp [hb, hi, hg, hF, hX, truP]
theorem words_ok {dss : List (List Nat)} {m : Nat} (g : Good dss m) (h0 : dss ≠ []) (S : Sto) : d_words_of [.nd .tup (letsOf dss m), .int (dss.length : Nat)] S = .ok (.nd .tup (wdsOf dss)) S := by
  refine dDef_ret _ _ rfl ?_ (Nat.le_refl _)
  have hf := g.few
  have hm := g.m100
  have hk : 0 < dss.length := List.length_pos_iff.mpr h0
  obtain ⟨y, hfor⟩ := for_chk (b := dIfS (dNotT (dTru (dFn d_is_letter_of (dCons (dVar 2) (dCons (dC (.int 4)) (dCons (dVar 1) (dNil))))))) (dRaise 1 [3] (dCons (dVar 2) (dNil))) (dSkip)) (S := S) (k := 2) (l := [some (.nd .tup (letsOf dss m)), some (.int (dss.length : Nat)), none, none]) (letsOf dss m) (by
    intro x hx
    obtain ⟨i, hd, rfl⟩ := List.mem_map.mp hx
    have e := letter_ok (g.col i) (by rw [col_len]; omega) S
    rw [col_len] at e
    simp [e, truP])
  have hit : dItV (dVar 0) [some (.nd .tup (letsOf dss m)), some (.int (dss.length : Nat)), none, none] S = .ok ⟨letsOf dss m, []⟩ S := rfl
  have hF : dFor (dItV (dVar 0)) (.nm 2) (dIfS (dNotT (dTru (dFn d_is_letter_of (dCons (dVar 2) (dCons (dC (.int 4)) (dCons (dVar 1) (dNil))))))) (dRaise 1 [3] (dCons (dVar 2) (dNil))) (dSkip)) [some (.nd .tup (letsOf dss m)), some (.int (dss.length : Nat)), none, none] S = .nx [some (.nd .tup (letsOf dss m)), some (.int (dss.length : Nat)), y, none] S := by
    rw [dFor_eq hit (heldB_nil _)]
    exact hfor
  have hb : d_is_between [.int (dss.length : Nat), .int 1, .int 3] S = .ok (.bl true) S := by
    rw [between, decide_eq_true (by omega), decide_eq_true (by omega)]; rfl
  have hg : gtZ (.int ((letsOf dss m).length : Nat)) (.int 100) S = .ok (.bl false) S := gt100 (by rw [lets_len]; exact hm) S
  exact words_body (B := d_is_between) (gt_ := gtZ) hb (isi_tup _ S) hg hF (words_lc g (y := y) (S := S))
end Z
end
end
section
set_option Elab.async false
set_option linter.all false
set_option maxRecDepth 100000
set_option maxHeartbeats 2000000
/-! K04G: drawn words; the law's first half. -/
noncomputable section
namespace Z
open PySem PySem.Spec PyProof.Rows L2
theorem dr : DrOk d__law_draw := dr_of (k1 := 88223) (k2 := 9099) (m1 := 2147483587) (k3 := 35179) (k4 := 327) (m2 := 2147483563) (k5 := 139) (k6 := 62167) (k7 := 25) (m3 := 2147483587) ⟨by decide, by decide⟩ ⟨by decide, by decide⟩ ⟨by decide, by decide⟩ ⟨by decide, by decide⟩ ⟨by decide, by decide⟩ ⟨by decide, by decide⟩ ⟨by decide, by decide⟩ ⟨by decide, by decide⟩ ⟨by decide, by decide⟩
theorem pickS {n : Nat} {T S : Sto} (h : PenS n T S) (hn : n ≤ 100000) : ∃ d S', d__law_pick [.ref 0, .str "0123"] S = .ok (sg d) S' ∧ d < 4 ∧ PenS (n + 1) T S' := by
  have e : ("0123" : Str) = wd (List.range 4) := by decide +kernel
  rw [e]
  obtain ⟨c, S', h1, h2, h3⟩ := pickS_ok dr (z := wd (List.range 4)) h hn (by rw [wd_len, List.length_range]; decide) (by rw [wd_len, List.length_range]; decide)
  rw [wd_cps] at h2
  obtain ⟨d, hd, rfl⟩ := List.mem_map.mp h2
  exact ⟨d, S', h1, List.mem_range.mp hd, h3⟩
theorem sgs_of : ∀ ws : List PV, (∀ v ∈ ws, ∃ d, d < 4 ∧ v = sg d) → ∃ ds : List Nat, ws = ds.map sg ∧ ∀ d ∈ ds, d < 4 := by
  intro ws
  induction ws with
  | nil => intro _; exact ⟨[], rfl, fun d hd => nomatch hd⟩
  | cons w ws ih =>
    intro hw
    obtain ⟨d, h1, rfl⟩ := hw w List.mem_cons_self
    obtain ⟨ds, rfl, h2⟩ := ih fun v hv => hw v (List.mem_cons_of_mem _ hv)
    exact ⟨d :: ds, rfl, fun x hx => (List.mem_cons.mp hx).elim (fun e => by rw [e]; exact h1) (h2 x)⟩
theorem join_body {X : DE} {W : PV} {xs : List PV} {l : Loc} {S S' : Sto} (h : X l S = .ok (.nd .lst xs) S') (hj : joinP (.str "") [.nd .lst xs] S' = .ok W S') : dRet (dMet "str" joinP (dC (.str "")) (dCons X dNil)) l S = .ret W S' := by
  simp [h, hj, tyOk_str]
/-- a drawn word -/
theorem drawn_ok {n k : Nat} {T S : Sto} (h : PenS n T S) (hn : n + 100 ≤ 100000) (hk : k ≤ 100) : ∃ ds S', d__law_drawn [.ref 0, .int (k : Nat)] S = .ok (.str (wd ds)) S' ∧ ds.length = k ∧ (∀ d ∈ ds, d < 4) ∧ PenS (n + k) T S' := by
  have hit : dItA rngP (dCons (dVar 1) (dNil)) [some (.ref 0), some (.int (k : Nat)), none] S = .ok ⟨rngZ 0 k, []⟩ S :=
    dItA_of (xs := [.int (k : Nat)]) (by simp only [dCons_ap, dVar_0, dVar_s, dNil_ap, bind_ok]) (rngP_nat _ S (by omega))
  obtain ⟨ws, S', h1, h2, h3, h4⟩ := dLc_inv (vs := [2]) (di := dItA rngP (dCons (dVar 1) (dNil))) (t := .nm 2) (el := dFn d__law_pick (dCons (dVar 0) (dCons (dC (.str "0123")) (dNil)))) (l := [some (.ref 0), some (.int (k : Nat)), none])
    (fun v => ∃ d, d < 4 ∧ v = sg d) (fun i S => PenS (n + i) T S ∧ i ≤ k) hit (by rw [rngZ_len]; omega) ⟨h, Nat.zero_le _⟩ (by
      rintro i x S1 hx ⟨hP, hi⟩
      obtain ⟨hlt, rfl⟩ := rngZ_get hx
      obtain ⟨d, S2, p1, p2, p3⟩ := pickS hP (by omega)
      refine ⟨_, sg d, S2, asg1, ?_, ⟨d, p2, rfl⟩, p3, by omega⟩
      exact dFn_of2 (xs := [.ref 0, .str "0123"]) (by simp only [setZ, wipeZ_cons, wipeZ_nil, List.set_cons_succ, List.set_cons_zero, List.foldl_cons, List.foldl_nil, dCons_ap, dNil_ap, dC_ap, dVar_0, bind_ok]) p1)
  rw [rngZ_len] at h2 h4
  obtain ⟨ds, rfl, hd⟩ := sgs_of ws h3
  rw [List.length_map] at h2
  refine ⟨ds, S', ?_, h2, hd, h4.1⟩
  refine dDef_ret _ _ rfl ?_ (by rw [h4.1.len, h.len]; exact Nat.le_refl _)
  have hj : joinP (.str "") [.nd .lst (ds.map sg)] S' = .ok (.str (wd ds)) S' := joinP_wd (by omega)
  exact join_body h1 hj
theorem dLc_inv2 {vs : List Nat} {di : DI} {t : TgZ} {el : DE} {l : Loc} {S S1 : Sto} {items : List PV} (P : PV → Prop) (I : Nat → Sto → Prop) (hi : di l S = .ok ⟨items, []⟩ S1) (hl : items.length ≤ 16777216) (h0 : I 0 S1)
    (st : ∀ i x S, items[i]? = some x → I i S → ∃ ps v S', asg t x = some ps ∧ el (setZ (wipeZ l vs) ps) S = .ok v S' ∧ P v ∧ I (i + 1) S') :
    ∃ ws S', dLc vs di t dYes el l S = .ok (.nd .lst ws) S' ∧ ws.length = items.length ∧ (∀ v ∈ ws, P v) ∧ I items.length S' := by
  obtain ⟨ws, S', h1, h2⟩ := dLc_inv (vs := vs) (di := fun _ S => .ok ⟨items, []⟩ S) (t := t) (el := el) (l := l) (S := S1) P I rfl hl h0 st
  refine ⟨ws, S', ?_, h2⟩
  rw [← h1, dLc_ap, dLc_ap, dLc0_ap, dLc0_ap, hi]
def r0 : DS := dSet 1 (dFn d__law_pick (dCons (dVar 0) (dCons (dLst (dCons (dC (.int 0)) (dCons (dC (.int 1)) (dCons (dC (.int 2)) (dCons (dC (.int 7)) (dCons (dFn d__law_draw (dCons (dVar 0) (dCons (dC (.int 101)) (dNil)))) (dNil))))))) (dNil))))
def r1 : DS := dSet 2 (dLc [3] (dItA rngP (dCons (dFn d__law_draw (dCons (dVar 0) (dCons (dC (.int 4)) (dNil)))) (dNil))) (.nm 3) (dYes) (dFn d__law_drawn (dCons (dVar 0) (dCons (dVar 1) (dNil)))))
def r2 : DS := dSet 4 (dFn d__law_read (dCons (dVar 2) (dNil)))
def r3 : DS := dIfS (dOrT (dB (dBin neZ (dFn d__law_told (dCons (dVar 2) (dNil))) (dVar 4))) (dAndT (dB (dBin neZ (dVar 2) (dLst (dNil)))) (dB (dBin neZ (dFn d_words_of (dCons (dVar 4) (dCons (dApp lenP (dCons (dVar 2) (dNil))) (dNil)))) (dApp tupP (dCons (dVar 2) (dNil))))))) (dRet (dC (.bl false))) (dSkip)
def r4 : DS := dIfS (dAndT (dB (dBin neZ (dVar 2) (dLst (dNil)))) (dB (dBin neZ (dFnP [1, 0] d_words_of (dCons (dApp lenP (dCons (dVar 2) (dNil))) (dCons (dVar 4) (dNil)))) (dApp tupP (dCons (dVar 2) (dNil)))))) (dRet (dC (.bl false))) (dSkip)
def r5 : DS := dRet (dAnd (dBin eqZ (dFn d_words_of (dCons (dTup (dNil)) (dCons (dC (.int 3)) (dNil)))) (dTup (dCons (dC (.str "")) (dCons (dC (.str "")) (dCons (dC (.str "")) (dNil)))))) (dBin eqZ (dFn d_words_of (dCons (dTup (dNil)) (dCons (dC (.int 1)) (dNil)))) (dTup (dCons (dC (.str "")) (dNil)))))
theorem _law_right_eq : b__law_right = dSeq r0 (dSeq r1 (dSeq r2 (dSeq r3 (dSeq r4 (r5))))) := rfl


theorem draw_nat {n many : Nat} {T S : Sto} (h : PenS n T S) (hn : n ≤ 100000) (h1 : 1 ≤ many) (h2 : many ≤ 1000) : ∃ v S', d__law_draw [.ref 0, .int (many : Nat)] S = .ok (.int (v : Nat)) S' ∧ v < many ∧ PenS (n + 1) T S' := by
  obtain ⟨v, S', e1, e2, e3, e4⟩ := dr n T S (many : Nat) h hn (by omega) (by omega)
  obtain ⟨i, rfl⟩ := Int.eq_ofNat_of_zero_le e2
  exact ⟨i, S', e1, by omega, e4⟩
def lr (a b c d : Option PV) : Loc := [some (.ref 0), a, b, c, d]
theorem arg_l {X : DE} {l : Loc} {S S1 : Sto} {v : PV} (hd : X (some (.ref 0) :: l) S = .ok v S1) (hl : mkNd .lst [.int 0, .int 1, .int 2, .int 7, v] S1 = .ok (.nd .lst [.int 0, .int 1, .int 2, .int 7, v]) S1) :
    dCons (dVar 0) (dCons (dLst (dCons (dC (.int 0)) (dCons (dC (.int 1)) (dCons (dC (.int 2)) (dCons (dC (.int 7)) (dCons X (dNil))))))) (dNil)) (some (.ref 0) :: l) S = .ok [.ref 0, .nd .lst [.int 0, .int 1, .int 2, .int 7, v]] S1 := by
  simp [hd, hl]
theorem dItA_of2 {f : List PV → Sto → Out ItZ} {ar : DA} {l : Loc} {S S1 S2 : Sto} {xs : List PV} {it : ItZ} (h : ar l S = .ok xs S1) (hf : f xs S1 = .ok it S2) : dItA f ar l S = .ok it S2 := by
  rw [dItA_ap, h]
  exact hf
theorem fnP_of {f : DF} {ar : DA} {l : Loc} {S S1 : Sto} {x y v : PV} (h : ar l S = .ok [x, y] S) (hp : permL [1, 0] [x, y] = [y, x]) (hf : f [y, x] S = .ok v S1) : dFnP [1, 0] f ar l S = .ok v S1 := by
  rw [dFnP_ap, h, bind_ok, if_pos (show [x, y].length = [1, 0].length from rfl), hp]
  exact hf
theorem r0_ok {n : Nat} {S : Sto} (h : PenS n [] S) (hn : n + 2 ≤ 100000) : ∃ m S', r0 (lr none none none none) S = .nx (lr (some (.int (m : Nat))) none none none) S' ∧ m ≤ 100 ∧ PenS (n + 2) [] S' := by
  obtain ⟨v, S1, e1, e2, e3⟩ := draw_nat h (by omega) (many := 101) (by decide) (by decide)
  obtain ⟨x, S2, f1, f2, f3⟩ := pick_ok dr (xs := [.int 0, .int 1, .int 2, .int 7, .int (v : Nat)]) e3 (by omega) (by simp) (by simp)
  have hx : ∃ m : Nat, x = .int (m : Nat) ∧ m ≤ 100 := by
    simp only [List.mem_cons, List.not_mem_nil, or_false] at f2
    rcases f2 with rfl | rfl | rfl | rfl | rfl
    · exact ⟨0, rfl, by decide⟩
    · exact ⟨1, rfl, by decide⟩
    · exact ⟨2, rfl, by decide⟩
    · exact ⟨7, rfl, by decide⟩
    · exact ⟨v, rfl, by omega⟩
  obtain ⟨m, rfl, hm⟩ := hx
  refine ⟨m, S2, ?_, hm, f3⟩
  have hd : dFn d__law_draw (dCons (dVar 0) (dCons (dC (.int 101)) (dNil))) (lr none none none none) S = .ok (.int (v : Nat)) S1 := dFn_of2 (xs := [.ref 0, .int ((101 : Nat) : Int)]) rfl e1
  have hl : mkNd .lst [.int 0, .int 1, .int 2, .int 7, .int (v : Nat)] S1 = .ok (.nd .lst [.int 0, .int 1, .int 2, .int 7, .int (v : Nat)]) S1 := mkNd_ok _ (by simp)
  exact dSet_of (dFn_of2 (xs := [.ref 0, .nd .lst [.int 0, .int 1, .int 2, .int 7, .int (v : Nat)]]) (arg_l hd hl) f1)
theorem r1_ok {n m : Nat} {S : Sto} (h : PenS n [] S) (hn : n + 304 ≤ 100000) (hm : m ≤ 100) : ∃ dss S', r1 (lr (some (.int (m : Nat))) none none none) S = .nx (lr (some (.int (m : Nat))) (some (.nd .lst (wdsOf dss))) none none) S' ∧ dss.length ≤ 3 ∧ (∀ ds ∈ dss, ds.length = m ∧ ∀ d ∈ ds, d < 4) ∧ PenS (n + 304) [] S' := by
  obtain ⟨v, S1, e1, e2, e3⟩ := draw_nat h (by omega) (many := 4) (by decide) (by decide)
  have hd : dFn d__law_draw (dCons (dVar 0) (dCons (dC (.int 4)) (dNil))) (lr (some (.int (m : Nat))) none none none) S = .ok (.int (v : Nat)) S1 := dFn_of2 (xs := [.ref 0, .int ((4 : Nat) : Int)]) rfl e1
  have hi : dItA rngP (dCons (dFn d__law_draw (dCons (dVar 0) (dCons (dC (.int 4)) (dNil)))) (dNil)) (lr (some (.int (m : Nat))) none none none) S = .ok ⟨rngZ 0 v, []⟩ S1 := by
    have ha : dCons (dFn d__law_draw (dCons (dVar 0) (dCons (dC (.int 4)) (dNil)))) (dNil) (lr (some (.int (m : Nat))) none none none) S = .ok [.int (v : Nat)] S1 := by simp only [dCons_ap, hd, bind_ok, dNil_ap]
    exact dItA_of2 ha (rngP_nat v S1 (by omega))
  obtain ⟨ws, S2, h1, h2, h3, h4⟩ := dLc_inv2 (vs := [3]) (t := .nm 3) (el := dFn d__law_drawn (dCons (dVar 0) (dCons (dVar 1) (dNil))))
    (fun w => ∃ ds : List Nat, w = .str (wd ds) ∧ ds.length = m ∧ ∀ d ∈ ds, d < 4) (fun i S => PenS (n + 1 + i * 101) [] S ∧ i ≤ v) hi (by rw [rngZ_len]; omega) ⟨by simpa using e3, Nat.zero_le _⟩ (by
      rintro i x S1 hx ⟨hP, hi⟩
      obtain ⟨hlt, rfl⟩ := rngZ_get hx
      obtain ⟨ds, S3, p1, p2, p3, p4⟩ := drawn_ok hP (by omega) hm
      refine ⟨_, .str (wd ds), S3, asg1, ?_, ⟨ds, rfl, p2, p3⟩, p4.mono (by omega), by omega⟩
      exact dFn_of2 (xs := [.ref 0, .int (m : Nat)]) (by simp only [lr, setZ, wipeZ_cons, wipeZ_nil, List.set_cons_succ, List.set_cons_zero, List.foldl_cons, List.foldl_nil, dCons_ap, dNil_ap, dC_ap, dVar_0, dVar_s, bind_ok]) p1)
  rw [rngZ_len] at h2 h4
  have hw : ∀ ws : List PV, (∀ w ∈ ws, ∃ ds : List Nat, w = .str (wd ds) ∧ ds.length = m ∧ ∀ d ∈ ds, d < 4) → ∃ dss : List (List Nat), ws = wdsOf dss ∧ ∀ ds ∈ dss, ds.length = m ∧ ∀ d ∈ ds, d < 4 := by
    intro ws
    induction ws with
    | nil => intro _; exact ⟨[], rfl, fun d hd => nomatch hd⟩
    | cons w ws ih =>
      intro hw
      obtain ⟨ds, rfl, q⟩ := hw w List.mem_cons_self
      obtain ⟨dss, rfl, q2⟩ := ih fun v hv => hw v (List.mem_cons_of_mem _ hv)
      exact ⟨ds :: dss, rfl, fun x hx => (List.mem_cons.mp hx).elim (fun e => by rw [e]; exact q) (q2 x)⟩
  obtain ⟨dss, rfl, q⟩ := hw ws h3
  rw [wds_len] at h2
  exact ⟨dss, S2, dSet_of h1, by omega, q, h4.1.mono (by omega)⟩
/-- what the two readings and the words back come to -/
theorem r3_gen {told wof : DE} {V L W : PV} {l : Loc} {S : Sto} {b : Bool} {t : DE} (h1 : told l S = .ok L S) (h2 : t l S = .ok L S) (h3 : neZ L L S = .ok (.bl false) S) (hv : dVar 2 l S = .ok V S) (h4 : neZ V (.nd .lst []) S = .ok (.bl b) S)
    (h5 : b = true → wof l S = .ok W S ∧ tupP [V] S = .ok W S ∧ neZ W W S = .ok (.bl false) S) : dIfS (dOrT (dB (dBin neZ told t)) (dAndT (dB (dBin neZ (dVar 2) (dLst (dNil)))) (dB (dBin neZ wof (dApp tupP (dCons (dVar 2) (dNil))))))) (dRet (dC (.bl false))) (dSkip) l S = .nx l S := by
  cases b with
  | false => simp [h1, h2, h3, hv, h4, mk0]
  | true =>
    obtain ⟨g1, g2, g3⟩ := h5 rfl
    simp [h1, h2, h3, hv, h4, mk0, g1, g2, g3]
theorem r4_gen {wof : DE} {V W : PV} {l : Loc} {S : Sto} {b : Bool} (hv : dVar 2 l S = .ok V S) (h4 : neZ V (.nd .lst []) S = .ok (.bl b) S)
    (h5 : b = true → wof l S = .ok W S ∧ tupP [V] S = .ok W S ∧ neZ W W S = .ok (.bl false) S) : dIfS (dAndT (dB (dBin neZ (dVar 2) (dLst (dNil)))) (dB (dBin neZ wof (dApp tupP (dCons (dVar 2) (dNil)))))) (dRet (dC (.bl false))) (dSkip) l S = .nx l S := by
  cases b with
  | false => simp [hv, h4, mk0]
  | true =>
    obtain ⟨g1, g2, g3⟩ := h5 rfl
    simp [hv, h4, mk0, g1, g2, g3]
theorem r5_ok (x : Loc) (cs : List Int) (a lf : Int) : r5 x [pn cs a lf] = .ret (.bl true) [pn cs a lf] := by kernel_rfl
theorem ne_v {dss : List (List Nat)} {m : Nat} (g : Good dss m) (S : Sto) : ∃ b, neZ (.nd .lst (wdsOf dss)) (.nd .lst []) S = .ok (.bl b) S ∧ (b = true → dss ≠ []) := by
  cases dss with
  | nil => exact ⟨false, rfl, fun z => by cases z⟩
  | cons d r =>
    refine ⟨true, ?_, fun _ z => by cases z⟩
    have := (ne_nil (z := wd d) (zs := r.map wd) (by rw [← List.map_cons]; exact g.oks) S).2
    rw [← List.map_cons, ← wds_map] at this
    exact this
theorem lenV (dss : List (List Nat)) (S : Sto) : lenP [.nd .lst (wdsOf dss)] S = .ok (.int (dss.length : Nat)) S := by rw [lenP_nd_lst, wds_len]
theorem r34 {dss : List (List Nat)} {m : Nat} {mm : PV} (g : Good dss m) (S : Sto) :
    r3 (lr (some mm) (some (.nd .lst (wdsOf dss))) none (some (.nd .tup (letsOf dss m)))) S = .nx (lr (some mm) (some (.nd .lst (wdsOf dss))) none (some (.nd .tup (letsOf dss m)))) S ∧
    r4 (lr (some mm) (some (.nd .lst (wdsOf dss))) none (some (.nd .tup (letsOf dss m)))) S = .nx (lr (some mm) (some (.nd .lst (wdsOf dss))) none (some (.nd .tup (letsOf dss m)))) S := by
  obtain ⟨b, hb, h0⟩ := ne_v g S
  have eL : neZ (.nd .tup (letsOf dss m)) (.nd .tup (letsOf dss m)) S = .ok (.bl false) S := by
    have := (same_strs (.inr rfl) g.lks S).2
    rw [← lets_map] at this
    exact this
  have eW : neZ (.nd .tup (wdsOf dss)) (.nd .tup (wdsOf dss)) S = .ok (.bl false) S := by
    have := (same_strs (.inr rfl) g.oks S).2
    rw [← wds_map] at this
    exact this
  have hV : dVar 2 (lr (some mm) (some (.nd .lst (wdsOf dss))) none (some (.nd .tup (letsOf dss m)))) S = .ok (.nd .lst (wdsOf dss)) S := rfl
  have hL : dVar 4 (lr (some mm) (some (.nd .lst (wdsOf dss))) none (some (.nd .tup (letsOf dss m)))) S = .ok (.nd .tup (letsOf dss m)) S := rfl
  have hlen : dApp lenP (dCons (dVar 2) (dNil)) (lr (some mm) (some (.nd .lst (wdsOf dss))) none (some (.nd .tup (letsOf dss m)))) S = .ok (.int (dss.length : Nat)) S := by
    simp only [dApp_ap, dCons_ap, dNil_ap, hV, bind_ok, lenV]
  refine ⟨r3_gen (W := .nd .tup (wdsOf dss)) (dFn_of (xs := [.nd .lst (wdsOf dss)]) rfl (told_ok g S)) hL eL hV hb fun z => ⟨?_, rfl, eW⟩, r4_gen (W := .nd .tup (wdsOf dss)) hV hb fun z => ⟨?_, rfl, eW⟩⟩
  · exact dFn_of (xs := [.nd .tup (letsOf dss m), .int (dss.length : Nat)]) (by simp only [dCons_ap, dNil_ap, hL, hlen, bind_ok]) (words_ok g (h0 z) S)
  · have e : dCons (dApp lenP (dCons (dVar 2) (dNil))) (dCons (dVar 4) (dNil)) (lr (some mm) (some (.nd .lst (wdsOf dss))) none (some (.nd .tup (letsOf dss m)))) S = .ok [.int (dss.length : Nat), .nd .tup (letsOf dss m)] S := by
      simp only [dCons_ap, dNil_ap, hL, hlen, bind_ok]
    exact fnP_of e rfl (words_ok g (h0 z) S)
theorem right_ok {n : Nat} {S : Sto} (h : PenS n [] S) (hn : n + 310 ≤ 100000) : ∃ S', d__law_right [.ref 0] S = .ok (.bl true) S' ∧ PenS (n + 306) [] S' := by
  obtain ⟨m, S1, a1, a2, a3⟩ := r0_ok h (by omega)
  obtain ⟨dss, S2, b1, b2, b3, b4⟩ := r1_ok a3 (by omega) a2
  have g : ∃ m', Good dss m' := by
    by_cases e : dss = []
    · subst e
      exact ⟨0, ⟨fun ds hd => (List.not_mem_nil hd).elim, fun ds hd => (List.not_mem_nil hd).elim, b2, by decide, fun _ => rfl⟩⟩
    · exact ⟨m, ⟨fun ds hd => (b3 ds hd).1, fun ds hd => (b3 ds hd).2, b2, a2, fun z => absurd z e⟩⟩
  obtain ⟨m', g⟩ := g
  have c1 : r2 (lr (some (.int (m : Nat))) (some (.nd .lst (wdsOf dss))) none none) S2 = .nx (lr (some (.int (m : Nat))) (some (.nd .lst (wdsOf dss))) none (some (.nd .tup (letsOf dss m')))) S2 :=
    dSet_of (dFn_of (xs := [.nd .lst (wdsOf dss)]) rfl (read_ok g S2))
  obtain ⟨c3, c4⟩ := r34 (mm := .int (m : Nat)) g S2
  obtain ⟨cs, a, lf, rfl⟩ := pn_cons b4
  refine ⟨_, dDef_ret _ _ rfl ?_ (by rw [b4.len, h.len]; exact Nat.le_refl _), b4⟩
  rw [_law_right_eq]
  show dSeq r0 _ (lr none none none none) S = _
  rw [seq_of a1, seq_of b1, seq_of c1, seq_of c3, seq_of c4, r5_ok]
end Z
end
end
section
set_option Elab.async false
set_option linter.all false
set_option maxRecDepth 100000
set_option maxHeartbeats 0
/-! K04H: what is refused. -/
noncomputable section
namespace Z
open PySem PySem.Spec PyProof.Rows L2
def q0 : DS := dSet 1 (dFn d__law_pick (dCons (dVar 0) (dCons (dLst (dCons (dC .non) (dCons (dC (.int 0)) (dCons (dC (.str "4")) (dCons (dC (.str "0 ")) (dCons (dC (.str "a")) (dCons (dLst (dCons (dC (.str "0")) (dNil))) (dCons (dTup (dCons (dC (.str "0")) (dNil))) (dCons (dC (.bl true)) (dCons (dBin mulT (dC (.str "0")) (dC (.int 101))) (dNil))))))))))) (dNil))))
def q1 : DS := dSet 2 (dLstM (dCons (dLamK (fun x0 tl S => dDef 1 5 (b__law_heard x0 tl) [x0] S) (dFn (dStar 0 d_reading) (dCons (dC (.str "00")) (dCons (dVar 1) (dCons (dC (.str "0")) (dNil)))))) (dNil)))
def q2 : DS := dExpr (dMet "list" appP (dVar 2) (dCons (dLamK (fun x0 tl S => dDef 1 5 (b__law_heard x0 tl) [x0] S) (dFn (dStar 0 d_reading) (dCons (dC (.str "0")) (dCons (dC (.str "00")) (dCons (dC (.str "0")) (dCons (dVar 1) (dNil))))))) dNil))
def q3 : DS := dExpr (dMet "list" appP (dVar 2) (dCons (dLamK (fun x0 tl S => dDef 1 5 (b__law_heard x0 tl) [x0] S) (dFn (dStar 0 d_reading) (dCons (dC (.str "0")) (dCons (dC (.str "00")) (dCons (dC (.str "0")) (dCons (dC (.str "0")) (dNil))))))) dNil))
def q4 : DS := dExpr (dMet "list" appP (dVar 2) (dCons (dLamK (fun x0 tl S => dDef 1 5 (b__law_heard x0 tl) [x0] S) (dFn (dStar 0 d_reading) (dCons (dC (.str "0")) (dCons (dC (.str "1")) (dCons (dC (.str "2")) (dCons (dC (.str "3")) (dNil))))))) dNil))
def q5 : DS := dSet 3 (dFn d__law_pick (dCons (dVar 0) (dCons (dLst (dCons (dC .non) (dCons (dC (.int 0)) (dCons (dC (.int 4)) (dCons (dC (.bl true)) (dCons (dC (.str "1")) (dCons (dTup (dCons (dC (.int 1)) (dNil))) (dNil)))))))) (dNil))))
def q6 : DS := dSet 4 (dFn d__law_pick (dCons (dVar 0) (dCons (dLst (dCons (dC .non) (dCons (dC (.str "00")) (dCons (dLst (dCons (dC (.str "00")) (dNil))) (dCons (dDct0) (dCons (dC (.int 0)) (dCons (dBin mulT (dTup (dCons (dC (.str "00")) (dNil))) (dC (.int 101))) (dNil)))))))) (dNil))))
def q7 : DS := dSet 5 (dFn d__law_pick (dCons (dVar 0) (dCons (dLst (dCons (dC .non) (dCons (dC (.str "0")) (dCons (dC (.str "000")) (dCons (dC (.str "04")) (dCons (dC (.str "")) (dCons (dC (.int 0)) (dCons (dTup (dCons (dC (.str "0")) (dCons (dC (.str "0")) (dNil)))) (dCons (dC (.str "a0")) (dNil)))))))))) (dNil))))
def q8 : DS := dExpr (dMet "list" appP (dVar 2) (dCons (dLamK (fun x0 tl S => dDef 1 5 (b__law_heard x0 tl) [x0] S) (dFn d_words_of (dCons (dVar 4) (dCons (dVar 3) (dNil))))) dNil))
def q9 : DS := dExpr (dMet "list" appP (dVar 2) (dCons (dLamK (fun x0 tl S => dDef 1 5 (b__law_heard x0 tl) [x0] S) (dFn d_words_of (dCons (dVar 4) (dCons (dC (.int 2)) (dNil))))) dNil))
def q10 : DS := dExpr (dMet "list" appP (dVar 2) (dCons (dLamK (fun x0 tl S => dDef 1 5 (b__law_heard x0 tl) [x0] S) (dFn d_words_of (dCons (dTup (dCons (dC (.str "00")) (dCons (dC (.str "13")) (dCons (dVar 5) (dCons (dC .non) (dNil)))))) (dCons (dC (.int 2)) (dNil))))) dNil))
def q11 : DS := dSet 6 (dLst (dCons (dTup (dCons (dC (.str "word")) (dCons (dApp reprX (dCons (dVar 1) (dNil))) (dNil)))) (dCons (dTup (dCons (dC (.str "word")) (dCons (dApp reprX (dCons (dVar 1) (dNil))) (dNil)))) (dCons (dTup (dCons (dC (.str "unlike")) (dCons (dC (.str "'length'")) (dNil)))) (dCons (dTup (dCons (dC (.str "many")) (dCons (dC (.str "'words'")) (dCons (dC (.str "3")) (dNil))))) (dNil))))))
def q12 : DS := dRet (dBin eqZ (dVar 2) (dBin addP (dVar 6) (dLst (dCons (dTup (dCons (dC (.str "width")) (dCons (dApp reprX (dCons (dVar 3) (dNil))) (dNil)))) (dCons (dTup (dCons (dC (.str "letter")) (dCons (dC (.str "None")) (dNil)))) (dCons (dTup (dCons (dC (.str "letter")) (dCons (dApp reprX (dCons (dVar 5) (dNil))) (dNil)))) (dNil)))))))
theorem _law_refused_right_eq : b__law_refused_right = dSeq q0 (dSeq q1 (dSeq q2 (dSeq q3 (dSeq q4 (dSeq q5 (dSeq q6 (dSeq q7 (dSeq q8 (dSeq q9 (dSeq q10 (dSeq q11 (q12)))))))))))) := rfl

def x1 : DE := (dFn (dStar 0 d_reading) (dCons (dC (.str "00")) (dCons (dVar 1) (dCons (dC (.str "0")) (dNil)))))
def x2 : DE := (dFn (dStar 0 d_reading) (dCons (dC (.str "0")) (dCons (dC (.str "00")) (dCons (dC (.str "0")) (dCons (dVar 1) (dNil))))))
def x3 : DE := (dFn (dStar 0 d_reading) (dCons (dC (.str "0")) (dCons (dC (.str "00")) (dCons (dC (.str "0")) (dCons (dC (.str "0")) (dNil))))))
def x4 : DE := (dFn (dStar 0 d_reading) (dCons (dC (.str "0")) (dCons (dC (.str "1")) (dCons (dC (.str "2")) (dCons (dC (.str "3")) (dNil))))))
def x8 : DE := (dFn d_words_of (dCons (dVar 4) (dCons (dVar 3) (dNil))))
def x9 : DE := (dFn d_words_of (dCons (dVar 4) (dCons (dC (.int 2)) (dNil))))
def x10 : DE := (dFn d_words_of (dCons (dTup (dCons (dC (.str "00")) (dCons (dC (.str "13")) (dCons (dVar 5) (dCons (dC .non) (dNil)))))) (dCons (dC (.int 2)) (dNil))))
def OD : List PV := [.non, .int 0, .str "4", .str "0 ", .str "a", .nd .lst [.str "0"], .nd .tup [.str "0"], .bl true, .str ⟨(List.replicate 101 48).toArray⟩]
def BD : List PV := [.non, .int 0, .int 4, .bl true, .str "1", .nd .tup [.int 1]]
def WO : List PV := [.non, .str "00", .nd .lst [.str "00"], .nd (.dct false []) [], .int 0, .nd .tup (List.replicate 101 (.str "00"))]
def LT : List PV := [.non, .str "0", .str "000", .str "04", .str "", .int 0, .nd .tup [.str "0", .str "0"], .str "a0"]
/-- as repr tells it -/
def rp (v : PV) : Str := match reprX [v] [] with
  | .ok (.str z) _ => z
  | _ => ""
def T2 (a b : Str) : PV := .nd .tup [.str a, .str b]
def zA (r : Str) : List PV := [T2 "word" r, T2 "word" r, T2 "unlike" "'length'", .nd .tup [.str "many", .str "'words'", .str "3"]]
def zB (r b : Str) : List PV := [T2 "word" r, T2 "word" r, T2 "unlike" "'length'", .nd .tup [.str "many", .str "'words'", .str "3"], T2 "width" b]
def zC (r b : Str) : List PV := [T2 "word" r, T2 "word" r, T2 "unlike" "'length'", .nd .tup [.str "many", .str "'words'", .str "3"], T2 "width" b, T2 "letter" "None"]
def zD (r b t : Str) : List PV := [T2 "word" r, T2 "word" r, T2 "unlike" "'length'", .nd .tup [.str "many", .str "'words'", .str "3"], T2 "width" b, T2 "letter" "None", T2 "letter" t]
def lq (o h b w t : Option PV) : Loc := [some (.ref 0), o, h, b, w, t, none]
abbrev hrd : PV → (Sto → Out PV) → Sto → Out PV := fun x0 tl S => dDef 1 5 (b__law_heard x0 tl) [x0] S
theorem hcong (R : DS) (tl tl2 : Sto → Out PV) (S : Sto) (h : tl S = tl2 S) : (dSeq (dAsg (dTup (dCons (dC .non) (dCons (dC .non) (dNil)))) (gzT [gzN 1, gzN 2])) (dSeq (dTryAs (fun c => exm0.lookup c) 3 (dSet 2 (dCallT .non 0 tl)) (dSet 1 (dVar 3))) (dSeq (dKeep [1, 2, 3, 4]) R))) [some .non, none, none, none, none] S
    = (dSeq (dAsg (dTup (dCons (dC .non) (dCons (dC .non) (dNil)))) (gzT [gzN 1, gzN 2])) (dSeq (dTryAs (fun c => exm0.lookup c) 3 (dSet 2 (dCallT .non 0 tl2)) (dSet 1 (dVar 3))) (dSeq (dKeep [1, 2, 3, 4]) R))) [some .non, none, none, none, none] S := by
  have e1 : (dAsg (dTup (dCons (dC .non) (dCons (dC .non) (dNil)))) (gzT [gzN 1, gzN 2])) [some .non, none, none, none, none] S = .nx [some .non, some .non, some .non, none, none] S := by kernel_rfl
  have e2 : dTryAs (fun c => exm0.lookup c) 3 (dSet 2 (dCallT .non 0 tl)) (dSet 1 (dVar 3)) [some .non, some .non, some .non, none, none] S = dTryAs (fun c => exm0.lookup c) 3 (dSet 2 (dCallT .non 0 tl2)) (dSet 1 (dVar 3)) [some .non, some .non, some .non, none, none] S := by
    unfold dTryAs
    rw [dSet_ap, dSet_ap, callT_0, callT_0, h]
  rw [dSeq_ap, dSeq_ap, e1, seq_nx, seq_nx, dSeq_ap, dSeq_ap, e2]
theorem lam_ok {db : DE} {l : Loc} {S : Sto} {e : XV} {v : PV} (h : db l S = .err e S) (hb : b__law_heard .non (fun S => .err e S) [some .non, none, none, none, none] S = .ret v (S ++ [some (.lst, [v])])) (ht : thaw 12 S.length (S ++ [some (.lst, [v])]) v = some v) : dLamK hrd db l S = .ok v S := by
  have e1 : b__law_heard .non (fun S => db l S) [some .non, none, none, none, none] S = .ret v (S ++ [some (.lst, [v])]) := (hcong _ _ (fun S => .err e S) S h).trans hb
  have := dDef_thaw (n := 1) (m := 5) (xs := [.non]) S (b__law_heard .non fun S => db l S) rfl e1 (by rw [List.length_append]; simp) ht (fitsS_app S _)
  rw [List.take_left] at this
  exact this
theorem set_l {X : DE} {l : Loc} {p : Option (Kd × List PV)} {v : PV} (h : X l [p] = .ok v [p]) : dSet 2 (dLstM (dCons X (dNil))) l [p] = .nx (l.set 2 (some (.ref 1))) [p, some (.lst, [v])] := by
  have hm : mkRf .lst [v] [p] = .ok (.ref 1) [p, some (.lst, [v])] := mkRf_ok _ (by simp)
  simp [h, hm]
theorem appP_ok' {n : Nat} {xs : List PV} {y : PV} {S : Sto} (h : S[n]? = some (some (.lst, xs))) (hl : xs.length ≤ 1000) : appP (.ref n) [y] S = .ok .non (S.set n (some (.lst, xs ++ [y]))) := by
  unfold appP
  simp only [h]
  rw [if_pos (by omega)]
theorem app_l {X : DE} {l : Loc} {p : Option (Kd × List PV)} {xs : List PV} {v : PV} (hv : ∀ S, dVar 2 l S = .ok (.ref 1) S) (hl : xs.length ≤ 1000) (h : X l [p, some (.lst, xs)] = .ok v [p, some (.lst, xs)]) : dExpr (dMet "list" appP (dVar 2) (dCons X dNil)) l [p, some (.lst, xs)] = .nx l [p, some (.lst, xs ++ [v])] := by
  have ha : appP (.ref 1) [v] [p, some (.lst, xs)] = .ok .non [p, some (.lst, xs ++ [v])] := appP_ok' rfl hl
  have ht : tyOk "list" (.ref 1) [p, some (.lst, xs)] = true := rfl
  simp [hv, h, ha, ht]
theorem k1 : ∀ o ∈ OD, ∀ (cs : List Int) (a lf : Int), x1 (lq (some o) none none none none) [pn cs a lf] = .err ⟨3, [3], [o]⟩ [pn cs a lf] := by
  unfold OD
  repeat' (first | exact List.forall_mem_nil _ | refine List.forall_mem_cons.mpr ⟨?_, ?_⟩)
  all_goals
    intros
    kernel_rfl
theorem b1 : ∀ o ∈ OD, ∀ (cs : List Int) (a lf : Int), b__law_heard .non (fun S => .err ⟨3, [3], [o]⟩ S) [some .non, none, none, none, none] [pn cs a lf] = .ret (T2 "word" (rp o)) ([pn cs a lf] ++ [some (.lst, [T2 "word" (rp o)])]) := by
  unfold OD
  repeat' (first | exact List.forall_mem_nil _ | refine List.forall_mem_cons.mpr ⟨?_, ?_⟩)
  all_goals
    intros
    kernel_rfl
theorem h1 : ∀ o ∈ OD, ∀ (cs : List Int) (a lf : Int), dLamK hrd x1 (lq (some o) none none none none) [pn cs a lf] = .ok (T2 "word" (rp o)) [pn cs a lf] := fun o h cs a lf => lam_ok (k1 o h cs a lf) (b1 o h cs a lf) (by kernel_rfl)
theorem k2 : ∀ o ∈ OD, ∀ (cs : List Int) (a lf : Int) (z : Kd × List PV), x2 (lq (some o) (some (.ref 1)) none none none) [pn cs a lf, some z] = .err ⟨3, [3], [o]⟩ [pn cs a lf, some z] := by
  unfold OD
  repeat' (first | exact List.forall_mem_nil _ | refine List.forall_mem_cons.mpr ⟨?_, ?_⟩)
  all_goals
    intros
    kernel_rfl
theorem b2 : ∀ o ∈ OD, ∀ (cs : List Int) (a lf : Int) (z : Kd × List PV), b__law_heard .non (fun S => .err ⟨3, [3], [o]⟩ S) [some .non, none, none, none, none] [pn cs a lf, some z] = .ret (T2 "word" (rp o)) ([pn cs a lf, some z] ++ [some (.lst, [T2 "word" (rp o)])]) := by
  unfold OD
  repeat' (first | exact List.forall_mem_nil _ | refine List.forall_mem_cons.mpr ⟨?_, ?_⟩)
  all_goals
    intros
    kernel_rfl
theorem h2 : ∀ o ∈ OD, ∀ (cs : List Int) (a lf : Int) (z : Kd × List PV), dLamK hrd x2 (lq (some o) (some (.ref 1)) none none none) [pn cs a lf, some z] = .ok (T2 "word" (rp o)) [pn cs a lf, some z] := fun o h cs a lf z => lam_ok (k2 o h cs a lf z) (b2 o h cs a lf z) (by kernel_rfl)
theorem h3 (l : Loc) (cs : List Int) (a lf : Int) (z : Kd × List PV) : dLamK hrd x3 l [pn cs a lf, some z] = .ok (T2 "unlike" "'length'") [pn cs a lf, some z] :=
  lam_ok (e := ⟨5, [0], [.str "length"]⟩) (by kernel_rfl) (by kernel_rfl) (by kernel_rfl)
theorem h4 (l : Loc) (cs : List Int) (a lf : Int) (z : Kd × List PV) : dLamK hrd x4 l [pn cs a lf, some z] = .ok (.nd .tup [.str "many", .str "'words'", .str "3"]) [pn cs a lf, some z] :=
  lam_ok (e := ⟨4, [2, 1], [.int 3, .str "words"]⟩) (by kernel_rfl) (by kernel_rfl) (by kernel_rfl)
theorem k8 : ∀ b ∈ BD, ∀ (cs : List Int) (a lf : Int) (o w t : PV) (z : Kd × List PV), x8 (lq (some o) (some (.ref 1)) (some b) (some w) (some t)) [pn cs a lf, some z] = .err ⟨2, [3], [b]⟩ [pn cs a lf, some z] := by
  unfold BD
  repeat' (first | exact List.forall_mem_nil _ | refine List.forall_mem_cons.mpr ⟨?_, ?_⟩)
  all_goals
    intros
    kernel_rfl
theorem b8 : ∀ b ∈ BD, ∀ (cs : List Int) (a lf : Int) (o w t : PV) (z : Kd × List PV), b__law_heard .non (fun S => .err ⟨2, [3], [b]⟩ S) [some .non, none, none, none, none] [pn cs a lf, some z] = .ret (T2 "width" (rp b)) ([pn cs a lf, some z] ++ [some (.lst, [T2 "width" (rp b)])]) := by
  unfold BD
  repeat' (first | exact List.forall_mem_nil _ | refine List.forall_mem_cons.mpr ⟨?_, ?_⟩)
  all_goals
    intros
    kernel_rfl
theorem h8 : ∀ b ∈ BD, ∀ (cs : List Int) (a lf : Int) (o w t : PV) (z : Kd × List PV), dLamK hrd x8 (lq (some o) (some (.ref 1)) (some b) (some w) (some t)) [pn cs a lf, some z] = .ok (T2 "width" (rp b)) [pn cs a lf, some z] := fun b h cs a lf o w t z => lam_ok (k8 b h cs a lf o w t z) (b8 b h cs a lf o w t z) (by kernel_rfl)
theorem h9 : ∀ w ∈ WO, ∀ (cs : List Int) (a lf : Int) (o b t : PV) (z : Kd × List PV), dLamK hrd x9 (lq (some o) (some (.ref 1)) (some b) (some w) (some t)) [pn cs a lf, some z] = .ok (T2 "letter" "None") [pn cs a lf, some z] := by
  unfold WO
  repeat' (first | exact List.forall_mem_nil _ | refine List.forall_mem_cons.mpr ⟨?_, ?_⟩)
  all_goals
    intro cs a lf o b t z
    exact lam_ok (e := ⟨1, [3], [.non]⟩) (by kernel_rfl) (by kernel_rfl) (by kernel_rfl)
theorem k10 : ∀ t ∈ LT, ∀ (cs : List Int) (a lf : Int) (o b w : PV) (z : Kd × List PV), x10 (lq (some o) (some (.ref 1)) (some b) (some w) (some t)) [pn cs a lf, some z] = .err ⟨1, [3], [t]⟩ [pn cs a lf, some z] := by
  unfold LT
  repeat' (first | exact List.forall_mem_nil _ | refine List.forall_mem_cons.mpr ⟨?_, ?_⟩)
  all_goals
    intros
    kernel_rfl
theorem b10 : ∀ t ∈ LT, ∀ (cs : List Int) (a lf : Int) (o b w : PV) (z : Kd × List PV), b__law_heard .non (fun S => .err ⟨1, [3], [t]⟩ S) [some .non, none, none, none, none] [pn cs a lf, some z] = .ret (T2 "letter" (rp t)) ([pn cs a lf, some z] ++ [some (.lst, [T2 "letter" (rp t)])]) := by
  unfold LT
  repeat' (first | exact List.forall_mem_nil _ | refine List.forall_mem_cons.mpr ⟨?_, ?_⟩)
  all_goals
    intros
    kernel_rfl
theorem h10 : ∀ t ∈ LT, ∀ (cs : List Int) (a lf : Int) (o b w : PV) (z : Kd × List PV), dLamK hrd x10 (lq (some o) (some (.ref 1)) (some b) (some w) (some t)) [pn cs a lf, some z] = .ok (T2 "letter" (rp t)) [pn cs a lf, some z] := fun t h cs a lf o b w z => lam_ok (k10 t h cs a lf o b w z) (b10 t h cs a lf o b w z) (by kernel_rfl)
theorem bA {o : PV} (ho : o ∈ OD) (cs : List Int) (a lf : Int) (R : DS) : dSeq q1 (dSeq q2 (dSeq q3 (dSeq q4 R))) (lq (some o) none none none none) [pn cs a lf] = R (lq (some o) (some (.ref 1)) none none none) [pn cs a lf, some (.lst, zA (rp o))] := by
  have g1 : q1 (lq (some o) none none none none) [pn cs a lf] = .nx (lq (some o) (some (.ref 1)) none none none) [pn cs a lf, some (.lst, [T2 "word" (rp o)])] := set_l (h1 o ho cs a lf)
  have g2 : q2 (lq (some o) (some (.ref 1)) none none none) [pn cs a lf, some (.lst, [T2 "word" (rp o)])] = .nx _ _ := app_l (fun _ => rfl) (by simp) (h2 o ho cs a lf _)
  have g3 : q3 (lq (some o) (some (.ref 1)) none none none) [pn cs a lf, some (.lst, [T2 "word" (rp o)] ++ [T2 "word" (rp o)])] = .nx _ _ := app_l (fun _ => rfl) (by simp) (h3 _ cs a lf _)
  have g4 : q4 (lq (some o) (some (.ref 1)) none none none) [pn cs a lf, some (.lst, ([T2 "word" (rp o)] ++ [T2 "word" (rp o)]) ++ [T2 "unlike" "'length'"])] = .nx _ _ := app_l (fun _ => rfl) (by simp) (h4 _ cs a lf _)
  rw [seq_of g1, seq_of g2, seq_of g3, seq_of g4]
  rfl
theorem bB {o b w t : PV} (hb : b ∈ BD) (hw : w ∈ WO) (ht : t ∈ LT) (r : Str) (cs : List Int) (a lf : Int) (R : DS) : dSeq q8 (dSeq q9 (dSeq q10 R)) (lq (some o) (some (.ref 1)) (some b) (some w) (some t)) [pn cs a lf, some (.lst, zA r)] = R (lq (some o) (some (.ref 1)) (some b) (some w) (some t)) [pn cs a lf, some (.lst, zD r (rp b) (rp t))] := by
  have g1 : q8 (lq (some o) (some (.ref 1)) (some b) (some w) (some t)) [pn cs a lf, some (.lst, zA r)] = .nx _ _ := app_l (fun _ => rfl) (by simp [zA]) (h8 b hb cs a lf o w t _)
  have g2 : q9 (lq (some o) (some (.ref 1)) (some b) (some w) (some t)) [pn cs a lf, some (.lst, zA r ++ [T2 "width" (rp b)])] = .nx _ _ := app_l (fun _ => rfl) (by simp [zA]) (h9 w hw cs a lf o b t _)
  have g3 : q10 (lq (some o) (some (.ref 1)) (some b) (some w) (some t)) [pn cs a lf, some (.lst, (zA r ++ [T2 "width" (rp b)]) ++ [T2 "letter" "None"])] = .nx _ _ := app_l (fun _ => rfl) (by simp [zA]) (h10 t ht cs a lf o b w _)
  rw [seq_of g1, seq_of g2, seq_of g3]
  rfl
theorem bE : ∀ o ∈ OD, ∀ b ∈ BD, ∀ t ∈ LT, ∀ (cs : List Int) (a lf : Int) (w : PV), dSeq q11 q12 (lq (some o) (some (.ref 1)) (some b) (some w) (some t)) [pn cs a lf, some (.lst, zD (rp o) (rp b) (rp t))] = .ret (.bl true) [pn cs a lf, some (.lst, zD (rp o) (rp b) (rp t))] := by
  unfold OD BD LT
  repeat' (first | exact List.forall_mem_nil _ | refine List.forall_mem_cons.mpr ⟨?_, ?_⟩)
  all_goals
    repeat' (first | exact List.forall_mem_nil _ | refine List.forall_mem_cons.mpr ⟨?_, ?_⟩)
  all_goals
    repeat' (first | exact List.forall_mem_nil _ | refine List.forall_mem_cons.mpr ⟨?_, ?_⟩)
  all_goals
    intro cs a lf w
    kernel_rfl
theorem pickO (S : Sto) : (dCons (dVar 0) (dCons (dLst (dCons (dC .non) (dCons (dC (.int 0)) (dCons (dC (.str "4")) (dCons (dC (.str "0 ")) (dCons (dC (.str "a")) (dCons (dLst (dCons (dC (.str "0")) (dNil))) (dCons (dTup (dCons (dC (.str "0")) (dNil))) (dCons (dC (.bl true)) (dCons (dBin mulT (dC (.str "0")) (dC (.int 101))) (dNil))))))))))) (dNil))) (lq none none none none none) S = .ok [.ref 0, .nd .lst OD] S := by kernel_rfl
theorem pickB_ (S : Sto) (o h : PV) : (dCons (dVar 0) (dCons (dLst (dCons (dC .non) (dCons (dC (.int 0)) (dCons (dC (.int 4)) (dCons (dC (.bl true)) (dCons (dC (.str "1")) (dCons (dTup (dCons (dC (.int 1)) (dNil))) (dNil)))))))) (dNil))) (lq (some o) (some h) none none none) S = .ok [.ref 0, .nd .lst BD] S := by kernel_rfl
theorem pickW (S : Sto) (o h b : PV) : (dCons (dVar 0) (dCons (dLst (dCons (dC .non) (dCons (dC (.str "00")) (dCons (dLst (dCons (dC (.str "00")) (dNil))) (dCons (dDct0) (dCons (dC (.int 0)) (dCons (dBin mulT (dTup (dCons (dC (.str "00")) (dNil))) (dC (.int 101))) (dNil)))))))) (dNil))) (lq (some o) (some h) (some b) none none) S = .ok [.ref 0, .nd .lst WO] S := by kernel_rfl
theorem pickT (S : Sto) (o h b w : PV) : (dCons (dVar 0) (dCons (dLst (dCons (dC .non) (dCons (dC (.str "0")) (dCons (dC (.str "000")) (dCons (dC (.str "04")) (dCons (dC (.str "")) (dCons (dC (.int 0)) (dCons (dTup (dCons (dC (.str "0")) (dCons (dC (.str "0")) (dNil)))) (dCons (dC (.str "a0")) (dNil)))))))))) (dNil))) (lq (some o) (some h) (some b) (some w) none) S = .ok [.ref 0, .nd .lst LT] S := by kernel_rfl
end Z
end
end
section
set_option Elab.async false
set_option linter.all false
set_option maxRecDepth 100000
set_option maxHeartbeats 0
/-! K04I: the turn, the law. -/
noncomputable section
namespace Z
open PySem PySem.Spec PyProof.Rows L2
def p0 : DS := dSet 1 (dFn d__law_pen (dCons (dVar 0) (dNil)))
def p1 : DS := dKeep [1]
def q2_0 : DS := dIfS (dOrT (dNotT (dTru (dFn d__law_right (dCons (dVar 1) (dNil))))) (dNotT (dTru (dFn d__law_refused_right (dCons (dVar 1) (dNil)))))) (dRet (dC (.bl false))) (dSkip)
def q2_1 : DS := dKeep [1]
def i2 : DI := dItA rngP (dCons (dC (.int 8)) (dNil))
def B2 : DS := dSeqs [q2_0, q2_1]
-- For: target (.nm 2)
def p3 : DS := dKeep []
def p4 : DS := dSet 3 (dLst (dCons (dFn (dStar 0 d_reading) (dCons (dC (.str "00")) (dCons (dC (.str "11")) (dNil)))) (dCons (dFn (dStar 0 d_reading) (dCons (dC (.str "01")) (dCons (dC (.str "00")) (dNil)))) (dCons (dFn (dStar 0 d_reading) (dCons (dC (.str "0")) (dCons (dC (.str "1")) (dNil)))) (dNil)))))
def p5 : DS := dIfS (dOrT (dB (dBin geX (dBin subZ (dVar 3) (dC (.int 1))) (dBin subZ (dVar 3) (dC (.int 0))))) (dB (dBin neZ (dVar 3) (dLst (dCons (dTup (dCons (dC (.str "01")) (dCons (dC (.str "01")) (dNil)))) (dCons (dTup (dCons (dC (.str "00")) (dCons (dC (.str "10")) (dNil)))) (dCons (dTup (dCons (dC (.str "01")) (dNil))) (dNil)))))))) (dRet (dC (.bl false))) (dSkip)
def p6 : DS := dKeep []
def p7 : DS := dRet (dBin eqZ (dApp lenP (dCons (dBin subZ (dFn d_words_of (dCons (dBin mulT (dTup (dCons (dC (.str "123")) (dNil))) (dC (.int 100))) (dCons (dC (.int 3)) (dNil)))) (dC (.int 2))) (dNil))) (dC (.int 100)))
theorem law_eq : b_law = dSeq p0 (dSeq p1 (dSeq (dFor i2 (.nm 2) (dShS B2)) (dSeq p3 (dSeq p4 (dSeq p5 (dSeq p6 (p7))))))) := rfl

theorem refused_ok {n : Nat} {S : Sto} (h : PenS n [] S) (hn : n + 4 ≤ 100000) : ∃ S', d__law_refused_right [.ref 0] S = .ok (.bl true) S' ∧ PenS (n + 4) [] S' := by
  obtain ⟨o, S1, f1, ho, P1⟩ := set_pick dr (i := 1) (l := lq none none none none none) (ar := (dCons (dVar 0) (dCons (dLst (dCons (dC .non) (dCons (dC (.int 0)) (dCons (dC (.str "4")) (dCons (dC (.str "0 ")) (dCons (dC (.str "a")) (dCons (dLst (dCons (dC (.str "0")) (dNil))) (dCons (dTup (dCons (dC (.str "0")) (dNil))) (dCons (dC (.bl true)) (dCons (dBin mulT (dC (.str "0")) (dC (.int 101))) (dNil))))))))))) (dNil)))) OD h (by omega) (pickO S) (by unfold OD; simp) (by decide +kernel)
  have g0 : q0 (lq none none none none none) S = .nx (lq (some o) none none none none) S1 := f1
  obtain ⟨cs, a, lf, rfl⟩ := pn_cons P1
  have P2 : PenS (n + 1) [some (.lst, zA (rp o))] [pn cs a lf, some (.lst, zA (rp o))] := penS_rest P1 rfl
  obtain ⟨b, S2, f2, hb, P3⟩ := set_pick dr (i := 3) (l := lq (some o) (some (.ref 1)) none none none) (ar := (dCons (dVar 0) (dCons (dLst (dCons (dC .non) (dCons (dC (.int 0)) (dCons (dC (.int 4)) (dCons (dC (.bl true)) (dCons (dC (.str "1")) (dCons (dTup (dCons (dC (.int 1)) (dNil))) (dNil)))))))) (dNil)))) BD P2 (by omega) (pickB_ _ o (.ref 1)) (by unfold BD; simp) (by decide +kernel)
  have g5 : q5 (lq (some o) (some (.ref 1)) none none none) [pn cs a lf, some (.lst, zA (rp o))] = .nx (lq (some o) (some (.ref 1)) (some b) none none) S2 := f2
  obtain ⟨w, S3, f3, hw, P4⟩ := set_pick dr (i := 4) (l := lq (some o) (some (.ref 1)) (some b) none none) (ar := (dCons (dVar 0) (dCons (dLst (dCons (dC .non) (dCons (dC (.str "00")) (dCons (dLst (dCons (dC (.str "00")) (dNil))) (dCons (dDct0) (dCons (dC (.int 0)) (dCons (dBin mulT (dTup (dCons (dC (.str "00")) (dNil))) (dC (.int 101))) (dNil)))))))) (dNil)))) WO P3 (by omega) (pickW _ o (.ref 1) b) (by unfold WO; simp) (by decide +kernel)
  have g6 : q6 (lq (some o) (some (.ref 1)) (some b) none none) S2 = .nx (lq (some o) (some (.ref 1)) (some b) (some w) none) S3 := f3
  obtain ⟨t, S4, f4, ht, P5⟩ := set_pick dr (i := 5) (l := lq (some o) (some (.ref 1)) (some b) (some w) none) (ar := (dCons (dVar 0) (dCons (dLst (dCons (dC .non) (dCons (dC (.str "0")) (dCons (dC (.str "000")) (dCons (dC (.str "04")) (dCons (dC (.str "")) (dCons (dC (.int 0)) (dCons (dTup (dCons (dC (.str "0")) (dCons (dC (.str "0")) (dNil)))) (dCons (dC (.str "a0")) (dNil)))))))))) (dNil)))) LT P4 (by omega) (pickT _ o (.ref 1) b w) (by unfold LT; simp) (by decide +kernel)
  have g7 : q7 (lq (some o) (some (.ref 1)) (some b) (some w) none) S3 = .nx (lq (some o) (some (.ref 1)) (some b) (some w) (some t)) S4 := f4
  obtain ⟨cs2, a2, lf2, rfl⟩ := pn_cons P5
  have P6 : PenS (n + 4) ([] ++ [some (.lst, zD (rp o) (rp b) (rp t))]) [pn cs2 a2 lf2, some (.lst, zD (rp o) (rp b) (rp t))] := penS_rest P5 rfl
  obtain ⟨s1, s2⟩ := h.shut (T := []) P6
  have hb' : b__law_refused_right (lq none none none none none) S = .ret (.bl true) [pn cs2 a2 lf2, some (.lst, zD (rp o) (rp b) (rp t))] := by
    rw [_law_refused_right_eq, seq_of g0, bA ho, seq_of g5, seq_of g6, seq_of g7, bB hb hw ht]
    exact bE o ho b hb t ht cs2 a2 lf2 w
  exact ⟨_, dDef_thaw (n := 1) (m := 7) (xs := [.ref 0]) S b__law_refused_right rfl hb' (by rw [h.len]; show 1 < 2; decide) rfl s1, s2⟩
def l0 : Loc := [none, some (.ref 0), none, none]
theorem turn_gen {A B : DF} {l : Loc} {S S1 S2 : Sto} (hp : dVar 1 l S = .ok (.ref 0) S) (hp1 : dVar 1 l S1 = .ok (.ref 0) S1) (h1 : A [.ref 0] S = .ok (.bl true) S1) (h2 : B [.ref 0] S1 = .ok (.bl true) S2) :
    dIfS (dOrT (dNotT (dTru (dFn A (dCons (dVar 1) (dNil))))) (dNotT (dTru (dFn B (dCons (dVar 1) (dNil)))))) (dRet (dC (.bl false))) (dSkip) l S = .nx l S2 := by
  simp [hp, hp1, h1, h2, truP]
theorem turn (n : Nat) (S : Sto) (x : PV) (hP : PenS n [] S) (hn : n + 310 ≤ 100000) : ∃ S' T', B2 (setZ l0 [(2, x)]) S = .nx l0 S' ∧ PenS (n + 310) T' S' := by
  obtain ⟨S1, a1, a2⟩ := right_ok hP hn
  obtain ⟨S2, b1, b2⟩ := refused_ok a2 (by omega)
  refine ⟨S2, [], ?_, b2.mono (by omega)⟩
  have g : q2_0 (setZ l0 [(2, x)]) S = .nx (setZ l0 [(2, x)]) S2 := turn_gen rfl rfl a1 b1
  show dSeqs (q2_0 :: [q2_1]) _ S = _
  rw [seqs_one g]
  rfl
theorem end_ok (cs : List Int) (a lf : Int) : dSeq p3 (dSeq p4 (dSeq p5 (dSeq p6 p7))) l0 [pn cs a lf] = .ret (.bl true) [pn cs a lf] := by kernel_rfl
theorem law_good (ns : List Int) (h : ns.length ≤ 63) : ∃ S, d_law [.nd .scr (ns.map .int)] [] = .ok (.bl true) S := by
  have hpen : d__law_pen [.nd .scr (ns.map .int)] [] = .ok (.ref 0) [pn ns 0 0] := penB_ok h
  have h0 : PenS 0 [] [pn ns 0 0] := ⟨ns, 0, 0, rfl, by decide, by decide, by decide⟩
  generalize PV.nd .scr (ns.map .int) = sc at hpen ⊢
  obtain ⟨S1, f1, P1⟩ := loop_pen (B := B2) (t := .nm 2) (l0 := l0) (k := 310) (items := rngZ 0 8) h0 (by rw [rngZ_len]; decide) rfl fun n S x hx hP hn => by
    obtain ⟨S', T', g1, g2⟩ := turn n S x hP hn
    exact ⟨_, S', T', asg1, g1, g2⟩
  have hit : i2 l0 [pn ns 0 0] = .ok ⟨rngZ 0 8, []⟩ [pn ns 0 0] := by kernel_rfl
  obtain ⟨cs, a, lf, rfl⟩ := pn_cons P1
  have hbody : b_law (some sc :: List.replicate 3 none) [] = .ret (.bl true) [pn cs a lf] := by
    rw [law_eq, dSeq_ap]
    have s1 : p0 (some sc :: List.replicate 3 none) [] = .nx ((some sc :: List.replicate 3 none).set 1 (some (.ref 0))) [pn ns 0 0] := by
      unfold p0
      simp [hpen]
    have s2 : p1 ((some sc :: List.replicate 3 none).set 1 (some (.ref 0))) [pn ns 0 0] = .nx l0 [pn ns 0 0] := rfl
    rw [s1, seq_nx, dSeq_ap, s2, seq_nx, dSeq_ap, dFor_eq hit (heldB_nil _), f1, seq_nx, end_ok]
  exact ⟨[], law_end hbody (by show 0 < 1; decide)⟩
end Z
end
end
section
set_option Elab.async false
set_option linter.all false
set_option maxRecDepth 100000
set_option maxHeartbeats 0
noncomputable section
namespace Z
open PySem PySem.Spec PyProof.Rows L2
def top (i : Nat) : Stmt := PySem.Challenge.pw_sumdigits_k04_whole_readings_of_words.main.body.getD i (.Pass ⟨0, 0, 0, 0⟩)
def cst (i j : Nat) : Stmt := match top i with
  | .ClassDef (body := b) .. => b.getD j (.Pass ⟨0, 0, 0, 0⟩)
  | _ => .Pass ⟨0, 0, 0, 0⟩
def hd0 : He5.DefA := ⟨fun K => He.ma K (He.ga K "Unlike") "__init__", "__init__", "Unlike.__init__", defArgs (cst 13 0), defBody (cst 13 0), defScope (cst 13 0), [], []⟩
def hd1 : He5.DefA := ⟨fun K => He.ma K (He.ga K "TooMany") "__init__", "__init__", "TooMany.__init__", defArgs (cst 14 0), defBody (cst 14 0), defScope (cst 14 0), [], []⟩
def hd2 : He5.DefA := ⟨fun K => He.ma K (He.ga K "BadWord") "__init__", "__init__", "BadWord.__init__", defArgs (cst 11 0), defBody (cst 11 0), defScope (cst 11 0), [], []⟩
def hd3 : He5.DefA := ⟨fun K => He.ma K (He.ga K "BadWidth") "__init__", "__init__", "BadWidth.__init__", defArgs (cst 10 0), defBody (cst 10 0), defScope (cst 10 0), [], []⟩
def hd4 : He5.DefA := ⟨fun K => He.ma K (He.ga K "BadLetter") "__init__", "__init__", "BadLetter.__init__", defArgs (cst 12 0), defBody (cst 12 0), defScope (cst 12 0), [], []⟩
def hd5 : He5.DefA := ⟨fun K => He.ga K "is_integer", "is_integer", "is_integer", defArgs (top 3), defBody (top 3), defScope (top 3), [], []⟩
def hd6 : He5.DefA := ⟨fun K => He.ga K "is_between", "is_between", "is_between", defArgs (top 4), defBody (top 4), defScope (top 4), [], []⟩
def hd7 : He5.DefA := ⟨fun K => He.ga K "are_digits", "are_digits", "are_digits", defArgs (top 5), defBody (top 5), defScope (top 5), [], []⟩
def hd8 : He5.DefA := ⟨fun K => He.ga K "is_word_of", "is_word_of", "is_word_of", defArgs (top 6), defBody (top 6), defScope (top 6), [], []⟩
def hd9 : He5.DefA := ⟨fun K => He.ga K "is_letter_of", "is_letter_of", "is_letter_of", defArgs (top 7), defBody (top 7), defScope (top 7), [], []⟩
def hd10 : He5.DefA := ⟨fun K => He.ga K "reading", "reading", "reading", defArgs (top 17), defBody (top 17), defScope (top 17), [], []⟩
def hd11 : He5.DefA := ⟨fun K => He.ga K "words_of", "words_of", "words_of", defArgs (top 18), defBody (top 18), defScope (top 18), [], []⟩
def hd12 : He5.DefA := ⟨fun K => He.ga K "_law_pen", "_law_pen", "_law_pen", defArgs (top 20), defBody (top 20), defScope (top 20), [], []⟩
def hd13 : He5.DefA := ⟨fun K => He.ga K "_law_draw", "_law_draw", "_law_draw", defArgs (top 21), defBody (top 21), defScope (top 21), [], []⟩
def hd14 : He5.DefA := ⟨fun K => He.ga K "_law_pick", "_law_pick", "_law_pick", defArgs (top 22), defBody (top 22), defScope (top 22), [], []⟩
def hd15 : He5.DefA := ⟨fun K => He.ga K "_law_heard", "_law_heard", "_law_heard", defArgs (top 23), defBody (top 23), defScope (top 23), [], []⟩
def hd16 : He5.DefA := ⟨fun K => He.ga K "_law_drawn", "_law_drawn", "_law_drawn", defArgs (top 24), defBody (top 24), defScope (top 24), [], []⟩
def hd17 : He5.DefA := ⟨fun K => He.ga K "_law_read", "_law_read", "_law_read", defArgs (top 25), defBody (top 25), defScope (top 25), [], []⟩
def hd18 : He5.DefA := ⟨fun K => He.ga K "_law_told", "_law_told", "_law_told", defArgs (top 26), defBody (top 26), defScope (top 26), [], []⟩
def hd19 : He5.DefA := ⟨fun K => He.ga K "_law_right", "_law_right", "_law_right", defArgs (top 27), defBody (top 27), defScope (top 27), [], []⟩
def hd20 : He5.DefA := ⟨fun K => He.ga K "_law_refused_right", "_law_refused_right", "_law_refused_right", defArgs (top 28), defBody (top 28), defScope (top 28), [], []⟩
def hd21 : He5.DefA := ⟨fun K => He.ga K "law", "law", "law", defArgs (top 29), defBody (top 29), defScope (top 29), [], []⟩
def fnl : List He5.DefA := ([hd0, hd1, hd2, hd3, hd4, hd5, hd6, hd7, hd8, hd9, hd10, hd11, hd12, hd13, hd14, hd15, hd16, hd17, hd18, hd19, hd20, hd21] : List He5.DefA)
def fal : List He.Fa := ([.glo "Unlike", .glo "TooMany", .glo "BadWord", .glo "BadWidth", .glo "BadLetter", .free "int", .free "isinstance", .free "bool", .glo "is_integer", .glo "is_between", .free "str", .str "DIGITS" "0123", .free "all", .glo "are_digits", .free "len", .int "LONGEST_WORD" (100), .glo "is_word_of", .glo "is_letter_of", .free "any", .int "MOST_WORDS" (3), .free "zip", .free "tuple", .glo "reading", .free "range", .glo "words_of", .free "list", .glo "_law_pen", .free "abs", .glo "_law_draw", .glo "_law_pick"] : List He.Fa) ++ ([.glo "SumError", .free "repr", .free "ValueError", .glo "_law_heard", .glo "_law_drawn", .glo "_law_read", .glo "_law_told", .glo "_law_right", .glo "_law_refused_right", .glo "law", .keep "Unlike", .keep "TooMany", .keep "BadWord", .keep "BadWidth", .keep "BadLetter"] : List He.Fa)
def exl : List (PySem.W.Frag → Bool) := ([exnB "Unlike" ["part"], exnB "TooMany" ["what", "most"], exnB "BadWord" ["value"], exnB "BadWidth" ["value"], exnB "BadLetter" ["value"], exmB T0 0 exm0, tbB T0 fds okl oxl, kiB T0 I0] : List (PySem.W.Frag → Bool))
def names : List PySem.Str := (["__name__", "DIGITS", "LONGEST_WORD", "is_integer", "is_between", "are_digits", "is_word_of", "is_letter_of", "SumError", "BadWidth", "BadWord", "BadLetter", "Unlike", "TooMany", "MOST_WORDS", "reading", "words_of", "_law_pen", "_law_draw", "_law_pick", "_law_heard", "_law_drawn", "_law_read", "_law_told", "_law_right", "_law_refused_right"] : List PySem.Str)
structure Gd (K : PySem.W.Frag) (mg : Str → Option Value) (base : Heap) : Prop where
  c : SaysZ fal exl fnl K
  tk : TabsK tbl K
  at_ : ∃ h : Heap, K.In h ∧ h.Ns mainGlobals mg
  inB : K.In base
  bt : BaseT (T0.tabs K) mg base
section
variable {K : PySem.W.Frag} {mg : Str → Option Value} {base : Heap}
theorem Gd.glo (g : Gd K mg base) (i : Nat) {x : Str} (h : fal[i]? = some (.glo x) := by rfl) : mg x = some (.ref (He.ga K x)) := let ⟨_, a, b⟩ := g.at_; He.glo_ok a b (g.c.fact i h)
theorem Gd.free (g : Gd K mg base) (i : Nat) {x : Str} (h : fal[i]? = some (.free x) := by rfl) : mg x = none := let ⟨_, a, b⟩ := g.at_; He.free_ok a b (g.c.fact i h)
theorem Gd.int (g : Gd K mg base) (i : Nat) {x : Str} {v : Int} (h : fal[i]? = some (.int x v) := by rfl) : ∃ t, mg x = some (.int v t) := let ⟨_, a, b⟩ := g.at_; He.int_ok a b (g.c.fact i h)
theorem Gd.str (g : Gd K mg base) (i : Nat) {x z : Str} (h : fal[i]? = some (.str x z) := by rfl) : ∃ t, mg x = some (.str z t) := let ⟨_, a, b⟩ := g.at_; He.str_ok a b (g.c.fact i h)
theorem Gd.tb0 (g : Gd K mg base) : TbOk T0 K := tbB_ok (cns := cns) (tb := tbl) (g.c.extra 6 (f := tbB T0 fds okl oxl) rfl)
theorem Gd.ki (g : Gd K mg base) : KiOk T0 I0 K := kiB_ok (g.c.extra 7 (f := kiB T0 I0) rfl)
end
section
variable {P : Program} {w : World} {K : PySem.W.Frag} {mg : Str → Option Value} {base : Heap}
theorem ei_Unlike : FnScope ["self", "part"] ["self", "part"] (defScope (cst 13 0)) := ⟨rfl, rfl, rfl, by decide +kernel, rfl, by decide +kernel, by decide +kernel⟩
theorem en_Unlike (g : Gd K mg base) : ExN T0 P w K mg base 1 "Unlike" 5 [0] := by
  obtain ⟨fd, F⟩ := g.c.def_ 0 (d := hd0) rfl
  have hx := g.c.extra 0 (f := exnB "Unlike" ["part"]) rfl
  have O : OexC K (T0.ca K 5) := oexB_ok (Bool.and_eq_true_iff.mp hx).1
  exact ⟨⟨_, fd, ["self", "part"], (g.glo 0), O, (exnB_init hx).1, (exnB_init hx).2, init1 F ei_Unlike O (exnB_no hx (List.mem_of_getElem? (i := 0) rfl)), F.bindsN (fun _ _ _ _ _ _ us hl => match us, hl with | [_, _], _ => rfl)⟩, by decide, by decide⟩
theorem ei_TooMany : FnScope ["self", "what", "most"] ["self", "what", "most"] (defScope (cst 14 0)) := ⟨rfl, rfl, rfl, by decide +kernel, rfl, by decide +kernel, by decide +kernel⟩
theorem en_TooMany (g : Gd K mg base) : ExN T0 P w K mg base 1 "TooMany" 4 [1, 2] := by
  obtain ⟨fd, F⟩ := g.c.def_ 1 (d := hd1) rfl
  have hx := g.c.extra 1 (f := exnB "TooMany" ["what", "most"]) rfl
  have O : OexC K (T0.ca K 4) := oexB_ok (Bool.and_eq_true_iff.mp hx).1
  exact ⟨⟨_, fd, ["self", "what", "most"], (g.glo 1), O, (exnB_init hx).1, (exnB_init hx).2, init2 F ei_TooMany O (exnB_no hx (List.mem_of_getElem? (i := 0) rfl)) (exnB_no hx (List.mem_of_getElem? (i := 1) rfl)), F.bindsN (fun _ _ _ _ _ _ us hl => match us, hl with | [_, _, _], _ => rfl)⟩, by decide, by decide⟩
theorem ei_BadWord : FnScope ["self", "value"] ["self", "value"] (defScope (cst 11 0)) := ⟨rfl, rfl, rfl, by decide +kernel, rfl, by decide +kernel, by decide +kernel⟩
theorem en_BadWord (g : Gd K mg base) : ExN T0 P w K mg base 1 "BadWord" 3 [3] := by
  obtain ⟨fd, F⟩ := g.c.def_ 2 (d := hd2) rfl
  have hx := g.c.extra 2 (f := exnB "BadWord" ["value"]) rfl
  have O : OexC K (T0.ca K 3) := oexB_ok (Bool.and_eq_true_iff.mp hx).1
  exact ⟨⟨_, fd, ["self", "value"], (g.glo 2), O, (exnB_init hx).1, (exnB_init hx).2, init1 F ei_BadWord O (exnB_no hx (List.mem_of_getElem? (i := 0) rfl)), F.bindsN (fun _ _ _ _ _ _ us hl => match us, hl with | [_, _], _ => rfl)⟩, by decide, by decide⟩
theorem ei_BadWidth : FnScope ["self", "value"] ["self", "value"] (defScope (cst 10 0)) := ⟨rfl, rfl, rfl, by decide +kernel, rfl, by decide +kernel, by decide +kernel⟩
theorem en_BadWidth (g : Gd K mg base) : ExN T0 P w K mg base 1 "BadWidth" 2 [3] := by
  obtain ⟨fd, F⟩ := g.c.def_ 3 (d := hd3) rfl
  have hx := g.c.extra 3 (f := exnB "BadWidth" ["value"]) rfl
  have O : OexC K (T0.ca K 2) := oexB_ok (Bool.and_eq_true_iff.mp hx).1
  exact ⟨⟨_, fd, ["self", "value"], (g.glo 3), O, (exnB_init hx).1, (exnB_init hx).2, init1 F ei_BadWidth O (exnB_no hx (List.mem_of_getElem? (i := 0) rfl)), F.bindsN (fun _ _ _ _ _ _ us hl => match us, hl with | [_, _], _ => rfl)⟩, by decide, by decide⟩
theorem ei_BadLetter : FnScope ["self", "value"] ["self", "value"] (defScope (cst 12 0)) := ⟨rfl, rfl, rfl, by decide +kernel, rfl, by decide +kernel, by decide +kernel⟩
theorem en_BadLetter (g : Gd K mg base) : ExN T0 P w K mg base 1 "BadLetter" 1 [3] := by
  obtain ⟨fd, F⟩ := g.c.def_ 4 (d := hd4) rfl
  have hx := g.c.extra 4 (f := exnB "BadLetter" ["value"]) rfl
  have O : OexC K (T0.ca K 1) := oexB_ok (Bool.and_eq_true_iff.mp hx).1
  exact ⟨⟨_, fd, ["self", "value"], (g.glo 4), O, (exnB_init hx).1, (exnB_init hx).2, init1 F ei_BadLetter O (exnB_no hx (List.mem_of_getElem? (i := 0) rfl)), F.bindsN (fun _ _ _ _ _ _ us hl => match us, hl with | [_, _], _ => rfl)⟩, by decide, by decide⟩
abbrev nm_is_integer : List Str := ["value"]
theorem sc_is_integer : FnScope ["value"] ["value"] (defScope (top 3)) := ⟨rfl, rfl, rfl, by decide +kernel, rfl, by decide +kernel, by decide +kernel⟩
theorem fn_is_integer (g : Gd K mg base) : Fn T0 P w K mg base 1 "is_integer" ["value"] d_is_integer := by
  obtain ⟨fd, F⟩ := g.c.def_ 5 (d := hd5) rfl
  refine ⟨⟨_, fd, (g.glo 8), F.kp, fng_of F sc_is_integer fun cdv hc A outer s H E c => ?_, F.bindsN (fun _ _ _ _ _ _ us hl => match us, hl with | [_], _ => rfl), kw_of F (fun _ _ _ _ _ _ ws hl => match ws, hl with | [_], _ => rfl), lk_of F⟩, arity_d⟩
  exact jb_one (js_ret (je_and (je_callB cr_isi (cz_isiX g.ki) (g.free 6) (ja_cons (je_var 0) (ja_cons (je_ty (g.free 5) rfl) (ja_nil)))) (je_one (je_not (je_callB cr_isi (cz_isiX g.ki) (g.free 6) (ja_cons (je_var 0) (ja_cons (je_ty (g.free 7) rfl) (ja_nil))))))))
abbrev nm_is_between : List Str := ["value", "low", "high"]
theorem sc_is_between : FnScope ["value", "low", "high"] ["value", "low", "high"] (defScope (top 4)) := ⟨rfl, rfl, rfl, by decide +kernel, rfl, by decide +kernel, by decide +kernel⟩
theorem fn_is_between (g : Gd K mg base) : Fn T0 P w K mg base 2 "is_between" ["value", "low", "high"] d_is_between := by
  obtain ⟨fd, F⟩ := g.c.def_ 6 (d := hd6) rfl
  refine ⟨⟨_, fd, (g.glo 9), F.kp, fng_of F sc_is_between fun cdv hc A outer s H E c => ?_, F.bindsN (fun _ _ _ _ _ _ us hl => match us, hl with | [_, _, _], _ => rfl), kw_of F (fun _ _ _ _ _ _ ws hl => match ws, hl with | [_, _, _], _ => rfl), lk_of F⟩, arity_d⟩
  exact jb_one (js_ret (je_and (je_fn c (fn_is_integer g) (ja_cons (je_var 0) (ja_nil)) (by decide)) (je_one (je_chain op_leZ oz_le op_leZ oz_le (je_var 1) (je_var 0) (je_var 2)))))
abbrev nm_are_digits : List Str := ["value", "base", "sign"]
theorem sc_are_digits : FnScope ["value", "base", "sign"] ["value", "base"] (defScope (top 5)) := ⟨rfl, rfl, rfl, by decide +kernel, rfl, by decide +kernel, by decide +kernel⟩
theorem fn_are_digits (g : Gd K mg base) : Fn T0 P w K mg base 1 "are_digits" ["value", "base"] d_are_digits := by
  obtain ⟨fd, F⟩ := g.c.def_ 7 (d := hd7) rfl
  refine ⟨⟨_, fd, (g.glo 13), F.kp, fng_of F sc_are_digits fun cdv hc A outer s H E c => ?_, F.bindsN (fun _ _ _ _ _ _ us hl => match us, hl with | [_, _], _ => rfl), kw_of F (fun _ _ _ _ _ _ ws hl => match ws, hl with | [_, _], _ => rfl), lk_of F⟩, arity_d⟩
  exact jb_one (js_ret (je_and (je_callB cr_isi (cz_isiX g.ki) (g.free 6) (ja_cons (je_var 0) (ja_cons (je_ty (g.free 10) rfl) (ja_nil)))) (je_one (je_callB (cr_all c.calm) cz_all (g.free 12) (ja_cons (je_lc [("sign", 2)] c.calm c.nd (ji_val (je_var 0)) ⟨fun _ _ _ _ _ => jg_n 2 c.blk.nd, fun _ _ _ _ _ => jts_nil, fun _ _ _ _ _ => je_cmp op_inZ (oz_in false) (je_var 2) (je_sli (je_gstr (g.str 11)) (jo_none) (jo_some (je_var 1)))⟩ (blkOk_by (N := nm_are_digits) (sc := defScope (top 5)) (by decide +kernel))) (ja_nil))))))
abbrev nm_is_word_of : List Str := ["value", "base"]
theorem sc_is_word_of : FnScope ["value", "base"] ["value", "base"] (defScope (top 6)) := ⟨rfl, rfl, rfl, by decide +kernel, rfl, by decide +kernel, by decide +kernel⟩
theorem fn_is_word_of (g : Gd K mg base) : Fn T0 P w K mg base 2 "is_word_of" ["value", "base"] d_is_word_of := by
  obtain ⟨fd, F⟩ := g.c.def_ 8 (d := hd8) rfl
  refine ⟨⟨_, fd, (g.glo 16), F.kp, fng_of F sc_is_word_of fun cdv hc A outer s H E c => ?_, F.bindsN (fun _ _ _ _ _ _ us hl => match us, hl with | [_, _], _ => rfl), kw_of F (fun _ _ _ _ _ _ ws hl => match ws, hl with | [_, _], _ => rfl), lk_of F⟩, arity_d⟩
  exact jb_one (js_ret (je_and (je_fn c (fn_are_digits g) (ja_cons (je_var 0) (ja_cons (je_var 1) (ja_nil))) (by decide)) (je_one (je_cmp op_leZ oz_le (je_callB cr_len cz_len (g.free 14) (ja_cons (je_var 0) (ja_nil))) (je_gint (g.int 15))))))
abbrev nm_is_letter_of : List Str := ["value", "base", "width"]
theorem sc_is_letter_of : FnScope ["value", "base", "width"] ["value", "base", "width"] (defScope (top 7)) := ⟨rfl, rfl, rfl, by decide +kernel, rfl, by decide +kernel, by decide +kernel⟩
theorem fn_is_letter_of (g : Gd K mg base) : Fn T0 P w K mg base 2 "is_letter_of" ["value", "base", "width"] d_is_letter_of := by
  obtain ⟨fd, F⟩ := g.c.def_ 9 (d := hd9) rfl
  refine ⟨⟨_, fd, (g.glo 17), F.kp, fng_of F sc_is_letter_of fun cdv hc A outer s H E c => ?_, F.bindsN (fun _ _ _ _ _ _ us hl => match us, hl with | [_, _, _], _ => rfl), kw_of F (fun _ _ _ _ _ _ ws hl => match ws, hl with | [_, _, _], _ => rfl), lk_of F⟩, arity_d⟩
  exact jb_one (js_ret (je_and (je_fn c (fn_are_digits g) (ja_cons (je_var 0) (ja_cons (je_var 1) (ja_nil))) (by decide)) (je_one (je_cmp (op_eqZ c.hu) oz_eq (je_callB cr_len cz_len (g.free 14) (ja_cons (je_var 0) (ja_nil))) (je_var 2)))))
abbrev nm_reading : List Str := ["words", "word", "letter"]
theorem sc_reading : FnScope ["words", "word", "letter"] ["words"] (defScope (top 17)) := ⟨rfl, rfl, rfl, by decide +kernel, rfl, by decide +kernel, by decide +kernel⟩
theorem fv_reading (g : Gd K mg base) : FnV T0 P w K mg base 3 "reading" (dStar 0 d_reading) := by
  obtain ⟨fd, F⟩ := g.c.def_ 10 (d := hd10) rfl
  exact ⟨_, (g.glo 22), F.kp, fnp_star (ps := []) (pv := "words") (N := nm_reading) (d := d_reading) (fun _ _ _ _ h => def_ok (ps := ["words"]) (N := nm_reading) h) F sc_reading arity_d (fun _ _ _ _ _ _ us rest hl => match us, rest, hl with | [], [], _ => rfl | [], _ :: _, _ => rfl) (fun cdv A outer s H E c => jb_cons (js_for c.own c.calm (ji_val (je_var 0)) (jg_n 1 c.nd) (jb_one (js_if (jt_not (jt_tru (je_fn c (fn_is_word_of g) (ja_cons (je_var 1) (ja_cons (je_int) (ja_nil))) (by decide)))) (jb_one (js_raise c (en_BadWord g) (ja_cons (je_var 1) (ja_nil)))) (jb_nil)))) (jb_cons (js_if (jt_tru (je_callB (cr_any c.calm) cz_any (g.free 18) (ja_cons (je_lc [("word", 1)] c.calm c.nd (ji_val (je_var 0)) ⟨fun _ _ _ _ _ => jg_n 1 c.blk.nd, fun _ _ _ _ _ => jts_nil, fun _ _ _ _ _ => je_cmp (op_neZ c.blk.hu) oz_ne (je_callB cr_len cz_len (g.free 14) (ja_cons (je_var 1) (ja_nil))) (je_callB cr_len cz_len (g.free 14) (ja_cons (je_sub c.blk.hu1 (je_var 0) (je_int)) (ja_nil)))⟩ (blkOk_by (N := nm_reading) (sc := defScope (top 17)) (by decide +kernel))) (ja_nil)))) (jb_one (js_raise c (en_Unlike g) (ja_cons (je_str) (ja_nil)))) (jb_nil)) (jb_cons (js_if (jt_cmp op_gtZ oz_gt (je_callB cr_len cz_len (g.free 14) (ja_cons (je_var 0) (ja_nil))) (je_gint (g.int 19))) (jb_one (js_raise c (en_TooMany g) (ja_cons (je_str) (ja_cons (je_gint (g.int 19)) (ja_nil))))) (jb_nil)) (jb_one (js_ret (je_callT call_tuple_of cz_tup (g.free 21) (ja_cons (je_lc [("letter", 2)] c.calm c.nd (ji_zipN (g.free 20) (je_var 0)) ⟨fun _ _ _ _ _ => jg_n 2 c.blk.nd, fun _ _ _ _ _ => jts_nil, fun _ _ _ _ _ => je_join (je_str) (je_var 2)⟩ (blkOk_by (N := nm_reading) (sc := defScope (top 17)) (by decide +kernel))) (ja_nil))))))))⟩
abbrev nm_words_of : List Str := ["letters", "width", "letter", "place"]
theorem sc_words_of : FnScope ["letters", "width", "letter", "place"] ["letters", "width"] (defScope (top 18)) := ⟨rfl, rfl, rfl, by decide +kernel, rfl, by decide +kernel, by decide +kernel⟩
theorem fb_words_of_0 (g : Gd K mg base) : FnB K mg "words_of" ["letters", "width"] ["width", "letters"] [1, 0] := by
  obtain ⟨fd, F⟩ := g.c.def_ 11 (d := hd11) rfl
  exact fnb_of F (g.glo 24) (fun _ _ _ _ _ _ ws hl => match ws, hl with | [_, _], _ => rfl)
theorem fn_words_of (g : Gd K mg base) : Fn T0 P w K mg base 3 "words_of" ["letters", "width"] d_words_of := by
  obtain ⟨fd, F⟩ := g.c.def_ 11 (d := hd11) rfl
  refine ⟨⟨_, fd, (g.glo 24), F.kp, fng_of F sc_words_of fun cdv hc A outer s H E c => ?_, F.bindsN (fun _ _ _ _ _ _ us hl => match us, hl with | [_, _], _ => rfl), kw_of F (fun _ _ _ _ _ _ ws hl => match ws, hl with | [_, _], _ => rfl), lk_of F⟩, arity_d⟩
  exact jb_cons (js_if (jt_not (jt_tru (je_fn c (fn_is_between g) (ja_cons (je_var 1) (ja_cons (je_int) (ja_cons (je_gint (g.int 19)) (ja_nil)))) (by decide)))) (jb_one (js_raise c (en_BadWidth g) (ja_cons (je_var 1) (ja_nil)))) (jb_nil)) (jb_cons (js_if ((jw_or (jt_not (jt_tru (je_callB cr_isi (cz_isiX g.ki) (g.free 6) (ja_cons (je_var 0) (ja_cons (je_ty (g.free 21) rfl) (ja_nil)))))) (jw_or1 (jt_cmp op_gtZ oz_gt (je_callB cr_len cz_len (g.free 14) (ja_cons (je_var 0) (ja_nil))) (je_gint (g.int 15))))).pt) (jb_one (js_raise c (en_BadLetter g) (ja_cons (je_non) (ja_nil)))) (jb_nil)) (jb_cons (js_for c.own c.calm (ji_val (je_var 0)) (jg_n 2 c.nd) (jb_one (js_if (jt_not (jt_tru (je_fn c (fn_is_letter_of g) (ja_cons (je_var 2) (ja_cons (je_int) (ja_cons (je_var 1) (ja_nil)))) (by decide)))) (jb_one (js_raise c (en_BadLetter g) (ja_cons (je_var 2) (ja_nil)))) (jb_nil)))) (jb_one (js_ret (je_callT call_tuple_of cz_tup (g.free 21) (ja_cons (je_lc [("place", 3)] c.calm c.nd (ji_rng1 (g.free 23) (ja_cons (je_var 1) (ja_nil))) ⟨fun _ _ _ _ _ => jg_n 3 c.blk.nd, fun _ _ _ _ _ => jts_nil, fun _ _ _ _ _ => je_join (je_str) (je_lc [("letter", 2)] c.blk.calm c.blk.nd (ji_val (je_var 0)) ⟨fun _ _ _ _ _ => jg_n 2 c.blk.blk.nd, fun _ _ _ _ _ => jts_nil, fun _ _ _ _ _ => je_sub c.blk.blk.hu1 (je_var 2) (je_var 3)⟩ (blkOk_by (by kernel_rfl)))⟩ (blkOk_by (N := nm_words_of) (sc := defScope (top 18)) (by decide +kernel))) (ja_nil)))))))
abbrev nm__law_pen : List Str := ["_law_script"]
theorem sc__law_pen : FnScope ["_law_script"] ["_law_script"] (defScope (top 20)) := ⟨rfl, rfl, rfl, by decide +kernel, rfl, by decide +kernel, by decide +kernel⟩
theorem fn__law_pen (g : Gd K mg base) : Fn T0 P w K mg base 1 "_law_pen" ["_law_script"] d__law_pen := by
  obtain ⟨fd, F⟩ := g.c.def_ 12 (d := hd12) rfl
  refine ⟨⟨_, fd, (g.glo 26), F.kp, fng_of0 F sc__law_pen fun cdv hc A outer s H E c => ?_, F.bindsN (fun _ _ _ _ _ _ us hl => match us, hl with | [_], _ => rfl), kw_of F (fun _ _ _ _ _ _ ws hl => match ws, hl with | [_], _ => rfl), lk_of F⟩, arity_0⟩
  exact jb_one (js_ret (je_lstM (ja_cons (je_callT call_list_of cz_list (g.free 25) (ja_cons (je_sli (je_var 0) (jo_none) (jo_some (je_int))) (ja_nil))) (ja_cons (je_int) (ja_cons (je_int) (ja_nil))))))
abbrev nm__law_draw : List Str := ["_law_pen_here", "_law_many", "_law_digit", "_law_at", "_law_cell", "_law_great", "_law_mixed"]
theorem sc__law_draw : FnScope ["_law_pen_here", "_law_many", "_law_digit", "_law_at", "_law_cell", "_law_great", "_law_mixed"] ["_law_pen_here", "_law_many"] (defScope (top 21)) := ⟨rfl, rfl, rfl, by decide +kernel, rfl, by decide +kernel, by decide +kernel⟩
theorem fn__law_draw (g : Gd K mg base) : Fn T0 P w K mg base 1 "_law_draw" ["_law_pen_here", "_law_many"] d__law_draw := by
  obtain ⟨fd, F⟩ := g.c.def_ 13 (d := hd13) rfl
  refine ⟨⟨_, fd, (g.glo 28), F.kp, fng_of F sc__law_draw fun cdv hc A outer s H E c => ?_, F.bindsN (fun _ _ _ _ _ _ us hl => match us, hl with | [_, _], _ => rfl), kw_of F (fun _ _ _ _ _ _ ws hl => match ws, hl with | [_, _], _ => rfl), lk_of F⟩, arity_d⟩
  exact jb_cons (js_if (jt_cmp op_gtZ oz_gt (je_sub c.hu1 (je_var 0) (je_int)) (je_int)) (jb_cons (js_set 2 c.nd (je_bin op_modN oz_mod (je_callT call_int1 cz_int (g.free 5) (ja_cons (je_sub c.hu1 (je_var 0) (je_int)) (ja_nil))) (je_var 1))) (jb_cons (js_asg (je_bin op_divZ oz_div (je_callT call_int1 cz_int (g.free 5) (ja_cons (je_sub c.hu1 (je_var 0) (je_int)) (ja_nil))) (je_var 1)) (jgz_i (E := fun _ => E) (je_var 0) (je_int))) (jb_one (js_ret (je_var 2))))) (jb_nil)) (jb_cons (js_set 3 c.nd (je_sub c.hu1 (je_var 0) (je_int))) (jb_cons (js_asg (je_bin op_addZ oz_add (je_var 3) (je_int)) (jgz_i (E := fun _ => E) (je_var 0) (je_int))) (jb_cons (js_set 4 c.nd (je_bin op_addZ oz_add (je_bin op_mulA oz_mul (je_int) (je_var 3)) (je_int))) (jb_cons (js_if (jt_cmp (op_neZ c.hu) oz_ne (je_sub c.hu1 (je_var 0) (je_int)) (je_lst (ja_nil))) (jb_one (js_set 4 c.nd (je_sub c.hu1 (je_sub c.hu1 (je_var 0) (je_int)) (je_bin op_modN oz_mod (je_callT call_int1 cz_int (g.free 5) (ja_cons (je_var 3) (ja_nil))) (je_callB cr_len cz_len (g.free 14) (ja_cons (je_sub c.hu1 (je_var 0) (je_int)) (ja_nil))))))) (jb_nil)) (jb_cons (js_if ((jw_and (jt_cmp op_ltZ oz_lt (je_var 3) (je_callB cr_len cz_len (g.free 14) (ja_cons (je_sub c.hu1 (je_var 0) (je_int)) (ja_nil)))) (jw_and1 (jt_cmp op_geZ oz_ge (je_callB call_abs cz_abs (g.free 27) (ja_cons (je_var 4) (ja_nil))) (je_bin op_pow oz_pow (je_int) (je_int))))).pt) (jb_cons (js_set 5 c.nd (je_bin op_addZ oz_add (je_bin op_mulA oz_mul (je_int) (je_bin op_sub oz_sub (je_callB call_abs cz_abs (g.free 27) (ja_cons (je_var 4) (ja_nil))) (je_bin op_pow oz_pow (je_int) (je_int)))) (je_callT call_int1 cz_int (g.free 5) (ja_cons (je_cmp op_ltZ oz_lt (je_var 4) (je_int)) (ja_nil))))) (jb_cons (js_asg (je_bin op_divZ oz_div (je_callT call_int1 cz_int (g.free 5) (ja_cons (je_var 5) (ja_nil))) (je_var 1)) (jgz_i (E := fun _ => E) (je_var 0) (je_int))) (jb_one (js_ret (je_bin op_modN oz_mod (je_callT call_int1 cz_int (g.free 5) (ja_cons (je_var 5) (ja_nil))) (je_var 1)))))) (jb_nil)) (jb_cons (js_set 6 c.nd (je_bin op_modN oz_mod (je_callT call_int1 cz_int (g.free 5) (ja_cons (je_bin op_pow oz_pow (je_bin op_addZ oz_add (je_bin op_addZ oz_add (je_bin op_modN oz_mod (je_callT call_int1 cz_int (g.free 5) (ja_cons (je_var 4) (ja_nil))) (je_int)) (je_bin op_mulA oz_mul (je_int) (je_var 3))) (je_int)) (je_int)) (ja_nil))) (je_int))) (jb_cons (js_set 6 c.nd (je_bin op_modN oz_mod (je_callT call_int1 cz_int (g.free 5) (ja_cons (je_bin op_pow oz_pow (je_bin op_addZ oz_add (je_bin op_addZ oz_add (je_bin op_mulA oz_mul (je_var 6) (je_bin op_addZ oz_add (je_bin op_mulA oz_mul (je_int) (je_var 3)) (je_int))) (je_bin op_mulA oz_mul (je_bin op_mulA oz_mul (je_int) (je_var 3)) (je_var 3))) (je_int)) (je_int)) (ja_nil))) (je_int))) (jb_one (js_ret (je_bin op_modN oz_mod (je_callT call_int1 cz_int (g.free 5) (ja_cons (je_bin op_divZ oz_div (je_var 6) (je_int)) (ja_nil))) (je_var 1)))))))))))
abbrev nm__law_pick : List Str := ["_law_pen_here", "_law_some"]
theorem sc__law_pick : FnScope ["_law_pen_here", "_law_some"] ["_law_pen_here", "_law_some"] (defScope (top 22)) := ⟨rfl, rfl, rfl, by decide +kernel, rfl, by decide +kernel, by decide +kernel⟩
theorem fn__law_pick (g : Gd K mg base) : Fn T0 P w K mg base 2 "_law_pick" ["_law_pen_here", "_law_some"] d__law_pick := by
  obtain ⟨fd, F⟩ := g.c.def_ 14 (d := hd14) rfl
  refine ⟨⟨_, fd, (g.glo 29), F.kp, fng_of F sc__law_pick fun cdv hc A outer s H E c => ?_, F.bindsN (fun _ _ _ _ _ _ us hl => match us, hl with | [_, _], _ => rfl), kw_of F (fun _ _ _ _ _ _ ws hl => match ws, hl with | [_, _], _ => rfl), lk_of F⟩, arity_d⟩
  exact jb_one (js_ret (je_sub c.hu1 (je_var 1) (je_fn c (fn__law_draw g) (ja_cons (je_var 0) (ja_cons (je_callB cr_len cz_len (g.free 14) (ja_cons (je_var 1) (ja_nil))) (ja_nil))) (by decide))))
abbrev nm__law_heard : List Str := ["_law_ask", "_law_caught", "_law_found", "error", "_law_some"]
theorem sc__law_heard : FnScope ["_law_ask", "_law_caught", "_law_found", "error", "_law_some"] ["_law_ask"] (defScope (top 23)) := ⟨rfl, rfl, rfl, by decide +kernel, rfl, by decide +kernel, by decide +kernel⟩
theorem ld__law_heard (g : Gd K mg base) : LamD T0 P w K mg base "_law_heard" 5 b__law_heard := by
  obtain ⟨fd, F⟩ := g.c.def_ 15 (d := hd15) rfl
  exact ⟨_, fd, "_law_ask", nm__law_heard, _, _, _, (g.glo 33), F, F.bindsN (fun _ _ _ _ _ _ us hl => match us, hl with | [_], _ => rfl), sc__law_heard, rfl, rfl, by first | exact Or.inl rfl | exact Or.inr (Or.inl rfl), by decide, by decide, fun x0 tl j cdv A outer s H E c ca => jb_cons (js_asg (je_tup (ja_cons (je_non) (ja_cons (je_non) (ja_nil)))) (jgz_t c.calm (jgzs_cons (jgz_n 1 c.nd) (jgzs_cons (jgz_n 2 c.nd) (jgzs_nil))))) (jb_cons (js_tryAs 3 c ⟨rfl, by decide, .inl (g.glo 30)⟩ (exm_of (g.c.extra 5 (f := exmB T0 0 exm0) rfl)) (fun E3 pn3 xe3 c3 => jb_one (js_set 2 c.nd (ca E3 pn3 xe3 _ _ c3))) (fun _ _ => jb_one (js_set 1 c.nd (je_var 3)))) (jb_keep [1, 2, 3, 4] (jb_cons (js_if (jt_cmp op_isZ oz_is (je_var 1) (je_non)) (jb_one (js_ret (je_lst (ja_cons (je_var 2) (ja_nil))))) (jb_nil)) (jb_cons (js_set 4 c.nd (je_lstM (ja_nil))) (jb_cons (js_if (jt_tru (je_callB cr_isi (cz_isiX g.ki) (g.free 6) (ja_cons (je_var 1) (ja_cons (je_cls (g.glo 4)) (ja_nil))))) (jb_one (js_expr (je_append (je_var 4) (je_tup (ja_cons (je_str) (ja_cons (je_callB (cr_reprX c.gd c.hu) cz_reprX (g.free 31) (ja_cons (je_attrE 3 g.tb0 (je_var 1)) (ja_nil))) (ja_nil))))))) (jb_nil)) (jb_cons (js_if (jt_tru (je_callB cr_isi (cz_isiX g.ki) (g.free 6) (ja_cons (je_var 1) (ja_cons (je_cls (g.glo 3)) (ja_nil))))) (jb_one (js_expr (je_append (je_var 4) (je_tup (ja_cons (je_str) (ja_cons (je_callB (cr_reprX c.gd c.hu) cz_reprX (g.free 31) (ja_cons (je_attrE 3 g.tb0 (je_var 1)) (ja_nil))) (ja_nil))))))) (jb_nil)) (jb_cons (js_if (jt_tru (je_callB cr_isi (cz_isiX g.ki) (g.free 6) (ja_cons (je_var 1) (ja_cons (je_cls (g.glo 2)) (ja_nil))))) (jb_one (js_expr (je_append (je_var 4) (je_tup (ja_cons (je_str) (ja_cons (je_callB (cr_reprX c.gd c.hu) cz_reprX (g.free 31) (ja_cons (je_attrE 3 g.tb0 (je_var 1)) (ja_nil))) (ja_nil))))))) (jb_nil)) (jb_cons (js_if (jt_tru (je_callB cr_isi (cz_isiX g.ki) (g.free 6) (ja_cons (je_var 1) (ja_cons (je_cls (g.glo 1)) (ja_nil))))) (jb_one (js_expr (je_append (je_var 4) (je_tup (ja_cons (je_str) (ja_cons (je_callB (cr_reprX c.gd c.hu) cz_reprX (g.free 31) (ja_cons (je_attrE 1 g.tb0 (je_var 1)) (ja_nil))) (ja_cons (je_callB (cr_reprX c.gd c.hu) cz_reprX (g.free 31) (ja_cons (je_attrE 2 g.tb0 (je_var 1)) (ja_nil))) (ja_nil)))))))) (jb_nil)) (jb_cons (js_if (jt_tru (je_callB cr_isi (cz_isiX g.ki) (g.free 6) (ja_cons (je_var 1) (ja_cons (je_cls (g.glo 0)) (ja_nil))))) (jb_one (js_expr (je_append (je_var 4) (je_tup (ja_cons (je_str) (ja_cons (je_callB (cr_reprX c.gd c.hu) cz_reprX (g.free 31) (ja_cons (je_attrE 0 g.tb0 (je_var 1)) (ja_nil))) (ja_nil))))))) (jb_nil)) (jb_one (js_ret (je_if ((jw_and (jt_cmp (op_eqZ c.hu) oz_eq (je_callB cr_len cz_len (g.free 14) (ja_cons (je_var 4) (ja_nil))) (je_int)) (jw_and1 (jt_tru (je_callB cr_isi (cz_isiX g.ki) (g.free 6) (ja_cons (je_var 1) (ja_cons (je_ty (g.free 32) rfl) (ja_nil))))))).pt) (je_sub c.hu1 (je_var 4) (je_int)) (je_tup (ja_cons (je_str) (ja_nil)))))))))))))))⟩
abbrev nm__law_drawn : List Str := ["_law_pen_here", "_law_many", "_law_spot"]
theorem sc__law_drawn : FnScope ["_law_pen_here", "_law_many", "_law_spot"] ["_law_pen_here", "_law_many"] (defScope (top 24)) := ⟨rfl, rfl, rfl, by decide +kernel, rfl, by decide +kernel, by decide +kernel⟩
theorem fn__law_drawn (g : Gd K mg base) : Fn T0 P w K mg base 3 "_law_drawn" ["_law_pen_here", "_law_many"] d__law_drawn := by
  obtain ⟨fd, F⟩ := g.c.def_ 16 (d := hd16) rfl
  refine ⟨⟨_, fd, (g.glo 34), F.kp, fng_of F sc__law_drawn fun cdv hc A outer s H E c => ?_, F.bindsN (fun _ _ _ _ _ _ us hl => match us, hl with | [_, _], _ => rfl), kw_of F (fun _ _ _ _ _ _ ws hl => match ws, hl with | [_, _], _ => rfl), lk_of F⟩, arity_d⟩
  exact jb_one (js_ret (je_join (je_str) (je_lc [("_law_spot", 2)] c.calm c.nd (ji_rng1 (g.free 23) (ja_cons (je_var 1) (ja_nil))) ⟨fun _ _ _ _ _ => jg_n 2 c.blk.nd, fun _ _ _ _ _ => jts_nil, fun _ _ _ _ _ => je_fn c.blk (fn__law_pick g) (ja_cons (je_var 0) (ja_cons (je_str) (ja_nil))) (by decide)⟩ (blkOk_by (N := nm__law_drawn) (sc := defScope (top 24)) (by decide +kernel)))))
abbrev nm__law_read : List Str := ["_law_some", "_law_word", "_law_spot"]
theorem sc__law_read : FnScope ["_law_some", "_law_word", "_law_spot"] ["_law_some"] (defScope (top 25)) := ⟨rfl, rfl, rfl, by decide +kernel, rfl, by decide +kernel, by decide +kernel⟩
theorem fn__law_read (g : Gd K mg base) : Fn T0 P w K mg base 1 "_law_read" ["_law_some"] d__law_read := by
  obtain ⟨fd, F⟩ := g.c.def_ 17 (d := hd17) rfl
  refine ⟨⟨_, fd, (g.glo 35), F.kp, fng_of F sc__law_read fun cdv hc A outer s H E c => ?_, F.bindsN (fun _ _ _ _ _ _ us hl => match us, hl with | [_], _ => rfl), kw_of F (fun _ _ _ _ _ _ ws hl => match ws, hl with | [_], _ => rfl), lk_of F⟩, arity_d⟩
  exact jb_cons (js_if (jt_cmp (op_eqZ c.hu) oz_eq (je_var 0) (je_lst (ja_nil))) (jb_one (js_ret (je_tup (ja_nil)))) (jb_nil)) (jb_one (js_ret (je_callT call_tuple_of cz_tup (g.free 21) (ja_cons (je_lc [("_law_spot", 2)] c.calm c.nd (ji_rng1 (g.free 23) (ja_cons (je_callB cr_len cz_len (g.free 14) (ja_cons (je_sub c.hu1 (je_var 0) (je_int)) (ja_nil))) (ja_nil))) ⟨fun _ _ _ _ _ => jg_n 2 c.blk.nd, fun _ _ _ _ _ => jts_nil, fun _ _ _ _ _ => je_join (je_str) (je_lc [("_law_word", 1)] c.blk.calm c.blk.nd (ji_val (je_var 0)) ⟨fun _ _ _ _ _ => jg_n 1 c.blk.blk.nd, fun _ _ _ _ _ => jts_nil, fun _ _ _ _ _ => je_sub c.blk.blk.hu1 (je_var 1) (je_var 2)⟩ (blkOk_by (by kernel_rfl)))⟩ (blkOk_by (N := nm__law_read) (sc := defScope (top 25)) (by decide +kernel))) (ja_nil)))))
abbrev nm__law_told : List Str := ["_law_some"]
theorem sc__law_told : FnScope ["_law_some"] ["_law_some"] (defScope (top 26)) := ⟨rfl, rfl, rfl, by decide +kernel, rfl, by decide +kernel, by decide +kernel⟩
theorem fn__law_told (g : Gd K mg base) : Fn T0 P w K mg base 4 "_law_told" ["_law_some"] d__law_told := by
  obtain ⟨fd, F⟩ := g.c.def_ 18 (d := hd18) rfl
  refine ⟨⟨_, fd, (g.glo 36), F.kp, fng_of F sc__law_told fun cdv hc A outer s H E c => ?_, F.bindsN (fun _ _ _ _ _ _ us hl => match us, hl with | [_], _ => rfl), kw_of F (fun _ _ _ _ _ _ ws hl => match ws, hl with | [_], _ => rfl), lk_of F⟩, arity_d⟩
  exact jb_cons (js_if (jt_cmp op_ltZ oz_lt (je_callB cr_len cz_len (g.free 14) (ja_cons (je_var 0) (ja_nil))) (je_int)) (jb_one (js_ret (je_if (jt_cmp (op_eqZ c.hu) oz_eq (je_var 0) (je_lst (ja_nil))) (je_fnP0 c (fv_reading g) (by decide)) (je_fnP c (fv_reading g) (ja_cons (je_sub c.hu1 (je_var 0) (je_int)) (ja_nil)) (by decide))))) (jb_nil)) (jb_cons (js_if (jt_cmp (op_eqZ c.hu) oz_eq (je_callB cr_len cz_len (g.free 14) (ja_cons (je_var 0) (ja_nil))) (je_int)) (jb_one (js_ret (je_fnP c (fv_reading g) (ja_cons (je_sub c.hu1 (je_var 0) (je_int)) (ja_cons (je_sub c.hu1 (je_var 0) (je_int)) (ja_nil))) (by decide)))) (jb_nil)) (jb_one (js_ret (je_if (jt_cmp (op_eqZ c.hu) oz_eq (je_callB cr_len cz_len (g.free 14) (ja_cons (je_var 0) (ja_nil))) (je_int)) (je_fnP c (fv_reading g) (ja_cons (je_sub c.hu1 (je_var 0) (je_int)) (ja_cons (je_sub c.hu1 (je_var 0) (je_int)) (ja_cons (je_sub c.hu1 (je_var 0) (je_int)) (ja_nil)))) (by decide)) (je_fnP c (fv_reading g) (ja_cons (je_sub c.hu1 (je_var 0) (je_int)) (ja_cons (je_sub c.hu1 (je_var 0) (je_int)) (ja_cons (je_sub c.hu1 (je_var 0) (je_int)) (ja_cons (je_sub c.hu1 (je_var 0) (je_int)) (ja_nil))))) (by decide))))))
abbrev nm__law_right : List Str := ["_law_pen_here", "_law_many", "_law_some", "_law_place", "_law_letters_so"]
theorem sc__law_right : FnScope ["_law_pen_here", "_law_many", "_law_some", "_law_place", "_law_letters_so"] ["_law_pen_here"] (defScope (top 27)) := ⟨rfl, rfl, rfl, by decide +kernel, rfl, by decide +kernel, by decide +kernel⟩
theorem fn__law_right (g : Gd K mg base) : Fn T0 P w K mg base 5 "_law_right" ["_law_pen_here"] d__law_right := by
  obtain ⟨fd, F⟩ := g.c.def_ 19 (d := hd19) rfl
  refine ⟨⟨_, fd, (g.glo 37), F.kp, fng_of F sc__law_right fun cdv hc A outer s H E c => ?_, F.bindsN (fun _ _ _ _ _ _ us hl => match us, hl with | [_], _ => rfl), kw_of F (fun _ _ _ _ _ _ ws hl => match ws, hl with | [_], _ => rfl), lk_of F⟩, arity_d⟩
  exact jb_cons (js_set 1 c.nd (je_fn c (fn__law_pick g) (ja_cons (je_var 0) (ja_cons (je_lst (ja_cons (je_int) (ja_cons (je_int) (ja_cons (je_int) (ja_cons (je_int) (ja_cons (je_fn c (fn__law_draw g) (ja_cons (je_var 0) (ja_cons (je_int) (ja_nil))) (by decide)) (ja_nil))))))) (ja_nil))) (by decide))) (jb_cons (js_setLc 2 [("_law_place", 3)] c.calm c.nd (ji_rng1 (g.free 23) (ja_cons (je_fn c (fn__law_draw g) (ja_cons (je_var 0) (ja_cons (je_int) (ja_nil))) (by decide)) (ja_nil))) ⟨fun _ _ _ _ _ => jg_n 3 c.blk.nd, fun _ _ _ _ _ => jts_nil, fun _ _ _ _ _ => je_fn c.blk (fn__law_drawn g) (ja_cons (je_var 0) (ja_cons (je_var 1) (ja_nil))) (by decide)⟩ (blkOk_by (N := nm__law_right) (sc := defScope (top 27)) (by decide +kernel))) (jb_cons (js_set 4 c.nd (je_fn c (fn__law_read g) (ja_cons (je_var 2) (ja_nil)) (by decide))) (jb_cons (js_if ((jw_or (jt_cmp (op_neZ c.hu) oz_ne (je_fn c (fn__law_told g) (ja_cons (je_var 2) (ja_nil)) (by decide)) (je_var 4)) (jw_or1 ((jw_and (jt_cmp (op_neZ c.hu) oz_ne (je_var 2) (je_lst (ja_nil))) (jw_and1 (jt_cmp (op_neZ c.hu) oz_ne (je_fn c (fn_words_of g) (ja_cons (je_var 4) (ja_cons (je_callB cr_len cz_len (g.free 14) (ja_cons (je_var 2) (ja_nil))) (ja_nil))) (by decide)) (je_callT call_tuple_of cz_tup (g.free 21) (ja_cons (je_var 2) (ja_nil)))))).pt))).pt) (jb_one (js_ret (je_bl))) (jb_nil)) (jb_cons (js_if ((jw_and (jt_cmp (op_neZ c.hu) oz_ne (je_var 2) (je_lst (ja_nil))) (jw_and1 (jt_cmp (op_neZ c.hu) oz_ne (je_fnKP c (fn_words_of g) (fb_words_of_0 g) (jk_cons (je_callB cr_len cz_len (g.free 14) (ja_cons (je_var 2) (ja_nil))) (jk_cons (je_var 4) (jk_nil))) (by decide)) (je_callT call_tuple_of cz_tup (g.free 21) (ja_cons (je_var 2) (ja_nil)))))).pt) (jb_one (js_ret (je_bl))) (jb_nil)) (jb_one (js_ret (je_and (je_cmp (op_eqZ c.hu) oz_eq (je_fn c (fn_words_of g) (ja_cons (je_tup (ja_nil)) (ja_cons (je_int) (ja_nil))) (by decide)) (je_tup (ja_cons (je_str) (ja_cons (je_str) (ja_cons (je_str) (ja_nil)))))) (je_one (je_cmp (op_eqZ c.hu) oz_eq (je_fn c (fn_words_of g) (ja_cons (je_tup (ja_nil)) (ja_cons (je_int) (ja_nil))) (by decide)) (je_tup (ja_cons (je_str) (ja_nil))))))))))))
abbrev nm__law_refused_right : List Str := ["_law_pen_here", "_law_odd", "_law_heard_here", "_law_bad", "_law_wrong", "_law_letter", "_law_due"]
theorem sc__law_refused_right : FnScope ["_law_pen_here", "_law_odd", "_law_heard_here", "_law_bad", "_law_wrong", "_law_letter", "_law_due"] ["_law_pen_here"] (defScope (top 28)) := ⟨rfl, rfl, rfl, by decide +kernel, rfl, by decide +kernel, by decide +kernel⟩
theorem fn__law_refused_right (g : Gd K mg base) : Fn T0 P w K mg base 6 "_law_refused_right" ["_law_pen_here"] d__law_refused_right := by
  obtain ⟨fd, F⟩ := g.c.def_ 20 (d := hd20) rfl
  refine ⟨⟨_, fd, (g.glo 38), F.kp, fng_of F sc__law_refused_right fun cdv hc A outer s H E c => ?_, F.bindsN (fun _ _ _ _ _ _ us hl => match us, hl with | [_], _ => rfl), kw_of F (fun _ _ _ _ _ _ ws hl => match ws, hl with | [_], _ => rfl), lk_of F⟩, arity_d⟩
  exact jb_cons (js_set 1 c.nd (je_fn c (fn__law_pick g) (ja_cons (je_var 0) (ja_cons (je_lst (ja_cons (je_non) (ja_cons (je_int) (ja_cons (je_str) (ja_cons (je_str) (ja_cons (je_str) (ja_cons (je_lst (ja_cons (je_str) (ja_nil))) (ja_cons (je_tup (ja_cons (je_str) (ja_nil))) (ja_cons (je_bl) (ja_cons (je_bin op_mulT oz_mulT (je_str) (je_int)) (ja_nil))))))))))) (ja_nil))) (by decide))) (jb_cons (js_set 2 c.nd (je_lstM (ja_cons (je_lamK irr__law_heard <| je_lam (kb := 3) c (ld__law_heard g) (LamX.lamS_by (sc := defScope (top 28)) (by decide +kernel)) (lamAt_of rfl g.tk g.inB g.bt (List.mem_of_getElem? (i := 0) rfl) rfl hc) (fun A2 o2 s2 H2 E2 f2 v2 c2 => je_fnP c2 (fv_reading g) (ja_cons (je_str) (ja_cons (je_var 1) (ja_cons (je_str) (ja_nil)))) (by decide))) (ja_nil)))) (jb_cons (js_expr (je_append (je_var 2) (je_lamK irr__law_heard <| je_lam (kb := 3) c (ld__law_heard g) (LamX.lamS_by (sc := defScope (top 28)) (by decide +kernel)) (lamAt_of rfl g.tk g.inB g.bt (List.mem_of_getElem? (i := 0) rfl) rfl hc) (fun A2 o2 s2 H2 E2 f2 v2 c2 => je_fnP c2 (fv_reading g) (ja_cons (je_str) (ja_cons (je_str) (ja_cons (je_str) (ja_cons (je_var 1) (ja_nil))))) (by decide))))) (jb_cons (js_expr (je_append (je_var 2) (je_lamK irr__law_heard <| je_lam (kb := 3) c (ld__law_heard g) (LamX.lamS_by (sc := defScope (top 28)) (by decide +kernel)) (lamAt_of rfl g.tk g.inB g.bt (List.mem_of_getElem? (i := 0) rfl) rfl hc) (fun A2 o2 s2 H2 E2 f2 v2 c2 => je_fnP c2 (fv_reading g) (ja_cons (je_str) (ja_cons (je_str) (ja_cons (je_str) (ja_cons (je_str) (ja_nil))))) (by decide))))) (jb_cons (js_expr (je_append (je_var 2) (je_lamK irr__law_heard <| je_lam (kb := 3) c (ld__law_heard g) (LamX.lamS_by (sc := defScope (top 28)) (by decide +kernel)) (lamAt_of rfl g.tk g.inB g.bt (List.mem_of_getElem? (i := 0) rfl) rfl hc) (fun A2 o2 s2 H2 E2 f2 v2 c2 => je_fnP c2 (fv_reading g) (ja_cons (je_str) (ja_cons (je_str) (ja_cons (je_str) (ja_cons (je_str) (ja_nil))))) (by decide))))) (jb_cons (js_set 3 c.nd (je_fn c (fn__law_pick g) (ja_cons (je_var 0) (ja_cons (je_lst (ja_cons (je_non) (ja_cons (je_int) (ja_cons (je_int) (ja_cons (je_bl) (ja_cons (je_str) (ja_cons (je_tup (ja_cons (je_int) (ja_nil))) (ja_nil)))))))) (ja_nil))) (by decide))) (jb_cons (js_set 4 c.nd (je_fn c (fn__law_pick g) (ja_cons (je_var 0) (ja_cons (je_lst (ja_cons (je_non) (ja_cons (je_str) (ja_cons (je_lst (ja_cons (je_str) (ja_nil))) (ja_cons (je_dct0) (ja_cons (je_int) (ja_cons (je_bin op_mulT oz_mulT (je_tup (ja_cons (je_str) (ja_nil))) (je_int)) (ja_nil)))))))) (ja_nil))) (by decide))) (jb_cons (js_set 5 c.nd (je_fn c (fn__law_pick g) (ja_cons (je_var 0) (ja_cons (je_lst (ja_cons (je_non) (ja_cons (je_str) (ja_cons (je_str) (ja_cons (je_str) (ja_cons (je_str) (ja_cons (je_int) (ja_cons (je_tup (ja_cons (je_str) (ja_cons (je_str) (ja_nil)))) (ja_cons (je_str) (ja_nil)))))))))) (ja_nil))) (by decide))) (jb_cons (js_expr (je_append (je_var 2) (je_lamK irr__law_heard <| je_lam (kb := 3) c (ld__law_heard g) (LamX.lamS_by (sc := defScope (top 28)) (by decide +kernel)) (lamAt_of rfl g.tk g.inB g.bt (List.mem_of_getElem? (i := 0) rfl) rfl hc) (fun A2 o2 s2 H2 E2 f2 v2 c2 => je_fn c2 (fn_words_of g) (ja_cons (je_var 4) (ja_cons (je_var 3) (ja_nil))) (by decide))))) (jb_cons (js_expr (je_append (je_var 2) (je_lamK irr__law_heard <| je_lam (kb := 3) c (ld__law_heard g) (LamX.lamS_by (sc := defScope (top 28)) (by decide +kernel)) (lamAt_of rfl g.tk g.inB g.bt (List.mem_of_getElem? (i := 0) rfl) rfl hc) (fun A2 o2 s2 H2 E2 f2 v2 c2 => je_fn c2 (fn_words_of g) (ja_cons (je_var 4) (ja_cons (je_int) (ja_nil))) (by decide))))) (jb_cons (js_expr (je_append (je_var 2) (je_lamK irr__law_heard <| je_lam (kb := 3) c (ld__law_heard g) (LamX.lamS_by (sc := defScope (top 28)) (by decide +kernel)) (lamAt_of rfl g.tk g.inB g.bt (List.mem_of_getElem? (i := 0) rfl) rfl hc) (fun A2 o2 s2 H2 E2 f2 v2 c2 => je_fn c2 (fn_words_of g) (ja_cons (je_tup (ja_cons (je_str) (ja_cons (je_str) (ja_cons (je_var 5) (ja_cons (je_non) (ja_nil)))))) (ja_cons (je_int) (ja_nil))) (by decide))))) (jb_cons (js_set 6 c.nd (je_lst (ja_cons (je_tup (ja_cons (je_str) (ja_cons (je_callB (cr_reprX c.gd c.hu) cz_reprX (g.free 31) (ja_cons (je_var 1) (ja_nil))) (ja_nil)))) (ja_cons (je_tup (ja_cons (je_str) (ja_cons (je_callB (cr_reprX c.gd c.hu) cz_reprX (g.free 31) (ja_cons (je_var 1) (ja_nil))) (ja_nil)))) (ja_cons (je_tup (ja_cons (je_str) (ja_cons (je_str) (ja_nil)))) (ja_cons (je_tup (ja_cons (je_str) (ja_cons (je_str) (ja_cons (je_str) (ja_nil))))) (ja_nil))))))) (jb_one (js_ret (je_cmp (op_eqZ c.hu) oz_eq (je_var 2) (je_bin op_addZ oz_add (je_var 6) (je_lst (ja_cons (je_tup (ja_cons (je_str) (ja_cons (je_callB (cr_reprX c.gd c.hu) cz_reprX (g.free 31) (ja_cons (je_var 3) (ja_nil))) (ja_nil)))) (ja_cons (je_tup (ja_cons (je_str) (ja_cons (je_str) (ja_nil)))) (ja_cons (je_tup (ja_cons (je_str) (ja_cons (je_callB (cr_reprX c.gd c.hu) cz_reprX (g.free 31) (ja_cons (je_var 5) (ja_nil))) (ja_nil)))) (ja_nil))))))))))))))))))))
abbrev nm_law : List Str := ["_law_script", "_law_pen_here", "_law_lap", "_law_some"]
theorem sc_law : FnScope ["_law_script", "_law_pen_here", "_law_lap", "_law_some"] ["_law_script"] (defScope (top 29)) := ⟨rfl, rfl, rfl, by decide +kernel, rfl, by decide +kernel, by decide +kernel⟩
theorem law_g0 (g : Gd K mg base) {fd : FuncData} (F : FunD K hd21.name hd21.qual hd21.params hd21.body hd21.scope (hd21.dvs K) (hd21.kws K) (hd21.at_ K) fd) : FnG T0 P w K mg base 7 (hd21.at_ K) fd ["_law_script"] d_law :=
  fng_of F sc_law fun cdv hc A outer s H E c => jb_cons (js_set 1 c.nd (je_fn c (fn__law_pen g) (ja_cons (je_var 0) (ja_nil)) (by decide))) (jb_keep [1] (jb_cons (js_for c.own c.calm (ji_rng1 (g.free 23) (ja_cons (je_int) (ja_nil))) (jg_n 2 c.nd) (jb_sh (jb_cons (js_if ((jw_or (jt_not (jt_tru (je_fn c (fn__law_right g) (ja_cons (je_var 1) (ja_nil)) (by decide)))) (jw_or1 (jt_not (jt_tru (je_fn c (fn__law_refused_right g) (ja_cons (je_var 1) (ja_nil)) (by decide)))))).pt) (jb_one (js_ret (je_bl))) (jb_nil)) (jb_keep [1] jb_nil)))) (jb_keep [] (jb_cons (js_set 3 c.nd (je_lst (ja_cons (je_fnP c (fv_reading g) (ja_cons (je_str) (ja_cons (je_str) (ja_nil))) (by decide)) (ja_cons (je_fnP c (fv_reading g) (ja_cons (je_str) (ja_cons (je_str) (ja_nil))) (by decide)) (ja_cons (je_fnP c (fv_reading g) (ja_cons (je_str) (ja_cons (je_str) (ja_nil))) (by decide)) (ja_nil)))))) (jb_cons (js_if ((jw_or (jt_cmp (op_geX c.hu) oz_geX (je_sub c.hu1 (je_var 3) (je_int)) (je_sub c.hu1 (je_var 3) (je_int))) (jw_or1 (jt_cmp (op_neZ c.hu) oz_ne (je_var 3) (je_lst (ja_cons (je_tup (ja_cons (je_str) (ja_cons (je_str) (ja_nil)))) (ja_cons (je_tup (ja_cons (je_str) (ja_cons (je_str) (ja_nil)))) (ja_cons (je_tup (ja_cons (je_str) (ja_nil))) (ja_nil)))))))).pt) (jb_one (js_ret (je_bl))) (jb_nil)) (jb_keep [] (jb_one (js_ret (je_cmp (op_eqZ c.hu) oz_eq (je_callB cr_len cz_len (g.free 14) (ja_cons (je_sub c.hu1 (je_fn c (fn_words_of g) (ja_cons (je_bin op_mulT oz_mulT (je_tup (ja_cons (je_str) (ja_nil))) (je_int)) (ja_cons (je_int) (ja_nil))) (by decide)) (je_int)) (ja_nil))) (je_int))))))))))
end
theorem law_fn {w : World} {K : PySem.W.Frag} {h : Heap} {mg : Str → Option Value} {fa : Addr} (KX : K.In h) (G : h.Ns mainGlobals mg) (hm : mg ("law" : Str) = some (.ref fa)) (c : SaysZ fal exl fnl K) (t : TabsGood tbl K h) :
    ∃ (K : PySem.W.Frag) (fd : FuncData), K.In h ∧ (∀ p ∈ T0.tabs K, h.get? p.1 = some tabO ∧ K.lookup p.1 = none ∧ ∃ c, PySem.W.CodeHd h c p.1) ∧ (∀ (s : Shared) (u : Value), BindsTo s fd ⟨[u], []⟩ [("_law_script", u)]) ∧ ∀ base : Heap, K.In base → base.Ns mainGlobals mg → BaseT (T0.tabs K) mg base → FnG T0 (PySem.Challenge.rw_sumdigits_k04_whole_readings_of_words).prog w K mg base 7 fa fd ["_law_script"] d_law := by
  obtain ⟨fd, F⟩ := c.def_ 21 (d := hd21) rfl
  have e := hm.symm.trans (He.glo_ok KX G (c.fact 39 (f := .glo "law") rfl))
  cases e
  refine ⟨K, fd, KX, t.law KX, fun s u => FunD.bindsA (ps := ["_law_script"]) F (fun _ _ _ _ _ _ us hl => match us, hl with | [_], _ => rfl) s [u] rfl, fun base inB nsB bt => ?_⟩
  exact law_g0 ⟨c, t.k, ⟨h, KX, G⟩, inB, bt⟩ F
end Z
end
end
section
set_option Elab.async false
set_option linter.all false
set_option maxRecDepth 100000
set_option maxHeartbeats 0
noncomputable section
namespace Z
open PySem PySem.Spec PyProof.Rows L2
abbrev R : PySem.W.OpenRow := PySem.W.OpenLaw.row PySem.Challenge.rw_sumdigits_k04_whole_readings_of_words
abbrev hk : PySem.W.Hook := hookT 6 fal exl fnl tbl
def ob (s : PySem.W.SharedT) : He.AlD := obsT 6 fal exl fnl tbl (HandSHeadRun.getT s)
theorem ob_eq (s : PySem.W.SharedT) : ob s = hk.obs s.abs := obsT_eq (HandSHeadRun.getT_eq s)
theorem run (w : World) : HandSHeadRun.RunEq R (PySem.W.view R.prog [29]) hk ob 3000 names w := by
  intro os
  kernel_rfl
end Z
end
end
set_option Elab.async false
set_option maxRecDepth 100000
set_option maxHeartbeats 0
open PySem PySem.W PyProof.Rows
theorem PySem.Challenge.cw_sumdigits_k04_whole_readings_of_words_holds : PySem.Challenge.rw_sumdigits_k04_whole_readings_of_words.Holds := by
  w_on; o_law
  refine HandSHeadRun.head_any (r := PySem.W.OpenLaw.row PySem.Challenge.rw_sumdigits_k04_whole_readings_of_words) (q := PySem.W.view (PySem.W.OpenLaw.row PySem.Challenge.rw_sumdigits_k04_whole_readings_of_words).prog [29]) (H := Z.hk) (ob := Z.ob) (M := 3000) (loose := Z.names) (d := HandSHeadRun.topDef (PySem.W.OpenLaw.row PySem.Challenge.rw_sumdigits_k04_whole_readings_of_words).prog 29) (kwd := []) Z.ob_eq
    (by kernel_rfl) (fun s => by kernel_rfl) Z.run (by kernel_rfl) (by kernel_rfl) (by kernel_rfl) (by rfl) (by first | assumption | decide +kernel) (by decide +kernel) ⟨rfl, rfl, rfl, rfl, rfl, by decide +kernel⟩ ?hw ?hc
  case hw => w_witness2
  case hc =>
    refine Z.walk_g (l := PySem.Challenge.rw_sumdigits_k04_whole_readings_of_words) (n := 63) (k := 7) (x := "_law_script") (T := Z.T0) (d := Z.d_law) rfl (by decide) (by kernel_rfl) ⟨rfl, by decide, by decide⟩ Z.law_good ?F
    intro w mg fa h Y G hmg0
    obtain ⟨K, KX, c, t⟩ := Y
    have hmg : mg ("law" : PySem.Str) = some (.ref fa) := by
      have e : (HandSHeadRun.topDef (PySem.W.OpenLaw.row PySem.Challenge.rw_sumdigits_k04_whole_readings_of_words).prog 29).name = ("law" : PySem.Str) := by kernel_rfl
      rw [← e]
      exact hmg0
    exact Z.law_fn KX G hmg c t

