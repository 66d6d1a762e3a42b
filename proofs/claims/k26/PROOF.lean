import PyProof.Rows.All
import Wide.All
import OpenK.AllK
import Wide.FinOn
import PyProof.EqAt
import PyProof.EqKinds
import PyProof.TupleCall
import HandS.ForMost
import HandS.ForExc
import HandS.HeadHook1
import HandS.Defaults
import HandS.CallSlots
import HandS.IsInst
import HandS.Wide
import HandS.TupAny
import HandS.Style
import HandS.Zip
import HandS.Flow
import HandS.Evl
import HandS.Exc
import HandS.Lambda
import HandS.RaiseMore
import HandS.TupLen
import HandS.ExcIs
import KE.KExcIs
import HandS.Walk
import KE.GoesNew
import KE.GoesMore
import KE.GoesEnum
import HandS.Small
import HandS.Comp
import HandS.WordsExc
import HandS.Ends
import HandS.HeadEnd
import HandS.StrMore
import HandS.MakeKw
import HandS.ExcInit
import HandS.ExcField
import HandS.HeadNt
import HandS.Star
import HandS.ClsMeth
import HandS.Records
import HandS.DictComp
import HandS.Conv
import HandS.Iter
import KE.KDictSum
import HandS.EndTab
import KE.KNestM
import HandS.Text
import HandS.Replace
import HandS.IterVal
import HandS.OwnIter
import KE.KOwnIter
import PyProof.CollectIter
import HandS.TupMul
import PyProof.MeetsIn
import PyProof.Conv_bool
import PyProof.InstNe
import PyProof.FactsAll.object_2
import PyProof.PureInt
import PyProof.Rows.StrMeet
import HandS.More
import PyProof.DictMoreH
import HandS.DictTup
import KE.KDictWalk
import KE.KDictCopyH
import HandS.New0
import HandS.GenYield
import HandS.GenCall
import HandS.GenList
import KE.DataCmp
import KE.KEqNest
import HandS.OwnEq
import HandS.NoneIn
import PyProof.ReprLen
import OpenK.ZGo
import HandS.FStr
import KE.KxField
import PyProof.Rows.StrIntSpec
import KE.KParD
import PyProof.SliceStr2
import PyProof.Rows.SetFrom
import PyProof.SetRoads
import HandS.Set
import KE.KStateDown
import Lean
import HandS.Words
import HandS.Head0
import HandS.Head1
import HandS.Head2
import HandS.HeadHook2
import PySem.Challenge.RW_sumdigits_k26_rows_that_depend
section
set_option Elab.async false
set_option linter.all false
set_option maxRecDepth 100000
set_option maxHeartbeats 1000000
/-! Z1: values without addresses, a store of what may change, and what they stand for in the layer's heap. -/
namespace Z
open PySem PySem.Spec PyProof.Rows L2
/-- a thing that may be locked while it is walked -/
def isD : HO → Bool
  | .dK _ => true
  | .dT _ => true
  | _ => false
/-- what is known stays known; a dict may be locked -/
def Ex (F H : Hp) : Prop := ∀ a o, F a = some o → H a = some o ∨ (isD o = true ∧ ∃ ob, H a = some (.frz ob o))
theorem Ex.refl (F : Hp) : Ex F F := fun _ _ h => .inl h
theorem Ex.trans {F G H : Hp} (p : Ex F G) (q : Ex G H) : Ex F H := fun a o h => by
  rcases p a o h with h | ⟨hd, ob, h⟩
  · exact q a o h
  · rcases q a _ h with h | ⟨hd', _⟩
    · exact .inr ⟨hd, ob, h⟩
    · cases hd'
theorem Ex.new {H : Hp} {p : Addr} {o : HO} (h : H p = none) : Ex H (L2.upd H p o) := fun a u e => .inl (by rw [upd_ne (ne_of_none e h)]; exact e)
theorem Ex.at_ {F H : Hp} (e : Ex F H) {a : Addr} {o : HO} (h : F a = some o) (hn : isD o = false := by rfl) : H a = some o := by
  rcases e a o h with h | ⟨hd, _⟩
  · exact h
  · rw [hn] at hd; cases hd
theorem Ex.rd {F H : Hp} (e : Ex F H) {a : Addr} {o : HO} (h : Rd F a o) : Rd H a o := by
  rcases h with h | ⟨ob, h⟩
  · rcases e a o h with h | ⟨_, ob, h⟩
    · exact .inl h
    · exact .inr ⟨ob, h⟩
  · exact .inr ⟨ob, e.at_ h⟩
theorem Ex.some {F H : Hp} (e : Ex F H) {a : Addr} (h : H a = none) : F a = none := by
  cases q : F a with
  | none => rfl
  | some o =>
    rcases e a o q with z | ⟨_, ob, z⟩
    · rw [h] at z; cases z
    · rw [h] at z; cases z
theorem ex_l {K : PySem.W.Frag} {F H : Hp} {a : Addr} {xs : List V} (e : Ex F H) (h : SqL K F a xs) : SqL K H a xs := by
  rcases h with (h | ⟨o, h⟩) | h
  · exact .inl (.inl (e.at_ h))
  · exact .inl (.inr ⟨o, e.at_ h⟩)
  · exact .inr h
/-- an exception that is held as a value -/
def EXV (C : Addr) (d : Option Addr) (a : Addr) : HO := .ext fun h => ∃ (oe : Obj) (vs : Array Value), h.get? a = some oe ∧ Zc (.ref C) d oe ∧ oe.data = .fields vs

/-- a dict's key: an int or a text; a tuple of such -/
inductive PK where
  | k (x : Key) | t (xs : List Key)
  deriving DecidableEq
/-- what a compound value is -/
inductive Kd where
  | tup | lst | scr
  | dct (t : Bool) (ks : List PK)
  | ins (c : Nat) (fs : List Nat)
  | exn (c : Nat) (fs : List Nat)
  /-- a lambda at a, its code at c, what its def's names stood for -/
  | clo (a c : Addr) (q : Str) (us : List V)
  deriving DecidableEq
/-- a value: nd a compound that never changes any more, ref a place of the store -/
inductive PV where
  | non | bl (b : Bool) | int (i : Int) | str (x : Str) | ty (n : String) | cls (c : Nat)
  | ref (n : Nat)
  | nd (k : Kd) (xs : List PV)

mutual
def pvEq : PV → PV → Bool
  | .non, .non => true
  | .bl b, .bl c => b == c
  | .int i, .int j => decide (i = j)
  | .str x, .str y => decide (x = y)
  | .ty n, .ty m => decide (n = m)
  | .cls c, .cls d => Nat.beq c d
  | .ref n, .ref m => Nat.beq n m
  | .nd k xs, .nd l ys => decide (k = l) && pvEqL xs ys
  | _, _ => false
def pvEqL : List PV → List PV → Bool
  | [], [] => true
  | x :: xs, y :: ys => pvEq x y && pvEqL xs ys
  | _, _ => false
end
mutual
theorem pvEq_eq : ∀ x y : PV, pvEq x y = true ↔ x = y
  | .non, y => by cases y <;> simp [pvEq]
  | .bl b, y => by cases y <;> simp [pvEq]
  | .int b, y => by cases y <;> simp [pvEq]
  | .str b, y => by cases y <;> simp [pvEq]
  | .ty b, y => by cases y <;> simp [pvEq]
  | .cls b, y => by cases y <;> simp [pvEq]
  | .ref b, y => by cases y <;> simp [pvEq]
  | .nd k xs, y => by
    cases y with
    | nd l ys => simp [pvEq, pvEqL_eq xs ys]
    | _ => simp [pvEq]
theorem pvEqL_eq : ∀ xs ys : List PV, pvEqL xs ys = true ↔ xs = ys
  | [], ys => by cases ys <;> simp [pvEqL]
  | x :: xs, ys => by
    cases ys with
    | nil => simp [pvEqL]
    | cons y ys => simp [pvEqL, pvEq_eq x y, pvEqL_eq xs ys]
end
instance : DecidableEq PV := fun x y => if h : pvEq x y = true then .isTrue ((pvEq_eq x y).mp h) else .isFalse fun e => h ((pvEq_eq x y).mpr e)
/-- names of classes and fields by numbers -/
structure Tb where
  cn : Nat → Str
  fd : Nat → Str
  nf : Nat
  okf : Nat → Nat → Bool
  /-- the errors' fields -/
  okx : Nat → Nat → Bool := fun _ _ => false
  /-- the tables of code of the defs in which lambdas stand -/
  tabs : PySem.W.Frag → List (Addr × Str) := fun _ => []
abbrev Tb.ca (T : Tb) (K : PySem.W.Frag) (c : Nat) : Addr := He.ga K (T.cn c)

/-- what stands at an address for a compound of the kind k over the values us -/
def Shp (T : Tb) (K : PySem.W.Frag) (H : Hp) (a : Addr) : Kd → List V → Prop
  | .tup, us => H a = some (.tup us)
  | .lst, us => H a = some (.lst us)
  | .scr, us => SqL K H a us
  | .dct false ks, us => us.length = ks.length ∧ ∃ kk : List Key, ks = kk.map PK.k ∧ Rd H a (.dK (kk.zip us))
  | .dct true ks, us => us.length = ks.length ∧ ∃ kk : List (List Key), ks = kk.map PK.t ∧ Rd H a (.dT (kk.zip us))
  | .ins c fs, us => us.length = fs.length ∧ ∃ dx, H a = some (.ins (T.ca K c) dx ((fs.map T.fd).zip us))
  | .exn c fs, us => us.length = fs.length ∧ ∃ d, H a = some (EXV (T.ca K c) d a) ∧ ((fs = [] ∧ d = none) ∨ ∃ dd, d = some dd ∧ H dd = some (.xd ((fs.map T.fd).zip us)))
  | .clo b c q ws, us => a = b ∧ us = ws ∧ H c = some (LamX.CodeO c q)
/-- the same of a thing that may change: it is tracked itself -/
def Liv (T : Tb) (K : PySem.W.Frag) (H : Hp) (a : Addr) : Kd → List V → Prop
  | .tup, _ => False
  | .scr, _ => False
  | .lst, us => H a = some (.lst us)
  | .dct false ks, us => us.length = ks.length ∧ ∃ kk : List Key, ks = kk.map PK.k ∧ H a = some (.dK (kk.zip us))
  | .dct true ks, us => us.length = ks.length ∧ ∃ kk : List (List Key), ks = kk.map PK.t ∧ H a = some (.dT (kk.zip us))
  | .ins c fs, us => us.length = fs.length ∧ ∃ dx, H a = some (.ins (T.ca K c) dx ((fs.map T.fd).zip us))
  | .exn _ _, _ => False
  | .clo _ _ _ _, _ => False
theorem Liv.shp {T : Tb} {K : PySem.W.Frag} {H : Hp} {a : Addr} {k : Kd} {us : List V} (h : Liv T K H a k us) : Shp T K H a k us := by
  cases k with
  | tup => exact h.elim
  | scr => exact h.elim
  | lst => exact h
  | dct t ks => cases t <;> exact ⟨h.1, h.2.imp fun _ z => ⟨z.1, .inl z.2⟩⟩
  | ins c fs => exact h
  | exn c fs => exact h.elim
  | clo a0 c0 q0 us0 => exact h.elim
theorem Shp.mono {T : Tb} {K : PySem.W.Frag} {H H' : Hp} {a : Addr} {k : Kd} {us : List V} (e : Ex H H') (h : Shp T K H a k us) : Shp T K H' a k us := by
  cases k with
  | tup => exact e.at_ h
  | scr => exact ex_l e h
  | lst => exact e.at_ h
  | dct t ks =>
    cases t <;> (obtain ⟨hl, kk, h1, h2⟩ := h; exact ⟨hl, kk, h1, e.rd h2⟩)
  | ins c fs =>
    obtain ⟨hl, dx, h⟩ := h
    exact ⟨hl, dx, e.at_ h⟩
  | clo b c q ws =>
    obtain ⟨h1, h2, h3⟩ := h
    exact ⟨h1, h2, e.at_ h3⟩
  | exn c fs =>
    obtain ⟨hl, d, h1, h2⟩ := h
    refine ⟨hl, d, e.at_ h1, ?_⟩
    rcases h2 with h2 | ⟨dd, h2, h3⟩
    · exact .inl h2
    · exact .inr ⟨dd, h2, e.at_ h3⟩

/-- the addresses of the store's places; things held aside while a comprehension runs -/
structure Pl where
  as : List Addr
  hid : List (Addr × HO)
def Pl.le (R R' : Pl) : Prop := R.as <+: R'.as ∧ R'.hid = R.hid
theorem Pl.refl (R : Pl) : Pl.le R R := ⟨List.prefix_refl _, rfl⟩
theorem Pl.le.trans {R R' R2 : Pl} (p : Pl.le R R') (q : Pl.le R' R2) : Pl.le R R2 := ⟨p.1.trans q.1, q.2.trans p.2⟩
def Pl.add (R : Pl) (a : Addr) : Pl := ⟨R.as ++ [a], R.hid⟩
theorem Pl.app (R : Pl) (a : Addr) : Pl.le R (R.add a) := ⟨List.prefix_append _ _, rfl⟩
mutual
/-- the value x stands for u: R the store's places, F the part of the heap that never changes any more -/
def Rel (T : Tb) (K : PySem.W.Frag) (R : Pl) (F : Hp) : PV → V → Prop
  | .non, u => u = .non
  | .bl b, u => u = .bl b
  | .int i, u => u = .int i
  | .str x, u => u = .str x
  | .ty n, u => u = .ty n
  | .cls c, u => u = .ref (T.ca K c)
  | .ref n, u => ∃ a, u = .ref a ∧ R.as[n]? = some a
  | .nd k xs, u => ∃ a us, u = .ref a ∧ Shp T K F a k us ∧ RelL T K R F xs us
def RelL (T : Tb) (K : PySem.W.Frag) (R : Pl) (F : Hp) : List PV → List V → Prop
  | [], us => us = []
  | x :: xs, us => ∃ u r, us = u :: r ∧ Rel T K R F x u ∧ RelL T K R F xs r
end
section
variable {T : Tb} {K : PySem.W.Frag} {R R' : Pl} {F F' : Hp}
theorem rel_get (p : R.as <+: R'.as) {n : Nat} {a : Addr} (h : R.as[n]? = some a) : R'.as[n]? = some a := by
  obtain ⟨t, e⟩ := p
  have hl : n < R.as.length := (List.getElem?_eq_some_iff.mp h).1
  rw [← e, List.getElem?_append_left hl]; exact h
mutual
theorem Rel.mono0 (p : R.as <+: R'.as) (e : Ex F F') : ∀ (x : PV) (u : V), Rel T K R F x u → Rel T K R' F' x u
  | .non, u, h => by simpa [Rel] using h
  | .bl b, u, h => by simpa [Rel] using h
  | .int i, u, h => by simpa [Rel] using h
  | .str s, u, h => by simpa [Rel] using h
  | .ty n, u, h => by simpa [Rel] using h
  | .cls c, u, h => by simpa [Rel] using h
  | .ref n, u, h => by
    rw [Rel] at h ⊢
    obtain ⟨a, h1, h2⟩ := h
    exact ⟨a, h1, rel_get p h2⟩
  | .nd k xs, u, h => by
    rw [Rel] at h ⊢
    obtain ⟨a, us, h1, h2, h3⟩ := h
    exact ⟨a, us, h1, h2.mono e, RelL.mono0 p e xs us h3⟩
theorem RelL.mono0 (p : R.as <+: R'.as) (e : Ex F F') : ∀ (xs : List PV) (us : List V), RelL T K R F xs us → RelL T K R' F' xs us
  | [], us, h => by simpa [RelL] using h
  | x :: xs, us, h => by
    rw [RelL] at h ⊢
    obtain ⟨u, r, h1, h2, h3⟩ := h
    exact ⟨u, r, h1, Rel.mono0 p e x u h2, RelL.mono0 p e xs r h3⟩
end
theorem Rel.mono (p : Pl.le R R') (e : Ex F F') (x : PV) (u : V) (h : Rel T K R F x u) : Rel T K R' F' x u := Rel.mono0 p.1 e x u h
theorem RelL.mono (p : Pl.le R R') (e : Ex F F') (x : List PV) (u : List V) (h : RelL T K R F x u) : RelL T K R' F' x u := RelL.mono0 p.1 e x u h
theorem RelL.length : ∀ {xs : List PV} {us : List V}, RelL T K R F xs us → us.length = xs.length
  | [], us, h => by rw [RelL] at h; subst h; rfl
  | x :: xs, us, h => by
    rw [RelL] at h
    obtain ⟨u, r, rfl, _, h3⟩ := h
    simp [RelL.length h3]
theorem RelL.nil : RelL T K R F [] [] := by rw [RelL]
theorem RelL.cons {x : PV} {xs : List PV} {u : V} {us : List V} (h : Rel T K R F x u) (t : RelL T K R F xs us) : RelL T K R F (x :: xs) (u :: us) := by
  rw [RelL]; exact ⟨u, us, rfl, h, t⟩
theorem RelL.get : ∀ {xs : List PV} {us : List V} {i : Nat} {x : PV}, RelL T K R F xs us → xs[i]? = some x → ∃ u, us[i]? = some u ∧ Rel T K R F x u
  | [], us, i, x, h, e => by simp at e
  | y :: xs, us, 0, x, h, e => by
    rw [RelL] at h
    obtain ⟨u, r, rfl, h2, h3⟩ := h
    simp at e; subst e
    exact ⟨u, rfl, h2⟩
  | y :: xs, us, i + 1, x, h, e => by
    rw [RelL] at h
    obtain ⟨u, r, rfl, h2, h3⟩ := h
    simp at e
    obtain ⟨v, h4, h5⟩ := RelL.get (i := i) h3 e
    exact ⟨v, by simpa using h4, h5⟩
theorem RelL.append : ∀ {xs : List PV} {us : List V} {ys : List PV} {ws : List V}, RelL T K R F xs us → RelL T K R F ys ws → RelL T K R F (xs ++ ys) (us ++ ws)
  | [], us, ys, ws, h, t => by rw [RelL] at h; subst h; exact t
  | x :: xs, us, ys, ws, h, t => by
    rw [RelL] at h
    obtain ⟨u, r, rfl, h2, h3⟩ := h
    exact .cons h2 (RelL.append h3 t)
theorem RelL.set {y : PV} {w : V} (hy : Rel T K R F y w) : ∀ {xs : List PV} {us : List V} (i : Nat), RelL T K R F xs us → RelL T K R F (xs.set i y) (us.set i w)
  | [], us, i, h => by rw [RelL] at h; subst h; simp [RelL]
  | x :: xs, us, 0, h => by
    rw [RelL] at h
    obtain ⟨u, r, rfl, h2, h3⟩ := h
    exact .cons hy h3
  | x :: xs, us, i + 1, h => by
    rw [RelL] at h
    obtain ⟨u, r, rfl, h2, h3⟩ := h
    exact .cons h2 (RelL.set hy i h3)
theorem RelL.take : ∀ {xs : List PV} {us : List V} (n : Nat), RelL T K R F xs us → RelL T K R F (xs.take n) (us.take n)
  | _, us, 0, h => by simp [RelL]
  | [], us, n + 1, h => by rw [RelL] at h; subst h; simp [RelL]
  | x :: xs, us, n + 1, h => by
    rw [RelL] at h
    obtain ⟨u, r, rfl, h2, h3⟩ := h
    exact .cons h2 (RelL.take n h3)
theorem RelL.drop : ∀ {xs : List PV} {us : List V} (n : Nat), RelL T K R F xs us → RelL T K R F (xs.drop n) (us.drop n)
  | _, us, 0, h => h
  | [], us, n + 1, h => by rw [RelL] at h; subst h; simp [RelL]
  | x :: xs, us, n + 1, h => by
    rw [RelL] at h
    obtain ⟨u, r, rfl, h2, h3⟩ := h
    exact RelL.drop n h3
theorem RelL.reverse : ∀ {xs : List PV} {us : List V}, RelL T K R F xs us → RelL T K R F xs.reverse us.reverse
  | [], us, h => by rw [RelL] at h; subst h; exact .nil
  | x :: xs, us, h => by
    rw [RelL] at h
    obtain ⟨u, r, rfl, h2, h3⟩ := h
    rw [List.reverse_cons, List.reverse_cons]
    exact .append (RelL.reverse h3) (.cons h2 .nil)
end

/-- what may be held aside -/
def hidO : HO → Bool
  | .lst _ => true
  | .dK _ => true
  | .dT _ => true
  | .ins _ _ _ => true
  | _ => false
theorem hidO.nt {o : HO} (h : hidO o = true) : ∀ us, o ≠ .tup us := fun us z => by rw [z] at h; cases h
/-- neither a table of code nor a thing told by a sentence -/
def plainO : HO → Bool
  | .tbl _ => false
  | .ext _ => false
  | _ => true
theorem hidO.plain {o : HO} (h : hidO o = true) : plainO o = true := by cases o <;> first | rfl | cases h
theorem tabs_new {L : List (Addr × Str)} {H : Hp} {p : Addr} {o : HO} (t : LamX.Tabs L H) (h : H p = none) : LamX.Tabs L (L2.upd H p o) := t.ext fun b u e => by rw [upd_ne (ne_of_none e h)]; exact e
theorem tabs_put {L : List (Addr × Str)} {H : Hp} {a : Addr} {o u : HO} (t : LamX.Tabs L H) (ha : H a = some u) (hu : plainO u = true) : LamX.Tabs L (L2.upd H a o) := fun p hp => by
  obtain ⟨ps, h1, h2, h3⟩ := t p hp
  have ne : p.1 ≠ a := fun z => by rw [z, ha] at h1; cases h1; cases hu
  refine ⟨ps, by rw [upd_ne ne]; exact h1, h2, fun pos cv hc => ?_⟩
  obtain ⟨c, e1, e2⟩ := h3 pos cv hc
  have nc : c ≠ a := fun z => by
    rw [z, ha] at e2
    unfold LamX.CodeO at e2
    cases e2; cases hu
  exact ⟨c, e1, by rw [upd_ne nc]; exact e2⟩
/-- what may change, by place: nothing any more, or a compound -/
abbrev Sto := List (Option (Kd × List PV))
/-- the store S as it stands in the heap -/
structure Rep (T : Tb) (K : PySem.W.Frag) (R : Pl) (F : Hp) (S : Sto) (H : Hp) : Prop where
  ex : Ex F H
  len : R.as.length = S.length
  nd : R.as.Nodup
  there : ∀ a ∈ R.as, H a ≠ none ∧ ∀ ps, H a ≠ some (.tbl ps)
  hid : ∀ p ∈ R.hid, H p.1 = some p.2 ∧ p.1 ∉ R.as ∧ F p.1 = none
  hidt : ∀ p ∈ R.hid, hidO p.2 = true
  ntb : ∀ a ps, F a ≠ some (.tbl ps)
  tabs : LamX.Tabs (T.tabs K) H
  hidnd : (R.hid.map Prod.fst).Nodup
  live : ∀ (n : Nat) (a : Addr) (k : Kd) (xs : List PV), R.as[n]? = some a → S[n]? = some (some (k, xs)) → F a = none ∧ ∃ us, Liv T K H a k us ∧ RelL T K R F xs us
/-- the names' values -/
abbrev Loc := List (Option PV)
structure RelE (T : Tb) (K : PySem.W.Frag) (R : Pl) (F : Hp) (l : Loc) (σ : L2.St) : Prop where
  len : l.length = σ.length
  at_ : ∀ (i : Nat) (v : PV), l[i]? = some (some v) → ∃ u, σ[i]? = some (some u) ∧ Rel T K R F v u
theorem RelE.mono {T : Tb} {K : PySem.W.Frag} {R R' : Pl} {F F' : Hp} {l : Loc} {σ : L2.St} (p : Pl.le R R') (e : Ex F F') (h : RelE T K R F l σ) : RelE T K R' F' l σ :=
  ⟨h.len, fun i v q => let ⟨u, h1, h2⟩ := h.at_ i v q; ⟨u, h1, h2.mono p e⟩⟩
theorem RelE.set {T : Tb} {K : PySem.W.Frag} {R : Pl} {F : Hp} {l : Loc} {σ : L2.St} {v : PV} {u : V} (h : RelE T K R F l σ) (i : Nat) (r : Rel T K R F v u) : RelE T K R F (l.set i (some v)) (σ.set i (some u)) := by
  refine ⟨by rw [List.length_set, List.length_set]; exact h.len, fun j w q => ?_⟩
  by_cases e : i = j
  · subst e
    by_cases hl : i < l.length
    · rw [List.getElem?_set_self hl] at q
      cases q
      exact ⟨u, by rw [List.getElem?_set_self (by rw [← h.len]; exact hl)], r⟩
    · rw [List.getElem?_eq_none (by simpa using hl)] at q; cases q
  · rw [List.getElem?_set_ne e] at q
    obtain ⟨x, h1, h2⟩ := h.at_ j w q
    exact ⟨x, by rw [List.getElem?_set_ne e]; exact h1, h2⟩

/-- an error in flight: its class, its fields -/
structure XV where
  c : Nat
  fs : List Nat
  xs : List PV
def RelX (T : Tb) (K : PySem.W.Frag) (R : Pl) (F : Hp) (H : Hp) (e : XV) (cls : Value) (d : Option Addr) : Prop :=
  cls = .ref (T.ca K e.c) ∧ ((e.fs = [] ∧ d = none) ∨ (∃ dd us, d = some dd ∧ F dd = none ∧ H dd = some (.xd ((e.fs.map T.fd).zip us)) ∧ us.length = e.fs.length ∧ RelL T K R F e.xs us))
/-- what an expression comes to -/
inductive Out (α : Type) where
  | ok (a : α) (S : Sto)
  | err (e : XV) (S : Sto)
  | bad
def Out.bind {α β : Type} (o : Out α) (k : α → Sto → Out β) : Out β := match o with
  | .ok a S => k a S
  | .err e S => .err e S
  | .bad => .bad
/-- what a statement comes to -/
inductive OutS where
  | nx (l : Loc) (S : Sto)
  | ret (v : PV) (S : Sto)
  | brk (l : Loc) (S : Sto)
  | cnt (l : Loc) (S : Sto)
  | err (e : XV) (l : Loc) (S : Sto)
  | bad
def OutS.seq (o : OutS) (k : Loc → Sto → OutS) : OutS := match o with
  | .nx l S => k l S
  | o => o
/-- an expression's value | error: in statements -/
def Out.st {α : Type} (o : Out α) (l : Loc) (k : α → Sto → OutS) : OutS := match o with
  | .ok a S => k a S
  | .err e S => .err e l S
  | .bad => .bad
abbrev DE := Loc → Sto → Out PV
abbrev DB := Loc → Sto → Out Bool
abbrev DA := Loc → Sto → Out (List PV)
abbrev DS := Loc → Sto → OutS
/-- what is wished of an error, by the names' values -/
abbrev XS := L2.St → XK
/-- a def: its arguments, the store -/
abbrev DF := List PV → Sto → Out PV

section
variable (T : Tb) (K : PySem.W.Frag) (R : Pl) (F : Hp)
def PostV (v : PV) (S : Sto) (Q : VK) : Prop := ∀ R' F' H u, Pl.le R R' → Ex F F' → Rep T K R' F' S H → Rel T K R' F' v u → Q u H
def PostL (vs : List PV) (S : Sto) (Q : List V → Hp → Prop) : Prop := ∀ R' F' H us, Pl.le R R' → Ex F F' → Rep T K R' F' S H → RelL T K R' F' vs us → Q us H
def PostB (b : Bool) (S : Sto) (Q : Bool → Hp → Prop) : Prop := ∀ R' F' H, Pl.le R R' → Ex F F' → Rep T K R' F' S H → Q b H
def PostX (e : XV) (S : Sto) (E : XK) : Prop := ∀ R' F' H cls d, Pl.le R R' → Ex F F' → Rep T K R' F' S H → RelX T K R' F' H e cls d → E cls d H
def PostE (l : Loc) (S : Sto) (Q : L2.St → Hp → Prop) : Prop := ∀ R' F' H σ, Pl.le R R' → Ex F F' → Rep T K R' F' S H → RelE T K R' F' l σ → Q σ H
def OkV (o : Out PV) (Q : VK) (E : XK) : Prop := match o with
  | .ok v S => PostV T K R F v S Q
  | .err e S => PostX T K R F e S E
  | .bad => False
def OkB (o : Out Bool) (Q : Bool → Hp → Prop) (E : XK) : Prop := match o with
  | .ok v S => PostB T K R F v S Q
  | .err e S => PostX T K R F e S E
  | .bad => False
def OkL (o : Out (List PV)) (Q : List V → Hp → Prop) (E : XK) : Prop := match o with
  | .ok v S => PostL T K R F v S Q
  | .err e S => PostX T K R F e S E
  | .bad => False
/-- an error in a statement: the names stand as they stood -/
def PostXS (l : Loc) (e : XV) (S : Sto) (E : XS) : Prop := ∀ R' F' H σ cls d, Pl.le R R' → Ex F F' → Rep T K R' F' S H → RelE T K R' F' l σ → RelX T K R' F' H e cls d → E σ cls d H
def OkS (o : OutS) (D : Ends) (E : XS) : Prop := match o with
  | .nx l S => PostE T K R F l S D.nx
  | .ret v S => PostV T K R F v S D.rt
  | .brk l S => PostE T K R F l S D.bk
  | .cnt l S => PostE T K R F l S D.ct
  | .err e l S => PostXS T K R F l e S E
  | .bad => False
end
/-- the state, as the layer's readings take it -/
def tV (T : Tb) (K : PySem.W.Frag) (E : XS) (d : DE) : TE := fun σ H Q => ∃ R F l S, Rep T K R F S H ∧ RelE T K R F l σ ∧ OkV T K R F (d l S) Q (E σ)
def tT (T : Tb) (K : PySem.W.Frag) (E : XS) (d : DB) : TT := fun σ H Q => ∃ R F l S, Rep T K R F S H ∧ RelE T K R F l σ ∧ OkB T K R F (d l S) Q (E σ)
def tL (T : Tb) (K : PySem.W.Frag) (E : XS) (d : DA) : TA := fun σ H Q => ∃ R F l S, Rep T K R F S H ∧ RelE T K R F l σ ∧ OkL T K R F (d l S) Q (E σ)
def tS (T : Tb) (K : PySem.W.Frag) (E : XS) (d : DS) : TS := fun D σ H => ∃ R F l S, Rep T K R F S H ∧ RelE T K R F l σ ∧ OkS T K R F (d l S) D E
def spOf (T : Tb) (K : PySem.W.Frag) (n : Nat) (d : DF) : Sp := fun vs H Q E => vs.length = n ∧ ∃ R F S xs, Rep T K R F S H ∧ RelL T K R F xs vs ∧ OkV T K R F (d xs S) Q E

section
variable {T : Tb} {K : PySem.W.Frag} {R R1 : Pl} {F F1 : Hp} {S : Sto}
theorem PostX.mono {e : XV} {E : XK} (p : Pl.le R R1) (x : Ex F F1) (h : PostX T K R F e S E) : PostX T K R1 F1 e S E := fun R' F' H cls d p' x' => h R' F' H cls d (p.trans p') (x.trans x')
theorem PostXS.mono {l : Loc} {e : XV} {E : XS} (p : Pl.le R R1) (x : Ex F F1) (h : PostXS T K R F l e S E) : PostXS T K R1 F1 l e S E := fun R' F' H σ cls d p' x' => h R' F' H σ cls d (p.trans p') (x.trans x')
theorem PostV.mono {v : PV} {Q : VK} (p : Pl.le R R1) (x : Ex F F1) (h : PostV T K R F v S Q) : PostV T K R1 F1 v S Q := fun R' F' H u p' x' => h R' F' H u (p.trans p') (x.trans x')
theorem PostE.mono {l : Loc} {Q : L2.St → Hp → Prop} (p : Pl.le R R1) (x : Ex F F1) (h : PostE T K R F l S Q) : PostE T K R1 F1 l S Q := fun R' F' H u p' x' => h R' F' H u (p.trans p') (x.trans x')
theorem PostL.mono {v : List PV} {Q : List V → Hp → Prop} (p : Pl.le R R1) (x : Ex F F1) (h : PostL T K R F v S Q) : PostL T K R1 F1 v S Q := fun R' F' H u p' x' => h R' F' H u (p.trans p') (x.trans x')
theorem PostB.mono {v : Bool} {Q : Bool → Hp → Prop} (p : Pl.le R R1) (x : Ex F F1) (h : PostB T K R F v S Q) : PostB T K R1 F1 v S Q := fun R' F' H p' x' => h R' F' H (p.trans p') (x.trans x')
theorem OkV.mono {o : Out PV} {Q : VK} {E : XK} (p : Pl.le R R1) (x : Ex F F1) (h : OkV T K R F o Q E) : OkV T K R1 F1 o Q E := by
  cases o with
  | ok v S => exact PostV.mono p x h
  | err e S => exact PostX.mono p x h
  | bad => exact h
theorem OkB.mono {o : Out Bool} {Q : Bool → Hp → Prop} {E : XK} (p : Pl.le R R1) (x : Ex F F1) (h : OkB T K R F o Q E) : OkB T K R1 F1 o Q E := by
  cases o with
  | ok v S => exact PostB.mono p x h
  | err e S => exact PostX.mono p x h
  | bad => exact h
theorem OkL.mono {o : Out (List PV)} {Q : List V → Hp → Prop} {E : XK} (p : Pl.le R R1) (x : Ex F F1) (h : OkL T K R F o Q E) : OkL T K R1 F1 o Q E := by
  cases o with
  | ok v S => exact PostL.mono p x h
  | err e S => exact PostX.mono p x h
  | bad => exact h
theorem OkS.mono {o : OutS} {D : Ends} {E : XS} (p : Pl.le R R1) (x : Ex F F1) (h : OkS T K R F o D E) : OkS T K R1 F1 o D E := by
  cases o with
  | nx l S => exact PostE.mono p x h
  | ret v S => exact PostV.mono p x h
  | brk l S => exact PostE.mono p x h
  | cnt l S => exact PostE.mono p x h
  | err e l S => exact PostXS.mono p x h
  | bad => exact h
end
end Z
end
section
set_option Elab.async false
set_option linter.all false
set_option maxRecDepth 100000
set_option maxHeartbeats 1000000
/-! Z2: new things, changed things; names, constants, displays, operators, comparisons, tests. -/
namespace Z
open PySem PySem.Spec PyProof.Rows L2

section
variable {T : Tb} {K : PySem.W.Frag} {R : Pl} {F H : Hp} {S : Sto}
theorem ex_upd {p : Addr} {o : HO} (h : H p = none) : Ex H (upd H p o) := Ex.new h
theorem Rep.fnone (r : Rep T K R F S H) {p : Addr} (h : H p = none) : F p = none := r.ex.some h
theorem Liv.upd {a p : Addr} {o : HO} {k : Kd} {us : List V} (ne : a ≠ p) (h : Liv T K H a k us) : Liv T K (L2.upd H p o) a k us := by
  cases k with
  | tup => exact h.elim
  | scr => exact h.elim
  | lst => show L2.upd H p o a = _; rw [upd_ne ne]; exact h
  | dct t ks =>
    cases t <;> (obtain ⟨hl, kk, h1, h2⟩ := h; exact ⟨hl, kk, h1, by rw [upd_ne ne]; exact h2⟩)
  | ins c fs =>
    obtain ⟨hl, dx, h⟩ := h
    exact ⟨hl, dx, by rw [upd_ne ne]; exact h⟩
  | exn c fs => exact h.elim
  | clo a0 c0 q0 us0 => exact h.elim
theorem Liv.there {a : Addr} {k : Kd} {us : List V} (h : Liv T K H a k us) : H a ≠ none := by
  cases k with
  | tup => exact h.elim
  | scr => exact h.elim
  | lst => intro z; rw [show H a = _ from h] at z; cases z
  | dct t ks =>
    cases t <;> (obtain ⟨hl, kk, h1, h2⟩ := h; intro z; rw [h2] at z; cases z)
  | ins c fs =>
    obtain ⟨hl, dx, h⟩ := h
    intro z; rw [h] at z; cases z
  | exn c fs => exact h.elim
  | clo a0 c0 q0 us0 => exact h.elim
theorem Liv.plain {a : Addr} {k : Kd} {us : List V} (h : Liv T K H a k us) : ∃ u, H a = some u ∧ plainO u = true := by
  cases k with
  | tup => exact h.elim
  | scr => exact h.elim
  | lst => exact ⟨_, h, rfl⟩
  | dct t ks => cases t <;> (obtain ⟨_, kk, _, h⟩ := h; exact ⟨_, h, rfl⟩)
  | ins c fs => obtain ⟨_, dx, h⟩ := h; exact ⟨_, h, rfl⟩
  | exn c fs => exact h.elim
  | clo a0 c0 q0 us0 => exact h.elim
theorem Liv.plain_ne {a : Addr} {k : Kd} {us : List V} (h : Liv T K H a k us) : H a ≠ none ∧ ∀ ps, H a ≠ some (.tbl ps) := by
  obtain ⟨u, h1, h2⟩ := h.plain
  rw [h1]
  exact ⟨fun z => (nomatch z), fun ps z => by rw [Option.some.inj z] at h2; cases h2⟩
/-- a new thing that never changes any more -/
theorem Rep.frozen (r : Rep T K R F S H) {p : Addr} {o : HO} (hp : H p = none) (ho : ∀ ps, o ≠ .tbl ps := by intro _ h; cases h) : Rep T K R (L2.upd F p o) S (L2.upd H p o) where
  ex := fun a u e => by
    by_cases h : a = p
    · subst h; rw [upd_same] at e ⊢; exact .inl e
    · rw [upd_ne h] at e ⊢; exact r.ex a u e
  len := r.len
  nd := r.nd
  there := fun a ha => by
    have h : a ≠ p := fun z => (r.there a ha).1 (by rw [z]; exact hp)
    rw [upd_ne h]; exact r.there a ha
  hidt := r.hidt
  ntb := fun a ps e => by
    by_cases h : a = p
    · rw [h, upd_same] at e; exact ho ps (Option.some.inj e)
    · rw [upd_ne h] at e; exact r.ntb a ps e
  tabs := tabs_new r.tabs hp
  hidnd := r.hidnd
  hid := fun q hq => by
    obtain ⟨h1, h2, h3⟩ := r.hid q hq
    have ne : q.1 ≠ p := fun z => by rw [z, hp] at h1; cases h1
    exact ⟨by rw [upd_ne ne]; exact h1, h2, by rw [upd_ne ne]; exact h3⟩
  live := fun n a k xs h1 h2 => by
    obtain ⟨h3, us, h4, h5⟩ := r.live n a k xs h1 h2
    have ne : a ≠ p := fun z => h4.there (by rw [z]; exact hp)
    exact ⟨by rw [upd_ne ne]; exact h3, us, h4.upd ne, h5.mono (Pl.refl R) (ex_upd (r.fnone hp))⟩
/-- a new thing that may change -/
theorem Rep.laid (r : Rep T K R F S H) {p : Addr} {o : HO} {k : Kd} {xs : List PV} {us : List V} (hp : H p = none) (hl : Liv T K (L2.upd H p o) p k us) (hx : RelL T K R F xs us) : Rep T K (R.add p) F (S ++ [some (k, xs)]) (L2.upd H p o) where
  ex := fun a u e => by
    have h : a ≠ p := fun z => by rw [z, r.fnone hp] at e; cases e
    rw [upd_ne h]; exact r.ex a u e
  len := by
    show (R.as ++ [p]).length = _
    rw [List.length_append, List.length_append, r.len]; rfl
  hidt := r.hidt
  ntb := r.ntb
  tabs := tabs_new r.tabs hp
  hidnd := r.hidnd
  hid := fun q hq => by
    obtain ⟨h1, h2, h3⟩ := r.hid q hq
    have ne : q.1 ≠ p := fun z => by rw [z, hp] at h1; cases h1
    exact ⟨by rw [upd_ne ne]; exact h1, fun z => (List.mem_append.mp z).elim h2 fun z => ne (List.mem_singleton.mp z), h3⟩
  there := fun a ha => by
    by_cases h : a = p
    · rw [h]; exact hl.plain_ne
    · rw [upd_ne h]
      rcases List.mem_append.mp ha with z | z
      · exact r.there a z
      · exact absurd (List.mem_singleton.mp z) h
  nd := by
    have hn : p ∉ R.as := fun z => (r.there p z).1 hp
    show (R.as ++ [p]).Nodup
    rw [List.nodup_append]
    exact ⟨r.nd, by simp, fun a ha b hb => by rw [List.mem_singleton.mp hb]; exact fun z => hn (by rw [← z]; exact ha)⟩
  live := fun n a k' xs' h1 h2 => by
    have h1 : (R.as ++ [p])[n]? = some a := h1
    by_cases hlt : n < R.as.length
    · rw [List.getElem?_append_left hlt] at h1
      rw [List.getElem?_append_left (by rw [← r.len]; exact hlt)] at h2
      obtain ⟨h3, us', h4, h5⟩ := r.live n a k' xs' h1 h2
      have ne : a ≠ p := fun z => h4.there (by rw [z]; exact hp)
      exact ⟨h3, us', h4.upd ne, h5.mono (Pl.app R p) (Ex.refl F)⟩
    · have hge : R.as.length ≤ n := Nat.le_of_not_lt hlt
      rw [List.getElem?_append_right hge] at h1
      rw [List.getElem?_append_right (by rw [← r.len]; exact hge)] at h2
      have e0 : n - R.as.length = 0 := by
        by_cases z : n - R.as.length = 0
        · exact z
        · rw [List.getElem?_eq_none (by simp; omega)] at h1; cases h1
      have e1 : n - S.length = 0 := by rw [← r.len]; exact e0
      rw [e0] at h1
      rw [e1] at h2
      cases h1; cases h2
      exact ⟨r.fnone hp, us, hl, hx.mono (Pl.app R _) (Ex.refl F)⟩
/-- a thing that may change, changed -/
theorem Rep.put (r : Rep T K R F S H) {n : Nat} {a : Addr} {o : HO} {k : Kd} {xs : List PV} {us : List V} (hn : R.as[n]? = some a) (hf : F a = none) (hl : Liv T K (L2.upd H a o) a k us) (hx : RelL T K R F xs us) (hp : ∃ u, H a = some u ∧ plainO u = true := by exact ⟨_, by assumption, rfl⟩) : Rep T K R F (S.set n (some (k, xs))) (L2.upd H a o) where
  ex := fun b u e => by
    have h : b ≠ a := fun z => by rw [z, hf] at e; cases e
    rw [upd_ne h]; exact r.ex b u e
  len := by rw [List.length_set]; exact r.len
  nd := r.nd
  there := fun b hb => by
    by_cases h : b = a
    · rw [h]; exact hl.plain_ne
    · rw [upd_ne h]; exact r.there b hb
  hidt := r.hidt
  ntb := r.ntb
  tabs := tabs_put r.tabs hp.choose_spec.1 hp.choose_spec.2
  hidnd := r.hidnd
  hid := fun q hq => by
    obtain ⟨h1, h2, h3⟩ := r.hid q hq
    have ne : q.1 ≠ a := fun z => h2 (by rw [z]; exact List.mem_of_getElem? hn)
    exact ⟨by rw [upd_ne ne]; exact h1, h2, h3⟩
  live := fun m b k' xs' h1 h2 => by
    by_cases e : n = m
    · subst e
      rw [hn] at h1; cases h1
      have hlt : n < S.length := by
        rw [← r.len]; exact (List.getElem?_eq_some_iff.mp hn).1
      rw [List.getElem?_set_self hlt] at h2
      cases h2
      exact ⟨hf, us, hl, hx⟩
    · rw [List.getElem?_set_ne e] at h2
      obtain ⟨h3, us', h4, h5⟩ := r.live m b k' xs' h1 h2
      have ne : b ≠ a := fun z => e (by
        subst z
        exact ((List.getElem?_inj (List.getElem?_eq_some_iff.mp hn).1 r.nd).mp (by rw [hn, h1])))
      exact ⟨h3, us', h4.upd ne, h5⟩
end
/-- the compound behind a value -/
def view (x : PV) (S : Sto) : Option (Kd × List PV) := match x with
  | .nd k xs => some (k, xs)
  | .ref n => (S[n]?).join
  | _ => none
theorem view_nd (k : Kd) (xs : List PV) (S : Sto) : view (.nd k xs) S = some (k, xs) := rfl
theorem view_ref {n : Nat} {S : Sto} {k : Kd} {xs : List PV} (h : S[n]? = some (some (k, xs))) : view (.ref n) S = some (k, xs) := by
  show (S[n]?).join = _; rw [h]; rfl
section
variable {T : Tb} {K : PySem.W.Frag} {R : Pl} {F H : Hp} {S : Sto}
theorem view_rel (r : Rep T K R F S H) {x : PV} {u : V} (h : Rel T K R F x u) {k : Kd} {xs : List PV} (e : view x S = some (k, xs)) : ∃ a us, u = .ref a ∧ Shp T K H a k us ∧ RelL T K R F xs us := by
  cases x with
  | nd k' xs' =>
    cases e
    rw [Rel] at h
    obtain ⟨a, us, h1, h2, h3⟩ := h
    exact ⟨a, us, h1, h2.mono r.ex, h3⟩
  | ref n =>
    rw [Rel] at h
    obtain ⟨a, h1, h2⟩ := h
    have e' : (S[n]?).join = some (k, xs) := e
    have e2 : S[n]? = some (some (k, xs)) := by
      cases q : S[n]? with
      | none => rw [q] at e'; cases e'
      | some o => rw [q] at e'; cases o with
        | none => cases e'
        | some y => cases e'; rfl
    obtain ⟨_, us, h4, h5⟩ := r.live n a k xs h2 e2
    exact ⟨a, us, h1, h4.shp, h5⟩
  | _ => cases e
end

/-! ### sequencing -/
structure Go (T : Tb) (K : PySem.W.Frag) (E : XK) (β : Type) where
  ok : Pl → Hp → Out β → Prop
  mono : ∀ {R R' : Pl} {F F' : Hp} {o : Out β}, Pl.le R R' → Ex F F' → ok R F o → ok R' F' o
  err : ∀ {R : Pl} {F : Hp} {e : XV} {S : Sto}, ok R F (.err e S) → PostX T K R F e S E
  bad : ∀ {R : Pl} {F : Hp}, ¬ ok R F .bad
def goV (T : Tb) (K : PySem.W.Frag) (E : XK) (Q : VK) : Go T K E PV := ⟨fun R F o => OkV T K R F o Q E, fun p x h => OkV.mono p x h, fun h => h, fun h => h⟩
def goB (T : Tb) (K : PySem.W.Frag) (E : XK) (Q : Bool → Hp → Prop) : Go T K E Bool := ⟨fun R F o => OkB T K R F o Q E, fun p x h => OkB.mono p x h, fun h => h, fun h => h⟩
def goL (T : Tb) (K : PySem.W.Frag) (E : XK) (Q : List V → Hp → Prop) : Go T K E (List PV) := ⟨fun R F o => OkL T K R F o Q E, fun p x h => OkL.mono p x h, fun h => h, fun h => h⟩
section
variable {T : Tb} {K : PySem.W.Frag} {E : XS} {R : Pl} {F H : Hp} {S : Sto} {l : Loc} {σ : L2.St} {β : Type}
theorem seqV (G : Go T K (E σ) β) {d : DE} {k : PV → Sto → Out β} {C : VK} (r : Rep T K R F S H) (e : RelE T K R F l σ) (h : G.ok R F ((d l S).bind k))
    (hk : ∀ (x : PV) (S1 : Sto) (R1 : Pl) (F1 H1 : Hp) (u : V), Pl.le R R1 → Ex F F1 → Rep T K R1 F1 S1 H1 → Rel T K R1 F1 x u → RelE T K R1 F1 l σ → G.ok R1 F1 (k x S1) → C u H1) : tV T K E d σ H C := by
  refine ⟨R, F, l, S, r, e, ?_⟩
  cases hd : d l S with
  | ok x S1 =>
    rw [hd] at h
    exact fun R1 F1 H1 u p x' r1 rx => hk x S1 R1 F1 H1 u p x' r1 rx (e.mono p x') (G.mono p x' h)
  | err e' S1 => rw [hd] at h; exact G.err h
  | bad => rw [hd] at h; exact G.bad h
theorem seqT (G : Go T K (E σ) β) {d : DB} {k : Bool → Sto → Out β} {C : Bool → Hp → Prop} (r : Rep T K R F S H) (e : RelE T K R F l σ) (h : G.ok R F ((d l S).bind k))
    (hk : ∀ (x : Bool) (S1 : Sto) (R1 : Pl) (F1 H1 : Hp), Pl.le R R1 → Ex F F1 → Rep T K R1 F1 S1 H1 → RelE T K R1 F1 l σ → G.ok R1 F1 (k x S1) → C x H1) : tT T K E d σ H C := by
  refine ⟨R, F, l, S, r, e, ?_⟩
  cases hd : d l S with
  | ok x S1 =>
    rw [hd] at h
    exact fun R1 F1 H1 p x' r1 => hk x S1 R1 F1 H1 p x' r1 (e.mono p x') (G.mono p x' h)
  | err e' S1 => rw [hd] at h; exact G.err h
  | bad => rw [hd] at h; exact G.bad h
theorem seqL (G : Go T K (E σ) β) {d : DA} {k : List PV → Sto → Out β} {C : List V → Hp → Prop} (r : Rep T K R F S H) (e : RelE T K R F l σ) (h : G.ok R F ((d l S).bind k))
    (hk : ∀ (x : List PV) (S1 : Sto) (R1 : Pl) (F1 H1 : Hp) (u : List V), Pl.le R R1 → Ex F F1 → Rep T K R1 F1 S1 H1 → RelL T K R1 F1 x u → RelE T K R1 F1 l σ → G.ok R1 F1 (k x S1) → C u H1) : tL T K E d σ H C := by
  refine ⟨R, F, l, S, r, e, ?_⟩
  cases hd : d l S with
  | ok x S1 =>
    rw [hd] at h
    exact fun R1 F1 H1 u p x' r1 rx => hk x S1 R1 F1 H1 u p x' r1 rx (e.mono p x') (G.mono p x' h)
  | err e' S1 => rw [hd] at h; exact G.err h
  | bad => rw [hd] at h; exact G.bad h
/-- an expression's value handed on as it is -/
theorem PostV.here {v : PV} {u : V} {Q : VK} (r : Rep T K R F S H) (rv : Rel T K R F v u) (h : PostV T K R F v S Q) : Q u H := h R F H u (Pl.refl R) (Ex.refl F) r rv
theorem PostL.here {v : List PV} {u : List V} {Q : List V → Hp → Prop} (r : Rep T K R F S H) (rv : RelL T K R F v u) (h : PostL T K R F v S Q) : Q u H := h R F H u (Pl.refl R) (Ex.refl F) r rv
theorem PostB.here {v : Bool} {Q : Bool → Hp → Prop} (r : Rep T K R F S H) (h : PostB T K R F v S Q) : Q v H := h R F H (Pl.refl R) (Ex.refl F) r
theorem PostE.here {Q : L2.St → Hp → Prop} (r : Rep T K R F S H) (e : RelE T K R F l σ) (h : PostE T K R F l S Q) : Q σ H := h R F H σ (Pl.refl R) (Ex.refl F) r e
/-- a new compound that never changes any more, as the value -/
theorem PostV.new {k : Kd} {xs : List PV} {us : List V} {p : Addr} {o : HO} {Q : VK} (r : Rep T K R F S H) (hp : H p = none) (hs : Shp T K (L2.upd F p o) p k us) (hx : RelL T K R F xs us) (h : PostV T K R F (.nd k xs) S Q) (ho : ∀ ps, o ≠ .tbl ps := by intro _ h; cases h) : Q (.ref p) (L2.upd H p o) := by
  have e : Ex F (L2.upd F p o) := ex_upd (r.fnone hp)
  refine h R _ _ _ (Pl.refl R) e (r.frozen hp ho) ?_
  rw [Rel]
  exact ⟨p, us, rfl, hs, hx.mono (Pl.refl R) e⟩
/-- a new compound that may change, as the value -/
theorem PostV.newM {k : Kd} {xs : List PV} {us : List V} {p : Addr} {o : HO} {Q : VK} (r : Rep T K R F S H) (hp : H p = none) (hs : Liv T K (L2.upd H p o) p k us) (hx : RelL T K R F xs us) (h : PostV T K R F (.ref S.length) (S ++ [some (k, xs)]) Q) : Q (.ref p) (L2.upd H p o) := by
  refine h (R.add p) F _ _ (Pl.app R _) (Ex.refl F) (r.laid hp hs hx) ?_
  rw [Rel]
  exact ⟨p, rfl, by show (R.as ++ [p])[S.length]? = _; rw [← r.len, List.getElem?_append_right (Nat.le_refl _)]; simp⟩
end

/-! ### judgements -/
abbrev JE (T : Tb) (X : Cx) (E : XS) (e : Expr) (d : DE) : Prop := PE X e (tV T X.K E d)
abbrev JT (T : Tb) (X : Cx) (E : XS) (e : Expr) (d : DB) : Prop := PT X e (tT T X.K E d)
abbrev JW (T : Tb) (X : Cx) (E : XS) (e : Expr) (d : DB) : Prop := PW X e (tT T X.K E d)
abbrev JA (T : Tb) (X : Cx) (E : XS) (es : List Expr) (d : DA) : Prop := PA X es (tL T X.K E d)
abbrev JS (T : Tb) (X : Cx) (E : XS) (st : Stmt) (d : DS) : Prop := PS X st (tS T X.K E d)
abbrev JB (T : Tb) (X : Cx) (E : XS) (st : List Stmt) (d : DS) : Prop := PSs X st (tS T X.K E d)
theorem pe_imp {X : Cx} {e : Expr} {t t' : TE} (h : PE X e t) (i : ∀ σ H Q, t' σ H Q → t σ H Q) : PE X e t' := ⟨fun pins s σ H Q I q => h.run pins s σ H Q I (i σ H Q q)⟩
theorem pt_imp {X : Cx} {e : Expr} {t t' : TT} (h : PT X e t) (i : ∀ σ H Q, t' σ H Q → t σ H Q) : PT X e t' := ⟨fun pins s σ H Q I q => h.run pins s σ H Q I (i σ H Q q)⟩
theorem pw_imp {X : Cx} {e : Expr} {t t' : TT} (h : PW X e t) (i : ∀ σ H Q, t' σ H Q → t σ H Q) : PW X e t' := ⟨fun wh pins s σ H Q I q => h.run wh pins s σ H Q I (i σ H Q q)⟩
theorem pa_imp {X : Cx} {e : List Expr} {t t' : TA} (h : PA X e t) (i : ∀ σ H Q, t' σ H Q → t σ H Q) : PA X e t' := ⟨fun pos pins s σ H Q I q => h.run pos pins s σ H Q I (i σ H Q q)⟩
theorem ps_imp {X : Cx} {e : Stmt} {t t' : TS} (h : PS X e t) (i : ∀ D σ H, t' D σ H → t D σ H) : PS X e t' := ⟨fun pins s σ H D I q => h.run pins s σ H D I (i D σ H q)⟩
theorem pss_imp {X : Cx} {e : List Stmt} {t t' : TS} (h : PSs X e t) (i : ∀ D σ H, t' D σ H → t D σ H) : PSs X e t' := ⟨fun pins s σ H D I q => h.run pins s σ H D I (i D σ H q)⟩

/-! ### names, constants -/
def dVar (i : Nat) : DE := fun l S => match l[i]? with
  | some (some v) => .ok v S
  | _ => .bad
def dC (v : PV) : DE := fun _ S => .ok v S
/-- a value that has no address, as the layer's -/
def PV.at0 : PV → Option V
  | .non => some .non
  | .bl b => some (.bl b)
  | .int i => some (.int i)
  | .str x => some (.str x)
  | .ty n => some (.ty n)
  | _ => none
theorem rel_at0 {T : Tb} {K : PySem.W.Frag} {R : Pl} {F : Hp} {v : PV} {u : V} (h : v.at0 = some u) : Rel T K R F v u := by
  cases v <;> simp [PV.at0] at h <;> subst h <;> simp [Rel]
section
variable {T : Tb} {X : Cx} {E : XS}
theorem je_var (i : Nat) {x : Str} {pos : Pos} (hN : X.N[i]? = some x := by rfl) (hv : Vis X.env.scope x := by first | exact Or.inl rfl | exact Or.inr (Or.inl rfl) | exact Or.inr (Or.inr rfl)) (hd : (x == ("__debug__" : Str)) = false := by decide)
    (hcd : (x == ("__classdict__" : Str)) = false := by decide) : JE T X E (.Name x pos) (dVar i) := by
  refine pe_imp (pe_var (i := i) hN hv hd hcd) fun σ H Q ⟨R, F, l, S, r, e, h⟩ => ?_
  unfold dVar at h
  split at h
  · rename_i v hv'
    obtain ⟨u, h1, h2⟩ := e.at_ i v hv'
    exact ⟨u, h1, PostV.here r h2 h⟩
  · exact h.elim
theorem je_c {e : Expr} {v : PV} {u : V} (hu : v.at0 = some u) (h : PE X e (tC u)) : JE T X E e (dC v) :=
  pe_imp h fun σ H Q ⟨R, F, l, S, r, e, h⟩ => PostV.here r (rel_at0 hu) h
theorem je_int {i : Int} {j pos} : JE T X E (.Constant (.int i) j pos) (dC (.int i)) := je_c rfl pe_int
theorem je_bl {i : Bool} {j pos} : JE T X E (.Constant (.bool i) j pos) (dC (.bl i)) := je_c rfl pe_bl
theorem je_non {j pos} : JE T X E (.Constant .none j pos) (dC .non) := je_c rfl pe_non
theorem je_gint {x : Str} {i : Int} {pos : Pos} (hm : ∃ t, X.mg x = some (.int i t)) (hg : Gl X x := by rfl) (hd : (x == ("__debug__" : Str)) = false := by decide) : JE T X E (.Name x pos) (dC (.int i)) :=
  let ⟨t, h⟩ := hm; je_c rfl (pe_glob hg h (v := .int i) ⟨t, rfl⟩ hd)
/-- a built-in type, a class of the text, as a value -/
theorem je_ty {x : Str} {n : String} {pos : Pos} (hm : X.mg x = none) (hv : bootBuiltins x = some (.type n)) (hg : Gl X x := by rfl) (hn : x ≠ "__name__" := by decide) (hd : (x == ("__debug__" : Str)) = false := by decide) : JE T X E (.Name x pos) (dC (.ty n)) :=
  je_c rfl (pe_bltn hg hm hv (v := .ty n) rfl hn hd)
theorem je_cls {x : Str} {c : Nat} {pos : Pos} (hm : X.mg x = some (.ref (T.ca X.K c))) (hg : Gl X x := by rfl) (hd : (x == ("__debug__" : Str)) = false := by decide) : JE T X E (.Name x pos) (dC (.cls c)) :=
  pe_imp (pe_glob hg hm (v := .ref (T.ca X.K c)) rfl hd) fun σ H Q ⟨R, F, l, S, r, e, h⟩ => PostV.here (v := .cls c) r (by rw [Rel]) h

/-! ### argument lists, displays -/
def dNil : DA := fun _ S => .ok [] S
def dCons (a : DE) (r : DA) : DA := fun l S => (a l S).bind fun x S1 => (r l S1).bind fun xs S2 => .ok (x :: xs) S2
variable {e : Expr} {es : List Expr} {a : DE} {ar : DA}
theorem ja_nil : JA T X E [] dNil := pa_imp pa_nil fun σ H Q ⟨R, F, l, S, r, e, h⟩ => PostL.here r .nil h
theorem ja_cons (ha : JE T X E e a) (hr : JA T X E es ar) (hs : starEach (e :: es) X.env = (false, eval e X.env) :: starEach es X.env := by rfl) : JA T X E (e :: es) (dCons a ar) := by
  refine pa_imp (pa_cons ha hr hs) fun σ H Q ⟨R, F, l, S, r, e, h⟩ => ?_
  refine seqV (goL T X.K (E σ) Q) r e h fun x S1 R1 F1 H1 u p ex r1 rx e1 h1 => ?_
  refine seqL (goL T X.K (E σ) Q) r1 e1 h1 fun xs S2 R2 F2 H2 us p2 ex2 r2 rxs e2 h2 => ?_
  exact PostL.here r2 (.cons (rx.mono p2 ex2) rxs) h2
def mkNd (k : Kd) (xs : List PV) (S : Sto) : Out PV := if xs.length ≤ 16777216 then .ok (.nd k xs) S else .bad
def mkRf (k : Kd) (xs : List PV) (S : Sto) : Out PV := if xs.length ≤ 16777216 then .ok (.ref S.length) (S ++ [some (k, xs)]) else .bad
def dTup (t : DA) : DE := fun l S => (t l S).bind fun xs S1 => mkNd .tup xs S1
def dLst (t : DA) : DE := fun l S => (t l S).bind fun xs S1 => mkNd .lst xs S1
def dLstM (t : DA) : DE := fun l S => (t l S).bind fun xs S1 => mkRf .lst xs S1
theorem sz16 {n : Nat} (h : n ≤ 16777216) : n ≤ sizeLine := by rw [sizeLine_eq]; exact h
theorem je_tup {k pos} (h : JA T X E es ar) : JE T X E (.Tuple es k pos) (dTup ar) := by
  refine pe_imp (pe_tup h) fun σ H Q ⟨R, F, l, S, r, e, h⟩ => ?_
  refine seqL (goV T X.K (E σ) Q) r e h fun xs S1 R1 F1 H1 us p ex r1 rx e1 h1 => ?_
  have h1 : OkV T X.K R1 F1 (mkNd .tup xs S1) Q (E σ) := h1
  unfold mkNd at h1
  split at h1
  · rename_i hz
    exact ⟨sz16 (by rw [rx.length]; exact hz), fun q hq => PostV.new (k := .tup) r1 hq upd_same rx h1⟩
  · exact h1.elim
theorem je_lst {pos} (h : JA T X E es ar) : JE T X E (.List es pos) (dLst ar) := by
  refine pe_imp (pe_lst h) fun σ H Q ⟨R, F, l, S, r, e, h⟩ => ?_
  refine seqL (goV T X.K (E σ) Q) r e h fun xs S1 R1 F1 H1 us p ex r1 rx e1 h1 => ?_
  have h1 : OkV T X.K R1 F1 (mkNd .lst xs S1) Q (E σ) := h1
  unfold mkNd at h1
  split at h1
  · rename_i hz
    exact ⟨sz16 (by rw [rx.length]; exact hz), fun q hq => PostV.new (k := .lst) r1 hq upd_same rx h1⟩
  · exact h1.elim
theorem je_lstM {pos} (h : JA T X E es ar) : JE T X E (.List es pos) (dLstM ar) := by
  refine pe_imp (pe_lst h) fun σ H Q ⟨R, F, l, S, r, e, h⟩ => ?_
  refine seqL (goV T X.K (E σ) Q) r e h fun xs S1 R1 F1 H1 us p ex r1 rx e1 h1 => ?_
  have h1 : OkV T X.K R1 F1 (mkRf .lst xs S1) Q (E σ) := h1
  unfold mkRf at h1
  split at h1
  · rename_i hz
    exact ⟨sz16 (by rw [rx.length]; exact hz), fun q hq => PostV.newM (k := .lst) r1 hq upd_same rx h1⟩
  · exact h1.elim
end
end Z
end
section
set_option Elab.async false
set_option linter.all false
set_option maxRecDepth 100000
set_option maxHeartbeats 1000000
/-! Z3: operators and comparisons by values. -/
namespace Z
open PySem PySem.Spec PyProof.Rows L2

/-- an operation on values and the layer's reading of it -/
def OpZ (T : Tb) (K : PySem.W.Frag) (f : PV → PV → Sto → Out PV) (r : R2) : Prop := ∀ (E : XK) (R : Pl) (F H : Hp) (S : Sto) (x y : PV) (u w : V) (Q : VK), Rep T K R F S H → Rel T K R F x u → Rel T K R F y w → OkV T K R F (f x y S) Q E → r u w H Q
def dBin (f : PV → PV → Sto → Out PV) (a b : DE) : DE := fun l S => (a l S).bind fun x S1 => (b l S1).bind fun y S2 => f x y S2
section
variable {T : Tb} {X : Cx} {E : XS} {a b : Expr} {da db : DE} {pos : Pos}
theorem bin_tOp {f : PV → PV → Sto → Out PV} {r : R2} (hz : OpZ T X.K f r) {σ : L2.St} {H : Hp} {Q : VK} (h : tV T X.K E (dBin f da db) σ H Q) : tOp r (tV T X.K E da) (tV T X.K E db) σ H Q := by
  obtain ⟨R, F, l, S, re, e, h⟩ := h
  refine seqV (goV T X.K (E σ) Q) re e h fun x S1 R1 F1 H1 u p ex r1 rx e1 h1 => ?_
  refine seqV (goV T X.K (E σ) Q) r1 e1 h1 fun y S2 R2 F2 H2 w p2 ex2 r2 ry e2 h2 => ?_
  exact hz (E σ) R2 F2 H2 S2 x y u w Q r2 (rx.mono p2 ex2) ry h2
theorem je_bin {op : Operator} {f : PV → PV → Sto → Out PV} {r : R2} (ho : OpR X (binaryOp op) r) (hz : OpZ T X.K f r) (ha : JE T X E a da) (hb : JE T X E b db) : JE T X E (.BinOp a op b pos) (dBin f da db) :=
  pe_imp (pe_op ho ha hb) fun _ _ _ h => bin_tOp hz h
theorem je_cmp {op : CmpOp} {f : PV → PV → Sto → Out PV} {r : R2} (ho : OpR X (compareOp op) r) (hz : OpZ T X.K f r) (ha : JE T X E a da) (hb : JE T X E b db) (hm : behindInMarks op b = false := by rfl) : JE T X E (.Compare a [op] [b] pos) (dBin f da db) :=
  pe_imp (pe_cmpR ho ha hb hm) fun _ _ _ h => bin_tOp hz h
/-- a value that is a bool, as a test -/
def asB (o : Out PV) : Out Bool := o.bind fun x S => match x with
  | .bl b => .ok b S
  | _ => .bad
def dB (d : DE) : DB := fun l S => asB (d l S)
theorem tB_of {t : TE} (hi : ∀ (σ : L2.St) (H : Hp) (Q : VK), tV T X.K E da σ H Q → t σ H Q) {σ : L2.St} {H : Hp} {Q : Bool → Hp → Prop} (h : tT T X.K E (dB da) σ H Q) : t σ H fun x H' => ∃ k, x = .bl k ∧ Q k H' := by
  obtain ⟨R, F, l, S, re, e, h⟩ := h
  refine hi σ H _ (seqV (goB T X.K (E σ) Q) re e h fun x S1 R1 F1 H1 u p ex r1 rx e1 h1 => ?_)
  cases x with
  | bl k =>
    rw [Rel] at rx
    exact ⟨k, rx, PostB.here r1 h1⟩
  | _ => exact h1.elim
theorem jt_cmp {op : CmpOp} {f : PV → PV → Sto → Out PV} {r : R2} (ho : OpR X (compareOp op) r) (hz : OpZ T X.K f r) (ha : JE T X E a da) (hb : JE T X E b db) (hm : behindInMarks op b = false := by rfl) : JT T X E (.Compare a [op] [b] pos) (dB (dBin f da db)) :=
  pt_imp (pt_cmpR ho ha hb hm) fun _ _ _ h => tB_of (fun _ _ _ q => bin_tOp hz q) h
/-- a < b < c -/
def dChain (f g : PV → PV → Sto → Out PV) (a b c : DE) : DE := fun l S => (a l S).bind fun x S1 => (b l S1).bind fun y S2 => (asB (f x y S2)).bind fun k S3 => if k = true then (c l S3).bind fun z S4 => g y z S4 else .ok (.bl false) S3
theorem chain_t {f g : PV → PV → Sto → Out PV} {r r' : R2} {dc : DE} (hf : OpZ T X.K f r) (hg : OpZ T X.K g r') {σ : L2.St} {H : Hp} {Q : VK} (h : tV T X.K E (dChain f g da db dc) σ H Q) : tChain r r' (tV T X.K E da) (tV T X.K E db) (tV T X.K E dc) σ H Q := by
  obtain ⟨R, F, l, S, re, e, h⟩ := h
  refine seqV (goV T X.K (E σ) Q) re e h fun x S1 R1 F1 H1 u p ex r1 rx e1 h1 => ?_
  refine seqV (goV T X.K (E σ) Q) r1 e1 h1 fun y S2 R2 F2 H2 w p2 ex2 r2 ry e2 h2 => ?_
  refine hf (E σ) R2 F2 H2 S2 x y u w _ r2 (rx.mono p2 ex2) ry ?_
  have h2 : OkV T X.K R2 F2 ((asB (f x y S2)).bind fun k S3 => if k = true then (dc l S3).bind fun z S4 => g y z S4 else .ok (.bl false) S3) Q (E σ) := h2
  cases hfx : f x y S2 with
  | bad => rw [hfx] at h2; exact h2.elim
  | err x' S3 => rw [hfx] at h2; exact h2
  | ok v S3 =>
    rw [hfx] at h2
    intro R3 F3 H3 z p3 ex3 r3 rz
    cases v with
    | bl k =>
      rw [Rel] at rz
      refine ⟨k, rz, ?_⟩
      cases k with
      | false => exact PostV.here r3 (by rw [Rel]) (OkV.mono p3 ex3 h2)
      | true =>
        have h3 : OkV T X.K R3 F3 ((dc l S3).bind fun z S4 => g y z S4) Q (E σ) := OkV.mono p3 ex3 h2
        refine seqV (goV T X.K (E σ) Q) r3 (e2.mono p3 ex3) h3 fun z' S4 R4 F4 H4 w4 p4 ex4 r4 rz4 e4 h4 => ?_
        exact hg (E σ) R4 F4 H4 S4 y z' w w4 Q r4 ((ry.mono p3 ex3).mono p4 ex4) rz4 h4
    | _ => exact h2.elim
theorem je_chain {c : Expr} {op op' : CmpOp} {f g : PV → PV → Sto → Out PV} {r r' : R2} {dc : DE} (ho : OpR X (compareOp op) r) (hf : OpZ T X.K f r) (ho' : OpR X (compareOp op') r') (hg : OpZ T X.K g r') (ha : JE T X E a da) (hb : JE T X E b db) (hc : JE T X E c dc)
    (hm : lastMarks [op, op'] [b, c] = false := by with_unfolding_all rfl) : JE T X E (.Compare a [op, op'] [b, c] pos) (dChain f g da db dc) :=
  pe_imp (pe_chain ho ho' ha hb hc hm) fun _ _ _ h => chain_t hf hg h
end

/-! ### arithmetic -/
set_option exponentiation.threshold 500000 in
@[irreducible] def BIG : Nat := 2 ^ 400000
set_option exponentiation.threshold 10000 in
@[irreducible] def DIVB : Nat := 2 ^ 9000
theorem BIG_eq : BIG = 2 ^ 400000 := by unfold BIG; rfl
theorem DIVB_eq : DIVB = 2 ^ 9000 := by unfold DIVB; rfl
theorem lt_DIVB {n k : Nat} (h : n < 2 ^ k) (hk : k ≤ 9000) : n < DIVB := by
  rw [DIVB_eq]; exact Nat.lt_of_lt_of_le h (Nat.pow_le_pow_right (by omega) hk)
def mulOk (i j : Int) : Prop := i.natAbs < 2 ^ 64 ∨ j.natAbs < 2 ^ 64 ∨ (i.natAbs < BIG ∧ j.natAbs < BIG)
instance (i j : Int) : Decidable (mulOk i j) := by unfold mulOk; infer_instance
theorem mulOk.ok {i j : Int} (h : mulOk i j) : IntMulOk i j := by
  rcases h with h | h | ⟨h1, h2⟩
  · exact CMul.ok (.inl ⟨by omega, by omega⟩)
  · exact CMul.ok (.inr ⟨by omega, by omega⟩)
  · rw [BIG_eq] at h1 h2
    exact CMulW.ok (wide_mul h1 h2 (by decide) (by decide) (by decide))
def addP (x y : PV) (S : Sto) : Out PV := match x with
  | .int i => (match y with
    | .int j => .ok (.int (i + j)) S
    | .bl k => .ok (.int (i + b2i k)) S
    | _ => .bad)
  | .str a => (match y with
    | .str b => if a.length + b.length ≤ 16777216 then .ok (.str (a ++ b)) S else .bad
    | _ => .bad)
  | x => match view x S, view y S with
    | some (.lst, xs), some (.lst, ys) => mkNd .lst (xs ++ ys) S
    | some (.tup, xs), some (.tup, ys) => mkNd .tup (xs ++ ys) S
    | _, _ => .bad
def subP (x y : PV) (S : Sto) : Out PV := match x, y with
  | .int i, .int j => .ok (.int (i - j)) S
  | _, _ => .bad
def divP (x y : PV) (S : Sto) : Out PV := match x, y with
  | .int i, .int j => if 0 < j ∧ j.natAbs < DIVB then .ok (.int (i / j)) S else if j ≠ 0 ∧ j.natAbs < DIVB then .ok (.int (i.fdiv j)) S else .bad
  | _, _ => .bad
def modP (x y : PV) (S : Sto) : Out PV := match x, y with
  | .int i, .int j => if 0 < j then .ok (.int (i % j)) S else if j ≠ 0 then .ok (.int (i.fmod j)) S else .bad
  | _, _ => .bad
def powP (x y : PV) (S : Sto) : Out PV := match x, y with
  | .int i, .int j => if 0 ≤ j ∧ j ≤ 1000000 ∧ i.natAbs < 2 ^ 64 then .ok (.int (i ^ j.toNat)) S else .bad
  | _, _ => .bad
section
variable {T : Tb} {X : Cx} {K : PySem.W.Frag}
theorem rel_int {R : Pl} {F : Hp} {i : Int} {u : V} (h : Rel T K R F (.int i) u) : u = .int i := by rw [Rel] at h; exact h
theorem rel_str {R : Pl} {F : Hp} {i : Str} {u : V} (h : Rel T K R F (.str i) u) : u = .str i := by rw [Rel] at h; exact h
theorem rel_bl {R : Pl} {F : Hp} {i : Bool} {u : V} (h : Rel T K R F (.bl i) u) : u = .bl i := by rw [Rel] at h; exact h
theorem rel_non {R : Pl} {F : Hp} {u : V} (h : Rel T K R F .non u) : u = .non := by rw [Rel] at h; exact h
theorem rel_ty {R : Pl} {F : Hp} {n : String} {u : V} (h : Rel T K R F (.ty n) u) : u = .ty n := by rw [Rel] at h; exact h
theorem rel_cls {R : Pl} {F : Hp} {n : Nat} {u : V} (h : Rel T K R F (.cls n) u) : u = .ref (T.ca K n) := by rw [Rel] at h; exact h
/-- a tuple never stands in the store -/
theorem tup_nd {R : Pl} {F H : Hp} {S : Sto} (r : Rep T K R F S H) {x : PV} {u : V} (rx : Rel T K R F x u) {xs : List PV} (h : view x S = some (.tup, xs)) : x = .nd .tup xs := by
  cases x with
  | nd k zs => cases h; rfl
  | ref n =>
    exfalso
    rw [Rel] at rx
    obtain ⟨b', _, hb'⟩ := rx
    have e' : (S[n]?).join = some (.tup, xs) := h
    cases q : S[n]? with
    | none => rw [q] at e'; cases e'
    | some o =>
      rw [q] at e'
      cases o with
      | none => cases e'
      | some y => cases e'; obtain ⟨_, us', h4, _⟩ := r.live n b' _ _ hb' q; exact h4
  | _ => cases h
def rMulZ : R2 := rI IntMulOk fun i j => .int (i * j)
theorem op_mulZ : OpR X (binaryOp .Mult) rMulZ := opI fun _ _ _ _ _ _ _ hc q => mul_int q hc
def rDivZ : R2 := rI (fun _ j => j ≠ 0 ∧ j.natAbs < DIVB) fun i j => .int (i.fdiv j)
theorem op_divZ : OpR X (binaryOp .FloorDiv) rDivZ := opI fun i j _ _ _ _ _ hc q => floordiv_int hc.1 q (.inl (PyProof.noPylong_of_log2 (by
  have h := hc.2
  rw [DIVB_eq] at h
  exact PySem.Flt.log2_lt_of (by decide) h)))
abbrev rAddZ (K : PySem.W.Frag) : R2 := fun x y H Q => rI0 (fun i j => .int (i + j)) x y H Q ∨ (∃ i k, x = .int i ∧ y = .bl k ∧ Q (.int (i + b2i k)) H) ∨ (∃ i j, x = .str i ∧ y = .str j ∧ i.length + j.length ≤ sizeLine ∧ Q (.str (i ++ j)) H) ∨ rCat x y H Q ∨ rCatA K x y H Q
theorem op_addZ : OpR X (binaryOp .Add) (rAddZ X.K) := OpR.or op_add (OpR.or op_add_ib (OpR.or op_add_str (OpR.or op_cat op_catA)))
theorem oz_add : OpZ T K addP (rAddZ K) := by
  intro E R F H S x y u w Q r rx ry h
  cases x with
  | int i =>
    have := rel_int rx; subst this
    cases y with
    | int j =>
      have := rel_int ry; subst this
      exact .inl ⟨i, j, rfl, rfl, PostV.here r (by rw [Rel]) h⟩
    | bl k =>
      have := rel_bl ry; subst this
      exact .inr (.inl ⟨i, k, rfl, rfl, PostV.here r (by rw [Rel]) h⟩)
    | _ => exact h.elim
  | str a =>
    have := rel_str rx; subst this
    cases y with
    | str b =>
      have := rel_str ry; subst this
      have h : OkV T K R F (if a.length + b.length ≤ 16777216 then .ok (.str (a ++ b)) S else .bad) Q E := h
      split at h
      · rename_i hz
        exact .inr (.inr (.inl ⟨a, b, rfl, rfl, sz16 hz, PostV.here r (by rw [Rel]) h⟩))
      · exact h.elim
    | _ => exact h.elim
  | _ =>
    all_goals
      simp only [addP] at h
      split at h
      · rename_i xs ys h1 h2
        obtain ⟨a, us, rfl, sa, ra⟩ := view_rel r rx h1
        obtain ⟨b, ws, rfl, sb, rb⟩ := view_rel r ry h2
        unfold mkNd at h
        split at h
        · rename_i hz
          refine .inr (.inr (.inr (.inl ⟨a, b, us, ws, rfl, rfl, sa, sb, sz16 ?_, fun p hp => PostV.new (k := .lst) r hp upd_same (ra.append rb) h⟩)))
          rw [ra.length, rb.length, ← List.length_append]; exact hz
        · exact h.elim
      · rename_i xs ys h1 h2
        obtain ⟨a, us, ea, sa, ra⟩ := view_rel r rx h1
        obtain ⟨b, ws, eb, sb, rb⟩ := view_rel r ry h2
        unfold mkNd at h
        split at h
        · rename_i hz
          refine .inr (.inr (.inr (.inr ⟨a, b, us, ws, ea, eb, SqT.of sa, SqT.of sb, sz16 ?_, fun z => ?_, fun z z2 => ?_, fun z z2 p hp => PostV.new (k := .tup) r hp upd_same (ra.append rb) h⟩)))
          · rw [ra.length, rb.length, ← List.length_append]; exact hz
          · have hx : xs = [] := by
              have := ra.length; rw [z] at this; exact List.length_eq_zero_iff.mp this.symm
            subst hx
            have hy := tup_nd r ry h2
            subst hy
            rw [← eb]
            exact PostV.here r ry h
          · have hy : ys = [] := by
              have := rb.length; rw [z2] at this; exact List.length_eq_zero_iff.mp this.symm
            subst hy
            rw [← ea]
            have hx := tup_nd r rx h1
            rw [hx] at rx
            exact PostV.here r rx (by rw [List.append_nil] at h; exact h)
        · exact h.elim
      · exact h.elim
theorem oz_sub : OpZ T K subP (rI0 fun i j => .int (i - j)) := by
  intro E R F H S x y u w Q r rx ry h
  unfold subP at h
  split at h
  · have := rel_int rx; subst this
    have := rel_int ry; subst this
    exact ⟨_, _, rfl, rfl, PostV.here r (by rw [Rel]) h⟩
  · exact h.elim
theorem oz_div : OpZ T K divP rDivZ := by
  intro E R F H S x y u w Q r rx ry h
  unfold divP at h
  split at h
  · have := rel_int rx; subst this
    have := rel_int ry; subst this
    rename_i i j
    split at h
    · rename_i hj
      refine ⟨i, j, rfl, rfl, ⟨by omega, hj.2⟩, ?_⟩
      show Q (V.int (i.fdiv j)) H
      rw [Int.fdiv_eq_ediv_of_nonneg i (by omega)]
      exact PostV.here r (by rw [Rel]) h
    · split at h
      · rename_i hj
        exact ⟨_, _, rfl, rfl, hj, PostV.here r (by rw [Rel]) h⟩
      · exact h.elim
  · exact h.elim
theorem oz_mod : OpZ T K modP (rI (fun _ j => j ≠ 0) fun i j => .int (i.fmod j)) := by
  intro E R F H S x y u w Q r rx ry h
  unfold modP at h
  split at h
  · have := rel_int rx; subst this
    have := rel_int ry; subst this
    rename_i i j
    split at h
    · rename_i hj
      refine ⟨i, j, rfl, rfl, by omega, ?_⟩
      show Q (V.int (i.fmod j)) H
      rw [Int.fmod_eq_emod_of_nonneg i (by omega)]
      exact PostV.here r (by rw [Rel]) h
    · split at h
      · rename_i hj
        exact ⟨_, _, rfl, rfl, hj, PostV.here r (by rw [Rel]) h⟩
      · exact h.elim
  · exact h.elim
theorem oz_pow : OpZ T K powP (rI CPow fun i j => .int (i ^ j.toNat)) := by
  intro E R F H S x y u w Q r rx ry h
  unfold powP at h
  split at h
  · have := rel_int rx; subst this
    have := rel_int ry; subst this
    split at h
    · rename_i hj
      exact ⟨_, _, rfl, rfl, hj, PostV.here r (by rw [Rel]) h⟩
    · exact h.elim
  · exact h.elim
end
end Z
end
section
set_option Elab.async false
set_option linter.all false
set_option maxRecDepth 100000
set_option maxHeartbeats 1000000
/-! Z4: products, comparisons, truth. -/
namespace Z
open PySem PySem.Spec PyProof.Rows L2

/-! ### products -/
def strMul (a : Str) (n : Int) : Str := if n < 1 then Str.empty else if (n == 1 || a.length == 0) = true then a else ⟨(List.replicate n.toNat a.cps).foldl (· ++ ·) #[]⟩
def mulZ (x y : PV) (S : Sto) : Out PV := match x with
  | .int i => (match y with
    | .int j => if mulOk i j then .ok (.int (i * j)) S else .bad
    | _ => .bad)
  | .str a => (match y with
    | .int j => if j < 2 ^ 40 ∧ -(2 ^ 40) < j ∧ a.length * j.toNat ≤ 16777216 then .ok (.str (strMul a j)) S else .bad
    | _ => .bad)
  | x => match view x S with
    | some (.lst, xs) => (match y with
      | .int j => if j < 2 ^ 40 ∧ -(2 ^ 40) < j ∧ xs.length * j.toNat ≤ 16777216 then .ok (.nd .lst (List.replicate j.toNat xs).flatten) S else .bad
      | _ => .bad)
    | _ => .bad
section
variable {T : Tb} {X : Cx} {K : PySem.W.Frag}
def rMulS : R2 := fun x y H Q => ∃ a j, x = .str a ∧ y = .int j ∧ (j < 2 ^ 40 ∧ -(2 ^ 40) < j ∧ a.length * j.toNat ≤ 16777216) ∧ Q (.str (strMul a j)) H
theorem foldl_app_size : ∀ (k : Nat) (a acc : Array Nat), ((List.replicate k a).foldl (· ++ ·) acc).size = acc.size + k * a.size
  | 0, a, acc => by simp
  | k + 1, a, acc => by
    rw [List.replicate_succ, List.foldl_cons, foldl_app_size k a (acc ++ a), Array.size_append, Nat.succ_mul]
    omega
theorem op_mulS : OpR X (binaryOp .Mult) rMulS := by
  intro pins s σ H x y v u Q I rx ry h
  obtain ⟨a, j, rfl, rfl, ⟨h1, h2, h3⟩, q⟩ := h
  obtain ⟨t, rfl⟩ := rx
  obtain ⟨t', rfl⟩ := ry
  have hs : sizeLine = 16777216 := sizeLine_eq
  refine PySem.P.mul_str ?_ (fun hn hz => ?_) (fun hn hz => ?_) ?_
  · rw [decide_eq_false (by omega), decide_eq_false (by omega)]; rfl
  · rw [Bool.or_eq_false_iff] at hz
    have hj : 1 ≤ j := by omega
    have h4 : a.length ≤ 16777216 := Nat.le_trans (Nat.le_mul_of_pos_right _ (by omega)) h3
    have h5 : (a.length : Int) * j ≤ 16777216 := by
      have e : (j.toNat : Int) = j := Int.toNat_of_nonneg (by omega)
      have h7 : ((a.length * j.toNat : Nat) : Int) ≤ ((16777216 : Nat) : Int) := Int.ofNat_le.mpr h3
      rw [Int.natCast_mul, e] at h7
      exact h7
    have h6 : (a.length : Int) ≤ (2 ^ 63 - 1) / j := by
      rw [Int.le_ediv_iff_mul_le (by omega)]
      omega
    omega
  · unfold Builtin.Str.tooLong
    exact decide_eq_false (by omega)
  · unfold strMul at q
    split
    · rename_i hn
      rw [if_pos hn] at q
      exact ⟨by decide, ⟨.str Str.empty, H, I.tok _, ⟨_, rfl⟩, q⟩⟩
    · rename_i hn
      rw [if_neg hn] at q
      split
      · rename_i hz
        rw [if_pos hz] at q
        exact ⟨.str a, H, I, ⟨_, rfl⟩, q⟩
      · rename_i hz
        rw [if_neg hz] at q
        refine ⟨?_, ⟨.str _, H, I.tok _, ⟨_, rfl⟩, q⟩⟩
        show ((List.replicate j.toNat a.cps).foldl (· ++ ·) #[]).size ≤ sizeLine
        rw [foldl_app_size, hs]
        have e : a.cps.size = a.length := rfl
        rw [e, Nat.mul_comm]
        have e0 : (#[] : Array Nat).size = 0 := rfl
        omega
abbrev rMulA : R2 := fun x y H Q => rMulZ x y H Q ∨ rMulS x y H Q ∨ rRep x y H Q
theorem op_mulA : OpR X (binaryOp .Mult) rMulA := OpR.or op_mulZ (OpR.or op_mulS op_rep)
theorem oz_mul : OpZ T K mulZ rMulA := by
  intro E R F H S x y u w Q r rx ry h
  cases x with
  | int i =>
    have := rel_int rx; subst this
    cases y with
    | int j =>
      have := rel_int ry; subst this
      have h : OkV T K R F (if mulOk i j then .ok (.int (i * j)) S else .bad) Q E := h
      split at h
      · rename_i hz
        exact .inl ⟨i, j, rfl, rfl, hz.ok, PostV.here r (by rw [Rel]) h⟩
      · exact h.elim
    | _ => exact h.elim
  | str a =>
    have := rel_str rx; subst this
    cases y with
    | int j =>
      have := rel_int ry; subst this
      have h : OkV T K R F (if j < 2 ^ 40 ∧ -(2 ^ 40) < j ∧ a.length * j.toNat ≤ 16777216 then .ok (.str (strMul a j)) S else .bad) Q E := h
      split at h
      · rename_i hz
        exact .inr (.inl ⟨a, j, rfl, rfl, hz, PostV.here r (by rw [Rel]) h⟩)
      · exact h.elim
    | _ => exact h.elim
  | _ =>
    all_goals
      simp only [mulZ] at h
      split at h
      · rename_i xs h1
        obtain ⟨a, us, ea, sa, ra⟩ := view_rel r rx h1
        cases y with
        | int j =>
          have := rel_int ry; subst this
          simp only at h
          split at h
          · rename_i hz
            refine .inr (.inr ⟨a, j, us, ea, rfl, sa, by omega, by omega, ?_, fun p hp => PostV.new (k := .lst) r hp upd_same ?_ h⟩)
            · rw [ra.length]; exact sz16 hz.2.2
            · have rr : ∀ k : Nat, RelL T K R F (List.replicate k xs).flatten (List.replicate k us).flatten := fun k => by
                induction k with
                | zero => exact .nil
                | succ k ih => rw [List.replicate_succ, List.replicate_succ, List.flatten_cons, List.flatten_cons]; exact ra.append ih
              exact rr _
          · exact h.elim
        | _ => exact h.elim
      · exact h.elim
end

/-! ### data -/
mutual
def dat : PV → Option PyData
  | .non => some .none
  | .bl b => some (.bool b)
  | .int i => some (.int i)
  | .str x => some (.str x)
  | .nd .lst xs => (datL xs).map .list
  | .nd .scr xs => (datL xs).map .list
  | .nd .tup xs => (datL xs).map .tuple
  | _ => none
def datL : List PV → Option (List PyData)
  | [] => some []
  | x :: xs => (dat x).bind fun d => (datL xs).map fun ds => d :: ds
end
/-- .. of a value whose outermost compound may stand in the store -/
def datS (x : PV) (S : Sto) : Option PyData := match view x S with
  | some (k, xs) => dat (.nd k xs)
  | none => dat x
section
variable {T : Tb} {X : Cx} {K : PySem.W.Frag} {R : Pl} {F H : Hp}
theorem shp_rd {a : Addr} {k : Kd} {us : List V} (h : Shp T K H a k us) : (k = .lst ∨ k = .scr → SqL K H a us) ∧ (k = .tup → SqT K H a us) := by
  refine ⟨fun e => ?_, fun e => ?_⟩
  · rcases e with e | e <;> subst e
    · exact SqL.of h
    · exact h
  · subst e; exact SqT.of h
mutual
theorem dat_dp (ex : Ex F H) : ∀ (x : PV) (u : V) (d : PyData), Rel T K R F x u → dat x = some d → Dp K H u d
  | .non, u, d, r, h => by rw [dat] at h; cases h; rw [Rel] at r; subst r; exact .non
  | .bl b, u, d, r, h => by rw [dat] at h; cases h; rw [Rel] at r; subst r; exact .bl b
  | .int i, u, d, r, h => by rw [dat] at h; cases h; rw [Rel] at r; subst r; exact .int i
  | .str x, u, d, r, h => by rw [dat] at h; cases h; rw [Rel] at r; subst r; exact .str x
  | .nd .lst xs, u, d, r, h => by
    rw [dat, Option.map_eq_some_iff] at h
    obtain ⟨ds, h1, rfl⟩ := h
    rw [Rel] at r
    obtain ⟨a, us, rfl, hs, hl⟩ := r
    exact .lst ((shp_rd (hs.mono ex)).1 (.inl rfl)) (datL_dp ex xs us ds hl h1)
  | .nd .scr xs, u, d, r, h => by
    rw [dat, Option.map_eq_some_iff] at h
    obtain ⟨ds, h1, rfl⟩ := h
    rw [Rel] at r
    obtain ⟨a, us, rfl, hs, hl⟩ := r
    exact .lst ((shp_rd (hs.mono ex)).1 (.inr rfl)) (datL_dp ex xs us ds hl h1)
  | .nd .tup xs, u, d, r, h => by
    rw [dat, Option.map_eq_some_iff] at h
    obtain ⟨ds, h1, rfl⟩ := h
    rw [Rel] at r
    obtain ⟨a, us, rfl, hs, hl⟩ := r
    exact .tup ((shp_rd (hs.mono ex)).2 rfl) (datL_dp ex xs us ds hl h1)
  | .nd (.dct t ks) xs, u, d, r, h => by rw [dat] at h <;> first | cases h | (intros; intro z; cases z)
  | .nd (.ins c fs) xs, u, d, r, h => by rw [dat] at h <;> first | cases h | (intros; intro z; cases z)
  | .ty n, u, d, r, h => by rw [dat] at h <;> first | cases h | (intros; intro z; cases z)
  | .cls n, u, d, r, h => by rw [dat] at h <;> first | cases h | (intros; intro z; cases z)
  | .ref n, u, d, r, h => by rw [dat] at h <;> first | cases h | (intros; intro z; cases z)
theorem datL_dp (ex : Ex F H) : ∀ (xs : List PV) (us : List V) (ds : List PyData), RelL T K R F xs us → datL xs = some ds → DpAll K H us ds
  | [], us, ds, r, h => by rw [datL] at h; cases h; rw [RelL] at r; subst r; exact .nil
  | x :: xs, us, ds, r, h => by
    rw [datL, Option.bind_eq_some_iff] at h
    obtain ⟨d, h1, h2⟩ := h
    rw [Option.map_eq_some_iff] at h2
    obtain ⟨es, h3, rfl⟩ := h2
    rw [RelL] at r
    obtain ⟨u, vs, rfl, r1, r2⟩ := r
    exact .cons (dat_dp ex x u d r1 h1) (datL_dp ex xs vs es r2 h3)
end
theorem datS_dp {S : Sto} (r : Rep T K R F S H) {x : PV} {u : V} {d : PyData} (rx : Rel T K R F x u) (h : datS x S = some d) : Dp K H u d := by
  unfold datS at h
  split at h
  · rename_i k xs hv
    obtain ⟨a, us, rfl, hs, hl⟩ := view_rel r rx hv
    cases k with
    | lst =>
      rw [dat, Option.map_eq_some_iff] at h
      obtain ⟨ds, h1, rfl⟩ := h
      exact .lst ((shp_rd hs).1 (.inl rfl)) (datL_dp r.ex xs us ds hl h1)
    | scr =>
      rw [dat, Option.map_eq_some_iff] at h
      obtain ⟨ds, h1, rfl⟩ := h
      exact .lst ((shp_rd hs).1 (.inr rfl)) (datL_dp r.ex xs us ds hl h1)
    | tup =>
      rw [dat, Option.map_eq_some_iff] at h
      obtain ⟨ds, h1, rfl⟩ := h
      exact .tup ((shp_rd hs).2 rfl) (datL_dp r.ex xs us ds hl h1)
    | dct t ks => rw [dat] at h <;> first | cases h | (intros; intro z; cases z)
    | ins c fs => rw [dat] at h <;> first | cases h | (intros; intro z; cases z)
    | exn c fs => rw [dat] at h <;> first | cases h | (intros; intro z; cases z)
    | clo a0 c0 q0 us0 => rw [dat] at h <;> first | cases h | (intros; intro z; cases z)
  · exact dat_dp r.ex x u d rx h
end

/-! ### comparisons -/
def strPair (x y : PV) : Option (Str × Str) := match y with
  | .str b => (match x with
    | .str a => some (a, b)
    | _ => none)
  | _ => none
def eqD (x y : PV) (S : Sto) : Out PV := match datS x S, datS y S with
  | some d, some e => if SeqAt.shaped d = true ∧ SeqAt.shaped e = true then .ok (.bl (PyData.eqv d e)) S else .bad
  | _, _ => .bad
def neD (x y : PV) (S : Sto) : Out PV := match datS x S, datS y S with
  | some d, some e => if SeqAt.shaped d = true ∧ SeqAt.shaped e = true then .ok (.bl (!PyData.eqv d e)) S else .bad
  | _, _ => .bad
def eqZ (x y : PV) (S : Sto) : Out PV := match strPair x y with
  | some (a, b) => .ok (.bl (decide (a = b))) S
  | none => eqD x y S
def neZ (x y : PV) (S : Sto) : Out PV := match strPair x y with
  | some (a, b) => .ok (.bl (!decide (a = b))) S
  | none => neD x y S
def ltZ (x y : PV) (S : Sto) : Out PV := match x, y with
  | .int i, .int j => .ok (.bl (decide (i < j))) S
  | .str i, .str j => .ok (.bl (decide (i.cps.toList < j.cps.toList))) S
  | _, _ => .bad
def leZ (x y : PV) (S : Sto) : Out PV := match x, y with
  | .int i, .int j => .ok (.bl (decide (i ≤ j))) S
  | .str i, .str j => .ok (.bl (!decide (j.cps.toList < i.cps.toList))) S
  | _, _ => .bad
def gtZ (x y : PV) (S : Sto) : Out PV := match x, y with
  | .int i, .int j => .ok (.bl (decide (j < i))) S
  | .str i, .str j => .ok (.bl (decide (j.cps.toList < i.cps.toList))) S
  | _, _ => .bad
def geZ (x y : PV) (S : Sto) : Out PV := match x, y with
  | .int i, .int j => .ok (.bl (decide (j ≤ i))) S
  | .str i, .str j => .ok (.bl (!decide (i.cps.toList < j.cps.toList))) S
  | _, _ => .bad
def PV.isNon : PV → Bool
  | .non => true
  | _ => false
def isZ (x y : PV) (S : Sto) : Out PV := match y with
  | .non => .ok (.bl x.isNon) S
  | .bl b => (match x with
    | .bl a => .ok (.bl (decide (a = b))) S
    | _ => .bad)
  | _ => .bad
def isntZ (x y : PV) (S : Sto) : Out PV := match y with
  | .non => .ok (.bl (!x.isNon)) S
  | .bl b => (match x with
    | .bl a => .ok (.bl (!decide (a = b))) S
    | _ => .bad)
  | _ => .bad
def eqF : PV → PV → Bool
  | .non, .non => true
  | .bl a, .bl b => a == b
  | .bl a, .int b => (if a then 1 else 0) == b
  | .int a, .bl b => a == (if b then 1 else 0)
  | .int a, .int b => a == b
  | .str a, .str b => a == b
  | _, _ => false
def inB (x : PV) (xs : List PV) : Bool := xs.any fun y => eqF y x
section
variable {T : Tb} {X : Cx} {K : PySem.W.Frag}
theorem strPair_some {x y : PV} {a b : Str} (h : strPair x y = some (a, b)) : x = .str a ∧ y = .str b := by
  unfold strPair at h
  split at h
  · split at h
    · cases h; exact ⟨rfl, rfl⟩
    · cases h
  · cases h
theorem dec_strV (a b : Str) : decide (V.str a = V.str b) = decide (a = b) := by
  congr 1
  apply propext
  exact ⟨fun h => by cases h; rfl, fun h => by rw [h]⟩
theorem op_eqZ (hu : X.A.units + 64 < cLine) : OpR X (compareOp .Eq) (fun x y H Q => rEq x y H Q ∨ rEqD X.K x y H Q) := OpR.or op_eq (op_eqD hu)
theorem op_neZ (hu : X.A.units + 64 < cLine) : OpR X (compareOp .NotEq) (fun x y H Q => rNe x y H Q ∨ rNeD X.K x y H Q) := OpR.or op_ne (op_neD hu)
theorem oz_eq : OpZ T K eqZ (fun x y H Q => rEq x y H Q ∨ rEqD K x y H Q) := by
  intro E R F H S x y u w Q r rx ry h
  unfold eqZ at h
  split at h
  · rename_i a b hs
    obtain ⟨rfl, rfl⟩ := strPair_some hs
    have := rel_str rx; subst this
    have := rel_str ry; subst this
    exact .inl ⟨rfl, by rw [dec_strV]; exact PostV.here r (by rw [Rel]) h⟩
  · unfold eqD at h
    split at h
    · rename_i d e h1 h2
      split at h
      · rename_i hs
        exact .inr ⟨d, e, datS_dp r rx h1, datS_dp r ry h2, hs.1, hs.2, PostV.here r (by rw [Rel]) h⟩
      · exact h.elim
    · exact h.elim
theorem oz_ne : OpZ T K neZ (fun x y H Q => rNe x y H Q ∨ rNeD K x y H Q) := by
  intro E R F H S x y u w Q r rx ry h
  unfold neZ at h
  split at h
  · rename_i a b hs
    obtain ⟨rfl, rfl⟩ := strPair_some hs
    have := rel_str rx; subst this
    have := rel_str ry; subst this
    exact .inl ⟨rfl, by rw [dec_strV]; exact PostV.here r (by rw [Rel]) h⟩
  · unfold neD at h
    split at h
    · rename_i d e h1 h2
      split at h
      · rename_i hs
        exact .inr ⟨d, e, datS_dp r rx h1, datS_dp r ry h2, hs.1, hs.2, PostV.here r (by rw [Rel]) h⟩
      · exact h.elim
    · exact h.elim
abbrev rLtZ : R2 := fun x y H Q => rI0 (fun i j => .bl (decide (i < j))) x y H Q ∨ (∃ i j, x = .str i ∧ y = .str j ∧ Q (.bl (decide (i.cps.toList < j.cps.toList))) H)
theorem op_ltZ : OpR X (compareOp .Lt) rLtZ := OpR.or op_lt op_lt_str
abbrev rLeZ : R2 := fun x y H Q => rI0 (fun i j => .bl (decide (i ≤ j))) x y H Q ∨ (∃ i j, x = .str i ∧ y = .str j ∧ Q (.bl (!decide (j.cps.toList < i.cps.toList))) H)
theorem op_leZ : OpR X (compareOp .LtE) rLeZ := OpR.or op_le op_le_str
abbrev rGtZ : R2 := fun x y H Q => rI0 (fun i j => .bl (decide (j < i))) x y H Q ∨ (∃ i j, x = .str i ∧ y = .str j ∧ Q (.bl (decide (j.cps.toList < i.cps.toList))) H)
theorem op_gtZ : OpR X (compareOp .Gt) rGtZ := OpR.or op_gt op_gt_str
abbrev rGeZ : R2 := fun x y H Q => rI0 (fun i j => .bl (decide (j ≤ i))) x y H Q ∨ (∃ i j, x = .str i ∧ y = .str j ∧ Q (.bl (!decide (i.cps.toList < j.cps.toList))) H)
theorem op_geZ : OpR X (compareOp .GtE) rGeZ := OpR.or op_ge op_ge_str
theorem oz_lt : OpZ T K ltZ rLtZ := by
  intro E R F H S x y u w Q r rx ry h
  unfold ltZ at h
  split at h
  · have := rel_int rx; subst this
    have := rel_int ry; subst this
    exact .inl ⟨_, _, rfl, rfl, PostV.here r (by rw [Rel]) h⟩
  · have := rel_str rx; subst this
    have := rel_str ry; subst this
    exact .inr ⟨_, _, rfl, rfl, PostV.here r (by rw [Rel]) h⟩
  · exact h.elim
theorem oz_le : OpZ T K leZ rLeZ := by
  intro E R F H S x y u w Q r rx ry h
  unfold leZ at h
  split at h
  · have := rel_int rx; subst this
    have := rel_int ry; subst this
    exact .inl ⟨_, _, rfl, rfl, PostV.here r (by rw [Rel]) h⟩
  · have := rel_str rx; subst this
    have := rel_str ry; subst this
    exact .inr ⟨_, _, rfl, rfl, PostV.here r (by rw [Rel]) h⟩
  · exact h.elim
theorem oz_gt : OpZ T K gtZ rGtZ := by
  intro E R F H S x y u w Q r rx ry h
  unfold gtZ at h
  split at h
  · have := rel_int rx; subst this
    have := rel_int ry; subst this
    exact .inl ⟨_, _, rfl, rfl, PostV.here r (by rw [Rel]) h⟩
  · have := rel_str rx; subst this
    have := rel_str ry; subst this
    exact .inr ⟨_, _, rfl, rfl, PostV.here r (by rw [Rel]) h⟩
  · exact h.elim
theorem oz_ge : OpZ T K geZ rGeZ := by
  intro E R F H S x y u w Q r rx ry h
  unfold geZ at h
  split at h
  · have := rel_int rx; subst this
    have := rel_int ry; subst this
    exact .inl ⟨_, _, rfl, rfl, PostV.here r (by rw [Rel]) h⟩
  · have := rel_str rx; subst this
    have := rel_str ry; subst this
    exact .inr ⟨_, _, rfl, rfl, PostV.here r (by rw [Rel]) h⟩
  · exact h.elim
theorem isNon_rel {R : Pl} {F : Hp} {x : PV} {u : V} (rx : Rel T K R F x u) : x.isNon = decide (u = .non) := by
  cases x with
  | non => rw [rel_non rx]; rfl
  | bl b => rw [rel_bl rx]; rfl
  | int b => rw [rel_int rx]; rfl
  | str b => rw [rel_str rx]; rfl
  | ty b => rw [rel_ty rx]; rfl
  | cls b => rw [rel_cls rx]; rfl
  | ref n => rw [Rel] at rx; obtain ⟨a, rfl, _⟩ := rx; rfl
  | nd k xs => rw [Rel] at rx; obtain ⟨a, us, rfl, _⟩ := rx; rfl
abbrev rIsZ : R2 := fun x y H Q => (y = .non ∧ Q (.bl (decide (x = .non))) H) ∨ rIsB x y H Q
theorem op_isZ : OpR X (compareOp .Is) rIsZ := OpR.or op_isN op_isBl
abbrev rIsntZ : R2 := fun x y H Q => (y = .non ∧ Q (.bl (!decide (x = .non))) H) ∨ rNotB x y H Q
theorem op_isntZ : OpR X (compareOp .IsNot) rIsntZ := OpR.or op_notN op_notBl
theorem oz_is : OpZ T K isZ rIsZ := by
  intro E R F H S x y u w Q r rx ry h
  cases y with
  | non =>
    have := rel_non ry; subst this
    have e := isNon_rel rx
    refine .inl ⟨rfl, ?_⟩
    rw [← e]
    exact PostV.here r (by rw [Rel]) h
  | bl b =>
    have := rel_bl ry; subst this
    cases x with
    | bl a =>
      have := rel_bl rx; subst this
      exact .inr ⟨a, b, rfl, rfl, PostV.here r (by rw [Rel]) h⟩
    | _ => exact h.elim
  | _ => exact h.elim
theorem oz_isnt : OpZ T K isntZ rIsntZ := by
  intro E R F H S x y u w Q r rx ry h
  cases y with
  | non =>
    have := rel_non ry; subst this
    have e := isNon_rel rx
    refine .inl ⟨rfl, ?_⟩
    rw [← e]
    exact PostV.here r (by rw [Rel]) h
  | bl b =>
    have := rel_bl ry; subst this
    cases x with
    | bl a =>
      have := rel_bl rx; subst this
      exact .inr ⟨a, b, rfl, rfl, PostV.here r (by rw [Rel]) h⟩
    | _ => exact h.elim
  | _ => exact h.elim
end
end Z
end
section
set_option Elab.async false
set_option linter.all false
set_option maxRecDepth 100000
set_option maxHeartbeats 1000000
/-! Z5: truth, tests, subscripts, slices, fields, what dicts hold. -/
namespace Z
open PySem PySem.Spec PyProof.Rows L2

/-! ### truth -/
def truP (x : PV) (S : Sto) : Out Bool := match x with
  | .non => .ok false S
  | .bl b => .ok b S
  | .int i => .ok (i != 0) S
  | .str s => if s.length ≤ 16777216 then .ok ((s.length : Int) != 0) S else .bad
  | x => match view x S with
    | some (.lst, xs) => .ok (!xs.isEmpty) S
    | some (.scr, xs) => .ok (!xs.isEmpty) S
    | some (.tup, xs) => .ok (!xs.isEmpty) S
    | _ => .bad
section
variable {T : Tb} {X : Cx} {K : PySem.W.Frag} {R : Pl} {F H : Hp} {S : Sto} {E : XK}
theorem isEmpty_rel {xs : List PV} {us : List V} (h : RelL T K R F xs us) : xs.isEmpty = us.isEmpty := by
  have e := h.length
  cases xs <;> cases us <;> first | rfl | (simp at e)
theorem tru_rel (r : Rep T K R F S H) {x : PV} {u : V} (rx : Rel T K R F x u) {Q : Bool → Hp → Prop} (h : OkB T K R F (truP x S) Q E) : ∃ k, TruV K u H k ∧ Q k H := by
  cases x with
  | non => rw [rel_non rx]; exact ⟨false, rfl, PostB.here r h⟩
  | bl b => rw [rel_bl rx]; exact ⟨b, rfl, PostB.here r h⟩
  | int i => rw [rel_int rx]; exact ⟨_, rfl, PostB.here r h⟩
  | str s =>
    rw [rel_str rx]
    have h : OkB T K R F (if s.length ≤ 16777216 then .ok ((s.length : Int) != 0) S else .bad) Q E := h
    split at h
    · rename_i hz; exact ⟨_, ⟨sz16 hz, rfl⟩, PostB.here r h⟩
    · exact h.elim
  | _ =>
    all_goals
      simp only [truP] at h
      split at h
      · rename_i xs hv
        obtain ⟨a, us, rfl, hs, hl⟩ := view_rel r rx hv
        exact ⟨_, .inl ⟨us, (shp_rd hs).1 (.inl rfl), by rw [isEmpty_rel hl]⟩, PostB.here r h⟩
      · rename_i xs hv
        obtain ⟨a, us, rfl, hs, hl⟩ := view_rel r rx hv
        exact ⟨_, .inl ⟨us, (shp_rd hs).1 (.inr rfl), by rw [isEmpty_rel hl]⟩, PostB.here r h⟩
      · rename_i xs hv
        obtain ⟨a, us, rfl, hs, hl⟩ := view_rel r rx hv
        exact ⟨_, .inr (.inl ⟨us, (shp_rd hs).2 rfl, by rw [isEmpty_rel hl]⟩), PostB.here r h⟩
      · exact h.elim
end

/-! ### tests -/
def dTru (a : DE) : DB := fun l S => (a l S).bind fun x S1 => truP x S1
def dNotT (a : DB) : DB := fun l S => (a l S).bind fun b S1 => .ok (!b) S1
def dAndT (a b : DB) : DB := fun l S => (a l S).bind fun k S1 => if k = true then b l S1 else .ok false S1
def dOrT (a b : DB) : DB := fun l S => (a l S).bind fun k S1 => if k = true then .ok true S1 else b l S1
def dOr (a b : DE) : DE := fun l S => (a l S).bind fun x S1 => (truP x S1).bind fun k S2 => if k = true then .ok x S2 else b l S2
def dAnd (a b : DE) : DE := fun l S => (a l S).bind fun x S1 => (truP x S1).bind fun k S2 => if k = true then b l S2 else .ok x S2
def dNot (a : DE) : DE := fun l S => (a l S).bind fun x S1 => (truP x S1).bind fun k S2 => .ok (.bl (!k)) S2
def dIf (c : DB) (a b : DE) : DE := fun l S => (c l S).bind fun k S1 => if k = true then a l S1 else b l S1
theorem truP_same {x : PV} {S S1 : Sto} {k : Bool} (h : truP x S = .ok k S1) : S1 = S := by
  unfold truP at h
  split at h <;> first | (cases h; rfl) | (split at h <;> first | (cases h; rfl) | cases h)
section
variable {T : Tb} {X : Cx} {E : XS} {a b c : Expr} {rest : List Expr} {da db : DE} {ta tb : DB} {pos : Pos}
theorem jt_tru (ha : JE T X E a da) (he : ∀ whole, isTrue a X.env whole = (do let v ← whole; standAt a.pos; holding [v] (truthy v)) := by intro _; rfl) : JT T X E a (dTru da) := by
  refine pt_imp (pt_truth ha he) fun σ H Q ⟨R, F, l, S, r, e, h⟩ => ?_
  refine seqV (goB T X.K (E σ) Q) r e h fun x S1 R1 F1 H1 u p ex r1 rx e1 h1 => ?_
  exact tru_rel r1 rx h1
theorem jt_not (ha : JT T X E a ta) : JT T X E (.UnaryOp .Not a pos) (dNotT ta) := by
  refine pt_imp (pt_not ha) fun σ H Q ⟨R, F, l, S, r, e, h⟩ => ?_
  refine seqT (goB T X.K (E σ) Q) r e h fun x S1 R1 F1 H1 p ex r1 e1 h1 => ?_
  exact PostB.here r1 h1
theorem jw_and1 (ha : JT T X E a ta) : JW T X E (.BoolOp .And [a] pos) ta := pw_and1 ha
theorem jw_or1 (ha : JT T X E a ta) : JW T X E (.BoolOp .Or [a] pos) ta := pw_or1 ha
theorem jw_and (ha : JT T X E a ta) (hb : JW T X E (.BoolOp .And (b :: rest) pos) tb) : JW T X E (.BoolOp .And (a :: b :: rest) pos) (dAndT ta tb) := by
  refine pw_imp (pw_and ha hb) fun σ H Q ⟨R, F, l, S, r, e, h⟩ => ?_
  refine seqT (goB T X.K (E σ) Q) r e h fun k S1 R1 F1 H1 p ex r1 e1 h1 => ?_
  cases k with
  | true => exact ⟨R1, F1, l, S1, r1, e1, h1⟩
  | false => exact PostB.here r1 h1
theorem jw_or (ha : JT T X E a ta) (hb : JW T X E (.BoolOp .Or (b :: rest) pos) tb) : JW T X E (.BoolOp .Or (a :: b :: rest) pos) (dOrT ta tb) := by
  refine pw_imp (pw_or ha hb) fun σ H Q ⟨R, F, l, S, r, e, h⟩ => ?_
  refine seqT (goB T X.K (E σ) Q) r e h fun k S1 R1 F1 H1 p ex r1 e1 h1 => ?_
  cases k with
  | false => exact ⟨R1, F1, l, S1, r1, e1, h1⟩
  | true => exact PostB.here r1 h1
theorem je_one {op} (h : JE T X E a da) : JE T X E (.BoolOp op [a] pos) da := pe_one h
theorem je_or (ha : JE T X E a da) (hb : JE T X E (.BoolOp .Or (b :: rest) pos) db) : JE T X E (.BoolOp .Or (a :: b :: rest) pos) (dOr da db) := by
  refine pe_imp (pe_orT ha hb) fun σ H Q ⟨R, F, l, S, r, e, h⟩ => ?_
  refine seqV (goV T X.K (E σ) Q) r e h fun x S1 R1 F1 H1 u p ex r1 rx e1 h1 => ?_
  have h1 : OkV T X.K R1 F1 ((truP x S1).bind fun k S2 => if k = true then .ok x S2 else db l S2) Q (E σ) := h1
  refine tru_rel (E := E σ) (Q := fun k H => if k = true then Q u H else tV T X.K E db σ H Q) r1 rx ?_
  cases ht : truP x S1 with
  | bad => rw [ht] at h1; exact h1.elim
  | err x' S3 => rw [ht] at h1; exact h1
  | ok k S2 =>
    rw [ht] at h1
    have := truP_same ht; subst this
    intro R2 F2 H2 p2 ex2 r2
    cases k with
    | true => exact PostV.here r2 (rx.mono p2 ex2) (OkV.mono p2 ex2 h1)
    | false => exact ⟨R2, F2, l, S2, r2, e1.mono p2 ex2, OkV.mono p2 ex2 h1⟩
theorem je_and (ha : JE T X E a da) (hb : JE T X E (.BoolOp .And (b :: rest) pos) db) : JE T X E (.BoolOp .And (a :: b :: rest) pos) (dAnd da db) := by
  refine pe_imp (pe_andT ha hb) fun σ H Q ⟨R, F, l, S, r, e, h⟩ => ?_
  refine seqV (goV T X.K (E σ) Q) r e h fun x S1 R1 F1 H1 u p ex r1 rx e1 h1 => ?_
  have h1 : OkV T X.K R1 F1 ((truP x S1).bind fun k S2 => if k = true then db l S2 else .ok x S2) Q (E σ) := h1
  refine tru_rel (E := E σ) (Q := fun k H => if k = true then tV T X.K E db σ H Q else Q u H) r1 rx ?_
  cases ht : truP x S1 with
  | bad => rw [ht] at h1; exact h1.elim
  | err x' S3 => rw [ht] at h1; exact h1
  | ok k S2 =>
    rw [ht] at h1
    have := truP_same ht; subst this
    intro R2 F2 H2 p2 ex2 r2
    cases k with
    | false => exact PostV.here r2 (rx.mono p2 ex2) (OkV.mono p2 ex2 h1)
    | true => exact ⟨R2, F2, l, S2, r2, e1.mono p2 ex2, OkV.mono p2 ex2 h1⟩
theorem je_not (ha : JE T X E a da) : JE T X E (.UnaryOp .Not a pos) (dNot da) := by
  refine pe_imp (pe_notT ha) fun σ H Q ⟨R, F, l, S, r, e, h⟩ => ?_
  refine seqV (goV T X.K (E σ) Q) r e h fun x S1 R1 F1 H1 u p ex r1 rx e1 h1 => ?_
  have h1 : OkV T X.K R1 F1 ((truP x S1).bind fun k S2 => .ok (.bl (!k)) S2) Q (E σ) := h1
  refine tru_rel (E := E σ) (Q := fun k H => Q (.bl (!k)) H) r1 rx ?_
  cases ht : truP x S1 with
  | bad => rw [ht] at h1; exact h1.elim
  | err x' S3 => rw [ht] at h1; exact h1
  | ok k S2 =>
    rw [ht] at h1
    intro R2 F2 H2 p2 ex2 r2
    exact PostV.here r2 (by rw [Rel]) (OkV.mono p2 ex2 h1)
theorem je_if (hc : JT T X E c ta) (ha : JE T X E a da) (hb : JE T X E b db) : JE T X E (.IfExp c a b pos) (dIf ta da db) := by
  refine pe_imp (pe_ifExp hc ha hb) fun σ H Q ⟨R, F, l, S, r, e, h⟩ => ?_
  refine seqT (goV T X.K (E σ) Q) r e h fun k S1 R1 F1 H1 p ex r1 e1 h1 => ?_
  cases k with
  | true => exact ⟨R1, F1, l, S1, r1, e1, h1⟩
  | false => exact ⟨R1, F1, l, S1, r1, e1, h1⟩
/-- a test's answer as a bool handed on: used where a test is a value -/
def dUn (f : PV → Sto → Out PV) (a : DE) : DE := fun l S => (a l S).bind fun x S1 => f x S1
def negP (x : PV) (S : Sto) : Out PV := match x with
  | .int i => .ok (.int (-i)) S
  | _ => .bad
theorem je_neg (ha : JE T X E a da) : JE T X E (.UnaryOp .USub a pos) (dUn negP da) := by
  refine pe_imp (pe_un un_neg ha) fun σ H Q ⟨R, F, l, S, r, e, h⟩ => ?_
  refine seqV (goV T X.K (E σ) Q) r e h fun x S1 R1 F1 H1 u p ex r1 rx e1 h1 => ?_
  cases x with
  | int i => exact ⟨i, rel_int rx, PostV.here r1 (by rw [Rel]) h1⟩
  | _ => exact h1.elim
end

/-! ### dicts as they are read -/
def flatKey : PV → Option Key
  | .int i => some (.inl i)
  | .str x => some (.inr x)
  | _ => none
def flatKeys : List PV → Option (List Key)
  | [] => some []
  | x :: xs => (flatKey x).bind fun k => (flatKeys xs).map fun ks => k :: ks
def keyOf : PV → Option PK
  | .int i => some (.k (.inl i))
  | .str x => some (.k (.inr x))
  | .nd .tup xs => (flatKeys xs).map .t
  | _ => none
/-- the key is of the dict's kind -/
def PK.fits : PK → Bool → Bool
  | .k _, false => true
  | .t _, true => true
  | _, _ => false
def dLook : List PK → List PV → PK → Option PV
  | k :: ks, x :: xs, q => if k = q then some x else dLook ks xs q
  | _, _, _ => none
section
variable {T : Tb} {X : Cx} {K : PySem.W.Frag} {R : Pl} {F H : Hp} {S : Sto} {E : XK}
theorem flatKey_rel {x : PV} {u : V} {k : Key} (rx : Rel T K R F x u) (h : flatKey x = some k) : u = kV k := by
  cases x with
  | int i => cases h; exact rel_int rx
  | str i => cases h; exact rel_str rx
  | _ => cases h
theorem flatKeys_rel : ∀ {xs : List PV} {us : List V} {ks : List Key}, RelL T K R F xs us → flatKeys xs = some ks → us = ks.map kV
  | [], us, ks, r, h => by cases h; rw [RelL] at r; exact r
  | x :: xs, us, ks, r, h => by
    rw [flatKeys, Option.bind_eq_some_iff] at h
    obtain ⟨k, h1, h2⟩ := h
    rw [Option.map_eq_some_iff] at h2
    obtain ⟨ks', h3, rfl⟩ := h2
    rw [RelL] at r
    obtain ⟨u, vs, rfl, r1, r2⟩ := r
    rw [flatKey_rel r1 h1, flatKeys_rel r2 h3]; rfl
theorem valV_cons {κ : Type} [DecidableEq κ] (p : κ × V) (r : List (κ × V)) (k : κ) : valV (p :: r) k = if p.1 = k then some p.2 else valV r k := by
  unfold valV
  rw [List.find?_cons]
  by_cases h : p.1 = k
  · rw [if_pos h, h]; simp
  · rw [if_neg h]; simp [h]
theorem dLook_k {q : Key} : ∀ {kk : List Key} {xs : List PV} {us : List V}, us.length = kk.length → RelL T K R F xs us →
    (∀ x, dLook (kk.map PK.k) xs (.k q) = some x → ∃ u, valV (kk.zip us) q = some u ∧ Rel T K R F x u) ∧ (dLook (kk.map PK.k) xs (.k q) = none → valV (kk.zip us) q = none)
  | [], xs, us, hl, r => by
    have : us = [] := List.length_eq_zero_iff.mp (by simpa using hl)
    subst this
    refine ⟨fun x h => ?_, fun _ => rfl⟩
    cases xs <;> simp [dLook] at h
  | k :: kk, xs, us, hl, r => by
    cases us with
    | nil => simp at hl
    | cons u us =>
      cases xs with
      | nil => rw [RelL] at r; cases r
      | cons x xs =>
        rw [RelL] at r
        obtain ⟨u', vs, e, r1, r2⟩ := r
        cases e
        have ih := dLook_k (q := q) (kk := kk) (xs := xs) (us := us) (by simpa using hl) r2
        rw [List.map_cons, List.zip_cons_cons, valV_cons]
        show (∀ y, (if (PK.k k) = PK.k q then some x else dLook (kk.map PK.k) xs (.k q)) = some y → _) ∧ ((if (PK.k k) = PK.k q then some x else dLook (kk.map PK.k) xs (.k q)) = none → _)
        by_cases h : k = q
        · subst h
          simp only [if_true]
          exact ⟨fun y hy => by cases hy; exact ⟨u, rfl, r1⟩, fun z => by cases z⟩
        · have h' : ¬ (PK.k k = PK.k q) := fun z => h (by injection z)
          rw [if_neg h', if_neg h]
          exact ih
theorem dLook_t {q : List Key} : ∀ {kk : List (List Key)} {xs : List PV} {us : List V}, us.length = kk.length → RelL T K R F xs us →
    (∀ x, dLook (kk.map PK.t) xs (.t q) = some x → ∃ u, valV (kk.zip us) q = some u ∧ Rel T K R F x u) ∧ (dLook (kk.map PK.t) xs (.t q) = none → valV (kk.zip us) q = none)
  | [], xs, us, hl, r => by
    have : us = [] := List.length_eq_zero_iff.mp (by simpa using hl)
    subst this
    refine ⟨fun x h => ?_, fun _ => rfl⟩
    cases xs <;> simp [dLook] at h
  | k :: kk, xs, us, hl, r => by
    cases us with
    | nil => simp at hl
    | cons u us =>
      cases xs with
      | nil => rw [RelL] at r; cases r
      | cons x xs =>
        rw [RelL] at r
        obtain ⟨u', vs, e, r1, r2⟩ := r
        cases e
        have ih := dLook_t (q := q) (kk := kk) (xs := xs) (us := us) (by simpa using hl) r2
        rw [List.map_cons, List.zip_cons_cons, valV_cons]
        show (∀ y, (if (PK.t k) = PK.t q then some x else dLook (kk.map PK.t) xs (.t q)) = some y → _) ∧ ((if (PK.t k) = PK.t q then some x else dLook (kk.map PK.t) xs (.t q)) = none → _)
        by_cases h : k = q
        · subst h
          simp only [if_true]
          exact ⟨fun y hy => by cases hy; exact ⟨u, rfl, r1⟩, fun z => by cases z⟩
        · have h' : ¬ (PK.t k = PK.t q) := fun z => h (by injection z)
          rw [if_neg h', if_neg h]
          exact ih
/-- what a dict holds at a key -/
theorem dict_get (r : Rep T K R F S H) {d k : PV} {u w : V} (rd : Rel T K R F d u) (rk : Rel T K R F k w) {t : Bool} {ks : List PK} {xs : List PV} {q : PK} (hv : view d S = some (.dct t ks, xs)) (hk : keyOf k = some q) (hf : q.fits t = true) :
    ∃ a o, u = .ref a ∧ DGet H a w o ∧ (∀ x, dLook ks xs q = some x → ∃ v, o = some v ∧ Rel T K R F x v) ∧ (dLook ks xs q = none → o = none) := by
  obtain ⟨a, us, rfl, hs, hl⟩ := view_rel r rd hv
  cases t with
  | false =>
    obtain ⟨h0, kk, rfl, h2⟩ := hs
    cases q with
    | t _ => exact absurd hf Bool.false_ne_true
    | k q =>
      have ew : w = kV q := by
        cases k with
        | int i => cases hk; exact rel_int rk
        | str i => cases hk; exact rel_str rk
        | nd kd ys => cases kd <;> simp [keyOf] at hk
        | _ => cases hk
      subst ew
      have hd := dLook_k (q := q) (by rw [h0, List.length_map]) hl
      refine ⟨a, valV (kk.zip us) q, rfl, .inl ⟨_, q, h2, rfl, rfl⟩, fun x hx => hd.1 x hx, hd.2⟩
  | true =>
    obtain ⟨h0, kk, rfl, h2⟩ := hs
    cases q with
    | k _ => exact absurd hf Bool.false_ne_true
    | t q =>
      cases k with
      | nd kd ys =>
        cases kd with
        | tup =>
          rw [keyOf, Option.map_eq_some_iff] at hk
          obtain ⟨q', hq, e⟩ := hk
          cases e
          rw [Rel] at rk
          obtain ⟨b, ws, rfl, hb, hbl⟩ := rk
          have eb := flatKeys_rel hbl hq
          subst eb
          have hd := dLook_t (q := q) (by rw [h0, List.length_map]) hl
          exact ⟨a, valV (kk.zip us) q, rfl, .inr ⟨_, q, b, h2, rfl, r.ex.at_ hb, rfl⟩, fun x hx => hd.1 x hx, hd.2⟩
        | _ => simp [keyOf] at hk
      | _ => cases hk
end

/-! ### subscripts -/
def subZ (x y : PV) (S : Sto) : Out PV := match x with
  | .str z => (match y with
    | .int i => if z.length ≤ 16777216 then (match atI z.cps.toList i with
      | some c => .ok (.str ⟨#[c]⟩) S
      | none => .bad) else .bad
    | _ => .bad)
  | x => match view x S with
    | some (.dct t ks, xs) => (match keyOf y with
      | some q => if q.fits t = true then (match dLook ks xs q with
        | some v => .ok v S
        | none => .bad) else .bad
      | none => .bad)
    | some (.lst, xs) => (match y with
      | .int i => (match atI xs i with
        | some v => .ok v S
        | none => .bad)
      | _ => .bad)
    | some (.scr, xs) => (match y with
      | .int i => (match atI xs i with
        | some v => .ok v S
        | none => .bad)
      | _ => .bad)
    | some (.tup, xs) => (match y with
      | .int i => (match atI xs i with
        | some v => .ok v S
        | none => .bad)
      | _ => .bad)
    | _ => .bad
def rIxG : R2 := fun x y H Q => ∃ a v, x = .ref a ∧ DGet H a y (some v) ∧ Q v H
section
variable {T : Tb} {X : Cx} {K : PySem.W.Frag} {R : Pl} {F H : Hp} {S : Sto} {E : XS} {a b : Expr} {da db : DE} {pos : Pos}
theorem ix_dct (hu : X.A.units + 1 < cLine) : IxR X rIxG := by
  intro value slice pins s σ H x y v u Q I rx ry h hs
  obtain ⟨a, z, rfl, g, q⟩ := h
  obtain rfl : v = Value.ref a := rx
  exact PyProof.Rows.tail_any (dict_typeIs I g) PySem.F.slot_dict_getitem.lookup (d_getItem hu I g ry fun w' s3 I3 rw' => ⟨z, H, I3, rw', q⟩) hs
theorem atI_rel {xs : List PV} {us : List V} {i : Int} {x : PV} (h : RelL T K R F xs us) (e : atI xs i = some x) : ∃ u, atI us i = some u ∧ Rel T K R F x u := by
  unfold atI at e ⊢
  rw [h.length]
  rw [Option.bind_eq_some_iff] at e
  obtain ⟨j, h1, h2⟩ := e
  obtain ⟨u, h3, h4⟩ := h.get h2
  exact ⟨u, by rw [h1]; exact h3, h4⟩
abbrev rSubZ (K : PySem.W.Frag) : R2 := fun x y H Q => rIx K x y H Q ∨ rIxG x y H Q
theorem oz_sub' : OpZ T K subZ (rSubZ K) := by
  intro E R F H S x y u w Q r rx ry h
  cases x with
  | str z =>
    have := rel_str rx; subst this
    cases y with
    | int i =>
      have := rel_int ry; subst this
      simp only [subZ] at h
      split at h
      · rename_i hz
        split at h
        · rename_i c hc
          exact .inl (.inr (.inr ⟨z, i, c, rfl, rfl, sz16 hz, hc, PostV.here r (by rw [Rel]) h⟩))
        · exact h.elim
      · exact h.elim
    | _ => exact h.elim
  | _ =>
    all_goals
      simp only [subZ] at h
      split at h
      · rename_i t ks xs hv
        split at h
        · rename_i q hk
          split at h
          · rename_i hf
            split at h
            · rename_i v hd
              obtain ⟨a, o, ea, hg, h1, h2⟩ := dict_get r rx ry hv hk hf
              obtain ⟨v', eo, rv⟩ := h1 v hd
              subst eo
              exact .inr ⟨a, v', ea, hg, PostV.here r rv h⟩
            · exact h.elim
          · exact h.elim
        · exact h.elim
      · rename_i xs hv
        obtain ⟨a, us, ea, hs, hl⟩ := view_rel r rx hv
        cases y with
        | int i =>
          have := rel_int ry; subst this
          simp only at h
          split at h
          · rename_i v hi
            obtain ⟨v', h1, rv⟩ := atI_rel hl hi
            exact .inl (.inl ⟨a, us, i, v', ea, rfl, (shp_rd hs).1 (.inl rfl), h1, PostV.here r rv h⟩)
          · exact h.elim
        | _ => exact h.elim
      · rename_i xs hv
        obtain ⟨a, us, ea, hs, hl⟩ := view_rel r rx hv
        cases y with
        | int i =>
          have := rel_int ry; subst this
          simp only at h
          split at h
          · rename_i v hi
            obtain ⟨v', h1, rv⟩ := atI_rel hl hi
            exact .inl (.inl ⟨a, us, i, v', ea, rfl, (shp_rd hs).1 (.inr rfl), h1, PostV.here r rv h⟩)
          · exact h.elim
        | _ => exact h.elim
      · rename_i xs hv
        obtain ⟨a, us, ea, hs, hl⟩ := view_rel r rx hv
        cases y with
        | int i =>
          have := rel_int ry; subst this
          simp only at h
          split at h
          · rename_i v hi
            obtain ⟨v', h1, rv⟩ := atI_rel hl hi
            exact .inl (.inr (.inl ⟨a, us, i, v', ea, rfl, (shp_rd hs).2 rfl, h1, PostV.here r rv h⟩))
          · exact h.elim
        | _ => exact h.elim
      · exact h.elim
theorem je_sub (hu : X.A.units + 1 < cLine) (ha : JE T X E a da) (hb : JE T X E b db) (hs : PlainIx b := by intro _ _; rfl) : JE T X E (.Subscript a b pos) (dBin subZ da db) :=
  pe_imp (pe_ix (IxR.or ix_seq (ix_dct hu)) ha hb hs) fun _ _ _ h => bin_tOp oz_sub' h

/-! ### slices -/
abbrev DO := Loc → Sto → Out (Option Int)
def dNone : DO := fun _ S => .ok none S
def asI (o : Out PV) : Out (Option Int) := o.bind fun x S => match x with
  | .int i => .ok (some i) S
  | _ => .bad
def dSome (a : DE) : DO := fun l S => asI (a l S)
def cutP (xs : List PV) (lo hi : Option Int) : List PV := (xs.drop (HT.sIx xs.length 0 lo)).take (HT.sIx xs.length xs.length hi - HT.sIx xs.length 0 lo)
def sliZ (x : PV) (lo hi : Option Int) (S : Sto) : Out PV := match x with
  | .str z => if z.length ≤ 16777216 then .ok (.str (cutS z lo hi)) S else .bad
  | x => match view x S with
    | some (.lst, xs) => .ok (.nd .lst (cutP xs lo hi)) S
    | some (.scr, xs) => .ok (.nd .lst (cutP xs lo hi)) S
    | some (.tup, xs) => .ok (.nd .tup (cutP xs lo hi)) S
    | _ => .bad
def dSli (a : DE) (lo hi : DO) : DE := fun l S => (a l S).bind fun x S1 => (lo l S1).bind fun p S2 => (hi l S2).bind fun q S3 => sliZ x p q S3
def PostO (T : Tb) (K : PySem.W.Frag) (R : Pl) (F : Hp) (o : Out (Option Int)) (Q : Option Int → Hp → Prop) (E : XK) : Prop := match o with
  | .ok v S => ∀ R' F' H, Pl.le R R' → Ex F F' → Rep T K R' F' S H → Q v H
  | .err e S => PostX T K R F e S E
  | .bad => False
def tO (T : Tb) (K : PySem.W.Frag) (E : XS) (d : DO) : TO := fun σ H Q => ∃ R F l S, Rep T K R F S H ∧ RelE T K R F l σ ∧ PostO T K R F (d l S) Q (E σ)
abbrev JO (T : Tb) (X : Cx) (E : XS) (e : Option Expr) (d : DO) : Prop := PO X e (tO T X.K E d)
theorem jo_none : JO T X E none dNone := ⟨fun pins s σ H Q I ⟨R, F, l, S, r, e, h⟩ => po_none.run pins s σ H Q I (h R F H (Pl.refl R) (Ex.refl F) r)⟩
theorem jo_some {e : Expr} {d : DE} (he : JE T X E e d) : JO T X E (some e) (dSome d) := by
  refine ⟨fun pins s σ H Q I ⟨R, F, l, S, r, e, h⟩ => (po_some he).run pins s σ H Q I ⟨R, F, l, S, r, e, ?_⟩⟩
  have h : PostO T X.K R F (asI (d l S)) Q (E σ) := h
  cases hd : d l S with
  | ok x S1 =>
    rw [hd] at h
    intro R1 F1 H1 u p ex r1 rx
    cases x with
    | int i => exact ⟨i, rel_int rx, h R1 F1 H1 p ex r1⟩
    | _ => exact h.elim
  | err e' S1 => rw [hd] at h; exact h
  | bad => rw [hd] at h; exact h
theorem seqO {β : Type} {σ : L2.St} {l : Loc} (G : Go T K (E σ) β) {d : DO} {k : Option Int → Sto → Out β} {C : Option Int → Hp → Prop} (r : Rep T K R F S H) (e : RelE T K R F l σ) (h : G.ok R F ((d l S).bind k))
    (hk : ∀ (x : Option Int) (S1 : Sto) (R1 : Pl) (F1 H1 : Hp), Pl.le R R1 → Ex F F1 → Rep T K R1 F1 S1 H1 → RelE T K R1 F1 l σ → G.ok R1 F1 (k x S1) → C x H1) : tO T K E d σ H C := by
  refine ⟨R, F, l, S, r, e, ?_⟩
  cases hd : d l S with
  | ok x S1 =>
    rw [hd] at h
    exact fun R1 F1 H1 p x' r1 => hk x S1 R1 F1 H1 p x' r1 (e.mono p x') (G.mono p x' h)
  | err e' S1 => rw [hd] at h; exact G.err h
  | bad => rw [hd] at h; exact G.bad h
theorem cut_rel {xs : List PV} {us : List V} (h : RelL T K R F xs us) (lo hi : Option Int) : RelL T K R F (cutP xs lo hi) (cutV us lo hi) := by
  unfold cutP cutV
  rw [h.length]
  exact (h.drop _).take _
theorem cut_all {us : List V} {lo hi : Option Int} (h : HT.sIx us.length 0 lo = 0 ∧ HT.sIx us.length us.length hi = us.length) {xs : List PV} (e : us.length = xs.length) : cutP xs lo hi = xs := by
  unfold cutP
  rw [← e, h.1, h.2]
  simp [e]
theorem je_sli {o : Expr} {lo hi : Option Expr} {d : DE} {dl dh : DO} {p2 : Pos} (ho : JE T X E o d) (hl : JO T X E lo dl) (hh : JO T X E hi dh) : JE T X E (.Subscript o (.Slice lo hi none p2) pos) (dSli d dl dh) := by
  refine pe_imp (pe_slice (SlR.or sl_list (SlR.or sl_tupA sl_str)) ho hl hh) fun σ H Q ⟨R, F, l, S, r, e, h⟩ => ?_
  refine seqV (goV T X.K (E σ) Q) r e h fun x S1 R1 F1 H1 u p ex r1 rx e1 h1 => ?_
  refine seqO (goV T X.K (E σ) Q) r1 e1 h1 fun i S2 R2 F2 H2 p2 ex2 r2 e2 h2 => ?_
  refine seqO (goV T X.K (E σ) Q) r2 e2 h2 fun j S3 R3 F3 H3 p3 ex3 r3 e3 h3 => ?_
  have rx := (rx.mono p2 ex2).mono p3 ex3
  have h3 : OkV T X.K R3 F3 (sliZ x i j S3) Q (E σ) := h3
  cases x with
  | str z =>
    have := rel_str rx; subst this
    simp only [sliZ] at h3
    split at h3
    · rename_i hz
      exact .inr (.inr ⟨z, rfl, sz16 hz, PostV.here r3 (by rw [Rel]) h3⟩)
    · exact h3.elim
  | _ =>
    all_goals
      simp only [sliZ] at h3
      split at h3
      · rename_i xs hv
        obtain ⟨a, us, ea, hs, hl⟩ := view_rel r3 rx hv
        exact .inl ⟨a, us, ea, (shp_rd hs).1 (.inl rfl), fun p hp => PostV.new (k := .lst) r3 hp upd_same (cut_rel hl _ _) h3⟩
      · rename_i xs hv
        obtain ⟨a, us, ea, hs, hl⟩ := view_rel r3 rx hv
        exact .inl ⟨a, us, ea, (shp_rd hs).1 (.inr rfl), fun p hp => PostV.new (k := .lst) r3 hp upd_same (cut_rel hl _ _) h3⟩
      · rename_i xs hv
        obtain ⟨a, us, ea, hs, hl⟩ := view_rel r3 rx hv
        refine .inr (.inl ⟨a, us, ea, (shp_rd hs).2 rfl, fun hw => ?_, fun _ p hp => PostV.new (k := .tup) r3 hp upd_same (cut_rel hl _ _) h3⟩)
        rw [cut_all hw hl.length] at h3
        have ex := tup_nd r3 rx hv
        rw [ex] at rx
        rw [← ea]
        exact PostV.here r3 rx h3
      · exact h3.elim
end
end Z
end
section
set_option Elab.async false
set_option linter.all false
set_option maxRecDepth 100000
set_option maxHeartbeats 1000000
/-! Z6: calls of built-ins. -/
namespace Z
open PySem PySem.Spec PyProof.Rows L2

/-- what a derivation may lean on at a place of a def -/
structure Cg (X : Cx) (E : XS) (k : Nat) : Prop where
  calm : X.calm = true
  nd : X.N.Nodup
  room : Room k X.A
  gd : X.A.guards = some []
  takes : Takes X (fun cls d σ H => E σ cls d H)
  own : PassesOwn (model X.prog X.w) X.A X.env X.xe
theorem Cg.pass {X : Cx} {E : XS} {k : Nat} (c : Cg X E k) (pins : List (Addr × Obj)) (σ : L2.St) (H : Hp) (s : Shared) (e : Value) (s' : Shared) (I : Inv X pins σ H s) (q : L2.CX X.prog X.w X.stack H s (E σ) e s') : X.xe e s' :=
  c.takes e s' (XE.of_call I (fun _ _ _ h => h) q)
theorem Cg.hu {X : Cx} {E : XS} {k : Nat} (c : Cg X E k) : X.A.units + 64 < cLine := c.room.units
theorem Cg.hu1 {X : Cx} {E : XS} {k : Nat} (c : Cg X E k) : X.A.units + 1 < cLine := by have := c.hu; omega

/-- a built-in's answer by values, and the layer's reading of it -/
def CalZ (T : Tb) (K : PySem.W.Frag) (f : List PV → Sto → Out PV) (r : List V → Hp → VK → Prop) : Prop := ∀ (E : XK) (R : Pl) (F H : Hp) (S : Sto) (xs : List PV) (us : List V) (Q : VK), Rep T K R F S H → RelL T K R F xs us → OkV T K R F (f xs S) Q E → r us H Q
def dApp (f : List PV → Sto → Out PV) (ar : DA) : DE := fun l S => (ar l S).bind fun xs S1 => f xs S1
section
variable {T : Tb} {X : Cx} {E : XS} {e : Expr} {es : List Expr} {ar : DA} {p pos : Pos} {f : List PV → Sto → Out PV} {r : List V → Hp → VK → Prop} {x : Str}
theorem app_tCB (hz : CalZ T X.K f r) {σ : L2.St} {H : Hp} {Q : VK} (h : tV T X.K E (dApp f ar) σ H Q) : tCB r (tL T X.K E ar) σ H Q := by
  obtain ⟨R, F, l, S, re, e, h⟩ := h
  exact seqL (goV T X.K (E σ) Q) re e h fun xs S1 R1 F1 H1 us p ex r1 rx e1 h1 => hz (E σ) R1 F1 H1 S1 xs us Q r1 rx h1
theorem je_callB {id : String} (hc : CallR X (.builtin id) r) (hz : CalZ T X.K f r) (hm : X.mg x = none) (ha : JA T X E (e :: es) ar) (hg : Gl X x := by rfl) (hv : bootBuiltins x = some (.builtin id) := by rfl) (hn : x ≠ "__name__" := by decide) (hdb : (x == ("__debug__" : Str)) = false := by decide)
    (he : starEach (e :: es) X.env = (false, eval e X.env) :: starEach es X.env := by rfl) (hpl : (backTo pos (starEach es X.env)).any (·.1) = false := by rfl) : JE T X E (.Call (.Name x p) (e :: es) [] pos) (dApp f ar) :=
  pe_imp (pe_callB hc hg hm hv ha hn hdb he hpl) fun _ _ _ h => app_tCB hz h
theorem je_callT {n : String} (hc : CallR X (.type n) r) (hz : CalZ T X.K f r) (hm : X.mg x = none) (ha : JA T X E (e :: es) ar) (hg : Gl X x := by rfl) (hv : bootBuiltins x = some (.type n) := by rfl) (hn : x ≠ "__name__" := by decide) (hdb : (x == ("__debug__" : Str)) = false := by decide)
    (he : starEach (e :: es) X.env = (false, eval e X.env) :: starEach es X.env := by rfl) (hpl : (backTo pos (starEach es X.env)).any (·.1) = false := by rfl) : JE T X E (.Call (.Name x p) (e :: es) [] pos) (dApp f ar) :=
  pe_imp (pe_callTy hc hg hm hv ha hn hdb he hpl) fun _ _ _ h => app_tCB hz h
end
section
variable {T : Tb} {K : PySem.W.Frag} {R : Pl} {F H : Hp} {S : Sto}
theorem rel1 {x : PV} {us : List V} (h : RelL T K R F [x] us) : ∃ u, us = [u] ∧ Rel T K R F x u := by
  rw [RelL] at h
  obtain ⟨u, r, rfl, h1, h2⟩ := h
  rw [RelL] at h2
  subst h2
  exact ⟨u, rfl, h1⟩
theorem rel2 {x y : PV} {us : List V} (h : RelL T K R F [x, y] us) : ∃ u w, us = [u, w] ∧ Rel T K R F x u ∧ Rel T K R F y w := by
  rw [RelL] at h
  obtain ⟨u, r, rfl, h1, h2⟩ := h
  obtain ⟨w, rfl, h3⟩ := rel1 h2
  exact ⟨u, w, rfl, h1, h3⟩
end

/-! ### len -/
def lenP (xs : List PV) (S : Sto) : Out PV := match xs with
  | [.str z] => if z.length ≤ 16777216 then .ok (.int z.length) S else .bad
  | [x] => (match view x S with
    | some (.lst, ys) => .ok (.int ys.length) S
    | some (.scr, ys) => .ok (.int ys.length) S
    | some (.tup, ys) => .ok (.int ys.length) S
    | some (.dct _ ks, _) => .ok (.int ks.length) S
    | _ => .bad)
  | _ => .bad
def rLenRK : List V → Hp → VK → Prop := fun xs H Q => ∃ (a : Addr) (kvs : List (Key × V)), xs = [V.ref a] ∧ Rd H a (.dK kvs) ∧ Q (.int ((kvs.length : Nat) : Int)) H
def rLenRT : List V → Hp → VK → Prop := fun xs H Q => ∃ (a : Addr) (kvs : List (List Key × V)), xs = [V.ref a] ∧ Rd H a (.dT kvs) ∧ Q (.int ((kvs.length : Nat) : Int)) H
theorem call_lenRK {X : Cx} : CallR X (.builtin "len") rLenRK := by
  rintro pins s σ H xs us Q I r ⟨a, kvs, rfl, ha, q⟩
  cases r with
  | cons rx rr =>
    cases rr
    cases rx
    exact d_len I ha fun t s' I' => ⟨.int ((kvs.length : Nat) : Int), H, I', ⟨t, rfl⟩, q⟩
theorem call_lenRT {X : Cx} : CallR X (.builtin "len") rLenRT := by
  rintro pins s σ H xs us Q I r ⟨a, kvs, rfl, ha, q⟩
  cases r with
  | cons rx rr =>
    cases rr
    cases rx
    obtain ⟨z, hd, ys, rel, dd⟩ := dt_rd I.hok ha
    have e := Paired.length rel
    have hz : (ys.length : Int) < 2 ^ 63 := by
      rw [sizeLine_eq, e] at z
      omega
    refine call_len_dictH hd dd hz ⟨.int ((kvs.length : Nat) : Int), H, I.tok _, ⟨s.toks + 1, ?_⟩, q⟩
    rw [e]
abbrev rLenZ (K : PySem.W.Frag) : List V → Hp → VK → Prop := fun xs H Q => (∃ x n, xs = [x] ∧ LenV K x H n ∧ Q (.int n) H) ∨ (rLenRK xs H Q ∨ rLenRT xs H Q)
theorem cr_len {X : Cx} : CallR X (.builtin "len") (rLenZ X.K) := CallR.or call_len (CallR.or call_lenRK call_lenRT)
section
variable {T : Tb} {K : PySem.W.Frag}
theorem cz_len : CalZ T K lenP (rLenZ K) := by
  intro E R F H S xs us Q r rx h
  unfold lenP at h
  split at h
  · obtain ⟨u, rfl, r1⟩ := rel1 rx
    have := rel_str r1; subst this
    split at h
    · rename_i hz
      exact .inl ⟨_, _, rfl, ⟨sz16 hz, rfl⟩, PostV.here r (by rw [Rel]) h⟩
    · exact h.elim
  · obtain ⟨u, rfl, r1⟩ := rel1 rx
    split at h
    · rename_i ys hv
      obtain ⟨a, us, rfl, hs, hl⟩ := view_rel r r1 hv
      exact .inl ⟨_, ys.length, rfl, .inl ⟨us, (shp_rd hs).1 (.inl rfl), hl.length.symm⟩, PostV.here r (by rw [Rel]) h⟩
    · rename_i ys hv
      obtain ⟨a, us, rfl, hs, hl⟩ := view_rel r r1 hv
      exact .inl ⟨_, ys.length, rfl, .inl ⟨us, (shp_rd hs).1 (.inr rfl), hl.length.symm⟩, PostV.here r (by rw [Rel]) h⟩
    · rename_i ys hv
      obtain ⟨a, us, rfl, hs, hl⟩ := view_rel r r1 hv
      exact .inl ⟨_, ys.length, rfl, .inr ⟨us, (shp_rd hs).2 rfl, hl.length.symm⟩, PostV.here r (by rw [Rel]) h⟩
    · rename_i t ks ys hv
      obtain ⟨a, us, rfl, hs, hl⟩ := view_rel r r1 hv
      cases t with
      | false =>
        obtain ⟨h0, kk, rfl, h2⟩ := hs
        rw [List.length_map] at h0
        refine .inr (.inl ⟨a, _, rfl, h2, PostV.here r (v := .int (kk.map PK.k).length) ?_ h⟩)
        rw [Rel, List.length_zip, h0, List.length_map, Nat.min_self]
      | true =>
        obtain ⟨h0, kk, rfl, h2⟩ := hs
        rw [List.length_map] at h0
        refine .inr (.inr ⟨a, _, rfl, h2, PostV.here r (v := .int (kk.map PK.t).length) ?_ h⟩)
        rw [Rel, List.length_zip, h0, List.length_map, Nat.min_self]
    · exact h.elim
  · exact h.elim

/-! ### int, abs, bool -/
def intP (xs : List PV) (S : Sto) : Out PV := match xs with
  | [.int i] => .ok (.int i) S
  | [.bl b] => .ok (.int (if b then 1 else 0)) S
  | _ => .bad
theorem cz_int : CalZ T K intP (fun xs H Q => (∃ i, xs = [.int i] ∧ Q (.int i) H) ∨ ∃ k, xs = [.bl k] ∧ Q (.int (if k then 1 else 0)) H) := by
  intro E R F H S xs us Q r rx h
  unfold intP at h
  split at h
  · obtain ⟨u, rfl, r1⟩ := rel1 rx
    have := rel_int r1; subst this
    exact .inl ⟨_, rfl, PostV.here r (by rw [Rel]) h⟩
  · obtain ⟨u, rfl, r1⟩ := rel1 rx
    have := rel_bl r1; subst this
    exact .inr ⟨_, rfl, PostV.here r (by rw [Rel]) h⟩
  · exact h.elim
def absP (xs : List PV) (S : Sto) : Out PV := match xs with
  | [.int i] => .ok (.int (if i < 0 then -i else i)) S
  | _ => .bad
theorem cz_abs : CalZ T K absP (fun xs H Q => ∃ i, xs = [.int i] ∧ Q (.int (if i < 0 then -i else i)) H) := by
  intro E R F H S xs us Q r rx h
  unfold absP at h
  split at h
  · obtain ⟨u, rfl, r1⟩ := rel1 rx
    have := rel_int r1; subst this
    exact ⟨_, rfl, PostV.here r (by rw [Rel]) h⟩
  · exact h.elim

/-! ### list, tuple -/
def listP (xs : List PV) (S : Sto) : Out PV := match xs with
  | [x] => (match view x S with
    | some (.lst, ys) => .ok (.nd .lst ys) S
    | some (.scr, ys) => .ok (.nd .lst ys) S
    | some (.tup, ys) => .ok (.nd .lst ys) S
    | _ => .bad)
  | _ => .bad
abbrev rListZ (K : PySem.W.Frag) : List V → Hp → VK → Prop := fun xs H Q => ∃ p ys, xs = [.ref p] ∧ (SqL K H p ys ∨ SqT K H p ys) ∧ ∀ l, H l = none → Q (.ref l) (upd H l (.lst ys))
theorem cz_list : CalZ T K listP (rListZ K) := by
  intro E R F H S xs us Q r rx h
  unfold listP at h
  split at h
  · obtain ⟨u, rfl, r1⟩ := rel1 rx
    split at h
    · rename_i ys hv
      obtain ⟨a, us, rfl, hs, hl⟩ := view_rel r r1 hv
      exact ⟨a, us, rfl, .inl ((shp_rd hs).1 (.inl rfl)), fun p hp => PostV.new (k := .lst) r hp upd_same hl h⟩
    · rename_i ys hv
      obtain ⟨a, us, rfl, hs, hl⟩ := view_rel r r1 hv
      exact ⟨a, us, rfl, .inl ((shp_rd hs).1 (.inr rfl)), fun p hp => PostV.new (k := .lst) r hp upd_same hl h⟩
    · rename_i ys hv
      obtain ⟨a, us, rfl, hs, hl⟩ := view_rel r r1 hv
      exact ⟨a, us, rfl, .inr ((shp_rd hs).2 rfl), fun p hp => PostV.new (k := .lst) r hp upd_same hl h⟩
    · exact h.elim
  · exact h.elim
def tupP (xs : List PV) (S : Sto) : Out PV := match xs with
  | [x] => (match view x S with
    | some (.lst, ys) => .ok (.nd .tup ys) S
    | some (.scr, ys) => .ok (.nd .tup ys) S
    | some (.tup, _) => .ok x S
    | _ => .bad)
  | _ => .bad
theorem cz_tup : CalZ T K tupP (fun xs H Q => ∃ p ys, xs = [.ref p] ∧ ((SqL K H p ys ∧ ∀ l, H l = none → Q (.ref l) (upd H l (.tup ys))) ∨ (SqT K H p ys ∧ Q (.ref p) H))) := by
  intro E R F H S xs us Q r rx h
  unfold tupP at h
  split at h
  · obtain ⟨u, rfl, r1⟩ := rel1 rx
    split at h
    · rename_i ys hv
      obtain ⟨a, us, rfl, hs, hl⟩ := view_rel r r1 hv
      exact ⟨a, us, rfl, .inl ⟨(shp_rd hs).1 (.inl rfl), fun p hp => PostV.new (k := .tup) r hp upd_same hl h⟩⟩
    · rename_i ys hv
      obtain ⟨a, us, rfl, hs, hl⟩ := view_rel r r1 hv
      exact ⟨a, us, rfl, .inl ⟨(shp_rd hs).1 (.inr rfl), fun p hp => PostV.new (k := .tup) r hp upd_same hl h⟩⟩
    · rename_i ys hv
      obtain ⟨a, us, rfl, hs, hl⟩ := view_rel r r1 hv
      exact ⟨a, us, rfl, .inr ⟨(shp_rd hs).2 rfl, PostV.here r r1 h⟩⟩
    · exact h.elim
  · exact h.elim

/-! ### sum, any, all -/
def asIs : List PV → Option (List Int)
  | [] => some []
  | .int i :: xs => (asIs xs).map fun r => i :: r
  | _ :: _ => none
def asBs : List PV → Option (List Bool)
  | [] => some []
  | .bl i :: xs => (asBs xs).map fun r => i :: r
  | _ :: _ => none
theorem asIs_map (ns : List Int) : asIs (ns.map PV.int) = some ns := by
  induction ns with
  | nil => rfl
  | cons n ns ih => rw [List.map_cons, asIs, ih]; rfl
theorem asBs_map (ns : List Bool) : asBs (ns.map PV.bl) = some ns := by
  induction ns with
  | nil => rfl
  | cons n ns ih => rw [List.map_cons, asBs, ih]; rfl
theorem asIs_rel {R : Pl} {F : Hp} : ∀ {xs : List PV} {us : List V} {ns : List Int}, RelL T K R F xs us → asIs xs = some ns → us = ns.map V.int
  | [], us, ns, r, h => by cases h; rw [RelL] at r; exact r
  | x :: xs, us, ns, r, h => by
    rw [RelL] at r
    obtain ⟨u, vs, rfl, r1, r2⟩ := r
    cases x with
    | int i =>
      rw [asIs, Option.map_eq_some_iff] at h
      obtain ⟨ns', h1, rfl⟩ := h
      rw [rel_int r1, asIs_rel r2 h1]; rfl
    | _ => cases h
theorem asBs_rel {R : Pl} {F : Hp} : ∀ {xs : List PV} {us : List V} {ns : List Bool}, RelL T K R F xs us → asBs xs = some ns → us = ns.map V.bl
  | [], us, ns, r, h => by cases h; rw [RelL] at r; exact r
  | x :: xs, us, ns, r, h => by
    rw [RelL] at r
    obtain ⟨u, vs, rfl, r1, r2⟩ := r
    cases x with
    | bl i =>
      rw [asBs, Option.map_eq_some_iff] at h
      obtain ⟨ns', h1, rfl⟩ := h
      rw [rel_bl r1, asBs_rel r2 h1]; rfl
    | _ => cases h
/-- the items of a list -/
def lstOf (x : PV) (S : Sto) : Option (List PV) := match view x S with
  | some (.lst, ys) => some ys
  | some (.scr, ys) => some ys
  | _ => none
theorem lstOf_rel {R : Pl} {F H : Hp} {S : Sto} (r : Rep T K R F S H) {x : PV} {u : V} (h : Rel T K R F x u) {ys : List PV} (e : lstOf x S = some ys) : ∃ a us, u = .ref a ∧ SqL K H a us ∧ RelL T K R F ys us := by
  unfold lstOf at e
  split at e
  · rename_i zs hv
    cases e
    obtain ⟨a, us, rfl, hs, hl⟩ := view_rel r h hv
    exact ⟨a, us, rfl, (shp_rd hs).1 (.inl rfl), hl⟩
  · rename_i zs hv
    cases e
    obtain ⟨a, us, rfl, hs, hl⟩ := view_rel r h hv
    exact ⟨a, us, rfl, (shp_rd hs).1 (.inr rfl), hl⟩
  · cases e
def sumP (xs : List PV) (S : Sto) : Out PV := match xs with
  | [x] => (match (lstOf x S).bind asIs with
    | some ns => .ok (.int ns.sum) S
    | none => .bad)
  | _ => .bad
def allP (xs : List PV) (S : Sto) : Out PV := match xs with
  | [x] => (match (lstOf x S).bind asBs with
    | some bs => .ok (.bl (bs.all id)) S
    | none => .bad)
  | _ => .bad
theorem cz_sum : CalZ T K sumP (rSum K) := by
  intro E R F H S xs us Q r rx h
  unfold sumP at h
  split at h
  · obtain ⟨u, rfl, r1⟩ := rel1 rx
    split at h
    · rename_i ns hv
      rw [Option.bind_eq_some_iff] at hv
      obtain ⟨ys, h1, h2⟩ := hv
      obtain ⟨a, us, rfl, hs, hl⟩ := lstOf_rel r r1 h1
      have := asIs_rel hl h2; subst this
      exact ⟨a, ns, rfl, hs, PostV.here r (by rw [Rel]) h⟩
    · exact h.elim
  · exact h.elim
theorem cz_all : CalZ T K allP (rAll K) := by
  intro E R F H S xs us Q r rx h
  unfold allP at h
  split at h
  · obtain ⟨u, rfl, r1⟩ := rel1 rx
    split at h
    · rename_i ns hv
      rw [Option.bind_eq_some_iff] at hv
      obtain ⟨ys, h1, h2⟩ := hv
      obtain ⟨a, us, rfl, hs, hl⟩ := lstOf_rel r r1 h1
      have := asBs_rel hl h2; subst this
      exact ⟨a, ns, rfl, hs, PostV.here r (by rw [Rel]) h⟩
    · exact h.elim
  · exact h.elim
end

/-! ### repr of data -/

/-! ### isinstance by built-in types -/
inductive TyR (K : PySem.W.Frag) (H : Hp) : V → Value → Prop where
  | base {x : V} {t : Value} (h : TyX K H x t) : TyR K H x t
  | rT {a : Addr} {kvs : List (List Key × V)} (h : Rd H a (.dT kvs)) : TyR K H (.ref a) (.type "dict")
  | exn {a C : Addr} {d : Option Addr} (h : H a = some (EXV C d a)) (hd : d = none ∨ ∃ dd fs, d = some dd ∧ H dd = some (.xd fs)) (O : ExcC K C) : TyR K H (.ref a) (.ref C)
theorem exv_inst {X : Cx} {pins : List (Addr × Obj)} {σ : L2.St} {H : Hp} {s : Shared} {a C : Addr} {d : Option Addr} (I : Inv X pins σ H s) (h : H a = some (EXV C d a)) (hd : d = none ∨ ∃ dd fs, d = some dd ∧ H dd = some (.xd fs)) :
    ∃ oe od, PySem.W.InstAt s.heap a oe C od := by
  have q : ObjOk X.prog X.w H s.heap a (.ext fun h => ∃ (oe : Obj) (vs : Array Value), h.get? a = some oe ∧ Zc (.ref C) d oe ∧ oe.data = .fields vs) := I.hok a _ h
  obtain ⟨⟨oe, vs, e1, e2, e3⟩, _, _⟩ := q
  have nc : PySem.W.notCls oe := by unfold PySem.W.notCls; rw [e3] <;> rfl
  rcases hd with rfl | ⟨dd, fs, rfl, hx⟩
  · exact ⟨oe, none, e1, e2.1, nc, by rw [e2.2]; trivial⟩
  · have hx' : ObjOk X.prog X.w H s.heap dd (.xd fs) := I.hok dd _ hx
    obtain ⟨mA, hns, _⟩ := hx'
    obtain ⟨od, ho, _⟩ := lookIn_ns hns
    exact ⟨oe, some od, e1, e2.1, nc, by rw [e2.2]; exact ho⟩
theorem kit_ofR {X : Cx} {pins : List (Addr × Obj)} {σ : L2.St} {H : Hp} {s : Shared} {x : V} {u t : Value} (I : Inv X pins σ H s) (rx : RelV x u) (ty : TyR X.K H x t) : ∃ P : Heap → Prop, PySem.W.KitX X.K u t P ∧ P s.heap ∧ u ≠ .builtin "__main__.__loader__#opaque" := by
  cases ty with
  | base h => exact kit_of I rx h
  | rT h =>
    cases rx
    obtain ⟨_, _, ys, _, dd⟩ := dt_rd I.hok h
    obtain ⟨o, ho, hc⟩ := dd.typeIs
    exact ⟨_, PySem.W.kitx_dict, ⟨o, ho, hc⟩, fun z => nomatch z⟩
  | @exn a C d h hd O =>
    cases rx
    obtain ⟨oe, od, J⟩ := exv_inst I h hd
    refine ⟨_, PySem.W.kitx_exc (x := a) (C := C) (ox := oe) (od := od) ?_ O.hg O.hk O.hs O.ha O.hn O.ht O.hm, J, fun z => nomatch z⟩
    obtain ⟨cd, hc, _⟩ := PySem.W.any_some O.hd
    rw [hc]; rfl
def rIsiZ (K : PySem.W.Frag) : List V → Hp → VK → Prop := fun xs H Q => ∃ (x c : V) (t u : Value) (b : Bool), xs = [x, c] ∧ ClsV c u ∧ TyR K H x t ∧ PySem.W.kitOne K t u = some b ∧ Q (.bl b) H
def rIsiTZ (K : PySem.W.Frag) : List V → Hp → VK → Prop := fun xs H Q => ∃ (x : V) (tp : Addr) (cs : List V) (t : Value) (us : List Value) (b : Bool), xs = [x, .ref tp] ∧ H tp = some (.tup cs) ∧ Paired ClsV cs us ∧ TyR K H x t ∧ PySem.W.kitAny K t us = some b ∧ Q (.bl b) H
theorem call_isiZ {X : Cx} : CallR X (.builtin "isinstance") (rIsiZ X.K) := by
  rintro pins s σ H xs us Q I r ⟨x, c, t, u, b, rfl, hc, ty, e, q⟩
  cases r with
  | cons rx rr =>
    cases rr with
    | cons rc rr =>
      cases rr
      have ec := hc.eq rc
      subst ec
      obtain ⟨P, Z, hP, hx⟩ := kit_ofR I rx ty
      exact PySem.W.kia_one Z I.kIn hP e hx fun tk => ⟨.bl b, H, I.tok tk, rfl, q⟩
theorem call_isiTZ {X : Cx} : CallR X (.builtin "isinstance") (rIsiTZ X.K) := by
  rintro pins s σ H xs us Q I r ⟨x, tp, cs, t, ws, b, rfl, hT, hc, ty, e, q⟩
  cases r with
  | cons rx rr =>
    cases rr with
    | cons rc rr =>
      cases rr
      cases rc
      obtain ⟨P, Z, hP, hx⟩ := kit_ofR I rx ty
      obtain ⟨_, its, rv, ⟨oc, od, dt, sl⟩, h1, h2, n, h3⟩ := I.hok tp _ hT
      have ew := ClsV.all hc rv
      subst ew
      dsimp only at h2 h3
      subst h2 h3
      exact PySem.W.kia_tup Z I.kIn hP h1 e hx fun tk => ⟨.bl b, H, I.tok tk, rfl, q⟩
def tyZ (x : PV) (S : Sto) : Option String := match x with
  | .non => some "NoneType"
  | .bl _ => some "bool"
  | .int _ => some "int"
  | .str _ => some "str"
  | x => match view x S with
    | some (.lst, _) => some "list"
    | some (.scr, _) => some "list"
    | some (.tup, _) => some "tuple"
    | some (.dct _ _, _) => some "dict"
    | _ => none
def kitAll (t : String) : List PV → Option Bool
  | [] => some false
  | .ty n :: r => (kitB t n).bind fun b => (kitAll t r).map fun c => b || c
  | _ => none
def isiP (xs : List PV) (S : Sto) : Out PV := match xs with
  | [x, .ty n] => (match (tyZ x S).bind fun t => kitB t n with
    | some b => .ok (.bl b) S
    | none => .bad)
  | [x, .nd .tup cs] => (match (tyZ x S).bind fun t => kitAll t cs with
    | some b => .ok (.bl b) S
    | none => .bad)
  | _ => .bad
section
variable {T : Tb} {K : PySem.W.Frag} {R : Pl} {F H : Hp} {S : Sto}
theorem sql_ty {a : Addr} {us : List V} (h : SqL K H a us) : TyR K H (.ref a) (.type "list") := by
  rcases h with (h | ⟨o, h⟩) | ⟨o, its, n, h1, h2, h3, _⟩
  · exact .base (.base (.lst h))
  · exact .base (.base (.frz h))
  · exact .base (.kList h1 h2)
theorem tyZ_rel (r : Rep T K R F S H) {x : PV} {u : V} (h : Rel T K R F x u) {t : String} (e : tyZ x S = some t) : TyR K H u (.type t) := by
  cases x with
  | non => cases e; rw [rel_non h]; exact .base (.base .non)
  | bl b => cases e; rw [rel_bl h]; exact .base (.base (.bl b))
  | int b => cases e; rw [rel_int h]; exact .base (.base (.int b))
  | str b => cases e; rw [rel_str h]; exact .base (.base (.str b))
  | _ =>
    all_goals
      simp only [tyZ] at e
      split at e
      · rename_i ys hv
        cases e
        obtain ⟨a, us, rfl, hs, hl⟩ := view_rel r h hv
        exact sql_ty ((shp_rd hs).1 (.inl rfl))
      · rename_i ys hv
        cases e
        obtain ⟨a, us, rfl, hs, hl⟩ := view_rel r h hv
        exact sql_ty ((shp_rd hs).1 (.inr rfl))
      · rename_i ys hv
        cases e
        obtain ⟨a, us, rfl, hs, hl⟩ := view_rel r h hv
        exact .base (.base (.tup hs))
      · rename_i tt ks ys hv
        cases e
        obtain ⟨a, us, rfl, hs, hl⟩ := view_rel r h hv
        cases tt with
        | false => obtain ⟨_, kk, _, h2⟩ := hs; rcases h2 with h2 | ⟨ob, h2⟩ <;> first | exact .base (.base (.dK h2)) | exact .base (.fDict h2)
        | true => obtain ⟨_, kk, _, h2⟩ := hs; exact .rT h2
      · cases e
theorem kitAll_rel {t : String} : ∀ {cs : List PV} {us : List V} {b : Bool}, RelL T K R F cs us → kitAll t cs = some b → ∃ ws : List Value, Paired ClsV us ws ∧ PySem.W.kitAny K (.type t) ws = some b
  | [], us, b, r, h => by
    cases h
    rw [RelL] at r
    subst r
    exact ⟨[], .nil, kitAny_nil⟩
  | c :: cs, us, b, r, h => by
    rw [RelL] at r
    obtain ⟨u, vs, rfl, r1, r2⟩ := r
    cases c with
    | ty n =>
      rw [kitAll, Option.bind_eq_some_iff] at h
      obtain ⟨b1, h1, h2⟩ := h
      rw [Option.map_eq_some_iff] at h2
      obtain ⟨b2, h3, h4⟩ := h2
      obtain ⟨ws, w1, w2⟩ := kitAll_rel r2 h3
      rw [rel_ty r1]
      refine ⟨.type n :: ws, .cons (.ty n) w1, kitAny_cons (kit_ty h1) (fun z => ?_) (fun z => ?_)⟩
      · rw [w2, ← h4, z]; rfl
      · rw [← h4, z]; rfl
    | _ => cases h
theorem cz_isi : CalZ T K isiP (fun xs H Q => rIsiZ K xs H Q ∨ rIsiTZ K xs H Q) := by
  intro E R F H S xs us Q r rx h
  unfold isiP at h
  split at h
  · obtain ⟨u, w, rfl, r1, r2⟩ := rel2 rx
    have := rel_ty r2; subst this
    split at h
    · rename_i b hb
      rw [Option.bind_eq_some_iff] at hb
      obtain ⟨t, h1, h2⟩ := hb
      exact .inl ⟨u, _, .type t, _, b, rfl, .ty _, tyZ_rel r r1 h1, kit_ty h2, PostV.here r (by rw [Rel]) h⟩
    · exact h.elim
  · obtain ⟨u, w, rfl, r1, r2⟩ := rel2 rx
    rw [Rel] at r2
    obtain ⟨a, us, rfl, hs, hl⟩ := r2
    split at h
    · rename_i b hb
      rw [Option.bind_eq_some_iff] at hb
      obtain ⟨t, h1, h2⟩ := hb
      obtain ⟨ws, w1, w2⟩ := kitAll_rel hl h2
      exact .inr ⟨u, a, us, .type t, ws, b, rfl, r.ex.at_ hs, w1, tyZ_rel r r1 h1, w2, PostV.here r (by rw [Rel]) h⟩
    · exact h.elim
  · exact h.elim
end
theorem cr_isi {X : Cx} : CallR X (.builtin "isinstance") (fun xs H Q => rIsiZ X.K xs H Q ∨ rIsiTZ X.K xs H Q) := CallR.or call_isiZ call_isiTZ
end Z
end
section
set_option Elab.async false
set_option linter.all false
set_option maxRecDepth 100000
set_option maxHeartbeats 1000000
/-! ZS: zip and enumerate over lists, tuples, texts in any mixture, as the layer's iterators. -/
namespace Z
open PySem PySem.Spec PyProof.Rows L2

theorem vals_right : ∀ {xs : List V} {us : List Value} {i : Nat} {u : Value}, Vals xs us → us[i]? = some u → ∃ x, xs[i]? = some x ∧ RelV x u
  | _, _, _, _, .nil, e => by simp at e
  | _, _, 0, _, .cons r _, e => ⟨_, rfl, by simp at e; rw [← e]; exact r⟩
  | _, _, i + 1, _, .cons _ t, e => by
    obtain ⟨x, h1, h2⟩ := vals_right (i := i) t (by simpa using e)
    exact ⟨x, by simpa using h1, h2⟩
/-- what is walked -/
inductive Sc where
  | l (a : Addr) | t (a : Addr) | s (z : Str)
def ScAt (K : PySem.W.Frag) (H : Hp) : Sc → List V → Prop
  | .l a, xs => SqL K H a xs
  | .t a, xs => SqT K H a xs
  | .s z, xs => xs = z.cps.toList.map fun c => V.str ⟨#[c]⟩
def ScIt (h : Heap) (it : Addr) : Sc → Nat → Prop
  | .l a, i => h.IsListIter it a i
  | .t a, i => h.IsTupleIter it a i
  | .s z, i => ∃ t, h.IsStrIter it (PySem.strIterType z) z t i
def ScBelow (n : Nat) : Sc → Prop
  | .l a => a < n
  | .t a => a < n
  | .s _ => True
theorem ScIt.obj {h : Heap} {it : Addr} {sc : Sc} {i : Nat} (q : ScIt h it sc i) : ∃ o, h.get? it = some o ∧ ∀ v, o.data ≠ .cell v := by
  cases sc with
  | l a => obtain ⟨o, e, _, d⟩ := q; exact ⟨o, e, fun v z => by rw [d] at z; cases z⟩
  | t a => obtain ⟨o, e, _, d⟩ := q; exact ⟨o, e, fun v z => by rw [d] at z; cases z⟩
  | s z => obtain ⟨t, o, e, _, d⟩ := q; exact ⟨o, e, fun v z => by rw [d] at z; cases z⟩
theorem ScIt.keep {h h' : Heap} {it : Addr} {sc : Sc} {i : Nat} (q : ScIt h it sc i) (k : ∀ o, h.get? it = some o → h'.get? it = some o) : ScIt h' it sc i := by
  cases sc with
  | l a => exact Heap.IsListIter.at q fun o e => k o e
  | t a => exact Heap.IsTupleIter.at q fun o e => k o e
  | s z => obtain ⟨t, o, e, r⟩ := q; exact ⟨t, o, k o e, r⟩
/-- the items behind a source, as the library draws them -/
structure ScD (X : Cx) (A : Around) (s : Shared) (sc : Sc) (it : Addr) (xs : List V) (fp : List Addr) (P : Nat → Value → Prop) (St : Nat → Heap → Prop) : Prop where
  dr : Draws X.prog X.w A it fp xs.length P St
  val : ∀ i v, P i v → ∃ x, xs[i]? = some x ∧ RelV x v
  st : ∀ i, ScIt s.heap it sc i → St i s.heap
  un : ∀ i h, St i h → ScIt h it sc i
  mem : it ∈ fp
  fp : ∀ b ∈ fp, b = it ∨ ∃ a, (sc = .l a ∨ sc = .t a) ∧ b = a
theorem sc_draws {X : Cx} {pins : List (Addr × Obj)} {σ : L2.St} {H : Hp} {s : Shared} {A : Around} (hh : A.handled = none) (I : Inv X pins σ H s) {sc : Sc} {xs : List V} {it : Addr} (q : ScAt X.K H sc xs) (ne : ∀ a, sc = .l a ∨ sc = .t a → a ≠ it) (ex : ∃ i, ScIt s.heap it sc i) :
    ∃ fp P St, ScD X A s sc it xs fp P St := by
  cases sc with
  | l a =>
    obtain ⟨its, rv, p, hz⟩ := I.list q
    have d := Draws.list (prog := X.prog) (w := X.w) (A := A) hh it a (ne a (.inl rfl)) its.toArray
    have hl : its.toArray.size = xs.length := by rw [List.size_toArray, rv.length]
    rw [hl] at d
    refine ⟨_, _, _, d, fun i v e => ?_, fun i h => ⟨h, p.isList⟩, fun i h e => e.1, List.mem_cons_self, fun b hb => ?_⟩
    · have e' : its[i]? = some v := by simpa using e
      exact vals_right rv e'
    · rcases List.mem_cons.mp hb with z | z
      · exact .inl z
      · exact .inr ⟨a, .inl rfl, List.mem_singleton.mp z⟩
  | t a =>
    obtain ⟨its, rv, p, hz⟩ := I.tuple q
    have d := Draws.tuple (prog := X.prog) (w := X.w) (A := A) hh it a (ne a (.inr rfl)) its.toArray
    have hl : its.toArray.size = xs.length := by rw [List.size_toArray, rv.length]
    rw [hl] at d
    refine ⟨_, _, _, d, fun i v e => ?_, fun i h => ⟨h, p⟩, fun i h e => e.1, List.mem_cons_self, fun b hb => ?_⟩
    · have e' : its[i]? = some v := by simpa using e
      exact vals_right rv e'
    · rcases List.mem_cons.mp hb with z | z
      · exact .inl z
      · exact .inr ⟨a, .inr rfl, List.mem_singleton.mp z⟩
  | s z =>
    obtain ⟨i0, t, o0, e0, c0, d0⟩ := ex
    have d := Draws.text (prog := X.prog) (w := X.w) (A := A) hh it z t
    have q' : xs = z.cps.toList.map fun c => V.str ⟨#[c]⟩ := q
    have hl : z.cps.size = xs.length := by rw [q', List.length_map]; rfl
    rw [hl] at d
    refine ⟨_, _, _, d, fun i v e => ?_, fun i h => ?_, fun i h e => ⟨t, e⟩, List.mem_cons_self, fun b hb => .inl (List.mem_singleton.mp hb)⟩
    · obtain ⟨c, u, h1, rfl⟩ := e
      refine ⟨V.str ⟨#[c]⟩, ?_, ⟨u, rfl⟩⟩
      rw [q', List.getElem?_map]
      have h2 : z.cps.toList[i]? = some c := by simpa using h1
      rw [h2]; rfl
    · obtain ⟨t', o1, e1, c1, d1⟩ := h
      refine ⟨o1, e1, c1, ?_⟩
      rw [e0] at e1
      cases e1
      rw [d0] at d1
      have q := Data.fields.inj d1
      have q2 := congrArg Array.toList q
      simp at q2
      rw [d0, q2.1, q2.2]

/-! ### zip of two -/
def ItzG (K : PySem.W.Frag) (a b : Sc) : It :=
  ⟨fun i H => ∃ (xs ys : List V), ScAt K H a xs ∧ ScAt K H b ys ∧ i < xs.length ∧ i < ys.length,
    fun i H v H' => ∃ T x y, v = .ref T ∧ H T = none ∧ H' = upd H T (.tup [x, y]) ∧ (∀ xs, ScAt K H a xs → xs[i]? = some x) ∧ ∀ ys, ScAt K H b ys → ys[i]? = some y,
    fun i H => ∃ xs ys : List V, ScAt K H a xs ∧ ScAt K H b ys ∧ i = min xs.length ys.length⟩
theorem scAt_inj {X : Cx} {pins : List (Addr × Obj)} {σ : L2.St} {H : Hp} {s : Shared} (I : Inv X pins σ H s) {sc : Sc} {xs ys : List V} (h : ScAt X.K H sc xs) (q : ScAt X.K H sc ys) : xs = ys := by
  cases sc with
  | l a => exact I.list_inj h q
  | t a => exact I.tuple_inj h q
  | s z => exact h.trans q.symm
theorem sep2 {n : Nat} {sc1 sc2 : Sc} {fp1 fp2 : List Addr} (h1 : ∀ b ∈ fp1, b = n ∨ ∃ a, (sc1 = .l a ∨ sc1 = .t a) ∧ b = a) (h2 : ∀ b ∈ fp2, b = n + 1 ∨ ∃ a, (sc2 = .l a ∨ sc2 = .t a) ∧ b = a) (b1 : ScBelow n sc1) (b2 : ScBelow n sc2) (m1 : n ∈ fp1) (m2 : n + 1 ∈ fp2) :
    ZipSep2 (n + 4) (n + 2) (n + 3) n (n + 1) fp1 fp2 := by
  have lt1 : ∀ b : Nat, b ∈ fp1 → b = n ∨ b < n := fun b hb => by
    rcases h1 b hb with e | ⟨a, e | e, z⟩
    · exact .inl e
    · subst e; subst z; exact .inr b1
    · subst e; subst z; exact .inr b1
  have lt2 : ∀ b : Nat, b ∈ fp2 → b = n + 1 ∨ b < n := fun b hb => by
    rcases h2 b hb with e | ⟨a, e | e, z⟩
    · exact .inl e
    · subst e; subst z; exact .inr b2
    · subst e; subst z; exact .inr b2
  have k1 : ∀ j : Nat, 0 < j → n + j ∉ fp1 := fun j hj z => by have := lt1 (n + j) z; omega
  have k2 : ∀ j : Nat, j ≠ 1 → n + j ∉ fp2 := fun j hj z => by have := lt2 (n + j) z; omega
  have k3 : ∀ i j : Nat, i ≠ j → n + i ≠ n + j := fun i j h => by omega
  exact { TIz := k3 2 4 (by decide), TOz := k3 3 4 (by decide), TITO := k3 2 3 (by decide), TIi1 := k3 2 0 (by decide), mem1 := m1, zf1 := k1 4 (by decide), Tf1 := k1 3 (by decide), TIi2 := k3 2 1 (by decide), mem2 := m2, zf2 := k2 4 (by decide), Tf2 := k2 3 (by decide), sep1_2 := k2 0 (by decide), sep2_1 := k1 1 (by decide) }
theorem ScBelow.ne {n : Nat} {sc : Sc} (h : ScBelow n sc) {m : Nat} (hm : n ≤ m) : ∀ a, sc = .l a ∨ sc = .t a → a ≠ m := fun a e => by
  rcases e with e | e <;> (subst e; exact Nat.ne_of_lt (Nat.lt_of_lt_of_le h hm))
abbrev ZipTn (n : Nat) (a b : Sc) (i : Nat) (h : Heap) : Prop := IsZip h (n + 4) (n + 2) (n + 3) .none ∧ IsTupOf2 h (n + 2) (.ref n) (.ref (n + 1)) ∧ (∃ x y, IsTupOf2 h (n + 3) x y) ∧ ScIt h n a i ∧ ScIt h (n + 1) b i
theorem turn_zipG {P : Program} {w : World} {K : PySem.W.Frag} {elts : List Expr} {kk : Nat} {tpos : Pos} {n : Nat} {a b : Sc} (b1 : ScBelow n a) (b2 : ScBelow n b) :
    Turn P w K (.Tuple elts kk tpos) (ItzG K a b) [n + 4, n + 2, n + 3, n, n + 1] (n + 4) (ZipTn n a b) where
  mem := by simp
  obj := fun i h st c hc => by
    obtain ⟨hz, hTI, ⟨x, y, hTO⟩, h1, h2⟩ := st
    have e' : c = n + 4 ∨ c = n + 2 ∨ c = n + 3 ∨ c = n ∨ c = n + 1 := by simpa using hc
    rcases e' with q | q | q | q | q <;> subst q
    · exact ⟨_, hz, fun v q => nomatch q⟩
    · exact ⟨_, hTI, fun v q => nomatch q⟩
    · exact ⟨_, hTO, fun v q => nomatch q⟩
    · exact h1.obj
    · exact h2.obj
  keep := fun i h h' st k => by
    obtain ⟨hz, hTI, ⟨x, y, hTO⟩, h1, h2⟩ := st
    exact ⟨k _ (by simp) _ hz, k _ (by simp) _ hTI, ⟨x, y, k _ (by simp) _ hTO⟩, h1.keep fun o q => k n (by simp) o q, h2.keep fun o q => k (n + 1) (by simp) o q⟩
  item := by
    intro X hP hw hK hc i pins s σ H E I hf st hg
    subst hP hw hK
    obtain ⟨hz, hTI, ⟨x0, y0, hTO⟩, h1, h2⟩ := st
    obtain ⟨xs, ys, q1, q2, l1, l2⟩ := hg
    have hh : X.A.in1.handled = none := I.ok.hd hc
    obtain ⟨fp1, P1, St1, D1⟩ := sc_draws hh I q1 (b1.ne (Nat.le_refl n)) ⟨i, h1⟩
    obtain ⟨fp2, P2, St2, D2⟩ := sc_draws hh I q2 (b2.ne (Nat.le_succ n)) ⟨i, h2⟩
    have G := GoesN.zip2 (elts := elts) (x1 := kk) (pos := tpos) (sep2 D1.fp D2.fp b1 b2 D1.mem D2.mem) D1.dr D2.dr
    refine wpAny_mono (G.goes i s (fun v s2 => ∃ x H', Inv X pins σ H' s2 ∧ RelV x v ∧ (ItzG X.K a b).yld i H x H' ∧ ZipTn n a b (i + 1) s2.heap ∧ ∀ c ∈ [n + 4, n + 2, n + 3, n, n + 1], H' c = none) E (by omega) ⟨hz, hTI, ⟨x0, y0, hTO⟩, D1.st i h1, D2.st i h2⟩ fun v h' tk Y st' hk htk => ?_) (fun r s1 hq => hq) fun e s1 z => z
    obtain ⟨T, u1, u2, rfl, hT, p1, p2, ht⟩ := Y
    obtain ⟨x, hx, rx⟩ := D1.val i u1 p1
    obtain ⟨y, hy, ry⟩ := D2.val i u2 p2
    obtain ⟨o, ho, hoc, m, hod⟩ := ht
    have new : ObjOk X.prog X.w (upd H T (.tup [x, y])) h' T (.tup [x, y]) := ⟨by show 2 ≤ sizeLine; rw [sizeLine_eq]; decide, [u1, u2], .cons rx (.cons ry .nil), ⟨o, ho, hoc, m, hod⟩⟩
    have I1 : Inv X pins σ (upd H T (.tup [x, y])) { s with heap := h', toks := tk } :=
      I.turnedNew (ch := [n + 4, n + 3, n, n + 1]) (fun c o hb q => hk c o hb q) (fun c hc => hf c (by
        have e' : c = n + 4 ∨ c = n + 3 ∨ c = n ∨ c = n + 1 := by simpa using hc
        rcases e' with q | q | q | q <;> (subst q; simp))) hT new
    obtain ⟨z1, z2, z3, z4, z5⟩ := st'
    refine ⟨.ref T, _, I1, rfl, ⟨T, x, y, rfl, I.hok.fresh hT, rfl, fun l hl => by rw [scAt_inj I hl q1]; exact hx, fun l hl => by rw [scAt_inj I hl q2]; exact hy⟩, ⟨z1, z2, z3, D1.un _ _ z4, D2.un _ _ z5⟩, fun c hcm => ?_⟩
    have hlt : c < s.heap.objs.size := by
      have e' : c = n + 4 ∨ c = n + 2 ∨ c = n + 3 ∨ c = n ∨ c = n + 1 := by simpa using hcm
      rcases e' with q | q | q | q | q <;> subst q
      · exact Heap.lt_size hz
      · exact Heap.lt_size hTI
      · exact Heap.lt_size hTO
      · obtain ⟨_, e1, _⟩ := h1.obj; exact Heap.lt_size e1
      · obtain ⟨_, e1, _⟩ := h2.obj; exact Heap.lt_size e1
    rw [upd_ne (Nat.ne_of_lt (Nat.lt_of_lt_of_le hlt hT))]
    exact (hf c hcm).1
  done := by
    intro X hP hw hK hc i pins s σ H E I hf st hg
    subst hP hw hK
    obtain ⟨hz, hTI, ⟨x0, y0, hTO⟩, h1, h2⟩ := st
    obtain ⟨xs, ys, q1, q2, rfl⟩ := hg
    have hh : X.A.in1.handled = none := I.ok.hd hc
    obtain ⟨fp1, P1, St1, D1⟩ := sc_draws hh I q1 (b1.ne (Nat.le_refl n)) ⟨_, h1⟩
    obtain ⟨fp2, P2, St2, D2⟩ := sc_draws hh I q2 (b2.ne (Nat.le_succ n)) ⟨_, h2⟩
    have G := GoesN.zip2 (elts := elts) (x1 := kk) (pos := tpos) (sep2 D1.fp D2.fp b1 b2 D1.mem D2.mem) D1.dr D2.dr
    exact wpAny_mono (G.stops s (fun s1 => Inv X pins σ H s1) E ⟨hz, hTI, ⟨x0, y0, hTO⟩, D1.st _ h1, D2.st _ h2⟩ fun h' tk hk htk =>
      I.turnedL (ch := [n + 4, n + 3, n, n + 1]) (fun c o hb q => hk c o hb q) (fun c hc => hf c (by
        have e' : c = n + 4 ∨ c = n + 3 ∨ c = n ∨ c = n + 1 := by simpa using hc
        rcases e' with q | q | q | q <;> (subst q; simp)))) (fun r s1 hq => hq) fun e s1 z => z
  self := fun A i s Q E st h => wpAny_pyIter_zip st.1 h
/-- a source as a value -/
def ScV (sc : Sc) (v : V) : Prop := match sc with
  | .l a => v = .ref a
  | .t a => v = .ref a
  | .s z => v = .str z
theorem sc_begins {X : Cx} {pins : List (Addr × Obj)} {σ : L2.St} {H : Hp} {s : Shared} (I : Inv X pins σ H s) {sc : Sc} {v : V} {u : Value} {xs : List V} (hv : ScV sc v) (r : RelV v u) (q : ScAt X.K H sc xs) :
    ∃ o Hb, Begins u o Hb ∧ Hb s.heap ∧ (∀ (h : Heap) (it : Addr), h.get? it = some o → ScIt h it sc 0) ∧ ScBelow s.heap.objs.size sc := by
  cases sc with
  | l a =>
    have hv : v = .ref a := hv
    subst hv
    cases r
    obtain ⟨its, rv, p, hz⟩ := I.list q
    refine ⟨_, _, begins_list a its.toArray, p.isList, fun h it e => ⟨_, e, rfl, rfl⟩, by obtain ⟨o, ho, _⟩ := p.isList; exact Heap.lt_size ho⟩
  | t a =>
    have hv : v = .ref a := hv
    subst hv
    cases r
    obtain ⟨its, rv, p, hz⟩ := I.tuple q
    obtain ⟨o, ho, _⟩ := id p
    refine ⟨_, _, begins_tuple a its.toArray, p, fun h it e => ⟨_, e, rfl, rfl⟩, Heap.lt_size ho⟩
  | s z =>
    have hv : v = .str z := hv
    subst hv
    obtain ⟨t, rfl⟩ := r
    refine ⟨_, _, begins_text z t, trivial, fun h it e => ⟨t, _, e, rfl, rfl⟩, trivial⟩
def iZipG (K : PySem.W.Frag) (ta : TA) : TI := fun σ H R => ta σ H fun vs H1 => ∃ a b u w xs ys, vs = [u, w] ∧ ScV a u ∧ ScV b w ∧ ScAt K H1 a xs ∧ ScAt K H1 b ys ∧ R (ItzG K a b) H1
theorem pi_zipG {X : Cx} {e e2 : Expr} {ta : TA} {p pos tpos : Pos} {elts : List Expr} {kk : Nat} (hm : X.mg "zip" = none) (ha : PA X [e, e2] ta) (hg : Gl X "zip" := by rfl)
    (hs : starEach [e, e2] X.env = (false, eval e X.env) :: starEach [e2] X.env := by rfl) (hpl : (backTo pos (starEach [e2] X.env)).any (·.1) = false := by rfl) :
    PI X (.Tuple elts kk tpos) (.Call (.Name "zip" p) [e, e2] [] pos) (iZipG X.K ta) := by
  refine ⟨fun pins s σ H R I h => ?_⟩
  refine Call_ (ld_blt I hg hm PyProof.Rows.boot_zip (PyProof.Rows.callWith_type1 (thn (ha.run pos pins s σ H _ I h) fun us s1 ⟨vs, H1, I1, r1, q1⟩ => ?_) hs hpl))
  obtain ⟨a, b, u, w, xs, ys, ex, va, vb, qa, qb, q⟩ := q1
  subst ex
  obtain ⟨u1, u2, rfl, ru, rw'⟩ := vals2 r1
  obtain ⟨o1, G1, B1, g1, n1, w1⟩ := sc_begins I1 va ru qa
  obtain ⟨o2, G2, B2, g2, n2, w2⟩ := sc_begins I1 vb rw' qb
  refine zip_begins2 B1 B2 g1 g2 fun h' hz hTI hTO e1 e2' hsz hk => wpAny_pyIter_zip hz ?_
  have I2 : Inv X pins σ H1 { s1 with heap := h' } := I1.kept (t' := s1.toks) hk
  refine ⟨s1.heap.objs.size + 4, _, _, _, H1, rfl, I2, turn_zipG w1 w2, ⟨hz, hTI, ⟨_, _, hTO⟩, n1 _ _ e1, n2 _ _ e2'⟩, fun c hcm => ?_, q⟩
  have hle : s1.heap.objs.size ≤ c := by
    have e' : c = s1.heap.objs.size + 4 ∨ c = s1.heap.objs.size + 2 ∨ c = s1.heap.objs.size + 3 ∨ c = s1.heap.objs.size ∨ c = s1.heap.objs.size + 1 := by simpa using hcm
    rcases e' with z | z | z | z | z <;> rw [z]
    · exact Nat.le_add_right _ _
    · exact Nat.le_add_right _ _
    · exact Nat.le_add_right _ _
    · exact Nat.le_refl _
    · exact Nat.le_add_right _ _
  exact I1.fpOk hle (I1.hok.fresh hle)
theorem walk_zipG {K : PySem.W.Frag} {a b : Sc} {xs ys : List V} {n : Nat} (hn : n = min xs.length ys.length) : Walk (ItzG K a b) n (fun H => ScAt K H a xs ∧ ScAt K H b ys) (YPair (fun i => xs[i]?) (fun i => ys[i]?)) := by
  subst hn
  refine ⟨fun i _ hi q => ⟨xs, ys, q.1, q.2, by omega, by omega⟩, fun _ q => ⟨xs, ys, q.1, q.2, rfl⟩, fun i H v H' _ q y => ?_⟩
  obtain ⟨T, x, z, h1, h2, h3, h4, h5⟩ := y
  exact ⟨T, x, z, h1, h2, h3, h4 xs q.1, h5 ys q.2⟩
end Z
end
section
set_option Elab.async false
set_option linter.all false
set_option maxRecDepth 100000
set_option maxHeartbeats 1000000
/-! Z7: targets, what is walked, for, while. -/
namespace Z
open PySem PySem.Spec PyProof.Rows L2

/-! ### targets -/
inductive TgZ where
  | nm (i : Nat) | tp (ts : List TgZ)
mutual
def gOf (K : PySem.W.Frag) : TgZ → TG
  | .nm i => gName i
  | .tp ts => gTup K ts.length (gsOf K ts)
def gsOf (K : PySem.W.Frag) : List TgZ → TGs
  | [] => gNil
  | t :: ts => gCons (gOf K t) (gsOf K ts)
end
mutual
def asg : TgZ → PV → Option (List (Nat × PV))
  | .nm i, v => some [(i, v)]
  | .tp ts, .nd .tup xs => asgs ts xs
  | .tp _, _ => none
def asgs : List TgZ → List PV → Option (List (Nat × PV))
  | [], [] => some []
  | t :: ts, x :: xs => (asg t x).bind fun a => (asgs ts xs).map fun b => a ++ b
  | _, _ => none
end
def setZ (l : Loc) (ps : List (Nat × PV)) : Loc := ps.foldl (fun l p => l.set p.1 (some p.2)) l
def setV (σ : L2.St) (ps : List (Nat × V)) : L2.St := ps.foldl (fun l p => l.set p.1 (some p.2)) σ
def wipeZ (l : Loc) : List Nat → Loc
  | [] => l
  | v :: vs => (wipeZ l vs).set v none
mutual
def TgZ.slots : TgZ → List Nat
  | .nm i => [i]
  | .tp ts => TgZ.slotsL ts
def TgZ.slotsL : List TgZ → List Nat
  | [] => []
  | t :: ts => t.slots ++ TgZ.slotsL ts
end
section
variable {T : Tb} {K : PySem.W.Frag} {R : Pl} {F H : Hp} {S : Sto} {l : Loc} {σ : L2.St}
theorem setZ_app (l : Loc) (ps qs : List (Nat × PV)) : setZ l (ps ++ qs) = setZ (setZ l ps) qs := List.foldl_append
theorem setV_app (l : L2.St) (ps qs : List (Nat × V)) : setV l (ps ++ qs) = setV (setV l ps) qs := List.foldl_append
mutual
theorem gOf_ok (re : Rep T K R F S H) : ∀ (t : TgZ) (x : PV) (u : V) (l : Loc) (σ : L2.St) (ps : List (Nat × PV)) (Q : L2.St → Hp → Prop), RelE T K R F l σ → Rel T K R F x u → asg t x = some ps →
    (∀ qs : List (Nat × V), (∀ q ∈ qs, q.1 ∈ t.slots) → RelE T K R F (setZ l ps) (setV σ qs) → Q (setV σ qs) H) → gOf K t u σ H Q
  | .nm i, x, u, l, σ, ps, Q, e, r, h, k => by
    cases h
    exact k [(i, u)] (fun q hq => by rw [List.mem_singleton.mp hq]; exact List.mem_singleton.mpr rfl) (e.set i r)
  | .tp ts, x, u, l, σ, ps, Q, e, r, h, k => by
    cases x with
    | nd kd xs =>
      cases kd with
      | tup =>
        rw [asg] at h
        rw [Rel] at r
        obtain ⟨a, us, rfl, hs, hl⟩ := r
        exact ⟨a, us, rfl, SqT.of (re.ex.at_ hs), by rw [hl.length]; exact asgs_len ts xs ps h, gsOf_ok re ts xs us l σ ps Q e hl h k⟩
      | _ => simp [asg] at h
    | _ => simp [asg] at h
theorem gsOf_ok (re : Rep T K R F S H) : ∀ (ts : List TgZ) (xs : List PV) (us : List V) (l : Loc) (σ : L2.St) (ps : List (Nat × PV)) (Q : L2.St → Hp → Prop), RelE T K R F l σ → RelL T K R F xs us → asgs ts xs = some ps →
    (∀ qs : List (Nat × V), (∀ q ∈ qs, q.1 ∈ TgZ.slotsL ts) → RelE T K R F (setZ l ps) (setV σ qs) → Q (setV σ qs) H) → gsOf K ts us σ H Q
  | [], [], us, l, σ, ps, Q, e, r, h, k => by
    cases h
    rw [RelL] at r
    exact ⟨r, k [] (fun q hq => absurd hq (by simp)) e⟩
  | t :: ts, x :: xs, us, l, σ, ps, Q, e, r, h, k => by
    rw [RelL] at r
    obtain ⟨u, vs, rfl, r1, r2⟩ := r
    rw [asgs, Option.bind_eq_some_iff] at h
    obtain ⟨a, h1, h2⟩ := h
    rw [Option.map_eq_some_iff] at h2
    obtain ⟨b, h3, rfl⟩ := h2
    refine ⟨u, vs, rfl, gOf_ok re t x u l σ a _ e r1 h1 fun qs hq e1 => ?_⟩
    refine gsOf_ok re ts xs vs _ _ b _ e1 r2 h3 fun qs2 hq2 e2 => ?_
    rw [← setV_app] at e2 ⊢
    rw [← setZ_app] at e2
    refine k (qs ++ qs2) (fun q hq' => ?_) e2
    rw [TgZ.slotsL, List.mem_append]
    exact (List.mem_append.mp hq').imp (hq q) (hq2 q)
  | [], _ :: _, us, l, σ, ps, Q, e, r, h, k => by simp [asgs] at h
  | _ :: _, [], us, l, σ, ps, Q, e, r, h, k => by simp [asgs] at h
theorem asgs_len : ∀ (ts : List TgZ) (xs : List PV) (ps : List (Nat × PV)), asgs ts xs = some ps → xs.length = ts.length
  | [], [], ps, h => rfl
  | t :: ts, x :: xs, ps, h => by
    rw [asgs, Option.bind_eq_some_iff] at h
    obtain ⟨a, h1, h2⟩ := h
    rw [Option.map_eq_some_iff] at h2
    obtain ⟨b, h3, rfl⟩ := h2
    rw [List.length_cons, List.length_cons, asgs_len ts xs b h3]
  | [], _ :: _, ps, h => by simp [asgs] at h
  | _ :: _, [], ps, h => by simp [asgs] at h
end
end
abbrev JG (X : Cx) (tg : Expr) (t : TgZ) : Prop := PG X tg (gOf X.K t)
abbrev JGs (X : Cx) (tg : List Expr) (t : List TgZ) : Prop := PGs X tg (gsOf X.K t)
section
variable {X : Cx} {x : Str} {pos : Pos}
theorem jg_n (i : Nat) (hN : X.N.Nodup) (hi : X.N[i]? = some x := by rfl) (hx : L2.Loc X.env.scope x := by first | exact Or.inl rfl | exact Or.inr rfl) (hf : X.fn x = true ∨ X.env.scope.names.lookup x = some .local := by first | exact .inl rfl | exact .inr rfl) : JG X (.Name x pos) (.nm i) := pg_name hN hi hx hf
theorem jgs_nil : JGs X [] [] := pgs_nil
theorem jgs_cons {e : Expr} {es : List Expr} {t : TgZ} {ts : List TgZ} (h1 : JG X e t) (h2 : JGs X es ts) (hs : (assignEach (e :: es) X.env).map (·.2) = assign e X.env :: (assignEach es X.env).map (·.2) := by rfl) : JGs X (e :: es) (t :: ts) := pgs_cons h1 h2 hs
theorem jg_t {es : List Expr} {k : Nat} {ts : List TgZ} (hc : X.calm = true) (h : JGs X es ts) (hn : (assignEach es X.env).length = ts.length := by rfl) (hst : (assignEach es X.env).findIdx? (·.1) = none := by rfl) : JG X (.Tuple es k pos) (.tp ts) := pg_tup hc h hn hst
end

/-! ### what is walked -/
structure ItZ where
  items : List PV
  held : List (PV × Kd × List PV)
def heldB (hs : List (PV × Kd × List PV)) (S : Sto) : Bool := hs.all fun p => decide (view p.1 S = some p.2)
theorem heldB_nil (S : Sto) : heldB [] S = true := rfl
theorem heldB_all {hs : List (PV × Kd × List PV)} {S : Sto} (h : heldB hs S = true) : ∀ p ∈ hs, view p.1 S = some p.2 := fun p hp => of_decide_eq_true (List.all_eq_true.mp h p hp)
theorem heldB_of {hs : List (PV × Kd × List PV)} {S : Sto} (h : ∀ p ∈ hs, view p.1 S = some p.2) : heldB hs S = true := List.all_eq_true.mpr fun p hp => decide_eq_true (h p hp)
/-- a place is watched while it is walked -/
def holdOf (x : PV) (v : Kd × List PV) : List (PV × Kd × List PV) := match x with
  | .ref n => [(.ref n, v)]
  | _ => []
abbrev DI := Loc → Sto → Out ItZ
structure WalkZ (T : Tb) (K : PySem.W.Frag) (J : It) (R1 : Pl) (F1 : Hp) (it : ItZ) : Prop where
  goes : ∀ (i : Nat) (R : Pl) (F H : Hp) (S : Sto), i < it.items.length → R1.as <+: R.as → Ex F1 F → Rep T K R F S H → heldB it.held S = true → J.go i H
  stops : ∀ (R : Pl) (F H : Hp) (S : Sto), R1.as <+: R.as → Ex F1 F → Rep T K R F S H → heldB it.held S = true → J.stop it.items.length H
  yields : ∀ (i : Nat) (R : Pl) (F H H' : Hp) (S : Sto) (x : V), i < it.items.length → R1.as <+: R.as → Ex F1 F → Rep T K R F S H → heldB it.held S = true → J.yld i H x H' →
    ∃ F' v, Ex F F' ∧ Rep T K R F' S H' ∧ it.items[i]? = some v ∧ Rel T K R F' v x
def OkI (T : Tb) (K : PySem.W.Frag) (R : Pl) (F : Hp) (o : Out ItZ) (Q : It → Hp → Prop) (E : XK) : Prop := match o with
  | .ok it S => ∀ R' F' H J, Pl.le R R' → Ex F F' → Rep T K R' F' S H → WalkZ T K J R' F' it → Q J H
  | .err e S => PostX T K R F e S E
  | .bad => False
def tI (T : Tb) (K : PySem.W.Frag) (E : XS) (d : DI) : TI := fun σ H Q => ∃ R F l S, Rep T K R F S H ∧ RelE T K R F l σ ∧ OkI T K R F (d l S) Q (E σ)
abbrev JI (T : Tb) (X : Cx) (E : XS) (tg e : Expr) (d : DI) : Prop := PI X tg e (tI T X.K E d)
theorem pi_imp {X : Cx} {tg e : Expr} {t t' : TI} (h : PI X tg e t) (i : ∀ σ H Q, t' σ H Q → t σ H Q) : PI X tg e t' := ⟨fun pins s σ H Q I q => h.run pins s σ H Q I (i σ H Q q)⟩
theorem pi_or {X : Cx} {tg e : Expr} {t t' : TI} (h : PI X tg e t) (h' : PI X tg e t') : PI X tg e (fun σ H Q => t σ H Q ∨ t' σ H Q) := ⟨fun pins s σ H Q I q => q.elim (h.run pins s σ H Q I) (h'.run pins s σ H Q I)⟩
/-- the sequence behind a value: list or script, tuple -/
def seqIt (x : PV) (S : Sto) : Option ItZ := match view x S with
  | some (.lst, xs) => some ⟨xs, holdOf x (.lst, xs)⟩
  | some (.scr, xs) => some ⟨xs, holdOf x (.scr, xs)⟩
  | some (.tup, xs) => some ⟨xs, holdOf x (.tup, xs)⟩
  | _ => none
def strIt (z : Str) : ItZ := ⟨z.cps.toList.map fun c => .str ⟨#[c]⟩, []⟩
def itOf (x : PV) (S : Sto) : Out ItZ := match x with
  | .str z => .ok (strIt z) S
  | x => match seqIt x S with
    | some it => .ok it S
    | none => .bad
def dItV (d : DE) : DI := fun l S => (d l S).bind fun x S1 => itOf x S1
section
variable {T : Tb} {X : Cx} {E : XS} {tg : Expr}
theorem hold_view {K : PySem.W.Frag} {R R1 : Pl} {F F1 H1 H : Hp} {S1 S : Sto} {x : PV} {u : V} {k : Kd} {xs : List PV} (r1 : Rep T K R1 F1 S1 H1) (rx : Rel T K R1 F1 x u) (hv : view x S1 = some (k, xs)) (p : R1.as <+: R.as) (e : Ex F1 F) (r : Rep T K R F S H) (hh : heldB (holdOf x (k, xs)) S = true) :
    ∃ a us, u = .ref a ∧ Shp T K H a k us ∧ RelL T K R F xs us := by
  cases x with
  | ref n => exact view_rel r (rx.mono0 p e) (heldB_all hh (.ref n, k, xs) (List.mem_singleton.mpr rfl))
  | nd k' xs' => exact view_rel r (rx.mono0 p e) hv
  | _ => cases hv
theorem walkz_of {K : PySem.W.Frag} {R1 : Pl} {F1 H1 : Hp} {S1 : Sto} {x : PV} {u : V} {k : Kd} {xs : List PV} {J : It} (r1 : Rep T K R1 F1 S1 H1) (rx : Rel T K R1 F1 x u) (hv : view x S1 = some (k, xs))
    (w : ∀ (a : Addr) (us : List V), u = .ref a → Walk J us.length (fun H => Shp T K H a k us) (YAt us)) : WalkZ T K J R1 F1 ⟨xs, holdOf x (k, xs)⟩ where
  goes := fun i R F H S hi p e r hh => by
    obtain ⟨a, us, eu, hs, hl⟩ := hold_view r1 rx hv p e r hh
    exact (w a us eu).goes i H (by rw [hl.length]; exact hi) hs
  stops := fun R F H S p e r hh => by
    obtain ⟨a, us, eu, hs, hl⟩ := hold_view r1 rx hv p e r hh
    have := (w a us eu).stops H hs
    rw [hl.length] at this
    exact this
  yields := fun i R F H H' S v hi p e r hh y => by
    obtain ⟨a, us, eu, hs, hl⟩ := hold_view r1 rx hv p e r hh
    obtain ⟨rfl, hx⟩ := (w a us eu).yields i H v H' (by rw [hl.length]; exact hi) hs y
    have hi' : i < xs.length := hi
    obtain ⟨u', h1, h2⟩ := hl.get (List.getElem?_eq_getElem hi')
    rw [h1] at hx
    cases hx
    exact ⟨F, xs[i], Ex.refl F, r, List.getElem?_eq_getElem hi', h2⟩
theorem ji_val {e : Expr} {d : DE} (he : JE T X E e d) : JI T X E tg e (dItV d) := by
  refine pi_imp (pi_or (pi_list he) (pi_or (pi_tup he) (pi_str he))) fun σ H Q ⟨R, F, l, S, r, e, h⟩ => ?_
  cases hd : d l S with
  | bad => unfold dItV at h; rw [hd] at h; exact h.elim
  | err x S1 =>
    unfold dItV at h; rw [hd] at h
    refine .inl ⟨R, F, l, S, r, e, ?_⟩
    rw [hd]; exact h
  | ok x S1 =>
    unfold dItV at h; rw [hd] at h
    have h : OkI T X.K R F (itOf x S1) Q (E σ) := h
    cases x with
    | str z =>
      refine .inr (.inr ⟨R, F, l, S, r, e, ?_⟩)
      rw [hd]
      intro R1 F1 H1 u p ex r1 rx
      have := rel_str rx; subst this
      refine ⟨z, rfl, h R1 F1 H1 (Its z) p ex r1 ⟨fun i R F H S hi _ _ _ _ => ?_, fun R F H S _ _ _ _ => ?_, fun i R F H H' S v hi p e r hh y => ?_⟩⟩
      · have : i < z.cps.size := by simpa [strIt] using hi
        exact this
      · show z.cps.size ≤ _
        simp [strIt]
      · obtain ⟨rfl, c, h1, rfl⟩ := y
        refine ⟨F, .str ⟨#[c]⟩, Ex.refl F, r, ?_, by rw [Rel]⟩
        have h2 : z.cps.toList[i]? = some c := by simpa using h1
        simp [strIt, h2]
    | _ =>
      all_goals
        simp only [itOf, seqIt] at h
        split at h
        · rename_i it hit
          split at hit
          · rename_i xs hv
            cases hit
            refine .inl ⟨R, F, l, S, r, e, ?_⟩
            rw [hd]
            intro R1 F1 H1 u p ex r1 rx
            obtain ⟨a, us, eu, hs, hl⟩ := view_rel r1 rx hv
            refine ⟨a, eu, ⟨us, (shp_rd hs).1 (.inl rfl)⟩, h R1 F1 H1 _ p ex r1 (walkz_of r1 rx hv fun b ws eb => ?_)⟩
            rw [eu] at eb; cases eb
            exact walk_list.mono (fun H q => (shp_rd q).1 (.inl rfl)) fun _ _ _ _ _ _ y => y
          · rename_i xs hv
            cases hit
            refine .inl ⟨R, F, l, S, r, e, ?_⟩
            rw [hd]
            intro R1 F1 H1 u p ex r1 rx
            obtain ⟨a, us, eu, hs, hl⟩ := view_rel r1 rx hv
            refine ⟨a, eu, ⟨us, (shp_rd hs).1 (.inr rfl)⟩, h R1 F1 H1 _ p ex r1 (walkz_of r1 rx hv fun b ws eb => ?_)⟩
            rw [eu] at eb; cases eb
            exact walk_list.mono (fun H q => (shp_rd q).1 (.inr rfl)) fun _ _ _ _ _ _ y => y
          · rename_i xs hv
            cases hit
            refine .inr (.inl ⟨R, F, l, S, r, e, ?_⟩)
            rw [hd]
            intro R1 F1 H1 u p ex r1 rx
            obtain ⟨a, us, eu, hs, hl⟩ := view_rel r1 rx hv
            refine ⟨a, eu, ⟨us, (shp_rd hs).2 rfl⟩, h R1 F1 H1 _ p ex r1 (walkz_of r1 rx hv fun b ws eb => ?_)⟩
            rw [eu] at eb; cases eb
            exact walk_tup.mono (fun H q => (shp_rd q).2 rfl) fun _ _ _ _ _ _ y => y
          · cases hit
        · exact h.elim

/-! ### range -/
def rngZ (lo : Int) (n : Nat) : List PV := (List.range n).map fun i => .int (lo + (i : Nat))
def rngP (xs : List PV) (S : Sto) : Out ItZ := match xs with
  | [.int j] => if -(2 ^ 62) ≤ j ∧ j < 2 ^ 62 then .ok ⟨rngZ 0 j.toNat, []⟩ S else .bad
  | _ => .bad
def dItA (f : List PV → Sto → Out ItZ) (ar : DA) : DI := fun l S => (ar l S).bind fun xs S1 => f xs S1
theorem walkz_rng {K : PySem.W.Frag} {R1 : Pl} {F1 : Hp} {lo : Int} {n : Nat} : WalkZ T K (Itr lo n) R1 F1 ⟨rngZ lo n, []⟩ where
  goes := fun i R F H S hi _ _ _ _ => by have : i < n := by simpa [rngZ] using hi
                                         exact this
  stops := fun R F H S _ _ _ _ => by show n ≤ _; simp [rngZ]
  yields := fun i R F H H' S v hi p e r hh y => by
    obtain ⟨rfl, rfl⟩ := y
    have : i < n := by simpa [rngZ] using hi
    refine ⟨F, .int (lo + (i : Nat)), Ex.refl F, r, ?_, by rw [Rel]⟩
    simp [rngZ, this]
/-- the iterable's argument list first -/
theorem seqI {ar : DA} {f : List PV → Sto → Out ItZ} {K : PySem.W.Frag} {σ : L2.St} {H : Hp} {Q : It → Hp → Prop} {C : List V → Hp → Prop} (h : tI T K E (dItA f ar) σ H Q)
    (hk : ∀ (xs : List PV) (S1 : Sto) (R1 : Pl) (F1 H1 : Hp) (us : List V), Rep T K R1 F1 S1 H1 → RelL T K R1 F1 xs us → OkI T K R1 F1 (f xs S1) Q (E σ) → C us H1) : tL T K E ar σ H C := by
  obtain ⟨R, F, l, S, r, e, h⟩ := h
  refine ⟨R, F, l, S, r, e, ?_⟩
  unfold dItA at h
  cases hd : ar l S with
  | ok xs S1 =>
    rw [hd] at h
    intro R1 F1 H1 us p ex r1 rx
    refine hk xs S1 R1 F1 H1 us r1 rx ?_
    have h : OkI T K R F (f xs S1) Q (E σ) := h
    cases hf : f xs S1 with
    | ok it S2 => rw [hf] at h; exact fun R' F' H' J p' ex' => h R' F' H' J (p.trans p') (ex.trans ex')
    | err x S2 => rw [hf] at h; exact PostX.mono p ex h
    | bad => rw [hf] at h; exact h
  | err x S1 => rw [hd] at h; exact h
  | bad => rw [hd] at h; exact h
theorem ji_rng1 {a : Expr} {ar : DA} {p pos : Pos} (hm : X.mg "range" = none) (ha : JA T X E [a] ar) (hg : Gl X "range" := by rfl) (hs : starEach [a] X.env = [(false, eval a X.env)] := by rfl) : JI T X E tg (.Call (.Name "range" p) [a] [] pos) (dItA rngP ar) := by
  refine pi_imp (pi_range1 hg hm ha hs) fun σ H Q h => seqI h fun xs S1 R1 F1 H1 us r1 rx h1 => ?_
  unfold rngP at h1
  split at h1
  · obtain ⟨u, rfl, rx'⟩ := rel1 rx
    have := rel_int rx'; subst this
    split at h1
    · rename_i hb
      exact ⟨_, rfl, hb.1, hb.2, h1 R1 F1 H1 _ (Pl.refl R1) (Ex.refl F1) r1 walkz_rng⟩
    · exact h1.elim
  · exact h1.elim

/-! ### enumerate, zip -/
def encZ : List PV → Nat → List PV
  | [], _ => []
  | x :: xs, i => .nd .tup [.int (i : Nat), x] :: encZ xs (i + 1)
def zipZ : List PV → List PV → List PV
  | x :: xs, y :: ys => .nd .tup [x, y] :: zipZ xs ys
  | _, _ => []
theorem encZ_get : ∀ (xs : List PV) (k i : Nat), (encZ xs k)[i]? = xs[i]?.map fun x => .nd .tup [.int ((k + i : Nat)), x]
  | [], k, i => by simp [encZ]
  | x :: xs, k, 0 => by simp [encZ]
  | x :: xs, k, i + 1 => by
    rw [encZ, List.getElem?_cons_succ, encZ_get xs (k + 1) i, List.getElem?_cons_succ]
    have e : k + 1 + i = k + (i + 1) := by omega
    rw [e]
theorem encZ_len : ∀ (xs : List PV) (k : Nat), (encZ xs k).length = xs.length
  | [], k => rfl
  | x :: xs, k => by simp [encZ, encZ_len xs (k + 1)]
theorem zipZ_len : ∀ (xs ys : List PV), (zipZ xs ys).length = min xs.length ys.length
  | [], ys => by simp [zipZ]
  | x :: xs, [] => by simp [zipZ]
  | x :: xs, y :: ys => by simp [zipZ, zipZ_len xs ys]
theorem zipZ_get : ∀ (xs ys : List PV) (i : Nat) (x y : PV), xs[i]? = some x → ys[i]? = some y → (zipZ xs ys)[i]? = some (.nd .tup [x, y])
  | [], ys, i, x, y, h, _ => by simp at h
  | a :: xs, [], i, x, y, _, h => by simp at h
  | a :: xs, b :: ys, 0, x, y, h1, h2 => by simp at h1 h2; simp [zipZ, h1, h2]
  | a :: xs, b :: ys, i + 1, x, y, h1, h2 => by simp at h1 h2; simp [zipZ, zipZ_get xs ys i x y h1 h2]
def enuP (xs : List PV) (S : Sto) : Out ItZ := match xs with
  | [x] => (match view x S with
    | some (.lst, ys) => .ok ⟨encZ ys 0, holdOf x (.lst, ys)⟩ S
    | some (.scr, ys) => .ok ⟨encZ ys 0, holdOf x (.scr, ys)⟩ S
    | _ => .bad)
  | _ => .bad
/-- a fresh pair that a turn hands out -/
theorem pair_yield {K : PySem.W.Frag} {R : Pl} {F H H' : Hp} {S : Sto} {v u w : V} {x y : PV} {T' : Addr} (r : Rep T K R F S H) (ev : v = .ref T') (hn : H T' = none) (eH : H' = upd H T' (.tup [u, w])) (h1 : Rel T K R F x u) (h2 : Rel T K R F y w) :
    ∃ F', Ex F F' ∧ Rep T K R F' S H' ∧ Rel T K R F' (.nd .tup [x, y]) v := by
  subst ev eH
  have e : Ex F (upd F T' (.tup [u, w])) := ex_upd (r.fnone hn)
  refine ⟨upd F T' (.tup [u, w]), e, r.frozen hn, ?_⟩
  rw [Rel]
  exact ⟨T', [u, w], rfl, upd_same, .cons (h1.mono (Pl.refl R) e) (.cons (h2.mono (Pl.refl R) e) .nil)⟩
theorem walkz_enu {K : PySem.W.Frag} {R1 : Pl} {F1 H1 : Hp} {S1 : Sto} {x : PV} {u : V} {k : Kd} {xs : List PV} {a : Addr} (r1 : Rep T K R1 F1 S1 H1) (rx : Rel T K R1 F1 x u) (hv : view x S1 = some (k, xs)) (hk : k = .lst ∨ k = .scr) (eu : u = .ref a) : WalkZ T K (Ite K a) R1 F1 ⟨encZ xs 0, holdOf x (k, xs)⟩ where
  goes := fun i R F H S hi p e r hh => by
    obtain ⟨b, us, eb, hs, hl⟩ := hold_view r1 rx hv p e r hh
    rw [eu] at eb; cases eb
    have hi : i < xs.length := by rw [encZ_len] at hi; exact hi
    exact walk_enum.goes i H (by rw [hl.length]; exact hi) ((shp_rd hs).1 hk)
  stops := fun R F H S p e r hh => by
    obtain ⟨b, us, eb, hs, hl⟩ := hold_view r1 rx hv p e r hh
    rw [eu] at eb; cases eb
    have := walk_enum.stops H ((shp_rd hs).1 hk)
    rw [hl.length] at this
    show (Ite K a).stop (encZ xs 0).length H
    rw [encZ_len]; exact this
  yields := fun i R F H H' S v hi p e r hh y => by
    obtain ⟨b, us, eb, hs, hl⟩ := hold_view r1 rx hv p e r hh
    rw [eu] at eb; cases eb
    have hi : i < xs.length := by rw [encZ_len] at hi; exact hi
    obtain ⟨T', z1, z2, ev, hn, eH, e1, e2⟩ := walk_enum.yields i H v H' (by rw [hl.length]; exact hi) ((shp_rd hs).1 hk) y
    cases e1
    obtain ⟨w, h1, h2⟩ := hl.get (List.getElem?_eq_getElem hi)
    have e2 : us[i]? = some z2 := e2
    rw [h1] at e2; cases e2
    obtain ⟨F', e', r', rv⟩ := pair_yield (x := .int (i : Nat)) r ev hn eH (by rw [Rel]) h2
    refine ⟨F', _, e', r', ?_, rv⟩
    show (encZ xs 0)[i]? = _
    rw [encZ_get, List.getElem?_eq_getElem hi]
    simp
theorem ji_enu {e : Expr} {elts : List Expr} {kk : Nat} {tpos p pos : Pos} {ar : DA} (hm : X.mg "enumerate" = none) (ha : JA T X E [e] ar) (hg : Gl X "enumerate" := by rfl) (hs : starEach [e] X.env = [(false, eval e X.env)] := by rfl) : JI T X E (.Tuple elts kk tpos) (.Call (.Name "enumerate" p) [e] [] pos) (dItA enuP ar) := by
  refine pi_imp (pi_enum hg hm ha hs) fun σ H Q h => seqI h fun xs S1 R1 F1 H1 us r1 rx h1 => ?_
  unfold enuP at h1
  split at h1
  · obtain ⟨u, rfl, rx'⟩ := rel1 rx
    split at h1
    · rename_i ys hv
      obtain ⟨a, us, rfl, hs, hl⟩ := view_rel r1 rx' hv
      exact ⟨a, us, rfl, (shp_rd hs).1 (.inl rfl), h1 R1 F1 H1 _ (Pl.refl R1) (Ex.refl F1) r1 (walkz_enu r1 rx' hv (.inl rfl) rfl)⟩
    · rename_i ys hv
      obtain ⟨a, us, rfl, hs, hl⟩ := view_rel r1 rx' hv
      exact ⟨a, us, rfl, (shp_rd hs).1 (.inr rfl), h1 R1 F1 H1 _ (Pl.refl R1) (Ex.refl F1) r1 (walkz_enu r1 rx' hv (.inr rfl) rfl)⟩
    · exact h1.elim
  · exact h1.elim
def zipP (xs : List PV) (S : Sto) : Out ItZ := match xs with
  | [x, y] => (match itOf x S, itOf y S with
    | .ok a _, .ok b _ => .ok ⟨zipZ a.items b.items, a.held ++ b.held⟩ S
    | _, _ => .bad)
  | _ => .bad
theorem itOf_ok {x : PV} {S S' : Sto} {it : ItZ} (h : itOf x S = .ok it S') : (∃ z, x = .str z ∧ it = strIt z) ∨ ∃ k xs, (k = .lst ∨ k = .scr ∨ k = .tup) ∧ view x S = some (k, xs) ∧ it = ⟨xs, holdOf x (k, xs)⟩ := by
  cases x with
  | str z => cases h; exact .inl ⟨z, rfl, rfl⟩
  | _ =>
    all_goals
      simp only [itOf, seqIt] at h
      split at h
      · rename_i it' hit
        cases h
        split at hit
        · rename_i xs hv; cases hit; exact .inr ⟨_, _, .inl rfl, hv, rfl⟩
        · rename_i xs hv; cases hit; exact .inr ⟨_, _, .inr (.inl rfl), hv, rfl⟩
        · rename_i xs hv; cases hit; exact .inr ⟨_, _, .inr (.inr rfl), hv, rfl⟩
        · cases hit
      · cases h
/-- a walked value as a source -/
structure ScZ (T : Tb) (K : PySem.W.Frag) (R1 : Pl) (F1 : Hp) (u : V) (sc : Sc) (it : ItZ) : Prop where
  val : ScV sc u
  rd : ∀ (R : Pl) (F H : Hp) (S : Sto), R1.as <+: R.as → Ex F1 F → Rep T K R F S H → heldB it.held S = true → ∃ us, ScAt K H sc us ∧ RelL T K R F it.items us
theorem rel_signs {K : PySem.W.Frag} {R : Pl} {F : Hp} : ∀ cs : List Nat, RelL T K R F (cs.map fun c => .str ⟨#[c]⟩) (cs.map fun c => V.str ⟨#[c]⟩)
  | [] => .nil
  | c :: cs => .cons (by rw [Rel]) (rel_signs cs)
theorem scz_of {K : PySem.W.Frag} {R1 : Pl} {F1 H1 : Hp} {S1 S' : Sto} {x : PV} {u : V} {it : ItZ} (r1 : Rep T K R1 F1 S1 H1) (rx : Rel T K R1 F1 x u) (h : itOf x S1 = .ok it S') : ∃ sc, ScZ T K R1 F1 u sc it := by
  rcases itOf_ok h with ⟨z, rfl, rfl⟩ | ⟨k, xs, hk, hv, rfl⟩
  · have := rel_str rx; subst this
    exact ⟨.s z, rfl, fun R F H S p e r hh => ⟨_, rfl, rel_signs _⟩⟩
  · obtain ⟨a, us0, rfl, _, _⟩ := view_rel r1 rx hv
    rcases hk with hk | hk | hk
    · refine ⟨.l a, rfl, fun R F H S p e r hh => ?_⟩
      obtain ⟨b, us, eb, hs, hl⟩ := hold_view r1 rx hv p e r hh
      cases eb
      exact ⟨us, (shp_rd hs).1 (.inl hk), hl⟩
    · refine ⟨.l a, rfl, fun R F H S p e r hh => ?_⟩
      obtain ⟨b, us, eb, hs, hl⟩ := hold_view r1 rx hv p e r hh
      cases eb
      exact ⟨us, (shp_rd hs).1 (.inr hk), hl⟩
    · refine ⟨.t a, rfl, fun R F H S p e r hh => ?_⟩
      obtain ⟨b, us, eb, hs, hl⟩ := hold_view r1 rx hv p e r hh
      cases eb
      exact ⟨us, (shp_rd hs).2 hk, hl⟩
theorem heldB_app {a b : List (PV × Kd × List PV)} {S : Sto} (h : heldB (a ++ b) S = true) : heldB a S = true ∧ heldB b S = true :=
  ⟨heldB_of fun p hp => heldB_all h p (List.mem_append_left _ hp), heldB_of fun p hp => heldB_all h p (List.mem_append_right _ hp)⟩
theorem ji_zip {e e2 : Expr} {elts : List Expr} {kk : Nat} {tpos p pos : Pos} {ar : DA} (hm : X.mg "zip" = none) (ha : JA T X E [e, e2] ar) (hg : Gl X "zip" := by rfl) (hs : starEach [e, e2] X.env = (false, eval e X.env) :: starEach [e2] X.env := by rfl) (hpl : (backTo pos (starEach [e2] X.env)).any (·.1) = false := by rfl) :
    JI T X E (.Tuple elts kk tpos) (.Call (.Name "zip" p) [e, e2] [] pos) (dItA zipP ar) := by
  refine pi_imp (pi_zipG hm ha hg hs hpl) fun σ H Q h => seqI h fun xs S1 R1 F1 H1 us r1 rx h1 => ?_
  unfold zipP at h1
  split at h1
  · obtain ⟨u, w, rfl, rx1, rx2⟩ := rel2 rx
    split at h1
    · rename_i x y a S2 b S3 i1 i2
      obtain ⟨sc1, z1⟩ := scz_of r1 rx1 i1
      obtain ⟨sc2, z2⟩ := scz_of r1 rx2 i2
      have ok0 : ∀ {x : PV} {it : ItZ} {S' : Sto} {u : V}, Rel T X.K R1 F1 x u → itOf x S1 = .ok it S' → heldB it.held S1 = true := fun {x it S' u} rx h => by
        rcases itOf_ok h with ⟨z, rfl, rfl⟩ | ⟨k, xs, hk, hv, rfl⟩
        · exact heldB_nil S1
        · refine heldB_of fun p hp => ?_
          cases x with
          | ref n => rw [List.mem_singleton.mp hp]; exact hv
          | _ => cases hp
      obtain ⟨us1, q1, l1⟩ := z1.rd R1 F1 H1 S1 (List.prefix_refl _) (Ex.refl F1) r1 (ok0 rx1 i1)
      obtain ⟨us2, q2, l2⟩ := z2.rd R1 F1 H1 S1 (List.prefix_refl _) (Ex.refl F1) r1 (ok0 rx2 i2)
      refine ⟨sc1, sc2, u, w, us1, us2, rfl, z1.val, z2.val, q1, q2, h1 R1 F1 H1 _ (Pl.refl R1) (Ex.refl F1) r1 ⟨fun i R F H S hi p e r hh => ?_, fun R F H S p e r hh => ?_, fun i R F H H' S v hi p e r hh y => ?_⟩⟩
      · obtain ⟨h1, h2⟩ := heldB_app hh
        obtain ⟨xs1, c1, m1⟩ := z1.rd R F H S p e r h1
        obtain ⟨xs2, c2, m2⟩ := z2.rd R F H S p e r h2
        have hi : i < (zipZ a.items b.items).length := hi
        rw [zipZ_len, ← m1.length, ← m2.length] at hi
        exact (walk_zipG rfl).goes i H hi ⟨c1, c2⟩
      · obtain ⟨h1, h2⟩ := heldB_app hh
        obtain ⟨xs1, c1, m1⟩ := z1.rd R F H S p e r h1
        obtain ⟨xs2, c2, m2⟩ := z2.rd R F H S p e r h2
        show (ItzG X.K sc1 sc2).stop (zipZ a.items b.items).length H
        rw [zipZ_len, ← m1.length, ← m2.length]
        exact (walk_zipG rfl).stops H ⟨c1, c2⟩
      · obtain ⟨h1, h2⟩ := heldB_app hh
        obtain ⟨xs1, c1, m1⟩ := z1.rd R F H S p e r h1
        obtain ⟨xs2, c2, m2⟩ := z2.rd R F H S p e r h2
        have hi : i < (zipZ a.items b.items).length := hi
        rw [zipZ_len] at hi
        obtain ⟨T', y1, y2, ev, hn, eH, e1, e2⟩ := (walk_zipG (n := min xs1.length xs2.length) rfl).yields i H v H' (by rw [m1.length, m2.length]; exact hi) ⟨c1, c2⟩ y
        have ha : i < a.items.length := by omega
        have hb : i < b.items.length := by omega
        obtain ⟨w1, g1, g2⟩ := m1.get (List.getElem?_eq_getElem ha)
        obtain ⟨w2, g3, g4⟩ := m2.get (List.getElem?_eq_getElem hb)
        have e1 : xs1[i]? = some y1 := e1
        have e2 : xs2[i]? = some y2 := e2
        rw [g1] at e1; cases e1
        rw [g3] at e2; cases e2
        obtain ⟨F', e', r', rv⟩ := pair_yield r ev hn eH g2 g4
        exact ⟨F', _, e', r', zipZ_get _ _ i _ _ (List.getElem?_eq_getElem ha) (List.getElem?_eq_getElem hb), rv⟩
    · exact h1.elim
  · exact h1.elim
end
end Z
end
section
set_option Elab.async false
set_option linter.all false
set_option maxRecDepth 100000
set_option maxHeartbeats 1000000
/-! Z8: statements. -/
noncomputable section
namespace Z
open PySem PySem.Spec PyProof.Rows L2

def dSkip : DS := fun l S => .nx l S
def dSeq (a b : DS) : DS := fun l S => (a l S).seq b
def dExpr (d : DE) : DS := fun l S => (d l S).st l fun _ S1 => .nx l S1
def dRet (d : DE) : DS := fun l S => (d l S).st l fun v S1 => .ret v S1
def dRetN : DS := fun _ S => .ret .non S
def dIfS (c : DB) (a b : DS) : DS := fun l S => (c l S).st l fun k S1 => if k = true then a l S1 else b l S1
def dSet (i : Nat) (d : DE) : DS := fun l S => (d l S).st l fun v S1 => .nx (l.set i (some v)) S1
def dNever : DS := fun _ _ => .bad
def dBrk : DS := fun l S => .brk l S
def dCnt : DS := fun l S => .cnt l S
/-- a target of any kind -/
abbrev DG := PV → Loc → Sto → OutS
def onlyNx (o : OutS) : OutS := match o with
  | .nx l S => .nx l S
  | _ => .bad
def dAsg (d : DE) (g : DG) : DS := fun l S => (d l S).st l fun v S1 => onlyNx (g v l S1)
def gzN (i : Nat) : DG := fun v l S => .nx (l.set i (some v)) S
def gzL : List DG → List PV → Loc → Sto → OutS
  | [], [], l, S => .nx l S
  | g :: gs, x :: xs, l, S => (g x l S).seq fun l1 S1 => gzL gs xs l1 S1
  | _, _, _, _ => .bad
def gzT (gs : List DG) : DG := fun v l S => match v with
  | .nd .tup xs => gzL gs xs l S
  | _ => .bad
/-- o[i] = v -/
def putP (x i v : PV) (S : Sto) : Option Sto := match x with
  | .ref n => (match S[n]? with
    | some (some (.lst, xs)) => (match i with
      | .int k => (ixN xs.length k).map fun j => S.set n (some (.lst, xs.set j v))
      | _ => none)
    | _ => none)
  | _ => none
def gzI (o i : DE) : DG := fun v l S => (o l S).st l fun x S1 => (i l S1).st l fun y S2 => match putP x y v S2 with
  | some S3 => .nx l S3
  | none => .bad
def OkG (T : Tb) (K : PySem.W.Frag) (R : Pl) (F : Hp) (o : OutS) (Q : L2.St → Hp → Prop) : Prop := match o with
  | .nx l S => PostE T K R F l S Q
  | _ => False
def tG (T : Tb) (K : PySem.W.Frag) (d : DG) : TG := fun u σ H Q => ∃ R F l S x, Rep T K R F S H ∧ RelE T K R F l σ ∧ Rel T K R F x u ∧ OkG T K R F (d x l S) Q
def tGs (T : Tb) (K : PySem.W.Frag) (ds : List DG) : TGs := fun us σ H Q => ∃ R F l S xs, Rep T K R F S H ∧ RelE T K R F l σ ∧ RelL T K R F xs us ∧ OkG T K R F (gzL ds xs l S) Q
abbrev JGz (T : Tb) (X : Cx) (e : Expr) (d : DG) : Prop := PG X e (tG T X.K d)
abbrev JGzs (T : Tb) (X : Cx) (es : List Expr) (ds : List DG) : Prop := PGs X es (tGs T X.K ds)
theorem pg_imp {X : Cx} {e : Expr} {t t' : TG} (h : PG X e t) (i : ∀ v σ H Q, t' v σ H Q → t v σ H Q) : PG X e t' := ⟨fun pins s σ H v u Q I r q => h.run pins s σ H v u Q I r (i v σ H Q q)⟩
theorem pgs_imp {X : Cx} {e : List Expr} {t t' : TGs} (h : PGs X e t) (i : ∀ v σ H Q, t' v σ H Q → t v σ H Q) : PGs X e t' := ⟨fun pins s σ H v u Q I r q => h.run pins s σ H v u Q I r (i v σ H Q q)⟩
section
variable {T : Tb} {X : Cx} {E : XS} {pos : Pos} {x : Str} {e : Expr} {d : DE}
theorem OkG.mono {K : PySem.W.Frag} {R R1 : Pl} {F F1 : Hp} {o : OutS} {Q : L2.St → Hp → Prop} (p : Pl.le R R1) (x : Ex F F1) (h : OkG T K R F o Q) : OkG T K R1 F1 o Q := by
  cases o with
  | nx l S => exact PostE.mono p x h
  | _ => exact h.elim

/-! ### targets -/
theorem jgz_n (i : Nat) (hN : X.N.Nodup) (hi : X.N[i]? = some x := by rfl) (hx : L2.Loc X.env.scope x := by first | exact Or.inl rfl | exact Or.inr rfl) (hf : X.fn x = true ∨ X.env.scope.names.lookup x = some .local := by first | exact .inl rfl | exact .inr rfl) : JGz T X (.Name x pos) (gzN i) :=
  pg_imp (pg_name hN hi hx hf) fun u σ H Q ⟨R, F, l, S, y, r, e, ry, h⟩ => PostE.here r (e.set i ry) h
theorem jgzs_nil : JGzs T X [] [] := pgs_imp pgs_nil fun us σ H Q ⟨R, F, l, S, xs, r, e, rx, h⟩ => by
  cases xs with
  | nil => rw [RelL] at rx; exact ⟨rx, PostE.here r e h⟩
  | cons y ys => exact h.elim
theorem jgzs_cons {es : List Expr} {g : DG} {gs : List DG} (h1 : JGz T X e g) (h2 : JGzs T X es gs) (hs : (assignEach (e :: es) X.env).map (·.2) = assign e X.env :: (assignEach es X.env).map (·.2) := by rfl) : JGzs T X (e :: es) (g :: gs) :=
  pgs_imp (pgs_cons h1 h2 hs) fun us σ H Q ⟨R, F, l, S, xs, r, e, rx, h⟩ => by
    cases xs with
    | nil => exact h.elim
    | cons y ys =>
      rw [RelL] at rx
      obtain ⟨u, vs, rfl, r1, r2⟩ := rx
      refine ⟨u, vs, rfl, R, F, l, S, y, r, e, r1, ?_⟩
      have h : OkG T X.K R F ((g y l S).seq fun l1 S1 => gzL gs ys l1 S1) Q := h
      cases hg : g y l S with
      | nx l1 S1 =>
        rw [hg] at h
        exact fun R1 F1 H1 σ1 p ex r' e' => ⟨R1, F1, l1, S1, ys, r', e', r2.mono p ex, OkG.mono p ex h⟩
      | _ => rw [hg] at h; exact h.elim
theorem gzL_len : ∀ {gs : List DG} {xs : List PV} {l l' : Loc} {S S' : Sto}, gzL gs xs l S = .nx l' S' → xs.length = gs.length
  | [], [], _, _, _, _, _ => rfl
  | [], _ :: _, _, _, _, _, h => by cases h
  | _ :: _, [], _, _, _, _, h => by cases h
  | g :: gs, x :: xs, l, l', S, S', h => by
    have h : (g x l S).seq (fun l1 S1 => gzL gs xs l1 S1) = .nx l' S' := h
    cases hg : g x l S with
    | nx l1 S1 => rw [hg] at h; rw [List.length_cons, List.length_cons, gzL_len (gs := gs) h]
    | _ => rw [hg] at h; cases h
theorem jgz_t {es : List Expr} {k : Nat} {gs : List DG} (hc : X.calm = true) (h : JGzs T X es gs) (hn : (assignEach es X.env).length = gs.length := by rfl) (hst : (assignEach es X.env).findIdx? (·.1) = none := by rfl) : JGz T X (.Tuple es k pos) (gzT gs) :=
  pg_imp (pg_tup hc h hn hst) fun u σ H Q ⟨R, F, l, S, y, r, e, ry, h⟩ => by
    cases y with
    | nd kd xs =>
      cases kd with
      | tup =>
        rw [Rel] at ry
        obtain ⟨a, us, rfl, hs, hl⟩ := ry
        have h : OkG T X.K R F (gzL gs xs l S) Q := h
        refine ⟨a, us, rfl, SqT.of (r.ex.at_ hs), ?_, R, F, l, S, xs, r, e, hl, h⟩
        cases hg : gzL gs xs l S with
        | nx l1 S1 => rw [hl.length, gzL_len hg]
        | _ => rw [hg] at h; exact h.elim
      | _ => exact h.elim
    | _ => exact h.elim
theorem put_rel {K : PySem.W.Frag} {R : Pl} {F H : Hp} {S S' : Sto} (r : Rep T K R F S H) {o i v : PV} {ou iu vu : V} (ro : Rel T K R F o ou) (ri : Rel T K R F i iu) (rv : Rel T K R F v vu) (h : putP o i v S = some S') {Q : Hp → Prop} (hq : ∀ H', Rep T K R F S' H' → Q H') : rSetL ou iu vu H Q := by
  cases o with
  | ref n =>
    simp only [putP] at h
    split at h
    · rename_i xs hS
      cases i with
      | int k =>
        have := rel_int ri; subst this
        rw [Option.map_eq_some_iff] at h
        obtain ⟨j, h1, rfl⟩ := h
        rw [Rel] at ro
        obtain ⟨a, rfl, ha⟩ := ro
        obtain ⟨hf, us, hl, hx⟩ := r.live n a .lst xs ha hS
        have hl : H a = some (.lst us) := hl
        refine ⟨a, us, k, j, rfl, rfl, hl, by rw [hx.length]; exact h1, hq _ (r.put ha hf (k := .lst) (xs := xs.set j v) upd_same (RelL.set rv j hx))⟩
      | _ => simp at h
    · cases h
  | _ => cases h
theorem jgz_i {o i : Expr} {dO dI : DE} (ho : JE T X E o dO) (hi : JE T X E i dI)
    (ha : ∀ v, assign (.Subscript o i pos) X.env v = (do
      let ov ← holding [v] (eval o X.env)
      let iv ← holding [v, ov] (eval i X.env)
      standAt pos
      holding [v, ov, iv] (setItem ov iv v)
      release [v, ov, iv] []) := by intro _; rfl) : JGz T X (.Subscript o i pos) (gzI dO dI) :=
  pg_imp (pg_sub ho hi set_list ha) fun u σ H Q ⟨R, F, l, S, y, r, e, ry, h⟩ => by
    refine ⟨R, F, l, S, r, e, ?_⟩
    have h : OkG T X.K R F ((dO l S).st l fun x S1 => (dI l S1).st l fun z S2 => match putP x z y S2 with
      | some S3 => .nx l S3
      | none => .bad) Q := h
    cases hd : dO l S with
    | ok x S1 =>
      rw [hd] at h
      intro R1 F1 H1 u1 p ex r1 rx
      have h1 := OkG.mono p ex h
      refine ⟨R1, F1, l, S1, r1, e.mono p ex, ?_⟩
      have h1 : OkG T X.K R1 F1 ((dI l S1).st l fun z S2 => match putP x z y S2 with
        | some S3 => .nx l S3
        | none => .bad) Q := h1
      cases hd2 : dI l S1 with
      | ok z S2 =>
        rw [hd2] at h1
        intro R2 F2 H2 u2 p2 ex2 r2 rz
        have h2 := OkG.mono p2 ex2 h1
        have h2 : OkG T X.K R2 F2 (match putP x z y S2 with
          | some S3 => .nx l S3
          | none => .bad) Q := h2
        split at h2
        · rename_i S3 hp
          exact put_rel r2 (rx.mono p2 ex2) rz ((ry.mono p ex).mono p2 ex2) hp fun H' r' => PostE.here r' ((e.mono p ex).mono p2 ex2) h2
        · exact h2.elim
      | err x' S2 => rw [hd2] at h1; exact h1.elim
      | bad => rw [hd2] at h1; exact h1.elim
    | err x' S1 => rw [hd] at h; exact h.elim
    | bad => rw [hd] at h; exact h.elim

/-! ### statements -/
theorem PostXS.now {K : PySem.W.Frag} {R : Pl} {F : Hp} {l : Loc} {σ : L2.St} {e : XV} {S : Sto} (re : RelE T K R F l σ) (h : PostXS T K R F l e S E) : PostX T K R F e S (E σ) := fun R' F' H cls d p x r rx => h R' F' H σ cls d p x r (re.mono p x) rx
theorem st_v {K : PySem.W.Frag} {σ : L2.St} {H : Hp} {D : Ends} {k : PV → Sto → OutS} {C : VK} {R : Pl} {F : Hp} {l : Loc} {S : Sto} (r : Rep T K R F S H) (e : RelE T K R F l σ) (h : OkS T K R F ((d l S).st l k) D E)
    (hk : ∀ (x : PV) (S1 : Sto) (R1 : Pl) (F1 H1 : Hp) (u : V), Pl.le R R1 → Ex F F1 → Rep T K R1 F1 S1 H1 → Rel T K R1 F1 x u → RelE T K R1 F1 l σ → OkS T K R1 F1 (k x S1) D E → C u H1) : tV T K E d σ H C := by
  refine ⟨R, F, l, S, r, e, ?_⟩
  cases hd : d l S with
  | ok x S1 =>
    rw [hd] at h
    exact fun R1 F1 H1 u p x' r1 rx => hk x S1 R1 F1 H1 u p x' r1 rx (e.mono p x') (OkS.mono p x' h)
  | err e' S1 => rw [hd] at h; exact PostXS.now e h
  | bad => rw [hd] at h; exact h
theorem st_t {K : PySem.W.Frag} {σ : L2.St} {H : Hp} {D : Ends} {c : DB} {k : Bool → Sto → OutS} {C : Bool → Hp → Prop} {R : Pl} {F : Hp} {l : Loc} {S : Sto} (r : Rep T K R F S H) (e : RelE T K R F l σ) (h : OkS T K R F ((c l S).st l k) D E)
    (hk : ∀ (x : Bool) (S1 : Sto) (R1 : Pl) (F1 H1 : Hp), Pl.le R R1 → Ex F F1 → Rep T K R1 F1 S1 H1 → RelE T K R1 F1 l σ → OkS T K R1 F1 (k x S1) D E → C x H1) : tT T K E c σ H C := by
  refine ⟨R, F, l, S, r, e, ?_⟩
  cases hd : c l S with
  | ok x S1 =>
    rw [hd] at h
    exact fun R1 F1 H1 p x' r1 => hk x S1 R1 F1 H1 p x' r1 (e.mono p x') (OkS.mono p x' h)
  | err e' S1 => rw [hd] at h; exact PostXS.now e h
  | bad => rw [hd] at h; exact h
theorem js_expr (h : JE T X E e d) (hs : swapsWith e none pos.line X.env = pure false := by rfl) : JS T X E (.Expr e pos) (dExpr d) :=
  ps_imp (ps_expr h hs) fun D σ H ⟨R, F, l, S, r, e, h⟩ => st_v r e h fun x S1 R1 F1 H1 u p ex r1 rx e1 h1 => PostE.here r1 e1 h1
theorem js_ret (h : JE T X E e d) : JS T X E (.Return (some e) pos) (dRet d) :=
  ps_imp (ps_ret h) fun D σ H ⟨R, F, l, S, r, e, h⟩ => st_v r e h fun x S1 R1 F1 H1 u p ex r1 rx e1 h1 => PostV.here r1 rx h1
theorem js_if {c : Expr} {a b : List Stmt} {dc : DB} {da db : DS} (hc : JT T X E c dc) (ha : JB T X E a da) (hb : JB T X E b db) : JS T X E (.If c a b pos) (dIfS dc da db) :=
  ps_imp (ps_if hc ha hb) fun D σ H ⟨R, F, l, S, r, e, h⟩ => st_t r e h fun x S1 R1 F1 H1 p ex r1 e1 h1 => by
    cases x with
    | true => exact ⟨R1, F1, l, S1, r1, e1, h1⟩
    | false => exact ⟨R1, F1, l, S1, r1, e1, h1⟩
theorem js_set (i : Nat) {pos' : Pos} (hN : X.N.Nodup) (he : JE T X E e d) (hi : X.N[i]? = some x := by rfl) (hx : L2.Loc X.env.scope x := by first | exact Or.inl rfl | exact Or.inr rfl) (hs : swapsWith e (some (.Name x pos')) pos.line X.env = pure false := by rfl) (hf : X.fn x = true ∨ X.env.scope.names.lookup x = some .local := by first | exact .inl rfl | exact .inr rfl) :
    JS T X E (.Assign [.Name x pos'] e pos) (dSet i d) :=
  ps_imp (ps_set hN hi hx he hs hf) fun D σ H ⟨R, F, l, S, r, e, h⟩ => st_v r e h fun x S1 R1 F1 H1 u p ex r1 rx e1 h1 => PostE.here r1 (e1.set i rx) h1
theorem js_asg {tg : Expr} {g : DG} (he : JE T X E e d) (hg : JGz T X tg g) (hs : swapsWithSole [tg] e pos.line X.env = pure false := by rfl) (hw : swappedStores [tg] e X.env = pure none := by rfl)
    (h1 : (assignEach [tg] X.env).map (·.2) = [assign tg X.env] := by rfl) : JS T X E (.Assign [tg] e pos) (dAsg d g) :=
  ps_imp (ps_asg he hg hs hw h1) fun D σ H ⟨R, F, l, S, r, e, h⟩ => st_v r e h fun x S1 R1 F1 H1 u p ex r1 rx e1 h1 => by
    refine ⟨R1, F1, l, S1, x, r1, e1, rx, ?_⟩
    have h1 : OkS T X.K R1 F1 (onlyNx (g x l S1)) D E := h1
    cases hg : g x l S1 with
    | nx l2 S2 => rw [hg] at h1; exact h1
    | _ => rw [hg] at h1; exact h1.elim
/-- a, b = x, y with plain local names -/
def dPar (i j : Nat) (ar : DA) : DS := fun l S => (ar l S).st l fun xs S1 => match xs with
  | [v, w] => .nx ((l.set i (some v)).set j (some w)) S1
  | _ => .bad
def dPar3 (i j k : Nat) (ar : DA) : DS := fun l S => (ar l S).st l fun xs S1 => match xs with
  | [u, v, w] => .nx (((l.set i (some u)).set j (some v)).set k (some w)) S1
  | _ => .bad
theorem st_l {K : PySem.W.Frag} {σ : L2.St} {H : Hp} {D : Ends} {ar : DA} {k : List PV → Sto → OutS} {C : List V → Hp → Prop} {R : Pl} {F : Hp} {l : Loc} {S : Sto} (r : Rep T K R F S H) (e : RelE T K R F l σ) (h : OkS T K R F ((ar l S).st l k) D E)
    (hk : ∀ (x : List PV) (S1 : Sto) (R1 : Pl) (F1 H1 : Hp) (u : List V), Pl.le R R1 → Ex F F1 → Rep T K R1 F1 S1 H1 → RelL T K R1 F1 x u → RelE T K R1 F1 l σ → OkS T K R1 F1 (k x S1) D E → C u H1) : tL T K E ar σ H C := by
  refine ⟨R, F, l, S, r, e, ?_⟩
  cases hd : ar l S with
  | ok x S1 =>
    rw [hd] at h
    exact fun R1 F1 H1 u p x' r1 rx => hk x S1 R1 F1 H1 u p x' r1 rx (e.mono p x') (OkS.mono p x' h)
  | err e' S1 => rw [hd] at h; exact PostXS.now e h
  | bad => rw [hd] at h; exact h
theorem js_par (i j : Nat) {x y : Str} {a b : Expr} {ar : DA} {px py pt : Pos} {kt k2 pt2} (hc : X.calm = true) (hN : X.N.Nodup) (ha : JA T X E [a, b] ar) (hi : X.N[i]? = some x := by rfl) (hj : X.N[j]? = some y := by rfl) (hij : i ≠ j := by decide)
    (hx : X.env.scope.names.lookup x = some .local := by rfl) (hy : X.env.scope.names.lookup y = some .local := by rfl)
    (hw : swappedStores [.Tuple [.Name x px, .Name y py] kt pt] (.Tuple [a, b] k2 pt2) X.env = pure (some [x, y]) := by rfl)
    (hs : swapsWithSole [.Tuple [.Name x px, .Name y py] kt pt] (.Tuple [a, b] k2 pt2) pos.line X.env = pure false := by rfl) : JS T X E (.Assign [.Tuple [.Name x px, .Name y py] kt pt] (.Tuple [a, b] k2 pt2) pos) (dPar i j ar) :=
  ps_imp (ps_par hc hN hi hj hij hx hy ha hw hs) fun D σ H ⟨R, F, l, S, r, e, h⟩ => st_l r e h fun xs S1 R1 F1 H1 us p ex r1 rx e1 h1 => by
    split at h1
    · obtain ⟨v, w, rfl, r2, r3⟩ := rel2 rx
      exact ⟨v, w, rfl, PostE.here r1 ((e1.set i r2).set j r3) h1⟩
    · exact h1.elim

/-! ### blocks -/
theorem seq_s {K : PySem.W.Frag} {R : Pl} {F : Hp} {o : OutS} {k : Loc → Sto → OutS} {D : Ends} {b : DS} (hb : k = b) (h : OkS T K R F (o.seq k) D E) : OkS T K R F o { D with nx := tS T K E b D } E := by
  subst hb
  cases o with
  | nx l S => exact fun R1 F1 H1 σ p ex r e => ⟨R1, F1, l, S, r, e, OkS.mono p ex h⟩
  | ret v S => exact h
  | brk l S => exact h
  | cnt l S => exact h
  | err e l S => exact h
  | bad => exact h
theorem jb_nil : JB T X E [] dSkip := pss_imp pss_nil fun D σ H ⟨R, F, l, S, r, e, h⟩ => PostE.here r e h
theorem jb_one {st : Stmt} {ds : DS} (h : JS T X E st ds) : JB T X E [st] ds := pss_one h
theorem jb_cons {st : Stmt} {rest : List Stmt} {ds db : DS} (h : JS T X E st ds) (hr : JB T X E rest db) : JB T X E (st :: rest) (dSeq ds db) :=
  pss_imp (pss_cons h hr) fun D σ H ⟨R, F, l, S, r, e, h⟩ => ⟨R, F, l, S, r, e, seq_s rfl h⟩

/-! ### for -/
def forZ (t : TgZ) (hs : List (PV × Kd × List PV)) (b : DS) : List PV → Loc → Sto → OutS
  | [], l, S => .nx l S
  | x :: xs, l, S => match asg t x with
    | none => .bad
    | some ps => match b (setZ l ps) S with
      | .nx l1 S1 => if heldB hs S1 = true then forZ t hs b xs l1 S1 else .bad
      | .cnt l1 S1 => if heldB hs S1 = true then forZ t hs b xs l1 S1 else .bad
      | .brk l1 S1 => .nx l1 S1
      | o => o
def dFor (di : DI) (t : TgZ) (b : DS) : DS := fun l S => (di l S).st l fun it S1 => if heldB it.held S1 = true then forZ t it.held b it.items l S1 else .bad
theorem js_for {tg iter : Expr} {body : List Stmt} {di : DI} {t : TgZ} {b : DS} (hp : PassesOwn (model X.prog X.w) X.A X.env X.xe) (hc : X.calm = true) (hi : JI T X E tg iter di) (hg : JG X tg t) (hb : JB T X E body b)
    (hs : ∀ x, foldedSetIterable iter X.env x = pure x := by intro _; rfl) : JS T X E (.For tg iter body [] pos) (dFor di t b) := by
  refine ps_imp (ps_for hp hc hi hg hb hs) fun D σ H ⟨R, F, l, S, r, e, h⟩ => ⟨R, F, l, S, r, e, ?_⟩
  unfold dFor at h
  cases hd : di l S with
  | bad => rw [hd] at h; exact h.elim
  | err x S1 => rw [hd] at h; exact PostXS.now e h
  | ok it S1 =>
    rw [hd] at h
    intro R1 F1 H1 J p ex r1 wz
    have h : OkS T X.K R F (if heldB it.held S1 = true then forZ t it.held b it.items l S1 else .bad) D E := h
    split at h
    · rename_i hh
      refine ⟨fun i m σ' H' => m = it.items.length - i ∧ i ≤ it.items.length ∧ ∃ R2 F2 l2 S2, Pl.le R1 R2 ∧ Ex F1 F2 ∧ Rep T X.K R2 F2 S2 H' ∧ RelE T X.K R2 F2 l2 σ' ∧ heldB it.held S2 = true ∧ OkS T X.K R2 F2 (forZ t it.held b (it.items.drop i) l2 S2) D E,
        ⟨_, rfl, Nat.zero_le _, R1, F1, l, S1, Pl.refl R1, Ex.refl F1, r1, e.mono p ex, hh, OkS.mono p ex h⟩, ?_⟩
      rintro i m σ' H' ⟨rfl, hi, R2, F2, l2, S2, p2, ex2, r2, e2, hh2, h2⟩
      by_cases hlt : i < it.items.length
      · refine .inr ⟨wz.goes i R2 F2 H' S2 hlt p2.1 ex2 r2 hh2, fun σ3 H3 => i + 1 ≤ it.items.length ∧ ∃ R2 F2 l2 S2, Pl.le R1 R2 ∧ Ex F1 F2 ∧ Rep T X.K R2 F2 S2 H3 ∧ RelE T X.K R2 F2 l2 σ3 ∧ heldB it.held S2 = true ∧ OkS T X.K R2 F2 (forZ t it.held b (it.items.drop (i + 1)) l2 S2) D E,
          fun σ3 H3 ⟨q1, q2⟩ => ⟨it.items.length - (i + 1), by omega, rfl, q1, q2⟩, fun v H3 y => ?_⟩
        obtain ⟨F3, x, ex3, r3, hx, rv⟩ := wz.yields i R2 F2 H' H3 S2 v hlt p2.1 ex2 r2 hh2 y
        have hdr : it.items.drop i = x :: it.items.drop (i + 1) := by
          rw [List.drop_eq_getElem_cons hlt]
          rw [List.getElem?_eq_getElem hlt] at hx
          cases hx; rfl
        rw [hdr, forZ] at h2
        cases ha : asg t x with
        | none => rw [ha] at h2; exact h2.elim
        | some ps =>
          rw [ha] at h2
          refine gOf_ok r3 t x v l2 σ' ps _ (e2.mono (Pl.refl R2) ex3) rv ha fun qs _ e3 => ⟨R2, F3, setZ l2 ps, S2, r3, e3, ?_⟩
          have h3 := OkS.mono (Pl.refl R2) ex3 h2
          have h3 : OkS T X.K R2 F3 (match b (setZ l2 ps) S2 with
            | .nx l1 S1 => if heldB it.held S1 = true then forZ t it.held b (it.items.drop (i + 1)) l1 S1 else .bad
            | .cnt l1 S1 => if heldB it.held S1 = true then forZ t it.held b (it.items.drop (i + 1)) l1 S1 else .bad
            | .brk l1 S1 => .nx l1 S1
            | o => o) D E := h3
          cases hb2 : b (setZ l2 ps) S2 with
          | nx l4 S4 =>
            rw [hb2] at h3
            simp only at h3
            split at h3
            · rename_i hh4
              exact fun R4 F4 H4 σ4 p4 ex4 r4 e4 => ⟨hlt, R4, F4, l4, S4, p2.trans p4, (ex2.trans ex3).trans ex4, r4, e4, hh4, OkS.mono p4 ex4 h3⟩
            · exact h3.elim
          | cnt l4 S4 =>
            rw [hb2] at h3
            simp only at h3
            split at h3
            · rename_i hh4
              exact fun R4 F4 H4 σ4 p4 ex4 r4 e4 => ⟨hlt, R4, F4, l4, S4, p2.trans p4, (ex2.trans ex3).trans ex4, r4, e4, hh4, OkS.mono p4 ex4 h3⟩
            · exact h3.elim
          | brk l4 S4 => rw [hb2] at h3; exact h3
          | ret v4 S4 => rw [hb2] at h3; exact h3
          | err x4 l4 S4 => rw [hb2] at h3; exact h3
          | bad => rw [hb2] at h3; exact h3.elim
      · have e' : i = it.items.length := by omega
        subst e'
        rw [List.drop_length, forZ] at h2
        exact .inl ⟨wz.stops R2 F2 H' S2 p2.1 ex2 r2 hh2, PostE.here r2 e2 h2⟩
    · exact h.elim

/-! ### while -/
def whileN (c : DB) (b : DS) : Nat → Loc → Sto → OutS
  | 0, _, _ => .bad
  | n + 1, l, S => (c l S).st l fun k S1 => if k = true then (match b l S1 with
    | .nx l2 S2 => whileN c b n l2 S2
    | .cnt l2 S2 => whileN c b n l2 S2
    | .brk l2 S2 => .nx l2 S2
    | o => o) else .nx l S1
open Classical in
def dWhile (c : DB) (b : DS) : DS := fun l S => if h : ∃ n, whileN c b n l S ≠ .bad then whileN c b (Classical.choose h) l S else .bad
theorem whileN_mono {c : DB} {b : DS} : ∀ (n m : Nat) (l : Loc) (S : Sto), n ≤ m → whileN c b n l S ≠ .bad → whileN c b m l S = whileN c b n l S
  | 0, m, l, S, _, h => absurd rfl h
  | n + 1, 0, l, S, h, _ => absurd h (by omega)
  | n + 1, m + 1, l, S, hle, h => by
    rw [whileN] at h ⊢
    rw [whileN]
    cases hc : c l S with
    | bad => rw [hc] at h; exact absurd rfl h
    | err x S1 => rfl
    | ok k S1 =>
      rw [hc] at h
      simp only [Out.st] at h ⊢
      cases k with
      | false => rfl
      | true =>
        simp only [if_true] at h ⊢
        cases hb : b l S1 with
        | nx l2 S2 => rw [hb] at h; exact whileN_mono n m l2 S2 (by omega) h
        | cnt l2 S2 => rw [hb] at h; exact whileN_mono n m l2 S2 (by omega) h
        | _ => rfl
theorem dWhile_eq {c : DB} {b : DS} {n : Nat} {l : Loc} {S : Sto} (h : whileN c b n l S ≠ .bad) : dWhile c b l S = whileN c b n l S := by
  have hx : ∃ n, whileN c b n l S ≠ .bad := ⟨n, h⟩
  unfold dWhile
  rw [dif_pos hx]
  have h2 := Classical.choose_spec hx
  rcases Nat.le_total n (Classical.choose hx) with z | z
  · exact whileN_mono _ _ l S z h
  · exact (whileN_mono _ _ l S z h2).symm
theorem js_while {cond : Expr} {body : List Stmt} {c : DB} {b : DS} (hp : PassesOwn (model X.prog X.w) X.A X.env X.xe) (hc : JT T X E cond c) (hb : JB T X E body b) : JS T X E (.While cond body [] pos) (dWhile c b) := by
  refine ps_imp (ps_while hp hc hb) fun D σ H ⟨R, F, l, S, r, e, h⟩ => ?_
  by_cases hx : ∃ n, whileN c b n l S ≠ .bad
  · obtain ⟨n, hn⟩ := hx
    rw [dWhile_eq hn] at h
    refine ⟨fun m σ' H' => ∃ R2 F2 l2 S2, Rep T X.K R2 F2 S2 H' ∧ RelE T X.K R2 F2 l2 σ' ∧ OkS T X.K R2 F2 (whileN c b m l2 S2) D E, ⟨n, R, F, l, S, r, e, h⟩, ?_⟩
    rintro m σ' H' ⟨R2, F2, l2, S2, r2, e2, h2⟩
    cases m with
    | zero => exact h2.elim
    | succ m =>
      rw [whileN] at h2
      refine st_t r2 e2 h2 fun k S3 R3 F3 H3 p ex r3 e3 h3 => ?_
      cases k with
      | false => exact PostE.here r3 e3 h3
      | true =>
        simp only [if_true] at h3 ⊢
        refine ⟨fun σ4 H4 => ∃ R2 F2 l2 S2, Rep T X.K R2 F2 S2 H4 ∧ RelE T X.K R2 F2 l2 σ4 ∧ OkS T X.K R2 F2 (whileN c b m l2 S2) D E, fun σ4 H4 q => ⟨m, by omega, q⟩, R3, F3, l2, S3, r3, e3, ?_⟩
        cases hb2 : b l2 S3 with
        | nx l4 S4 =>
          rw [hb2] at h3
          exact fun R4 F4 H4 σ4 p4 ex4 r4 e4 => ⟨R4, F4, l4, S4, r4, e4, OkS.mono p4 ex4 h3⟩
        | cnt l4 S4 =>
          rw [hb2] at h3
          exact fun R4 F4 H4 σ4 p4 ex4 r4 e4 => ⟨R4, F4, l4, S4, r4, e4, OkS.mono p4 ex4 h3⟩
        | brk l4 S4 => rw [hb2] at h3; exact h3
        | ret v4 S4 => rw [hb2] at h3; exact h3
        | err x4 l4 S4 => rw [hb2] at h3; exact h3
        | bad => rw [hb2] at h3; exact h3.elim
  · unfold dWhile at h
    rw [dif_neg hx] at h
    exact h.elim
/-- a while with a bound on its turns that can be reckoned -/
def dWhl (n : Nat) (c : DB) (b : DS) : DS := whileN c b n
theorem js_whl (n : Nat) {cond : Expr} {body : List Stmt} {c : DB} {b : DS} (hp : PassesOwn (model X.prog X.w) X.A X.env X.xe) (hc : JT T X E cond c) (hb : JB T X E body b) : JS T X E (.While cond body [] pos) (dWhl n c b) :=
  ps_imp (js_while hp hc hb) fun D σ H ⟨R, F, l, S, r, e, h⟩ => ⟨R, F, l, S, r, e, by
    have hn : whileN c b n l S ≠ .bad := fun z => by
      have h : OkS T X.K R F (whileN c b n l S) D E := h
      rw [z] at h; exact h
    rw [dWhile_eq hn]; exact h⟩
end
end Z
end
end
section
set_option Elab.async false
set_option linter.all false
set_option maxRecDepth 100000
set_option maxHeartbeats 1000000
/-! Z9: list comprehensions. -/
noncomputable section
namespace Z
open PySem PySem.Spec PyProof.Rows L2

section
variable {T : Tb} {K : PySem.W.Frag} {as as' : List Addr} {hid hid' : List (Addr × HO)} {F F' : Hp}
theorem RelL.sh {xs : List PV} {us : List V} (h : RelL T K ⟨as, hid⟩ F xs us) (p : as <+: as') (e : Ex F F') : RelL T K ⟨as', hid'⟩ F' xs us := RelL.mono0 (R := ⟨as, hid⟩) (R' := ⟨as', hid'⟩) p e xs us h
theorem Rel.sh {x : PV} {u : V} (h : Rel T K ⟨as, hid⟩ F x u) (p : as <+: as') (e : Ex F F') : Rel T K ⟨as', hid'⟩ F' x u := Rel.mono0 (R := ⟨as, hid⟩) (R' := ⟨as', hid'⟩) p e x u h
end
section
variable {T : Tb} {K : PySem.W.Frag} {as : List Addr} {hid : List (Addr × HO)} {R : Pl} {F H : Hp} {S : Sto} {D : Addr} {o o' : HO}
theorem Rep.hide (r : Rep T K R F S H) (hD : H D = none) (ho : hidO o = true := by rfl) : Rep T K ⟨R.as, (D, o) :: R.hid⟩ F S (upd H D o) where
  ex := fun a u e => by
    have h : a ≠ D := fun z => by rw [z, r.fnone hD] at e; cases e
    rw [upd_ne h]; exact r.ex a u e
  len := r.len
  nd := r.nd
  there := fun a ha => by
    have h : a ≠ D := fun z => (r.there a ha).1 (by rw [z]; exact hD)
    rw [upd_ne h]; exact r.there a ha
  hidt := fun q hq => by
    rcases List.mem_cons.mp hq with e | hq
    · rw [e]; exact ho
    · exact r.hidt q hq
  ntb := r.ntb
  tabs := tabs_new r.tabs hD
  hidnd := by
    show ((D, o).1 :: R.hid.map Prod.fst).Nodup
    rw [List.nodup_cons]
    refine ⟨fun z => ?_, r.hidnd⟩
    obtain ⟨q, hq, e⟩ := List.mem_map.mp z
    have := (r.hid q hq).1
    rw [e, hD] at this
    cases this
  hid := fun q hq => by
    rcases List.mem_cons.mp hq with e | hq
    · subst e
      exact ⟨upd_same, fun z => (r.there D z).1 hD, r.fnone hD⟩
    · obtain ⟨h1, h2, h3⟩ := r.hid q hq
      have ne : q.1 ≠ D := fun z => by rw [z, hD] at h1; cases h1
      exact ⟨by rw [upd_ne ne]; exact h1, h2, h3⟩
  live := fun n a k xs h1 h2 => by
    obtain ⟨h3, us, h4, h5⟩ := r.live n a k xs h1 h2
    have ne : a ≠ D := fun z => h4.there (by rw [z]; exact hD)
    exact ⟨h3, us, h4.upd ne, h5.sh (List.prefix_refl _) (Ex.refl F)⟩
theorem Rep.rehide (r : Rep T K ⟨as, (D, o) :: hid⟩ F S H) (ho : hidO o' = true := by rfl) : Rep T K ⟨as, (D, o') :: hid⟩ F S (upd H D o') := by
  obtain ⟨d1, d2, d3⟩ := r.hid (D, o) List.mem_cons_self
  have hnd : D ∉ hid.map Prod.fst := by have := r.hidnd; exact (List.nodup_cons.mp this).1
  exact {
    ex := fun a u e => by
      have h : a ≠ D := fun z => by
        have d3 : F D = none := d3
        rw [z, d3] at e; cases e
      rw [upd_ne h]; exact r.ex a u e
    len := r.len
    nd := r.nd
    there := fun a ha => by
      have h : a ≠ D := fun z => d2 (by rw [← z]; exact ha)
      rw [upd_ne h]; exact r.there a ha
    hidt := fun q hq => by
      rcases List.mem_cons.mp hq with e | hq
      · rw [e]; exact ho
      · exact r.hidt q (List.mem_cons_of_mem _ hq)
    ntb := r.ntb
    tabs := tabs_put r.tabs d1 (hidO.plain (o := o) (r.hidt (D, o) List.mem_cons_self))
    hidnd := r.hidnd
    hid := fun q hq => by
      rcases List.mem_cons.mp hq with e | hq
      · subst e
        exact ⟨upd_same, d2, d3⟩
      · obtain ⟨h1, h2, h3⟩ := r.hid q (List.mem_cons_of_mem _ hq)
        have ne : q.1 ≠ D := fun z => hnd (List.mem_map.mpr ⟨q, hq, z⟩)
        exact ⟨by rw [upd_ne ne]; exact h1, h2, h3⟩
    live := fun n a k xs h1 h2 => by
      obtain ⟨h3, us, h4, h5⟩ := r.live n a k xs h1 h2
      have ne : a ≠ D := fun z => d2 (by
        have h1 : as[n]? = some a := h1
        rw [← z]; exact List.mem_of_getElem? h1)
      exact ⟨h3, us, h4.upd ne, h5.sh (List.prefix_refl _) (Ex.refl F)⟩ }
/-- held no longer: from now on it never changes any more -/
theorem Rep.bare (r : Rep T K ⟨as, (D, o) :: hid⟩ F S H) : Ex F (upd F D o) ∧ Rep T K ⟨as, hid⟩ (upd F D o) S H := by
  obtain ⟨d1, d2, d3⟩ := r.hid (D, o) List.mem_cons_self
  have hnd : D ∉ hid.map Prod.fst := by have := r.hidnd; exact (List.nodup_cons.mp this).1
  have d3 : F D = none := d3
  refine ⟨ex_upd d3, {
    ex := fun a u e => by
      by_cases h : a = D
      · subst h; rw [upd_same] at e; cases e; exact .inl d1
      · rw [upd_ne h] at e; exact r.ex a u e
    len := r.len
    nd := r.nd
    there := r.there
    hidt := fun q hq => r.hidt q (List.mem_cons_of_mem _ hq)
    ntb := fun a ps e => by
      by_cases h : a = D
      · rw [h, upd_same] at e
        have q := r.hidt _ List.mem_cons_self
        have e := Option.some.inj e
        rw [e] at q; cases q
      · rw [upd_ne h] at e; exact r.ntb a ps e
    tabs := r.tabs
    hidnd := (List.nodup_cons.mp r.hidnd).2
    hid := fun q hq => by
      obtain ⟨h1, h2, h3⟩ := r.hid q (List.mem_cons_of_mem _ hq)
      have ne : q.1 ≠ D := fun z => hnd (List.mem_map.mpr ⟨q, hq, z⟩)
      exact ⟨h1, h2, by rw [upd_ne ne]; exact h3⟩
    live := fun n a k xs h1 h2 => by
      obtain ⟨h3, us, h4, h5⟩ := r.live n a k xs h1 h2
      have ne : a ≠ D := fun z => d2 (by
        have h1 : as[n]? = some a := h1
        rw [← z]; exact List.mem_of_getElem? h1)
      exact ⟨by rw [upd_ne ne]; exact h3, us, h4, h5.sh (List.prefix_refl _) (ex_upd d3)⟩ }⟩
end

/-! ### slots wiped -/
theorem wipe_get (σ : L2.St) : ∀ (vs : List Nat) (j : Nat), (wipe σ vs)[j]? = if j ∈ vs then (if j < σ.length then some none else none) else σ[j]?
  | [], j => by simp [wipe]
  | v :: vs, j => by
    unfold wipe
    rw [List.getElem?_set, wipe_length, wipe_get σ vs j]
    by_cases h : v = j
    · subst h
      simp
    · have h' : ¬ j = v := fun z => h z.symm
      simp [h, h']
theorem wipeZ_length (l : Loc) : ∀ vs : List Nat, (wipeZ l vs).length = l.length
  | [] => rfl
  | v :: vs => by unfold wipeZ; rw [List.length_set, wipeZ_length l vs]
theorem wipeZ_get (l : Loc) : ∀ (vs : List Nat) (j : Nat), (wipeZ l vs)[j]? = if j ∈ vs then (if j < l.length then some none else none) else l[j]?
  | [], j => by simp [wipeZ]
  | v :: vs, j => by
    unfold wipeZ
    rw [List.getElem?_set, wipeZ_length, wipeZ_get l vs j]
    by_cases h : v = j
    · subst h
      simp
    · have h' : ¬ j = v := fun z => h z.symm
      simp [h, h']
theorem wipe_set {σ : L2.St} {vs : List Nat} {i : Nat} {x : Option V} (h : i ∈ vs) : wipe (σ.set i x) vs = wipe σ vs := by
  apply List.ext_getElem?
  intro j
  rw [wipe_get, wipe_get, List.length_set]
  by_cases hj : j ∈ vs
  · rw [if_pos hj, if_pos hj]
  · rw [if_neg hj, if_neg hj, List.getElem?_set_ne (fun z => hj (by rw [← z]; exact h))]
theorem wipe_idem {σ : L2.St} {vs : List Nat} : wipe (wipe σ vs) vs = wipe σ vs := by
  apply List.ext_getElem?
  intro j
  rw [wipe_get, wipe_get, wipe_length]
  by_cases hj : j ∈ vs
  · rw [if_pos hj, if_pos hj]
  · rw [if_neg hj, if_neg hj]
theorem wipe_setV {vs : List Nat} : ∀ {qs : List (Nat × V)} {σ : L2.St}, (∀ q ∈ qs, q.1 ∈ vs) → wipe (setV σ qs) vs = wipe σ vs
  | [], σ, _ => rfl
  | q :: qs, σ, h => by
    show wipe (setV (σ.set q.1 (some q.2)) qs) vs = _
    rw [wipe_setV fun p hp => h p (List.mem_cons_of_mem _ hp), wipe_set (h q List.mem_cons_self)]
section
variable {T : Tb} {K : PySem.W.Frag} {R R' : Pl} {F F' : Hp} {l : Loc} {σ : L2.St}
theorem RelE.wipe (h : RelE T K R F l σ) (vs : List Nat) : RelE T K R F (wipeZ l vs) (L2.wipe σ vs) := by
  refine ⟨by rw [wipeZ_length, wipe_length]; exact h.len, fun i v e => ?_⟩
  rw [wipeZ_get] at e
  by_cases hi : i ∈ vs
  · rw [if_pos hi] at e
    split at e <;> cases e
  · rw [if_neg hi] at e
    obtain ⟨u, h1, h2⟩ := h.at_ i v e
    exact ⟨u, by rw [wipe_get, if_neg hi]; exact h1, h2⟩
theorem RelE.mono0 (p : R.as <+: R'.as) (e : Ex F F') (h : RelE T K R F l σ) : RelE T K R' F' l σ :=
  ⟨h.len, fun i v q => let ⟨u, h1, h2⟩ := h.at_ i v q; ⟨u, h1, h2.mono0 p e⟩⟩
end

/-! ### [elt for target in iter if test] -/
def dYes : DB := fun _ S => .ok true S
def lcZ (t : TgZ) (hs : List (PV × Kd × List PV)) (c : DB) (el : DE) (l : Loc) : List PV → Sto → Out (List PV)
  | [], S => .ok [] S
  | x :: xs, S => match asg t x with
    | none => .bad
    | some ps => match c (setZ l ps) S with
      | .ok true S1 => (match el (setZ l ps) S1 with
        | .ok v S2 => if heldB hs S2 = true then (lcZ t hs c el l xs S2).bind fun r S3 => .ok (v :: r) S3 else .bad
        | _ => .bad)
      | .ok false S1 => if heldB hs S1 = true then lcZ t hs c el l xs S1 else .bad
      | _ => .bad
def dLc0 (vs : List Nat) (di : DI) (t : TgZ) (c : DB) (el : DE) : DA := fun l S => (di l S).bind fun it S1 => if heldB it.held S1 = true ∧ it.items.length ≤ 16777216 then lcZ t it.held c el (wipeZ l vs) it.items S1 else .bad
def dLc (vs : List Nat) (di : DI) (t : TgZ) (c : DB) (el : DE) : DE := fun l S => (dLc0 vs di t c el l S).bind fun xs S1 => .ok (.nd .lst xs) S1
def dLcM (vs : List Nat) (di : DI) (t : TgZ) (c : DB) (el : DE) : DE := fun l S => (dLc0 vs di t c el l S).bind fun xs S1 => .ok (.ref S1.length) (S1 ++ [some (.lst, xs)])
abbrev E00 : XS := fun _ _ _ _ => False
section
variable {T : Tb} {X : Cx} {E : XS} {pos : Pos} {elt tg iter : Expr} {ifs : List Expr} {scope : Scope} {own : List (Str × Nat)} {di : DI} {t : TgZ} {c : DB} {el : DE}
abbrev JTs (T : Tb) (X : Cx) (E : XS) (es : List Expr) (d : DB) : Prop := PTs X es (tT T X.K E d)
theorem jts_nil : JTs T X E [] dYes := ⟨fun pins s σ H Q I ⟨R, F, l, S, r, e, h⟩ => pts_nil.run pins s σ H Q I (PostB.here r h)⟩
theorem jts_one {e : Expr} (h : JT T X E e c) : JTs T X E [e] c := pts_one h
/-- what the list is to be at the end: a value that stays, or a place -/
def Fin (T : Tb) (K : PySem.W.Frag) (as : List Addr) (hid : List (Addr × HO)) (F : Hp) (D : Addr) (Q : VK) (xs : List PV) (S : Sto) : Prop :=
  ∀ as' F' H us, as <+: as' → Ex F F' → Rep T K ⟨as', (D, .lst us) :: hid⟩ F' S H → RelL T K ⟨as', hid⟩ F' xs us → Q (.ref D) H
theorem lc_ok {K : PySem.W.Frag} {vs : List Nat} (hvs : ∀ i ∈ t.slots, i ∈ vs) {σ : L2.St} {H1 : Hp} {Q : VK} {R1 : Pl} {F1 : Hp} {l : Loc} {S1 : Sto} {J : It} {it : ItZ} {D : Addr} (r1 : Rep T K R1 F1 S1 H1) (e1 : RelE T K R1 F1 l σ) (wz : WalkZ T K J R1 F1 it) (hh : heldB it.held S1 = true) (hsz : it.items.length ≤ 16777216)
    {xs : List PV} {S9 : Sto} (hl : lcZ t it.held c el (wipeZ l vs) it.items S1 = .ok xs S9) (hq : Fin T K R1.as R1.hid F1 D Q xs S9) (hD : H1 D = none) :
    ∃ W : Nat → Nat → Hp → Prop, (∃ m, W 0 m (upd H1 D (.lst []))) ∧ ∀ i m H, W i m H →
      (J.stop i H ∧ Q (.ref D) H) ∨ (J.go i H ∧ ∃ Nx : Hp → Prop, (∀ H', Nx H' → ∃ m', m' < m ∧ W (i + 1) m' H') ∧ ∀ x H', J.yld i H x H' → gOf K t x (wipe σ vs) H' fun σ2 H2 => wipe σ2 vs = wipe σ vs ∧ tT T K E00 c σ2 H2 fun b H3 =>
        if b = true then tV T K E00 el σ2 H3 fun y H4 => ∃ acc, H4 D = some (.lst acc) ∧ acc.length < sizeLine ∧ Nx (upd H4 D (.lst (acc ++ [y]))) else Nx H3) := by
  let Inn : Nat → Hp → Prop := fun i H' => ∃ as2 F2 S2 acc us rest, R1.as <+: as2 ∧ Ex F1 F2 ∧ Rep T K ⟨as2, (D, .lst us) :: R1.hid⟩ F2 S2 H' ∧ RelL T K ⟨as2, R1.hid⟩ F2 acc us ∧ heldB it.held S2 = true ∧ acc.length ≤ i ∧ lcZ t it.held c el (wipeZ l vs) (it.items.drop i) S2 = .ok rest S9 ∧ xs = acc ++ rest
  refine ⟨fun i m H' => m = it.items.length - i ∧ i ≤ it.items.length ∧ Inn i H', ⟨_, rfl, Nat.zero_le _, R1.as, F1, S1, [], [], xs, List.prefix_refl _, Ex.refl F1, r1.hide hD, .nil, hh, Nat.le_refl _, hl, rfl⟩, ?_⟩
  rintro i m H' ⟨rfl, hi, as2, F2, S2, acc, us, rest, p2, ex2, r2, ra, hh2, hacc, hr, exs⟩
  by_cases hlt : i < it.items.length
  · refine .inr ⟨wz.goes i _ F2 H' S2 hlt p2 ex2 r2 hh2, fun H3 => i + 1 ≤ it.items.length ∧ Inn (i + 1) H3, fun H3 ⟨q1, q2⟩ => ⟨it.items.length - (i + 1), by omega, rfl, q1, q2⟩, fun v H3 y => ?_⟩
    obtain ⟨F3, x, ex3, r3, hx, rv⟩ := wz.yields i _ F2 H' H3 S2 v hlt p2 ex2 r2 hh2 y
    have hdr : it.items.drop i = x :: it.items.drop (i + 1) := by
      rw [List.drop_eq_getElem_cons hlt]
      rw [List.getElem?_eq_getElem hlt] at hx
      cases hx; rfl
    rw [hdr, lcZ] at hr
    cases ha : asg t x with
    | none => rw [ha] at hr; cases hr
    | some ps =>
      rw [ha] at hr
      simp only at hr
      have e3 : RelE T K ⟨as2, (D, .lst us) :: R1.hid⟩ F3 (wipeZ l vs) (wipe σ vs) := (e1.wipe vs).mono0 p2 (ex2.trans ex3)
      refine gOf_ok r3 t x v (wipeZ l vs) (wipe σ vs) ps _ e3 rv ha fun qs hqs e4 => ⟨by rw [wipe_setV (fun q hq' => hvs q.1 (hqs q hq')), wipe_idem], ⟨_, F3, setZ (wipeZ l vs) ps, S2, r3, e4, ?_⟩⟩
      cases hc : c (setZ (wipeZ l vs) ps) S2 with
      | bad => rw [hc] at hr; cases hr
      | err z S3 => rw [hc] at hr; cases hr
      | ok b S4 =>
        rw [hc] at hr
        intro R5 F5 H5 p5 ex5 r5
        obtain ⟨as5, hid5⟩ := R5
        obtain ⟨p5a, p5b⟩ := p5
        have p5b : hid5 = (D, .lst us) :: R1.hid := p5b
        have p5a : as2 <+: as5 := p5a
        subst p5b
        cases b with
        | false =>
          simp only at hr
          split at hr
          · rename_i hh5
            exact ⟨hlt, as5, F5, S4, acc, us, rest, p2.trans p5a, (ex2.trans ex3).trans ex5, r5, ra.sh p5a (ex3.trans ex5), hh5, by omega, hr, exs⟩
          · cases hr
        | true =>
          simp only [if_true] at hr ⊢
          refine ⟨_, F5, setZ (wipeZ l vs) ps, S4, r5, e4.mono0 p5a ex5, ?_⟩
          cases hel : el (setZ (wipeZ l vs) ps) S4 with
          | bad => rw [hel] at hr; cases hr
          | err z S3 => rw [hel] at hr; cases hr
          | ok w S6 =>
            rw [hel] at hr
            simp only at hr
            intro R7 F7 H7 u7 p7 ex7 r7 rw7
            obtain ⟨as7, hid7⟩ := R7
            obtain ⟨p7a, p7b⟩ := p7
            have p7b : hid7 = (D, .lst us) :: R1.hid := p7b
            have p7a : as5 <+: as7 := p7a
            subst p7b
            split at hr
            · rename_i hh7
              have d7 := (r7.hid (D, .lst us) List.mem_cons_self).1
              have lus : us.length = acc.length := ra.length
              refine ⟨us, d7, by rw [sizeLine_eq, lus]; omega, hlt, ?_⟩
              cases hrest : lcZ t it.held c el (wipeZ l vs) (it.items.drop (i + 1)) S6 with
              | bad => rw [hrest] at hr; cases hr
              | err z S3 => rw [hrest] at hr; cases hr
              | ok rest' S8 =>
                rw [hrest] at hr
                cases hr
                refine ⟨as7, F7, S6, acc ++ [w], us ++ [u7], rest', (p2.trans p5a).trans p7a, ((ex2.trans ex3).trans ex5).trans ex7, r7.rehide, ?_, hh7, ?_, hrest, ?_⟩
                · exact (ra.sh (p5a.trans p7a) ((ex3.trans ex5).trans ex7)).append (.cons (rw7.sh (List.prefix_refl _) (Ex.refl F7)) .nil)
                · rw [List.length_append, List.length_singleton]; omega
                · rw [exs, List.append_assoc]; rfl
            · cases hr
  · have e' : i = it.items.length := by omega
    subst e'
    rw [List.drop_length, lcZ] at hr
    cases hr
    rw [List.append_nil] at exs
    subst exs
    exact .inl ⟨wz.stops _ F2 H' S9 p2 ex2 r2 hh2, hq as2 F2 H' us p2 ex2 r2 ra⟩
/-- the reading of a comprehension -/
theorem lc_t {vs : List Nat} (hvs : ∀ i ∈ t.slots, i ∈ vs) {k : List PV → Sto → Out PV} {σ : L2.St} {H : Hp} {Q : VK} (h : tV T X.K E (fun l S => (dLc0 vs di t c el l S).bind k) σ H Q)
    (hk : ∀ (xs : List PV) (S : Sto) (R : Pl) (F : Hp) (D : Addr), OkV T X.K R F (k xs S) Q (E σ) → Fin T X.K R.as R.hid F D Q xs S) : tLc (tI T X.K E di) (gOf X.K t) (tT T X.K E00 c) (tV T X.K E00 el) vs σ H Q := by
  obtain ⟨R, F, l, S, r, e, h⟩ := h
  refine ⟨R, F, l, S, r, e, ?_⟩
  have h : OkV T X.K R F (((di l S).bind fun it S1 => if heldB it.held S1 = true ∧ it.items.length ≤ 16777216 then lcZ t it.held c el (wipeZ l vs) it.items S1 else .bad).bind k) Q (E σ) := h
  cases hd : di l S with
  | bad => rw [hd] at h; exact h.elim
  | err x S1 => rw [hd] at h; exact h
  | ok it S1 =>
    rw [hd] at h
    intro R1 F1 H1 J p ex r1 wz D hD
    have h : OkV T X.K R F ((if heldB it.held S1 = true ∧ it.items.length ≤ 16777216 then lcZ t it.held c el (wipeZ l vs) it.items S1 else .bad).bind k) Q (E σ) := h
    split at h
    · rename_i hh
      cases hl : lcZ t it.held c el (wipeZ l vs) it.items S1 with
      | ok xs S9 =>
        rw [hl] at h
        exact lc_ok hvs r1 (e.mono p ex) wz hh.1 hh.2 hl (hk xs S9 R1 F1 D (OkV.mono p ex h)) hD
      | err z S9 =>
        exfalso
        have noerr : ∀ (ys : List PV) (S : Sto) (z : XV) (S' : Sto), lcZ t it.held c el (wipeZ l vs) ys S ≠ .err z S' := by
          intro ys
          induction ys with
          | nil => intro S z S' q; cases q
          | cons y ys ih =>
            intro S z S' q
            rw [lcZ] at q
            split at q
            · cases q
            · split at q
              · split at q
                · split at q
                  · rename_i v S2 _ _
                    cases hh : lcZ t it.held c el (wipeZ l vs) ys S2 with
                    | err z' S3 => exact ih S2 z' S3 hh
                    | ok _ _ => rw [hh] at q; cases q
                    | bad => rw [hh] at q; cases q
                  · cases q
                · cases q
              · split at q
                · exact ih _ _ _ q
                · cases q
              · cases q
        exact noerr _ _ _ _ hl
      | bad => rw [hl] at h; exact h.elim
    · exact h.elim
theorem fin_nd {E : XK} {K : PySem.W.Frag} {xs : List PV} {S : Sto} {R : Pl} {F : Hp} {D : Addr} {Q : VK} (h : OkV T K R F (.ok (.nd .lst xs) S) Q E) : Fin T K R.as R.hid F D Q xs S := by
  intro as' F' H us p ex r rx
  obtain ⟨e1, r1⟩ := r.bare
  refine h ⟨as', R.hid⟩ _ H _ ⟨p, rfl⟩ (ex.trans e1) r1 ?_
  rw [Rel]
  exact ⟨D, us, rfl, upd_same, rx.sh (List.prefix_refl _) e1⟩
/-- the block's derivations, in every block of this def -/
structure Blk (T : Tb) (X : Cx) (scope : Scope) (tg : Expr) (ifs : List Expr) (elt : Expr) (t : TgZ) (c : DB) (el : DE) : Prop where
  tg : ∀ (s : Shared) (H : Hp) (C : Addr) (cl : List (Str × Addr)) (fp : List Addr), JG (X.blk s H scope (compEnvC scope cl C X.env) fp) tg t
  ts : ∀ (s : Shared) (H : Hp) (C : Addr) (cl : List (Str × Addr)) (fp : List Addr), JTs T (X.blk s H scope (compEnvC scope cl C X.env) fp) E00 ifs c
  el : ∀ (s : Shared) (H : Hp) (C : Addr) (cl : List (Str × Addr)) (fp : List Addr), JE T (X.blk s H scope (compEnvC scope cl C X.env) fp) E00 elt el
theorem je_lc (own : List (Str × Nat)) (hc : X.calm = true) (hN : X.N.Nodup) (hi : JI T X E tg iter di) (hb : Blk T X scope tg ifs elt t c el) (ok : BlkOk X.N X.env.scope scope own) (hvs : ∀ i ∈ t.slots, i ∈ own.map (·.2) := by decide)
    (hs : ∀ x, foldedSetIterable iter X.env x = pure x := by intro _; rfl) : JE T X E (.ListComp elt [⟨tg, iter, ifs, 0⟩] scope pos) (dLc (own.map (·.2)) di t c el) :=
  pe_imp (pe_lc hc hN hi ok hb.tg hb.ts hb.el hs) fun σ H Q h => lc_t hvs h fun xs S R F D h => fin_nd h
theorem asg_st {d : DE} {i : Nat} {D : Ends} {σ : L2.St} {H : Hp} (h : tS T X.K E (dSet i d) D σ H) : tV T X.K E d σ H fun x H1 => gName i x σ H1 D.nx := by
  obtain ⟨R, F, l, S, r, e, h⟩ := h
  exact st_v r e h fun x S1 R1 F1 H1 u p ex r1 rx e1 h1 => PostE.here r1 (e1.set i rx) h1
theorem js_setLc (i : Nat) (own : List (Str × Nat)) {y : Str} {py spos : Pos} (hc : X.calm = true) (hN : X.N.Nodup) (hi : JI T X E tg iter di) (hb : Blk T X scope tg ifs elt t c el) (ok : BlkOk X.N X.env.scope scope own) (hy : X.N[i]? = some y := by rfl) (hyl : X.env.scope.names.lookup y = some .local := by rfl)
    (hsw : swapsWith (.ListComp elt [⟨tg, iter, ifs, 0⟩] scope pos) (some (.Name y py)) spos.line X.env = pure true := by rfl) (hvs : ∀ i ∈ t.slots, i ∈ own.map (·.2) := by decide)
    (hs : ∀ x, foldedSetIterable iter X.env x = pure x := by intro _; rfl) : JS T X E (.Assign [.Name y py] (.ListComp elt [⟨tg, iter, ifs, 0⟩] scope pos) spos) (dSet i (dLc (own.map (·.2)) di t c el)) :=
  ps_imp (ps_setLc hc hN hy hyl hsw hi ok hb.tg hb.ts hb.el hs) fun D σ H h => lc_t hvs (asg_st h) fun xs S R F D h => fin_nd h
end
end Z
end
end
section
set_option Elab.async false
set_option linter.all false
set_option maxRecDepth 100000
set_option maxHeartbeats 1000000
/-! ZF: defs. -/
noncomputable section
namespace Z
open PySem PySem.Spec PyProof.Rows L2

/-! ### what a def leaves behind: its own places are closed -/
mutual
def fits (n : Nat) : PV → Bool
  | .ref m => decide (m < n)
  | .nd _ xs => fitsL n xs
  | _ => true
def fitsL (n : Nat) : List PV → Bool
  | [] => true
  | x :: xs => fits n x && fitsL n xs
end
def optMap (g : PV → Option PV) : List PV → Option (List PV)
  | [] => some []
  | x :: xs => (g x).bind fun y => (optMap g xs).map fun ys => y :: ys
def thaw : Nat → Nat → Sto → PV → Option PV
  | 0, _, _, _ => none
  | f + 1, n, S, .ref m => if m < n then some (.ref m) else match S[m]? with
    | some (some (k, xs)) => (optMap (thaw f n S) xs).map fun ys => .nd k ys
    | _ => none
  | f + 1, n, S, .nd k xs => if fitsL n xs = true then some (.nd k xs) else (optMap (thaw f n S) xs).map fun ys => .nd k ys
  | _ + 1, _, _, x => some x
def fitsO (n : Nat) (o : Option (Kd × List PV)) : Bool := match o with
  | some (_, xs) => fitsL n xs
  | none => true
/-- the old places are as they were, or they look at one another alone -/
def fitsS (S S1 : Sto) : Bool := (List.range S.length).all fun i => decide (S1[i]? = S[i]?) || (match S1[i]? with
  | some o => fitsO S.length o
  | none => false)
theorem fitsS_iff {S S1 : Sto} : fitsS S S1 = true ↔ ∀ i, i < S.length → S1[i]? = S[i]? ∨ ∃ o, S1[i]? = some o ∧ fitsO S.length o = true := by
  unfold fitsS
  rw [List.all_eq_true]
  constructor
  · intro h i hi
    have := h i (List.mem_range.mpr hi)
    rw [Bool.or_eq_true] at this
    rcases this with h1 | h1
    · exact .inl (of_decide_eq_true h1)
    · split at h1
      · rename_i o ho
        exact .inr ⟨o, ho, h1⟩
      · cases h1
  · intro h i hi
    rw [Bool.or_eq_true]
    rcases h i (List.mem_range.mp hi) with h1 | ⟨o, h1, h2⟩
    · exact .inl (decide_eq_true h1)
    · exact .inr (by rw [h1]; exact h2)
def shut (S : Sto) (o : Out PV) : Out PV := match o with
  | .ok v S1 => if S1.length ≤ S.length then .ok v S1 else match thaw 12 S.length S1 v with
    | some w => if fitsS S S1 = true then .ok w (S1.take S.length) else .bad
    | none => .bad
  | .err e S1 => if S1.length ≤ S.length then .err e S1 else match optMap (thaw 12 S.length S1) e.xs with
    | some ws => if fitsS S S1 = true then .err ⟨e.c, e.fs, ws⟩ (S1.take S.length) else .bad
    | none => .bad
  | .bad => .bad
section
variable {T : Tb} {K : PySem.W.Frag} {R : Pl} {F H : Hp} {S : Sto} {n : Nat}
open Classical in
/-- the places from n on, closed -/
def melt (R : Pl) (S : Sto) (n : Nat) (F H : Hp) : Hp := fun b => if ∃ m k xs, n ≤ m ∧ R.as[m]? = some b ∧ S[m]? = some (some (k, xs)) then H b else F b
theorem melt_ex (r : Rep T K R F S H) : Ex F (melt R S n F H) := fun a u e => by
  unfold melt
  split
  · exact r.ex a u e
  · exact .inl e
theorem melt_in {m : Nat} {a : Addr} {k : Kd} {xs : List PV} (hm : n ≤ m) (h1 : R.as[m]? = some a) (h2 : S[m]? = some (some (k, xs))) : melt R S n F H a = H a := by
  unfold melt
  rw [if_pos ⟨m, k, xs, hm, h1, h2⟩]
theorem Liv.melt (r : Rep T K R F S H) {m : Nat} {a : Addr} {k : Kd} {xs : List PV} {us : List V} (hm : n ≤ m) (h1 : R.as[m]? = some a) (h2 : S[m]? = some (some (k, xs))) (h : Liv T K H a k us) : Shp T K (melt R S n F H) a k us := by
  have e := melt_in (F := F) (H := H) hm h1 h2
  cases k with
  | tup => exact h.elim
  | scr => exact h.elim
  | lst => exact e.trans h
  | dct t ks => cases t <;> (obtain ⟨q1, kk, q2, q3⟩ := h; exact ⟨q1, kk, q2, .inl (e.trans q3)⟩)
  | ins c fs => obtain ⟨q1, dx, q2⟩ := h; exact ⟨q1, dx, e.trans q2⟩
  | exn c fs => exact h.elim
  | clo a0 c0 q0 us0 => exact h.elim
mutual
theorem fits_rel (r : Rep T K R F S H) : ∀ (x : PV) (u : V), fits n x = true → Rel T K R F x u → Rel T K ⟨R.as.take n, R.hid⟩ (melt R S n F H) x u
  | .non, u, _, h => by rw [Rel] at h ⊢; exact h
  | .bl b, u, _, h => by rw [Rel] at h ⊢; exact h
  | .int i, u, _, h => by rw [Rel] at h ⊢; exact h
  | .str s, u, _, h => by rw [Rel] at h ⊢; exact h
  | .ty n, u, _, h => by rw [Rel] at h ⊢; exact h
  | .cls c, u, _, h => by rw [Rel] at h ⊢; exact h
  | .ref m, u, f, h => by
    rw [fits] at f
    have f := of_decide_eq_true f
    rw [Rel] at h ⊢
    obtain ⟨a, h1, h2⟩ := h
    exact ⟨a, h1, by rw [List.getElem?_take_of_lt f]; exact h2⟩
  | .nd k xs, u, f, h => by
    rw [fits] at f
    rw [Rel] at h ⊢
    obtain ⟨a, us, h1, h2, h3⟩ := h
    exact ⟨a, us, h1, h2.mono (melt_ex r), fitsL_rel r xs us f h3⟩
theorem fitsL_rel (r : Rep T K R F S H) : ∀ (xs : List PV) (us : List V), fitsL n xs = true → RelL T K R F xs us → RelL T K ⟨R.as.take n, R.hid⟩ (melt R S n F H) xs us
  | [], us, _, h => by rw [RelL] at h ⊢; exact h
  | x :: xs, us, f, h => by
    rw [fitsL, Bool.and_eq_true] at f
    rw [RelL] at h ⊢
    obtain ⟨u, vs, h1, h2, h3⟩ := h
    exact ⟨u, vs, h1, fits_rel r x u f.1 h2, fitsL_rel r xs vs f.2 h3⟩
end
theorem optMap_rel {R' : Pl} {F' : Hp} {g : PV → Option PV} (hg : ∀ x y u, g x = some y → Rel T K R F x u → Rel T K R' F' y u) : ∀ (xs ys : List PV) (us : List V), optMap g xs = some ys → RelL T K R F xs us → RelL T K R' F' ys us
  | [], ys, us, h, r => by cases h; rw [RelL] at r ⊢; exact r
  | x :: xs, ys, us, h, r => by
    rw [optMap, Option.bind_eq_some_iff] at h
    obtain ⟨y, h1, h2⟩ := h
    rw [Option.map_eq_some_iff] at h2
    obtain ⟨ys', h3, rfl⟩ := h2
    rw [RelL] at r ⊢
    obtain ⟨u, vs, e, r1, r2⟩ := r
    exact ⟨u, vs, e, hg x y u h1 r1, optMap_rel hg xs ys' vs h3 r2⟩
theorem thaw_rel (r : Rep T K R F S H) : ∀ (f : Nat) (x y : PV) (u : V), thaw f n S x = some y → Rel T K R F x u → Rel T K ⟨R.as.take n, R.hid⟩ (melt R S n F H) y u
  | 0, x, y, u, h, _ => by cases h
  | f + 1, x, y, u, h, hr => by
    cases x with
    | ref m =>
      rw [thaw] at h
      split at h
      · rename_i hm
        cases h
        exact fits_rel r (.ref m) u (by rw [fits]; exact decide_eq_true hm) hr
      · rename_i hm
        split at h
        · rename_i k xs hS
          rw [Option.map_eq_some_iff] at h
          obtain ⟨ys, h1, rfl⟩ := h
          rw [Rel] at hr
          obtain ⟨a, rfl, ha⟩ := hr
          obtain ⟨_, us, hl, hx⟩ := r.live m a k xs ha hS
          rw [Rel]
          exact ⟨a, us, rfl, hl.melt r (by omega) ha hS, optMap_rel (thaw_rel r f) xs ys us h1 hx⟩
        · cases h
    | nd k xs =>
      rw [thaw] at h
      split at h
      · rename_i hf
        cases h
        exact fits_rel r (.nd k xs) u (by rw [fits]; exact hf) hr
      · rw [Option.map_eq_some_iff] at h
        obtain ⟨ys, h1, rfl⟩ := h
        rw [Rel] at hr ⊢
        obtain ⟨a, us, e, h2, h3⟩ := hr
        exact ⟨a, us, e, h2.mono (melt_ex r), optMap_rel (thaw_rel r f) xs ys us h1 h3⟩
    | _ => cases h; exact fits_rel r _ u (by rfl) hr
theorem Rep.shut (r : Rep T K R F S H) (hf : ∀ m k xs, m < n → S[m]? = some (some (k, xs)) → fitsL n xs = true) : Rep T K ⟨R.as.take n, R.hid⟩ (melt R S n F H) (S.take n) H where
  ex := fun a u e => by
    unfold melt at e
    split at e
    · exact .inl e
    · exact r.ex a u e
  len := by
    show (R.as.take n).length = _
    rw [List.length_take, List.length_take, r.len]
  nd := r.nd.sublist (List.take_sublist _ _)
  there := fun a ha => r.there a (List.mem_of_mem_take ha)
  hidt := r.hidt
  ntb := fun a ps e => by
    unfold melt at e
    split at e
    · rename_i q
      obtain ⟨m, k, xs, _, q1, q2⟩ := q
      obtain ⟨_, us, h4, _⟩ := r.live m a k xs q1 q2
      obtain ⟨u, h5, h6⟩ := h4.plain
      rw [h5] at e; cases e; cases h6
    · exact r.ntb a ps e
  tabs := r.tabs
  hidnd := r.hidnd
  hid := fun q hq => by
    obtain ⟨h1, h2, h3⟩ := r.hid q hq
    refine ⟨h1, fun z => h2 (List.mem_of_mem_take z), ?_⟩
    unfold melt
    rw [if_neg]
    · exact h3
    · rintro ⟨m, k, xs, _, z, _⟩
      exact h2 (List.mem_of_getElem? z)
  live := fun m a k xs h1 h2 => by
    have hm : m < n := by
      have := (List.getElem?_eq_some_iff.mp h2).1
      rw [List.length_take] at this
      omega
    have h1 : (R.as.take n)[m]? = some a := h1
    rw [List.getElem?_take_of_lt hm] at h1 h2
    obtain ⟨h3, us, h4, h5⟩ := r.live m a k xs h1 h2
    have hfx : fitsL n xs = true := hf m k xs hm h2
    refine ⟨?_, us, h4, fitsL_rel r xs us hfx h5⟩
    unfold melt
    rw [if_neg]
    · exact h3
    · rintro ⟨m', k', xs', hge, z, _⟩
      have := (List.getElem?_inj (List.getElem?_eq_some_iff.mp h1).1 r.nd).mp (h1.trans z.symm)
      omega
mutual
theorem rel_fits : ∀ (x : PV) (u : V), Rel T K R F x u → fits R.as.length x = true
  | .non, u, h => by rfl
  | .bl b, u, h => by rfl
  | .int i, u, h => by rfl
  | .str s, u, h => by rfl
  | .ty n, u, h => by rfl
  | .cls c, u, h => by rfl
  | .ref m, u, h => by
    rw [Rel] at h
    obtain ⟨a, h1, h2⟩ := h
    rw [fits]
    exact decide_eq_true (List.getElem?_eq_some_iff.mp h2).1
  | .nd k xs, u, h => by
    rw [Rel] at h
    obtain ⟨a, us, h1, h2, h3⟩ := h
    rw [fits]
    exact rel_fitsL xs us h3
theorem rel_fitsL : ∀ (xs : List PV) (us : List V), RelL T K R F xs us → fitsL R.as.length xs = true
  | [], us, h => by rfl
  | x :: xs, us, h => by
    rw [RelL] at h
    obtain ⟨u, vs, h1, h2, h3⟩ := h
    rw [fitsL, rel_fits x u h2, rel_fitsL xs vs h3]; rfl
end
theorem fitsS_all (r : Rep T K R F S H) {S1 : Sto} (h : fitsS S S1 = true) : ∀ m k xs, m < S.length → S1[m]? = some (some (k, xs)) → fitsL S.length xs = true := fun m k xs hm e => by
  rcases fitsS_iff.mp h m hm with q | ⟨o, q1, q2⟩
  · rw [e] at q
    have hm' : m < R.as.length := by rw [r.len]; exact hm
    have ha : R.as[m]? = some R.as[m] := List.getElem?_eq_getElem hm'
    obtain ⟨_, us, _, hx⟩ := r.live m _ k xs ha q.symm
    have := rel_fitsL xs us hx
    rw [r.len] at this
    exact this
  · rw [e] at q1
    cases q1
    exact q2
theorem take_pl {R R' : Pl} (p : Pl.le R R') : (⟨R'.as.take R.as.length, R'.hid⟩ : Pl) = R := by
  obtain ⟨⟨t, e⟩, h⟩ := p
  rw [← e, h, List.take_left]
theorem shut_ok {E : XK} {Q : VK} {o : Out PV} (r0 : Rep T K R F S H) (h : OkV T K R F (shut S o) Q E) : OkV T K R F o Q E := by
  have hlen := r0.len
  cases o with
  | ok v S1 =>
    unfold Z.shut at h
    simp only at h
    split at h
    · exact h
    · split at h
      · rename_i w hw
        split at h
        · rename_i hf
          intro R' F' H u p ex r rv
          have r2 := r.shut (fitsS_all r0 hf)
          have rv2 := thaw_rel r 12 v w u hw rv
          rw [← hlen, take_pl p] at r2 rv2
          refine h R _ H u (Pl.refl R) (ex.trans (melt_ex r)) ?_ rv2
          rw [← hlen]; exact r2
        · exact h.elim
      · exact h.elim
  | err e S1 =>
    unfold Z.shut at h
    simp only at h
    split at h
    · exact h
    · split at h
      · rename_i ws hw
        split at h
        · rename_i hf
          intro R' F' H cls d p ex r rx
          have r2 := r.shut (fitsS_all r0 hf)
          rw [← hlen, take_pl p] at r2
          refine h R (melt R' S1 R.as.length F' H) H cls d (Pl.refl R) (ex.trans (melt_ex r)) (by rw [← hlen]; exact r2) ?_
          obtain ⟨h1, h2⟩ := rx
          refine ⟨h1, h2.imp (fun z => z) ?_⟩
          rintro ⟨dd, us, e1, e2, e3, e4, e5⟩
          refine ⟨dd, us, e1, ?_, e3, e4, ?_⟩
          · unfold melt
            rw [if_neg]
            · exact e2
            · rintro ⟨m, k, xs, _, z1, z2⟩
              obtain ⟨_, us', hl, _⟩ := r.live m dd k xs z1 z2
              cases k with
              | tup => exact hl
              | scr => exact hl
              | lst => have hl : H dd = _ := hl; rw [e3] at hl; cases hl
              | dct t ks => cases t <;> (obtain ⟨_, kk, _, q3⟩ := hl; rw [e3] at q3; cases q3)
              | ins c fs => obtain ⟨_, dx, q3⟩ := hl; rw [e3] at q3; cases q3
              | exn c fs => exact hl
              | clo a0 c0 q0 us0 => exact hl
          · have := optMap_rel (thaw_rel r 12) e.xs ws us (by rw [← hlen] at hw; exact hw) e5
            rw [take_pl p] at this
            exact this
        · exact h.elim
      · exact h.elim
  | bad => exact h.elim
end

/-! ### a def by its body -/
def dDef0 (n m : Nat) (b : DS) : DF := fun xs S => if xs.length = n then (match b (xs.map some ++ List.replicate (m - n) none) S with
  | .nx _ S1 => .ok .non S1
  | .ret v S1 => .ok v S1
  | .err e _ S1 => .err e S1
  | _ => .bad) else .bad
def dDef (n m : Nat) (b : DS) : DF := fun xs S => shut S (dDef0 n m b xs S)
structure FnG (T : Tb) (P : Program) (w : World) (K : PySem.W.Frag) (mg : Str → Option Value) (base : Heap) (k : Nat) (f : Addr) (fd : FuncData) (ps : List Str) (d : DF) : Prop where
  run : ∀ (A : Around) (outer : List Env) (s : Shared) (H : Hp) (args : Args) (us : List Value) (vs : List V) (Q : VK) (E : XK), Room k A → A.guards = some [] → Env0 P w K mg base A outer s H → BindsTo s fd args (ps.zip us) → Vals vs us → spOf T K ps.length d vs H Q E →
    codeAny (model P w) A (.call (.ref f) args) (CR (L2.CX P w) outer P w H s Q E) s
theorem FnG.mono {T : Tb} {P : Program} {w : World} {K : PySem.W.Frag} {mg : Str → Option Value} {base : Heap} {j k : Nat} {f : Addr} {fd : FuncData} {ps : List Str} {d : DF} (g : FnG T P w K mg base j f fd ps d) (h : j ≤ k) : FnG T P w K mg base k f fd ps d :=
  ⟨fun A outer s H args us vs Q E hr => g.run A outer s H args us vs Q E (hr.mono h)⟩
theorem rel_start {T : Tb} {K : PySem.W.Frag} {R : Pl} {F : Hp} {N : List Str} {xs : List PV} {vs : List V} (h : RelL T K R F xs vs) : RelE T K R F (xs.map some ++ List.replicate (N.length - xs.length) none) (L2.start N vs) := by
  have hl := h.length
  unfold L2.start
  refine ⟨by simp [hl], fun i v e => ?_⟩
  by_cases hi : i < xs.length
  · rw [List.getElem?_append_left (by simpa using hi), List.getElem?_map] at e
    rw [List.getElem?_eq_getElem hi] at e
    cases e
    obtain ⟨u, h1, h2⟩ := h.get (List.getElem?_eq_getElem hi)
    refine ⟨u, ?_, h2⟩
    rw [List.getElem?_append_left (by rw [List.length_map, hl]; exact hi), List.getElem?_map, h1]; rfl
  · rw [List.getElem?_append_right (by simp; omega), List.getElem?_replicate] at e
    split at e <;> cases e
section
variable {T : Tb} {P : Program} {w : World} {K : PySem.W.Frag} {mg : Str → Option Value} {base : Heap} {x qual : Str} {params : Arguments} {body : List Stmt} {scope : Scope} {dvs : List V} {kws : List (Str × V)} {f : Addr} {fd : FuncData} {N ps : List Str} {k : Nat} {b : DS}
theorem def_ok0 {vs : List V} {H : Hp} {Q : VK} {E : XK} (h : spOf T K ps.length (dDef0 ps.length N.length b) vs H Q E) : tS T K (fun _ => E) b { nx := fun _ H' => Q .non H', rt := Q } (L2.start N vs) H := by
  obtain ⟨hl, R, F, S, xs, r, rx, h⟩ := h
  have hx : xs.length = ps.length := by rw [← rx.length]; exact hl
  unfold dDef0 at h
  rw [if_pos hx] at h
  refine ⟨R, F, _, S, r, rel_start rx, ?_⟩
  rw [hx]
  cases hb : b (xs.map some ++ List.replicate (N.length - ps.length) none) S with
  | nx l1 S1 =>
    rw [hb] at h
    exact fun R1 F1 H1 σ p ex r1 _ => h R1 F1 H1 .non p ex r1 (by rw [Rel])
  | ret v S1 => rw [hb] at h; exact h
  | err e l1 S1 => rw [hb] at h; exact fun R' F' H' σ' cls d p x r1 _ rx1 => h R' F' H' cls d p x r1 rx1
  | brk l1 S1 => rw [hb] at h; exact h.elim
  | cnt l1 S1 => rw [hb] at h; exact h.elim
  | bad => rw [hb] at h; exact h.elim
theorem def_ok {vs : List V} {H : Hp} {Q : VK} {E : XK} (h : spOf T K ps.length (dDef ps.length N.length b) vs H Q E) : tS T K (fun _ => E) b { nx := fun _ H' => Q .non H', rt := Q } (L2.start N vs) H := by
  obtain ⟨hl, R, F, S, xs, r, rx, h⟩ := h
  exact def_ok0 ⟨hl, R, F, S, xs, r, rx, shut_ok r h⟩
/-- the code of the function at f -/
def codeOf (K : PySem.W.Frag) (f : Addr) : Value := match K.lookup f with
  | some ⟨_, _, .func fd, _⟩ => fd.code
  | _ => .none
theorem fng_of_ok {d : DF} (hd : ∀ (vs : List V) (H : Hp) (Q : VK) (E : XK), spOf T K ps.length d vs H Q E → tS T K (fun _ => E) b { nx := fun _ H' => Q .non H', rt := Q } (L2.start N vs) H) (G : FunD K x qual params body scope dvs kws f fd) (S : FnScope N ps scope)
    (hb : ∀ (cdv : Value) (_ : codeOf K f = cdv) (A : Around) (outer : List Env) (s : Shared) (H : Hp) (E : XK), Cg (cxOf (L2.CX P w) P w K mg base N qual scope f cdv A outer s H E) (fun _ => E) k → JB T (cxOf (L2.CX P w) P w K mg base N qual scope f cdv A outer s H E) (fun _ => E) body b) :
    FnG T P w K mg base (k + 1) f fd ps d := by
  obtain ⟨oc, od, dV, kV, doc, pm, an, cdv, ct, osl, rfl, lk, hcd, _, _⟩ := G.ex
  refine ⟨fun A outer s H args us vs Q E hr hgd e0 hbi r hsp => ?_⟩
  have hlen : vs.length = ps.length := hsp.1
  have inK : K.In s.heap := e0.mod.kin.keeps fun b o e => (e0.bs b o e).1
  have nolim : s.heap.NoLimit := e0.mod.nolimit.keeps fun b o e => (e0.bs b o e).1
  have kinds : ∀ y ∈ ps.zip us, scope.names.lookup y.1 = some .local ∨ (scope.names.lookup y.1 = some .cell ∧ ((cellsFrom (s.heap.objs.size + 1) scope.names []).lookup y.1).isSome = true) := fun y hy => by
    rcases S.par y.1 (List.of_mem_zip (a := y.1) (b := y.2) hy).1 with q | q
    · exact .inl q
    · exact .inr ⟨q, PySem.W.cellsFrom_some _ _ _ (.inl q)⟩
  refine codeAny_call_function hr.depth (inK _ _ lk) rfl S.co S.gen rfl (PySem.W.codeRec_of inK hcd) (hbi _ _ _ _ ?_)
  refine wpAny_newFunctionEnv_cells S.kind kinds fun env he s1 xc => ?_
  subst he
  refine ⟨nolim.keeps xc.toInCall.keep, codeAny_func ?_⟩
  have I : Inv (cxOf (L2.CX P w) P w K mg base N qual scope f cdv A outer s H E) [] (L2.start N vs) H s1 := inv_start S hr.hd e0 hlen r xc
  have cg : Cg (cxOf (L2.CX P w) P w K mg base N qual scope f cdv A outer s H E) (fun _ => E) k :=
    ⟨rfl, S.nd, hr.deeper _, hgd, takes_of rfl rfl rfl rfl, passes_of rfl⟩
  have hcode : codeOf K f = cdv := by unfold codeOf; rw [lk]
  have ht := (hb cdv hcode A outer s H E cg).run [] s1 (L2.start N vs) H _ I (hd _ _ _ _ hsp)
  refine wpAny_mono ht (fun fl s' hs => ?_) fun e s' hs => hs
  have fin : ∀ {σ' : L2.St} {H' : Hp} {v : V} {u : Value}, Inv (cxOf (L2.CX P w) P w K mg base N qual scope f cdv A outer s H E) [] σ' H' s' → RelV v u → Q v H' → CE outer P w H s Q u s' :=
    fun {σ' H' v u} J rv q => ⟨v, H', J.os, J.bare, J.base, J.hok, rv, q⟩
  cases fl with
  | next =>
    obtain ⟨σ', H', J, q⟩ := hs
    exact fin (v := V.non) (u := Value.none) J rfl q
  | ret u =>
    obtain ⟨v, σ', H', J, rv, q⟩ := hs
    exact fin J rv q
  | brk => obtain ⟨_, _, _, q⟩ := hs; exact False.elim q
  | cont => obtain ⟨_, _, _, q⟩ := hs; exact False.elim q
theorem fng_of (G : FunD K x qual params body scope dvs kws f fd) (S : FnScope N ps scope)
    (hb : ∀ (cdv : Value) (_ : codeOf K f = cdv) (A : Around) (outer : List Env) (s : Shared) (H : Hp) (E : XK), Cg (cxOf (L2.CX P w) P w K mg base N qual scope f cdv A outer s H E) (fun _ => E) k → JB T (cxOf (L2.CX P w) P w K mg base N qual scope f cdv A outer s H E) (fun _ => E) body b) :
    FnG T P w K mg base (k + 1) f fd ps (dDef ps.length N.length b) := fng_of_ok (fun _ _ _ _ h => def_ok h) G S hb
end

/-- the same of a def whose new places stay -/
theorem fng_of0 {T : Tb} {P : Program} {w : World} {K : PySem.W.Frag} {mg : Str → Option Value} {base : Heap} {x qual : Str} {params : Arguments} {body : List Stmt} {scope : Scope} {dvs : List V} {kws : List (Str × V)} {f : Addr} {fd : FuncData} {N ps : List Str} {k : Nat} {b : DS}
    (G : FunD K x qual params body scope dvs kws f fd) (S : FnScope N ps scope)
    (hb : ∀ (cdv : Value) (_ : codeOf K f = cdv) (A : Around) (outer : List Env) (s : Shared) (H : Hp) (E : XK), Cg (cxOf (L2.CX P w) P w K mg base N qual scope f cdv A outer s H E) (fun _ => E) k → JB T (cxOf (L2.CX P w) P w K mg base N qual scope f cdv A outer s H E) (fun _ => E) body b) :
    FnG T P w K mg base (k + 1) f fd ps (dDef0 ps.length N.length b) := fng_of_ok (fun _ _ _ _ h => def_ok0 h) G S hb
theorem arity_0 {n m : Nat} {b : DS} (xs : List PV) (S : Sto) (h : xs.length ≠ n) : dDef0 n m b xs S = .bad := by unfold dDef0; rw [if_neg h]
theorem arity_d {n m : Nat} {b : DS} (xs : List PV) (S : Sto) (h : xs.length ≠ n) : dDef n m b xs S = .bad := by unfold dDef; rw [arity_0 xs S h]; rfl
theorem kw_of {K : PySem.W.Frag} {x qual : Str} {params : Arguments} {body : List Stmt} {scope : Scope} {kws : List (Str × V)} {f : Addr} {fd : FuncData} {ps : List Str} (F : FunD K x qual params body scope [] kws f fd)
    (h : ∀ (kV doc pm : Value) (an : Option Addr) (cdv ct : Value) (ws : List Value), ws.length = ps.length → bindArgs (PySem.W.fnOf x qual params body scope .none kV doc pm an cdv ct) ⟨[], ps.zip ws⟩ = pure (ps.zip ws)) (s : Shared) (ws : List Value) (_ : K.In s.heap) (hl : ws.length = ps.length) : BindsTo s fd ⟨[], ps.zip ws⟩ (ps.zip ws) := by
  obtain ⟨oc, od, dV, kV, doc, pm, an, cdv, ct, osl, rfl, lk, hcd, hD, hK⟩ := F.ex
  rcases hD with ⟨_, z⟩ | ⟨z, _⟩
  · subst z
    exact .of_eq (h kV doc pm an cdv ct ws hl)
  · exact absurd rfl z


theorem lk_of {K : PySem.W.Frag} {x qual : Str} {params : Arguments} {body : List Stmt} {scope : Scope} {dvs : List V} {kws : List (Str × V)} {f : Addr} {fd : FuncData} (F : FunD K x qual params body scope dvs kws f fd) : ∃ oc od osl, K.lookup f = some ⟨oc, od, .func fd, osl⟩ := by
  obtain ⟨oc, od, _, _, _, _, _, _, _, osl, _, lk, _⟩ := F.ex
  exact ⟨oc, od, osl, lk⟩
/-! ### a def as it is known by its name -/
structure Fn (T : Tb) (P : Program) (w : World) (K : PySem.W.Frag) (mg : Str → Option Value) (base : Heap) (k : Nat) (x : Str) (ps : List Str) (d : DF) : Prop where
  ex : ∃ (f : Addr) (fd : FuncData), mg x = some (.ref f) ∧ PySem.W.keepIn K (.ref f) = true ∧ FnG T P w K mg base k f fd ps d ∧ Binds K fd ps [] ∧ (∀ (s : Shared) (ws : List Value), K.In s.heap → ws.length = ps.length → BindsTo s fd ⟨[], ps.zip ws⟩ (ps.zip ws)) ∧ ∃ oc od osl, K.lookup f = some ⟨oc, od, .func fd, osl⟩
  ar : ∀ (xs : List PV) (S : Sto), xs.length ≠ ps.length → d xs S = .bad
def dFn (d : DF) (ar : DA) : DE := fun l S => (ar l S).bind fun xs S1 => d xs S1
section
variable {T : Tb} {X : Cx} {E : XS} {x : Str} {p pos : Pos} {e : Expr} {es : List Expr} {ps : List Str} {d : DF} {ar : DA} {j k : Nat} {f : Addr} {fd : FuncData} {ds : List Value} {dvs : List V}
theorem run_fng {pins : List (Addr × Obj)} {σ : L2.St} {H : Hp} {s : Shared} {Q : VK} {us : List Value} {vs : List V} (c : Cg X E k) (hj : j ≤ k) (G : FnG T X.prog X.w X.K X.mg X.base j f fd ps d) {args : Args} (hb : BindsTo s fd args (ps.zip us))
    (I : Inv X pins σ H s) (r : Vals vs us) (h : spOf T X.K ps.length d vs H Q (E σ)) : codeAny (model X.prog X.w) X.A (.call (.ref f) args) (fun r s' => match r with
      | .ok (.ret u) => EP X pins σ Q u s'
      | .ok _ => False
      | .error e => X.xe e s') s := by
  refine codeAny_mono (G.run X.A X.stack s H args us vs Q (E σ) (c.room.mono hj) c.gd I.env0 hb r h) fun z s' hq => ?_
  cases z with
  | error e => exact c.pass pins σ H s e s' I hq
  | ok fl =>
    cases fl with
    | ret u => exact I.after hq
    | next => exact False.elim hq
    | brk => exact False.elim hq
    | cont => exact False.elim hq
theorem sp_of {E : XK} {K : PySem.W.Frag} {R : Pl} {F H : Hp} {S : Sto} {xs : List PV} {vs : List V} {Q : VK} {n : Nat} (hl : xs.length = n) (r : Rep T K R F S H) (rx : RelL T K R F xs vs) (h : OkV T K R F (d xs S) Q E) : spOf T K n d vs H Q E :=
  ⟨by rw [rx.length]; exact hl, R, F, S, xs, r, rx, h⟩
/-- f(e, ..), every parameter by its place -/
theorem je_fn (c : Cg X E k) (F : Fn T X.prog X.w X.K X.mg X.base j x ps d) (ha : JA T X E (e :: es) ar) (hj : j ≤ k := by decide) (hn : (e :: es).length = ps.length := by rfl) (hg : Gl X x := by rfl) (hdb : (x == ("__debug__" : Str)) = false := by decide)
    (he : starEach (e :: es) X.env = (false, eval e X.env) :: starEach es X.env := by rfl) (hpl : (backTo pos (starEach es X.env)).any (·.1) = false := by rfl) : JE T X E (.Call (.Name x p) (e :: es) [] pos) (dFn d ar) := by
  obtain ⟨f, fd, hm, hk, G, hb, _⟩ := F.ex
  refine ⟨fun pins s σ H Q I h => ?_⟩
  refine wpAny_Call_Name_kw (ld_glob I hg hm ?_ hdb)
  obtain ⟨R, Fz, l, S, r, e', h⟩ := h
  have hh : tL T X.K E ar σ H fun vs H1 => spOf T X.K ps.length d vs H1 Q (E σ) := seqL (goV T X.K (E σ) Q) r e' h fun xs S1 R1 F1 H1 us p ex r1 rx e1 h1 => by
    have h1 : OkV T X.K R1 F1 (d xs S1) Q (E σ) := h1
    by_cases hl : xs.length = ps.length
    · exact sp_of hl r1 rx h1
    · rw [F.ar xs S1 hl] at h1; exact h1.elim
  refine PySem.W.callWith_K (h₀ := X.base) I.ok.mod.kin hk (thn (ha.run pos pins s σ H _ I hh) fun us s1 ⟨vs, H1, I1, r1, q1⟩ => ⟨I1.kIn, ?_⟩) he hpl
  have hl : us.length = ps.length := by rw [← r1.length]; exact q1.1
  have hb' := hb s1 us I1.kIn (by rw [List.append_nil]; exact hl)
  rw [List.append_nil] at hb'
  refine wpAny_call (codeAny_mono (run_fng c hj G hb' I1 r1 q1) fun z s' hq => ?_)
  cases z with
  | error e => exact hq
  | ok fl => cases fl with
    | ret u => exact hq
    | _ => exact False.elim hq
end
end Z
end
section
set_option Elab.async false
set_option linter.all false
set_option maxRecDepth 100000
set_option maxHeartbeats 1000000
/-! ZM: methods of built-in things, calls by keywords, the law's end. -/
noncomputable section
namespace Z
open PySem PySem.Spec PyProof.Rows L2

theorem Cg.blk {X : Cx} {E : XS} {k : Nat} (c : Cg X E k) {s : Shared} {H : Hp} {scope : Scope} {env : Env} {fp : List Addr} : Cg (X.blk s H scope env fp) E00 k :=
  ⟨c.calm, c.nd, c.room, c.gd, takes0, PassesOwn.never⟩
/-! ### o.m(..) -/
def MetZ (T : Tb) (K : PySem.W.Frag) (f : PV → List PV → Sto → Out PV) (r : V → List V → Hp → VK → Prop) : Prop := ∀ (E : XK) (R : Pl) (F H : Hp) (S : Sto) (x : PV) (xs : List PV) (u : V) (us : List V) (Q : VK), Rep T K R F S H → Rel T K R F x u → RelL T K R F xs us → OkV T K R F (f x xs S) Q E → r u us H Q
def tyOk (n : String) (x : PV) (S : Sto) : Bool := match tyZ x S with
  | some t => t == n && (n == "str" || n == "int" || n == "list")
  | none => false
def dMet (n : String) (f : PV → List PV → Sto → Out PV) (o : DE) (ar : DA) : DE := fun l S => (o l S).bind fun x S1 => if tyOk n x S1 = true then (ar l S1).bind fun xs S2 => f x xs S2 else .bad
section
variable {T : Tb} {X : Cx} {E : XS} {o e : Expr} {es : List Expr} {dO : DE} {ar : DA} {name : Str} {apos cpos : Pos} {n id : String} {f : PV → List PV → Sto → Out PV} {r : V → List V → Hp → VK → Prop}
theorem tyOk_v {K : PySem.W.Frag} {R : Pl} {F H : Hp} {S : Sto} (re : Rep T K R F S H) {x : PV} {u : V} (rx : Rel T K R F x u) (h : tyOk n x S = true) : tyV K n u H := by
  unfold tyOk at h
  split at h
  · rename_i t ht
    rw [Bool.and_eq_true] at h
    have e := eq_of_beq h.1
    subst e
    have h2 := h.2
    cases x with
    | str z => cases ht; rw [rel_str rx]; rfl
    | int z => cases ht; rw [rel_int rx]; rfl
    | non => cases ht; simp at h2
    | bl b => cases ht; simp at h2
    | _ =>
      all_goals
        simp only [tyZ] at ht
        split at ht
        · rename_i ys hv
          cases ht
          obtain ⟨a, us, rfl, hs, hl⟩ := view_rel re rx hv
          exact .inl ⟨rfl, us, (shp_rd hs).1 (.inl rfl)⟩
        · rename_i ys hv
          cases ht
          obtain ⟨a, us, rfl, hs, hl⟩ := view_rel re rx hv
          exact .inl ⟨rfl, us, (shp_rd hs).1 (.inr rfl)⟩
        · cases ht; simp at h2
        · cases ht; simp at h2
        · cases ht
  · cases h
theorem je_met (pa : PlainAttrs n) (slot : Slot n name id) (hty : typeOf (.builtin id) = pure (.type "method_descriptor")) (hm : MtR X id r) (hz : MetZ T X.K f r) (ho : JE T X E o dO) (ha : JA T X E (e :: es) ar)
    (hbase : attributeBase o name X.env (eval o X.env) = eval o X.env := by rfl)
    (hfew : ((backTo cpos (starEach (e :: es) X.env)).all (fun x => !x.1) && (backToKw cpos (keywordEach [] X.env)).all (fun x => x.1.isSome)
      && decide ((e :: es).length + ([] : List Keyword).length + (if ([] : List Keyword).isEmpty then 0 else 1) < 30)) = true := by rfl)
    (hline : (apos.endLine == cpos.line) = true := by rfl) (hs : starEach (e :: es) X.env = (false, eval e X.env) :: starEach es X.env := by rfl) (hplain : (backTo cpos (starEach es X.env)).any (·.1) = false := by rfl) :
    JE T X E (.Call (.Attribute o name apos) (e :: es) [] cpos) (dMet n f dO ar) :=
  pe_imp (pe_bm pa slot hty hm ho ha hbase hfew hline hs hplain) fun σ H Q ⟨R, F, l, S, re, e, h⟩ => by
    refine seqV (goV T X.K (E σ) Q) re e h fun x S1 R1 F1 H1 u p ex r1 rx e1 h1 => ?_
    have h1 : OkV T X.K R1 F1 (if tyOk n x S1 = true then (ar l S1).bind fun xs S2 => f x xs S2 else .bad) Q (E σ) := h1
    split at h1
    · rename_i hty
      refine ⟨tyOk_v r1 rx hty, seqL (goV T X.K (E σ) Q) r1 e1 h1 fun xs S2 R2 F2 H2 us p2 ex2 r2 rxs e2 h2 => hz (E σ) R2 F2 H2 S2 x xs u us Q r2 (rx.mono p2 ex2) rxs h2⟩
    · exact h1.elim
end

/-! ### list.append, list.pop -/
def appP (x : PV) (ys : List PV) (S : Sto) : Out PV := match x, ys with
  | .ref n, [y] => (match S[n]? with
    | some (some (.lst, xs)) => if xs.length < 16777216 then .ok .non (S.set n (some (.lst, xs ++ [y]))) else .bad
    | _ => .bad)
  | _, _ => .bad
section
variable {T : Tb} {K : PySem.W.Frag}
theorem RelL.dropLast {R : Pl} {F : Hp} {xs : List PV} {us : List V} (h : RelL T K R F xs us) : RelL T K R F xs.dropLast us.dropLast := by
  rw [List.dropLast_eq_take, List.dropLast_eq_take, h.length]
  exact h.take _
theorem mz_append : MetZ T K appP rAppend := by
  intro E R F H S x xs u us Q r rx rxs h
  unfold appP at h
  split at h
  · rename_i n y
    obtain ⟨w, rfl, ry⟩ := rel1 rxs
    split at h
    · rename_i zs hS
      split at h
      · rename_i hz
        rw [Rel] at rx
        obtain ⟨a, rfl, ha⟩ := rx
        obtain ⟨hf, ws, hl, hx⟩ := r.live n a .lst zs ha hS
        have hl : H a = some (.lst ws) := hl
        refine ⟨a, ws, w, rfl, rfl, hl, by rw [sizeLine_eq, hx.length]; exact hz, ?_⟩
        exact PostV.here (v := .non) (r.put ha hf (k := .lst) (xs := zs ++ [y]) upd_same (hx.append (.cons ry .nil))) (by rw [Rel]) h
      · exact h.elim
    · exact h.elim
  · exact h.elim
end
section
variable {T : Tb} {X : Cx} {E : XS} {o e : Expr} {dO d : DE} {apos cpos : Pos}
theorem je_append (ho : JE T X E o dO) (ha : JE T X E e d) (hbase : attributeBase o "append" X.env (eval o X.env) = eval o X.env := by rfl)
    (hline : (apos.endLine == cpos.line) = true := by rfl) (hs : starEach [e] X.env = (false, eval e X.env) :: starEach [] X.env := by rfl) : JE T X E (.Call (.Attribute o "append" apos) [e] [] cpos) (dMet "list" appP dO (dCons d dNil)) :=
  je_met PySem.F.plainAttrs_list PySem.F.slot_list_append PySem.F.type_list_append mt_append mz_append ho (ja_cons ha ja_nil hs) hbase (by rw [hs]; rfl) hline hs rfl

/-! ### xs[::-1] of a list -/
def revP (x : PV) (S : Sto) : Out PV := match lstOf x S with
  | some xs => .ok (.nd .lst xs.reverse) S
  | none => .bad
def dRev (d : DE) : DE := fun l S => (d l S).bind fun x S1 => revP x S1
end

/-! ### f(k = e, ..): all parameters by their names, in their order -/
abbrev JK (T : Tb) (X : Cx) (E : XS) (kws : List Keyword) (ar : DA) : Prop := L2.PK X kws (tL T X.K E ar)
section
variable {T : Tb} {X : Cx} {E : XS} {x : Str} {p pos kpos : Pos} {e : Expr} {kws : List Keyword} {ps : List Str} {d : DF} {a : DE} {ar : DA} {j k : Nat} {nm : Option Str}
theorem jk_nil : JK T X E [] dNil := ⟨fun pos pins s σ H Q I ⟨R, F, l, S, r, e, h⟩ => pk_nil.run pos pins s σ H Q I (PostL.here r .nil h)⟩
theorem jk_cons (ha : JE T X E e a) (hr : JK T X E kws ar) : JK T X E (⟨nm, e, kpos⟩ :: kws) (dCons a ar) :=
  ⟨fun pos pins s σ H Q I ⟨R, F, l, S, r, e, h⟩ => (pk_cons ha hr).run pos pins s σ H Q I (by
    refine seqV (goL T X.K (E σ) Q) r e h fun x S1 R1 F1 H1 u p ex r1 rx e1 h1 => ?_
    refine seqL (goL T X.K (E σ) Q) r1 e1 h1 fun xs S2 R2 F2 H2 us p2 ex2 r2 rxs e2 h2 => ?_
    exact PostL.here r2 (.cons (rx.mono p2 ex2) rxs) h2)⟩
end

end Z
end
end
section
set_option Elab.async false
set_option linter.all false
set_option maxRecDepth 100000
set_option maxHeartbeats 1000000
/-! ZQ: reckoning with denotations. -/
noncomputable section
namespace Z
open PySem PySem.Spec PyProof.Rows L2

section
variable {α β : Type} (v : PV) (S : Sto) (l : Loc) (a b c : DE) (ar : DA) (p q : DB) (s t : DS)
@[simp] theorem bind_ok (x : α) (k : α → Sto → Out β) : (Out.ok x S).bind k = k x S := rfl
@[simp] theorem bind_err (e : XV) (k : α → Sto → Out β) : (Out.err e S : Out α).bind k = .err e S := rfl
@[simp] theorem bind_bad (k : α → Sto → Out β) : (Out.bad : Out α).bind k = .bad := rfl
@[simp] theorem st_ok (x : α) (k : α → Sto → OutS) : (Out.ok x S).st l k = k x S := rfl
@[simp] theorem st_err (e : XV) (k : α → Sto → OutS) : (Out.err e S : Out α).st l k = .err e l S := rfl
@[simp] theorem st_bad (k : α → Sto → OutS) : (Out.bad : Out α).st l k = .bad := rfl
@[simp] theorem seq_nx (k : Loc → Sto → OutS) : (OutS.nx l S).seq k = k l S := rfl
@[simp] theorem seq_ret (k : Loc → Sto → OutS) : (OutS.ret v S).seq k = .ret v S := rfl
@[simp] theorem seq_brk (k : Loc → Sto → OutS) : (OutS.brk l S).seq k = .brk l S := rfl
@[simp] theorem seq_cnt (k : Loc → Sto → OutS) : (OutS.cnt l S).seq k = .cnt l S := rfl
@[simp] theorem seq_err (e : XV) (k : Loc → Sto → OutS) : (OutS.err e l S).seq k = .err e l S := rfl
@[simp] theorem seq_bad (k : Loc → Sto → OutS) : OutS.bad.seq k = .bad := rfl
@[simp] theorem dC_ap : dC v l S = .ok v S := rfl
@[simp] theorem dVar_0 : dVar 0 (some v :: l) S = .ok v S := rfl
@[simp] theorem dVar_s (i : Nat) (o : Option PV) : dVar (i + 1) (o :: l) S = dVar i l S := rfl
@[simp] theorem dNil_ap : dNil l S = .ok [] S := rfl
@[simp] theorem dCons_ap : dCons a ar l S = (a l S).bind fun x S1 => (ar l S1).bind fun xs S2 => .ok (x :: xs) S2 := rfl
@[simp] theorem dTup_ap : dTup ar l S = (ar l S).bind fun xs S1 => mkNd .tup xs S1 := rfl
@[simp] theorem dLst_ap : dLst ar l S = (ar l S).bind fun xs S1 => mkNd .lst xs S1 := rfl
@[simp] theorem dLstM_ap : dLstM ar l S = (ar l S).bind fun xs S1 => mkRf .lst xs S1 := rfl
@[simp] theorem dBin_ap (f : PV → PV → Sto → Out PV) : dBin f a b l S = (a l S).bind fun x S1 => (b l S1).bind fun y S2 => f x y S2 := rfl
@[simp] theorem dB_ap : dB a l S = asB (a l S) := rfl
@[simp] theorem asB_ok (k : Bool) : asB (.ok (.bl k) S) = .ok k S := rfl
@[simp] theorem dApp_ap (f : List PV → Sto → Out PV) : dApp f ar l S = (ar l S).bind fun xs S1 => f xs S1 := rfl
@[simp] theorem dFn_ap (f : DF) : dFn f ar l S = (ar l S).bind fun xs S1 => f xs S1 := rfl
@[simp] theorem dTru_ap : dTru a l S = (a l S).bind fun x S1 => truP x S1 := rfl
@[simp] theorem dNotT_ap : dNotT p l S = (p l S).bind fun b S1 => .ok (!b) S1 := rfl
@[simp] theorem dAndT_ap : dAndT p q l S = (p l S).bind fun k S1 => if k = true then q l S1 else .ok false S1 := rfl
@[simp] theorem dOrT_ap : dOrT p q l S = (p l S).bind fun k S1 => if k = true then .ok true S1 else q l S1 := rfl
@[simp] theorem dOr_ap : dOr a b l S = (a l S).bind fun x S1 => (truP x S1).bind fun k S2 => if k = true then .ok x S2 else b l S2 := rfl
@[simp] theorem dAnd_ap : dAnd a b l S = (a l S).bind fun x S1 => (truP x S1).bind fun k S2 => if k = true then b l S2 else .ok x S2 := rfl
@[simp] theorem dNot_ap : dNot a l S = (a l S).bind fun x S1 => (truP x S1).bind fun k S2 => .ok (.bl (!k)) S2 := rfl
@[simp] theorem dIf_ap : dIf p a b l S = (p l S).bind fun k S1 => if k = true then a l S1 else b l S1 := rfl
@[simp] theorem dUn_ap (f : PV → Sto → Out PV) : dUn f a l S = (a l S).bind fun x S1 => f x S1 := rfl
@[simp] theorem dNone_ap : dNone l S = .ok none S := rfl
@[simp] theorem dSome_ap : dSome a l S = asI (a l S) := rfl
@[simp] theorem asI_ok (i : Int) : asI (.ok (.int i) S) = .ok (some i) S := rfl
@[simp] theorem dSli_ap (lo hi : DO) : dSli a lo hi l S = (a l S).bind fun x S1 => (lo l S1).bind fun p S2 => (hi l S2).bind fun q S3 => sliZ x p q S3 := rfl
@[simp] theorem dRev_ap : dRev a l S = (a l S).bind fun x S1 => revP x S1 := rfl
@[simp] theorem dMet_ap (n : String) (f : PV → List PV → Sto → Out PV) : dMet n f a ar l S = (a l S).bind fun x S1 => if tyOk n x S1 = true then (ar l S1).bind fun xs S2 => f x xs S2 else .bad := rfl
@[simp] theorem dSkip_ap : dSkip l S = .nx l S := rfl
@[simp] theorem dSeq_ap : dSeq s t l S = (s l S).seq t := rfl
@[simp] theorem dExpr_ap : dExpr a l S = (a l S).st l fun _ S1 => .nx l S1 := rfl
@[simp] theorem dRet_ap : dRet a l S = (a l S).st l fun v S1 => .ret v S1 := rfl
@[simp] theorem dRetN_ap : dRetN l S = .ret .non S := rfl
@[simp] theorem dIfS_ap : dIfS p s t l S = (p l S).st l fun k S1 => if k = true then s l S1 else t l S1 := rfl
@[simp] theorem dSet_ap (i : Nat) : dSet i a l S = (a l S).st l fun v S1 => .nx (l.set i (some v)) S1 := rfl
@[simp] theorem dBrk_ap : dBrk l S = .brk l S := rfl
@[simp] theorem dCnt_ap : dCnt l S = .cnt l S := rfl
@[simp] theorem dNever_ap : dNever l S = .bad := rfl
@[simp] theorem dAsg_ap (g : DG) : dAsg a g l S = (a l S).st l fun v S1 => onlyNx (g v l S1) := rfl
@[simp] theorem onlyNx_nx : onlyNx (.nx l S) = .nx l S := rfl
@[simp] theorem gzN_ap (i : Nat) : gzN i v l S = .nx (l.set i (some v)) S := rfl
@[simp] theorem gzT_ap (gs : List DG) (xs : List PV) : gzT gs (.nd .tup xs) l S = gzL gs xs l S := rfl
@[simp] theorem gzL_nil : gzL [] [] l S = .nx l S := rfl
@[simp] theorem gzL_cons (g : DG) (gs : List DG) (x : PV) (xs : List PV) : gzL (g :: gs) (x :: xs) l S = (g x l S).seq fun l1 S1 => gzL gs xs l1 S1 := rfl
@[simp] theorem gzI_ap : gzI a b v l S = (a l S).st l fun x S1 => (b l S1).st l fun y S2 => match putP x y v S2 with
  | some S3 => .nx l S3
  | none => .bad := rfl
@[simp] theorem dPar_ap (i j : Nat) : dPar i j ar l S = (ar l S).st l fun xs S1 => match xs with
  | [v, w] => .nx ((l.set i (some v)).set j (some w)) S1
  | _ => .bad := rfl
@[simp] theorem dPar3_ap (i j k : Nat) : dPar3 i j k ar l S = (ar l S).st l fun xs S1 => match xs with
  | [u, v, w] => .nx (((l.set i (some u)).set j (some v)).set k (some w)) S1
  | _ => .bad := rfl
@[simp] theorem dFor_ap (di : DI) (tg : TgZ) : dFor di tg s l S = (di l S).st l fun it S1 => if heldB it.held S1 = true then forZ tg it.held s it.items l S1 else .bad := rfl
@[simp] theorem dItV_ap : dItV a l S = (a l S).bind fun x S1 => itOf x S1 := rfl
@[simp] theorem dItA_ap (f : List PV → Sto → Out ItZ) : dItA f ar l S = (ar l S).bind fun xs S1 => f xs S1 := rfl
@[simp] theorem dLc_ap (vs : List Nat) (di : DI) (tg : TgZ) : dLc vs di tg p a l S = (dLc0 vs di tg p a l S).bind fun xs S1 => .ok (.nd .lst xs) S1 := rfl
@[simp] theorem dLcM_ap (vs : List Nat) (di : DI) (tg : TgZ) : dLcM vs di tg p a l S = (dLc0 vs di tg p a l S).bind fun xs S1 => .ok (.ref S1.length) (S1 ++ [some (.lst, xs)]) := rfl
@[simp] theorem dLc0_ap (vs : List Nat) (di : DI) (tg : TgZ) : dLc0 vs di tg p a l S = (di l S).bind fun it S1 => if heldB it.held S1 = true ∧ it.items.length ≤ 16777216 then lcZ tg it.held p a (wipeZ l vs) it.items S1 else .bad := rfl
@[simp] theorem dYes_ap : dYes l S = .ok true S := rfl
@[simp] theorem wipeZ_nil : wipeZ l [] = l := rfl
@[simp] theorem wipeZ_cons (i : Nat) (is : List Nat) : wipeZ l (i :: is) = (wipeZ l is).set i none := rfl
@[simp] theorem heldB_nil' : heldB [] S = true := heldB_nil S
@[simp] theorem heldB_one (n : Nat) (v : Kd × List PV) : heldB [(.ref n, v)] S = decide (S[n]? = some (some v)) := by
  rw [Bool.eq_iff_iff, decide_eq_true_iff, show (heldB [(PV.ref n, v)] S = true ↔ ∀ p ∈ [(PV.ref n, v)], view p.1 S = some p.2) from ⟨heldB_all, heldB_of⟩]
  constructor
  · intro h
    have := h _ (List.mem_singleton.mpr rfl)
    have h2 : (S[n]?).join = some v := this
    cases q : S[n]? with
    | none => rw [q] at h2; cases h2
    | some o => rw [q] at h2; cases o with
      | none => cases h2
      | some y => cases h2; rfl
  · intro h p hp
    rw [List.mem_singleton.mp hp]
    show (S[n]?).join = _
    rw [h]; rfl
@[simp] theorem view_nd' (k : Kd) (xs : List PV) : view (.nd k xs) S = some (k, xs) := rfl
@[simp] theorem view_ref' (n : Nat) : view (.ref n) S = (S[n]?).join := rfl
@[simp] theorem hold_nd (k : Kd) (xs : List PV) (w : Kd × List PV) : holdOf (.nd k xs) w = [] := rfl
@[simp] theorem hold_ref (n : Nat) (w : Kd × List PV) : holdOf (.ref n) w = [(.ref n, w)] := rfl
theorem dDef0_ap {n m : Nat} {xs : List PV} (h : xs.length = n) : dDef0 n m s xs S = (match s (xs.map some ++ List.replicate (m - n) none) S with
  | .nx _ S1 => .ok .non S1
  | .ret v S1 => .ok v S1
  | .err e _ S1 => .err e S1
  | _ => .bad) := by unfold dDef0; rw [if_pos h] <;> rfl
theorem shut_same {S S1 : Sto} (h : S1.length ≤ S.length) : shut S (.ok v S1) = .ok v S1 := by unfold shut; simp only; rw [if_pos h]
/-- a def that makes no new place -/
theorem dDef_ret {n m : Nat} {xs : List PV} {S1 : Sto} {v : PV} (h : xs.length = n) (hb : s (xs.map some ++ List.replicate (m - n) none) S = .ret v S1) (hl : S1.length ≤ S.length) : dDef n m s xs S = .ok v S1 := by
  unfold dDef
  rw [dDef0_ap S s h, hb]
  exact shut_same v hl
theorem dDef_nx {n m : Nat} {xs : List PV} {S1 : Sto} {l1 : Loc} (h : xs.length = n) (hb : s (xs.map some ++ List.replicate (m - n) none) S = .nx l1 S1) (hl : S1.length ≤ S.length) : dDef n m s xs S = .ok .non S1 := by
  unfold dDef
  rw [dDef0_ap S s h, hb]
  exact shut_same _ hl
theorem dDef0_ret {n m : Nat} {xs : List PV} {S1 : Sto} {v : PV} (h : xs.length = n) (hb : s (xs.map some ++ List.replicate (m - n) none) S = .ret v S1) : dDef0 n m s xs S = .ok v S1 := by
  rw [dDef0_ap S s h, hb]
/-- a def whose result was made new -/
theorem dDef_thaw {n m : Nat} {xs : List PV} {S1 : Sto} {v w : PV} (h : xs.length = n) (hb : s (xs.map some ++ List.replicate (m - n) none) S = .ret v S1) (hl : S.length < S1.length) (ht : thaw 12 S.length S1 v = some w) (hf : fitsS S S1 = true) : dDef n m s xs S = .ok w (S1.take S.length) := by
  unfold dDef
  rw [dDef0_ap S s h, hb]
  unfold shut
  simp only
  rw [if_neg (by omega), ht]
  simp only
  rw [if_pos hf]
end
theorem fitsS_app (S X : Sto) : fitsS S (S ++ X) = true := by
  exact fitsS_iff.mpr fun i hi => .inl (List.getElem?_append_left hi)
theorem fitsS_head {o p : Option (Kd × List PV)} {T X : Sto} (h : fitsO (T.length + 1) p = true) : fitsS (o :: T) (p :: (T ++ X)) = true := by
  refine fitsS_iff.mpr fun i hi => ?_
  cases i with
  | zero => exact .inr ⟨p, rfl, h⟩
  | succ i =>
    rw [List.length_cons] at hi
    exact .inl (by rw [List.getElem?_cons_succ, List.getElem?_cons_succ, List.getElem?_append_left (by omega)])
theorem fits_ints (n : Nat) (ns : List Int) : fitsL n (ns.map PV.int) = true := by
  induction ns with
  | nil => rfl
  | cons m ns ih =>
    show (true && fitsL n (ns.map PV.int)) = true
    rw [ih]; rfl
/-! ### operations on plain values -/
section
variable (S : Sto) (i j : Int) (k : Bool) (xs ys : List PV)
@[simp] theorem addP_int : addP (.int i) (.int j) S = .ok (.int (i + j)) S := rfl
@[simp] theorem addP_ib : addP (.int i) (.bl k) S = .ok (.int (i + b2i k)) S := rfl
@[simp] theorem addP_lst : addP (.nd .lst xs) (.nd .lst ys) S = mkNd .lst (xs ++ ys) S := rfl
@[simp] theorem addP_tup : addP (.nd .tup xs) (.nd .tup ys) S = mkNd .tup (xs ++ ys) S := rfl
@[simp] theorem subP_int : subP (.int i) (.int j) S = .ok (.int (i - j)) S := rfl
@[simp] theorem mulZ_int : mulZ (.int i) (.int j) S = if mulOk i j then .ok (.int (i * j)) S else .bad := rfl
theorem divP_int (h : 0 < j ∧ j.natAbs < DIVB) : divP (.int i) (.int j) S = .ok (.int (i / j)) S := by unfold divP; simp only; rw [if_pos h]
theorem modP_int (h : 0 < j) : modP (.int i) (.int j) S = .ok (.int (i % j)) S := by unfold modP; simp only; rw [if_pos h]
@[simp] theorem powP_int : powP (.int i) (.int j) S = if 0 ≤ j ∧ j ≤ 1000000 ∧ i.natAbs < 2 ^ 64 then .ok (.int (i ^ j.toNat)) S else .bad := rfl
@[simp] theorem ltZ_int : ltZ (.int i) (.int j) S = .ok (.bl (decide (i < j))) S := rfl
@[simp] theorem leZ_int : leZ (.int i) (.int j) S = .ok (.bl (decide (i ≤ j))) S := rfl
@[simp] theorem gtZ_int : gtZ (.int i) (.int j) S = .ok (.bl (decide (j < i))) S := rfl
@[simp] theorem geZ_int : geZ (.int i) (.int j) S = .ok (.bl (decide (j ≤ i))) S := rfl
@[simp] theorem eqZ_str (a b : Str) : eqZ (.str a) (.str b) S = .ok (.bl (decide (a = b))) S := rfl
@[simp] theorem neZ_str (a b : Str) : neZ (.str a) (.str b) S = .ok (.bl (!decide (a = b))) S := rfl
theorem shaped_int : SeqAt.shaped (.int i) = true := by
  unfold SeqAt.shaped
  simp [PyData.canLay0, PyData.depth]
@[simp] theorem eqZ_int : eqZ (.int i) (.int j) S = .ok (.bl (decide (i = j))) S := by
  show eqD (.int i) (.int j) S = _
  unfold eqD datS view
  simp only [dat, shaped_int, and_self, if_true, PyData.eqv]
  rfl
@[simp] theorem neZ_int : neZ (.int i) (.int j) S = .ok (.bl (!decide (i = j))) S := by
  show neD (.int i) (.int j) S = _
  unfold neD datS view
  simp only [dat, shaped_int, and_self, if_true, PyData.eqv]
  rfl
@[simp] theorem negP_int : negP (.int i) S = .ok (.int (-i)) S := rfl
@[simp] theorem intP_int : intP [.int i] S = .ok (.int i) S := rfl
@[simp] theorem intP_bl : intP [.bl k] S = .ok (.int (if k then 1 else 0)) S := rfl
@[simp] theorem absP_int : absP [.int i] S = .ok (.int (if i < 0 then -i else i)) S := rfl
@[simp] theorem lenP_nd_lst : lenP [.nd .lst xs] S = .ok (.int xs.length) S := rfl
@[simp] theorem lenP_nd_tup : lenP [.nd .tup xs] S = .ok (.int xs.length) S := rfl
@[simp] theorem lenP_nd_scr : lenP [.nd .scr xs] S = .ok (.int xs.length) S := rfl
@[simp] theorem listP_lst : listP [.nd .lst xs] S = .ok (.nd .lst xs) S := rfl
@[simp] theorem listP_tup : listP [.nd .tup xs] S = .ok (.nd .lst xs) S := rfl
@[simp] theorem listP_scr : listP [.nd .scr xs] S = .ok (.nd .lst xs) S := rfl
@[simp] theorem tupP_lst : tupP [.nd .lst xs] S = .ok (.nd .tup xs) S := rfl
@[simp] theorem tupP_tup : tupP [.nd .tup xs] S = .ok (.nd .tup xs) S := rfl
@[simp] theorem isZ_non (x : PV) : isZ x .non S = .ok (.bl x.isNon) S := by cases x <;> rfl
@[simp] theorem isntZ_non (x : PV) : isntZ x .non S = .ok (.bl (!x.isNon)) S := by cases x <;> rfl
@[simp] theorem isNon_int : (PV.int i).isNon = false := rfl
@[simp] theorem isNon_non : PV.non.isNon = true := rfl
@[simp] theorem truP_bl : truP (.bl k) S = .ok k S := rfl
@[simp] theorem itOf_lst : itOf (.nd .lst xs) S = .ok ⟨xs, []⟩ S := rfl
@[simp] theorem itOf_tup : itOf (.nd .tup xs) S = .ok ⟨xs, []⟩ S := rfl
@[simp] theorem sliZ_lst (lo hi : Option Int) : sliZ (.nd .lst xs) lo hi S = .ok (.nd .lst (cutP xs lo hi)) S := rfl
@[simp] theorem sliZ_scr (lo hi : Option Int) : sliZ (.nd .scr xs) lo hi S = .ok (.nd .lst (cutP xs lo hi)) S := rfl
@[simp] theorem sliZ_tup (lo hi : Option Int) : sliZ (.nd .tup xs) lo hi S = .ok (.nd .tup (cutP xs lo hi)) S := rfl
theorem subZ_lst {x : PV} (h : atI xs i = some x) : subZ (.nd .lst xs) (.int i) S = .ok x S := by
  simp only [subZ, view]
  rw [h]
theorem subZ_tup {x : PV} (h : atI xs i = some x) : subZ (.nd .tup xs) (.int i) S = .ok x S := by
  simp only [subZ, view]
  rw [h]
theorem atI_ofNat {α : Type} (xs : List α) (n : Nat) : atI xs (n : Int) = xs[n]? := by
  cases h : xs[n]? with
  | some v => exact atI_nat h
  | none =>
    unfold atI ixN
    have : ¬ (n : Int) < xs.length := by
      have := List.getElem?_eq_none_iff.mp h
      omega
    simp [this]
theorem mkNd_ok {kd : Kd} {xs : List PV} (h : xs.length ≤ 16777216) : mkNd kd xs S = .ok (.nd kd xs) S := by unfold mkNd; rw [if_pos h]
theorem mkRf_ok {kd : Kd} {xs : List PV} (h : xs.length ≤ 16777216) : mkRf kd xs S = .ok (.ref S.length) (S ++ [some (kd, xs)]) := by unfold mkRf; rw [if_pos h]
theorem mulOk_l {i j : Int} (h : i.natAbs < 18446744073709551616) : mulOk i j := .inl (by omega)
theorem mulOk_r {i j : Int} (h : j.natAbs < 18446744073709551616) : mulOk i j := .inr (.inl (by omega))
theorem divb_of {n : Nat} (h : n < 18446744073709551616) : n < DIVB := lt_DIVB (k := 64) (by omega) (by decide)
end
/-! ### data -/
theorem datL_ints (ns : List Int) : datL (ns.map PV.int) = some (ns.map PyData.int) := by
  induction ns with
  | nil => rfl
  | cons n ns ih => rw [List.map_cons, datL, dat, ih]; rfl
theorem canLay_ints (ns : List Int) : PyData.canLayAll0 (ns.map PyData.int) = true := by
  induction ns with
  | nil => rfl
  | cons n ns ih => rw [List.map_cons, PyData.canLayAll0, ih]; rfl
theorem depth_ints (ns : List Int) : PyData.depthAll (ns.map PyData.int) = 0 := by
  induction ns with
  | nil => rfl
  | cons n ns ih => rw [List.map_cons, PyData.depthAll, ih]; rfl
theorem shaped_ints (ns : List Int) : SeqAt.shaped (.list (ns.map PyData.int)) = true := by
  unfold SeqAt.shaped
  rw [PyData.canLay0, PyData.depth, canLay_ints, depth_ints]; rfl
theorem eqv_ints : ∀ ns ms : List Int, PyData.eqvAll (ns.map PyData.int) (ms.map PyData.int) = decide (ns = ms)
  | [], [] => by rw [List.map_nil, PyData.eqvAll]; simp
  | [], m :: ms => by rw [List.map_nil, List.map_cons, PyData.eqvAll]; simp
  | n :: ns, [] => by rw [List.map_nil, List.map_cons, PyData.eqvAll]; simp
  | n :: ns, m :: ms => by
    rw [List.map_cons, List.map_cons, PyData.eqvAll, PyData.eqv, eqv_ints ns ms]
    by_cases h : n = m <;> simp [h]
/-- a list that is compared with [] -/
theorem datL_len : ∀ (xs : List PV) (ds : List PyData), datL xs = some ds → ds.length = xs.length
  | [], ds, h => by rw [datL] at h; cases h; rfl
  | x :: xs, ds, h => by
    rw [datL, Option.bind_eq_some_iff] at h
    obtain ⟨d, h1, h2⟩ := h
    rw [Option.map_eq_some_iff] at h2
    obtain ⟨ds', h3, rfl⟩ := h2
    rw [List.length_cons, List.length_cons, datL_len xs ds' h3]
theorem eqv_nil (ds : List PyData) : PyData.eqv (.list ds) (.list []) = decide (ds = []) := by
  cases ds <;> rw [PyData.eqv, PyData.eqvAll] <;> simp
theorem shaped_nil : SeqAt.shaped (.list []) = true := by
  unfold SeqAt.shaped; rw [PyData.canLay0, PyData.canLayAll0]; rfl
theorem neZ_nil {xs : List PV} {ds : List PyData} {S : Sto} (h : datL xs = some ds) (hs : SeqAt.shaped (.list ds) = true) : neZ (.nd .lst xs) (.nd .lst []) S = .ok (.bl (!decide (xs = []))) S := by
  show neD (.nd .lst xs) (.nd .lst []) S = _
  unfold neD datS view
  simp only [dat, h, datL, Option.map_some, hs, shaped_nil, and_self, if_true, eqv_nil]
  have := datL_len xs ds h
  have e : decide (ds = []) = decide (xs = []) := by
    cases ds with
    | nil => cases xs with
      | nil => rfl
      | cons x xs => simp at this
    | cons d ds => cases xs with
      | nil => simp at this
      | cons x xs => rfl
  rw [e]
end Z
end
end
section
set_option Elab.async false
set_option linter.all false
set_option maxRecDepth 100000
set_option maxHeartbeats 1000000
/-! ZD: the laws' pen. -/
noncomputable section
namespace Z
open PySem PySem.Spec PyProof.Rows L2

/-- the pen as it stands in the store -/
def pn (cs : List Int) (a lf : Int) : Option (Kd × List PV) := some (.lst, [.nd .lst (cs.map .int), .int a, .int lf])
section
variable {cs : List Int} {a lf v : Int} {T : Sto}
theorem pn_0 : subZ (.ref 0) (.int 0) (pn cs a lf :: T) = .ok (.nd .lst (cs.map .int)) (pn cs a lf :: T) := rfl
theorem pn_1 : subZ (.ref 0) (.int 1) (pn cs a lf :: T) = .ok (.int a) (pn cs a lf :: T) := rfl
theorem pn_2 : subZ (.ref 0) (.int 2) (pn cs a lf :: T) = .ok (.int lf) (pn cs a lf :: T) := rfl
theorem pn_p1 : putP (.ref 0) (.int 1) (.int v) (pn cs a lf :: T) = some (pn cs v lf :: T) := rfl
theorem pn_p2 : putP (.ref 0) (.int 2) (.int v) (pn cs a lf :: T) = some (pn cs a v :: T) := rfl
end
def drawT (m1 k3 k4 m2 k5 k6 k7 m3 : Int) : DS := dSeq (dIfS (dAndT (dB (dBin ltZ (dVar 3) (dApp lenP (dCons (dBin subZ (dVar 0) (dC (.int 0))) (dNil))))) (dB (dBin geZ (dApp absP (dCons (dVar 4) (dNil))) (dBin powP (dC (.int 10)) (dC (.int 18)))))) (dSeq (dSet 5 (dBin addP (dBin mulZ (dC (.int 2)) (dBin subP (dApp absP (dCons (dVar 4) (dNil))) (dBin powP (dC (.int 10)) (dC (.int 18))))) (dApp intP (dCons (dBin ltZ (dVar 4) (dC (.int 0))) (dNil))))) (dSeq (dAsg (dBin divP (dApp intP (dCons (dVar 5) (dNil))) (dVar 1)) (gzI (dVar 0) (dC (.int 2)))) (dRet (dBin modP (dApp intP (dCons (dVar 5) (dNil))) (dVar 1))))) (dSkip)) (dSeq (dSet 6 (dBin modP (dApp intP (dCons (dBin powP (dBin addP (dBin addP (dBin modP (dApp intP (dCons (dVar 4) (dNil))) (dC (.int m1))) (dBin mulZ (dC (.int k3)) (dVar 3))) (dC (.int k4))) (dC (.int 5))) (dNil))) (dC (.int m2)))) (dSeq (dSet 6 (dBin modP (dApp intP (dCons (dBin powP (dBin addP (dBin addP (dBin mulZ (dVar 6) (dBin addP (dBin mulZ (dC (.int 2)) (dVar 3)) (dC (.int k5)))) (dBin mulZ (dBin mulZ (dC (.int k6)) (dVar 3)) (dVar 3))) (dC (.int k7))) (dC (.int 3))) (dNil))) (dC (.int m3)))) (dRet (dBin modP (dApp intP (dCons (dBin divP (dVar 6) (dC (.int 32))) (dNil))) (dVar 1)))))
def drawB (k1 k2 m1 k3 k4 m2 k5 k6 k7 m3 : Int) : DS := dSeq (dIfS (dB (dBin gtZ (dBin subZ (dVar 0) (dC (.int 2))) (dC (.int 0)))) (dSeq (dSet 2 (dBin modP (dApp intP (dCons (dBin subZ (dVar 0) (dC (.int 2))) (dNil))) (dVar 1))) (dSeq (dAsg (dBin divP (dApp intP (dCons (dBin subZ (dVar 0) (dC (.int 2))) (dNil))) (dVar 1)) (gzI (dVar 0) (dC (.int 2)))) (dRet (dVar 2)))) (dSkip)) (dSeq (dSet 3 (dBin subZ (dVar 0) (dC (.int 1)))) (dSeq (dAsg (dBin addP (dVar 3) (dC (.int 1))) (gzI (dVar 0) (dC (.int 1)))) (dSeq (dSet 4 (dBin addP (dBin mulZ (dC (.int k1)) (dVar 3)) (dC (.int k2)))) (dSeq (dIfS (dB (dBin neZ (dBin subZ (dVar 0) (dC (.int 0))) (dLst (dNil)))) (dSet 4 (dBin subZ (dBin subZ (dVar 0) (dC (.int 0))) (dBin modP (dApp intP (dCons (dVar 3) (dNil))) (dApp lenP (dCons (dBin subZ (dVar 0) (dC (.int 0))) (dNil)))))) (dSkip)) (drawT m1 k3 k4 m2 k5 k6 k7 m3)))))
/-- small constants -/
abbrev Sm (k : Int) : Prop := 0 ≤ k ∧ k ≤ 1000000
abbrev Md (k : Int) : Prop := 0 < k ∧ k ≤ 4294967296
theorem atI_mod {cs : List Int} (h : cs ≠ []) (a : Int) : ∃ c, atI (cs.map PV.int) (a % (cs.length : Nat)) = some (.int c) := by
  have hl : 0 < cs.length := List.length_pos_iff.mpr h
  have h1 := Int.emod_nonneg a (b := (cs.length : Nat)) (by omega)
  have h2 := Int.emod_lt_of_pos a (b := (cs.length : Nat)) (by omega)
  obtain ⟨n, hn⟩ := Int.eq_ofNat_of_zero_le h1
  rw [hn] at h2 ⊢
  have h3 : n < cs.length := by omega
  refine ⟨cs[n], ?_⟩
  rw [atI_ofNat, List.getElem?_map, List.getElem?_eq_getElem h3]; rfl
theorem natAbs_pos {e : Int} (h : 0 ≤ e) {n : Nat} (h2 : e < n) : e.natAbs < n := by omega
theorem tail_ok {m1 k3 k4 m2 k5 k6 k7 m3 : Int} (s3 : Sm k3) (s4 : Sm k4) (s5 : Sm k5) (s6 : Sm k6) (s7 : Sm k7) (d1 : Md m1) (d2 : Md m2) (d3 : Md m3)
    {cs : List Int} {a many c : Int} {T : Sto} (hm : 1 ≤ many) (hm2 : many ≤ 1000000000) (ha : 0 ≤ a) (ha2 : a ≤ 100000) :
    ∃ v lf', drawT m1 k3 k4 m2 k5 k6 k7 m3 [some (.ref 0), some (.int many), none, some (.int a), some (.int c), none, none] (pn cs (a + 1) 0 :: T) = .ret (.int v) (pn cs (a + 1) lf' :: T) ∧ 0 ≤ v ∧ v < many ∧ 0 ≤ lf' := by
  have dm : 0 < many ∧ many.natAbs < DIVB := ⟨by omega, divb_of (by omega)⟩
  have pm : 0 < many := by omega
  have e18 : (10 : Int) ^ (18 : Int).toNat = 1000000000000000000 := by decide
  by_cases h : a < cs.length ∧ 1000000000000000000 ≤ (if c < 0 then -c else c)
  · obtain ⟨h1, h2⟩ := h
    have hg : 0 ≤ 2 * ((if c < 0 then -c else c) - 1000000000000000000) + (if c < 0 then 1 else 0) := by split <;> split at h2 <;> omega
    refine ⟨(2 * ((if c < 0 then -c else c) - 1000000000000000000) + (if c < 0 then 1 else 0)) % many, (2 * ((if c < 0 then -c else c) - 1000000000000000000) + (if c < 0 then 1 else 0)) / many, ?_, Int.emod_nonneg _ (by omega), Int.emod_lt_of_pos _ pm, Int.ediv_nonneg hg (by omega)⟩
    unfold drawT
    have mo : mulOk 2 ((if c < 0 then -c else c) - 1000000000000000000) := mulOk_l (by decide)
    simp [pn_0, pn_2, pn_p2, h1, h2, modP_int _ _ _ pm, divP_int _ _ _ dm, mo]
  · have hq1 : 0 ≤ c % m1 := Int.emod_nonneg _ (by omega)
    have hq2 : c % m1 < m1 := Int.emod_lt_of_pos _ (by omega)
    have hk3 : 0 ≤ k3 * a := Int.mul_nonneg s3.1 ha
    have hk3' : k3 * a ≤ 1000000 * 100000 := Int.mul_le_mul s3.2 ha2 ha (by decide)
    have he1 : (c % m1 + k3 * a + k4).natAbs < 18446744073709551616 := by omega
    generalize hE1 : c % m1 + k3 * a + k4 = e1 at he1
    have hr1 : 0 ≤ e1 ^ 5 % m2 := Int.emod_nonneg _ (by omega)
    have hr2 : e1 ^ 5 % m2 < m2 := Int.emod_lt_of_pos _ (by omega)
    have hk6 : 0 ≤ k6 * a := Int.mul_nonneg s6.1 ha
    have hk6' : k6 * a ≤ 1000000 * 100000 := Int.mul_le_mul s6.2 ha2 ha (by decide)
    have hk6a : 0 ≤ k6 * a * a := Int.mul_nonneg hk6 ha
    have hk6a' : k6 * a * a ≤ 1000000 * 100000 * 100000 := Int.mul_le_mul hk6' ha2 ha (by decide)
    have hp : 0 ≤ e1 ^ 5 % m2 * (2 * a + k5) := Int.mul_nonneg hr1 (by omega)
    have hp' : e1 ^ 5 % m2 * (2 * a + k5) ≤ 4294967296 * 1200000 := Int.mul_le_mul (by omega) (by omega) (by omega) (by decide)
    have he2 : (e1 ^ 5 % m2 * (2 * a + k5) + k6 * a * a + k7).natAbs < 18446744073709551616 := by omega
    have mo1 : mulOk k3 a := mulOk_l (by omega)
    have mo2 : mulOk 2 a := mulOk_l (by decide)
    have mo3 : mulOk k6 a := mulOk_l (by omega)
    have mo4 : mulOk (k6 * a) a := mulOk_r (by omega)
    have mo5 : mulOk (e1 ^ 5 % m2) (2 * a + k5) := mulOk_l (by omega)
    have q1 : 0 < m1 := d1.1
    have q2 : 0 < m2 := d2.1
    have q3 : 0 < m3 := d3.1
    have d32 : (0 : Int) < 32 ∧ (32 : Int).natAbs < DIVB := ⟨by decide, divb_of (by decide)⟩
    refine ⟨(e1 ^ 5 % m2 * (2 * a + k5) + k6 * a * a + k7) ^ 3 % m3 / 32 % many, 0, ?_, Int.emod_nonneg _ (by omega), Int.emod_lt_of_pos _ pm, Int.le_refl _⟩
    have hn : (decide (a < (cs.length : Int)) && decide (1000000000000000000 ≤ (if c < 0 then -c else c))) = false := by
      rw [Bool.and_eq_false_iff]
      by_cases hc : a < (cs.length : Int)
      · right
        exact decide_eq_false fun z => h ⟨hc, z⟩
      · left
        exact decide_eq_false hc
    unfold drawT
    by_cases hc : a < (cs.length : Int)
    · have hc2 : ¬ 1000000000000000000 ≤ (if c < 0 then -c else c) := fun z => h ⟨hc, z⟩
      simp [pn_0, pn_2, hc, hc2, modP_int _ _ _ pm, modP_int _ _ _ q1, modP_int _ _ _ q2, modP_int _ _ _ q3, divP_int _ _ _ d32, mo1, mo2, mo3, mo4, mo5, hE1, he1, he2]
    · simp [pn_0, pn_2, hc, modP_int _ _ _ pm, modP_int _ _ _ q1, modP_int _ _ _ q2, modP_int _ _ _ q3, divP_int _ _ _ d32, mo1, mo2, mo3, mo4, mo5, hE1, he1, he2]
theorem draw_ok {k1 k2 m1 k3 k4 m2 k5 k6 k7 m3 : Int} (s1 : Sm k1) (s3 : Sm k3) (s4 : Sm k4) (s5 : Sm k5) (s6 : Sm k6) (s7 : Sm k7) (d1 : Md m1) (d2 : Md m2) (d3 : Md m3)
    {cs : List Int} {a lf many : Int} {T : Sto} (hm : 1 ≤ many) (hm2 : many ≤ 1000000000) (ha : 0 ≤ a) (ha2 : a ≤ 100000) (hlf : 0 ≤ lf) :
    ∃ v a' lf', dDef 2 7 (drawB k1 k2 m1 k3 k4 m2 k5 k6 k7 m3) [.ref 0, .int many] (pn cs a lf :: T) = .ok (.int v) (pn cs a' lf' :: T) ∧ 0 ≤ v ∧ v < many ∧ a ≤ a' ∧ a' ≤ a + 1 ∧ 0 ≤ lf' := by
  have dm : 0 < many ∧ many.natAbs < DIVB := ⟨by omega, divb_of (by omega)⟩
  have pm : 0 < many := by omega
  by_cases h : 0 < lf
  · refine ⟨lf % many, a, lf / many, ?_, Int.emod_nonneg _ (by omega), Int.emod_lt_of_pos _ pm, Int.le_refl _, by omega, Int.ediv_nonneg (by omega) (by omega)⟩
    refine dDef_ret _ _ rfl ?_ (Nat.le_refl _)
    unfold drawB
    simp [pn_2, pn_p2, h, modP_int _ _ _ pm, divP_int _ _ _ dm]
  · have h0 : lf = 0 := by omega
    subst h0
    have mo : mulOk k1 a := mulOk_l (by omega)
    by_cases hcs : cs = []
    · subst hcs
      obtain ⟨v, lf', h1, h2, h3, h4⟩ := tail_ok (cs := []) (c := k1 * a + k2) (T := T) s3 s4 s5 s6 s7 d1 d2 d3 hm hm2 ha ha2
      refine ⟨v, a + 1, lf', ?_, h2, h3, by omega, Int.le_refl _, h4⟩
      refine dDef_ret _ _ rfl ?_ (Nat.le_refl _)
      unfold drawB
      have hne := neZ_nil (S := pn [] (a + 1) 0 :: T) (datL_ints []) (shaped_ints [])
      simp [pn_0, pn_1, pn_2, pn_p1, mo, mkNd, hne] at hne ⊢
      exact h1
    · obtain ⟨c, hc⟩ := atI_mod hcs a
      obtain ⟨v, lf', h1, h2, h3, h4⟩ := tail_ok (cs := cs) (c := c) (T := T) s3 s4 s5 s6 s7 d1 d2 d3 hm hm2 ha ha2
      refine ⟨v, a + 1, lf', ?_, h2, h3, by omega, Int.le_refl _, h4⟩
      refine dDef_ret _ _ rfl ?_ (Nat.le_refl _)
      unfold drawB
      have hne := neZ_nil (S := pn cs (a + 1) 0 :: T) (datL_ints cs) (shaped_ints cs)
      have pl : 0 < (cs.length : Int) := by have := List.length_pos_iff.mpr hcs; omega
      simp [pn_0, pn_1, pn_2, pn_p1, mo, mkNd, hne, hcs, modP_int _ _ _ pl, subZ_lst _ _ _ hc]
      exact h1
end Z
end
end
section
set_option Elab.async false
set_option linter.all false
set_option maxRecDepth 100000
set_option maxHeartbeats 1000000
/-! ZL: loops and comprehensions by invariants; the pen by the number of its draws. -/
noncomputable section
namespace Z
open PySem PySem.Spec PyProof.Rows L2

theorem lcZ_pure {t : TgZ} {hs : List (PV × Kd × List PV)} {el : DE} {l : Loc} {S : Sto} {g : PV → PV} (hh : heldB hs S = true) : ∀ xs : List PV, (∀ x ∈ xs, ∃ ps, asg t x = some ps ∧ el (setZ l ps) S = .ok (g x) S) → lcZ t hs dYes el l xs S = .ok (xs.map g) S
  | [], _ => rfl
  | x :: xs, h => by
    obtain ⟨ps, h1, h2⟩ := h x List.mem_cons_self
    rw [lcZ, h1]
    simp only [dYes_ap]
    rw [h2]
    simp only
    rw [if_pos hh, lcZ_pure hh xs fun y hy => h y (List.mem_cons_of_mem _ hy)]
    rfl
theorem lcZ_inv {t : TgZ} {el : DE} {l : Loc} (P : PV → Prop) (I : Nat → Sto → Prop) : ∀ (xs : List PV) (k : Nat) (S : Sto), I k S →
    (∀ i x S, xs[i]? = some x → I (k + i) S → ∃ ps v S', asg t x = some ps ∧ el (setZ l ps) S = .ok v S' ∧ P v ∧ I (k + i + 1) S') →
    ∃ vs S', lcZ t [] dYes el l xs S = .ok vs S' ∧ vs.length = xs.length ∧ (∀ v ∈ vs, P v) ∧ I (k + xs.length) S'
  | [], k, S, h, _ => ⟨[], S, rfl, rfl, fun v hv => (nomatch hv), h⟩
  | x :: xs, k, S, h, st => by
    obtain ⟨ps, v, S1, h1, h2, h3, h4⟩ := st 0 x S rfl h
    obtain ⟨vs, S2, g1, g2, g3, g4⟩ := lcZ_inv P I xs (k + 1) S1 h4 fun i y S hy hI => by
      have e : k + (i + 1) = k + 1 + i := by omega
      have := st (i + 1) y S (by rw [List.getElem?_cons_succ]; exact hy) (by rw [e]; exact hI)
      rw [e] at this
      exact this
    refine ⟨v :: vs, S2, ?_, by rw [List.length_cons, g2]; rfl, fun w hw => ?_, (show k + (xs.length + 1) = k + 1 + xs.length by omega) ▸ g4⟩
    · rw [lcZ, h1]
      simp only [dYes_ap]
      rw [h2]
      simp only
      rw [heldB_nil, g1]
      rfl
    · rcases List.mem_cons.mp hw with e | e
      · rw [e]; exact h3
      · exact g3 w e
theorem forZ_inv {t : TgZ} {hs : List (PV × Kd × List PV)} {b : DS} (Q : Nat → Loc → Sto → Prop) : ∀ (xs : List PV) (k : Nat) (l : Loc) (S : Sto), Q k l S →
    (∀ i x l S, xs[i]? = some x → Q (k + i) l S → ∃ ps l' S', asg t x = some ps ∧ b (setZ l ps) S = .nx l' S' ∧ heldB hs S' = true ∧ Q (k + i + 1) l' S') →
    ∃ l' S', forZ t hs b xs l S = .nx l' S' ∧ Q (k + xs.length) l' S'
  | [], k, l, S, h, _ => ⟨l, S, rfl, h⟩
  | x :: xs, k, l, S, h, st => by
    obtain ⟨ps, l1, S1, h1, h2, h3, h4⟩ := st 0 x l S rfl h
    obtain ⟨l2, S2, g1, g2⟩ := forZ_inv Q xs (k + 1) l1 S1 h4 fun i y l S hy hI => by
      have e : k + (i + 1) = k + 1 + i := by omega
      have := st (i + 1) y l S (by rw [List.getElem?_cons_succ]; exact hy) (by rw [e]; exact hI)
      rw [e] at this
      exact this
    refine ⟨l2, S2, ?_, (show k + (xs.length + 1) = k + 1 + xs.length by omega) ▸ g2⟩
    rw [forZ, h1]
    simp only
    rw [h2]
    simp only
    rw [if_pos h3]
    exact g1
theorem dLc_pure {vs : List Nat} {di : DI} {t : TgZ} {el : DE} {l : Loc} {S : Sto} {it : ItZ} (g : PV → PV) (hi : di l S = .ok it S) (hh : heldB it.held S = true) (hl : it.items.length ≤ 16777216)
    (he : ∀ x ∈ it.items, ∃ ps, asg t x = some ps ∧ el (setZ (wipeZ l vs) ps) S = .ok (g x) S) : dLc vs di t dYes el l S = .ok (.nd .lst (it.items.map g)) S := by
  rw [dLc_ap, dLc0_ap, hi, bind_ok, if_pos ⟨hh, hl⟩, lcZ_pure hh it.items he, bind_ok]
theorem dFor_eq {di : DI} {t : TgZ} {b : DS} {l : Loc} {S : Sto} {it : ItZ} (h : di l S = .ok it S) (hh : heldB it.held S = true) : dFor di t b l S = forZ t it.held b it.items l S := by
  rw [dFor_ap, h, st_ok, if_pos hh]
theorem dLc_inv {vs : List Nat} {di : DI} {t : TgZ} {el : DE} {l : Loc} {S : Sto} {items : List PV} (P : PV → Prop) (I : Nat → Sto → Prop) (hi : di l S = .ok ⟨items, []⟩ S) (hl : items.length ≤ 16777216) (h0 : I 0 S)
    (st : ∀ i x S, items[i]? = some x → I i S → ∃ ps v S', asg t x = some ps ∧ el (setZ (wipeZ l vs) ps) S = .ok v S' ∧ P v ∧ I (i + 1) S') :
    ∃ ws S', dLc vs di t dYes el l S = .ok (.nd .lst ws) S' ∧ ws.length = items.length ∧ (∀ v ∈ ws, P v) ∧ I items.length S' := by
  obtain ⟨ws, S', h1, h2, h3, h4⟩ := lcZ_inv (t := t) (el := el) (l := wipeZ l vs) P I items 0 S h0 (by
    intro i x S hx hI
    rw [Nat.zero_add] at hI ⊢
    exact st i x S hx hI)
  rw [Nat.zero_add] at h4
  refine ⟨ws, S', ?_, h2, h3, h4⟩
  rw [dLc_ap, dLc0_ap, hi, bind_ok, if_pos ⟨heldB_nil S, hl⟩, h1, bind_ok]
theorem all_ints {B : Nat} : ∀ ws : List PV, (∀ v ∈ ws, ∃ i : Int, v = .int i ∧ i.natAbs ≤ B) → ∃ r : List Int, ws = r.map .int ∧ r.length = ws.length ∧ ∀ v ∈ r, v.natAbs ≤ B
  | [], _ => ⟨[], rfl, rfl, fun v hv => (nomatch hv)⟩
  | w :: ws, h => by
    obtain ⟨i, rfl, hi⟩ := h w List.mem_cons_self
    obtain ⟨r, rfl, h2, h3⟩ := all_ints ws fun v hv => h v (List.mem_cons_of_mem _ hv)
    refine ⟨i :: r, rfl, by rw [List.length_cons, h2]; rfl, fun v hv => ?_⟩
    rcases List.mem_cons.mp hv with e | e
    · rw [e]; exact hi
    · exact h3 v e
theorem rngZ_len (lo : Int) (n : Nat) : (rngZ lo n).length = n := by simp [rngZ]
theorem rngZ_get {lo : Int} {n i : Nat} {x : PV} (h : (rngZ lo n)[i]? = some x) : i < n ∧ x = .int (lo + (i : Nat)) := by
  have hi : i < n := by
    have := (List.getElem?_eq_some_iff.mp h).1
    rwa [rngZ_len] at this
  refine ⟨hi, ?_⟩
  simp [rngZ, hi] at h
  exact h.symm
theorem rngP_nat (n : Nat) (S : Sto) (h : n < 1000000000000) : rngP [.int (n : Int)] S = .ok ⟨rngZ 0 n, []⟩ S := by
  unfold rngP
  simp only
  rw [if_pos (by omega)]
  rfl
theorem asg2 {i j : Nat} {x y : PV} : asg (.tp [.nm i, .nm j]) (.nd .tup [x, y]) = some [(i, x), (j, y)] := by
  simp [asg, asgs]
theorem asg1 {i : Nat} {x : PV} : asg (.nm i) x = some [(i, x)] := by simp [asg]
theorem zipZ_map : ∀ fs ls : List Int, zipZ (fs.map PV.int) (ls.map PV.int) = (fs.zip ls).map fun p => .nd .tup [.int p.1, .int p.2]
  | [], ls => by simp [zipZ]
  | f :: fs, [] => by simp [zipZ]
  | f :: fs, l :: ls => by simp [zipZ, zipZ_map fs ls]
theorem cutP_to (xs : List PV) (k : Nat) : cutP xs none (some (k : Int)) = xs.take k := by
  unfold cutP
  rw [HT.sIx_nat, HT.sIx_none]
  by_cases h : k ≤ xs.length
  · rw [Nat.min_eq_left h]; simp
  · rw [Nat.min_eq_right (by omega), List.take_of_length_le (by omega : xs.length ≤ k)]; simp
/-- the pen in front of T, after at most n draws -/
def PenS (n : Nat) (T S : Sto) : Prop := ∃ cs a lf, S = pn cs a lf :: T ∧ 0 ≤ a ∧ a ≤ n ∧ 0 ≤ lf
/-- what a law's draw keeps -/
def DrOk (dr : DF) : Prop := ∀ (n : Nat) (T S : Sto) (many : Int), PenS n T S → n ≤ 100000 → 1 ≤ many → many ≤ 1000000000 → ∃ v S', dr [.ref 0, .int many] S = .ok (.int v) S' ∧ 0 ≤ v ∧ v < many ∧ PenS (n + 1) T S'
theorem PenS.mono {n m : Nat} {T S : Sto} (h : PenS n T S) (hn : n ≤ m) : PenS m T S := by
  obtain ⟨cs, a, lf, h1, h2, h3, h4⟩ := h
  exact ⟨cs, a, lf, h1, h2, by omega, h4⟩
theorem PenS.len {n : Nat} {T S : Sto} (h : PenS n T S) : S.length = T.length + 1 := by
  obtain ⟨cs, a, lf, h1, _⟩ := h
  rw [h1]; rfl
/-- further places behind it -/
theorem PenS.app {n : Nat} {T S X : Sto} (h : PenS n T S) : PenS n (T ++ X) (S ++ X) := by
  obtain ⟨cs, a, lf, h1, h2⟩ := h
  exact ⟨cs, a, lf, by rw [h1]; rfl, h2⟩
theorem PenS.get {n : Nat} {T S : Sto} (h : PenS n T S) (i : Nat) : S[i + 1]? = T[i]? := by
  obtain ⟨cs, a, lf, h1, _⟩ := h
  rw [h1]; rfl
theorem PenS.set {n : Nat} {T S : Sto} (h : PenS n T S) (i : Nat) (o : Option (Kd × List PV)) : PenS n (T.set i o) (S.set (i + 1) o) := by
  obtain ⟨cs, a, lf, h1, h2⟩ := h
  exact ⟨cs, a, lf, by rw [h1]; rfl, h2⟩
/-- the pen's own places closed: what is behind T goes -/
theorem PenS.shut {n m : Nat} {T X S S1 : Sto} (h : PenS n T S) (h1 : PenS m (T ++ X) S1) : fitsS S S1 = true ∧ PenS m T (S1.take S.length) := by
  obtain ⟨cs, a, lf, e, _⟩ := h
  obtain ⟨cs1, a1, lf1, e1, q⟩ := h1
  subst e e1
  refine ⟨fitsS_head ?_, cs1, a1, lf1, ?_, q⟩
  · show (fits _ _ && _) = true
    rw [fits, fits_ints]; rfl
  · show (pn cs1 a1 lf1 :: (T ++ X)).take (T.length + 1) = _
    rw [List.take_succ_cons, List.take_left]
theorem dr_of {k1 k2 m1 k3 k4 m2 k5 k6 k7 m3 : Int} (s1 : Sm k1) (s3 : Sm k3) (s4 : Sm k4) (s5 : Sm k5) (s6 : Sm k6) (s7 : Sm k7) (d1 : Md m1) (d2 : Md m2) (d3 : Md m3) : DrOk (dDef 2 7 (drawB k1 k2 m1 k3 k4 m2 k5 k6 k7 m3)) := by
  rintro n T S many ⟨cs, a, lf, rfl, ha, ha2, hlf⟩ hn hm hm2
  obtain ⟨v, a', lf', h1, h2, h3, h4, h5, h6⟩ := draw_ok (T := T) (cs := cs) (lf := lf) s1 s3 s4 s5 s6 s7 d1 d2 d3 hm hm2 ha (by omega) hlf
  exact ⟨v, _, h1, h2, h3, cs, a', lf', rfl, by omega, by omega, h6⟩
def pickB (dr : DF) : DS := dRet (dBin subZ (dVar 1) (dFn dr (dCons (dVar 0) (dCons (dApp lenP (dCons (dVar 1) (dNil))) (dNil)))))
theorem pick_ok {dr : DF} (hd : DrOk dr) {n : Nat} {T S : Sto} {xs : List PV} (h : PenS n T S) (hn : n ≤ 100000) (hx : xs ≠ []) (hx2 : xs.length ≤ 1000000000) : ∃ x S', dDef 2 2 (pickB dr) [.ref 0, .nd .lst xs] S = .ok x S' ∧ x ∈ xs ∧ PenS (n + 1) T S' := by
  have hl : 0 < xs.length := List.length_pos_iff.mpr hx
  obtain ⟨v, S', h1, h2, h3, h4⟩ := hd n T S xs.length h hn (by omega) (by omega)
  obtain ⟨i, rfl⟩ := Int.eq_ofNat_of_zero_le h2
  have hi : i < xs.length := by omega
  refine ⟨xs[i], S', ?_, List.getElem_mem hi, h4⟩
  refine dDef_ret _ _ rfl ?_ (by rw [h4.len, h.len]; exact Nat.le_refl _)
  unfold pickB
  have hat : atI xs (i : Int) = some xs[i] := by rw [atI_ofNat, List.getElem?_eq_getElem hi]
  simp [h1, subZ_lst _ _ _ hat]
theorem optMap_id {g : PV → Option PV} : ∀ xs : List PV, (∀ x ∈ xs, g x = some x) → optMap g xs = some xs
  | [], _ => rfl
  | x :: xs, h => by
    rw [optMap, h x List.mem_cons_self, Option.bind_some, optMap_id xs fun y hy => h y (List.mem_cons_of_mem _ hy)]; rfl
theorem thaw_nd {f n : Nat} {S : Sto} {k : Kd} {xs : List PV} (h : fitsL n xs = true) : thaw (f + 1) n S (.nd k xs) = some (.nd k xs) := by
  rw [thaw, if_pos h]
theorem thaw_ref {f n m : Nat} {S : Sto} {k : Kd} {xs : List PV} (hm : n ≤ m) (h : S[m]? = some (some (k, xs))) (hx : ∀ x ∈ xs, thaw f n S x = some x) : thaw (f + 1) n S (.ref m) = some (.nd k xs) := by
  rw [thaw, if_neg (by omega), h]
  simp only
  rw [optMap_id xs hx]; rfl
/-- the last place behind the pen -/
theorem PenS.last {n : Nat} {T S : Sto} {o : Option (Kd × List PV)} (h : PenS n (T ++ [o]) S) : S[T.length + 1]? = some o := by
  rw [h.get, List.getElem?_append_right (Nat.le_refl _)]; simp
end Z
end
end
section
set_option Elab.async false
set_option linter.all false
set_option maxRecDepth 100000
set_option maxHeartbeats 1000000
/-! ZA: own classes: fields, methods, new instances. -/
noncomputable section
namespace Z
open PySem PySem.Spec PyProof.Rows L2

/-- what the table of names says truly -/
structure TbOk (T : Tb) (K : PySem.W.Frag) : Prop where
  inj : ∀ i j, i < T.nf → j < T.nf → T.fd i = T.fd j → i = j
  ok : ∀ c f, T.okf c f = true → f < T.nf ∧ Cls K (T.ca K c) ∧ NoAttr K (T.ca K c) (T.fd f)
  okx : ∀ c f, T.okx c f = true → f < T.nf ∧ XfC K (T.ca K c) ∧ PySem.W.findIn K (.ref (T.ca K c)) (T.fd f) = some none
/-! ### fields by numbers -/
def fLook : List Nat → List PV → Nat → Option PV
  | g :: gs, x :: xs, f => if g = f then some x else fLook gs xs f
  | _, _, _ => none
def fPutN : List Nat → Nat → List Nat
  | [], f => [f]
  | g :: gs, f => if g = f then g :: gs else g :: fPutN gs f
def fPutV {α : Type} : List Nat → List α → Nat → α → List α
  | g :: gs, x :: xs, f, v => if g = f then v :: xs else x :: fPutV gs xs f v
  | _, _, _, v => [v]
section
variable {T : Tb} {K : PySem.W.Frag} {R : Pl} {F H : Hp} {S : Sto}
theorem fLook_rel (O : TbOk T K) {f : Nat} (hf : f < T.nf) : ∀ {gs : List Nat} {xs : List PV} {us : List V} {x : PV}, (∀ g ∈ gs, g < T.nf) → RelL T K R F xs us → fLook gs xs f = some x → ∃ u, ((gs.map T.fd).zip us).lookup (T.fd f) = some u ∧ Rel T K R F x u
  | [], xs, us, x, _, _, e => by cases xs <;> cases e
  | g :: gs, [], us, x, _, _, e => by cases e
  | g :: gs, y :: xs, us, x, hg, h, e => by
    rw [RelL] at h
    obtain ⟨u, r, rfl, h2, h3⟩ := h
    rw [List.map_cons, List.zip_cons_cons, lookup_put]
    rw [fLook] at e
    by_cases q : g = f
    · rw [if_pos q] at e
      cases e
      exact ⟨u, by rw [if_pos (by rw [q])], h2⟩
    · rw [if_neg q] at e
      rw [if_neg (fun z => q (O.inj g f (hg g List.mem_cons_self) hf z.symm))]
      exact fLook_rel O hf (fun g' m => hg g' (List.mem_cons_of_mem _ m)) h3 e
theorem putF_zip (O : TbOk T K) {f : Nat} (hf : f < T.nf) (w : V) : ∀ {gs : List Nat} {us : List V}, (∀ g ∈ gs, g < T.nf) → us.length = gs.length → putF (T.fd f) w ((gs.map T.fd).zip us) = ((fPutN gs f).map T.fd).zip (fPutV gs us f w)
  | [], us, _, h => by
    cases us with
    | nil => rfl
    | cons u r => cases h
  | g :: gs, [], _, h => by cases h
  | g :: gs, u :: us, hg, h => by
    rw [List.map_cons, List.zip_cons_cons, putF, fPutN, fPutV]
    by_cases q : g = f
    · rw [if_pos (by rw [q]), if_pos q, if_pos q]
      rfl
    · rw [if_neg (fun z => q (O.inj g f (hg g List.mem_cons_self) hf z)), if_neg q, if_neg q, putF_zip O hf w (fun g' m => hg g' (List.mem_cons_of_mem _ m)) (by simpa using h)]
      rfl
theorem fPutV_rel {f : Nat} {x : PV} {w : V} (rx : Rel T K R F x w) : ∀ {gs : List Nat} {xs : List PV} {us : List V}, RelL T K R F xs us → RelL T K R F (fPutV gs xs f x) (fPutV gs us f w)
  | [], xs, us, h => by unfold fPutV; exact .cons rx .nil
  | g :: gs, [], us, h => by
    rw [RelL] at h; subst h
    unfold fPutV; exact .cons rx .nil
  | g :: gs, y :: xs, us, h => by
    rw [RelL] at h
    obtain ⟨u, r, rfl, h2, h3⟩ := h
    unfold fPutV
    by_cases q : g = f
    · rw [if_pos q, if_pos q]; exact .cons rx h3
    · rw [if_neg q, if_neg q]; exact .cons h2 (fPutV_rel rx h3)
theorem fPutV_len {α : Type} {f : Nat} {w : α} : ∀ {gs : List Nat} {us : List α}, us.length = gs.length → (fPutV gs us f w).length = (fPutN gs f).length
  | [], us, h => by
    cases us with
    | nil => rfl
    | cons u r => cases h
  | g :: gs, [], h => by cases h
  | g :: gs, u :: us, h => by
    unfold fPutV fPutN
    by_cases q : g = f
    · rw [if_pos q, if_pos q]; simpa using h
    · rw [if_neg q, if_neg q, List.length_cons, List.length_cons, fPutV_len (by simpa using h)]
theorem noMeth {c : Nat} {m : Str} {g : Addr} (O : TbOk T K) (hm : Meth K (T.ca K c) m g) : ∀ {fs : List Nat} {us : List V}, fs.all (T.okf c) = true → ((fs.map T.fd).zip us).lookup m = none
  | [], us, _ => rfl
  | f :: fs, [], _ => rfl
  | f :: fs, u :: us, h => by
    obtain ⟨h1, h2⟩ := Bool.and_eq_true_iff.mp h
    rw [List.map_cons, List.zip_cons_cons, lookup_put, if_neg, noMeth O hm h2]
    intro e
    have := (O.ok c f h1).2.2
    unfold NoAttr at this
    rw [← e, hm.at_] at this
    cases this
end

/-! ### o.f -/
def getF (T : Tb) (f : Nat) (x : PV) (S : Sto) : Out PV := match view x S with
  | some (.ins c fs, xs) => if T.okf c f = true ∧ fs.all (T.okf c) = true then (match fLook fs xs f with
    | some v => .ok v S
    | none => .bad) else .bad
  | _ => .bad
def dAttr (T : Tb) (f : Nat) (a : DE) : DE := dUn (getF T f) a
/-- o.f = v: the place changed -/
def putA (T : Tb) (f : Nat) (x v : PV) (S : Sto) : Option Sto := match x with
  | .ref n => (match S[n]? with
    | some (some (.ins c fs, xs)) => if T.okf c f = true ∧ fs.all (T.okf c) = true ∧ fs.length < 1000 then some (S.set n (some (.ins c (fPutN fs f), fPutV fs xs f v))) else none
    | _ => none)
  | _ => none
def dPutA (T : Tb) (f : Nat) (o v : DE) : DS := fun l S => (v l S).st l fun y S1 => (o l S1).st l fun x S2 => match putA T f x y S2 with
  | some S3 => .nx l S3
  | none => .bad
theorem all_lt {T : Tb} {K : PySem.W.Frag} (O : TbOk T K) {c : Nat} {fs : List Nat} (h : fs.all (T.okf c) = true) : ∀ g ∈ fs, g < T.nf := fun g hg => (O.ok c g (List.all_eq_true.mp h g hg)).1
section
variable {T : Tb} {X : Cx} {E : XS} {o e v : Expr} {dO dv : DE} {pos pos' : Pos} {f : Nat} {F : Str}
theorem getF_rel {E : XK} {K : PySem.W.Frag} {R : Pl} {Fz H : Hp} {S : Sto} (O : TbOk T K) (r : Rep T K R Fz S H) {x : PV} {u : V} (rx : Rel T K R Fz x u) {Q : VK} (h : OkV T K R Fz (getF T f x S) Q E) :
    ∃ a C dx fs v, u = .ref a ∧ H a = some (.ins C dx fs) ∧ Cls K C ∧ NoAttr K C (T.fd f) ∧ fs.lookup (T.fd f) = some v ∧ Q v H := by
  unfold getF at h
  split at h
  · rename_i c fs xs hv
    split at h
    · rename_i hc
      obtain ⟨a, us, rfl, hs, hl⟩ := view_rel r rx hv
      obtain ⟨hlen, dx, ha⟩ := hs
      obtain ⟨hf, hcl, hno⟩ := O.ok c f hc.1
      split at h
      · rename_i y hy
        obtain ⟨w, h1, h2⟩ := fLook_rel O hf (all_lt O hc.2) hl hy
        exact ⟨a, _, dx, _, w, rfl, ha, hcl, hno, h1, h R Fz H w (Pl.refl R) (Ex.refl Fz) r h2⟩
      · exact h.elim
    · exact h.elim
  · exact h.elim
theorem je_attr (f : Nat) (O : TbOk T X.K) (ho : JE T X E o dO) (hf : T.fd f = F := by rfl) (hb : attributeBase o F X.env (eval o X.env) = eval o X.env := by rfl) : JE T X E (.Attribute o F pos) (dAttr T f dO) := by
  subst hf
  refine pe_imp (pe_fld ho hb) fun σ H Q ⟨R, Fz, l, S, r, e, h⟩ => ?_
  exact seqV (goV T X.K (E σ) Q) r e h fun x S1 R1 F1 H1 u p ex r1 rx e1 h1 => getF_rel O r1 rx h1
theorem putA_rel {K : PySem.W.Frag} {R : Pl} {Fz H : Hp} {S S3 : Sto} (O : TbOk T K) (r : Rep T K R Fz S H) {x y : PV} {u w : V} (rx : Rel T K R Fz x u) (ry : Rel T K R Fz y w) (h : putA T f x y S = some S3) :
    ∃ a C dx fs, u = .ref a ∧ H a = some (.ins C dx fs) ∧ Cls K C ∧ NoAttr K C (T.fd f) ∧ fs.length < 1000 ∧ Rep T K R Fz S3 (upd H a (.ins C dx (putF (T.fd f) w fs))) := by
  cases x with
  | ref n =>
    simp only [putA] at h
    split at h
    · rename_i c fs xs hS
      split at h
      · rename_i hc
        cases h
        rw [Rel] at rx
        obtain ⟨a, rfl, ha⟩ := rx
        obtain ⟨hz, us, hl, hx⟩ := r.live n a _ xs ha hS
        obtain ⟨hlen, dx, hl⟩ := hl
        obtain ⟨hf, hcl, hno⟩ := O.ok c f hc.1
        refine ⟨a, _, dx, _, rfl, hl, hcl, hno, by simp [hlen]; exact hc.2.2, ?_⟩
        rw [putF_zip O hf w (all_lt O hc.2.1) hlen]
        exact r.put ha hz (k := .ins c (fPutN fs f)) (xs := fPutV fs xs f y) ⟨fPutV_len hlen, dx, upd_same⟩ (fPutV_rel ry hx)
      · cases h
    · cases h
  | _ => cases h
theorem js_attr (f : Nat) (O : TbOk T X.K) (ho : JE T X E o dO) (hv : JE T X E v dv) (hf : T.fd f = F := by rfl) (hs : swapsWith v (some (.Attribute o F pos')) pos.line X.env = pure false := by rfl) : JS T X E (.Assign [.Attribute o F pos'] v pos) (dPutA T f dO dv) := by
  subst hf
  refine ps_imp (ps_fld ho hv hs) fun D σ H ⟨R, Fz, l, S, r, e, h⟩ => ?_
  refine st_v r e h fun y S1 R1 F1 H1 w p ex r1 ry e1 h1 => ?_
  refine st_v r1 e1 h1 fun x S2 R2 F2 H2 u p2 ex2 r2 rx e2 h2 => ?_
  have h2 : OkS T X.K R2 F2 (match putA T f x y S2 with
    | some S3 => .nx l S3
    | none => .bad) D E := h2
  split at h2
  · rename_i S3 hp
    obtain ⟨a, C, dx, fs, rfl, h3, h4, h5, h6, h7⟩ := putA_rel O r2 rx (ry.mono p2 ex2) hp
    exact ⟨a, C, dx, fs, rfl, h3, h4, h5, h6, PostE.here h7 e2 h2⟩
  · exact h2.elim
end

/-! ### o.m(..) -/
/-- a method m of the class c -/
structure FnM (T : Tb) (P : Program) (w : World) (K : PySem.W.Frag) (mg : Str → Option Value) (base : Heap) (k c : Nat) (m : Str) (ps : List Str) (d : DF) : Prop where
  ex : ∃ (f : Addr) (fd : FuncData), Cls K (T.ca K c) ∧ Meth K (T.ca K c) m f ∧ FnG T P w K mg base k f fd ps d ∧ Binds K fd ps [] ∧ ∀ (s : Shared) (v : Value) (ws : List Value), ws.length = ps.tail.length → BindsTo s fd ⟨[v], ps.tail.zip ws⟩ (ps.zip (v :: ws))
  ar : ∀ (xs : List PV) (S : Sto), xs.length ≠ ps.length → d xs S = .bad
def insOk (T : Tb) (c : Nat) (x : PV) (S : Sto) : Bool := match view x S with
  | some (.ins c' fs, _) => c' == c && fs.all (T.okf c)
  | _ => false
def dMeth (T : Tb) (c : Nat) (d : DF) (o : DE) (ar : DA) : DE := fun l S => (o l S).bind fun x S1 => if insOk T c x S1 = true then (ar l S1).bind fun xs S2 => d (x :: xs) S2 else .bad
section
variable {T : Tb} {X : Cx} {E : XS} {o e : Expr} {es : List Expr} {dO : DE} {ar : DA} {d : DF} {pos apos kpos : Pos} {c : Nat} {m : Str} {ps : List Str} {j k : Nat} {kws : List Keyword}
theorem insOk_rel {K : PySem.W.Frag} {R : Pl} {Fz H : Hp} {S : Sto} (O : TbOk T K) {g : Addr} (hm : Meth K (T.ca K c) m g) (r : Rep T K R Fz S H) {x : PV} {u : V} (rx : Rel T K R Fz x u) (h : insOk T c x S = true) :
    ∃ a dx fs, u = .ref a ∧ H a = some (.ins (T.ca K c) dx fs) ∧ fs.lookup m = none := by
  unfold insOk at h
  split at h
  · rename_i c' fs xs hv
    obtain ⟨h1, h2⟩ := Bool.and_eq_true_iff.mp h
    have e : c' = c := beq_iff_eq.mp h1
    subst e
    obtain ⟨a, us, rfl, hs, hl⟩ := view_rel r rx hv
    obtain ⟨hlen, dx, ha⟩ := hs
    exact ⟨a, dx, _, rfl, ha, noMeth O hm h2⟩
  · cases h
theorem meth_t {Q : VK} {σ : L2.St} {H : Hp} (O : TbOk T X.K) {g : Addr} (hm : Meth X.K (T.ca X.K c) m g) (har : ∀ (xs : List PV) (S : Sto), xs.length ≠ ps.length → d xs S = .bad) (h : tV T X.K E (dMeth T c d dO ar) σ H Q) :
    tV T X.K E dO σ H fun x H1 => ∃ a dx fs, x = .ref a ∧ H1 a = some (.ins (T.ca X.K c) dx fs) ∧ fs.lookup m = none ∧ tL T X.K E ar σ H1 fun vs H2 => spOf T X.K ps.length d (x :: vs) H2 Q (E σ) := by
  obtain ⟨R, Fz, l, S, r, e, h⟩ := h
  refine seqV (goV T X.K (E σ) Q) r e h fun x S1 R1 F1 H1 u p ex r1 rx e1 h1 => ?_
  have h1 : OkV T X.K R1 F1 (if insOk T c x S1 = true then (ar l S1).bind fun xs S2 => d (x :: xs) S2 else .bad) Q (E σ) := h1
  split at h1
  · rename_i hi
    obtain ⟨a, dx, fs, rfl, ha, hl⟩ := insOk_rel O hm r1 rx hi
    refine ⟨a, dx, fs, rfl, ha, hl, ?_⟩
    refine seqL (goV T X.K (E σ) Q) r1 e1 h1 fun xs S2 R2 F2 H2 us p2 ex2 r2 rxs e2 h2 => ?_
    have h2 : OkV T X.K R2 F2 (d (x :: xs) S2) Q (E σ) := h2
    by_cases hl : (x :: xs).length = ps.length
    · exact sp_of hl r2 (.cons (rx.mono p2 ex2) rxs) h2
    · rw [har _ S2 hl] at h2; exact h2.elim
  · exact h1.elim
theorem je_meth {pl : Sem Bool} (O : TbOk T X.K) (cg : Cg X E k) (F : FnM T X.prog X.w X.K X.mg X.base j c m ps d) (ho : JE T X E o dO) (ha : JA T X E (e :: es) ar) (hj : j ≤ k := by decide)
    (hst : starEach (e :: es) X.env = (false, eval e X.env) :: starEach es X.env := by rfl) (hpl : (backTo pos (starEach es X.env)).any (·.1) = false := by rfl)
    (ht : eval (.Call (.Attribute o m apos) (e :: es) [] pos) X.env = (do
      let ov ← eval o X.env
      standAt apos.atName
      let (f, first) ← holding [ov] (getMethod ov m pl)
      callWith pos f first (backTo pos (starEach (e :: es) X.env)) (backToKw pos (keywordEach [] X.env))) := by rfl) : JE T X E (.Call (.Attribute o m apos) (e :: es) [] pos) (dMeth T c d dO ar) := by
  obtain ⟨f, fd, cl, hm, G, hb, _⟩ := F.ex
  refine ⟨fun pins s σ H Q I h => ?_⟩
  refine PySem.W.methodCall_KW (pl := pl) (thn (ho.run pins s σ H _ I (meth_t O hm F.ar h)) fun u s1 ⟨x, H1, I1, rx, a, dx, fs, ex, ea, l, q⟩ => ?_) ht
  subst ex
  obtain rfl : u = Value.ref a := rx
  refine getmeth_ok I1 ea cl hm l ?_
  refine PySem.W.callWith_K (first := [.ref a]) (h₀ := X.base) I.ok.mod.kin hm.kp (thn (ha.run pos pins s1 σ H1 _ I1 q) fun us s2 ⟨vs, H2, I2, r, q2⟩ => ⟨I2.kIn, ?_⟩) hst hpl
  have r2 : Vals (V.ref a :: vs) (Value.ref a :: us) := .cons rfl r
  have hl : (Value.ref a :: us).length = ps.length := by rw [← r2.length]; exact q2.1
  have hb' := hb s2 (Value.ref a :: us) I2.kIn (by rw [List.append_nil]; exact hl)
  rw [List.append_nil] at hb'
  refine wpAny_call (codeAny_mono (run_fng cg hj G hb' I2 r2 q2) fun z s' hq => ?_)
  cases z with
  | error e => exact hq
  | ok fl => cases fl with
    | ret u => exact hq
    | _ => exact False.elim hq
/-- o.m(k = e, ..): all further parameters by their names, in their order -/
theorem je_methK {kw : Keyword} {pl : Sem Bool} (O : TbOk T X.K) (cg : Cg X E k) (F : FnM T X.prog X.w X.K X.mg X.base j c m ps d) (ho : JE T X E o dO) (hk : JK T X E (kw :: kws) ar) (hj : j ≤ k := by decide)
    (hall : (backToKw pos (keywordEach (kw :: kws) X.env)).all (·.1.isSome) = true := by rfl) (hks : (backToKw pos (keywordEach (kw :: kws) X.env)).filterMap (·.1) = ps.tail := by rfl)
    (hpl : ((backTo pos (starEach [] X.env)).any (·.1) || (backToKw pos (keywordEach (kw :: kws) X.env)).any (·.1.isNone)) = false := by rfl)
    (ht : eval (.Call (.Attribute o m apos) [] (kw :: kws) pos) X.env = (do
      let ov ← eval o X.env
      standAt apos.atName
      let (f, first) ← holding [ov] (getMethod ov m pl)
      callWith pos f first (backTo pos (starEach [] X.env)) (backToKw pos (keywordEach (kw :: kws) X.env))) := by rfl) : JE T X E (.Call (.Attribute o m apos) [] (kw :: kws) pos) (dMeth T c d dO ar) := by
  obtain ⟨f, fd, cl, hm, G, _, hb⟩ := F.ex
  refine ⟨fun pins s σ H Q I h => ?_⟩
  refine PySem.W.methodCall_KW (pl := pl) (thn (ho.run pins s σ H _ I (meth_t O hm F.ar h)) fun u s1 ⟨x, H1, I1, rx, a, dx, fs, ex, ea, l, q⟩ => ?_) ht
  subst ex
  obtain rfl : u = Value.ref a := rx
  refine getmeth_ok I1 ea cl hm l ?_
  refine PySem.W.callWith_KW0 (first := [.ref a]) (h₀ := X.base) I.ok.mod.kin hm.kp hall (thn (hk.run pos pins s1 σ H1 _ I1 q) fun us s2 ⟨vs, H2, I2, r, q2⟩ => ⟨I2.kIn, ?_⟩) hpl
  rw [hks]
  have r2 : Vals (V.ref a :: vs) (Value.ref a :: us) := .cons rfl r
  have hl : us.length = ps.tail.length := by
    have : (V.ref a :: vs).length = ps.length := q2.1
    rw [List.length_tail, ← this, ← r.length]; rfl
  refine wpAny_call (codeAny_mono (run_fng cg hj G (hb s2 (.ref a) us hl) I2 r2 q2) fun z s' hq => ?_)
  cases z with
  | error e => exact hq
  | ok fl => cases fl with
    | ret u => exact hq
    | _ => exact False.elim hq
end

/-! ### C(..) -/
def newP (c : Nat) (d : DF) (xs : List PV) (S : Sto) : Out PV := (d (.ref S.length :: xs) (S ++ [some (.ins c [], [])])).bind fun v S2 => match v with
  | .non => .ok (.ref S.length) S2
  | _ => .bad
/-- .. that never changes any more -/
def newF (c : Nat) (d : DF) (xs : List PV) (S : Sto) : Out PV := shut S (newP c d xs S)
structure NewC (T : Tb) (P : Program) (w : World) (K : PySem.W.Frag) (mg : Str → Option Value) (base : Heap) (k : Nat) (x : Str) (c : Nat) (ps : List Str) (d : DF) : Prop where
  ex : ∃ (f : Addr) (fd : FuncData), mg x = some (.ref (T.ca K c)) ∧ Mk K (T.ca K c) f ∧ FnG T P w K mg base k f fd ps d ∧ Binds K fd ps [] ∧ ∀ (s : Shared) (v : Value) (ws : List Value), ws.length = ps.tail.length → BindsTo s fd ⟨[v], ps.tail.zip ws⟩ (ps.zip (v :: ws))
  ar : ∀ (xs : List PV) (S : Sto), xs.length ≠ ps.length → d xs S = .bad
section
variable {T : Tb} {X : Cx} {E : XS} {x : Str} {e : Expr} {es : List Expr} {ar : DA} {d : DF} {p pos kpos : Pos} {c : Nat} {ps : List Str} {j k : Nat} {kws : List Keyword}
theorem make_guards {A : Around} {C : Addr} {us : List Value} {kw : List (Str × Value)} : (A.under (.builtin "type.__call__" ⟨.ref C :: us, kw⟩)).guards = A.guards := by
  first | rfl | simp [Around.under, Code.guards, Code.isGuard, pushGuards, guardIds]
theorem new_sp {E : XK} {K : PySem.W.Frag} {R : Pl} {Fz H : Hp} {S : Sto} {xs : List PV} {us : List V} {Q : VK} (har : ∀ (xs : List PV) (S : Sto), xs.length ≠ ps.length → d xs S = .bad) (r : Rep T K R Fz S H) (rx : RelL T K R Fz xs us) (h : OkV T K R Fz (newP c d xs S) Q E)
    (a dx : Addr) (ha : H a = none) (hd : H dx = none) (hne : dx ≠ a) : spOf T K ps.length d (.ref a :: us) (upd (upd H dx (.own a)) a (.ins (T.ca K c) dx [])) (fun v H2 => v = .non ∧ Q (.ref a) H2) E := by
  have r1 := r.frozen (o := .own a) hd
  have ha1 : (upd H dx (.own a)) a = none := by rw [upd_ne (Ne.symm hne)]; exact ha
  have r2 : Rep T K (R.add a) (upd Fz dx (.own a)) (S ++ [some (.ins c [], [])]) (upd (upd H dx (.own a)) a (.ins (T.ca K c) dx [])) := r1.laid (k := .ins c []) (xs := []) (us := []) ha1 ⟨rfl, dx, upd_same⟩ .nil
  have exF : Ex Fz (upd Fz dx (.own a)) := ex_upd (r.fnone hd)
  have rs : Rel T K (R.add a) (upd Fz dx (.own a)) (.ref S.length) (.ref a) := by
    rw [Rel]
    refine ⟨a, rfl, ?_⟩
    show (R.as ++ [a])[S.length]? = some a
    rw [← r.len, List.getElem?_append_right (Nat.le_refl _)]; simp
  have rl : RelL T K (R.add a) (upd Fz dx (.own a)) (.ref S.length :: xs) (.ref a :: us) := .cons rs (rx.mono (R.app a) exF)
  have h := OkV.mono (R.app a) exF h
  unfold newP at h
  by_cases hl : (PV.ref S.length :: xs).length = ps.length
  · refine sp_of hl r2 rl ?_
    cases hd2 : d (.ref S.length :: xs) (S ++ [some (.ins c [], [])]) with
    | ok v S2 =>
      rw [hd2] at h
      cases v with
      | non =>
        intro R' F' H' u p' x' r' ru
        rw [Rel] at ru
        subst ru
        exact ⟨rfl, h R' F' H' (.ref a) p' x' r' (rs.mono p' x')⟩
      | _ => exact h.elim
    | err e' S2 => rw [hd2] at h; exact h
    | bad => rw [hd2] at h; exact h.elim
  · rw [har _ _ hl] at h; exact h.elim
/-- the callee behind a new instance runs -/
theorem run_new {pins : List (Addr × Obj)} {σ : L2.St} {H : Hp} {s : Shared} {Q : VK} {us ws : List Value} {vs : List V} {f : Addr} {fd : FuncData} {C : Addr} {kw : List (Str × Value)} (cg : Cg X E k) (hj : j + 1 ≤ k) (M : Mk X.K C f) (G : FnG T X.prog X.w X.K X.mg X.base j f fd ps d)
    (hb : ∀ (s : Shared) (v : Value), X.K.In s.heap → BindsTo s fd ⟨v :: us, kw⟩ (ps.zip (v :: ws))) (I : Inv X pins σ H s) (r : Vals vs ws)
    (h : ∀ a dx, H a = none → H dx = none → dx ≠ a → spOf T X.K ps.length d (.ref a :: vs) (upd (upd H dx (.own a)) a (.ins C dx [])) (fun v H2 => v = .non ∧ Q (.ref a) H2) (E σ)) :
    wpAny (model X.prog X.w) X.A (call (.ref C) us kw) (EP X pins σ Q) X.xe s := by
  have hq := h (s.heap.objs.size + 1) s.heap.objs.size (I.hok.fresh (Nat.le_succ _)) (I.hok.fresh (Nat.le_refl _)) (Nat.ne_of_lt (Nat.lt_succ_self _))
  have I2 := Inv.made (C := C) I
  have r2 : Vals (V.ref (s.heap.objs.size + 1) :: vs) (Value.ref (s.heap.objs.size + 1) :: ws) := .cons rfl r
  refine wpAny_call (make_map (f := f) I.kIn M.makes M.init (beq_iff_eq.mp M.fn) (codeAny_mono (G.run _ X.stack _ _ ⟨Value.ref (s.heap.objs.size + 1) :: us, kw⟩ (Value.ref (s.heap.objs.size + 1) :: ws) _ _ (E σ) ((cg.room.mono hj).make C us kw)
    (by rw [make_guards]; exact cg.gd) (I2.env0.make C us kw) (hb _ (Value.ref (s.heap.objs.size + 1)) I2.kIn) r2 hq) fun r s' hq' => ?_))
  cases r with
  | error e => exact cg.pass pins σ _ _ e s' I2 hq'
  | ok fl =>
    cases fl with
    | ret u =>
      obtain ⟨v, H', I3, rv, ev, q3⟩ := I2.after hq'
      subst ev
      exact ⟨rv, ⟨V.ref (s.heap.objs.size + 1), H', I3, rfl, q3⟩⟩
    | next => exact False.elim hq'
    | brk => exact False.elim hq'
    | cont => exact False.elim hq'
theorem new_t {Q : VK} {σ : L2.St} {H : Hp} {kk : List PV → Sto → Out PV} (hk : ∀ {K : PySem.W.Frag} {R : Pl} {Fz H : Hp} {S : Sto} {xs : List PV} {us : List V}, Rep T K R Fz S H → RelL T K R Fz xs us → OkV T K R Fz (kk xs S) Q (E σ) → ∃ R' S', Rep T K R' Fz S' H ∧ RelL T K R' Fz xs us ∧ OkV T K R' Fz (newP c d xs S') Q (E σ)) (har : ∀ (xs : List PV) (S : Sto), xs.length ≠ ps.length → d xs S = .bad) (h : tV T X.K E (dApp kk ar) σ H Q) :
    tL T X.K E ar σ H fun vs H1 => ∀ a dx, H1 a = none → H1 dx = none → dx ≠ a → spOf T X.K ps.length d (.ref a :: vs) (upd (upd H1 dx (.own a)) a (.ins (T.ca X.K c) dx [])) (fun v H2 => v = .non ∧ Q (.ref a) H2) (E σ) := by
  obtain ⟨R, Fz, l, S, r, e, h⟩ := h
  exact seqL (goV T X.K (E σ) Q) r e h fun xs S1 R1 F1 H1 us p ex r1 rxs e1 h1 a dx ha hd hne => let ⟨_, _, r', rx', h'⟩ := hk r1 rxs h1; new_sp har r' rx' h' a dx ha hd hne
theorem je_newG {kk : List PV → Sto → Out PV} (cg : Cg X E k) (F : NewC T X.prog X.w X.K X.mg X.base j x c ps d) (hk : ∀ {Q : VK} {E : XK} {K : PySem.W.Frag} {R : Pl} {Fz H : Hp} {S : Sto} {xs : List PV} {us : List V}, Rep T K R Fz S H → RelL T K R Fz xs us → OkV T K R Fz (kk xs S) Q E → ∃ R' S', Rep T K R' Fz S' H ∧ RelL T K R' Fz xs us ∧ OkV T K R' Fz (newP c d xs S') Q E)
    (ha : JA T X E (e :: es) ar) (hj : j + 1 ≤ k := by decide) (hg : Gl X x := by rfl) (hdb : (x == ("__debug__" : Str)) = false := by decide)
    (he : starEach (e :: es) X.env = (false, eval e X.env) :: starEach es X.env := by rfl) (hpl : (backTo pos (starEach es X.env)).any (·.1) = false := by rfl) : JE T X E (.Call (.Name x p) (e :: es) [] pos) (dApp kk ar) := by
  obtain ⟨f, fd, hm, M, G, hb, _⟩ := F.ex
  refine ⟨fun pins s σ H Q I h => ?_⟩
  refine wpAny_Call_Name_kw (ld_glob I hg hm ?_ hdb)
  refine PySem.W.callWith_K (h₀ := X.base) I.ok.mod.kin M.kp (thn (ha.run pos pins s σ H _ I (new_t hk F.ar h)) fun us s1 ⟨vs, H1, I1, r1, q1⟩ => ⟨I1.kIn, ?_⟩) he hpl
  have hl : vs.length + 1 = ps.length := by
    have := q1 _ _ (I1.hok.fresh (Nat.le_succ _)) (I1.hok.fresh (Nat.le_refl _)) (Nat.ne_of_lt (Nat.lt_succ_self _))
    simpa using this.1
  refine run_new cg hj M G (fun s v hin => ?_) I1 r1 q1
  have hb' := hb s (v :: us) hin (by rw [List.append_nil, List.length_cons, ← r1.length]; exact hl)
  rw [List.append_nil] at hb'
  exact hb'
theorem je_newGK {kw : Keyword} {kk : List PV → Sto → Out PV} (cg : Cg X E k) (F : NewC T X.prog X.w X.K X.mg X.base j x c ps d) (hk : ∀ {Q : VK} {E : XK} {K : PySem.W.Frag} {R : Pl} {Fz H : Hp} {S : Sto} {xs : List PV} {us : List V}, Rep T K R Fz S H → RelL T K R Fz xs us → OkV T K R Fz (kk xs S) Q E → ∃ R' S', Rep T K R' Fz S' H ∧ RelL T K R' Fz xs us ∧ OkV T K R' Fz (newP c d xs S') Q E)
    (ha : JK T X E (kw :: kws) ar) (hj : j + 1 ≤ k := by decide) (hg : Gl X x := by rfl) (hdb : (x == ("__debug__" : Str)) = false := by decide)
    (hall : (backToKw pos (keywordEach (kw :: kws) X.env)).all (·.1.isSome) = true := by rfl) (hks : (backToKw pos (keywordEach (kw :: kws) X.env)).filterMap (·.1) = ps.tail := by rfl)
    (hpl : ((backTo pos (starEach [] X.env)).any (·.1) || (backToKw pos (keywordEach (kw :: kws) X.env)).any (·.1.isNone)) = false := by rfl) : JE T X E (.Call (.Name x p) [] (kw :: kws) pos) (dApp kk ar) := by
  obtain ⟨f, fd, hm, M, G, _, hb⟩ := F.ex
  refine ⟨fun pins s σ H Q I h => ?_⟩
  refine wpAny_Call_Name_kw (ld_glob I hg hm ?_ hdb)
  refine PySem.W.callWith_KW0 (h₀ := X.base) I.ok.mod.kin M.kp hall (thn (ha.run pos pins s σ H _ I (new_t hk F.ar h)) fun us s1 ⟨vs, H1, I1, r1, q1⟩ => ⟨I1.kIn, ?_⟩) hpl
  rw [hks]
  have hl : vs.length + 1 = ps.length := by
    have := q1 _ _ (I1.hok.fresh (Nat.le_succ _)) (I1.hok.fresh (Nat.le_refl _)) (Nat.ne_of_lt (Nat.lt_succ_self _))
    simpa using this.1
  exact run_new cg hj M G (fun s v _ => hb s v us (by rw [List.length_tail, ← hl, ← r1.length]; rfl)) I1 r1 q1
/-- a new instance that may change -/
theorem je_newM (cg : Cg X E k) (F : NewC T X.prog X.w X.K X.mg X.base j x c ps d) (ha : JA T X E (e :: es) ar) (hj : j + 1 ≤ k := by decide) (hg : Gl X x := by rfl) (hdb : (x == ("__debug__" : Str)) = false := by decide)
    (he : starEach (e :: es) X.env = (false, eval e X.env) :: starEach es X.env := by rfl) (hpl : (backTo pos (starEach es X.env)).any (·.1) = false := by rfl) : JE T X E (.Call (.Name x p) (e :: es) [] pos) (dApp (newP c d) ar) :=
  je_newG cg F (fun r rx h => ⟨_, _, r, rx, h⟩) ha hj hg hdb he hpl
end
end Z
end
end
section
set_option Elab.async false
set_option linter.all false
set_option maxRecDepth 100000
set_option maxHeartbeats 1000000
/-! ZB: facts of a head; defs called by their places, starred ones; staticmethods. -/
noncomputable section
namespace Z
open PySem PySem.Spec PyProof.Rows L2

/-! ### the head's facts -/
def obsZ (fa : List He.Fa) (ex : List (PySem.W.Frag → Bool)) (fn : List He5.DefA) (K : PySem.W.Frag) : He.AlD := ((fa.all fun f => f.ok K) && ((ex.all fun f => f K) && fn.all fun d => d.ok K), fn.map fun d => He5.fnA K (d.at_ K))
def valZ (fn : List He5.DefA) : He.AlD := (true, fn.map He5.DefA.val)
def SaysZ (fa : List He.Fa) (ex : List (PySem.W.Frag → Bool)) (fn : List He5.DefA) (K : PySem.W.Frag) : Prop := obsZ fa ex fn K = valZ fn
section
variable {fa : List He.Fa} {ex : List (PySem.W.Frag → Bool)} {fn : List He5.DefA} {K : PySem.W.Frag}
theorem SaysZ.bools (c : SaysZ fa ex fn K) : ((fa.all fun f => f.ok K) && ((ex.all fun f => f K) && fn.all fun d => d.ok K)) = true := congrArg (fun z : He.AlD => z.1) c
theorem SaysZ.facts (c : SaysZ fa ex fn K) {f : He.Fa} (h : f ∈ fa) : f.ok K = true := List.all_eq_true.mp (Bool.and_eq_true_iff.mp c.bools).1 f h
theorem SaysZ.fact (c : SaysZ fa ex fn K) (i : Nat) {f : He.Fa} (h : fa[i]? = some f := by rfl) : f.ok K = true := c.facts (List.mem_of_getElem? h)
theorem SaysZ.extra (c : SaysZ fa ex fn K) (i : Nat) {f : PySem.W.Frag → Bool} (h : ex[i]? = some f := by rfl) : f K = true :=
  List.all_eq_true.mp (Bool.and_eq_true_iff.mp (Bool.and_eq_true_iff.mp c.bools).2).1 f (List.mem_of_getElem? h)
theorem SaysZ.def_ (c : SaysZ fa ex fn K) (i : Nat) {d : He5.DefA} (h : fn[i]? = some d := by rfl) : ∃ fd, L2.FunD K d.name d.qual d.params d.body d.scope (d.dvs K) (d.kws K) (d.at_ K) fd := by
  have c2 := (Bool.and_eq_true_iff.mp (Bool.and_eq_true_iff.mp c.bools).2).2
  have e : fn.map (fun d => He5.fnA K (d.at_ K)) = fn.map He5.DefA.val := congrArg (fun z : He.AlD => z.2) c
  have e2 : (fn.map fun d => He5.fnA K (d.at_ K))[i]? = (fn.map He5.DefA.val)[i]? := by rw [e]
  rw [List.getElem?_map, List.getElem?_map, h] at e2
  exact He5.DefA.funD (Option.some.inj e2) (List.all_eq_true.mp c2 d (List.mem_of_getElem? h))
end

/-! ### a def by the places of what it is given -/
def spP (T : Tb) (K : PySem.W.Frag) (d : DF) : Sp := fun vs H Q E => ∃ R F S xs, Rep T K R F S H ∧ RelL T K R F xs vs ∧ OkV T K R F (d xs S) Q E
def FnP (T : Tb) (P : Program) (w : World) (K : PySem.W.Frag) (mg : Str → Option Value) (base : Heap) (k : Nat) (f : Addr) (d : DF) : Prop :=
  ∀ (A : Around) (outer : List Env) (s : Shared) (H : Hp) (us : List Value) (vs : List V) (Q : VK) (E : XK), Room k A → A.guards = some [] → Env0 P w K mg base A outer s H → Vals vs us → spP T K d vs H Q E →
    codeAny (model P w) A (.call (.ref f) ⟨us, []⟩) (CR (L2.CX P w) outer P w H s Q E) s
theorem FnP.mono {T : Tb} {P : Program} {w : World} {K : PySem.W.Frag} {mg : Str → Option Value} {base : Heap} {j k : Nat} {f : Addr} {d : DF} (g : FnP T P w K mg base j f d) (h : j ≤ k) : FnP T P w K mg base k f d :=
  fun A outer s H us vs Q E hr => g A outer s H us vs Q E (hr.mono h)
section
variable {T : Tb} {P : Program} {w : World} {K : PySem.W.Frag} {mg : Str → Option Value} {base : Heap} {k : Nat} {f : Addr} {fd : FuncData} {ps : List Str} {d : DF}
theorem fnp_of (G : FnG T P w K mg base k f fd ps d) (hb : Binds K fd ps []) (har : ∀ (xs : List PV) (S : Sto), xs.length ≠ ps.length → d xs S = .bad) : FnP T P w K mg base k f d := by
  rintro A outer s H us vs Q E hr hg e0 r ⟨R, F, S, xs, r0, rx, h⟩
  by_cases hl : xs.length = ps.length
  · have hv : vs.length = ps.length := by rw [rx.length]; exact hl
    have hb' := hb s us (e0.mod.kin.keeps fun b o e => (e0.bs b o e).1) (by rw [List.append_nil, ← r.length]; exact hv)
    rw [List.append_nil] at hb'
    exact G.run A outer s H ⟨us, []⟩ us vs Q E hr hg e0 hb' r ⟨hv, R, F, S, xs, r0, rx, h⟩
  · rw [har xs S hl] at h; exact h.elim
/-- def f(a, .., *v) -/
def dStar (n : Nat) (d : DF) : DF := fun xs S => if n ≤ xs.length ∧ xs.length ≤ 16777216 then d (xs.take n ++ [.nd .tup (xs.drop n)]) S else .bad
end
theorem fnp_star {T : Tb} {P : Program} {w : World} {K : PySem.W.Frag} {mg : Str → Option Value} {base : Heap} {k : Nat} {f : Addr} {fd : FuncData} {x qual pv : Str} {params : Arguments} {body : List Stmt} {scope : Scope} {kws : List (Str × V)} {N ps : List Str} {b : DS}
    {d : DF} (hd : ∀ (vs : List V) (H : Hp) (Q : VK) (E : XK), spOf T K (ps.length + 1) d vs H Q E → tS T K (fun _ => E) b { nx := fun _ H' => Q .non H', rt := Q } (L2.start N vs) H)
    (G : FunD K x qual params body scope [] kws f fd) (S : FnScope N (ps ++ [pv]) scope) (har : ∀ (xs : List PV) (S : Sto), xs.length ≠ ps.length + 1 → d xs S = .bad)
    (hbi : ∀ (kV doc pm : Value) (an : Option Addr) (cdv ct : Value) (us rest : List Value), us.length = ps.length → bindArgs (PySem.W.fnOf x qual params body scope .none kV doc pm an cdv ct) ⟨us ++ rest, []⟩ = (newTuple rest >>= fun t => pure (ps.zip us ++ [(pv, t)])))
    (hb : ∀ (cdv : Value) (A : Around) (outer : List Env) (s : Shared) (H : Hp) (E : XK), Cg (cxOf (L2.CX P w) P w K mg base N qual scope f cdv A outer s H E) (fun _ => E) k → JB T (cxOf (L2.CX P w) P w K mg base N qual scope f cdv A outer s H E) (fun _ => E) body b) :
    FnP T P w K mg base (k + 1) f (dStar ps.length d) := by
  obtain ⟨oc, od, dV, kV, doc, pm, an, cdv, ct, osl, rfl, lk, hcd, hD, _⟩ := G.ex
  have e0 : dV = .none := by
    rcases hD with ⟨_, z⟩ | ⟨z, _⟩
    · exact z
    · exact absurd rfl z
  subst e0
  rintro A outer s H us vs Q E hr hgd e0 r ⟨R, Fz, St, xs, r0, rx, h⟩
  unfold dStar at h
  split at h
  · rename_i hn
    have hxl := rx.length
    have hvs : vs = vs.take ps.length ++ vs.drop ps.length := (List.take_append_drop ..).symm
    rw [hvs] at r
    obtain ⟨u1, u2, rfl, r1, r2⟩ := StX.vals_split r
    have l1 : (vs.take ps.length).length = ps.length := by rw [List.length_take, hxl]; omega
    have hz : (vs.drop ps.length).length ≤ sizeLine := by rw [List.length_drop, hxl, sizeLine_eq]; omega
    have hl1 : u1.length = ps.length := by rw [← r1.length]; exact l1
    have hl2 : u2.length ≤ sizeLine := by rw [← r2.length]; exact hz
    have hnn : H s.heap.objs.size = Option.none := e0.hok.fresh (Nat.le_refl _)
    refine StX.run_bnd (CX := L2.CX P w) lk hcd S hr e0 (G := fun ys H2 => ∃ p, H p = Option.none ∧ ys = vs.take ps.length ++ [V.ref p] ∧ H2 = upd H p (.tup (vs.drop ps.length))) (fun A' Ex Q' hQ => ?_) fun s2 H2 ys ⟨p, hp, ey, eH⟩ hr' => ?_
    · rw [hbi kV doc pm an cdv ct u1 u2 hl1]
      refine wpAny_bind (wpAny_newTuple (wpAny_pure ?_) hl2)
      have new : ObjOk P w (upd H s.heap.objs.size (.tup (vs.drop ps.length))) (s.heap.push ({ cls := .type "tuple", data := .seq u2.toArray } : Obj)) s.heap.objs.size (.tup (vs.drop ps.length)) := ⟨hz, u2, r2, ⟨_, Heap.get?_push_size _ rfl, rfl, _, rfl⟩⟩
      have un := StX.un_laid (fs := frs outer) (s := s) (o := ({ cls := .type "tuple", data := .seq u2.toArray } : Obj)) (u := .tup (vs.drop ps.length)) hnn
      have z := hQ _ _ (vs.take ps.length ++ [V.ref s.heap.objs.size]) (u1 ++ [Value.ref s.heap.objs.size]) (StX.env0_laid e0 new) un rfl (fun e s' => StX.cxUp outer s H _ _ E e s' un (fun b o q => Heap.get?_push_of_some _ q) rfl) (r1.append (.cons rfl .nil))
        (by rw [List.length_append, List.length_append, l1] <;> rfl) ⟨_, hnn, rfl, rfl⟩
      rw [List.zip_append hl1.symm] at z
      exact z
    · subst ey eH
      have cg : Cg (cxOf (L2.CX P w) P w K mg base N qual scope f cdv A outer s2 (upd H p (.tup (vs.drop ps.length))) E) (fun _ => E) k :=
        ⟨rfl, S.nd, hr', hgd, takes_of rfl rfl rfl rfl, passes_of rfl⟩
      refine ⟨_, hb cdv A outer s2 _ E cg, hd _ _ _ _ ?_⟩
      have rF := r0.frozen (o := .tup (vs.drop ps.length)) hp
      have ex := ex_upd (o := .tup (vs.drop ps.length)) (r0.fnone hp)
      have rn : Rel T K R (upd Fz p (.tup (vs.drop ps.length))) (.nd .tup (xs.drop ps.length)) (.ref p) := by
        rw [Rel]
        exact ⟨p, _, rfl, upd_same, (rx.drop ps.length).mono (Pl.refl R) ex⟩
      refine ⟨?_, R, _, St, xs.take ps.length ++ [.nd .tup (xs.drop ps.length)], rF, ((rx.take ps.length).mono (Pl.refl R) ex).append (.cons rn .nil), OkV.mono (Pl.refl R) ex h⟩
      rw [List.length_append, l1]; rfl
  · exact h.elim

section
variable {T : Tb} {X : Cx} {E : XS} {x m : Str} {p pos apos : Pos} {e o : Expr} {es : List Expr} {d : DF} {dO de : DE} {ar : DA} {j k c : Nat} {f g : Addr}
theorem run_fnp {pins : List (Addr × Obj)} {σ : L2.St} {H : Hp} {s : Shared} {Q : VK} {us : List Value} {vs : List V} (cg : Cg X E k) (hj : j ≤ k) (G : FnP T X.prog X.w X.K X.mg X.base j f d) (I : Inv X pins σ H s) (r : Vals vs us) (h : spP T X.K d vs H Q (E σ)) :
    wpAny (model X.prog X.w) X.A (call (.ref f) us) (EP X pins σ Q) X.xe s := by
  refine wpAny_call (codeAny_mono (G X.A X.stack s H us vs Q (E σ) (cg.room.mono hj) cg.gd I.env0 r h) fun z s' hq => ?_)
  cases z with
  | error e => exact cg.pass pins σ H s e s' I hq
  | ok fl =>
    cases fl with
    | ret u => exact I.after hq
    | next => exact False.elim hq
    | brk => exact False.elim hq
    | cont => exact False.elim hq
/-- .. inside a built-in -/
theorem run_fnp1 {pins : List (Addr × Obj)} {σ : L2.St} {H : Hp} {s : Shared} {Q : VK} {us : List Value} {vs : List V} (cg : Cg X E k) (hj : j + 1 ≤ k) (G : FnP T X.prog X.w X.K X.mg X.base j f d) (I : Inv X pins σ H s) (r : Vals vs us) (h : spP T X.K d vs H Q (E σ)) :
    wpAny (model X.prog X.w) X.A.in1 (call (.ref f) us) (EP X pins σ Q) X.xe s := by
  have e0 := I.env0
  have e1 : Env0 X.prog X.w X.K X.mg X.base X.A.in1 X.stack s H := ⟨e0.frames, e0.mod, e0.bs, e0.bsz, e0.funs, e0.frf, e0.hok, e0.bare⟩
  refine wpAny_call (codeAny_mono (G X.A.in1 X.stack s H us vs Q (E σ) ((cg.room.mono hj).in1) cg.gd e1 r h) fun z s' hq => ?_)
  cases z with
  | error e => exact cg.pass pins σ H s e s' I hq
  | ok fl =>
    cases fl with
    | ret u => exact I.after hq
    | next => exact False.elim hq
    | brk => exact False.elim hq
    | cont => exact False.elim hq
theorem spP_of {E : XK} {K : PySem.W.Frag} {R : Pl} {F H : Hp} {S : Sto} {xs : List PV} {vs : List V} {Q : VK} (r : Rep T K R F S H) (rx : RelL T K R F xs vs) (h : OkV T K R F (d xs S) Q E) : spP T K d vs H Q E := ⟨R, F, S, xs, r, rx, h⟩
theorem fn_t {Q : VK} {σ : L2.St} {H : Hp} (h : tV T X.K E (dFn d ar) σ H Q) : tL T X.K E ar σ H fun vs H1 => spP T X.K d vs H1 Q (E σ) := by
  obtain ⟨R, Fz, l, S, r, e', h⟩ := h
  exact seqL (goV T X.K (E σ) Q) r e' h fun xs S1 R1 F1 H1 us p ex r1 rx e1 h1 => spP_of r1 rx h1

/-- *e among arguments -/
def itemsOf (x : PV) (S : Sto) : Option (List PV) := match view x S with
  | some (.lst, xs) => some xs
  | some (.tup, xs) => some xs
  | some (.scr, xs) => some xs
  | _ => none
def dStarA (a : DE) (r : DA) : DA := fun l S => (a l S).bind fun x S1 => match itemsOf x S1 with
  | some xs => (r l S1).bind fun ys S2 => .ok (xs ++ ys) S2
  | none => .bad
theorem itemsOf_rel {K : PySem.W.Frag} {R : Pl} {F H : Hp} {S : Sto} (r : Rep T K R F S H) {x : PV} {u : V} (h : Rel T K R F x u) {ys : List PV} (e : itemsOf x S = some ys) : ∃ a us, u = .ref a ∧ (SqT K H a us ∨ SqL K H a us) ∧ RelL T K R F ys us := by
  unfold itemsOf at e
  split at e
  · rename_i xs hv
    cases e
    obtain ⟨a, us, h1, h2, h3⟩ := view_rel r h hv
    exact ⟨a, us, h1, .inr ((shp_rd h2).1 (.inl rfl)), h3⟩
  · rename_i xs hv
    cases e
    obtain ⟨a, us, h1, h2, h3⟩ := view_rel r h hv
    exact ⟨a, us, h1, .inl ((shp_rd h2).2 rfl), h3⟩
  · rename_i xs hv
    cases e
    obtain ⟨a, us, h1, h2, h3⟩ := view_rel r h hv
    exact ⟨a, us, h1, .inr ((shp_rd h2).1 (.inr rfl)), h3⟩
  · cases e
theorem ja_star (ha : JE T X E e de) (hr : JA T X E es ar) (hs : starEach (.Starred e p :: es) X.env = (true, eval e X.env) :: starEach es X.env := by rfl) : JA T X E (.Starred e p :: es) (dStarA de ar) := by
  refine pa_imp (StX.pa_star ha hr hs) fun σ H Q ⟨R, F, l, S, r, e', h⟩ => ?_
  refine seqV (goL T X.K (E σ) Q) r e' h fun x S1 R1 F1 H1 u p ex r1 rx e1 h1 => ?_
  have h1 : OkL T X.K R1 F1 (match itemsOf x S1 with
    | some xs => (ar l S1).bind fun ys S2 => .ok (xs ++ ys) S2
    | none => .bad) Q (E σ) := h1
  split at h1
  · rename_i xs hx
    obtain ⟨a, us, rfl, hs', hl⟩ := itemsOf_rel r1 rx hx
    refine ⟨a, us, rfl, hs', ?_⟩
    refine seqL (goL T X.K (E σ) Q) r1 e1 h1 fun ys S2 R2 F2 H2 ws p2 ex2 r2 rys e2 h2 => ?_
    exact PostL.here r2 ((hl.mono p2 ex2).append rys) h2
  · exact h1.elim

/-! ### f(..) by places -/
structure FnV (T : Tb) (P : Program) (w : World) (K : PySem.W.Frag) (mg : Str → Option Value) (base : Heap) (k : Nat) (x : Str) (d : DF) : Prop where
  ex : ∃ f : Addr, mg x = some (.ref f) ∧ PySem.W.keepIn K (.ref f) = true ∧ FnP T P w K mg base k f d

/-! ### C.m(..), m a staticmethod -/
structure StatM (T : Tb) (P : Program) (w : World) (K : PySem.W.Frag) (mg : Str → Option Value) (base : Heap) (k c : Nat) (m : Str) (d : DF) : Prop where
  ex : ∃ (p g : Addr) (rest : List Value), ClX.CRead K (T.ca K c) (.type "type") ∧ PySem.W.findCls K (.ref (T.ca K c)) (.type "type") m = some (.get (.builtin "staticmethod.__get__") (.ref p) .none (.ref (T.ca K c))) ∧ PySem.W.recIn K p "staticmethod" = some (.ref g :: rest) ∧
    PySem.W.keepIn K (.ref g) = true ∧ FnP T P w K mg base k g d
theorem getstat_ok {A : Around} {E : Value → Shared → Prop} {pl : Sem Bool} {pins : List (Addr × Obj)} {σ : L2.St} {H : Hp} {s : Shared} {C pm : Addr} {rest : List Value} {Q : Value × List Value → Shared → Prop} (I : Inv X pins σ H s) (r : ClX.CRead X.K C (.type "type"))
    (h1 : PySem.W.findCls X.K (.ref C) (.type "type") m = some (.get (.builtin "staticmethod.__get__") (.ref pm) .none (.ref C))) (h2 : PySem.W.recIn X.K pm "staticmethod" = some (.ref g :: rest)) (h : ∀ s', Inv X pins σ H s' → Q (.ref g, []) s') :
    wpAny (model X.prog X.w) A (getMethod (.ref C) m pl) Q E s :=
  PySem.W.method_cls I.kIn r.ga (PySem.W.cls_bind I.kIn r.rd h1 (wpAny_call (PySem.W.sm_get (s := { s with toks := s.toks + 1 }) I.kIn h2 (PySem.W.handed_on rfl (h _ (I.tok _))))))
theorem je_stat {pl : Sem Bool} (cg : Cg X E k) (F : StatM T X.prog X.w X.K X.mg X.base j c m d) (ho : JE T X E o (dC (.cls c))) (ha : JA T X E (e :: es) ar) (hj : j ≤ k := by decide)
    (hst : starEach (e :: es) X.env = (false, eval e X.env) :: starEach es X.env := by rfl) (hpl : (backTo pos (starEach es X.env)).any (·.1) = false := by rfl)
    (ht : eval (.Call (.Attribute o m apos) (e :: es) [] pos) X.env = (do
      let ov ← eval o X.env
      standAt apos.atName
      let (f, first) ← holding [ov] (getMethod ov m pl)
      callWith pos f first (backTo pos (starEach (e :: es) X.env)) (backToKw pos (keywordEach [] X.env))) := by rfl) : JE T X E (.Call (.Attribute o m apos) (e :: es) [] pos) (dFn d ar) := by
  obtain ⟨pm, g, rest, r, h1, h2, hk, G⟩ := F.ex
  refine ⟨fun pins s σ H Q I h => ?_⟩
  have hh : tV T X.K E (dC (.cls c)) σ H fun x H1 => x = .ref (T.ca X.K c) ∧ tV T X.K E (dFn d ar) σ H1 Q := by
    obtain ⟨R, Fz, l, S, r, e', h⟩ := h
    refine ⟨R, Fz, l, S, r, e', fun R1 F1 H1 u p ex r1 rx => ?_⟩
    rw [Rel] at rx
    exact ⟨rx, R1, F1, l, S, r1, e'.mono p ex, OkV.mono p ex h⟩
  refine PySem.W.methodCall_KW (pl := pl) (thn (ho.run pins s σ H _ I hh) fun u s1 ⟨x, H1, I1, rx, ex, q⟩ => ?_) ht
  subst ex
  obtain rfl : u = Value.ref (T.ca X.K c) := rx
  refine getstat_ok I1 r h1 h2 fun s2 I2 => ?_
  refine PySem.W.callWith_K (first := []) (h₀ := X.base) I.ok.mod.kin hk (thn (ha.run pos pins s2 σ H1 _ I2 (fn_t q)) fun us s3 ⟨vs, H2, I3, r3, q3⟩ => ⟨I3.kIn, ?_⟩) hst hpl
  exact run_fnp cg hj G I3 r3 q3
end
end Z
end
end
section
set_option Elab.async false
set_option linter.all false
set_option maxRecDepth 100000
set_option maxHeartbeats 1000000
/-! ZC: operators by own methods. -/
noncomputable section
namespace Z
open PySem PySem.Spec PyProof.Rows L2

/-! ### operators whose exceptions are those of the place -/
def OpE (T : Tb) (K : PySem.W.Frag) (E : XK) (f : PV → PV → Sto → Out PV) (r : R2) : Prop := ∀ (R : Pl) (F H : Hp) (S : Sto) (x y : PV) (u w : V) (Q : VK), Rep T K R F S H → Rel T K R F x u → Rel T K R F y w → OkV T K R F (f x y S) Q E → r u w H Q
def CalE (T : Tb) (K : PySem.W.Frag) (E : XK) (f : List PV → Sto → Out PV) (r : List V → Hp → VK → Prop) : Prop := ∀ (R : Pl) (F H : Hp) (S : Sto) (xs : List PV) (us : List V) (Q : VK), Rep T K R F S H → RelL T K R F xs us → OkV T K R F (f xs S) Q E → r us H Q
section
variable {T : Tb} {K : PySem.W.Frag} {E : XK} {f g : PV → PV → Sto → Out PV} {r r' : R2}
theorem OpZ.e (h : OpZ T K f r) : OpE T K E f r := fun R F H S x y u w Q => h E R F H S x y u w Q
theorem CalZ.e {f : List PV → Sto → Out PV} {r : List V → Hp → VK → Prop} (h : CalZ T K f r) : CalE T K E f r := fun R F H S xs us Q => h E R F H S xs us Q
end
section
variable {T : Tb} {X : Cx} {E : XK} {a b c : Expr} {da db : DE} {pos : Pos}
end

/-! ### an own class's methods, by places -/
structure FnMP (T : Tb) (P : Program) (w : World) (K : PySem.W.Frag) (mg : Str → Option Value) (base : Heap) (k c : Nat) (m : Str) (d : DF) : Prop where
  ex : ∃ f : Addr, Cls K (T.ca K c) ∧ Meth K (T.ca K c) m f ∧ FnP T P w K mg base k f d
theorem FnM.p {T : Tb} {P : Program} {w : World} {K : PySem.W.Frag} {mg : Str → Option Value} {base : Heap} {k c : Nat} {m : Str} {ps : List Str} {d : DF} (F : FnM T P w K mg base k c m ps d) : FnMP T P w K mg base k c m d := by
  obtain ⟨f, fd, h1, h2, h3, h4, _⟩ := F.ex
  exact ⟨f, h1, h2, fnp_of h3 h4 F.ar⟩
theorem FnMP.mono {T : Tb} {P : Program} {w : World} {K : PySem.W.Frag} {mg : Str → Option Value} {base : Heap} {j k c : Nat} {m : Str} {d : DF} (F : FnMP T P w K mg base j c m d) (h : j ≤ k) : FnMP T P w K mg base k c m d := by
  obtain ⟨f, h1, h2, h3⟩ := F.ex
  exact ⟨f, h1, h2, h3.mono h⟩
theorem inst_of {X : Cx} {pins : List (Addr × Obj)} {σ : L2.St} {H : Hp} {s : Shared} {a C dx : Addr} {fs : List (Str × V)} (I : Inv X pins σ H s) (e : H a = some (.ins C dx fs)) : ∃ ox od, PySem.W.InstAt s.heap a ox C (some od) := by
  obtain ⟨mA, O, _⟩ := ins_get I.hok e
  obtain ⟨od, J, _⟩ := O.look
  exact ⟨_, od, J⟩
/-- an instance of the class c -/
def isIns (c : Nat) (x : PV) (S : Sto) : Bool := match view x S with
  | some (.ins c' _, _) => c' == c
  | _ => false
theorem isIns_rel {T : Tb} {K : PySem.W.Frag} {R : Pl} {F H : Hp} {S : Sto} {c : Nat} (r : Rep T K R F S H) {x : PV} {u : V} (rx : Rel T K R F x u) (h : isIns c x S = true) : ∃ a dx fs, u = .ref a ∧ H a = some (.ins (T.ca K c) dx fs) := by
  unfold isIns at h
  split at h
  · rename_i c' fs xs hv
    have e : c' = c := beq_iff_eq.mp h
    subst e
    obtain ⟨a, us, rfl, ⟨_, dx, ha⟩, _⟩ := view_rel r rx hv
    exact ⟨a, dx, _, rfl, ha⟩
  · cases h

/-! ### x in o -/
section
variable {T : Tb} {X : Cx} {E : XK} {c j k : Nat} {d : DF} {f : PV → PV → Sto → Out PV} {r : R2}
end

/-! ### len(o), bool(o), o as a test -/
def rOwnLen (T : Tb) (K : PySem.W.Frag) (E : XK) (c : Nat) (d : DF) : List V → Hp → VK → Prop := fun xs H Q => ∃ a dx fs, xs = [.ref a] ∧ H a = some (.ins (T.ca K c) dx fs) ∧ spP T K d [.ref a] H (fun v H' => ∃ n : Int, v = .int n ∧ 0 ≤ n ∧ n < 2 ^ 63 ∧ Q (.int n) H') E
def onlyN (o : Out PV) : Out PV := o.bind fun v S => match v with
  | .int n => if 0 ≤ n ∧ n < 9223372036854775808 then .ok (.int n) S else .bad
  | _ => .bad
def lenX (c : Nat) (d : DF) (f : List PV → Sto → Out PV) (xs : List PV) (S : Sto) : Out PV := match xs with
  | [x] => if isIns c x S = true then onlyN (d [x] S) else f [x] S
  | xs => f xs S
section
variable {T : Tb} {X : Cx} {E : XK} {c j k : Nat} {d : DF} {f : List PV → Sto → Out PV} {r : List V → Hp → VK → Prop}
theorem call_ownLen (cg : Cg X (fun _ => E) k) (F : FnMP T X.prog X.w X.K X.mg X.base j c "__len__" d) (hj : j + 1 ≤ k := by decide) : CallR X (.builtin "len") (rOwnLen T X.K E c d) := by
  obtain ⟨g, cl, hm, G⟩ := F.ex
  intro pins s σ H xs us Q I r ⟨a, dx, fs, e, ha, hsp⟩
  subst e
  cases r with
  | cons ra rr =>
    cases rr
    cases ra
    obtain ⟨ox, od, J⟩ := inst_of I ha
    obtain ⟨m, hF⟩ := I.fr
    refine PySem.W.len_K hF I.ok.mod.kin J hm.at_ hm.fn (thn (run_fnp1 cg hj G I (vs := [V.ref a]) (us := [Value.ref a]) (.cons rfl .nil) hsp) fun rv s1 ⟨v1, H1, I1, r1, n, e1, h0, h1, q⟩ => ?_)
    subst e1
    obtain ⟨t, rfl⟩ := (show ∃ t, rv = Value.int n t from r1)
    exact ⟨⟨h0, h1⟩, .int n, H1, I1.tok _, ⟨_, rfl⟩, q⟩
theorem ce_len {K : PySem.W.Frag} (hf : CalE T K E f r) : CalE T K E (lenX c d f) (fun xs H Q => rOwnLen T K E c d xs H Q ∨ r xs H Q) := by
  intro R F H S xs us Q re rx h
  unfold lenX at h
  split at h
  · rename_i x
    split at h
    · rename_i hi
      obtain ⟨u, rfl, ru⟩ := rel1 rx
      obtain ⟨a, dx, fs, rfl, ha⟩ := isIns_rel re ru hi
      refine .inl ⟨a, dx, fs, rfl, ha, spP_of re rx ?_⟩
      unfold onlyN at h
      cases hd : d [x] S with
      | ok v S1 =>
        rw [hd] at h
        intro R1 F1 H1 u1 p ex r1 ru1
        cases v with
        | int n =>
          have h : OkV T K R F (if 0 ≤ n ∧ n < 9223372036854775808 then .ok (.int n) S1 else .bad) Q E := h
          split at h
          · rename_i hn
            rw [Rel] at ru1
            exact ⟨n, ru1, hn.1, hn.2, h R1 F1 H1 (.int n) p ex r1 (by rw [Rel])⟩
          · exact h.elim
        | _ => exact h.elim
      | err e S1 => rw [hd] at h; exact h
      | bad => rw [hd] at h; exact h.elim
    · exact .inr (hf R F H S [x] us Q re rx h)
  · exact .inr (hf R F H S xs us Q re rx h)
theorem cr_lenX (cg : Cg X (fun _ => E) k) (F : FnMP T X.prog X.w X.K X.mg X.base j c "__len__" d) (hc : CallR X (.builtin "len") r) (hj : j + 1 ≤ k := by decide) : CallR X (.builtin "len") (fun xs H Q => rOwnLen T X.K E c d xs H Q ∨ r xs H Q) := CallR.or (call_ownLen cg F hj) hc
end
section
variable {T : Tb} {X : Cx} {E : XK} {e : Expr} {es : List Expr} {ar : DA} {p pos : Pos} {f : List PV → Sto → Out PV} {r : List V → Hp → VK → Prop} {x : Str}
theorem app_tCBE (hz : CalE T X.K E f r) {σ : L2.St} {H : Hp} {Q : VK} (h : tV T X.K (fun _ => E) (dApp f ar) σ H Q) : tCB r (tL T X.K (fun _ => E) ar) σ H Q := by
  obtain ⟨R, F, l, S, re, e, h⟩ := h
  exact seqL (goV T X.K E Q) re e h fun xs S1 R1 F1 H1 us p ex r1 rx e1 h1 => hz R1 F1 H1 S1 xs us Q r1 rx h1
theorem je_callBE {id : String} (hc : CallR X (.builtin id) r) (hz : CalE T X.K E f r) (hm : X.mg x = none) (ha : JA T X (fun _ => E) (e :: es) ar) (hg : Gl X x := by rfl) (hv : bootBuiltins x = some (.builtin id) := by rfl) (hn : x ≠ "__name__" := by decide) (hdb : (x == ("__debug__" : Str)) = false := by decide)
    (he : starEach (e :: es) X.env = (false, eval e X.env) :: starEach es X.env := by rfl) (hpl : (backTo pos (starEach es X.env)).any (·.1) = false := by rfl) : JE T X (fun _ => E) (.Call (.Name x p) (e :: es) [] pos) (dApp f ar) :=
  pe_imp (pe_callB hc hg hm hv ha hn hdb he hpl) fun _ _ _ h => app_tCBE hz h
end
/-! ### truth by an own __bool__ -/
section
variable {T : Tb} {X : Cx} {E : XK} {c j k : Nat} {d : DF} {a : Expr} {da : DE}
end

/-! ### what classes values are of -/
inductive Ty where
  | b (n : String) | c (k : Nat) | x (k : Nat)
  deriving DecidableEq
def tyW (x : PV) (S : Sto) : Option Ty := match view x S with
  | some (.ins c _, _) => some (.c c)
  | some (.exn c _, _) => some (.x c)
  | _ => (tyZ x S).map .b
/-- isinstance by tables: a built-in's instance of a class, a class's of a class, of a built-in; the classes that are known; whose methods go first -/
structure Ki where
  kb : List ((String × Nat) × Bool)
  kc : List ((Nat × Nat) × Bool)
  kt : List ((Nat × String) × Bool)
  cs : List Nat
  fb : List (String × Nat)
  es : List Nat := []
def Ki.kit (I : Ki) (t : Ty) (x : PV) : Option Bool := match t, x with
  | .b t, .ty n => kitB t n
  | .b t, .cls c => I.kb.lookup (t, c)
  | .c k, .cls c => if k ∈ I.cs then I.kc.lookup (k, c) else none
  | .c k, .ty n => if k ∈ I.cs then I.kt.lookup (k, n) else none
  | .x k, .cls c => if k ∈ I.es then I.kc.lookup (k, c) else none
  | .x k, .ty n => if k ∈ I.es then I.kt.lookup (k, n) else none
  | _, _ => none
def Ki.first (I : Ki) (t : Ty) (c : Nat) : Bool := match t with
  | .b t => decide ((t, c) ∈ I.fb)
  | .c k => k == c
  | .x _ => false
/-- the tables as they are asked of the text -/
def kiB (T : Tb) (I : Ki) (K : PySem.W.Frag) : Bool := (I.kb.all fun p => decide (PySem.W.kitOne K (.type p.1.1) (.ref (T.ca K p.1.2)) = some p.2)) && ((I.kc.all fun p => decide (PySem.W.kitOne K (.ref (T.ca K p.1.1)) (.ref (T.ca K p.1.2)) = some p.2)) &&
  ((I.kt.all fun p => decide (PySem.W.kitOne K (.ref (T.ca K p.1.1)) (.type p.1.2) = some p.2)) && ((I.fb.all fun p => decide (PySem.W.subIn K (.type p.1) (.ref (T.ca K p.2)) = some false)) &&
  ((decide (PySem.W.specialIn K (.builtin "object.__class__") "__get__" = some (some (.builtin "getset_descriptor.__get__"))) && decide (PySem.W.takesIn K (.builtin "object.__class__") = some true)) &&
  ((I.es.all fun c => He.Fa.ok K (.keep (T.cn c)) && (xfB K (T.ca K c) && (decide (PySem.W.findIn K (.ref (T.ca K c)) "__class__" = some (some (.builtin "object.__class__"))) && decide (PySem.W.mroIn K (T.ca K c) (.type "object") = some true)))) &&
  I.cs.all fun c => He.Fa.ok K (.cls (T.cn c)) && (decide (PySem.W.findIn K (.ref (T.ca K c)) "__class__" = some (some (.builtin "object.__class__"))) && decide (PySem.W.mroIn K (T.ca K c) (.type "object") = some true)))))))
structure KiOk (T : Tb) (I : Ki) (K : PySem.W.Frag) : Prop where
  kb : ∀ p ∈ I.kb, PySem.W.kitOne K (.type p.1.1) (.ref (T.ca K p.1.2)) = some p.2
  kc : ∀ p ∈ I.kc, PySem.W.kitOne K (.ref (T.ca K p.1.1)) (.ref (T.ca K p.1.2)) = some p.2
  kt : ∀ p ∈ I.kt, PySem.W.kitOne K (.ref (T.ca K p.1.1)) (.type p.1.2) = some p.2
  fb : ∀ p ∈ I.fb, PySem.W.subIn K (.type p.1) (.ref (T.ca K p.2)) = some false
  hn : PySem.W.specialIn K (.builtin "object.__class__") "__get__" = some (some (.builtin "getset_descriptor.__get__"))
  tk : PySem.W.takesIn K (.builtin "object.__class__") = some true
  cl : ∀ c ∈ I.cs, Cls K (T.ca K c)
  ca : ∀ c ∈ I.cs, PySem.W.findIn K (.ref (T.ca K c)) "__class__" = some (some (.builtin "object.__class__"))
  mr : ∀ c ∈ I.cs, PySem.W.mroIn K (T.ca K c) (.type "object") = some true
  xc : ∀ c ∈ I.es, ExcC K (T.ca K c)
theorem kiB_ok {T : Tb} {I : Ki} {K : PySem.W.Frag} (h : kiB T I K = true) : KiOk T I K := by
  obtain ⟨h1, h⟩ := Bool.and_eq_true_iff.mp h
  obtain ⟨h2, h⟩ := Bool.and_eq_true_iff.mp h
  obtain ⟨h3, h⟩ := Bool.and_eq_true_iff.mp h
  obtain ⟨h4, h⟩ := Bool.and_eq_true_iff.mp h
  obtain ⟨h5, h7⟩ := Bool.and_eq_true_iff.mp h
  obtain ⟨h5, h6⟩ := Bool.and_eq_true_iff.mp h5
  obtain ⟨h8, h7⟩ := Bool.and_eq_true_iff.mp h7
  have a8 := fun c hc => Bool.and_eq_true_iff.mp (Bool.and_eq_true_iff.mp (List.all_eq_true.mp h8 c hc)).2
  have a7 := fun c hc => Bool.and_eq_true_iff.mp (List.all_eq_true.mp h7 c hc)
  exact ⟨fun p hp => of_decide_eq_true (List.all_eq_true.mp h1 p hp), fun p hp => of_decide_eq_true (List.all_eq_true.mp h2 p hp), fun p hp => of_decide_eq_true (List.all_eq_true.mp h3 p hp), fun p hp => of_decide_eq_true (List.all_eq_true.mp h4 p hp),
    of_decide_eq_true h5, of_decide_eq_true h6, fun c hc => He.cls_ok (a7 c hc).1, fun c hc => of_decide_eq_true (Bool.and_eq_true_iff.mp (a7 c hc).2).1, fun c hc => of_decide_eq_true (Bool.and_eq_true_iff.mp (a7 c hc).2).2,
    fun c hc =>
      let t := xfB_ok (a8 c hc).1
      let q := Bool.and_eq_true_iff.mp (a8 c hc).2
      ⟨t.ga, t.gg, t.exC, t.hdC, of_decide_eq_true q.1, of_decide_eq_true h5, of_decide_eq_true h6, of_decide_eq_true q.2⟩⟩
theorem mem_of_lookup {α β : Type} [BEq α] [LawfulBEq α] {k : α} {v : β} : ∀ {l : List (α × β)}, l.lookup k = some v → (k, v) ∈ l
  | [], h => by cases h
  | (a, b) :: l, h => by
    rw [List.lookup_cons] at h
    by_cases e : (k == a) = true
    · rw [e] at h
      have : b = v := Option.some.inj h
      rw [eq_of_beq e, this]
      exact List.mem_cons_self
    · rw [Bool.not_eq_true] at e
      rw [e] at h
      exact List.mem_cons_of_mem _ (mem_of_lookup h)
def Ty.v (T : Tb) (K : PySem.W.Frag) : Ty → Value
  | .b n => .type n
  | .c k => .ref (T.ca K k)
  | .x k => .ref (T.ca K k)
section
variable {T : Tb} {I : Ki} {K : PySem.W.Frag} {R : Pl} {F H : Hp} {S : Sto}
theorem tyW_rel (O : KiOk T I K) (r : Rep T K R F S H) {x : PV} {u : V} (h : Rel T K R F x u) {t : Ty} (e : tyW x S = some t) (hc : (∀ c, t = .c c → c ∈ I.cs) ∧ ∀ c, t = .x c → c ∈ I.es) : TyR K H u (t.v T K) := by
  unfold tyW at e
  split at e
  · rename_i c fs xs hv
    cases e
    obtain ⟨a, us, rfl, ⟨_, dx, ha⟩, _⟩ := view_rel r h hv
    have hm := hc.1 c rfl
    exact .base (.base (.ins ha (O.cl c hm) (O.ca c hm) O.hn O.tk (O.mr c hm)))
  · rename_i c fs xs hv
    cases e
    obtain ⟨a, us, rfl, ⟨_, d, ha, hd⟩, _⟩ := view_rel r h hv
    refine .exn ha ?_ (O.xc c (hc.2 c rfl))
    rcases hd with ⟨_, hd⟩ | ⟨dd, h1, h2⟩
    · exact .inl hd
    · exact .inr ⟨dd, _, h1, h2⟩
  · rw [Option.map_eq_some_iff] at e
    obtain ⟨n, h1, rfl⟩ := e
    exact tyZ_rel r h h1
theorem kit_rel (O : KiOk T I K) {t : Ty} {x : PV} {u : V} {b : Bool} (h : Rel T K R F x u) (e : I.kit t x = some b) : ∃ w, ClsV u w ∧ PySem.W.kitOne K (t.v T K) w = some b ∧ ((∀ c, t = .c c → c ∈ I.cs) ∧ ∀ c, t = .x c → c ∈ I.es) := by
  cases t with
  | b n =>
    cases x with
    | ty m =>
      rw [rel_ty h]
      exact ⟨.type m, .ty m, kit_ty e, fun c z => (nomatch z), fun c z => nomatch z⟩
    | cls c =>
      rw [rel_cls h]
      exact ⟨_, .own _, O.kb ((n, c), b) (mem_of_lookup e), fun c z => (nomatch z), fun c z => nomatch z⟩
    | _ => cases e
  | c k =>
    cases x with
    | ty m =>
      rw [rel_ty h]
      have e : (if k ∈ I.cs then I.kt.lookup (k, m) else none) = some b := e
      split at e
      · rename_i hk
        exact ⟨.type m, .ty m, O.kt ((k, m), b) (mem_of_lookup e), fun c z => by cases z; exact hk, fun c z => nomatch z⟩
      · cases e
    | cls c =>
      rw [rel_cls h]
      have e : (if k ∈ I.cs then I.kc.lookup (k, c) else none) = some b := e
      split at e
      · rename_i hk
        exact ⟨_, .own _, O.kc ((k, c), b) (mem_of_lookup e), fun c z => by cases z; exact hk, fun c z => nomatch z⟩
      · cases e
    | _ => cases e
  | x k =>
    cases x with
    | ty m =>
      rw [rel_ty h]
      have e : (if k ∈ I.es then I.kt.lookup (k, m) else none) = some b := e
      split at e
      · rename_i hk
        exact ⟨.type m, .ty m, O.kt ((k, m), b) (mem_of_lookup e), fun c z => (nomatch z), fun c z => by cases z; exact hk⟩
      · cases e
    | cls c =>
      rw [rel_cls h]
      have e : (if k ∈ I.es then I.kc.lookup (k, c) else none) = some b := e
      split at e
      · rename_i hk
        exact ⟨_, .own _, O.kc ((k, c), b) (mem_of_lookup e), fun c z => (nomatch z), fun c z => by cases z; exact hk⟩
      · cases e
    | _ => cases e
end
/-- isinstance, own classes too -/
def isiX (I : Ki) (xs : List PV) (S : Sto) : Out PV := match xs with
  | [x, .nd k cs] => isiP [x, .nd k cs] S
  | [x, y] => (match (tyW x S).bind fun t => I.kit t y with
    | some b => .ok (.bl b) S
    | none => .bad)
  | _ => .bad
theorem cz_isiX {T : Tb} {I : Ki} {K : PySem.W.Frag} (O : KiOk T I K) : CalZ T K (isiX I) (fun xs H Q => rIsiZ K xs H Q ∨ rIsiTZ K xs H Q) := by
  intro E R F H S xs us Q r rx h
  unfold isiX at h
  split at h
  · exact cz_isi E R F H S _ us Q r rx h
  · rename_i x y _
    obtain ⟨u, w, rfl, r1, r2⟩ := rel2 rx
    split at h
    · rename_i b hb
      rw [Option.bind_eq_some_iff] at hb
      obtain ⟨t, h1, h2⟩ := hb
      obtain ⟨cw, c1, c2, c3⟩ := kit_rel O r2 h2
      exact .inl ⟨u, w, _, cw, b, rfl, c1, tyW_rel O r r1 h1 c3, c2, PostV.here r (by rw [Rel]) h⟩
    · exact h.elim
  · exact h.elim

/-! ### == by an own method -/
section
variable {T : Tb} {I : Ki} {X : Cx} {E : XK} {c j k : Nat} {d : DF} {f : PV → PV → Sto → Out PV} {r : R2}
end
end Z
end
end
section
set_option Elab.async false
set_option linter.all false
set_option maxRecDepth 100000
set_option maxHeartbeats 1000000
/-! ZE: dicts. -/
noncomputable section
namespace Z
open PySem PySem.Spec PyProof.Rows L2

/-! ### an empty dict is of both kinds -/
section
variable {P : Program} {w : World} {H : Hp} {h : Heap} {a : Addr}
end
section
variable {X : Cx} {pins : List (Addr × Obj)} {σ : L2.St} {H : Hp} {s : Shared} {a : Addr} {y d : V} {u r : Value} {o : Option V} {A : Around} {E : Value → Shared → Prop}
end

/-! ### dicts by values -/
def keyP : Key → PV
  | .inl i => .int i
  | .inr x => .str x
section
variable {T : Tb} {K : PySem.W.Frag} {R : Pl} {F H : Hp} {S : Sto}
end

/-! ### k in d -/

/-! ### d.get(k, x) -/
section
variable {T : Tb} {X : Cx} {E : XS} {o e f : Expr} {dO de df : DE} {apos cpos : Pos}
end

/-! ### {}, d[k] = v -/
def dDct0 : DE := fun _ S => .ok (.nd (.dct false []) []) S
section
variable {T : Tb} {X : Cx} {E : XS} {pos : Pos}
end
end Z
end
end
section
set_option Elab.async false
set_option linter.all false
set_option maxRecDepth 100000
set_option maxHeartbeats 1000000
/-! ZG: dicts walked, made by comprehensions. -/
noncomputable section
namespace Z
open PySem PySem.Spec PyProof.Rows L2

section
variable {T : Tb} {K : PySem.W.Frag} {R : Pl} {F H : Hp} {S : Sto}
/-- the part that never changes, with one thing more (or locked) -/
theorem Rep.more (r : Rep T K R F S H) {q : Addr} {o : HO} (ht : ∀ ps, o ≠ .tbl ps) (hq : H q = some o) (hF : F q = none ∨ ∃ u, F q = some u ∧ (o = u ∨ (isD u = true ∧ ∃ ob, o = .frz ob u))) (hp : F q ≠ none ∨ ∀ k us, ¬ Liv T K H q k us) (hh : ∀ p ∈ R.hid, p.1 ≠ q) : Ex F (upd F q o) ∧ Rep T K R (upd F q o) S H := by
  have ex : Ex F (upd F q o) := fun a u e => by
    by_cases h : a = q
    · subst h
      rw [upd_same]
      rcases hF with hF | ⟨v, hF, hv⟩
      · rw [e] at hF; cases hF
      · rw [e] at hF
        cases hF
        rcases hv with rfl | ⟨hd, ob, rfl⟩
        · exact .inl rfl
        · exact .inr ⟨hd, ob, rfl⟩
    · exact .inl (by rw [upd_ne h]; exact e)
  refine ⟨ex, fun a u e => ?_, r.len, r.nd, r.there, fun p hp' => ?_, r.hidt, fun a ps e => ?_, r.tabs, r.hidnd, fun n a k xs h1 h2 => ?_⟩
  · by_cases h : a = q
    · subst h; rw [upd_same] at e; cases e; exact .inl hq
    · rw [upd_ne h] at e; exact r.ex a u e
  · obtain ⟨h1, h2, h3⟩ := r.hid p hp'
    exact ⟨h1, h2, by rw [upd_ne (hh p hp')]; exact h3⟩
  · by_cases h : a = q
    · rw [h, upd_same] at e; exact ht ps (Option.some.inj e)
    · rw [upd_ne h] at e; exact r.ntb a ps e
  · obtain ⟨h3, us, h4, h5⟩ := r.live n a k xs h1 h2
    have ne : a ≠ q := fun z => hp.elim (fun y => y (by rw [← z]; exact h3)) fun y => y k us (by rw [← z]; exact h4)
    exact ⟨by rw [upd_ne ne]; exact h3, us, h4, h5.mono (Pl.refl R) ex⟩
/-- a tuple that is seen -/
theorem Rep.tup (r : Rep T K R F S H) (hd : ∀ p ∈ R.hid, hidO p.2 = true) {q : Addr} {us : List V} (hq : H q = some (.tup us)) : ∃ F', Ex F F' ∧ F' q = some (.tup us) ∧ Rep T K R F' S H := by
  cases e : F q with
  | some o =>
    have h1 := r.ex q o e
    rw [hq] at h1
    rcases h1 with h1 | ⟨_, ob, h1⟩
    · cases h1
      exact ⟨F, Ex.refl F, e, r⟩
    · cases h1
  | none =>
    obtain ⟨ex, r2⟩ := r.more (fun _ z => by cases z) hq (.inl e) (.inr fun k ws h => by
      cases k with
      | tup => exact h
      | scr => exact h
      | lst => have h : H q = _ := h; rw [hq] at h; cases h
      | dct t ks => cases t <;> (obtain ⟨_, kk, _, h⟩ := h; rw [hq] at h; cases h)
      | ins c fs => obtain ⟨_, dx, h⟩ := h; rw [hq] at h; cases h
      | clo a0 c0 q0 us0 => exact h
      | exn c fs => exact h) fun p hp z => hidO.nt (hd p hp) us (by
        have h1 := (r.hid p hp).1
        rw [z, hq] at h1
        exact (Option.some.inj h1).symm)
    exact ⟨_, ex, upd_same, r2⟩
end
/-! ### for k in d -/
section
variable {T : Tb} {K : PySem.W.Frag} {R : Pl} {F H : Hp} {S : Sto}
theorem keyP_rel (k : Key) : Rel T K R F (keyP k) (kV k) := by
  cases k with
  | inl i => unfold keyP; rw [Rel]; rfl
  | inr i => unfold keyP; rw [Rel]; rfl
theorem keyPs_rel : ∀ ks : List Key, RelL T K R F (ks.map keyP) (ks.map kV)
  | [] => .nil
  | k :: ks => .cons (keyP_rel k) (keyPs_rel ks)
end

/-! ### {k: v for ..}, keys of any kind -/
section
variable {X : Cx} {pins : List (Addr × Obj)} {σ : L2.St} {H : Hp} {s : Shared} {D : Addr} {y v : V} {u w : Value}
end

section
variable {X : Cx}
end

/-! ### by values -/
/-- the dict as it stands -/
def DRep (t : Bool) (ks : List PK) (o : HO) (us : List V) : Prop := us.length = ks.length ∧ ((t = false ∧ ∃ kk : List Key, ks = kk.map PK.k ∧ o = .dK (kk.zip us)) ∨ (t = true ∧ ∃ kk : List (List Key), ks = kk.map PK.t ∧ o = .dT (kk.zip us)))
theorem DRep.nt {t : Bool} {ks : List PK} {o : HO} {us : List V} (d : DRep t ks o us) : hidO o = true := by
  obtain ⟨_, ⟨_, _, _, rfl⟩ | ⟨_, _, _, rfl⟩⟩ := d <;> rfl
section
variable {T : Tb} {K : PySem.W.Frag}
end
theorem DRep.shp {T : Tb} {K : PySem.W.Frag} {H : Hp} {D : Addr} {t : Bool} {ks : List PK} {o : HO} {us : List V} (d : DRep t ks o us) (h : H D = some o) : Liv T K H D (.dct t ks) us := by
  obtain ⟨hl, ⟨rfl, kk, e, rfl⟩ | ⟨rfl, kk, e, rfl⟩⟩ := d
  · exact ⟨hl, kk, e, h⟩
  · exact ⟨hl, kk, e, h⟩
section
variable {T : Tb} {X : Cx} {E : XS} {pos : Pos} {kx vx tg iter : Expr} {ifs : List Expr} {scope : Scope} {own : List (Str × Nat)} {di : DI} {t : TgZ} {c : DB} {ek ev : DE}
end
end Z
end
end
section
set_option Elab.async false
set_option linter.all false
set_option maxRecDepth 100000
set_option maxHeartbeats 2000000
/-! ZH: enumerate of what is walked, dicts among arguments, dicts compared. -/
noncomputable section
namespace Z
open PySem PySem.Spec PyProof.Rows L2

/-! ### enumerate(x), x a list, a tuple, a text -/

/-! ### *d, list(d): a dict's keys -/
section
variable {X : Cx} {pins : List (Addr × Obj)} {σ : L2.St} {H : Hp} {s : Shared} {a : Addr}
end
/-- the keys as values -/
theorem Rep.keys {T : Tb} {K : PySem.W.Frag} {R : Pl} {H : Hp} {S : Sto} : ∀ {kk : List (List Key)} {us : List V} {bs : List Addr} {F : Hp}, Rep T K R F S H → us.length = kk.length → IsKeys H (kk.zip us) bs → ∃ F', Ex F F' ∧ Rep T K R F' S H ∧ RelL T K R F' (kk.map fun k => .nd .tup (k.map keyP)) (bs.map V.ref)
  | [], us, bs, F, r, hl, h => by
    cases us with
    | nil => cases h; exact ⟨F, Ex.refl F, r, .nil⟩
    | cons u us => cases hl
  | k :: kk, [], bs, F, r, hl, h => by cases hl
  | k :: kk, u :: us, bs, F, r, hl, h => by
    cases h with
    | cons h1 h2 =>
      obtain ⟨F1, e1, q1, r1⟩ := r.tup r.hidt h1
      obtain ⟨F2, e2, r2, l2⟩ := Rep.keys (F := F1) r1 (by simpa using hl) h2
      refine ⟨F2, e1.trans e2, r2, .cons ?_ l2⟩
      rw [Rel]
      exact ⟨_, _, rfl, e2.at_ q1, keyPs_rel k⟩
section
variable {T : Tb} {X : Cx} {E : XS} {e : Expr} {es : List Expr} {de : DE} {ar : DA} {p : Pos}
end

/-! ### list(d), list(x) -/
end Z
end
end
section
set_option Elab.async false
set_option linter.all false
set_option maxRecDepth 100000
set_option maxHeartbeats 1000000
/-! ZT: tables of code: seen at the head, told at the law's end. -/
noncomputable section
namespace Z
open PySem PySem.Spec PyProof.Rows L2

/-! ### the tables at the head -/
abbrev tabO : Obj := { cls := .none, data := .fields #[] }
def isTab (o : Option Obj) : Bool := match o with
  | some ⟨.none, none, .fields vs, sl⟩ => vs.isEmpty && sl.isEmpty
  | _ => false
theorem isTab_eq {o : Option Obj} (h : isTab o = true) : o = some tabO := by
  unfold isTab at h
  split at h
  · rename_i vs sl
    obtain ⟨h1, h2⟩ := Bool.and_eq_true_iff.mp h
    rw [Array.isEmpty_iff] at h1 h2
    rw [h1, h2]
  · cases h
def tabsOf (tb : List (Str × Str)) (K : PySem.W.Frag) : List (Addr × Str) := tb.filterMap fun p => (PySem.W.tabIn K p.1).map fun c => (c.2, p.2)
def tabOk (g : Addr → Option Obj) (K : PySem.W.Frag) (p : Str × Str) : Bool := match PySem.W.tabIn K p.1 with
  | some (c, P) => PySem.W.codeHdIn K c P && ((K.lookup P).isNone && isTab (g P))
  | none => false
structure TabsGood (tb : List (Str × Str)) (K : PySem.W.Frag) (h : Heap) : Prop where
  each : ∀ p ∈ tb, ∃ c P, PySem.W.tabIn K p.1 = some (c, P) ∧ PySem.W.codeHdIn K c P = true ∧ K.lookup P = none ∧ h.get? P = some tabO
  one : ((tabsOf tb K).map (·.1)).Nodup
theorem TabsGood.at_ {tb : List (Str × Str)} {K : PySem.W.Frag} {h : Heap} (t : TabsGood tb K h) {p : Addr × Str} (hp : p ∈ tabsOf tb K) : ∃ x ∈ tb, ∃ c, x.2 = p.2 ∧ PySem.W.tabIn K x.1 = some (c, p.1) ∧ PySem.W.codeHdIn K c p.1 = true ∧ K.lookup p.1 = none ∧ h.get? p.1 = some tabO := by
  unfold tabsOf at hp
  obtain ⟨x, hx, e⟩ := List.mem_filterMap.mp hp
  obtain ⟨c, P, h1, h2, h3, h4⟩ := t.each x hx
  rw [h1] at e
  cases e
  exact ⟨x, hx, c, rfl, h1, h2, h3, h4⟩
/-- what is lasting about the tables -/
def BaseT (L : List (Addr × Str)) (mg : Str → Option Value) (base : Heap) : Prop := ∀ p ∈ L, base.BuiltinsAt mg p.1 ∧ mainGlobals ≠ p.1

/-! ### the law's end -/
end Z
end
end
section
set_option Elab.async false
set_option linter.all false
set_option maxRecDepth 100000
set_option maxHeartbeats 1000000
/-! ZX: errors: raised, caught, held as values. -/
noncomputable section
namespace Z
open PySem PySem.Spec PyProof.Rows L2

section
variable {T : Tb} {K : PySem.W.Frag} {R : Pl} {F H : Hp} {S : Sto}
/-- a new thing that no value tells of -/
theorem Rep.aside (r : Rep T K R F S H) {p : Addr} {o : HO} (hp : H p = none) : Rep T K R F S (upd H p o) where
  ex := fun a u e => by
    have h : a ≠ p := fun z => by rw [z, r.fnone hp] at e; cases e
    rw [upd_ne h]; exact r.ex a u e
  len := r.len
  nd := r.nd
  there := fun a ha => by
    have h : a ≠ p := fun z => (r.there a ha).1 (by rw [z]; exact hp)
    rw [upd_ne h]; exact r.there a ha
  hidt := r.hidt
  ntb := r.ntb
  tabs := tabs_new r.tabs hp
  hidnd := r.hidnd
  hid := fun q hq => by
    obtain ⟨h1, h2, h3⟩ := r.hid q hq
    have ne : q.1 ≠ p := fun z => by rw [z, hp] at h1; cases h1
    exact ⟨by rw [upd_ne ne]; exact h1, h2, h3⟩
  live := fun n a k xs h1 h2 => by
    obtain ⟨h3, us, h4, h5⟩ := r.live n a k xs h1 h2
    have ne : a ≠ p := fun z => h4.there (by rw [z]; exact hp)
    exact ⟨h3, us, h4.upd ne, h5⟩
end

/-! ### raise C(..), C's own __init__ laying its fields one by one -/
/-- what an error's own __init__ keeps: the fields ns in their order -/
def spE (K : PySem.W.Frag) (C : Addr) (ns : List Str) : Sp := fun vs H Q _ => ∃ a ys, vs = .ref a :: ys ∧ ys.length = ns.length ∧ H a = some (exo a C none) ∧
  ∀ d H2, H d = none → d ≠ a → H2 a = some (exo a C (some d)) → H2 d = some (exd d (ns.zip ys).reverse) → (∀ b, b ≠ a → b ≠ d → H2 b = H b) → Q .non H2
structure ExN (T : Tb) (P : Program) (w : World) (K : PySem.W.Frag) (mg : Str → Option Value) (base : Heap) (k : Nat) (x : Str) (c : Nat) (fs : List Nat) : Prop where
  ex : ∃ fI fd ps, mg x = some (.ref (T.ca K c)) ∧ OexC K (T.ca K c) ∧ PySem.W.findIn K (.ref (T.ca K c)) "__init__" = some (some (.ref fI)) ∧ PySem.W.typeIn K (.ref fI) = some (.type "function") ∧
    FnOk P w K mg base (L2.CX P w) k fI fd ps (spE K (T.ca K c) (fs.map T.fd)) ∧ Binds K fd ps []
  few : fs.length ≤ 900
  some_ : fs ≠ []
def dRaise (c : Nat) (fs : List Nat) (ar : DA) : DS := fun l S => (ar l S).st l fun xs S1 => if xs.length = fs.length then .err ⟨c, fs.reverse, xs.reverse⟩ l S1 else .bad
theorem RelL.zipr {T : Tb} {K : PySem.W.Frag} {fs : List Nat} {us : List V} (h : us.length = fs.length) : ((fs.map T.fd).zip us).reverse = (fs.reverse.map T.fd).zip us.reverse := by
  rw [List.map_reverse]
  unfold List.zip
  rw [List.reverse_zipWith]
  rw [List.length_map, h]
section
variable {T : Tb} {X : Cx} {E : XS} {x : Str} {c j k : Nat} {fs : List Nat} {e : Expr} {es : List Expr} {ar : DA} {p pos rpos : Pos}
theorem passes_no {X : Cx} : Passes (L2.CX X.prog X.w) X (fun _ _ _ => False) := fun _ _ _ _ _ _ _ q => by
  obtain ⟨_, _, _, _, _, _, _, _, _, _, _, _, f⟩ := q
  exact f.elim
theorem js_raise (cg : Cg X E k) (N : ExN T X.prog X.w X.K X.mg X.base j x c fs) (ha : JA T X E (e :: es) ar) (hj : j + 1 ≤ k := by decide) (hg : Gl X x := by rfl) (hdb : (x == ("__debug__" : Str)) = false := by decide)
    (he : starEach (e :: es) X.env = (false, eval e X.env) :: starEach es X.env := by rfl) (hpl : (backTo pos (starEach es X.env)).any (·.1) = false := by rfl) : JS T X E (.Raise (some (.Call (.Name x p) (e :: es) [] pos)) none rpos) (dRaise c fs ar) := by
  obtain ⟨fI, fd, ps, hm, O, iC, tI, G, hb⟩ := N.ex
  refine ps_imp (ps_raise cg.calm cg.takes (pmk_oex (ds := []) (dvs := []) O iC tI G (cg.room.mono hj) hb .nil passes_no hg hm ha hdb he hpl)) fun D σ H ⟨R, Fz, l, S, r, re, h⟩ => ?_
  refine st_l r re h fun xs S1 R1 F1 H1 us pl ex r1 rx e1 h1 => ?_
  have h1 : OkS T X.K R1 F1 (if xs.length = fs.length then .err ⟨c, fs.reverse, xs.reverse⟩ l S1 else .bad) D E := h1
  split at h1
  · rename_i hl
    have hlu : us.length = fs.length := by rw [rx.length]; exact hl
    refine ⟨by rw [hlu]; exact Nat.le_trans N.few (by decide), fun a hn => ⟨a, us, by rw [List.append_nil], by rw [List.length_map]; exact hlu, upd_same, fun d H2 hd hda ea ed hoth => ⟨rfl, d, _, ea, ed, ?_, ?_⟩⟩⟩
    · rw [upd_ne hda] at hd; exact hd
    · rw [upd_ne hda] at hd
      have eH : upd (del H2 a) d (.xd ((fs.map T.fd).zip us).reverse) = upd H1 d (.xd ((fs.map T.fd).zip us).reverse) := by
        funext b
        by_cases hbd : b = d
        · rw [hbd, upd_same, upd_same]
        · rw [upd_ne hbd, upd_ne hbd]
          by_cases hba : b = a
          · rw [hba, del_same, hn]
          · rw [del_ne hba, hoth b hba hbd, upd_ne hba]
      rw [eH]
      refine h1 R1 F1 _ σ _ _ (Pl.refl R1) (Ex.refl F1) (r1.aside hd) e1 ⟨rfl, .inr ⟨d, us.reverse, rfl, r1.fnone hd, ?_, ?_, rx.reverse⟩⟩
      · rw [upd_same, RelL.zipr (K := X.K) hlu]
      · rw [List.length_reverse, List.length_reverse]; exact hlu
  · exact h1.elim
end
/-! ### such an __init__ of one field, of two -/
section
variable {P : Program} {w : World} {K : PySem.W.Frag} {mg : Str → Option Value} {base : Heap} {nm qual : Str} {params : Arguments} {scope : Scope} {fI C : Addr} {fd : FuncData} {s v1 v2 f1 f2 : Str} {p1 p2 p3 p4 q1 q2 q3 q4 : Pos}
theorem init1 (G : FunD K nm qual params [.Assign [.Attribute (.Name s p1) f1 p2] (.Name v1 p3) p4] scope [] [] fI fd) (S : FnScope [s, v1] [s, v1] scope) (O : OexC K C) (hno : PySem.W.findIn K (.ref C) f1 = some none)
    (vs : Vis scope s := by first | exact Or.inl rfl | exact Or.inr (Or.inl rfl)) (vv : Vis scope v1 := by first | exact Or.inl rfl | exact Or.inr (Or.inl rfl))
    (ds : (s == ("__debug__" : Str)) = false := by decide) (dv : (v1 == ("__debug__" : Str)) = false := by decide) (cs : (s == ("__classdict__" : Str)) = false := by decide) (cv : (v1 == ("__classdict__" : Str)) = false := by decide) :
    FnOk P w K mg base (L2.CX P w) 1 fI fd [s, v1] (spE K C [f1]) :=
  FunD.ok (k := 0) G S (fun _ _ _ _ ⟨a, ys, e, l, _⟩ => by rw [e, List.length_cons, l]; rfl) fun cdv A outer st H vs Q E hr ⟨a, ys, e, l, ha, hq⟩ => by
    match ys, l with
    | [y], _ =>
      subst e
      refine ⟨_, pss_one (ps_ost (pe_var (i := 0) rfl vs ds cs) (pe_var (i := 1) rfl vv dv cv)), ?_⟩
      refine ⟨y, rfl, .ref a, rfl, a, C, rfl, O, hno, .inl ⟨ha, fun dx hdx hne => hq dx _ hdx hne upd_same ?_ fun b h1 h2 => by rw [upd_ne h1, upd_ne h2]⟩⟩
      rw [upd_ne hne, upd_same]; rfl
end

/-! ### what the head must tell of an error's class -/
def oexB (K : PySem.W.Frag) (C : Addr) : Bool := (match K.lookup C with
  | some ⟨.type "type", _, .cls cd, sl⟩ => (match cd.mro, sl.toList with
    | .ref B :: bm, [_, _, _, _, some (.builtin n), _] => B == C && (n == "ValueError.__new__" && (!cd.hasDel && (cd.hasDict && PySem.HandSPX.refsVE bm)))
    | _, _ => false)
  | _ => false) && (decide (PySem.W.findIn K (.ref C) "__setattr__" = some (some (.builtin "object.__setattr__"))) && (decide (PySem.W.subIn K (.ref C) (.type "BaseException") = some true) && (decide (PySem.W.typeIn K (.ref C) = some (.type "type")) && PySem.W.keepIn K (.ref C))))
theorem oexB_ok {K : PySem.W.Frag} {C : Addr} (h : oexB K C = true) : OexC K C := by
  unfold oexB at h
  obtain ⟨h1, h⟩ := Bool.and_eq_true_iff.mp h
  obtain ⟨h2, h⟩ := Bool.and_eq_true_iff.mp h
  obtain ⟨h3, h⟩ := Bool.and_eq_true_iff.mp h
  obtain ⟨h4, h5⟩ := Bool.and_eq_true_iff.mp h
  refine ⟨?_, of_decide_eq_true h2, of_decide_eq_true h3, of_decide_eq_true h4, h5⟩
  split at h1
  · rename_i dd cd sl hl
    split at h1
    · rename_i B bm k0 k1 k2 k3 n k5 hm hs
      simp only [Bool.and_eq_true, beq_iff_eq, Bool.not_eq_true'] at h1
      obtain ⟨rfl, rfl, e1, e2, e3⟩ := h1
      obtain ⟨nm, bs, mro, ns, qn, hd, sn, sub, ab, col, del⟩ := cd
      dsimp only at hm e1 e2
      subst hm e1 e2
      have hsl : sl = #[k0, k1, k2, k3, some (.builtin "ValueError.__new__"), k5] := by
        obtain ⟨l⟩ := sl
        simp only at hs
        rw [hs]
      subst hsl
      exact ⟨nm, qn, ns, bs, bm, sn, sub, ab, col, dd, k0, k1, k2, k3, k5, hl, e3⟩
    · cases h1
  · cases h1
def exnB (x : Str) (fs : List Str) (K : PySem.W.Frag) : Bool := oexB K (He.ga K x) && ((match PySem.W.findIn K (.ref (He.ga K x)) "__init__" with
  | some (some (.ref a)) => decide (PySem.W.typeIn K (.ref a) = some (.type "function"))
  | _ => false) && (fs.all fun f => decide (PySem.W.findIn K (.ref (He.ga K x)) f = some none)))
theorem exnB_init {x : Str} {fs : List Str} {K : PySem.W.Frag} (h : exnB x fs K = true) : PySem.W.findIn K (.ref (He.ga K x)) "__init__" = some (some (.ref (He.ma K (He.ga K x) "__init__"))) ∧ PySem.W.typeIn K (.ref (He.ma K (He.ga K x) "__init__")) = some (.type "function") := by
  unfold exnB at h
  have h1 := (Bool.and_eq_true_iff.mp (Bool.and_eq_true_iff.mp h).2).1
  split at h1
  · rename_i a ha
    have e : He.ma K (He.ga K x) "__init__" = a := by unfold He.ma; rw [ha]
    rw [e]
    exact ⟨ha, of_decide_eq_true h1⟩
  · cases h1
theorem exnB_no {x f : Str} {fs : List Str} {K : PySem.W.Frag} (h : exnB x fs K = true) (hf : f ∈ fs) : PySem.W.findIn K (.ref (He.ga K x)) f = some none := by
  unfold exnB at h
  exact of_decide_eq_true (List.all_eq_true.mp (Bool.and_eq_true_iff.mp (Bool.and_eq_true_iff.mp h).2).2 f hf)

/-! ### an error that is held from now on -/
section
variable {X : Cx} {pins : List (Addr × Obj)} {σ : L2.St} {H : Hp} {s : Shared}
theorem Inv.hold {a C : Addr} {d : Option Addr} {oe : Obj} {vs : Array Value} (I : Inv X pins σ H s) (ha : s.heap.get? a = some oe) (hz : Zc (.ref C) d oe) (hd : oe.data = .fields vs) (na : H a = none)
    (old : X.s_0.heap.get? a = none) (nl : a ≠ X.env.locals) (nc : ∀ x c, X.env.cells.lookup x = some c → c ≠ a) (np : ∀ p ∈ X.pn ++ pins, p.1 ≠ a) : Inv X pins σ (upd H a (EXV C d a)) s where
  ok := I.ok
  os := I.os
  bare := I.bare
  base := {
    keep := I.base.keep
    slot := I.base.slot
    free := fun b o e n hx => by
      have hb : b ≠ a := fun z => by rw [z, old] at e; cases e
      rw [upd_ne hb]; exact I.base.free b o e n hx
    there := I.base.there
    tups := fun b xs e => by
      have q := I.base.tups b xs e
      rw [upd_ne (ne_of_none q na)]; exact q
    frzs := fun b o u e => by
      have q := I.base.frzs b o u e
      rw [upd_ne (ne_of_none q na)]; exact q
    tbls := fun b ps e => by
      obtain ⟨more, q⟩ := I.base.tbls b ps e
      exact ⟨more, by rw [upd_ne (ne_of_none q na)]; exact q⟩ }
  loc := I.loc
  cell := I.cell
  free := by rw [upd_ne (Ne.symm nl)]; exact I.free
  freeC := fun x c e => by rw [upd_ne (nc x c e)]; exact I.freeC x c e
  pin := fun p hp => by
    obtain ⟨h1, h2, h3, h4, h5⟩ := I.pin p hp
    exact ⟨h1, by rw [upd_ne (np p hp)]; exact h2, h3, h4, h5⟩
  hok := fun b o e => by
    by_cases hb : b = a
    · subst hb
      rw [upd_same] at e
      cases e
      exact ⟨⟨oe, vs, ha, hz, hd⟩, ⟨oe, ha⟩, fun h1 h2 ⟨oe, vs, q1, q2, q3⟩ k => ⟨oe, vs, k _ q1, q2, q3⟩⟩
    · rw [upd_ne hb] at e
      exact (I.hok b o e).stay (fun _ _ _ z => z) (fun c hc => by rw [upd_ne (ne_of_none hc na)]; exact hc) fun c xs hc => by rw [upd_ne (ne_of_none hc na)]; exact hc
  len := I.len
end
end Z
end
end
section
set_option Elab.async false
set_option linter.all false
set_option maxRecDepth 100000
set_option maxHeartbeats 1000000
/-! ZY: try: .. except C as n: .., the error held as a value from there on. -/
noncomputable section
namespace Z
open PySem PySem.Spec PyProof.Rows L2

section
variable {X : Cx} {x n : Str} {cv : Value} {i : Nat} {body suite : List Stmt} {b₀ : Stmt} {np pos pos' : Pos} {tb : WX → TS} {ts : TS} {Wout : WX}
theorem Inv.back {pins : List (Addr × Obj)} {σ : L2.St} {H : Hp} {s : Shared} {a : Addr} (J : Inv (X.suite a (X.pn ++ pins)) [] σ H s) (ok : X.Ok) : Inv X pins σ H s where
  ok := ok
  os := J.os
  bare := J.bare
  base := J.base
  loc := J.loc
  cell := J.cell
  free := J.free
  freeC := J.freeC
  pin := fun p hp => J.pin p (List.mem_append_left _ hp)
  hok := J.hok
  len := J.len
end
end Z
end
end
section
set_option Elab.async false
set_option linter.all false
set_option maxRecDepth 100000
set_option maxHeartbeats 1000000
/-! ZV: try, by values; the fields of an error that is held. -/
noncomputable section
namespace Z
open PySem PySem.Spec PyProof.Rows L2

/-- the error as a value -/
def XV.val (e : XV) : PV := .nd (.exn e.c e.fs) (if e.fs = [] then [] else e.xs)
section
variable {T : Tb} {K : PySem.W.Frag} {R : Pl} {F H : Hp} {S : Sto} {l : Loc} {σ : L2.St}
end
section
variable {T : Tb} {X : Cx} {E : XS} {x n : Str} {cv : Value} {i k : Nat} {body suite : List Stmt} {b₀ : Stmt} {np pos pos' : Pos} {b su : DS} {tst : Nat → Option Bool}
end
/-! ### e.f, e an error that is held -/
def getE (T : Tb) (f : Nat) (x : PV) (S : Sto) : Out PV := match view x S with
  | some (.exn c fs, xs) => if T.okx c f = true ∧ fs.all (T.okx c) = true then (match fLook fs xs f with
    | some v => .ok v S
    | none => .bad) else .bad
  | _ => .bad
def dAttrE (T : Tb) (f : Nat) (a : DE) : DE := dUn (getE T f) a
section
variable {T : Tb} {X : Cx} {E : XS} {o : Expr} {dO : DE} {pos : Pos} {F : Str}
end
end Z
end
end
section
set_option Elab.async false
set_option linter.all false
set_option maxRecDepth 100000
set_option maxHeartbeats 1000000
/-! ZW: a lambda handed to a def that calls it. -/
noncomputable section
namespace Z
open PySem PySem.Spec PyProof.Rows L2

section
variable {T : Tb} {K : PySem.W.Frag} {R : Pl} {F H H1 : Hp} {S : Sto} {l : Loc} {σ : L2.St}
theorem Liv.of_eq {a : Addr} {k : Kd} {us : List V} (e : H1 a = H a) (h : Liv T K H a k us) : Liv T K H1 a k us := by
  cases k with
  | tup => exact h
  | scr => exact h
  | lst => exact e.trans h
  | dct t ks => cases t <;> exact ⟨h.1, h.2.imp fun _ z => ⟨z.1, e.trans z.2⟩⟩
  | ins c fs => exact ⟨h.1, h.2.imp fun _ z => e.trans z⟩
  | exn c fs => exact h
  | clo a0 c0 q0 us0 => exact h
/-- all but the tables stays -/
theorem Rep.tables (r : Rep T K R F S H) (e : LamX.ExtN H H1) (t : LamX.Tabs (T.tabs K) H1) : Rep T K R F S H1 where
  ex := fun a o h => by
    have n := r.ntb a
    rcases r.ex a o h with q | ⟨hd, ob, q⟩
    · exact .inl (e a o q fun ps z => n ps (by rw [h, z]))
    · exact .inr ⟨hd, ob, e a _ q fun ps z => nomatch z⟩
  len := r.len
  nd := r.nd
  there := fun a ha => by
    obtain ⟨h1, h2⟩ := r.there a ha
    cases q : H a with
    | none => exact absurd q h1
    | some o =>
      rw [e a o q fun ps z => h2 ps (by rw [q, z])]
      exact ⟨fun z => (nomatch z), fun ps z => h2 ps (by rw [q, z])⟩
  hidt := r.hidt
  ntb := r.ntb
  tabs := t
  hidnd := r.hidnd
  hid := fun p hp => by
    obtain ⟨h1, h2, h3⟩ := r.hid p hp
    exact ⟨e _ _ h1 (fun ps z => by have q := r.hidt p hp; rw [z] at q; cases q), h2, h3⟩
  live := fun n a k xs h1 h2 => by
    obtain ⟨h3, us, h4, h5⟩ := r.live n a k xs h1 h2
    obtain ⟨u, q1, q2⟩ := h4.plain
    exact ⟨h3, us, h4.of_eq ((e a u q1 (fun ps z => by rw [z] at q2; cases q2)).trans q1.symm), h5⟩
end
section
variable {T : Tb} {X : Cx} {E : XS} {x : Str} {n k kb : Nat} {b : PV → (Sto → Out PV) → DS} {db : DE} {body : Expr} {params : Arguments} {scope : Scope} {p lpos pos : Pos}
end
end Z
end
end
section
set_option Elab.async false
set_option linter.all false
set_option maxRecDepth 100000
set_option maxHeartbeats 1000000
/-! ZU: texts: join, index, int and str of them; repr of an empty dict; displays of constants; keywords in any order. -/
noncomputable section
namespace Z
open PySem PySem.Spec PyProof.Rows L2

/-! ### sep.join(xs), text.index(sign) -/
section
variable {T : Tb} {X : Cx} {E : XS} {o e : Expr} {dO d : DE} {apos pos : Pos}
end
/-! ### int(x), str(x), repr(x) -/
def intX (xs : List PV) (S : Sto) : Out PV := match xs with
  | [.str a] => (match PySem.intText? a with
    | some n => if a.length ≤ 640 then .ok (.int n) S else .bad
    | none => .bad)
  | xs => intP xs S
abbrev rIntX : List V → Hp → VK → Prop := fun xs H Q => ((∃ i, xs = [.int i] ∧ Q (.int i) H) ∨ ∃ k, xs = [.bl k] ∧ Q (.int (if k then 1 else 0)) H) ∨ (∃ a n, xs = [.str a] ∧ PySem.intText? a = some n ∧ a.length ≤ 640 ∧ Q (.int n) H)
theorem cr_int {X : Cx} : CallR X (.type "int") rIntX := CallR.or call_int1 call_int_str
theorem cz_intX {T : Tb} {K : PySem.W.Frag} : CalZ T K intX rIntX := by
  intro E R F H S xs us Q r rx h
  unfold intX at h
  split at h
  · rename_i a
    obtain ⟨u, rfl, r1⟩ := rel1 rx
    rw [rel_str r1]
    split at h
    · rename_i n hn
      split at h
      · rename_i hl
        exact .inr ⟨a, n, rfl, hn, hl, PostV.here r (by rw [Rel]) h⟩
      · exact h.elim
    · exact h.elim
  · exact .inl (cz_int E R F H S _ us Q r rx h)

/-! ### {k: v, ..} of constants -/
def dDispC (ks : List Key) (vs : List PV) : DE := fun _ S => .ok (.nd (.dct false (ks.map PK.k)) vs) S
section
variable {T : Tb} {X : Cx} {E : XS} {pos : Pos}
end

/-! ### f(b=.., a=..): the keywords in any order -/
/-- the arguments, put in the parameters' order -/
def permL {α : Type} (π : List Nat) (xs : List α) : List α := π.filterMap fun i => xs[i]?
def dFnP (π : List Nat) (d : DF) (ar : DA) : DE := fun l S => (ar l S).bind fun xs S1 => if xs.length = π.length then d (permL π xs) S1 else .bad
end Z
end
end
section
set_option Elab.async false
set_option linter.all false
set_option maxRecDepth 100000
set_option maxHeartbeats 1000000
/-! ZR: where lambdas stand. -/
noncomputable section
namespace Z
open PySem PySem.Spec PyProof.Rows L2

/-- what the head tells of the tables, but for their contents -/
structure TabsK (tb : List (Str × Str)) (K : PySem.W.Frag) : Prop where
  each : ∀ p ∈ tb, ∃ c P, PySem.W.tabIn K p.1 = some (c, P) ∧ PySem.W.codeHdIn K c P = true
  one : ((tabsOf tb K).map (·.1)).Nodup
theorem TabsGood.k {tb : List (Str × Str)} {K : PySem.W.Frag} {h : Heap} (t : TabsGood tb K h) : TabsK tb K := ⟨fun p hp => let ⟨c, P, h1, h2, _⟩ := t.each p hp; ⟨c, P, h1, h2⟩, t.one⟩
theorem TabsGood.law {tb : List (Str × Str)} {K : PySem.W.Frag} {h : Heap} (t : TabsGood tb K h) (inK : K.In h) : ∀ p ∈ tabsOf tb K, h.get? p.1 = some tabO ∧ K.lookup p.1 = none ∧ ∃ c, PySem.W.CodeHd h c p.1 := fun p hp => by
  obtain ⟨x, _, c, _, _, h2, h3, h4⟩ := t.at_ hp
  exact ⟨h4, h3, c, PySem.W.codeHd_of_K inK h2⟩

/-! ### tables of names -/
def TbX (cns fds : List Str) (okl oxl : List (Nat × Nat)) (tb : List (Str × Str)) : Tb := { cn := fun i => cns.getD i "", fd := fun i => fds.getD i "", nf := fds.length, okf := fun c f => decide ((c, f) ∈ okl), okx := fun c f => decide ((c, f) ∈ oxl), tabs := tabsOf tb }
def tbB (T : Tb) (fds : List Str) (okl oxl : List (Nat × Nat)) (K : PySem.W.Frag) : Bool :=
  decide fds.Nodup && ((okl.all fun p => decide (p.2 < fds.length) && (He.Fa.ok K (.cls (T.cn p.1)) && He.Fa.ok K (.noat (T.cn p.1) (T.fd p.2)))) &&
    oxl.all fun p => decide (p.2 < fds.length) && (xfB K (T.ca K p.1) && decide (PySem.W.findIn K (.ref (T.ca K p.1)) (T.fd p.2) = some none)))
theorem tbB_ok {cns fds : List Str} {okl oxl : List (Nat × Nat)} {tb : List (Str × Str)} {K : PySem.W.Frag} (h : tbB (TbX cns fds okl oxl tb) fds okl oxl K = true) : TbOk (TbX cns fds okl oxl tb) K := by
  obtain ⟨h1, h⟩ := Bool.and_eq_true_iff.mp h
  obtain ⟨h2, h3⟩ := Bool.and_eq_true_iff.mp h
  have nd := of_decide_eq_true h1
  refine ⟨fun i j hi hj e => ?_, fun c f q => ?_, fun c f q => ?_⟩
  · have hi : i < fds.length := hi
    have hj : j < fds.length := hj
    have e : fds.getD i "" = fds.getD j "" := e
    rw [List.getD_eq_getElem?_getD, List.getD_eq_getElem?_getD, List.getElem?_eq_getElem hi, List.getElem?_eq_getElem hj] at e
    have e : fds[i] = fds[j] := e
    exact (List.getElem?_inj hi nd).mp (by rw [List.getElem?_eq_getElem hi, List.getElem?_eq_getElem hj, e])
  · have q : (c, f) ∈ okl := of_decide_eq_true q
    obtain ⟨a, b⟩ := Bool.and_eq_true_iff.mp (List.all_eq_true.mp h2 _ q)
    obtain ⟨b, c⟩ := Bool.and_eq_true_iff.mp b
    exact ⟨of_decide_eq_true a, He.cls_ok b, He.noat_ok c⟩
  · have q : (c, f) ∈ oxl := of_decide_eq_true q
    obtain ⟨a, b⟩ := Bool.and_eq_true_iff.mp (List.all_eq_true.mp h3 _ q)
    obtain ⟨b, c⟩ := Bool.and_eq_true_iff.mp b
    exact ⟨of_decide_eq_true a, xfB_ok b, of_decide_eq_true c⟩
end Z
end
end
section
set_option Elab.async false
set_option linter.all false
set_option maxRecDepth 100000
set_option maxHeartbeats 1000000
/-! ZN: to reckon with errors, texts. -/
noncomputable section
namespace Z
open PySem PySem.Spec PyProof.Rows L2

section
variable {l : Loc} {S S1 : Sto} {ar : DA} {a : DE} {b su s : DS} {e : XV}
@[simp] theorem dRaise_ap (c : Nat) (fs : List Nat) : dRaise c fs ar l S = (ar l S).st l fun xs S1 => if xs.length = fs.length then .err ⟨c, fs.reverse, xs.reverse⟩ l S1 else .bad := rfl
@[simp] theorem dFnP_ap (π : List Nat) (d : DF) : dFnP π d ar l S = (ar l S).bind fun xs S1 => if xs.length = π.length then d (permL π xs) S1 else .bad := rfl
@[simp] theorem dDispC_ap (ks : List Key) (vs : List PV) : dDispC ks vs l S = .ok (.nd (.dct false (ks.map PK.k)) vs) S := rfl
@[simp] theorem dDct0_ap : dDct0 l S = .ok (.nd (.dct false []) []) S := rfl
@[simp] theorem dAttrE_ap (T : Tb) (f : Nat) : dAttrE T f a l S = (a l S).bind fun x S1 => getE T f x S1 := rfl
end

/-! ### words of digits -/
def wd (ds : List Nat) : Str := ⟨(ds.map (48 + ·)).toArray⟩

/-! ### the places -/
theorem fitsS_pre {S S' : Sto} (h : S <+: S') : fitsS S S' = true := by
  obtain ⟨t, rfl⟩ := h
  exact fitsS_app S t
/-! ### the laws' pen -/
def penB : DS := dRet (dLstM (dCons (dApp listP (dCons (dSli (dVar 0) (dNone) (dSome (dC (.int 63)))) (dNil))) (dCons (dC (.int 0)) (dCons (dC (.int 0)) (dNil)))))
theorem penB_ok {ns : List Int} (h : ns.length ≤ 63) : dDef0 1 1 penB [.nd .scr (ns.map .int)] [] = .ok (.ref 0) [pn ns 0 0] := by
  refine dDef0_ret [] penB rfl ?_
  show penB [some (.nd .scr (ns.map .int))] [] = _
  have e : cutP (ns.map PV.int) none (some (63 : Int)) = ns.map .int := by
    rw [show (63 : Int) = ((63 : Nat) : Int) from rfl, cutP_to, List.take_of_length_le (by rw [List.length_map]; omega)]
  have hs : sliZ (.nd .scr (ns.map .int)) none (some 63) [] = .ok (.nd .lst (ns.map .int)) [] := by
    show Out.ok (PV.nd .lst (cutP (ns.map PV.int) none (some 63))) [] = _
    rw [e]
  unfold penB
  show _ = OutS.ret (PV.ref 0) [some (.lst, [.nd .lst (ns.map .int), .int 0, .int 0])]
  generalize ns.map PV.int = Z at hs ⊢
  have hm : mkRf Kd.lst [PV.nd Kd.lst Z, PV.int 0, PV.int 0] [] = .ok (.ref 0) [some (.lst, [PV.nd Kd.lst Z, PV.int 0, PV.int 0])] := mkRf_ok [] (by simp)
  simp [hs, hm]
end Z
end
end
section
set_option Elab.async false
set_option linter.all false
set_option maxRecDepth 100000
set_option maxHeartbeats 1000000
/-! ZO: own __iter__ that gives iter(self.f), f a tuple. -/
noncomputable section
namespace Z
open PySem PySem.Spec PyProof.Rows L2

/-- at it an iterator over the tuple at t, the next place is i -/
def TItO (t it : Addr) (i : Nat) : HO := .ext fun h => h.IsTupleIter it t i
theorem tItO_ok {P : Program} {w : World} {H : Hp} {h : Heap} {t it : Addr} {i : Nat} (e : h.IsTupleIter it t i) : ObjOk P w H h it (TItO t it i) := ⟨e, let ⟨o, z, _⟩ := e; ⟨o, z⟩, fun h1 h2 q k => q.at fun o z => k o z⟩
def rIterTp (K : PySem.W.Frag) (n : Nat) : List V → Hp → VK → Prop := fun xs H Q => ∃ (t : Addr) (zs : List V), xs = [.ref t] ∧ SqT K H t zs ∧ ∀ it, H it = Option.none → n ≤ it → Q (.ref it) (upd H it (TItO t it 0))
theorem call_iterTp {X : Cx} : CallR X (.builtin "iter") (rIterTp X.K X.s_0.heap.objs.size) := by
  intro pins s σ H xs us Q I r h
  obtain ⟨t, zs, rfl, hq, q⟩ := h
  obtain ⟨u, rfl, ru⟩ := vals1 r
  cases ru
  obtain ⟨its, rv, pl, hz⟩ := I.tuple hq
  refine Calls.call_function_entry (by decide +kernel) (by decide +kernel) PySem.W.kdk_entry_iter (PySem.W.kdk_args_iter _) ?_
  unfold Builtin.«iter»
  refine wpAny_bind (m := someArgs "iter" 1 2 _) (wpAny_of_eq (a := [Value.ref t]) (by first | rfl | kernel_rfl!) ?_)
  show wpAny _ _ (pyIter (.ref t) >>= _) _ _ _
  refine wpAny_bind (wpAny_pyIter_tuple pl ?_)
  refine wpAny_pure ⟨_, rfl, ?_⟩
  exact ⟨.ref s.heap.objs.size, _, I.laid (t' := s.toks) (fun b u e => Heap.get?_push_of_some _ e) (Nat.le_refl _) (tItO_ok ⟨_, Heap.get?_push_size _ rfl, rfl, rfl⟩), rfl, q _ (I.hok.fresh (Nat.le_refl _)) I.sz⟩

/-- f, called with an instance of C whose field fld is a tuple, gives a new iterator over it -/
def ItF (P : Program) (w : World) (K : PySem.W.Frag) (mg : Str → Option Value) (base : Heap) (k : Nat) (f C : Addr) (fld : Str) : Prop :=
  ∀ (A : Around) (outer : List Env) (s : Shared) (H : Hp) (a dx t : Addr) (fs : List (Str × V)) (zs : List V) (Q : VK) (E : XK), Room k A → A.guards = some [] → Env0 P w K mg base A outer s H → H a = some (.ins C dx fs) → fs.lookup fld = some (.ref t) → SqT K H t zs →
    (∀ it, H it = Option.none → s.heap.objs.size ≤ it → Q (.ref it) (upd H it (TItO t it 0))) → codeAny (model P w) A (.call (.ref f) ⟨[.ref a], []⟩) (CR (L2.CX P w) outer P w H s Q E) s
section
variable {P : Program} {w : World} {K : PySem.W.Frag} {mg : Str → Option Value} {base : Heap} {x qual : Str} {params : Arguments} {scope : Scope} {f C : Addr} {fd : FuncData} {fld : Str} {p1 p2 p3 p4 p5 : Pos} {doc : List Stmt} {N : List Str}
theorem itf_of (G : FunD K x qual params [.Return (some (.Call (.Name "iter" p1) [.Attribute (.Name "self" p2) fld p3] [] p4)) p5] scope [] [] f fd) (S : FnScope ["self"] ["self"] scope) (hb : Binds K fd ["self"] [])
    (cl : Cls K C) (na : NoAttr K C fld) (hm : mg "iter" = Option.none)
    (hgl : ∀ (cdv : Value) (A : Around) (outer : List Env) (s : Shared) (H : Hp) (E : XK), Gl (cxOf (L2.CX P w) P w K mg base ["self"] qual scope f cdv A outer s H E) "iter") :
    ItF P w K mg base 1 f C fld := by
  obtain ⟨oc, od, dV, kV, doc, pm, an, cdv, ct, osl, rfl, lk, hcd, _, _⟩ := G.ex
  intro A outer s H a dx t fs zs Q E hr hgd e0 ha hl hq hQ
  have inK : K.In s.heap := e0.mod.kin.keeps fun b o e => (e0.bs b o e).1
  have nolim : s.heap.NoLimit := e0.mod.nolimit.keeps fun b o e => (e0.bs b o e).1
  have kinds : ∀ y ∈ (["self"] : List Str).zip [Value.ref a], scope.names.lookup y.1 = some .local ∨ (scope.names.lookup y.1 = some .cell ∧ ((cellsFrom (s.heap.objs.size + 1) scope.names []).lookup y.1).isSome = true) := fun y hy => by
    rcases S.par y.1 (List.of_mem_zip (a := y.1) (b := y.2) hy).1 with q | q
    · exact .inl q
    · exact .inr ⟨q, PySem.W.cellsFrom_some _ _ _ (.inl q)⟩
  have hbi := hb s [.ref a] inK rfl
  refine codeAny_call_function hr.depth (inK _ _ lk) rfl S.co S.gen rfl (PySem.W.codeRec_of inK hcd) (hbi _ _ _ _ ?_)
  refine wpAny_newFunctionEnv_cells S.kind kinds fun env he s1 xc => ?_
  subst he
  refine ⟨nolim.keeps xc.toInCall.keep, codeAny_func ?_⟩
  have I : Inv (cxOf (L2.CX P w) P w K mg base ["self"] qual scope f cdv A outer s H E) [] (L2.start ["self"] [.ref a]) H s1 := inv_start S hr.hd e0 rfl (.cons rfl .nil) xc
  have hv : L2.Vis scope "self" := by
    rcases S.par "self" List.mem_cons_self with q | q
    · exact .inl q
    · exact .inr (.inl q)
  have hp : PE (cxOf (L2.CX P w) P w K mg base ["self"] qual scope f cdv A outer s H E) (.Call (.Name "iter" p1) [.Attribute (.Name "self" p2) fld p3] [] p4) _ :=
    pe_callB (x := "iter") (id := "iter") call_iterTp (hgl cdv A outer s H E) hm rfl (pa_cons (pe_fld (pe_var (i := 0) (x := "self") rfl hv) rfl) pa_nil)
  have ht := (pss_one (ps_ret (pos := p5) hp)).run [] s1 (L2.start ["self"] [.ref a]) H { nx := fun _ H' => Q .non H', rt := Q } I ?_
  · refine wpAny_mono ht (fun fl s' hs => ?_) fun e s' hs => hs
    cases fl with
    | next =>
      obtain ⟨σ', H', J, q⟩ := hs
      exact ⟨.non, H', J.os, J.bare, J.base, J.hok, rfl, q⟩
    | ret u =>
      obtain ⟨v, σ', H', J, rv, q⟩ := hs
      exact ⟨v, H', J.os, J.bare, J.base, J.hok, rv, q⟩
    | brk => obtain ⟨_, _, _, q⟩ := hs; exact False.elim q
    | cont => obtain ⟨_, _, _, q⟩ := hs; exact False.elim q
  · refine ⟨.ref a, rfl, a, C, dx, fs, .ref t, rfl, ha, cl, na, hl, t, zs, rfl, hq, fun it hi hn => hQ it hi hn⟩
end

/-! ### what is walked: an instance whose __iter__ gives iter(self.fld) -/
/-- the class c's __iter__ -/
structure ItM (T : Tb) (P : Program) (w : World) (K : PySem.W.Frag) (mg : Str → Option Value) (base : Heap) (k c : Nat) (fld : Nat) : Prop where
  ex : ∃ f : Addr, PySem.W.findIn K (.ref (T.ca K c)) "__iter__" = some (some (.ref f)) ∧ PySem.W.isFn K (.ref f) = true ∧ ItF P w K mg base k f (T.ca K c) (T.fd fld)
/-- the iterator stands -/
theorem own_iter {X : Cx} {E : XS} {k j : Nat} {pins : List (Addr × Obj)} {σ : L2.St} {H : Hp} {s : Shared} {f C a dx t : Addr} {fld : Str} {fs : List (Str × V)} {zs : List V} {Q : Value → Shared → Prop} (cg : Cg X E k) (hj : j ≤ k)
    (hi : PySem.W.findIn X.K (.ref C) "__iter__" = some (some (.ref f))) (hf : PySem.W.isFn X.K (.ref f) = true) (G : ItF X.prog X.w X.K X.mg X.base j f C fld) (I : Inv X pins σ H s) (ha : H a = some (.ins C dx fs)) (hl : fs.lookup fld = some (.ref t)) (hq : SqT X.K H t zs)
    (h : ∀ it s', H it = Option.none → s.heap.objs.size ≤ it → Inv X pins σ (upd H it (TItO t it 0)) s' → Q (.ref it) s') : wpAny (model X.prog X.w) X.A (pyIter (.ref a)) Q X.xe s := by
  obtain ⟨ox, od, J⟩ := inst_of I ha
  obtain ⟨m, hF⟩ := I.fr
  refine PySem.W.owit_iter hF I.ok.mod.kin J hi hf ?_
  refine wpAny_call (codeAny_mono (G X.A X.stack s H a dx t fs zs (fun v H' => ∃ it, v = .ref it ∧ H it = Option.none ∧ s.heap.objs.size ≤ it ∧ H' = upd H it (TItO t it 0)) (E σ) (cg.room.mono hj) cg.gd I.env0 ha hl hq fun it h1 h2 => ⟨it, rfl, h1, h2, rfl⟩) fun z s' hq => ?_)
  cases z with
  | error e => exact cg.pass pins σ H s e s' I hq
  | ok fl =>
    cases fl with
    | ret u =>
      obtain ⟨v, H1, I1, r1, it, ev, h1, h2, eH⟩ := I.after hq
      subst ev eH
      cases r1
      unfold PySem.W.OwitIt
      have st : s'.heap.IsTupleIter it t 0 := (I1.hok it _ upd_same).1
      exact wpAny_specialOf st.typeIs PySem.F.slot_tuple_iterator_next.lookup (h it s' h1 h2 I1)
    | next => exact False.elim hq
    | brk => exact False.elim hq
    | cont => exact False.elim hq

/-- for tg in e, e an instance of the class c -/
def iOwn (X : Cx) (C : Addr) (fld : Str) (te : TE) : TI := fun σ H R => te σ H fun x H1 => ∃ a dx t fs zs, x = .ref a ∧ H1 a = some (.ins C dx fs) ∧ fs.lookup fld = some (.ref t) ∧ SqT X.K H1 t zs ∧ R (Itt X.K t) H1
theorem pi_own {X : Cx} {E : XS} {k j : Nat} {tg e : Expr} {te : TE} {f C : Addr} {fld : Str} (cg : Cg X E k) (hj : j ≤ k)
    (hi : PySem.W.findIn X.K (.ref C) "__iter__" = some (some (.ref f))) (hf : PySem.W.isFn X.K (.ref f) = true) (G : ItF X.prog X.w X.K X.mg X.base j f C fld) (he : PE X e te) : PI X tg e (iOwn X C fld te) := by
  refine ⟨fun pins s σ H R I h => ?_⟩
  refine thn (he.run pins s σ H _ I h) fun v s1 ⟨x, H1, I1, r1, a, dx, t, fs, zs, ex, ha, hl, hq, q⟩ => ?_
  subst ex
  cases r1
  refine own_iter cg hj hi hf G I1 ha hl hq fun it s2 h1 h2 I2 => ?_
  have st : s2.heap.IsTupleIter it t 0 := (I2.hok it _ upd_same).1
  have hd := ItX.inv_drop I2 (φ := fun h => h.IsTupleIter it t 0) upd_same
  have hfp := ItX.inv_fp I2 (u := TItO t it 0) upd_same (Nat.le_trans I1.sz h2)
  rw [ItX.dropH_upd h1] at hd hfp
  refine ⟨it, [it], _, _, H1, rfl, hd, turn_tuple t it, st, fun b hb => ?_, q⟩
  have e : b = it := by simpa using hb
  rw [e]; exact hfp

/-! ### .. as a denotation -/
def tupOf (x : PV) (S : Sto) : Out ItZ := match view x S with
  | some (.tup, xs) => .ok ⟨xs, holdOf x (.tup, xs)⟩ S
  | _ => .bad
/-- the items of an instance of the class c: those of its field -/
def ownIt (T : Tb) (c fld : Nat) (x : PV) (S : Sto) : Out ItZ := if isIns c x S = true then (match view x S with
  | some (.ins _ fs, xs) => if T.okf c fld = true ∧ fs.all (T.okf c) = true then (match fLook fs xs fld with
    | some y => tupOf y S
    | none => .bad) else .bad
  | _ => .bad) else .bad
def dItOwn (T : Tb) (c fld : Nat) (d : DE) : DI := fun l S => (d l S).bind fun x S1 => ownIt T c fld x S1
theorem ownIt_rel {T : Tb} {K : PySem.W.Frag} {R : Pl} {F H : Hp} {S : Sto} {c fld : Nat} {E : XK} {Q : It → Hp → Prop} (O : TbOk T K) (r : Rep T K R F S H) {x : PV} {u : V} (rx : Rel T K R F x u) (h : OkI T K R F (ownIt T c fld x S) Q E) :
    ∃ a dx t fs zs, u = .ref a ∧ H a = some (.ins (T.ca K c) dx fs) ∧ fs.lookup (T.fd fld) = some (.ref t) ∧ SqT K H t zs ∧ Q (Itt K t) H := by
  unfold ownIt at h
  split at h
  · rename_i hi
    obtain ⟨a, dx, fs, rfl, ha⟩ := isIns_rel r rx hi
    split at h
    · rename_i c' gs xs hv
      split at h
      · rename_i hc
        have ec : c = c' := by
          unfold isIns at hi
          rw [hv] at hi
          exact (beq_iff_eq.mp hi).symm
        subst ec
        obtain ⟨a', us, ea, hs, hl⟩ := view_rel r rx hv
        cases ea
        obtain ⟨hlen, dx', ha'⟩ := hs
        rw [ha] at ha'
        cases ha'
        obtain ⟨hf, _, _⟩ := O.ok c fld hc.1
        split at h
        · rename_i y hy
          obtain ⟨w, h1, h2⟩ := fLook_rel O hf (all_lt O hc.2) hl hy
          unfold tupOf at h
          split at h
          · rename_i ys hvy
            obtain ⟨t, zs, ew, hs2, hl2⟩ := view_rel r h2 hvy
            subst ew
            refine ⟨a, _, t, _, zs, rfl, ha, h1, (shp_rd hs2).2 rfl, h R F H _ (Pl.refl R) (Ex.refl F) r (walkz_of r h2 hvy fun b ws eb => ?_)⟩
            cases eb
            exact walk_tup.mono (fun H q => (shp_rd q).2 rfl) fun _ _ _ _ _ _ y => y
          · exact h.elim
        · exact h.elim
      · exact h.elim
    · exact h.elim
  · exact h.elim
theorem ji_own {T : Tb} {X : Cx} {E : XS} {k j c fld : Nat} {tg e : Expr} {d : DE} (O : TbOk T X.K) (cg : Cg X E k) (F : ItM T X.prog X.w X.K X.mg X.base j c fld) (he : JE T X E e d) (hj : j ≤ k := by decide) : JI T X E tg e (dItOwn T c fld d) := by
  obtain ⟨f, hi, hf, G⟩ := F.ex
  refine pi_imp (pi_own cg hj hi hf G he) fun σ H Q ⟨R, Fz, l, S, r, e', h⟩ => ⟨R, Fz, l, S, r, e', ?_⟩
  cases hd : d l S with
  | bad => unfold dItOwn at h; rw [hd] at h; exact h.elim
  | err x S1 => unfold dItOwn at h; rw [hd] at h; exact h
  | ok x S1 =>
    unfold dItOwn at h
    rw [hd] at h
    have h : OkI T X.K R Fz (ownIt T c fld x S1) Q (E σ) := h
    intro R1 F1 H1 u p ex r1 rx
    have h1 : OkI T X.K R1 F1 (ownIt T c fld x S1) Q (E σ) := by
      cases ho : ownIt T c fld x S1 with
      | bad => rw [ho] at h; exact h.elim
      | err x' S' => rw [ho] at h; exact PostX.mono p ex h
      | ok it S' => rw [ho] at h; exact fun R2 F2 H2 J p2 ex2 r2 => h R2 F2 H2 J (p.trans p2) (ex.trans ex2) r2
    exact ownIt_rel O r1 rx h1

/-! ### list(o) -/
theorem sqT_upd {K : PySem.W.Frag} {H : Hp} {q t : Addr} {o : HO} {zs : List V} (h : SqT K H t zs) (n : q ≠ t) : SqT K (upd H q o) t zs := by
  have e : upd H q o t = H t := upd_ne (Ne.symm n)
  unfold SqT Rd at *
  rw [e]
  exact h
section
variable {X : Cx} {pins : List (Addr × Obj)} {σ : L2.St} {A1 : Around} {q it t : Addr}
theorem tup_loop {Rs : Result → Shared → Prop} {zs : List V} {H0 : Hp} (hh : A1.in1.handled = Option.none) (hqt : q ≠ t) (hqi : q ≠ it) (hz : zs.length ≤ sizeLine) (hE : ∀ (s : Shared), Inv X pins σ (upd H0 q (.lst zs)) s → Rs (.ok (.ret .none)) s) :
    ∀ (k i : Nat) (H : Hp) (s : Shared), zs.length - i = k → i ≤ zs.length → Inv X pins σ H s → FpOk X pins H it → s.heap.IsTupleIter it t i → SqT X.K H t zs → H = upd H0 q (.lst (zs.take i)) →
      codeAny (model X.prog X.w) A1 (.builtin "list.extend.loop" ⟨[.ref q, .ref it, .none], []⟩) Rs s := by
  intro k
  induction k with
  | zero =>
    intro i H s hk hi I hf st hq hH
    have hl : H q = some (.lst (zs.take i)) := by rw [hH, upd_same]
    refine codeAny_builtin PySem.F.entry_extend_loop ?_
    rw [Around.under_plainId PySem.F.plain_extend_loop _]
    show wpAny _ A1.in1 (pyNext (.ref it) >>= _) _ _ s
    obtain ⟨its, rv, p, hz⟩ := I.tuple hq
    obtain ⟨f0, f1, f2, f3, f4, f5⟩ := hf
    have hl2 := rv.length
    refine wpAny_bind (wpAny_pyNext_tuple_end hh st (show s.heap.IsTuple t its.toArray from p) (by simp; omega) fun h' eb => ?_)
    have I1 : Inv X pins σ H { s with heap := h' } := I.turned (t' := s.toks) (fun b o hb e => eb b o hb e) f0 f1 f3 f4 f5
    rw [hH, List.take_of_length_le (by omega)] at I1
    exact wpAny_pure (hE _ I1)
  | succ k ih =>
    intro i H s hk hi I hf st hq hH
    have hl : H q = some (.lst (zs.take i)) := by rw [hH, upd_same]
    refine codeAny_builtin PySem.F.entry_extend_loop ?_
    rw [Around.under_plainId PySem.F.plain_extend_loop _]
    show wpAny _ A1.in1 (pyNext (.ref it) >>= _) _ _ s
    obtain ⟨its, rv, p, hz⟩ := I.tuple hq
    obtain ⟨f0, f1, f2, f3, f4, f5⟩ := id hf
    have hlt : i < zs.length := by omega
    obtain ⟨u, hu, ru⟩ := rv.get (List.getElem?_eq_getElem hlt)
    refine wpAny_bind (wpAny_pyNext_tuple_item st (show s.heap.IsTuple t its.toArray from p) (x := u) (by simpa using hu) fun h' st' sb => ?_)
    have I1 : Inv X pins σ H { s with heap := h' } := I.turned (t' := s.toks) (fun b o hb e => (sb.2 b hb).trans e) f0 f1 f3 f4 f5
    show wpAny _ A1.in1 (updateSeq q (·.push u) >>= _) _ _ _
    obtain ⟨z, its2, k2, r2, hl2, e⟩ := I1.lstM hl
    have hlen : its2.length = i := by rw [← r2.length, List.length_take]; omega
    refine wpAny_bind (wpAny_updateSeq e rfl (wpAny_pure ⟨plainId_quiet PySem.F.plain_extend_loop _, ?_⟩) (by rw [List.size_toArray]; omega) (by show (its2.toArray.push u).size ≤ sizeLine + 1; rw [Array.size_push, List.size_toArray]; omega))
    have I2 := I1.lset (f := (·.push u)) (its' := its2 ++ [u]) (ys := zs.take i ++ [zs[i]]) (t' := s.toks) hl e (by simp) (r2.append (.cons ru .nil)) (by rw [List.length_append, List.length_singleton]; omega)
    have e3 : zs.take i ++ [zs[i]] = zs.take (i + 1) := by rw [List.take_succ, List.getElem?_eq_getElem hlt]; rfl
    rw [e3] at I2
    refine ih (i + 1) _ _ (by omega) hlt I2 ⟨by rw [upd_ne hqi.symm]; exact f0, f1, f2, f3, f4, f5⟩ (st'.at fun o ho => (Heap.get?_update_other _ _ hqi).trans ho) ?_ (by rw [hH, upd_upd])
    exact sqT_upd hq hqt
end

/-- f, called with an instance of C whose field fld is a tuple, gives its length -/
def LenF (P : Program) (w : World) (K : PySem.W.Frag) (mg : Str → Option Value) (base : Heap) (k : Nat) (f C : Addr) (fld : Str) : Prop :=
  ∀ (A : Around) (outer : List Env) (s : Shared) (H : Hp) (a dx t : Addr) (fs : List (Str × V)) (zs : List V) (Q : VK) (E : XK), Room k A → A.guards = some [] → Env0 P w K mg base A outer s H → H a = some (.ins C dx fs) → fs.lookup fld = some (.ref t) → SqT K H t zs →
    Q (.int zs.length) H → codeAny (model P w) A (.call (.ref f) ⟨[.ref a], []⟩) (CR (L2.CX P w) outer P w H s Q E) s
section
variable {P : Program} {w : World} {K : PySem.W.Frag} {mg : Str → Option Value} {base : Heap} {x qual : Str} {params : Arguments} {scope : Scope} {f C : Addr} {fd : FuncData} {fld : Str} {p1 p2 p3 p4 p5 : Pos} {doc : List Stmt} {N : List Str}
theorem lenf_of (G : FunD K x qual params [.Return (some (.Call (.Name "len" p1) [.Attribute (.Name "self" p2) fld p3] [] p4)) p5] scope [] [] f fd) (S : FnScope ["self"] ["self"] scope) (hb : Binds K fd ["self"] [])
    (cl : Cls K C) (na : NoAttr K C fld) (hm : mg "len" = Option.none)
    (hgl : ∀ (cdv : Value) (A : Around) (outer : List Env) (s : Shared) (H : Hp) (E : XK), Gl (cxOf (L2.CX P w) P w K mg base ["self"] qual scope f cdv A outer s H E) "len") :
    LenF P w K mg base 1 f C fld := by
  obtain ⟨oc, od, dV, kV, doc, pm, an, cdv, ct, osl, rfl, lk, hcd, _, _⟩ := G.ex
  intro A outer s H a dx t fs zs Q E hr hgd e0 ha hl hq hQ
  have inK : K.In s.heap := e0.mod.kin.keeps fun b o e => (e0.bs b o e).1
  have nolim : s.heap.NoLimit := e0.mod.nolimit.keeps fun b o e => (e0.bs b o e).1
  have kinds : ∀ y ∈ (["self"] : List Str).zip [Value.ref a], scope.names.lookup y.1 = some .local ∨ (scope.names.lookup y.1 = some .cell ∧ ((cellsFrom (s.heap.objs.size + 1) scope.names []).lookup y.1).isSome = true) := fun y hy => by
    rcases S.par y.1 (List.of_mem_zip (a := y.1) (b := y.2) hy).1 with q | q
    · exact .inl q
    · exact .inr ⟨q, PySem.W.cellsFrom_some _ _ _ (.inl q)⟩
  have hbi := hb s [.ref a] inK rfl
  refine codeAny_call_function hr.depth (inK _ _ lk) rfl S.co S.gen rfl (PySem.W.codeRec_of inK hcd) (hbi _ _ _ _ ?_)
  refine wpAny_newFunctionEnv_cells S.kind kinds fun env he s1 xc => ?_
  subst he
  refine ⟨nolim.keeps xc.toInCall.keep, codeAny_func ?_⟩
  have I : Inv (cxOf (L2.CX P w) P w K mg base ["self"] qual scope f cdv A outer s H E) [] (L2.start ["self"] [.ref a]) H s1 := inv_start S hr.hd e0 rfl (.cons rfl .nil) xc
  have hv : L2.Vis scope "self" := by
    rcases S.par "self" List.mem_cons_self with q | q
    · exact .inl q
    · exact .inr (.inl q)
  have hp : PE (cxOf (L2.CX P w) P w K mg base ["self"] qual scope f cdv A outer s H E) (.Call (.Name "len" p1) [.Attribute (.Name "self" p2) fld p3] [] p4) _ :=
    pe_callB (x := "len") (id := "len") call_len_seq (hgl cdv A outer s H E) hm rfl (pa_cons (pe_fld (pe_var (i := 0) (x := "self") rfl hv) rfl) pa_nil)
  have ht := (pss_one (ps_ret (pos := p5) hp)).run [] s1 (L2.start ["self"] [.ref a]) H { nx := fun _ H' => Q .non H', rt := Q } I ?_
  · refine wpAny_mono ht (fun fl s' hs => ?_) fun e s' hs => hs
    cases fl with
    | next =>
      obtain ⟨σ', H', J, q⟩ := hs
      exact ⟨.non, H', J.os, J.bare, J.base, J.hok, rfl, q⟩
    | ret u =>
      obtain ⟨v, σ', H', J, rv, q⟩ := hs
      exact ⟨v, H', J.os, J.bare, J.base, J.hok, rv, q⟩
    | brk => obtain ⟨_, _, _, q⟩ := hs; exact False.elim q
    | cont => obtain ⟨_, _, _, q⟩ := hs; exact False.elim q
  · exact ⟨.ref a, rfl, a, C, dx, fs, .ref t, rfl, ha, cl, na, hl, t, zs, rfl, .inr hq, hQ⟩
end
/-- .. and the class c's __len__ -/
structure LnM (T : Tb) (P : Program) (w : World) (K : PySem.W.Frag) (mg : Str → Option Value) (base : Heap) (k c : Nat) (fld : Nat) : Prop where
  ex : ∃ f : Addr, PySem.W.findIn K (.ref (T.ca K c)) "__len__" = some (some (.ref f)) ∧ PySem.W.isFn K (.ref f) = true ∧ LenF P w K mg base k f (T.ca K c) (T.fd fld)
section
variable {X : Cx} {pins : List (Addr × Obj)} {σ : L2.St} {A1 : Around} {H : Hp} {s : Shared}
/-- a call that lets no error out -/
theorem no_err {v : Value} {s' : Shared} (q : L2.CX X.prog X.w X.stack H s (fun _ _ _ => False) v s') : False := by
  obtain ⟨a, B, H', cls, d, rfl, fl, hok, ub, na, os, ag, hE⟩ := q
  exact hE
theorem env1 {n : Nat} (sb : Sub X n A1) (I : Inv X pins σ H s) : Env0 X.prog X.w X.K X.mg X.base A1 X.stack s H := by
  have e := I.env0
  exact ⟨by rw [sb.fr]; exact e.frames, e.mod, e.bs, e.bsz, e.funs, e.frf, e.hok, e.bare⟩
theorem own_iter1 {k : Nat} {f C a dx t : Addr} {fld : Str} {fs : List (Str × V)} {zs : List V} {Q : Value → Shared → Prop} {E : Value → Shared → Prop} (sb : Sub X k A1.in1) (hg : A1.in1.guards = some [])
    (hi : PySem.W.findIn X.K (.ref C) "__iter__" = some (some (.ref f))) (hf : PySem.W.isFn X.K (.ref f) = true) (G : ItF X.prog X.w X.K X.mg X.base k f C fld) (I : Inv X pins σ H s) (ha : H a = some (.ins C dx fs)) (hl : fs.lookup fld = some (.ref t)) (hq : SqT X.K H t zs)
    (h : ∀ it s', H it = Option.none → s.heap.objs.size ≤ it → Inv X pins σ (upd H it (TItO t it 0)) s' → Q (.ref it) s') : wpAny (model X.prog X.w) A1.in1 (pyIter (.ref a)) Q E s := by
  obtain ⟨ox, od, J⟩ := inst_of I ha
  obtain ⟨m, hF⟩ := I.fr
  refine PySem.W.owit_iter hF I.ok.mod.kin J hi hf ?_
  refine wpAny_call (codeAny_mono (G A1.in1 X.stack s H a dx t fs zs (fun v H' => ∃ it, v = .ref it ∧ H it = Option.none ∧ s.heap.objs.size ≤ it ∧ H' = upd H it (TItO t it 0)) (fun _ _ _ => False) sb.room hg (env1 sb I) ha hl hq fun it h1 h2 => ⟨it, rfl, h1, h2, rfl⟩) fun z s' hq => ?_)
  cases z with
  | error e => exact (no_err hq).elim
  | ok fl =>
    cases fl with
    | ret u =>
      obtain ⟨v, H1, I1, r1, it, ev, h1, h2, eH⟩ := I.after hq
      subst ev eH
      cases r1
      unfold PySem.W.OwitIt
      have st : s'.heap.IsTupleIter it t 0 := (I1.hok it _ upd_same).1
      exact wpAny_specialOf st.typeIs PySem.F.slot_tuple_iterator_next.lookup (h it s' h1 h2 I1)
    | next => exact False.elim hq
    | brk => exact False.elim hq
    | cont => exact False.elim hq
theorem own_hint1 {k : Nat} {f C a dx t : Addr} {fld : Str} {fs : List (Str × V)} {zs : List V} {Q : Bool → Shared → Prop} {E : Value → Shared → Prop} (sb : Sub X k A1.in1) (hg : A1.in1.guards = some [])
    (hi : PySem.W.findIn X.K (.ref C) "__len__" = some (some (.ref f))) (hf : PySem.W.isFn X.K (.ref f) = true) (G : LenF X.prog X.w X.K X.mg X.base k f C fld) (I : Inv X pins σ H s) (ha : H a = some (.ins C dx fs)) (hl : fs.lookup fld = some (.ref t)) (hq : SqT X.K H t zs) (hz : zs.length ≤ 16777216)
    (h : ∀ b s', Inv X pins σ H s' → Q b s') : wpAny (model X.prog X.w) A1 (Builtin.List.listLengthHint (.ref a)) Q E s := by
  obtain ⟨ox, od, J⟩ := inst_of I ha
  obtain ⟨m, hF⟩ := I.fr
  unfold Builtin.List.listLengthHint
  refine wpAny_bind (wpAny_bind (J.type.here ((PySem.W.looks_findIn I.kIn hi).here ?_)))
  refine PySem.W.KFB.if_not rfl ?_
  show wpAny _ _ (rule "list.length-hint.len" >>= _) _ _ _
  refine wpAny_bind (wpAny_rule ?_)
  refine wpAny_bind (wpAny_attempt ?_)
  refine PySem.W.len_K hF I.ok.mod.kin J hi hf ?_
  refine wpAny_call (codeAny_mono (G A1.in1 X.stack s H a dx t fs zs (fun v H' => v = .int zs.length ∧ H' = H) (fun _ _ _ => False) sb.room hg (env1 sb I) ha hl hq ⟨rfl, rfl⟩) fun z s' hq => ?_)
  cases z with
  | error e => exact (no_err hq).elim
  | ok fl =>
    cases fl with
    | ret u =>
      obtain ⟨v, H1, I1, r1, ev, eH⟩ := I.after hq
      subst ev eH
      obtain ⟨t1, rfl⟩ := r1
      refine ⟨⟨by omega, by omega⟩, ?_⟩
      refine wpAny_bind (wpAny_of_eq (a := some (zs.length : Int)) (by rfl) ?_)
      show wpAny _ _ (if Builtin.List.listTooLong (zs.length : Int).toNat = true then _ else _) _ _ _
      have hs : sizeLine = 16777216 := sizeLine_eq
      have e : Builtin.List.listTooLong (zs.length : Int).toNat = false := by
        unfold Builtin.List.listTooLong
        first
          | (simp; omega)
          | (rw [decide_eq_false]; omega)
      rw [e]
      exact wpAny_pure (h _ _ (I1.tok _))
    | next => exact False.elim hq
    | brk => exact False.elim hq
    | cont => exact False.elim hq
end

section
variable {X : Cx} {pins : List (Addr × Obj)} {σ : L2.St} {A1 : Around} {H : Hp} {s : Shared}
theorem own_ext1 {k : Nat} {fi fl C a dx t q : Addr} {fld : Str} {fs : List (Str × V)} {zs : List V} {Rs : Result → Shared → Prop} (sb : Sub X (k + 1) A1.in1) (hg : A1.guards = some []) (hh : A1.in1.handled = Option.none)
    (hi : PySem.W.findIn X.K (.ref C) "__iter__" = some (some (.ref fi))) (hif : PySem.W.isFn X.K (.ref fi) = true) (GI : ItF X.prog X.w X.K X.mg X.base k fi C fld)
    (hn : PySem.W.findIn X.K (.ref C) "__len__" = some (some (.ref fl))) (hnf : PySem.W.isFn X.K (.ref fl) = true) (GL : LenF X.prog X.w X.K X.mg X.base k fl C fld)
    (I : Inv X pins σ H s) (ha : H a = some (.ins C dx fs)) (hl : fs.lookup fld = some (.ref t)) (ht : SqT X.K H t zs) (hz : zs.length ≤ sizeLine) (hq : H q = some (.lst [])) (hqt : q ≠ t) (hE : ∀ s, Inv X pins σ (upd H q (.lst zs)) s → Rs (.ok (.ret .none)) s) :
    wpAny (model X.prog X.w) A1.in1 (Builtin.List.listExtendWith (.ref q) (.ref a) .none)
      (fun fin s' => match fin with | .done f => Rs (.ok f) s' | .again c' => c'.quiet = true ∧ codeAny (model X.prog X.w) A1 c' Rs s') (fun e s' => Rs (.error e) s') s := by
  have hsz : sizeLine = 16777216 := sizeLine_eq
  have hne : q ≠ a := ne_of hq ha (fun z => nomatch z)
  obtain ⟨mA, J, _⟩ := ins_get I.hok ha
  obtain ⟨od, J, _⟩ := J.look
  unfold Builtin.List.listExtendWith
  refine wpAny_bind (J.type.here ?_)
  have h1 : Builtin.List.listSameRef (.ref q) (.ref a) = false := by simp [Builtin.List.listSameRef, hne]
  have h2 : (Value.ref C == Value.type "list") = false := rfl
  have h3 : (Value.ref C == Value.type "tuple") = false := rfl
  simp only [h1, h2, h3, Bool.or_false, Bool.false_eq_true, if_false]
  refine wpAny_bind (own_iter1 (A1 := A1) (k := k) (sb.mono (Nat.le_succ k)) hg hi hif GI I ha hl ht fun it s2 hit hle I2 => ?_)
  have hqi : q ≠ it := fun z => by rw [z, hit] at hq; cases hq
  have hai : a ≠ it := fun z => by rw [z, hit] at ha; cases ha
  have st : s2.heap.IsTupleIter it t 0 := (I2.hok it _ upd_same).1
  have hd := ItX.inv_drop I2 (φ := fun h => h.IsTupleIter it t 0) upd_same
  have hfp := ItX.inv_fp I2 (u := TItO t it 0) upd_same (Nat.le_trans I.sz hle)
  rw [ItX.dropH_upd hit] at hd hfp
  have ha2 : upd H it (TItO t it 0) a = some (.ins C dx fs) := by rw [upd_ne hai]; exact ha
  have hti : it ≠ t := fun z => by
    obtain ⟨its, rv, pl, _⟩ := I.tuple ht
    obtain ⟨o, ho, _⟩ := pl
    have := Heap.lt_size ho
    exact absurd this (Nat.not_lt.mpr (by rw [← z]; exact hle))
  have ht2 : SqT X.K (upd H it (TItO t it 0)) t zs := sqT_upd ht hti
  refine wpAny_bind (wpAny_holding (own_hint1 (A1 := A1.in1) (k := k) sb.in1 hg hn hnf GL I2 ha2 hl ht2 (by omega) fun b s3 I3 => ?_))
  have st3 : s3.heap.IsTupleIter it t 0 := (I3.hok it _ upd_same).1
  have hd3 := ItX.inv_drop I3 (φ := fun h => h.IsTupleIter it t 0) upd_same
  have hfp3 := ItX.inv_fp I3 (u := TItO t it 0) upd_same (Nat.le_trans I.sz hle)
  rw [ItX.dropH_upd hit] at hd3 hfp3
  have fin : ∀ s4, Inv X pins σ H s4 → s4.heap.IsTupleIter it t 0 → FpOk X pins H it → codeAny (model X.prog X.w) A1 (.builtin "list.extend.loop" ⟨[.ref q, .ref it, .none], []⟩) Rs s4 := fun s4 I4 st4 fp4 =>
    tup_loop (zs := zs) (H0 := H) hh hqt hqi hz hE zs.length 0 H s4 (by omega) (Nat.zero_le _) I4 fp4 st4 ht (by
      rw [List.take_zero]
      funext b
      by_cases hb : b = q
      · rw [hb, upd_same, hq]
      · rw [upd_ne hb])
  obtain ⟨z, its, kk, r3, hl3, e3⟩ := hd3.lstM hq
  cases r3
  refine wpAny_ite_split (fun _ => ?_) (fun _ => wpAny_pure ⟨plainId_quiet PySem.F.plain_extend_loop _, fin s3 hd3 st3 hfp3⟩)
  refine wpAny_bind (wpAny_rule ?_)
  refine wpAny_bind ?_
  show wpAny _ _ (updateSeq q (·.push .none) >>= fun _ => updateSeq q (·.pop)) _ _ _
  refine wpAny_bind (wpAny_updateSeq e3 rfl ?_)
  have I5 := hd3.lset (f := (·.push Value.none)) (its' := [Value.none]) (ys := [.non]) (t' := s3.toks) hq e3 (by simp) (.cons rfl .nil) (by rw [List.length_singleton, sizeLine_eq]; decide)
  obtain ⟨z4, its4, k4, r4, hl4, e4⟩ := I5.lstM upd_same
  obtain ⟨u4, rfl, ru4⟩ := r4.one
  refine wpAny_updateSeq e4 rfl ?_ (by show 1 ≤ sizeLine; rw [sizeLine_eq]; decide) (by show 0 ≤ sizeLine + 1; exact Nat.zero_le _)
  have I6 := I5.lset (f := (·.pop)) (its := [u4]) (its' := []) (ys := []) (t' := s3.toks) upd_same e4 (by rfl) .nil (Nat.zero_le _)
  rw [upd_upd] at I6
  have hH : upd H q (.lst []) = H := by
    funext b
    by_cases hb : b = q
    · rw [hb, upd_same, hq]
    · rw [upd_ne hb]
  rw [hH] at I6
  exact wpAny_pure ⟨plainId_quiet PySem.F.plain_extend_loop _, fin _ I6 ((st3.at fun o ho => (Heap.get?_update_other _ _ hqi).trans ho).at fun o ho => (Heap.get?_update_other _ _ hqi).trans ho) hfp3⟩
end

/-- list(o) -/
def rListO (T : Tb) (K : PySem.W.Frag) (c fld : Nat) : List V → Hp → VK → Prop := fun xs H Q => ∃ a dx t fs zs, xs = [.ref a] ∧ H a = some (.ins (T.ca K c) dx fs) ∧ fs.lookup (T.fd fld) = some (.ref t) ∧ SqT K H t zs ∧ zs.length ≤ sizeLine ∧
  ∀ q, H q = none → Q (.ref q) (upd H q (.lst zs))
section
variable {T : Tb} {X : Cx} {E : XS} {c fld j k : Nat}
theorem call_listO (cg : Cg X E k) (FI : ItM T X.prog X.w X.K X.mg X.base j c fld) (FL : LnM T X.prog X.w X.K X.mg X.base j c fld) (hj : j + 3 ≤ k := by decide) : CallR X (.type "list") (rListO T X.K c fld) := by
  obtain ⟨fi, hi, hif, GI⟩ := FI.ex
  obtain ⟨fl, hn, hnf, GL⟩ := FL.ex
  intro pins s σ H xs us Q I rv h
  obtain ⟨a, dx, t, fs, zs, rfl, ha, hl, ht, hz, hq⟩ := h
  obtain ⟨u, rfl, ru⟩ := rv.one
  cases ru
  have sb : Sub X (j + 1) X.A.in1.in1 := (Sub.in1 (Sub.in1 (⟨cg.room.mono hj, rfl⟩ : Sub X (j + 3) X.A)))
  refine callType_codes (Q₁ := fun obj s₁ => obj = .ref s.heap.objs.size ∧ s₁ = { s with heap := s.heap.push { cls := .type "list", data := .seq #[] } }) PySem.F.called_list (PySem.F.typeCall_list_1 _) PySem.F.entry_list_init
    (code_list_new _ ⟨rfl, rfl⟩) fun obj s₁ h₁ => ?_
  obtain ⟨rfl, rfl⟩ := h₁
  have hS : (s.heap.push { cls := .type "list", data := .seq #[] }).get? s.heap.objs.size = some { cls := .type "list", data := .seq #[] } := Heap.get?_push_size _ rfl
  refine ⟨⟨_, hS, rfl⟩, PySem.F.args_list_init_2 _ _, ?_⟩
  have fr : H s.heap.objs.size = none := I.hok.fresh (Nat.le_refl _)
  have hqt : s.heap.objs.size ≠ t := fun z => by
    obtain ⟨its, rv, pl, _⟩ := I.tuple ht
    obtain ⟨o, ho, _⟩ := pl
    have := Heap.lt_size ho
    exact absurd this (by rw [z]; exact Nat.lt_irrefl _)
  have I1 : Inv X pins σ (upd H s.heap.objs.size (.lst [])) { s with heap := s.heap.push { cls := .type "list", data := .seq #[] } } := I.lnew (its := []) (t' := s.toks) .nil (Nat.zero_le _)
  show wpAny _ _ (do let old ← Builtin.List.listItems (.ref s.heap.objs.size); Builtin.List.listUpdate (.ref s.heap.objs.size) (fun _ => #[]); letGo old.toList.reverse; Builtin.List.listExtendWith (.ref s.heap.objs.size) (.ref a) .none) _ _ _
  refine wpAny_bind ?_
  unfold Builtin.List.listItems
  refine wpAny_bind (wpAny_seqItems hS rfl (wpAny_pure ?_))
  show wpAny _ _ (updateSeq s.heap.objs.size (fun _ => #[]) >>= fun _ => letGo (#[] : Array Value).toList.reverse >>= fun _ => Builtin.List.listExtendWith (.ref s.heap.objs.size) (.ref a) .none) _ _ _
  refine wpAny_bind (wpAny_updateSeq hS rfl ?_)
  have I2 := I1.lset (f := fun _ => #[]) (its := []) (its' := []) (ys := []) (t' := s.toks) upd_same hS rfl .nil (Nat.zero_le _)
  rw [upd_upd] at I2
  refine wpAny_bind (wpAny_letGo ?_)
  have ha2 : upd H s.heap.objs.size (.lst []) a = some (.ins (T.ca X.K c) dx fs) := by rw [upd_ne (ne_of_none ha fr)]; exact ha
  exact own_ext1 (A1 := X.A.in1) (Rs := wants (fun r s₂ => r = .none ∧ EP X pins σ Q (.ref s.heap.objs.size) s₂) X.xe) sb cg.gd (I.ok.hd cg.calm) hi hif GI hn hnf GL I2 ha2 hl (sqT_upd ht hqt) hz upd_same hqt
    (fun s' I' => ⟨rfl, .ref s.heap.objs.size, _, by rw [upd_upd] at I'; exact I', rfl, hq _ fr⟩)
end
/-- list(o), o an instance of the class c whose __iter__ gives iter(self.fld), whose __len__ gives its length -/
def listX (T : Tb) (c fld : Nat) (mk : List PV → Sto → Out PV) (f : List PV → Sto → Out PV) (xs : List PV) (S : Sto) : Out PV := match xs with
  | [x] => if isIns c x S = true then (match ownIt T c fld x S with
    | .ok it S1 => mk it.items S1
    | _ => .bad) else f [x] S
  | xs => f xs S
theorem ownIt_shape {T : Tb} {c fld : Nat} {x : PV} {S S1 : Sto} {it : ItZ} (h : ownIt T c fld x S = .ok it S1) : S1 = S ∧ ∃ fs xs y, view x S = some (.ins c fs, xs) ∧ T.okf c fld = true ∧ fs.all (T.okf c) = true ∧ fLook fs xs fld = some y ∧ view y S = some (.tup, it.items) := by
  unfold ownIt at h
  split at h
  · rename_i hi
    split at h
    · rename_i c' fs xs hv
      have ec : c' = c := by
        unfold isIns at hi
        rw [hv] at hi
        exact beq_iff_eq.mp hi
      subst ec
      split at h
      · rename_i hc
        split at h
        · rename_i y hy
          unfold tupOf at h
          split at h
          · rename_i ys hvy
            cases h
            exact ⟨rfl, fs, xs, y, hv, hc.1, hc.2, hy, hvy⟩
          · cases h
        · cases h
      · cases h
    · cases h
  · cases h
theorem ce_listX {T : Tb} {K : PySem.W.Frag} {E : XK} {c fld : Nat} {f mk : List PV → Sto → Out PV} {r : List V → Hp → VK → Prop} (O : TbOk T K) (hf : CalE T K E f r)
    (hmk : ∀ {R : Pl} {F H : Hp} {S : Sto} {xs : List PV} {us : List V} {Q : VK}, Rep T K R F S H → RelL T K R F xs us → OkV T K R F (mk xs S) Q E → us.length ≤ sizeLine ∧ ∀ q, H q = none → Q (.ref q) (upd H q (.lst us))) :
    CalE T K E (listX T c fld mk f) (fun xs H Q => rListO T K c fld xs H Q ∨ r xs H Q) := by
  intro R F H S xs us Q re rx h
  unfold listX at h
  split at h
  · rename_i x
    split at h
    · rename_i hi
      obtain ⟨u, rfl, ru⟩ := rel1 rx
      split at h
      · rename_i it S1 ho
        obtain ⟨rfl, fs, xs, y, hv, hc1, hc2, hy, hvy⟩ := ownIt_shape ho
        obtain ⟨a, us, rfl, hs, hl⟩ := view_rel re ru hv
        obtain ⟨hlen, dx, ha⟩ := hs
        obtain ⟨hfl, _, _⟩ := O.ok c fld hc1
        obtain ⟨w, h1, h2⟩ := fLook_rel O hfl (all_lt O hc2) hl hy
        obtain ⟨t, zs, ew, hs2, hl2⟩ := view_rel re h2 hvy
        subst ew
        obtain ⟨hz, hq⟩ := hmk re hl2 h
        exact .inl ⟨a, dx, t, _, zs, rfl, ha, h1, (shp_rd hs2).2 rfl, hz, hq⟩
      · exact h.elim
    · exact .inr (hf R F H S [x] us Q re rx h)
  · exact .inr (hf R F H S xs us Q re rx h)
theorem mkNd_lst {T : Tb} {K : PySem.W.Frag} {E : XK} {R : Pl} {F H : Hp} {S : Sto} {xs : List PV} {us : List V} {Q : VK} (r : Rep T K R F S H) (rx : RelL T K R F xs us) (h : OkV T K R F (mkNd .lst xs S) Q E) : us.length ≤ sizeLine ∧ ∀ q, H q = none → Q (.ref q) (upd H q (.lst us)) := by
  unfold mkNd at h
  split at h
  · rename_i hz
    exact ⟨sz16 (by rw [rx.length]; exact hz), fun q hq => PostV.new (k := .lst) r hq upd_same rx h⟩
  · exact h.elim
section
variable {T : Tb} {X : Cx} {E : XK} {e : Expr} {es : List Expr} {ar : DA} {p pos : Pos} {f : List PV → Sto → Out PV} {r : List V → Hp → VK → Prop} {x : Str}
theorem je_callTE {n : String} (hc : CallR X (.type n) r) (hz : CalE T X.K E f r) (hm : X.mg x = none) (ha : JA T X (fun _ => E) (e :: es) ar) (hg : Gl X x := by rfl) (hv : bootBuiltins x = some (.type n) := by rfl) (hn : x ≠ "__name__" := by decide) (hdb : (x == ("__debug__" : Str)) = false := by decide)
    (he : starEach (e :: es) X.env = (false, eval e X.env) :: starEach es X.env := by rfl) (hpl : (backTo pos (starEach es X.env)).any (·.1) = false := by rfl) : JE T X (fun _ => E) (.Call (.Name x p) (e :: es) [] pos) (dApp f ar) :=
  pe_imp (pe_callTy hc hg hm hv ha hn hdb he hpl) fun _ _ _ h => app_tCBE hz h
end
end Z
end
end
section
set_option Elab.async false
set_option linter.all false
set_option maxRecDepth 100000
set_option maxHeartbeats 1000000
/-! ZP: a def that gets no places: reckoned over an empty store, the places set aside meanwhile. -/
noncomputable section
namespace Z
open PySem PySem.Spec PyProof.Rows L2

mutual
theorem clo_rel {T : Tb} {K : PySem.W.Frag} {R R' : Pl} {F : Hp} : ∀ (x : PV) (u : V), fits 0 x = true → Rel T K R F x u → Rel T K R' F x u
  | .non, u, _, h => by rw [Rel] at h ⊢; exact h
  | .bl b, u, _, h => by rw [Rel] at h ⊢; exact h
  | .int i, u, _, h => by rw [Rel] at h ⊢; exact h
  | .str s, u, _, h => by rw [Rel] at h ⊢; exact h
  | .ty n, u, _, h => by rw [Rel] at h ⊢; exact h
  | .cls c, u, _, h => by rw [Rel] at h ⊢; exact h
  | .ref m, u, f, h => by
    rw [fits] at f
    exact absurd (of_decide_eq_true f) (Nat.not_lt_zero m)
  | .nd k xs, u, f, h => by
    rw [fits] at f
    rw [Rel] at h ⊢
    obtain ⟨a, us, h1, h2, h3⟩ := h
    exact ⟨a, us, h1, h2, cloL_rel xs us f h3⟩
theorem cloL_rel {T : Tb} {K : PySem.W.Frag} {R R' : Pl} {F : Hp} : ∀ (xs : List PV) (us : List V), fitsL 0 xs = true → RelL T K R F xs us → RelL T K R' F xs us
  | [], us, _, h => by rw [RelL] at h ⊢; exact h
  | x :: xs, us, f, h => by
    rw [fitsL, Bool.and_eq_true] at f
    rw [RelL] at h ⊢
    obtain ⟨u, vs, h1, h2, h3⟩ := h
    exact ⟨u, vs, h1, clo_rel x u f.1 h2, cloL_rel xs vs f.2 h3⟩
end
/-- f with things that look at no place: over the empty store -/
def clo (f : List PV → Sto → Out PV) (xs : List PV) (S : Sto) : Out PV := if (fitsL 0 xs && S.all Option.isSome) = true then (match f xs [] with
  | .ok v [] => .ok v S
  | .err e [] => .err e S
  | _ => .bad) else .bad
theorem Liv.cong {T : Tb} {K : PySem.W.Frag} {H H' : Hp} {a : Addr} {k : Kd} {us : List V} (e : H' a = H a) (h : Liv T K H a k us) : Liv T K H' a k us := by
  cases k with
  | tup => exact h.elim
  | scr => exact h.elim
  | lst => exact e.trans h
  | dct t ks => cases t <;> (obtain ⟨q1, kk, q2, q3⟩ := h; exact ⟨q1, kk, q2, e.trans q3⟩)
  | ins c fs => obtain ⟨q1, dx, q2⟩ := h; exact ⟨q1, dx, e.trans q2⟩
  | exn c fs => exact h.elim
  | clo a0 c0 q0 us0 => exact h.elim
theorem Liv.hid {T : Tb} {K : PySem.W.Frag} {H : Hp} {a : Addr} {k : Kd} {us : List V} (h : Liv T K H a k us) : ∃ o, H a = some o ∧ hidO o = true := by
  cases k with
  | tup => exact h.elim
  | scr => exact h.elim
  | lst => exact ⟨_, h, rfl⟩
  | dct t ks => cases t <;> (obtain ⟨q1, kk, q2, q3⟩ := h; exact ⟨_, q3, rfl⟩)
  | ins c fs => obtain ⟨q1, dx, q2⟩ := h; exact ⟨_, q2, rfl⟩
  | exn c fs => exact h.elim
  | clo a0 c0 q0 us0 => exact h.elim
section
variable {T : Tb} {K : PySem.W.Frag} {R : Pl} {F H : Hp} {S : Sto}
theorem all_live (r : Rep T K R F S H) (hS : S.all Option.isSome = true) : ∀ a ∈ R.as, F a = none ∧ ∃ o, H a = some o ∧ hidO o = true := fun a ha => by
  obtain ⟨n, hn, e⟩ := List.getElem_of_mem ha
  have h1 : R.as[n]? = some a := by rw [List.getElem?_eq_getElem hn, e]
  have hn2 : n < S.length := by rw [← r.len]; exact hn
  have h2 := List.all_eq_true.mp hS S[n] (List.getElem_mem hn2)
  obtain ⟨⟨k, xs⟩, h3⟩ := Option.isSome_iff_exists.mp h2
  obtain ⟨h4, us, h5, h6⟩ := r.live n a k xs h1 (by rw [List.getElem?_eq_getElem hn2, h3])
  exact ⟨h4, h5.hid⟩
def Pl.off (R : Pl) (H : Hp) : Pl := ⟨[], (R.as.map fun a => (a, (H a).getD (.lst []))) ++ R.hid⟩
theorem Rep.off (r : Rep T K R F S H) (hS : S.all Option.isSome = true) : Rep T K (R.off H) F [] H where
  ex := r.ex
  len := rfl
  nd := List.nodup_nil
  there := fun a ha => nomatch ha
  hid := fun p hp => by
    rcases List.mem_append.mp hp with q | q
    · obtain ⟨a, ha, rfl⟩ := List.mem_map.mp q
      obtain ⟨h1, o, h2, _⟩ := all_live r hS a ha
      exact ⟨by show H a = some ((H a).getD _); rw [h2]; rfl, (fun z => nomatch z), h1⟩
    · exact ⟨(r.hid p q).1, (fun z => nomatch z), (r.hid p q).2.2⟩
  hidt := fun p hp => by
    rcases List.mem_append.mp hp with q | q
    · obtain ⟨a, ha, rfl⟩ := List.mem_map.mp q
      obtain ⟨h1, o, h2, h3⟩ := all_live r hS a ha
      show hidO ((H a).getD _) = true
      rw [h2]; exact h3
    · exact r.hidt p q
  ntb := r.ntb
  tabs := r.tabs
  hidnd := by
    show (((R.as.map fun a => (a, (H a).getD (.lst []))) ++ R.hid).map Prod.fst).Nodup
    rw [List.map_append, List.map_map]
    have e : (R.as.map (Prod.fst ∘ fun a => (a, (H a).getD (HO.lst [])))) = R.as := by
      rw [show (Prod.fst ∘ fun a => (a, (H a).getD (HO.lst []))) = id from rfl, List.map_id]
    rw [e, List.nodup_append]
    refine ⟨r.nd, r.hidnd, fun a ha b hb z => ?_⟩
    obtain ⟨p, hp, rfl⟩ := List.mem_map.mp hb
    exact (r.hid p hp).2.1 (z ▸ ha)
  live := fun n a k xs h1 h2 => by cases h2
theorem Rep.back (r : Rep T K R F S H) (hS : S.all Option.isSome = true) {R' : Pl} {F' H' : Hp} (p : Pl.le (R.off H) R') (x : Ex F F') (r' : Rep T K R' F' [] H') : Rep T K R F' S H' where
  ex := r'.ex
  len := r.len
  nd := r.nd
  there := fun a ha => by
    obtain ⟨h1, o, h2, h3⟩ := all_live r hS a ha
    have hm : (a, o) ∈ R'.hid := by
      rw [p.2]
      refine List.mem_append_left _ (List.mem_map.mpr ⟨a, ha, ?_⟩)
      rw [h2]; rfl
    have := (r'.hid _ hm).1
    have this : H' a = some o := this
    rw [this]
    exact ⟨(fun z => nomatch z), fun ps z => by cases z; cases h3⟩
  hid := fun q hq => by
    have hm : q ∈ R'.hid := by rw [p.2]; exact List.mem_append_right _ hq
    exact ⟨(r'.hid q hm).1, (r.hid q hq).2.1, (r'.hid q hm).2.2⟩
  hidt := r.hidt
  ntb := r'.ntb
  tabs := r'.tabs
  hidnd := r.hidnd
  live := fun n a k xs h1 h2 => by
    have ha : a ∈ R.as := List.mem_of_getElem? h1
    obtain ⟨_, o, h3, h4⟩ := all_live r hS a ha
    have hm : (a, o) ∈ R'.hid := by
      rw [p.2]
      refine List.mem_append_left _ (List.mem_map.mpr ⟨a, ha, ?_⟩)
      rw [h3]; rfl
    obtain ⟨_, us, h5, h6⟩ := r.live n a k xs h1 h2
    exact ⟨(r'.hid _ hm).2.2, us, h5.cong ((r'.hid _ hm).1.trans h3.symm), h6.mono (Pl.refl R) x⟩
theorem clo_ok {f : List PV → Sto → Out PV} {E : XK} {Q : VK} {xs : List PV} {us : List V} (r : Rep T K R F S H) (rx : RelL T K R F xs us) (h : OkV T K R F (clo f xs S) Q E) :
    ∃ R' S', Rep T K R' F S' H ∧ RelL T K R' F xs us ∧ OkV T K R' F (f xs S') Q E := by
  unfold clo at h
  split at h
  · rename_i hc
    obtain ⟨h1, h2⟩ := Bool.and_eq_true_iff.mp hc
    refine ⟨R.off H, [], r.off h2, cloL_rel xs us h1 rx, ?_⟩
    split at h
    · rename_i v ho
      rw [ho]
      intro R' F' H' u p x r' rv
      have e : R'.as = [] := List.eq_nil_of_length_eq_zero r'.len
      exact h R F' H' u (Pl.refl R) x (r.back h2 p x r') (rv.mono0 (by rw [e]; exact List.nil_prefix) (Ex.refl F'))
    · rename_i e ho
      rw [ho]
      intro R' F' H' cls d p x r' re
      have e' : R'.as = [] := List.eq_nil_of_length_eq_zero r'.len
      refine h R F' H' cls d (Pl.refl R) x (r.back h2 p x r') ⟨re.1, ?_⟩
      rcases re.2 with q | ⟨dd, ws, q1, q2, q3, q4, q5⟩
      · exact .inl q
      · exact .inr ⟨dd, ws, q1, q2, q3, q4, q5.mono0 (by rw [e']; exact List.nil_prefix) (Ex.refl F')⟩
    · exact h.elim
  · exact h.elim
end
section
variable {T : Tb} {P : Program} {w : World} {K : PySem.W.Frag} {mg : Str → Option Value} {base : Heap} {k : Nat} {d : DF} {ps : List Str}
theorem FnG.clo {f : Addr} {fd : FuncData} (G : FnG T P w K mg base k f fd ps d) : FnG T P w K mg base k f fd ps (Z.clo d) :=
  ⟨fun A outer s H args us vs Q E hr hg e0 hb hv ⟨hl, R, F, S, xs, r, rx, h⟩ =>
    let ⟨R', S', r', rx', h'⟩ := clo_ok r rx h
    G.run A outer s H args us vs Q E hr hg e0 hb hv ⟨hl, R', F, S', xs, r', rx', h'⟩⟩
theorem clo_bad {xs : List PV} (h : ∀ S, d xs S = .bad) (S : Sto) : Z.clo d xs S = .bad := by
  unfold Z.clo
  rw [h]
  split <;> rfl
theorem Fn.clo {x : Str} (F : Fn T P w K mg base k x ps d) : Fn T P w K mg base k x ps (Z.clo d) := by
  obtain ⟨f, fd, h1, h2, h3, h4⟩ := F.ex
  exact ⟨⟨f, fd, h1, h2, h3.clo, h4⟩, fun xs S hl => clo_bad (fun S => F.ar xs S hl) S⟩
theorem FnP.clo {f : Addr} (G : FnP T P w K mg base k f d) : FnP T P w K mg base k f (Z.clo d) :=
  fun A outer s H us vs Q E hr hg e0 hv ⟨R, F, S, xs, r, rx, h⟩ =>
    let ⟨R', S', r', rx', h'⟩ := clo_ok r rx h
    G A outer s H us vs Q E hr hg e0 hv ⟨R', F, S', xs, r', rx', h'⟩
theorem FnV.clo {x : Str} (F : FnV T P w K mg base k x d) : FnV T P w K mg base k x (Z.clo d) := by
  obtain ⟨f, h1, h2, h3⟩ := F.ex
  exact ⟨f, h1, h2, h3.clo⟩
theorem StatM.clo {c : Nat} {m : Str} (F : StatM T P w K mg base k c m d) : StatM T P w K mg base k c m (Z.clo d) := by
  obtain ⟨p, g, rest, h1, h2, h3, h4, h5⟩ := F.ex
  exact ⟨p, g, rest, h1, h2, h3, h4, h5.clo⟩
theorem FnM.clo {c : Nat} {m : Str} (F : FnM T P w K mg base k c m ps d) : FnM T P w K mg base k c m ps (Z.clo d) := by
  obtain ⟨f, fd, h1, h2, h3, h4⟩ := F.ex
  exact ⟨⟨f, fd, h1, h2, h3.clo, h4⟩, fun xs S hl => clo_bad (fun S => F.ar xs S hl) S⟩
theorem FnMP.clo {c : Nat} {m : Str} (F : FnMP T P w K mg base k c m d) : FnMP T P w K mg base k c m (Z.clo d) := by
  obtain ⟨f, h1, h2, h3⟩ := F.ex
  exact ⟨f, h1, h2, h3.clo⟩
end
section
variable {T : Tb} {X : Cx} {E : XS} {x : Str} {e : Expr} {es : List Expr} {ar : DA} {d : DF} {p pos kpos : Pos} {c : Nat} {ps : List Str} {j k : Nat} {kws : List Keyword}
theorem newF_hk {Q : VK} {E : XK} {K : PySem.W.Frag} {R : Pl} {Fz H : Hp} {S : Sto} {xs : List PV} {us : List V} (r : Rep T K R Fz S H) (rx : RelL T K R Fz xs us) (h : OkV T K R Fz (clo (newF c d) xs S) Q E) : ∃ R' S', Rep T K R' Fz S' H ∧ RelL T K R' Fz xs us ∧ OkV T K R' Fz (newP c d xs S') Q E :=
  let ⟨R', S', r', rx', h'⟩ := clo_ok r rx h
  ⟨R', S', r', rx', shut_ok r' h'⟩
theorem je_newC (cg : Cg X E k) (F : NewC T X.prog X.w X.K X.mg X.base j x c ps d) (ha : JA T X E (e :: es) ar) (hj : j + 1 ≤ k := by decide) (hg : Gl X x := by rfl) (hdb : (x == ("__debug__" : Str)) = false := by decide)
    (he : starEach (e :: es) X.env = (false, eval e X.env) :: starEach es X.env := by rfl) (hpl : (backTo pos (starEach es X.env)).any (·.1) = false := by rfl) : JE T X E (.Call (.Name x p) (e :: es) [] pos) (dApp (clo (newF c d)) ar) :=
  je_newG cg F (fun r rx h => newF_hk r rx h) ha hj hg hdb he hpl
theorem je_newCK {kw : Keyword} (cg : Cg X E k) (F : NewC T X.prog X.w X.K X.mg X.base j x c ps d) (ha : JK T X E (kw :: kws) ar) (hj : j + 1 ≤ k := by decide) (hg : Gl X x := by rfl) (hdb : (x == ("__debug__" : Str)) = false := by decide)
    (hall : (backToKw pos (keywordEach (kw :: kws) X.env)).all (·.1.isSome) = true := by rfl) (hks : (backToKw pos (keywordEach (kw :: kws) X.env)).filterMap (·.1) = ps.tail := by rfl)
    (hpl : ((backTo pos (starEach [] X.env)).any (·.1) || (backToKw pos (keywordEach (kw :: kws) X.env)).any (·.1.isNone)) = false := by rfl) : JE T X E (.Call (.Name x p) [] (kw :: kws) pos) (dApp (clo (newF c d)) ar) :=
  je_newGK cg F (fun r rx h => newF_hk r rx h) ha hj hg hdb hall hks hpl
end

/-! ### what is not covered; one of two readings -/
def dBad : DE := fun _ _ => .bad
section
variable {T : Tb} {X : Cx} {E : XS} {e tg : Expr} {a b : DE}
theorem je_bad : JE T X E e dBad := ⟨fun pins s σ H Q I ⟨_, _, _, _, _, _, h⟩ => h.elim⟩
/-- one of two ways to walk -/
def dEiI (a b : DI) : DI := fun l S => match a l S with
  | .bad => b l S
  | o => o
theorem ji_ei {a b : DI} (ha : JI T X E tg e a) (hb : JI T X E tg e b) : JI T X E tg e (dEiI a b) := ⟨fun pins s σ H Q I ⟨R, F, l, S, r, re, h⟩ => by
  unfold dEiI at h
  cases hd : a l S with
  | bad => rw [hd] at h; exact hb.run pins s σ H Q I ⟨R, F, l, S, r, re, h⟩
  | ok v S1 => rw [hd] at h; exact ha.run pins s σ H Q I ⟨R, F, l, S, r, re, by rw [hd]; exact h⟩
  | err v S1 => rw [hd] at h; exact ha.run pins s σ H Q I ⟨R, F, l, S, r, re, by rw [hd]; exact h⟩⟩
end
/-! ### methods as the head tells them -/
theorem kwm_of {K : PySem.W.Frag} {x qual : Str} {params : Arguments} {body : List Stmt} {scope : Scope} {kws : List (Str × V)} {f : Addr} {fd : FuncData} {ps : List Str} (F : FunD K x qual params body scope [] kws f fd)
    (h : ∀ (kV doc pm : Value) (an : Option Addr) (cdv ct : Value) (v : Value) (ws : List Value), ws.length = ps.tail.length → bindArgs (PySem.W.fnOf x qual params body scope .none kV doc pm an cdv ct) ⟨[v], ps.tail.zip ws⟩ = pure (ps.zip (v :: ws))) (s : Shared) (v : Value) (ws : List Value) (hl : ws.length = ps.tail.length) : BindsTo s fd ⟨[v], ps.tail.zip ws⟩ (ps.zip (v :: ws)) := by
  obtain ⟨oc, od, dV, kV, doc, pm, an, cdv, ct, osl, rfl, lk, hcd, hD, hK⟩ := F.ex
  rcases hD with ⟨_, z⟩ | ⟨z, _⟩
  · subst z
    exact .of_eq (h kV doc pm an cdv ct v ws hl)
  · exact absurd rfl z
/-- a staticmethod's record, its def, the class -/
def stR (K : PySem.W.Frag) (C : Addr) (m : Str) : Option (Addr × Addr × Addr) := match PySem.W.findCls K (.ref C) (.type "type") m with
  | some (.get (.builtin b) (.ref p) .none (.ref C')) => if b = "staticmethod.__get__" then (match PySem.W.recIn K p "staticmethod" with
    | some (.ref g :: _) => some (p, g, C')
    | _ => none) else none
  | _ => none
def stA (K : PySem.W.Frag) (C : Addr) (m : Str) : Addr := match stR K C m with
  | some (_, g, _) => g
  | none => 0
def statB (x m : Str) (K : PySem.W.Frag) : Bool := PySem.W.readsIn K (He.ga K x) (.type "type") && (decide (PySem.W.specialIn K (.ref (He.ga K x)) "__getattribute__" = some (some (.builtin "type.__getattribute__"))) && ((match stR K (He.ga K x) m with
  | some (_, g, C') => decide (C' = He.ga K x) && PySem.W.keepIn K (.ref g)
  | none => false)))
theorem stR_ok {K : PySem.W.Frag} {C : Addr} {m : Str} {p g C' : Addr} (h : stR K C m = some (p, g, C')) : PySem.W.findCls K (.ref C) (.type "type") m = some (.get (.builtin "staticmethod.__get__") (.ref p) .none (.ref C')) ∧ ∃ rest, PySem.W.recIn K p "staticmethod" = some (.ref g :: rest) := by
  unfold stR at h
  split at h
  · rename_i b p0 C0 hf
    split at h
    · rename_i hb
      subst hb
      split at h
      · rename_i g0 rest hr
        cases h
        exact ⟨hf, rest, hr⟩
      · cases h
    · cases h
  · cases h
theorem statM_of {T : Tb} {P : Program} {w : World} {K : PySem.W.Frag} {mg : Str → Option Value} {base : Heap} {k c : Nat} {x m : Str} {d : DF} (hx : T.cn c = x) (h : statB x m K = true) (G : FnP T P w K mg base k (stA K (He.ga K x) m) d) : StatM T P w K mg base k c m d := by
  subst hx
  obtain ⟨h1, h⟩ := Bool.and_eq_true_iff.mp h
  obtain ⟨h2, h3⟩ := Bool.and_eq_true_iff.mp h
  split at h3
  · rename_i p g C' hr
    obtain ⟨h4, h5⟩ := Bool.and_eq_true_iff.mp h3
    have eg : stA K (He.ga K (T.cn c)) m = g := by unfold stA; rw [hr]
    rw [eg] at G
    obtain ⟨e1, rest, e2⟩ := stR_ok hr
    have e3 := of_decide_eq_true h4
    subst e3
    exact ⟨p, g, rest, ⟨h1, of_decide_eq_true h2⟩, e1, e2, h5, G⟩
  · cases h3
end Z
end
section
set_option Elab.async false
set_option linter.all false
set_option maxRecDepth 100000
set_option maxHeartbeats 1000000
/-! ZK: names that are forgotten, blocks whose new places go, lambdas that can be reckoned. -/
noncomputable section
namespace Z
open PySem PySem.Spec PyProof.Rows L2

/-! ### forgetting names -/
def keepL (ks : List Nat) : Nat → Loc → Loc
  | _, [] => []
  | i, v :: l => (if ks.contains i then v else none) :: keepL ks (i + 1) l
theorem keepL_len (ks : List Nat) : ∀ (i : Nat) (l : Loc), (keepL ks i l).length = l.length
  | _, [] => rfl
  | i, v :: l => by rw [keepL, List.length_cons, List.length_cons, keepL_len ks (i + 1) l]
theorem keepL_get (ks : List Nat) : ∀ (i j : Nat) (l : Loc) (v : PV), (keepL ks i l)[j]? = some (some v) → l[j]? = some (some v)
  | _, _, [], _, h => by cases h
  | i, 0, x :: l, v, h => by
    rw [keepL, List.getElem?_cons_zero] at h
    split at h
    · exact h
    · cases h
  | i, j + 1, x :: l, v, h => by
    rw [keepL, List.getElem?_cons_succ] at h
    rw [List.getElem?_cons_succ]
    exact keepL_get ks (i + 1) j l v h
def dKeep (ks : List Nat) : DS := fun l S => .nx (keepL ks 0 l) S
section
variable {T : Tb} {X : Cx} {E : XS} {sts : List Stmt} {b : DS}
theorem jb_keep (ks : List Nat) (h : JB T X E sts b) : JB T X E sts (dSeq (dKeep ks) b) :=
  pss_imp h fun D σ H ⟨R, F, l, S, r, e, q⟩ => ⟨R, F, keepL ks 0 l, S, r, ⟨by rw [keepL_len]; exact e.len, fun i v hv => e.at_ i v (keepL_get ks 0 i l v hv)⟩, q⟩
end

/-! ### a block whose new places go -/
def fitsV (n : Nat) (v : Option PV) : Bool := match v with
  | some x => fits n x
  | none => true
def shL (S : Sto) (l1 : Loc) (S1 : Sto) (k : Loc → Sto → OutS) : OutS := if S1.length ≤ S.length then k l1 S1 else if (fitsS S S1 && l1.all (fitsV S.length)) = true then k l1 (S1.take S.length) else .bad
def dShS (b : DS) : DS := fun l S => match b l S with
  | .nx l1 S1 => shL S l1 S1 .nx
  | .cnt l1 S1 => shL S l1 S1 .cnt
  | .brk l1 S1 => shL S l1 S1 .brk
  | o => o
section
variable {T : Tb} {K : PySem.W.Frag} {R : Pl} {F H : Hp} {S S1 : Sto} {l1 : Loc}
theorem postE_sh {Q : L2.St → Hp → Prop} (r0 : Rep T K R F S H) (hf : fitsS S S1 = true) (hl : l1.all (fitsV S.length) = true) (h : PostE T K R F l1 (S1.take S.length) Q) : PostE T K R F l1 S1 Q := by
  intro R' F' H' σ p x r e
  have hlen := r0.len
  have r2 := r.shut (fitsS_all r0 hf)
  rw [← hlen, take_pl p] at r2
  refine h R _ H' σ (Pl.refl R) (x.trans (melt_ex (n := R.as.length) r)) (by rw [← hlen]; exact r2) ⟨e.len, fun i v hv => ?_⟩
  obtain ⟨u, h1, h2⟩ := e.at_ i v hv
  refine ⟨u, h1, ?_⟩
  have hm := List.all_eq_true.mp hl _ (List.mem_of_getElem? hv)
  have := fits_rel (n := R.as.length) r v u (by rw [hlen]; exact hm) h2
  rw [take_pl p] at this
  exact this
theorem okS_sh {b : DS} {l : Loc} {D : Ends} {E : XS} (r0 : Rep T K R F S H) (h : OkS T K R F (dShS b l S) D E) : OkS T K R F (b l S) D E := by
  unfold dShS at h
  cases hb : b l S with
  | nx l1 S1 =>
    rw [hb] at h
    have h : OkS T K R F (shL S l1 S1 .nx) D E := h
    unfold shL at h
    split at h
    · exact h
    · split at h
      · rename_i hc
        obtain ⟨h1, h2⟩ := Bool.and_eq_true_iff.mp hc
        exact postE_sh r0 h1 h2 h
      · exact h.elim
  | cnt l1 S1 =>
    rw [hb] at h
    have h : OkS T K R F (shL S l1 S1 .cnt) D E := h
    unfold shL at h
    split at h
    · exact h
    · split at h
      · rename_i hc
        obtain ⟨h1, h2⟩ := Bool.and_eq_true_iff.mp hc
        exact postE_sh r0 h1 h2 h
      · exact h.elim
  | brk l1 S1 =>
    rw [hb] at h
    have h : OkS T K R F (shL S l1 S1 .brk) D E := h
    unfold shL at h
    split at h
    · exact h
    · split at h
      · rename_i hc
        obtain ⟨h1, h2⟩ := Bool.and_eq_true_iff.mp hc
        exact postE_sh r0 h1 h2 h
      · exact h.elim
  | ret v S1 => rw [hb] at h; exact h
  | err e l1 S1 => rw [hb] at h; exact h
  | bad => rw [hb] at h; exact h
end
section
variable {T : Tb} {X : Cx} {E : XS} {sts : List Stmt} {b : DS}
theorem jb_sh (h : JB T X E sts b) : JB T X E sts (dShS b) :=
  pss_imp h fun D σ H ⟨R, F, l, S, r, e, q⟩ => ⟨R, F, l, S, r, e, okS_sh r q⟩
end

/-! ### lambdas -/

/-! ### t * k, t a tuple -/
theorem tuple_mul1W (l : Addr) (items : Array Value) (n : Nat) (dd : Option Addr) (sl : Array (Option Value)) (u : Tok) :
    Meets (Builtin.«tuple.__mul__» ⟨[.ref l, .int 1 u], []⟩) (fun _ R s => s.heap.get? l = some { cls := .type "tuple", dict := dd, data := .seq items n, slots := sl } ∧
      R (.ok (.ret (Value.ref l))) s) :=
  .of_wp fun prog w A R s h => by
    obtain ⟨hp, g, d, tk, os⟩ := s
    obtain ⟨hl, h⟩ := h
    have f1 := AutoSeq1.idx_int
    have c0 : (decide ((1 : Int) < -(2 ^ 63)) || decide ((1 : Int) ≥ 2 ^ 63)) = false := by decide
    have c1 : (items.isEmpty || (1 : Int) == 1) = true := by simp
    wp_walk using wpAny_loadPart' hl
    repeat (first
      | (refine wpAny_ite_false (decide_eq_false (by rw [c0]; exact Bool.false_ne_true)) ?_; wp_walk using wpAny_loadPart' hl)
      | (refine wpAny_ite_true (decide_eq_true c1) ?_; wp_walk using wpAny_loadPart' hl))
    exact ⟨_, rfl, h⟩
def rRep1 (K : PySem.W.Frag) : R2 := fun x y H Q => ∃ l xs, x = .ref l ∧ y = .int 1 ∧ SqT K H l xs ∧ Q (.ref l) H
theorem op_rep1 {X : Cx} : OpR X (binaryOp .Mult) (rRep1 X.K) := by
  intro pins s σ H x y v u Q I rx ry h
  obtain ⟨l, xs, rfl, rfl, hT, q⟩ := h
  cases rx
  obtain ⟨t, rfl⟩ := ry
  obtain ⟨its, r, ⟨⟨cls, dd, data, sl⟩, ho, hc, n, hd⟩, hs⟩ := I.tuple hT
  simp only at hc hd
  subst hc hd
  refine wpAny_binaryOp_repeat_ref (T := "tuple") (U := "int") (by decide) ⟨_, ho, rfl⟩ (fun s' => typeIs_int s' 1 t) noFill_tuple_mul F.fills_int_mul F.slot_int_rmul repeat_tuple F.slot_int_index.lookup
    (call_meets F.slot_int_rmul (typeIs_int s 1 t) F.entry_int_rmul (F.args_int_rmul_2 _ _) (int_rmul_tuple 1 t l its.toArray n dd sl)
      ⟨ho, rfl, ⟨_, ho, rfl⟩, call_meets F.slot_tuple_mul ⟨_, ho, rfl⟩ F.entry_tuple_mul (F.args_tuple_mul_2 _ _) (tuple_mul1W l its.toArray n dd sl t) ⟨ho, ?_⟩⟩)
  exact ⟨.ref l, H, I, rfl, q⟩
def mulT (x y : PV) (S : Sto) : Out PV := match x, y with
  | .nd .tup xs, .int j => if j = 1 then .ok (.nd .tup xs) S else if xs ≠ [] ∧ 2 ≤ j ∧ j ≤ 1000 ∧ xs.length ≤ 1000 then mkNd .tup (List.replicate j.toNat xs).flatten S else .bad
  | x, y => mulZ x y S
abbrev rMulT (K : PySem.W.Frag) : R2 := fun x y H Q => rRepT K x y H Q ∨ rRep1 K x y H Q ∨ rMulA x y H Q
theorem op_mulT {X : Cx} : OpR X (binaryOp .Mult) (rMulT X.K) := OpR.or op_repT (OpR.or op_rep1 op_mulA)
theorem oz_mulT {T : Tb} {K : PySem.W.Frag} : OpZ T K mulT (rMulT K) := by
  intro E R F H S x y u w Q r rx ry h
  unfold mulT at h
  split at h
  · rename_i xs j
    have rx0 := rx
    split at h
    · rename_i hj
      subst hj
      obtain ⟨a, us, rfl, hs, hl⟩ := view_rel r rx (view_nd .tup xs S)
      have := rel_int ry; subst this
      exact .inr (.inl ⟨a, us, rfl, rfl, (shp_rd hs).2 rfl, PostV.here r rx0 h⟩)
    split at h
    · rename_i hc
      obtain ⟨a, us, rfl, hs, hl⟩ := view_rel r rx (view_nd .tup xs S)
      have := rel_int ry; subst this
      have rr : ∀ k : Nat, RelL T K R F (List.replicate k xs).flatten (List.replicate k us).flatten := fun k => by
        induction k with
        | zero => exact .nil
        | succ k ih => rw [List.replicate_succ, List.replicate_succ, List.flatten_cons, List.flatten_cons]; exact hl.append ih
      refine .inl ⟨a, j, us, rfl, rfl, (shp_rd hs).2 rfl, fun z => hc.1 ?_, hc.2.1, hc.2.2.1, by rw [hl.length]; exact hc.2.2.2, fun p hp => ?_⟩
      · have := hl.length
        rw [z] at this
        exact List.eq_nil_of_length_eq_zero this.symm
      · unfold mkNd at h
        split at h
        · exact PostV.new (k := .tup) r hp upd_same (rr _) h
        · exact h.elim
    · exact h.elim
  · exact .inr (.inr (oz_mul E R F H S _ _ u w Q r rx ry h))
end Z
end
end
section
set_option Elab.async false
set_option linter.all false
set_option maxRecDepth 100000
set_option maxHeartbeats 1000000
/-! ZJ: laws whose turns are reckoned case by case. -/
noncomputable section
namespace Z
open PySem PySem.Spec PyProof.Rows L2

def dSeqs : List DS → DS
  | [] => dSkip
  | s :: r => dSeq s (dSeqs r)
theorem seqs_one {s : DS} {r : List DS} {l l1 : Loc} {S S1 : Sto} (h : s l S = .nx l1 S1) : dSeqs (s :: r) l S = dSeqs r l1 S1 := by
  show (s l S).seq (dSeqs r) = _
  rw [h]; rfl
theorem shS_pen {B : DS} {l l' : Loc} {S S' : Sto} {n m : Nat} {T' : Sto} (hP : PenS n [] S) (h : B l S = .nx l' S') (hP' : PenS m T' S') (hl : l'.all (fitsV 1) = true) : ∃ S'', dShS B l S = .nx l' S'' ∧ PenS m [] S'' := by
  have e1 : S.length = 1 := hP.len
  obtain ⟨h1, h2⟩ := hP.shut (T := []) (X := T') (by rw [List.nil_append]; exact hP')
  unfold dShS
  rw [h]
  show ∃ S'', shL S l' S' .nx = .nx l' S'' ∧ PenS m [] S''
  unfold shL
  by_cases q : S'.length ≤ S.length
  · rw [if_pos q]
    have hl' : S'.length = T'.length + 1 := hP'.len
    have : T' = [] := List.eq_nil_of_length_eq_zero (by omega)
    subst this
    exact ⟨S', rfl, hP'⟩
  · rw [if_neg q, h1, e1, hl]
    exact ⟨_, rfl, by rw [← e1]; exact h2⟩
/-- the law's end -/
theorem law_end {b : DS} {sc : PV} {S1 : Sto} {m : Nat} (hb : b (some sc :: List.replicate (m - 1) none) [] = .ret (.bl true) S1) (hl : 0 < S1.length) : dDef 1 m b [sc] [] = .ok (.bl true) [] := by
  have := dDef_thaw (n := 1) (m := m) (xs := [sc]) (S1 := S1) (v := .bl true) (w := .bl true) [] b rfl hb hl rfl (fitsS_pre List.nil_prefix)
  rw [this]; rfl
theorem pn_cons {n : Nat} {T S : Sto} (h : PenS n T S) : ∃ cs a lf, S = pn cs a lf :: T := let ⟨cs, a, lf, e, _⟩ := h; ⟨cs, a, lf, e⟩
end Z
end
end
section
set_option Elab.async false
set_option linter.all false
set_option maxRecDepth 100000
set_option maxHeartbeats 1000000
/-! ZI: x != y by an own __eq__; bool(o); more displays and calls. -/
noncomputable section
namespace Z
open PySem PySem.Spec PyProof.Rows L2

section
open PySem.W
variable {prog : Program} {w : World} {A : Around} {E : Value → Shared → Prop} {s : Shared} {K : PySem.W.Frag} {x C L f : Addr} {h₀ : Heap} {m : Str → Option Value} {ox : Obj} {od : Option Obj} {b tb : Value}
end

/-! ### x != y, x an instance of the class c with an own __eq__ alone -/
section
variable {T : Tb} {I : Ki} {X : Cx} {E : XK} {c j k : Nat} {d : DF} {f : PV → PV → Sto → Out PV} {r : R2}
end

/-! ### bool(o), o an instance of the class c with an own __bool__ -/
section
variable {T : Tb} {X : Cx} {E : XK} {c j k : Nat} {d : DF} {f : List PV → Sto → Out PV} {r : List V → Hp → VK → Prop}
end
/-! ### not o -/
theorem clo_eq {f : List PV → Sto → Out PV} {xs : List PV} {S : Sto} {v : PV} (h1 : fitsL 0 xs = true) (h2 : S.all Option.isSome = true) (h : f xs [] = .ok v []) : clo f xs S = .ok v S := by
  unfold clo
  rw [h1, h2, h]
  rfl
end Z
end
end
section
set_option Elab.async false
set_option linter.all false
set_option maxRecDepth 100000
set_option maxHeartbeats 1000000
/-! YA: name *= e; comprehensions of two generators. -/
noncomputable section
namespace Z
open PySem PySem.Spec PyProof.Rows L2

section
variable {X : Cx}
end
section
variable {T : Tb} {X : Cx} {E : XS} {e : Expr} {d : DE} {x : Str} {pos : Pos}
end
end Z
end
end
section
set_option Elab.async false
set_option linter.all false
set_option maxRecDepth 100000
set_option maxHeartbeats 1000000
/-! YB: sorted(list of texts). -/
noncomputable section
namespace Z
open PySem PySem.Spec PyProof.Rows L2

end Z
end
end
section
set_option Elab.async false
set_option linter.all false
set_option maxRecDepth 100000
set_option maxHeartbeats 1000000
/-! YC: dict displays with expressions. -/
noncomputable section
namespace Z
open PySem PySem.Spec PyProof.Rows L2

section
variable {T : Tb} {X : Cx} {E : XS} {pos : Pos}
end
end Z
end
end
section
set_option Elab.async false
set_option linter.all false
set_option maxRecDepth 100000
set_option maxHeartbeats 1000000
/-! YD: dict(x), x a dict. -/
noncomputable section
namespace Z
open PySem PySem.Spec PyProof.Rows L2

end Z
end
end
section
set_option Elab.async false
set_option linter.all false
set_option maxRecDepth 100000
set_option maxHeartbeats 1000000
/-! YE: comprehensions of two generators. -/
noncomputable section
namespace Z
open PySem PySem.Spec PyProof.Rows L2

section
variable {T : Tb} {X : Cx} {E : XS} {pos : Pos} {elt tg iter : Expr} {ifs : List Expr} {scope : Scope} {own : List (Str × Nat)} {di : DI} {t : TgZ} {c : DB} {el : DE}
end
section
variable {T : Tb} {X : Cx} {E : XS} {pos : Pos} {elt tg iter tg1 iter1 : Expr} {ifs ifs1 : List Expr} {scope : Scope} {own : List (Str × Nat)} {di di1 : DI} {t t1 : TgZ} {c c1 : DB} {el : DE}
end
end Z
end
end
section
set_option Elab.async false
set_option linter.all false
set_option maxRecDepth 100000
set_option maxHeartbeats 1000000
/-! YF: list.pop(i), extend, d.get(k), del d[k], o.f += e, a thing closed where it is named last. -/
noncomputable section
namespace Z
open PySem PySem.Spec PyProof.Rows L2

/-! ### a thing that may change, closed -/
section
variable {T : Tb} {X : Cx} {E : XS} {o e i value : Expr} {dO de di dv d : DE} {apos cpos pos tpos : Pos}
/-! ### list.pop(i), list.extend(xs) -/
theorem eraseIdx_td {α : Type} (xs : List α) (k : Nat) : xs.eraseIdx k = xs.take k ++ xs.drop (k + 1) := List.eraseIdx_eq_take_drop_succ xs k
theorem RelL.erase {T : Tb} {K : PySem.W.Frag} {R : Pl} {F : Hp} {xs : List PV} {us : List V} (k : Nat) (h : RelL T K R F xs us) : RelL T K R F (xs.eraseIdx k) (us.eraseIdx k) := by
  rw [eraseIdx_td, eraseIdx_td]
  exact (h.take k).append (h.drop (k + 1))

/-! ### d.get(k) -/
section
variable {pins : List (Addr × Obj)} {σ : L2.St} {H : Hp} {s : Shared} {a : Addr} {y : V} {u : Value} {ov : Option V} {A : Around} {Ev : Value → Shared → Prop}
end

/-! ### del d[k] -/

/-! ### o.f += e -/
end
end Z
end
end
section
set_option Elab.async false
set_option linter.all false
set_option maxRecDepth 100000
set_option maxHeartbeats 1000000
/-! YG: d.items(), d.values() walked, keys of both kinds. -/
noncomputable section
namespace Z
open PySem PySem.Spec PyProof.Rows L2

section
variable {P : Program} {w : World} {K : PySem.W.Frag} {tg : Expr} {d : Addr} {o : Obj} {es : Array DictEntry} {ep : Nat}
end
section
variable {X : Cx} {tg e : Expr} {td : TE} {apos cpos : Pos}
end

/-! ### by values -/
section
variable {T : Tb} {K : PySem.W.Frag} {R1 : Pl} {F1 : Hp} {d : Addr} {od : Obj}
end
section
variable {T : Tb} {X : Cx} {E : XS} {tg e : Expr} {de : DE} {apos cpos : Pos}
end
end Z
end
end
section
set_option Elab.async false
set_option linter.all false
set_option maxRecDepth 100000
set_option maxHeartbeats 1000000
/-! YH: *d.values() among arguments. -/
noncomputable section
namespace Z
open PySem PySem.Spec PyProof.Rows L2

section
variable {X : Cx} {pins : List (Addr × Obj)} {σ : L2.St} {H : Hp} {s : Shared} {a : Addr}
end
section
variable {X : Cx} {e : Expr} {es : List Expr} {apos cpos p : Pos}
end
end Z
end
end
section
set_option Elab.async false
set_option linter.all false
set_option maxRecDepth 100000
set_option maxHeartbeats 2000000
/-! YI: C(), C(k = v, ..) in any order, C() without an own __init__. -/
noncomputable section
namespace Z
open PySem PySem.Spec PyProof.Rows L2

/-! ### C(k = v, ..), the keywords in any order -/
section
variable {T : Tb} {X : Cx} {E : XS} {x : Str} {e : Expr} {es : List Expr} {ar : DA} {d : DF} {p pos kpos : Pos} {c : Nat} {ps nms : List Str} {π : List Nat} {j k : Nat} {kws : List Keyword}

/-! ### C() -/

/-! ### C(), object's own __init__ -/
structure New0 (T : Tb) (K : PySem.W.Frag) (mg : Str → Option Value) (x : Str) (c : Nat) : Prop where
  at_ : mg x = some (.ref (T.ca K c))
  makes : PySem.W.makesIn K (T.ca K c) = true
  init : PySem.W.findIn K (.ref (T.ca K c)) "__init__" = some (some (.builtin "object.__init__"))
  kp : PySem.W.keepIn K (.ref (T.ca K c)) = true
  top : PySem.W.mroIn K (T.ca K c) (.type "object") = some true
end
end Z
end
end
section
set_option Elab.async false
set_option linter.all false
set_option maxRecDepth 100000
set_option maxHeartbeats 2000000
/-! YJ: for in a generator's body. -/
noncomputable section
namespace Z
open PySem PySem.Spec PyProof.Rows L2 GenW

section
variable {M : Model} {A : Around} {R : GenEnd} {Y : Protocol} {n : Nat} {s₀ : Shared} {c : Code} {fs : List Frame} {s : Shared} {env : Env}
  {K : Flow → Sem PySem.Fin} {H : Value → Sem PySem.Fin} {gd : Bool → Bool} {lv : List Value → List Value}
end
section
variable {prog : Program} {w : World} {A : Around} {R : GenEnd} {Y : Protocol} {n : Nat} {s₀ : Shared} {fs : List Frame} {s : Shared} {env : Env}
end
section
variable {X : Cx}
end
end Z
end
end
section
set_option Elab.async false
set_option linter.all false
set_option maxRecDepth 100000
set_option maxHeartbeats 2000000
/-! YK: the truth of what may be of several own classes. -/
noncomputable section
namespace Z
open PySem PySem.Spec PyProof.Rows L2

abbrev RTru := V → Hp → (Bool → Hp → Prop) → Prop
section
variable {T : Tb} {X : Cx} {E : XK} {c j k : Nat} {d : DF} {a : Expr} {da : DE} {f : PV → Sto → Out Bool} {r : RTru} {pos : Pos}
end
end Z
end
end
section
set_option Elab.async false
set_option linter.all false
set_option maxRecDepth 100000
set_option maxHeartbeats 2000000
/-! YL: generators: defs that they call; list(g). -/
noncomputable section
namespace Z
open PySem PySem.Spec PyProof.Rows L2 GenW

/-! ### defs that ask for no guards -/
structure Cg0 (X : Cx) (E : XS) (k : Nat) : Prop where
  calm : X.calm = true
  nd : X.N.Nodup
  room : Room k X.A
  takes : Takes X (fun cls d σ H => E σ cls d H)
  own : PassesOwn (model X.prog X.w) X.A X.env X.xe
theorem Cg0.pass {X : Cx} {E : XS} {k : Nat} (c : Cg0 X E k) (pins : List (Addr × Obj)) (σ : L2.St) (H : Hp) (s : Shared) (e : Value) (s' : Shared) (I : Inv X pins σ H s) (q : L2.CX X.prog X.w X.stack H s (E σ) e s') : X.xe e s' :=
  c.takes e s' (XE.of_call I (fun _ _ _ h => h) q)
theorem Cg0.hu {X : Cx} {E : XS} {k : Nat} (c : Cg0 X E k) : X.A.units + 64 < cLine := c.room.units
theorem Cg0.hu1 {X : Cx} {E : XS} {k : Nat} (c : Cg0 X E k) : X.A.units + 1 < cLine := by have := c.hu; omega
theorem Cg.z {X : Cx} {E : XS} {k : Nat} (c : Cg X E k) : Cg0 X E k := ⟨c.calm, c.nd, c.room, c.takes, c.own⟩
structure FnG0 (T : Tb) (P : Program) (w : World) (K : PySem.W.Frag) (mg : Str → Option Value) (base : Heap) (k : Nat) (f : Addr) (fd : FuncData) (ps : List Str) (d : DF) : Prop where
  run : ∀ (A : Around) (outer : List Env) (s : Shared) (H : Hp) (args : Args) (us : List Value) (vs : List V) (Q : VK) (E : XK), Room k A → Env0 P w K mg base A outer s H → BindsTo s fd args (ps.zip us) → Vals vs us → spOf T K ps.length d vs H Q E →
    codeAny (model P w) A (.call (.ref f) args) (CR (L2.CX P w) outer P w H s Q E) s
theorem FnG0.g {T : Tb} {P : Program} {w : World} {K : PySem.W.Frag} {mg : Str → Option Value} {base : Heap} {k : Nat} {f : Addr} {fd : FuncData} {ps : List Str} {d : DF} (G : FnG0 T P w K mg base k f fd ps d) : FnG T P w K mg base k f fd ps d :=
  ⟨fun A outer s H args us vs Q E hr _ => G.run A outer s H args us vs Q E hr⟩
structure Fn0 (T : Tb) (P : Program) (w : World) (K : PySem.W.Frag) (mg : Str → Option Value) (base : Heap) (k : Nat) (x : Str) (ps : List Str) (d : DF) : Prop where
  ex : ∃ (f : Addr) (fd : FuncData), mg x = some (.ref f) ∧ PySem.W.keepIn K (.ref f) = true ∧ FnG0 T P w K mg base k f fd ps d ∧ Binds K fd ps [] ∧ (∀ (s : Shared) (ws : List Value), K.In s.heap → ws.length = ps.length → BindsTo s fd ⟨[], ps.zip ws⟩ (ps.zip ws)) ∧ ∃ oc od osl, K.lookup f = some ⟨oc, od, .func fd, osl⟩
  ar : ∀ (xs : List PV) (S : Sto), xs.length ≠ ps.length → d xs S = .bad
theorem Fn0.fn {T : Tb} {P : Program} {w : World} {K : PySem.W.Frag} {mg : Str → Option Value} {base : Heap} {k : Nat} {x : Str} {ps : List Str} {d : DF} (F : Fn0 T P w K mg base k x ps d) : Fn T P w K mg base k x ps d := by
  obtain ⟨f, fd, h1, h2, h3, h4⟩ := F.ex
  exact ⟨⟨f, fd, h1, h2, h3.g, h4⟩, F.ar⟩
section
variable {T : Tb} {P : Program} {w : World} {K : PySem.W.Frag} {mg : Str → Option Value} {base : Heap} {x qual : Str} {params : Arguments} {body : List Stmt} {scope : Scope} {dvs : List V} {kws : List (Str × V)} {f : Addr} {fd : FuncData} {N ps : List Str} {k : Nat} {b : DS}
theorem FnG0.clo {d : DF} (G : FnG0 T P w K mg base k f fd ps d) : FnG0 T P w K mg base k f fd ps (Z.clo d) :=
  ⟨fun A outer s H args us vs Q E hr e0 hb hv ⟨hl, R, F, S, xs, r, rx, h⟩ =>
    let ⟨R', S', r', rx', h'⟩ := clo_ok r rx h
    G.run A outer s H args us vs Q E hr e0 hb hv ⟨hl, R', F, S', xs, r', rx', h'⟩⟩
theorem Fn0.clo {d : DF} (F : Fn0 T P w K mg base k x ps d) : Fn0 T P w K mg base k x ps (Z.clo d) := by
  obtain ⟨f, fd, h1, h2, h3, h4⟩ := F.ex
  exact ⟨⟨f, fd, h1, h2, h3.clo, h4⟩, fun xs S hl => clo_bad (fun S => F.ar xs S hl) S⟩
end
section
variable {T : Tb} {X : Cx} {E : XS} {x : Str} {p pos : Pos} {e : Expr} {es : List Expr} {ps : List Str} {d : DF} {ar : DA} {j k : Nat} {f : Addr} {fd : FuncData} {ds : List Value} {dvs : List V}
end
section
variable {T : Tb} {X : Cx} {E : XS} {x : Str} {c j k : Nat} {fs : List Nat} {e : Expr} {es : List Expr} {ar : DA} {p pos rpos : Pos}
end

/-! ### a generator's body: statements, then one for that hands out an item in each turn -/
abbrev DGn := Loc → Sto → Out (List PV)
section
variable {T : Tb} {X : Cx} {E : XK} {st : Stmt} {rest : List Stmt} {ds : DS} {g : DGn}
end
end Z
end
end
section
set_option Elab.async false
set_option linter.all false
set_option maxRecDepth 100000
set_option maxHeartbeats 2000000
/-! YM: generator defs, list(g(..)). -/
noncomputable section
namespace Z
open PySem PySem.Spec PyProof.Rows L2 GenW

section
variable {T : Tb} {P : Program} {w : World} {K : PySem.W.Frag} {mg : Str → Option Value} {base : Heap} {x qual : Str} {params : Arguments} {body : List Stmt} {scope : Scope} {kws : List (Str × V)} {f : Addr} {fd : FuncData} {N ps : List Str} {k : Nat} {g : DGn}
end
/-- errors that end no iterator -/
def nsB (T : Tb) (l : List Nat) (K : PySem.W.Frag) : Bool := l.all fun c => decide (PySem.W.subIn K (.ref (T.ca K c)) (.type "StopIteration") = some false)
section
variable {T : Tb} {X : Cx} {E : XK} {x : Str} {n j k : Nat} {e : Expr} {es : List Expr} {ar : DA} {d : List PV → Sto → Out (List PV)} {p p2 pos pos' : Pos} {l : List Nat} {mk : List PV → Sto → Out PV}
end
end Z
end
end
section
set_option Elab.async false
set_option linter.all false
set_option maxRecDepth 100000
set_option maxHeartbeats 1000000
/-! YO: dict displays with keys of any kind. -/
noncomputable section
namespace Z
open PySem PySem.Spec PyProof.Rows L2

section
variable {X : Cx} {pins : List (Addr × Obj)} {σ : L2.St}
end
section
variable {T : Tb} {X : Cx} {E : XS} {pos : Pos} {k : Nat}
end
end Z
end
end
section
set_option Elab.async false
set_option linter.all false
set_option maxRecDepth 100000
set_option maxHeartbeats 1000000
/-! YP: zip(*texts), each tuple kept by a name. -/
noncomputable section
namespace Z
open PySem PySem.Spec PyProof.Rows L2

theorem outne {n0 m j c : Nat} (h : c < n0 ∨ n0 + m ≤ c) (hj : j < m) : c ≠ n0 + j := by omega
/-- the iterators, the first j of them one step on -/
def ItsAt (h : Heap) (n0 : Nat) (zs : List Str) (i j : Nat) : Prop := ∀ k x, zs[k]? = some x → ∃ t, h.IsStrIter (n0 + k) (PySem.strIterType x) x t (if k < j then i + 1 else i)
/-- the i-th signs of the first j texts -/
def CharsAt (zs : List Str) (i j : Nat) (vs : List Value) : Prop := ∀ k x, k < j → zs[k]? = some x → ∃ c u, x.cps[i]? = some c ∧ vs[k]? = some (.str ⟨#[c]⟩ u)
theorem ItsAt.keep {h h' : Heap} {n0 : Nat} {zs : List Str} {i j : Nat} (a : ItsAt h n0 zs i j) (k : ∀ q o, q < zs.length → h.get? (n0 + q) = some o → h'.get? (n0 + q) = some o) : ItsAt h' n0 zs i j := fun q x hq => by
  obtain ⟨t, o, ho, r⟩ := a q x hq
  exact ⟨t, o, k q o (List.getElem?_eq_some_iff.mp hq).1 ho, r⟩
section
variable {prog : Program} {w : World} {A : Around} {E : Value → Shared → Prop} {s : Shared} {n0 i : Nat} {zs : List Str}
/-- nothing else is changed -/
def OthN (n0 m : Nat) (h h' : Heap) : Prop := h'.objs.size = h.objs.size ∧ ∀ c o, c < n0 ∨ n0 + m ≤ c → h.get? c = some o → h'.get? c = some o
theorem OthN.step {m j : Nat} {h h1 h2 : Heap} (a : OthN n0 m h h1) (b : Heap.SameBut (n0 + j) h1 h2) (hj : j < m) : OthN n0 m h h2 := ⟨by rw [b.1, a.1], fun c o hc q => b.extBut _ _ (outne hc hj) (a.2 c o hc q)⟩
theorem CharsAt.snoc {j : Nat} {vs : List Value} {x : Str} {c : Nat} {u : Tok} (ch : CharsAt zs i j vs) (hl : vs.length = j) (hx : zs[j]? = some x) (hc : x.cps[i]? = some c) : CharsAt zs i (j + 1) (vs ++ [.str ⟨#[c]⟩ u]) := fun k y hk hy => by
  by_cases e : k = j
  · subst e
    rw [hx] at hy
    cases hy
    exact ⟨c, u, hc, by rw [List.getElem?_append_right (by omega)]; simp [hl]⟩
  · obtain ⟨c', u', q1, q2⟩ := ch k y (by omega) hy
    exact ⟨c', u', q1, by rw [List.getElem?_append_left (by omega)]; exact q2⟩
/-- what stands besides the iterators and the tuple that is written -/
def OthA (n0 m : Nat) (h h' : Heap) : Prop := h'.objs.size = h.objs.size ∧ ∀ c o, (c < n0 ∨ n0 + m ≤ c) → c ≠ n0 + m + 1 → h.get? c = some o → h'.get? c = some o
theorem OthA.it {m j : Nat} {h h1 h2 : Heap} (a : OthA n0 m h h1) (b : Heap.SameBut (n0 + j) h1 h2) (hj : j < m) : OthA n0 m h h2 := ⟨by rw [b.1, a.1], fun c o hc e q => b.extBut _ _ (outne hc hj) (a.2 c o hc e q)⟩
theorem OthA.to {m : Nat} {h h1 h2 : Heap} (a : OthA n0 m h h1) (b : Heap.SameBut (n0 + m + 1) h1 h2) : OthA n0 m h h2 := ⟨by rw [b.1, a.1], fun c o hc e q => b.extBut _ _ e (a.2 c o hc e q)⟩
theorem CharsAt.put {j : Nat} {vs : List Value} {x : Str} {c : Nat} {u : Tok} (ch : CharsAt zs i j vs) (hl : j < vs.length) (hx : zs[j]? = some x) (hc : x.cps[i]? = some c) : CharsAt zs i (j + 1) (vs.set j (.str ⟨#[c]⟩ u)) := fun k y hk hy => by
  by_cases e : k = j
  · subst e
    rw [hx] at hy
    cases hy
    exact ⟨c, u, hc, by rw [List.getElem?_set_self hl]⟩
  · obtain ⟨c', u', q1, q2⟩ := ch k y (by omega) hy
    exact ⟨c', u', q1, by rw [List.getElem?_set_ne (fun z => e z.symm)]; exact q2⟩
theorem ItsAt.next {h : Heap} (a : ItsAt h n0 zs i zs.length) : ItsAt h n0 zs (i + 1) 0 := fun k x hx => by
  obtain ⟨t, st⟩ := a k x hx
  rw [if_pos (List.getElem?_eq_some_iff.mp hx).1] at st
  exact ⟨t, by rw [if_neg (Nat.not_lt_zero k)]; exact st⟩
end
end Z
end
end
section
set_option Elab.async false
set_option linter.all false
set_option maxRecDepth 100000
set_option maxHeartbeats 1000000
/-! YQ: zip(*texts) as what is walked. -/
noncomputable section
namespace Z
open PySem PySem.Spec PyProof.Rows L2
section
variable {prog : Program} {w : World} {A : Around} {E : Value → Shared → Prop} {s : Shared}
end
end Z
end
end
section
set_option Elab.async false
set_option linter.all false
set_option maxRecDepth 100000
set_option maxHeartbeats 1000000
/-! YR: >= of tuples. -/
noncomputable section
namespace Z
open PySem PySem.Spec PyProof.Rows L2
end Z
end
end
section
set_option Elab.async false
set_option linter.all false
set_option maxRecDepth 100000
set_option maxHeartbeats 2000000
/-! YS: errors made by a call, held as values. -/
namespace PySem
namespace ZXK
open PySem.W PySem.Calls PyProof.Rows PySem.HandSPX Builtin Builtin.ObjectAttr
/-! ### an error's class called with keywords alone -/
section
variable {prog : Program} {w : World} {A : Around} {E : Value → Shared → Prop} {R : Result → Shared → Prop} {h : Heap} {g : Array GenState} {d : Drawn} {t : Nat} {os : OsState}
variable {nm q : Str} {C N : Addr} {bs bm bmB : List Value} {hdct : Bool} {sn : List Str} {sub : List Value} {ab : Bool} {col : Option Bool} {dd : Option Addr} {k0 k1 k2 k3 k5 : Option Value} {B newId initId : String}
end
end ZXK
end PySem
noncomputable section
namespace Z
open PySem PySem.Spec PyProof.Rows L2

section
variable {T : Tb} {K : PySem.W.Frag} {R : Pl} {F H : Hp} {S : Sto} {Q : VK}
end
section
variable {T : Tb} {X : Cx} {E : XS} {x : Str} {c j k : Nat} {fs : List Nat} {e : Expr} {es : List Expr} {ar : DA} {p pos rpos : Pos}
end
section
variable {T : Tb} {X : Cx} {E : XS} {x : Str} {c j k : Nat} {fs : List Nat} {ar : DA} {p pos : Pos} {kw : Keyword} {kws : List Keyword} {nms : List Str} {π : List Nat}

/-! ### an error's class without an __init__ of its own, without arguments -/
end
end Z
end
end
section
set_option Elab.async false
set_option linter.all false
set_option maxRecDepth 100000
set_option maxHeartbeats 2000000
/-! YT: repr of data with dicts in it. -/
noncomputable section
namespace Z
open PySem PySem.Spec PyProof.Rows L2

def keyD : Key → PyData
  | .inl i => .int i
  | .inr x => .str x
def pkD : PK → PyData
  | .k x => keyD x
  | .t xs => .tuple (xs.map keyD)
mutual
inductive Dq (K : PySem.W.Frag) (H : Hp) : V → PyData → Prop
  | non : Dq K H .non .none
  | bl (b : Bool) : Dq K H (.bl b) (.bool b)
  | int (i : Int) : Dq K H (.int i) (.int i)
  | str (x : Str) : Dq K H (.str x) (.str x)
  | lst {a : Addr} {xs : List V} {ds : List PyData} : SqL K H a xs → DqAll K H xs ds → Dq K H (.ref a) (.list ds)
  | tup {a : Addr} {xs : List V} {ds : List PyData} : SqT K H a xs → DqAll K H xs ds → Dq K H (.ref a) (.tuple ds)
  | dk {a : Addr} {kk : List Key} {us : List V} {ds : List PyData} : us.length = kk.length → Rd H a (.dK (kk.zip us)) → DqAll K H us ds → Dq K H (.ref a) (.dict ((kk.map keyD).zip ds))
  | dt {a : Addr} {kk : List (List Key)} {us : List V} {ds : List PyData} : us.length = kk.length → Rd H a (.dT (kk.zip us)) → DqAll K H us ds → Dq K H (.ref a) (.dict ((kk.map fun ks => .tuple (ks.map keyD)).zip ds))
inductive DqAll (K : PySem.W.Frag) (H : Hp) : List V → List PyData → Prop
  | nil : DqAll K H [] []
  | cons {v : V} {vs : List V} {d : PyData} {ds : List PyData} : Dq K H v d → DqAll K H vs ds → DqAll K H (v :: vs) (d :: ds)
end
/-- the table of modules stands in the written part -/
def smB (K : PySem.W.Frag) : Bool := match K.lookup sysModules with
  | some o => (match o.cls with
    | .type "list" => false
    | _ => true)
  | none => false
theorem smB_no {K : PySem.W.Frag} {h : Heap} (e : smB K = true) (kin : K.In h) {a : Addr} {o : Obj} (ho : h.get? a = some o) (hc : o.cls = .type "list") : a ≠ sysModules := fun z => by
  unfold smB at e
  split at e
  · rename_i o' hl
    have q := kin _ _ hl
    rw [← z, ho] at q
    cases q
    rw [hc] at e
    cases e
  · cases e
section
variable {X : Cx} {pins : List (Addr × Obj)} {σ : L2.St} {H : Hp} {s : Shared}
theorem reads_keys {P : Program} {w : World} {h : Heap} : ∀ {es : List DictEntry} {vs : List (Key × Value)}, Pairs (mixKind P w) es vs → ReadsAll h (es.map (·.key)) (vs.map fun p => keyD p.1) []
  | _, _, .nil => .nil
  | _, _, .cons (e := e) (kv := kv) hk hv t => by
    have r := reads_keys (h := h) t
    have hk' : keyIs kv.1 e.key = true := hk
    rcases keyIs_shape hk' with ⟨i, t, e1, e2⟩ | ⟨x, t, e1, e2⟩
    · rw [List.map_cons, List.map_cons, e2, e1]
      exact ReadsAll.cons (as := []) (bs := []) (Reads.int i t) r
    · rw [List.map_cons, List.map_cons, e2, e1]
      exact ReadsAll.cons (as := []) (bs := []) (Reads.str x t) r
theorem pairs_vals {P : Program} {w : World} : ∀ {es : List DictEntry} {vs : List (Key × Value)}, Pairs (mixKind P w) es vs → es.map (·.val) = vs.map (·.2)
  | _, _, .nil => rfl
  | _, _, .cons hk hv t => by rw [List.map_cons, List.map_cons, pairs_vals t, hv]
theorem kv_split : ∀ {kk : List Key} {us : List V} {vs : List (Key × Value)}, us.length = kk.length → KV (kk.zip us) vs → (vs.map (·.1)) = kk ∧ Vals us (vs.map (·.2))
  | [], [], vs, _, r => by cases r; exact ⟨rfl, .nil⟩
  | [], _ :: _, _, e, _ => by simp at e
  | _ :: _, [], _, e, _ => by simp at e
  | k :: kk, u :: us, vs, e, r => by
    cases r with
    | cons h t =>
      obtain ⟨e1, e2⟩ := h
      obtain ⟨q1, q2⟩ := kv_split (by simpa using e) t
      exact ⟨by rw [List.map_cons, q1, ← e1], .cons e2 q2⟩
theorem kt_split : ∀ {kk : List (List Key)} {us : List V} {vs : List (List Key × Addr × Value)}, us.length = kk.length → KT H (kk.zip us) vs → (vs.map (·.1)) = kk ∧ Vals us (vs.map (·.2.2)) ∧ ∀ q ∈ vs, H q.2.1 = some (.tup (q.1.map kV))
  | [], [], vs, _, r => by cases r; exact ⟨rfl, .nil, fun q hq => nomatch hq⟩
  | [], _ :: _, _, e, _ => by simp at e
  | _ :: _, [], _, e, _ => by simp at e
  | k :: kk, u :: us, vs, e, r => by
    cases r with
    | cons h t =>
      obtain ⟨e1, e2, e3⟩ := h
      obtain ⟨q1, q2, q3⟩ := kt_split (by simpa using e) t
      refine ⟨by rw [List.map_cons, q1, ← e1], .cons e3 q2, fun q hq => ?_⟩
      rcases List.mem_cons.mp hq with z | z
      · rw [z, ← e1]; exact e2
      · exact q3 q z
theorem keys_read {h : Heap} : ∀ {ks : List Key} {its : List Value}, Vals (ks.map kV) its → ReadsAll h its (ks.map keyD) []
  | [], _, r => by cases r; exact .nil
  | k :: ks, _, r => by
    cases r with
    | cons r1 r2 =>
      have q := keys_read (h := h) r2
      cases k with
      | inl i => obtain ⟨t, rfl⟩ := r1; exact ReadsAll.cons (as := []) (bs := []) (Reads.int i t) q
      | inr x => obtain ⟨t, rfl⟩ := r1; exact ReadsAll.cons (as := []) (bs := []) (Reads.str x t) q
theorem tkeys_read (I : Inv X pins σ H s) : ∀ {vs : List (List Key × Addr × Value)}, (∀ q ∈ vs, H q.2.1 = some (.tup (q.1.map kV))) → ReadsAll s.heap (vs.map fun q => Value.ref q.2.1) (vs.map fun q => PyData.tuple (q.1.map keyD)) []
  | [], _ => .nil
  | q :: vs, h => by
    have t := tkeys_read I (vs := vs) fun p hp => h p (List.mem_cons_of_mem _ hp)
    obtain ⟨_, its, r, o, h1, h2, n, h3⟩ := (show ObjOk X.prog X.w H s.heap q.2.1 (.tup (q.1.map kV)) from I.hok _ _ (h q List.mem_cons_self))
    exact ReadsAll.cons (as := []) (bs := []) (Reads.tuple h1 h2 h3 (by simpa using keys_read r)) t
mutual
theorem Dq.reads (hsm : smB X.K = true) (I : Inv X pins σ H s) : ∀ (v : V) (d : PyData) (u : Value), Dq X.K H v d → RelV v u → ∃ as, Reads s.heap u d as ∧ sysModules ∉ as
  | _, _, _, .non, r => by cases r; exact ⟨_, Reads.none, by simp⟩
  | _, _, _, .bl b, r => by cases r; exact ⟨_, Reads.bool b, by simp⟩
  | _, _, _, .int i, r => by obtain ⟨t, rfl⟩ := r; exact ⟨_, Reads.int i t, by simp⟩
  | _, _, _, .str x, r => by obtain ⟨t, rfl⟩ := r; exact ⟨_, Reads.str x t, by simp⟩
  | _, _, _, .lst hs ha, r => by
    cases r
    obtain ⟨its, rv, ⟨o, n, ho, hc, _, hd⟩, _⟩ := I.list hs
    obtain ⟨as, hr, hn⟩ := DqAll.reads hsm I _ _ its ha rv
    refine ⟨_, Reads.list ho hc hd hr, fun z => ?_⟩
    rcases List.mem_cons.mp z with z | z
    · exact smB_no hsm I.kIn ho hc z.symm
    · exact hn z
  | _, _, _, .tup hs ha, r => by
    cases r
    obtain ⟨its, rv, ⟨o, ho, hc, n, hd⟩, _⟩ := I.tuple hs
    obtain ⟨as, hr, hn⟩ := DqAll.reads hsm I _ _ its ha rv
    exact ⟨_, Reads.tuple ho hc hd hr, hn⟩
  | _, _, _, .dk (a := a) (kk := kk) (us := us) (ds := ds) hl hd ha, r => by
    cases r
    obtain ⟨_, hs, vs, rel, o, es, n, h1, ⟨h2, _⟩, h3, _, h4, _⟩ := dk_rd I.hok hd
    obtain ⟨e1, e2⟩ := kv_split hl rel
    obtain ⟨bs, hr, hn⟩ := DqAll.reads hsm I _ _ _ ha e2
    have ld : ds.length = us.length := ha.length
    have k1 : ((kk.map keyD).zip ds).map (·.1) = vs.map fun p => keyD p.1 := by
      rw [List.map_fst_zip (by rw [List.length_map, ld, hl]; exact Nat.le_refl _), ← e1, List.map_map]; rfl
    have k2 : ((kk.map keyD).zip ds).map (·.2) = ds := List.map_snd_zip (by rw [List.length_map, ld, hl]; exact Nat.le_refl _)
    refine ⟨_, Reads.dict (as := []) (bs := bs) h1 h2 h3 (by rw [k1]; exact reads_keys h4) (by rw [k2, pairs_vals h4]; exact hr), fun z => ?_⟩
    have z : sysModules ∈ a :: bs := by simpa using z
    rcases List.mem_cons.mp z with z | z
    · rw [z] at hs; simp at hs
    · exact hn z
  | _, _, _, .dt (a := a) (kk := kk) (us := us) (ds := ds) hl hd ha, r => by
    cases r
    obtain ⟨_, hs, vs, rel, o, es, n, h1, ⟨h2, _⟩, h3, h4, _⟩ := dt_rd I.hok hd
    obtain ⟨e1, e2, e3⟩ := kt_split hl rel
    obtain ⟨bs, hr, hn⟩ := DqAll.reads hsm I _ _ _ ha e2
    have ld : ds.length = us.length := ha.length
    have k1 : ((kk.map fun ks => PyData.tuple (ks.map keyD)).zip ds).map (·.1) = vs.map fun q => PyData.tuple (q.1.map keyD) := by
      rw [List.map_fst_zip (by rw [List.length_map, ld, hl]; exact Nat.le_refl _), ← e1, List.map_map]; rfl
    have k2 : ((kk.map fun ks => PyData.tuple (ks.map keyD)).zip ds).map (·.2) = ds := List.map_snd_zip (by rw [List.length_map, ld, hl]; exact Nat.le_refl _)
    refine ⟨_, Reads.dict (as := []) (bs := bs) h1 h2 h3 (by
      rw [k1, h4, List.map_map]
      exact tkeys_read I e3) (by
      rw [k2, h4, List.map_map]
      exact hr), fun z => ?_⟩
    have z : sysModules ∈ a :: bs := by simpa using z
    rcases List.mem_cons.mp z with z | z
    · rw [z] at hs; simp at hs
    · exact hn z
theorem DqAll.reads (hsm : smB X.K = true) (I : Inv X pins σ H s) : ∀ (vs : List V) (ds : List PyData) (us : List Value), DqAll X.K H vs ds → Vals vs us → ∃ as, ReadsAll s.heap us ds as ∧ sysModules ∉ as
  | _, _, _, .nil, r => by cases r; exact ⟨_, ReadsAll.nil, by simp⟩
  | _, _, _, .cons h1 h2, r => by
    cases r with
    | cons r1 r2 =>
      obtain ⟨as, q1, n1⟩ := Dq.reads hsm I _ _ _ h1 r1
      obtain ⟨bs, q2, n2⟩ := DqAll.reads hsm I _ _ _ h2 r2
      exact ⟨_, ReadsAll.cons q1 q2, fun z => (List.mem_append.mp z).elim n1 n2⟩
theorem DqAll.length {K : PySem.W.Frag} {H : Hp} : ∀ {vs : List V} {ds : List PyData}, DqAll K H vs ds → ds.length = vs.length
  | _, _, .nil => rfl
  | _, _, .cons _ h2 => by rw [List.length_cons, List.length_cons, DqAll.length h2]
end
end

/-! ### as the values' -/
mutual
def datG : PV → Option PyData
  | .non => some .none
  | .bl b => some (.bool b)
  | .int i => some (.int i)
  | .str x => some (.str x)
  | .nd .lst xs => (datGL xs).map .list
  | .nd .scr xs => (datGL xs).map .list
  | .nd .tup xs => (datGL xs).map .tuple
  | .nd (.dct _ ks) xs => (datGL xs).map fun ds => .dict ((ks.map pkD).zip ds)
  | _ => none
def datGL : List PV → Option (List PyData)
  | [] => some []
  | x :: xs => (datG x).bind fun d => (datGL xs).map fun ds => d :: ds
end
section
variable {T : Tb} {K : PySem.W.Frag} {R : Pl} {F H : Hp}
end
end Z
end
section
set_option Elab.async false
set_option linter.all false
set_option maxRecDepth 100000
set_option maxHeartbeats 1000000
/-! YU: the head's hook that also sees the table of modules. -/
noncomputable section
namespace Z
open PySem PySem.Spec PyProof.Rows L2

/-! ### the sum of two lists as a thing that may change -/
end Z
end
end
section
set_option Elab.async false
set_option linter.all false
set_option maxRecDepth 100000
set_option maxHeartbeats 1000000
/-! YV: lemmas to reckon with. -/
noncomputable section
namespace Z
open PySem PySem.Spec PyProof.Rows L2
theorem seq_of {s t : DS} {l l1 : Loc} {S S1 : Sto} (h : s l S = .nx l1 S1) : dSeq s t l S = t l1 S1 := by
  show (s l S).seq t = _
  rw [h]; rfl
theorem lcZ_filt {t : TgZ} {hs : List (PV × Kd × List PV)} {c : DB} {el : DE} {l : Loc} {S : Sto} (p : PV → Bool) (g : PV → PV) (hh : heldB hs S = true) : ∀ xs : List PV, (∀ x ∈ xs, ∃ ps, asg t x = some ps ∧ c (setZ l ps) S = .ok (p x) S ∧ (p x = true → el (setZ l ps) S = .ok (g x) S)) → lcZ t hs c el l xs S = .ok ((xs.filter p).map g) S
  | [], _ => rfl
  | x :: xs, h => by
    obtain ⟨ps, h1, h2, h3⟩ := h x List.mem_cons_self
    have ih := lcZ_filt p g hh xs fun y hy => h y (List.mem_cons_of_mem _ hy)
    rw [lcZ, h1]
    simp only
    rw [h2]
    cases q : p x with
    | true =>
      simp only
      rw [h3 q]
      simp only
      rw [if_pos hh, ih, List.filter_cons, if_pos q]
      rfl
    | false =>
      simp only
      rw [if_pos hh, ih, List.filter_cons, if_neg (by rw [q]; decide)]
theorem dLc_filt {vs : List Nat} {di : DI} {t : TgZ} {c : DB} {el : DE} {l : Loc} {S : Sto} {it : ItZ} (p : PV → Bool) (g : PV → PV) (hi : di l S = .ok it S) (hh : heldB it.held S = true) (hl : it.items.length ≤ 16777216)
    (he : ∀ x ∈ it.items, ∃ ps, asg t x = some ps ∧ c (setZ (wipeZ l vs) ps) S = .ok (p x) S ∧ (p x = true → el (setZ (wipeZ l vs) ps) S = .ok (g x) S)) : dLc vs di t c el l S = .ok (.nd .lst ((it.items.filter p).map g)) S := by
  rw [dLc_ap, dLc0_ap, hi, bind_ok, if_pos ⟨hh, hl⟩, lcZ_filt p g hh it.items he, bind_ok]
end Z
end
end
section
set_option Elab.async false
set_option linter.all false
set_option maxRecDepth 100000
set_option maxHeartbeats 2000000
/-! YW: == and != of data of all kinds. -/
namespace PySem
namespace ZDE
open PySem.SeqAt PyProof.Rows
/-! ### a dict beside a thing of another type: unlike -/
section
variable {prog : Program} {w : World} {A : Around} {E : Value → Shared → Prop} {s : Shared} {l : Addr}
end

/-! ### two dicts -/
section
variable {prog : Program} {w : World} {A : Around} {E : Value → Shared → Prop} {s : Shared} {a b : Addr}
variable {K : Type} [DecidableEq K] {knd : HeapKind prog w K}
/-- what is compared, key by key -/
inductive HitsH (prog : Program) (w : World) (B : Around) (s : Shared) (ys : List (K × Addr × Value)) : List (K × Addr × Value) → Bool → Prop
  | nil : HitsH prog w B s ys [] true
  | miss {x : K × Addr × Value} {r : List (K × Addr × Value)} : atKey ys x.1 = none → HitsH prog w B s ys (x :: r) false
  | hit {x : K × Addr × Value} {p : Addr × Value} {r : List (K × Addr × Value)} {e f : Bool} : atKey ys x.1 = some p → EqIn prog w B s x.2.2 p.2 e → HitsH prog w B s ys r f → HitsH prog w B s ys (x :: r) (e && f)
end

section
variable {prog : Program} {w : World} {A : Around} {E : Value → Shared → Prop} {s : Shared} {a b : Addr}
end
end ZDE
end PySem

namespace Z
open PySem PySem.Spec PyProof.Rows L2
/-! ### equality of data, dicts among it -/
def keyEq1 : PyData → PyData → Bool
  | .int i, .int j => decide (i = j)
  | .str x, .str y => decide (x = y)
  | _, _ => false
def keyEqL : List PyData → List PyData → Bool
  | [], [] => true
  | x :: xs, y :: ys => keyEq1 x y && keyEqL xs ys
  | _, _ => false
def keyEq : PyData → PyData → Bool
  | .tuple xs, .tuple ys => keyEqL xs ys
  | x, y => keyEq1 x y

/-! ### dicts by their keys -/
section
variable {κ : Type} [DecidableEq κ]
variable {enc : κ → PyData} (henc : ∀ a b, keyEq (enc a) (enc b) = decide (a = b))
include henc
end
theorem DqAll.at_ {K : PySem.W.Frag} {H : Hp} : ∀ {us : List V} {ds : List PyData}, DqAll K H us ds → ∀ (j : Nat) (u : V), us[j]? = some u → Dq K H u (ds.getD j .none) ∧ ds.getD j .none ∈ ds
  | _, _, .nil, j, u, h => by simp at h
  | _, _, .cons h1 h2, 0, u, h => by simp at h; subst h; exact ⟨h1, List.mem_cons_self⟩
  | _, _, .cons h1 h2, j + 1, u, h => by
    simp at h
    obtain ⟨q1, q2⟩ := h2.at_ j u h
    exact ⟨q1, List.mem_cons_of_mem _ q2⟩
section
variable {X : Cx} {pins : List (Addr × Obj)} {σ : L2.St} {H : Hp} {s : Shared} {a b : Addr}
end

/-! ### equality by levels -/
section
variable {X : Cx} {pins : List (Addr × Obj)} {σ : L2.St} {H : Hp} {s : Shared}
def RcI (X : Cx) (s : Shared) (n : Nat) (u w : Value) (b : Bool) : Prop := ∀ (A : Around) (E Q : Value → Shared → Prop), A.units + n < cLine → Q (.bool b) s → wpAny (model X.prog X.w) A (richCompare .Eq u w) Q E s
theorem RcI.of {n : Nat} {u w : Value} {b : Bool} (h : ∀ A : Around, A.units < cLine → SeqAt.RcAt A s u w b) : RcI X s n u w b := fun A E Q hu q => h A (by omega) X.prog X.w E Q q



end
end Z
end
section
set_option Elab.async false
set_option linter.all false
set_option maxRecDepth 100000
set_option maxHeartbeats 2000000
/-! YX: != of dicts; the operators. -/
namespace PySem
namespace ZDE
open PySem.SeqAt PyProof.Rows
/-! ### a dict beside a thing of another type, by != -/
section
variable {prog : Program} {w : World} {A : Around} {E : Value → Shared → Prop} {s : Shared} {l : Addr}
end

section
variable {prog : Program} {w : World} {A : Around} {E : Value → Shared → Prop} {s : Shared} {a b : Addr}
end
end ZDE
end PySem
noncomputable section
namespace Z
open PySem PySem.Spec PyProof.Rows L2
section
variable {X : Cx} {pins : List (Addr × Obj)} {σ : L2.St} {H : Hp} {s : Shared}
end
section
variable {T : Tb} {K : PySem.W.Frag} {r1 r2 : R2} {f g : PV → PV → Sto → Out PV}
end
section
variable {X : Cx}
end
end Z
end
end
section
set_option Elab.async false
set_option linter.all false
set_option maxRecDepth 100000
set_option maxHeartbeats 2000000
/-! YZ: != of two lists of own things, equal one by one. -/
namespace PySem
namespace ZDN
open PySem.SeqAt GQ
open AutoSeq1 (wpAny_loadPart')
open MeetsSeq MeetsSeq2 MeetsSeq3 SeqRoads2
section
variable {prog : Program} {w : World} {A : Around} {R : Result → Shared → Prop}
end
section
variable {prog : Program} {w : World} {A : Around} {E : Value → Shared → Prop} {s : Shared}
end
end ZDN
end PySem
noncomputable section
namespace Z
open PySem PySem.Spec PyProof.Rows L2
section
variable {T : Tb} {X : Cx} {E : XK} {j k : Nat} {D : List (Nat × DF)}
end
section
variable {T : Tb} {P : Program} {w : World} {K : PySem.W.Frag} {mg : Str → Option Value} {base : Heap} {j c : Nat} {d : DF} {D : List (Nat × DF)}
end
/-! ### what is shown, bounded -/
def Sh (m k : Nat) (x : PV) : Prop := ∃ d, datG x = some d ∧ d.showable = true ∧ d.depth ≤ k ∧ d.shown.length ≤ m
theorem Sh.mono {m k m' k' : Nat} {x : PV} (h : Sh m k x) (hm : m ≤ m') (hk : k ≤ k') : Sh m' k' x := by
  obtain ⟨d, h1, h2, h3, h4⟩ := h
  exact ⟨d, h1, h2, by omega, by omega⟩
/-! ### == of things of several own classes -/
/-! ### a, b, .. = a list -/
end Z
end
end
section
set_option Elab.async false
set_option linter.all false
set_option maxRecDepth 100000
set_option maxHeartbeats 1000000
/-! XA: the head by the objects written out (z_head). -/
noncomputable section
namespace Z
open PySem PySem.Spec PyProof.Rows L2
/-- the written objects, but for the tables -/
def noTab (K : PySem.W.Frag) : PySem.W.Frag := K.filter fun p => !(isTab (some p.2))
def obsX (fa : List He.Fa) (ex : List (PySem.W.Frag → Bool)) (fn : List He5.DefA) (tb : List (Str × Str)) (K : PySem.W.Frag) : He.AlD :=
  ((obsZ fa ex fn (noTab K)).1 && ((tb.all fun p => tabOk (fun a => K.lookup a) (noTab K) p) && decide ((tabsOf tb (noTab K)).map (·.1)).Nodup), (obsZ fa ex fn (noTab K)).2)
def SaysX (fa : List He.Fa) (ex : List (PySem.W.Frag → Bool)) (fn : List He5.DefA) (tb : List (Str × Str)) (_ : World) (h : Heap) : Prop := ∃ K : PySem.W.Frag, K.In h ∧ SaysZ fa ex fn K ∧ TabsGood tb K h
theorem allIn_mem {h : Heap} : ∀ {K : PySem.W.Frag}, PySem.W.X.AllIn h K → ∀ p ∈ K, h.get? p.1 = some p.2
  | [], _, _, hp => nomatch hp
  | q :: K, a, p, hp => by
    rcases List.mem_cons.mp hp with rfl | hp
    · exact a.1
    · exact allIn_mem a.2 p hp
theorem lookup_mem' {K : PySem.W.Frag} {a : Addr} {o : Obj} : K.lookup a = some o → (a, o) ∈ K := mem_of_lookup
theorem in_of {h : Heap} {K : PySem.W.Frag} (a : ∀ p ∈ K, h.get? p.1 = some p.2) : K.In h := fun x o e => a (x, o) (lookup_mem' e)
theorem says_of {K : PySem.Params → PySem.W.Frag} {as : List Addr} {n t : Nat} {fa : List He.Fa} {ex : List (PySem.W.Frag → Bool)} {fn : List He5.DefA} {tb : List (Str × Str)} (e : ∀ P, as = (K P).map (·.1)) (hv : ∀ P, obsX fa ex fn tb (K P) = valZ fn)
    (w : World) (s : Shared) (y : PySem.W.X.obsZ as s = PySem.W.X.valZ K n t w) : SaysX fa ex fn tb w s.heap := by
  have al := allIn_mem (PySem.W.X.z_facts e y).1
  have v := hv w.params
  have e1 : (obsX fa ex fn tb (K w.params)).1 = true := congrArg Prod.fst v
  have e2 : (obsX fa ex fn tb (K w.params)).2 = fn.map He5.DefA.val := congrArg Prod.snd v
  obtain ⟨a, b⟩ := Bool.and_eq_true_iff.mp e1
  obtain ⟨b1, b2⟩ := Bool.and_eq_true_iff.mp b
  refine ⟨noTab (K w.params), in_of fun p hp => al p ((List.mem_filter.mp hp).1), Prod.ext a e2, ⟨fun p hp => ?_, of_decide_eq_true b2⟩⟩
  have q := List.all_eq_true.mp b1 p hp
  unfold tabOk at q
  split at q
  · rename_i c P ht
    obtain ⟨q1, q2⟩ := Bool.and_eq_true_iff.mp q
    obtain ⟨q2, q3⟩ := Bool.and_eq_true_iff.mp q2
    exact ⟨c, P, ht, q1, Option.isNone_iff_eq_none.mp q2, al _ (lookup_mem' (isTab_eq q3))⟩
  · cases q
theorem says_keeps {fa : List He.Fa} {ex : List (PySem.W.Frag → Bool)} {fn : List He5.DefA} {tb : List (Str × Str)} (w : World) (h h' : Heap) : SaysX fa ex fn tb w h → (∀ b o, h.get? b = some o → h'.get? b = some o) → SaysX fa ex fn tb w h' :=
  fun ⟨K, hK, c, t⟩ k => ⟨K, PySem.W.Frag.In.keeps hK k, c, ⟨fun p hp => let ⟨c, P, h1, h2, h3, h4⟩ := t.each p hp; ⟨c, P, h1, h2, h3, k _ _ h4⟩, t.one⟩⟩
theorem walkX_of {q : Program} {loose : List Str} {XP : (Str → Option Value) → Heap → Prop} {α : Type} {Yf : Shared → α} {Ya : World → α} {r : PySem.W.RowW} {d : DefRec} {kwd : List (Str × Expr)} {run : Value → List Value → Sem Value} {YP : World → Heap → Prop}
    (of : ∀ w s, Yf s = Ya w → YP w s.heap) (keeps : ∀ w h h', YP w h → (∀ b o, h.get? b = some o → h'.get? b = some o) → YP w h') (c : PySem.W.WalkO q loose XP YP r d kwd run) : PySem.W.WalkX q loose XP Yf Ya r d kwd run :=
  fun w s₀ s₁ mg mb G y a o pm cd doc dV kV h1 h2 h3 h4 h5 h6 args vals as L p1 p2 p3 p4 p5 => c w s₀ s₁ mg mb G (keeps w _ _ (of w s₀ y) L.keeps) a o pm cd doc dV kV h1 h2 h3 h4 h5 h6 args vals as p1 p2 p3 p4 p5
end Z
end
end
section
set_option Elab.async false
set_option linter.all false
set_option maxRecDepth 100000
set_option maxHeartbeats 2000000
/-! XB: != of lists of data with dicts inside. -/
namespace PySem
namespace ZDN
open PySem.SeqAt GQ
open AutoSeq1 (wpAny_loadPart')
open MeetsSeq MeetsSeq2 MeetsSeq3 SeqRoads2
section
variable {prog : Program} {w : World} {A : Around} {R : Result → Shared → Prop}
end
end ZDN
end PySem
noncomputable section
namespace Z
open PySem PySem.Spec PyProof.Rows L2
section
variable {X : Cx} {pins : List (Addr × Obj)} {σ : L2.St} {H : Hp} {s : Shared}
end
end Z
end
end
section
set_option Elab.async false
set_option linter.all false
set_option maxRecDepth 100000
set_option maxHeartbeats 1000000
/-! XC: the head's hook that goes once through the heap's list of objects. -/
noncomputable section
namespace Z
open PySem PySem.Spec PyProof.Rows L2
end Z
end
end
section
set_option Elab.async false
set_option linter.all false
set_option maxRecDepth 100000
set_option maxHeartbeats 1000000
/-! XD: defs with defaults, called with fewer values. -/
noncomputable section
namespace Z
open PySem PySem.Spec PyProof.Rows L2
/-- a def whose last parameters have the values ds if they are not written -/
structure FnDf (T : Tb) (P : Program) (w : World) (K : PySem.W.Frag) (mg : Str → Option Value) (base : Heap) (k : Nat) (x : Str) (ps : List Str) (ds : List PV) (d : DF) : Prop where
  ex : ∃ (f : Addr) (fd : FuncData) (us : List Value) (vs : List V), mg x = some (.ref f) ∧ PySem.W.keepIn K (.ref f) = true ∧ FnG T P w K mg base k f fd ps d ∧ Binds K fd ps us ∧ Vals vs us ∧ ∀ (R : Pl) (F : Hp), RelL T K R F ds vs
  ar : ∀ (xs : List PV) (S : Sto), xs.length ≠ ps.length → d xs S = .bad
theorem FnDf.clo {T : Tb} {P : Program} {w : World} {K : PySem.W.Frag} {mg : Str → Option Value} {base : Heap} {k : Nat} {x : Str} {ps : List Str} {ds : List PV} {d : DF} (F : FnDf T P w K mg base k x ps ds d) : FnDf T P w K mg base k x ps ds (Z.clo d) := by
  obtain ⟨f, fd, us, vs, h1, h2, h3, h4, h5, h6⟩ := F.ex
  exact ⟨⟨f, fd, us, vs, h1, h2, h3.clo, h4, h5, h6⟩, fun xs S hl => clo_bad (fun S => F.ar xs S hl) S⟩
section
variable {T : Tb} {X : Cx} {E : XS} {x : Str} {p pos : Pos} {e : Expr} {es : List Expr} {ps : List Str} {ds : List PV} {d : DF} {ar : DA} {j k : Nat}
end
end Z
end
end
section
set_option Elab.async false
set_option linter.all false
set_option maxRecDepth 100000
set_option maxHeartbeats 2000000
/-! XE: texts put together by their parts, with widths. -/
noncomputable section
namespace Z
open PySem PySem.Spec PyProof.Rows L2
/-! ### one part -/
section
variable {T : Tb} {X : Cx} {E : XS} {e : Expr} {d : DE} {pos : Pos}
/-! ### the parts -/
inductive JJ (T : Tb) (X : Cx) (E : XS) : List Expr → List DE → Prop where
  | nil : JJ T X E [] []
  | cons {e : Expr} {d : DE} {es : List Expr} {ds : List DE} (h : JE T X E e d) (r : JJ T X E es ds) : JJ T X E (e :: es) (d :: ds)
end
/-! ### {x:>8} of a text -/
def pad8 (x : Str) : Str := ⟨(List.replicate (8 - x.cps.toList.length) 32 ++ x.cps.toList).toArray⟩
def fmtR (x : Str) : Str := Builtin.Str.padded (Builtin.Str.strSub x 0 x.length) (8 - (Builtin.Str.strSub x 0 x.length).length) (8 - (Builtin.Str.strSub x 0 x.length).length - (8 - (Builtin.Str.strSub x 0 x.length).length)) 32
/-! ### {n:07d} of an int -/
abbrev sp7 : Str := "07d"
def f7 : Builtin.Float.FormatSpec := { fill := 48, align := 61, width := some 7, type := some 100 }
theorem p7 (nm : String) : Builtin.Float.parseFormatSpec sp7.cps.toList nm 62 = .ok f7 := by kernel_rfl

/-! ### the parts with widths -/
theorem s8 (x : Str) : fmtR x = pad8 x := by
  obtain ⟨a⟩ := x
  unfold fmtR pad8 Builtin.Str.padded Builtin.Str.strSub
  have e : a.extract 0 (Str.length ⟨a⟩) = a := by simp [Str.length]
  simp only [e]
  congr 1
  apply Array.ext'
  simp [Str.length]
section
variable {T : Tb} {X : Cx} {E : XS} {e sp : Expr} {d : DE} {pos : Pos}
end
end Z
end
end
section
set_option Elab.async false
set_option linter.all false
set_option maxRecDepth 100000
set_option maxHeartbeats 2000000
/-! XF: a static method with *v and **d, called with stars and keywords. -/
noncomputable section
namespace Z
open PySem PySem.Spec PyProof.Rows L2 PySem.W
/-! ### the new dict of what is left over -/
section
variable {prog : Program} {w : World} {A : Around} {E : Value → Shared → Prop}
end
/-! ### def f(a, .., *v, **d), called with keywords that d takes -/
abbrev DK := List PV → List PV → Sto → Out PV
def spK (T : Tb) (K : PySem.W.Frag) (d : DK) (vs zs : List V) (H : Hp) (Q : VK) (E : XK) : Prop := ∃ R F S xs ys, Rep T K R F S H ∧ RelL T K R F xs vs ∧ RelL T K R F ys zs ∧ OkV T K R F (d xs ys S) Q E
def FnPK (T : Tb) (P : Program) (w : World) (K : PySem.W.Frag) (mg : Str → Option Value) (base : Heap) (k : Nat) (f : Addr) (nms : List Str) (d : DK) : Prop :=
  ∀ (A : Around) (outer : List Env) (s : Shared) (H : Hp) (us ws : List Value) (vs zs : List V) (Q : VK) (E : XK), Room k A → A.guards = some [] → Env0 P w K mg base A outer s H → Vals vs us → Vals zs ws → zs.length = nms.length → spK T K d vs zs H Q E →
    codeAny (model P w) A (.call (.ref f) ⟨us, nms.zip ws⟩) (CR (L2.CX P w) outer P w H s Q E) s
/-! ### the call with stars and keywords -/
structure StatK (T : Tb) (P : Program) (w : World) (K : PySem.W.Frag) (mg : Str → Option Value) (base : Heap) (k c : Nat) (m : Str) (nms : List Str) (d : DK) : Prop where
  ex : ∃ (p g : Addr) (rest : List Value), ClX.CRead K (T.ca K c) (.type "type") ∧ PySem.W.findCls K (.ref (T.ca K c)) (.type "type") m = some (.get (.builtin "staticmethod.__get__") (.ref p) .none (.ref (T.ca K c))) ∧ PySem.W.recIn K p "staticmethod" = some (.ref g :: rest) ∧
    PySem.W.keepIn K (.ref g) = true ∧ FnPK T P w K mg base k g nms d
/-- the same def with new things of its own put away -/
def cloK (d : DK) : DK := fun xs ys S => clo (fun zs S => d (zs.take xs.length) (zs.drop xs.length) S) (xs ++ ys) S
theorem spK_clo {T : Tb} {K : PySem.W.Frag} {d : DK} {vs zs : List V} {H : Hp} {Q : VK} {E : XK} (h : spK T K (cloK d) vs zs H Q E) : spK T K d vs zs H Q E := by
  obtain ⟨R, F, S, xs, ys, r, rx, ry, h⟩ := h
  obtain ⟨R', S', r', rx', h'⟩ := clo_ok r (rx.append ry) h
  have e1 : (xs ++ ys).take xs.length = xs := List.take_left
  have e2 : (xs ++ ys).drop xs.length = ys := List.drop_left
  have h2 : OkV T K R' F (d xs ys S') Q E := by
    have h3 : OkV T K R' F (d ((xs ++ ys).take xs.length) ((xs ++ ys).drop xs.length) S') Q E := h'
    rw [e1, e2] at h3
    exact h3
  have q1 := rx'.take xs.length
  have q2 := rx'.drop xs.length
  rw [e1, List.take_append_of_le_length (by rw [rx.length]; exact Nat.le_refl _), List.take_of_length_le (by rw [rx.length]; exact Nat.le_refl _)] at q1
  rw [e2, List.drop_append_of_le_length (by rw [rx.length]; exact Nat.le_refl _), List.drop_of_length_le (by rw [rx.length]; exact Nat.le_refl _), List.nil_append] at q2
  exact ⟨R', F, S', xs, ys, r', q1, q2, h2⟩
theorem StatK.clo {T : Tb} {P : Program} {w : World} {K : PySem.W.Frag} {mg : Str → Option Value} {base : Heap} {k c : Nat} {m : Str} {nms : List Str} {d : DK} (F : StatK T P w K mg base k c m nms d) : StatK T P w K mg base k c m nms (cloK d) := by
  obtain ⟨p, g, rest, h1, h2, h3, h4, G⟩ := F.ex
  exact ⟨p, g, rest, h1, h2, h3, h4, fun A outer s H us ws vs zs Q E hr hg e0 r rz hl h => G A outer s H us ws vs zs Q E hr hg e0 r rz hl (spK_clo h)⟩
section
variable {T : Tb} {X : Cx} {E : XS} {x m : Str} {p pos apos : Pos} {e o : Expr} {es : List Expr} {kw : Keyword} {kws : List Keyword} {nms : List Str} {d : DK} {ar kr : DA} {j k c : Nat}
end
end Z
end
end
section
set_option Elab.async false
set_option linter.all false
set_option maxRecDepth 100000
set_option maxHeartbeats 2000000
/-! XG: own classes whose __init__ has a star. -/
noncomputable section
namespace Z
open PySem PySem.Spec PyProof.Rows L2
section
variable {T : Tb} {X : Cx} {E : XS} {x : Str} {e : Expr} {es : List Expr} {ar : DA} {d : DF} {p pos kpos : Pos} {c : Nat} {j k : Nat}
end
end Z
end
end
section
set_option Elab.async false
set_option linter.all false
set_option maxRecDepth 100000
set_option maxHeartbeats 2000000
/-! XH: text[::-1]. -/
noncomputable section
namespace Z
open PySem PySem.Spec PyProof.Rows L2
section
variable {T : Tb} {X : Cx} {E : XS} {e : Expr} {d : DE}
end
end Z
end
end
section
set_option Elab.async false
set_option linter.all false
set_option maxRecDepth 100000
set_option maxHeartbeats 2000000
/-! XI: own __getitem__; star methods with plain values; a static method with keywords and plain values. -/
noncomputable section
namespace Z
open PySem PySem.Spec PyProof.Rows L2
/-! ### o[i], o an instance of an own class -/
section
variable {T : Tb} {X : Cx} {E : XS} {x m : Str} {e o i : Expr} {es : List Expr} {d : DF} {dO di : DE} {ar : DA} {pos apos : Pos} {j k c : Nat}
/-! ### o.m(e, ..), m with a star -/
/-! ### C.m(e, .., k = v, ..), no stars in the call -/
end
end Z
end
end
section
set_option Elab.async false
set_option linter.all false
set_option maxRecDepth 100000
set_option maxHeartbeats 2000000
/-! XJ: len(set(list of ints)). -/
noncomputable section
namespace Z
open PySem PySem.Spec PyProof.Rows L2
abbrev fmet (ns : List Int) : List Int := PyProof.Rows.firstMet (fun i => ns.getD i 0) ns.length
def SetL (P : Program) (w : World) (a : Addr) (ns : List Int) : HO := .ext fun h => h.SetOf (intKind P w) a (fun k' => (fmet ns).any (· == k')) (fmet ns).length
def rSetL (K : PySem.W.Frag) (P : Program) (w : World) : List V → Hp → VK → Prop := fun xs H Q => ∃ (l : Addr) (ns : List Int), xs = [.ref l] ∧ SqL K H l (ns.map V.int) ∧ ns.length + 1 < scanBound ∧ ∀ p, H p = none → Q (.ref p) (upd H p (SetL P w p ns))
section
variable {T : Tb} {X : Cx} {E : XS} {e : Expr} {d : DE} {p1 p2 pos1 pos2 : Pos}
end
end Z
end
end
section
set_option Elab.async false
set_option linter.all false
set_option maxRecDepth 100000
set_option maxHeartbeats 1000000
/-! XK: `//` by divisors of any size: the place is deep enough and no `_pylong` is held. -/
noncomputable section
namespace Z
open PySem PySem.Spec PyProof.Rows L2
section
variable {T : Tb} {X : Cx} {E : XS} {K : PySem.W.Frag} {k : Nat}
/-- the frame that runs is a def's own -/
def Fro (X : Cx) : Prop := ∃ (e : Env) (l : List Env), X.stack = e :: l ∧ e.scope.isGenerator = false ∧ e.scope.isCoroutine = false ∧ e.builtins = builtinsNs ∧ e.globals = mainGlobals
theorem room_pyl (hr : Room k X.A) (hk : 32 ≤ k) (se : X.base.NoSeer) (ht : X.prog.given.tree = none) (hst : Fro X)
    {pins : List (Addr × Obj)} {σ : L2.St} {H : Hp} {s : Shared} (I : Inv X pins σ H s) : PylongRoom (model X.prog X.w) X.A s := by
  have e0 := I.env0
  obtain ⟨e, l, h1, h2, h3, h4, h5⟩ := hst
  have hp : Builtin.pylongFrames = 100 := rfl
  refine PylongRoom.of (e0.mod.nolimit.keeps fun b o e => (e0.bs b o e).1) (by have := hr.dp; rw [hp]; omega) (SeerAt.of (env := e) (l := l) (se.keeps fun b o e => (e0.bs b o e).1) ht ?_ h2 h3 h4 h5)
  rw [← h1]
  exact I.ok.frames
set_option exponentiation.threshold 200000 in
def FUELB : Nat := 2 ^ 100001
def rDivB : R2 := rI (fun _ j => j ≠ 0) fun i j => .int (i.fdiv j)
theorem op_divB (hr : Room k X.A) (hk : 32 ≤ k) (se : X.base.NoSeer) (ht : X.prog.given.tree = none) (hst : Fro X) : OpR X (binaryOp .FloorDiv) rDivB := by
  intro pins s σ H x y v u Q I rx ry h
  obtain ⟨i, j, rfl, rfl, hc, q⟩ := h
  obtain ⟨t, rfl⟩ := rx
  obtain ⟨t', rfl⟩ := ry
  exact floordiv_int hc ⟨V.int (i.fdiv j), H, I.tok (s.toks + 1), ⟨s.toks, rfl⟩, q⟩ (.inr (room_pyl hr hk se ht hst I))
def divB (x y : PV) (S : Sto) : Out PV := match x, y with
  | .int i, .int j => if 0 < j then .ok (.int (i / j)) S else if j ≠ 0 then .ok (.int (i.fdiv j)) S else .bad
  | _, _ => .bad
theorem oz_divB : OpZ T K divB rDivB := by
  intro E R F H S x y u w Q r rx ry h
  unfold divB at h
  split at h
  · have := rel_int rx; subst this
    have := rel_int ry; subst this
    rename_i i j
    split at h
    · rename_i hj
      refine ⟨i, j, rfl, rfl, by omega, ?_⟩
      show Q (V.int (i.fdiv j)) H
      rw [Int.fdiv_eq_ediv_of_nonneg i (by omega)]
      exact PostV.here r (by rw [Rel]) h
    · split at h
      · rename_i hj
        exact ⟨_, _, rfl, rfl, hj, PostV.here r (by rw [Rel]) h⟩
      · exact h.elim
  · exact h.elim
theorem je_divB {a b : Expr} {da db : DE} {pos : Pos} (c : Cg X E k) (se : X.base.NoSeer) (ht : X.prog.given.tree = none) (ha : JE T X E a da) (hb : JE T X E b db) (hk : 32 ≤ k := by decide) (hst : Fro X := by exact ⟨_, _, rfl, rfl, rfl, rfl, rfl⟩) :
    JE T X E (.BinOp a .FloorDiv b pos) (dBin divB da db) := je_bin (op_divB c.room hk se ht hst) oz_divB ha hb
end
theorem law_gS {T : Tb} {P : Program} {w : World} {K : PySem.W.Frag} {mg mb : Str → Option Value} {k : Nat} {fa a : Addr} {fd : FuncData} {x : Str} {d : DF} {s₁ : Shared} {vs : List Value} {ns : List Int}
    (inK : K.In s₁.heap) (gl : s₁.heap.Ns mainGlobals mg) (bl : s₁.heap.Ns builtinsNs mb) (bb : ∀ x : Str, x ≠ "__name__" → mb x = bootBuiltins x) (nl : s₁.heap.NoLimit) (ng : s₁.gens = #[]) (se : s₁.heap.NoSeer)
    (hbm : ∃ (bm : Addr) (ob : Obj), mg "__builtins__" = some (.ref bm) ∧ bm ≠ builtinsNs ∧ s₁.heap.get? bm = some ob ∧ ob.cls = .type "module" ∧ ob.dict = some builtinsNs ∧ ob.data = .plain)
    (tb : ∀ p ∈ T.tabs K, s₁.heap.get? p.1 = some tabO ∧ K.lookup p.1 = none ∧ ∃ c, PySem.W.CodeHd s₁.heap c p.1)
    (sc : s₁.heap.get? a = some { cls := .type "list", data := .seq vs.toArray }) (hints : IntsAre vs ns) (few : ns.length ≤ sizeLine) (rm : Room k callerA)
    (G : ∀ base : Heap, K.In base → base.Ns mainGlobals mg → BaseT (T.tabs K) mg base → base.NoSeer → FnG T P w K mg base k fa fd [x] d) (bi : ∀ (s : Shared) (u : Value), BindsTo s fd ⟨[u], []⟩ [(x, u)])
    (good : ∃ S, d [.nd .scr (ns.map .int)] [] = .ok (.bl true) S) :
    codeAny (model P w) callerA (.call (.ref fa) ⟨[.ref a], []⟩) (fun r s' => r = .ok (.ret (.bool true)) ∧ OldK s₁.heap s'.heap ∧ s'.os = s₁.os ∧ AllBare s'.gens) s₁ := by
  classical
  have rv := vals_ints hints
  have zl : vs.length = ns.length := hints.length.symm ▸ rfl
  let ts : List Addr := (T.tabs K).map (·.1)
  have tat : ∀ b ∈ ts, s₁.heap.get? b = some tabO := fun b hb => by
    obtain ⟨p, hp, rfl⟩ := List.mem_map.mp hb
    exact (tb p hp).1
  have aT : a ∉ ts := fun z => by
    have q := tat a z
    rw [sc] at q
    have z' : Data.seq vs.toArray _ = Data.fields #[] := congrArg Obj.data (Option.some.inj q)
    cases z'
  let Ht : Hp := fun b => if b ∈ ts then some (.tbl #[]) else none
  -- what is known of the heap: the tables, and at most the script
  have run : ∀ H F : Hp, (∀ b ∈ ts, H b = some (.tbl #[])) → (∀ b, b ∉ ts → F b = H b) → (∀ b ∈ ts, F b = none) → (∀ b, b ∉ ts → H b = none ∨ ∃ o xs, H b = some (.frz o (.lst xs))) → SqL K F a (ns.map V.int) → HOk P w H s₁.heap → (∀ b, b ∉ ts → H b ≠ none → b = a ∧ K.lookup a = none) →
      codeAny (model P w) callerA (.call (.ref fa) ⟨[.ref a], []⟩) (fun r s' => r = .ok (.ret (.bool true)) ∧ OldK s₁.heap s'.heap ∧ s'.os = s₁.os ∧ AllBare s'.gens) s₁ := by
    intro H F hT hF hF0 only sq hok told
    have keepB : ∀ {b : Addr} {o : Obj}, s₁.heap.get? b = some o → (∀ vs n, o.data ≠ .seq vs n) → o ≠ tabO → H b = none := fun {b o} e h1 h2 => by
      by_cases z : b ∈ ts
      · have q := tat b z
        rw [e] at q
        exact absurd (Option.some.inj q) h2
      · by_cases y : H b = none
        · exact y
        · have eb := (told b z y).1
          rw [eb, sc] at e
          cases e
          exact absurd rfl (h1 _ _)
    have ns_in : ∀ {b : Addr} {m : Str → Option Value}, s₁.heap.Ns b m → (hidT s₁.heap H).Ns b m := fun ⟨o, es, ep, e, q, r⟩ => ⟨o, es, ep, hidT_get e (keepB e (fun vs n z => by rw [q] at z; cases z) fun z => by rw [z] at q; cases q), q, r⟩
    have inB : K.In (hidT s₁.heap H) := fun b o e => hidT_get (inK b o e) (by
      by_cases y : b ∈ ts
      · obtain ⟨p, hp, rfl⟩ := List.mem_map.mp y
        rw [(tb p hp).2.1] at e; cases e
      · by_cases z : H b = none
        · exact z
        · obtain ⟨eb, hk⟩ := told b y z
          rw [eb, hk] at e
          cases e)
    have md : Mod K mg (hidT s₁.heap H) := ⟨inB, ns_in gl, ⟨mb, ns_in bl, bb⟩, let ⟨mc, h1, h2⟩ := nl; ⟨mc, ns_in h1, h2⟩⟩
    have noF : ∀ b : Addr, b ∉ frs ([] : List Env) := fun b z => absurd (show b ∈ ([] : List Addr) from z) (by simp)
    have e0 : Env0 P w K mg (hidT s₁.heap H) callerA [] s₁ H := ⟨rfl, md, fun b o e => of_hidT e, Nat.le_of_eq (hidT_size _ _), trivial, fun b hb => absurd hb (noF b), hok, .of_eq ng⟩
    have bt : BaseT (T.tabs K) mg (hidT s₁.heap H) := fun p hp => by
      obtain ⟨bm, ob, b1, b2, b3, b4, b5, b6⟩ := hbm
      have hTp := (tb p hp).1
      refine ⟨⟨bm, ob, b1, b2, fun q => ?_, fun q => ?_, hidT_get b3 (keepB b3 (fun vs n z => by rw [b6] at z; cases z) fun z => by rw [z] at b6; cases b6), b4, b5, b6⟩, fun z => ?_⟩
      · obtain ⟨o, es, ep, e, hd, _⟩ := gl
        rw [q, e] at b3
        cases b3
        rw [hd] at b6
        cases b6
      · rw [q, hTp] at b3
        cases b3
        cases b6
      · obtain ⟨o, es, ep, e, hd, _⟩ := gl
        rw [z, hTp] at e
        cases e
        cases hd
    have sB : (hidT s₁.heap H).NoSeer := by
      obtain ⟨bm, ob, b1, b2, b3, b4, b5, b6⟩ := hbm
      exact ⟨let ⟨mc, a, b⟩ := se.statics; ⟨mc, ns_in a, b⟩, let ⟨mm, a, b⟩ := se.mods; ⟨mm, ns_in a, b⟩, let ⟨m, a, b⟩ := se.imp; ⟨m, ns_in a, b⟩,
        ⟨mg, bm, ob, ns_in gl, b1, hidT_get b3 (keepB b3 (fun vs n z => by rw [b6] at z; cases z) fun z => by rw [z] at b6; cases b6), b4, b5⟩⟩
    have sp : spOf T K 1 d [.ref a] H (fun v _ => v = .bl true) (fun _ _ _ => False) := by
      obtain ⟨S, hS⟩ := good
      have exF : Ex F H := fun b o e => by
        by_cases z : b ∈ ts
        · rw [hF0 b z] at e; cases e
        · rw [hF b z] at e; exact .inl e
      refine ⟨rfl, (⟨[], []⟩ : Pl), F, [], [.nd .scr (ns.map .int)], { ex := exF, len := rfl, nd := List.nodup_nil, there := fun a ha => (nomatch ha), hid := fun p hp => (nomatch hp), hidt := fun p hp => (nomatch hp), hidnd := List.nodup_nil, ntb := fun b ps e => ?_, tabs := fun p hp => ?_, live := fun n a k xs h1 h2 => by simp at h1 : Rep T K ⟨[], []⟩ F [] H }, ?_, ?_⟩
      · by_cases z : b ∈ ts
        · rw [hF0 b z] at e; cases e
        · rw [hF b z] at e
          rcases only b z with q | ⟨o, xs, q⟩
          · rw [q] at e; cases e
          · rw [q] at e; cases e
      · exact LamX.TabS.nil (hT p.1 (List.mem_map.mpr ⟨p, hp, rfl⟩))
      · refine .cons ?_ .nil
        rw [Rel]
        refine ⟨a, ns.map V.int, rfl, sq, ?_⟩
        clear sc hints few rv zl hS sq
        induction ns with
        | nil => exact .nil
        | cons n ns ih => exact .cons (by rw [Rel]) ih
      · rw [hS]
        intro R' F' H' u p ex r ru
        rw [Rel] at ru
        exact ru
    refine codeAny_mono ((G _ inB (ns_in gl) bt sB).run callerA [] s₁ H ⟨[.ref a], []⟩ [.ref a] [.ref a] _ _ rm rfl e0 (bi s₁ (.ref a)) (.cons rfl .nil) sp) fun z s' hz => ?_
    cases z with
    | error e => exact absurd hz (by
        intro q
        obtain ⟨_, _, _, _, _, _, _, _, _, _, _, _, f⟩ := q
        exact f)
    | ok fl =>
      cases fl with
      | ret u =>
        obtain ⟨v, H', os, bare, un, hok', rel, q⟩ := hz
        have q : v = .bl true := q
        subst q
        have eu : u = Value.bool true := rel
        subst eu
        have grown : ∀ p ∈ T.tabs K, ∃ more : Array Value, s'.heap.get? p.1 = some { cls := .none, data := .fields more } := fun p hp => by
          obtain ⟨more, z⟩ := un.tbls p.1 #[] (hT p.1 (List.mem_map.mpr ⟨p, hp, rfl⟩))
          exact ⟨_, hok' p.1 _ z⟩
        have same : ∀ b o, b ∉ ts → s₁.heap.get? b = some o → s'.heap.get? b = some o := fun b o nb e => by
          by_cases z : H b = none
          · exact un.keep b o e z (noF b) (by simp)
          · rcases only b nb with z2 | ⟨ob, xs, z2⟩
            · exact absurd z2 z
            · obtain ⟨e2, _⟩ := hok' b _ (un.frzs b ob _ z2)
              obtain ⟨e1, _⟩ := hok b _ z2
              rw [e] at e1
              cases e1
              exact e2
        refine ⟨rfl, ⟨fun b o e => ?_, fun b o e => ?_⟩, os, bare⟩
        · by_cases hb : b ∈ ts
          · obtain ⟨p, hp, rfl⟩ := List.mem_map.mp hb
            obtain ⟨more, hm⟩ := grown p hp
            obtain ⟨h1, _, c, hc⟩ := tb p hp
            rw [h1] at e
            cases e
            exact .inr (.inl ⟨(hc.tab h1).isCodeTable, rfl, #[], more, rfl, by rw [Array.empty_append]; exact hm⟩)
          · exact .inl (same b o hb e)
        · by_cases hb : b ∈ ts
          · obtain ⟨p, hp, rfl⟩ := List.mem_map.mp hb
            obtain ⟨more, hm⟩ := grown p hp
            exact ⟨_, hm⟩
          · exact ⟨o, same b o hb e⟩
      | _ => exact False.elim hz
  cases hk : K.lookup a with
  | some o =>
    have e := inK a o hk
    rw [sc] at e
    cases e
    refine run Ht (fun _ => none) (fun b hb => if_pos hb) (fun b hb => (if_neg hb).symm) (fun b hb => rfl) (fun b hb => .inl (if_neg hb)) (.inr ⟨_, vs.toArray, _, hk, rfl, rfl, rfl, by rw [List.size_toArray, zl]; exact few, by simpa using rv⟩) (fun b u z => ?_) fun b hb z => absurd (if_neg hb) z
    by_cases hb : b ∈ ts
    · have z' := (show Ht b = some (.tbl #[]) from if_pos hb).symm.trans z
      cases z'
      exact tat b hb
    · have z' := (show Ht b = none from if_neg hb).symm.trans z
      cases z'
  | none =>
    let H0 : Hp := fun b => if b = a then some (.frz { cls := .type "list", data := .seq vs.toArray } (.lst (ns.map V.int))) else Ht b
    let F0 : Hp := fun b => if b = a then some (.frz { cls := .type "list", data := .seq vs.toArray } (.lst (ns.map V.int))) else none
    have at_a : H0 a = some (.frz { cls := .type "list", data := .seq vs.toArray } (.lst (ns.map V.int))) := if_pos rfl
    have nea : ∀ b ∈ ts, b ≠ a := fun b hb z => aT (by rw [← z]; exact hb)
    have offT : ∀ b ∈ ts, H0 b = some (.tbl #[]) := fun b hb => (if_neg (nea b hb)).trans (if_pos hb)
    have off : ∀ b, b ≠ a → b ∉ ts → H0 b = none := fun b z hb => (if_neg z).trans (if_neg hb)
    refine run H0 F0 offT (fun b hb => ?_) (fun b hb => if_neg (nea b hb)) (fun b hb => ?_) (.inl (.inr ⟨_, if_pos rfl⟩)) (fun b u z => ?_) fun b hb z => ⟨?_, hk⟩
    · by_cases h : b = a
      · rw [h, at_a]; exact if_pos rfl
      · rw [off b h hb]; exact if_neg h
    · by_cases h : b = a
      · rw [h]; exact .inr ⟨_, _, at_a⟩
      · exact .inl (off b h hb)
    · by_cases h : b = a
      · subst h
        rw [at_a] at z
        cases z
        exact ⟨sc, by rw [List.length_map]; exact few, vs, _, rv, sc⟩
      · by_cases hb : b ∈ ts
        · rw [offT b hb] at z
          cases z
          exact tat b hb
        · rw [off b h hb] at z
          cases z
    · by_cases h : b = a
      · exact h
      · exact absurd (off b h hb) z

/-- what a law's walk needs: the law's def, and that its answer is True at every script -/
theorem walk_gS {l : PySem.W.OpenLaw} {n k : Nat} {q : Program} {loose : List Str} {XP : (Str → Option Value) → Heap → Prop} {YP : World → Heap → Prop} {dr : DefRec} {x : Str} {T : Tb} {d : DF}
    (hs : importsNone q = true) (hn : l.most = some n) (hn2 : n ≤ sizeLine) (hdf : dr.params.defaults = []) (rm : Room k callerA) (good : ∀ ns : List Int, ns.length ≤ n → ∃ S, d [.nd .scr (ns.map .int)] [] = .ok (.bl true) S)
    (G : ∀ (w : World) (mg : Str → Option Value) (fa : Addr) (h : Heap), YP w h → h.Ns mainGlobals mg → mg dr.name = some (.ref fa) →
      ∃ (K : PySem.W.Frag) (fd : FuncData), K.In h ∧ (∀ p ∈ T.tabs K, h.get? p.1 = some tabO ∧ K.lookup p.1 = none ∧ ∃ c, PySem.W.CodeHd h c p.1) ∧ (∀ (s : Shared) (u : Value), BindsTo s fd ⟨[u], []⟩ [(x, u)]) ∧ ∀ base : Heap, K.In base → base.Ns mainGlobals mg → BaseT (T.tabs K) mg base → base.NoSeer → FnG T l.prog w K mg base k fa fd [x] d) :
    PySem.W.WalkO q loose XP YP l.row.toRowW dr [] (fun f vs => PySem.call f vs) := by
  refine Att.attach_call hn hdf fun w s₀ s₁ mg mb fa o pm cd doc a vs ns gr yy ho hd hcd hmg hobj hints hlen hg => ?_
  obtain ⟨K, fd, inK, tb, hb, hF⟩ := G w mg fa _ yy gr.T.g hmg
  exact law_gS inK gr.T.g gr.T.b gr.T.builtins gr.T.nolimit hg (gr.T.seer hs) gr.T.bmain tb hobj hints (Nat.le_trans hlen hn2) rm hF hb (good ns hlen)
end Z
end
end
section
set_option Elab.async false
set_option linter.all false
set_option maxRecDepth 100000
set_option maxHeartbeats 0
noncomputable section
namespace Z
open PySem PySem.Spec PyProof.Rows L2
def cns : List Str := ["Rows", "BadWidth", "BadNumber"]
def fds : List Str := ["width", "kept", "own_steps", "value"]
def okl : List (Nat × Nat) := [(0, 0), (0, 1), (0, 2)]
def oxl : List (Nat × Nat) := [(1, 3), (2, 3)]
def tbl : List (Str × Str) := []
abbrev nsl : List Nat := [1, 2]
def T0 : Tb := TbX cns fds okl oxl tbl
def I0 : Ki := { kb := [], kc := [], kt := [((1, "bool"), false), ((2, "bool"), false), ((0, "bool"), false), ((1, "int"), false), ((2, "int"), false), ((0, "int"), false), ((1, "tuple"), false), ((2, "tuple"), false), ((0, "tuple"), false)], cs := [0], fb := [("NoneType", 0), ("int", 0), ("str", 0), ("bool", 0), ("list", 0), ("tuple", 0), ("dict", 0)], es := [1, 2] }

def b_is_integer : DS := dRet (dAnd (dApp (isiX I0) (dCons (dVar 0) (dCons (dC (.ty "int")) (dNil)))) (dNot (dApp (isiX I0) (dCons (dVar 0) (dCons (dC (.ty "bool")) (dNil))))))
def d_is_integer : DF := dDef 1 1 b_is_integer
def b_is_between : DS := dRet (dAnd (dFn d_is_integer (dCons (dVar 0) (dNil))) (dChain leZ leZ (dVar 1) (dVar 0) (dVar 2)))
def d_is_between : DF := dDef 3 3 b_is_between
def b_is_row : DS := dRet (dAnd (dApp (isiX I0) (dCons (dVar 0) (dCons (dC (.ty "tuple")) (dNil)))) (dAnd (dBin eqZ (dApp lenP (dCons (dVar 0) (dNil))) (dVar 1)) (dApp allP (dCons (dLc [2] (dItV (dVar 0)) (.nm 2) (dYes) (dFn d_is_integer (dCons (dVar 2) (dNil)))) (dNil)))))
def d_is_row : DF := dDef 2 3 b_is_row
def b_shared : DS := dSeq (dSet 1 (dC (.int 0))) (dSeq (dFor (dItV (dVar 0)) (.nm 2) (dSeq (dPar 3 4 (dCons (dVar 1) (dCons (dApp absP (dCons (dVar 2) (dNil))) (dNil)))) (dSeq (dWhl FUELB (dB (dBin neZ (dVar 4) (dC (.int 0)))) (dPar 3 4 (dCons (dVar 4) (dCons (dBin modP (dVar 3) (dVar 4)) (dNil))))) (dSet 1 (dVar 3))))) (dRet (dVar 1)))
def d_shared : DF := dDef 1 5 b_shared
def b_first_place : DS := dSeq (dFor (dItA enuP (dCons (dVar 0) (dNil))) (.tp [.nm 1, .nm 2]) (dIfS (dB (dBin neZ (dVar 2) (dC (.int 0)))) (dRet (dVar 1)) (dSkip))) (dRet (dC .non))
def d_first_place : DF := dDef 1 3 b_first_place
def b_cleared : DS := dSeq (dFor (dItV (dVar 1)) (.tp [.nm 2, .nm 3]) (dIfS (dB (dBin neZ (dBin subZ (dVar 0) (dVar 2)) (dC (.int 0)))) (dSeq (dAsg (dTup (dCons (dBin subZ (dVar 3) (dVar 2)) (dCons (dBin subZ (dVar 0) (dVar 2)) (dNil)))) (gzT [gzN 4, gzN 5])) (dSeq (dSet 0 (dLc [6, 7] (dItA zipP (dCons (dVar 0) (dCons (dVar 3) (dNil)))) (.tp [.nm 6, .nm 7]) (dYes) (dBin subP (dBin mulT (dVar 4) (dVar 6)) (dBin mulT (dVar 5) (dVar 7))))) (dSeq (dSet 8 (dFn d_shared (dCons (dVar 0) (dNil)))) (dSet 0 (dLc [9] (dItV (dVar 0)) (.nm 9) (dYes) (dBin divB (dVar 9) (dVar 8))))))) (dSkip))) (dRet (dVar 0))
def d_cleared : DF := dDef 2 10 b_cleared
def b__law_pen : DS := dRet (dLstM (dCons (dApp listP (dCons (dSli (dVar 0) (dNone) (dSome (dC (.int 63)))) (dNil))) (dCons (dC (.int 0)) (dCons (dC (.int 0)) (dNil)))))
def d__law_pen : DF := dDef0 1 1 b__law_pen
def b__law_draw : DS := dSeq (dIfS (dB (dBin gtZ (dBin subZ (dVar 0) (dC (.int 2))) (dC (.int 0)))) (dSeq (dSet 2 (dBin modP (dApp intP (dCons (dBin subZ (dVar 0) (dC (.int 2))) (dNil))) (dVar 1))) (dSeq (dAsg (dBin divP (dApp intP (dCons (dBin subZ (dVar 0) (dC (.int 2))) (dNil))) (dVar 1)) (gzI (dVar 0) (dC (.int 2)))) (dRet (dVar 2)))) (dSkip)) (dSeq (dSet 3 (dBin subZ (dVar 0) (dC (.int 1)))) (dSeq (dAsg (dBin addP (dVar 3) (dC (.int 1))) (gzI (dVar 0) (dC (.int 1)))) (dSeq (dSet 4 (dBin addP (dBin mulZ (dC (.int 72547)) (dVar 3)) (dC (.int 1873)))) (dSeq (dIfS (dB (dBin neZ (dBin subZ (dVar 0) (dC (.int 0))) (dLst (dNil)))) (dSet 4 (dBin subZ (dBin subZ (dVar 0) (dC (.int 0))) (dBin modP (dApp intP (dCons (dVar 3) (dNil))) (dApp lenP (dCons (dBin subZ (dVar 0) (dC (.int 0))) (dNil)))))) (dSkip)) (dSeq (dIfS (dAndT (dB (dBin ltZ (dVar 3) (dApp lenP (dCons (dBin subZ (dVar 0) (dC (.int 0))) (dNil))))) (dB (dBin geZ (dApp absP (dCons (dVar 4) (dNil))) (dBin powP (dC (.int 10)) (dC (.int 18)))))) (dSeq (dSet 5 (dBin addP (dBin mulZ (dC (.int 2)) (dBin subP (dApp absP (dCons (dVar 4) (dNil))) (dBin powP (dC (.int 10)) (dC (.int 18))))) (dApp intP (dCons (dBin ltZ (dVar 4) (dC (.int 0))) (dNil))))) (dSeq (dAsg (dBin divP (dApp intP (dCons (dVar 5) (dNil))) (dVar 1)) (gzI (dVar 0) (dC (.int 2)))) (dRet (dBin modP (dApp intP (dCons (dVar 5) (dNil))) (dVar 1))))) (dSkip)) (dSeq (dSet 6 (dBin modP (dApp intP (dCons (dBin powP (dBin addP (dBin addP (dBin modP (dApp intP (dCons (dVar 4) (dNil))) (dC (.int 2147483647))) (dBin mulZ (dC (.int 52901)) (dVar 3))) (dC (.int 1207))) (dC (.int 5))) (dNil))) (dC (.int 2147483549)))) (dSeq (dSet 6 (dBin modP (dApp intP (dCons (dBin powP (dBin addP (dBin addP (dBin mulZ (dVar 6) (dBin addP (dBin mulZ (dC (.int 2)) (dVar 3)) (dC (.int 733)))) (dBin mulZ (dBin mulZ (dC (.int 45433)) (dVar 3)) (dVar 3))) (dC (.int 829))) (dC (.int 3))) (dNil))) (dC (.int 2147483489)))) (dRet (dBin modP (dApp intP (dCons (dBin divP (dVar 6) (dC (.int 32))) (dNil))) (dVar 1))))))))))
def d__law_draw : DF := dDef 2 7 b__law_draw
def b__law_pick : DS := dRet (dBin subZ (dVar 1) (dFn d__law_draw (dCons (dVar 0) (dCons (dApp lenP (dCons (dVar 1) (dNil))) (dNil)))))
def d__law_pick : DF := dDef 2 2 b__law_pick
def b__law_shared : DS := dSeq (dSet 1 (dC (.int 0))) (dSeq (dFor (dItV (dVar 0)) (.nm 2) (dSeq (dSet 3 (dApp absP (dCons (dVar 2) (dNil)))) (dWhl FUELB (dB (dBin gtZ (dVar 3) (dC (.int 0)))) (dPar 1 3 (dCons (dVar 3) (dCons (dBin modP (dApp intX (dCons (dVar 1) (dNil))) (dVar 3)) (dNil))))))) (dRet (dVar 1)))
def d__law_shared : DF := dDef 1 4 b__law_shared
def b__law_reduced : DS := dSeq (dSet 2 (dApp listP (dCons (dVar 0) (dNil)))) (dSeq (dFor (dItV (dVar 1)) (.tp [.nm 3, .nm 4]) (dIfS (dB (dBin neZ (dBin subZ (dVar 2) (dVar 3)) (dC (.int 0)))) (dSeq (dAsg (dTup (dCons (dBin subZ (dVar 4) (dVar 3)) (dCons (dBin subZ (dVar 2) (dVar 3)) (dNil)))) (gzT [gzN 5, gzN 6])) (dSeq (dSet 2 (dLc [7, 8] (dItA zipP (dCons (dVar 2) (dCons (dVar 4) (dNil)))) (.tp [.nm 7, .nm 8]) (dYes) (dBin subP (dBin mulT (dVar 5) (dVar 7)) (dBin mulT (dVar 6) (dVar 8))))) (dSeq (dSet 9 (dFn d__law_shared (dCons (dVar 2) (dNil)))) (dSet 2 (dIf (dB (dBin gtZ (dVar 9) (dC (.int 1)))) (dLc [10] (dItV (dVar 2)) (.nm 10) (dYes) (dBin divB (dVar 10) (dVar 9))) (dVar 2)))))) (dSkip))) (dRet (dVar 2)))
def d__law_reduced : DF := dDef 2 11 b__law_reduced
def b__law_place : DS := dSeq (dFor (dItA rngP (dCons (dApp lenP (dCons (dVar 0) (dNil))) (dNil))) (.nm 1) (dIfS (dB (dBin neZ (dBin subZ (dVar 0) (dVar 1)) (dC (.int 0)))) (dRet (dVar 1)) (dSkip))) (dRet (dC .non))
def d__law_place : DF := dDef 1 2 b__law_place
def b__law_free : DS := dSeq (dPar 1 2 (dCons (dLstM (dNil)) (dCons (dLstM (dNil)) (dNil)))) (dSeq (dFor (dItA rngP (dCons (dApp lenP (dCons (dVar 0) (dNil))) (dNil))) (.nm 3) (dSeq (dSet 4 (dFn d__law_reduced (dCons (dBin subZ (dVar 0) (dVar 3)) (dCons (dVar 1) (dNil))))) (dSeq (dSet 5 (dFn d__law_place (dCons (dVar 4) (dNil)))) (dIfS (dB (dBin isntZ (dVar 5) (dC .non))) (dSeq (dExpr (dMet "list" appP (dVar 1) (dCons (dTup (dCons (dVar 5) (dCons (dVar 4) (dNil)))) dNil))) (dExpr (dMet "list" appP (dVar 2) (dCons (dVar 3) dNil)))) (dSkip))))) (dRet (dVar 2)))
def d__law_free : DF := dDef 1 6 b__law_free
def b__law_row : DS := dSeq (dSet 3 (dBin addP (dLst (dCons (dC (.int 0)) (dCons (dC (.int 0)) (dCons (dC (.int 1)) (dCons (dUn negP (dC (.int 1))) (dCons (dC (.int 2)) (dCons (dUn negP (dC (.int 3))) (dCons (dC (.int 6)) (dCons (dC (.int 10)) (dNil)))))))))) (dIf (dTru (dVar 2)) (dLst (dCons (dBin powP (dC (.int 10)) (dC (.int 39))) (dCons (dBin addP (dUn negP (dBin powP (dC (.int 10)) (dC (.int 40)))) (dC (.int 1))) (dCons (dBin mulT (dC (.int 3)) (dBin powP (dC (.int 10)) (dC (.int 30)))) (dNil))))) (dLst (dNil))))) (dRet (dApp tupP (dCons (dLc [4] (dItA rngP (dCons (dVar 1) (dNil))) (.nm 4) (dYes) (dFn d__law_pick (dCons (dVar 0) (dCons (dVar 3) (dNil))))) (dNil))))
def d__law_row : DF := dDef 3 5 b__law_row
def b__law_mixed : DS := dSeq (dSet 3 (dBin mulT (dLst (dCons (dC (.int 0)) (dNil))) (dVar 2))) (dSeq (dFor (dItV (dVar 1)) (.nm 4) (dSeq (dSet 5 (dFn d__law_pick (dCons (dVar 0) (dCons (dLst (dCons (dC (.int 0)) (dCons (dC (.int 1)) (dCons (dUn negP (dC (.int 1))) (dCons (dC (.int 2)) (dCons (dC (.int 5)) (dNil))))))) (dNil))))) (dSet 3 (dLc [6, 7] (dItA zipP (dCons (dVar 3) (dCons (dVar 4) (dNil)))) (.tp [.nm 6, .nm 7]) (dYes) (dBin addP (dVar 6) (dBin mulT (dVar 5) (dVar 7))))))) (dRet (dApp tupP (dCons (dVar 3) (dNil)))))
def d__law_mixed : DF := dDef 3 8 b__law_mixed
def b__law_rows : DS := dSeq (dSet 4 (dLstM (dNil))) (dSeq (dFor (dItA rngP (dCons (dVar 2) (dNil))) (.nm 5) (dSeq (dSet 6 (dOr (dBin eqZ (dVar 4) (dLst (dNil))) (dBin gtZ (dFn d__law_draw (dCons (dVar 0) (dCons (dC (.int 3)) (dNil)))) (dC (.int 0))))) (dExpr (dMet "list" appP (dVar 4) (dCons (dIf (dTru (dVar 6)) (dFn d__law_row (dCons (dVar 0) (dCons (dVar 1) (dCons (dVar 3) (dNil))))) (dFn d__law_mixed (dCons (dVar 0) (dCons (dVar 4) (dCons (dVar 1) (dNil)))))) dNil))))) (dRet (dVar 4)))
def d__law_rows : DF := dDef 4 7 b__law_rows
def b_Rows_need_row : DS := dIfS (dNotT (dTru (dFn d_is_row (dCons (dVar 1) (dCons (dAttr T0 0 (dVar 0)) (dNil)))))) (dRaise 2 [3] (dCons (dVar 1) (dNil))) (dSkip)
def d_Rows_need_row : DF := dDef 2 2 b_Rows_need_row
def b_Rows_line_of : DS := dSeq (dSet 2 (dLc [3] (dItA rngP (dCons (dAttr T0 0 (dVar 0)) (dNil))) (.nm 3) (dYes) (dC (.int 0)))) (dRet (dFn d_cleared (dCons (dLst (dStarA (dVar 1) (dStarA (dVar 2) (dCons (dC (.int 1)) (dNil))))) (dCons (dAttr T0 2 (dVar 0)) (dNil)))))
def d_Rows_line_of : DF := dDef 2 4 b_Rows_line_of
def b_Rows_made_of : DS := dSeq (dExpr (dMeth T0 0 (clo d_Rows_need_row) (dVar 0) (dCons (dVar 1) (dNil)))) (dSeq (dSet 2 (dMeth T0 0 (clo d_Rows_line_of) (dVar 0) (dCons (dVar 1) (dNil)))) (dSeq (dIfS (dB (dBin isntZ (dFn d_first_place (dCons (dSli (dVar 2) (dNone) (dSome (dAttr T0 0 (dVar 0)))) (dNil))) (dC .non))) (dRet (dC .non)) (dSkip)) (dSeq (dSet 3 (dLc [4] (dItV (dSli (dVar 2) (dSome (dAttr T0 0 (dVar 0))) (dSome (dBin addP (dAttr T0 0 (dVar 0)) (dApp lenP (dCons (dAttr T0 1 (dVar 0)) (dNil))))))) (.nm 4) (dYes) (dBin subP (dC (.int 0)) (dVar 4)))) (dSeq (dSet 5 (dIf (dB (dBin gtZ (dBin subZ (dVar 2) (dUn negP (dC (.int 1)))) (dC (.int 0)))) (dC (.int 1)) (dUn negP (dC (.int 1))))) (dRet (dTup (dCons (dBin mulT (dVar 5) (dBin subZ (dVar 2) (dUn negP (dC (.int 1))))) (dCons (dApp tupP (dCons (dLc [4] (dItV (dVar 3)) (.nm 4) (dYes) (dBin mulT (dVar 5) (dVar 4))) (dNil))) (dNil)))))))))
def d_Rows_made_of : DF := dDef 2 6 b_Rows_made_of
def b_Rows___len__ : DS := dRet (dApp lenP (dCons (dAttr T0 1 (dVar 0)) (dNil)))
def d_Rows___len__ : DF := dDef 1 1 b_Rows___len__
def b_Rows___iter__ : DS := dRet (dBad)
def d_Rows___iter__ : DF := dDef 1 1 b_Rows___iter__
def b__law_made_right : DS := dSeq (dSet 3 (dMeth T0 0 (clo d_Rows_made_of) (dVar 0) (dCons (dVar 2) (dNil)))) (dSeq (dSet 4 (dBin eqZ (dApp (lenX 0 (clo d_Rows___len__) lenP) (dCons (dFn (clo d__law_free) (dCons (dBin addP (dVar 1) (dLst (dCons (dVar 2) (dNil)))) (dNil))) (dNil))) (dApp (lenX 0 (clo d_Rows___len__) lenP) (dCons (dVar 1) (dNil))))) (dSeq (dIfS (dNotT (dTru (dVar 4))) (dRet (dBin isZ (dVar 3) (dC .non))) (dSkip)) (dSeq (dIfS (dOrT (dNotT (dTru (dApp (isiX I0) (dCons (dVar 3) (dCons (dC (.ty "tuple")) (dNil)))))) (dOrT (dB (dBin neZ (dApp (lenX 0 (clo d_Rows___len__) lenP) (dCons (dVar 3) (dNil))) (dC (.int 2)))) (dOrT (dNotT (dTru (dApp (isiX I0) (dCons (dBin subZ (dVar 3) (dC (.int 1))) (dCons (dC (.ty "tuple")) (dNil)))))) (dB (dBin neZ (dApp (lenX 0 (clo d_Rows___len__) lenP) (dCons (dBin subZ (dVar 3) (dC (.int 1))) (dNil))) (dApp (lenX 0 (clo d_Rows___len__) lenP) (dCons (dVar 1) (dNil)))))))) (dRet (dC (.bl false))) (dSkip)) (dSeq (dAsg (dVar 3) (gzT [gzN 5, gzN 6])) (dSeq (dIfS (dOrT (dB (dBin neZ (dLc [7] (dEiI (dItV (dBin addP (dTup (dCons (dVar 5) (dNil))) (dVar 6))) (dItOwn T0 0 1 (dBin addP (dTup (dCons (dVar 5) (dNil))) (dVar 6)))) (.nm 7) (dOrT (dNotT (dTru (dApp (isiX I0) (dCons (dVar 7) (dCons (dC (.ty "int")) (dNil)))))) (dTru (dApp (isiX I0) (dCons (dVar 7) (dCons (dC (.ty "bool")) (dNil)))))) (dVar 7)) (dLst (dNil)))) (dB (dBin ltZ (dVar 5) (dC (.int 1))))) (dRet (dC (.bl false))) (dSkip)) (dSeq (dFor (dItA rngP (dCons (dApp (lenX 0 (clo d_Rows___len__) lenP) (dCons (dVar 2) (dNil))) (dNil))) (.nm 8) (dIfS (dB (dBin neZ (dBin mulT (dVar 5) (dBin subZ (dVar 2) (dVar 8))) (dApp sumP (dCons (dLc [9, 10] (dItA zipP (dCons (dVar 6) (dCons (dVar 1) (dNil)))) (.tp [.nm 9, .nm 10]) (dYes) (dBin mulT (dVar 9) (dBin subZ (dVar 10) (dVar 8)))) (dNil))))) (dRet (dC (.bl false))) (dSkip))) (dRet (dBin eqZ (dFn d__law_shared (dCons (dBin addP (dLst (dCons (dVar 5) (dNil))) (dApp (listX T0 0 1 (mkNd .lst) listP) (dCons (dVar 6) (dNil)))) (dNil))) (dC (.int 1))))))))))
def d__law_made_right : DF := dDef 3 11 b__law_made_right
def b_Rows___init__ : DS := dSeq (dIfS (dNotT (dTru (dFn d_is_between (dCons (dVar 1) (dCons (dC (.int 1)) (dCons (dC (.int 60)) (dNil))))))) (dRaise 1 [3] (dCons (dVar 1) (dNil))) (dSkip)) (dSeq (dPutA T0 0 (dVar 0) (dVar 1)) (dSeq (dPutA T0 1 (dVar 0) (dTup (dNil))) (dPutA T0 2 (dVar 0) (dTup (dNil)))))
def d_Rows___init__ : DF := dDef 2 2 b_Rows___init__
def b_Rows_more : DS := dSeq (dExpr (dMeth T0 0 (clo d_Rows_need_row) (dVar 0) (dCons (dVar 1) (dNil)))) (dSeq (dSet 2 (dMeth T0 0 (clo d_Rows_line_of) (dVar 0) (dCons (dVar 1) (dNil)))) (dSeq (dSet 3 (dFn d_first_place (dCons (dSli (dVar 2) (dNone) (dSome (dAttr T0 0 (dVar 0)))) (dNil)))) (dSeq (dIfS (dB (dBin isZ (dVar 3) (dC .non))) (dRet (dVar 0)) (dSkip)) (dSeq (dSet 4 (dApp (newP 0 d_Rows___init__) (dCons (dAttr T0 0 (dVar 0)) (dNil)))) (dSeq (dSet 5 (dLstM (dStarA (dSli (dVar 2) (dNone) (dSome (dUn negP (dC (.int 1))))) (dCons (dC (.int 0)) (dNil))))) (dSeq (dAsg (dBin subZ (dVar 2) (dUn negP (dC (.int 1)))) (gzI (dVar 5) (dBin addP (dAttr T0 0 (dVar 0)) (dApp lenP (dCons (dAttr T0 1 (dVar 0)) (dNil)))))) (dSeq (dPutA T0 1 (dVar 4) (dTup (dStarA (dAttr T0 1 (dVar 0)) (dCons (dVar 1) (dNil))))) (dSeq (dPutA T0 2 (dVar 4) (dTup (dStarA (dAttr T0 2 (dVar 0)) (dCons (dTup (dCons (dVar 3) (dCons (dVar 5) (dNil)))) (dNil))))) (dRet (dVar 4))))))))))
def d_Rows_more : DF := dDef 2 6 b_Rows_more
def b_Rows_of : DS := dSeq (dSet 2 (dApp (clo (newF 0 d_Rows___init__)) (dCons (dVar 0) (dNil)))) (dSeq (dFor (dItV (dVar 1)) (.nm 3) (dSet 2 (dMeth T0 0 (clo d_Rows_more) (dVar 2) (dCons (dVar 3) (dNil))))) (dRet (dVar 2)))
def d_Rows_of : DF := dDef 2 4 b_Rows_of
def b_law : DS := dSeq (dSet 1 (dFn d__law_pen (dCons (dVar 0) (dNil)))) (dSeq (dKeep [1, 7]) (dSeq (dFor (dItA rngP (dCons (dC (.int 6)) (dNil))) (.nm 2) (dShS (dSeq (dPar 3 4 (dCons (dBin addP (dC (.int 1)) (dFn d__law_draw (dCons (dVar 1) (dCons (dC (.int 7)) (dNil))))) (dCons (dBin eqZ (dFn d__law_draw (dCons (dVar 1) (dCons (dC (.int 3)) (dNil)))) (dC (.int 0))) (dNil)))) (dSeq (dKeep [1, 3, 4, 7]) (dSeq (dSet 5 (dFn d__law_rows (dCons (dVar 1) (dCons (dVar 3) (dCons (dFn d__law_draw (dCons (dVar 1) (dCons (dC (.int 8)) (dNil)))) (dCons (dVar 4) (dNil))))))) (dSeq (dSet 6 (dLc [7] (dEiI (dItV (dFn (clo d__law_free) (dCons (dVar 5) (dNil)))) (dItOwn T0 0 1 (dFn (clo d__law_free) (dCons (dVar 5) (dNil))))) (.nm 7) (dYes) (dBin subZ (dVar 5) (dVar 7)))) (dSeq (dPar 8 9 (dCons (dApp (clo (newF 0 d_Rows___init__)) (dCons (dVar 3) (dNil))) (dCons (dApp (clo (newF 0 d_Rows___init__)) (dCons (dVar 3) (dNil))) (dNil)))) (dSeq (dFor (dEiI (dItV (dVar 5)) (dItOwn T0 0 1 (dVar 5))) (.nm 10) (dShS (dSeq (dSet 11 (dApp (listX T0 0 1 (mkNd .lst) listP) (dCons (dVar 9) (dNil)))) (dSeq (dKeep [1, 3, 4, 6, 7, 8, 9, 10, 11]) (dSeq (dSet 9 (dMeth T0 0 (clo d_Rows_more) (dVar 9) (dCons (dVar 10) (dNil)))) (dSeq (dIfS (dAndT (dB (dBin neZ (dApp (listX T0 0 1 (mkNd .lst) listP) (dCons (dVar 9) (dNil))) (dVar 11))) (dB (dBin neZ (dApp (listX T0 0 1 (mkNd .lst) listP) (dCons (dVar 9) (dNil))) (dBin addP (dVar 11) (dLst (dCons (dVar 10) (dNil))))))) (dRet (dC (.bl false))) (dSkip)) (dSeq (dKeep [1, 3, 4, 6, 7, 8, 9, 10]) (dSeq (dSet 8 (dMeth T0 0 (clo d_Rows_more) (dVar 8) (dCons (dVar 10) (dNil)))) (dSeq (dKeep [1, 3, 4, 6, 7, 8, 9, 10]) dSkip))))))))) (dSeq (dKeep [1, 3, 4, 6, 7, 8, 9]) (dSeq (dIfS (dOrT (dB (dBin neZ (dApp (listX T0 0 1 (mkNd .lst) listP) (dCons (dVar 9) (dNil))) (dVar 6))) (dOrT (dB (dBin neZ (dApp (listX T0 0 1 (mkNd .lst) listP) (dCons (dVar 8) (dNil))) (dVar 6))) (dOrT (dB (dBin neZ (dApp (lenX 0 (clo d_Rows___len__) lenP) (dCons (dVar 9) (dNil))) (dApp (lenX 0 (clo d_Rows___len__) lenP) (dCons (dVar 6) (dNil))))) (dB (dBin neZ (dAttr T0 0 (dVar 9)) (dVar 3)))))) (dRet (dC (.bl false))) (dSkip)) (dSeq (dKeep [1, 3, 4, 6, 7, 9]) (dSeq (dFor (dItA rngP (dCons (dC (.int 5)) (dNil))) (.nm 12) (dShS (dSeq (dSet 13 (dLst (dCons (dFn d__law_row (dCons (dVar 1) (dCons (dVar 3) (dCons (dVar 4) (dNil))))) (dCons (dFn d__law_mixed (dCons (dVar 1) (dCons (dVar 6) (dCons (dVar 3) (dNil))))) (dCons (dApp tupP (dCons (dBin mulT (dLst (dCons (dC (.int 0)) (dNil))) (dVar 3)) (dNil))) (dNil)))))) (dSeq (dKeep [1, 3, 4, 6, 7, 9, 13]) (dSeq (dIfS (dNotT (dTru (dFn d__law_made_right (dCons (dVar 9) (dCons (dVar 6) (dCons (dFn d__law_pick (dCons (dVar 1) (dCons (dVar 13) (dNil)))) (dNil))))))) (dRet (dC (.bl false))) (dSkip)) (dSeq (dKeep [1, 3, 4, 6, 7, 9]) dSkip)))))) (dSeq (dKeep [1, 6, 7, 9]) (dSeq (dIfS (dB (dBin neZ (dApp (listX T0 0 1 (mkNd .lst) listP) (dCons (dVar 9) (dNil))) (dVar 6))) (dRet (dC (.bl false))) (dSkip)) (dSeq (dKeep [1, 7]) dSkip))))))))))))))) (dSeq (dKeep []) (dSeq (dSet 14 (dFn (clo (dStar 1 d_Rows_of)) (dCons (dC (.int 3)) (dCons (dTup (dCons (dC (.int 1)) (dCons (dC (.int 1)) (dCons (dC (.int 0)) (dNil))))) (dCons (dTup (dCons (dC (.int 0)) (dCons (dC (.int 2)) (dCons (dC (.int 1)) (dNil))))) (dCons (dTup (dCons (dC (.int 2)) (dCons (dC (.int 4)) (dCons (dC (.int 1)) (dNil))))) (dNil))))))) (dSeq (dSet 15 (dLst (dCons (dMeth T0 0 (clo d_Rows_made_of) (dFn (clo (dStar 1 d_Rows_of)) (dCons (dC (.int 2)) (dCons (dTup (dCons (dC (.int 2)) (dCons (dC (.int 0)) (dNil)))) (dCons (dTup (dCons (dC (.int 0)) (dCons (dC (.int 3)) (dNil)))) (dNil))))) (dCons (dTup (dCons (dC (.int 1)) (dCons (dC (.int 1)) (dNil)))) (dNil))) (dCons (dMeth T0 0 (clo d_Rows_made_of) (dVar 14) (dCons (dTup (dCons (dC (.int 1)) (dCons (dC (.int 3)) (dCons (dC (.int 1)) (dNil))))) (dNil))) (dCons (dMeth T0 0 (clo d_Rows_made_of) (dVar 14) (dCons (dTup (dCons (dC (.int 1)) (dCons (dC (.int 1)) (dCons (dC (.int 1)) (dNil))))) (dNil))) (dCons (dApp (lenX 0 (clo d_Rows___len__) lenP) (dCons (dVar 14) (dNil))) (dNil))))))) (dRet (dAnd (dBin eqZ (dVar 15) (dLst (dCons (dTup (dCons (dC (.int 6)) (dCons (dTup (dCons (dC (.int 3)) (dCons (dC (.int 2)) (dNil)))) (dNil)))) (dCons (dTup (dCons (dC (.int 1)) (dCons (dTup (dCons (dC (.int 1)) (dCons (dC (.int 1)) (dNil)))) (dNil)))) (dCons (dC .non) (dCons (dC (.int 2)) (dNil))))))) (dBin eqZ (dApp (lenX 0 (clo d_Rows___len__) lenP) (dCons (dFn (clo (dStar 1 d_Rows_of)) (dCons (dC (.int 4)) (dNil))) (dNil))) (dC (.int 0))))))))))
def d_law : DF := dDef 1 16 b_law
end Z
end
end
section
set_option Elab.async false
set_option linter.all false
set_option maxRecDepth 100000
set_option maxHeartbeats 0
noncomputable section
namespace Z
open PySem PySem.Spec PyProof.Rows L2
def top (i : Nat) : Stmt := PySem.Challenge.pw_sumdigits_k26_rows_that_depend.main.body.getD i (.Pass ⟨0, 0, 0, 0⟩)
def cst (i j : Nat) : Stmt := match top i with
  | .ClassDef (body := b) .. => b.getD j (.Pass ⟨0, 0, 0, 0⟩)
  | _ => .Pass ⟨0, 0, 0, 0⟩
def hd0 : He5.DefA := ⟨fun K => He.ma K (He.ga K "BadWidth") "__init__", "__init__", "BadWidth.__init__", defArgs (cst 5 0), defBody (cst 5 0), defScope (cst 5 0), [], []⟩
def hd1 : He5.DefA := ⟨fun K => He.ma K (He.ga K "BadNumber") "__init__", "__init__", "BadNumber.__init__", defArgs (cst 6 0), defBody (cst 6 0), defScope (cst 6 0), [], []⟩
def hd2 : He5.DefA := ⟨fun K => He.ga K "is_integer", "is_integer", "is_integer", defArgs (top 1), defBody (top 1), defScope (top 1), [], []⟩
def hd3 : He5.DefA := ⟨fun K => He.ga K "is_between", "is_between", "is_between", defArgs (top 2), defBody (top 2), defScope (top 2), [], []⟩
def hd4 : He5.DefA := ⟨fun K => He.ga K "is_row", "is_row", "is_row", defArgs (top 9), defBody (top 9), defScope (top 9), [], []⟩
def hd5 : He5.DefA := ⟨fun K => He.ga K "shared", "shared", "shared", defArgs (top 10), defBody (top 10), defScope (top 10), [], []⟩
def hd6 : He5.DefA := ⟨fun K => He.ga K "first_place", "first_place", "first_place", defArgs (top 11), defBody (top 11), defScope (top 11), [], []⟩
def hd7 : He5.DefA := ⟨fun K => He.ga K "cleared", "cleared", "cleared", defArgs (top 12), defBody (top 12), defScope (top 12), [], []⟩
def hd8 : He5.DefA := ⟨fun K => He.ga K "_law_pen", "_law_pen", "_law_pen", defArgs (top 15), defBody (top 15), defScope (top 15), [], []⟩
def hd9 : He5.DefA := ⟨fun K => He.ga K "_law_draw", "_law_draw", "_law_draw", defArgs (top 16), defBody (top 16), defScope (top 16), [], []⟩
def hd10 : He5.DefA := ⟨fun K => He.ga K "_law_pick", "_law_pick", "_law_pick", defArgs (top 17), defBody (top 17), defScope (top 17), [], []⟩
def hd11 : He5.DefA := ⟨fun K => He.ga K "_law_shared", "_law_shared", "_law_shared", defArgs (top 18), defBody (top 18), defScope (top 18), [], []⟩
def hd12 : He5.DefA := ⟨fun K => He.ga K "_law_reduced", "_law_reduced", "_law_reduced", defArgs (top 19), defBody (top 19), defScope (top 19), [], []⟩
def hd13 : He5.DefA := ⟨fun K => He.ga K "_law_place", "_law_place", "_law_place", defArgs (top 20), defBody (top 20), defScope (top 20), [], []⟩
def hd14 : He5.DefA := ⟨fun K => He.ga K "_law_free", "_law_free", "_law_free", defArgs (top 21), defBody (top 21), defScope (top 21), [], []⟩
def hd15 : He5.DefA := ⟨fun K => He.ga K "_law_row", "_law_row", "_law_row", defArgs (top 22), defBody (top 22), defScope (top 22), [], []⟩
def hd16 : He5.DefA := ⟨fun K => He.ga K "_law_mixed", "_law_mixed", "_law_mixed", defArgs (top 23), defBody (top 23), defScope (top 23), [], []⟩
def hd17 : He5.DefA := ⟨fun K => He.ga K "_law_rows", "_law_rows", "_law_rows", defArgs (top 24), defBody (top 24), defScope (top 24), [], []⟩
def hd18 : He5.DefA := ⟨fun K => He.ma K (He.ga K "Rows") "need_row", "need_row", "Rows.need_row", defArgs (cst 13 2), defBody (cst 13 2), defScope (cst 13 2), [], []⟩
def hd19 : He5.DefA := ⟨fun K => He.ma K (He.ga K "Rows") "line_of", "line_of", "Rows.line_of", defArgs (cst 13 3), defBody (cst 13 3), defScope (cst 13 3), [], []⟩
def hd20 : He5.DefA := ⟨fun K => He.ma K (He.ga K "Rows") "made_of", "made_of", "Rows.made_of", defArgs (cst 13 6), defBody (cst 13 6), defScope (cst 13 6), [], []⟩
def hd21 : He5.DefA := ⟨fun K => He.ma K (He.ga K "Rows") "__len__", "__len__", "Rows.__len__", defArgs (cst 13 8), defBody (cst 13 8), defScope (cst 13 8), [], []⟩
def hd22 : He5.DefA := ⟨fun K => He.ma K (He.ga K "Rows") "__iter__", "__iter__", "Rows.__iter__", defArgs (cst 13 9), defBody (cst 13 9), defScope (cst 13 9), [], []⟩
def hd23 : He5.DefA := ⟨fun K => He.ga K "_law_made_right", "_law_made_right", "_law_made_right", defArgs (top 25), defBody (top 25), defScope (top 25), [], []⟩
def hd24 : He5.DefA := ⟨fun K => He.ma K (He.ga K "Rows") "__init__", "__init__", "Rows.__init__", defArgs (cst 13 0), defBody (cst 13 0), defScope (cst 13 0), [], []⟩
def hd25 : He5.DefA := ⟨fun K => He.ma K (He.ga K "Rows") "more", "more", "Rows.more", defArgs (cst 13 5), defBody (cst 13 5), defScope (cst 13 5), [], []⟩
def hd26 : He5.DefA := ⟨fun K => stA K (He.ga K "Rows") "of", "of", "Rows.of", defArgs (cst 13 1), defBody (cst 13 1), defScope (cst 13 1), [], []⟩
def hd27 : He5.DefA := ⟨fun K => He.ga K "law", "law", "law", defArgs (top 26), defBody (top 26), defScope (top 26), [], []⟩
def fnl : List He5.DefA := ([hd0, hd1, hd2, hd3, hd4, hd5, hd6, hd7, hd8, hd9, hd10, hd11, hd12, hd13, hd14, hd15, hd16, hd17, hd18, hd19, hd20, hd21, hd22, hd23, hd24, hd25, hd26, hd27] : List He5.DefA)
def fal : List He.Fa := ([.glo "BadWidth", .glo "BadNumber", .free "int", .free "isinstance", .free "bool", .glo "is_integer", .glo "is_between", .free "tuple", .free "len", .free "all", .glo "is_row", .free "abs", .glo "shared", .free "enumerate", .glo "first_place", .free "zip", .glo "cleared", .free "list", .glo "_law_pen", .glo "_law_draw", .glo "_law_pick", .glo "_law_shared", .glo "_law_reduced", .free "range", .glo "_law_place", .glo "_law_free", .glo "_law_row", .glo "_law_mixed", .glo "_law_rows", .cls "Rows"] : List He.Fa) ++ ([.meth "Rows" "need_row", .meth "Rows" "line_of", .meth "Rows" "made_of", .meth "Rows" "__len__", .meth "Rows" "__iter__", .free "iter", .free "sum", .glo "_law_made_right", .int "MOST_WIDTH" (60), .mkr "Rows", .glo "Rows", .meth "Rows" "more", .glo "law", .keep "BadWidth", .keep "BadNumber"] : List He.Fa)
def exl : List (PySem.W.Frag → Bool) := ([exnB "BadWidth" ["value"], exnB "BadNumber" ["value"], statB "Rows" "of", tbB T0 fds okl oxl, kiB T0 I0] : List (PySem.W.Frag → Bool))
def names : List PySem.Str := (["__name__", "is_integer", "is_between", "SumError", "BadWidth", "BadNumber", "MOST_WIDTH", "is_row", "shared", "first_place", "cleared", "Rows", "_law_pen", "_law_draw", "_law_pick", "_law_shared", "_law_reduced", "_law_place", "_law_free", "_law_row", "_law_mixed", "_law_rows", "_law_made_right"] : List PySem.Str)
structure Gd (K : PySem.W.Frag) (mg : Str → Option Value) (base : Heap) : Prop where
  c : SaysZ fal exl fnl K
  tk : TabsK tbl K
  at_ : ∃ h : Heap, K.In h ∧ h.Ns mainGlobals mg
  inB : K.In base
  bt : BaseT (T0.tabs K) mg base
  se : base.NoSeer
section
variable {K : PySem.W.Frag} {mg : Str → Option Value} {base : Heap}
theorem Gd.glo (g : Gd K mg base) (i : Nat) {x : Str} (h : fal[i]? = some (.glo x) := by rfl) : mg x = some (.ref (He.ga K x)) := let ⟨_, a, b⟩ := g.at_; He.glo_ok a b (g.c.fact i h)
theorem Gd.free (g : Gd K mg base) (i : Nat) {x : Str} (h : fal[i]? = some (.free x) := by rfl) : mg x = none := let ⟨_, a, b⟩ := g.at_; He.free_ok a b (g.c.fact i h)
theorem Gd.int (g : Gd K mg base) (i : Nat) {x : Str} {v : Int} (h : fal[i]? = some (.int x v) := by rfl) : ∃ t, mg x = some (.int v t) := let ⟨_, a, b⟩ := g.at_; He.int_ok a b (g.c.fact i h)
theorem Gd.str (g : Gd K mg base) (i : Nat) {x z : Str} (h : fal[i]? = some (.str x z) := by rfl) : ∃ t, mg x = some (.str z t) := let ⟨_, a, b⟩ := g.at_; He.str_ok a b (g.c.fact i h)
theorem Gd.tb0 (g : Gd K mg base) : TbOk T0 K := tbB_ok (cns := cns) (tb := tbl) (g.c.extra 3 (f := tbB T0 fds okl oxl) rfl)
theorem Gd.ki (g : Gd K mg base) : KiOk T0 I0 K := kiB_ok (g.c.extra 4 (f := kiB T0 I0) rfl)
end
end Z
end
end
section
set_option Elab.async false
set_option linter.all false
set_option maxRecDepth 100000
set_option maxHeartbeats 1000000
/-! K27A: rows cleared by rows: plain reckoning. -/
noncomputable section
namespace Z
open PySem PySem.Spec PyProof.Rows L2

def glF (g : Nat) (ns : List Int) : Nat := ns.foldl (fun g n => Nat.gcd g n.natAbs) g
abbrev gl (ns : List Int) : Nat := glF 0 ns
theorem glF_dvd : ∀ (ns : List Int) (g : Nat), glF g ns ∣ g ∧ ∀ n ∈ ns, glF g ns ∣ n.natAbs
  | [], g => ⟨Nat.dvd_refl _, fun n h => nomatch h⟩
  | n :: ns, g => by
    obtain ⟨h1, h2⟩ := glF_dvd ns (Nat.gcd g n.natAbs)
    have e : glF g (n :: ns) = glF (Nat.gcd g n.natAbs) ns := rfl
    rw [e]
    refine ⟨Nat.dvd_trans h1 (Nat.gcd_dvd_left _ _), fun m hm => ?_⟩
    rcases List.mem_cons.mp hm with rfl | hm
    · exact Nat.dvd_trans h1 (Nat.gcd_dvd_right _ _)
    · exact h2 m hm
theorem gl_dvd {ns : List Int} {n : Int} (h : n ∈ ns) : ((gl ns : Nat) : Int) ∣ n := Int.ofNat_dvd_left.mpr ((glF_dvd ns 0).2 n h)
theorem gl_pos {ns : List Int} {n : Int} (h : n ∈ ns) (hn : n ≠ 0) : 0 < gl ns := by
  have := (glF_dvd ns 0).2 n h
  exact Nat.pos_of_dvd_of_pos this (Int.natAbs_pos.mpr hn)
theorem gl_le {ns : List Int} {n : Int} (h : n ∈ ns) (hn : n ≠ 0) : gl ns ≤ n.natAbs := Nat.le_of_dvd (Int.natAbs_pos.mpr hn) ((glF_dvd ns 0).2 n h)
def comb (a b : Int) (L S : List Int) : List Int := (L.zip S).map fun p => a * p.1 - b * p.2
theorem comb_len (a b : Int) (L S : List Int) : (comb a b L S).length = min L.length S.length := by unfold comb; rw [List.length_map, List.length_zip]
def at_ (l : List Int) (i : Nat) : Int := l.getD i 0
theorem at_lt {l : List Int} {i : Nat} (h : i < l.length) : at_ l i = l[i] := by unfold at_; rw [List.getD_eq_getElem?_getD, List.getElem?_eq_getElem h]; rfl
theorem at_ge {l : List Int} {i : Nat} (h : l.length ≤ i) : at_ l i = 0 := by unfold at_; rw [List.getD_eq_getElem?_getD, List.getElem?_eq_none h]; rfl
theorem at_mem {l : List Int} {i : Nat} (h : i < l.length) : at_ l i ∈ l := by rw [at_lt h]; exact List.getElem_mem h
theorem comb_at {a b : Int} {L S : List Int} (h : L.length = S.length) (i : Nat) : at_ (comb a b L S) i = a * at_ L i - b * at_ S i := by
  by_cases hi : i < L.length
  · rw [at_lt (by rw [comb_len]; omega), at_lt hi, at_lt (by omega)]
    simp [comb]
  · rw [at_ge (by rw [comb_len]; omega), at_ge (by omega), at_ge (by omega)]; simp
/-- one clearing -/
def red (p : Nat) (st ln : List Int) : List Int := if at_ ln p = 0 then ln else if 1 < gl (comb (at_ st p) (at_ ln p) ln st) then (comb (at_ st p) (at_ ln p) ln st).map (· / (gl (comb (at_ st p) (at_ ln p) ln st) : Int)) else comb (at_ st p) (at_ ln p) ln st
theorem red_len {p : Nat} {st ln : List Int} (h : ln.length = st.length) : (red p st ln).length = ln.length := by
  unfold red
  split
  · rfl
  · split
    · rw [List.length_map, comb_len]; omega
    · rw [comb_len]; omega
theorem map_at {l : List Int} {g : Int} (i : Nat) : at_ (l.map (· / g)) i = at_ l i / g := by
  by_cases hi : i < l.length
  · rw [at_lt (by simpa using hi), at_lt hi]; simp
  · rw [at_ge (by simpa using hi), at_ge (by omega)]; simp
/-- what a clearing does to each place: a multiple of it -/
theorem red_at {p : Nat} {st ln : List Int} (h : ln.length = st.length) (hp : at_ ln p ≠ 0) : ∃ g : Int, g ≠ 0 ∧ ∀ i, g * at_ (red p st ln) i = at_ st p * at_ ln i - at_ ln p * at_ st i := by
  unfold red
  rw [if_neg hp]
  split
  · rename_i hg
    refine ⟨(gl (comb (at_ st p) (at_ ln p) ln st) : Int), by omega, fun i => ?_⟩
    rw [map_at, ← comb_at h]
    by_cases hi : i < (comb (at_ st p) (at_ ln p) ln st).length
    · exact Int.mul_ediv_cancel' (gl_dvd (at_mem hi))
    · have z : at_ (comb (at_ st p) (at_ ln p) ln st) i = 0 := at_ge (by omega)
      rw [z]; simp
  · exact ⟨1, by decide, fun i => by rw [comb_at h, Int.one_mul]⟩
def redAll (K : List (Nat × List Int)) (ln : List Int) : List Int := K.foldl (fun l q => red q.1 q.2 l) ln
theorem redAll_len : ∀ {K : List (Nat × List Int)} {ln : List Int} {n : Nat}, (∀ q ∈ K, q.2.length = n) → ln.length = n → (redAll K ln).length = n
  | [], _, _, _, h => h
  | q :: K, ln, n, hK, h => by
    have e : redAll (q :: K) ln = redAll K (red q.1 q.2 ln) := rfl
    rw [e]
    exact redAll_len (fun q' hq => hK q' (List.mem_cons_of_mem _ hq)) (by rw [red_len (by rw [h, hK q List.mem_cons_self])]; exact h)
/-! ### the first place -/
def fp (l : List Int) : Option Nat := l.findIdx? (fun x => decide (x ≠ 0))
theorem fp_none {l : List Int} : fp l = none ↔ ∀ i, at_ l i = 0 := by
  unfold fp
  rw [List.findIdx?_eq_none_iff]
  constructor
  · intro h i
    by_cases hi : i < l.length
    · have := h l[i] (List.getElem_mem hi)
      rw [at_lt hi]
      simpa using this
    · exact at_ge (by omega)
  · intro h x hx
    obtain ⟨i, hi, rfl⟩ := List.getElem_of_mem hx
    have := h i
    rw [at_lt hi] at this
    simp [this]
theorem fp_some {l : List Int} {p : Nat} : fp l = some p ↔ at_ l p ≠ 0 ∧ ∀ i, i < p → at_ l i = 0 := by
  unfold fp
  rw [List.findIdx?_eq_some_iff_getElem]
  constructor
  · rintro ⟨h, h1, h2⟩
    refine ⟨?_, fun i hi => ?_⟩
    · rw [at_lt h]; simpa using h1
    · have := h2 i hi
      rw [at_lt (by omega)]
      simpa using this
  · rintro ⟨h1, h2⟩
    have h : p < l.length := Nat.lt_of_not_le fun z => h1 (at_ge z)
    refine ⟨h, ?_, fun j hj => ?_⟩
    · rw [at_lt h] at h1; simpa using h1
    · have := h2 j hj
      rw [at_lt (by omega)] at this
      simp [this]
theorem fp_lt {l : List Int} {p : Nat} (h : fp l = some p) : p < l.length := Nat.lt_of_not_le fun z => (fp_some.mp h).1 (at_ge z)
/-- two lines with the same places, but for a multiple -/
def Sim (w : Nat) (L l : List Int) : Prop := ∃ α β : Int, α ≠ 0 ∧ β ≠ 0 ∧ ∀ i, i < w → α * at_ L i = β * at_ l i
theorem Sim.zero {w : Nat} {L l : List Int} (h : Sim w L l) {i : Nat} (hi : i < w) : at_ L i = 0 ↔ at_ l i = 0 := by
  obtain ⟨α, β, ha, hb, h⟩ := h
  have := h i hi
  constructor
  · intro z
    rw [z, Int.mul_zero] at this
    exact (Int.mul_eq_zero.mp this.symm).resolve_left hb
  · intro z
    rw [z, Int.mul_zero] at this
    exact (Int.mul_eq_zero.mp this).resolve_left ha
theorem Sim.red {w : Nat} {L l St st : List Int} {p : Nat} (h : Sim w L l) (hs : Sim w St st) (hp : p < w) (h1 : L.length = St.length) (h2 : l.length = st.length) : Sim w (Z.red p St L) (Z.red p st l) := by
  by_cases hz : at_ l p = 0
  · have hZ := (h.zero hp).mpr hz
    unfold Z.red
    rw [if_pos hz, if_pos hZ]
    exact h
  · have hZ : at_ L p ≠ 0 := fun z => hz ((h.zero hp).mp z)
    obtain ⟨g, hg, e1⟩ := red_at h1 hZ
    obtain ⟨k, hk, e2⟩ := red_at h2 hz
    obtain ⟨α, β, ha, hb, h⟩ := h
    obtain ⟨α', β', ha', hb', hs⟩ := hs
    refine ⟨α' * α * g, β' * β * k, Int.mul_ne_zero (Int.mul_ne_zero ha' ha) hg, Int.mul_ne_zero (Int.mul_ne_zero hb' hb) hk, fun i hi => ?_⟩
    rw [Int.mul_assoc (α' * α) g, e1, Int.mul_assoc (β' * β) k, e2]
    have a1 := h i hi
    have a2 := h p hp
    have a3 := hs i hi
    have a4 := hs p hp
    have x1 : α' * α * (at_ St p * at_ L i) = (α' * at_ St p) * (α * at_ L i) := by ac_rfl
    have x2 : α' * α * (at_ L p * at_ St i) = (α * at_ L p) * (α' * at_ St i) := by ac_rfl
    have x3 : β' * β * (at_ st p * at_ l i) = (β' * at_ st p) * (β * at_ l i) := by ac_rfl
    have x4 : β' * β * (at_ l p * at_ st i) = (β * at_ l p) * (β' * at_ st i) := by ac_rfl
    rw [Int.mul_sub, Int.mul_sub, x1, x2, x3, x4, a1, a2, a3, a4]
/-- lots of steps, of rows alike -/
inductive SimK (w : Nat) : List (Nat × List Int) → List (Nat × List Int) → Prop
  | nil : SimK w [] []
  | cons {p : Nat} {St st : List Int} {P K : List (Nat × List Int)} (h : Sim w St st) (hp : p < w) (l1 : St.length = 2 * w + 1) (l2 : st.length = w) (r : SimK w P K) : SimK w ((p, St) :: P) ((p, st) :: K)
theorem SimK.redAll {w : Nat} : ∀ {P K : List (Nat × List Int)} {L l : List Int}, SimK w P K → Sim w L l → L.length = 2 * w + 1 → l.length = w → Sim w (Z.redAll P L) (Z.redAll K l)
  | _, _, L, l, .nil, h, _, _ => h
  | _, _, L, l, .cons (p := p) (St := s1) (st := s2) (P := P) (K := K) hs hp l1 l2 r, h, h1, h2 => by
    show Sim w (Z.redAll P (Z.red p s1 L)) (Z.redAll K (Z.red p s2 l))
    exact SimK.redAll r (h.red hs hp (by rw [h1, l1]) (by rw [h2, l2])) (by rw [red_len (by rw [h1, l1])]; exact h1) (by rw [red_len (by rw [h2, l2])]; exact h2)
theorem SimK.snoc {w : Nat} : ∀ {P K : List (Nat × List Int)} {p : Nat} {s1 s2 : List Int}, SimK w P K → Sim w s1 s2 → p < w → s1.length = 2 * w + 1 → s2.length = w → SimK w (P ++ [(p, s1)]) (K ++ [(p, s2)])
  | _, _, p, s1, s2, .nil, h, hp, l1, l2 => .cons h hp l1 l2 .nil
  | _, _, p, s1, s2, .cons a b c d r, h, hp, l1, l2 => .cons a b c d (r.snoc h hp l1 l2)
theorem SimK.len {w : Nat} : ∀ {P K : List (Nat × List Int)}, SimK w P K → P.length = K.length
  | _, _, .nil => rfl
  | _, _, .cons _ _ _ _ r => by rw [List.length_cons, List.length_cons, r.len]
theorem SimK.lenP {w : Nat} : ∀ {P K : List (Nat × List Int)}, SimK w P K → ∀ q ∈ P, q.2.length = 2 * w + 1 ∧ q.1 < w
  | _, _, .cons _ hp l1 _ r, q, hq => by
    rcases List.mem_cons.mp hq with rfl | hq
    · exact ⟨l1, hp⟩
    · exact r.lenP q hq
theorem SimK.lenK {w : Nat} : ∀ {P K : List (Nat × List Int)}, SimK w P K → ∀ q ∈ K, q.2.length = w ∧ q.1 < w
  | _, _, .cons _ hp _ l2 r, q, hq => by
    rcases List.mem_cons.mp hq with rfl | hq
    · exact ⟨l2, hp⟩
    · exact r.lenK q hq
theorem at_take {l : List Int} {w i : Nat} (h : i < w) : at_ (l.take w) i = at_ l i := by
  unfold at_
  rw [List.getD_eq_getElem?_getD, List.getD_eq_getElem?_getD, List.getElem?_take_of_lt h]
theorem Sim.fp {w : Nat} {L l : List Int} (h : Sim w L l) (hl : l.length = w) : Z.fp (L.take w) = Z.fp l := by
  cases q : Z.fp l with
  | none =>
    rw [fp_none] at q ⊢
    intro i
    by_cases hi : i < w
    · rw [at_take hi]; exact (h.zero hi).mpr (q i)
    · exact at_ge (by rw [List.length_take]; omega)
  | some p =>
    have hp := fp_lt q
    rw [fp_some] at q ⊢
    rw [hl] at hp
    refine ⟨by rw [at_take hp]; exact fun z => q.1 ((h.zero hp).mp z), fun i hi => ?_⟩
    rw [at_take (by omega)]
    exact (h.zero (by omega)).mpr (q.2 i hi)
/-! ### each place is cleared for good -/
/-- the steps' places are new, and not 0 there -/
def Ech : List (Nat × List Int) → Prop
  | [] => True
  | q :: K => at_ q.2 q.1 ≠ 0 ∧ (∀ r ∈ K, at_ r.2 q.1 = 0) ∧ Ech K
theorem red_zero {p : Nat} {st ln : List Int} (h : ln.length = st.length) : at_ (red p st ln) p = 0 := by
  by_cases hz : at_ ln p = 0
  · unfold red; rw [if_pos hz]; exact hz
  · obtain ⟨g, hg, e⟩ := red_at h hz
    have := e p
    rw [Int.mul_comm (at_ ln p), Int.sub_self] at this
    exact (Int.mul_eq_zero.mp this).resolve_left hg
theorem red_keep {p j : Nat} {st ln : List Int} (h : ln.length = st.length) (h1 : at_ ln j = 0) (h2 : at_ st j = 0) : at_ (red p st ln) j = 0 := by
  by_cases hz : at_ ln p = 0
  · unfold red; rw [if_pos hz]; exact h1
  · obtain ⟨g, hg, e⟩ := red_at h hz
    have := e j
    rw [h1, h2, Int.mul_zero, Int.mul_zero, Int.sub_self] at this
    exact (Int.mul_eq_zero.mp this).resolve_left hg
theorem redAll_keep {n j : Nat} : ∀ {K : List (Nat × List Int)} {ln : List Int}, (∀ q ∈ K, q.2.length = n ∧ at_ q.2 j = 0) → ln.length = n → at_ ln j = 0 → at_ (redAll K ln) j = 0
  | [], _, _, _, h => h
  | q :: K, ln, hK, hl, h => by
    obtain ⟨a, b⟩ := hK q List.mem_cons_self
    show at_ (redAll K (red q.1 q.2 ln)) j = 0
    exact redAll_keep (fun r hr => hK r (List.mem_cons_of_mem _ hr)) (by rw [red_len (by rw [hl, a])]; exact hl) (red_keep (by rw [hl, a]) h b)
theorem redAll_zero {n : Nat} : ∀ {K : List (Nat × List Int)} {ln : List Int}, Ech K → (∀ q ∈ K, q.2.length = n) → ln.length = n → ∀ q ∈ K, at_ (redAll K ln) q.1 = 0
  | q :: K, ln, hE, hK, hl, r, hr => by
    have e : redAll (q :: K) ln = redAll K (red q.1 q.2 ln) := rfl
    have hq := hK q List.mem_cons_self
    have hl' : (red q.1 q.2 ln).length = n := by rw [red_len (by rw [hl, hq])]; exact hl
    rw [e]
    rcases List.mem_cons.mp hr with rfl | hr
    · exact redAll_keep (fun s hs => ⟨hK s (List.mem_cons_of_mem _ hs), hE.2.1 s hs⟩) hl' (red_zero (by rw [hl, hq]))
    · exact redAll_zero hE.2.2 (fun s hs => hK s (List.mem_cons_of_mem _ hs)) hl' r hr
theorem Ech.snoc : ∀ {K : List (Nat × List Int)} {p : Nat} {l : List Int}, Ech K → at_ l p ≠ 0 → (∀ q ∈ K, at_ l q.1 = 0) → Ech (K ++ [(p, l)])
  | [], p, l, _, h, _ => ⟨h, fun r hr => (nomatch hr), trivial⟩
  | q :: K, p, l, hE, h, hz => ⟨hE.1, fun r hr => by
      rcases List.mem_append.mp hr with hr | hr
      · exact hE.2.1 r hr
      · rw [List.mem_singleton.mp hr]; exact hz q List.mem_cons_self, hE.2.2.snoc h fun r hr => hz r (List.mem_cons_of_mem _ hr)⟩
theorem nodup_lt : ∀ (w : Nat) (l : List Nat), l.Nodup → (∀ x ∈ l, x < w) → l.length ≤ w
  | 0, [], _, _ => Nat.le_refl _
  | 0, x :: l, _, h => absurd (h x List.mem_cons_self) (Nat.not_lt_zero _)
  | w + 1, l, hn, h => by
    by_cases hw : w ∈ l
    · have h1 := nodup_lt w (l.erase w) (hn.erase w) fun x hx => by
        have := (hn.mem_erase_iff).mp hx
        have := h x this.2
        omega
      rw [List.length_erase_of_mem hw] at h1
      omega
    · have := nodup_lt w l hn fun x hx => by
        have := h x hx
        have : x ≠ w := fun z => hw (z ▸ hx)
        omega
      omega
theorem Ech.nodup : ∀ {K : List (Nat × List Int)}, Ech K → (K.map (·.1)).Nodup
  | [], _ => List.nodup_nil
  | q :: K, hE => by
    rw [List.map_cons, List.nodup_cons]
    refine ⟨fun hm => ?_, hE.2.2.nodup⟩
    obtain ⟨r, hr, e⟩ := List.mem_map.mp hm
    have h1 := hE.2.1 r hr
    -- r's own place is q's: it is not 0 there
    have h2 : ∀ {K : List (Nat × List Int)}, Ech K → ∀ r ∈ K, at_ r.2 r.1 ≠ 0 := by
      intro K
      induction K with
      | nil => intro _ r hr; cases hr
      | cons s K ih =>
        intro hE r hr
        rcases List.mem_cons.mp hr with rfl | hr
        · exact hE.1
        · exact ih hE.2.2 r hr
    exact h2 hE.2.2 r hr (by rw [e]; exact h1)
theorem Ech.room {w : Nat} {K : List (Nat × List Int)} (hE : Ech K) (hw : ∀ q ∈ K, q.1 < w) : K.length ≤ w := by
  have := nodup_lt w (K.map (·.1)) hE.nodup fun x hx => by
    obtain ⟨q, hq, rfl⟩ := List.mem_map.mp hx
    exact hw q hq
  rwa [List.length_map] at this
/-! ### how great the numbers get -/
def Bd (b : Nat) (l : List Int) : Prop := ∀ x ∈ l, x.natAbs < 2 ^ b
theorem Bd.at_ {b : Nat} {l : List Int} (h : Bd b l) (i : Nat) : (Z.at_ l i).natAbs < 2 ^ b := by
  by_cases hi : i < l.length
  · exact h _ (at_mem hi)
  · rw [at_ge (by omega)]; exact Nat.pow_pos (by decide)
theorem Bd.comb {s b : Nat} {a c : Int} {L S : List Int} (ha : a.natAbs < 2 ^ s) (hc : c.natAbs < 2 ^ b) (hL : Bd b L) (hS : Bd s S) : Bd (s + b + 1) (Z.comb a c L S) := by
  intro x hx
  obtain ⟨p, hp, rfl⟩ := List.mem_map.mp hx
  obtain ⟨p1, p2⟩ := List.of_mem_zip (a := p.1) (b := p.2) hp
  have h1 := hL _ p1
  have h2 := hS _ p2
  have m1 : (a * p.1).natAbs < 2 ^ s * 2 ^ b := by
    rw [Int.natAbs_mul]
    exact Nat.mul_lt_mul'' ha h1
  have m2 : (c * p.2).natAbs < 2 ^ s * 2 ^ b := by
    rw [Int.natAbs_mul, Nat.mul_comm]
    exact Nat.mul_lt_mul'' h2 hc
  have e : 2 ^ (s + b + 1) = 2 * (2 ^ s * 2 ^ b) := by rw [Nat.pow_succ, Nat.pow_add, Nat.mul_comm]
  rw [e]
  have : (a * p.1 - c * p.2).natAbs ≤ (a * p.1).natAbs + (c * p.2).natAbs := by omega
  omega
theorem Bd.red {s b p : Nat} {st ln : List Int} (hS : Bd s st) (hL : Bd b ln) : Bd (s + b + 1) (Z.red p st ln) := by
  unfold Z.red
  split
  · exact fun x hx => Nat.lt_of_lt_of_le (hL x hx) (Nat.pow_le_pow_right (by decide) (by omega))
  · have hc := Bd.comb (hS.at_ p) (hL.at_ p) hL hS
    split
    · intro x hx
      obtain ⟨y, hy, rfl⟩ := List.mem_map.mp hx
      exact Nat.lt_of_le_of_lt (Int.natAbs_ediv_le_natAbs _ _) (hc y hy)
    · exact hc
/-- the k-th step has fewer than 2 ^ k * (b + 1) bits -/
def BdK (b : Nat) : Nat → List (Nat × List Int) → Prop
  | _, [] => True
  | k, q :: K => Bd (2 ^ k * (b + 1) - 1) q.2 ∧ BdK b (k + 1) K
theorem Bd.redAll {b : Nat} : ∀ {K : List (Nat × List Int)} {k : Nat} {ln : List Int}, BdK b k K → Bd (2 ^ k * (b + 1) - 1) ln → Bd (2 ^ (k + K.length) * (b + 1) - 1) (Z.redAll K ln)
  | [], _, _, _, h => h
  | q :: K, k, ln, hK, h => by
    have e : Z.redAll (q :: K) ln = Z.redAll K (Z.red q.1 q.2 ln) := rfl
    have e2 : k + (q :: K).length = k + 1 + K.length := by rw [List.length_cons]; omega
    rw [e, e2]
    refine Bd.redAll hK.2 ?_
    have h1 := Bd.red (p := q.1) hK.1 h
    have hp : 1 ≤ 2 ^ k * (b + 1) := Nat.mul_pos (Nat.pow_pos (by decide)) (Nat.succ_pos b)
    have e3 : 2 ^ (k + 1) * (b + 1) - 1 = 2 ^ k * (b + 1) - 1 + (2 ^ k * (b + 1) - 1) + 1 := by
      rw [Nat.pow_succ, Nat.mul_comm (2 ^ k) 2, Nat.mul_assoc]; omega
    rw [e3]; exact h1
theorem BdK.snoc {b : Nat} : ∀ {K : List (Nat × List Int)} {k p : Nat} {l : List Int}, BdK b k K → Bd (2 ^ (k + K.length) * (b + 1) - 1) l → BdK b k (K ++ [(p, l)])
  | [], k, p, l, _, h => ⟨h, trivial⟩
  | q :: K, k, p, l, hK, h => ⟨hK.1, hK.2.snoc (by
      have e2 : k + (q :: K).length = k + 1 + K.length := by rw [List.length_cons]; omega
      rw [← e2]; exact h)⟩
end Z
end
end
section
set_option Elab.async false
set_option linter.all false
set_option maxRecDepth 100000
set_option maxHeartbeats 2000000
set_option exponentiation.threshold 10000
/-! K27B: what the defs compute. -/
noncomputable section
namespace Z
open PySem PySem.Spec PyProof.Rows L2

def rL (r : List Int) : PV := .nd .lst (r.map .int)
def rT (r : List Int) : PV := .nd .tup (r.map .int)
/-! ### Euclid -/
theorem euclid {c : DB} {bd : DS} {g : Nat → Nat → Loc} {S : Sto} (hc0 : ∀ a, c (g a 0) S = .ok false S) (hc1 : ∀ a b, 0 < b → c (g a b) S = .ok true S) (hb : ∀ a b, 0 < b → bd (g a b) S = .nx (g b (a % b)) S) :
    ∀ (n a b : Nat), b < n → whileN c bd n (g a b) S = .nx (g (Nat.gcd a b) 0) S := by
  intro n
  induction n with
  | zero => intro a b h; exact absurd h (Nat.not_lt_zero _)
  | succ n ih =>
    intro a b h
    rw [whileN]
    by_cases q : b = 0
    · subst q
      rw [hc0]
      simp
    · have hb0 : 0 < b := Nat.pos_of_ne_zero q
      rw [hc1 a b hb0]
      simp only [st_ok, if_true]
      rw [hb a b hb0]
      simp only
      have hm := Nat.mod_lt a hb0
      rw [ih b (a % b) (by omega), Nat.gcd_comm b (a % b), ← Nat.gcd_rec, Nat.gcd_comm]
theorem fuel_big {b : Nat} (h : b < 2 ^ 100000) : b < FUELB := by
  unfold FUELB
  exact Nat.lt_of_lt_of_le h (Nat.pow_le_pow_right (by omega) (by omega))
theorem modP_nat (a b : Nat) (S : Sto) (h : 0 < b) : modP (.int (a : Nat)) (.int (b : Nat)) S = .ok (.int ((a % b : Nat) : Int)) S := by
  rw [modP_int S _ _ (by omega)]; rfl
theorem d_shared_ok (ns : List Int) (S : Sto) (hb : ∀ n ∈ ns, n.natAbs < 2 ^ 100000) : d_shared [rL ns] S = .ok (.int (gl ns : Nat)) S := by
  obtain ⟨l', S', f1, rfl, o2, o3, o4, rfl⟩ := forZ_inv (t := .nm 2) (hs := []) (b := dSeq (dPar 3 4 (dCons (dVar 1) (dCons (dApp absP (dCons (dVar 2) (dNil))) (dNil)))) (dSeq (dWhl FUELB (dB (dBin neZ (dVar 4) (dC (.int 0)))) (dPar 3 4 (dCons (dVar 4) (dCons (dBin modP (dVar 3) (dVar 4)) (dNil))))) (dSet 1 (dVar 3))))
    (fun i l S' => S' = S ∧ ∃ o2 o3 o4, l = [some (rL ns), some (.int (gl (ns.take i) : Nat)), o2, o3, o4]) (ns.map .int) 0 [some (rL ns), some (.int 0), none, none, none] S ⟨rfl, none, none, none, rfl⟩ (by
      rintro i x l S' hx ⟨rfl, o2, o3, o4, rfl⟩
      rw [Nat.zero_add]
      rw [List.getElem?_map, Option.map_eq_some_iff] at hx
      obtain ⟨n, hn, rfl⟩ := hx
      have hnb := hb n (List.mem_of_getElem? hn)
      have e1 : gl (ns.take (i + 1)) = Nat.gcd (gl (ns.take i)) n.natAbs := by
        unfold gl glF
        rw [List.take_add_one, hn, Option.toList_some, List.foldl_append, List.foldl_cons, List.foldl_nil]
      have ea : absP [.int n] S' = .ok (.int (n.natAbs : Nat)) S' := by
        rw [absP_int]
        congr 2
        split <;> omega
      have hw := euclid (c := dB (dBin neZ (dVar 4) (dC (.int 0)))) (bd := dPar 3 4 (dCons (dVar 4) (dCons (dBin modP (dVar 3) (dVar 4)) (dNil)))) (g := fun a b => [some (rL ns), some (.int (gl (ns.take i) : Nat)), some (.int n), some (.int (a : Nat)), some (.int (b : Nat))]) (S := S')
        (fun a => by simp) (fun a b h => by
          have : ((b : Nat) : Int) ≠ 0 := by omega
          simp [this]; omega) (fun a b h => by simp [modP_nat a b S' h]) FUELB (gl (ns.take i)) n.natAbs (fuel_big hnb)
      refine ⟨_, [some (rL ns), some (.int (gl (ns.take (i + 1)) : Nat)), some (.int n), some (.int (gl (ns.take (i + 1)) : Nat)), some (.int 0)], S', asg1, ?_, heldB_nil _, rfl, _, _, _, rfl⟩
      rw [e1]
      simp only [setZ, List.set_cons_succ, List.set_cons_zero, List.foldl_cons, List.foldl_nil, dSeq_ap, dPar_ap, dCons_ap, dNil_ap, dVar_s, dVar_0, bind_ok, st_ok, seq_nx, dApp_ap, ea, dWhl, hw, dSet_ap]
      rfl)
  rw [Nat.zero_add, List.length_map, List.take_length] at f1
  refine dDef_ret _ _ rfl ?_ (Nat.le_refl _)
  unfold b_shared
  have hi : dItV (dVar 0) [some (rL ns), some (.int 0), none, none, none] S' = .ok ⟨ns.map .int, []⟩ S' := rfl
  have l0 : ([rL ns].map some ++ List.replicate (5 - 1) none : Loc).set 1 (some (.int 0)) = [some (rL ns), some (.int 0), none, none, none] := rfl
  simp only [dSeq_ap, dSet_ap, dC_ap, st_ok, seq_nx, l0]
  rw [dFor_eq hi (heldB_nil _), f1]
  rfl
theorem d_lshared_ok (ns : List Int) (S : Sto) (hb : ∀ n ∈ ns, n.natAbs < 2 ^ 100000) : d__law_shared [rL ns] S = .ok (.int (gl ns : Nat)) S := by
  obtain ⟨l', S', f1, rfl, o2, o3, rfl⟩ := forZ_inv (t := .nm 2) (hs := []) (b := dSeq (dSet 3 (dApp absP (dCons (dVar 2) (dNil)))) (dWhl FUELB (dB (dBin gtZ (dVar 3) (dC (.int 0)))) (dPar 1 3 (dCons (dVar 3) (dCons (dBin modP (dApp intX (dCons (dVar 1) (dNil))) (dVar 3)) (dNil))))))
    (fun i l S' => S' = S ∧ ∃ o2 o3, l = [some (rL ns), some (.int (gl (ns.take i) : Nat)), o2, o3]) (ns.map .int) 0 [some (rL ns), some (.int 0), none, none] S ⟨rfl, none, none, rfl⟩ (by
      rintro i x l S' hx ⟨rfl, o2, o3, rfl⟩
      rw [Nat.zero_add]
      rw [List.getElem?_map, Option.map_eq_some_iff] at hx
      obtain ⟨n, hn, rfl⟩ := hx
      have hnb := hb n (List.mem_of_getElem? hn)
      have e1 : gl (ns.take (i + 1)) = Nat.gcd (gl (ns.take i)) n.natAbs := by
        unfold gl glF
        rw [List.take_add_one, hn, Option.toList_some, List.foldl_append, List.foldl_cons, List.foldl_nil]
      have ea : absP [.int n] S' = .ok (.int (n.natAbs : Nat)) S' := by
        rw [absP_int]
        congr 2
        split <;> omega
      have ei : ∀ a : Nat, intX [.int (a : Nat)] S' = .ok (.int (a : Nat)) S' := fun a => rfl
      have hw := euclid (c := dB (dBin gtZ (dVar 3) (dC (.int 0)))) (bd := dPar 1 3 (dCons (dVar 3) (dCons (dBin modP (dApp intX (dCons (dVar 1) (dNil))) (dVar 3)) (dNil)))) (g := fun a b => [some (rL ns), some (.int (a : Nat)), some (.int n), some (.int (b : Nat))]) (S := S')
        (fun a => by simp) (fun a b h => by
          have : (0 : Int) < (b : Nat) := by omega
          simp [this]; omega) (fun a b h => by simp [modP_nat a b S' h, ei]) FUELB (gl (ns.take i)) n.natAbs (fuel_big hnb)
      refine ⟨_, [some (rL ns), some (.int (gl (ns.take (i + 1)) : Nat)), some (.int n), some (.int 0)], S', asg1, ?_, heldB_nil _, rfl, _, _, rfl⟩
      rw [e1]
      simp only [setZ, List.set_cons_succ, List.set_cons_zero, List.foldl_cons, List.foldl_nil, dSeq_ap, dSet_ap, dCons_ap, dNil_ap, dVar_s, dVar_0, bind_ok, st_ok, seq_nx, dApp_ap, ea, dWhl, hw]
      rfl)
  rw [Nat.zero_add, List.length_map, List.take_length] at f1
  refine dDef_ret _ _ rfl ?_ (Nat.le_refl _)
  unfold b__law_shared
  have hi : dItV (dVar 0) [some (rL ns), some (.int 0), none, none] S' = .ok ⟨ns.map .int, []⟩ S' := rfl
  have l0 : ([rL ns].map some ++ List.replicate (4 - 1) none : Loc).set 1 (some (.int 0)) = [some (rL ns), some (.int 0), none, none] := rfl
  simp only [dSeq_ap, dSet_ap, dC_ap, st_ok, seq_nx, l0]
  rw [dFor_eq hi (heldB_nil _), f1]
  rfl

/-! ### one line cleared by one step -/
theorem mulT_int (i j : Int) (S : Sto) : mulT (.int i) (.int j) S = mulZ (.int i) (.int j) S := rfl
theorem mul_small {i j : Int} (h1 : i.natAbs < 2 ^ 100000) (h2 : j.natAbs < 2 ^ 100000) (S : Sto) : mulT (.int i) (.int j) S = .ok (.int (i * j)) S := by
  rw [mulT_int, mulZ_int, if_pos]
  refine .inr (.inr ?_)
  rw [BIG_eq]
  have : (2 : Nat) ^ 100000 ≤ 2 ^ 400000 := Nat.pow_le_pow_right (by omega) (by omega)
  exact ⟨Nat.lt_of_lt_of_le h1 this, Nat.lt_of_lt_of_le h2 this⟩
theorem zipP_rL (L st : List Int) (S : Sto) : zipP [rL L, rL st] S = .ok ⟨(L.zip st).map fun p => .nd .tup [.int p.1, .int p.2], []⟩ S := by
  have h1 : itOf (rL L) S = .ok ⟨L.map .int, []⟩ S := rfl
  have h2 : itOf (rL st) S = .ok ⟨st.map .int, []⟩ S := rfl
  unfold zipP
  simp only [h1, h2, zipZ_map, List.append_nil]
theorem comb_lc {a b : Int} {L st : List Int} {vs : List Nat} {i j : Nat} {l : Loc} {S : Sto} {di : DI} {el : DE} (hi : di l S = .ok ⟨(L.zip st).map fun p => .nd .tup [.int p.1, .int p.2], []⟩ S) (hl : L.length ≤ 16777216)
    (he : ∀ x y : Int, x ∈ L → y ∈ st → el (setZ (wipeZ l vs) [(i, .int x), (j, .int y)]) S = .ok (.int (a * x - b * y)) S) : dLc vs di (.tp [.nm i, .nm j]) dYes el l S = .ok (rL (comb a b L st)) S := by
  have := dLc_pure (vs := vs) (di := di) (t := .tp [.nm i, .nm j]) (el := el) (l := l) (S := S) (it := ⟨(L.zip st).map fun p => .nd .tup [.int p.1, .int p.2], []⟩)
    (fun x => match x with | .nd .tup [.int x, .int y] => .int (a * x - b * y) | _ => .non) hi (heldB_nil _) (by rw [List.length_map, List.length_zip]; omega) (by
      intro x hx
      obtain ⟨p, hp, rfl⟩ := List.mem_map.mp hx
      obtain ⟨p1, p2⟩ := List.of_mem_zip (a := p.1) (b := p.2) hp
      exact ⟨_, asg2, he p.1 p.2 p1 p2⟩)
  rw [this]
  unfold rL comb
  rw [List.map_map, List.map_map]
  rfl
theorem div_lc {g : Nat} {L : List Int} {vs : List Nat} {i : Nat} {l : Loc} {S : Sto} {di : DI} {el : DE} (hi : di l S = .ok ⟨L.map .int, []⟩ S) (hl : L.length ≤ 16777216)
    (he : ∀ x : Int, x ∈ L → el (setZ (wipeZ l vs) [(i, .int x)]) S = .ok (.int (x / (g : Int))) S) : dLc vs di (.nm i) dYes el l S = .ok (rL (L.map (· / (g : Int)))) S := by
  have := dLc_pure (vs := vs) (di := di) (t := .nm i) (el := el) (l := l) (S := S) (it := ⟨L.map .int, []⟩)
    (fun x => match x with | .int x => .int (x / (g : Int)) | _ => .non) hi (heldB_nil _) (by rw [List.length_map]; omega) (by
      intro x hx
      obtain ⟨p, hp, rfl⟩ := List.mem_map.mp hx
      exact ⟨_, asg1, he p hp⟩)
  rw [this]
  unfold rL
  rw [List.map_map, List.map_map]
  rfl
theorem div_small {x : Int} {g : Nat} (h0 : 0 < g) (S : Sto) : divB (.int x) (.int (g : Nat)) S = .ok (.int (x / (g : Int))) S := by
  unfold divB
  simp only
  rw [if_pos (by omega)]
theorem sub_rL {L : List Int} {p : Nat} (h : p < L.length) (S : Sto) : subZ (rL L) (.int (p : Nat)) S = .ok (.int (at_ L p)) S := by
  refine subZ_lst S _ _ ?_
  rw [atI_ofNat, List.getElem?_map, List.getElem?_eq_getElem h, at_lt h]; rfl
/-- a step as the program keeps it -/
def stV (q : Nat × List Int) : PV := .nd .tup [.int (q.1 : Nat), rL q.2]
theorem asgS {i j : Nat} {q : Nat × List Int} : asg (.tp [.nm i, .nm j]) (stV q) = some [(i, .int (q.1 : Nat)), (j, rL q.2)] := asg2
theorem lt_100000 {b n : Nat} {x : Int} (h : x.natAbs < 2 ^ b) (hb : b ≤ 100000) : x.natAbs < 2 ^ 100000 := Nat.lt_of_lt_of_le h (Nat.pow_le_pow_right (by decide) hb)
/-- the first place of a line that the program clears stays other than 0 at the end -/
def Good (n : Nat) (ln : List Int) : Prop := ln.length = n + 1 ∧ at_ ln n ≠ 0
theorem Good.red {n p : Nat} {st ln : List Int} (h : Good n ln) (hs : st.length = n + 1) (h0 : at_ st n = 0) (hp : at_ st p ≠ 0) : Good n (Z.red p st ln) := by
  refine ⟨by rw [red_len (by rw [h.1, hs])]; exact h.1, ?_⟩
  by_cases hz : at_ ln p = 0
  · unfold Z.red; rw [if_pos hz]; exact h.2
  · obtain ⟨g, hg, e⟩ := red_at (by rw [h.1, hs] : ln.length = st.length) hz
    have := e n
    rw [h0, Int.mul_zero, Int.sub_zero] at this
    intro z
    rw [z, Int.mul_zero] at this
    exact (Int.mul_eq_zero.mp this.symm).elim hp h.2
theorem Good.pos {n p : Nat} {st ln : List Int} (h : Good n ln) (hs : st.length = n + 1) (h0 : at_ st n = 0) (hp : at_ st p ≠ 0) : 0 < gl (comb (at_ st p) (at_ ln p) ln st) := by
  have e := comb_at (a := at_ st p) (b := at_ ln p) (by rw [h.1, hs] : ln.length = st.length) n
  rw [h0, Int.mul_zero, Int.sub_zero] at e
  have hl : n < (comb (at_ st p) (at_ ln p) ln st).length := by rw [comb_len, h.1, hs]; omega
  exact gl_pos (at_mem hl) (by rw [e]; exact Int.mul_ne_zero hp h.2)
theorem map_one (l : List Int) : l.map (· / ((1 : Nat) : Int)) = l := by
  have : (fun x : Int => x / ((1 : Nat) : Int)) = id := by funext x; simp
  rw [this, List.map_id]
/-- what must hold of the steps that clear a line -/
def StOk (n b : Nat) (P : List (Nat × List Int)) : Prop := ∀ q ∈ P, q.2.length = n + 1 ∧ at_ q.2 n = 0 ∧ q.1 < n ∧ at_ q.2 q.1 ≠ 0
theorem d_cleared_ok {n b : Nat} {S : Sto} (hn : n ≤ 1000) : ∀ (P : List (Nat × List Int)) (k : Nat) (ln : List Int), StOk n b P → Good n ln → BdK b k P → Bd (2 ^ k * (b + 1) - 1) ln → 2 ^ (k + P.length) * (b + 1) ≤ 100000 → ∀ (o1 o2 o3 o4 o5 o6 o7 o8 o9 : Option PV),
    ∃ (p2 p3 p4 p5 p6 p7 p8 p9 : Option PV), forZ (.tp [.nm 2, .nm 3]) [] (dIfS (dB (dBin neZ (dBin subZ (dVar 0) (dVar 2)) (dC (.int 0)))) (dSeq (dAsg (dTup (dCons (dBin subZ (dVar 3) (dVar 2)) (dCons (dBin subZ (dVar 0) (dVar 2)) (dNil)))) (gzT [gzN 4, gzN 5])) (dSeq (dSet 0 (dLc [6, 7] (dItA zipP (dCons (dVar 0) (dCons (dVar 3) (dNil)))) (.tp [.nm 6, .nm 7]) (dYes) (dBin subP (dBin mulT (dVar 4) (dVar 6)) (dBin mulT (dVar 5) (dVar 7))))) (dSeq (dSet 8 (dFn d_shared (dCons (dVar 0) (dNil)))) (dSet 0 (dLc [9] (dItV (dVar 0)) (.nm 9) (dYes) (dBin divB (dVar 9) (dVar 8))))))) (dSkip))
      (P.map stV) [some (rL ln), o1, o2, o3, o4, o5, o6, o7, o8, o9] S = .nx [some (rL (redAll P ln)), o1, p2, p3, p4, p5, p6, p7, p8, p9] S
  | [], k, ln, _, _, _, _, _, o1, o2, o3, o4, o5, o6, o7, o8, o9 => ⟨o2, o3, o4, o5, o6, o7, o8, o9, rfl⟩
  | q :: P, k, ln, hP, hg, hK, hb, hle, o1, o2, o3, o4, o5, o6, o7, o8, o9 => by
    obtain ⟨q1, q2, q3, q4⟩ := hP q List.mem_cons_self
    have hpow : 2 ^ (k + 1) * (b + 1) ≤ 100000 := by
      refine Nat.le_trans (Nat.mul_le_mul_right _ (Nat.pow_le_pow_right (by decide) ?_)) hle
      rw [List.length_cons]; omega
    have hp1 : 1 ≤ 2 ^ k * (b + 1) := Nat.mul_pos (Nat.pow_pos (by decide)) (Nat.succ_pos b)
    have e3 : 2 ^ (k + 1) * (b + 1) - 1 = 2 ^ k * (b + 1) - 1 + (2 ^ k * (b + 1) - 1) + 1 := by
      rw [Nat.pow_succ, Nat.mul_comm (2 ^ k) 2, Nat.mul_assoc]; omega
    have hk9 : 2 ^ k * (b + 1) - 1 ≤ 100000 := by
      have : 2 ^ (k + 1) * (b + 1) = 2 * (2 ^ k * (b + 1)) := by rw [Nat.pow_succ, Nat.mul_comm (2 ^ k) 2, Nat.mul_assoc]
      omega
    have hbr : Bd (2 ^ (k + 1) * (b + 1) - 1) (red q.1 q.2 ln) := by rw [e3]; exact Bd.red hK.1 hb
    obtain ⟨r2, r3, r4, r5, r6, r7, r8, r9, ih⟩ := d_cleared_ok (S := S) hn P (k + 1) (red q.1 q.2 ln) (fun r hr => hP r (List.mem_cons_of_mem _ hr)) (hg.red q1 q2 q4) hK.2 hbr (by
      have e2 : k + 1 + P.length = k + (q :: P).length := by rw [List.length_cons]; omega
      rw [e2]; exact hle) o1 (some (.int (q.1 : Nat))) (some (rL q.2))
      (if at_ ln q.1 = 0 then o4 else some (.int (at_ q.2 q.1))) (if at_ ln q.1 = 0 then o5 else some (.int (at_ ln q.1))) o6 o7 (if at_ ln q.1 = 0 then o8 else some (.int (gl (comb (at_ q.2 q.1) (at_ ln q.1) ln q.2) : Nat))) o9
    refine ⟨r2, r3, r4, r5, r6, r7, r8, r9, ?_⟩
    rw [List.map_cons, forZ, asgS]
    simp only [setZ, List.set_cons_succ, List.set_cons_zero, List.foldl_cons, List.foldl_nil]
    have s1 := sub_rL (L := ln) (p := q.1) (by rw [hg.1]; omega) S
    have s2 := sub_rL (L := q.2) (p := q.1) (by rw [q1]; omega) S
    by_cases hz : at_ ln q.1 = 0
    · rw [if_pos hz, if_pos hz, if_pos hz] at ih
      have e0 : red q.1 q.2 ln = ln := by unfold red; rw [if_pos hz]
      rw [e0] at ih
      have e1 : redAll (q :: P) ln = redAll P ln := by
        show redAll P (red q.1 q.2 ln) = _
        rw [e0]
      simp only [dIfS_ap, dB_ap, dBin_ap, dVar_s, dVar_0, bind_ok, s1, hz, dC_ap, neZ_int, decide_true, Bool.not_true, asB_ok, st_ok, Bool.false_eq_true, if_false, dSkip_ap, heldB_nil, if_true, ih, e1]
    · rw [if_neg hz, if_neg hz, if_neg hz] at ih
      have hm : mkNd .tup [PV.int (at_ q.2 q.1), .int (at_ ln q.1)] S = .ok (.nd .tup [.int (at_ q.2 q.1), .int (at_ ln q.1)]) S := mkNd_ok S (by simp)
      have hcb := Bd.comb (hK.1.at_ q.1) (hb.at_ q.1) hb hK.1
      rw [← e3] at hcb
      have hc9 : ∀ x ∈ comb (at_ q.2 q.1) (at_ ln q.1) ln q.2, x.natAbs < 2 ^ 100000 := fun x hx => lt_100000 (n := 0) (hcb x hx) (by omega)
      have lc1 := comb_lc (a := at_ q.2 q.1) (b := at_ ln q.1) (L := ln) (st := q.2) (vs := [6, 7]) (i := 6) (j := 7) (l := [some (rL ln), o1, some (.int (q.1 : Nat)), some (rL q.2), some (.int (at_ q.2 q.1)), some (.int (at_ ln q.1)), o6, o7, o8, o9]) (S := S) (di := dItA zipP (dCons (dVar 0) (dCons (dVar 3) (dNil)))) (el := dBin subP (dBin mulT (dVar 4) (dVar 6)) (dBin mulT (dVar 5) (dVar 7)))
        (by simp only [dItA_ap, dCons_ap, dNil_ap, dVar_s, dVar_0, bind_ok, zipP_rL]) (by rw [hg.1]; omega) (fun x y hx hy => by
          have m1 := mul_small (lt_100000 (n := 0) (hK.1.at_ q.1) hk9) (lt_100000 (n := 0) (hb x hx) hk9) S
          have m2 := mul_small (lt_100000 (n := 0) (hb.at_ q.1) hk9) (lt_100000 (n := 0) (hK.1 y hy) hk9) S
          simp only [setZ, wipeZ_cons, wipeZ_nil, List.set_cons_succ, List.set_cons_zero, List.foldl_cons, List.foldl_nil, dBin_ap, dVar_s, dVar_0, bind_ok, m1, m2, subP_int])
      have sh := d_shared_ok (comb (at_ q.2 q.1) (at_ ln q.1) ln q.2) S hc9
      have gp := hg.pos q1 q2 q4
      have gl9 : gl (comb (at_ q.2 q.1) (at_ ln q.1) ln q.2) < 2 ^ 100000 := by
        have hl : n < (comb (at_ q.2 q.1) (at_ ln q.1) ln q.2).length := by rw [comb_len, hg.1, q1]; omega
        have hne : at_ (comb (at_ q.2 q.1) (at_ ln q.1) ln q.2) n ≠ 0 := by
          rw [comb_at (by rw [hg.1, q1]), q2, Int.mul_zero, Int.sub_zero]
          exact Int.mul_ne_zero q4 hg.2
        exact Nat.lt_of_le_of_lt (gl_le (at_mem hl) hne) (hc9 _ (at_mem hl))
      have lc2 := div_lc (g := gl (comb (at_ q.2 q.1) (at_ ln q.1) ln q.2)) (L := comb (at_ q.2 q.1) (at_ ln q.1) ln q.2) (vs := [9]) (i := 9) (l := [some (rL (comb (at_ q.2 q.1) (at_ ln q.1) ln q.2)), o1, some (.int (q.1 : Nat)), some (rL q.2), some (.int (at_ q.2 q.1)), some (.int (at_ ln q.1)), o6, o7, some (.int (gl (comb (at_ q.2 q.1) (at_ ln q.1) ln q.2) : Nat)), o9]) (S := S) (di := dItV (dVar 0)) (el := dBin divB (dVar 9) (dVar 8))
        rfl (by rw [comb_len, hg.1, q1]; omega) (fun x hx => by
          simp only [setZ, wipeZ_cons, wipeZ_nil, List.set_cons_succ, List.set_cons_zero, List.foldl_cons, List.foldl_nil, dBin_ap, dVar_s, dVar_0, bind_ok, div_small gp S])
      have er : red q.1 q.2 ln = (comb (at_ q.2 q.1) (at_ ln q.1) ln q.2).map (· / (gl (comb (at_ q.2 q.1) (at_ ln q.1) ln q.2) : Int)) := by
        unfold red
        rw [if_neg hz]
        split
        · rfl
        · rename_i h1
          have h1' : gl (comb (at_ q.2 q.1) (at_ ln q.1) ln q.2) = 1 := by omega
          rw [h1', map_one]
      rw [← er] at lc2
      have e1 : redAll (q :: P) ln = redAll P (red q.1 q.2 ln) := rfl
      simp only [dIfS_ap, dB_ap, dBin_ap, dVar_s, dVar_0, bind_ok, s1, s2, dC_ap, neZ_int, hz, decide_false, Bool.not_false, asB_ok, st_ok, if_true, dSeq_ap, dAsg_ap, dTup_ap, dCons_ap, dNil_ap, hm, gzT_ap, gzL_cons, gzL_nil, gzN_ap, seq_nx, onlyNx_nx, List.set_cons_succ, List.set_cons_zero,
        dSet_ap, lc1, dFn_ap, sh, lc2, heldB_nil, ih, e1]
end Z
end
end
section
set_option Elab.async false
set_option linter.all false
set_option maxRecDepth 100000
set_option maxHeartbeats 2000000
set_option exponentiation.threshold 10000
/-! K27C: the lots of rows. -/
noncomputable section
namespace Z
open PySem PySem.Spec PyProof.Rows L2

theorem dItA_of {f : List PV → Sto → Out ItZ} {ar : DA} {l : Loc} {S : Sto} {xs : List PV} {it : ItZ} (h : ar l S = .ok xs S) (hf : f xs S = .ok it S) : dItA f ar l S = .ok it S := by
  rw [dItA_ap, h]
  exact hf
def lotV (w : Nat) (kept : List (List Int)) (P : List (Nat × List Int)) : PV := .nd (.ins 0 [0, 1, 2]) [.int (w : Nat), .nd .tup (kept.map rT), .nd .tup (P.map stV)]
theorem getF_0 (w : Nat) (kept : List (List Int)) (P : List (Nat × List Int)) (S : Sto) : getF T0 0 (lotV w kept P) S = .ok (.int (w : Nat)) S := rfl
theorem getF_1 (w : Nat) (kept : List (List Int)) (P : List (Nat × List Int)) (S : Sto) : getF T0 1 (lotV w kept P) S = .ok (.nd .tup (kept.map rT)) S := rfl
theorem getF_2 (w : Nat) (kept : List (List Int)) (P : List (Nat × List Int)) (S : Sto) : getF T0 2 (lotV w kept P) S = .ok (.nd .tup (P.map stV)) S := rfl
theorem insOk_lot (w : Nat) (kept : List (List Int)) (P : List (Nat × List Int)) (S : Sto) : insOk T0 0 (lotV w kept P) S = true := rfl
mutual
theorem fits_rT (n : Nat) (r : List Int) : fits n (rT r) = true := fitsL_int n r
theorem fitsL_int (n : Nat) : ∀ r : List Int, fitsL n (r.map .int) = true
  | [] => rfl
  | x :: r => by rw [List.map_cons, fitsL, fitsL_int n r]; rfl
end
theorem fitsL_map {α : Type} {n : Nat} {f : α → PV} (h : ∀ x, fits n (f x) = true) : ∀ r : List α, fitsL n (r.map f) = true
  | [] => rfl
  | x :: r => by rw [List.map_cons, fitsL, fitsL_map h r, h]; rfl
theorem fits_stV (n : Nat) (q : Nat × List Int) : fits n (stV q) = true := by
  show (true && (fitsL n (q.2.map .int) && true)) = true
  rw [fitsL_int]; rfl
theorem fits_lot (n w : Nat) (kept : List (List Int)) (P : List (Nat × List Int)) : fits n (lotV w kept P) = true := by
  show (true && (fitsL n (kept.map rT) && (fitsL n (P.map stV) && true))) = true
  rw [fitsL_map (fits_rT n), fitsL_map (fits_stV n)]; rfl
theorem d_isint (i : Int) (S : Sto) : d_is_integer [.int i] S = .ok (.bl true) S := by
  refine dDef_ret _ _ rfl ?_ (Nat.le_refl _)
  unfold b_is_integer
  have h1 : isiX I0 [.int i, .ty "int"] S = .ok (.bl true) S := rfl
  have h2 : isiX I0 [.int i, .ty "bool"] S = .ok (.bl false) S := rfl
  simp [h1, h2]
theorem all_true {α : Type} (f : α → PV) (hf : ∀ x, f x = .bl true) (xs : List α) (S : Sto) : allP [.nd .lst (xs.map f)] S = .ok (.bl true) S := by
  have e : xs.map f = (xs.map fun _ => true).map PV.bl := by
    rw [List.map_map]
    exact List.map_congr_left fun x _ => hf x
  unfold allP lstOf
  simp only [view_nd', Option.bind_some]
  rw [e, asBs_map]
  simp only
  congr 2
  rw [List.all_eq_true]
  intro b hb
  obtain ⟨_, _, rfl⟩ := List.mem_map.mp hb
  rfl
theorem d_isrow {w : Nat} {r : List Int} (S : Sto) (h : r.length = w) (hw : w ≤ 1000) : d_is_row [rT r, .int (w : Nat)] S = .ok (.bl true) S := by
  refine dDef_ret _ _ rfl ?_ (Nat.le_refl _)
  unfold b_is_row
  have h1 : isiX I0 [rT r, .ty "tuple"] S = .ok (.bl true) S := rfl
  have h2 : lenP [rT r] S = .ok (.int (w : Nat)) S := by
    show Out.ok (PV.int ((r.map PV.int).length : Nat)) S = _
    rw [List.length_map, h]
  have h3 := dLc_pure (vs := [2]) (di := dItV (dVar 0)) (t := .nm 2) (el := dFn d_is_integer (dCons (dVar 2) dNil)) (l := [some (rT r), some (.int (w : Nat)), none]) (S := S) (it := ⟨r.map .int, []⟩) (fun _ => .bl true)
    rfl (heldB_nil _) (by rw [List.length_map]; omega) (by
      intro x hx
      obtain ⟨i, _, rfl⟩ := List.mem_map.mp hx
      exact ⟨_, asg1, by simp [setZ, d_isint]⟩)
  have h4 := all_true (fun _ : PV => PV.bl true) (fun _ => rfl) (r.map .int) S
  have he : eqZ (.int (w : Nat)) (.int (w : Nat)) S = .ok (.bl true) S := by rw [eqZ_int]; simp
  show (dAnd _ _ [some (rT r), some (.int (w : Nat)), none] S).st _ _ = _
  have ht : truP (.bl true) S = .ok true S := rfl
  simp only [dAnd_ap, dApp_ap, dCons_ap, dVar_0, dVar_s, bind_ok, dC_ap, dNil_ap, h1, dBin_ap, ht, if_true, h2, he, h3, h4]
  rfl
theorem forZ_find {t : TgZ} {hs : List (PV × Kd × List PV)} {b : DS} {S : Sto} (Inv : Loc → Prop) (f : PV → Option PV) (hh : heldB hs S = true) : ∀ (items : List PV) (l : Loc), (∀ x ∈ items, ∀ l, Inv l → ∃ ps, asg t x = some ps ∧ ((∃ v, f x = some v ∧ b (setZ l ps) S = .ret v S) ∨ (f x = none ∧ ∃ l', b (setZ l ps) S = .nx l' S ∧ Inv l'))) → Inv l →
    (∃ v, items.findSome? f = some v ∧ forZ t hs b items l S = .ret v S) ∨ (items.findSome? f = none ∧ ∃ l', forZ t hs b items l S = .nx l' S ∧ Inv l')
  | [], l, _, hl => .inr ⟨rfl, l, rfl, hl⟩
  | x :: xs, l, h, hl => by
    obtain ⟨ps, h1, h2⟩ := h x List.mem_cons_self l hl
    rw [forZ, h1]
    rcases h2 with ⟨v, f1, f2⟩ | ⟨f1, l', f2, f3⟩
    · exact .inl ⟨v, by rw [List.findSome?_cons, f1], by simp only [f2]⟩
    · have ih := forZ_find Inv f hh xs l' (fun y hy => h y (List.mem_cons_of_mem _ hy)) f3
      simp only [f2, if_pos hh]
      rw [List.findSome?_cons, f1]
      exact ih
def fpV : Option Nat → PV
  | none => .non
  | some k => .int (k : Nat)
theorem fp_cons (x : Int) (l : List Int) : fp (x :: l) = if x = 0 then (fp l).map (· + 1) else some 0 := by
  unfold fp
  rw [List.findIdx?_cons]
  by_cases h : x = 0
  · simp [h]
  · simp [h]
theorem find_enc : ∀ (ns : List Int) (k : Nat), (encZ (ns.map PV.int) k).findSome? (fun x => match x with | .nd .tup [.int i, .int x] => if x = 0 then none else some (.int i) | _ => none) = (fp ns).map fun j => PV.int ((k + j : Nat) : Int)
  | [], k => rfl
  | x :: xs, k => by
    rw [List.map_cons, encZ, List.findSome?_cons, fp_cons]
    by_cases h : x = 0
    · simp only [h, if_true]
      rw [find_enc xs (k + 1), Option.map_map]
      congr 1
      funext j
      show PV.int ((k + 1 + j : Nat) : Int) = PV.int ((k + (j + 1) : Nat) : Int)
      congr 2
      omega
    · simp only [h, if_false]
      rfl
theorem d_first (ns : List Int) (S : Sto) : d_first_place [rL ns] S = .ok (fpV (fp ns)) S := by
  have hen : enuP [rL ns] S = .ok ⟨encZ (ns.map PV.int) 0, []⟩ S := rfl
  have h := forZ_find (t := .tp [.nm 1, .nm 2]) (hs := []) (b := dIfS (dB (dBin neZ (dVar 2) (dC (.int 0)))) (dRet (dVar 1)) (dSkip)) (S := S) (fun l => ∃ o1 o2, l = [some (rL ns), o1, o2]) (fun x => match x with | .nd .tup [.int i, .int x] => if x = 0 then none else some (.int i) | _ => none) (heldB_nil _) (encZ (ns.map PV.int) 0) [some (rL ns), none, none] (by
    have key : ∀ (ns : List Int) (k : Nat), ∀ x ∈ encZ (ns.map PV.int) k, ∃ i j : Int, x = .nd .tup [.int i, .int j] := by
      intro ns
      induction ns with
      | nil => intro k x hx; cases hx
      | cons y ys ih =>
        intro k x hx
        rw [List.map_cons, encZ] at hx
        rcases List.mem_cons.mp hx with rfl | hx
        · exact ⟨_, _, rfl⟩
        · exact ih _ x hx
    rintro x hx l ⟨o1, o2, rfl⟩
    obtain ⟨i, j, rfl⟩ := key ns 0 x hx
    refine ⟨_, asg2, ?_⟩
    by_cases q : j = 0
    · right
      refine ⟨by simp [q], [some (rL ns), some (.int i), some (.int j)], ?_, _, _, rfl⟩
      simp [setZ, q]
    · left
      refine ⟨.int i, by simp [q], ?_⟩
      simp [setZ, q]) ⟨none, none, rfl⟩
  rw [find_enc ns 0] at h
  simp only [Nat.zero_add] at h
  refine dDef_ret _ _ rfl ?_ (Nat.le_refl _)
  unfold b_first_place
  rcases h with ⟨v, h1, h2⟩ | ⟨h1, l', h2, h3⟩
  · cases q : fp ns with
    | none => rw [q] at h1; cases h1
    | some p =>
      rw [q] at h1
      cases h1
      simp [hen, h2, fpV]
  · cases q : fp ns with
    | none => simp [hen, h2, fpV]
    | some p => rw [q] at h1; cases h1
theorem rngZ_zero (n : Nat) : rngZ 0 n = (List.range' 0 n).map fun i : Nat => PV.int (i : Int) := by
  unfold rngZ
  rw [List.range_eq_range']
  refine List.map_congr_left fun i _ => ?_
  rw [Int.zero_add]
def hitP (L : List Int) (x : PV) : Option PV := match x with
  | .int i => if at_ L i.toNat = 0 then none else some (.int i)
  | _ => none
theorem hitP_nat (L : List Int) (i : Nat) : hitP L (.int (i : Nat)) = if at_ L i = 0 then none else some (.int (i : Nat)) := rfl
theorem find_rng (L : List Int) : ∀ (m k : Nat), k + m = L.length → ((List.range' k m).map fun i : Nat => PV.int (i : Int)).findSome? (hitP L) = (fp (L.drop k)).map fun j => PV.int ((k + j : Nat) : Int)
  | 0, k, h => by
    rw [List.drop_of_length_le (by omega)]
    rfl
  | m + 1, k, h => by
    have hk : k < L.length := by omega
    rw [List.range'_succ, List.map_cons, List.findSome?_cons, List.drop_eq_getElem_cons hk, fp_cons]
    have ea : at_ L k = L[k] := at_lt hk
    rw [hitP_nat, ea]
    by_cases q : L[k] = 0
    · simp only [q, if_true]
      rw [find_rng L m (k + 1) (by omega), Option.map_map]
      congr 1
      funext j
      show PV.int ((k + 1 + j : Nat) : Int) = PV.int ((k + (j + 1) : Nat) : Int)
      congr 2
      omega
    · simp only [q, if_false]
      rfl
end Z
end
section
set_option Elab.async false
set_option linter.all false
set_option maxRecDepth 100000
set_option maxHeartbeats 2000000
set_option exponentiation.threshold 10000
/-! K27F: a lot's lines. -/
noncomputable section
namespace Z
open PySem PySem.Spec PyProof.Rows L2

theorem dAttr_ap (T : Tb) (f : Nat) (a : DE) (l : Loc) (S : Sto) : dAttr T f a l S = (a l S).bind fun x S1 => getF T f x S1 := rfl
/-! ### a line of a row -/
def ln0 (w : Nat) (r : List Int) : List Int := r ++ (List.replicate w 0 ++ [1])
theorem ln0_len {w : Nat} {r : List Int} (h : r.length = w) : (ln0 w r).length = 2 * w + 1 := by
  unfold ln0; rw [List.length_append, List.length_append, List.length_replicate, h]; simp; omega
theorem ln0_good {w : Nat} {r : List Int} (h : r.length = w) : Good (2 * w) (ln0 w r) := by
  refine ⟨ln0_len h, ?_⟩
  have e : at_ (ln0 w r) (2 * w) = 1 := by
    rw [at_lt (by rw [ln0_len h]; omega)]
    unfold ln0
    rw [List.getElem_append_right (by omega), List.getElem_append_right (by rw [List.length_replicate]; omega)]
    simp
  rw [e]; decide
theorem ln0_at {w : Nat} {r : List Int} (h : r.length = w) {i : Nat} (hi : i < w) : at_ (ln0 w r) i = at_ r i := by
  rw [at_lt (by rw [ln0_len h]; omega), at_lt (by omega)]
  unfold ln0
  rw [List.getElem_append_left (by omega)]
theorem ln0_sim {w : Nat} {r : List Int} (h : r.length = w) : Sim w (ln0 w r) r := ⟨1, 1, by decide, by decide, fun i hi => by rw [ln0_at h hi]⟩
theorem ln0_bd {w b : Nat} {r : List Int} (hb : Bd (b + 1) r) : Bd (b + 1) (ln0 w r) := by
  intro x hx
  rcases List.mem_append.mp hx with h | h
  · exact hb x h
  · have hp : 2 ≤ 2 ^ (b + 1) := by
      rw [Nat.pow_succ]
      have : 1 ≤ 2 ^ b := Nat.pow_pos (by decide)
      omega
    rcases List.mem_append.mp h with h | h
    · rw [(List.mem_replicate.mp h).2]; exact Nat.pow_pos (by decide)
    · rw [List.mem_singleton.mp h]; show 1 < _; omega
/-- what must hold of a lot -/
structure LotOk (w b : Nat) (kept : List (List Int)) (P : List (Nat × List Int)) : Prop where
  st : StOk (2 * w) b P
  bd : BdK b 0 P
  kw : ∀ r ∈ kept, r.length = w
  ln : P.length = kept.length
  rm : P.length ≤ w
theorem zeros_lc {w : Nat} (a b c : PV) (r : Option PV) (S : Sto) (hw : w ≤ 1000) : dLc [3] (dItA rngP (dCons (dAttr T0 0 (dVar 0)) (dNil))) (.nm 3) (dYes) (dC (.int 0)) [some (.nd (.ins 0 [0, 1, 2]) [.int (w : Nat), a, b]), r, none, none] S = .ok (rL (List.replicate w 0)) S := by
  have hr := rngP_nat w S (Nat.lt_of_le_of_lt hw (by decide))
  have hg : getF T0 0 (.nd (.ins 0 [0, 1, 2]) [.int (w : Nat), a, b]) S = .ok (.int (w : Nat)) S := rfl
  have := dLc_pure (vs := [3]) (di := dItA rngP (dCons (dAttr T0 0 (dVar 0)) (dNil))) (t := .nm 3) (el := dC (.int 0)) (l := [some (.nd (.ins 0 [0, 1, 2]) [.int (w : Nat), a, b]), r, none, none]) (S := S) (it := ⟨rngZ 0 w, []⟩) (fun _ => .int 0)
    (dItA_of (xs := [.int (w : Nat)]) (by simp [dAttr_ap, hg]) hr) (heldB_nil _) (by rw [rngZ_len]; omega) (by
      intro x hx
      obtain ⟨i, hi⟩ := List.getElem?_of_mem hx
      obtain ⟨h1, rfl⟩ := rngZ_get hi
      exact ⟨_, asg1, rfl⟩)
  rw [this]
  unfold rL
  rw [List.map_replicate]
  have e : (rngZ 0 w).map (fun _ : PV => PV.int 0) = List.replicate w (.int 0) := by rw [List.map_const', rngZ_len]
  rw [e]
theorem d_line {w b : Nat} {kept : List (List Int)} {P : List (Nat × List Int)} {r : List Int} (S : Sto) (h : LotOk w b kept P) (hr : r.length = w) (hw : w ≤ 7) (hb : Bd b r) (hb0 : 1 ≤ b) (hb1 : b ≤ 300) : d_Rows_line_of [lotV w kept P, rT r] S = .ok (rL (redAll P (ln0 w r))) S := by
  have hz := zeros_lc (w := w) (.nd .tup (kept.map rT)) (.nd .tup (P.map stV)) .non (some (rT r)) S (by omega)
  have i1 : itemsOf (rT r) S = some (r.map .int) := rfl
  have i2 : itemsOf (rL (List.replicate w 0)) S = some ((List.replicate w 0).map .int) := rfl
  have hm : mkNd .lst (r.map PV.int ++ ((List.replicate w 0).map PV.int ++ [.int 1])) S = .ok (rL (ln0 w r)) S := by
    rw [mkNd_ok S (by simp; omega)]
    unfold rL ln0
    rw [List.map_append, List.map_append]
    rfl
  have hk : 2 ^ (0 + P.length) * (b + 1) ≤ 100000 := by
    have h1 : 2 ^ P.length ≤ 2 ^ 7 := Nat.pow_le_pow_right (by decide) (Nat.le_trans h.rm hw)
    have : 2 ^ P.length * (b + 1) ≤ 2 ^ 7 * 301 := Nat.mul_le_mul h1 (by omega)
    rw [Nat.zero_add]
    omega
  have hb' : Bd b (ln0 w r) := by
    obtain ⟨c, rfl⟩ : ∃ c, b = c + 1 := ⟨b - 1, by omega⟩
    exact ln0_bd hb
  have hc : d_cleared [rL (ln0 w r), .nd .tup (P.map stV)] S = .ok (rL (redAll P (ln0 w r))) S := by
    obtain ⟨p2, p3, p4, p5, p6, p7, p8, p9, hf⟩ := d_cleared_ok (S := S) (n := 2 * w) (by omega) P 0 (ln0 w r) h.st (ln0_good hr) h.bd (by
      have e : 2 ^ 0 * (b + 1) - 1 = b := by omega
      rw [e]; exact hb') hk (some (.nd .tup (P.map stV))) none none none none none none none none
    refine dDef_ret _ _ rfl ?_ (Nat.le_refl _)
    unfold b_cleared
    have hi : dItV (dVar 1) [some (rL (ln0 w r)), some (.nd .tup (P.map stV)), none, none, none, none, none, none, none, none] S = .ok ⟨P.map stV, []⟩ S := rfl
    rw [dSeq_ap]
    rw [dFor_eq (l := [rL (ln0 w r), .nd .tup (P.map stV)].map some ++ List.replicate (10 - 2) none) hi (heldB_nil _)]
    show (forZ _ _ _ _ [some (rL (ln0 w r)), some (.nd .tup (P.map stV)), none, none, none, none, none, none, none, none] S).seq _ = _
    rw [hf]
    rfl
  refine dDef_ret _ _ rfl ?_ (Nat.le_refl _)
  unfold b_Rows_line_of
  show (dSeq _ _ [some (lotV w kept P), some (rT r), none, none] S) = _
  have hz' : dLc [3] (dItA rngP (dCons (dAttr T0 0 (dVar 0)) (dNil))) (.nm 3) (dYes) (dC (.int 0)) [some (lotV w kept P), some (rT r), none, none] S = .ok (rL (List.replicate w 0)) S := hz
  simp only [dSeq_ap, dSet_ap, hz', st_ok, seq_nx, List.set_cons_succ, List.set_cons_zero, dRet_ap, dFn_ap, dCons_ap, dLst_ap, dStarA, dVar_s, dVar_0, bind_ok, i1, i2, dC_ap, dNil_ap, hm, dAttr_ap, getF_2, hc]
end Z
end
end
section
set_option Elab.async false
set_option linter.all false
set_option maxRecDepth 100000
set_option maxHeartbeats 2000000
set_option exponentiation.threshold 10000
/-! K27G: the law's place. -/
noncomputable section
namespace Z
open PySem PySem.Spec PyProof.Rows L2

theorem d_place (ns : List Int) (S : Sto) (hl : ns.length ≤ 1000) : d__law_place [rL ns] S = .ok (fpV (fp ns)) S := by
  have hn : lenP [rL ns] S = .ok (.int (ns.length : Nat)) S := by
    show Out.ok (PV.int ((ns.map PV.int).length : Nat)) S = _
    rw [List.length_map]
  have hr := rngP_nat ns.length S (Nat.lt_of_le_of_lt hl (by decide))
  rw [rngZ_zero] at hr
  have h := forZ_find (t := .nm 1) (hs := []) (b := dIfS (dB (dBin neZ (dBin subZ (dVar 0) (dVar 1)) (dC (.int 0)))) (dRet (dVar 1)) (dSkip)) (S := S) (fun l => ∃ o1, l = [some (rL ns), o1]) (hitP ns) (heldB_nil _) ((List.range' 0 ns.length).map fun i : Nat => PV.int (i : Int)) [some (rL ns), none] (by
    rintro x hx l ⟨o1, rfl⟩
    obtain ⟨i, hi, rfl⟩ := List.mem_map.mp hx
    have hi2 := List.mem_range'_1.mp hi
    refine ⟨_, asg1, ?_⟩
    have es := sub_rL (L := ns) (p := i) (by omega) S
    by_cases q : at_ ns i = 0
    · right
      refine ⟨by rw [hitP_nat, if_pos q], [some (rL ns), some (.int (i : Nat))], ?_, _, rfl⟩
      simp [setZ, q, es]
    · left
      refine ⟨.int (i : Nat), by rw [hitP_nat, if_neg q], ?_⟩
      simp [setZ, q, es]) ⟨none, rfl⟩
  rw [find_rng ns ns.length 0 (by omega), List.drop_zero] at h
  simp only [Nat.zero_add] at h
  have hi : dItA rngP (dCons (dApp lenP (dCons (dVar 0) (dNil))) (dNil)) [some (rL ns), none] S = .ok ⟨(List.range' 0 ns.length).map fun i : Nat => PV.int (i : Int), []⟩ S := dItA_of (xs := [.int (ns.length : Nat)]) (by simp [hn]) hr
  refine dDef_ret _ _ rfl ?_ (Nat.le_refl _)
  unfold b__law_place
  rw [dSeq_ap]
  show (dFor _ _ _ [some (rL ns), none] S).seq _ = _
  have hF := dFor_eq (t := .nm 1) (b := dIfS (dB (dBin neZ (dBin subZ (dVar 0) (dVar 1)) (dC (.int 0)))) (dRet (dVar 1)) (dSkip)) hi (heldB_nil S)
  rw [hF]
  rcases h with ⟨v, h1, h2⟩ | ⟨h1, l', h2, h3⟩
  · cases q : fp ns with
    | none => rw [q] at h1; cases h1
    | some p =>
      rw [q] at h1
      cases h1
      rw [h2]
      rfl
  · cases q : fp ns with
    | none =>
      rw [h2]
      rfl
    | some p => rw [q] at h1; cases h1
end Z
end
end
section
set_option Elab.async false
set_option linter.all false
set_option maxRecDepth 100000
set_option maxHeartbeats 2000000
set_option exponentiation.threshold 10000
/-! K27H: one row more. -/
noncomputable section
namespace Z
open PySem PySem.Spec PyProof.Rows L2

theorem fits2 (n w : Nat) (kept : List (List Int)) (P : List (Nat × List Int)) (r : List Int) : fitsL n [lotV w kept P, rT r] = true := by
  rw [fitsL, fits_lot, fitsL, fits_rT]; rfl
theorem d_need {w : Nat} {kept : List (List Int)} {P : List (Nat × List Int)} {r : List Int} (S : Sto) (hr : r.length = w) (hw : w ≤ 1000) : d_Rows_need_row [lotV w kept P, rT r] S = .ok .non S := by
  refine dDef_nx (l1 := [some (lotV w kept P), some (rT r)]) _ _ rfl ?_ (Nat.le_refl _)
  unfold b_Rows_need_row
  show dIfS _ _ _ [some (lotV w kept P), some (rT r)] S = _
  have ht : truP (.bl true) S = .ok true S := rfl
  simp only [dIfS_ap, dNotT_ap, dTru_ap, dFn_ap, dCons_ap, dVar_s, dVar_0, bind_ok, dAttr_ap, getF_0, dNil_ap, d_isrow S hr hw, ht, st_ok, Bool.not_true, Bool.false_eq_true, if_false, dSkip_ap]
theorem sli_to (L : List Int) (k : Nat) (S : Sto) : sliZ (rL L) none (some (k : Int)) S = .ok (rL (L.take k)) S := by
  show Out.ok (PV.nd .lst (cutP (L.map .int) none (some (k : Int)))) S = _
  rw [cutP_to, ← List.map_take]; rfl
theorem sli_init (L : List Int) (S : Sto) : sliZ (rL L) none (some (-1)) S = .ok (rL L.dropLast) S := by
  show Out.ok (PV.nd .lst (cutP (L.map .int) none (some (-1)))) S = _
  have e : cutP (L.map PV.int) none (some (-1)) = L.dropLast.map .int := by
    unfold cutP
    rw [HT.sIx_none, List.drop_zero, Nat.sub_zero]
    have : HT.sIx (L.map PV.int).length (L.map PV.int).length (some (-1)) = L.length - 1 := by
      show (if (-1 : Int) < 0 then ((-1 : Int) + (((L.map PV.int).length : Nat) : Int)).toNat else min (-1 : Int).toNat (L.map PV.int).length) = _
      rw [if_pos (by decide), List.length_map]; omega
    rw [this, ← List.map_take, ← List.dropLast_eq_take]
  rw [e]; rfl
theorem sub_last {L : List Int} {n : Nat} (h : L.length = n + 1) (S : Sto) : subZ (rL L) (.int (-1)) S = .ok (.int (at_ L n)) S := by
  refine subZ_lst S _ _ ?_
  unfold atI
  have e : ixN (L.map PV.int).length (-1) = some n := by
    unfold ixN
    rw [if_neg (by decide), if_pos (by rw [List.length_map, h]; omega), List.length_map, h]
    congr 1
    omega
  rw [e]
  show (L.map PV.int)[n]? = _
  rw [List.getElem?_map, List.getElem?_eq_getElem (by omega), at_lt (by omega)]; rfl
/-- the new step's line -/
def nl (w k : Nat) (L : List Int) : List Int := (L.dropLast ++ [0]).set (w + k) (at_ L (2 * w))
theorem newP_ok (w : Nat) (h1 : 1 ≤ w) (h6 : w ≤ 7) : newP 0 d_Rows___init__ [.int (w : Nat)] [] = .ok (.ref 0) [some (.ins 0 [0, 1, 2], [.int (w : Nat), .nd .tup [], .nd .tup []])] := by
  rcases (by omega : w = 1 ∨ w = 2 ∨ w = 3 ∨ w = 4 ∨ w = 5 ∨ w = 6 ∨ w = 7) with rfl | rfl | rfl | rfl | rfl | rfl | rfl <;> kernel_rfl
theorem newF_ok (w : Nat) (h1 : 1 ≤ w) (h6 : w ≤ 7) : newF 0 d_Rows___init__ [.int (w : Nat)] [] = .ok (lotV w [] []) [] := by
  rcases (by omega : w = 1 ∨ w = 2 ∨ w = 3 ∨ w = 4 ∨ w = 5 ∨ w = 6 ∨ w = 7) with rfl | rfl | rfl | rfl | rfl | rfl | rfl <;> kernel_rfl
theorem putP_1 {o : Option (Kd × List PV)} {L : List Int} {j : Nat} {v : Int} (h : j < L.length) : putP (.ref 1) (.int (j : Nat)) (.int v) [o, some (.lst, L.map .int)] = some [o, some (.lst, (L.set j v).map .int)] := by
  show ((ixN (L.map PV.int).length (j : Int)).map fun j => [o, some (.lst, L.map PV.int)].set 1 (some (.lst, (L.map PV.int).set j (.int v)))) = _
  have e : ixN (L.map PV.int).length (j : Int) = some j := by
    unfold ixN
    rw [if_pos (by omega), if_pos (by rw [List.length_map]; omega)]; simp
  rw [e, List.map_set]
  rfl
theorem thaw_lot {w : Nat} {kept : List (List Int)} {P : List (Nat × List Int)} {p : Nat} {L : List Int} {S : Sto} (h0 : S[0]? = some (some (.ins 0 [0, 1, 2], [.int (w : Nat), .nd .tup (kept.map rT), .nd .tup (P.map stV ++ [.nd .tup [.int (p : Nat), .ref 1]])]))) (h1 : S[1]? = some (some (.lst, L.map .int))) :
    thaw 12 0 S (.ref 0) = some (lotV w kept (P ++ [(p, L)])) := by
  have a1 : ∀ f, thaw (f + 1) 0 S (.ref 1) = (optMap (thaw f 0 S) (L.map .int)).map fun ys => .nd .lst ys := fun f => by
    rw [thaw, if_neg (by decide), h1]
  have a0 : ∀ f, thaw (f + 1) 0 S (.ref 0) = (optMap (thaw f 0 S) [.int (w : Nat), .nd .tup (kept.map rT), .nd .tup (P.map stV ++ [.nd .tup [.int (p : Nat), .ref 1]])]).map fun ys => .nd (.ins 0 [0, 1, 2]) ys := fun f => by
    rw [thaw, if_neg (by decide), h0]
  have ai : ∀ (f : Nat) (i : Int), thaw (f + 1) 0 S (.int i) = some (.int i) := fun f i => by rw [thaw] <;> intros <;> simp_all
  have aL : ∀ f, optMap (thaw (f + 1) 0 S) (L.map .int) = some (L.map .int) := fun f => optMap_id _ fun x hx => by
    obtain ⟨i, _, rfl⟩ := List.mem_map.mp hx
    exact ai f i
  have aK : ∀ f, thaw (f + 1) 0 S (.nd .tup (kept.map rT)) = some (.nd .tup (kept.map rT)) := fun f => thaw_nd (fitsL_map (fits_rT 0) kept)
  have ap : ∀ (f : Nat) (xs ys : List PV), optMap (thaw f 0 S) xs = some xs → optMap (thaw f 0 S) (xs ++ ys) = (optMap (thaw f 0 S) ys).map (xs ++ ·) := by
    intro f xs
    induction xs with
    | nil => intro ys _; show optMap _ ys = _; cases optMap (thaw f 0 S) ys <;> rfl
    | cons x xs ih =>
      intro ys h
      rw [optMap] at h
      rw [List.cons_append, optMap]
      cases q : thaw f 0 S x with
      | none => rw [q] at h; cases h
      | some y =>
        rw [q, Option.bind_some] at h
        rw [Option.bind_some]
        cases q2 : optMap (thaw f 0 S) xs with
        | none => rw [q2] at h; cases h
        | some zs =>
          rw [q2] at h
          have h := Option.some.inj h
          obtain ⟨rfl, rfl⟩ := List.cons.inj h
          rw [ih ys q2]
          cases optMap (thaw f 0 S) ys <;> rfl
  have aP : ∀ f, optMap (thaw (f + 1) 0 S) (P.map stV) = some (P.map stV) := fun f => optMap_id _ fun x hx => by
    obtain ⟨q, _, rfl⟩ := List.mem_map.mp hx
    have := fits_stV 0 q
    exact thaw_nd this
  have as : ∀ f, thaw (f + 3) 0 S (.nd .tup [.int (p : Nat), .ref 1]) = some (stV (p, L)) := fun f => by
    rw [thaw, if_neg (by show ¬ (true && (decide (1 < 0) && true)) = true; decide)]
    rw [optMap, ai, Option.bind_some, optMap, a1, aL]
    rfl
  have af : ¬ fitsL 0 (P.map stV ++ [.nd .tup [.int (p : Nat), .ref 1]]) = true := by
    intro h
    have : ∀ xs : List PV, fitsL 0 (xs ++ [.nd .tup [.int (p : Nat), .ref 1]]) = false := by
      intro xs
      induction xs with
      | nil => rfl
      | cons x xs ih => rw [List.cons_append, fitsL, ih, Bool.and_false]
    rw [this] at h; cases h
  have aS : ∀ f, thaw (f + 4) 0 S (.nd .tup (P.map stV ++ [.nd .tup [.int (p : Nat), .ref 1]])) = some (.nd .tup ((P ++ [(p, L)]).map stV)) := fun f => by
    rw [thaw, if_neg af, ap (f + 3) _ _ (aP (f + 2)), optMap, as, Option.bind_some, optMap]
    show some (PV.nd .tup (P.map stV ++ [stV (p, L)])) = _
    rw [List.map_append]; rfl
  rw [a0, optMap, ai, Option.bind_some, optMap, aK, Option.bind_some, optMap, aS, Option.bind_some, optMap]
  rfl
end Z
end
end
section
set_option Elab.async false
set_option linter.all false
set_option maxRecDepth 100000
set_option maxHeartbeats 2000000
set_option exponentiation.threshold 10000
/-! K27I: one row more, and what it says. -/
noncomputable section
namespace Z
open PySem PySem.Spec PyProof.Rows L2

theorem fpV_non (o : Option Nat) : (fpV o).isNon = o.isNone := by cases o <;> rfl
section
variable {w b : Nat} {kept : List (List Int)} {P : List (Nat × List Int)} {r : List Int}
theorem clo_need (S : Sto) (hS : S.all Option.isSome = true) (hr : r.length = w) (hw : w ≤ 1000) : clo d_Rows_need_row [lotV w kept P, rT r] S = .ok .non S := clo_eq (fits2 0 w kept P r) hS (d_need [] hr hw)
theorem clo_line (S : Sto) (hS : S.all Option.isSome = true) (h : LotOk w b kept P) (hr : r.length = w) (hw : w ≤ 7) (hb : Bd b r) (hb0 : 1 ≤ b) (hb1 : b ≤ 300) : clo d_Rows_line_of [lotV w kept P, rT r] S = .ok (rL (redAll P (ln0 w r))) S := clo_eq (fits2 0 w kept P r) hS (d_line [] h hr hw hb hb0 hb1)
theorem d_more_none (h : LotOk w b kept P) (hr : r.length = w) (hw : w ≤ 7) (hb : Bd b r) (hb0 : 1 ≤ b) (hb1 : b ≤ 300) (hf : fp ((redAll P (ln0 w r)).take w) = none) : d_Rows_more [lotV w kept P, rT r] [] = .ok (lotV w kept P) [] := by
  refine dDef_ret _ _ rfl ?_ (Nat.le_refl _)
  unfold b_Rows_more
  show dSeq _ _ [some (lotV w kept P), some (rT r), none, none, none, none] [] = _
  have m1 : dMeth T0 0 (clo d_Rows_need_row) (dVar 0) (dCons (dVar 1) (dNil)) [some (lotV w kept P), some (rT r), none, none, none, none] [] = .ok .non [] := by
    show (if insOk T0 0 (lotV w kept P) [] = true then clo d_Rows_need_row [lotV w kept P, rT r] [] else .bad) = _
    rw [if_pos (insOk_lot w kept P [])]; exact clo_need [] rfl hr (by omega)
  have m2 : dMeth T0 0 (clo d_Rows_line_of) (dVar 0) (dCons (dVar 1) (dNil)) [some (lotV w kept P), some (rT r), none, none, none, none] [] = .ok (rL (redAll P (ln0 w r))) [] := by
    show (if insOk T0 0 (lotV w kept P) [] = true then clo d_Rows_line_of [lotV w kept P, rT r] [] else .bad) = _
    rw [if_pos (insOk_lot w kept P [])]; exact clo_line [] rfl h hr hw hb hb0 hb1
  rw [dSeq_ap, dExpr_ap, m1, st_ok, seq_nx, dSeq_ap, dSet_ap, m2, st_ok, seq_nx]
  simp only [List.set_cons_succ, List.set_cons_zero]
  have s3 : dSet 3 (dFn d_first_place (dCons (dSli (dVar 2) (dNone) (dSome (dAttr T0 0 (dVar 0)))) (dNil))) [some (lotV w kept P), some (rT r), some (rL (redAll P (ln0 w r))), none, none, none] [] = .nx [some (lotV w kept P), some (rT r), some (rL (redAll P (ln0 w r))), some .non, none, none] [] := by
    rw [dSet_ap, dFn_ap, dCons_ap, dSli_ap, dVar_s, dVar_s, dVar_0, bind_ok, dNone_ap, bind_ok, dSome_ap, dAttr_ap, dVar_0, bind_ok, getF_0, asI_ok, bind_ok, sli_to, bind_ok, dNil_ap, bind_ok, bind_ok, d_first, hf]
    rfl
  rw [dSeq_ap, s3, seq_nx]
  rfl
theorem d_more_some {p : Nat} (h : LotOk w b kept P) (hr : r.length = w) (hw1 : 1 ≤ w) (hw : w ≤ 7) (hb : Bd b r) (hb0 : 1 ≤ b) (hb1 : b ≤ 300) (hrm : P.length < w) (hf : fp ((redAll P (ln0 w r)).take w) = some p) : d_Rows_more [lotV w kept P, rT r] [] = .ok (lotV w (kept ++ [r]) (P ++ [(p, nl w kept.length (redAll P (ln0 w r)))])) [] := by
  have hL : (redAll P (ln0 w r)).length = 2 * w + 1 := redAll_len (fun q hq => (h.st q hq).1) (ln0_len hr)
  have m1 : dMeth T0 0 (clo d_Rows_need_row) (dVar 0) (dCons (dVar 1) (dNil)) [some (lotV w kept P), some (rT r), none, none, none, none] [] = .ok .non [] := by
    show (if insOk T0 0 (lotV w kept P) [] = true then clo d_Rows_need_row [lotV w kept P, rT r] [] else .bad) = _
    rw [if_pos (insOk_lot w kept P [])]; exact clo_need [] rfl hr (by omega)
  have m2 : dMeth T0 0 (clo d_Rows_line_of) (dVar 0) (dCons (dVar 1) (dNil)) [some (lotV w kept P), some (rT r), none, none, none, none] [] = .ok (rL (redAll P (ln0 w r))) [] := by
    show (if insOk T0 0 (lotV w kept P) [] = true then clo d_Rows_line_of [lotV w kept P, rT r] [] else .bad) = _
    rw [if_pos (insOk_lot w kept P [])]; exact clo_line [] rfl h hr hw hb hb0 hb1
  generalize redAll P (ln0 w r) = L at hL hf m2 ⊢
  have s3 : dSet 3 (dFn d_first_place (dCons (dSli (dVar 2) (dNone) (dSome (dAttr T0 0 (dVar 0)))) (dNil))) [some (lotV w kept P), some (rT r), some (rL L), none, none, none] [] = .nx [some (lotV w kept P), some (rT r), some (rL L), some (.int (p : Nat)), none, none] [] := by
    rw [dSet_ap, dFn_ap, dCons_ap, dSli_ap, dVar_s, dVar_s, dVar_0, bind_ok, dNone_ap, bind_ok, dSome_ap, dAttr_ap, dVar_0, bind_ok, getF_0, asI_ok, bind_ok, sli_to, bind_ok, dNil_ap, bind_ok, bind_ok, d_first, hf]
    rfl
  have s4 : dIfS (dB (dBin isZ (dVar 3) (dC .non))) (dRet (dVar 0)) (dSkip) [some (lotV w kept P), some (rT r), some (rL L), some (.int (p : Nat)), none, none] [] = .nx [some (lotV w kept P), some (rT r), some (rL L), some (.int (p : Nat)), none, none] [] := rfl
  have s5 : dSet 4 (dApp (newP 0 d_Rows___init__) (dCons (dAttr T0 0 (dVar 0)) (dNil))) [some (lotV w kept P), some (rT r), some (rL L), some (.int (p : Nat)), none, none] [] = .nx [some (lotV w kept P), some (rT r), some (rL L), some (.int (p : Nat)), some (.ref 0), none] [some (.ins 0 [0, 1, 2], [.int (w : Nat), .nd .tup [], .nd .tup []])] := by
    rw [dSet_ap, dApp_ap, dCons_ap, dAttr_ap, dVar_0, bind_ok, getF_0, bind_ok, dNil_ap, bind_ok, bind_ok, newP_ok w hw1 hw]
    rfl
  have hl0 : (L.dropLast ++ [0]).length = 2 * w + 1 := by rw [List.length_append, List.length_dropLast, hL]; simp
  have s6 : ∀ o : Option (Kd × List PV), dSet 5 (dLstM (dStarA (dSli (dVar 2) (dNone) (dSome (dUn negP (dC (.int 1))))) (dCons (dC (.int 0)) (dNil)))) [some (lotV w kept P), some (rT r), some (rL L), some (.int (p : Nat)), some (.ref 0), none] [o] = .nx [some (lotV w kept P), some (rT r), some (rL L), some (.int (p : Nat)), some (.ref 0), some (.ref 1)] [o, some (.lst, (L.dropLast ++ [0]).map .int)] := by
    intro o
    have hn : dSome (dUn negP (dC (.int 1))) [some (lotV w kept P), some (rT r), some (rL L), some (.int (p : Nat)), some (.ref 0), none] [o] = .ok (some (-1)) [o] := rfl
    have hi : itemsOf (rL L.dropLast) [o] = some (L.dropLast.map .int) := rfl
    have hm : mkRf .lst (L.dropLast.map PV.int ++ [PV.int 0]) [o] = .ok (.ref 1) [o, some (.lst, (L.dropLast ++ [0]).map .int)] := by
      rw [mkRf_ok [o] (by rw [List.length_append, List.length_map, List.length_dropLast, hL]; simp; omega), List.map_append]
      rfl
    rw [dSet_ap, dLstM_ap]
    unfold dStarA
    rw [dSli_ap, dVar_s, dVar_s, dVar_0, bind_ok, dNone_ap, bind_ok, hn, bind_ok, sli_init, bind_ok, hi]
    simp only [dCons_ap, dC_ap, dNil_ap, bind_ok]
    rw [hm]
    rfl
  have s7 : ∀ o : Option (Kd × List PV), dAsg (dBin subZ (dVar 2) (dUn negP (dC (.int 1)))) (gzI (dVar 5) (dBin addP (dAttr T0 0 (dVar 0)) (dApp lenP (dCons (dAttr T0 1 (dVar 0)) (dNil))))) [some (lotV w kept P), some (rT r), some (rL L), some (.int (p : Nat)), some (.ref 0), some (.ref 1)] [o, some (.lst, (L.dropLast ++ [0]).map .int)] = .nx [some (lotV w kept P), some (rT r), some (rL L), some (.int (p : Nat)), some (.ref 0), some (.ref 1)] [o, some (.lst, (nl w kept.length L).map .int)] := by
    intro o
    have hn : dUn negP (dC (.int 1)) [some (lotV w kept P), some (rT r), some (rL L), some (.int (p : Nat)), some (.ref 0), some (.ref 1)] [o, some (.lst, (L.dropLast ++ [0]).map .int)] = .ok (.int (-1)) [o, some (.lst, (L.dropLast ++ [0]).map .int)] := rfl
    have hk : lenP [.nd .tup (kept.map rT)] [o, some (.lst, (L.dropLast ++ [0]).map .int)] = .ok (.int (kept.length : Nat)) [o, some (.lst, (L.dropLast ++ [0]).map .int)] := by
      show Out.ok (PV.int ((kept.map rT).length : Nat)) _ = _
      rw [List.length_map]
    have ha : addP (.int (w : Nat)) (.int (kept.length : Nat)) [o, some (.lst, (L.dropLast ++ [0]).map .int)] = .ok (.int ((w + kept.length : Nat) : Int)) [o, some (.lst, (L.dropLast ++ [0]).map .int)] := by
      rw [addP_int]
      congr 2
    have hp : putP (.ref 1) (.int ((w + kept.length : Nat) : Int)) (.int (at_ L (2 * w))) [o, some (.lst, (L.dropLast ++ [0]).map .int)] = some [o, some (.lst, (nl w kept.length L).map .int)] := putP_1 (by rw [hl0, ← h.ln]; omega)
    rw [dAsg_ap, dBin_ap, dVar_s, dVar_s, dVar_0, bind_ok, hn, bind_ok, sub_last hL, st_ok, gzI_ap, dVar_s, dVar_s, dVar_s, dVar_s, dVar_s, dVar_0, st_ok, dBin_ap, dAttr_ap, dVar_0, bind_ok, getF_0, bind_ok, dApp_ap, dCons_ap, dAttr_ap, dVar_0, bind_ok, getF_1, bind_ok, dNil_ap, bind_ok, bind_ok, hk, bind_ok, ha, st_ok, hp]
    rfl
  have s8 : ∀ o2 : Option (Kd × List PV), dPutA T0 1 (dVar 4) (dTup (dStarA (dAttr T0 1 (dVar 0)) (dCons (dVar 1) (dNil)))) [some (lotV w kept P), some (rT r), some (rL L), some (.int (p : Nat)), some (.ref 0), some (.ref 1)] [some (.ins 0 [0, 1, 2], [.int (w : Nat), .nd .tup [], .nd .tup []]), o2] = .nx [some (lotV w kept P), some (rT r), some (rL L), some (.int (p : Nat)), some (.ref 0), some (.ref 1)] [some (.ins 0 [0, 1, 2], [.int (w : Nat), .nd .tup ((kept ++ [r]).map rT), .nd .tup []]), o2] := by
    intro o2
    have hm : mkNd .tup (kept.map rT ++ [rT r]) [some (.ins 0 [0, 1, 2], [.int (w : Nat), .nd .tup [], .nd .tup []]), o2] = .ok (.nd .tup ((kept ++ [r]).map rT)) [some (.ins 0 [0, 1, 2], [.int (w : Nat), .nd .tup [], .nd .tup []]), o2] := by
      rw [mkNd_ok _ (by rw [List.length_append, List.length_map, ← h.ln]; simp; omega), List.map_append]
      rfl
    have hi : ∀ S, itemsOf (.nd .tup (kept.map rT)) S = some (kept.map rT) := fun S => rfl
    unfold dPutA
    rw [dTup_ap]
    unfold dStarA
    rw [dAttr_ap, dVar_0, bind_ok, getF_1, bind_ok, hi]
    simp only [dCons_ap, dVar_s, dVar_0, dNil_ap, bind_ok]
    rw [hm]
    rfl
  have s9 : ∀ o2 : Option (Kd × List PV), dPutA T0 2 (dVar 4) (dTup (dStarA (dAttr T0 2 (dVar 0)) (dCons (dTup (dCons (dVar 3) (dCons (dVar 5) (dNil)))) (dNil)))) [some (lotV w kept P), some (rT r), some (rL L), some (.int (p : Nat)), some (.ref 0), some (.ref 1)] [some (.ins 0 [0, 1, 2], [.int (w : Nat), .nd .tup ((kept ++ [r]).map rT), .nd .tup []]), o2] = .nx [some (lotV w kept P), some (rT r), some (rL L), some (.int (p : Nat)), some (.ref 0), some (.ref 1)] [some (.ins 0 [0, 1, 2], [.int (w : Nat), .nd .tup ((kept ++ [r]).map rT), .nd .tup (P.map stV ++ [.nd .tup [.int (p : Nat), .ref 1]])]), o2] := by
    intro o2
    have hm : ∀ S, mkNd .tup (P.map stV ++ [.nd .tup [.int (p : Nat), .ref 1]]) S = .ok (.nd .tup (P.map stV ++ [.nd .tup [.int (p : Nat), .ref 1]])) S := fun S => mkNd_ok _ (by rw [List.length_append, List.length_map]; simp; omega)
    have hm2 : ∀ S, mkNd .tup [PV.int (p : Nat), .ref 1] S = .ok (.nd .tup [.int (p : Nat), .ref 1]) S := fun S => mkNd_ok _ (by simp)
    have hi : ∀ S, itemsOf (.nd .tup (P.map stV)) S = some (P.map stV) := fun S => rfl
    unfold dPutA
    rw [dTup_ap]
    unfold dStarA
    rw [dAttr_ap, dVar_0, bind_ok, getF_2, bind_ok, hi]
    simp only [dCons_ap, dTup_ap, dVar_s, dVar_0, dNil_ap, bind_ok, hm2]
    rw [hm]
    rfl
  refine (dDef_thaw (S := []) (S1 := [some (.ins 0 [0, 1, 2], [.int (w : Nat), .nd .tup ((kept ++ [r]).map rT), .nd .tup (P.map stV ++ [.nd .tup [.int (p : Nat), .ref 1]])]), some (.lst, (nl w kept.length L).map .int)]) (v := .ref 0) (w := lotV w (kept ++ [r]) (P ++ [(p, nl w kept.length L)])) _ rfl ?_ (by show 0 < 2; decide) (thaw_lot rfl rfl) rfl)
  unfold b_Rows_more
  show dSeq _ _ [some (lotV w kept P), some (rT r), none, none, none, none] [] = _
  rw [dSeq_ap, dExpr_ap, m1, st_ok, seq_nx, dSeq_ap, dSet_ap, m2, st_ok, seq_nx]
  simp only [List.set_cons_succ, List.set_cons_zero]
  rw [dSeq_ap, s3, seq_nx, dSeq_ap, s4, seq_nx, dSeq_ap, s5, seq_nx, dSeq_ap, s6, seq_nx, dSeq_ap, s7, seq_nx, dSeq_ap, s8, seq_nx, dSeq_ap, s9, seq_nx]
  rfl
end
end Z
end
end
section
set_option Elab.async false
set_option linter.all false
set_option maxRecDepth 100000
set_option maxHeartbeats 2000000
set_option exponentiation.threshold 10000
/-! K27J: the lot and the law's own reckoning side by side. -/
noncomputable section
namespace Z
open PySem PySem.Spec PyProof.Rows L2

structure FS where
  K : List (Nat × List Int)
  I : List Nat
  n : Nat
def fstep (s : FS) (r : List Int) : FS := match fp (redAll s.K r) with
  | none => ⟨s.K, s.I, s.n + 1⟩
  | some p => ⟨s.K ++ [(p, redAll s.K r)], s.I ++ [s.n], s.n + 1⟩
def fS (rows : List (List Int)) : FS := rows.foldl fstep ⟨[], [], 0⟩
theorem fS_snoc (rows : List (List Int)) (r : List Int) : fS (rows ++ [r]) = fstep (fS rows) r := by unfold fS; rw [List.foldl_append]; rfl
theorem fstep_n (s : FS) (r : List Int) : (fstep s r).n = s.n + 1 := by unfold fstep; split <;> rfl
theorem snoc_ind {α : Type} {Q : List α → Prop} (h0 : Q []) (h1 : ∀ xs x, Q xs → Q (xs ++ [x])) : ∀ xs, Q xs := by
  intro xs
  have : ∀ ys : List α, Q ys.reverse := by
    intro ys
    induction ys with
    | nil => exact h0
    | cons y ys ih => rw [List.reverse_cons]; exact h1 _ _ ih
  have := this xs.reverse
  rwa [List.reverse_reverse] at this
theorem fS_n : ∀ rows : List (List Int), (fS rows).n = rows.length := snoc_ind rfl fun xs x ih => by rw [fS_snoc, fstep_n, ih, List.length_append]; rfl
structure LS where
  kept : List (List Int)
  P : List (Nat × List Int)
def lstep (w : Nat) (s : LS) (r : List Int) : LS := match fp ((redAll s.P (ln0 w r)).take w) with
  | none => s
  | some p => ⟨s.kept ++ [r], s.P ++ [(p, nl w s.kept.length (redAll s.P (ln0 w r)))]⟩
def lS (w : Nat) (rows : List (List Int)) : LS := rows.foldl (lstep w) ⟨[], []⟩
theorem lS_snoc (w : Nat) (rows : List (List Int)) (r : List Int) : lS w (rows ++ [r]) = lstep w (lS w rows) r := by unfold lS; rw [List.foldl_append]; rfl
def Told (K : List (Nat × List Int)) (r : List Int) : Prop := ∀ i, at_ (redAll K r) i = 0
theorem told_iff {K : List (Nat × List Int)} {r : List Int} : fp (redAll K r) = none ↔ Told K r := fp_none
theorem redAll_app (K X : List (Nat × List Int)) (r : List Int) : redAll (K ++ X) r = redAll X (redAll K r) := by unfold redAll; rw [List.foldl_append]
theorem redAll_zeros : ∀ (X : List (Nat × List Int)) (z : List Int), (∀ i, at_ z i = 0) → redAll X z = z
  | [], z, _ => rfl
  | q :: X, z, h => by
    show redAll X (red q.1 q.2 z) = z
    have e : red q.1 q.2 z = z := by unfold red; rw [if_pos (h q.1)]
    rw [e]; exact redAll_zeros X z h
theorem Told.app {K : List (Nat × List Int)} {r : List Int} (h : Told K r) (X : List (Nat × List Int)) : Told (K ++ X) r := by
  intro i
  rw [redAll_app, redAll_zeros X _ h]; exact h i
theorem Told.self {K : List (Nat × List Int)} {r : List Int} {p : Nat} (hp : at_ (redAll K r) p ≠ 0) : Told (K ++ [(p, redAll K r)]) r := by
  intro i
  rw [redAll_app]
  show at_ (red p (redAll K r) (redAll K r)) i = 0
  obtain ⟨g, hg, e⟩ := red_at (p := p) (st := redAll K r) (ln := redAll K r) rfl hp
  have := e i
  rw [Int.sub_self] at this
  exact (Int.mul_eq_zero.mp this).resolve_left hg
/-- the new step's line at its places -/
theorem nl_at {w k : Nat} {L : List Int} (hL : L.length = 2 * w + 1) (hk : k < w) {i : Nat} (hi : i < w) : at_ (nl w k L) i = at_ L i := by
  have h0 : (L.dropLast ++ [0]).length = 2 * w + 1 := by rw [List.length_append, List.length_dropLast, hL]; simp
  have e : at_ (nl w k L) i = at_ (L.dropLast ++ [0]) i := by
    unfold at_ nl
    rw [List.getD_eq_getElem?_getD, List.getD_eq_getElem?_getD, List.getElem?_set_ne (by omega)]
  rw [e, at_lt (by rw [h0]; omega), at_lt (by omega), List.getElem_append_left (by rw [List.length_dropLast, hL]; omega), List.getElem_dropLast]
theorem nl_len {w k : Nat} {L : List Int} (hL : L.length = 2 * w + 1) : (nl w k L).length = 2 * w + 1 := by
  unfold nl
  rw [List.length_set, List.length_append, List.length_dropLast, hL]; simp
theorem nl_last {w k : Nat} {L : List Int} (hL : L.length = 2 * w + 1) (hk : k < w) : at_ (nl w k L) (2 * w) = 0 := by
  have h0 : (L.dropLast ++ [0]).length = 2 * w + 1 := by rw [List.length_append, List.length_dropLast, hL]; simp
  have e : at_ (nl w k L) (2 * w) = at_ (L.dropLast ++ [0]) (2 * w) := by
    unfold at_ nl
    rw [List.getD_eq_getElem?_getD, List.getD_eq_getElem?_getD, List.getElem?_set_ne (by omega)]
  rw [e, at_lt (by rw [h0]; omega), List.getElem_append_right (by rw [List.length_dropLast, hL]; omega)]
  simp [hL]
theorem nl_bd {w k b : Nat} {L : List Int} (h : Bd b L) : Bd b (nl w k L) := by
  intro x hx
  unfold nl at hx
  rcases List.mem_or_eq_of_mem_set hx with h1 | rfl
  · rcases List.mem_append.mp h1 with h2 | h2
    · exact h x (List.dropLast_subset L h2)
    · rw [List.mem_singleton.mp h2]; exact Nat.pow_pos (by decide)
  · exact h.at_ _
/-- a row as the laws draw them -/
def RwOk (w b : Nat) (r : List Int) : Prop := r.length = w ∧ Bd b r
structure Jt (w b : Nat) (rows : List (List Int)) (s : LS) (t : FS) : Prop where
  lot : LotOk w b s.kept s.P
  sim : SimK w s.P t.K
  ech : Ech t.K
  bk : BdK b 0 t.K
  kept : s.kept = t.I.map fun i => rows.getD i []
  il : ∀ i ∈ t.I, i < rows.length
  idem : (fS s.kept).K = t.K ∧ (fS s.kept).I.length = s.kept.length
  told : ∀ r ∈ s.kept, Told t.K r
  ok : ∀ r ∈ s.kept, RwOk w b r
theorem Jt.fp_eq {w b : Nat} {rows : List (List Int)} {s : LS} {t : FS} (h : Jt w b rows s t) {r : List Int} (hr : r.length = w) : fp ((redAll s.P (ln0 w r)).take w) = fp (redAll t.K r) :=
  Sim.fp (h.sim.redAll (ln0_sim hr) (ln0_len hr) hr) (redAll_len (fun q hq => (h.sim.lenK q hq).1) hr)
theorem getD_app {α : Type} {d : α} {xs ys : List α} {i : Nat} (h : i < xs.length) : (xs ++ ys).getD i d = xs.getD i d := by
  rw [List.getD_eq_getElem?_getD, List.getD_eq_getElem?_getD, List.getElem?_append_left h]
theorem Jt.all {w b : Nat} (hb0 : 1 ≤ b) : ∀ rows : List (List Int), (∀ r ∈ rows, RwOk w b r) → Jt w b rows (lS w rows) (fS rows) := by
  refine snoc_ind ?_ ?_
  · intro _
    exact ⟨⟨fun q hq => (nomatch hq), trivial, fun r hr => (nomatch hr), rfl, Nat.zero_le _⟩, .nil, trivial, trivial, rfl, fun i hi => (nomatch hi), ⟨rfl, rfl⟩, fun r hr => (nomatch hr), fun r hr => (nomatch hr)⟩
  · intro rows r ih hr
    have hrows : ∀ q ∈ rows, RwOk w b q := fun q hq => hr q (List.mem_append_left _ hq)
    have J := ih hrows
    obtain ⟨hrl, hrb⟩ := hr r (List.mem_append_right _ (List.mem_singleton.mpr rfl))
    have e := J.fp_eq hrl
    have hn : (fS rows).n = rows.length := fS_n rows
    rw [lS_snoc, fS_snoc]
    generalize lS w rows = s at J e ⊢
    generalize fS rows = t at J e hn ⊢
    cases q : fp (redAll t.K r) with
    | none =>
      have e1 : lstep w s r = s := by unfold lstep; rw [e, q]
      have e2 : fstep t r = ⟨t.K, t.I, t.n + 1⟩ := by unfold fstep; rw [q]
      rw [e1, e2]
      refine ⟨J.lot, J.sim, J.ech, J.bk, ?_, fun i hi => ?_, J.idem, J.told, J.ok⟩
      · rw [J.kept]
        exact List.map_congr_left fun i hi => (getD_app (J.il i hi)).symm
      · have := J.il i hi
        rw [List.length_append]; omega
    | some p =>
      have e1 : lstep w s r = ⟨s.kept ++ [r], s.P ++ [(p, nl w s.kept.length (redAll s.P (ln0 w r)))]⟩ := by unfold lstep; rw [e, q]
      have e2 : fstep t r = ⟨t.K ++ [(p, redAll t.K r)], t.I ++ [t.n], t.n + 1⟩ := by unfold fstep; rw [q]
      have hl : (redAll t.K r).length = w := redAll_len (fun q hq => (J.sim.lenK q hq).1) hrl
      have hp := fp_some.mp q
      have hpw : p < w := by rw [← hl]; exact fp_lt q
      have hL : (redAll s.P (ln0 w r)).length = 2 * w + 1 := redAll_len (fun q hq => (J.lot.st q hq).1) (ln0_len hrl)
      have hS := J.sim.redAll (ln0_sim hrl) (ln0_len hrl) hrl
      have hE : Ech (t.K ++ [(p, redAll t.K r)]) := J.ech.snoc hp.1 (redAll_zero J.ech (fun q hq => (J.sim.lenK q hq).1) hrl)
      have hroom := hE.room (w := w) fun q hq => by
        rcases List.mem_append.mp hq with h | h
        · exact (J.sim.lenK q h).2
        · rw [List.mem_singleton.mp h]; exact hpw
      rw [List.length_append, ← J.sim.len] at hroom
      have hroom : s.P.length + 1 ≤ w := hroom
      have hk : s.kept.length < w := by rw [← J.lot.ln]; omega
      have hbL : Bd (2 ^ (0 + s.P.length) * (b + 1) - 1) (redAll s.P (ln0 w r)) := by
        refine Bd.redAll J.lot.bd ?_
        have e : 2 ^ 0 * (b + 1) - 1 = b := by omega
        rw [e]
        obtain ⟨c, rfl⟩ : ∃ c, b = c + 1 := ⟨b - 1, by omega⟩
        exact ln0_bd hrb
      have hbl : Bd (2 ^ (0 + t.K.length) * (b + 1) - 1) (redAll t.K r) := by
        refine Bd.redAll J.bk ?_
        have e : 2 ^ 0 * (b + 1) - 1 = b := by omega
        rw [e]; exact hrb
      have hS2 : Sim w (nl w s.kept.length (redAll s.P (ln0 w r))) (redAll t.K r) := by
        obtain ⟨α, β, ha, hb, hh⟩ := hS
        exact ⟨α, β, ha, hb, fun i hi => by rw [nl_at hL hk hi]; exact hh i hi⟩
      rw [e1, e2]
      refine ⟨⟨fun q hq => ?_, J.lot.bd.snoc (nl_bd hbL), fun x hx => ?_, ?_, ?_⟩, J.sim.snoc hS2 hpw (nl_len hL) hl, hE, J.bk.snoc hbl, ?_, fun i hi => ?_, ?_, fun x hx => ?_, fun x hx => ?_⟩
      · rcases List.mem_append.mp hq with h | h
        · exact J.lot.st q h
        · rw [List.mem_singleton.mp h]
          refine ⟨nl_len hL, nl_last hL hk, by show p < 2 * w; omega, ?_⟩
          show at_ (nl w s.kept.length (redAll s.P (ln0 w r))) p ≠ 0
          rw [nl_at hL hk hpw]
          exact fun z => hp.1 ((hS.zero hpw).mp z)
      · rcases List.mem_append.mp hx with h | h
        · exact J.lot.kw x h
        · rw [List.mem_singleton.mp h]; exact hrl
      · show (s.P ++ [_]).length = (s.kept ++ [r]).length
        rw [List.length_append, List.length_append, J.lot.ln]; rfl
      · show (s.P ++ [_]).length ≤ w
        rw [List.length_append]; exact hroom
      · show s.kept ++ [r] = (t.I ++ [t.n]).map _
        rw [List.map_append, J.kept]
        congr 1
        · exact List.map_congr_left fun i hi => (getD_app (J.il i hi)).symm
        · rw [List.map_singleton, hn, List.getD_eq_getElem?_getD, List.getElem?_append_right (Nat.le_refl _)]
          simp
      · rw [List.length_append]
        rcases List.mem_append.mp hi with h | h
        · have := J.il i h; omega
        · rw [List.mem_singleton.mp h, hn]; simp
      · show (fS (s.kept ++ [r])).K = t.K ++ [(p, redAll t.K r)] ∧ (fS (s.kept ++ [r])).I.length = (s.kept ++ [r]).length
        rw [fS_snoc]
        have e3 : fp (redAll (fS s.kept).K r) = some p := by rw [J.idem.1]; exact q
        unfold fstep
        rw [e3]
        refine ⟨by show (fS s.kept).K ++ [(p, redAll (fS s.kept).K r)] = _; rw [J.idem.1], ?_⟩
        show ((fS s.kept).I ++ [_]).length = _
        rw [List.length_append, List.length_append, J.idem.2]; rfl
      · show Told (t.K ++ [(p, redAll t.K r)]) x
        rcases List.mem_append.mp hx with h | h
        · exact (J.told x h).app _
        · rw [List.mem_singleton.mp h]; exact Told.self hp.1
      · rcases List.mem_append.mp hx with h | h
        · exact J.ok x h
        · rw [List.mem_singleton.mp h]; exact ⟨hrl, hrb⟩
/-- the law's measure of a further row -/
theorem Jt.more {w b : Nat} {rows : List (List Int)} {s : LS} {t : FS} (h : Jt w b rows s t) (r : List Int) : (fS (s.kept ++ [r])).I.length = s.kept.length + if (fp (redAll t.K r)).isNone then 0 else 1 := by
  rw [fS_snoc]
  unfold fstep
  rw [h.idem.1]
  cases q : fp (redAll t.K r) with
  | none => show (fS s.kept).I.length = _; rw [h.idem.2]; rfl
  | some p => show ((fS s.kept).I ++ [_]).length = _; rw [List.length_append, h.idem.2]; rfl
end Z
end
end
section
set_option Elab.async false
set_option linter.all false
set_option maxRecDepth 100000
set_option maxHeartbeats 2000000
set_option exponentiation.threshold 10000
/-! K27K: the law's own reckoning. -/
noncomputable section
namespace Z
open PySem PySem.Spec PyProof.Rows L2

theorem d_lred_loop {w b : Nat} {S : Sto} {hs : List (PV × Kd × List PV)} (hh : heldB hs S = true) (hw : w ≤ 1000) (a0 a1 : Option PV) : ∀ (K : List (Nat × List Int)) (k : Nat) (ln : List Int), (∀ q ∈ K, q.2.length = w ∧ q.1 < w) → ln.length = w → BdK b k K → Bd (2 ^ k * (b + 1) - 1) ln → 2 ^ (k + K.length) * (b + 1) ≤ 100000 → ∀ (o1 o2 o3 o4 o5 o6 o7 o8 : Option PV),
    ∃ (p1 p2 p3 p4 p5 p6 p7 p8 : Option PV), forZ (.tp [.nm 3, .nm 4]) hs (dIfS (dB (dBin neZ (dBin subZ (dVar 2) (dVar 3)) (dC (.int 0)))) (dSeq (dAsg (dTup (dCons (dBin subZ (dVar 4) (dVar 3)) (dCons (dBin subZ (dVar 2) (dVar 3)) (dNil)))) (gzT [gzN 5, gzN 6])) (dSeq (dSet 2 (dLc [7, 8] (dItA zipP (dCons (dVar 2) (dCons (dVar 4) (dNil)))) (.tp [.nm 7, .nm 8]) (dYes) (dBin subP (dBin mulT (dVar 5) (dVar 7)) (dBin mulT (dVar 6) (dVar 8))))) (dSeq (dSet 9 (dFn d__law_shared (dCons (dVar 2) (dNil)))) (dSet 2 (dIf (dB (dBin gtZ (dVar 9) (dC (.int 1)))) (dLc [10] (dItV (dVar 2)) (.nm 10) (dYes) (dBin divB (dVar 10) (dVar 9))) (dVar 2)))))) (dSkip))
      (K.map stV) [a0, a1, some (rL ln), o1, o2, o3, o4, o5, o6, o7, o8] S = .nx [a0, a1, some (rL (redAll K ln)), p1, p2, p3, p4, p5, p6, p7, p8] S
  | [], k, ln, _, _, _, _, _, o1, o2, o3, o4, o5, o6, o7, o8 => ⟨o1, o2, o3, o4, o5, o6, o7, o8, rfl⟩
  | q :: K, k, ln, hP, hg, hK, hb, hle, o1, o2, o3, o4, o5, o6, o7, o8 => by
    obtain ⟨q1, q2⟩ := hP q List.mem_cons_self
    have hpow : 2 ^ (k + 1) * (b + 1) ≤ 100000 := by
      refine Nat.le_trans (Nat.mul_le_mul_right _ (Nat.pow_le_pow_right (by decide) ?_)) hle
      rw [List.length_cons]; omega
    have hp1 : 1 ≤ 2 ^ k * (b + 1) := Nat.mul_pos (Nat.pow_pos (by decide)) (Nat.succ_pos b)
    have e3 : 2 ^ (k + 1) * (b + 1) - 1 = 2 ^ k * (b + 1) - 1 + (2 ^ k * (b + 1) - 1) + 1 := by
      rw [Nat.pow_succ, Nat.mul_comm (2 ^ k) 2, Nat.mul_assoc]; omega
    have hk9 : 2 ^ k * (b + 1) - 1 ≤ 100000 := by
      have : 2 ^ (k + 1) * (b + 1) = 2 * (2 ^ k * (b + 1)) := by rw [Nat.pow_succ, Nat.mul_comm (2 ^ k) 2, Nat.mul_assoc]
      omega
    have hbr : Bd (2 ^ (k + 1) * (b + 1) - 1) (red q.1 q.2 ln) := by rw [e3]; exact Bd.red hK.1 hb
    obtain ⟨r1, r2, r3, r4, r5, r6, r7, r8, ih⟩ := d_lred_loop hh hw a0 a1 K (k + 1) (red q.1 q.2 ln) (fun r hr => hP r (List.mem_cons_of_mem _ hr)) (by rw [red_len (by rw [hg, q1])]; exact hg) hK.2 hbr (by
      have e2 : k + 1 + K.length = k + (q :: K).length := by rw [List.length_cons]; omega
      rw [e2]; exact hle) (some (.int (q.1 : Nat))) (some (rL q.2))
      (if at_ ln q.1 = 0 then o3 else some (.int (at_ q.2 q.1))) (if at_ ln q.1 = 0 then o4 else some (.int (at_ ln q.1))) o5 o6 (if at_ ln q.1 = 0 then o7 else some (.int (gl (comb (at_ q.2 q.1) (at_ ln q.1) ln q.2) : Nat))) o8
    refine ⟨r1, r2, r3, r4, r5, r6, r7, r8, ?_⟩
    rw [List.map_cons, forZ, asgS]
    simp only [setZ, List.set_cons_succ, List.set_cons_zero, List.foldl_cons, List.foldl_nil]
    have s1 := sub_rL (L := ln) (p := q.1) (by rw [hg]; omega) S
    have s2 := sub_rL (L := q.2) (p := q.1) (by rw [q1]; omega) S
    have e1 : redAll (q :: K) ln = redAll K (red q.1 q.2 ln) := rfl
    by_cases hz : at_ ln q.1 = 0
    · rw [if_pos hz, if_pos hz, if_pos hz] at ih
      have e0 : red q.1 q.2 ln = ln := by unfold red; rw [if_pos hz]
      rw [e0] at ih e1
      simp only [dIfS_ap, dB_ap, dBin_ap, dVar_s, dVar_0, bind_ok, s1, hz, dC_ap, neZ_int, decide_true, Bool.not_true, asB_ok, st_ok, Bool.false_eq_true, if_false, dSkip_ap, hh, if_true, ih, e1]
    · rw [if_neg hz, if_neg hz, if_neg hz] at ih
      have hm : mkNd .tup [PV.int (at_ q.2 q.1), .int (at_ ln q.1)] S = .ok (.nd .tup [.int (at_ q.2 q.1), .int (at_ ln q.1)]) S := mkNd_ok S (by simp)
      have hcb := Bd.comb (hK.1.at_ q.1) (hb.at_ q.1) hb hK.1
      rw [← e3] at hcb
      have hc9 : ∀ x ∈ comb (at_ q.2 q.1) (at_ ln q.1) ln q.2, x.natAbs < 2 ^ 100000 := fun x hx => lt_100000 (n := 0) (hcb x hx) (by omega)
      have lc1 := comb_lc (a := at_ q.2 q.1) (b := at_ ln q.1) (L := ln) (st := q.2) (vs := [7, 8]) (i := 7) (j := 8) (l := [a0, a1, some (rL ln), some (.int (q.1 : Nat)), some (rL q.2), some (.int (at_ q.2 q.1)), some (.int (at_ ln q.1)), o5, o6, o7, o8]) (S := S) (di := dItA zipP (dCons (dVar 2) (dCons (dVar 4) (dNil)))) (el := dBin subP (dBin mulT (dVar 5) (dVar 7)) (dBin mulT (dVar 6) (dVar 8)))
        (by simp only [dItA_ap, dCons_ap, dNil_ap, dVar_s, dVar_0, bind_ok, zipP_rL]) (by rw [hg]; omega) (fun x y hx hy => by
          have m1 := mul_small (lt_100000 (n := 0) (hK.1.at_ q.1) hk9) (lt_100000 (n := 0) (hb x hx) hk9) S
          have m2 := mul_small (lt_100000 (n := 0) (hb.at_ q.1) hk9) (lt_100000 (n := 0) (hK.1 y hy) hk9) S
          simp only [setZ, wipeZ_cons, wipeZ_nil, List.set_cons_succ, List.set_cons_zero, List.foldl_cons, List.foldl_nil, dBin_ap, dVar_s, dVar_0, bind_ok, m1, m2, subP_int])
      have sh := d_lshared_ok (comb (at_ q.2 q.1) (at_ ln q.1) ln q.2) S hc9
      have er : (dIf (dB (dBin gtZ (dVar 9) (dC (.int 1)))) (dLc [10] (dItV (dVar 2)) (.nm 10) (dYes) (dBin divB (dVar 10) (dVar 9))) (dVar 2)) [a0, a1, some (rL (comb (at_ q.2 q.1) (at_ ln q.1) ln q.2)), some (.int (q.1 : Nat)), some (rL q.2), some (.int (at_ q.2 q.1)), some (.int (at_ ln q.1)), o5, o6, some (.int (gl (comb (at_ q.2 q.1) (at_ ln q.1) ln q.2) : Nat)), o8] S = .ok (rL (red q.1 q.2 ln)) S := by
        unfold red
        rw [if_neg hz]
        generalize hC : comb (at_ q.2 q.1) (at_ ln q.1) ln q.2 = C at hc9
        have hCl : C.length = w := by rw [← hC, comb_len, hg, q1]; omega
        by_cases h1 : 1 < gl C
        · have gl9 : gl C < 2 ^ 100000 := by
            -- some number of C is not 0
            have : ∃ x ∈ C, x ≠ 0 := by
              apply Classical.byContradiction
              intro hn
              have hz : ∀ x ∈ C, x = 0 := fun x hx => Classical.byContradiction fun hne => hn ⟨x, hx, hne⟩
              have : ∀ (ns : List Int) , (∀ x ∈ ns, x = 0) → glF 0 ns = 0 := by
                intro ns
                induction ns with
                | nil => intro _; rfl
                | cons n ns ih =>
                  intro h
                  have e0 := h n List.mem_cons_self
                  subst e0
                  exact ih fun x hx => h x (List.mem_cons_of_mem _ hx)
              have := this C hz
              have : gl C = 0 := this
              omega
            obtain ⟨x, hx, hne⟩ := this
            exact Nat.lt_of_le_of_lt (gl_le hx hne) (hc9 x hx)
          have lc2 := div_lc (g := gl C) (L := C) (vs := [10]) (i := 10) (l := [a0, a1, some (rL C), some (.int (q.1 : Nat)), some (rL q.2), some (.int (at_ q.2 q.1)), some (.int (at_ ln q.1)), o5, o6, some (.int (gl C : Nat)), o8]) (S := S) (di := dItV (dVar 2)) (el := dBin divB (dVar 10) (dVar 9))
            rfl (by rw [hCl]; omega) (fun x hx => by
              simp only [setZ, wipeZ_cons, wipeZ_nil, List.set_cons_succ, List.set_cons_zero, List.foldl_cons, List.foldl_nil, dBin_ap, dVar_s, dVar_0, bind_ok, div_small (Nat.lt_trans Nat.zero_lt_one h1) S])
          have hg1 : decide ((1 : Int) < (gl C : Nat)) = true := decide_eq_true (by omega)
          rw [if_pos h1]
          simp only [dIf_ap, dB_ap, dBin_ap, dVar_s, dVar_0, bind_ok, dC_ap, gtZ_int, asB_ok, hg1, if_true, lc2]
        · have hg1 : decide ((1 : Int) < (gl C : Nat)) = false := decide_eq_false (by omega)
          rw [if_neg h1]
          simp only [dIf_ap, dB_ap, dBin_ap, dVar_s, dVar_0, bind_ok, dC_ap, gtZ_int, asB_ok, hg1, Bool.false_eq_true, if_false]
      simp only [dIfS_ap, dB_ap, dBin_ap, dVar_s, dVar_0, bind_ok, s1, s2, dC_ap, neZ_int, hz, decide_false, Bool.not_false, asB_ok, st_ok, if_true, dSeq_ap, dAsg_ap, dTup_ap, dCons_ap, dNil_ap, hm, gzT_ap, gzL_cons, gzL_nil, gzN_ap, seq_nx, onlyNx_nx, List.set_cons_succ, List.set_cons_zero,
        dSet_ap, lc1, dFn_ap, sh]
      rw [er]
      simp only [st_ok, List.set_cons_succ, List.set_cons_zero, hh, if_true, ih, e1]
theorem d_lred {w b : Nat} {K : List (Nat × List Int)} {r : List Int} {S : Sto} {n : Nat} (hS : S[n]? = some (some (.lst, K.map stV))) (hK : ∀ q ∈ K, q.2.length = w ∧ q.1 < w) (hr : r.length = w) (hbk : BdK b 0 K) (hb : Bd b r) (hkl : K.length ≤ 7) (hw : w ≤ 1000) (hb1 : b ≤ 300) : d__law_reduced [rT r, .ref n] S = .ok (rL (redAll K r)) S := by
  have hv : itOf (.ref n) S = .ok ⟨K.map stV, [(.ref n, (.lst, K.map stV))]⟩ S := by
    simp only [itOf, seqIt, view_ref hS, hold_ref]
  have hh : heldB [(PV.ref n, (Kd.lst, K.map stV))] S = true := heldB_of fun p hp => by
    rw [List.mem_singleton.mp hp]; exact view_ref hS
  have hk : 2 ^ (0 + K.length) * (b + 1) ≤ 100000 := by
    have h1 : 2 ^ K.length ≤ 2 ^ 7 := Nat.pow_le_pow_right (by decide) hkl
    have : 2 ^ K.length * (b + 1) ≤ 2 ^ 7 * 301 := Nat.mul_le_mul h1 (by omega)
    rw [Nat.zero_add]
    omega
  obtain ⟨p1, p2, p3, p4, p5, p6, p7, p8, hf⟩ := d_lred_loop (S := S) hh hw (some (rT r)) (some (.ref n)) K 0 r hK hr hbk (by
    have e : 2 ^ 0 * (b + 1) - 1 = b := by omega
    rw [e]; exact hb) hk none none none none none none none none
  refine dDef_ret _ _ rfl ?_ (Nat.le_refl _)
  unfold b__law_reduced
  show dSeq _ _ [some (rT r), some (.ref n), none, none, none, none, none, none, none, none, none] S = _
  have s1 : dSet 2 (dApp listP (dCons (dVar 0) (dNil))) [some (rT r), some (.ref n), none, none, none, none, none, none, none, none, none] S = .nx [some (rT r), some (.ref n), some (rL r), none, none, none, none, none, none, none, none] S := rfl
  have hi : dItV (dVar 1) [some (rT r), some (.ref n), some (rL r), none, none, none, none, none, none, none, none] S = .ok ⟨K.map stV, [(.ref n, (.lst, K.map stV))]⟩ S := by
    rw [dItV_ap, dVar_s, dVar_0, bind_ok, hv]
  rw [dSeq_ap, s1, seq_nx, dSeq_ap, dFor_eq hi hh, hf]
  rfl
theorem dFn_of {f : DF} {ar : DA} {l : Loc} {S S1 : Sto} {xs : List PV} {v : PV} (h : ar l S = .ok xs S) (hf : f xs S = .ok v S1) : dFn f ar l S = .ok v S1 := by
  rw [dFn_ap, h]
  exact hf
theorem dSet_of {i : Nat} {a : DE} {l : Loc} {S S1 : Sto} {v : PV} (h : a l S = .ok v S1) : dSet i a l S = .nx (l.set i (some v)) S1 := by
  rw [dSet_ap, h]
  rfl
theorem appP_ok' {n : Nat} {xs : List PV} {y : PV} {S : Sto} (h : S[n]? = some (some (.lst, xs))) (hl : xs.length ≤ 1000) : appP (.ref n) [y] S = .ok .non (S.set n (some (.lst, xs ++ [y]))) := by
  unfold appP
  simp only [h]
  rw [if_pos (Nat.lt_of_le_of_lt hl (by decide))]
/-- the rows that are free of those before them -/
theorem d_free {w b : Nat} (hb0 : 1 ≤ b) (rows : List (List Int)) (hr : ∀ r ∈ rows, RwOk w b r) (hw : w ≤ 7) (hb1 : b ≤ 300) (hn : rows.length ≤ 1000) : d__law_free [.nd .lst (rows.map rT)] [] = .ok (.nd .lst ((fS rows).I.map fun i : Nat => .int (i : Int))) [] := by
  have hlen : lenP [.nd .lst (rows.map rT)] [some (.lst, []), some (.lst, [])] = .ok (.int (rows.length : Nat)) [some (.lst, []), some (.lst, [])] := by
    rw [lenP_nd_lst, List.length_map]
  have hi : dItA rngP (dCons (dApp lenP (dCons (dVar 0) (dNil))) (dNil)) [some (.nd .lst (rows.map rT)), some (.ref 0), some (.ref 1), none, none, none] [some (.lst, []), some (.lst, [])] = .ok ⟨rngZ 0 rows.length, []⟩ [some (.lst, []), some (.lst, [])] :=
    dItA_of (xs := [.int (rows.length : Nat)]) (by simp only [dCons_ap, dApp_ap, dVar_0, bind_ok, dNil_ap, hlen]) (rngP_nat rows.length _ (Nat.lt_of_le_of_lt hn (by decide)))
  obtain ⟨l', S', f1, ⟨o3, o4, o5, rfl⟩, rfl⟩ := forZ_inv (t := .nm 3) (hs := []) (b := dSeq (dSet 4 (dFn d__law_reduced (dCons (dBin subZ (dVar 0) (dVar 3)) (dCons (dVar 1) (dNil))))) (dSeq (dSet 5 (dFn d__law_place (dCons (dVar 4) (dNil)))) (dIfS (dB (dBin isntZ (dVar 5) (dC .non))) (dSeq (dExpr (dMet "list" appP (dVar 1) (dCons (dTup (dCons (dVar 5) (dCons (dVar 4) (dNil)))) dNil))) (dExpr (dMet "list" appP (dVar 2) (dCons (dVar 3) dNil)))) (dSkip))))
    (fun i l S => (∃ o3 o4 o5, l = [some (.nd .lst (rows.map rT)), some (.ref 0), some (.ref 1), o3, o4, o5]) ∧ S = [some (.lst, (fS (rows.take i)).K.map stV), some (.lst, (fS (rows.take i)).I.map fun i : Nat => .int (i : Int))]) (rngZ 0 rows.length) 0 [some (.nd .lst (rows.map rT)), some (.ref 0), some (.ref 1), none, none, none] [some (.lst, []), some (.lst, [])] ⟨⟨none, none, none, rfl⟩, rfl⟩ (by
      rintro i x l S hx ⟨⟨o3, o4, o5, rfl⟩, rfl⟩
      rw [Nat.zero_add] at *
      obtain ⟨hi, rfl⟩ := rngZ_get hx
      have ht : rows.take (i + 1) = rows.take i ++ [rows[i]] := by rw [List.take_add_one, List.getElem?_eq_getElem hi]; rfl
      have J := Jt.all hb0 (rows.take i) fun r h => hr r (List.mem_of_mem_take h)
      obtain ⟨hrl, hrb⟩ := hr rows[i] (List.getElem_mem hi)
      have hnn : (fS (rows.take i)).n = i := by rw [fS_n, List.length_take]; omega
      have hkl : (fS (rows.take i)).K.length ≤ 7 := by rw [← J.sim.len]; exact Nat.le_trans J.lot.rm hw
      rw [ht, fS_snoc]
      generalize fS (rows.take i) = t at *
      have e0 : (0 + (i : Nat) : Int) = (i : Nat) := Int.zero_add _
      rw [e0]
      have hsub : ∀ S, subZ (.nd .lst (rows.map rT)) (.int (i : Nat)) S = .ok (rT rows[i]) S := fun S => subZ_lst S _ _ (by rw [atI_ofNat, List.getElem?_map, List.getElem?_eq_getElem hi]; rfl)
      have hred := d_lred (w := w) (b := b) (K := t.K) (r := rows[i]) (S := [some (.lst, t.K.map stV), some (.lst, t.I.map fun i : Nat => .int (i : Int))]) (n := 0) rfl J.sim.lenK hrl J.bk hrb hkl (by omega) hb1
      have hll : (redAll t.K rows[i]).length = w := redAll_len (fun q hq => (J.sim.lenK q hq).1) hrl
      have hpl := d_place (redAll t.K rows[i]) [some (.lst, t.K.map stV), some (.lst, t.I.map fun i : Nat => .int (i : Int))] (by rw [hll]; omega)
      have t1 : ∀ o4 o5, dSet 4 (dFn d__law_reduced (dCons (dBin subZ (dVar 0) (dVar 3)) (dCons (dVar 1) (dNil)))) [some (.nd .lst (rows.map rT)), some (.ref 0), some (.ref 1), some (.int (i : Nat)), o4, o5] [some (.lst, t.K.map stV), some (.lst, t.I.map fun i : Nat => .int (i : Int))] = .nx [some (.nd .lst (rows.map rT)), some (.ref 0), some (.ref 1), some (.int (i : Nat)), some (rL (redAll t.K rows[i])), o5] [some (.lst, t.K.map stV), some (.lst, t.I.map fun i : Nat => .int (i : Int))] := fun o4 o5 => dSet_of (dFn_of (xs := [rT rows[i], .ref 0]) (by simp only [dCons_ap, dBin_ap, dVar_s, dVar_0, bind_ok, hsub, dNil_ap]) hred)
      have t2 : ∀ o5, dSet 5 (dFn d__law_place (dCons (dVar 4) (dNil))) [some (.nd .lst (rows.map rT)), some (.ref 0), some (.ref 1), some (.int (i : Nat)), some (rL (redAll t.K rows[i])), o5] [some (.lst, t.K.map stV), some (.lst, t.I.map fun i : Nat => .int (i : Int))] = .nx [some (.nd .lst (rows.map rT)), some (.ref 0), some (.ref 1), some (.int (i : Nat)), some (rL (redAll t.K rows[i])), some (fpV (fp (redAll t.K rows[i])))] [some (.lst, t.K.map stV), some (.lst, t.I.map fun i : Nat => .int (i : Int))] := fun o5 => dSet_of (dFn_of (xs := [rL (redAll t.K rows[i])]) rfl hpl)
      cases q : fp (redAll t.K rows[i]) with
      | none =>
        have e2 : fstep t rows[i] = ⟨t.K, t.I, t.n + 1⟩ := by unfold fstep; rw [q]
        rw [q] at hpl t2
        refine ⟨_, [some (.nd .lst (rows.map rT)), some (.ref 0), some (.ref 1), some (.int (i : Nat)), some (rL (redAll t.K rows[i])), some .non], _, asg1, ?_, heldB_nil _, ⟨_, _, _, rfl⟩, by rw [e2]⟩
        show dSeq _ _ [some (.nd .lst (rows.map rT)), some (.ref 0), some (.ref 1), some (.int (i : Nat)), o4, o5] _ = _
        rw [seq_of (t1 o4 o5), seq_of (t2 o5)]
        rfl
      | some p =>
        have e2 : fstep t rows[i] = ⟨t.K ++ [(p, redAll t.K rows[i])], t.I ++ [t.n], t.n + 1⟩ := by unfold fstep; rw [q]
        rw [q] at hpl t2
        have hm : ∀ S, mkNd .tup [PV.int (p : Nat), rL (redAll t.K rows[i])] S = .ok (stV (p, redAll t.K rows[i])) S := fun S => mkNd_ok _ (by simp)
        have ha1 : ∀ o, (dExpr (dMet "list" appP (dVar 1) (dCons (dTup (dCons (dVar 5) (dCons (dVar 4) (dNil)))) dNil))) [some (.nd .lst (rows.map rT)), some (.ref 0), some (.ref 1), some (.int (i : Nat)), some (rL (redAll t.K rows[i])), some (.int (p : Nat))] [some (.lst, t.K.map stV), o] = .nx [some (.nd .lst (rows.map rT)), some (.ref 0), some (.ref 1), some (.int (i : Nat)), some (rL (redAll t.K rows[i])), some (.int (p : Nat))] [some (.lst, (t.K ++ [(p, redAll t.K rows[i])]).map stV), o] := fun o => by
          have hty : tyOk "list" (.ref 0) [some (.lst, t.K.map stV), o] = true := rfl
          have hap : appP (.ref 0) [stV (p, redAll t.K rows[i])] [some (.lst, t.K.map stV), o] = .ok .non [some (.lst, (t.K ++ [(p, redAll t.K rows[i])]).map stV), o] := by
            have hl : (t.K.map stV).length ≤ 1000 := by rw [List.length_map]; omega
            rw [appP_ok' rfl hl, List.map_append]
            rfl
          simp only [dExpr_ap, dMet_ap, dVar_s, dVar_0, bind_ok, hty, if_true, dCons_ap, dTup_ap, dNil_ap, hm, hap, st_ok]
        have ha2 : ∀ o, (dExpr (dMet "list" appP (dVar 2) (dCons (dVar 3) dNil))) [some (.nd .lst (rows.map rT)), some (.ref 0), some (.ref 1), some (.int (i : Nat)), some (rL (redAll t.K rows[i])), some (.int (p : Nat))] [o, some (.lst, t.I.map fun i : Nat => .int (i : Int))] = .nx [some (.nd .lst (rows.map rT)), some (.ref 0), some (.ref 1), some (.int (i : Nat)), some (rL (redAll t.K rows[i])), some (.int (p : Nat))] [o, some (.lst, (t.I ++ [t.n]).map fun i : Nat => .int (i : Int))] := fun o => by
          have hty : tyOk "list" (.ref 1) [o, some (.lst, t.I.map fun i : Nat => .int (i : Int))] = true := rfl
          have hIl : t.I.length ≤ 7 := by
            have h2 := congrArg List.length J.kept
            rw [List.length_map] at h2
            rw [← h2, ← J.lot.ln]
            exact Nat.le_trans J.lot.rm hw
          have hap : appP (.ref 1) [.int (i : Nat)] [o, some (.lst, t.I.map fun i : Nat => .int (i : Int))] = .ok .non [o, some (.lst, (t.I ++ [t.n]).map fun i : Nat => .int (i : Int))] := by
            have hl : (t.I.map fun i : Nat => PV.int (i : Int)).length ≤ 1000 := by rw [List.length_map]; omega
            rw [appP_ok' rfl hl, List.map_append, hnn]
            rfl
          simp only [dExpr_ap, dMet_ap, dVar_s, dVar_0, bind_ok, hty, if_true, dCons_ap, dNil_ap, hap, st_ok]
        refine ⟨_, [some (.nd .lst (rows.map rT)), some (.ref 0), some (.ref 1), some (.int (i : Nat)), some (rL (redAll t.K rows[i])), some (.int (p : Nat))], _, asg1, ?_, heldB_nil _, ⟨_, _, _, rfl⟩, by rw [e2]⟩
        show dSeq _ _ [some (.nd .lst (rows.map rT)), some (.ref 0), some (.ref 1), some (.int (i : Nat)), o4, o5] _ = _
        rw [seq_of (t1 o4 o5), seq_of (t2 o5)]
        show dSeq _ _ [some (.nd .lst (rows.map rT)), some (.ref 0), some (.ref 1), some (.int (i : Nat)), some (rL (redAll t.K rows[i])), some (.int (p : Nat))] _ = _
        rw [seq_of (ha1 _), ha2])
  rw [Nat.zero_add, rngZ_len, List.take_length] at f1
  refine (dDef_thaw (S := []) (S1 := [some (.lst, (fS rows).K.map stV), some (.lst, (fS rows).I.map fun i : Nat => .int (i : Int))]) (v := .ref 1) (w := .nd .lst ((fS rows).I.map fun i : Nat => .int (i : Int))) _ rfl ?_ (by show 0 < 2; decide) (thaw_ref (Nat.zero_le _) rfl ?_) rfl)
  · unfold b__law_free
    show dSeq _ _ [some (.nd .lst (rows.map rT)), none, none, none, none, none] [] = _
    have s1 : dPar 1 2 (dCons (dLstM (dNil)) (dCons (dLstM (dNil)) (dNil))) [some (.nd .lst (rows.map rT)), none, none, none, none, none] [] = .nx [some (.nd .lst (rows.map rT)), some (.ref 0), some (.ref 1), none, none, none] [some (.lst, []), some (.lst, [])] := rfl
    rw [dSeq_ap, s1, seq_nx, dSeq_ap, dFor_eq hi (heldB_nil _), f1]
    rfl
  · intro x hx
    obtain ⟨i, _, rfl⟩ := List.mem_map.mp hx
    rw [thaw] <;> intros <;> simp_all
end Z
end
end
section
set_option Elab.async false
set_option linter.all false
set_option maxRecDepth 100000
set_option maxHeartbeats 1000000
/-! K26V: how a line tells what a row is made of: plain reckoning. -/
noncomputable section
namespace Z
open PySem PySem.Spec PyProof.Rows L2
/-- f j times the j-th row, summed, at a place -/
def dotA (f : Nat → Int) : List (List Int) → Nat → Nat → Int
  | [], _, _ => 0
  | r :: rs, j, p => f j * at_ r p + dotA f rs (j + 1) p
theorem dotA_app (f : Nat → Int) (p : Nat) : ∀ (xs ys : List (List Int)) (j : Nat), dotA f (xs ++ ys) j p = dotA f xs j p + dotA f ys (j + xs.length) p
  | [], ys, j => by simp [dotA]
  | x :: xs, ys, j => by
    have e : j + (x :: xs).length = j + 1 + xs.length := by rw [List.length_cons]; omega
    rw [e]
    show f j * at_ x p + dotA f (xs ++ ys) (j + 1) p = f j * at_ x p + dotA f xs (j + 1) p + _
    rw [dotA_app f p xs ys (j + 1), Int.add_assoc]
theorem dotA_cong {f g : Nat → Int} {p : Nat} : ∀ (xs : List (List Int)) (j : Nat), (∀ i, j ≤ i → i < j + xs.length → f i = g i) → dotA f xs j p = dotA g xs j p
  | [], _, _ => rfl
  | x :: xs, j, h => by
    show f j * at_ x p + dotA f xs (j + 1) p = g j * at_ x p + dotA g xs (j + 1) p
    rw [h j (Nat.le_refl _) (by rw [List.length_cons]; omega), dotA_cong xs (j + 1) fun i h1 h2 => h i (by omega) (by rw [List.length_cons]; omega)]
theorem dotA_lin {f g : Nat → Int} {a b : Int} {p : Nat} : ∀ (xs : List (List Int)) (j : Nat), dotA (fun i => a * f i - b * g i) xs j p = a * dotA f xs j p - b * dotA g xs j p
  | [], _ => by simp [dotA]
  | x :: xs, j => by
    show (a * f j - b * g j) * at_ x p + dotA (fun i => a * f i - b * g i) xs (j + 1) p = a * (f j * at_ x p + dotA f xs (j + 1) p) - b * (g j * at_ x p + dotA g xs (j + 1) p)
    rw [dotA_lin xs (j + 1), Int.sub_mul, Int.mul_add, Int.mul_add, Int.mul_assoc, Int.mul_assoc]
    omega
theorem dotA_mul {f : Nat → Int} {a : Int} {p : Nat} : ∀ (xs : List (List Int)) (j : Nat), dotA (fun i => a * f i) xs j p = a * dotA f xs j p
  | [], _ => by simp [dotA]
  | x :: xs, j => by
    show (a * f j) * at_ x p + dotA (fun i => a * f i) xs (j + 1) p = a * (f j * at_ x p + dotA f xs (j + 1) p)
    rw [dotA_mul xs (j + 1), Int.mul_add, Int.mul_assoc]
/-- a line stands for its last number times the row, and the rows that are kept -/
def MadeL (w : Nat) (kept : List (List Int)) (r L : List Int) : Prop := (∀ p, p < w → at_ L p = at_ L (2 * w) * at_ r p + dotA (fun j => at_ L (w + j)) kept 0 p) ∧ ∀ j, kept.length ≤ j → j < w → at_ L (w + j) = 0
def MadeS (w : Nat) (kept : List (List Int)) (st : List Int) : Prop := (∀ p, p < w → at_ st p = dotA (fun j => at_ st (w + j)) kept 0 p) ∧ (∀ j, kept.length ≤ j → j < w → at_ st (w + j) = 0) ∧ at_ st (2 * w) = 0
theorem MadeL.red {w q : Nat} {kept : List (List Int)} {r L st : List Int} (h : MadeL w kept r L) (hs : MadeS w kept st) (hl : L.length = st.length) : MadeL w kept r (Z.red q st L) := by
  by_cases hz : at_ L q = 0
  · have e : Z.red q st L = L := by unfold Z.red; rw [if_pos hz]
    rw [e]; exact h
  · obtain ⟨g, hg, e⟩ := red_at hl hz
    obtain ⟨h1, h2⟩ := h
    obtain ⟨s1, s2, s3⟩ := hs
    refine ⟨fun p hp => ?_, fun j h3 h4 => ?_⟩
    · have ep := e p
      have el := e (2 * w)
      rw [s3, Int.mul_zero, Int.sub_zero] at el
      have ed : dotA (fun j => g * at_ (Z.red q st L) (w + j)) kept 0 p = at_ st q * dotA (fun j => at_ L (w + j)) kept 0 p - at_ L q * dotA (fun j => at_ st (w + j)) kept 0 p := by
        rw [← dotA_lin]
        exact dotA_cong kept 0 fun i _ _ => e (w + i)
      rw [dotA_mul] at ed
      rw [h1 p hp, s1 p hp] at ep
      refine Int.eq_of_mul_eq_mul_left hg ?_
      have er : ∀ x y z : Int, g * (x * y + z) = g * x * y + g * z := fun x y z => by rw [Int.mul_add, Int.mul_assoc]
      rw [ep, er, el, ed, Int.mul_add, Int.mul_assoc]
      omega
    · have ej := e (w + j)
      rw [h2 j h3 h4, s2 j h3 h4, Int.mul_zero, Int.mul_zero, Int.sub_zero] at ej
      exact (Int.mul_eq_zero.mp ej).elim (fun z => absurd z hg) id
theorem MadeL.redAll {w n : Nat} {kept : List (List Int)} {r : List Int} : ∀ (P : List (Nat × List Int)) (L : List Int), (∀ q ∈ P, MadeS w kept q.2 ∧ q.2.length = n) → L.length = n → MadeL w kept r L → MadeL w kept r (Z.redAll P L)
  | [], _, _, _, h => h
  | q :: P, L, hP, hl, h => by
    obtain ⟨h1, h2⟩ := hP q List.mem_cons_self
    exact MadeL.redAll P (Z.red q.1 q.2 L) (fun x hx => hP x (List.mem_cons_of_mem _ hx)) (by rw [red_len (by rw [hl, h2])]; exact hl) (h.red h1 (by rw [hl, h2]))
theorem MadeS.more {w : Nat} {kept : List (List Int)} {st : List Int} (h : MadeS w kept st) (hk : kept.length < w) (r : List Int) : MadeS w (kept ++ [r]) st := by
  obtain ⟨h1, h2, h3⟩ := h
  refine ⟨fun p hp => ?_, fun j hj => h2 j (by rw [List.length_append] at hj; simp at hj; omega), h3⟩
  rw [dotA_app, h1 p hp]
  show _ = _ + (at_ st (w + (0 + kept.length)) * at_ r p + 0)
  rw [h2 (0 + kept.length) (by omega) (by omega)]
  simp
/-! ### the greatest divisor of a cleared line stays 1 -/
theorem dvd_glF {m : Nat} : ∀ (ns : List Int) (g : Nat), m ∣ g → (∀ n ∈ ns, m ∣ n.natAbs) → m ∣ glF g ns
  | [], _, h, _ => h
  | n :: ns, g, h, hn => dvd_glF ns (Nat.gcd g n.natAbs) (Nat.dvd_gcd h (hn n List.mem_cons_self)) fun x hx => hn x (List.mem_cons_of_mem _ hx)
theorem dvd_gl {m : Nat} {ns : List Int} (h : ∀ n ∈ ns, m ∣ n.natAbs) : m ∣ gl ns := dvd_glF ns 0 (Nat.dvd_zero m) h
theorem gl_div {l : List Int} (h : 0 < gl l) : gl (l.map (· / (gl l : Int))) = 1 := by
  have hd : gl (l.map (· / (gl l : Int))) * gl l ∣ gl l := by
    refine dvd_gl fun x hx => ?_
    have h1 := gl_dvd (List.mem_map_of_mem (f := (· / (gl l : Int))) hx)
    have h2 := gl_dvd hx
    obtain ⟨c, hc⟩ := h1
    have h3 : x = (gl l : Int) * (x / (gl l : Int)) := (Int.mul_ediv_cancel' h2).symm
    have h4 : x = ((gl (l.map (· / (gl l : Int))) * gl l : Nat) : Int) * c := by
      rw [h3, hc]
      push_cast
      rw [Int.mul_comm (gl l : Int), Int.mul_assoc, Int.mul_assoc, Int.mul_comm c]
    rw [h4, Int.natAbs_mul, Int.natAbs_natCast]
    exact Nat.dvd_mul_right _ _
  have := Nat.le_of_dvd h hd
  have hp : 0 < gl (l.map (· / (gl l : Int))) := Nat.pos_of_ne_zero fun z => by
    rw [z, Nat.zero_mul] at hd
    have := Nat.eq_zero_of_zero_dvd hd
    omega
  have h5 : gl (l.map (· / (gl l : Int))) * gl l ≤ 1 * gl l := by omega
  have := Nat.le_of_mul_le_mul_right h5 h
  omega
end Z
end
end
section
set_option Elab.async false
set_option linter.all false
set_option maxRecDepth 100000
set_option maxHeartbeats 1000000
/-! K26X: the first line, the new step, what a told row comes to: plain reckoning. -/
noncomputable section
namespace Z
open PySem PySem.Spec PyProof.Rows L2
theorem gl_one {l : List Int} {x : Int} (h : x ∈ l) (hx : x.natAbs = 1) : gl l = 1 := by
  have := (glF_dvd l 0).2 x h
  rw [hx] at this
  exact Nat.eq_one_of_dvd_one this
theorem gl_red {n p : Nat} {st ln : List Int} (h : Good n ln) (hs : st.length = n + 1) (h0 : at_ st n = 0) (hp : at_ st p ≠ 0) (h1 : gl ln = 1) : gl (Z.red p st ln) = 1 := by
  have g := h.pos hs h0 hp
  unfold Z.red
  split
  · exact h1
  · split
    · exact gl_div g
    · omega
theorem gl_redAll {n b : Nat} : ∀ (P : List (Nat × List Int)) (ln : List Int), StOk n b P → Good n ln → gl ln = 1 → gl (Z.redAll P ln) = 1
  | [], _, _, _, h => h
  | q :: P, ln, hP, hg, h1 => by
    obtain ⟨q1, q2, q3, q4⟩ := hP q List.mem_cons_self
    exact gl_redAll (b := b) P (Z.red q.1 q.2 ln) (fun x hx => hP x (List.mem_cons_of_mem _ hx)) (hg.red q1 q2 q4) (gl_red hg q1 q2 q4 h1)
theorem ln0_at_w {w : Nat} {r : List Int} (h : r.length = w) {p : Nat} (hp : p < w) : at_ (ln0 w r) p = at_ r p := by
  rw [at_lt (by rw [ln0_len h]; omega), at_lt (by omega)]
  unfold ln0
  rw [List.getElem_append_left (by omega)]
theorem ln0_at_mid {w : Nat} {r : List Int} (h : r.length = w) {j : Nat} (hj : j < w) : at_ (ln0 w r) (w + j) = 0 := by
  rw [at_lt (by rw [ln0_len h]; omega)]
  unfold ln0
  rw [List.getElem_append_right (by omega), List.getElem_append_left (by rw [List.length_replicate]; omega), List.getElem_replicate]
theorem ln0_at_last {w : Nat} {r : List Int} (h : r.length = w) : at_ (ln0 w r) (2 * w) = 1 := by
  rw [at_lt (by rw [ln0_len h]; omega)]
  unfold ln0
  rw [List.getElem_append_right (by omega), List.getElem_append_right (by rw [List.length_replicate]; omega)]
  simp
theorem dotA_zero {f : Nat → Int} {p : Nat} : ∀ (xs : List (List Int)) (j : Nat), (∀ i, j ≤ i → i < j + xs.length → f i = 0) → dotA f xs j p = 0
  | [], _, _ => rfl
  | x :: xs, j, h => by
    show f j * at_ x p + dotA f xs (j + 1) p = 0
    rw [h j (Nat.le_refl _) (by rw [List.length_cons]; omega), dotA_zero xs (j + 1) fun i h1 h2 => h i (by omega) (by rw [List.length_cons]; omega)]
    simp
theorem ln0_made {w : Nat} {kept : List (List Int)} {r : List Int} (h : r.length = w) (hk : kept.length ≤ w) : MadeL w kept r (ln0 w r) := by
  refine ⟨fun p hp => ?_, fun j _ hj => ln0_at_mid h hj⟩
  rw [ln0_at_w h hp, ln0_at_last h, dotA_zero kept 0 fun i _ hi => ln0_at_mid h (by omega)]
  simp
theorem ln0_gl {w : Nat} {r : List Int} (h : r.length = w) : gl (ln0 w r) = 1 := by
  refine gl_one (x := at_ (ln0 w r) (2 * w)) (at_mem (by rw [ln0_len h]; omega)) ?_
  rw [ln0_at_last h]; rfl
theorem nl_mid {w k : Nat} {L : List Int} (hL : L.length = 2 * w + 1) {j : Nat} (hj : j < w) (hk : j ≠ k) : at_ (nl w k L) (w + j) = at_ L (w + j) := by
  have h0 : (L.dropLast ++ [0]).length = 2 * w + 1 := by rw [List.length_append, List.length_dropLast, hL]; simp
  have e : at_ (nl w k L) (w + j) = at_ (L.dropLast ++ [0]) (w + j) := by
    unfold at_ nl
    rw [List.getD_eq_getElem?_getD, List.getD_eq_getElem?_getD, List.getElem?_set_ne (by omega)]
  rw [e, at_lt (by rw [h0]; omega), at_lt (by omega), List.getElem_append_left (by rw [List.length_dropLast, hL]; omega), List.getElem_dropLast]
theorem nl_k {w k : Nat} {L : List Int} (hL : L.length = 2 * w + 1) (hk : k < w) : at_ (nl w k L) (w + k) = at_ L (2 * w) := by
  have h0 : (L.dropLast ++ [0]).length = 2 * w + 1 := by rw [List.length_append, List.length_dropLast, hL]; simp
  unfold nl
  rw [at_lt (by rw [List.length_set, h0]; omega), List.getElem_set_self]
theorem nl_made {w : Nat} {kept : List (List Int)} {r L : List Int} (h : MadeL w kept r L) (hL : L.length = 2 * w + 1) (hk : kept.length < w) : MadeS w (kept ++ [r]) (nl w kept.length L) := by
  obtain ⟨h1, h2⟩ := h
  refine ⟨fun p hp => ?_, fun j h3 h4 => ?_, nl_last hL hk⟩
  · rw [nl_at hL hk hp, h1 p hp, dotA_app]
    show _ = _ + (at_ (nl w kept.length L) (w + (0 + kept.length)) * at_ r p + 0)
    rw [Nat.zero_add, nl_k hL hk, dotA_cong (f := fun j => at_ (nl w kept.length L) (w + j)) (g := fun j => at_ L (w + j)) kept 0 fun i _ hi => nl_mid hL (by omega) (by omega)]
    omega
  · rw [List.length_append] at h3
    simp only [List.length_cons, List.length_nil] at h3
    rw [nl_mid hL h4 (by omega)]
    exact h2 j (by omega) h4
theorem dotA_neg {f : Nat → Int} {p : Nat} (xs : List (List Int)) (j : Nat) : dotA (fun i => 0 - f i) xs j p = 0 - dotA f xs j p := by
  have := dotA_lin (f := fun _ => 0) (g := f) (a := 0) (b := 1) (p := p) xs j
  simp only [Int.one_mul, Int.zero_mul] at this
  exact this
/-- what a row is made of, if its line is cleared -/
theorem told_made {w : Nat} {kept : List (List Int)} {r L : List Int} (h : MadeL w kept r L) (hz : ∀ p, p < w → at_ L p = 0) {p : Nat} (hp : p < w) : at_ L (2 * w) * at_ r p = dotA (fun j => 0 - at_ L (w + j)) kept 0 p := by
  have h1 := h.1 p hp
  rw [hz p hp] at h1
  rw [dotA_neg]
  omega
/-- .. in lowest terms -/
theorem told_gl {w : Nat} {kept : List (List Int)} {r L : List Int} {s : Int} (hs : s.natAbs = 1) (hL : L.length = 2 * w + 1) (h : MadeL w kept r L) (hz : ∀ p, p < w → at_ L p = 0) (hk : kept.length ≤ w) (h1 : gl L = 1) :
    gl (s * at_ L (2 * w) :: (List.range kept.length).map fun j => s * (0 - at_ L (w + j))) = 1 := by
  refine Nat.eq_one_of_dvd_one ?_
  rw [← h1]
  have hall : ∀ x ∈ (s * at_ L (2 * w) :: (List.range kept.length).map fun j => s * (0 - at_ L (w + j))), gl (s * at_ L (2 * w) :: (List.range kept.length).map fun j => s * (0 - at_ L (w + j))) ∣ x.natAbs := (glF_dvd _ 0).2
  generalize gl (s * at_ L (2 * w) :: (List.range kept.length).map fun j => s * (0 - at_ L (w + j))) = m at hall
  refine dvd_gl fun x hx => ?_
  obtain ⟨i, hi, rfl⟩ := List.getElem_of_mem hx
  rw [← at_lt hi]
  rw [hL] at hi
  by_cases c1 : i < w
  · rw [hz i c1]; exact Nat.dvd_zero m
  · by_cases c2 : i = 2 * w
    · have := hall _ List.mem_cons_self
      rw [Int.natAbs_mul, hs, Nat.one_mul] at this
      rw [c2]; exact this
    · obtain ⟨j, rfl⟩ : ∃ j, i = w + j := ⟨i - w, by omega⟩
      by_cases c3 : j < kept.length
      · have := hall _ (List.mem_cons_of_mem _ (List.mem_map.mpr ⟨j, List.mem_range.mpr c3, rfl⟩))
        rw [Int.natAbs_mul, hs, Nat.one_mul] at this
        have e : (0 - at_ L (w + j)).natAbs = (at_ L (w + j)).natAbs := by omega
        rw [e] at this
        exact this
      · rw [h.2 j (by omega) (by omega)]; exact Nat.dvd_zero m
end Z
end
end
section
set_option Elab.async false
set_option linter.all false
set_option maxRecDepth 100000
set_option maxHeartbeats 1000000
noncomputable section
namespace Z
open PySem PySem.Spec PyProof.Rows L2
theorem lS_made {w b : Nat} (hb0 : 1 ≤ b) : ∀ rows : List (List Int), (∀ r ∈ rows, RwOk w b r) → ∀ q ∈ (lS w rows).P, MadeS w (lS w rows).kept q.2 :=
  snoc_ind (fun _ q hq => nomatch hq) fun rows r ih hr q hq => by
    have hr0 : ∀ x ∈ rows, RwOk w b x := fun x hx => hr x (List.mem_append_left _ hx)
    have J0 := Jt.all hb0 rows hr0
    have J1 := Jt.all hb0 (rows ++ [r]) hr
    have hw : r.length = w := (hr r (List.mem_append_right _ List.mem_cons_self)).1
    have ih := ih hr0
    have l1 := J1.lot.ln
    have l2 := J1.lot.rm
    rw [lS_snoc] at hq l1 l2 ⊢
    unfold lstep at hq l1 l2 ⊢
    cases hp : fp ((redAll (lS w rows).P (ln0 w r)).take w) with
    | none =>
      rw [hp] at hq
      exact ih q hq
    | some p =>
      rw [hp] at hq l1 l2
      simp only at hq l1 l2 ⊢
      rw [List.length_append, List.length_append] at l1
      rw [List.length_append] at l2
      simp only [List.length_cons, List.length_nil] at l1 l2
      have hk : (lS w rows).kept.length < w := by omega
      rcases List.mem_append.mp hq with h | h
      · exact (ih q h).more hk r
      · rw [List.mem_singleton.mp h]
        have hlen : (redAll (lS w rows).P (ln0 w r)).length = 2 * w + 1 := redAll_len (fun q hq => (J0.lot.st q hq).1) (ln0_len hw)
        exact nl_made (MadeL.redAll (n := 2 * w + 1) (lS w rows).P (ln0 w r) (fun q hq => ⟨ih q hq, (J0.lot.st q hq).1⟩) (ln0_len hw) (ln0_made hw (by omega))) hlen hk
/-- the line of a row behind rows -/
theorem line_made {w b : Nat} (hb0 : 1 ≤ b) {rows : List (List Int)} (hr : ∀ r ∈ rows, RwOk w b r) {r : List Int} (hw : r.length = w) :
    MadeL w (lS w rows).kept r (redAll (lS w rows).P (ln0 w r)) ∧ gl (redAll (lS w rows).P (ln0 w r)) = 1 ∧ (redAll (lS w rows).P (ln0 w r)).length = 2 * w + 1 ∧ at_ (redAll (lS w rows).P (ln0 w r)) (2 * w) ≠ 0 := by
  have J0 := Jt.all hb0 rows hr
  have hkl : (lS w rows).kept.length ≤ w := by rw [← J0.lot.ln]; exact J0.lot.rm
  refine ⟨MadeL.redAll (n := 2 * w + 1) (lS w rows).P (ln0 w r) (fun q hq => ⟨lS_made hb0 rows hr q hq, (J0.lot.st q hq).1⟩) (ln0_len hw) (ln0_made hw hkl), gl_redAll (b := b) _ _ J0.lot.st (ln0_good hw) (ln0_gl hw), redAll_len (fun q hq => (J0.lot.st q hq).1) (ln0_len hw), ?_⟩
  have good : ∀ (P : List (Nat × List Int)) (L : List Int), StOk (2 * w) b P → Good (2 * w) L → Good (2 * w) (redAll P L) := fun P => by
    induction P with
    | nil => exact fun L _ h => h
    | cons q P ih => exact fun L hP h => ih _ (fun x hx => hP x (List.mem_cons_of_mem _ hx)) (let ⟨q1, q2, _, q4⟩ := hP q List.mem_cons_self; h.red q1 q2 q4)
  exact (good _ _ J0.lot.st (ln0_good hw)).2
end Z
end
end
section
set_option Elab.async false
set_option linter.all false
set_option maxRecDepth 100000
set_option maxHeartbeats 1000000
noncomputable section
namespace Z
open PySem PySem.Spec PyProof.Rows L2
theorem sIx_nat (n : Nat) (d k : Nat) (h : k ≤ n) : HT.sIx n d (some (k : Int)) = k := by
  rw [HT.sIx_nat, Nat.min_eq_left h]
theorem cutP_mid (xs : List PV) (a b : Nat) (h : a + b ≤ xs.length) : cutP xs (some (a : Int)) (some ((a + b : Nat) : Int)) = (xs.drop a).take b := by
  unfold cutP
  rw [sIx_nat _ _ a (by omega), sIx_nat _ _ (a + b) h]
  congr 1
  omega
theorem sli_mid (L : List Int) (a b : Nat) (S : Sto) (h : a + b ≤ L.length) : sliZ (rL L) (some (a : Int)) (some ((a + b : Nat) : Int)) S = .ok (rL ((L.drop a).take b)) S := by
  show Out.ok (PV.nd .lst (cutP (L.map .int) (some (a : Int)) (some ((a + b : Nat) : Int)))) S = _
  rw [cutP_mid _ _ _ (by rw [List.length_map]; exact h), ← List.map_drop, ← List.map_take]
  rfl
theorem drop_take_range (L : List Int) (a b : Nat) (h : a + b ≤ L.length) : (L.drop a).take b = (List.range b).map fun j => at_ L (a + j) := by
  refine List.ext_getElem (by rw [List.length_take, List.length_drop, List.length_map, List.length_range]; omega) fun i h1 h2 => ?_
  rw [List.length_map, List.length_range] at h2
  rw [List.getElem_take, List.getElem_drop, List.getElem_map, List.getElem_range, at_lt (by omega)]
/-- the divisor's sign, and what a told row is made of, as the program tells it -/
def sgn (x : Int) : Int := if 0 < x then 1 else -1
theorem sgn_abs (x : Int) : (sgn x).natAbs = 1 := by unfold sgn; split <;> rfl
theorem sgn_pos {x : Int} (h : x ≠ 0) : 1 ≤ sgn x * x := by
  unfold sgn
  split
  · omega
  · omega
def numsOf (w k : Nat) (L : List Int) : List Int := (List.range k).map fun j => sgn (at_ L (2 * w)) * (0 - at_ L (w + j))
def madeV (w k : Nat) (L : List Int) : PV := .nd .tup [.int (sgn (at_ L (2 * w)) * at_ L (2 * w)), rT (numsOf w k L)]
section
variable {w b : Nat} {kept : List (List Int)} {P : List (Nat × List Int)} {r : List Int}
theorem d_made_none {p : Nat} (h : LotOk w b kept P) (hr : r.length = w) (hw : w ≤ 7) (hb : Bd b r) (hb0 : 1 ≤ b) (hb1 : b ≤ 300) (hf : fp ((redAll P (ln0 w r)).take w) = some p) : d_Rows_made_of [lotV w kept P, rT r] [] = .ok .non [] := by
  refine dDef_ret _ _ rfl ?_ (Nat.le_refl _)
  unfold b_Rows_made_of
  show dSeq _ _ [some (lotV w kept P), some (rT r), none, none, none, none] [] = _
  have m1 : dMeth T0 0 (clo d_Rows_need_row) (dVar 0) (dCons (dVar 1) (dNil)) [some (lotV w kept P), some (rT r), none, none, none, none] [] = .ok .non [] := by
    show (if insOk T0 0 (lotV w kept P) [] = true then clo d_Rows_need_row [lotV w kept P, rT r] [] else .bad) = _
    rw [if_pos (insOk_lot w kept P [])]; exact clo_need [] rfl hr (by omega)
  have m2 : dMeth T0 0 (clo d_Rows_line_of) (dVar 0) (dCons (dVar 1) (dNil)) [some (lotV w kept P), some (rT r), none, none, none, none] [] = .ok (rL (redAll P (ln0 w r))) [] := by
    show (if insOk T0 0 (lotV w kept P) [] = true then clo d_Rows_line_of [lotV w kept P, rT r] [] else .bad) = _
    rw [if_pos (insOk_lot w kept P [])]; exact clo_line [] rfl h hr hw hb hb0 hb1
  rw [dSeq_ap, dExpr_ap, m1, st_ok, seq_nx, dSeq_ap, dSet_ap, m2, st_ok, seq_nx]
  simp only [List.set_cons_succ, List.set_cons_zero]
  generalize redAll P (ln0 w r) = L at hf ⊢
  have s3 : dFn d_first_place (dCons (dSli (dVar 2) (dNone) (dSome (dAttr T0 0 (dVar 0)))) (dNil)) [some (lotV w kept P), some (rT r), some (rL L), none, none, none] [] = .ok (.int (p : Nat)) [] := by
    rw [dFn_ap, dCons_ap, dSli_ap, dVar_s, dVar_s, dVar_0, bind_ok, dNone_ap, bind_ok, dSome_ap, dAttr_ap, dVar_0, bind_ok, getF_0, asI_ok, bind_ok, sli_to, bind_ok, dNil_ap, bind_ok, bind_ok, d_first, hf]
    rfl
  have s4 : dIfS (dB (dBin isntZ (dFn d_first_place (dCons (dSli (dVar 2) (dNone) (dSome (dAttr T0 0 (dVar 0)))) (dNil))) (dC .non))) (dRet (dC .non)) (dSkip) [some (lotV w kept P), some (rT r), some (rL L), none, none, none] [] = .ret .non [] := by
    have e : dB (dBin isntZ (dFn d_first_place (dCons (dSli (dVar 2) (dNone) (dSome (dAttr T0 0 (dVar 0)))) (dNil))) (dC .non)) [some (lotV w kept P), some (rT r), some (rL L), none, none, none] [] = .ok true [] := by
      rw [dB_ap, dBin_ap, s3, bind_ok, dC_ap, bind_ok]
      rfl
    show (dB _ _ _).st _ _ = _
    rw [e]
    rfl
  rw [dSeq_ap, s4]
  rfl
theorem lc_map {vs : List Nat} {di : DI} {i : Nat} {el : DE} {l : Loc} {S : Sto} (f : Int → Int) (xs : List Int) (hi : di l S = .ok ⟨xs.map .int, []⟩ S) (hl : xs.length ≤ 1000)
    (he : ∀ x ∈ xs, el (setZ (wipeZ l vs) [(i, .int x)]) S = .ok (.int (f x)) S) : dLc vs di (.nm i) dYes el l S = .ok (rL (xs.map f)) S := by
  have := dLc_pure (vs := vs) (di := di) (t := .nm i) (el := el) (l := l) (S := S) (it := ⟨xs.map .int, []⟩) (fun v => match v with
    | .int x => .int (f x)
    | _ => .non) hi (heldB_nil _) (by rw [List.length_map]; omega) (by
      intro v hv
      obtain ⟨x, hx, rfl⟩ := List.mem_map.mp hv
      exact ⟨_, asg1, he x hx⟩)
  rw [this, List.map_map]
  unfold rL
  rw [List.map_map]
  rfl
theorem d_made_some (h : LotOk w b kept P) (hr : r.length = w) (hw : w ≤ 7) (hb : Bd b r) (hb0 : 1 ≤ b) (hb1 : b ≤ 300) (hf : fp ((redAll P (ln0 w r)).take w) = none) : d_Rows_made_of [lotV w kept P, rT r] [] = .ok (madeV w kept.length (redAll P (ln0 w r))) [] := by
  have hL : (redAll P (ln0 w r)).length = 2 * w + 1 := redAll_len (fun q hq => (h.st q hq).1) (ln0_len hr)
  have hkl : kept.length ≤ w := by rw [← h.ln]; exact h.rm
  refine dDef_ret _ _ rfl ?_ (Nat.le_refl _)
  unfold b_Rows_made_of
  show dSeq _ _ [some (lotV w kept P), some (rT r), none, none, none, none] [] = _
  have m1 : dMeth T0 0 (clo d_Rows_need_row) (dVar 0) (dCons (dVar 1) (dNil)) [some (lotV w kept P), some (rT r), none, none, none, none] [] = .ok .non [] := by
    show (if insOk T0 0 (lotV w kept P) [] = true then clo d_Rows_need_row [lotV w kept P, rT r] [] else .bad) = _
    rw [if_pos (insOk_lot w kept P [])]; exact clo_need [] rfl hr (by omega)
  have m2 : dMeth T0 0 (clo d_Rows_line_of) (dVar 0) (dCons (dVar 1) (dNil)) [some (lotV w kept P), some (rT r), none, none, none, none] [] = .ok (rL (redAll P (ln0 w r))) [] := by
    show (if insOk T0 0 (lotV w kept P) [] = true then clo d_Rows_line_of [lotV w kept P, rT r] [] else .bad) = _
    rw [if_pos (insOk_lot w kept P [])]; exact clo_line [] rfl h hr hw hb hb0 hb1
  rw [dSeq_ap, dExpr_ap, m1, st_ok, seq_nx, dSeq_ap, dSet_ap, m2, st_ok, seq_nx]
  simp only [List.set_cons_succ, List.set_cons_zero]
  generalize redAll P (ln0 w r) = L at hf hL ⊢
  have s3 : dFn d_first_place (dCons (dSli (dVar 2) (dNone) (dSome (dAttr T0 0 (dVar 0)))) (dNil)) [some (lotV w kept P), some (rT r), some (rL L), none, none, none] [] = .ok .non [] := by
    rw [dFn_ap, dCons_ap, dSli_ap, dVar_s, dVar_s, dVar_0, bind_ok, dNone_ap, bind_ok, dSome_ap, dAttr_ap, dVar_0, bind_ok, getF_0, asI_ok, bind_ok, sli_to, bind_ok, dNil_ap, bind_ok, bind_ok, d_first, hf]
    rfl
  have s4 : dIfS (dB (dBin isntZ (dFn d_first_place (dCons (dSli (dVar 2) (dNone) (dSome (dAttr T0 0 (dVar 0)))) (dNil))) (dC .non))) (dRet (dC .non)) (dSkip) [some (lotV w kept P), some (rT r), some (rL L), none, none, none] [] = .nx [some (lotV w kept P), some (rT r), some (rL L), none, none, none] [] := by
    have e : dB (dBin isntZ (dFn d_first_place (dCons (dSli (dVar 2) (dNone) (dSome (dAttr T0 0 (dVar 0)))) (dNil))) (dC .non)) [some (lotV w kept P), some (rT r), some (rL L), none, none, none] [] = .ok false [] := by
      rw [dB_ap, dBin_ap, s3, bind_ok, dC_ap, bind_ok]
      rfl
    show (dB _ _ _).st _ _ = _
    rw [e]
    rfl
  rw [dSeq_ap, s4, seq_nx]
  have hk : dSome (dBin addP (dAttr T0 0 (dVar 0)) (dApp lenP (dCons (dAttr T0 1 (dVar 0)) (dNil)))) [some (lotV w kept P), some (rT r), some (rL L), none, none, none] [] = .ok (some ((w + kept.length : Nat) : Int)) [] := by
    rw [dSome_ap, dBin_ap, dAttr_ap, dVar_0, bind_ok, getF_0, bind_ok, dApp_ap, dCons_ap, dAttr_ap, dVar_0, bind_ok, getF_1, bind_ok, dNil_ap, bind_ok, bind_ok, lenP_nd_tup, bind_ok, List.length_map]
    rfl
  have s5 : dSet 3 (dLc [4] (dItV (dSli (dVar 2) (dSome (dAttr T0 0 (dVar 0))) (dSome (dBin addP (dAttr T0 0 (dVar 0)) (dApp lenP (dCons (dAttr T0 1 (dVar 0)) (dNil))))))) (.nm 4) (dYes) (dBin subP (dC (.int 0)) (dVar 4))) [some (lotV w kept P), some (rT r), some (rL L), none, none, none] [] = .nx [some (lotV w kept P), some (rT r), some (rL L), some (rL (((L.drop w).take kept.length).map (0 - ·))), none, none] [] := by
    have hi : dItV (dSli (dVar 2) (dSome (dAttr T0 0 (dVar 0))) (dSome (dBin addP (dAttr T0 0 (dVar 0)) (dApp lenP (dCons (dAttr T0 1 (dVar 0)) (dNil)))))) [some (lotV w kept P), some (rT r), some (rL L), none, none, none] [] = .ok ⟨((L.drop w).take kept.length).map .int, []⟩ [] := by
      unfold dItV
      rw [dSli_ap, dVar_s, dVar_s, dVar_0, bind_ok, dSome_ap, dAttr_ap, dVar_0, bind_ok, getF_0, asI_ok, bind_ok, hk, bind_ok, sli_mid L w kept.length [] (by omega), bind_ok]
      rfl
    have := lc_map (vs := [4]) (i := 4) (el := dBin subP (dC (.int 0)) (dVar 4)) (fun x => 0 - x) ((L.drop w).take kept.length) hi (by rw [List.length_take]; omega) (fun x hx => by
      simp only [setZ, wipeZ_cons, wipeZ_nil, List.set_cons_succ, List.set_cons_zero, List.foldl_cons, List.foldl_nil, dBin_ap, dC_ap, dVar_s, dVar_0, bind_ok, subP_int])
    rw [dSet_ap, this, st_ok]
    rfl
  rw [dSeq_ap, s5, seq_nx]
  have sl : subZ (rL L) (.int (-1)) [] = .ok (.int (at_ L (2 * w))) [] := sub_last hL []
  have s6 : dSet 5 (dIf (dB (dBin gtZ (dBin subZ (dVar 2) (dUn negP (dC (.int 1)))) (dC (.int 0)))) (dC (.int 1)) (dUn negP (dC (.int 1)))) [some (lotV w kept P), some (rT r), some (rL L), some (rL (((L.drop w).take kept.length).map (0 - ·))), none, none] [] = .nx [some (lotV w kept P), some (rT r), some (rL L), some (rL (((L.drop w).take kept.length).map (0 - ·))), none, some (.int (sgn (at_ L (2 * w))))] [] := by
    have hn : dUn negP (dC (.int 1)) [some (lotV w kept P), some (rT r), some (rL L), some (rL (((L.drop w).take kept.length).map (0 - ·))), none, none] [] = .ok (.int (-1)) [] := rfl
    have hc : dB (dBin gtZ (dBin subZ (dVar 2) (dUn negP (dC (.int 1)))) (dC (.int 0))) [some (lotV w kept P), some (rT r), some (rL L), some (rL (((L.drop w).take kept.length).map (0 - ·))), none, none] [] = .ok (decide (at_ L (2 * w) > 0)) [] := by
      rw [dB_ap, dBin_ap, dBin_ap, dVar_s, dVar_s, dVar_0, bind_ok, hn, bind_ok, sl, bind_ok, dC_ap, bind_ok]
      rfl
    rw [dSet_ap, dIf_ap, hc, bind_ok]
    by_cases q : 0 < at_ L (2 * w)
    · have e : sgn (at_ L (2 * w)) = 1 := by unfold sgn; rw [if_pos q]
      rw [if_pos (decide_eq_true q), dC_ap, st_ok, e]
      rfl
    · have e : sgn (at_ L (2 * w)) = -1 := by unfold sgn; rw [if_neg q]
      rw [if_neg (by simpa using q), hn, st_ok, e]
      rfl
  rw [dSeq_ap, s6, seq_nx]
  have ms : ∀ x : Int, mulT (.int (sgn (at_ L (2 * w)))) (.int x) [] = .ok (.int (sgn (at_ L (2 * w)) * x)) [] := fun x => by
    rw [mulT_int, mulZ_int, if_pos]
    refine .inl ?_
    rw [sgn_abs]
    decide
  have e1 : dBin mulT (dVar 5) (dBin subZ (dVar 2) (dUn negP (dC (.int 1)))) [some (lotV w kept P), some (rT r), some (rL L), some (rL (((L.drop w).take kept.length).map (0 - ·))), none, some (.int (sgn (at_ L (2 * w))))] [] = .ok (.int (sgn (at_ L (2 * w)) * at_ L (2 * w))) [] := by
    have hn : dUn negP (dC (.int 1)) [some (lotV w kept P), some (rT r), some (rL L), some (rL (((L.drop w).take kept.length).map (0 - ·))), none, some (.int (sgn (at_ L (2 * w))))] [] = .ok (.int (-1)) [] := rfl
    rw [dBin_ap, dVar_s, dVar_s, dVar_s, dVar_s, dVar_s, dVar_0, bind_ok, dBin_ap, dVar_s, dVar_s, dVar_0, bind_ok, hn, bind_ok, sl, bind_ok, ms]
  have e2 : dLc [4] (dItV (dVar 3)) (.nm 4) (dYes) (dBin mulT (dVar 5) (dVar 4)) [some (lotV w kept P), some (rT r), some (rL L), some (rL (((L.drop w).take kept.length).map (0 - ·))), none, some (.int (sgn (at_ L (2 * w))))] [] = .ok (rL (numsOf w kept.length L)) [] := by
    have := lc_map (vs := [4]) (i := 4) (di := dItV (dVar 3)) (el := dBin mulT (dVar 5) (dVar 4)) (l := [some (lotV w kept P), some (rT r), some (rL L), some (rL (((L.drop w).take kept.length).map (0 - ·))), none, some (.int (sgn (at_ L (2 * w))))]) (S := []) (fun x => sgn (at_ L (2 * w)) * x) (((L.drop w).take kept.length).map (0 - ·)) rfl (by rw [List.length_map, List.length_take]; omega) (fun x hx => by
      simp only [setZ, wipeZ_cons, wipeZ_nil, List.set_cons_succ, List.set_cons_zero, List.foldl_cons, List.foldl_nil, dBin_ap, dVar_s, dVar_0, bind_ok, ms])
    rw [this, drop_take_range L w kept.length (by omega), List.map_map, List.map_map]
    rfl
  have e3 : tupP [rL (numsOf w kept.length L)] [] = .ok (rT (numsOf w kept.length L)) [] := rfl
  show (dTup _ _ _).st _ _ = _
  rw [dTup_ap, dCons_ap, e1, bind_ok, dCons_ap, dApp_ap, dCons_ap, e2, bind_ok, dNil_ap, bind_ok, bind_ok, e3, bind_ok, dNil_ap, bind_ok, bind_ok, bind_ok, mkNd_ok [] (by simp)]
  rfl
end
end Z
end
end
section
set_option Elab.async false
set_option linter.all false
set_option maxRecDepth 100000
set_option maxHeartbeats 2000000
set_option exponentiation.threshold 10000
/-! K27O: the law's draws. -/
noncomputable section
namespace Z
open PySem PySem.Spec PyProof.Rows L2

theorem RwOk.mono {w b c : Nat} {r : List Int} (h : RwOk w b r) (hb : b ≤ c) : RwOk w c r := ⟨h.1, fun x hx => Nat.lt_of_lt_of_le (h.2 x hx) (Nat.pow_le_pow_right (by decide) hb)⟩
def CH : List Int := [0, 0, 1, -1, 2, -3, 6, 10]
theorem pick_int (dr : DrOk d__law_draw) {n : Nat} {T S : Sto} {xs : List Int} (h : PenS n T S) (hn : n ≤ 100000) (hx : xs ≠ []) (hx2 : xs.length ≤ 1000) : ∃ x S', d__law_pick [.ref 0, .nd .lst (xs.map .int)] S = .ok (.int x) S' ∧ x ∈ xs ∧ PenS (n + 1) T S' := by
  obtain ⟨v, S', h1, h2, h3⟩ := pick_ok dr (xs := xs.map PV.int) h hn (by simpa using hx) (by rw [List.length_map]; omega)
  obtain ⟨x, hx, rfl⟩ := List.mem_map.mp h2
  exact ⟨x, S', h1, hx, h3⟩
theorem PenS.isSome {n : Nat} {T S : Sto} (h : PenS n T S) (hT : T.all Option.isSome = true) : S.all Option.isSome = true := by
  obtain ⟨cs, a, lf, rfl, _⟩ := h
  show (true && T.all Option.isSome) = true
  rw [hT]; rfl
def CHW (wd : Bool) : List Int := [0, 0, 1, -1, 2, -3, 6, 10] ++ (if wd = true then [10 ^ 39, -(10 ^ 40) + 1, 3 * 10 ^ 30] else [])
theorem chw_le (wd : Bool) : ∀ v ∈ CHW wd, v.natAbs ≤ 10 ^ 40 := by cases wd <;> decide
theorem chw_ne (wd : Bool) : CHW wd ≠ [] := by cases wd <;> decide
theorem chw_len (wd : Bool) : (CHW wd).length ≤ 1000 := by cases wd <;> decide
theorem d_row (dr : DrOk d__law_draw) (wd : Bool) {w n : Nat} {T S : Sto} (h : PenS n T S) (hw : w ≤ 7) (hn : n + 7 ≤ 100000) : ∃ r S', d__law_row [.ref 0, .int (w : Nat), .bl wd] S = .ok (rT r) S' ∧ RwOk w 140 r ∧ PenS (n + 7) T S' := by
  obtain ⟨ws, S', f1, f2, f3, f4⟩ := dLc_inv (vs := [4]) (di := dItA rngP (dCons (dVar 1) (dNil))) (t := .nm 4) (el := dFn d__law_pick (dCons (dVar 0) (dCons (dVar 3) (dNil)))) (l := [some (.ref 0), some (.int (w : Nat)), some (.bl wd), some (.nd .lst ((CHW wd).map .int)), none]) (S := S) (items := rngZ 0 w)
    (fun v => ∃ i : Int, v = .int i ∧ i.natAbs ≤ 10 ^ 40) (fun i S => PenS (n + i) T S ∧ i ≤ w) (dItA_of (xs := [.int (w : Nat)]) rfl (rngP_nat w S (Nat.lt_of_le_of_lt hw (by decide)))) (by rw [rngZ_len]; omega) ⟨h, Nat.zero_le _⟩ (by
      rintro i x S hx ⟨hP, hi⟩
      obtain ⟨hi2, rfl⟩ := rngZ_get hx
      obtain ⟨v, S', g1, g2, g3⟩ := pick_int dr (xs := (CHW wd)) hP (by omega) (chw_ne wd) (chw_len wd)
      refine ⟨_, .int v, S', asg1, dFn_of (xs := [.ref 0, .nd .lst ((CHW wd).map .int)]) rfl g1, ⟨v, rfl, ?_⟩, g3, hi2⟩
      have : ∀ v ∈ CHW wd, v.natAbs ≤ 10 ^ 40 := chw_le wd
      exact this v g2)
  rw [rngZ_len] at f2 f4
  obtain ⟨r, rfl, r2, r3⟩ := all_ints (B := 10 ^ 40) ws f3
  refine ⟨r, S', ?_, ⟨by rw [r2]; exact f2, fun x hx => Nat.lt_of_le_of_lt (r3 x hx) (by decide)⟩, f4.1.mono (by omega)⟩
  refine dDef_ret _ _ rfl ?_ (by rw [f4.1.len, h.len]; exact Nat.le_refl _)
  unfold b__law_row
  show dSeq _ _ [some (.ref 0), some (.int (w : Nat)), some (.bl wd), none, none] S = _
  have s1 : dSet 3 (dBin addP (dLst (dCons (dC (.int 0)) (dCons (dC (.int 0)) (dCons (dC (.int 1)) (dCons (dUn negP (dC (.int 1))) (dCons (dC (.int 2)) (dCons (dUn negP (dC (.int 3))) (dCons (dC (.int 6)) (dCons (dC (.int 10)) (dNil)))))))))) (dIf (dTru (dVar 2)) (dLst (dCons (dBin powP (dC (.int 10)) (dC (.int 39))) (dCons (dBin addP (dUn negP (dBin powP (dC (.int 10)) (dC (.int 40)))) (dC (.int 1))) (dCons (dBin mulT (dC (.int 3)) (dBin powP (dC (.int 10)) (dC (.int 30)))) (dNil))))) (dLst (dNil)))) [some (.ref 0), some (.int (w : Nat)), some (.bl wd), none, none] S = .nx [some (.ref 0), some (.int (w : Nat)), some (.bl wd), some (.nd .lst ((CHW wd).map .int)), none] S := by cases wd <;> kernel_rfl
  rw [seq_of s1, dRet_ap, dApp_ap, dCons_ap, f1, bind_ok, dNil_ap, bind_ok, bind_ok, tupP_lst]
  rfl
def CM : List Int := [0, 1, -1, 2, 5]
theorem add_lc {c : Int} {L st : List Int} {vs : List Nat} {i j : Nat} {l : Loc} {S : Sto} {di : DI} {el : DE} (hi : di l S = .ok ⟨(L.zip st).map fun p => .nd .tup [.int p.1, .int p.2], []⟩ S) (hl : L.length ≤ 16777216)
    (he : ∀ x y : Int, x ∈ L → y ∈ st → el (setZ (wipeZ l vs) [(i, .int x), (j, .int y)]) S = .ok (.int (x + c * y)) S) : dLc vs di (.tp [.nm i, .nm j]) dYes el l S = .ok (rL ((L.zip st).map fun p => p.1 + c * p.2)) S := by
  have := dLc_pure (vs := vs) (di := di) (t := .tp [.nm i, .nm j]) (el := el) (l := l) (S := S) (it := ⟨(L.zip st).map fun p => .nd .tup [.int p.1, .int p.2], []⟩)
    (fun x => match x with | .nd .tup [.int x, .int y] => .int (x + c * y) | _ => .non) hi (heldB_nil _) (by rw [List.length_map, List.length_zip]; omega) (by
      intro x hx
      obtain ⟨p, hp, rfl⟩ := List.mem_map.mp hx
      obtain ⟨p1, p2⟩ := List.of_mem_zip (a := p.1) (b := p.2) hp
      exact ⟨_, asg2, he p.1 p.2 p1 p2⟩)
  rw [this]
  unfold rL
  rw [List.map_map, List.map_map]
  rfl
theorem mul_rT (L st : List Int) (S : Sto) : zipP [rL L, rT st] S = .ok ⟨(L.zip st).map fun p => .nd .tup [.int p.1, .int p.2], []⟩ S := by
  have h1 : itOf (rL L) S = .ok ⟨L.map .int, []⟩ S := rfl
  have h2 : itOf (rT st) S = .ok ⟨st.map .int, []⟩ S := rfl
  unfold zipP
  simp only [h1, h2, zipZ_map, List.append_nil]
theorem d_mixed (dr : DrOk d__law_draw) {w b n : Nat} {T S : Sto} {sq : PV} {rows : List (List Int)} {held : List (PV × Kd × List PV)} (h : PenS n T S) (hw : w ≤ 7) (hn : n + 7 ≤ 100000) (hb : b ≤ 250) (hit : ∀ m S', PenS m T S' → itOf sq S' = .ok ⟨rows.map rT, held⟩ S' ∧ heldB held S' = true) (hl : rows.length ≤ 7) (hr : ∀ r ∈ rows, RwOk w b r) :
    ∃ r S', d__law_mixed [.ref 0, sq, .int (w : Nat)] S = .ok (rT r) S' ∧ RwOk w (b + 6) r ∧ PenS (n + 7) T S' := by
  obtain ⟨hi0, hh0⟩ := hit n S h
  obtain ⟨l', S', f1, ⟨cur, o4, o5, o6, o7, rfl, f2, f3⟩, f4⟩ := forZ_inv (t := .nm 4) (hs := held) (b := dSeq (dSet 5 (dFn d__law_pick (dCons (dVar 0) (dCons (dLst (dCons (dC (.int 0)) (dCons (dC (.int 1)) (dCons (dUn negP (dC (.int 1))) (dCons (dC (.int 2)) (dCons (dC (.int 5)) (dNil))))))) (dNil))))) (dSet 3 (dLc [6, 7] (dItA zipP (dCons (dVar 3) (dCons (dVar 4) (dNil)))) (.tp [.nm 6, .nm 7]) (dYes) (dBin addP (dVar 6) (dBin mulT (dVar 5) (dVar 7))))))
    (fun i l S => (∃ cur o4 o5 o6 o7, l = [some (.ref 0), some sq, some (.int (w : Nat)), some (rL cur), o4, o5, o6, o7] ∧ cur.length = w ∧ ∀ x ∈ cur, x.natAbs ≤ i * (5 * 2 ^ b)) ∧ PenS (n + i) T S) (rows.map rT) 0 [some (.ref 0), some sq, some (.int (w : Nat)), some (rL (List.replicate w 0)), none, none, none, none] S ⟨⟨List.replicate w 0, none, none, none, none, rfl, by simp, fun x hx => by rw [(List.mem_replicate.mp hx).2]; simp⟩, h⟩ (by
      rintro i x l S hx ⟨⟨cur, o4, o5, o6, o7, rfl, g1, g2⟩, hP⟩
      rw [Nat.zero_add] at *
      have hil : i < rows.length := by
        have := (List.getElem?_eq_some_iff.mp hx).1
        rwa [List.length_map] at this
      rw [List.getElem?_map, Option.map_eq_some_iff] at hx
      obtain ⟨r, hi, rfl⟩ := hx
      obtain ⟨hrl, hrb⟩ := hr r (List.mem_of_getElem? hi)
      obtain ⟨c, S', q1, q2, q3⟩ := pick_int dr (xs := CM) hP (by omega) (by decide) (by decide)
      have hc : c.natAbs ≤ 5 := by
        have : ∀ v ∈ CM, v.natAbs ≤ 5 := by decide
        exact this c q2
      have b100 : ∀ x : Nat, x < 2 ^ b → x < 2 ^ 100000 := fun x hx => Nat.lt_of_lt_of_le hx (Nat.pow_le_pow_right (by decide) (by omega))
      have s1 : dSet 5 (dFn d__law_pick (dCons (dVar 0) (dCons (dLst (dCons (dC (.int 0)) (dCons (dC (.int 1)) (dCons (dUn negP (dC (.int 1))) (dCons (dC (.int 2)) (dCons (dC (.int 5)) (dNil))))))) (dNil)))) [some (.ref 0), some sq, some (.int (w : Nat)), some (rL cur), some (rT r), o5, o6, o7] S = .nx [some (.ref 0), some sq, some (.int (w : Nat)), some (rL cur), some (rT r), some (.int c), o6, o7] S' := dSet_of (dFn_of (xs := [.ref 0, .nd .lst (CM.map .int)]) (by kernel_rfl) q1)
      have lc := add_lc (c := c) (L := cur) (st := r) (vs := [6, 7]) (i := 6) (j := 7) (l := [some (.ref 0), some sq, some (.int (w : Nat)), some (rL cur), some (rT r), some (.int c), o6, o7]) (S := S') (di := dItA zipP (dCons (dVar 3) (dCons (dVar 4) (dNil)))) (el := dBin addP (dVar 6) (dBin mulT (dVar 5) (dVar 7)))
        (dItA_of (xs := [rL cur, rT r]) rfl (mul_rT cur r S')) (by rw [g1]; omega) (fun x y hx hy => by
          have m1 := mul_small (i := c) (j := y) (lt_100000 (n := 0) (b := 100) (Nat.lt_of_le_of_lt hc (by decide)) (by decide)) (b100 _ (hrb y hy)) S'
          simp only [setZ, wipeZ_cons, wipeZ_nil, List.set_cons_succ, List.set_cons_zero, List.foldl_cons, List.foldl_nil, dBin_ap, dVar_s, dVar_0, bind_ok, m1, addP_int])
      refine ⟨_, [some (.ref 0), some sq, some (.int (w : Nat)), some (rL ((cur.zip r).map fun p => p.1 + c * p.2)), some (rT r), some (.int c), o6, o7], S', asg1, ?_, (hit _ _ q3).2, ⟨_, _, _, _, _, rfl, by rw [List.length_map, List.length_zip, g1, hrl]; simp, fun x hx => ?_⟩, q3⟩
      · show dSeq _ _ [some (.ref 0), some sq, some (.int (w : Nat)), some (rL cur), some (rT r), o5, o6, o7] S = _
        rw [seq_of s1]
        exact dSet_of lc
      · obtain ⟨p, hp, rfl⟩ := List.mem_map.mp hx
        obtain ⟨p1, p2⟩ := List.of_mem_zip (a := p.1) (b := p.2) hp
        have a1 := g2 _ p1
        have a2 := hrb _ p2
        have a3 : (c * p.2).natAbs ≤ 5 * 2 ^ b := by
          rw [Int.natAbs_mul]
          exact Nat.mul_le_mul hc (Nat.le_of_lt a2)
        have a4 : (p.1 + c * p.2).natAbs ≤ p.1.natAbs + (c * p.2).natAbs := Int.natAbs_add_le _ _
        rw [Nat.succ_mul]
        omega)
  rw [Nat.zero_add, List.length_map] at f3 f4
  refine ⟨cur, S', ?_, ⟨f2, fun x hx => ?_⟩, f4.mono (by omega)⟩
  · refine dDef_ret _ _ rfl ?_ (by rw [f4.len, h.len]; exact Nat.le_refl _)
    unfold b__law_mixed
    show dSeq _ _ [some (.ref 0), some sq, some (.int (w : Nat)), none, none, none, none, none] S = _
    have s1 : dSet 3 (dBin mulT (dLst (dCons (dC (.int 0)) (dNil))) (dVar 2)) [some (.ref 0), some sq, some (.int (w : Nat)), none, none, none, none, none] S = .nx [some (.ref 0), some sq, some (.int (w : Nat)), some (rL (List.replicate w 0)), none, none, none, none] S := by
      rcases (by omega : w = 0 ∨ w = 1 ∨ w = 2 ∨ w = 3 ∨ w = 4 ∨ w = 5 ∨ w = 6 ∨ w = 7) with rfl | rfl | rfl | rfl | rfl | rfl | rfl | rfl <;> kernel_rfl
    have hi : dItV (dVar 1) [some (.ref 0), some sq, some (.int (w : Nat)), some (rL (List.replicate w 0)), none, none, none, none] S = .ok ⟨rows.map rT, held⟩ S := by
      rw [dItV_ap, dVar_s, dVar_0, bind_ok, hi0]
    rw [seq_of s1, dSeq_ap, dFor_eq hi hh0, f1, seq_nx, dRet_ap, dApp_ap, dCons_ap, dVar_s, dVar_s, dVar_s, dVar_0, bind_ok, dNil_ap, bind_ok, bind_ok]
    rfl
  · have := f3 x hx
    have e : 2 ^ (b + 6) = 64 * 2 ^ b := by rw [Nat.pow_add, Nat.mul_comm]
    rw [e]
    have h2 : rows.length * (5 * 2 ^ b) ≤ 7 * (5 * 2 ^ b) := Nat.mul_le_mul_right _ hl
    have h3 : 0 < 2 ^ b := Nat.pow_pos (by decide)
    omega
end Z
end
end
section
set_option Elab.async false
set_option linter.all false
set_option maxRecDepth 100000
set_option maxHeartbeats 2000000
set_option exponentiation.threshold 10000
/-! K27L: lots compared. -/
noncomputable section
namespace Z
open PySem PySem.Spec PyProof.Rows L2
theorem Jt.step_more {w b : Nat} (hb0 : 1 ≤ b) (hb1 : b ≤ 300) (hw1 : 1 ≤ w) (hw : w ≤ 7) {rows : List (List Int)} {r : List Int} (hr : ∀ q ∈ rows ++ [r], RwOk w b q) : d_Rows_more [lotV w (lS w rows).kept (lS w rows).P, rT r] [] = .ok (lotV w (lS w (rows ++ [r])).kept (lS w (rows ++ [r])).P) [] := by
  have J := Jt.all hb0 rows fun q h => hr q (List.mem_append_left _ h)
  have J2 := Jt.all hb0 (rows ++ [r]) hr
  obtain ⟨hrl, hrb⟩ := hr r (List.mem_append_right _ (List.mem_singleton.mpr rfl))
  rw [lS_snoc] at J2 ⊢
  generalize lS w rows = s at J J2 ⊢
  cases q : fp ((redAll s.P (ln0 w r)).take w) with
  | none =>
    have e1 : lstep w s r = s := by unfold lstep; rw [q]
    rw [e1]
    exact d_more_none J.lot hrl hw hrb hb0 hb1 q
  | some p =>
    have e1 : lstep w s r = ⟨s.kept ++ [r], s.P ++ [(p, nl w s.kept.length (redAll s.P (ln0 w r)))]⟩ := by unfold lstep; rw [q]
    rw [e1] at J2 ⊢
    have hrm := J2.lot.rm
    rw [List.length_append] at hrm
    exact d_more_some J.lot hrl hw1 hw hrb hb0 hb1 hrm q
theorem datL_rT : ∀ L : List (List Int), datL (L.map rT) = some (L.map fun r => PyData.tuple (r.map .int))
  | [] => rfl
  | r :: L => by
    rw [List.map_cons, datL, datL_rT L]
    simp [rT, dat, datL_ints]
theorem shaped_rT (L : List (List Int)) : SeqAt.shaped (.list (L.map fun r => PyData.tuple (r.map .int))) = true ∧ SeqAt.shaped (.tuple (L.map fun r => PyData.tuple (r.map .int))) = true := by
  have h : PyData.canLayAll0 (L.map fun r => PyData.tuple (r.map .int)) = true ∧ PyData.depthAll (L.map fun r => PyData.tuple (r.map .int)) ≤ 1 := by
    induction L with
    | nil => exact ⟨rfl, by rw [List.map_nil, PyData.depthAll]; omega⟩
    | cons r L ih =>
      rw [List.map_cons, PyData.canLayAll0, PyData.depthAll, ih.1]
      have ih2 := ih.2
      simp [PyData.canLay0, PyData.depth, canLay_ints, depth_ints] at ih2 ⊢ <;> omega
  unfold SeqAt.shaped
  rw [PyData.canLay0, PyData.depth, PyData.canLay0, PyData.depth, h.1, Bool.true_and]
  exact ⟨decide_eq_true (by have := h.2; omega), decide_eq_true (by have := h.2; omega)⟩
theorem eqv_rT : ∀ L M : List (List Int), PyData.eqvAll (L.map fun r => PyData.tuple (r.map .int)) (M.map fun r => PyData.tuple (r.map .int)) = decide (L = M)
  | [], [] => by rw [List.map_nil, PyData.eqvAll]; simp
  | [], m :: ms => by rw [List.map_nil, List.map_cons, PyData.eqvAll]; simp
  | n :: ns, [] => by rw [List.map_nil, List.map_cons, PyData.eqvAll]; simp
  | n :: ns, m :: ms => by
    rw [List.map_cons, List.map_cons, PyData.eqvAll, PyData.eqv, eqv_ints, eqv_rT ns ms]
    by_cases h : n = m <;> simp [h]
theorem eqZ_rT (L M : List (List Int)) (S : Sto) : eqZ (.nd .lst (L.map rT)) (.nd .lst (M.map rT)) S = .ok (.bl (decide (L = M))) S := by
  show eqD (.nd .lst (L.map rT)) (.nd .lst (M.map rT)) S = _
  unfold eqD datS view
  simp only [dat, datL_rT, Option.map_some, (shaped_rT L).1, (shaped_rT M).1, and_self, if_true, PyData.eqv, eqv_rT]
theorem eqZ_rTt (L M : List (List Int)) (S : Sto) : eqZ (.nd .tup (L.map rT)) (.nd .tup (M.map rT)) S = .ok (.bl (decide (L = M))) S := by
  show eqD (.nd .tup (L.map rT)) (.nd .tup (M.map rT)) S = _
  unfold eqD datS view
  simp only [dat, datL_rT, Option.map_some, (shaped_rT L).2, (shaped_rT M).2, and_self, if_true, PyData.eqv, eqv_rT]
theorem neZ_rT0 (L : List (List Int)) (S : Sto) : neZ (.nd .lst (L.map rT)) (.nd .lst []) S = .ok (.bl (!decide (L = []))) S := by
  rw [neZ_nil (datL_rT L) (shaped_rT L).1]
  cases L <;> rfl
theorem eqZ_rT0 (L : List (List Int)) (S : Sto) : eqZ (.nd .lst (L.map rT)) (.nd .lst []) S = .ok (.bl (decide (L = []))) S := eqZ_rT L [] S
end Z
end
end
section
set_option Elab.async false
set_option linter.all false
set_option maxRecDepth 100000
set_option maxHeartbeats 2000000
set_option exponentiation.threshold 10000
/-! K27P: the law's rows. -/
noncomputable section
namespace Z
open PySem PySem.Spec PyProof.Rows L2

theorem eqZ_ref0 {n : Nat} {L : List (List Int)} {S : Sto} (h : S[n]? = some (some (.lst, L.map rT))) : eqZ (.ref n) (.nd .lst []) S = .ok (.bl (decide (L = []))) S := by
  rw [← eqZ_rT0 L S]
  show eqD (.ref n) (.nd .lst []) S = eqD (.nd .lst (L.map rT)) (.nd .lst []) S
  unfold eqD datS
  rw [view_ref h]
  rfl
def frB : DS := dSeq (dSet 6 (dOr (dBin eqZ (dVar 4) (dLst (dNil))) (dBin gtZ (dFn d__law_draw (dCons (dVar 0) (dCons (dC (.int 3)) (dNil)))) (dC (.int 0))))) (dExpr (dMet "list" appP (dVar 4) (dCons (dIf (dTru (dVar 6)) (dFn d__law_row (dCons (dVar 0) (dCons (dVar 1) (dCons (dVar 3) (dNil))))) (dFn d__law_mixed (dCons (dVar 0) (dCons (dVar 4) (dCons (dVar 1) (dNil)))))) dNil)))
theorem fr_turn (dr : DrOk d__law_draw) (wd : Bool) {w n i : Nat} {N : Int} {S : Sto} {rows : List (List Int)} {o5 o6 : Option PV} (hw : w ≤ 7) (hn : n + 8 ≤ 100000) (hi : i ≤ 7) (hl : rows.length = i) (hr : ∀ r ∈ rows, RwOk w (140 + 6 * i) r) (hP : PenS n [some (.lst, rows.map rT)] S) :
    ∃ r o6' S', frB [some (.ref 0), some (.int (w : Nat)), some (.int N), some (.bl wd), some (.ref 1), o5, o6] S = .nx [some (.ref 0), some (.int (w : Nat)), some (.int N), some (.bl wd), some (.ref 1), o5, o6'] S' ∧ RwOk w (140 + 6 * (i + 1)) r ∧ PenS (n + 8) [some (.lst, (rows ++ [r]).map rT)] S' := by
  -- whether it is drawn afresh
  have hS1 : S[1]? = some (some (.lst, rows.map rT)) := by rw [hP.get 0]; rfl
  have hm0 : ∀ S, mkNd .lst [] S = .ok (.nd .lst []) S := fun S => rfl
  obtain ⟨fr, S1, f1, P1⟩ : ∃ fr S1, dSet 6 (dOr (dBin eqZ (dVar 4) (dLst (dNil))) (dBin gtZ (dFn d__law_draw (dCons (dVar 0) (dCons (dC (.int 3)) (dNil)))) (dC (.int 0)))) [some (.ref 0), some (.int (w : Nat)), some (.int N), some (.bl wd), some (.ref 1), o5, o6] S = .nx [some (.ref 0), some (.int (w : Nat)), some (.int N), some (.bl wd), some (.ref 1), o5, some (.bl fr)] S1 ∧ PenS (n + 1) [some (.lst, rows.map rT)] S1 := by
    by_cases q : rows = []
    · refine ⟨true, S, ?_, hP.mono (by omega)⟩
      refine dSet_of (v := .bl true) ?_
      have ht : truP (.bl true) S = .ok true S := rfl
      rw [dOr_ap, dBin_ap, dVar_s, dVar_s, dVar_s, dVar_s, dVar_0, bind_ok, dLst_ap, dNil_ap, bind_ok, hm0, bind_ok, eqZ_ref0 hS1, decide_eq_true q, bind_ok, ht, bind_ok, if_pos rfl]
    · obtain ⟨v, S', g1, g2, g3, g4⟩ := dr n _ S 3 hP (by omega) (by decide) (by decide)
      refine ⟨decide (0 < v), S', ?_, g4⟩
      refine dSet_of (v := .bl (decide (0 < v))) ?_
      have ht : truP (.bl false) S = .ok false S := rfl
      rw [dOr_ap, dBin_ap, dVar_s, dVar_s, dVar_s, dVar_s, dVar_0, bind_ok, dLst_ap, dNil_ap, bind_ok, hm0, bind_ok, eqZ_ref0 hS1, decide_eq_false q, bind_ok, ht, bind_ok, if_neg (by decide), dBin_ap, dFn_of (xs := [.ref 0, .int 3]) rfl g1, bind_ok, dC_ap, bind_ok, gtZ_int]
  -- the row
  obtain ⟨r, S2, f2, hr2, P2⟩ : ∃ r S2, dIf (dTru (dVar 6)) (dFn d__law_row (dCons (dVar 0) (dCons (dVar 1) (dCons (dVar 3) (dNil))))) (dFn d__law_mixed (dCons (dVar 0) (dCons (dVar 4) (dCons (dVar 1) (dNil))))) [some (.ref 0), some (.int (w : Nat)), some (.int N), some (.bl wd), some (.ref 1), o5, some (.bl fr)] S1 = .ok (rT r) S2 ∧ RwOk w (140 + 6 * (i + 1)) r ∧ PenS (n + 1 + 7) [some (.lst, rows.map rT)] S2 := by
    have ht : truP (.bl fr) S1 = .ok fr S1 := rfl
    cases fr with
    | true =>
      obtain ⟨r, S2, g1, g2, g3⟩ := d_row dr wd P1 hw (by omega)
      refine ⟨r, S2, ?_, g2.mono (by omega), g3⟩
      rw [dIf_ap, dTru_ap, dVar_s, dVar_s, dVar_s, dVar_s, dVar_s, dVar_s, dVar_0, bind_ok, ht, bind_ok, if_pos rfl]
      exact dFn_of (xs := [.ref 0, .int (w : Nat), .bl wd]) rfl g1
    | false =>
      obtain ⟨r, S2, g1, g2, g3⟩ := d_mixed dr (w := w) (b := 140 + 6 * i) (sq := .ref 1) (rows := rows) (held := [(.ref 1, (.lst, rows.map rT))]) P1 hw (by omega) (by omega) (fun m S' h => by
        have hS : S'[1]? = some (some (.lst, rows.map rT)) := by rw [h.get 0]; rfl
        exact ⟨by simp only [itOf, seqIt, view_ref hS, hold_ref], heldB_of fun p hp => by rw [List.mem_singleton.mp hp]; exact view_ref hS⟩) (by omega) hr
      refine ⟨r, S2, ?_, g2.mono (by omega), g3⟩
      rw [dIf_ap, dTru_ap, dVar_s, dVar_s, dVar_s, dVar_s, dVar_s, dVar_s, dVar_0, bind_ok, ht, bind_ok, if_neg (by decide)]
      exact dFn_of (xs := [.ref 0, .ref 1, .int (w : Nat)]) rfl g1
  have hS2 : S2[1]? = some (some (.lst, rows.map rT)) := by rw [P2.get 0]; rfl
  have hty : tyOk "list" (.ref 1) S1 = true := by
    have hS : S1[1]? = some (some (.lst, rows.map rT)) := by rw [P1.get 0]; rfl
    obtain ⟨cs, a, lf, rfl⟩ := pn_cons P1
    rfl
  have hap := appP_ok' (y := rT r) hS2 (by rw [List.length_map]; omega)
  refine ⟨r, some (.bl fr), S2.set 1 (some (.lst, rows.map rT ++ [rT r])), ?_, hr2, ?_⟩
  · unfold frB
    rw [seq_of f1, dExpr_ap, dMet_ap, dVar_s, dVar_s, dVar_s, dVar_s, dVar_0, bind_ok, if_pos hty, dCons_ap, f2, bind_ok, dNil_ap, bind_ok, bind_ok, hap, st_ok]
  · have := P2.set 0 (some (.lst, rows.map rT ++ [rT r]))
    rw [List.map_append]
    exact this
theorem d_rows (dr : DrOk d__law_draw) (wd : Bool) {w n N : Nat} {S : Sto} (hw : w ≤ 7) (hN : N ≤ 7) (hn : n + 70 ≤ 100000) (hP : PenS n [] S) :
    ∃ (rows : List (List Int)) (S' : Sto), d__law_rows [.ref 0, .int (w : Nat), .int (N : Nat), .bl wd] S = .ok (.nd .lst (rows.map rT)) S' ∧ rows.length = N ∧ (∀ r ∈ rows, RwOk w 190 r) ∧ PenS (n + 60) [] S' := by
  have hS1 : S.length = 1 := hP.len
  have P0 : PenS n [some (.lst, ([] : List (List Int)).map rT)] (S ++ [some (.lst, [])]) := hP.app (X := [some (.lst, [])])
  obtain ⟨l', S', f1, ⟨rows, o5, o6, rfl, f2, f3⟩, f4⟩ := forZ_inv (t := .nm 5) (hs := []) (b := frB)
    (fun i l S => (∃ (rows : List (List Int)) (o5 o6 : Option PV), l = [some (.ref 0), some (.int (w : Nat)), some (.int (N : Nat)), some (.bl wd), some (.ref 1), o5, o6] ∧ (rows.length = i ∧ ∀ r ∈ rows, RwOk w (140 + 6 * i) r) ∧ PenS (n + 8 * i) [some (.lst, rows.map rT)] S) ∧ i ≤ N) (rngZ 0 N) 0 [some (.ref 0), some (.int (w : Nat)), some (.int (N : Nat)), some (.bl wd), some (.ref 1), none, none] (S ++ [some (.lst, [])]) ⟨⟨[], none, none, rfl, ⟨rfl, fun r h => (nomatch h)⟩, P0⟩, Nat.zero_le _⟩ (by
      rintro i x l S hx ⟨⟨rows, o5, o6, rfl, ⟨g1, g2⟩, g3⟩, g4⟩
      rw [Nat.zero_add] at *
      obtain ⟨hi, rfl⟩ := rngZ_get hx
      obtain ⟨r, o6', S', q1, q2, q3⟩ := fr_turn dr wd (N := (N : Nat)) (o5 := some (.int (0 + (i : Nat)))) (o6 := o6) hw (by omega) (by omega) g1 g2 g3
      refine ⟨_, _, S', asg1, q1, heldB_nil _, ⟨rows ++ [r], _, _, rfl, ⟨by rw [List.length_append, g1]; rfl, fun x hx => ?_⟩, ?_⟩, by omega⟩
      · rcases List.mem_append.mp hx with h | h
        · exact (g2 x h).mono (by omega)
        · rw [List.mem_singleton.mp h]; exact q2
      · have e : n + 8 * (i + 1) = n + 8 * i + 8 := by omega
        rw [e]; exact q3)
  rw [Nat.zero_add, rngZ_len] at f2 f3
  obtain ⟨f2, f5⟩ := f2
  have hsh := hP.shut (T := []) (X := [some (.lst, rows.map rT)]) (by rw [List.nil_append]; exact f3)
  have hS' : S'[1]? = some (some (.lst, rows.map rT)) := by rw [f3.get 0]; rfl
  refine ⟨rows, S'.take S.length, ?_, f2, fun r hr => (f5 r hr).mono (by omega), hsh.2.mono (by omega)⟩
  refine dDef_thaw (S := S) (S1 := S') (v := .ref 1) (w := .nd .lst (rows.map rT)) _ rfl ?_ (by rw [hS1, f3.len]; show 1 < 2; decide) (thaw_ref (by omega) hS' fun x hx => ?_) hsh.1
  · unfold b__law_rows
    show dSeq _ _ [some (.ref 0), some (.int (w : Nat)), some (.int (N : Nat)), some (.bl wd), none, none, none] S = _
    have s1 : dSet 4 (dLstM (dNil)) [some (.ref 0), some (.int (w : Nat)), some (.int (N : Nat)), some (.bl wd), none, none, none] S = .nx [some (.ref 0), some (.int (w : Nat)), some (.int (N : Nat)), some (.bl wd), some (.ref 1), none, none] (S ++ [some (.lst, [])]) := by
      refine dSet_of (v := .ref 1) ?_
      rw [dLstM_ap, dNil_ap, bind_ok, mkRf_ok S (by simp), hS1]
    have hi : dItA rngP (dCons (dVar 2) (dNil)) [some (.ref 0), some (.int (w : Nat)), some (.int (N : Nat)), some (.bl wd), some (.ref 1), none, none] (S ++ [some (.lst, [])]) = .ok ⟨rngZ 0 N, []⟩ (S ++ [some (.lst, [])]) := dItA_of (xs := [.int (N : Nat)]) rfl (rngP_nat N _ (Nat.lt_of_le_of_lt hN (by decide)))
    rw [seq_of s1, dSeq_ap, dFor_eq hi (heldB_nil _)]
    show (forZ _ _ frB _ _ _).seq _ = _
    rw [f1]
    rfl
  · obtain ⟨r, _, rfl⟩ := List.mem_map.mp hx
    exact thaw_nd (fitsL_int _ r)
end Z
end
end
section
set_option Elab.async false
set_option linter.all false
set_option maxRecDepth 100000
set_option maxHeartbeats 2000000
set_option exponentiation.threshold 10000
/-! K26M: lots as things of the law; made of, as the law looks at it. -/
noncomputable section
namespace Z
open PySem PySem.Spec PyProof.Rows L2

theorem fitsL_rows (n : Nat) (L : List (List Int)) : fits n (.nd .lst (L.map rT)) = true := by
  show fitsL n (L.map rT) = true
  exact fitsL_map (fits_rT n) L
theorem neZ_rT (L M : List (List Int)) (S : Sto) : neZ (.nd .lst (L.map rT)) (.nd .lst (M.map rT)) S = .ok (.bl (!decide (L = M))) S := by
  show neD (.nd .lst (L.map rT)) (.nd .lst (M.map rT)) S = _
  unfold neD datS view
  simp only [dat, datL_rT, Option.map_some, (shaped_rT L).1, (shaped_rT M).1, and_self, if_true, PyData.eqv, eqv_rT]
theorem onlyN_ok {n : Int} {S : Sto} (h0 : 0 ≤ n) (h : n < 9223372036854775808) : onlyN (.ok (.int n) S) = .ok (.int n) S := by
  unfold onlyN
  rw [bind_ok]
  simp only
  rw [if_pos ⟨h0, h⟩]
section
variable (w : Nat) (k1 : List (List Int)) (P1 : List (Nat × List Int)) (S : Sto)
theorem d_blen : d_Rows___len__ [lotV w k1 P1] [] = .ok (.int (k1.length : Nat)) [] := by
  refine dDef_ret _ _ rfl ?_ (Nat.le_refl _)
  unfold b_Rows___len__
  show dRet _ [some (lotV w k1 P1)] [] = _
  rw [dRet_ap, dApp_ap, dCons_ap, dAttr_ap, dVar_0, bind_ok, getF_1, bind_ok, dNil_ap, bind_ok, bind_ok, lenP_nd_tup, List.length_map, st_ok]
theorem fits1 (n : Nat) : fitsL n [lotV w k1 P1] = true := by rw [fitsL, fits_lot]; rfl
theorem len_lot (hS : S.all Option.isSome = true) (hk : k1.length ≤ 1000) : lenX 0 (clo d_Rows___len__) lenP [lotV w k1 P1] S = .ok (.int (k1.length : Nat)) S := by
  have h := clo_eq (fits1 w k1 P1 0) hS (d_blen w k1 P1)
  show onlyN (clo d_Rows___len__ [lotV w k1 P1] S) = _
  rw [h]
  exact onlyN_ok (by omega) (Int.lt_of_le_of_lt (Int.ofNat_le.mpr hk) (by decide))
theorem len_lst (L : List (List Int)) : lenX 0 (clo d_Rows___len__) lenP [.nd .lst (L.map rT)] S = .ok (.int (L.length : Nat)) S := by
  show lenP [.nd .lst (L.map rT)] S = _
  rw [lenP_nd_lst, List.length_map]
theorem list_lot (hk : k1.length ≤ 1000) : listX T0 0 1 (mkNd .lst) listP [lotV w k1 P1] S = .ok (.nd .lst (k1.map rT)) S := by
  show mkNd .lst (k1.map rT) S = _
  exact mkNd_ok _ (by rw [List.length_map]; omega)
end
section
variable {w b : Nat} {A B : List (List Int)}
theorem clo_free (hb0 : 1 ≤ b) (hb1 : b ≤ 300) (hw : w ≤ 7) (hA : ∀ q ∈ A, RwOk w b q) (hn : A.length ≤ 1000) {S : Sto} (hS : S.all Option.isSome = true) : clo d__law_free [.nd .lst (A.map rT)] S = .ok (.nd .lst ((fS A).I.map fun i : Nat => .int (i : Int))) S :=
  clo_eq (by rw [fitsL, fitsL_rows]; rfl) hS (d_free hb0 A hA hw hb1 hn)
/-- how many are free with one more row -/
theorem free_more (hb0 : 1 ≤ b) (hb1 : b ≤ 300) (hw : w ≤ 7) (hB : ∀ q ∈ B, RwOk w b q) {r : List Int} (hr : RwOk w b r) {S : Sto} (hS : S.all Option.isSome = true) : ∃ xs, clo d__law_free [.nd .lst (((lS w B).kept ++ [r]).map rT)] S = .ok (.nd .lst xs) S ∧ xs.length = (lS w B).kept.length + if (fp (redAll (fS B).K r)).isNone then 0 else 1 := by
  have JB := Jt.all hb0 B hB
  have hkl : (lS w B).kept.length ≤ 7 := by rw [← JB.lot.ln]; exact Nat.le_trans JB.lot.rm hw
  refine ⟨_, clo_free hb0 hb1 hw (fun q hq => ?_) (by rw [List.length_append]; simp; omega) hS, ?_⟩
  · rcases List.mem_append.mp hq with h | h
    · exact JB.ok q h
    · rw [List.mem_singleton.mp h]; exact hr
  · rw [List.length_map, JB.more]
/-- the rows that are free, by the law -/
theorem basis_lc (hb0 : 1 ≤ b) (hb1 : b ≤ 300) (hw : w ≤ 7) (hA : ∀ q ∈ A, RwOk w b q) (hn : A.length ≤ 1000) {S : Sto} (hS : S.all Option.isSome = true) {v i : Nat} {d : DE} {l : Loc} {db : DI} (hd : d l S = .ok (.nd .lst (A.map rT)) S) (hs : ∀ x : PV, (dBin subZ (dVar i) (dVar v)) (setZ (wipeZ l [v]) [(v, x)]) S = subZ (.nd .lst (A.map rT)) x S) :
    dLc [v] (dEiI (dItV (dFn (clo d__law_free) (dCons d (dNil)))) db) (.nm v) (dYes) (dBin subZ (dVar i) (dVar v)) l S = .ok (.nd .lst ((lS w A).kept.map rT)) S := by
  have J := Jt.all hb0 A hA
  have hf := clo_free hb0 hb1 hw hA hn hS
  have hkl : (lS w A).kept.length ≤ 7 := by rw [← J.lot.ln]; exact Nat.le_trans J.lot.rm hw
  have hit : dEiI (dItV (dFn (clo d__law_free) (dCons d (dNil)))) db l S = .ok ⟨(fS A).I.map fun i : Nat => .int (i : Int), []⟩ S := by
    have h1 : dItV (dFn (clo d__law_free) (dCons d (dNil))) l S = .ok ⟨(fS A).I.map fun i : Nat => .int (i : Int), []⟩ S := by
      rw [dItV_ap, dFn_of (xs := [.nd .lst (A.map rT)]) (by rw [dCons_ap, hd, bind_ok, dNil_ap, bind_ok]) hf, bind_ok, itOf_lst]
    unfold dEiI
    rw [h1]
  have hIl : (fS A).I.length ≤ 7 := by
    have := congrArg List.length J.kept
    rw [List.length_map] at this
    rw [← this]; exact hkl
  have := dLc_pure (vs := [v]) (di := dEiI (dItV (dFn (clo d__law_free) (dCons d (dNil)))) db) (t := .nm v) (el := dBin subZ (dVar i) (dVar v)) (l := l) (S := S) (it := ⟨(fS A).I.map fun i : Nat => .int (i : Int), []⟩) (fun x => match x with | .int i => rT (A.getD i.toNat []) | _ => .non)
    hit (heldB_nil _) (by rw [List.length_map]; omega) (by
      intro x hx
      obtain ⟨j, hj, rfl⟩ := List.mem_map.mp hx
      refine ⟨_, asg1, ?_⟩
      have hjl := J.il j hj
      rw [hs]
      refine subZ_lst S _ _ ?_
      rw [atI_ofNat, List.getElem?_map, List.getElem?_eq_getElem hjl]
      show some (rT A[j]) = some (rT (A.getD j []))
      rw [List.getD_eq_getElem?_getD, List.getElem?_eq_getElem hjl]
      rfl)
  rw [this, J.kept, List.map_map, List.map_map]
  rfl
end
/-! ### sums of products -/
def decT (x : PV) : List Int := match x with
  | .nd _ xs => (asIs xs).getD []
  | _ => []
theorem decT_rT (r : List Int) : decT (rT r) = r := by show (asIs (r.map .int)).getD [] = r; rw [asIs_map]; rfl
def dotZ (ns : List Int) (ks : List (List Int)) (p : Nat) : Int := ((ns.zip ks).map fun q => q.1 * at_ q.2 p).sum
theorem dotZ_dotA (f : Nat → Int) (p : Nat) : ∀ (ks : List (List Int)) (j : Nat), dotZ ((List.range' j ks.length).map f) ks p = dotA f ks j p
  | [], j => rfl
  | k :: ks, j => by
    have ih := dotZ_dotA f p ks (j + 1)
    show dotZ ((List.range' j (ks.length + 1)).map f) (k :: ks) p = f j * at_ k p + dotA f ks (j + 1) p
    rw [← ih, List.range'_succ, List.map_cons]
    unfold dotZ
    rw [List.zip_cons_cons, List.map_cons, List.sum_cons]
theorem zipZ_rT : ∀ (ns : List Int) (ks : List (List Int)), zipZ (ns.map PV.int) (ks.map rT) = (ns.zip ks).map fun q => .nd .tup [.int q.1, rT q.2]
  | [], _ => by simp [zipZ]
  | _ :: _, [] => by simp [zipZ]
  | n :: ns, k :: ks => by
    rw [List.map_cons, List.map_cons, List.zip_cons_cons, List.map_cons, zipZ, zipZ_rT ns ks]
theorem zipP_rows (ns : List Int) (ks : List (List Int)) (S : Sto) : zipP [rT ns, .nd .lst (ks.map rT)] S = .ok ⟨(ns.zip ks).map fun q => .nd .tup [.int q.1, rT q.2], []⟩ S := by
  have h1 : itOf (rT ns) S = .ok ⟨ns.map .int, []⟩ S := rfl
  have h2 : itOf (.nd .lst (ks.map rT)) S = .ok ⟨ks.map rT, []⟩ S := rfl
  unfold zipP
  simp only [h1, h2, zipZ_rT, List.append_nil]
theorem sum_lc {ns : List Int} {ks : List (List Int)} {p : Nat} {l : Loc} {S : Sto} {di : DI} {el : DE} (hi : di l S = .ok ⟨(ns.zip ks).map fun q => .nd .tup [.int q.1, rT q.2], []⟩ S) (hl : ns.length ≤ 1000)
    (he : ∀ (n : Int) (r : List Int), n ∈ ns → r ∈ ks → el (setZ (wipeZ l [9, 10]) [(9, .int n), (10, rT r)]) S = .ok (.int (n * at_ r p)) S) :
    dApp sumP (dCons (dLc [9, 10] di (.tp [.nm 9, .nm 10]) dYes el) dNil) l S = .ok (.int (dotZ ns ks p)) S := by
  have := dLc_pure (vs := [9, 10]) (di := di) (t := .tp [.nm 9, .nm 10]) (el := el) (l := l) (S := S) (it := ⟨(ns.zip ks).map fun q => .nd .tup [.int q.1, rT q.2], []⟩)
    (fun x => match x with | .nd .tup [.int n, y] => .int (n * at_ (decT y) p) | _ => .non) hi (heldB_nil _) (by rw [List.length_map, List.length_zip]; omega) (by
      intro x hx
      obtain ⟨q, hq, rfl⟩ := List.mem_map.mp hx
      obtain ⟨p1, p2⟩ := List.of_mem_zip (a := q.1) (b := q.2) hq
      refine ⟨_, asg2, ?_⟩
      rw [he q.1 q.2 p1 p2]
      simp only [decT_rT])
  have e : (List.map (fun x => match x with | PV.nd .tup [.int n, y] => PV.int (n * at_ (decT y) p) | _ => .non) ((ns.zip ks).map fun q => PV.nd .tup [.int q.1, rT q.2])) = ((ns.zip ks).map fun q => q.1 * at_ q.2 p).map .int := by
    rw [List.map_map, List.map_map]
    refine List.map_congr_left fun q _ => ?_
    simp only [Function.comp, decT_rT]
  simp only at this
  rw [e] at this
  rw [dApp_ap, dCons_ap, this, bind_ok, dNil_ap, bind_ok, bind_ok]
  show (match (lstOf (.nd .lst (((ns.zip ks).map fun q => q.1 * at_ q.2 p).map .int)) S).bind asIs with
    | some ns => Out.ok (PV.int ns.sum) S
    | none => Out.bad) = _
  have e2 : (lstOf (.nd .lst (((ns.zip ks).map fun q => q.1 * at_ q.2 p).map .int)) S).bind asIs = some ((ns.zip ks).map fun q => q.1 * at_ q.2 p) := by
    show asIs _ = _
    exact asIs_map _
  rw [e2]
  rfl
end Z
end
end
section
set_option Elab.async false
set_option linter.all false
set_option maxRecDepth 100000
set_option maxHeartbeats 2000000
set_option exponentiation.threshold 10000
/-! K26S: what the law says of what a row is made of. -/
noncomputable section
namespace Z
open PySem PySem.Spec PyProof.Rows L2

theorem line_bd {w b : Nat} {kept : List (List Int)} {P : List (Nat × List Int)} {r : List Int} (h : LotOk w b kept P) (hw : w ≤ 7) (hb : Bd b r) (hb0 : 1 ≤ b) (hb1 : b ≤ 300) : ∀ x ∈ redAll P (ln0 w r), x.natAbs < 2 ^ 100000 := by
  have hk : 2 ^ (0 + P.length) * (b + 1) ≤ 100000 := by
    have h1 : 2 ^ P.length ≤ 2 ^ 7 := Nat.pow_le_pow_right (by decide) (Nat.le_trans h.rm hw)
    have : 2 ^ P.length * (b + 1) ≤ 2 ^ 7 * 301 := Nat.mul_le_mul h1 (by omega)
    rw [Nat.zero_add]
    omega
  have hb' : Bd (2 ^ 0 * (b + 1) - 1) (ln0 w r) := by
    have e : 2 ^ 0 * (b + 1) - 1 = b := by omega
    rw [e]
    obtain ⟨c, rfl⟩ : ∃ c, b = c + 1 := ⟨b - 1, by omega⟩
    exact ln0_bd hb
  have := Bd.redAll h.bd hb'
  exact fun x hx => lt_100000 (n := 0) (this x hx) (by omega)
/-- what the told numbers are, in plain reckoning -/
structure MadeOk (w : Nat) (kept : List (List Int)) (r : List Int) (D : Int) (ns : List Int) : Prop where
  len : ns.length = kept.length
  pos : 1 ≤ D
  gl1 : gl (D :: ns) = 1
  sum : ∀ p, p < w → D * at_ r p = dotZ ns kept p
  bD : D.natAbs < 2 ^ 100000
  bn : ∀ n ∈ ns, n.natAbs < 2 ^ 100000
theorem madeOk {w b : Nat} {rows : List (List Int)} {r : List Int} (hb0 : 1 ≤ b) (hb1 : b ≤ 300) (hw : w ≤ 7) (hr : ∀ q ∈ rows, RwOk w b q) (hq : RwOk w b r) (hf : fp ((redAll (lS w rows).P (ln0 w r)).take w) = none) :
    MadeOk w (lS w rows).kept r (sgn (at_ (redAll (lS w rows).P (ln0 w r)) (2 * w)) * at_ (redAll (lS w rows).P (ln0 w r)) (2 * w)) (numsOf w (lS w rows).kept.length (redAll (lS w rows).P (ln0 w r))) := by
  have J := Jt.all hb0 rows hr
  obtain ⟨m1, m2, m3, m4⟩ := line_made (b := b) hb0 hr hq.1
  have hbd := line_bd J.lot hw hq.2 hb0 hb1
  have hkl : (lS w rows).kept.length ≤ w := by rw [← J.lot.ln]; exact J.lot.rm
  generalize lS w rows = s at *
  generalize redAll s.P (ln0 w r) = L at *
  have hz : ∀ p, p < w → at_ L p = 0 := fun p hp => by
    have := fp_none.mp hf p
    have hl : (L.take w).length = w := by rw [List.length_take, m3]; omega
    rw [at_lt (by omega), List.getElem_take] at this
    rw [at_lt (by omega)]
    exact this
  have sb : ∀ x : Int, x ∈ L → ∀ y : Int, y.natAbs = x.natAbs → (sgn (at_ L (2 * w)) * y).natAbs < 2 ^ 100000 := fun x hx y hy => by
    rw [Int.natAbs_mul, sgn_abs, Nat.one_mul, hy]
    exact hbd x hx
  refine ⟨?_, sgn_pos m4, told_gl (sgn_abs _) m3 m1 hz hkl m2, fun p hp => ?_, ?_, fun n hn => ?_⟩
  · unfold numsOf
    rw [List.length_map, List.length_range]
  · unfold numsOf
    rw [List.range_eq_range', dotZ_dotA (fun j => sgn (at_ L (2 * w)) * (0 - at_ L (w + j))) p s.kept 0, dotA_mul, ← told_made m1 hz hp, Int.mul_assoc]
  · exact sb (at_ L (2 * w)) (at_mem (by omega)) _ rfl
  · unfold numsOf at hn
    obtain ⟨j, hj, rfl⟩ := List.mem_map.mp hn
    have hj := List.mem_range.mp hj
    exact sb (at_ L (w + j)) (at_mem (by omega)) _ (by omega)

def Lm (w : Nat) (k : List (List Int)) (P : List (Nat × List Int)) (r : List Int) (o3 o4 o5 o6 o8 : Option PV) : Loc := [some (lotV w k P), some (.nd .lst (k.map rT)), some (rT r), o3, o4, o5, o6, none, o8, none, none]
theorem neZ_ii (a : Int) (S : Sto) : neZ (.int a) (.int a) S = .ok (.bl false) S := by rw [neZ_int]; simp
section
variable {w : Nat} {k : List (List Int)} {P : List (Nat × List Int)} {r : List Int} {D : Int} {ns : List Int} {S : Sto}
def MV (D : Int) (ns : List Int) : PV := .nd .tup [.int D, rT ns]
theorem t_kinds (hl : ns.length = k.length) : dIfS (dOrT (dNotT (dTru (dApp (isiX I0) (dCons (dVar 3) (dCons (dC (.ty "tuple")) (dNil)))))) (dOrT (dB (dBin neZ (dApp (lenX 0 (clo d_Rows___len__) lenP) (dCons (dVar 3) (dNil))) (dC (.int 2)))) (dOrT (dNotT (dTru (dApp (isiX I0) (dCons (dBin subZ (dVar 3) (dC (.int 1))) (dCons (dC (.ty "tuple")) (dNil)))))) (dB (dBin neZ (dApp (lenX 0 (clo d_Rows___len__) lenP) (dCons (dBin subZ (dVar 3) (dC (.int 1))) (dNil))) (dApp (lenX 0 (clo d_Rows___len__) lenP) (dCons (dVar 1) (dNil)))))))) (dRet (dC (.bl false))) (dSkip) (Lm w k P r (some (MV D ns)) (some (.bl true)) none none none) S = .nx (Lm w k P r (some (MV D ns)) (some (.bl true)) none none none) S := by
  have v3 : dVar 3 (Lm w k P r (some (MV D ns)) (some (.bl true)) none none none) S = .ok (MV D ns) S := rfl
  have v1 : dVar 1 (Lm w k P r (some (MV D ns)) (some (.bl true)) none none none) S = .ok (.nd .lst (k.map rT)) S := rfl
  generalize Lm w k P r (some (MV D ns)) (some (.bl true)) none none none = l at v3 v1 ⊢
  have i1 : isiX I0 [MV D ns, .ty "tuple"] S = .ok (.bl true) S := rfl
  have i2 : isiX I0 [rT ns, .ty "tuple"] S = .ok (.bl true) S := rfl
  have tt : truP (.bl true) S = .ok true S := rfl
  have l1 : lenX 0 (clo d_Rows___len__) lenP [MV D ns] S = .ok (.int 2) S := rfl
  have l2 : lenX 0 (clo d_Rows___len__) lenP [rT ns] S = .ok (.int (ns.length : Nat)) S := by
    show lenP [.nd .tup (ns.map .int)] S = _
    rw [lenP_nd_tup, List.length_map]
  have s1 : subZ (MV D ns) (.int 1) S = .ok (rT ns) S := rfl
  rw [dIfS_ap, dOrT_ap, dNotT_ap, dTru_ap, dApp_ap, dCons_ap, v3, bind_ok, dCons_ap, dC_ap, bind_ok, dNil_ap, bind_ok, bind_ok, bind_ok, i1, bind_ok, tt, bind_ok, bind_ok]
  show (if (!true) = true then _ else (dOrT _ _ l S)).st _ _ = _
  rw [if_neg (by decide), dOrT_ap, dB_ap, dBin_ap, dApp_ap, dCons_ap, v3, bind_ok, dNil_ap, bind_ok, bind_ok, l1, bind_ok, dC_ap, bind_ok, neZ_ii, asB_ok, bind_ok, if_neg (by decide), dOrT_ap, dNotT_ap, dTru_ap, dApp_ap, dCons_ap, dBin_ap, v3, bind_ok, dC_ap, bind_ok, s1, bind_ok, dCons_ap, dC_ap, bind_ok, dNil_ap, bind_ok, bind_ok, bind_ok, i2, bind_ok, tt, bind_ok, bind_ok]
  show (if (!true) = true then _ else (dB _ l S)).st _ _ = _
  rw [if_neg (by decide), dB_ap, dBin_ap, dApp_ap, dCons_ap, dBin_ap, v3, bind_ok, dC_ap, bind_ok, s1, bind_ok, dNil_ap, bind_ok, bind_ok, l2, bind_ok, dApp_ap, dCons_ap, v1, bind_ok, dNil_ap, bind_ok, bind_ok, len_lst, bind_ok, hl, neZ_ii]
  rfl
theorem t_ints (hD : 1 ≤ D) (hl : ns.length ≤ 1000) : dIfS (dOrT (dB (dBin neZ (dLc [7] (dEiI (dItV (dBin addP (dTup (dCons (dVar 5) (dNil))) (dVar 6))) (dItOwn T0 0 1 (dBin addP (dTup (dCons (dVar 5) (dNil))) (dVar 6)))) (.nm 7) (dOrT (dNotT (dTru (dApp (isiX I0) (dCons (dVar 7) (dCons (dC (.ty "int")) (dNil)))))) (dTru (dApp (isiX I0) (dCons (dVar 7) (dCons (dC (.ty "bool")) (dNil)))))) (dVar 7)) (dLst (dNil)))) (dB (dBin ltZ (dVar 5) (dC (.int 1))))) (dRet (dC (.bl false))) (dSkip) (Lm w k P r (some (MV D ns)) (some (.bl true)) (some (.int D)) (some (rT ns)) none) S = .nx (Lm w k P r (some (MV D ns)) (some (.bl true)) (some (.int D)) (some (rT ns)) none) S := by
  have hd : dBin addP (dTup (dCons (dVar 5) (dNil))) (dVar 6) (Lm w k P r (some (MV D ns)) (some (.bl true)) (some (.int D)) (some (rT ns)) none) S = .ok (.nd .tup ((D :: ns).map .int)) S := by
    have v5 : dVar 5 (Lm w k P r (some (MV D ns)) (some (.bl true)) (some (.int D)) (some (rT ns)) none) S = .ok (.int D) S := rfl
    have v6 : dVar 6 (Lm w k P r (some (MV D ns)) (some (.bl true)) (some (.int D)) (some (rT ns)) none) S = .ok (rT ns) S := rfl
    have hm : mkNd .tup [PV.int D] S = .ok (.nd .tup [.int D]) S := mkNd_ok _ (by simp)
    have ha : addP (.nd .tup [.int D]) (rT ns) S = mkNd .tup ([.int D] ++ ns.map .int) S := rfl
    rw [dBin_ap, dTup_ap, dCons_ap, v5, bind_ok, dNil_ap, bind_ok, bind_ok, hm, bind_ok, v6, bind_ok, ha, mkNd_ok _ (by rw [List.length_append, List.length_map]; simp; omega)]
    rfl
  have hi : dEiI (dItV (dBin addP (dTup (dCons (dVar 5) (dNil))) (dVar 6))) (dItOwn T0 0 1 (dBin addP (dTup (dCons (dVar 5) (dNil))) (dVar 6))) (Lm w k P r (some (MV D ns)) (some (.bl true)) (some (.int D)) (some (rT ns)) none) S = .ok ⟨(D :: ns).map .int, []⟩ S := by
    have h1 : dItV (dBin addP (dTup (dCons (dVar 5) (dNil))) (dVar 6)) (Lm w k P r (some (MV D ns)) (some (.bl true)) (some (.int D)) (some (rT ns)) none) S = .ok ⟨(D :: ns).map .int, []⟩ S := by
      rw [dItV_ap, hd, bind_ok]
      rfl
    unfold dEiI
    rw [h1]
  have hlc := dLc_filt (vs := [7]) (t := .nm 7) (c := dOrT (dNotT (dTru (dApp (isiX I0) (dCons (dVar 7) (dCons (dC (.ty "int")) (dNil)))))) (dTru (dApp (isiX I0) (dCons (dVar 7) (dCons (dC (.ty "bool")) (dNil)))))) (el := dVar 7) (fun _ => false) id hi (heldB_nil _) (by rw [List.length_map, List.length_cons]; omega) (by
    intro x hx
    obtain ⟨i, _, rfl⟩ := List.mem_map.mp hx
    exact ⟨_, asg1, rfl, fun h => (nomatch h)⟩)
  have v5 : dVar 5 (Lm w k P r (some (MV D ns)) (some (.bl true)) (some (.int D)) (some (rT ns)) none) S = .ok (.int D) S := rfl
  generalize Lm w k P r (some (MV D ns)) (some (.bl true)) (some (.int D)) (some (rT ns)) none = l at hlc v5 ⊢
  have hf : ((List.map PV.int (D :: ns)).filter fun _ => false).map id = [] := by
    rw [List.filter_eq_nil_iff.mpr (fun _ _ => by decide)]
    rfl
  rw [hf] at hlc
  have hm0 : mkNd .lst [] S = .ok (.nd .lst []) S := rfl
  have hne : neZ (.nd .lst []) (.nd .lst []) S = .ok (.bl false) S := neZ_rT0 [] S
  have hlt : ltZ (.int D) (.int 1) S = .ok (.bl false) S := by
    show Out.ok (PV.bl (decide (D < 1))) S = _
    rw [decide_eq_false (by omega)]
  rw [dIfS_ap, dOrT_ap, dB_ap, dBin_ap, hlc, bind_ok, dLst_ap, dNil_ap, bind_ok, hm0, bind_ok, hne, asB_ok, bind_ok, if_neg (by decide), dB_ap, dBin_ap, v5, bind_ok, dC_ap, bind_ok, hlt]
  rfl
theorem t_sums (M : MadeOk w k r D ns) (hr : RwOk w 100000 r) (hk : ∀ q ∈ k, RwOk w 100000 q) (hw : w ≤ 1000) (hkl : k.length ≤ 1000) : ∃ o8, dFor (dItA rngP (dCons (dApp (lenX 0 (clo d_Rows___len__) lenP) (dCons (dVar 2) (dNil))) (dNil))) (.nm 8) (dIfS (dB (dBin neZ (dBin mulT (dVar 5) (dBin subZ (dVar 2) (dVar 8))) (dApp sumP (dCons (dLc [9, 10] (dItA zipP (dCons (dVar 6) (dCons (dVar 1) (dNil)))) (.tp [.nm 9, .nm 10]) (dYes) (dBin mulT (dVar 9) (dBin subZ (dVar 10) (dVar 8)))) (dNil))))) (dRet (dC (.bl false))) (dSkip)) (Lm w k P r (some (MV D ns)) (some (.bl true)) (some (.int D)) (some (rT ns)) none) S = .nx (Lm w k P r (some (MV D ns)) (some (.bl true)) (some (.int D)) (some (rT ns)) o8) S := by
  have hlen : lenX 0 (clo d_Rows___len__) lenP [rT r] S = .ok (.int (w : Nat)) S := by
    show lenP [.nd .tup (r.map .int)] S = _
    rw [lenP_nd_tup, List.length_map, hr.1]
  have hi : dItA rngP (dCons (dApp (lenX 0 (clo d_Rows___len__) lenP) (dCons (dVar 2) (dNil))) (dNil)) (Lm w k P r (some (MV D ns)) (some (.bl true)) (some (.int D)) (some (rT ns)) none) S = .ok ⟨rngZ 0 w, []⟩ S := by
    have v2 : dVar 2 (Lm w k P r (some (MV D ns)) (some (.bl true)) (some (.int D)) (some (rT ns)) none) S = .ok (rT r) S := rfl
    exact dItA_of (xs := [.int (w : Nat)]) (by rw [dCons_ap, dApp_ap, dCons_ap, v2, bind_ok, dNil_ap, bind_ok, bind_ok, hlen, bind_ok, dNil_ap, bind_ok]) (rngP_nat w S (Nat.lt_of_le_of_lt hw (by decide)))
  obtain ⟨l', S', f1, ⟨o8, rfl⟩, rfl⟩ := forZ_inv (t := .nm 8) (hs := []) (b := dIfS (dB (dBin neZ (dBin mulT (dVar 5) (dBin subZ (dVar 2) (dVar 8))) (dApp sumP (dCons (dLc [9, 10] (dItA zipP (dCons (dVar 6) (dCons (dVar 1) (dNil)))) (.tp [.nm 9, .nm 10]) (dYes) (dBin mulT (dVar 9) (dBin subZ (dVar 10) (dVar 8)))) (dNil))))) (dRet (dC (.bl false))) (dSkip))
    (fun _ l S2 => (∃ o8, l = Lm w k P r (some (MV D ns)) (some (.bl true)) (some (.int D)) (some (rT ns)) o8) ∧ S2 = S) (rngZ 0 w) 0 (Lm w k P r (some (MV D ns)) (some (.bl true)) (some (.int D)) (some (rT ns)) none) S ⟨⟨none, rfl⟩, rfl⟩ (by
      rintro i x l S2 hx ⟨⟨o8, rfl⟩, rfl⟩
      obtain ⟨hi, rfl⟩ := rngZ_get hx
      have e0 : (0 + (i : Nat) : Int) = (i : Nat) := Int.zero_add _
      rw [e0]
      refine ⟨_, Lm w k P r (some (MV D ns)) (some (.bl true)) (some (.int D)) (some (rT ns)) (some (.int (i : Nat))), S2, asg1, ?_, heldB_nil _, ⟨_, rfl⟩, rfl⟩
      show dIfS _ _ _ (Lm w k P r (some (MV D ns)) (some (.bl true)) (some (.int D)) (some (rT ns)) (some (.int (i : Nat)))) S2 = _
      have sT : ∀ q : List Int, q.length = w → subZ (rT q) (.int (i : Nat)) S2 = .ok (.int (at_ q i)) S2 := fun q hq => subZ_tup S2 _ _ (by rw [atI_ofNat, List.getElem?_map, List.getElem?_eq_getElem (by omega), at_lt (by omega)]; rfl)
      have hs := sum_lc (ns := ns) (ks := k) (p := i) (l := Lm w k P r (some (MV D ns)) (some (.bl true)) (some (.int D)) (some (rT ns)) (some (.int (i : Nat)))) (S := S2) (di := dItA zipP (dCons (dVar 6) (dCons (dVar 1) (dNil)))) (el := dBin mulT (dVar 9) (dBin subZ (dVar 10) (dVar 8)))
        (dItA_of (xs := [rT ns, .nd .lst (k.map rT)]) rfl (zipP_rows ns k S2)) (by rw [M.len]; exact hkl) (fun n q hn hq => by
          have w9 : dVar 9 (setZ (wipeZ (Lm w k P r (some (MV D ns)) (some (.bl true)) (some (.int D)) (some (rT ns)) (some (.int (i : Nat)))) [9, 10]) [(9, .int n), (10, rT q)]) S2 = .ok (.int n) S2 := rfl
          have w10 : dVar 10 (setZ (wipeZ (Lm w k P r (some (MV D ns)) (some (.bl true)) (some (.int D)) (some (rT ns)) (some (.int (i : Nat)))) [9, 10]) [(9, .int n), (10, rT q)]) S2 = .ok (rT q) S2 := rfl
          have w8 : dVar 8 (setZ (wipeZ (Lm w k P r (some (MV D ns)) (some (.bl true)) (some (.int D)) (some (rT ns)) (some (.int (i : Nat)))) [9, 10]) [(9, .int n), (10, rT q)]) S2 = .ok (.int (i : Nat)) S2 := rfl
          rw [dBin_ap, w9, bind_ok, dBin_ap, w10, bind_ok, w8, bind_ok, sT q (hk q hq).1, bind_ok, mul_small (M.bn n hn) (Bd.at_ (hk q hq).2 i)])
      have v5 : dVar 5 (Lm w k P r (some (MV D ns)) (some (.bl true)) (some (.int D)) (some (rT ns)) (some (.int (i : Nat)))) S2 = .ok (.int D) S2 := rfl
      have v2 : dVar 2 (Lm w k P r (some (MV D ns)) (some (.bl true)) (some (.int D)) (some (rT ns)) (some (.int (i : Nat)))) S2 = .ok (rT r) S2 := rfl
      have v8 : dVar 8 (Lm w k P r (some (MV D ns)) (some (.bl true)) (some (.int D)) (some (rT ns)) (some (.int (i : Nat)))) S2 = .ok (.int (i : Nat)) S2 := rfl
      generalize Lm w k P r (some (MV D ns)) (some (.bl true)) (some (.int D)) (some (rT ns)) (some (.int (i : Nat))) = l at hs v5 v2 v8 ⊢
      rw [dIfS_ap, dB_ap, dBin_ap, dBin_ap, v5, bind_ok, dBin_ap, v2, bind_ok, v8, bind_ok, sT r hr.1, bind_ok, mul_small M.bD (Bd.at_ hr.2 i), bind_ok, hs, bind_ok, M.sum i hi, neZ_ii]
      rfl)
  exact ⟨o8, by rw [dFor_eq hi (heldB_nil _), f1]⟩
theorem t_end (M : MadeOk w k r D ns) (hkl : k.length ≤ 1000) (o8 : Option PV) : dRet (dBin eqZ (dFn d__law_shared (dCons (dBin addP (dLst (dCons (dVar 5) (dNil))) (dApp (listX T0 0 1 (mkNd .lst) listP) (dCons (dVar 6) (dNil)))) (dNil))) (dC (.int 1))) (Lm w k P r (some (MV D ns)) (some (.bl true)) (some (.int D)) (some (rT ns)) o8) S = .ret (.bl true) S := by
  have v5 : dVar 5 (Lm w k P r (some (MV D ns)) (some (.bl true)) (some (.int D)) (some (rT ns)) o8) S = .ok (.int D) S := rfl
  have v6 : dVar 6 (Lm w k P r (some (MV D ns)) (some (.bl true)) (some (.int D)) (some (rT ns)) o8) S = .ok (rT ns) S := rfl
  generalize Lm w k P r (some (MV D ns)) (some (.bl true)) (some (.int D)) (some (rT ns)) o8 = l at v5 v6 ⊢
  have hm : mkNd .lst [PV.int D] S = .ok (.nd .lst [.int D]) S := mkNd_ok _ (by simp)
  have hx : listX T0 0 1 (mkNd .lst) listP [rT ns] S = .ok (.nd .lst (ns.map .int)) S := rfl
  have ha : mkNd .lst ([PV.int D] ++ ns.map .int) S = .ok (rL (D :: ns)) S := by
    rw [mkNd_ok _ (by rw [List.length_append, List.length_map, M.len]; simp; omega)]
    rfl
  have hsh := d_lshared_ok (D :: ns) S (fun n hn => by
    rcases List.mem_cons.mp hn with rfl | h
    · exact M.bD
    · exact M.bn n h)
  rw [dRet_ap, dBin_ap, dFn_of (xs := [rL (D :: ns)]) (by rw [dCons_ap, dBin_ap, dLst_ap, dCons_ap, v5, bind_ok, dNil_ap, bind_ok, bind_ok, hm, bind_ok, dApp_ap, dCons_ap, v6, bind_ok, dNil_ap, bind_ok, bind_ok, hx, bind_ok, addP_lst, ha, bind_ok, dNil_ap, bind_ok]) hsh, bind_ok, dC_ap, bind_ok, M.gl1]
  rfl
end
theorem d_mr {w b : Nat} {rows : List (List Int)} {r : List Int} {S : Sto} (hb0 : 1 ≤ b) (hb1 : b ≤ 300) (hw : w ≤ 7) (hr : ∀ q ∈ rows, RwOk w b q) (hq : RwOk w b r) (hS : S.all Option.isSome = true) :
    d__law_made_right [lotV w (lS w rows).kept (lS w rows).P, .nd .lst ((lS w rows).kept.map rT), rT r] S = .ok (.bl true) S := by
  have J := Jt.all hb0 rows hr
  have hkl : (lS w rows).kept.length ≤ 7 := by rw [← J.lot.ln]; exact Nat.le_trans J.lot.rm hw
  have hfp := J.fp_eq hq.1
  obtain ⟨xs, h1, h2⟩ := free_more (B := rows) hb0 hb1 hw hr hq hS
  have ha : mkNd .lst ((lS w rows).kept.map rT ++ [rT r]) S = .ok (.nd .lst (((lS w rows).kept ++ [r]).map rT)) S := by
    rw [mkNd_ok _ (by rw [List.length_append, List.length_map]; simp; omega), List.map_append]
    rfl
  have hm1 : mkNd .lst [rT r] S = .ok (.nd .lst [rT r]) S := mkNd_ok _ (by simp)
  have l1 : lenX 0 (clo d_Rows___len__) lenP [.nd .lst xs] S = .ok (.int xs.length) S := rfl
  have s2 : ∀ v : PV, dSet 4 (dBin eqZ (dApp (lenX 0 (clo d_Rows___len__) lenP) (dCons (dFn (clo d__law_free) (dCons (dBin addP (dVar 1) (dLst (dCons (dVar 2) (dNil)))) (dNil))) (dNil))) (dApp (lenX 0 (clo d_Rows___len__) lenP) (dCons (dVar 1) (dNil)))) (Lm w (lS w rows).kept (lS w rows).P r (some v) none none none none) S = .nx (Lm w (lS w rows).kept (lS w rows).P r (some v) (some (.bl (decide (xs.length = (lS w rows).kept.length)))) none none none) S := by
    intro v
    have v1 : dVar 1 (Lm w (lS w rows).kept (lS w rows).P r (some v) none none none none) S = .ok (.nd .lst ((lS w rows).kept.map rT)) S := rfl
    have v2 : dVar 2 (Lm w (lS w rows).kept (lS w rows).P r (some v) none none none none) S = .ok (rT r) S := rfl
    have hset : ∀ u, (Lm w (lS w rows).kept (lS w rows).P r (some v) none none none none).set 4 (some u) = Lm w (lS w rows).kept (lS w rows).P r (some v) (some u) none none none := fun u => rfl
    rw [← hset]
    generalize Lm w (lS w rows).kept (lS w rows).P r (some v) none none none none = l at v1 v2 ⊢
    have a1 : dCons (dBin addP (dVar 1) (dLst (dCons (dVar 2) (dNil)))) (dNil) l S = .ok [.nd .lst (((lS w rows).kept ++ [r]).map rT)] S := by
      rw [dCons_ap, dBin_ap, v1, bind_ok, dLst_ap, dCons_ap, v2, bind_ok, dNil_ap, bind_ok, bind_ok, hm1, bind_ok, addP_lst, ha, bind_ok, dNil_ap, bind_ok]
    refine dSet_of ?_
    rw [dBin_ap, dApp_ap, dCons_ap, dFn_of a1 h1, bind_ok, dNil_ap, bind_ok, bind_ok, l1, bind_ok, dApp_ap, dCons_ap, v1, bind_ok, dNil_ap, bind_ok, bind_ok, len_lst, bind_ok, eqZ_int]
    congr 2
    rw [decide_eq_decide]
    omega
  have fr : fits 0 (rT r) = true := fits_rT 0 r
  have f2 : fitsL 0 [lotV w (lS w rows).kept (lS w rows).P, rT r] = true := by rw [fitsL, fits_lot, fitsL, fr]; rfl
  refine dDef_ret _ _ rfl ?_ (Nat.le_refl _)
  unfold b__law_made_right
  show dSeq _ _ (Lm w (lS w rows).kept (lS w rows).P r none none none none none) S = _
  have s1 : ∀ v : PV, d_Rows_made_of [lotV w (lS w rows).kept (lS w rows).P, rT r] [] = .ok v [] → dSet 3 (dMeth T0 0 (clo d_Rows_made_of) (dVar 0) (dCons (dVar 2) (dNil))) (Lm w (lS w rows).kept (lS w rows).P r none none none none none) S = .nx (Lm w (lS w rows).kept (lS w rows).P r (some v) none none none none) S := by
    intro v hv
    refine dSet_of (v := v) ?_
    show (if insOk T0 0 (lotV w (lS w rows).kept (lS w rows).P) S = true then clo d_Rows_made_of [lotV w (lS w rows).kept (lS w rows).P, rT r] S else .bad) = _
    rw [if_pos (insOk_lot _ _ _ S)]
    exact clo_eq f2 hS hv
  cases q : fp (redAll (fS rows).K r) with
  | some p =>
    rw [q] at hfp h2
    have hv := d_made_none J.lot hq.1 hw hq.2 hb0 hb1 hfp
    rw [seq_of (s1 _ hv), seq_of (s2 _)]
    have e : decide (xs.length = (lS w rows).kept.length) = false := decide_eq_false (by rw [h2]; simp)
    rw [e]
    rfl
  | none =>
    rw [q] at hfp h2
    have hv := d_made_some J.lot hq.1 hw hq.2 hb0 hb1 hfp
    have M := madeOk hb0 hb1 hw hr hq hfp
    have e : decide (xs.length = (lS w rows).kept.length) = true := decide_eq_true (by rw [h2]; simp)
    have hr5 : RwOk w 100000 r := hq.mono (by omega)
    have hk5 : ∀ q ∈ (lS w rows).kept, RwOk w 100000 q := fun q hq => (J.ok q hq).mono (by omega)
    rw [seq_of (s1 _ hv), seq_of (s2 _), e]
    have emv : madeV w (lS w rows).kept.length (redAll (lS w rows).P (ln0 w r)) = MV (sgn (at_ (redAll (lS w rows).P (ln0 w r)) (2 * w)) * at_ (redAll (lS w rows).P (ln0 w r)) (2 * w)) (numsOf w (lS w rows).kept.length (redAll (lS w rows).P (ln0 w r))) := rfl
    rw [emv]
    generalize sgn (at_ (redAll (lS w rows).P (ln0 w r)) (2 * w)) * at_ (redAll (lS w rows).P (ln0 w r)) (2 * w) = D at M ⊢
    generalize numsOf w (lS w rows).kept.length (redAll (lS w rows).P (ln0 w r)) = ns at M ⊢
    generalize (lS w rows).P = P
    generalize (lS w rows).kept = k at M hkl hk5 ⊢
    have s3 : dIfS (dNotT (dTru (dVar 4))) (dRet (dBin isZ (dVar 3) (dC .non))) (dSkip) (Lm w k P r (some (MV D ns)) (some (.bl true)) none none none) S = .nx (Lm w k P r (some (MV D ns)) (some (.bl true)) none none none) S := rfl
    have s5 : dAsg (dVar 3) (gzT [gzN 5, gzN 6]) (Lm w k P r (some (MV D ns)) (some (.bl true)) none none none) S = .nx (Lm w k P r (some (MV D ns)) (some (.bl true)) (some (.int D)) (some (rT ns)) none) S := rfl
    obtain ⟨o8, s7⟩ := t_sums (P := P) (S := S) M hr5 hk5 (by omega) (by omega)
    rw [seq_of s3, seq_of (t_kinds M.len), seq_of s5, seq_of (t_ints M.pos (by rw [M.len]; omega)), seq_of s7]
    exact t_end M (by omega) o8
end Z
end
end
section
set_option Elab.async false
set_option linter.all false
set_option maxRecDepth 100000
set_option maxHeartbeats 2000000
set_option exponentiation.threshold 10000
/-! K26T: the law's loops. -/
noncomputable section
namespace Z
open PySem PySem.Spec PyProof.Rows L2

theorem dr : DrOk d__law_draw := dr_of (k1 := 72547) (k2 := 1873) (m1 := 2147483647) (k3 := 52901) (k4 := 1207) (m2 := 2147483549) (k5 := 733) (k6 := 45433) (k7 := 829) (m3 := 2147483489) ⟨by decide, by decide⟩ ⟨by decide, by decide⟩ ⟨by decide, by decide⟩ ⟨by decide, by decide⟩ ⟨by decide, by decide⟩ ⟨by decide, by decide⟩ ⟨by decide, by decide⟩ ⟨by decide, by decide⟩ ⟨by decide, by decide⟩
def p0 : DS := dSet 1 (dFn d__law_pen (dCons (dVar 0) (dNil)))
def p1 : DS := dKeep [1, 7]
def q2_0 : DS := dPar 3 4 (dCons (dBin addP (dC (.int 1)) (dFn d__law_draw (dCons (dVar 1) (dCons (dC (.int 7)) (dNil))))) (dCons (dBin eqZ (dFn d__law_draw (dCons (dVar 1) (dCons (dC (.int 3)) (dNil)))) (dC (.int 0))) (dNil)))
def q2_1 : DS := dKeep [1, 3, 4, 7]
def q2_2 : DS := dSet 5 (dFn d__law_rows (dCons (dVar 1) (dCons (dVar 3) (dCons (dFn d__law_draw (dCons (dVar 1) (dCons (dC (.int 8)) (dNil)))) (dCons (dVar 4) (dNil))))))
def q2_3 : DS := dSet 6 (dLc [7] (dEiI (dItV (dFn (clo d__law_free) (dCons (dVar 5) (dNil)))) (dItOwn T0 0 1 (dFn (clo d__law_free) (dCons (dVar 5) (dNil))))) (.nm 7) (dYes) (dBin subZ (dVar 5) (dVar 7)))
def q2_4 : DS := dPar 8 9 (dCons (dApp (clo (newF 0 d_Rows___init__)) (dCons (dVar 3) (dNil))) (dCons (dApp (clo (newF 0 d_Rows___init__)) (dCons (dVar 3) (dNil))) (dNil)))
def q2_5 : DS := dFor (dEiI (dItV (dVar 5)) (dItOwn T0 0 1 (dVar 5))) (.nm 10) (dShS (dSeq (dSet 11 (dApp (listX T0 0 1 (mkNd .lst) listP) (dCons (dVar 9) (dNil)))) (dSeq (dKeep [1, 3, 4, 6, 7, 8, 9, 10, 11]) (dSeq (dSet 9 (dMeth T0 0 (clo d_Rows_more) (dVar 9) (dCons (dVar 10) (dNil)))) (dSeq (dIfS (dAndT (dB (dBin neZ (dApp (listX T0 0 1 (mkNd .lst) listP) (dCons (dVar 9) (dNil))) (dVar 11))) (dB (dBin neZ (dApp (listX T0 0 1 (mkNd .lst) listP) (dCons (dVar 9) (dNil))) (dBin addP (dVar 11) (dLst (dCons (dVar 10) (dNil))))))) (dRet (dC (.bl false))) (dSkip)) (dSeq (dKeep [1, 3, 4, 6, 7, 8, 9, 10]) (dSeq (dSet 8 (dMeth T0 0 (clo d_Rows_more) (dVar 8) (dCons (dVar 10) (dNil)))) (dSeq (dKeep [1, 3, 4, 6, 7, 8, 9, 10]) dSkip))))))))
def q2_6 : DS := dKeep [1, 3, 4, 6, 7, 8, 9]
def q2_7 : DS := dIfS (dOrT (dB (dBin neZ (dApp (listX T0 0 1 (mkNd .lst) listP) (dCons (dVar 9) (dNil))) (dVar 6))) (dOrT (dB (dBin neZ (dApp (listX T0 0 1 (mkNd .lst) listP) (dCons (dVar 8) (dNil))) (dVar 6))) (dOrT (dB (dBin neZ (dApp (lenX 0 (clo d_Rows___len__) lenP) (dCons (dVar 9) (dNil))) (dApp (lenX 0 (clo d_Rows___len__) lenP) (dCons (dVar 6) (dNil))))) (dB (dBin neZ (dAttr T0 0 (dVar 9)) (dVar 3)))))) (dRet (dC (.bl false))) (dSkip)
def q2_8 : DS := dKeep [1, 3, 4, 6, 7, 9]
def q2_9 : DS := dFor (dItA rngP (dCons (dC (.int 5)) (dNil))) (.nm 12) (dShS (dSeq (dSet 13 (dLst (dCons (dFn d__law_row (dCons (dVar 1) (dCons (dVar 3) (dCons (dVar 4) (dNil))))) (dCons (dFn d__law_mixed (dCons (dVar 1) (dCons (dVar 6) (dCons (dVar 3) (dNil))))) (dCons (dApp tupP (dCons (dBin mulT (dLst (dCons (dC (.int 0)) (dNil))) (dVar 3)) (dNil))) (dNil)))))) (dSeq (dKeep [1, 3, 4, 6, 7, 9, 13]) (dSeq (dIfS (dNotT (dTru (dFn d__law_made_right (dCons (dVar 9) (dCons (dVar 6) (dCons (dFn d__law_pick (dCons (dVar 1) (dCons (dVar 13) (dNil)))) (dNil))))))) (dRet (dC (.bl false))) (dSkip)) (dSeq (dKeep [1, 3, 4, 6, 7, 9]) dSkip)))))
def q2_10 : DS := dKeep [1, 6, 7, 9]
def q2_11 : DS := dIfS (dB (dBin neZ (dApp (listX T0 0 1 (mkNd .lst) listP) (dCons (dVar 9) (dNil))) (dVar 6))) (dRet (dC (.bl false))) (dSkip)
def q2_12 : DS := dKeep [1, 7]
def i2 : DI := dItA rngP (dCons (dC (.int 6)) (dNil))
def B2 : DS := dSeqs [q2_0, q2_1, q2_2, q2_3, q2_4, q2_5, q2_6, q2_7, q2_8, q2_9, q2_10, q2_11, q2_12]
def p3 : DS := dKeep []
def p4 : DS := dSet 14 (dFn (clo (dStar 1 d_Rows_of)) (dCons (dC (.int 3)) (dCons (dTup (dCons (dC (.int 1)) (dCons (dC (.int 1)) (dCons (dC (.int 0)) (dNil))))) (dCons (dTup (dCons (dC (.int 0)) (dCons (dC (.int 2)) (dCons (dC (.int 1)) (dNil))))) (dCons (dTup (dCons (dC (.int 2)) (dCons (dC (.int 4)) (dCons (dC (.int 1)) (dNil))))) (dNil))))))
def p5 : DS := dSet 15 (dLst (dCons (dMeth T0 0 (clo d_Rows_made_of) (dFn (clo (dStar 1 d_Rows_of)) (dCons (dC (.int 2)) (dCons (dTup (dCons (dC (.int 2)) (dCons (dC (.int 0)) (dNil)))) (dCons (dTup (dCons (dC (.int 0)) (dCons (dC (.int 3)) (dNil)))) (dNil))))) (dCons (dTup (dCons (dC (.int 1)) (dCons (dC (.int 1)) (dNil)))) (dNil))) (dCons (dMeth T0 0 (clo d_Rows_made_of) (dVar 14) (dCons (dTup (dCons (dC (.int 1)) (dCons (dC (.int 3)) (dCons (dC (.int 1)) (dNil))))) (dNil))) (dCons (dMeth T0 0 (clo d_Rows_made_of) (dVar 14) (dCons (dTup (dCons (dC (.int 1)) (dCons (dC (.int 1)) (dCons (dC (.int 1)) (dNil))))) (dNil))) (dCons (dApp (lenX 0 (clo d_Rows___len__) lenP) (dCons (dVar 14) (dNil))) (dNil))))))
def p6 : DS := dRet (dAnd (dBin eqZ (dVar 15) (dLst (dCons (dTup (dCons (dC (.int 6)) (dCons (dTup (dCons (dC (.int 3)) (dCons (dC (.int 2)) (dNil)))) (dNil)))) (dCons (dTup (dCons (dC (.int 1)) (dCons (dTup (dCons (dC (.int 1)) (dCons (dC (.int 1)) (dNil)))) (dNil)))) (dCons (dC .non) (dCons (dC (.int 2)) (dNil))))))) (dBin eqZ (dApp (lenX 0 (clo d_Rows___len__) lenP) (dCons (dFn (clo (dStar 1 d_Rows_of)) (dCons (dC (.int 4)) (dNil))) (dNil))) (dC (.int 0))))
theorem law_eq : b_law = dSeq p0 (dSeq p1 (dSeq (dFor i2 (.nm 2) (dShS B2)) (dSeq p3 (dSeq p4 (dSeq p5 (p6)))))) := rfl
def u0 : DS := (dSet 11 (dApp (listX T0 0 1 (mkNd .lst) listP) (dCons (dVar 9) (dNil))))
def u1 : DS := (dKeep [1, 3, 4, 6, 7, 8, 9, 10, 11])
def u2 : DS := (dSet 9 (dMeth T0 0 (clo d_Rows_more) (dVar 9) (dCons (dVar 10) (dNil))))
def u3 : DS := (dIfS (dAndT (dB (dBin neZ (dApp (listX T0 0 1 (mkNd .lst) listP) (dCons (dVar 9) (dNil))) (dVar 11))) (dB (dBin neZ (dApp (listX T0 0 1 (mkNd .lst) listP) (dCons (dVar 9) (dNil))) (dBin addP (dVar 11) (dLst (dCons (dVar 10) (dNil))))))) (dRet (dC (.bl false))) (dSkip))
def u4 : DS := (dKeep [1, 3, 4, 6, 7, 8, 9, 10])
def u5 : DS := (dSet 8 (dMeth T0 0 (clo d_Rows_more) (dVar 8) (dCons (dVar 10) (dNil))))
def u6 : DS := (dKeep [1, 3, 4, 6, 7, 8, 9, 10])
def u7 : DS := dSkip
def v0 : DS := (dSet 13 (dLst (dCons (dFn d__law_row (dCons (dVar 1) (dCons (dVar 3) (dCons (dVar 4) (dNil))))) (dCons (dFn d__law_mixed (dCons (dVar 1) (dCons (dVar 6) (dCons (dVar 3) (dNil))))) (dCons (dApp tupP (dCons (dBin mulT (dLst (dCons (dC (.int 0)) (dNil))) (dVar 3)) (dNil))) (dNil))))))
def v1 : DS := (dKeep [1, 3, 4, 6, 7, 9, 13])
def v2 : DS := (dIfS (dNotT (dTru (dFn d__law_made_right (dCons (dVar 9) (dCons (dVar 6) (dCons (dFn d__law_pick (dCons (dVar 1) (dCons (dVar 13) (dNil)))) (dNil))))))) (dRet (dC (.bl false))) (dSkip))
def v3 : DS := (dKeep [1, 3, 4, 6, 7, 9])
def v4 : DS := dSkip
def BU : DS := dSeq u0 (dSeq u1 (dSeq u2 (dSeq u3 (dSeq u4 (dSeq u5 (dSeq u6 u7))))))
def BV : DS := dSeq v0 (dSeq v1 (dSeq v2 (dSeq v3 v4)))
theorem q5_eq : q2_5 = dFor (dEiI (dItV (dVar 5)) (dItOwn T0 0 1 (dVar 5))) (.nm 10) (dShS BU) := rfl
theorem q9_eq : q2_9 = dFor (dItA rngP (dCons (dC (.int 5)) (dNil))) (.nm 12) (dShS BV) := rfl
theorem shS_same {B : DS} {l l1 : Loc} {S S1 : Sto} (h : B l S = .nx l1 S1) (hl : S1.length ≤ S.length) : dShS B l S = .nx l1 S1 := by
  unfold dShS
  rw [h]
  show shL S l1 S1 .nx = _
  unfold shL
  rw [if_pos hl]
theorem dFn_of2 {f : DF} {ar : DA} {l : Loc} {S S1 S2 : Sto} {xs : List PV} {v : PV} (h : ar l S = .ok xs S1) (hf : f xs S1 = .ok v S2) : dFn f ar l S = .ok v S2 := by
  rw [dFn_ap, h]
  exact hf
def Lt (o2 o3 o4 o5 o6 o8 o9 o10 o11 o12 o13 : Option PV) : Loc := [none, some (.ref 0), o2, o3, o4, o5, o6, none, o8, o9, o10, o11, o12, o13, none, none]
theorem lstep_kept (w : Nat) (s : LS) (r : List Int) : (lstep w s r).kept = s.kept ∨ (lstep w s r).kept = s.kept ++ [r] := by
  unfold lstep
  split
  · exact .inl rfl
  · exact .inr rfl
section
variable {w b : Nat} {S : Sto} {wd : Bool} {K o10 : Option PV}
theorem fill_turn (hb0 : 1 ≤ b) (hb1 : b ≤ 300) (hw1 : 1 ≤ w) (hw : w ≤ 7) {A : List (List Int)} {r : List Int} {o5 : Option PV} (hA : ∀ q ∈ A ++ [r], RwOk w b q) (hS : S.all Option.isSome = true) :
    dShS BU (Lt none (some (.int (w : Nat))) (some (.bl wd)) o5 K (some (lotV w (lS w A).kept (lS w A).P)) (some (lotV w (lS w A).kept (lS w A).P)) (some (rT r)) none none none) S = .nx (Lt none (some (.int (w : Nat))) (some (.bl wd)) none K (some (lotV w (lS w (A ++ [r])).kept (lS w (A ++ [r])).P)) (some (lotV w (lS w (A ++ [r])).kept (lS w (A ++ [r])).P)) (some (rT r)) none none none) S := by
  refine shS_same ?_ (Nat.le_refl _)
  have J := Jt.all hb0 A fun q h => hA q (List.mem_append_left _ h)
  have J2 := Jt.all hb0 (A ++ [r]) hA
  have hm := Jt.step_more hb0 hb1 hw1 hw hA
  have hk := lstep_kept w (lS w A) r
  rw [← lS_snoc] at hk
  have hk1 : (lS w A).kept.length ≤ 7 := by rw [← J.lot.ln]; exact Nat.le_trans J.lot.rm hw
  have hk2 : (lS w (A ++ [r])).kept.length ≤ 7 := by rw [← J2.lot.ln]; exact Nat.le_trans J2.lot.rm hw
  generalize lS w (A ++ [r]) = s2 at *
  generalize lS w A = s at *
  have f2 : fitsL 0 [lotV w s.kept s.P, rT r] = true := fits2 0 w s.kept s.P r
  have hmc : ∀ (i : Nat) (l : Loc), dVar i l S = .ok (lotV w s.kept s.P) S → dVar 10 l S = .ok (rT r) S → dMeth T0 0 (clo d_Rows_more) (dVar i) (dCons (dVar 10) (dNil)) l S = .ok (lotV w s2.kept s2.P) S := by
    intro i l h1 h2
    have : dMeth T0 0 (clo d_Rows_more) (dVar i) (dCons (dVar 10) (dNil)) l S = (dVar i l S).bind fun o S1 => if insOk T0 0 o S1 = true then (dCons (dVar 10) (dNil) l S1).bind fun xs S2 => clo d_Rows_more (o :: xs) S2 else .bad := rfl
    rw [this, h1, bind_ok, if_pos (insOk_lot _ _ _ S), dCons_ap, h2, bind_ok, dNil_ap, bind_ok, bind_ok]
    exact clo_eq f2 hS hm
  have t0 : u0 (Lt none (some (.int (w : Nat))) (some (.bl wd)) o5 K (some (lotV w s.kept s.P)) (some (lotV w s.kept s.P)) (some (rT r)) none none none) S = .nx (Lt none (some (.int (w : Nat))) (some (.bl wd)) o5 K (some (lotV w s.kept s.P)) (some (lotV w s.kept s.P)) (some (rT r)) (some (.nd .lst (s.kept.map rT))) none none) S := by
    refine dSet_of (v := .nd .lst (s.kept.map rT)) ?_
    have v9 : dVar 9 (Lt none (some (.int (w : Nat))) (some (.bl wd)) o5 K (some (lotV w s.kept s.P)) (some (lotV w s.kept s.P)) (some (rT r)) none none none) S = .ok (lotV w s.kept s.P) S := rfl
    rw [dApp_ap, dCons_ap, v9, bind_ok, dNil_ap, bind_ok, bind_ok, list_lot w s.kept s.P S (by omega)]
  have t1 : u1 (Lt none (some (.int (w : Nat))) (some (.bl wd)) o5 K (some (lotV w s.kept s.P)) (some (lotV w s.kept s.P)) (some (rT r)) (some (.nd .lst (s.kept.map rT))) none none) S = .nx (Lt none (some (.int (w : Nat))) (some (.bl wd)) none K (some (lotV w s.kept s.P)) (some (lotV w s.kept s.P)) (some (rT r)) (some (.nd .lst (s.kept.map rT))) none none) S := rfl
  have t2 : u2 (Lt none (some (.int (w : Nat))) (some (.bl wd)) none K (some (lotV w s.kept s.P)) (some (lotV w s.kept s.P)) (some (rT r)) (some (.nd .lst (s.kept.map rT))) none none) S = .nx (Lt none (some (.int (w : Nat))) (some (.bl wd)) none K (some (lotV w s.kept s.P)) (some (lotV w s2.kept s2.P)) (some (rT r)) (some (.nd .lst (s.kept.map rT))) none none) S := dSet_of (hmc 9 _ rfl rfl)
  have t3 : u3 (Lt none (some (.int (w : Nat))) (some (.bl wd)) none K (some (lotV w s.kept s.P)) (some (lotV w s2.kept s2.P)) (some (rT r)) (some (.nd .lst (s.kept.map rT))) none none) S = .nx (Lt none (some (.int (w : Nat))) (some (.bl wd)) none K (some (lotV w s.kept s.P)) (some (lotV w s2.kept s2.P)) (some (rT r)) (some (.nd .lst (s.kept.map rT))) none none) S := by
    have v9 : dVar 9 (Lt none (some (.int (w : Nat))) (some (.bl wd)) none K (some (lotV w s.kept s.P)) (some (lotV w s2.kept s2.P)) (some (rT r)) (some (.nd .lst (s.kept.map rT))) none none) S = .ok (lotV w s2.kept s2.P) S := rfl
    have v10 : dVar 10 (Lt none (some (.int (w : Nat))) (some (.bl wd)) none K (some (lotV w s.kept s.P)) (some (lotV w s2.kept s2.P)) (some (rT r)) (some (.nd .lst (s.kept.map rT))) none none) S = .ok (rT r) S := rfl
    have v11 : dVar 11 (Lt none (some (.int (w : Nat))) (some (.bl wd)) none K (some (lotV w s.kept s.P)) (some (lotV w s2.kept s2.P)) (some (rT r)) (some (.nd .lst (s.kept.map rT))) none none) S = .ok (.nd .lst (s.kept.map rT)) S := rfl
    generalize Lt none (some (.int (w : Nat))) (some (.bl wd)) none K (some (lotV w s.kept s.P)) (some (lotV w s2.kept s2.P)) (some (rT r)) (some (.nd .lst (s.kept.map rT))) none none = l at v9 v10 v11 ⊢
    have hl := list_lot w s2.kept s2.P S (by omega)
    have hm1 : mkNd .lst [rT r] S = .ok (.nd .lst [rT r]) S := mkNd_ok _ (by simp)
    have ha : mkNd .lst (s.kept.map rT ++ [rT r]) S = .ok (.nd .lst ((s.kept ++ [r]).map rT)) S := by
      rw [mkNd_ok _ (by rw [List.length_append, List.length_map]; simp; omega), List.map_append]
      rfl
    have c1 : dB (dBin neZ (dApp (listX T0 0 1 (mkNd .lst) listP) (dCons (dVar 9) (dNil))) (dVar 11)) l S = .ok (!decide (s2.kept = s.kept)) S := by
      rw [dB_ap, dBin_ap, dApp_ap, dCons_ap, v9, bind_ok, dNil_ap, bind_ok, bind_ok, hl, bind_ok, v11, bind_ok, neZ_rT, asB_ok]
    have c2 : dB (dBin neZ (dApp (listX T0 0 1 (mkNd .lst) listP) (dCons (dVar 9) (dNil))) (dBin addP (dVar 11) (dLst (dCons (dVar 10) (dNil))))) l S = .ok (!decide (s2.kept = s.kept ++ [r])) S := by
      rw [dB_ap, dBin_ap, dApp_ap, dCons_ap, v9, bind_ok, dNil_ap, bind_ok, bind_ok, hl, bind_ok, dBin_ap, v11, bind_ok, dLst_ap, dCons_ap, v10, bind_ok, dNil_ap, bind_ok, bind_ok, hm1, bind_ok, addP_lst, ha, bind_ok, neZ_rT, asB_ok]
    have hc : (dAndT (dB (dBin neZ (dApp (listX T0 0 1 (mkNd .lst) listP) (dCons (dVar 9) (dNil))) (dVar 11))) (dB (dBin neZ (dApp (listX T0 0 1 (mkNd .lst) listP) (dCons (dVar 9) (dNil))) (dBin addP (dVar 11) (dLst (dCons (dVar 10) (dNil))))))) l S = .ok false S := by
      rw [dAndT_ap, c1, bind_ok, c2]
      rcases hk with h | h
      · rw [decide_eq_true h]; rfl
      · rw [decide_eq_true h]
        cases decide (s2.kept = s.kept) <;> rfl
    show (dIfS _ _ _) l S = _
    rw [dIfS_ap, hc]
    rfl
  have t4 : u4 (Lt none (some (.int (w : Nat))) (some (.bl wd)) none K (some (lotV w s.kept s.P)) (some (lotV w s2.kept s2.P)) (some (rT r)) (some (.nd .lst (s.kept.map rT))) none none) S = .nx (Lt none (some (.int (w : Nat))) (some (.bl wd)) none K (some (lotV w s.kept s.P)) (some (lotV w s2.kept s2.P)) (some (rT r)) none none none) S := rfl
  have t5 : u5 (Lt none (some (.int (w : Nat))) (some (.bl wd)) none K (some (lotV w s.kept s.P)) (some (lotV w s2.kept s2.P)) (some (rT r)) none none none) S = .nx (Lt none (some (.int (w : Nat))) (some (.bl wd)) none K (some (lotV w s2.kept s2.P)) (some (lotV w s2.kept s2.P)) (some (rT r)) none none none) S := dSet_of (hmc 8 _ rfl rfl)
  unfold BU
  rw [seq_of t0, seq_of t1, seq_of t2, seq_of t3, seq_of t4, seq_of t5]
  rfl
theorem fill (hb0 : 1 ≤ b) (hb1 : b ≤ 300) (hw1 : 1 ≤ w) (hw : w ≤ 7) {A : List (List Int)} (hA : ∀ q ∈ A, RwOk w b q) (hS : S.all Option.isSome = true) :
    ∃ o5 o10, q2_5 (Lt none (some (.int (w : Nat))) (some (.bl wd)) (some (.nd .lst (A.map rT))) K (some (lotV w [] [])) (some (lotV w [] [])) none none none none) S = .nx (Lt none (some (.int (w : Nat))) (some (.bl wd)) o5 K (some (lotV w (lS w A).kept (lS w A).P)) (some (lotV w (lS w A).kept (lS w A).P)) o10 none none none) S := by
  have hi : dEiI (dItV (dVar 5)) (dItOwn T0 0 1 (dVar 5)) (Lt none (some (.int (w : Nat))) (some (.bl wd)) (some (.nd .lst (A.map rT))) K (some (lotV w [] [])) (some (lotV w [] [])) none none none none) S = .ok ⟨A.map rT, []⟩ S := by
    have h1 : dItV (dVar 5) (Lt none (some (.int (w : Nat))) (some (.bl wd)) (some (.nd .lst (A.map rT))) K (some (lotV w [] [])) (some (lotV w [] [])) none none none none) S = .ok ⟨A.map rT, []⟩ S := rfl
    unfold dEiI
    rw [h1]
  obtain ⟨l', S', f1, ⟨⟨o5, o10, rfl⟩, rfl⟩⟩ := forZ_inv (t := .nm 10) (hs := []) (b := dShS BU) (fun i l S2 => (∃ o5 o10, l = Lt none (some (.int (w : Nat))) (some (.bl wd)) o5 K (some (lotV w (lS w (A.take i)).kept (lS w (A.take i)).P)) (some (lotV w (lS w (A.take i)).kept (lS w (A.take i)).P)) o10 none none none) ∧ S2 = S) (A.map rT) 0 (Lt none (some (.int (w : Nat))) (some (.bl wd)) (some (.nd .lst (A.map rT))) K (some (lotV w [] [])) (some (lotV w [] [])) none none none none) S ⟨⟨_, _, rfl⟩, rfl⟩ (by
    rintro i x l S2 hx ⟨⟨o5, o10, rfl⟩, rfl⟩
    rw [Nat.zero_add] at *
    have hil : i < A.length := by
      have := (List.getElem?_eq_some_iff.mp hx).1
      rwa [List.length_map] at this
    rw [List.getElem?_map, Option.map_eq_some_iff] at hx
    obtain ⟨r, hi, rfl⟩ := hx
    have ht : A.take (i + 1) = A.take i ++ [r] := by rw [List.take_add_one, hi]; rfl
    have hA2 : ∀ q ∈ A.take i ++ [r], RwOk w b q := by
      rw [← ht]
      exact fun q h => hA q (List.mem_of_mem_take h)
    rw [ht]
    exact ⟨_, _, S2, asg1, fill_turn (wd := wd) (K := K) (o5 := o5) hb0 hb1 hw1 hw hA2 hS, heldB_nil _, ⟨_, _, rfl⟩, rfl⟩)
  rw [Nat.zero_add, List.length_map, List.take_length] at f1
  exact ⟨o5, o10, by rw [q5_eq, dFor_eq hi (heldB_nil _), f1]⟩
end
theorem zerosT (w : Nat) (hw : w ≤ 7) (l : Loc) (S : Sto) (hv : dVar 3 l S = .ok (.int (w : Nat)) S) : dApp tupP (dCons (dBin mulT (dLst (dCons (dC (.int 0)) (dNil))) (dVar 3)) (dNil)) l S = .ok (rT (List.replicate w 0)) S := by
  have hm : mkNd .lst [PV.int 0] S = .ok (.nd .lst [.int 0]) S := mkNd_ok _ (by simp)
  have hmul : mulT (.nd .lst [.int 0]) (.int (w : Nat)) S = .ok (.nd .lst ((List.replicate w 0).map .int)) S := by
    clear hv
    rcases (by omega : w = 0 ∨ w = 1 ∨ w = 2 ∨ w = 3 ∨ w = 4 ∨ w = 5 ∨ w = 6 ∨ w = 7) with rfl | rfl | rfl | rfl | rfl | rfl | rfl | rfl <;> kernel_rfl
  rw [dApp_ap, dCons_ap, dBin_ap, dLst_ap, dCons_ap, dC_ap, bind_ok, dNil_ap, bind_ok, bind_ok, hm, bind_ok, hv, bind_ok, hmul, bind_ok, dNil_ap, bind_ok, bind_ok, tupP_lst]
  rfl
def Lv (w : Nat) (wd : Bool) (s : LS) (o12 o13 : Option PV) : Loc := Lt none (some (.int (w : Nat))) (some (.bl wd)) none (some (.nd .lst (s.kept.map rT))) none (some (lotV w s.kept s.P)) none none o12 o13
theorem lap {w n : Nat} {rows : List (List Int)} {S : Sto} {wd : Bool} {x : PV} (hw1 : 1 ≤ w) (hw : w ≤ 7) (hr : ∀ q ∈ rows, RwOk w 190 q) (hn : n + 15 ≤ 100000) (hP : PenS n [] S) :
    ∃ S', dShS BV (Lv w wd (lS w rows) (some x) none) S = .nx (Lv w wd (lS w rows) none none) S' ∧ PenS (n + 15) [] S' := by
  have hr6 : ∀ q ∈ rows, RwOk w 196 q := fun q h => (hr q h).mono (by decide)
  have J := Jt.all (b := 190) (by decide) rows hr
  have hkl : (lS w rows).kept.length ≤ 7 := by rw [← J.lot.ln]; exact Nat.le_trans J.lot.rm hw
  obtain ⟨r1, S1, f1, g1, P1⟩ := d_row dr wd (w := w) hP hw (by omega)
  obtain ⟨r2, S2, f2, g2, P2⟩ := d_mixed dr (w := w) (b := 190) (sq := .nd .lst ((lS w rows).kept.map rT)) (rows := (lS w rows).kept) (held := []) P1 hw (by omega) (by omega) (fun m S' h => ⟨rfl, heldB_nil _⟩) hkl J.ok
  have g0 : RwOk w 196 (List.replicate w 0) := ⟨by simp, fun x hx => by rw [(List.mem_replicate.mp hx).2]; exact Nat.pow_pos (by decide)⟩
  obtain ⟨y, S3, f3, g3, P3⟩ := pick_ok dr (xs := [rT r1, rT r2, rT (List.replicate w 0)]) P2 (by omega) (by simp) (by simp)
  obtain ⟨r, rfl, hrr⟩ : ∃ r, y = rT r ∧ RwOk w 196 r := by
    simp only [List.mem_cons, List.not_mem_nil, or_false] at g3
    rcases g3 with rfl | rfl | rfl
    · exact ⟨r1, rfl, g1.mono (by decide)⟩
    · exact ⟨r2, rfl, g2⟩
    · exact ⟨_, rfl, g0⟩
  have f3 : d__law_pick [.ref 0, .nd .lst [rT r1, rT r2, rT (List.replicate w 0)]] S2 = .ok (rT r) S3 := f3
  have hS3 : S3.all Option.isSome = true := P3.isSome rfl
  have hmr := d_mr (S := S3) (b := 196) (rows := rows) (r := r) (by decide) (by decide) hw hr6 hrr hS3
  generalize lS w rows = s at *
  have t0 : v0 (Lv w wd s (some x) none) S = .nx (Lv w wd s (some x) (some (.nd .lst [rT r1, rT r2, rT (List.replicate w 0)]))) S2 := by
    have hset : ∀ u, (Lv w wd s (some x) none).set 13 (some u) = Lv w wd s (some x) (some u) := fun u => rfl
    rw [← hset]
    have v1 : ∀ S, dVar 1 (Lv w wd s (some x) none) S = .ok (.ref 0) S := fun S => rfl
    have v3 : ∀ S, dVar 3 (Lv w wd s (some x) none) S = .ok (.int (w : Nat)) S := fun S => rfl
    have v4 : ∀ S, dVar 4 (Lv w wd s (some x) none) S = .ok (.bl wd) S := fun S => rfl
    have v6 : ∀ S, dVar 6 (Lv w wd s (some x) none) S = .ok (.nd .lst (s.kept.map rT)) S := fun S => rfl
    generalize Lv w wd s (some x) none = l at v1 v3 v4 v6 ⊢
    have a1 : dCons (dVar 1) (dCons (dVar 3) (dCons (dVar 4) (dNil))) l S = .ok [.ref 0, .int (w : Nat), .bl wd] S := by
      rw [dCons_ap, v1, bind_ok, dCons_ap, v3, bind_ok, dCons_ap, v4, bind_ok, dNil_ap, bind_ok, bind_ok, bind_ok]
    have a2 : dCons (dVar 1) (dCons (dVar 6) (dCons (dVar 3) (dNil))) l S1 = .ok [.ref 0, .nd .lst (s.kept.map rT), .int (w : Nat)] S1 := by
      rw [dCons_ap, v1, bind_ok, dCons_ap, v6, bind_ok, dCons_ap, v3, bind_ok, dNil_ap, bind_ok, bind_ok, bind_ok]
    have hz := zerosT w hw l S2 (v3 S2)
    have hm : ∀ a b c : PV, mkNd .lst [a, b, c] S2 = .ok (.nd .lst [a, b, c]) S2 := fun a b c => mkNd_ok _ (by simp)
    refine dSet_of ?_
    rw [dLst_ap, dCons_ap, dFn_of2 a1 f1, bind_ok, dCons_ap, dFn_of2 a2 f2, bind_ok, dCons_ap, hz, bind_ok, dNil_ap, bind_ok, bind_ok, bind_ok, bind_ok, hm]
  have t1 : v1 (Lv w wd s (some x) (some (.nd .lst [rT r1, rT r2, rT (List.replicate w 0)]))) S2 = .nx (Lv w wd s none (some (.nd .lst [rT r1, rT r2, rT (List.replicate w 0)]))) S2 := rfl
  have t2 : v2 (Lv w wd s none (some (.nd .lst [rT r1, rT r2, rT (List.replicate w 0)]))) S2 = .nx (Lv w wd s none (some (.nd .lst [rT r1, rT r2, rT (List.replicate w 0)]))) S3 := by
    have v1 : ∀ S, dVar 1 (Lv w wd s none (some (.nd .lst [rT r1, rT r2, rT (List.replicate w 0)]))) S = .ok (.ref 0) S := fun S => rfl
    have v6 : ∀ S, dVar 6 (Lv w wd s none (some (.nd .lst [rT r1, rT r2, rT (List.replicate w 0)]))) S = .ok (.nd .lst (s.kept.map rT)) S := fun S => rfl
    have v9 : ∀ S, dVar 9 (Lv w wd s none (some (.nd .lst [rT r1, rT r2, rT (List.replicate w 0)]))) S = .ok (lotV w s.kept s.P) S := fun S => rfl
    have v13 : ∀ S, dVar 13 (Lv w wd s none (some (.nd .lst [rT r1, rT r2, rT (List.replicate w 0)]))) S = .ok (.nd .lst [rT r1, rT r2, rT (List.replicate w 0)]) S := fun S => rfl
    generalize Lv w wd s none (some (.nd .lst [rT r1, rT r2, rT (List.replicate w 0)])) = l at v1 v6 v9 v13 ⊢
    have a0 : dCons (dVar 1) (dCons (dVar 13) (dNil)) l S2 = .ok [.ref 0, .nd .lst [rT r1, rT r2, rT (List.replicate w 0)]] S2 := by
      rw [dCons_ap, v1, bind_ok, dCons_ap, v13, bind_ok, dNil_ap, bind_ok, bind_ok]
    have a1 : dCons (dVar 9) (dCons (dVar 6) (dCons (dFn d__law_pick (dCons (dVar 1) (dCons (dVar 13) (dNil)))) (dNil))) l S2 = .ok [lotV w s.kept s.P, .nd .lst (s.kept.map rT), rT r] S3 := by
      rw [dCons_ap, v9, bind_ok, dCons_ap, v6, bind_ok, dCons_ap, dFn_of2 a0 f3, bind_ok, dNil_ap, bind_ok, bind_ok, bind_ok]
    have tt : truP (.bl true) S3 = .ok true S3 := rfl
    show (dIfS _ _ _) l S2 = _
    rw [dIfS_ap, dNotT_ap, dTru_ap, dFn_of2 a1 hmr, bind_ok, tt, bind_ok, st_ok]
    rfl
  have t3 : v3 (Lv w wd s none (some (.nd .lst [rT r1, rT r2, rT (List.replicate w 0)]))) S3 = .nx (Lv w wd s none none) S3 := rfl
  refine ⟨S3, shS_same ?_ (by rw [P3.len, hP.len]; exact Nat.le_refl _), P3⟩
  unfold BV
  rw [seq_of t0, seq_of t1, seq_of t2, seq_of t3]
  rfl
theorem laps {w n : Nat} {rows : List (List Int)} {S : Sto} {wd : Bool} (hw1 : 1 ≤ w) (hw : w ≤ 7) (hr : ∀ q ∈ rows, RwOk w 190 q) (hn : n + 75 ≤ 100000) (hP : PenS n [] S) :
    ∃ S', q2_9 (Lv w wd (lS w rows) none none) S = .nx (Lv w wd (lS w rows) none none) S' ∧ PenS (n + 75) [] S' := by
  obtain ⟨l', S', f1, rfl, f3, _⟩ := forZ_inv (t := .nm 12) (hs := []) (b := dShS BV) (fun i l S => l = Lv w wd (lS w rows) none none ∧ PenS (n + 15 * i) [] S ∧ i ≤ 5) (rngZ 0 5) 0 (Lv w wd (lS w rows) none none) S ⟨rfl, hP, by decide⟩ (by
    rintro i x l S hx ⟨rfl, hP, hi⟩
    rw [Nat.zero_add] at *
    obtain ⟨hi2, rfl⟩ := rngZ_get hx
    obtain ⟨S', g1, g2⟩ := lap (x := .int (0 + (i : Nat))) (wd := wd) hw1 hw hr (by omega) hP
    refine ⟨_, _, S', asg1, g1, heldB_nil _, rfl, ?_, hi2⟩
    have e : n + 15 * (i + 1) = n + 15 * i + 15 := by omega
    rw [e]; exact g2)
  rw [Nat.zero_add, rngZ_len] at f3
  have hi : dItA rngP (dCons (dC (.int 5)) (dNil)) (Lv w wd (lS w rows) none none) S = .ok ⟨rngZ 0 5, []⟩ S := dItA_of (xs := [.int (5 : Nat)]) rfl (rngP_nat 5 S (by decide))
  exact ⟨S', by rw [q9_eq, dFor_eq hi (heldB_nil _), f1], f3⟩
end Z
end
end
section
set_option Elab.async false
set_option linter.all false
set_option maxRecDepth 100000
set_option maxHeartbeats 2000000
set_option exponentiation.threshold 10000
/-! K26U: the law. -/
noncomputable section
namespace Z
open PySem PySem.Spec PyProof.Rows L2

theorem loop_penI {B : DS} {t : TgZ} {l0 : Loc} {k n0 : Nat} {S0 : Sto} {items : List PV} (I : Loc → Prop) (hI : ∀ l, I l → l.all (fitsV 1) = true) (h0 : I l0) (hP : PenS n0 [] S0) (hb : n0 + k * items.length ≤ 100000)
    (step : ∀ n S x l, x ∈ items → I l → PenS n [] S → n + k ≤ 100000 → ∃ ps l' S' T', asg t x = some ps ∧ B (setZ l ps) S = .nx l' S' ∧ I l' ∧ PenS (n + k) T' S') :
    ∃ l' S1, forZ t [] (dShS B) items l0 S0 = .nx l' S1 ∧ I l' ∧ PenS (n0 + k * items.length) [] S1 := by
  obtain ⟨l', S', h1, h2, h3⟩ := forZ_inv (t := t) (hs := []) (b := dShS B) (fun i l S => I l ∧ PenS (n0 + k * i) [] S ∧ i ≤ items.length) items 0 l0 S0 ⟨h0, hP, Nat.zero_le _⟩ (by
    rintro i x l S hx ⟨hl, hi, hle⟩
    rw [Nat.zero_add] at hi ⊢
    have hlt : i < items.length := (List.getElem?_eq_some_iff.mp hx).1
    have hm : k * i + k ≤ k * items.length := by
      have := Nat.mul_le_mul_left k hlt
      rw [Nat.mul_succ] at this
      exact this
    obtain ⟨ps, l1, S1, T1, g1, g2, g3, g4⟩ := step (n0 + k * i) S x l (List.mem_of_getElem? hx) hl hi (by omega)
    obtain ⟨S2, g5, g6⟩ := shS_pen hi g2 g4 (hI l1 g3)
    refine ⟨ps, l1, S2, g1, g5, heldB_nil _, g3, ?_, hlt⟩
    have e : n0 + k * (i + 1) = n0 + k * i + k := by rw [Nat.mul_succ]; omega
    rw [e]; exact g6)
  rw [Nat.zero_add] at h3
  exact ⟨l', S', h1, h2, h3.1⟩
def L0 : Loc := Lt none none none none none none none none none none none
def Lk (w : Nat) (wd : Bool) (s : LS) : Loc := Lt none (some (.int (w : Nat))) (some (.bl wd)) none (some (.nd .lst (s.kept.map rT))) (some (lotV w s.kept s.P)) (some (lotV w s.kept s.P)) none none none none
theorem q7_ok {w : Nat} {wd : Bool} {s : LS} {S : Sto} (hk : s.kept.length ≤ 7) (hS : S.all Option.isSome = true) : q2_7 (Lk w wd s) S = .nx (Lk w wd s) S := by
  have v9 : dVar 9 (Lk w wd s) S = .ok (lotV w s.kept s.P) S := rfl
  have v8 : dVar 8 (Lk w wd s) S = .ok (lotV w s.kept s.P) S := rfl
  have v6 : dVar 6 (Lk w wd s) S = .ok (.nd .lst (s.kept.map rT)) S := rfl
  have v3 : dVar 3 (Lk w wd s) S = .ok (.int (w : Nat)) S := rfl
  generalize Lk w wd s = l at v9 v8 v6 v3 ⊢
  have hl := list_lot w s.kept s.P S (by omega)
  have hn : neZ (.nd .lst (s.kept.map rT)) (.nd .lst (s.kept.map rT)) S = .ok (.bl false) S := by
    rw [neZ_rT, decide_eq_true rfl]
    rfl
  unfold q2_7
  rw [dIfS_ap, dOrT_ap, dB_ap, dBin_ap, dApp_ap, dCons_ap, v9, bind_ok, dNil_ap, bind_ok, bind_ok, hl, bind_ok, v6, bind_ok, hn, asB_ok, bind_ok, if_neg (by decide), dOrT_ap, dB_ap, dBin_ap, dApp_ap, dCons_ap, v8, bind_ok, dNil_ap, bind_ok, bind_ok, hl, bind_ok, v6, bind_ok, hn, asB_ok, bind_ok, if_neg (by decide), dOrT_ap, dB_ap, dBin_ap, dApp_ap, dCons_ap, v9, bind_ok, dNil_ap, bind_ok, bind_ok, len_lot w s.kept s.P S hS (by omega), bind_ok, dApp_ap, dCons_ap, v6, bind_ok, dNil_ap, bind_ok, bind_ok, len_lst, bind_ok, neZ_ii, asB_ok, bind_ok, if_neg (by decide), dB_ap, dBin_ap, dAttr_ap, v9, bind_ok, getF_0, bind_ok, v3, bind_ok, neZ_ii]
  rfl
theorem turn {n : Nat} {S : Sto} {x : PV} (hP : PenS n [] S) (hn : n + 150 ≤ 100000) : ∃ S', B2 (Lt (some x) none none none none none none none none none none) S = .nx L0 S' ∧ PenS (n + 150) [] S' := by
  obtain ⟨v, S1, f1, g1, g2, P1⟩ := dr n _ S 7 hP (by omega) (by decide) (by decide)
  obtain ⟨a, rfl⟩ := Int.eq_ofNat_of_zero_le g1
  obtain ⟨w, hwe, hw1, hw⟩ : ∃ w : Nat, (1 : Int) + (a : Nat) = (w : Nat) ∧ 1 ≤ w ∧ w ≤ 7 := ⟨a + 1, by omega, by omega, by omega⟩
  obtain ⟨v2, S2, f2, _, _, P2⟩ := dr (n + 1) _ S1 3 P1 (by omega) (by decide) (by decide)
  obtain ⟨wd, hwd⟩ : ∃ wd : Bool, decide (v2 = 0) = wd := ⟨_, rfl⟩
  obtain ⟨N, S3, f3, g3, g4, P3⟩ := dr (n + 1 + 1) _ S2 8 P2 (by omega) (by decide) (by decide)
  obtain ⟨N, rfl⟩ := Int.eq_ofNat_of_zero_le g3
  obtain ⟨rows, S4, f4, hl, hr, P4⟩ := d_rows dr wd (N := N) (w := w) hw (by omega) (by omega) P3
  have hS4 : S4.all Option.isSome = true := P4.isSome rfl
  have s0 : q2_0 (Lt (some x) none none none none none none none none none none) S = .nx (Lt (some x) (some (.int (w : Nat))) (some (.bl wd)) none none none none none none none none) S2 := by
    have a1 : dCons (dBin addP (dC (.int 1)) (dFn d__law_draw (dCons (dVar 1) (dCons (dC (.int 7)) (dNil))))) (dCons (dBin eqZ (dFn d__law_draw (dCons (dVar 1) (dCons (dC (.int 3)) (dNil)))) (dC (.int 0))) (dNil)) (Lt (some x) none none none none none none none none none none) S = .ok [.int (w : Nat), .bl wd] S2 := by
      rw [dCons_ap, dBin_ap, dC_ap, bind_ok, dFn_of (xs := [.ref 0, .int 7]) rfl f1, bind_ok, addP_int, hwe, bind_ok, dCons_ap, dBin_ap, dFn_of (xs := [.ref 0, .int 3]) rfl f2, bind_ok, dC_ap, bind_ok, eqZ_int, hwd, bind_ok, dNil_ap, bind_ok, bind_ok]
    unfold q2_0
    rw [dPar_ap, a1]
    rfl
  have s1 : q2_1 (Lt (some x) (some (.int (w : Nat))) (some (.bl wd)) none none none none none none none none) S2 = .nx (Lt none (some (.int (w : Nat))) (some (.bl wd)) none none none none none none none none) S2 := rfl
  have s2 : q2_2 (Lt none (some (.int (w : Nat))) (some (.bl wd)) none none none none none none none none) S2 = .nx (Lt none (some (.int (w : Nat))) (some (.bl wd)) (some (.nd .lst (rows.map rT))) none none none none none none none) S4 := by
    refine dSet_of (v := .nd .lst (rows.map rT)) (dFn_of2 (xs := [.ref 0, .int (w : Nat), .int (N : Nat), .bl wd]) (S1 := S3) ?_ f4)
    have v1 : ∀ S, dVar 1 (Lt none (some (.int (w : Nat))) (some (.bl wd)) none none none none none none none none) S = .ok (.ref 0) S := fun S => rfl
    have v3 : ∀ S, dVar 3 (Lt none (some (.int (w : Nat))) (some (.bl wd)) none none none none none none none none) S = .ok (.int (w : Nat)) S := fun S => rfl
    have v4 : ∀ S, dVar 4 (Lt none (some (.int (w : Nat))) (some (.bl wd)) none none none none none none none none) S = .ok (.bl wd) S := fun S => rfl
    rw [dCons_ap, v1, bind_ok, dCons_ap, v3, bind_ok, dCons_ap, dFn_of (xs := [.ref 0, .int 8]) rfl f3, bind_ok, dCons_ap, v4, bind_ok, dNil_ap, bind_ok, bind_ok, bind_ok, bind_ok]
  have bA := basis_lc (A := rows) (b := 190) (by decide) (by decide) hw hr (by omega) hS4 (v := 7) (i := 5) (d := dVar 5) (l := Lt none (some (.int (w : Nat))) (some (.bl wd)) (some (.nd .lst (rows.map rT))) none none none none none none none) (db := dItOwn T0 0 1 (dFn (clo d__law_free) (dCons (dVar 5) (dNil)))) rfl (fun x => rfl)
  have s3 : q2_3 (Lt none (some (.int (w : Nat))) (some (.bl wd)) (some (.nd .lst (rows.map rT))) none none none none none none none) S4 = .nx (Lt none (some (.int (w : Nat))) (some (.bl wd)) (some (.nd .lst (rows.map rT))) (some (.nd .lst ((lS w rows).kept.map rT))) none none none none none none) S4 := dSet_of bA
  have hnew := clo_eq (S := S4) (show fitsL 0 [.int (w : Nat)] = true from rfl) hS4 (newF_ok w hw1 hw)
  have s4 : q2_4 (Lt none (some (.int (w : Nat))) (some (.bl wd)) (some (.nd .lst (rows.map rT))) (some (.nd .lst ((lS w rows).kept.map rT))) none none none none none none) S4 = .nx (Lt none (some (.int (w : Nat))) (some (.bl wd)) (some (.nd .lst (rows.map rT))) (some (.nd .lst ((lS w rows).kept.map rT))) (some (lotV w [] [])) (some (lotV w [] [])) none none none none) S4 := by
    have v3 : dVar 3 (Lt none (some (.int (w : Nat))) (some (.bl wd)) (some (.nd .lst (rows.map rT))) (some (.nd .lst ((lS w rows).kept.map rT))) none none none none none none) S4 = .ok (.int (w : Nat)) S4 := rfl
    have a1 : dCons (dApp (clo (newF 0 d_Rows___init__)) (dCons (dVar 3) (dNil))) (dCons (dApp (clo (newF 0 d_Rows___init__)) (dCons (dVar 3) (dNil))) (dNil)) (Lt none (some (.int (w : Nat))) (some (.bl wd)) (some (.nd .lst (rows.map rT))) (some (.nd .lst ((lS w rows).kept.map rT))) none none none none none none) S4 = .ok [lotV w [] [], lotV w [] []] S4 := by
      rw [dCons_ap, dApp_ap, dCons_ap, v3, bind_ok, dNil_ap, bind_ok, bind_ok, hnew, bind_ok, dCons_ap, dApp_ap, dCons_ap, v3, bind_ok, dNil_ap, bind_ok, bind_ok, hnew, bind_ok, dNil_ap, bind_ok, bind_ok]
    unfold q2_4
    rw [dPar_ap, a1]
    rfl
  obtain ⟨o5, o10, s5⟩ := fill (b := 190) (K := some (.nd .lst ((lS w rows).kept.map rT))) (wd := wd) (by decide) (by decide) hw1 hw hr hS4
  have J := Jt.all (b := 190) (by decide) rows hr
  have hkl : (lS w rows).kept.length ≤ 7 := by rw [← J.lot.ln]; exact Nat.le_trans J.lot.rm hw
  have s6 : q2_6 (Lt none (some (.int (w : Nat))) (some (.bl wd)) o5 (some (.nd .lst ((lS w rows).kept.map rT))) (some (lotV w (lS w rows).kept (lS w rows).P)) (some (lotV w (lS w rows).kept (lS w rows).P)) o10 none none none) S4 = .nx (Lk w wd (lS w rows)) S4 := rfl
  have s7 := q7_ok (w := w) (wd := wd) hkl hS4
  have s8 : q2_8 (Lk w wd (lS w rows)) S4 = .nx (Lv w wd (lS w rows) none none) S4 := rfl
  obtain ⟨S5, s9, P5⟩ := laps (wd := wd) hw1 hw hr (by omega) P4
  have s10 : q2_10 (Lv w wd (lS w rows) none none) S5 = .nx (Lt none none none none (some (.nd .lst ((lS w rows).kept.map rT))) none (some (lotV w (lS w rows).kept (lS w rows).P)) none none none none) S5 := rfl
  have s11 : q2_11 (Lt none none none none (some (.nd .lst ((lS w rows).kept.map rT))) none (some (lotV w (lS w rows).kept (lS w rows).P)) none none none none) S5 = .nx (Lt none none none none (some (.nd .lst ((lS w rows).kept.map rT))) none (some (lotV w (lS w rows).kept (lS w rows).P)) none none none none) S5 := by
    have v9 : dVar 9 (Lt none none none none (some (.nd .lst ((lS w rows).kept.map rT))) none (some (lotV w (lS w rows).kept (lS w rows).P)) none none none none) S5 = .ok (lotV w (lS w rows).kept (lS w rows).P) S5 := rfl
    have v6 : dVar 6 (Lt none none none none (some (.nd .lst ((lS w rows).kept.map rT))) none (some (lotV w (lS w rows).kept (lS w rows).P)) none none none none) S5 = .ok (.nd .lst ((lS w rows).kept.map rT)) S5 := rfl
    generalize Lt none none none none (some (.nd .lst ((lS w rows).kept.map rT))) none (some (lotV w (lS w rows).kept (lS w rows).P)) none none none none = l at v9 v6 ⊢
    have hl := list_lot w (lS w rows).kept (lS w rows).P S5 (by omega)
    unfold q2_11
    rw [dIfS_ap, dB_ap, dBin_ap, dApp_ap, dCons_ap, v9, bind_ok, dNil_ap, bind_ok, bind_ok, hl, bind_ok, v6, bind_ok, neZ_rT, decide_eq_true rfl]
    rfl
  have s12 : q2_12 (Lt none none none none (some (.nd .lst ((lS w rows).kept.map rT))) none (some (lotV w (lS w rows).kept (lS w rows).P)) none none none none) S5 = .nx L0 S5 := rfl
  refine ⟨S5, ?_, P5.mono (by omega)⟩
  unfold B2
  rw [seqs_one s0, seqs_one s1, seqs_one s2, seqs_one s3, seqs_one s4, seqs_one s5, seqs_one s6, seqs_one s7, seqs_one s8, seqs_one s9, seqs_one s10, seqs_one s11, seqs_one s12]
  rfl
theorem law_good (ns : List Int) (h : ns.length ≤ 63) : ∃ S, d_law [.nd .scr (ns.map .int)] [] = .ok (.bl true) S := by
  have hpen : d__law_pen [.nd .scr (ns.map .int)] [] = .ok (.ref 0) [pn ns 0 0] := penB_ok h
  have h0 : PenS 0 [] [pn ns 0 0] := ⟨ns, 0, 0, rfl, by decide, by decide, by decide⟩
  generalize PV.nd .scr (ns.map .int) = sc at hpen ⊢
  obtain ⟨l', S1, f1, rfl, P1⟩ := loop_penI (B := B2) (t := .nm 2) (l0 := L0) (k := 150) (items := rngZ 0 6) (fun l => l = L0) (by
    rintro l rfl
    rfl) rfl h0 (by rw [rngZ_len]; decide) fun n S x l hx hl hP hn => by
    subst hl
    obtain ⟨S', g1, g3⟩ := turn (x := x) hP hn
    exact ⟨_, _, S', _, asg1, g1, rfl, g3⟩
  have hit : i2 L0 [pn ns 0 0] = .ok ⟨rngZ 0 6, []⟩ [pn ns 0 0] := by kernel_rfl
  obtain ⟨cs, a, lf, rfl⟩ := pn_cons P1
  have hE : dSeq p3 (dSeq p4 (dSeq p5 p6)) L0 [pn cs a lf] = .ret (.bl true) [pn cs a lf] := by
    kernel_rfl
  have hbody : b_law (some sc :: List.replicate 15 none) [] = .ret (.bl true) [pn cs a lf] := by
    rw [law_eq, dSeq_ap]
    have s1 : p0 (some sc :: List.replicate 15 none) [] = .nx ((some sc :: List.replicate 15 none).set 1 (some (.ref 0))) [pn ns 0 0] := by
      unfold p0
      simp [hpen]
    have s2 : p1 ((some sc :: List.replicate 15 none).set 1 (some (.ref 0))) [pn ns 0 0] = .nx L0 [pn ns 0 0] := rfl
    rw [s1, seq_nx, dSeq_ap, s2, seq_nx, dSeq_ap, dFor_eq hit (heldB_nil _), f1, seq_nx, hE]
  exact ⟨[], law_end hbody (by show 0 < 1; decide)⟩
end Z
end
end
section
set_option Elab.async false
set_option linter.all false
set_option maxRecDepth 100000
set_option maxHeartbeats 0
noncomputable section
namespace Z
open PySem PySem.Spec PyProof.Rows L2
def P : Program := (PySem.Challenge.rw_sumdigits_k26_rows_that_depend).prog
theorem tree0 : P.given.tree = none := by kernel_rfl
section
variable {w : World} {K : PySem.W.Frag} {mg : Str → Option Value} {base : Heap}
theorem ei_BadWidth : FnScope ["self", "value"] ["self", "value"] (defScope (cst 5 0)) := ⟨rfl, rfl, rfl, by decide +kernel, rfl, by decide +kernel, by decide +kernel⟩
theorem en_BadWidth (g : Gd K mg base) : ExN T0 P w K mg base 1 "BadWidth" 1 [3] := by
  obtain ⟨fd, F⟩ := g.c.def_ 0 (d := hd0) rfl
  have hx := g.c.extra 0 (f := exnB "BadWidth" ["value"]) rfl
  have O : OexC K (T0.ca K 1) := oexB_ok (Bool.and_eq_true_iff.mp hx).1
  exact ⟨⟨_, fd, ["self", "value"], (g.glo 0), O, (exnB_init hx).1, (exnB_init hx).2, init1 F ei_BadWidth O (exnB_no hx (List.mem_of_getElem? (i := 0) rfl)), F.bindsN (fun _ _ _ _ _ _ us hl => match us, hl with | [_, _], _ => rfl)⟩, by decide, by decide⟩
theorem ei_BadNumber : FnScope ["self", "value"] ["self", "value"] (defScope (cst 6 0)) := ⟨rfl, rfl, rfl, by decide +kernel, rfl, by decide +kernel, by decide +kernel⟩
theorem en_BadNumber (g : Gd K mg base) : ExN T0 P w K mg base 1 "BadNumber" 2 [3] := by
  obtain ⟨fd, F⟩ := g.c.def_ 1 (d := hd1) rfl
  have hx := g.c.extra 1 (f := exnB "BadNumber" ["value"]) rfl
  have O : OexC K (T0.ca K 2) := oexB_ok (Bool.and_eq_true_iff.mp hx).1
  exact ⟨⟨_, fd, ["self", "value"], (g.glo 1), O, (exnB_init hx).1, (exnB_init hx).2, init1 F ei_BadNumber O (exnB_no hx (List.mem_of_getElem? (i := 0) rfl)), F.bindsN (fun _ _ _ _ _ _ us hl => match us, hl with | [_, _], _ => rfl)⟩, by decide, by decide⟩
abbrev nm_is_integer : List Str := ["value"]
theorem sc_is_integer : FnScope ["value"] ["value"] (defScope (top 1)) := ⟨rfl, rfl, rfl, by decide +kernel, rfl, by decide +kernel, by decide +kernel⟩
theorem fn_is_integer (g : Gd K mg base) : Fn T0 P w K mg base 1 "is_integer" ["value"] d_is_integer := by
  obtain ⟨fd, F⟩ := g.c.def_ 2 (d := hd2) rfl
  refine ⟨⟨_, fd, (g.glo 5), F.kp, fng_of F sc_is_integer fun cdv hc A outer s H E c => ?_, F.bindsN (fun _ _ _ _ _ _ us hl => match us, hl with | [_], _ => rfl), kw_of F (fun _ _ _ _ _ _ ws hl => match ws, hl with | [_], _ => rfl), lk_of F⟩, arity_d⟩
  exact jb_one (js_ret (je_and (je_callB cr_isi (cz_isiX g.ki) (g.free 3) (ja_cons (je_var 0) (ja_cons (je_ty (g.free 2) rfl) (ja_nil)))) (je_one (je_not (je_callB cr_isi (cz_isiX g.ki) (g.free 3) (ja_cons (je_var 0) (ja_cons (je_ty (g.free 4) rfl) (ja_nil))))))))
abbrev nm_is_between : List Str := ["value", "low", "high"]
theorem sc_is_between : FnScope ["value", "low", "high"] ["value", "low", "high"] (defScope (top 2)) := ⟨rfl, rfl, rfl, by decide +kernel, rfl, by decide +kernel, by decide +kernel⟩
theorem fn_is_between (g : Gd K mg base) : Fn T0 P w K mg base 2 "is_between" ["value", "low", "high"] d_is_between := by
  obtain ⟨fd, F⟩ := g.c.def_ 3 (d := hd3) rfl
  refine ⟨⟨_, fd, (g.glo 6), F.kp, fng_of F sc_is_between fun cdv hc A outer s H E c => ?_, F.bindsN (fun _ _ _ _ _ _ us hl => match us, hl with | [_, _, _], _ => rfl), kw_of F (fun _ _ _ _ _ _ ws hl => match ws, hl with | [_, _, _], _ => rfl), lk_of F⟩, arity_d⟩
  exact jb_one (js_ret (je_and (je_fn c (fn_is_integer g) (ja_cons (je_var 0) (ja_nil)) (by decide)) (je_one (je_chain op_leZ oz_le op_leZ oz_le (je_var 1) (je_var 0) (je_var 2)))))
abbrev nm_is_row : List Str := ["value", "width", "one"]
theorem sc_is_row : FnScope ["value", "width", "one"] ["value", "width"] (defScope (top 9)) := ⟨rfl, rfl, rfl, by decide +kernel, rfl, by decide +kernel, by decide +kernel⟩
theorem fn_is_row (g : Gd K mg base) : Fn T0 P w K mg base 2 "is_row" ["value", "width"] d_is_row := by
  obtain ⟨fd, F⟩ := g.c.def_ 4 (d := hd4) rfl
  refine ⟨⟨_, fd, (g.glo 10), F.kp, fng_of F sc_is_row fun cdv hc A outer s H E c => ?_, F.bindsN (fun _ _ _ _ _ _ us hl => match us, hl with | [_, _], _ => rfl), kw_of F (fun _ _ _ _ _ _ ws hl => match ws, hl with | [_, _], _ => rfl), lk_of F⟩, arity_d⟩
  exact jb_one (js_ret (je_and (je_callB cr_isi (cz_isiX g.ki) (g.free 3) (ja_cons (je_var 0) (ja_cons (je_ty (g.free 7) rfl) (ja_nil)))) (je_and (je_cmp (op_eqZ c.hu) oz_eq (je_callB cr_len cz_len (g.free 8) (ja_cons (je_var 0) (ja_nil))) (je_var 1)) (je_one (je_callB (cr_all c.calm) cz_all (g.free 9) (ja_cons (je_lc [("one", 2)] c.calm c.nd (ji_val (je_var 0)) ⟨fun _ _ _ _ _ => jg_n 2 c.blk.nd, fun _ _ _ _ _ => jts_nil, fun _ _ _ _ _ => je_fn c.blk (fn_is_integer g) (ja_cons (je_var 2) (ja_nil)) (by decide)⟩ (blkOk_by (N := nm_is_row) (sc := defScope (top 9)) (by decide +kernel))) (ja_nil)))))))
abbrev nm_shared : List Str := ["numbers", "found", "number", "one", "other"]
theorem sc_shared : FnScope ["numbers", "found", "number", "one", "other"] ["numbers"] (defScope (top 10)) := ⟨rfl, rfl, rfl, by decide +kernel, rfl, by decide +kernel, by decide +kernel⟩
theorem fn_shared (g : Gd K mg base) : Fn T0 P w K mg base 1 "shared" ["numbers"] d_shared := by
  obtain ⟨fd, F⟩ := g.c.def_ 5 (d := hd5) rfl
  refine ⟨⟨_, fd, (g.glo 12), F.kp, fng_of F sc_shared fun cdv hc A outer s H E c => ?_, F.bindsN (fun _ _ _ _ _ _ us hl => match us, hl with | [_], _ => rfl), kw_of F (fun _ _ _ _ _ _ ws hl => match ws, hl with | [_], _ => rfl), lk_of F⟩, arity_d⟩
  exact jb_cons (js_set 1 c.nd (je_int)) (jb_cons (js_for c.own c.calm (ji_val (je_var 0)) (jg_n 2 c.nd) (jb_cons (js_par 3 4 c.calm c.nd (ja_cons (je_var 1) (ja_cons (je_callB call_abs cz_abs (g.free 11) (ja_cons (je_var 2) (ja_nil))) (ja_nil)))) (jb_cons (js_whl FUELB c.own (jt_cmp (op_neZ c.hu) oz_ne (je_var 4) (je_int)) (jb_one (js_par 3 4 c.calm c.nd (ja_cons (je_var 4) (ja_cons (je_bin op_modN oz_mod (je_var 3) (je_var 4)) (ja_nil)))))) (jb_one (js_set 1 c.nd (je_var 3)))))) (jb_one (js_ret (je_var 1))))
abbrev nm_first_place : List Str := ["row", "at", "number"]
theorem sc_first_place : FnScope ["row", "at", "number"] ["row"] (defScope (top 11)) := ⟨rfl, rfl, rfl, by decide +kernel, rfl, by decide +kernel, by decide +kernel⟩
theorem fn_first_place (g : Gd K mg base) : Fn T0 P w K mg base 1 "first_place" ["row"] d_first_place := by
  obtain ⟨fd, F⟩ := g.c.def_ 6 (d := hd6) rfl
  refine ⟨⟨_, fd, (g.glo 14), F.kp, fng_of F sc_first_place fun cdv hc A outer s H E c => ?_, F.bindsN (fun _ _ _ _ _ _ us hl => match us, hl with | [_], _ => rfl), kw_of F (fun _ _ _ _ _ _ ws hl => match ws, hl with | [_], _ => rfl), lk_of F⟩, arity_d⟩
  exact jb_cons (js_for c.own c.calm (ji_enu (g.free 13) (ja_cons (je_var 0) (ja_nil))) (jg_t c.calm (jgs_cons (jg_n 1 c.nd) (jgs_cons (jg_n 2 c.nd) (jgs_nil)))) (jb_one (js_if (jt_cmp (op_neZ c.hu) oz_ne (je_var 2) (je_int)) (jb_one (js_ret (je_var 1))) (jb_nil)))) (jb_one (js_ret (je_non)))
abbrev nm_cleared : List Str := ["line", "steps", "place", "step", "one", "other", "left", "right", "least", "number"]
theorem sc_cleared : FnScope ["line", "steps", "place", "step", "one", "other", "left", "right", "least", "number"] ["line", "steps"] (defScope (top 12)) := ⟨rfl, rfl, rfl, by decide +kernel, rfl, by decide +kernel, by decide +kernel⟩
theorem fn_cleared (g : Gd K mg base) : Fn T0 P w K mg base 33 "cleared" ["line", "steps"] d_cleared := by
  obtain ⟨fd, F⟩ := g.c.def_ 7 (d := hd7) rfl
  refine ⟨⟨_, fd, (g.glo 16), F.kp, fng_of F sc_cleared fun cdv hc A outer s H E c => ?_, F.bindsN (fun _ _ _ _ _ _ us hl => match us, hl with | [_, _], _ => rfl), kw_of F (fun _ _ _ _ _ _ ws hl => match ws, hl with | [_, _], _ => rfl), lk_of F⟩, arity_d⟩
  exact jb_cons (js_for c.own c.calm (ji_val (je_var 1)) (jg_t c.calm (jgs_cons (jg_n 2 c.nd) (jgs_cons (jg_n 3 c.nd) (jgs_nil)))) (jb_one (js_if (jt_cmp (op_neZ c.hu) oz_ne (je_sub c.hu1 (je_var 0) (je_var 2)) (je_int)) (jb_cons (js_asg (je_tup (ja_cons (je_sub c.hu1 (je_var 3) (je_var 2)) (ja_cons (je_sub c.hu1 (je_var 0) (je_var 2)) (ja_nil)))) (jgz_t c.calm (jgzs_cons (jgz_n 4 c.nd) (jgzs_cons (jgz_n 5 c.nd) (jgzs_nil))))) (jb_cons (js_setLc 0 [("left", 6), ("right", 7)] c.calm c.nd (ji_zip (g.free 15) (ja_cons (je_var 0) (ja_cons (je_var 3) (ja_nil)))) ⟨fun _ _ _ _ _ => jg_t c.blk.calm (jgs_cons (jg_n 6 c.blk.nd) (jgs_cons (jg_n 7 c.blk.nd) (jgs_nil))), fun _ _ _ _ _ => jts_nil, fun _ _ _ _ _ => je_bin op_sub oz_sub (je_bin op_mulT oz_mulT (je_var 4) (je_var 6)) (je_bin op_mulT oz_mulT (je_var 5) (je_var 7))⟩ (blkOk_by (N := nm_cleared) (sc := defScope (top 12)) (by decide +kernel))) (jb_cons (js_set 8 c.nd (je_fn c (fn_shared g) (ja_cons (je_var 0) (ja_nil)) (by decide))) (jb_one (js_setLc 0 [("number", 9)] c.calm c.nd (ji_val (je_var 0)) ⟨fun _ _ _ _ _ => jg_n 9 c.blk.nd, fun _ _ _ _ _ => jts_nil, fun _ _ _ _ _ => je_divB c.blk g.se tree0 (je_var 9) (je_var 8)⟩ (blkOk_by (N := nm_cleared) (sc := defScope (top 12)) (by decide +kernel))))))) (jb_nil)))) (jb_one (js_ret (je_var 0)))
abbrev nm__law_pen : List Str := ["_law_script"]
theorem sc__law_pen : FnScope ["_law_script"] ["_law_script"] (defScope (top 15)) := ⟨rfl, rfl, rfl, by decide +kernel, rfl, by decide +kernel, by decide +kernel⟩
theorem fn__law_pen (g : Gd K mg base) : Fn T0 P w K mg base 1 "_law_pen" ["_law_script"] d__law_pen := by
  obtain ⟨fd, F⟩ := g.c.def_ 8 (d := hd8) rfl
  refine ⟨⟨_, fd, (g.glo 18), F.kp, fng_of0 F sc__law_pen fun cdv hc A outer s H E c => ?_, F.bindsN (fun _ _ _ _ _ _ us hl => match us, hl with | [_], _ => rfl), kw_of F (fun _ _ _ _ _ _ ws hl => match ws, hl with | [_], _ => rfl), lk_of F⟩, arity_0⟩
  exact jb_one (js_ret (je_lstM (ja_cons (je_callT call_list_of cz_list (g.free 17) (ja_cons (je_sli (je_var 0) (jo_none) (jo_some (je_int))) (ja_nil))) (ja_cons (je_int) (ja_cons (je_int) (ja_nil))))))
abbrev nm__law_draw : List Str := ["_law_pen_here", "_law_many", "_law_digit", "_law_at", "_law_cell", "_law_great", "_law_stirred"]
theorem sc__law_draw : FnScope ["_law_pen_here", "_law_many", "_law_digit", "_law_at", "_law_cell", "_law_great", "_law_stirred"] ["_law_pen_here", "_law_many"] (defScope (top 16)) := ⟨rfl, rfl, rfl, by decide +kernel, rfl, by decide +kernel, by decide +kernel⟩
theorem fn__law_draw (g : Gd K mg base) : Fn T0 P w K mg base 1 "_law_draw" ["_law_pen_here", "_law_many"] d__law_draw := by
  obtain ⟨fd, F⟩ := g.c.def_ 9 (d := hd9) rfl
  refine ⟨⟨_, fd, (g.glo 19), F.kp, fng_of F sc__law_draw fun cdv hc A outer s H E c => ?_, F.bindsN (fun _ _ _ _ _ _ us hl => match us, hl with | [_, _], _ => rfl), kw_of F (fun _ _ _ _ _ _ ws hl => match ws, hl with | [_, _], _ => rfl), lk_of F⟩, arity_d⟩
  exact jb_cons (js_if (jt_cmp op_gtZ oz_gt (je_sub c.hu1 (je_var 0) (je_int)) (je_int)) (jb_cons (js_set 2 c.nd (je_bin op_modN oz_mod (je_callT call_int1 cz_int (g.free 2) (ja_cons (je_sub c.hu1 (je_var 0) (je_int)) (ja_nil))) (je_var 1))) (jb_cons (js_asg (je_bin op_divZ oz_div (je_callT call_int1 cz_int (g.free 2) (ja_cons (je_sub c.hu1 (je_var 0) (je_int)) (ja_nil))) (je_var 1)) (jgz_i (E := fun _ => E) (je_var 0) (je_int))) (jb_one (js_ret (je_var 2))))) (jb_nil)) (jb_cons (js_set 3 c.nd (je_sub c.hu1 (je_var 0) (je_int))) (jb_cons (js_asg (je_bin op_addZ oz_add (je_var 3) (je_int)) (jgz_i (E := fun _ => E) (je_var 0) (je_int))) (jb_cons (js_set 4 c.nd (je_bin op_addZ oz_add (je_bin op_mulA oz_mul (je_int) (je_var 3)) (je_int))) (jb_cons (js_if (jt_cmp (op_neZ c.hu) oz_ne (je_sub c.hu1 (je_var 0) (je_int)) (je_lst (ja_nil))) (jb_one (js_set 4 c.nd (je_sub c.hu1 (je_sub c.hu1 (je_var 0) (je_int)) (je_bin op_modN oz_mod (je_callT call_int1 cz_int (g.free 2) (ja_cons (je_var 3) (ja_nil))) (je_callB cr_len cz_len (g.free 8) (ja_cons (je_sub c.hu1 (je_var 0) (je_int)) (ja_nil))))))) (jb_nil)) (jb_cons (js_if (PW.pt (jw_and (jt_cmp op_ltZ oz_lt (je_var 3) (je_callB cr_len cz_len (g.free 8) (ja_cons (je_sub c.hu1 (je_var 0) (je_int)) (ja_nil)))) (jw_and1 (jt_cmp op_geZ oz_ge (je_callB call_abs cz_abs (g.free 11) (ja_cons (je_var 4) (ja_nil))) (je_bin op_pow oz_pow (je_int) (je_int)))))) (jb_cons (js_set 5 c.nd (je_bin op_addZ oz_add (je_bin op_mulA oz_mul (je_int) (je_bin op_sub oz_sub (je_callB call_abs cz_abs (g.free 11) (ja_cons (je_var 4) (ja_nil))) (je_bin op_pow oz_pow (je_int) (je_int)))) (je_callT call_int1 cz_int (g.free 2) (ja_cons (je_cmp op_ltZ oz_lt (je_var 4) (je_int)) (ja_nil))))) (jb_cons (js_asg (je_bin op_divZ oz_div (je_callT call_int1 cz_int (g.free 2) (ja_cons (je_var 5) (ja_nil))) (je_var 1)) (jgz_i (E := fun _ => E) (je_var 0) (je_int))) (jb_one (js_ret (je_bin op_modN oz_mod (je_callT call_int1 cz_int (g.free 2) (ja_cons (je_var 5) (ja_nil))) (je_var 1)))))) (jb_nil)) (jb_cons (js_set 6 c.nd (je_bin op_modN oz_mod (je_callT call_int1 cz_int (g.free 2) (ja_cons (je_bin op_pow oz_pow (je_bin op_addZ oz_add (je_bin op_addZ oz_add (je_bin op_modN oz_mod (je_callT call_int1 cz_int (g.free 2) (ja_cons (je_var 4) (ja_nil))) (je_int)) (je_bin op_mulA oz_mul (je_int) (je_var 3))) (je_int)) (je_int)) (ja_nil))) (je_int))) (jb_cons (js_set 6 c.nd (je_bin op_modN oz_mod (je_callT call_int1 cz_int (g.free 2) (ja_cons (je_bin op_pow oz_pow (je_bin op_addZ oz_add (je_bin op_addZ oz_add (je_bin op_mulA oz_mul (je_var 6) (je_bin op_addZ oz_add (je_bin op_mulA oz_mul (je_int) (je_var 3)) (je_int))) (je_bin op_mulA oz_mul (je_bin op_mulA oz_mul (je_int) (je_var 3)) (je_var 3))) (je_int)) (je_int)) (ja_nil))) (je_int))) (jb_one (js_ret (je_bin op_modN oz_mod (je_callT call_int1 cz_int (g.free 2) (ja_cons (je_bin op_divZ oz_div (je_var 6) (je_int)) (ja_nil))) (je_var 1)))))))))))
abbrev nm__law_pick : List Str := ["_law_pen_here", "_law_some"]
theorem sc__law_pick : FnScope ["_law_pen_here", "_law_some"] ["_law_pen_here", "_law_some"] (defScope (top 17)) := ⟨rfl, rfl, rfl, by decide +kernel, rfl, by decide +kernel, by decide +kernel⟩
theorem fn__law_pick (g : Gd K mg base) : Fn T0 P w K mg base 2 "_law_pick" ["_law_pen_here", "_law_some"] d__law_pick := by
  obtain ⟨fd, F⟩ := g.c.def_ 10 (d := hd10) rfl
  refine ⟨⟨_, fd, (g.glo 20), F.kp, fng_of F sc__law_pick fun cdv hc A outer s H E c => ?_, F.bindsN (fun _ _ _ _ _ _ us hl => match us, hl with | [_, _], _ => rfl), kw_of F (fun _ _ _ _ _ _ ws hl => match ws, hl with | [_, _], _ => rfl), lk_of F⟩, arity_d⟩
  exact jb_one (js_ret (je_sub c.hu1 (je_var 1) (je_fn c (fn__law_draw g) (ja_cons (je_var 0) (ja_cons (je_callB cr_len cz_len (g.free 8) (ja_cons (je_var 1) (ja_nil))) (ja_nil))) (by decide))))
abbrev nm__law_shared : List Str := ["_law_numbers", "_law_found", "_law_number", "_law_other"]
theorem sc__law_shared : FnScope ["_law_numbers", "_law_found", "_law_number", "_law_other"] ["_law_numbers"] (defScope (top 18)) := ⟨rfl, rfl, rfl, by decide +kernel, rfl, by decide +kernel, by decide +kernel⟩
theorem fn__law_shared (g : Gd K mg base) : Fn T0 P w K mg base 1 "_law_shared" ["_law_numbers"] d__law_shared := by
  obtain ⟨fd, F⟩ := g.c.def_ 11 (d := hd11) rfl
  refine ⟨⟨_, fd, (g.glo 21), F.kp, fng_of F sc__law_shared fun cdv hc A outer s H E c => ?_, F.bindsN (fun _ _ _ _ _ _ us hl => match us, hl with | [_], _ => rfl), kw_of F (fun _ _ _ _ _ _ ws hl => match ws, hl with | [_], _ => rfl), lk_of F⟩, arity_d⟩
  exact jb_cons (js_set 1 c.nd (je_int)) (jb_cons (js_for c.own c.calm (ji_val (je_var 0)) (jg_n 2 c.nd) (jb_cons (js_set 3 c.nd (je_callB call_abs cz_abs (g.free 11) (ja_cons (je_var 2) (ja_nil)))) (jb_one (js_whl FUELB c.own (jt_cmp op_gtZ oz_gt (je_var 3) (je_int)) (jb_one (js_par 1 3 c.calm c.nd (ja_cons (je_var 3) (ja_cons (je_bin op_modN oz_mod (je_callT cr_int cz_intX (g.free 2) (ja_cons (je_var 1) (ja_nil))) (je_var 3)) (ja_nil))))))))) (jb_one (js_ret (je_var 1))))
abbrev nm__law_reduced : List Str := ["_law_row_here", "_law_kept", "_law_left", "_law_place_here", "_law_other", "_law_one", "_law_two", "_law_here", "_law_there", "_law_least", "_law_number"]
theorem sc__law_reduced : FnScope ["_law_row_here", "_law_kept", "_law_left", "_law_place_here", "_law_other", "_law_one", "_law_two", "_law_here", "_law_there", "_law_least", "_law_number"] ["_law_row_here", "_law_kept"] (defScope (top 19)) := ⟨rfl, rfl, rfl, by decide +kernel, rfl, by decide +kernel, by decide +kernel⟩
theorem fn__law_reduced (g : Gd K mg base) : Fn T0 P w K mg base 33 "_law_reduced" ["_law_row_here", "_law_kept"] d__law_reduced := by
  obtain ⟨fd, F⟩ := g.c.def_ 12 (d := hd12) rfl
  refine ⟨⟨_, fd, (g.glo 22), F.kp, fng_of F sc__law_reduced fun cdv hc A outer s H E c => ?_, F.bindsN (fun _ _ _ _ _ _ us hl => match us, hl with | [_, _], _ => rfl), kw_of F (fun _ _ _ _ _ _ ws hl => match ws, hl with | [_, _], _ => rfl), lk_of F⟩, arity_d⟩
  exact jb_cons (js_set 2 c.nd (je_callT call_list_of cz_list (g.free 17) (ja_cons (je_var 0) (ja_nil)))) (jb_cons (js_for c.own c.calm (ji_val (je_var 1)) (jg_t c.calm (jgs_cons (jg_n 3 c.nd) (jgs_cons (jg_n 4 c.nd) (jgs_nil)))) (jb_one (js_if (jt_cmp (op_neZ c.hu) oz_ne (je_sub c.hu1 (je_var 2) (je_var 3)) (je_int)) (jb_cons (js_asg (je_tup (ja_cons (je_sub c.hu1 (je_var 4) (je_var 3)) (ja_cons (je_sub c.hu1 (je_var 2) (je_var 3)) (ja_nil)))) (jgz_t c.calm (jgzs_cons (jgz_n 5 c.nd) (jgzs_cons (jgz_n 6 c.nd) (jgzs_nil))))) (jb_cons (js_setLc 2 [("_law_here", 7), ("_law_there", 8)] c.calm c.nd (ji_zip (g.free 15) (ja_cons (je_var 2) (ja_cons (je_var 4) (ja_nil)))) ⟨fun _ _ _ _ _ => jg_t c.blk.calm (jgs_cons (jg_n 7 c.blk.nd) (jgs_cons (jg_n 8 c.blk.nd) (jgs_nil))), fun _ _ _ _ _ => jts_nil, fun _ _ _ _ _ => je_bin op_sub oz_sub (je_bin op_mulT oz_mulT (je_var 5) (je_var 7)) (je_bin op_mulT oz_mulT (je_var 6) (je_var 8))⟩ (blkOk_by (N := nm__law_reduced) (sc := defScope (top 19)) (by decide +kernel))) (jb_cons (js_set 9 c.nd (je_fn c (fn__law_shared g) (ja_cons (je_var 2) (ja_nil)) (by decide))) (jb_one (js_set 2 c.nd (je_if (jt_cmp op_gtZ oz_gt (je_var 9) (je_int)) (je_lc [("_law_number", 10)] c.calm c.nd (ji_val (je_var 2)) ⟨fun _ _ _ _ _ => jg_n 10 c.blk.nd, fun _ _ _ _ _ => jts_nil, fun _ _ _ _ _ => je_divB c.blk g.se tree0 (je_var 10) (je_var 9)⟩ (blkOk_by (N := nm__law_reduced) (sc := defScope (top 19)) (by decide +kernel))) (je_var 2))))))) (jb_nil)))) (jb_one (js_ret (je_var 2))))
abbrev nm__law_place : List Str := ["_law_row_here", "_law_at"]
theorem sc__law_place : FnScope ["_law_row_here", "_law_at"] ["_law_row_here"] (defScope (top 20)) := ⟨rfl, rfl, rfl, by decide +kernel, rfl, by decide +kernel, by decide +kernel⟩
theorem fn__law_place (g : Gd K mg base) : Fn T0 P w K mg base 1 "_law_place" ["_law_row_here"] d__law_place := by
  obtain ⟨fd, F⟩ := g.c.def_ 13 (d := hd13) rfl
  refine ⟨⟨_, fd, (g.glo 24), F.kp, fng_of F sc__law_place fun cdv hc A outer s H E c => ?_, F.bindsN (fun _ _ _ _ _ _ us hl => match us, hl with | [_], _ => rfl), kw_of F (fun _ _ _ _ _ _ ws hl => match ws, hl with | [_], _ => rfl), lk_of F⟩, arity_d⟩
  exact jb_cons (js_for c.own c.calm (ji_rng1 (g.free 23) (ja_cons (je_callB cr_len cz_len (g.free 8) (ja_cons (je_var 0) (ja_nil))) (ja_nil))) (jg_n 1 c.nd) (jb_one (js_if (jt_cmp (op_neZ c.hu) oz_ne (je_sub c.hu1 (je_var 0) (je_var 1)) (je_int)) (jb_one (js_ret (je_var 1))) (jb_nil)))) (jb_one (js_ret (je_non)))
abbrev nm__law_free : List Str := ["_law_rows_here", "_law_kept", "_law_found", "_law_at", "_law_left", "_law_place_here"]
theorem sc__law_free : FnScope ["_law_rows_here", "_law_kept", "_law_found", "_law_at", "_law_left", "_law_place_here"] ["_law_rows_here"] (defScope (top 21)) := ⟨rfl, rfl, rfl, by decide +kernel, rfl, by decide +kernel, by decide +kernel⟩
theorem fn__law_free (g : Gd K mg base) : Fn T0 P w K mg base 34 "_law_free" ["_law_rows_here"] d__law_free := by
  obtain ⟨fd, F⟩ := g.c.def_ 14 (d := hd14) rfl
  refine ⟨⟨_, fd, (g.glo 25), F.kp, fng_of F sc__law_free fun cdv hc A outer s H E c => ?_, F.bindsN (fun _ _ _ _ _ _ us hl => match us, hl with | [_], _ => rfl), kw_of F (fun _ _ _ _ _ _ ws hl => match ws, hl with | [_], _ => rfl), lk_of F⟩, arity_d⟩
  exact jb_cons (js_par 1 2 c.calm c.nd (ja_cons (je_lstM (ja_nil)) (ja_cons (je_lstM (ja_nil)) (ja_nil)))) (jb_cons (js_for c.own c.calm (ji_rng1 (g.free 23) (ja_cons (je_callB cr_len cz_len (g.free 8) (ja_cons (je_var 0) (ja_nil))) (ja_nil))) (jg_n 3 c.nd) (jb_cons (js_set 4 c.nd (je_fn c (fn__law_reduced g) (ja_cons (je_sub c.hu1 (je_var 0) (je_var 3)) (ja_cons (je_var 1) (ja_nil))) (by decide))) (jb_cons (js_set 5 c.nd (je_fn c (fn__law_place g) (ja_cons (je_var 4) (ja_nil)) (by decide))) (jb_one (js_if (jt_cmp op_isntZ oz_isnt (je_var 5) (je_non)) (jb_cons (js_expr (je_append (je_var 1) (je_tup (ja_cons (je_var 5) (ja_cons (je_var 4) (ja_nil)))))) (jb_one (js_expr (je_append (je_var 2) (je_var 3))))) (jb_nil)))))) (jb_one (js_ret (je_var 2))))
abbrev nm__law_row : List Str := ["_law_pen_here", "_law_width", "_law_wide", "_law_some", "_law_place_here"]
theorem sc__law_row : FnScope ["_law_pen_here", "_law_width", "_law_wide", "_law_some", "_law_place_here"] ["_law_pen_here", "_law_width", "_law_wide"] (defScope (top 22)) := ⟨rfl, rfl, rfl, by decide +kernel, rfl, by decide +kernel, by decide +kernel⟩
theorem fn__law_row (g : Gd K mg base) : Fn T0 P w K mg base 3 "_law_row" ["_law_pen_here", "_law_width", "_law_wide"] d__law_row := by
  obtain ⟨fd, F⟩ := g.c.def_ 15 (d := hd15) rfl
  refine ⟨⟨_, fd, (g.glo 26), F.kp, fng_of F sc__law_row fun cdv hc A outer s H E c => ?_, F.bindsN (fun _ _ _ _ _ _ us hl => match us, hl with | [_, _, _], _ => rfl), kw_of F (fun _ _ _ _ _ _ ws hl => match ws, hl with | [_, _, _], _ => rfl), lk_of F⟩, arity_d⟩
  exact jb_cons (js_set 3 c.nd (je_bin op_addZ oz_add (je_lst (ja_cons (je_int) (ja_cons (je_int) (ja_cons (je_int) (ja_cons (je_neg (je_int)) (ja_cons (je_int) (ja_cons (je_neg (je_int)) (ja_cons (je_int) (ja_cons (je_int) (ja_nil)))))))))) (je_if (jt_tru (je_var 2)) (je_lst (ja_cons (je_bin op_pow oz_pow (je_int) (je_int)) (ja_cons (je_bin op_addZ oz_add (je_neg (je_bin op_pow oz_pow (je_int) (je_int))) (je_int)) (ja_cons (je_bin op_mulT oz_mulT (je_int) (je_bin op_pow oz_pow (je_int) (je_int))) (ja_nil))))) (je_lst (ja_nil))))) (jb_one (js_ret (je_callT call_tuple_of cz_tup (g.free 7) (ja_cons (je_lc [("_law_place_here", 4)] c.calm c.nd (ji_rng1 (g.free 23) (ja_cons (je_var 1) (ja_nil))) ⟨fun _ _ _ _ _ => jg_n 4 c.blk.nd, fun _ _ _ _ _ => jts_nil, fun _ _ _ _ _ => je_fn c.blk (fn__law_pick g) (ja_cons (je_var 0) (ja_cons (je_var 3) (ja_nil))) (by decide)⟩ (blkOk_by (N := nm__law_row) (sc := defScope (top 22)) (by decide +kernel))) (ja_nil)))))
abbrev nm__law_mixed : List Str := ["_law_pen_here", "_law_rows_here", "_law_width", "_law_found", "_law_row_here", "_law_times", "_law_here", "_law_there"]
theorem sc__law_mixed : FnScope ["_law_pen_here", "_law_rows_here", "_law_width", "_law_found", "_law_row_here", "_law_times", "_law_here", "_law_there"] ["_law_pen_here", "_law_rows_here", "_law_width"] (defScope (top 23)) := ⟨rfl, rfl, rfl, by decide +kernel, rfl, by decide +kernel, by decide +kernel⟩
theorem fn__law_mixed (g : Gd K mg base) : Fn T0 P w K mg base 3 "_law_mixed" ["_law_pen_here", "_law_rows_here", "_law_width"] d__law_mixed := by
  obtain ⟨fd, F⟩ := g.c.def_ 16 (d := hd16) rfl
  refine ⟨⟨_, fd, (g.glo 27), F.kp, fng_of F sc__law_mixed fun cdv hc A outer s H E c => ?_, F.bindsN (fun _ _ _ _ _ _ us hl => match us, hl with | [_, _, _], _ => rfl), kw_of F (fun _ _ _ _ _ _ ws hl => match ws, hl with | [_, _, _], _ => rfl), lk_of F⟩, arity_d⟩
  exact jb_cons (js_set 3 c.nd (je_bin op_mulT oz_mulT (je_lst (ja_cons (je_int) (ja_nil))) (je_var 2))) (jb_cons (js_for c.own c.calm (ji_val (je_var 1)) (jg_n 4 c.nd) (jb_cons (js_set 5 c.nd (je_fn c (fn__law_pick g) (ja_cons (je_var 0) (ja_cons (je_lst (ja_cons (je_int) (ja_cons (je_int) (ja_cons (je_neg (je_int)) (ja_cons (je_int) (ja_cons (je_int) (ja_nil))))))) (ja_nil))) (by decide))) (jb_one (js_setLc 3 [("_law_here", 6), ("_law_there", 7)] c.calm c.nd (ji_zip (g.free 15) (ja_cons (je_var 3) (ja_cons (je_var 4) (ja_nil)))) ⟨fun _ _ _ _ _ => jg_t c.blk.calm (jgs_cons (jg_n 6 c.blk.nd) (jgs_cons (jg_n 7 c.blk.nd) (jgs_nil))), fun _ _ _ _ _ => jts_nil, fun _ _ _ _ _ => je_bin op_addZ oz_add (je_var 6) (je_bin op_mulT oz_mulT (je_var 5) (je_var 7))⟩ (blkOk_by (N := nm__law_mixed) (sc := defScope (top 23)) (by decide +kernel)))))) (jb_one (js_ret (je_callT call_tuple_of cz_tup (g.free 7) (ja_cons (je_var 3) (ja_nil))))))
abbrev nm__law_rows : List Str := ["_law_pen_here", "_law_width", "_law_many", "_law_wide", "_law_found", "_law_turn", "_law_is_new"]
theorem sc__law_rows : FnScope ["_law_pen_here", "_law_width", "_law_many", "_law_wide", "_law_found", "_law_turn", "_law_is_new"] ["_law_pen_here", "_law_width", "_law_many", "_law_wide"] (defScope (top 24)) := ⟨rfl, rfl, rfl, by decide +kernel, rfl, by decide +kernel, by decide +kernel⟩
theorem fn__law_rows (g : Gd K mg base) : Fn T0 P w K mg base 4 "_law_rows" ["_law_pen_here", "_law_width", "_law_many", "_law_wide"] d__law_rows := by
  obtain ⟨fd, F⟩ := g.c.def_ 17 (d := hd17) rfl
  refine ⟨⟨_, fd, (g.glo 28), F.kp, fng_of F sc__law_rows fun cdv hc A outer s H E c => ?_, F.bindsN (fun _ _ _ _ _ _ us hl => match us, hl with | [_, _, _, _], _ => rfl), kw_of F (fun _ _ _ _ _ _ ws hl => match ws, hl with | [_, _, _, _], _ => rfl), lk_of F⟩, arity_d⟩
  exact jb_cons (js_set 4 c.nd (je_lstM (ja_nil))) (jb_cons (js_for c.own c.calm (ji_rng1 (g.free 23) (ja_cons (je_var 2) (ja_nil))) (jg_n 5 c.nd) (jb_cons (js_set 6 c.nd (je_or (je_cmp (op_eqZ c.hu) oz_eq (je_var 4) (je_lst (ja_nil))) (je_one (je_cmp op_gtZ oz_gt (je_fn c (fn__law_draw g) (ja_cons (je_var 0) (ja_cons (je_int) (ja_nil))) (by decide)) (je_int))))) (jb_one (js_expr (je_append (je_var 4) (je_if (jt_tru (je_var 6)) (je_fn c (fn__law_row g) (ja_cons (je_var 0) (ja_cons (je_var 1) (ja_cons (je_var 3) (ja_nil)))) (by decide)) (je_fn c (fn__law_mixed g) (ja_cons (je_var 0) (ja_cons (je_var 4) (ja_cons (je_var 1) (ja_nil)))) (by decide)))))))) (jb_one (js_ret (je_var 4))))
abbrev nm_Rows_need_row : List Str := ["self", "row"]
theorem sc_Rows_need_row : FnScope ["self", "row"] ["self", "row"] (defScope (cst 13 2)) := ⟨rfl, rfl, rfl, by decide +kernel, rfl, by decide +kernel, by decide +kernel⟩
theorem fm_Rows_need_row (g : Gd K mg base) : FnM T0 P w K mg base 3 0 "need_row" ["self", "row"] d_Rows_need_row := by
  obtain ⟨fd, F⟩ := g.c.def_ 18 (d := hd18) rfl
  refine ⟨⟨_, fd, He.cls_ok (x := "Rows") (g.c.fact 29 (f := .cls "Rows") rfl), He.meth_ok (x := "Rows") (m := "need_row") (g.c.fact 30 (f := .meth "Rows" "need_row") rfl), ?_, F.bindsN (fun _ _ _ _ _ _ us hl => match us, hl with | [_, _], _ => rfl), kwm_of F (fun _ _ _ _ _ _ v ws hl => match ws, hl with | [_], _ => rfl)⟩, arity_d⟩
  exact fng_of F sc_Rows_need_row fun cdv hc A outer s H E c => jb_one (js_if (jt_not (jt_tru (je_fn c (fn_is_row g) (ja_cons (je_var 1) (ja_cons (je_attr 0 g.tb0 (je_var 0)) (ja_nil))) (by decide)))) (jb_one (js_raise c (en_BadNumber g) (ja_cons (je_var 1) (ja_nil)))) (jb_nil))
abbrev nm_Rows_line_of : List Str := ["self", "row", "zeros", "place"]
theorem sc_Rows_line_of : FnScope ["self", "row", "zeros", "place"] ["self", "row"] (defScope (cst 13 3)) := ⟨rfl, rfl, rfl, by decide +kernel, rfl, by decide +kernel, by decide +kernel⟩
theorem fm_Rows_line_of (g : Gd K mg base) : FnM T0 P w K mg base 34 0 "line_of" ["self", "row"] d_Rows_line_of := by
  obtain ⟨fd, F⟩ := g.c.def_ 19 (d := hd19) rfl
  refine ⟨⟨_, fd, He.cls_ok (x := "Rows") (g.c.fact 29 (f := .cls "Rows") rfl), He.meth_ok (x := "Rows") (m := "line_of") (g.c.fact 31 (f := .meth "Rows" "line_of") rfl), ?_, F.bindsN (fun _ _ _ _ _ _ us hl => match us, hl with | [_, _], _ => rfl), kwm_of F (fun _ _ _ _ _ _ v ws hl => match ws, hl with | [_], _ => rfl)⟩, arity_d⟩
  exact fng_of F sc_Rows_line_of fun cdv hc A outer s H E c => jb_cons (js_setLc 2 [("place", 3)] c.calm c.nd (ji_rng1 (g.free 23) (ja_cons (je_attr 0 g.tb0 (je_var 0)) (ja_nil))) ⟨fun _ _ _ _ _ => jg_n 3 c.blk.nd, fun _ _ _ _ _ => jts_nil, fun _ _ _ _ _ => je_int⟩ (blkOk_by (N := nm_Rows_line_of) (sc := defScope (cst 13 3)) (by decide +kernel))) (jb_one (js_ret (je_fn c (fn_cleared g) (ja_cons (je_lst (ja_star (je_var 1) (ja_star (je_var 2) (ja_cons (je_int) (ja_nil))))) (ja_cons (je_attr 2 g.tb0 (je_var 0)) (ja_nil))) (by decide))))
abbrev nm_Rows_made_of : List Str := ["self", "row", "line", "numbers", "number", "sign"]
theorem sc_Rows_made_of : FnScope ["self", "row", "line", "numbers", "number", "sign"] ["self", "row"] (defScope (cst 13 6)) := ⟨rfl, rfl, rfl, by decide +kernel, rfl, by decide +kernel, by decide +kernel⟩
theorem fm_Rows_made_of (g : Gd K mg base) : FnM T0 P w K mg base 35 0 "made_of" ["self", "row"] d_Rows_made_of := by
  obtain ⟨fd, F⟩ := g.c.def_ 20 (d := hd20) rfl
  refine ⟨⟨_, fd, He.cls_ok (x := "Rows") (g.c.fact 29 (f := .cls "Rows") rfl), He.meth_ok (x := "Rows") (m := "made_of") (g.c.fact 32 (f := .meth "Rows" "made_of") rfl), ?_, F.bindsN (fun _ _ _ _ _ _ us hl => match us, hl with | [_, _], _ => rfl), kwm_of F (fun _ _ _ _ _ _ v ws hl => match ws, hl with | [_], _ => rfl)⟩, arity_d⟩
  exact fng_of F sc_Rows_made_of fun cdv hc A outer s H E c => jb_cons (js_expr (je_meth g.tb0 c (fm_Rows_need_row g).clo (je_var 0) (ja_cons (je_var 1) (ja_nil)))) (jb_cons (js_set 2 c.nd (je_meth g.tb0 c (fm_Rows_line_of g).clo (je_var 0) (ja_cons (je_var 1) (ja_nil)))) (jb_cons (js_if (jt_cmp op_isntZ oz_isnt (je_fn c (fn_first_place g) (ja_cons (je_sli (je_var 2) (jo_none) (jo_some (je_attr 0 g.tb0 (je_var 0)))) (ja_nil)) (by decide)) (je_non)) (jb_one (js_ret (je_non))) (jb_nil)) (jb_cons (js_setLc 3 [("number", 4)] c.calm c.nd (ji_val (je_sli (je_var 2) (jo_some (je_attr 0 g.tb0 (je_var 0))) (jo_some (je_bin op_addZ oz_add (je_attr 0 g.tb0 (je_var 0)) (je_callB cr_len cz_len (g.free 8) (ja_cons (je_attr 1 g.tb0 (je_var 0)) (ja_nil))))))) ⟨fun _ _ _ _ _ => jg_n 4 c.blk.nd, fun _ _ _ _ _ => jts_nil, fun _ _ _ _ _ => je_bin op_sub oz_sub (je_int) (je_var 4)⟩ (blkOk_by (N := nm_Rows_made_of) (sc := defScope (cst 13 6)) (by decide +kernel))) (jb_cons (js_set 5 c.nd (je_if (jt_cmp op_gtZ oz_gt (je_sub c.hu1 (je_var 2) (je_neg (je_int))) (je_int)) (je_int) (je_neg (je_int)))) (jb_one (js_ret (je_tup (ja_cons (je_bin op_mulT oz_mulT (je_var 5) (je_sub c.hu1 (je_var 2) (je_neg (je_int)))) (ja_cons (je_callT call_tuple_of cz_tup (g.free 7) (ja_cons (je_lc [("number", 4)] c.calm c.nd (ji_val (je_var 3)) ⟨fun _ _ _ _ _ => jg_n 4 c.blk.nd, fun _ _ _ _ _ => jts_nil, fun _ _ _ _ _ => je_bin op_mulT oz_mulT (je_var 5) (je_var 4)⟩ (blkOk_by (N := nm_Rows_made_of) (sc := defScope (cst 13 6)) (by decide +kernel))) (ja_nil))) (ja_nil))))))))))
abbrev nm_Rows___len__ : List Str := ["self"]
theorem sc_Rows___len__ : FnScope ["self"] ["self"] (defScope (cst 13 8)) := ⟨rfl, rfl, rfl, by decide +kernel, rfl, by decide +kernel, by decide +kernel⟩
theorem fm_Rows___len__ (g : Gd K mg base) : FnM T0 P w K mg base 1 0 "__len__" ["self"] d_Rows___len__ := by
  obtain ⟨fd, F⟩ := g.c.def_ 21 (d := hd21) rfl
  refine ⟨⟨_, fd, He.cls_ok (x := "Rows") (g.c.fact 29 (f := .cls "Rows") rfl), He.meth_ok (x := "Rows") (m := "__len__") (g.c.fact 33 (f := .meth "Rows" "__len__") rfl), ?_, F.bindsN (fun _ _ _ _ _ _ us hl => match us, hl with | [_], _ => rfl), kwm_of F (fun _ _ _ _ _ _ v ws hl => match ws, hl with | [], _ => rfl)⟩, arity_d⟩
  exact fng_of F sc_Rows___len__ fun cdv hc A outer s H E c => jb_one (js_ret (je_callB cr_len cz_len (g.free 8) (ja_cons (je_attr 1 g.tb0 (je_var 0)) (ja_nil))))
theorem ln_Rows (g : Gd K mg base) : LnM T0 P w K mg base 1 0 1 := by
  obtain ⟨fd, F⟩ := g.c.def_ 21 (d := hd21) rfl
  exact ⟨_, (He.meth_ok (x := "Rows") (m := "__len__") (g.c.fact 33 (f := .meth "Rows" "__len__") rfl)).at_, (He.meth_ok (x := "Rows") (m := "__len__") (g.c.fact 33 (f := .meth "Rows" "__len__") rfl)).fn, lenf_of F sc_Rows___len__ (F.bindsN (fun _ _ _ _ _ _ us hl => match us, hl with | [_], _ => rfl)) (g.tb0.ok 0 1 (by decide)).2.1 (g.tb0.ok 0 1 (by decide)).2.2 (g.free 8) (fun _ _ _ _ _ _ => rfl)⟩
abbrev nm_Rows___iter__ : List Str := ["self"]
theorem sc_Rows___iter__ : FnScope ["self"] ["self"] (defScope (cst 13 9)) := ⟨rfl, rfl, rfl, by decide +kernel, rfl, by decide +kernel, by decide +kernel⟩
theorem fm_Rows___iter__ (g : Gd K mg base) : FnM T0 P w K mg base 1 0 "__iter__" ["self"] d_Rows___iter__ := by
  obtain ⟨fd, F⟩ := g.c.def_ 22 (d := hd22) rfl
  refine ⟨⟨_, fd, He.cls_ok (x := "Rows") (g.c.fact 29 (f := .cls "Rows") rfl), He.meth_ok (x := "Rows") (m := "__iter__") (g.c.fact 34 (f := .meth "Rows" "__iter__") rfl), ?_, F.bindsN (fun _ _ _ _ _ _ us hl => match us, hl with | [_], _ => rfl), kwm_of F (fun _ _ _ _ _ _ v ws hl => match ws, hl with | [], _ => rfl)⟩, arity_d⟩
  exact fng_of F sc_Rows___iter__ fun cdv hc A outer s H E c => jb_one (js_ret (je_bad))
theorem it_Rows (g : Gd K mg base) : ItM T0 P w K mg base 1 0 1 := by
  obtain ⟨fd, F⟩ := g.c.def_ 22 (d := hd22) rfl
  exact ⟨_, (He.meth_ok (x := "Rows") (m := "__iter__") (g.c.fact 34 (f := .meth "Rows" "__iter__") rfl)).at_, (He.meth_ok (x := "Rows") (m := "__iter__") (g.c.fact 34 (f := .meth "Rows" "__iter__") rfl)).fn, itf_of F sc_Rows___iter__ (F.bindsN (fun _ _ _ _ _ _ us hl => match us, hl with | [_], _ => rfl)) (g.tb0.ok 0 1 (by decide)).2.1 (g.tb0.ok 0 1 (by decide)).2.2 (g.free 35) (fun _ _ _ _ _ _ => rfl)⟩
abbrev nm__law_made_right : List Str := ["_law_rows_here", "_law_kept", "_law_row_here", "_law_told", "_law_is_due", "_law_divisor", "_law_numbers", "_law_one", "_law_place_here", "_law_number", "_law_other"]
theorem sc__law_made_right : FnScope ["_law_rows_here", "_law_kept", "_law_row_here", "_law_told", "_law_is_due", "_law_divisor", "_law_numbers", "_law_one", "_law_place_here", "_law_number", "_law_other"] ["_law_rows_here", "_law_kept", "_law_row_here"] (defScope (top 25)) := ⟨rfl, rfl, rfl, by decide +kernel, rfl, by decide +kernel, by decide +kernel⟩
theorem fn__law_made_right (g : Gd K mg base) : Fn T0 P w K mg base 36 "_law_made_right" ["_law_rows_here", "_law_kept", "_law_row_here"] d__law_made_right := by
  obtain ⟨fd, F⟩ := g.c.def_ 23 (d := hd23) rfl
  refine ⟨⟨_, fd, (g.glo 37), F.kp, fng_of F sc__law_made_right fun cdv hc A outer s H E c => ?_, F.bindsN (fun _ _ _ _ _ _ us hl => match us, hl with | [_, _, _], _ => rfl), kw_of F (fun _ _ _ _ _ _ ws hl => match ws, hl with | [_, _, _], _ => rfl), lk_of F⟩, arity_d⟩
  exact jb_cons (js_set 3 c.nd (je_meth g.tb0 c (fm_Rows_made_of g).clo (je_var 0) (ja_cons (je_var 2) (ja_nil)))) (jb_cons (js_set 4 c.nd (je_cmp (op_eqZ c.hu) oz_eq (je_callBE (cr_lenX c (fm_Rows___len__ g).clo.p cr_len) (ce_len cz_len.e) (g.free 8) (ja_cons (je_fn c (fn__law_free g).clo (ja_cons (je_bin op_addZ oz_add (je_var 1) (je_lst (ja_cons (je_var 2) (ja_nil)))) (ja_nil)) (by decide)) (ja_nil))) (je_callBE (cr_lenX c (fm_Rows___len__ g).clo.p cr_len) (ce_len cz_len.e) (g.free 8) (ja_cons (je_var 1) (ja_nil))))) (jb_cons (js_if (jt_not (jt_tru (je_var 4))) (jb_one (js_ret (je_cmp op_isZ oz_is (je_var 3) (je_non)))) (jb_nil)) (jb_cons (js_if (PW.pt (jw_or (jt_not (jt_tru (je_callB cr_isi (cz_isiX g.ki) (g.free 3) (ja_cons (je_var 3) (ja_cons (je_ty (g.free 7) rfl) (ja_nil)))))) (jw_or (jt_cmp (op_neZ c.hu) oz_ne (je_callBE (cr_lenX c (fm_Rows___len__ g).clo.p cr_len) (ce_len cz_len.e) (g.free 8) (ja_cons (je_var 3) (ja_nil))) (je_int)) (jw_or (jt_not (jt_tru (je_callB cr_isi (cz_isiX g.ki) (g.free 3) (ja_cons (je_sub c.hu1 (je_var 3) (je_int)) (ja_cons (je_ty (g.free 7) rfl) (ja_nil)))))) (jw_or1 (jt_cmp (op_neZ c.hu) oz_ne (je_callBE (cr_lenX c (fm_Rows___len__ g).clo.p cr_len) (ce_len cz_len.e) (g.free 8) (ja_cons (je_sub c.hu1 (je_var 3) (je_int)) (ja_nil))) (je_callBE (cr_lenX c (fm_Rows___len__ g).clo.p cr_len) (ce_len cz_len.e) (g.free 8) (ja_cons (je_var 1) (ja_nil))))))))) (jb_one (js_ret (je_bl))) (jb_nil)) (jb_cons (js_asg (je_var 3) (jgz_t c.calm (jgzs_cons (jgz_n 5 c.nd) (jgzs_cons (jgz_n 6 c.nd) (jgzs_nil))))) (jb_cons (js_if (PW.pt (jw_or (jt_cmp (op_neZ c.hu) oz_ne (je_lc [("_law_one", 7)] c.calm c.nd (ji_ei (ji_val (je_bin op_addZ oz_add (je_tup (ja_cons (je_var 5) (ja_nil))) (je_var 6))) (ji_own g.tb0 c (it_Rows g) (je_bin op_addZ oz_add (je_tup (ja_cons (je_var 5) (ja_nil))) (je_var 6)))) ⟨fun _ _ _ _ _ => jg_n 7 c.blk.nd, fun _ _ _ _ _ => jts_one (PW.pt (jw_or (jt_not (jt_tru (je_callB cr_isi (cz_isiX g.ki) (g.free 3) (ja_cons (je_var 7) (ja_cons (je_ty (g.free 2) rfl) (ja_nil)))))) (jw_or1 (jt_tru (je_callB cr_isi (cz_isiX g.ki) (g.free 3) (ja_cons (je_var 7) (ja_cons (je_ty (g.free 4) rfl) (ja_nil)))))))), fun _ _ _ _ _ => je_var 7⟩ (blkOk_by (N := nm__law_made_right) (sc := defScope (top 25)) (by decide +kernel))) (je_lst (ja_nil))) (jw_or1 (jt_cmp op_ltZ oz_lt (je_var 5) (je_int))))) (jb_one (js_ret (je_bl))) (jb_nil)) (jb_cons (js_for c.own c.calm (ji_rng1 (g.free 23) (ja_cons (je_callBE (cr_lenX c (fm_Rows___len__ g).clo.p cr_len) (ce_len cz_len.e) (g.free 8) (ja_cons (je_var 2) (ja_nil))) (ja_nil))) (jg_n 8 c.nd) (jb_one (js_if (jt_cmp (op_neZ c.hu) oz_ne (je_bin op_mulT oz_mulT (je_var 5) (je_sub c.hu1 (je_var 2) (je_var 8))) (je_callB (cr_sum c.calm) cz_sum (g.free 36) (ja_cons (je_lc [("_law_number", 9), ("_law_other", 10)] c.calm c.nd (ji_zip (g.free 15) (ja_cons (je_var 6) (ja_cons (je_var 1) (ja_nil)))) ⟨fun _ _ _ _ _ => jg_t c.blk.calm (jgs_cons (jg_n 9 c.blk.nd) (jgs_cons (jg_n 10 c.blk.nd) (jgs_nil))), fun _ _ _ _ _ => jts_nil, fun _ _ _ _ _ => je_bin op_mulT oz_mulT (je_var 9) (je_sub c.blk.hu1 (je_var 10) (je_var 8))⟩ (blkOk_by (N := nm__law_made_right) (sc := defScope (top 25)) (by decide +kernel))) (ja_nil)))) (jb_one (js_ret (je_bl))) (jb_nil)))) (jb_one (js_ret (je_cmp (op_eqZ c.hu) oz_eq (je_fn c (fn__law_shared g) (ja_cons (je_bin op_addZ oz_add (je_lst (ja_cons (je_var 5) (ja_nil))) (je_callTE (CallR.or (call_listO c (it_Rows g) (ln_Rows g)) call_list_of) (ce_listX g.tb0 cz_list.e mkNd_lst) (g.free 17) (ja_cons (je_var 6) (ja_nil)))) (ja_nil)) (by decide)) (je_int))))))))))
abbrev nm_Rows___init__ : List Str := ["self", "width"]
theorem sc_Rows___init__ : FnScope ["self", "width"] ["self", "width"] (defScope (cst 13 0)) := ⟨rfl, rfl, rfl, by decide +kernel, rfl, by decide +kernel, by decide +kernel⟩
theorem nc_Rows (g : Gd K mg base) : NewC T0 P w K mg base 3 "Rows" 0 ["self", "width"] d_Rows___init__ := by
  obtain ⟨fd, F⟩ := g.c.def_ 24 (d := hd24) rfl
  refine ⟨⟨_, fd, (g.glo 40), He.mkr_ok (x := "Rows") (g.c.fact 39 (f := .mkr "Rows") rfl), ?_, F.bindsN (fun _ _ _ _ _ _ us hl => match us, hl with | [_, _], _ => rfl), kwm_of F (fun _ _ _ _ _ _ v ws hl => match ws, hl with | [_], _ => rfl)⟩, arity_d⟩
  exact fng_of F sc_Rows___init__ fun cdv hc A outer s H E c => jb_cons (js_if (jt_not (jt_tru (je_fn c (fn_is_between g) (ja_cons (je_var 1) (ja_cons (je_int) (ja_cons (je_gint (g.int 38)) (ja_nil)))) (by decide)))) (jb_one (js_raise c (en_BadWidth g) (ja_cons (je_var 1) (ja_nil)))) (jb_nil)) (jb_cons (js_attr 0 g.tb0 (je_var 0) (je_var 1)) (jb_cons (js_attr 1 g.tb0 (je_var 0) (je_tup (ja_nil))) (jb_one (js_attr 2 g.tb0 (je_var 0) (je_tup (ja_nil))))))
abbrev nm_Rows_more : List Str := ["self", "row", "line", "place", "found", "step"]
theorem sc_Rows_more : FnScope ["self", "row", "line", "place", "found", "step"] ["self", "row"] (defScope (cst 13 5)) := ⟨rfl, rfl, rfl, by decide +kernel, rfl, by decide +kernel, by decide +kernel⟩
theorem fm_Rows_more (g : Gd K mg base) : FnM T0 P w K mg base 35 0 "more" ["self", "row"] d_Rows_more := by
  obtain ⟨fd, F⟩ := g.c.def_ 25 (d := hd25) rfl
  refine ⟨⟨_, fd, He.cls_ok (x := "Rows") (g.c.fact 29 (f := .cls "Rows") rfl), He.meth_ok (x := "Rows") (m := "more") (g.c.fact 41 (f := .meth "Rows" "more") rfl), ?_, F.bindsN (fun _ _ _ _ _ _ us hl => match us, hl with | [_, _], _ => rfl), kwm_of F (fun _ _ _ _ _ _ v ws hl => match ws, hl with | [_], _ => rfl)⟩, arity_d⟩
  exact fng_of F sc_Rows_more fun cdv hc A outer s H E c => jb_cons (js_expr (je_meth g.tb0 c (fm_Rows_need_row g).clo (je_var 0) (ja_cons (je_var 1) (ja_nil)))) (jb_cons (js_set 2 c.nd (je_meth g.tb0 c (fm_Rows_line_of g).clo (je_var 0) (ja_cons (je_var 1) (ja_nil)))) (jb_cons (js_set 3 c.nd (je_fn c (fn_first_place g) (ja_cons (je_sli (je_var 2) (jo_none) (jo_some (je_attr 0 g.tb0 (je_var 0)))) (ja_nil)) (by decide))) (jb_cons (js_if (jt_cmp op_isZ oz_is (je_var 3) (je_non)) (jb_one (js_ret (je_var 0))) (jb_nil)) (jb_cons (js_set 4 c.nd (je_newM c (nc_Rows g) (ja_cons (je_attr 0 g.tb0 (je_var 0)) (ja_nil)))) (jb_cons (js_set 5 c.nd (je_lstM (ja_star (je_sli (je_var 2) (jo_none) (jo_some (je_neg (je_int)))) (ja_cons (je_int) (ja_nil))))) (jb_cons (js_asg (je_sub c.hu1 (je_var 2) (je_neg (je_int))) (jgz_i (E := fun _ => E) (je_var 5) (je_bin op_addZ oz_add (je_attr 0 g.tb0 (je_var 0)) (je_callB cr_len cz_len (g.free 8) (ja_cons (je_attr 1 g.tb0 (je_var 0)) (ja_nil)))))) (jb_cons (js_attr 1 g.tb0 (je_var 4) (je_tup (ja_star (je_attr 1 g.tb0 (je_var 0)) (ja_cons (je_var 1) (ja_nil))))) (jb_cons (js_attr 2 g.tb0 (je_var 4) (je_tup (ja_star (je_attr 2 g.tb0 (je_var 0)) (ja_cons (je_tup (ja_cons (je_var 3) (ja_cons (je_var 5) (ja_nil)))) (ja_nil))))) (jb_one (js_ret (je_var 4)))))))))))
abbrev nm_Rows_of : List Str := ["width", "rows", "found", "row"]
theorem sc_Rows_of : FnScope ["width", "rows", "found", "row"] ["width", "rows"] (defScope (cst 13 1)) := ⟨rfl, rfl, rfl, by decide +kernel, rfl, by decide +kernel, by decide +kernel⟩
theorem st_Rows_of (g : Gd K mg base) : StatM T0 P w K mg base 36 0 "of" (dStar 1 d_Rows_of) := by
  obtain ⟨fd, F⟩ := g.c.def_ 26 (d := hd26) rfl
  refine statM_of (x := "Rows") rfl (g.c.extra 2 (f := statB "Rows" "of") rfl) ?_
  exact fnp_star (ps := ["width"]) (pv := "rows") (N := nm_Rows_of) (d := d_Rows_of) (fun _ _ _ _ h => def_ok (ps := ["width", "rows"]) (N := nm_Rows_of) h) F sc_Rows_of arity_d (fun _ _ _ _ _ _ us rest hl => match us, rest, hl with | [_], [], _ => rfl | [_], _ :: _, _ => rfl) (fun cdv A outer s H E c => jb_cons (js_set 2 c.nd (je_newC c (nc_Rows g) (ja_cons (je_var 0) (ja_nil)))) (jb_cons (js_for c.own c.calm (ji_val (je_var 1)) (jg_n 3 c.nd) (jb_one (js_set 2 c.nd (je_meth g.tb0 c (fm_Rows_more g).clo (je_var 2) (ja_cons (je_var 3) (ja_nil)))))) (jb_one (js_ret (je_var 2)))))
abbrev nm_law : List Str := ["_law_script", "_law_pen_here", "_law_turn", "_law_width", "_law_wide", "_law_rows_so", "_law_kept", "_law_at", "_law_made", "_law_slow", "_law_row_here", "_law_before", "_law_lap", "_law_some", "_law_rows_here", "_law_told"]
theorem sc_law : FnScope ["_law_script", "_law_pen_here", "_law_turn", "_law_width", "_law_wide", "_law_rows_so", "_law_kept", "_law_at", "_law_made", "_law_slow", "_law_row_here", "_law_before", "_law_lap", "_law_some", "_law_rows_here", "_law_told"] ["_law_script"] (defScope (top 26)) := ⟨rfl, rfl, rfl, by decide +kernel, rfl, by decide +kernel, by decide +kernel⟩
theorem law_g0 (g : Gd K mg base) {fd : FuncData} (F : FunD K hd27.name hd27.qual hd27.params hd27.body hd27.scope (hd27.dvs K) (hd27.kws K) (hd27.at_ K) fd) : FnG T0 P w K mg base 37 (hd27.at_ K) fd ["_law_script"] d_law :=
  fng_of F sc_law fun cdv hc A outer s H E c => jb_cons (js_set 1 c.nd (je_fn c (fn__law_pen g) (ja_cons (je_var 0) (ja_nil)) (by decide))) (jb_keep [1, 7] (jb_cons (js_for c.own c.calm (ji_rng1 (g.free 23) (ja_cons (je_int) (ja_nil))) (jg_n 2 c.nd) (jb_sh (jb_cons (js_par 3 4 c.calm c.nd (ja_cons (je_bin op_addZ oz_add (je_int) (je_fn c (fn__law_draw g) (ja_cons (je_var 1) (ja_cons (je_int) (ja_nil))) (by decide))) (ja_cons (je_cmp (op_eqZ c.hu) oz_eq (je_fn c (fn__law_draw g) (ja_cons (je_var 1) (ja_cons (je_int) (ja_nil))) (by decide)) (je_int)) (ja_nil)))) (jb_keep [1, 3, 4, 7] (jb_cons (js_set 5 c.nd (je_fn c (fn__law_rows g) (ja_cons (je_var 1) (ja_cons (je_var 3) (ja_cons (je_fn c (fn__law_draw g) (ja_cons (je_var 1) (ja_cons (je_int) (ja_nil))) (by decide)) (ja_cons (je_var 4) (ja_nil))))) (by decide))) (jb_cons (js_setLc 6 [("_law_at", 7)] c.calm c.nd (ji_ei (ji_val (je_fn c (fn__law_free g).clo (ja_cons (je_var 5) (ja_nil)) (by decide))) (ji_own g.tb0 c (it_Rows g) (je_fn c (fn__law_free g).clo (ja_cons (je_var 5) (ja_nil)) (by decide)))) ⟨fun _ _ _ _ _ => jg_n 7 c.blk.nd, fun _ _ _ _ _ => jts_nil, fun _ _ _ _ _ => je_sub c.blk.hu1 (je_var 5) (je_var 7)⟩ (blkOk_by (N := nm_law) (sc := defScope (top 26)) (by decide +kernel))) (jb_cons (js_par 8 9 c.calm c.nd (ja_cons (je_newC c (nc_Rows g) (ja_cons (je_var 3) (ja_nil))) (ja_cons (je_newCK c (nc_Rows g) (jk_cons (je_var 3) (jk_nil))) (ja_nil)))) (jb_cons (js_for c.own c.calm (ji_ei (ji_val (je_var 5)) (ji_own g.tb0 c (it_Rows g) (je_var 5))) (jg_n 10 c.nd) (jb_sh (jb_cons (js_set 11 c.nd (je_callTE (CallR.or (call_listO c (it_Rows g) (ln_Rows g)) call_list_of) (ce_listX g.tb0 cz_list.e mkNd_lst) (g.free 17) (ja_cons (je_var 9) (ja_nil)))) (jb_keep [1, 3, 4, 6, 7, 8, 9, 10, 11] (jb_cons (js_set 9 c.nd (je_meth g.tb0 c (fm_Rows_more g).clo (je_var 9) (ja_cons (je_var 10) (ja_nil)))) (jb_cons (js_if (PW.pt (jw_and (jt_cmp (op_neZ c.hu) oz_ne (je_callTE (CallR.or (call_listO c (it_Rows g) (ln_Rows g)) call_list_of) (ce_listX g.tb0 cz_list.e mkNd_lst) (g.free 17) (ja_cons (je_var 9) (ja_nil))) (je_var 11)) (jw_and1 (jt_cmp (op_neZ c.hu) oz_ne (je_callTE (CallR.or (call_listO c (it_Rows g) (ln_Rows g)) call_list_of) (ce_listX g.tb0 cz_list.e mkNd_lst) (g.free 17) (ja_cons (je_var 9) (ja_nil))) (je_bin op_addZ oz_add (je_var 11) (je_lst (ja_cons (je_var 10) (ja_nil)))))))) (jb_one (js_ret (je_bl))) (jb_nil)) (jb_keep [1, 3, 4, 6, 7, 8, 9, 10] (jb_cons (js_set 8 c.nd (je_methK g.tb0 c (fm_Rows_more g).clo (je_var 8) (jk_cons (je_var 10) (jk_nil)))) (jb_keep [1, 3, 4, 6, 7, 8, 9, 10] jb_nil))))))))) (jb_keep [1, 3, 4, 6, 7, 8, 9] (jb_cons (js_if (PW.pt (jw_or (jt_cmp (op_neZ c.hu) oz_ne (je_callTE (CallR.or (call_listO c (it_Rows g) (ln_Rows g)) call_list_of) (ce_listX g.tb0 cz_list.e mkNd_lst) (g.free 17) (ja_cons (je_var 9) (ja_nil))) (je_var 6)) (jw_or (jt_cmp (op_neZ c.hu) oz_ne (je_callTE (CallR.or (call_listO c (it_Rows g) (ln_Rows g)) call_list_of) (ce_listX g.tb0 cz_list.e mkNd_lst) (g.free 17) (ja_cons (je_var 8) (ja_nil))) (je_var 6)) (jw_or (jt_cmp (op_neZ c.hu) oz_ne (je_callBE (cr_lenX c (fm_Rows___len__ g).clo.p cr_len) (ce_len cz_len.e) (g.free 8) (ja_cons (je_var 9) (ja_nil))) (je_callBE (cr_lenX c (fm_Rows___len__ g).clo.p cr_len) (ce_len cz_len.e) (g.free 8) (ja_cons (je_var 6) (ja_nil)))) (jw_or1 (jt_cmp (op_neZ c.hu) oz_ne (je_attr 0 g.tb0 (je_var 9)) (je_var 3))))))) (jb_one (js_ret (je_bl))) (jb_nil)) (jb_keep [1, 3, 4, 6, 7, 9] (jb_cons (js_for c.own c.calm (ji_rng1 (g.free 23) (ja_cons (je_int) (ja_nil))) (jg_n 12 c.nd) (jb_sh (jb_cons (js_set 13 c.nd (je_lst (ja_cons (je_fn c (fn__law_row g) (ja_cons (je_var 1) (ja_cons (je_var 3) (ja_cons (je_var 4) (ja_nil)))) (by decide)) (ja_cons (je_fn c (fn__law_mixed g) (ja_cons (je_var 1) (ja_cons (je_var 6) (ja_cons (je_var 3) (ja_nil)))) (by decide)) (ja_cons (je_callT call_tuple_of cz_tup (g.free 7) (ja_cons (je_bin op_mulT oz_mulT (je_lst (ja_cons (je_int) (ja_nil))) (je_var 3)) (ja_nil))) (ja_nil)))))) (jb_keep [1, 3, 4, 6, 7, 9, 13] (jb_cons (js_if (jt_not (jt_tru (je_fn c (fn__law_made_right g) (ja_cons (je_var 9) (ja_cons (je_var 6) (ja_cons (je_fn c (fn__law_pick g) (ja_cons (je_var 1) (ja_cons (je_var 13) (ja_nil))) (by decide)) (ja_nil)))) (by decide)))) (jb_one (js_ret (je_bl))) (jb_nil)) (jb_keep [1, 3, 4, 6, 7, 9] jb_nil)))))) (jb_keep [1, 6, 7, 9] (jb_cons (js_if (jt_cmp (op_neZ c.hu) oz_ne (je_callTE (CallR.or (call_listO c (it_Rows g) (ln_Rows g)) call_list_of) (ce_listX g.tb0 cz_list.e mkNd_lst) (g.free 17) (ja_cons (je_var 9) (ja_nil))) (je_var 6)) (jb_one (js_ret (je_bl))) (jb_nil)) (jb_keep [1, 7] jb_nil))))))))))))))) (jb_keep [] (jb_cons (js_set 14 c.nd (je_stat c (st_Rows_of g).clo (je_cls (g.glo 40)) (ja_cons (je_int) (ja_cons (je_tup (ja_cons (je_int) (ja_cons (je_int) (ja_cons (je_int) (ja_nil))))) (ja_cons (je_tup (ja_cons (je_int) (ja_cons (je_int) (ja_cons (je_int) (ja_nil))))) (ja_cons (je_tup (ja_cons (je_int) (ja_cons (je_int) (ja_cons (je_int) (ja_nil))))) (ja_nil))))))) (jb_cons (js_set 15 c.nd (je_lst (ja_cons (je_meth g.tb0 c (fm_Rows_made_of g).clo (je_stat c (st_Rows_of g).clo (je_cls (g.glo 40)) (ja_cons (je_int) (ja_cons (je_tup (ja_cons (je_int) (ja_cons (je_int) (ja_nil)))) (ja_cons (je_tup (ja_cons (je_int) (ja_cons (je_int) (ja_nil)))) (ja_nil))))) (ja_cons (je_tup (ja_cons (je_int) (ja_cons (je_int) (ja_nil)))) (ja_nil))) (ja_cons (je_meth g.tb0 c (fm_Rows_made_of g).clo (je_var 14) (ja_cons (je_tup (ja_cons (je_int) (ja_cons (je_int) (ja_cons (je_int) (ja_nil))))) (ja_nil))) (ja_cons (je_meth g.tb0 c (fm_Rows_made_of g).clo (je_var 14) (ja_cons (je_tup (ja_cons (je_int) (ja_cons (je_int) (ja_cons (je_int) (ja_nil))))) (ja_nil))) (ja_cons (je_callBE (cr_lenX c (fm_Rows___len__ g).clo.p cr_len) (ce_len cz_len.e) (g.free 8) (ja_cons (je_var 14) (ja_nil))) (ja_nil))))))) (jb_one (js_ret (je_and (je_cmp (op_eqZ c.hu) oz_eq (je_var 15) (je_lst (ja_cons (je_tup (ja_cons (je_int) (ja_cons (je_tup (ja_cons (je_int) (ja_cons (je_int) (ja_nil)))) (ja_nil)))) (ja_cons (je_tup (ja_cons (je_int) (ja_cons (je_tup (ja_cons (je_int) (ja_cons (je_int) (ja_nil)))) (ja_nil)))) (ja_cons (je_non) (ja_cons (je_int) (ja_nil))))))) (je_one (je_cmp (op_eqZ c.hu) oz_eq (je_callBE (cr_lenX c (fm_Rows___len__ g).clo.p cr_len) (ce_len cz_len.e) (g.free 8) (ja_cons (je_stat c (st_Rows_of g).clo (je_cls (g.glo 40)) (ja_cons (je_int) (ja_nil))) (ja_nil))) (je_int)))))))))))
end
theorem law_fn {w : World} {K : PySem.W.Frag} {h : Heap} {mg : Str → Option Value} {fa : Addr} (KX : K.In h) (G : h.Ns mainGlobals mg) (hm : mg ("law" : Str) = some (.ref fa)) (c : SaysZ fal exl fnl K) (t : TabsGood tbl K h) :
    ∃ (K : PySem.W.Frag) (fd : FuncData), K.In h ∧ (∀ p ∈ T0.tabs K, h.get? p.1 = some tabO ∧ K.lookup p.1 = none ∧ ∃ c, PySem.W.CodeHd h c p.1) ∧ (∀ (s : Shared) (u : Value), BindsTo s fd ⟨[u], []⟩ [("_law_script", u)]) ∧ ∀ base : Heap, K.In base → base.Ns mainGlobals mg → BaseT (T0.tabs K) mg base → base.NoSeer → FnG T0 (PySem.Challenge.rw_sumdigits_k26_rows_that_depend).prog w K mg base 37 fa fd ["_law_script"] d_law := by
  obtain ⟨fd, F⟩ := c.def_ 27 (d := hd27) rfl
  have e := hm.symm.trans (He.glo_ok KX G (c.fact 42 (f := .glo "law") rfl))
  cases e
  refine ⟨K, fd, KX, t.law KX, fun s u => FunD.bindsA (ps := ["_law_script"]) F (fun _ _ _ _ _ _ us hl => match us, hl with | [_], _ => rfl) s [u] rfl, fun base inB nsB bt se => ?_⟩
  exact law_g0 ⟨c, t.k, ⟨h, KX, G⟩, inB, bt, se⟩ F
end Z
end
end
set_option Elab.async false
set_option maxRecDepth 100000
set_option maxHeartbeats 0
open PySem PySem.W PyProof.Rows
theorem PySem.Challenge.cw_sumdigits_k26_rows_that_depend_holds : PySem.Challenge.rw_sumdigits_k26_rows_that_depend.Holds := by
  w_on; o_law
  z_head
  case hw => w_witness2
  case hc =>
    k_fill
    refine Z.walkX_of (YP := Z.SaysX Z.fal Z.exl Z.fnl Z.tbl) (Z.says_of (fun _ => by kernel_rfl) (fun _ => by kernel_rfl)) Z.says_keeps ?_
    refine Z.walk_gS (l := PySem.Challenge.rw_sumdigits_k26_rows_that_depend) (n := 63) (k := 37) (x := "_law_script") (T := Z.T0) (d := Z.d_law) (by kernel_rfl) rfl (by decide) (by kernel_rfl) ⟨rfl, by decide, by decide⟩ Z.law_good ?F
    intro w mg fa h Y G hmg0
    obtain ⟨K, KX, c, t⟩ := Y
    have hmg : mg ("law" : PySem.Str) = some (.ref fa) := hmg0
    exact Z.law_fn KX G hmg c t

