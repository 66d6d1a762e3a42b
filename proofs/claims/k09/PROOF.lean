import PyProof.Rows.All
import Wide.All
import OpenK.AllK
import Wide.FinOn
import PyProof.EqAt
import PyProof.EqKinds
import PyProof.TupleCall
import HandS.ForMost
import HandS.ForExc
import HandS.HeadHook1
import HandS.Defaults
import HandS.CallSlots
import HandS.IsInst
import HandS.Wide
import HandS.TupAny
import HandS.Style
import HandS.Zip
import HandS.Flow
import HandS.Evl
import HandS.Exc
import HandS.Lambda
import HandS.RaiseMore
import HandS.TupLen
import HandS.ExcIs
import KE.KExcIs
import HandS.Walk
import KE.GoesNew
import KE.GoesMore
import KE.GoesEnum
import HandS.Small
import HandS.Comp
import HandS.WordsExc
import HandS.Ends
import HandS.HeadEnd
import HandS.StrMore
import HandS.MakeKw
import HandS.ExcInit
import HandS.ExcField
import HandS.HeadNt
import HandS.Star
import HandS.ClsMeth
import HandS.Records
import HandS.DictComp
import HandS.Conv
import HandS.Iter
import KE.KDictSum
import HandS.EndTab
import KE.KNestM
import HandS.Text
import HandS.Replace
import HandS.IterVal
import HandS.OwnIter
import KE.KOwnIter
import PyProof.CollectIter
import HandS.TupMul
import PyProof.MeetsIn
import PyProof.Conv_bool
import PyProof.InstNe
import PyProof.FactsAll.object_2
import PyProof.PureInt
import PyProof.Rows.StrMeet
import HandS.More
import PyProof.DictMoreH
import HandS.DictTup
import KE.KDictWalk
import KE.KDictCopyH
import HandS.New0
import HandS.GenYield
import HandS.GenCall
import HandS.GenList
import KE.DataCmp
import KE.KEqNest
import HandS.OwnEq
import HandS.NoneIn
import PyProof.ReprLen
import OpenK.ZGo
import HandS.FStr
import KE.KxField
import PyProof.Rows.StrIntSpec
import KE.KParD
import PyProof.SliceStr2
import PyProof.Rows.SetFrom
import PyProof.SetRoads
import HandS.Set
import KE.KStateDown
import Lean
import HandS.Words
import HandS.Head0
import HandS.Head1
import HandS.Head2
import HandS.HeadHook2
import PySem.Challenge.RW_sumdigits_k09_words_refused
section
set_option Elab.async false
set_option linter.all false
set_option maxRecDepth 100000
set_option maxHeartbeats 2000000
noncomputable section
namespace Z
open PySem PySem.Spec PyProof.Rows L2
/-- names of classes and fields by numbers -/
structure Tb where
  cn : Nat → Str
  fd : Nat → Str
  nf : Nat
  okf : Nat → Nat → Bool
  /-- the errors' fields -/
  okx : Nat → Nat → Bool := fun _ _ => false
  /-- the tables of code of the defs in which lambdas stand -/
  tabs : PySem.W.Frag → List (Addr × Str) := fun _ => []
abbrev Tb.ca (T : Tb) (K : PySem.W.Frag) (c : Nat) : Addr := He.ga K (T.cn c)
def obsZ (fa : List He.Fa) (ex : List (PySem.W.Frag → Bool)) (fn : List He5.DefA) (K : PySem.W.Frag) : He.AlD := ((fa.all fun f => f.ok K) && ((ex.all fun f => f K) && fn.all fun d => d.ok K), fn.map fun d => He5.fnA K (d.at_ K))
def valZ (fn : List He5.DefA) : He.AlD := (true, fn.map He5.DefA.val)
def SaysZ (fa : List He.Fa) (ex : List (PySem.W.Frag → Bool)) (fn : List He5.DefA) (K : PySem.W.Frag) : Prop := obsZ fa ex fn K = valZ fn
abbrev tabO : Obj := { cls := .none, data := .fields #[] }
def isTab (o : Option Obj) : Bool := match o with
  | some ⟨.none, none, .fields vs, sl⟩ => vs.isEmpty && sl.isEmpty
  | _ => false
theorem isTab_eq {o : Option Obj} (h : isTab o = true) : o = some tabO := by
  unfold isTab at h
  split at h
  · rename_i vs sl
    obtain ⟨h1, h2⟩ := Bool.and_eq_true_iff.mp h
    rw [Array.isEmpty_iff] at h1 h2
    rw [h1, h2]
  · cases h
/-- the addresses of the head, but for the tables -/
def asZ (g : Addr → Option Obj) (n : Nat) : List Addr := (He5.asA g n).filter fun a => !(isTab (g a))
def tabsOf (tb : List (Str × Str)) (K : PySem.W.Frag) : List (Addr × Str) := tb.filterMap fun p => (PySem.W.tabIn K p.1).map fun c => (c.2, p.2)
def tabOk (g : Addr → Option Obj) (K : PySem.W.Frag) (p : Str × Str) : Bool := match PySem.W.tabIn K p.1 with
  | some (c, P) => PySem.W.codeHdIn K c P && ((K.lookup P).isNone && isTab (g P))
  | none => false
structure TabsGood (tb : List (Str × Str)) (K : PySem.W.Frag) (h : Heap) : Prop where
  each : ∀ p ∈ tb, ∃ c P, PySem.W.tabIn K p.1 = some (c, P) ∧ PySem.W.codeHdIn K c P = true ∧ K.lookup P = none ∧ h.get? P = some tabO
  one : ((tabsOf tb K).map (·.1)).Nodup
theorem mem_of_lookup {α β : Type} [BEq α] [LawfulBEq α] {k : α} {v : β} : ∀ {l : List (α × β)}, l.lookup k = some v → (k, v) ∈ l
  | [], h => by cases h
  | (a, b) :: l, h => by
    rw [List.lookup_cons] at h
    by_cases e : (k == a) = true
    · rw [e] at h
      have : b = v := Option.some.inj h
      rw [eq_of_beq e, this]
      exact List.mem_cons_self
    · rw [Bool.not_eq_true] at e
      rw [e] at h
      exact List.mem_cons_of_mem _ (mem_of_lookup h)
def TbX (cns fds : List Str) (okl oxl : List (Nat × Nat)) (tb : List (Str × Str)) : Tb := { cn := fun i => cns.getD i "", fd := fun i => fds.getD i "", nf := fds.length, okf := fun c f => decide ((c, f) ∈ okl), okx := fun c f => decide ((c, f) ∈ oxl), tabs := tabsOf tb }
def tbB (T : Tb) (fds : List Str) (okl oxl : List (Nat × Nat)) (K : PySem.W.Frag) : Bool :=
  decide fds.Nodup && ((okl.all fun p => decide (p.2 < fds.length) && (He.Fa.ok K (.cls (T.cn p.1)) && He.Fa.ok K (.noat (T.cn p.1) (T.fd p.2)))) &&
    oxl.all fun p => decide (p.2 < fds.length) && (xfB K (T.ca K p.1) && decide (PySem.W.findIn K (.ref (T.ca K p.1)) (T.fd p.2) = some none)))
/-- which errors an except clause takes -/
def exmB (T : Tb) (C : Nat) (l : List (Nat × Bool)) (K : PySem.W.Frag) : Bool := l.all fun p => decide (PySem.W.exmOne K (.ref (T.ca K p.1)) (.ref (T.ca K C)) = some p.2)
/-- isinstance by tables: a built-in's instance of a class, a class's of a class, of a built-in; the classes that are known; whose methods go first -/
structure Ki where
  kb : List ((String × Nat) × Bool)
  kc : List ((Nat × Nat) × Bool)
  kt : List ((Nat × String) × Bool)
  cs : List Nat
  fb : List (String × Nat)
  es : List Nat := []
/-- the tables as they are asked of the text -/
def kiB (T : Tb) (I : Ki) (K : PySem.W.Frag) : Bool := (I.kb.all fun p => decide (PySem.W.kitOne K (.type p.1.1) (.ref (T.ca K p.1.2)) = some p.2)) && ((I.kc.all fun p => decide (PySem.W.kitOne K (.ref (T.ca K p.1.1)) (.ref (T.ca K p.1.2)) = some p.2)) &&
  ((I.kt.all fun p => decide (PySem.W.kitOne K (.ref (T.ca K p.1.1)) (.type p.1.2) = some p.2)) && ((I.fb.all fun p => decide (PySem.W.subIn K (.type p.1) (.ref (T.ca K p.2)) = some false)) &&
  ((decide (PySem.W.specialIn K (.builtin "object.__class__") "__get__" = some (some (.builtin "getset_descriptor.__get__"))) && decide (PySem.W.takesIn K (.builtin "object.__class__") = some true)) &&
  ((I.es.all fun c => He.Fa.ok K (.keep (T.cn c)) && (xfB K (T.ca K c) && (decide (PySem.W.findIn K (.ref (T.ca K c)) "__class__" = some (some (.builtin "object.__class__"))) && decide (PySem.W.mroIn K (T.ca K c) (.type "object") = some true)))) &&
  I.cs.all fun c => He.Fa.ok K (.cls (T.cn c)) && (decide (PySem.W.findIn K (.ref (T.ca K c)) "__class__" = some (some (.builtin "object.__class__"))) && decide (PySem.W.mroIn K (T.ca K c) (.type "object") = some true)))))))
def neB (x : Str) (K : PySem.W.Frag) : Bool := decide (PySem.W.findIn K (.ref (He.ga K x)) "__ne__" = some (some (.builtin "object.__ne__")))
def fcB (T : Tb) (L : List (Nat × Nat)) (K : PySem.W.Frag) : Bool := L.all fun p => decide (PySem.W.subIn K (.ref (T.ca K p.1)) (.ref (T.ca K p.2)) = some false)
def mk0B (x : Str) (K : PySem.W.Frag) : Bool := PySem.W.makesIn K (He.ga K x) && (decide (PySem.W.findIn K (.ref (He.ga K x)) "__init__" = some (some (.builtin "object.__init__"))) && (PySem.W.keepIn K (.ref (He.ga K x)) && decide (PySem.W.mroIn K (He.ga K x) (.type "object") = some true)))
/-- the table of modules stands in the written part -/
def smB (K : PySem.W.Frag) : Bool := match K.lookup sysModules with
  | some o => (match o.cls with
    | .type "list" => false
    | _ => true)
  | none => false
/-- errors that end no iterator -/
def nsB (T : Tb) (l : List Nat) (K : PySem.W.Frag) : Bool := l.all fun c => decide (PySem.W.subIn K (.ref (T.ca K c)) (.type "StopIteration") = some false)
def oexB (K : PySem.W.Frag) (C : Addr) : Bool := (match K.lookup C with
  | some ⟨.type "type", _, .cls cd, sl⟩ => (match cd.mro, sl.toList with
    | .ref B :: bm, [_, _, _, _, some (.builtin n), _] => B == C && (n == "ValueError.__new__" && (!cd.hasDel && (cd.hasDict && PySem.HandSPX.refsVE bm)))
    | _, _ => false)
  | _ => false) && (decide (PySem.W.findIn K (.ref C) "__setattr__" = some (some (.builtin "object.__setattr__"))) && (decide (PySem.W.subIn K (.ref C) (.type "BaseException") = some true) && (decide (PySem.W.typeIn K (.ref C) = some (.type "type")) && PySem.W.keepIn K (.ref C))))
def exnB (x : Str) (fs : List Str) (K : PySem.W.Frag) : Bool := oexB K (He.ga K x) && ((match PySem.W.findIn K (.ref (He.ga K x)) "__init__" with
  | some (some (.ref a)) => decide (PySem.W.typeIn K (.ref a) = some (.type "function"))
  | _ => false) && (fs.all fun f => decide (PySem.W.findIn K (.ref (He.ga K x)) f = some none)))
def veMro : List Value := [.type "ValueError", .type "Exception", .type "BaseException", .type "object"]
def ex0B (x : Str) (K : PySem.W.Frag) : Bool := PySem.W.excIn K (He.ga K x) veMro "ValueError.__new__" && PySem.W.keepIn K (.ref (He.ga K x))
/-- a staticmethod's record, its def, the class -/
def stR (K : PySem.W.Frag) (C : Addr) (m : Str) : Option (Addr × Addr × Addr) := match PySem.W.findCls K (.ref C) (.type "type") m with
  | some (.get (.builtin b) (.ref p) .none (.ref C')) => if b = "staticmethod.__get__" then (match PySem.W.recIn K p "staticmethod" with
    | some (.ref g :: _) => some (p, g, C')
    | _ => none) else none
  | _ => none
def stA (K : PySem.W.Frag) (C : Addr) (m : Str) : Addr := match stR K C m with
  | some (_, g, _) => g
  | none => 0
def statB (x m : Str) (K : PySem.W.Frag) : Bool := PySem.W.readsIn K (He.ga K x) (.type "type") && (decide (PySem.W.specialIn K (.ref (He.ga K x)) "__getattribute__" = some (some (.builtin "type.__getattribute__"))) && ((match stR K (He.ga K x) m with
  | some (_, g, C') => decide (C' = He.ga K x) && PySem.W.keepIn K (.ref g)
  | none => false)))
def giB (x : Str) (K : PySem.W.Frag) : Bool := match PySem.W.findIn K (.ref (He.ga K x)) "__getitem__" with
  | some (some (.ref f)) => PySem.W.fnIn K f
  | _ => false
/-- the written objects, but for the tables -/
def noTab (K : PySem.W.Frag) : PySem.W.Frag := K.filter fun p => !(isTab (some p.2))
def obsX (fa : List He.Fa) (ex : List (PySem.W.Frag → Bool)) (fn : List He5.DefA) (tb : List (Str × Str)) (K : PySem.W.Frag) : He.AlD :=
  ((obsZ fa ex fn (noTab K)).1 && ((tb.all fun p => tabOk (fun a => K.lookup a) (noTab K) p) && decide ((tabsOf tb (noTab K)).map (·.1)).Nodup), (obsZ fa ex fn (noTab K)).2)
def SaysX (fa : List He.Fa) (ex : List (PySem.W.Frag → Bool)) (fn : List He5.DefA) (tb : List (Str × Str)) (_ : World) (h : Heap) : Prop := ∃ K : PySem.W.Frag, K.In h ∧ SaysZ fa ex fn K ∧ TabsGood tb K h
theorem lookup_mem' {K : PySem.W.Frag} {a : Addr} {o : Obj} : K.lookup a = some o → (a, o) ∈ K := mem_of_lookup
theorem in_of {h : Heap} {K : PySem.W.Frag} (a : ∀ p ∈ K, h.get? p.1 = some p.2) : K.In h := fun x o e => a (x, o) (lookup_mem' e)
theorem says_keeps {fa : List He.Fa} {ex : List (PySem.W.Frag → Bool)} {fn : List He5.DefA} {tb : List (Str × Str)} (w : World) (h h' : Heap) : SaysX fa ex fn tb w h → (∀ b o, h.get? b = some o → h'.get? b = some o) → SaysX fa ex fn tb w h' :=
  fun ⟨K, hK, c, t⟩ k => ⟨K, PySem.W.Frag.In.keeps hK k, c, ⟨fun p hp => let ⟨c, P, h1, h2, h3, h4⟩ := t.each p hp; ⟨c, P, h1, h2, h3, k _ _ h4⟩, t.one⟩⟩
def isFreed (o : Obj) : Bool := match o.data with
  | .freed => true
  | _ => false
/-- the objects at the wanted places, ascending, by one way through the list -/
def pickF (l : List Obj) : Addr → List Addr → PySem.W.Frag := List.rec (motive := fun _ => Addr → List Addr → PySem.W.Frag) (fun _ _ => [])
  (fun o _ ih n as => List.casesOn (motive := fun _ => PySem.W.Frag) as [] fun a as' => cond (Nat.beq a n) (cond (isFreed o) [] ((a, o) :: ih (Nat.succ n) as')) (ih (Nat.succ n) as)) l
theorem pickF_nil (n : Addr) (as : List Addr) : pickF [] n as = [] := rfl
theorem pickF_done (o : Obj) (os : List Obj) (n : Addr) : pickF (o :: os) n [] = [] := rfl
theorem pickF_cons (o : Obj) (os : List Obj) (n a : Addr) (as : List Addr) : pickF (o :: os) n (a :: as) = cond (Nat.beq a n) (cond (isFreed o) [] ((a, o) :: pickF os (n + 1) as)) (pickF os (n + 1) (a :: as)) := rfl
theorem pickF_mem : ∀ (l : List Obj) (n : Addr) (as : List Addr), ∀ p ∈ pickF l n as, n ≤ p.1 ∧ l[p.1 - n]? = some p.2 ∧ isFreed p.2 = false
  | [], n, as, p, hp => by rw [pickF_nil] at hp; cases hp
  | o :: os, n, [], p, hp => by rw [pickF_done] at hp; cases hp
  | o :: os, n, a :: as, p, hp => by
    have later : ∀ bs, p ∈ pickF os (n + 1) bs → n ≤ p.1 ∧ (o :: os)[p.1 - n]? = some p.2 ∧ isFreed p.2 = false := fun bs hb => by
      obtain ⟨h1, h2, h3⟩ := pickF_mem os (n + 1) bs p hb
      refine ⟨Nat.le_of_succ_le h1, ?_, h3⟩
      have e : p.1 - n = (p.1 - (n + 1)) + 1 := (by intro a b; omega : ∀ a b : Nat, b + 1 ≤ a → a - b = (a - (b + 1)) + 1) _ _ h1
      rw [e, List.getElem?_cons_succ]; exact h2
    rw [pickF_cons] at hp
    cases hb : Nat.beq a n with
    | false => rw [hb] at hp; exact later _ hp
    | true =>
      rw [hb] at hp
      have ea : a = n := Nat.eq_of_beq_eq_true hb
      cases hf : isFreed o with
      | true => rw [hf] at hp; cases hp
      | false =>
        rw [hf] at hp
        simp only [cond_true, cond_false] at hp
        rcases List.mem_cons.mp hp with rfl | hp
        · refine ⟨Nat.le_of_eq ea.symm, ?_, hf⟩
          show (o :: os)[a - n]? = some o
          rw [ea, Nat.sub_self]; rfl
        · exact later _ hp
theorem get_of_list {h : Heap} {a : Addr} {o : Obj} (e : h.objs.toList[a]? = some o) (hf : isFreed o = false) : h.get? a = some o := by
  have e' : h.objs[a]? = some o := by rw [← Array.getElem?_toList]; exact e
  unfold Heap.get?
  rw [e']
  obtain ⟨c, d, dt, sl⟩ := o
  cases dt <;> first | rfl | cases hf
def hookP (as : List Addr) (fa : List He.Fa) (ex : List (PySem.W.Frag → Bool)) (fn : List He5.DefA) (tb : List (Str × Str)) : PySem.W.Hook where
  α := He.AlD
  obs := fun s => obsX fa ex fn tb (pickF s.heap.objs.toList 0 as)
  val := fun _ => valZ fn
  says := SaysX fa ex fn tb
  of := fun w s v => by
    have al : ∀ p ∈ pickF s.heap.objs.toList 0 as, s.heap.get? p.1 = some p.2 := fun p hp => by
      obtain ⟨_, h2, h3⟩ := pickF_mem _ _ _ p hp
      exact get_of_list h2 h3
    have e1 : (obsX fa ex fn tb (pickF s.heap.objs.toList 0 as)).1 = true := congrArg Prod.fst v
    have e2 : (obsX fa ex fn tb (pickF s.heap.objs.toList 0 as)).2 = fn.map He5.DefA.val := congrArg Prod.snd v
    obtain ⟨a, b⟩ := Bool.and_eq_true_iff.mp e1
    obtain ⟨b1, b2⟩ := Bool.and_eq_true_iff.mp b
    refine ⟨noTab (pickF s.heap.objs.toList 0 as), in_of fun p hp => al p ((List.mem_filter.mp hp).1), Prod.ext a e2, ⟨fun p hp => ?_, of_decide_eq_true b2⟩⟩
    have q := List.all_eq_true.mp b1 p hp
    unfold tabOk at q
    split at q
    · rename_i c P ht
      obtain ⟨q1, q2⟩ := Bool.and_eq_true_iff.mp q
      obtain ⟨q2, q3⟩ := Bool.and_eq_true_iff.mp q2
      exact ⟨c, P, ht, q1, Option.isNone_iff_eq_none.mp q2, al _ (lookup_mem' (isTab_eq q3))⟩
    · cases q
  keeps := says_keeps
end Z
end
end
section
set_option Elab.async false
set_option linter.all false
set_option maxRecDepth 100000
set_option maxHeartbeats 0
noncomputable section
namespace Z
open PySem PySem.Spec PyProof.Rows L2
def cns : List Str := ["Table", "BadTable", "TooMany", "BadNumber", "SumError", "BadWidth", "BadWord", "Unlike", "BadBase", "BadName"]
def fds : List Str := ["base", "width", "start", "steps", "ends", "states", "part", "what", "most", "value"]
def okl : List (Nat × Nat) := [(0, 0), (0, 1), (0, 2), (0, 3), (0, 4), (0, 5)]
def oxl : List (Nat × Nat) := [(1, 6), (2, 7), (2, 8), (3, 9), (8, 9), (9, 9), (5, 9), (7, 6), (6, 9)]
def tbl : List (Str × Str) := [("_law_called", ("_law_called" : Str) ++ ".<locals>." ++ "<lambda>"), ("law", ("law" : Str) ++ ".<locals>." ++ "<lambda>")]
abbrev nsl : List Nat := [1, 2, 3, 8, 9, 5, 7, 6]
def T0 : Tb := TbX cns fds okl oxl tbl
def I0 : Ki := { kb := [(("NoneType", 3), false), (("int", 3), false), (("str", 3), false), (("bool", 3), false), (("list", 3), false), (("tuple", 3), false), (("dict", 3), false), (("NoneType", 5), false), (("int", 5), false), (("str", 5), false), (("bool", 5), false), (("list", 5), false), (("tuple", 5), false), (("dict", 5), false), (("NoneType", 6), false), (("int", 6), false), (("str", 6), false), (("bool", 6), false), (("list", 6), false), (("tuple", 6), false), (("dict", 6), false), (("NoneType", 7), false), (("int", 7), false), (("str", 7), false), (("bool", 7), false), (("list", 7), false), (("tuple", 7), false), (("dict", 7), false)], kc := [((1, 3), false), ((2, 3), false), ((3, 3), true), ((8, 3), false), ((9, 3), false), ((5, 3), false), ((7, 3), false), ((6, 3), false), ((0, 3), false), ((1, 5), false), ((2, 5), false), ((3, 5), false), ((8, 5), false), ((9, 5), false), ((5, 5), true), ((7, 5), false), ((6, 5), false), ((0, 5), false), ((1, 6), false), ((2, 6), false), ((3, 6), false), ((8, 6), false), ((9, 6), false), ((5, 6), false), ((7, 6), false), ((6, 6), true), ((0, 6), false), ((1, 7), false), ((2, 7), false), ((3, 7), false), ((8, 7), false), ((9, 7), false), ((5, 7), false), ((7, 7), true), ((6, 7), false), ((0, 7), false)], kt := [((1, "ValueError"), true), ((2, "ValueError"), true), ((3, "ValueError"), true), ((8, "ValueError"), true), ((9, "ValueError"), true), ((5, "ValueError"), true), ((7, "ValueError"), true), ((6, "ValueError"), true), ((0, "ValueError"), false), ((1, "bool"), false), ((2, "bool"), false), ((3, "bool"), false), ((8, "bool"), false), ((9, "bool"), false), ((5, "bool"), false), ((7, "bool"), false), ((6, "bool"), false), ((0, "bool"), false), ((1, "dict"), false), ((2, "dict"), false), ((3, "dict"), false), ((8, "dict"), false), ((9, "dict"), false), ((5, "dict"), false), ((7, "dict"), false), ((6, "dict"), false), ((0, "dict"), false), ((1, "int"), false), ((2, "int"), false), ((3, "int"), false), ((8, "int"), false), ((9, "int"), false), ((5, "int"), false), ((7, "int"), false), ((6, "int"), false), ((0, "int"), false), ((1, "list"), false), ((2, "list"), false), ((3, "list"), false), ((8, "list"), false), ((9, "list"), false), ((5, "list"), false), ((7, "list"), false), ((6, "list"), false), ((0, "list"), false), ((1, "str"), false), ((2, "str"), false), ((3, "str"), false), ((8, "str"), false), ((9, "str"), false), ((5, "str"), false), ((7, "str"), false), ((6, "str"), false), ((0, "str"), false), ((1, "tuple"), false), ((2, "tuple"), false), ((3, "tuple"), false), ((8, "tuple"), false), ((9, "tuple"), false), ((5, "tuple"), false), ((7, "tuple"), false), ((6, "tuple"), false), ((0, "tuple"), false)], cs := [0], fb := [("NoneType", 0), ("int", 0), ("str", 0), ("bool", 0), ("list", 0), ("tuple", 0), ("dict", 0)], es := [1, 2, 3, 8, 9, 5, 7, 6] }
abbrev exm0 : List (Nat × Bool) := [(1, true), (2, true), (3, true), (8, true), (9, true), (5, true), (7, true), (6, true)]
end Z
end
end
section
set_option Elab.async false
set_option linter.all false
set_option maxRecDepth 100000
set_option maxHeartbeats 0
noncomputable section
namespace Z
open PySem PySem.Spec PyProof.Rows L2
def top (i : Nat) : Stmt := PySem.Challenge.pw_sumdigits_k09_words_refused.main.body.getD i (.Pass ⟨0, 0, 0, 0⟩)
def cst (i j : Nat) : Stmt := match top i with
  | .ClassDef (body := b) .. => b.getD j (.Pass ⟨0, 0, 0, 0⟩)
  | _ => .Pass ⟨0, 0, 0, 0⟩
def hd0 : He5.DefA := ⟨fun K => He.ma K (He.ga K "BadTable") "__init__", "__init__", "BadTable.__init__", defArgs (cst 8 0), defBody (cst 8 0), defScope (cst 8 0), [], []⟩
def hd1 : He5.DefA := ⟨fun K => He.ma K (He.ga K "TooMany") "__init__", "__init__", "TooMany.__init__", defArgs (cst 11 0), defBody (cst 11 0), defScope (cst 11 0), [], []⟩
def hd2 : He5.DefA := ⟨fun K => He.ma K (He.ga K "BadNumber") "__init__", "__init__", "BadNumber.__init__", defArgs (cst 7 0), defBody (cst 7 0), defScope (cst 7 0), [], []⟩
def hd3 : He5.DefA := ⟨fun K => He.ma K (He.ga K "BadBase") "__init__", "__init__", "BadBase.__init__", defArgs (cst 3 0), defBody (cst 3 0), defScope (cst 3 0), [], []⟩
def hd4 : He5.DefA := ⟨fun K => He.ma K (He.ga K "BadName") "__init__", "__init__", "BadName.__init__", defArgs (cst 5 0), defBody (cst 5 0), defScope (cst 5 0), [], []⟩
def hd5 : He5.DefA := ⟨fun K => He.ma K (He.ga K "BadWidth") "__init__", "__init__", "BadWidth.__init__", defArgs (cst 4 0), defBody (cst 4 0), defScope (cst 4 0), [], []⟩
def hd6 : He5.DefA := ⟨fun K => He.ma K (He.ga K "Unlike") "__init__", "__init__", "Unlike.__init__", defArgs (cst 10 0), defBody (cst 10 0), defScope (cst 10 0), [], []⟩
def hd7 : He5.DefA := ⟨fun K => He.ma K (He.ga K "BadWord") "__init__", "__init__", "BadWord.__init__", defArgs (cst 6 0), defBody (cst 6 0), defScope (cst 6 0), [], []⟩
def hd8 : He5.DefA := ⟨fun K => He.ga K "is_whole", "is_whole", "is_whole", defArgs (top 17), defBody (top 17), defScope (top 17), [], []⟩
def hd9 : He5.DefA := ⟨fun K => He.ga K "is_name", "is_name", "is_name", defArgs (top 18), defBody (top 18), defScope (top 18), [], []⟩
def hd10 : He5.DefA := ⟨fun K => He.ga K "are_digits", "are_digits", "are_digits", defArgs (top 19), defBody (top 19), defScope (top 19), [], []⟩
def hd11 : He5.DefA := ⟨fun K => He.ga K "is_letter", "is_letter", "is_letter", defArgs (top 20), defBody (top 20), defScope (top 20), [], []⟩
def hd12 : He5.DefA := ⟨fun K => He.ga K "counted", "counted", "counted", defArgs (top 25), defBody (top 25), defScope (top 25), [], []⟩
def hd13 : He5.DefA := ⟨fun K => He.ga K "gathered", "gathered", "gathered", defArgs (top 26), defBody (top 26), defScope (top 26), [], []⟩
def hd14 : He5.DefA := ⟨fun K => He.ga K "need_base", "need_base", "need_base", defArgs (top 46), defBody (top 46), defScope (top 46), [], []⟩
def hd15 : He5.DefA := ⟨fun K => He.ga K "need_width", "need_width", "need_width", defArgs (top 47), defBody (top 47), defScope (top 47), [], []⟩
def hd16 : He5.DefA := ⟨fun K => He.ga K "need_name", "need_name", "need_name", defArgs (top 48), defBody (top 48), defScope (top 48), [], []⟩
def hd17 : He5.DefA := ⟨fun K => He.ga K "is_weights", "is_weights", "is_weights", defArgs (top 49), defBody (top 49), defScope (top 49), [], []⟩
def hd18 : He5.DefA := ⟨fun K => He.ga K "is_key", "is_key", "is_key", defArgs (top 50), defBody (top 50), defScope (top 50), [], []⟩
def hd19 : He5.DefA := ⟨fun K => He.ga K "is_steps", "is_steps", "is_steps", defArgs (top 51), defBody (top 51), defScope (top 51), [], []⟩
def hd20 : He5.DefA := ⟨fun K => He.ga K "is_step", "is_step", "is_step", defArgs (top 52), defBody (top 52), defScope (top 52), [], []⟩
def hd21 : He5.DefA := ⟨fun K => He.ga K "steps_short", "steps_short", "steps_short", defArgs (top 53), defBody (top 53), defScope (top 53), [], []⟩
def hd22 : He5.DefA := ⟨fun K => He.ga K "states_of", "states_of", "states_of", defArgs (top 54), defBody (top 54), defScope (top 54), [], []⟩
def hd23 : He5.DefA := ⟨fun K => He.ga K "told_steps", "told_steps", "told_steps", defArgs (top 58), defBody (top 58), defScope (top 58), [], []⟩
def hd24 : He5.DefA := ⟨fun K => He.ga K "need_words", "need_words", "need_words", defArgs (top 60), defBody (top 60), defScope (top 60), [], []⟩
def hd25 : He5.DefA := ⟨fun K => He.ga K "moved_row", "moved_row", "moved_row", defArgs (top 61), defBody (top 61), defScope (top 61), [], []⟩
def hd26 : He5.DefA := ⟨fun K => He.ga K "table_value", "table_value", "table_value", defArgs (top 62), defBody (top 62), defScope (top 62), [], []⟩
def hd27 : He5.DefA := ⟨fun K => He.ga K "_law_pen", "_law_pen", "_law_pen", defArgs (top 70), defBody (top 70), defScope (top 70), [], []⟩
def hd28 : He5.DefA := ⟨fun K => He.ga K "_law_draw", "_law_draw", "_law_draw", defArgs (top 71), defBody (top 71), defScope (top 71), [], []⟩
def hd29 : He5.DefA := ⟨fun K => He.ga K "_law_pick", "_law_pick", "_law_pick", defArgs (top 72), defBody (top 72), defScope (top 72), [], []⟩
def hd30 : He5.DefA := ⟨fun K => He.ma K (He.ga K "Table") "__getitem__", "__getitem__", "Table.__getitem__", defArgs (cst 55 12), defBody (cst 55 12), defScope (cst 55 12), [], []⟩
def hd31 : He5.DefA := ⟨fun K => He.ga K "_law_heard", "_law_heard", "_law_heard", defArgs (top 80), defBody (top 80), defScope (top 80), [], []⟩
def hd32 : He5.DefA := ⟨fun K => He.ga K "_law_due", "_law_due", "_law_due", defArgs (top 81), defBody (top 81), defScope (top 81), [], []⟩
def hd33 : He5.DefA := ⟨fun K => He.ma K (He.ga K "Table") "tell", "tell", "Table.tell", defArgs (cst 55 3), defBody (cst 55 3), defScope (cst 55 3), [], []⟩
def hd34 : He5.DefA := ⟨fun K => He.ga K "_law_called", "_law_called", "_law_called", defArgs (top 82), defBody (top 82), defScope (top 82), [], []⟩
def hd35 : He5.DefA := ⟨fun K => He.ma K (He.ga K "Table") "__init__", "__init__", "Table.__init__", defArgs (cst 55 0), defBody (cst 55 0), defScope (cst 55 0), [], []⟩
def hd36 : He5.DefA := ⟨fun K => stA K (He.ga K "Table") "of", "of", "Table.of", defArgs (cst 55 1), defBody (cst 55 1), defScope (cst 55 1), [], []⟩
def hd37 : He5.DefA := ⟨fun K => He.ma K (He.ga K "Table") "total", "total", "Table.total", defArgs (cst 55 4), defBody (cst 55 4), defScope (cst 55 4), [], []⟩
def hd38 : He5.DefA := ⟨fun K => He.ga K "law", "law", "law", defArgs (top 83), defBody (top 83), defScope (top 83), [], []⟩
def fnl : List He5.DefA := ([hd0, hd1, hd2, hd3, hd4, hd5, hd6, hd7, hd8, hd9, hd10, hd11, hd12, hd13, hd14, hd15, hd16, hd17, hd18, hd19, hd20, hd21, hd22, hd23, hd24, hd25, hd26, hd27, hd28, hd29] : List He5.DefA) ++ ([hd30, hd31, hd32, hd33, hd34, hd35, hd36, hd37, hd38] : List He5.DefA)
def fal : List He.Fa := ([.glo "BadTable", .glo "TooMany", .glo "BadNumber", .glo "BadBase", .glo "BadName", .glo "BadWidth", .glo "Unlike", .glo "BadWord", .free "int", .free "isinstance", .free "bool", .glo "is_whole", .free "str", .free "len", .int "LONGEST_NAME" (8), .str "SIGNS" "abcdefghijklmnopqrstuvwxyz", .str "FIGURES" "0123456789", .free "all", .glo "is_name", .str "DIGITS" "0123", .glo "are_digits", .glo "is_letter", .free "enumerate", .glo "counted", .free "sorted", .glo "gathered", .glo "need_base", .glo "need_width", .glo "need_name", .free "dict"] : List He.Fa) ++ ([.glo "is_weights", .free "tuple", .glo "is_key", .glo "is_steps", .glo "is_step", .glo "steps_short", .glo "states_of", .free "list", .glo "told_steps", .int "LONGEST_WORD" (100), .free "any", .glo "need_words", .glo "moved_row", .free "range", .free "sum", .glo "table_value", .glo "_law_pen", .free "abs", .glo "_law_draw", .glo "_law_pick", .cls "Table", .meth "Table" "__getitem__", .glo "SumError", .free "repr", .free "ValueError", .glo "_law_heard", .free "set", .glo "_law_due", .meth "Table" "tell", .glo "_law_called"] : List He.Fa) ++ ([.int "MOST_STATES" (40), .int "MOST_STEPS" (2000), .mkr "Table", .glo "Table", .meth "Table" "total", .glo "law", .keep "BadTable", .keep "TooMany", .keep "BadNumber", .keep "BadBase", .keep "BadName", .keep "BadWidth", .keep "Unlike", .keep "BadWord"] : List He.Fa)
def exl : List (PySem.W.Frag → Bool) := ([exnB "BadTable" ["part"], exnB "TooMany" ["what", "most"], exnB "BadNumber" ["value"], exnB "BadBase" ["value"], exnB "BadName" ["value"], exnB "BadWidth" ["value"], exnB "Unlike" ["part"], exnB "BadWord" ["value"], smB, statB "Table" "of", giB "Table", exmB T0 4 exm0, tbB T0 fds okl oxl, kiB T0 I0] : List (PySem.W.Frag → Bool))
def names : List PySem.Str := (["_wall", "__name__", "SumError", "BadBase", "BadWidth", "BadName", "BadWord", "BadNumber", "BadTable", "BadText", "Unlike", "TooMany", "SIGNS", "DIGITS", "FIGURES", "LONGEST_NAME", "is_whole", "is_name", "are_digits", "is_letter", "integer_read", "MOST_STATES", "MOST_STEPS", "counted", "gathered", "spread", "arrows_of", "useful_of", "kept_states", "trimmed_machine"] : List PySem.Str) ++ (["parts_named", "parts_of", "beside_machine", "scaled_machine", "by_key", "bits_letter", "key_of", "letter_of", "paired_machine", "paired_step", "turned_machine", "LONGEST_WORD", "MOST_FIGURES", "need_base", "need_width", "need_name", "is_weights", "is_key", "is_steps", "is_step", "steps_short", "states_of", "Table", "need_like", "made_of", "told_steps", "trimmed_table", "need_words", "moved_row", "table_value"] : List PySem.Str) ++ (["step_words", "end_words", "head_read", "step_read", "end_read", "rows_read", "_law_pen", "_law_draw", "_law_pick", "_law_letters", "_law_plan", "_law_letter", "_law_value", "_law_at", "_law_words", "_law_some", "_law_heard", "_law_due", "_law_called"] : List PySem.Str)
end Z
end
end
section
set_option Elab.async false
set_option linter.all false
set_option maxRecDepth 100000
set_option maxHeartbeats 0
noncomputable section
namespace Z
open PySem PySem.Spec PyProof.Rows L2
def wanted : List Nat := [0, 1, 2, 3, 4, 5, 6, 7, 8, 9, 10, 11, 12, 13, 14, 15, 16, 17, 18, 19, 20, 21, 22, 29, 30, 31, 32, 35, 42, 43, 44, 45, 46, 47, 48, 49, 50, 51, 54, 61, 62, 63, 64, 65, 66, 67, 68, 69, 70, 73, 80, 81, 82, 83, 84, 85, 86, 87, 88, 89, 92, 99, 100, 101, 102, 103, 104, 105, 106, 107, 108, 111, 118, 119, 120, 121, 122, 123, 124, 125, 126, 127, 130, 137, 138, 139, 140, 141, 142, 143, 144, 145, 146, 149, 156, 157, 158, 159, 160, 161, 162, 163, 164, 165, 168, 175, 176, 177, 178, 179, 180, 181, 182, 183, 184, 187, 194, 195, 196, 197, 198, 199, 200, 201, 202, 203, 206, 207, 208, 209, 210, 211, 212, 213, 214, 215, 216, 217, 218, 219, 220, 221, 222, 223, 224, 225, 226, 227, 228, 229, 230, 231, 232, 233, 234, 235, 236, 237, 238, 239, 240, 241, 242, 243, 244, 245, 246, 247, 248, 249, 250, 251, 252, 253, 254, 255, 256, 257, 258, 259, 260, 261, 262, 263, 264, 265, 266, 267, 268, 269, 270, 271, 272, 273, 274, 275, 276, 277, 278, 279, 280, 281, 282, 283, 284, 285, 286, 287, 288, 289, 290, 291, 292, 293, 294, 295, 296, 297, 298, 299, 300, 301, 302, 303, 304, 305, 306, 307, 308, 309, 310, 311, 312, 313, 314, 315, 316, 317, 318, 319, 320, 321, 322, 323, 324, 325, 326, 327, 328, 329, 330, 331, 332, 333, 334, 335, 336, 337, 338, 339, 340, 341, 342, 343, 344, 345, 346, 347, 348, 349, 350, 351, 352, 353, 354, 355, 356, 357, 358, 359, 360, 361, 362, 363, 364, 365, 366, 367, 368, 369, 370, 371, 372, 373, 374, 375, 376, 377, 378, 379, 380, 381, 382, 383, 384, 385, 393, 394, 395, 396, 397, 398, 399, 400, 401, 402, 403, 404, 405, 406, 407, 408, 409, 410, 411, 412, 413, 414, 415, 416, 417, 418, 419, 420, 421, 422, 423, 424, 425, 426, 427, 428, 429, 430, 431, 432, 433, 434, 435, 436, 437, 438, 439, 440, 441, 442, 443, 444, 445, 446, 447, 448, 449, 450, 451, 452, 453, 454, 455, 456, 457, 458, 459, 460, 461, 462, 463, 464, 465, 466, 467, 468, 469, 470, 471, 472, 473, 474, 475, 476, 477, 478, 479, 480, 481, 482, 483, 484, 485, 486, 487, 488, 489, 490, 491, 492, 493, 494, 495, 496, 497, 498, 499, 500, 501, 502, 503, 504, 505, 506, 507, 508, 509, 510, 511, 512, 513, 514, 515, 516, 517, 518, 519, 520, 521, 522, 523, 524, 525, 526, 527, 528, 529, 530, 531, 532, 533, 534, 535, 536, 537, 538, 539, 540, 541, 542, 543, 544, 545, 546, 547, 548, 549, 550, 551, 552, 553, 554, 555, 556, 557, 558, 559, 560, 561, 562, 563, 564, 565, 566, 567, 568, 569, 570, 571, 572, 573, 574, 575, 578, 579, 580, 581, 582, 583, 584, 585, 586, 587, 588, 589, 590, 591, 592, 593, 594, 595, 596, 597, 598, 599, 600, 601, 602, 603, 604, 605, 606, 607, 608, 609, 610, 611, 612, 613, 614, 615, 616, 617, 618, 619, 620, 621, 622, 623, 624, 625, 626, 627, 628, 629, 630, 631, 632, 633, 634, 635, 636, 637, 638, 639, 640, 641, 642, 643, 644, 645, 646, 647, 648, 649, 650, 651, 652, 653, 654, 655, 656, 657, 658, 659, 660, 661, 662, 663, 664, 665, 666, 667, 668, 669, 670, 671, 672, 673, 674, 675, 715, 716, 717, 718, 719, 720, 721, 722, 723, 724, 725, 726, 727, 728, 729, 730, 731, 732, 733, 734, 735, 736, 737, 738]
abbrev hkP : PySem.W.Hook := hookP wanted fal exl fnl tbl
abbrev HCt : Prop := ∀ (q : Program) (loose : List Str) (XP : (Str → Option Value) → Heap → Prop) (dr : DefRec), dr.params.defaults = [] → dr.name = ("law" : Str) → PySem.W.WalkO q loose XP (PySem.W.Hook.says hkP) (PySem.W.OpenLaw.row PySem.Challenge.rw_sumdigits_k09_words_refused).toRowW dr [] (fun f vs => PySem.call f vs)
theorem head0 (HC : HCt) : PySem.Challenge.rw_sumdigits_k09_words_refused.Holds := by
  w_on; o_law
  apply (fun (hc : PySem.W.WalkO _ _ _ (PySem.W.Hook.says hkP) (PySem.W.OpenLaw.row PySem.Challenge.rw_sumdigits_k09_words_refused).toRowW _ [] (fun f vs => PySem.call f vs)) (main : PySem.W.OpenRow.Holds (PySem.W.OpenLaw.row PySem.Challenge.rw_sumdigits_k09_words_refused)) => main)
  apply HC
  case' main => o_head Z.hkP
  all_goals first | (w_witness2; done) | kernel_rfl
end Z
end
end
section
set_option Elab.async false
set_option linter.all false
set_option maxRecDepth 100000
set_option maxHeartbeats 1000000
/-! Z1: values without addresses, a store of what may change, and what they stand for in the layer's heap. -/
namespace Z
open PySem PySem.Spec PyProof.Rows L2
/-- a thing that may be locked while it is walked -/
def isD : HO → Bool
  | .dK _ => true
  | .dT _ => true
  | _ => false
/-- what is known stays known; a dict may be locked -/
def Ex (F H : Hp) : Prop := ∀ a o, F a = some o → H a = some o ∨ (isD o = true ∧ ∃ ob, H a = some (.frz ob o))
theorem Ex.refl (F : Hp) : Ex F F := fun _ _ h => .inl h
theorem Ex.trans {F G H : Hp} (p : Ex F G) (q : Ex G H) : Ex F H := fun a o h => by
  rcases p a o h with h | ⟨hd, ob, h⟩
  · exact q a o h
  · rcases q a _ h with h | ⟨hd', _⟩
    · exact .inr ⟨hd, ob, h⟩
    · cases hd'
theorem Ex.new {H : Hp} {p : Addr} {o : HO} (h : H p = none) : Ex H (L2.upd H p o) := fun a u e => .inl (by rw [upd_ne (ne_of_none e h)]; exact e)
theorem Ex.at_ {F H : Hp} (e : Ex F H) {a : Addr} {o : HO} (h : F a = some o) (hn : isD o = false := by rfl) : H a = some o := by
  rcases e a o h with h | ⟨hd, _⟩
  · exact h
  · rw [hn] at hd; cases hd
theorem Ex.rd {F H : Hp} (e : Ex F H) {a : Addr} {o : HO} (h : Rd F a o) : Rd H a o := by
  rcases h with h | ⟨ob, h⟩
  · rcases e a o h with h | ⟨_, ob, h⟩
    · exact .inl h
    · exact .inr ⟨ob, h⟩
  · exact .inr ⟨ob, e.at_ h⟩
theorem Ex.some {F H : Hp} (e : Ex F H) {a : Addr} (h : H a = none) : F a = none := by
  cases q : F a with
  | none => rfl
  | some o =>
    rcases e a o q with z | ⟨_, ob, z⟩
    · rw [h] at z; cases z
    · rw [h] at z; cases z
theorem ex_l {K : PySem.W.Frag} {F H : Hp} {a : Addr} {xs : List V} (e : Ex F H) (h : SqL K F a xs) : SqL K H a xs := by
  rcases h with (h | ⟨o, h⟩) | h
  · exact .inl (.inl (e.at_ h))
  · exact .inl (.inr ⟨o, e.at_ h⟩)
  · exact .inr h
/-- an exception that is held as a value -/
def EXV (C : Addr) (d : Option Addr) (a : Addr) : HO := .ext fun h => ∃ (oe : Obj) (vs : Array Value), h.get? a = some oe ∧ Zc (.ref C) d oe ∧ oe.data = .fields vs

/-- a dict's key: an int or a text; a tuple of such -/
inductive PK where
  | k (x : Key) | t (xs : List Key)
  deriving DecidableEq
/-- what a compound value is -/
inductive Kd where
  | tup | lst | scr
  | dct (t : Bool) (ks : List PK)
  | ins (c : Nat) (fs : List Nat)
  | exn (c : Nat) (fs : List Nat)
  /-- a lambda at a, its code at c, what its def's names stood for -/
  | clo (a c : Addr) (q : Str) (us : List V)
  deriving DecidableEq
/-- a value: nd a compound that never changes any more, ref a place of the store -/
inductive PV where
  | non | bl (b : Bool) | int (i : Int) | str (x : Str) | ty (n : String) | cls (c : Nat)
  | ref (n : Nat)
  | nd (k : Kd) (xs : List PV)

mutual
def pvEq : PV → PV → Bool
  | .non, .non => true
  | .bl b, .bl c => b == c
  | .int i, .int j => decide (i = j)
  | .str x, .str y => decide (x = y)
  | .ty n, .ty m => decide (n = m)
  | .cls c, .cls d => Nat.beq c d
  | .ref n, .ref m => Nat.beq n m
  | .nd k xs, .nd l ys => decide (k = l) && pvEqL xs ys
  | _, _ => false
def pvEqL : List PV → List PV → Bool
  | [], [] => true
  | x :: xs, y :: ys => pvEq x y && pvEqL xs ys
  | _, _ => false
end
mutual
theorem pvEq_eq : ∀ x y : PV, pvEq x y = true ↔ x = y
  | .non, y => by cases y <;> simp [pvEq]
  | .bl b, y => by cases y <;> simp [pvEq]
  | .int b, y => by cases y <;> simp [pvEq]
  | .str b, y => by cases y <;> simp [pvEq]
  | .ty b, y => by cases y <;> simp [pvEq]
  | .cls b, y => by cases y <;> simp [pvEq]
  | .ref b, y => by cases y <;> simp [pvEq]
  | .nd k xs, y => by
    cases y with
    | nd l ys => simp [pvEq, pvEqL_eq xs ys]
    | _ => simp [pvEq]
theorem pvEqL_eq : ∀ xs ys : List PV, pvEqL xs ys = true ↔ xs = ys
  | [], ys => by cases ys <;> simp [pvEqL]
  | x :: xs, ys => by
    cases ys with
    | nil => simp [pvEqL]
    | cons y ys => simp [pvEqL, pvEq_eq x y, pvEqL_eq xs ys]
end
instance : DecidableEq PV := fun x y => if h : pvEq x y = true then .isTrue ((pvEq_eq x y).mp h) else .isFalse fun e => h ((pvEq_eq x y).mpr e)

/-- what stands at an address for a compound of the kind k over the values us -/
def Shp (T : Tb) (K : PySem.W.Frag) (H : Hp) (a : Addr) : Kd → List V → Prop
  | .tup, us => H a = some (.tup us)
  | .lst, us => H a = some (.lst us)
  | .scr, us => SqL K H a us
  | .dct false ks, us => us.length = ks.length ∧ ∃ kk : List Key, ks = kk.map PK.k ∧ Rd H a (.dK (kk.zip us))
  | .dct true ks, us => us.length = ks.length ∧ ∃ kk : List (List Key), ks = kk.map PK.t ∧ Rd H a (.dT (kk.zip us))
  | .ins c fs, us => us.length = fs.length ∧ ∃ dx, H a = some (.ins (T.ca K c) dx ((fs.map T.fd).zip us))
  | .exn c fs, us => us.length = fs.length ∧ ∃ d, H a = some (EXV (T.ca K c) d a) ∧ ((fs = [] ∧ d = none) ∨ ∃ dd, d = some dd ∧ H dd = some (.xd ((fs.map T.fd).zip us)))
  | .clo b c q ws, us => a = b ∧ us = ws ∧ H c = some (LamX.CodeO c q)
/-- the same of a thing that may change: it is tracked itself -/
def Liv (T : Tb) (K : PySem.W.Frag) (H : Hp) (a : Addr) : Kd → List V → Prop
  | .tup, _ => False
  | .scr, _ => False
  | .lst, us => H a = some (.lst us)
  | .dct false ks, us => us.length = ks.length ∧ ∃ kk : List Key, ks = kk.map PK.k ∧ H a = some (.dK (kk.zip us))
  | .dct true ks, us => us.length = ks.length ∧ ∃ kk : List (List Key), ks = kk.map PK.t ∧ H a = some (.dT (kk.zip us))
  | .ins c fs, us => us.length = fs.length ∧ ∃ dx, H a = some (.ins (T.ca K c) dx ((fs.map T.fd).zip us))
  | .exn _ _, _ => False
  | .clo _ _ _ _, _ => False
theorem Liv.shp {T : Tb} {K : PySem.W.Frag} {H : Hp} {a : Addr} {k : Kd} {us : List V} (h : Liv T K H a k us) : Shp T K H a k us := by
  cases k with
  | tup => exact h.elim
  | scr => exact h.elim
  | lst => exact h
  | dct t ks => cases t <;> exact ⟨h.1, h.2.imp fun _ z => ⟨z.1, .inl z.2⟩⟩
  | ins c fs => exact h
  | exn c fs => exact h.elim
  | clo a0 c0 q0 us0 => exact h.elim
theorem Shp.mono {T : Tb} {K : PySem.W.Frag} {H H' : Hp} {a : Addr} {k : Kd} {us : List V} (e : Ex H H') (h : Shp T K H a k us) : Shp T K H' a k us := by
  cases k with
  | tup => exact e.at_ h
  | scr => exact ex_l e h
  | lst => exact e.at_ h
  | dct t ks =>
    cases t <;> (obtain ⟨hl, kk, h1, h2⟩ := h; exact ⟨hl, kk, h1, e.rd h2⟩)
  | ins c fs =>
    obtain ⟨hl, dx, h⟩ := h
    exact ⟨hl, dx, e.at_ h⟩
  | clo b c q ws =>
    obtain ⟨h1, h2, h3⟩ := h
    exact ⟨h1, h2, e.at_ h3⟩
  | exn c fs =>
    obtain ⟨hl, d, h1, h2⟩ := h
    refine ⟨hl, d, e.at_ h1, ?_⟩
    rcases h2 with h2 | ⟨dd, h2, h3⟩
    · exact .inl h2
    · exact .inr ⟨dd, h2, e.at_ h3⟩

/-- the addresses of the store's places; things held aside while a comprehension runs -/
structure Pl where
  as : List Addr
  hid : List (Addr × HO)
def Pl.le (R R' : Pl) : Prop := R.as <+: R'.as ∧ R'.hid = R.hid
theorem Pl.refl (R : Pl) : Pl.le R R := ⟨List.prefix_refl _, rfl⟩
theorem Pl.le.trans {R R' R2 : Pl} (p : Pl.le R R') (q : Pl.le R' R2) : Pl.le R R2 := ⟨p.1.trans q.1, q.2.trans p.2⟩
def Pl.add (R : Pl) (a : Addr) : Pl := ⟨R.as ++ [a], R.hid⟩
theorem Pl.app (R : Pl) (a : Addr) : Pl.le R (R.add a) := ⟨List.prefix_append _ _, rfl⟩
mutual
/-- the value x stands for u: R the store's places, F the part of the heap that never changes any more -/
def Rel (T : Tb) (K : PySem.W.Frag) (R : Pl) (F : Hp) : PV → V → Prop
  | .non, u => u = .non
  | .bl b, u => u = .bl b
  | .int i, u => u = .int i
  | .str x, u => u = .str x
  | .ty n, u => u = .ty n
  | .cls c, u => u = .ref (T.ca K c)
  | .ref n, u => ∃ a, u = .ref a ∧ R.as[n]? = some a
  | .nd k xs, u => ∃ a us, u = .ref a ∧ Shp T K F a k us ∧ RelL T K R F xs us
def RelL (T : Tb) (K : PySem.W.Frag) (R : Pl) (F : Hp) : List PV → List V → Prop
  | [], us => us = []
  | x :: xs, us => ∃ u r, us = u :: r ∧ Rel T K R F x u ∧ RelL T K R F xs r
end
section
variable {T : Tb} {K : PySem.W.Frag} {R R' : Pl} {F F' : Hp}
theorem rel_get (p : R.as <+: R'.as) {n : Nat} {a : Addr} (h : R.as[n]? = some a) : R'.as[n]? = some a := by
  obtain ⟨t, e⟩ := p
  have hl : n < R.as.length := (List.getElem?_eq_some_iff.mp h).1
  rw [← e, List.getElem?_append_left hl]; exact h
mutual
theorem Rel.mono0 (p : R.as <+: R'.as) (e : Ex F F') : ∀ (x : PV) (u : V), Rel T K R F x u → Rel T K R' F' x u
  | .non, u, h => by simpa [Rel] using h
  | .bl b, u, h => by simpa [Rel] using h
  | .int i, u, h => by simpa [Rel] using h
  | .str s, u, h => by simpa [Rel] using h
  | .ty n, u, h => by simpa [Rel] using h
  | .cls c, u, h => by simpa [Rel] using h
  | .ref n, u, h => by
    rw [Rel] at h ⊢
    obtain ⟨a, h1, h2⟩ := h
    exact ⟨a, h1, rel_get p h2⟩
  | .nd k xs, u, h => by
    rw [Rel] at h ⊢
    obtain ⟨a, us, h1, h2, h3⟩ := h
    exact ⟨a, us, h1, h2.mono e, RelL.mono0 p e xs us h3⟩
theorem RelL.mono0 (p : R.as <+: R'.as) (e : Ex F F') : ∀ (xs : List PV) (us : List V), RelL T K R F xs us → RelL T K R' F' xs us
  | [], us, h => by simpa [RelL] using h
  | x :: xs, us, h => by
    rw [RelL] at h ⊢
    obtain ⟨u, r, h1, h2, h3⟩ := h
    exact ⟨u, r, h1, Rel.mono0 p e x u h2, RelL.mono0 p e xs r h3⟩
end
theorem Rel.mono (p : Pl.le R R') (e : Ex F F') (x : PV) (u : V) (h : Rel T K R F x u) : Rel T K R' F' x u := Rel.mono0 p.1 e x u h
theorem RelL.mono (p : Pl.le R R') (e : Ex F F') (x : List PV) (u : List V) (h : RelL T K R F x u) : RelL T K R' F' x u := RelL.mono0 p.1 e x u h
theorem RelL.length : ∀ {xs : List PV} {us : List V}, RelL T K R F xs us → us.length = xs.length
  | [], us, h => by rw [RelL] at h; subst h; rfl
  | x :: xs, us, h => by
    rw [RelL] at h
    obtain ⟨u, r, rfl, _, h3⟩ := h
    simp [RelL.length h3]
theorem RelL.nil : RelL T K R F [] [] := by rw [RelL]
theorem RelL.cons {x : PV} {xs : List PV} {u : V} {us : List V} (h : Rel T K R F x u) (t : RelL T K R F xs us) : RelL T K R F (x :: xs) (u :: us) := by
  rw [RelL]; exact ⟨u, us, rfl, h, t⟩
theorem RelL.get : ∀ {xs : List PV} {us : List V} {i : Nat} {x : PV}, RelL T K R F xs us → xs[i]? = some x → ∃ u, us[i]? = some u ∧ Rel T K R F x u
  | [], us, i, x, h, e => by simp at e
  | y :: xs, us, 0, x, h, e => by
    rw [RelL] at h
    obtain ⟨u, r, rfl, h2, h3⟩ := h
    simp at e; subst e
    exact ⟨u, rfl, h2⟩
  | y :: xs, us, i + 1, x, h, e => by
    rw [RelL] at h
    obtain ⟨u, r, rfl, h2, h3⟩ := h
    simp at e
    obtain ⟨v, h4, h5⟩ := RelL.get (i := i) h3 e
    exact ⟨v, by simpa using h4, h5⟩
theorem RelL.append : ∀ {xs : List PV} {us : List V} {ys : List PV} {ws : List V}, RelL T K R F xs us → RelL T K R F ys ws → RelL T K R F (xs ++ ys) (us ++ ws)
  | [], us, ys, ws, h, t => by rw [RelL] at h; subst h; exact t
  | x :: xs, us, ys, ws, h, t => by
    rw [RelL] at h
    obtain ⟨u, r, rfl, h2, h3⟩ := h
    exact .cons h2 (RelL.append h3 t)
theorem RelL.set {y : PV} {w : V} (hy : Rel T K R F y w) : ∀ {xs : List PV} {us : List V} (i : Nat), RelL T K R F xs us → RelL T K R F (xs.set i y) (us.set i w)
  | [], us, i, h => by rw [RelL] at h; subst h; simp [RelL]
  | x :: xs, us, 0, h => by
    rw [RelL] at h
    obtain ⟨u, r, rfl, h2, h3⟩ := h
    exact .cons hy h3
  | x :: xs, us, i + 1, h => by
    rw [RelL] at h
    obtain ⟨u, r, rfl, h2, h3⟩ := h
    exact .cons h2 (RelL.set hy i h3)
theorem RelL.take : ∀ {xs : List PV} {us : List V} (n : Nat), RelL T K R F xs us → RelL T K R F (xs.take n) (us.take n)
  | _, us, 0, h => by simp [RelL]
  | [], us, n + 1, h => by rw [RelL] at h; subst h; simp [RelL]
  | x :: xs, us, n + 1, h => by
    rw [RelL] at h
    obtain ⟨u, r, rfl, h2, h3⟩ := h
    exact .cons h2 (RelL.take n h3)
theorem RelL.drop : ∀ {xs : List PV} {us : List V} (n : Nat), RelL T K R F xs us → RelL T K R F (xs.drop n) (us.drop n)
  | _, us, 0, h => h
  | [], us, n + 1, h => by rw [RelL] at h; subst h; simp [RelL]
  | x :: xs, us, n + 1, h => by
    rw [RelL] at h
    obtain ⟨u, r, rfl, h2, h3⟩ := h
    exact RelL.drop n h3
theorem RelL.reverse : ∀ {xs : List PV} {us : List V}, RelL T K R F xs us → RelL T K R F xs.reverse us.reverse
  | [], us, h => by rw [RelL] at h; subst h; exact .nil
  | x :: xs, us, h => by
    rw [RelL] at h
    obtain ⟨u, r, rfl, h2, h3⟩ := h
    rw [List.reverse_cons, List.reverse_cons]
    exact .append (RelL.reverse h3) (.cons h2 .nil)
end

/-- what may be held aside -/
def hidO : HO → Bool
  | .lst _ => true
  | .dK _ => true
  | .dT _ => true
  | .ins _ _ _ => true
  | _ => false
theorem hidO.nt {o : HO} (h : hidO o = true) : ∀ us, o ≠ .tup us := fun us z => by rw [z] at h; cases h
/-- neither a table of code nor a thing told by a sentence -/
def plainO : HO → Bool
  | .tbl _ => false
  | .ext _ => false
  | _ => true
theorem hidO.plain {o : HO} (h : hidO o = true) : plainO o = true := by cases o <;> first | rfl | cases h
theorem tabs_new {L : List (Addr × Str)} {H : Hp} {p : Addr} {o : HO} (t : LamX.Tabs L H) (h : H p = none) : LamX.Tabs L (L2.upd H p o) := t.ext fun b u e => by rw [upd_ne (ne_of_none e h)]; exact e
theorem tabs_put {L : List (Addr × Str)} {H : Hp} {a : Addr} {o u : HO} (t : LamX.Tabs L H) (ha : H a = some u) (hu : plainO u = true) : LamX.Tabs L (L2.upd H a o) := fun p hp => by
  obtain ⟨ps, h1, h2, h3⟩ := t p hp
  have ne : p.1 ≠ a := fun z => by rw [z, ha] at h1; cases h1; cases hu
  refine ⟨ps, by rw [upd_ne ne]; exact h1, h2, fun pos cv hc => ?_⟩
  obtain ⟨c, e1, e2⟩ := h3 pos cv hc
  have nc : c ≠ a := fun z => by
    rw [z, ha] at e2
    unfold LamX.CodeO at e2
    cases e2; cases hu
  exact ⟨c, e1, by rw [upd_ne nc]; exact e2⟩
/-- what may change, by place: nothing any more, or a compound -/
abbrev Sto := List (Option (Kd × List PV))
/-- the store S as it stands in the heap -/
structure Rep (T : Tb) (K : PySem.W.Frag) (R : Pl) (F : Hp) (S : Sto) (H : Hp) : Prop where
  ex : Ex F H
  len : R.as.length = S.length
  nd : R.as.Nodup
  there : ∀ a ∈ R.as, H a ≠ none ∧ ∀ ps, H a ≠ some (.tbl ps)
  hid : ∀ p ∈ R.hid, H p.1 = some p.2 ∧ p.1 ∉ R.as ∧ F p.1 = none
  hidt : ∀ p ∈ R.hid, hidO p.2 = true
  ntb : ∀ a ps, F a ≠ some (.tbl ps)
  tabs : LamX.Tabs (T.tabs K) H
  hidnd : (R.hid.map Prod.fst).Nodup
  live : ∀ (n : Nat) (a : Addr) (k : Kd) (xs : List PV), R.as[n]? = some a → S[n]? = some (some (k, xs)) → F a = none ∧ ∃ us, Liv T K H a k us ∧ RelL T K R F xs us
/-- the names' values -/
abbrev Loc := List (Option PV)
structure RelE (T : Tb) (K : PySem.W.Frag) (R : Pl) (F : Hp) (l : Loc) (σ : L2.St) : Prop where
  len : l.length = σ.length
  at_ : ∀ (i : Nat) (v : PV), l[i]? = some (some v) → ∃ u, σ[i]? = some (some u) ∧ Rel T K R F v u
theorem RelE.mono {T : Tb} {K : PySem.W.Frag} {R R' : Pl} {F F' : Hp} {l : Loc} {σ : L2.St} (p : Pl.le R R') (e : Ex F F') (h : RelE T K R F l σ) : RelE T K R' F' l σ :=
  ⟨h.len, fun i v q => let ⟨u, h1, h2⟩ := h.at_ i v q; ⟨u, h1, h2.mono p e⟩⟩
theorem RelE.set {T : Tb} {K : PySem.W.Frag} {R : Pl} {F : Hp} {l : Loc} {σ : L2.St} {v : PV} {u : V} (h : RelE T K R F l σ) (i : Nat) (r : Rel T K R F v u) : RelE T K R F (l.set i (some v)) (σ.set i (some u)) := by
  refine ⟨by rw [List.length_set, List.length_set]; exact h.len, fun j w q => ?_⟩
  by_cases e : i = j
  · subst e
    by_cases hl : i < l.length
    · rw [List.getElem?_set_self hl] at q
      cases q
      exact ⟨u, by rw [List.getElem?_set_self (by rw [← h.len]; exact hl)], r⟩
    · rw [List.getElem?_eq_none (by simpa using hl)] at q; cases q
  · rw [List.getElem?_set_ne e] at q
    obtain ⟨x, h1, h2⟩ := h.at_ j w q
    exact ⟨x, by rw [List.getElem?_set_ne e]; exact h1, h2⟩

/-- an error in flight: its class, its fields -/
structure XV where
  c : Nat
  fs : List Nat
  xs : List PV
def RelX (T : Tb) (K : PySem.W.Frag) (R : Pl) (F : Hp) (H : Hp) (e : XV) (cls : Value) (d : Option Addr) : Prop :=
  cls = .ref (T.ca K e.c) ∧ ((e.fs = [] ∧ d = none) ∨ (∃ dd us, d = some dd ∧ F dd = none ∧ H dd = some (.xd ((e.fs.map T.fd).zip us)) ∧ us.length = e.fs.length ∧ RelL T K R F e.xs us))
/-- what an expression comes to -/
inductive Out (α : Type) where
  | ok (a : α) (S : Sto)
  | err (e : XV) (S : Sto)
  | bad
def Out.bind {α β : Type} (o : Out α) (k : α → Sto → Out β) : Out β := match o with
  | .ok a S => k a S
  | .err e S => .err e S
  | .bad => .bad
/-- what a statement comes to -/
inductive OutS where
  | nx (l : Loc) (S : Sto)
  | ret (v : PV) (S : Sto)
  | brk (l : Loc) (S : Sto)
  | cnt (l : Loc) (S : Sto)
  | err (e : XV) (l : Loc) (S : Sto)
  | bad
def OutS.seq (o : OutS) (k : Loc → Sto → OutS) : OutS := match o with
  | .nx l S => k l S
  | o => o
/-- an expression's value | error: in statements -/
def Out.st {α : Type} (o : Out α) (l : Loc) (k : α → Sto → OutS) : OutS := match o with
  | .ok a S => k a S
  | .err e S => .err e l S
  | .bad => .bad
abbrev DE := Loc → Sto → Out PV
abbrev DB := Loc → Sto → Out Bool
abbrev DA := Loc → Sto → Out (List PV)
abbrev DS := Loc → Sto → OutS
/-- what is wished of an error, by the names' values -/
abbrev XS := L2.St → XK
/-- a def: its arguments, the store -/
abbrev DF := List PV → Sto → Out PV

section
variable (T : Tb) (K : PySem.W.Frag) (R : Pl) (F : Hp)
def PostV (v : PV) (S : Sto) (Q : VK) : Prop := ∀ R' F' H u, Pl.le R R' → Ex F F' → Rep T K R' F' S H → Rel T K R' F' v u → Q u H
def PostL (vs : List PV) (S : Sto) (Q : List V → Hp → Prop) : Prop := ∀ R' F' H us, Pl.le R R' → Ex F F' → Rep T K R' F' S H → RelL T K R' F' vs us → Q us H
def PostB (b : Bool) (S : Sto) (Q : Bool → Hp → Prop) : Prop := ∀ R' F' H, Pl.le R R' → Ex F F' → Rep T K R' F' S H → Q b H
def PostX (e : XV) (S : Sto) (E : XK) : Prop := ∀ R' F' H cls d, Pl.le R R' → Ex F F' → Rep T K R' F' S H → RelX T K R' F' H e cls d → E cls d H
def PostE (l : Loc) (S : Sto) (Q : L2.St → Hp → Prop) : Prop := ∀ R' F' H σ, Pl.le R R' → Ex F F' → Rep T K R' F' S H → RelE T K R' F' l σ → Q σ H
def OkV (o : Out PV) (Q : VK) (E : XK) : Prop := match o with
  | .ok v S => PostV T K R F v S Q
  | .err e S => PostX T K R F e S E
  | .bad => False
def OkB (o : Out Bool) (Q : Bool → Hp → Prop) (E : XK) : Prop := match o with
  | .ok v S => PostB T K R F v S Q
  | .err e S => PostX T K R F e S E
  | .bad => False
def OkL (o : Out (List PV)) (Q : List V → Hp → Prop) (E : XK) : Prop := match o with
  | .ok v S => PostL T K R F v S Q
  | .err e S => PostX T K R F e S E
  | .bad => False
/-- an error in a statement: the names stand as they stood -/
def PostXS (l : Loc) (e : XV) (S : Sto) (E : XS) : Prop := ∀ R' F' H σ cls d, Pl.le R R' → Ex F F' → Rep T K R' F' S H → RelE T K R' F' l σ → RelX T K R' F' H e cls d → E σ cls d H
def OkS (o : OutS) (D : Ends) (E : XS) : Prop := match o with
  | .nx l S => PostE T K R F l S D.nx
  | .ret v S => PostV T K R F v S D.rt
  | .brk l S => PostE T K R F l S D.bk
  | .cnt l S => PostE T K R F l S D.ct
  | .err e l S => PostXS T K R F l e S E
  | .bad => False
end
/-- the state, as the layer's readings take it -/
def tV (T : Tb) (K : PySem.W.Frag) (E : XS) (d : DE) : TE := fun σ H Q => ∃ R F l S, Rep T K R F S H ∧ RelE T K R F l σ ∧ OkV T K R F (d l S) Q (E σ)
def tT (T : Tb) (K : PySem.W.Frag) (E : XS) (d : DB) : TT := fun σ H Q => ∃ R F l S, Rep T K R F S H ∧ RelE T K R F l σ ∧ OkB T K R F (d l S) Q (E σ)
def tL (T : Tb) (K : PySem.W.Frag) (E : XS) (d : DA) : TA := fun σ H Q => ∃ R F l S, Rep T K R F S H ∧ RelE T K R F l σ ∧ OkL T K R F (d l S) Q (E σ)
def tS (T : Tb) (K : PySem.W.Frag) (E : XS) (d : DS) : TS := fun D σ H => ∃ R F l S, Rep T K R F S H ∧ RelE T K R F l σ ∧ OkS T K R F (d l S) D E
def spOf (T : Tb) (K : PySem.W.Frag) (n : Nat) (d : DF) : Sp := fun vs H Q E => vs.length = n ∧ ∃ R F S xs, Rep T K R F S H ∧ RelL T K R F xs vs ∧ OkV T K R F (d xs S) Q E

section
variable {T : Tb} {K : PySem.W.Frag} {R R1 : Pl} {F F1 : Hp} {S : Sto}
theorem PostX.mono {e : XV} {E : XK} (p : Pl.le R R1) (x : Ex F F1) (h : PostX T K R F e S E) : PostX T K R1 F1 e S E := fun R' F' H cls d p' x' => h R' F' H cls d (p.trans p') (x.trans x')
theorem PostXS.mono {l : Loc} {e : XV} {E : XS} (p : Pl.le R R1) (x : Ex F F1) (h : PostXS T K R F l e S E) : PostXS T K R1 F1 l e S E := fun R' F' H σ cls d p' x' => h R' F' H σ cls d (p.trans p') (x.trans x')
theorem PostV.mono {v : PV} {Q : VK} (p : Pl.le R R1) (x : Ex F F1) (h : PostV T K R F v S Q) : PostV T K R1 F1 v S Q := fun R' F' H u p' x' => h R' F' H u (p.trans p') (x.trans x')
theorem PostE.mono {l : Loc} {Q : L2.St → Hp → Prop} (p : Pl.le R R1) (x : Ex F F1) (h : PostE T K R F l S Q) : PostE T K R1 F1 l S Q := fun R' F' H u p' x' => h R' F' H u (p.trans p') (x.trans x')
theorem PostL.mono {v : List PV} {Q : List V → Hp → Prop} (p : Pl.le R R1) (x : Ex F F1) (h : PostL T K R F v S Q) : PostL T K R1 F1 v S Q := fun R' F' H u p' x' => h R' F' H u (p.trans p') (x.trans x')
theorem PostB.mono {v : Bool} {Q : Bool → Hp → Prop} (p : Pl.le R R1) (x : Ex F F1) (h : PostB T K R F v S Q) : PostB T K R1 F1 v S Q := fun R' F' H p' x' => h R' F' H (p.trans p') (x.trans x')
theorem OkV.mono {o : Out PV} {Q : VK} {E : XK} (p : Pl.le R R1) (x : Ex F F1) (h : OkV T K R F o Q E) : OkV T K R1 F1 o Q E := by
  cases o with
  | ok v S => exact PostV.mono p x h
  | err e S => exact PostX.mono p x h
  | bad => exact h
theorem OkB.mono {o : Out Bool} {Q : Bool → Hp → Prop} {E : XK} (p : Pl.le R R1) (x : Ex F F1) (h : OkB T K R F o Q E) : OkB T K R1 F1 o Q E := by
  cases o with
  | ok v S => exact PostB.mono p x h
  | err e S => exact PostX.mono p x h
  | bad => exact h
theorem OkL.mono {o : Out (List PV)} {Q : List V → Hp → Prop} {E : XK} (p : Pl.le R R1) (x : Ex F F1) (h : OkL T K R F o Q E) : OkL T K R1 F1 o Q E := by
  cases o with
  | ok v S => exact PostL.mono p x h
  | err e S => exact PostX.mono p x h
  | bad => exact h
theorem OkS.mono {o : OutS} {D : Ends} {E : XS} (p : Pl.le R R1) (x : Ex F F1) (h : OkS T K R F o D E) : OkS T K R1 F1 o D E := by
  cases o with
  | nx l S => exact PostE.mono p x h
  | ret v S => exact PostV.mono p x h
  | brk l S => exact PostE.mono p x h
  | cnt l S => exact PostE.mono p x h
  | err e l S => exact PostXS.mono p x h
  | bad => exact h
end
end Z
end
section
set_option Elab.async false
set_option linter.all false
set_option maxRecDepth 100000
set_option maxHeartbeats 1000000
/-! Z2: new things, changed things; names, constants, displays, operators, comparisons, tests. -/
namespace Z
open PySem PySem.Spec PyProof.Rows L2

section
variable {T : Tb} {K : PySem.W.Frag} {R : Pl} {F H : Hp} {S : Sto}
theorem ex_upd {p : Addr} {o : HO} (h : H p = none) : Ex H (upd H p o) := Ex.new h
theorem Rep.fnone (r : Rep T K R F S H) {p : Addr} (h : H p = none) : F p = none := r.ex.some h
theorem Liv.upd {a p : Addr} {o : HO} {k : Kd} {us : List V} (ne : a ≠ p) (h : Liv T K H a k us) : Liv T K (L2.upd H p o) a k us := by
  cases k with
  | tup => exact h.elim
  | scr => exact h.elim
  | lst => show L2.upd H p o a = _; rw [upd_ne ne]; exact h
  | dct t ks =>
    cases t <;> (obtain ⟨hl, kk, h1, h2⟩ := h; exact ⟨hl, kk, h1, by rw [upd_ne ne]; exact h2⟩)
  | ins c fs =>
    obtain ⟨hl, dx, h⟩ := h
    exact ⟨hl, dx, by rw [upd_ne ne]; exact h⟩
  | exn c fs => exact h.elim
  | clo a0 c0 q0 us0 => exact h.elim
theorem Liv.there {a : Addr} {k : Kd} {us : List V} (h : Liv T K H a k us) : H a ≠ none := by
  cases k with
  | tup => exact h.elim
  | scr => exact h.elim
  | lst => intro z; rw [show H a = _ from h] at z; cases z
  | dct t ks =>
    cases t <;> (obtain ⟨hl, kk, h1, h2⟩ := h; intro z; rw [h2] at z; cases z)
  | ins c fs =>
    obtain ⟨hl, dx, h⟩ := h
    intro z; rw [h] at z; cases z
  | exn c fs => exact h.elim
  | clo a0 c0 q0 us0 => exact h.elim
theorem Liv.plain {a : Addr} {k : Kd} {us : List V} (h : Liv T K H a k us) : ∃ u, H a = some u ∧ plainO u = true := by
  cases k with
  | tup => exact h.elim
  | scr => exact h.elim
  | lst => exact ⟨_, h, rfl⟩
  | dct t ks => cases t <;> (obtain ⟨_, kk, _, h⟩ := h; exact ⟨_, h, rfl⟩)
  | ins c fs => obtain ⟨_, dx, h⟩ := h; exact ⟨_, h, rfl⟩
  | exn c fs => exact h.elim
  | clo a0 c0 q0 us0 => exact h.elim
theorem Liv.plain_ne {a : Addr} {k : Kd} {us : List V} (h : Liv T K H a k us) : H a ≠ none ∧ ∀ ps, H a ≠ some (.tbl ps) := by
  obtain ⟨u, h1, h2⟩ := h.plain
  rw [h1]
  exact ⟨fun z => (nomatch z), fun ps z => by rw [Option.some.inj z] at h2; cases h2⟩
/-- a new thing that never changes any more -/
theorem Rep.frozen (r : Rep T K R F S H) {p : Addr} {o : HO} (hp : H p = none) (ho : ∀ ps, o ≠ .tbl ps := by intro _ h; cases h) : Rep T K R (L2.upd F p o) S (L2.upd H p o) where
  ex := fun a u e => by
    by_cases h : a = p
    · subst h; rw [upd_same] at e ⊢; exact .inl e
    · rw [upd_ne h] at e ⊢; exact r.ex a u e
  len := r.len
  nd := r.nd
  there := fun a ha => by
    have h : a ≠ p := fun z => (r.there a ha).1 (by rw [z]; exact hp)
    rw [upd_ne h]; exact r.there a ha
  hidt := r.hidt
  ntb := fun a ps e => by
    by_cases h : a = p
    · rw [h, upd_same] at e; exact ho ps (Option.some.inj e)
    · rw [upd_ne h] at e; exact r.ntb a ps e
  tabs := tabs_new r.tabs hp
  hidnd := r.hidnd
  hid := fun q hq => by
    obtain ⟨h1, h2, h3⟩ := r.hid q hq
    have ne : q.1 ≠ p := fun z => by rw [z, hp] at h1; cases h1
    exact ⟨by rw [upd_ne ne]; exact h1, h2, by rw [upd_ne ne]; exact h3⟩
  live := fun n a k xs h1 h2 => by
    obtain ⟨h3, us, h4, h5⟩ := r.live n a k xs h1 h2
    have ne : a ≠ p := fun z => h4.there (by rw [z]; exact hp)
    exact ⟨by rw [upd_ne ne]; exact h3, us, h4.upd ne, h5.mono (Pl.refl R) (ex_upd (r.fnone hp))⟩
/-- a new thing that may change -/
theorem Rep.laid (r : Rep T K R F S H) {p : Addr} {o : HO} {k : Kd} {xs : List PV} {us : List V} (hp : H p = none) (hl : Liv T K (L2.upd H p o) p k us) (hx : RelL T K R F xs us) : Rep T K (R.add p) F (S ++ [some (k, xs)]) (L2.upd H p o) where
  ex := fun a u e => by
    have h : a ≠ p := fun z => by rw [z, r.fnone hp] at e; cases e
    rw [upd_ne h]; exact r.ex a u e
  len := by
    show (R.as ++ [p]).length = _
    rw [List.length_append, List.length_append, r.len]; rfl
  hidt := r.hidt
  ntb := r.ntb
  tabs := tabs_new r.tabs hp
  hidnd := r.hidnd
  hid := fun q hq => by
    obtain ⟨h1, h2, h3⟩ := r.hid q hq
    have ne : q.1 ≠ p := fun z => by rw [z, hp] at h1; cases h1
    exact ⟨by rw [upd_ne ne]; exact h1, fun z => (List.mem_append.mp z).elim h2 fun z => ne (List.mem_singleton.mp z), h3⟩
  there := fun a ha => by
    by_cases h : a = p
    · rw [h]; exact hl.plain_ne
    · rw [upd_ne h]
      rcases List.mem_append.mp ha with z | z
      · exact r.there a z
      · exact absurd (List.mem_singleton.mp z) h
  nd := by
    have hn : p ∉ R.as := fun z => (r.there p z).1 hp
    show (R.as ++ [p]).Nodup
    rw [List.nodup_append]
    exact ⟨r.nd, by simp, fun a ha b hb => by rw [List.mem_singleton.mp hb]; exact fun z => hn (by rw [← z]; exact ha)⟩
  live := fun n a k' xs' h1 h2 => by
    have h1 : (R.as ++ [p])[n]? = some a := h1
    by_cases hlt : n < R.as.length
    · rw [List.getElem?_append_left hlt] at h1
      rw [List.getElem?_append_left (by rw [← r.len]; exact hlt)] at h2
      obtain ⟨h3, us', h4, h5⟩ := r.live n a k' xs' h1 h2
      have ne : a ≠ p := fun z => h4.there (by rw [z]; exact hp)
      exact ⟨h3, us', h4.upd ne, h5.mono (Pl.app R p) (Ex.refl F)⟩
    · have hge : R.as.length ≤ n := Nat.le_of_not_lt hlt
      rw [List.getElem?_append_right hge] at h1
      rw [List.getElem?_append_right (by rw [← r.len]; exact hge)] at h2
      have e0 : n - R.as.length = 0 := by
        by_cases z : n - R.as.length = 0
        · exact z
        · rw [List.getElem?_eq_none (by simp; omega)] at h1; cases h1
      have e1 : n - S.length = 0 := by rw [← r.len]; exact e0
      rw [e0] at h1
      rw [e1] at h2
      cases h1; cases h2
      exact ⟨r.fnone hp, us, hl, hx.mono (Pl.app R _) (Ex.refl F)⟩
/-- a thing that may change, changed -/
theorem Rep.put (r : Rep T K R F S H) {n : Nat} {a : Addr} {o : HO} {k : Kd} {xs : List PV} {us : List V} (hn : R.as[n]? = some a) (hf : F a = none) (hl : Liv T K (L2.upd H a o) a k us) (hx : RelL T K R F xs us) (hp : ∃ u, H a = some u ∧ plainO u = true := by exact ⟨_, by assumption, rfl⟩) : Rep T K R F (S.set n (some (k, xs))) (L2.upd H a o) where
  ex := fun b u e => by
    have h : b ≠ a := fun z => by rw [z, hf] at e; cases e
    rw [upd_ne h]; exact r.ex b u e
  len := by rw [List.length_set]; exact r.len
  nd := r.nd
  there := fun b hb => by
    by_cases h : b = a
    · rw [h]; exact hl.plain_ne
    · rw [upd_ne h]; exact r.there b hb
  hidt := r.hidt
  ntb := r.ntb
  tabs := tabs_put r.tabs hp.choose_spec.1 hp.choose_spec.2
  hidnd := r.hidnd
  hid := fun q hq => by
    obtain ⟨h1, h2, h3⟩ := r.hid q hq
    have ne : q.1 ≠ a := fun z => h2 (by rw [z]; exact List.mem_of_getElem? hn)
    exact ⟨by rw [upd_ne ne]; exact h1, h2, h3⟩
  live := fun m b k' xs' h1 h2 => by
    by_cases e : n = m
    · subst e
      rw [hn] at h1; cases h1
      have hlt : n < S.length := by
        rw [← r.len]; exact (List.getElem?_eq_some_iff.mp hn).1
      rw [List.getElem?_set_self hlt] at h2
      cases h2
      exact ⟨hf, us, hl, hx⟩
    · rw [List.getElem?_set_ne e] at h2
      obtain ⟨h3, us', h4, h5⟩ := r.live m b k' xs' h1 h2
      have ne : b ≠ a := fun z => e (by
        subst z
        exact ((List.getElem?_inj (List.getElem?_eq_some_iff.mp hn).1 r.nd).mp (by rw [hn, h1])))
      exact ⟨h3, us', h4.upd ne, h5⟩
end
/-- the compound behind a value -/
def view (x : PV) (S : Sto) : Option (Kd × List PV) := match x with
  | .nd k xs => some (k, xs)
  | .ref n => (S[n]?).join
  | _ => none
theorem view_nd (k : Kd) (xs : List PV) (S : Sto) : view (.nd k xs) S = some (k, xs) := rfl
section
variable {T : Tb} {K : PySem.W.Frag} {R : Pl} {F H : Hp} {S : Sto}
theorem view_rel (r : Rep T K R F S H) {x : PV} {u : V} (h : Rel T K R F x u) {k : Kd} {xs : List PV} (e : view x S = some (k, xs)) : ∃ a us, u = .ref a ∧ Shp T K H a k us ∧ RelL T K R F xs us := by
  cases x with
  | nd k' xs' =>
    cases e
    rw [Rel] at h
    obtain ⟨a, us, h1, h2, h3⟩ := h
    exact ⟨a, us, h1, h2.mono r.ex, h3⟩
  | ref n =>
    rw [Rel] at h
    obtain ⟨a, h1, h2⟩ := h
    have e' : (S[n]?).join = some (k, xs) := e
    have e2 : S[n]? = some (some (k, xs)) := by
      cases q : S[n]? with
      | none => rw [q] at e'; cases e'
      | some o => rw [q] at e'; cases o with
        | none => cases e'
        | some y => cases e'; rfl
    obtain ⟨_, us, h4, h5⟩ := r.live n a k xs h2 e2
    exact ⟨a, us, h1, h4.shp, h5⟩
  | _ => cases e
end

/-! ### sequencing -/
structure Go (T : Tb) (K : PySem.W.Frag) (E : XK) (β : Type) where
  ok : Pl → Hp → Out β → Prop
  mono : ∀ {R R' : Pl} {F F' : Hp} {o : Out β}, Pl.le R R' → Ex F F' → ok R F o → ok R' F' o
  err : ∀ {R : Pl} {F : Hp} {e : XV} {S : Sto}, ok R F (.err e S) → PostX T K R F e S E
  bad : ∀ {R : Pl} {F : Hp}, ¬ ok R F .bad
def goV (T : Tb) (K : PySem.W.Frag) (E : XK) (Q : VK) : Go T K E PV := ⟨fun R F o => OkV T K R F o Q E, fun p x h => OkV.mono p x h, fun h => h, fun h => h⟩
def goB (T : Tb) (K : PySem.W.Frag) (E : XK) (Q : Bool → Hp → Prop) : Go T K E Bool := ⟨fun R F o => OkB T K R F o Q E, fun p x h => OkB.mono p x h, fun h => h, fun h => h⟩
def goL (T : Tb) (K : PySem.W.Frag) (E : XK) (Q : List V → Hp → Prop) : Go T K E (List PV) := ⟨fun R F o => OkL T K R F o Q E, fun p x h => OkL.mono p x h, fun h => h, fun h => h⟩
section
variable {T : Tb} {K : PySem.W.Frag} {E : XS} {R : Pl} {F H : Hp} {S : Sto} {l : Loc} {σ : L2.St} {β : Type}
theorem seqV (G : Go T K (E σ) β) {d : DE} {k : PV → Sto → Out β} {C : VK} (r : Rep T K R F S H) (e : RelE T K R F l σ) (h : G.ok R F ((d l S).bind k))
    (hk : ∀ (x : PV) (S1 : Sto) (R1 : Pl) (F1 H1 : Hp) (u : V), Pl.le R R1 → Ex F F1 → Rep T K R1 F1 S1 H1 → Rel T K R1 F1 x u → RelE T K R1 F1 l σ → G.ok R1 F1 (k x S1) → C u H1) : tV T K E d σ H C := by
  refine ⟨R, F, l, S, r, e, ?_⟩
  cases hd : d l S with
  | ok x S1 =>
    rw [hd] at h
    exact fun R1 F1 H1 u p x' r1 rx => hk x S1 R1 F1 H1 u p x' r1 rx (e.mono p x') (G.mono p x' h)
  | err e' S1 => rw [hd] at h; exact G.err h
  | bad => rw [hd] at h; exact G.bad h
theorem seqT (G : Go T K (E σ) β) {d : DB} {k : Bool → Sto → Out β} {C : Bool → Hp → Prop} (r : Rep T K R F S H) (e : RelE T K R F l σ) (h : G.ok R F ((d l S).bind k))
    (hk : ∀ (x : Bool) (S1 : Sto) (R1 : Pl) (F1 H1 : Hp), Pl.le R R1 → Ex F F1 → Rep T K R1 F1 S1 H1 → RelE T K R1 F1 l σ → G.ok R1 F1 (k x S1) → C x H1) : tT T K E d σ H C := by
  refine ⟨R, F, l, S, r, e, ?_⟩
  cases hd : d l S with
  | ok x S1 =>
    rw [hd] at h
    exact fun R1 F1 H1 p x' r1 => hk x S1 R1 F1 H1 p x' r1 (e.mono p x') (G.mono p x' h)
  | err e' S1 => rw [hd] at h; exact G.err h
  | bad => rw [hd] at h; exact G.bad h
theorem seqL (G : Go T K (E σ) β) {d : DA} {k : List PV → Sto → Out β} {C : List V → Hp → Prop} (r : Rep T K R F S H) (e : RelE T K R F l σ) (h : G.ok R F ((d l S).bind k))
    (hk : ∀ (x : List PV) (S1 : Sto) (R1 : Pl) (F1 H1 : Hp) (u : List V), Pl.le R R1 → Ex F F1 → Rep T K R1 F1 S1 H1 → RelL T K R1 F1 x u → RelE T K R1 F1 l σ → G.ok R1 F1 (k x S1) → C u H1) : tL T K E d σ H C := by
  refine ⟨R, F, l, S, r, e, ?_⟩
  cases hd : d l S with
  | ok x S1 =>
    rw [hd] at h
    exact fun R1 F1 H1 u p x' r1 rx => hk x S1 R1 F1 H1 u p x' r1 rx (e.mono p x') (G.mono p x' h)
  | err e' S1 => rw [hd] at h; exact G.err h
  | bad => rw [hd] at h; exact G.bad h
/-- an expression's value handed on as it is -/
theorem PostV.here {v : PV} {u : V} {Q : VK} (r : Rep T K R F S H) (rv : Rel T K R F v u) (h : PostV T K R F v S Q) : Q u H := h R F H u (Pl.refl R) (Ex.refl F) r rv
theorem PostL.here {v : List PV} {u : List V} {Q : List V → Hp → Prop} (r : Rep T K R F S H) (rv : RelL T K R F v u) (h : PostL T K R F v S Q) : Q u H := h R F H u (Pl.refl R) (Ex.refl F) r rv
theorem PostB.here {v : Bool} {Q : Bool → Hp → Prop} (r : Rep T K R F S H) (h : PostB T K R F v S Q) : Q v H := h R F H (Pl.refl R) (Ex.refl F) r
theorem PostE.here {Q : L2.St → Hp → Prop} (r : Rep T K R F S H) (e : RelE T K R F l σ) (h : PostE T K R F l S Q) : Q σ H := h R F H σ (Pl.refl R) (Ex.refl F) r e
/-- a new compound that never changes any more, as the value -/
theorem PostV.new {k : Kd} {xs : List PV} {us : List V} {p : Addr} {o : HO} {Q : VK} (r : Rep T K R F S H) (hp : H p = none) (hs : Shp T K (L2.upd F p o) p k us) (hx : RelL T K R F xs us) (h : PostV T K R F (.nd k xs) S Q) (ho : ∀ ps, o ≠ .tbl ps := by intro _ h; cases h) : Q (.ref p) (L2.upd H p o) := by
  have e : Ex F (L2.upd F p o) := ex_upd (r.fnone hp)
  refine h R _ _ _ (Pl.refl R) e (r.frozen hp ho) ?_
  rw [Rel]
  exact ⟨p, us, rfl, hs, hx.mono (Pl.refl R) e⟩
/-- a new compound that may change, as the value -/
theorem PostV.newM {k : Kd} {xs : List PV} {us : List V} {p : Addr} {o : HO} {Q : VK} (r : Rep T K R F S H) (hp : H p = none) (hs : Liv T K (L2.upd H p o) p k us) (hx : RelL T K R F xs us) (h : PostV T K R F (.ref S.length) (S ++ [some (k, xs)]) Q) : Q (.ref p) (L2.upd H p o) := by
  refine h (R.add p) F _ _ (Pl.app R _) (Ex.refl F) (r.laid hp hs hx) ?_
  rw [Rel]
  exact ⟨p, rfl, by show (R.as ++ [p])[S.length]? = _; rw [← r.len, List.getElem?_append_right (Nat.le_refl _)]; simp⟩
end

/-! ### judgements -/
abbrev JE (T : Tb) (X : Cx) (E : XS) (e : Expr) (d : DE) : Prop := PE X e (tV T X.K E d)
abbrev JT (T : Tb) (X : Cx) (E : XS) (e : Expr) (d : DB) : Prop := PT X e (tT T X.K E d)
abbrev JW (T : Tb) (X : Cx) (E : XS) (e : Expr) (d : DB) : Prop := PW X e (tT T X.K E d)
abbrev JA (T : Tb) (X : Cx) (E : XS) (es : List Expr) (d : DA) : Prop := PA X es (tL T X.K E d)
abbrev JS (T : Tb) (X : Cx) (E : XS) (st : Stmt) (d : DS) : Prop := PS X st (tS T X.K E d)
abbrev JB (T : Tb) (X : Cx) (E : XS) (st : List Stmt) (d : DS) : Prop := PSs X st (tS T X.K E d)
theorem pe_imp {X : Cx} {e : Expr} {t t' : TE} (h : PE X e t) (i : ∀ σ H Q, t' σ H Q → t σ H Q) : PE X e t' := ⟨fun pins s σ H Q I q => h.run pins s σ H Q I (i σ H Q q)⟩
theorem pt_imp {X : Cx} {e : Expr} {t t' : TT} (h : PT X e t) (i : ∀ σ H Q, t' σ H Q → t σ H Q) : PT X e t' := ⟨fun pins s σ H Q I q => h.run pins s σ H Q I (i σ H Q q)⟩
theorem pw_imp {X : Cx} {e : Expr} {t t' : TT} (h : PW X e t) (i : ∀ σ H Q, t' σ H Q → t σ H Q) : PW X e t' := ⟨fun wh pins s σ H Q I q => h.run wh pins s σ H Q I (i σ H Q q)⟩
theorem pa_imp {X : Cx} {e : List Expr} {t t' : TA} (h : PA X e t) (i : ∀ σ H Q, t' σ H Q → t σ H Q) : PA X e t' := ⟨fun pos pins s σ H Q I q => h.run pos pins s σ H Q I (i σ H Q q)⟩
theorem ps_imp {X : Cx} {e : Stmt} {t t' : TS} (h : PS X e t) (i : ∀ D σ H, t' D σ H → t D σ H) : PS X e t' := ⟨fun pins s σ H D I q => h.run pins s σ H D I (i D σ H q)⟩
theorem pss_imp {X : Cx} {e : List Stmt} {t t' : TS} (h : PSs X e t) (i : ∀ D σ H, t' D σ H → t D σ H) : PSs X e t' := ⟨fun pins s σ H D I q => h.run pins s σ H D I (i D σ H q)⟩

/-! ### names, constants -/
def dVar (i : Nat) : DE := fun l S => match l[i]? with
  | some (some v) => .ok v S
  | _ => .bad
def dC (v : PV) : DE := fun _ S => .ok v S
/-- a value that has no address, as the layer's -/
def PV.at0 : PV → Option V
  | .non => some .non
  | .bl b => some (.bl b)
  | .int i => some (.int i)
  | .str x => some (.str x)
  | .ty n => some (.ty n)
  | _ => none
theorem rel_at0 {T : Tb} {K : PySem.W.Frag} {R : Pl} {F : Hp} {v : PV} {u : V} (h : v.at0 = some u) : Rel T K R F v u := by
  cases v <;> simp [PV.at0] at h <;> subst h <;> simp [Rel]
section
variable {T : Tb} {X : Cx} {E : XS}
theorem je_var (i : Nat) {x : Str} {pos : Pos} (hN : X.N[i]? = some x := by rfl) (hv : Vis X.env.scope x := by first | exact Or.inl rfl | exact Or.inr (Or.inl rfl) | exact Or.inr (Or.inr rfl)) (hd : (x == ("__debug__" : Str)) = false := by decide)
    (hcd : (x == ("__classdict__" : Str)) = false := by decide) : JE T X E (.Name x pos) (dVar i) := by
  refine pe_imp (pe_var (i := i) hN hv hd hcd) fun σ H Q ⟨R, F, l, S, r, e, h⟩ => ?_
  unfold dVar at h
  split at h
  · rename_i v hv'
    obtain ⟨u, h1, h2⟩ := e.at_ i v hv'
    exact ⟨u, h1, PostV.here r h2 h⟩
  · exact h.elim
theorem je_c {e : Expr} {v : PV} {u : V} (hu : v.at0 = some u) (h : PE X e (tC u)) : JE T X E e (dC v) :=
  pe_imp h fun σ H Q ⟨R, F, l, S, r, e, h⟩ => PostV.here r (rel_at0 hu) h
theorem je_int {i : Int} {j pos} : JE T X E (.Constant (.int i) j pos) (dC (.int i)) := je_c rfl pe_int
theorem je_bl {i : Bool} {j pos} : JE T X E (.Constant (.bool i) j pos) (dC (.bl i)) := je_c rfl pe_bl
theorem je_non {j pos} : JE T X E (.Constant .none j pos) (dC .non) := je_c rfl pe_non
theorem je_str {x : Str} {j pos} : JE T X E (.Constant (.str x) j pos) (dC (.str x)) := je_c rfl pe_str
theorem je_gint {x : Str} {i : Int} {pos : Pos} (hm : ∃ t, X.mg x = some (.int i t)) (hg : Gl X x := by rfl) (hd : (x == ("__debug__" : Str)) = false := by decide) : JE T X E (.Name x pos) (dC (.int i)) :=
  let ⟨t, h⟩ := hm; je_c rfl (pe_glob hg h (v := .int i) ⟨t, rfl⟩ hd)
theorem je_gstr {x z : Str} {pos : Pos} (hm : ∃ t, X.mg x = some (.str z t)) (hg : Gl X x := by rfl) (hd : (x == ("__debug__" : Str)) = false := by decide) : JE T X E (.Name x pos) (dC (.str z)) :=
  let ⟨t, h⟩ := hm; je_c rfl (pe_glob hg h (v := .str z) ⟨t, rfl⟩ hd)
/-- a built-in type, a class of the text, as a value -/
theorem je_ty {x : Str} {n : String} {pos : Pos} (hm : X.mg x = none) (hv : bootBuiltins x = some (.type n)) (hg : Gl X x := by rfl) (hn : x ≠ "__name__" := by decide) (hd : (x == ("__debug__" : Str)) = false := by decide) : JE T X E (.Name x pos) (dC (.ty n)) :=
  je_c rfl (pe_bltn hg hm hv (v := .ty n) rfl hn hd)
theorem je_cls {x : Str} {c : Nat} {pos : Pos} (hm : X.mg x = some (.ref (T.ca X.K c))) (hg : Gl X x := by rfl) (hd : (x == ("__debug__" : Str)) = false := by decide) : JE T X E (.Name x pos) (dC (.cls c)) :=
  pe_imp (pe_glob hg hm (v := .ref (T.ca X.K c)) rfl hd) fun σ H Q ⟨R, F, l, S, r, e, h⟩ => PostV.here (v := .cls c) r (by rw [Rel]) h

/-! ### argument lists, displays -/
def dNil : DA := fun _ S => .ok [] S
def dCons (a : DE) (r : DA) : DA := fun l S => (a l S).bind fun x S1 => (r l S1).bind fun xs S2 => .ok (x :: xs) S2
variable {e : Expr} {es : List Expr} {a : DE} {ar : DA}
theorem ja_nil : JA T X E [] dNil := pa_imp pa_nil fun σ H Q ⟨R, F, l, S, r, e, h⟩ => PostL.here r .nil h
theorem ja_cons (ha : JE T X E e a) (hr : JA T X E es ar) (hs : starEach (e :: es) X.env = (false, eval e X.env) :: starEach es X.env := by rfl) : JA T X E (e :: es) (dCons a ar) := by
  refine pa_imp (pa_cons ha hr hs) fun σ H Q ⟨R, F, l, S, r, e, h⟩ => ?_
  refine seqV (goL T X.K (E σ) Q) r e h fun x S1 R1 F1 H1 u p ex r1 rx e1 h1 => ?_
  refine seqL (goL T X.K (E σ) Q) r1 e1 h1 fun xs S2 R2 F2 H2 us p2 ex2 r2 rxs e2 h2 => ?_
  exact PostL.here r2 (.cons (rx.mono p2 ex2) rxs) h2
def mkNd (k : Kd) (xs : List PV) (S : Sto) : Out PV := if xs.length ≤ 16777216 then .ok (.nd k xs) S else .bad
def mkRf (k : Kd) (xs : List PV) (S : Sto) : Out PV := if xs.length ≤ 16777216 then .ok (.ref S.length) (S ++ [some (k, xs)]) else .bad
def dTup (t : DA) : DE := fun l S => (t l S).bind fun xs S1 => mkNd .tup xs S1
def dLst (t : DA) : DE := fun l S => (t l S).bind fun xs S1 => mkNd .lst xs S1
def dLstM (t : DA) : DE := fun l S => (t l S).bind fun xs S1 => mkRf .lst xs S1
theorem sz16 {n : Nat} (h : n ≤ 16777216) : n ≤ sizeLine := by rw [sizeLine_eq]; exact h
theorem je_tup {k pos} (h : JA T X E es ar) : JE T X E (.Tuple es k pos) (dTup ar) := by
  refine pe_imp (pe_tup h) fun σ H Q ⟨R, F, l, S, r, e, h⟩ => ?_
  refine seqL (goV T X.K (E σ) Q) r e h fun xs S1 R1 F1 H1 us p ex r1 rx e1 h1 => ?_
  have h1 : OkV T X.K R1 F1 (mkNd .tup xs S1) Q (E σ) := h1
  unfold mkNd at h1
  split at h1
  · rename_i hz
    exact ⟨sz16 (by rw [rx.length]; exact hz), fun q hq => PostV.new (k := .tup) r1 hq upd_same rx h1⟩
  · exact h1.elim
theorem je_lst {pos} (h : JA T X E es ar) : JE T X E (.List es pos) (dLst ar) := by
  refine pe_imp (pe_lst h) fun σ H Q ⟨R, F, l, S, r, e, h⟩ => ?_
  refine seqL (goV T X.K (E σ) Q) r e h fun xs S1 R1 F1 H1 us p ex r1 rx e1 h1 => ?_
  have h1 : OkV T X.K R1 F1 (mkNd .lst xs S1) Q (E σ) := h1
  unfold mkNd at h1
  split at h1
  · rename_i hz
    exact ⟨sz16 (by rw [rx.length]; exact hz), fun q hq => PostV.new (k := .lst) r1 hq upd_same rx h1⟩
  · exact h1.elim
theorem je_lstM {pos} (h : JA T X E es ar) : JE T X E (.List es pos) (dLstM ar) := by
  refine pe_imp (pe_lst h) fun σ H Q ⟨R, F, l, S, r, e, h⟩ => ?_
  refine seqL (goV T X.K (E σ) Q) r e h fun xs S1 R1 F1 H1 us p ex r1 rx e1 h1 => ?_
  have h1 : OkV T X.K R1 F1 (mkRf .lst xs S1) Q (E σ) := h1
  unfold mkRf at h1
  split at h1
  · rename_i hz
    exact ⟨sz16 (by rw [rx.length]; exact hz), fun q hq => PostV.newM (k := .lst) r1 hq upd_same rx h1⟩
  · exact h1.elim
end
end Z
end
section
set_option Elab.async false
set_option linter.all false
set_option maxRecDepth 100000
set_option maxHeartbeats 1000000
/-! Z3: operators and comparisons by values. -/
namespace Z
open PySem PySem.Spec PyProof.Rows L2

/-- an operation on values and the layer's reading of it -/
def OpZ (T : Tb) (K : PySem.W.Frag) (f : PV → PV → Sto → Out PV) (r : R2) : Prop := ∀ (E : XK) (R : Pl) (F H : Hp) (S : Sto) (x y : PV) (u w : V) (Q : VK), Rep T K R F S H → Rel T K R F x u → Rel T K R F y w → OkV T K R F (f x y S) Q E → r u w H Q
def dBin (f : PV → PV → Sto → Out PV) (a b : DE) : DE := fun l S => (a l S).bind fun x S1 => (b l S1).bind fun y S2 => f x y S2
section
variable {T : Tb} {X : Cx} {E : XS} {a b : Expr} {da db : DE} {pos : Pos}
theorem bin_tOp {f : PV → PV → Sto → Out PV} {r : R2} (hz : OpZ T X.K f r) {σ : L2.St} {H : Hp} {Q : VK} (h : tV T X.K E (dBin f da db) σ H Q) : tOp r (tV T X.K E da) (tV T X.K E db) σ H Q := by
  obtain ⟨R, F, l, S, re, e, h⟩ := h
  refine seqV (goV T X.K (E σ) Q) re e h fun x S1 R1 F1 H1 u p ex r1 rx e1 h1 => ?_
  refine seqV (goV T X.K (E σ) Q) r1 e1 h1 fun y S2 R2 F2 H2 w p2 ex2 r2 ry e2 h2 => ?_
  exact hz (E σ) R2 F2 H2 S2 x y u w Q r2 (rx.mono p2 ex2) ry h2
theorem je_bin {op : Operator} {f : PV → PV → Sto → Out PV} {r : R2} (ho : OpR X (binaryOp op) r) (hz : OpZ T X.K f r) (ha : JE T X E a da) (hb : JE T X E b db) : JE T X E (.BinOp a op b pos) (dBin f da db) :=
  pe_imp (pe_op ho ha hb) fun _ _ _ h => bin_tOp hz h
theorem je_cmp {op : CmpOp} {f : PV → PV → Sto → Out PV} {r : R2} (ho : OpR X (compareOp op) r) (hz : OpZ T X.K f r) (ha : JE T X E a da) (hb : JE T X E b db) (hm : behindInMarks op b = false := by rfl) : JE T X E (.Compare a [op] [b] pos) (dBin f da db) :=
  pe_imp (pe_cmpR ho ha hb hm) fun _ _ _ h => bin_tOp hz h
/-- a value that is a bool, as a test -/
def asB (o : Out PV) : Out Bool := o.bind fun x S => match x with
  | .bl b => .ok b S
  | _ => .bad
def dB (d : DE) : DB := fun l S => asB (d l S)
theorem tB_of {t : TE} (hi : ∀ (σ : L2.St) (H : Hp) (Q : VK), tV T X.K E da σ H Q → t σ H Q) {σ : L2.St} {H : Hp} {Q : Bool → Hp → Prop} (h : tT T X.K E (dB da) σ H Q) : t σ H fun x H' => ∃ k, x = .bl k ∧ Q k H' := by
  obtain ⟨R, F, l, S, re, e, h⟩ := h
  refine hi σ H _ (seqV (goB T X.K (E σ) Q) re e h fun x S1 R1 F1 H1 u p ex r1 rx e1 h1 => ?_)
  cases x with
  | bl k =>
    rw [Rel] at rx
    exact ⟨k, rx, PostB.here r1 h1⟩
  | _ => exact h1.elim
theorem jt_cmp {op : CmpOp} {f : PV → PV → Sto → Out PV} {r : R2} (ho : OpR X (compareOp op) r) (hz : OpZ T X.K f r) (ha : JE T X E a da) (hb : JE T X E b db) (hm : behindInMarks op b = false := by rfl) : JT T X E (.Compare a [op] [b] pos) (dB (dBin f da db)) :=
  pt_imp (pt_cmpR ho ha hb hm) fun _ _ _ h => tB_of (fun _ _ _ q => bin_tOp hz q) h
/-- a < b < c -/
def dChain (f g : PV → PV → Sto → Out PV) (a b c : DE) : DE := fun l S => (a l S).bind fun x S1 => (b l S1).bind fun y S2 => (asB (f x y S2)).bind fun k S3 => if k = true then (c l S3).bind fun z S4 => g y z S4 else .ok (.bl false) S3
theorem chain_t {f g : PV → PV → Sto → Out PV} {r r' : R2} {dc : DE} (hf : OpZ T X.K f r) (hg : OpZ T X.K g r') {σ : L2.St} {H : Hp} {Q : VK} (h : tV T X.K E (dChain f g da db dc) σ H Q) : tChain r r' (tV T X.K E da) (tV T X.K E db) (tV T X.K E dc) σ H Q := by
  obtain ⟨R, F, l, S, re, e, h⟩ := h
  refine seqV (goV T X.K (E σ) Q) re e h fun x S1 R1 F1 H1 u p ex r1 rx e1 h1 => ?_
  refine seqV (goV T X.K (E σ) Q) r1 e1 h1 fun y S2 R2 F2 H2 w p2 ex2 r2 ry e2 h2 => ?_
  refine hf (E σ) R2 F2 H2 S2 x y u w _ r2 (rx.mono p2 ex2) ry ?_
  have h2 : OkV T X.K R2 F2 ((asB (f x y S2)).bind fun k S3 => if k = true then (dc l S3).bind fun z S4 => g y z S4 else .ok (.bl false) S3) Q (E σ) := h2
  cases hfx : f x y S2 with
  | bad => rw [hfx] at h2; exact h2.elim
  | err x' S3 => rw [hfx] at h2; exact h2
  | ok v S3 =>
    rw [hfx] at h2
    intro R3 F3 H3 z p3 ex3 r3 rz
    cases v with
    | bl k =>
      rw [Rel] at rz
      refine ⟨k, rz, ?_⟩
      cases k with
      | false => exact PostV.here r3 (by rw [Rel]) (OkV.mono p3 ex3 h2)
      | true =>
        have h3 : OkV T X.K R3 F3 ((dc l S3).bind fun z S4 => g y z S4) Q (E σ) := OkV.mono p3 ex3 h2
        refine seqV (goV T X.K (E σ) Q) r3 (e2.mono p3 ex3) h3 fun z' S4 R4 F4 H4 w4 p4 ex4 r4 rz4 e4 h4 => ?_
        exact hg (E σ) R4 F4 H4 S4 y z' w w4 Q r4 ((ry.mono p3 ex3).mono p4 ex4) rz4 h4
    | _ => exact h2.elim
theorem jt_chain {c : Expr} {op op' : CmpOp} {f g : PV → PV → Sto → Out PV} {r r' : R2} {dc : DE} (ho : OpR X (compareOp op) r) (hf : OpZ T X.K f r) (ho' : OpR X (compareOp op') r') (hg : OpZ T X.K g r') (ha : JE T X E a da) (hb : JE T X E b db) (hc : JE T X E c dc)
    (hm : lastMarks [op, op'] [b, c] = false := by with_unfolding_all rfl) : JT T X E (.Compare a [op, op'] [b, c] pos) (dB (dChain f g da db dc)) :=
  pt_imp (pt_chain ho ho' ha hb hc hm) fun _ _ _ h => tB_of (fun _ _ _ q => chain_t hf hg q) h
end

/-! ### arithmetic -/
set_option exponentiation.threshold 500000 in
@[irreducible] def BIG : Nat := 2 ^ 400000
set_option exponentiation.threshold 10000 in
@[irreducible] def DIVB : Nat := 2 ^ 9000
theorem BIG_eq : BIG = 2 ^ 400000 := by unfold BIG; rfl
theorem DIVB_eq : DIVB = 2 ^ 9000 := by unfold DIVB; rfl
theorem lt_DIVB {n k : Nat} (h : n < 2 ^ k) (hk : k ≤ 9000) : n < DIVB := by
  rw [DIVB_eq]; exact Nat.lt_of_lt_of_le h (Nat.pow_le_pow_right (by omega) hk)
def mulOk (i j : Int) : Prop := i.natAbs < 2 ^ 64 ∨ j.natAbs < 2 ^ 64 ∨ (i.natAbs < BIG ∧ j.natAbs < BIG)
instance (i j : Int) : Decidable (mulOk i j) := by unfold mulOk; infer_instance
theorem mulOk.ok {i j : Int} (h : mulOk i j) : IntMulOk i j := by
  rcases h with h | h | ⟨h1, h2⟩
  · exact CMul.ok (.inl ⟨by omega, by omega⟩)
  · exact CMul.ok (.inr ⟨by omega, by omega⟩)
  · rw [BIG_eq] at h1 h2
    exact CMulW.ok (wide_mul h1 h2 (by decide) (by decide) (by decide))
def addP (x y : PV) (S : Sto) : Out PV := match x with
  | .int i => (match y with
    | .int j => .ok (.int (i + j)) S
    | .bl k => .ok (.int (i + b2i k)) S
    | _ => .bad)
  | .str a => (match y with
    | .str b => if a.length + b.length ≤ 16777216 then .ok (.str (a ++ b)) S else .bad
    | _ => .bad)
  | x => match view x S, view y S with
    | some (.lst, xs), some (.lst, ys) => mkNd .lst (xs ++ ys) S
    | some (.tup, xs), some (.tup, ys) => mkNd .tup (xs ++ ys) S
    | _, _ => .bad
def subP (x y : PV) (S : Sto) : Out PV := match x, y with
  | .int i, .int j => .ok (.int (i - j)) S
  | _, _ => .bad
def divP (x y : PV) (S : Sto) : Out PV := match x, y with
  | .int i, .int j => if 0 < j ∧ j.natAbs < DIVB then .ok (.int (i / j)) S else if j ≠ 0 ∧ j.natAbs < DIVB then .ok (.int (i.fdiv j)) S else .bad
  | _, _ => .bad
def modP (x y : PV) (S : Sto) : Out PV := match x, y with
  | .int i, .int j => if 0 < j then .ok (.int (i % j)) S else if j ≠ 0 then .ok (.int (i.fmod j)) S else .bad
  | _, _ => .bad
def powP (x y : PV) (S : Sto) : Out PV := match x, y with
  | .int i, .int j => if 0 ≤ j ∧ j ≤ 1000000 ∧ i.natAbs < 2 ^ 64 then .ok (.int (i ^ j.toNat)) S else .bad
  | _, _ => .bad
section
variable {T : Tb} {X : Cx} {K : PySem.W.Frag}
theorem rel_int {R : Pl} {F : Hp} {i : Int} {u : V} (h : Rel T K R F (.int i) u) : u = .int i := by rw [Rel] at h; exact h
theorem rel_str {R : Pl} {F : Hp} {i : Str} {u : V} (h : Rel T K R F (.str i) u) : u = .str i := by rw [Rel] at h; exact h
theorem rel_bl {R : Pl} {F : Hp} {i : Bool} {u : V} (h : Rel T K R F (.bl i) u) : u = .bl i := by rw [Rel] at h; exact h
theorem rel_non {R : Pl} {F : Hp} {u : V} (h : Rel T K R F .non u) : u = .non := by rw [Rel] at h; exact h
theorem rel_ty {R : Pl} {F : Hp} {n : String} {u : V} (h : Rel T K R F (.ty n) u) : u = .ty n := by rw [Rel] at h; exact h
theorem rel_cls {R : Pl} {F : Hp} {n : Nat} {u : V} (h : Rel T K R F (.cls n) u) : u = .ref (T.ca K n) := by rw [Rel] at h; exact h
/-- a tuple never stands in the store -/
theorem tup_nd {R : Pl} {F H : Hp} {S : Sto} (r : Rep T K R F S H) {x : PV} {u : V} (rx : Rel T K R F x u) {xs : List PV} (h : view x S = some (.tup, xs)) : x = .nd .tup xs := by
  cases x with
  | nd k zs => cases h; rfl
  | ref n =>
    exfalso
    rw [Rel] at rx
    obtain ⟨b', _, hb'⟩ := rx
    have e' : (S[n]?).join = some (.tup, xs) := h
    cases q : S[n]? with
    | none => rw [q] at e'; cases e'
    | some o =>
      rw [q] at e'
      cases o with
      | none => cases e'
      | some y => cases e'; obtain ⟨_, us', h4, _⟩ := r.live n b' _ _ hb' q; exact h4
  | _ => cases h
def rMulZ : R2 := rI IntMulOk fun i j => .int (i * j)
theorem op_mulZ : OpR X (binaryOp .Mult) rMulZ := opI fun _ _ _ _ _ _ _ hc q => mul_int q hc
def rDivZ : R2 := rI (fun _ j => j ≠ 0 ∧ j.natAbs < DIVB) fun i j => .int (i.fdiv j)
theorem op_divZ : OpR X (binaryOp .FloorDiv) rDivZ := opI fun i j _ _ _ _ _ hc q => floordiv_int hc.1 q (.inl (PyProof.noPylong_of_log2 (by
  have h := hc.2
  rw [DIVB_eq] at h
  exact PySem.Flt.log2_lt_of (by decide) h)))
abbrev rAddZ (K : PySem.W.Frag) : R2 := fun x y H Q => rI0 (fun i j => .int (i + j)) x y H Q ∨ (∃ i k, x = .int i ∧ y = .bl k ∧ Q (.int (i + b2i k)) H) ∨ (∃ i j, x = .str i ∧ y = .str j ∧ i.length + j.length ≤ sizeLine ∧ Q (.str (i ++ j)) H) ∨ rCat x y H Q ∨ rCatA K x y H Q
theorem op_addZ : OpR X (binaryOp .Add) (rAddZ X.K) := OpR.or op_add (OpR.or op_add_ib (OpR.or op_add_str (OpR.or op_cat op_catA)))
theorem oz_add : OpZ T K addP (rAddZ K) := by
  intro E R F H S x y u w Q r rx ry h
  cases x with
  | int i =>
    have := rel_int rx; subst this
    cases y with
    | int j =>
      have := rel_int ry; subst this
      exact .inl ⟨i, j, rfl, rfl, PostV.here r (by rw [Rel]) h⟩
    | bl k =>
      have := rel_bl ry; subst this
      exact .inr (.inl ⟨i, k, rfl, rfl, PostV.here r (by rw [Rel]) h⟩)
    | _ => exact h.elim
  | str a =>
    have := rel_str rx; subst this
    cases y with
    | str b =>
      have := rel_str ry; subst this
      have h : OkV T K R F (if a.length + b.length ≤ 16777216 then .ok (.str (a ++ b)) S else .bad) Q E := h
      split at h
      · rename_i hz
        exact .inr (.inr (.inl ⟨a, b, rfl, rfl, sz16 hz, PostV.here r (by rw [Rel]) h⟩))
      · exact h.elim
    | _ => exact h.elim
  | _ =>
    all_goals
      simp only [addP] at h
      split at h
      · rename_i xs ys h1 h2
        obtain ⟨a, us, rfl, sa, ra⟩ := view_rel r rx h1
        obtain ⟨b, ws, rfl, sb, rb⟩ := view_rel r ry h2
        unfold mkNd at h
        split at h
        · rename_i hz
          refine .inr (.inr (.inr (.inl ⟨a, b, us, ws, rfl, rfl, sa, sb, sz16 ?_, fun p hp => PostV.new (k := .lst) r hp upd_same (ra.append rb) h⟩)))
          rw [ra.length, rb.length, ← List.length_append]; exact hz
        · exact h.elim
      · rename_i xs ys h1 h2
        obtain ⟨a, us, ea, sa, ra⟩ := view_rel r rx h1
        obtain ⟨b, ws, eb, sb, rb⟩ := view_rel r ry h2
        unfold mkNd at h
        split at h
        · rename_i hz
          refine .inr (.inr (.inr (.inr ⟨a, b, us, ws, ea, eb, SqT.of sa, SqT.of sb, sz16 ?_, fun z => ?_, fun z z2 => ?_, fun z z2 p hp => PostV.new (k := .tup) r hp upd_same (ra.append rb) h⟩)))
          · rw [ra.length, rb.length, ← List.length_append]; exact hz
          · have hx : xs = [] := by
              have := ra.length; rw [z] at this; exact List.length_eq_zero_iff.mp this.symm
            subst hx
            have hy := tup_nd r ry h2
            subst hy
            rw [← eb]
            exact PostV.here r ry h
          · have hy : ys = [] := by
              have := rb.length; rw [z2] at this; exact List.length_eq_zero_iff.mp this.symm
            subst hy
            rw [← ea]
            have hx := tup_nd r rx h1
            rw [hx] at rx
            exact PostV.here r rx (by rw [List.append_nil] at h; exact h)
        · exact h.elim
      · exact h.elim
theorem oz_sub : OpZ T K subP (rI0 fun i j => .int (i - j)) := by
  intro E R F H S x y u w Q r rx ry h
  unfold subP at h
  split at h
  · have := rel_int rx; subst this
    have := rel_int ry; subst this
    exact ⟨_, _, rfl, rfl, PostV.here r (by rw [Rel]) h⟩
  · exact h.elim
theorem oz_div : OpZ T K divP rDivZ := by
  intro E R F H S x y u w Q r rx ry h
  unfold divP at h
  split at h
  · have := rel_int rx; subst this
    have := rel_int ry; subst this
    rename_i i j
    split at h
    · rename_i hj
      refine ⟨i, j, rfl, rfl, ⟨by omega, hj.2⟩, ?_⟩
      show Q (V.int (i.fdiv j)) H
      rw [Int.fdiv_eq_ediv_of_nonneg i (by omega)]
      exact PostV.here r (by rw [Rel]) h
    · split at h
      · rename_i hj
        exact ⟨_, _, rfl, rfl, hj, PostV.here r (by rw [Rel]) h⟩
      · exact h.elim
  · exact h.elim
theorem oz_mod : OpZ T K modP (rI (fun _ j => j ≠ 0) fun i j => .int (i.fmod j)) := by
  intro E R F H S x y u w Q r rx ry h
  unfold modP at h
  split at h
  · have := rel_int rx; subst this
    have := rel_int ry; subst this
    rename_i i j
    split at h
    · rename_i hj
      refine ⟨i, j, rfl, rfl, by omega, ?_⟩
      show Q (V.int (i.fmod j)) H
      rw [Int.fmod_eq_emod_of_nonneg i (by omega)]
      exact PostV.here r (by rw [Rel]) h
    · split at h
      · rename_i hj
        exact ⟨_, _, rfl, rfl, hj, PostV.here r (by rw [Rel]) h⟩
      · exact h.elim
  · exact h.elim
theorem oz_pow : OpZ T K powP (rI CPow fun i j => .int (i ^ j.toNat)) := by
  intro E R F H S x y u w Q r rx ry h
  unfold powP at h
  split at h
  · have := rel_int rx; subst this
    have := rel_int ry; subst this
    split at h
    · rename_i hj
      exact ⟨_, _, rfl, rfl, hj, PostV.here r (by rw [Rel]) h⟩
    · exact h.elim
  · exact h.elim
end
end Z
end
section
set_option Elab.async false
set_option linter.all false
set_option maxRecDepth 100000
set_option maxHeartbeats 1000000
/-! Z4: products, comparisons, truth. -/
namespace Z
open PySem PySem.Spec PyProof.Rows L2

/-! ### products -/
def strMul (a : Str) (n : Int) : Str := if n < 1 then Str.empty else if (n == 1 || a.length == 0) = true then a else ⟨(List.replicate n.toNat a.cps).foldl (· ++ ·) #[]⟩
def mulZ (x y : PV) (S : Sto) : Out PV := match x with
  | .int i => (match y with
    | .int j => if mulOk i j then .ok (.int (i * j)) S else .bad
    | _ => .bad)
  | .str a => (match y with
    | .int j => if j < 2 ^ 40 ∧ -(2 ^ 40) < j ∧ a.length * j.toNat ≤ 16777216 then .ok (.str (strMul a j)) S else .bad
    | _ => .bad)
  | x => match view x S with
    | some (.lst, xs) => (match y with
      | .int j => if j < 2 ^ 40 ∧ -(2 ^ 40) < j ∧ xs.length * j.toNat ≤ 16777216 then .ok (.nd .lst (List.replicate j.toNat xs).flatten) S else .bad
      | _ => .bad)
    | _ => .bad
section
variable {T : Tb} {X : Cx} {K : PySem.W.Frag}
def rMulS : R2 := fun x y H Q => ∃ a j, x = .str a ∧ y = .int j ∧ (j < 2 ^ 40 ∧ -(2 ^ 40) < j ∧ a.length * j.toNat ≤ 16777216) ∧ Q (.str (strMul a j)) H
theorem foldl_app_size : ∀ (k : Nat) (a acc : Array Nat), ((List.replicate k a).foldl (· ++ ·) acc).size = acc.size + k * a.size
  | 0, a, acc => by simp
  | k + 1, a, acc => by
    rw [List.replicate_succ, List.foldl_cons, foldl_app_size k a (acc ++ a), Array.size_append, Nat.succ_mul]
    omega
theorem op_mulS : OpR X (binaryOp .Mult) rMulS := by
  intro pins s σ H x y v u Q I rx ry h
  obtain ⟨a, j, rfl, rfl, ⟨h1, h2, h3⟩, q⟩ := h
  obtain ⟨t, rfl⟩ := rx
  obtain ⟨t', rfl⟩ := ry
  have hs : sizeLine = 16777216 := sizeLine_eq
  refine PySem.P.mul_str ?_ (fun hn hz => ?_) (fun hn hz => ?_) ?_
  · rw [decide_eq_false (by omega), decide_eq_false (by omega)]; rfl
  · rw [Bool.or_eq_false_iff] at hz
    have hj : 1 ≤ j := by omega
    have h4 : a.length ≤ 16777216 := Nat.le_trans (Nat.le_mul_of_pos_right _ (by omega)) h3
    have h5 : (a.length : Int) * j ≤ 16777216 := by
      have e : (j.toNat : Int) = j := Int.toNat_of_nonneg (by omega)
      have h7 : ((a.length * j.toNat : Nat) : Int) ≤ ((16777216 : Nat) : Int) := Int.ofNat_le.mpr h3
      rw [Int.natCast_mul, e] at h7
      exact h7
    have h6 : (a.length : Int) ≤ (2 ^ 63 - 1) / j := by
      rw [Int.le_ediv_iff_mul_le (by omega)]
      omega
    omega
  · unfold Builtin.Str.tooLong
    exact decide_eq_false (by omega)
  · unfold strMul at q
    split
    · rename_i hn
      rw [if_pos hn] at q
      exact ⟨by decide, ⟨.str Str.empty, H, I.tok _, ⟨_, rfl⟩, q⟩⟩
    · rename_i hn
      rw [if_neg hn] at q
      split
      · rename_i hz
        rw [if_pos hz] at q
        exact ⟨.str a, H, I, ⟨_, rfl⟩, q⟩
      · rename_i hz
        rw [if_neg hz] at q
        refine ⟨?_, ⟨.str _, H, I.tok _, ⟨_, rfl⟩, q⟩⟩
        show ((List.replicate j.toNat a.cps).foldl (· ++ ·) #[]).size ≤ sizeLine
        rw [foldl_app_size, hs]
        have e : a.cps.size = a.length := rfl
        rw [e, Nat.mul_comm]
        have e0 : (#[] : Array Nat).size = 0 := rfl
        omega
abbrev rMulA : R2 := fun x y H Q => rMulZ x y H Q ∨ rMulS x y H Q ∨ rRep x y H Q
theorem op_mulA : OpR X (binaryOp .Mult) rMulA := OpR.or op_mulZ (OpR.or op_mulS op_rep)
theorem oz_mul : OpZ T K mulZ rMulA := by
  intro E R F H S x y u w Q r rx ry h
  cases x with
  | int i =>
    have := rel_int rx; subst this
    cases y with
    | int j =>
      have := rel_int ry; subst this
      have h : OkV T K R F (if mulOk i j then .ok (.int (i * j)) S else .bad) Q E := h
      split at h
      · rename_i hz
        exact .inl ⟨i, j, rfl, rfl, hz.ok, PostV.here r (by rw [Rel]) h⟩
      · exact h.elim
    | _ => exact h.elim
  | str a =>
    have := rel_str rx; subst this
    cases y with
    | int j =>
      have := rel_int ry; subst this
      have h : OkV T K R F (if j < 2 ^ 40 ∧ -(2 ^ 40) < j ∧ a.length * j.toNat ≤ 16777216 then .ok (.str (strMul a j)) S else .bad) Q E := h
      split at h
      · rename_i hz
        exact .inr (.inl ⟨a, j, rfl, rfl, hz, PostV.here r (by rw [Rel]) h⟩)
      · exact h.elim
    | _ => exact h.elim
  | _ =>
    all_goals
      simp only [mulZ] at h
      split at h
      · rename_i xs h1
        obtain ⟨a, us, ea, sa, ra⟩ := view_rel r rx h1
        cases y with
        | int j =>
          have := rel_int ry; subst this
          simp only at h
          split at h
          · rename_i hz
            refine .inr (.inr ⟨a, j, us, ea, rfl, sa, by omega, by omega, ?_, fun p hp => PostV.new (k := .lst) r hp upd_same ?_ h⟩)
            · rw [ra.length]; exact sz16 hz.2.2
            · have rr : ∀ k : Nat, RelL T K R F (List.replicate k xs).flatten (List.replicate k us).flatten := fun k => by
                induction k with
                | zero => exact .nil
                | succ k ih => rw [List.replicate_succ, List.replicate_succ, List.flatten_cons, List.flatten_cons]; exact ra.append ih
              exact rr _
          · exact h.elim
        | _ => exact h.elim
      · exact h.elim
end

/-! ### data -/
mutual
def dat : PV → Option PyData
  | .non => some .none
  | .bl b => some (.bool b)
  | .int i => some (.int i)
  | .str x => some (.str x)
  | .nd .lst xs => (datL xs).map .list
  | .nd .scr xs => (datL xs).map .list
  | .nd .tup xs => (datL xs).map .tuple
  | _ => none
def datL : List PV → Option (List PyData)
  | [] => some []
  | x :: xs => (dat x).bind fun d => (datL xs).map fun ds => d :: ds
end
/-- .. of a value whose outermost compound may stand in the store -/
def datS (x : PV) (S : Sto) : Option PyData := match view x S with
  | some (k, xs) => dat (.nd k xs)
  | none => dat x
section
variable {T : Tb} {X : Cx} {K : PySem.W.Frag} {R : Pl} {F H : Hp}
theorem shp_rd {a : Addr} {k : Kd} {us : List V} (h : Shp T K H a k us) : (k = .lst ∨ k = .scr → SqL K H a us) ∧ (k = .tup → SqT K H a us) := by
  refine ⟨fun e => ?_, fun e => ?_⟩
  · rcases e with e | e <;> subst e
    · exact SqL.of h
    · exact h
  · subst e; exact SqT.of h
mutual
theorem dat_dp (ex : Ex F H) : ∀ (x : PV) (u : V) (d : PyData), Rel T K R F x u → dat x = some d → Dp K H u d
  | .non, u, d, r, h => by rw [dat] at h; cases h; rw [Rel] at r; subst r; exact .non
  | .bl b, u, d, r, h => by rw [dat] at h; cases h; rw [Rel] at r; subst r; exact .bl b
  | .int i, u, d, r, h => by rw [dat] at h; cases h; rw [Rel] at r; subst r; exact .int i
  | .str x, u, d, r, h => by rw [dat] at h; cases h; rw [Rel] at r; subst r; exact .str x
  | .nd .lst xs, u, d, r, h => by
    rw [dat, Option.map_eq_some_iff] at h
    obtain ⟨ds, h1, rfl⟩ := h
    rw [Rel] at r
    obtain ⟨a, us, rfl, hs, hl⟩ := r
    exact .lst ((shp_rd (hs.mono ex)).1 (.inl rfl)) (datL_dp ex xs us ds hl h1)
  | .nd .scr xs, u, d, r, h => by
    rw [dat, Option.map_eq_some_iff] at h
    obtain ⟨ds, h1, rfl⟩ := h
    rw [Rel] at r
    obtain ⟨a, us, rfl, hs, hl⟩ := r
    exact .lst ((shp_rd (hs.mono ex)).1 (.inr rfl)) (datL_dp ex xs us ds hl h1)
  | .nd .tup xs, u, d, r, h => by
    rw [dat, Option.map_eq_some_iff] at h
    obtain ⟨ds, h1, rfl⟩ := h
    rw [Rel] at r
    obtain ⟨a, us, rfl, hs, hl⟩ := r
    exact .tup ((shp_rd (hs.mono ex)).2 rfl) (datL_dp ex xs us ds hl h1)
  | .nd (.dct t ks) xs, u, d, r, h => by rw [dat] at h <;> first | cases h | (intros; intro z; cases z)
  | .nd (.ins c fs) xs, u, d, r, h => by rw [dat] at h <;> first | cases h | (intros; intro z; cases z)
  | .ty n, u, d, r, h => by rw [dat] at h <;> first | cases h | (intros; intro z; cases z)
  | .cls n, u, d, r, h => by rw [dat] at h <;> first | cases h | (intros; intro z; cases z)
  | .ref n, u, d, r, h => by rw [dat] at h <;> first | cases h | (intros; intro z; cases z)
theorem datL_dp (ex : Ex F H) : ∀ (xs : List PV) (us : List V) (ds : List PyData), RelL T K R F xs us → datL xs = some ds → DpAll K H us ds
  | [], us, ds, r, h => by rw [datL] at h; cases h; rw [RelL] at r; subst r; exact .nil
  | x :: xs, us, ds, r, h => by
    rw [datL, Option.bind_eq_some_iff] at h
    obtain ⟨d, h1, h2⟩ := h
    rw [Option.map_eq_some_iff] at h2
    obtain ⟨es, h3, rfl⟩ := h2
    rw [RelL] at r
    obtain ⟨u, vs, rfl, r1, r2⟩ := r
    exact .cons (dat_dp ex x u d r1 h1) (datL_dp ex xs vs es r2 h3)
end
theorem datS_dp {S : Sto} (r : Rep T K R F S H) {x : PV} {u : V} {d : PyData} (rx : Rel T K R F x u) (h : datS x S = some d) : Dp K H u d := by
  unfold datS at h
  split at h
  · rename_i k xs hv
    obtain ⟨a, us, rfl, hs, hl⟩ := view_rel r rx hv
    cases k with
    | lst =>
      rw [dat, Option.map_eq_some_iff] at h
      obtain ⟨ds, h1, rfl⟩ := h
      exact .lst ((shp_rd hs).1 (.inl rfl)) (datL_dp r.ex xs us ds hl h1)
    | scr =>
      rw [dat, Option.map_eq_some_iff] at h
      obtain ⟨ds, h1, rfl⟩ := h
      exact .lst ((shp_rd hs).1 (.inr rfl)) (datL_dp r.ex xs us ds hl h1)
    | tup =>
      rw [dat, Option.map_eq_some_iff] at h
      obtain ⟨ds, h1, rfl⟩ := h
      exact .tup ((shp_rd hs).2 rfl) (datL_dp r.ex xs us ds hl h1)
    | dct t ks => rw [dat] at h <;> first | cases h | (intros; intro z; cases z)
    | ins c fs => rw [dat] at h <;> first | cases h | (intros; intro z; cases z)
    | exn c fs => rw [dat] at h <;> first | cases h | (intros; intro z; cases z)
    | clo a0 c0 q0 us0 => rw [dat] at h <;> first | cases h | (intros; intro z; cases z)
  · exact dat_dp r.ex x u d rx h
end

/-! ### comparisons -/
def strPair (x y : PV) : Option (Str × Str) := match y with
  | .str b => (match x with
    | .str a => some (a, b)
    | _ => none)
  | _ => none
def eqD (x y : PV) (S : Sto) : Out PV := match datS x S, datS y S with
  | some d, some e => if SeqAt.shaped d = true ∧ SeqAt.shaped e = true then .ok (.bl (PyData.eqv d e)) S else .bad
  | _, _ => .bad
def neD (x y : PV) (S : Sto) : Out PV := match datS x S, datS y S with
  | some d, some e => if SeqAt.shaped d = true ∧ SeqAt.shaped e = true then .ok (.bl (!PyData.eqv d e)) S else .bad
  | _, _ => .bad
def eqZ (x y : PV) (S : Sto) : Out PV := match strPair x y with
  | some (a, b) => .ok (.bl (decide (a = b))) S
  | none => eqD x y S
def neZ (x y : PV) (S : Sto) : Out PV := match strPair x y with
  | some (a, b) => .ok (.bl (!decide (a = b))) S
  | none => neD x y S
def ltZ (x y : PV) (S : Sto) : Out PV := match x, y with
  | .int i, .int j => .ok (.bl (decide (i < j))) S
  | .str i, .str j => .ok (.bl (decide (i.cps.toList < j.cps.toList))) S
  | _, _ => .bad
def leZ (x y : PV) (S : Sto) : Out PV := match x, y with
  | .int i, .int j => .ok (.bl (decide (i ≤ j))) S
  | .str i, .str j => .ok (.bl (!decide (j.cps.toList < i.cps.toList))) S
  | _, _ => .bad
def gtZ (x y : PV) (S : Sto) : Out PV := match x, y with
  | .int i, .int j => .ok (.bl (decide (j < i))) S
  | .str i, .str j => .ok (.bl (decide (j.cps.toList < i.cps.toList))) S
  | _, _ => .bad
def geZ (x y : PV) (S : Sto) : Out PV := match x, y with
  | .int i, .int j => .ok (.bl (decide (j ≤ i))) S
  | .str i, .str j => .ok (.bl (!decide (i.cps.toList < j.cps.toList))) S
  | _, _ => .bad
def PV.isNon : PV → Bool
  | .non => true
  | _ => false
def isZ (x y : PV) (S : Sto) : Out PV := match y with
  | .non => .ok (.bl x.isNon) S
  | .bl b => (match x with
    | .bl a => .ok (.bl (decide (a = b))) S
    | _ => .bad)
  | _ => .bad
def isntZ (x y : PV) (S : Sto) : Out PV := match y with
  | .non => .ok (.bl (!x.isNon)) S
  | .bl b => (match x with
    | .bl a => .ok (.bl (!decide (a = b))) S
    | _ => .bad)
  | _ => .bad
def PV.flat : PV → Bool
  | .non | .bl _ | .int _ | .str _ => true
  | _ => false
def eqF : PV → PV → Bool
  | .non, .non => true
  | .bl a, .bl b => a == b
  | .bl a, .int b => (if a then 1 else 0) == b
  | .int a, .bl b => a == (if b then 1 else 0)
  | .int a, .int b => a == b
  | .str a, .str b => a == b
  | _, _ => false
def inB (x : PV) (xs : List PV) : Bool := xs.any fun y => eqF y x
def inZ (neg : Bool) (x y : PV) (S : Sto) : Out PV := match y with
  | .str z => (match x with
    | .str c => (match c.cps.toList with
      | [k] => .ok (.bl (if neg then !decide (k ∈ z.cps.toList) else decide (k ∈ z.cps.toList))) S
      | _ => .bad)
    | _ => .bad)
  | y => match view y S with
    | some (k, ys) => if (k = .lst ∨ k = .scr ∨ k = .tup) ∧ x.flat = true ∧ ys.all PV.flat = true then .ok (.bl (if neg then !inB x ys else inB x ys)) S else .bad
    | _ => .bad
section
variable {T : Tb} {X : Cx} {K : PySem.W.Frag}
theorem strPair_some {x y : PV} {a b : Str} (h : strPair x y = some (a, b)) : x = .str a ∧ y = .str b := by
  unfold strPair at h
  split at h
  · split at h
    · cases h; exact ⟨rfl, rfl⟩
    · cases h
  · cases h
theorem dec_strV (a b : Str) : decide (V.str a = V.str b) = decide (a = b) := by
  congr 1
  apply propext
  exact ⟨fun h => by cases h; rfl, fun h => by rw [h]⟩
theorem op_eqZ (hu : X.A.units + 64 < cLine) : OpR X (compareOp .Eq) (fun x y H Q => rEq x y H Q ∨ rEqD X.K x y H Q) := OpR.or op_eq (op_eqD hu)
theorem op_neZ (hu : X.A.units + 64 < cLine) : OpR X (compareOp .NotEq) (fun x y H Q => rNe x y H Q ∨ rNeD X.K x y H Q) := OpR.or op_ne (op_neD hu)
theorem oz_eq : OpZ T K eqZ (fun x y H Q => rEq x y H Q ∨ rEqD K x y H Q) := by
  intro E R F H S x y u w Q r rx ry h
  unfold eqZ at h
  split at h
  · rename_i a b hs
    obtain ⟨rfl, rfl⟩ := strPair_some hs
    have := rel_str rx; subst this
    have := rel_str ry; subst this
    exact .inl ⟨rfl, by rw [dec_strV]; exact PostV.here r (by rw [Rel]) h⟩
  · unfold eqD at h
    split at h
    · rename_i d e h1 h2
      split at h
      · rename_i hs
        exact .inr ⟨d, e, datS_dp r rx h1, datS_dp r ry h2, hs.1, hs.2, PostV.here r (by rw [Rel]) h⟩
      · exact h.elim
    · exact h.elim
theorem oz_ne : OpZ T K neZ (fun x y H Q => rNe x y H Q ∨ rNeD K x y H Q) := by
  intro E R F H S x y u w Q r rx ry h
  unfold neZ at h
  split at h
  · rename_i a b hs
    obtain ⟨rfl, rfl⟩ := strPair_some hs
    have := rel_str rx; subst this
    have := rel_str ry; subst this
    exact .inl ⟨rfl, by rw [dec_strV]; exact PostV.here r (by rw [Rel]) h⟩
  · unfold neD at h
    split at h
    · rename_i d e h1 h2
      split at h
      · rename_i hs
        exact .inr ⟨d, e, datS_dp r rx h1, datS_dp r ry h2, hs.1, hs.2, PostV.here r (by rw [Rel]) h⟩
      · exact h.elim
    · exact h.elim
abbrev rLtZ : R2 := fun x y H Q => rI0 (fun i j => .bl (decide (i < j))) x y H Q ∨ (∃ i j, x = .str i ∧ y = .str j ∧ Q (.bl (decide (i.cps.toList < j.cps.toList))) H)
theorem op_ltZ : OpR X (compareOp .Lt) rLtZ := OpR.or op_lt op_lt_str
abbrev rLeZ : R2 := fun x y H Q => rI0 (fun i j => .bl (decide (i ≤ j))) x y H Q ∨ (∃ i j, x = .str i ∧ y = .str j ∧ Q (.bl (!decide (j.cps.toList < i.cps.toList))) H)
theorem op_leZ : OpR X (compareOp .LtE) rLeZ := OpR.or op_le op_le_str
abbrev rGtZ : R2 := fun x y H Q => rI0 (fun i j => .bl (decide (j < i))) x y H Q ∨ (∃ i j, x = .str i ∧ y = .str j ∧ Q (.bl (decide (j.cps.toList < i.cps.toList))) H)
theorem op_gtZ : OpR X (compareOp .Gt) rGtZ := OpR.or op_gt op_gt_str
abbrev rGeZ : R2 := fun x y H Q => rI0 (fun i j => .bl (decide (j ≤ i))) x y H Q ∨ (∃ i j, x = .str i ∧ y = .str j ∧ Q (.bl (!decide (i.cps.toList < j.cps.toList))) H)
theorem op_geZ : OpR X (compareOp .GtE) rGeZ := OpR.or op_ge op_ge_str
theorem oz_lt : OpZ T K ltZ rLtZ := by
  intro E R F H S x y u w Q r rx ry h
  unfold ltZ at h
  split at h
  · have := rel_int rx; subst this
    have := rel_int ry; subst this
    exact .inl ⟨_, _, rfl, rfl, PostV.here r (by rw [Rel]) h⟩
  · have := rel_str rx; subst this
    have := rel_str ry; subst this
    exact .inr ⟨_, _, rfl, rfl, PostV.here r (by rw [Rel]) h⟩
  · exact h.elim
theorem oz_le : OpZ T K leZ rLeZ := by
  intro E R F H S x y u w Q r rx ry h
  unfold leZ at h
  split at h
  · have := rel_int rx; subst this
    have := rel_int ry; subst this
    exact .inl ⟨_, _, rfl, rfl, PostV.here r (by rw [Rel]) h⟩
  · have := rel_str rx; subst this
    have := rel_str ry; subst this
    exact .inr ⟨_, _, rfl, rfl, PostV.here r (by rw [Rel]) h⟩
  · exact h.elim
theorem oz_gt : OpZ T K gtZ rGtZ := by
  intro E R F H S x y u w Q r rx ry h
  unfold gtZ at h
  split at h
  · have := rel_int rx; subst this
    have := rel_int ry; subst this
    exact .inl ⟨_, _, rfl, rfl, PostV.here r (by rw [Rel]) h⟩
  · have := rel_str rx; subst this
    have := rel_str ry; subst this
    exact .inr ⟨_, _, rfl, rfl, PostV.here r (by rw [Rel]) h⟩
  · exact h.elim
theorem oz_ge : OpZ T K geZ rGeZ := by
  intro E R F H S x y u w Q r rx ry h
  unfold geZ at h
  split at h
  · have := rel_int rx; subst this
    have := rel_int ry; subst this
    exact .inl ⟨_, _, rfl, rfl, PostV.here r (by rw [Rel]) h⟩
  · have := rel_str rx; subst this
    have := rel_str ry; subst this
    exact .inr ⟨_, _, rfl, rfl, PostV.here r (by rw [Rel]) h⟩
  · exact h.elim
theorem isNon_rel {R : Pl} {F : Hp} {x : PV} {u : V} (rx : Rel T K R F x u) : x.isNon = decide (u = .non) := by
  cases x with
  | non => rw [rel_non rx]; rfl
  | bl b => rw [rel_bl rx]; rfl
  | int b => rw [rel_int rx]; rfl
  | str b => rw [rel_str rx]; rfl
  | ty b => rw [rel_ty rx]; rfl
  | cls b => rw [rel_cls rx]; rfl
  | ref n => rw [Rel] at rx; obtain ⟨a, rfl, _⟩ := rx; rfl
  | nd k xs => rw [Rel] at rx; obtain ⟨a, us, rfl, _⟩ := rx; rfl
abbrev rIsZ : R2 := fun x y H Q => (y = .non ∧ Q (.bl (decide (x = .non))) H) ∨ rIsB x y H Q
theorem op_isZ : OpR X (compareOp .Is) rIsZ := OpR.or op_isN op_isBl
abbrev rIsntZ : R2 := fun x y H Q => (y = .non ∧ Q (.bl (!decide (x = .non))) H) ∨ rNotB x y H Q
theorem op_isntZ : OpR X (compareOp .IsNot) rIsntZ := OpR.or op_notN op_notBl
theorem oz_is : OpZ T K isZ rIsZ := by
  intro E R F H S x y u w Q r rx ry h
  cases y with
  | non =>
    have := rel_non ry; subst this
    have e := isNon_rel rx
    refine .inl ⟨rfl, ?_⟩
    rw [← e]
    exact PostV.here r (by rw [Rel]) h
  | bl b =>
    have := rel_bl ry; subst this
    cases x with
    | bl a =>
      have := rel_bl rx; subst this
      exact .inr ⟨a, b, rfl, rfl, PostV.here r (by rw [Rel]) h⟩
    | _ => exact h.elim
  | _ => exact h.elim
theorem oz_isnt : OpZ T K isntZ rIsntZ := by
  intro E R F H S x y u w Q r rx ry h
  cases y with
  | non =>
    have := rel_non ry; subst this
    have e := isNon_rel rx
    refine .inl ⟨rfl, ?_⟩
    rw [← e]
    exact PostV.here r (by rw [Rel]) h
  | bl b =>
    have := rel_bl ry; subst this
    cases x with
    | bl a =>
      have := rel_bl rx; subst this
      exact .inr ⟨a, b, rfl, rfl, PostV.here r (by rw [Rel]) h⟩
    | _ => exact h.elim
  | _ => exact h.elim
theorem flat_rel {R : Pl} {F : Hp} {x : PV} {u : V} (rx : Rel T K R F x u) (h : x.flat = true) : x.at0 = some u ∧ flatV u = true := by
  cases x with
  | non => rw [rel_non rx]; exact ⟨rfl, rfl⟩
  | bl b => rw [rel_bl rx]; exact ⟨rfl, rfl⟩
  | int b => rw [rel_int rx]; exact ⟨rfl, rfl⟩
  | str b => rw [rel_str rx]; exact ⟨rfl, rfl⟩
  | _ => exact absurd h Bool.false_ne_true
theorem eqF_eq {x y : PV} {u w : V} (h1 : x.flat = true) (h2 : y.flat = true) (e1 : x.at0 = some u) (e2 : y.at0 = some w) : eqF x y = eqV u w := by
  cases x <;> first | (exact absurd h1 Bool.false_ne_true) | skip
  all_goals (cases y <;> first | (exact absurd h2 Bool.false_ne_true) | (cases e1; cases e2; rfl))
theorem inB_rel {R : Pl} {F : Hp} {x : PV} {u : V} (rx : Rel T K R F x u) (h : x.flat = true) : ∀ {ys : List PV} {us : List V}, RelL T K R F ys us → ys.all PV.flat = true → inB x ys = inV u us ∧ us.all flatV = true
  | [], us, r, _ => by rw [RelL] at r; subst r; exact ⟨rfl, rfl⟩
  | y :: ys, us, r, hy => by
    rw [RelL] at r
    obtain ⟨w, vs, rfl, r1, r2⟩ := r
    rw [List.all_cons, Bool.and_eq_true] at hy
    obtain ⟨i1, i2⟩ := inB_rel rx h r2 hy.2
    obtain ⟨a1, a2⟩ := flat_rel rx h
    obtain ⟨b1, b2⟩ := flat_rel r1 hy.1
    refine ⟨?_, by rw [List.all_cons, b2, i2]; rfl⟩
    show (eqF y x || inB x ys) = (eqV w u || inV u vs)
    rw [i1, eqF_eq hy.1 h b1 a1]
abbrev rInZ (K : PySem.W.Frag) (neg : Bool) : R2 := fun x y H Q => rIn K neg x y H Q ∨ (∃ (c : Nat) (z : Str), x = .str ⟨#[c]⟩ ∧ y = .str z ∧ Q (.bl (if neg then !decide (c ∈ z.cps.toList) else decide (c ∈ z.cps.toList))) H)
theorem op_inZ : OpR X (compareOp .In) (rInZ X.K false) := OpR.or op_in_seq op_in_sign
theorem op_notInZ : OpR X (compareOp .NotIn) (rInZ X.K true) := OpR.or op_notIn_seq op_notIn_sign
theorem oz_in (neg : Bool) : OpZ T K (inZ neg) (rInZ K neg) := by
  intro E R F H S x y u w Q r rx ry h
  cases y with
  | str z =>
    have := rel_str ry; subst this
    cases x with
    | str c =>
      have := rel_str rx; subst this
      simp only [inZ] at h
      split at h
      · rename_i k hk
        have ec : c = ⟨#[k]⟩ := by
          cases c with
          | mk a =>
            have : a = #[k] := by
              have h2 : a.toList = [k] := hk
              rw [← Array.toArray_toList (xs := a), h2]
            rw [this]
        exact .inr ⟨k, z, by rw [ec], rfl, PostV.here r (by rw [Rel]) h⟩
      · exact h.elim
    | _ => exact h.elim
  | _ =>
    all_goals
      simp only [inZ] at h
      split at h
      · rename_i k ys hv
        obtain ⟨a, us, ea, hs, hl⟩ := view_rel r ry hv
        split at h
        · rename_i hc
          obtain ⟨hk, hx, hy⟩ := hc
          obtain ⟨i1, i2⟩ := inB_rel rx hx hl hy
          refine .inl ⟨a, us, ea, ?_, (flat_rel rx hx).2, i2, ?_⟩
          · rcases hk with e | e | e
            · exact .inl ((shp_rd hs).1 (.inl e))
            · exact .inl ((shp_rd hs).1 (.inr e))
            · exact .inr ((shp_rd hs).2 e)
          · rw [← i1]
            exact PostV.here r (by rw [Rel]) h
        · exact h.elim
      · exact h.elim
end
end Z
end
section
set_option Elab.async false
set_option linter.all false
set_option maxRecDepth 100000
set_option maxHeartbeats 1000000
/-! Z5: truth, tests, subscripts, slices, fields, what dicts hold. -/
namespace Z
open PySem PySem.Spec PyProof.Rows L2

/-! ### truth -/
def truP (x : PV) (S : Sto) : Out Bool := match x with
  | .non => .ok false S
  | .bl b => .ok b S
  | .int i => .ok (i != 0) S
  | .str s => if s.length ≤ 16777216 then .ok ((s.length : Int) != 0) S else .bad
  | x => match view x S with
    | some (.lst, xs) => .ok (!xs.isEmpty) S
    | some (.scr, xs) => .ok (!xs.isEmpty) S
    | some (.tup, xs) => .ok (!xs.isEmpty) S
    | _ => .bad
section
variable {T : Tb} {X : Cx} {K : PySem.W.Frag} {R : Pl} {F H : Hp} {S : Sto} {E : XK}
theorem isEmpty_rel {xs : List PV} {us : List V} (h : RelL T K R F xs us) : xs.isEmpty = us.isEmpty := by
  have e := h.length
  cases xs <;> cases us <;> first | rfl | (simp at e)
theorem tru_rel (r : Rep T K R F S H) {x : PV} {u : V} (rx : Rel T K R F x u) {Q : Bool → Hp → Prop} (h : OkB T K R F (truP x S) Q E) : ∃ k, TruV K u H k ∧ Q k H := by
  cases x with
  | non => rw [rel_non rx]; exact ⟨false, rfl, PostB.here r h⟩
  | bl b => rw [rel_bl rx]; exact ⟨b, rfl, PostB.here r h⟩
  | int i => rw [rel_int rx]; exact ⟨_, rfl, PostB.here r h⟩
  | str s =>
    rw [rel_str rx]
    have h : OkB T K R F (if s.length ≤ 16777216 then .ok ((s.length : Int) != 0) S else .bad) Q E := h
    split at h
    · rename_i hz; exact ⟨_, ⟨sz16 hz, rfl⟩, PostB.here r h⟩
    · exact h.elim
  | _ =>
    all_goals
      simp only [truP] at h
      split at h
      · rename_i xs hv
        obtain ⟨a, us, rfl, hs, hl⟩ := view_rel r rx hv
        exact ⟨_, .inl ⟨us, (shp_rd hs).1 (.inl rfl), by rw [isEmpty_rel hl]⟩, PostB.here r h⟩
      · rename_i xs hv
        obtain ⟨a, us, rfl, hs, hl⟩ := view_rel r rx hv
        exact ⟨_, .inl ⟨us, (shp_rd hs).1 (.inr rfl), by rw [isEmpty_rel hl]⟩, PostB.here r h⟩
      · rename_i xs hv
        obtain ⟨a, us, rfl, hs, hl⟩ := view_rel r rx hv
        exact ⟨_, .inr (.inl ⟨us, (shp_rd hs).2 rfl, by rw [isEmpty_rel hl]⟩), PostB.here r h⟩
      · exact h.elim
end

/-! ### tests -/
def dTru (a : DE) : DB := fun l S => (a l S).bind fun x S1 => truP x S1
def dNotT (a : DB) : DB := fun l S => (a l S).bind fun b S1 => .ok (!b) S1
def dAndT (a b : DB) : DB := fun l S => (a l S).bind fun k S1 => if k = true then b l S1 else .ok false S1
def dOrT (a b : DB) : DB := fun l S => (a l S).bind fun k S1 => if k = true then .ok true S1 else b l S1
def dOr (a b : DE) : DE := fun l S => (a l S).bind fun x S1 => (truP x S1).bind fun k S2 => if k = true then .ok x S2 else b l S2
def dAnd (a b : DE) : DE := fun l S => (a l S).bind fun x S1 => (truP x S1).bind fun k S2 => if k = true then b l S2 else .ok x S2
def dNot (a : DE) : DE := fun l S => (a l S).bind fun x S1 => (truP x S1).bind fun k S2 => .ok (.bl (!k)) S2
def dIf (c : DB) (a b : DE) : DE := fun l S => (c l S).bind fun k S1 => if k = true then a l S1 else b l S1
theorem truP_same {x : PV} {S S1 : Sto} {k : Bool} (h : truP x S = .ok k S1) : S1 = S := by
  unfold truP at h
  split at h <;> first | (cases h; rfl) | (split at h <;> first | (cases h; rfl) | cases h)
section
variable {T : Tb} {X : Cx} {E : XS} {a b c : Expr} {rest : List Expr} {da db : DE} {ta tb : DB} {pos : Pos}
theorem jt_tru (ha : JE T X E a da) (he : ∀ whole, isTrue a X.env whole = (do let v ← whole; standAt a.pos; holding [v] (truthy v)) := by intro _; rfl) : JT T X E a (dTru da) := by
  refine pt_imp (pt_truth ha he) fun σ H Q ⟨R, F, l, S, r, e, h⟩ => ?_
  refine seqV (goB T X.K (E σ) Q) r e h fun x S1 R1 F1 H1 u p ex r1 rx e1 h1 => ?_
  exact tru_rel r1 rx h1
theorem jt_not (ha : JT T X E a ta) : JT T X E (.UnaryOp .Not a pos) (dNotT ta) := by
  refine pt_imp (pt_not ha) fun σ H Q ⟨R, F, l, S, r, e, h⟩ => ?_
  refine seqT (goB T X.K (E σ) Q) r e h fun x S1 R1 F1 H1 p ex r1 e1 h1 => ?_
  exact PostB.here r1 h1
theorem jw_and1 (ha : JT T X E a ta) : JW T X E (.BoolOp .And [a] pos) ta := pw_and1 ha
theorem jw_or1 (ha : JT T X E a ta) : JW T X E (.BoolOp .Or [a] pos) ta := pw_or1 ha
theorem jw_and (ha : JT T X E a ta) (hb : JW T X E (.BoolOp .And (b :: rest) pos) tb) : JW T X E (.BoolOp .And (a :: b :: rest) pos) (dAndT ta tb) := by
  refine pw_imp (pw_and ha hb) fun σ H Q ⟨R, F, l, S, r, e, h⟩ => ?_
  refine seqT (goB T X.K (E σ) Q) r e h fun k S1 R1 F1 H1 p ex r1 e1 h1 => ?_
  cases k with
  | true => exact ⟨R1, F1, l, S1, r1, e1, h1⟩
  | false => exact PostB.here r1 h1
theorem jw_or (ha : JT T X E a ta) (hb : JW T X E (.BoolOp .Or (b :: rest) pos) tb) : JW T X E (.BoolOp .Or (a :: b :: rest) pos) (dOrT ta tb) := by
  refine pw_imp (pw_or ha hb) fun σ H Q ⟨R, F, l, S, r, e, h⟩ => ?_
  refine seqT (goB T X.K (E σ) Q) r e h fun k S1 R1 F1 H1 p ex r1 e1 h1 => ?_
  cases k with
  | false => exact ⟨R1, F1, l, S1, r1, e1, h1⟩
  | true => exact PostB.here r1 h1
theorem je_one {op} (h : JE T X E a da) : JE T X E (.BoolOp op [a] pos) da := pe_one h
theorem je_or (ha : JE T X E a da) (hb : JE T X E (.BoolOp .Or (b :: rest) pos) db) : JE T X E (.BoolOp .Or (a :: b :: rest) pos) (dOr da db) := by
  refine pe_imp (pe_orT ha hb) fun σ H Q ⟨R, F, l, S, r, e, h⟩ => ?_
  refine seqV (goV T X.K (E σ) Q) r e h fun x S1 R1 F1 H1 u p ex r1 rx e1 h1 => ?_
  have h1 : OkV T X.K R1 F1 ((truP x S1).bind fun k S2 => if k = true then .ok x S2 else db l S2) Q (E σ) := h1
  refine tru_rel (E := E σ) (Q := fun k H => if k = true then Q u H else tV T X.K E db σ H Q) r1 rx ?_
  cases ht : truP x S1 with
  | bad => rw [ht] at h1; exact h1.elim
  | err x' S3 => rw [ht] at h1; exact h1
  | ok k S2 =>
    rw [ht] at h1
    have := truP_same ht; subst this
    intro R2 F2 H2 p2 ex2 r2
    cases k with
    | true => exact PostV.here r2 (rx.mono p2 ex2) (OkV.mono p2 ex2 h1)
    | false => exact ⟨R2, F2, l, S2, r2, e1.mono p2 ex2, OkV.mono p2 ex2 h1⟩
theorem je_and (ha : JE T X E a da) (hb : JE T X E (.BoolOp .And (b :: rest) pos) db) : JE T X E (.BoolOp .And (a :: b :: rest) pos) (dAnd da db) := by
  refine pe_imp (pe_andT ha hb) fun σ H Q ⟨R, F, l, S, r, e, h⟩ => ?_
  refine seqV (goV T X.K (E σ) Q) r e h fun x S1 R1 F1 H1 u p ex r1 rx e1 h1 => ?_
  have h1 : OkV T X.K R1 F1 ((truP x S1).bind fun k S2 => if k = true then db l S2 else .ok x S2) Q (E σ) := h1
  refine tru_rel (E := E σ) (Q := fun k H => if k = true then tV T X.K E db σ H Q else Q u H) r1 rx ?_
  cases ht : truP x S1 with
  | bad => rw [ht] at h1; exact h1.elim
  | err x' S3 => rw [ht] at h1; exact h1
  | ok k S2 =>
    rw [ht] at h1
    have := truP_same ht; subst this
    intro R2 F2 H2 p2 ex2 r2
    cases k with
    | false => exact PostV.here r2 (rx.mono p2 ex2) (OkV.mono p2 ex2 h1)
    | true => exact ⟨R2, F2, l, S2, r2, e1.mono p2 ex2, OkV.mono p2 ex2 h1⟩
theorem je_not (ha : JE T X E a da) : JE T X E (.UnaryOp .Not a pos) (dNot da) := by
  refine pe_imp (pe_notT ha) fun σ H Q ⟨R, F, l, S, r, e, h⟩ => ?_
  refine seqV (goV T X.K (E σ) Q) r e h fun x S1 R1 F1 H1 u p ex r1 rx e1 h1 => ?_
  have h1 : OkV T X.K R1 F1 ((truP x S1).bind fun k S2 => .ok (.bl (!k)) S2) Q (E σ) := h1
  refine tru_rel (E := E σ) (Q := fun k H => Q (.bl (!k)) H) r1 rx ?_
  cases ht : truP x S1 with
  | bad => rw [ht] at h1; exact h1.elim
  | err x' S3 => rw [ht] at h1; exact h1
  | ok k S2 =>
    rw [ht] at h1
    intro R2 F2 H2 p2 ex2 r2
    exact PostV.here r2 (by rw [Rel]) (OkV.mono p2 ex2 h1)
theorem je_if (hc : JT T X E c ta) (ha : JE T X E a da) (hb : JE T X E b db) : JE T X E (.IfExp c a b pos) (dIf ta da db) := by
  refine pe_imp (pe_ifExp hc ha hb) fun σ H Q ⟨R, F, l, S, r, e, h⟩ => ?_
  refine seqT (goV T X.K (E σ) Q) r e h fun k S1 R1 F1 H1 p ex r1 e1 h1 => ?_
  cases k with
  | true => exact ⟨R1, F1, l, S1, r1, e1, h1⟩
  | false => exact ⟨R1, F1, l, S1, r1, e1, h1⟩
/-- a test's answer as a bool handed on: used where a test is a value -/
def dUn (f : PV → Sto → Out PV) (a : DE) : DE := fun l S => (a l S).bind fun x S1 => f x S1
def negP (x : PV) (S : Sto) : Out PV := match x with
  | .int i => .ok (.int (-i)) S
  | _ => .bad
theorem je_neg (ha : JE T X E a da) : JE T X E (.UnaryOp .USub a pos) (dUn negP da) := by
  refine pe_imp (pe_un un_neg ha) fun σ H Q ⟨R, F, l, S, r, e, h⟩ => ?_
  refine seqV (goV T X.K (E σ) Q) r e h fun x S1 R1 F1 H1 u p ex r1 rx e1 h1 => ?_
  cases x with
  | int i => exact ⟨i, rel_int rx, PostV.here r1 (by rw [Rel]) h1⟩
  | _ => exact h1.elim
end

/-! ### dicts as they are read -/
def flatKey : PV → Option Key
  | .int i => some (.inl i)
  | .str x => some (.inr x)
  | _ => none
def flatKeys : List PV → Option (List Key)
  | [] => some []
  | x :: xs => (flatKey x).bind fun k => (flatKeys xs).map fun ks => k :: ks
def keyOf : PV → Option PK
  | .int i => some (.k (.inl i))
  | .str x => some (.k (.inr x))
  | .nd .tup xs => (flatKeys xs).map .t
  | _ => none
/-- the key is of the dict's kind -/
def PK.fits : PK → Bool → Bool
  | .k _, false => true
  | .t _, true => true
  | _, _ => false
def dLook : List PK → List PV → PK → Option PV
  | k :: ks, x :: xs, q => if k = q then some x else dLook ks xs q
  | _, _, _ => none
section
variable {T : Tb} {X : Cx} {K : PySem.W.Frag} {R : Pl} {F H : Hp} {S : Sto} {E : XK}
theorem flatKey_rel {x : PV} {u : V} {k : Key} (rx : Rel T K R F x u) (h : flatKey x = some k) : u = kV k := by
  cases x with
  | int i => cases h; exact rel_int rx
  | str i => cases h; exact rel_str rx
  | _ => cases h
theorem flatKeys_rel : ∀ {xs : List PV} {us : List V} {ks : List Key}, RelL T K R F xs us → flatKeys xs = some ks → us = ks.map kV
  | [], us, ks, r, h => by cases h; rw [RelL] at r; exact r
  | x :: xs, us, ks, r, h => by
    rw [flatKeys, Option.bind_eq_some_iff] at h
    obtain ⟨k, h1, h2⟩ := h
    rw [Option.map_eq_some_iff] at h2
    obtain ⟨ks', h3, rfl⟩ := h2
    rw [RelL] at r
    obtain ⟨u, vs, rfl, r1, r2⟩ := r
    rw [flatKey_rel r1 h1, flatKeys_rel r2 h3]; rfl
theorem valV_cons {κ : Type} [DecidableEq κ] (p : κ × V) (r : List (κ × V)) (k : κ) : valV (p :: r) k = if p.1 = k then some p.2 else valV r k := by
  unfold valV
  rw [List.find?_cons]
  by_cases h : p.1 = k
  · rw [if_pos h, h]; simp
  · rw [if_neg h]; simp [h]
theorem dLook_k {q : Key} : ∀ {kk : List Key} {xs : List PV} {us : List V}, us.length = kk.length → RelL T K R F xs us →
    (∀ x, dLook (kk.map PK.k) xs (.k q) = some x → ∃ u, valV (kk.zip us) q = some u ∧ Rel T K R F x u) ∧ (dLook (kk.map PK.k) xs (.k q) = none → valV (kk.zip us) q = none)
  | [], xs, us, hl, r => by
    have : us = [] := List.length_eq_zero_iff.mp (by simpa using hl)
    subst this
    refine ⟨fun x h => ?_, fun _ => rfl⟩
    cases xs <;> simp [dLook] at h
  | k :: kk, xs, us, hl, r => by
    cases us with
    | nil => simp at hl
    | cons u us =>
      cases xs with
      | nil => rw [RelL] at r; cases r
      | cons x xs =>
        rw [RelL] at r
        obtain ⟨u', vs, e, r1, r2⟩ := r
        cases e
        have ih := dLook_k (q := q) (kk := kk) (xs := xs) (us := us) (by simpa using hl) r2
        rw [List.map_cons, List.zip_cons_cons, valV_cons]
        show (∀ y, (if (PK.k k) = PK.k q then some x else dLook (kk.map PK.k) xs (.k q)) = some y → _) ∧ ((if (PK.k k) = PK.k q then some x else dLook (kk.map PK.k) xs (.k q)) = none → _)
        by_cases h : k = q
        · subst h
          simp only [if_true]
          exact ⟨fun y hy => by cases hy; exact ⟨u, rfl, r1⟩, fun z => by cases z⟩
        · have h' : ¬ (PK.k k = PK.k q) := fun z => h (by injection z)
          rw [if_neg h', if_neg h]
          exact ih
theorem dLook_t {q : List Key} : ∀ {kk : List (List Key)} {xs : List PV} {us : List V}, us.length = kk.length → RelL T K R F xs us →
    (∀ x, dLook (kk.map PK.t) xs (.t q) = some x → ∃ u, valV (kk.zip us) q = some u ∧ Rel T K R F x u) ∧ (dLook (kk.map PK.t) xs (.t q) = none → valV (kk.zip us) q = none)
  | [], xs, us, hl, r => by
    have : us = [] := List.length_eq_zero_iff.mp (by simpa using hl)
    subst this
    refine ⟨fun x h => ?_, fun _ => rfl⟩
    cases xs <;> simp [dLook] at h
  | k :: kk, xs, us, hl, r => by
    cases us with
    | nil => simp at hl
    | cons u us =>
      cases xs with
      | nil => rw [RelL] at r; cases r
      | cons x xs =>
        rw [RelL] at r
        obtain ⟨u', vs, e, r1, r2⟩ := r
        cases e
        have ih := dLook_t (q := q) (kk := kk) (xs := xs) (us := us) (by simpa using hl) r2
        rw [List.map_cons, List.zip_cons_cons, valV_cons]
        show (∀ y, (if (PK.t k) = PK.t q then some x else dLook (kk.map PK.t) xs (.t q)) = some y → _) ∧ ((if (PK.t k) = PK.t q then some x else dLook (kk.map PK.t) xs (.t q)) = none → _)
        by_cases h : k = q
        · subst h
          simp only [if_true]
          exact ⟨fun y hy => by cases hy; exact ⟨u, rfl, r1⟩, fun z => by cases z⟩
        · have h' : ¬ (PK.t k = PK.t q) := fun z => h (by injection z)
          rw [if_neg h', if_neg h]
          exact ih
/-- what a dict holds at a key -/
theorem dict_get (r : Rep T K R F S H) {d k : PV} {u w : V} (rd : Rel T K R F d u) (rk : Rel T K R F k w) {t : Bool} {ks : List PK} {xs : List PV} {q : PK} (hv : view d S = some (.dct t ks, xs)) (hk : keyOf k = some q) (hf : q.fits t = true) :
    ∃ a o, u = .ref a ∧ DGet H a w o ∧ (∀ x, dLook ks xs q = some x → ∃ v, o = some v ∧ Rel T K R F x v) ∧ (dLook ks xs q = none → o = none) := by
  obtain ⟨a, us, rfl, hs, hl⟩ := view_rel r rd hv
  cases t with
  | false =>
    obtain ⟨h0, kk, rfl, h2⟩ := hs
    cases q with
    | t _ => exact absurd hf Bool.false_ne_true
    | k q =>
      have ew : w = kV q := by
        cases k with
        | int i => cases hk; exact rel_int rk
        | str i => cases hk; exact rel_str rk
        | nd kd ys => cases kd <;> simp [keyOf] at hk
        | _ => cases hk
      subst ew
      have hd := dLook_k (q := q) (by rw [h0, List.length_map]) hl
      refine ⟨a, valV (kk.zip us) q, rfl, .inl ⟨_, q, h2, rfl, rfl⟩, fun x hx => hd.1 x hx, hd.2⟩
  | true =>
    obtain ⟨h0, kk, rfl, h2⟩ := hs
    cases q with
    | k _ => exact absurd hf Bool.false_ne_true
    | t q =>
      cases k with
      | nd kd ys =>
        cases kd with
        | tup =>
          rw [keyOf, Option.map_eq_some_iff] at hk
          obtain ⟨q', hq, e⟩ := hk
          cases e
          rw [Rel] at rk
          obtain ⟨b, ws, rfl, hb, hbl⟩ := rk
          have eb := flatKeys_rel hbl hq
          subst eb
          have hd := dLook_t (q := q) (by rw [h0, List.length_map]) hl
          exact ⟨a, valV (kk.zip us) q, rfl, .inr ⟨_, q, b, h2, rfl, r.ex.at_ hb, rfl⟩, fun x hx => hd.1 x hx, hd.2⟩
        | _ => simp [keyOf] at hk
      | _ => cases hk
end

/-! ### subscripts -/
def subZ (x y : PV) (S : Sto) : Out PV := match x with
  | .str z => (match y with
    | .int i => if z.length ≤ 16777216 then (match atI z.cps.toList i with
      | some c => .ok (.str ⟨#[c]⟩) S
      | none => .bad) else .bad
    | _ => .bad)
  | x => match view x S with
    | some (.dct t ks, xs) => (match keyOf y with
      | some q => if q.fits t = true then (match dLook ks xs q with
        | some v => .ok v S
        | none => .bad) else .bad
      | none => .bad)
    | some (.lst, xs) => (match y with
      | .int i => (match atI xs i with
        | some v => .ok v S
        | none => .bad)
      | _ => .bad)
    | some (.scr, xs) => (match y with
      | .int i => (match atI xs i with
        | some v => .ok v S
        | none => .bad)
      | _ => .bad)
    | some (.tup, xs) => (match y with
      | .int i => (match atI xs i with
        | some v => .ok v S
        | none => .bad)
      | _ => .bad)
    | _ => .bad
def rIxG : R2 := fun x y H Q => ∃ a v, x = .ref a ∧ DGet H a y (some v) ∧ Q v H
section
variable {T : Tb} {X : Cx} {K : PySem.W.Frag} {R : Pl} {F H : Hp} {S : Sto} {E : XS} {a b : Expr} {da db : DE} {pos : Pos}
theorem ix_dct (hu : X.A.units + 1 < cLine) : IxR X rIxG := by
  intro value slice pins s σ H x y v u Q I rx ry h hs
  obtain ⟨a, z, rfl, g, q⟩ := h
  obtain rfl : v = Value.ref a := rx
  exact PyProof.Rows.tail_any (dict_typeIs I g) PySem.F.slot_dict_getitem.lookup (d_getItem hu I g ry fun w' s3 I3 rw' => ⟨z, H, I3, rw', q⟩) hs
theorem atI_rel {xs : List PV} {us : List V} {i : Int} {x : PV} (h : RelL T K R F xs us) (e : atI xs i = some x) : ∃ u, atI us i = some u ∧ Rel T K R F x u := by
  unfold atI at e ⊢
  rw [h.length]
  rw [Option.bind_eq_some_iff] at e
  obtain ⟨j, h1, h2⟩ := e
  obtain ⟨u, h3, h4⟩ := h.get h2
  exact ⟨u, by rw [h1]; exact h3, h4⟩
abbrev rSubZ (K : PySem.W.Frag) : R2 := fun x y H Q => rIx K x y H Q ∨ rIxG x y H Q
theorem oz_sub' : OpZ T K subZ (rSubZ K) := by
  intro E R F H S x y u w Q r rx ry h
  cases x with
  | str z =>
    have := rel_str rx; subst this
    cases y with
    | int i =>
      have := rel_int ry; subst this
      simp only [subZ] at h
      split at h
      · rename_i hz
        split at h
        · rename_i c hc
          exact .inl (.inr (.inr ⟨z, i, c, rfl, rfl, sz16 hz, hc, PostV.here r (by rw [Rel]) h⟩))
        · exact h.elim
      · exact h.elim
    | _ => exact h.elim
  | _ =>
    all_goals
      simp only [subZ] at h
      split at h
      · rename_i t ks xs hv
        split at h
        · rename_i q hk
          split at h
          · rename_i hf
            split at h
            · rename_i v hd
              obtain ⟨a, o, ea, hg, h1, h2⟩ := dict_get r rx ry hv hk hf
              obtain ⟨v', eo, rv⟩ := h1 v hd
              subst eo
              exact .inr ⟨a, v', ea, hg, PostV.here r rv h⟩
            · exact h.elim
          · exact h.elim
        · exact h.elim
      · rename_i xs hv
        obtain ⟨a, us, ea, hs, hl⟩ := view_rel r rx hv
        cases y with
        | int i =>
          have := rel_int ry; subst this
          simp only at h
          split at h
          · rename_i v hi
            obtain ⟨v', h1, rv⟩ := atI_rel hl hi
            exact .inl (.inl ⟨a, us, i, v', ea, rfl, (shp_rd hs).1 (.inl rfl), h1, PostV.here r rv h⟩)
          · exact h.elim
        | _ => exact h.elim
      · rename_i xs hv
        obtain ⟨a, us, ea, hs, hl⟩ := view_rel r rx hv
        cases y with
        | int i =>
          have := rel_int ry; subst this
          simp only at h
          split at h
          · rename_i v hi
            obtain ⟨v', h1, rv⟩ := atI_rel hl hi
            exact .inl (.inl ⟨a, us, i, v', ea, rfl, (shp_rd hs).1 (.inr rfl), h1, PostV.here r rv h⟩)
          · exact h.elim
        | _ => exact h.elim
      · rename_i xs hv
        obtain ⟨a, us, ea, hs, hl⟩ := view_rel r rx hv
        cases y with
        | int i =>
          have := rel_int ry; subst this
          simp only at h
          split at h
          · rename_i v hi
            obtain ⟨v', h1, rv⟩ := atI_rel hl hi
            exact .inl (.inr (.inl ⟨a, us, i, v', ea, rfl, (shp_rd hs).2 rfl, h1, PostV.here r rv h⟩))
          · exact h.elim
        | _ => exact h.elim
      · exact h.elim
theorem je_sub (hu : X.A.units + 1 < cLine) (ha : JE T X E a da) (hb : JE T X E b db) (hs : PlainIx b := by intro _ _; rfl) : JE T X E (.Subscript a b pos) (dBin subZ da db) :=
  pe_imp (pe_ix (IxR.or ix_seq (ix_dct hu)) ha hb hs) fun _ _ _ h => bin_tOp oz_sub' h

/-! ### slices -/
abbrev DO := Loc → Sto → Out (Option Int)
def dNone : DO := fun _ S => .ok none S
def asI (o : Out PV) : Out (Option Int) := o.bind fun x S => match x with
  | .int i => .ok (some i) S
  | _ => .bad
def dSome (a : DE) : DO := fun l S => asI (a l S)
def cutP (xs : List PV) (lo hi : Option Int) : List PV := (xs.drop (HT.sIx xs.length 0 lo)).take (HT.sIx xs.length xs.length hi - HT.sIx xs.length 0 lo)
def sliZ (x : PV) (lo hi : Option Int) (S : Sto) : Out PV := match x with
  | .str z => if z.length ≤ 16777216 then .ok (.str (cutS z lo hi)) S else .bad
  | x => match view x S with
    | some (.lst, xs) => .ok (.nd .lst (cutP xs lo hi)) S
    | some (.scr, xs) => .ok (.nd .lst (cutP xs lo hi)) S
    | some (.tup, xs) => .ok (.nd .tup (cutP xs lo hi)) S
    | _ => .bad
def dSli (a : DE) (lo hi : DO) : DE := fun l S => (a l S).bind fun x S1 => (lo l S1).bind fun p S2 => (hi l S2).bind fun q S3 => sliZ x p q S3
def PostO (T : Tb) (K : PySem.W.Frag) (R : Pl) (F : Hp) (o : Out (Option Int)) (Q : Option Int → Hp → Prop) (E : XK) : Prop := match o with
  | .ok v S => ∀ R' F' H, Pl.le R R' → Ex F F' → Rep T K R' F' S H → Q v H
  | .err e S => PostX T K R F e S E
  | .bad => False
def tO (T : Tb) (K : PySem.W.Frag) (E : XS) (d : DO) : TO := fun σ H Q => ∃ R F l S, Rep T K R F S H ∧ RelE T K R F l σ ∧ PostO T K R F (d l S) Q (E σ)
abbrev JO (T : Tb) (X : Cx) (E : XS) (e : Option Expr) (d : DO) : Prop := PO X e (tO T X.K E d)
theorem jo_none : JO T X E none dNone := ⟨fun pins s σ H Q I ⟨R, F, l, S, r, e, h⟩ => po_none.run pins s σ H Q I (h R F H (Pl.refl R) (Ex.refl F) r)⟩
theorem jo_some {e : Expr} {d : DE} (he : JE T X E e d) : JO T X E (some e) (dSome d) := by
  refine ⟨fun pins s σ H Q I ⟨R, F, l, S, r, e, h⟩ => (po_some he).run pins s σ H Q I ⟨R, F, l, S, r, e, ?_⟩⟩
  have h : PostO T X.K R F (asI (d l S)) Q (E σ) := h
  cases hd : d l S with
  | ok x S1 =>
    rw [hd] at h
    intro R1 F1 H1 u p ex r1 rx
    cases x with
    | int i => exact ⟨i, rel_int rx, h R1 F1 H1 p ex r1⟩
    | _ => exact h.elim
  | err e' S1 => rw [hd] at h; exact h
  | bad => rw [hd] at h; exact h
theorem seqO {β : Type} {σ : L2.St} {l : Loc} (G : Go T K (E σ) β) {d : DO} {k : Option Int → Sto → Out β} {C : Option Int → Hp → Prop} (r : Rep T K R F S H) (e : RelE T K R F l σ) (h : G.ok R F ((d l S).bind k))
    (hk : ∀ (x : Option Int) (S1 : Sto) (R1 : Pl) (F1 H1 : Hp), Pl.le R R1 → Ex F F1 → Rep T K R1 F1 S1 H1 → RelE T K R1 F1 l σ → G.ok R1 F1 (k x S1) → C x H1) : tO T K E d σ H C := by
  refine ⟨R, F, l, S, r, e, ?_⟩
  cases hd : d l S with
  | ok x S1 =>
    rw [hd] at h
    exact fun R1 F1 H1 p x' r1 => hk x S1 R1 F1 H1 p x' r1 (e.mono p x') (G.mono p x' h)
  | err e' S1 => rw [hd] at h; exact G.err h
  | bad => rw [hd] at h; exact G.bad h
theorem cut_rel {xs : List PV} {us : List V} (h : RelL T K R F xs us) (lo hi : Option Int) : RelL T K R F (cutP xs lo hi) (cutV us lo hi) := by
  unfold cutP cutV
  rw [h.length]
  exact (h.drop _).take _
theorem cut_all {us : List V} {lo hi : Option Int} (h : HT.sIx us.length 0 lo = 0 ∧ HT.sIx us.length us.length hi = us.length) {xs : List PV} (e : us.length = xs.length) : cutP xs lo hi = xs := by
  unfold cutP
  rw [← e, h.1, h.2]
  simp [e]
theorem je_sli {o : Expr} {lo hi : Option Expr} {d : DE} {dl dh : DO} {p2 : Pos} (ho : JE T X E o d) (hl : JO T X E lo dl) (hh : JO T X E hi dh) : JE T X E (.Subscript o (.Slice lo hi none p2) pos) (dSli d dl dh) := by
  refine pe_imp (pe_slice (SlR.or sl_list (SlR.or sl_tupA sl_str)) ho hl hh) fun σ H Q ⟨R, F, l, S, r, e, h⟩ => ?_
  refine seqV (goV T X.K (E σ) Q) r e h fun x S1 R1 F1 H1 u p ex r1 rx e1 h1 => ?_
  refine seqO (goV T X.K (E σ) Q) r1 e1 h1 fun i S2 R2 F2 H2 p2 ex2 r2 e2 h2 => ?_
  refine seqO (goV T X.K (E σ) Q) r2 e2 h2 fun j S3 R3 F3 H3 p3 ex3 r3 e3 h3 => ?_
  have rx := (rx.mono p2 ex2).mono p3 ex3
  have h3 : OkV T X.K R3 F3 (sliZ x i j S3) Q (E σ) := h3
  cases x with
  | str z =>
    have := rel_str rx; subst this
    simp only [sliZ] at h3
    split at h3
    · rename_i hz
      exact .inr (.inr ⟨z, rfl, sz16 hz, PostV.here r3 (by rw [Rel]) h3⟩)
    · exact h3.elim
  | _ =>
    all_goals
      simp only [sliZ] at h3
      split at h3
      · rename_i xs hv
        obtain ⟨a, us, ea, hs, hl⟩ := view_rel r3 rx hv
        exact .inl ⟨a, us, ea, (shp_rd hs).1 (.inl rfl), fun p hp => PostV.new (k := .lst) r3 hp upd_same (cut_rel hl _ _) h3⟩
      · rename_i xs hv
        obtain ⟨a, us, ea, hs, hl⟩ := view_rel r3 rx hv
        exact .inl ⟨a, us, ea, (shp_rd hs).1 (.inr rfl), fun p hp => PostV.new (k := .lst) r3 hp upd_same (cut_rel hl _ _) h3⟩
      · rename_i xs hv
        obtain ⟨a, us, ea, hs, hl⟩ := view_rel r3 rx hv
        refine .inr (.inl ⟨a, us, ea, (shp_rd hs).2 rfl, fun hw => ?_, fun _ p hp => PostV.new (k := .tup) r3 hp upd_same (cut_rel hl _ _) h3⟩)
        rw [cut_all hw hl.length] at h3
        have ex := tup_nd r3 rx hv
        rw [ex] at rx
        rw [← ea]
        exact PostV.here r3 rx h3
      · exact h3.elim
end
end Z
end
section
set_option Elab.async false
set_option linter.all false
set_option maxRecDepth 100000
set_option maxHeartbeats 1000000
/-! Z6: calls of built-ins. -/
namespace Z
open PySem PySem.Spec PyProof.Rows L2

/-- what a derivation may lean on at a place of a def -/
structure Cg (X : Cx) (E : XS) (k : Nat) : Prop where
  calm : X.calm = true
  nd : X.N.Nodup
  room : Room k X.A
  gd : X.A.guards = some []
  takes : Takes X (fun cls d σ H => E σ cls d H)
  own : PassesOwn (model X.prog X.w) X.A X.env X.xe
theorem Cg.pass {X : Cx} {E : XS} {k : Nat} (c : Cg X E k) (pins : List (Addr × Obj)) (σ : L2.St) (H : Hp) (s : Shared) (e : Value) (s' : Shared) (I : Inv X pins σ H s) (q : L2.CX X.prog X.w X.stack H s (E σ) e s') : X.xe e s' :=
  c.takes e s' (XE.of_call I (fun _ _ _ h => h) q)
theorem Cg.hu {X : Cx} {E : XS} {k : Nat} (c : Cg X E k) : X.A.units + 64 < cLine := c.room.units
theorem Cg.hu1 {X : Cx} {E : XS} {k : Nat} (c : Cg X E k) : X.A.units + 1 < cLine := by have := c.hu; omega

/-- a built-in's answer by values, and the layer's reading of it -/
def CalZ (T : Tb) (K : PySem.W.Frag) (f : List PV → Sto → Out PV) (r : List V → Hp → VK → Prop) : Prop := ∀ (E : XK) (R : Pl) (F H : Hp) (S : Sto) (xs : List PV) (us : List V) (Q : VK), Rep T K R F S H → RelL T K R F xs us → OkV T K R F (f xs S) Q E → r us H Q
def dApp (f : List PV → Sto → Out PV) (ar : DA) : DE := fun l S => (ar l S).bind fun xs S1 => f xs S1
section
variable {T : Tb} {X : Cx} {E : XS} {e : Expr} {es : List Expr} {ar : DA} {p pos : Pos} {f : List PV → Sto → Out PV} {r : List V → Hp → VK → Prop} {x : Str}
theorem app_tCB (hz : CalZ T X.K f r) {σ : L2.St} {H : Hp} {Q : VK} (h : tV T X.K E (dApp f ar) σ H Q) : tCB r (tL T X.K E ar) σ H Q := by
  obtain ⟨R, F, l, S, re, e, h⟩ := h
  exact seqL (goV T X.K (E σ) Q) re e h fun xs S1 R1 F1 H1 us p ex r1 rx e1 h1 => hz (E σ) R1 F1 H1 S1 xs us Q r1 rx h1
theorem je_callB {id : String} (hc : CallR X (.builtin id) r) (hz : CalZ T X.K f r) (hm : X.mg x = none) (ha : JA T X E (e :: es) ar) (hg : Gl X x := by rfl) (hv : bootBuiltins x = some (.builtin id) := by rfl) (hn : x ≠ "__name__" := by decide) (hdb : (x == ("__debug__" : Str)) = false := by decide)
    (he : starEach (e :: es) X.env = (false, eval e X.env) :: starEach es X.env := by rfl) (hpl : (backTo pos (starEach es X.env)).any (·.1) = false := by rfl) : JE T X E (.Call (.Name x p) (e :: es) [] pos) (dApp f ar) :=
  pe_imp (pe_callB hc hg hm hv ha hn hdb he hpl) fun _ _ _ h => app_tCB hz h
theorem je_callT {n : String} (hc : CallR X (.type n) r) (hz : CalZ T X.K f r) (hm : X.mg x = none) (ha : JA T X E (e :: es) ar) (hg : Gl X x := by rfl) (hv : bootBuiltins x = some (.type n) := by rfl) (hn : x ≠ "__name__" := by decide) (hdb : (x == ("__debug__" : Str)) = false := by decide)
    (he : starEach (e :: es) X.env = (false, eval e X.env) :: starEach es X.env := by rfl) (hpl : (backTo pos (starEach es X.env)).any (·.1) = false := by rfl) : JE T X E (.Call (.Name x p) (e :: es) [] pos) (dApp f ar) :=
  pe_imp (pe_callTy hc hg hm hv ha hn hdb he hpl) fun _ _ _ h => app_tCB hz h
end
section
variable {T : Tb} {K : PySem.W.Frag} {R : Pl} {F H : Hp} {S : Sto}
theorem rel1 {x : PV} {us : List V} (h : RelL T K R F [x] us) : ∃ u, us = [u] ∧ Rel T K R F x u := by
  rw [RelL] at h
  obtain ⟨u, r, rfl, h1, h2⟩ := h
  rw [RelL] at h2
  subst h2
  exact ⟨u, rfl, h1⟩
theorem rel2 {x y : PV} {us : List V} (h : RelL T K R F [x, y] us) : ∃ u w, us = [u, w] ∧ Rel T K R F x u ∧ Rel T K R F y w := by
  rw [RelL] at h
  obtain ⟨u, r, rfl, h1, h2⟩ := h
  obtain ⟨w, rfl, h3⟩ := rel1 h2
  exact ⟨u, w, rfl, h1, h3⟩
end

/-! ### len -/
def lenP (xs : List PV) (S : Sto) : Out PV := match xs with
  | [.str z] => if z.length ≤ 16777216 then .ok (.int z.length) S else .bad
  | [x] => (match view x S with
    | some (.lst, ys) => .ok (.int ys.length) S
    | some (.scr, ys) => .ok (.int ys.length) S
    | some (.tup, ys) => .ok (.int ys.length) S
    | some (.dct _ ks, _) => .ok (.int ks.length) S
    | _ => .bad)
  | _ => .bad
def rLenRK : List V → Hp → VK → Prop := fun xs H Q => ∃ (a : Addr) (kvs : List (Key × V)), xs = [V.ref a] ∧ Rd H a (.dK kvs) ∧ Q (.int ((kvs.length : Nat) : Int)) H
def rLenRT : List V → Hp → VK → Prop := fun xs H Q => ∃ (a : Addr) (kvs : List (List Key × V)), xs = [V.ref a] ∧ Rd H a (.dT kvs) ∧ Q (.int ((kvs.length : Nat) : Int)) H
theorem call_lenRK {X : Cx} : CallR X (.builtin "len") rLenRK := by
  rintro pins s σ H xs us Q I r ⟨a, kvs, rfl, ha, q⟩
  cases r with
  | cons rx rr =>
    cases rr
    cases rx
    exact d_len I ha fun t s' I' => ⟨.int ((kvs.length : Nat) : Int), H, I', ⟨t, rfl⟩, q⟩
theorem call_lenRT {X : Cx} : CallR X (.builtin "len") rLenRT := by
  rintro pins s σ H xs us Q I r ⟨a, kvs, rfl, ha, q⟩
  cases r with
  | cons rx rr =>
    cases rr
    cases rx
    obtain ⟨z, hd, ys, rel, dd⟩ := dt_rd I.hok ha
    have e := Paired.length rel
    have hz : (ys.length : Int) < 2 ^ 63 := by
      rw [sizeLine_eq, e] at z
      omega
    refine call_len_dictH hd dd hz ⟨.int ((kvs.length : Nat) : Int), H, I.tok _, ⟨s.toks + 1, ?_⟩, q⟩
    rw [e]
abbrev rLenZ (K : PySem.W.Frag) : List V → Hp → VK → Prop := fun xs H Q => (∃ x n, xs = [x] ∧ LenV K x H n ∧ Q (.int n) H) ∨ (rLenRK xs H Q ∨ rLenRT xs H Q)
theorem cr_len {X : Cx} : CallR X (.builtin "len") (rLenZ X.K) := CallR.or call_len (CallR.or call_lenRK call_lenRT)
section
variable {T : Tb} {K : PySem.W.Frag}
theorem cz_len : CalZ T K lenP (rLenZ K) := by
  intro E R F H S xs us Q r rx h
  unfold lenP at h
  split at h
  · obtain ⟨u, rfl, r1⟩ := rel1 rx
    have := rel_str r1; subst this
    split at h
    · rename_i hz
      exact .inl ⟨_, _, rfl, ⟨sz16 hz, rfl⟩, PostV.here r (by rw [Rel]) h⟩
    · exact h.elim
  · obtain ⟨u, rfl, r1⟩ := rel1 rx
    split at h
    · rename_i ys hv
      obtain ⟨a, us, rfl, hs, hl⟩ := view_rel r r1 hv
      exact .inl ⟨_, ys.length, rfl, .inl ⟨us, (shp_rd hs).1 (.inl rfl), hl.length.symm⟩, PostV.here r (by rw [Rel]) h⟩
    · rename_i ys hv
      obtain ⟨a, us, rfl, hs, hl⟩ := view_rel r r1 hv
      exact .inl ⟨_, ys.length, rfl, .inl ⟨us, (shp_rd hs).1 (.inr rfl), hl.length.symm⟩, PostV.here r (by rw [Rel]) h⟩
    · rename_i ys hv
      obtain ⟨a, us, rfl, hs, hl⟩ := view_rel r r1 hv
      exact .inl ⟨_, ys.length, rfl, .inr ⟨us, (shp_rd hs).2 rfl, hl.length.symm⟩, PostV.here r (by rw [Rel]) h⟩
    · rename_i t ks ys hv
      obtain ⟨a, us, rfl, hs, hl⟩ := view_rel r r1 hv
      cases t with
      | false =>
        obtain ⟨h0, kk, rfl, h2⟩ := hs
        rw [List.length_map] at h0
        refine .inr (.inl ⟨a, _, rfl, h2, PostV.here r (v := .int (kk.map PK.k).length) ?_ h⟩)
        rw [Rel, List.length_zip, h0, List.length_map, Nat.min_self]
      | true =>
        obtain ⟨h0, kk, rfl, h2⟩ := hs
        rw [List.length_map] at h0
        refine .inr (.inr ⟨a, _, rfl, h2, PostV.here r (v := .int (kk.map PK.t).length) ?_ h⟩)
        rw [Rel, List.length_zip, h0, List.length_map, Nat.min_self]
    · exact h.elim
  · exact h.elim

/-! ### int, abs, bool -/
def intP (xs : List PV) (S : Sto) : Out PV := match xs with
  | [.int i] => .ok (.int i) S
  | [.bl b] => .ok (.int (if b then 1 else 0)) S
  | _ => .bad
theorem cz_int : CalZ T K intP (fun xs H Q => (∃ i, xs = [.int i] ∧ Q (.int i) H) ∨ ∃ k, xs = [.bl k] ∧ Q (.int (if k then 1 else 0)) H) := by
  intro E R F H S xs us Q r rx h
  unfold intP at h
  split at h
  · obtain ⟨u, rfl, r1⟩ := rel1 rx
    have := rel_int r1; subst this
    exact .inl ⟨_, rfl, PostV.here r (by rw [Rel]) h⟩
  · obtain ⟨u, rfl, r1⟩ := rel1 rx
    have := rel_bl r1; subst this
    exact .inr ⟨_, rfl, PostV.here r (by rw [Rel]) h⟩
  · exact h.elim
def absP (xs : List PV) (S : Sto) : Out PV := match xs with
  | [.int i] => .ok (.int (if i < 0 then -i else i)) S
  | _ => .bad
theorem cz_abs : CalZ T K absP (fun xs H Q => ∃ i, xs = [.int i] ∧ Q (.int (if i < 0 then -i else i)) H) := by
  intro E R F H S xs us Q r rx h
  unfold absP at h
  split at h
  · obtain ⟨u, rfl, r1⟩ := rel1 rx
    have := rel_int r1; subst this
    exact ⟨_, rfl, PostV.here r (by rw [Rel]) h⟩
  · exact h.elim

/-! ### list, tuple -/
def listP (xs : List PV) (S : Sto) : Out PV := match xs with
  | [x] => (match view x S with
    | some (.lst, ys) => .ok (.nd .lst ys) S
    | some (.scr, ys) => .ok (.nd .lst ys) S
    | some (.tup, ys) => .ok (.nd .lst ys) S
    | _ => .bad)
  | _ => .bad
abbrev rListZ (K : PySem.W.Frag) : List V → Hp → VK → Prop := fun xs H Q => ∃ p ys, xs = [.ref p] ∧ (SqL K H p ys ∨ SqT K H p ys) ∧ ∀ l, H l = none → Q (.ref l) (upd H l (.lst ys))
theorem cz_list : CalZ T K listP (rListZ K) := by
  intro E R F H S xs us Q r rx h
  unfold listP at h
  split at h
  · obtain ⟨u, rfl, r1⟩ := rel1 rx
    split at h
    · rename_i ys hv
      obtain ⟨a, us, rfl, hs, hl⟩ := view_rel r r1 hv
      exact ⟨a, us, rfl, .inl ((shp_rd hs).1 (.inl rfl)), fun p hp => PostV.new (k := .lst) r hp upd_same hl h⟩
    · rename_i ys hv
      obtain ⟨a, us, rfl, hs, hl⟩ := view_rel r r1 hv
      exact ⟨a, us, rfl, .inl ((shp_rd hs).1 (.inr rfl)), fun p hp => PostV.new (k := .lst) r hp upd_same hl h⟩
    · rename_i ys hv
      obtain ⟨a, us, rfl, hs, hl⟩ := view_rel r r1 hv
      exact ⟨a, us, rfl, .inr ((shp_rd hs).2 rfl), fun p hp => PostV.new (k := .lst) r hp upd_same hl h⟩
    · exact h.elim
  · exact h.elim
def tupP (xs : List PV) (S : Sto) : Out PV := match xs with
  | [x] => (match view x S with
    | some (.lst, ys) => .ok (.nd .tup ys) S
    | some (.scr, ys) => .ok (.nd .tup ys) S
    | some (.tup, _) => .ok x S
    | _ => .bad)
  | _ => .bad
theorem cz_tup : CalZ T K tupP (fun xs H Q => ∃ p ys, xs = [.ref p] ∧ ((SqL K H p ys ∧ ∀ l, H l = none → Q (.ref l) (upd H l (.tup ys))) ∨ (SqT K H p ys ∧ Q (.ref p) H))) := by
  intro E R F H S xs us Q r rx h
  unfold tupP at h
  split at h
  · obtain ⟨u, rfl, r1⟩ := rel1 rx
    split at h
    · rename_i ys hv
      obtain ⟨a, us, rfl, hs, hl⟩ := view_rel r r1 hv
      exact ⟨a, us, rfl, .inl ⟨(shp_rd hs).1 (.inl rfl), fun p hp => PostV.new (k := .tup) r hp upd_same hl h⟩⟩
    · rename_i ys hv
      obtain ⟨a, us, rfl, hs, hl⟩ := view_rel r r1 hv
      exact ⟨a, us, rfl, .inl ⟨(shp_rd hs).1 (.inr rfl), fun p hp => PostV.new (k := .tup) r hp upd_same hl h⟩⟩
    · rename_i ys hv
      obtain ⟨a, us, rfl, hs, hl⟩ := view_rel r r1 hv
      exact ⟨a, us, rfl, .inr ⟨(shp_rd hs).2 rfl, PostV.here r r1 h⟩⟩
    · exact h.elim
  · exact h.elim

/-! ### sum, any, all -/
def asIs : List PV → Option (List Int)
  | [] => some []
  | .int i :: xs => (asIs xs).map fun r => i :: r
  | _ :: _ => none
def asBs : List PV → Option (List Bool)
  | [] => some []
  | .bl i :: xs => (asBs xs).map fun r => i :: r
  | _ :: _ => none
theorem asIs_rel {R : Pl} {F : Hp} : ∀ {xs : List PV} {us : List V} {ns : List Int}, RelL T K R F xs us → asIs xs = some ns → us = ns.map V.int
  | [], us, ns, r, h => by cases h; rw [RelL] at r; exact r
  | x :: xs, us, ns, r, h => by
    rw [RelL] at r
    obtain ⟨u, vs, rfl, r1, r2⟩ := r
    cases x with
    | int i =>
      rw [asIs, Option.map_eq_some_iff] at h
      obtain ⟨ns', h1, rfl⟩ := h
      rw [rel_int r1, asIs_rel r2 h1]; rfl
    | _ => cases h
theorem asBs_rel {R : Pl} {F : Hp} : ∀ {xs : List PV} {us : List V} {ns : List Bool}, RelL T K R F xs us → asBs xs = some ns → us = ns.map V.bl
  | [], us, ns, r, h => by cases h; rw [RelL] at r; exact r
  | x :: xs, us, ns, r, h => by
    rw [RelL] at r
    obtain ⟨u, vs, rfl, r1, r2⟩ := r
    cases x with
    | bl i =>
      rw [asBs, Option.map_eq_some_iff] at h
      obtain ⟨ns', h1, rfl⟩ := h
      rw [rel_bl r1, asBs_rel r2 h1]; rfl
    | _ => cases h
/-- the items of a list -/
def lstOf (x : PV) (S : Sto) : Option (List PV) := match view x S with
  | some (.lst, ys) => some ys
  | some (.scr, ys) => some ys
  | _ => none
theorem lstOf_rel {R : Pl} {F H : Hp} {S : Sto} (r : Rep T K R F S H) {x : PV} {u : V} (h : Rel T K R F x u) {ys : List PV} (e : lstOf x S = some ys) : ∃ a us, u = .ref a ∧ SqL K H a us ∧ RelL T K R F ys us := by
  unfold lstOf at e
  split at e
  · rename_i zs hv
    cases e
    obtain ⟨a, us, rfl, hs, hl⟩ := view_rel r h hv
    exact ⟨a, us, rfl, (shp_rd hs).1 (.inl rfl), hl⟩
  · rename_i zs hv
    cases e
    obtain ⟨a, us, rfl, hs, hl⟩ := view_rel r h hv
    exact ⟨a, us, rfl, (shp_rd hs).1 (.inr rfl), hl⟩
  · cases e
def sumP (xs : List PV) (S : Sto) : Out PV := match xs with
  | [x] => (match (lstOf x S).bind asIs with
    | some ns => .ok (.int ns.sum) S
    | none => .bad)
  | _ => .bad
def anyP (xs : List PV) (S : Sto) : Out PV := match xs with
  | [x] => (match (lstOf x S).bind asBs with
    | some bs => .ok (.bl (bs.any id)) S
    | none => .bad)
  | _ => .bad
def allP (xs : List PV) (S : Sto) : Out PV := match xs with
  | [x] => (match (lstOf x S).bind asBs with
    | some bs => .ok (.bl (bs.all id)) S
    | none => .bad)
  | _ => .bad
theorem cz_sum : CalZ T K sumP (rSum K) := by
  intro E R F H S xs us Q r rx h
  unfold sumP at h
  split at h
  · obtain ⟨u, rfl, r1⟩ := rel1 rx
    split at h
    · rename_i ns hv
      rw [Option.bind_eq_some_iff] at hv
      obtain ⟨ys, h1, h2⟩ := hv
      obtain ⟨a, us, rfl, hs, hl⟩ := lstOf_rel r r1 h1
      have := asIs_rel hl h2; subst this
      exact ⟨a, ns, rfl, hs, PostV.here r (by rw [Rel]) h⟩
    · exact h.elim
  · exact h.elim
theorem cz_any : CalZ T K anyP (rAny K) := by
  intro E R F H S xs us Q r rx h
  unfold anyP at h
  split at h
  · obtain ⟨u, rfl, r1⟩ := rel1 rx
    split at h
    · rename_i ns hv
      rw [Option.bind_eq_some_iff] at hv
      obtain ⟨ys, h1, h2⟩ := hv
      obtain ⟨a, us, rfl, hs, hl⟩ := lstOf_rel r r1 h1
      have := asBs_rel hl h2; subst this
      exact ⟨a, ns, rfl, hs, PostV.here r (by rw [Rel]) h⟩
    · exact h.elim
  · exact h.elim
theorem cz_all : CalZ T K allP (rAll K) := by
  intro E R F H S xs us Q r rx h
  unfold allP at h
  split at h
  · obtain ⟨u, rfl, r1⟩ := rel1 rx
    split at h
    · rename_i ns hv
      rw [Option.bind_eq_some_iff] at hv
      obtain ⟨ys, h1, h2⟩ := hv
      obtain ⟨a, us, rfl, hs, hl⟩ := lstOf_rel r r1 h1
      have := asBs_rel hl h2; subst this
      exact ⟨a, ns, rfl, hs, PostV.here r (by rw [Rel]) h⟩
    · exact h.elim
  · exact h.elim
end

/-! ### repr of data -/

/-! ### isinstance by built-in types -/
inductive TyR (K : PySem.W.Frag) (H : Hp) : V → Value → Prop where
  | base {x : V} {t : Value} (h : TyX K H x t) : TyR K H x t
  | rT {a : Addr} {kvs : List (List Key × V)} (h : Rd H a (.dT kvs)) : TyR K H (.ref a) (.type "dict")
  | exn {a C : Addr} {d : Option Addr} (h : H a = some (EXV C d a)) (hd : d = none ∨ ∃ dd fs, d = some dd ∧ H dd = some (.xd fs)) (O : ExcC K C) : TyR K H (.ref a) (.ref C)
theorem exv_inst {X : Cx} {pins : List (Addr × Obj)} {σ : L2.St} {H : Hp} {s : Shared} {a C : Addr} {d : Option Addr} (I : Inv X pins σ H s) (h : H a = some (EXV C d a)) (hd : d = none ∨ ∃ dd fs, d = some dd ∧ H dd = some (.xd fs)) :
    ∃ oe od, PySem.W.InstAt s.heap a oe C od := by
  have q : ObjOk X.prog X.w H s.heap a (.ext fun h => ∃ (oe : Obj) (vs : Array Value), h.get? a = some oe ∧ Zc (.ref C) d oe ∧ oe.data = .fields vs) := I.hok a _ h
  obtain ⟨⟨oe, vs, e1, e2, e3⟩, _, _⟩ := q
  have nc : PySem.W.notCls oe := by unfold PySem.W.notCls; rw [e3] <;> rfl
  rcases hd with rfl | ⟨dd, fs, rfl, hx⟩
  · exact ⟨oe, none, e1, e2.1, nc, by rw [e2.2]; trivial⟩
  · have hx' : ObjOk X.prog X.w H s.heap dd (.xd fs) := I.hok dd _ hx
    obtain ⟨mA, hns, _⟩ := hx'
    obtain ⟨od, ho, _⟩ := lookIn_ns hns
    exact ⟨oe, some od, e1, e2.1, nc, by rw [e2.2]; exact ho⟩
theorem kit_ofR {X : Cx} {pins : List (Addr × Obj)} {σ : L2.St} {H : Hp} {s : Shared} {x : V} {u t : Value} (I : Inv X pins σ H s) (rx : RelV x u) (ty : TyR X.K H x t) : ∃ P : Heap → Prop, PySem.W.KitX X.K u t P ∧ P s.heap ∧ u ≠ .builtin "__main__.__loader__#opaque" := by
  cases ty with
  | base h => exact kit_of I rx h
  | rT h =>
    cases rx
    obtain ⟨_, _, ys, _, dd⟩ := dt_rd I.hok h
    obtain ⟨o, ho, hc⟩ := dd.typeIs
    exact ⟨_, PySem.W.kitx_dict, ⟨o, ho, hc⟩, fun z => nomatch z⟩
  | @exn a C d h hd O =>
    cases rx
    obtain ⟨oe, od, J⟩ := exv_inst I h hd
    refine ⟨_, PySem.W.kitx_exc (x := a) (C := C) (ox := oe) (od := od) ?_ O.hg O.hk O.hs O.ha O.hn O.ht O.hm, J, fun z => nomatch z⟩
    obtain ⟨cd, hc, _⟩ := PySem.W.any_some O.hd
    rw [hc]; rfl
def rIsiZ (K : PySem.W.Frag) : List V → Hp → VK → Prop := fun xs H Q => ∃ (x c : V) (t u : Value) (b : Bool), xs = [x, c] ∧ ClsV c u ∧ TyR K H x t ∧ PySem.W.kitOne K t u = some b ∧ Q (.bl b) H
def rIsiTZ (K : PySem.W.Frag) : List V → Hp → VK → Prop := fun xs H Q => ∃ (x : V) (tp : Addr) (cs : List V) (t : Value) (us : List Value) (b : Bool), xs = [x, .ref tp] ∧ H tp = some (.tup cs) ∧ Paired ClsV cs us ∧ TyR K H x t ∧ PySem.W.kitAny K t us = some b ∧ Q (.bl b) H
theorem call_isiZ {X : Cx} : CallR X (.builtin "isinstance") (rIsiZ X.K) := by
  rintro pins s σ H xs us Q I r ⟨x, c, t, u, b, rfl, hc, ty, e, q⟩
  cases r with
  | cons rx rr =>
    cases rr with
    | cons rc rr =>
      cases rr
      have ec := hc.eq rc
      subst ec
      obtain ⟨P, Z, hP, hx⟩ := kit_ofR I rx ty
      exact PySem.W.kia_one Z I.kIn hP e hx fun tk => ⟨.bl b, H, I.tok tk, rfl, q⟩
theorem call_isiTZ {X : Cx} : CallR X (.builtin "isinstance") (rIsiTZ X.K) := by
  rintro pins s σ H xs us Q I r ⟨x, tp, cs, t, ws, b, rfl, hT, hc, ty, e, q⟩
  cases r with
  | cons rx rr =>
    cases rr with
    | cons rc rr =>
      cases rr
      cases rc
      obtain ⟨P, Z, hP, hx⟩ := kit_ofR I rx ty
      obtain ⟨_, its, rv, ⟨oc, od, dt, sl⟩, h1, h2, n, h3⟩ := I.hok tp _ hT
      have ew := ClsV.all hc rv
      subst ew
      dsimp only at h2 h3
      subst h2 h3
      exact PySem.W.kia_tup Z I.kIn hP h1 e hx fun tk => ⟨.bl b, H, I.tok tk, rfl, q⟩
def tyZ (x : PV) (S : Sto) : Option String := match x with
  | .non => some "NoneType"
  | .bl _ => some "bool"
  | .int _ => some "int"
  | .str _ => some "str"
  | x => match view x S with
    | some (.lst, _) => some "list"
    | some (.scr, _) => some "list"
    | some (.tup, _) => some "tuple"
    | some (.dct _ _, _) => some "dict"
    | _ => none
def kitAll (t : String) : List PV → Option Bool
  | [] => some false
  | .ty n :: r => (kitB t n).bind fun b => (kitAll t r).map fun c => b || c
  | _ => none
def isiP (xs : List PV) (S : Sto) : Out PV := match xs with
  | [x, .ty n] => (match (tyZ x S).bind fun t => kitB t n with
    | some b => .ok (.bl b) S
    | none => .bad)
  | [x, .nd .tup cs] => (match (tyZ x S).bind fun t => kitAll t cs with
    | some b => .ok (.bl b) S
    | none => .bad)
  | _ => .bad
section
variable {T : Tb} {K : PySem.W.Frag} {R : Pl} {F H : Hp} {S : Sto}
theorem sql_ty {a : Addr} {us : List V} (h : SqL K H a us) : TyR K H (.ref a) (.type "list") := by
  rcases h with (h | ⟨o, h⟩) | ⟨o, its, n, h1, h2, h3, _⟩
  · exact .base (.base (.lst h))
  · exact .base (.base (.frz h))
  · exact .base (.kList h1 h2)
theorem tyZ_rel (r : Rep T K R F S H) {x : PV} {u : V} (h : Rel T K R F x u) {t : String} (e : tyZ x S = some t) : TyR K H u (.type t) := by
  cases x with
  | non => cases e; rw [rel_non h]; exact .base (.base .non)
  | bl b => cases e; rw [rel_bl h]; exact .base (.base (.bl b))
  | int b => cases e; rw [rel_int h]; exact .base (.base (.int b))
  | str b => cases e; rw [rel_str h]; exact .base (.base (.str b))
  | _ =>
    all_goals
      simp only [tyZ] at e
      split at e
      · rename_i ys hv
        cases e
        obtain ⟨a, us, rfl, hs, hl⟩ := view_rel r h hv
        exact sql_ty ((shp_rd hs).1 (.inl rfl))
      · rename_i ys hv
        cases e
        obtain ⟨a, us, rfl, hs, hl⟩ := view_rel r h hv
        exact sql_ty ((shp_rd hs).1 (.inr rfl))
      · rename_i ys hv
        cases e
        obtain ⟨a, us, rfl, hs, hl⟩ := view_rel r h hv
        exact .base (.base (.tup hs))
      · rename_i tt ks ys hv
        cases e
        obtain ⟨a, us, rfl, hs, hl⟩ := view_rel r h hv
        cases tt with
        | false => obtain ⟨_, kk, _, h2⟩ := hs; rcases h2 with h2 | ⟨ob, h2⟩ <;> first | exact .base (.base (.dK h2)) | exact .base (.fDict h2)
        | true => obtain ⟨_, kk, _, h2⟩ := hs; exact .rT h2
      · cases e
theorem kitAll_rel {t : String} : ∀ {cs : List PV} {us : List V} {b : Bool}, RelL T K R F cs us → kitAll t cs = some b → ∃ ws : List Value, Paired ClsV us ws ∧ PySem.W.kitAny K (.type t) ws = some b
  | [], us, b, r, h => by
    cases h
    rw [RelL] at r
    subst r
    exact ⟨[], .nil, kitAny_nil⟩
  | c :: cs, us, b, r, h => by
    rw [RelL] at r
    obtain ⟨u, vs, rfl, r1, r2⟩ := r
    cases c with
    | ty n =>
      rw [kitAll, Option.bind_eq_some_iff] at h
      obtain ⟨b1, h1, h2⟩ := h
      rw [Option.map_eq_some_iff] at h2
      obtain ⟨b2, h3, h4⟩ := h2
      obtain ⟨ws, w1, w2⟩ := kitAll_rel r2 h3
      rw [rel_ty r1]
      refine ⟨.type n :: ws, .cons (.ty n) w1, kitAny_cons (kit_ty h1) (fun z => ?_) (fun z => ?_)⟩
      · rw [w2, ← h4, z]; rfl
      · rw [← h4, z]; rfl
    | _ => cases h
theorem cz_isi : CalZ T K isiP (fun xs H Q => rIsiZ K xs H Q ∨ rIsiTZ K xs H Q) := by
  intro E R F H S xs us Q r rx h
  unfold isiP at h
  split at h
  · obtain ⟨u, w, rfl, r1, r2⟩ := rel2 rx
    have := rel_ty r2; subst this
    split at h
    · rename_i b hb
      rw [Option.bind_eq_some_iff] at hb
      obtain ⟨t, h1, h2⟩ := hb
      exact .inl ⟨u, _, .type t, _, b, rfl, .ty _, tyZ_rel r r1 h1, kit_ty h2, PostV.here r (by rw [Rel]) h⟩
    · exact h.elim
  · obtain ⟨u, w, rfl, r1, r2⟩ := rel2 rx
    rw [Rel] at r2
    obtain ⟨a, us, rfl, hs, hl⟩ := r2
    split at h
    · rename_i b hb
      rw [Option.bind_eq_some_iff] at hb
      obtain ⟨t, h1, h2⟩ := hb
      obtain ⟨ws, w1, w2⟩ := kitAll_rel hl h2
      exact .inr ⟨u, a, us, .type t, ws, b, rfl, r.ex.at_ hs, w1, tyZ_rel r r1 h1, w2, PostV.here r (by rw [Rel]) h⟩
    · exact h.elim
  · exact h.elim
end
theorem cr_isi {X : Cx} : CallR X (.builtin "isinstance") (fun xs H Q => rIsiZ X.K xs H Q ∨ rIsiTZ X.K xs H Q) := CallR.or call_isiZ call_isiTZ
end Z
end
section
set_option Elab.async false
set_option linter.all false
set_option maxRecDepth 100000
set_option maxHeartbeats 1000000
/-! ZS: zip and enumerate over lists, tuples, texts in any mixture, as the layer's iterators. -/
namespace Z
open PySem PySem.Spec PyProof.Rows L2

theorem vals_right : ∀ {xs : List V} {us : List Value} {i : Nat} {u : Value}, Vals xs us → us[i]? = some u → ∃ x, xs[i]? = some x ∧ RelV x u
  | _, _, _, _, .nil, e => by simp at e
  | _, _, 0, _, .cons r _, e => ⟨_, rfl, by simp at e; rw [← e]; exact r⟩
  | _, _, i + 1, _, .cons _ t, e => by
    obtain ⟨x, h1, h2⟩ := vals_right (i := i) t (by simpa using e)
    exact ⟨x, by simpa using h1, h2⟩
/-- what is walked -/
inductive Sc where
  | l (a : Addr) | t (a : Addr) | s (z : Str)
def ScAt (K : PySem.W.Frag) (H : Hp) : Sc → List V → Prop
  | .l a, xs => SqL K H a xs
  | .t a, xs => SqT K H a xs
  | .s z, xs => xs = z.cps.toList.map fun c => V.str ⟨#[c]⟩
def ScIt (h : Heap) (it : Addr) : Sc → Nat → Prop
  | .l a, i => h.IsListIter it a i
  | .t a, i => h.IsTupleIter it a i
  | .s z, i => ∃ t, h.IsStrIter it (PySem.strIterType z) z t i
def ScBelow (n : Nat) : Sc → Prop
  | .l a => a < n
  | .t a => a < n
  | .s _ => True
theorem ScIt.obj {h : Heap} {it : Addr} {sc : Sc} {i : Nat} (q : ScIt h it sc i) : ∃ o, h.get? it = some o ∧ ∀ v, o.data ≠ .cell v := by
  cases sc with
  | l a => obtain ⟨o, e, _, d⟩ := q; exact ⟨o, e, fun v z => by rw [d] at z; cases z⟩
  | t a => obtain ⟨o, e, _, d⟩ := q; exact ⟨o, e, fun v z => by rw [d] at z; cases z⟩
  | s z => obtain ⟨t, o, e, _, d⟩ := q; exact ⟨o, e, fun v z => by rw [d] at z; cases z⟩
theorem ScIt.keep {h h' : Heap} {it : Addr} {sc : Sc} {i : Nat} (q : ScIt h it sc i) (k : ∀ o, h.get? it = some o → h'.get? it = some o) : ScIt h' it sc i := by
  cases sc with
  | l a => exact Heap.IsListIter.at q fun o e => k o e
  | t a => exact Heap.IsTupleIter.at q fun o e => k o e
  | s z => obtain ⟨t, o, e, r⟩ := q; exact ⟨t, o, k o e, r⟩
/-- the items behind a source, as the library draws them -/
structure ScD (X : Cx) (A : Around) (s : Shared) (sc : Sc) (it : Addr) (xs : List V) (fp : List Addr) (P : Nat → Value → Prop) (St : Nat → Heap → Prop) : Prop where
  dr : Draws X.prog X.w A it fp xs.length P St
  val : ∀ i v, P i v → ∃ x, xs[i]? = some x ∧ RelV x v
  st : ∀ i, ScIt s.heap it sc i → St i s.heap
  un : ∀ i h, St i h → ScIt h it sc i
  mem : it ∈ fp
  fp : ∀ b ∈ fp, b = it ∨ ∃ a, (sc = .l a ∨ sc = .t a) ∧ b = a
theorem sc_draws {X : Cx} {pins : List (Addr × Obj)} {σ : L2.St} {H : Hp} {s : Shared} {A : Around} (hh : A.handled = none) (I : Inv X pins σ H s) {sc : Sc} {xs : List V} {it : Addr} (q : ScAt X.K H sc xs) (ne : ∀ a, sc = .l a ∨ sc = .t a → a ≠ it) (ex : ∃ i, ScIt s.heap it sc i) :
    ∃ fp P St, ScD X A s sc it xs fp P St := by
  cases sc with
  | l a =>
    obtain ⟨its, rv, p, hz⟩ := I.list q
    have d := Draws.list (prog := X.prog) (w := X.w) (A := A) hh it a (ne a (.inl rfl)) its.toArray
    have hl : its.toArray.size = xs.length := by rw [List.size_toArray, rv.length]
    rw [hl] at d
    refine ⟨_, _, _, d, fun i v e => ?_, fun i h => ⟨h, p.isList⟩, fun i h e => e.1, List.mem_cons_self, fun b hb => ?_⟩
    · have e' : its[i]? = some v := by simpa using e
      exact vals_right rv e'
    · rcases List.mem_cons.mp hb with z | z
      · exact .inl z
      · exact .inr ⟨a, .inl rfl, List.mem_singleton.mp z⟩
  | t a =>
    obtain ⟨its, rv, p, hz⟩ := I.tuple q
    have d := Draws.tuple (prog := X.prog) (w := X.w) (A := A) hh it a (ne a (.inr rfl)) its.toArray
    have hl : its.toArray.size = xs.length := by rw [List.size_toArray, rv.length]
    rw [hl] at d
    refine ⟨_, _, _, d, fun i v e => ?_, fun i h => ⟨h, p⟩, fun i h e => e.1, List.mem_cons_self, fun b hb => ?_⟩
    · have e' : its[i]? = some v := by simpa using e
      exact vals_right rv e'
    · rcases List.mem_cons.mp hb with z | z
      · exact .inl z
      · exact .inr ⟨a, .inr rfl, List.mem_singleton.mp z⟩
  | s z =>
    obtain ⟨i0, t, o0, e0, c0, d0⟩ := ex
    have d := Draws.text (prog := X.prog) (w := X.w) (A := A) hh it z t
    have q' : xs = z.cps.toList.map fun c => V.str ⟨#[c]⟩ := q
    have hl : z.cps.size = xs.length := by rw [q', List.length_map]; rfl
    rw [hl] at d
    refine ⟨_, _, _, d, fun i v e => ?_, fun i h => ?_, fun i h e => ⟨t, e⟩, List.mem_cons_self, fun b hb => .inl (List.mem_singleton.mp hb)⟩
    · obtain ⟨c, u, h1, rfl⟩ := e
      refine ⟨V.str ⟨#[c]⟩, ?_, ⟨u, rfl⟩⟩
      rw [q', List.getElem?_map]
      have h2 : z.cps.toList[i]? = some c := by simpa using h1
      rw [h2]; rfl
    · obtain ⟨t', o1, e1, c1, d1⟩ := h
      refine ⟨o1, e1, c1, ?_⟩
      rw [e0] at e1
      cases e1
      rw [d0] at d1
      have q := Data.fields.inj d1
      have q2 := congrArg Array.toList q
      simp at q2
      rw [d0, q2.1, q2.2]

/-! ### zip of two -/
theorem scAt_inj {X : Cx} {pins : List (Addr × Obj)} {σ : L2.St} {H : Hp} {s : Shared} (I : Inv X pins σ H s) {sc : Sc} {xs ys : List V} (h : ScAt X.K H sc xs) (q : ScAt X.K H sc ys) : xs = ys := by
  cases sc with
  | l a => exact I.list_inj h q
  | t a => exact I.tuple_inj h q
  | s z => exact h.trans q.symm
theorem ScBelow.ne {n : Nat} {sc : Sc} (h : ScBelow n sc) {m : Nat} (hm : n ≤ m) : ∀ a, sc = .l a ∨ sc = .t a → a ≠ m := fun a e => by
  rcases e with e | e <;> (subst e; exact Nat.ne_of_lt (Nat.lt_of_lt_of_le h hm))
/-- a source as a value -/
def ScV (sc : Sc) (v : V) : Prop := match sc with
  | .l a => v = .ref a
  | .t a => v = .ref a
  | .s z => v = .str z
theorem sc_begins {X : Cx} {pins : List (Addr × Obj)} {σ : L2.St} {H : Hp} {s : Shared} (I : Inv X pins σ H s) {sc : Sc} {v : V} {u : Value} {xs : List V} (hv : ScV sc v) (r : RelV v u) (q : ScAt X.K H sc xs) :
    ∃ o Hb, Begins u o Hb ∧ Hb s.heap ∧ (∀ (h : Heap) (it : Addr), h.get? it = some o → ScIt h it sc 0) ∧ ScBelow s.heap.objs.size sc := by
  cases sc with
  | l a =>
    have hv : v = .ref a := hv
    subst hv
    cases r
    obtain ⟨its, rv, p, hz⟩ := I.list q
    refine ⟨_, _, begins_list a its.toArray, p.isList, fun h it e => ⟨_, e, rfl, rfl⟩, by obtain ⟨o, ho, _⟩ := p.isList; exact Heap.lt_size ho⟩
  | t a =>
    have hv : v = .ref a := hv
    subst hv
    cases r
    obtain ⟨its, rv, p, hz⟩ := I.tuple q
    obtain ⟨o, ho, _⟩ := id p
    refine ⟨_, _, begins_tuple a its.toArray, p, fun h it e => ⟨_, e, rfl, rfl⟩, Heap.lt_size ho⟩
  | s z =>
    have hv : v = .str z := hv
    subst hv
    obtain ⟨t, rfl⟩ := r
    refine ⟨_, _, begins_text z t, trivial, fun h it e => ⟨t, _, e, rfl, rfl⟩, trivial⟩
end Z
end
section
set_option Elab.async false
set_option linter.all false
set_option maxRecDepth 100000
set_option maxHeartbeats 1000000
/-! Z7: targets, what is walked, for, while. -/
namespace Z
open PySem PySem.Spec PyProof.Rows L2

/-! ### targets -/
inductive TgZ where
  | nm (i : Nat) | tp (ts : List TgZ)
mutual
def gOf (K : PySem.W.Frag) : TgZ → TG
  | .nm i => gName i
  | .tp ts => gTup K ts.length (gsOf K ts)
def gsOf (K : PySem.W.Frag) : List TgZ → TGs
  | [] => gNil
  | t :: ts => gCons (gOf K t) (gsOf K ts)
end
mutual
def asg : TgZ → PV → Option (List (Nat × PV))
  | .nm i, v => some [(i, v)]
  | .tp ts, .nd .tup xs => asgs ts xs
  | .tp _, _ => none
def asgs : List TgZ → List PV → Option (List (Nat × PV))
  | [], [] => some []
  | t :: ts, x :: xs => (asg t x).bind fun a => (asgs ts xs).map fun b => a ++ b
  | _, _ => none
end
def setZ (l : Loc) (ps : List (Nat × PV)) : Loc := ps.foldl (fun l p => l.set p.1 (some p.2)) l
def setV (σ : L2.St) (ps : List (Nat × V)) : L2.St := ps.foldl (fun l p => l.set p.1 (some p.2)) σ
def wipeZ (l : Loc) : List Nat → Loc
  | [] => l
  | v :: vs => (wipeZ l vs).set v none
mutual
def TgZ.slots : TgZ → List Nat
  | .nm i => [i]
  | .tp ts => TgZ.slotsL ts
def TgZ.slotsL : List TgZ → List Nat
  | [] => []
  | t :: ts => t.slots ++ TgZ.slotsL ts
end
section
variable {T : Tb} {K : PySem.W.Frag} {R : Pl} {F H : Hp} {S : Sto} {l : Loc} {σ : L2.St}
theorem setZ_app (l : Loc) (ps qs : List (Nat × PV)) : setZ l (ps ++ qs) = setZ (setZ l ps) qs := List.foldl_append
theorem setV_app (l : L2.St) (ps qs : List (Nat × V)) : setV l (ps ++ qs) = setV (setV l ps) qs := List.foldl_append
mutual
theorem gOf_ok (re : Rep T K R F S H) : ∀ (t : TgZ) (x : PV) (u : V) (l : Loc) (σ : L2.St) (ps : List (Nat × PV)) (Q : L2.St → Hp → Prop), RelE T K R F l σ → Rel T K R F x u → asg t x = some ps →
    (∀ qs : List (Nat × V), (∀ q ∈ qs, q.1 ∈ t.slots) → RelE T K R F (setZ l ps) (setV σ qs) → Q (setV σ qs) H) → gOf K t u σ H Q
  | .nm i, x, u, l, σ, ps, Q, e, r, h, k => by
    cases h
    exact k [(i, u)] (fun q hq => by rw [List.mem_singleton.mp hq]; exact List.mem_singleton.mpr rfl) (e.set i r)
  | .tp ts, x, u, l, σ, ps, Q, e, r, h, k => by
    cases x with
    | nd kd xs =>
      cases kd with
      | tup =>
        rw [asg] at h
        rw [Rel] at r
        obtain ⟨a, us, rfl, hs, hl⟩ := r
        exact ⟨a, us, rfl, SqT.of (re.ex.at_ hs), by rw [hl.length]; exact asgs_len ts xs ps h, gsOf_ok re ts xs us l σ ps Q e hl h k⟩
      | _ => simp [asg] at h
    | _ => simp [asg] at h
theorem gsOf_ok (re : Rep T K R F S H) : ∀ (ts : List TgZ) (xs : List PV) (us : List V) (l : Loc) (σ : L2.St) (ps : List (Nat × PV)) (Q : L2.St → Hp → Prop), RelE T K R F l σ → RelL T K R F xs us → asgs ts xs = some ps →
    (∀ qs : List (Nat × V), (∀ q ∈ qs, q.1 ∈ TgZ.slotsL ts) → RelE T K R F (setZ l ps) (setV σ qs) → Q (setV σ qs) H) → gsOf K ts us σ H Q
  | [], [], us, l, σ, ps, Q, e, r, h, k => by
    cases h
    rw [RelL] at r
    exact ⟨r, k [] (fun q hq => absurd hq (by simp)) e⟩
  | t :: ts, x :: xs, us, l, σ, ps, Q, e, r, h, k => by
    rw [RelL] at r
    obtain ⟨u, vs, rfl, r1, r2⟩ := r
    rw [asgs, Option.bind_eq_some_iff] at h
    obtain ⟨a, h1, h2⟩ := h
    rw [Option.map_eq_some_iff] at h2
    obtain ⟨b, h3, rfl⟩ := h2
    refine ⟨u, vs, rfl, gOf_ok re t x u l σ a _ e r1 h1 fun qs hq e1 => ?_⟩
    refine gsOf_ok re ts xs vs _ _ b _ e1 r2 h3 fun qs2 hq2 e2 => ?_
    rw [← setV_app] at e2 ⊢
    rw [← setZ_app] at e2
    refine k (qs ++ qs2) (fun q hq' => ?_) e2
    rw [TgZ.slotsL, List.mem_append]
    exact (List.mem_append.mp hq').imp (hq q) (hq2 q)
  | [], _ :: _, us, l, σ, ps, Q, e, r, h, k => by simp [asgs] at h
  | _ :: _, [], us, l, σ, ps, Q, e, r, h, k => by simp [asgs] at h
theorem asgs_len : ∀ (ts : List TgZ) (xs : List PV) (ps : List (Nat × PV)), asgs ts xs = some ps → xs.length = ts.length
  | [], [], ps, h => rfl
  | t :: ts, x :: xs, ps, h => by
    rw [asgs, Option.bind_eq_some_iff] at h
    obtain ⟨a, h1, h2⟩ := h
    rw [Option.map_eq_some_iff] at h2
    obtain ⟨b, h3, rfl⟩ := h2
    rw [List.length_cons, List.length_cons, asgs_len ts xs b h3]
  | [], _ :: _, ps, h => by simp [asgs] at h
  | _ :: _, [], ps, h => by simp [asgs] at h
end
end
abbrev JG (X : Cx) (tg : Expr) (t : TgZ) : Prop := PG X tg (gOf X.K t)
abbrev JGs (X : Cx) (tg : List Expr) (t : List TgZ) : Prop := PGs X tg (gsOf X.K t)
section
variable {X : Cx} {x : Str} {pos : Pos}
theorem jg_n (i : Nat) (hN : X.N.Nodup) (hi : X.N[i]? = some x := by rfl) (hx : L2.Loc X.env.scope x := by first | exact Or.inl rfl | exact Or.inr rfl) (hf : X.fn x = true ∨ X.env.scope.names.lookup x = some .local := by first | exact .inl rfl | exact .inr rfl) : JG X (.Name x pos) (.nm i) := pg_name hN hi hx hf
theorem jgs_nil : JGs X [] [] := pgs_nil
theorem jgs_cons {e : Expr} {es : List Expr} {t : TgZ} {ts : List TgZ} (h1 : JG X e t) (h2 : JGs X es ts) (hs : (assignEach (e :: es) X.env).map (·.2) = assign e X.env :: (assignEach es X.env).map (·.2) := by rfl) : JGs X (e :: es) (t :: ts) := pgs_cons h1 h2 hs
theorem jg_t {es : List Expr} {k : Nat} {ts : List TgZ} (hc : X.calm = true) (h : JGs X es ts) (hn : (assignEach es X.env).length = ts.length := by rfl) (hst : (assignEach es X.env).findIdx? (·.1) = none := by rfl) : JG X (.Tuple es k pos) (.tp ts) := pg_tup hc h hn hst
end

/-! ### what is walked -/
structure ItZ where
  items : List PV
  held : List (PV × Kd × List PV)
def heldB (hs : List (PV × Kd × List PV)) (S : Sto) : Bool := hs.all fun p => decide (view p.1 S = some p.2)
theorem heldB_nil (S : Sto) : heldB [] S = true := rfl
theorem heldB_all {hs : List (PV × Kd × List PV)} {S : Sto} (h : heldB hs S = true) : ∀ p ∈ hs, view p.1 S = some p.2 := fun p hp => of_decide_eq_true (List.all_eq_true.mp h p hp)
theorem heldB_of {hs : List (PV × Kd × List PV)} {S : Sto} (h : ∀ p ∈ hs, view p.1 S = some p.2) : heldB hs S = true := List.all_eq_true.mpr fun p hp => decide_eq_true (h p hp)
/-- a place is watched while it is walked -/
def holdOf (x : PV) (v : Kd × List PV) : List (PV × Kd × List PV) := match x with
  | .ref n => [(.ref n, v)]
  | _ => []
abbrev DI := Loc → Sto → Out ItZ
structure WalkZ (T : Tb) (K : PySem.W.Frag) (J : It) (R1 : Pl) (F1 : Hp) (it : ItZ) : Prop where
  goes : ∀ (i : Nat) (R : Pl) (F H : Hp) (S : Sto), i < it.items.length → R1.as <+: R.as → Ex F1 F → Rep T K R F S H → heldB it.held S = true → J.go i H
  stops : ∀ (R : Pl) (F H : Hp) (S : Sto), R1.as <+: R.as → Ex F1 F → Rep T K R F S H → heldB it.held S = true → J.stop it.items.length H
  yields : ∀ (i : Nat) (R : Pl) (F H H' : Hp) (S : Sto) (x : V), i < it.items.length → R1.as <+: R.as → Ex F1 F → Rep T K R F S H → heldB it.held S = true → J.yld i H x H' →
    ∃ F' v, Ex F F' ∧ Rep T K R F' S H' ∧ it.items[i]? = some v ∧ Rel T K R F' v x
def OkI (T : Tb) (K : PySem.W.Frag) (R : Pl) (F : Hp) (o : Out ItZ) (Q : It → Hp → Prop) (E : XK) : Prop := match o with
  | .ok it S => ∀ R' F' H J, Pl.le R R' → Ex F F' → Rep T K R' F' S H → WalkZ T K J R' F' it → Q J H
  | .err e S => PostX T K R F e S E
  | .bad => False
def tI (T : Tb) (K : PySem.W.Frag) (E : XS) (d : DI) : TI := fun σ H Q => ∃ R F l S, Rep T K R F S H ∧ RelE T K R F l σ ∧ OkI T K R F (d l S) Q (E σ)
abbrev JI (T : Tb) (X : Cx) (E : XS) (tg e : Expr) (d : DI) : Prop := PI X tg e (tI T X.K E d)
theorem pi_imp {X : Cx} {tg e : Expr} {t t' : TI} (h : PI X tg e t) (i : ∀ σ H Q, t' σ H Q → t σ H Q) : PI X tg e t' := ⟨fun pins s σ H Q I q => h.run pins s σ H Q I (i σ H Q q)⟩
theorem pi_or {X : Cx} {tg e : Expr} {t t' : TI} (h : PI X tg e t) (h' : PI X tg e t') : PI X tg e (fun σ H Q => t σ H Q ∨ t' σ H Q) := ⟨fun pins s σ H Q I q => q.elim (h.run pins s σ H Q I) (h'.run pins s σ H Q I)⟩
/-- the sequence behind a value: list or script, tuple -/
def seqIt (x : PV) (S : Sto) : Option ItZ := match view x S with
  | some (.lst, xs) => some ⟨xs, holdOf x (.lst, xs)⟩
  | some (.scr, xs) => some ⟨xs, holdOf x (.scr, xs)⟩
  | some (.tup, xs) => some ⟨xs, holdOf x (.tup, xs)⟩
  | _ => none
def strIt (z : Str) : ItZ := ⟨z.cps.toList.map fun c => .str ⟨#[c]⟩, []⟩
def itOf (x : PV) (S : Sto) : Out ItZ := match x with
  | .str z => .ok (strIt z) S
  | x => match seqIt x S with
    | some it => .ok it S
    | none => .bad
def dItV (d : DE) : DI := fun l S => (d l S).bind fun x S1 => itOf x S1
section
variable {T : Tb} {X : Cx} {E : XS} {tg : Expr}
theorem hold_view {K : PySem.W.Frag} {R R1 : Pl} {F F1 H1 H : Hp} {S1 S : Sto} {x : PV} {u : V} {k : Kd} {xs : List PV} (r1 : Rep T K R1 F1 S1 H1) (rx : Rel T K R1 F1 x u) (hv : view x S1 = some (k, xs)) (p : R1.as <+: R.as) (e : Ex F1 F) (r : Rep T K R F S H) (hh : heldB (holdOf x (k, xs)) S = true) :
    ∃ a us, u = .ref a ∧ Shp T K H a k us ∧ RelL T K R F xs us := by
  cases x with
  | ref n => exact view_rel r (rx.mono0 p e) (heldB_all hh (.ref n, k, xs) (List.mem_singleton.mpr rfl))
  | nd k' xs' => exact view_rel r (rx.mono0 p e) hv
  | _ => cases hv
theorem walkz_of {K : PySem.W.Frag} {R1 : Pl} {F1 H1 : Hp} {S1 : Sto} {x : PV} {u : V} {k : Kd} {xs : List PV} {J : It} (r1 : Rep T K R1 F1 S1 H1) (rx : Rel T K R1 F1 x u) (hv : view x S1 = some (k, xs))
    (w : ∀ (a : Addr) (us : List V), u = .ref a → Walk J us.length (fun H => Shp T K H a k us) (YAt us)) : WalkZ T K J R1 F1 ⟨xs, holdOf x (k, xs)⟩ where
  goes := fun i R F H S hi p e r hh => by
    obtain ⟨a, us, eu, hs, hl⟩ := hold_view r1 rx hv p e r hh
    exact (w a us eu).goes i H (by rw [hl.length]; exact hi) hs
  stops := fun R F H S p e r hh => by
    obtain ⟨a, us, eu, hs, hl⟩ := hold_view r1 rx hv p e r hh
    have := (w a us eu).stops H hs
    rw [hl.length] at this
    exact this
  yields := fun i R F H H' S v hi p e r hh y => by
    obtain ⟨a, us, eu, hs, hl⟩ := hold_view r1 rx hv p e r hh
    obtain ⟨rfl, hx⟩ := (w a us eu).yields i H v H' (by rw [hl.length]; exact hi) hs y
    have hi' : i < xs.length := hi
    obtain ⟨u', h1, h2⟩ := hl.get (List.getElem?_eq_getElem hi')
    rw [h1] at hx
    cases hx
    exact ⟨F, xs[i], Ex.refl F, r, List.getElem?_eq_getElem hi', h2⟩
theorem ji_val {e : Expr} {d : DE} (he : JE T X E e d) : JI T X E tg e (dItV d) := by
  refine pi_imp (pi_or (pi_list he) (pi_or (pi_tup he) (pi_str he))) fun σ H Q ⟨R, F, l, S, r, e, h⟩ => ?_
  cases hd : d l S with
  | bad => unfold dItV at h; rw [hd] at h; exact h.elim
  | err x S1 =>
    unfold dItV at h; rw [hd] at h
    refine .inl ⟨R, F, l, S, r, e, ?_⟩
    rw [hd]; exact h
  | ok x S1 =>
    unfold dItV at h; rw [hd] at h
    have h : OkI T X.K R F (itOf x S1) Q (E σ) := h
    cases x with
    | str z =>
      refine .inr (.inr ⟨R, F, l, S, r, e, ?_⟩)
      rw [hd]
      intro R1 F1 H1 u p ex r1 rx
      have := rel_str rx; subst this
      refine ⟨z, rfl, h R1 F1 H1 (Its z) p ex r1 ⟨fun i R F H S hi _ _ _ _ => ?_, fun R F H S _ _ _ _ => ?_, fun i R F H H' S v hi p e r hh y => ?_⟩⟩
      · have : i < z.cps.size := by simpa [strIt] using hi
        exact this
      · show z.cps.size ≤ _
        simp [strIt]
      · obtain ⟨rfl, c, h1, rfl⟩ := y
        refine ⟨F, .str ⟨#[c]⟩, Ex.refl F, r, ?_, by rw [Rel]⟩
        have h2 : z.cps.toList[i]? = some c := by simpa using h1
        simp [strIt, h2]
    | _ =>
      all_goals
        simp only [itOf, seqIt] at h
        split at h
        · rename_i it hit
          split at hit
          · rename_i xs hv
            cases hit
            refine .inl ⟨R, F, l, S, r, e, ?_⟩
            rw [hd]
            intro R1 F1 H1 u p ex r1 rx
            obtain ⟨a, us, eu, hs, hl⟩ := view_rel r1 rx hv
            refine ⟨a, eu, ⟨us, (shp_rd hs).1 (.inl rfl)⟩, h R1 F1 H1 _ p ex r1 (walkz_of r1 rx hv fun b ws eb => ?_)⟩
            rw [eu] at eb; cases eb
            exact walk_list.mono (fun H q => (shp_rd q).1 (.inl rfl)) fun _ _ _ _ _ _ y => y
          · rename_i xs hv
            cases hit
            refine .inl ⟨R, F, l, S, r, e, ?_⟩
            rw [hd]
            intro R1 F1 H1 u p ex r1 rx
            obtain ⟨a, us, eu, hs, hl⟩ := view_rel r1 rx hv
            refine ⟨a, eu, ⟨us, (shp_rd hs).1 (.inr rfl)⟩, h R1 F1 H1 _ p ex r1 (walkz_of r1 rx hv fun b ws eb => ?_)⟩
            rw [eu] at eb; cases eb
            exact walk_list.mono (fun H q => (shp_rd q).1 (.inr rfl)) fun _ _ _ _ _ _ y => y
          · rename_i xs hv
            cases hit
            refine .inr (.inl ⟨R, F, l, S, r, e, ?_⟩)
            rw [hd]
            intro R1 F1 H1 u p ex r1 rx
            obtain ⟨a, us, eu, hs, hl⟩ := view_rel r1 rx hv
            refine ⟨a, eu, ⟨us, (shp_rd hs).2 rfl⟩, h R1 F1 H1 _ p ex r1 (walkz_of r1 rx hv fun b ws eb => ?_)⟩
            rw [eu] at eb; cases eb
            exact walk_tup.mono (fun H q => (shp_rd q).2 rfl) fun _ _ _ _ _ _ y => y
          · cases hit
        · exact h.elim

/-! ### range -/
def rngZ (lo : Int) (n : Nat) : List PV := (List.range n).map fun i => .int (lo + (i : Nat))
def rngP (xs : List PV) (S : Sto) : Out ItZ := match xs with
  | [.int j] => if -(2 ^ 62) ≤ j ∧ j < 2 ^ 62 then .ok ⟨rngZ 0 j.toNat, []⟩ S else .bad
  | _ => .bad
def dItA (f : List PV → Sto → Out ItZ) (ar : DA) : DI := fun l S => (ar l S).bind fun xs S1 => f xs S1
theorem walkz_rng {K : PySem.W.Frag} {R1 : Pl} {F1 : Hp} {lo : Int} {n : Nat} : WalkZ T K (Itr lo n) R1 F1 ⟨rngZ lo n, []⟩ where
  goes := fun i R F H S hi _ _ _ _ => by have : i < n := by simpa [rngZ] using hi
                                         exact this
  stops := fun R F H S _ _ _ _ => by show n ≤ _; simp [rngZ]
  yields := fun i R F H H' S v hi p e r hh y => by
    obtain ⟨rfl, rfl⟩ := y
    have : i < n := by simpa [rngZ] using hi
    refine ⟨F, .int (lo + (i : Nat)), Ex.refl F, r, ?_, by rw [Rel]⟩
    simp [rngZ, this]
/-- the iterable's argument list first -/
theorem seqI {ar : DA} {f : List PV → Sto → Out ItZ} {K : PySem.W.Frag} {σ : L2.St} {H : Hp} {Q : It → Hp → Prop} {C : List V → Hp → Prop} (h : tI T K E (dItA f ar) σ H Q)
    (hk : ∀ (xs : List PV) (S1 : Sto) (R1 : Pl) (F1 H1 : Hp) (us : List V), Rep T K R1 F1 S1 H1 → RelL T K R1 F1 xs us → OkI T K R1 F1 (f xs S1) Q (E σ) → C us H1) : tL T K E ar σ H C := by
  obtain ⟨R, F, l, S, r, e, h⟩ := h
  refine ⟨R, F, l, S, r, e, ?_⟩
  unfold dItA at h
  cases hd : ar l S with
  | ok xs S1 =>
    rw [hd] at h
    intro R1 F1 H1 us p ex r1 rx
    refine hk xs S1 R1 F1 H1 us r1 rx ?_
    have h : OkI T K R F (f xs S1) Q (E σ) := h
    cases hf : f xs S1 with
    | ok it S2 => rw [hf] at h; exact fun R' F' H' J p' ex' => h R' F' H' J (p.trans p') (ex.trans ex')
    | err x S2 => rw [hf] at h; exact PostX.mono p ex h
    | bad => rw [hf] at h; exact h
  | err x S1 => rw [hd] at h; exact h
  | bad => rw [hd] at h; exact h
theorem ji_rng1 {a : Expr} {ar : DA} {p pos : Pos} (hm : X.mg "range" = none) (ha : JA T X E [a] ar) (hg : Gl X "range" := by rfl) (hs : starEach [a] X.env = [(false, eval a X.env)] := by rfl) : JI T X E tg (.Call (.Name "range" p) [a] [] pos) (dItA rngP ar) := by
  refine pi_imp (pi_range1 hg hm ha hs) fun σ H Q h => seqI h fun xs S1 R1 F1 H1 us r1 rx h1 => ?_
  unfold rngP at h1
  split at h1
  · obtain ⟨u, rfl, rx'⟩ := rel1 rx
    have := rel_int rx'; subst this
    split at h1
    · rename_i hb
      exact ⟨_, rfl, hb.1, hb.2, h1 R1 F1 H1 _ (Pl.refl R1) (Ex.refl F1) r1 walkz_rng⟩
    · exact h1.elim
  · exact h1.elim

/-! ### enumerate, zip -/
def encZ : List PV → Nat → List PV
  | [], _ => []
  | x :: xs, i => .nd .tup [.int (i : Nat), x] :: encZ xs (i + 1)
theorem encZ_get : ∀ (xs : List PV) (k i : Nat), (encZ xs k)[i]? = xs[i]?.map fun x => .nd .tup [.int ((k + i : Nat)), x]
  | [], k, i => by simp [encZ]
  | x :: xs, k, 0 => by simp [encZ]
  | x :: xs, k, i + 1 => by
    rw [encZ, List.getElem?_cons_succ, encZ_get xs (k + 1) i, List.getElem?_cons_succ]
    have e : k + 1 + i = k + (i + 1) := by omega
    rw [e]
theorem encZ_len : ∀ (xs : List PV) (k : Nat), (encZ xs k).length = xs.length
  | [], k => rfl
  | x :: xs, k => by simp [encZ, encZ_len xs (k + 1)]
/-- a fresh pair that a turn hands out -/
theorem pair_yield {K : PySem.W.Frag} {R : Pl} {F H H' : Hp} {S : Sto} {v u w : V} {x y : PV} {T' : Addr} (r : Rep T K R F S H) (ev : v = .ref T') (hn : H T' = none) (eH : H' = upd H T' (.tup [u, w])) (h1 : Rel T K R F x u) (h2 : Rel T K R F y w) :
    ∃ F', Ex F F' ∧ Rep T K R F' S H' ∧ Rel T K R F' (.nd .tup [x, y]) v := by
  subst ev eH
  have e : Ex F (upd F T' (.tup [u, w])) := ex_upd (r.fnone hn)
  refine ⟨upd F T' (.tup [u, w]), e, r.frozen hn, ?_⟩
  rw [Rel]
  exact ⟨T', [u, w], rfl, upd_same, .cons (h1.mono (Pl.refl R) e) (.cons (h2.mono (Pl.refl R) e) .nil)⟩
theorem itOf_ok {x : PV} {S S' : Sto} {it : ItZ} (h : itOf x S = .ok it S') : (∃ z, x = .str z ∧ it = strIt z) ∨ ∃ k xs, (k = .lst ∨ k = .scr ∨ k = .tup) ∧ view x S = some (k, xs) ∧ it = ⟨xs, holdOf x (k, xs)⟩ := by
  cases x with
  | str z => cases h; exact .inl ⟨z, rfl, rfl⟩
  | _ =>
    all_goals
      simp only [itOf, seqIt] at h
      split at h
      · rename_i it' hit
        cases h
        split at hit
        · rename_i xs hv; cases hit; exact .inr ⟨_, _, .inl rfl, hv, rfl⟩
        · rename_i xs hv; cases hit; exact .inr ⟨_, _, .inr (.inl rfl), hv, rfl⟩
        · rename_i xs hv; cases hit; exact .inr ⟨_, _, .inr (.inr rfl), hv, rfl⟩
        · cases hit
      · cases h
/-- a walked value as a source -/
structure ScZ (T : Tb) (K : PySem.W.Frag) (R1 : Pl) (F1 : Hp) (u : V) (sc : Sc) (it : ItZ) : Prop where
  val : ScV sc u
  rd : ∀ (R : Pl) (F H : Hp) (S : Sto), R1.as <+: R.as → Ex F1 F → Rep T K R F S H → heldB it.held S = true → ∃ us, ScAt K H sc us ∧ RelL T K R F it.items us
theorem rel_signs {K : PySem.W.Frag} {R : Pl} {F : Hp} : ∀ cs : List Nat, RelL T K R F (cs.map fun c => .str ⟨#[c]⟩) (cs.map fun c => V.str ⟨#[c]⟩)
  | [] => .nil
  | c :: cs => .cons (by rw [Rel]) (rel_signs cs)
theorem scz_of {K : PySem.W.Frag} {R1 : Pl} {F1 H1 : Hp} {S1 S' : Sto} {x : PV} {u : V} {it : ItZ} (r1 : Rep T K R1 F1 S1 H1) (rx : Rel T K R1 F1 x u) (h : itOf x S1 = .ok it S') : ∃ sc, ScZ T K R1 F1 u sc it := by
  rcases itOf_ok h with ⟨z, rfl, rfl⟩ | ⟨k, xs, hk, hv, rfl⟩
  · have := rel_str rx; subst this
    exact ⟨.s z, rfl, fun R F H S p e r hh => ⟨_, rfl, rel_signs _⟩⟩
  · obtain ⟨a, us0, rfl, _, _⟩ := view_rel r1 rx hv
    rcases hk with hk | hk | hk
    · refine ⟨.l a, rfl, fun R F H S p e r hh => ?_⟩
      obtain ⟨b, us, eb, hs, hl⟩ := hold_view r1 rx hv p e r hh
      cases eb
      exact ⟨us, (shp_rd hs).1 (.inl hk), hl⟩
    · refine ⟨.l a, rfl, fun R F H S p e r hh => ?_⟩
      obtain ⟨b, us, eb, hs, hl⟩ := hold_view r1 rx hv p e r hh
      cases eb
      exact ⟨us, (shp_rd hs).1 (.inr hk), hl⟩
    · refine ⟨.t a, rfl, fun R F H S p e r hh => ?_⟩
      obtain ⟨b, us, eb, hs, hl⟩ := hold_view r1 rx hv p e r hh
      cases eb
      exact ⟨us, (shp_rd hs).2 hk, hl⟩
end
end Z
end
section
set_option Elab.async false
set_option linter.all false
set_option maxRecDepth 100000
set_option maxHeartbeats 1000000
/-! Z8: statements. -/
noncomputable section
namespace Z
open PySem PySem.Spec PyProof.Rows L2

def dSkip : DS := fun l S => .nx l S
def dSeq (a b : DS) : DS := fun l S => (a l S).seq b
def dExpr (d : DE) : DS := fun l S => (d l S).st l fun _ S1 => .nx l S1
def dRet (d : DE) : DS := fun l S => (d l S).st l fun v S1 => .ret v S1
def dRetN : DS := fun _ S => .ret .non S
def dIfS (c : DB) (a b : DS) : DS := fun l S => (c l S).st l fun k S1 => if k = true then a l S1 else b l S1
def dSet (i : Nat) (d : DE) : DS := fun l S => (d l S).st l fun v S1 => .nx (l.set i (some v)) S1
def dNever : DS := fun _ _ => .bad
def dBrk : DS := fun l S => .brk l S
def dCnt : DS := fun l S => .cnt l S
/-- a target of any kind -/
abbrev DG := PV → Loc → Sto → OutS
def onlyNx (o : OutS) : OutS := match o with
  | .nx l S => .nx l S
  | _ => .bad
def dAsg (d : DE) (g : DG) : DS := fun l S => (d l S).st l fun v S1 => onlyNx (g v l S1)
def gzN (i : Nat) : DG := fun v l S => .nx (l.set i (some v)) S
def gzL : List DG → List PV → Loc → Sto → OutS
  | [], [], l, S => .nx l S
  | g :: gs, x :: xs, l, S => (g x l S).seq fun l1 S1 => gzL gs xs l1 S1
  | _, _, _, _ => .bad
def gzT (gs : List DG) : DG := fun v l S => match v with
  | .nd .tup xs => gzL gs xs l S
  | _ => .bad
/-- o[i] = v -/
def putP (x i v : PV) (S : Sto) : Option Sto := match x with
  | .ref n => (match S[n]? with
    | some (some (.lst, xs)) => (match i with
      | .int k => (ixN xs.length k).map fun j => S.set n (some (.lst, xs.set j v))
      | _ => none)
    | _ => none)
  | _ => none
def gzI (o i : DE) : DG := fun v l S => (o l S).st l fun x S1 => (i l S1).st l fun y S2 => match putP x y v S2 with
  | some S3 => .nx l S3
  | none => .bad
def OkG (T : Tb) (K : PySem.W.Frag) (R : Pl) (F : Hp) (o : OutS) (Q : L2.St → Hp → Prop) : Prop := match o with
  | .nx l S => PostE T K R F l S Q
  | _ => False
def tG (T : Tb) (K : PySem.W.Frag) (d : DG) : TG := fun u σ H Q => ∃ R F l S x, Rep T K R F S H ∧ RelE T K R F l σ ∧ Rel T K R F x u ∧ OkG T K R F (d x l S) Q
def tGs (T : Tb) (K : PySem.W.Frag) (ds : List DG) : TGs := fun us σ H Q => ∃ R F l S xs, Rep T K R F S H ∧ RelE T K R F l σ ∧ RelL T K R F xs us ∧ OkG T K R F (gzL ds xs l S) Q
abbrev JGz (T : Tb) (X : Cx) (e : Expr) (d : DG) : Prop := PG X e (tG T X.K d)
abbrev JGzs (T : Tb) (X : Cx) (es : List Expr) (ds : List DG) : Prop := PGs X es (tGs T X.K ds)
theorem pg_imp {X : Cx} {e : Expr} {t t' : TG} (h : PG X e t) (i : ∀ v σ H Q, t' v σ H Q → t v σ H Q) : PG X e t' := ⟨fun pins s σ H v u Q I r q => h.run pins s σ H v u Q I r (i v σ H Q q)⟩
theorem pgs_imp {X : Cx} {e : List Expr} {t t' : TGs} (h : PGs X e t) (i : ∀ v σ H Q, t' v σ H Q → t v σ H Q) : PGs X e t' := ⟨fun pins s σ H v u Q I r q => h.run pins s σ H v u Q I r (i v σ H Q q)⟩
section
variable {T : Tb} {X : Cx} {E : XS} {pos : Pos} {x : Str} {e : Expr} {d : DE}
theorem OkG.mono {K : PySem.W.Frag} {R R1 : Pl} {F F1 : Hp} {o : OutS} {Q : L2.St → Hp → Prop} (p : Pl.le R R1) (x : Ex F F1) (h : OkG T K R F o Q) : OkG T K R1 F1 o Q := by
  cases o with
  | nx l S => exact PostE.mono p x h
  | _ => exact h.elim

/-! ### targets -/
theorem jgz_n (i : Nat) (hN : X.N.Nodup) (hi : X.N[i]? = some x := by rfl) (hx : L2.Loc X.env.scope x := by first | exact Or.inl rfl | exact Or.inr rfl) (hf : X.fn x = true ∨ X.env.scope.names.lookup x = some .local := by first | exact .inl rfl | exact .inr rfl) : JGz T X (.Name x pos) (gzN i) :=
  pg_imp (pg_name hN hi hx hf) fun u σ H Q ⟨R, F, l, S, y, r, e, ry, h⟩ => PostE.here r (e.set i ry) h
theorem jgzs_nil : JGzs T X [] [] := pgs_imp pgs_nil fun us σ H Q ⟨R, F, l, S, xs, r, e, rx, h⟩ => by
  cases xs with
  | nil => rw [RelL] at rx; exact ⟨rx, PostE.here r e h⟩
  | cons y ys => exact h.elim
theorem jgzs_cons {es : List Expr} {g : DG} {gs : List DG} (h1 : JGz T X e g) (h2 : JGzs T X es gs) (hs : (assignEach (e :: es) X.env).map (·.2) = assign e X.env :: (assignEach es X.env).map (·.2) := by rfl) : JGzs T X (e :: es) (g :: gs) :=
  pgs_imp (pgs_cons h1 h2 hs) fun us σ H Q ⟨R, F, l, S, xs, r, e, rx, h⟩ => by
    cases xs with
    | nil => exact h.elim
    | cons y ys =>
      rw [RelL] at rx
      obtain ⟨u, vs, rfl, r1, r2⟩ := rx
      refine ⟨u, vs, rfl, R, F, l, S, y, r, e, r1, ?_⟩
      have h : OkG T X.K R F ((g y l S).seq fun l1 S1 => gzL gs ys l1 S1) Q := h
      cases hg : g y l S with
      | nx l1 S1 =>
        rw [hg] at h
        exact fun R1 F1 H1 σ1 p ex r' e' => ⟨R1, F1, l1, S1, ys, r', e', r2.mono p ex, OkG.mono p ex h⟩
      | _ => rw [hg] at h; exact h.elim
theorem gzL_len : ∀ {gs : List DG} {xs : List PV} {l l' : Loc} {S S' : Sto}, gzL gs xs l S = .nx l' S' → xs.length = gs.length
  | [], [], _, _, _, _, _ => rfl
  | [], _ :: _, _, _, _, _, h => by cases h
  | _ :: _, [], _, _, _, _, h => by cases h
  | g :: gs, x :: xs, l, l', S, S', h => by
    have h : (g x l S).seq (fun l1 S1 => gzL gs xs l1 S1) = .nx l' S' := h
    cases hg : g x l S with
    | nx l1 S1 => rw [hg] at h; rw [List.length_cons, List.length_cons, gzL_len (gs := gs) h]
    | _ => rw [hg] at h; cases h
theorem jgz_t {es : List Expr} {k : Nat} {gs : List DG} (hc : X.calm = true) (h : JGzs T X es gs) (hn : (assignEach es X.env).length = gs.length := by rfl) (hst : (assignEach es X.env).findIdx? (·.1) = none := by rfl) : JGz T X (.Tuple es k pos) (gzT gs) :=
  pg_imp (pg_tup hc h hn hst) fun u σ H Q ⟨R, F, l, S, y, r, e, ry, h⟩ => by
    cases y with
    | nd kd xs =>
      cases kd with
      | tup =>
        rw [Rel] at ry
        obtain ⟨a, us, rfl, hs, hl⟩ := ry
        have h : OkG T X.K R F (gzL gs xs l S) Q := h
        refine ⟨a, us, rfl, SqT.of (r.ex.at_ hs), ?_, R, F, l, S, xs, r, e, hl, h⟩
        cases hg : gzL gs xs l S with
        | nx l1 S1 => rw [hl.length, gzL_len hg]
        | _ => rw [hg] at h; exact h.elim
      | _ => exact h.elim
    | _ => exact h.elim
theorem put_rel {K : PySem.W.Frag} {R : Pl} {F H : Hp} {S S' : Sto} (r : Rep T K R F S H) {o i v : PV} {ou iu vu : V} (ro : Rel T K R F o ou) (ri : Rel T K R F i iu) (rv : Rel T K R F v vu) (h : putP o i v S = some S') {Q : Hp → Prop} (hq : ∀ H', Rep T K R F S' H' → Q H') : rSetL ou iu vu H Q := by
  cases o with
  | ref n =>
    simp only [putP] at h
    split at h
    · rename_i xs hS
      cases i with
      | int k =>
        have := rel_int ri; subst this
        rw [Option.map_eq_some_iff] at h
        obtain ⟨j, h1, rfl⟩ := h
        rw [Rel] at ro
        obtain ⟨a, rfl, ha⟩ := ro
        obtain ⟨hf, us, hl, hx⟩ := r.live n a .lst xs ha hS
        have hl : H a = some (.lst us) := hl
        refine ⟨a, us, k, j, rfl, rfl, hl, by rw [hx.length]; exact h1, hq _ (r.put ha hf (k := .lst) (xs := xs.set j v) upd_same (RelL.set rv j hx))⟩
      | _ => simp at h
    · cases h
  | _ => cases h
theorem jgz_i {o i : Expr} {dO dI : DE} (ho : JE T X E o dO) (hi : JE T X E i dI)
    (ha : ∀ v, assign (.Subscript o i pos) X.env v = (do
      let ov ← holding [v] (eval o X.env)
      let iv ← holding [v, ov] (eval i X.env)
      standAt pos
      holding [v, ov, iv] (setItem ov iv v)
      release [v, ov, iv] []) := by intro _; rfl) : JGz T X (.Subscript o i pos) (gzI dO dI) :=
  pg_imp (pg_sub ho hi set_list ha) fun u σ H Q ⟨R, F, l, S, y, r, e, ry, h⟩ => by
    refine ⟨R, F, l, S, r, e, ?_⟩
    have h : OkG T X.K R F ((dO l S).st l fun x S1 => (dI l S1).st l fun z S2 => match putP x z y S2 with
      | some S3 => .nx l S3
      | none => .bad) Q := h
    cases hd : dO l S with
    | ok x S1 =>
      rw [hd] at h
      intro R1 F1 H1 u1 p ex r1 rx
      have h1 := OkG.mono p ex h
      refine ⟨R1, F1, l, S1, r1, e.mono p ex, ?_⟩
      have h1 : OkG T X.K R1 F1 ((dI l S1).st l fun z S2 => match putP x z y S2 with
        | some S3 => .nx l S3
        | none => .bad) Q := h1
      cases hd2 : dI l S1 with
      | ok z S2 =>
        rw [hd2] at h1
        intro R2 F2 H2 u2 p2 ex2 r2 rz
        have h2 := OkG.mono p2 ex2 h1
        have h2 : OkG T X.K R2 F2 (match putP x z y S2 with
          | some S3 => .nx l S3
          | none => .bad) Q := h2
        split at h2
        · rename_i S3 hp
          exact put_rel r2 (rx.mono p2 ex2) rz ((ry.mono p ex).mono p2 ex2) hp fun H' r' => PostE.here r' ((e.mono p ex).mono p2 ex2) h2
        · exact h2.elim
      | err x' S2 => rw [hd2] at h1; exact h1.elim
      | bad => rw [hd2] at h1; exact h1.elim
    | err x' S1 => rw [hd] at h; exact h.elim
    | bad => rw [hd] at h; exact h.elim

/-! ### statements -/
theorem PostXS.now {K : PySem.W.Frag} {R : Pl} {F : Hp} {l : Loc} {σ : L2.St} {e : XV} {S : Sto} (re : RelE T K R F l σ) (h : PostXS T K R F l e S E) : PostX T K R F e S (E σ) := fun R' F' H cls d p x r rx => h R' F' H σ cls d p x r (re.mono p x) rx
theorem st_v {K : PySem.W.Frag} {σ : L2.St} {H : Hp} {D : Ends} {k : PV → Sto → OutS} {C : VK} {R : Pl} {F : Hp} {l : Loc} {S : Sto} (r : Rep T K R F S H) (e : RelE T K R F l σ) (h : OkS T K R F ((d l S).st l k) D E)
    (hk : ∀ (x : PV) (S1 : Sto) (R1 : Pl) (F1 H1 : Hp) (u : V), Pl.le R R1 → Ex F F1 → Rep T K R1 F1 S1 H1 → Rel T K R1 F1 x u → RelE T K R1 F1 l σ → OkS T K R1 F1 (k x S1) D E → C u H1) : tV T K E d σ H C := by
  refine ⟨R, F, l, S, r, e, ?_⟩
  cases hd : d l S with
  | ok x S1 =>
    rw [hd] at h
    exact fun R1 F1 H1 u p x' r1 rx => hk x S1 R1 F1 H1 u p x' r1 rx (e.mono p x') (OkS.mono p x' h)
  | err e' S1 => rw [hd] at h; exact PostXS.now e h
  | bad => rw [hd] at h; exact h
theorem st_t {K : PySem.W.Frag} {σ : L2.St} {H : Hp} {D : Ends} {c : DB} {k : Bool → Sto → OutS} {C : Bool → Hp → Prop} {R : Pl} {F : Hp} {l : Loc} {S : Sto} (r : Rep T K R F S H) (e : RelE T K R F l σ) (h : OkS T K R F ((c l S).st l k) D E)
    (hk : ∀ (x : Bool) (S1 : Sto) (R1 : Pl) (F1 H1 : Hp), Pl.le R R1 → Ex F F1 → Rep T K R1 F1 S1 H1 → RelE T K R1 F1 l σ → OkS T K R1 F1 (k x S1) D E → C x H1) : tT T K E c σ H C := by
  refine ⟨R, F, l, S, r, e, ?_⟩
  cases hd : c l S with
  | ok x S1 =>
    rw [hd] at h
    exact fun R1 F1 H1 p x' r1 => hk x S1 R1 F1 H1 p x' r1 (e.mono p x') (OkS.mono p x' h)
  | err e' S1 => rw [hd] at h; exact PostXS.now e h
  | bad => rw [hd] at h; exact h
theorem js_expr (h : JE T X E e d) (hs : swapsWith e none pos.line X.env = pure false := by rfl) : JS T X E (.Expr e pos) (dExpr d) :=
  ps_imp (ps_expr h hs) fun D σ H ⟨R, F, l, S, r, e, h⟩ => st_v r e h fun x S1 R1 F1 H1 u p ex r1 rx e1 h1 => PostE.here r1 e1 h1
theorem js_ret (h : JE T X E e d) : JS T X E (.Return (some e) pos) (dRet d) :=
  ps_imp (ps_ret h) fun D σ H ⟨R, F, l, S, r, e, h⟩ => st_v r e h fun x S1 R1 F1 H1 u p ex r1 rx e1 h1 => PostV.here r1 rx h1
theorem js_if {c : Expr} {a b : List Stmt} {dc : DB} {da db : DS} (hc : JT T X E c dc) (ha : JB T X E a da) (hb : JB T X E b db) : JS T X E (.If c a b pos) (dIfS dc da db) :=
  ps_imp (ps_if hc ha hb) fun D σ H ⟨R, F, l, S, r, e, h⟩ => st_t r e h fun x S1 R1 F1 H1 p ex r1 e1 h1 => by
    cases x with
    | true => exact ⟨R1, F1, l, S1, r1, e1, h1⟩
    | false => exact ⟨R1, F1, l, S1, r1, e1, h1⟩
theorem js_set (i : Nat) {pos' : Pos} (hN : X.N.Nodup) (he : JE T X E e d) (hi : X.N[i]? = some x := by rfl) (hx : L2.Loc X.env.scope x := by first | exact Or.inl rfl | exact Or.inr rfl) (hs : swapsWith e (some (.Name x pos')) pos.line X.env = pure false := by rfl) (hf : X.fn x = true ∨ X.env.scope.names.lookup x = some .local := by first | exact .inl rfl | exact .inr rfl) :
    JS T X E (.Assign [.Name x pos'] e pos) (dSet i d) :=
  ps_imp (ps_set hN hi hx he hs hf) fun D σ H ⟨R, F, l, S, r, e, h⟩ => st_v r e h fun x S1 R1 F1 H1 u p ex r1 rx e1 h1 => PostE.here r1 (e1.set i rx) h1
theorem js_asg {tg : Expr} {g : DG} (he : JE T X E e d) (hg : JGz T X tg g) (hs : swapsWithSole [tg] e pos.line X.env = pure false := by rfl) (hw : swappedStores [tg] e X.env = pure none := by rfl)
    (h1 : (assignEach [tg] X.env).map (·.2) = [assign tg X.env] := by rfl) : JS T X E (.Assign [tg] e pos) (dAsg d g) :=
  ps_imp (ps_asg he hg hs hw h1) fun D σ H ⟨R, F, l, S, r, e, h⟩ => st_v r e h fun x S1 R1 F1 H1 u p ex r1 rx e1 h1 => by
    refine ⟨R1, F1, l, S1, x, r1, e1, rx, ?_⟩
    have h1 : OkS T X.K R1 F1 (onlyNx (g x l S1)) D E := h1
    cases hg : g x l S1 with
    | nx l2 S2 => rw [hg] at h1; exact h1
    | _ => rw [hg] at h1; exact h1.elim
/-- a, b = x, y with plain local names -/
def dPar (i j : Nat) (ar : DA) : DS := fun l S => (ar l S).st l fun xs S1 => match xs with
  | [v, w] => .nx ((l.set i (some v)).set j (some w)) S1
  | _ => .bad
def dPar3 (i j k : Nat) (ar : DA) : DS := fun l S => (ar l S).st l fun xs S1 => match xs with
  | [u, v, w] => .nx (((l.set i (some u)).set j (some v)).set k (some w)) S1
  | _ => .bad
theorem st_l {K : PySem.W.Frag} {σ : L2.St} {H : Hp} {D : Ends} {ar : DA} {k : List PV → Sto → OutS} {C : List V → Hp → Prop} {R : Pl} {F : Hp} {l : Loc} {S : Sto} (r : Rep T K R F S H) (e : RelE T K R F l σ) (h : OkS T K R F ((ar l S).st l k) D E)
    (hk : ∀ (x : List PV) (S1 : Sto) (R1 : Pl) (F1 H1 : Hp) (u : List V), Pl.le R R1 → Ex F F1 → Rep T K R1 F1 S1 H1 → RelL T K R1 F1 x u → RelE T K R1 F1 l σ → OkS T K R1 F1 (k x S1) D E → C u H1) : tL T K E ar σ H C := by
  refine ⟨R, F, l, S, r, e, ?_⟩
  cases hd : ar l S with
  | ok x S1 =>
    rw [hd] at h
    exact fun R1 F1 H1 u p x' r1 rx => hk x S1 R1 F1 H1 u p x' r1 rx (e.mono p x') (OkS.mono p x' h)
  | err e' S1 => rw [hd] at h; exact PostXS.now e h
  | bad => rw [hd] at h; exact h
theorem js_par (i j : Nat) {x y : Str} {a b : Expr} {ar : DA} {px py pt : Pos} {kt k2 pt2} (hc : X.calm = true) (hN : X.N.Nodup) (ha : JA T X E [a, b] ar) (hi : X.N[i]? = some x := by rfl) (hj : X.N[j]? = some y := by rfl) (hij : i ≠ j := by decide)
    (hx : X.env.scope.names.lookup x = some .local := by rfl) (hy : X.env.scope.names.lookup y = some .local := by rfl)
    (hw : swappedStores [.Tuple [.Name x px, .Name y py] kt pt] (.Tuple [a, b] k2 pt2) X.env = pure (some [x, y]) := by rfl)
    (hs : swapsWithSole [.Tuple [.Name x px, .Name y py] kt pt] (.Tuple [a, b] k2 pt2) pos.line X.env = pure false := by rfl) : JS T X E (.Assign [.Tuple [.Name x px, .Name y py] kt pt] (.Tuple [a, b] k2 pt2) pos) (dPar i j ar) :=
  ps_imp (ps_par hc hN hi hj hij hx hy ha hw hs) fun D σ H ⟨R, F, l, S, r, e, h⟩ => st_l r e h fun xs S1 R1 F1 H1 us p ex r1 rx e1 h1 => by
    split at h1
    · obtain ⟨v, w, rfl, r2, r3⟩ := rel2 rx
      exact ⟨v, w, rfl, PostE.here r1 ((e1.set i r2).set j r3) h1⟩
    · exact h1.elim

/-! ### blocks -/
theorem seq_s {K : PySem.W.Frag} {R : Pl} {F : Hp} {o : OutS} {k : Loc → Sto → OutS} {D : Ends} {b : DS} (hb : k = b) (h : OkS T K R F (o.seq k) D E) : OkS T K R F o { D with nx := tS T K E b D } E := by
  subst hb
  cases o with
  | nx l S => exact fun R1 F1 H1 σ p ex r e => ⟨R1, F1, l, S, r, e, OkS.mono p ex h⟩
  | ret v S => exact h
  | brk l S => exact h
  | cnt l S => exact h
  | err e l S => exact h
  | bad => exact h
theorem jb_nil : JB T X E [] dSkip := pss_imp pss_nil fun D σ H ⟨R, F, l, S, r, e, h⟩ => PostE.here r e h
theorem jb_one {st : Stmt} {ds : DS} (h : JS T X E st ds) : JB T X E [st] ds := pss_one h
theorem jb_cons {st : Stmt} {rest : List Stmt} {ds db : DS} (h : JS T X E st ds) (hr : JB T X E rest db) : JB T X E (st :: rest) (dSeq ds db) :=
  pss_imp (pss_cons h hr) fun D σ H ⟨R, F, l, S, r, e, h⟩ => ⟨R, F, l, S, r, e, seq_s rfl h⟩

/-! ### for -/
def forZ (t : TgZ) (hs : List (PV × Kd × List PV)) (b : DS) : List PV → Loc → Sto → OutS
  | [], l, S => .nx l S
  | x :: xs, l, S => match asg t x with
    | none => .bad
    | some ps => match b (setZ l ps) S with
      | .nx l1 S1 => if heldB hs S1 = true then forZ t hs b xs l1 S1 else .bad
      | .cnt l1 S1 => if heldB hs S1 = true then forZ t hs b xs l1 S1 else .bad
      | .brk l1 S1 => .nx l1 S1
      | o => o
def dFor (di : DI) (t : TgZ) (b : DS) : DS := fun l S => (di l S).st l fun it S1 => if heldB it.held S1 = true then forZ t it.held b it.items l S1 else .bad
theorem js_for {tg iter : Expr} {body : List Stmt} {di : DI} {t : TgZ} {b : DS} (hp : PassesOwn (model X.prog X.w) X.A X.env X.xe) (hc : X.calm = true) (hi : JI T X E tg iter di) (hg : JG X tg t) (hb : JB T X E body b)
    (hs : ∀ x, foldedSetIterable iter X.env x = pure x := by intro _; rfl) : JS T X E (.For tg iter body [] pos) (dFor di t b) := by
  refine ps_imp (ps_for hp hc hi hg hb hs) fun D σ H ⟨R, F, l, S, r, e, h⟩ => ⟨R, F, l, S, r, e, ?_⟩
  unfold dFor at h
  cases hd : di l S with
  | bad => rw [hd] at h; exact h.elim
  | err x S1 => rw [hd] at h; exact PostXS.now e h
  | ok it S1 =>
    rw [hd] at h
    intro R1 F1 H1 J p ex r1 wz
    have h : OkS T X.K R F (if heldB it.held S1 = true then forZ t it.held b it.items l S1 else .bad) D E := h
    split at h
    · rename_i hh
      refine ⟨fun i m σ' H' => m = it.items.length - i ∧ i ≤ it.items.length ∧ ∃ R2 F2 l2 S2, Pl.le R1 R2 ∧ Ex F1 F2 ∧ Rep T X.K R2 F2 S2 H' ∧ RelE T X.K R2 F2 l2 σ' ∧ heldB it.held S2 = true ∧ OkS T X.K R2 F2 (forZ t it.held b (it.items.drop i) l2 S2) D E,
        ⟨_, rfl, Nat.zero_le _, R1, F1, l, S1, Pl.refl R1, Ex.refl F1, r1, e.mono p ex, hh, OkS.mono p ex h⟩, ?_⟩
      rintro i m σ' H' ⟨rfl, hi, R2, F2, l2, S2, p2, ex2, r2, e2, hh2, h2⟩
      by_cases hlt : i < it.items.length
      · refine .inr ⟨wz.goes i R2 F2 H' S2 hlt p2.1 ex2 r2 hh2, fun σ3 H3 => i + 1 ≤ it.items.length ∧ ∃ R2 F2 l2 S2, Pl.le R1 R2 ∧ Ex F1 F2 ∧ Rep T X.K R2 F2 S2 H3 ∧ RelE T X.K R2 F2 l2 σ3 ∧ heldB it.held S2 = true ∧ OkS T X.K R2 F2 (forZ t it.held b (it.items.drop (i + 1)) l2 S2) D E,
          fun σ3 H3 ⟨q1, q2⟩ => ⟨it.items.length - (i + 1), by omega, rfl, q1, q2⟩, fun v H3 y => ?_⟩
        obtain ⟨F3, x, ex3, r3, hx, rv⟩ := wz.yields i R2 F2 H' H3 S2 v hlt p2.1 ex2 r2 hh2 y
        have hdr : it.items.drop i = x :: it.items.drop (i + 1) := by
          rw [List.drop_eq_getElem_cons hlt]
          rw [List.getElem?_eq_getElem hlt] at hx
          cases hx; rfl
        rw [hdr, forZ] at h2
        cases ha : asg t x with
        | none => rw [ha] at h2; exact h2.elim
        | some ps =>
          rw [ha] at h2
          refine gOf_ok r3 t x v l2 σ' ps _ (e2.mono (Pl.refl R2) ex3) rv ha fun qs _ e3 => ⟨R2, F3, setZ l2 ps, S2, r3, e3, ?_⟩
          have h3 := OkS.mono (Pl.refl R2) ex3 h2
          have h3 : OkS T X.K R2 F3 (match b (setZ l2 ps) S2 with
            | .nx l1 S1 => if heldB it.held S1 = true then forZ t it.held b (it.items.drop (i + 1)) l1 S1 else .bad
            | .cnt l1 S1 => if heldB it.held S1 = true then forZ t it.held b (it.items.drop (i + 1)) l1 S1 else .bad
            | .brk l1 S1 => .nx l1 S1
            | o => o) D E := h3
          cases hb2 : b (setZ l2 ps) S2 with
          | nx l4 S4 =>
            rw [hb2] at h3
            simp only at h3
            split at h3
            · rename_i hh4
              exact fun R4 F4 H4 σ4 p4 ex4 r4 e4 => ⟨hlt, R4, F4, l4, S4, p2.trans p4, (ex2.trans ex3).trans ex4, r4, e4, hh4, OkS.mono p4 ex4 h3⟩
            · exact h3.elim
          | cnt l4 S4 =>
            rw [hb2] at h3
            simp only at h3
            split at h3
            · rename_i hh4
              exact fun R4 F4 H4 σ4 p4 ex4 r4 e4 => ⟨hlt, R4, F4, l4, S4, p2.trans p4, (ex2.trans ex3).trans ex4, r4, e4, hh4, OkS.mono p4 ex4 h3⟩
            · exact h3.elim
          | brk l4 S4 => rw [hb2] at h3; exact h3
          | ret v4 S4 => rw [hb2] at h3; exact h3
          | err x4 l4 S4 => rw [hb2] at h3; exact h3
          | bad => rw [hb2] at h3; exact h3.elim
      · have e' : i = it.items.length := by omega
        subst e'
        rw [List.drop_length, forZ] at h2
        exact .inl ⟨wz.stops R2 F2 H' S2 p2.1 ex2 r2 hh2, PostE.here r2 e2 h2⟩
    · exact h.elim

/-! ### while -/
open Classical in
end
end Z
end
end
section
set_option Elab.async false
set_option linter.all false
set_option maxRecDepth 100000
set_option maxHeartbeats 1000000
/-! Z9: list comprehensions. -/
noncomputable section
namespace Z
open PySem PySem.Spec PyProof.Rows L2

section
variable {T : Tb} {K : PySem.W.Frag} {as as' : List Addr} {hid hid' : List (Addr × HO)} {F F' : Hp}
theorem RelL.sh {xs : List PV} {us : List V} (h : RelL T K ⟨as, hid⟩ F xs us) (p : as <+: as') (e : Ex F F') : RelL T K ⟨as', hid'⟩ F' xs us := RelL.mono0 (R := ⟨as, hid⟩) (R' := ⟨as', hid'⟩) p e xs us h
theorem Rel.sh {x : PV} {u : V} (h : Rel T K ⟨as, hid⟩ F x u) (p : as <+: as') (e : Ex F F') : Rel T K ⟨as', hid'⟩ F' x u := Rel.mono0 (R := ⟨as, hid⟩) (R' := ⟨as', hid'⟩) p e x u h
end
section
variable {T : Tb} {K : PySem.W.Frag} {as : List Addr} {hid : List (Addr × HO)} {R : Pl} {F H : Hp} {S : Sto} {D : Addr} {o o' : HO}
theorem Rep.hide (r : Rep T K R F S H) (hD : H D = none) (ho : hidO o = true := by rfl) : Rep T K ⟨R.as, (D, o) :: R.hid⟩ F S (upd H D o) where
  ex := fun a u e => by
    have h : a ≠ D := fun z => by rw [z, r.fnone hD] at e; cases e
    rw [upd_ne h]; exact r.ex a u e
  len := r.len
  nd := r.nd
  there := fun a ha => by
    have h : a ≠ D := fun z => (r.there a ha).1 (by rw [z]; exact hD)
    rw [upd_ne h]; exact r.there a ha
  hidt := fun q hq => by
    rcases List.mem_cons.mp hq with e | hq
    · rw [e]; exact ho
    · exact r.hidt q hq
  ntb := r.ntb
  tabs := tabs_new r.tabs hD
  hidnd := by
    show ((D, o).1 :: R.hid.map Prod.fst).Nodup
    rw [List.nodup_cons]
    refine ⟨fun z => ?_, r.hidnd⟩
    obtain ⟨q, hq, e⟩ := List.mem_map.mp z
    have := (r.hid q hq).1
    rw [e, hD] at this
    cases this
  hid := fun q hq => by
    rcases List.mem_cons.mp hq with e | hq
    · subst e
      exact ⟨upd_same, fun z => (r.there D z).1 hD, r.fnone hD⟩
    · obtain ⟨h1, h2, h3⟩ := r.hid q hq
      have ne : q.1 ≠ D := fun z => by rw [z, hD] at h1; cases h1
      exact ⟨by rw [upd_ne ne]; exact h1, h2, h3⟩
  live := fun n a k xs h1 h2 => by
    obtain ⟨h3, us, h4, h5⟩ := r.live n a k xs h1 h2
    have ne : a ≠ D := fun z => h4.there (by rw [z]; exact hD)
    exact ⟨h3, us, h4.upd ne, h5.sh (List.prefix_refl _) (Ex.refl F)⟩
theorem Rep.rehide (r : Rep T K ⟨as, (D, o) :: hid⟩ F S H) (ho : hidO o' = true := by rfl) : Rep T K ⟨as, (D, o') :: hid⟩ F S (upd H D o') := by
  obtain ⟨d1, d2, d3⟩ := r.hid (D, o) List.mem_cons_self
  have hnd : D ∉ hid.map Prod.fst := by have := r.hidnd; exact (List.nodup_cons.mp this).1
  exact {
    ex := fun a u e => by
      have h : a ≠ D := fun z => by
        have d3 : F D = none := d3
        rw [z, d3] at e; cases e
      rw [upd_ne h]; exact r.ex a u e
    len := r.len
    nd := r.nd
    there := fun a ha => by
      have h : a ≠ D := fun z => d2 (by rw [← z]; exact ha)
      rw [upd_ne h]; exact r.there a ha
    hidt := fun q hq => by
      rcases List.mem_cons.mp hq with e | hq
      · rw [e]; exact ho
      · exact r.hidt q (List.mem_cons_of_mem _ hq)
    ntb := r.ntb
    tabs := tabs_put r.tabs d1 (hidO.plain (o := o) (r.hidt (D, o) List.mem_cons_self))
    hidnd := r.hidnd
    hid := fun q hq => by
      rcases List.mem_cons.mp hq with e | hq
      · subst e
        exact ⟨upd_same, d2, d3⟩
      · obtain ⟨h1, h2, h3⟩ := r.hid q (List.mem_cons_of_mem _ hq)
        have ne : q.1 ≠ D := fun z => hnd (List.mem_map.mpr ⟨q, hq, z⟩)
        exact ⟨by rw [upd_ne ne]; exact h1, h2, h3⟩
    live := fun n a k xs h1 h2 => by
      obtain ⟨h3, us, h4, h5⟩ := r.live n a k xs h1 h2
      have ne : a ≠ D := fun z => d2 (by
        have h1 : as[n]? = some a := h1
        rw [← z]; exact List.mem_of_getElem? h1)
      exact ⟨h3, us, h4.upd ne, h5.sh (List.prefix_refl _) (Ex.refl F)⟩ }
/-- held no longer: from now on it never changes any more -/
theorem Rep.bare (r : Rep T K ⟨as, (D, o) :: hid⟩ F S H) : Ex F (upd F D o) ∧ Rep T K ⟨as, hid⟩ (upd F D o) S H := by
  obtain ⟨d1, d2, d3⟩ := r.hid (D, o) List.mem_cons_self
  have hnd : D ∉ hid.map Prod.fst := by have := r.hidnd; exact (List.nodup_cons.mp this).1
  have d3 : F D = none := d3
  refine ⟨ex_upd d3, {
    ex := fun a u e => by
      by_cases h : a = D
      · subst h; rw [upd_same] at e; cases e; exact .inl d1
      · rw [upd_ne h] at e; exact r.ex a u e
    len := r.len
    nd := r.nd
    there := r.there
    hidt := fun q hq => r.hidt q (List.mem_cons_of_mem _ hq)
    ntb := fun a ps e => by
      by_cases h : a = D
      · rw [h, upd_same] at e
        have q := r.hidt _ List.mem_cons_self
        have e := Option.some.inj e
        rw [e] at q; cases q
      · rw [upd_ne h] at e; exact r.ntb a ps e
    tabs := r.tabs
    hidnd := (List.nodup_cons.mp r.hidnd).2
    hid := fun q hq => by
      obtain ⟨h1, h2, h3⟩ := r.hid q (List.mem_cons_of_mem _ hq)
      have ne : q.1 ≠ D := fun z => hnd (List.mem_map.mpr ⟨q, hq, z⟩)
      exact ⟨h1, h2, by rw [upd_ne ne]; exact h3⟩
    live := fun n a k xs h1 h2 => by
      obtain ⟨h3, us, h4, h5⟩ := r.live n a k xs h1 h2
      have ne : a ≠ D := fun z => d2 (by
        have h1 : as[n]? = some a := h1
        rw [← z]; exact List.mem_of_getElem? h1)
      exact ⟨by rw [upd_ne ne]; exact h3, us, h4, h5.sh (List.prefix_refl _) (ex_upd d3)⟩ }⟩
/-- .. or it becomes a place -/
theorem Rep.bareM {us : List V} {xs : List PV} (r : Rep T K ⟨as, (D, .lst us) :: hid⟩ F S H) (hx : RelL T K ⟨as, hid⟩ F xs us) : Rep T K ⟨as ++ [D], hid⟩ F (S ++ [some (.lst, xs)]) H := by
  obtain ⟨d1, d2, d3⟩ := r.hid (D, .lst us) List.mem_cons_self
  have hnd : D ∉ hid.map Prod.fst := by have := r.hidnd; exact (List.nodup_cons.mp this).1
  have d1 : H D = some (.lst us) := d1
  have d3 : F D = none := d3
  have d2 : D ∉ as := d2
  have hlen : as.length = S.length := r.len
  exact {
    ex := r.ex
    len := by
      show (as ++ [D]).length = _
      rw [List.length_append, List.length_append, hlen]; rfl
    nd := by
      show (as ++ [D]).Nodup
      rw [List.nodup_append]
      exact ⟨r.nd, by simp, fun a ha b hb => by rw [List.mem_singleton.mp hb]; exact fun z => d2 (by rw [← z]; exact ha)⟩
    there := fun a ha => by
      rcases List.mem_append.mp ha with z | z
      · exact r.there a z
      · rw [List.mem_singleton.mp z, d1]; exact ⟨fun z => (nomatch z), fun ps z => by cases z⟩
    hidt := fun q hq => r.hidt q (List.mem_cons_of_mem _ hq)
    ntb := r.ntb
    tabs := r.tabs
    hidnd := (List.nodup_cons.mp r.hidnd).2
    hid := fun q hq => by
      obtain ⟨h1, h2, h3⟩ := r.hid q (List.mem_cons_of_mem _ hq)
      exact ⟨h1, fun z => (List.mem_append.mp z).elim h2 fun z => hnd (List.mem_map.mpr ⟨q, hq, List.mem_singleton.mp z⟩), h3⟩
    live := fun n a k xs' h1 h2 => by
      have h1 : (as ++ [D])[n]? = some a := h1
      by_cases hlt : n < as.length
      · rw [List.getElem?_append_left hlt] at h1
        rw [List.getElem?_append_left (by rw [← hlen]; exact hlt)] at h2
        obtain ⟨h3, us', h4, h5⟩ := r.live n a k xs' h1 h2
        exact ⟨h3, us', h4, h5.sh (List.prefix_append _ _) (Ex.refl F)⟩
      · have hge : as.length ≤ n := Nat.le_of_not_lt hlt
        rw [List.getElem?_append_right hge] at h1
        rw [List.getElem?_append_right (by rw [← hlen]; exact hge)] at h2
        have e0 : n - as.length = 0 := by
          by_cases z : n - as.length = 0
          · exact z
          · rw [List.getElem?_eq_none (by simp; omega)] at h1; cases h1
        have e1 : n - S.length = 0 := by rw [← hlen]; exact e0
        rw [e0] at h1
        rw [e1] at h2
        cases h1; cases h2
        exact ⟨d3, us, d1, hx.sh (List.prefix_append _ _) (Ex.refl F)⟩ }
end

/-! ### slots wiped -/
theorem wipe_get (σ : L2.St) : ∀ (vs : List Nat) (j : Nat), (wipe σ vs)[j]? = if j ∈ vs then (if j < σ.length then some none else none) else σ[j]?
  | [], j => by simp [wipe]
  | v :: vs, j => by
    unfold wipe
    rw [List.getElem?_set, wipe_length, wipe_get σ vs j]
    by_cases h : v = j
    · subst h
      simp
    · have h' : ¬ j = v := fun z => h z.symm
      simp [h, h']
theorem wipeZ_length (l : Loc) : ∀ vs : List Nat, (wipeZ l vs).length = l.length
  | [] => rfl
  | v :: vs => by unfold wipeZ; rw [List.length_set, wipeZ_length l vs]
theorem wipeZ_get (l : Loc) : ∀ (vs : List Nat) (j : Nat), (wipeZ l vs)[j]? = if j ∈ vs then (if j < l.length then some none else none) else l[j]?
  | [], j => by simp [wipeZ]
  | v :: vs, j => by
    unfold wipeZ
    rw [List.getElem?_set, wipeZ_length, wipeZ_get l vs j]
    by_cases h : v = j
    · subst h
      simp
    · have h' : ¬ j = v := fun z => h z.symm
      simp [h, h']
theorem wipe_set {σ : L2.St} {vs : List Nat} {i : Nat} {x : Option V} (h : i ∈ vs) : wipe (σ.set i x) vs = wipe σ vs := by
  apply List.ext_getElem?
  intro j
  rw [wipe_get, wipe_get, List.length_set]
  by_cases hj : j ∈ vs
  · rw [if_pos hj, if_pos hj]
  · rw [if_neg hj, if_neg hj, List.getElem?_set_ne (fun z => hj (by rw [← z]; exact h))]
theorem wipe_idem {σ : L2.St} {vs : List Nat} : wipe (wipe σ vs) vs = wipe σ vs := by
  apply List.ext_getElem?
  intro j
  rw [wipe_get, wipe_get, wipe_length]
  by_cases hj : j ∈ vs
  · rw [if_pos hj, if_pos hj]
  · rw [if_neg hj, if_neg hj]
theorem wipe_setV {vs : List Nat} : ∀ {qs : List (Nat × V)} {σ : L2.St}, (∀ q ∈ qs, q.1 ∈ vs) → wipe (setV σ qs) vs = wipe σ vs
  | [], σ, _ => rfl
  | q :: qs, σ, h => by
    show wipe (setV (σ.set q.1 (some q.2)) qs) vs = _
    rw [wipe_setV fun p hp => h p (List.mem_cons_of_mem _ hp), wipe_set (h q List.mem_cons_self)]
section
variable {T : Tb} {K : PySem.W.Frag} {R R' : Pl} {F F' : Hp} {l : Loc} {σ : L2.St}
theorem RelE.wipe (h : RelE T K R F l σ) (vs : List Nat) : RelE T K R F (wipeZ l vs) (L2.wipe σ vs) := by
  refine ⟨by rw [wipeZ_length, wipe_length]; exact h.len, fun i v e => ?_⟩
  rw [wipeZ_get] at e
  by_cases hi : i ∈ vs
  · rw [if_pos hi] at e
    split at e <;> cases e
  · rw [if_neg hi] at e
    obtain ⟨u, h1, h2⟩ := h.at_ i v e
    exact ⟨u, by rw [wipe_get, if_neg hi]; exact h1, h2⟩
theorem RelE.mono0 (p : R.as <+: R'.as) (e : Ex F F') (h : RelE T K R F l σ) : RelE T K R' F' l σ :=
  ⟨h.len, fun i v q => let ⟨u, h1, h2⟩ := h.at_ i v q; ⟨u, h1, h2.mono0 p e⟩⟩
end

/-! ### [elt for target in iter if test] -/
def dYes : DB := fun _ S => .ok true S
def lcZ (t : TgZ) (hs : List (PV × Kd × List PV)) (c : DB) (el : DE) (l : Loc) : List PV → Sto → Out (List PV)
  | [], S => .ok [] S
  | x :: xs, S => match asg t x with
    | none => .bad
    | some ps => match c (setZ l ps) S with
      | .ok true S1 => (match el (setZ l ps) S1 with
        | .ok v S2 => if heldB hs S2 = true then (lcZ t hs c el l xs S2).bind fun r S3 => .ok (v :: r) S3 else .bad
        | _ => .bad)
      | .ok false S1 => if heldB hs S1 = true then lcZ t hs c el l xs S1 else .bad
      | _ => .bad
def dLc0 (vs : List Nat) (di : DI) (t : TgZ) (c : DB) (el : DE) : DA := fun l S => (di l S).bind fun it S1 => if heldB it.held S1 = true ∧ it.items.length ≤ 16777216 then lcZ t it.held c el (wipeZ l vs) it.items S1 else .bad
def dLc (vs : List Nat) (di : DI) (t : TgZ) (c : DB) (el : DE) : DE := fun l S => (dLc0 vs di t c el l S).bind fun xs S1 => .ok (.nd .lst xs) S1
def dLcM (vs : List Nat) (di : DI) (t : TgZ) (c : DB) (el : DE) : DE := fun l S => (dLc0 vs di t c el l S).bind fun xs S1 => .ok (.ref S1.length) (S1 ++ [some (.lst, xs)])
abbrev E00 : XS := fun _ _ _ _ => False
section
variable {T : Tb} {X : Cx} {E : XS} {pos : Pos} {elt tg iter : Expr} {ifs : List Expr} {scope : Scope} {own : List (Str × Nat)} {di : DI} {t : TgZ} {c : DB} {el : DE}
abbrev JTs (T : Tb) (X : Cx) (E : XS) (es : List Expr) (d : DB) : Prop := PTs X es (tT T X.K E d)
theorem jts_nil : JTs T X E [] dYes := ⟨fun pins s σ H Q I ⟨R, F, l, S, r, e, h⟩ => pts_nil.run pins s σ H Q I (PostB.here r h)⟩
theorem jts_one {e : Expr} (h : JT T X E e c) : JTs T X E [e] c := pts_one h
/-- what the list is to be at the end: a value that stays, or a place -/
def Fin (T : Tb) (K : PySem.W.Frag) (as : List Addr) (hid : List (Addr × HO)) (F : Hp) (D : Addr) (Q : VK) (xs : List PV) (S : Sto) : Prop :=
  ∀ as' F' H us, as <+: as' → Ex F F' → Rep T K ⟨as', (D, .lst us) :: hid⟩ F' S H → RelL T K ⟨as', hid⟩ F' xs us → Q (.ref D) H
theorem lc_ok {K : PySem.W.Frag} {vs : List Nat} (hvs : ∀ i ∈ t.slots, i ∈ vs) {σ : L2.St} {H1 : Hp} {Q : VK} {R1 : Pl} {F1 : Hp} {l : Loc} {S1 : Sto} {J : It} {it : ItZ} {D : Addr} (r1 : Rep T K R1 F1 S1 H1) (e1 : RelE T K R1 F1 l σ) (wz : WalkZ T K J R1 F1 it) (hh : heldB it.held S1 = true) (hsz : it.items.length ≤ 16777216)
    {xs : List PV} {S9 : Sto} (hl : lcZ t it.held c el (wipeZ l vs) it.items S1 = .ok xs S9) (hq : Fin T K R1.as R1.hid F1 D Q xs S9) (hD : H1 D = none) :
    ∃ W : Nat → Nat → Hp → Prop, (∃ m, W 0 m (upd H1 D (.lst []))) ∧ ∀ i m H, W i m H →
      (J.stop i H ∧ Q (.ref D) H) ∨ (J.go i H ∧ ∃ Nx : Hp → Prop, (∀ H', Nx H' → ∃ m', m' < m ∧ W (i + 1) m' H') ∧ ∀ x H', J.yld i H x H' → gOf K t x (wipe σ vs) H' fun σ2 H2 => wipe σ2 vs = wipe σ vs ∧ tT T K E00 c σ2 H2 fun b H3 =>
        if b = true then tV T K E00 el σ2 H3 fun y H4 => ∃ acc, H4 D = some (.lst acc) ∧ acc.length < sizeLine ∧ Nx (upd H4 D (.lst (acc ++ [y]))) else Nx H3) := by
  let Inn : Nat → Hp → Prop := fun i H' => ∃ as2 F2 S2 acc us rest, R1.as <+: as2 ∧ Ex F1 F2 ∧ Rep T K ⟨as2, (D, .lst us) :: R1.hid⟩ F2 S2 H' ∧ RelL T K ⟨as2, R1.hid⟩ F2 acc us ∧ heldB it.held S2 = true ∧ acc.length ≤ i ∧ lcZ t it.held c el (wipeZ l vs) (it.items.drop i) S2 = .ok rest S9 ∧ xs = acc ++ rest
  refine ⟨fun i m H' => m = it.items.length - i ∧ i ≤ it.items.length ∧ Inn i H', ⟨_, rfl, Nat.zero_le _, R1.as, F1, S1, [], [], xs, List.prefix_refl _, Ex.refl F1, r1.hide hD, .nil, hh, Nat.le_refl _, hl, rfl⟩, ?_⟩
  rintro i m H' ⟨rfl, hi, as2, F2, S2, acc, us, rest, p2, ex2, r2, ra, hh2, hacc, hr, exs⟩
  by_cases hlt : i < it.items.length
  · refine .inr ⟨wz.goes i _ F2 H' S2 hlt p2 ex2 r2 hh2, fun H3 => i + 1 ≤ it.items.length ∧ Inn (i + 1) H3, fun H3 ⟨q1, q2⟩ => ⟨it.items.length - (i + 1), by omega, rfl, q1, q2⟩, fun v H3 y => ?_⟩
    obtain ⟨F3, x, ex3, r3, hx, rv⟩ := wz.yields i _ F2 H' H3 S2 v hlt p2 ex2 r2 hh2 y
    have hdr : it.items.drop i = x :: it.items.drop (i + 1) := by
      rw [List.drop_eq_getElem_cons hlt]
      rw [List.getElem?_eq_getElem hlt] at hx
      cases hx; rfl
    rw [hdr, lcZ] at hr
    cases ha : asg t x with
    | none => rw [ha] at hr; cases hr
    | some ps =>
      rw [ha] at hr
      simp only at hr
      have e3 : RelE T K ⟨as2, (D, .lst us) :: R1.hid⟩ F3 (wipeZ l vs) (wipe σ vs) := (e1.wipe vs).mono0 p2 (ex2.trans ex3)
      refine gOf_ok r3 t x v (wipeZ l vs) (wipe σ vs) ps _ e3 rv ha fun qs hqs e4 => ⟨by rw [wipe_setV (fun q hq' => hvs q.1 (hqs q hq')), wipe_idem], ⟨_, F3, setZ (wipeZ l vs) ps, S2, r3, e4, ?_⟩⟩
      cases hc : c (setZ (wipeZ l vs) ps) S2 with
      | bad => rw [hc] at hr; cases hr
      | err z S3 => rw [hc] at hr; cases hr
      | ok b S4 =>
        rw [hc] at hr
        intro R5 F5 H5 p5 ex5 r5
        obtain ⟨as5, hid5⟩ := R5
        obtain ⟨p5a, p5b⟩ := p5
        have p5b : hid5 = (D, .lst us) :: R1.hid := p5b
        have p5a : as2 <+: as5 := p5a
        subst p5b
        cases b with
        | false =>
          simp only at hr
          split at hr
          · rename_i hh5
            exact ⟨hlt, as5, F5, S4, acc, us, rest, p2.trans p5a, (ex2.trans ex3).trans ex5, r5, ra.sh p5a (ex3.trans ex5), hh5, by omega, hr, exs⟩
          · cases hr
        | true =>
          simp only [if_true] at hr ⊢
          refine ⟨_, F5, setZ (wipeZ l vs) ps, S4, r5, e4.mono0 p5a ex5, ?_⟩
          cases hel : el (setZ (wipeZ l vs) ps) S4 with
          | bad => rw [hel] at hr; cases hr
          | err z S3 => rw [hel] at hr; cases hr
          | ok w S6 =>
            rw [hel] at hr
            simp only at hr
            intro R7 F7 H7 u7 p7 ex7 r7 rw7
            obtain ⟨as7, hid7⟩ := R7
            obtain ⟨p7a, p7b⟩ := p7
            have p7b : hid7 = (D, .lst us) :: R1.hid := p7b
            have p7a : as5 <+: as7 := p7a
            subst p7b
            split at hr
            · rename_i hh7
              have d7 := (r7.hid (D, .lst us) List.mem_cons_self).1
              have lus : us.length = acc.length := ra.length
              refine ⟨us, d7, by rw [sizeLine_eq, lus]; omega, hlt, ?_⟩
              cases hrest : lcZ t it.held c el (wipeZ l vs) (it.items.drop (i + 1)) S6 with
              | bad => rw [hrest] at hr; cases hr
              | err z S3 => rw [hrest] at hr; cases hr
              | ok rest' S8 =>
                rw [hrest] at hr
                cases hr
                refine ⟨as7, F7, S6, acc ++ [w], us ++ [u7], rest', (p2.trans p5a).trans p7a, ((ex2.trans ex3).trans ex5).trans ex7, r7.rehide, ?_, hh7, ?_, hrest, ?_⟩
                · exact (ra.sh (p5a.trans p7a) ((ex3.trans ex5).trans ex7)).append (.cons (rw7.sh (List.prefix_refl _) (Ex.refl F7)) .nil)
                · rw [List.length_append, List.length_singleton]; omega
                · rw [exs, List.append_assoc]; rfl
            · cases hr
  · have e' : i = it.items.length := by omega
    subst e'
    rw [List.drop_length, lcZ] at hr
    cases hr
    rw [List.append_nil] at exs
    subst exs
    exact .inl ⟨wz.stops _ F2 H' S9 p2 ex2 r2 hh2, hq as2 F2 H' us p2 ex2 r2 ra⟩
/-- the reading of a comprehension -/
theorem lc_t {vs : List Nat} (hvs : ∀ i ∈ t.slots, i ∈ vs) {k : List PV → Sto → Out PV} {σ : L2.St} {H : Hp} {Q : VK} (h : tV T X.K E (fun l S => (dLc0 vs di t c el l S).bind k) σ H Q)
    (hk : ∀ (xs : List PV) (S : Sto) (R : Pl) (F : Hp) (D : Addr), OkV T X.K R F (k xs S) Q (E σ) → Fin T X.K R.as R.hid F D Q xs S) : tLc (tI T X.K E di) (gOf X.K t) (tT T X.K E00 c) (tV T X.K E00 el) vs σ H Q := by
  obtain ⟨R, F, l, S, r, e, h⟩ := h
  refine ⟨R, F, l, S, r, e, ?_⟩
  have h : OkV T X.K R F (((di l S).bind fun it S1 => if heldB it.held S1 = true ∧ it.items.length ≤ 16777216 then lcZ t it.held c el (wipeZ l vs) it.items S1 else .bad).bind k) Q (E σ) := h
  cases hd : di l S with
  | bad => rw [hd] at h; exact h.elim
  | err x S1 => rw [hd] at h; exact h
  | ok it S1 =>
    rw [hd] at h
    intro R1 F1 H1 J p ex r1 wz D hD
    have h : OkV T X.K R F ((if heldB it.held S1 = true ∧ it.items.length ≤ 16777216 then lcZ t it.held c el (wipeZ l vs) it.items S1 else .bad).bind k) Q (E σ) := h
    split at h
    · rename_i hh
      cases hl : lcZ t it.held c el (wipeZ l vs) it.items S1 with
      | ok xs S9 =>
        rw [hl] at h
        exact lc_ok hvs r1 (e.mono p ex) wz hh.1 hh.2 hl (hk xs S9 R1 F1 D (OkV.mono p ex h)) hD
      | err z S9 =>
        exfalso
        have noerr : ∀ (ys : List PV) (S : Sto) (z : XV) (S' : Sto), lcZ t it.held c el (wipeZ l vs) ys S ≠ .err z S' := by
          intro ys
          induction ys with
          | nil => intro S z S' q; cases q
          | cons y ys ih =>
            intro S z S' q
            rw [lcZ] at q
            split at q
            · cases q
            · split at q
              · split at q
                · split at q
                  · rename_i v S2 _ _
                    cases hh : lcZ t it.held c el (wipeZ l vs) ys S2 with
                    | err z' S3 => exact ih S2 z' S3 hh
                    | ok _ _ => rw [hh] at q; cases q
                    | bad => rw [hh] at q; cases q
                  · cases q
                · cases q
              · split at q
                · exact ih _ _ _ q
                · cases q
              · cases q
        exact noerr _ _ _ _ hl
      | bad => rw [hl] at h; exact h.elim
    · exact h.elim
theorem fin_nd {E : XK} {K : PySem.W.Frag} {xs : List PV} {S : Sto} {R : Pl} {F : Hp} {D : Addr} {Q : VK} (h : OkV T K R F (.ok (.nd .lst xs) S) Q E) : Fin T K R.as R.hid F D Q xs S := by
  intro as' F' H us p ex r rx
  obtain ⟨e1, r1⟩ := r.bare
  refine h ⟨as', R.hid⟩ _ H _ ⟨p, rfl⟩ (ex.trans e1) r1 ?_
  rw [Rel]
  exact ⟨D, us, rfl, upd_same, rx.sh (List.prefix_refl _) e1⟩
theorem fin_rf {E : XK} {K : PySem.W.Frag} {xs : List PV} {S : Sto} {R : Pl} {F : Hp} {D : Addr} {Q : VK} (h : OkV T K R F (.ok (.ref S.length) (S ++ [some (.lst, xs)])) Q E) : Fin T K R.as R.hid F D Q xs S := by
  intro as' F' H us p ex r rx
  refine h ⟨as' ++ [D], R.hid⟩ F' H _ ⟨p.trans (List.prefix_append _ _), rfl⟩ ex (r.bareM rx) ?_
  rw [Rel]
  have hlen : as'.length = S.length := r.len
  exact ⟨D, rfl, by show (as' ++ [D])[S.length]? = _; rw [← hlen, List.getElem?_append_right (Nat.le_refl _)]; simp⟩
/-- the block's derivations, in every block of this def -/
structure Blk (T : Tb) (X : Cx) (scope : Scope) (tg : Expr) (ifs : List Expr) (elt : Expr) (t : TgZ) (c : DB) (el : DE) : Prop where
  tg : ∀ (s : Shared) (H : Hp) (C : Addr) (cl : List (Str × Addr)) (fp : List Addr), JG (X.blk s H scope (compEnvC scope cl C X.env) fp) tg t
  ts : ∀ (s : Shared) (H : Hp) (C : Addr) (cl : List (Str × Addr)) (fp : List Addr), JTs T (X.blk s H scope (compEnvC scope cl C X.env) fp) E00 ifs c
  el : ∀ (s : Shared) (H : Hp) (C : Addr) (cl : List (Str × Addr)) (fp : List Addr), JE T (X.blk s H scope (compEnvC scope cl C X.env) fp) E00 elt el
theorem je_lc (own : List (Str × Nat)) (hc : X.calm = true) (hN : X.N.Nodup) (hi : JI T X E tg iter di) (hb : Blk T X scope tg ifs elt t c el) (ok : BlkOk X.N X.env.scope scope own) (hvs : ∀ i ∈ t.slots, i ∈ own.map (·.2) := by decide)
    (hs : ∀ x, foldedSetIterable iter X.env x = pure x := by intro _; rfl) : JE T X E (.ListComp elt [⟨tg, iter, ifs, 0⟩] scope pos) (dLc (own.map (·.2)) di t c el) :=
  pe_imp (pe_lc hc hN hi ok hb.tg hb.ts hb.el hs) fun σ H Q h => lc_t hvs h fun xs S R F D h => fin_nd h
theorem asg_st {d : DE} {i : Nat} {D : Ends} {σ : L2.St} {H : Hp} (h : tS T X.K E (dSet i d) D σ H) : tV T X.K E d σ H fun x H1 => gName i x σ H1 D.nx := by
  obtain ⟨R, F, l, S, r, e, h⟩ := h
  exact st_v r e h fun x S1 R1 F1 H1 u p ex r1 rx e1 h1 => PostE.here r1 (e1.set i rx) h1
theorem js_setLc (i : Nat) (own : List (Str × Nat)) {y : Str} {py spos : Pos} (hc : X.calm = true) (hN : X.N.Nodup) (hi : JI T X E tg iter di) (hb : Blk T X scope tg ifs elt t c el) (ok : BlkOk X.N X.env.scope scope own) (hy : X.N[i]? = some y := by rfl) (hyl : X.env.scope.names.lookup y = some .local := by rfl)
    (hsw : swapsWith (.ListComp elt [⟨tg, iter, ifs, 0⟩] scope pos) (some (.Name y py)) spos.line X.env = pure true := by rfl) (hvs : ∀ i ∈ t.slots, i ∈ own.map (·.2) := by decide)
    (hs : ∀ x, foldedSetIterable iter X.env x = pure x := by intro _; rfl) : JS T X E (.Assign [.Name y py] (.ListComp elt [⟨tg, iter, ifs, 0⟩] scope pos) spos) (dSet i (dLc (own.map (·.2)) di t c el)) :=
  ps_imp (ps_setLc hc hN hy hyl hsw hi ok hb.tg hb.ts hb.el hs) fun D σ H h => lc_t hvs (asg_st h) fun xs S R F D h => fin_nd h
theorem js_setLcM (i : Nat) (own : List (Str × Nat)) {y : Str} {py spos : Pos} (hc : X.calm = true) (hN : X.N.Nodup) (hi : JI T X E tg iter di) (hb : Blk T X scope tg ifs elt t c el) (ok : BlkOk X.N X.env.scope scope own) (hy : X.N[i]? = some y := by rfl) (hyl : X.env.scope.names.lookup y = some .local := by rfl)
    (hsw : swapsWith (.ListComp elt [⟨tg, iter, ifs, 0⟩] scope pos) (some (.Name y py)) spos.line X.env = pure true := by rfl) (hvs : ∀ i ∈ t.slots, i ∈ own.map (·.2) := by decide)
    (hs : ∀ x, foldedSetIterable iter X.env x = pure x := by intro _; rfl) : JS T X E (.Assign [.Name y py] (.ListComp elt [⟨tg, iter, ifs, 0⟩] scope pos) spos) (dSet i (dLcM (own.map (·.2)) di t c el)) :=
  ps_imp (ps_setLc hc hN hy hyl hsw hi ok hb.tg hb.ts hb.el hs) fun D σ H h => lc_t hvs (asg_st h) fun xs S R F D h => fin_rf h
end
end Z
end
end
section
set_option Elab.async false
set_option linter.all false
set_option maxRecDepth 100000
set_option maxHeartbeats 1000000
/-! ZF: defs. -/
noncomputable section
namespace Z
open PySem PySem.Spec PyProof.Rows L2

/-! ### what a def leaves behind: its own places are closed -/
mutual
def fits (n : Nat) : PV → Bool
  | .ref m => decide (m < n)
  | .nd _ xs => fitsL n xs
  | _ => true
def fitsL (n : Nat) : List PV → Bool
  | [] => true
  | x :: xs => fits n x && fitsL n xs
end
def optMap (g : PV → Option PV) : List PV → Option (List PV)
  | [] => some []
  | x :: xs => (g x).bind fun y => (optMap g xs).map fun ys => y :: ys
def thaw : Nat → Nat → Sto → PV → Option PV
  | 0, _, _, _ => none
  | f + 1, n, S, .ref m => if m < n then some (.ref m) else match S[m]? with
    | some (some (k, xs)) => (optMap (thaw f n S) xs).map fun ys => .nd k ys
    | _ => none
  | f + 1, n, S, .nd k xs => if fitsL n xs = true then some (.nd k xs) else (optMap (thaw f n S) xs).map fun ys => .nd k ys
  | _ + 1, _, _, x => some x
def fitsO (n : Nat) (o : Option (Kd × List PV)) : Bool := match o with
  | some (_, xs) => fitsL n xs
  | none => true
/-- the old places are as they were, or they look at one another alone -/
def fitsS (S S1 : Sto) : Bool := (List.range S.length).all fun i => decide (S1[i]? = S[i]?) || (match S1[i]? with
  | some o => fitsO S.length o
  | none => false)
theorem fitsS_iff {S S1 : Sto} : fitsS S S1 = true ↔ ∀ i, i < S.length → S1[i]? = S[i]? ∨ ∃ o, S1[i]? = some o ∧ fitsO S.length o = true := by
  unfold fitsS
  rw [List.all_eq_true]
  constructor
  · intro h i hi
    have := h i (List.mem_range.mpr hi)
    rw [Bool.or_eq_true] at this
    rcases this with h1 | h1
    · exact .inl (of_decide_eq_true h1)
    · split at h1
      · rename_i o ho
        exact .inr ⟨o, ho, h1⟩
      · cases h1
  · intro h i hi
    rw [Bool.or_eq_true]
    rcases h i (List.mem_range.mp hi) with h1 | ⟨o, h1, h2⟩
    · exact .inl (decide_eq_true h1)
    · exact .inr (by rw [h1]; exact h2)
def shut (S : Sto) (o : Out PV) : Out PV := match o with
  | .ok v S1 => if S1.length ≤ S.length then .ok v S1 else match thaw 12 S.length S1 v with
    | some w => if fitsS S S1 = true then .ok w (S1.take S.length) else .bad
    | none => .bad
  | .err e S1 => if S1.length ≤ S.length then .err e S1 else match optMap (thaw 12 S.length S1) e.xs with
    | some ws => if fitsS S S1 = true then .err ⟨e.c, e.fs, ws⟩ (S1.take S.length) else .bad
    | none => .bad
  | .bad => .bad
section
variable {T : Tb} {K : PySem.W.Frag} {R : Pl} {F H : Hp} {S : Sto} {n : Nat}
open Classical in
/-- the places from n on, closed -/
def melt (R : Pl) (S : Sto) (n : Nat) (F H : Hp) : Hp := fun b => if ∃ m k xs, n ≤ m ∧ R.as[m]? = some b ∧ S[m]? = some (some (k, xs)) then H b else F b
theorem melt_ex (r : Rep T K R F S H) : Ex F (melt R S n F H) := fun a u e => by
  unfold melt
  split
  · exact r.ex a u e
  · exact .inl e
theorem melt_in {m : Nat} {a : Addr} {k : Kd} {xs : List PV} (hm : n ≤ m) (h1 : R.as[m]? = some a) (h2 : S[m]? = some (some (k, xs))) : melt R S n F H a = H a := by
  unfold melt
  rw [if_pos ⟨m, k, xs, hm, h1, h2⟩]
theorem Liv.melt (r : Rep T K R F S H) {m : Nat} {a : Addr} {k : Kd} {xs : List PV} {us : List V} (hm : n ≤ m) (h1 : R.as[m]? = some a) (h2 : S[m]? = some (some (k, xs))) (h : Liv T K H a k us) : Shp T K (melt R S n F H) a k us := by
  have e := melt_in (F := F) (H := H) hm h1 h2
  cases k with
  | tup => exact h.elim
  | scr => exact h.elim
  | lst => exact e.trans h
  | dct t ks => cases t <;> (obtain ⟨q1, kk, q2, q3⟩ := h; exact ⟨q1, kk, q2, .inl (e.trans q3)⟩)
  | ins c fs => obtain ⟨q1, dx, q2⟩ := h; exact ⟨q1, dx, e.trans q2⟩
  | exn c fs => exact h.elim
  | clo a0 c0 q0 us0 => exact h.elim
mutual
theorem fits_rel (r : Rep T K R F S H) : ∀ (x : PV) (u : V), fits n x = true → Rel T K R F x u → Rel T K ⟨R.as.take n, R.hid⟩ (melt R S n F H) x u
  | .non, u, _, h => by rw [Rel] at h ⊢; exact h
  | .bl b, u, _, h => by rw [Rel] at h ⊢; exact h
  | .int i, u, _, h => by rw [Rel] at h ⊢; exact h
  | .str s, u, _, h => by rw [Rel] at h ⊢; exact h
  | .ty n, u, _, h => by rw [Rel] at h ⊢; exact h
  | .cls c, u, _, h => by rw [Rel] at h ⊢; exact h
  | .ref m, u, f, h => by
    rw [fits] at f
    have f := of_decide_eq_true f
    rw [Rel] at h ⊢
    obtain ⟨a, h1, h2⟩ := h
    exact ⟨a, h1, by rw [List.getElem?_take_of_lt f]; exact h2⟩
  | .nd k xs, u, f, h => by
    rw [fits] at f
    rw [Rel] at h ⊢
    obtain ⟨a, us, h1, h2, h3⟩ := h
    exact ⟨a, us, h1, h2.mono (melt_ex r), fitsL_rel r xs us f h3⟩
theorem fitsL_rel (r : Rep T K R F S H) : ∀ (xs : List PV) (us : List V), fitsL n xs = true → RelL T K R F xs us → RelL T K ⟨R.as.take n, R.hid⟩ (melt R S n F H) xs us
  | [], us, _, h => by rw [RelL] at h ⊢; exact h
  | x :: xs, us, f, h => by
    rw [fitsL, Bool.and_eq_true] at f
    rw [RelL] at h ⊢
    obtain ⟨u, vs, h1, h2, h3⟩ := h
    exact ⟨u, vs, h1, fits_rel r x u f.1 h2, fitsL_rel r xs vs f.2 h3⟩
end
theorem optMap_rel {R' : Pl} {F' : Hp} {g : PV → Option PV} (hg : ∀ x y u, g x = some y → Rel T K R F x u → Rel T K R' F' y u) : ∀ (xs ys : List PV) (us : List V), optMap g xs = some ys → RelL T K R F xs us → RelL T K R' F' ys us
  | [], ys, us, h, r => by cases h; rw [RelL] at r ⊢; exact r
  | x :: xs, ys, us, h, r => by
    rw [optMap, Option.bind_eq_some_iff] at h
    obtain ⟨y, h1, h2⟩ := h
    rw [Option.map_eq_some_iff] at h2
    obtain ⟨ys', h3, rfl⟩ := h2
    rw [RelL] at r ⊢
    obtain ⟨u, vs, e, r1, r2⟩ := r
    exact ⟨u, vs, e, hg x y u h1 r1, optMap_rel hg xs ys' vs h3 r2⟩
theorem thaw_rel (r : Rep T K R F S H) : ∀ (f : Nat) (x y : PV) (u : V), thaw f n S x = some y → Rel T K R F x u → Rel T K ⟨R.as.take n, R.hid⟩ (melt R S n F H) y u
  | 0, x, y, u, h, _ => by cases h
  | f + 1, x, y, u, h, hr => by
    cases x with
    | ref m =>
      rw [thaw] at h
      split at h
      · rename_i hm
        cases h
        exact fits_rel r (.ref m) u (by rw [fits]; exact decide_eq_true hm) hr
      · rename_i hm
        split at h
        · rename_i k xs hS
          rw [Option.map_eq_some_iff] at h
          obtain ⟨ys, h1, rfl⟩ := h
          rw [Rel] at hr
          obtain ⟨a, rfl, ha⟩ := hr
          obtain ⟨_, us, hl, hx⟩ := r.live m a k xs ha hS
          rw [Rel]
          exact ⟨a, us, rfl, hl.melt r (by omega) ha hS, optMap_rel (thaw_rel r f) xs ys us h1 hx⟩
        · cases h
    | nd k xs =>
      rw [thaw] at h
      split at h
      · rename_i hf
        cases h
        exact fits_rel r (.nd k xs) u (by rw [fits]; exact hf) hr
      · rw [Option.map_eq_some_iff] at h
        obtain ⟨ys, h1, rfl⟩ := h
        rw [Rel] at hr ⊢
        obtain ⟨a, us, e, h2, h3⟩ := hr
        exact ⟨a, us, e, h2.mono (melt_ex r), optMap_rel (thaw_rel r f) xs ys us h1 h3⟩
    | _ => cases h; exact fits_rel r _ u (by rfl) hr
theorem Rep.shut (r : Rep T K R F S H) (hf : ∀ m k xs, m < n → S[m]? = some (some (k, xs)) → fitsL n xs = true) : Rep T K ⟨R.as.take n, R.hid⟩ (melt R S n F H) (S.take n) H where
  ex := fun a u e => by
    unfold melt at e
    split at e
    · exact .inl e
    · exact r.ex a u e
  len := by
    show (R.as.take n).length = _
    rw [List.length_take, List.length_take, r.len]
  nd := r.nd.sublist (List.take_sublist _ _)
  there := fun a ha => r.there a (List.mem_of_mem_take ha)
  hidt := r.hidt
  ntb := fun a ps e => by
    unfold melt at e
    split at e
    · rename_i q
      obtain ⟨m, k, xs, _, q1, q2⟩ := q
      obtain ⟨_, us, h4, _⟩ := r.live m a k xs q1 q2
      obtain ⟨u, h5, h6⟩ := h4.plain
      rw [h5] at e; cases e; cases h6
    · exact r.ntb a ps e
  tabs := r.tabs
  hidnd := r.hidnd
  hid := fun q hq => by
    obtain ⟨h1, h2, h3⟩ := r.hid q hq
    refine ⟨h1, fun z => h2 (List.mem_of_mem_take z), ?_⟩
    unfold melt
    rw [if_neg]
    · exact h3
    · rintro ⟨m, k, xs, _, z, _⟩
      exact h2 (List.mem_of_getElem? z)
  live := fun m a k xs h1 h2 => by
    have hm : m < n := by
      have := (List.getElem?_eq_some_iff.mp h2).1
      rw [List.length_take] at this
      omega
    have h1 : (R.as.take n)[m]? = some a := h1
    rw [List.getElem?_take_of_lt hm] at h1 h2
    obtain ⟨h3, us, h4, h5⟩ := r.live m a k xs h1 h2
    have hfx : fitsL n xs = true := hf m k xs hm h2
    refine ⟨?_, us, h4, fitsL_rel r xs us hfx h5⟩
    unfold melt
    rw [if_neg]
    · exact h3
    · rintro ⟨m', k', xs', hge, z, _⟩
      have := (List.getElem?_inj (List.getElem?_eq_some_iff.mp h1).1 r.nd).mp (h1.trans z.symm)
      omega
mutual
theorem rel_fits : ∀ (x : PV) (u : V), Rel T K R F x u → fits R.as.length x = true
  | .non, u, h => by rfl
  | .bl b, u, h => by rfl
  | .int i, u, h => by rfl
  | .str s, u, h => by rfl
  | .ty n, u, h => by rfl
  | .cls c, u, h => by rfl
  | .ref m, u, h => by
    rw [Rel] at h
    obtain ⟨a, h1, h2⟩ := h
    rw [fits]
    exact decide_eq_true (List.getElem?_eq_some_iff.mp h2).1
  | .nd k xs, u, h => by
    rw [Rel] at h
    obtain ⟨a, us, h1, h2, h3⟩ := h
    rw [fits]
    exact rel_fitsL xs us h3
theorem rel_fitsL : ∀ (xs : List PV) (us : List V), RelL T K R F xs us → fitsL R.as.length xs = true
  | [], us, h => by rfl
  | x :: xs, us, h => by
    rw [RelL] at h
    obtain ⟨u, vs, h1, h2, h3⟩ := h
    rw [fitsL, rel_fits x u h2, rel_fitsL xs vs h3]; rfl
end
theorem fitsS_all (r : Rep T K R F S H) {S1 : Sto} (h : fitsS S S1 = true) : ∀ m k xs, m < S.length → S1[m]? = some (some (k, xs)) → fitsL S.length xs = true := fun m k xs hm e => by
  rcases fitsS_iff.mp h m hm with q | ⟨o, q1, q2⟩
  · rw [e] at q
    have hm' : m < R.as.length := by rw [r.len]; exact hm
    have ha : R.as[m]? = some R.as[m] := List.getElem?_eq_getElem hm'
    obtain ⟨_, us, _, hx⟩ := r.live m _ k xs ha q.symm
    have := rel_fitsL xs us hx
    rw [r.len] at this
    exact this
  · rw [e] at q1
    cases q1
    exact q2
theorem take_pl {R R' : Pl} (p : Pl.le R R') : (⟨R'.as.take R.as.length, R'.hid⟩ : Pl) = R := by
  obtain ⟨⟨t, e⟩, h⟩ := p
  rw [← e, h, List.take_left]
theorem shut_ok {E : XK} {Q : VK} {o : Out PV} (r0 : Rep T K R F S H) (h : OkV T K R F (shut S o) Q E) : OkV T K R F o Q E := by
  have hlen := r0.len
  cases o with
  | ok v S1 =>
    unfold Z.shut at h
    simp only at h
    split at h
    · exact h
    · split at h
      · rename_i w hw
        split at h
        · rename_i hf
          intro R' F' H u p ex r rv
          have r2 := r.shut (fitsS_all r0 hf)
          have rv2 := thaw_rel r 12 v w u hw rv
          rw [← hlen, take_pl p] at r2 rv2
          refine h R _ H u (Pl.refl R) (ex.trans (melt_ex r)) ?_ rv2
          rw [← hlen]; exact r2
        · exact h.elim
      · exact h.elim
  | err e S1 =>
    unfold Z.shut at h
    simp only at h
    split at h
    · exact h
    · split at h
      · rename_i ws hw
        split at h
        · rename_i hf
          intro R' F' H cls d p ex r rx
          have r2 := r.shut (fitsS_all r0 hf)
          rw [← hlen, take_pl p] at r2
          refine h R (melt R' S1 R.as.length F' H) H cls d (Pl.refl R) (ex.trans (melt_ex r)) (by rw [← hlen]; exact r2) ?_
          obtain ⟨h1, h2⟩ := rx
          refine ⟨h1, h2.imp (fun z => z) ?_⟩
          rintro ⟨dd, us, e1, e2, e3, e4, e5⟩
          refine ⟨dd, us, e1, ?_, e3, e4, ?_⟩
          · unfold melt
            rw [if_neg]
            · exact e2
            · rintro ⟨m, k, xs, _, z1, z2⟩
              obtain ⟨_, us', hl, _⟩ := r.live m dd k xs z1 z2
              cases k with
              | tup => exact hl
              | scr => exact hl
              | lst => have hl : H dd = _ := hl; rw [e3] at hl; cases hl
              | dct t ks => cases t <;> (obtain ⟨_, kk, _, q3⟩ := hl; rw [e3] at q3; cases q3)
              | ins c fs => obtain ⟨_, dx, q3⟩ := hl; rw [e3] at q3; cases q3
              | exn c fs => exact hl
              | clo a0 c0 q0 us0 => exact hl
          · have := optMap_rel (thaw_rel r 12) e.xs ws us (by rw [← hlen] at hw; exact hw) e5
            rw [take_pl p] at this
            exact this
        · exact h.elim
      · exact h.elim
  | bad => exact h.elim
end

/-! ### a def by its body -/
def dDef0 (n m : Nat) (b : DS) : DF := fun xs S => if xs.length = n then (match b (xs.map some ++ List.replicate (m - n) none) S with
  | .nx _ S1 => .ok .non S1
  | .ret v S1 => .ok v S1
  | .err e _ S1 => .err e S1
  | _ => .bad) else .bad
def dDef (n m : Nat) (b : DS) : DF := fun xs S => shut S (dDef0 n m b xs S)
structure FnG (T : Tb) (P : Program) (w : World) (K : PySem.W.Frag) (mg : Str → Option Value) (base : Heap) (k : Nat) (f : Addr) (fd : FuncData) (ps : List Str) (d : DF) : Prop where
  run : ∀ (A : Around) (outer : List Env) (s : Shared) (H : Hp) (args : Args) (us : List Value) (vs : List V) (Q : VK) (E : XK), Room k A → A.guards = some [] → Env0 P w K mg base A outer s H → BindsTo s fd args (ps.zip us) → Vals vs us → spOf T K ps.length d vs H Q E →
    codeAny (model P w) A (.call (.ref f) args) (CR (L2.CX P w) outer P w H s Q E) s
theorem FnG.mono {T : Tb} {P : Program} {w : World} {K : PySem.W.Frag} {mg : Str → Option Value} {base : Heap} {j k : Nat} {f : Addr} {fd : FuncData} {ps : List Str} {d : DF} (g : FnG T P w K mg base j f fd ps d) (h : j ≤ k) : FnG T P w K mg base k f fd ps d :=
  ⟨fun A outer s H args us vs Q E hr => g.run A outer s H args us vs Q E (hr.mono h)⟩
theorem rel_start {T : Tb} {K : PySem.W.Frag} {R : Pl} {F : Hp} {N : List Str} {xs : List PV} {vs : List V} (h : RelL T K R F xs vs) : RelE T K R F (xs.map some ++ List.replicate (N.length - xs.length) none) (L2.start N vs) := by
  have hl := h.length
  unfold L2.start
  refine ⟨by simp [hl], fun i v e => ?_⟩
  by_cases hi : i < xs.length
  · rw [List.getElem?_append_left (by simpa using hi), List.getElem?_map] at e
    rw [List.getElem?_eq_getElem hi] at e
    cases e
    obtain ⟨u, h1, h2⟩ := h.get (List.getElem?_eq_getElem hi)
    refine ⟨u, ?_, h2⟩
    rw [List.getElem?_append_left (by rw [List.length_map, hl]; exact hi), List.getElem?_map, h1]; rfl
  · rw [List.getElem?_append_right (by simp; omega), List.getElem?_replicate] at e
    split at e <;> cases e
section
variable {T : Tb} {P : Program} {w : World} {K : PySem.W.Frag} {mg : Str → Option Value} {base : Heap} {x qual : Str} {params : Arguments} {body : List Stmt} {scope : Scope} {dvs : List V} {kws : List (Str × V)} {f : Addr} {fd : FuncData} {N ps : List Str} {k : Nat} {b : DS}
theorem def_ok0 {vs : List V} {H : Hp} {Q : VK} {E : XK} (h : spOf T K ps.length (dDef0 ps.length N.length b) vs H Q E) : tS T K (fun _ => E) b { nx := fun _ H' => Q .non H', rt := Q } (L2.start N vs) H := by
  obtain ⟨hl, R, F, S, xs, r, rx, h⟩ := h
  have hx : xs.length = ps.length := by rw [← rx.length]; exact hl
  unfold dDef0 at h
  rw [if_pos hx] at h
  refine ⟨R, F, _, S, r, rel_start rx, ?_⟩
  rw [hx]
  cases hb : b (xs.map some ++ List.replicate (N.length - ps.length) none) S with
  | nx l1 S1 =>
    rw [hb] at h
    exact fun R1 F1 H1 σ p ex r1 _ => h R1 F1 H1 .non p ex r1 (by rw [Rel])
  | ret v S1 => rw [hb] at h; exact h
  | err e l1 S1 => rw [hb] at h; exact fun R' F' H' σ' cls d p x r1 _ rx1 => h R' F' H' cls d p x r1 rx1
  | brk l1 S1 => rw [hb] at h; exact h.elim
  | cnt l1 S1 => rw [hb] at h; exact h.elim
  | bad => rw [hb] at h; exact h.elim
theorem def_ok {vs : List V} {H : Hp} {Q : VK} {E : XK} (h : spOf T K ps.length (dDef ps.length N.length b) vs H Q E) : tS T K (fun _ => E) b { nx := fun _ H' => Q .non H', rt := Q } (L2.start N vs) H := by
  obtain ⟨hl, R, F, S, xs, r, rx, h⟩ := h
  exact def_ok0 ⟨hl, R, F, S, xs, r, rx, shut_ok r h⟩
/-- the code of the function at f -/
def codeOf (K : PySem.W.Frag) (f : Addr) : Value := match K.lookup f with
  | some ⟨_, _, .func fd, _⟩ => fd.code
  | _ => .none
theorem fng_of_ok {d : DF} (hd : ∀ (vs : List V) (H : Hp) (Q : VK) (E : XK), spOf T K ps.length d vs H Q E → tS T K (fun _ => E) b { nx := fun _ H' => Q .non H', rt := Q } (L2.start N vs) H) (G : FunD K x qual params body scope dvs kws f fd) (S : FnScope N ps scope)
    (hb : ∀ (cdv : Value) (_ : codeOf K f = cdv) (A : Around) (outer : List Env) (s : Shared) (H : Hp) (E : XK), Cg (cxOf (L2.CX P w) P w K mg base N qual scope f cdv A outer s H E) (fun _ => E) k → JB T (cxOf (L2.CX P w) P w K mg base N qual scope f cdv A outer s H E) (fun _ => E) body b) :
    FnG T P w K mg base (k + 1) f fd ps d := by
  obtain ⟨oc, od, dV, kV, doc, pm, an, cdv, ct, osl, rfl, lk, hcd, _, _⟩ := G.ex
  refine ⟨fun A outer s H args us vs Q E hr hgd e0 hbi r hsp => ?_⟩
  have hlen : vs.length = ps.length := hsp.1
  have inK : K.In s.heap := e0.mod.kin.keeps fun b o e => (e0.bs b o e).1
  have nolim : s.heap.NoLimit := e0.mod.nolimit.keeps fun b o e => (e0.bs b o e).1
  have kinds : ∀ y ∈ ps.zip us, scope.names.lookup y.1 = some .local ∨ (scope.names.lookup y.1 = some .cell ∧ ((cellsFrom (s.heap.objs.size + 1) scope.names []).lookup y.1).isSome = true) := fun y hy => by
    rcases S.par y.1 (List.of_mem_zip (a := y.1) (b := y.2) hy).1 with q | q
    · exact .inl q
    · exact .inr ⟨q, PySem.W.cellsFrom_some _ _ _ (.inl q)⟩
  refine codeAny_call_function hr.depth (inK _ _ lk) rfl S.co S.gen rfl (PySem.W.codeRec_of inK hcd) (hbi _ _ _ _ ?_)
  refine wpAny_newFunctionEnv_cells S.kind kinds fun env he s1 xc => ?_
  subst he
  refine ⟨nolim.keeps xc.toInCall.keep, codeAny_func ?_⟩
  have I : Inv (cxOf (L2.CX P w) P w K mg base N qual scope f cdv A outer s H E) [] (L2.start N vs) H s1 := inv_start S hr.hd e0 hlen r xc
  have cg : Cg (cxOf (L2.CX P w) P w K mg base N qual scope f cdv A outer s H E) (fun _ => E) k :=
    ⟨rfl, S.nd, hr.deeper _, hgd, takes_of rfl rfl rfl rfl, passes_of rfl⟩
  have hcode : codeOf K f = cdv := by unfold codeOf; rw [lk]
  have ht := (hb cdv hcode A outer s H E cg).run [] s1 (L2.start N vs) H _ I (hd _ _ _ _ hsp)
  refine wpAny_mono ht (fun fl s' hs => ?_) fun e s' hs => hs
  have fin : ∀ {σ' : L2.St} {H' : Hp} {v : V} {u : Value}, Inv (cxOf (L2.CX P w) P w K mg base N qual scope f cdv A outer s H E) [] σ' H' s' → RelV v u → Q v H' → CE outer P w H s Q u s' :=
    fun {σ' H' v u} J rv q => ⟨v, H', J.os, J.bare, J.base, J.hok, rv, q⟩
  cases fl with
  | next =>
    obtain ⟨σ', H', J, q⟩ := hs
    exact fin (v := V.non) (u := Value.none) J rfl q
  | ret u =>
    obtain ⟨v, σ', H', J, rv, q⟩ := hs
    exact fin J rv q
  | brk => obtain ⟨_, _, _, q⟩ := hs; exact False.elim q
  | cont => obtain ⟨_, _, _, q⟩ := hs; exact False.elim q
theorem fng_of (G : FunD K x qual params body scope dvs kws f fd) (S : FnScope N ps scope)
    (hb : ∀ (cdv : Value) (_ : codeOf K f = cdv) (A : Around) (outer : List Env) (s : Shared) (H : Hp) (E : XK), Cg (cxOf (L2.CX P w) P w K mg base N qual scope f cdv A outer s H E) (fun _ => E) k → JB T (cxOf (L2.CX P w) P w K mg base N qual scope f cdv A outer s H E) (fun _ => E) body b) :
    FnG T P w K mg base (k + 1) f fd ps (dDef ps.length N.length b) := fng_of_ok (fun _ _ _ _ h => def_ok h) G S hb
end

/-- the same of a def whose new places stay -/
theorem fng_of0 {T : Tb} {P : Program} {w : World} {K : PySem.W.Frag} {mg : Str → Option Value} {base : Heap} {x qual : Str} {params : Arguments} {body : List Stmt} {scope : Scope} {dvs : List V} {kws : List (Str × V)} {f : Addr} {fd : FuncData} {N ps : List Str} {k : Nat} {b : DS}
    (G : FunD K x qual params body scope dvs kws f fd) (S : FnScope N ps scope)
    (hb : ∀ (cdv : Value) (_ : codeOf K f = cdv) (A : Around) (outer : List Env) (s : Shared) (H : Hp) (E : XK), Cg (cxOf (L2.CX P w) P w K mg base N qual scope f cdv A outer s H E) (fun _ => E) k → JB T (cxOf (L2.CX P w) P w K mg base N qual scope f cdv A outer s H E) (fun _ => E) body b) :
    FnG T P w K mg base (k + 1) f fd ps (dDef0 ps.length N.length b) := fng_of_ok (fun _ _ _ _ h => def_ok0 h) G S hb
theorem arity_0 {n m : Nat} {b : DS} (xs : List PV) (S : Sto) (h : xs.length ≠ n) : dDef0 n m b xs S = .bad := by unfold dDef0; rw [if_neg h]
theorem arity_d {n m : Nat} {b : DS} (xs : List PV) (S : Sto) (h : xs.length ≠ n) : dDef n m b xs S = .bad := by unfold dDef; rw [arity_0 xs S h]; rfl
theorem kw_of {K : PySem.W.Frag} {x qual : Str} {params : Arguments} {body : List Stmt} {scope : Scope} {kws : List (Str × V)} {f : Addr} {fd : FuncData} {ps : List Str} (F : FunD K x qual params body scope [] kws f fd)
    (h : ∀ (kV doc pm : Value) (an : Option Addr) (cdv ct : Value) (ws : List Value), ws.length = ps.length → bindArgs (PySem.W.fnOf x qual params body scope .none kV doc pm an cdv ct) ⟨[], ps.zip ws⟩ = pure (ps.zip ws)) (s : Shared) (ws : List Value) (_ : K.In s.heap) (hl : ws.length = ps.length) : BindsTo s fd ⟨[], ps.zip ws⟩ (ps.zip ws) := by
  obtain ⟨oc, od, dV, kV, doc, pm, an, cdv, ct, osl, rfl, lk, hcd, hD, hK⟩ := F.ex
  rcases hD with ⟨_, z⟩ | ⟨z, _⟩
  · subst z
    exact .of_eq (h kV doc pm an cdv ct ws hl)
  · exact absurd rfl z


theorem lk_of {K : PySem.W.Frag} {x qual : Str} {params : Arguments} {body : List Stmt} {scope : Scope} {dvs : List V} {kws : List (Str × V)} {f : Addr} {fd : FuncData} (F : FunD K x qual params body scope dvs kws f fd) : ∃ oc od osl, K.lookup f = some ⟨oc, od, .func fd, osl⟩ := by
  obtain ⟨oc, od, _, _, _, _, _, _, _, osl, _, lk, _⟩ := F.ex
  exact ⟨oc, od, osl, lk⟩
/-! ### a def as it is known by its name -/
structure Fn (T : Tb) (P : Program) (w : World) (K : PySem.W.Frag) (mg : Str → Option Value) (base : Heap) (k : Nat) (x : Str) (ps : List Str) (d : DF) : Prop where
  ex : ∃ (f : Addr) (fd : FuncData), mg x = some (.ref f) ∧ PySem.W.keepIn K (.ref f) = true ∧ FnG T P w K mg base k f fd ps d ∧ Binds K fd ps [] ∧ (∀ (s : Shared) (ws : List Value), K.In s.heap → ws.length = ps.length → BindsTo s fd ⟨[], ps.zip ws⟩ (ps.zip ws)) ∧ ∃ oc od osl, K.lookup f = some ⟨oc, od, .func fd, osl⟩
  ar : ∀ (xs : List PV) (S : Sto), xs.length ≠ ps.length → d xs S = .bad
def dFn (d : DF) (ar : DA) : DE := fun l S => (ar l S).bind fun xs S1 => d xs S1
section
variable {T : Tb} {X : Cx} {E : XS} {x : Str} {p pos : Pos} {e : Expr} {es : List Expr} {ps : List Str} {d : DF} {ar : DA} {j k : Nat} {f : Addr} {fd : FuncData} {ds : List Value} {dvs : List V}
theorem run_fng {pins : List (Addr × Obj)} {σ : L2.St} {H : Hp} {s : Shared} {Q : VK} {us : List Value} {vs : List V} (c : Cg X E k) (hj : j ≤ k) (G : FnG T X.prog X.w X.K X.mg X.base j f fd ps d) {args : Args} (hb : BindsTo s fd args (ps.zip us))
    (I : Inv X pins σ H s) (r : Vals vs us) (h : spOf T X.K ps.length d vs H Q (E σ)) : codeAny (model X.prog X.w) X.A (.call (.ref f) args) (fun r s' => match r with
      | .ok (.ret u) => EP X pins σ Q u s'
      | .ok _ => False
      | .error e => X.xe e s') s := by
  refine codeAny_mono (G.run X.A X.stack s H args us vs Q (E σ) (c.room.mono hj) c.gd I.env0 hb r h) fun z s' hq => ?_
  cases z with
  | error e => exact c.pass pins σ H s e s' I hq
  | ok fl =>
    cases fl with
    | ret u => exact I.after hq
    | next => exact False.elim hq
    | brk => exact False.elim hq
    | cont => exact False.elim hq
theorem sp_of {E : XK} {K : PySem.W.Frag} {R : Pl} {F H : Hp} {S : Sto} {xs : List PV} {vs : List V} {Q : VK} {n : Nat} (hl : xs.length = n) (r : Rep T K R F S H) (rx : RelL T K R F xs vs) (h : OkV T K R F (d xs S) Q E) : spOf T K n d vs H Q E :=
  ⟨by rw [rx.length]; exact hl, R, F, S, xs, r, rx, h⟩
/-- f(e, ..), every parameter by its place -/
theorem je_fn (c : Cg X E k) (F : Fn T X.prog X.w X.K X.mg X.base j x ps d) (ha : JA T X E (e :: es) ar) (hj : j ≤ k := by decide) (hn : (e :: es).length = ps.length := by rfl) (hg : Gl X x := by rfl) (hdb : (x == ("__debug__" : Str)) = false := by decide)
    (he : starEach (e :: es) X.env = (false, eval e X.env) :: starEach es X.env := by rfl) (hpl : (backTo pos (starEach es X.env)).any (·.1) = false := by rfl) : JE T X E (.Call (.Name x p) (e :: es) [] pos) (dFn d ar) := by
  obtain ⟨f, fd, hm, hk, G, hb, _⟩ := F.ex
  refine ⟨fun pins s σ H Q I h => ?_⟩
  refine wpAny_Call_Name_kw (ld_glob I hg hm ?_ hdb)
  obtain ⟨R, Fz, l, S, r, e', h⟩ := h
  have hh : tL T X.K E ar σ H fun vs H1 => spOf T X.K ps.length d vs H1 Q (E σ) := seqL (goV T X.K (E σ) Q) r e' h fun xs S1 R1 F1 H1 us p ex r1 rx e1 h1 => by
    have h1 : OkV T X.K R1 F1 (d xs S1) Q (E σ) := h1
    by_cases hl : xs.length = ps.length
    · exact sp_of hl r1 rx h1
    · rw [F.ar xs S1 hl] at h1; exact h1.elim
  refine PySem.W.callWith_K (h₀ := X.base) I.ok.mod.kin hk (thn (ha.run pos pins s σ H _ I hh) fun us s1 ⟨vs, H1, I1, r1, q1⟩ => ⟨I1.kIn, ?_⟩) he hpl
  have hl : us.length = ps.length := by rw [← r1.length]; exact q1.1
  have hb' := hb s1 us I1.kIn (by rw [List.append_nil]; exact hl)
  rw [List.append_nil] at hb'
  refine wpAny_call (codeAny_mono (run_fng c hj G hb' I1 r1 q1) fun z s' hq => ?_)
  cases z with
  | error e => exact hq
  | ok fl => cases fl with
    | ret u => exact hq
    | _ => exact False.elim hq
end
end Z
end
section
set_option Elab.async false
set_option linter.all false
set_option maxRecDepth 100000
set_option maxHeartbeats 1000000
/-! ZM: methods of built-in things, calls by keywords, the law's end. -/
noncomputable section
namespace Z
open PySem PySem.Spec PyProof.Rows L2

theorem Cg.blk {X : Cx} {E : XS} {k : Nat} (c : Cg X E k) {s : Shared} {H : Hp} {scope : Scope} {env : Env} {fp : List Addr} : Cg (X.blk s H scope env fp) E00 k :=
  ⟨c.calm, c.nd, c.room, c.gd, takes0, PassesOwn.never⟩
/-! ### o.m(..) -/
def MetZ (T : Tb) (K : PySem.W.Frag) (f : PV → List PV → Sto → Out PV) (r : V → List V → Hp → VK → Prop) : Prop := ∀ (E : XK) (R : Pl) (F H : Hp) (S : Sto) (x : PV) (xs : List PV) (u : V) (us : List V) (Q : VK), Rep T K R F S H → Rel T K R F x u → RelL T K R F xs us → OkV T K R F (f x xs S) Q E → r u us H Q
def tyOk (n : String) (x : PV) (S : Sto) : Bool := match tyZ x S with
  | some t => t == n && (n == "str" || n == "int" || n == "list")
  | none => false
def dMet (n : String) (f : PV → List PV → Sto → Out PV) (o : DE) (ar : DA) : DE := fun l S => (o l S).bind fun x S1 => if tyOk n x S1 = true then (ar l S1).bind fun xs S2 => f x xs S2 else .bad
section
variable {T : Tb} {X : Cx} {E : XS} {o e : Expr} {es : List Expr} {dO : DE} {ar : DA} {name : Str} {apos cpos : Pos} {n id : String} {f : PV → List PV → Sto → Out PV} {r : V → List V → Hp → VK → Prop}
theorem tyOk_v {K : PySem.W.Frag} {R : Pl} {F H : Hp} {S : Sto} (re : Rep T K R F S H) {x : PV} {u : V} (rx : Rel T K R F x u) (h : tyOk n x S = true) : tyV K n u H := by
  unfold tyOk at h
  split at h
  · rename_i t ht
    rw [Bool.and_eq_true] at h
    have e := eq_of_beq h.1
    subst e
    have h2 := h.2
    cases x with
    | str z => cases ht; rw [rel_str rx]; rfl
    | int z => cases ht; rw [rel_int rx]; rfl
    | non => cases ht; simp at h2
    | bl b => cases ht; simp at h2
    | _ =>
      all_goals
        simp only [tyZ] at ht
        split at ht
        · rename_i ys hv
          cases ht
          obtain ⟨a, us, rfl, hs, hl⟩ := view_rel re rx hv
          exact .inl ⟨rfl, us, (shp_rd hs).1 (.inl rfl)⟩
        · rename_i ys hv
          cases ht
          obtain ⟨a, us, rfl, hs, hl⟩ := view_rel re rx hv
          exact .inl ⟨rfl, us, (shp_rd hs).1 (.inr rfl)⟩
        · cases ht; simp at h2
        · cases ht; simp at h2
        · cases ht
  · cases h
theorem je_met (pa : PlainAttrs n) (slot : Slot n name id) (hty : typeOf (.builtin id) = pure (.type "method_descriptor")) (hm : MtR X id r) (hz : MetZ T X.K f r) (ho : JE T X E o dO) (ha : JA T X E (e :: es) ar)
    (hbase : attributeBase o name X.env (eval o X.env) = eval o X.env := by rfl)
    (hfew : ((backTo cpos (starEach (e :: es) X.env)).all (fun x => !x.1) && (backToKw cpos (keywordEach [] X.env)).all (fun x => x.1.isSome)
      && decide ((e :: es).length + ([] : List Keyword).length + (if ([] : List Keyword).isEmpty then 0 else 1) < 30)) = true := by rfl)
    (hline : (apos.endLine == cpos.line) = true := by rfl) (hs : starEach (e :: es) X.env = (false, eval e X.env) :: starEach es X.env := by rfl) (hplain : (backTo cpos (starEach es X.env)).any (·.1) = false := by rfl) :
    JE T X E (.Call (.Attribute o name apos) (e :: es) [] cpos) (dMet n f dO ar) :=
  pe_imp (pe_bm pa slot hty hm ho ha hbase hfew hline hs hplain) fun σ H Q ⟨R, F, l, S, re, e, h⟩ => by
    refine seqV (goV T X.K (E σ) Q) re e h fun x S1 R1 F1 H1 u p ex r1 rx e1 h1 => ?_
    have h1 : OkV T X.K R1 F1 (if tyOk n x S1 = true then (ar l S1).bind fun xs S2 => f x xs S2 else .bad) Q (E σ) := h1
    split at h1
    · rename_i hty
      refine ⟨tyOk_v r1 rx hty, seqL (goV T X.K (E σ) Q) r1 e1 h1 fun xs S2 R2 F2 H2 us p2 ex2 r2 rxs e2 h2 => hz (E σ) R2 F2 H2 S2 x xs u us Q r2 (rx.mono p2 ex2) rxs h2⟩
    · exact h1.elim
end

/-! ### list.append, list.pop -/
def appP (x : PV) (ys : List PV) (S : Sto) : Out PV := match x, ys with
  | .ref n, [y] => (match S[n]? with
    | some (some (.lst, xs)) => if xs.length < 16777216 then .ok .non (S.set n (some (.lst, xs ++ [y]))) else .bad
    | _ => .bad)
  | _, _ => .bad
section
variable {T : Tb} {K : PySem.W.Frag}
theorem mz_append : MetZ T K appP rAppend := by
  intro E R F H S x xs u us Q r rx rxs h
  unfold appP at h
  split at h
  · rename_i n y
    obtain ⟨w, rfl, ry⟩ := rel1 rxs
    split at h
    · rename_i zs hS
      split at h
      · rename_i hz
        rw [Rel] at rx
        obtain ⟨a, rfl, ha⟩ := rx
        obtain ⟨hf, ws, hl, hx⟩ := r.live n a .lst zs ha hS
        have hl : H a = some (.lst ws) := hl
        refine ⟨a, ws, w, rfl, rfl, hl, by rw [sizeLine_eq, hx.length]; exact hz, ?_⟩
        exact PostV.here (v := .non) (r.put ha hf (k := .lst) (xs := zs ++ [y]) upd_same (hx.append (.cons ry .nil))) (by rw [Rel]) h
      · exact h.elim
    · exact h.elim
  · exact h.elim
end
section
variable {T : Tb} {X : Cx} {E : XS} {o e : Expr} {dO d : DE} {apos cpos : Pos}
theorem je_append (ho : JE T X E o dO) (ha : JE T X E e d) (hbase : attributeBase o "append" X.env (eval o X.env) = eval o X.env := by rfl)
    (hline : (apos.endLine == cpos.line) = true := by rfl) (hs : starEach [e] X.env = (false, eval e X.env) :: starEach [] X.env := by rfl) : JE T X E (.Call (.Attribute o "append" apos) [e] [] cpos) (dMet "list" appP dO (dCons d dNil)) :=
  je_met PySem.F.plainAttrs_list PySem.F.slot_list_append PySem.F.type_list_append mt_append mz_append ho (ja_cons ha ja_nil hs) hbase (by rw [hs]; rfl) hline hs rfl

/-! ### xs[::-1] of a list -/
def revP (x : PV) (S : Sto) : Out PV := match lstOf x S with
  | some xs => .ok (.nd .lst xs.reverse) S
  | none => .bad
def dRev (d : DE) : DE := fun l S => (d l S).bind fun x S1 => revP x S1
end

/-! ### f(k = e, ..): all parameters by their names, in their order -/
abbrev JK (T : Tb) (X : Cx) (E : XS) (kws : List Keyword) (ar : DA) : Prop := L2.PK X kws (tL T X.K E ar)
section
variable {T : Tb} {X : Cx} {E : XS} {x : Str} {p pos kpos : Pos} {e : Expr} {kws : List Keyword} {ps : List Str} {d : DF} {a : DE} {ar : DA} {j k : Nat} {nm : Option Str}
theorem jk_nil : JK T X E [] dNil := ⟨fun pos pins s σ H Q I ⟨R, F, l, S, r, e, h⟩ => pk_nil.run pos pins s σ H Q I (PostL.here r .nil h)⟩
theorem jk_cons (ha : JE T X E e a) (hr : JK T X E kws ar) : JK T X E (⟨nm, e, kpos⟩ :: kws) (dCons a ar) :=
  ⟨fun pos pins s σ H Q I ⟨R, F, l, S, r, e, h⟩ => (pk_cons ha hr).run pos pins s σ H Q I (by
    refine seqV (goL T X.K (E σ) Q) r e h fun x S1 R1 F1 H1 u p ex r1 rx e1 h1 => ?_
    refine seqL (goL T X.K (E σ) Q) r1 e1 h1 fun xs S2 R2 F2 H2 us p2 ex2 r2 rxs e2 h2 => ?_
    exact PostL.here r2 (.cons (rx.mono p2 ex2) rxs) h2)⟩
end

end Z
end
end
section
set_option Elab.async false
set_option linter.all false
set_option maxRecDepth 100000
set_option maxHeartbeats 1000000
/-! ZQ: reckoning with denotations. -/
noncomputable section
namespace Z
open PySem PySem.Spec PyProof.Rows L2

section
variable {α β : Type} (v : PV) (S : Sto) (l : Loc) (a b c : DE) (ar : DA) (p q : DB) (s t : DS)
@[simp] theorem bind_ok (x : α) (k : α → Sto → Out β) : (Out.ok x S).bind k = k x S := rfl
@[simp] theorem bind_err (e : XV) (k : α → Sto → Out β) : (Out.err e S : Out α).bind k = .err e S := rfl
@[simp] theorem bind_bad (k : α → Sto → Out β) : (Out.bad : Out α).bind k = .bad := rfl
@[simp] theorem st_ok (x : α) (k : α → Sto → OutS) : (Out.ok x S).st l k = k x S := rfl
@[simp] theorem st_err (e : XV) (k : α → Sto → OutS) : (Out.err e S : Out α).st l k = .err e l S := rfl
@[simp] theorem st_bad (k : α → Sto → OutS) : (Out.bad : Out α).st l k = .bad := rfl
@[simp] theorem seq_nx (k : Loc → Sto → OutS) : (OutS.nx l S).seq k = k l S := rfl
@[simp] theorem seq_ret (k : Loc → Sto → OutS) : (OutS.ret v S).seq k = .ret v S := rfl
@[simp] theorem seq_brk (k : Loc → Sto → OutS) : (OutS.brk l S).seq k = .brk l S := rfl
@[simp] theorem seq_cnt (k : Loc → Sto → OutS) : (OutS.cnt l S).seq k = .cnt l S := rfl
@[simp] theorem seq_err (e : XV) (k : Loc → Sto → OutS) : (OutS.err e l S).seq k = .err e l S := rfl
@[simp] theorem seq_bad (k : Loc → Sto → OutS) : OutS.bad.seq k = .bad := rfl
@[simp] theorem dC_ap : dC v l S = .ok v S := rfl
@[simp] theorem dVar_0 : dVar 0 (some v :: l) S = .ok v S := rfl
@[simp] theorem dVar_s (i : Nat) (o : Option PV) : dVar (i + 1) (o :: l) S = dVar i l S := rfl
@[simp] theorem dNil_ap : dNil l S = .ok [] S := rfl
@[simp] theorem dCons_ap : dCons a ar l S = (a l S).bind fun x S1 => (ar l S1).bind fun xs S2 => .ok (x :: xs) S2 := rfl
@[simp] theorem dTup_ap : dTup ar l S = (ar l S).bind fun xs S1 => mkNd .tup xs S1 := rfl
@[simp] theorem dLst_ap : dLst ar l S = (ar l S).bind fun xs S1 => mkNd .lst xs S1 := rfl
@[simp] theorem dLstM_ap : dLstM ar l S = (ar l S).bind fun xs S1 => mkRf .lst xs S1 := rfl
@[simp] theorem dBin_ap (f : PV → PV → Sto → Out PV) : dBin f a b l S = (a l S).bind fun x S1 => (b l S1).bind fun y S2 => f x y S2 := rfl
@[simp] theorem dB_ap : dB a l S = asB (a l S) := rfl
@[simp] theorem asB_ok (k : Bool) : asB (.ok (.bl k) S) = .ok k S := rfl
@[simp] theorem dApp_ap (f : List PV → Sto → Out PV) : dApp f ar l S = (ar l S).bind fun xs S1 => f xs S1 := rfl
@[simp] theorem dFn_ap (f : DF) : dFn f ar l S = (ar l S).bind fun xs S1 => f xs S1 := rfl
@[simp] theorem dTru_ap : dTru a l S = (a l S).bind fun x S1 => truP x S1 := rfl
@[simp] theorem dNotT_ap : dNotT p l S = (p l S).bind fun b S1 => .ok (!b) S1 := rfl
@[simp] theorem dAndT_ap : dAndT p q l S = (p l S).bind fun k S1 => if k = true then q l S1 else .ok false S1 := rfl
@[simp] theorem dOrT_ap : dOrT p q l S = (p l S).bind fun k S1 => if k = true then .ok true S1 else q l S1 := rfl
@[simp] theorem dOr_ap : dOr a b l S = (a l S).bind fun x S1 => (truP x S1).bind fun k S2 => if k = true then .ok x S2 else b l S2 := rfl
@[simp] theorem dAnd_ap : dAnd a b l S = (a l S).bind fun x S1 => (truP x S1).bind fun k S2 => if k = true then b l S2 else .ok x S2 := rfl
@[simp] theorem dNot_ap : dNot a l S = (a l S).bind fun x S1 => (truP x S1).bind fun k S2 => .ok (.bl (!k)) S2 := rfl
@[simp] theorem dIf_ap : dIf p a b l S = (p l S).bind fun k S1 => if k = true then a l S1 else b l S1 := rfl
@[simp] theorem dUn_ap (f : PV → Sto → Out PV) : dUn f a l S = (a l S).bind fun x S1 => f x S1 := rfl
@[simp] theorem dNone_ap : dNone l S = .ok none S := rfl
@[simp] theorem dSome_ap : dSome a l S = asI (a l S) := rfl
@[simp] theorem asI_ok (i : Int) : asI (.ok (.int i) S) = .ok (some i) S := rfl
@[simp] theorem dSli_ap (lo hi : DO) : dSli a lo hi l S = (a l S).bind fun x S1 => (lo l S1).bind fun p S2 => (hi l S2).bind fun q S3 => sliZ x p q S3 := rfl
@[simp] theorem dRev_ap : dRev a l S = (a l S).bind fun x S1 => revP x S1 := rfl
@[simp] theorem dMet_ap (n : String) (f : PV → List PV → Sto → Out PV) : dMet n f a ar l S = (a l S).bind fun x S1 => if tyOk n x S1 = true then (ar l S1).bind fun xs S2 => f x xs S2 else .bad := rfl
@[simp] theorem dSkip_ap : dSkip l S = .nx l S := rfl
@[simp] theorem dSeq_ap : dSeq s t l S = (s l S).seq t := rfl
@[simp] theorem dExpr_ap : dExpr a l S = (a l S).st l fun _ S1 => .nx l S1 := rfl
@[simp] theorem dRet_ap : dRet a l S = (a l S).st l fun v S1 => .ret v S1 := rfl
@[simp] theorem dRetN_ap : dRetN l S = .ret .non S := rfl
@[simp] theorem dIfS_ap : dIfS p s t l S = (p l S).st l fun k S1 => if k = true then s l S1 else t l S1 := rfl
@[simp] theorem dSet_ap (i : Nat) : dSet i a l S = (a l S).st l fun v S1 => .nx (l.set i (some v)) S1 := rfl
@[simp] theorem dBrk_ap : dBrk l S = .brk l S := rfl
@[simp] theorem dCnt_ap : dCnt l S = .cnt l S := rfl
@[simp] theorem dNever_ap : dNever l S = .bad := rfl
@[simp] theorem dAsg_ap (g : DG) : dAsg a g l S = (a l S).st l fun v S1 => onlyNx (g v l S1) := rfl
@[simp] theorem onlyNx_nx : onlyNx (.nx l S) = .nx l S := rfl
@[simp] theorem gzN_ap (i : Nat) : gzN i v l S = .nx (l.set i (some v)) S := rfl
@[simp] theorem gzT_ap (gs : List DG) (xs : List PV) : gzT gs (.nd .tup xs) l S = gzL gs xs l S := rfl
@[simp] theorem gzL_nil : gzL [] [] l S = .nx l S := rfl
@[simp] theorem gzL_cons (g : DG) (gs : List DG) (x : PV) (xs : List PV) : gzL (g :: gs) (x :: xs) l S = (g x l S).seq fun l1 S1 => gzL gs xs l1 S1 := rfl
@[simp] theorem gzI_ap : gzI a b v l S = (a l S).st l fun x S1 => (b l S1).st l fun y S2 => match putP x y v S2 with
  | some S3 => .nx l S3
  | none => .bad := rfl
@[simp] theorem dPar_ap (i j : Nat) : dPar i j ar l S = (ar l S).st l fun xs S1 => match xs with
  | [v, w] => .nx ((l.set i (some v)).set j (some w)) S1
  | _ => .bad := rfl
@[simp] theorem dPar3_ap (i j k : Nat) : dPar3 i j k ar l S = (ar l S).st l fun xs S1 => match xs with
  | [u, v, w] => .nx (((l.set i (some u)).set j (some v)).set k (some w)) S1
  | _ => .bad := rfl
@[simp] theorem dFor_ap (di : DI) (tg : TgZ) : dFor di tg s l S = (di l S).st l fun it S1 => if heldB it.held S1 = true then forZ tg it.held s it.items l S1 else .bad := rfl
@[simp] theorem dItV_ap : dItV a l S = (a l S).bind fun x S1 => itOf x S1 := rfl
@[simp] theorem dItA_ap (f : List PV → Sto → Out ItZ) : dItA f ar l S = (ar l S).bind fun xs S1 => f xs S1 := rfl
@[simp] theorem dLc_ap (vs : List Nat) (di : DI) (tg : TgZ) : dLc vs di tg p a l S = (dLc0 vs di tg p a l S).bind fun xs S1 => .ok (.nd .lst xs) S1 := rfl
@[simp] theorem dLcM_ap (vs : List Nat) (di : DI) (tg : TgZ) : dLcM vs di tg p a l S = (dLc0 vs di tg p a l S).bind fun xs S1 => .ok (.ref S1.length) (S1 ++ [some (.lst, xs)]) := rfl
@[simp] theorem dLc0_ap (vs : List Nat) (di : DI) (tg : TgZ) : dLc0 vs di tg p a l S = (di l S).bind fun it S1 => if heldB it.held S1 = true ∧ it.items.length ≤ 16777216 then lcZ tg it.held p a (wipeZ l vs) it.items S1 else .bad := rfl
@[simp] theorem dYes_ap : dYes l S = .ok true S := rfl
@[simp] theorem wipeZ_nil : wipeZ l [] = l := rfl
@[simp] theorem wipeZ_cons (i : Nat) (is : List Nat) : wipeZ l (i :: is) = (wipeZ l is).set i none := rfl
@[simp] theorem heldB_nil' : heldB [] S = true := heldB_nil S
@[simp] theorem heldB_one (n : Nat) (v : Kd × List PV) : heldB [(.ref n, v)] S = decide (S[n]? = some (some v)) := by
  rw [Bool.eq_iff_iff, decide_eq_true_iff, show (heldB [(PV.ref n, v)] S = true ↔ ∀ p ∈ [(PV.ref n, v)], view p.1 S = some p.2) from ⟨heldB_all, heldB_of⟩]
  constructor
  · intro h
    have := h _ (List.mem_singleton.mpr rfl)
    have h2 : (S[n]?).join = some v := this
    cases q : S[n]? with
    | none => rw [q] at h2; cases h2
    | some o => rw [q] at h2; cases o with
      | none => cases h2
      | some y => cases h2; rfl
  · intro h p hp
    rw [List.mem_singleton.mp hp]
    show (S[n]?).join = _
    rw [h]; rfl
@[simp] theorem view_nd' (k : Kd) (xs : List PV) : view (.nd k xs) S = some (k, xs) := rfl
@[simp] theorem view_ref' (n : Nat) : view (.ref n) S = (S[n]?).join := rfl
@[simp] theorem hold_nd (k : Kd) (xs : List PV) (w : Kd × List PV) : holdOf (.nd k xs) w = [] := rfl
@[simp] theorem hold_ref (n : Nat) (w : Kd × List PV) : holdOf (.ref n) w = [(.ref n, w)] := rfl
theorem dDef0_ap {n m : Nat} {xs : List PV} (h : xs.length = n) : dDef0 n m s xs S = (match s (xs.map some ++ List.replicate (m - n) none) S with
  | .nx _ S1 => .ok .non S1
  | .ret v S1 => .ok v S1
  | .err e _ S1 => .err e S1
  | _ => .bad) := by unfold dDef0; rw [if_pos h] <;> rfl
theorem shut_same {S S1 : Sto} (h : S1.length ≤ S.length) : shut S (.ok v S1) = .ok v S1 := by unfold shut; simp only; rw [if_pos h]
/-- a def that makes no new place -/
theorem dDef_ret {n m : Nat} {xs : List PV} {S1 : Sto} {v : PV} (h : xs.length = n) (hb : s (xs.map some ++ List.replicate (m - n) none) S = .ret v S1) (hl : S1.length ≤ S.length) : dDef n m s xs S = .ok v S1 := by
  unfold dDef
  rw [dDef0_ap S s h, hb]
  exact shut_same v hl
theorem dDef0_ret {n m : Nat} {xs : List PV} {S1 : Sto} {v : PV} (h : xs.length = n) (hb : s (xs.map some ++ List.replicate (m - n) none) S = .ret v S1) : dDef0 n m s xs S = .ok v S1 := by
  rw [dDef0_ap S s h, hb]
/-- a def whose result was made new -/
theorem dDef_thaw {n m : Nat} {xs : List PV} {S1 : Sto} {v w : PV} (h : xs.length = n) (hb : s (xs.map some ++ List.replicate (m - n) none) S = .ret v S1) (hl : S.length < S1.length) (ht : thaw 12 S.length S1 v = some w) (hf : fitsS S S1 = true) : dDef n m s xs S = .ok w (S1.take S.length) := by
  unfold dDef
  rw [dDef0_ap S s h, hb]
  unfold shut
  simp only
  rw [if_neg (by omega), ht]
  simp only
  rw [if_pos hf]
end
theorem fitsS_app (S X : Sto) : fitsS S (S ++ X) = true := by
  exact fitsS_iff.mpr fun i hi => .inl (List.getElem?_append_left hi)
theorem fitsS_head {o p : Option (Kd × List PV)} {T X : Sto} (h : fitsO (T.length + 1) p = true) : fitsS (o :: T) (p :: (T ++ X)) = true := by
  refine fitsS_iff.mpr fun i hi => ?_
  cases i with
  | zero => exact .inr ⟨p, rfl, h⟩
  | succ i =>
    rw [List.length_cons] at hi
    exact .inl (by rw [List.getElem?_cons_succ, List.getElem?_cons_succ, List.getElem?_append_left (by omega)])
theorem fits_ints (n : Nat) (ns : List Int) : fitsL n (ns.map PV.int) = true := by
  induction ns with
  | nil => rfl
  | cons m ns ih =>
    show (true && fitsL n (ns.map PV.int)) = true
    rw [ih]; rfl
/-! ### operations on plain values -/
section
variable (S : Sto) (i j : Int) (k : Bool) (xs ys : List PV)
@[simp] theorem addP_int : addP (.int i) (.int j) S = .ok (.int (i + j)) S := rfl
@[simp] theorem addP_ib : addP (.int i) (.bl k) S = .ok (.int (i + b2i k)) S := rfl
@[simp] theorem addP_lst : addP (.nd .lst xs) (.nd .lst ys) S = mkNd .lst (xs ++ ys) S := rfl
@[simp] theorem addP_tup : addP (.nd .tup xs) (.nd .tup ys) S = mkNd .tup (xs ++ ys) S := rfl
@[simp] theorem subP_int : subP (.int i) (.int j) S = .ok (.int (i - j)) S := rfl
@[simp] theorem mulZ_int : mulZ (.int i) (.int j) S = if mulOk i j then .ok (.int (i * j)) S else .bad := rfl
theorem divP_int (h : 0 < j ∧ j.natAbs < DIVB) : divP (.int i) (.int j) S = .ok (.int (i / j)) S := by unfold divP; simp only; rw [if_pos h]
theorem modP_int (h : 0 < j) : modP (.int i) (.int j) S = .ok (.int (i % j)) S := by unfold modP; simp only; rw [if_pos h]
@[simp] theorem powP_int : powP (.int i) (.int j) S = if 0 ≤ j ∧ j ≤ 1000000 ∧ i.natAbs < 2 ^ 64 then .ok (.int (i ^ j.toNat)) S else .bad := rfl
@[simp] theorem ltZ_int : ltZ (.int i) (.int j) S = .ok (.bl (decide (i < j))) S := rfl
@[simp] theorem leZ_int : leZ (.int i) (.int j) S = .ok (.bl (decide (i ≤ j))) S := rfl
@[simp] theorem gtZ_int : gtZ (.int i) (.int j) S = .ok (.bl (decide (j < i))) S := rfl
@[simp] theorem geZ_int : geZ (.int i) (.int j) S = .ok (.bl (decide (j ≤ i))) S := rfl
@[simp] theorem eqZ_str (a b : Str) : eqZ (.str a) (.str b) S = .ok (.bl (decide (a = b))) S := rfl
@[simp] theorem neZ_str (a b : Str) : neZ (.str a) (.str b) S = .ok (.bl (!decide (a = b))) S := rfl
theorem shaped_int : SeqAt.shaped (.int i) = true := by
  unfold SeqAt.shaped
  simp [PyData.canLay0, PyData.depth]
@[simp] theorem eqZ_int : eqZ (.int i) (.int j) S = .ok (.bl (decide (i = j))) S := by
  show eqD (.int i) (.int j) S = _
  unfold eqD datS view
  simp only [dat, shaped_int, and_self, if_true, PyData.eqv]
  rfl
@[simp] theorem neZ_int : neZ (.int i) (.int j) S = .ok (.bl (!decide (i = j))) S := by
  show neD (.int i) (.int j) S = _
  unfold neD datS view
  simp only [dat, shaped_int, and_self, if_true, PyData.eqv]
  rfl
@[simp] theorem negP_int : negP (.int i) S = .ok (.int (-i)) S := rfl
@[simp] theorem intP_int : intP [.int i] S = .ok (.int i) S := rfl
@[simp] theorem intP_bl : intP [.bl k] S = .ok (.int (if k then 1 else 0)) S := rfl
@[simp] theorem absP_int : absP [.int i] S = .ok (.int (if i < 0 then -i else i)) S := rfl
@[simp] theorem lenP_nd_lst : lenP [.nd .lst xs] S = .ok (.int xs.length) S := rfl
@[simp] theorem lenP_nd_tup : lenP [.nd .tup xs] S = .ok (.int xs.length) S := rfl
@[simp] theorem lenP_nd_scr : lenP [.nd .scr xs] S = .ok (.int xs.length) S := rfl
@[simp] theorem listP_lst : listP [.nd .lst xs] S = .ok (.nd .lst xs) S := rfl
@[simp] theorem listP_tup : listP [.nd .tup xs] S = .ok (.nd .lst xs) S := rfl
@[simp] theorem listP_scr : listP [.nd .scr xs] S = .ok (.nd .lst xs) S := rfl
@[simp] theorem tupP_lst : tupP [.nd .lst xs] S = .ok (.nd .tup xs) S := rfl
@[simp] theorem tupP_tup : tupP [.nd .tup xs] S = .ok (.nd .tup xs) S := rfl
@[simp] theorem isZ_non (x : PV) : isZ x .non S = .ok (.bl x.isNon) S := by cases x <;> rfl
@[simp] theorem isntZ_non (x : PV) : isntZ x .non S = .ok (.bl (!x.isNon)) S := by cases x <;> rfl
@[simp] theorem isNon_int : (PV.int i).isNon = false := rfl
@[simp] theorem isNon_non : PV.non.isNon = true := rfl
@[simp] theorem truP_bl : truP (.bl k) S = .ok k S := rfl
@[simp] theorem itOf_lst : itOf (.nd .lst xs) S = .ok ⟨xs, []⟩ S := rfl
@[simp] theorem itOf_tup : itOf (.nd .tup xs) S = .ok ⟨xs, []⟩ S := rfl
@[simp] theorem sliZ_lst (lo hi : Option Int) : sliZ (.nd .lst xs) lo hi S = .ok (.nd .lst (cutP xs lo hi)) S := rfl
@[simp] theorem sliZ_scr (lo hi : Option Int) : sliZ (.nd .scr xs) lo hi S = .ok (.nd .lst (cutP xs lo hi)) S := rfl
@[simp] theorem sliZ_tup (lo hi : Option Int) : sliZ (.nd .tup xs) lo hi S = .ok (.nd .tup (cutP xs lo hi)) S := rfl
theorem subZ_lst {x : PV} (h : atI xs i = some x) : subZ (.nd .lst xs) (.int i) S = .ok x S := by
  simp only [subZ, view]
  rw [h]
theorem atI_ofNat {α : Type} (xs : List α) (n : Nat) : atI xs (n : Int) = xs[n]? := by
  cases h : xs[n]? with
  | some v => exact atI_nat h
  | none =>
    unfold atI ixN
    have : ¬ (n : Int) < xs.length := by
      have := List.getElem?_eq_none_iff.mp h
      omega
    simp [this]
theorem mkRf_ok {kd : Kd} {xs : List PV} (h : xs.length ≤ 16777216) : mkRf kd xs S = .ok (.ref S.length) (S ++ [some (kd, xs)]) := by unfold mkRf; rw [if_pos h]
theorem mulOk_l {i j : Int} (h : i.natAbs < 18446744073709551616) : mulOk i j := .inl (by omega)
theorem mulOk_r {i j : Int} (h : j.natAbs < 18446744073709551616) : mulOk i j := .inr (.inl (by omega))
theorem divb_of {n : Nat} (h : n < 18446744073709551616) : n < DIVB := lt_DIVB (k := 64) (by omega) (by decide)
end
/-! ### data -/
theorem datL_ints (ns : List Int) : datL (ns.map PV.int) = some (ns.map PyData.int) := by
  induction ns with
  | nil => rfl
  | cons n ns ih => rw [List.map_cons, datL, dat, ih]; rfl
theorem canLay_ints (ns : List Int) : PyData.canLayAll0 (ns.map PyData.int) = true := by
  induction ns with
  | nil => rfl
  | cons n ns ih => rw [List.map_cons, PyData.canLayAll0, ih]; rfl
theorem depth_ints (ns : List Int) : PyData.depthAll (ns.map PyData.int) = 0 := by
  induction ns with
  | nil => rfl
  | cons n ns ih => rw [List.map_cons, PyData.depthAll, ih]; rfl
theorem shaped_ints (ns : List Int) : SeqAt.shaped (.list (ns.map PyData.int)) = true := by
  unfold SeqAt.shaped
  rw [PyData.canLay0, PyData.depth, canLay_ints, depth_ints]; rfl
/-- a list that is compared with [] -/
theorem datL_len : ∀ (xs : List PV) (ds : List PyData), datL xs = some ds → ds.length = xs.length
  | [], ds, h => by rw [datL] at h; cases h; rfl
  | x :: xs, ds, h => by
    rw [datL, Option.bind_eq_some_iff] at h
    obtain ⟨d, h1, h2⟩ := h
    rw [Option.map_eq_some_iff] at h2
    obtain ⟨ds', h3, rfl⟩ := h2
    rw [List.length_cons, List.length_cons, datL_len xs ds' h3]
theorem eqv_nil (ds : List PyData) : PyData.eqv (.list ds) (.list []) = decide (ds = []) := by
  cases ds <;> rw [PyData.eqv, PyData.eqvAll] <;> simp
theorem shaped_nil : SeqAt.shaped (.list []) = true := by
  unfold SeqAt.shaped; rw [PyData.canLay0, PyData.canLayAll0]; rfl
theorem neZ_nil {xs : List PV} {ds : List PyData} {S : Sto} (h : datL xs = some ds) (hs : SeqAt.shaped (.list ds) = true) : neZ (.nd .lst xs) (.nd .lst []) S = .ok (.bl (!decide (xs = []))) S := by
  show neD (.nd .lst xs) (.nd .lst []) S = _
  unfold neD datS view
  simp only [dat, h, datL, Option.map_some, hs, shaped_nil, and_self, if_true, eqv_nil]
  have := datL_len xs ds h
  have e : decide (ds = []) = decide (xs = []) := by
    cases ds with
    | nil => cases xs with
      | nil => rfl
      | cons x xs => simp at this
    | cons d ds => cases xs with
      | nil => simp at this
      | cons x xs => rfl
  rw [e]
end Z
end
end
section
set_option Elab.async false
set_option linter.all false
set_option maxRecDepth 100000
set_option maxHeartbeats 1000000
/-! ZD: the laws' pen. -/
noncomputable section
namespace Z
open PySem PySem.Spec PyProof.Rows L2

/-- the pen as it stands in the store -/
def pn (cs : List Int) (a lf : Int) : Option (Kd × List PV) := some (.lst, [.nd .lst (cs.map .int), .int a, .int lf])
section
variable {cs : List Int} {a lf v : Int} {T : Sto}
theorem pn_0 : subZ (.ref 0) (.int 0) (pn cs a lf :: T) = .ok (.nd .lst (cs.map .int)) (pn cs a lf :: T) := rfl
theorem pn_1 : subZ (.ref 0) (.int 1) (pn cs a lf :: T) = .ok (.int a) (pn cs a lf :: T) := rfl
theorem pn_2 : subZ (.ref 0) (.int 2) (pn cs a lf :: T) = .ok (.int lf) (pn cs a lf :: T) := rfl
theorem pn_p1 : putP (.ref 0) (.int 1) (.int v) (pn cs a lf :: T) = some (pn cs v lf :: T) := rfl
theorem pn_p2 : putP (.ref 0) (.int 2) (.int v) (pn cs a lf :: T) = some (pn cs a v :: T) := rfl
end
def drawT (m1 k3 k4 m2 k5 k6 k7 m3 : Int) : DS := dSeq (dIfS (dAndT (dB (dBin ltZ (dVar 3) (dApp lenP (dCons (dBin subZ (dVar 0) (dC (.int 0))) (dNil))))) (dB (dBin geZ (dApp absP (dCons (dVar 4) (dNil))) (dBin powP (dC (.int 10)) (dC (.int 18)))))) (dSeq (dSet 5 (dBin addP (dBin mulZ (dC (.int 2)) (dBin subP (dApp absP (dCons (dVar 4) (dNil))) (dBin powP (dC (.int 10)) (dC (.int 18))))) (dApp intP (dCons (dBin ltZ (dVar 4) (dC (.int 0))) (dNil))))) (dSeq (dAsg (dBin divP (dApp intP (dCons (dVar 5) (dNil))) (dVar 1)) (gzI (dVar 0) (dC (.int 2)))) (dRet (dBin modP (dApp intP (dCons (dVar 5) (dNil))) (dVar 1))))) (dSkip)) (dSeq (dSet 6 (dBin modP (dApp intP (dCons (dBin powP (dBin addP (dBin addP (dBin modP (dApp intP (dCons (dVar 4) (dNil))) (dC (.int m1))) (dBin mulZ (dC (.int k3)) (dVar 3))) (dC (.int k4))) (dC (.int 5))) (dNil))) (dC (.int m2)))) (dSeq (dSet 6 (dBin modP (dApp intP (dCons (dBin powP (dBin addP (dBin addP (dBin mulZ (dVar 6) (dBin addP (dBin mulZ (dC (.int 2)) (dVar 3)) (dC (.int k5)))) (dBin mulZ (dBin mulZ (dC (.int k6)) (dVar 3)) (dVar 3))) (dC (.int k7))) (dC (.int 3))) (dNil))) (dC (.int m3)))) (dRet (dBin modP (dApp intP (dCons (dBin divP (dVar 6) (dC (.int 32))) (dNil))) (dVar 1)))))
def drawB (k1 k2 m1 k3 k4 m2 k5 k6 k7 m3 : Int) : DS := dSeq (dIfS (dB (dBin gtZ (dBin subZ (dVar 0) (dC (.int 2))) (dC (.int 0)))) (dSeq (dSet 2 (dBin modP (dApp intP (dCons (dBin subZ (dVar 0) (dC (.int 2))) (dNil))) (dVar 1))) (dSeq (dAsg (dBin divP (dApp intP (dCons (dBin subZ (dVar 0) (dC (.int 2))) (dNil))) (dVar 1)) (gzI (dVar 0) (dC (.int 2)))) (dRet (dVar 2)))) (dSkip)) (dSeq (dSet 3 (dBin subZ (dVar 0) (dC (.int 1)))) (dSeq (dAsg (dBin addP (dVar 3) (dC (.int 1))) (gzI (dVar 0) (dC (.int 1)))) (dSeq (dSet 4 (dBin addP (dBin mulZ (dC (.int k1)) (dVar 3)) (dC (.int k2)))) (dSeq (dIfS (dB (dBin neZ (dBin subZ (dVar 0) (dC (.int 0))) (dLst (dNil)))) (dSet 4 (dBin subZ (dBin subZ (dVar 0) (dC (.int 0))) (dBin modP (dApp intP (dCons (dVar 3) (dNil))) (dApp lenP (dCons (dBin subZ (dVar 0) (dC (.int 0))) (dNil)))))) (dSkip)) (drawT m1 k3 k4 m2 k5 k6 k7 m3)))))
/-- small constants -/
abbrev Sm (k : Int) : Prop := 0 ≤ k ∧ k ≤ 1000000
abbrev Md (k : Int) : Prop := 0 < k ∧ k ≤ 4294967296
theorem atI_mod {cs : List Int} (h : cs ≠ []) (a : Int) : ∃ c, atI (cs.map PV.int) (a % (cs.length : Nat)) = some (.int c) := by
  have hl : 0 < cs.length := List.length_pos_iff.mpr h
  have h1 := Int.emod_nonneg a (b := (cs.length : Nat)) (by omega)
  have h2 := Int.emod_lt_of_pos a (b := (cs.length : Nat)) (by omega)
  obtain ⟨n, hn⟩ := Int.eq_ofNat_of_zero_le h1
  rw [hn] at h2 ⊢
  have h3 : n < cs.length := by omega
  refine ⟨cs[n], ?_⟩
  rw [atI_ofNat, List.getElem?_map, List.getElem?_eq_getElem h3]; rfl
theorem tail_ok {m1 k3 k4 m2 k5 k6 k7 m3 : Int} (s3 : Sm k3) (s4 : Sm k4) (s5 : Sm k5) (s6 : Sm k6) (s7 : Sm k7) (d1 : Md m1) (d2 : Md m2) (d3 : Md m3)
    {cs : List Int} {a many c : Int} {T : Sto} (hm : 1 ≤ many) (hm2 : many ≤ 1000000000) (ha : 0 ≤ a) (ha2 : a ≤ 100000) :
    ∃ v lf', drawT m1 k3 k4 m2 k5 k6 k7 m3 [some (.ref 0), some (.int many), none, some (.int a), some (.int c), none, none] (pn cs (a + 1) 0 :: T) = .ret (.int v) (pn cs (a + 1) lf' :: T) ∧ 0 ≤ v ∧ v < many ∧ 0 ≤ lf' := by
  have dm : 0 < many ∧ many.natAbs < DIVB := ⟨by omega, divb_of (by omega)⟩
  have pm : 0 < many := by omega
  have e18 : (10 : Int) ^ (18 : Int).toNat = 1000000000000000000 := by decide
  by_cases h : a < cs.length ∧ 1000000000000000000 ≤ (if c < 0 then -c else c)
  · obtain ⟨h1, h2⟩ := h
    have hg : 0 ≤ 2 * ((if c < 0 then -c else c) - 1000000000000000000) + (if c < 0 then 1 else 0) := by split <;> split at h2 <;> omega
    refine ⟨(2 * ((if c < 0 then -c else c) - 1000000000000000000) + (if c < 0 then 1 else 0)) % many, (2 * ((if c < 0 then -c else c) - 1000000000000000000) + (if c < 0 then 1 else 0)) / many, ?_, Int.emod_nonneg _ (by omega), Int.emod_lt_of_pos _ pm, Int.ediv_nonneg hg (by omega)⟩
    unfold drawT
    have mo : mulOk 2 ((if c < 0 then -c else c) - 1000000000000000000) := mulOk_l (by decide)
    simp [pn_0, pn_2, pn_p2, h1, h2, modP_int _ _ _ pm, divP_int _ _ _ dm, mo]
  · have hq1 : 0 ≤ c % m1 := Int.emod_nonneg _ (by omega)
    have hq2 : c % m1 < m1 := Int.emod_lt_of_pos _ (by omega)
    have hk3 : 0 ≤ k3 * a := Int.mul_nonneg s3.1 ha
    have hk3' : k3 * a ≤ 1000000 * 100000 := Int.mul_le_mul s3.2 ha2 ha (by decide)
    have he1 : (c % m1 + k3 * a + k4).natAbs < 18446744073709551616 := by omega
    generalize hE1 : c % m1 + k3 * a + k4 = e1 at he1
    have hr1 : 0 ≤ e1 ^ 5 % m2 := Int.emod_nonneg _ (by omega)
    have hr2 : e1 ^ 5 % m2 < m2 := Int.emod_lt_of_pos _ (by omega)
    have hk6 : 0 ≤ k6 * a := Int.mul_nonneg s6.1 ha
    have hk6' : k6 * a ≤ 1000000 * 100000 := Int.mul_le_mul s6.2 ha2 ha (by decide)
    have hk6a : 0 ≤ k6 * a * a := Int.mul_nonneg hk6 ha
    have hk6a' : k6 * a * a ≤ 1000000 * 100000 * 100000 := Int.mul_le_mul hk6' ha2 ha (by decide)
    have hp : 0 ≤ e1 ^ 5 % m2 * (2 * a + k5) := Int.mul_nonneg hr1 (by omega)
    have hp' : e1 ^ 5 % m2 * (2 * a + k5) ≤ 4294967296 * 1200000 := Int.mul_le_mul (by omega) (by omega) (by omega) (by decide)
    have he2 : (e1 ^ 5 % m2 * (2 * a + k5) + k6 * a * a + k7).natAbs < 18446744073709551616 := by omega
    have mo1 : mulOk k3 a := mulOk_l (by omega)
    have mo2 : mulOk 2 a := mulOk_l (by decide)
    have mo3 : mulOk k6 a := mulOk_l (by omega)
    have mo4 : mulOk (k6 * a) a := mulOk_r (by omega)
    have mo5 : mulOk (e1 ^ 5 % m2) (2 * a + k5) := mulOk_l (by omega)
    have q1 : 0 < m1 := d1.1
    have q2 : 0 < m2 := d2.1
    have q3 : 0 < m3 := d3.1
    have d32 : (0 : Int) < 32 ∧ (32 : Int).natAbs < DIVB := ⟨by decide, divb_of (by decide)⟩
    refine ⟨(e1 ^ 5 % m2 * (2 * a + k5) + k6 * a * a + k7) ^ 3 % m3 / 32 % many, 0, ?_, Int.emod_nonneg _ (by omega), Int.emod_lt_of_pos _ pm, Int.le_refl _⟩
    have hn : (decide (a < (cs.length : Int)) && decide (1000000000000000000 ≤ (if c < 0 then -c else c))) = false := by
      rw [Bool.and_eq_false_iff]
      by_cases hc : a < (cs.length : Int)
      · right
        exact decide_eq_false fun z => h ⟨hc, z⟩
      · left
        exact decide_eq_false hc
    unfold drawT
    by_cases hc : a < (cs.length : Int)
    · have hc2 : ¬ 1000000000000000000 ≤ (if c < 0 then -c else c) := fun z => h ⟨hc, z⟩
      simp [pn_0, pn_2, hc, hc2, modP_int _ _ _ pm, modP_int _ _ _ q1, modP_int _ _ _ q2, modP_int _ _ _ q3, divP_int _ _ _ d32, mo1, mo2, mo3, mo4, mo5, hE1, he1, he2]
    · simp [pn_0, pn_2, hc, modP_int _ _ _ pm, modP_int _ _ _ q1, modP_int _ _ _ q2, modP_int _ _ _ q3, divP_int _ _ _ d32, mo1, mo2, mo3, mo4, mo5, hE1, he1, he2]
theorem draw_ok {k1 k2 m1 k3 k4 m2 k5 k6 k7 m3 : Int} (s1 : Sm k1) (s3 : Sm k3) (s4 : Sm k4) (s5 : Sm k5) (s6 : Sm k6) (s7 : Sm k7) (d1 : Md m1) (d2 : Md m2) (d3 : Md m3)
    {cs : List Int} {a lf many : Int} {T : Sto} (hm : 1 ≤ many) (hm2 : many ≤ 1000000000) (ha : 0 ≤ a) (ha2 : a ≤ 100000) (hlf : 0 ≤ lf) :
    ∃ v a' lf', dDef 2 7 (drawB k1 k2 m1 k3 k4 m2 k5 k6 k7 m3) [.ref 0, .int many] (pn cs a lf :: T) = .ok (.int v) (pn cs a' lf' :: T) ∧ 0 ≤ v ∧ v < many ∧ a ≤ a' ∧ a' ≤ a + 1 ∧ 0 ≤ lf' := by
  have dm : 0 < many ∧ many.natAbs < DIVB := ⟨by omega, divb_of (by omega)⟩
  have pm : 0 < many := by omega
  by_cases h : 0 < lf
  · refine ⟨lf % many, a, lf / many, ?_, Int.emod_nonneg _ (by omega), Int.emod_lt_of_pos _ pm, Int.le_refl _, by omega, Int.ediv_nonneg (by omega) (by omega)⟩
    refine dDef_ret _ _ rfl ?_ (Nat.le_refl _)
    unfold drawB
    simp [pn_2, pn_p2, h, modP_int _ _ _ pm, divP_int _ _ _ dm]
  · have h0 : lf = 0 := by omega
    subst h0
    have mo : mulOk k1 a := mulOk_l (by omega)
    by_cases hcs : cs = []
    · subst hcs
      obtain ⟨v, lf', h1, h2, h3, h4⟩ := tail_ok (cs := []) (c := k1 * a + k2) (T := T) s3 s4 s5 s6 s7 d1 d2 d3 hm hm2 ha ha2
      refine ⟨v, a + 1, lf', ?_, h2, h3, by omega, Int.le_refl _, h4⟩
      refine dDef_ret _ _ rfl ?_ (Nat.le_refl _)
      unfold drawB
      have hne := neZ_nil (S := pn [] (a + 1) 0 :: T) (datL_ints []) (shaped_ints [])
      simp [pn_0, pn_1, pn_2, pn_p1, mo, mkNd, hne] at hne ⊢
      exact h1
    · obtain ⟨c, hc⟩ := atI_mod hcs a
      obtain ⟨v, lf', h1, h2, h3, h4⟩ := tail_ok (cs := cs) (c := c) (T := T) s3 s4 s5 s6 s7 d1 d2 d3 hm hm2 ha ha2
      refine ⟨v, a + 1, lf', ?_, h2, h3, by omega, Int.le_refl _, h4⟩
      refine dDef_ret _ _ rfl ?_ (Nat.le_refl _)
      unfold drawB
      have hne := neZ_nil (S := pn cs (a + 1) 0 :: T) (datL_ints cs) (shaped_ints cs)
      have pl : 0 < (cs.length : Int) := by have := List.length_pos_iff.mpr hcs; omega
      simp [pn_0, pn_1, pn_2, pn_p1, mo, mkNd, hne, hcs, modP_int _ _ _ pl, subZ_lst _ _ _ hc]
      exact h1
end Z
end
end
section
set_option Elab.async false
set_option linter.all false
set_option maxRecDepth 100000
set_option maxHeartbeats 1000000
/-! ZL: loops and comprehensions by invariants; the pen by the number of its draws. -/
noncomputable section
namespace Z
open PySem PySem.Spec PyProof.Rows L2

theorem lcZ_inv {t : TgZ} {el : DE} {l : Loc} (P : PV → Prop) (I : Nat → Sto → Prop) : ∀ (xs : List PV) (k : Nat) (S : Sto), I k S →
    (∀ i x S, xs[i]? = some x → I (k + i) S → ∃ ps v S', asg t x = some ps ∧ el (setZ l ps) S = .ok v S' ∧ P v ∧ I (k + i + 1) S') →
    ∃ vs S', lcZ t [] dYes el l xs S = .ok vs S' ∧ vs.length = xs.length ∧ (∀ v ∈ vs, P v) ∧ I (k + xs.length) S'
  | [], k, S, h, _ => ⟨[], S, rfl, rfl, fun v hv => (nomatch hv), h⟩
  | x :: xs, k, S, h, st => by
    obtain ⟨ps, v, S1, h1, h2, h3, h4⟩ := st 0 x S rfl h
    obtain ⟨vs, S2, g1, g2, g3, g4⟩ := lcZ_inv P I xs (k + 1) S1 h4 fun i y S hy hI => by
      have e : k + (i + 1) = k + 1 + i := by omega
      have := st (i + 1) y S (by rw [List.getElem?_cons_succ]; exact hy) (by rw [e]; exact hI)
      rw [e] at this
      exact this
    refine ⟨v :: vs, S2, ?_, by rw [List.length_cons, g2]; rfl, fun w hw => ?_, (show k + (xs.length + 1) = k + 1 + xs.length by omega) ▸ g4⟩
    · rw [lcZ, h1]
      simp only [dYes_ap]
      rw [h2]
      simp only
      rw [heldB_nil, g1]
      rfl
    · rcases List.mem_cons.mp hw with e | e
      · rw [e]; exact h3
      · exact g3 w e
theorem forZ_inv {t : TgZ} {hs : List (PV × Kd × List PV)} {b : DS} (Q : Nat → Loc → Sto → Prop) : ∀ (xs : List PV) (k : Nat) (l : Loc) (S : Sto), Q k l S →
    (∀ i x l S, xs[i]? = some x → Q (k + i) l S → ∃ ps l' S', asg t x = some ps ∧ b (setZ l ps) S = .nx l' S' ∧ heldB hs S' = true ∧ Q (k + i + 1) l' S') →
    ∃ l' S', forZ t hs b xs l S = .nx l' S' ∧ Q (k + xs.length) l' S'
  | [], k, l, S, h, _ => ⟨l, S, rfl, h⟩
  | x :: xs, k, l, S, h, st => by
    obtain ⟨ps, l1, S1, h1, h2, h3, h4⟩ := st 0 x l S rfl h
    obtain ⟨l2, S2, g1, g2⟩ := forZ_inv Q xs (k + 1) l1 S1 h4 fun i y l S hy hI => by
      have e : k + (i + 1) = k + 1 + i := by omega
      have := st (i + 1) y l S (by rw [List.getElem?_cons_succ]; exact hy) (by rw [e]; exact hI)
      rw [e] at this
      exact this
    refine ⟨l2, S2, ?_, (show k + (xs.length + 1) = k + 1 + xs.length by omega) ▸ g2⟩
    rw [forZ, h1]
    simp only
    rw [h2]
    simp only
    rw [if_pos h3]
    exact g1
theorem dFor_eq {di : DI} {t : TgZ} {b : DS} {l : Loc} {S : Sto} {it : ItZ} (h : di l S = .ok it S) (hh : heldB it.held S = true) : dFor di t b l S = forZ t it.held b it.items l S := by
  rw [dFor_ap, h, st_ok, if_pos hh]
theorem dLc_inv {vs : List Nat} {di : DI} {t : TgZ} {el : DE} {l : Loc} {S : Sto} {items : List PV} (P : PV → Prop) (I : Nat → Sto → Prop) (hi : di l S = .ok ⟨items, []⟩ S) (hl : items.length ≤ 16777216) (h0 : I 0 S)
    (st : ∀ i x S, items[i]? = some x → I i S → ∃ ps v S', asg t x = some ps ∧ el (setZ (wipeZ l vs) ps) S = .ok v S' ∧ P v ∧ I (i + 1) S') :
    ∃ ws S', dLc vs di t dYes el l S = .ok (.nd .lst ws) S' ∧ ws.length = items.length ∧ (∀ v ∈ ws, P v) ∧ I items.length S' := by
  obtain ⟨ws, S', h1, h2, h3, h4⟩ := lcZ_inv (t := t) (el := el) (l := wipeZ l vs) P I items 0 S h0 (by
    intro i x S hx hI
    rw [Nat.zero_add] at hI ⊢
    exact st i x S hx hI)
  rw [Nat.zero_add] at h4
  refine ⟨ws, S', ?_, h2, h3, h4⟩
  rw [dLc_ap, dLc0_ap, hi, bind_ok, if_pos ⟨heldB_nil S, hl⟩, h1, bind_ok]
theorem rngZ_len (lo : Int) (n : Nat) : (rngZ lo n).length = n := by simp [rngZ]
theorem rngZ_get {lo : Int} {n i : Nat} {x : PV} (h : (rngZ lo n)[i]? = some x) : i < n ∧ x = .int (lo + (i : Nat)) := by
  have hi : i < n := by
    have := (List.getElem?_eq_some_iff.mp h).1
    rwa [rngZ_len] at this
  refine ⟨hi, ?_⟩
  simp [rngZ, hi] at h
  exact h.symm
theorem rngP_nat (n : Nat) (S : Sto) (h : n < 1000000000000) : rngP [.int (n : Int)] S = .ok ⟨rngZ 0 n, []⟩ S := by
  unfold rngP
  simp only
  rw [if_pos (by omega)]
  rfl
theorem asg1 {i : Nat} {x : PV} : asg (.nm i) x = some [(i, x)] := by simp [asg]
theorem cutP_to (xs : List PV) (k : Nat) : cutP xs none (some (k : Int)) = xs.take k := by
  unfold cutP
  rw [HT.sIx_nat, HT.sIx_none]
  by_cases h : k ≤ xs.length
  · rw [Nat.min_eq_left h]; simp
  · rw [Nat.min_eq_right (by omega), List.take_of_length_le (by omega : xs.length ≤ k)]; simp
/-- the pen in front of T, after at most n draws -/
def PenS (n : Nat) (T S : Sto) : Prop := ∃ cs a lf, S = pn cs a lf :: T ∧ 0 ≤ a ∧ a ≤ n ∧ 0 ≤ lf
/-- what a law's draw keeps -/
def DrOk (dr : DF) : Prop := ∀ (n : Nat) (T S : Sto) (many : Int), PenS n T S → n ≤ 100000 → 1 ≤ many → many ≤ 1000000000 → ∃ v S', dr [.ref 0, .int many] S = .ok (.int v) S' ∧ 0 ≤ v ∧ v < many ∧ PenS (n + 1) T S'
theorem PenS.mono {n m : Nat} {T S : Sto} (h : PenS n T S) (hn : n ≤ m) : PenS m T S := by
  obtain ⟨cs, a, lf, h1, h2, h3, h4⟩ := h
  exact ⟨cs, a, lf, h1, h2, by omega, h4⟩
theorem PenS.len {n : Nat} {T S : Sto} (h : PenS n T S) : S.length = T.length + 1 := by
  obtain ⟨cs, a, lf, h1, _⟩ := h
  rw [h1]; rfl
/-- further places behind it -/
theorem PenS.app {n : Nat} {T S X : Sto} (h : PenS n T S) : PenS n (T ++ X) (S ++ X) := by
  obtain ⟨cs, a, lf, h1, h2⟩ := h
  exact ⟨cs, a, lf, by rw [h1]; rfl, h2⟩
theorem PenS.get {n : Nat} {T S : Sto} (h : PenS n T S) (i : Nat) : S[i + 1]? = T[i]? := by
  obtain ⟨cs, a, lf, h1, _⟩ := h
  rw [h1]; rfl
theorem PenS.set {n : Nat} {T S : Sto} (h : PenS n T S) (i : Nat) (o : Option (Kd × List PV)) : PenS n (T.set i o) (S.set (i + 1) o) := by
  obtain ⟨cs, a, lf, h1, h2⟩ := h
  exact ⟨cs, a, lf, by rw [h1]; rfl, h2⟩
/-- the pen's own places closed: what is behind T goes -/
theorem PenS.shut {n m : Nat} {T X S S1 : Sto} (h : PenS n T S) (h1 : PenS m (T ++ X) S1) : fitsS S S1 = true ∧ PenS m T (S1.take S.length) := by
  obtain ⟨cs, a, lf, e, _⟩ := h
  obtain ⟨cs1, a1, lf1, e1, q⟩ := h1
  subst e e1
  refine ⟨fitsS_head ?_, cs1, a1, lf1, ?_, q⟩
  · show (fits _ _ && _) = true
    rw [fits, fits_ints]; rfl
  · show (pn cs1 a1 lf1 :: (T ++ X)).take (T.length + 1) = _
    rw [List.take_succ_cons, List.take_left]
theorem dr_of {k1 k2 m1 k3 k4 m2 k5 k6 k7 m3 : Int} (s1 : Sm k1) (s3 : Sm k3) (s4 : Sm k4) (s5 : Sm k5) (s6 : Sm k6) (s7 : Sm k7) (d1 : Md m1) (d2 : Md m2) (d3 : Md m3) : DrOk (dDef 2 7 (drawB k1 k2 m1 k3 k4 m2 k5 k6 k7 m3)) := by
  rintro n T S many ⟨cs, a, lf, rfl, ha, ha2, hlf⟩ hn hm hm2
  obtain ⟨v, a', lf', h1, h2, h3, h4, h5, h6⟩ := draw_ok (T := T) (cs := cs) (lf := lf) s1 s3 s4 s5 s6 s7 d1 d2 d3 hm hm2 ha (by omega) hlf
  exact ⟨v, _, h1, h2, h3, cs, a', lf', rfl, by omega, by omega, h6⟩
def pickB (dr : DF) : DS := dRet (dBin subZ (dVar 1) (dFn dr (dCons (dVar 0) (dCons (dApp lenP (dCons (dVar 1) (dNil))) (dNil)))))
theorem pick_ok {dr : DF} (hd : DrOk dr) {n : Nat} {T S : Sto} {xs : List PV} (h : PenS n T S) (hn : n ≤ 100000) (hx : xs ≠ []) (hx2 : xs.length ≤ 1000000000) : ∃ x S', dDef 2 2 (pickB dr) [.ref 0, .nd .lst xs] S = .ok x S' ∧ x ∈ xs ∧ PenS (n + 1) T S' := by
  have hl : 0 < xs.length := List.length_pos_iff.mpr hx
  obtain ⟨v, S', h1, h2, h3, h4⟩ := hd n T S xs.length h hn (by omega) (by omega)
  obtain ⟨i, rfl⟩ := Int.eq_ofNat_of_zero_le h2
  have hi : i < xs.length := by omega
  refine ⟨xs[i], S', ?_, List.getElem_mem hi, h4⟩
  refine dDef_ret _ _ rfl ?_ (by rw [h4.len, h.len]; exact Nat.le_refl _)
  unfold pickB
  have hat : atI xs (i : Int) = some xs[i] := by rw [atI_ofNat, List.getElem?_eq_getElem hi]
  simp [h1, subZ_lst _ _ _ hat]
/-- the last place behind the pen -/
theorem PenS.last {n : Nat} {T S : Sto} {o : Option (Kd × List PV)} (h : PenS n (T ++ [o]) S) : S[T.length + 1]? = some o := by
  rw [h.get, List.getElem?_append_right (Nat.le_refl _)]; simp
end Z
end
end
section
set_option Elab.async false
set_option linter.all false
set_option maxRecDepth 100000
set_option maxHeartbeats 1000000
/-! ZA: own classes: fields, methods, new instances. -/
noncomputable section
namespace Z
open PySem PySem.Spec PyProof.Rows L2

/-- what the table of names says truly -/
structure TbOk (T : Tb) (K : PySem.W.Frag) : Prop where
  inj : ∀ i j, i < T.nf → j < T.nf → T.fd i = T.fd j → i = j
  ok : ∀ c f, T.okf c f = true → f < T.nf ∧ Cls K (T.ca K c) ∧ NoAttr K (T.ca K c) (T.fd f)
  okx : ∀ c f, T.okx c f = true → f < T.nf ∧ XfC K (T.ca K c) ∧ PySem.W.findIn K (.ref (T.ca K c)) (T.fd f) = some none
/-! ### fields by numbers -/
def fLook : List Nat → List PV → Nat → Option PV
  | g :: gs, x :: xs, f => if g = f then some x else fLook gs xs f
  | _, _, _ => none
def fPutN : List Nat → Nat → List Nat
  | [], f => [f]
  | g :: gs, f => if g = f then g :: gs else g :: fPutN gs f
def fPutV {α : Type} : List Nat → List α → Nat → α → List α
  | g :: gs, x :: xs, f, v => if g = f then v :: xs else x :: fPutV gs xs f v
  | _, _, _, v => [v]
section
variable {T : Tb} {K : PySem.W.Frag} {R : Pl} {F H : Hp} {S : Sto}
theorem fLook_rel (O : TbOk T K) {f : Nat} (hf : f < T.nf) : ∀ {gs : List Nat} {xs : List PV} {us : List V} {x : PV}, (∀ g ∈ gs, g < T.nf) → RelL T K R F xs us → fLook gs xs f = some x → ∃ u, ((gs.map T.fd).zip us).lookup (T.fd f) = some u ∧ Rel T K R F x u
  | [], xs, us, x, _, _, e => by cases xs <;> cases e
  | g :: gs, [], us, x, _, _, e => by cases e
  | g :: gs, y :: xs, us, x, hg, h, e => by
    rw [RelL] at h
    obtain ⟨u, r, rfl, h2, h3⟩ := h
    rw [List.map_cons, List.zip_cons_cons, lookup_put]
    rw [fLook] at e
    by_cases q : g = f
    · rw [if_pos q] at e
      cases e
      exact ⟨u, by rw [if_pos (by rw [q])], h2⟩
    · rw [if_neg q] at e
      rw [if_neg (fun z => q (O.inj g f (hg g List.mem_cons_self) hf z.symm))]
      exact fLook_rel O hf (fun g' m => hg g' (List.mem_cons_of_mem _ m)) h3 e
theorem putF_zip (O : TbOk T K) {f : Nat} (hf : f < T.nf) (w : V) : ∀ {gs : List Nat} {us : List V}, (∀ g ∈ gs, g < T.nf) → us.length = gs.length → putF (T.fd f) w ((gs.map T.fd).zip us) = ((fPutN gs f).map T.fd).zip (fPutV gs us f w)
  | [], us, _, h => by
    cases us with
    | nil => rfl
    | cons u r => cases h
  | g :: gs, [], _, h => by cases h
  | g :: gs, u :: us, hg, h => by
    rw [List.map_cons, List.zip_cons_cons, putF, fPutN, fPutV]
    by_cases q : g = f
    · rw [if_pos (by rw [q]), if_pos q, if_pos q]
      rfl
    · rw [if_neg (fun z => q (O.inj g f (hg g List.mem_cons_self) hf z)), if_neg q, if_neg q, putF_zip O hf w (fun g' m => hg g' (List.mem_cons_of_mem _ m)) (by simpa using h)]
      rfl
theorem fPutV_rel {f : Nat} {x : PV} {w : V} (rx : Rel T K R F x w) : ∀ {gs : List Nat} {xs : List PV} {us : List V}, RelL T K R F xs us → RelL T K R F (fPutV gs xs f x) (fPutV gs us f w)
  | [], xs, us, h => by unfold fPutV; exact .cons rx .nil
  | g :: gs, [], us, h => by
    rw [RelL] at h; subst h
    unfold fPutV; exact .cons rx .nil
  | g :: gs, y :: xs, us, h => by
    rw [RelL] at h
    obtain ⟨u, r, rfl, h2, h3⟩ := h
    unfold fPutV
    by_cases q : g = f
    · rw [if_pos q, if_pos q]; exact .cons rx h3
    · rw [if_neg q, if_neg q]; exact .cons h2 (fPutV_rel rx h3)
theorem fPutV_len {α : Type} {f : Nat} {w : α} : ∀ {gs : List Nat} {us : List α}, us.length = gs.length → (fPutV gs us f w).length = (fPutN gs f).length
  | [], us, h => by
    cases us with
    | nil => rfl
    | cons u r => cases h
  | g :: gs, [], h => by cases h
  | g :: gs, u :: us, h => by
    unfold fPutV fPutN
    by_cases q : g = f
    · rw [if_pos q, if_pos q]; simpa using h
    · rw [if_neg q, if_neg q, List.length_cons, List.length_cons, fPutV_len (by simpa using h)]
theorem noMeth {c : Nat} {m : Str} {g : Addr} (O : TbOk T K) (hm : Meth K (T.ca K c) m g) : ∀ {fs : List Nat} {us : List V}, fs.all (T.okf c) = true → ((fs.map T.fd).zip us).lookup m = none
  | [], us, _ => rfl
  | f :: fs, [], _ => rfl
  | f :: fs, u :: us, h => by
    obtain ⟨h1, h2⟩ := Bool.and_eq_true_iff.mp h
    rw [List.map_cons, List.zip_cons_cons, lookup_put, if_neg, noMeth O hm h2]
    intro e
    have := (O.ok c f h1).2.2
    unfold NoAttr at this
    rw [← e, hm.at_] at this
    cases this
end

/-! ### o.f -/
def getF (T : Tb) (f : Nat) (x : PV) (S : Sto) : Out PV := match view x S with
  | some (.ins c fs, xs) => if T.okf c f = true ∧ fs.all (T.okf c) = true then (match fLook fs xs f with
    | some v => .ok v S
    | none => .bad) else .bad
  | _ => .bad
def dAttr (T : Tb) (f : Nat) (a : DE) : DE := dUn (getF T f) a
/-- o.f = v: the place changed -/
def putA (T : Tb) (f : Nat) (x v : PV) (S : Sto) : Option Sto := match x with
  | .ref n => (match S[n]? with
    | some (some (.ins c fs, xs)) => if T.okf c f = true ∧ fs.all (T.okf c) = true ∧ fs.length < 1000 then some (S.set n (some (.ins c (fPutN fs f), fPutV fs xs f v))) else none
    | _ => none)
  | _ => none
def dPutA (T : Tb) (f : Nat) (o v : DE) : DS := fun l S => (v l S).st l fun y S1 => (o l S1).st l fun x S2 => match putA T f x y S2 with
  | some S3 => .nx l S3
  | none => .bad
theorem all_lt {T : Tb} {K : PySem.W.Frag} (O : TbOk T K) {c : Nat} {fs : List Nat} (h : fs.all (T.okf c) = true) : ∀ g ∈ fs, g < T.nf := fun g hg => (O.ok c g (List.all_eq_true.mp h g hg)).1
section
variable {T : Tb} {X : Cx} {E : XS} {o e v : Expr} {dO dv : DE} {pos pos' : Pos} {f : Nat} {F : Str}
theorem getF_rel {E : XK} {K : PySem.W.Frag} {R : Pl} {Fz H : Hp} {S : Sto} (O : TbOk T K) (r : Rep T K R Fz S H) {x : PV} {u : V} (rx : Rel T K R Fz x u) {Q : VK} (h : OkV T K R Fz (getF T f x S) Q E) :
    ∃ a C dx fs v, u = .ref a ∧ H a = some (.ins C dx fs) ∧ Cls K C ∧ NoAttr K C (T.fd f) ∧ fs.lookup (T.fd f) = some v ∧ Q v H := by
  unfold getF at h
  split at h
  · rename_i c fs xs hv
    split at h
    · rename_i hc
      obtain ⟨a, us, rfl, hs, hl⟩ := view_rel r rx hv
      obtain ⟨hlen, dx, ha⟩ := hs
      obtain ⟨hf, hcl, hno⟩ := O.ok c f hc.1
      split at h
      · rename_i y hy
        obtain ⟨w, h1, h2⟩ := fLook_rel O hf (all_lt O hc.2) hl hy
        exact ⟨a, _, dx, _, w, rfl, ha, hcl, hno, h1, h R Fz H w (Pl.refl R) (Ex.refl Fz) r h2⟩
      · exact h.elim
    · exact h.elim
  · exact h.elim
theorem je_attr (f : Nat) (O : TbOk T X.K) (ho : JE T X E o dO) (hf : T.fd f = F := by rfl) (hb : attributeBase o F X.env (eval o X.env) = eval o X.env := by rfl) : JE T X E (.Attribute o F pos) (dAttr T f dO) := by
  subst hf
  refine pe_imp (pe_fld ho hb) fun σ H Q ⟨R, Fz, l, S, r, e, h⟩ => ?_
  exact seqV (goV T X.K (E σ) Q) r e h fun x S1 R1 F1 H1 u p ex r1 rx e1 h1 => getF_rel O r1 rx h1
theorem putA_rel {K : PySem.W.Frag} {R : Pl} {Fz H : Hp} {S S3 : Sto} (O : TbOk T K) (r : Rep T K R Fz S H) {x y : PV} {u w : V} (rx : Rel T K R Fz x u) (ry : Rel T K R Fz y w) (h : putA T f x y S = some S3) :
    ∃ a C dx fs, u = .ref a ∧ H a = some (.ins C dx fs) ∧ Cls K C ∧ NoAttr K C (T.fd f) ∧ fs.length < 1000 ∧ Rep T K R Fz S3 (upd H a (.ins C dx (putF (T.fd f) w fs))) := by
  cases x with
  | ref n =>
    simp only [putA] at h
    split at h
    · rename_i c fs xs hS
      split at h
      · rename_i hc
        cases h
        rw [Rel] at rx
        obtain ⟨a, rfl, ha⟩ := rx
        obtain ⟨hz, us, hl, hx⟩ := r.live n a _ xs ha hS
        obtain ⟨hlen, dx, hl⟩ := hl
        obtain ⟨hf, hcl, hno⟩ := O.ok c f hc.1
        refine ⟨a, _, dx, _, rfl, hl, hcl, hno, by simp [hlen]; exact hc.2.2, ?_⟩
        rw [putF_zip O hf w (all_lt O hc.2.1) hlen]
        exact r.put ha hz (k := .ins c (fPutN fs f)) (xs := fPutV fs xs f y) ⟨fPutV_len hlen, dx, upd_same⟩ (fPutV_rel ry hx)
      · cases h
    · cases h
  | _ => cases h
theorem js_attr (f : Nat) (O : TbOk T X.K) (ho : JE T X E o dO) (hv : JE T X E v dv) (hf : T.fd f = F := by rfl) (hs : swapsWith v (some (.Attribute o F pos')) pos.line X.env = pure false := by rfl) : JS T X E (.Assign [.Attribute o F pos'] v pos) (dPutA T f dO dv) := by
  subst hf
  refine ps_imp (ps_fld ho hv hs) fun D σ H ⟨R, Fz, l, S, r, e, h⟩ => ?_
  refine st_v r e h fun y S1 R1 F1 H1 w p ex r1 ry e1 h1 => ?_
  refine st_v r1 e1 h1 fun x S2 R2 F2 H2 u p2 ex2 r2 rx e2 h2 => ?_
  have h2 : OkS T X.K R2 F2 (match putA T f x y S2 with
    | some S3 => .nx l S3
    | none => .bad) D E := h2
  split at h2
  · rename_i S3 hp
    obtain ⟨a, C, dx, fs, rfl, h3, h4, h5, h6, h7⟩ := putA_rel O r2 rx (ry.mono p2 ex2) hp
    exact ⟨a, C, dx, fs, rfl, h3, h4, h5, h6, PostE.here h7 e2 h2⟩
  · exact h2.elim
end

/-! ### o.m(..) -/
/-- a method m of the class c -/
structure FnM (T : Tb) (P : Program) (w : World) (K : PySem.W.Frag) (mg : Str → Option Value) (base : Heap) (k c : Nat) (m : Str) (ps : List Str) (d : DF) : Prop where
  ex : ∃ (f : Addr) (fd : FuncData), Cls K (T.ca K c) ∧ Meth K (T.ca K c) m f ∧ FnG T P w K mg base k f fd ps d ∧ Binds K fd ps [] ∧ ∀ (s : Shared) (v : Value) (ws : List Value), ws.length = ps.tail.length → BindsTo s fd ⟨[v], ps.tail.zip ws⟩ (ps.zip (v :: ws))
  ar : ∀ (xs : List PV) (S : Sto), xs.length ≠ ps.length → d xs S = .bad
def insOk (T : Tb) (c : Nat) (x : PV) (S : Sto) : Bool := match view x S with
  | some (.ins c' fs, _) => c' == c && fs.all (T.okf c)
  | _ => false
def dMeth (T : Tb) (c : Nat) (d : DF) (o : DE) (ar : DA) : DE := fun l S => (o l S).bind fun x S1 => if insOk T c x S1 = true then (ar l S1).bind fun xs S2 => d (x :: xs) S2 else .bad
section
variable {T : Tb} {X : Cx} {E : XS} {o e : Expr} {es : List Expr} {dO : DE} {ar : DA} {d : DF} {pos apos kpos : Pos} {c : Nat} {m : Str} {ps : List Str} {j k : Nat} {kws : List Keyword}
theorem insOk_rel {K : PySem.W.Frag} {R : Pl} {Fz H : Hp} {S : Sto} (O : TbOk T K) {g : Addr} (hm : Meth K (T.ca K c) m g) (r : Rep T K R Fz S H) {x : PV} {u : V} (rx : Rel T K R Fz x u) (h : insOk T c x S = true) :
    ∃ a dx fs, u = .ref a ∧ H a = some (.ins (T.ca K c) dx fs) ∧ fs.lookup m = none := by
  unfold insOk at h
  split at h
  · rename_i c' fs xs hv
    obtain ⟨h1, h2⟩ := Bool.and_eq_true_iff.mp h
    have e : c' = c := beq_iff_eq.mp h1
    subst e
    obtain ⟨a, us, rfl, hs, hl⟩ := view_rel r rx hv
    obtain ⟨hlen, dx, ha⟩ := hs
    exact ⟨a, dx, _, rfl, ha, noMeth O hm h2⟩
  · cases h
theorem meth_t {Q : VK} {σ : L2.St} {H : Hp} (O : TbOk T X.K) {g : Addr} (hm : Meth X.K (T.ca X.K c) m g) (har : ∀ (xs : List PV) (S : Sto), xs.length ≠ ps.length → d xs S = .bad) (h : tV T X.K E (dMeth T c d dO ar) σ H Q) :
    tV T X.K E dO σ H fun x H1 => ∃ a dx fs, x = .ref a ∧ H1 a = some (.ins (T.ca X.K c) dx fs) ∧ fs.lookup m = none ∧ tL T X.K E ar σ H1 fun vs H2 => spOf T X.K ps.length d (x :: vs) H2 Q (E σ) := by
  obtain ⟨R, Fz, l, S, r, e, h⟩ := h
  refine seqV (goV T X.K (E σ) Q) r e h fun x S1 R1 F1 H1 u p ex r1 rx e1 h1 => ?_
  have h1 : OkV T X.K R1 F1 (if insOk T c x S1 = true then (ar l S1).bind fun xs S2 => d (x :: xs) S2 else .bad) Q (E σ) := h1
  split at h1
  · rename_i hi
    obtain ⟨a, dx, fs, rfl, ha, hl⟩ := insOk_rel O hm r1 rx hi
    refine ⟨a, dx, fs, rfl, ha, hl, ?_⟩
    refine seqL (goV T X.K (E σ) Q) r1 e1 h1 fun xs S2 R2 F2 H2 us p2 ex2 r2 rxs e2 h2 => ?_
    have h2 : OkV T X.K R2 F2 (d (x :: xs) S2) Q (E σ) := h2
    by_cases hl : (x :: xs).length = ps.length
    · exact sp_of hl r2 (.cons (rx.mono p2 ex2) rxs) h2
    · rw [har _ S2 hl] at h2; exact h2.elim
  · exact h1.elim
theorem je_meth {pl : Sem Bool} (O : TbOk T X.K) (cg : Cg X E k) (F : FnM T X.prog X.w X.K X.mg X.base j c m ps d) (ho : JE T X E o dO) (ha : JA T X E (e :: es) ar) (hj : j ≤ k := by decide)
    (hst : starEach (e :: es) X.env = (false, eval e X.env) :: starEach es X.env := by rfl) (hpl : (backTo pos (starEach es X.env)).any (·.1) = false := by rfl)
    (ht : eval (.Call (.Attribute o m apos) (e :: es) [] pos) X.env = (do
      let ov ← eval o X.env
      standAt apos.atName
      let (f, first) ← holding [ov] (getMethod ov m pl)
      callWith pos f first (backTo pos (starEach (e :: es) X.env)) (backToKw pos (keywordEach [] X.env))) := by rfl) : JE T X E (.Call (.Attribute o m apos) (e :: es) [] pos) (dMeth T c d dO ar) := by
  obtain ⟨f, fd, cl, hm, G, hb, _⟩ := F.ex
  refine ⟨fun pins s σ H Q I h => ?_⟩
  refine PySem.W.methodCall_KW (pl := pl) (thn (ho.run pins s σ H _ I (meth_t O hm F.ar h)) fun u s1 ⟨x, H1, I1, rx, a, dx, fs, ex, ea, l, q⟩ => ?_) ht
  subst ex
  obtain rfl : u = Value.ref a := rx
  refine getmeth_ok I1 ea cl hm l ?_
  refine PySem.W.callWith_K (first := [.ref a]) (h₀ := X.base) I.ok.mod.kin hm.kp (thn (ha.run pos pins s1 σ H1 _ I1 q) fun us s2 ⟨vs, H2, I2, r, q2⟩ => ⟨I2.kIn, ?_⟩) hst hpl
  have r2 : Vals (V.ref a :: vs) (Value.ref a :: us) := .cons rfl r
  have hl : (Value.ref a :: us).length = ps.length := by rw [← r2.length]; exact q2.1
  have hb' := hb s2 (Value.ref a :: us) I2.kIn (by rw [List.append_nil]; exact hl)
  rw [List.append_nil] at hb'
  refine wpAny_call (codeAny_mono (run_fng cg hj G hb' I2 r2 q2) fun z s' hq => ?_)
  cases z with
  | error e => exact hq
  | ok fl => cases fl with
    | ret u => exact hq
    | _ => exact False.elim hq
end

/-! ### C(..) -/
def newP (c : Nat) (d : DF) (xs : List PV) (S : Sto) : Out PV := (d (.ref S.length :: xs) (S ++ [some (.ins c [], [])])).bind fun v S2 => match v with
  | .non => .ok (.ref S.length) S2
  | _ => .bad
/-- .. that never changes any more -/
def newF (c : Nat) (d : DF) (xs : List PV) (S : Sto) : Out PV := shut S (newP c d xs S)
structure NewC (T : Tb) (P : Program) (w : World) (K : PySem.W.Frag) (mg : Str → Option Value) (base : Heap) (k : Nat) (x : Str) (c : Nat) (ps : List Str) (d : DF) : Prop where
  ex : ∃ (f : Addr) (fd : FuncData), mg x = some (.ref (T.ca K c)) ∧ Mk K (T.ca K c) f ∧ FnG T P w K mg base k f fd ps d ∧ Binds K fd ps [] ∧ ∀ (s : Shared) (v : Value) (ws : List Value), ws.length = ps.tail.length → BindsTo s fd ⟨[v], ps.tail.zip ws⟩ (ps.zip (v :: ws))
  ar : ∀ (xs : List PV) (S : Sto), xs.length ≠ ps.length → d xs S = .bad
section
variable {T : Tb} {X : Cx} {E : XS} {x : Str} {e : Expr} {es : List Expr} {ar : DA} {d : DF} {p pos kpos : Pos} {c : Nat} {ps : List Str} {j k : Nat} {kws : List Keyword}
theorem make_guards {A : Around} {C : Addr} {us : List Value} {kw : List (Str × Value)} : (A.under (.builtin "type.__call__" ⟨.ref C :: us, kw⟩)).guards = A.guards := by
  first | rfl | simp [Around.under, Code.guards, Code.isGuard, pushGuards, guardIds]
theorem new_sp {E : XK} {K : PySem.W.Frag} {R : Pl} {Fz H : Hp} {S : Sto} {xs : List PV} {us : List V} {Q : VK} (har : ∀ (xs : List PV) (S : Sto), xs.length ≠ ps.length → d xs S = .bad) (r : Rep T K R Fz S H) (rx : RelL T K R Fz xs us) (h : OkV T K R Fz (newP c d xs S) Q E)
    (a dx : Addr) (ha : H a = none) (hd : H dx = none) (hne : dx ≠ a) : spOf T K ps.length d (.ref a :: us) (upd (upd H dx (.own a)) a (.ins (T.ca K c) dx [])) (fun v H2 => v = .non ∧ Q (.ref a) H2) E := by
  have r1 := r.frozen (o := .own a) hd
  have ha1 : (upd H dx (.own a)) a = none := by rw [upd_ne (Ne.symm hne)]; exact ha
  have r2 : Rep T K (R.add a) (upd Fz dx (.own a)) (S ++ [some (.ins c [], [])]) (upd (upd H dx (.own a)) a (.ins (T.ca K c) dx [])) := r1.laid (k := .ins c []) (xs := []) (us := []) ha1 ⟨rfl, dx, upd_same⟩ .nil
  have exF : Ex Fz (upd Fz dx (.own a)) := ex_upd (r.fnone hd)
  have rs : Rel T K (R.add a) (upd Fz dx (.own a)) (.ref S.length) (.ref a) := by
    rw [Rel]
    refine ⟨a, rfl, ?_⟩
    show (R.as ++ [a])[S.length]? = some a
    rw [← r.len, List.getElem?_append_right (Nat.le_refl _)]; simp
  have rl : RelL T K (R.add a) (upd Fz dx (.own a)) (.ref S.length :: xs) (.ref a :: us) := .cons rs (rx.mono (R.app a) exF)
  have h := OkV.mono (R.app a) exF h
  unfold newP at h
  by_cases hl : (PV.ref S.length :: xs).length = ps.length
  · refine sp_of hl r2 rl ?_
    cases hd2 : d (.ref S.length :: xs) (S ++ [some (.ins c [], [])]) with
    | ok v S2 =>
      rw [hd2] at h
      cases v with
      | non =>
        intro R' F' H' u p' x' r' ru
        rw [Rel] at ru
        subst ru
        exact ⟨rfl, h R' F' H' (.ref a) p' x' r' (rs.mono p' x')⟩
      | _ => exact h.elim
    | err e' S2 => rw [hd2] at h; exact h
    | bad => rw [hd2] at h; exact h.elim
  · rw [har _ _ hl] at h; exact h.elim
/-- the callee behind a new instance runs -/
theorem run_new {pins : List (Addr × Obj)} {σ : L2.St} {H : Hp} {s : Shared} {Q : VK} {us ws : List Value} {vs : List V} {f : Addr} {fd : FuncData} {C : Addr} {kw : List (Str × Value)} (cg : Cg X E k) (hj : j + 1 ≤ k) (M : Mk X.K C f) (G : FnG T X.prog X.w X.K X.mg X.base j f fd ps d)
    (hb : ∀ (s : Shared) (v : Value), X.K.In s.heap → BindsTo s fd ⟨v :: us, kw⟩ (ps.zip (v :: ws))) (I : Inv X pins σ H s) (r : Vals vs ws)
    (h : ∀ a dx, H a = none → H dx = none → dx ≠ a → spOf T X.K ps.length d (.ref a :: vs) (upd (upd H dx (.own a)) a (.ins C dx [])) (fun v H2 => v = .non ∧ Q (.ref a) H2) (E σ)) :
    wpAny (model X.prog X.w) X.A (call (.ref C) us kw) (EP X pins σ Q) X.xe s := by
  have hq := h (s.heap.objs.size + 1) s.heap.objs.size (I.hok.fresh (Nat.le_succ _)) (I.hok.fresh (Nat.le_refl _)) (Nat.ne_of_lt (Nat.lt_succ_self _))
  have I2 := Inv.made (C := C) I
  have r2 : Vals (V.ref (s.heap.objs.size + 1) :: vs) (Value.ref (s.heap.objs.size + 1) :: ws) := .cons rfl r
  refine wpAny_call (make_map (f := f) I.kIn M.makes M.init (beq_iff_eq.mp M.fn) (codeAny_mono (G.run _ X.stack _ _ ⟨Value.ref (s.heap.objs.size + 1) :: us, kw⟩ (Value.ref (s.heap.objs.size + 1) :: ws) _ _ (E σ) ((cg.room.mono hj).make C us kw)
    (by rw [make_guards]; exact cg.gd) (I2.env0.make C us kw) (hb _ (Value.ref (s.heap.objs.size + 1)) I2.kIn) r2 hq) fun r s' hq' => ?_))
  cases r with
  | error e => exact cg.pass pins σ _ _ e s' I2 hq'
  | ok fl =>
    cases fl with
    | ret u =>
      obtain ⟨v, H', I3, rv, ev, q3⟩ := I2.after hq'
      subst ev
      exact ⟨rv, ⟨V.ref (s.heap.objs.size + 1), H', I3, rfl, q3⟩⟩
    | next => exact False.elim hq'
    | brk => exact False.elim hq'
    | cont => exact False.elim hq'
theorem new_t {Q : VK} {σ : L2.St} {H : Hp} {kk : List PV → Sto → Out PV} (hk : ∀ {K : PySem.W.Frag} {R : Pl} {Fz H : Hp} {S : Sto} {xs : List PV} {us : List V}, Rep T K R Fz S H → RelL T K R Fz xs us → OkV T K R Fz (kk xs S) Q (E σ) → ∃ R' S', Rep T K R' Fz S' H ∧ RelL T K R' Fz xs us ∧ OkV T K R' Fz (newP c d xs S') Q (E σ)) (har : ∀ (xs : List PV) (S : Sto), xs.length ≠ ps.length → d xs S = .bad) (h : tV T X.K E (dApp kk ar) σ H Q) :
    tL T X.K E ar σ H fun vs H1 => ∀ a dx, H1 a = none → H1 dx = none → dx ≠ a → spOf T X.K ps.length d (.ref a :: vs) (upd (upd H1 dx (.own a)) a (.ins (T.ca X.K c) dx [])) (fun v H2 => v = .non ∧ Q (.ref a) H2) (E σ) := by
  obtain ⟨R, Fz, l, S, r, e, h⟩ := h
  exact seqL (goV T X.K (E σ) Q) r e h fun xs S1 R1 F1 H1 us p ex r1 rxs e1 h1 a dx ha hd hne => let ⟨_, _, r', rx', h'⟩ := hk r1 rxs h1; new_sp har r' rx' h' a dx ha hd hne
theorem je_newG {kk : List PV → Sto → Out PV} (cg : Cg X E k) (F : NewC T X.prog X.w X.K X.mg X.base j x c ps d) (hk : ∀ {Q : VK} {E : XK} {K : PySem.W.Frag} {R : Pl} {Fz H : Hp} {S : Sto} {xs : List PV} {us : List V}, Rep T K R Fz S H → RelL T K R Fz xs us → OkV T K R Fz (kk xs S) Q E → ∃ R' S', Rep T K R' Fz S' H ∧ RelL T K R' Fz xs us ∧ OkV T K R' Fz (newP c d xs S') Q E)
    (ha : JA T X E (e :: es) ar) (hj : j + 1 ≤ k := by decide) (hg : Gl X x := by rfl) (hdb : (x == ("__debug__" : Str)) = false := by decide)
    (he : starEach (e :: es) X.env = (false, eval e X.env) :: starEach es X.env := by rfl) (hpl : (backTo pos (starEach es X.env)).any (·.1) = false := by rfl) : JE T X E (.Call (.Name x p) (e :: es) [] pos) (dApp kk ar) := by
  obtain ⟨f, fd, hm, M, G, hb, _⟩ := F.ex
  refine ⟨fun pins s σ H Q I h => ?_⟩
  refine wpAny_Call_Name_kw (ld_glob I hg hm ?_ hdb)
  refine PySem.W.callWith_K (h₀ := X.base) I.ok.mod.kin M.kp (thn (ha.run pos pins s σ H _ I (new_t hk F.ar h)) fun us s1 ⟨vs, H1, I1, r1, q1⟩ => ⟨I1.kIn, ?_⟩) he hpl
  have hl : vs.length + 1 = ps.length := by
    have := q1 _ _ (I1.hok.fresh (Nat.le_succ _)) (I1.hok.fresh (Nat.le_refl _)) (Nat.ne_of_lt (Nat.lt_succ_self _))
    simpa using this.1
  refine run_new cg hj M G (fun s v hin => ?_) I1 r1 q1
  have hb' := hb s (v :: us) hin (by rw [List.append_nil, List.length_cons, ← r1.length]; exact hl)
  rw [List.append_nil] at hb'
  exact hb'
end
end Z
end
end
section
set_option Elab.async false
set_option linter.all false
set_option maxRecDepth 100000
set_option maxHeartbeats 1000000
/-! ZB: facts of a head; defs called by their places, starred ones; staticmethods. -/
noncomputable section
namespace Z
open PySem PySem.Spec PyProof.Rows L2

/-! ### the head's facts -/
section
variable {fa : List He.Fa} {ex : List (PySem.W.Frag → Bool)} {fn : List He5.DefA} {K : PySem.W.Frag}
theorem SaysZ.bools (c : SaysZ fa ex fn K) : ((fa.all fun f => f.ok K) && ((ex.all fun f => f K) && fn.all fun d => d.ok K)) = true := congrArg (fun z : He.AlD => z.1) c
theorem SaysZ.facts (c : SaysZ fa ex fn K) {f : He.Fa} (h : f ∈ fa) : f.ok K = true := List.all_eq_true.mp (Bool.and_eq_true_iff.mp c.bools).1 f h
theorem SaysZ.fact (c : SaysZ fa ex fn K) (i : Nat) {f : He.Fa} (h : fa[i]? = some f := by rfl) : f.ok K = true := c.facts (List.mem_of_getElem? h)
theorem SaysZ.extra (c : SaysZ fa ex fn K) (i : Nat) {f : PySem.W.Frag → Bool} (h : ex[i]? = some f := by rfl) : f K = true :=
  List.all_eq_true.mp (Bool.and_eq_true_iff.mp (Bool.and_eq_true_iff.mp c.bools).2).1 f (List.mem_of_getElem? h)
theorem SaysZ.def_ (c : SaysZ fa ex fn K) (i : Nat) {d : He5.DefA} (h : fn[i]? = some d := by rfl) : ∃ fd, L2.FunD K d.name d.qual d.params d.body d.scope (d.dvs K) (d.kws K) (d.at_ K) fd := by
  have c2 := (Bool.and_eq_true_iff.mp (Bool.and_eq_true_iff.mp c.bools).2).2
  have e : fn.map (fun d => He5.fnA K (d.at_ K)) = fn.map He5.DefA.val := congrArg (fun z : He.AlD => z.2) c
  have e2 : (fn.map fun d => He5.fnA K (d.at_ K))[i]? = (fn.map He5.DefA.val)[i]? := by rw [e]
  rw [List.getElem?_map, List.getElem?_map, h] at e2
  exact He5.DefA.funD (Option.some.inj e2) (List.all_eq_true.mp c2 d (List.mem_of_getElem? h))
end

/-! ### a def by the places of what it is given -/
def spP (T : Tb) (K : PySem.W.Frag) (d : DF) : Sp := fun vs H Q E => ∃ R F S xs, Rep T K R F S H ∧ RelL T K R F xs vs ∧ OkV T K R F (d xs S) Q E
def FnP (T : Tb) (P : Program) (w : World) (K : PySem.W.Frag) (mg : Str → Option Value) (base : Heap) (k : Nat) (f : Addr) (d : DF) : Prop :=
  ∀ (A : Around) (outer : List Env) (s : Shared) (H : Hp) (us : List Value) (vs : List V) (Q : VK) (E : XK), Room k A → A.guards = some [] → Env0 P w K mg base A outer s H → Vals vs us → spP T K d vs H Q E →
    codeAny (model P w) A (.call (.ref f) ⟨us, []⟩) (CR (L2.CX P w) outer P w H s Q E) s
theorem FnP.mono {T : Tb} {P : Program} {w : World} {K : PySem.W.Frag} {mg : Str → Option Value} {base : Heap} {j k : Nat} {f : Addr} {d : DF} (g : FnP T P w K mg base j f d) (h : j ≤ k) : FnP T P w K mg base k f d :=
  fun A outer s H us vs Q E hr => g A outer s H us vs Q E (hr.mono h)
section
variable {T : Tb} {P : Program} {w : World} {K : PySem.W.Frag} {mg : Str → Option Value} {base : Heap} {k : Nat} {f : Addr} {fd : FuncData} {ps : List Str} {d : DF}
theorem fnp_of (G : FnG T P w K mg base k f fd ps d) (hb : Binds K fd ps []) (har : ∀ (xs : List PV) (S : Sto), xs.length ≠ ps.length → d xs S = .bad) : FnP T P w K mg base k f d := by
  rintro A outer s H us vs Q E hr hg e0 r ⟨R, F, S, xs, r0, rx, h⟩
  by_cases hl : xs.length = ps.length
  · have hv : vs.length = ps.length := by rw [rx.length]; exact hl
    have hb' := hb s us (e0.mod.kin.keeps fun b o e => (e0.bs b o e).1) (by rw [List.append_nil, ← r.length]; exact hv)
    rw [List.append_nil] at hb'
    exact G.run A outer s H ⟨us, []⟩ us vs Q E hr hg e0 hb' r ⟨hv, R, F, S, xs, r0, rx, h⟩
  · rw [har xs S hl] at h; exact h.elim
/-- def f(a, .., *v) -/
def dStar (n : Nat) (d : DF) : DF := fun xs S => if n ≤ xs.length ∧ xs.length ≤ 16777216 then d (xs.take n ++ [.nd .tup (xs.drop n)]) S else .bad
end
theorem fnp_star {T : Tb} {P : Program} {w : World} {K : PySem.W.Frag} {mg : Str → Option Value} {base : Heap} {k : Nat} {f : Addr} {fd : FuncData} {x qual pv : Str} {params : Arguments} {body : List Stmt} {scope : Scope} {kws : List (Str × V)} {N ps : List Str} {b : DS}
    {d : DF} (hd : ∀ (vs : List V) (H : Hp) (Q : VK) (E : XK), spOf T K (ps.length + 1) d vs H Q E → tS T K (fun _ => E) b { nx := fun _ H' => Q .non H', rt := Q } (L2.start N vs) H)
    (G : FunD K x qual params body scope [] kws f fd) (S : FnScope N (ps ++ [pv]) scope) (har : ∀ (xs : List PV) (S : Sto), xs.length ≠ ps.length + 1 → d xs S = .bad)
    (hbi : ∀ (kV doc pm : Value) (an : Option Addr) (cdv ct : Value) (us rest : List Value), us.length = ps.length → bindArgs (PySem.W.fnOf x qual params body scope .none kV doc pm an cdv ct) ⟨us ++ rest, []⟩ = (newTuple rest >>= fun t => pure (ps.zip us ++ [(pv, t)])))
    (hb : ∀ (cdv : Value) (A : Around) (outer : List Env) (s : Shared) (H : Hp) (E : XK), Cg (cxOf (L2.CX P w) P w K mg base N qual scope f cdv A outer s H E) (fun _ => E) k → JB T (cxOf (L2.CX P w) P w K mg base N qual scope f cdv A outer s H E) (fun _ => E) body b) :
    FnP T P w K mg base (k + 1) f (dStar ps.length d) := by
  obtain ⟨oc, od, dV, kV, doc, pm, an, cdv, ct, osl, rfl, lk, hcd, hD, _⟩ := G.ex
  have e0 : dV = .none := by
    rcases hD with ⟨_, z⟩ | ⟨z, _⟩
    · exact z
    · exact absurd rfl z
  subst e0
  rintro A outer s H us vs Q E hr hgd e0 r ⟨R, Fz, St, xs, r0, rx, h⟩
  unfold dStar at h
  split at h
  · rename_i hn
    have hxl := rx.length
    have hvs : vs = vs.take ps.length ++ vs.drop ps.length := (List.take_append_drop ..).symm
    rw [hvs] at r
    obtain ⟨u1, u2, rfl, r1, r2⟩ := StX.vals_split r
    have l1 : (vs.take ps.length).length = ps.length := by rw [List.length_take, hxl]; omega
    have hz : (vs.drop ps.length).length ≤ sizeLine := by rw [List.length_drop, hxl, sizeLine_eq]; omega
    have hl1 : u1.length = ps.length := by rw [← r1.length]; exact l1
    have hl2 : u2.length ≤ sizeLine := by rw [← r2.length]; exact hz
    have hnn : H s.heap.objs.size = Option.none := e0.hok.fresh (Nat.le_refl _)
    refine StX.run_bnd (CX := L2.CX P w) lk hcd S hr e0 (G := fun ys H2 => ∃ p, H p = Option.none ∧ ys = vs.take ps.length ++ [V.ref p] ∧ H2 = upd H p (.tup (vs.drop ps.length))) (fun A' Ex Q' hQ => ?_) fun s2 H2 ys ⟨p, hp, ey, eH⟩ hr' => ?_
    · rw [hbi kV doc pm an cdv ct u1 u2 hl1]
      refine wpAny_bind (wpAny_newTuple (wpAny_pure ?_) hl2)
      have new : ObjOk P w (upd H s.heap.objs.size (.tup (vs.drop ps.length))) (s.heap.push ({ cls := .type "tuple", data := .seq u2.toArray } : Obj)) s.heap.objs.size (.tup (vs.drop ps.length)) := ⟨hz, u2, r2, ⟨_, Heap.get?_push_size _ rfl, rfl, _, rfl⟩⟩
      have un := StX.un_laid (fs := frs outer) (s := s) (o := ({ cls := .type "tuple", data := .seq u2.toArray } : Obj)) (u := .tup (vs.drop ps.length)) hnn
      have z := hQ _ _ (vs.take ps.length ++ [V.ref s.heap.objs.size]) (u1 ++ [Value.ref s.heap.objs.size]) (StX.env0_laid e0 new) un rfl (fun e s' => StX.cxUp outer s H _ _ E e s' un (fun b o q => Heap.get?_push_of_some _ q) rfl) (r1.append (.cons rfl .nil))
        (by rw [List.length_append, List.length_append, l1] <;> rfl) ⟨_, hnn, rfl, rfl⟩
      rw [List.zip_append hl1.symm] at z
      exact z
    · subst ey eH
      have cg : Cg (cxOf (L2.CX P w) P w K mg base N qual scope f cdv A outer s2 (upd H p (.tup (vs.drop ps.length))) E) (fun _ => E) k :=
        ⟨rfl, S.nd, hr', hgd, takes_of rfl rfl rfl rfl, passes_of rfl⟩
      refine ⟨_, hb cdv A outer s2 _ E cg, hd _ _ _ _ ?_⟩
      have rF := r0.frozen (o := .tup (vs.drop ps.length)) hp
      have ex := ex_upd (o := .tup (vs.drop ps.length)) (r0.fnone hp)
      have rn : Rel T K R (upd Fz p (.tup (vs.drop ps.length))) (.nd .tup (xs.drop ps.length)) (.ref p) := by
        rw [Rel]
        exact ⟨p, _, rfl, upd_same, (rx.drop ps.length).mono (Pl.refl R) ex⟩
      refine ⟨?_, R, _, St, xs.take ps.length ++ [.nd .tup (xs.drop ps.length)], rF, ((rx.take ps.length).mono (Pl.refl R) ex).append (.cons rn .nil), OkV.mono (Pl.refl R) ex h⟩
      rw [List.length_append, l1]; rfl
  · exact h.elim

section
variable {T : Tb} {X : Cx} {E : XS} {x m : Str} {p pos apos : Pos} {e o : Expr} {es : List Expr} {d : DF} {dO de : DE} {ar : DA} {j k c : Nat} {f g : Addr}
theorem run_fnp {pins : List (Addr × Obj)} {σ : L2.St} {H : Hp} {s : Shared} {Q : VK} {us : List Value} {vs : List V} (cg : Cg X E k) (hj : j ≤ k) (G : FnP T X.prog X.w X.K X.mg X.base j f d) (I : Inv X pins σ H s) (r : Vals vs us) (h : spP T X.K d vs H Q (E σ)) :
    wpAny (model X.prog X.w) X.A (call (.ref f) us) (EP X pins σ Q) X.xe s := by
  refine wpAny_call (codeAny_mono (G X.A X.stack s H us vs Q (E σ) (cg.room.mono hj) cg.gd I.env0 r h) fun z s' hq => ?_)
  cases z with
  | error e => exact cg.pass pins σ H s e s' I hq
  | ok fl =>
    cases fl with
    | ret u => exact I.after hq
    | next => exact False.elim hq
    | brk => exact False.elim hq
    | cont => exact False.elim hq
/-- .. inside a built-in -/
theorem run_fnp1 {pins : List (Addr × Obj)} {σ : L2.St} {H : Hp} {s : Shared} {Q : VK} {us : List Value} {vs : List V} (cg : Cg X E k) (hj : j + 1 ≤ k) (G : FnP T X.prog X.w X.K X.mg X.base j f d) (I : Inv X pins σ H s) (r : Vals vs us) (h : spP T X.K d vs H Q (E σ)) :
    wpAny (model X.prog X.w) X.A.in1 (call (.ref f) us) (EP X pins σ Q) X.xe s := by
  have e0 := I.env0
  have e1 : Env0 X.prog X.w X.K X.mg X.base X.A.in1 X.stack s H := ⟨e0.frames, e0.mod, e0.bs, e0.bsz, e0.funs, e0.frf, e0.hok, e0.bare⟩
  refine wpAny_call (codeAny_mono (G X.A.in1 X.stack s H us vs Q (E σ) ((cg.room.mono hj).in1) cg.gd e1 r h) fun z s' hq => ?_)
  cases z with
  | error e => exact cg.pass pins σ H s e s' I hq
  | ok fl =>
    cases fl with
    | ret u => exact I.after hq
    | next => exact False.elim hq
    | brk => exact False.elim hq
    | cont => exact False.elim hq
theorem spP_of {E : XK} {K : PySem.W.Frag} {R : Pl} {F H : Hp} {S : Sto} {xs : List PV} {vs : List V} {Q : VK} (r : Rep T K R F S H) (rx : RelL T K R F xs vs) (h : OkV T K R F (d xs S) Q E) : spP T K d vs H Q E := ⟨R, F, S, xs, r, rx, h⟩

/-- *e among arguments -/
def itemsOf (x : PV) (S : Sto) : Option (List PV) := match view x S with
  | some (.lst, xs) => some xs
  | some (.tup, xs) => some xs
  | some (.scr, xs) => some xs
  | _ => none
def dStarA (a : DE) (r : DA) : DA := fun l S => (a l S).bind fun x S1 => match itemsOf x S1 with
  | some xs => (r l S1).bind fun ys S2 => .ok (xs ++ ys) S2
  | none => .bad
theorem itemsOf_rel {K : PySem.W.Frag} {R : Pl} {F H : Hp} {S : Sto} (r : Rep T K R F S H) {x : PV} {u : V} (h : Rel T K R F x u) {ys : List PV} (e : itemsOf x S = some ys) : ∃ a us, u = .ref a ∧ (SqT K H a us ∨ SqL K H a us) ∧ RelL T K R F ys us := by
  unfold itemsOf at e
  split at e
  · rename_i xs hv
    cases e
    obtain ⟨a, us, h1, h2, h3⟩ := view_rel r h hv
    exact ⟨a, us, h1, .inr ((shp_rd h2).1 (.inl rfl)), h3⟩
  · rename_i xs hv
    cases e
    obtain ⟨a, us, h1, h2, h3⟩ := view_rel r h hv
    exact ⟨a, us, h1, .inl ((shp_rd h2).2 rfl), h3⟩
  · rename_i xs hv
    cases e
    obtain ⟨a, us, h1, h2, h3⟩ := view_rel r h hv
    exact ⟨a, us, h1, .inr ((shp_rd h2).1 (.inr rfl)), h3⟩
  · cases e
theorem ja_star (ha : JE T X E e de) (hr : JA T X E es ar) (hs : starEach (.Starred e p :: es) X.env = (true, eval e X.env) :: starEach es X.env := by rfl) : JA T X E (.Starred e p :: es) (dStarA de ar) := by
  refine pa_imp (StX.pa_star ha hr hs) fun σ H Q ⟨R, F, l, S, r, e', h⟩ => ?_
  refine seqV (goL T X.K (E σ) Q) r e' h fun x S1 R1 F1 H1 u p ex r1 rx e1 h1 => ?_
  have h1 : OkL T X.K R1 F1 (match itemsOf x S1 with
    | some xs => (ar l S1).bind fun ys S2 => .ok (xs ++ ys) S2
    | none => .bad) Q (E σ) := h1
  split at h1
  · rename_i xs hx
    obtain ⟨a, us, rfl, hs', hl⟩ := itemsOf_rel r1 rx hx
    refine ⟨a, us, rfl, hs', ?_⟩
    refine seqL (goL T X.K (E σ) Q) r1 e1 h1 fun ys S2 R2 F2 H2 ws p2 ex2 r2 rys e2 h2 => ?_
    exact PostL.here r2 ((hl.mono p2 ex2).append rys) h2
  · exact h1.elim

/-! ### f(..) by places -/
structure FnV (T : Tb) (P : Program) (w : World) (K : PySem.W.Frag) (mg : Str → Option Value) (base : Heap) (k : Nat) (x : Str) (d : DF) : Prop where
  ex : ∃ f : Addr, mg x = some (.ref f) ∧ PySem.W.keepIn K (.ref f) = true ∧ FnP T P w K mg base k f d

/-! ### C.m(..), m a staticmethod -/
structure StatM (T : Tb) (P : Program) (w : World) (K : PySem.W.Frag) (mg : Str → Option Value) (base : Heap) (k c : Nat) (m : Str) (d : DF) : Prop where
  ex : ∃ (p g : Addr) (rest : List Value), ClX.CRead K (T.ca K c) (.type "type") ∧ PySem.W.findCls K (.ref (T.ca K c)) (.type "type") m = some (.get (.builtin "staticmethod.__get__") (.ref p) .none (.ref (T.ca K c))) ∧ PySem.W.recIn K p "staticmethod" = some (.ref g :: rest) ∧
    PySem.W.keepIn K (.ref g) = true ∧ FnP T P w K mg base k g d
theorem getstat_ok {A : Around} {E : Value → Shared → Prop} {pl : Sem Bool} {pins : List (Addr × Obj)} {σ : L2.St} {H : Hp} {s : Shared} {C pm : Addr} {rest : List Value} {Q : Value × List Value → Shared → Prop} (I : Inv X pins σ H s) (r : ClX.CRead X.K C (.type "type"))
    (h1 : PySem.W.findCls X.K (.ref C) (.type "type") m = some (.get (.builtin "staticmethod.__get__") (.ref pm) .none (.ref C))) (h2 : PySem.W.recIn X.K pm "staticmethod" = some (.ref g :: rest)) (h : ∀ s', Inv X pins σ H s' → Q (.ref g, []) s') :
    wpAny (model X.prog X.w) A (getMethod (.ref C) m pl) Q E s :=
  PySem.W.method_cls I.kIn r.ga (PySem.W.cls_bind I.kIn r.rd h1 (wpAny_call (PySem.W.sm_get (s := { s with toks := s.toks + 1 }) I.kIn h2 (PySem.W.handed_on rfl (h _ (I.tok _))))))
end
end Z
end
end
section
set_option Elab.async false
set_option linter.all false
set_option maxRecDepth 100000
set_option maxHeartbeats 1000000
/-! ZC: operators by own methods. -/
noncomputable section
namespace Z
open PySem PySem.Spec PyProof.Rows L2

/-! ### operators whose exceptions are those of the place -/
def OpE (T : Tb) (K : PySem.W.Frag) (E : XK) (f : PV → PV → Sto → Out PV) (r : R2) : Prop := ∀ (R : Pl) (F H : Hp) (S : Sto) (x y : PV) (u w : V) (Q : VK), Rep T K R F S H → Rel T K R F x u → Rel T K R F y w → OkV T K R F (f x y S) Q E → r u w H Q
def CalE (T : Tb) (K : PySem.W.Frag) (E : XK) (f : List PV → Sto → Out PV) (r : List V → Hp → VK → Prop) : Prop := ∀ (R : Pl) (F H : Hp) (S : Sto) (xs : List PV) (us : List V) (Q : VK), Rep T K R F S H → RelL T K R F xs us → OkV T K R F (f xs S) Q E → r us H Q
section
variable {T : Tb} {K : PySem.W.Frag} {E : XK} {f g : PV → PV → Sto → Out PV} {r r' : R2}
theorem OpZ.e (h : OpZ T K f r) : OpE T K E f r := fun R F H S x y u w Q => h E R F H S x y u w Q
theorem CalZ.e {f : List PV → Sto → Out PV} {r : List V → Hp → VK → Prop} (h : CalZ T K f r) : CalE T K E f r := fun R F H S xs us Q => h E R F H S xs us Q
end
section
variable {T : Tb} {X : Cx} {E : XK} {a b c : Expr} {da db : DE} {pos : Pos}
end

/-! ### an own class's methods, by places -/
structure FnMP (T : Tb) (P : Program) (w : World) (K : PySem.W.Frag) (mg : Str → Option Value) (base : Heap) (k c : Nat) (m : Str) (d : DF) : Prop where
  ex : ∃ f : Addr, Cls K (T.ca K c) ∧ Meth K (T.ca K c) m f ∧ FnP T P w K mg base k f d
theorem FnM.p {T : Tb} {P : Program} {w : World} {K : PySem.W.Frag} {mg : Str → Option Value} {base : Heap} {k c : Nat} {m : Str} {ps : List Str} {d : DF} (F : FnM T P w K mg base k c m ps d) : FnMP T P w K mg base k c m d := by
  obtain ⟨f, fd, h1, h2, h3, h4, _⟩ := F.ex
  exact ⟨f, h1, h2, fnp_of h3 h4 F.ar⟩
theorem FnMP.mono {T : Tb} {P : Program} {w : World} {K : PySem.W.Frag} {mg : Str → Option Value} {base : Heap} {j k c : Nat} {m : Str} {d : DF} (F : FnMP T P w K mg base j c m d) (h : j ≤ k) : FnMP T P w K mg base k c m d := by
  obtain ⟨f, h1, h2, h3⟩ := F.ex
  exact ⟨f, h1, h2, h3.mono h⟩
theorem inst_of {X : Cx} {pins : List (Addr × Obj)} {σ : L2.St} {H : Hp} {s : Shared} {a C dx : Addr} {fs : List (Str × V)} (I : Inv X pins σ H s) (e : H a = some (.ins C dx fs)) : ∃ ox od, PySem.W.InstAt s.heap a ox C (some od) := by
  obtain ⟨mA, O, _⟩ := ins_get I.hok e
  obtain ⟨od, J, _⟩ := O.look
  exact ⟨_, od, J⟩
/-- an instance of the class c -/
def isIns (c : Nat) (x : PV) (S : Sto) : Bool := match view x S with
  | some (.ins c' _, _) => c' == c
  | _ => false
theorem isIns_rel {T : Tb} {K : PySem.W.Frag} {R : Pl} {F H : Hp} {S : Sto} {c : Nat} (r : Rep T K R F S H) {x : PV} {u : V} (rx : Rel T K R F x u) (h : isIns c x S = true) : ∃ a dx fs, u = .ref a ∧ H a = some (.ins (T.ca K c) dx fs) := by
  unfold isIns at h
  split at h
  · rename_i c' fs xs hv
    have e : c' = c := beq_iff_eq.mp h
    subst e
    obtain ⟨a, us, rfl, ⟨_, dx, ha⟩, _⟩ := view_rel r rx hv
    exact ⟨a, dx, _, rfl, ha⟩
  · cases h

/-! ### x in o -/
section
variable {T : Tb} {X : Cx} {E : XK} {c j k : Nat} {d : DF} {f : PV → PV → Sto → Out PV} {r : R2}
end

/-! ### len(o), bool(o), o as a test -/
section
variable {T : Tb} {X : Cx} {E : XK} {c j k : Nat} {d : DF} {f : List PV → Sto → Out PV} {r : List V → Hp → VK → Prop}
end
section
variable {T : Tb} {X : Cx} {E : XK} {e : Expr} {es : List Expr} {ar : DA} {p pos : Pos} {f : List PV → Sto → Out PV} {r : List V → Hp → VK → Prop} {x : Str}
end
/-! ### truth by an own __bool__ -/
section
variable {T : Tb} {X : Cx} {E : XK} {c j k : Nat} {d : DF} {a : Expr} {da : DE}
end

/-! ### what classes values are of -/
inductive Ty where
  | b (n : String) | c (k : Nat) | x (k : Nat)
  deriving DecidableEq
def tyW (x : PV) (S : Sto) : Option Ty := match view x S with
  | some (.ins c _, _) => some (.c c)
  | some (.exn c _, _) => some (.x c)
  | _ => (tyZ x S).map .b
def Ki.kit (I : Ki) (t : Ty) (x : PV) : Option Bool := match t, x with
  | .b t, .ty n => kitB t n
  | .b t, .cls c => I.kb.lookup (t, c)
  | .c k, .cls c => if k ∈ I.cs then I.kc.lookup (k, c) else none
  | .c k, .ty n => if k ∈ I.cs then I.kt.lookup (k, n) else none
  | .x k, .cls c => if k ∈ I.es then I.kc.lookup (k, c) else none
  | .x k, .ty n => if k ∈ I.es then I.kt.lookup (k, n) else none
  | _, _ => none
def Ki.first (I : Ki) (t : Ty) (c : Nat) : Bool := match t with
  | .b t => decide ((t, c) ∈ I.fb)
  | .c k => k == c
  | .x _ => false
structure KiOk (T : Tb) (I : Ki) (K : PySem.W.Frag) : Prop where
  kb : ∀ p ∈ I.kb, PySem.W.kitOne K (.type p.1.1) (.ref (T.ca K p.1.2)) = some p.2
  kc : ∀ p ∈ I.kc, PySem.W.kitOne K (.ref (T.ca K p.1.1)) (.ref (T.ca K p.1.2)) = some p.2
  kt : ∀ p ∈ I.kt, PySem.W.kitOne K (.ref (T.ca K p.1.1)) (.type p.1.2) = some p.2
  fb : ∀ p ∈ I.fb, PySem.W.subIn K (.type p.1) (.ref (T.ca K p.2)) = some false
  hn : PySem.W.specialIn K (.builtin "object.__class__") "__get__" = some (some (.builtin "getset_descriptor.__get__"))
  tk : PySem.W.takesIn K (.builtin "object.__class__") = some true
  cl : ∀ c ∈ I.cs, Cls K (T.ca K c)
  ca : ∀ c ∈ I.cs, PySem.W.findIn K (.ref (T.ca K c)) "__class__" = some (some (.builtin "object.__class__"))
  mr : ∀ c ∈ I.cs, PySem.W.mroIn K (T.ca K c) (.type "object") = some true
  xc : ∀ c ∈ I.es, ExcC K (T.ca K c)
theorem kiB_ok {T : Tb} {I : Ki} {K : PySem.W.Frag} (h : kiB T I K = true) : KiOk T I K := by
  obtain ⟨h1, h⟩ := Bool.and_eq_true_iff.mp h
  obtain ⟨h2, h⟩ := Bool.and_eq_true_iff.mp h
  obtain ⟨h3, h⟩ := Bool.and_eq_true_iff.mp h
  obtain ⟨h4, h⟩ := Bool.and_eq_true_iff.mp h
  obtain ⟨h5, h7⟩ := Bool.and_eq_true_iff.mp h
  obtain ⟨h5, h6⟩ := Bool.and_eq_true_iff.mp h5
  obtain ⟨h8, h7⟩ := Bool.and_eq_true_iff.mp h7
  have a8 := fun c hc => Bool.and_eq_true_iff.mp (Bool.and_eq_true_iff.mp (List.all_eq_true.mp h8 c hc)).2
  have a7 := fun c hc => Bool.and_eq_true_iff.mp (List.all_eq_true.mp h7 c hc)
  exact ⟨fun p hp => of_decide_eq_true (List.all_eq_true.mp h1 p hp), fun p hp => of_decide_eq_true (List.all_eq_true.mp h2 p hp), fun p hp => of_decide_eq_true (List.all_eq_true.mp h3 p hp), fun p hp => of_decide_eq_true (List.all_eq_true.mp h4 p hp),
    of_decide_eq_true h5, of_decide_eq_true h6, fun c hc => He.cls_ok (a7 c hc).1, fun c hc => of_decide_eq_true (Bool.and_eq_true_iff.mp (a7 c hc).2).1, fun c hc => of_decide_eq_true (Bool.and_eq_true_iff.mp (a7 c hc).2).2,
    fun c hc =>
      let t := xfB_ok (a8 c hc).1
      let q := Bool.and_eq_true_iff.mp (a8 c hc).2
      ⟨t.ga, t.gg, t.exC, t.hdC, of_decide_eq_true q.1, of_decide_eq_true h5, of_decide_eq_true h6, of_decide_eq_true q.2⟩⟩
def Ty.v (T : Tb) (K : PySem.W.Frag) : Ty → Value
  | .b n => .type n
  | .c k => .ref (T.ca K k)
  | .x k => .ref (T.ca K k)
section
variable {T : Tb} {I : Ki} {K : PySem.W.Frag} {R : Pl} {F H : Hp} {S : Sto}
theorem tyW_rel (O : KiOk T I K) (r : Rep T K R F S H) {x : PV} {u : V} (h : Rel T K R F x u) {t : Ty} (e : tyW x S = some t) (hc : (∀ c, t = .c c → c ∈ I.cs) ∧ ∀ c, t = .x c → c ∈ I.es) : TyR K H u (t.v T K) := by
  unfold tyW at e
  split at e
  · rename_i c fs xs hv
    cases e
    obtain ⟨a, us, rfl, ⟨_, dx, ha⟩, _⟩ := view_rel r h hv
    have hm := hc.1 c rfl
    exact .base (.base (.ins ha (O.cl c hm) (O.ca c hm) O.hn O.tk (O.mr c hm)))
  · rename_i c fs xs hv
    cases e
    obtain ⟨a, us, rfl, ⟨_, d, ha, hd⟩, _⟩ := view_rel r h hv
    refine .exn ha ?_ (O.xc c (hc.2 c rfl))
    rcases hd with ⟨_, hd⟩ | ⟨dd, h1, h2⟩
    · exact .inl hd
    · exact .inr ⟨dd, _, h1, h2⟩
  · rw [Option.map_eq_some_iff] at e
    obtain ⟨n, h1, rfl⟩ := e
    exact tyZ_rel r h h1
theorem kit_rel (O : KiOk T I K) {t : Ty} {x : PV} {u : V} {b : Bool} (h : Rel T K R F x u) (e : I.kit t x = some b) : ∃ w, ClsV u w ∧ PySem.W.kitOne K (t.v T K) w = some b ∧ ((∀ c, t = .c c → c ∈ I.cs) ∧ ∀ c, t = .x c → c ∈ I.es) := by
  cases t with
  | b n =>
    cases x with
    | ty m =>
      rw [rel_ty h]
      exact ⟨.type m, .ty m, kit_ty e, fun c z => (nomatch z), fun c z => nomatch z⟩
    | cls c =>
      rw [rel_cls h]
      exact ⟨_, .own _, O.kb ((n, c), b) (mem_of_lookup e), fun c z => (nomatch z), fun c z => nomatch z⟩
    | _ => cases e
  | c k =>
    cases x with
    | ty m =>
      rw [rel_ty h]
      have e : (if k ∈ I.cs then I.kt.lookup (k, m) else none) = some b := e
      split at e
      · rename_i hk
        exact ⟨.type m, .ty m, O.kt ((k, m), b) (mem_of_lookup e), fun c z => by cases z; exact hk, fun c z => nomatch z⟩
      · cases e
    | cls c =>
      rw [rel_cls h]
      have e : (if k ∈ I.cs then I.kc.lookup (k, c) else none) = some b := e
      split at e
      · rename_i hk
        exact ⟨_, .own _, O.kc ((k, c), b) (mem_of_lookup e), fun c z => by cases z; exact hk, fun c z => nomatch z⟩
      · cases e
    | _ => cases e
  | x k =>
    cases x with
    | ty m =>
      rw [rel_ty h]
      have e : (if k ∈ I.es then I.kt.lookup (k, m) else none) = some b := e
      split at e
      · rename_i hk
        exact ⟨.type m, .ty m, O.kt ((k, m), b) (mem_of_lookup e), fun c z => (nomatch z), fun c z => by cases z; exact hk⟩
      · cases e
    | cls c =>
      rw [rel_cls h]
      have e : (if k ∈ I.es then I.kc.lookup (k, c) else none) = some b := e
      split at e
      · rename_i hk
        exact ⟨_, .own _, O.kc ((k, c), b) (mem_of_lookup e), fun c z => (nomatch z), fun c z => by cases z; exact hk⟩
      · cases e
    | _ => cases e
end
/-- isinstance, own classes too -/
def isiX (I : Ki) (xs : List PV) (S : Sto) : Out PV := match xs with
  | [x, .nd k cs] => isiP [x, .nd k cs] S
  | [x, y] => (match (tyW x S).bind fun t => I.kit t y with
    | some b => .ok (.bl b) S
    | none => .bad)
  | _ => .bad
theorem cz_isiX {T : Tb} {I : Ki} {K : PySem.W.Frag} (O : KiOk T I K) : CalZ T K (isiX I) (fun xs H Q => rIsiZ K xs H Q ∨ rIsiTZ K xs H Q) := by
  intro E R F H S xs us Q r rx h
  unfold isiX at h
  split at h
  · exact cz_isi E R F H S _ us Q r rx h
  · rename_i x y _
    obtain ⟨u, w, rfl, r1, r2⟩ := rel2 rx
    split at h
    · rename_i b hb
      rw [Option.bind_eq_some_iff] at hb
      obtain ⟨t, h1, h2⟩ := hb
      obtain ⟨cw, c1, c2, c3⟩ := kit_rel O r2 h2
      exact .inl ⟨u, w, _, cw, b, rfl, c1, tyW_rel O r r1 h1 c3, c2, PostV.here r (by rw [Rel]) h⟩
    · exact h.elim
  · exact h.elim

/-! ### == by an own method -/
section
variable {T : Tb} {I : Ki} {X : Cx} {E : XK} {c j k : Nat} {d : DF} {f : PV → PV → Sto → Out PV} {r : R2}
end
end Z
end
end
section
set_option Elab.async false
set_option linter.all false
set_option maxRecDepth 100000
set_option maxHeartbeats 1000000
/-! ZE: dicts. -/
noncomputable section
namespace Z
open PySem PySem.Spec PyProof.Rows L2

/-! ### an empty dict is of both kinds -/
section
variable {P : Program} {w : World} {H : Hp} {h : Heap} {a : Addr}
theorem em_k (ok : HOk P w H h) (e : Rd H a (.dT [])) : (a == sysModules) = false ∧ h.DictOf (mixKind P w) a [] := by
  obtain ⟨_, hd, xs, r, o, es, ep, h1, h2, h3, h4, _⟩ := dt_rd ok e
  cases r
  have h5 : es = #[] := by
    have : es.toList = [] := h4
    exact Array.toList_eq_nil_iff.mp this
  subst h5
  exact ⟨hd, o, #[], ep, h1, h2, h3, fun e he => by simp at he, .nil, List.nodup_nil⟩
theorem em_t (ok : HOk P w H h) (e : Rd H a (.dK [])) : (a == sysModules) = false ∧ h.DictOfH (tupleKind (mixKind P w)) a [] := by
  obtain ⟨_, hd, vs, r, o, es, ep, h1, h2, h3, h4, h5, _⟩ := dk_rd ok e
  cases r
  have h6 : es = #[] := by
    have : es.toList = [] := by
      generalize es.toList = l at h5
      cases h5
      rfl
    exact Array.toList_eq_nil_iff.mp this
  subst h6
  exact ⟨hd, o, #[], ep, h1, h2, h3, rfl, fun x hx => (nomatch hx), List.nodup_nil⟩
/-- a key of the other kind, asked of an empty dict -/
def DGet0 (H : Hp) (a : Addr) (y : V) : Prop := (Rd H a (.dT []) ∧ ∃ k, y = kV k) ∨ (Rd H a (.dK []) ∧ ∃ (k : List Key) (b : Addr), y = .ref b ∧ H b = some (.tup (k.map kV)))
def DGetZ (H : Hp) (a : Addr) (y : V) (o : Option V) : Prop := DGet H a y o ∨ (DGet0 H a y ∧ o = none)
end
section
variable {X : Cx} {pins : List (Addr × Obj)} {σ : L2.St} {H : Hp} {s : Shared} {a : Addr} {y d : V} {u r : Value} {o : Option V} {A : Around} {E : Value → Shared → Prop}
theorem z_in {Q : Value → Shared → Prop} (hu : A.units + 1 < cLine) (I : Inv X pins σ H s) (g : DGetZ H a y o) (ry : RelV y u) (h : ∀ s', Inv X pins σ H s' → Q (.bool o.isSome) s') : wpAny (model X.prog X.w) A (compareOp .In u (.ref a)) Q E s := by
  rcases g with g | ⟨⟨e, k, rfl⟩ | ⟨e, k, b, rfl, eb⟩, rfl⟩
  · exact d_in hu I g ry h
  · obtain ⟨hd, dd⟩ := em_k I.hok e
    exact wpAny_in_of (kV_is ry) hd dd.mapOf (h _ (I.tok _))
  · obtain ⟨hd, dd⟩ := em_t I.hok e
    cases ry
    exact wpAny_in_heap (tupleKind_room_in1 hu) (key_of I.hok eb) hd dd (h _ (I.tok _))
theorem z_notIn {Q : Value → Shared → Prop} (hu : A.units + 1 < cLine) (I : Inv X pins σ H s) (g : DGetZ H a y o) (ry : RelV y u) (h : ∀ s', Inv X pins σ H s' → Q (.bool (!o.isSome)) s') : wpAny (model X.prog X.w) A (compareOp .NotIn u (.ref a)) Q E s := by
  rcases g with g | ⟨⟨e, k, rfl⟩ | ⟨e, k, b, rfl, eb⟩, rfl⟩
  · exact d_notIn hu I g ry h
  · obtain ⟨hd, dd⟩ := em_k I.hok e
    exact wpAny_notIn_of (kV_is ry) hd dd.mapOf (h _ (I.tok _))
  · obtain ⟨hd, dd⟩ := em_t I.hok e
    cases ry
    exact wpAny_notIn_heap (tupleKind_room_in1 hu) (key_of I.hok eb) hd dd (h _ (I.tok _))
/-- .. becomes one of the other kind -/
theorem em_retype (I : Inv X pins σ H s) (e : H a = some (.dK [])) : Inv X pins σ (upd H a (.dT [])) s := by
  obtain ⟨hd, o, es, ep, h1, h2, h3, h4, h5, h6⟩ := em_t I.hok (.inl e)
  have := d_write (t' := s.toks) (ob := .dT []) I (by rw [e]; exact True.intro) (Heap.SameBut.refl a s.heap) ⟨o, h1⟩ ⟨Nat.zero_le _, hd, [], .nil, o, es, ep, h1, h2, h3, h4, h6⟩
  exact this
def DPutZ (H : Hp) (a : Addr) (y v : V) (H' : Hp) : Prop := DPut H a y v H' ∨ (H a = some (.dK []) ∧ ∃ (k : List Key) (b : Addr), y = .ref b ∧ H b = some (.tup (k.map kV)) ∧ H' = upd H a (.dT [(k, v)]))
theorem upd2 {H : Hp} {a : Addr} {o o' : HO} : upd (upd H a o) a o' = upd H a o' := by
  funext b
  unfold upd
  split <;> rfl
theorem z_setItem {v : V} {H' : Hp} {Q : Unit → Shared → Prop} (hu : A.units + 1 < cLine) (I : Inv X pins σ H s) (g : DPutZ H a y v H') (ry : RelV y u) (rv : RelV v r) (h : ∀ s', Inv X pins σ H' s' → Q () s') : wpAny (model X.prog X.w) A (setItem (.ref a) u r) Q E s := by
  rcases g with g | ⟨e, k, b, ey, eb, eH⟩
  · exact d_setItem hu I g ry rv h
  · subst ey eH
    have I2 := em_retype I e
    have nb : b ≠ a := fun z => by rw [z, e] at eb; cases eb
    refine d_setItem hu I2 (.inr ⟨[], k, b, upd_same, rfl, by rw [upd_ne nb]; exact eb, by rw [sizeLine_eq]; decide, rfl⟩) ry rv fun s' I3 => ?_
    rw [upd2] at I3
    exact h s' I3
end

/-! ### dicts by values -/
def keyP : Key → PV
  | .inl i => .int i
  | .inr x => .str x
def pkV : PK → PV
  | .k x => keyP x
  | .t ks => .nd .tup (ks.map keyP)
/-- the dict with v at q -/
def dPutK (ks : List PK) (q : PK) : List PK := if q ∈ ks then ks else ks ++ [q]
def dRepl {α : Type} (q : PK) (v : α) : List PK → List α → List α
  | k :: ks, x :: xs => (if k = q then v else x) :: dRepl q v ks xs
  | _, _ => []
def dPutV {α : Type} (ks : List PK) (xs : List α) (q : PK) (v : α) : List α := if q ∈ ks then dRepl q v ks xs else xs ++ [v]
section
variable {T : Tb} {K : PySem.W.Frag} {R : Pl} {F H : Hp} {S : Sto}
theorem dRepl_rel {q : PK} {v : PV} {w : V} (rv : Rel T K R F v w) : ∀ {ks : List PK} {xs : List PV} {us : List V}, RelL T K R F xs us → RelL T K R F (dRepl q v ks xs) (dRepl q w ks us)
  | [], _, _, _ => by unfold dRepl; exact .nil
  | k :: ks, [], us, h => by rw [RelL] at h; subst h; exact .nil
  | k :: ks, x :: xs, us, h => by
    rw [RelL] at h
    obtain ⟨u, r, rfl, h1, h2⟩ := h
    unfold dRepl
    refine .cons ?_ (dRepl_rel rv h2)
    by_cases e : k = q
    · rw [if_pos e, if_pos e]; exact rv
    · rw [if_neg e, if_neg e]; exact h1
theorem dPutV_rel {ks : List PK} {q : PK} {v : PV} {w : V} (rv : Rel T K R F v w) {xs : List PV} {us : List V} (h : RelL T K R F xs us) : RelL T K R F (dPutV ks xs q v) (dPutV ks us q w) := by
  unfold dPutV
  by_cases e : q ∈ ks
  · rw [if_pos e, if_pos e]; exact dRepl_rel rv h
  · rw [if_neg e, if_neg e]; exact h.append (.cons rv .nil)
theorem dRepl_len {α : Type} {q : PK} {v : α} : ∀ {ks : List PK} {xs : List α}, xs.length = ks.length → (dRepl q v ks xs).length = ks.length
  | [], [], _ => rfl
  | [], _ :: _, h => by cases h
  | _ :: _, [], h => by cases h
  | k :: ks, x :: xs, h => by unfold dRepl; rw [List.length_cons, List.length_cons, dRepl_len (by simpa using h)]
theorem dPutV_len {α : Type} {ks : List PK} {xs : List α} {q : PK} {v : α} (h : xs.length = ks.length) : (dPutV ks xs q v).length = (dPutK ks q).length := by
  unfold dPutV dPutK
  by_cases e : q ∈ ks
  · rw [if_pos e, if_pos e]; exact dRepl_len h
  · rw [if_neg e, if_neg e]; simp [h]
/-- one kind of keys after the other -/
theorem dPut_zip {κ : Type} [DecidableEq κ] (f : κ → PK) (inj : ∀ a b, f a = f b → a = b) (q : κ) (w : V) {kk : List κ} {us : List V} (hl : us.length = kk.length) :
    ∃ kk' : List κ, dPutK (kk.map f) (f q) = kk'.map f ∧ putK (kk.zip us) q w = kk'.zip (dPutV (kk.map f) us (f q) w) := by
  have hm : (f q ∈ kk.map f) ↔ q ∈ kk := ⟨fun h => by
    obtain ⟨a, ha, e⟩ := List.mem_map.mp h
    rw [← inj _ _ e]; exact ha, fun h => List.mem_map_of_mem h⟩
  have hany : ∀ {kk : List κ} {us : List V}, us.length = kk.length → (((kk.zip us).any fun kv => decide (kv.1 = q)) = decide (q ∈ kk)) := by
    intro kk
    induction kk with
    | nil => intro us _; simp
    | cons k kk ih =>
      intro us h
      cases us with
      | nil => cases h
      | cons u us =>
        rw [List.zip_cons_cons, List.any_cons, ih (by simpa using h)]
        by_cases e : k = q
        · simp [e]
        · have e' : ¬ q = k := fun z => e z.symm
          simp [e, e']
  unfold putK
  rw [hany hl]
  by_cases h : q ∈ kk
  · refine ⟨kk, by unfold dPutK; rw [if_pos (hm.mpr h)], ?_⟩
    rw [if_pos (by simpa using h)]
    unfold dPutV
    rw [if_pos (hm.mpr h)]
    clear h hm hany
    induction kk generalizing us with
    | nil => rfl
    | cons k kk ih =>
      cases us with
      | nil => cases hl
      | cons u us =>
        rw [List.zip_cons_cons, List.map_cons, List.map_cons, dRepl, List.zip_cons_cons, ih (by simpa using hl)]
        by_cases e : k = q
        · rw [if_pos (show (k, u).1 = q from e), if_pos (by rw [e])]
        · rw [if_neg (show ¬ (k, u).1 = q from e), if_neg (fun z => e (inj _ _ z))]
  · refine ⟨kk ++ [q], by unfold dPutK; rw [if_neg (fun z => h (hm.mp z)), List.map_append]; rfl, ?_⟩
    rw [if_neg (by simpa using h)]
    unfold dPutV
    rw [if_neg (fun z => h (hm.mp z)), List.zip_append hl.symm]
    rfl
/-- a key's value -/
theorem key_rel (r : Rep T K R F S H) {k : PV} {w : V} {q : PK} (rk : Rel T K R F k w) (hk : keyOf k = some q) : (∃ x, q = .k x ∧ w = kV x) ∨ ∃ (x : List Key) (b : Addr), q = .t x ∧ w = .ref b ∧ H b = some (.tup (x.map kV)) := by
  cases k with
  | int i => cases hk; exact .inl ⟨_, rfl, rel_int rk⟩
  | str i => cases hk; exact .inl ⟨_, rfl, rel_str rk⟩
  | nd kd ys =>
    cases kd with
    | tup =>
      rw [keyOf, Option.map_eq_some_iff] at hk
      obtain ⟨q', hq, rfl⟩ := hk
      rw [Rel] at rk
      obtain ⟨b, ws, rfl, hb, hbl⟩ := rk
      have ew := flatKeys_rel hbl hq
      subst ew
      exact .inr ⟨q', b, rfl, rfl, r.ex.at_ hb⟩
    | _ => simp [keyOf] at hk
  | _ => cases hk
theorem dct_isD {a : Addr} {t : Bool} {ks : List PK} {us : List V} (h : Shp T K H a (.dct t ks) us) : IsD H a := by
  cases t with
  | false => obtain ⟨_, kk, _, h⟩ := h; exact .inl ⟨_, h⟩
  | true => obtain ⟨_, kk, _, h⟩ := h; exact .inr ⟨_, h⟩
/-- what a dict holds at a key, the empty one of any kind -/
theorem dict_getZ (r : Rep T K R F S H) {d k : PV} {u w : V} (rd : Rel T K R F d u) (rk : Rel T K R F k w) {t : Bool} {ks : List PK} {xs : List PV} {q : PK} (hv : view d S = some (.dct t ks, xs)) (hk : keyOf k = some q) (hf : q.fits t = true ∨ ks = []) :
    ∃ a o, u = .ref a ∧ IsD H a ∧ DGetZ H a w o ∧ (∀ x, dLook ks xs q = some x → ∃ v, o = some v ∧ Rel T K R F x v) ∧ (dLook ks xs q = none → o = none) := by
  obtain ⟨a, us, eu, hs, hl⟩ := view_rel r rd hv
  have hd := dct_isD hs
  by_cases hq : q.fits t = true
  · obtain ⟨a', o, e, g, h1, h2⟩ := dict_get r rd rk hv hk hq
    rw [eu] at e
    cases e
    exact ⟨a, o, eu, hd, .inl g, h1, h2⟩
  · have hks : ks = [] := hf.resolve_left hq
    subst hks
    refine ⟨a, none, eu, hd, .inr ⟨?_, rfl⟩, fun x hx => ?_, fun _ => rfl⟩
    · rcases key_rel r rk hk with ⟨x, rfl, rfl⟩ | ⟨x, b, rfl, rfl, hb⟩
      · cases t with
        | false => exact absurd rfl hq
        | true =>
          obtain ⟨hl0, kk, e, h⟩ := hs
          have : kk = [] := List.map_eq_nil_iff.mp e.symm
          subst this
          exact .inl ⟨h, x, rfl⟩
      · cases t with
        | true => exact absurd rfl hq
        | false =>
          obtain ⟨hl0, kk, e, h⟩ := hs
          have : kk = [] := List.map_eq_nil_iff.mp e.symm
          subst this
          exact .inr ⟨h, x, b, rfl, hb⟩
    · cases xs <;> cases hx
end

/-! ### k in d -/
def inD (neg : Bool) (x y : PV) (S : Sto) : Out PV := match view y S with
  | some (.dct t ks, xs) => (match keyOf x with
    | some q => if q.fits t = true ∨ ks = [] then .ok (.bl (if neg then (dLook ks xs q).isNone else (dLook ks xs q).isSome)) S else .bad
    | none => .bad)
  | _ => inZ neg x y S
def rInD (neg : Bool) : R2 := fun x y H Q => ∃ a o, y = .ref a ∧ DGetZ H a x o ∧ Q (.bl (if neg then !o.isSome else o.isSome)) H
theorem op_inD0 {X : Cx} (hu : X.A.units + 1 < cLine) : OpR X (compareOp .In) (rInD false) := by
  rintro pins s σ H x y v u Q I rx ry ⟨a, o, rfl, g, q⟩
  cases ry
  exact z_in hu I g rx fun s' I' => ⟨.bl o.isSome, H, I', rfl, q⟩
theorem op_notInD0 {X : Cx} (hu : X.A.units + 1 < cLine) : OpR X (compareOp .NotIn) (rInD true) := by
  rintro pins s σ H x y v u Q I rx ry ⟨a, o, rfl, g, q⟩
  cases ry
  exact z_notIn hu I g rx fun s' I' => ⟨.bl !o.isSome, H, I', rfl, q⟩
theorem op_inD {X : Cx} (hu : X.A.units + 1 < cLine) : OpR X (compareOp .In) (fun x y H Q => rInD false x y H Q ∨ rInZ X.K false x y H Q) := OpR.or (op_inD0 hu) op_inZ
theorem op_notInD {X : Cx} (hu : X.A.units + 1 < cLine) : OpR X (compareOp .NotIn) (fun x y H Q => rInD true x y H Q ∨ rInZ X.K true x y H Q) := OpR.or (op_notInD0 hu) op_notInZ
theorem oz_inD {T : Tb} {K : PySem.W.Frag} (neg : Bool) : OpZ T K (inD neg) (fun x y H Q => rInD neg x y H Q ∨ rInZ K neg x y H Q) := by
  intro E R F H S x y u w Q re rx ry h
  unfold inD at h
  split at h
  · rename_i t ks xs hv
    split at h
    · rename_i q hk
      split at h
      · rename_i hf
        obtain ⟨a, o, rfl, _, g, h1, h2⟩ := dict_getZ re ry rx hv hk hf
        refine .inl ⟨a, o, rfl, g, ?_⟩
        have e : (if neg then (dLook ks xs q).isNone else (dLook ks xs q).isSome) = (if neg then !o.isSome else o.isSome) := by
          cases hd : dLook ks xs q with
          | none => rw [h2 hd]; cases neg <;> rfl
          | some x => obtain ⟨v, e, _⟩ := h1 x hd; rw [e]; cases neg <;> rfl
        rw [e] at h
        exact PostV.here re (by rw [Rel]) h
      · exact h.elim
    · exact h.elim
  · exact .inr (oz_in neg E R F H S x y u w Q re rx ry h)

/-! ### d.get(k, x) -/
section
variable {T : Tb} {X : Cx} {E : XS} {o e f : Expr} {dO de df : DE} {apos cpos : Pos}
end

/-! ### {}, d[k] = v -/
def dDct0 : DE := fun _ S => .ok (.nd (.dct false []) []) S
def putZ (x i v : PV) (S : Sto) : Option Sto := match x with
  | .ref n => (match S[n]? with
    | some (some (.dct t ks, xs)) => (match keyOf i with
      | some q => if q.fits t = true ∧ ks.length < 16777216 then some (S.set n (some (.dct t (dPutK ks q), dPutV ks xs q v))) else
        if ks = [] ∧ t = false ∧ xs = [] then some (S.set n (some (.dct true [q], [v]))) else none
      | none => none)
    | _ => putP x i v S)
  | _ => none
def gzD (o i : DE) : DG := fun v l S => (o l S).st l fun x S1 => (i l S1).st l fun y S2 => match putZ x y v S2 with
  | some S3 => .nx l S3
  | none => .bad
def rSetD : TSet := fun x i v H Q => ∃ a H', x = .ref a ∧ DPutZ H a i v H' ∧ Q H'
theorem set_dct {X : Cx} (hu : X.A.units + 1 < cLine) : PSet X rSetD := by
  rintro pins s σ H x y z v u w Q I rx ry rz ⟨a, H', rfl, g, q⟩
  cases rx
  exact z_setItem hu I g ry rz fun s' I' => ⟨H', I', q⟩
theorem putZ_rel {T : Tb} {K : PySem.W.Frag} {R : Pl} {F H : Hp} {S S3 : Sto} (r : Rep T K R F S H) {x i v : PV} {u w z : V} (rx : Rel T K R F x u) (ri : Rel T K R F i w) (rv : Rel T K R F v z) (h : putZ x i v S = some S3) {Q : Hp → Prop} (hq : ∀ H', Rep T K R F S3 H' → Q H') :
    rSetD u w z H Q ∨ rSetL u w z H Q := by
  cases x with
  | ref n =>
    simp only [putZ] at h
    split at h
    · rename_i t ks xs hS
      left
      split at h
      · rename_i q hk
        rw [Rel] at rx
        obtain ⟨a, rfl, ha⟩ := rx
        obtain ⟨hz, us, hl, hx⟩ := r.live n a _ xs ha hS
        split at h
        · rename_i hf
          cases h
          rcases key_rel r ri hk with ⟨k, rfl, rfl⟩ | ⟨k, b, rfl, rfl, hb⟩
          · cases t with
            | true => exact absurd hf.1 Bool.false_ne_true
            | false =>
              obtain ⟨h0, kk, rfl, h2⟩ := hl
              have h0' : us.length = kk.length := by rw [h0, List.length_map]
              obtain ⟨kk', e1, e2⟩ := dPut_zip PK.k (fun a b e => by injection e) k z h0'
              refine ⟨a, upd H a (.dK (putK (kk.zip us) k z)), rfl, .inl (.inl ⟨_, k, h2, rfl, ?_, rfl⟩), hq _ ?_⟩
              · rw [List.length_zip, h0', Nat.min_self, sizeLine_eq]
                have := hf.2
                rw [List.length_map] at this
                exact this
              · rw [e2, e1]
                refine r.put ha hz (k := .dct false (kk'.map PK.k)) (us := dPutV (kk.map PK.k) us (.k k) z) ⟨?_, kk', rfl, upd_same⟩ (dPutV_rel rv hx)
                rw [← e1]
                exact dPutV_len h0
          · cases t with
            | false => exact absurd hf.1 Bool.false_ne_true
            | true =>
              obtain ⟨h0, kk, rfl, h2⟩ := hl
              have h0' : us.length = kk.length := by rw [h0, List.length_map]
              obtain ⟨kk', e1, e2⟩ := dPut_zip PK.t (fun a b e => by injection e) k z h0'
              refine ⟨a, upd H a (.dT (putK (kk.zip us) k z)), rfl, .inl (.inr ⟨_, k, b, h2, rfl, hb, ?_, rfl⟩), hq _ ?_⟩
              · rw [List.length_zip, h0', Nat.min_self, sizeLine_eq]
                have := hf.2
                rw [List.length_map] at this
                exact this
              · rw [e2, e1]
                refine r.put ha hz (k := .dct true (kk'.map PK.t)) (us := dPutV (kk.map PK.t) us (.t k) z) ⟨?_, kk', rfl, upd_same⟩ (dPutV_rel rv hx)
                rw [← e1]
                exact dPutV_len h0
        · rename_i hf
          split at h
          · rename_i hc
            obtain ⟨rfl, rfl, rfl⟩ := hc
            cases h
            rcases key_rel r ri hk with ⟨k, rfl, rfl⟩ | ⟨k, b, rfl, rfl, hb⟩
            · exact absurd ⟨rfl, by decide⟩ hf
            · obtain ⟨h0, kk, e, h2⟩ := hl
              have : kk = [] := List.map_eq_nil_iff.mp e.symm
              subst this
              refine ⟨a, upd H a (.dT [(k, z)]), rfl, .inr ⟨h2, k, b, rfl, hb, rfl⟩, hq _ ?_⟩
              exact r.put ha hz (k := .dct true [.t k]) (us := [z]) ⟨rfl, [k], rfl, upd_same⟩ (.cons rv .nil)
          · cases h
      · cases h
    · exact .inr (put_rel r rx ri rv h hq)
  | _ => cases h
theorem jgz_d {T : Tb} {X : Cx} {E : XS} {o i : Expr} {dO dI : DE} {pos : Pos} (hu : X.A.units + 1 < cLine) (ho : JE T X E o dO) (hi : JE T X E i dI)
    (ha : ∀ v, assign (.Subscript o i pos) X.env v = (do
      let ov ← holding [v] (eval o X.env)
      let iv ← holding [v, ov] (eval i X.env)
      standAt pos
      holding [v, ov, iv] (setItem ov iv v)
      release [v, ov, iv] []) := by intro _; rfl) : JGz T X (.Subscript o i pos) (gzD dO dI) := by
  have hs : PSet X (fun x i v H Q => rSetD x i v H Q ∨ rSetL x i v H Q) := fun pins s σ H x y z v u w Q I rx ry rz h =>
    h.elim (set_dct hu pins s σ H x y z v u w Q I rx ry rz) (set_list pins s σ H x y z v u w Q I rx ry rz)
  exact pg_imp (pg_sub ho hi hs ha) fun u σ H Q ⟨R, F, l, S, y, r, e, ry, h⟩ => by
    refine ⟨R, F, l, S, r, e, ?_⟩
    have h : OkG T X.K R F ((dO l S).st l fun x S1 => (dI l S1).st l fun z S2 => match putZ x z y S2 with
      | some S3 => .nx l S3
      | none => .bad) Q := h
    cases hd : dO l S with
    | ok x S1 =>
      rw [hd] at h
      intro R1 F1 H1 u1 p ex r1 rx
      have h1 := OkG.mono p ex h
      refine ⟨R1, F1, l, S1, r1, e.mono p ex, ?_⟩
      have h1 : OkG T X.K R1 F1 ((dI l S1).st l fun z S2 => match putZ x z y S2 with
        | some S3 => .nx l S3
        | none => .bad) Q := h1
      cases hd2 : dI l S1 with
      | ok z S2 =>
        rw [hd2] at h1
        intro R2 F2 H2 u2 p2 ex2 r2 rz
        have h2 := OkG.mono p2 ex2 h1
        have h2 : OkG T X.K R2 F2 (match putZ x z y S2 with
          | some S3 => .nx l S3
          | none => .bad) Q := h2
        split at h2
        · rename_i S3 hp
          exact putZ_rel r2 (rx.mono p2 ex2) rz ((ry.mono p ex).mono p2 ex2) hp fun H' r' => PostE.here r' ((e.mono p ex).mono p2 ex2) h2
        · exact h2.elim
      | err x' S2 => rw [hd2] at h1; exact h1.elim
      | bad => rw [hd2] at h1; exact h1.elim
    | err x' S1 => rw [hd] at h; exact h.elim
    | bad => rw [hd] at h; exact h.elim
section
variable {T : Tb} {X : Cx} {E : XS} {pos : Pos}
theorem je_dct0 : JE T X E (.Dict [] [] pos) dDct0 := by
  refine pe_imp pe_dnewK fun σ H Q ⟨R, F, l, S, r, e, h⟩ p hp => ?_
  exact PostV.new (k := .dct false []) (xs := []) (us := []) r hp ⟨rfl, [], rfl, .inl upd_same⟩ .nil h
end
end Z
end
end
section
set_option Elab.async false
set_option linter.all false
set_option maxRecDepth 100000
set_option maxHeartbeats 1000000
/-! ZG: dicts walked, made by comprehensions. -/
noncomputable section
namespace Z
open PySem PySem.Spec PyProof.Rows L2

section
variable {T : Tb} {K : PySem.W.Frag} {R : Pl} {F H : Hp} {S : Sto}
/-- the part that never changes, with one thing more (or locked) -/
theorem Rep.more (r : Rep T K R F S H) {q : Addr} {o : HO} (ht : ∀ ps, o ≠ .tbl ps) (hq : H q = some o) (hF : F q = none ∨ ∃ u, F q = some u ∧ (o = u ∨ (isD u = true ∧ ∃ ob, o = .frz ob u))) (hp : F q ≠ none ∨ ∀ k us, ¬ Liv T K H q k us) (hh : ∀ p ∈ R.hid, p.1 ≠ q) : Ex F (upd F q o) ∧ Rep T K R (upd F q o) S H := by
  have ex : Ex F (upd F q o) := fun a u e => by
    by_cases h : a = q
    · subst h
      rw [upd_same]
      rcases hF with hF | ⟨v, hF, hv⟩
      · rw [e] at hF; cases hF
      · rw [e] at hF
        cases hF
        rcases hv with rfl | ⟨hd, ob, rfl⟩
        · exact .inl rfl
        · exact .inr ⟨hd, ob, rfl⟩
    · exact .inl (by rw [upd_ne h]; exact e)
  refine ⟨ex, fun a u e => ?_, r.len, r.nd, r.there, fun p hp' => ?_, r.hidt, fun a ps e => ?_, r.tabs, r.hidnd, fun n a k xs h1 h2 => ?_⟩
  · by_cases h : a = q
    · subst h; rw [upd_same] at e; cases e; exact .inl hq
    · rw [upd_ne h] at e; exact r.ex a u e
  · obtain ⟨h1, h2, h3⟩ := r.hid p hp'
    exact ⟨h1, h2, by rw [upd_ne (hh p hp')]; exact h3⟩
  · by_cases h : a = q
    · rw [h, upd_same] at e; exact ht ps (Option.some.inj e)
    · rw [upd_ne h] at e; exact r.ntb a ps e
  · obtain ⟨h3, us, h4, h5⟩ := r.live n a k xs h1 h2
    have ne : a ≠ q := fun z => hp.elim (fun y => y (by rw [← z]; exact h3)) fun y => y k us (by rw [← z]; exact h4)
    exact ⟨by rw [upd_ne ne]; exact h3, us, h4, h5.mono (Pl.refl R) ex⟩
/-- a tuple that is seen -/
theorem Rep.tup (r : Rep T K R F S H) (hd : ∀ p ∈ R.hid, hidO p.2 = true) {q : Addr} {us : List V} (hq : H q = some (.tup us)) : ∃ F', Ex F F' ∧ F' q = some (.tup us) ∧ Rep T K R F' S H := by
  cases e : F q with
  | some o =>
    have h1 := r.ex q o e
    rw [hq] at h1
    rcases h1 with h1 | ⟨_, ob, h1⟩
    · cases h1
      exact ⟨F, Ex.refl F, e, r⟩
    · cases h1
  | none =>
    obtain ⟨ex, r2⟩ := r.more (fun _ z => by cases z) hq (.inl e) (.inr fun k ws h => by
      cases k with
      | tup => exact h
      | scr => exact h
      | lst => have h : H q = _ := h; rw [hq] at h; cases h
      | dct t ks => cases t <;> (obtain ⟨_, kk, _, h⟩ := h; rw [hq] at h; cases h)
      | ins c fs => obtain ⟨_, dx, h⟩ := h; rw [hq] at h; cases h
      | clo a0 c0 q0 us0 => exact h
      | exn c fs => exact h) fun p hp z => hidO.nt (hd p hp) us (by
        have h1 := (r.hid p hp).1
        rw [z, hq] at h1
        exact (Option.some.inj h1).symm)
    exact ⟨_, ex, upd_same, r2⟩
/-- a dict that stays is locked -/
theorem Rep.lock (r : Rep T K R F S H) {d : Addr} {u : HO} {od : Obj} (hu : isD u = true) (hF : F d = some u) (hH : H d = some u) : Ex F (upd F d (.frz od u)) ∧ Rep T K R (upd F d (.frz od u)) S (upd H d (.frz od u)) := by
  have ex : Ex F (upd F d (.frz od u)) := fun a v e => by
    by_cases h : a = d
    · subst h
      rw [hF] at e
      cases e
      exact .inr ⟨hu, od, upd_same⟩
    · exact .inl (by rw [upd_ne h]; exact e)
  refine ⟨ex, fun a v e => ?_, r.len, r.nd, fun a ha => ?_, fun p hp => ?_, r.hidt, fun a ps e => ?_, tabs_put r.tabs hH (by cases u <;> first | rfl | cases hu), r.hidnd, fun n a k xs h1 h2 => ?_⟩
  · by_cases h : a = d
    · subst h; rw [upd_same] at e ⊢; exact .inl e
    · rw [upd_ne h] at e ⊢; exact r.ex a v e
  · by_cases h : a = d
    · rw [h, upd_same]; exact ⟨fun z => (nomatch z), fun ps z => by cases z⟩
    · rw [upd_ne h]; exact r.there a ha
  · obtain ⟨h1, h2, h3⟩ := r.hid p hp
    have ne : p.1 ≠ d := fun z => by rw [z, hF] at h3; cases h3
    exact ⟨by rw [upd_ne ne]; exact h1, h2, by rw [upd_ne ne]; exact h3⟩
  · by_cases h : a = d
    · rw [h, upd_same] at e; cases e
    · rw [upd_ne h] at e; exact r.ntb a ps e
  · obtain ⟨h3, us, h4, h5⟩ := r.live n a k xs h1 h2
    have ne : a ≠ d := fun z => by rw [z, hF] at h3; cases h3
    exact ⟨by rw [upd_ne ne]; exact h3, us, h4.upd ne, h5.mono (Pl.refl R) ex⟩
end
/-- a dict's value is locked as it comes -/
theorem pe_lk {X : Cx} {e : Expr} {t : TE} (he : L2.PE X e t) : L2.PE X e (fun σ H Q => t σ H fun x H1 => (∃ d u, x = .ref d ∧ H1 d = some u ∧ Mut (some u) ∧ ∀ od, Q x (upd H1 d (.frz od u))) ∨ Q x H1) := by
  refine ⟨fun pins s σ H Q I h => ?_⟩
  refine thn (he.run pins s σ H _ I h) fun u s1 ⟨x, H1, I1, rx, q⟩ => ?_
  rcases q with ⟨d, v, rfl, hd, mu, q⟩ | q
  · obtain ⟨od, I2⟩ := I1.lock hd mu
    exact ⟨_, _, I2, rx, q od⟩
  · exact ⟨x, H1, I1, rx, q⟩
/-! ### for k in d -/
def itD (x : PV) (S : Sto) : Out ItZ := match x with
  | .nd (.dct _ ks) _ => .ok ⟨ks.map pkV, []⟩ S
  | x => itOf x S
def dItD (d : DE) : DI := fun l S => (d l S).bind fun x S1 => itD x S1
section
variable {T : Tb} {K : PySem.W.Frag} {R : Pl} {F H : Hp} {S : Sto}
theorem keyP_rel (k : Key) : Rel T K R F (keyP k) (kV k) := by
  cases k with
  | inl i => unfold keyP; rw [Rel]; rfl
  | inr i => unfold keyP; rw [Rel]; rfl
theorem keyPs_rel : ∀ ks : List Key, RelL T K R F (ks.map keyP) (ks.map kV)
  | [] => .nil
  | k :: ks => .cons (keyP_rel k) (keyPs_rel ks)
end
theorem zip_get {α β : Type} : ∀ {xs : List α} {ys : List β} {i : Nat} {x : α} {y : β}, (xs.zip ys)[i]? = some (x, y) → xs[i]? = some x
  | [], _, _, _, _, h => by simp at h
  | _ :: _, [], _, _, _, h => by simp at h
  | a :: xs, b :: ys, 0, x, y, h => by
    simp at h
    simp [h.1]
  | a :: xs, b :: ys, i + 1, x, y, h => by
    simp only [List.zip_cons_cons, List.getElem?_cons_succ] at h ⊢
    exact zip_get h
theorem walkz_k {T : Tb} {K : PySem.W.Frag} {R1 : Pl} {F1 : Hp} {d : Addr} {od : Obj} {kk : List Key} {us : List V} (hl : us.length = kk.length) (hF : F1 d = some (.frz od (.dK (kk.zip us)))) : WalkZ T K (Itk d od (kk.zip us)) R1 F1 ⟨(kk.map PK.k).map pkV, []⟩ where
  goes := fun i R F H S hi p e r _ => ⟨r.ex.at_ (e.at_ hF), by
    have : i < kk.length := by simpa using hi
    rw [List.length_zip, hl, Nat.min_self]; exact this⟩
  stops := fun R F H S p e r _ => ⟨r.ex.at_ (e.at_ hF), by
    show (kk.zip us).length ≤ ((kk.map PK.k).map pkV).length
    rw [List.length_zip, hl, Nat.min_self]; simp⟩
  yields := fun i R F H H' S x hi p e r _ y => by
    obtain ⟨rfl, k, v, h1, rfl⟩ := y
    have h2 := zip_get h1
    refine ⟨F, keyP k, Ex.refl F, r, ?_, keyP_rel k⟩
    show ((kk.map PK.k).map pkV)[i]? = _
    rw [List.getElem?_map, List.getElem?_map, h2]; rfl
theorem walkz_t {T : Tb} {K : PySem.W.Frag} {R1 : Pl} {F1 : Hp} {d : Addr} {od : Obj} {kk : List (List Key)} {us : List V} (hl : us.length = kk.length) (hF : F1 d = some (.frz od (.dT (kk.zip us)))) : WalkZ T K (Itkt d od (kk.zip us)) R1 F1 ⟨(kk.map PK.t).map pkV, []⟩ where
  goes := fun i R F H S hi p e r _ => ⟨r.ex.at_ (e.at_ hF), by
    have : i < kk.length := by simpa using hi
    rw [List.length_zip, hl, Nat.min_self]; exact this⟩
  stops := fun R F H S p e r _ => ⟨r.ex.at_ (e.at_ hF), by
    show (kk.zip us).length ≤ ((kk.map PK.t).map pkV).length
    rw [List.length_zip, hl, Nat.min_self]; simp⟩
  yields := fun i R F H H' S x hi p e r _ y => by
    obtain ⟨rfl, k, v, q, h1, rfl, hq⟩ := y
    have h2 := zip_get h1
    obtain ⟨F', ex, hF', r'⟩ := r.tup r.hidt hq
    refine ⟨F', .nd .tup (k.map keyP), ex, r', ?_, ?_⟩
    · show ((kk.map PK.t).map pkV)[i]? = _
      rw [List.getElem?_map, List.getElem?_map, h2]; rfl
    · rw [Rel]
      exact ⟨q, _, rfl, hF', keyPs_rel k⟩
theorem ji_dct {T : Tb} {X : Cx} {E : XS} {tg e : Expr} {d : DE} (he : JE T X E e d) : JI T X E tg e (dItD d) := by
  refine pi_imp (pi_or (ji_val he) (pi_keys (pe_lk he))) fun σ H Q ⟨R, F, l, S, r, e, h⟩ => ?_
  have old : (∀ t ks xs S1, d l S ≠ .ok (.nd (.dct t ks) xs) S1) → tI T X.K E (dItV d) σ H Q := fun hn => by
    refine ⟨R, F, l, S, r, e, ?_⟩
    unfold dItD at h
    unfold dItV
    cases hd : d l S with
    | ok x S1 =>
      rw [hd] at h
      have h : OkI T X.K R F (itD x S1) Q (E σ) := h
      unfold itD at h
      split at h
      · rename_i t ks xs
        exact absurd hd (hn _ _ _ _)
      · exact h
    | err x S1 => rw [hd] at h; exact h
    | bad => rw [hd] at h; exact h
  by_cases hc : ∃ t ks xs S1, d l S = .ok (.nd (.dct t ks) xs) S1
  · obtain ⟨t, ks, xs, S1, hd⟩ := hc
    right
    unfold dItD at h
    rw [hd] at h
    refine ⟨R, F, l, S, r, e, ?_⟩
    rw [hd]
    intro R1 F1 H1 u p ex r1 rx
    rw [Rel] at rx
    obtain ⟨a, us, rfl, hs, hl⟩ := rx
    have h : OkI T X.K R F (.ok ⟨ks.map pkV, []⟩ S1) Q (E σ) := h
    cases t with
    | false =>
      obtain ⟨h0, kk, rfl, hk⟩ := hs
      have h0' : us.length = kk.length := by rw [h0, List.length_map]
      have fin : ∀ (od : Obj) (F2 : Hp) (H2 : Hp), Ex F1 F2 → Rep T X.K R1 F2 S1 H2 → F2 a = some (.frz od (.dK (kk.zip us))) → ∃ d o, V.ref a = V.ref d ∧ ((∃ kvs, H2 d = some (.frz o (.dK kvs)) ∧ Q (Itk d o kvs) H2) ∨ ∃ kvs, H2 d = some (.frz o (.dT kvs)) ∧ Q (Itkt d o kvs) H2) :=
        fun od F2 H2 ex2 r2 hF => ⟨a, od, rfl, .inl ⟨_, r2.ex.at_ hF, h R1 F2 H2 _ p (ex.trans ex2) r2 (walkz_k h0' hF)⟩⟩
      rcases hk with hk | ⟨od, hk⟩
      · rcases r1.ex a _ hk with hH | ⟨_, od, hH⟩
        · refine .inl ⟨a, _, rfl, hH, True.intro, fun od => ?_⟩
          obtain ⟨ex2, r2⟩ := r1.lock (od := od) rfl hk hH
          exact fin od _ _ ex2 r2 upd_same
        · obtain ⟨ex2, r2⟩ := r1.more (fun _ z => by cases z) hH (.inr ⟨_, hk, .inr ⟨rfl, od, rfl⟩⟩) (.inl (by rw [hk]; exact fun z => nomatch z)) (fun p hp z => by
            have := (r1.hid p hp).2.2
            rw [z, hk] at this; cases this)
          exact .inr (fin od _ _ ex2 r2 upd_same)
      · exact .inr (fin od F1 H1 (Ex.refl F1) r1 hk)
    | true =>
      obtain ⟨h0, kk, rfl, hk⟩ := hs
      have h0' : us.length = kk.length := by rw [h0, List.length_map]
      have fin : ∀ (od : Obj) (F2 : Hp) (H2 : Hp), Ex F1 F2 → Rep T X.K R1 F2 S1 H2 → F2 a = some (.frz od (.dT (kk.zip us))) → ∃ d o, V.ref a = V.ref d ∧ ((∃ kvs, H2 d = some (.frz o (.dK kvs)) ∧ Q (Itk d o kvs) H2) ∨ ∃ kvs, H2 d = some (.frz o (.dT kvs)) ∧ Q (Itkt d o kvs) H2) :=
        fun od F2 H2 ex2 r2 hF => ⟨a, od, rfl, .inr ⟨_, r2.ex.at_ hF, h R1 F2 H2 _ p (ex.trans ex2) r2 (walkz_t h0' hF)⟩⟩
      rcases hk with hk | ⟨od, hk⟩
      · rcases r1.ex a _ hk with hH | ⟨_, od, hH⟩
        · refine .inl ⟨a, _, rfl, hH, True.intro, fun od => ?_⟩
          obtain ⟨ex2, r2⟩ := r1.lock (od := od) rfl hk hH
          exact fin od _ _ ex2 r2 upd_same
        · obtain ⟨ex2, r2⟩ := r1.more (fun _ z => by cases z) hH (.inr ⟨_, hk, .inr ⟨rfl, od, rfl⟩⟩) (.inl (by rw [hk]; exact fun z => nomatch z)) (fun p hp z => by
            have := (r1.hid p hp).2.2
            rw [z, hk] at this; cases this)
          exact .inr (fin od _ _ ex2 r2 upd_same)
      · exact .inr (fin od F1 H1 (Ex.refl F1) r1 hk)
  · exact .inl (old fun t ks xs S1 z => hc ⟨t, ks, xs, S1, z⟩)

/-! ### {k: v for ..}, keys of any kind -/
section
variable {X : Cx} {pins : List (Addr × Obj)} {σ : L2.St} {H : Hp} {s : Shared} {D : Addr} {y v : V} {u w : Value}
/-- a comprehension's store -/
theorem z_dictSet {E : Value → Shared → Prop} {G : Hp} {Q : Unit → Shared → Prop} (hu : X.A.units < cLine) (I : Inv X pins σ H s) (p : DPutZ H D y v G) (ry : RelV y u) (rv : RelV v w) (h : ∀ s', Inv X pins σ G s' → Q () s') : wpAny (model X.prog X.w) X.A (dictSet D u w) Q E s := by
  have room : (tupleKind (mixKind X.prog X.w)).room X.A := hu
  have tupset : ∀ {H : Hp} {s : Shared} {kvs : List (List Key × V)} {k : List Key} {b : Addr}, Inv X pins σ H s → H D = some (.dT kvs) → H b = some (.tup (k.map kV)) → kvs.length < sizeLine → (∀ s', Inv X pins σ (upd H D (.dT (putK kvs k v))) s' → Q () s') → wpAny (model X.prog X.w) X.A (dictSet D (.ref b) w) Q E s := by
    intro H s kvs k b I e eb hz h
    obtain ⟨zz, hd, xs, rel, dd⟩ := dt_of I.hok e
    have hl : (putK kvs k v).length ≤ sizeLine := by have := length_putK kvs k v; omega
    refine wpAny_dictSet_heap (hsz := by rw [← Paired.length rel]; exact zz) room (key_of I.hok eb) dd fun h' dd' hs => h _ ?_
    obtain ⟨q, es, ep, hq, c2, c3, c4, _, c5⟩ := dd'
    refine d_write I (by rw [e]; exact True.intro) hs ⟨q, hq⟩ ⟨hl, hd, _, (rel.put k eb rv).keeps fun c ys ec => ?_, q, es, ep, hq, c2, c3, c4, c5⟩
    rw [upd_ne (ne_of ec e (fun z => nomatch z))]
    exact ec
  rcases p with (⟨kvs, k, e, rfl, hz, rfl⟩ | ⟨kvs, k, b, e, rfl, eb, hz, rfl⟩) | ⟨e, k, b, rfl, eb, rfl⟩
  · exact d_dictSet I e hz ry rv h
  · cases ry
    exact tupset I e eb hz h
  · cases ry
    have nb : b ≠ D := fun z => by rw [z, e] at eb; cases eb
    refine tupset (em_retype I e) upd_same (by rw [upd_ne nb]; exact eb) (by rw [sizeLine_eq]; decide) fun s' J => ?_
    rw [upd2] at J
    exact h s' J
end

def tDz (wi : TI) (g : TG) (tt : TT) (tk tv : TE) (vs : List Nat) : TE := fun σ H Q => wi σ H fun J G => ∀ D, G D = none → ∃ W : Nat → Nat → Hp → Prop, (∃ m, W 0 m (upd G D (.dK []))) ∧ ∀ i m L, W i m L →
  (J.stop i L ∧ Q (.ref D) L) ∨ (J.go i L ∧ ∃ Nx : Hp → Prop, (∀ L', Nx L' → ∃ m', m' < m ∧ W (i + 1) m' L') ∧ ∀ x L', J.yld i L x L' → g x (wipe σ vs) L' fun τ M => wipe τ vs = wipe σ vs ∧ tt τ M fun b N =>
    if b = true then tk τ N fun y N1 => tv τ N1 fun z N2 => ∃ N3, DPutZ N2 D y z N3 ∧ Nx N3 else Nx N)
section
variable {X : Cx}
theorem dz_core {pins : List (Addr × Obj)} {s : Shared} {σ : L2.St} {H : Hp} {Q : VK} {kx vx tg iter : Expr} {ifs : List Expr} {scope : Scope} {own : List (Str × Nat)} {pos pos2 : Pos} {wi : TI} {g : TG} {tt : TT} {tk tv : TE} {use : Option (Value → Sem Unit)} {Fi : Value → Shared → Prop} (hc : X.calm = true) (hN : X.N.Nodup)
    (hu : ∀ (s : Shared) (H : Hp) (env : Env) (fp : List Addr), (X.blk s H scope env fp).A.units < cLine) (I : Inv X pins σ H s) (hi : PI X tg iter wi) (ok : BlkOk X.N X.env.scope scope own)
    (hg : ∀ (s : Shared) (H : Hp) (C : Addr) (cl : List (Str × Addr)) (fp : List Addr), PG (X.blk s H scope (compEnvC scope cl C X.env) fp) tg g)
    (ht : ∀ (s : Shared) (H : Hp) (C : Addr) (cl : List (Str × Addr)) (fp : List Addr), PTs (X.blk s H scope (compEnvC scope cl C X.env) fp) ifs tt)
    (hk : ∀ (s : Shared) (H : Hp) (C : Addr) (cl : List (Str × Addr)) (fp : List Addr), L2.PE (X.blk s H scope (compEnvC scope cl C X.env) fp) kx tk)
    (hv : ∀ (s : Shared) (H : Hp) (C : Addr) (cl : List (Str × Addr)) (fp : List Addr), L2.PE (X.blk s H scope (compEnvC scope cl C X.env) fp) vx tv) (hs : ∀ x, foldedSetIterable iter X.env x = pure x) (h : tDz wi g tt tk tv (own.map (·.2)) σ H Q)
    (fi : ∀ D C s' m L, Inv X pins σ L s' → Q (.ref D) L → s'.heap.Ns C m → FpOk X pins L C → compPost (model X.prog X.w) X.A X.xe use Fi (.ref D) C (.ok .next) s') :
    wpAny (model X.prog X.w) X.A (comprehension (.DictComp kx vx [⟨tg, iter, ifs, 0⟩] scope pos) scope X.env pos2 newDict false (eval iter X.env) use) Fi X.xe s := by
  -- what the block sees of the cells about it
  have frees : ∀ y ∈ scope.names, y.2 = .free → ∃ c, X.env.cells.lookup y.1 = some c := fun y my e => (ok.free y my e).elim (fun k => I.ok.has _ (.inl k)) fun k => I.ok.has _ (.inr k)
  refine wpAny_comprehension_free (use := use) rfl hs (closure_ok frees) ok.kind (fun y my e => by rw [ok.uniq y my, e]) (thn (hi.run pins s σ H _ I h) fun _ sa hx => thn hx fun _ sb hx2 => ?_)
  obtain ⟨it, fp, tn, J, Hb, rfl, Ib, Tu, stb, fb, wish⟩ := hx2
  refine wpAny_newObj_type (newEnv_comp ?_)
  -- the new dict, at D
  generalize eD : sb.heap.objs.size = D
  have nD : Hb D = none := Ib.hok.fresh (Nat.le_of_eq eD)
  obtain ⟨W, ⟨m0, w0⟩, step⟩ := wish D nD
  generalize esc : ({ sb with heap := sb.heap.push { cls := .type "dict", data := .dict #[] } } : Shared) = sc
  have ehc : sc.heap = sb.heap.push { cls := .type "dict", data := .dict #[] } := by rw [← esc]
  obtain ⟨Hc, eHc⟩ : ∃ Hc : Hp, upd Hb D (.dK []) = Hc := ⟨_, rfl⟩
  have Ic : Inv X pins σ Hc sc := by
    rw [← esc, ← eHc]
    exact Ib.laid (t' := sb.toks) (fun _ _ e => Heap.get?_push_of_some _ e) (Nat.le_of_eq eD) (by rw [← eD]; exact dk_empty sb.heap Ib.big)
  have below : ∀ b ∈ fp, b < sb.heap.objs.size := fun b mb => let ⟨_, e, _⟩ := Tu.obj _ _ stb b mb; Heap.lt_size e
  have fc : ∀ b ∈ fp, FpOk X pins Hc b ∧ b < sc.heap.objs.size := fun b mb =>
    ⟨⟨by rw [← eHc, upd_ne (by rw [← eD]; exact Nat.ne_of_lt (below b mb))]; exact (fb b mb).1, (fb b mb).2⟩, by rw [ehc, Heap.size_push]; exact Nat.lt_succ_of_lt (below b mb)⟩
  have stc : tn 0 sc.heap := Tu.keep _ _ _ stb fun b _ o e => by rw [ehc]; exact Heap.get?_push_of_some _ e
  have Id := block_start Ic ok hN fc
  show codeAny _ _ (.compStart (.DictComp kx vx [⟨tg, iter, ifs, 0⟩] scope pos) 0 (.ref it) (.ref D) (compEnvC scope (cellsFrom (sc.heap.objs.size + 1) scope.names (cloFrom X.env.cells scope.names [])) sc.heap.objs.size X.env)) _ { sc with heap := pushCells (sc.heap.push { cls := .type "dict", data := .dict #[] }) scope.names }
  -- the rules within the block
  have pg := hg sc Hc sc.heap.objs.size (cellsFrom (sc.heap.objs.size + 1) scope.names (cloFrom X.env.cells scope.names [])) fp
  have pt := ht sc Hc sc.heap.objs.size (cellsFrom (sc.heap.objs.size + 1) scope.names (cloFrom X.env.cells scope.names [])) fp
  have pk := hk sc Hc sc.heap.objs.size (cellsFrom (sc.heap.objs.size + 1) scope.names (cloFrom X.env.cells scope.names [])) fp
  have pv := hv sc Hc sc.heap.objs.size (cellsFrom (sc.heap.objs.size + 1) scope.names (cloFrom X.env.cells scope.names [])) fp
  obtain ⟨ce, ece⟩ : ∃ ce, compEnvC scope (cellsFrom (sc.heap.objs.size + 1) scope.names (cloFrom X.env.cells scope.names [])) sc.heap.objs.size X.env = ce := ⟨_, rfl⟩
  rw [ece] at Id pg pt pk pv ⊢
  have ecl : ce.locals = sc.heap.objs.size := by rw [← ece]; rfl
  obtain ⟨sd, esd⟩ : ∃ sd : Shared, ({ sc with heap := pushCells (sc.heap.push { cls := .type "dict", data := .dict #[] }) scope.names } : Shared) = sd := ⟨_, rfl⟩
  rw [esd] at Id ⊢
  have std : tn 0 sd.heap := Tu.keep _ _ _ stc fun b _ o e => by rw [← esd]; exact pushCells_keeps _ _ _ _ (Heap.get?_push_of_some _ e)
  have still : ∀ {σ' : L2.St} {L : Hp} {s' : Shared}, Inv (X.blk sc Hc scope ce fp) [] σ' L s' → (∀ b ∈ fp, L b = none) → ∀ b ∈ fp, FpOk (X.blk sc Hc scope ce fp) [] L b := fun {σ' L s'} J' nn b mb =>
    ⟨nn b mb, (J'.ok.exf b mb).1, J'.ok.exfs b mb, .inl mb, fun x c e => (J'.ok.exf b mb).2 x c e, fun p mp => absurd (show p ∈ ([] : List (Addr × Obj)) ++ [] from mp) (by simp)⟩
  refine codeAny_compStart_dict ?_ (Tu.self X.A 0 _ _ _ std ?_)
  all_goals
    refine compLoop_anyD (fun n s' => ∃ i L, Inv (X.blk sc Hc scope ce fp) [] (wipe σ (own.map (·.2))) L s' ∧ tn i s'.heap ∧ (∀ b ∈ fp, L b = none) ∧ W i n L) ?_ m0 ⟨0, Hc, Id, std, fun b mb => (fc b mb).1.1, by rw [← eHc]; exact w0⟩
    rintro n se ⟨i, L, Ie, ste, ne, we⟩
    rcases step i n L we with ⟨stop, qq⟩ | ⟨go, Nx, less, turn⟩
    · -- no item is left
      refine thnF (Tu.done (X.blk sc Hc scope ce fp) rfl rfl rfl hc i [] se _ L (fun _ _ => False) Ie (still Ie ne) ste stop) fun r sf ⟨er, If⟩ => ?_
      subst er
      have Ig : Inv X pins σ L sf := Ic.call' (ch := fp) If.os If.base If.hok If.bare fun b mb => ⟨(fc b mb).1.2.2.2.1, (fc b mb).1.2.1, (fc b mb).1.2.2.2.2.1, (fc b mb).1.2.2.2.2.2⟩
      have nC : L sc.heap.objs.size = none := by rw [← ecl]; exact If.free
      obtain ⟨m, hn, _⟩ := If.loc
      rw [show (X.blk sc Hc scope ce fp).env.locals = ce.locals from rfl, ecl] at hn
      exact fi D sc.heap.objs.size sf m L Ig qq hn (Ic.fpOk (Nat.le_refl sc.heap.objs.size) nC)
    · -- a turn
      refine thnF (Tu.item (X.blk sc Hc scope ce fp) rfl rfl rfl hc i [] se _ L (fun _ _ => False) Ie (still Ie ne) ste go) fun r sf ⟨u, er, hf⟩ => ?_
      subst er
      refine thnF hf fun _ sg ⟨x, Lg, Ig, rg, yg, stg, ng⟩ => ?_
      have back : ∀ {σ8 : L2.St} {s' : Shared} {L' : Hp}, wipe σ8 (own.map (·.2)) = wipe σ (own.map (·.2)) → Inv (X.blk sc Hc scope ce fp) ([] ++ pinsAt fp sg.heap) σ8 L' s' → Nx L' →
          ∃ m, m < n ∧ ∃ i L, Inv (X.blk sc Hc scope ce fp) [] (wipe σ (own.map (·.2))) L s' ∧ tn i s'.heap ∧ (∀ b ∈ fp, L b = none) ∧ W i m L := fun {σ8 s' L'} ew I' nx => by
        obtain ⟨m', lt, w'⟩ := less L' nx
        have pin : ∀ b ∈ fp, ∀ o, sg.heap.get? b = some o → s'.heap.get? b = some o ∧ L' b = none := fun b mb o e =>
          have z := I'.pin (b, o) (List.mem_append_right _ (List.mem_append_right _ (mem_pinsAt mb e)))
          ⟨z.1, z.2.1⟩
        refine ⟨m', lt, i + 1, L', (I'.unpinned (pins := [])).weak (by rw [← ew, wipe_length]) (fun j v e => ?_), Tu.keep _ _ _ stg fun b mb o e => (pin b mb o e).1, fun b mb => ?_, w'⟩
        · rw [← ew] at e
          exact (wipe_some e).1
        · obtain ⟨o, e, _⟩ := Tu.obj _ _ stg b mb
          exact (pin b mb o e).2
      refine thnF (pg.run _ sg _ Lg x u _ (Ig.pinned (still Ig ng) (Tu.obj _ _ stg)) rg (turn x Lg yg)) fun _ sh ⟨σ8, Lh, Ih, ew, qh⟩ => ?_
      refine thnF (pt.run _ sh σ8 Lh _ Ih qh) fun b si ⟨Li, Ii, qi⟩ => ?_
      cases b with
      | false =>
        simp only [Bool.false_eq_true, if_false] at qi ⊢
        exact back ew Ii qi
      | true =>
        simp only [if_true] at qi ⊢
        refine thnF (pk.run _ si σ8 Li _ Ii qi) fun zk sj ⟨yk, Lj, Ij, rj, qj⟩ => ?_
        refine thnF (pv.run _ sj σ8 Lj _ Ij qj) fun zv sl ⟨yv, Ll, Il, rl, N3, dp, nx⟩ => ?_
        exact z_dictSet (X := X.blk sc Hc scope ce fp) (hu sc Hc ce fp) Il dp rj rl fun so Io => back ew Io nx
theorem pe_dz {kx vx tg iter : Expr} {ifs : List Expr} {scope : Scope} {own : List (Str × Nat)} {pos : Pos} {wi : TI} {g : TG} {tt : TT} {tk tv : TE} (hc : X.calm = true) (hN : X.N.Nodup) (hu : ∀ (s : Shared) (H : Hp) (env : Env) (fp : List Addr), (X.blk s H scope env fp).A.units < cLine) (hi : PI X tg iter wi) (ok : BlkOk X.N X.env.scope scope own)
    (hg : ∀ (s : Shared) (H : Hp) (C : Addr) (cl : List (Str × Addr)) (fp : List Addr), PG (X.blk s H scope (compEnvC scope cl C X.env) fp) tg g)
    (ht : ∀ (s : Shared) (H : Hp) (C : Addr) (cl : List (Str × Addr)) (fp : List Addr), PTs (X.blk s H scope (compEnvC scope cl C X.env) fp) ifs tt)
    (hk : ∀ (s : Shared) (H : Hp) (C : Addr) (cl : List (Str × Addr)) (fp : List Addr), L2.PE (X.blk s H scope (compEnvC scope cl C X.env) fp) kx tk)
    (hv : ∀ (s : Shared) (H : Hp) (C : Addr) (cl : List (Str × Addr)) (fp : List Addr), L2.PE (X.blk s H scope (compEnvC scope cl C X.env) fp) vx tv) (hs : ∀ x, foldedSetIterable iter X.env x = pure x := by intro _; rfl) :
    L2.PE X (.DictComp kx vx [⟨tg, iter, ifs, 0⟩] scope pos) (tDz wi g tt tk tv (own.map (·.2))) := by
  refine ⟨fun pins s σ H Q I h => ?_⟩
  rw [arm_eval_DictComp]
  refine dz_core hc hN hu I hi ok hg ht hk hv hs h fun D C s' m L J q hn f => ⟨m, hn, fun hz sb => ?_⟩
  obtain ⟨f0, f1, f2, f3, f4, f5⟩ := f
  exact ⟨.ref D, L, J.turned (t' := s'.toks) (fun b o nb e => (sb.2 b nb).trans e) f0 f1 f3 f4 f5, rfl, q⟩
/-- name = {..} on one line, the name a local -/
theorem ps_setDz {i : Nat} {y : Str} {py : Pos} {kx vx tg iter : Expr} {ifs : List Expr} {scope : Scope} {own : List (Str × Nat)} {pos spos : Pos} {wi : TI} {g : TG} {tt : TT} {tk tv : TE} (hc : X.calm = true) (hN : X.N.Nodup) (hy : X.N[i]? = some y) (hyl : X.env.scope.names.lookup y = some .local)
    (hsw : swapsWith (.DictComp kx vx [⟨tg, iter, ifs, 0⟩] scope pos) (some (.Name y py)) spos.line X.env = pure true) (hu : ∀ (s : Shared) (H : Hp) (env : Env) (fp : List Addr), (X.blk s H scope env fp).A.units < cLine) (hi : PI X tg iter wi) (ok : BlkOk X.N X.env.scope scope own)
    (hg : ∀ (s : Shared) (H : Hp) (C : Addr) (cl : List (Str × Addr)) (fp : List Addr), PG (X.blk s H scope (compEnvC scope cl C X.env) fp) tg g)
    (ht : ∀ (s : Shared) (H : Hp) (C : Addr) (cl : List (Str × Addr)) (fp : List Addr), PTs (X.blk s H scope (compEnvC scope cl C X.env) fp) ifs tt)
    (hk : ∀ (s : Shared) (H : Hp) (C : Addr) (cl : List (Str × Addr)) (fp : List Addr), L2.PE (X.blk s H scope (compEnvC scope cl C X.env) fp) kx tk)
    (hv : ∀ (s : Shared) (H : Hp) (C : Addr) (cl : List (Str × Addr)) (fp : List Addr), L2.PE (X.blk s H scope (compEnvC scope cl C X.env) fp) vx tv) (hs : ∀ x, foldedSetIterable iter X.env x = pure x := by intro _; rfl) :
    PS X (.Assign [.Name y py] (.DictComp kx vx [⟨tg, iter, ifs, 0⟩] scope pos) spos) (tAsg (tDz wi g tt tk tv (own.map (·.2))) (gName i)) := by
  refine ⟨fun pins s σ H D I h => ?_⟩
  rw [exec_Assign_Name_used _ _ _ _ hsw]
  refine wpAny_bind (wpAny_standAt (wpAny_bind ?_))
  show wpAny _ X.A (do let _ ← comprehension (.DictComp kx vx [⟨tg, iter, ifs, 0⟩] scope pos) scope X.env (firstIterPos [⟨tg, iter, ifs, 0⟩] pos) newDict false (eval iter X.env) (some (assign (.Name y py) X.env))) _ _ s
  have hw : tDz wi g tt tk tv (own.map (·.2)) σ H (fun x L => gName i x σ L D.nx) := h
  refine wpAny_bind (thn (dz_core (Fi := fun _ s' => SP X pins D .next s') hc hN hu I hi ok hg ht hk hv hs hw fun L C s' m G J q hn f => ?_) fun _ s' hq => wpAny_pure (wpAny_pure hq))
  show wpAny _ _ (assign (.Name y py) X.env (.ref L)) _ _ _
  refine wpAny_assign_Name (store_ok2 (v := V.ref L) J hN hy (.inl hyl) rfl (fun s2 J2 ⟨a, sb, ha⟩ => ?_) (.inr hyl))
  obtain ⟨f0, f1, f2, f3, f4, f5⟩ := f
  have ne : C ≠ a := ha.elim (fun z => by rw [z]; exact f1) fun z e => f4 y a z e.symm
  exact ⟨m, hn.sameBut sb ne, fun hz sb3 => ⟨_, G, J2.turned (t' := s2.toks) (fun b o nb e => (sb3.2 b nb).trans e) f0 f1 f3 f4 f5, q⟩⟩
end

/-! ### by values -/
abbrev DSt := Bool × List PK × List PV
def dStep (a : DSt) (q : PK) (v : PV) : Option DSt := if q.fits a.1 = true ∧ a.2.1.length < 16777216 then some (a.1, dPutK a.2.1 q, dPutV a.2.1 a.2.2 q v) else
  if a.2.1 = [] ∧ a.1 = false ∧ a.2.2 = [] then some (true, [q], [v]) else none
def dcZ (t : TgZ) (hs : List (PV × Kd × List PV)) (c : DB) (ek ev : DE) (l : Loc) : List PV → DSt → Sto → Out DSt
  | [], a, S => .ok a S
  | x :: xs, a, S => match asg t x with
    | none => .bad
    | some ps => match c (setZ l ps) S with
      | .ok true S1 => (match ek (setZ l ps) S1 with
        | .ok y S2 => (match ev (setZ l ps) S2 with
          | .ok v S3 => if heldB hs S3 = true then (match (keyOf y).bind fun q => dStep a q v with
            | some a' => dcZ t hs c ek ev l xs a' S3
            | none => .bad) else .bad
          | _ => .bad)
        | _ => .bad)
      | .ok false S1 => if heldB hs S1 = true then dcZ t hs c ek ev l xs a S1 else .bad
      | _ => .bad
def dDc0 (vs : List Nat) (di : DI) (t : TgZ) (c : DB) (ek ev : DE) : Loc → Sto → Out DSt := fun l S => (di l S).bind fun it S1 => if heldB it.held S1 = true then dcZ t it.held c ek ev (wipeZ l vs) it.items (false, [], []) S1 else .bad
def dDc (vs : List Nat) (di : DI) (t : TgZ) (c : DB) (ek ev : DE) : DE := fun l S => (dDc0 vs di t c ek ev l S).bind fun a S1 => .ok (.nd (.dct a.1 a.2.1) a.2.2) S1
/-- the dict as it stands -/
def DRep (t : Bool) (ks : List PK) (o : HO) (us : List V) : Prop := us.length = ks.length ∧ ((t = false ∧ ∃ kk : List Key, ks = kk.map PK.k ∧ o = .dK (kk.zip us)) ∨ (t = true ∧ ∃ kk : List (List Key), ks = kk.map PK.t ∧ o = .dT (kk.zip us)))
theorem DRep.nt {t : Bool} {ks : List PK} {o : HO} {us : List V} (d : DRep t ks o us) : hidO o = true := by
  obtain ⟨_, ⟨_, _, _, rfl⟩ | ⟨_, _, _, rfl⟩⟩ := d <;> rfl
section
variable {T : Tb} {K : PySem.W.Frag}
theorem dStep_rel {R : Pl} {F H : Hp} {S : Sto} {D : Addr} {o : HO} {a a' : DSt} {us : List V} {q : PK} {y v : PV} {z w : V} (r : Rep T K R F S H) (hD : H D = some o) (d : DRep a.1 a.2.1 o us) (ry : Rel T K R F y z) (hk : keyOf y = some q) (h : dStep a q v = some a') :
    ∃ o' us', DPutZ H D z w (upd H D o') ∧ DRep a'.1 a'.2.1 o' us' ∧ ∀ (R' : Pl) (F' : Hp), RelL T K R' F' a.2.2 us → Rel T K R' F' v w → RelL T K R' F' a'.2.2 us' := by
  obtain ⟨t, ks, xs⟩ := a
  obtain ⟨hl, d⟩ := d
  unfold dStep at h
  split at h
  · rename_i hf
    cases h
    rcases d with ⟨et, kk, ek, rfl⟩ | ⟨et, kk, ek, rfl⟩
    · have et : t = false := et
      have ek : ks = kk.map PK.k := ek
      have hl : us.length = ks.length := hl
      subst et ek
      have hl' : us.length = kk.length := by rw [hl, List.length_map]
      rcases key_rel r ry hk with ⟨k, rfl, rfl⟩ | ⟨k, b, rfl, rfl, hb⟩
      · obtain ⟨kk', e1, e2⟩ := dPut_zip PK.k (fun a b e => by injection e) k w hl'
        refine ⟨.dK (putK (kk.zip us) k w), dPutV (kk.map PK.k) us (.k k) w, .inl (.inl ⟨_, k, hD, rfl, ?_, rfl⟩), ⟨dPutV_len hl, .inl ⟨rfl, kk', e1, by rw [e2]⟩⟩, fun R' F' hx hv => dPutV_rel hv hx⟩
        rw [List.length_zip, hl', Nat.min_self, sizeLine_eq]
        have := hf.2
        simpa using this
      · exact absurd hf.1 Bool.false_ne_true
    · have et : t = true := et
      have ek : ks = kk.map PK.t := ek
      have hl : us.length = ks.length := hl
      subst et ek
      have hl' : us.length = kk.length := by rw [hl, List.length_map]
      rcases key_rel r ry hk with ⟨k, rfl, rfl⟩ | ⟨k, b, rfl, rfl, hb⟩
      · exact absurd hf.1 Bool.false_ne_true
      · obtain ⟨kk', e1, e2⟩ := dPut_zip PK.t (fun a b e => by injection e) k w hl'
        refine ⟨.dT (putK (kk.zip us) k w), dPutV (kk.map PK.t) us (.t k) w, .inl (.inr ⟨_, k, b, hD, rfl, hb, ?_, rfl⟩), ⟨dPutV_len hl, .inr ⟨rfl, kk', e1, by rw [e2]⟩⟩, fun R' F' hx hv => dPutV_rel hv hx⟩
        rw [List.length_zip, hl', Nat.min_self, sizeLine_eq]
        have := hf.2
        simpa using this
  · rename_i hf
    split at h
    · rename_i hc
      cases h
      obtain ⟨e1, e2, e3⟩ := hc
      have e1 : ks = [] := e1
      have e2 : t = false := e2
      have e3 : xs = [] := e3
      subst e1 e2 e3
      rcases key_rel r ry hk with ⟨k, rfl, rfl⟩ | ⟨k, b, rfl, rfl, hb⟩
      · exact absurd ⟨rfl, by decide⟩ hf
      · rcases d with ⟨_, kk, ek, rfl⟩ | ⟨et, _⟩
        · have : kk = [] := List.map_eq_nil_iff.mp ek.symm
          subst this
          exact ⟨.dT [(k, w)], [w], .inr ⟨hD, k, b, rfl, hb, rfl⟩, ⟨rfl, .inr ⟨rfl, [k], rfl, rfl⟩⟩, fun R' F' _ hv => .cons hv .nil⟩
        · cases et
    · cases h
def FinD (T : Tb) (K : PySem.W.Frag) (as : List Addr) (hid : List (Addr × HO)) (F : Hp) (D : Addr) (Q : VK) (a : DSt) (S : Sto) : Prop :=
  ∀ as' F' H o us, as <+: as' → Ex F F' → Rep T K ⟨as', (D, o) :: hid⟩ F' S H → DRep a.1 a.2.1 o us → RelL T K ⟨as', hid⟩ F' a.2.2 us → Q (.ref D) H
theorem dc_ok {t : TgZ} {c : DB} {ek ev : DE} {vs : List Nat} (hvs : ∀ i ∈ t.slots, i ∈ vs) {σ : L2.St} {H1 : Hp} {Q : VK} {R1 : Pl} {F1 : Hp} {l : Loc} {S1 : Sto} {J : It} {it : ItZ} {D : Addr} (r1 : Rep T K R1 F1 S1 H1) (e1 : RelE T K R1 F1 l σ) (wz : WalkZ T K J R1 F1 it) (hh : heldB it.held S1 = true)
    {a9 : DSt} {S9 : Sto} (hl : dcZ t it.held c ek ev (wipeZ l vs) it.items (false, [], []) S1 = .ok a9 S9) (hq : FinD T K R1.as R1.hid F1 D Q a9 S9) (hD : H1 D = none) :
    ∃ W : Nat → Nat → Hp → Prop, (∃ m, W 0 m (upd H1 D (.dK []))) ∧ ∀ i m L, W i m L →
      (J.stop i L ∧ Q (.ref D) L) ∨ (J.go i L ∧ ∃ Nx : Hp → Prop, (∀ L', Nx L' → ∃ m', m' < m ∧ W (i + 1) m' L') ∧ ∀ x L', J.yld i L x L' → gOf K t x (wipe σ vs) L' fun τ M => wipe τ vs = wipe σ vs ∧ tT T K E00 c τ M fun b N =>
        if b = true then tV T K E00 ek τ N fun y N1 => tV T K E00 ev τ N1 fun z N2 => ∃ N3, DPutZ N2 D y z N3 ∧ Nx N3 else Nx N) := by
  let Inn : Nat → Hp → Prop := fun i L => ∃ as2 F2 S2 a o us, R1.as <+: as2 ∧ Ex F1 F2 ∧ Rep T K ⟨as2, (D, o) :: R1.hid⟩ F2 S2 L ∧ DRep a.1 a.2.1 o us ∧ RelL T K ⟨as2, R1.hid⟩ F2 a.2.2 us ∧ heldB it.held S2 = true ∧ dcZ t it.held c ek ev (wipeZ l vs) (it.items.drop i) a S2 = .ok a9 S9
  refine ⟨fun i m L => m = it.items.length - i ∧ i ≤ it.items.length ∧ Inn i L, ⟨_, rfl, Nat.zero_le _, R1.as, F1, S1, (false, [], []), _, [], List.prefix_refl _, Ex.refl F1, r1.hide hD, ⟨rfl, .inl ⟨rfl, [], rfl, rfl⟩⟩, .nil, hh, hl⟩, ?_⟩
  rintro i m L ⟨rfl, hi, as2, F2, S2, a, o, us, p2, ex2, r2, dr, ra, hh2, hr⟩
  by_cases hlt : i < it.items.length
  · refine .inr ⟨wz.goes i _ F2 L S2 hlt p2 ex2 r2 hh2, fun L3 => i + 1 ≤ it.items.length ∧ Inn (i + 1) L3, fun L3 ⟨q1, q2⟩ => ⟨it.items.length - (i + 1), by omega, rfl, q1, q2⟩, fun v L3 y => ?_⟩
    obtain ⟨F3, x, ex3, r3, hx, rv⟩ := wz.yields i _ F2 L L3 S2 v hlt p2 ex2 r2 hh2 y
    have hdr : it.items.drop i = x :: it.items.drop (i + 1) := by
      rw [List.drop_eq_getElem_cons hlt]
      rw [List.getElem?_eq_getElem hlt] at hx
      cases hx; rfl
    rw [hdr, dcZ] at hr
    cases ha : asg t x with
    | none => rw [ha] at hr; cases hr
    | some ps =>
      rw [ha] at hr
      simp only at hr
      have e3 : RelE T K ⟨as2, (D, o) :: R1.hid⟩ F3 (wipeZ l vs) (wipe σ vs) := (e1.wipe vs).mono0 p2 (ex2.trans ex3)
      refine gOf_ok r3 t x v (wipeZ l vs) (wipe σ vs) ps _ e3 rv ha fun qs hqs e4 => ⟨by rw [wipe_setV (fun q hq' => hvs q.1 (hqs q hq')), wipe_idem], ⟨_, F3, setZ (wipeZ l vs) ps, S2, r3, e4, ?_⟩⟩
      cases hc : c (setZ (wipeZ l vs) ps) S2 with
      | bad => rw [hc] at hr; cases hr
      | err z S3 => rw [hc] at hr; cases hr
      | ok b S4 =>
        rw [hc] at hr
        rintro ⟨as5, hid5⟩ F5 H5 ⟨p5a, p5b⟩ ex5 r5
        have p5b : hid5 = (D, o) :: R1.hid := p5b
        have p5a : as2 <+: as5 := p5a
        subst p5b
        cases b with
        | false =>
          simp only at hr
          split at hr
          · rename_i hh5
            exact ⟨hlt, as5, F5, S4, a, o, us, p2.trans p5a, (ex2.trans ex3).trans ex5, r5, dr, ra.sh p5a (ex3.trans ex5), hh5, hr⟩
          · cases hr
        | true =>
          simp only [if_true] at hr ⊢
          refine ⟨_, F5, setZ (wipeZ l vs) ps, S4, r5, e4.mono0 p5a ex5, ?_⟩
          cases hek : ek (setZ (wipeZ l vs) ps) S4 with
          | bad => rw [hek] at hr; cases hr
          | err z S3 => rw [hek] at hr; cases hr
          | ok yk S6 =>
            rw [hek] at hr
            simp only at hr
            rintro ⟨as7, hid7⟩ F7 H7 u7 ⟨p7a, p7b⟩ ex7 r7 rw7
            have p7b : hid7 = (D, o) :: R1.hid := p7b
            have p7a : as5 <+: as7 := p7a
            subst p7b
            refine ⟨_, F7, setZ (wipeZ l vs) ps, S6, r7, (e4.mono0 p5a ex5).mono0 p7a ex7, ?_⟩
            cases hev : ev (setZ (wipeZ l vs) ps) S6 with
            | bad => rw [hev] at hr; cases hr
            | err z S3 => rw [hev] at hr; cases hr
            | ok yv S8 =>
              rw [hev] at hr
              simp only at hr
              rintro ⟨as8, hid8⟩ F8 H8 u8 ⟨p8a, p8b⟩ ex8 r8 rw8
              have p8b : hid8 = (D, o) :: R1.hid := p8b
              have p8a : as7 <+: as8 := p8a
              subst p8b
              split at hr
              · rename_i hh8
                split at hr
                · rename_i a' ha'
                  rw [Option.bind_eq_some_iff] at ha'
                  obtain ⟨q, hkq, hst⟩ := ha'
                  have d8 := (r8.hid (D, o) List.mem_cons_self).1
                  obtain ⟨o', us', g1, g2, g3⟩ := dStep_rel (w := u8) r8 d8 dr (rw7.mono0 (R' := ⟨as8, (D, o) :: R1.hid⟩) p8a ex8) hkq hst
                  refine ⟨upd H8 D o', g1, hlt, as8, F8, S8, a', o', us', ((p2.trans p5a).trans p7a).trans p8a, (((ex2.trans ex3).trans ex5).trans ex7).trans ex8, r8.rehide g2.nt, g2, ?_, hh8, hr⟩
                  exact g3 _ _ (ra.sh ((p5a.trans p7a).trans p8a) (((ex3.trans ex5).trans ex7).trans ex8)) (rw8.sh (List.prefix_refl _) (Ex.refl F8))
                · cases hr
              · cases hr
  · have e' : i = it.items.length := by omega
    subst e'
    rw [List.drop_length, dcZ] at hr
    cases hr
    exact .inl ⟨wz.stops _ F2 L S9 p2 ex2 r2 hh2, hq as2 F2 L o us p2 ex2 r2 dr ra⟩
end
theorem dcZ_noerr {t : TgZ} {hs : List (PV × Kd × List PV)} {c : DB} {ek ev : DE} {l : Loc} : ∀ (ys : List PV) (a : DSt) (S : Sto) (z : XV) (S' : Sto), dcZ t hs c ek ev l ys a S ≠ .err z S'
  | [], a, S, z, S', q => by cases q
  | y :: ys, a, S, z, S', q => by
    rw [dcZ] at q
    split at q
    · cases q
    · split at q
      · split at q
        · split at q
          · split at q
            · split at q
              · exact dcZ_noerr ys _ _ _ _ q
              · cases q
            · cases q
          · cases q
        · cases q
      · split at q
        · exact dcZ_noerr ys _ _ _ _ q
        · cases q
      · cases q
theorem DRep.shp {T : Tb} {K : PySem.W.Frag} {H : Hp} {D : Addr} {t : Bool} {ks : List PK} {o : HO} {us : List V} (d : DRep t ks o us) (h : H D = some o) : Liv T K H D (.dct t ks) us := by
  obtain ⟨hl, ⟨rfl, kk, e, rfl⟩ | ⟨rfl, kk, e, rfl⟩⟩ := d
  · exact ⟨hl, kk, e, h⟩
  · exact ⟨hl, kk, e, h⟩
section
variable {T : Tb} {X : Cx} {E : XS} {pos : Pos} {kx vx tg iter : Expr} {ifs : List Expr} {scope : Scope} {own : List (Str × Nat)} {di : DI} {t : TgZ} {c : DB} {ek ev : DE}
theorem dc_t {vs : List Nat} (hvs : ∀ i ∈ t.slots, i ∈ vs) {k : DSt → Sto → Out PV} {σ : L2.St} {H : Hp} {Q : VK} (h : tV T X.K E (fun l S => (dDc0 vs di t c ek ev l S).bind k) σ H Q)
    (hk : ∀ (a : DSt) (S : Sto) (R : Pl) (F : Hp) (D : Addr), OkV T X.K R F (k a S) Q (E σ) → FinD T X.K R.as R.hid F D Q a S) : tDz (tI T X.K E di) (gOf X.K t) (tT T X.K E00 c) (tV T X.K E00 ek) (tV T X.K E00 ev) vs σ H Q := by
  obtain ⟨R, F, l, S, r, e, h⟩ := h
  refine ⟨R, F, l, S, r, e, ?_⟩
  have h : OkV T X.K R F (((di l S).bind fun it S1 => if heldB it.held S1 = true then dcZ t it.held c ek ev (wipeZ l vs) it.items (false, [], []) S1 else .bad).bind k) Q (E σ) := h
  cases hd : di l S with
  | bad => rw [hd] at h; exact h.elim
  | err x S1 => rw [hd] at h; exact h
  | ok it S1 =>
    rw [hd] at h
    intro R1 F1 H1 J p ex r1 wz D hD
    have h : OkV T X.K R F ((if heldB it.held S1 = true then dcZ t it.held c ek ev (wipeZ l vs) it.items (false, [], []) S1 else .bad).bind k) Q (E σ) := h
    split at h
    · rename_i hh
      cases hl : dcZ t it.held c ek ev (wipeZ l vs) it.items (false, [], []) S1 with
      | ok a S9 =>
        rw [hl] at h
        exact dc_ok hvs r1 (e.mono p ex) wz hh hl (hk a S9 R1 F1 D (OkV.mono p ex h)) hD
      | err z S9 => exact absurd hl (dcZ_noerr _ _ _ _ _)
      | bad => rw [hl] at h; exact h.elim
    · exact h.elim
theorem find_nd {E : XK} {K : PySem.W.Frag} {a : DSt} {S : Sto} {R : Pl} {F : Hp} {D : Addr} {Q : VK} (h : OkV T K R F (.ok (.nd (.dct a.1 a.2.1) a.2.2) S) Q E) : FinD T K R.as R.hid F D Q a S := by
  intro as' F' H o us p ex r d rx
  obtain ⟨e1, r1⟩ := r.bare
  refine h ⟨as', R.hid⟩ _ H _ ⟨p, rfl⟩ (ex.trans e1) r1 ?_
  rw [Rel]
  exact ⟨D, us, rfl, (d.shp upd_same).shp, rx.sh (List.prefix_refl _) e1⟩
/-- the block's derivations -/
structure BlkD (T : Tb) (X : Cx) (scope : Scope) (tg : Expr) (ifs : List Expr) (kx vx : Expr) (t : TgZ) (c : DB) (ek ev : DE) : Prop where
  tg : ∀ (s : Shared) (H : Hp) (C : Addr) (cl : List (Str × Addr)) (fp : List Addr), JG (X.blk s H scope (compEnvC scope cl C X.env) fp) tg t
  ts : ∀ (s : Shared) (H : Hp) (C : Addr) (cl : List (Str × Addr)) (fp : List Addr), JTs T (X.blk s H scope (compEnvC scope cl C X.env) fp) E00 ifs c
  ek : ∀ (s : Shared) (H : Hp) (C : Addr) (cl : List (Str × Addr)) (fp : List Addr), JE T (X.blk s H scope (compEnvC scope cl C X.env) fp) E00 kx ek
  ev : ∀ (s : Shared) (H : Hp) (C : Addr) (cl : List (Str × Addr)) (fp : List Addr), JE T (X.blk s H scope (compEnvC scope cl C X.env) fp) E00 vx ev
theorem Cg.blkU {k : Nat} (g : Cg X E k) : ∀ (s : Shared) (H : Hp) (env : Env) (fp : List Addr), (X.blk s H scope env fp).A.units < cLine := fun s H env fp => (g.blk (s := s) (H := H) (scope := scope) (env := env) (fp := fp)).room.units0
theorem je_dc {k : Nat} (own : List (Str × Nat)) (g : Cg X E k) (hi : JI T X E tg iter di) (hb : BlkD T X scope tg ifs kx vx t c ek ev) (ok : BlkOk X.N X.env.scope scope own) (hvs : ∀ i ∈ t.slots, i ∈ own.map (·.2) := by decide)
    (hs : ∀ x, foldedSetIterable iter X.env x = pure x := by intro _; rfl) : JE T X E (.DictComp kx vx [⟨tg, iter, ifs, 0⟩] scope pos) (dDc (own.map (·.2)) di t c ek ev) :=
  pe_imp (pe_dz g.calm g.nd g.blkU hi ok hb.tg hb.ts hb.ek hb.ev hs) fun σ H Q h => dc_t hvs h fun xs S R F D h => find_nd h
theorem js_setDc {k : Nat} (i : Nat) (own : List (Str × Nat)) {y : Str} {py spos : Pos} (g : Cg X E k) (hi : JI T X E tg iter di) (hb : BlkD T X scope tg ifs kx vx t c ek ev) (ok : BlkOk X.N X.env.scope scope own) (hy : X.N[i]? = some y := by rfl) (hyl : X.env.scope.names.lookup y = some .local := by rfl)
    (hsw : swapsWith (.DictComp kx vx [⟨tg, iter, ifs, 0⟩] scope pos) (some (.Name y py)) spos.line X.env = pure true := by rfl) (hvs : ∀ i ∈ t.slots, i ∈ own.map (·.2) := by decide)
    (hs : ∀ x, foldedSetIterable iter X.env x = pure x := by intro _; rfl) : JS T X E (.Assign [.Name y py] (.DictComp kx vx [⟨tg, iter, ifs, 0⟩] scope pos) spos) (dSet i (dDc (own.map (·.2)) di t c ek ev)) :=
  ps_imp (ps_setDz g.calm g.nd hy hyl hsw g.blkU hi ok hb.tg hb.ts hb.ek hb.ev hs) fun D σ H h => dc_t hvs (asg_st h) fun xs S R F D h => find_nd h
end
end Z
end
end
section
set_option Elab.async false
set_option linter.all false
set_option maxRecDepth 100000
set_option maxHeartbeats 2000000
/-! ZH: enumerate of what is walked, dicts among arguments, dicts compared. -/
noncomputable section
namespace Z
open PySem PySem.Spec PyProof.Rows L2

/-! ### enumerate(x), x a list, a tuple, a text -/
theorem meets_enu1 {v : Value} {o : Obj} {H : Heap → Prop} (B : Begins v o H) :
    Meets (Builtin.«enumerate.__new__» ⟨[.type "enumerate", v], []⟩) (fun _ R s => H s.heap ∧
      R (.ok (.ret (.ref (s.heap.push o).objs.size))) { s with heap := (s.heap.push o).push { cls := .type "enumerate", data := .fields #[.none, .bool false, .ref s.heap.objs.size, rawInt 0, .none, .none] } }) :=
  .of_wp fun prog w A R s h => by
    obtain ⟨hp, gs, dr, tk, os⟩ := s
    obtain ⟨hH, hR⟩ := h
    have hsub := sub_enumerate
    have start : ∀ {A' : Around} {E : Value → Shared → Prop} {Q : Value → Shared → Prop}, Q (.ref hp.objs.size) ⟨hp.push o, gs, dr, tk, os⟩ → wpAny (model prog w) A' (pyIter v) Q E ⟨hp, gs, dr, tk, os⟩ := fun q => B.iter prog w _ _ ⟨hp, gs, dr, tk, os⟩ _ hH q
    wp_walk using start
    refine wpAny_stack_any fun stk => wpAny_pure ?_
    split
    · rename_i c _ _ _ _ _
      cases (c == Value.type "enumerate") <;> (wp_walk using start; exact ⟨_, rfl, hR⟩)
    · wp_walk using start
      exact ⟨_, rfl, hR⟩
theorem enu_begins {prog : Program} {w : World} {A : Around} {E : Value → Shared → Prop} {s : Shared} {v : Value} {o : Obj} {H : Heap → Prop} {Q : Value → Shared → Prop} (B : Begins v o H) (h1 : H s.heap)
    (h : ∀ h', IsEnum h' (s.heap.objs.size + 1) s.heap.objs.size 0 .none → h'.get? s.heap.objs.size = some o → (∀ b u, s.heap.get? b = some u → h'.get? b = some u) → Q (.ref (s.heap.objs.size + 1)) { s with heap := h' }) : wpAny (model prog w) A (call (.type "enumerate") [v]) Q E s := by
  refine callType_new F.called_enumerate (by decide) (F.typeCall_enumerate_1 _) (F.newCall_enumerate_1 _) (fun obj => F.args_object_init_2 obj _) F.entry_enumerate_new (meets_enu1 B) ⟨h1, ?_⟩
  have hz : (s.heap.push o).objs.size = s.heap.objs.size + 1 := Heap.size_push ..
  show _ ∧ _
  rw [hz]
  have he : IsEnum ((s.heap.push o).push { cls := .type "enumerate", data := .fields #[.none, .bool false, .ref s.heap.objs.size, rawInt 0, .none, .none] }) (s.heap.objs.size + 1) s.heap.objs.size 0 .none := by
    have q := Heap.get?_push_size (s.heap.push o) (o := { cls := .type "enumerate", data := .fields #[.none, .bool false, .ref s.heap.objs.size, rawInt 0, .none, .none] }) rfl
    rw [hz] at q
    exact q
  exact ⟨⟨_, he, rfl⟩, h _ he (Heap.get?_push_of_some _ (Heap.get?_push_size _ B.free)) fun b u x => Heap.get?_push_of_some _ (Heap.get?_push_of_some _ x)⟩
def IteG (K : PySem.W.Frag) (a : Sc) : It :=
  ⟨fun i H => ∃ xs : List V, ScAt K H a xs ∧ i < xs.length,
    fun i H v H' => ∃ T x, v = .ref T ∧ H T = none ∧ H' = upd H T (.tup [.int (i : Nat), x]) ∧ ∀ xs, ScAt K H a xs → xs[i]? = some x,
    fun i H => ∃ xs : List V, ScAt K H a xs ∧ i = xs.length⟩
abbrev EnuTn (n : Nat) (a : Sc) (i : Nat) (h : Heap) : Prop := (∃ old, IsEnum h (n + 1) n (0 + (i : Int)) old) ∧ ScIt h n a i
theorem turn_enuG {P : Program} {w : World} {K : PySem.W.Frag} {elts : List Expr} {kk : Nat} {tpos : Pos} {n : Nat} {a : Sc} (b1 : ScBelow n a) : Turn P w K (.Tuple elts kk tpos) (IteG K a) [n + 1, n] (n + 1) (EnuTn n a) where
  mem := by simp
  obj := fun i h st c hc => by
    obtain ⟨⟨old, he⟩, h1⟩ := st
    have e' : c = n + 1 ∨ c = n := by simpa using hc
    rcases e' with q | q <;> subst q
    · exact ⟨_, he, fun v q => nomatch q⟩
    · exact h1.obj
  keep := fun i h h' st k => by
    obtain ⟨⟨old, he⟩, h1⟩ := st
    exact ⟨⟨old, k _ (by simp) _ he⟩, h1.keep fun o q => k n (by simp) o q⟩
  item := by
    intro X hP hw hK hc i pins s σ H E I hf st hg
    subst hP hw hK
    obtain ⟨⟨old, he⟩, h1⟩ := st
    obtain ⟨xs, q1, l1⟩ := hg
    have hh : X.A.in1.handled = none := I.ok.hd hc
    obtain ⟨fp1, P1, St1, D1⟩ := sc_draws hh I q1 (b1.ne (Nat.le_refl n)) ⟨i, h1⟩
    have hef : n + 1 ∉ fp1 := fun z => by
      rcases D1.fp _ z with q | ⟨a', q | q, z'⟩
      · exact absurd q (Nat.succ_ne_self n)
      · subst q; have hb : a' < n := b1; rw [← z'] at hb; exact absurd hb (Nat.not_lt.mpr (Nat.le_succ n))
      · subst q; have hb : a' < n := b1; rw [← z'] at hb; exact absurd hb (Nat.not_lt.mpr (Nat.le_succ n))
    have G := GoesN.enumFrom (elts := elts) (x1 := kk) (pos := tpos) 0 D1.dr (n + 1) (Nat.succ_ne_self n) hef D1.mem
    refine wpAny_mono (G.goes i s (fun v s2 => ∃ x H', Inv X pins σ H' s2 ∧ RelV x v ∧ (IteG X.K a).yld i H x H' ∧ EnuTn n a (i + 1) s2.heap ∧ ∀ c ∈ [n + 1, n], H' c = none) E l1 ⟨⟨old, he⟩, D1.st i h1⟩ fun v h' tk Y st' hk htk => ?_) (fun r s1 hq => hq) fun e s1 z => z
    obtain ⟨T, t, u, rfl, hT, p1, ht⟩ := Y
    obtain ⟨x, hx, rx⟩ := D1.val i u p1
    obtain ⟨o, ho, hoc, m, hod⟩ := ht
    have ri : RelV (.int ((i : Nat) : Int)) (Value.int (0 + (i : Int)) t) := ⟨t, by rw [Int.zero_add]⟩
    have new : ObjOk X.prog X.w (upd H T (.tup [.int (i : Nat), x])) h' T (.tup [.int (i : Nat), x]) := ⟨by show 2 ≤ sizeLine; rw [sizeLine_eq]; decide, [.int (0 + (i : Int)) t, u], .cons ri (.cons rx .nil), ⟨o, ho, hoc, m, hod⟩⟩
    have I1 : Inv X pins σ (upd H T (.tup [.int (i : Nat), x])) { s with heap := h', toks := tk } :=
      I.turnedNew (ch := [n + 1, n]) (fun c o hb q => hk c o hb q) (fun c hcm => hf c hcm) hT new
    refine ⟨.ref T, _, I1, rfl, ⟨T, x, rfl, I.hok.fresh hT, rfl, fun l hl => by rw [scAt_inj I hl q1]; exact hx⟩, ⟨st'.1, D1.un _ _ st'.2⟩, fun c hcm => ?_⟩
    have hlt : c < s.heap.objs.size := by
      have e' : c = n + 1 ∨ c = n := by simpa using hcm
      rcases e' with q | q <;> subst q
      · exact Heap.lt_size he
      · obtain ⟨_, e1, _⟩ := h1.obj; exact Heap.lt_size e1
    rw [upd_ne (Nat.ne_of_lt (Nat.lt_of_lt_of_le hlt hT))]
    exact (hf c hcm).1
  done := by
    intro X hP hw hK hc i pins s σ H E I hf st hg
    subst hP hw hK
    obtain ⟨⟨old, he⟩, h1⟩ := st
    obtain ⟨xs, q1, rfl⟩ := hg
    have hh : X.A.in1.handled = none := I.ok.hd hc
    obtain ⟨fp1, P1, St1, D1⟩ := sc_draws hh I q1 (b1.ne (Nat.le_refl n)) ⟨_, h1⟩
    have hef : n + 1 ∉ fp1 := fun z => by
      rcases D1.fp _ z with q | ⟨a', q | q, z'⟩
      · exact absurd q (Nat.succ_ne_self n)
      · subst q; have hb : a' < n := b1; rw [← z'] at hb; exact absurd hb (Nat.not_lt.mpr (Nat.le_succ n))
      · subst q; have hb : a' < n := b1; rw [← z'] at hb; exact absurd hb (Nat.not_lt.mpr (Nat.le_succ n))
    have G := GoesN.enumFrom (elts := elts) (x1 := kk) (pos := tpos) 0 D1.dr (n + 1) (Nat.succ_ne_self n) hef D1.mem
    exact wpAny_mono (G.stops s (fun s1 => Inv X pins σ H s1) E ⟨⟨old, he⟩, D1.st _ h1⟩ fun h' tk hk htk =>
      I.turnedL (ch := [n + 1, n]) (fun c o hb q => hk c o hb q) fun c hcm => hf c hcm) (fun r s1 hq => hq) fun e s1 z => z
  self := fun A i s Q E st h => let ⟨⟨_, he⟩, _⟩ := st; wpAny_pyIter_enum he h
def iEnuG (K : PySem.W.Frag) (ta : TA) : TI := fun σ H R => ta σ H fun vs H1 => ∃ a u xs, vs = [u] ∧ ScV a u ∧ ScAt K H1 a xs ∧ R (IteG K a) H1
theorem pi_enuG {X : Cx} {e : Expr} {ta : TA} {p pos tpos : Pos} {elts : List Expr} {kk : Nat} (hm : X.mg "enumerate" = none) (ha : PA X [e] ta) (hg : Gl X "enumerate" := by rfl) (hs : starEach [e] X.env = [(false, eval e X.env)] := by rfl) :
    PI X (.Tuple elts kk tpos) (.Call (.Name "enumerate" p) [e] [] pos) (iEnuG X.K ta) := by
  refine ⟨fun pins s σ H R I h => ?_⟩
  refine Call_ (ld_blt I hg hm boot_enumerate (PyProof.Rows.callWith_type1 (thn (ha.run pos pins s σ H _ I h) fun us s1 ⟨vs, H1, I1, r1, a, u, xs, ex, va, qa, q⟩ => ?_) hs rfl))
  subst ex
  cases r1 with
  | cons r rr =>
    cases rr
    obtain ⟨o1, G1, B1, g1, n1, w1⟩ := sc_begins I1 va r qa
    refine enu_begins B1 g1 fun h' he e1 hk => wpAny_pyIter_enum he ?_
    refine ⟨s1.heap.objs.size + 1, _, _, _, H1, rfl, I1.kept (t' := s1.toks) hk, turn_enuG w1, ⟨⟨.none, he⟩, n1 _ _ e1⟩, fun c hcm => ?_, q⟩
    have hle : s1.heap.objs.size ≤ c := by
      have e' : c = s1.heap.objs.size + 1 ∨ c = s1.heap.objs.size := by simpa using hcm
      rcases e' with z | z <;> rw [z]
      · exact Nat.le_add_right _ _
      · exact Nat.le_refl _
    exact I1.fpOk hle (I1.hok.fresh hle)
/-- the pairs of places and items -/
def enuX (xs : List PV) (S : Sto) : Out ItZ := match xs with
  | [x] => (match itOf x S with
    | .ok it S1 => .ok ⟨encZ it.items 0, it.held⟩ S1
    | _ => .bad)
  | _ => .bad
theorem itOf_held {x : PV} {S S' : Sto} {it : ItZ} (h : itOf x S = .ok it S') : heldB it.held S = true := by
  rcases itOf_ok h with ⟨z, rfl, rfl⟩ | ⟨k, xs, hk, hv, rfl⟩
  · exact heldB_nil S
  · refine heldB_of fun p hp => ?_
    cases x with
    | ref n => rw [List.mem_singleton.mp hp]; exact hv
    | _ => cases hp
theorem itOf_same {x : PV} {S S' : Sto} {it : ItZ} (h : itOf x S = .ok it S') : S' = S := by
  cases x <;> simp only [itOf] at h <;> first | (cases h; rfl) | (split at h <;> first | (cases h; rfl) | cases h)
theorem ji_enuG {T : Tb} {X : Cx} {E : XS} {e : Expr} {elts : List Expr} {kk : Nat} {tpos p pos : Pos} {ar : DA} (hm : X.mg "enumerate" = none) (ha : JA T X E [e] ar) (hg : Gl X "enumerate" := by rfl) (hs : starEach [e] X.env = [(false, eval e X.env)] := by rfl) :
    JI T X E (.Tuple elts kk tpos) (.Call (.Name "enumerate" p) [e] [] pos) (dItA enuX ar) := by
  refine pi_imp (pi_enuG hm ha hg hs) fun σ H Q h => seqI h fun xs S1 R1 F1 H1 us r1 rx h1 => ?_
  unfold enuX at h1
  split at h1
  · rename_i x
    obtain ⟨u, rfl, ru⟩ := rel1 rx
    split at h1
    · rename_i it S2 hi
      have hS2 := itOf_same hi
      subst hS2
      obtain ⟨sc, z⟩ := scz_of r1 ru hi
      obtain ⟨us, q, l⟩ := z.rd R1 F1 H1 S2 (List.prefix_refl _) (Ex.refl F1) r1 (itOf_held hi)
      refine ⟨sc, u, us, rfl, z.val, q, h1 R1 F1 H1 _ (Pl.refl R1) (Ex.refl F1) r1 ⟨fun i R F H S hi p e r hh => ?_, fun R F H S p e r hh => ?_, fun i R F H H' S v hi p e r hh y => ?_⟩⟩
      · obtain ⟨xs, c, m⟩ := z.rd R F H S p e r hh
        have hi : i < (encZ it.items 0).length := hi
        rw [encZ_len, ← m.length] at hi
        exact ⟨xs, c, hi⟩
      · obtain ⟨xs, c, m⟩ := z.rd R F H S p e r hh
        exact ⟨xs, c, by show (encZ it.items 0).length = _; rw [encZ_len, ← m.length]⟩
      · obtain ⟨xs, c, m⟩ := z.rd R F H S p e r hh
        have hi : i < (encZ it.items 0).length := hi
        rw [encZ_len] at hi
        obtain ⟨T', x', ev, hn, eH, e1⟩ := y
        have e1 := e1 xs c
        obtain ⟨w, g1, g2⟩ := m.get (List.getElem?_eq_getElem hi)
        rw [g1] at e1
        cases e1
        obtain ⟨F', e', r', rv⟩ := pair_yield (x := .int (i : Nat)) r ev hn eH (by rw [Rel]) g2
        refine ⟨F', _, e', r', ?_, rv⟩
        show (encZ it.items 0)[i]? = _
        rw [encZ_get, List.getElem?_eq_getElem hi, Nat.zero_add]
        rfl
    · exact h1.elim
  · exact h1.elim

/-! ### *d, list(d): a dict's keys -/
section
variable {X : Cx} {pins : List (Addr × Obj)} {σ : L2.St} {H : Hp} {s : Shared} {a : Addr}
theorem items_k {kvs : List (Key × V)} {vs : List (Key × Value)} {acc : Array Value} (rk : KV kvs vs) (it : ItemsOf (fun i v => ∃ k x, vs[i]? = some (k, x) ∧ (mixKind X.prog X.w).is k v = true) acc vs.length) : Vals (kvs.map fun kv => kV kv.1) acc.toList := by
  have hl : kvs.length = vs.length := Paired.length rk
  have el : acc.toList.length = acc.size := Array.length_toList
  refine vals_of_at (by rw [List.length_map, el, it.1, hl]) fun j x w h1 h2 => ?_
  obtain ⟨k, y, hky, hi⟩ := it.2 j w (by rw [← Array.getElem?_toList]; exact h2)
  have e1 : (kvs.map (·.1))[j]? = some k := by rw [KV.keys rk, List.getElem?_map, hky] <;> rfl
  have e3 : (kvs.map fun kv => kV kv.1) = (kvs.map (·.1)).map kV := by rw [List.map_map] <;> rfl
  rw [e3, List.getElem?_map, e1] at h1
  cases h1
  exact keyIs_rel hi
theorem star_dk {kvs : List (Key × V)} {E : Value → Shared → Prop} {Q : List Value → Shared → Prop} (hc : X.calm = true) (I : Inv X pins σ H s) (h : Rd H a (.dK kvs)) (hQ : ∀ us s', Inv X pins σ H s' → Vals (kvs.map fun kv => kV kv.1) us → Q us s') : PySem.W.StarOf (model X.prog X.w) X.A E (.ref a) Q s := by
  obtain ⟨z, lo, vs, rk, hd⟩ := dk_rd I.hok h
  obtain ⟨ep, hat⟩ := hd.dictAt
  have hl : kvs.length = vs.length := Paired.length rk
  have cl : wpAny (model X.prog X.w) X.A (collect (.ref a)) Q E s :=
    PySem.W.kdu_collect (PySem.W.kdl_dict (knd := mixKind X.prog X.w) (kvs := vs) (ep := ep) lo) (I.ok.hd hc) hat (by rw [← hl]; exact z) fun h' tk acc kp it => hQ _ _ (I.kept (t' := tk) kp) (items_k rk it)
  unfold PySem.W.StarOf notIterableAtAll
  exact wpAny_bind (wpAny_specialOf hd.typeIs PySem.F.slot_dict_iter.lookup (wpAny_pure ⟨rfl, cl⟩))
theorem star_dt {kvs : List (List Key × V)} {E : Value → Shared → Prop} {Q : List Value → Shared → Prop} (hc : X.calm = true) (I : Inv X pins σ H s) (h : Rd H a (.dT kvs)) (hQ : ∀ bs us s', Inv X pins σ H s' → IsKeys H kvs bs → Vals (bs.map V.ref) us → Q us s') : PySem.W.StarOf (model X.prog X.w) X.A E (.ref a) Q s := by
  obtain ⟨z, lo, ks, pr, o, es, ep, ho, hx, hdt, he, hn⟩ := (show ObjOk X.prog X.w H s.heap a (.dT kvs) from h.ok I.hok)
  have l1 : es.size = ks.length := size_of_entries he
  have l2 : kvs.length = ks.length := Paired.length pr
  have cl : wpAny (model X.prog X.w) X.A (collect (.ref a)) Q E s := by
    refine PySem.W.kdu_collect (kdl_raw lo hx hdt) (I.ok.hd hc) ho (by omega) fun h' tk acc kp it => hQ (ks.map fun x => x.2.1) _ _ (I.kept (t' := tk) kp) (isKeys_of pr) ?_
    have el : acc.toList.length = acc.size := Array.length_toList
    have ea : acc.toList = (ks.map fun x => x.2.1).map Value.ref := by
      apply List.ext_getElem?
      intro j
      rw [List.getElem?_map, List.getElem?_map]
      have qe := entry_at he j
      cases hb : ks[j]? with
      | none =>
        have : ks.length ≤ j := List.getElem?_eq_none_iff.mp hb
        rw [List.getElem?_eq_none (by rw [el, it.1]; omega)]
        rfl
      | some b =>
        rw [hb] at qe
        have hj : j < acc.toList.length := by
          have := (List.getElem?_eq_some_iff.mp hb).1
          rw [el, it.1]; omega
        obtain ⟨en, hen, hv⟩ := it.2 j acc.toList[j] (by rw [← Array.getElem?_toList, List.getElem?_eq_getElem hj])
        rw [hen] at qe
        cases qe
        rw [List.getElem?_eq_getElem hj, hv]
        rfl
    rw [ea]
    exact vals_refs _
  unfold PySem.W.StarOf notIterableAtAll
  exact wpAny_bind (wpAny_specialOf ⟨o, ho, hx.1⟩ PySem.F.slot_dict_iter.lookup (wpAny_pure ⟨rfl, cl⟩))
end
/-- the keys as values -/
theorem Rep.keys {T : Tb} {K : PySem.W.Frag} {R : Pl} {H : Hp} {S : Sto} : ∀ {kk : List (List Key)} {us : List V} {bs : List Addr} {F : Hp}, Rep T K R F S H → us.length = kk.length → IsKeys H (kk.zip us) bs → ∃ F', Ex F F' ∧ Rep T K R F' S H ∧ RelL T K R F' (kk.map fun k => .nd .tup (k.map keyP)) (bs.map V.ref)
  | [], us, bs, F, r, hl, h => by
    cases us with
    | nil => cases h; exact ⟨F, Ex.refl F, r, .nil⟩
    | cons u us => cases hl
  | k :: kk, [], bs, F, r, hl, h => by cases hl
  | k :: kk, u :: us, bs, F, r, hl, h => by
    cases h with
    | cons h1 h2 =>
      obtain ⟨F1, e1, q1, r1⟩ := r.tup r.hidt h1
      obtain ⟨F2, e2, r2, l2⟩ := Rep.keys (F := F1) r1 (by simpa using hl) h2
      refine ⟨F2, e1.trans e2, r2, .cons ?_ l2⟩
      rw [Rel]
      exact ⟨_, _, rfl, e2.at_ q1, keyPs_rel k⟩
/-- what is behind a star -/
def starOf (x : PV) (S : Sto) : Option (List PV) := match view x S with
  | some (.dct _ ks, _) => some (ks.map pkV)
  | _ => itemsOf x S
def dStarD (a : DE) (r : DA) : DA := fun l S => (a l S).bind fun x S1 => match starOf x S1 with
  | some xs => (r l S1).bind fun ys S2 => .ok (xs ++ ys) S2
  | none => .bad
theorem pkV_k (kk : List Key) : (kk.map PK.k).map pkV = kk.map keyP := by rw [List.map_map]; rfl
theorem pkV_t (kk : List (List Key)) : (kk.map PK.t).map pkV = kk.map fun k => .nd .tup (k.map keyP) := by rw [List.map_map]; rfl
theorem zip_keys {κ : Type} : ∀ {kk : List κ} {us : List V}, us.length = kk.length → (kk.zip us).map (·.1) = kk
  | [], us, _ => by cases us <;> rfl
  | k :: kk, [], h => by cases h
  | k :: kk, u :: us, h => by rw [List.zip_cons_cons, List.map_cons, zip_keys (by simpa using h)]
section
variable {T : Tb} {X : Cx} {E : XS} {e : Expr} {es : List Expr} {de : DE} {ar : DA} {p : Pos}
theorem pa_starD {te : TE} {t : TA} (hc : X.calm = true) (he : L2.PE X e te) (hr : PA X es t) (hs : starEach (.Starred e p :: es) X.env = (true, eval e X.env) :: starEach es X.env := by rfl) :
    PA X (.Starred e p :: es) (fun σ H Q => te σ H fun x H1 => ∃ a, x = V.ref a ∧ ((∃ kvs : List (Key × V), Rd H1 a (.dK kvs) ∧ t σ H1 fun ys H2 => Q ((kvs.map fun kv => kV kv.1) ++ ys) H2) ∨ (∃ kvs : List (List Key × V), Rd H1 a (.dT kvs) ∧ ∀ bs, IsKeys H1 kvs bs → t σ H1 fun ys H2 => Q (bs.map V.ref ++ ys) H2) ∨
      ∃ xs, (SqT X.K H1 a xs ∨ SqL X.K H1 a xs) ∧ t σ H1 fun ys H2 => Q (xs ++ ys) H2)) := by
  refine ⟨fun pos pins s σ H Q I h => ?_⟩
  refine PySem.W.items_star (thn (he.run pins s σ H _ I h) fun v s1 ⟨y, H1, I1, ry, a, ey, hx⟩ => ?_) hs
  subst ey
  cases ry
  rcases hx with ⟨kvs, hd, q⟩ | ⟨kvs, hd, q⟩ | ⟨xs, hx, q⟩
  · refine star_dk hc I1 hd fun us s2 I2 rv => ?_
    exact thn (hr.run pos pins s2 σ H1 _ I2 q) fun ws s3 ⟨vs, H3, I3, r3, q3⟩ => ⟨_, H3, I3, rv.append r3, q3⟩
  · refine star_dt hc I1 hd fun bs us s2 I2 ik rv => ?_
    exact thn (hr.run pos pins s2 σ H1 _ I2 (q bs ik)) fun ws s3 ⟨vs, H3, I3, r3, q3⟩ => ⟨_, H3, I3, rv.append r3, q3⟩
  · refine StX.star_any I1 hx fun us s2 I2 rv => ?_
    exact thn (hr.run pos pins s2 σ H1 _ I2 q) fun ws s3 ⟨vs, H3, I3, r3, q3⟩ => ⟨_, H3, I3, rv.append r3, q3⟩
theorem ja_starD (hc : X.calm = true) (ha : JE T X E e de) (hr : JA T X E es ar) (hs : starEach (.Starred e p :: es) X.env = (true, eval e X.env) :: starEach es X.env := by rfl) : JA T X E (.Starred e p :: es) (dStarD de ar) := by
  refine pa_imp (pa_starD hc ha hr hs) fun σ H Q ⟨R, F, l, S, r, e', h⟩ => ?_
  refine seqV (goL T X.K (E σ) Q) r e' h fun x S1 R1 F1 H1 u p ex r1 rx e1 h1 => ?_
  have h1 : OkL T X.K R1 F1 (match starOf x S1 with
    | some xs => (ar l S1).bind fun ys S2 => .ok (xs ++ ys) S2
    | none => .bad) Q (E σ) := h1
  have fin : ∀ (xs : List PV) (us : List V) (F2 : Hp), Ex F1 F2 → Rep T X.K R1 F2 S1 H1 → RelL T X.K R1 F2 xs us → OkL T X.K R1 F1 ((ar l S1).bind fun ys S2 => .ok (xs ++ ys) S2) Q (E σ) → tL T X.K E ar σ H1 fun ys H2 => Q (us ++ ys) H2 := fun xs us F2 ex2 r2 hl h =>
    seqL (goL T X.K (E σ) Q) r2 (e1.mono (Pl.refl R1) ex2) (OkL.mono (Pl.refl R1) ex2 h) fun ys S2 R3 F3 H2 ws p3 ex3 r3 rys e3 h3 => PostL.here r3 ((hl.mono p3 ex3).append rys) h3
  unfold starOf at h1
  split at h1
  · rename_i xs hx
    split at hx
    · rename_i t ks ys hv
      cases hx
      obtain ⟨a, us, rfl, hs', hl⟩ := view_rel r1 rx hv
      refine ⟨a, rfl, ?_⟩
      cases t with
      | false =>
        obtain ⟨h0, kk, rfl, hk⟩ := hs'
        have h0' : us.length = kk.length := by rw [h0, List.length_map]
        refine .inl ⟨_, hk, fin _ _ F1 (Ex.refl F1) r1 ?_ h1⟩
        rw [pkV_k, show ((kk.zip us).map fun kv => kV kv.1) = ((kk.zip us).map (·.1)).map kV by rw [List.map_map]; rfl, zip_keys h0']
        exact keyPs_rel kk
      | true =>
        obtain ⟨h0, kk, rfl, hk⟩ := hs'
        have h0' : us.length = kk.length := by rw [h0, List.length_map]
        refine .inr (.inl ⟨_, hk, fun bs ik => ?_⟩)
        obtain ⟨F2, ex2, r2, l2⟩ := Rep.keys r1 h0' ik
        exact fin _ _ F2 ex2 r2 (by rw [pkV_t]; exact l2) h1
    · obtain ⟨a, us, rfl, hs', hl⟩ := itemsOf_rel r1 rx hx
      exact ⟨a, rfl, .inr (.inr ⟨us, hs', fin _ _ F1 (Ex.refl F1) r1 hl h1⟩)⟩
  · exact h1.elim
end

/-! ### list(d), list(x) -/
def listD (xs : List PV) (S : Sto) : Out PV := match xs with
  | [x] => (match view x S with
    | some (.dct _ ks, _) => .ok (.nd .lst (ks.map pkV)) S
    | _ => listP [x] S)
  | _ => .bad
def rListK : List V → Hp → VK → Prop := fun xs H Q => ∃ p kvs, xs = [.ref p] ∧ Rd H p (.dK kvs) ∧ ∀ q, H q = none → Q (.ref q) (upd H q (.lst (kvs.map fun kv => kV kv.1)))
def rListT : List V → Hp → VK → Prop := fun xs H Q => ∃ d kvs, xs = [V.ref d] ∧ Rd H d (.dT kvs) ∧ ∀ p bs, H p = none → IsKeys H kvs bs → Q (.ref p) (upd H p (.lst (bs.map V.ref)))
theorem call_listK {X : Cx} (hc : X.calm = true) : CallR X (.type "list") rListK := by
  rintro pins s σ H xs us Q I r ⟨p, kvs, rfl, hk, q⟩
  cases r with
  | cons rx rr =>
    cases rr
    cases rx
    obtain ⟨z, lo, vs, rk, hd⟩ := dk_rd I.hok hk
    obtain ⟨ep, hat⟩ := hd.dictAt
    have hl : kvs.length = vs.length := Paired.length rk
    refine PySem.W.kdl_call (PySem.W.kdl_dict (knd := mixKind X.prog X.w) (kvs := vs) (ep := ep) lo) (I.ok.hd hc) hat (by rw [← hl]; exact z) fun h' tk acc c' kp e it => ?_
    refine ⟨.ref s.heap.objs.size, upd H s.heap.objs.size (.lst (kvs.map fun kv => kV kv.1)), I.laid kp (Nat.le_refl _) (show ObjOk X.prog X.w _ _ _ (.lst (kvs.map fun kv => kV kv.1)) from ⟨by rw [List.length_map]; exact z, acc.toList, c', items_k rk it, by rw [Array.toArray_toList]; exact e⟩), rfl, q _ (I.hok.fresh (Nat.le_refl _))⟩
theorem cr_listD {X : Cx} (hc : X.calm = true) : CallR X (.type "list") (fun xs H Q => rListK xs H Q ∨ rListT xs H Q ∨ rListZ X.K xs H Q) := CallR.or (call_listK hc) (CallR.or (call_list_dT hc) call_list_of)
theorem cz_listD {T : Tb} {K : PySem.W.Frag} : CalZ T K listD (fun xs H Q => rListK xs H Q ∨ rListT xs H Q ∨ rListZ K xs H Q) := by
  intro E R F H S xs us Q r rx h
  unfold listD at h
  split at h
  · rename_i x
    obtain ⟨u, rfl, ru⟩ := rel1 rx
    split at h
    · rename_i t ks ys hv
      obtain ⟨a, us, rfl, hs', hl⟩ := view_rel r ru hv
      cases t with
      | false =>
        obtain ⟨h0, kk, rfl, hk⟩ := hs'
        have h0' : us.length = kk.length := by rw [h0, List.length_map]
        refine .inl ⟨a, _, rfl, hk, fun q hq => PostV.new (k := .lst) r hq upd_same ?_ h⟩
        rw [pkV_k, show ((kk.zip us).map fun kv => kV kv.1) = ((kk.zip us).map (·.1)).map kV by rw [List.map_map]; rfl, zip_keys h0']
        exact keyPs_rel kk
      | true =>
        obtain ⟨h0, kk, rfl, hk⟩ := hs'
        have h0' : us.length = kk.length := by rw [h0, List.length_map]
        refine .inr (.inl ⟨a, _, rfl, hk, fun q bs hq ik => ?_⟩)
        obtain ⟨F2, ex2, r2, l2⟩ := Rep.keys r h0' ik
        exact PostV.new (k := .lst) r2 hq upd_same (by rw [pkV_t]; exact l2) (PostV.mono (Pl.refl R) ex2 h)
    · exact .inr (.inr (cz_list E R F H S [x] [u] Q r rx h))
  · exact h.elim
end Z
end
end
section
set_option Elab.async false
set_option linter.all false
set_option maxRecDepth 100000
set_option maxHeartbeats 1000000
/-! ZT: tables of code: seen at the head, told at the law's end. -/
noncomputable section
namespace Z
open PySem PySem.Spec PyProof.Rows L2

/-! ### the tables at the head -/
theorem TabsGood.at_ {tb : List (Str × Str)} {K : PySem.W.Frag} {h : Heap} (t : TabsGood tb K h) {p : Addr × Str} (hp : p ∈ tabsOf tb K) : ∃ x ∈ tb, ∃ c, x.2 = p.2 ∧ PySem.W.tabIn K x.1 = some (c, p.1) ∧ PySem.W.codeHdIn K c p.1 = true ∧ K.lookup p.1 = none ∧ h.get? p.1 = some tabO := by
  unfold tabsOf at hp
  obtain ⟨x, hx, e⟩ := List.mem_filterMap.mp hp
  obtain ⟨c, P, h1, h2, h3, h4⟩ := t.each x hx
  rw [h1] at e
  cases e
  exact ⟨x, hx, c, rfl, h1, h2, h3, h4⟩
/-- what is lasting about the tables -/
def BaseT (L : List (Addr × Str)) (mg : Str → Option Value) (base : Heap) : Prop := ∀ p ∈ L, base.BuiltinsAt mg p.1 ∧ mainGlobals ≠ p.1

/-! ### the law's end -/
theorem law_gT {T : Tb} {P : Program} {w : World} {K : PySem.W.Frag} {mg mb : Str → Option Value} {k : Nat} {fa a : Addr} {fd : FuncData} {x : Str} {d : DF} {s₁ : Shared} {vs : List Value} {ns : List Int}
    (inK : K.In s₁.heap) (gl : s₁.heap.Ns mainGlobals mg) (bl : s₁.heap.Ns builtinsNs mb) (bb : ∀ x : Str, x ≠ "__name__" → mb x = bootBuiltins x) (nl : s₁.heap.NoLimit) (ng : s₁.gens = #[])
    (hbm : ∃ (bm : Addr) (ob : Obj), mg "__builtins__" = some (.ref bm) ∧ bm ≠ builtinsNs ∧ s₁.heap.get? bm = some ob ∧ ob.cls = .type "module" ∧ ob.dict = some builtinsNs ∧ ob.data = .plain)
    (tb : ∀ p ∈ T.tabs K, s₁.heap.get? p.1 = some tabO ∧ K.lookup p.1 = none ∧ ∃ c, PySem.W.CodeHd s₁.heap c p.1)
    (sc : s₁.heap.get? a = some { cls := .type "list", data := .seq vs.toArray }) (hints : IntsAre vs ns) (few : ns.length ≤ sizeLine) (rm : Room k callerA)
    (G : ∀ base : Heap, K.In base → base.Ns mainGlobals mg → BaseT (T.tabs K) mg base → FnG T P w K mg base k fa fd [x] d) (bi : ∀ (s : Shared) (u : Value), BindsTo s fd ⟨[u], []⟩ [(x, u)])
    (good : ∃ S, d [.nd .scr (ns.map .int)] [] = .ok (.bl true) S) :
    codeAny (model P w) callerA (.call (.ref fa) ⟨[.ref a], []⟩) (fun r s' => r = .ok (.ret (.bool true)) ∧ OldK s₁.heap s'.heap ∧ s'.os = s₁.os ∧ AllBare s'.gens) s₁ := by
  classical
  have rv := vals_ints hints
  have zl : vs.length = ns.length := hints.length.symm ▸ rfl
  let ts : List Addr := (T.tabs K).map (·.1)
  have tat : ∀ b ∈ ts, s₁.heap.get? b = some tabO := fun b hb => by
    obtain ⟨p, hp, rfl⟩ := List.mem_map.mp hb
    exact (tb p hp).1
  have aT : a ∉ ts := fun z => by
    have q := tat a z
    rw [sc] at q
    have z' : Data.seq vs.toArray _ = Data.fields #[] := congrArg Obj.data (Option.some.inj q)
    cases z'
  let Ht : Hp := fun b => if b ∈ ts then some (.tbl #[]) else none
  -- what is known of the heap: the tables, and at most the script
  have run : ∀ H F : Hp, (∀ b ∈ ts, H b = some (.tbl #[])) → (∀ b, b ∉ ts → F b = H b) → (∀ b ∈ ts, F b = none) → (∀ b, b ∉ ts → H b = none ∨ ∃ o xs, H b = some (.frz o (.lst xs))) → SqL K F a (ns.map V.int) → HOk P w H s₁.heap → (∀ b, b ∉ ts → H b ≠ none → b = a ∧ K.lookup a = none) →
      codeAny (model P w) callerA (.call (.ref fa) ⟨[.ref a], []⟩) (fun r s' => r = .ok (.ret (.bool true)) ∧ OldK s₁.heap s'.heap ∧ s'.os = s₁.os ∧ AllBare s'.gens) s₁ := by
    intro H F hT hF hF0 only sq hok told
    have keepB : ∀ {b : Addr} {o : Obj}, s₁.heap.get? b = some o → (∀ vs n, o.data ≠ .seq vs n) → o ≠ tabO → H b = none := fun {b o} e h1 h2 => by
      by_cases z : b ∈ ts
      · have q := tat b z
        rw [e] at q
        exact absurd (Option.some.inj q) h2
      · by_cases y : H b = none
        · exact y
        · have eb := (told b z y).1
          rw [eb, sc] at e
          cases e
          exact absurd rfl (h1 _ _)
    have ns_in : ∀ {b : Addr} {m : Str → Option Value}, s₁.heap.Ns b m → (hidT s₁.heap H).Ns b m := fun ⟨o, es, ep, e, q, r⟩ => ⟨o, es, ep, hidT_get e (keepB e (fun vs n z => by rw [q] at z; cases z) fun z => by rw [z] at q; cases q), q, r⟩
    have inB : K.In (hidT s₁.heap H) := fun b o e => hidT_get (inK b o e) (by
      by_cases y : b ∈ ts
      · obtain ⟨p, hp, rfl⟩ := List.mem_map.mp y
        rw [(tb p hp).2.1] at e; cases e
      · by_cases z : H b = none
        · exact z
        · obtain ⟨eb, hk⟩ := told b y z
          rw [eb, hk] at e
          cases e)
    have md : Mod K mg (hidT s₁.heap H) := ⟨inB, ns_in gl, ⟨mb, ns_in bl, bb⟩, let ⟨mc, h1, h2⟩ := nl; ⟨mc, ns_in h1, h2⟩⟩
    have noF : ∀ b : Addr, b ∉ frs ([] : List Env) := fun b z => absurd (show b ∈ ([] : List Addr) from z) (by simp)
    have e0 : Env0 P w K mg (hidT s₁.heap H) callerA [] s₁ H := ⟨rfl, md, fun b o e => of_hidT e, Nat.le_of_eq (hidT_size _ _), trivial, fun b hb => absurd hb (noF b), hok, .of_eq ng⟩
    have bt : BaseT (T.tabs K) mg (hidT s₁.heap H) := fun p hp => by
      obtain ⟨bm, ob, b1, b2, b3, b4, b5, b6⟩ := hbm
      have hTp := (tb p hp).1
      refine ⟨⟨bm, ob, b1, b2, fun q => ?_, fun q => ?_, hidT_get b3 (keepB b3 (fun vs n z => by rw [b6] at z; cases z) fun z => by rw [z] at b6; cases b6), b4, b5, b6⟩, fun z => ?_⟩
      · obtain ⟨o, es, ep, e, hd, _⟩ := gl
        rw [q, e] at b3
        cases b3
        rw [hd] at b6
        cases b6
      · rw [q, hTp] at b3
        cases b3
        cases b6
      · obtain ⟨o, es, ep, e, hd, _⟩ := gl
        rw [z, hTp] at e
        cases e
        cases hd
    have sp : spOf T K 1 d [.ref a] H (fun v _ => v = .bl true) (fun _ _ _ => False) := by
      obtain ⟨S, hS⟩ := good
      have exF : Ex F H := fun b o e => by
        by_cases z : b ∈ ts
        · rw [hF0 b z] at e; cases e
        · rw [hF b z] at e; exact .inl e
      refine ⟨rfl, (⟨[], []⟩ : Pl), F, [], [.nd .scr (ns.map .int)], { ex := exF, len := rfl, nd := List.nodup_nil, there := fun a ha => (nomatch ha), hid := fun p hp => (nomatch hp), hidt := fun p hp => (nomatch hp), hidnd := List.nodup_nil, ntb := fun b ps e => ?_, tabs := fun p hp => ?_, live := fun n a k xs h1 h2 => by simp at h1 : Rep T K ⟨[], []⟩ F [] H }, ?_, ?_⟩
      · by_cases z : b ∈ ts
        · rw [hF0 b z] at e; cases e
        · rw [hF b z] at e
          rcases only b z with q | ⟨o, xs, q⟩
          · rw [q] at e; cases e
          · rw [q] at e; cases e
      · exact LamX.TabS.nil (hT p.1 (List.mem_map.mpr ⟨p, hp, rfl⟩))
      · refine .cons ?_ .nil
        rw [Rel]
        refine ⟨a, ns.map V.int, rfl, sq, ?_⟩
        clear sc hints few rv zl hS sq
        induction ns with
        | nil => exact .nil
        | cons n ns ih => exact .cons (by rw [Rel]) ih
      · rw [hS]
        intro R' F' H' u p ex r ru
        rw [Rel] at ru
        exact ru
    refine codeAny_mono ((G _ inB (ns_in gl) bt).run callerA [] s₁ H ⟨[.ref a], []⟩ [.ref a] [.ref a] _ _ rm rfl e0 (bi s₁ (.ref a)) (.cons rfl .nil) sp) fun z s' hz => ?_
    cases z with
    | error e => exact absurd hz (by
        intro q
        obtain ⟨_, _, _, _, _, _, _, _, _, _, _, _, f⟩ := q
        exact f)
    | ok fl =>
      cases fl with
      | ret u =>
        obtain ⟨v, H', os, bare, un, hok', rel, q⟩ := hz
        have q : v = .bl true := q
        subst q
        have eu : u = Value.bool true := rel
        subst eu
        have grown : ∀ p ∈ T.tabs K, ∃ more : Array Value, s'.heap.get? p.1 = some { cls := .none, data := .fields more } := fun p hp => by
          obtain ⟨more, z⟩ := un.tbls p.1 #[] (hT p.1 (List.mem_map.mpr ⟨p, hp, rfl⟩))
          exact ⟨_, hok' p.1 _ z⟩
        have same : ∀ b o, b ∉ ts → s₁.heap.get? b = some o → s'.heap.get? b = some o := fun b o nb e => by
          by_cases z : H b = none
          · exact un.keep b o e z (noF b) (by simp)
          · rcases only b nb with z2 | ⟨ob, xs, z2⟩
            · exact absurd z2 z
            · obtain ⟨e2, _⟩ := hok' b _ (un.frzs b ob _ z2)
              obtain ⟨e1, _⟩ := hok b _ z2
              rw [e] at e1
              cases e1
              exact e2
        refine ⟨rfl, ⟨fun b o e => ?_, fun b o e => ?_⟩, os, bare⟩
        · by_cases hb : b ∈ ts
          · obtain ⟨p, hp, rfl⟩ := List.mem_map.mp hb
            obtain ⟨more, hm⟩ := grown p hp
            obtain ⟨h1, _, c, hc⟩ := tb p hp
            rw [h1] at e
            cases e
            exact .inr (.inl ⟨(hc.tab h1).isCodeTable, rfl, #[], more, rfl, by rw [Array.empty_append]; exact hm⟩)
          · exact .inl (same b o hb e)
        · by_cases hb : b ∈ ts
          · obtain ⟨p, hp, rfl⟩ := List.mem_map.mp hb
            obtain ⟨more, hm⟩ := grown p hp
            exact ⟨_, hm⟩
          · exact ⟨o, same b o hb e⟩
      | _ => exact False.elim hz
  cases hk : K.lookup a with
  | some o =>
    have e := inK a o hk
    rw [sc] at e
    cases e
    refine run Ht (fun _ => none) (fun b hb => if_pos hb) (fun b hb => (if_neg hb).symm) (fun b hb => rfl) (fun b hb => .inl (if_neg hb)) (.inr ⟨_, vs.toArray, _, hk, rfl, rfl, rfl, by rw [List.size_toArray, zl]; exact few, by simpa using rv⟩) (fun b u z => ?_) fun b hb z => absurd (if_neg hb) z
    by_cases hb : b ∈ ts
    · have z' := (show Ht b = some (.tbl #[]) from if_pos hb).symm.trans z
      cases z'
      exact tat b hb
    · have z' := (show Ht b = none from if_neg hb).symm.trans z
      cases z'
  | none =>
    let H0 : Hp := fun b => if b = a then some (.frz { cls := .type "list", data := .seq vs.toArray } (.lst (ns.map V.int))) else Ht b
    let F0 : Hp := fun b => if b = a then some (.frz { cls := .type "list", data := .seq vs.toArray } (.lst (ns.map V.int))) else none
    have at_a : H0 a = some (.frz { cls := .type "list", data := .seq vs.toArray } (.lst (ns.map V.int))) := if_pos rfl
    have nea : ∀ b ∈ ts, b ≠ a := fun b hb z => aT (by rw [← z]; exact hb)
    have offT : ∀ b ∈ ts, H0 b = some (.tbl #[]) := fun b hb => (if_neg (nea b hb)).trans (if_pos hb)
    have off : ∀ b, b ≠ a → b ∉ ts → H0 b = none := fun b z hb => (if_neg z).trans (if_neg hb)
    refine run H0 F0 offT (fun b hb => ?_) (fun b hb => if_neg (nea b hb)) (fun b hb => ?_) (.inl (.inr ⟨_, if_pos rfl⟩)) (fun b u z => ?_) fun b hb z => ⟨?_, hk⟩
    · by_cases h : b = a
      · rw [h, at_a]; exact if_pos rfl
      · rw [off b h hb]; exact if_neg h
    · by_cases h : b = a
      · rw [h]; exact .inr ⟨_, _, at_a⟩
      · exact .inl (off b h hb)
    · by_cases h : b = a
      · subst h
        rw [at_a] at z
        cases z
        exact ⟨sc, by rw [List.length_map]; exact few, vs, _, rv, sc⟩
      · by_cases hb : b ∈ ts
        · rw [offT b hb] at z
          cases z
          exact tat b hb
        · rw [off b h hb] at z
          cases z
    · by_cases h : b = a
      · exact h
      · exact absurd (off b h hb) z
/-- what a law's walk needs: the law's def, and that its answer is True at every script -/
theorem walk_g {l : PySem.W.OpenLaw} {n k : Nat} {q : Program} {loose : List Str} {XP : (Str → Option Value) → Heap → Prop} {YP : World → Heap → Prop} {dr : DefRec} {x : Str} {T : Tb} {d : DF}
    (hn : l.most = some n) (hn2 : n ≤ sizeLine) (hdf : dr.params.defaults = []) (rm : Room k callerA) (good : ∀ ns : List Int, ns.length ≤ n → ∃ S, d [.nd .scr (ns.map .int)] [] = .ok (.bl true) S)
    (G : ∀ (w : World) (mg : Str → Option Value) (fa : Addr) (h : Heap), YP w h → h.Ns mainGlobals mg → mg dr.name = some (.ref fa) →
      ∃ (K : PySem.W.Frag) (fd : FuncData), K.In h ∧ (∀ p ∈ T.tabs K, h.get? p.1 = some tabO ∧ K.lookup p.1 = none ∧ ∃ c, PySem.W.CodeHd h c p.1) ∧ (∀ (s : Shared) (u : Value), BindsTo s fd ⟨[u], []⟩ [(x, u)]) ∧ ∀ base : Heap, K.In base → base.Ns mainGlobals mg → BaseT (T.tabs K) mg base → FnG T l.prog w K mg base k fa fd [x] d) :
    PySem.W.WalkO q loose XP YP l.row.toRowW dr [] (fun f vs => PySem.call f vs) := by
  refine Att.attach_call hn hdf fun w s₀ s₁ mg mb fa o pm cd doc a vs ns gr yy ho hd hcd hmg hobj hints hlen hg => ?_
  obtain ⟨K, fd, inK, tb, hb, hF⟩ := G w mg fa _ yy gr.T.g hmg
  exact law_gT inK gr.T.g gr.T.b gr.T.builtins gr.T.nolimit hg gr.T.bmain tb hobj hints (Nat.le_trans hlen hn2) rm hF hb (good ns hlen)
end Z
end
end
section
set_option Elab.async false
set_option linter.all false
set_option maxRecDepth 100000
set_option maxHeartbeats 1000000
/-! ZX: errors: raised, caught, held as values. -/
noncomputable section
namespace Z
open PySem PySem.Spec PyProof.Rows L2

section
variable {T : Tb} {K : PySem.W.Frag} {R : Pl} {F H : Hp} {S : Sto}
/-- a new thing that no value tells of -/
theorem Rep.aside (r : Rep T K R F S H) {p : Addr} {o : HO} (hp : H p = none) : Rep T K R F S (upd H p o) where
  ex := fun a u e => by
    have h : a ≠ p := fun z => by rw [z, r.fnone hp] at e; cases e
    rw [upd_ne h]; exact r.ex a u e
  len := r.len
  nd := r.nd
  there := fun a ha => by
    have h : a ≠ p := fun z => (r.there a ha).1 (by rw [z]; exact hp)
    rw [upd_ne h]; exact r.there a ha
  hidt := r.hidt
  ntb := r.ntb
  tabs := tabs_new r.tabs hp
  hidnd := r.hidnd
  hid := fun q hq => by
    obtain ⟨h1, h2, h3⟩ := r.hid q hq
    have ne : q.1 ≠ p := fun z => by rw [z, hp] at h1; cases h1
    exact ⟨by rw [upd_ne ne]; exact h1, h2, h3⟩
  live := fun n a k xs h1 h2 => by
    obtain ⟨h3, us, h4, h5⟩ := r.live n a k xs h1 h2
    have ne : a ≠ p := fun z => h4.there (by rw [z]; exact hp)
    exact ⟨h3, us, h4.upd ne, h5⟩
end

/-! ### raise C(..), C's own __init__ laying its fields one by one -/
/-- what an error's own __init__ keeps: the fields ns in their order -/
def spE (K : PySem.W.Frag) (C : Addr) (ns : List Str) : Sp := fun vs H Q _ => ∃ a ys, vs = .ref a :: ys ∧ ys.length = ns.length ∧ H a = some (exo a C none) ∧
  ∀ d H2, H d = none → d ≠ a → H2 a = some (exo a C (some d)) → H2 d = some (exd d (ns.zip ys).reverse) → (∀ b, b ≠ a → b ≠ d → H2 b = H b) → Q .non H2
structure ExN (T : Tb) (P : Program) (w : World) (K : PySem.W.Frag) (mg : Str → Option Value) (base : Heap) (k : Nat) (x : Str) (c : Nat) (fs : List Nat) : Prop where
  ex : ∃ fI fd ps, mg x = some (.ref (T.ca K c)) ∧ OexC K (T.ca K c) ∧ PySem.W.findIn K (.ref (T.ca K c)) "__init__" = some (some (.ref fI)) ∧ PySem.W.typeIn K (.ref fI) = some (.type "function") ∧
    FnOk P w K mg base (L2.CX P w) k fI fd ps (spE K (T.ca K c) (fs.map T.fd)) ∧ Binds K fd ps []
  few : fs.length ≤ 900
  some_ : fs ≠ []
def dRaise (c : Nat) (fs : List Nat) (ar : DA) : DS := fun l S => (ar l S).st l fun xs S1 => if xs.length = fs.length then .err ⟨c, fs.reverse, xs.reverse⟩ l S1 else .bad
theorem RelL.zipr {T : Tb} {K : PySem.W.Frag} {fs : List Nat} {us : List V} (h : us.length = fs.length) : ((fs.map T.fd).zip us).reverse = (fs.reverse.map T.fd).zip us.reverse := by
  rw [List.map_reverse]
  unfold List.zip
  rw [List.reverse_zipWith]
  rw [List.length_map, h]
section
variable {T : Tb} {X : Cx} {E : XS} {x : Str} {c j k : Nat} {fs : List Nat} {e : Expr} {es : List Expr} {ar : DA} {p pos rpos : Pos}
theorem passes_no {X : Cx} : Passes (L2.CX X.prog X.w) X (fun _ _ _ => False) := fun _ _ _ _ _ _ _ q => by
  obtain ⟨_, _, _, _, _, _, _, _, _, _, _, _, f⟩ := q
  exact f.elim
theorem js_raise (cg : Cg X E k) (N : ExN T X.prog X.w X.K X.mg X.base j x c fs) (ha : JA T X E (e :: es) ar) (hj : j + 1 ≤ k := by decide) (hg : Gl X x := by rfl) (hdb : (x == ("__debug__" : Str)) = false := by decide)
    (he : starEach (e :: es) X.env = (false, eval e X.env) :: starEach es X.env := by rfl) (hpl : (backTo pos (starEach es X.env)).any (·.1) = false := by rfl) : JS T X E (.Raise (some (.Call (.Name x p) (e :: es) [] pos)) none rpos) (dRaise c fs ar) := by
  obtain ⟨fI, fd, ps, hm, O, iC, tI, G, hb⟩ := N.ex
  refine ps_imp (ps_raise cg.calm cg.takes (pmk_oex (ds := []) (dvs := []) O iC tI G (cg.room.mono hj) hb .nil passes_no hg hm ha hdb he hpl)) fun D σ H ⟨R, Fz, l, S, r, re, h⟩ => ?_
  refine st_l r re h fun xs S1 R1 F1 H1 us pl ex r1 rx e1 h1 => ?_
  have h1 : OkS T X.K R1 F1 (if xs.length = fs.length then .err ⟨c, fs.reverse, xs.reverse⟩ l S1 else .bad) D E := h1
  split at h1
  · rename_i hl
    have hlu : us.length = fs.length := by rw [rx.length]; exact hl
    refine ⟨by rw [hlu]; exact Nat.le_trans N.few (by decide), fun a hn => ⟨a, us, by rw [List.append_nil], by rw [List.length_map]; exact hlu, upd_same, fun d H2 hd hda ea ed hoth => ⟨rfl, d, _, ea, ed, ?_, ?_⟩⟩⟩
    · rw [upd_ne hda] at hd; exact hd
    · rw [upd_ne hda] at hd
      have eH : upd (del H2 a) d (.xd ((fs.map T.fd).zip us).reverse) = upd H1 d (.xd ((fs.map T.fd).zip us).reverse) := by
        funext b
        by_cases hbd : b = d
        · rw [hbd, upd_same, upd_same]
        · rw [upd_ne hbd, upd_ne hbd]
          by_cases hba : b = a
          · rw [hba, del_same, hn]
          · rw [del_ne hba, hoth b hba hbd, upd_ne hba]
      rw [eH]
      refine h1 R1 F1 _ σ _ _ (Pl.refl R1) (Ex.refl F1) (r1.aside hd) e1 ⟨rfl, .inr ⟨d, us.reverse, rfl, r1.fnone hd, ?_, ?_, rx.reverse⟩⟩
      · rw [upd_same, RelL.zipr (K := X.K) hlu]
      · rw [List.length_reverse, List.length_reverse]; exact hlu
  · exact h1.elim
end
/-! ### such an __init__ of one field, of two -/
section
variable {P : Program} {w : World} {K : PySem.W.Frag} {mg : Str → Option Value} {base : Heap} {nm qual : Str} {params : Arguments} {scope : Scope} {fI C : Addr} {fd : FuncData} {s v1 v2 f1 f2 : Str} {p1 p2 p3 p4 q1 q2 q3 q4 : Pos}
theorem init1 (G : FunD K nm qual params [.Assign [.Attribute (.Name s p1) f1 p2] (.Name v1 p3) p4] scope [] [] fI fd) (S : FnScope [s, v1] [s, v1] scope) (O : OexC K C) (hno : PySem.W.findIn K (.ref C) f1 = some none)
    (vs : Vis scope s := by first | exact Or.inl rfl | exact Or.inr (Or.inl rfl)) (vv : Vis scope v1 := by first | exact Or.inl rfl | exact Or.inr (Or.inl rfl))
    (ds : (s == ("__debug__" : Str)) = false := by decide) (dv : (v1 == ("__debug__" : Str)) = false := by decide) (cs : (s == ("__classdict__" : Str)) = false := by decide) (cv : (v1 == ("__classdict__" : Str)) = false := by decide) :
    FnOk P w K mg base (L2.CX P w) 1 fI fd [s, v1] (spE K C [f1]) :=
  FunD.ok (k := 0) G S (fun _ _ _ _ ⟨a, ys, e, l, _⟩ => by rw [e, List.length_cons, l]; rfl) fun cdv A outer st H vs Q E hr ⟨a, ys, e, l, ha, hq⟩ => by
    match ys, l with
    | [y], _ =>
      subst e
      refine ⟨_, pss_one (ps_ost (pe_var (i := 0) rfl vs ds cs) (pe_var (i := 1) rfl vv dv cv)), ?_⟩
      refine ⟨y, rfl, .ref a, rfl, a, C, rfl, O, hno, .inl ⟨ha, fun dx hdx hne => hq dx _ hdx hne upd_same ?_ fun b h1 h2 => by rw [upd_ne h1, upd_ne h2]⟩⟩
      rw [upd_ne hne, upd_same]; rfl
theorem init2 (G : FunD K nm qual params [.Assign [.Attribute (.Name s p1) f1 p2] (.Name v1 p3) p4, .Assign [.Attribute (.Name s q1) f2 q2] (.Name v2 q3) q4] scope [] [] fI fd) (S : FnScope [s, v1, v2] [s, v1, v2] scope) (O : OexC K C) (hno : PySem.W.findIn K (.ref C) f1 = some none) (hno2 : PySem.W.findIn K (.ref C) f2 = some none)
    (vs : Vis scope s := by first | exact Or.inl rfl | exact Or.inr (Or.inl rfl)) (vv : Vis scope v1 := by first | exact Or.inl rfl | exact Or.inr (Or.inl rfl)) (vw : Vis scope v2 := by first | exact Or.inl rfl | exact Or.inr (Or.inl rfl))
    (ds : (s == ("__debug__" : Str)) = false := by decide) (dv : (v1 == ("__debug__" : Str)) = false := by decide) (dw : (v2 == ("__debug__" : Str)) = false := by decide) (cs : (s == ("__classdict__" : Str)) = false := by decide) (cv : (v1 == ("__classdict__" : Str)) = false := by decide) (cw : (v2 == ("__classdict__" : Str)) = false := by decide) :
    FnOk P w K mg base (L2.CX P w) 1 fI fd [s, v1, v2] (spE K C [f1, f2]) :=
  FunD.ok (k := 0) G S (fun _ _ _ _ ⟨a, ys, e, l, _⟩ => by rw [e, List.length_cons, l]; rfl) fun cdv A outer st H vs Q E hr ⟨a, ys, e, l, ha, hq⟩ => by
    match ys, l with
    | [y, z], _ =>
      subst e
      refine ⟨_, pss_cons (ps_ost (pe_var (i := 0) rfl vs ds cs) (pe_var (i := 1) rfl vv dv cv)) (pss_one (ps_ost (pe_var (i := 0) rfl vs ds cs) (pe_var (i := 2) rfl vw dw cw))), ?_⟩
      refine ⟨y, rfl, .ref a, rfl, a, C, rfl, O, hno, .inl ⟨ha, fun dx hdx hne => ?_⟩⟩
      refine ⟨z, rfl, .ref a, rfl, a, C, rfl, O, hno2, .inr ⟨dx, _, upd_same, by rw [upd_ne hne, upd_same], (by simp), hq dx _ hdx hne ?_ ?_ fun b h1 h2 => by rw [upd_ne h2, upd_ne h1, upd_ne h2]⟩⟩
      · rw [upd_ne (Ne.symm hne), upd_same]
      · rw [upd_same]; rfl
end

/-! ### what the head must tell of an error's class -/
theorem oexB_ok {K : PySem.W.Frag} {C : Addr} (h : oexB K C = true) : OexC K C := by
  unfold oexB at h
  obtain ⟨h1, h⟩ := Bool.and_eq_true_iff.mp h
  obtain ⟨h2, h⟩ := Bool.and_eq_true_iff.mp h
  obtain ⟨h3, h⟩ := Bool.and_eq_true_iff.mp h
  obtain ⟨h4, h5⟩ := Bool.and_eq_true_iff.mp h
  refine ⟨?_, of_decide_eq_true h2, of_decide_eq_true h3, of_decide_eq_true h4, h5⟩
  split at h1
  · rename_i dd cd sl hl
    split at h1
    · rename_i B bm k0 k1 k2 k3 n k5 hm hs
      simp only [Bool.and_eq_true, beq_iff_eq, Bool.not_eq_true'] at h1
      obtain ⟨rfl, rfl, e1, e2, e3⟩ := h1
      obtain ⟨nm, bs, mro, ns, qn, hd, sn, sub, ab, col, del⟩ := cd
      dsimp only at hm e1 e2
      subst hm e1 e2
      have hsl : sl = #[k0, k1, k2, k3, some (.builtin "ValueError.__new__"), k5] := by
        obtain ⟨l⟩ := sl
        simp only at hs
        rw [hs]
      subst hsl
      exact ⟨nm, qn, ns, bs, bm, sn, sub, ab, col, dd, k0, k1, k2, k3, k5, hl, e3⟩
    · cases h1
  · cases h1
theorem exnB_init {x : Str} {fs : List Str} {K : PySem.W.Frag} (h : exnB x fs K = true) : PySem.W.findIn K (.ref (He.ga K x)) "__init__" = some (some (.ref (He.ma K (He.ga K x) "__init__"))) ∧ PySem.W.typeIn K (.ref (He.ma K (He.ga K x) "__init__")) = some (.type "function") := by
  unfold exnB at h
  have h1 := (Bool.and_eq_true_iff.mp (Bool.and_eq_true_iff.mp h).2).1
  split at h1
  · rename_i a ha
    have e : He.ma K (He.ga K x) "__init__" = a := by unfold He.ma; rw [ha]
    rw [e]
    exact ⟨ha, of_decide_eq_true h1⟩
  · cases h1
theorem exnB_no {x f : Str} {fs : List Str} {K : PySem.W.Frag} (h : exnB x fs K = true) (hf : f ∈ fs) : PySem.W.findIn K (.ref (He.ga K x)) f = some none := by
  unfold exnB at h
  exact of_decide_eq_true (List.all_eq_true.mp (Bool.and_eq_true_iff.mp (Bool.and_eq_true_iff.mp h).2).2 f hf)

/-! ### an error that is held from now on -/
section
variable {X : Cx} {pins : List (Addr × Obj)} {σ : L2.St} {H : Hp} {s : Shared}
theorem Inv.hold {a C : Addr} {d : Option Addr} {oe : Obj} {vs : Array Value} (I : Inv X pins σ H s) (ha : s.heap.get? a = some oe) (hz : Zc (.ref C) d oe) (hd : oe.data = .fields vs) (na : H a = none)
    (old : X.s_0.heap.get? a = none) (nl : a ≠ X.env.locals) (nc : ∀ x c, X.env.cells.lookup x = some c → c ≠ a) (np : ∀ p ∈ X.pn ++ pins, p.1 ≠ a) : Inv X pins σ (upd H a (EXV C d a)) s where
  ok := I.ok
  os := I.os
  bare := I.bare
  base := {
    keep := I.base.keep
    slot := I.base.slot
    free := fun b o e n hx => by
      have hb : b ≠ a := fun z => by rw [z, old] at e; cases e
      rw [upd_ne hb]; exact I.base.free b o e n hx
    there := I.base.there
    tups := fun b xs e => by
      have q := I.base.tups b xs e
      rw [upd_ne (ne_of_none q na)]; exact q
    frzs := fun b o u e => by
      have q := I.base.frzs b o u e
      rw [upd_ne (ne_of_none q na)]; exact q
    tbls := fun b ps e => by
      obtain ⟨more, q⟩ := I.base.tbls b ps e
      exact ⟨more, by rw [upd_ne (ne_of_none q na)]; exact q⟩ }
  loc := I.loc
  cell := I.cell
  free := by rw [upd_ne (Ne.symm nl)]; exact I.free
  freeC := fun x c e => by rw [upd_ne (nc x c e)]; exact I.freeC x c e
  pin := fun p hp => by
    obtain ⟨h1, h2, h3, h4, h5⟩ := I.pin p hp
    exact ⟨h1, by rw [upd_ne (np p hp)]; exact h2, h3, h4, h5⟩
  hok := fun b o e => by
    by_cases hb : b = a
    · subst hb
      rw [upd_same] at e
      cases e
      exact ⟨⟨oe, vs, ha, hz, hd⟩, ⟨oe, ha⟩, fun h1 h2 ⟨oe, vs, q1, q2, q3⟩ k => ⟨oe, vs, k _ q1, q2, q3⟩⟩
    · rw [upd_ne hb] at e
      exact (I.hok b o e).stay (fun _ _ _ z => z) (fun c hc => by rw [upd_ne (ne_of_none hc na)]; exact hc) fun c xs hc => by rw [upd_ne (ne_of_none hc na)]; exact hc
  len := I.len
end
end Z
end
end
section
set_option Elab.async false
set_option linter.all false
set_option maxRecDepth 100000
set_option maxHeartbeats 1000000
/-! ZY: try: .. except C as n: .., the error held as a value from there on. -/
noncomputable section
namespace Z
open PySem PySem.Spec PyProof.Rows L2

/-- the ends of a suite behind whose end slot i is empty again -/
def gone (i : Nat) (D : Ends) : Ends := { nx := fun τ M => D.nx (τ.set i none) M, rt := D.rt, bk := fun τ M => D.bk (τ.set i none) M, ct := fun τ M => D.ct (τ.set i none) M }
/-- what is wished of an error of the body -/
def wHeld (K : PySem.W.Frag) (cv : Value) (i : Nat) (ts : TS) (Wout : WX) (D : Ends) : WX := fun cls d τ M =>
  ∃ b, PySem.W.exmOne K cls cv = some b ∧ (b = true → ∃ C, cls = .ref C ∧ ∀ a, M a = none → ts (gone i D) (τ.set i (some (.ref a))) (upd M a (EXV C d a))) ∧ (b = false → Wout cls d τ M)
section
variable {X : Cx} {x n : Str} {cv : Value} {i : Nat} {body suite : List Stmt} {b₀ : Stmt} {np pos pos' : Pos} {tb : WX → TS} {ts : TS} {Wout : WX}
theorem Inv.back {pins : List (Addr × Obj)} {σ : L2.St} {H : Hp} {s : Shared} {a : Addr} (J : Inv (X.suite a (X.pn ++ pins)) [] σ H s) (ok : X.Ok) : Inv X pins σ H s where
  ok := ok
  os := J.os
  bare := J.bare
  base := J.base
  loc := J.loc
  cell := J.cell
  free := J.free
  freeC := J.freeC
  pin := fun p hp => J.pin p (List.mem_append_left _ hp)
  hok := J.hok
  len := J.len
/-- the state in the except suite: the error is told -/
theorem Inv.inSuite {pins : List (Addr × Obj)} {σ : L2.St} {H : Hp} {s sI : Shared} {a C : Addr} {d : Option Addr} {oe : Obj} {vs : Array Value} (J : Inv X pins σ H s) (J0 : Inv X pins σ H sI) (new : sI.heap.get? a = none) (na : H a = none)
    (ha : s.heap.get? a = some oe) (hz : Zc (.ref C) d oe) (hd : oe.data = .fields vs) (nl : a ≠ X.env.locals) (hx : X.ex = []) : Inv (X.suite a (X.pn ++ pins)) [] σ (upd H a (EXV C d a)) s := by
  have J1 : Inv X pins σ (upd H a (EXV C d a)) s := by
    refine Inv.hold J ha hz hd na ?_ nl (fun y c e z => ?_) fun p hp z => ?_
    · cases q : X.s_0.heap.get? a with
      | none => rfl
      | some o =>
        obtain ⟨o', q'⟩ := J0.base.there a o q (by rw [hx]; exact fun z => nomatch z)
        rw [new] at q'; cases q'
    · obtain ⟨v, o, q, _⟩ := J0.cell y c e
      rw [z, new] at q; cases q
    · have q := (J0.pin p hp).1
      rw [z, new] at q; cases q
  exact ⟨J1.ok.suite _ _, J1.os, J1.bare, J1.base, J1.loc, J1.cell, J1.free, J1.freeC, fun p hp => J1.pin p (by rw [List.append_nil] at hp; exact hp), J1.hok, J1.len⟩
theorem ps_held (hx : X.ex = []) (hs : X.stack = X.env :: X.outer) (hf : X.env.frame = some X.env.locals) (nd : X.N.Nodup) (hi : X.N[i]? = some n) (hl : X.env.kindOf n = some .local) (nx : Names X x cv) (tk : Takes X Wout)
    (hB : ∀ (W : WX) (pn : List (Addr × Obj)) (xe : Value → Shared → Prop), Takes (X.tr pn xe) W → PassesOwn (model X.prog X.w) X.A X.env xe → PSs (X.tr pn xe) body (tb W))
    (hS : ∀ (a : Addr) (pn : List (Addr × Obj)), PSs (X.suite a pn) (b₀ :: suite) ts) :
    PS X (.Try body [.ExceptHandler (some (.Name x np)) (some n) (b₀ :: suite) pos'] [] [] pos) (fun D σ H => tb (wHeld X.K cv i ts Wout D) D σ H) := by
  refine ⟨fun pins s σ H D I prom => ?_⟩
  have xok := I.ok
  have frm : X.A.frames = some (X.env :: X.outer) := xok.frames.trans (congrArg some hs)
  let hd : List ExceptHandler := [.ExceptHandler (some (.Name x np)) (some n) (b₀ :: suite) pos']
  let xe1 : Value → Shared → Prop := fun e s₁ => wpAny (model X.prog X.w) X.A (noteFrame e X.env) (fun _ s₂ => wpAny (model X.prog X.w) X.A (setFlight e none) (fun _ s₃ => wpAny (model X.prog X.w) X.A (handleBy e X.env hd) (SP X pins D) X.xe s₃) X.xe s₂) X.xe s₁
  have caught : Takes (X.tr (X.pn ++ pins) xe1) (wHeld X.K cv i ts Wout D) := by
    intro u s' air
    obtain ⟨a, B, sI, pins', τ, M, cls, d, eu, J1, gr, up, sky, na, hos, hag, b, hb, yes, no⟩ := air
    subst eu
    have J : Inv X pins τ M sI := J1.ofTry xok
    have sky2 : Sky B (X.env :: X.outer) a (Zc cls d) X.env.locals s'.heap := hs ▸ sky
    refine Sky.land Zc.steady frm hf sky2 fun g fl upg => ?_
    have Jg : Inv X pins τ M { s' with heap := g } := J.landed gr fl.1 (up.trans upg) hos hag
    obtain ⟨oe, ve, qe, ze, de⟩ := fl.there
    have offF : a ∉ frs (X.env :: X.outer) := fun hm => by
      obtain ⟨_, o', q', bad⟩ := fl.2.2.1.mem hm
      rw [qe] at q'
      cases q'
      exact bad _ de
    have offL : a ≠ X.env.locals := fun z => offF (List.mem_filterMap.mpr ⟨X.env, List.mem_cons_self, by rw [hf, z]⟩)
    have offO : a ∉ X.fs := fun hm => by
      obtain ⟨e, he, q⟩ := List.mem_filterMap.mp hm
      exact offF (List.mem_filterMap.mpr ⟨e, List.mem_cons_of_mem _ he, q⟩)
    have new : sI.heap.get? a = none := by
      cases q : sI.heap.get? a with
      | none => rfl
      | some o =>
        have z := gr a o q (by rw [hs]; exact offF)
        rw [fl.2.1] at z
        cases z
    have Sg := Jg.suite qe de na offL offO
    refine wpAny_handleBy_cons (codeAny_handlers_test ?_) (by intro q; cases q)
    have lkT : PySem.W.Looks (model X.prog X.w) g (typeOf (.ref a)) cls := fun _ _ _ _ kk qq => wpAny_typeOf_ref (kk _ _ qe) (by rw [ze.1]; exact qq)
    have lkM := PySem.W.exm_one (M := model X.prog X.w) Jg.kIn lkT hb
    have named : ∀ {Q Er : Value → Shared → Prop}, Q cv { s' with heap := g } → wpAny (model X.prog X.w) (X.A.mark (some (.ref a))) (eval (.Name x np) X.env) Q Er { s' with heap := g } := fun {Q Er} q => by
      obtain ⟨h1, h2, h3 | ⟨h3, h4, h5⟩⟩ := nx
      · exact ld_glob (X := X.suite a ((a, oe) :: (X.pn ++ pins))) Sg h1 h3 q h2
      · exact ld_blt (X := X.suite a ((a, oe) :: (X.pn ++ pins))) Sg h1 h3 h4 q h5 h2
    refine named (lkM.here ?_)
    cases b with
    | false =>
      show wpAny _ X.A (handleBy (.ref a) X.env []) _ _ _
      refine wpAny_handleBy_nil ?_
      obtain ⟨_, _, _, oe2, ve2, Tb, oT, tf, qe2, _, de2, trc, _⟩ := id fl
      unfold PySem.passOn
      refine wpAny_bind (wpAny_field qe2 de2 trc ?_)
      rw [if_neg (show ¬ ((Value.ref Tb == Value.none) = true) from by simp)]
      have out : wpAny (model X.prog X.w) X.A (setFlight (.ref a) X.env.frame) (fun _ s4 => wpAny (model X.prog X.w) X.A (throw (.ref a) : Sem Flow) (SP X pins D) X.xe s4) X.xe { s' with heap := g } := by
        rw [hf]
        exact HandSPX.setFlight_upZ fl fun g2 held up2 => wpAny_throw (tk _ _ ⟨a, B, sI, pins, τ, M, cls, d, rfl, J, gr, (up.trans upg).trans up2, .inr (.inr (by rw [hs]; exact held)), na, hos, hag, no rfl⟩)
      first
        | exact wpAny_bind (wpAny_pure (wpAny_bind out))
        | exact wpAny_bind out
    | true =>
      obtain ⟨C, ec, yes2⟩ := yes rfl
      subst ec
      refine codeAny_handlers_suite_as (HandSPX.lands_againZ fl fun g2 fl2 up2 => ?_)
      have J2 : Inv X pins τ M { s' with heap := g2 } := J.landed gr fl2.1 ((up.trans upg).trans up2) hos hag
      obtain ⟨o2, v2, q2, z2, d2⟩ := fl2.there
      have S2 : Inv (X.suite a (X.pn ++ pins)) [] τ (upd M a (EXV C d a)) { s' with heap := g2 } := Inv.inSuite J2 J new na q2 z2 d2 offL hx
      refine store_ok (X := X.suite a (X.pn ++ pins)) (v := .ref a) S2 nd hi (.inl hl) rfl (fun s5 S5 => ?_) (.inr hl)
      refine wpAny_mono ((hS a (X.pn ++ pins)).run [] s5 _ _ _ S5 (yes2 a na)) (fun f s6 done => ?_) fun _ _ z => False.elim z
      have goes : ∀ {ρ : L2.St} {N : Hp} {Q : Shared → Prop}, Inv (X.suite a (X.pn ++ pins)) [] ρ N s6 → (∀ s7, Inv X pins (ρ.set i none) N s7 → Q s7) →
          wpAny (model X.prog X.w) X.A (do bindName X.env n .none; unbindBehindTheSuite X.env n pos') (fun _ s7 => Q s7) X.xe s6 := fun Jr hq => gone_ok (Inv.back Jr xok) nd hi hl hq
      cases f with
      | ret u =>
        obtain ⟨v, ρ, N, Jr, rv, q⟩ := done
        exact goes Jr fun s7 J7 => ⟨_, _, _, J7, rv, q⟩
      | next =>
        obtain ⟨ρ, N, Jr, q⟩ := done
        exact goes Jr fun s7 J7 => ⟨_, _, J7, q⟩
      | brk =>
        obtain ⟨ρ, N, Jr, q⟩ := done
        exact goes Jr fun s7 J7 => ⟨_, _, J7, q⟩
      | cont =>
        obtain ⟨ρ, N, Jr, q⟩ := done
        exact goes Jr fun s7 J7 => ⟨_, _, J7, q⟩
  refine wpAny_Try_except (wpAny_mono ((hB _ (X.pn ++ pins) xe1 caught PassesOwn.looking).run [] s σ H D (I.toTry _) prom) (fun f s1 done => ?_) fun e s1 he => he)
  cases f with
  | ret u =>
    obtain ⟨v, τ, M, J, rv, q⟩ := done
    exact ⟨v, τ, M, J.ofTry xok, rv, q⟩
  | next =>
    obtain ⟨τ, M, J, q⟩ := done
    exact wpAny_execs_nil ⟨τ, M, J.ofTry xok, q⟩
  | brk =>
    obtain ⟨τ, M, J, q⟩ := done
    exact ⟨τ, M, J.ofTry xok, q⟩
  | cont =>
    obtain ⟨τ, M, J, q⟩ := done
    exact ⟨τ, M, J.ofTry xok, q⟩
end
end Z
end
end
section
set_option Elab.async false
set_option linter.all false
set_option maxRecDepth 100000
set_option maxHeartbeats 1000000
/-! ZV: try, by values; the fields of an error that is held. -/
noncomputable section
namespace Z
open PySem PySem.Spec PyProof.Rows L2

/-- the error as a value -/
def XV.val (e : XV) : PV := .nd (.exn e.c e.fs) (if e.fs = [] then [] else e.xs)
/-- an except suite comes to its end -/
def goneO (i : Nat) (o : OutS) : OutS := match o with
  | .nx l S => .nx (l.set i none) S
  | .brk l S => .brk (l.set i none) S
  | .cnt l S => .cnt (l.set i none) S
  | .ret v S => .ret v S
  | .err _ _ _ => .bad
  | .bad => .bad
def dTryAs (tst : Nat → Option Bool) (i : Nat) (b su : DS) : DS := fun l S => match b l S with
  | .err e l1 S1 => (match tst e.c with
    | some true => goneO i (su (l1.set i (some e.val)) S1)
    | some false => .err e l1 S1
    | none => .bad)
  | o => o
section
variable {T : Tb} {K : PySem.W.Frag} {R : Pl} {F H : Hp} {S : Sto} {l : Loc} {σ : L2.St}
theorem RelE.setNone (h : RelE T K R F l σ) (i : Nat) : RelE T K R F (l.set i none) (σ.set i none) := by
  refine ⟨by rw [List.length_set, List.length_set]; exact h.len, fun j w q => ?_⟩
  by_cases e : i = j
  · subst e
    by_cases hl : i < l.length
    · rw [List.getElem?_set_self hl] at q; cases q
    · rw [List.getElem?_eq_none (by simpa using hl)] at q; cases q
  · rw [List.getElem?_set_ne e] at q
    obtain ⟨u, h1, h2⟩ := h.at_ j w q
    exact ⟨u, by rw [List.getElem?_set_ne e]; exact h1, h2⟩
theorem notLiv_xd {a : Addr} {fs : List (Str × V)} (h : H a = some (.xd fs)) : ∀ k us, ¬ Liv T K H a k us := fun k us q => by
  obtain ⟨u, h1, h2⟩ := q.plain
  cases k with
  | tup => exact q
  | scr => exact q
  | lst => have q : H a = _ := q; rw [h] at q; cases q
  | dct t ks => cases t <;> (obtain ⟨_, kk, _, q⟩ := q; rw [h] at q; cases q)
  | ins c fs => obtain ⟨_, dx, q⟩ := q; rw [h] at q; cases q
  | exn c fs => exact q
  | clo a0 c0 q0 us0 => exact q
/-- the caught error is told from now on -/
theorem caught_rel {e : XV} {cls : Value} {d : Option Addr} {a : Addr} (r : Rep T K R F S H) (na : H a = none) (x : RelX T K R F H e cls d) :
    ∃ F', Ex F F' ∧ Rep T K R F' S (upd H a (EXV (T.ca K e.c) d a)) ∧ Rel T K R F' e.val (.ref a) := by
  have hex : Ex F (upd F a (EXV (T.ca K e.c) d a)) := ex_upd (r.fnone na)
  have r1 := r.frozen (o := EXV (T.ca K e.c) d a) na (fun ps z => by unfold EXV at z; cases z)
  obtain ⟨_, ⟨h1, rfl⟩ | ⟨dd, us, rfl, h1, h2, h3, h4⟩⟩ := x
  · refine ⟨_, hex, r1, ?_⟩
    unfold XV.val
    rw [Rel, if_pos h1]
    refine ⟨a, [], rfl, ⟨?_, none, upd_same, .inl ⟨h1, rfl⟩⟩, .nil⟩
    rw [h1]; rfl
  · have ne : dd ≠ a := fun z => by rw [z, na] at h2; cases h2
    have q2 : upd H a (EXV (T.ca K e.c) (some dd) a) dd = some (.xd ((e.fs.map T.fd).zip us)) := by rw [upd_ne ne]; exact h2
    have q1 : upd F a (EXV (T.ca K e.c) (some dd) a) dd = none := by rw [upd_ne ne]; exact h1
    obtain ⟨ex2, r2⟩ := r1.more (fun _ z => by cases z) q2 (.inl q1) (.inr (notLiv_xd q2)) fun p hp z => by
      have y := (r1.hid p hp).1
      rw [z, q2] at y
      have w := r1.hidt p hp
      rw [← Option.some.inj y] at w
      cases w
    refine ⟨_, hex.trans ex2, r2, ?_⟩
    unfold XV.val
    rw [Rel]
    refine ⟨a, us, rfl, ⟨h3, some dd, by rw [upd_ne (Ne.symm ne), upd_same], .inr ⟨dd, rfl, upd_same⟩⟩, ?_⟩
    split
    · rename_i hn
      have : us = [] := by
        rw [hn] at h3
        exact List.length_eq_zero_iff.mp h3
      subst this
      exact .nil
    · exact h4.mono (Pl.refl R) (hex.trans ex2)
theorem gone_ok2 {i : Nat} {D : Ends} {E : XS} {o : OutS} (h : OkS T K R F (goneO i o) D E) : OkS T K R F o (gone i D) E00 := by
  cases o with
  | nx l S => exact fun R' F' H' τ p x r e => h R' F' H' _ p x r (e.setNone i)
  | brk l S => exact fun R' F' H' τ p x r e => h R' F' H' _ p x r (e.setNone i)
  | cnt l S => exact fun R' F' H' τ p x r e => h R' F' H' _ p x r (e.setNone i)
  | ret v S => exact h
  | err e l S => exact h.elim
  | bad => exact h.elim
end
section
variable {T : Tb} {X : Cx} {E : XS} {x n : Str} {cv : Value} {i k : Nat} {body suite : List Stmt} {b₀ : Stmt} {np pos pos' : Pos} {b su : DS} {tst : Nat → Option Bool}
theorem js_tryAs (i : Nat) (cg : Cg X E k) (nx : Names X x cv) (ht : ∀ c b, tst c = some b → PySem.W.exmOne X.K (.ref (T.ca X.K c)) cv = some b)
    (hB : ∀ (E1 : XS) (pn : List (Addr × Obj)) (xe : Value → Shared → Prop), Cg (X.tr pn xe) E1 k → JB T (X.tr pn xe) E1 body b) (hS : ∀ (a : Addr) (pn : List (Addr × Obj)), JB T (X.suite a pn) E00 (b₀ :: suite) su)
    (hi : X.N[i]? = some n := by rfl) (hl : X.env.kindOf n = some .local := by rfl) (hx : X.ex = [] := by rfl) (hs : X.stack = X.env :: X.outer := by rfl) (hf : X.env.frame = some X.env.locals := by rfl) :
    JS T X E (.Try body [.ExceptHandler (some (.Name x np)) (some n) (b₀ :: suite) pos'] [] [] pos) (dTryAs tst i b su) := by
  refine ps_imp (ps_held (tb := fun W D σ H => tS T X.K (fun τ cls d M => W cls d τ M) b D σ H) (ts := tS T X.K E00 su) (Wout := fun cls d τ M => E τ cls d M) hx hs hf cg.nd hi hl nx cg.takes
    (fun W pn xe tk ow => hB _ pn xe ⟨cg.calm, cg.nd, cg.room, cg.gd, tk, ow⟩) hS) fun D σ H ⟨R, F, l, S, r, re, h⟩ => ⟨R, F, l, S, r, re, ?_⟩
  unfold dTryAs at h
  cases hb : b l S with
  | err e l1 S1 =>
    rw [hb] at h
    intro R1 F1 H1 τ cls d p ex r1 e1 x1
    have h : OkS T X.K R F (match tst e.c with
      | some true => goneO i (su (l1.set i (some e.val)) S1)
      | some false => .err e l1 S1
      | none => .bad) D E := h
    have ec : cls = .ref (T.ca X.K e.c) := x1.1
    cases ht1 : tst e.c with
    | none => rw [ht1] at h; exact h.elim
    | some t =>
      rw [ht1] at h
      refine ⟨t, by rw [ec]; exact ht _ _ ht1, fun q => ?_, fun q => ?_⟩
      · subst q
        refine ⟨T.ca X.K e.c, ec, fun a na => ?_⟩
        obtain ⟨F2, ex2, r2, rv⟩ := caught_rel r1 na x1
        exact ⟨R1, F2, _, S1, r2, (e1.mono (Pl.refl R1) ex2).set i rv, gone_ok2 (OkS.mono p (ex.trans ex2) h)⟩
      · subst q
        exact h R1 F1 H1 τ cls d p ex r1 e1 x1
  | nx l1 S1 => rw [hb] at h; exact h
  | ret v S1 => rw [hb] at h; exact h
  | brk l1 S1 => rw [hb] at h; exact h
  | cnt l1 S1 => rw [hb] at h; exact h
  | bad => rw [hb] at h; exact h
end
/-! ### e.f, e an error that is held -/
def getE (T : Tb) (f : Nat) (x : PV) (S : Sto) : Out PV := match view x S with
  | some (.exn c fs, xs) => if T.okx c f = true ∧ fs.all (T.okx c) = true then (match fLook fs xs f with
    | some v => .ok v S
    | none => .bad) else .bad
  | _ => .bad
def dAttrE (T : Tb) (f : Nat) (a : DE) : DE := dUn (getE T f) a
def tFldE (K : PySem.W.Frag) (f : Str) (te : TE) : TE := fun σ H Q => te σ H fun x H1 => ∃ a C dd fs v, x = .ref a ∧ H1 a = some (EXV C (some dd) a) ∧ H1 dd = some (.xd fs) ∧ XfC K C ∧ PySem.W.findIn K (.ref C) f = some none ∧ fs.lookup f = some v ∧ Q v H1
section
variable {T : Tb} {X : Cx} {E : XS} {o : Expr} {dO : DE} {pos : Pos} {F : Str}
theorem pe_fldE {te : TE} (ho : L2.PE X o te) (hb : attributeBase o F X.env (eval o X.env) = eval o X.env := by rfl) : L2.PE X (.Attribute o F pos) (tFldE X.K F te) := by
  refine ⟨fun pins s σ H Q I h => ?_⟩
  refine attr_of hb (thn (ho.run pins s σ H _ I h) fun u s1 ⟨x, H1, I1, rx, a, C, dd, fs, v, ex, ha, hd, O, no, hv, q⟩ => ?_)
  subst ex
  obtain rfl : u = Value.ref a := rx
  have told : ObjOk X.prog X.w H1 s1.heap a (.ext fun h => ∃ (oe : Obj) (vs : Array Value), h.get? a = some oe ∧ Zc (.ref C) (some dd) oe ∧ oe.data = .fields vs) := I1.hok a _ ha
  obtain ⟨⟨oe, vs, e1, e2, e3⟩, _, _⟩ := told
  have hx : ObjOk X.prog X.w H1 s1.heap dd (.xd fs) := I1.hok dd _ hd
  obtain ⟨mA, hns, hr⟩ := hx
  obtain ⟨od, ho', hl⟩ := lookIn_ns hns
  obtain ⟨w, hw, rw'⟩ := RelO.some_of (v := v) (o := mA F) (by rw [← hv]; exact hr F)
  have J : PySem.W.InstAt s1.heap a oe C (some od) := ⟨e1, e2.1, by unfold PySem.W.notCls; rw [e3] <;> rfl, by rw [e2.2]; exact ho'⟩
  have found := PySem.W.findObj_own (od := od) O.hdC no rfl (by rw [hl, hw])
  exact PySem.HandSPX.exc_get I1.kIn J O.ga O.gg O.exC found (handed_of rw') ⟨v, H1, I1.tok _, rw', q⟩
theorem je_attrE (f : Nat) (O : TbOk T X.K) (ho : JE T X E o dO) (hf : T.fd f = F := by rfl) (hb : attributeBase o F X.env (eval o X.env) = eval o X.env := by rfl) : JE T X E (.Attribute o F pos) (dAttrE T f dO) := by
  subst hf
  refine pe_imp (pe_fldE ho hb) fun σ H Q ⟨R, Fz, l, S, r, e, h⟩ => ?_
  refine seqV (goV T X.K (E σ) Q) r e h fun x S1 R1 F1 H1 u p ex r1 rx e1 h1 => ?_
  have h1 : OkV T X.K R1 F1 (getE T f x S1) Q (E σ) := h1
  unfold getE at h1
  split at h1
  · rename_i c fs xs hv
    split at h1
    · rename_i hc
      obtain ⟨a, us, rfl, hsh, hl⟩ := view_rel r1 rx hv
      obtain ⟨hlen, d, ha, hd⟩ := hsh
      obtain ⟨hf, hcl, hno⟩ := O.okx c f hc.1
      split at h1
      · rename_i y hy
        rcases hd with ⟨e0, _⟩ | ⟨dd, rfl, hdd⟩
        · subst e0
          cases xs <;> cases hy
        · obtain ⟨w, q1, q2⟩ := fLook_rel O hf (fun g hg => (O.okx c g (List.all_eq_true.mp hc.2 g hg)).1) hl hy
          exact ⟨a, _, dd, _, w, rfl, ha, hdd, hcl, hno, q1, h1 R1 F1 H1 w (Pl.refl R1) (Ex.refl F1) r1 q2⟩
      · exact h1.elim
    · exact h1.elim
  · exact h1.elim
end
end Z
end
end
section
set_option Elab.async false
set_option linter.all false
set_option maxRecDepth 100000
set_option maxHeartbeats 1000000
/-! ZW: a lambda handed to a def that calls it. -/
noncomputable section
namespace Z
open PySem PySem.Spec PyProof.Rows L2

section
variable {T : Tb} {K : PySem.W.Frag} {R : Pl} {F H H1 : Hp} {S : Sto} {l : Loc} {σ : L2.St}
theorem Liv.of_eq {a : Addr} {k : Kd} {us : List V} (e : H1 a = H a) (h : Liv T K H a k us) : Liv T K H1 a k us := by
  cases k with
  | tup => exact h
  | scr => exact h
  | lst => exact e.trans h
  | dct t ks => cases t <;> exact ⟨h.1, h.2.imp fun _ z => ⟨z.1, e.trans z.2⟩⟩
  | ins c fs => exact ⟨h.1, h.2.imp fun _ z => e.trans z⟩
  | exn c fs => exact h
  | clo a0 c0 q0 us0 => exact h
/-- all but the tables stays -/
theorem Rep.tables (r : Rep T K R F S H) (e : LamX.ExtN H H1) (t : LamX.Tabs (T.tabs K) H1) : Rep T K R F S H1 where
  ex := fun a o h => by
    have n := r.ntb a
    rcases r.ex a o h with q | ⟨hd, ob, q⟩
    · exact .inl (e a o q fun ps z => n ps (by rw [h, z]))
    · exact .inr ⟨hd, ob, e a _ q fun ps z => nomatch z⟩
  len := r.len
  nd := r.nd
  there := fun a ha => by
    obtain ⟨h1, h2⟩ := r.there a ha
    cases q : H a with
    | none => exact absurd q h1
    | some o =>
      rw [e a o q fun ps z => h2 ps (by rw [q, z])]
      exact ⟨fun z => (nomatch z), fun ps z => h2 ps (by rw [q, z])⟩
  hidt := r.hidt
  ntb := r.ntb
  tabs := t
  hidnd := r.hidnd
  hid := fun p hp => by
    obtain ⟨h1, h2, h3⟩ := r.hid p hp
    exact ⟨e _ _ h1 (fun ps z => by have q := r.hidt p hp; rw [z] at q; cases q), h2, h3⟩
  live := fun n a k xs h1 h2 => by
    obtain ⟨h3, us, h4, h5⟩ := r.live n a k xs h1 h2
    obtain ⟨u, q1, q2⟩ := h4.plain
    exact ⟨h3, us, h4.of_eq ((e a u q1 (fun ps z => by rw [z] at q2; cases q2)).trans q1.symm), h5⟩
/-- a code object is known from now on -/
theorem Rep.coded (r : Rep T K R F S H) {c : Addr} {q : Str} (hc : H c = some (LamX.CodeO c q)) : ∃ F', Ex F F' ∧ F' c = some (LamX.CodeO c q) ∧ Rep T K R F' S H := by
  cases e : F c with
  | some o =>
    rcases r.ex c o e with z | ⟨_, ob, z⟩
    · rw [hc] at z
      cases z
      exact ⟨F, Ex.refl F, e, r⟩
    · rw [hc] at z
      unfold LamX.CodeO at z
      cases z
  | none =>
    have nl : ∀ k us, ¬ Liv T K H c k us := fun k us h => by
      obtain ⟨u, h1, h2⟩ := h.plain
      rw [hc] at h1
      rw [← Option.some.inj h1] at h2
      unfold LamX.CodeO at h2
      cases h2
    obtain ⟨ex, r2⟩ := r.more (fun ps z => by unfold LamX.CodeO at z; cases z) hc (.inl e) (.inr nl) fun p hp z => by
      have h1 := (r.hid p hp).1
      rw [z, hc] at h1
      have h2 := r.hidt p hp
      rw [← Option.some.inj h1] at h2
      unfold LamX.CodeO at h2
      cases h2
    exact ⟨_, ex, upd_same, r2⟩
/-- the names' values as one list -/
theorem RelE.pack : ∀ {l : Loc} {σ : L2.St}, RelE T K R F l σ → ∃ us, RelL T K R F (l.filterMap id) us ∧ ∀ R' F', RelL T K R' F' (l.filterMap id) us → RelE T K R' F' l σ
  | [], σ, h => ⟨[], .nil, fun _ _ _ => ⟨h.len, fun i v q => by simp at q⟩⟩
  | none :: l, σ, h => by
    cases σ with
    | nil => have := h.len; cases this
    | cons s σ =>
      have h2 : RelE T K R F l σ := ⟨by simpa using h.len, fun i v q => by have := h.at_ (i + 1) v (by simpa using q); simpa using this⟩
      obtain ⟨us, a, b⟩ := RelE.pack h2
      refine ⟨us, a, fun R' F' q => ⟨by simpa using (b R' F' q).len, fun i v e => ?_⟩⟩
      cases i with
      | zero => simp at e
      | succ i => simpa using (b R' F' q).at_ i v (by simpa using e)
  | some x :: l, σ, h => by
    cases σ with
    | nil => have := h.len; cases this
    | cons s σ =>
      have h2 : RelE T K R F l σ := ⟨by simpa using h.len, fun i v q => by have := h.at_ (i + 1) v (by simpa using q); simpa using this⟩
      obtain ⟨us, a, b⟩ := RelE.pack h2
      obtain ⟨u, e1, e2⟩ := h.at_ 0 x rfl
      refine ⟨u :: us, .cons e2 a, fun R' F' q => ?_⟩
      have q : RelL T K R' F' (x :: l.filterMap id) (u :: us) := q
      rw [RelL] at q
      obtain ⟨u', r', e3, q1, q2⟩ := q
      cases e3
      refine ⟨by simpa using (b R' F' q2).len, fun i v e => ?_⟩
      cases i with
      | zero =>
        simp at e e1
        subst e e1
        exact ⟨u, rfl, q1⟩
      | succ i => simpa using (b R' F' q2).at_ i v (by simpa using e)
end
/-- the thing behind slot i is called: it is x0, and that comes to tl -/
def dCallT (x0 : PV) (i : Nat) (tl : Sto → Out PV) : DE := fun l S => if l[i]? = some (some x0) then tl S else .bad
/-- D is handed a lambda of the body db: it makes nothing of which thing the lambda is -/
def dLam (D : PV → (Sto → Out PV) → Sto → Out PV) (db : DE) : DE := fun l S => @dite _ (∃ o, ∀ x0, D x0 (db l) S = o) (Classical.propDecidable _) (fun h => Classical.choose h) fun _ => .bad
theorem dLam_eq {D : PV → (Sto → Out PV) → Sto → Out PV} {db : DE} {l : Loc} {S : Sto} {o : Out PV} (h : ∀ x0, D x0 (db l) S = o) : dLam D db l S = o := by
  unfold dLam
  rw [dif_pos ⟨o, h⟩]
  have q : ∃ o, ∀ x0, D x0 (db l) S = o := ⟨o, h⟩
  have := Classical.choose_spec q .non
  exact this.symm.trans (h .non)
theorem dLam_of {D : PV → (Sto → Out PV) → Sto → Out PV} {db : DE} {l : Loc} {S : Sto} : dLam D db l S = .bad ∨ ∀ x0, D x0 (db l) S = dLam D db l S := by
  by_cases q : ∃ o, ∀ x0, D x0 (db l) S = o
  · refine .inr fun x0 => ?_
    unfold dLam
    rw [dif_pos q]
    exact Classical.choose_spec q x0
  · refine .inl ?_
    unfold dLam
    rw [dif_neg q]
/-- a's call in the def that got it -/
def CallT (T : Tb) (Y : Cx) (a : Str) (x0 : PV) (tl : Sto → Out PV) (j : Nat) : Prop :=
  ∀ (E1 : XS) (pn : List (Addr × Obj)) (xe : Value → Shared → Prop) (p1 p2 : Pos), Cg (Y.tr pn xe) E1 j → JE T (Y.tr pn xe) E1 (.Call (.Name a p1) [] [] p2) (dCallT x0 0 tl)
/-- the def x, handed one thing, which it calls -/
structure LamD (T : Tb) (P : Program) (w : World) (K : PySem.W.Frag) (mg : Str → Option Value) (base : Heap) (x : Str) (n : Nat) (b : PV → (Sto → Out PV) → DS) : Prop where
  ex : ∃ (g : Addr) (fd : FuncData) (a : Str) (N : List Str) (body : List Stmt) (sc : Scope) (params : Arguments), mg x = some (.ref g) ∧ FunD K x x params body sc [] [] g fd ∧ Binds K fd [a] [] ∧ FnScope N [a] sc ∧ N.length = n ∧ N[0]? = some a ∧ Vis sc a ∧
    (a == ("__debug__" : Str)) = false ∧ (a == ("__classdict__" : Str)) = false ∧
    ∀ (x0 : PV) (tl : Sto → Out PV) (j : Nat) (cdv : Value) (A : Around) (outer : List Env) (s : Shared) (H : Hp) (E : XK), Cg (cxOf (L2.CX P w) P w K mg base N x sc g cdv A outer s H E) (fun _ => E) j →
      CallT T (cxOf (L2.CX P w) P w K mg base N x sc g cdv A outer s H E) a x0 tl j → JB T (cxOf (L2.CX P w) P w K mg base N x sc g cdv A outer s H E) (fun _ => E) body (b x0 tl)
/-- where a lambda stands: its def's code at c, the table at P -/
structure LamAt (T : Tb) (X : Cx) : Prop where
  ex : ∃ c P, LamX.TabB X.base X.mg c P ∧ X.env.code = .ref c ∧ (P, X.env.qual ++ "<lambda>") ∈ T.tabs X.K ∧ ∀ p ∈ T.tabs X.K, p.1 = P → p.2 = X.env.qual ++ "<lambda>"
section
variable {T : Tb} {X : Cx} {E : XS} {x : Str} {n k kb : Nat} {b : PV → (Sto → Out PV) → DS} {db : DE} {body : Expr} {params : Arguments} {scope : Scope} {p lpos pos : Pos}
theorem lam_cg {A : Around} {outer : List Env} {s : Shared} {H : Hp} {E1 : XK} {f c' : Addr} (nd : X.N.Nodup) (rm : Room kb (A.deeper (LamX.lamEnv X scope s.heap.objs.size f c'))) (gd : A.guards = some []) : Cg (LamX.lamCx X A outer s H E1 scope f c') (fun _ => E1) kb :=
  ⟨rfl, nd, rm, gd, takes_of rfl rfl rfl rfl, passes_of rfl⟩
theorem je_lam (cg : Cg X E k) (D : LamD T X.prog X.w X.K X.mg X.base x n b) (L : LamX.LamS X.env.scope scope) (at_ : LamAt T X)
    (hb : ∀ (A : Around) (outer : List Env) (s : Shared) (H : Hp) (E1 : XK) (f c' : Addr), Cg (LamX.lamCx X A outer s H E1 scope f c') (fun _ => E1) kb → JE T (LamX.lamCx X A outer s H E1 scope f c') (fun _ => E1) body db)
    (hk : kb + 2 ≤ k := by decide) (hg : Gl X x := by rfl) (hdef : defaultsOf params X.env = ([], []) := by rfl)
    (hbind : ∀ (q : Str) (cl : List (Str × Addr)) (pm cv ctv : Value), bindArgs (PySem.W.kla_fn "<lambda>" q params body scope cl pm cv ctv) ⟨[], []⟩ = pure [] := by intros; rfl) (hdb : (x == ("__debug__" : Str)) = false := by decide) :
    JE T X E (.Call (.Name x p) [.Lambda params body scope lpos] [] pos) (dLam (fun x0 tl S => dDef 1 n (b x0 tl) [x0] S) db) := by
  obtain ⟨g, fd, a, N, gb, sc, gp, hm, G, bi, Sg, hn, hN, va, d1, d2, gbody⟩ := D.ex
  obtain ⟨c, P, TB, hcode, hmem, huniq⟩ := at_.ex
  obtain ⟨oc, od, dV, kV, doc, pm, an, cdv, ct, osl, rfl, lk, hcd, _, _⟩ := G.ex
  have rm := cg.room.mono hk
  refine ⟨fun pins s σ H Q I ⟨R, F, l, S, r, re, h⟩ => ?_⟩
  refine wpAny_Call_Name_kw (ld_glob I hg hm (PySem.W.callWith_K (h₀ := X.base) I.ok.mod.kin G.kp ?_ (by rfl) (by rfl)) hdb)
  show wpAny _ _ (spliced ((false, eval (.Lambda params body scope lpos) X.env) :: backTo pos (starEach [] X.env))) _ _ s
  refine Calls.spliced_cons (LamX.lam_make2 I TB hcode hmem huniq r.tabs hdef (L.has I.ok) fun f c' pmv ctv H1 s1 I1 eN T1 hf hfn hfr hco => Calls.spliced_nil ⟨I1.kIn, ?_⟩)
  -- what is known when the def is entered
  obtain ⟨F1, ex1, hF1, r1⟩ := (r.tables eN T1).coded hco
  have re1 := re.mono (Pl.refl R) ex1
  obtain ⟨us, pk, unpk⟩ := re1.pack
  let x0 : PV := .nd (.clo f c' (X.env.qual ++ "<lambda>") us) (l.filterMap id)
  have rx0 : Rel T X.K R F1 x0 (.ref f) := by
    show Rel T X.K R F1 (.nd (.clo f c' (X.env.qual ++ "<lambda>") us) (l.filterMap id)) (.ref f)
    rw [Rel]
    exact ⟨f, us, rfl, ⟨rfl, rfl, hF1⟩, pk⟩
  have h0 : OkV T X.K R F (dDef 1 n (b x0 (db l)) [x0] S) Q (E σ) := by
    rcases dLam_of (D := fun x0 tl S => dDef 1 n (b x0 tl) [x0] S) (db := db) (l := l) (S := S) with z | z
    · rw [z] at h; exact h.elim
    · have zz : dDef 1 n (b x0 (db l)) [x0] S = dLam (fun x0 tl S => dDef 1 n (b x0 tl) [x0] S) db l S := z x0
      rw [zz]; exact h
  have prom : spOf T X.K [a].length (dDef [a].length N.length (b x0 (db l))) [.ref f] H1 Q (E σ) :=
    ⟨rfl, R, F1, S, [x0], r1, .cons rx0 .nil, by rw [hn]; exact OkV.mono (Pl.refl R) ex1 h0⟩
  have ran : codeAny (model X.prog X.w) X.A (.call (.ref g) ⟨[.ref f], []⟩) (CR (L2.CX X.prog X.w) X.stack X.prog X.w H1 s1 Q (E σ)) s1 := by
    refine LamX.run_ofS (k := kb + 1) (N := N) (ps := [a]) (us := [.ref f]) (vs := [.ref f]) lk hcd Sg rm I1.env0 (bi s1 [.ref f] I1.kIn rfl) (.cons rfl .nil) rfl fun rmg => ⟨_, ?_, def_ok prom⟩
    have cgY : Cg (cxOf (L2.CX X.prog X.w) X.prog X.w X.K X.mg X.base N x sc g cdv X.A X.stack s1 H1 (E σ)) (fun _ => E σ) (kb + 1) := ⟨rfl, Sg.nd, rmg, cg.gd, takes_of rfl rfl rfl rfl, passes_of rfl⟩
    refine gbody x0 (db l) (kb + 1) cdv X.A X.stack s1 H1 (E σ) cgY ?_
    -- the lambda's own call
    intro E1 pn xe p1 p2 cgZ
    refine ⟨fun pinsZ sZ τ M QZ IZ ⟨R2, F2, l2, S2, r2, re2, hz⟩ => ?_⟩
    by_cases hl : l2[0]? = some (some x0)
    · have hz2 : OkV T X.K R2 F2 (db l S2) QZ (E1 τ) := by
        have e : dCallT x0 0 (db l) l2 S2 = db l S2 := by unfold dCallT; exact if_pos hl
        rw [e] at hz; exact hz
      obtain ⟨u, hu, ru⟩ := re2.at_ 0 x0 hl
      rw [Rel] at ru
      obtain ⟨f', us', rfl, ⟨ef, eu, hc2⟩, pk2⟩ := ru
      subst ef eu
      have reB : RelE T X.K R2 F2 l σ := unpk R2 F2 pk2
      refine wpAny_Call_Name_kw (thn ((pe_var (pos := p1) (i := 0) hN va d1 d2).run pinsZ sZ τ M (fun v M' => v = .ref f' ∧ M' = M) IZ ⟨.ref f', hu, rfl, rfl⟩) fun uv s2 ⟨v, M2, I2, rv, ev, eM⟩ => ?_)
      subst ev eM
      obtain rfl : uv = Value.ref f' := rv
      have there : s2.heap.get? f' = some (PySem.W.kla_obj "<lambda>" (X.env.qual ++ "<lambda>") params body scope (cloFrom X.env.cells scope.names []) pmv c' ctv) := I2.base.keep f' _ hf hfn hfr (fun z => nomatch (show f' ∈ ([] : List Addr) from z))
      refine PySem.W.callWith_F0 ⟨_, _, _, _, there⟩ ?_
      have unb : Un (frs X.stack) [] H1 M2 s1.heap s2.heap := I2.base
      have hcM : M2 c' = some (LamX.CodeO c' (X.env.qual ++ "<lambda>")) := r2.ex.at_ hc2
      have told : ObjOk X.prog X.w M2 s2.heap c' (.ext fun h => ∃ (oc : Obj) (vs : Array Value) (t : Tok), h.get? c' = some oc ∧ oc.data = .fields vs ∧ vs[1]? = some (.str (X.env.qual ++ "<lambda>") t)) := I2.hok c' _ hcM
      obtain ⟨⟨ocd, vsc, tc, q1, q2, q3⟩, _, _⟩ := told
      have called : codeAny (model X.prog X.w) (X.A.deeper (envOfC x sc s1.heap.objs.size g cdv)) (.call (.ref f') ⟨[], []⟩)
          (CR (L2.CX X.prog X.w) (envOfC x sc s1.heap.objs.size g cdv :: X.stack) X.prog X.w M2 s2 QZ (E1 τ)) s2 := by
        have rmZ : Room (kb + 1) (X.A.deeper (envOfC x sc s1.heap.objs.size g cdv)) := cgZ.room
        refine PySem.W.kla_callFunE rmZ.depth there rfl L.co L.gen rfl ⟨c', ocd, vsc, tc, rfl, q1, q2, q3⟩ ?_
        rw [hbind]
        refine wpAny_pure (wpAny_newFunctionEnv (fun y hy => (L.own y hy).2) (fun y hy => absurd hy (by simp)) (fun h₁ hns hsb => ⟨I2.nolimit.fresh _ hsb, ?_⟩) L.kind)
        show codeAny _ _ (.expr body (LamX.lamEnv X scope s2.heap.objs.size f' c')) _ _
        have kp : ∀ b o, s2.heap.get? b = some o → h₁.get? b = some o := fun b o e => hsb.extBut b o (Nat.ne_of_lt (Heap.lt_size e)) (Heap.get?_push_of_some _ e)
        have J : Inv (LamX.lamCx X (X.A.deeper (envOfC x sc s1.heap.objs.size g cdv)) (envOfC x sc s1.heap.objs.size g cdv :: X.stack) s2 M2 (E1 τ) scope f' c') [] σ M2 { s2 with heap := h₁, toks := s2.toks + ([] : List (Str × Value)).length } :=
          LamX.lam_start2 I1 L I2.env0 rmZ.hd unb hns kp
        have cgB : Cg (LamX.lamCx X (X.A.deeper (envOfC x sc s1.heap.objs.size g cdv)) (envOfC x sc s1.heap.objs.size g cdv :: X.stack) s2 M2 (E1 τ) scope f' c') (fun _ => E1 τ) kb := lam_cg cg.nd (rmZ.deeper _) cg.gd
        refine PySem.W.kla_codeExpr (wpAny_mono ((hb _ _ s2 M2 (E1 τ) f' c' cgB).run [] _ σ M2 QZ J ⟨R2, F2, l, S2, r2, reB, hz2⟩) (fun v s' hq => ?_) fun e s' hq => hq)
        obtain ⟨w', M3, J3, rw3, q⟩ := hq
        exact ⟨w', M3, J3.os, J3.bare, J3.base, J3.hok, rw3, q⟩
      refine wpAny_call (codeAny_mono called fun z s' hq => ?_)
      cases z with
      | error e => exact cgZ.pass pinsZ τ M2 s2 e s' I2 hq
      | ok fl =>
        cases fl with
        | ret u => exact I2.after hq
        | next => exact False.elim hq
        | brk => exact False.elim hq
        | cont => exact False.elim hq
    · have e : dCallT x0 0 (db l) l2 S2 = .bad := by unfold dCallT; exact if_neg hl
      rw [e] at hz; exact hz.elim
  refine wpAny_call (codeAny_mono ran fun z s2 hq => ?_)
  cases z with
  | error e => exact cg.pass pins σ H1 s1 e s2 I1 hq
  | ok fl =>
    cases fl with
    | ret u => exact I1.after hq
    | next => exact False.elim hq
    | brk => exact False.elim hq
    | cont => exact False.elim hq
end
end Z
end
end
section
set_option Elab.async false
set_option linter.all false
set_option maxRecDepth 100000
set_option maxHeartbeats 1000000
/-! ZU: texts: join, index, int and str of them; repr of an empty dict; displays of constants; keywords in any order. -/
noncomputable section
namespace Z
open PySem PySem.Spec PyProof.Rows L2

/-! ### sep.join(xs), text.index(sign) -/
def asSs : List PV → Option (List Str)
  | [] => some []
  | .str a :: r => (asSs r).map (a :: ·)
  | _ => none
theorem asSs_rel {T : Tb} {K : PySem.W.Frag} {R : Pl} {F : Hp} : ∀ {xs : List PV} {us : List V} {zs : List Str}, RelL T K R F xs us → asSs xs = some zs → us = zs.map V.str
  | [], us, zs, h, e => by
    rw [RelL] at h
    cases e
    exact h
  | x :: xs, us, zs, h, e => by
    rw [RelL] at h
    obtain ⟨u, r, rfl, h1, h2⟩ := h
    cases x with
    | str a =>
      rw [asSs, Option.map_eq_some_iff] at e
      obtain ⟨ws, e1, rfl⟩ := e
      rw [rel_str h1, asSs_rel h2 e1]; rfl
    | _ => cases e
/-- a list or a tuple as it stands -/
def seqOf (x : PV) (S : Sto) : Option (List PV) := match view x S with
  | some (.lst, xs) => some xs
  | some (.scr, xs) => some xs
  | some (.tup, xs) => some xs
  | _ => none
theorem seqOf_rel {T : Tb} {K : PySem.W.Frag} {R : Pl} {F H : Hp} {S : Sto} (r : Rep T K R F S H) {x : PV} {u : V} (h : Rel T K R F x u) {ys : List PV} (e : seqOf x S = some ys) : ∃ a us, u = .ref a ∧ (SqL K H a us ∨ SqT K H a us) ∧ RelL T K R F ys us := by
  unfold seqOf at e
  split at e
  · rename_i xs hv
    cases e
    obtain ⟨a, us, h1, h2, h3⟩ := view_rel r h hv
    exact ⟨a, us, h1, .inl ((shp_rd h2).1 (.inl rfl)), h3⟩
  · rename_i xs hv
    cases e
    obtain ⟨a, us, h1, h2, h3⟩ := view_rel r h hv
    exact ⟨a, us, h1, .inl ((shp_rd h2).1 (.inr rfl)), h3⟩
  · rename_i xs hv
    cases e
    obtain ⟨a, us, h1, h2, h3⟩ := view_rel r h hv
    exact ⟨a, us, h1, .inr ((shp_rd h2).2 rfl), h3⟩
  · cases e
def joinP (x : PV) (ys : List PV) (S : Sto) : Out PV := match x, ys with
  | .str a, [y] => (match (seqOf y S).bind asSs with
    | some zs => if (zs.map (·.length)).sum + zs.length * a.length ≤ 16777216 then .ok (.str (Txt.join a zs)) S else .bad
    | none => .bad)
  | _, _ => .bad
section
variable {T : Tb} {X : Cx} {E : XS} {o e : Expr} {dO d : DE} {apos pos : Pos}
theorem mz_join {K : PySem.W.Frag} : MetZ T K joinP (fun x xs H Q => ∃ a p, ∃ ys : List Str, x = .str a ∧ xs = [.ref p] ∧ (SqL K H p (ys.map V.str) ∨ SqT K H p (ys.map V.str)) ∧ (ys.map (·.length)).sum + ys.length * a.length ≤ 16777216 ∧ Q (.str (Txt.join a ys)) H) := by
  intro E R F H S x xs u us Q r rx rxs h
  unfold joinP at h
  split at h
  · rename_i a y
    obtain ⟨w, rfl, ry⟩ := rel1 rxs
    split at h
    · rename_i zs hz
      rw [Option.bind_eq_some_iff] at hz
      obtain ⟨ys, h1, h2⟩ := hz
      split at h
      · rename_i hl
        obtain ⟨p, ws, rfl, hs, hr⟩ := seqOf_rel r ry h1
        have ew := asSs_rel hr h2
        subst ew
        exact ⟨a, p, zs, rel_str rx, rfl, hs, hl, PostV.here r (by rw [Rel]) h⟩
      · exact h.elim
    · exact h.elim
  · exact h.elim
theorem je_join (ho : JE T X E o dO) (he : JE T X E e d) (hbase : attributeBase o "join" X.env (eval o X.env) = eval o X.env := by rfl)
    (hfew : ((backTo pos (starEach [e] X.env)).all (fun x => !x.1) && (backToKw pos (keywordEach [] X.env)).all (fun x => x.1.isSome) && decide (([e] : List Expr).length + ([] : List Keyword).length + (if ([] : List Keyword).isEmpty then 0 else 1) < 30)) = true := by rfl)
    (hline : (apos.endLine == pos.line) = true := by rfl) (hs : starEach [e] X.env = (false, eval e X.env) :: starEach [] X.env := by rfl) (hpl : (backTo pos (starEach [] X.env)).any (·.1) = false := by rfl) :
    JE T X E (.Call (.Attribute o "join" apos) [e] [] pos) (dMet "str" joinP dO (dCons d dNil)) :=
  je_met PySem.F.plainAttrs_str PySem.F.slot_str_join PySem.F.type_str_join mt_join mz_join ho (ja_cons he ja_nil hs) hbase hfew hline hs hpl
end
/-! ### int(x), str(x), repr(x) -/
def intX (xs : List PV) (S : Sto) : Out PV := match xs with
  | [.str a] => (match PySem.intText? a with
    | some n => if a.length ≤ 640 then .ok (.int n) S else .bad
    | none => .bad)
  | xs => intP xs S
abbrev rIntX : List V → Hp → VK → Prop := fun xs H Q => ((∃ i, xs = [.int i] ∧ Q (.int i) H) ∨ ∃ k, xs = [.bl k] ∧ Q (.int (if k then 1 else 0)) H) ∨ (∃ a n, xs = [.str a] ∧ PySem.intText? a = some n ∧ a.length ≤ 640 ∧ Q (.int n) H)
theorem cr_int {X : Cx} : CallR X (.type "int") rIntX := CallR.or call_int1 call_int_str
theorem cz_intX {T : Tb} {K : PySem.W.Frag} : CalZ T K intX rIntX := by
  intro E R F H S xs us Q r rx h
  unfold intX at h
  split at h
  · rename_i a
    obtain ⟨u, rfl, r1⟩ := rel1 rx
    rw [rel_str r1]
    split at h
    · rename_i n hn
      split at h
      · rename_i hl
        exact .inr ⟨a, n, rfl, hn, hl, PostV.here r (by rw [Rel]) h⟩
      · exact h.elim
    · exact h.elim
  · exact .inl (cz_int E R F H S _ us Q r rx h)
def strX (xs : List PV) (S : Sto) : Out PV := match xs with
  | [.str a] => .ok (.str a) S
  | [.int i] => if i.natAbs.log2 < 1920 then .ok (.str (toString i)) S else .bad
  | _ => .bad
abbrev rStrX : List V → Hp → VK → Prop := fun xs H Q => (∃ i, xs = [.int i] ∧ i.natAbs.log2 < 1920 ∧ Q (.str (toString i)) H) ∨ (∃ a, xs = [.str a] ∧ Q (.str a) H)
theorem cr_str {X : Cx} : CallR X (.type "str") rStrX := CallR.or call_str_int SkE.call_str_str
theorem cz_str {T : Tb} {K : PySem.W.Frag} : CalZ T K strX rStrX := by
  intro E R F H S xs us Q r rx h
  unfold strX at h
  split at h
  · rename_i a
    obtain ⟨u, rfl, r1⟩ := rel1 rx
    rw [rel_str r1]
    exact .inr ⟨a, rfl, PostV.here r (by rw [Rel]) h⟩
  · rename_i i
    obtain ⟨u, rfl, r1⟩ := rel1 rx
    rw [rel_int r1]
    split at h
    · rename_i hl
      exact .inl ⟨i, rfl, hl, PostV.here r (by rw [Rel]) h⟩
    · exact h.elim
  · exact h.elim

/-! ### {k: v, ..} of constants -/
def dDispC (ks : List Key) (vs : List PV) : DE := fun _ S => .ok (.nd (.dct false (ks.map PK.k)) vs) S
section
variable {T : Tb} {X : Cx} {E : XS} {pos : Pos}
end

/-! ### f(b=.., a=..): the keywords in any order -/
/-- the arguments, put in the parameters' order -/
def permL {α : Type} (π : List Nat) (xs : List α) : List α := π.filterMap fun i => xs[i]?
def dFnP (π : List Nat) (d : DF) (ar : DA) : DE := fun l S => (ar l S).bind fun xs S1 => if xs.length = π.length then d (permL π xs) S1 else .bad
end Z
end
end
section
set_option Elab.async false
set_option linter.all false
set_option maxRecDepth 100000
set_option maxHeartbeats 1000000
/-! ZR: where lambdas stand. -/
noncomputable section
namespace Z
open PySem PySem.Spec PyProof.Rows L2

/-- what the head tells of the tables, but for their contents -/
structure TabsK (tb : List (Str × Str)) (K : PySem.W.Frag) : Prop where
  each : ∀ p ∈ tb, ∃ c P, PySem.W.tabIn K p.1 = some (c, P) ∧ PySem.W.codeHdIn K c P = true
  one : ((tabsOf tb K).map (·.1)).Nodup
theorem TabsGood.k {tb : List (Str × Str)} {K : PySem.W.Frag} {h : Heap} (t : TabsGood tb K h) : TabsK tb K := ⟨fun p hp => let ⟨c, P, h1, h2, _⟩ := t.each p hp; ⟨c, P, h1, h2⟩, t.one⟩
theorem TabsGood.law {tb : List (Str × Str)} {K : PySem.W.Frag} {h : Heap} (t : TabsGood tb K h) (inK : K.In h) : ∀ p ∈ tabsOf tb K, h.get? p.1 = some tabO ∧ K.lookup p.1 = none ∧ ∃ c, PySem.W.CodeHd h c p.1 := fun p hp => by
  obtain ⟨x, _, c, _, _, h2, h3, h4⟩ := t.at_ hp
  exact ⟨h4, h3, c, PySem.W.codeHd_of_K inK h2⟩
theorem tabIn_code {K : PySem.W.Frag} {x : Str} {c P : Addr} (h : PySem.W.tabIn K x = some (c, P)) : codeOf K (He.ga K x) = .ref c := by
  unfold PySem.W.tabIn at h
  split at h
  · rename_i f hf
    have eg : He.ga K x = f := by unfold He.ga; rw [hf]
    unfold codeOf
    rw [eg]
    split at h
    · rename_i oc od fd sl hl
      rw [hl]
      split at h
      · rename_i c2 hc
        split at h
        · split at h
          · cases h
            exact hc
          · cases h
        · cases h
      · cases h
    · cases h
  · cases h
theorem nodup_fst {α β : Type} : ∀ {l : List (α × β)} {a : α} {b b' : β}, (l.map (·.1)).Nodup → (a, b) ∈ l → (a, b') ∈ l → b = b'
  | [], _, _, _, _, h, _ => nomatch h
  | (x, y) :: l, a, b, b', hn, h, h' => by
    rw [List.map_cons, List.nodup_cons] at hn
    rcases List.mem_cons.mp h with e | h <;> rcases List.mem_cons.mp h' with e' | h'
    · exact (Prod.mk.inj e).2.trans (Prod.mk.inj e').2.symm
    · exact absurd (List.mem_map.mpr ⟨_, h', (Prod.mk.inj e).1⟩) hn.1
    · exact absurd (List.mem_map.mpr ⟨_, h, (Prod.mk.inj e').1⟩) hn.1
    · exact nodup_fst hn.2 h h'
theorem lamAt_of {T : Tb} {tb : List (Str × Str)} {X : Cx} {x : Str} {f : Addr} (hT : T.tabs = tabsOf tb) (t : TabsK tb X.K) (inB : X.K.In X.base) (bt : BaseT (T.tabs X.K) X.mg X.base) (hx : (x, X.env.qual ++ "<lambda>") ∈ tb) (hf : f = He.ga X.K x) (hc : codeOf X.K f = X.env.code) : LamAt T X := by
  obtain ⟨c, P, h1, h2⟩ := t.each _ hx
  have hm : (P, X.env.qual ++ "<lambda>") ∈ tabsOf tb X.K := List.mem_filterMap.mpr ⟨_, hx, by rw [h1]; rfl⟩
  have hb := bt _ (by rw [hT]; exact hm)
  refine ⟨c, P, ⟨PySem.W.codeHd_of_K inB h2, hb.1, hb.2⟩, ?_, by rw [hT]; exact hm, fun p hp e => ?_⟩
  · rw [← hc, hf]; exact tabIn_code h1
  · rw [hT] at hp
    obtain ⟨p1, p2⟩ := p
    have e : p1 = P := e
    subst e
    exact nodup_fst t.one hp hm

/-! ### tables of names -/
theorem tbB_ok {cns fds : List Str} {okl oxl : List (Nat × Nat)} {tb : List (Str × Str)} {K : PySem.W.Frag} (h : tbB (TbX cns fds okl oxl tb) fds okl oxl K = true) : TbOk (TbX cns fds okl oxl tb) K := by
  obtain ⟨h1, h⟩ := Bool.and_eq_true_iff.mp h
  obtain ⟨h2, h3⟩ := Bool.and_eq_true_iff.mp h
  have nd := of_decide_eq_true h1
  refine ⟨fun i j hi hj e => ?_, fun c f q => ?_, fun c f q => ?_⟩
  · have hi : i < fds.length := hi
    have hj : j < fds.length := hj
    have e : fds.getD i "" = fds.getD j "" := e
    rw [List.getD_eq_getElem?_getD, List.getD_eq_getElem?_getD, List.getElem?_eq_getElem hi, List.getElem?_eq_getElem hj] at e
    have e : fds[i] = fds[j] := e
    exact (List.getElem?_inj hi nd).mp (by rw [List.getElem?_eq_getElem hi, List.getElem?_eq_getElem hj, e])
  · have q : (c, f) ∈ okl := of_decide_eq_true q
    obtain ⟨a, b⟩ := Bool.and_eq_true_iff.mp (List.all_eq_true.mp h2 _ q)
    obtain ⟨b, c⟩ := Bool.and_eq_true_iff.mp b
    exact ⟨of_decide_eq_true a, He.cls_ok b, He.noat_ok c⟩
  · have q : (c, f) ∈ oxl := of_decide_eq_true q
    obtain ⟨a, b⟩ := Bool.and_eq_true_iff.mp (List.all_eq_true.mp h3 _ q)
    obtain ⟨b, c⟩ := Bool.and_eq_true_iff.mp b
    exact ⟨of_decide_eq_true a, xfB_ok b, of_decide_eq_true c⟩
theorem exm_of {T : Tb} {C : Nat} {l : List (Nat × Bool)} {K : PySem.W.Frag} (h : exmB T C l K = true) : ∀ c b, l.lookup c = some b → PySem.W.exmOne K (.ref (T.ca K c)) (.ref (T.ca K C)) = some b := fun c b e =>
  of_decide_eq_true (List.all_eq_true.mp h (c, b) (mem_of_lookup e))
end Z
end
end
section
set_option Elab.async false
set_option linter.all false
set_option maxRecDepth 100000
set_option maxHeartbeats 1000000
/-! ZN: to reckon with errors, texts. -/
noncomputable section
namespace Z
open PySem PySem.Spec PyProof.Rows L2

section
variable {l : Loc} {S S1 : Sto} {ar : DA} {a : DE} {b su s : DS} {e : XV}
@[simp] theorem dRaise_ap (c : Nat) (fs : List Nat) : dRaise c fs ar l S = (ar l S).st l fun xs S1 => if xs.length = fs.length then .err ⟨c, fs.reverse, xs.reverse⟩ l S1 else .bad := rfl
@[simp] theorem dFnP_ap (π : List Nat) (d : DF) : dFnP π d ar l S = (ar l S).bind fun xs S1 => if xs.length = π.length then d (permL π xs) S1 else .bad := rfl
@[simp] theorem dDispC_ap (ks : List Key) (vs : List PV) : dDispC ks vs l S = .ok (.nd (.dct false (ks.map PK.k)) vs) S := rfl
@[simp] theorem dDct0_ap : dDct0 l S = .ok (.nd (.dct false []) []) S := rfl
@[simp] theorem dAttrE_ap (T : Tb) (f : Nat) : dAttrE T f a l S = (a l S).bind fun x S1 => getE T f x S1 := rfl
theorem callT_eq {x0 : PV} {i : Nat} {tl : Sto → Out PV} (h : l[i]? = some (some x0)) : dCallT x0 i tl l S = tl S := by unfold dCallT; exact if_pos h
/-- a def that lets an error out, no new place made -/
theorem dDef_err {n m : Nat} {xs : List PV} {l1 : Loc} (h : xs.length = n) (hb : s (xs.map some ++ List.replicate (m - n) none) S = .err e l1 S1) (hl : S1.length ≤ S.length) : dDef n m s xs S = .err e S1 := by
  unfold dDef
  rw [dDef0_ap S s h, hb]
  unfold shut
  simp only
  rw [if_pos hl]
end

/-! ### words of digits -/
def sg (d : Nat) : PV := .str ⟨#[48 + d]⟩

/-! ### the places -/
theorem fitsS_pre {S S' : Sto} (h : S <+: S') : fitsS S S' = true := by
  obtain ⟨t, rfl⟩ := h
  exact fitsS_app S t
/-! ### the laws' pen -/
def penB : DS := dRet (dLstM (dCons (dApp listP (dCons (dSli (dVar 0) (dNone) (dSome (dC (.int 63)))) (dNil))) (dCons (dC (.int 0)) (dCons (dC (.int 0)) (dNil)))))
theorem penB_ok {ns : List Int} (h : ns.length ≤ 63) : dDef0 1 1 penB [.nd .scr (ns.map .int)] [] = .ok (.ref 0) [pn ns 0 0] := by
  refine dDef0_ret [] penB rfl ?_
  show penB [some (.nd .scr (ns.map .int))] [] = _
  have e : cutP (ns.map PV.int) none (some (63 : Int)) = ns.map .int := by
    rw [show (63 : Int) = ((63 : Nat) : Int) from rfl, cutP_to, List.take_of_length_le (by rw [List.length_map]; omega)]
  have hs : sliZ (.nd .scr (ns.map .int)) none (some 63) [] = .ok (.nd .lst (ns.map .int)) [] := by
    show Out.ok (PV.nd .lst (cutP (ns.map PV.int) none (some 63))) [] = _
    rw [e]
  unfold penB
  show _ = OutS.ret (PV.ref 0) [some (.lst, [.nd .lst (ns.map .int), .int 0, .int 0])]
  generalize ns.map PV.int = Z at hs ⊢
  have hm : mkRf Kd.lst [PV.nd Kd.lst Z, PV.int 0, PV.int 0] [] = .ok (.ref 0) [some (.lst, [PV.nd Kd.lst Z, PV.int 0, PV.int 0])] := mkRf_ok [] (by simp)
  simp [hs, hm]
end Z
end
end
section
set_option Elab.async false
set_option linter.all false
set_option maxRecDepth 100000
set_option maxHeartbeats 1000000
/-! ZO: own __iter__ that gives iter(self.f), f a tuple. -/
noncomputable section
namespace Z
open PySem PySem.Spec PyProof.Rows L2


section
variable {P : Program} {w : World} {K : PySem.W.Frag} {mg : Str → Option Value} {base : Heap} {x qual : Str} {params : Arguments} {scope : Scope} {f C : Addr} {fd : FuncData} {fld : Str} {p1 p2 p3 p4 p5 : Pos} {doc : List Stmt} {N : List Str}
end

/-! ### what is walked: an instance whose __iter__ gives iter(self.fld) -/


/-! ### .. as a denotation -/

/-! ### list(o) -/
section
variable {X : Cx} {pins : List (Addr × Obj)} {σ : L2.St} {A1 : Around} {q it t : Addr}
end

section
variable {P : Program} {w : World} {K : PySem.W.Frag} {mg : Str → Option Value} {base : Heap} {x qual : Str} {params : Arguments} {scope : Scope} {f C : Addr} {fd : FuncData} {fld : Str} {p1 p2 p3 p4 p5 : Pos} {doc : List Stmt} {N : List Str}
end
section
variable {X : Cx} {pins : List (Addr × Obj)} {σ : L2.St} {A1 : Around} {H : Hp} {s : Shared}
end

section
variable {X : Cx} {pins : List (Addr × Obj)} {σ : L2.St} {A1 : Around} {H : Hp} {s : Shared}
end

section
variable {T : Tb} {X : Cx} {E : XS} {c fld j k : Nat}
end
section
variable {T : Tb} {X : Cx} {E : XK} {e : Expr} {es : List Expr} {ar : DA} {p pos : Pos} {f : List PV → Sto → Out PV} {r : List V → Hp → VK → Prop} {x : Str}
end
end Z
end
end
section
set_option Elab.async false
set_option linter.all false
set_option maxRecDepth 100000
set_option maxHeartbeats 1000000
/-! ZP: a def that gets no places: reckoned over an empty store, the places set aside meanwhile. -/
noncomputable section
namespace Z
open PySem PySem.Spec PyProof.Rows L2

mutual
theorem clo_rel {T : Tb} {K : PySem.W.Frag} {R R' : Pl} {F : Hp} : ∀ (x : PV) (u : V), fits 0 x = true → Rel T K R F x u → Rel T K R' F x u
  | .non, u, _, h => by rw [Rel] at h ⊢; exact h
  | .bl b, u, _, h => by rw [Rel] at h ⊢; exact h
  | .int i, u, _, h => by rw [Rel] at h ⊢; exact h
  | .str s, u, _, h => by rw [Rel] at h ⊢; exact h
  | .ty n, u, _, h => by rw [Rel] at h ⊢; exact h
  | .cls c, u, _, h => by rw [Rel] at h ⊢; exact h
  | .ref m, u, f, h => by
    rw [fits] at f
    exact absurd (of_decide_eq_true f) (Nat.not_lt_zero m)
  | .nd k xs, u, f, h => by
    rw [fits] at f
    rw [Rel] at h ⊢
    obtain ⟨a, us, h1, h2, h3⟩ := h
    exact ⟨a, us, h1, h2, cloL_rel xs us f h3⟩
theorem cloL_rel {T : Tb} {K : PySem.W.Frag} {R R' : Pl} {F : Hp} : ∀ (xs : List PV) (us : List V), fitsL 0 xs = true → RelL T K R F xs us → RelL T K R' F xs us
  | [], us, _, h => by rw [RelL] at h ⊢; exact h
  | x :: xs, us, f, h => by
    rw [fitsL, Bool.and_eq_true] at f
    rw [RelL] at h ⊢
    obtain ⟨u, vs, h1, h2, h3⟩ := h
    exact ⟨u, vs, h1, clo_rel x u f.1 h2, cloL_rel xs vs f.2 h3⟩
end
/-- f with things that look at no place: over the empty store -/
def clo (f : List PV → Sto → Out PV) (xs : List PV) (S : Sto) : Out PV := if (fitsL 0 xs && S.all Option.isSome) = true then (match f xs [] with
  | .ok v [] => .ok v S
  | .err e [] => .err e S
  | _ => .bad) else .bad
theorem Liv.cong {T : Tb} {K : PySem.W.Frag} {H H' : Hp} {a : Addr} {k : Kd} {us : List V} (e : H' a = H a) (h : Liv T K H a k us) : Liv T K H' a k us := by
  cases k with
  | tup => exact h.elim
  | scr => exact h.elim
  | lst => exact e.trans h
  | dct t ks => cases t <;> (obtain ⟨q1, kk, q2, q3⟩ := h; exact ⟨q1, kk, q2, e.trans q3⟩)
  | ins c fs => obtain ⟨q1, dx, q2⟩ := h; exact ⟨q1, dx, e.trans q2⟩
  | exn c fs => exact h.elim
  | clo a0 c0 q0 us0 => exact h.elim
theorem Liv.hid {T : Tb} {K : PySem.W.Frag} {H : Hp} {a : Addr} {k : Kd} {us : List V} (h : Liv T K H a k us) : ∃ o, H a = some o ∧ hidO o = true := by
  cases k with
  | tup => exact h.elim
  | scr => exact h.elim
  | lst => exact ⟨_, h, rfl⟩
  | dct t ks => cases t <;> (obtain ⟨q1, kk, q2, q3⟩ := h; exact ⟨_, q3, rfl⟩)
  | ins c fs => obtain ⟨q1, dx, q2⟩ := h; exact ⟨_, q2, rfl⟩
  | exn c fs => exact h.elim
  | clo a0 c0 q0 us0 => exact h.elim
section
variable {T : Tb} {K : PySem.W.Frag} {R : Pl} {F H : Hp} {S : Sto}
theorem all_live (r : Rep T K R F S H) (hS : S.all Option.isSome = true) : ∀ a ∈ R.as, F a = none ∧ ∃ o, H a = some o ∧ hidO o = true := fun a ha => by
  obtain ⟨n, hn, e⟩ := List.getElem_of_mem ha
  have h1 : R.as[n]? = some a := by rw [List.getElem?_eq_getElem hn, e]
  have hn2 : n < S.length := by rw [← r.len]; exact hn
  have h2 := List.all_eq_true.mp hS S[n] (List.getElem_mem hn2)
  obtain ⟨⟨k, xs⟩, h3⟩ := Option.isSome_iff_exists.mp h2
  obtain ⟨h4, us, h5, h6⟩ := r.live n a k xs h1 (by rw [List.getElem?_eq_getElem hn2, h3])
  exact ⟨h4, h5.hid⟩
def Pl.off (R : Pl) (H : Hp) : Pl := ⟨[], (R.as.map fun a => (a, (H a).getD (.lst []))) ++ R.hid⟩
theorem Rep.off (r : Rep T K R F S H) (hS : S.all Option.isSome = true) : Rep T K (R.off H) F [] H where
  ex := r.ex
  len := rfl
  nd := List.nodup_nil
  there := fun a ha => nomatch ha
  hid := fun p hp => by
    rcases List.mem_append.mp hp with q | q
    · obtain ⟨a, ha, rfl⟩ := List.mem_map.mp q
      obtain ⟨h1, o, h2, _⟩ := all_live r hS a ha
      exact ⟨by show H a = some ((H a).getD _); rw [h2]; rfl, (fun z => nomatch z), h1⟩
    · exact ⟨(r.hid p q).1, (fun z => nomatch z), (r.hid p q).2.2⟩
  hidt := fun p hp => by
    rcases List.mem_append.mp hp with q | q
    · obtain ⟨a, ha, rfl⟩ := List.mem_map.mp q
      obtain ⟨h1, o, h2, h3⟩ := all_live r hS a ha
      show hidO ((H a).getD _) = true
      rw [h2]; exact h3
    · exact r.hidt p q
  ntb := r.ntb
  tabs := r.tabs
  hidnd := by
    show (((R.as.map fun a => (a, (H a).getD (.lst []))) ++ R.hid).map Prod.fst).Nodup
    rw [List.map_append, List.map_map]
    have e : (R.as.map (Prod.fst ∘ fun a => (a, (H a).getD (HO.lst [])))) = R.as := by
      rw [show (Prod.fst ∘ fun a => (a, (H a).getD (HO.lst []))) = id from rfl, List.map_id]
    rw [e, List.nodup_append]
    refine ⟨r.nd, r.hidnd, fun a ha b hb z => ?_⟩
    obtain ⟨p, hp, rfl⟩ := List.mem_map.mp hb
    exact (r.hid p hp).2.1 (z ▸ ha)
  live := fun n a k xs h1 h2 => by cases h2
theorem Rep.back (r : Rep T K R F S H) (hS : S.all Option.isSome = true) {R' : Pl} {F' H' : Hp} (p : Pl.le (R.off H) R') (x : Ex F F') (r' : Rep T K R' F' [] H') : Rep T K R F' S H' where
  ex := r'.ex
  len := r.len
  nd := r.nd
  there := fun a ha => by
    obtain ⟨h1, o, h2, h3⟩ := all_live r hS a ha
    have hm : (a, o) ∈ R'.hid := by
      rw [p.2]
      refine List.mem_append_left _ (List.mem_map.mpr ⟨a, ha, ?_⟩)
      rw [h2]; rfl
    have := (r'.hid _ hm).1
    have this : H' a = some o := this
    rw [this]
    exact ⟨(fun z => nomatch z), fun ps z => by cases z; cases h3⟩
  hid := fun q hq => by
    have hm : q ∈ R'.hid := by rw [p.2]; exact List.mem_append_right _ hq
    exact ⟨(r'.hid q hm).1, (r.hid q hq).2.1, (r'.hid q hm).2.2⟩
  hidt := r.hidt
  ntb := r'.ntb
  tabs := r'.tabs
  hidnd := r.hidnd
  live := fun n a k xs h1 h2 => by
    have ha : a ∈ R.as := List.mem_of_getElem? h1
    obtain ⟨_, o, h3, h4⟩ := all_live r hS a ha
    have hm : (a, o) ∈ R'.hid := by
      rw [p.2]
      refine List.mem_append_left _ (List.mem_map.mpr ⟨a, ha, ?_⟩)
      rw [h3]; rfl
    obtain ⟨_, us, h5, h6⟩ := r.live n a k xs h1 h2
    exact ⟨(r'.hid _ hm).2.2, us, h5.cong ((r'.hid _ hm).1.trans h3.symm), h6.mono (Pl.refl R) x⟩
theorem clo_ok {f : List PV → Sto → Out PV} {E : XK} {Q : VK} {xs : List PV} {us : List V} (r : Rep T K R F S H) (rx : RelL T K R F xs us) (h : OkV T K R F (clo f xs S) Q E) :
    ∃ R' S', Rep T K R' F S' H ∧ RelL T K R' F xs us ∧ OkV T K R' F (f xs S') Q E := by
  unfold clo at h
  split at h
  · rename_i hc
    obtain ⟨h1, h2⟩ := Bool.and_eq_true_iff.mp hc
    refine ⟨R.off H, [], r.off h2, cloL_rel xs us h1 rx, ?_⟩
    split at h
    · rename_i v ho
      rw [ho]
      intro R' F' H' u p x r' rv
      have e : R'.as = [] := List.eq_nil_of_length_eq_zero r'.len
      exact h R F' H' u (Pl.refl R) x (r.back h2 p x r') (rv.mono0 (by rw [e]; exact List.nil_prefix) (Ex.refl F'))
    · rename_i e ho
      rw [ho]
      intro R' F' H' cls d p x r' re
      have e' : R'.as = [] := List.eq_nil_of_length_eq_zero r'.len
      refine h R F' H' cls d (Pl.refl R) x (r.back h2 p x r') ⟨re.1, ?_⟩
      rcases re.2 with q | ⟨dd, ws, q1, q2, q3, q4, q5⟩
      · exact .inl q
      · exact .inr ⟨dd, ws, q1, q2, q3, q4, q5.mono0 (by rw [e']; exact List.nil_prefix) (Ex.refl F')⟩
    · exact h.elim
  · exact h.elim
end
section
variable {T : Tb} {P : Program} {w : World} {K : PySem.W.Frag} {mg : Str → Option Value} {base : Heap} {k : Nat} {d : DF} {ps : List Str}
theorem FnG.clo {f : Addr} {fd : FuncData} (G : FnG T P w K mg base k f fd ps d) : FnG T P w K mg base k f fd ps (Z.clo d) :=
  ⟨fun A outer s H args us vs Q E hr hg e0 hb hv ⟨hl, R, F, S, xs, r, rx, h⟩ =>
    let ⟨R', S', r', rx', h'⟩ := clo_ok r rx h
    G.run A outer s H args us vs Q E hr hg e0 hb hv ⟨hl, R', F, S', xs, r', rx', h'⟩⟩
theorem clo_bad {xs : List PV} (h : ∀ S, d xs S = .bad) (S : Sto) : Z.clo d xs S = .bad := by
  unfold Z.clo
  rw [h]
  split <;> rfl
theorem Fn.clo {x : Str} (F : Fn T P w K mg base k x ps d) : Fn T P w K mg base k x ps (Z.clo d) := by
  obtain ⟨f, fd, h1, h2, h3, h4⟩ := F.ex
  exact ⟨⟨f, fd, h1, h2, h3.clo, h4⟩, fun xs S hl => clo_bad (fun S => F.ar xs S hl) S⟩
theorem FnP.clo {f : Addr} (G : FnP T P w K mg base k f d) : FnP T P w K mg base k f (Z.clo d) :=
  fun A outer s H us vs Q E hr hg e0 hv ⟨R, F, S, xs, r, rx, h⟩ =>
    let ⟨R', S', r', rx', h'⟩ := clo_ok r rx h
    G A outer s H us vs Q E hr hg e0 hv ⟨R', F, S', xs, r', rx', h'⟩
theorem FnV.clo {x : Str} (F : FnV T P w K mg base k x d) : FnV T P w K mg base k x (Z.clo d) := by
  obtain ⟨f, h1, h2, h3⟩ := F.ex
  exact ⟨f, h1, h2, h3.clo⟩
theorem StatM.clo {c : Nat} {m : Str} (F : StatM T P w K mg base k c m d) : StatM T P w K mg base k c m (Z.clo d) := by
  obtain ⟨p, g, rest, h1, h2, h3, h4, h5⟩ := F.ex
  exact ⟨p, g, rest, h1, h2, h3, h4, h5.clo⟩
theorem FnM.clo {c : Nat} {m : Str} (F : FnM T P w K mg base k c m ps d) : FnM T P w K mg base k c m ps (Z.clo d) := by
  obtain ⟨f, fd, h1, h2, h3, h4⟩ := F.ex
  exact ⟨⟨f, fd, h1, h2, h3.clo, h4⟩, fun xs S hl => clo_bad (fun S => F.ar xs S hl) S⟩
theorem FnMP.clo {c : Nat} {m : Str} (F : FnMP T P w K mg base k c m d) : FnMP T P w K mg base k c m (Z.clo d) := by
  obtain ⟨f, h1, h2, h3⟩ := F.ex
  exact ⟨f, h1, h2, h3.clo⟩
end
section
variable {T : Tb} {X : Cx} {E : XS} {x : Str} {e : Expr} {es : List Expr} {ar : DA} {d : DF} {p pos kpos : Pos} {c : Nat} {ps : List Str} {j k : Nat} {kws : List Keyword}
theorem newF_hk {Q : VK} {E : XK} {K : PySem.W.Frag} {R : Pl} {Fz H : Hp} {S : Sto} {xs : List PV} {us : List V} (r : Rep T K R Fz S H) (rx : RelL T K R Fz xs us) (h : OkV T K R Fz (clo (newF c d) xs S) Q E) : ∃ R' S', Rep T K R' Fz S' H ∧ RelL T K R' Fz xs us ∧ OkV T K R' Fz (newP c d xs S') Q E :=
  let ⟨R', S', r', rx', h'⟩ := clo_ok r rx h
  ⟨R', S', r', rx', shut_ok r' h'⟩
theorem je_newC (cg : Cg X E k) (F : NewC T X.prog X.w X.K X.mg X.base j x c ps d) (ha : JA T X E (e :: es) ar) (hj : j + 1 ≤ k := by decide) (hg : Gl X x := by rfl) (hdb : (x == ("__debug__" : Str)) = false := by decide)
    (he : starEach (e :: es) X.env = (false, eval e X.env) :: starEach es X.env := by rfl) (hpl : (backTo pos (starEach es X.env)).any (·.1) = false := by rfl) : JE T X E (.Call (.Name x p) (e :: es) [] pos) (dApp (clo (newF c d)) ar) :=
  je_newG cg F (fun r rx h => newF_hk r rx h) ha hj hg hdb he hpl
end

/-! ### what is not covered; one of two readings -/
def dEi (a b : DE) : DE := fun l S => match a l S with
  | .bad => b l S
  | o => o
section
variable {T : Tb} {X : Cx} {E : XS} {e tg : Expr} {a b : DE}
theorem je_ei (ha : JE T X E e a) (hb : JE T X E e b) : JE T X E e (dEi a b) := ⟨fun pins s σ H Q I ⟨R, F, l, S, r, re, h⟩ => by
  unfold dEi at h
  cases hd : a l S with
  | bad => rw [hd] at h; exact hb.run pins s σ H Q I ⟨R, F, l, S, r, re, h⟩
  | ok v S1 => rw [hd] at h; exact ha.run pins s σ H Q I ⟨R, F, l, S, r, re, by rw [hd]; exact h⟩
  | err v S1 => rw [hd] at h; exact ha.run pins s σ H Q I ⟨R, F, l, S, r, re, by rw [hd]; exact h⟩⟩
end
/-! ### methods as the head tells them -/
theorem kwm_of {K : PySem.W.Frag} {x qual : Str} {params : Arguments} {body : List Stmt} {scope : Scope} {kws : List (Str × V)} {f : Addr} {fd : FuncData} {ps : List Str} (F : FunD K x qual params body scope [] kws f fd)
    (h : ∀ (kV doc pm : Value) (an : Option Addr) (cdv ct : Value) (v : Value) (ws : List Value), ws.length = ps.tail.length → bindArgs (PySem.W.fnOf x qual params body scope .none kV doc pm an cdv ct) ⟨[v], ps.tail.zip ws⟩ = pure (ps.zip (v :: ws))) (s : Shared) (v : Value) (ws : List Value) (hl : ws.length = ps.tail.length) : BindsTo s fd ⟨[v], ps.tail.zip ws⟩ (ps.zip (v :: ws)) := by
  obtain ⟨oc, od, dV, kV, doc, pm, an, cdv, ct, osl, rfl, lk, hcd, hD, hK⟩ := F.ex
  rcases hD with ⟨_, z⟩ | ⟨z, _⟩
  · subst z
    exact .of_eq (h kV doc pm an cdv ct v ws hl)
  · exact absurd rfl z
theorem stR_ok {K : PySem.W.Frag} {C : Addr} {m : Str} {p g C' : Addr} (h : stR K C m = some (p, g, C')) : PySem.W.findCls K (.ref C) (.type "type") m = some (.get (.builtin "staticmethod.__get__") (.ref p) .none (.ref C')) ∧ ∃ rest, PySem.W.recIn K p "staticmethod" = some (.ref g :: rest) := by
  unfold stR at h
  split at h
  · rename_i b p0 C0 hf
    split at h
    · rename_i hb
      subst hb
      split at h
      · rename_i g0 rest hr
        cases h
        exact ⟨hf, rest, hr⟩
      · cases h
    · cases h
  · cases h
end Z
end
section
set_option Elab.async false
set_option linter.all false
set_option maxRecDepth 100000
set_option maxHeartbeats 1000000
/-! ZK: names that are forgotten, blocks whose new places go, lambdas that can be reckoned. -/
noncomputable section
namespace Z
open PySem PySem.Spec PyProof.Rows L2

/-! ### forgetting names -/
def keepL (ks : List Nat) : Nat → Loc → Loc
  | _, [] => []
  | i, v :: l => (if ks.contains i then v else none) :: keepL ks (i + 1) l
theorem keepL_len (ks : List Nat) : ∀ (i : Nat) (l : Loc), (keepL ks i l).length = l.length
  | _, [] => rfl
  | i, v :: l => by rw [keepL, List.length_cons, List.length_cons, keepL_len ks (i + 1) l]
theorem keepL_get (ks : List Nat) : ∀ (i j : Nat) (l : Loc) (v : PV), (keepL ks i l)[j]? = some (some v) → l[j]? = some (some v)
  | _, _, [], _, h => by cases h
  | i, 0, x :: l, v, h => by
    rw [keepL, List.getElem?_cons_zero] at h
    split at h
    · exact h
    · cases h
  | i, j + 1, x :: l, v, h => by
    rw [keepL, List.getElem?_cons_succ] at h
    rw [List.getElem?_cons_succ]
    exact keepL_get ks (i + 1) j l v h
def dKeep (ks : List Nat) : DS := fun l S => .nx (keepL ks 0 l) S
section
variable {T : Tb} {X : Cx} {E : XS} {sts : List Stmt} {b : DS}
theorem jb_keep (ks : List Nat) (h : JB T X E sts b) : JB T X E sts (dSeq (dKeep ks) b) :=
  pss_imp h fun D σ H ⟨R, F, l, S, r, e, q⟩ => ⟨R, F, keepL ks 0 l, S, r, ⟨by rw [keepL_len]; exact e.len, fun i v hv => e.at_ i v (keepL_get ks 0 i l v hv)⟩, q⟩
end

/-! ### a block whose new places go -/
def fitsV (n : Nat) (v : Option PV) : Bool := match v with
  | some x => fits n x
  | none => true
def shL (S : Sto) (l1 : Loc) (S1 : Sto) (k : Loc → Sto → OutS) : OutS := if S1.length ≤ S.length then k l1 S1 else if (fitsS S S1 && l1.all (fitsV S.length)) = true then k l1 (S1.take S.length) else .bad
def dShS (b : DS) : DS := fun l S => match b l S with
  | .nx l1 S1 => shL S l1 S1 .nx
  | .cnt l1 S1 => shL S l1 S1 .cnt
  | .brk l1 S1 => shL S l1 S1 .brk
  | o => o
section
variable {T : Tb} {K : PySem.W.Frag} {R : Pl} {F H : Hp} {S S1 : Sto} {l1 : Loc}
theorem postE_sh {Q : L2.St → Hp → Prop} (r0 : Rep T K R F S H) (hf : fitsS S S1 = true) (hl : l1.all (fitsV S.length) = true) (h : PostE T K R F l1 (S1.take S.length) Q) : PostE T K R F l1 S1 Q := by
  intro R' F' H' σ p x r e
  have hlen := r0.len
  have r2 := r.shut (fitsS_all r0 hf)
  rw [← hlen, take_pl p] at r2
  refine h R _ H' σ (Pl.refl R) (x.trans (melt_ex (n := R.as.length) r)) (by rw [← hlen]; exact r2) ⟨e.len, fun i v hv => ?_⟩
  obtain ⟨u, h1, h2⟩ := e.at_ i v hv
  refine ⟨u, h1, ?_⟩
  have hm := List.all_eq_true.mp hl _ (List.mem_of_getElem? hv)
  have := fits_rel (n := R.as.length) r v u (by rw [hlen]; exact hm) h2
  rw [take_pl p] at this
  exact this
theorem okS_sh {b : DS} {l : Loc} {D : Ends} {E : XS} (r0 : Rep T K R F S H) (h : OkS T K R F (dShS b l S) D E) : OkS T K R F (b l S) D E := by
  unfold dShS at h
  cases hb : b l S with
  | nx l1 S1 =>
    rw [hb] at h
    have h : OkS T K R F (shL S l1 S1 .nx) D E := h
    unfold shL at h
    split at h
    · exact h
    · split at h
      · rename_i hc
        obtain ⟨h1, h2⟩ := Bool.and_eq_true_iff.mp hc
        exact postE_sh r0 h1 h2 h
      · exact h.elim
  | cnt l1 S1 =>
    rw [hb] at h
    have h : OkS T K R F (shL S l1 S1 .cnt) D E := h
    unfold shL at h
    split at h
    · exact h
    · split at h
      · rename_i hc
        obtain ⟨h1, h2⟩ := Bool.and_eq_true_iff.mp hc
        exact postE_sh r0 h1 h2 h
      · exact h.elim
  | brk l1 S1 =>
    rw [hb] at h
    have h : OkS T K R F (shL S l1 S1 .brk) D E := h
    unfold shL at h
    split at h
    · exact h
    · split at h
      · rename_i hc
        obtain ⟨h1, h2⟩ := Bool.and_eq_true_iff.mp hc
        exact postE_sh r0 h1 h2 h
      · exact h.elim
  | ret v S1 => rw [hb] at h; exact h
  | err e l1 S1 => rw [hb] at h; exact h
  | bad => rw [hb] at h; exact h
end
section
variable {T : Tb} {X : Cx} {E : XS} {sts : List Stmt} {b : DS}
theorem jb_sh (h : JB T X E sts b) : JB T X E sts (dShS b) :=
  pss_imp h fun D σ H ⟨R, F, l, S, r, e, q⟩ => ⟨R, F, l, S, r, e, okS_sh r q⟩
end

/-! ### lambdas -/
/-- D makes nothing of which thing it is handed: it is reckoned with none -/
def dLamK (D : PV → (Sto → Out PV) → Sto → Out PV) (db : DE) : DE := fun l S => D .non (db l) S
theorem dLam_k {D : PV → (Sto → Out PV) → Sto → Out PV} (h : ∀ x0 tl S, D x0 tl S = D .non tl S) (db : DE) : dLam D db = dLamK D db := by
  funext l S
  exact dLam_eq fun x0 => h x0 (db l) S
theorem je_lamK {T : Tb} {X : Cx} {E : XS} {e : Expr} {D : PV → (Sto → Out PV) → Sto → Out PV} {db : DE} (h : ∀ x0 tl S, D x0 tl S = D .non tl S) (hj : JE T X E e (dLam D db)) : JE T X E e (dLamK D db) := by
  rw [← dLam_k h]; exact hj
/-- two ends of a body that the def does not tell apart -/
def defOut (o : OutS) : Out PV := match o with
  | .nx _ S1 => .ok .non S1
  | .ret v S1 => .ok v S1
  | .err e _ S1 => .err e S1
  | _ => .bad
theorem dDef_out (n m : Nat) (b b' : DS) (xs ys : List PV) (S : Sto) (hx : xs.length = n) (hy : ys.length = n) (h : defOut (b (xs.map some ++ List.replicate (m - n) none) S) = defOut (b' (ys.map some ++ List.replicate (m - n) none) S)) : dDef n m b xs S = dDef n m b' ys S := by
  unfold dDef
  congr 1
  unfold dDef0
  rw [if_pos hx, if_pos hy]
  exact h
theorem callT_0 {x0 : PV} {tl : Sto → Out PV} {l : Loc} {S : Sto} : dCallT x0 0 tl (some x0 :: l) S = tl S := callT_eq rfl

/-! ### t * k, t a tuple -/
theorem tuple_mul1W (l : Addr) (items : Array Value) (n : Nat) (dd : Option Addr) (sl : Array (Option Value)) (u : Tok) :
    Meets (Builtin.«tuple.__mul__» ⟨[.ref l, .int 1 u], []⟩) (fun _ R s => s.heap.get? l = some { cls := .type "tuple", dict := dd, data := .seq items n, slots := sl } ∧
      R (.ok (.ret (Value.ref l))) s) :=
  .of_wp fun prog w A R s h => by
    obtain ⟨hp, g, d, tk, os⟩ := s
    obtain ⟨hl, h⟩ := h
    have f1 := AutoSeq1.idx_int
    have c0 : (decide ((1 : Int) < -(2 ^ 63)) || decide ((1 : Int) ≥ 2 ^ 63)) = false := by decide
    have c1 : (items.isEmpty || (1 : Int) == 1) = true := by simp
    wp_walk using wpAny_loadPart' hl
    repeat (first
      | (refine wpAny_ite_false (decide_eq_false (by rw [c0]; exact Bool.false_ne_true)) ?_; wp_walk using wpAny_loadPart' hl)
      | (refine wpAny_ite_true (decide_eq_true c1) ?_; wp_walk using wpAny_loadPart' hl))
    exact ⟨_, rfl, h⟩
def rRep1 (K : PySem.W.Frag) : R2 := fun x y H Q => ∃ l xs, x = .ref l ∧ y = .int 1 ∧ SqT K H l xs ∧ Q (.ref l) H
theorem op_rep1 {X : Cx} : OpR X (binaryOp .Mult) (rRep1 X.K) := by
  intro pins s σ H x y v u Q I rx ry h
  obtain ⟨l, xs, rfl, rfl, hT, q⟩ := h
  cases rx
  obtain ⟨t, rfl⟩ := ry
  obtain ⟨its, r, ⟨⟨cls, dd, data, sl⟩, ho, hc, n, hd⟩, hs⟩ := I.tuple hT
  simp only at hc hd
  subst hc hd
  refine wpAny_binaryOp_repeat_ref (T := "tuple") (U := "int") (by decide) ⟨_, ho, rfl⟩ (fun s' => typeIs_int s' 1 t) noFill_tuple_mul F.fills_int_mul F.slot_int_rmul repeat_tuple F.slot_int_index.lookup
    (call_meets F.slot_int_rmul (typeIs_int s 1 t) F.entry_int_rmul (F.args_int_rmul_2 _ _) (int_rmul_tuple 1 t l its.toArray n dd sl)
      ⟨ho, rfl, ⟨_, ho, rfl⟩, call_meets F.slot_tuple_mul ⟨_, ho, rfl⟩ F.entry_tuple_mul (F.args_tuple_mul_2 _ _) (tuple_mul1W l its.toArray n dd sl t) ⟨ho, ?_⟩⟩)
  exact ⟨.ref l, H, I, rfl, q⟩
def mulT (x y : PV) (S : Sto) : Out PV := match x, y with
  | .nd .tup xs, .int j => if j = 1 then .ok (.nd .tup xs) S else if xs ≠ [] ∧ 2 ≤ j ∧ j ≤ 1000 ∧ xs.length ≤ 1000 then mkNd .tup (List.replicate j.toNat xs).flatten S else .bad
  | x, y => mulZ x y S
abbrev rMulT (K : PySem.W.Frag) : R2 := fun x y H Q => rRepT K x y H Q ∨ rRep1 K x y H Q ∨ rMulA x y H Q
theorem op_mulT {X : Cx} : OpR X (binaryOp .Mult) (rMulT X.K) := OpR.or op_repT (OpR.or op_rep1 op_mulA)
theorem oz_mulT {T : Tb} {K : PySem.W.Frag} : OpZ T K mulT (rMulT K) := by
  intro E R F H S x y u w Q r rx ry h
  unfold mulT at h
  split at h
  · rename_i xs j
    have rx0 := rx
    split at h
    · rename_i hj
      subst hj
      obtain ⟨a, us, rfl, hs, hl⟩ := view_rel r rx (view_nd .tup xs S)
      have := rel_int ry; subst this
      exact .inr (.inl ⟨a, us, rfl, rfl, (shp_rd hs).2 rfl, PostV.here r rx0 h⟩)
    split at h
    · rename_i hc
      obtain ⟨a, us, rfl, hs, hl⟩ := view_rel r rx (view_nd .tup xs S)
      have := rel_int ry; subst this
      have rr : ∀ k : Nat, RelL T K R F (List.replicate k xs).flatten (List.replicate k us).flatten := fun k => by
        induction k with
        | zero => exact .nil
        | succ k ih => rw [List.replicate_succ, List.replicate_succ, List.flatten_cons, List.flatten_cons]; exact hl.append ih
      refine .inl ⟨a, j, us, rfl, rfl, (shp_rd hs).2 rfl, fun z => hc.1 ?_, hc.2.1, hc.2.2.1, by rw [hl.length]; exact hc.2.2.2, fun p hp => ?_⟩
      · have := hl.length
        rw [z] at this
        exact List.eq_nil_of_length_eq_zero this.symm
      · unfold mkNd at h
        split at h
        · exact PostV.new (k := .tup) r hp upd_same (rr _) h
        · exact h.elim
    · exact h.elim
  · exact .inr (.inr (oz_mul E R F H S _ _ u w Q r rx ry h))
end Z
end
end
section
set_option Elab.async false
set_option linter.all false
set_option maxRecDepth 100000
set_option maxHeartbeats 1000000
/-! ZJ: laws whose turns are reckoned case by case. -/
noncomputable section
namespace Z
open PySem PySem.Spec PyProof.Rows L2

def dSeqs : List DS → DS
  | [] => dSkip
  | s :: r => dSeq s (dSeqs r)
theorem seqs_app (r : List DS) : ∀ (a : List DS) (l : Loc) (S : Sto), dSeqs (a ++ r) l S = (dSeqs a l S).seq (dSeqs r)
  | [], l, S => rfl
  | s :: a, l, S => by
    show (s l S).seq (dSeqs (a ++ r)) = ((s l S).seq (dSeqs a)).seq (dSeqs r)
    cases s l S with
    | nx l1 S1 => exact seqs_app r a l1 S1
    | _ => rfl
theorem seqs_run {a r : List DS} {l l1 : Loc} {S S1 : Sto} (h : dSeqs a l S = .nx l1 S1) : dSeqs (a ++ r) l S = dSeqs r l1 S1 := by rw [seqs_app, h]; rfl
theorem seqs_one {s : DS} {r : List DS} {l l1 : Loc} {S S1 : Sto} (h : s l S = .nx l1 S1) : dSeqs (s :: r) l S = dSeqs r l1 S1 := by
  show (s l S).seq (dSeqs r) = _
  rw [h]; rfl
/-- one of some things is picked -/
theorem set_pick {dr : DF} (hd : DrOk dr) {n i : Nat} {T S : Sto} {l : Loc} {ar : DA} (xs : List PV) (h : PenS n T S) (hn : n ≤ 100000) (ha : ar l S = .ok [.ref 0, .nd .lst xs] S) (hx : xs ≠ []) (hx2 : xs.length ≤ 1000000000) :
    ∃ x S', dSet i (dFn (dDef 2 2 (pickB dr)) ar) l S = .nx (l.set i (some x)) S' ∧ x ∈ xs ∧ PenS (n + 1) T S' := by
  obtain ⟨x, S', h1, h2, h3⟩ := pick_ok hd h hn hx hx2
  exact ⟨x, S', by rw [dSet_ap, dFn_ap, ha, bind_ok, h1]; rfl, h2, h3⟩
theorem shS_pen {B : DS} {l l' : Loc} {S S' : Sto} {n m : Nat} {T' : Sto} (hP : PenS n [] S) (h : B l S = .nx l' S') (hP' : PenS m T' S') (hl : l'.all (fitsV 1) = true) : ∃ S'', dShS B l S = .nx l' S'' ∧ PenS m [] S'' := by
  have e1 : S.length = 1 := hP.len
  obtain ⟨h1, h2⟩ := hP.shut (T := []) (X := T') (by rw [List.nil_append]; exact hP')
  unfold dShS
  rw [h]
  show ∃ S'', shL S l' S' .nx = .nx l' S'' ∧ PenS m [] S''
  unfold shL
  by_cases q : S'.length ≤ S.length
  · rw [if_pos q]
    have hl' : S'.length = T'.length + 1 := hP'.len
    have : T' = [] := List.eq_nil_of_length_eq_zero (by omega)
    subst this
    exact ⟨S', rfl, hP'⟩
  · rw [if_neg q, h1, e1, hl]
    exact ⟨_, rfl, by rw [← e1]; exact h2⟩
theorem loop_pen {B : DS} {t : TgZ} {l0 : Loc} {k n0 : Nat} {S0 : Sto} {items : List PV} (hP : PenS n0 [] S0) (hb : n0 + k * items.length ≤ 100000) (hl : l0.all (fitsV 1) = true)
    (step : ∀ n S x, x ∈ items → PenS n [] S → n + k ≤ 100000 → ∃ ps S' T', asg t x = some ps ∧ B (setZ l0 ps) S = .nx l0 S' ∧ PenS (n + k) T' S') :
    ∃ S1, forZ t [] (dShS B) items l0 S0 = .nx l0 S1 ∧ PenS (n0 + k * items.length) [] S1 := by
  obtain ⟨l', S', h1, h2, h3⟩ := forZ_inv (t := t) (hs := []) (b := dShS B) (fun i l S => l = l0 ∧ PenS (n0 + k * i) [] S ∧ i ≤ items.length) items 0 l0 S0 ⟨rfl, hP, Nat.zero_le _⟩ (by
    rintro i x l S hx ⟨rfl, hi, hle⟩
    rw [Nat.zero_add] at hi ⊢
    have hlt : i < items.length := (List.getElem?_eq_some_iff.mp hx).1
    have hm : k * i + k ≤ k * items.length := by
      have := Nat.mul_le_mul_left k hlt
      rw [Nat.mul_succ] at this
      exact this
    obtain ⟨ps, S1, T1, g1, g2, g3⟩ := step (n0 + k * i) S x (List.mem_of_getElem? hx) hi (by omega)
    obtain ⟨S2, g4, g5⟩ := shS_pen hi g2 g3 hl
    refine ⟨ps, l, S2, g1, g4, heldB_nil _, rfl, ?_, hlt⟩
    have e : n0 + k * (i + 1) = n0 + k * i + k := by rw [Nat.mul_succ]; omega
    rw [e]; exact g5)
  subst h2
  rw [Nat.zero_add] at h3
  exact ⟨S', h1, h3.1⟩
/-- the law's end -/
theorem law_end {b : DS} {sc : PV} {S1 : Sto} {m : Nat} (hb : b (some sc :: List.replicate (m - 1) none) [] = .ret (.bl true) S1) (hl : 0 < S1.length) : dDef 1 m b [sc] [] = .ok (.bl true) [] := by
  have := dDef_thaw (n := 1) (m := m) (xs := [sc]) (S1 := S1) (v := .bl true) (w := .bl true) [] b rfl hb hl rfl (fitsS_pre List.nil_prefix)
  rw [this]; rfl
theorem pn_cons {n : Nat} {T S : Sto} (h : PenS n T S) : ∃ cs a lf, S = pn cs a lf :: T := let ⟨cs, a, lf, e, _⟩ := h; ⟨cs, a, lf, e⟩
end Z
end
end
section
set_option Elab.async false
set_option linter.all false
set_option maxRecDepth 100000
set_option maxHeartbeats 1000000
/-! ZI: x != y by an own __eq__; bool(o); more displays and calls. -/
noncomputable section
namespace Z
open PySem PySem.Spec PyProof.Rows L2

section
open PySem.W
variable {prog : Program} {w : World} {A : Around} {E : Value → Shared → Prop} {s : Shared} {K : PySem.W.Frag} {x C L f : Addr} {h₀ : Heap} {m : Str → Option Value} {ox : Obj} {od : Option Obj} {b tb : Value}
end

/-! ### x != y, x an instance of the class c with an own __eq__ alone -/
section
variable {T : Tb} {I : Ki} {X : Cx} {E : XK} {c j k : Nat} {d : DF} {f : PV → PV → Sto → Out PV} {r : R2}
end

/-! ### bool(o), o an instance of the class c with an own __bool__ -/
section
variable {T : Tb} {X : Cx} {E : XK} {c j k : Nat} {d : DF} {f : List PV → Sto → Out PV} {r : List V → Hp → VK → Prop}
end
/-! ### not o -/
theorem clo_eq {f : List PV → Sto → Out PV} {xs : List PV} {S : Sto} {v : PV} (h1 : fitsL 0 xs = true) (h2 : S.all Option.isSome = true) (h : f xs [] = .ok v []) : clo f xs S = .ok v S := by
  unfold clo
  rw [h1, h2, h]
  rfl
end Z
end
end
section
set_option Elab.async false
set_option linter.all false
set_option maxRecDepth 100000
set_option maxHeartbeats 1000000
/-! YA: name *= e; comprehensions of two generators. -/
noncomputable section
namespace Z
open PySem PySem.Spec PyProof.Rows L2

section
variable {X : Cx}
end
section
variable {T : Tb} {X : Cx} {E : XS} {e : Expr} {d : DE} {x : Str} {pos : Pos}
end
end Z
end
end
section
set_option Elab.async false
set_option linter.all false
set_option maxRecDepth 100000
set_option maxHeartbeats 1000000
/-! YB: sorted(list of texts). -/
noncomputable section
namespace Z
open PySem PySem.Spec PyProof.Rows L2

def insT (x : Str) : List Str → List Str
  | [] => [x]
  | y :: ys => if ltCps y.cps.toList x.cps.toList = true then y :: insT x ys else x :: y :: ys
def srtT : List Str → List Str
  | [] => []
  | x :: xs => insT x (srtT xs)
theorem insT_perm (x : Str) : ∀ ys, (insT x ys).Perm (x :: ys)
  | [] => .refl _
  | y :: ys => by
    unfold insT
    split
    · exact ((insT_perm x ys).cons y).trans (.swap x y ys)
    · exact .refl _
theorem srtT_perm : ∀ xs, (srtT xs).Perm xs
  | [] => .refl _
  | x :: xs => (insT_perm x _).trans ((srtT_perm xs).cons x)
abbrev leS (a b : Str) : Prop := a.cps.toList ≤ b.cps.toList
theorem insT_pair (x : Str) : ∀ ys, ys.Pairwise leS → (insT x ys).Pairwise leS
  | [], _ => List.pairwise_singleton _ _
  | y :: ys, h => by
    obtain ⟨h1, h2⟩ := List.pairwise_cons.mp h
    unfold insT
    split
    · rename_i hlt
      rw [ltCps_eq, decide_eq_true_iff] at hlt
      refine List.pairwise_cons.mpr ⟨fun z hz => ?_, insT_pair x ys h2⟩
      rcases List.mem_cons.mp ((insT_perm x ys).mem_iff.mp hz) with rfl | hz
      · exact List.le_of_lt hlt
      · exact h1 z hz
    · rename_i hlt
      have hle : leS x y := by
        rw [ltCps_eq, decide_eq_true_iff] at hlt
        exact List.not_lt.mp hlt
      refine List.pairwise_cons.mpr ⟨fun z hz => ?_, h⟩
      rcases List.mem_cons.mp hz with rfl | hz
      · exact hle
      · exact List.le_trans hle (h1 z hz)
theorem srtT_pair : ∀ xs, (srtT xs).Pairwise leS
  | [] => .nil
  | x :: xs => insT_pair x _ (srtT_pair xs)
theorem rising_pair : ∀ (r : List Str) (p : Str), risingS p r = true → (p :: r).Pairwise leS
  | [], p, _ => List.pairwise_singleton _ _
  | x :: r, p, h => by
    rw [risingS, Bool.and_eq_true] at h
    have ih := rising_pair r x h.2
    have hle : leS p x := by
      have := h.1
      rw [ltCps_eq] at this
      simp only [Bool.not_eq_true', decide_eq_false_iff_not] at this
      exact List.not_lt.mp this
    refine List.pairwise_cons.mpr ⟨fun z hz => ?_, ih⟩
    rcases List.mem_cons.mp hz with rfl | hz
    · exact hle
    · exact List.le_trans hle ((List.pairwise_cons.mp ih).1 z hz)
theorem sorted_pair : ∀ ys : List Str, sortedS ys = true → ys.Pairwise leS
  | [], _ => .nil
  | y :: ys, h => rising_pair ys y h
theorem srtT_eq {xs ys : List Str} (h1 : ys.Perm xs) (h2 : sortedS ys = true) : ys = srtT xs := by
  refine List.Perm.eq_of_pairwise (le := leS) (fun a b _ _ p q => ?_) (sorted_pair ys h2) (srtT_pair xs) (h1.trans (srtT_perm xs).symm)
  have e := List.le_antisymm p q
  cases a; cases b
  congr 1
  exact Array.toList_inj.mp e
def asTs : List PV → Option (List Str)
  | [] => some []
  | .str z :: xs => (asTs xs).map fun r => z :: r
  | _ :: _ => none
theorem asTs_rel {T : Tb} {K : PySem.W.Frag} {R : Pl} {F : Hp} : ∀ {xs : List PV} {us : List V} {ns : List Str}, RelL T K R F xs us → asTs xs = some ns → us = ns.map V.str
  | [], us, ns, r, h => by cases h; rw [RelL] at r; exact r
  | x :: xs, us, ns, r, h => by
    rw [RelL] at r
    obtain ⟨u, vs, rfl, r1, r2⟩ := r
    cases x with
    | str z =>
      rw [asTs, Option.map_eq_some_iff] at h
      obtain ⟨ns', h1, rfl⟩ := h
      rw [asTs_rel r2 h1, rel_str r1]; rfl
    | _ => cases h
theorem rel_strs {T : Tb} {K : PySem.W.Frag} {R : Pl} {F : Hp} : ∀ ns : List Str, RelL T K R F (ns.map PV.str) (ns.map V.str)
  | [] => by rw [List.map_nil, RelL]; rfl
  | n :: ns => by
    rw [List.map_cons, RelL]
    exact ⟨_, _, rfl, by rw [Rel], rel_strs ns⟩
/-- sorted(texts) -/
def srtP (xs : List PV) (S : Sto) : Out PV := match xs with
  | [x] => (match (lstOf x S).bind asTs with
    | some ns => if ns.length < 64 then .ok (.nd .lst ((srtT ns).map .str)) S else .bad
    | none => .bad)
  | _ => .bad
theorem cz_srt {T : Tb} {K : PySem.W.Frag} : CalZ T K srtP (rSortedS K) := by
  intro E R F H S xs us Q r rx h
  unfold srtP at h
  split at h
  · obtain ⟨u, rfl, r1⟩ := rel1 rx
    split at h
    · rename_i ns hv
      rw [Option.bind_eq_some_iff] at hv
      obtain ⟨ys, h1, h2⟩ := hv
      obtain ⟨a, us, rfl, hs, hl⟩ := lstOf_rel r r1 h1
      have := asTs_rel hl h2; subst this
      split at h
      · rename_i h64
        refine ⟨a, ns, rfl, hs, h64, fun zs p hp1 hp2 hp => ?_⟩
        rw [srtT_eq hp1 hp2]
        exact PostV.new (k := .lst) r hp upd_same (rel_strs _) h
      · exact h.elim
    · exact h.elim
  · exact h.elim
end Z
end
end
section
set_option Elab.async false
set_option linter.all false
set_option maxRecDepth 100000
set_option maxHeartbeats 1000000
/-! YC: dict displays with expressions. -/
noncomputable section
namespace Z
open PySem PySem.Spec PyProof.Rows L2

section
variable {T : Tb} {X : Cx} {E : XS} {pos : Pos}
end
end Z
end
end
section
set_option Elab.async false
set_option linter.all false
set_option maxRecDepth 100000
set_option maxHeartbeats 1000000
/-! YD: dict(x), x a dict. -/
noncomputable section
namespace Z
open PySem PySem.Spec PyProof.Rows L2

end Z
end
end
section
set_option Elab.async false
set_option linter.all false
set_option maxRecDepth 100000
set_option maxHeartbeats 1000000
/-! YE: comprehensions of two generators. -/
noncomputable section
namespace Z
open PySem PySem.Spec PyProof.Rows L2

section
variable {T : Tb} {X : Cx} {E : XS} {pos : Pos} {elt tg iter : Expr} {ifs : List Expr} {scope : Scope} {own : List (Str × Nat)} {di : DI} {t : TgZ} {c : DB} {el : DE}
/-- the inner walk, behind what stands already -/
theorem lc_in {K : PySem.W.Frag} {vs : List Nat} (hvs : ∀ i ∈ t.slots, i ∈ vs) {σ : L2.St} {H1 : Hp} {Q : Hp → Prop} {as1 : List Addr} {hid : List (Addr × HO)} {us0 : List V} {acc0 : List PV} {F1 : Hp} {l : Loc} {S1 : Sto} {J : It} {it : ItZ} {D : Addr} (r1 : Rep T K ⟨as1, (D, .lst us0) :: hid⟩ F1 S1 H1) (e1 : RelE T K ⟨as1, (D, .lst us0) :: hid⟩ F1 l σ) (wz : WalkZ T K J ⟨as1, (D, .lst us0) :: hid⟩ F1 it) (hh : heldB it.held S1 = true)
    {xs : List PV} {S9 : Sto} (hl : lcZ t it.held c el (wipeZ l vs) it.items S1 = .ok xs S9) (ra0 : RelL T K ⟨as1, hid⟩ F1 acc0 us0) (hsz : (acc0 ++ xs).length ≤ 16777216) (hq : ∀ as' F' H us, as1 <+: as' → Ex F1 F' → Rep T K ⟨as', (D, .lst us) :: hid⟩ F' S9 H → RelL T K ⟨as', hid⟩ F' (acc0 ++ xs) us → Q H) :
    ∃ W : Nat → Nat → Hp → Prop, (∃ m, W 0 m H1) ∧ ∀ i m H, W i m H →
      (J.stop i H ∧ Q H) ∨ (J.go i H ∧ ∃ Nx : Hp → Prop, (∀ H', Nx H' → ∃ m', m' < m ∧ W (i + 1) m' H') ∧ ∀ x H', J.yld i H x H' → gOf K t x (wipe σ vs) H' fun σ2 H2 => wipe σ2 vs = wipe σ vs ∧ tT T K E00 c σ2 H2 fun b H3 =>
        if b = true then tV T K E00 el σ2 H3 fun y H4 => ∃ acc, H4 D = some (.lst acc) ∧ acc.length < sizeLine ∧ Nx (upd H4 D (.lst (acc ++ [y]))) else Nx H3) := by
  let Inn : Nat → Hp → Prop := fun i H' => ∃ as2 F2 S2 acc us rest, as1 <+: as2 ∧ Ex F1 F2 ∧ Rep T K ⟨as2, (D, .lst us) :: hid⟩ F2 S2 H' ∧ RelL T K ⟨as2, hid⟩ F2 acc us ∧ heldB it.held S2 = true ∧ lcZ t it.held c el (wipeZ l vs) (it.items.drop i) S2 = .ok rest S9 ∧ acc0 ++ xs = acc ++ rest
  refine ⟨fun i m H' => m = it.items.length - i ∧ i ≤ it.items.length ∧ Inn i H', ⟨_, rfl, Nat.zero_le _, as1, F1, S1, acc0, us0, xs, List.prefix_refl _, Ex.refl F1, r1, ra0, hh, hl, rfl⟩, ?_⟩
  rintro i m H' ⟨rfl, hi, as2, F2, S2, acc, us, rest, p2, ex2, r2, ra, hh2, hr, exs⟩
  by_cases hlt : i < it.items.length
  · refine .inr ⟨wz.goes i _ F2 H' S2 hlt p2 ex2 r2 hh2, fun H3 => i + 1 ≤ it.items.length ∧ Inn (i + 1) H3, fun H3 ⟨q1, q2⟩ => ⟨it.items.length - (i + 1), by omega, rfl, q1, q2⟩, fun v H3 y => ?_⟩
    obtain ⟨F3, x, ex3, r3, hx, rv⟩ := wz.yields i _ F2 H' H3 S2 v hlt p2 ex2 r2 hh2 y
    have hdr : it.items.drop i = x :: it.items.drop (i + 1) := by
      rw [List.drop_eq_getElem_cons hlt]
      rw [List.getElem?_eq_getElem hlt] at hx
      cases hx; rfl
    rw [hdr, lcZ] at hr
    cases ha : asg t x with
    | none => rw [ha] at hr; cases hr
    | some ps =>
      rw [ha] at hr
      simp only at hr
      have e3 : RelE T K ⟨as2, (D, .lst us) :: hid⟩ F3 (wipeZ l vs) (wipe σ vs) := (e1.wipe vs).mono0 p2 (ex2.trans ex3)
      refine gOf_ok r3 t x v (wipeZ l vs) (wipe σ vs) ps _ e3 rv ha fun qs hqs e4 => ⟨by rw [wipe_setV (fun q hq' => hvs q.1 (hqs q hq')), wipe_idem], ⟨_, F3, setZ (wipeZ l vs) ps, S2, r3, e4, ?_⟩⟩
      cases hc : c (setZ (wipeZ l vs) ps) S2 with
      | bad => rw [hc] at hr; cases hr
      | err z S3 => rw [hc] at hr; cases hr
      | ok b S4 =>
        rw [hc] at hr
        intro R5 F5 H5 p5 ex5 r5
        obtain ⟨as5, hid5⟩ := R5
        obtain ⟨p5a, p5b⟩ := p5
        have p5b : hid5 = (D, .lst us) :: hid := p5b
        have p5a : as2 <+: as5 := p5a
        subst p5b
        cases b with
        | false =>
          simp only at hr
          split at hr
          · rename_i hh5
            exact ⟨hlt, as5, F5, S4, acc, us, rest, p2.trans p5a, (ex2.trans ex3).trans ex5, r5, ra.sh p5a (ex3.trans ex5), hh5, hr, exs⟩
          · cases hr
        | true =>
          simp only [if_true] at hr ⊢
          refine ⟨_, F5, setZ (wipeZ l vs) ps, S4, r5, e4.mono0 p5a ex5, ?_⟩
          cases hel : el (setZ (wipeZ l vs) ps) S4 with
          | bad => rw [hel] at hr; cases hr
          | err z S3 => rw [hel] at hr; cases hr
          | ok w S6 =>
            rw [hel] at hr
            simp only at hr
            intro R7 F7 H7 u7 p7 ex7 r7 rw7
            obtain ⟨as7, hid7⟩ := R7
            obtain ⟨p7a, p7b⟩ := p7
            have p7b : hid7 = (D, .lst us) :: hid := p7b
            have p7a : as5 <+: as7 := p7a
            subst p7b
            split at hr
            · rename_i hh7
              have d7 := (r7.hid (D, .lst us) List.mem_cons_self).1
              have lus : us.length = acc.length := ra.length
              have hbd : acc.length < (acc0 ++ xs).length := by
                cases hrest : lcZ t it.held c el (wipeZ l vs) (it.items.drop (i + 1)) S6 with
                | bad => rw [hrest] at hr; cases hr
                | err z S3 => rw [hrest] at hr; cases hr
                | ok rest' S8 =>
                  rw [hrest] at hr
                  cases hr
                  rw [exs, List.length_append, List.length_cons]
                  omega
              refine ⟨us, d7, by rw [sizeLine_eq, lus]; omega, hlt, ?_⟩
              cases hrest : lcZ t it.held c el (wipeZ l vs) (it.items.drop (i + 1)) S6 with
              | bad => rw [hrest] at hr; cases hr
              | err z S3 => rw [hrest] at hr; cases hr
              | ok rest' S8 =>
                rw [hrest] at hr
                cases hr
                refine ⟨as7, F7, S6, acc ++ [w], us ++ [u7], rest', (p2.trans p5a).trans p7a, ((ex2.trans ex3).trans ex5).trans ex7, r7.rehide, ?_, hh7, hrest, ?_⟩
                · exact (ra.sh (p5a.trans p7a) ((ex3.trans ex5).trans ex7)).append (.cons (rw7.sh (List.prefix_refl _) (Ex.refl F7)) .nil)
                · rw [exs, List.append_assoc]; rfl
            · cases hr
  · have e' : i = it.items.length := by omega
    subst e'
    rw [List.drop_length, lcZ] at hr
    cases hr
    rw [List.append_nil] at exs
    subst exs
    exact .inl ⟨wz.stops _ F2 H' S9 p2 ex2 r2 hh2, hq as2 F2 H' us p2 ex2 r2 ra⟩
end
def lcZ2 (t : TgZ) (hs : List (PV × Kd × List PV)) (c : DB) (vs1 : List Nat) (di1 : DI) (t1 : TgZ) (c1 : DB) (el : DE) (l : Loc) : List PV → Sto → Out (List PV)
  | [], S => .ok [] S
  | x :: xs, S => match asg t x with
    | none => .bad
    | some ps => match c (setZ l ps) S with
      | .ok true S1 => (match di1 (setZ l ps) S1 with
        | .ok it1 S2 => if heldB it1.held S2 = true then (match lcZ t1 it1.held c1 el (wipeZ (setZ l ps) vs1) it1.items S2 with
          | .ok ys S3 => if heldB hs S3 = true then (lcZ2 t hs c vs1 di1 t1 c1 el l xs S3).bind fun r S4 => .ok (ys ++ r) S4 else .bad
          | _ => .bad) else .bad
        | _ => .bad)
      | .ok false S1 => if heldB hs S1 = true then lcZ2 t hs c vs1 di1 t1 c1 el l xs S1 else .bad
      | _ => .bad
section
variable {T : Tb} {X : Cx} {E : XS} {pos : Pos} {elt tg iter tg1 iter1 : Expr} {ifs ifs1 : List Expr} {scope : Scope} {own : List (Str × Nat)} {di di1 : DI} {t t1 : TgZ} {c c1 : DB} {el : DE}
theorem lc2_ok {K : PySem.W.Frag} {vs vs1 : List Nat} (hvs : ∀ i ∈ t.slots, i ∈ vs) (hvs1 : ∀ i ∈ t1.slots, i ∈ vs1) {σ : L2.St} {H1 : Hp} {Q : VK} {R1 : Pl} {F1 : Hp} {l : Loc} {S1 : Sto} {J : It} {it : ItZ} {D : Addr} (r1 : Rep T K R1 F1 S1 H1) (e1 : RelE T K R1 F1 l σ) (wz : WalkZ T K J R1 F1 it) (hh : heldB it.held S1 = true)
    {xs : List PV} {S9 : Sto} (hsz : xs.length ≤ 16777216) (hl : lcZ2 t it.held c vs1 di1 t1 c1 el (wipeZ l vs) it.items S1 = .ok xs S9) (hq : Fin T K R1.as R1.hid F1 D Q xs S9) (hD : H1 D = none) :
    ∃ W : Nat → Nat → Hp → Prop, (∃ m, W 0 m (upd H1 D (.lst []))) ∧ ∀ i m H, W i m H →
      (J.stop i H ∧ Q (.ref D) H) ∨ (J.go i H ∧ ∃ Nx : Hp → Prop, (∀ H', Nx H' → ∃ m', m' < m ∧ W (i + 1) m' H') ∧ ∀ x H', J.yld i H x H' → gOf K t x (wipe σ vs) H' fun σ2 H2 => wipe σ2 vs = wipe σ vs ∧ tT T K E00 c σ2 H2 fun b H3 =>
        if b = true then tI T K E00 di1 σ2 H3 (fun J1 H4 => ∃ W1 : Nat → Nat → Hp → Prop, (∃ m, W1 0 m H4) ∧ ∀ j k H, W1 j k H →
          (J1.stop j H ∧ Nx H) ∨ (J1.go j H ∧ ∃ Nx1 : Hp → Prop, (∀ H', Nx1 H' → ∃ k', k' < k ∧ W1 (j + 1) k' H') ∧ ∀ x H', J1.yld j H x H' → gOf K t1 x (wipe σ2 vs1) H' fun σ3 H5 => wipe σ3 vs1 = wipe σ2 vs1 ∧ tT T K E00 c1 σ3 H5 fun b H6 =>
            if b = true then tV T K E00 el σ3 H6 fun y H7 => ∃ acc, H7 D = some (.lst acc) ∧ acc.length < sizeLine ∧ Nx1 (upd H7 D (.lst (acc ++ [y]))) else Nx1 H6)) else Nx H3) := by
  let Inn : Nat → Hp → Prop := fun i H' => ∃ as2 F2 S2 acc us rest, R1.as <+: as2 ∧ Ex F1 F2 ∧ Rep T K ⟨as2, (D, .lst us) :: R1.hid⟩ F2 S2 H' ∧ RelL T K ⟨as2, R1.hid⟩ F2 acc us ∧ heldB it.held S2 = true ∧ lcZ2 t it.held c vs1 di1 t1 c1 el (wipeZ l vs) (it.items.drop i) S2 = .ok rest S9 ∧ xs = acc ++ rest
  refine ⟨fun i m H' => m = it.items.length - i ∧ i ≤ it.items.length ∧ Inn i H', ⟨_, rfl, Nat.zero_le _, R1.as, F1, S1, [], [], xs, List.prefix_refl _, Ex.refl F1, r1.hide hD, .nil, hh, hl, rfl⟩, ?_⟩
  rintro i m H' ⟨rfl, hi, as2, F2, S2, acc, us, rest, p2, ex2, r2, ra, hh2, hr, exs⟩
  by_cases hlt : i < it.items.length
  · refine .inr ⟨wz.goes i _ F2 H' S2 hlt p2 ex2 r2 hh2, fun H3 => i + 1 ≤ it.items.length ∧ Inn (i + 1) H3, fun H3 ⟨q1, q2⟩ => ⟨it.items.length - (i + 1), by omega, rfl, q1, q2⟩, fun v H3 y => ?_⟩
    obtain ⟨F3, x, ex3, r3, hx, rv⟩ := wz.yields i _ F2 H' H3 S2 v hlt p2 ex2 r2 hh2 y
    have hdr : it.items.drop i = x :: it.items.drop (i + 1) := by
      rw [List.drop_eq_getElem_cons hlt]
      rw [List.getElem?_eq_getElem hlt] at hx
      cases hx; rfl
    rw [hdr, lcZ2] at hr
    cases ha : asg t x with
    | none => rw [ha] at hr; cases hr
    | some ps =>
      rw [ha] at hr
      simp only at hr
      have e3 : RelE T K ⟨as2, (D, .lst us) :: R1.hid⟩ F3 (wipeZ l vs) (wipe σ vs) := (e1.wipe vs).mono0 p2 (ex2.trans ex3)
      refine gOf_ok r3 t x v (wipeZ l vs) (wipe σ vs) ps _ e3 rv ha fun qs hqs e4 => ⟨by rw [wipe_setV (fun q hq' => hvs q.1 (hqs q hq')), wipe_idem], ⟨_, F3, setZ (wipeZ l vs) ps, S2, r3, e4, ?_⟩⟩
      cases hc : c (setZ (wipeZ l vs) ps) S2 with
      | bad => rw [hc] at hr; cases hr
      | err z S3 => rw [hc] at hr; cases hr
      | ok b S4 =>
        rw [hc] at hr
        intro R5 F5 H5 p5 ex5 r5
        obtain ⟨as5, hid5⟩ := R5
        obtain ⟨p5a, p5b⟩ := p5
        have p5b : hid5 = (D, .lst us) :: R1.hid := p5b
        have p5a : as2 <+: as5 := p5a
        subst p5b
        cases b with
        | false =>
          simp only at hr
          split at hr
          · rename_i hh5
            exact ⟨hlt, as5, F5, S4, acc, us, rest, p2.trans p5a, (ex2.trans ex3).trans ex5, r5, ra.sh p5a (ex3.trans ex5), hh5, hr, exs⟩
          · cases hr
        | true =>
          simp only [if_true] at hr ⊢
          cases hdi : di1 (setZ (wipeZ l vs) ps) S4 with
          | bad => rw [hdi] at hr; cases hr
          | err z S3 => rw [hdi] at hr; cases hr
          | ok it1 S6 =>
            rw [hdi] at hr
            simp only at hr
            split at hr
            · rename_i hh6
              cases hin : lcZ t1 it1.held c1 el (wipeZ (setZ (wipeZ l vs) ps) vs1) it1.items S6 with
              | bad => rw [hin] at hr; cases hr
              | err z S3 => rw [hin] at hr; cases hr
              | ok ys S7 =>
                rw [hin] at hr
                simp only at hr
                split at hr
                · rename_i hh7
                  cases hrest : lcZ2 t it.held c vs1 di1 t1 c1 el (wipeZ l vs) (it.items.drop (i + 1)) S7 with
                  | bad => rw [hrest] at hr; cases hr
                  | err z S3 => rw [hrest] at hr; cases hr
                  | ok rest' S8 =>
                    rw [hrest] at hr
                    cases hr
                    refine ⟨_, F5, setZ (wipeZ l vs) ps, S4, r5, e4.mono0 p5a ex5, ?_⟩
                    show OkI T K _ F5 (di1 (setZ (wipeZ l vs) ps) S4) _ _
                    rw [hdi]
                    intro R6 F6 H6 J1 p6 ex6 r6 wz1
                    obtain ⟨as6, hid6⟩ := R6
                    obtain ⟨p6a, p6b⟩ := p6
                    have p6b : hid6 = (D, .lst us) :: R1.hid := p6b
                    have p6a : as5 <+: as6 := p6a
                    subst p6b
                    refine lc_in hvs1 r6 (e4.mono0 (p5a.trans p6a) (ex5.trans ex6)) wz1 hh6 hin (ra.sh (p5a.trans p6a) ((ex3.trans ex5).trans ex6)) ?_ fun as' F' H8 us' pa exa r' ra' => ?_
                    · rw [exs] at hsz
                      rw [List.length_append, List.length_append] at hsz
                      rw [List.length_append]
                      omega
                    · exact ⟨hlt, as', F', S7, acc ++ ys, us', rest', ((p2.trans p5a).trans p6a).trans pa, (((ex2.trans ex3).trans ex5).trans ex6).trans exa, r', ra', hh7, hrest, by rw [exs, List.append_assoc]⟩
                · cases hr
            · cases hr
  · have e' : i = it.items.length := by omega
    subst e'
    rw [List.drop_length, lcZ2] at hr
    cases hr
    rw [List.append_nil] at exs
    subst exs
    exact .inl ⟨wz.stops _ F2 H' S9 p2 ex2 r2 hh2, hq as2 F2 H' us p2 ex2 r2 ra⟩
def dLc20 (vs vs1 : List Nat) (di : DI) (t : TgZ) (c : DB) (di1 : DI) (t1 : TgZ) (c1 : DB) (el : DE) : DA := fun l S => (di l S).bind fun it S1 => if heldB it.held S1 = true then (match lcZ2 t it.held c vs1 di1 t1 c1 el (wipeZ l vs) it.items S1 with
  | .ok xs S2 => if xs.length ≤ 16777216 then .ok xs S2 else .bad
  | _ => .bad) else .bad
/-- [el for t in di if c for t1 in di1 if c1] -/
def dLc2 (vs vs1 : List Nat) (di : DI) (t : TgZ) (c : DB) (di1 : DI) (t1 : TgZ) (c1 : DB) (el : DE) : DE := fun l S => (dLc20 vs vs1 di t c di1 t1 c1 el l S).bind fun xs S1 => .ok (.nd .lst xs) S1
theorem lc2_t {vs vs1 : List Nat} (hvs : ∀ i ∈ t.slots, i ∈ vs) (hvs1 : ∀ i ∈ t1.slots, i ∈ vs1) {k : List PV → Sto → Out PV} {σ : L2.St} {H : Hp} {Q : VK} (h : tV T X.K E (fun l S => (dLc20 vs vs1 di t c di1 t1 c1 el l S).bind k) σ H Q)
    (hk : ∀ (xs : List PV) (S : Sto) (R : Pl) (F : Hp) (D : Addr), OkV T X.K R F (k xs S) Q (E σ) → Fin T X.K R.as R.hid F D Q xs S) : tLc2 (tI T X.K E di) (gOf X.K t) (tT T X.K E00 c) (tI T X.K E00 di1) (gOf X.K t1) (tT T X.K E00 c1) (tV T X.K E00 el) vs vs1 σ H Q := by
  obtain ⟨R, F, l, S, r, e, h⟩ := h
  refine ⟨R, F, l, S, r, e, ?_⟩
  have h : OkV T X.K R F (((di l S).bind fun it S1 => if heldB it.held S1 = true then (match lcZ2 t it.held c vs1 di1 t1 c1 el (wipeZ l vs) it.items S1 with
    | .ok xs S2 => if xs.length ≤ 16777216 then Out.ok xs S2 else .bad
    | _ => .bad) else .bad).bind k) Q (E σ) := h
  cases hd : di l S with
  | bad => rw [hd] at h; exact h.elim
  | err x S1 => rw [hd] at h; exact h
  | ok it S1 =>
    rw [hd] at h
    intro R1 F1 H1 J p ex r1 wz D hD
    have h : OkV T X.K R F ((if heldB it.held S1 = true then (match lcZ2 t it.held c vs1 di1 t1 c1 el (wipeZ l vs) it.items S1 with
      | .ok xs S2 => if xs.length ≤ 16777216 then Out.ok xs S2 else .bad
      | _ => .bad) else .bad).bind k) Q (E σ) := h
    split at h
    · rename_i hh
      cases hl : lcZ2 t it.held c vs1 di1 t1 c1 el (wipeZ l vs) it.items S1 with
      | ok xs S9 =>
        rw [hl] at h
        simp only at h
        split at h
        · rename_i hsz
          exact lc2_ok hvs hvs1 r1 (e.mono p ex) wz hh hsz hl (hk xs S9 R1 F1 D (OkV.mono p ex h)) hD
        · exact h.elim
      | err z S9 => rw [hl] at h; exact h.elim
      | bad => rw [hl] at h; exact h.elim
    · exact h.elim
/-- the blocks' derivations -/
structure Blk2 (T : Tb) (X : Cx) (scope : Scope) (tg : Expr) (ifs : List Expr) (tg1 iter1 : Expr) (ifs1 : List Expr) (elt : Expr) (t : TgZ) (c : DB) (di1 : DI) (t1 : TgZ) (c1 : DB) (el : DE) : Prop where
  tg : ∀ (s : Shared) (H : Hp) (C : Addr) (cl : List (Str × Addr)) (fp : List Addr), JG (X.blk s H scope (compEnvC scope cl C X.env) fp) tg t
  ts : ∀ (s : Shared) (H : Hp) (C : Addr) (cl : List (Str × Addr)) (fp : List Addr), JTs T (X.blk s H scope (compEnvC scope cl C X.env) fp) E00 ifs c
  hi : ∀ (s : Shared) (H : Hp) (C : Addr) (cl : List (Str × Addr)) (fp : List Addr), JI T (X.blk s H scope (compEnvC scope cl C X.env) fp) E00 tg1 iter1 di1
  tg1 : ∀ (s : Shared) (H : Hp) (C : Addr) (cl : List (Str × Addr)) (fp : List Addr), JG (X.blk s H scope (compEnvC scope cl C X.env) fp) tg1 t1
  ts1 : ∀ (s : Shared) (H : Hp) (C : Addr) (cl : List (Str × Addr)) (fp : List Addr), JTs T (X.blk s H scope (compEnvC scope cl C X.env) fp) E00 ifs1 c1
  el : ∀ (s : Shared) (H : Hp) (C : Addr) (cl : List (Str × Addr)) (fp : List Addr), JE T (X.blk s H scope (compEnvC scope cl C X.env) fp) E00 elt el
theorem js_setLc2 (i : Nat) (own : List (Str × Nat)) (vs1 : List Nat) {y : Str} {py spos : Pos} (hc : X.calm = true) (hN : X.N.Nodup) (hi : JI T X E tg iter di) (hb : Blk2 T X scope tg ifs tg1 iter1 ifs1 elt t c di1 t1 c1 el) (ok : BlkOk X.N X.env.scope scope own) (hy : X.N[i]? = some y := by rfl) (hyl : X.env.scope.names.lookup y = some .local := by rfl)
    (hsw : swapsWith (.ListComp elt [⟨tg, iter, ifs, 0⟩, ⟨tg1, iter1, ifs1, 0⟩] scope pos) (some (.Name y py)) spos.line X.env = pure true := by rfl) (hvs : ∀ i ∈ t.slots, i ∈ own.map (·.2) := by decide) (hvs1 : ∀ i ∈ t1.slots, i ∈ vs1 := by decide) (hv : ∀ i ∈ vs1, i ∈ own.map (·.2) := by decide)
    (hs : ∀ x, foldedSetIterable iter X.env x = pure x := by intro _; rfl) (hs1 : ∀ env x, foldedSetIterable iter1 env x = pure x := by intro _ _; rfl) : JS T X E (.Assign [.Name y py] (.ListComp elt [⟨tg, iter, ifs, 0⟩, ⟨tg1, iter1, ifs1, 0⟩] scope pos) spos) (dSet i (dLc2 (own.map (·.2)) vs1 di t c di1 t1 c1 el)) :=
  ps_imp (ps_setLc2 hc hN hy hyl hsw hi ok hv hb.tg hb.ts hb.hi hb.tg1 hb.ts1 hb.el hs hs1) fun D σ H h => lc2_t hvs hvs1 (asg_st h) fun xs S R F D h => fin_nd h
end
end Z
end
end
section
set_option Elab.async false
set_option linter.all false
set_option maxRecDepth 100000
set_option maxHeartbeats 1000000
/-! YF: list.pop(i), extend, d.get(k), del d[k], o.f += e, a thing closed where it is named last. -/
noncomputable section
namespace Z
open PySem PySem.Spec PyProof.Rows L2

/-! ### a thing that may change, closed -/
section
variable {T : Tb} {X : Cx} {E : XS} {o e i value : Expr} {dO de di dv d : DE} {apos cpos pos tpos : Pos}
/-! ### list.pop(i), list.extend(xs) -/

/-! ### d.get(k) -/
section
variable {pins : List (Addr × Obj)} {σ : L2.St} {H : Hp} {s : Shared} {a : Addr} {y : V} {u : Value} {ov : Option V} {A : Around} {Ev : Value → Shared → Prop}
end

/-! ### del d[k] -/

/-! ### o.f += e -/
end
end Z
end
end
section
set_option Elab.async false
set_option linter.all false
set_option maxRecDepth 100000
set_option maxHeartbeats 1000000
/-! YG: d.items(), d.values() walked, keys of both kinds. -/
noncomputable section
namespace Z
open PySem PySem.Spec PyProof.Rows L2

section
variable {P : Program} {w : World} {K : PySem.W.Frag} {tg : Expr} {d : Addr} {o : Obj} {es : Array DictEntry} {ep : Nat}
end
section
variable {X : Cx} {tg e : Expr} {td : TE} {apos cpos : Pos}
end

/-! ### by values -/
section
variable {T : Tb} {K : PySem.W.Frag} {R1 : Pl} {F1 : Hp} {d : Addr} {od : Obj}
end
section
variable {T : Tb} {X : Cx} {E : XS} {tg e : Expr} {de : DE} {apos cpos : Pos}
end
end Z
end
end
section
set_option Elab.async false
set_option linter.all false
set_option maxRecDepth 100000
set_option maxHeartbeats 1000000
/-! YH: *d.values() among arguments. -/
noncomputable section
namespace Z
open PySem PySem.Spec PyProof.Rows L2

section
variable {X : Cx} {pins : List (Addr × Obj)} {σ : L2.St} {H : Hp} {s : Shared} {a : Addr}
end
section
variable {X : Cx} {e : Expr} {es : List Expr} {apos cpos p : Pos}
end
end Z
end
end
section
set_option Elab.async false
set_option linter.all false
set_option maxRecDepth 100000
set_option maxHeartbeats 2000000
/-! YI: C(), C(k = v, ..) in any order, C() without an own __init__. -/
noncomputable section
namespace Z
open PySem PySem.Spec PyProof.Rows L2

/-! ### C(k = v, ..), the keywords in any order -/
section
variable {T : Tb} {X : Cx} {E : XS} {x : Str} {e : Expr} {es : List Expr} {ar : DA} {d : DF} {p pos kpos : Pos} {c : Nat} {ps nms : List Str} {π : List Nat} {j k : Nat} {kws : List Keyword}

/-! ### C() -/

/-! ### C(), object's own __init__ -/
structure New0 (T : Tb) (K : PySem.W.Frag) (mg : Str → Option Value) (x : Str) (c : Nat) : Prop where
  at_ : mg x = some (.ref (T.ca K c))
  makes : PySem.W.makesIn K (T.ca K c) = true
  init : PySem.W.findIn K (.ref (T.ca K c)) "__init__" = some (some (.builtin "object.__init__"))
  kp : PySem.W.keepIn K (.ref (T.ca K c)) = true
  top : PySem.W.mroIn K (T.ca K c) (.type "object") = some true
end
end Z
end
end
section
set_option Elab.async false
set_option linter.all false
set_option maxRecDepth 100000
set_option maxHeartbeats 2000000
/-! YJ: for in a generator's body. -/
noncomputable section
namespace Z
open PySem PySem.Spec PyProof.Rows L2 GenW

section
variable {M : Model} {A : Around} {R : GenEnd} {Y : Protocol} {n : Nat} {s₀ : Shared} {c : Code} {fs : List Frame} {s : Shared} {env : Env}
  {K : Flow → Sem PySem.Fin} {H : Value → Sem PySem.Fin} {gd : Bool → Bool} {lv : List Value → List Value}
end
section
variable {prog : Program} {w : World} {A : Around} {R : GenEnd} {Y : Protocol} {n : Nat} {s₀ : Shared} {fs : List Frame} {s : Shared} {env : Env}
end
section
variable {X : Cx}
end
end Z
end
end
section
set_option Elab.async false
set_option linter.all false
set_option maxRecDepth 100000
set_option maxHeartbeats 2000000
/-! YK: the truth of what may be of several own classes. -/
noncomputable section
namespace Z
open PySem PySem.Spec PyProof.Rows L2

abbrev RTru := V → Hp → (Bool → Hp → Prop) → Prop
section
variable {T : Tb} {X : Cx} {E : XK} {c j k : Nat} {d : DF} {a : Expr} {da : DE} {f : PV → Sto → Out Bool} {r : RTru} {pos : Pos}
end
end Z
end
end
section
set_option Elab.async false
set_option linter.all false
set_option maxRecDepth 100000
set_option maxHeartbeats 2000000
/-! YL: generators: defs that they call; list(g). -/
noncomputable section
namespace Z
open PySem PySem.Spec PyProof.Rows L2 GenW

/-! ### defs that ask for no guards -/
structure Cg0 (X : Cx) (E : XS) (k : Nat) : Prop where
  calm : X.calm = true
  nd : X.N.Nodup
  room : Room k X.A
  takes : Takes X (fun cls d σ H => E σ cls d H)
  own : PassesOwn (model X.prog X.w) X.A X.env X.xe
theorem Cg0.pass {X : Cx} {E : XS} {k : Nat} (c : Cg0 X E k) (pins : List (Addr × Obj)) (σ : L2.St) (H : Hp) (s : Shared) (e : Value) (s' : Shared) (I : Inv X pins σ H s) (q : L2.CX X.prog X.w X.stack H s (E σ) e s') : X.xe e s' :=
  c.takes e s' (XE.of_call I (fun _ _ _ h => h) q)
theorem Cg0.hu {X : Cx} {E : XS} {k : Nat} (c : Cg0 X E k) : X.A.units + 64 < cLine := c.room.units
theorem Cg0.hu1 {X : Cx} {E : XS} {k : Nat} (c : Cg0 X E k) : X.A.units + 1 < cLine := by have := c.hu; omega
theorem Cg.z {X : Cx} {E : XS} {k : Nat} (c : Cg X E k) : Cg0 X E k := ⟨c.calm, c.nd, c.room, c.takes, c.own⟩
structure FnG0 (T : Tb) (P : Program) (w : World) (K : PySem.W.Frag) (mg : Str → Option Value) (base : Heap) (k : Nat) (f : Addr) (fd : FuncData) (ps : List Str) (d : DF) : Prop where
  run : ∀ (A : Around) (outer : List Env) (s : Shared) (H : Hp) (args : Args) (us : List Value) (vs : List V) (Q : VK) (E : XK), Room k A → Env0 P w K mg base A outer s H → BindsTo s fd args (ps.zip us) → Vals vs us → spOf T K ps.length d vs H Q E →
    codeAny (model P w) A (.call (.ref f) args) (CR (L2.CX P w) outer P w H s Q E) s
theorem FnG0.g {T : Tb} {P : Program} {w : World} {K : PySem.W.Frag} {mg : Str → Option Value} {base : Heap} {k : Nat} {f : Addr} {fd : FuncData} {ps : List Str} {d : DF} (G : FnG0 T P w K mg base k f fd ps d) : FnG T P w K mg base k f fd ps d :=
  ⟨fun A outer s H args us vs Q E hr _ => G.run A outer s H args us vs Q E hr⟩
structure Fn0 (T : Tb) (P : Program) (w : World) (K : PySem.W.Frag) (mg : Str → Option Value) (base : Heap) (k : Nat) (x : Str) (ps : List Str) (d : DF) : Prop where
  ex : ∃ (f : Addr) (fd : FuncData), mg x = some (.ref f) ∧ PySem.W.keepIn K (.ref f) = true ∧ FnG0 T P w K mg base k f fd ps d ∧ Binds K fd ps [] ∧ (∀ (s : Shared) (ws : List Value), K.In s.heap → ws.length = ps.length → BindsTo s fd ⟨[], ps.zip ws⟩ (ps.zip ws)) ∧ ∃ oc od osl, K.lookup f = some ⟨oc, od, .func fd, osl⟩
  ar : ∀ (xs : List PV) (S : Sto), xs.length ≠ ps.length → d xs S = .bad
theorem Fn0.fn {T : Tb} {P : Program} {w : World} {K : PySem.W.Frag} {mg : Str → Option Value} {base : Heap} {k : Nat} {x : Str} {ps : List Str} {d : DF} (F : Fn0 T P w K mg base k x ps d) : Fn T P w K mg base k x ps d := by
  obtain ⟨f, fd, h1, h2, h3, h4⟩ := F.ex
  exact ⟨⟨f, fd, h1, h2, h3.g, h4⟩, F.ar⟩
section
variable {T : Tb} {P : Program} {w : World} {K : PySem.W.Frag} {mg : Str → Option Value} {base : Heap} {x qual : Str} {params : Arguments} {body : List Stmt} {scope : Scope} {dvs : List V} {kws : List (Str × V)} {f : Addr} {fd : FuncData} {N ps : List Str} {k : Nat} {b : DS}
theorem FnG0.clo {d : DF} (G : FnG0 T P w K mg base k f fd ps d) : FnG0 T P w K mg base k f fd ps (Z.clo d) :=
  ⟨fun A outer s H args us vs Q E hr e0 hb hv ⟨hl, R, F, S, xs, r, rx, h⟩ =>
    let ⟨R', S', r', rx', h'⟩ := clo_ok r rx h
    G.run A outer s H args us vs Q E hr e0 hb hv ⟨hl, R', F, S', xs, r', rx', h'⟩⟩
theorem Fn0.clo {d : DF} (F : Fn0 T P w K mg base k x ps d) : Fn0 T P w K mg base k x ps (Z.clo d) := by
  obtain ⟨f, fd, h1, h2, h3, h4⟩ := F.ex
  exact ⟨⟨f, fd, h1, h2, h3.clo, h4⟩, fun xs S hl => clo_bad (fun S => F.ar xs S hl) S⟩
end
section
variable {T : Tb} {X : Cx} {E : XS} {x : Str} {p pos : Pos} {e : Expr} {es : List Expr} {ps : List Str} {d : DF} {ar : DA} {j k : Nat} {f : Addr} {fd : FuncData} {ds : List Value} {dvs : List V}
end
section
variable {T : Tb} {X : Cx} {E : XS} {x : Str} {c j k : Nat} {fs : List Nat} {e : Expr} {es : List Expr} {ar : DA} {p pos rpos : Pos}
end

/-! ### a generator's body: statements, then one for that hands out an item in each turn -/
abbrev DGn := Loc → Sto → Out (List PV)
section
variable {T : Tb} {X : Cx} {E : XK} {st : Stmt} {rest : List Stmt} {ds : DS} {g : DGn}
end
end Z
end
end
section
set_option Elab.async false
set_option linter.all false
set_option maxRecDepth 100000
set_option maxHeartbeats 2000000
/-! YM: generator defs, list(g(..)). -/
noncomputable section
namespace Z
open PySem PySem.Spec PyProof.Rows L2 GenW

section
variable {T : Tb} {P : Program} {w : World} {K : PySem.W.Frag} {mg : Str → Option Value} {base : Heap} {x qual : Str} {params : Arguments} {body : List Stmt} {scope : Scope} {kws : List (Str × V)} {f : Addr} {fd : FuncData} {N ps : List Str} {k : Nat} {g : DGn}
end
section
variable {T : Tb} {X : Cx} {E : XK} {x : Str} {n j k : Nat} {e : Expr} {es : List Expr} {ar : DA} {d : List PV → Sto → Out (List PV)} {p p2 pos pos' : Pos} {l : List Nat} {mk : List PV → Sto → Out PV}
end
end Z
end
end
section
set_option Elab.async false
set_option linter.all false
set_option maxRecDepth 100000
set_option maxHeartbeats 1000000
/-! YO: dict displays with keys of any kind. -/
noncomputable section
namespace Z
open PySem PySem.Spec PyProof.Rows L2

section
variable {X : Cx} {pins : List (Addr × Obj)} {σ : L2.St}
end
section
variable {T : Tb} {X : Cx} {E : XS} {pos : Pos} {k : Nat}
end
end Z
end
end
section
set_option Elab.async false
set_option linter.all false
set_option maxRecDepth 100000
set_option maxHeartbeats 1000000
/-! YP: zip(*texts), each tuple kept by a name. -/
noncomputable section
namespace Z
open PySem PySem.Spec PyProof.Rows L2

theorem outne {n0 m j c : Nat} (h : c < n0 ∨ n0 + m ≤ c) (hj : j < m) : c ≠ n0 + j := by omega
/-- the iterators, the first j of them one step on -/
def ItsAt (h : Heap) (n0 : Nat) (zs : List Str) (i j : Nat) : Prop := ∀ k x, zs[k]? = some x → ∃ t, h.IsStrIter (n0 + k) (PySem.strIterType x) x t (if k < j then i + 1 else i)
/-- the i-th signs of the first j texts -/
def CharsAt (zs : List Str) (i j : Nat) (vs : List Value) : Prop := ∀ k x, k < j → zs[k]? = some x → ∃ c u, x.cps[i]? = some c ∧ vs[k]? = some (.str ⟨#[c]⟩ u)
theorem ItsAt.keep {h h' : Heap} {n0 : Nat} {zs : List Str} {i j : Nat} (a : ItsAt h n0 zs i j) (k : ∀ q o, q < zs.length → h.get? (n0 + q) = some o → h'.get? (n0 + q) = some o) : ItsAt h' n0 zs i j := fun q x hq => by
  obtain ⟨t, o, ho, r⟩ := a q x hq
  exact ⟨t, o, k q o (List.getElem?_eq_some_iff.mp hq).1 ho, r⟩
section
variable {prog : Program} {w : World} {A : Around} {E : Value → Shared → Prop} {s : Shared} {n0 i : Nat} {zs : List Str}
/-- nothing else is changed -/
def OthN (n0 m : Nat) (h h' : Heap) : Prop := h'.objs.size = h.objs.size ∧ ∀ c o, c < n0 ∨ n0 + m ≤ c → h.get? c = some o → h'.get? c = some o
theorem OthN.step {m j : Nat} {h h1 h2 : Heap} (a : OthN n0 m h h1) (b : Heap.SameBut (n0 + j) h1 h2) (hj : j < m) : OthN n0 m h h2 := ⟨by rw [b.1, a.1], fun c o hc q => b.extBut _ _ (outne hc hj) (a.2 c o hc q)⟩
theorem OthN.skip {m : Nat} {h h1 h2 : Heap} {c0 : Nat} (a : OthN n0 m h h1) (b : Heap.SameBut c0 h1 h2) : h2.objs.size = h.objs.size ∧ ∀ c o, c ≠ c0 → (c < n0 ∨ n0 + m ≤ c) → h.get? c = some o → h2.get? c = some o := ⟨by rw [b.1, a.1], fun c o ne hc q => b.extBut _ _ ne (a.2 c o hc q)⟩
/-- what stands besides the iterators and the tuple that is written -/
def OthA (n0 m : Nat) (h h' : Heap) : Prop := h'.objs.size = h.objs.size ∧ ∀ c o, (c < n0 ∨ n0 + m ≤ c) → c ≠ n0 + m + 1 → h.get? c = some o → h'.get? c = some o
theorem OthA.it {m j : Nat} {h h1 h2 : Heap} (a : OthA n0 m h h1) (b : Heap.SameBut (n0 + j) h1 h2) (hj : j < m) : OthA n0 m h h2 := ⟨by rw [b.1, a.1], fun c o hc e q => b.extBut _ _ (outne hc hj) (a.2 c o hc e q)⟩
theorem OthA.to {m : Nat} {h h1 h2 : Heap} (a : OthA n0 m h h1) (b : Heap.SameBut (n0 + m + 1) h1 h2) : OthA n0 m h h2 := ⟨by rw [b.1, a.1], fun c o hc e q => b.extBut _ _ e (a.2 c o hc e q)⟩
theorem CharsAt.put {j : Nat} {vs : List Value} {x : Str} {c : Nat} {u : Tok} (ch : CharsAt zs i j vs) (hl : j < vs.length) (hx : zs[j]? = some x) (hc : x.cps[i]? = some c) : CharsAt zs i (j + 1) (vs.set j (.str ⟨#[c]⟩ u)) := fun k y hk hy => by
  by_cases e : k = j
  · subst e
    rw [hx] at hy
    cases hy
    exact ⟨c, u, hc, by rw [List.getElem?_set_self hl]⟩
  · obtain ⟨c', u', q1, q2⟩ := ch k y (by omega) hy
    exact ⟨c', u', q1, by rw [List.getElem?_set_ne (fun z => e z.symm)]; exact q2⟩
theorem ItsAt.next {h : Heap} (a : ItsAt h n0 zs i zs.length) : ItsAt h n0 zs (i + 1) 0 := fun k x hx => by
  obtain ⟨t, st⟩ := a k x hx
  rw [if_pos (List.getElem?_eq_some_iff.mp hx).1] at st
  exact ⟨t, by rw [if_neg (Nat.not_lt_zero k)]; exact st⟩
end
end Z
end
end
section
set_option Elab.async false
set_option linter.all false
set_option maxRecDepth 100000
set_option maxHeartbeats 1000000
/-! YQ: zip(*texts) as what is walked. -/
noncomputable section
namespace Z
open PySem PySem.Spec PyProof.Rows L2
section
variable {prog : Program} {w : World} {A : Around} {E : Value → Shared → Prop} {s : Shared}
end
end Z
end
end
section
set_option Elab.async false
set_option linter.all false
set_option maxRecDepth 100000
set_option maxHeartbeats 1000000
/-! YR: >= of tuples. -/
noncomputable section
namespace Z
open PySem PySem.Spec PyProof.Rows L2
end Z
end
end
section
set_option Elab.async false
set_option linter.all false
set_option maxRecDepth 100000
set_option maxHeartbeats 2000000
/-! YS: errors made by a call, held as values. -/
namespace PySem
namespace ZXK
open PySem.W PySem.Calls PyProof.Rows PySem.HandSPX Builtin Builtin.ObjectAttr
/-! ### an error's class called with keywords alone -/
section
variable {prog : Program} {w : World} {A : Around} {E : Value → Shared → Prop} {R : Result → Shared → Prop} {h : Heap} {g : Array GenState} {d : Drawn} {t : Nat} {os : OsState}
variable {nm q : Str} {C N : Addr} {bs bm bmB : List Value} {hdct : Bool} {sn : List Str} {sub : List Value} {ab : Bool} {col : Option Bool} {dd : Option Addr} {k0 k1 k2 k3 k5 : Option Value} {B newId initId : String}
end
end ZXK
end PySem
noncomputable section
namespace Z
open PySem PySem.Spec PyProof.Rows L2

section
variable {T : Tb} {K : PySem.W.Frag} {R : Pl} {F H : Hp} {S : Sto} {Q : VK}
end
section
variable {T : Tb} {X : Cx} {E : XS} {x : Str} {c j k : Nat} {fs : List Nat} {e : Expr} {es : List Expr} {ar : DA} {p pos rpos : Pos}
end
section
variable {T : Tb} {X : Cx} {E : XS} {x : Str} {c j k : Nat} {fs : List Nat} {ar : DA} {p pos : Pos} {kw : Keyword} {kws : List Keyword} {nms : List Str} {π : List Nat}

/-! ### an error's class without an __init__ of its own, without arguments -/
end
end Z
end
end
section
set_option Elab.async false
set_option linter.all false
set_option maxRecDepth 100000
set_option maxHeartbeats 2000000
/-! YT: repr of data with dicts in it. -/
noncomputable section
namespace Z
open PySem PySem.Spec PyProof.Rows L2

def keyD : Key → PyData
  | .inl i => .int i
  | .inr x => .str x
def pkD : PK → PyData
  | .k x => keyD x
  | .t xs => .tuple (xs.map keyD)
mutual
inductive Dq (K : PySem.W.Frag) (H : Hp) : V → PyData → Prop
  | non : Dq K H .non .none
  | bl (b : Bool) : Dq K H (.bl b) (.bool b)
  | int (i : Int) : Dq K H (.int i) (.int i)
  | str (x : Str) : Dq K H (.str x) (.str x)
  | lst {a : Addr} {xs : List V} {ds : List PyData} : SqL K H a xs → DqAll K H xs ds → Dq K H (.ref a) (.list ds)
  | tup {a : Addr} {xs : List V} {ds : List PyData} : SqT K H a xs → DqAll K H xs ds → Dq K H (.ref a) (.tuple ds)
  | dk {a : Addr} {kk : List Key} {us : List V} {ds : List PyData} : us.length = kk.length → Rd H a (.dK (kk.zip us)) → DqAll K H us ds → Dq K H (.ref a) (.dict ((kk.map keyD).zip ds))
  | dt {a : Addr} {kk : List (List Key)} {us : List V} {ds : List PyData} : us.length = kk.length → Rd H a (.dT (kk.zip us)) → DqAll K H us ds → Dq K H (.ref a) (.dict ((kk.map fun ks => .tuple (ks.map keyD)).zip ds))
inductive DqAll (K : PySem.W.Frag) (H : Hp) : List V → List PyData → Prop
  | nil : DqAll K H [] []
  | cons {v : V} {vs : List V} {d : PyData} {ds : List PyData} : Dq K H v d → DqAll K H vs ds → DqAll K H (v :: vs) (d :: ds)
end
theorem smB_no {K : PySem.W.Frag} {h : Heap} (e : smB K = true) (kin : K.In h) {a : Addr} {o : Obj} (ho : h.get? a = some o) (hc : o.cls = .type "list") : a ≠ sysModules := fun z => by
  unfold smB at e
  split at e
  · rename_i o' hl
    have q := kin _ _ hl
    rw [← z, ho] at q
    cases q
    rw [hc] at e
    cases e
  · cases e
section
variable {X : Cx} {pins : List (Addr × Obj)} {σ : L2.St} {H : Hp} {s : Shared}
theorem reads_keys {P : Program} {w : World} {h : Heap} : ∀ {es : List DictEntry} {vs : List (Key × Value)}, Pairs (mixKind P w) es vs → ReadsAll h (es.map (·.key)) (vs.map fun p => keyD p.1) []
  | _, _, .nil => .nil
  | _, _, .cons (e := e) (kv := kv) hk hv t => by
    have r := reads_keys (h := h) t
    have hk' : keyIs kv.1 e.key = true := hk
    rcases keyIs_shape hk' with ⟨i, t, e1, e2⟩ | ⟨x, t, e1, e2⟩
    · rw [List.map_cons, List.map_cons, e2, e1]
      exact ReadsAll.cons (as := []) (bs := []) (Reads.int i t) r
    · rw [List.map_cons, List.map_cons, e2, e1]
      exact ReadsAll.cons (as := []) (bs := []) (Reads.str x t) r
theorem pairs_vals {P : Program} {w : World} : ∀ {es : List DictEntry} {vs : List (Key × Value)}, Pairs (mixKind P w) es vs → es.map (·.val) = vs.map (·.2)
  | _, _, .nil => rfl
  | _, _, .cons hk hv t => by rw [List.map_cons, List.map_cons, pairs_vals t, hv]
theorem kv_split : ∀ {kk : List Key} {us : List V} {vs : List (Key × Value)}, us.length = kk.length → KV (kk.zip us) vs → (vs.map (·.1)) = kk ∧ Vals us (vs.map (·.2))
  | [], [], vs, _, r => by cases r; exact ⟨rfl, .nil⟩
  | [], _ :: _, _, e, _ => by simp at e
  | _ :: _, [], _, e, _ => by simp at e
  | k :: kk, u :: us, vs, e, r => by
    cases r with
    | cons h t =>
      obtain ⟨e1, e2⟩ := h
      obtain ⟨q1, q2⟩ := kv_split (by simpa using e) t
      exact ⟨by rw [List.map_cons, q1, ← e1], .cons e2 q2⟩
theorem kt_split : ∀ {kk : List (List Key)} {us : List V} {vs : List (List Key × Addr × Value)}, us.length = kk.length → KT H (kk.zip us) vs → (vs.map (·.1)) = kk ∧ Vals us (vs.map (·.2.2)) ∧ ∀ q ∈ vs, H q.2.1 = some (.tup (q.1.map kV))
  | [], [], vs, _, r => by cases r; exact ⟨rfl, .nil, fun q hq => nomatch hq⟩
  | [], _ :: _, _, e, _ => by simp at e
  | _ :: _, [], _, e, _ => by simp at e
  | k :: kk, u :: us, vs, e, r => by
    cases r with
    | cons h t =>
      obtain ⟨e1, e2, e3⟩ := h
      obtain ⟨q1, q2, q3⟩ := kt_split (by simpa using e) t
      refine ⟨by rw [List.map_cons, q1, ← e1], .cons e3 q2, fun q hq => ?_⟩
      rcases List.mem_cons.mp hq with z | z
      · rw [z, ← e1]; exact e2
      · exact q3 q z
theorem keys_read {h : Heap} : ∀ {ks : List Key} {its : List Value}, Vals (ks.map kV) its → ReadsAll h its (ks.map keyD) []
  | [], _, r => by cases r; exact .nil
  | k :: ks, _, r => by
    cases r with
    | cons r1 r2 =>
      have q := keys_read (h := h) r2
      cases k with
      | inl i => obtain ⟨t, rfl⟩ := r1; exact ReadsAll.cons (as := []) (bs := []) (Reads.int i t) q
      | inr x => obtain ⟨t, rfl⟩ := r1; exact ReadsAll.cons (as := []) (bs := []) (Reads.str x t) q
theorem tkeys_read (I : Inv X pins σ H s) : ∀ {vs : List (List Key × Addr × Value)}, (∀ q ∈ vs, H q.2.1 = some (.tup (q.1.map kV))) → ReadsAll s.heap (vs.map fun q => Value.ref q.2.1) (vs.map fun q => PyData.tuple (q.1.map keyD)) []
  | [], _ => .nil
  | q :: vs, h => by
    have t := tkeys_read I (vs := vs) fun p hp => h p (List.mem_cons_of_mem _ hp)
    obtain ⟨_, its, r, o, h1, h2, n, h3⟩ := (show ObjOk X.prog X.w H s.heap q.2.1 (.tup (q.1.map kV)) from I.hok _ _ (h q List.mem_cons_self))
    exact ReadsAll.cons (as := []) (bs := []) (Reads.tuple h1 h2 h3 (by simpa using keys_read r)) t
mutual
theorem Dq.reads (hsm : smB X.K = true) (I : Inv X pins σ H s) : ∀ (v : V) (d : PyData) (u : Value), Dq X.K H v d → RelV v u → ∃ as, Reads s.heap u d as ∧ sysModules ∉ as
  | _, _, _, .non, r => by cases r; exact ⟨_, Reads.none, by simp⟩
  | _, _, _, .bl b, r => by cases r; exact ⟨_, Reads.bool b, by simp⟩
  | _, _, _, .int i, r => by obtain ⟨t, rfl⟩ := r; exact ⟨_, Reads.int i t, by simp⟩
  | _, _, _, .str x, r => by obtain ⟨t, rfl⟩ := r; exact ⟨_, Reads.str x t, by simp⟩
  | _, _, _, .lst hs ha, r => by
    cases r
    obtain ⟨its, rv, ⟨o, n, ho, hc, _, hd⟩, _⟩ := I.list hs
    obtain ⟨as, hr, hn⟩ := DqAll.reads hsm I _ _ its ha rv
    refine ⟨_, Reads.list ho hc hd hr, fun z => ?_⟩
    rcases List.mem_cons.mp z with z | z
    · exact smB_no hsm I.kIn ho hc z.symm
    · exact hn z
  | _, _, _, .tup hs ha, r => by
    cases r
    obtain ⟨its, rv, ⟨o, ho, hc, n, hd⟩, _⟩ := I.tuple hs
    obtain ⟨as, hr, hn⟩ := DqAll.reads hsm I _ _ its ha rv
    exact ⟨_, Reads.tuple ho hc hd hr, hn⟩
  | _, _, _, .dk (a := a) (kk := kk) (us := us) (ds := ds) hl hd ha, r => by
    cases r
    obtain ⟨_, hs, vs, rel, o, es, n, h1, ⟨h2, _⟩, h3, _, h4, _⟩ := dk_rd I.hok hd
    obtain ⟨e1, e2⟩ := kv_split hl rel
    obtain ⟨bs, hr, hn⟩ := DqAll.reads hsm I _ _ _ ha e2
    have ld : ds.length = us.length := ha.length
    have k1 : ((kk.map keyD).zip ds).map (·.1) = vs.map fun p => keyD p.1 := by
      rw [List.map_fst_zip (by rw [List.length_map, ld, hl]; exact Nat.le_refl _), ← e1, List.map_map]; rfl
    have k2 : ((kk.map keyD).zip ds).map (·.2) = ds := List.map_snd_zip (by rw [List.length_map, ld, hl]; exact Nat.le_refl _)
    refine ⟨_, Reads.dict (as := []) (bs := bs) h1 h2 h3 (by rw [k1]; exact reads_keys h4) (by rw [k2, pairs_vals h4]; exact hr), fun z => ?_⟩
    have z : sysModules ∈ a :: bs := by simpa using z
    rcases List.mem_cons.mp z with z | z
    · rw [z] at hs; simp at hs
    · exact hn z
  | _, _, _, .dt (a := a) (kk := kk) (us := us) (ds := ds) hl hd ha, r => by
    cases r
    obtain ⟨_, hs, vs, rel, o, es, n, h1, ⟨h2, _⟩, h3, h4, _⟩ := dt_rd I.hok hd
    obtain ⟨e1, e2, e3⟩ := kt_split hl rel
    obtain ⟨bs, hr, hn⟩ := DqAll.reads hsm I _ _ _ ha e2
    have ld : ds.length = us.length := ha.length
    have k1 : ((kk.map fun ks => PyData.tuple (ks.map keyD)).zip ds).map (·.1) = vs.map fun q => PyData.tuple (q.1.map keyD) := by
      rw [List.map_fst_zip (by rw [List.length_map, ld, hl]; exact Nat.le_refl _), ← e1, List.map_map]; rfl
    have k2 : ((kk.map fun ks => PyData.tuple (ks.map keyD)).zip ds).map (·.2) = ds := List.map_snd_zip (by rw [List.length_map, ld, hl]; exact Nat.le_refl _)
    refine ⟨_, Reads.dict (as := []) (bs := bs) h1 h2 h3 (by
      rw [k1, h4, List.map_map]
      exact tkeys_read I e3) (by
      rw [k2, h4, List.map_map]
      exact hr), fun z => ?_⟩
    have z : sysModules ∈ a :: bs := by simpa using z
    rcases List.mem_cons.mp z with z | z
    · rw [z] at hs; simp at hs
    · exact hn z
theorem DqAll.reads (hsm : smB X.K = true) (I : Inv X pins σ H s) : ∀ (vs : List V) (ds : List PyData) (us : List Value), DqAll X.K H vs ds → Vals vs us → ∃ as, ReadsAll s.heap us ds as ∧ sysModules ∉ as
  | _, _, _, .nil, r => by cases r; exact ⟨_, ReadsAll.nil, by simp⟩
  | _, _, _, .cons h1 h2, r => by
    cases r with
    | cons r1 r2 =>
      obtain ⟨as, q1, n1⟩ := Dq.reads hsm I _ _ _ h1 r1
      obtain ⟨bs, q2, n2⟩ := DqAll.reads hsm I _ _ _ h2 r2
      exact ⟨_, ReadsAll.cons q1 q2, fun z => (List.mem_append.mp z).elim n1 n2⟩
theorem DqAll.length {K : PySem.W.Frag} {H : Hp} : ∀ {vs : List V} {ds : List PyData}, DqAll K H vs ds → ds.length = vs.length
  | _, _, .nil => rfl
  | _, _, .cons _ h2 => by rw [List.length_cons, List.length_cons, DqAll.length h2]
end
end

/-! ### as the values' -/
mutual
def datG : PV → Option PyData
  | .non => some .none
  | .bl b => some (.bool b)
  | .int i => some (.int i)
  | .str x => some (.str x)
  | .nd .lst xs => (datGL xs).map .list
  | .nd .scr xs => (datGL xs).map .list
  | .nd .tup xs => (datGL xs).map .tuple
  | .nd (.dct _ ks) xs => (datGL xs).map fun ds => .dict ((ks.map pkD).zip ds)
  | _ => none
def datGL : List PV → Option (List PyData)
  | [] => some []
  | x :: xs => (datG x).bind fun d => (datGL xs).map fun ds => d :: ds
end
def datGS (x : PV) (S : Sto) : Option PyData := match view x S with
  | some (k, xs) => datG (.nd k xs)
  | none => datG x
section
variable {T : Tb} {K : PySem.W.Frag} {R : Pl} {F H : Hp}
theorem shp_dq {a : Addr} {k : Kd} {us : List V} {xs : List PV} {d : PyData} (h : Shp T K H a k us) (e : datG (.nd k xs) = some d) (hx : ∀ ds, datGL xs = some ds → DqAll K H us ds) : Dq K H (.ref a) d := by
  cases k with
  | lst =>
    rw [datG, Option.map_eq_some_iff] at e
    obtain ⟨ds, h1, rfl⟩ := e
    exact .lst ((shp_rd h).1 (.inl rfl)) (hx ds h1)
  | scr =>
    rw [datG, Option.map_eq_some_iff] at e
    obtain ⟨ds, h1, rfl⟩ := e
    exact .lst ((shp_rd h).1 (.inr rfl)) (hx ds h1)
  | tup =>
    rw [datG, Option.map_eq_some_iff] at e
    obtain ⟨ds, h1, rfl⟩ := e
    exact .tup ((shp_rd h).2 rfl) (hx ds h1)
  | dct t ks =>
    rw [datG, Option.map_eq_some_iff] at e
    obtain ⟨ds, h1, rfl⟩ := e
    cases t with
    | false =>
      obtain ⟨hl, kk, rfl, hd⟩ := h
      rw [List.length_map] at hl
      rw [List.map_map, show (pkD ∘ PK.k) = keyD from rfl]
      exact .dk hl hd (hx ds h1)
    | true =>
      obtain ⟨hl, kk, rfl, hd⟩ := h
      rw [List.length_map] at hl
      rw [List.map_map, show (pkD ∘ PK.t) = fun ks => PyData.tuple (ks.map keyD) from rfl]
      exact .dt hl hd (hx ds h1)
  | ins c fs => simp [datG] at e
  | exn c fs => simp [datG] at e
  | clo a c q us => simp [datG] at e
mutual
theorem datG_dq (ex : Ex F H) : ∀ (x : PV) (u : V) (d : PyData), Rel T K R F x u → datG x = some d → Dq K H u d
  | .non, u, d, r, h => by rw [datG] at h; cases h; rw [Rel] at r; subst r; exact .non
  | .bl b, u, d, r, h => by rw [datG] at h; cases h; rw [Rel] at r; subst r; exact .bl b
  | .int i, u, d, r, h => by rw [datG] at h; cases h; rw [Rel] at r; subst r; exact .int i
  | .str x, u, d, r, h => by rw [datG] at h; cases h; rw [Rel] at r; subst r; exact .str x
  | .nd k xs, u, d, r, h => by
    rw [Rel] at r
    obtain ⟨a, us, rfl, hs, hl⟩ := r
    exact shp_dq (hs.mono ex) h fun ds e => datGL_dq ex xs us ds hl e
  | .ty n, u, d, r, h => by simp [datG] at h
  | .cls n, u, d, r, h => by simp [datG] at h
  | .ref n, u, d, r, h => by simp [datG] at h
theorem datGL_dq (ex : Ex F H) : ∀ (xs : List PV) (us : List V) (ds : List PyData), RelL T K R F xs us → datGL xs = some ds → DqAll K H us ds
  | [], us, ds, r, h => by rw [datGL] at h; cases h; rw [RelL] at r; subst r; exact .nil
  | x :: xs, us, ds, r, h => by
    rw [datGL, Option.bind_eq_some_iff] at h
    obtain ⟨d, h1, h2⟩ := h
    rw [Option.map_eq_some_iff] at h2
    obtain ⟨es, h3, rfl⟩ := h2
    rw [RelL] at r
    obtain ⟨u, vs, rfl, r1, r2⟩ := r
    exact .cons (datG_dq ex x u d r1 h1) (datGL_dq ex xs vs es r2 h3)
end
theorem datGS_dq {S : Sto} (r : Rep T K R F S H) {x : PV} {u : V} {d : PyData} (rx : Rel T K R F x u) (h : datGS x S = some d) : Dq K H u d := by
  unfold datGS at h
  split at h
  · rename_i k xs hv
    obtain ⟨a, us, rfl, hs, hl⟩ := view_rel r rx hv
    exact shp_dq hs h fun ds e => datGL_dq r.ex xs us ds hl e
  · exact datG_dq r.ex _ _ _ rx h
def reprG (xs : List PV) (S : Sto) : Out PV := match xs with
  | [x] => (match datGS x S with
    | some d => if d.showable = true ∧ d.depth ≤ 20 ∧ d.shown.length ≤ 16777216 then .ok (.str d.shown) S else .bad
    | none => .bad)
  | _ => .bad
def rReprG (K : PySem.W.Frag) : List V → Hp → VK → Prop := fun xs H Q => ∃ x d, xs = [x] ∧ Dq K H x d ∧ d.showable = true ∧ d.depth ≤ 20 ∧ d.shown.length ≤ sizeLine ∧ Q (.str d.shown) H
theorem cr_reprG {X : Cx} (hsm : smB X.K = true) (gd : X.A.guards = some []) (hu : X.A.units + 64 < cLine) : CallR X (.builtin "repr") (rReprG X.K) := by
  intro pins s σ H xs us Q I r h
  obtain ⟨x, d, rfl, hd, sh, dp, hz, q⟩ := h
  obtain ⟨u, rfl, rx⟩ := vals1 r
  obtain ⟨as, rd, hn⟩ := Dq.reads hsm I x d u hd rx
  cases hd with
  | non => cases rx; exact PySem.P.repr_of_none ⟨.str _, H, I.tok _, ⟨_, rfl⟩, q⟩
  | bl b => cases rx; exact PySem.P.repr_of_bool ⟨.str _, H, I.tok _, ⟨_, rfl⟩, q⟩
  | int i =>
    obtain ⟨t, rfl⟩ := rx
    exact PySem.P.repr_of_int (by simpa [PyData.showable] using sh) ⟨.str _, H, I.tok _, ⟨_, rfl⟩, q⟩
  | str z =>
    obtain ⟨t, rfl⟩ := rx
    exact PySem.P.repr_of_str ⟨.str _, H, I.tok _, ⟨_, rfl⟩, q⟩ hz
  | _ =>
    cases rx
    exact repr_of_reads' rd sh (fun _ => hn) gd (by omega) (fun b o e => e) (fun h' u tk k => ⟨.str _, H, I.kept k, ⟨_, rfl⟩, q⟩) hz
theorem cz_reprG : CalZ T K reprG (rReprG K) := by
  intro E R F H S xs us Q r rx h
  unfold reprG at h
  split at h
  · obtain ⟨u, rfl, r1⟩ := rel1 rx
    split at h
    · rename_i d hd
      split at h
      · rename_i hh
        exact ⟨u, d, rfl, datGS_dq r r1 hd, hh.1, hh.2.1, sz16 hh.2.2, PostV.here r (by rw [Rel]) h⟩
      · exact h.elim
    · exact h.elim
  · exact h.elim
end
end Z
end
section
set_option Elab.async false
set_option linter.all false
set_option maxRecDepth 100000
set_option maxHeartbeats 1000000
/-! YU: the head's hook that also sees the table of modules. -/
noncomputable section
namespace Z
open PySem PySem.Spec PyProof.Rows L2

/-! ### the sum of two lists as a thing that may change -/
end Z
end
end
section
set_option Elab.async false
set_option linter.all false
set_option maxRecDepth 100000
set_option maxHeartbeats 1000000
/-! YV: lemmas to reckon with. -/
noncomputable section
namespace Z
open PySem PySem.Spec PyProof.Rows L2
end Z
end
end
section
set_option Elab.async false
set_option linter.all false
set_option maxRecDepth 100000
set_option maxHeartbeats 2000000
/-! YW: == and != of data of all kinds. -/
namespace PySem
namespace ZDE
open PySem.SeqAt PyProof.Rows
/-! ### a dict beside a thing of another type: unlike -/
theorem dct_no {prog : Program} {w : World} {A : Around} {E : Value → Shared → Prop} {s : Shared} {d : Addr} {b : Value} {Tb : String} (hd : s.TypeIs (.ref d) "dict") (hb : s.TypeIs b Tb) (hs : isSubtype (.type Tb) (.type "dict") = pure false) (Q : Value → Shared → Prop) (hq : Q .notImplemented s) :
    wpAny (model prog w) A (call (.builtin "dict.__eq__") [.ref d, b]) Q E s := by
  refine wpAny_call_entry PySem.F.slot_dict_eq hd PySem.F.entry_dict_eq ?_ (PySem.F.args_dict_eq_2 _ _)
  show wpAny _ _ (Builtin.Dict.dictSlotArgs "__eq__" ⟨[.ref d, b], []⟩ >>= _) _ _ s
  unfold Builtin.Dict.dictSlotArgs
  refine wpAny_bind (wpAny_bind (wpAny_notOrdered_dict hd ?_))
  refine wpAny_pure ?_
  refine wpAny_bind (wpAny_isInstance hb hs ?_)
  rw [if_pos (by rfl)]
  exact wpAny_bind (wpAny_rule (wpAny_pure ⟨_, rfl, hq⟩))
theorem int_no_b (b : Bool) (l : Addr) (es : Array DictEntry) (n : Nat) (dd : Option Addr) (sl : Array (Option Value)) :
    Meets (Builtin.«int.__eq__» ⟨[.bool b, .ref l], []⟩) (fun _ R s => s.heap.get? l = some { cls := .type "dict", dict := dd, data := .dict es n, slots := sl } ∧ R (.ok (.ret .notImplemented)) s) :=
  .of_wp fun prog w A R s h => by obtain ⟨hp, g, d, tk, os⟩ := s; obtain ⟨hl, h⟩ := h; wp_walk using wpAny_loadPart' hl, wpAny_load hl; exact ⟨_, rfl, h⟩
theorem int_no_i (b : Int) (u : Tok) (l : Addr) (es : Array DictEntry) (n : Nat) (dd : Option Addr) (sl : Array (Option Value)) :
    Meets (Builtin.«int.__eq__» ⟨[.int b u, .ref l], []⟩) (fun _ R s => s.heap.get? l = some { cls := .type "dict", dict := dd, data := .dict es n, slots := sl } ∧ R (.ok (.ret .notImplemented)) s) :=
  .of_wp fun prog w A R s h => by obtain ⟨hp, g, d, tk, os⟩ := s; obtain ⟨hl, h⟩ := h; wp_walk using wpAny_loadPart' hl, wpAny_load hl; exact ⟨_, rfl, h⟩
theorem str_no (b : Str) (u : Tok) (l : Addr) (es : Array DictEntry) (n : Nat) (dd : Option Addr) (sl : Array (Option Value)) :
    Meets (Builtin.«str.__eq__» ⟨[.str b u, .ref l], []⟩) (fun _ R s => s.heap.get? l = some { cls := .type "dict", dict := dd, data := .dict es n, slots := sl } ∧ R (.ok (.ret .notImplemented)) s) :=
  .of_wp fun prog w A R s h => by obtain ⟨hp, g, d, tk, os⟩ := s; obtain ⟨hl, h⟩ := h; wp_walk using wpAny_loadPart' hl, wpAny_load hl; exact ⟨_, rfl, h⟩
theorem lst_no (a : Addr) (its : Array Value) (m : Nat) (d1 : Option Addr) (s1 : Array (Option Value)) (l : Addr) (es : Array DictEntry) (n : Nat) (dd : Option Addr) (sl : Array (Option Value)) :
    Meets (Builtin.«list.__eq__» ⟨[.ref a, .ref l], []⟩) (fun _ R s => (s.heap.get? a = some { cls := .type "list", dict := d1, data := .seq its m, slots := s1 } ∧ s.heap.get? l = some { cls := .type "dict", dict := dd, data := .dict es n, slots := sl }) ∧ R (.ok (.ret .notImplemented)) s) :=
  .of_wp fun prog w A R s h => by obtain ⟨hp, g, d, tk, os⟩ := s; obtain ⟨⟨ha, hl⟩, h⟩ := h; have f1 := F.sub_dict_list; wp_walk using wpAny_loadPart' ha, wpAny_loadPart' hl, wpAny_load hl; exact ⟨_, rfl, h⟩
theorem tup_no (a : Addr) (its : Array Value) (m : Nat) (d1 : Option Addr) (s1 : Array (Option Value)) (l : Addr) (es : Array DictEntry) (n : Nat) (dd : Option Addr) (sl : Array (Option Value)) :
    Meets (Builtin.«tuple.__eq__» ⟨[.ref a, .ref l], []⟩) (fun _ R s => (s.heap.get? a = some { cls := .type "tuple", dict := d1, data := .seq its m, slots := s1 } ∧ s.heap.get? l = some { cls := .type "dict", dict := dd, data := .dict es n, slots := sl }) ∧ R (.ok (.ret .notImplemented)) s) :=
  .of_wp fun prog w A R s h => by obtain ⟨hp, g, d, tk, os⟩ := s; obtain ⟨⟨ha, hl⟩, h⟩ := h; have f1 := F.sub_dict_tuple; wp_walk using wpAny_loadPart' ha, wpAny_loadPart' hl, wpAny_load hl; exact ⟨_, rfl, h⟩
/-- some dict stands at l -/
def IsDct (s : Shared) (l : Addr) : Prop := ∃ o, s.heap.get? l = some o ∧ o.cls = .type "dict" ∧ ∃ es n, o.data = .dict es n
theorem same_no {M : Model} {A : Around} {E : Value → Shared → Prop} {s : Shared} {x y : Addr} {ox oy : Obj} {R : Bool → Shared → Prop} (ne : x ≠ y) (hx : s.heap.get? x = some ox) (hy : s.heap.get? y = some oy) (nt : ¬ (ox.cls = .type "tuple" ∧ oy.cls = .type "tuple"))
    (h : R false s) : wpAny M A (isSame (.ref x) (.ref y)) R E s := by
  show wpAny M A (if (x == y) = true then pure true else _) R E s
  rw [if_neg (by simpa using ne)]
  refine wpAny_bind (wpAny_load hx (wpAny_bind (wpAny_load hy ?_)))
  split
  · rename_i h1 h2 _ _; exact absurd ⟨h1, h2⟩ nt
  · exact wpAny_pure h
section
variable {prog : Program} {w : World} {A : Around} {E : Value → Shared → Prop} {s : Shared} {l : Addr}
theorem rc_d_none (h : IsDct s l) (hu : A.units < cLine) {Q : Value → Shared → Prop} (q : Q (.bool false) s) : wpAny (model prog w) A (richCompare .Eq (.ref l) (.none)) Q E s := by
  obtain ⟨⟨cls, dd, data, sl⟩, ho, hc, es, n, hd⟩ := h
  simp only at hc hd
  subst hc hd
  exact rc_eq_decline_or (k := false) ⟨_, ho, rfl⟩ rfl (by decide) F.sub_NoneType_dict F.slot_dict_eq F.slot_NoneType_eq_refl
    (fun Q' hq => dct_no (b := .none) (Tb := "NoneType") ⟨_, ho, rfl⟩ rfl F.sub_NoneType_dict Q' hq) (fun _ hq => call_gives F.slot_NoneType_eq_refl rfl F.entry_NoneType_eq (F.args_NoneType_eq_2 _ _) (NoneType___eq___none_ref_0 l) hq)
    (fun _ hq => wpAny_of_eq (rfl : isSame (.ref l) (.none) = pure false) hq) (.inr hu) q
theorem rc_none_d (h : IsDct s l) (hu : A.units < cLine) {Q : Value → Shared → Prop} (q : Q (.bool false) s) : wpAny (model prog w) A (richCompare .Eq (.none) (.ref l)) Q E s := by
  obtain ⟨⟨cls, dd, data, sl⟩, ho, hc, es, n, hd⟩ := h
  simp only at hc hd
  subst hc hd
  exact rc_eq_decline_or (k := false) rfl ⟨_, ho, rfl⟩ (by decide) F.sub_dict_NoneType F.slot_NoneType_eq F.slot_dict_eq_refl
    (fun _ hq => call_gives F.slot_NoneType_eq rfl F.entry_NoneType_eq (F.args_NoneType_eq_2 _ _) (NoneType___eq___none_ref_0 l) hq) (fun Q' hq => dct_no (b := .none) (Tb := "NoneType") ⟨_, ho, rfl⟩ rfl F.sub_NoneType_dict Q' hq)
    (fun _ hq => wpAny_of_eq (rfl : isSame (.none) (.ref l) = pure false) hq) (.inr hu) q
theorem rc_d_bool (b : Bool) (h : IsDct s l) (hu : A.units < cLine) {Q : Value → Shared → Prop} (q : Q (.bool false) s) : wpAny (model prog w) A (richCompare .Eq (.ref l) (.bool b)) Q E s := by
  obtain ⟨⟨cls, dd, data, sl⟩, ho, hc, es, n, hd⟩ := h
  simp only at hc hd
  subst hc hd
  exact rc_eq_decline_or (k := false) ⟨_, ho, rfl⟩ rfl (by decide) F.sub_bool_dict F.slot_dict_eq F.slot_bool_eq_refl
    (fun Q' hq => dct_no (b := .bool b) (Tb := "bool") ⟨_, ho, rfl⟩ rfl F.sub_bool_dict Q' hq) (fun _ hq => call_meets F.slot_bool_eq_refl rfl F.entry_int_eq (F.args_int_eq_2 _ _) (int_no_b b l es n dd sl) ⟨ho, hq⟩)
    (fun _ hq => wpAny_of_eq (rfl : isSame (.ref l) (.bool b) = pure false) hq) (.inr hu) q
theorem rc_bool_d (b : Bool) (h : IsDct s l) (hu : A.units < cLine) {Q : Value → Shared → Prop} (q : Q (.bool false) s) : wpAny (model prog w) A (richCompare .Eq (.bool b) (.ref l)) Q E s := by
  obtain ⟨⟨cls, dd, data, sl⟩, ho, hc, es, n, hd⟩ := h
  simp only at hc hd
  subst hc hd
  exact rc_eq_decline_or (k := false) rfl ⟨_, ho, rfl⟩ (by decide) F.sub_dict_bool F.slot_bool_eq F.slot_dict_eq_refl
    (fun _ hq => call_meets F.slot_bool_eq rfl F.entry_int_eq (F.args_int_eq_2 _ _) (int_no_b b l es n dd sl) ⟨ho, hq⟩) (fun Q' hq => dct_no (b := .bool b) (Tb := "bool") ⟨_, ho, rfl⟩ rfl F.sub_bool_dict Q' hq)
    (fun _ hq => wpAny_of_eq (rfl : isSame (.bool b) (.ref l) = pure false) hq) (.inr hu) q
theorem rc_d_int (b : Int) (u : Tok) (h : IsDct s l) (hu : A.units < cLine) {Q : Value → Shared → Prop} (q : Q (.bool false) s) : wpAny (model prog w) A (richCompare .Eq (.ref l) (.int b u)) Q E s := by
  obtain ⟨⟨cls, dd, data, sl⟩, ho, hc, es, n, hd⟩ := h
  simp only at hc hd
  subst hc hd
  exact rc_eq_decline_or (k := false) ⟨_, ho, rfl⟩ (typeIs_int s b u) (by decide) F.sub_int_dict F.slot_dict_eq F.slot_int_eq_refl
    (fun Q' hq => dct_no (b := .int b u) (Tb := "int") ⟨_, ho, rfl⟩ (typeIs_int s b u) F.sub_int_dict Q' hq) (fun _ hq => call_meets F.slot_int_eq_refl (typeIs_int s b u) F.entry_int_eq (F.args_int_eq_2 _ _) (int_no_i b u l es n dd sl) ⟨ho, hq⟩)
    (fun _ hq => wpAny_of_eq (rfl : isSame (.ref l) (.int b u) = pure false) hq) (.inr hu) q
theorem rc_int_d (b : Int) (u : Tok) (h : IsDct s l) (hu : A.units < cLine) {Q : Value → Shared → Prop} (q : Q (.bool false) s) : wpAny (model prog w) A (richCompare .Eq (.int b u) (.ref l)) Q E s := by
  obtain ⟨⟨cls, dd, data, sl⟩, ho, hc, es, n, hd⟩ := h
  simp only at hc hd
  subst hc hd
  exact rc_eq_decline_or (k := false) (typeIs_int s b u) ⟨_, ho, rfl⟩ (by decide) F.sub_dict_int F.slot_int_eq F.slot_dict_eq_refl
    (fun _ hq => call_meets F.slot_int_eq (typeIs_int s b u) F.entry_int_eq (F.args_int_eq_2 _ _) (int_no_i b u l es n dd sl) ⟨ho, hq⟩) (fun Q' hq => dct_no (b := .int b u) (Tb := "int") ⟨_, ho, rfl⟩ (typeIs_int s b u) F.sub_int_dict Q' hq)
    (fun _ hq => wpAny_of_eq (rfl : isSame (.int b u) (.ref l) = pure false) hq) (.inr hu) q
theorem rc_d_str (b : Str) (u : Tok) (h : IsDct s l) (hu : A.units < cLine) {Q : Value → Shared → Prop} (q : Q (.bool false) s) : wpAny (model prog w) A (richCompare .Eq (.ref l) (.str b u)) Q E s := by
  obtain ⟨⟨cls, dd, data, sl⟩, ho, hc, es, n, hd⟩ := h
  simp only at hc hd
  subst hc hd
  exact rc_eq_decline_or (k := false) ⟨_, ho, rfl⟩ (typeIs_str s b u) (by decide) F.sub_str_dict F.slot_dict_eq F.slot_str_eq_refl
    (fun Q' hq => dct_no (b := .str b u) (Tb := "str") ⟨_, ho, rfl⟩ (typeIs_str s b u) F.sub_str_dict Q' hq) (fun _ hq => call_meets F.slot_str_eq_refl (typeIs_str s b u) F.entry_str_eq (F.args_str_eq_2 _ _) (str_no b u l es n dd sl) ⟨ho, hq⟩)
    (fun _ hq => wpAny_of_eq (rfl : isSame (.ref l) (.str b u) = pure false) hq) (.inr hu) q
theorem rc_str_d (b : Str) (u : Tok) (h : IsDct s l) (hu : A.units < cLine) {Q : Value → Shared → Prop} (q : Q (.bool false) s) : wpAny (model prog w) A (richCompare .Eq (.str b u) (.ref l)) Q E s := by
  obtain ⟨⟨cls, dd, data, sl⟩, ho, hc, es, n, hd⟩ := h
  simp only at hc hd
  subst hc hd
  exact rc_eq_decline_or (k := false) (typeIs_str s b u) ⟨_, ho, rfl⟩ (by decide) F.sub_dict_str F.slot_str_eq F.slot_dict_eq_refl
    (fun _ hq => call_meets F.slot_str_eq (typeIs_str s b u) F.entry_str_eq (F.args_str_eq_2 _ _) (str_no b u l es n dd sl) ⟨ho, hq⟩) (fun Q' hq => dct_no (b := .str b u) (Tb := "str") ⟨_, ho, rfl⟩ (typeIs_str s b u) F.sub_str_dict Q' hq)
    (fun _ hq => wpAny_of_eq (rfl : isSame (.str b u) (.ref l) = pure false) hq) (.inr hu) q
theorem rc_d_list {c : Addr} {its : Array Value} (h : IsDct s l) (hx : s.heap.IsList c its) (hu : A.units < cLine) {Q : Value → Shared → Prop} (q : Q (.bool false) s) : wpAny (model prog w) A (richCompare .Eq (.ref l) (.ref c)) Q E s := by
  obtain ⟨⟨cls, dd, data, sl⟩, ho, hc, es, n, hd⟩ := h
  simp only at hc hd
  subst hc hd
  obtain ⟨⟨cls2, dd2, data2, sl2⟩, ho2, hc2, m, hd2⟩ := hx
  simp only at hc2 hd2
  subst hc2 hd2
  have ne : l ≠ c := fun z => by rw [z, ho2] at ho; simp at ho
  exact rc_eq_decline_or (k := false) ⟨_, ho, rfl⟩ ⟨_, ho2, rfl⟩ (by decide) F.sub_list_dict F.slot_dict_eq F.slot_list_eq_refl
    (fun Q' hq => dct_no (b := .ref c) (Tb := "list") ⟨_, ho, rfl⟩ ⟨_, ho2, rfl⟩ F.sub_list_dict Q' hq)
    (fun _ hq => call_meets F.slot_list_eq_refl ⟨_, ho2, rfl⟩ F.entry_list_eq (F.args_list_eq_2 _ _) (lst_no c its m dd2 sl2 l es n dd sl) ⟨⟨ho2, ho⟩, hq⟩)
    (fun Q' hq => same_no ne ho ho2 (by rintro ⟨z, _⟩; simp at z) hq) (.inr hu) q
theorem rc_list_d {c : Addr} {its : Array Value} (h : IsDct s l) (hx : s.heap.IsList c its) (hu : A.units < cLine) {Q : Value → Shared → Prop} (q : Q (.bool false) s) : wpAny (model prog w) A (richCompare .Eq (.ref c) (.ref l)) Q E s := by
  obtain ⟨⟨cls, dd, data, sl⟩, ho, hc, es, n, hd⟩ := h
  simp only at hc hd
  subst hc hd
  obtain ⟨⟨cls2, dd2, data2, sl2⟩, ho2, hc2, m, hd2⟩ := hx
  simp only at hc2 hd2
  subst hc2 hd2
  have ne : c ≠ l := fun z => by rw [← z, ho2] at ho; simp at ho
  exact rc_eq_decline_or (k := false) ⟨_, ho2, rfl⟩ ⟨_, ho, rfl⟩ (by decide) F.sub_dict_list F.slot_list_eq F.slot_dict_eq_refl
    (fun _ hq => call_meets F.slot_list_eq ⟨_, ho2, rfl⟩ F.entry_list_eq (F.args_list_eq_2 _ _) (lst_no c its m dd2 sl2 l es n dd sl) ⟨⟨ho2, ho⟩, hq⟩)
    (fun Q' hq => dct_no (b := .ref c) (Tb := "list") ⟨_, ho, rfl⟩ ⟨_, ho2, rfl⟩ F.sub_list_dict Q' hq)
    (fun Q' hq => same_no ne ho2 ho (by rintro ⟨_, z⟩; simp at z) hq) (.inr hu) q
theorem rc_d_tuple {c : Addr} {its : Array Value} (h : IsDct s l) (hx : s.heap.IsTuple c its) (hu : A.units < cLine) {Q : Value → Shared → Prop} (q : Q (.bool false) s) : wpAny (model prog w) A (richCompare .Eq (.ref l) (.ref c)) Q E s := by
  obtain ⟨⟨cls, dd, data, sl⟩, ho, hc, es, n, hd⟩ := h
  simp only at hc hd
  subst hc hd
  obtain ⟨⟨cls2, dd2, data2, sl2⟩, ho2, hc2, m, hd2⟩ := hx
  simp only at hc2 hd2
  subst hc2 hd2
  have ne : l ≠ c := fun z => by rw [z, ho2] at ho; simp at ho
  exact rc_eq_decline_or (k := false) ⟨_, ho, rfl⟩ ⟨_, ho2, rfl⟩ (by decide) F.sub_tuple_dict F.slot_dict_eq F.slot_tuple_eq_refl
    (fun Q' hq => dct_no (b := .ref c) (Tb := "tuple") ⟨_, ho, rfl⟩ ⟨_, ho2, rfl⟩ F.sub_tuple_dict Q' hq)
    (fun _ hq => call_meets F.slot_tuple_eq_refl ⟨_, ho2, rfl⟩ F.entry_tuple_eq (F.args_tuple_eq_2 _ _) (tup_no c its m dd2 sl2 l es n dd sl) ⟨⟨ho2, ho⟩, hq⟩)
    (fun Q' hq => same_no ne ho ho2 (by rintro ⟨z, _⟩; simp at z) hq) (.inr hu) q
theorem rc_tuple_d {c : Addr} {its : Array Value} (h : IsDct s l) (hx : s.heap.IsTuple c its) (hu : A.units < cLine) {Q : Value → Shared → Prop} (q : Q (.bool false) s) : wpAny (model prog w) A (richCompare .Eq (.ref c) (.ref l)) Q E s := by
  obtain ⟨⟨cls, dd, data, sl⟩, ho, hc, es, n, hd⟩ := h
  simp only at hc hd
  subst hc hd
  obtain ⟨⟨cls2, dd2, data2, sl2⟩, ho2, hc2, m, hd2⟩ := hx
  simp only at hc2 hd2
  subst hc2 hd2
  have ne : c ≠ l := fun z => by rw [← z, ho2] at ho; simp at ho
  exact rc_eq_decline_or (k := false) ⟨_, ho2, rfl⟩ ⟨_, ho, rfl⟩ (by decide) F.sub_dict_tuple F.slot_tuple_eq F.slot_dict_eq_refl
    (fun _ hq => call_meets F.slot_tuple_eq ⟨_, ho2, rfl⟩ F.entry_tuple_eq (F.args_tuple_eq_2 _ _) (tup_no c its m dd2 sl2 l es n dd sl) ⟨⟨ho2, ho⟩, hq⟩)
    (fun Q' hq => dct_no (b := .ref c) (Tb := "tuple") ⟨_, ho, rfl⟩ ⟨_, ho2, rfl⟩ F.sub_tuple_dict Q' hq)
    (fun Q' hq => same_no ne ho2 ho (by rintro ⟨_, z⟩; simp at z) hq) (.inr hu) q
end

/-! ### two dicts -/
section
variable {prog : Program} {w : World} {A : Around} {E : Value → Shared → Prop} {s : Shared} {a b : Addr}
theorem entries_at {M : Model} {B : Around} {d : Addr} {o : Obj} {es : Array DictEntry} {n : Nat} {Q : Array DictEntry → Shared → Prop} (ho : s.heap.get? d = some o) (hd : o.data = .dict es n) (q : Q es s) : wpAny M B (dictEntries d) Q E s := wpAny_dictEntries ho hd q
/-- dicts of unlike sizes; two empty ones -/
theorem pairs_sizes {nm : String} {oa ob : Obj} {es fs : Array DictEntry} {n m : Nat} {Q : Bool → Shared → Prop} (ha : (a == sysModules) = false) (hb : (b == sysModules) = false) (hoa : s.heap.get? a = some oa) (hda : oa.data = .dict es n)
    (hob : s.heap.get? b = some ob) (hdb : ob.data = .dict fs m) (hs : es.size ≠ fs.size ∨ es.size = 0) (q : Q (es.size == fs.size) s) : wpAny (model prog w) A (Builtin.Dict.samePairs nm a b) Q E s := by
  unfold Builtin.Dict.samePairs Builtin.Dict.showsAll
  rw [if_neg (by rw [ha]; decide), if_neg (by rw [hb]; decide)]
  refine wpAny_bind (wpAny_pure (wpAny_bind (wpAny_pure (wpAny_bind (entries_at hoa hda ?_)))))
  dsimp only
  refine wpAny_bind (entries_at hob hdb ?_)
  by_cases e : es.size = fs.size
  · have e0 : es.size = 0 := hs.resolve_left fun z => z e
    have q1 : Q true s := by simpa [e] using q
    rw [if_neg (by rw [e]; simp)]
    refine wpAny_bind (wpAny_dictEpoch hoa hda (wpAny_bind ?_))
    rw [Std.Legacy.Range.forIn_eq_forIn_range']
    simp only [Std.Legacy.Range.size, Nat.sub_zero, Nat.add_sub_cancel, Nat.div_one, e0, List.range'_zero]
    exact wpAny_pure (wpAny_pure q1)
  · have e2 : (es.size == fs.size) = false := by simpa using e
    have q1 : Q false s := by rw [e2] at q; exact q
    rw [if_pos (by simpa using e)]
    exact wpAny_bind (wpAny_rule (wpAny_pure q1))
variable {K : Type} [DecidableEq K] {knd : HeapKind prog w K}
/-- what is compared, key by key -/
inductive HitsH (prog : Program) (w : World) (B : Around) (s : Shared) (ys : List (K × Addr × Value)) : List (K × Addr × Value) → Bool → Prop
  | nil : HitsH prog w B s ys [] true
  | miss {x : K × Addr × Value} {r : List (K × Addr × Value)} : atKey ys x.1 = none → HitsH prog w B s ys (x :: r) false
  | hit {x : K × Addr × Value} {p : Addr × Value} {r : List (K × Addr × Value)} {e f : Bool} : atKey ys x.1 = some p → EqIn prog w B s x.2.2 p.2 e → HitsH prog w B s ys r f → HitsH prog w B s ys (x :: r) (e && f)
theorem atKey_get {ys : List (K × Addr × Value)} {k : K} {p : Addr × Value} (hn : (ys.map (·.1)).Nodup) {j : Nat} (h : ys[j]? = some (k, p)) : atKey ys k = some p := by
  induction ys generalizing j with
  | nil => simp at h
  | cons y ys ih =>
    unfold atKey
    rw [List.map_cons, List.nodup_cons] at hn
    cases j with
    | zero =>
      simp at h
      subst h
      simp
    | succ j =>
      simp at h
      have hm : k ∈ ys.map (·.1) := List.mem_map.mpr ⟨(k, p), List.mem_of_getElem? h, rfl⟩
      have ne : ¬ y.1 = k := fun z => hn.1 (z ▸ hm)
      rw [List.find?_cons_of_neg (by simpa using ne)]
      exact ih hn.2 h
theorem atKey_not {ys : List (K × Addr × Value)} {k : K} (h : ∀ (j : Nat) (p : Addr × Value), ys[j]? ≠ some (k, p)) : atKey ys k = none := by
  unfold atKey
  rw [Option.map_eq_none_iff, List.find?_eq_none]
  intro x hx z
  obtain ⟨j, hj⟩ := List.getElem?_of_mem hx
  have e : x.1 = k := by simpa using z
  exact h j x.2 (by rw [hj, ← e])
theorem pairs_heap {nm : String} {xs ys : List (K × Addr × Value)} {r : Bool} {Q : Bool → Shared → Prop} (ru : knd.room A) (ha : (a == sysModules) = false) (hb : (b == sysModules) = false) (da : s.heap.DictOfH knd a xs) (db : s.heap.DictOfH knd b ys)
    (hl : xs.length = ys.length) (hits : HitsH prog w A s ys xs r) (q : Q r s) : wpAny (model prog w) A (Builtin.Dict.samePairs nm a b) Q E s := by
  obtain ⟨oa, es, n, hoa, _, hda, hea, hia, _⟩ := da
  obtain ⟨ob, fs, m, hob, _, hdb, heb, hib, hnb⟩ := db
  have za := size_of_entries hea
  have zb := size_of_entries heb
  unfold Builtin.Dict.samePairs Builtin.Dict.showsAll
  rw [if_neg (by rw [ha]; decide), if_neg (by rw [hb]; decide)]
  refine wpAny_bind (wpAny_pure (wpAny_bind (wpAny_pure (wpAny_bind (entries_at hoa hda ?_)))))
  dsimp only
  refine wpAny_bind (entries_at hob hdb ?_)
  rw [if_neg (by rw [za, zb, hl]; simp)]
  refine wpAny_bind (wpAny_dictEpoch hoa hda (wpAny_bind ?_))
  rw [Std.Legacy.Range.forIn_eq_forIn_range']
  simp only [Std.Legacy.Range.size, Nat.sub_zero, Nat.add_sub_cancel, Nat.div_one]
  refine wpAny_forIn_list _ (fun rest v s' => s' = s ∧ v = (none, ()) ∧ ∃ i, rest = List.range' i (es.size - i) ∧ i ≤ es.size ∧ HitsH prog w A s ys (xs.drop i) r) _ ?_ ?_ _ _ ⟨rfl, rfl, 0, by simp, Nat.zero_le _, hits⟩
  · rintro x rest v s' ⟨rfl, rfl, i, hr, hi, pre⟩
    have lt : i < es.size := by
      rcases Nat.lt_or_ge i es.size with h | h
      · exact h
      · rw [Nat.sub_eq_zero_of_le h] at hr; simp at hr
    have e1 : es.size - i = (es.size - (i + 1)) + 1 := by omega
    rw [e1, List.range'_succ] at hr
    obtain ⟨rfl, hrest⟩ := List.cons.inj hr
    refine wpAny_bind (entries_at hoa hda ?_)
    rw [Array.getElem?_eq_getElem lt]
    have lt2 : x < xs.length := by rw [← za]; exact lt
    have hdrop : xs.drop x = xs[x] :: xs.drop (x + 1) := List.drop_eq_getElem_cons lt2
    have hent : es[x] = entryOfKey knd xs[x] := by
      have q1 := entry_at hea x
      rw [Array.getElem?_eq_getElem lt, List.getElem?_eq_getElem lt2] at q1
      exact Option.some.inj q1
    rw [hdrop] at pre
    show wpAny _ _ (holding [es[x].key, es[x].val] _ >>= _) _ _ _
    rw [hent]
    refine wpAny_bind (wpAny_holding (wpAny_bind (wpAny_dictFind_heap ru (hia _ (List.getElem_mem lt2)) hob hdb heb hib hnb (fun hno => ?_) fun j p hj => ?_)))
    · have hz := atKey_not hno
      cases pre with
      | miss _ =>
        refine wpAny_pure ?_
        show wpAny _ _ (if (!false) = true then _ else _) _ _ _
        rw [if_pos (by decide)]
        exact wpAny_pure (wpAny_pure q)
      | hit hp _ _ => rw [hz] at hp; cases hp
    · have hz := atKey_get hnb hj
      have ltj : j < ys.length := (List.getElem?_eq_some_iff.mp hj).1
      have ltf : j < fs.size := by rw [zb]; exact ltj
      have hf : fs[j] = entryOfKey knd (xs[x].1, p) := by
        have q1 := entry_at heb j
        rw [Array.getElem?_eq_getElem ltf, hj] at q1
        exact Option.some.inj q1
      refine wpAny_bind (entries_at hob hdb ?_)
      rw [Array.getElem?_eq_getElem ltf]
      cases pre with
      | miss hp => rw [hz] at hp; cases hp
      | @hit _ p' _ e f hp he hr2 =>
        have ep : p = p' := Option.some.inj (hz.symm.trans hp)
        subst ep
        have he2 : EqIn prog w A s' (entryOfKey knd xs[x]).val fs[j].val e := by rw [hf]; exact he
        refine wpAny_holding (he2 _ _ ?_)
        cases e with
        | false =>
          show wpAny _ _ (if (!false) = true then _ else _) _ _ _
          rw [if_pos (by decide)]
          exact wpAny_pure (wpAny_pure q)
        | true =>
          show wpAny _ _ (if (!true) = true then _ else _) _ _ _
          rw [if_neg (by decide)]
          refine wpAny_bind (wpAny_dictEpoch hoa hda ?_)
          rw [if_neg (by simp)]
          exact wpAny_pure ⟨rfl, rfl, x + 1, hrest, lt, by rw [Bool.true_and]; exact hr2⟩
  · rintro v s' ⟨rfl, rfl, i, hr, hi, pre⟩
    have hin : i = es.size := by
      rcases Nat.lt_or_ge i es.size with h | h
      · have e1 : es.size - i = (es.size - (i + 1)) + 1 := by omega
        rw [e1, List.range'_succ] at hr
        cases hr
      · exact Nat.le_antisymm hi h
    refine wpAny_pure ?_
    rw [hin, za, List.drop_length] at pre
    cases pre
    exact q
end

section
variable {prog : Program} {w : World} {A : Around} {E : Value → Shared → Prop} {s : Shared} {a b : Addr}
/-- two dicts, by what samePairs answers -/
theorem rc_dcts {r : Bool} {Q : Value → Shared → Prop} (ta : s.TypeIs (.ref a) "dict") (tb : s.TypeIs (.ref b) "dict") (hu : A.units < cLine)
    (sp : ∀ (nm : String) (Q : Bool → Shared → Prop), Q r s → wpAny (model prog w) A.in1 (Builtin.Dict.samePairs nm a b) Q E s) (q : Q (.bool r) s) : wpAny (model prog w) A (richCompare .Eq (.ref a) (.ref b)) Q E s := by
  refine wpAny_richCompare_same_room (op := .Eq) ta tb PySem.F.slot_dict_eq (wpAny_call_entry PySem.F.slot_dict_eq ta PySem.F.entry_dict_eq ?_ (PySem.F.args_dict_eq_2 _ _)) hu
  show wpAny _ _ (Builtin.Dict.dictSlotArgs "__eq__" ⟨[.ref a, .ref b], []⟩ >>= _) _ _ s
  unfold Builtin.Dict.dictSlotArgs
  refine wpAny_bind (wpAny_bind (wpAny_notOrdered_dict ta ?_))
  refine wpAny_pure ?_
  refine wpAny_bind (wpAny_isInstance (T := "dict") tb PySem.F.sub_dict_dict ?_)
  simp only [Bool.not_true, Bool.false_eq_true, if_false]
  refine wpAny_bind (wpAny_pure (wpAny_bind (wpAny_pure (wpAny_bind (sp _ _ ?_)))))
  refine wpAny_pure ⟨_, rfl, ?_, ?_⟩
  · exact fun x => nomatch x
  · simpa using q
end
end ZDE
end PySem

namespace Z
open PySem PySem.Spec PyProof.Rows L2
/-! ### equality of data, dicts among it -/
def keyEq1 : PyData → PyData → Bool
  | .int i, .int j => decide (i = j)
  | .str x, .str y => decide (x = y)
  | _, _ => false
def keyEqL : List PyData → List PyData → Bool
  | [], [] => true
  | x :: xs, y :: ys => keyEq1 x y && keyEqL xs ys
  | _, _ => false
def keyEq : PyData → PyData → Bool
  | .tuple xs, .tuple ys => keyEqL xs ys
  | x, y => keyEq1 x y
theorem keyEq1_eq : ∀ a b : Key, keyEq1 (keyD a) (keyD b) = decide (a = b)
  | .inl i, .inl j => by show decide (i = j) = _; congr 1; exact propext ⟨fun h => by rw [h], fun h => by cases h; rfl⟩
  | .inr i, .inr j => by show decide (i = j) = _; congr 1; exact propext ⟨fun h => by rw [h], fun h => by cases h; rfl⟩
  | .inl i, .inr j => by show false = _; symm; exact decide_eq_false (fun h => by cases h)
  | .inr i, .inl j => by show false = _; symm; exact decide_eq_false (fun h => by cases h)
theorem keyEqL_eq : ∀ as bs : List Key, keyEqL (as.map keyD) (bs.map keyD) = decide (as = bs)
  | [], [] => rfl
  | [], _ :: _ => rfl
  | _ :: _, [] => rfl
  | a :: as, b :: bs => by
    show (keyEq1 (keyD a) (keyD b) && keyEqL (as.map keyD) (bs.map keyD)) = _
    rw [keyEq1_eq, keyEqL_eq as bs, Bool.eq_iff_iff]
    simp
theorem keyEq_k (a b : Key) : keyEq (keyD a) (keyD b) = decide (a = b) := by
  have e : keyEq (keyD a) (keyD b) = keyEq1 (keyD a) (keyD b) := by cases a <;> cases b <;> rfl
  rw [e, keyEq1_eq]
theorem keyEq_t (as bs : List Key) : keyEq (.tuple (as.map keyD)) (.tuple (bs.map keyD)) = decide (as = bs) := keyEqL_eq as bs
def lookD (kvs : List (PyData × PyData)) (k : PyData) : Option PyData := (kvs.find? fun q => keyEq q.1 k).map (·.2)
def pyEqN : Nat → PyData → PyData → Bool
  | 0, d, e => PyData.eqv d e
  | n + 1, .list xs, .list ys => xs.length == ys.length && (xs.zip ys).all fun p => pyEqN n p.1 p.2
  | n + 1, .tuple xs, .tuple ys => xs.length == ys.length && (xs.zip ys).all fun p => pyEqN n p.1 p.2
  | n + 1, .dict xs, .dict ys => xs.length == ys.length && xs.all fun p => (lookD ys p.1).any fun v => pyEqN n p.2 v
  | _ + 1, d, e => PyData.eqv d e
/-- the keys of a dict, all of one kind: 0 plain, 1 tuples -/
def kindK (t : Bool) (kvs : List (PyData × PyData)) : Bool := kvs.all fun p => match p.1 with
  | .tuple _ => t
  | _ => !t
/-- no two keys alike -/
def keysOk : List (PyData × PyData) → Bool
  | [] => true
  | p :: r => (r.all fun q => !keyEq p.1 q.1) && keysOk r
/-- data that is equal to itself, of depth below n -/
def okD : Nat → PyData → Bool
  | 0, _ => false
  | n + 1, .list xs => xs.all (okD n)
  | n + 1, .tuple xs => xs.all (okD n)
  | n + 1, .dict xs => keysOk xs && xs.all fun p => keyEq p.1 p.1 && okD n p.2
  | _ + 1, _ => true
/-- data whose dicts can be compared -/
def cmpOk : Nat → PyData → PyData → Bool
  | 0, _, _ => false
  | n + 1, .list xs, .list ys => decide (xs.length ≠ ys.length) || (xs.zip ys).all fun p => cmpOk n p.1 p.2
  | n + 1, .tuple xs, .tuple ys => (xs.zip ys).all fun p => cmpOk n p.1 p.2
  | n + 1, .dict xs, .dict ys => decide (xs.length ≠ ys.length) || (xs.isEmpty || ((kindK true xs && kindK true ys || kindK false xs && kindK false ys) && xs.all fun p => match lookD ys p.1 with
    | some v => cmpOk n p.2 v
    | none => true))
  | _ + 1, _, _ => true
theorem keysOk_look : ∀ {xs : List (PyData × PyData)} {p : PyData × PyData}, keysOk xs = true → p ∈ xs → keyEq p.1 p.1 = true → lookD xs p.1 = some p.2
  | [], _, _, h, _ => nomatch h
  | x :: xs, p, hk, h, hr => by
    unfold keysOk at hk
    obtain ⟨k1, k2⟩ := Bool.and_eq_true_iff.mp hk
    unfold lookD
    rcases List.mem_cons.mp h with e | h
    · subst e
      simp [hr]
    · have q := List.all_eq_true.mp k1 p h
      rw [List.find?_cons_of_neg (by simpa using q)]
      exact keysOk_look k2 h hr
theorem zip_self_all {α : Type} {f : α → α → Bool} : ∀ xs : List α, (∀ x ∈ xs, f x x = true) → ((xs.zip xs).all fun p => f p.1 p.2) = true
  | [], _ => rfl
  | x :: xs, h => by
    rw [List.zip_cons_cons, List.all_cons, h x List.mem_cons_self, zip_self_all xs fun y hy => h y (List.mem_cons_of_mem _ hy)]; rfl
theorem pyEqN_refl : ∀ (n : Nat) (d : PyData), okD n d = true → pyEqN n d d = true
  | 0, d, h => by rw [okD] at h; cases h
  | n + 1, .list xs, h => by
    rw [okD] at h
    rw [pyEqN, beq_self_eq_true, Bool.true_and]
    exact zip_self_all xs fun x hx => pyEqN_refl n x (List.all_eq_true.mp h x hx)
  | n + 1, .tuple xs, h => by
    rw [okD] at h
    rw [pyEqN, beq_self_eq_true, Bool.true_and]
    exact zip_self_all xs fun x hx => pyEqN_refl n x (List.all_eq_true.mp h x hx)
  | n + 1, .dict xs, h => by
    rw [okD] at h
    obtain ⟨h1, h2⟩ := Bool.and_eq_true_iff.mp h
    rw [pyEqN, beq_self_eq_true, Bool.true_and, List.all_eq_true]
    intro p hp
    obtain ⟨h3, h4⟩ := Bool.and_eq_true_iff.mp (List.all_eq_true.mp h2 p hp)
    rw [keysOk_look h1 hp h3]
    exact pyEqN_refl n p.2 h4
  | n + 1, .none, h => by simp [pyEqN, PyData.eqv]
  | n + 1, .bool b, h => by simp [pyEqN, PyData.eqv]
  | n + 1, .int i, h => by simp [pyEqN, PyData.eqv]
  | n + 1, .str x, h => by simp [pyEqN, PyData.eqv]

/-! ### dicts by their keys -/
section
variable {κ : Type} [DecidableEq κ]
theorem val_cons (k k' : κ) (v : Value) (r : List (κ × Value)) : valueAt ((k', v) :: r) k = if k' = k then some v else valueAt r k := by
  unfold valueAt
  by_cases h : k' = k
  · rw [List.find?_cons_of_pos (by simpa using h), if_pos h]; rfl
  · rw [List.find?_cons_of_neg (by simpa using h), if_neg h]
theorem mem_val : ∀ {vs : List (κ × Value)} {k : κ} {v : Value}, (vs.map (·.1)).Nodup → (k, v) ∈ vs → valueAt vs k = some v
  | [], _, _, _, h => nomatch h
  | (k', v') :: vs, k, v, hn, h => by
    rw [List.map_cons, List.nodup_cons] at hn
    rw [val_cons]
    rcases List.mem_cons.mp h with e | h
    · cases e; rw [if_pos rfl]
    · have hm : k ∈ vs.map (·.1) := List.mem_map.mpr ⟨(k, v), h, rfl⟩
      rw [if_neg (fun z => hn.1 (by rw [z]; exact hm))]
      exact mem_val hn.2 h
variable {enc : κ → PyData} (henc : ∀ a b, keyEq (enc a) (enc b) = decide (a = b))
include henc
theorem look_cons (k k' : κ) (d : PyData) (A : List (PyData × PyData)) : lookD ((enc k', d) :: A) (enc k) = if k' = k then some d else lookD A (enc k) := by
  unfold lookD
  by_cases h : k' = k
  · rw [List.find?_cons_of_pos (by rw [henc]; exact decide_eq_true h), if_pos h]; rfl
  · rw [List.find?_cons_of_neg (by rw [henc]; simpa using h), if_neg h]
theorem look_val {K : PySem.W.Frag} {H : Hp} : ∀ {vs : List (κ × Value)} {us : List V} {ds : List PyData}, Vals us (vs.map (·.2)) → DqAll K H us ds → ∀ k,
    (valueAt vs k = none ∧ lookD (((vs.map (·.1)).map enc).zip ds) (enc k) = none) ∨ ∃ v d x, valueAt vs k = some v ∧ lookD (((vs.map (·.1)).map enc).zip ds) (enc k) = some d ∧ Dq K H x d ∧ RelV x v ∧ (enc k, d) ∈ ((vs.map (·.1)).map enc).zip ds
  | [], us, ds, r, h, k => .inl ⟨rfl, rfl⟩
  | (k', v) :: vs, us, ds, r, h, k => by
    cases r with
    | cons r1 r2 =>
      cases h with
      | cons h1 h2 =>
        rename_i u us d ds
        show (valueAt ((k', v) :: vs) k = none ∧ lookD ((enc k', d) :: _) (enc k) = none) ∨ ∃ v' d' x, valueAt ((k', v) :: vs) k = some v' ∧ lookD ((enc k', d) :: _) (enc k) = some d' ∧ Dq K H x d' ∧ RelV x v' ∧ (enc k, d') ∈ (enc k', d) :: ((vs.map (·.1)).map enc).zip ds
        rw [look_cons henc, val_cons]
        by_cases e : k' = k
        · rw [if_pos e, if_pos e]
          exact .inr ⟨v, d, u, rfl, rfl, h1, r1, by rw [e]; exact List.mem_cons_self⟩
        · rw [if_neg e, if_neg e]
          rcases look_val r2 h2 k with q | ⟨v', d', x, q1, q2, q3, q4, q5⟩
          · exact .inl q
          · exact .inr ⟨v', d', x, q1, q2, q3, q4, List.mem_cons_of_mem _ q5⟩
theorem dict_all {f : PyData × PyData → Bool} : ∀ {kk : List κ} {ds : List PyData}, kk.length = ds.length → kk.Nodup → ((kk.map enc).zip ds).all f = kk.all fun k => (lookD ((kk.map enc).zip ds) (enc k)).any fun d => f (enc k, d)
  | [], [], _, _ => rfl
  | k :: kk, d :: ds, hl, hn => by
    rw [List.nodup_cons] at hn
    show (f (enc k, d) && ((kk.map enc).zip ds).all f) = ((lookD ((enc k, d) :: (kk.map enc).zip ds) (enc k)).any (fun d => f (enc k, d)) && kk.all fun j => (lookD ((enc k, d) :: (kk.map enc).zip ds) (enc j)).any fun d => f (enc j, d))
    rw [look_cons henc, if_pos rfl, Option.any_some, dict_all (by simpa using hl) hn.2]
    congr 1
    rw [Bool.eq_iff_iff, List.all_eq_true, List.all_eq_true]
    constructor
    · intro h j hj
      have ne : ¬ k = j := fun z => hn.1 (by rw [z]; exact hj)
      rw [look_cons henc, if_neg ne]; exact h j hj
    · intro h j hj
      have ne : ¬ k = j := fun z => hn.1 (by rw [z]; exact hj)
      have q := h j hj
      rw [look_cons henc, if_neg ne] at q; exact q
end
theorem range_zip {f : PyData → PyData → Bool} : ∀ ds es : List PyData, ds.length = es.length → (List.range ds.length).all (fun j => f (ds.getD j .none) (es.getD j .none)) = (ds.zip es).all fun p => f p.1 p.2
  | [], [], _ => rfl
  | d :: ds, e :: es, h => by
    rw [List.length_cons, List.range_succ_eq_map, List.all_cons, List.all_map, List.zip_cons_cons, List.all_cons, ← range_zip ds es (by simpa using h)]
    rfl
theorem DqAll.at_ {K : PySem.W.Frag} {H : Hp} : ∀ {us : List V} {ds : List PyData}, DqAll K H us ds → ∀ (j : Nat) (u : V), us[j]? = some u → Dq K H u (ds.getD j .none) ∧ ds.getD j .none ∈ ds
  | _, _, .nil, j, u, h => by simp at h
  | _, _, .cons h1 h2, 0, u, h => by simp at h; subst h; exact ⟨h1, List.mem_cons_self⟩
  | _, _, .cons h1 h2, j + 1, u, h => by
    simp at h
    obtain ⟨q1, q2⟩ := h2.at_ j u h
    exact ⟨q1, List.mem_cons_of_mem _ q2⟩
theorem dqa_len {K : PySem.W.Frag} {H : Hp} : ∀ {vs : List V} {ds : List PyData}, DqAll K H vs ds → ds.length = vs.length
  | _, _, .nil => rfl
  | _, _, .cons _ h2 => by rw [List.length_cons, List.length_cons, dqa_len h2]
theorem zip_mem {xs ys : List PyData} {j : Nat} (h1 : j < xs.length) (h2 : j < ys.length) : (xs.getD j .none, ys.getD j .none) ∈ xs.zip ys := by
  have e : (xs.zip ys)[j]? = some (xs.getD j .none, ys.getD j .none) := by
    rw [List.getD_eq_getElem?_getD, List.getD_eq_getElem?_getD, List.getElem?_eq_getElem h1, List.getElem?_eq_getElem h2]
    simp [List.getElem?_zip_eq_some, h1, h2]
  exact List.mem_of_getElem? e
section
variable {X : Cx} {pins : List (Addr × Obj)} {σ : L2.St} {H : Hp} {s : Shared} {a b : Addr}
theorem lst_is {xs : List V} (I : Inv X pins σ H s) (hs : SqL X.K H a xs) : ∃ its : List Value, Vals xs its ∧ s.heap.IsList a its.toArray := by
  obtain ⟨its, rv, ⟨o, n, ho, hc, _, hd⟩, _⟩ := I.list hs
  exact ⟨its, rv, o, ho, hc, n, hd⟩
theorem tup_is {xs : List V} (I : Inv X pins σ H s) (hs : SqT X.K H a xs) : ∃ its : List Value, Vals xs its ∧ s.heap.IsTuple a its.toArray := by
  obtain ⟨its, rv, ⟨o, ho, hc, n, hd⟩, _⟩ := I.tuple hs
  exact ⟨its, rv, o, ho, hc, n, hd⟩
/-- what stands at a dict's address -/
theorem dk_is {kk : List Key} {us : List V} (I : Inv X pins σ H s) (hl : us.length = kk.length) (hd : Rd H a (.dK (kk.zip us))) : (a == sysModules) = false ∧ ∃ vs : List (Key × Value), vs.map (·.1) = kk ∧ Vals us (vs.map (·.2)) ∧ s.heap.DictOf (mixKind X.prog X.w) a vs ∧ kk.Nodup := by
  obtain ⟨_, hs, vs, rel, D⟩ := dk_rd I.hok hd
  obtain ⟨e1, e2⟩ := kv_split hl rel
  have hn : (vs.map (·.1)).Nodup := by obtain ⟨_, _, _, _, _, _, _, _, hn⟩ := D; exact hn
  exact ⟨hs, vs, e1, e2, D, by rw [← e1]; exact hn⟩
theorem dt_is {kk : List (List Key)} {us : List V} (I : Inv X pins σ H s) (hl : us.length = kk.length) (hd : Rd H a (.dT (kk.zip us))) : (a == sysModules) = false ∧ ∃ vs : List (List Key × Addr × Value), vs.map (·.1) = kk ∧ Vals us (vs.map (·.2.2)) ∧ s.heap.DictOfH (tupleKind (mixKind X.prog X.w)) a vs ∧ kk.Nodup := by
  obtain ⟨_, hs, vs, rel, D⟩ := dt_rd I.hok hd
  obtain ⟨e1, e2, _⟩ := kt_split hl rel
  have hn : (vs.map (·.1)).Nodup := by obtain ⟨_, _, _, _, _, _, _, _, hn⟩ := D; exact hn
  exact ⟨hs, vs, e1, e2, D, by rw [← e1]; exact hn⟩
theorem dictOf_size {P : Program} {w : World} {h : Heap} {vs : List (Key × Value)} (D : h.DictOf (mixKind P w) a vs) : ∃ o es n, h.get? a = some o ∧ o.cls = .type "dict" ∧ o.data = .dict es n ∧ es.size = vs.length := by
  obtain ⟨o, es, n, h1, ⟨h2, _⟩, h3, _, h4, _⟩ := D
  exact ⟨o, es, n, h1, h2, h3, by rw [← h4.length, Array.length_toList]⟩
theorem dictOfH_size {P : Program} {w : World} {h : Heap} {vs : List (List Key × Addr × Value)} (D : h.DictOfH (tupleKind (mixKind P w)) a vs) : ∃ o es n, h.get? a = some o ∧ o.cls = .type "dict" ∧ o.data = .dict es n ∧ es.size = vs.length := by
  obtain ⟨o, es, n, h1, ⟨h2, _⟩, h3, h4, _⟩ := D
  exact ⟨o, es, n, h1, h2, h3, size_of_entries h4⟩
end

/-! ### equality by levels -/
section
variable {X : Cx} {pins : List (Addr × Obj)} {σ : L2.St} {H : Hp} {s : Shared}
def EqI (X : Cx) (s : Shared) (n : Nat) (u w : Value) (b : Bool) : Prop := ∀ A : Around, A.units + n < cLine → SeqAt.EqIn X.prog X.w A s u w b
def RcI (X : Cx) (s : Shared) (n : Nat) (u w : Value) (b : Bool) : Prop := ∀ (A : Around) (E Q : Value → Shared → Prop), A.units + n < cLine → Q (.bool b) s → wpAny (model X.prog X.w) A (richCompare .Eq u w) Q E s
theorem RcI.of {n : Nat} {u w : Value} {b : Bool} (h : ∀ A : Around, A.units < cLine → SeqAt.RcAt A s u w b) : RcI X s n u w b := fun A E Q hu q => h A (by omega) X.prog X.w E Q q
theorem eqb_left {A : Around} {a : Addr} {v : Value} {b : Bool} (hv : ∀ c, v ≠ .ref c) (h : ∀ (E Q : Value → Shared → Prop), Q (.bool b) s → wpAny (model X.prog X.w) A (richCompare .Eq (.ref a) v) Q E s) : SeqAt.EqIn X.prog X.w A s (.ref a) v b := fun E Q hq => by
  unfold eqBool
  refine wpAny_holding ?_
  refine wpAny_ite_split (fun hab => absurd (eq_of_beq hab).symm (hv a)) (fun _ => ?_)
  exact wpAny_bind (h E _ (wpAny_truthy_bool hq))
def AtomV (v : Value) : Prop := v = .none ∨ (∃ b, v = .bool b) ∨ (∃ i t, v = .int i t) ∨ ∃ x t, v = .str x t
theorem eqb_right {A : Around} {a : Addr} {v : Value} {b : Bool} (hv : AtomV v) (h : ∀ (E Q : Value → Shared → Prop), Q (.bool b) s → wpAny (model X.prog X.w) A (richCompare .Eq v (.ref a)) Q E s) : SeqAt.EqIn X.prog X.w A s v (.ref a) b := fun E Q hq => by
  rcases hv with rfl | ⟨b, rfl⟩ | ⟨i, t, rfl⟩ | ⟨x, t, rfl⟩ <;>
  · unfold eqBool
    refine wpAny_holding ?_
    refine wpAny_ite_split (fun hab => absurd (eq_of_beq hab) nofun) (fun _ => ?_)
    exact wpAny_bind (h E _ (wpAny_truthy_bool hq))
/-- what is known one level below -/
def Ih (X : Cx) (H : Hp) (s : Shared) (n : Nat) : Prop := ∀ (d e : PyData) (x y : V) (u w : Value), Dq X.K H x d → Dq X.K H y e → RelV x u → RelV y w → okD n d = true → okD n e = true → cmpOk n d e = true → EqI X s n u w (pyEqN n d e)
theorem vls_at {xs : List V} {us : List Value} (r : Vals xs us) {j : Nat} (h : j < us.length) : ∃ x, xs[j]? = some x ∧ RelV x us[j] := by
  have hl := r.length
  have hx : j < xs.length := by omega
  obtain ⟨u, hu, ru⟩ := r.get (List.getElem?_eq_getElem hx)
  rw [List.getElem?_eq_getElem h] at hu
  cases hu
  exact ⟨_, List.getElem?_eq_getElem hx, ru⟩
theorem seq_items {n : Nat} {A : Around} {xs ys : List V} {ds es : List PyData} {its jts : List Value} (ih : Ih X H s n) (hu : A.units + n < cLine) (hx : DqAll X.K H xs ds) (hy : DqAll X.K H ys es) (rx : Vals xs its) (ry : Vals ys jts)
    (o1 : ds.all (okD n) = true) (o2 : es.all (okD n) = true) (ok : ((ds.zip es).all fun p => cmpOk n p.1 p.2) = true) :
    ∀ j (h1 : j < its.toArray.size) (h2 : j < jts.toArray.size), SeqAt.EqIn X.prog X.w A s its.toArray[j] jts.toArray[j] (pyEqN n (ds.getD j .none) (es.getD j .none)) := by
  intro j h1 h2
  have l1 : j < its.length := by simpa using h1
  have l2 : j < jts.length := by simpa using h2
  obtain ⟨x, gx, r1⟩ := vls_at rx l1
  obtain ⟨y, gy, r2⟩ := vls_at ry l2
  obtain ⟨q1, m1⟩ := hx.at_ j x gx
  obtain ⟨q2, m2⟩ := hy.at_ j y gy
  have e1 : ds.length = its.length := by rw [dqa_len hx, rx.length]
  have e2 : es.length = jts.length := by rw [dqa_len hy, ry.length]
  have c := List.all_eq_true.mp ok _ (zip_mem (j := j) (by omega : j < ds.length) (by omega : j < es.length))
  have := ih _ _ x y _ _ q1 q2 r1 r2 (List.all_eq_true.mp o1 _ m1) (List.all_eq_true.mp o2 _ m2) c A hu
  simpa using this
theorem rc_lists {n : Nat} {a b : Addr} {xs ys : List V} {ds es : List PyData} (I : Inv X pins σ H s) (ih : Ih X H s n) (ha : SqL X.K H a xs) (hb : SqL X.K H b ys) (hx : DqAll X.K H xs ds) (hy : DqAll X.K H ys es)
    (o1 : okD (n + 1) (.list ds) = true) (o2 : okD (n + 1) (.list es) = true) (ok : cmpOk (n + 1) (.list ds) (.list es) = true) : RcI X s (n + 1) (.ref a) (.ref b) (pyEqN (n + 1) (.list ds) (.list es)) := by
  obtain ⟨its, rx, la⟩ := lst_is I ha
  obtain ⟨jts, ry, lb⟩ := lst_is I hb
  have e1 : ds.length = its.length := by rw [dqa_len hx, rx.length]
  have e2 : es.length = jts.length := by rw [dqa_len hy, ry.length]
  rw [okD] at o1 o2
  rw [cmpOk] at ok
  rw [pyEqN]
  intro A E Q hu q
  by_cases hl : ds.length = es.length
  · have ok' : ((ds.zip es).all fun p => cmpOk n p.1 p.2) = true := by
      rcases Bool.or_eq_true_iff.mp ok with z | z
      · exact absurd hl (of_decide_eq_true z)
      · exact z
    refine SeqAt.rcIn_lists la lb (by simp; omega) (by omega) (seq_items ih (by show A.units + 1 + n < cLine; omega) hx hy rx ry o1 o2 ok') ?_
    have ez : (its.toArray.size) = ds.length := by simp [e1]
    rw [ez, range_zip ds es hl]
    have eb : (ds.length == es.length) = true := by simpa using hl
    rw [eb, Bool.true_and] at q
    exact q
  · have eb : (ds.length == es.length) = false := by simpa using hl
    rw [eb, Bool.false_and] at q
    exact SeqAt.RcAt.lists_lengths la lb (by simp; omega) (by omega) X.prog X.w E Q q
theorem rc_tuples {n : Nat} {a b : Addr} {xs ys : List V} {ds es : List PyData} (I : Inv X pins σ H s) (ih : Ih X H s n) (ha : SqT X.K H a xs) (hb : SqT X.K H b ys) (hx : DqAll X.K H xs ds) (hy : DqAll X.K H ys es)
    (o1 : okD (n + 1) (.tuple ds) = true) (o2 : okD (n + 1) (.tuple es) = true) (ok : cmpOk (n + 1) (.tuple ds) (.tuple es) = true) : RcI X s (n + 1) (.ref a) (.ref b) (pyEqN (n + 1) (.tuple ds) (.tuple es)) := by
  obtain ⟨its, rx, la⟩ := tup_is I ha
  obtain ⟨jts, ry, lb⟩ := tup_is I hb
  have e1 : ds.length = its.length := by rw [dqa_len hx, rx.length]
  have e2 : es.length = jts.length := by rw [dqa_len hy, ry.length]
  rw [okD] at o1 o2
  rw [cmpOk] at ok
  rw [pyEqN]
  intro A E Q hu q
  refine SeqAt.rcIn_tuples la lb (by omega) (seq_items ih (by show A.units + 1 + n < cLine; omega) hx hy rx ry o1 o2 ok) ?_
  have z1 : its.toArray.size = ds.length := by simp [e1]
  have z2 : jts.toArray.size = es.length := by simp [e2]
  rw [z1, z2]
  by_cases hl : ds.length = es.length
  · have eb : (ds.length == es.length) = true := by simpa using hl
    rw [eb, Bool.true_and] at q
    rw [eb, Bool.and_true, show min ds.length es.length = ds.length by omega, range_zip ds es hl]
    exact q
  · have eb : (ds.length == es.length) = false := by simpa using hl
    rw [eb, Bool.false_and] at q
    rw [eb, Bool.and_false]
    exact q
def SpI (X : Cx) (s : Shared) (n : Nat) (a b : Addr) (r : Bool) : Prop := ∀ (A : Around) (nm : String) (E : Value → Shared → Prop) (Q : Bool → Shared → Prop), A.units + n < cLine → Q r s → wpAny (model X.prog X.w) A (Builtin.Dict.samePairs nm a b) Q E s
theorem zip_len {α β : Type} {xs : List α} {ys : List β} (h : xs.length = ys.length) : (xs.zip ys).length = ys.length := by rw [List.length_zip, h, Nat.min_self]
theorem any_get {o : Option PyData} {f : PyData → Bool} {d : PyData} (h : o = some d) : o.any f = f d := by rw [h]; rfl
/-- two dicts of plain keys -/
theorem sp_dks {n : Nat} {a b : Addr} {ka kb : List Key} {us ws : List V} {ds es : List PyData} (I : Inv X pins σ H s) (ih : Ih X H s n) (la : us.length = ka.length) (lb : ws.length = kb.length) (ha : Rd H a (.dK (ka.zip us))) (hb : Rd H b (.dK (kb.zip ws))) (hx : DqAll X.K H us ds) (hy : DqAll X.K H ws es)
    (o1 : okD (n + 1) (.dict ((ka.map keyD).zip ds)) = true) (o2 : okD (n + 1) (.dict ((kb.map keyD).zip es)) = true) (ok : cmpOk (n + 1) (.dict ((ka.map keyD).zip ds)) (.dict ((kb.map keyD).zip es)) = true) :
    SpI X s n a b (pyEqN (n + 1) (.dict ((ka.map keyD).zip ds)) (.dict ((kb.map keyD).zip es))) := by
  obtain ⟨sa, va, e1, r1, D1, n1⟩ := dk_is I la ha
  obtain ⟨sb, vb, e2, r2, D2, n2⟩ := dk_is I lb hb
  have l1 : ds.length = ka.length := by rw [dqa_len hx, la]
  have l2 : es.length = kb.length := by rw [dqa_len hy, lb]
  have lva : va.length = ka.length := by rw [← e1, List.length_map]
  have lvb : vb.length = kb.length := by rw [← e2, List.length_map]
  have z1 : ((ka.map keyD).zip ds).length = ka.length := by rw [zip_len (by rw [List.length_map]; exact l1.symm)]; exact l1
  have z2 : ((kb.map keyD).zip es).length = kb.length := by rw [zip_len (by rw [List.length_map]; exact l2.symm)]; exact l2
  rw [okD] at o1 o2
  rw [cmpOk, z1, z2] at ok
  rw [pyEqN, z1, z2]
  obtain ⟨o1a, o1b⟩ := Bool.and_eq_true_iff.mp o1
  obtain ⟨o2a, o2b⟩ := Bool.and_eq_true_iff.mp o2
  have LA := look_val keyEq_k r1 hx
  have LB := look_val keyEq_k r2 hy
  rw [e1] at LA
  rw [e2] at LB
  intro A nm E Q hu q
  let e : Key → Bool := fun k => (lookD ((ka.map keyD).zip ds) (keyD k)).any fun d => (lookD ((kb.map keyD).zip es) (keyD k)).any fun f => pyEqN n d f
  have res : ((ka.length == kb.length) && va.all fun p => (valueAt vb p.1).isSome && e p.1) = (ka.length == kb.length && ((ka.map keyD).zip ds).all fun p => (lookD ((kb.map keyD).zip es) p.1).any fun v => pyEqN n p.2 v) := by
    congr 1
    rw [dict_all keyEq_k l1.symm n1]
    have : (va.all fun p => (valueAt vb p.1).isSome && e p.1) = (va.map (·.1)).all fun k => (valueAt vb k).isSome && e k := by rw [List.all_map]; rfl
    rw [this, e1]
    congr 1
    funext k
    show ((valueAt vb k).isSome && e k) = e k
    rcases LB k with ⟨g1, g2⟩ | ⟨v, d, x, g1, g2, _⟩
    · rw [g1]
      show false = e k
      symm
      show ((lookD ((ka.map keyD).zip ds) (keyD k)).any fun d => (lookD ((kb.map keyD).zip es) (keyD k)).any fun f => pyEqN n d f) = false
      rw [g2]
      cases lookD ((ka.map keyD).zip ds) (keyD k) <;> rfl
    · rw [g1]; rfl
  refine PySem.W.keq_samePairsIn (knd := mixKind X.prog X.w) sa sb D1 D2 (fun hl => PySem.W.KeqHitsIn.of (e := e) va fun k v y hm hv => ?_) (by rw [lva, lvb, res]; exact q)
  have hl : ka.length = kb.length := by omega
  have mv := mem_val (by rw [e1]; exact n1) hm
  rcases LA k with ⟨g1, _⟩ | ⟨v', d, x, g1, g2, g3, g4, g5⟩
  · rw [mv] at g1; cases g1
  · rw [mv] at g1; cases g1
    rcases LB k with ⟨f1, _⟩ | ⟨y', f, z, f1, f2, f3, f4, f5⟩
    · rw [hv] at f1; cases f1
    · rw [hv] at f1; cases f1
      have ek : e k = pyEqN n d f := by
        show ((lookD ((ka.map keyD).zip ds) (keyD k)).any fun d => (lookD ((kb.map keyD).zip es) (keyD k)).any fun f => pyEqN n d f) = _
        rw [any_get g2, any_get f2]
      rw [ek]
      have c : cmpOk n d f = true := by
        rcases Bool.or_eq_true_iff.mp ok with w1 | w1
        · exact absurd hl (of_decide_eq_true w1)
        · rcases Bool.or_eq_true_iff.mp w1 with w2 | w2
          · have : ((ka.map keyD).zip ds).length = 0 := by simpa using w2
            rw [List.eq_nil_of_length_eq_zero this] at g5; cases g5
          · have w3 := List.all_eq_true.mp (Bool.and_eq_true_iff.mp w2).2 _ g5
            simp only [f2] at w3
            exact w3
      exact ih d f x z v y g3 f3 g4 f4 (Bool.and_eq_true_iff.mp (List.all_eq_true.mp o1b _ g5)).2 (Bool.and_eq_true_iff.mp (List.all_eq_true.mp o2b _ f5)).2 c A hu
theorem rc_dks {n : Nat} {a b : Addr} {ka kb : List Key} {us ws : List V} {ds es : List PyData} (I : Inv X pins σ H s) (ih : Ih X H s n) (la : us.length = ka.length) (lb : ws.length = kb.length) (ha : Rd H a (.dK (ka.zip us))) (hb : Rd H b (.dK (kb.zip ws))) (hx : DqAll X.K H us ds) (hy : DqAll X.K H ws es)
    (o1 : okD (n + 1) (.dict ((ka.map keyD).zip ds)) = true) (o2 : okD (n + 1) (.dict ((kb.map keyD).zip es)) = true) (ok : cmpOk (n + 1) (.dict ((ka.map keyD).zip ds)) (.dict ((kb.map keyD).zip es)) = true) :
    RcI X s (n + 1) (.ref a) (.ref b) (pyEqN (n + 1) (.dict ((ka.map keyD).zip ds)) (.dict ((kb.map keyD).zip es))) := by
  obtain ⟨_, va, _, _, D1, _⟩ := dk_is I la ha
  obtain ⟨_, vb, _, _, D2, _⟩ := dk_is I lb hb
  intro A E Q hu q
  have t1 : s.TypeIs (.ref a) "dict" := let ⟨o, es, n, h1, h2, _⟩ := dictOf_size D1; ⟨o, h1, h2⟩
  have t2 : s.TypeIs (.ref b) "dict" := let ⟨o, es, n, h1, h2, _⟩ := dictOf_size D2; ⟨o, h1, h2⟩
  exact PySem.ZDE.rc_dcts t1 t2 (by omega) (fun nm Q q => sp_dks I ih la lb ha hb hx hy o1 o2 ok A.in1 nm E Q (by show A.units + 1 + n < cLine; omega) q) q

abbrev tkD (ks : List Key) : PyData := .tuple (ks.map keyD)
theorem keyEq_t' (a b : List Key) : keyEq (tkD a) (tkD b) = decide (a = b) := keyEq_t a b
theorem atKey_val {ys : List (List Key × Addr × Value)} (k : List Key) : valueAt (ys.map fun q => (q.1, q.2.2)) k = (atKey ys k).map (·.2) := by
  induction ys with
  | nil => rfl
  | cons y ys ih =>
    rw [List.map_cons, val_cons, ih]
    unfold atKey
    by_cases h : y.1 = k
    · rw [if_pos h, List.find?_cons_of_pos (by simpa using h)]; rfl
    · rw [if_neg h, List.find?_cons_of_neg (by simpa using h)]
theorem hits_of {B : Around} {ys : List (List Key × Addr × Value)} {e : List Key → Bool} : ∀ xs : List (List Key × Addr × Value), (∀ x ∈ xs, ∀ p, atKey ys x.1 = some p → SeqAt.EqIn X.prog X.w B s x.2.2 p.2 (e x.1)) →
    PySem.ZDE.HitsH X.prog X.w B s ys xs (xs.all fun x => (atKey ys x.1).isSome && e x.1)
  | [], _ => .nil
  | x :: xs, h => by
    rw [List.all_cons]
    cases hp : atKey ys x.1 with
    | none => rw [show ((none : Option (Addr × Value)).isSome && e x.1 && xs.all fun x => (atKey ys x.1).isSome && e x.1) = false from rfl]; exact .miss hp
    | some p =>
      rw [show ((some p : Option (Addr × Value)).isSome && e x.1) = e x.1 from rfl]
      exact .hit hp (h x List.mem_cons_self p hp) (hits_of xs fun y hy => h y (List.mem_cons_of_mem _ hy))
/-- two dicts of tuple keys -/
theorem sp_dts {n : Nat} {a b : Addr} {ka kb : List (List Key)} {us ws : List V} {ds es : List PyData} (I : Inv X pins σ H s) (ih : Ih X H s n) (la : us.length = ka.length) (lb : ws.length = kb.length) (ha : Rd H a (.dT (ka.zip us))) (hb : Rd H b (.dT (kb.zip ws))) (hx : DqAll X.K H us ds) (hy : DqAll X.K H ws es)
    (o1 : okD (n + 1) (.dict ((ka.map tkD).zip ds)) = true) (o2 : okD (n + 1) (.dict ((kb.map tkD).zip es)) = true) (ok : cmpOk (n + 1) (.dict ((ka.map tkD).zip ds)) (.dict ((kb.map tkD).zip es)) = true) :
    SpI X s n a b (pyEqN (n + 1) (.dict ((ka.map tkD).zip ds)) (.dict ((kb.map tkD).zip es))) := by
  obtain ⟨sa, va, e1, r1, D1, n1⟩ := dt_is I la ha
  obtain ⟨sb, vb, e2, r2, D2, n2⟩ := dt_is I lb hb
  have l1 : ds.length = ka.length := by rw [dqa_len hx, la]
  have l2 : es.length = kb.length := by rw [dqa_len hy, lb]
  have lva : va.length = ka.length := by rw [← e1, List.length_map]
  have lvb : vb.length = kb.length := by rw [← e2, List.length_map]
  have z1 : ((ka.map tkD).zip ds).length = ka.length := by rw [zip_len (by rw [List.length_map]; exact l1.symm)]; exact l1
  have z2 : ((kb.map tkD).zip es).length = kb.length := by rw [zip_len (by rw [List.length_map]; exact l2.symm)]; exact l2
  rw [okD] at o1 o2
  rw [cmpOk, z1, z2] at ok
  rw [pyEqN, z1, z2]
  obtain ⟨o1a, o1b⟩ := Bool.and_eq_true_iff.mp o1
  obtain ⟨o2a, o2b⟩ := Bool.and_eq_true_iff.mp o2
  have LA := look_val (vs := va.map fun q => (q.1, q.2.2)) keyEq_t' (by rw [List.map_map]; exact r1) hx
  have LB := look_val (vs := vb.map fun q => (q.1, q.2.2)) keyEq_t' (by rw [List.map_map]; exact r2) hy
  have m1 : ((va.map fun q => (q.1, q.2.2)).map (·.1)) = ka := by rw [List.map_map]; exact e1
  have m2 : ((vb.map fun q => (q.1, q.2.2)).map (·.1)) = kb := by rw [List.map_map]; exact e2
  rw [m1] at LA
  rw [m2] at LB
  intro A nm E Q hu q
  let e : List Key → Bool := fun k => (lookD ((ka.map tkD).zip ds) (tkD k)).any fun d => (lookD ((kb.map tkD).zip es) (tkD k)).any fun f => pyEqN n d f
  have res : (va.all fun x => (atKey vb x.1).isSome && e x.1) = ((ka.map tkD).zip ds).all fun p => (lookD ((kb.map tkD).zip es) p.1).any fun v => pyEqN n p.2 v := by
    rw [dict_all keyEq_t' l1.symm n1]
    have : (va.all fun x => (atKey vb x.1).isSome && e x.1) = (va.map (·.1)).all fun k => (atKey vb k).isSome && e k := by rw [List.all_map]; rfl
    rw [this, e1]
    congr 1
    funext k
    show ((atKey vb k).isSome && e k) = e k
    rcases LB k with ⟨g1, g2⟩ | ⟨v, d, x, g1, g2, _⟩
    · rw [atKey_val, Option.map_eq_none_iff] at g1
      rw [g1]
      show false = e k
      symm
      show ((lookD ((ka.map tkD).zip ds) (tkD k)).any fun d => (lookD ((kb.map tkD).zip es) (tkD k)).any fun f => pyEqN n d f) = false
      rw [g2]
      cases lookD ((ka.map tkD).zip ds) (tkD k) <;> rfl
    · rw [atKey_val, Option.map_eq_some_iff] at g1
      obtain ⟨p, g1, _⟩ := g1
      rw [g1]; rfl
  by_cases hl : ka.length = kb.length
  · have eb : (ka.length == kb.length) = true := by simpa using hl
    rw [eb, Bool.true_and] at q
    refine PySem.ZDE.pairs_heap (knd := tupleKind (mixKind X.prog X.w)) (show (tupleKind (mixKind X.prog X.w)).room A from (by omega : A.units < cLine)) sa sb D1 D2 (by omega) (hits_of (e := e) va fun x hx' p hv => ?_) (by rw [res]; exact q)
    have hm : (x.1, x.2.2) ∈ va.map fun q => (q.1, q.2.2) := List.mem_map.mpr ⟨x, hx', rfl⟩
    have mv := mem_val (by rw [m1]; exact n1) hm
    have hv' : valueAt (vb.map fun q => (q.1, q.2.2)) x.1 = some p.2 := by rw [atKey_val, hv]; rfl
    rcases LA x.1 with ⟨g1, _⟩ | ⟨v', d, xx, g1, g2, g3, g4, g5⟩
    · rw [mv] at g1; cases g1
    · rw [mv] at g1; cases g1
      rcases LB x.1 with ⟨f1, _⟩ | ⟨y', f, z, f1, f2, f3, f4, f5⟩
      · rw [hv'] at f1; cases f1
      · rw [hv'] at f1; cases f1
        have ek : e x.1 = pyEqN n d f := by
          show ((lookD ((ka.map tkD).zip ds) (tkD x.1)).any fun d => (lookD ((kb.map tkD).zip es) (tkD x.1)).any fun f => pyEqN n d f) = _
          rw [any_get g2, any_get f2]
        rw [ek]
        have c : cmpOk n d f = true := by
          rcases Bool.or_eq_true_iff.mp ok with w1 | w1
          · exact absurd hl (of_decide_eq_true w1)
          · rcases Bool.or_eq_true_iff.mp w1 with w2 | w2
            · have : ((ka.map tkD).zip ds).length = 0 := by simpa using w2
              rw [List.eq_nil_of_length_eq_zero this] at g5; cases g5
            · have w3 := List.all_eq_true.mp (Bool.and_eq_true_iff.mp w2).2 _ g5
              simp only [f2] at w3
              exact w3
        exact ih d f xx z _ _ g3 f3 g4 f4 (Bool.and_eq_true_iff.mp (List.all_eq_true.mp o1b _ g5)).2 (Bool.and_eq_true_iff.mp (List.all_eq_true.mp o2b _ f5)).2 c A hu
  · have eb : (ka.length == kb.length) = false := by simpa using hl
    rw [eb, Bool.false_and] at q
    obtain ⟨oa, fa, i, h1, h2, h3, h4⟩ := dictOfH_size D1
    obtain ⟨ob, fb, j, g1, g2, g3, g4⟩ := dictOfH_size D2
    refine PySem.ZDE.pairs_sizes sa sb h1 h3 g1 g3 (.inl (by omega)) ?_
    have : (fa.size == fb.size) = false := by simpa using (by omega : ¬ fa.size = fb.size)
    rw [this]; exact q
theorem rc_dts {n : Nat} {a b : Addr} {ka kb : List (List Key)} {us ws : List V} {ds es : List PyData} (I : Inv X pins σ H s) (ih : Ih X H s n) (la : us.length = ka.length) (lb : ws.length = kb.length) (ha : Rd H a (.dT (ka.zip us))) (hb : Rd H b (.dT (kb.zip ws))) (hx : DqAll X.K H us ds) (hy : DqAll X.K H ws es)
    (o1 : okD (n + 1) (.dict ((ka.map tkD).zip ds)) = true) (o2 : okD (n + 1) (.dict ((kb.map tkD).zip es)) = true) (ok : cmpOk (n + 1) (.dict ((ka.map tkD).zip ds)) (.dict ((kb.map tkD).zip es)) = true) :
    RcI X s (n + 1) (.ref a) (.ref b) (pyEqN (n + 1) (.dict ((ka.map tkD).zip ds)) (.dict ((kb.map tkD).zip es))) := by
  obtain ⟨_, va, _, _, D1, _⟩ := dt_is I la ha
  obtain ⟨_, vb, _, _, D2, _⟩ := dt_is I lb hb
  intro A E Q hu q
  have t1 : s.TypeIs (.ref a) "dict" := let ⟨o, es, n, h1, h2, _⟩ := dictOfH_size D1; ⟨o, h1, h2⟩
  have t2 : s.TypeIs (.ref b) "dict" := let ⟨o, es, n, h1, h2, _⟩ := dictOfH_size D2; ⟨o, h1, h2⟩
  exact PySem.ZDE.rc_dcts t1 t2 (by omega) (fun nm Q q => sp_dts I ih la lb ha hb hx hy o1 o2 ok A.in1 nm E Q (by show A.units + 1 + n < cLine; omega) q) q

/-- two dicts by their sizes alone -/
theorem rc_dsize {n : Nat} {a b : Addr} {A B : List (PyData × PyData)} {oa ob : Obj} {fa fb : Array DictEntry} {i j : Nat} (sa : (a == sysModules) = false) (sb : (b == sysModules) = false) (h1 : s.heap.get? a = some oa) (h2 : oa.cls = .type "dict") (h3 : oa.data = .dict fa i) (h4 : fa.size = A.length)
    (g1 : s.heap.get? b = some ob) (g2 : ob.cls = .type "dict") (g3 : ob.data = .dict fb j) (g4 : fb.size = B.length) (hs : A.length ≠ B.length ∨ A = []) : RcI X s (n + 1) (.ref a) (.ref b) (pyEqN (n + 1) (.dict A) (.dict B)) := by
  rw [pyEqN]
  intro Z E Q hu q
  have e : (A.length == B.length && A.all fun p => (lookD B p.1).any fun v => pyEqN n p.2 v) = (fa.size == fb.size) := by
    rw [h4, g4]
    rcases hs with h | h
    · have : (A.length == B.length) = false := by simpa using h
      rw [this]; rfl
    · subst h; simp
  rw [e] at q
  refine PySem.ZDE.rc_dcts ⟨oa, h1, h2⟩ ⟨ob, g1, g2⟩ (by omega) (fun nm Q q => PySem.ZDE.pairs_sizes sa sb h1 h3 g1 g3 ?_ q) q
  rcases hs with h | h
  · exact .inl (by omega)
  · exact .inr (by rw [h4, h]; rfl)
theorem kind_k : ∀ {ka : List Key} {ds : List PyData}, kindK true ((ka.map keyD).zip ds) = true → (ka.map keyD).zip ds = []
  | [], _, _ => rfl
  | _ :: _, [], _ => rfl
  | k :: ka, d :: ds, h => by
    have h2 := List.all_eq_true.mp h (keyD k, d) List.mem_cons_self
    cases k <;> cases h2
theorem kind_t : ∀ {ka : List (List Key)} {ds : List PyData}, kindK false ((ka.map tkD).zip ds) = true → (ka.map tkD).zip ds = []
  | [], _, _ => rfl
  | _ :: _, [], _ => rfl
  | k :: ka, d :: ds, h => by
    have h2 := List.all_eq_true.mp h (tkD k, d) List.mem_cons_self
    cases h2
theorem dct_k {a : Addr} {kk : List Key} {us : List V} (I : Inv X pins σ H s) (hl : us.length = kk.length) (hd : Rd H a (.dK (kk.zip us))) : PySem.ZDE.IsDct s a := by
  obtain ⟨_, vs, _, _, D, _⟩ := dk_is I hl hd
  obtain ⟨o, es, n, h1, h2, h3, _⟩ := dictOf_size D
  exact ⟨o, h1, h2, es, n, h3⟩
theorem dct_t {a : Addr} {kk : List (List Key)} {us : List V} (I : Inv X pins σ H s) (hl : us.length = kk.length) (hd : Rd H a (.dT (kk.zip us))) : PySem.ZDE.IsDct s a := by
  obtain ⟨_, vs, _, _, D, _⟩ := dt_is I hl hd
  obtain ⟨o, es, n, h1, h2, h3, _⟩ := dictOfH_size D
  exact ⟨o, h1, h2, es, n, h3⟩
def isAtom : PyData → Bool
  | .none => true
  | .bool _ => true
  | .int _ => true
  | .str _ => true
  | _ => false
theorem dec_len {A B : List (PyData × PyData)} (h : B.length = 0) : A.length ≠ B.length ∨ A = [] := by
  cases A with
  | nil => exact .inr rfl
  | cons _ _ => exact .inl (by rw [h]; simp)
theorem eq_rc {n : Nat} (I : Inv X pins σ H s) (ih : Ih X H s n) : ∀ {d e : PyData} {x y : V} {u w : Value}, Dq X.K H x d → Dq X.K H y e → RelV x u → RelV y w → okD (n + 1) d = true → okD (n + 1) e = true → cmpOk (n + 1) d e = true → (isAtom d && isAtom e) = false → RcI X s (n + 1) u w (pyEqN (n + 1) d e) := by
  intro d e x y u w hx hy rx ry o1 o2 ok na
  cases hx with
  | non =>
    cases rx
    cases hy with
    | non => cases na
    | bl _ => cases na
    | int _ => cases na
    | str _ => cases na
    | lst hb hy =>
      cases ry
      obtain ⟨_, _, l⟩ := lst_is I hb
      rw [show pyEqN (n + 1) _ _ = false by simp [pyEqN, PyData.eqv]]
      exact RcI.of fun A hu => SeqAt.RcAt.none_list l hu
    | tup hb hy =>
      cases ry
      obtain ⟨_, _, l⟩ := tup_is I hb
      rw [show pyEqN (n + 1) _ _ = false by simp [pyEqN, PyData.eqv]]
      exact RcI.of fun A hu => SeqAt.RcAt.none_tuple l hu
    | dk hl hd hy =>
      cases ry
      rw [show pyEqN (n + 1) _ _ = false by simp [pyEqN, PyData.eqv]]
      exact fun A E Q hu q => PySem.ZDE.rc_none_d (dct_k I hl hd) (by omega) q
    | dt hl hd hy =>
      cases ry
      rw [show pyEqN (n + 1) _ _ = false by simp [pyEqN, PyData.eqv]]
      exact fun A E Q hu q => PySem.ZDE.rc_none_d (dct_t I hl hd) (by omega) q
  | bl b =>
    cases rx
    cases hy with
    | non => cases na
    | bl _ => cases na
    | int _ => cases na
    | str _ => cases na
    | lst hb hy =>
      cases ry
      obtain ⟨_, _, l⟩ := lst_is I hb
      rw [show pyEqN (n + 1) _ _ = false by simp [pyEqN, PyData.eqv]]
      exact RcI.of fun A hu => SeqAt.RcAt.bool_list b l hu
    | tup hb hy =>
      cases ry
      obtain ⟨_, _, l⟩ := tup_is I hb
      rw [show pyEqN (n + 1) _ _ = false by simp [pyEqN, PyData.eqv]]
      exact RcI.of fun A hu => SeqAt.RcAt.bool_tuple b l hu
    | dk hl hd hy =>
      cases ry
      rw [show pyEqN (n + 1) _ _ = false by simp [pyEqN, PyData.eqv]]
      exact fun A E Q hu q => PySem.ZDE.rc_bool_d b (dct_k I hl hd) (by omega) q
    | dt hl hd hy =>
      cases ry
      rw [show pyEqN (n + 1) _ _ = false by simp [pyEqN, PyData.eqv]]
      exact fun A E Q hu q => PySem.ZDE.rc_bool_d b (dct_t I hl hd) (by omega) q
  | int i =>
    obtain ⟨t, rfl⟩ := rx
    cases hy with
    | non => cases na
    | bl _ => cases na
    | int _ => cases na
    | str _ => cases na
    | lst hb hy =>
      cases ry
      obtain ⟨_, _, l⟩ := lst_is I hb
      rw [show pyEqN (n + 1) _ _ = false by simp [pyEqN, PyData.eqv]]
      exact RcI.of fun A hu => SeqAt.RcAt.int_list i t l hu
    | tup hb hy =>
      cases ry
      obtain ⟨_, _, l⟩ := tup_is I hb
      rw [show pyEqN (n + 1) _ _ = false by simp [pyEqN, PyData.eqv]]
      exact RcI.of fun A hu => SeqAt.RcAt.int_tuple i t l hu
    | dk hl hd hy =>
      cases ry
      rw [show pyEqN (n + 1) _ _ = false by simp [pyEqN, PyData.eqv]]
      exact fun A E Q hu q => PySem.ZDE.rc_int_d i t (dct_k I hl hd) (by omega) q
    | dt hl hd hy =>
      cases ry
      rw [show pyEqN (n + 1) _ _ = false by simp [pyEqN, PyData.eqv]]
      exact fun A E Q hu q => PySem.ZDE.rc_int_d i t (dct_t I hl hd) (by omega) q
  | str z =>
    obtain ⟨t, rfl⟩ := rx
    cases hy with
    | non => cases na
    | bl _ => cases na
    | int _ => cases na
    | str _ => cases na
    | lst hb hy =>
      cases ry
      obtain ⟨_, _, l⟩ := lst_is I hb
      rw [show pyEqN (n + 1) _ _ = false by simp [pyEqN, PyData.eqv]]
      exact RcI.of fun A hu => SeqAt.RcAt.str_list z t l hu
    | tup hb hy =>
      cases ry
      obtain ⟨_, _, l⟩ := tup_is I hb
      rw [show pyEqN (n + 1) _ _ = false by simp [pyEqN, PyData.eqv]]
      exact RcI.of fun A hu => SeqAt.RcAt.str_tuple z t l hu
    | dk hl hd hy =>
      cases ry
      rw [show pyEqN (n + 1) _ _ = false by simp [pyEqN, PyData.eqv]]
      exact fun A E Q hu q => PySem.ZDE.rc_str_d z t (dct_k I hl hd) (by omega) q
    | dt hl hd hy =>
      cases ry
      rw [show pyEqN (n + 1) _ _ = false by simp [pyEqN, PyData.eqv]]
      exact fun A E Q hu q => PySem.ZDE.rc_str_d z t (dct_t I hl hd) (by omega) q
  | lst ha hx =>
    cases rx
    cases hy with
    | non =>
      cases ry
      obtain ⟨_, _, l⟩ := lst_is I ha
      rw [show pyEqN (n + 1) _ _ = false by simp [pyEqN, PyData.eqv]]
      exact RcI.of fun A hu => SeqAt.RcAt.list_none l hu
    | bl b =>
      cases ry
      obtain ⟨_, _, l⟩ := lst_is I ha
      rw [show pyEqN (n + 1) _ _ = false by simp [pyEqN, PyData.eqv]]
      exact RcI.of fun A hu => SeqAt.RcAt.list_bool b l hu
    | int i =>
      obtain ⟨t, rfl⟩ := ry
      obtain ⟨_, _, l⟩ := lst_is I ha
      rw [show pyEqN (n + 1) _ _ = false by simp [pyEqN, PyData.eqv]]
      exact RcI.of fun A hu => SeqAt.RcAt.list_int i t l hu
    | str z =>
      obtain ⟨t, rfl⟩ := ry
      obtain ⟨_, _, l⟩ := lst_is I ha
      rw [show pyEqN (n + 1) _ _ = false by simp [pyEqN, PyData.eqv]]
      exact RcI.of fun A hu => SeqAt.RcAt.list_str z t l hu
    | lst hb hy =>
      cases ry
      exact rc_lists I ih ha hb hx hy o1 o2 ok
    | tup hb hy =>
      cases ry
      obtain ⟨_, _, l⟩ := lst_is I ha
      obtain ⟨_, _, l2⟩ := tup_is I hb
      rw [show pyEqN (n + 1) _ _ = false by simp [pyEqN, PyData.eqv]]
      exact RcI.of fun A hu => SeqAt.RcAt.list_tuple l l2 hu
    | dk hl hd hy =>
      cases ry
      obtain ⟨_, _, l⟩ := lst_is I ha
      rw [show pyEqN (n + 1) _ _ = false by simp [pyEqN, PyData.eqv]]
      exact fun A E Q hu q => PySem.ZDE.rc_list_d (dct_k I hl hd) l (by omega) q
    | dt hl hd hy =>
      cases ry
      obtain ⟨_, _, l⟩ := lst_is I ha
      rw [show pyEqN (n + 1) _ _ = false by simp [pyEqN, PyData.eqv]]
      exact fun A E Q hu q => PySem.ZDE.rc_list_d (dct_t I hl hd) l (by omega) q
  | tup ha hx =>
    cases rx
    cases hy with
    | non =>
      cases ry
      obtain ⟨_, _, l⟩ := tup_is I ha
      rw [show pyEqN (n + 1) _ _ = false by simp [pyEqN, PyData.eqv]]
      exact RcI.of fun A hu => SeqAt.RcAt.tuple_none l hu
    | bl b =>
      cases ry
      obtain ⟨_, _, l⟩ := tup_is I ha
      rw [show pyEqN (n + 1) _ _ = false by simp [pyEqN, PyData.eqv]]
      exact RcI.of fun A hu => SeqAt.RcAt.tuple_bool b l hu
    | int i =>
      obtain ⟨t, rfl⟩ := ry
      obtain ⟨_, _, l⟩ := tup_is I ha
      rw [show pyEqN (n + 1) _ _ = false by simp [pyEqN, PyData.eqv]]
      exact RcI.of fun A hu => SeqAt.RcAt.tuple_int i t l hu
    | str z =>
      obtain ⟨t, rfl⟩ := ry
      obtain ⟨_, _, l⟩ := tup_is I ha
      rw [show pyEqN (n + 1) _ _ = false by simp [pyEqN, PyData.eqv]]
      exact RcI.of fun A hu => SeqAt.RcAt.tuple_str z t l hu
    | lst hb hy =>
      cases ry
      obtain ⟨_, _, l⟩ := tup_is I ha
      obtain ⟨_, _, l2⟩ := lst_is I hb
      rw [show pyEqN (n + 1) _ _ = false by simp [pyEqN, PyData.eqv]]
      exact RcI.of fun A hu => SeqAt.RcAt.tuple_list l l2 hu
    | tup hb hy =>
      cases ry
      exact rc_tuples I ih ha hb hx hy o1 o2 ok
    | dk hl hd hy =>
      cases ry
      obtain ⟨_, _, l⟩ := tup_is I ha
      rw [show pyEqN (n + 1) _ _ = false by simp [pyEqN, PyData.eqv]]
      exact fun A E Q hu q => PySem.ZDE.rc_tuple_d (dct_k I hl hd) l (by omega) q
    | dt hl hd hy =>
      cases ry
      obtain ⟨_, _, l⟩ := tup_is I ha
      rw [show pyEqN (n + 1) _ _ = false by simp [pyEqN, PyData.eqv]]
      exact fun A E Q hu q => PySem.ZDE.rc_tuple_d (dct_t I hl hd) l (by omega) q
  | dk hl1 hd1 hx =>
    cases rx
    cases hy with
    | non =>
      cases ry
      rw [show pyEqN (n + 1) _ _ = false by simp [pyEqN, PyData.eqv]]
      exact fun A E Q hu q => PySem.ZDE.rc_d_none (dct_k I hl1 hd1) (by omega) q
    | bl b =>
      cases ry
      rw [show pyEqN (n + 1) _ _ = false by simp [pyEqN, PyData.eqv]]
      exact fun A E Q hu q => PySem.ZDE.rc_d_bool b (dct_k I hl1 hd1) (by omega) q
    | int i =>
      obtain ⟨t, rfl⟩ := ry
      rw [show pyEqN (n + 1) _ _ = false by simp [pyEqN, PyData.eqv]]
      exact fun A E Q hu q => PySem.ZDE.rc_d_int i t (dct_k I hl1 hd1) (by omega) q
    | str z =>
      obtain ⟨t, rfl⟩ := ry
      rw [show pyEqN (n + 1) _ _ = false by simp [pyEqN, PyData.eqv]]
      exact fun A E Q hu q => PySem.ZDE.rc_d_str z t (dct_k I hl1 hd1) (by omega) q
    | lst hb hy =>
      cases ry
      obtain ⟨_, _, l⟩ := lst_is I hb
      rw [show pyEqN (n + 1) _ _ = false by simp [pyEqN, PyData.eqv]]
      exact fun A E Q hu q => PySem.ZDE.rc_d_list (dct_k I hl1 hd1) l (by omega) q
    | tup hb hy =>
      cases ry
      obtain ⟨_, _, l⟩ := tup_is I hb
      rw [show pyEqN (n + 1) _ _ = false by simp [pyEqN, PyData.eqv]]
      exact fun A E Q hu q => PySem.ZDE.rc_d_tuple (dct_k I hl1 hd1) l (by omega) q
    | dk hl hd hy =>
      cases ry
      exact rc_dks I ih hl1 hl hd1 hd hx hy o1 o2 ok
    | dt hl hd hy =>
      cases ry
      obtain ⟨sa, va, e1, r1, D1, _⟩ := dk_is I hl1 hd1
      obtain ⟨sb, vb, e2, r2, D2, _⟩ := dt_is I hl hd
      obtain ⟨oa, fa, i, h1, h2, h3, h4⟩ := dictOf_size D1
      obtain ⟨ob, fb, j, g1, g2, g3, g4⟩ := dictOfH_size D2
      have c1 := dqa_len hx
      have c2 := dqa_len hy
      have v1 := congrArg List.length e1
      have v2 := congrArg List.length e2
      rw [List.length_map] at v1 v2
      refine rc_dsize sa sb h1 h2 h3 (by rw [zip_len (by rw [List.length_map]; omega)]; omega) g1 g2 g3 (by rw [zip_len (by rw [List.length_map]; omega)]; omega) ?_
      rw [cmpOk] at ok
      rcases Bool.or_eq_true_iff.mp ok with z | z
      · exact .inl (of_decide_eq_true z)
      · rcases Bool.or_eq_true_iff.mp z with z | z
        · exact .inr (by simpa using z)
        · have z := (Bool.and_eq_true_iff.mp z).1
          rcases Bool.or_eq_true_iff.mp z with z | z
          · obtain ⟨z1, z2⟩ := Bool.and_eq_true_iff.mp z
            exact .inr (kind_k z1)
          · obtain ⟨z1, z2⟩ := Bool.and_eq_true_iff.mp z
            exact dec_len (by rw [kind_t z2]; rfl)
  | dt hl1 hd1 hx =>
    cases rx
    cases hy with
    | non =>
      cases ry
      rw [show pyEqN (n + 1) _ _ = false by simp [pyEqN, PyData.eqv]]
      exact fun A E Q hu q => PySem.ZDE.rc_d_none (dct_t I hl1 hd1) (by omega) q
    | bl b =>
      cases ry
      rw [show pyEqN (n + 1) _ _ = false by simp [pyEqN, PyData.eqv]]
      exact fun A E Q hu q => PySem.ZDE.rc_d_bool b (dct_t I hl1 hd1) (by omega) q
    | int i =>
      obtain ⟨t, rfl⟩ := ry
      rw [show pyEqN (n + 1) _ _ = false by simp [pyEqN, PyData.eqv]]
      exact fun A E Q hu q => PySem.ZDE.rc_d_int i t (dct_t I hl1 hd1) (by omega) q
    | str z =>
      obtain ⟨t, rfl⟩ := ry
      rw [show pyEqN (n + 1) _ _ = false by simp [pyEqN, PyData.eqv]]
      exact fun A E Q hu q => PySem.ZDE.rc_d_str z t (dct_t I hl1 hd1) (by omega) q
    | lst hb hy =>
      cases ry
      obtain ⟨_, _, l⟩ := lst_is I hb
      rw [show pyEqN (n + 1) _ _ = false by simp [pyEqN, PyData.eqv]]
      exact fun A E Q hu q => PySem.ZDE.rc_d_list (dct_t I hl1 hd1) l (by omega) q
    | tup hb hy =>
      cases ry
      obtain ⟨_, _, l⟩ := tup_is I hb
      rw [show pyEqN (n + 1) _ _ = false by simp [pyEqN, PyData.eqv]]
      exact fun A E Q hu q => PySem.ZDE.rc_d_tuple (dct_t I hl1 hd1) l (by omega) q
    | dk hl hd hy =>
      cases ry
      obtain ⟨sa, va, e1, r1, D1, _⟩ := dt_is I hl1 hd1
      obtain ⟨sb, vb, e2, r2, D2, _⟩ := dk_is I hl hd
      obtain ⟨oa, fa, i, h1, h2, h3, h4⟩ := dictOfH_size D1
      obtain ⟨ob, fb, j, g1, g2, g3, g4⟩ := dictOf_size D2
      have c1 := dqa_len hx
      have c2 := dqa_len hy
      have v1 := congrArg List.length e1
      have v2 := congrArg List.length e2
      rw [List.length_map] at v1 v2
      refine rc_dsize sa sb h1 h2 h3 (by rw [zip_len (by rw [List.length_map]; omega)]; omega) g1 g2 g3 (by rw [zip_len (by rw [List.length_map]; omega)]; omega) ?_
      rw [cmpOk] at ok
      rcases Bool.or_eq_true_iff.mp ok with z | z
      · exact .inl (of_decide_eq_true z)
      · rcases Bool.or_eq_true_iff.mp z with z | z
        · exact .inr (by simpa using z)
        · have z := (Bool.and_eq_true_iff.mp z).1
          rcases Bool.or_eq_true_iff.mp z with z | z
          · obtain ⟨z1, z2⟩ := Bool.and_eq_true_iff.mp z
            exact dec_len (by rw [kind_k z2]; rfl)
          · obtain ⟨z1, z2⟩ := Bool.and_eq_true_iff.mp z
            exact .inr (kind_t z1)
    | dt hl hd hy =>
      cases ry
      exact rc_dts I ih hl1 hl hd1 hd hx hy o1 o2 ok

theorem eq_main (I : Inv X pins σ H s) (hsm : smB X.K = true) : ∀ n : Nat, Ih X H s n := by
  intro n
  induction n with
  | zero => intro d e x y u w _ _ _ _ o1 _ _; rw [okD] at o1; cases o1
  | succ n ih =>
    intro d e x y u w hx hy rx ry o1 o2 ok A hu
    cases na : isAtom d && isAtom e with
    | true =>
      have hb : pyEqN (n + 1) d e = PyData.eqv d e := by
        cases d <;> cases e <;> first | rfl | (cases na)
      rw [hb]
      refine SeqAt.EqAt.inModel ?_ _ _
      cases hx with
      | non =>
        cases rx
        cases hy with
        | non => cases ry; exact PySem.W.keq_flat (fun h => Reads.none) (fun h => Reads.none)
        | bl c => cases ry; exact PySem.W.keq_flat (fun h => Reads.none) (fun h => Reads.bool c)
        | int j => obtain ⟨t, rfl⟩ := ry; exact PySem.W.keq_flat (fun h => Reads.none) (fun h => Reads.int j t)
        | str z => obtain ⟨t, rfl⟩ := ry; exact PySem.W.keq_flat (fun h => Reads.none) (fun h => Reads.str z t)
        | _ => cases na
      | bl b =>
        cases rx
        cases hy with
        | non => cases ry; exact PySem.W.keq_flat (fun h => Reads.bool b) (fun h => Reads.none)
        | bl c => cases ry; exact PySem.W.keq_flat (fun h => Reads.bool b) (fun h => Reads.bool c)
        | int j => obtain ⟨t, rfl⟩ := ry; exact PySem.W.keq_flat (fun h => Reads.bool b) (fun h => Reads.int j t)
        | str z => obtain ⟨t, rfl⟩ := ry; exact PySem.W.keq_flat (fun h => Reads.bool b) (fun h => Reads.str z t)
        | _ => cases na
      | int i =>
        obtain ⟨t0, rfl⟩ := rx
        cases hy with
        | non => cases ry; exact PySem.W.keq_flat (fun h => Reads.int i t0) (fun h => Reads.none)
        | bl c => cases ry; exact PySem.W.keq_flat (fun h => Reads.int i t0) (fun h => Reads.bool c)
        | int j => obtain ⟨t, rfl⟩ := ry; exact PySem.W.keq_flat (fun h => Reads.int i t0) (fun h => Reads.int j t)
        | str z => obtain ⟨t, rfl⟩ := ry; exact PySem.W.keq_flat (fun h => Reads.int i t0) (fun h => Reads.str z t)
        | _ => cases na
      | str y0 =>
        obtain ⟨t0, rfl⟩ := rx
        cases hy with
        | non => cases ry; exact PySem.W.keq_flat (fun h => Reads.str y0 t0) (fun h => Reads.none)
        | bl c => cases ry; exact PySem.W.keq_flat (fun h => Reads.str y0 t0) (fun h => Reads.bool c)
        | int j => obtain ⟨t, rfl⟩ := ry; exact PySem.W.keq_flat (fun h => Reads.str y0 t0) (fun h => Reads.int j t)
        | str z => obtain ⟨t, rfl⟩ := ry; exact PySem.W.keq_flat (fun h => Reads.str y0 t0) (fun h => Reads.str z t)
        | _ => cases na
      | _ => cases na
    | false =>
      have rc := eq_rc I ih hx hy rx ry o1 o2 ok na
      obtain ⟨as, ra, _⟩ := Dq.reads hsm I x d u hx rx
      obtain ⟨bs, rb, _⟩ := Dq.reads hsm I y e w hy ry
      cases u with
      | ref a =>
        cases w with
        | ref b =>
          by_cases hab : a = b
          · subst hab
            obtain ⟨hde, _⟩ := PySem.Reads.unique ra e bs rb
            subst hde
            rw [pyEqN_refl (n + 1) d o1]
            exact (SeqAt.EqAt.same _).inModel _ _
          · exact SeqAt.EqIn.of_refs hab fun E Q q => rc A E Q hu q
        | _ => exact eqb_left (by intro c z; cases z) fun E Q q => rc A E Q hu q
      | _ =>
        cases w with
        | ref b =>
          refine eqb_right ?_ fun E Q q => rc A E Q hu q
          cases hx with
          | non => exact .inl rx
          | bl c => exact .inr (.inl ⟨c, rx⟩)
          | int i => obtain ⟨t, z⟩ := rx; exact .inr (.inr (.inl ⟨i, t, z⟩))
          | str z => obtain ⟨t, z⟩ := rx; exact .inr (.inr (.inr ⟨_, t, z⟩))
          | _ => cases rx
        | _ =>
          exfalso
          cases hx <;> cases hy <;> first | (cases na; done) | (cases rx; done) | (cases ry; done) | (obtain ⟨_, z⟩ := rx; cases z; done) | (obtain ⟨_, z⟩ := ry; cases z; done)
end
end Z
end
section
set_option Elab.async false
set_option linter.all false
set_option maxRecDepth 100000
set_option maxHeartbeats 2000000
/-! YX: != of dicts; the operators. -/
namespace PySem
namespace ZDE
open PySem.SeqAt PyProof.Rows
/-! ### a dict beside a thing of another type, by != -/
theorem dct_nn {prog : Program} {w : World} {A : Around} {E : Value → Shared → Prop} {s : Shared} {d : Addr} {b : Value} {Tb : String} (hd : s.TypeIs (.ref d) "dict") (hb : s.TypeIs b Tb) (hs : isSubtype (.type Tb) (.type "dict") = pure false) (Q : Value → Shared → Prop) (hq : Q .notImplemented s) :
    wpAny (model prog w) A (call (.builtin "dict.__ne__") [.ref d, b]) Q E s := by
  refine wpAny_call_entry PySem.F.slot_dict_ne hd PySem.F.entry_dict_ne ?_ (PySem.F.args_dict_ne_2 _ _)
  show wpAny _ _ (Builtin.Dict.dictSlotArgs "__ne__" ⟨[.ref d, b], []⟩ >>= _) _ _ s
  unfold Builtin.Dict.dictSlotArgs
  refine wpAny_bind (wpAny_bind (wpAny_notOrdered_dict hd ?_))
  refine wpAny_pure ?_
  refine wpAny_bind (wpAny_isInstance hb hs ?_)
  rw [if_pos (by rfl)]
  exact wpAny_bind (wpAny_rule (wpAny_pure ⟨_, rfl, hq⟩))
theorem int_nn_b (b : Bool) (l : Addr) (es : Array DictEntry) (n : Nat) (dd : Option Addr) (sl : Array (Option Value)) :
    Meets (Builtin.«int.__ne__» ⟨[.bool b, .ref l], []⟩) (fun _ R s => s.heap.get? l = some { cls := .type "dict", dict := dd, data := .dict es n, slots := sl } ∧ R (.ok (.ret .notImplemented)) s) :=
  .of_wp fun prog w A R s h => by obtain ⟨hp, g, d, tk, os⟩ := s; obtain ⟨hl, h⟩ := h; wp_walk using wpAny_loadPart' hl, wpAny_load hl; exact ⟨_, rfl, h⟩
theorem int_nn_i (b : Int) (u : Tok) (l : Addr) (es : Array DictEntry) (n : Nat) (dd : Option Addr) (sl : Array (Option Value)) :
    Meets (Builtin.«int.__ne__» ⟨[.int b u, .ref l], []⟩) (fun _ R s => s.heap.get? l = some { cls := .type "dict", dict := dd, data := .dict es n, slots := sl } ∧ R (.ok (.ret .notImplemented)) s) :=
  .of_wp fun prog w A R s h => by obtain ⟨hp, g, d, tk, os⟩ := s; obtain ⟨hl, h⟩ := h; wp_walk using wpAny_loadPart' hl, wpAny_load hl; exact ⟨_, rfl, h⟩
theorem str_nn (b : Str) (u : Tok) (l : Addr) (es : Array DictEntry) (n : Nat) (dd : Option Addr) (sl : Array (Option Value)) :
    Meets (Builtin.«str.__ne__» ⟨[.str b u, .ref l], []⟩) (fun _ R s => s.heap.get? l = some { cls := .type "dict", dict := dd, data := .dict es n, slots := sl } ∧ R (.ok (.ret .notImplemented)) s) :=
  .of_wp fun prog w A R s h => by obtain ⟨hp, g, d, tk, os⟩ := s; obtain ⟨hl, h⟩ := h; wp_walk using wpAny_loadPart' hl, wpAny_load hl; exact ⟨_, rfl, h⟩
theorem lst_nn (a : Addr) (its : Array Value) (m : Nat) (d1 : Option Addr) (s1 : Array (Option Value)) (l : Addr) (es : Array DictEntry) (n : Nat) (dd : Option Addr) (sl : Array (Option Value)) :
    Meets (Builtin.«list.__ne__» ⟨[.ref a, .ref l], []⟩) (fun _ R s => (s.heap.get? a = some { cls := .type "list", dict := d1, data := .seq its m, slots := s1 } ∧ s.heap.get? l = some { cls := .type "dict", dict := dd, data := .dict es n, slots := sl }) ∧ R (.ok (.ret .notImplemented)) s) :=
  .of_wp fun prog w A R s h => by obtain ⟨hp, g, d, tk, os⟩ := s; obtain ⟨⟨ha, hl⟩, h⟩ := h; have f1 := F.sub_dict_list; wp_walk using wpAny_loadPart' ha, wpAny_loadPart' hl, wpAny_load hl; exact ⟨_, rfl, h⟩
theorem tup_nn (a : Addr) (its : Array Value) (m : Nat) (d1 : Option Addr) (s1 : Array (Option Value)) (l : Addr) (es : Array DictEntry) (n : Nat) (dd : Option Addr) (sl : Array (Option Value)) :
    Meets (Builtin.«tuple.__ne__» ⟨[.ref a, .ref l], []⟩) (fun _ R s => (s.heap.get? a = some { cls := .type "tuple", dict := d1, data := .seq its m, slots := s1 } ∧ s.heap.get? l = some { cls := .type "dict", dict := dd, data := .dict es n, slots := sl }) ∧ R (.ok (.ret .notImplemented)) s) :=
  .of_wp fun prog w A R s h => by obtain ⟨hp, g, d, tk, os⟩ := s; obtain ⟨⟨ha, hl⟩, h⟩ := h; have f1 := F.sub_dict_tuple; wp_walk using wpAny_loadPart' ha, wpAny_loadPart' hl, wpAny_load hl; exact ⟨_, rfl, h⟩
section
variable {prog : Program} {w : World} {A : Around} {E : Value → Shared → Prop} {s : Shared} {l : Addr}
theorem rn_d_none (h : IsDct s l) (hu : A.units < cLine) {Q : Value → Shared → Prop} (q : Q (.bool true) s) : wpAny (model prog w) A (richCompare .NotEq (.ref l) (.none)) Q E s := by
  obtain ⟨⟨cls, dd, data, sl⟩, ho, hc, es, n, hd⟩ := h
  simp only at hc hd
  subst hc hd
  exact rc_ne_decline_or (k := false) ⟨_, ho, rfl⟩ rfl (by decide) F.sub_NoneType_dict F.slot_dict_ne F.slot_NoneType_ne_refl
    (fun Q' hq => dct_nn (b := .none) (Tb := "NoneType") ⟨_, ho, rfl⟩ rfl F.sub_NoneType_dict Q' hq) (fun _ hq => call_gives F.slot_NoneType_ne_refl rfl F.entry_NoneType_ne (F.args_NoneType_ne_2 _ _) (NoneType___ne___none_ref_0 l) hq)
    (fun _ hq => wpAny_of_eq (rfl : isSame (.ref l) (.none) = pure false) hq) (.inr hu) q
theorem rn_none_d (h : IsDct s l) (hu : A.units < cLine) {Q : Value → Shared → Prop} (q : Q (.bool true) s) : wpAny (model prog w) A (richCompare .NotEq (.none) (.ref l)) Q E s := by
  obtain ⟨⟨cls, dd, data, sl⟩, ho, hc, es, n, hd⟩ := h
  simp only at hc hd
  subst hc hd
  exact rc_ne_decline_or (k := false) rfl ⟨_, ho, rfl⟩ (by decide) F.sub_dict_NoneType F.slot_NoneType_ne F.slot_dict_ne_refl
    (fun _ hq => call_gives F.slot_NoneType_ne rfl F.entry_NoneType_ne (F.args_NoneType_ne_2 _ _) (NoneType___ne___none_ref_0 l) hq) (fun Q' hq => dct_nn (b := .none) (Tb := "NoneType") ⟨_, ho, rfl⟩ rfl F.sub_NoneType_dict Q' hq)
    (fun _ hq => wpAny_of_eq (rfl : isSame (.none) (.ref l) = pure false) hq) (.inr hu) q
theorem rn_d_bool (b : Bool) (h : IsDct s l) (hu : A.units < cLine) {Q : Value → Shared → Prop} (q : Q (.bool true) s) : wpAny (model prog w) A (richCompare .NotEq (.ref l) (.bool b)) Q E s := by
  obtain ⟨⟨cls, dd, data, sl⟩, ho, hc, es, n, hd⟩ := h
  simp only at hc hd
  subst hc hd
  exact rc_ne_decline_or (k := false) ⟨_, ho, rfl⟩ rfl (by decide) F.sub_bool_dict F.slot_dict_ne F.slot_bool_ne_refl
    (fun Q' hq => dct_nn (b := .bool b) (Tb := "bool") ⟨_, ho, rfl⟩ rfl F.sub_bool_dict Q' hq) (fun _ hq => call_meets F.slot_bool_ne_refl rfl F.entry_int_ne (F.args_int_ne_2 _ _) (int_nn_b b l es n dd sl) ⟨ho, hq⟩)
    (fun _ hq => wpAny_of_eq (rfl : isSame (.ref l) (.bool b) = pure false) hq) (.inr hu) q
theorem rn_bool_d (b : Bool) (h : IsDct s l) (hu : A.units < cLine) {Q : Value → Shared → Prop} (q : Q (.bool true) s) : wpAny (model prog w) A (richCompare .NotEq (.bool b) (.ref l)) Q E s := by
  obtain ⟨⟨cls, dd, data, sl⟩, ho, hc, es, n, hd⟩ := h
  simp only at hc hd
  subst hc hd
  exact rc_ne_decline_or (k := false) rfl ⟨_, ho, rfl⟩ (by decide) F.sub_dict_bool F.slot_bool_ne F.slot_dict_ne_refl
    (fun _ hq => call_meets F.slot_bool_ne rfl F.entry_int_ne (F.args_int_ne_2 _ _) (int_nn_b b l es n dd sl) ⟨ho, hq⟩) (fun Q' hq => dct_nn (b := .bool b) (Tb := "bool") ⟨_, ho, rfl⟩ rfl F.sub_bool_dict Q' hq)
    (fun _ hq => wpAny_of_eq (rfl : isSame (.bool b) (.ref l) = pure false) hq) (.inr hu) q
theorem rn_d_int (b : Int) (u : Tok) (h : IsDct s l) (hu : A.units < cLine) {Q : Value → Shared → Prop} (q : Q (.bool true) s) : wpAny (model prog w) A (richCompare .NotEq (.ref l) (.int b u)) Q E s := by
  obtain ⟨⟨cls, dd, data, sl⟩, ho, hc, es, n, hd⟩ := h
  simp only at hc hd
  subst hc hd
  exact rc_ne_decline_or (k := false) ⟨_, ho, rfl⟩ (typeIs_int s b u) (by decide) F.sub_int_dict F.slot_dict_ne F.slot_int_ne_refl
    (fun Q' hq => dct_nn (b := .int b u) (Tb := "int") ⟨_, ho, rfl⟩ (typeIs_int s b u) F.sub_int_dict Q' hq) (fun _ hq => call_meets F.slot_int_ne_refl (typeIs_int s b u) F.entry_int_ne (F.args_int_ne_2 _ _) (int_nn_i b u l es n dd sl) ⟨ho, hq⟩)
    (fun _ hq => wpAny_of_eq (rfl : isSame (.ref l) (.int b u) = pure false) hq) (.inr hu) q
theorem rn_int_d (b : Int) (u : Tok) (h : IsDct s l) (hu : A.units < cLine) {Q : Value → Shared → Prop} (q : Q (.bool true) s) : wpAny (model prog w) A (richCompare .NotEq (.int b u) (.ref l)) Q E s := by
  obtain ⟨⟨cls, dd, data, sl⟩, ho, hc, es, n, hd⟩ := h
  simp only at hc hd
  subst hc hd
  exact rc_ne_decline_or (k := false) (typeIs_int s b u) ⟨_, ho, rfl⟩ (by decide) F.sub_dict_int F.slot_int_ne F.slot_dict_ne_refl
    (fun _ hq => call_meets F.slot_int_ne (typeIs_int s b u) F.entry_int_ne (F.args_int_ne_2 _ _) (int_nn_i b u l es n dd sl) ⟨ho, hq⟩) (fun Q' hq => dct_nn (b := .int b u) (Tb := "int") ⟨_, ho, rfl⟩ (typeIs_int s b u) F.sub_int_dict Q' hq)
    (fun _ hq => wpAny_of_eq (rfl : isSame (.int b u) (.ref l) = pure false) hq) (.inr hu) q
theorem rn_d_str (b : Str) (u : Tok) (h : IsDct s l) (hu : A.units < cLine) {Q : Value → Shared → Prop} (q : Q (.bool true) s) : wpAny (model prog w) A (richCompare .NotEq (.ref l) (.str b u)) Q E s := by
  obtain ⟨⟨cls, dd, data, sl⟩, ho, hc, es, n, hd⟩ := h
  simp only at hc hd
  subst hc hd
  exact rc_ne_decline_or (k := false) ⟨_, ho, rfl⟩ (typeIs_str s b u) (by decide) F.sub_str_dict F.slot_dict_ne F.slot_str_ne_refl
    (fun Q' hq => dct_nn (b := .str b u) (Tb := "str") ⟨_, ho, rfl⟩ (typeIs_str s b u) F.sub_str_dict Q' hq) (fun _ hq => call_meets F.slot_str_ne_refl (typeIs_str s b u) F.entry_str_ne (F.args_str_ne_2 _ _) (str_nn b u l es n dd sl) ⟨ho, hq⟩)
    (fun _ hq => wpAny_of_eq (rfl : isSame (.ref l) (.str b u) = pure false) hq) (.inr hu) q
theorem rn_str_d (b : Str) (u : Tok) (h : IsDct s l) (hu : A.units < cLine) {Q : Value → Shared → Prop} (q : Q (.bool true) s) : wpAny (model prog w) A (richCompare .NotEq (.str b u) (.ref l)) Q E s := by
  obtain ⟨⟨cls, dd, data, sl⟩, ho, hc, es, n, hd⟩ := h
  simp only at hc hd
  subst hc hd
  exact rc_ne_decline_or (k := false) (typeIs_str s b u) ⟨_, ho, rfl⟩ (by decide) F.sub_dict_str F.slot_str_ne F.slot_dict_ne_refl
    (fun _ hq => call_meets F.slot_str_ne (typeIs_str s b u) F.entry_str_ne (F.args_str_ne_2 _ _) (str_nn b u l es n dd sl) ⟨ho, hq⟩) (fun Q' hq => dct_nn (b := .str b u) (Tb := "str") ⟨_, ho, rfl⟩ (typeIs_str s b u) F.sub_str_dict Q' hq)
    (fun _ hq => wpAny_of_eq (rfl : isSame (.str b u) (.ref l) = pure false) hq) (.inr hu) q
theorem rn_d_list {c : Addr} {its : Array Value} (h : IsDct s l) (hx : s.heap.IsList c its) (hu : A.units < cLine) {Q : Value → Shared → Prop} (q : Q (.bool true) s) : wpAny (model prog w) A (richCompare .NotEq (.ref l) (.ref c)) Q E s := by
  obtain ⟨⟨cls, dd, data, sl⟩, ho, hc, es, n, hd⟩ := h
  simp only at hc hd
  subst hc hd
  obtain ⟨⟨cls2, dd2, data2, sl2⟩, ho2, hc2, m, hd2⟩ := hx
  simp only at hc2 hd2
  subst hc2 hd2
  have ne : l ≠ c := fun z => by rw [z, ho2] at ho; simp at ho
  exact rc_ne_decline_or (k := false) ⟨_, ho, rfl⟩ ⟨_, ho2, rfl⟩ (by decide) F.sub_list_dict F.slot_dict_ne F.slot_list_ne_refl
    (fun Q' hq => dct_nn (b := .ref c) (Tb := "list") ⟨_, ho, rfl⟩ ⟨_, ho2, rfl⟩ F.sub_list_dict Q' hq)
    (fun _ hq => call_meets F.slot_list_ne_refl ⟨_, ho2, rfl⟩ F.entry_list_ne (F.args_list_ne_2 _ _) (lst_nn c its m dd2 sl2 l es n dd sl) ⟨⟨ho2, ho⟩, hq⟩)
    (fun Q' hq => same_no ne ho ho2 (by rintro ⟨z, _⟩; simp at z) hq) (.inr hu) q
theorem rn_list_d {c : Addr} {its : Array Value} (h : IsDct s l) (hx : s.heap.IsList c its) (hu : A.units < cLine) {Q : Value → Shared → Prop} (q : Q (.bool true) s) : wpAny (model prog w) A (richCompare .NotEq (.ref c) (.ref l)) Q E s := by
  obtain ⟨⟨cls, dd, data, sl⟩, ho, hc, es, n, hd⟩ := h
  simp only at hc hd
  subst hc hd
  obtain ⟨⟨cls2, dd2, data2, sl2⟩, ho2, hc2, m, hd2⟩ := hx
  simp only at hc2 hd2
  subst hc2 hd2
  have ne : c ≠ l := fun z => by rw [← z, ho2] at ho; simp at ho
  exact rc_ne_decline_or (k := false) ⟨_, ho2, rfl⟩ ⟨_, ho, rfl⟩ (by decide) F.sub_dict_list F.slot_list_ne F.slot_dict_ne_refl
    (fun _ hq => call_meets F.slot_list_ne ⟨_, ho2, rfl⟩ F.entry_list_ne (F.args_list_ne_2 _ _) (lst_nn c its m dd2 sl2 l es n dd sl) ⟨⟨ho2, ho⟩, hq⟩)
    (fun Q' hq => dct_nn (b := .ref c) (Tb := "list") ⟨_, ho, rfl⟩ ⟨_, ho2, rfl⟩ F.sub_list_dict Q' hq)
    (fun Q' hq => same_no ne ho2 ho (by rintro ⟨_, z⟩; simp at z) hq) (.inr hu) q
theorem rn_d_tuple {c : Addr} {its : Array Value} (h : IsDct s l) (hx : s.heap.IsTuple c its) (hu : A.units < cLine) {Q : Value → Shared → Prop} (q : Q (.bool true) s) : wpAny (model prog w) A (richCompare .NotEq (.ref l) (.ref c)) Q E s := by
  obtain ⟨⟨cls, dd, data, sl⟩, ho, hc, es, n, hd⟩ := h
  simp only at hc hd
  subst hc hd
  obtain ⟨⟨cls2, dd2, data2, sl2⟩, ho2, hc2, m, hd2⟩ := hx
  simp only at hc2 hd2
  subst hc2 hd2
  have ne : l ≠ c := fun z => by rw [z, ho2] at ho; simp at ho
  exact rc_ne_decline_or (k := false) ⟨_, ho, rfl⟩ ⟨_, ho2, rfl⟩ (by decide) F.sub_tuple_dict F.slot_dict_ne F.slot_tuple_ne_refl
    (fun Q' hq => dct_nn (b := .ref c) (Tb := "tuple") ⟨_, ho, rfl⟩ ⟨_, ho2, rfl⟩ F.sub_tuple_dict Q' hq)
    (fun _ hq => call_meets F.slot_tuple_ne_refl ⟨_, ho2, rfl⟩ F.entry_tuple_ne (F.args_tuple_ne_2 _ _) (tup_nn c its m dd2 sl2 l es n dd sl) ⟨⟨ho2, ho⟩, hq⟩)
    (fun Q' hq => same_no ne ho ho2 (by rintro ⟨z, _⟩; simp at z) hq) (.inr hu) q
theorem rn_tuple_d {c : Addr} {its : Array Value} (h : IsDct s l) (hx : s.heap.IsTuple c its) (hu : A.units < cLine) {Q : Value → Shared → Prop} (q : Q (.bool true) s) : wpAny (model prog w) A (richCompare .NotEq (.ref c) (.ref l)) Q E s := by
  obtain ⟨⟨cls, dd, data, sl⟩, ho, hc, es, n, hd⟩ := h
  simp only at hc hd
  subst hc hd
  obtain ⟨⟨cls2, dd2, data2, sl2⟩, ho2, hc2, m, hd2⟩ := hx
  simp only at hc2 hd2
  subst hc2 hd2
  have ne : c ≠ l := fun z => by rw [← z, ho2] at ho; simp at ho
  exact rc_ne_decline_or (k := false) ⟨_, ho2, rfl⟩ ⟨_, ho, rfl⟩ (by decide) F.sub_dict_tuple F.slot_tuple_ne F.slot_dict_ne_refl
    (fun _ hq => call_meets F.slot_tuple_ne ⟨_, ho2, rfl⟩ F.entry_tuple_ne (F.args_tuple_ne_2 _ _) (tup_nn c its m dd2 sl2 l es n dd sl) ⟨⟨ho2, ho⟩, hq⟩)
    (fun Q' hq => dct_nn (b := .ref c) (Tb := "tuple") ⟨_, ho, rfl⟩ ⟨_, ho2, rfl⟩ F.sub_tuple_dict Q' hq)
    (fun Q' hq => same_no ne ho2 ho (by rintro ⟨_, z⟩; simp at z) hq) (.inr hu) q
end

section
variable {prog : Program} {w : World} {A : Around} {E : Value → Shared → Prop} {s : Shared} {a b : Addr}
/-- two dicts by !=, by what samePairs answers -/
theorem rn_dcts {r : Bool} {Q : Value → Shared → Prop} (ta : s.TypeIs (.ref a) "dict") (tb : s.TypeIs (.ref b) "dict") (hu : A.units < cLine)
    (sp : ∀ (nm : String) (Q : Bool → Shared → Prop), Q r s → wpAny (model prog w) A.in1 (Builtin.Dict.samePairs nm a b) Q E s) (q : Q (.bool (!r)) s) : wpAny (model prog w) A (richCompare .NotEq (.ref a) (.ref b)) Q E s := by
  refine wpAny_richCompare_same_room (op := .NotEq) ta tb PySem.F.slot_dict_ne (wpAny_call_entry PySem.F.slot_dict_ne ta PySem.F.entry_dict_ne ?_ (PySem.F.args_dict_ne_2 _ _)) hu
  show wpAny _ _ (Builtin.Dict.dictSlotArgs "__ne__" ⟨[.ref a, .ref b], []⟩ >>= _) _ _ s
  unfold Builtin.Dict.dictSlotArgs
  refine wpAny_bind (wpAny_bind (wpAny_notOrdered_dict ta ?_))
  refine wpAny_pure ?_
  refine wpAny_bind (wpAny_isInstance (T := "dict") tb PySem.F.sub_dict_dict ?_)
  simp only [Bool.not_true, Bool.false_eq_true, if_false]
  refine wpAny_bind (wpAny_pure (wpAny_bind (wpAny_pure (wpAny_bind (sp _ _ ?_)))))
  refine wpAny_pure ⟨_, rfl, ?_, ?_⟩
  · exact fun x => nomatch x
  · simpa using q
end
end ZDE
end PySem
noncomputable section
namespace Z
open PySem PySem.Spec PyProof.Rows L2
def isDctD : PyData → Bool
  | .dict _ => true
  | _ => false
section
variable {X : Cx} {pins : List (Addr × Obj)} {σ : L2.St} {H : Hp} {s : Shared}
def RnI (X : Cx) (s : Shared) (n : Nat) (u w : Value) (b : Bool) : Prop := ∀ (A : Around) (E Q : Value → Shared → Prop), A.units + n < cLine → Q (.bool (!b)) s → wpAny (model X.prog X.w) A (richCompare .NotEq u w) Q E s
theorem rn_dsize {n : Nat} {a b : Addr} {A B : List (PyData × PyData)} {oa ob : Obj} {fa fb : Array DictEntry} {i j : Nat} (sa : (a == sysModules) = false) (sb : (b == sysModules) = false) (h1 : s.heap.get? a = some oa) (h2 : oa.cls = .type "dict") (h3 : oa.data = .dict fa i) (h4 : fa.size = A.length)
    (g1 : s.heap.get? b = some ob) (g2 : ob.cls = .type "dict") (g3 : ob.data = .dict fb j) (g4 : fb.size = B.length) (hs : A.length ≠ B.length ∨ A = []) : RnI X s (n + 1) (.ref a) (.ref b) (pyEqN (n + 1) (.dict A) (.dict B)) := by
  rw [pyEqN]
  intro Z E Q hu q
  have e : (A.length == B.length && A.all fun p => (lookD B p.1).any fun v => pyEqN n p.2 v) = (fa.size == fb.size) := by
    rw [h4, g4]
    rcases hs with h | h
    · have : (A.length == B.length) = false := by simpa using h
      rw [this]; rfl
    · subst h; simp
  rw [e] at q
  refine PySem.ZDE.rn_dcts ⟨oa, h1, h2⟩ ⟨ob, g1, g2⟩ (by omega) (fun nm Q q => PySem.ZDE.pairs_sizes sa sb h1 h3 g1 g3 ?_ q) q
  rcases hs with h | h
  · exact .inl (by omega)
  · exact .inr (by rw [h4, h]; rfl)
theorem ne_rc {n : Nat} (I : Inv X pins σ H s) (ih : Ih X H s n) : ∀ {d e : PyData} {x y : V} {u w : Value}, Dq X.K H x d → Dq X.K H y e → RelV x u → RelV y w → okD (n + 1) d = true → okD (n + 1) e = true → cmpOk (n + 1) d e = true → (isDctD d || isDctD e) = true → RnI X s (n + 1) u w (pyEqN (n + 1) d e) := by
  intro d e x y u w hx hy rx ry o1 o2 ok na
  cases hx with
  | non =>
    cases rx
    cases hy with
    | dk hl hd hy =>
      cases ry
      rw [show pyEqN (n + 1) _ _ = false by simp [pyEqN, PyData.eqv]]
      exact fun A E Q hu q => PySem.ZDE.rn_none_d (dct_k I hl hd) (by omega) q
    | dt hl hd hy =>
      cases ry
      rw [show pyEqN (n + 1) _ _ = false by simp [pyEqN, PyData.eqv]]
      exact fun A E Q hu q => PySem.ZDE.rn_none_d (dct_t I hl hd) (by omega) q
    | _ => cases na
  | bl b =>
    cases rx
    cases hy with
    | dk hl hd hy =>
      cases ry
      rw [show pyEqN (n + 1) _ _ = false by simp [pyEqN, PyData.eqv]]
      exact fun A E Q hu q => PySem.ZDE.rn_bool_d b (dct_k I hl hd) (by omega) q
    | dt hl hd hy =>
      cases ry
      rw [show pyEqN (n + 1) _ _ = false by simp [pyEqN, PyData.eqv]]
      exact fun A E Q hu q => PySem.ZDE.rn_bool_d b (dct_t I hl hd) (by omega) q
    | _ => cases na
  | int i =>
    obtain ⟨t, rfl⟩ := rx
    cases hy with
    | dk hl hd hy =>
      cases ry
      rw [show pyEqN (n + 1) _ _ = false by simp [pyEqN, PyData.eqv]]
      exact fun A E Q hu q => PySem.ZDE.rn_int_d i t (dct_k I hl hd) (by omega) q
    | dt hl hd hy =>
      cases ry
      rw [show pyEqN (n + 1) _ _ = false by simp [pyEqN, PyData.eqv]]
      exact fun A E Q hu q => PySem.ZDE.rn_int_d i t (dct_t I hl hd) (by omega) q
    | _ => cases na
  | str z =>
    obtain ⟨t, rfl⟩ := rx
    cases hy with
    | dk hl hd hy =>
      cases ry
      rw [show pyEqN (n + 1) _ _ = false by simp [pyEqN, PyData.eqv]]
      exact fun A E Q hu q => PySem.ZDE.rn_str_d z t (dct_k I hl hd) (by omega) q
    | dt hl hd hy =>
      cases ry
      rw [show pyEqN (n + 1) _ _ = false by simp [pyEqN, PyData.eqv]]
      exact fun A E Q hu q => PySem.ZDE.rn_str_d z t (dct_t I hl hd) (by omega) q
    | _ => cases na
  | lst ha hx =>
    cases rx
    cases hy with
    | dk hl hd hy =>
      cases ry
      obtain ⟨_, _, l⟩ := lst_is I ha
      rw [show pyEqN (n + 1) _ _ = false by simp [pyEqN, PyData.eqv]]
      exact fun A E Q hu q => PySem.ZDE.rn_list_d (dct_k I hl hd) l (by omega) q
    | dt hl hd hy =>
      cases ry
      obtain ⟨_, _, l⟩ := lst_is I ha
      rw [show pyEqN (n + 1) _ _ = false by simp [pyEqN, PyData.eqv]]
      exact fun A E Q hu q => PySem.ZDE.rn_list_d (dct_t I hl hd) l (by omega) q
    | _ => cases na
  | tup ha hx =>
    cases rx
    cases hy with
    | dk hl hd hy =>
      cases ry
      obtain ⟨_, _, l⟩ := tup_is I ha
      rw [show pyEqN (n + 1) _ _ = false by simp [pyEqN, PyData.eqv]]
      exact fun A E Q hu q => PySem.ZDE.rn_tuple_d (dct_k I hl hd) l (by omega) q
    | dt hl hd hy =>
      cases ry
      obtain ⟨_, _, l⟩ := tup_is I ha
      rw [show pyEqN (n + 1) _ _ = false by simp [pyEqN, PyData.eqv]]
      exact fun A E Q hu q => PySem.ZDE.rn_tuple_d (dct_t I hl hd) l (by omega) q
    | _ => cases na
  | dk hl1 hd1 hx =>
    cases rx
    cases hy with
    | non =>
      cases ry
      rw [show pyEqN (n + 1) _ _ = false by simp [pyEqN, PyData.eqv]]
      exact fun A E Q hu q => PySem.ZDE.rn_d_none (dct_k I hl1 hd1) (by omega) q
    | bl b =>
      cases ry
      rw [show pyEqN (n + 1) _ _ = false by simp [pyEqN, PyData.eqv]]
      exact fun A E Q hu q => PySem.ZDE.rn_d_bool b (dct_k I hl1 hd1) (by omega) q
    | int i =>
      obtain ⟨t, rfl⟩ := ry
      rw [show pyEqN (n + 1) _ _ = false by simp [pyEqN, PyData.eqv]]
      exact fun A E Q hu q => PySem.ZDE.rn_d_int i t (dct_k I hl1 hd1) (by omega) q
    | str z =>
      obtain ⟨t, rfl⟩ := ry
      rw [show pyEqN (n + 1) _ _ = false by simp [pyEqN, PyData.eqv]]
      exact fun A E Q hu q => PySem.ZDE.rn_d_str z t (dct_k I hl1 hd1) (by omega) q
    | lst hb hy =>
      cases ry
      obtain ⟨_, _, l⟩ := lst_is I hb
      rw [show pyEqN (n + 1) _ _ = false by simp [pyEqN, PyData.eqv]]
      exact fun A E Q hu q => PySem.ZDE.rn_d_list (dct_k I hl1 hd1) l (by omega) q
    | tup hb hy =>
      cases ry
      obtain ⟨_, _, l⟩ := tup_is I hb
      rw [show pyEqN (n + 1) _ _ = false by simp [pyEqN, PyData.eqv]]
      exact fun A E Q hu q => PySem.ZDE.rn_d_tuple (dct_k I hl1 hd1) l (by omega) q
    | dk hl hd hy =>
      cases ry
      obtain ⟨_, va, _, _, D1, _⟩ := dk_is I hl1 hd1
      obtain ⟨_, vb, _, _, D2, _⟩ := dk_is I hl hd
      intro A E Q hu q
      obtain ⟨oa, ea, ia, h1, h2, _⟩ := dictOf_size D1
      obtain ⟨ob, eb, ib, g1, g2, _⟩ := dictOf_size D2
      exact PySem.ZDE.rn_dcts ⟨oa, h1, h2⟩ ⟨ob, g1, g2⟩ (by omega) (fun nm Q q => sp_dks I ih hl1 hl hd1 hd hx hy o1 o2 ok A.in1 nm E Q (by show A.units + 1 + n < cLine; omega) q) q
    | dt hl hd hy =>
      cases ry
      obtain ⟨sa, va, e1, r1, D1, _⟩ := dk_is I hl1 hd1
      obtain ⟨sb, vb, e2, r2, D2, _⟩ := dt_is I hl hd
      obtain ⟨oa, fa, i, h1, h2, h3, h4⟩ := dictOf_size D1
      obtain ⟨ob, fb, j, g1, g2, g3, g4⟩ := dictOfH_size D2
      have c1 := dqa_len hx
      have c2 := dqa_len hy
      have v1 := congrArg List.length e1
      have v2 := congrArg List.length e2
      rw [List.length_map] at v1 v2
      refine rn_dsize sa sb h1 h2 h3 (by rw [zip_len (by rw [List.length_map]; omega)]; omega) g1 g2 g3 (by rw [zip_len (by rw [List.length_map]; omega)]; omega) ?_
      rw [cmpOk] at ok
      rcases Bool.or_eq_true_iff.mp ok with z | z
      · exact .inl (of_decide_eq_true z)
      · rcases Bool.or_eq_true_iff.mp z with z | z
        · exact .inr (by simpa using z)
        · have z := (Bool.and_eq_true_iff.mp z).1
          rcases Bool.or_eq_true_iff.mp z with z | z
          · obtain ⟨z1, z2⟩ := Bool.and_eq_true_iff.mp z
            exact .inr (kind_k z1)
          · obtain ⟨z1, z2⟩ := Bool.and_eq_true_iff.mp z
            exact dec_len (by rw [kind_t z2]; rfl)
  | dt hl1 hd1 hx =>
    cases rx
    cases hy with
    | non =>
      cases ry
      rw [show pyEqN (n + 1) _ _ = false by simp [pyEqN, PyData.eqv]]
      exact fun A E Q hu q => PySem.ZDE.rn_d_none (dct_t I hl1 hd1) (by omega) q
    | bl b =>
      cases ry
      rw [show pyEqN (n + 1) _ _ = false by simp [pyEqN, PyData.eqv]]
      exact fun A E Q hu q => PySem.ZDE.rn_d_bool b (dct_t I hl1 hd1) (by omega) q
    | int i =>
      obtain ⟨t, rfl⟩ := ry
      rw [show pyEqN (n + 1) _ _ = false by simp [pyEqN, PyData.eqv]]
      exact fun A E Q hu q => PySem.ZDE.rn_d_int i t (dct_t I hl1 hd1) (by omega) q
    | str z =>
      obtain ⟨t, rfl⟩ := ry
      rw [show pyEqN (n + 1) _ _ = false by simp [pyEqN, PyData.eqv]]
      exact fun A E Q hu q => PySem.ZDE.rn_d_str z t (dct_t I hl1 hd1) (by omega) q
    | lst hb hy =>
      cases ry
      obtain ⟨_, _, l⟩ := lst_is I hb
      rw [show pyEqN (n + 1) _ _ = false by simp [pyEqN, PyData.eqv]]
      exact fun A E Q hu q => PySem.ZDE.rn_d_list (dct_t I hl1 hd1) l (by omega) q
    | tup hb hy =>
      cases ry
      obtain ⟨_, _, l⟩ := tup_is I hb
      rw [show pyEqN (n + 1) _ _ = false by simp [pyEqN, PyData.eqv]]
      exact fun A E Q hu q => PySem.ZDE.rn_d_tuple (dct_t I hl1 hd1) l (by omega) q
    | dk hl hd hy =>
      cases ry
      obtain ⟨sa, va, e1, r1, D1, _⟩ := dt_is I hl1 hd1
      obtain ⟨sb, vb, e2, r2, D2, _⟩ := dk_is I hl hd
      obtain ⟨oa, fa, i, h1, h2, h3, h4⟩ := dictOfH_size D1
      obtain ⟨ob, fb, j, g1, g2, g3, g4⟩ := dictOf_size D2
      have c1 := dqa_len hx
      have c2 := dqa_len hy
      have v1 := congrArg List.length e1
      have v2 := congrArg List.length e2
      rw [List.length_map] at v1 v2
      refine rn_dsize sa sb h1 h2 h3 (by rw [zip_len (by rw [List.length_map]; omega)]; omega) g1 g2 g3 (by rw [zip_len (by rw [List.length_map]; omega)]; omega) ?_
      rw [cmpOk] at ok
      rcases Bool.or_eq_true_iff.mp ok with z | z
      · exact .inl (of_decide_eq_true z)
      · rcases Bool.or_eq_true_iff.mp z with z | z
        · exact .inr (by simpa using z)
        · have z := (Bool.and_eq_true_iff.mp z).1
          rcases Bool.or_eq_true_iff.mp z with z | z
          · obtain ⟨z1, z2⟩ := Bool.and_eq_true_iff.mp z
            exact dec_len (by rw [kind_k z2]; rfl)
          · obtain ⟨z1, z2⟩ := Bool.and_eq_true_iff.mp z
            exact .inr (kind_t z1)
    | dt hl hd hy =>
      cases ry
      obtain ⟨_, va, _, _, D1, _⟩ := dt_is I hl1 hd1
      obtain ⟨_, vb, _, _, D2, _⟩ := dt_is I hl hd
      intro A E Q hu q
      obtain ⟨oa, ea, ia, h1, h2, _⟩ := dictOfH_size D1
      obtain ⟨ob, eb, ib, g1, g2, _⟩ := dictOfH_size D2
      exact PySem.ZDE.rn_dcts ⟨oa, h1, h2⟩ ⟨ob, g1, g2⟩ (by omega) (fun nm Q q => sp_dts I ih hl1 hl hd1 hd hx hy o1 o2 ok A.in1 nm E Q (by show A.units + 1 + n < cLine; omega) q) q
def rEqP (K : PySem.W.Frag) : R2 := fun x y H Q => ∃ d e, Dq K H x d ∧ Dq K H y e ∧ okD 40 d = true ∧ okD 40 e = true ∧ cmpOk 40 d e = true ∧ (isAtom d && isAtom e) = false ∧ Q (.bl (pyEqN 40 d e)) H
def rNeP (K : PySem.W.Frag) : R2 := fun x y H Q => ∃ d e, Dq K H x d ∧ Dq K H y e ∧ okD 40 d = true ∧ okD 40 e = true ∧ cmpOk 40 d e = true ∧ (isDctD d || isDctD e) = true ∧ Q (.bl (!pyEqN 40 d e)) H
theorem op_eqP (hsm : smB X.K = true) (hu : X.A.units + 64 < cLine) : OpR X (compareOp .Eq) (rEqP X.K) := by
  intro pins s σ H x y v u Q I rx ry h
  obtain ⟨d, e, hx, hy, o1, o2, ok, na, q⟩ := h
  exact eq_rc I (eq_main I hsm 39) hx hy rx ry o1 o2 ok na X.A _ _ (by omega) ⟨.bl _, H, I, rfl, q⟩
theorem op_neP (hsm : smB X.K = true) (hu : X.A.units + 64 < cLine) : OpR X (compareOp .NotEq) (rNeP X.K) := by
  intro pins s σ H x y v u Q I rx ry h
  obtain ⟨d, e, hx, hy, o1, o2, ok, na, q⟩ := h
  exact ne_rc I (eq_main I hsm 39) hx hy rx ry o1 o2 ok na X.A _ _ (by omega) ⟨.bl _, H, I, rfl, q⟩
end
/-- == of data, dicts among it -/
def eqP (x y : PV) (S : Sto) : Out PV := match datGS x S with
  | some d => (match datGS y S with
    | some e => if (okD 40 d && (okD 40 e && (cmpOk 40 d e && !(isAtom d && isAtom e)))) = true then .ok (.bl (pyEqN 40 d e)) S else .bad
    | none => .bad)
  | none => .bad
def neP (x y : PV) (S : Sto) : Out PV := match datGS x S with
  | some d => (match datGS y S with
    | some e => if (okD 40 d && (okD 40 e && (cmpOk 40 d e && (isDctD d || isDctD e)))) = true then .ok (.bl (!pyEqN 40 d e)) S else .bad
    | none => .bad)
  | none => .bad
def elseP (f g : PV → PV → Sto → Out PV) (x y : PV) (S : Sto) : Out PV := match f x y S with
  | .bad => g x y S
  | o => o
section
variable {T : Tb} {K : PySem.W.Frag} {r1 r2 : R2} {f g : PV → PV → Sto → Out PV}
theorem oz_else (hf : OpZ T K f r1) (hg : OpZ T K g r2) : OpZ T K (elseP f g) (fun x y H Q => r1 x y H Q ∨ r2 x y H Q) := by
  intro E R F H S x y u w Q r rx ry h
  unfold elseP at h
  cases hq : f x y S with
  | bad => rw [hq] at h; exact .inr (hg E R F H S x y u w Q r rx ry h)
  | ok v S1 => rw [hq] at h; exact .inl (hf E R F H S x y u w Q r rx ry (by rw [hq]; exact h))
  | err e S1 => rw [hq] at h; exact .inl (hf E R F H S x y u w Q r rx ry (by rw [hq]; exact h))
theorem oz_eqP : OpZ T K eqP (rEqP K) := by
  intro E R F H S x y u w Q r rx ry h
  unfold eqP at h
  split at h
  · rename_i d hd
    split at h
    · rename_i e he
      split at h
      · rename_i c
        simp only [Bool.and_eq_true, Bool.not_eq_true'] at c
        obtain ⟨c1, c2, c3, c4⟩ := c
        exact ⟨d, e, datGS_dq r rx hd, datGS_dq r ry he, c1, c2, c3, c4, PostV.here r (by rw [Rel]) h⟩
      · exact h.elim
    · exact h.elim
  · exact h.elim
theorem oz_neP : OpZ T K neP (rNeP K) := by
  intro E R F H S x y u w Q r rx ry h
  unfold neP at h
  split at h
  · rename_i d hd
    split at h
    · rename_i e he
      split at h
      · rename_i c
        simp only [Bool.and_eq_true] at c
        obtain ⟨c1, c2, c3, c4⟩ := c
        exact ⟨d, e, datGS_dq r rx hd, datGS_dq r ry he, c1, c2, c3, c4, PostV.here r (by rw [Rel]) h⟩
      · exact h.elim
    · exact h.elim
  · exact h.elim
end
section
variable {X : Cx}
theorem op_eqQ (hsm : smB X.K = true) (hu : X.A.units + 64 < cLine) : OpR X (compareOp .Eq) (fun x y H Q => (rEq x y H Q ∨ rEqD X.K x y H Q) ∨ rEqP X.K x y H Q) := OpR.or (op_eqZ hu) (op_eqP hsm hu)
theorem op_neQ (hsm : smB X.K = true) (hu : X.A.units + 64 < cLine) : OpR X (compareOp .NotEq) (fun x y H Q => (rNe x y H Q ∨ rNeD X.K x y H Q) ∨ rNeP X.K x y H Q) := OpR.or (op_neZ hu) (op_neP hsm hu)
end
theorem oz_eqQ {T : Tb} {K : PySem.W.Frag} : OpZ T K (elseP eqZ eqP) (fun x y H Q => (rEq x y H Q ∨ rEqD K x y H Q) ∨ rEqP K x y H Q) := oz_else oz_eq oz_eqP
theorem oz_neQ {T : Tb} {K : PySem.W.Frag} : OpZ T K (elseP neZ neP) (fun x y H Q => (rNe x y H Q ∨ rNeD K x y H Q) ∨ rNeP K x y H Q) := oz_else oz_ne oz_neP
end Z
end
end
section
set_option Elab.async false
set_option linter.all false
set_option maxRecDepth 100000
set_option maxHeartbeats 2000000
/-! YZ: != of two lists of own things, equal one by one. -/
namespace PySem
namespace ZDN
open PySem.SeqAt GQ
open AutoSeq1 (wpAny_loadPart')
open MeetsSeq MeetsSeq2 MeetsSeq3 SeqRoads2
section
variable {prog : Program} {w : World} {A : Around} {R : Result → Shared → Prop}
end
section
variable {prog : Program} {w : World} {A : Around} {E : Value → Shared → Prop} {s : Shared}
end
end ZDN
end PySem
noncomputable section
namespace Z
open PySem PySem.Spec PyProof.Rows L2
section
variable {T : Tb} {X : Cx} {E : XK} {j k : Nat} {D : List (Nat × DF)}
end
section
variable {T : Tb} {P : Program} {w : World} {K : PySem.W.Frag} {mg : Str → Option Value} {base : Heap} {j c : Nat} {d : DF} {D : List (Nat × DF)}
end
/-! ### what is shown, bounded -/
def Sh (m k : Nat) (x : PV) : Prop := ∃ d, datG x = some d ∧ d.showable = true ∧ d.depth ≤ k ∧ d.shown.length ≤ m
theorem Sh.mono {m k m' k' : Nat} {x : PV} (h : Sh m k x) (hm : m ≤ m') (hk : k ≤ k') : Sh m' k' x := by
  obtain ⟨d, h1, h2, h3, h4⟩ := h
  exact ⟨d, h1, h2, by omega, by omega⟩
/-! ### == of things of several own classes -/
/-! ### a, b, .. = a list -/
end Z
end
end
section
set_option Elab.async false
set_option linter.all false
set_option maxRecDepth 100000
set_option maxHeartbeats 1000000
/-! XA: the head by the objects written out (z_head). -/
noncomputable section
namespace Z
open PySem PySem.Spec PyProof.Rows L2
end Z
end
end
section
set_option Elab.async false
set_option linter.all false
set_option maxRecDepth 100000
set_option maxHeartbeats 2000000
/-! XB: != of lists of data with dicts inside. -/
namespace PySem
namespace ZDN
open PySem.SeqAt GQ
open AutoSeq1 (wpAny_loadPart')
open MeetsSeq MeetsSeq2 MeetsSeq3 SeqRoads2
section
variable {prog : Program} {w : World} {A : Around} {R : Result → Shared → Prop}
end
end ZDN
end PySem
noncomputable section
namespace Z
open PySem PySem.Spec PyProof.Rows L2
section
variable {X : Cx} {pins : List (Addr × Obj)} {σ : L2.St} {H : Hp} {s : Shared}
end
end Z
end
end
section
set_option Elab.async false
set_option linter.all false
set_option maxRecDepth 100000
set_option maxHeartbeats 1000000
/-! XC: the head's hook that goes once through the heap's list of objects. -/
noncomputable section
namespace Z
open PySem PySem.Spec PyProof.Rows L2
end Z
end
end
section
set_option Elab.async false
set_option linter.all false
set_option maxRecDepth 100000
set_option maxHeartbeats 1000000
/-! XD: defs with defaults, called with fewer values. -/
noncomputable section
namespace Z
open PySem PySem.Spec PyProof.Rows L2
/-- a def whose last parameters have the values ds if they are not written -/
structure FnDf (T : Tb) (P : Program) (w : World) (K : PySem.W.Frag) (mg : Str → Option Value) (base : Heap) (k : Nat) (x : Str) (ps : List Str) (ds : List PV) (d : DF) : Prop where
  ex : ∃ (f : Addr) (fd : FuncData) (us : List Value) (vs : List V), mg x = some (.ref f) ∧ PySem.W.keepIn K (.ref f) = true ∧ FnG T P w K mg base k f fd ps d ∧ Binds K fd ps us ∧ Vals vs us ∧ ∀ (R : Pl) (F : Hp), RelL T K R F ds vs
  ar : ∀ (xs : List PV) (S : Sto), xs.length ≠ ps.length → d xs S = .bad
theorem FnDf.clo {T : Tb} {P : Program} {w : World} {K : PySem.W.Frag} {mg : Str → Option Value} {base : Heap} {k : Nat} {x : Str} {ps : List Str} {ds : List PV} {d : DF} (F : FnDf T P w K mg base k x ps ds d) : FnDf T P w K mg base k x ps ds (Z.clo d) := by
  obtain ⟨f, fd, us, vs, h1, h2, h3, h4, h5, h6⟩ := F.ex
  exact ⟨⟨f, fd, us, vs, h1, h2, h3.clo, h4, h5, h6⟩, fun xs S hl => clo_bad (fun S => F.ar xs S hl) S⟩
section
variable {T : Tb} {X : Cx} {E : XS} {x : Str} {p pos : Pos} {e : Expr} {es : List Expr} {ps : List Str} {ds : List PV} {d : DF} {ar : DA} {j k : Nat}
end
end Z
end
end
section
set_option Elab.async false
set_option linter.all false
set_option maxRecDepth 100000
set_option maxHeartbeats 2000000
/-! XE: texts put together by their parts, with widths. -/
noncomputable section
namespace Z
open PySem PySem.Spec PyProof.Rows L2
/-! ### one part -/
def fmtP (x : PV) (S : Sto) : Out PV := match x with
  | .str y => if y.length ≤ 16777216 then .ok (.str y) S else .bad
  | .int i => if i.natAbs.log2 < 1920 then .ok (.str (toString i)) S else .bad
  | _ => .bad
def dFmt (d : DE) : DE := fun l S => (d l S).bind fun x S1 => fmtP x S1
section
variable {T : Tb} {X : Cx} {E : XS} {e : Expr} {d : DE} {pos : Pos}
theorem je_fmt (he : JE T X E e d) : JE T X E (.FormattedValue e (-1) none pos) (dFmt d) := by
  refine pe_imp (L2.pe_fmt he) fun σ H Q ⟨R, F, l, S, r, e', h⟩ => ?_
  refine seqV (goV T X.K (E σ) Q) r e' h fun x S1 R1 F1 H1 u p ex r1 rx e1 h1 => ?_
  have h1 : OkV T X.K R1 F1 (fmtP x S1) Q (E σ) := h1
  unfold fmtP at h1
  split at h1
  · rename_i y _
    split at h1
    · rename_i hl
      exact .inl ⟨y, rel_str rx, by rw [sizeLine_eq]; exact hl, PostV.here r1 (by rw [Rel]) h1⟩
    · exact h1.elim
  · rename_i i _
    split at h1
    · rename_i hl
      exact .inr ⟨i, rel_int rx, hl, PostV.here r1 (by rw [Rel]) h1⟩
    · exact h1.elim
  · exact h1.elim
/-! ### the parts -/
def strK (x : PV) (acc : Str) (k : Str → Out PV) : Out PV := match x with
  | .str y => if (acc ++ y).length ≤ 16777216 then k (acc ++ y) else .bad
  | _ => .bad
def dJs : List DE → Str → DE
  | [], acc => fun _ S => .ok (.str acc) S
  | d :: ds, acc => fun l S => (d l S).bind fun x S1 => strK x acc fun a => dJs ds a l S1
inductive JJ (T : Tb) (X : Cx) (E : XS) : List Expr → List DE → Prop where
  | nil : JJ T X E [] []
  | cons {e : Expr} {d : DE} {es : List Expr} {ds : List DE} (h : JE T X E e d) (r : JJ T X E es ds) : JJ T X E (e :: es) (d :: ds)
theorem jj_pj {es : List Expr} {ds : List DE} (h : JJ T X E es ds) : L2.PJ X es (ds.map fun d => tV T X.K E d) := by
  induction h with
  | nil => exact .nil
  | cons h r ih => exact .cons h ih
theorem js_js : ∀ (ds : List DE) (acc : Str) (σ : L2.St) (H : Hp) (Q : VK), tV T X.K E (dJs ds acc) σ H Q → L2.tJs (ds.map fun d => tV T X.K E d) acc σ H (fun out H1 => Q (.str out) H1)
  | [], acc, σ, H, Q, ⟨R, F, l, S, r, e, h⟩ => PostV.here r (by rw [Rel]) h
  | d :: ds, acc, σ, H, Q, ⟨R, F, l, S, r, e, h⟩ => by
    refine seqV (goV T X.K (E σ) Q) r e h fun x S1 R1 F1 H1 u p ex r1 rx e1 h1 => ?_
    have h1 : OkV T X.K R1 F1 (strK x acc fun a => dJs ds a l S1) Q (E σ) := h1
    unfold strK at h1
    split at h1
    · rename_i y _
      split at h1
      · rename_i hl
        exact ⟨y, rel_str rx, by rw [sizeLine_eq]; exact hl, js_js ds (acc ++ y) σ H1 Q ⟨R1, F1, l, S1, r1, e1, h1⟩⟩
      · exact h1.elim
    · exact h1.elim
theorem je_joined {e1 e2 : Expr} {rest : List Expr} {d1 d2 : DE} {ds : List DE} (h : JJ T X E (e1 :: e2 :: rest) (d1 :: d2 :: ds)) : JE T X E (.JoinedStr (e1 :: e2 :: rest) pos) (dJs (d1 :: d2 :: ds) Str.empty) :=
  pe_imp (L2.pe_joined (jj_pj h)) fun σ H Q q => js_js _ _ σ H Q q
theorem je_joined1 (h : JE T X E e d) : JE T X E (.JoinedStr [e] pos) d := L2.pe_joined1 h
end
/-! ### {x:>8} of a text -/
abbrev sp8 : Str := ">8"
def f8 : Builtin.Float.FormatSpec := { align := 62, width := some 8 }
def pad8 (x : Str) : Str := ⟨(List.replicate (8 - x.cps.toList.length) 32 ++ x.cps.toList).toArray⟩
theorem pad8_long {x : Str} (h : 8 ≤ x.length) : pad8 x = x := by
  have h' : 8 ≤ x.cps.toList.length := by rw [Array.length_toList]; exact h
  unfold pad8
  rw [show 8 - x.cps.toList.length = 0 by omega]
  rfl
def fmtR (x : Str) : Str := Builtin.Str.padded (Builtin.Str.strSub x 0 x.length) (8 - (Builtin.Str.strSub x 0 x.length).length) (8 - (Builtin.Str.strSub x 0 x.length).length - (8 - (Builtin.Str.strSub x 0 x.length).length)) 32
theorem fld8 (x : Str) (nm : String) : Builtin.Str.strField x f8 nm = if 8 ≤ x.length then .ok none else .ok (some (fmtR x)) := by
  by_cases h : 8 ≤ x.length
  · rw [if_pos h]
    simp [Builtin.Str.strField, f8, h]
    rfl
  · rw [if_neg h]
    simp [Builtin.Str.strField, f8, h, fmtR]
    rfl
def tail8 (x : Str) (t : Tok) (r : Except String (Option (Option Str))) (nm : String) : Sem PySem.Fin := match r with
  | .error msg => (rule "str.__format__.bad-spec" >>= fun _ => (let jp : Unit → Sem PySem.Fin := fun _ => raiseErrorMade "ValueError" msg; if (sp8.cps.any Str.isSurrogate && Builtin.Float.quotesTheSpec msg) = true then (raiseErrorStr "ValueError" (Builtin.Float.invalidSpecWords sp8 nm) >>= jp) else jp ()))
  | .ok none => (unsupported "str.__format__:memory" : Sem PySem.Fin)
  | .ok (some none) => (show Sem PySem.Fin from do rule "str.__format__.unchanged"; ret (.str x t))
  | .ok (some (some text)) => retStr text
/-! ### {n:07d} of an int -/
abbrev sp7 : Str := "07d"
def f7 : Builtin.Float.FormatSpec := { fill := 48, align := 61, width := some 7, type := some 100 }
theorem p7 (nm : String) : Builtin.Float.parseFormatSpec sp7.cps.toList nm 62 = .ok f7 := by kernel_rfl
theorem g7 : intSpecGood sp7 f7 = true := by decide +kernel
theorem len7 {a : Int} (h : a.natAbs.log2 < 1920) : (intSpecText f7 a).length ≤ sizeLine := by
  have hdig : (Nat.toDigits 10 a.natAbs).length ≤ 4300 := by
    have hlt : a.natAbs < 10 ^ 4300 := by
      have h1 : a.natAbs < 2 ^ 1921 := by
        by_cases h0 : a.natAbs = 0
        · rw [h0]; exact Nat.two_pow_pos _
        · exact Nat.lt_of_lt_of_le (Nat.lt_log2_self) (Nat.pow_le_pow_right (by decide) (by omega))
      exact Nat.lt_of_lt_of_le h1 (Nat.le_trans (Nat.pow_le_pow_left (by decide : 2 ≤ 10) 1921) (Nat.pow_le_pow_right (by decide) (by decide)))
    have e := (Nat.length_repr_le_iff (n := a.natAbs) (by decide : 0 < 4300)).mpr hlt
    rwa [← String.length_toList, Nat.toList_repr] at e
  rw [intSpecText_length a (by rfl) (by rfl), sizeLine_eq]
  split <;> (simp only [f7, Option.getD_some]; omega)
theorem meetsF {f : Builtin.Float.FormatSpec} {sp : Str} {a : Int} {t u : Tok} (hd : a.natAbs.log2 < 1920) (hp : ∀ nm, Builtin.Float.parseFormatSpec sp.cps.toList nm 62 = .ok f) (hne : (sp.length == 0) = false)
    (hasc : ((sp.cps.toList.drop 1).any (· ≥ 128) || (sp.cps.getD 0 0 ≥ 128 && !([60, 62, 61, 94] : List Nat).contains (sp.cps.getD 1 0))) = false) (hg : intSpecGood sp f = true) (hlen : (intSpecText f a).length ≤ sizeLine) :
    Meets (Builtin.«int.__format__» ⟨[.int a t, .str sp u], []⟩) (fun _ R s => ∀ t' k, R (.ok (.ret (.str (intSpecText f a) t'))) { s with toks := k }) := by
  intro prog w A R s h
  unfold intSpecGood at hg
  simp only [Bool.and_eq_true] at hg
  obtain ⟨⟨⟨⟨⟨⟨hty, hpr⟩, hz⟩, hal⟩, hw⟩, hgr⟩, hsg⟩ := hg
  replace hty := beq_iff_eq.mp hty
  replace hpr := Option.isNone_iff_eq_none.mp hpr
  replace hz : f.noNeg0 = false := by simpa using hz
  replace hal : f.alt = false := by simpa using hal
  replace hw : f.width.getD 0 ≤ 100000 := by simpa using hw
  replace hgr := Option.isNone_iff_eq_none.mp hgr
  replace hsg := Option.isNone_iff_eq_none.mp hsg
  unfold Builtin.«int.__format__»
  simp only [selfAndOne, noKeywords, Builtin.Int.intOfSelf, asInt?, asStr?, List.isEmpty_nil, if_true, pure_bind, bind_pure, bind_assoc, hne, hasc, Bool.false_eq_true, if_false,
    show (Value.str sp u == Value.none) = false from rfl]
  refine wpAny_bind (wpAny_typeNameOf (T := "str") (typeIs_str _ _ _) (by decide) fun _ => ?_)
  first | refine wpAny_bind (wpAny_typeNameOfCut_int ?_) | refine wpAny_bind (wpAny_typeNameOf_int ?_)
  simp only [hp, hty]
  rw [if_pos (by decide)]
  show wpAny _ _ (if _ then _ else _) _ _ _
  rw [if_neg (by simp [hpr])]
  show wpAny _ _ (if _ then _ else _) _ _ _
  rw [if_neg (by simp [hz])]
  show wpAny _ _ (if _ then _ else _) _ _ _
  rw [if_neg (by decide)]
  show wpAny _ _ (do let r ← Builtin.overDigitLimit? a; _) _ _ _
  rw [PyProof.Rows.overDigitLimit_small hd]
  refine wpAny_bind (wpAny_pure ?_)
  show wpAny _ _ (if _ then _ else _) _ _ _
  have hw' : ¬ (f.width.getD 0 > 100000) := by omega
  rw [if_neg (by simpa using hw')]
  show wpAny _ _ (retStr _) _ _ _
  unfold retStr
  refine wpAny_bind (wpAny_mkStr (wpAny_pure ?_) ?hs2)
  case hs2 =>
    simp only [hal, Bool.false_eq_true, if_false, show ((10 : Nat) == 10) = true by decide, if_true]
    conv => lhs; arg 1; whnf
    simp only [intSpecText, intField', hgr, hsg, hal, Bool.false_eq_true, if_false, show ((10 : Nat) == 10) = true by decide, if_true] at hlen ⊢
    exact hlen
  simp only [hal, Bool.false_eq_true, if_false, show ((10 : Nat) == 10) = true by decide, if_true]
  conv => arg 1; arg 1; arg 1; arg 1; whnf
  simp only [intSpecText, intField', hgr, hsg, hal, Bool.false_eq_true, if_false, show ((10 : Nat) == 10) = true by decide, if_true] at h ⊢
  exact h _ _
theorem meets7 {a : Int} {t u : Tok} (hd : a.natAbs.log2 < 1920) : Meets (Builtin.«int.__format__» ⟨[.int a t, .str sp7 u], []⟩) (fun _ R s => ∀ t' k, R (.ok (.ret (.str (intSpecText f7 a) t'))) { s with toks := k }) :=
  meetsF hd p7 rfl (by decide) g7 (len7 hd)

/-! ### the parts with widths -/
theorem s8 (x : Str) : fmtR x = pad8 x := by
  obtain ⟨a⟩ := x
  unfold fmtR pad8 Builtin.Str.padded Builtin.Str.strSub
  have e : a.extract 0 (Str.length ⟨a⟩) = a := by simp [Str.length]
  simp only [e]
  congr 1
  apply Array.ext'
  simp [Str.length]
theorem e8 (x : Str) (t u : Tok) : Builtin.«str.__format__» ⟨[.str x t, .str sp8 u], []⟩ = (typeNameOfCut 200 (.str x t) >>= fun nm => tail8 x t (Builtin.Str.strField x f8 nm >>= fun r => pure (some r)) nm) := by kernel_rfl
theorem len8 {x : Str} (h : x.length ≤ 1000000) : (pad8 x).length ≤ sizeLine := by
  have e : (pad8 x).length = (8 - x.length) + x.length := by
    unfold pad8 Str.length
    simp
  rw [e, sizeLine_eq]
  omega
theorem meets8 {x : Str} {t u : Tok} (hl : x.length ≤ 1000000) : Meets (Builtin.«str.__format__» ⟨[.str x t, .str sp8 u], []⟩) (fun _ R s => ∀ t' k, R (.ok (.ret (.str (pad8 x) t'))) { s with toks := k }) := by
  intro prog w A R s hq
  rw [e8]
  refine wpAny_bind (PySem.W.KXf.cut_str ?_)
  rw [fld8]
  by_cases h : 8 ≤ x.length
  · rw [if_pos h]
    rw [pad8_long h] at hq
    exact wpAny_bind (wpAny_rule (wpAny_pure (hq t s.toks)))
  · rw [if_neg h]
    rw [s8]
    exact wpAny_bind (wpAny_mkStr (wpAny_pure (hq _ _)) (len8 hl))
def fmt8P (x : PV) (S : Sto) : Out PV := match x with
  | .str y => if y.length ≤ 1000000 then .ok (.str (pad8 y)) S else .bad
  | _ => .bad
def fmt7P (x : PV) (S : Sto) : Out PV := match x with
  | .int i => if i.natAbs.log2 < 1920 then .ok (.str (intSpecText f7 i)) S else .bad
  | _ => .bad
def dFmtS (f : PV → Sto → Out PV) (d : DE) : DE := fun l S => (d l S).bind fun x S1 => f x S1
section
variable {T : Tb} {X : Cx} {E : XS} {e sp : Expr} {d : DE} {pos : Pos}
theorem je_fmt8 (he : JE T X E e d) (hs : JE T X E sp (dC (.str sp8))) : JE T X E (.FormattedValue e (-1) (some sp) pos) (dFmtS fmt8P d) := by
  refine ⟨fun pins s σ H Q I ⟨R, F, l, S, r, e', h⟩ => ?_⟩
  have hh : tV T X.K E d σ H fun u H1 => ∃ y : Str, u = .str y ∧ y.length ≤ 1000000 ∧ tV T X.K E (dC (.str sp8)) σ H1 (fun u2 H2 => u2 = .str sp8 ∧ Q (.str (pad8 y)) H2) := seqV (goV T X.K (E σ) Q) r e' h fun x S1 R1 F1 H1 u p ex r1 rx e1 h1 => by
    have h1 : OkV T X.K R1 F1 (fmt8P x S1) Q (E σ) := h1
    unfold fmt8P at h1
    split at h1
    · rename_i y _
      split at h1
      · rename_i hl
        exact ⟨y, rel_str rx, hl, R1, F1, l, S1, r1, e1, fun R2 F2 H2 u2 p2 x2 r2 rx2 => ⟨rel_str rx2, h1 R2 F2 H2 _ p2 x2 r2 (by rw [Rel])⟩⟩
      · exact h1.elim
    · exact h1.elim
  refine wpAny_FormattedValue_spec (thn (he.run pins s σ H _ I hh) fun v s1 hv => ?_)
  obtain ⟨x, H1, I1, rv, y, rfl, hy, q⟩ := hv
  obtain ⟨t, rfl⟩ := rv
  refine thn (hs.run pins s1 σ H1 _ I1 q) fun v2 s2 hv2 => ?_
  obtain ⟨x2, H2, I2, rv2, rfl, q2⟩ := hv2
  obtain ⟨t2, rfl⟩ := rv2
  exact ⟨sp8, t2, rfl, PySem.W.KXf.field_str rfl rfl (by decide) (by rw [sizeLine_eq]; decide) (fun u => meets8 hy) fun t' k => ⟨.str (pad8 y), H2, I2.tok _, ⟨_, rfl⟩, q2⟩⟩
theorem je_fmt7 (he : JE T X E e d) (hs : JE T X E sp (dC (.str sp7))) : JE T X E (.FormattedValue e (-1) (some sp) pos) (dFmtS fmt7P d) := by
  refine ⟨fun pins s σ H Q I ⟨R, F, l, S, r, e', h⟩ => ?_⟩
  have hh : tV T X.K E d σ H fun u H1 => ∃ i : Int, u = .int i ∧ i.natAbs.log2 < 1920 ∧ tV T X.K E (dC (.str sp7)) σ H1 (fun u2 H2 => u2 = .str sp7 ∧ Q (.str (intSpecText f7 i)) H2) := seqV (goV T X.K (E σ) Q) r e' h fun x S1 R1 F1 H1 u p ex r1 rx e1 h1 => by
    have h1 : OkV T X.K R1 F1 (fmt7P x S1) Q (E σ) := h1
    unfold fmt7P at h1
    split at h1
    · rename_i i _
      split at h1
      · rename_i hl
        exact ⟨i, rel_int rx, hl, R1, F1, l, S1, r1, e1, fun R2 F2 H2 u2 p2 x2 r2 rx2 => ⟨rel_str rx2, h1 R2 F2 H2 _ p2 x2 r2 (by rw [Rel])⟩⟩
      · exact h1.elim
    · exact h1.elim
  refine wpAny_FormattedValue_spec (thn (he.run pins s σ H _ I hh) fun v s1 hv => ?_)
  obtain ⟨x, H1, I1, rv, i, rfl, hy, q⟩ := hv
  obtain ⟨t, rfl⟩ := rv
  refine thn (hs.run pins s1 σ H1 _ I1 q) fun v2 s2 hv2 => ?_
  obtain ⟨x2, H2, I2, rv2, rfl, q2⟩ := hv2
  obtain ⟨t2, rfl⟩ := rv2
  exact ⟨sp7, t2, rfl, PySem.W.KXf.field_int rfl (by decide) (by rw [sizeLine_eq]; decide) (fun u => meets7 hy) fun t' k => ⟨.str (intSpecText f7 i), H2, I2.tok _, ⟨_, rfl⟩, q2⟩⟩
end
end Z
end
end
section
set_option Elab.async false
set_option linter.all false
set_option maxRecDepth 100000
set_option maxHeartbeats 2000000
/-! XF: a static method with *v and **d, called with stars and keywords. -/
noncomputable section
namespace Z
open PySem PySem.Spec PyProof.Rows L2 PySem.W
/-! ### the new dict of what is left over -/
theorem modify_last {α : Type} (a : Array α) (x : α) (f : α → α) : (a.push x).modify a.size f = a.push (f x) := by
  apply Array.ext
  · simp
  · intro i h1 h2
    simp only [Array.size_push] at h2
    by_cases e : i = a.size
    · subst e
      simp [Array.getElem_modify]
    · have hl : i < a.size := by omega
      rw [Array.getElem_modify]
      rw [if_neg (by omega)]
      rw [Array.getElem_push_lt hl, Array.getElem_push_lt hl]
theorem push_update (h : Heap) (o : Obj) (f : Obj → Obj) : (h.push o).update h.objs.size f = h.push (f o) := by
  obtain ⟨a, l⟩ := h
  show (⟨(a.push o).modify a.size f, l⟩ : Heap) = ⟨a.push (f o), l⟩
  rw [modify_last]
section
variable {prog : Program} {w : World} {A : Around} {E : Value → Shared → Prop}
theorem kw_set {h0 : Heap} {g : Array GenState} {dr : Nat} {t : Tok} {os : OsState} {es : List DictEntry} {n : Nat} {k : Str} {v : Value} {Q : Unit → Shared → Prop}
    (hs : ∀ e ∈ es, e.key.isStr k = false) (hr : ∀ e ∈ es, e.refKey = false) (s : Shared) (es0 : s.heap = h0.push (PySem.W.dictOf es n))
    (h : Q () { s with heap := h0.push (PySem.W.dictOf (es ++ [⟨PyData.keyHash w.params k, .str k s.toks, v⟩]) (n + 1)), toks := s.toks + 1 }) :
    wpAny (model prog w) A (nsSet h0.objs.size k v) Q E s := by
  have e1 : es.any (·.key.isStr k) = false := by
    cases q : es.any (·.key.isStr k) with
    | false => rfl
    | true => obtain ⟨e, he, z⟩ := List.any_eq_true.mp q; rw [hs e he] at z; cases z
  have e2 : es.any (·.refKey) = false := by
    cases q : es.any (·.refKey) with
    | false => rfl
    | true => obtain ⟨e, he, z⟩ := List.any_eq_true.mp q; rw [hr e he] at z; cases z
  have e : Obj.putName k (PyData.keyHash w.params k) (.str k s.toks) v (PySem.W.dictOf es n) = PySem.W.dictOf (es ++ [⟨PyData.keyHash w.params k, .str k s.toks, v⟩]) (n + 1) := by
    rw [PySem.W.putName_dict, PySem.W.putL_new hs]
    show PySem.W.dictOf _ (if es.any (·.key.isStr k) then n else n + 1) = _
    rw [e1, if_neg Bool.false_ne_true]
  have D : s.heap.get? h0.objs.size = some (PySem.W.dictOf es n) := by rw [es0]; exact Heap.get?_push_size _ rfl
  have c : aRefKeyMayBeTheName k es.toArray = false := by
    rw [aRefKeyMayBeTheName_at, ← Array.any_toList, ← Array.any_toList]
    show (!es.any (·.key.isStr k) && es.any (·.refKey)) = false
    rw [e2, Bool.and_false]
  unfold nsSet
  refine wpAny_bind (wpAny_bind (wpAny_askSetting (wpAny_pure (wpAny_bind (wpAny_mkText (wpAny_bind (wpAny_loadPart D ?_)))))))
  dsimp only
  rw [c]
  refine wpAny_updatePart D ?_
  have eh : s.heap.update h0.objs.size (Obj.putName k (PyData.keyHash w.params k) (.str k s.toks) v) = h0.push (PySem.W.dictOf (es ++ [⟨PyData.keyHash w.params k, .str k s.toks, v⟩]) (n + 1)) := by
    rw [es0, push_update, e]
  rw [← eh] at h
  exact h
theorem kw_fill {h0 : Heap} {Q : PUnit → Shared → Prop} : ∀ (ex : List (Str × Value)) (s : Shared) (es : List DictEntry) (n : Nat), s.heap = h0.push (PySem.W.dictOf es n) →
    (∀ e ∈ es, ∀ x ∈ ex, e.key.isStr x.1 = false) → (∀ e ∈ es, e.refKey = false) → (ex.map (·.1)).Nodup →
    Q ⟨⟩ { s with heap := h0.push (PySem.W.dictOf (es ++ PySem.W.kwEs w.params s.toks ex) (n + ex.length)), toks := s.toks + ex.length } →
    wpAny (model prog w) A (forIn ex PUnit.unit fun x _ => (nsSet h0.objs.size x.1 x.2 >>= fun _ => pure (ForInStep.yield PUnit.unit))) Q E s
  | [], s, es, n, e0, _, _, _, h => by
    rw [List.forIn_nil]
    refine wpAny_pure ?_
    have e : PySem.W.kwEs w.params s.toks [] = [] := rfl
    rw [e, List.append_nil] at h
    have h : Q ⟨⟩ { s with heap := h0.push (PySem.W.dictOf es n), toks := s.toks } := h
    rw [← e0] at h
    exact h
  | x :: r, s, es, n, e0, hs, hr, hn, h => by
    obtain ⟨hn1, hn2⟩ := List.nodup_cons.mp (show (x.1 :: r.map (·.1)).Nodup from hn)
    rw [List.forIn_cons]
    refine wpAny_bind (wpAny_bind (kw_set (g := s.gens) (dr := 0) (t := 0) (os := s.os) (fun e he => hs e he x (.head _)) hr s e0 (wpAny_pure ?_)))
    show wpAny (model prog w) A (forIn r PUnit.unit fun x _ => (nsSet h0.objs.size x.1 x.2 >>= fun _ => pure (ForInStep.yield PUnit.unit))) Q E { s with heap := h0.push (PySem.W.dictOf (es ++ [⟨PyData.keyHash w.params x.1, .str x.1 s.toks, x.2⟩]) (n + 1)), toks := s.toks + 1 }
    refine kw_fill r _ _ _ rfl (fun e he y hy => ?_) (fun e he => ?_) hn2 ?_
    · rcases List.mem_append.mp he with he | he
      · exact hs e he y (.tail _ hy)
      · obtain rfl := List.mem_singleton.mp he
        show (x.1 == y.1) = false
        exact beq_eq_false_iff_ne.mpr fun q => hn1 (by rw [q]; exact List.mem_map_of_mem hy)
    · rcases List.mem_append.mp he with he | he
      · exact hr e he
      · obtain rfl := List.mem_singleton.mp he
        rfl
    · have t1 : s.toks + 1 + r.length = s.toks + (r.length + 1) := by omega
      have t2 : n + 1 + r.length = n + (r.length + 1) := by omega
      show Q ⟨⟩ { s with heap := h0.push (PySem.W.dictOf ((es ++ [⟨PyData.keyHash w.params x.1, .str x.1 s.toks, x.2⟩]) ++ PySem.W.kwEs w.params (s.toks + 1) r) (n + 1 + r.length)), toks := s.toks + 1 + r.length }
      rw [t1, t2, List.append_assoc]
      exact h
end
/-- the new dict as it is known -/
theorem kw_pairs {P : Program} {w : World} : ∀ (nms : List Str) (ws : List Value) (t : Tok), ws.length = nms.length → Pairs (mixKind P w) (PySem.W.kwEs w.params t (nms.zip ws)) ((nms.map (Sum.inr : Str → Key)).zip ws)
  | [], [], _, _ => Pairs.nil
  | m :: nms, v :: ws, t, h => Pairs.cons (keyIs_str m t) rfl (kw_pairs nms ws (t + 1) (Nat.succ.inj h))
theorem kw_dict {P : Program} {w : World} (h0 : Heap) (nms : List Str) (ws : List Value) (t n : Nat) (hl : ws.length = nms.length) (hn : nms.Nodup) :
    (h0.push (PySem.W.dictOf ([] ++ PySem.W.kwEs w.params t (nms.zip ws)) n)).DictOf (mixKind P w) h0.objs.size ((nms.map (Sum.inr : Str → Key)).zip ws) := by
  refine ⟨_, (PySem.W.kwEs w.params t (nms.zip ws)).toArray, n, Heap.get?_push_size _ rfl, ⟨rfl, rfl, rfl⟩, rfl, fun e he => ?_, kw_pairs nms ws t hl, ?_⟩
  · have he : e ∈ PySem.W.kwEs w.params t (nms.zip ws) := by simpa using he
    obtain ⟨k, u, e1, e2⟩ := PySem.W.kwEs_key _ _ _ he
    exact ⟨.inr k, by rw [e1]; exact keyIs_str k u, e2⟩
  · rw [List.map_fst_zip (by rw [List.length_map, hl]; exact Nat.le_refl _)]
    exact List.pairwise_map.mpr (hn.imp fun h q => h (Sum.inr.inj q))
theorem kv_zip : ∀ (ks : List Key) {zs : List V} {ws : List Value}, Vals zs ws → KV (ks.zip zs) (ks.zip ws)
  | [], _, _, _ => .nil
  | _ :: _, _, _, .nil => .nil
  | k :: ks, _, _, .cons a r => .cons ⟨rfl, a⟩ (kv_zip ks r)
/-! ### def f(a, .., *v, **d), called with keywords that d takes -/
abbrev DK := List PV → List PV → Sto → Out PV
def spK (T : Tb) (K : PySem.W.Frag) (d : DK) (vs zs : List V) (H : Hp) (Q : VK) (E : XK) : Prop := ∃ R F S xs ys, Rep T K R F S H ∧ RelL T K R F xs vs ∧ RelL T K R F ys zs ∧ OkV T K R F (d xs ys S) Q E
def FnPK (T : Tb) (P : Program) (w : World) (K : PySem.W.Frag) (mg : Str → Option Value) (base : Heap) (k : Nat) (f : Addr) (nms : List Str) (d : DK) : Prop :=
  ∀ (A : Around) (outer : List Env) (s : Shared) (H : Hp) (us ws : List Value) (vs zs : List V) (Q : VK) (E : XK), Room k A → A.guards = some [] → Env0 P w K mg base A outer s H → Vals vs us → Vals zs ws → zs.length = nms.length → spK T K d vs zs H Q E →
    codeAny (model P w) A (.call (.ref f) ⟨us, nms.zip ws⟩) (CR (L2.CX P w) outer P w H s Q E) s
def dStarK (n : Nat) (nms : List Str) (d : DF) : DK := fun xs ys S => if n ≤ xs.length ∧ xs.length ≤ 16777216 ∧ ys.length = nms.length ∧ ys.length ≤ 1000 then d (xs.take n ++ [.nd .tup (xs.drop n), .nd (.dct false (nms.map fun m => PK.k (.inr m))) ys]) S else .bad
theorem fnp_starkw {T : Tb} {P : Program} {w : World} {K : PySem.W.Frag} {mg : Str → Option Value} {base : Heap} {k : Nat} {f : Addr} {fd : FuncData} {x qual pv pd : Str} {params : Arguments} {body : List Stmt} {scope : Scope} {kws : List (Str × V)} {N ps nms : List Str} {b : DS}
    {d : DF} (hd : ∀ (vs : List V) (H : Hp) (Q : VK) (E : XK), spOf T K (ps.length + 2) d vs H Q E → tS T K (fun _ => E) b { nx := fun _ H' => Q .non H', rt := Q } (L2.start N vs) H)
    (G : FunD K x qual params body scope [] kws f fd) (S : FnScope N (ps ++ [pv, pd]) scope) (hnd : nms.Nodup)
    (hbi : ∀ (kV doc pm : Value) (an : Option Addr) (cdv ct : Value) (us rest ws : List Value), us.length = ps.length → ws.length = nms.length → bindArgs (PySem.W.fnOf x qual params body scope .none kV doc pm an cdv ct) ⟨us ++ rest, nms.zip ws⟩ =
      (newTuple rest >>= fun t => (alloc ({ cls := .type "dict", data := .dict #[] } : Obj) : Sem Addr) >>= fun d => (forIn (nms.zip ws) PUnit.unit fun x _ => (nsSet d x.1 x.2 >>= fun _ => pure (ForInStep.yield PUnit.unit))) >>= fun _ => pure (ps.zip us ++ [(pv, t), (pd, Value.ref d)])))
    (hb : ∀ (cdv : Value) (A : Around) (outer : List Env) (s : Shared) (H : Hp) (E : XK), Cg (cxOf (L2.CX P w) P w K mg base N qual scope f cdv A outer s H E) (fun _ => E) k → JB T (cxOf (L2.CX P w) P w K mg base N qual scope f cdv A outer s H E) (fun _ => E) body b) :
    FnPK T P w K mg base (k + 1) f nms (dStarK ps.length nms d) := by
  obtain ⟨oc, od, dV, kV, doc, pm, an, cdv, ct, osl, rfl, lk, hcd, hD, _⟩ := G.ex
  have e0 : dV = .none := by
    rcases hD with ⟨_, z⟩ | ⟨z, _⟩
    · exact z
    · exact absurd rfl z
  subst e0
  rintro A outer s H us ws vs zs Q E hr hgd e0 r rz hzl ⟨R, Fz, St, xs, ys, r0, rx, ry, h⟩
  unfold dStarK at h
  split at h
  · rename_i hn
    obtain ⟨hn1, hn2, hn3, hn4⟩ := hn
    have hxl := rx.length
    have hyl := ry.length
    have hvs : vs = vs.take ps.length ++ vs.drop ps.length := (List.take_append_drop ..).symm
    rw [hvs] at r
    obtain ⟨u1, u2, rfl, r1, r2⟩ := StX.vals_split r
    have l1 : (vs.take ps.length).length = ps.length := by rw [List.length_take, hxl]; omega
    have hz : (vs.drop ps.length).length ≤ sizeLine := by rw [List.length_drop, hxl, sizeLine_eq]; omega
    have hl1 : u1.length = ps.length := by rw [← r1.length]; exact l1
    have hl2 : u2.length ≤ sizeLine := by rw [← r2.length]; exact hz
    have hwl : ws.length = nms.length := by rw [← rz.length]; exact hzl
    have hnn : H s.heap.objs.size = Option.none := e0.hok.fresh (Nat.le_refl _)
    let kk : List Key := nms.map Sum.inr
    have hkl : kk.length = nms.length := List.length_map ..
    let dK : HO := .dK (kk.zip zs)
    refine StX.run_bnd (CX := L2.CX P w) lk hcd S hr e0 (G := fun qs H2 => ∃ p q, H p = Option.none ∧ H q = Option.none ∧ q ≠ p ∧ qs = vs.take ps.length ++ [V.ref p, V.ref q] ∧ H2 = upd (upd H p (.tup (vs.drop ps.length))) q dK) (fun A' Ex Q' hQ => ?_) fun s2 H2 qs ⟨p, q, hp, hq, hne, ey, eH⟩ hr' => ?_
    · rw [hbi kV doc pm an cdv ct u1 u2 ws hl1 hwl]
      refine wpAny_bind (wpAny_newTuple (wpAny_bind (wpAny_alloc ?_)) hl2)
      have new : ObjOk P w (upd H s.heap.objs.size (.tup (vs.drop ps.length))) (s.heap.push ({ cls := .type "tuple", data := .seq u2.toArray } : Obj)) s.heap.objs.size (.tup (vs.drop ps.length)) := ⟨hz, u2, r2, ⟨_, Heap.get?_push_size _ rfl, rfl, _, rfl⟩⟩
      have e1 := StX.env0_laid e0 new
      have un1 := StX.un_laid (fs := frs outer) (s := s) (o := ({ cls := .type "tuple", data := .seq u2.toArray } : Obj)) (u := .tup (vs.drop ps.length)) hnn
      have hn2 := e1.hok.fresh (Nat.le_refl _)
      have sz : (s.heap.push ({ cls := .type "tuple", data := .seq u2.toArray } : Obj)).objs.size = s.heap.objs.size + 1 := Heap.size_push _ _
      have ne : (s.heap.push ({ cls := .type "tuple", data := .seq u2.toArray } : Obj)).objs.size ≠ s.heap.objs.size := by
        rw [sz]
        exact Nat.succ_ne_self _
      have hdn : H (s.heap.push ({ cls := .type "tuple", data := .seq u2.toArray } : Obj)).objs.size = Option.none := e0.hok.fresh (by rw [sz]; exact Nat.le_succ _)
      have big := StX.env0_big e1
      refine wpAny_bind (kw_fill (h0 := s.heap.push ({ cls := .type "tuple", data := .seq u2.toArray } : Obj)) (nms.zip ws) _ [] 0 rfl (fun _ he => nomatch he) (fun _ he => nomatch he) (by rw [List.map_fst_zip (by rw [hwl]; exact Nat.le_refl _)]; exact hnd) (wpAny_pure ?_))
      have e2 := StX.env0_laid (u := dK) (o := PySem.W.dictOf ([] ++ PySem.W.kwEs w.params s.toks (nms.zip ws)) (0 + (nms.zip ws).length)) e1
        (dk_new (by rw [List.length_zip, hkl, hzl, Nat.min_self, ← hzl, hyl, sizeLine_eq]; omega) (beq_eq_false_iff_ne.mpr (Ne.symm (Nat.ne_of_lt big))) (kv_zip kk rz) (kw_dict _ nms ws _ _ hwl hnd))
      have un2 := un1.trans (StX.un_laid (fs := frs outer) (s := { s with heap := s.heap.push ({ cls := .type "tuple", data := .seq u2.toArray } : Obj) }) (o := PySem.W.dictOf ([] ++ PySem.W.kwEs w.params s.toks (nms.zip ws)) (0 + (nms.zip ws).length)) (u := dK) hn2)
      have z := hQ { s with heap := (s.heap.push ({ cls := .type "tuple", data := .seq u2.toArray } : Obj)).push (PySem.W.dictOf ([] ++ PySem.W.kwEs w.params s.toks (nms.zip ws)) (0 + (nms.zip ws).length)), toks := s.toks + (nms.zip ws).length } _ (vs.take ps.length ++ [V.ref s.heap.objs.size, V.ref (s.heap.push ({ cls := .type "tuple", data := .seq u2.toArray } : Obj)).objs.size]) (u1 ++ [Value.ref s.heap.objs.size, Value.ref (s.heap.push ({ cls := .type "tuple", data := .seq u2.toArray } : Obj)).objs.size]) ⟨e2.frames, e2.mod, e2.bs, e2.bsz, e2.funs, e2.frf, e2.hok, e2.bare⟩ un2 rfl
        (fun e s' => StX.cxUp outer s H { s with heap := (s.heap.push ({ cls := .type "tuple", data := .seq u2.toArray } : Obj)).push (PySem.W.dictOf ([] ++ PySem.W.kwEs w.params s.toks (nms.zip ws)) (0 + (nms.zip ws).length)), toks := s.toks + (nms.zip ws).length } _ E e s' un2 (fun b o q => Heap.get?_push_of_some _ (Heap.get?_push_of_some _ q)) rfl) (r1.append (.cons rfl (.cons rfl .nil))) (by rw [List.length_append, List.length_append, l1] <;> rfl) ⟨_, _, hnn, hdn, ne, rfl, rfl⟩
      rw [List.zip_append hl1.symm] at z
      exact z
    · subst ey eH
      have cg : Cg (cxOf (L2.CX P w) P w K mg base N qual scope f cdv A outer s2 (upd (upd H p (.tup (vs.drop ps.length))) q dK) E) (fun _ => E) k :=
        ⟨rfl, S.nd, hr', hgd, takes_of rfl rfl rfl rfl, passes_of rfl⟩
      refine ⟨_, hb cdv A outer s2 _ E cg, hd _ _ _ _ ?_⟩
      have rF := r0.frozen (o := .tup (vs.drop ps.length)) hp
      have ex := ex_upd (o := .tup (vs.drop ps.length)) (r0.fnone hp)
      have hq' : upd H p (.tup (vs.drop ps.length)) q = none := by rw [upd_ne hne]; exact hq
      have rF2 := rF.frozen (o := dK) hq' (fun ps h => by have h : HO.dK (kk.zip zs) = HO.tbl ps := h; cases h)
      have ex2 := ex_upd (o := dK) (rF.fnone hq')
      have rn : Rel T K R (upd Fz p (.tup (vs.drop ps.length))) (.nd .tup (xs.drop ps.length)) (.ref p) := by
        rw [Rel]
        exact ⟨p, _, rfl, upd_same, (rx.drop ps.length).mono (Pl.refl R) ex⟩
      have rd : Rel T K R (upd (upd Fz p (.tup (vs.drop ps.length))) q dK) (.nd (.dct false (nms.map fun m => PK.k (.inr m))) ys) (.ref q) := by
        rw [Rel]
        refine ⟨q, zs, rfl, ⟨by rw [List.length_map]; exact hzl, kk, by rw [List.map_map]; rfl, .inl upd_same⟩, (ry.mono (Pl.refl R) ex).mono (Pl.refl R) ex2⟩
      refine ⟨?_, R, _, St, xs.take ps.length ++ [.nd .tup (xs.drop ps.length), .nd (.dct false (nms.map fun m => PK.k (.inr m))) ys], rF2, (((rx.take ps.length).mono (Pl.refl R) ex).mono (Pl.refl R) ex2).append (.cons (rn.mono (Pl.refl R) ex2) (.cons rd .nil)), OkV.mono (Pl.refl R) ex2 (OkV.mono (Pl.refl R) ex h)⟩
      rw [List.length_append, l1]; rfl
  · exact h.elim
/-! ### the call with stars and keywords -/
structure StatK (T : Tb) (P : Program) (w : World) (K : PySem.W.Frag) (mg : Str → Option Value) (base : Heap) (k c : Nat) (m : Str) (nms : List Str) (d : DK) : Prop where
  ex : ∃ (p g : Addr) (rest : List Value), ClX.CRead K (T.ca K c) (.type "type") ∧ PySem.W.findCls K (.ref (T.ca K c)) (.type "type") m = some (.get (.builtin "staticmethod.__get__") (.ref p) .none (.ref (T.ca K c))) ∧ PySem.W.recIn K p "staticmethod" = some (.ref g :: rest) ∧
    PySem.W.keepIn K (.ref g) = true ∧ FnPK T P w K mg base k g nms d
theorem statK_of {T : Tb} {P : Program} {w : World} {K : PySem.W.Frag} {mg : Str → Option Value} {base : Heap} {k c : Nat} {x m : Str} {nms : List Str} {d : DK} (hx : T.cn c = x) (h : statB x m K = true) (G : FnPK T P w K mg base k (stA K (He.ga K x) m) nms d) : StatK T P w K mg base k c m nms d := by
  subst hx
  obtain ⟨h1, h⟩ := Bool.and_eq_true_iff.mp h
  obtain ⟨h2, h3⟩ := Bool.and_eq_true_iff.mp h
  split at h3
  · rename_i p g C' hr
    obtain ⟨h4, h5⟩ := Bool.and_eq_true_iff.mp h3
    have eg : stA K (He.ga K (T.cn c)) m = g := by unfold stA; rw [hr]
    rw [eg] at G
    obtain ⟨e1, rest, e2⟩ := stR_ok hr
    have e3 := of_decide_eq_true h4
    subst e3
    exact ⟨p, g, rest, ⟨h1, of_decide_eq_true h2⟩, e1, e2, h5, G⟩
  · cases h3
/-- the same def with new things of its own put away -/
def cloK (d : DK) : DK := fun xs ys S => clo (fun zs S => d (zs.take xs.length) (zs.drop xs.length) S) (xs ++ ys) S
theorem spK_clo {T : Tb} {K : PySem.W.Frag} {d : DK} {vs zs : List V} {H : Hp} {Q : VK} {E : XK} (h : spK T K (cloK d) vs zs H Q E) : spK T K d vs zs H Q E := by
  obtain ⟨R, F, S, xs, ys, r, rx, ry, h⟩ := h
  obtain ⟨R', S', r', rx', h'⟩ := clo_ok r (rx.append ry) h
  have e1 : (xs ++ ys).take xs.length = xs := List.take_left
  have e2 : (xs ++ ys).drop xs.length = ys := List.drop_left
  have h2 : OkV T K R' F (d xs ys S') Q E := by
    have h3 : OkV T K R' F (d ((xs ++ ys).take xs.length) ((xs ++ ys).drop xs.length) S') Q E := h'
    rw [e1, e2] at h3
    exact h3
  have q1 := rx'.take xs.length
  have q2 := rx'.drop xs.length
  rw [e1, List.take_append_of_le_length (by rw [rx.length]; exact Nat.le_refl _), List.take_of_length_le (by rw [rx.length]; exact Nat.le_refl _)] at q1
  rw [e2, List.drop_append_of_le_length (by rw [rx.length]; exact Nat.le_refl _), List.drop_of_length_le (by rw [rx.length]; exact Nat.le_refl _), List.nil_append] at q2
  exact ⟨R', F, S', xs, ys, r', q1, q2, h2⟩
theorem StatK.clo {T : Tb} {P : Program} {w : World} {K : PySem.W.Frag} {mg : Str → Option Value} {base : Heap} {k c : Nat} {m : Str} {nms : List Str} {d : DK} (F : StatK T P w K mg base k c m nms d) : StatK T P w K mg base k c m nms (cloK d) := by
  obtain ⟨p, g, rest, h1, h2, h3, h4, G⟩ := F.ex
  exact ⟨p, g, rest, h1, h2, h3, h4, fun A outer s H us ws vs zs Q E hr hg e0 r rz hl h => G A outer s H us ws vs zs Q E hr hg e0 r rz hl (spK_clo h)⟩
def dFnK (d : DK) (ar kr : DA) : DE := fun l S => (ar l S).bind fun xs S1 => (kr l S1).bind fun ys S2 => d xs ys S2
section
variable {T : Tb} {X : Cx} {E : XS} {x m : Str} {p pos apos : Pos} {e o : Expr} {es : List Expr} {kw : Keyword} {kws : List Keyword} {nms : List Str} {d : DK} {ar kr : DA} {j k c : Nat}
end
theorem starK_bad {n : Nat} {nms : List Str} {d : DF} (xs ys : List PV) (S : Sto) (h : ys.length ≠ nms.length) : dStarK n nms d xs ys S = .bad := by
  unfold dStarK
  rw [if_neg (fun q => h q.2.2.1)]
theorem cloK_bad {n : Nat} {nms : List Str} {d : DF} (xs ys : List PV) (S : Sto) (h : ys.length ≠ nms.length) : cloK (dStarK n nms d) xs ys S = .bad := by
  unfold cloK
  refine clo_bad (fun S => ?_) S
  rw [List.take_left, List.drop_left]
  exact starK_bad xs ys S h
end Z
end
end
section
set_option Elab.async false
set_option linter.all false
set_option maxRecDepth 100000
set_option maxHeartbeats 2000000
/-! XG: own classes whose __init__ has a star. -/
noncomputable section
namespace Z
open PySem PySem.Spec PyProof.Rows L2
section
variable {T : Tb} {X : Cx} {E : XS} {x : Str} {e : Expr} {es : List Expr} {ar : DA} {d : DF} {p pos kpos : Pos} {c : Nat} {j k : Nat}
end
end Z
end
end
section
set_option Elab.async false
set_option linter.all false
set_option maxRecDepth 100000
set_option maxHeartbeats 2000000
/-! XH: text[::-1]. -/
noncomputable section
namespace Z
open PySem PySem.Spec PyProof.Rows L2
section
variable {T : Tb} {X : Cx} {E : XS} {e : Expr} {d : DE}
end
end Z
end
end
section
set_option Elab.async false
set_option linter.all false
set_option maxRecDepth 100000
set_option maxHeartbeats 2000000
/-! XI: own __getitem__; star methods with plain values; a static method with keywords and plain values. -/
noncomputable section
namespace Z
open PySem PySem.Spec PyProof.Rows L2
/-! ### o[i], o an instance of an own class -/
def dSubO (c : Nat) (d : DF) (dO di : DE) : DE := fun l S => (dO l S).bind fun x S1 => (di l S1).bind fun y S2 => if isIns c x S2 = true then d [x, y] S2 else .bad
section
variable {T : Tb} {X : Cx} {E : XS} {x m : Str} {e o i : Expr} {es : List Expr} {d : DF} {dO di : DE} {ar : DA} {pos apos : Pos} {j k c : Nat}
theorem je_subO (cg : Cg X E k) (F : FnMP T X.prog X.w X.K X.mg X.base j c "__getitem__" d) (hx : T.cn c = x) (hgi : giB x X.K = true) (ho : JE T X E o dO) (hi : JE T X E i di) (hj : j + 1 ≤ k := by decide)
    (hsl : ∀ a v, subscripted i true (.ref a) v = runValue (.builtin "lifetime.subscript" ⟨[.ref a, v], []⟩) := by intro a v; with_unfolding_all rfl) : JE T X E (.Subscript o i pos) (dSubO c d dO di) := by
  subst hx
  obtain ⟨g, cl, hm, G⟩ := F.ex
  have hfn : PySem.W.fnIn X.K g = true := by
    have h1 : PySem.W.findIn X.K (.ref (He.ga X.K (T.cn c))) "__getitem__" = some (some (.ref g)) := hm.at_
    unfold giB at hgi
    rw [h1] at hgi
    exact hgi
  refine ⟨fun pins s σ H Q I ⟨R, Fz, l, S, r, e', h⟩ => ?_⟩
  have hh : tV T X.K E dO σ H fun x H1 => tV T X.K E di σ H1 fun y H2 => ∃ a dx fs, x = .ref a ∧ H2 a = some (.ins (T.ca X.K c) dx fs) ∧ spP T X.K d [x, y] H2 Q (E σ) := by
    refine seqV (goV T X.K (E σ) Q) r e' h fun x S1 R1 F1 H1 u p ex r1 rx e1 h1 => ?_
    have h1 : OkV T X.K R1 F1 ((di l S1).bind fun y S2 => if isIns c x S2 = true then d [x, y] S2 else .bad) Q (E σ) := h1
    refine seqV (goV T X.K (E σ) Q) r1 e1 h1 fun y S2 R2 F2 H2 u2 p2 ex2 r2 ry e2 h2 => ?_
    have h2 : OkV T X.K R2 F2 (if isIns c x S2 = true then d [x, y] S2 else .bad) Q (E σ) := h2
    split at h2
    · rename_i hi
      have rx2 := rx.mono p2 ex2
      obtain ⟨a, dx, fs, rfl, ha⟩ := isIns_rel r2 rx2 hi
      exact ⟨a, dx, fs, rfl, ha, spP_of r2 (.cons rx2 (.cons ry .nil)) h2⟩
    · exact h2.elim
  refine Subscript_ (thn (ho.run pins s σ H _ I hh) fun v s1 ⟨x, H1, I1, rv, q⟩ => thn (hi.run pins s1 σ H1 _ I1 q) fun iv s2 ⟨y, H2, I2, ri, a, dx, fs, ex, ha, hsp⟩ => ?_)
  subst ex
  obtain rfl : v = Value.ref a := rv
  obtain ⟨ox, od, J⟩ := inst_of I2 ha
  obtain ⟨mm, hF⟩ := I2.fr
  exact PySem.W.sub_K hF I2.ok.mod.kin J hm.at_ hfn hm.fn (run_fnp1 cg hj G I2 (vs := [V.ref a, y]) (us := [Value.ref a, iv]) (.cons rfl (.cons ri .nil)) hsp) (hsl a iv)
/-! ### o.m(e, ..), m with a star -/
theorem meth_tP {ar : DA} {σ : L2.St} {H : Hp} {Q : VK} (O : TbOk T X.K) {f : Addr} (hm : Meth X.K (T.ca X.K c) m f) (h : tV T X.K E (dMeth T c d dO ar) σ H Q) :
    tV T X.K E dO σ H fun x H1 => ∃ a dx fs, x = .ref a ∧ H1 a = some (.ins (T.ca X.K c) dx fs) ∧ fs.lookup m = none ∧ tL T X.K E ar σ H1 fun vs H2 => spP T X.K d (x :: vs) H2 Q (E σ) := by
  obtain ⟨R, F, l, S, r, e, h⟩ := h
  refine seqV (goV T X.K (E σ) Q) r e h fun x S1 R1 F1 H1 u p ex r1 rx e1 h1 => ?_
  have h1 : OkV T X.K R1 F1 (if insOk T c x S1 = true then (ar l S1).bind fun xs S2 => d (x :: xs) S2 else .bad) Q (E σ) := h1
  split at h1
  · rename_i hi
    obtain ⟨a, dx, fs, rfl, ha, hl⟩ := insOk_rel O hm r1 rx hi
    refine ⟨a, dx, fs, rfl, ha, hl, ?_⟩
    refine seqL (goV T X.K (E σ) Q) r1 e1 h1 fun xs S2 R2 F2 H2 us p2 ex2 r2 rxs e2 h2 => ?_
    exact spP_of r2 (.cons (rx.mono p2 ex2) rxs) h2
  · exact h1.elim
theorem je_methP {pl : Sem Bool} (O : TbOk T X.K) (cg : Cg X E k) (F : FnMP T X.prog X.w X.K X.mg X.base j c m d) (ho : JE T X E o dO) (ha : JA T X E (e :: es) ar) (hj : j ≤ k := by decide)
    (hst : starEach (e :: es) X.env = (false, eval e X.env) :: starEach es X.env := by rfl) (hpl : (backTo pos (starEach es X.env)).any (·.1) = false := by rfl)
    (ht : eval (.Call (.Attribute o m apos) (e :: es) [] pos) X.env = (do
      let ov ← eval o X.env
      standAt apos.atName
      let (f, first) ← holding [ov] (getMethod ov m pl)
      callWith pos f first (backTo pos (starEach (e :: es) X.env)) (backToKw pos (keywordEach [] X.env))) := by rfl) : JE T X E (.Call (.Attribute o m apos) (e :: es) [] pos) (dMeth T c d dO ar) := by
  obtain ⟨f, cl, hm, G⟩ := F.ex
  refine ⟨fun pins s σ H Q I h => ?_⟩
  refine PySem.W.methodCall_KW (pl := pl) (thn (ho.run pins s σ H _ I (meth_tP O hm h)) fun u s1 ⟨x, H1, I1, rx, a, dx, fs, ex, ea, l, q⟩ => ?_) ht
  subst ex
  obtain rfl : u = Value.ref a := rx
  refine getmeth_ok I1 ea cl hm l ?_
  refine PySem.W.callWith_K (first := [.ref a]) (h₀ := X.base) I.ok.mod.kin hm.kp (thn (ha.run pos pins s1 σ H1 _ I1 q) fun us s2 ⟨vs, H2, I2, r, q2⟩ => ⟨I2.kIn, ?_⟩) hst hpl
  exact run_fnp cg hj G I2 (vs := V.ref a :: vs) (us := Value.ref a :: us) (.cons rfl r) q2
theorem je_methP0 {pl : Sem Bool} (O : TbOk T X.K) (cg : Cg X E k) (F : FnMP T X.prog X.w X.K X.mg X.base j c m d) (ho : JE T X E o dO) (hj : j ≤ k := by decide)
    (ht : eval (.Call (.Attribute o m apos) [] [] pos) X.env = (do
      let ov ← eval o X.env
      standAt apos.atName
      let (f, first) ← holding [ov] (getMethod ov m pl)
      callWith pos f first (backTo pos (starEach [] X.env)) (backToKw pos (keywordEach [] X.env))) := by rfl) : JE T X E (.Call (.Attribute o m apos) [] [] pos) (dMeth T c d dO dNil) := by
  obtain ⟨f, cl, hm, G⟩ := F.ex
  refine ⟨fun pins s σ H Q I h => ?_⟩
  refine PySem.W.methodCall_KW (pl := pl) (thn (ho.run pins s σ H _ I (meth_tP O hm h)) fun u s1 ⟨x, H1, I1, rx, a, dx, fs, ex, ea, l, q⟩ => ?_) ht
  subst ex
  obtain rfl : u = Value.ref a := rx
  refine getmeth_ok I1 ea cl hm l ?_
  obtain ⟨R1, F1, l1, S1, r1, e1, q⟩ := q
  have q2 := PostL.here r1 .nil q
  exact PySem.W.callWith_K0 (first := [.ref a]) I1.kIn hm.kp (run_fnp cg hj G I1 (vs := [V.ref a]) (us := [Value.ref a]) (.cons rfl .nil) q2)
/-! ### C.m(e, .., k = v, ..), no stars in the call -/
theorem je_statKP {kw : Keyword} {kws : List Keyword} {nms : List Str} {d : DK} {kr : DA} {pl : Sem Bool} (cg : Cg X E k) (F : StatK T X.prog X.w X.K X.mg X.base j c m nms d) (ho : JE T X E o (dC (.cls c))) (ha : JA T X E (e :: es) ar) (hkw : JK T X E (kw :: kws) kr) (hl : ∀ xs ys S, ys.length ≠ nms.length → d xs ys S = .bad) (hj : j ≤ k := by decide)
    (hst : starEach (e :: es) X.env = (false, eval e X.env) :: starEach es X.env := by rfl)
    (hpl : ((backTo pos (starEach (e :: es) X.env)).any (·.1) || (backToKw pos (keywordEach (kw :: kws) X.env)).any (·.1.isNone)) = false := by rfl)
    (hall : (backToKw pos (keywordEach (kw :: kws) X.env)).all (·.1.isSome) = true := by rfl) (hks : (backToKw pos (keywordEach (kw :: kws) X.env)).filterMap (·.1) = nms := by rfl)
    (ht : eval (.Call (.Attribute o m apos) (e :: es) (kw :: kws) pos) X.env = (do
      let ov ← eval o X.env
      standAt apos.atName
      let (f, first) ← holding [ov] (getMethod ov m pl)
      callWith pos f first (backTo pos (starEach (e :: es) X.env)) (backToKw pos (keywordEach (kw :: kws) X.env))) := by rfl) : JE T X E (.Call (.Attribute o m apos) (e :: es) (kw :: kws) pos) (dFnK d ar kr) := by
  obtain ⟨pm, g, rest, r, h1, h2, hk, G⟩ := F.ex
  refine ⟨fun pins s σ H Q I h => ?_⟩
  have hh : tV T X.K E (dC (.cls c)) σ H fun x H1 => x = .ref (T.ca X.K c) ∧ tV T X.K E (dFnK d ar kr) σ H1 Q := by
    obtain ⟨R, Fz, l, S, r, e', h⟩ := h
    refine ⟨R, Fz, l, S, r, e', fun R1 F1 H1 u p ex r1 rx => ?_⟩
    rw [Rel] at rx
    exact ⟨rx, R1, F1, l, S, r1, e'.mono p ex, OkV.mono p ex h⟩
  refine PySem.W.methodCall_KW (pl := pl) (thn (ho.run pins s σ H _ I hh) fun u s1 ⟨x, H1, I1, rx, ex, q⟩ => ?_) ht
  subst ex
  obtain rfl : u = Value.ref (T.ca X.K c) := rx
  refine getstat_ok I1 r h1 h2 fun s2 I2 => ?_
  obtain ⟨R, Fz, l, S, r0, e', h⟩ := q
  have hq : tL T X.K E ar σ H1 fun vs H2 => tL T X.K E kr σ H2 fun zs H3 => zs.length = nms.length ∧ spK T X.K d vs zs H3 Q (E σ) := by
    refine seqL (goV T X.K (E σ) Q) r0 e' h fun xs S1 R1 F1 H1 us p ex r1 rx e1 h1 => ?_
    have h1 : OkV T X.K R1 F1 ((kr l S1).bind fun ys S2 => d xs ys S2) Q (E σ) := h1
    refine seqL (goV T X.K (E σ) Q) r1 e1 h1 fun ys S2 R2 F2 H2 ws p2 ex2 r2 ry e2 h2 => ?_
    have h2 : OkV T X.K R2 F2 (d xs ys S2) Q (E σ) := h2
    by_cases hy : ys.length = nms.length
    · exact ⟨by rw [ry.length]; exact hy, R2, F2, S2, xs, ys, r2, rx.mono p2 ex2, ry, h2⟩
    · rw [hl xs ys S2 hy] at h2; exact h2.elim
  refine PySem.W.callWith_KW (first := []) (h₀ := X.base) I.ok.mod.kin hk hall (thn (ha.run pos pins s2 σ H1 _ I2 hq) fun us s3 ⟨vs, H2, I3, r3, q3⟩ => thn (hkw.run pos pins s3 σ H2 _ I3 q3) fun ws s4 ⟨zs, H4, I4, r4, hz, q4⟩ => ⟨I4.kIn, ?_⟩) hpl hst
  rw [hks]
  refine wpAny_call (codeAny_mono (G X.A X.stack s4 H4 us ws vs zs Q (E σ) (cg.room.mono hj) cg.gd I4.env0 r3 r4 hz q4) fun z s' hq => ?_)
  cases z with
  | error e => exact cg.pass pins σ H4 s4 e s' I4 hq
  | ok fl =>
    cases fl with
    | ret u => exact I4.after hq
    | next => exact False.elim hq
    | brk => exact False.elim hq
    | cont => exact False.elim hq
end
end Z
end
end
section
set_option Elab.async false
set_option linter.all false
set_option maxRecDepth 100000
set_option maxHeartbeats 2000000
/-! XJ: len(set(list of ints)). -/
noncomputable section
namespace Z
open PySem PySem.Spec PyProof.Rows L2
abbrev fmet (ns : List Int) : List Int := PyProof.Rows.firstMet (fun i => ns.getD i 0) ns.length
def SetL (P : Program) (w : World) (a : Addr) (ns : List Int) : HO := .ext fun h => h.SetOf (intKind P w) a (fun k' => (fmet ns).any (· == k')) (fmet ns).length
theorem setL_new {P : Program} {w : World} {H : Hp} {h : Heap} {a : Addr} {ns : List Int} (R : h.SetOf (intKind P w) a (fun k' => (fmet ns).any (· == k')) (fmet ns).length) : ObjOk P w H h a (SetL P w a ns) := by
  have ⟨o, es, ep, t, ho, r⟩ := R
  exact ⟨R, ⟨o, ho⟩, fun h1 h2 ⟨o', es', ep', t', ho', r'⟩ k => ⟨o', es', ep', t', k o' ho', r'⟩⟩
def rSetL (K : PySem.W.Frag) (P : Program) (w : World) : List V → Hp → VK → Prop := fun xs H Q => ∃ (l : Addr) (ns : List Int), xs = [.ref l] ∧ SqL K H l (ns.map V.int) ∧ ns.length + 1 < scanBound ∧ ∀ p, H p = none → Q (.ref p) (upd H p (SetL P w p ns))
theorem cr_setL {X : Cx} (hc : X.calm = true) : CallR X (.type "set") (rSetL X.K X.prog X.w) := by
  intro pins s σ H xs us Q I r h
  obtain ⟨l, ns, rfl, hl, hn, q⟩ := h
  rw [Vals.ref1 r]
  obtain ⟨its, rv, pl, hz⟩ := I.list hl
  have hsz : its.length = ns.length := by rw [← rv.length, List.length_map]
  refine PySem.call_set_list (items := its.toArray) (ns := ns) (I.ok.hd hc) pl.isList (by simpa using intsAre_of rv) (by rw [List.size_toArray, hsz]; exact hn) fun h' tk hS hk => ?_
  have e1 : its.toArray.size = ns.length := by rw [List.size_toArray, hsz]
  rw [e1] at hS
  exact ⟨.ref s.heap.objs.size, upd H s.heap.objs.size (SetL X.prog X.w s.heap.objs.size ns), I.laid (t' := tk) (fun b o e => hk b o (Heap.lt_size e) e) (Nat.le_refl _) (setL_new hS), rfl, q _ (I.hok.fresh (Nat.le_refl _))⟩
def rLenS (P : Program) (w : World) : List V → Hp → VK → Prop := fun xs H Q => ∃ (a : Addr) (ns : List Int), xs = [.ref a] ∧ H a = some (SetL P w a ns) ∧ Q (.int (fmet ns).length) H
theorem cr_lenS {X : Cx} : CallR X (.builtin "len") (rLenS X.prog X.w) := by
  intro pins s σ H xs us Q I r h
  obtain ⟨a, ns, rfl, ha, q⟩ := h
  rw [Vals.ref1 r]
  have R : s.heap.SetOf (intKind X.prog X.w) a (fun k' => (fmet ns).any (· == k')) (fmet ns).length := (I.hok a _ ha).1
  obtain ⟨o, es, ep, t, ho, hx, hd, g, hm, hb, hf, hn⟩ := R
  refine PySem.call_len_set ho hx hd hf (by have := hb; unfold scanBound at this; omega) ?_
  rw [hn]
  exact ⟨.int (fmet ns).length, H, I.tok _, ⟨_, rfl⟩, q⟩
def lenSetP (xs : List PV) (S : Sto) : Out PV := match xs with
  | [x] => (match (lstOf x S).bind asIs with
    | some ns => if ns.length ≤ 1000 then .ok (.int (fmet ns).length) S else .bad
    | none => .bad)
  | _ => .bad
section
variable {T : Tb} {X : Cx} {E : XS} {e : Expr} {d : DE} {p1 p2 pos1 pos2 : Pos}
theorem je_lenSet (hc : X.calm = true) (hmL : X.mg "len" = none) (hmS : X.mg "set" = none) (he : JE T X E e d) (hgL : Gl X "len" := by rfl) (hgS : Gl X "set" := by rfl)
    (hs : starEach [e] X.env = (false, eval e X.env) :: starEach [] X.env := by rfl) (hpl2 : (backTo pos2 (starEach [] X.env)).any (·.1) = false := by rfl)
    (hs1 : starEach [Expr.Call (.Name "set" p2) [e] [] pos2] X.env = (false, eval (Expr.Call (.Name "set" p2) [e] [] pos2) X.env) :: starEach [] X.env := by rfl) (hpl1 : (backTo pos1 (starEach [] X.env)).any (·.1) = false := by rfl) :
    JE T X E (.Call (.Name "len" p1) [.Call (.Name "set" p2) [e] [] pos2] [] pos1) (dApp lenSetP (dCons d dNil)) := by
  have h1 : PE X (.Call (.Name "set" p2) [e] [] pos2) (tCB (rSetL X.K X.prog X.w) (tL T X.K E (dCons d dNil))) := pe_callTy (cr_setL hc) hgS hmS (by rfl) (ja_cons he ja_nil hs) (by decide) (by decide) hs hpl2
  refine pe_imp (pe_callB cr_lenS hgL hmL (by rfl) (pa_cons h1 pa_nil hs1) (by decide) (by decide) hs1 hpl1) fun σ H Q ⟨R, F, l, S, r, e', h⟩ => ?_
  refine seqL (goV T X.K (E σ) Q) r e' h fun xs S1 R1 F1 H1 us p ex r1 rx e1 h1 => ?_
  have h1 : OkV T X.K R1 F1 (lenSetP xs S1) Q (E σ) := h1
  unfold lenSetP at h1
  split at h1
  · rename_i x
    obtain ⟨u, rfl, rx1⟩ := rel1 rx
    split at h1
    · rename_i ns hv
      split at h1
      · rename_i hl
        rw [Option.bind_eq_some_iff] at hv
        obtain ⟨ys, hy, hi⟩ := hv
        obtain ⟨a, us, rfl, hsq, hr⟩ := lstOf_rel r1 rx1 hy
        have eu := asIs_rel hr hi
        subst eu
        refine ⟨a, ns, rfl, hsq, by unfold scanBound; omega, fun q hq => ?_⟩
        refine ⟨q, ns, rfl, upd_same, ?_⟩
        have r2 := r1.frozen (o := SetL X.prog X.w q ns) hq (fun ps h => by cases h)
        exact h1 R1 _ _ _ (Pl.refl R1) (ex_upd (r1.fnone hq)) r2 (by rw [Rel])
      · exact h1.elim
    · exact h1.elim
  · exact h1.elim
end
end Z
end
end
section
set_option Elab.async false
set_option linter.all false
set_option maxRecDepth 100000
set_option maxHeartbeats 0
noncomputable section
namespace Z
open PySem PySem.Spec PyProof.Rows L2
structure Gd (K : PySem.W.Frag) (mg : Str → Option Value) (base : Heap) : Prop where
  c : SaysZ fal exl fnl K
  tk : TabsK tbl K
  at_ : ∃ h : Heap, K.In h ∧ h.Ns mainGlobals mg
  inB : K.In base
  bt : BaseT (T0.tabs K) mg base
section
variable {K : PySem.W.Frag} {mg : Str → Option Value} {base : Heap}
theorem Gd.glo (g : Gd K mg base) (i : Nat) {x : Str} (h : fal[i]? = some (.glo x) := by rfl) : mg x = some (.ref (He.ga K x)) := let ⟨_, a, b⟩ := g.at_; He.glo_ok a b (g.c.fact i h)
theorem Gd.free (g : Gd K mg base) (i : Nat) {x : Str} (h : fal[i]? = some (.free x) := by rfl) : mg x = none := let ⟨_, a, b⟩ := g.at_; He.free_ok a b (g.c.fact i h)
theorem Gd.int (g : Gd K mg base) (i : Nat) {x : Str} {v : Int} (h : fal[i]? = some (.int x v) := by rfl) : ∃ t, mg x = some (.int v t) := let ⟨_, a, b⟩ := g.at_; He.int_ok a b (g.c.fact i h)
theorem Gd.str (g : Gd K mg base) (i : Nat) {x z : Str} (h : fal[i]? = some (.str x z) := by rfl) : ∃ t, mg x = some (.str z t) := let ⟨_, a, b⟩ := g.at_; He.str_ok a b (g.c.fact i h)
theorem Gd.tb0 (g : Gd K mg base) : TbOk T0 K := tbB_ok (cns := cns) (tb := tbl) (g.c.extra 12 (f := tbB T0 fds okl oxl) rfl)
theorem Gd.ki (g : Gd K mg base) : KiOk T0 I0 K := kiB_ok (g.c.extra 13 (f := kiB T0 I0) rfl)
end
end Z
end
end
section
set_option Elab.async false
set_option linter.all false
set_option maxRecDepth 100000
set_option maxHeartbeats 0
noncomputable section
namespace Z
open PySem PySem.Spec PyProof.Rows L2
def b_is_whole : DS := dRet (dAnd (dApp (isiX I0) (dCons (dVar 0) (dCons (dC (.ty "int")) (dNil)))) (dNot (dApp (isiX I0) (dCons (dVar 0) (dCons (dC (.ty "bool")) (dNil))))))
def d_is_whole : DF := dDef 1 1 b_is_whole
def b_is_name : DS := dSeq (dIfS (dOrT (dNotT (dTru (dApp (isiX I0) (dCons (dVar 0) (dCons (dC (.ty "str")) (dNil)))))) (dOrT (dNotT (dB (dChain leZ leZ (dC (.int 1)) (dApp lenP (dCons (dVar 0) (dNil))) (dC (.int 8))))) (dB (dBin (inD true) (dBin subZ (dVar 0) (dC (.int 0))) (dC (.str "abcdefghijklmnopqrstuvwxyz")))))) (dRet (dC (.bl false))) (dSkip)) (dRet (dApp allP (dCons (dLc [1] (dItD (dVar 0)) (.nm 1) (dYes) (dOr (dBin (inD false) (dVar 1) (dC (.str "abcdefghijklmnopqrstuvwxyz"))) (dBin (inD false) (dVar 1) (dC (.str "0123456789"))))) (dNil))))
def d_is_name : DF := dDef 1 2 b_is_name
def b_are_digits : DS := dRet (dAnd (dApp (isiX I0) (dCons (dVar 0) (dCons (dC (.ty "str")) (dNil)))) (dApp allP (dCons (dLc [2] (dItD (dVar 0)) (.nm 2) (dYes) (dBin (inD false) (dVar 2) (dSli (dC (.str "0123")) (dNone) (dSome (dVar 1))))) (dNil))))
def d_are_digits : DF := dDef 2 3 b_are_digits
def b_is_letter : DS := dRet (dAnd (dFn (clo d_are_digits) (dCons (dVar 0) (dCons (dVar 1) (dNil)))) (dBin (elseP eqZ eqP) (dApp lenP (dCons (dVar 0) (dNil))) (dVar 2)))
def d_is_letter : DF := dDef 3 3 b_is_letter
def b_counted : DS := dSeq (dSet 1 (dDc [2, 3] (dItA enuX (dCons (dAttr T0 5 (dVar 0)) (dNil))) (.tp [.nm 2, .nm 3]) (dYes) (dVar 3) (dVar 2))) (dSeq (dSet 4 (dLc2 [5, 6] [6] (dItD (dAttr T0 3 (dVar 0))) (.nm 5) (dYes) (dItD (dBin subZ (dAttr T0 3 (dVar 0)) (dVar 5))) (.nm 6) (dYes) (dTup (dCons (dBin subZ (dVar 5) (dC (.int 0))) (dCons (dBin subZ (dVar 5) (dC (.int 1))) (dCons (dVar 6) (dCons (dBin subZ (dBin subZ (dAttr T0 3 (dVar 0)) (dVar 5)) (dVar 6)) (dNil)))))))) (dSeq (dSet 7 (dLc [3, 8, 6, 9] (dItD (dVar 4)) (.tp [.nm 3, .nm 8, .nm 6, .nm 9]) (dYes) (dTup (dCons (dBin subZ (dVar 1) (dVar 3)) (dCons (dVar 8) (dCons (dBin subZ (dVar 1) (dVar 6)) (dCons (dVar 9) (dNil)))))))) (dSeq (dSet 10 (dLc [3] (dItD (dAttr T0 5 (dVar 0))) (.nm 3) (dYes) (dIf (dB (dBin (inD false) (dVar 3) (dAttr T0 4 (dVar 0)))) (dBin subZ (dAttr T0 4 (dVar 0)) (dVar 3)) (dC (.int 0))))) (dRet (dTup (dCons (dApp lenP (dCons (dVar 10) (dNil))) (dCons (dBin subZ (dVar 1) (dAttr T0 2 (dVar 0))) (dCons (dVar 7) (dCons (dVar 10) (dNil))))))))))
def d_counted : DF := dDef 1 11 b_counted
def b_gathered : DS := dSeq (dSet 1 (dLc [2, 3] (dItA enuX (dCons (dVar 0) (dNil))) (.tp [.nm 2, .nm 3]) (dYes) (dJs [dFmtS fmt8P (dApp strX (dCons (dBin subZ (dVar 3) (dC (.int 0))) (dNil))), dC (.str " "), dFmt (dBin subZ (dVar 3) (dC (.int 1))), dC (.str " "), dFmtS fmt8P (dApp strX (dCons (dBin subZ (dVar 3) (dC (.int 2))) (dNil))), dC (.str " "), dFmtS fmt7P (dVar 2)] Str.empty))) (dSeq (dSet 4 (dLstM (dNil))) (dSeq (dFor (dItV (dApp srtP (dCons (dLc [5] (dItD (dVar 1)) (.nm 5) (dYes) (dApp strX (dCons (dVar 5) (dNil)))) (dNil)))) (.nm 5) (dSeq (dSet 6 (dBin subZ (dVar 0) (dApp intX (dCons (dSli (dVar 5) (dSome (dUn negP (dC (.int 7)))) (dNone)) (dNil))))) (dIfS (dAndT (dB (dBin (elseP neZ neP) (dVar 4) (dLst (dNil)))) (dB (dBin (elseP eqZ eqP) (dSli (dBin subZ (dVar 4) (dUn negP (dC (.int 1)))) (dNone) (dSome (dC (.int 3)))) (dSli (dVar 6) (dNone) (dSome (dC (.int 3))))))) (dAsg (dTup (dStarD (dSli (dVar 6) (dNone) (dSome (dC (.int 3)))) (dCons (dBin addP (dBin subZ (dBin subZ (dVar 4) (dUn negP (dC (.int 1)))) (dC (.int 3))) (dBin subZ (dVar 6) (dC (.int 3)))) (dNil)))) (gzD (dVar 4) (dUn negP (dC (.int 1))))) (dExpr (dMet "list" appP (dVar 4) (dCons (dVar 6) dNil)))))) (dRet (dLc [6] (dItD (dVar 4)) (.nm 6) (dB (dBin (elseP neZ neP) (dBin subZ (dVar 6) (dC (.int 3))) (dC (.int 0)))) (dVar 6)))))
def d_gathered : DF := dDef 1 7 b_gathered
def b_need_base : DS := dIfS (dOrT (dNotT (dTru (dFn (clo d_is_whole) (dCons (dVar 0) (dNil))))) (dNotT (dB (dChain leZ leZ (dC (.int 2)) (dVar 0) (dC (.int 4)))))) (dRaise 8 [9] (dCons (dVar 0) (dNil))) (dSkip)
def d_need_base : DF := dDef 1 1 b_need_base
def b_need_width : DS := dIfS (dOrT (dNotT (dTru (dFn (clo d_is_whole) (dCons (dVar 0) (dNil))))) (dNotT (dB (dChain leZ leZ (dVar 1) (dVar 0) (dC (.int 3)))))) (dRaise 5 [9] (dCons (dVar 0) (dNil))) (dSkip)
def d_need_width : DF := dDef 2 2 b_need_width
def b_need_name : DS := dIfS (dNotT (dTru (dFn (clo d_is_name) (dCons (dVar 0) (dNil))))) (dRaise 9 [9] (dCons (dVar 0) (dNil))) (dSkip)
def d_need_name : DF := dDef 1 1 b_need_name
def b_is_weights : DS := dRet (dAnd (dApp (isiX I0) (dCons (dVar 0) (dCons (dC (.ty "dict")) (dNil)))) (dApp allP (dCons (dLc [1] (dItD (dVar 0)) (.nm 1) (dYes) (dAnd (dFn (clo d_is_name) (dCons (dVar 1) (dNil))) (dFn (clo d_is_whole) (dCons (dBin subZ (dVar 0) (dVar 1)) (dNil))))) (dNil))))
def d_is_weights : DF := dDef 1 2 b_is_weights
def b_is_key : DS := dSeq (dIfS (dOrT (dNotT (dTru (dApp (isiX I0) (dCons (dVar 0) (dCons (dC (.ty "tuple")) (dNil)))))) (dB (dBin (elseP neZ neP) (dApp lenP (dCons (dVar 0) (dNil))) (dC (.int 2))))) (dRet (dC (.bl false))) (dSkip)) (dRet (dAnd (dFn (clo d_is_name) (dCons (dBin subZ (dVar 0) (dC (.int 0))) (dNil))) (dFn (clo d_is_letter) (dCons (dBin subZ (dVar 0) (dC (.int 1))) (dCons (dVar 1) (dCons (dVar 2) (dNil)))))))
def d_is_key : DF := dDef 3 3 b_is_key
def b_is_steps : DS := dSeq (dIfS (dNotT (dTru (dApp (isiX I0) (dCons (dVar 0) (dCons (dC (.ty "dict")) (dNil)))))) (dRet (dC (.bl false))) (dSkip)) (dRet (dApp allP (dCons (dLc [3] (dItD (dVar 0)) (.nm 3) (dYes) (dAnd (dFn (clo d_is_key) (dCons (dVar 3) (dCons (dVar 1) (dCons (dVar 2) (dNil))))) (dFn (clo d_is_weights) (dCons (dBin subZ (dVar 0) (dVar 3)) (dNil))))) (dNil))))
def d_is_steps : DF := dDef 3 4 b_is_steps
def b_is_step : DS := dSeq (dIfS (dOrT (dNotT (dTru (dApp (isiX I0) (dCons (dVar 0) (dCons (dC (.ty "tuple")) (dNil)))))) (dOrT (dB (dBin (elseP neZ neP) (dApp lenP (dCons (dVar 0) (dNil))) (dC (.int 4)))) (dNotT (dTru (dFn (clo d_is_key) (dCons (dSli (dVar 0) (dNone) (dSome (dC (.int 2)))) (dCons (dVar 1) (dCons (dVar 2) (dNil))))))))) (dRet (dC (.bl false))) (dSkip)) (dRet (dAnd (dFn (clo d_is_whole) (dCons (dBin subZ (dVar 0) (dC (.int 2))) (dNil))) (dFn (clo d_is_name) (dCons (dBin subZ (dVar 0) (dC (.int 3))) (dNil)))))
def d_is_step : DF := dDef 3 3 b_is_step
def b_steps_short : DS := dSeq (dSet 1 (dDc [3] (dItD (dVar 0)) (.nm 3) (dYes) (dVar 3) (dDc [2] (dItD (dBin subZ (dVar 0) (dVar 3))) (.nm 2) (dB (dBin (elseP neZ neP) (dBin subZ (dBin subZ (dVar 0) (dVar 3)) (dVar 2)) (dC (.int 0)))) (dVar 2) (dBin subZ (dBin subZ (dVar 0) (dVar 3)) (dVar 2))))) (dRet (dDc [3] (dItD (dVar 1)) (.nm 3) (dB (dBin (elseP neZ neP) (dBin subZ (dVar 1) (dVar 3)) (dDct0))) (dVar 3) (dBin subZ (dVar 1) (dVar 3))))
def d_steps_short : DF := dDef 1 4 b_steps_short
def b_states_of : DS := dSeq (dSet 3 (dLc2 [4, 5] [5] (dItD (dVar 1)) (.nm 4) (dYes) (dItD (dBin subZ (dVar 1) (dVar 4))) (.nm 5) (dYes) (dVar 5))) (dSeq (dSet 6 (dDc [7] (dItV (dLst (dCons (dVar 0) (dStarA (dLc [4] (dItD (dVar 1)) (.nm 4) (dYes) (dBin subZ (dVar 4) (dC (.int 0)))) (dStarD (dVar 3) (dStarD (dVar 2) (dNil))))))) (.nm 7) (dYes) (dVar 7) (dC (.bl true)))) (dRet (dApp tupP (dCons (dApp srtP (dCons (dLc [7] (dItD (dVar 6)) (.nm 7) (dYes) (dApp strX (dCons (dVar 7) (dNil)))) (dNil))) (dNil)))))
def d_states_of : DF := dDef 3 8 b_states_of
def b_told_steps : DS := dSeq (dSet 1 (dFn (clo d_gathered) (dCons (dLc [2] (dItD (dVar 0)) (.nm 2) (dYes) (dTup (dCons (dBin subZ (dVar 2) (dC (.int 0))) (dCons (dBin subZ (dVar 2) (dC (.int 1))) (dCons (dBin subZ (dVar 2) (dC (.int 3))) (dCons (dBin subZ (dVar 2) (dC (.int 2))) (dNil))))))) (dNil)))) (dSeq (dSet 3 (dApp listD (dCons (dDc [4] (dItD (dVar 1)) (.nm 4) (dYes) (dTup (dCons (dBin subZ (dVar 4) (dC (.int 0))) (dCons (dBin subZ (dVar 4) (dC (.int 1))) (dNil)))) (dC (.bl true))) (dNil)))) (dRet (dDc [5] (dItD (dVar 3)) (.nm 5) (dYes) (dVar 5) (dDc [4] (dItD (dVar 1)) (.nm 4) (dB (dBin (elseP eqZ eqP) (dTup (dCons (dBin subZ (dVar 4) (dC (.int 0))) (dCons (dBin subZ (dVar 4) (dC (.int 1))) (dNil)))) (dVar 5))) (dBin subZ (dVar 4) (dC (.int 2))) (dBin subZ (dVar 4) (dC (.int 3)))))))
def d_told_steps : DF := dDef 1 6 b_told_steps
def b_need_words : DS := dSeq (dIfS (dB (dBin (elseP eqZ eqP) (dVar 1) (dC (.int 0)))) (dRaise 5 [9] (dCons (dC (.int 0)) (dNil))) (dSkip)) (dSeq (dIfS (dOrT (dB (dBin isZ (dVar 2) (dC .non))) (dB (dBin (elseP neZ neP) (dApp lenP (dCons (dVar 2) (dNil))) (dVar 1)))) (dRaise 7 [6] (dCons (dC (.str "width")) (dNil))) (dSkip)) (dSeq (dFor (dItD (dVar 2)) (.nm 3) (dIfS (dOrT (dNotT (dTru (dFn (clo d_are_digits) (dCons (dVar 3) (dCons (dVar 0) (dNil)))))) (dB (dBin gtZ (dApp lenP (dCons (dVar 3) (dNil))) (dC (.int 100))))) (dRaise 6 [9] (dCons (dVar 3) (dNil))) (dSkip))) (dIfS (dTru (dApp anyP (dCons (dLc [3] (dItD (dVar 2)) (.nm 3) (dYes) (dBin (elseP neZ neP) (dApp lenP (dCons (dVar 3) (dNil))) (dApp lenP (dCons (dBin subZ (dVar 2) (dC (.int 0))) (dNil))))) (dNil)))) (dRaise 7 [6] (dCons (dC (.str "length")) (dNil))) (dSkip))))
def d_need_words : DF := dDef 3 4 b_need_words
def b_moved_row : DS := dSeq (dSet 2 (dLcM [3] (dItD (dVar 0)) (.nm 3) (dYes) (dC (.int 0)))) (dSeq (dFor (dItD (dVar 1)) (.tp [.nm 4, .nm 5, .nm 6, .nm 7]) (dAsg (dBin addP (dBin subZ (dVar 2) (dVar 6)) (dBin mulT (dBin subZ (dVar 0) (dVar 4)) (dVar 7))) (gzD (dVar 2) (dVar 6)))) (dRet (dVar 2)))
def d_moved_row : DF := dDef 2 8 b_moved_row
def b_table_value : DS := dSeq (dExpr (dFn (clo d_need_words) (dCons (dAttr T0 0 (dVar 0)) (dCons (dAttr T0 1 (dVar 0)) (dCons (dVar 1) (dNil)))))) (dSeq (dAsg (dFn (clo d_counted) (dCons (dVar 0) (dNil))) (gzT [gzN 2, gzN 3, gzN 4, gzN 5])) (dSeq (dSet 6 (dLc [7] (dItA rngP (dCons (dVar 2) (dNil))) (.nm 7) (dYes) (dApp intX (dCons (dBin (elseP eqZ eqP) (dVar 7) (dVar 3)) (dNil))))) (dSeq (dFor (dItA rngP (dCons (dApp lenP (dCons (dBin subZ (dVar 1) (dC (.int 0))) (dNil))) (dNil))) (.nm 7) (dSeq (dSet 8 (dMet "str" joinP (dC (.str "")) (dCons (dLc [9] (dItD (dVar 1)) (.nm 9) (dYes) (dBin subZ (dVar 9) (dVar 7))) dNil))) (dSet 6 (dFn (clo d_moved_row) (dCons (dVar 6) (dCons (dLc [10] (dItD (dVar 4)) (.nm 10) (dB (dBin (elseP eqZ eqP) (dBin subZ (dVar 10) (dC (.int 1))) (dVar 8))) (dVar 10)) (dNil))))))) (dRet (dApp sumP (dCons (dLc [7] (dItA rngP (dCons (dVar 2) (dNil))) (.nm 7) (dYes) (dBin mulT (dBin subZ (dVar 6) (dVar 7)) (dBin subZ (dVar 5) (dVar 7)))) (dNil)))))))
def d_table_value : DF := dDef 2 11 b_table_value
def b__law_pen : DS := dRet (dLstM (dCons (dApp listD (dCons (dSli (dVar 0) (dNone) (dSome (dC (.int 63)))) (dNil))) (dCons (dC (.int 0)) (dCons (dC (.int 0)) (dNil)))))
def d__law_pen : DF := dDef0 1 1 b__law_pen
def b__law_draw : DS := dSeq (dIfS (dB (dBin gtZ (dBin subZ (dVar 0) (dC (.int 2))) (dC (.int 0)))) (dSeq (dSet 2 (dBin modP (dApp intP (dCons (dBin subZ (dVar 0) (dC (.int 2))) (dNil))) (dVar 1))) (dSeq (dAsg (dBin divP (dApp intP (dCons (dBin subZ (dVar 0) (dC (.int 2))) (dNil))) (dVar 1)) (gzI (dVar 0) (dC (.int 2)))) (dRet (dVar 2)))) (dSkip)) (dSeq (dSet 3 (dBin subZ (dVar 0) (dC (.int 1)))) (dSeq (dAsg (dBin addP (dVar 3) (dC (.int 1))) (gzI (dVar 0) (dC (.int 1)))) (dSeq (dSet 4 (dBin addP (dBin mulZ (dC (.int 56510)) (dVar 3)) (dC (.int 3284)))) (dSeq (dIfS (dB (dBin neZ (dBin subZ (dVar 0) (dC (.int 0))) (dLst (dNil)))) (dSet 4 (dBin subZ (dBin subZ (dVar 0) (dC (.int 0))) (dBin modP (dApp intP (dCons (dVar 3) (dNil))) (dApp lenP (dCons (dBin subZ (dVar 0) (dC (.int 0))) (dNil)))))) (dSkip)) (dSeq (dIfS (dAndT (dB (dBin ltZ (dVar 3) (dApp lenP (dCons (dBin subZ (dVar 0) (dC (.int 0))) (dNil))))) (dB (dBin geZ (dApp absP (dCons (dVar 4) (dNil))) (dBin powP (dC (.int 10)) (dC (.int 18)))))) (dSeq (dSet 5 (dBin addP (dBin mulZ (dC (.int 2)) (dBin subP (dApp absP (dCons (dVar 4) (dNil))) (dBin powP (dC (.int 10)) (dC (.int 18))))) (dApp intP (dCons (dBin ltZ (dVar 4) (dC (.int 0))) (dNil))))) (dSeq (dAsg (dBin divP (dApp intP (dCons (dVar 5) (dNil))) (dVar 1)) (gzI (dVar 0) (dC (.int 2)))) (dRet (dBin modP (dApp intP (dCons (dVar 5) (dNil))) (dVar 1))))) (dSkip)) (dSeq (dSet 6 (dBin modP (dApp intP (dCons (dBin powP (dBin addP (dBin addP (dBin modP (dApp intP (dCons (dVar 4) (dNil))) (dC (.int 2147483549))) (dBin mulZ (dC (.int 45164)) (dVar 3))) (dC (.int 3010))) (dC (.int 5))) (dNil))) (dC (.int 2147483647)))) (dSeq (dSet 6 (dBin modP (dApp intP (dCons (dBin powP (dBin addP (dBin addP (dBin mulZ (dVar 6) (dBin addP (dBin mulZ (dC (.int 2)) (dVar 3)) (dC (.int 815)))) (dBin mulZ (dBin mulZ (dC (.int 53678)) (dVar 3)) (dVar 3))) (dC (.int 554))) (dC (.int 3))) (dNil))) (dC (.int 2147483563)))) (dRet (dBin modP (dApp intP (dCons (dBin divP (dVar 6) (dC (.int 32))) (dNil))) (dVar 1))))))))))
def d__law_draw : DF := dDef 2 7 b__law_draw
def b__law_pick : DS := dRet (dBin subZ (dVar 1) (dFn d__law_draw (dCons (dVar 0) (dCons (dApp lenP (dCons (dVar 1) (dNil))) (dNil)))))
def d__law_pick : DF := dDef 2 2 b__law_pick
def b_Table___getitem__ : DS := dSeq (dIfS (dTru (dApp (isiX I0) (dCons (dVar 1) (dCons (dC (.ty "str")) (dNil))))) (dRet (dFn (clo d_table_value) (dCons (dVar 0) (dCons (dTup (dCons (dVar 1) (dNil))) (dNil))))) (dSkip)) (dSeq (dIfS (dNotT (dTru (dApp (isiX I0) (dCons (dVar 1) (dCons (dC (.ty "tuple")) (dNil)))))) (dExpr (dFn (clo d_need_words) (dCons (dAttr T0 0 (dVar 0)) (dCons (dAttr T0 1 (dVar 0)) (dCons (dC .non) (dNil)))))) (dSkip)) (dRet (dFn (clo d_table_value) (dCons (dVar 0) (dCons (dVar 1) (dNil))))))
def d_Table___getitem__ : DF := dDef 2 2 b_Table___getitem__
def b__law_heard (x0 : PV) (tl : Sto → Out PV) : DS := dSeq (dAsg (dTup (dCons (dC .non) (dCons (dC .non) (dNil)))) (gzT [gzN 1, gzN 2])) (dSeq (dTryAs (fun c => exm0.lookup c) 3 (dSet 2 (dCallT x0 0 tl)) (dSet 1 (dVar 3))) (dSeq (dKeep [1, 2, 3, 4]) (dSeq (dIfS (dB (dBin isZ (dVar 1) (dC .non))) (dRet (dLst (dCons (dVar 2) (dNil)))) (dSkip)) (dSeq (dSet 4 (dLstM (dNil))) (dSeq (dIfS (dTru (dApp (isiX I0) (dCons (dVar 1) (dCons (dC (.cls 3)) (dNil))))) (dExpr (dMet "list" appP (dVar 4) (dCons (dTup (dCons (dC (.str "BadNumber")) (dCons (dApp reprG (dCons (dAttrE T0 9 (dVar 1)) (dNil))) (dNil)))) dNil))) (dSkip)) (dSeq (dIfS (dTru (dApp (isiX I0) (dCons (dVar 1) (dCons (dC (.cls 5)) (dNil))))) (dExpr (dMet "list" appP (dVar 4) (dCons (dTup (dCons (dC (.str "BadWidth")) (dCons (dApp reprG (dCons (dAttrE T0 9 (dVar 1)) (dNil))) (dNil)))) dNil))) (dSkip)) (dSeq (dIfS (dTru (dApp (isiX I0) (dCons (dVar 1) (dCons (dC (.cls 6)) (dNil))))) (dExpr (dMet "list" appP (dVar 4) (dCons (dTup (dCons (dC (.str "BadWord")) (dCons (dApp reprG (dCons (dAttrE T0 9 (dVar 1)) (dNil))) (dNil)))) dNil))) (dSkip)) (dSeq (dIfS (dTru (dApp (isiX I0) (dCons (dVar 1) (dCons (dC (.cls 7)) (dNil))))) (dExpr (dMet "list" appP (dVar 4) (dCons (dTup (dCons (dC (.str "Unlike")) (dCons (dAttrE T0 6 (dVar 1)) (dNil)))) dNil))) (dSkip)) (dRet (dIf (dAndT (dB (dBin (elseP eqZ eqP) (dApp lenP (dCons (dVar 4) (dNil))) (dC (.int 1)))) (dTru (dApp (isiX I0) (dCons (dVar 1) (dCons (dC (.ty "ValueError")) (dNil)))))) (dBin subZ (dVar 4) (dC (.int 0))) (dTup (dCons (dC (.str "odd")) (dNil)))))))))))))
theorem irrR__law_heard (R : DS) (x0 : PV) (tl : Sto → Out PV) (S : Sto) : dDef 1 5 (dSeq (dAsg (dTup (dCons (dC .non) (dCons (dC .non) (dNil)))) (gzT [gzN 1, gzN 2])) (dSeq (dTryAs (fun c => exm0.lookup c) 3 (dSet 2 (dCallT x0 0 tl)) (dSet 1 (dVar 3))) (dSeq (dKeep [1, 2, 3, 4]) R))) [x0] S = dDef 1 5 (dSeq (dAsg (dTup (dCons (dC .non) (dCons (dC .non) (dNil)))) (gzT [gzN 1, gzN 2])) (dSeq (dTryAs (fun c => exm0.lookup c) 3 (dSet 2 (dCallT .non 0 tl)) (dSet 1 (dVar 3))) (dSeq (dKeep [1, 2, 3, 4]) R))) [.non] S := by
  refine dDef_out _ _ _ _ _ _ _ rfl rfl ?_
  cases hq : tl S with
  | ok v S1 => simp [dSeq, dSet_ap, dC_ap, dTryAs, dExpr_ap, callT_0, hq, dKeep, keepL, OutS.seq, Out.st, Out.bind, defOut, dAsg, dTup, mkNd, gzT, gzN]
  | err e S1 => cases h2 : exm0.lookup e.c with
    | none => simp [dSeq, dSet_ap, dC_ap, dTryAs, dExpr_ap, callT_0, hq, h2, dKeep, keepL, OutS.seq, Out.st, Out.bind, defOut, goneO, dAsg, dTup, mkNd, gzT, gzN]
    | some bb => cases bb <;> simp [dSeq, dSet_ap, dC_ap, dVar, dTryAs, dExpr_ap, callT_0, hq, h2, dKeep, keepL, OutS.seq, Out.st, Out.bind, defOut, goneO, dAsg, dTup, mkNd, gzT, gzN]
  | bad => simp [dSeq, dSet_ap, dC_ap, dTryAs, dExpr_ap, callT_0, hq, dKeep, keepL, OutS.seq, Out.st, Out.bind, defOut, dAsg, dTup, mkNd, gzT, gzN]
theorem irr__law_heard (x0 : PV) (tl : Sto → Out PV) (S : Sto) : dDef 1 5 (b__law_heard x0 tl) [x0] S = dDef 1 5 (b__law_heard .non tl) [.non] S := irrR__law_heard ((dSeq (dIfS (dB (dBin isZ (dVar 1) (dC .non))) (dRet (dLst (dCons (dVar 2) (dNil)))) (dSkip)) (dSeq (dSet 4 (dLstM (dNil))) (dSeq (dIfS (dTru (dApp (isiX I0) (dCons (dVar 1) (dCons (dC (.cls 3)) (dNil))))) (dExpr (dMet "list" appP (dVar 4) (dCons (dTup (dCons (dC (.str "BadNumber")) (dCons (dApp reprG (dCons (dAttrE T0 9 (dVar 1)) (dNil))) (dNil)))) dNil))) (dSkip)) (dSeq (dIfS (dTru (dApp (isiX I0) (dCons (dVar 1) (dCons (dC (.cls 5)) (dNil))))) (dExpr (dMet "list" appP (dVar 4) (dCons (dTup (dCons (dC (.str "BadWidth")) (dCons (dApp reprG (dCons (dAttrE T0 9 (dVar 1)) (dNil))) (dNil)))) dNil))) (dSkip)) (dSeq (dIfS (dTru (dApp (isiX I0) (dCons (dVar 1) (dCons (dC (.cls 6)) (dNil))))) (dExpr (dMet "list" appP (dVar 4) (dCons (dTup (dCons (dC (.str "BadWord")) (dCons (dApp reprG (dCons (dAttrE T0 9 (dVar 1)) (dNil))) (dNil)))) dNil))) (dSkip)) (dSeq (dIfS (dTru (dApp (isiX I0) (dCons (dVar 1) (dCons (dC (.cls 7)) (dNil))))) (dExpr (dMet "list" appP (dVar 4) (dCons (dTup (dCons (dC (.str "Unlike")) (dCons (dAttrE T0 6 (dVar 1)) (dNil)))) dNil))) (dSkip)) (dRet (dIf (dAndT (dB (dBin (elseP eqZ eqP) (dApp lenP (dCons (dVar 4) (dNil))) (dC (.int 1)))) (dTru (dApp (isiX I0) (dCons (dVar 1) (dCons (dC (.ty "ValueError")) (dNil)))))) (dBin subZ (dVar 4) (dC (.int 0))) (dTup (dCons (dC (.str "odd")) (dNil)))))))))))) x0 tl S
def b__law_due : DS := dSeq (dIfS (dB (dBin (elseP eqZ eqP) (dVar 1) (dC (.int 0)))) (dRet (dTup (dCons (dC (.str "BadWidth")) (dCons (dC (.str "0")) (dNil))))) (dSkip)) (dSeq (dIfS (dB (dBin (elseP neZ neP) (dApp lenP (dCons (dVar 2) (dNil))) (dVar 1))) (dRet (dTup (dCons (dC (.str "Unlike")) (dCons (dC (.str "width")) (dNil))))) (dSkip)) (dSeq (dFor (dItD (dVar 2)) (.nm 3) (dIfS (dOrT (dNotT (dTru (dApp (isiX I0) (dCons (dVar 3) (dCons (dC (.ty "str")) (dNil)))))) (dOrT (dB (dBin gtZ (dApp lenP (dCons (dVar 3) (dNil))) (dC (.int 100)))) (dB (dBin (elseP neZ neP) (dLc [4] (dItD (dVar 3)) (.nm 4) (dB (dBin (inD true) (dVar 4) (dSli (dC (.str "0123")) (dNone) (dSome (dVar 0))))) (dVar 4)) (dLst (dNil)))))) (dRet (dTup (dCons (dC (.str "BadWord")) (dCons (dApp reprG (dCons (dVar 3) (dNil))) (dNil))))) (dSkip))) (dRet (dIf (dB (dBin gtZ (dApp lenSetP (dCons (dLc [3] (dItD (dVar 2)) (.nm 3) (dYes) (dApp lenP (dCons (dVar 3) (dNil)))) dNil)) (dC (.int 1)))) (dTup (dCons (dC (.str "Unlike")) (dCons (dC (.str "length")) (dNil)))) (dC .non)))))
def d__law_due : DF := dDef 3 5 b__law_due
def b_Table_tell : DS := dRet (dFn (clo d_table_value) (dCons (dVar 0) (dCons (dVar 1) (dNil))))
def d_Table_tell : DF := dDef 2 2 b_Table_tell
def b__law_called : DS := dSeq (dIfS (dB (dBin (elseP eqZ eqP) (dApp lenP (dCons (dVar 1) (dNil))) (dC (.int 0)))) (dRet (dLamK (fun x0 tl S => dDef 1 5 (b__law_heard x0 tl) [x0] S) (dMeth T0 0 (clo (dStar 1 d_Table_tell)) (dVar 0) dNil))) (dSkip)) (dSeq (dIfS (dB (dBin (elseP eqZ eqP) (dApp lenP (dCons (dVar 1) (dNil))) (dC (.int 1)))) (dRet (dLamK (fun x0 tl S => dDef 1 5 (b__law_heard x0 tl) [x0] S) (dMeth T0 0 (clo (dStar 1 d_Table_tell)) (dVar 0) (dCons (dBin subZ (dVar 1) (dC (.int 0))) (dNil))))) (dSkip)) (dSeq (dIfS (dB (dBin (elseP eqZ eqP) (dApp lenP (dCons (dVar 1) (dNil))) (dC (.int 2)))) (dRet (dLamK (fun x0 tl S => dDef 1 5 (b__law_heard x0 tl) [x0] S) (dMeth T0 0 (clo (dStar 1 d_Table_tell)) (dVar 0) (dCons (dBin subZ (dVar 1) (dC (.int 0))) (dCons (dBin subZ (dVar 1) (dC (.int 1))) (dNil)))))) (dSkip)) (dSeq (dIfS (dB (dBin (elseP eqZ eqP) (dApp lenP (dCons (dVar 1) (dNil))) (dC (.int 3)))) (dRet (dLamK (fun x0 tl S => dDef 1 5 (b__law_heard x0 tl) [x0] S) (dMeth T0 0 (clo (dStar 1 d_Table_tell)) (dVar 0) (dCons (dBin subZ (dVar 1) (dC (.int 0))) (dCons (dBin subZ (dVar 1) (dC (.int 1))) (dCons (dBin subZ (dVar 1) (dC (.int 2))) (dNil))))))) (dSkip)) (dRet (dLamK (fun x0 tl S => dDef 1 5 (b__law_heard x0 tl) [x0] S) (dMeth T0 0 (clo (dStar 1 d_Table_tell)) (dVar 0) (dCons (dBin subZ (dVar 1) (dC (.int 0))) (dCons (dBin subZ (dVar 1) (dC (.int 1))) (dCons (dBin subZ (dVar 1) (dC (.int 2))) (dCons (dBin subZ (dVar 1) (dC (.int 3))) (dNil)))))))))))
def d__law_called : DF := dDef 2 2 b__law_called
def b_Table___init__ : DS := dSeq (dExpr (dFn (clo d_need_base) (dCons (dVar 1) (dNil)))) (dSeq (dExpr (dFn (clo d_need_width) (dCons (dVar 2) (dCons (dC (.int 0)) (dNil))))) (dSeq (dExpr (dFn (clo d_need_name) (dCons (dVar 3) (dNil)))) (dSeq (dIfS (dNotT (dTru (dFn (clo d_is_steps) (dCons (dVar 4) (dCons (dVar 1) (dCons (dVar 2) (dNil))))))) (dRaise 1 [6] (dCons (dC (.str "steps")) (dNil))) (dSkip)) (dSeq (dIfS (dNotT (dTru (dFn (clo d_is_weights) (dCons (dVar 5) (dNil))))) (dRaise 1 [6] (dCons (dC (.str "ends")) (dNil))) (dSkip)) (dSeq (dPutA T0 0 (dVar 0) (dVar 1)) (dSeq (dPutA T0 1 (dVar 0) (dVar 2)) (dSeq (dPutA T0 2 (dVar 0) (dVar 3)) (dSeq (dPutA T0 3 (dVar 0) (dFn (clo d_steps_short) (dCons (dVar 4) (dNil)))) (dSeq (dPutA T0 4 (dVar 0) (dDc [6] (dItD (dVar 5)) (.nm 6) (dB (dBin (elseP neZ neP) (dBin subZ (dVar 5) (dVar 6)) (dC (.int 0)))) (dVar 6) (dBin subZ (dVar 5) (dVar 6)))) (dSeq (dPutA T0 5 (dVar 0) (dFn (clo d_states_of) (dCons (dVar 3) (dCons (dAttr T0 3 (dVar 0)) (dCons (dAttr T0 4 (dVar 0)) (dNil)))))) (dSeq (dIfS (dB (dBin gtZ (dApp lenP (dCons (dAttr T0 5 (dVar 0)) (dNil))) (dC (.int 40)))) (dRaise 2 [7, 8] (dCons (dC (.str "states")) (dCons (dC (.int 40)) (dNil)))) (dSkip)) (dIfS (dB (dBin gtZ (dApp sumP (dCons (dLc [7] (dItD (dAttr T0 3 (dVar 0))) (.nm 7) (dYes) (dApp lenP (dCons (dBin subZ (dAttr T0 3 (dVar 0)) (dVar 7)) (dNil)))) (dNil))) (dC (.int 2000)))) (dRaise 2 [7, 8] (dCons (dC (.str "steps")) (dCons (dC (.int 2000)) (dNil)))) (dSkip)))))))))))))
def d_Table___init__ : DF := dDef 6 8 b_Table___init__
def b_Table_of : DS := dSeq (dExpr (dFn (clo d_need_base) (dCons (dVar 0) (dNil)))) (dSeq (dExpr (dFn (clo d_need_width) (dCons (dVar 1) (dCons (dC (.int 0)) (dNil))))) (dSeq (dExpr (dFn (clo d_need_name) (dCons (dVar 2) (dNil)))) (dSeq (dIfS (dNotT (dTru (dApp allP (dCons (dLc [5] (dItD (dVar 3)) (.nm 5) (dYes) (dFn (clo d_is_step) (dCons (dVar 5) (dCons (dVar 0) (dCons (dVar 1) (dNil)))))) (dNil))))) (dRaise 1 [6] (dCons (dC (.str "step")) (dNil))) (dSkip)) (dSeq (dIfS (dNotT (dTru (dFn (clo d_is_weights) (dCons (dVar 4) (dNil))))) (dRaise 1 [6] (dCons (dC (.str "ends")) (dNil))) (dSkip)) (dRet (dApp (clo (newF 0 d_Table___init__)) (dCons (dVar 0) (dCons (dVar 1) (dCons (dVar 2) (dCons (dFn (clo d_told_steps) (dCons (dVar 3) (dNil))) (dCons (dVar 4) (dNil))))))))))))
def d_Table_of : DF := dDef 5 6 b_Table_of
def b_Table_total : DS := dSeq (dIfS (dOrT (dNotT (dTru (dFn (clo d_is_whole) (dCons (dVar 1) (dNil))))) (dNotT (dB (dChain leZ leZ (dC (.int 0)) (dVar 1) (dC (.int 100)))))) (dRaise 3 [9] (dCons (dVar 1) (dNil))) (dSkip)) (dSeq (dAsg (dFn (clo d_counted) (dCons (dVar 0) (dNil))) (gzT [gzN 2, gzN 3, gzN 4, gzN 5])) (dSeq (dSet 6 (dLc [7] (dItA rngP (dCons (dVar 2) (dNil))) (.nm 7) (dYes) (dApp intX (dCons (dBin (elseP eqZ eqP) (dVar 7) (dVar 3)) (dNil))))) (dSeq (dFor (dItA rngP (dCons (dVar 1) (dNil))) (.nm 8) (dSet 6 (dFn (clo d_moved_row) (dCons (dVar 6) (dCons (dVar 4) (dNil)))))) (dRet (dApp sumP (dCons (dLc [7] (dItA rngP (dCons (dVar 2) (dNil))) (.nm 7) (dYes) (dBin mulT (dBin subZ (dVar 6) (dVar 7)) (dBin subZ (dVar 5) (dVar 7)))) (dNil)))))))
def d_Table_total : DF := dDef 2 9 b_Table_total
def b_law : DS := dSeq (dSet 1 (dFn d__law_pen (dCons (dVar 0) (dNil)))) (dSeq (dKeep [1]) (dSeq (dFor (dItA rngP (dCons (dC (.int 14)) (dNil))) (.nm 2) (dShS (dSeq (dPar 3 4 (dCons (dBin addP (dC (.int 2)) (dFn d__law_draw (dCons (dVar 1) (dCons (dC (.int 3)) (dNil))))) (dCons (dFn d__law_draw (dCons (dVar 1) (dCons (dC (.int 4)) (dNil)))) (dNil)))) (dSeq (dKeep [1, 3, 4]) (dSeq (dSet 5 (dFnK (cloK (dStarK 3 ["s"] d_Table_of)) (dCons (dVar 3) (dCons (dVar 4) (dCons (dC (.str "s")) (dCons (dTup (dCons (dC (.str "s")) (dCons (dBin mulT (dC (.str "0")) (dVar 4)) (dCons (dC (.int 2)) (dCons (dC (.str "s")) (dNil)))))) (dNil))))) (dCons (dC (.int 3)) (dNil)))) (dSeq (dSet 6 (dLst (dCons (dC .non) (dCons (dC (.int 0)) (dCons (dC (.bl true)) (dCons (dTup (dCons (dC (.str "0")) (dNil))) (dCons (dLst (dCons (dC (.str "0")) (dNil))) (dCons (dDct0) (dCons (dC (.str "4")) (dCons (dSli (dC (.str "02")) (dNone) (dSome (dVar 3))) (dCons (dC (.str "x")) (dCons (dBin mulT (dC (.str "0")) (dC (.int 101))) (dCons (dC (.str "0 ")) (dCons (dC (.str "")) (dCons (dC (.str "01")) (dCons (dBin mulT (dC (.str "1")) (dC (.int 100))) (dCons (dC (.str "00")) (dCons (dC (.str "1")) (dNil))))))))))))))))))) (dSeq (dSet 7 (dFn d__law_pick (dCons (dVar 1) (dCons (dLst (dCons (dVar 4) (dCons (dVar 4) (dCons (dVar 4) (dCons (dC (.int 0)) (dCons (dC (.int 1)) (dCons (dC (.int 2)) (dCons (dC (.int 4)) (dNil))))))))) (dNil))))) (dSeq (dSet 8 (dApp tupP (dCons (dLc [9] (dItA rngP (dCons (dVar 7) (dNil))) (.nm 9) (dYes) (dFn d__law_pick (dCons (dVar 1) (dCons (dBin addP (dVar 6) (dLst (dCons (dC (.str "0")) (dCons (dC (.str "1")) (dCons (dC (.str "01")) (dCons (dC (.str "10")) (dNil))))))) (dNil))))) (dNil)))) (dSeq (dSet 10 (dFn (clo d__law_due) (dCons (dVar 3) (dCons (dVar 4) (dCons (dVar 8) (dNil)))))) (dSeq (dFor (dItV (dLst (dCons (dFn (clo d__law_called) (dCons (dVar 5) (dCons (dVar 8) (dNil)))) (dCons (dLamK (fun x0 tl S => dDef 1 5 (b__law_heard x0 tl) [x0] S) (dEi (dBin subZ (dVar 5) (dVar 8)) (dSubO 0 (clo d_Table___getitem__) (dVar 5) (dVar 8)))) (dNil))))) (.nm 11) (dShS (dSeq (dIfS (dOrT (dAndT (dB (dBin isZ (dVar 10) (dC .non))) (dNotT (dTru (dApp (isiX I0) (dCons (dVar 11) (dCons (dC (.ty "list")) (dNil))))))) (dAndT (dB (dBin isntZ (dVar 10) (dC .non))) (dB (dBin (elseP neZ neP) (dVar 11) (dVar 10))))) (dRet (dC (.bl false))) (dSkip)) (dSeq (dKeep [1, 3, 4, 5, 10, 11]) dSkip)))) (dSeq (dKeep [1, 3, 4, 5]) (dSeq (dSet 12 (dFn d__law_pick (dCons (dVar 1) (dCons (dLst (dCons (dC .non) (dCons (dC (.int 0)) (dCons (dLst (dCons (dC (.str "0")) (dNil))) (dCons (dDct0) (dCons (dC (.bl true)) (dCons (dBin powP (dC (.int 10)) (dC (.int 30))) (dCons (dVar 5) (dNil))))))))) (dNil))))) (dSeq (dIfS (dB (dBin (elseP neZ neP) (dLamK (fun x0 tl S => dDef 1 5 (b__law_heard x0 tl) [x0] S) (dEi (dBin subZ (dVar 5) (dVar 12)) (dSubO 0 (clo d_Table___getitem__) (dVar 5) (dVar 12)))) (dIf (dB (dBin gtZ (dVar 4) (dC (.int 0)))) (dTup (dCons (dC (.str "Unlike")) (dCons (dC (.str "width")) (dNil)))) (dTup (dCons (dC (.str "BadWidth")) (dCons (dC (.str "0")) (dNil))))))) (dRet (dC (.bl false))) (dSkip)) (dSeq (dKeep [1, 3, 4, 5]) (dSeq (dPar 11 13 (dCons (dLamK (fun x0 tl S => dDef 1 5 (b__law_heard x0 tl) [x0] S) (dEi (dBin subZ (dVar 5) (dC (.str "0"))) (dSubO 0 (clo d_Table___getitem__) (dVar 5) (dC (.str "0"))))) (dCons (dFn (clo d__law_due) (dCons (dVar 3) (dCons (dVar 4) (dCons (dTup (dCons (dC (.str "0")) (dNil))) (dNil))))) (dNil)))) (dSeq (dIfS (dOrT (dAndT (dB (dBin isZ (dVar 13) (dC .non))) (dNotT (dTru (dApp (isiX I0) (dCons (dVar 11) (dCons (dC (.ty "list")) (dNil))))))) (dAndT (dB (dBin isntZ (dVar 13) (dC .non))) (dB (dBin (elseP neZ neP) (dVar 11) (dVar 13))))) (dRet (dC (.bl false))) (dSkip)) (dSeq (dKeep [1, 5]) (dSeq (dSet 6 (dFn d__law_pick (dCons (dVar 1) (dCons (dLst (dCons (dC .non) (dCons (dUn negP (dC (.int 1))) (dCons (dC (.int 101)) (dCons (dC (.bl true)) (dCons (dC (.str "1")) (dCons (dTup (dCons (dC (.int 1)) (dNil))) (dCons (dLst (dNil)) (dCons (dBin powP (dC (.int 10)) (dC (.int 30))) (dNil)))))))))) (dNil))))) (dSeq (dIfS (dB (dBin (elseP neZ neP) (dLamK (fun x0 tl S => dDef 1 5 (b__law_heard x0 tl) [x0] S) (dMeth T0 0 (clo d_Table_total) (dVar 5) (dCons (dVar 6) (dNil)))) (dTup (dCons (dC (.str "BadNumber")) (dCons (dApp reprG (dCons (dVar 6) (dNil))) (dNil)))))) (dRet (dC (.bl false))) (dSkip)) (dSeq (dKeep [1, 5]) (dSeq (dIfS (dB (dBin (elseP neZ neP) (dMeth T0 0 (clo d_Table_total) (dVar 5) (dCons (dC (.int 100)) (dNil))) (dBin mulT (dBin mulT (dC (.int 3)) (dBin powP (dC (.int 2)) (dC (.int 64)))) (dBin powP (dC (.int 2)) (dC (.int 36)))))) (dRet (dC (.bl false))) (dSkip)) (dSeq (dKeep [1]) dSkip)))))))))))))))))))))) (dSeq (dKeep []) (dRet (dC (.bl true))))))
def d_law : DF := dDef 1 14 b_law
end Z
end
end
section
set_option Elab.async false
set_option linter.all false
set_option maxRecDepth 100000
set_option maxHeartbeats 0
noncomputable section
namespace Z
open PySem PySem.Spec PyProof.Rows L2
theorem dr : DrOk d__law_draw := dr_of (k1 := 56510) (k2 := 3284) (m1 := 2147483549) (k3 := 45164) (k4 := 3010) (m2 := 2147483647) (k5 := 815) (k6 := 53678) (k7 := 554) (m3 := 2147483563) ⟨by decide, by decide⟩ ⟨by decide, by decide⟩ ⟨by decide, by decide⟩ ⟨by decide, by decide⟩ ⟨by decide, by decide⟩ ⟨by decide, by decide⟩ ⟨by decide, by decide⟩ ⟨by decide, by decide⟩ ⟨by decide, by decide⟩
def p0 : DS := dSet 1 (dFn d__law_pen (dCons (dVar 0) (dNil)))
def p1 : DS := dKeep [1]
def q2_0 : DS := dPar 3 4 (dCons (dBin addP (dC (.int 2)) (dFn d__law_draw (dCons (dVar 1) (dCons (dC (.int 3)) (dNil))))) (dCons (dFn d__law_draw (dCons (dVar 1) (dCons (dC (.int 4)) (dNil)))) (dNil)))
def q2_1 : DS := dKeep [1, 3, 4]
def q2_2 : DS := dSet 5 (dFnK (cloK (dStarK 3 ["s"] d_Table_of)) (dCons (dVar 3) (dCons (dVar 4) (dCons (dC (.str "s")) (dCons (dTup (dCons (dC (.str "s")) (dCons (dBin mulT (dC (.str "0")) (dVar 4)) (dCons (dC (.int 2)) (dCons (dC (.str "s")) (dNil)))))) (dNil))))) (dCons (dC (.int 3)) (dNil)))
def q2_3 : DS := dSet 6 (dLst (dCons (dC .non) (dCons (dC (.int 0)) (dCons (dC (.bl true)) (dCons (dTup (dCons (dC (.str "0")) (dNil))) (dCons (dLst (dCons (dC (.str "0")) (dNil))) (dCons (dDct0) (dCons (dC (.str "4")) (dCons (dSli (dC (.str "02")) (dNone) (dSome (dVar 3))) (dCons (dC (.str "x")) (dCons (dBin mulT (dC (.str "0")) (dC (.int 101))) (dCons (dC (.str "0 ")) (dCons (dC (.str "")) (dCons (dC (.str "01")) (dCons (dBin mulT (dC (.str "1")) (dC (.int 100))) (dCons (dC (.str "00")) (dCons (dC (.str "1")) (dNil))))))))))))))))))
def q2_4 : DS := dSet 7 (dFn d__law_pick (dCons (dVar 1) (dCons (dLst (dCons (dVar 4) (dCons (dVar 4) (dCons (dVar 4) (dCons (dC (.int 0)) (dCons (dC (.int 1)) (dCons (dC (.int 2)) (dCons (dC (.int 4)) (dNil))))))))) (dNil))))
def q2_5 : DS := dSet 8 (dApp tupP (dCons (dLc [9] (dItA rngP (dCons (dVar 7) (dNil))) (.nm 9) (dYes) (dFn d__law_pick (dCons (dVar 1) (dCons (dBin addP (dVar 6) (dLst (dCons (dC (.str "0")) (dCons (dC (.str "1")) (dCons (dC (.str "01")) (dCons (dC (.str "10")) (dNil))))))) (dNil))))) (dNil)))
def q2_6 : DS := dSet 10 (dFn (clo d__law_due) (dCons (dVar 3) (dCons (dVar 4) (dCons (dVar 8) (dNil)))))
def q2_7 : DS := dFor (dItV (dLst (dCons (dFn (clo d__law_called) (dCons (dVar 5) (dCons (dVar 8) (dNil)))) (dCons (dLamK (fun x0 tl S => dDef 1 5 (b__law_heard x0 tl) [x0] S) (dEi (dBin subZ (dVar 5) (dVar 8)) (dSubO 0 (clo d_Table___getitem__) (dVar 5) (dVar 8)))) (dNil))))) (.nm 11) (dShS (dSeq (dIfS (dOrT (dAndT (dB (dBin isZ (dVar 10) (dC .non))) (dNotT (dTru (dApp (isiX I0) (dCons (dVar 11) (dCons (dC (.ty "list")) (dNil))))))) (dAndT (dB (dBin isntZ (dVar 10) (dC .non))) (dB (dBin (elseP neZ neP) (dVar 11) (dVar 10))))) (dRet (dC (.bl false))) (dSkip)) (dSeq (dKeep [1, 3, 4, 5, 10, 11]) dSkip)))
def q2_8 : DS := dKeep [1, 3, 4, 5]
def q2_9 : DS := dSet 12 (dFn d__law_pick (dCons (dVar 1) (dCons (dLst (dCons (dC .non) (dCons (dC (.int 0)) (dCons (dLst (dCons (dC (.str "0")) (dNil))) (dCons (dDct0) (dCons (dC (.bl true)) (dCons (dBin powP (dC (.int 10)) (dC (.int 30))) (dCons (dVar 5) (dNil))))))))) (dNil))))
def q2_10 : DS := dIfS (dB (dBin (elseP neZ neP) (dLamK (fun x0 tl S => dDef 1 5 (b__law_heard x0 tl) [x0] S) (dEi (dBin subZ (dVar 5) (dVar 12)) (dSubO 0 (clo d_Table___getitem__) (dVar 5) (dVar 12)))) (dIf (dB (dBin gtZ (dVar 4) (dC (.int 0)))) (dTup (dCons (dC (.str "Unlike")) (dCons (dC (.str "width")) (dNil)))) (dTup (dCons (dC (.str "BadWidth")) (dCons (dC (.str "0")) (dNil))))))) (dRet (dC (.bl false))) (dSkip)
def q2_11 : DS := dKeep [1, 3, 4, 5]
def q2_12 : DS := dPar 11 13 (dCons (dLamK (fun x0 tl S => dDef 1 5 (b__law_heard x0 tl) [x0] S) (dEi (dBin subZ (dVar 5) (dC (.str "0"))) (dSubO 0 (clo d_Table___getitem__) (dVar 5) (dC (.str "0"))))) (dCons (dFn (clo d__law_due) (dCons (dVar 3) (dCons (dVar 4) (dCons (dTup (dCons (dC (.str "0")) (dNil))) (dNil))))) (dNil)))
def q2_13 : DS := dIfS (dOrT (dAndT (dB (dBin isZ (dVar 13) (dC .non))) (dNotT (dTru (dApp (isiX I0) (dCons (dVar 11) (dCons (dC (.ty "list")) (dNil))))))) (dAndT (dB (dBin isntZ (dVar 13) (dC .non))) (dB (dBin (elseP neZ neP) (dVar 11) (dVar 13))))) (dRet (dC (.bl false))) (dSkip)
def q2_14 : DS := dKeep [1, 5]
def q2_15 : DS := dSet 6 (dFn d__law_pick (dCons (dVar 1) (dCons (dLst (dCons (dC .non) (dCons (dUn negP (dC (.int 1))) (dCons (dC (.int 101)) (dCons (dC (.bl true)) (dCons (dC (.str "1")) (dCons (dTup (dCons (dC (.int 1)) (dNil))) (dCons (dLst (dNil)) (dCons (dBin powP (dC (.int 10)) (dC (.int 30))) (dNil)))))))))) (dNil))))
def q2_16 : DS := dIfS (dB (dBin (elseP neZ neP) (dLamK (fun x0 tl S => dDef 1 5 (b__law_heard x0 tl) [x0] S) (dMeth T0 0 (clo d_Table_total) (dVar 5) (dCons (dVar 6) (dNil)))) (dTup (dCons (dC (.str "BadNumber")) (dCons (dApp reprG (dCons (dVar 6) (dNil))) (dNil)))))) (dRet (dC (.bl false))) (dSkip)
def q2_17 : DS := dKeep [1, 5]
def q2_18 : DS := dIfS (dB (dBin (elseP neZ neP) (dMeth T0 0 (clo d_Table_total) (dVar 5) (dCons (dC (.int 100)) (dNil))) (dBin mulT (dBin mulT (dC (.int 3)) (dBin powP (dC (.int 2)) (dC (.int 64)))) (dBin powP (dC (.int 2)) (dC (.int 36)))))) (dRet (dC (.bl false))) (dSkip)
def q2_19 : DS := dKeep [1]
def i2 : DI := dItA rngP (dCons (dC (.int 14)) (dNil))
def B2 : DS := dSeqs [q2_0, q2_1, q2_2, q2_3, q2_4, q2_5, q2_6, q2_7, q2_8, q2_9, q2_10, q2_11, q2_12, q2_13, q2_14, q2_15, q2_16, q2_17, q2_18, q2_19]
-- For: target (.nm 2)
def p3 : DS := dKeep []
def p4 : DS := dRet (dC (.bl true))
theorem law_eq : b_law = dSeq p0 (dSeq p1 (dSeq (dFor i2 (.nm 2) (dShS B2)) (dSeq p3 (p4)))) := rfl
def ODD : List PV := [.non, .int 0, .bl true, .nd .tup [.str "0"], .nd .lst [.str "0"], .nd (.dct false []) [], .str "4", .str "02", .str "x", .str "00000000000000000000000000000000000000000000000000000000000000000000000000000000000000000000000000000", .str "0 ", .str "", .str "01", .str "1111111111111111111111111111111111111111111111111111111111111111111111111111111111111111111111111111", .str "00", .str "1"]
def OPTS : List PV := ODD ++ [.str "0", .str "1", .str "01", .str "10"]
def G2 : List PV := [.str "", .str "01", .str "1111111111111111111111111111111111111111111111111111111111111111111111111111111111111111111111111111", .str "00", .str "1", .str "0", .str "10"]
def G3 : List PV := [.str "02", .str "", .str "01", .str "1111111111111111111111111111111111111111111111111111111111111111111111111111111111111111111111111111", .str "00", .str "1", .str "0", .str "10"]
def X2 : List PV := [.non, .int 0, .bl true, .nd .tup [.str "0"], .nd .lst [.str "0"], .nd (.dct false []) [], .str "4", .str "x", .str "00000000000000000000000000000000000000000000000000000000000000000000000000000000000000000000000000000", .str "0 ", .str "02"]
def X3 : List PV := [.non, .int 0, .bl true, .nd .tup [.str "0"], .nd .lst [.str "0"], .nd (.dct false []) [], .str "4", .str "x", .str "00000000000000000000000000000000000000000000000000000000000000000000000000000000000000000000000000000", .str "0 "]
def GD (b : Int) : List PV := if b = 2 then G2 else G3
def XD (b : Int) : List PV := if b = 2 then X2 else X3
def lw : Nat → PV
  | 0 => .str ""
  | 1 => .str "0"
  | 2 => .str "00"
  | _ => .str "000"
def lk : Nat → Key
  | 0 => .inr ""
  | 1 => .inr "0"
  | 2 => .inr "00"
  | _ => .inr "000"
def TB (b : Int) (w : Nat) : PV := .nd (.ins 0 [0, 1, 2, 3, 4, 5]) [.int b, .int (w : Int), .str "s", .nd (.dct true [.t [.inr "s", lk w]]) [.nd (.dct false [.k (.inr "s")]) [.int 2]], .nd (.dct false [.k (.inr "s")]) [.int 3], .nd .tup [.str "s"]]
def Ba (b : Int) : Prop := b = 2 ∨ b = 3 ∨ b = 4
def Wd (w : Nat) : Prop := w = 0 ∨ w = 1 ∨ w = 2 ∨ w = 3
theorem tb_eq {b : Int} (hb : Ba b) {w : Nat} (hw : Wd w) (x : Option PV) : ∀ cs a lf, q2_2 [none, some (.ref 0), none, some (.int b), some (.int (w : Int)), none, none, none, none, none, none, none, none, none] [pn cs a lf] = .nx [none, some (.ref 0), none, some (.int b), some (.int (w : Int)), some (TB b w), none, none, none, none, none, none, none, none] [pn cs a lf] := by
  intro cs a lf
  rcases hb with rfl | rfl | rfl <;> (rcases hw with rfl | rfl | rfl | rfl <;> kernel_rfl)
theorem od_eq {b : Int} (hb : Ba b) (w : Int) (t : PV) : ∀ cs a lf, q2_3 [none, some (.ref 0), none, some (.int b), some (.int w), some t, none, none, none, none, none, none, none, none] [pn cs a lf] = .nx [none, some (.ref 0), none, some (.int b), some (.int w), some t, some (.nd .lst ODD), none, none, none, none, none, none, none] [pn cs a lf] := by
  intro cs a lf
  rcases hb with rfl | rfl | rfl <;> kernel_rfl
def bN : DS := (dIfS (dOrT (dNotT (dTru (dFn (clo d_are_digits) (dCons (dVar 3) (dCons (dVar 0) (dNil)))))) (dB (dBin gtZ (dApp lenP (dCons (dVar 3) (dNil))) (dC (.int 100))))) (dRaise 6 [9] (dCons (dVar 3) (dNil))) (dSkip))
def bD : DS := (dIfS (dOrT (dNotT (dTru (dApp (isiX I0) (dCons (dVar 3) (dCons (dC (.ty "str")) (dNil)))))) (dOrT (dB (dBin gtZ (dApp lenP (dCons (dVar 3) (dNil))) (dC (.int 100)))) (dB (dBin (elseP neZ neP) (dLc [4] (dItD (dVar 3)) (.nm 4) (dB (dBin (inD true) (dVar 4) (dSli (dC (.str "0123")) (dNone) (dSome (dVar 0))))) (dVar 4)) (dLst (dNil)))))) (dRet (dTup (dCons (dC (.str "BadWord")) (dCons (dApp reprG (dCons (dVar 3) (dNil))) (dNil))))) (dSkip))
def XW (x : PV) : XV := ⟨6, [9], [x]⟩
def XZ : XV := ⟨5, [9], [.int 0]⟩
def XU : XV := ⟨7, [6], [.str "width"]⟩
def XL : XV := ⟨7, [6], [.str "length"]⟩
def rp (x : PV) : PV := match reprG [x] [] with
  | .ok v _ => v
  | _ => .non
def due : XV → PV
  | ⟨5, _, _⟩ => .nd .tup [.str "BadWidth", .str "0"]
  | ⟨7, _, xs⟩ => .nd .tup (.str "Unlike" :: xs)
  | ⟨_, _, [x]⟩ => .nd .tup [.str "BadWord", rp x]
  | _ => .non
theorem nb_good {b : Int} (hb : Ba b) {x : PV} (hx : x ∈ GD b) (t1 t2 : PV) : bN [some (.int b), some t1, some t2, some x] [] = .nx [some (.int b), some t1, some t2, some x] [] := by
  rcases hb with rfl | rfl | rfl
  · have hx : x ∈ G2 := hx
    simp only [G2, List.mem_cons, List.not_mem_nil, or_false] at hx
    rcases hx with h | h | h | h | h | h | h <;> (subst h; kernel_rfl)
  · have hx : x ∈ G3 := hx
    simp only [G3, List.mem_cons, List.not_mem_nil, or_false] at hx
    rcases hx with h | h | h | h | h | h | h | h <;> (subst h; kernel_rfl)
  · have hx : x ∈ G3 := hx
    simp only [G3, List.mem_cons, List.not_mem_nil, or_false] at hx
    rcases hx with h | h | h | h | h | h | h | h <;> (subst h; kernel_rfl)
theorem nb_bad {b : Int} (hb : Ba b) {x : PV} (hx : x ∈ XD b) (t1 t2 : PV) : bN [some (.int b), some t1, some t2, some x] [] = .err (XW x) [some (.int b), some t1, some t2, some x] [] := by
  rcases hb with rfl | rfl | rfl
  · have hx : x ∈ X2 := hx
    simp only [X2, List.mem_cons, List.not_mem_nil, or_false] at hx
    rcases hx with h | h | h | h | h | h | h | h | h | h | h <;> (subst h; kernel_rfl)
  · have hx : x ∈ X3 := hx
    simp only [X3, List.mem_cons, List.not_mem_nil, or_false] at hx
    rcases hx with h | h | h | h | h | h | h | h | h | h <;> (subst h; kernel_rfl)
  · have hx : x ∈ X3 := hx
    simp only [X3, List.mem_cons, List.not_mem_nil, or_false] at hx
    rcases hx with h | h | h | h | h | h | h | h | h | h <;> (subst h; kernel_rfl)
theorem db_good {b : Int} (hb : Ba b) {x : PV} (hx : x ∈ GD b) (t1 t2 : PV) : bD [some (.int b), some t1, some t2, some x, none] [] = .nx [some (.int b), some t1, some t2, some x, none] [] := by
  rcases hb with rfl | rfl | rfl
  · have hx : x ∈ G2 := hx
    simp only [G2, List.mem_cons, List.not_mem_nil, or_false] at hx
    rcases hx with h | h | h | h | h | h | h <;> (subst h; kernel_rfl)
  · have hx : x ∈ G3 := hx
    simp only [G3, List.mem_cons, List.not_mem_nil, or_false] at hx
    rcases hx with h | h | h | h | h | h | h | h <;> (subst h; kernel_rfl)
  · have hx : x ∈ G3 := hx
    simp only [G3, List.mem_cons, List.not_mem_nil, or_false] at hx
    rcases hx with h | h | h | h | h | h | h | h <;> (subst h; kernel_rfl)
theorem db_bad {b : Int} (hb : Ba b) {x : PV} (hx : x ∈ XD b) (t1 t2 : PV) : bD [some (.int b), some t1, some t2, some x, none] [] = .ret (due (XW x)) [] := by
  rcases hb with rfl | rfl | rfl
  · have hx : x ∈ X2 := hx
    simp only [X2, List.mem_cons, List.not_mem_nil, or_false] at hx
    rcases hx with h | h | h | h | h | h | h | h | h | h | h <;> (subst h; kernel_rfl)
  · have hx : x ∈ X3 := hx
    simp only [X3, List.mem_cons, List.not_mem_nil, or_false] at hx
    rcases hx with h | h | h | h | h | h | h | h | h | h <;> (subst h; kernel_rfl)
  · have hx : x ∈ X3 := hx
    simp only [X3, List.mem_cons, List.not_mem_nil, or_false] at hx
    rcases hx with h | h | h | h | h | h | h | h | h | h <;> (subst h; kernel_rfl)
theorem opts_split {b : Int} (hb : Ba b) {x : PV} (hx : x ∈ OPTS) : x ∈ GD b ∨ x ∈ XD b := by
  have k : ∀ g e : List PV, (OPTS.all fun y => g.any (pvEq y) || e.any (pvEq y)) = true → x ∈ g ∨ x ∈ e := fun g e h => by
    have h2 := List.all_eq_true.mp h x hx
    rcases Bool.or_eq_true_iff.mp h2 with q | q
    · obtain ⟨y, hy, q⟩ := List.any_eq_true.mp q
      exact .inl ((pvEq_eq x y).mp q ▸ hy)
    · obtain ⟨y, hy, q⟩ := List.any_eq_true.mp q
      exact .inr ((pvEq_eq x y).mp q ▸ hy)
  rcases hb with rfl | rfl | rfl
  · exact k G2 X2 (by kernel_rfl)
  · exact k G3 X3 (by kernel_rfl)
  · exact k G3 X3 (by kernel_rfl)
end Z
end
end
section
set_option Elab.async false
set_option linter.all false
set_option maxRecDepth 100000
set_option maxHeartbeats 0
noncomputable section
namespace Z
open PySem PySem.Spec PyProof.Rows L2
theorem clo_err {f : List PV → Sto → Out PV} {xs : List PV} {S : Sto} {e : XV} (h1 : fitsL 0 xs = true) (h2 : S.all Option.isSome = true) (h : f xs [] = .err e []) : clo f xs S = .err e S := by
  unfold clo
  rw [if_pos (by rw [h1, h2]; rfl), h]
/-! the first bad word -/
theorem split_bad {b : Int} (hb : Ba b) : ∀ ws : List PV, (∀ x ∈ ws, x ∈ OPTS) → (∀ x ∈ ws, x ∈ GD b) ∨ ∃ pre x post, ws = pre ++ x :: post ∧ (∀ y ∈ pre, y ∈ GD b) ∧ x ∈ XD b
  | [], _ => .inl fun x hx => nomatch hx
  | y :: ws, h => by
    rcases opts_split hb (h y List.mem_cons_self) with q | q
    · rcases split_bad hb ws fun x hx => h x (List.mem_cons_of_mem _ hx) with g | ⟨pre, x, post, e, g, hx⟩
      · exact .inl fun x hx => (List.mem_cons.mp hx).elim (fun e => e ▸ q) (g x)
      · exact .inr ⟨y :: pre, x, post, by rw [e]; rfl, fun z hz => (List.mem_cons.mp hz).elim (fun e => e ▸ q) (g z), hx⟩
    · exact .inr ⟨[], y, ws, rfl, fun z hz => (nomatch hz), q⟩
theorem nw_loop {b : Int} (hb : Ba b) {x : PV} (hx : x ∈ XD b) (post : List PV) (t1 t2 : PV) : ∀ (pre : List PV) (o : Option PV), (∀ y ∈ pre, y ∈ GD b) →
    ∃ l', forZ (.nm 3) [] bN (pre ++ x :: post) [some (.int b), some t1, some t2, o] [] = .err (XW x) l' []
  | [], o, _ => by
    refine ⟨[some (.int b), some t1, some t2, some x], ?_⟩
    show (match bN [some (.int b), some t1, some t2, some x] [] with
      | .nx l1 S1 => if heldB [] S1 = true then forZ (.nm 3) [] bN post l1 S1 else .bad
      | .cnt l1 S1 => if heldB [] S1 = true then forZ (.nm 3) [] bN post l1 S1 else .bad
      | .brk l1 S1 => .nx l1 S1
      | o => o) = _
    rw [nb_bad hb hx t1 t2]
  | y :: pre, o, h => by
    obtain ⟨l', e⟩ := nw_loop hb hx post t1 t2 pre (some y) fun z hz => h z (List.mem_cons_of_mem _ hz)
    refine ⟨l', ?_⟩
    show (match bN [some (.int b), some t1, some t2, some y] [] with
      | .nx l1 S1 => if heldB [] S1 = true then forZ (.nm 3) [] bN (pre ++ x :: post) l1 S1 else .bad
      | .cnt l1 S1 => if heldB [] S1 = true then forZ (.nm 3) [] bN (pre ++ x :: post) l1 S1 else .bad
      | .brk l1 S1 => .nx l1 S1
      | o => o) = _
    rw [nb_good hb (h y List.mem_cons_self) t1 t2]
    simp only [heldB_nil, if_true]
    exact e
theorem du_loop {b : Int} (hb : Ba b) {x : PV} (hx : x ∈ XD b) (post : List PV) (t1 t2 : PV) : ∀ (pre : List PV) (o : Option PV), (∀ y ∈ pre, y ∈ GD b) →
    forZ (.nm 3) [] bD (pre ++ x :: post) [some (.int b), some t1, some t2, o, none] [] = .ret (due (XW x)) []
  | [], o, _ => by
    show (match bD [some (.int b), some t1, some t2, some x, none] [] with
      | .nx l1 S1 => if heldB [] S1 = true then forZ (.nm 3) [] bD post l1 S1 else .bad
      | .cnt l1 S1 => if heldB [] S1 = true then forZ (.nm 3) [] bD post l1 S1 else .bad
      | .brk l1 S1 => .nx l1 S1
      | o => o) = _
    rw [db_bad hb hx t1 t2]
  | y :: pre, o, h => by
    have e := du_loop hb hx post t1 t2 pre (some y) fun z hz => h z (List.mem_cons_of_mem _ hz)
    show (match bD [some (.int b), some t1, some t2, some y, none] [] with
      | .nx l1 S1 => if heldB [] S1 = true then forZ (.nm 3) [] bD (pre ++ x :: post) l1 S1 else .bad
      | .cnt l1 S1 => if heldB [] S1 = true then forZ (.nm 3) [] bD (pre ++ x :: post) l1 S1 else .bad
      | .brk l1 S1 => .nx l1 S1
      | o => o) = _
    rw [db_good hb (h y List.mem_cons_self) t1 t2]
    simp only [heldB_nil, if_true]
    exact e
/-! need_words and _law_due, by the parts -/
def w0 : DS := dIfS (dB (dBin (elseP eqZ eqP) (dVar 1) (dC (.int 0)))) (dRaise 5 [9] (dCons (dC (.int 0)) (dNil))) (dSkip)
def w1 : DS := dIfS (dOrT (dB (dBin isZ (dVar 2) (dC .non))) (dB (dBin (elseP neZ neP) (dApp lenP (dCons (dVar 2) (dNil))) (dVar 1)))) (dRaise 7 [6] (dCons (dC (.str "width")) (dNil))) (dSkip)
def w3 : DS := dIfS (dTru (dApp anyP (dCons (dLc [3] (dItD (dVar 2)) (.nm 3) (dYes) (dBin (elseP neZ neP) (dApp lenP (dCons (dVar 3) (dNil))) (dApp lenP (dCons (dBin subZ (dVar 2) (dC (.int 0))) (dNil))))) (dNil)))) (dRaise 7 [6] (dCons (dC (.str "length")) (dNil))) (dSkip)
theorem nw_eq : b_need_words = dSeq w0 (dSeq w1 (dSeq (dFor (dItD (dVar 2)) (.nm 3) bN) w3)) := rfl
def u0 : DS := dIfS (dB (dBin (elseP eqZ eqP) (dVar 1) (dC (.int 0)))) (dRet (dTup (dCons (dC (.str "BadWidth")) (dCons (dC (.str "0")) (dNil))))) (dSkip)
def u1 : DS := dIfS (dB (dBin (elseP neZ neP) (dApp lenP (dCons (dVar 2) (dNil))) (dVar 1))) (dRet (dTup (dCons (dC (.str "Unlike")) (dCons (dC (.str "width")) (dNil))))) (dSkip)
def u3 : DS := dRet (dIf (dB (dBin gtZ (dApp lenSetP (dCons (dLc [3] (dItD (dVar 2)) (.nm 3) (dYes) (dApp lenP (dCons (dVar 3) (dNil)))) dNil)) (dC (.int 1)))) (dTup (dCons (dC (.str "Unlike")) (dCons (dC (.str "length")) (dNil)))) (dC .non))
theorem du_eq : b__law_due = dSeq u0 (dSeq u1 (dSeq (dFor (dItD (dVar 2)) (.nm 3) bD) u3)) := rfl
theorem len13 {ws : List PV} {w : Nat} (hl : ws.length = w) (hw : Wd w) (h0 : w ≠ 0) : (w = 1 ∧ ∃ x, ws = [x]) ∨ (w = 2 ∧ ∃ x y, ws = [x, y]) ∨ (w = 3 ∧ ∃ x y z, ws = [x, y, z]) := by
  rcases hw with rfl | rfl | rfl | rfl
  · exact absurd rfl h0
  · match ws, hl with
    | [x], _ => exact .inl ⟨rfl, x, rfl⟩
  · match ws, hl with
    | [x, y], _ => exact .inr (.inl ⟨rfl, x, y, rfl⟩)
  · match ws, hl with
    | [x, y, z], _ => exact .inr (.inr ⟨rfl, x, y, z, rfl⟩)
def l3 (b : Int) (w : Nat) (ws : List PV) : Loc := [some (.int b), some (.int (w : Int)), some (.nd .tup ws), none]
def l4 (b : Int) (w : Nat) (ws : List PV) : Loc := [some (.int b), some (.int (w : Int)), some (.nd .tup ws), none, none]
theorem heads {b : Int} {w : Nat} (hw : Wd w) (h0 : w ≠ 0) {ws : List PV} (hl : ws.length = w) :
    w0 (l3 b w ws) [] = .nx (l3 b w ws) [] ∧ w1 (l3 b w ws) [] = .nx (l3 b w ws) [] ∧ u0 (l4 b w ws) [] = .nx (l4 b w ws) [] ∧ u1 (l4 b w ws) [] = .nx (l4 b w ws) [] ∧
    dItD (dVar 2) (l3 b w ws) [] = .ok ⟨ws, []⟩ [] ∧ dItD (dVar 2) (l4 b w ws) [] = .ok ⟨ws, []⟩ [] := by
  rcases len13 hl hw h0 with ⟨rfl, x, rfl⟩ | ⟨rfl, x, y, rfl⟩ | ⟨rfl, x, y, z, rfl⟩ <;> refine ⟨?_, ?_, ?_, ?_, ?_, ?_⟩ <;> kernel_rfl
theorem nw_bad {b : Int} (hb : Ba b) {w : Nat} (hw : Wd w) (h0 : w ≠ 0) {pre post : List PV} {x : PV} (hl : (pre ++ x :: post).length = w) (hp : ∀ y ∈ pre, y ∈ GD b) (hx : x ∈ XD b) :
    d_need_words [.int b, .int (w : Int), .nd .tup (pre ++ x :: post)] [] = .err (XW x) [] := by
  obtain ⟨h1, h2, _, _, h5, _⟩ := heads (b := b) hw h0 hl
  obtain ⟨l', e⟩ := nw_loop hb hx post (.int (w : Int)) (.nd .tup (pre ++ x :: post)) pre none hp
  refine dDef_err (l1 := l') rfl ?_ (Nat.le_refl _)
  show b_need_words (l3 b w (pre ++ x :: post)) [] = _
  rw [nw_eq, dSeq_ap, h1, seq_nx, dSeq_ap, h2, seq_nx, dSeq_ap, dFor_eq h5 (heldB_nil _)]
  show (forZ (.nm 3) [] bN (pre ++ x :: post) (l3 b w (pre ++ x :: post)) []).seq _ = _
  unfold l3
  rw [e]
  rfl
theorem du_bad {b : Int} (hb : Ba b) {w : Nat} (hw : Wd w) (h0 : w ≠ 0) {pre post : List PV} {x : PV} (hl : (pre ++ x :: post).length = w) (hp : ∀ y ∈ pre, y ∈ GD b) (hx : x ∈ XD b) :
    d__law_due [.int b, .int (w : Int), .nd .tup (pre ++ x :: post)] [] = .ok (due (XW x)) [] := by
  obtain ⟨_, _, h1, h2, _, h5⟩ := heads (b := b) hw h0 hl
  have e := du_loop hb hx post (.int (w : Int)) (.nd .tup (pre ++ x :: post)) pre none hp
  refine dDef_ret _ _ rfl ?_ (Nat.le_refl _)
  show b__law_due (l4 b w (pre ++ x :: post)) [] = _
  rw [du_eq, dSeq_ap, h1, seq_nx, dSeq_ap, h2, seq_nx, dSeq_ap, dFor_eq h5 (heldB_nil _)]
  show (forZ (.nm 3) [] bD (pre ++ x :: post) (l4 b w (pre ++ x :: post)) []).seq _ = _
  unfold l4
  rw [e]
  rfl
theorem nw_zero (b : Int) (t : PV) : d_need_words [.int b, .int 0, t] [] = .err XZ [] := by kernel_rfl
theorem du_zero (b : Int) (t : PV) : d__law_due [.int b, .int 0, t] [] = .ok (due XZ) [] := by kernel_rfl
theorem unlike {b : Int} {w : Nat} (hw : Wd w) (h0 : w ≠ 0) {ws : List PV} (hl : ws.length ≤ 4) (hn : ws.length ≠ w) :
    d_need_words [.int b, .int (w : Int), .nd .tup ws] [] = .err XU [] ∧ d__law_due [.int b, .int (w : Int), .nd .tup ws] [] = .ok (due XU) [] := by
  match ws, hl with
  | [], _ => rcases hw with rfl | rfl | rfl | rfl <;> first | (exact absurd rfl h0) | (exact absurd rfl hn) | (constructor <;> kernel_rfl)
  | [_], _ => rcases hw with rfl | rfl | rfl | rfl <;> first | (exact absurd rfl h0) | (exact absurd rfl hn) | (constructor <;> kernel_rfl)
  | [_, _], _ => rcases hw with rfl | rfl | rfl | rfl <;> first | (exact absurd rfl h0) | (exact absurd rfl hn) | (constructor <;> kernel_rfl)
  | [_, _, _], _ => rcases hw with rfl | rfl | rfl | rfl <;> first | (exact absurd rfl h0) | (exact absurd rfl hn) | (constructor <;> kernel_rfl)
  | [_, _, _, _], _ => rcases hw with rfl | rfl | rfl | rfl <;> first | (exact absurd rfl h0) | (exact absurd rfl hn) | (constructor <;> kernel_rfl)
  | _ :: _ :: _ :: _ :: _ :: _, hl => simp at hl
/-! all words good: tried one by one -/
def tups (g : List PV) : Nat → List (List PV)
  | 0 => [[]]
  | k + 1 => g.flatMap fun x => (tups g k).map (x :: ·)
theorem mem_tups {g : List PV} : ∀ (k : Nat) (ws : List PV), ws.length = k → (∀ x ∈ ws, x ∈ g) → ws ∈ tups g k
  | 0, [], _, _ => List.mem_cons_self
  | k + 1, x :: ws, hl, h => List.mem_flatMap.mpr ⟨x, h x List.mem_cons_self, List.mem_map.mpr ⟨ws, mem_tups k ws (by simpa using hl) fun y hy => h y (List.mem_cons_of_mem _ hy), rfl⟩⟩
def chk (b : Int) (w : Nat) (ws : List PV) : Bool := match d_table_value [TB b w, .nd .tup ws] [], d__law_due [.int b, .int (w : Int), .nd .tup ws] [] with
  | .err ⟨7, [6], xs⟩ [], .ok d [] => pvEqL xs [.str "length"] && pvEq d (due XL)
  | .ok (.int _) [], .ok .non [] => true
  | _, _ => false
end Z
end
end
section
set_option Elab.async false
set_option linter.all false
set_option maxRecDepth 100000
set_option maxHeartbeats 0
noncomputable section
namespace Z
open PySem PySem.Spec PyProof.Rows L2
theorem chk21 : ((tups G2 1).all (chk 2 1)) = true := by kernel_rfl
theorem chk22 : ((tups G2 2).all (chk 2 2)) = true := by kernel_rfl
theorem chk31 : ((tups G3 1).all (chk 3 1)) = true := by kernel_rfl
theorem chk32 : ((tups G3 2).all (chk 3 2)) = true := by kernel_rfl
theorem chk41 : ((tups G3 1).all (chk 4 1)) = true := by kernel_rfl
theorem chk42 : ((tups G3 2).all (chk 4 2)) = true := by kernel_rfl
end Z
end
end
section
set_option Elab.async false
set_option linter.all false
set_option maxRecDepth 100000
set_option maxHeartbeats 0
noncomputable section
namespace Z
open PySem PySem.Spec PyProof.Rows L2
theorem all_tups (f : List PV → Bool) (g : List PV) (k : Nat) : (tups g (k + 1)).all f = g.all fun x => (tups g k).all fun t => f (x :: t) := by
  show (g.flatMap fun x => (tups g k).map (x :: ·)).all f = _
  rw [List.all_flatMap]
  congr 1
  funext x
  rw [List.all_map]
  rfl
theorem c2_0 : ((tups G2 2).all fun t => chk 2 3 ((.str "") :: t)) = true := by kernel_rfl
theorem c2_1 : ((tups G2 2).all fun t => chk 2 3 ((.str "01") :: t)) = true := by kernel_rfl
theorem c2_2 : ((tups G2 2).all fun t => chk 2 3 ((.str "1111111111111111111111111111111111111111111111111111111111111111111111111111111111111111111111111111") :: t)) = true := by kernel_rfl
theorem c2_3 : ((tups G2 2).all fun t => chk 2 3 ((.str "00") :: t)) = true := by kernel_rfl
theorem c2_4 : ((tups G2 2).all fun t => chk 2 3 ((.str "1") :: t)) = true := by kernel_rfl
theorem c2_5 : ((tups G2 2).all fun t => chk 2 3 ((.str "0") :: t)) = true := by kernel_rfl
theorem c2_6 : ((tups G2 2).all fun t => chk 2 3 ((.str "10") :: t)) = true := by kernel_rfl
theorem chk23 : ((tups G2 3).all (chk 2 3)) = true := by
  rw [all_tups, List.all_eq_true]
  intro x hx
  simp only [G2, List.mem_cons, List.not_mem_nil, or_false] at hx
  rcases hx with h | h | h | h | h | h | h
  · subst h; exact c2_0
  · subst h; exact c2_1
  · subst h; exact c2_2
  · subst h; exact c2_3
  · subst h; exact c2_4
  · subst h; exact c2_5
  · subst h; exact c2_6
theorem c3_0 : ((tups G3 2).all fun t => chk 3 3 ((.str "02") :: t)) = true := by kernel_rfl
theorem c3_1 : ((tups G3 2).all fun t => chk 3 3 ((.str "") :: t)) = true := by kernel_rfl
theorem c3_2 : ((tups G3 2).all fun t => chk 3 3 ((.str "01") :: t)) = true := by kernel_rfl
theorem c3_3 : ((tups G3 2).all fun t => chk 3 3 ((.str "1111111111111111111111111111111111111111111111111111111111111111111111111111111111111111111111111111") :: t)) = true := by kernel_rfl
theorem c3_4 : ((tups G3 2).all fun t => chk 3 3 ((.str "00") :: t)) = true := by kernel_rfl
theorem c3_5 : ((tups G3 2).all fun t => chk 3 3 ((.str "1") :: t)) = true := by kernel_rfl
theorem c3_6 : ((tups G3 2).all fun t => chk 3 3 ((.str "0") :: t)) = true := by kernel_rfl
theorem c3_7 : ((tups G3 2).all fun t => chk 3 3 ((.str "10") :: t)) = true := by kernel_rfl
theorem chk33 : ((tups G3 3).all (chk 3 3)) = true := by
  rw [all_tups, List.all_eq_true]
  intro x hx
  simp only [G3, List.mem_cons, List.not_mem_nil, or_false] at hx
  rcases hx with h | h | h | h | h | h | h | h
  · subst h; exact c3_0
  · subst h; exact c3_1
  · subst h; exact c3_2
  · subst h; exact c3_3
  · subst h; exact c3_4
  · subst h; exact c3_5
  · subst h; exact c3_6
  · subst h; exact c3_7
theorem c4_0 : ((tups G3 2).all fun t => chk 4 3 ((.str "02") :: t)) = true := by kernel_rfl
theorem c4_1 : ((tups G3 2).all fun t => chk 4 3 ((.str "") :: t)) = true := by kernel_rfl
theorem c4_2 : ((tups G3 2).all fun t => chk 4 3 ((.str "01") :: t)) = true := by kernel_rfl
theorem c4_3 : ((tups G3 2).all fun t => chk 4 3 ((.str "1111111111111111111111111111111111111111111111111111111111111111111111111111111111111111111111111111") :: t)) = true := by kernel_rfl
theorem c4_4 : ((tups G3 2).all fun t => chk 4 3 ((.str "00") :: t)) = true := by kernel_rfl
theorem c4_5 : ((tups G3 2).all fun t => chk 4 3 ((.str "1") :: t)) = true := by kernel_rfl
theorem c4_6 : ((tups G3 2).all fun t => chk 4 3 ((.str "0") :: t)) = true := by kernel_rfl
theorem c4_7 : ((tups G3 2).all fun t => chk 4 3 ((.str "10") :: t)) = true := by kernel_rfl
theorem chk43 : ((tups G3 3).all (chk 4 3)) = true := by
  rw [all_tups, List.all_eq_true]
  intro x hx
  simp only [G3, List.mem_cons, List.not_mem_nil, or_false] at hx
  rcases hx with h | h | h | h | h | h | h | h
  · subst h; exact c4_0
  · subst h; exact c4_1
  · subst h; exact c4_2
  · subst h; exact c4_3
  · subst h; exact c4_4
  · subst h; exact c4_5
  · subst h; exact c4_6
  · subst h; exact c4_7
end Z
end
end
section
set_option Elab.async false
set_option linter.all false
set_option maxRecDepth 100000
set_option maxHeartbeats 0
noncomputable section
namespace Z
open PySem PySem.Spec PyProof.Rows L2
theorem heard_cong {tl tl' : Sto → Out PV} {S : Sto} (h : tl S = tl' S) : dDef 1 5 (b__law_heard .non tl) [.non] S = dDef 1 5 (b__law_heard .non tl') [.non] S := by
  have e : (dSet 2 (dCallT .non 0 tl)) [some .non, some .non, some .non, none, none] S = (dSet 2 (dCallT .non 0 tl')) [some .non, some .non, some .non, none, none] S := by
    simp only [dSet_ap, callT_0, h]
  have k : b__law_heard .non tl [some .non, none, none, none, none] S = b__law_heard .non tl' [some .non, none, none, none, none] S := by
    unfold b__law_heard
    rw [dSeq_ap, dSeq_ap]
    have a : ∀ R : DS, ((dAsg (dTup (dCons (dC .non) (dCons (dC .non) (dNil)))) (gzT [gzN 1, gzN 2])) [some .non, none, none, none, none] S).seq R = R [some .non, some .non, some .non, none, none] S := fun _ => rfl
    rw [a, a, dSeq_ap, dSeq_ap]
    unfold dTryAs
    rw [e]
  refine dDef_out _ _ _ _ _ _ _ rfl rfl ?_
  exact congrArg defOut k
/-- an outcome that looks at no place -/
def Shape (R : Sto → Out PV) : Prop := (∃ e, R = fun S => .err e S) ∨ (∃ v, R = fun S => .ok v S)
theorem clo_R {R : Sto → Out PV} (hR : Shape R) {f : List PV → Sto → Out PV} {xs : List PV} {S : Sto} (h1 : fitsL 0 xs = true) (h2 : S.all Option.isSome = true) (h : f xs [] = R []) : clo f xs S = R S := by
  rcases hR with ⟨e, rfl⟩ | ⟨v, rfl⟩
  · exact clo_err h1 h2 h
  · exact clo_eq h1 h2 h
theorem ret_R {R : Sto → Out PV} (hR : Shape R) {n m : Nat} {a : DE} {xs : List PV} (hn : xs.length = n) (h : a (xs.map some ++ List.replicate (m - n) none) [] = R []) : dDef n m (dRet a) xs [] = R [] := by
  rcases hR with ⟨e, rfl⟩ | ⟨v, rfl⟩
  · refine dDef_err hn ?_ (Nat.le_refl _) (l1 := xs.map some ++ List.replicate (m - n) none)
    show (a _ []).st _ _ = _
    rw [h]
    rfl
  · refine dDef_ret _ _ hn ?_ (Nat.le_refl _)
    show (a _ []).st _ _ = _
    rw [h]
    rfl
structure Fit (R : Sto → Out PV) (C K : PV) : Prop where
  shape : Shape R
  h0 : dDef 1 5 (b__law_heard .non R) [.non] [] = .ok C []
  h1 : ∀ cs a lf, dDef 1 5 (b__law_heard .non R) [.non] [pn cs a lf] = .ok C [pn cs a lf]
  fits : fits 0 C = true
  fin : ∀ (b w t y m ws : PV) cs a lf, (dFor (dItV (dLst (dCons (dC C) (dCons (dC C) (dNil))))) (.nm 11) (dShS (dSeq (dIfS (dOrT (dAndT (dB (dBin isZ (dVar 10) (dC .non))) (dNotT (dTru (dApp (isiX I0) (dCons (dVar 11) (dCons (dC (.ty "list")) (dNil))))))) (dAndT (dB (dBin isntZ (dVar 10) (dC .non))) (dB (dBin (elseP neZ neP) (dVar 11) (dVar 10))))) (dRet (dC (.bl false))) (dSkip)) (dSeq (dKeep [1, 3, 4, 5, 10, 11]) dSkip)))) [none, some (.ref 0), none, some b, some w, some t, some y, some m, some ws, none, some K, none, none, none] [pn cs a lf] = .nx [none, some (.ref 0), none, some b, some w, some t, none, none, none, none, some K, some C, none, none] [pn cs a lf]
theorem tb_fits {b : Int} (hb : Ba b) {w : Nat} (hw : Wd w) : fits 0 (TB b w) = true := by
  rcases hb with rfl | rfl | rfl <;> (rcases hw with rfl | rfl | rfl | rfl <;> kernel_rfl)
theorem opt_fits : ∀ x ∈ OPTS, fits 0 x = true := by
  have h : OPTS.all (fits 0) = true := by kernel_rfl
  exact List.all_eq_true.mp h
theorem opts_fit : ∀ ws : List PV, (∀ x ∈ ws, x ∈ OPTS) → fitsL 0 ws = true
  | [], _ => by simp [fitsL]
  | x :: ws, h => by
    rw [fitsL, opt_fits x (h x List.mem_cons_self), opts_fit ws fun y hy => h y (List.mem_cons_of_mem _ hy)]
    rfl
section
variable {R : Sto → Out PV} {C K : PV} {b : Int} {w : Nat} {ws : List PV}
theorem fits_tup (h : fitsL 0 ws = true) : fits 0 (.nd .tup ws) = true := by rw [fits]; exact h
theorem fits_tt (hb : Ba b) (hw : Wd w) (h : fitsL 0 ws = true) : fitsL 0 [TB b w, .nd .tup ws] = true := by
  rw [fitsL, fitsL, fitsL, tb_fits hb hw, fits_tup h]
  rfl
theorem tell_R (F : Fit R C K) (hb : Ba b) (hw : Wd w) (hf : fitsL 0 ws = true) (h : d_table_value [TB b w, .nd .tup ws] [] = R []) : d_Table_tell [TB b w, .nd .tup ws] [] = R [] :=
  ret_R F.shape rfl (clo_R F.shape (fits_tt hb hw hf) rfl h)
theorem star_R (F : Fit R C K) (hb : Ba b) (hw : Wd w) (hf : fitsL 0 ws = true) (hl : ws.length ≤ 4) (h : d_table_value [TB b w, .nd .tup ws] [] = R []) : clo (dStar 1 d_Table_tell) (TB b w :: ws) [] = R [] := by
  refine clo_R F.shape (by rw [fitsL, tb_fits hb hw, hf]; rfl) rfl ?_
  unfold dStar
  rw [if_pos ⟨by simp, by simp only [List.length_cons]; omega⟩]
  exact tell_R F hb hw hf h
theorem meth_R (F : Fit R C K) (hb : Ba b) (hw : Wd w) (hf : fitsL 0 ws = true) (hl : ws.length ≤ 4) (h : d_table_value [TB b w, .nd .tup ws] [] = R []) {ar : DA} (ha : ar [some (TB b w), some (.nd .tup ws)] [] = .ok ws []) :
    dLamK (fun x0 tl S => dDef 1 5 (b__law_heard x0 tl) [x0] S) (dMeth T0 0 (clo (dStar 1 d_Table_tell)) (dVar 0) ar) [some (TB b w), some (.nd .tup ws)] [] = .ok C [] := by
  have hi : insOk T0 0 (TB b w) [] = true := by
    rcases hb with rfl | rfl | rfl <;> (rcases hw with rfl | rfl | rfl | rfl <;> kernel_rfl)
  have e : dMeth T0 0 (clo (dStar 1 d_Table_tell)) (dVar 0) ar [some (TB b w), some (.nd .tup ws)] [] = R [] := by
    show (if insOk T0 0 (TB b w) [] = true then (ar [some (TB b w), some (.nd .tup ws)] []).bind fun xs S2 => clo (dStar 1 d_Table_tell) (TB b w :: xs) S2 else .bad) = _
    rw [if_pos hi, ha]
    exact star_R F hb hw hf hl h
  exact (heard_cong (tl' := R) e).trans F.h0
theorem ifS_t {c : DB} {s t : DS} {l : Loc} {S : Sto} (h : c l S = .ok true S) : dIfS c s t l S = s l S := by
  show (c l S).st l _ = _
  rw [h]; rfl
theorem ifS_f {c : DB} {s t : DS} {l : Loc} {S : Sto} (h : c l S = .ok false S) : dIfS c s t l S = t l S := by
  show (c l S).st l _ = _
  rw [h]; rfl
theorem ret_ok {a : DE} {l : Loc} {S : Sto} {v : PV} (h : a l S = .ok v S) : dRet a l S = .ret v S := by
  show (a l S).st l _ = _
  rw [h]; rfl
theorem seq_ret' {s t : DS} {l : Loc} {S : Sto} {v : PV} (h : s l S = .ret v S) : dSeq s t l S = .ret v S := by rw [dSeq_ap, h]; rfl
theorem seq_nx' {s t : DS} {l l1 : Loc} {S S1 : Sto} (h : s l S = .nx l1 S1) : dSeq s t l S = t l1 S1 := by rw [dSeq_ap, h]; rfl
theorem called_R (F : Fit R C K) (hb : Ba b) (hw : Wd w) (hf : fitsL 0 ws = true) (hl : ws.length ≤ 4) (h : d_table_value [TB b w, .nd .tup ws] [] = R []) : d__law_called [TB b w, .nd .tup ws] [] = .ok C [] := by
  refine dDef_ret _ _ rfl ?_ (Nat.le_refl _)
  show b__law_called [some (TB b w), some (.nd .tup ws)] [] = _
  unfold b__law_called
  match ws, hl with
  | [], hl => exact seq_ret' ((ifS_t (by kernel_rfl)).trans (ret_ok (meth_R F hb hw hf hl h rfl)))
  | [x], hl => 
    refine (seq_nx' (ifS_f (by kernel_rfl))).trans ?_
    exact seq_ret' ((ifS_t (by kernel_rfl)).trans (ret_ok (meth_R F hb hw hf hl h (by kernel_rfl))))
  | [x, y], hl => 
    refine (seq_nx' (ifS_f (by kernel_rfl))).trans ?_
    refine (seq_nx' (ifS_f (by kernel_rfl))).trans ?_
    exact seq_ret' ((ifS_t (by kernel_rfl)).trans (ret_ok (meth_R F hb hw hf hl h (by kernel_rfl))))
  | [x, y, z], hl => 
    refine (seq_nx' (ifS_f (by kernel_rfl))).trans ?_
    refine (seq_nx' (ifS_f (by kernel_rfl))).trans ?_
    refine (seq_nx' (ifS_f (by kernel_rfl))).trans ?_
    exact seq_ret' ((ifS_t (by kernel_rfl)).trans (ret_ok (meth_R F hb hw hf hl h (by kernel_rfl))))
  | [x, y, z, u], hl => 
    refine (seq_nx' (ifS_f (by kernel_rfl))).trans ?_
    refine (seq_nx' (ifS_f (by kernel_rfl))).trans ?_
    refine (seq_nx' (ifS_f (by kernel_rfl))).trans ?_
    refine (seq_nx' (ifS_f (by kernel_rfl))).trans ?_
    exact ret_ok (meth_R F hb hw hf hl h (by kernel_rfl))
  | _ :: _ :: _ :: _ :: _ :: _, hl => simp at hl
theorem get_R (F : Fit R C K) (hb : Ba b) (hw : Wd w) (hf : fitsL 0 ws = true) (h : d_table_value [TB b w, .nd .tup ws] [] = R []) : d_Table___getitem__ [TB b w, .nd .tup ws] [] = R [] := by
  have e : (dFn (clo d_table_value) (dCons (dVar 0) (dCons (dVar 1) (dNil)))) [some (TB b w), some (.nd .tup ws)] [] = R [] := clo_R F.shape (fits_tt hb hw hf) rfl h
  have k : b_Table___getitem__ [some (TB b w), some (.nd .tup ws)] [] = dRet (dFn (clo d_table_value) (dCons (dVar 0) (dCons (dVar 1) (dNil)))) [some (TB b w), some (.nd .tup ws)] [] := by
    unfold b_Table___getitem__
    refine (seq_nx' (l1 := [some (TB b w), some (.nd .tup ws)]) (S1 := []) (ifS_f (by kernel_rfl))).trans ?_
    exact seq_nx' (ifS_f (by kernel_rfl))
  rcases F.shape with ⟨x, rfl⟩ | ⟨v, rfl⟩
  · refine dDef_err rfl ?_ (Nat.le_refl _) (l1 := [some (TB b w), some (.nd .tup ws)])
    exact k.trans (by show (dFn (clo d_table_value) (dCons (dVar 0) (dCons (dVar 1) (dNil))) _ _).st _ _ = _; rw [e]; rfl)
  · refine dDef_ret _ _ rfl ?_ (Nat.le_refl _)
    exact k.trans (by show (dFn (clo d_table_value) (dCons (dVar 0) (dCons (dVar 1) (dNil))) _ _).st _ _ = _; rw [e]; rfl)
theorem blk (F : Fit R C K) (hb : Ba b) (hw : Wd w) (hf : fitsL 0 ws = true) (hl : ws.length ≤ 4) (h : d_table_value [TB b w, .nd .tup ws] [] = R []) (hd : d__law_due [.int b, .int (w : Int), .nd .tup ws] [] = .ok K []) (y m : PV) (cs : List Int) (a lf : Int) :
    dSeqs [q2_6, q2_7, q2_8] [none, some (.ref 0), none, some (.int b), some (.int (w : Int)), some (TB b w), some y, some m, some (.nd .tup ws), none, none, none, none, none] [pn cs a lf] =
      .nx [none, some (.ref 0), none, some (.int b), some (.int (w : Int)), some (TB b w), none, none, none, none, none, none, none, none] [pn cs a lf] := by
  have e6 : q2_6 [none, some (.ref 0), none, some (.int b), some (.int (w : Int)), some (TB b w), some y, some m, some (.nd .tup ws), none, none, none, none, none] [pn cs a lf] = .nx [none, some (.ref 0), none, some (.int b), some (.int (w : Int)), some (TB b w), some y, some m, some (.nd .tup ws), none, some K, none, none, none] [pn cs a lf] := by
    have q : clo d__law_due [.int b, .int (w : Int), .nd .tup ws] [pn cs a lf] = .ok K [pn cs a lf] := clo_eq (by rw [fitsL, fitsL, fitsL, fitsL, fits_tup hf]; rfl) rfl hd
    show ((clo d__law_due [.int b, .int (w : Int), .nd .tup ws] [pn cs a lf]).st _ _) = _
    rw [q]
    rfl
  generalize hL : [none, some (.ref 0), none, some (.int b), some (.int (w : Int)), some (TB b w), some y, some m, some (.nd .tup ws), none, some K, none, none, none] = L at e6
  have a1 : dFn (clo d__law_called) (dCons (dVar 5) (dCons (dVar 8) (dNil))) L [pn cs a lf] = .ok C [pn cs a lf] := by
    subst hL
    exact clo_eq (fits_tt hb hw hf) rfl (called_R F hb hw hf hl h)
  have a2 : dLamK (fun x0 tl S => dDef 1 5 (b__law_heard x0 tl) [x0] S) (dEi (dBin subZ (dVar 5) (dVar 8)) (dSubO 0 (clo d_Table___getitem__) (dVar 5) (dVar 8))) L [pn cs a lf] = .ok C [pn cs a lf] := by
    subst hL
    refine (heard_cong (tl' := R) ?_).trans (F.h1 cs a lf)
    have q : clo d_Table___getitem__ [TB b w, .nd .tup ws] [pn cs a lf] = R [pn cs a lf] := clo_R F.shape (fits_tt hb hw hf) rfl (get_R F hb hw hf h)
    have hs : isIns 0 (TB b w) [pn cs a lf] = true := rfl
    show dSubO 0 (clo d_Table___getitem__) (dVar 5) (dVar 8) _ _ = _
    show (if isIns 0 (TB b w) [pn cs a lf] = true then clo d_Table___getitem__ [TB b w, .nd .tup ws] [pn cs a lf] else .bad) = _
    rw [if_pos hs, q]
  have ei : ∀ B : DS, dFor (dItV (dLst (dCons (dFn (clo d__law_called) (dCons (dVar 5) (dCons (dVar 8) (dNil)))) (dCons (dLamK (fun x0 tl S => dDef 1 5 (b__law_heard x0 tl) [x0] S) (dEi (dBin subZ (dVar 5) (dVar 8)) (dSubO 0 (clo d_Table___getitem__) (dVar 5) (dVar 8)))) (dNil))))) (.nm 11) B L [pn cs a lf] = dFor (dItV (dLst (dCons (dC C) (dCons (dC C) (dNil))))) (.nm 11) B L [pn cs a lf] := by
    intro B
    have q : dLst (dCons (dFn (clo d__law_called) (dCons (dVar 5) (dCons (dVar 8) (dNil)))) (dCons (dLamK (fun x0 tl S => dDef 1 5 (b__law_heard x0 tl) [x0] S) (dEi (dBin subZ (dVar 5) (dVar 8)) (dSubO 0 (clo d_Table___getitem__) (dVar 5) (dVar 8)))) (dNil))) L [pn cs a lf] = dLst (dCons (dC C) (dCons (dC C) (dNil))) L [pn cs a lf] := by
      simp only [dLst_ap, dCons_ap, a1, a2, bind_ok, dC_ap, dNil_ap]
    unfold dFor dItV
    rw [q]
  rw [seqs_one e6, seqs_one (l1 := [none, some (.ref 0), none, some (.int b), some (.int (w : Int)), some (TB b w), none, none, none, none, some K, some C, none, none]) (S1 := [pn cs a lf]) (by
    unfold q2_7
    rw [ei]
    subst hL
    exact F.fin _ _ _ _ _ _ cs a lf)]
  rfl
end
end Z
end
end
section
set_option Elab.async false
set_option linter.all false
set_option maxRecDepth 100000
set_option maxHeartbeats 0
noncomputable section
namespace Z
open PySem PySem.Spec PyProof.Rows L2
theorem heard_pn {R : Sto → Out PV} {C : PV} {cs : List Int} {a lf : Int} (h : b__law_heard .non R [some .non, none, none, none, none] [pn cs a lf] = .ret C ([pn cs a lf] ++ [some (.lst, [C])])) (ht : thaw 12 1 ([pn cs a lf] ++ [some (.lst, [C])]) C = some C) : dDef 1 5 (b__law_heard .non R) [.non] [pn cs a lf] = .ok C [pn cs a lf] :=
  dDef_thaw (n := 1) (m := 5) (xs := [.non]) [pn cs a lf] (b__law_heard .non R) rfl h (by show 1 < 2; decide) ht (fitsS_app _ _)
theorem heard_val {e : XV} {C : PV} (h : ∀ cs a lf, dDef 1 5 (b__law_heard .non (fun S => .err e S)) [.non] [pn cs a lf] = .ok C [pn cs a lf]) {db : DE} {l : Loc} {cs : List Int} {a lf : Int} (hd : db l [pn cs a lf] = .err e [pn cs a lf]) :
    dLamK (fun x0 tl S => dDef 1 5 (b__law_heard x0 tl) [x0] S) db l [pn cs a lf] = .ok C [pn cs a lf] := (heard_cong (tl' := fun S => .err e S) hd).trans (h cs a lf)
theorem if_ne {f : PV → PV → Sto → Out PV} {a b : DE} {s t : DS} {l : Loc} {S : Sto} {C : PV} (h : a l S = .ok C S) : dIfS (dB (dBin f a b)) s t l S = dIfS (dB (dBin f (dC C) b)) s t l S := by
  have q : dBin f a b l S = dBin f (dC C) b l S := by simp only [dBin_ap, h, dC_ap]
  unfold dIfS
  rw [dB_ap, dB_ap, q]
theorem par_eq {i j : Nat} {a b : DE} {l : Loc} {S : Sto} {C : PV} (h : a l S = .ok C S) : dPar i j (dCons a (dCons b dNil)) l S = dPar i j (dCons (dC C) (dCons b dNil)) l S := by
  have q : (dCons a (dCons b dNil)) l S = (dCons (dC C) (dCons b dNil)) l S := by simp only [dCons_ap, h, dC_ap]
  unfold dPar
  rw [q]
theorem fit_z : Fit (fun S => .err XZ S) (due XZ) (due XZ) := ⟨.inl ⟨_, rfl⟩, by kernel_rfl, fun cs a lf => heard_pn (by kernel_rfl) (by kernel_rfl), by kernel_rfl, by intro b w t y m ws cs a lf; kernel_rfl⟩
theorem fit_u : Fit (fun S => .err XU S) (due XU) (due XU) := ⟨.inl ⟨_, rfl⟩, by kernel_rfl, fun cs a lf => heard_pn (by kernel_rfl) (by kernel_rfl), by kernel_rfl, by intro b w t y m ws cs a lf; kernel_rfl⟩
theorem fit_l : Fit (fun S => .err XL S) (due XL) (due XL) := ⟨.inl ⟨_, rfl⟩, by kernel_rfl, fun cs a lf => heard_pn (by kernel_rfl) (by kernel_rfl), by kernel_rfl, by intro b w t y m ws cs a lf; kernel_rfl⟩
theorem fit_ok (v : Int) : Fit (fun S => .ok (.int v) S) (.nd .lst [.int v]) .non := ⟨.inr ⟨_, rfl⟩, by kernel_rfl, by intro cs a lf; kernel_rfl, by kernel_rfl, by intro b w t y m ws cs a lf; kernel_rfl⟩
theorem fit_w : ∀ x ∈ X2, Fit (fun S => .err (XW x) S) (due (XW x)) (due (XW x)) := by
  intro x hx
  simp only [X2, List.mem_cons, List.not_mem_nil, or_false] at hx
  rcases hx with h | h | h | h | h | h | h | h | h | h | h <;> (subst h; exact ⟨.inl ⟨_, rfl⟩, by kernel_rfl, fun cs a lf => heard_pn (by kernel_rfl) (by kernel_rfl), by kernel_rfl, by intro b w t y m ws cs a lf; kernel_rfl⟩)
theorem xd_2 {b : Int} (hb : Ba b) {x : PV} (h : x ∈ XD b) : x ∈ X2 := by
  have k : x ∈ X3 → x ∈ X2 := by
    intro h
    simp only [X2, X3, List.mem_cons, List.not_mem_nil, or_false] at h ⊢
    rcases h with h | h | h | h | h | h | h | h | h | h <;> (subst h; simp)
  rcases hb with rfl | rfl | rfl
  · exact h
  · exact k h
  · exact k h
theorem tv_err {b : Int} (hb : Ba b) {w : Nat} (hw : Wd w) {ws : List PV} {e : XV} (hf : fitsL 0 ws = true) (h : d_need_words [.int b, .int (w : Int), .nd .tup ws] [] = .err e []) : d_table_value [TB b w, .nd .tup ws] [] = .err e [] := by
  have q : clo d_need_words [.int b, .int (w : Int), .nd .tup ws] [] = .err e [] := clo_err (by rw [fitsL, fitsL, fitsL, fitsL, fits_tup hf]; rfl) rfl h
  have ha : (dCons (dAttr T0 0 (dVar 0)) (dCons (dAttr T0 1 (dVar 0)) (dCons (dVar 1) (dNil)))) [some (TB b w), some (.nd .tup ws), none, none, none, none, none, none, none, none, none] [] = .ok [.int b, .int (w : Int), .nd .tup ws] [] := by
    rcases hb with rfl | rfl | rfl <;> (rcases hw with rfl | rfl | rfl | rfl <;> kernel_rfl)
  refine dDef_err rfl ?_ (Nat.le_refl _) (l1 := [some (TB b w), some (.nd .tup ws), none, none, none, none, none, none, none, none, none])
  show b_table_value [some (TB b w), some (.nd .tup ws), none, none, none, none, none, none, none, none, none] [] = _
  unfold b_table_value
  rw [dSeq_ap, dExpr_ap, dFn_ap, ha, bind_ok, q]
  rfl
theorem chk_out {b : Int} {w : Nat} {ws : List PV} (h : chk b w ws = true) : ∃ R C K, Fit R C K ∧ d_table_value [TB b w, .nd .tup ws] [] = R [] ∧ d__law_due [.int b, .int (w : Int), .nd .tup ws] [] = .ok K [] := by
  unfold chk at h
  split at h
  · rename_i xs d e1 e2
    obtain ⟨h1, h2⟩ := Bool.and_eq_true_iff.mp h
    have h1 := (pvEqL_eq _ _).mp h1
    have h2 := (pvEq_eq _ _).mp h2
    subst h1 h2
    exact ⟨_, _, _, fit_l, e1, e2⟩
  · rename_i v e1 e2
    exact ⟨_, _, _, fit_ok v, e1, e2⟩
  · exact absurd h (by decide)
theorem chk_all {b : Int} (hb : Ba b) {w : Nat} (hw : Wd w) (h0 : w ≠ 0) : (tups (GD b) w).all (chk b w) = true := by
  rcases hb with rfl | rfl | rfl <;> (rcases hw with rfl | rfl | rfl | rfl)
  · exact absurd rfl h0
  · exact chk21
  · exact chk22
  · exact chk23
  · exact absurd rfl h0
  · exact chk31
  · exact chk32
  · exact chk33
  · exact absurd rfl h0
  · exact chk41
  · exact chk42
  · exact chk43
theorem out_ok {b : Int} (hb : Ba b) {w : Nat} (hw : Wd w) {ws : List PV} (hl : ws.length ≤ 4) (ho : ∀ x ∈ ws, x ∈ OPTS) : ∃ R C K, Fit R C K ∧ d_table_value [TB b w, .nd .tup ws] [] = R [] ∧ d__law_due [.int b, .int (w : Int), .nd .tup ws] [] = .ok K [] := by
  have hf := opts_fit ws ho
  by_cases h0 : w = 0
  · subst h0
    exact ⟨_, _, _, fit_z, tv_err hb hw hf (nw_zero b _), du_zero b _⟩
  · by_cases hn : ws.length = w
    · rcases split_bad hb ws ho with g | ⟨pre, x, post, rfl, hp, hx⟩
      · exact chk_out (List.all_eq_true.mp (chk_all hb hw h0) ws (mem_tups w ws hn g))
      · exact ⟨_, _, _, fit_w x (xd_2 hb hx), tv_err hb hw hf (nw_bad hb hw h0 hn hp hx), du_bad hb hw h0 hn hp hx⟩
    · obtain ⟨h1, h2⟩ := unlike (b := b) hw h0 hl hn
      exact ⟨_, _, _, fit_u, tv_err hb hw hf h1, h2⟩
/-! what comes after the words -/
def lT (b : Int) (w : Nat) : Loc := [none, some (.ref 0), none, some (.int b), some (.int (w : Int)), some (TB b w), none, none, none, none, none, none, none, none]
def KEYS (t : PV) : List PV := [.non, .int 0, .nd .lst [.str "0"], .nd (.dct false []) [], .bl true, .int (10 ^ 30), t]
def NUMS : List PV := [.non, .int (-1), .int 101, .bl true, .str "1", .nd .tup [.int 1], .nd .lst [], .int (10 ^ 30)]
def MANY (w : Int) : List PV := [.int w, .int w, .int w, .int 0, .int 1, .int 2, .int 4]
def XN (x : PV) : XV := ⟨3, [9], [x]⟩
theorem num_h : ∀ x ∈ NUMS, ∀ cs a lf, dDef 1 5 (b__law_heard .non (fun S => .err (XN x) S)) [.non] [pn cs a lf] = .ok (.nd .tup [.str "BadNumber", rp x]) [pn cs a lf] := by
  intro x hx cs a lf
  unfold NUMS at hx
  simp only [List.mem_cons, List.not_mem_nil, or_false] at hx
  rcases hx with h | h | h | h | h | h | h | h <;> (subst h; exact heard_pn (by kernel_rfl) (by kernel_rfl))
theorem key_ok {b : Int} (hb : Ba b) {w : Nat} (hw : Wd w) : ∀ x ∈ KEYS (TB b w), ∀ cs a lf, q2_10 [none, some (.ref 0), none, some (.int b), some (.int (w : Int)), some (TB b w), none, none, none, none, none, none, some x, none] [pn cs a lf] = .nx [none, some (.ref 0), none, some (.int b), some (.int (w : Int)), some (TB b w), none, none, none, none, none, none, some x, none] [pn cs a lf] := by
  intro x hx cs a lf
  unfold KEYS at hx
  simp only [List.mem_cons, List.not_mem_nil, or_false] at hx
  unfold q2_10
  have hw' : w = 0 ∨ (w = 1 ∨ w = 2 ∨ w = 3) := hw
  rcases hw' with rfl | hw'
  · have q : ∀ y ∈ KEYS (TB b 0), dEi (dBin subZ (dVar 5) (dVar 12)) (dSubO 0 (clo d_Table___getitem__) (dVar 5) (dVar 12)) [none, some (.ref 0), none, some (.int b), some (.int ((0 : Nat) : Int)), some (TB b 0), none, none, none, none, none, none, some y, none] [pn cs a lf] = .err XZ [pn cs a lf] := by
      intro y hy
      unfold KEYS at hy
      simp only [List.mem_cons, List.not_mem_nil, or_false] at hy
      rcases hy with h | h | h | h | h | h | h <;> (subst h; rcases hb with rfl | rfl | rfl <;> kernel_rfl)
    refine (if_ne (heard_val fit_z.h1 (q x (by unfold KEYS; simp only [List.mem_cons, List.not_mem_nil, or_false]; exact hx)))).trans ?_
    kernel_rfl
  · have q : ∀ y ∈ KEYS (TB b w), dEi (dBin subZ (dVar 5) (dVar 12)) (dSubO 0 (clo d_Table___getitem__) (dVar 5) (dVar 12)) [none, some (.ref 0), none, some (.int b), some (.int (w : Int)), some (TB b w), none, none, none, none, none, none, some y, none] [pn cs a lf] = .err XU [pn cs a lf] := by
      intro y hy
      unfold KEYS at hy
      simp only [List.mem_cons, List.not_mem_nil, or_false] at hy
      rcases hy with h | h | h | h | h | h | h <;> (subst h; rcases hb with rfl | rfl | rfl <;> (rcases hw' with rfl | rfl | rfl <;> kernel_rfl))
    refine (if_ne (heard_val fit_u.h1 (q x (by unfold KEYS; simp only [List.mem_cons, List.not_mem_nil, or_false]; exact hx)))).trans ?_
    rcases hw' with rfl | rfl | rfl <;> kernel_rfl
theorem one_ok {b : Int} (hb : Ba b) {w : Nat} (hw : Wd w) : ∀ cs a lf, dSeqs [q2_12, q2_13, q2_14] (lT b w) [pn cs a lf] = .nx [none, some (.ref 0), none, none, none, some (TB b w), none, none, none, none, none, none, none, none] [pn cs a lf] := by
  intro cs a lf
  have st : ∀ C : PV, dLamK (fun x0 tl S => dDef 1 5 (b__law_heard x0 tl) [x0] S) (dEi (dBin subZ (dVar 5) (dC (.str "0"))) (dSubO 0 (clo d_Table___getitem__) (dVar 5) (dC (.str "0")))) (lT b w) [pn cs a lf] = .ok C [pn cs a lf] → dSeqs [q2_12, q2_13, q2_14] (lT b w) [pn cs a lf] = dSeqs [dPar 11 13 (dCons (dC C) (dCons (dFn (clo d__law_due) (dCons (dVar 3) (dCons (dVar 4) (dCons (dTup (dCons (dC (.str "0")) (dNil))) (dNil))))) (dNil))), q2_13, q2_14] (lT b w) [pn cs a lf] := by
    intro C h
    show (q2_12 (lT b w) [pn cs a lf]).seq _ = _
    unfold q2_12
    rw [par_eq h]
    rfl
  rcases hw with rfl | rfl | rfl | rfl
  · rw [st _ (heard_val fit_z.h1 (by rcases hb with rfl | rfl | rfl <;> kernel_rfl))]
    rcases hb with rfl | rfl | rfl <;> kernel_rfl
  · rcases hb with rfl | rfl | rfl <;> kernel_rfl
  · rw [st _ (heard_val fit_u.h1 (by rcases hb with rfl | rfl | rfl <;> kernel_rfl))]
    rcases hb with rfl | rfl | rfl <;> kernel_rfl
  · rw [st _ (heard_val fit_u.h1 (by rcases hb with rfl | rfl | rfl <;> kernel_rfl))]
    rcases hb with rfl | rfl | rfl <;> kernel_rfl
theorem num_ok {b : Int} (hb : Ba b) {w : Nat} (hw : Wd w) : ∀ x ∈ NUMS, ∀ cs a lf, q2_16 [none, some (.ref 0), none, none, none, some (TB b w), some x, none, none, none, none, none, none, none] [pn cs a lf] = .nx [none, some (.ref 0), none, none, none, some (TB b w), some x, none, none, none, none, none, none, none] [pn cs a lf] := by
  intro x hx cs a lf
  have hh := num_h x hx
  unfold NUMS at hx
  simp only [List.mem_cons, List.not_mem_nil, or_false] at hx
  unfold q2_16
  have q : dMeth T0 0 (clo d_Table_total) (dVar 5) (dCons (dVar 6) (dNil)) [none, some (.ref 0), none, none, none, some (TB b w), some x, none, none, none, none, none, none, none] [pn cs a lf] = .err (XN x) [pn cs a lf] := by
    rcases hx with h | h | h | h | h | h | h | h <;> (subst h; rcases hb with rfl | rfl | rfl <;> (rcases hw with rfl | rfl | rfl | rfl <;> kernel_rfl))
  refine (if_ne (heard_val hh q)).trans ?_
  rcases hx with h | h | h | h | h | h | h | h <;> (subst h; kernel_rfl)
theorem tot_ok {b : Int} (hb : Ba b) {w : Nat} (hw : Wd w) : ∀ cs a lf, q2_18 [none, some (.ref 0), none, none, none, some (TB b w), none, none, none, none, none, none, none, none] [pn cs a lf] = .nx [none, some (.ref 0), none, none, none, some (TB b w), none, none, none, none, none, none, none, none] [pn cs a lf] := by
  intro cs a lf
  rcases hb with rfl | rfl | rfl <;> (rcases hw with rfl | rfl | rfl | rfl <;> kernel_rfl)
end Z
end
end
section
set_option Elab.async false
set_option linter.all false
set_option maxRecDepth 100000
set_option maxHeartbeats 0
noncomputable section
namespace Z
open PySem PySem.Spec PyProof.Rows L2
def l0 : Loc := [none, some (.ref 0), none, none, none, none, none, none, none, none, none, none, none, none]
def eOPT : DE := dBin addP (dVar 6) (dLst (dCons (dC (.str "0")) (dCons (dC (.str "1")) (dCons (dC (.str "01")) (dCons (dC (.str "10")) (dNil))))))
theorem opts_ne : OPTS ≠ [] := by unfold OPTS ODD; simp
theorem opts_len : OPTS.length ≤ 1000000000 := by
  have h : OPTS.length = 20 := by kernel_rfl
  omega
theorem opt_pick {n : Nat} {S1 : Sto} (b w t mm x : PV) (hP : PenS n [] S1) (hn : n ≤ 100000) : ∃ v S2, (dFn d__law_pick (dCons (dVar 1) (dCons eOPT (dNil)))) [none, some (.ref 0), none, some b, some w, some t, some (.nd .lst ODD), some mm, none, some x, none, none, none, none] S1 = .ok v S2 ∧ v ∈ OPTS ∧ PenS (n + 1) [] S2 := by
  obtain ⟨v, S2, g1, g2, g3⟩ := pick_ok dr (xs := OPTS) hP hn opts_ne opts_len
  refine ⟨v, S2, ?_, g2, g3⟩
  have g1 : d__law_pick [.ref 0, .nd .lst OPTS] S1 = .ok v S2 := g1
  have e : eOPT [none, some (.ref 0), none, some b, some w, some t, some (.nd .lst ODD), some mm, none, some x, none, none, none, none] S1 = .ok (.nd .lst OPTS) S1 := by kernel_rfl
  have ev : dVar 1 [none, some (.ref 0), none, some b, some w, some t, some (.nd .lst ODD), some mm, none, some x, none, none, none, none] S1 = .ok (.ref 0) S1 := rfl
  simp only [dFn_ap, dCons_ap, dNil_ap, ev, e, bind_ok]
  exact g1
theorem many_it {S : Sto} (b w t od : PV) (m : Nat) (hm : m ≤ 4) : dItA rngP (dCons (dVar 7) (dNil)) [none, some (.ref 0), none, some b, some w, some t, some od, some (.int (m : Int)), none, none, none, none, none, none] S = .ok ⟨rngZ 0 m, []⟩ S := by
  have k : ∀ (f : List PV → Sto → Out ItZ) (v : PV), dItA f (dCons (dVar 7) (dNil)) [none, some (.ref 0), none, some b, some w, some t, some od, some v, none, none, none, none, none, none] S = f [v] S := fun _ _ => rfl
  exact (k rngP _).trans (rngP_nat m S (by omega))
def lW (b w t : PV) (m : Nat) : Loc := [none, some (.ref 0), none, some b, some w, some t, some (.nd .lst ODD), some (.int (m : Int)), none, none, none, none, none, none]
theorem words_lc {n : Nat} {S : Sto} (b w t : PV) (m : Nat) (hm : m ≤ 4) (h : PenS n [] S) (hn : n + 4 ≤ 100000) :
    ∃ ws S', dLc [9] (dItA rngP (dCons (dVar 7) (dNil))) (.nm 9) (dYes) (dFn d__law_pick (dCons (dVar 1) (dCons eOPT (dNil)))) (lW b w t m) S = .ok (.nd .lst ws) S' ∧ ws.length = m ∧ (∀ x ∈ ws, x ∈ OPTS) ∧ PenS (n + 4) [] S' := by
  have step : ∀ i x S1, (rngZ 0 m)[i]? = some x → (PenS (n + i) [] S1 ∧ i ≤ 4) → ∃ ps v S', asg (.nm 9) x = some ps ∧ (dFn d__law_pick (dCons (dVar 1) (dCons eOPT (dNil)))) (setZ (wipeZ (lW b w t m) [9]) ps) S1 = .ok v S' ∧ v ∈ OPTS ∧ (PenS (n + (i + 1)) [] S' ∧ i + 1 ≤ 4) := by
    intro i x S1 hx ⟨hP, hi4⟩
    have hi5 : i < m := (rngZ_get hx).1
    obtain ⟨v, S2, g1, g2, g3⟩ := opt_pick b w t (.int (m : Int)) x hP (by omega)
    have el : setZ (wipeZ (lW b w t m) [9]) [(9, x)] = [none, some (.ref 0), none, some b, some w, some t, some (.nd .lst ODD), some (.int (m : Int)), none, some x, none, none, none, none] := rfl
    exact ⟨_, v, S2, asg1, by rw [el]; exact g1, g2, ⟨g3.mono (by omega), by omega⟩⟩
  have hi : dItA rngP (dCons (dVar 7) (dNil)) (lW b w t m) S = .ok ⟨rngZ 0 m, []⟩ S := many_it b w t (.nd .lst ODD) m hm
  have hl : (rngZ 0 m).length ≤ 16777216 := by rw [rngZ_len]; omega
  have h0 : PenS (n + 0) [] S ∧ 0 ≤ 4 := ⟨h, by omega⟩
  obtain ⟨ws, S', h1, h2, h3, h4⟩ := dLc_inv (fun v => v ∈ OPTS) (fun i S => PenS (n + i) [] S ∧ i ≤ 4) hi hl h0 step
  rw [rngZ_len] at h2 h4
  exact ⟨ws, S', h1, h2, h3, h4.1.mono (by omega)⟩
theorem words_ok {n : Nat} {S : Sto} (b w t : PV) (m : Nat) (hm : m ≤ 4) (h : PenS n [] S) (hn : n + 4 ≤ 100000) :
    ∃ ws S', q2_5 (lW b w t m) S = .nx [none, some (.ref 0), none, some b, some w, some t, some (.nd .lst ODD), some (.int (m : Int)), some (.nd .tup ws), none, none, none, none, none] S' ∧ ws.length = m ∧ (∀ x ∈ ws, x ∈ OPTS) ∧ PenS (n + 4) [] S' := by
  obtain ⟨ws, S', h1, h2, h3, h4⟩ := words_lc b w t m hm h hn
  refine ⟨ws, S', ?_, h2, h3, h4⟩
  have ha : tupP [.nd .lst ws] S' = .ok (.nd .tup ws) S' := rfl
  have q : q2_5 = dSet 8 (dApp tupP (dCons (dLc [9] (dItA rngP (dCons (dVar 7) (dNil))) (.nm 9) (dYes) (dFn d__law_pick (dCons (dVar 1) (dCons eOPT (dNil))))) (dNil))) := rfl
  rw [q]
  simp only [dSet_ap, dApp_ap, dCons_ap, dNil_ap, h1, bind_ok, ha, st_ok]
  rfl
theorem draws_ok {n : Nat} {S : Sto} (x : PV) (h : PenS n [] S) (hn : n + 2 ≤ 100000) : ∃ b w S', Ba b ∧ Wd w ∧ q2_0 [none, some (.ref 0), some x, none, none, none, none, none, none, none, none, none, none, none] S = .nx [none, some (.ref 0), some x, some (.int b), some (.int (w : Int)), none, none, none, none, none, none, none, none, none] S' ∧ PenS (n + 2) [] S' := by
  obtain ⟨v, S1, h1, h2, h3, P1⟩ := dr n [] S 3 h (by omega) (by decide) (by decide)
  obtain ⟨w, S2, g1, g2, g3, P2⟩ := dr (n + 1) [] S1 4 P1 (by omega) (by decide) (by decide)
  refine ⟨2 + v, w.toNat, S2, by unfold Ba; omega, by unfold Wd; omega, ?_, P2⟩
  have ew : ((w.toNat : Nat) : Int) = w := Int.toNat_of_nonneg g2
  rw [ew]
  have ad : addP (.int 2) (.int v) S1 = .ok (.int (2 + v)) S1 := by kernel_rfl
  show ((dCons (dBin addP (dC (.int 2)) (dFn d__law_draw (dCons (dVar 1) (dCons (dC (.int 3)) (dNil))))) (dCons (dFn d__law_draw (dCons (dVar 1) (dCons (dC (.int 4)) (dNil)))) (dNil))) [none, some (.ref 0), some x, none, none, none, none, none, none, none, none, none, none, none] S).st _ _ = _
  have e1 : (dBin addP (dC (.int 2)) (dFn d__law_draw (dCons (dVar 1) (dCons (dC (.int 3)) (dNil))))) [none, some (.ref 0), some x, none, none, none, none, none, none, none, none, none, none, none] S = .ok (.int (2 + v)) S1 := by
    rw [dBin_ap, dC_ap, bind_ok, dFn_ap]
    show (d__law_draw [.ref 0, .int 3] S).bind _ = _
    rw [h1, bind_ok, ad]
  have e2 : (dFn d__law_draw (dCons (dVar 1) (dCons (dC (.int 4)) (dNil)))) [none, some (.ref 0), some x, none, none, none, none, none, none, none, none, none, none, none] S1 = .ok (.int w) S2 := g1
  rw [dCons_ap, e1, bind_ok, dCons_ap, e2]
  rfl
theorem many_r {w : Nat} (hw : Wd w) : ∀ x ∈ MANY (w : Int), ∃ m : Nat, x = .int (m : Int) ∧ m ≤ 4 := by
  intro x hx
  unfold MANY at hx
  simp only [List.mem_cons, List.not_mem_nil, or_false] at hx
  have : w ≤ 3 := by unfold Wd at hw; omega
  rcases hx with h | h | h | h | h | h | h <;> subst h
  · exact ⟨w, rfl, by omega⟩
  · exact ⟨w, rfl, by omega⟩
  · exact ⟨w, rfl, by omega⟩
  · exact ⟨0, rfl, by omega⟩
  · exact ⟨1, rfl, by omega⟩
  · exact ⟨2, rfl, by omega⟩
  · exact ⟨4, rfl, by omega⟩
theorem turn (n : Nat) (S : Sto) (x : PV) (hP : PenS n [] S) (hn : n + 9 ≤ 100000) : ∃ S' T', B2 [none, some (.ref 0), some x, none, none, none, none, none, none, none, none, none, none, none] S = .nx l0 S' ∧ PenS (n + 9) T' S' := by
  obtain ⟨b, w, S1, hb, hw, g0, P1⟩ := draws_ok x hP (by omega)
  have g1 : q2_1 [none, some (.ref 0), some x, some (.int b), some (.int (w : Int)), none, none, none, none, none, none, none, none, none] S1 = .nx [none, some (.ref 0), none, some (.int b), some (.int (w : Int)), none, none, none, none, none, none, none, none, none] S1 := rfl
  obtain ⟨cs1, a1, lf1, rfl⟩ := pn_cons P1
  have g2 := tb_eq hb hw none cs1 a1 lf1
  have g3 := od_eq hb (w : Int) (TB b w) cs1 a1 lf1
  obtain ⟨mm, S2, g4, hm, P2⟩ := set_pick dr (i := 7) (l := [none, some (.ref 0), none, some (.int b), some (.int (w : Int)), some (TB b w), some (.nd .lst ODD), none, none, none, none, none, none, none]) (ar := dCons (dVar 1) (dCons (dLst (dCons (dVar 4) (dCons (dVar 4) (dCons (dVar 4) (dCons (dC (.int 0)) (dCons (dC (.int 1)) (dCons (dC (.int 2)) (dCons (dC (.int 4)) (dNil))))))))) (dNil))) (MANY (w : Int)) P1 (by omega) (by kernel_rfl) (by unfold MANY; simp) (by show 7 ≤ 1000000000; decide)
  obtain ⟨m, rfl, hm4⟩ := many_r hw mm hm
  have g4 : q2_4 [none, some (.ref 0), none, some (.int b), some (.int (w : Int)), some (TB b w), some (.nd .lst ODD), none, none, none, none, none, none, none] [pn cs1 a1 lf1] = .nx [none, some (.ref 0), none, some (.int b), some (.int (w : Int)), some (TB b w), some (.nd .lst ODD), some (.int (m : Int)), none, none, none, none, none, none] S2 := g4
  obtain ⟨ws, S3, g5, hl, ho, P3⟩ := words_ok (.int b) (.int (w : Int)) (TB b w) m hm4 P2 (by omega)
  have g5 : q2_5 [none, some (.ref 0), none, some (.int b), some (.int (w : Int)), some (TB b w), some (.nd .lst ODD), some (.int (m : Int)), none, none, none, none, none, none] S2 = _ := g5
  obtain ⟨cs3, a3, lf3, rfl⟩ := pn_cons P3
  obtain ⟨R, C, K, F, ht, hd⟩ := out_ok hb hw (by omega) ho
  have g6 := blk F hb hw (opts_fit ws ho) (by omega) ht hd (.nd .lst ODD) (.int (m : Int)) cs3 a3 lf3
  obtain ⟨key, S4, g9, hk, P4⟩ := set_pick dr (i := 12) (l := lT b w) (ar := dCons (dVar 1) (dCons (dLst (dCons (dC .non) (dCons (dC (.int 0)) (dCons (dLst (dCons (dC (.str "0")) (dNil))) (dCons (dDct0) (dCons (dC (.bl true)) (dCons (dBin powP (dC (.int 10)) (dC (.int 30))) (dCons (dVar 5) (dNil))))))))) (dNil))) (KEYS (TB b w)) P3 (by omega) (by kernel_rfl) (by unfold KEYS; simp) (by show 7 ≤ 1000000000; decide)
  have g9 : q2_9 (lT b w) [pn cs3 a3 lf3] = .nx [none, some (.ref 0), none, some (.int b), some (.int (w : Int)), some (TB b w), none, none, none, none, none, none, some key, none] S4 := g9
  obtain ⟨cs4, a4, lf4, rfl⟩ := pn_cons P4
  have g10 := key_ok hb hw key hk cs4 a4 lf4
  have g11 : q2_11 [none, some (.ref 0), none, some (.int b), some (.int (w : Int)), some (TB b w), none, none, none, none, none, none, some key, none] [pn cs4 a4 lf4] = .nx (lT b w) [pn cs4 a4 lf4] := rfl
  have g12 := one_ok hb hw cs4 a4 lf4
  obtain ⟨num, S5, g15, hu, P5⟩ := set_pick dr (i := 6) (l := [none, some (.ref 0), none, none, none, some (TB b w), none, none, none, none, none, none, none, none]) (ar := dCons (dVar 1) (dCons (dLst (dCons (dC .non) (dCons (dUn negP (dC (.int 1))) (dCons (dC (.int 101)) (dCons (dC (.bl true)) (dCons (dC (.str "1")) (dCons (dTup (dCons (dC (.int 1)) (dNil))) (dCons (dLst (dNil)) (dCons (dBin powP (dC (.int 10)) (dC (.int 30))) (dNil)))))))))) (dNil))) NUMS P4 (by omega) (by kernel_rfl) (by decide) (by decide)
  have g15 : q2_15 [none, some (.ref 0), none, none, none, some (TB b w), none, none, none, none, none, none, none, none] [pn cs4 a4 lf4] = .nx [none, some (.ref 0), none, none, none, some (TB b w), some num, none, none, none, none, none, none, none] S5 := g15
  obtain ⟨cs5, a5, lf5, rfl⟩ := pn_cons P5
  have g16 := num_ok hb hw num hu cs5 a5 lf5
  have g17 : q2_17 [none, some (.ref 0), none, none, none, some (TB b w), some num, none, none, none, none, none, none, none] [pn cs5 a5 lf5] = .nx [none, some (.ref 0), none, none, none, some (TB b w), none, none, none, none, none, none, none, none] [pn cs5 a5 lf5] := rfl
  have g18 := tot_ok hb hw cs5 a5 lf5
  have g19 : q2_19 [none, some (.ref 0), none, none, none, some (TB b w), none, none, none, none, none, none, none, none] [pn cs5 a5 lf5] = .nx l0 [pn cs5 a5 lf5] := rfl
  refine ⟨[pn cs5 a5 lf5], [], ?_, P5.mono (by omega)⟩
  have e : B2 = dSeqs (q2_0 :: q2_1 :: q2_2 :: q2_3 :: q2_4 :: q2_5 :: ([q2_6, q2_7, q2_8] ++ (q2_9 :: q2_10 :: q2_11 :: ([q2_12, q2_13, q2_14] ++ (q2_15 :: q2_16 :: q2_17 :: q2_18 :: q2_19 :: []))))) := rfl
  rw [e, seqs_one g0, seqs_one g1, seqs_one g2, seqs_one g3, seqs_one g4, seqs_one g5, seqs_run g6]
  show dSeqs (q2_9 :: _) (lT b w) _ = _
  rw [seqs_one g9, seqs_one g10, seqs_one g11, seqs_run g12, seqs_one g15, seqs_one g16, seqs_one g17, seqs_one g18, seqs_one g19]
  rfl
theorem law_good (ns : List Int) (h : ns.length ≤ 63) : ∃ S, d_law [.nd .scr (ns.map .int)] [] = .ok (.bl true) S := by
  have hpen : d__law_pen [.nd .scr (ns.map .int)] [] = .ok (.ref 0) [pn ns 0 0] := penB_ok h
  have h0 : PenS 0 [] [pn ns 0 0] := ⟨ns, 0, 0, rfl, by decide, by decide, by decide⟩
  generalize PV.nd .scr (ns.map .int) = sc at hpen ⊢
  obtain ⟨S1, f1, P1⟩ := loop_pen (B := B2) (t := .nm 2) (l0 := l0) (k := 9) (items := rngZ 0 14) h0 (by rw [rngZ_len]; decide) (by kernel_rfl) fun n S x hx hP hn => by
    obtain ⟨S', T', g1, g2⟩ := turn n S x hP hn
    exact ⟨_, S', T', asg1, g1, g2⟩
  have hit : i2 l0 [pn ns 0 0] = .ok ⟨rngZ 0 14, []⟩ [pn ns 0 0] := by kernel_rfl
  obtain ⟨cs, a, lf, rfl⟩ := pn_cons P1
  have hE : dSeq p3 p4 l0 [pn cs a lf] = .ret (.bl true) [pn cs a lf] := by kernel_rfl
  have hbody : b_law (some sc :: List.replicate 13 none) [] = .ret (.bl true) [pn cs a lf] := by
    rw [law_eq, dSeq_ap]
    have s1 : p0 (some sc :: List.replicate 13 none) [] = .nx ((some sc :: List.replicate 13 none).set 1 (some (.ref 0))) [pn ns 0 0] := by
      unfold p0
      simp [hpen]
    have s2 : p1 ((some sc :: List.replicate 13 none).set 1 (some (.ref 0))) [pn ns 0 0] = .nx l0 [pn ns 0 0] := rfl
    rw [s1, seq_nx, dSeq_ap, s2, seq_nx, dSeq_ap, dFor_eq hit (heldB_nil _), f1, seq_nx, hE]
  exact ⟨[], law_end hbody (by show 0 < 1; decide)⟩
end Z
end
end
section
set_option Elab.async false
set_option linter.all false
set_option maxRecDepth 100000
set_option maxHeartbeats 0
noncomputable section
namespace Z
open PySem PySem.Spec PyProof.Rows L2
section
variable {P : Program} {w : World} {K : PySem.W.Frag} {mg : Str → Option Value} {base : Heap}
theorem ei_BadTable : FnScope ["self", "part"] ["self", "part"] (defScope (cst 8 0)) := ⟨rfl, rfl, rfl, by decide +kernel, rfl, by decide +kernel, by decide +kernel⟩
theorem en_BadTable (g : Gd K mg base) : ExN T0 P w K mg base 1 "BadTable" 1 [6] := by
  obtain ⟨fd, F⟩ := g.c.def_ 0 (d := hd0) rfl
  have hx := g.c.extra 0 (f := exnB "BadTable" ["part"]) rfl
  have O : OexC K (T0.ca K 1) := oexB_ok (Bool.and_eq_true_iff.mp hx).1
  exact ⟨⟨_, fd, ["self", "part"], (g.glo 0), O, (exnB_init hx).1, (exnB_init hx).2, init1 F ei_BadTable O (exnB_no hx (List.mem_of_getElem? (i := 0) rfl)), F.bindsN (fun _ _ _ _ _ _ us hl => match us, hl with | [_, _], _ => rfl)⟩, by decide, by decide⟩
theorem ei_TooMany : FnScope ["self", "what", "most"] ["self", "what", "most"] (defScope (cst 11 0)) := ⟨rfl, rfl, rfl, by decide +kernel, rfl, by decide +kernel, by decide +kernel⟩
theorem en_TooMany (g : Gd K mg base) : ExN T0 P w K mg base 1 "TooMany" 2 [7, 8] := by
  obtain ⟨fd, F⟩ := g.c.def_ 1 (d := hd1) rfl
  have hx := g.c.extra 1 (f := exnB "TooMany" ["what", "most"]) rfl
  have O : OexC K (T0.ca K 2) := oexB_ok (Bool.and_eq_true_iff.mp hx).1
  exact ⟨⟨_, fd, ["self", "what", "most"], (g.glo 1), O, (exnB_init hx).1, (exnB_init hx).2, init2 F ei_TooMany O (exnB_no hx (List.mem_of_getElem? (i := 0) rfl)) (exnB_no hx (List.mem_of_getElem? (i := 1) rfl)), F.bindsN (fun _ _ _ _ _ _ us hl => match us, hl with | [_, _, _], _ => rfl)⟩, by decide, by decide⟩
theorem ei_BadNumber : FnScope ["self", "value"] ["self", "value"] (defScope (cst 7 0)) := ⟨rfl, rfl, rfl, by decide +kernel, rfl, by decide +kernel, by decide +kernel⟩
theorem en_BadNumber (g : Gd K mg base) : ExN T0 P w K mg base 1 "BadNumber" 3 [9] := by
  obtain ⟨fd, F⟩ := g.c.def_ 2 (d := hd2) rfl
  have hx := g.c.extra 2 (f := exnB "BadNumber" ["value"]) rfl
  have O : OexC K (T0.ca K 3) := oexB_ok (Bool.and_eq_true_iff.mp hx).1
  exact ⟨⟨_, fd, ["self", "value"], (g.glo 2), O, (exnB_init hx).1, (exnB_init hx).2, init1 F ei_BadNumber O (exnB_no hx (List.mem_of_getElem? (i := 0) rfl)), F.bindsN (fun _ _ _ _ _ _ us hl => match us, hl with | [_, _], _ => rfl)⟩, by decide, by decide⟩
theorem ei_BadBase : FnScope ["self", "value"] ["self", "value"] (defScope (cst 3 0)) := ⟨rfl, rfl, rfl, by decide +kernel, rfl, by decide +kernel, by decide +kernel⟩
theorem en_BadBase (g : Gd K mg base) : ExN T0 P w K mg base 1 "BadBase" 8 [9] := by
  obtain ⟨fd, F⟩ := g.c.def_ 3 (d := hd3) rfl
  have hx := g.c.extra 3 (f := exnB "BadBase" ["value"]) rfl
  have O : OexC K (T0.ca K 8) := oexB_ok (Bool.and_eq_true_iff.mp hx).1
  exact ⟨⟨_, fd, ["self", "value"], (g.glo 3), O, (exnB_init hx).1, (exnB_init hx).2, init1 F ei_BadBase O (exnB_no hx (List.mem_of_getElem? (i := 0) rfl)), F.bindsN (fun _ _ _ _ _ _ us hl => match us, hl with | [_, _], _ => rfl)⟩, by decide, by decide⟩
theorem ei_BadName : FnScope ["self", "value"] ["self", "value"] (defScope (cst 5 0)) := ⟨rfl, rfl, rfl, by decide +kernel, rfl, by decide +kernel, by decide +kernel⟩
theorem en_BadName (g : Gd K mg base) : ExN T0 P w K mg base 1 "BadName" 9 [9] := by
  obtain ⟨fd, F⟩ := g.c.def_ 4 (d := hd4) rfl
  have hx := g.c.extra 4 (f := exnB "BadName" ["value"]) rfl
  have O : OexC K (T0.ca K 9) := oexB_ok (Bool.and_eq_true_iff.mp hx).1
  exact ⟨⟨_, fd, ["self", "value"], (g.glo 4), O, (exnB_init hx).1, (exnB_init hx).2, init1 F ei_BadName O (exnB_no hx (List.mem_of_getElem? (i := 0) rfl)), F.bindsN (fun _ _ _ _ _ _ us hl => match us, hl with | [_, _], _ => rfl)⟩, by decide, by decide⟩
theorem ei_BadWidth : FnScope ["self", "value"] ["self", "value"] (defScope (cst 4 0)) := ⟨rfl, rfl, rfl, by decide +kernel, rfl, by decide +kernel, by decide +kernel⟩
theorem en_BadWidth (g : Gd K mg base) : ExN T0 P w K mg base 1 "BadWidth" 5 [9] := by
  obtain ⟨fd, F⟩ := g.c.def_ 5 (d := hd5) rfl
  have hx := g.c.extra 5 (f := exnB "BadWidth" ["value"]) rfl
  have O : OexC K (T0.ca K 5) := oexB_ok (Bool.and_eq_true_iff.mp hx).1
  exact ⟨⟨_, fd, ["self", "value"], (g.glo 5), O, (exnB_init hx).1, (exnB_init hx).2, init1 F ei_BadWidth O (exnB_no hx (List.mem_of_getElem? (i := 0) rfl)), F.bindsN (fun _ _ _ _ _ _ us hl => match us, hl with | [_, _], _ => rfl)⟩, by decide, by decide⟩
theorem ei_Unlike : FnScope ["self", "part"] ["self", "part"] (defScope (cst 10 0)) := ⟨rfl, rfl, rfl, by decide +kernel, rfl, by decide +kernel, by decide +kernel⟩
theorem en_Unlike (g : Gd K mg base) : ExN T0 P w K mg base 1 "Unlike" 7 [6] := by
  obtain ⟨fd, F⟩ := g.c.def_ 6 (d := hd6) rfl
  have hx := g.c.extra 6 (f := exnB "Unlike" ["part"]) rfl
  have O : OexC K (T0.ca K 7) := oexB_ok (Bool.and_eq_true_iff.mp hx).1
  exact ⟨⟨_, fd, ["self", "part"], (g.glo 6), O, (exnB_init hx).1, (exnB_init hx).2, init1 F ei_Unlike O (exnB_no hx (List.mem_of_getElem? (i := 0) rfl)), F.bindsN (fun _ _ _ _ _ _ us hl => match us, hl with | [_, _], _ => rfl)⟩, by decide, by decide⟩
theorem ei_BadWord : FnScope ["self", "value"] ["self", "value"] (defScope (cst 6 0)) := ⟨rfl, rfl, rfl, by decide +kernel, rfl, by decide +kernel, by decide +kernel⟩
theorem en_BadWord (g : Gd K mg base) : ExN T0 P w K mg base 1 "BadWord" 6 [9] := by
  obtain ⟨fd, F⟩ := g.c.def_ 7 (d := hd7) rfl
  have hx := g.c.extra 7 (f := exnB "BadWord" ["value"]) rfl
  have O : OexC K (T0.ca K 6) := oexB_ok (Bool.and_eq_true_iff.mp hx).1
  exact ⟨⟨_, fd, ["self", "value"], (g.glo 7), O, (exnB_init hx).1, (exnB_init hx).2, init1 F ei_BadWord O (exnB_no hx (List.mem_of_getElem? (i := 0) rfl)), F.bindsN (fun _ _ _ _ _ _ us hl => match us, hl with | [_, _], _ => rfl)⟩, by decide, by decide⟩
abbrev nm_is_whole : List Str := ["value"]
theorem sc_is_whole : FnScope ["value"] ["value"] (defScope (top 17)) := ⟨rfl, rfl, rfl, by decide +kernel, rfl, by decide +kernel, by decide +kernel⟩
theorem fn_is_whole (g : Gd K mg base) : Fn T0 P w K mg base 1 "is_whole" ["value"] d_is_whole := by
  obtain ⟨fd, F⟩ := g.c.def_ 8 (d := hd8) rfl
  refine ⟨⟨_, fd, (g.glo 11), F.kp, fng_of F sc_is_whole fun cdv hc A outer s H E c => ?_, F.bindsN (fun _ _ _ _ _ _ us hl => match us, hl with | [_], _ => rfl), kw_of F (fun _ _ _ _ _ _ ws hl => match ws, hl with | [_], _ => rfl), lk_of F⟩, arity_d⟩
  exact jb_one (js_ret (je_and (je_callB cr_isi (cz_isiX g.ki) (g.free 9) (ja_cons (je_var 0) (ja_cons (je_ty (g.free 8) rfl) (ja_nil)))) (je_one (je_not (je_callB cr_isi (cz_isiX g.ki) (g.free 9) (ja_cons (je_var 0) (ja_cons (je_ty (g.free 10) rfl) (ja_nil))))))))
abbrev nm_is_name : List Str := ["value", "sign"]
theorem sc_is_name : FnScope ["value", "sign"] ["value"] (defScope (top 18)) := ⟨rfl, rfl, rfl, by decide +kernel, rfl, by decide +kernel, by decide +kernel⟩
theorem fn_is_name (g : Gd K mg base) : Fn T0 P w K mg base 1 "is_name" ["value"] d_is_name := by
  obtain ⟨fd, F⟩ := g.c.def_ 9 (d := hd9) rfl
  refine ⟨⟨_, fd, (g.glo 18), F.kp, fng_of F sc_is_name fun cdv hc A outer s H E c => ?_, F.bindsN (fun _ _ _ _ _ _ us hl => match us, hl with | [_], _ => rfl), kw_of F (fun _ _ _ _ _ _ ws hl => match ws, hl with | [_], _ => rfl), lk_of F⟩, arity_d⟩
  exact jb_cons (js_if (PW.pt (jw_or (jt_not (jt_tru (je_callB cr_isi (cz_isiX g.ki) (g.free 9) (ja_cons (je_var 0) (ja_cons (je_ty (g.free 12) rfl) (ja_nil)))))) (jw_or (jt_not (jt_chain op_leZ oz_le op_leZ oz_le (je_int) (je_callB cr_len cz_len (g.free 13) (ja_cons (je_var 0) (ja_nil))) (je_gint (g.int 14)))) (jw_or1 (jt_cmp (op_notInD c.hu1) (oz_inD true) (je_sub c.hu1 (je_var 0) (je_int)) (je_gstr (g.str 15))))))) (jb_one (js_ret (je_bl))) (jb_nil)) (jb_one (js_ret (je_callB (cr_all c.calm) cz_all (g.free 17) (ja_cons (je_lc [("sign", 1)] c.calm c.nd (ji_dct (je_var 0)) ⟨fun _ _ _ _ _ => jg_n 1 c.blk.nd, fun _ _ _ _ _ => jts_nil, fun _ _ _ _ _ => je_or (je_cmp (op_inD c.blk.hu1) (oz_inD false) (je_var 1) (je_gstr (g.str 15))) (je_one (je_cmp (op_inD c.blk.hu1) (oz_inD false) (je_var 1) (je_gstr (g.str 16))))⟩ (blkOk_by (N := nm_is_name) (sc := defScope (top 18)) (by decide +kernel))) (ja_nil)))))
abbrev nm_are_digits : List Str := ["value", "base", "sign"]
theorem sc_are_digits : FnScope ["value", "base", "sign"] ["value", "base"] (defScope (top 19)) := ⟨rfl, rfl, rfl, by decide +kernel, rfl, by decide +kernel, by decide +kernel⟩
theorem fn_are_digits (g : Gd K mg base) : Fn T0 P w K mg base 1 "are_digits" ["value", "base"] d_are_digits := by
  obtain ⟨fd, F⟩ := g.c.def_ 10 (d := hd10) rfl
  refine ⟨⟨_, fd, (g.glo 20), F.kp, fng_of F sc_are_digits fun cdv hc A outer s H E c => ?_, F.bindsN (fun _ _ _ _ _ _ us hl => match us, hl with | [_, _], _ => rfl), kw_of F (fun _ _ _ _ _ _ ws hl => match ws, hl with | [_, _], _ => rfl), lk_of F⟩, arity_d⟩
  exact jb_one (js_ret (je_and (je_callB cr_isi (cz_isiX g.ki) (g.free 9) (ja_cons (je_var 0) (ja_cons (je_ty (g.free 12) rfl) (ja_nil)))) (je_one (je_callB (cr_all c.calm) cz_all (g.free 17) (ja_cons (je_lc [("sign", 2)] c.calm c.nd (ji_dct (je_var 0)) ⟨fun _ _ _ _ _ => jg_n 2 c.blk.nd, fun _ _ _ _ _ => jts_nil, fun _ _ _ _ _ => je_cmp (op_inD c.blk.hu1) (oz_inD false) (je_var 2) (je_sli (je_gstr (g.str 19)) (jo_none) (jo_some (je_var 1)))⟩ (blkOk_by (N := nm_are_digits) (sc := defScope (top 19)) (by decide +kernel))) (ja_nil))))))
abbrev nm_is_letter : List Str := ["value", "base", "width"]
theorem sc_is_letter : FnScope ["value", "base", "width"] ["value", "base", "width"] (defScope (top 20)) := ⟨rfl, rfl, rfl, by decide +kernel, rfl, by decide +kernel, by decide +kernel⟩
theorem fn_is_letter (g : Gd K mg base) : Fn T0 P w K mg base 2 "is_letter" ["value", "base", "width"] d_is_letter := by
  obtain ⟨fd, F⟩ := g.c.def_ 11 (d := hd11) rfl
  refine ⟨⟨_, fd, (g.glo 21), F.kp, fng_of F sc_is_letter fun cdv hc A outer s H E c => ?_, F.bindsN (fun _ _ _ _ _ _ us hl => match us, hl with | [_, _, _], _ => rfl), kw_of F (fun _ _ _ _ _ _ ws hl => match ws, hl with | [_, _, _], _ => rfl), lk_of F⟩, arity_d⟩
  exact jb_one (js_ret (je_and (je_fn c (fn_are_digits g).clo (ja_cons (je_var 0) (ja_cons (je_var 1) (ja_nil))) (by decide)) (je_one (je_cmp (op_eqQ (g.c.extra 8 (f := smB) rfl) c.hu) oz_eqQ (je_callB cr_len cz_len (g.free 13) (ja_cons (je_var 0) (ja_nil))) (je_var 2)))))
abbrev nm_counted : List Str := ["table", "index", "at", "state", "rows", "key", "goal", "steps", "letter", "weight", "ends"]
theorem sc_counted : FnScope ["table", "index", "at", "state", "rows", "key", "goal", "steps", "letter", "weight", "ends"] ["table"] (defScope (top 25)) := ⟨rfl, rfl, rfl, by decide +kernel, rfl, by decide +kernel, by decide +kernel⟩
theorem fn_counted (g : Gd K mg base) : Fn T0 P w K mg base 1 "counted" ["table"] d_counted := by
  obtain ⟨fd, F⟩ := g.c.def_ 12 (d := hd12) rfl
  refine ⟨⟨_, fd, (g.glo 23), F.kp, fng_of F sc_counted fun cdv hc A outer s H E c => ?_, F.bindsN (fun _ _ _ _ _ _ us hl => match us, hl with | [_], _ => rfl), kw_of F (fun _ _ _ _ _ _ ws hl => match ws, hl with | [_], _ => rfl), lk_of F⟩, arity_d⟩
  exact jb_cons (js_set 1 c.nd (je_dc [("at", 2), ("state", 3)] c (ji_enuG (g.free 22) (ja_cons (je_attr 5 g.tb0 (je_var 0)) (ja_nil))) ⟨fun _ _ _ _ _ => jg_t c.blk.calm (jgs_cons (jg_n 2 c.blk.nd) (jgs_cons (jg_n 3 c.blk.nd) (jgs_nil))), fun _ _ _ _ _ => jts_nil, fun _ _ _ _ _ => je_var 3, fun _ _ _ _ _ => je_var 2⟩ (blkOk_by (N := nm_counted) (sc := defScope (top 25)) (by decide +kernel)))) (jb_cons (js_setLc2 4 [("key", 5), ("goal", 6)] [6] c.calm c.nd (ji_dct (je_attr 3 g.tb0 (je_var 0))) ⟨fun _ _ _ _ _ => jg_n 5 c.blk.nd, fun _ _ _ _ _ => jts_nil, fun _ _ _ _ _ => ji_dct (je_sub c.blk.hu1 (je_attr 3 g.tb0 (je_var 0)) (je_var 5)), fun _ _ _ _ _ => jg_n 6 c.blk.nd, fun _ _ _ _ _ => jts_nil, fun _ _ _ _ _ => je_tup (ja_cons (je_sub c.blk.hu1 (je_var 5) (je_int)) (ja_cons (je_sub c.blk.hu1 (je_var 5) (je_int)) (ja_cons (je_var 6) (ja_cons (je_sub c.blk.hu1 (je_sub c.blk.hu1 (je_attr 3 g.tb0 (je_var 0)) (je_var 5)) (je_var 6)) (ja_nil)))))⟩ (blkOk_by (N := nm_counted) (sc := defScope (top 25)) (by decide +kernel))) (jb_cons (js_setLc 7 [("state", 3), ("letter", 8), ("goal", 6), ("weight", 9)] c.calm c.nd (ji_dct (je_var 4)) ⟨fun _ _ _ _ _ => jg_t c.blk.calm (jgs_cons (jg_n 3 c.blk.nd) (jgs_cons (jg_n 8 c.blk.nd) (jgs_cons (jg_n 6 c.blk.nd) (jgs_cons (jg_n 9 c.blk.nd) (jgs_nil))))), fun _ _ _ _ _ => jts_nil, fun _ _ _ _ _ => je_tup (ja_cons (je_sub c.blk.hu1 (je_var 1) (je_var 3)) (ja_cons (je_var 8) (ja_cons (je_sub c.blk.hu1 (je_var 1) (je_var 6)) (ja_cons (je_var 9) (ja_nil)))))⟩ (blkOk_by (N := nm_counted) (sc := defScope (top 25)) (by decide +kernel))) (jb_cons (js_setLc 10 [("state", 3)] c.calm c.nd (ji_dct (je_attr 5 g.tb0 (je_var 0))) ⟨fun _ _ _ _ _ => jg_n 3 c.blk.nd, fun _ _ _ _ _ => jts_nil, fun _ _ _ _ _ => je_if (jt_cmp (op_inD c.blk.hu1) (oz_inD false) (je_var 3) (je_attr 4 g.tb0 (je_var 0))) (je_sub c.blk.hu1 (je_attr 4 g.tb0 (je_var 0)) (je_var 3)) (je_int)⟩ (blkOk_by (N := nm_counted) (sc := defScope (top 25)) (by decide +kernel))) (jb_one (js_ret (je_tup (ja_cons (je_callB cr_len cz_len (g.free 13) (ja_cons (je_var 10) (ja_nil))) (ja_cons (je_sub c.hu1 (je_var 1) (je_attr 2 g.tb0 (je_var 0))) (ja_cons (je_var 7) (ja_cons (je_var 10) (ja_nil)))))))))))
abbrev nm_gathered : List Str := ["steps", "told", "at", "step", "found", "text", "row"]
theorem sc_gathered : FnScope ["steps", "told", "at", "step", "found", "text", "row"] ["steps"] (defScope (top 26)) := ⟨rfl, rfl, rfl, by decide +kernel, rfl, by decide +kernel, by decide +kernel⟩
theorem fn_gathered (g : Gd K mg base) : Fn T0 P w K mg base 1 "gathered" ["steps"] d_gathered := by
  obtain ⟨fd, F⟩ := g.c.def_ 13 (d := hd13) rfl
  refine ⟨⟨_, fd, (g.glo 25), F.kp, fng_of F sc_gathered fun cdv hc A outer s H E c => ?_, F.bindsN (fun _ _ _ _ _ _ us hl => match us, hl with | [_], _ => rfl), kw_of F (fun _ _ _ _ _ _ ws hl => match ws, hl with | [_], _ => rfl), lk_of F⟩, arity_d⟩
  exact jb_cons (js_setLc 1 [("at", 2), ("step", 3)] c.calm c.nd (ji_enuG (g.free 22) (ja_cons (je_var 0) (ja_nil))) ⟨fun _ _ _ _ _ => jg_t c.blk.calm (jgs_cons (jg_n 2 c.blk.nd) (jgs_cons (jg_n 3 c.blk.nd) (jgs_nil))), fun _ _ _ _ _ => jts_nil, fun _ _ _ _ _ => je_joined (.cons (je_fmt8 (je_callT cr_str cz_str (g.free 12) (ja_cons (je_sub c.blk.hu1 (je_var 3) (je_int)) (ja_nil))) (je_joined1 je_str)) (.cons (je_str) (.cons (je_fmt (je_sub c.blk.hu1 (je_var 3) (je_int))) (.cons (je_str) (.cons (je_fmt8 (je_callT cr_str cz_str (g.free 12) (ja_cons (je_sub c.blk.hu1 (je_var 3) (je_int)) (ja_nil))) (je_joined1 je_str)) (.cons (je_str) (.cons (je_fmt7 (je_var 2) (je_joined1 je_str)) (.nil))))))))⟩ (blkOk_by (N := nm_gathered) (sc := defScope (top 26)) (by decide +kernel))) (jb_cons (js_set 4 c.nd (je_lstM (ja_nil))) (jb_cons (js_for c.own c.calm (ji_val (je_callB cr_sortedS cz_srt (g.free 24) (ja_cons (je_lc [("text", 5)] c.calm c.nd (ji_dct (je_var 1)) ⟨fun _ _ _ _ _ => jg_n 5 c.blk.nd, fun _ _ _ _ _ => jts_nil, fun _ _ _ _ _ => je_callT cr_str cz_str (g.free 12) (ja_cons (je_var 5) (ja_nil))⟩ (blkOk_by (N := nm_gathered) (sc := defScope (top 26)) (by decide +kernel))) (ja_nil)))) (jg_n 5 c.nd) (jb_cons (js_set 6 c.nd (je_sub c.hu1 (je_var 0) (je_callT cr_int cz_intX (g.free 8) (ja_cons (je_sli (je_var 5) (jo_some (je_neg (je_int))) (jo_none)) (ja_nil))))) (jb_one (js_if (PW.pt (jw_and (jt_cmp (op_neQ (g.c.extra 8 (f := smB) rfl) c.hu) oz_neQ (je_var 4) (je_lst (ja_nil))) (jw_and1 (jt_cmp (op_eqQ (g.c.extra 8 (f := smB) rfl) c.hu) oz_eqQ (je_sli (je_sub c.hu1 (je_var 4) (je_neg (je_int))) (jo_none) (jo_some (je_int))) (je_sli (je_var 6) (jo_none) (jo_some (je_int))))))) (jb_one (js_asg (je_tup (ja_starD c.calm (je_sli (je_var 6) (jo_none) (jo_some (je_int))) (ja_cons (je_bin op_addZ oz_add (je_sub c.hu1 (je_sub c.hu1 (je_var 4) (je_neg (je_int))) (je_int)) (je_sub c.hu1 (je_var 6) (je_int))) (ja_nil)))) (jgz_d (E := fun _ => E) c.hu1 (je_var 4) (je_neg (je_int))))) (jb_one (js_expr (je_append (je_var 4) (je_var 6)))))))) (jb_one (js_ret (je_lc [("row", 6)] c.calm c.nd (ji_dct (je_var 4)) ⟨fun _ _ _ _ _ => jg_n 6 c.blk.nd, fun _ _ _ _ _ => jts_one (jt_cmp (op_neQ (g.c.extra 8 (f := smB) rfl) c.blk.hu) oz_neQ (je_sub c.blk.hu1 (je_var 6) (je_int)) (je_int)), fun _ _ _ _ _ => je_var 6⟩ (blkOk_by (N := nm_gathered) (sc := defScope (top 26)) (by decide +kernel)))))))
abbrev nm_need_base : List Str := ["base"]
theorem sc_need_base : FnScope ["base"] ["base"] (defScope (top 46)) := ⟨rfl, rfl, rfl, by decide +kernel, rfl, by decide +kernel, by decide +kernel⟩
theorem fn_need_base (g : Gd K mg base) : Fn T0 P w K mg base 3 "need_base" ["base"] d_need_base := by
  obtain ⟨fd, F⟩ := g.c.def_ 14 (d := hd14) rfl
  refine ⟨⟨_, fd, (g.glo 26), F.kp, fng_of F sc_need_base fun cdv hc A outer s H E c => ?_, F.bindsN (fun _ _ _ _ _ _ us hl => match us, hl with | [_], _ => rfl), kw_of F (fun _ _ _ _ _ _ ws hl => match ws, hl with | [_], _ => rfl), lk_of F⟩, arity_d⟩
  exact jb_one (js_if (PW.pt (jw_or (jt_not (jt_tru (je_fn c (fn_is_whole g).clo (ja_cons (je_var 0) (ja_nil)) (by decide)))) (jw_or1 (jt_not (jt_chain op_leZ oz_le op_leZ oz_le (je_int) (je_var 0) (je_int)))))) (jb_one (js_raise c (en_BadBase g) (ja_cons (je_var 0) (ja_nil)))) (jb_nil))
abbrev nm_need_width : List Str := ["width", "least"]
theorem sc_need_width : FnScope ["width", "least"] ["width", "least"] (defScope (top 47)) := ⟨rfl, rfl, rfl, by decide +kernel, rfl, by decide +kernel, by decide +kernel⟩
theorem fn_need_width (g : Gd K mg base) : Fn T0 P w K mg base 3 "need_width" ["width", "least"] d_need_width := by
  obtain ⟨fd, F⟩ := g.c.def_ 15 (d := hd15) rfl
  refine ⟨⟨_, fd, (g.glo 27), F.kp, fng_of F sc_need_width fun cdv hc A outer s H E c => ?_, F.bindsN (fun _ _ _ _ _ _ us hl => match us, hl with | [_, _], _ => rfl), kw_of F (fun _ _ _ _ _ _ ws hl => match ws, hl with | [_, _], _ => rfl), lk_of F⟩, arity_d⟩
  exact jb_one (js_if (PW.pt (jw_or (jt_not (jt_tru (je_fn c (fn_is_whole g).clo (ja_cons (je_var 0) (ja_nil)) (by decide)))) (jw_or1 (jt_not (jt_chain op_leZ oz_le op_leZ oz_le (je_var 1) (je_var 0) (je_int)))))) (jb_one (js_raise c (en_BadWidth g) (ja_cons (je_var 0) (ja_nil)))) (jb_nil))
abbrev nm_need_name : List Str := ["value"]
theorem sc_need_name : FnScope ["value"] ["value"] (defScope (top 48)) := ⟨rfl, rfl, rfl, by decide +kernel, rfl, by decide +kernel, by decide +kernel⟩
theorem fn_need_name (g : Gd K mg base) : Fn T0 P w K mg base 3 "need_name" ["value"] d_need_name := by
  obtain ⟨fd, F⟩ := g.c.def_ 16 (d := hd16) rfl
  refine ⟨⟨_, fd, (g.glo 28), F.kp, fng_of F sc_need_name fun cdv hc A outer s H E c => ?_, F.bindsN (fun _ _ _ _ _ _ us hl => match us, hl with | [_], _ => rfl), kw_of F (fun _ _ _ _ _ _ ws hl => match ws, hl with | [_], _ => rfl), lk_of F⟩, arity_d⟩
  exact jb_one (js_if (jt_not (jt_tru (je_fn c (fn_is_name g).clo (ja_cons (je_var 0) (ja_nil)) (by decide)))) (jb_one (js_raise c (en_BadName g) (ja_cons (je_var 0) (ja_nil)))) (jb_nil))
abbrev nm_is_weights : List Str := ["value", "key"]
theorem sc_is_weights : FnScope ["value", "key"] ["value"] (defScope (top 49)) := ⟨rfl, rfl, rfl, by decide +kernel, rfl, by decide +kernel, by decide +kernel⟩
theorem fn_is_weights (g : Gd K mg base) : Fn T0 P w K mg base 2 "is_weights" ["value"] d_is_weights := by
  obtain ⟨fd, F⟩ := g.c.def_ 17 (d := hd17) rfl
  refine ⟨⟨_, fd, (g.glo 30), F.kp, fng_of F sc_is_weights fun cdv hc A outer s H E c => ?_, F.bindsN (fun _ _ _ _ _ _ us hl => match us, hl with | [_], _ => rfl), kw_of F (fun _ _ _ _ _ _ ws hl => match ws, hl with | [_], _ => rfl), lk_of F⟩, arity_d⟩
  exact jb_one (js_ret (je_and (je_callB cr_isi (cz_isiX g.ki) (g.free 9) (ja_cons (je_var 0) (ja_cons (je_ty (g.free 29) rfl) (ja_nil)))) (je_one (je_callB (cr_all c.calm) cz_all (g.free 17) (ja_cons (je_lc [("key", 1)] c.calm c.nd (ji_dct (je_var 0)) ⟨fun _ _ _ _ _ => jg_n 1 c.blk.nd, fun _ _ _ _ _ => jts_nil, fun _ _ _ _ _ => je_and (je_fn c.blk (fn_is_name g).clo (ja_cons (je_var 1) (ja_nil)) (by decide)) (je_one (je_fn c.blk (fn_is_whole g).clo (ja_cons (je_sub c.blk.hu1 (je_var 0) (je_var 1)) (ja_nil)) (by decide)))⟩ (blkOk_by (N := nm_is_weights) (sc := defScope (top 49)) (by decide +kernel))) (ja_nil))))))
abbrev nm_is_key : List Str := ["value", "base", "width"]
theorem sc_is_key : FnScope ["value", "base", "width"] ["value", "base", "width"] (defScope (top 50)) := ⟨rfl, rfl, rfl, by decide +kernel, rfl, by decide +kernel, by decide +kernel⟩
theorem fn_is_key (g : Gd K mg base) : Fn T0 P w K mg base 3 "is_key" ["value", "base", "width"] d_is_key := by
  obtain ⟨fd, F⟩ := g.c.def_ 18 (d := hd18) rfl
  refine ⟨⟨_, fd, (g.glo 32), F.kp, fng_of F sc_is_key fun cdv hc A outer s H E c => ?_, F.bindsN (fun _ _ _ _ _ _ us hl => match us, hl with | [_, _, _], _ => rfl), kw_of F (fun _ _ _ _ _ _ ws hl => match ws, hl with | [_, _, _], _ => rfl), lk_of F⟩, arity_d⟩
  exact jb_cons (js_if (PW.pt (jw_or (jt_not (jt_tru (je_callB cr_isi (cz_isiX g.ki) (g.free 9) (ja_cons (je_var 0) (ja_cons (je_ty (g.free 31) rfl) (ja_nil)))))) (jw_or1 (jt_cmp (op_neQ (g.c.extra 8 (f := smB) rfl) c.hu) oz_neQ (je_callB cr_len cz_len (g.free 13) (ja_cons (je_var 0) (ja_nil))) (je_int))))) (jb_one (js_ret (je_bl))) (jb_nil)) (jb_one (js_ret (je_and (je_fn c (fn_is_name g).clo (ja_cons (je_sub c.hu1 (je_var 0) (je_int)) (ja_nil)) (by decide)) (je_one (je_fn c (fn_is_letter g).clo (ja_cons (je_sub c.hu1 (je_var 0) (je_int)) (ja_cons (je_var 1) (ja_cons (je_var 2) (ja_nil)))) (by decide))))))
abbrev nm_is_steps : List Str := ["value", "base", "width", "key"]
theorem sc_is_steps : FnScope ["value", "base", "width", "key"] ["value", "base", "width"] (defScope (top 51)) := ⟨rfl, rfl, rfl, by decide +kernel, rfl, by decide +kernel, by decide +kernel⟩
theorem fn_is_steps (g : Gd K mg base) : Fn T0 P w K mg base 4 "is_steps" ["value", "base", "width"] d_is_steps := by
  obtain ⟨fd, F⟩ := g.c.def_ 19 (d := hd19) rfl
  refine ⟨⟨_, fd, (g.glo 33), F.kp, fng_of F sc_is_steps fun cdv hc A outer s H E c => ?_, F.bindsN (fun _ _ _ _ _ _ us hl => match us, hl with | [_, _, _], _ => rfl), kw_of F (fun _ _ _ _ _ _ ws hl => match ws, hl with | [_, _, _], _ => rfl), lk_of F⟩, arity_d⟩
  exact jb_cons (js_if (jt_not (jt_tru (je_callB cr_isi (cz_isiX g.ki) (g.free 9) (ja_cons (je_var 0) (ja_cons (je_ty (g.free 29) rfl) (ja_nil)))))) (jb_one (js_ret (je_bl))) (jb_nil)) (jb_one (js_ret (je_callB (cr_all c.calm) cz_all (g.free 17) (ja_cons (je_lc [("key", 3)] c.calm c.nd (ji_dct (je_var 0)) ⟨fun _ _ _ _ _ => jg_n 3 c.blk.nd, fun _ _ _ _ _ => jts_nil, fun _ _ _ _ _ => je_and (je_fn c.blk (fn_is_key g).clo (ja_cons (je_var 3) (ja_cons (je_var 1) (ja_cons (je_var 2) (ja_nil)))) (by decide)) (je_one (je_fn c.blk (fn_is_weights g).clo (ja_cons (je_sub c.blk.hu1 (je_var 0) (je_var 3)) (ja_nil)) (by decide)))⟩ (blkOk_by (N := nm_is_steps) (sc := defScope (top 51)) (by decide +kernel))) (ja_nil)))))
abbrev nm_is_step : List Str := ["value", "base", "width"]
theorem sc_is_step : FnScope ["value", "base", "width"] ["value", "base", "width"] (defScope (top 52)) := ⟨rfl, rfl, rfl, by decide +kernel, rfl, by decide +kernel, by decide +kernel⟩
theorem fn_is_step (g : Gd K mg base) : Fn T0 P w K mg base 4 "is_step" ["value", "base", "width"] d_is_step := by
  obtain ⟨fd, F⟩ := g.c.def_ 20 (d := hd20) rfl
  refine ⟨⟨_, fd, (g.glo 34), F.kp, fng_of F sc_is_step fun cdv hc A outer s H E c => ?_, F.bindsN (fun _ _ _ _ _ _ us hl => match us, hl with | [_, _, _], _ => rfl), kw_of F (fun _ _ _ _ _ _ ws hl => match ws, hl with | [_, _, _], _ => rfl), lk_of F⟩, arity_d⟩
  exact jb_cons (js_if (PW.pt (jw_or (jt_not (jt_tru (je_callB cr_isi (cz_isiX g.ki) (g.free 9) (ja_cons (je_var 0) (ja_cons (je_ty (g.free 31) rfl) (ja_nil)))))) (jw_or (jt_cmp (op_neQ (g.c.extra 8 (f := smB) rfl) c.hu) oz_neQ (je_callB cr_len cz_len (g.free 13) (ja_cons (je_var 0) (ja_nil))) (je_int)) (jw_or1 (jt_not (jt_tru (je_fn c (fn_is_key g).clo (ja_cons (je_sli (je_var 0) (jo_none) (jo_some (je_int))) (ja_cons (je_var 1) (ja_cons (je_var 2) (ja_nil)))) (by decide)))))))) (jb_one (js_ret (je_bl))) (jb_nil)) (jb_one (js_ret (je_and (je_fn c (fn_is_whole g).clo (ja_cons (je_sub c.hu1 (je_var 0) (je_int)) (ja_nil)) (by decide)) (je_one (je_fn c (fn_is_name g).clo (ja_cons (je_sub c.hu1 (je_var 0) (je_int)) (ja_nil)) (by decide))))))
abbrev nm_steps_short : List Str := ["steps", "told", "goal", "key"]
theorem sc_steps_short : FnScope ["steps", "told", "goal", "key"] ["steps"] (defScope (top 53)) := ⟨rfl, rfl, rfl, by decide +kernel, rfl, by decide +kernel, by decide +kernel⟩
theorem fn_steps_short (g : Gd K mg base) : Fn T0 P w K mg base 1 "steps_short" ["steps"] d_steps_short := by
  obtain ⟨fd, F⟩ := g.c.def_ 21 (d := hd21) rfl
  refine ⟨⟨_, fd, (g.glo 35), F.kp, fng_of F sc_steps_short fun cdv hc A outer s H E c => ?_, F.bindsN (fun _ _ _ _ _ _ us hl => match us, hl with | [_], _ => rfl), kw_of F (fun _ _ _ _ _ _ ws hl => match ws, hl with | [_], _ => rfl), lk_of F⟩, arity_d⟩
  exact jb_cons (js_set 1 c.nd (je_dc [("key", 3)] c (ji_dct (je_var 0)) ⟨fun _ _ _ _ _ => jg_n 3 c.blk.nd, fun _ _ _ _ _ => jts_nil, fun _ _ _ _ _ => je_var 3, fun _ _ _ _ _ => je_dc [("goal", 2)] c.blk (ji_dct (je_sub c.blk.hu1 (je_var 0) (je_var 3))) ⟨fun _ _ _ _ _ => jg_n 2 c.blk.blk.nd, fun _ _ _ _ _ => jts_one (jt_cmp (op_neQ (g.c.extra 8 (f := smB) rfl) c.blk.blk.hu) oz_neQ (je_sub c.blk.blk.hu1 (je_sub c.blk.blk.hu1 (je_var 0) (je_var 3)) (je_var 2)) (je_int)), fun _ _ _ _ _ => je_var 2, fun _ _ _ _ _ => je_sub c.blk.blk.hu1 (je_sub c.blk.blk.hu1 (je_var 0) (je_var 3)) (je_var 2)⟩ (blkOk_by (by kernel_rfl))⟩ (blkOk_by (N := nm_steps_short) (sc := defScope (top 53)) (by decide +kernel)))) (jb_one (js_ret (je_dc [("key", 3)] c (ji_dct (je_var 1)) ⟨fun _ _ _ _ _ => jg_n 3 c.blk.nd, fun _ _ _ _ _ => jts_one (jt_cmp (op_neQ (g.c.extra 8 (f := smB) rfl) c.blk.hu) oz_neQ (je_sub c.blk.hu1 (je_var 1) (je_var 3)) (je_dct0)), fun _ _ _ _ _ => je_var 3, fun _ _ _ _ _ => je_sub c.blk.hu1 (je_var 1) (je_var 3)⟩ (blkOk_by (N := nm_steps_short) (sc := defScope (top 53)) (by decide +kernel)))))
abbrev nm_states_of : List Str := ["start", "steps", "ends", "goals", "key", "goal", "found", "name"]
theorem sc_states_of : FnScope ["start", "steps", "ends", "goals", "key", "goal", "found", "name"] ["start", "steps", "ends"] (defScope (top 54)) := ⟨rfl, rfl, rfl, by decide +kernel, rfl, by decide +kernel, by decide +kernel⟩
theorem fn_states_of (g : Gd K mg base) : Fn T0 P w K mg base 1 "states_of" ["start", "steps", "ends"] d_states_of := by
  obtain ⟨fd, F⟩ := g.c.def_ 22 (d := hd22) rfl
  refine ⟨⟨_, fd, (g.glo 36), F.kp, fng_of F sc_states_of fun cdv hc A outer s H E c => ?_, F.bindsN (fun _ _ _ _ _ _ us hl => match us, hl with | [_, _, _], _ => rfl), kw_of F (fun _ _ _ _ _ _ ws hl => match ws, hl with | [_, _, _], _ => rfl), lk_of F⟩, arity_d⟩
  exact jb_cons (js_setLc2 3 [("key", 4), ("goal", 5)] [5] c.calm c.nd (ji_dct (je_var 1)) ⟨fun _ _ _ _ _ => jg_n 4 c.blk.nd, fun _ _ _ _ _ => jts_nil, fun _ _ _ _ _ => ji_dct (je_sub c.blk.hu1 (je_var 1) (je_var 4)), fun _ _ _ _ _ => jg_n 5 c.blk.nd, fun _ _ _ _ _ => jts_nil, fun _ _ _ _ _ => je_var 5⟩ (blkOk_by (N := nm_states_of) (sc := defScope (top 54)) (by decide +kernel))) (jb_cons (js_setDc 6 [("name", 7)] c (ji_val (je_lst (ja_cons (je_var 0) (ja_star (je_lc [("key", 4)] c.calm c.nd (ji_dct (je_var 1)) ⟨fun _ _ _ _ _ => jg_n 4 c.blk.nd, fun _ _ _ _ _ => jts_nil, fun _ _ _ _ _ => je_sub c.blk.hu1 (je_var 4) (je_int)⟩ (blkOk_by (N := nm_states_of) (sc := defScope (top 54)) (by decide +kernel))) (ja_starD c.calm (je_var 3) (ja_starD c.calm (je_var 2) (ja_nil))))))) ⟨fun _ _ _ _ _ => jg_n 7 c.blk.nd, fun _ _ _ _ _ => jts_nil, fun _ _ _ _ _ => je_var 7, fun _ _ _ _ _ => je_bl⟩ (blkOk_by (N := nm_states_of) (sc := defScope (top 54)) (by decide +kernel))) (jb_one (js_ret (je_callT call_tuple_of cz_tup (g.free 31) (ja_cons (je_callB cr_sortedS cz_srt (g.free 24) (ja_cons (je_lc [("name", 7)] c.calm c.nd (ji_dct (je_var 6)) ⟨fun _ _ _ _ _ => jg_n 7 c.blk.nd, fun _ _ _ _ _ => jts_nil, fun _ _ _ _ _ => je_callT cr_str cz_str (g.free 12) (ja_cons (je_var 7) (ja_nil))⟩ (blkOk_by (N := nm_states_of) (sc := defScope (top 54)) (by decide +kernel))) (ja_nil))) (ja_nil))))))
abbrev nm_told_steps : List Str := ["steps", "rows", "step", "keys", "row", "key"]
theorem sc_told_steps : FnScope ["steps", "rows", "step", "keys", "row", "key"] ["steps"] (defScope (top 58)) := ⟨rfl, rfl, rfl, by decide +kernel, rfl, by decide +kernel, by decide +kernel⟩
theorem fn_told_steps (g : Gd K mg base) : Fn T0 P w K mg base 2 "told_steps" ["steps"] d_told_steps := by
  obtain ⟨fd, F⟩ := g.c.def_ 23 (d := hd23) rfl
  refine ⟨⟨_, fd, (g.glo 38), F.kp, fng_of F sc_told_steps fun cdv hc A outer s H E c => ?_, F.bindsN (fun _ _ _ _ _ _ us hl => match us, hl with | [_], _ => rfl), kw_of F (fun _ _ _ _ _ _ ws hl => match ws, hl with | [_], _ => rfl), lk_of F⟩, arity_d⟩
  exact jb_cons (js_set 1 c.nd (je_fn c (fn_gathered g).clo (ja_cons (je_lc [("step", 2)] c.calm c.nd (ji_dct (je_var 0)) ⟨fun _ _ _ _ _ => jg_n 2 c.blk.nd, fun _ _ _ _ _ => jts_nil, fun _ _ _ _ _ => je_tup (ja_cons (je_sub c.blk.hu1 (je_var 2) (je_int)) (ja_cons (je_sub c.blk.hu1 (je_var 2) (je_int)) (ja_cons (je_sub c.blk.hu1 (je_var 2) (je_int)) (ja_cons (je_sub c.blk.hu1 (je_var 2) (je_int)) (ja_nil)))))⟩ (blkOk_by (N := nm_told_steps) (sc := defScope (top 58)) (by decide +kernel))) (ja_nil)) (by decide))) (jb_cons (js_set 3 c.nd (je_callT (cr_listD c.calm) cz_listD (g.free 37) (ja_cons (je_dc [("row", 4)] c (ji_dct (je_var 1)) ⟨fun _ _ _ _ _ => jg_n 4 c.blk.nd, fun _ _ _ _ _ => jts_nil, fun _ _ _ _ _ => je_tup (ja_cons (je_sub c.blk.hu1 (je_var 4) (je_int)) (ja_cons (je_sub c.blk.hu1 (je_var 4) (je_int)) (ja_nil))), fun _ _ _ _ _ => je_bl⟩ (blkOk_by (N := nm_told_steps) (sc := defScope (top 58)) (by decide +kernel))) (ja_nil)))) (jb_one (js_ret (je_dc [("key", 5)] c (ji_dct (je_var 3)) ⟨fun _ _ _ _ _ => jg_n 5 c.blk.nd, fun _ _ _ _ _ => jts_nil, fun _ _ _ _ _ => je_var 5, fun _ _ _ _ _ => je_dc [("row", 4)] c.blk (ji_dct (je_var 1)) ⟨fun _ _ _ _ _ => jg_n 4 c.blk.blk.nd, fun _ _ _ _ _ => jts_one (jt_cmp (op_eqQ (g.c.extra 8 (f := smB) rfl) c.blk.blk.hu) oz_eqQ (je_tup (ja_cons (je_sub c.blk.blk.hu1 (je_var 4) (je_int)) (ja_cons (je_sub c.blk.blk.hu1 (je_var 4) (je_int)) (ja_nil)))) (je_var 5)), fun _ _ _ _ _ => je_sub c.blk.blk.hu1 (je_var 4) (je_int), fun _ _ _ _ _ => je_sub c.blk.blk.hu1 (je_var 4) (je_int)⟩ (blkOk_by (by kernel_rfl))⟩ (blkOk_by (N := nm_told_steps) (sc := defScope (top 58)) (by decide +kernel))))))
abbrev nm_need_words : List Str := ["base", "width", "words", "word"]
theorem sc_need_words : FnScope ["base", "width", "words", "word"] ["base", "width", "words"] (defScope (top 60)) := ⟨rfl, rfl, rfl, by decide +kernel, rfl, by decide +kernel, by decide +kernel⟩
theorem fn_need_words (g : Gd K mg base) : Fn T0 P w K mg base 3 "need_words" ["base", "width", "words"] d_need_words := by
  obtain ⟨fd, F⟩ := g.c.def_ 24 (d := hd24) rfl
  refine ⟨⟨_, fd, (g.glo 41), F.kp, fng_of F sc_need_words fun cdv hc A outer s H E c => ?_, F.bindsN (fun _ _ _ _ _ _ us hl => match us, hl with | [_, _, _], _ => rfl), kw_of F (fun _ _ _ _ _ _ ws hl => match ws, hl with | [_, _, _], _ => rfl), lk_of F⟩, arity_d⟩
  exact jb_cons (js_if (jt_cmp (op_eqQ (g.c.extra 8 (f := smB) rfl) c.hu) oz_eqQ (je_var 1) (je_int)) (jb_one (js_raise c (en_BadWidth g) (ja_cons (je_int) (ja_nil)))) (jb_nil)) (jb_cons (js_if (PW.pt (jw_or (jt_cmp op_isZ oz_is (je_var 2) (je_non)) (jw_or1 (jt_cmp (op_neQ (g.c.extra 8 (f := smB) rfl) c.hu) oz_neQ (je_callB cr_len cz_len (g.free 13) (ja_cons (je_var 2) (ja_nil))) (je_var 1))))) (jb_one (js_raise c (en_Unlike g) (ja_cons (je_str) (ja_nil)))) (jb_nil)) (jb_cons (js_for c.own c.calm (ji_dct (je_var 2)) (jg_n 3 c.nd) (jb_one (js_if (PW.pt (jw_or (jt_not (jt_tru (je_fn c (fn_are_digits g).clo (ja_cons (je_var 3) (ja_cons (je_var 0) (ja_nil))) (by decide)))) (jw_or1 (jt_cmp op_gtZ oz_gt (je_callB cr_len cz_len (g.free 13) (ja_cons (je_var 3) (ja_nil))) (je_gint (g.int 39)))))) (jb_one (js_raise c (en_BadWord g) (ja_cons (je_var 3) (ja_nil)))) (jb_nil)))) (jb_one (js_if (jt_tru (je_callB (cr_any c.calm) cz_any (g.free 40) (ja_cons (je_lc [("word", 3)] c.calm c.nd (ji_dct (je_var 2)) ⟨fun _ _ _ _ _ => jg_n 3 c.blk.nd, fun _ _ _ _ _ => jts_nil, fun _ _ _ _ _ => je_cmp (op_neQ (g.c.extra 8 (f := smB) rfl) c.blk.hu) oz_neQ (je_callB cr_len cz_len (g.free 13) (ja_cons (je_var 3) (ja_nil))) (je_callB cr_len cz_len (g.free 13) (ja_cons (je_sub c.blk.hu1 (je_var 2) (je_int)) (ja_nil)))⟩ (blkOk_by (N := nm_need_words) (sc := defScope (top 60)) (by decide +kernel))) (ja_nil)))) (jb_one (js_raise c (en_Unlike g) (ja_cons (je_str) (ja_nil)))) (jb_nil)))))
abbrev nm_moved_row : List Str := ["row", "steps", "found", "number", "state", "letter", "goal", "weight"]
theorem sc_moved_row : FnScope ["row", "steps", "found", "number", "state", "letter", "goal", "weight"] ["row", "steps"] (defScope (top 61)) := ⟨rfl, rfl, rfl, by decide +kernel, rfl, by decide +kernel, by decide +kernel⟩
theorem fn_moved_row (g : Gd K mg base) : Fn T0 P w K mg base 1 "moved_row" ["row", "steps"] d_moved_row := by
  obtain ⟨fd, F⟩ := g.c.def_ 25 (d := hd25) rfl
  refine ⟨⟨_, fd, (g.glo 42), F.kp, fng_of F sc_moved_row fun cdv hc A outer s H E c => ?_, F.bindsN (fun _ _ _ _ _ _ us hl => match us, hl with | [_, _], _ => rfl), kw_of F (fun _ _ _ _ _ _ ws hl => match ws, hl with | [_, _], _ => rfl), lk_of F⟩, arity_d⟩
  exact jb_cons (js_setLcM 2 [("number", 3)] c.calm c.nd (ji_dct (je_var 0)) ⟨fun _ _ _ _ _ => jg_n 3 c.blk.nd, fun _ _ _ _ _ => jts_nil, fun _ _ _ _ _ => je_int⟩ (blkOk_by (N := nm_moved_row) (sc := defScope (top 61)) (by decide +kernel))) (jb_cons (js_for c.own c.calm (ji_dct (je_var 1)) (jg_t c.calm (jgs_cons (jg_n 4 c.nd) (jgs_cons (jg_n 5 c.nd) (jgs_cons (jg_n 6 c.nd) (jgs_cons (jg_n 7 c.nd) (jgs_nil)))))) (jb_one (js_asg (je_bin op_addZ oz_add (je_sub c.hu1 (je_var 2) (je_var 6)) (je_bin op_mulT oz_mulT (je_sub c.hu1 (je_var 0) (je_var 4)) (je_var 7))) (jgz_d (E := fun _ => E) c.hu1 (je_var 2) (je_var 6))))) (jb_one (js_ret (je_var 2))))
abbrev nm_table_value : List Str := ["table", "words", "many", "start", "steps", "ends", "row", "at", "letter", "word", "step"]
theorem sc_table_value : FnScope ["table", "words", "many", "start", "steps", "ends", "row", "at", "letter", "word", "step"] ["table", "words"] (defScope (top 62)) := ⟨rfl, rfl, rfl, by decide +kernel, rfl, by decide +kernel, by decide +kernel⟩
theorem fn_table_value (g : Gd K mg base) : Fn T0 P w K mg base 4 "table_value" ["table", "words"] d_table_value := by
  obtain ⟨fd, F⟩ := g.c.def_ 26 (d := hd26) rfl
  refine ⟨⟨_, fd, (g.glo 45), F.kp, fng_of F sc_table_value fun cdv hc A outer s H E c => ?_, F.bindsN (fun _ _ _ _ _ _ us hl => match us, hl with | [_, _], _ => rfl), kw_of F (fun _ _ _ _ _ _ ws hl => match ws, hl with | [_, _], _ => rfl), lk_of F⟩, arity_d⟩
  exact jb_cons (js_expr (je_fn c (fn_need_words g).clo (ja_cons (je_attr 0 g.tb0 (je_var 0)) (ja_cons (je_attr 1 g.tb0 (je_var 0)) (ja_cons (je_var 1) (ja_nil)))) (by decide))) (jb_cons (js_asg (je_fn c (fn_counted g).clo (ja_cons (je_var 0) (ja_nil)) (by decide)) (jgz_t c.calm (jgzs_cons (jgz_n 2 c.nd) (jgzs_cons (jgz_n 3 c.nd) (jgzs_cons (jgz_n 4 c.nd) (jgzs_cons (jgz_n 5 c.nd) (jgzs_nil))))))) (jb_cons (js_set 6 c.nd (je_lc [("at", 7)] c.calm c.nd (ji_rng1 (g.free 43) (ja_cons (je_var 2) (ja_nil))) ⟨fun _ _ _ _ _ => jg_n 7 c.blk.nd, fun _ _ _ _ _ => jts_nil, fun _ _ _ _ _ => je_callT cr_int cz_intX (g.free 8) (ja_cons (je_cmp (op_eqQ (g.c.extra 8 (f := smB) rfl) c.blk.hu) oz_eqQ (je_var 7) (je_var 3)) (ja_nil))⟩ (blkOk_by (N := nm_table_value) (sc := defScope (top 62)) (by decide +kernel)))) (jb_cons (js_for c.own c.calm (ji_rng1 (g.free 43) (ja_cons (je_callB cr_len cz_len (g.free 13) (ja_cons (je_sub c.hu1 (je_var 1) (je_int)) (ja_nil))) (ja_nil))) (jg_n 7 c.nd) (jb_cons (js_set 8 c.nd (je_join (je_str) (je_lc [("word", 9)] c.calm c.nd (ji_dct (je_var 1)) ⟨fun _ _ _ _ _ => jg_n 9 c.blk.nd, fun _ _ _ _ _ => jts_nil, fun _ _ _ _ _ => je_sub c.blk.hu1 (je_var 9) (je_var 7)⟩ (blkOk_by (N := nm_table_value) (sc := defScope (top 62)) (by decide +kernel))))) (jb_one (js_set 6 c.nd (je_fn c (fn_moved_row g).clo (ja_cons (je_var 6) (ja_cons (je_lc [("step", 10)] c.calm c.nd (ji_dct (je_var 4)) ⟨fun _ _ _ _ _ => jg_n 10 c.blk.nd, fun _ _ _ _ _ => jts_one (jt_cmp (op_eqQ (g.c.extra 8 (f := smB) rfl) c.blk.hu) oz_eqQ (je_sub c.blk.hu1 (je_var 10) (je_int)) (je_var 8)), fun _ _ _ _ _ => je_var 10⟩ (blkOk_by (N := nm_table_value) (sc := defScope (top 62)) (by decide +kernel))) (ja_nil))) (by decide)))))) (jb_one (js_ret (je_callB (cr_sum c.calm) cz_sum (g.free 44) (ja_cons (je_lc [("at", 7)] c.calm c.nd (ji_rng1 (g.free 43) (ja_cons (je_var 2) (ja_nil))) ⟨fun _ _ _ _ _ => jg_n 7 c.blk.nd, fun _ _ _ _ _ => jts_nil, fun _ _ _ _ _ => je_bin op_mulT oz_mulT (je_sub c.blk.hu1 (je_var 6) (je_var 7)) (je_sub c.blk.hu1 (je_var 5) (je_var 7))⟩ (blkOk_by (N := nm_table_value) (sc := defScope (top 62)) (by decide +kernel))) (ja_nil))))))))
abbrev nm__law_pen : List Str := ["_law_script"]
theorem sc__law_pen : FnScope ["_law_script"] ["_law_script"] (defScope (top 70)) := ⟨rfl, rfl, rfl, by decide +kernel, rfl, by decide +kernel, by decide +kernel⟩
theorem fn__law_pen (g : Gd K mg base) : Fn T0 P w K mg base 1 "_law_pen" ["_law_script"] d__law_pen := by
  obtain ⟨fd, F⟩ := g.c.def_ 27 (d := hd27) rfl
  refine ⟨⟨_, fd, (g.glo 46), F.kp, fng_of0 F sc__law_pen fun cdv hc A outer s H E c => ?_, F.bindsN (fun _ _ _ _ _ _ us hl => match us, hl with | [_], _ => rfl), kw_of F (fun _ _ _ _ _ _ ws hl => match ws, hl with | [_], _ => rfl), lk_of F⟩, arity_0⟩
  exact jb_one (js_ret (je_lstM (ja_cons (je_callT (cr_listD c.calm) cz_listD (g.free 37) (ja_cons (je_sli (je_var 0) (jo_none) (jo_some (je_int))) (ja_nil))) (ja_cons (je_int) (ja_cons (je_int) (ja_nil))))))
abbrev nm__law_draw : List Str := ["_law_pen_here", "_law_many", "_law_digit", "_law_turn", "_law_cell", "_law_great", "_law_blend"]
theorem sc__law_draw : FnScope ["_law_pen_here", "_law_many", "_law_digit", "_law_turn", "_law_cell", "_law_great", "_law_blend"] ["_law_pen_here", "_law_many"] (defScope (top 71)) := ⟨rfl, rfl, rfl, by decide +kernel, rfl, by decide +kernel, by decide +kernel⟩
theorem fn__law_draw (g : Gd K mg base) : Fn T0 P w K mg base 1 "_law_draw" ["_law_pen_here", "_law_many"] d__law_draw := by
  obtain ⟨fd, F⟩ := g.c.def_ 28 (d := hd28) rfl
  refine ⟨⟨_, fd, (g.glo 48), F.kp, fng_of F sc__law_draw fun cdv hc A outer s H E c => ?_, F.bindsN (fun _ _ _ _ _ _ us hl => match us, hl with | [_, _], _ => rfl), kw_of F (fun _ _ _ _ _ _ ws hl => match ws, hl with | [_, _], _ => rfl), lk_of F⟩, arity_d⟩
  exact jb_cons (js_if (jt_cmp op_gtZ oz_gt (je_sub c.hu1 (je_var 0) (je_int)) (je_int)) (jb_cons (js_set 2 c.nd (je_bin op_modN oz_mod (je_callT call_int1 cz_int (g.free 8) (ja_cons (je_sub c.hu1 (je_var 0) (je_int)) (ja_nil))) (je_var 1))) (jb_cons (js_asg (je_bin op_divZ oz_div (je_callT call_int1 cz_int (g.free 8) (ja_cons (je_sub c.hu1 (je_var 0) (je_int)) (ja_nil))) (je_var 1)) (jgz_i (E := fun _ => E) (je_var 0) (je_int))) (jb_one (js_ret (je_var 2))))) (jb_nil)) (jb_cons (js_set 3 c.nd (je_sub c.hu1 (je_var 0) (je_int))) (jb_cons (js_asg (je_bin op_addZ oz_add (je_var 3) (je_int)) (jgz_i (E := fun _ => E) (je_var 0) (je_int))) (jb_cons (js_set 4 c.nd (je_bin op_addZ oz_add (je_bin op_mulA oz_mul (je_int) (je_var 3)) (je_int))) (jb_cons (js_if (jt_cmp (op_neZ c.hu) oz_ne (je_sub c.hu1 (je_var 0) (je_int)) (je_lst (ja_nil))) (jb_one (js_set 4 c.nd (je_sub c.hu1 (je_sub c.hu1 (je_var 0) (je_int)) (je_bin op_modN oz_mod (je_callT call_int1 cz_int (g.free 8) (ja_cons (je_var 3) (ja_nil))) (je_callB cr_len cz_len (g.free 13) (ja_cons (je_sub c.hu1 (je_var 0) (je_int)) (ja_nil))))))) (jb_nil)) (jb_cons (js_if (PW.pt (jw_and (jt_cmp op_ltZ oz_lt (je_var 3) (je_callB cr_len cz_len (g.free 13) (ja_cons (je_sub c.hu1 (je_var 0) (je_int)) (ja_nil)))) (jw_and1 (jt_cmp op_geZ oz_ge (je_callB call_abs cz_abs (g.free 47) (ja_cons (je_var 4) (ja_nil))) (je_bin op_pow oz_pow (je_int) (je_int)))))) (jb_cons (js_set 5 c.nd (je_bin op_addZ oz_add (je_bin op_mulA oz_mul (je_int) (je_bin op_sub oz_sub (je_callB call_abs cz_abs (g.free 47) (ja_cons (je_var 4) (ja_nil))) (je_bin op_pow oz_pow (je_int) (je_int)))) (je_callT call_int1 cz_int (g.free 8) (ja_cons (je_cmp op_ltZ oz_lt (je_var 4) (je_int)) (ja_nil))))) (jb_cons (js_asg (je_bin op_divZ oz_div (je_callT call_int1 cz_int (g.free 8) (ja_cons (je_var 5) (ja_nil))) (je_var 1)) (jgz_i (E := fun _ => E) (je_var 0) (je_int))) (jb_one (js_ret (je_bin op_modN oz_mod (je_callT call_int1 cz_int (g.free 8) (ja_cons (je_var 5) (ja_nil))) (je_var 1)))))) (jb_nil)) (jb_cons (js_set 6 c.nd (je_bin op_modN oz_mod (je_callT call_int1 cz_int (g.free 8) (ja_cons (je_bin op_pow oz_pow (je_bin op_addZ oz_add (je_bin op_addZ oz_add (je_bin op_modN oz_mod (je_callT call_int1 cz_int (g.free 8) (ja_cons (je_var 4) (ja_nil))) (je_int)) (je_bin op_mulA oz_mul (je_int) (je_var 3))) (je_int)) (je_int)) (ja_nil))) (je_int))) (jb_cons (js_set 6 c.nd (je_bin op_modN oz_mod (je_callT call_int1 cz_int (g.free 8) (ja_cons (je_bin op_pow oz_pow (je_bin op_addZ oz_add (je_bin op_addZ oz_add (je_bin op_mulA oz_mul (je_var 6) (je_bin op_addZ oz_add (je_bin op_mulA oz_mul (je_int) (je_var 3)) (je_int))) (je_bin op_mulA oz_mul (je_bin op_mulA oz_mul (je_int) (je_var 3)) (je_var 3))) (je_int)) (je_int)) (ja_nil))) (je_int))) (jb_one (js_ret (je_bin op_modN oz_mod (je_callT call_int1 cz_int (g.free 8) (ja_cons (je_bin op_divZ oz_div (je_var 6) (je_int)) (ja_nil))) (je_var 1)))))))))))
abbrev nm__law_pick : List Str := ["_law_pen_here", "_law_some_here"]
theorem sc__law_pick : FnScope ["_law_pen_here", "_law_some_here"] ["_law_pen_here", "_law_some_here"] (defScope (top 72)) := ⟨rfl, rfl, rfl, by decide +kernel, rfl, by decide +kernel, by decide +kernel⟩
theorem fn__law_pick (g : Gd K mg base) : Fn T0 P w K mg base 2 "_law_pick" ["_law_pen_here", "_law_some_here"] d__law_pick := by
  obtain ⟨fd, F⟩ := g.c.def_ 29 (d := hd29) rfl
  refine ⟨⟨_, fd, (g.glo 49), F.kp, fng_of F sc__law_pick fun cdv hc A outer s H E c => ?_, F.bindsN (fun _ _ _ _ _ _ us hl => match us, hl with | [_, _], _ => rfl), kw_of F (fun _ _ _ _ _ _ ws hl => match ws, hl with | [_, _], _ => rfl), lk_of F⟩, arity_d⟩
  exact jb_one (js_ret (je_sub c.hu1 (je_var 1) (je_fn c (fn__law_draw g) (ja_cons (je_var 0) (ja_cons (je_callB cr_len cz_len (g.free 13) (ja_cons (je_var 1) (ja_nil))) (ja_nil))) (by decide))))
abbrev nm_Table___getitem__ : List Str := ["self", "words"]
theorem sc_Table___getitem__ : FnScope ["self", "words"] ["self", "words"] (defScope (cst 55 12)) := ⟨rfl, rfl, rfl, by decide +kernel, rfl, by decide +kernel, by decide +kernel⟩
theorem fm_Table___getitem__ (g : Gd K mg base) : FnM T0 P w K mg base 5 0 "__getitem__" ["self", "words"] d_Table___getitem__ := by
  obtain ⟨fd, F⟩ := g.c.def_ 30 (d := hd30) rfl
  refine ⟨⟨_, fd, He.cls_ok (x := "Table") (g.c.fact 50 (f := .cls "Table") rfl), He.meth_ok (x := "Table") (m := "__getitem__") (g.c.fact 51 (f := .meth "Table" "__getitem__") rfl), ?_, F.bindsN (fun _ _ _ _ _ _ us hl => match us, hl with | [_, _], _ => rfl), kwm_of F (fun _ _ _ _ _ _ v ws hl => match ws, hl with | [_], _ => rfl)⟩, arity_d⟩
  exact fng_of F sc_Table___getitem__ fun cdv hc A outer s H E c => jb_cons (js_if (jt_tru (je_callB cr_isi (cz_isiX g.ki) (g.free 9) (ja_cons (je_var 1) (ja_cons (je_ty (g.free 12) rfl) (ja_nil))))) (jb_one (js_ret (je_fn c (fn_table_value g).clo (ja_cons (je_var 0) (ja_cons (je_tup (ja_cons (je_var 1) (ja_nil))) (ja_nil))) (by decide)))) (jb_nil)) (jb_cons (js_if (jt_not (jt_tru (je_callB cr_isi (cz_isiX g.ki) (g.free 9) (ja_cons (je_var 1) (ja_cons (je_ty (g.free 31) rfl) (ja_nil)))))) (jb_one (js_expr (je_fn c (fn_need_words g).clo (ja_cons (je_attr 0 g.tb0 (je_var 0)) (ja_cons (je_attr 1 g.tb0 (je_var 0)) (ja_cons (je_non) (ja_nil)))) (by decide)))) (jb_nil)) (jb_one (js_ret (je_fn c (fn_table_value g).clo (ja_cons (je_var 0) (ja_cons (je_var 1) (ja_nil))) (by decide)))))
abbrev nm__law_heard : List Str := ["_law_ask", "_law_caught", "_law_found", "error", "_law_some_here"]
theorem sc__law_heard : FnScope ["_law_ask", "_law_caught", "_law_found", "error", "_law_some_here"] ["_law_ask"] (defScope (top 80)) := ⟨rfl, rfl, rfl, by decide +kernel, rfl, by decide +kernel, by decide +kernel⟩
theorem ld__law_heard (g : Gd K mg base) : LamD T0 P w K mg base "_law_heard" 5 b__law_heard := by
  obtain ⟨fd, F⟩ := g.c.def_ 31 (d := hd31) rfl
  exact ⟨_, fd, "_law_ask", nm__law_heard, _, _, _, (g.glo 55), F, F.bindsN (fun _ _ _ _ _ _ us hl => match us, hl with | [_], _ => rfl), sc__law_heard, rfl, rfl, by first | exact Or.inl rfl | exact Or.inr (Or.inl rfl), by decide, by decide, fun x0 tl j cdv A outer s H E c ca => jb_cons (js_asg (je_tup (ja_cons (je_non) (ja_cons (je_non) (ja_nil)))) (jgz_t c.calm (jgzs_cons (jgz_n 1 c.nd) (jgzs_cons (jgz_n 2 c.nd) (jgzs_nil))))) (jb_cons (js_tryAs 3 c ⟨rfl, by decide, .inl (g.glo 52)⟩ (exm_of (g.c.extra 11 (f := exmB T0 4 exm0) rfl)) (fun E3 pn3 xe3 c3 => jb_one (js_set 2 c.nd (ca E3 pn3 xe3 _ _ c3))) (fun _ _ => jb_one (js_set 1 c.nd (je_var 3)))) (jb_keep [1, 2, 3, 4] (jb_cons (js_if (jt_cmp op_isZ oz_is (je_var 1) (je_non)) (jb_one (js_ret (je_lst (ja_cons (je_var 2) (ja_nil))))) (jb_nil)) (jb_cons (js_set 4 c.nd (je_lstM (ja_nil))) (jb_cons (js_if (jt_tru (je_callB cr_isi (cz_isiX g.ki) (g.free 9) (ja_cons (je_var 1) (ja_cons (je_cls (g.glo 2)) (ja_nil))))) (jb_one (js_expr (je_append (je_var 4) (je_tup (ja_cons (je_str) (ja_cons (je_callB (cr_reprG (g.c.extra 8 (f := smB) rfl) c.gd c.hu) cz_reprG (g.free 53) (ja_cons (je_attrE 9 g.tb0 (je_var 1)) (ja_nil))) (ja_nil))))))) (jb_nil)) (jb_cons (js_if (jt_tru (je_callB cr_isi (cz_isiX g.ki) (g.free 9) (ja_cons (je_var 1) (ja_cons (je_cls (g.glo 5)) (ja_nil))))) (jb_one (js_expr (je_append (je_var 4) (je_tup (ja_cons (je_str) (ja_cons (je_callB (cr_reprG (g.c.extra 8 (f := smB) rfl) c.gd c.hu) cz_reprG (g.free 53) (ja_cons (je_attrE 9 g.tb0 (je_var 1)) (ja_nil))) (ja_nil))))))) (jb_nil)) (jb_cons (js_if (jt_tru (je_callB cr_isi (cz_isiX g.ki) (g.free 9) (ja_cons (je_var 1) (ja_cons (je_cls (g.glo 7)) (ja_nil))))) (jb_one (js_expr (je_append (je_var 4) (je_tup (ja_cons (je_str) (ja_cons (je_callB (cr_reprG (g.c.extra 8 (f := smB) rfl) c.gd c.hu) cz_reprG (g.free 53) (ja_cons (je_attrE 9 g.tb0 (je_var 1)) (ja_nil))) (ja_nil))))))) (jb_nil)) (jb_cons (js_if (jt_tru (je_callB cr_isi (cz_isiX g.ki) (g.free 9) (ja_cons (je_var 1) (ja_cons (je_cls (g.glo 6)) (ja_nil))))) (jb_one (js_expr (je_append (je_var 4) (je_tup (ja_cons (je_str) (ja_cons (je_attrE 6 g.tb0 (je_var 1)) (ja_nil))))))) (jb_nil)) (jb_one (js_ret (je_if (PW.pt (jw_and (jt_cmp (op_eqQ (g.c.extra 8 (f := smB) rfl) c.hu) oz_eqQ (je_callB cr_len cz_len (g.free 13) (ja_cons (je_var 4) (ja_nil))) (je_int)) (jw_and1 (jt_tru (je_callB cr_isi (cz_isiX g.ki) (g.free 9) (ja_cons (je_var 1) (ja_cons (je_ty (g.free 54) rfl) (ja_nil)))))))) (je_sub c.hu1 (je_var 4) (je_int)) (je_tup (ja_cons (je_str) (ja_nil))))))))))))))⟩
abbrev nm__law_due : List Str := ["_law_base", "_law_width", "_law_words_here", "_law_word", "_law_sign"]
theorem sc__law_due : FnScope ["_law_base", "_law_width", "_law_words_here", "_law_word", "_law_sign"] ["_law_base", "_law_width", "_law_words_here"] (defScope (top 81)) := ⟨rfl, rfl, rfl, by decide +kernel, rfl, by decide +kernel, by decide +kernel⟩
theorem fn__law_due (g : Gd K mg base) : Fn T0 P w K mg base 1 "_law_due" ["_law_base", "_law_width", "_law_words_here"] d__law_due := by
  obtain ⟨fd, F⟩ := g.c.def_ 32 (d := hd32) rfl
  refine ⟨⟨_, fd, (g.glo 57), F.kp, fng_of F sc__law_due fun cdv hc A outer s H E c => ?_, F.bindsN (fun _ _ _ _ _ _ us hl => match us, hl with | [_, _, _], _ => rfl), kw_of F (fun _ _ _ _ _ _ ws hl => match ws, hl with | [_, _, _], _ => rfl), lk_of F⟩, arity_d⟩
  exact jb_cons (js_if (jt_cmp (op_eqQ (g.c.extra 8 (f := smB) rfl) c.hu) oz_eqQ (je_var 1) (je_int)) (jb_one (js_ret (je_tup (ja_cons (je_str) (ja_cons (je_str) (ja_nil)))))) (jb_nil)) (jb_cons (js_if (jt_cmp (op_neQ (g.c.extra 8 (f := smB) rfl) c.hu) oz_neQ (je_callB cr_len cz_len (g.free 13) (ja_cons (je_var 2) (ja_nil))) (je_var 1)) (jb_one (js_ret (je_tup (ja_cons (je_str) (ja_cons (je_str) (ja_nil)))))) (jb_nil)) (jb_cons (js_for c.own c.calm (ji_dct (je_var 2)) (jg_n 3 c.nd) (jb_one (js_if (PW.pt (jw_or (jt_not (jt_tru (je_callB cr_isi (cz_isiX g.ki) (g.free 9) (ja_cons (je_var 3) (ja_cons (je_ty (g.free 12) rfl) (ja_nil)))))) (jw_or (jt_cmp op_gtZ oz_gt (je_callB cr_len cz_len (g.free 13) (ja_cons (je_var 3) (ja_nil))) (je_int)) (jw_or1 (jt_cmp (op_neQ (g.c.extra 8 (f := smB) rfl) c.hu) oz_neQ (je_lc [("_law_sign", 4)] c.calm c.nd (ji_dct (je_var 3)) ⟨fun _ _ _ _ _ => jg_n 4 c.blk.nd, fun _ _ _ _ _ => jts_one (jt_cmp (op_notInD c.blk.hu1) (oz_inD true) (je_var 4) (je_sli (je_str) (jo_none) (jo_some (je_var 0)))), fun _ _ _ _ _ => je_var 4⟩ (blkOk_by (N := nm__law_due) (sc := defScope (top 81)) (by decide +kernel))) (je_lst (ja_nil))))))) (jb_one (js_ret (je_tup (ja_cons (je_str) (ja_cons (je_callB (cr_reprG (g.c.extra 8 (f := smB) rfl) c.gd c.hu) cz_reprG (g.free 53) (ja_cons (je_var 3) (ja_nil))) (ja_nil)))))) (jb_nil)))) (jb_one (js_ret (je_if (jt_cmp op_gtZ oz_gt (je_lenSet c.calm (g.free 13) (g.free 56) (je_lc [("_law_word", 3)] c.calm c.nd (ji_dct (je_var 2)) ⟨fun _ _ _ _ _ => jg_n 3 c.blk.nd, fun _ _ _ _ _ => jts_nil, fun _ _ _ _ _ => je_callB cr_len cz_len (g.free 13) (ja_cons (je_var 3) (ja_nil))⟩ (blkOk_by (N := nm__law_due) (sc := defScope (top 81)) (by decide +kernel)))) (je_int)) (je_tup (ja_cons (je_str) (ja_cons (je_str) (ja_nil)))) (je_non))))))
abbrev nm_Table_tell : List Str := ["self", "words"]
theorem sc_Table_tell : FnScope ["self", "words"] ["self", "words"] (defScope (cst 55 3)) := ⟨rfl, rfl, rfl, by decide +kernel, rfl, by decide +kernel, by decide +kernel⟩
theorem fp_Table_tell (g : Gd K mg base) : FnMP T0 P w K mg base 5 0 "tell" (dStar 1 d_Table_tell) := by
  obtain ⟨fd, F⟩ := g.c.def_ 33 (d := hd33) rfl
  exact ⟨_, He.cls_ok (x := "Table") (g.c.fact 50 (f := .cls "Table") rfl), He.meth_ok (x := "Table") (m := "tell") (g.c.fact 58 (f := .meth "Table" "tell") rfl), fnp_star (ps := ["self"]) (pv := "words") (N := nm_Table_tell) (d := d_Table_tell) (fun _ _ _ _ h => def_ok (ps := ["self", "words"]) (N := nm_Table_tell) h) F sc_Table_tell arity_d (fun _ _ _ _ _ _ us rest hl => match us, rest, hl with | [_], [], _ => rfl | [_], _ :: _, _ => rfl) (fun cdv A outer s H E c => jb_one (js_ret (je_fn c (fn_table_value g).clo (ja_cons (je_var 0) (ja_cons (je_var 1) (ja_nil))) (by decide))))⟩
abbrev nm__law_called : List Str := ["_law_table", "_law_words_here"]
theorem sc__law_called : FnScope ["_law_table", "_law_words_here"] ["_law_table", "_law_words_here"] (defScope (top 82)) := ⟨rfl, rfl, rfl, by decide +kernel, rfl, by decide +kernel, by decide +kernel⟩
theorem fn__law_called (g : Gd K mg base) : Fn T0 P w K mg base 8 "_law_called" ["_law_table", "_law_words_here"] d__law_called := by
  obtain ⟨fd, F⟩ := g.c.def_ 34 (d := hd34) rfl
  refine ⟨⟨_, fd, (g.glo 59), F.kp, fng_of F sc__law_called fun cdv hc A outer s H E c => ?_, F.bindsN (fun _ _ _ _ _ _ us hl => match us, hl with | [_, _], _ => rfl), kw_of F (fun _ _ _ _ _ _ ws hl => match ws, hl with | [_, _], _ => rfl), lk_of F⟩, arity_d⟩
  exact jb_cons (js_if (jt_cmp (op_eqQ (g.c.extra 8 (f := smB) rfl) c.hu) oz_eqQ (je_callB cr_len cz_len (g.free 13) (ja_cons (je_var 1) (ja_nil))) (je_int)) (jb_one (js_ret (je_lamK irr__law_heard <| je_lam (kb := 5) c (ld__law_heard g) (LamX.lamS_by (sc := defScope (top 82)) (by decide +kernel)) (lamAt_of rfl g.tk g.inB g.bt (List.mem_of_getElem? (i := 0) rfl) rfl hc) (fun A2 o2 s2 H2 E2 f2 v2 c2 => je_methP0 g.tb0 c2 (fp_Table_tell g).clo (je_var 0))))) (jb_nil)) (jb_cons (js_if (jt_cmp (op_eqQ (g.c.extra 8 (f := smB) rfl) c.hu) oz_eqQ (je_callB cr_len cz_len (g.free 13) (ja_cons (je_var 1) (ja_nil))) (je_int)) (jb_one (js_ret (je_lamK irr__law_heard <| je_lam (kb := 5) c (ld__law_heard g) (LamX.lamS_by (sc := defScope (top 82)) (by decide +kernel)) (lamAt_of rfl g.tk g.inB g.bt (List.mem_of_getElem? (i := 0) rfl) rfl hc) (fun A2 o2 s2 H2 E2 f2 v2 c2 => je_methP g.tb0 c2 (fp_Table_tell g).clo (je_var 0) (ja_cons (je_sub c2.hu1 (je_var 1) (je_int)) (ja_nil)))))) (jb_nil)) (jb_cons (js_if (jt_cmp (op_eqQ (g.c.extra 8 (f := smB) rfl) c.hu) oz_eqQ (je_callB cr_len cz_len (g.free 13) (ja_cons (je_var 1) (ja_nil))) (je_int)) (jb_one (js_ret (je_lamK irr__law_heard <| je_lam (kb := 5) c (ld__law_heard g) (LamX.lamS_by (sc := defScope (top 82)) (by decide +kernel)) (lamAt_of rfl g.tk g.inB g.bt (List.mem_of_getElem? (i := 0) rfl) rfl hc) (fun A2 o2 s2 H2 E2 f2 v2 c2 => je_methP g.tb0 c2 (fp_Table_tell g).clo (je_var 0) (ja_cons (je_sub c2.hu1 (je_var 1) (je_int)) (ja_cons (je_sub c2.hu1 (je_var 1) (je_int)) (ja_nil))))))) (jb_nil)) (jb_cons (js_if (jt_cmp (op_eqQ (g.c.extra 8 (f := smB) rfl) c.hu) oz_eqQ (je_callB cr_len cz_len (g.free 13) (ja_cons (je_var 1) (ja_nil))) (je_int)) (jb_one (js_ret (je_lamK irr__law_heard <| je_lam (kb := 5) c (ld__law_heard g) (LamX.lamS_by (sc := defScope (top 82)) (by decide +kernel)) (lamAt_of rfl g.tk g.inB g.bt (List.mem_of_getElem? (i := 0) rfl) rfl hc) (fun A2 o2 s2 H2 E2 f2 v2 c2 => je_methP g.tb0 c2 (fp_Table_tell g).clo (je_var 0) (ja_cons (je_sub c2.hu1 (je_var 1) (je_int)) (ja_cons (je_sub c2.hu1 (je_var 1) (je_int)) (ja_cons (je_sub c2.hu1 (je_var 1) (je_int)) (ja_nil)))))))) (jb_nil)) (jb_one (js_ret (je_lamK irr__law_heard <| je_lam (kb := 5) c (ld__law_heard g) (LamX.lamS_by (sc := defScope (top 82)) (by decide +kernel)) (lamAt_of rfl g.tk g.inB g.bt (List.mem_of_getElem? (i := 0) rfl) rfl hc) (fun A2 o2 s2 H2 E2 f2 v2 c2 => je_methP g.tb0 c2 (fp_Table_tell g).clo (je_var 0) (ja_cons (je_sub c2.hu1 (je_var 1) (je_int)) (ja_cons (je_sub c2.hu1 (je_var 1) (je_int)) (ja_cons (je_sub c2.hu1 (je_var 1) (je_int)) (ja_cons (je_sub c2.hu1 (je_var 1) (je_int)) (ja_nil))))))))))))
abbrev nm_Table___init__ : List Str := ["self", "base", "width", "start", "steps", "ends", "state", "key"]
theorem sc_Table___init__ : FnScope ["self", "base", "width", "start", "steps", "ends", "state", "key"] ["self", "base", "width", "start", "steps", "ends"] (defScope (cst 55 0)) := ⟨rfl, rfl, rfl, by decide +kernel, rfl, by decide +kernel, by decide +kernel⟩
theorem nc_Table (g : Gd K mg base) : NewC T0 P w K mg base 5 "Table" 0 ["self", "base", "width", "start", "steps", "ends"] d_Table___init__ := by
  obtain ⟨fd, F⟩ := g.c.def_ 35 (d := hd35) rfl
  refine ⟨⟨_, fd, (g.glo 63), He.mkr_ok (x := "Table") (g.c.fact 62 (f := .mkr "Table") rfl), ?_, F.bindsN (fun _ _ _ _ _ _ us hl => match us, hl with | [_, _, _, _, _, _], _ => rfl), kwm_of F (fun _ _ _ _ _ _ v ws hl => match ws, hl with | [_, _, _, _, _], _ => rfl)⟩, arity_d⟩
  exact fng_of F sc_Table___init__ fun cdv hc A outer s H E c => jb_cons (js_expr (je_fn c (fn_need_base g).clo (ja_cons (je_var 1) (ja_nil)) (by decide))) (jb_cons (js_expr (je_fn c (fn_need_width g).clo (ja_cons (je_var 2) (ja_cons (je_int) (ja_nil))) (by decide))) (jb_cons (js_expr (je_fn c (fn_need_name g).clo (ja_cons (je_var 3) (ja_nil)) (by decide))) (jb_cons (js_if (jt_not (jt_tru (je_fn c (fn_is_steps g).clo (ja_cons (je_var 4) (ja_cons (je_var 1) (ja_cons (je_var 2) (ja_nil)))) (by decide)))) (jb_one (js_raise c (en_BadTable g) (ja_cons (je_str) (ja_nil)))) (jb_nil)) (jb_cons (js_if (jt_not (jt_tru (je_fn c (fn_is_weights g).clo (ja_cons (je_var 5) (ja_nil)) (by decide)))) (jb_one (js_raise c (en_BadTable g) (ja_cons (je_str) (ja_nil)))) (jb_nil)) (jb_cons (js_attr 0 g.tb0 (je_var 0) (je_var 1)) (jb_cons (js_attr 1 g.tb0 (je_var 0) (je_var 2)) (jb_cons (js_attr 2 g.tb0 (je_var 0) (je_var 3)) (jb_cons (js_attr 3 g.tb0 (je_var 0) (je_fn c (fn_steps_short g).clo (ja_cons (je_var 4) (ja_nil)) (by decide))) (jb_cons (js_attr 4 g.tb0 (je_var 0) (je_dc [("state", 6)] c (ji_dct (je_var 5)) ⟨fun _ _ _ _ _ => jg_n 6 c.blk.nd, fun _ _ _ _ _ => jts_one (jt_cmp (op_neQ (g.c.extra 8 (f := smB) rfl) c.blk.hu) oz_neQ (je_sub c.blk.hu1 (je_var 5) (je_var 6)) (je_int)), fun _ _ _ _ _ => je_var 6, fun _ _ _ _ _ => je_sub c.blk.hu1 (je_var 5) (je_var 6)⟩ (blkOk_by (N := nm_Table___init__) (sc := defScope (cst 55 0)) (by decide +kernel)))) (jb_cons (js_attr 5 g.tb0 (je_var 0) (je_fn c (fn_states_of g).clo (ja_cons (je_var 3) (ja_cons (je_attr 3 g.tb0 (je_var 0)) (ja_cons (je_attr 4 g.tb0 (je_var 0)) (ja_nil)))) (by decide))) (jb_cons (js_if (jt_cmp op_gtZ oz_gt (je_callB cr_len cz_len (g.free 13) (ja_cons (je_attr 5 g.tb0 (je_var 0)) (ja_nil))) (je_gint (g.int 60))) (jb_one (js_raise c (en_TooMany g) (ja_cons (je_str) (ja_cons (je_gint (g.int 60)) (ja_nil))))) (jb_nil)) (jb_one (js_if (jt_cmp op_gtZ oz_gt (je_callB (cr_sum c.calm) cz_sum (g.free 44) (ja_cons (je_lc [("key", 7)] c.calm c.nd (ji_dct (je_attr 3 g.tb0 (je_var 0))) ⟨fun _ _ _ _ _ => jg_n 7 c.blk.nd, fun _ _ _ _ _ => jts_nil, fun _ _ _ _ _ => je_callB cr_len cz_len (g.free 13) (ja_cons (je_sub c.blk.hu1 (je_attr 3 g.tb0 (je_var 0)) (je_var 7)) (ja_nil))⟩ (blkOk_by (N := nm_Table___init__) (sc := defScope (cst 55 0)) (by decide +kernel))) (ja_nil))) (je_gint (g.int 61))) (jb_one (js_raise c (en_TooMany g) (ja_cons (je_str) (ja_cons (je_gint (g.int 61)) (ja_nil))))) (jb_nil))))))))))))))
abbrev nm_Table_of : List Str := ["base", "width", "start", "steps", "ends", "step"]
theorem sc_Table_of : FnScope ["base", "width", "start", "steps", "ends", "step"] ["base", "width", "start", "steps", "ends"] (defScope (cst 55 1)) := ⟨rfl, rfl, rfl, by decide +kernel, rfl, by decide +kernel, by decide +kernel⟩
theorem sk_Table_of_0 (g : Gd K mg base) : StatK T0 P w K mg base 7 0 "of" ["s"] (dStarK 3 ["s"] d_Table_of) := by
  obtain ⟨fd, F⟩ := g.c.def_ 36 (d := hd36) rfl
  refine statK_of (x := "Table") rfl (g.c.extra 9 (f := statB "Table" "of") rfl) ?_
  exact fnp_starkw (ps := ["base", "width", "start"]) (pv := "steps") (pd := "ends") (N := nm_Table_of) (nms := ["s"]) (d := d_Table_of) (fun _ _ _ _ h => def_ok (ps := ["base", "width", "start", "steps", "ends"]) (N := nm_Table_of) h) F sc_Table_of (by decide) (fun _ _ _ _ _ _ us rest ws hl hw => match us, rest, ws, hl, hw with | [_, _, _], [], [_], _, _ => rfl | [_, _, _], _ :: _, [_], _, _ => rfl) (fun cdv A outer s H E c => jb_cons (js_expr (je_fn c (fn_need_base g).clo (ja_cons (je_var 0) (ja_nil)) (by decide))) (jb_cons (js_expr (je_fn c (fn_need_width g).clo (ja_cons (je_var 1) (ja_cons (je_int) (ja_nil))) (by decide))) (jb_cons (js_expr (je_fn c (fn_need_name g).clo (ja_cons (je_var 2) (ja_nil)) (by decide))) (jb_cons (js_if (jt_not (jt_tru (je_callB (cr_all c.calm) cz_all (g.free 17) (ja_cons (je_lc [("step", 5)] c.calm c.nd (ji_dct (je_var 3)) ⟨fun _ _ _ _ _ => jg_n 5 c.blk.nd, fun _ _ _ _ _ => jts_nil, fun _ _ _ _ _ => je_fn c.blk (fn_is_step g).clo (ja_cons (je_var 5) (ja_cons (je_var 0) (ja_cons (je_var 1) (ja_nil)))) (by decide)⟩ (blkOk_by (N := nm_Table_of) (sc := defScope (cst 55 1)) (by decide +kernel))) (ja_nil))))) (jb_one (js_raise c (en_BadTable g) (ja_cons (je_str) (ja_nil)))) (jb_nil)) (jb_cons (js_if (jt_not (jt_tru (je_fn c (fn_is_weights g).clo (ja_cons (je_var 4) (ja_nil)) (by decide)))) (jb_one (js_raise c (en_BadTable g) (ja_cons (je_str) (ja_nil)))) (jb_nil)) (jb_one (js_ret (je_newC c (nc_Table g) (ja_cons (je_var 0) (ja_cons (je_var 1) (ja_cons (je_var 2) (ja_cons (je_fn c (fn_told_steps g).clo (ja_cons (je_var 3) (ja_nil)) (by decide)) (ja_cons (je_var 4) (ja_nil))))))))))))))
abbrev nm_Table_total : List Str := ["self", "length", "many", "start", "steps", "ends", "row", "at", "turn"]
theorem sc_Table_total : FnScope ["self", "length", "many", "start", "steps", "ends", "row", "at", "turn"] ["self", "length"] (defScope (cst 55 4)) := ⟨rfl, rfl, rfl, by decide +kernel, rfl, by decide +kernel, by decide +kernel⟩
theorem fm_Table_total (g : Gd K mg base) : FnM T0 P w K mg base 3 0 "total" ["self", "length"] d_Table_total := by
  obtain ⟨fd, F⟩ := g.c.def_ 37 (d := hd37) rfl
  refine ⟨⟨_, fd, He.cls_ok (x := "Table") (g.c.fact 50 (f := .cls "Table") rfl), He.meth_ok (x := "Table") (m := "total") (g.c.fact 64 (f := .meth "Table" "total") rfl), ?_, F.bindsN (fun _ _ _ _ _ _ us hl => match us, hl with | [_, _], _ => rfl), kwm_of F (fun _ _ _ _ _ _ v ws hl => match ws, hl with | [_], _ => rfl)⟩, arity_d⟩
  exact fng_of F sc_Table_total fun cdv hc A outer s H E c => jb_cons (js_if (PW.pt (jw_or (jt_not (jt_tru (je_fn c (fn_is_whole g).clo (ja_cons (je_var 1) (ja_nil)) (by decide)))) (jw_or1 (jt_not (jt_chain op_leZ oz_le op_leZ oz_le (je_int) (je_var 1) (je_gint (g.int 39))))))) (jb_one (js_raise c (en_BadNumber g) (ja_cons (je_var 1) (ja_nil)))) (jb_nil)) (jb_cons (js_asg (je_fn c (fn_counted g).clo (ja_cons (je_var 0) (ja_nil)) (by decide)) (jgz_t c.calm (jgzs_cons (jgz_n 2 c.nd) (jgzs_cons (jgz_n 3 c.nd) (jgzs_cons (jgz_n 4 c.nd) (jgzs_cons (jgz_n 5 c.nd) (jgzs_nil))))))) (jb_cons (js_set 6 c.nd (je_lc [("at", 7)] c.calm c.nd (ji_rng1 (g.free 43) (ja_cons (je_var 2) (ja_nil))) ⟨fun _ _ _ _ _ => jg_n 7 c.blk.nd, fun _ _ _ _ _ => jts_nil, fun _ _ _ _ _ => je_callT cr_int cz_intX (g.free 8) (ja_cons (je_cmp (op_eqQ (g.c.extra 8 (f := smB) rfl) c.blk.hu) oz_eqQ (je_var 7) (je_var 3)) (ja_nil))⟩ (blkOk_by (N := nm_Table_total) (sc := defScope (cst 55 4)) (by decide +kernel)))) (jb_cons (js_for c.own c.calm (ji_rng1 (g.free 43) (ja_cons (je_var 1) (ja_nil))) (jg_n 8 c.nd) (jb_one (js_set 6 c.nd (je_fn c (fn_moved_row g).clo (ja_cons (je_var 6) (ja_cons (je_var 4) (ja_nil))) (by decide))))) (jb_one (js_ret (je_callB (cr_sum c.calm) cz_sum (g.free 44) (ja_cons (je_lc [("at", 7)] c.calm c.nd (ji_rng1 (g.free 43) (ja_cons (je_var 2) (ja_nil))) ⟨fun _ _ _ _ _ => jg_n 7 c.blk.nd, fun _ _ _ _ _ => jts_nil, fun _ _ _ _ _ => je_bin op_mulT oz_mulT (je_sub c.blk.hu1 (je_var 6) (je_var 7)) (je_sub c.blk.hu1 (je_var 5) (je_var 7))⟩ (blkOk_by (N := nm_Table_total) (sc := defScope (cst 55 4)) (by decide +kernel))) (ja_nil))))))))
abbrev nm_law : List Str := ["_law_script", "_law_pen_here", "_law_turn", "_law_base", "_law_width", "_law_table", "_law_odd", "_law_many", "_law_words_here", "_law_place", "_law_due_here", "_law_heard_here", "_law_key", "_law_alone"]
theorem sc_law : FnScope ["_law_script", "_law_pen_here", "_law_turn", "_law_base", "_law_width", "_law_table", "_law_odd", "_law_many", "_law_words_here", "_law_place", "_law_due_here", "_law_heard_here", "_law_key", "_law_alone"] ["_law_script"] (defScope (top 83)) := ⟨rfl, rfl, rfl, by decide +kernel, rfl, by decide +kernel, by decide +kernel⟩
theorem law_g0 (g : Gd K mg base) {fd : FuncData} (F : FunD K hd38.name hd38.qual hd38.params hd38.body hd38.scope (hd38.dvs K) (hd38.kws K) (hd38.at_ K) fd) : FnG T0 P w K mg base 9 (hd38.at_ K) fd ["_law_script"] d_law :=
  fng_of F sc_law fun cdv hc A outer s H E c => jb_cons (js_set 1 c.nd (je_fn c (fn__law_pen g) (ja_cons (je_var 0) (ja_nil)) (by decide))) (jb_keep [1] (jb_cons (js_for c.own c.calm (ji_rng1 (g.free 43) (ja_cons (je_int) (ja_nil))) (jg_n 2 c.nd) (jb_sh (jb_cons (js_par 3 4 c.calm c.nd (ja_cons (je_bin op_addZ oz_add (je_int) (je_fn c (fn__law_draw g) (ja_cons (je_var 1) (ja_cons (je_int) (ja_nil))) (by decide))) (ja_cons (je_fn c (fn__law_draw g) (ja_cons (je_var 1) (ja_cons (je_int) (ja_nil))) (by decide)) (ja_nil)))) (jb_keep [1, 3, 4] (jb_cons (js_set 5 c.nd (je_statKP c (sk_Table_of_0 g).clo (je_cls (g.glo 63)) (ja_cons (je_var 3) (ja_cons (je_var 4) (ja_cons (je_str) (ja_cons (je_tup (ja_cons (je_str) (ja_cons (je_bin op_mulT oz_mulT (je_str) (je_var 4)) (ja_cons (je_int) (ja_cons (je_str) (ja_nil)))))) (ja_nil))))) (jk_cons (je_int) (jk_nil)) (fun xs ys S h => cloK_bad xs ys S h))) (jb_cons (js_set 6 c.nd (je_lst (ja_cons (je_non) (ja_cons (je_int) (ja_cons (je_bl) (ja_cons (je_tup (ja_cons (je_str) (ja_nil))) (ja_cons (je_lst (ja_cons (je_str) (ja_nil))) (ja_cons (je_dct0) (ja_cons (je_str) (ja_cons (je_sli (je_str) (jo_none) (jo_some (je_var 3))) (ja_cons (je_str) (ja_cons (je_bin op_mulT oz_mulT (je_str) (je_int)) (ja_cons (je_str) (ja_cons (je_str) (ja_cons (je_str) (ja_cons (je_bin op_mulT oz_mulT (je_str) (je_int)) (ja_cons (je_str) (ja_cons (je_str) (ja_nil))))))))))))))))))) (jb_cons (js_set 7 c.nd (je_fn c (fn__law_pick g) (ja_cons (je_var 1) (ja_cons (je_lst (ja_cons (je_var 4) (ja_cons (je_var 4) (ja_cons (je_var 4) (ja_cons (je_int) (ja_cons (je_int) (ja_cons (je_int) (ja_cons (je_int) (ja_nil))))))))) (ja_nil))) (by decide))) (jb_cons (js_set 8 c.nd (je_callT call_tuple_of cz_tup (g.free 31) (ja_cons (je_lc [("_law_place", 9)] c.calm c.nd (ji_rng1 (g.free 43) (ja_cons (je_var 7) (ja_nil))) ⟨fun _ _ _ _ _ => jg_n 9 c.blk.nd, fun _ _ _ _ _ => jts_nil, fun _ _ _ _ _ => je_fn c.blk (fn__law_pick g) (ja_cons (je_var 1) (ja_cons (je_bin op_addZ oz_add (je_var 6) (je_lst (ja_cons (je_str) (ja_cons (je_str) (ja_cons (je_str) (ja_cons (je_str) (ja_nil))))))) (ja_nil))) (by decide)⟩ (blkOk_by (N := nm_law) (sc := defScope (top 83)) (by decide +kernel))) (ja_nil)))) (jb_cons (js_set 10 c.nd (je_fn c (fn__law_due g).clo (ja_cons (je_var 3) (ja_cons (je_var 4) (ja_cons (je_var 8) (ja_nil)))) (by decide))) (jb_cons (js_for c.own c.calm (ji_val (je_lst (ja_cons (je_fn c (fn__law_called g).clo (ja_cons (je_var 5) (ja_cons (je_var 8) (ja_nil))) (by decide)) (ja_cons (je_lamK irr__law_heard <| je_lam (kb := 6) c (ld__law_heard g) (LamX.lamS_by (sc := defScope (top 83)) (by decide +kernel)) (lamAt_of rfl g.tk g.inB g.bt (List.mem_of_getElem? (i := 1) rfl) rfl hc) (fun A2 o2 s2 H2 E2 f2 v2 c2 => je_ei (je_sub c2.hu1 (je_var 5) (je_var 8)) (je_subO c2 (fm_Table___getitem__ g).clo.p rfl (g.c.extra 10 (f := giB "Table") rfl) (je_var 5) (je_var 8)))) (ja_nil))))) (jg_n 11 c.nd) (jb_sh (jb_cons (js_if (PW.pt (jw_or (PW.pt (jw_and (jt_cmp op_isZ oz_is (je_var 10) (je_non)) (jw_and1 (jt_not (jt_tru (je_callB cr_isi (cz_isiX g.ki) (g.free 9) (ja_cons (je_var 11) (ja_cons (je_ty (g.free 37) rfl) (ja_nil))))))))) (jw_or1 (PW.pt (jw_and (jt_cmp op_isntZ oz_isnt (je_var 10) (je_non)) (jw_and1 (jt_cmp (op_neQ (g.c.extra 8 (f := smB) rfl) c.hu) oz_neQ (je_var 11) (je_var 10)))))))) (jb_one (js_ret (je_bl))) (jb_nil)) (jb_keep [1, 3, 4, 5, 10, 11] jb_nil)))) (jb_keep [1, 3, 4, 5] (jb_cons (js_set 12 c.nd (je_fn c (fn__law_pick g) (ja_cons (je_var 1) (ja_cons (je_lst (ja_cons (je_non) (ja_cons (je_int) (ja_cons (je_lst (ja_cons (je_str) (ja_nil))) (ja_cons (je_dct0) (ja_cons (je_bl) (ja_cons (je_bin op_pow oz_pow (je_int) (je_int)) (ja_cons (je_var 5) (ja_nil))))))))) (ja_nil))) (by decide))) (jb_cons (js_if (jt_cmp (op_neQ (g.c.extra 8 (f := smB) rfl) c.hu) oz_neQ (je_lamK irr__law_heard <| je_lam (kb := 6) c (ld__law_heard g) (LamX.lamS_by (sc := defScope (top 83)) (by decide +kernel)) (lamAt_of rfl g.tk g.inB g.bt (List.mem_of_getElem? (i := 1) rfl) rfl hc) (fun A2 o2 s2 H2 E2 f2 v2 c2 => je_ei (je_sub c2.hu1 (je_var 5) (je_var 12)) (je_subO c2 (fm_Table___getitem__ g).clo.p rfl (g.c.extra 10 (f := giB "Table") rfl) (je_var 5) (je_var 12)))) (je_if (jt_cmp op_gtZ oz_gt (je_var 4) (je_int)) (je_tup (ja_cons (je_str) (ja_cons (je_str) (ja_nil)))) (je_tup (ja_cons (je_str) (ja_cons (je_str) (ja_nil)))))) (jb_one (js_ret (je_bl))) (jb_nil)) (jb_keep [1, 3, 4, 5] (jb_cons (js_par 11 13 c.calm c.nd (ja_cons (je_lamK irr__law_heard <| je_lam (kb := 6) c (ld__law_heard g) (LamX.lamS_by (sc := defScope (top 83)) (by decide +kernel)) (lamAt_of rfl g.tk g.inB g.bt (List.mem_of_getElem? (i := 1) rfl) rfl hc) (fun A2 o2 s2 H2 E2 f2 v2 c2 => je_ei (je_sub c2.hu1 (je_var 5) (je_str)) (je_subO c2 (fm_Table___getitem__ g).clo.p rfl (g.c.extra 10 (f := giB "Table") rfl) (je_var 5) (je_str)))) (ja_cons (je_fn c (fn__law_due g).clo (ja_cons (je_var 3) (ja_cons (je_var 4) (ja_cons (je_tup (ja_cons (je_str) (ja_nil))) (ja_nil)))) (by decide)) (ja_nil)))) (jb_cons (js_if (PW.pt (jw_or (PW.pt (jw_and (jt_cmp op_isZ oz_is (je_var 13) (je_non)) (jw_and1 (jt_not (jt_tru (je_callB cr_isi (cz_isiX g.ki) (g.free 9) (ja_cons (je_var 11) (ja_cons (je_ty (g.free 37) rfl) (ja_nil))))))))) (jw_or1 (PW.pt (jw_and (jt_cmp op_isntZ oz_isnt (je_var 13) (je_non)) (jw_and1 (jt_cmp (op_neQ (g.c.extra 8 (f := smB) rfl) c.hu) oz_neQ (je_var 11) (je_var 13)))))))) (jb_one (js_ret (je_bl))) (jb_nil)) (jb_keep [1, 5] (jb_cons (js_set 6 c.nd (je_fn c (fn__law_pick g) (ja_cons (je_var 1) (ja_cons (je_lst (ja_cons (je_non) (ja_cons (je_neg (je_int)) (ja_cons (je_int) (ja_cons (je_bl) (ja_cons (je_str) (ja_cons (je_tup (ja_cons (je_int) (ja_nil))) (ja_cons (je_lst (ja_nil)) (ja_cons (je_bin op_pow oz_pow (je_int) (je_int)) (ja_nil)))))))))) (ja_nil))) (by decide))) (jb_cons (js_if (jt_cmp (op_neQ (g.c.extra 8 (f := smB) rfl) c.hu) oz_neQ (je_lamK irr__law_heard <| je_lam (kb := 3) c (ld__law_heard g) (LamX.lamS_by (sc := defScope (top 83)) (by decide +kernel)) (lamAt_of rfl g.tk g.inB g.bt (List.mem_of_getElem? (i := 1) rfl) rfl hc) (fun A2 o2 s2 H2 E2 f2 v2 c2 => je_meth g.tb0 c2 (fm_Table_total g).clo (je_var 5) (ja_cons (je_var 6) (ja_nil)))) (je_tup (ja_cons (je_str) (ja_cons (je_callB (cr_reprG (g.c.extra 8 (f := smB) rfl) c.gd c.hu) cz_reprG (g.free 53) (ja_cons (je_var 6) (ja_nil))) (ja_nil))))) (jb_one (js_ret (je_bl))) (jb_nil)) (jb_keep [1, 5] (jb_cons (js_if (jt_cmp (op_neQ (g.c.extra 8 (f := smB) rfl) c.hu) oz_neQ (je_meth g.tb0 c (fm_Table_total g).clo (je_var 5) (ja_cons (je_int) (ja_nil))) (je_bin op_mulT oz_mulT (je_bin op_mulT oz_mulT (je_int) (je_bin op_pow oz_pow (je_int) (je_int))) (je_bin op_pow oz_pow (je_int) (je_int)))) (jb_one (js_ret (je_bl))) (jb_nil)) (jb_keep [1] jb_nil)))))))))))))))))))))) (jb_keep [] (jb_one (js_ret (je_bl))))))
end
theorem law_fn {w : World} {K : PySem.W.Frag} {h : Heap} {mg : Str → Option Value} {fa : Addr} (KX : K.In h) (G : h.Ns mainGlobals mg) (hm : mg ("law" : Str) = some (.ref fa)) (c : SaysZ fal exl fnl K) (t : TabsGood tbl K h) :
    ∃ (K : PySem.W.Frag) (fd : FuncData), K.In h ∧ (∀ p ∈ T0.tabs K, h.get? p.1 = some tabO ∧ K.lookup p.1 = none ∧ ∃ c, PySem.W.CodeHd h c p.1) ∧ (∀ (s : Shared) (u : Value), BindsTo s fd ⟨[u], []⟩ [("_law_script", u)]) ∧ ∀ base : Heap, K.In base → base.Ns mainGlobals mg → BaseT (T0.tabs K) mg base → FnG T0 (PySem.Challenge.rw_sumdigits_k09_words_refused).prog w K mg base 9 fa fd ["_law_script"] d_law := by
  obtain ⟨fd, F⟩ := c.def_ 38 (d := hd38) rfl
  have e := hm.symm.trans (He.glo_ok KX G (c.fact 65 (f := .glo "law") rfl))
  cases e
  refine ⟨K, fd, KX, t.law KX, fun s u => FunD.bindsA (ps := ["_law_script"]) F (fun _ _ _ _ _ _ us hl => match us, hl with | [_], _ => rfl) s [u] rfl, fun base inB nsB bt => ?_⟩
  exact law_g0 ⟨c, t.k, ⟨h, KX, G⟩, inB, bt⟩ F
end Z
end
end
set_option Elab.async false
set_option maxRecDepth 100000
set_option maxHeartbeats 0
open PySem PySem.W PyProof.Rows
theorem PySem.Challenge.cw_sumdigits_k09_words_refused_holds : PySem.Challenge.rw_sumdigits_k09_words_refused.Holds := by
  refine Z.head0 ?_
  intro q loose XP dr h1 h2
  refine Z.walk_g (l := PySem.Challenge.rw_sumdigits_k09_words_refused) (n := 63) (k := 9) (x := "_law_script") (T := Z.T0) (d := Z.d_law) rfl (by decide) h1 ⟨rfl, by decide, by decide⟩ Z.law_good ?F
  intro w mg fa h Y G hmg0
  obtain ⟨K, KX, c, t⟩ := Y
  have hmg : mg ("law" : PySem.Str) = some (.ref fa) := by rw [← h2]; exact hmg0
  exact Z.law_fn KX G hmg c t
