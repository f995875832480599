import PyProof.Rows.All
import Wide.All
import OpenK.AllK
import Wide.FinOn
import HandS.HeadHook2
import HandS.HeadHook3
import HandS.Defaults
import HandS.HeadEnd
import HandS.Head2
import HandS.Words
import HandS.HeadNt
import HandS.HeadHook4
import HandS.Lambda
import HandS.Head0
import HandS.Head1
import HandS.ForMost
import HandS.IsInst
import HandS.Star
import HandS.Wide
import HandS.TupMul
import HandS.TupAny
import HandS.Codes
import HandS.Style
import KE.KTupSum
import HandS.Text
import HandS.Zip
import HandS.Iter
import KE.GoesEnum
import KE.GoesMore
import HandS.Exc
import HandS.Property
import HandS.SetFor
import HandS.Conv
import HandS.GenList
import HandS.GenYield
import HandS.FStr
import PyProof.ReprRoads
import HandS.SortInts
import HandS.ExcValue
import PyProof.TupleOfSeq
import KE.KOpsOwn
import HandS.ClsMeth
import KE.KUnpackStar
import HandS.Deep
import KE.SortData
import HandS.TupSets
import KE.DatumOrd
import HandS.Dict
import HandS.OwnEq
import HandS.More
import PyProof.InstNe
import PyProof.EqKinds
import PySem.Challenge.RW_supportcosts_k03_equal_plans
set_option Elab.async false
set_option linter.all false
set_option maxRecDepth 100000
namespace SC
open PySem PySem.Spec PyProof.Rows L2

/-! ### the head's facts: a Bool of one's own, defs at addresses -/
structure Dx where
  ad : PySem.W.Frag → Addr
  name : Str
  qual : Str
  params : Arguments
  body : List Stmt
  scope : Scope
abbrev FW : Type := Option (Str × Str × Arguments × FuncBody × Scope × Addr × List (Str × Addr) × Addr)
def fnAt (K : PySem.W.Frag) (a : Addr) : FW := match K.lookup a with
  | some ⟨_, _, .func d, _⟩ => some (d.name, d.qualname, d.params, d.body, d.scope, d.globals, d.closure, d.builtins)
  | _ => none
def Dx.val (d : Dx) : FW := some (d.name, d.qual, d.params, .stmts d.body, d.scope, mainGlobals, [], builtinsNs)
def Dx.ok (K : PySem.W.Frag) (d : Dx) : Bool := PySem.W.keepIn K (.ref (d.ad K)) && (match K.lookup (d.ad K) with
  | some ⟨_, _, .func z, _⟩ => PySem.W.codeIn K z.code d.qual && (He.dflB K z.defaults [] && He.kwdB K z.kwdefaults [])
  | _ => false)
theorem Dx.funD {K : PySem.W.Frag} {d : Dx} (e : fnAt K (d.ad K) = d.val) (c : d.ok K = true) : ∃ fd, FunD K d.name d.qual d.params d.body d.scope [] [] (d.ad K) fd := by
  obtain ⟨kp, c2⟩ := Bool.and_eq_true_iff.mp (show (PySem.W.keepIn K (.ref (d.ad K)) && _) = true from c)
  unfold fnAt at e
  cases lk : K.lookup (d.ad K) with
  | none => rw [lk] at c2; cases c2
  | some ob =>
    obtain ⟨cl, dc, dat, sl⟩ := ob
    rw [lk] at c2 e
    cases dat with
    | func z =>
      obtain ⟨z1, z2, z3, z4, z5, z6, z7, z8, z9, z10, z11, z12, z13, z14, z15⟩ := z
      have e' : (some (z1, z2, z3, z4, z5, z6, z7, z15) : FW) = some (d.name, d.qual, d.params, .stmts d.body, d.scope, mainGlobals, [], builtinsNs) := e
      simp only [Option.some.injEq, Prod.mk.injEq] at e'
      obtain ⟨i1, i2, i3, i4, i5, i6, i7, i8⟩ := e'
      subst i1 i2 i3 i4 i5 i6 i7 i8
      obtain ⟨j1, j2⟩ := Bool.and_eq_true_iff.mp (show (PySem.W.codeIn K z13 d.qual && (He.dflB K z8 [] && He.kwdB K z9 [])) = true from c2)
      obtain ⟨j3, j4⟩ := Bool.and_eq_true_iff.mp j2
      exact ⟨_, ⟨cl, dc, z8, z9, z10, z11, z12, z13, z14, sl, rfl, lk, j1, He.dflB_ok j3, He.kwdB_ok j4⟩, kp⟩
    | _ => cases c2
abbrev AlX : Type := Bool × List FW
def obsX (ck : PySem.W.Frag → Bool) (fn : List Dx) (K : PySem.W.Frag) : AlX := (ck K && fn.all fun d => d.ok K, fn.map fun d => fnAt K (d.ad K))
def valX (fn : List Dx) : AlX := (true, fn.map Dx.val)
def SaysX (ck : PySem.W.Frag → Bool) (fn : List Dx) (K : PySem.W.Frag) : Prop := obsX ck fn K = valX fn
def obsXG (n : Nat) (ck : PySem.W.Frag → Bool) (fn : List Dx) (g : Addr → Option Obj) : AlX := obsX ck fn (He.frG g (He5.asA g n))
def hookX (n : Nat) (ck : PySem.W.Frag → Bool) (fn : List Dx) : PySem.W.Hook where
  α := AlX
  obs := fun s => obsXG n ck fn s.heap.get?
  val := fun _ => valX fn
  says := fun _ h => ∃ K : PySem.W.Frag, K.In h ∧ SaysX ck fn K
  of := fun _ _ e => ⟨_, He.frG_in, e⟩
  keeps := fun _ _ _ ⟨K, kin, c⟩ k => ⟨K, PySem.W.Frag.In.keeps kin k, c⟩
theorem obsXG_eq {n : Nat} {ck : PySem.W.Frag → Bool} {fn : List Dx} {g : Addr → Option Obj} {s : Shared} (h : ∀ a, g a = s.heap.get? a) : obsXG n ck fn g = (hookX n ck fn).obs s := by
  rw [show g = s.heap.get? from funext h] <;> rfl
section
variable {ck : PySem.W.Frag → Bool} {fn : List Dx} {K : PySem.W.Frag}
theorem SaysX.chk (c : SaysX ck fn K) : ck K = true := (Bool.and_eq_true_iff.mp (show (ck K && fn.all fun d => d.ok K) = true from congrArg Prod.fst c)).1
theorem SaysX.def_ (c : SaysX ck fn K) (i : Nat) {d : Dx} (h : fn[i]? = some d) : ∃ fd, FunD K d.name d.qual d.params d.body d.scope [] [] (d.ad K) fd := by
  have all := (Bool.and_eq_true_iff.mp (show (ck K && fn.all fun d => d.ok K) = true from congrArg Prod.fst c)).2
  have e : fn.map (fun d => fnAt K (d.ad K)) = fn.map Dx.val := congrArg Prod.snd c
  have e2 := congrArg (fun l => l[i]?) e
  simp only [List.getElem?_map, h, Option.map_some, Option.some.injEq] at e2
  exact Dx.funD e2 (List.all_eq_true.mp all d (List.mem_of_getElem? h))
end
/-! ### single facts -/
def prAd (K : PySem.W.Frag) (C f : Str) : Addr := match PySem.W.findIn K (.ref (He.ga K C)) f with
  | some (some (.ref a)) => a
  | _ => 0
def prGet (K : PySem.W.Frag) (C f : Str) : Addr := match PySem.W.recIn K (prAd K C f) "property" with
  | some (.ref g :: _) => g
  | _ => 0
def eqO (a b : Option (Option Value)) : Bool := decide (a = b)
def propB (K : PySem.W.Frag) (C f : Str) : Bool := eqO (PySem.W.findIn K (.ref (He.ga K C)) f) (some (some (.ref (prAd K C f)))) && (eqO (PySem.W.specialIn K (.ref (prAd K C f)) "__get__") (some (some (.builtin "property.__get__"))) &&
  (decide (PySem.W.takesIn K (.ref (prAd K C f)) = some true) && (match PySem.W.recIn K (prAd K C f) "property" with
    | some (.ref g :: _) => decide (g = prGet K C f)
    | _ => false)))
def sp1B (K : PySem.W.Frag) (C m : Str) : Bool := eqO (PySem.W.findIn K (.ref (He.ga K C)) m) (some (some (.ref (He.ma K (He.ga K C) m)))) && PySem.W.isFn K (.ref (He.ma K (He.ga K C) m))
theorem ckAt {K : PySem.W.Frag} {l : List (PySem.W.Frag → Bool)} (h : (l.all fun f => f K) = true) (i : Nat) {f : PySem.W.Frag → Bool} (hi : l[i]? = some f) : f K = true := List.all_eq_true.mp h f (List.mem_of_getElem? hi)
def clsB (x : Str) (fl : List Str) (K : PySem.W.Frag) : Bool := (He.Fa.cls x).ok K && fl.all fun f => (He.Fa.noat x f).ok K
def callOB (x : Str) (K : PySem.W.Frag) : Bool := eqO (PySem.W.findIn K (.ref (He.ga K x)) "__call__") (some (some (.ref (He.ma K (He.ga K x) "__call__")))) && (PySem.W.isFn K (.ref (He.ma K (He.ga K x) "__call__")) && PySem.W.fnIn K (He.ma K (He.ga K x) "__call__"))
def tyB (x : Str) (K : PySem.W.Frag) : Bool := eqO (PySem.W.findIn K (.ref (He.ga K x)) "__class__") (some (some (.builtin "object.__class__"))) && (eqO (PySem.W.specialIn K (.builtin "object.__class__") "__get__") (some (some (.builtin "getset_descriptor.__get__"))) &&
  (decide (PySem.W.takesIn K (.builtin "object.__class__") = some true) && decide (PySem.W.mroIn K (He.ga K x) (.type "object") = some true)))
def tys : List String := ["NoneType", "bool", "int", "str", "tuple", "list", "dict"]
/-- what isinstance(.., x) answers: no for the built-in types, told for own classes -/
def iscB (x : Str) (cs : List (Nat × Str × Bool)) (K : PySem.W.Frag) : Bool := (tys.all fun t => decide (PySem.W.kitOne K (.type t) (.ref (He.ga K x)) = some false)) &&
  cs.all fun p => (He.Fa.cls p.2.1).ok K && (tyB p.2.1 K && decide (PySem.W.kitOne K (.ref (He.ga K p.2.1)) (.ref (He.ga K x)) = some p.2.2))
def conStr (C f z : Str) (K : PySem.W.Frag) : Bool := He.conB K C f (.str z)
/-- a tuple of ints at a name -/
def tupN (x : Str) (ns : List Int) (K : PySem.W.Frag) : Bool := He.tupB K x (ns.map He.Dv.int)
def cmAd (K : PySem.W.Frag) (C m : Str) : Addr := He5.wf K (He.ga K C) "classmethod" m
def cmB (C m : Str) (K : PySem.W.Frag) : Bool := He5.wrapB K (He.ga K C) "classmethod" "classmethod.__get__" m && PySem.W.fnIn K (He5.wf K (He.ga K C) "classmethod" m)
def crB (C : Str) (K : PySem.W.Frag) : Bool := PySem.W.readsIn K (He.ga K C) (.type "type") && decide (PySem.W.specialIn K (.ref (He.ga K C)) "__getattribute__" = some (some (.builtin "type.__getattribute__")))
def binCB (x m : Str) (op : Operator) (K : PySem.W.Frag) : Bool :=
  (PySem.W.selfFirst K (He.ga K x) && (eqO (PySem.W.findIn K (.ref (He.ga K x)) (PySem.dunder op.info.2)) (some (some (.ref (He.ma K (He.ga K x) m)))) && PySem.W.isFn K (.ref (He.ma K (He.ga K x) m)))) &&
  ((eqO (PySem.W.findIn K (.ref (He.ga K x)) (dunderR op.info.2)) (some none) && (PySem.W.findIn K (.type "int") (PySem.dunder op.info.2)).isSome) &&
  ((PySem.W.findIn K (.type "int") (dunderR op.info.2)).isSome && decide (PySem.W.subIn K (.type "int") (.ref (He.ga K x)) = some false)))
end SC

set_option Elab.async false
set_option linter.all false
set_option maxRecDepth 100000
namespace SC
open PySem PySem.Spec PyProof.Rows L2

/-! ### the head's facts with tables of code objects: left out of the written part, empty -/
def codeA (K : PySem.W.Frag) (f : Addr) : Addr := match K.lookup f with
  | some ⟨_, _, .func fd, _⟩ => (match fd.code with
    | .ref c => c
    | _ => 0)
  | _ => 0
theorem codeA_eq {K : PySem.W.Frag} {f : Addr} {oc : Value} {od : Option Addr} {osl : Array (Option Value)} {fd : FuncData} {c : Addr} (lk : K.lookup f = some ⟨oc, od, .func fd, osl⟩) (e : fd.code = .ref c) : codeA K f = c := by
  unfold codeA
  rw [lk]
  show (match fd.code with | .ref c => c | _ => 0) = c
  rw [e]
/-- a def's code object, its table -/
def ctA (K : PySem.W.Frag) (f : Addr) : Addr × Addr := (codeA K f, He.tabOf K (codeA K f))
def tabsA (g : Addr → Option Obj) (tf : List (PySem.W.Frag → Addr)) (K : PySem.W.Frag) : Bool := tf.all fun p => PySem.W.codeHdIn K (ctA K (p K)).1 (ctA K (p K)).2 && (match g (ctA K (p K)).2 with
  | some o => He.emptyTab o
  | none => false)
structure SaysTX (ck : PySem.W.Frag → Bool) (fn : List Dx) (tf : List (PySem.W.Frag → Addr)) (h : Heap) (K : PySem.W.Frag) : Prop where
  t : SaysX ck fn K
  hd : ∀ p ∈ tf, PySem.W.codeHdIn K (ctA K (p K)).1 (ctA K (p K)).2 = true
  out : ∀ p ∈ tf, K.lookup (ctA K (p K)).2 = none
  empty : ∀ p ∈ tf, h.get? (ctA K (p K)).2 = some { cls := .none, data := .fields #[] }
def obsTX (n : Nat) (ck : PySem.W.Frag → Bool) (fn : List Dx) (tf : List (PySem.W.Frag → Addr)) (g : Addr → Option Obj) : AlX × Bool := (obsX ck fn (He.frT g (He5.asA g n)), tabsA g tf (He.frT g (He5.asA g n)))
theorem saysTX_of {n : Nat} {ck : PySem.W.Frag → Bool} {fn : List Dx} {tf : List (PySem.W.Frag → Addr)} {h : Heap} (e : obsTX n ck fn tf h.get? = (valX fn, true)) : SaysTX ck fn tf h (He.frT h.get? (He5.asA h.get? n)) := by
  have e1 : obsX ck fn (He.frT h.get? (He5.asA h.get? n)) = valX fn := congrArg Prod.fst e
  have e2 : tabsA h.get? tf (He.frT h.get? (He5.asA h.get? n)) = true := congrArg Prod.snd e
  have key : ∀ p ∈ tf, PySem.W.codeHdIn (He.frT h.get? (He5.asA h.get? n)) (ctA (He.frT h.get? (He5.asA h.get? n)) (p (He.frT h.get? (He5.asA h.get? n)))).1 (ctA (He.frT h.get? (He5.asA h.get? n)) (p (He.frT h.get? (He5.asA h.get? n)))).2 = true ∧ ∃ o, h.get? (ctA (He.frT h.get? (He5.asA h.get? n)) (p (He.frT h.get? (He5.asA h.get? n)))).2 = some o ∧ He.emptyTab o = true := fun p hp => by
    obtain ⟨h3, h4⟩ := Bool.and_eq_true_iff.mp (List.all_eq_true.mp e2 p hp)
    refine ⟨h3, ?_⟩
    cases q : h.get? (ctA (He.frT h.get? (He5.asA h.get? n)) (p (He.frT h.get? (He5.asA h.get? n)))).2 with
    | none =>
      rw [q] at h4
      cases h4
    | some o =>
      rw [q] at h4
      exact ⟨o, rfl, h4⟩
  exact ⟨e1, fun p hp => (key p hp).1, fun p hp => by
    obtain ⟨_, o, q, z⟩ := key p hp
    exact He.frT_none q z, fun p hp => by
    obtain ⟨_, o, q, z⟩ := key p hp
    rw [q, He.emptyTab_eq z]⟩
def hookTX (n : Nat) (ck : PySem.W.Frag → Bool) (fn : List Dx) (tf : List (PySem.W.Frag → Addr)) : PySem.W.Hook where
  α := AlX × Bool
  obs := fun s => obsTX n ck fn tf s.heap.get?
  val := fun _ => (valX fn, true)
  says := fun _ h => ∃ K : PySem.W.Frag, K.In h ∧ SaysTX ck fn tf h K
  of := fun _ _ e => ⟨_, He.frT_in, saysTX_of e⟩
  keeps := fun _ _ _ ⟨K, kin, c⟩ k => ⟨K, PySem.W.Frag.In.keeps kin k, c.t, c.hd, c.out, fun p hp => k _ _ (c.empty p hp)⟩
theorem obsTX_eq {n : Nat} {ck : PySem.W.Frag → Bool} {fn : List Dx} {tf : List (PySem.W.Frag → Addr)} {g : Addr → Option Obj} {s : Shared} (h : ∀ a, g a = s.heap.get? a) : obsTX n ck fn tf g = (hookTX n ck fn tf).obs s := by
  rw [show g = s.heap.get? from funext h] <;> rfl
/-- a def whose code object is told -/
def Dx.cdOk (K : PySem.W.Frag) (f : Addr) (cd : Value) : Prop := cd = .ref (codeA K f)
/-- the facts by running -/
def eqCB (C : Str) (f : Str) (ks : List Str) (K : PySem.W.Frag) : Bool := eqO (PySem.W.findIn K (.ref (He.ga K C)) "__eq__") (some (some (.ref (He.ma K (He.ga K C) f)))) && (PySem.W.isFn K (.ref (He.ma K (He.ga K C) f)) &&
  (eqO (PySem.W.findIn K (.ref (He.ga K C)) "__ne__") (some (some (.builtin "object.__ne__"))) && (decide (PySem.W.mroIn K (He.ga K C) (.type "object") = some true) &&
  ((tys.all fun t => decide (PySem.W.subIn K (.type t) (.ref (He.ga K C)) = some false) && decide (PySem.W.subIn K (.ref (He.ga K C)) (.type t) = some false)) &&
  ks.all fun D => decide (He.ga K D ≠ He.ga K C) && (decide (PySem.W.subIn K (.ref (He.ga K D)) (.ref (He.ga K C)) = some false) && (decide (PySem.W.subIn K (.ref (He.ga K C)) (.ref (He.ga K D)) = some false) &&
    (decide (PySem.W.mroIn K (He.ga K D) (.type "object") = some true) && eqO (PySem.W.findIn K (.ref (He.ga K D)) "__eq__") (some (some (.builtin "object.__eq__"))))))))))
end SC

set_option Elab.async false
set_option linter.all false
set_option maxRecDepth 100000
set_option maxHeartbeats 0
namespace SC
open PySem PySem.Spec PyProof.Rows L2
def top (i : Nat) : Stmt := PySem.Challenge.pw_supportcosts_k03_equal_plans.main.body.getD i (.Pass ⟨0, 0, 0, 0⟩)
def ckL0 : List (PySem.W.Frag → Bool) := [
  clsB "Period" ["base", "past"],
  clsB "Plan" ["count", "kept"],
  cmB "Plan" "read",
  crB "Plan",
  eqCB "Plan" "__eq__" ["Period"],
  fun K => (He.Fa.free "all").ok K,
  fun K => (He.Fa.free "bool").ok K,
  fun K => (He.Fa.free "enumerate").ok K,
  fun K => (He.Fa.free "int").ok K,
  fun K => (He.Fa.free "isinstance").ok K,
  fun K => (He.Fa.free "len").ok K,
  fun K => (He.Fa.free "max").ok K,
  fun K => (He.Fa.free "range").ok K
]
def ckL1 : List (PySem.W.Frag → Bool) := [
  fun K => (He.Fa.free "repr").ok K,
  fun K => (He.Fa.free "str").ok K,
  fun K => (He.Fa.free "sum").ok K,
  fun K => (He.Fa.free "tuple").ok K,
  fun K => (He.Fa.glo "NOTHING").ok K,
  fun K => (He.Fa.glo "Period").ok K,
  fun K => (He.Fa.glo "Plan").ok K,
  fun K => (He.Fa.glo "_law_build").ok K,
  fun K => (He.Fa.glo "_law_cell").ok K,
  fun K => (He.Fa.glo "_law_draw").ok K,
  fun K => (He.Fa.glo "_law_draw_plan").ok K,
  fun K => (He.Fa.glo "_law_draw_row").ok K,
  fun K => (He.Fa.glo "_law_is_right").ok K
]
def ckL2 : List (PySem.W.Frag → Bool) := [
  fun K => (He.Fa.glo "_law_near").ok K,
  fun K => (He.Fa.glo "_law_odds").ok K,
  fun K => (He.Fa.glo "_law_pen").ok K,
  fun K => (He.Fa.glo "_law_same").ok K,
  fun K => (He.Fa.glo "_law_write").ok K,
  fun K => (He.Fa.glo "are_rows").ok K,
  fun K => (He.Fa.glo "is_between").ok K,
  fun K => (He.Fa.glo "is_integer").ok K,
  fun K => (He.Fa.glo "is_row").ok K,
  fun K => (He.Fa.glo "law").ok K,
  fun K => (He.Fa.glo "need_plan").ok K,
  fun K => (He.Fa.glo "number_in").ok K,
  fun K => (He.Fa.int "MOST" 4).ok K
]
def ckL3 : List (PySem.W.Frag → Bool) := [
  fun K => (He.Fa.int "MOST_WEIGHT" 20).ok K,
  iscB "Plan" [(0, "Plan", true), (1, "Period", false)],
  fun K => (He.Fa.meth "Plan" "text").ok K,
  fun K => (He.Fa.mkr "Period").ok K,
  fun K => (He.Fa.mkr "Plan").ok K,
  fun K => propB K "Plan" "products",
  fun K => propB K "Plan" "rows",
  fun K => sp1B K "Plan" "__len__",
  fun K => sp1B K "Plan" "__repr__",
  fun K => (He.Fa.str "DIGITS" "0123456789").ok K,
  fun K => (He.Fa.str "HEAD" "products ").ok K,
  tupN "NOTHING" [0, 1]
]
def ckL : List (PySem.W.Frag → Bool) := ckL0 ++ (ckL1 ++ (ckL2 ++ (ckL3)))
def ckA (K : PySem.W.Frag) : Bool := ckL.all fun f => f K
def fnL : List Dx := [
  ⟨fun K => He.ma K (He.ga K "Period") "__init__", "__init__", "Period.__init__", defArgs (inClass (top 41) 1), defBody (inClass (top 41) 1), defScope (inClass (top 41) 1)⟩,
  ⟨fun K => He.ma K (He.ga K "Plan") "__eq__", "__eq__", "Plan.__eq__", defArgs (inClass (top 31) 14), defBody (inClass (top 31) 14), defScope (inClass (top 31) 14)⟩,
  ⟨fun K => He.ma K (He.ga K "Plan") "__init__", "__init__", "Plan.__init__", defArgs (inClass (top 31) 0), defBody (inClass (top 31) 0), defScope (inClass (top 31) 0)⟩,
  ⟨fun K => He.ma K (He.ga K "Plan") "__len__", "__len__", "Plan.__len__", defArgs (inClass (top 31) 9), defBody (inClass (top 31) 9), defScope (inClass (top 31) 9)⟩,
  ⟨fun K => He.ma K (He.ga K "Plan") "__repr__", "__repr__", "Plan.__repr__", defArgs (inClass (top 31) 15), defBody (inClass (top 31) 15), defScope (inClass (top 31) 15)⟩,
  ⟨fun K => prGet K "Plan" "products", "products", "Plan.products", defArgs (inClass (top 31) 5), defBody (inClass (top 31) 5), defScope (inClass (top 31) 5)⟩,
  ⟨fun K => cmAd K "Plan" "read", "read", "Plan.read", defArgs (inClass (top 31) 2), defBody (inClass (top 31) 2), defScope (inClass (top 31) 2)⟩,
  ⟨fun K => prGet K "Plan" "rows", "rows", "Plan.rows", defArgs (inClass (top 31) 6), defBody (inClass (top 31) 6), defScope (inClass (top 31) 6)⟩,
  ⟨fun K => He.ma K (He.ga K "Plan") "text", "text", "Plan.text", defArgs (inClass (top 31) 4), defBody (inClass (top 31) 4), defScope (inClass (top 31) 4)⟩,
  ⟨fun K => He.ga K "_law_build", "_law_build", "_law_build", defArgs (top 50), defBody (top 50), defScope (top 50)⟩,
  ⟨fun K => He.ga K "_law_cell", "_law_cell", "_law_cell", defArgs (top 43), defBody (top 43), defScope (top 43)⟩,
  ⟨fun K => He.ga K "_law_draw", "_law_draw", "_law_draw", defArgs (top 45), defBody (top 45), defScope (top 45)⟩,
  ⟨fun K => He.ga K "_law_draw_plan", "_law_draw_plan", "_law_draw_plan", defArgs (top 48), defBody (top 48), defScope (top 48)⟩,
  ⟨fun K => He.ga K "_law_draw_row", "_law_draw_row", "_law_draw_row", defArgs (top 47), defBody (top 47), defScope (top 47)⟩,
  ⟨fun K => He.ga K "_law_is_right", "_law_is_right", "_law_is_right", defArgs (top 53), defBody (top 53), defScope (top 53)⟩,
  ⟨fun K => He.ga K "_law_near", "_law_near", "_law_near", defArgs (top 52), defBody (top 52), defScope (top 52)⟩,
  ⟨fun K => He.ga K "_law_odds", "_law_odds", "_law_odds", defArgs (top 51), defBody (top 51), defScope (top 51)⟩,
  ⟨fun K => He.ga K "_law_pen", "_law_pen", "_law_pen", defArgs (top 44), defBody (top 44), defScope (top 44)⟩,
  ⟨fun K => He.ga K "_law_same", "_law_same", "_law_same", defArgs (top 46), defBody (top 46), defScope (top 46)⟩,
  ⟨fun K => He.ga K "_law_write", "_law_write", "_law_write", defArgs (top 49), defBody (top 49), defScope (top 49)⟩,
  ⟨fun K => He.ga K "are_rows", "are_rows", "are_rows", defArgs (top 29), defBody (top 29), defScope (top 29)⟩,
  ⟨fun K => He.ga K "is_between", "is_between", "is_between", defArgs (top 17), defBody (top 17), defScope (top 17)⟩,
  ⟨fun K => He.ga K "is_integer", "is_integer", "is_integer", defArgs (top 16), defBody (top 16), defScope (top 16)⟩,
  ⟨fun K => He.ga K "is_row", "is_row", "is_row", defArgs (top 28), defBody (top 28), defScope (top 28)⟩,
  ⟨fun K => He.ga K "law", "law", "law", defArgs (top 54), defBody (top 54), defScope (top 54)⟩,
  ⟨fun K => He.ga K "need_plan", "need_plan", "need_plan", defArgs (top 32), defBody (top 32), defScope (top 32)⟩,
  ⟨fun K => He.ga K "number_in", "number_in", "number_in", defArgs (top 30), defBody (top 30), defScope (top 30)⟩
]
def lawI : Nat := 54
def looseL : List Str := (["_wall", "CostError", "NoCount", "NoRow", "NoPlan", "NoCentre", "NoCosts", "NoText", "Unlike", "LastCentre", "Closed", "Begun", "TooMany", "NOTHING", "is_integer", "is_between", "divisor", "fraction", "sum_of", "times", "as_fraction", "MOST", "MOST_WEIGHT", "HEAD", "DIGITS", "is_row", "are_rows", "number_in", "Plan", "need_plan"] : List Str) ++ (["need_centre", "proportions_of", "MOST_COST", "are_costs", "need_costs", "passed_on", "Period", "_law_cell", "_law_pen", "_law_draw", "_law_same", "_law_draw_row", "_law_draw_plan", "_law_write", "_law_build", "_law_odds", "_law_near", "_law_is_right"] : List Str)
end SC
namespace SC
open PySem PySem.W PySem.Calls PyProof.Rows HandSHeadRun
abbrev Rw : PySem.W.OpenRow := PySem.W.OpenLaw.row PySem.Challenge.rw_supportcosts_k03_equal_plans
abbrev vw : Program := PySem.W.view Rw.prog [54]
theorem runA (w : World) (os : OsState) : (endF (stepQ (denQ tabQ) Rw.prog w) 40000 Rw.prog w os).map (fun s => (looksF Rw.prog (boot_heap w.params) s.abs, seenQ vw looseL (importedModules Rw.prog.main.body) (fun s => xlAt vw [] s && recOk Rw.toRowW.records s) s.abs)) = some (true, openGood vw looseL) := by
  kernel_rfl
def frT (s : SharedT) : PySem.W.Frag := He.frG (getT s) (He5.asA (getT s) 7)
theorem runB0 (w : World) (os : OsState) : (endF (stepQ (denQ tabQ) Rw.prog w) 40000 Rw.prog w os).map (fun s => ckL0.all fun f => f (frT s)) = some true := by
  kernel_rfl
theorem runB1 (w : World) (os : OsState) : (endF (stepQ (denQ tabQ) Rw.prog w) 40000 Rw.prog w os).map (fun s => ckL1.all fun f => f (frT s)) = some true := by
  kernel_rfl
theorem runB2 (w : World) (os : OsState) : (endF (stepQ (denQ tabQ) Rw.prog w) 40000 Rw.prog w os).map (fun s => ckL2.all fun f => f (frT s)) = some true := by
  kernel_rfl
theorem runB3 (w : World) (os : OsState) : (endF (stepQ (denQ tabQ) Rw.prog w) 40000 Rw.prog w os).map (fun s => ckL3.all fun f => f (frT s)) = some true := by
  kernel_rfl
theorem runF (w : World) (os : OsState) : (endF (stepQ (denQ tabQ) Rw.prog w) 40000 Rw.prog w os).map (fun s => fnL.all fun d => d.ok (frT s)) = some true := by
  kernel_rfl
theorem and_run {o : Option SharedT} {g h : SharedT → Bool} (h1 : o.map g = some true) (h2 : o.map h = some true) : o.map (fun s => g s && h s) = some true := by
  cases o with
  | none => cases h1
  | some s =>
    simp only [Option.map_some, Option.some.injEq] at h1 h2 ⊢
    rw [h1, h2] <;> rfl
theorem runB (w : World) (os : OsState) : (endF (stepQ (denQ tabQ) Rw.prog w) 40000 Rw.prog w os).map (fun s => ckA (frT s) && fnL.all fun d => d.ok (frT s)) = some true := by
  have e : (fun s => ckA (frT s) && fnL.all fun d => d.ok (frT s)) = fun s => ((ckL0.all fun f => f (frT s)) && ((ckL1.all fun f => f (frT s)) && ((ckL2.all fun f => f (frT s)) && ((ckL3.all fun f => f (frT s)))))) && fnL.all fun d => d.ok (frT s) := by
    funext s
    simp only [ckA, ckL, List.all_append]
  rw [e]
  exact and_run (and_run (runB0 w os) (and_run (runB1 w os) (and_run (runB2 w os) (runB3 w os)))) (runF w os)
theorem runC (w : World) (os : OsState) : (endF (stepQ (denQ tabQ) Rw.prog w) 40000 Rw.prog w os).map (fun s => fnL.map fun d => fnAt (frT s) (d.ad (frT s))) = some (fnL.map Dx.val) := by
  kernel_rfl
abbrev hkX : PySem.W.Hook := hookX 7 ckA fnL
def obX (s : SharedT) : AlX := obsXG 7 ckA fnL (getT s)
theorem obX_eq (s : SharedT) : obX s = hkX.obs s.abs := obsXG_eq (getT_eq s)
theorem mix {α β γ : Type} {o : Option SharedT} {f : SharedT → α} {g : SharedT → Bool} {h : SharedT → β} {a : α} {b : β} {k : SharedT → Bool × β} (hk : ∀ s, k s = (g s, h s)) (h1 : o.map f = some a) (h2 : o.map g = some true) (h3 : o.map h = some b) : o.map (fun s => (f s, k s)) = some (a, (true, b)) := by
  cases o with
  | none => cases h1
  | some s =>
    simp only [Option.map_some, Option.some.injEq] at h1 h2 h3 ⊢
    rw [hk, h1, h2, h3]
theorem runX (w : World) : RunEq Rw vw hkX obX 40000 looseL w := by
  intro os
  have m := mix (γ := Unit) (k := obX) (fun s => rfl) (runA w os) (runB w os) (runC w os)
  generalize endF (stepQ (denQ tabQ) Rw.prog w) 40000 Rw.prog w os = o at m ⊢
  cases o with
  | none => cases m
  | some s =>
    have e := Option.some.inj m
    exact congrArg some (Prod.ext (congrArg (fun z => z.1.1) e) (Prod.ext (congrArg (fun z => z.1.2) e) (congrArg (fun z => z.2) e)))
end SC

set_option Elab.async false
set_option linter.all false
set_option maxRecDepth 100000
namespace SC
open PySem PySem.Spec PyProof.Rows L2

/-- data: what a value stands for, without addresses -/
inductive D where
  | non | bl (b : Bool) | int (i : Int) | str (x : Str)
  | tup (ds : List D) | lst (ds : List D)
  | ins (c : Nat) (ds : List D)
  | dic (ks : List Key) (ds : List D)
  | scr (ns : List Int)
  | cl (c : Nat)

/-- the classes: where they stand, their fields' names -/
structure Cl where
  ad : Nat → Addr
  fl : Nat → List Str
  tl : List (Addr × Str) := []

abbrev Ms := Addr → Prop

/-- a list that nobody changes: locked, or of the written part -/
def SqF (K : PySem.W.Frag) (H : Hp) (a : Addr) (xs : List V) : Prop :=
  (∃ o, H a = some (.frz o (.lst xs))) ∨ ∃ (o : Obj) (its : Array Value) (n : Nat), K.lookup a = some o ∧ o.cls = .type "list" ∧ o.dict = none ∧ o.data = .seq its n ∧ its.size ≤ sizeLine ∧ Vals xs its.toList
theorem SqF.sql {K : PySem.W.Frag} {H : Hp} {a : Addr} {xs : List V} (h : SqF K H a xs) : SqL K H a xs := by
  rcases h with ⟨o, h⟩ | h
  · exact .inl (.inr ⟨o, h⟩)
  · exact .inr h
/-- what may be mutable -/
def Mu : Option HO → Prop
  | some (.lst _) => True
  | some (.ins _ _ _) => True
  | _ => False
/-- no table of code objects -/
def NT (o : HO) : Prop := ∀ ps, o ≠ .tbl ps
theorem NT.tup {xs : List V} : NT (.tup xs) := fun _ z => by cases z
theorem NT.lst {xs : List V} : NT (.lst xs) := fun _ z => by cases z
theorem NT.ins {C d : Addr} {fs : List (Str × V)} : NT (.ins C d fs) := fun _ z => by cases z
theorem NT.dK {kvs : List (Key × V)} : NT (.dK kvs) := fun _ z => by cases z
theorem NT.frz {o : Obj} {u : HO} : NT (.frz o u) := fun _ z => by cases z
theorem NT.mu {o : HO} (h : Mu (some o)) : NT o := fun ps z => by rw [z] at h; exact h
/-- what may be mutable is; the tables stand -/
structure MM (T : Cl) (M : Ms) (H : Hp) : Prop where
  mu : ∀ a, M a → Mu (H a)
  ts : LamX.Tabs T.tl H
instance {T : Cl} {M : Ms} {H : Hp} : CoeFun (MM T M H) (fun _ => ∀ a, M a → Mu (H a)) := ⟨MM.mu⟩
instance {T : Cl} {M : Ms} {H : Hp} : CoeOut (MM T M H) (∀ a, M a → Mu (H a)) := ⟨MM.mu⟩
/-- what stood still stands, the same if it is no table -/
def Kp (o : HO) (x : Option HO) : Prop := ∃ u, x = some u ∧ (NT o → u = o)
theorem Kp.of {o : HO} {x : Option HO} (h : x = some o) : Kp o x := ⟨o, h, fun _ => Eq.refl o⟩
theorem Kp.nt {o : HO} {x : Option HO} (h : Kp o x) (n : NT o) : x = some o := by
  obtain ⟨u, e, f⟩ := h
  rw [e, f n]
theorem Kp.ne {o : HO} {x : Option HO} (h : Kp o x) : x ≠ none := by
  obtain ⟨u, e, _⟩ := h
  rw [e]
  exact fun z => by cases z
theorem Kp.trans {H H' : Addr → Option HO} {a : Addr} {o : HO} (h : Kp o (H a)) (g : ∀ u, H a = some u → Kp u (H' a)) : Kp o (H' a) := by
  obtain ⟨u, e, f⟩ := h
  obtain ⟨v, e2, f2⟩ := g u e
  exact ⟨v, e2, fun n => by have := f n; subst this; exact f2 n⟩
/-- all stays but P; tables may grow -/
structure Ke (T : Cl) (P : Addr → Prop) (H H' : Hp) : Prop where
  at_ : ∀ a o, H a = some o → ¬ P a → Kp o (H' a)
  tab : LamX.Tabs T.tl H → LamX.Tabs T.tl H'
theorem Ke.rfl {T : Cl} {P : Addr → Prop} {H : Hp} : Ke T P H H := ⟨fun _ _ h _ => .of h, fun h => h⟩
theorem Ke.trans {T : Cl} {P P' : Addr → Prop} {H H1 H2 : Hp} (a : Ke T P H H1) (b : Ke T P' H1 H2) (h : ∀ c, P' c → H c = none ∨ P c) : Ke T P H H2 :=
  ⟨fun c o e n => (a.at_ c o e n).trans fun u eu => b.at_ c u eu fun z => (h c z).elim (fun q => by rw [q] at e; cases e) n, fun t => b.tab (a.tab t)⟩
theorem Ke.imp {T : Cl} {P P' : Addr → Prop} {H H' : Hp} (a : Ke T P H H') (h : ∀ c, H c ≠ none → P c → P' c) : Ke T P' H H' :=
  ⟨fun c o e n => a.at_ c o e fun z => n (h c (by rw [e]; exact fun q => by cases q) z), a.tab⟩
theorem Ke.of {T : Cl} {P : Addr → Prop} {H H' : Hp} (e : ∀ a o, H a = some o → H' a = some o) : Ke T P H H' := ⟨fun a o h _ => .of (e a o h), fun t => LamX.Tabs.ext t e⟩
theorem tabs_nt {T : List (Addr × Str)} {H H' : Hp} (t : LamX.Tabs T H) (e : ∀ a o, H a = some o → ¬ Mu (some o) → H' a = some o) : LamX.Tabs T H' := fun p hp => by
  obtain ⟨ps, h1, h2, h3⟩ := t p hp
  refine ⟨ps, e _ _ h1 (fun z => z), h2, fun pos cv hc => ?_⟩
  obtain ⟨c, e1, e2⟩ := h3 pos cv hc
  exact ⟨c, e1, e _ _ e2 (fun z => by unfold LamX.CodeO at z; exact z)⟩
section
variable (K : PySem.W.Frag) (T : Cl) (M : Ms) (H : Hp)
mutual
def Dv : D → V → Prop
  | .non, v => v = .non
  | .bl b, v => v = .bl b
  | .int i, v => v = .int i
  | .str x, v => v = .str x
  | .tup ds, v => ∃ a xs, v = .ref a ∧ SqT K H a xs ∧ DvS ds xs
  | .lst ds, v => ∃ a xs, v = .ref a ∧ ¬ M a ∧ H a = some (.lst xs) ∧ DvS ds xs
  | .ins c ds, v => ∃ a dx xs, v = .ref a ∧ ¬ M a ∧ H a = some (.ins (T.ad c) dx ((T.fl c).zip xs)) ∧ xs.length ≤ (T.fl c).length ∧ DvS ds xs
  | .dic ks ds, v => ∃ a xs, v = .ref a ∧ ¬ M a ∧ H a = some (.dK (ks.zip xs)) ∧ ks.length = xs.length ∧ DvS ds xs
  | .scr ns, v => ∃ a, v = .ref a ∧ SqF K H a (ns.map V.int)
  | .cl c, v => v = .ref (T.ad c)
def DvS : List D → List V → Prop
  | [], xs => xs = []
  | d :: ds, xs => ∃ x r, xs = x :: r ∧ Dv d x ∧ DvS ds r
end
end

/-- what is not mutable stays -/
def Keep (M : Ms) (H H' : Hp) : Prop := ∀ a o, H a = some o → ¬ M a → Kp o (H' a)
/-- all stays -/
def Ext (H H' : Hp) : Prop := ∀ a o, H a = some o → H' a = some o
theorem Ext.rfl {H : Hp} : Ext H H := fun _ _ h => h
theorem Ext.trans {H H1 H2 : Hp} (h : Ext H H1) (g : Ext H1 H2) : Ext H H2 := fun a o q => g a o (h a o q)
theorem Ext.keep {M : Ms} {H H' : Hp} (h : Ext H H') : Keep M H H' := fun a o q _ => .of (h a o q)
theorem Ext.ke {T : Cl} {P : Addr → Prop} {H H' : Hp} (h : Ext H H') : Ke T P H H' := Ke.of h
theorem Ke.keep {T : Cl} {P : Addr → Prop} {M : Ms} {H H' : Hp} (k : Ke T P H H') (h : ∀ a, P a → M a) : Keep M H H' := fun a o e n => k.at_ a o e fun z => n (h a z)
theorem Keep.rfl {M : Ms} {H : Hp} : Keep M H H := fun _ _ h _ => .of h
theorem Keep.trans {M : Ms} {H H1 H2 : Hp} (h : Keep M H H1) (g : Keep M H1 H2) : Keep M H H2 := fun a o q n => (h a o q n).trans fun u e => g a u e n
theorem Keep.mono {M M' : Ms} {H H' : Hp} (h : Keep M' H H') (s : ∀ a, M' a → M a) : Keep M H H' := fun a o q n => h a o q fun z => n (s a z)
theorem Ext.new {H : Hp} {p : Addr} {o : HO} (h : H p = none) : Ext H (upd H p o) := fun a u q => by
  rw [upd_ne (ne_of_none q h)]; exact q

section
variable {K : PySem.W.Frag} {T : Cl} {M M' : Ms} {H H' : Hp}
theorem SqT.keep {a : Addr} {xs : List V} (h : SqT K H a xs) (k : Keep M H H') (mm : ∀ a, M a → Mu (H a)) : SqT K H' a xs := by
  rcases h with h | h
  · rcases h with h | ⟨o, h⟩
    · exact .inl (.inl ((k a _ h fun z => by have := mm a z; rw [h] at this; exact this).nt .tup))
    · exact .inl (.inr ⟨o, (k a _ h fun z => by have := mm a z; rw [h] at this; exact this).nt .frz⟩)
  · exact .inr h
theorem SqF.keep {a : Addr} {xs : List V} (h : SqF K H a xs) (k : Keep M H H') (mm : ∀ a, M a → Mu (H a)) : SqF K H' a xs := by
  rcases h with ⟨o, h⟩ | h
  · exact .inl ⟨o, (k a _ h fun z => by have := mm a z; rw [h] at this; exact this).nt .frz⟩
  · exact .inr h
theorem SqT.ext {a : Addr} {xs : List V} (h : SqT K H a xs) (k : Ext H H') : SqT K H' a xs := SqT.keep (M := fun _ => False) h k.keep fun _ z => z.elim
theorem SqF.ext {a : Addr} {xs : List V} (h : SqF K H a xs) (k : Ext H H') : SqF K H' a xs := SqF.keep (M := fun _ => False) h k.keep fun _ z => z.elim
mutual
theorem Dv.keep (k : Keep M H H') (mm : ∀ a, M a → Mu (H a)) : ∀ (d : D) {v : V}, Dv K T M H d v → Dv K T M H' d v
  | .non, _, h => h
  | .bl _, _, h => h
  | .int _, _, h => h
  | .str _, _, h => h
  | .tup ds, v, h => by
    obtain ⟨a, xs, e, q, r⟩ := h
    exact ⟨a, xs, e, SqT.keep q k mm, DvS.keep k mm ds r⟩
  | .lst ds, v, h => by
    obtain ⟨a, xs, e, n, q, r⟩ := h
    exact ⟨a, xs, e, n, (k a _ q n).nt .lst, DvS.keep k mm ds r⟩
  | .ins c ds, v, h => by
    obtain ⟨a, dx, xs, e, n, q, l, r⟩ := h
    exact ⟨a, dx, xs, e, n, (k a _ q n).nt .ins, l, DvS.keep k mm ds r⟩
  | .dic ks ds, v, h => by
    obtain ⟨a, xs, e, n, q, l, r⟩ := h
    exact ⟨a, xs, e, n, (k a _ q n).nt .dK, l, DvS.keep k mm ds r⟩
  | .scr ns, v, h => by
    obtain ⟨a, e, q⟩ := h
    exact ⟨a, e, SqF.keep q k mm⟩
  | .cl _, _, h => h
theorem DvS.keep (k : Keep M H H') (mm : ∀ a, M a → Mu (H a)) : ∀ (ds : List D) {xs : List V}, DvS K T M H ds xs → DvS K T M H' ds xs
  | [], _, h => h
  | d :: ds, _, h => by
    obtain ⟨x, r, e, h1, h2⟩ := h
    exact ⟨x, r, e, Dv.keep k mm d h1, DvS.keep k mm ds h2⟩
end
mutual
theorem Dv.ext (k : Ext H H') : ∀ (d : D) {v : V}, Dv K T M H d v → Dv K T M H' d v
  | .non, _, h => h
  | .bl _, _, h => h
  | .int _, _, h => h
  | .str _, _, h => h
  | .tup ds, v, h => by
    obtain ⟨a, xs, e, q, r⟩ := h
    exact ⟨a, xs, e, SqT.ext q k, DvS.ext k ds r⟩
  | .lst ds, v, h => by
    obtain ⟨a, xs, e, n, q, r⟩ := h
    exact ⟨a, xs, e, n, k a _ q, DvS.ext k ds r⟩
  | .ins c ds, v, h => by
    obtain ⟨a, dx, xs, e, n, q, l, r⟩ := h
    exact ⟨a, dx, xs, e, n, k a _ q, l, DvS.ext k ds r⟩
  | .dic ks ds, v, h => by
    obtain ⟨a, xs, e, n, q, l, r⟩ := h
    exact ⟨a, xs, e, n, k a _ q, l, DvS.ext k ds r⟩
  | .scr ns, v, h => by
    obtain ⟨a, e, q⟩ := h
    exact ⟨a, e, SqF.ext q k⟩
  | .cl _, _, h => h
theorem DvS.ext (k : Ext H H') : ∀ (ds : List D) {xs : List V}, DvS K T M H ds xs → DvS K T M H' ds xs
  | [], _, h => h
  | d :: ds, _, h => by
    obtain ⟨x, r, e, h1, h2⟩ := h
    exact ⟨x, r, e, Dv.ext k d h1, DvS.ext k ds h2⟩
end
-- other mutable things: fewer, or more of what was not there
mutual
theorem Dv.to (s : ∀ a, M' a → M a ∨ H a = none) : ∀ (d : D) {v : V}, Dv K T M H d v → Dv K T M' H d v
  | .non, _, h => h
  | .bl _, _, h => h
  | .int _, _, h => h
  | .str _, _, h => h
  | .tup ds, v, h => by
    obtain ⟨a, xs, e, q, r⟩ := h
    exact ⟨a, xs, e, q, DvS.to s ds r⟩
  | .lst ds, v, h => by
    obtain ⟨a, xs, e, n, q, r⟩ := h
    exact ⟨a, xs, e, fun z => (s a z).elim n (fun w => by rw [w] at q; cases q), q, DvS.to s ds r⟩
  | .ins c ds, v, h => by
    obtain ⟨a, dx, xs, e, n, q, l, r⟩ := h
    exact ⟨a, dx, xs, e, fun z => (s a z).elim n (fun w => by rw [w] at q; cases q), q, l, DvS.to s ds r⟩
  | .dic ks ds, v, h => by
    obtain ⟨a, xs, e, n, q, l, r⟩ := h
    exact ⟨a, xs, e, fun z => (s a z).elim n (fun w => by rw [w] at q; cases q), q, l, DvS.to s ds r⟩
  | .scr ns, v, h => h
  | .cl _, _, h => h
theorem DvS.to (s : ∀ a, M' a → M a ∨ H a = none) : ∀ (ds : List D) {xs : List V}, DvS K T M H ds xs → DvS K T M' H ds xs
  | [], _, h => h
  | d :: ds, _, h => by
    obtain ⟨x, r, e, h1, h2⟩ := h
    exact ⟨x, r, e, Dv.to s d h1, DvS.to s ds h2⟩
end
theorem Dv.less (s : ∀ a, M' a → M a) (d : D) {v : V} (h : Dv K T M H d v) : Dv K T M' H d v := Dv.to (fun a z => .inl (s a z)) d h
theorem DvS.less (s : ∀ a, M' a → M a) (ds : List D) {xs : List V} (h : DvS K T M H ds xs) : DvS K T M' H ds xs := DvS.to (fun a z => .inl (s a z)) ds h
theorem DvS.nil : DvS K T M H [] [] := rfl
theorem DvS.cons {d : D} {ds : List D} {x : V} {xs : List V} (h : Dv K T M H d x) (r : DvS K T M H ds xs) : DvS K T M H (d :: ds) (x :: xs) := ⟨x, xs, rfl, h, r⟩
theorem DvS.length : ∀ {ds : List D} {xs : List V}, DvS K T M H ds xs → ds.length = xs.length
  | [], _, h => by cases (show _ = [] from h); rfl
  | _ :: ds, _, ⟨_, r, e, _, h2⟩ => by subst e; simp [DvS.length h2]
theorem DvS.get : ∀ {ds : List D} {xs : List V} {i : Nat} {x : V}, DvS K T M H ds xs → xs[i]? = some x → ∃ d, ds[i]? = some d ∧ Dv K T M H d x
  | [], _, _, _, h, e => by cases (show _ = [] from h); simp at e
  | d :: ds, _, 0, _, ⟨_, r, e0, h1, _⟩, e => by subst e0; simp at e; subst e; exact ⟨d, rfl, h1⟩
  | d :: ds, _, i + 1, _, ⟨_, r, e0, _, h2⟩, e => by
    subst e0
    obtain ⟨d', h3, h4⟩ := DvS.get (i := i) h2 (by simpa using e)
    exact ⟨d', by simpa using h3, h4⟩
theorem DvS.getD : ∀ {ds : List D} {xs : List V} {i : Nat} {d : D}, DvS K T M H ds xs → ds[i]? = some d → ∃ x, xs[i]? = some x ∧ Dv K T M H d x
  | [], _, _, _, h, e => by simp at e
  | d :: ds, _, 0, _, ⟨x, r, e0, h1, _⟩, e => by subst e0; simp at e; subst e; exact ⟨x, rfl, h1⟩
  | d :: ds, _, i + 1, _, ⟨_, r, e0, _, h2⟩, e => by
    subst e0
    obtain ⟨x', h3, h4⟩ := DvS.getD (i := i) h2 (by simpa using e)
    exact ⟨x', by simpa using h3, h4⟩
theorem DvS.append : ∀ {ds es : List D} {xs ys : List V}, DvS K T M H ds xs → DvS K T M H es ys → DvS K T M H (ds ++ es) (xs ++ ys)
  | [], _, _, _, h, g => by cases (show _ = [] from h); exact g
  | d :: ds, _, _, _, ⟨x, r, e, h1, h2⟩, g => by subst e; exact ⟨x, _, rfl, h1, DvS.append h2 g⟩
theorem DvS.take : ∀ {ds : List D} {xs : List V} (n : Nat), DvS K T M H ds xs → DvS K T M H (ds.take n) (xs.take n)
  | _, _, 0, _ => by simp [DvS]
  | [], _, n + 1, h => by cases (show _ = [] from h); simp [DvS]
  | d :: ds, _, n + 1, ⟨x, r, e, h1, h2⟩ => by subst e; exact ⟨x, _, rfl, h1, DvS.take n h2⟩
theorem DvS.drop : ∀ {ds : List D} {xs : List V} (n : Nat), DvS K T M H ds xs → DvS K T M H (ds.drop n) (xs.drop n)
  | _, _, 0, h => h
  | [], _, n + 1, h => by cases (show _ = [] from h); simp [DvS]
  | d :: ds, _, n + 1, ⟨x, r, e, h1, h2⟩ => by subst e; exact DvS.drop n h2
theorem DvS.set : ∀ {ds : List D} {xs : List V} (i : Nat) {d : D} {x : V}, DvS K T M H ds xs → Dv K T M H d x → DvS K T M H (ds.set i d) (xs.set i x)
  | [], _, _, _, _, h, _ => by cases (show _ = [] from h); simp [DvS]
  | d :: ds, _, 0, _, _, ⟨x, r, e, h1, h2⟩, g => by subst e; exact ⟨_, _, rfl, g, h2⟩
  | d :: ds, _, i + 1, _, _, ⟨x, r, e, h1, h2⟩, g => by subst e; exact ⟨_, _, rfl, h1, DvS.set i h2 g⟩
theorem DvS.reverse {ds : List D} {xs : List V} : DvS K T M H ds xs → DvS K T M H ds.reverse xs.reverse := by
  induction ds generalizing xs with
  | nil => intro h; cases (show _ = [] from h); exact rfl
  | cons d ds ih =>
    rintro ⟨x, r, e, h1, h2⟩
    subst e
    rw [List.reverse_cons, List.reverse_cons]
    exact DvS.append (ih h2) (DvS.cons h1 DvS.nil)
theorem DvS.eraseIdx : ∀ {ds : List D} {xs : List V} (i : Nat), DvS K T M H ds xs → DvS K T M H (ds.eraseIdx i) (xs.eraseIdx i)
  | [], _, _, h => by cases (show _ = [] from h); simp [DvS]
  | d :: ds, _, 0, ⟨x, r, e, h1, h2⟩ => by subst e; exact h2
  | d :: ds, _, i + 1, ⟨x, r, e, h1, h2⟩ => by subst e; exact ⟨x, _, rfl, h1, DvS.eraseIdx i h2⟩
theorem DvS.ints : ∀ {ns : List Int} {xs : List V}, DvS K T M H (ns.map D.int) xs → xs = ns.map V.int
  | [], _, h => h
  | n :: ns, _, ⟨x, r, e, h1, h2⟩ => by subst e; cases (show x = .int n from h1); rw [DvS.ints h2]; rfl
theorem DvS.of_ints : ∀ (ns : List Int), DvS K T M H (ns.map D.int) (ns.map V.int)
  | [] => rfl
  | n :: ns => ⟨_, _, rfl, rfl, DvS.of_ints ns⟩
theorem DvS.bls : ∀ {ns : List Bool} {xs : List V}, DvS K T M H (ns.map D.bl) xs → xs = ns.map V.bl
  | [], _, h => h
  | n :: ns, _, ⟨x, r, e, h1, h2⟩ => by subst e; cases (show x = .bl n from h1); rw [DvS.bls h2]; rfl
theorem DvS.strs : ∀ {ns : List Str} {xs : List V}, DvS K T M H (ns.map D.str) xs → xs = ns.map V.str
  | [], _, h => h
  | n :: ns, _, ⟨x, r, e, h1, h2⟩ => by subst e; cases (show x = .str n from h1); rw [DvS.strs h2]; rfl
theorem DvS.of_strs : ∀ (ns : List Str), DvS K T M H (ns.map D.str) (ns.map V.str)
  | [] => rfl
  | n :: ns => ⟨_, _, rfl, rfl, DvS.of_strs ns⟩
/-- a new tuple of data -/
theorem Dv.newTup {ds : List D} {xs : List V} {p : Addr} (h : DvS K T M H ds xs) (hp : H p = none) (hm : ¬ M p) : Dv K T M (upd H p (.tup xs)) (.tup ds) (.ref p) :=
  ⟨p, xs, rfl, SqT.of upd_same, DvS.ext (Ext.new hp) ds h⟩
theorem Dv.newLst {ds : List D} {xs : List V} {p : Addr} (h : DvS K T M H ds xs) (hp : H p = none) (hm : ¬ M p) : Dv K T M (upd H p (.lst xs)) (.lst ds) (.ref p) :=
  ⟨p, xs, rfl, hm, upd_same, DvS.ext (Ext.new hp) ds h⟩
end

/-! ### the slots -/
abbrev Sg := L2.St
inductive Sl where
  | un | dat (d : D) | own (ds : List D) | obj (c : Nat) (ds : List D)
abbrev Ev := List Sl
def Sl.mut : Sl → Bool
  | .own _ => true
  | .obj _ _ => true
  | _ => false

/-- the frame of a def: the written part, the classes, what the caller may have that changes, the own parameters (slot, address), the heap at the entry -/
structure Fx where
  K : PySem.W.Frag
  T : Cl
  M0 : Ms
  pa : List (Nat × Addr)
  H0 : Hp
def Fx.P (F : Fx) (a : Addr) : Prop := ∃ i, (i, a) ∈ F.pa

/-- what a mutable slot holds, at the address a -/
def MutAt (K : PySem.W.Frag) (T : Cl) (M : Ms) (H : Hp) (a : Addr) : Sl → Prop
  | .own ds => ∃ xs, H a = some (.lst xs) ∧ DvS K T M H ds xs
  | .obj c ds => ∃ dx xs, H a = some (.ins (T.ad c) dx ((T.fl c).zip xs)) ∧ xs.length ≤ (T.fl c).length ∧ DvS K T M H ds xs
  | _ => False
def SlOk (F : Fx) (M : Ms) (H : Hp) : Sl → Option V → Prop
  | .un, _ => True
  | .dat d, v => ∃ x, v = some x ∧ Dv F.K F.T M H d x
  | s, v => ∃ a, v = some (.ref a) ∧ M a ∧ (F.P a ∨ F.H0 a = none) ∧ MutAt F.K F.T M H a s

structure ER (F : Fx) (M : Ms) (ρ : Ev) (σ : Sg) (H : Hp) : Prop where
  m0 : ∀ a, F.M0 a → M a
  mm : MM F.T M H
  kp : Ke F.T F.P F.H0 H
  h0 : ∀ a, F.M0 a → F.H0 a ≠ none
  ln : ρ.length = σ.length
  sl : ∀ (i : Nat) (s : Sl), ρ[i]? = some s → ∃ v, σ[i]? = some v ∧ SlOk F M H s v
  ap : ∀ (i j : Nat) (s t : Sl) (v : Option V), ρ[i]? = some s → s.mut = true → ρ[j]? = some t → t.mut = true → σ[i]? = some v → σ[j]? = some v → i = j
  pr : ∀ p ∈ F.pa, σ[p.1]? = some (some (.ref p.2)) ∧ ∃ s, ρ[p.1]? = some s ∧ s.mut = true
  pp : ∀ a, F.P a → F.M0 a

section
variable {F : Fx} {M M' : Ms} {ρ : Ev} {σ : Sg} {H H' : Hp}
theorem MutAt.ext {K : PySem.W.Frag} {T : Cl} {a : Addr} (e : Ext H H') : ∀ {s : Sl}, MutAt K T M H a s → MutAt K T M H' a s
  | .un, h => h.elim
  | .dat _, h => h.elim
  | .own ds, ⟨xs, e2, e3⟩ => ⟨xs, e a _ e2, DvS.ext e ds e3⟩
  | .obj c ds, ⟨dx, xs, e2, l, e3⟩ => ⟨dx, xs, e a _ e2, l, DvS.ext e ds e3⟩
theorem MutAt.less {K : PySem.W.Frag} {T : Cl} {a : Addr} (e : ∀ a, M' a → M a) : ∀ {s : Sl}, MutAt K T M H a s → MutAt K T M' H a s
  | .un, h => h.elim
  | .dat _, h => h.elim
  | .own ds, ⟨xs, e2, e3⟩ => ⟨xs, e2, DvS.less e ds e3⟩
  | .obj c ds, ⟨dx, xs, e2, l, e3⟩ => ⟨dx, xs, e2, l, DvS.less e ds e3⟩
/-- .. where another mutable thing has changed -/
theorem MutAt.other {K : PySem.W.Frag} {T : Cl} {a : Addr} (k : Keep M H H') (mm : ∀ a, M a → Mu (H a)) (ka : H' a = H a) : ∀ {s : Sl}, MutAt K T M H a s → MutAt K T M H' a s
  | .un, h => h.elim
  | .dat _, h => h.elim
  | .own ds, ⟨xs, e2, e3⟩ => ⟨xs, ka.trans e2, DvS.keep k mm ds e3⟩
  | .obj c ds, ⟨dx, xs, e2, l, e3⟩ => ⟨dx, xs, ka.trans e2, l, DvS.keep k mm ds e3⟩
theorem SlOk.mut_at {s : Sl} {v : Option V} (h : SlOk F M H s v) (m : s.mut = true) : ∃ a, v = some (.ref a) ∧ M a ∧ (F.P a ∨ F.H0 a = none) ∧ MutAt F.K F.T M H a s := by
  cases s with
  | un => cases m
  | dat _ => cases m
  | own ds => exact h
  | obj c ds => exact h
theorem SlOk.of_mut {s : Sl} {v : Option V} (m : s.mut = true) (h : ∃ a, v = some (.ref a) ∧ M a ∧ (F.P a ∨ F.H0 a = none) ∧ MutAt F.K F.T M H a s) : SlOk F M H s v := by
  cases s with
  | un => cases m
  | dat _ => cases m
  | own ds => exact h
  | obj c ds => exact h
/-- the heap has only grown -/
theorem ER.ext (R : ER F M ρ σ H) (e : Ext H H') : ER F M ρ σ H' where
  m0 := R.m0
  mm := ⟨fun a m => by
    cases q : H a with
    | none => have := R.mm a m; rw [q] at this; exact this.elim
    | some o => rw [e a o q]; have := R.mm a m; rw [q] at this; exact this, LamX.Tabs.ext R.mm.ts e⟩
  kp := R.kp.trans (Ke.of (P := fun _ => False) e) fun _ z => z.elim
  h0 := R.h0
  ln := R.ln
  sl := fun i s h => by
    obtain ⟨v, h1, h2⟩ := R.sl i s h
    refine ⟨v, h1, ?_⟩
    cases s with
    | un => trivial
    | dat d => obtain ⟨x, e1, e2⟩ := h2; exact ⟨x, e1, Dv.ext e d e2⟩
    | own ds => obtain ⟨a, e1, m, p, e2⟩ := h2; exact ⟨a, e1, m, p, e2.ext e⟩
    | obj c ds => obtain ⟨a, e1, m, p, e2⟩ := h2; exact ⟨a, e1, m, p, e2.ext e⟩
  ap := R.ap
  pr := R.pr
  pp := R.pp
theorem ER.mh (R : ER F M ρ σ H) (a : Addr) (m : M a) : H a ≠ none := fun e => by have := R.mm a m; rw [e] at this; exact this
theorem ER.fresh (R : ER F M ρ σ H) {p : Addr} (hp : H p = none) : ¬ M p := fun m => R.mh p m hp
end

/-! ### what an expression gives: data, or a mutable slot -/
inductive Opd where
  | dat (d : D) | slot (i : Nat)
def OpdOk (F : Fx) (M : Ms) (H : Hp) (σ : Sg) : Opd → V → Prop
  | .dat d, v => Dv F.K F.T M H d v
  | .slot i, v => σ[i]? = some (some v)
theorem OpdOk.keep {F : Fx} {M : Ms} {H H' : Hp} {σ : Sg} (mm : ∀ a, M a → Mu (H a)) (k : Keep M H H') : ∀ {o : Opd} {v : V}, OpdOk F M H σ o v → OpdOk F M H' σ o v
  | .dat d, _, h => Dv.keep k mm d h
  | .slot _, _, h => h
theorem OpdOk.less {F : Fx} {M M' : Ms} {H : Hp} {σ : Sg} (k : ∀ a, M' a → M a) : ∀ {o : Opd} {v : V}, OpdOk F M H σ o v → OpdOk F M' H σ o v
  | .dat d, _, h => Dv.less k d h
  | .slot _, _, h => h
/-- an operand, its content read -/
def Opd.get (ρ : Ev) : Opd → Option D
  | .dat d => some d
  | .slot i => match ρ[i]? with
    | some (.own ds) => some (.lst ds)
    | some (.obj c ds) => some (.ins c ds)
    | _ => none
/-- data, or a mutable thing whose content is data: what operators that keep nothing may take -/
def Do (K : PySem.W.Frag) (T : Cl) (M : Ms) (H : Hp) (d : D) (v : V) : Prop :=
  Dv K T M H d v ∨ (∃ ds a xs, d = .lst ds ∧ v = .ref a ∧ H a = some (.lst xs) ∧ DvS K T M H ds xs) ∨
    ∃ c ds a dx xs, d = .ins c ds ∧ v = .ref a ∧ H a = some (.ins (T.ad c) dx ((T.fl c).zip xs)) ∧ xs.length ≤ (T.fl c).length ∧ DvS K T M H ds xs
theorem ER.opd {F : Fx} {M : Ms} {ρ : Ev} {σ : Sg} {H : Hp} (R : ER F M ρ σ H) {o : Opd} {v : V} {d : D} (h : OpdOk F M H σ o v) (g : o.get ρ = some d) : Do F.K F.T M H d v := by
  cases o with
  | dat e => cases g; exact .inl h
  | slot i =>
    have g' : (match ρ[i]? with
      | some (.own ds) => some (D.lst ds)
      | some (.obj c ds) => some (.ins c ds)
      | _ => none) = some d := g
    cases q : ρ[i]? with
    | none => rw [q] at g'; cases g'
    | some s =>
      obtain ⟨v', h1, h2⟩ := R.sl i s q
      rw [show σ[i]? = some (some v) from h] at h1
      cases h1
      rw [q] at g'
      cases s with
      | un => cases g'
      | dat _ => cases g'
      | own ds =>
        cases g'
        obtain ⟨a, e, m, p, xs, e2, e3⟩ := h2
        cases e
        exact .inr (.inl ⟨ds, a, xs, rfl, rfl, e2, e3⟩)
      | obj c ds =>
        cases g'
        obtain ⟨a, e, m, p, dx, xs, e2, l, e3⟩ := h2
        cases e
        exact .inr (.inr ⟨c, ds, a, dx, xs, rfl, rfl, e2, l, e3⟩)
section
variable {K : PySem.W.Frag} {T : Cl} {M : Ms} {H : Hp} {v : V}
theorem Do.int {i : Int} (h : Do K T M H (.int i) v) : v = .int i := by
  rcases h with h | ⟨_, _, _, e, _⟩ | ⟨_, _, _, _, _, e, _⟩
  · exact h
  · cases e
  · cases e
theorem Do.bl {i : Bool} (h : Do K T M H (.bl i) v) : v = .bl i := by
  rcases h with h | ⟨_, _, _, e, _⟩ | ⟨_, _, _, _, _, e, _⟩
  · exact h
  · cases e
  · cases e
theorem Do.str {i : Str} (h : Do K T M H (.str i) v) : v = .str i := by
  rcases h with h | ⟨_, _, _, e, _⟩ | ⟨_, _, _, _, _, e, _⟩
  · exact h
  · cases e
  · cases e
theorem Do.non (h : Do K T M H .non v) : v = .non := by
  rcases h with h | ⟨_, _, _, e, _⟩ | ⟨_, _, _, _, _, e, _⟩
  · exact h
  · cases e
  · cases e
theorem Do.tup {ds : List D} (h : Do K T M H (.tup ds) v) : ∃ a xs, v = .ref a ∧ SqT K H a xs ∧ DvS K T M H ds xs := by
  rcases h with ⟨a, xs, e, q, r⟩ | ⟨_, _, _, e, _⟩ | ⟨_, _, _, _, _, e, _⟩
  · exact ⟨a, xs, e, q, r⟩
  · cases e
  · cases e
theorem Do.lst {ds : List D} (h : Do K T M H (.lst ds) v) : ∃ a xs, v = .ref a ∧ H a = some (.lst xs) ∧ DvS K T M H ds xs := by
  rcases h with ⟨a, xs, e, _, q, r⟩ | ⟨_, a, xs, e, e2, q, r⟩ | ⟨_, _, _, _, _, e, _⟩
  · exact ⟨a, xs, e, q, r⟩
  · cases e; exact ⟨a, xs, e2, q, r⟩
  · cases e
theorem Do.scr {ns : List Int} (h : Do K T M H (.scr ns) v) : ∃ a, v = .ref a ∧ SqL K H a (ns.map V.int) := by
  rcases h with ⟨a, e, q⟩ | ⟨_, _, _, e, _⟩ | ⟨_, _, _, _, _, e, _⟩
  · exact ⟨a, e, q.sql⟩
  · cases e
  · cases e
theorem Do.ins {c : Nat} {ds : List D} (h : Do K T M H (.ins c ds) v) : ∃ a dx xs, v = .ref a ∧ H a = some (.ins (T.ad c) dx ((T.fl c).zip xs)) ∧ xs.length ≤ (T.fl c).length ∧ DvS K T M H ds xs := by
  rcases h with ⟨a, dx, xs, e, _, q, l, r⟩ | ⟨_, _, _, e, _⟩ | ⟨c', ds', a, dx, xs, e, e2, q, l, r⟩
  · exact ⟨a, dx, xs, e, q, l, r⟩
  · cases e
  · cases e; exact ⟨a, dx, xs, e2, q, l, r⟩
end

/-! ### expressions -/
/-- denotations: of an expression, of an argument list -/
abbrev FE := Ev → Option (Opd × Ev)
abbrev FA := Ev → Option (List Opd × Ev)
abbrev FT := Ev → Option (Bool × Ev)
/-- the reading of an expression by its denotation -/
def TEd (F : Fx) (f : FE) : TE := fun σ H Q => ∃ M ρ o ρ', ER F M ρ σ H ∧ f ρ = some (o, ρ') ∧
  ∀ v M' H', (∀ a, M' a → M a) → ER F M' ρ' σ H' → Keep M H H' → OpdOk F M' H' σ o v → Q v H'
def OpdsOk (F : Fx) (M : Ms) (H : Hp) (σ : Sg) (os : List Opd) (vs : List V) : Prop := Paired (OpdOk F M H σ) os vs
def TAd (F : Fx) (f : FA) : TA := fun σ H Q => ∃ M ρ os ρ', ER F M ρ σ H ∧ f ρ = some (os, ρ') ∧
  ∀ vs M' H', (∀ a, M' a → M a) → ER F M' ρ' σ H' → Keep M H H' → OpdsOk F M' H' σ os vs → Q vs H'
def TTd (F : Fx) (f : FT) : TT := fun σ H Q => ∃ M ρ b ρ', ER F M ρ σ H ∧ f ρ = some (b, ρ') ∧
  ∀ M' H', (∀ a, M' a → M a) → ER F M' ρ' σ H' → Keep M H H' → Q b H'
theorem PE.imp {X : Cx} {e : Expr} {t t' : TE} (h : PE X e t) (g : ∀ σ H Q, t' σ H Q → t σ H Q) : PE X e t' := ⟨fun pins s σ H Q I hw => h.run pins s σ H Q I (g _ _ _ hw)⟩
theorem PT.imp {X : Cx} {e : Expr} {t t' : TT} (h : PT X e t) (g : ∀ σ H Q, t' σ H Q → t σ H Q) : PT X e t' := ⟨fun pins s σ H Q I hw => h.run pins s σ H Q I (g _ _ _ hw)⟩
theorem PW.imp {X : Cx} {e : Expr} {t t' : TT} (h : PW X e t) (g : ∀ σ H Q, t' σ H Q → t σ H Q) : PW X e t' := ⟨fun wh pins s σ H Q I hw => h.run wh pins s σ H Q I (g _ _ _ hw)⟩
theorem PA.imp {X : Cx} {e : List Expr} {t t' : TA} (h : PA X e t) (g : ∀ σ H Q, t' σ H Q → t σ H Q) : PA X e t' := ⟨fun pos pins s σ H Q I hw => h.run pos pins s σ H Q I (g _ _ _ hw)⟩
theorem PS.imp {X : Cx} {e : Stmt} {t t' : TS} (h : PS X e t) (g : ∀ D σ H, t' D σ H → t D σ H) : PS X e t' := ⟨fun pins s σ H D I hw => h.run pins s σ H D I (g _ _ _ hw)⟩
theorem PSs.imp {X : Cx} {e : List Stmt} {t t' : TS} (h : PSs X e t) (g : ∀ D σ H, t' D σ H → t D σ H) : PSs X e t' := ⟨fun pins s σ H D I hw => h.run pins s σ H D I (g _ _ _ hw)⟩
end SC

set_option Elab.async false
set_option linter.all false
set_option maxRecDepth 100000
set_option maxHeartbeats 4000000
namespace SC
open PySem PySem.Spec PyProof.Rows L2
/-- a tuple taken once: the tuple itself -/
theorem tup_once (l : Addr) (its : Array Value) (n : Nat) (dd : Option Addr) (sl : Array (Option Value)) (u : Tok) :
    Meets (Builtin.«tuple.__mul__» ⟨[.ref l, .int 1 u], []⟩) (fun _ R s => s.heap.get? l = some { cls := .type "tuple", dict := dd, data := .seq its n, slots := sl } ∧ R (.ok (.ret (.ref l))) s) :=
  .of_wp fun prog w A R s h => by
    obtain ⟨hp, gs, dr, tk, os⟩ := s
    obtain ⟨hl, h⟩ := h
    have f1 := AutoSeq1.idx_int
    have b1 : (its.isEmpty || (1 : Int) == 1) = true := by simp
    wp_walk using wpAny_loadPart' hl
    exact ⟨_, rfl, h⟩
/-- t * 1, t a tuple with items: t -/
def rOnce (K : PySem.W.Frag) : R2 := fun x y H Q => ∃ l xs, x = V.ref l ∧ y = V.int 1 ∧ SqT K H l xs ∧ xs ≠ [] ∧ Q (.ref l) H
theorem op_once {X : Cx} : OpR X (binaryOp .Mult) (rOnce X.K) := by
  intro pins s σ H x y v u Q I rx ry h
  obtain ⟨l, xs, rfl, rfl, hT, hne, q⟩ := h
  cases rx
  obtain ⟨t, rfl⟩ := ry
  obtain ⟨its, r, ⟨⟨cls, dd, dat, sl⟩, ho, hc, n, hd⟩, hs⟩ := I.tuple hT
  simp only at hc hd
  subst hc hd
  refine wpAny_binaryOp_repeat_ref (T := "tuple") (U := "int") (by decide) ⟨_, ho, rfl⟩ (fun s1 => typeIs_int s1 1 t) noFill_tuple_mul F.fills_int_mul F.slot_int_rmul repeat_tuple F.slot_int_index.lookup
    (call_meets F.slot_int_rmul (typeIs_int s 1 t) F.entry_int_rmul (F.args_int_rmul_2 _ _) (int_rmul_tuple 1 t l its.toArray n dd sl) ⟨ho, rfl, ⟨_, ho, rfl⟩, ?_⟩)
  refine call_meets F.slot_tuple_mul ⟨_, ho, rfl⟩ F.entry_tuple_mul (F.args_tuple_mul_2 _ _) (tup_once l its.toArray n dd sl t) ⟨ho, ?_⟩
  exact ⟨.ref l, H, I, rfl, q⟩
end SC

set_option Elab.async false
set_option linter.all false
set_option maxRecDepth 100000
namespace SC
open PySem PySem.Spec PyProof.Rows L2

/-! ### operators by values -/
def rD (F : Fx) (g : D → D → Option D) : R2 := fun x y H Q => ∃ M d e r, (∀ a, M a → H a ≠ none) ∧ Do F.K F.T M H d x ∧ Do F.K F.T M H e y ∧ g d e = some r ∧ ∀ v H', Ext H H' → Dv F.K F.T M H' r v → Q v H'
def rU1 (F : Fx) (g : D → Option D) : V → Hp → VK → Prop := fun x H Q => ∃ M d r, (∀ a, M a → H a ≠ none) ∧ Do F.K F.T M H d x ∧ g d = some r ∧ ∀ v H', Ext H H' → Dv F.K F.T M H' r v → Q v H'
theorem OpR.imp {X : Cx} {f : Value → Value → Sem Value} {r r' : R2} (h : OpR X f r) (g : ∀ x y H Q, r' x y H Q → r x y H Q) : OpR X f r' :=
  fun pins s σ H x y v u Q I rx ry hw => h pins s σ H x y v u Q I rx ry (g _ _ _ _ hw)

def sLn : Nat := 16777216
theorem sLn_eq : sLn = sizeLine := by decide
def dAdd : D → D → Option D
  | .int i, .int j => some (.int (i + j))
  | .str x, .str y => if x.length + y.length ≤ sLn then some (.str (x ++ y)) else none
  | .tup xs, .tup ys => if xs.length + ys.length ≤ sLn then some (.tup (xs ++ ys)) else none
  | .lst xs, .lst ys => if xs.length + ys.length ≤ sLn then some (.lst (xs ++ ys)) else none
  | _, _ => none
def dSub : D → D → Option D
  | .int i, .int j => some (.int (i - j))
  | _, _ => none
def dMul : D → D → Option D
  | .int i, .int j => if i.natAbs.log2 + j.natAbs.log2 < 1000000 then some (.int (i * j)) else none
  | .tup xs, .int k => if xs ≠ [] ∧ k = 1 then some (.tup xs) else if xs ≠ [] ∧ 2 ≤ k ∧ k ≤ 1000 ∧ xs.length ≤ 1000 then some (.tup (List.replicate k.toNat xs).flatten) else none
  | .lst xs, .int k => if 0 ≤ k ∧ k ≤ 1000 ∧ xs.length ≤ 1000 then some (.lst (List.replicate k.toNat xs).flatten) else none
  | _, _ => none
def dMod : D → D → Option D
  | .int i, .int j => if 0 < j then some (.int (i % j)) else none
  | _, _ => none
def dDiv : D → D → Option D
  | .int i, .int j => if 0 < j ∧ j.natAbs.log2 < 9000 then some (.int (i / j)) else none
  | _, _ => none
def dPow : D → D → Option D
  | .int i, .int j => if 0 ≤ j ∧ j ≤ 1000 ∧ i.natAbs < 2 ^ 64 then some (.int (i ^ j.toNat)) else none
  | _, _ => none
section
variable {X : Cx} {F : Fx}
theorem opd_add (hK : F.K = X.K) : OpR X (binaryOp .Add) (rD F dAdd) := by
  obtain ⟨K, T, M0, pa, H0⟩ := F
  cases hK
  refine OpR.imp (op_add.or (op_add_str.or (op_catA.or op_cat))) ?_
  rintro x y H Q ⟨M, d, e, r, hm, hx, hy, g, q⟩
  cases d with
  | int i => cases e with
    | int j =>
      cases g
      exact .inl ⟨i, j, hx.int, hy.int, q _ _ Ext.rfl rfl⟩
    | _ => cases g
  | str i => cases e with
    | str j =>
      simp only [dAdd] at g
      split at g
      · rename_i hz
        cases g
        exact .inr (.inl ⟨i, j, hx.str, hy.str, by rw [← sLn_eq]; exact hz, q _ _ Ext.rfl rfl⟩)
      · cases g
    | _ => cases g
  | tup xs => cases e with
    | tup ys =>
      simp only [dAdd] at g
      split at g
      · rename_i hz
        cases g
        rcases hx with ⟨a, us, rfl, ha, ra⟩ | ⟨_, _, _, e, _⟩ | ⟨_, _, _, _, _, e, _⟩
        · rcases hy with ⟨b, ws, rfl, hb, rb⟩ | ⟨_, _, _, e, _⟩ | ⟨_, _, _, _, _, e, _⟩
          · have l1 := ra.length
            have l2 := rb.length
            refine .inr (.inr (.inl ⟨a, b, us, ws, rfl, rfl, ha, hb, by rw [← sLn_eq]; omega, fun e => ?_, fun _ e => ?_, fun _ _ p hp => ?_⟩))
            · subst e
              have : xs = [] := List.eq_nil_of_length_eq_zero (by simpa using l1)
              subst this
              exact q _ _ Ext.rfl ⟨b, ws, rfl, hb, rb⟩
            · subst e
              have : ys = [] := List.eq_nil_of_length_eq_zero (by simpa using l2)
              subst this
              rw [List.append_nil] at q
              exact q _ _ Ext.rfl ⟨a, us, rfl, ha, ra⟩
            · exact q _ _ (Ext.new hp) (Dv.newTup (DvS.append ra rb) hp fun z => hm p z hp)
          · cases e
          · cases e
        · cases e
        · cases e
      · cases g
    | _ => cases g
  | lst xs => cases e with
    | lst ys =>
      simp only [dAdd] at g
      split at g
      · rename_i hz
        cases g
        obtain ⟨a, us, rfl, ha, ra⟩ := hx.lst
        obtain ⟨b, ws, rfl, hb, rb⟩ := hy.lst
        have l1 := ra.length
        have l2 := rb.length
        refine .inr (.inr (.inr ⟨a, b, us, ws, rfl, rfl, ha, hb, by rw [← sLn_eq]; omega, fun p hp => ?_⟩))
        exact q _ _ (Ext.new hp) (Dv.newLst (DvS.append ra rb) hp fun z => hm p z hp)
      · cases g
    | _ => cases g
  | _ => cases g
theorem opd_sub (hK : F.K = X.K) : OpR X (binaryOp .Sub) (rD F dSub) := by
  refine OpR.imp op_sub ?_
  rintro x y H Q ⟨M, d, e, r, hm, hx, hy, g, q⟩
  cases d with
  | int i => cases e with
    | int j => cases g; exact ⟨i, j, hx.int, hy.int, q _ _ Ext.rfl rfl⟩
    | _ => cases g
  | _ => cases g
theorem opd_mod (hK : F.K = X.K) : OpR X (binaryOp .Mod) (rD F dMod) := by
  refine OpR.imp op_mod ?_
  rintro x y H Q ⟨M, d, e, r, hm, hx, hy, g, q⟩
  cases d with
  | int i => cases e with
    | int j =>
      simp only [dMod] at g
      split at g
      · rename_i hz
        cases g; exact ⟨i, j, hx.int, hy.int, hz, q _ _ Ext.rfl rfl⟩
      · cases g
    | _ => cases g
  | _ => cases g
theorem opd_div (hK : F.K = X.K) : OpR X (binaryOp .FloorDiv) (rD F dDiv) := by
  refine OpR.imp op_fdivW ?_
  rintro x y H Q ⟨M, d, e, r, hm, hx, hy, g, q⟩
  cases d with
  | int i => cases e with
    | int j =>
      simp only [dDiv] at g
      split at g
      · rename_i hz
        cases g; exact ⟨i, j, hx.int, hy.int, hz, q _ _ Ext.rfl rfl⟩
      · cases g
    | _ => cases g
  | _ => cases g
theorem opd_pow (hK : F.K = X.K) : OpR X (binaryOp .Pow) (rD F dPow) := by
  refine OpR.imp op_pow ?_
  rintro x y H Q ⟨M, d, e, r, hm, hx, hy, g, q⟩
  cases d with
  | int i => cases e with
    | int j =>
      simp only [dPow] at g
      split at g
      · rename_i hz
        cases g; exact ⟨i, j, hx.int, hy.int, ⟨hz.1, by omega, hz.2.2⟩, q _ _ Ext.rfl rfl⟩
      · cases g
    | _ => cases g
  | _ => cases g
theorem DvS.rep {K : PySem.W.Frag} {T : Cl} {M : Ms} {H : Hp} {ds : List D} {xs : List V} (h : DvS K T M H ds xs) : ∀ k : Nat, DvS K T M H (List.replicate k ds).flatten (List.replicate k xs).flatten
  | 0 => by simp [DvS]
  | k + 1 => by
    rw [List.replicate_succ, List.replicate_succ, List.flatten_cons, List.flatten_cons]
    exact DvS.append h (DvS.rep h k)
theorem opd_mul (hK : F.K = X.K) : OpR X (binaryOp .Mult) (rD F dMul) := by
  obtain ⟨K, T, M0, pa, H0⟩ := F
  cases hK
  refine OpR.imp (op_mulW.or (op_once.or (op_repT.or op_rep))) ?_
  rintro x y H Q ⟨M, d, e, r, hm, hx, hy, g, q⟩
  cases d with
  | int i => cases e with
    | int j =>
      simp only [dMul] at g
      split at g
      · rename_i hz
        cases g; exact .inl ⟨i, j, hx.int, hy.int, hz, q _ _ Ext.rfl rfl⟩
      · cases g
    | _ => cases g
  | tup xs => cases e with
    | int k =>
      simp only [dMul] at g
      split at g
      · rename_i hz
        cases g
        obtain ⟨a, us, rfl, ha, ra⟩ := hx.tup
        have l1 := ra.length
        refine .inr (.inl ⟨a, us, rfl, by rw [hy.int, hz.2], ha, fun z => hz.1 (List.eq_nil_of_length_eq_zero (by rw [l1, z]; rfl)), q _ _ Ext.rfl ⟨a, us, rfl, ha, ra⟩⟩)
      split at g
      · rename_i hz
        cases g
        obtain ⟨a, us, rfl, ha, ra⟩ := hx.tup
        have l1 := ra.length
        refine .inr (.inr (.inl ⟨a, k, us, rfl, hy.int, ha, fun z => hz.1 (List.eq_nil_of_length_eq_zero (by rw [l1, z]; rfl)), hz.2.1, hz.2.2.1, by omega, fun p hp => ?_⟩))
        exact q _ _ (Ext.new hp) (Dv.newTup (DvS.rep ra _) hp fun z => hm p z hp)
      · cases g
    | _ => cases g
  | lst xs => cases e with
    | int k =>
      simp only [dMul] at g
      split at g
      · rename_i hz
        cases g
        obtain ⟨a, us, rfl, ha, ra⟩ := hx.lst
        have l1 := ra.length
        refine .inr (.inr (.inr ⟨a, k, us, rfl, hy.int, ha, by omega, by omega, ?_, fun p hp => ?_⟩))
        · rw [← sLn_eq]
          have h1 : us.length ≤ 1000 := by omega
          have h2 : k.toNat ≤ 1000 := by omega
          have := Nat.mul_le_mul h1 h2
          show us.length * k.toNat ≤ 16777216
          omega
        · exact q _ _ (Ext.new hp) (Dv.newLst (DvS.rep ra _) hp fun z => hm p z hp)
      · cases g
    | _ => cases g
  | _ => cases g
/-- an int comparison -/
def dCmp (p : Int → Int → Bool) : D → D → Option D
  | .int i, .int j => some (.bl (p i j))
  | _, _ => none
theorem opd_cmp {f : Value → Value → Sem Value} {p : Int → Int → Bool} (h : OpR X f (rI0 fun i j => .bl (p i j))) : OpR X f (rD F (dCmp p)) := by
  refine OpR.imp h ?_
  rintro x y H Q ⟨M, d, e, r, hm, hx, hy, g, q⟩
  cases d with
  | int i => cases e with
    | int j => cases g; exact ⟨i, j, hx.int, hy.int, q _ _ Ext.rfl rfl⟩
    | _ => cases g
  | _ => cases g
end
end SC

set_option Elab.async false
set_option linter.all false
set_option maxRecDepth 100000
namespace SC
open PySem PySem.Spec PyProof.Rows L2

/-! ### equality of data -/
mutual
def toP : D → Option PyData
  | .non => some .none
  | .bl b => some (.bool b)
  | .int i => some (.int i)
  | .str x => some (.str x)
  | .tup ds => (toPs ds).map .tuple
  | .lst ds => (toPs ds).map .list
  | _ => none
def toPs : List D → Option (List PyData)
  | [] => some []
  | d :: ds => match toP d, toPs ds with
    | some p, some ps => some (p :: ps)
    | _, _ => none
end
def shD (d : D) : Bool := match toP d with
  | some p => SeqAt.shaped p
  | none => false
def eqD (d e : D) : Bool := match toP d, toP e with
  | some p, some q => PyData.eqv p q
  | _, _ => false
def dEq (d e : D) : Option D := if (shD d && shD e) = true then some (.bl (eqD d e)) else none
def dNe (d e : D) : Option D := if (shD d && shD e) = true then some (.bl (!eqD d e)) else none
section
variable {K : PySem.W.Frag} {T : Cl} {M : Ms} {H : Hp}
mutual
theorem Dv.dp : ∀ (d : D) {v : V} {p : PyData}, Dv K T M H d v → toP d = some p → Dp K H v p
  | .non, v, p, h, e => by simp only [toP] at e; cases e; cases (show v = .non from h); exact .non
  | .bl b, v, p, h, e => by simp only [toP] at e; cases e; cases (show v = .bl b from h); exact .bl b
  | .int b, v, p, h, e => by simp only [toP] at e; cases e; cases (show v = .int b from h); exact .int b
  | .str b, v, p, h, e => by simp only [toP] at e; cases e; cases (show v = .str b from h); exact .str b
  | .tup ds, v, p, h, e => by
    simp only [toP] at e
    obtain ⟨ps, e1, e2⟩ := Option.map_eq_some_iff.mp e
    subst e2
    obtain ⟨a, xs, rfl, q, r⟩ := h
    exact .tup q (DvS.dps ds r e1)
  | .lst ds, v, p, h, e => by
    simp only [toP] at e
    obtain ⟨ps, e1, e2⟩ := Option.map_eq_some_iff.mp e
    subst e2
    obtain ⟨a, xs, rfl, _, q, r⟩ := h
    exact .lst (SqL.of q) (DvS.dps ds r e1)
  | .ins _ _, _, _, _, e => by simp only [toP] at e; cases e
  | .dic _ _, _, _, _, e => by simp only [toP] at e; cases e
  | .scr _, _, _, _, e => by simp only [toP] at e; cases e
  | .cl _, _, _, _, e => by simp only [toP] at e; cases e
theorem DvS.dps : ∀ (ds : List D) {xs : List V} {ps : List PyData}, DvS K T M H ds xs → toPs ds = some ps → DpAll K H xs ps
  | [], xs, ps, h, e => by simp only [toPs] at e; cases e; cases (show xs = [] from h); exact .nil
  | d :: ds, xs, ps, h, e => by
    obtain ⟨x, r, rfl, h1, h2⟩ := h
    simp only [toPs] at e
    cases q1 : toP d with
    | none => rw [q1] at e; cases e
    | some p1 =>
      cases q2 : toPs ds with
      | none => rw [q1, q2] at e; cases e
      | some p2 =>
        rw [q1, q2] at e
        cases e
        exact .cons (Dv.dp d h1 q1) (DvS.dps ds h2 q2)
end
theorem Do.dp {d : D} {v : V} {p : PyData} (h : Do K T M H d v) (e : toP d = some p) : Dp K H v p := by
  rcases h with h | ⟨ds, a, xs, rfl, rfl, q, r⟩ | ⟨_, _, _, _, _, rfl, _⟩
  · exact Dv.dp d h e
  · simp only [toP] at e
    obtain ⟨ps, e1, e2⟩ := Option.map_eq_some_iff.mp e
    subst e2
    exact .lst (SqL.of q) (DvS.dps ds r e1)
  · simp only [toP] at e; cases e
end
section
variable {X : Cx} {F : Fx}
theorem opd_eq (hK : F.K = X.K) (hu : X.A.units + 64 < cLine) : OpR X (compareOp .Eq) (rD F dEq) := by
  obtain ⟨K, T, M0, pa, H0⟩ := F
  cases hK
  refine OpR.imp (op_eqD hu) ?_
  rintro x y H Q ⟨M, d, e, r, hm, hx, hy, g, q⟩
  unfold dEq at g
  split at g
  · rename_i hz
    cases g
    obtain ⟨z1, z2⟩ := Bool.and_eq_true_iff.mp hz
    unfold shD at z1 z2
    cases e1 : toP d with
    | none => rw [e1] at z1; cases z1
    | some p1 =>
      cases e2 : toP e with
      | none => rw [e2] at z2; cases z2
      | some p2 =>
        rw [e1] at z1; rw [e2] at z2
        refine ⟨p1, p2, hx.dp e1, hy.dp e2, z1, z2, ?_⟩
        have := q (.bl (eqD d e)) H Ext.rfl rfl
        unfold eqD at this
        rw [e1, e2] at this
        exact this
  · cases g
theorem opd_ne (hK : F.K = X.K) (hu : X.A.units + 64 < cLine) : OpR X (compareOp .NotEq) (rD F dNe) := by
  obtain ⟨K, T, M0, pa, H0⟩ := F
  cases hK
  refine OpR.imp (op_neD hu) ?_
  rintro x y H Q ⟨M, d, e, r, hm, hx, hy, g, q⟩
  unfold dNe at g
  split at g
  · rename_i hz
    cases g
    obtain ⟨z1, z2⟩ := Bool.and_eq_true_iff.mp hz
    unfold shD at z1 z2
    cases e1 : toP d with
    | none => rw [e1] at z1; cases z1
    | some p1 =>
      cases e2 : toP e with
      | none => rw [e2] at z2; cases z2
      | some p2 =>
        rw [e1] at z1; rw [e2] at z2
        refine ⟨p1, p2, hx.dp e1, hy.dp e2, z1, z2, ?_⟩
        have := q (.bl (!eqD d e)) H Ext.rfl rfl
        unfold eqD at this
        rw [e1, e2] at this
        exact this
  · cases g
end

/-! ### in -/
def flD : D → Bool
  | .non => true
  | .bl _ => true
  | .int _ => true
  | .str _ => true
  | _ => false
def inD (d : D) (ds : List D) : Bool := ds.any fun e => eqD e d
def dIn : D → D → Option D
  | d, .lst es => if (flD d && es.all flD) = true then some (.bl (inD d es)) else none
  | d, .tup es => if (flD d && es.all flD) = true then some (.bl (inD d es)) else none
  | .str x, .str y => some (.bl (!(Builtin.Str.occurrences y x 0 y.length 1).isEmpty))
  | _, _ => none
def dNotIn : D → D → Option D
  | d, .lst es => if (flD d && es.all flD) = true then some (.bl (!inD d es)) else none
  | d, .tup es => if (flD d && es.all flD) = true then some (.bl (!inD d es)) else none
  | .str x, .str y => some (.bl (!(!(Builtin.Str.occurrences y x 0 y.length 1).isEmpty)))
  | _, _ => none
section
variable {K : PySem.W.Frag} {T : Cl} {M : Ms} {H : Hp}
theorem flD_v {d : D} {v : V} (f : flD d = true) (h : Dv K T M H d v) : flatV v = true := by
  cases d with
  | non => cases (show v = _ from h); rfl
  | bl _ => cases (show v = _ from h); rfl
  | int _ => cases (show v = _ from h); rfl
  | str _ => cases (show v = _ from h); rfl
  | _ => cases f
theorem flD_eq {d e : D} {v w : V} (f : flD d = true) (g : flD e = true) (h : Dv K T M H d v) (k : Dv K T M H e w) : eqV v w = eqD d e := by
  cases d with
  | non =>
    cases (show v = _ from h)
    cases e with
    | non => cases (show w = _ from k); rfl
    | bl _ => cases (show w = _ from k); rfl
    | int _ => cases (show w = _ from k); rfl
    | str _ => cases (show w = _ from k); rfl
    | _ => cases g
  | bl b =>
    cases (show v = _ from h)
    cases e with
    | non => cases (show w = _ from k); rfl
    | bl _ => cases (show w = _ from k); rfl
    | int _ => cases (show w = _ from k); rfl
    | str _ => cases (show w = _ from k); rfl
    | _ => cases g
  | int b =>
    cases (show v = _ from h)
    cases e with
    | non => cases (show w = _ from k); rfl
    | bl _ => cases (show w = _ from k); rfl
    | int _ => cases (show w = _ from k); rfl
    | str _ => cases (show w = _ from k); rfl
    | _ => cases g
  | str b =>
    cases (show v = _ from h)
    cases e with
    | non => cases (show w = _ from k); rfl
    | bl _ => cases (show w = _ from k); rfl
    | int _ => cases (show w = _ from k); rfl
    | str _ => cases (show w = _ from k); rfl
    | _ => cases g
  | _ => cases f
theorem DvS.flat : ∀ {ds : List D} {xs : List V}, DvS K T M H ds xs → ds.all flD = true → xs.all flatV = true
  | [], _, h, _ => by cases (show _ = [] from h); rfl
  | d :: ds, _, ⟨x, r, e, h1, h2⟩, f => by
    subst e
    obtain ⟨f1, f2⟩ := Bool.and_eq_true_iff.mp (show (flD d && ds.all flD) = true from f)
    show (flatV x && r.all flatV) = true
    rw [flD_v f1 h1, DvS.flat h2 f2]; rfl
theorem DvS.inV {d : D} {v : V} (f : flD d = true) (h : Dv K T M H d v) : ∀ {ds : List D} {xs : List V}, DvS K T M H ds xs → ds.all flD = true → inV v xs = inD d ds
  | [], _, hh, _ => by cases (show _ = [] from hh); rfl
  | e :: ds, _, ⟨x, r, q, h1, h2⟩, g => by
    subst q
    obtain ⟨f1, f2⟩ := Bool.and_eq_true_iff.mp (show (flD e && ds.all flD) = true from g)
    show (eqV x v || L2.inV v r) = (eqD e d || inD d ds)
    rw [flD_eq f1 f h1 h, DvS.inV f h h2 f2]
theorem Do.flat {d : D} {v : V} (f : flD d = true) (h : Do K T M H d v) : Dv K T M H d v := by
  rcases h with h | ⟨_, _, _, rfl, _⟩ | ⟨_, _, _, _, _, rfl, _⟩
  · exact h
  · cases f
  · cases f
end
section
variable {X : Cx} {F : Fx}
theorem opd_in (hK : F.K = X.K) : OpR X (compareOp .In) (rD F dIn) := by
  obtain ⟨K, T, M0, pa, H0⟩ := F
  cases hK
  refine OpR.imp (op_in_seq.or op_in_str) ?_
  rintro x y H Q ⟨M, d, e, r, hm, hx, hy, g, q⟩
  cases e with
  | lst es =>
    simp only [dIn] at g
    split at g
    · rename_i hz
      cases g
      obtain ⟨f1, f2⟩ := Bool.and_eq_true_iff.mp hz
      obtain ⟨a, us, rfl, ha, ra⟩ := hy.lst
      refine .inl ⟨a, us, rfl, .inl (SqL.of ha), flD_v f1 (hx.flat f1), ra.flat f2, ?_⟩
      rw [DvS.inV f1 (hx.flat f1) ra f2]
      exact q _ _ Ext.rfl rfl
    · cases g
  | tup es =>
    simp only [dIn] at g
    split at g
    · rename_i hz
      cases g
      obtain ⟨f1, f2⟩ := Bool.and_eq_true_iff.mp hz
      obtain ⟨a, us, rfl, ha, ra⟩ := hy.tup
      refine .inl ⟨a, us, rfl, .inr ha, flD_v f1 (hx.flat f1), ra.flat f2, ?_⟩
      rw [DvS.inV f1 (hx.flat f1) ra f2]
      exact q _ _ Ext.rfl rfl
    · cases g
  | str z => cases d with
    | str w => cases g; exact .inr ⟨w, z, hx.str, hy.str, q _ _ Ext.rfl rfl⟩
    | _ => cases g
  | _ => cases d <;> cases g
theorem opd_notIn (hK : F.K = X.K) : OpR X (compareOp .NotIn) (rD F dNotIn) := by
  obtain ⟨K, T, M0, pa, H0⟩ := F
  cases hK
  refine OpR.imp (op_notIn_seq.or op_notIn_str) ?_
  rintro x y H Q ⟨M, d, e, r, hm, hx, hy, g, q⟩
  cases e with
  | lst es =>
    simp only [dNotIn] at g
    split at g
    · rename_i hz
      cases g
      obtain ⟨f1, f2⟩ := Bool.and_eq_true_iff.mp hz
      obtain ⟨a, us, rfl, ha, ra⟩ := hy.lst
      refine .inl ⟨a, us, rfl, .inl (SqL.of ha), flD_v f1 (hx.flat f1), ra.flat f2, ?_⟩
      rw [DvS.inV f1 (hx.flat f1) ra f2]
      exact q _ _ Ext.rfl rfl
    · cases g
  | tup es =>
    simp only [dNotIn] at g
    split at g
    · rename_i hz
      cases g
      obtain ⟨f1, f2⟩ := Bool.and_eq_true_iff.mp hz
      obtain ⟨a, us, rfl, ha, ra⟩ := hy.tup
      refine .inl ⟨a, us, rfl, .inr ha, flD_v f1 (hx.flat f1), ra.flat f2, ?_⟩
      rw [DvS.inV f1 (hx.flat f1) ra f2]
      exact q _ _ Ext.rfl rfl
    · cases g
  | str z => cases d with
    | str w => cases g; exact .inr ⟨w, z, hx.str, hy.str, q _ _ Ext.rfl rfl⟩
    | _ => cases g
  | _ => cases d <;> cases g

/-! ### is None -/
def isNonD : D → Bool
  | .non => true
  | _ => false
def dIs : D → D → Option D
  | d, .non => some (.bl (isNonD d))
  | _, _ => none
def dIsNot : D → D → Option D
  | d, .non => some (.bl (!isNonD d))
  | _, _ => none
theorem Do.isNon {K : PySem.W.Frag} {T : Cl} {M : Ms} {H : Hp} {d : D} {v : V} (h : Do K T M H d v) : decide (v = V.non) = isNonD d := by
  rcases h with h | ⟨_, _, _, rfl, rfl, _⟩ | ⟨_, _, _, _, _, rfl, rfl, _⟩
  · cases d with
    | non => cases (show v = _ from h); rfl
    | bl _ => cases (show v = _ from h); rfl
    | int _ => cases (show v = _ from h); rfl
    | str _ => cases (show v = _ from h); rfl
    | tup _ => obtain ⟨a, xs, rfl, _⟩ := h; rfl
    | lst _ => obtain ⟨a, xs, rfl, _⟩ := h; rfl
    | ins _ _ => obtain ⟨a, dx, xs, rfl, _⟩ := h; rfl
    | dic _ _ => obtain ⟨a, xs, rfl, _⟩ := h; rfl
    | scr _ => obtain ⟨a, rfl, _⟩ := h; rfl
    | cl _ => cases (show v = _ from h); rfl
  · rfl
  · rfl
theorem opd_is (hK : F.K = X.K) : OpR X (compareOp .Is) (rD F dIs) := by
  refine OpR.imp op_isN ?_
  rintro x y H Q ⟨M, d, e, r, hm, hx, hy, g, q⟩
  cases e with
  | non =>
    cases g
    refine ⟨hy.non, ?_⟩
    rw [hx.isNon]
    exact q _ _ Ext.rfl rfl
  | _ => cases d <;> cases g
theorem opd_isNot (hK : F.K = X.K) : OpR X (compareOp .IsNot) (rD F dIsNot) := by
  refine OpR.imp op_notN ?_
  rintro x y H Q ⟨M, d, e, r, hm, hx, hy, g, q⟩
  cases e with
  | non =>
    cases g
    refine ⟨hy.non, ?_⟩
    rw [hx.isNon]
    exact q _ _ Ext.rfl rfl
  | _ => cases d <;> cases g

/-! ### subscripts -/
def dIdx : D → D → Option D
  | .lst ds, .int i => atI ds i
  | .tup ds, .int i => atI ds i
  | .scr ns, .int i => (atI ns i).map .int
  | .str z, .int i => if z.length ≤ sLn then (atI z.cps.toList i).map fun c => .str ⟨#[c]⟩ else none
  | _, _ => none
theorem IxR.imp {r r' : R2} (h : IxR X r) (g : ∀ x y H Q, r' x y H Q → r x y H Q) : IxR X r' := by
  unfold IxR at *
  intros
  apply h <;> first | assumption | (apply g; assumption)
theorem DvS.atI {K : PySem.W.Frag} {T : Cl} {M : Ms} {H : Hp} {ds : List D} {xs : List V} {i : Int} {d : D} (h : DvS K T M H ds xs) (e : L2.atI ds i = some d) : ∃ v, L2.atI xs i = some v ∧ Dv K T M H d v := by
  unfold L2.atI at e ⊢
  rw [← h.length]
  cases q : ixN ds.length i with
  | none => rw [q] at e; cases e
  | some j =>
    rw [q] at e
    exact h.getD (show ds[j]? = some d from e)
theorem ixd (hK : F.K = X.K) : IxR X (rD F dIdx) := by
  obtain ⟨K, T, M0, pa, H0⟩ := F
  cases hK
  refine IxR.imp ix_seq ?_
  rintro x y H Q ⟨M, d, e, r, hm, hx, hy, g, q⟩
  cases d with
  | lst ds => cases e with
    | int i =>
      obtain ⟨a, us, rfl, ha, ra⟩ := hx.lst
      obtain ⟨v, e1, e2⟩ := ra.atI (show atI ds i = some r from g)
      exact .inl ⟨a, us, i, v, rfl, hy.int, SqL.of ha, e1, q _ _ Ext.rfl e2⟩
    | _ => cases g
  | tup ds => cases e with
    | int i =>
      obtain ⟨a, us, rfl, ha, ra⟩ := hx.tup
      obtain ⟨v, e1, e2⟩ := ra.atI (show atI ds i = some r from g)
      exact .inr (.inl ⟨a, us, i, v, rfl, hy.int, ha, e1, q _ _ Ext.rfl e2⟩)
    | _ => cases g
  | scr ns => cases e with
    | int i =>
      obtain ⟨a, rfl, ha⟩ := hx.scr
      obtain ⟨k, e1, e2⟩ := Option.map_eq_some_iff.mp (show (atI ns i).map D.int = some r from g)
      subst e2
      refine .inl ⟨a, _, i, .int k, rfl, hy.int, ha, ?_, q _ _ Ext.rfl rfl⟩
      unfold atI at e1 ⊢
      rw [List.length_map]
      cases q : ixN ns.length i with
      | none => rw [q] at e1; cases e1
      | some j =>
        rw [q] at e1
        show (ns.map V.int)[j]? = some (.int k)
        rw [List.getElem?_map, show ns[j]? = some k from e1]; rfl
    | _ => cases g
  | str z => cases e with
    | int i =>
      simp only [dIdx] at g
      split at g
      · rename_i hz
        obtain ⟨c, e1, e2⟩ := Option.map_eq_some_iff.mp g
        subst e2
        exact .inr (.inr ⟨z, i, c, hx.str, hy.int, by rw [← sLn_eq]; exact hz, e1, q _ _ Ext.rfl rfl⟩)
      · cases g
    | _ => cases g
  | _ => cases g

/-! ### slices -/
def cutD (xs : List D) (lo hi : Option Int) : List D := (xs.drop (HT.sIx xs.length 0 lo)).take (HT.sIx xs.length xs.length hi - HT.sIx xs.length 0 lo)
theorem DvS.cut {K : PySem.W.Frag} {T : Cl} {M : Ms} {H : Hp} {ds : List D} {xs : List V} (h : DvS K T M H ds xs) (lo hi : Option Int) : DvS K T M H (cutD ds lo hi) (cutV xs lo hi) := by
  unfold cutD cutV
  rw [h.length]
  exact DvS.take _ (DvS.drop _ h)
def cutI (xs : List Int) (lo hi : Option Int) : List Int := (xs.drop (HT.sIx xs.length 0 lo)).take (HT.sIx xs.length xs.length hi - HT.sIx xs.length 0 lo)
def dSlc : D → Option Int → Option Int → Option D
  | .lst ds, lo, hi => some (.lst (cutD ds lo hi))
  | .tup ds, lo, hi => some (.tup (cutD ds lo hi))
  | .scr ns, lo, hi => some (.lst ((cutI ns lo hi).map .int))
  | .str z, lo, hi => if z.length ≤ sLn then some (.str (Txt.slice z lo hi)) else none
  | _, _, _ => none
def rSd (F : Fx) (g : D → Option Int → Option Int → Option D) : V → Option Int → Option Int → Hp → VK → Prop := fun x lo hi H Q => ∃ M d r, (∀ a, M a → H a ≠ none) ∧ Do F.K F.T M H d x ∧ g d lo hi = some r ∧ ∀ v H', Ext H H' → Dv F.K F.T M H' r v → Q v H'
theorem SlR.imp {r r' : V → Option Int → Option Int → Hp → VK → Prop} (h : SlR X r) (g : ∀ x lo hi H Q, r' x lo hi H Q → r x lo hi H Q) : SlR X r' := by
  intro pins s σ H x v vl vu lo hi sl Q I rx hs pl pu hw
  exact h pins s σ H x v vl vu lo hi sl Q I rx hs pl pu (g _ _ _ _ _ hw)
theorem sld (hK : F.K = X.K) : SlR X (rSd F dSlc) := by
  obtain ⟨K, T, M0, pa, H0⟩ := F
  cases hK
  refine SlR.imp (sl_list.or (sl_tupA.or C8.sl_txt)) ?_
  rintro x lo hi H Q ⟨M, d, r, hm, hx, g, q⟩
  cases d with
  | lst ds =>
    cases g
    obtain ⟨a, us, rfl, ha, ra⟩ := hx.lst
    exact .inl ⟨a, us, rfl, SqL.of ha, fun p hp => q _ _ (Ext.new hp) (Dv.newLst (ra.cut lo hi) hp fun z => hm p z hp)⟩
  | scr ns =>
    cases g
    obtain ⟨a, rfl, ha⟩ := hx.scr
    refine .inl ⟨a, _, rfl, ha, fun p hp => q _ _ (Ext.new hp) ⟨p, _, rfl, fun z => hm p z hp, upd_same, ?_⟩⟩
    have e : cutV (ns.map V.int) lo hi = (cutI ns lo hi).map V.int := by
      unfold cutV cutI
      rw [List.length_map, List.map_take, List.map_drop]
    rw [e]
    exact DvS.of_ints _
  | tup ds =>
    cases g
    rcases hx with ⟨a, us, rfl, ha, ra⟩ | ⟨_, _, _, e, _⟩ | ⟨_, _, _, _, _, e, _⟩
    · refine .inr (.inl ⟨a, us, rfl, ha, fun e => ?_, fun _ p hp => q _ _ (Ext.new hp) (Dv.newTup (ra.cut lo hi) hp fun z => hm p z hp)⟩)
      have e2 : cutD ds lo hi = ds := by
        unfold cutD
        rw [ra.length, e.1, e.2, List.drop_zero, Nat.sub_zero, ← ra.length, List.take_length]
      refine q _ _ Ext.rfl ?_
      rw [e2]
      exact ⟨a, us, rfl, ha, ra⟩
    · cases e
    · cases e
  | str z =>
    simp only [dSlc] at g
    split at g
    · rename_i hz
      cases g
      exact .inr (.inr ⟨z, hx.str, by rw [← sLn_eq]; exact hz, q _ _ Ext.rfl rfl⟩)
    · cases g
  | _ => cases g
end
end SC

set_option Elab.async false
set_option linter.all false
set_option maxRecDepth 100000
namespace SC
open PySem PySem.Spec PyProof.Rows L2

/-! ### calls of built-in functions, by values -/
def DoS (F : Fx) (M : Ms) (H : Hp) (ds : List D) (vs : List V) : Prop := Paired (Do F.K F.T M H) ds vs
def rCs (F : Fx) (g : List D → Option D) : List V → Hp → VK → Prop := fun vs H Q => ∃ M ds r, (∀ a, M a → H a ≠ none) ∧ DoS F M H ds vs ∧ g ds = some r ∧ ∀ v H', Ext H H' → Dv F.K F.T M H' r v → Q v H'
theorem CallR.imp {X : Cx} {f : Value} {r r' : List V → Hp → VK → Prop} (h : CallR X f r) (g : ∀ xs H Q, r' xs H Q → r xs H Q) : CallR X f r' :=
  fun pins s σ H xs us Q I rr hw => h pins s σ H xs us Q I rr (g _ _ _ hw)
def allI : List D → Option (List Int)
  | [] => some []
  | .int i :: ds => (allI ds).map (i :: ·)
  | _ :: _ => none
def allB : List D → Option (List Bool)
  | [] => some []
  | .bl i :: ds => (allB ds).map (i :: ·)
  | _ :: _ => none
def allS : List D → Option (List Str)
  | [] => some []
  | .str i :: ds => (allS ds).map (i :: ·)
  | _ :: _ => none
theorem allI_eq : ∀ {ds : List D} {ns : List Int}, allI ds = some ns → ds = ns.map .int
  | [], _, h => by cases h; rfl
  | .int i :: ds, ns, h => by
    obtain ⟨m, e1, e2⟩ := Option.map_eq_some_iff.mp (show (allI ds).map (i :: ·) = some ns from h)
    subst e2
    rw [allI_eq e1]; rfl
  | .non :: _, _, h => by cases h
  | .bl _ :: _, _, h => by cases h
  | .str _ :: _, _, h => by cases h
  | .tup _ :: _, _, h => by cases h
  | .lst _ :: _, _, h => by cases h
  | .ins _ _ :: _, _, h => by cases h
  | .dic _ _ :: _, _, h => by cases h
  | .scr _ :: _, _, h => by cases h
  | .cl _ :: _, _, h => by cases h
theorem allI_map : ∀ (ns : List Int), allI (ns.map .int) = some ns
  | [] => rfl
  | n :: ns => by show (allI (ns.map .int)).map (n :: ·) = _; rw [allI_map ns]; rfl
theorem allB_eq : ∀ {ds : List D} {ns : List Bool}, allB ds = some ns → ds = ns.map .bl
  | [], _, h => by cases h; rfl
  | .bl i :: ds, ns, h => by
    obtain ⟨m, e1, e2⟩ := Option.map_eq_some_iff.mp (show (allB ds).map (i :: ·) = some ns from h)
    subst e2
    rw [allB_eq e1]; rfl
  | .non :: _, _, h => by cases h
  | .int _ :: _, _, h => by cases h
  | .str _ :: _, _, h => by cases h
  | .tup _ :: _, _, h => by cases h
  | .lst _ :: _, _, h => by cases h
  | .ins _ _ :: _, _, h => by cases h
  | .dic _ _ :: _, _, h => by cases h
  | .scr _ :: _, _, h => by cases h
  | .cl _ :: _, _, h => by cases h
theorem allB_map : ∀ (ns : List Bool), allB (ns.map .bl) = some ns
  | [] => rfl
  | n :: ns => by show (allB (ns.map .bl)).map (n :: ·) = _; rw [allB_map ns]; rfl
theorem allS_eq : ∀ {ds : List D} {ns : List Str}, allS ds = some ns → ds = ns.map .str
  | [], _, h => by cases h; rfl
  | .str i :: ds, ns, h => by
    obtain ⟨m, e1, e2⟩ := Option.map_eq_some_iff.mp (show (allS ds).map (i :: ·) = some ns from h)
    subst e2
    rw [allS_eq e1]; rfl
  | .non :: _, _, h => by cases h
  | .int _ :: _, _, h => by cases h
  | .bl _ :: _, _, h => by cases h
  | .tup _ :: _, _, h => by cases h
  | .lst _ :: _, _, h => by cases h
  | .ins _ _ :: _, _, h => by cases h
  | .dic _ _ :: _, _, h => by cases h
  | .scr _ :: _, _, h => by cases h
  | .cl _ :: _, _, h => by cases h
theorem allS_map : ∀ (ns : List Str), allS (ns.map .str) = some ns
  | [] => rfl
  | n :: ns => by show (allS (ns.map .str)).map (n :: ·) = _; rw [allS_map ns]; rfl

def dLen : List D → Option D
  | [.lst ds] => some (.int ds.length)
  | [.tup ds] => some (.int ds.length)
  | [.scr ds] => some (.int ds.length)
  | [.str z] => if z.length ≤ sLn then some (.int z.length) else none
  | _ => none
def dAbs : List D → Option D
  | [.int i] => some (.int (if i < 0 then -i else i))
  | _ => none
def dSum : List D → Option D
  | [.lst ds] => (allI ds).map fun ns => .int ns.sum
  | [.tup ds] => (allI ds).map fun ns => .int ns.sum
  | _ => none
def dAll : List D → Option D
  | [.lst ds] => (allB ds).map fun bs => .bl (bs.all id)
  | _ => none
def dAny : List D → Option D
  | [.lst ds] => (allB ds).map fun bs => .bl (bs.any id)
  | _ => none
def dList : List D → Option D
  | [.lst ds] => some (.lst ds)
  | [.tup ds] => some (.lst ds)
  | [.scr ns] => some (.lst (ns.map .int))
  | _ => none
def dTuple : List D → Option D
  | [.lst ds] => some (.tup ds)
  | [.tup ds] => some (.tup ds)
  | _ => none
def dInt : List D → Option D
  | [.int i] => some (.int i)
  | [.bl b] => some (.int (if b then 1 else 0))
  | [.str z] => if z.length ≤ 640 then (PySem.intText? z).map .int else none
  | _ => none
def dStr : List D → Option D
  | [.int i] => if i.natAbs.log2 < 1920 then some (.str (toString i)) else none
  | _ => none
def dMax : List D → Option D
  | [.int i, .int j] => some (.int (if j > i then j else i))
  | _ => none
def dMin : List D → Option D
  | [.int i, .int j] => some (.int (if j < i then j else i))
  | _ => none
section
variable {X : Cx} {F : Fx}
theorem paired1 {α β : Type} {R : α → β → Prop} {a : α} {bs : List β} (h : Paired R [a] bs) : ∃ b, bs = [b] ∧ R a b := by
  cases h with
  | cons r t => cases t; exact ⟨_, rfl, r⟩
theorem paired2 {α β : Type} {R : α → β → Prop} {a a' : α} {bs : List β} (h : Paired R [a, a'] bs) : ∃ b b', bs = [b, b'] ∧ R a b ∧ R a' b' := by
  cases h with
  | cons r t => cases t with
    | cons r' t' => cases t'; exact ⟨_, _, rfl, r, r'⟩
theorem cd_len (hK : F.K = X.K) : CallR X (.builtin "len") (rCs F dLen) := by
  obtain ⟨K, T, M0, pa, H0⟩ := F
  cases hK
  refine CallR.imp call_len ?_
  rintro vs H Q ⟨M, ds, r, hm, hx, g, q⟩
  match ds, g with
  | [.lst ds], g =>
    cases g
    obtain ⟨v, rfl, h⟩ := paired1 hx
    obtain ⟨a, us, rfl, ha, ra⟩ := h.lst
    refine ⟨_, us.length, rfl, .inl ⟨us, SqL.of ha, rfl⟩, ?_⟩
    rw [← ra.length]
    exact q _ _ Ext.rfl rfl
  | [.tup ds], g =>
    cases g
    obtain ⟨v, rfl, h⟩ := paired1 hx
    obtain ⟨a, us, rfl, ha, ra⟩ := h.tup
    refine ⟨_, us.length, rfl, .inr ⟨us, ha, rfl⟩, ?_⟩
    rw [← ra.length]
    exact q _ _ Ext.rfl rfl
  | [.scr ds], g =>
    cases g
    obtain ⟨v, rfl, h⟩ := paired1 hx
    obtain ⟨a, rfl, ha⟩ := h.scr
    refine ⟨_, (ds.map V.int).length, rfl, .inl ⟨_, ha, rfl⟩, ?_⟩
    rw [List.length_map]
    exact q _ _ Ext.rfl rfl
  | [.str z], g =>
    simp only [dLen] at g
    split at g
    · rename_i hz
      cases g
      obtain ⟨v, rfl, h⟩ := paired1 hx
      cases h.str
      exact ⟨_, z.length, rfl, ⟨by rw [← sLn_eq]; exact hz, rfl⟩, q _ _ Ext.rfl rfl⟩
    · cases g
theorem cd_abs (hK : F.K = X.K) : CallR X (.builtin "abs") (rCs F dAbs) := by
  refine CallR.imp call_abs ?_
  rintro vs H Q ⟨M, ds, r, hm, hx, g, q⟩
  match ds, g with
  | [.int i], g =>
    cases g
    obtain ⟨v, rfl, h⟩ := paired1 hx
    cases h.int
    exact ⟨i, rfl, q _ _ Ext.rfl rfl⟩
/-- sum of a tuple -/
theorem cr_sumT (hc : X.calm = true) : CallR X (.builtin "sum") (fun vs H Q => ∃ (a : Addr) (ns : List Int), vs = [V.ref a] ∧ SqT X.K H a (ns.map V.int) ∧ Q (.int ns.sum) H) := by
  intro pins s σ H vs us Q I r h
  obtain ⟨a, ns, rfl, hs, q⟩ := h
  obtain ⟨its, rv, hl, _⟩ := I.tuple hs
  rw [Vals.ref1 r]
  have hi := rv.ints
  obtain ⟨xs, hx⟩ := hi.allInts.items
  have hn : numsOf its.toArray.toList = ns := by rw [show its.toArray.toList = its from rfl, hi.numsOf]
  rw [hx] at hl hn
  rw [nums_intItems] at hn
  refine PySem.W.ktm_sumG (I.ok.hd hc) hl fun h' tk t' hk => ?_
  rw [preSum_eq, List.take_of_length_le (by simp), hn]
  exact ⟨.int ns.sum, H, I.kept hk, ⟨_, rfl⟩, q⟩
theorem cd_sum (hK : F.K = X.K) (hc : X.calm = true) : CallR X (.builtin "sum") (rCs F dSum) := by
  obtain ⟨K, T, M0, pa, H0⟩ := F
  cases hK
  refine CallR.imp ((cr_sum hc).or (cr_sumT hc)) ?_
  rintro vs H Q ⟨M, ds, r, hm, hx, g, q⟩
  match ds, g with
  | [.lst ds], g =>
    obtain ⟨ns, e1, e2⟩ := Option.map_eq_some_iff.mp (show (allI ds).map (fun ns => D.int ns.sum) = some r from g)
    subst e2
    obtain ⟨v, rfl, h⟩ := paired1 hx
    obtain ⟨a, us, rfl, ha, ra⟩ := h.lst
    rw [allI_eq e1] at ra
    rw [ra.ints] at ha
    exact .inl ⟨a, ns, rfl, SqL.of ha, q _ _ Ext.rfl rfl⟩
  | [.tup ds], g =>
    obtain ⟨ns, e1, e2⟩ := Option.map_eq_some_iff.mp (show (allI ds).map (fun ns => D.int ns.sum) = some r from g)
    subst e2
    obtain ⟨v, rfl, h⟩ := paired1 hx
    obtain ⟨a, us, rfl, ha, ra⟩ := h.tup
    rw [allI_eq e1] at ra
    rw [ra.ints] at ha
    exact .inr ⟨a, ns, rfl, ha, q _ _ Ext.rfl rfl⟩
theorem cd_all (hK : F.K = X.K) (hc : X.calm = true) : CallR X (.builtin "all") (rCs F dAll) := by
  obtain ⟨K, T, M0, pa, H0⟩ := F
  cases hK
  refine CallR.imp (cr_all hc) ?_
  rintro vs H Q ⟨M, ds, r, hm, hx, g, q⟩
  match ds, g with
  | [.lst ds], g =>
    obtain ⟨ns, e1, e2⟩ := Option.map_eq_some_iff.mp (show (allB ds).map (fun bs => D.bl (bs.all id)) = some r from g)
    subst e2
    obtain ⟨v, rfl, h⟩ := paired1 hx
    obtain ⟨a, us, rfl, ha, ra⟩ := h.lst
    rw [allB_eq e1] at ra
    rw [ra.bls] at ha
    exact ⟨a, ns, rfl, SqL.of ha, q _ _ Ext.rfl rfl⟩
theorem cd_any (hK : F.K = X.K) (hc : X.calm = true) : CallR X (.builtin "any") (rCs F dAny) := by
  obtain ⟨K, T, M0, pa, H0⟩ := F
  cases hK
  refine CallR.imp (cr_any hc) ?_
  rintro vs H Q ⟨M, ds, r, hm, hx, g, q⟩
  match ds, g with
  | [.lst ds], g =>
    obtain ⟨ns, e1, e2⟩ := Option.map_eq_some_iff.mp (show (allB ds).map (fun bs => D.bl (bs.any id)) = some r from g)
    subst e2
    obtain ⟨v, rfl, h⟩ := paired1 hx
    obtain ⟨a, us, rfl, ha, ra⟩ := h.lst
    rw [allB_eq e1] at ra
    rw [ra.bls] at ha
    exact ⟨a, ns, rfl, SqL.of ha, q _ _ Ext.rfl rfl⟩
theorem cd_list (hK : F.K = X.K) : CallR X (.type "list") (rCs F dList) := by
  obtain ⟨K, T, M0, pa, H0⟩ := F
  cases hK
  refine CallR.imp call_list_of ?_
  rintro vs H Q ⟨M, ds, r, hm, hx, g, q⟩
  match ds, g with
  | [.lst ds], g =>
    cases g
    obtain ⟨v, rfl, h⟩ := paired1 hx
    obtain ⟨a, us, rfl, ha, ra⟩ := h.lst
    exact ⟨a, us, rfl, .inl (SqL.of ha), fun p hp => q _ _ (Ext.new hp) (Dv.newLst ra hp fun z => hm p z hp)⟩
  | [.tup ds], g =>
    cases g
    obtain ⟨v, rfl, h⟩ := paired1 hx
    obtain ⟨a, us, rfl, ha, ra⟩ := h.tup
    exact ⟨a, us, rfl, .inr ha, fun p hp => q _ _ (Ext.new hp) (Dv.newLst ra hp fun z => hm p z hp)⟩
  | [.scr ns], g =>
    cases g
    obtain ⟨v, rfl, h⟩ := paired1 hx
    obtain ⟨a, rfl, ha⟩ := h.scr
    exact ⟨a, _, rfl, .inl ha, fun p hp => q _ _ (Ext.new hp) (Dv.newLst (DvS.of_ints ns) hp fun z => hm p z hp)⟩
theorem cd_tuple (hK : F.K = X.K) : CallR X (.type "tuple") (rCs F dTuple) := by
  obtain ⟨K, T, M0, pa, H0⟩ := F
  cases hK
  refine CallR.imp call_tuple_of ?_
  rintro vs H Q ⟨M, ds, r, hm, hx, g, q⟩
  match ds, g with
  | [.lst ds], g =>
    cases g
    obtain ⟨v, rfl, h⟩ := paired1 hx
    obtain ⟨a, us, rfl, ha, ra⟩ := h.lst
    exact ⟨a, us, rfl, .inl ⟨SqL.of ha, fun p hp => q _ _ (Ext.new hp) (Dv.newTup ra hp fun z => hm p z hp)⟩⟩
  | [.tup ds], g =>
    cases g
    obtain ⟨v, rfl, h⟩ := paired1 hx
    rcases h with ⟨a, us, rfl, ha, ra⟩ | ⟨_, _, _, e, _⟩ | ⟨_, _, _, _, _, e, _⟩
    · exact ⟨a, us, rfl, .inr ⟨ha, q _ _ Ext.rfl ⟨a, us, rfl, ha, ra⟩⟩⟩
    · cases e
    · cases e
theorem cd_int (hK : F.K = X.K) : CallR X (.type "int") (rCs F dInt) := by
  refine CallR.imp (call_int1.or call_int_str) ?_
  rintro vs H Q ⟨M, ds, r, hm, hx, g, q⟩
  match ds, g with
  | [.int i], g =>
    cases g
    obtain ⟨v, rfl, h⟩ := paired1 hx
    cases h.int
    exact .inl (.inl ⟨i, rfl, q _ _ Ext.rfl rfl⟩)
  | [.bl i], g =>
    cases g
    obtain ⟨v, rfl, h⟩ := paired1 hx
    cases h.bl
    exact .inl (.inr ⟨i, rfl, q _ _ Ext.rfl rfl⟩)
  | [.str z], g =>
    simp only [dInt] at g
    split at g
    · rename_i hz
      obtain ⟨n, e1, e2⟩ := Option.map_eq_some_iff.mp g
      subst e2
      obtain ⟨v, rfl, h⟩ := paired1 hx
      cases h.str
      exact .inr ⟨z, n, rfl, e1, hz, q _ _ Ext.rfl rfl⟩
    · cases g
theorem cd_str (hK : F.K = X.K) : CallR X (.type "str") (rCs F dStr) := by
  refine CallR.imp call_str_int ?_
  rintro vs H Q ⟨M, ds, r, hm, hx, g, q⟩
  match ds, g with
  | [.int i], g =>
    simp only [dStr] at g
    split at g
    · rename_i hz
      cases g
      obtain ⟨v, rfl, h⟩ := paired1 hx
      cases h.int
      exact ⟨i, rfl, hz, q _ _ Ext.rfl rfl⟩
    · cases g
theorem cd_max (hc : X.calm = true) : CallR X (.builtin "max") (rCs F dMax) := by
  refine CallR.imp (call_max2 hc) ?_
  rintro vs H Q ⟨M, ds, r, hm, hx, g, q⟩
  match ds, g with
  | [.int i, .int j], g =>
    cases g
    obtain ⟨v, w, rfl, h, h'⟩ := paired2 hx
    cases h.int
    cases h'.int
    exact ⟨i, j, rfl, q _ _ Ext.rfl rfl⟩
theorem cd_min (hc : X.calm = true) : CallR X (.builtin "min") (rCs F dMin) := by
  refine CallR.imp (call_min2 hc) ?_
  rintro vs H Q ⟨M, ds, r, hm, hx, g, q⟩
  match ds, g with
  | [.int i, .int j], g =>
    cases g
    obtain ⟨v, w, rfl, h, h'⟩ := paired2 hx
    cases h.int
    cases h'.int
    exact ⟨i, j, rfl, q _ _ Ext.rfl rfl⟩
end
end SC

set_option Elab.async false
set_option linter.all false
set_option maxRecDepth 100000
namespace SC
open PySem PySem.Spec PyProof.Rows L2

/-! ### denotations -/
def fVar (i : Nat) : FE := fun ρ => match ρ[i]? with
  | some (.dat d) => some (.dat d, ρ)
  | some (.own _) => some (.slot i, ρ)
  | some (.obj _ _) => some (.slot i, ρ)
  | _ => none
def fC (d : D) : FE := fun ρ => some (.dat d, ρ)
def fBin (g : D → D → Option D) (fa fb : FE) : FE := fun ρ =>
  match fa ρ with
  | none => none
  | some (o, ρ1) => match fb ρ1 with
    | none => none
    | some (p, ρ2) => match o.get ρ2, p.get ρ2 with
      | some d, some e => match g d e with
        | some r => some (.dat r, ρ2)
        | none => none
      | _, _ => none
def fUn (g : D → Option D) (fa : FE) : FE := fun ρ =>
  match fa ρ with
  | none => none
  | some (o, ρ1) => match o.get ρ1 with
    | some d => match g d with
      | some r => some (.dat r, ρ1)
      | none => none
    | none => none
def fNil : FA := fun ρ => some ([], ρ)
def fCons (fa : FE) (fr : FA) : FA := fun ρ =>
  match fa ρ with
  | none => none
  | some (o, ρ1) => match fr ρ1 with
    | none => none
    | some (os, ρ2) => some (o :: os, ρ2)
def itemsD : D → Option (List D)
  | .tup ds => some ds
  | .lst ds => some ds
  | _ => none
/-- *e, .. -/
def fStar (fa : FE) (fr : FA) : FA := fun ρ =>
  match fa ρ with
  | none => none
  | some (o, ρ1) => match o.get ρ1 with
    | none => none
    | some d => match itemsD d with
      | none => none
      | some ds => match fr ρ1 with
        | none => none
        | some (os, ρ2) => some (ds.map .dat ++ os, ρ2)
def datAll : List Opd → Option (List D)
  | [] => some []
  | .dat d :: os => (datAll os).map (d :: ·)
  | .slot _ :: _ => none
def getAll (ρ : Ev) : List Opd → Option (List D)
  | [] => some []
  | o :: os => match o.get ρ, getAll ρ os with
    | some d, some ds => some (d :: ds)
    | _, _ => none
/-- a display: c gives the datum of its items -/
def fDisp (c : List D → D) (fa : FA) : FE := fun ρ =>
  match fa ρ with
  | none => none
  | some (os, ρ1) => match datAll os with
    | none => none
    | some ds => if ds.length ≤ sLn then some (.dat (c ds), ρ1) else none
/-- a built-in's call -/
def fBlt (g : List D → Option D) (fa : FA) : FE := fun ρ =>
  match fa ρ with
  | none => none
  | some (os, ρ1) => match getAll ρ1 os with
    | none => none
    | some ds => match g ds with
      | some r => some (.dat r, ρ1)
      | none => none
def fTest (fa : FE) : FT := fun ρ =>
  match fa ρ with
  | some (.dat (.bl b), ρ1) => some (b, ρ1)
  | _ => none
def fAnd (fa fb : FT) : FT := fun ρ =>
  match fa ρ with
  | some (true, ρ1) => fb ρ1
  | some (false, ρ1) => some (false, ρ1)
  | none => none
def fOr (fa fb : FT) : FT := fun ρ =>
  match fa ρ with
  | some (true, ρ1) => some (true, ρ1)
  | some (false, ρ1) => fb ρ1
  | none => none
def fNot (fa : FT) : FT := fun ρ =>
  match fa ρ with
  | some (b, ρ1) => some (!b, ρ1)
  | none => none
def fIf (fc : FT) (fa fb : FE) : FE := fun ρ =>
  match fc ρ with
  | some (true, ρ1) => fa ρ1
  | some (false, ρ1) => fb ρ1
  | none => none
/-- and, or, not as values -/
def fAndV (fa : FT) (fb : FE) : FE := fun ρ =>
  match fa ρ with
  | some (true, ρ1) => fb ρ1
  | some (false, ρ1) => some (.dat (.bl false), ρ1)
  | none => none
def fOrV (fa : FT) (fb : FE) : FE := fun ρ =>
  match fa ρ with
  | some (true, ρ1) => some (.dat (.bl true), ρ1)
  | some (false, ρ1) => fb ρ1
  | none => none
def fBool (fa : FT) : FE := fun ρ =>
  match fa ρ with
  | some (b, ρ1) => some (.dat (.bl b), ρ1)
  | none => none
/-- a op b op' c -/
def fChn (g g' : D → D → Option D) (fa fb fc : FE) : FE := fun ρ =>
  match fa ρ with
  | none => none
  | some (o, ρ1) => match fb ρ1 with
    | none => none
    | some (p, ρ2) => match o.get ρ2, p.get ρ2 with
      | some d, some e => match g d e with
        | some (.bl true) => match fc ρ2 with
          | none => none
          | some (q, ρ3) => match p.get ρ3, q.get ρ3 with
            | some e', some f => match g' e' f with
              | some r => some (.dat r, ρ3)
              | none => none
            | _, _ => none
        | some (.bl false) => some (.dat (.bl false), ρ2)
        | _ => none
      | _, _ => none

/-! ### slices' parts -/
abbrev FO := Ev → Option (Option Int × Ev)
def fNoPart : FO := fun ρ => some (none, ρ)
def fPart (fa : FE) : FO := fun ρ =>
  match fa ρ with
  | some (.dat (.int i), ρ1) => some (some i, ρ1)
  | _ => none
def fSlc (fa : FE) (fl fh : FO) : FE := fun ρ =>
  match fa ρ with
  | none => none
  | some (o, ρ1) => match fl ρ1 with
    | none => none
    | some (l, ρ2) => match fh ρ2 with
      | none => none
      | some (h, ρ3) => match o.get ρ3 with
        | none => none
        | some d => match dSlc d l h with
          | some r => some (.dat r, ρ3)
          | none => none
def TOd (F : Fx) (f : FO) : TO := fun σ H Q => ∃ M ρ b ρ', ER F M ρ σ H ∧ f ρ = some (b, ρ') ∧
  ∀ M' H', (∀ a, M' a → M a) → ER F M' ρ' σ H' → Keep M H H' → Q b H'

section
variable {X : Cx} {F : Fx} {a b c : Expr} {fa fb fc : FE} {pos : Pos}
theorem de_var {i : Nat} {x : Str} (hN : X.N[i]? = some x) (hv : Vis X.env.scope x) (hd : (x == ("__debug__" : Str)) = false) (hcd : (x == ("__classdict__" : Str)) = false) : PE X (.Name x pos) (TEd F (fVar i)) := by
  refine PE.imp (pe_var hN hv hd hcd) ?_
  rintro σ H Q ⟨M, ρ, o, ρ', R, hf, q⟩
  unfold fVar at hf
  cases e : ρ[i]? with
  | none => rw [e] at hf; cases hf
  | some s =>
    obtain ⟨v, h1, h2⟩ := R.sl i s e
    rw [e] at hf
    cases s with
    | un => cases hf
    | dat d =>
      cases hf
      obtain ⟨x, rfl, h3⟩ := h2
      exact ⟨x, h1, q x M H (fun _ z => z) R Keep.rfl h3⟩
    | own ds =>
      cases hf
      obtain ⟨p, rfl, _⟩ := h2
      exact ⟨_, h1, q _ M H (fun _ z => z) R Keep.rfl h1⟩
    | obj k ds =>
      cases hf
      obtain ⟨p, rfl, _⟩ := h2
      exact ⟨_, h1, q _ M H (fun _ z => z) R Keep.rfl h1⟩
/-- a constant, by its value -/
theorem de_c {e : Expr} {v : V} {d : D} (h : PE X e (tC v)) (hd : ∀ M H, Dv F.K F.T M H d v) : PE X e (TEd F (fC d)) := by
  refine PE.imp h ?_
  rintro σ H Q ⟨M, ρ, o, ρ', R, hf, q⟩
  cases hf
  exact q v M H (fun _ z => z) R Keep.rfl (hd M H)
theorem de_bin {op : Operator} {g : D → D → Option D} (ho : OpR X (binaryOp op) (rD F g)) (ha : PE X a (TEd F fa)) (hb : PE X b (TEd F fb)) : PE X (.BinOp a op b pos) (TEd F (fBin g fa fb)) := by
  refine PE.imp (pe_op ho ha hb) ?_
  rintro σ H Q ⟨M, ρ, o, ρ', R, hf, q⟩
  unfold fBin at hf
  cases e1 : fa ρ with
  | none => rw [e1] at hf; cases hf
  | some p1 =>
    obtain ⟨o1, ρ1⟩ := p1
    rw [e1] at hf
    simp only at hf
    cases e2 : fb ρ1 with
    | none => rw [e2] at hf; cases hf
    | some p2 =>
      obtain ⟨o2, ρ2⟩ := p2
      rw [e2] at hf
      simp only at hf
      split at hf
      · rename_i d e g1 g2
        split at hf
        · rename_i r hr
          cases hf
          refine ⟨M, ρ, o1, ρ1, R, e1, fun x M1 H1 s1 R1 k1 ok1 => ⟨M1, ρ1, o2, _, R1, e2, fun y M2 H2 s2 R2 k2 ok2 => ?_⟩⟩
          exact ⟨M2, d, e, r, R2.mh, R2.opd (OpdOk.less s2 (OpdOk.keep R1.mm k2 ok1)) g1, R2.opd ok2 g2, hr, fun v H' ex dv => q v M2 H' (fun z m => s1 z (s2 z m)) (R2.ext ex) (k1.trans ((k2.mono s1).trans ex.keep)) dv⟩
        · cases hf
      · cases hf
theorem de_cmp {op : CmpOp} {g : D → D → Option D} (ho : OpR X (compareOp op) (rD F g)) (ha : PE X a (TEd F fa)) (hb : PE X b (TEd F fb)) (hm : behindInMarks op b = false) : PE X (.Compare a [op] [b] pos) (TEd F (fBin g fa fb)) := by
  refine PE.imp (pe_cmpR ho ha hb hm) ?_
  rintro σ H Q ⟨M, ρ, o, ρ', R, hf, q⟩
  unfold fBin at hf
  cases e1 : fa ρ with
  | none => rw [e1] at hf; cases hf
  | some p1 =>
    obtain ⟨o1, ρ1⟩ := p1
    rw [e1] at hf
    simp only at hf
    cases e2 : fb ρ1 with
    | none => rw [e2] at hf; cases hf
    | some p2 =>
      obtain ⟨o2, ρ2⟩ := p2
      rw [e2] at hf
      simp only at hf
      split at hf
      · rename_i d e g1 g2
        split at hf
        · rename_i r hr
          cases hf
          refine ⟨M, ρ, o1, ρ1, R, e1, fun x M1 H1 s1 R1 k1 ok1 => ⟨M1, ρ1, o2, _, R1, e2, fun y M2 H2 s2 R2 k2 ok2 => ?_⟩⟩
          exact ⟨M2, d, e, r, R2.mh, R2.opd (OpdOk.less s2 (OpdOk.keep R1.mm k2 ok1)) g1, R2.opd ok2 g2, hr, fun v H' ex dv => q v M2 H' (fun z m => s1 z (s2 z m)) (R2.ext ex) (k1.trans ((k2.mono s1).trans ex.keep)) dv⟩
        · cases hf
      · cases hf
theorem dt_cmp {op : CmpOp} {g : D → D → Option D} (ho : OpR X (compareOp op) (rD F g)) (ha : PE X a (TEd F fa)) (hb : PE X b (TEd F fb)) (hm : behindInMarks op b = false) : PT X (.Compare a [op] [b] pos) (TTd F (fTest (fBin g fa fb))) := by
  refine PT.imp (pt_cmpR ho ha hb hm) ?_
  rintro σ H Q ⟨M, ρ, o, ρ', R, hf, q⟩
  unfold fTest fBin at hf
  cases e1 : fa ρ with
  | none => rw [e1] at hf; cases hf
  | some p1 =>
    obtain ⟨o1, ρ1⟩ := p1
    rw [e1] at hf
    simp only at hf
    cases e2 : fb ρ1 with
    | none => rw [e2] at hf; cases hf
    | some p2 =>
      obtain ⟨o2, ρ2⟩ := p2
      rw [e2] at hf
      simp only at hf
      cases g1 : o1.get ρ2 with
      | none => rw [g1] at hf; cases hf
      | some d =>
        cases g2 : o2.get ρ2 with
        | none => rw [g1, g2] at hf; cases hf
        | some e =>
          rw [g1, g2] at hf
          simp only at hf
          cases hr : g d e with
          | none => rw [hr] at hf; cases hf
          | some r =>
            rw [hr] at hf
            cases r with
            | bl k =>
              cases hf
              refine ⟨M, ρ, o1, ρ1, R, e1, fun x M1 H1 s1 R1 k1 ok1 => ⟨M1, ρ1, o2, _, R1, e2, fun y M2 H2 s2 R2 k2 ok2 => ?_⟩⟩
              exact ⟨M2, d, e, _, R2.mh, R2.opd (OpdOk.less s2 (OpdOk.keep R1.mm k2 ok1)) g1, R2.opd ok2 g2, hr, fun v H' ex dv => ⟨_, dv, q M2 H' (fun z m => s1 z (s2 z m)) (R2.ext ex) (k1.trans ((k2.mono s1).trans ex.keep))⟩⟩
            | _ => cases hf
theorem de_un {op : UnaryOp} {g : D → Option D} (ho : UnR X (unaryOp op) (rU1 F g)) (ha : PE X a (TEd F fa)) : PE X (.UnaryOp op a pos) (TEd F (fUn g fa)) := by
  refine PE.imp (pe_un ho ha) ?_
  rintro σ H Q ⟨M, ρ, o, ρ', R, hf, q⟩
  unfold fUn at hf
  cases e1 : fa ρ with
  | none => rw [e1] at hf; cases hf
  | some p1 =>
    obtain ⟨o1, ρ1⟩ := p1
    rw [e1] at hf
    simp only at hf
    split at hf
    · rename_i d g1
      split at hf
      · rename_i r hr
        cases hf
        exact ⟨M, ρ, o1, _, R, e1, fun x M1 H1 s1 R1 k1 ok1 => ⟨M1, d, r, R1.mh, R1.opd ok1 g1, hr, fun v H' ex dv => q v M1 H' s1 (R1.ext ex) (k1.trans ex.keep) dv⟩⟩
      · cases hf
    · cases hf
theorem da_nil : PA X [] (TAd F fNil) := by
  refine PA.imp pa_nil ?_
  rintro σ H Q ⟨M, ρ, o, ρ', R, hf, q⟩
  cases hf
  exact q [] M H (fun _ z => z) R Keep.rfl .nil
theorem OpdsOk.keep {M : Ms} {H H' : Hp} {σ : Sg} (mm : ∀ a, M a → Mu (H a)) (k : Keep M H H') : ∀ {os : List Opd} {vs : List V}, OpdsOk F M H σ os vs → OpdsOk F M H' σ os vs
  | _, _, .nil => .nil
  | _, _, .cons h t => .cons (OpdOk.keep mm k h) (OpdsOk.keep mm k t)
theorem OpdsOk.less {M M' : Ms} {H : Hp} {σ : Sg} (k : ∀ a, M' a → M a) : ∀ {os : List Opd} {vs : List V}, OpdsOk F M H σ os vs → OpdsOk F M' H σ os vs
  | _, _, .nil => .nil
  | _, _, .cons h t => .cons (OpdOk.less k h) (OpdsOk.less k t)
theorem OpdsOk.append {M : Ms} {H : Hp} {σ : Sg} : ∀ {os ps : List Opd} {vs ws : List V}, OpdsOk F M H σ os vs → OpdsOk F M H σ ps ws → OpdsOk F M H σ (os ++ ps) (vs ++ ws)
  | _, _, _, _, .nil, g => g
  | _, _, _, _, .cons h t, g => .cons h (OpdsOk.append t g)
theorem OpdsOk.dats {M : Ms} {H : Hp} {σ : Sg} : ∀ {ds : List D} {vs : List V}, DvS F.K F.T M H ds vs → OpdsOk F M H σ (ds.map .dat) vs
  | [], _, h => by cases (show _ = [] from h); exact .nil
  | d :: ds, _, ⟨x, r, e, h1, h2⟩ => by subst e; exact .cons h1 (OpdsOk.dats h2)
theorem OpdsOk.datAll {M : Ms} {H : Hp} {σ : Sg} : ∀ {os : List Opd} {vs : List V} {ds : List D}, OpdsOk F M H σ os vs → SC.datAll os = some ds → DvS F.K F.T M H ds vs
  | _, _, _, .nil, e => by cases e; exact rfl
  | .dat d :: os, _, ds, .cons h t, e => by
    obtain ⟨es, e1, e2⟩ := Option.map_eq_some_iff.mp (show (SC.datAll os).map (d :: ·) = some ds from e)
    subst e2
    exact ⟨_, _, rfl, h, OpdsOk.datAll t e1⟩
  | .slot _ :: _, _, _, .cons _ _, e => by cases e
theorem OpdsOk.getAll {M : Ms} {H : Hp} {σ : Sg} {ρ : Ev} (R : ER F M ρ σ H) : ∀ {os : List Opd} {vs : List V} {ds : List D}, OpdsOk F M H σ os vs → SC.getAll ρ os = some ds → DoS F M H ds vs
  | _, _, _, .nil, e => by cases e; exact .nil
  | o :: os, _, ds, .cons h t, e => by
    simp only [SC.getAll] at e
    split at e
    · rename_i d ds' g1 g2
      cases e
      exact .cons (R.opd h g1) (OpdsOk.getAll R t g2)
    · cases e
theorem da_cons {e : Expr} {es : List Expr} {fr : FA} (ha : PE X e (TEd F fa)) (hr : PA X es (TAd F fr)) (hs : starEach (e :: es) X.env = (false, eval e X.env) :: starEach es X.env) : PA X (e :: es) (TAd F (fCons fa fr)) := by
  refine PA.imp (pa_cons ha hr hs) ?_
  rintro σ H Q ⟨M, ρ, os, ρ', R, hf, q⟩
  unfold fCons at hf
  cases e1 : fa ρ with
  | none => rw [e1] at hf; cases hf
  | some p1 =>
    obtain ⟨o1, ρ1⟩ := p1
    rw [e1] at hf
    simp only at hf
    cases e2 : fr ρ1 with
    | none => rw [e2] at hf; cases hf
    | some p2 =>
      obtain ⟨o2, ρ2⟩ := p2
      rw [e2] at hf
      cases hf
      exact ⟨M, ρ, o1, ρ1, R, e1, fun x M1 H1 s1 R1 k1 ok1 => ⟨M1, ρ1, o2, _, R1, e2, fun y M2 H2 s2 R2 k2 ok2 => q _ M2 H2 (fun z m => s1 z (s2 z m)) R2 (k1.trans (k2.mono s1)) (.cons (OpdOk.less s2 (OpdOk.keep R1.mm k2 ok1)) ok2)⟩⟩
theorem da_star {e : Expr} {es : List Expr} {fr : FA} {p : Pos} (ha : PE X e (TEd F fa)) (hr : PA X es (TAd F fr)) (hK : F.K = X.K) : PA X (.Starred e p :: es) (TAd F (fStar fa fr)) := by
  obtain ⟨K, T, M0, pa, H0⟩ := F
  cases hK
  refine PA.imp (StX.pa_star ha hr) ?_
  rintro σ H Q ⟨M, ρ, os, ρ', R, hf, q⟩
  unfold fStar at hf
  cases e1 : fa ρ with
  | none => rw [e1] at hf; cases hf
  | some p1 =>
    obtain ⟨o1, ρ1⟩ := p1
    rw [e1] at hf
    simp only at hf
    cases g1 : o1.get ρ1 with
    | none => rw [g1] at hf; cases hf
    | some d =>
      rw [g1] at hf
      simp only at hf
      cases g2 : itemsD d with
      | none => rw [g2] at hf; cases hf
      | some ds =>
        rw [g2] at hf
        simp only at hf
        cases e2 : fr ρ1 with
        | none => rw [e2] at hf; cases hf
        | some p2 =>
          obtain ⟨o2, ρ2⟩ := p2
          rw [e2] at hf
          cases hf
          refine ⟨M, ρ, o1, ρ1, R, e1, fun x M1 H1 s1 R1 k1 ok1 => ?_⟩
          have hd := R1.opd ok1 g1
          have fin : ∀ (p : Addr) (us : List V), x = V.ref p → (SqT X.K H1 p us ∨ SqL X.K H1 p us) → DvS X.K T M1 H1 ds us →
              ∃ p xs, x = V.ref p ∧ (SqT X.K H1 p xs ∨ SqL X.K H1 p xs) ∧ TAd ⟨X.K, T, M0, pa, H0⟩ fr σ H1 fun ys H2 => Q (xs ++ ys) H2 := fun p us ex hq ru =>
            ⟨p, us, ex, hq, M1, ρ1, o2, _, R1, e2, fun y M2 H2 s2 R2 k2 ok2 => q _ M2 H2 (fun z m => s1 z (s2 z m)) R2 (k1.trans (k2.mono s1)) (OpdsOk.append (OpdsOk.dats (DvS.less s2 _ (DvS.keep k2 R1.mm _ ru))) ok2)⟩
          cases d with
          | tup es =>
            cases g2
            obtain ⟨p, us, rfl, hp, ru⟩ := hd.tup
            exact fin p us rfl (.inl hp) ru
          | lst es =>
            cases g2
            obtain ⟨p, us, rfl, hp, ru⟩ := hd.lst
            exact fin p us rfl (.inr (SqL.of hp)) ru
          | _ => cases g2
theorem de_tup {es : List Expr} {f : FA} {k : Nat} (h : PA X es (TAd F f)) : PE X (.Tuple es k pos) (TEd F (fDisp .tup f)) := by
  refine PE.imp (pe_tup h) ?_
  rintro σ H Q ⟨M, ρ, o, ρ', R, hf, q⟩
  unfold fDisp at hf
  cases e1 : f ρ with
  | none => rw [e1] at hf; cases hf
  | some p1 =>
    obtain ⟨os, ρ1⟩ := p1
    rw [e1] at hf
    simp only at hf
    cases e2 : datAll os with
    | none => rw [e2] at hf; cases hf
    | some ds =>
      rw [e2] at hf
      simp only at hf
      split at hf
      · rename_i hz
        cases hf
        refine ⟨M, ρ, os, _, R, e1, fun vs M1 H1 s1 R1 k1 ok1 => ?_⟩
        have dv := OpdsOk.datAll ok1 e2
        exact ⟨by rw [← dv.length, ← sLn_eq]; exact hz, fun p hp => q _ M1 _ s1 (R1.ext (Ext.new hp)) (k1.trans (Ext.new hp).keep) (Dv.newTup dv hp (R1.fresh hp))⟩
      · cases hf
theorem de_lst {es : List Expr} {f : FA} (h : PA X es (TAd F f)) : PE X (.List es pos) (TEd F (fDisp .lst f)) := by
  refine PE.imp (pe_lst h) ?_
  rintro σ H Q ⟨M, ρ, o, ρ', R, hf, q⟩
  unfold fDisp at hf
  cases e1 : f ρ with
  | none => rw [e1] at hf; cases hf
  | some p1 =>
    obtain ⟨os, ρ1⟩ := p1
    rw [e1] at hf
    simp only at hf
    cases e2 : datAll os with
    | none => rw [e2] at hf; cases hf
    | some ds =>
      rw [e2] at hf
      simp only at hf
      split at hf
      · rename_i hz
        cases hf
        refine ⟨M, ρ, os, _, R, e1, fun vs M1 H1 s1 R1 k1 ok1 => ?_⟩
        have dv := OpdsOk.datAll ok1 e2
        exact ⟨by rw [← dv.length, ← sLn_eq]; exact hz, fun p hp => q _ M1 _ s1 (R1.ext (Ext.new hp)) (k1.trans (Ext.new hp).keep) (Dv.newLst dv hp (R1.fresh hp))⟩
      · cases hf
/-- the reading of a built-in's call -/
theorem blt_imp {g : List D → Option D} {f : FA} {σ : Sg} {H : Hp} {Q : VK} (h : TEd F (fBlt g f) σ H Q) : tCB (rCs F g) (TAd F f) σ H Q := by
  obtain ⟨M, ρ, o, ρ', R, hf, q⟩ := h
  unfold fBlt at hf
  cases e1 : f ρ with
  | none => rw [e1] at hf; cases hf
  | some p1 =>
    obtain ⟨os, ρ1⟩ := p1
    rw [e1] at hf
    simp only at hf
    cases e2 : getAll ρ1 os with
    | none => rw [e2] at hf; cases hf
    | some ds =>
      rw [e2] at hf
      simp only at hf
      cases e3 : g ds with
      | none => rw [e3] at hf; cases hf
      | some r =>
        rw [e3] at hf
        cases hf
        exact ⟨M, ρ, os, _, R, e1, fun vs M1 H1 s1 R1 k1 ok1 => ⟨M1, ds, r, R1.mh, OpdsOk.getAll R1 ok1 e2, e3, fun v H' ex dv => q v M1 H' s1 (R1.ext ex) (k1.trans ex.keep) dv⟩⟩
theorem dt_val {e : Expr} (h : PE X e (TEd F fa)) (he : ∀ whole, isTrue e X.env whole = (do let v ← whole; standAt e.pos; holding [v] (truthy v))) : PT X e (TTd F (fTest fa)) := by
  refine PT.imp (pt_val h he) ?_
  rintro σ H Q ⟨M, ρ, o, ρ', R, hf, q⟩
  unfold fTest at hf
  cases e1 : fa ρ with
  | none => rw [e1] at hf; cases hf
  | some p1 =>
    obtain ⟨o1, ρ1⟩ := p1
    rw [e1] at hf
    cases o1 with
    | slot _ => cases hf
    | dat d =>
      cases d with
      | bl k =>
        cases hf
        exact ⟨M, ρ, _, _, R, e1, fun v M1 H1 s1 R1 k1 ok1 => ⟨_, ok1, q M1 H1 s1 R1 k1⟩⟩
      | _ => cases hf
theorem dw_and1 {f : FT} (h : PT X a (TTd F f)) : PW X (.BoolOp .And [a] pos) (TTd F f) := pw_and1 h
theorem dw_or1 {f : FT} (h : PT X a (TTd F f)) : PW X (.BoolOp .Or [a] pos) (TTd F f) := pw_or1 h
theorem dw_and {rest : List Expr} {f g : FT} (h : PT X a (TTd F f)) (h' : PW X (.BoolOp .And (b :: rest) pos) (TTd F g)) : PW X (.BoolOp .And (a :: b :: rest) pos) (TTd F (fAnd f g)) := by
  refine PW.imp (pw_and h h') ?_
  rintro σ H Q ⟨M, ρ, o, ρ', R, hf, q⟩
  unfold fAnd at hf
  cases e1 : f ρ with
  | none => rw [e1] at hf; cases hf
  | some p1 =>
    obtain ⟨k, ρ1⟩ := p1
    rw [e1] at hf
    cases k with
    | true =>
      simp only at hf
      exact ⟨M, ρ, _, _, R, e1, fun M1 H1 s1 R1 k1 => by
        (try dsimp only); rw [if_pos rfl]
        exact ⟨M1, ρ1, _, _, R1, hf, fun M2 H2 s2 R2 k2 => q M2 H2 (fun z m => s1 z (s2 z m)) R2 (k1.trans (k2.mono s1))⟩⟩
    | false =>
      cases hf
      exact ⟨M, ρ, _, _, R, e1, fun M1 H1 s1 R1 k1 => by
        (try dsimp only); rw [if_neg Bool.false_ne_true]
        exact q M1 H1 s1 R1 k1⟩
theorem dw_or {rest : List Expr} {f g : FT} (h : PT X a (TTd F f)) (h' : PW X (.BoolOp .Or (b :: rest) pos) (TTd F g)) : PW X (.BoolOp .Or (a :: b :: rest) pos) (TTd F (fOr f g)) := by
  refine PW.imp (pw_or h h') ?_
  rintro σ H Q ⟨M, ρ, o, ρ', R, hf, q⟩
  unfold fOr at hf
  cases e1 : f ρ with
  | none => rw [e1] at hf; cases hf
  | some p1 =>
    obtain ⟨k, ρ1⟩ := p1
    rw [e1] at hf
    cases k with
    | true =>
      cases hf
      exact ⟨M, ρ, _, _, R, e1, fun M1 H1 s1 R1 k1 => by
        (try dsimp only); rw [if_pos rfl]
        exact q M1 H1 s1 R1 k1⟩
    | false =>
      simp only at hf
      exact ⟨M, ρ, _, _, R, e1, fun M1 H1 s1 R1 k1 => by
        (try dsimp only); rw [if_neg Bool.false_ne_true]
        exact ⟨M1, ρ1, _, _, R1, hf, fun M2 H2 s2 R2 k2 => q M2 H2 (fun z m => s1 z (s2 z m)) R2 (k1.trans (k2.mono s1))⟩⟩
theorem dt_not {f : FT} (h : PT X a (TTd F f)) : PT X (.UnaryOp .Not a pos) (TTd F (fNot f)) := by
  refine PT.imp (pt_not h) ?_
  rintro σ H Q ⟨M, ρ, o, ρ', R, hf, q⟩
  unfold fNot at hf
  cases e1 : f ρ with
  | none => rw [e1] at hf; cases hf
  | some p1 =>
    obtain ⟨k, ρ1⟩ := p1
    rw [e1] at hf
    cases hf
    exact ⟨M, ρ, _, _, R, e1, fun M1 H1 s1 R1 k1 => q M1 H1 s1 R1 k1⟩
theorem de_if {f : FT} (hc : PT X c (TTd F f)) (ha : PE X a (TEd F fa)) (hb : PE X b (TEd F fb)) : PE X (.IfExp c a b pos) (TEd F (fIf f fa fb)) := by
  refine PE.imp (pe_ifExp hc ha hb) ?_
  rintro σ H Q ⟨M, ρ, o, ρ', R, hf, q⟩
  unfold fIf at hf
  cases e1 : f ρ with
  | none => rw [e1] at hf; cases hf
  | some p1 =>
    obtain ⟨k, ρ1⟩ := p1
    rw [e1] at hf
    cases k with
    | true =>
      simp only at hf
      exact ⟨M, ρ, _, _, R, e1, fun M1 H1 s1 R1 k1 => by
        (try dsimp only); rw [if_pos rfl]
        exact ⟨M1, ρ1, _, _, R1, hf, fun v M2 H2 s2 R2 k2 ok => q v M2 H2 (fun z m => s1 z (s2 z m)) R2 (k1.trans (k2.mono s1)) ok⟩⟩
    | false =>
      simp only at hf
      exact ⟨M, ρ, _, _, R, e1, fun M1 H1 s1 R1 k1 => by
        (try dsimp only); rw [if_neg Bool.false_ne_true]
        exact ⟨M1, ρ1, _, _, R1, hf, fun v M2 H2 s2 R2 k2 ok => q v M2 H2 (fun z m => s1 z (s2 z m)) R2 (k1.trans (k2.mono s1)) ok⟩⟩
theorem de_one {op : BoolOp} (h : PE X a (TEd F fa)) : PE X (.BoolOp op [a] pos) (TEd F fa) := pe_one h
theorem de_and {rest : List Expr} (h : PE X a (TEd F fa)) (h' : PE X (.BoolOp .And (b :: rest) pos) (TEd F fb)) : PE X (.BoolOp .And (a :: b :: rest) pos) (TEd F (fAndV (fTest fa) fb)) := by
  refine PE.imp (pe_and h h') ?_
  rintro σ H Q ⟨M, ρ, o, ρ', R, hf, q⟩
  unfold fAndV fTest at hf
  cases e1 : fa ρ with
  | none => rw [e1] at hf; cases hf
  | some p1 =>
    obtain ⟨o1, ρ1⟩ := p1
    rw [e1] at hf
    cases o1 with
    | slot _ => cases hf
    | dat d =>
      cases d with
      | bl k =>
        cases k with
        | true =>
          simp only at hf
          exact ⟨M, ρ, _, _, R, e1, fun v M1 H1 s1 R1 k1 ok1 => ⟨true, ok1, by
            (try dsimp only); rw [if_pos rfl]
            exact ⟨M1, ρ1, _, _, R1, hf, fun v M2 H2 s2 R2 k2 ok => q v M2 H2 (fun z m => s1 z (s2 z m)) R2 (k1.trans (k2.mono s1)) ok⟩⟩⟩
        | false =>
          cases hf
          exact ⟨M, ρ, _, _, R, e1, fun v M1 H1 s1 R1 k1 ok1 => ⟨false, ok1, by
            (try dsimp only); rw [if_neg Bool.false_ne_true]
            exact q _ M1 H1 s1 R1 k1 rfl⟩⟩
      | _ => cases hf
theorem de_or {rest : List Expr} (h : PE X a (TEd F fa)) (h' : PE X (.BoolOp .Or (b :: rest) pos) (TEd F fb)) : PE X (.BoolOp .Or (a :: b :: rest) pos) (TEd F (fOrV (fTest fa) fb)) := by
  refine PE.imp (pe_or h h') ?_
  rintro σ H Q ⟨M, ρ, o, ρ', R, hf, q⟩
  unfold fOrV fTest at hf
  cases e1 : fa ρ with
  | none => rw [e1] at hf; cases hf
  | some p1 =>
    obtain ⟨o1, ρ1⟩ := p1
    rw [e1] at hf
    cases o1 with
    | slot _ => cases hf
    | dat d =>
      cases d with
      | bl k =>
        cases k with
        | true =>
          cases hf
          exact ⟨M, ρ, _, _, R, e1, fun v M1 H1 s1 R1 k1 ok1 => ⟨true, ok1, by
            (try dsimp only); rw [if_pos rfl]
            exact q _ M1 H1 s1 R1 k1 rfl⟩⟩
        | false =>
          simp only at hf
          exact ⟨M, ρ, _, _, R, e1, fun v M1 H1 s1 R1 k1 ok1 => ⟨false, ok1, by
            (try dsimp only); rw [if_neg Bool.false_ne_true]
            exact ⟨M1, ρ1, _, _, R1, hf, fun v M2 H2 s2 R2 k2 ok => q v M2 H2 (fun z m => s1 z (s2 z m)) R2 (k1.trans (k2.mono s1)) ok⟩⟩⟩
      | _ => cases hf
theorem de_not (h : PE X a (TEd F fa)) : PE X (.UnaryOp .Not a pos) (TEd F (fBool (fNot (fTest fa)))) := by
  refine PE.imp (pe_not h) ?_
  rintro σ H Q ⟨M, ρ, o, ρ', R, hf, q⟩
  unfold fBool fNot fTest at hf
  cases e1 : fa ρ with
  | none => rw [e1] at hf; cases hf
  | some p1 =>
    obtain ⟨o1, ρ1⟩ := p1
    rw [e1] at hf
    cases o1 with
    | slot _ => cases hf
    | dat d =>
      cases d with
      | bl k =>
        cases hf
        exact ⟨M, ρ, _, _, R, e1, fun v M1 H1 s1 R1 k1 ok1 => ⟨k, ok1, q _ M1 H1 s1 R1 k1 rfl⟩⟩
      | _ => cases hf
theorem de_ix (hK : F.K = X.K) (ha : PE X a (TEd F fa)) (hb : PE X b (TEd F fb)) (hs : PlainIx b) : PE X (.Subscript a b pos) (TEd F (fBin dIdx fa fb)) := by
  refine PE.imp (pe_ix (ixd hK) ha hb hs) ?_
  rintro σ H Q ⟨M, ρ, o, ρ', R, hf, q⟩
  unfold fBin at hf
  cases e1 : fa ρ with
  | none => rw [e1] at hf; cases hf
  | some p1 =>
    obtain ⟨o1, ρ1⟩ := p1
    rw [e1] at hf
    simp only at hf
    cases e2 : fb ρ1 with
    | none => rw [e2] at hf; cases hf
    | some p2 =>
      obtain ⟨o2, ρ2⟩ := p2
      rw [e2] at hf
      simp only at hf
      split at hf
      · rename_i d e g1 g2
        split at hf
        · rename_i r hr
          cases hf
          refine ⟨M, ρ, o1, ρ1, R, e1, fun x M1 H1 s1 R1 k1 ok1 => ⟨M1, ρ1, o2, _, R1, e2, fun y M2 H2 s2 R2 k2 ok2 => ?_⟩⟩
          exact ⟨M2, d, e, r, R2.mh, R2.opd (OpdOk.less s2 (OpdOk.keep R1.mm k2 ok1)) g1, R2.opd ok2 g2, hr, fun v H' ex dv => q v M2 H' (fun z m => s1 z (s2 z m)) (R2.ext ex) (k1.trans ((k2.mono s1).trans ex.keep)) dv⟩
        · cases hf
      · cases hf
theorem PO.imp {e : Option Expr} {t t' : TO} (h : PO X e t) (g : ∀ σ H Q, t' σ H Q → t σ H Q) : PO X e t' := ⟨fun pins s σ H Q I hw => h.run pins s σ H Q I (g _ _ _ hw)⟩
theorem do_none : PO X none (TOd F fNoPart) := by
  refine PO.imp po_none ?_
  rintro σ H Q ⟨M, ρ, o, ρ', R, hf, q⟩
  cases hf
  exact q M H (fun _ z => z) R Keep.rfl
theorem do_some (h : PE X a (TEd F fa)) : PO X (some a) (TOd F (fPart fa)) := by
  refine PO.imp (po_some h) ?_
  rintro σ H Q ⟨M, ρ, o, ρ', R, hf, q⟩
  unfold fPart at hf
  cases e1 : fa ρ with
  | none => rw [e1] at hf; cases hf
  | some p1 =>
    obtain ⟨o1, ρ1⟩ := p1
    rw [e1] at hf
    cases o1 with
    | slot _ => cases hf
    | dat d =>
      cases d with
      | int i =>
        cases hf
        exact ⟨M, ρ, _, _, R, e1, fun v M1 H1 s1 R1 k1 ok1 => ⟨i, ok1, q M1 H1 s1 R1 k1⟩⟩
      | _ => cases hf
theorem de_slc {lo hi : Option Expr} {fl fh : FO} {p2 : Pos} (hK : F.K = X.K) (ha : PE X a (TEd F fa)) (hl : PO X lo (TOd F fl)) (hh : PO X hi (TOd F fh)) : PE X (.Subscript a (.Slice lo hi none p2) pos) (TEd F (fSlc fa fl fh)) := by
  refine PE.imp (pe_slice (sld hK) ha hl hh) ?_
  rintro σ H Q ⟨M, ρ, o, ρ', R, hf, q⟩
  unfold fSlc at hf
  cases e1 : fa ρ with
  | none => rw [e1] at hf; cases hf
  | some p1 =>
    obtain ⟨o1, ρ1⟩ := p1
    rw [e1] at hf
    simp only at hf
    cases e2 : fl ρ1 with
    | none => rw [e2] at hf; cases hf
    | some p2 =>
      obtain ⟨l, ρ2⟩ := p2
      rw [e2] at hf
      simp only at hf
      cases e3 : fh ρ2 with
      | none => rw [e3] at hf; cases hf
      | some p3 =>
        obtain ⟨u, ρ3⟩ := p3
        rw [e3] at hf
        simp only at hf
        cases g1 : o1.get ρ3 with
        | none => rw [g1] at hf; cases hf
        | some d =>
          rw [g1] at hf
          simp only at hf
          split at hf
          · rename_i r hr
            cases hf
            refine ⟨M, ρ, o1, ρ1, R, e1, fun x M1 H1 s1 R1 k1 ok1 => ⟨M1, ρ1, l, ρ2, R1, e2, fun M2 H2 s2 R2 k2 => ⟨M2, ρ2, u, _, R2, e3, fun M3 H3 s3 R3 k3 => ?_⟩⟩⟩
            exact ⟨M3, d, r, R3.mh, R3.opd (OpdOk.less (fun z m => s2 z (s3 z m)) (OpdOk.keep R1.mm (k2.trans (k3.mono s2)) ok1)) g1, hr, fun v H' ex dv => q v M3 H' (fun z m => s1 z (s2 z (s3 z m))) (R3.ext ex) (k1.trans ((k2.mono s1).trans ((k3.mono fun z m => s1 z (s2 z m)).trans ex.keep))) dv⟩
          · cases hf
end
end SC

set_option Elab.async false
set_option linter.all false
set_option maxRecDepth 100000
namespace PySem
open Sem (wp)
open AutoSeq1 (wpAny_loadPart')
theorem sc_enumerate_newT (l : Addr) (items : Array Value) (n : Nat) (dct : Option Addr) (sl : Array (Option Value)) :
    Meets (Builtin.«enumerate.__new__» ⟨[.type "enumerate", .ref l], []⟩) (fun _ R s => s.heap.get? l = some { cls := .type "tuple", dict := dct, data := .seq items n, slots := sl } ∧
      R (.ok (.ret (.ref (s.heap.push { cls := .type "tuple_iterator", data := .fields #[.ref l, .int 0 0] }).objs.size)))
        { s with heap := (s.heap.push { cls := .type "tuple_iterator", data := .fields #[.ref l, .int 0 0] }).push { cls := .type "enumerate", data := .fields #[.none, .bool false, .ref s.heap.objs.size, rawInt 0, .none, .none] } }) :=
  .of_wp fun prog w A R s h => by
    obtain ⟨hp, g, d, tk, os⟩ := s; obtain ⟨hl, h⟩ := h
    have hsub := sub_enumerate
    have hL : Heap.IsTuple (Shared.heap ⟨hp, g, d, tk, os⟩) l items := ⟨_, hl, rfl, n, rfl⟩
    wp_walk using wpAny_loadPart' hl
    refine wpAny_stack_any fun st => wpAny_pure ?_
    split
    · rename_i c _ _ _ _ _
      cases (c == Value.type "enumerate")
      · wp_walk using wpAny_loadPart' hl, wpAny_pyIter_tuple hL
        exact ⟨_, rfl, h⟩
      · wp_walk using wpAny_loadPart' hl, wpAny_pyIter_tuple hL
        exact ⟨_, rfl, h⟩
    · wp_walk using wpAny_loadPart' hl, wpAny_pyIter_tuple hL
      exact ⟨_, rfl, h⟩
section
variable {prog : Program} {w : World} {A : Around} {E : Value → Shared → Prop} {s : Shared}
theorem sc_call_enumerate_tuple {l : Addr} {items : Array Value} {Q : Value → Shared → Prop} (hL : s.heap.IsTuple l items)
    (h : ∀ h', IsEnum h' (s.heap.objs.size + 1) s.heap.objs.size 0 .none → h'.IsTupleIter s.heap.objs.size l 0 → h'.objs.size = s.heap.objs.size + 2 →
      (∀ b o, s.heap.get? b = some o → h'.get? b = some o) → Q (.ref (s.heap.objs.size + 1)) { s with heap := h' }) :
    wpAny (model prog w) A (call (.type "enumerate") [.ref l]) Q E s := by
  obtain ⟨⟨c, dct, dt, sl⟩, hl, hc, n, hd⟩ := hL
  replace hc : c = .type "tuple" := hc
  replace hd : dt = .seq items n := hd
  subst hc hd
  refine callType_new F.called_enumerate (by decide) (F.typeCall_enumerate_1 _) (F.newCall_enumerate_1 _) (fun obj => F.args_object_init_2 obj _) F.entry_enumerate_new
    (sc_enumerate_newT l items n dct sl) ⟨hl, ?_⟩
  have hz : (s.heap.push { cls := .type "tuple_iterator", data := .fields #[.ref l, .int 0 0] }).objs.size = s.heap.objs.size + 1 := Heap.size_push ..
  show _ ∧ _
  rw [hz]
  have he : IsEnum ((s.heap.push { cls := .type "tuple_iterator", data := .fields #[.ref l, .int 0 0] }).push
      { cls := .type "enumerate", data := .fields #[.none, .bool false, .ref s.heap.objs.size, rawInt 0, .none, .none] }) (s.heap.objs.size + 1) s.heap.objs.size 0 .none := by
    have := Heap.get?_push_size (s.heap.push { cls := .type "tuple_iterator", data := .fields #[.ref l, .int 0 0] })
      (o := { cls := .type "enumerate", data := .fields #[.none, .bool false, .ref s.heap.objs.size, rawInt 0, .none, .none] }) rfl
    rw [hz] at this; exact this
  refine ⟨⟨_, he, rfl⟩, h _ he ⟨_, Heap.get?_push_of_some _ (Heap.get?_push_size _ rfl), rfl, rfl⟩ (by rw [Heap.size_push, hz]) fun b o x => Heap.get?_push_of_some _ (Heap.get?_push_of_some _ x)⟩
end
end PySem
namespace SC
open PySem PySem.Spec PyProof.Rows L2

/-! ### enumerate of a tuple, zip of mixed kinds -/
def IteT (K : PySem.W.Frag) (a : Addr) : It :=
  ⟨fun i H => ∃ (xs : List V) (x : V), SqT K H a xs ∧ xs[i]? = some x, fun i H v H' => ∃ T x, v = .ref T ∧ H T = none ∧ H' = upd H T (.tup [.int (i : Nat), x]) ∧ ∀ xs, SqT K H a xs → xs[i]? = some x, fun i H => ∃ xs : List V, SqT K H a xs ∧ i = xs.length⟩
theorem turn_enumT {P : Program} {w : World} {K : PySem.W.Frag} {elts : List Expr} {kk : Nat} {tpos : Pos} (a e it : Addr) (hne : a ≠ it) (hae : e ≠ a) :
    Turn P w K (.Tuple elts kk tpos) (IteT K a) [e, it] e (fun i h => (∃ old, IsEnum h e it ((i : Nat) : Int) old) ∧ h.IsTupleIter it a i ∧ e ≠ it) where
  mem := by simp
  obj := fun i h st b hb => by
    obtain ⟨⟨old, he⟩, ⟨o, ho, hc, hd⟩, _⟩ := st
    have e' : b = e ∨ b = it := by simpa using hb
    rcases e' with z | z
    · rw [z]; exact ⟨_, he, fun v q => nomatch q⟩
    · rw [z]; exact ⟨o, ho, fun v q => by rw [hd] at q; cases q⟩
  keep := fun i h h' st k => let ⟨⟨old, he⟩, hi, hne⟩ := st; ⟨⟨old, k e (by simp) _ he⟩, hi.at fun o q => k it (by simp) o q, hne⟩
  item := by
    intro X hP hw hK hc i pins s σ H E I hf st hg
    subst hP hw hK
    obtain ⟨⟨old, he⟩, hit, hei⟩ := st
    obtain ⟨xs, x, hq, hx⟩ := hg
    obtain ⟨its, rv, p, hz⟩ := I.tuple hq
    obtain ⟨u, hu, ru⟩ := rv.get hx
    have hel : e < s.heap.objs.size := Heap.lt_size he
    have hil : it < s.heap.objs.size := by obtain ⟨_, q, _⟩ := hit; exact Heap.lt_size q
    have hlt : i < its.toArray.size := by
      rw [List.size_toArray]
      exact (List.getElem?_eq_some_iff.mp hu).1
    refine wpAny_pyNext_enum_itemC (Draws.tuple (A := X.A.in1) (I.ok.hd hc) it a hne its.toArray) he ⟨hit, (show s.heap.IsTuple a its.toArray from p)⟩ hlt hei (by simp [hei, hae]) fun y h' tk hy ho hst' hT hsz hk => ?_
    have ey : y = u := by
      have : its[i]? = some y := by simpa using hy
      rw [hu] at this; exact (Option.some.inj this).symm
    subst ey
    obtain ⟨hit', _⟩ := hst'
    refine ⟨_, rfl, wpAny_letOwnedTupleGo_enum (s := { s with heap := h', toks := tk + 1 }) ho fun h'' he' sb => ?_⟩
    have hT2 : h''.get? s.heap.objs.size = some { cls := .type "tuple", data := .seq #[.int i tk, y] } := (sb.2 _ (Nat.ne_of_gt hel)).trans hT
    have new : ObjOk X.prog X.w (upd H s.heap.objs.size (.tup [.int (i : Nat), x])) h'' s.heap.objs.size (.tup [.int (i : Nat), x]) :=
      ⟨by show 2 ≤ sizeLine; decide, [.int i tk, y], .cons ⟨_, rfl⟩ (.cons ru .nil), ⟨_, hT2, rfl, _, rfl⟩⟩
    have I1 : Inv X pins σ (upd H s.heap.objs.size (.tup [.int (i : Nat), x])) { s with heap := h'', toks := tk + 1 } :=
      I.turnedNew (ch := [e, it]) (fun b ob hb q => (sb.2 b (fun z => hb (by simp [z]))).trans (hk b ob (fun z => hb (by simp [z])) (fun z => hb (by simp [z])) q)) hf (Nat.le_refl _) new
    refine ⟨.ref s.heap.objs.size, _, I1, rfl, ⟨_, x, rfl, I.hok.fresh (Nat.le_refl _), rfl, fun ys hy => by rw [I.tuple_inj hy hq]; exact hx⟩, ⟨⟨y, ?_⟩, hit'.at fun o q => (sb.2 it (Ne.symm hei)).trans q, hei⟩, fun b hb => ?_⟩
    · have e1 : ((i + 1 : Nat) : Int) = (i : Int) + 1 := by omega
      rw [e1]; exact he'
    · have hb' : b < s.heap.objs.size := by
        have e' : b = e ∨ b = it := by simpa using hb
        rcases e' with z | z
        · rw [z]; exact hel
        · rw [z]; exact hil
      rw [upd_ne (Nat.ne_of_lt hb')]
      exact (hf b hb).1
  done := by
    intro X hP hw hK hc i pins s σ H E I hf st hg
    subst hP hw hK
    obtain ⟨⟨old, he⟩, hit, hei⟩ := st
    obtain ⟨xs, hq, hx⟩ := hg
    obtain ⟨its, rv, p, hz⟩ := I.tuple hq
    obtain ⟨f0, f1, f2, f3, f4, f5⟩ := hf it (by simp)
    have hl := rv.length
    have D := Draws.tuple (prog := X.prog) (w := X.w) (A := X.A.in1) (I.ok.hd hc) it a hne its.toArray
    have en : i = its.toArray.size := by rw [List.size_toArray, ← hl]; exact hx
    have hst : (fun (i : Nat) (h : Heap) => h.IsTupleIter it a i ∧ h.IsTuple a its.toArray) its.toArray.size s.heap := by
      rw [← en]; exact ⟨hit, p⟩
    exact wpAny_pyNext_enum_endD D he hst fun h' eb => ⟨rfl, I.turned (t' := s.toks) (fun b o hb q => eb b o hb q) f0 f1 f3 f4 f5⟩
  self := fun A i s Q E st h => let ⟨⟨_, he⟩, _⟩ := st; wpAny_pyIter_enum he h
end SC

set_option Elab.async false
set_option linter.all false
set_option maxRecDepth 100000
namespace SC
open PySem PySem.Spec PyProof.Rows L2

def iEnumT (K : PySem.W.Frag) (ta : TA) : TI := fun σ H R => ta σ H fun vs H1 => ∃ a xs, vs = [.ref a] ∧ SqT K H1 a xs ∧ R (IteT K a) H1
theorem pi_enumT {X : Cx} {e : Expr} {ta : TA} {p pos tpos : Pos} {elts : List Expr} {kk : Nat} (hg : Gl X "enumerate") (hm : X.mg "enumerate" = none) (ha : PA X [e] ta) (hs : starEach [e] X.env = [(false, eval e X.env)]) :
    PI X (.Tuple elts kk tpos) (.Call (.Name "enumerate" p) [e] [] pos) (iEnumT X.K ta) := by
  refine ⟨fun pins s σ H R I h => ?_⟩
  refine Call_ (ld_blt I hg hm boot_enumerate (PyProof.Rows.callWith_type1 (thn (ha.run pos pins s σ H _ I h) fun us s1 ⟨vs, H1, I1, r1, q1⟩ => ?_) hs rfl))
  obtain ⟨a, xs, ex, hq, q⟩ := q1
  subst ex
  cases r1 with
  | cons r rr =>
    cases rr
    cases r
    obtain ⟨its, rv, p', hz⟩ := I1.tuple hq
    refine sc_call_enumerate_tuple (show s1.heap.IsTuple a its.toArray from p') fun h' he hit hsz hk => wpAny_pyIter_enum he ?_
    have I2 : Inv X pins σ H1 { s1 with heap := h' } := I1.kept (t' := s1.toks) hk
    have la : a < s1.heap.objs.size := p'.lt
    refine ⟨s1.heap.objs.size + 1, [s1.heap.objs.size + 1, s1.heap.objs.size], _, _, H1, rfl, I2, turn_enumT a (s1.heap.objs.size + 1) s1.heap.objs.size (Nat.ne_of_lt la) (Nat.ne_of_gt (Nat.lt_succ_of_lt la)), ⟨⟨.none, he⟩, hit, Nat.succ_ne_self _⟩, fun b hb => ?_, q⟩
    have e' : b = s1.heap.objs.size + 1 ∨ b = s1.heap.objs.size := by simpa using hb
    have hle : s1.heap.objs.size ≤ b := by
      rcases e' with z | z
      · rw [z]; exact Nat.le_add_right _ _
      · rw [z]; exact Nat.le_refl _
    exact I1.fpOk hle (I1.hok.fresh hle)

/-! a list (true) or a tuple (false) -/
def SqB (K : PySem.W.Frag) (b : Bool) (H : Hp) (a : Addr) (xs : List V) : Prop := match b with
  | true => SqL K H a xs
  | false => SqT K H a xs
def IterB (b : Bool) (h : Heap) (it a : Addr) (i : Nat) : Prop := match b with
  | true => h.IsListIter it a i
  | false => h.IsTupleIter it a i
def SeqB (b : Bool) (h : Heap) (a : Addr) (items : Array Value) : Prop := match b with
  | true => h.IsList a items
  | false => h.IsTuple a items
theorem IterB.lt {b : Bool} {h : Heap} {it a : Addr} {i : Nat} (x : IterB b h it a i) : ∃ o, h.get? it = some o ∧ ∀ v, o.data ≠ .cell v := by
  cases b with
  | true => obtain ⟨o, e, _, d⟩ := (show h.IsListIter it a i from x); exact ⟨o, e, fun v q => by rw [d] at q; cases q⟩
  | false => obtain ⟨o, e, _, d⟩ := (show h.IsTupleIter it a i from x); exact ⟨o, e, fun v q => by rw [d] at q; cases q⟩
theorem IterB.at {b : Bool} {h h' : Heap} {it a : Addr} {i : Nat} (x : IterB b h it a i) (k : ∀ o, h.get? it = some o → h'.get? it = some o) : IterB b h' it a i := by
  cases b with
  | true => exact (show h.IsListIter it a i from x).at k
  | false => exact (show h.IsTupleIter it a i from x).at k
theorem drawsB {prog : Program} {w : World} {A : Around} (hh : A.handled = none) (b : Bool) (it a : Addr) (hne : a ≠ it) (items : Array Value) :
    Draws prog w A it [it, a] items.size (fun i v => items[i]? = some v) (fun i h => IterB b h it a i ∧ SeqB b h a items) := by
  cases b with
  | true => exact Draws.list hh it a hne items
  | false => exact Draws.tuple hh it a hne items
section
variable {X : Cx} {pins : List (Addr × Obj)} {σ : L2.St} {H : Hp} {s : Shared} {a : Addr} {xs ys : List V}
theorem seqB_of {b : Bool} (I : Inv X pins σ H s) (h : SqB X.K b H a xs) : ∃ its : List Value, Vals xs its ∧ SeqB b s.heap a its.toArray ∧ xs.length ≤ sizeLine ∧ a < s.heap.objs.size := by
  cases b with
  | true => obtain ⟨its, r, p, z⟩ := I.list h; exact ⟨its, r, p.isList, z, p.lt⟩
  | false => obtain ⟨its, r, p, z⟩ := I.tuple h; exact ⟨its, r, p, z, p.lt⟩
theorem seqB_inj {b : Bool} (I : Inv X pins σ H s) (h : SqB X.K b H a xs) (h' : SqB X.K b H a ys) : xs = ys := by
  cases b with
  | true => exact I.list_inj h h'
  | false => exact I.tuple_inj h h'
end
def ItzB (K : PySem.W.Frag) (b1 b2 : Bool) (a b : Addr) : It :=
  ⟨fun i H => ∃ (xs ys : List V) (x y : V), SqB K b1 H a xs ∧ SqB K b2 H b ys ∧ xs[i]? = some x ∧ ys[i]? = some y,
    fun i H v H' => ∃ T x y, v = .ref T ∧ H T = none ∧ H' = upd H T (.tup [x, y]) ∧ (∀ xs, SqB K b1 H a xs → xs[i]? = some x) ∧ ∀ ys, SqB K b2 H b ys → ys[i]? = some y,
    fun i H => ∃ xs ys : List V, SqB K b1 H a xs ∧ SqB K b2 H b ys ∧ i ≤ xs.length ∧ i ≤ ys.length ∧ (i = xs.length ∨ i = ys.length)⟩
theorem turn_zipB {P : Program} {w : World} {K : PySem.W.Frag} {elts : List Expr} {kk : Nat} {tpos : Pos} {a b z TI TO i1 i2 : Addr} (b1 b2 : Bool) (S : ZipSep2 z TI TO i1 i2 [i1, a] [i2, b]) (ha : a ≠ i1) (hb : b ≠ i2) :
    Turn P w K (.Tuple elts kk tpos) (ItzB K b1 b2 a b) [z, TI, TO, i1, i2] z (fun i h => IsZip h z TI TO .none ∧ IsTupOf2 h TI (.ref i1) (.ref i2) ∧ (∃ x y, IsTupOf2 h TO x y) ∧ IterB b1 h i1 a i ∧ IterB b2 h i2 b i) where
  mem := by simp
  obj := fun i h st c hc => by
    obtain ⟨hz, hTI, ⟨x, y, hTO⟩, h1, h2⟩ := st
    have e' : c = z ∨ c = TI ∨ c = TO ∨ c = i1 ∨ c = i2 := by simpa using hc
    rcases e' with q | q | q | q | q
    · rw [q]; exact ⟨_, hz, fun v q => nomatch q⟩
    · rw [q]; exact ⟨_, hTI, fun v q => nomatch q⟩
    · rw [q]; exact ⟨_, hTO, fun v q => nomatch q⟩
    · rw [q]; exact h1.lt
    · rw [q]; exact h2.lt
  keep := fun i h h' st k => by
    obtain ⟨hz, hTI, ⟨x, y, hTO⟩, h1, h2⟩ := st
    exact ⟨k z (by simp) _ hz, k TI (by simp) _ hTI, ⟨x, y, k TO (by simp) _ hTO⟩, h1.at fun o q => k i1 (by simp) o q, h2.at fun o q => k i2 (by simp) o q⟩
  item := by
    intro X hP hw hK hc i pins s σ H E I hf st hg
    subst hP hw hK
    obtain ⟨hz, hTI, ⟨x0, y0, hTO⟩, h1, h2⟩ := st
    obtain ⟨xs, ys, x, y, hqx, hqy, hx, hy⟩ := hg
    obtain ⟨its, rv, p, _⟩ := seqB_of I hqx
    obtain ⟨its2, rv2, p2, _⟩ := seqB_of I hqy
    obtain ⟨u, hu, ru⟩ := rv.get hx
    obtain ⟨u2, hu2, ru2⟩ := rv2.get hy
    have hzl : z < s.heap.objs.size := Heap.lt_size hz
    have l1 : i < its.toArray.size := by rw [List.size_toArray]; exact (List.getElem?_eq_some_iff.mp hu).1
    have l2 : i < its2.toArray.size := by rw [List.size_toArray]; exact (List.getElem?_eq_some_iff.mp hu2).1
    refine wpAny_pyNext_zipD2_item S (drawsB (A := X.A.in1) (I.ok.hd hc) b1 i1 a ha its.toArray) (drawsB (A := X.A.in1) (I.ok.hd hc) b2 i2 b hb its2.toArray) hz hTI hTO ⟨h1, p⟩ ⟨h2, p2⟩ l1 l2 fun v1 v2 h' tk e1 e2 z' TO' st1 st2 hT hsz hk => ?_
    have ev1 : v1 = u := by
      have : its[i]? = some v1 := by simpa using e1
      rw [hu] at this; exact (Option.some.inj this).symm
    have ev2 : v2 = u2 := by
      have : its2[i]? = some v2 := by simpa using e2
      rw [hu2] at this; exact (Option.some.inj this).symm
    subst ev1 ev2
    obtain ⟨h1', _⟩ := st1
    obtain ⟨h2', _⟩ := st2
    refine ⟨_, rfl, wpAny_letOwnedTupleGo_zip (s := { s with heap := h', toks := tk }) z' fun h'' z'' sb => ?_⟩
    have hT2 : h''.get? s.heap.objs.size = some { cls := .type "tuple", data := .seq #[v1, v2] } := (sb.2 _ (Nat.ne_of_gt hzl)).trans hT
    have new : ObjOk X.prog X.w (upd H s.heap.objs.size (.tup [x, y])) h'' s.heap.objs.size (.tup [x, y]) :=
      ⟨by show 2 ≤ sizeLine; decide, [v1, v2], .cons ru (.cons ru2 .nil), ⟨_, hT2, rfl, _, rfl⟩⟩
    have I1 : Inv X pins σ (upd H s.heap.objs.size (.tup [x, y])) { s with heap := h'', toks := tk } :=
      I.turnedNew (t' := tk) (ch := [z, TI, TO, i1, i2]) (fun c o hb q => (sb.2 c (fun q' => hb (by simp [q']))).trans (hk c o (fun q' => hb (by simp [q'])) (fun q' => hb (by simp [q'])) (fun q' => hb (by simp [q'])) (fun q' => hb (by simp [q'])) q)) hf (Nat.le_refl _) new
    refine ⟨.ref s.heap.objs.size, _, I1, rfl, ⟨_, x, y, rfl, I.hok.fresh (Nat.le_refl _), rfl, fun l hl => by rw [seqB_inj I hl hqx]; exact hx, fun l hl => by rw [seqB_inj I hl hqy]; exact hy⟩, ⟨z'', ?_, ⟨v1, v2, ?_⟩, ?_, ?_⟩, fun c hcm => ?_⟩
    · exact (sb.2 _ S.TIz).trans (hk _ _ S.TIz S.TITO S.TIi1 S.TIi2 hTI)
    · exact (sb.2 _ S.TOz).trans TO'
    · exact h1'.at fun o q => (sb.2 _ (Ne.symm S.zi1)).trans q
    · exact h2'.at fun o q => (sb.2 _ (Ne.symm S.zi2)).trans q
    · have hlt : c < s.heap.objs.size := by
        have e' : c = z ∨ c = TI ∨ c = TO ∨ c = i1 ∨ c = i2 := by simpa using hcm
        rcases e' with q | q | q | q | q
        · rw [q]; exact hzl
        · rw [q]; exact Heap.lt_size hTI
        · rw [q]; exact Heap.lt_size hTO
        · rw [q]; obtain ⟨_, e1, _⟩ := h1.lt; exact Heap.lt_size e1
        · rw [q]; obtain ⟨_, e2, _⟩ := h2.lt; exact Heap.lt_size e2
      rw [upd_ne (Nat.ne_of_lt hlt)]
      exact (hf c hcm).1
  done := by
    intro X hP hw hK hc i pins s σ H E I hf st hg
    subst hP hw hK
    obtain ⟨hz, hTI, ⟨x0, y0, hTO⟩, h1, h2⟩ := st
    obtain ⟨xs, ys, hqx, hqy, hl1, hl2, hend⟩ := hg
    obtain ⟨its, rv, p, _⟩ := seqB_of I hqx
    obtain ⟨its2, rv2, p2, _⟩ := seqB_of I hqy
    have l1 := rv.length
    have l2 := rv2.length
    have z1 : its.toArray.size = its.length := List.size_toArray
    have z2 : its2.toArray.size = its2.length := List.size_toArray
    exact wpAny_pyNext_zipD2_end S (drawsB (A := X.A.in1) (I.ok.hd hc) b1 i1 a ha its.toArray) (drawsB (A := X.A.in1) (I.ok.hd hc) b2 i2 b hb its2.toArray) hz hTI hTO ⟨h1, p⟩ ⟨h2, p2⟩ (by omega) (by omega) (by omega) fun h' tk hk => ⟨rfl, I.turnedL (t' := tk) (ch := [z, TI, TO, i1, i2]) (fun c o hb q =>
      hk c o (fun q' => hb (by simp [q'])) (fun q' => hb (by simp [q'])) (fun q' => hb (by simp [q'])) (fun q' => hb (by simp [q'])) q) hf⟩
  self := fun A i s Q E st h => wpAny_pyIter_zip st.1 h

def iZipB (K : PySem.W.Frag) (ta : TA) : TI := fun σ H R => ta σ H fun vs H1 => ∃ a b xs ys b1 b2, vs = [.ref a, .ref b] ∧ SqB K b1 H1 a xs ∧ SqB K b2 H1 b ys ∧ R (ItzB K b1 b2 a b) H1
theorem beginsB (b : Bool) (a : Addr) (items : Array Value) : ∃ o, Begins (.ref a) o (fun h => SeqB b h a items) ∧ ∀ h it, h.get? it = some o → IterB b h it a 0 := by
  cases b with
  | true => exact ⟨_, begins_list a items, fun h it e => ⟨_, e, rfl, rfl⟩⟩
  | false => exact ⟨_, begins_tuple a items, fun h it e => ⟨_, e, rfl, rfl⟩⟩
theorem pi_zipB {X : Cx} {e e2 : Expr} {ta : TA} {p pos tpos : Pos} {elts : List Expr} {kk : Nat} (hg : Gl X "zip") (hm : X.mg "zip" = none) (ha : PA X [e, e2] ta)
    (hs : starEach [e, e2] X.env = (false, eval e X.env) :: starEach [e2] X.env) (hpl : (backTo pos (starEach [e2] X.env)).any (·.1) = false) :
    PI X (.Tuple elts kk tpos) (.Call (.Name "zip" p) [e, e2] [] pos) (iZipB X.K ta) := by
  refine ⟨fun pins s σ H R I h => ?_⟩
  refine Call_ (ld_blt I hg hm PyProof.Rows.boot_zip (PyProof.Rows.callWith_type1 (thn (ha.run pos pins s σ H _ I h) fun us s1 ⟨vs, H1, I1, r1, q1⟩ => ?_) hs hpl))
  obtain ⟨a, b, xs, ys, b1, b2, ex, hqx, hqy, q⟩ := q1
  subst ex
  cases r1 with
  | cons r rr =>
    cases rr with
    | cons r' rr =>
      cases rr
      cases r
      cases r'
      obtain ⟨its, rv, p1, _, la⟩ := seqB_of I1 hqx
      obtain ⟨its2, rv2, p2, _, lb⟩ := seqB_of I1 hqy
      obtain ⟨o1, B1, i1⟩ := beginsB b1 a its.toArray
      obtain ⟨o2, B2, i2⟩ := beginsB b2 b its2.toArray
      refine zip_begins2 B1 B2 p1 p2 fun h' hz hTI hTO h1 h2 hsz hk => wpAny_pyIter_zip hz ?_
      have I2 : Inv X pins σ H1 { s1 with heap := h' } := I1.kept (t' := s1.toks) hk
      refine ⟨s1.heap.objs.size + 4, [s1.heap.objs.size + 4, s1.heap.objs.size + 2, s1.heap.objs.size + 3, s1.heap.objs.size, s1.heap.objs.size + 1], _, _, H1, rfl, I2,
        turn_zipB b1 b2 (zip_sep2 (fp1 := [a]) (fp2 := [b]) (fun c hc => by rw [List.mem_singleton.mp hc]; exact la) (fun c hc => by rw [List.mem_singleton.mp hc]; exact lb)) (Nat.ne_of_lt la) (Nat.ne_of_lt (Nat.lt_succ_of_lt lb)), ⟨hz, hTI, ⟨_, _, hTO⟩, i1 _ _ h1, i2 _ _ h2⟩, fun c hcm => ?_, q⟩
      have e' : c = s1.heap.objs.size + 4 ∨ c = s1.heap.objs.size + 2 ∨ c = s1.heap.objs.size + 3 ∨ c = s1.heap.objs.size ∨ c = s1.heap.objs.size + 1 := by simpa using hcm
      have hle : s1.heap.objs.size ≤ c := by
        rcases e' with z | z | z | z | z
        · rw [z]; exact Nat.le_add_right _ _
        · rw [z]; exact Nat.le_add_right _ _
        · rw [z]; exact Nat.le_add_right _ _
        · rw [z]; exact Nat.le_refl _
        · rw [z]; exact Nat.le_add_right _ _
      exact I1.fpOk hle (I1.hok.fresh hle)
end SC

set_option Elab.async false
set_option linter.all false
set_option maxRecDepth 100000
namespace SC
open PySem PySem.Spec PyProof.Rows L2

/-! ### decidable equality of data -/
mutual
def D.beq : D → D → Bool
  | .non, .non => true
  | .bl a, .bl b => a == b
  | .int a, .int b => a == b
  | .str a, .str b => a == b
  | .tup a, .tup b => D.beqs a b
  | .lst a, .lst b => D.beqs a b
  | .ins c a, .ins d b => c == d && D.beqs a b
  | .dic k a, .dic l b => decide (k = l) && D.beqs a b
  | .scr a, .scr b => a == b
  | .cl a, .cl b => a == b
  | _, _ => false
def D.beqs : List D → List D → Bool
  | [], [] => true
  | a :: as, b :: bs => D.beq a b && D.beqs as bs
  | _, _ => false
end
mutual
theorem D.beq_refl : ∀ d : D, D.beq d d = true
  | .non => rfl
  | .bl _ => by simp [D.beq]
  | .int _ => by simp [D.beq]
  | .str _ => by simp [D.beq]
  | .tup a => by simp [D.beq, D.beqs_refl a]
  | .lst a => by simp [D.beq, D.beqs_refl a]
  | .ins c a => by simp [D.beq, D.beqs_refl a]
  | .dic k a => by simp [D.beq, D.beqs_refl a]
  | .scr a => by simp [D.beq]
  | .cl a => by simp [D.beq]
theorem D.beqs_refl : ∀ d : List D, D.beqs d d = true
  | [] => rfl
  | a :: as => by simp [D.beqs, D.beq_refl a, D.beqs_refl as]
end
mutual
theorem D.beq_eq : ∀ {d e : D}, D.beq d e = true → d = e
  | .non, e, h => by cases e <;> simp [D.beq] at h; rfl
  | .bl _, e, h => by cases e <;> simp [D.beq] at h; rw [h]
  | .int _, e, h => by cases e <;> simp [D.beq] at h; rw [h]
  | .str _, e, h => by cases e <;> simp [D.beq] at h; rw [h]
  | .tup a, e, h => by cases e <;> simp [D.beq] at h; rw [D.beqs_eq h]
  | .lst a, e, h => by cases e <;> simp [D.beq] at h; rw [D.beqs_eq h]
  | .ins c a, e, h => by cases e <;> simp [D.beq] at h; rw [h.1, D.beqs_eq h.2]
  | .dic k a, e, h => by cases e <;> simp [D.beq] at h; rw [h.1, D.beqs_eq h.2]
  | .scr a, e, h => by cases e <;> simp [D.beq] at h; rw [h]
  | .cl a, e, h => by cases e <;> simp [D.beq] at h; rw [h]
theorem D.beqs_eq : ∀ {d e : List D}, D.beqs d e = true → d = e
  | [], e, h => by cases e <;> simp [D.beqs] at h; rfl
  | a :: as, e, h => by cases e <;> simp [D.beqs] at h; rw [D.beq_eq h.1, D.beqs_eq h.2]
end
instance : DecidableEq D := fun a b => if h : D.beq a b = true then isTrue (D.beq_eq h) else isFalse fun e => h (by rw [e]; exact D.beq_refl b)

/-! ### what the mutable things and the tables bear -/
theorem tabs_upd {T : List (Addr × Str)} {H : Hp} {d : Addr} {o u : HO} (t : LamX.Tabs T H) (e : H d = some u) (m : Mu (some u)) : LamX.Tabs T (upd H d o) :=
  tabs_nt t fun a v ea nm => by rw [upd_ne (fun z => by rw [z, e] at ea; cases ea; exact nm m)]; exact ea
theorem Ke.upd {T : Cl} {H : Hp} {p : Addr} {o : HO} (m : Mu (H p)) : Ke T (fun a => a = p) H (upd H p o) := ⟨fun a u e n => .of (by rw [upd_ne n]; exact e), fun t => by
  cases q : H p with
  | none => rw [q] at m; exact m.elim
  | some u => rw [q] at m; exact tabs_upd t q m⟩
theorem MM.ext {T : Cl} {M : Ms} {H H' : Hp} (m : MM T M H) (e : Ext H H') : MM T M H' := ⟨fun a ma => by
  cases q : H a with
  | none => have := m.mu a ma; rw [q] at this; exact this.elim
  | some o => rw [e a o q]; have := m.mu a ma; rw [q] at this; exact this, m.ts.ext e⟩
theorem MM.put {T : Cl} {M : Ms} {H : Hp} {d : Addr} {o : HO} (m : MM T M H) (hm : M d) (ho : Mu (some o)) : MM T M (upd H d o) := ⟨fun a ma => by
  by_cases h : a = d
  · subst h; rw [upd_same]; exact ho
  · rw [upd_ne h]; exact m.mu a ma, by
  have md := m.mu d hm
  cases q : H d with
  | none => rw [q] at md; exact md.elim
  | some u => rw [q] at md; exact tabs_upd m.ts q md⟩
theorem MM.more {T : Cl} {M : Ms} {H : Hp} {d : Addr} {o : HO} (m : MM T M H) (hn : H d = none) (ho : Mu (some o)) : MM T (fun a => M a ∨ a = d) (upd H d o) := ⟨fun a ma => by
  by_cases h : a = d
  · subst h; rw [upd_same]; exact ho
  · rw [upd_ne h]
    exact ma.elim (m.mu a) fun z => absurd z h, m.ts.ext (Ext.new hn)⟩
/-! ### the slots without a frame -/
/-- a mutable slot's address -/
def Mad (ρ : Ev) (σ : Sg) (a : Addr) : Prop := ∃ (i : Nat) (s : Sl), ρ[i]? = some s ∧ s.mut = true ∧ σ[i]? = some (some (.ref a))
def SlK (K : PySem.W.Frag) (T : Cl) (M : Ms) (H : Hp) : Sl → Option V → Prop
  | .un, _ => True
  | .dat d, v => ∃ x, v = some x ∧ Dv K T M H d x
  | s, v => ∃ a, v = some (.ref a) ∧ M a ∧ MutAt K T M H a s
structure SE (K : PySem.W.Frag) (T : Cl) (M : Ms) (ρ : Ev) (σ : Sg) (H : Hp) : Prop where
  mm : MM T M H
  ln : ρ.length = σ.length
  sl : ∀ (i : Nat) (s : Sl), ρ[i]? = some s → ∃ v, σ[i]? = some v ∧ SlK K T M H s v
  ap : ∀ (i j : Nat) (s t : Sl) (v : Option V), ρ[i]? = some s → s.mut = true → ρ[j]? = some t → t.mut = true → σ[i]? = some v → σ[j]? = some v → i = j
theorem SlK.mutAt {K : PySem.W.Frag} {T : Cl} {M : Ms} {H : Hp} {s : Sl} {v : Option V} (h : SlK K T M H s v) (m : s.mut = true) : ∃ a, v = some (.ref a) ∧ M a ∧ MutAt K T M H a s := by
  cases s with
  | un => cases m
  | dat _ => cases m
  | own ds => exact h
  | obj c ds => exact h
theorem SlK.of_mut {K : PySem.W.Frag} {T : Cl} {M : Ms} {H : Hp} {s : Sl} {v : Option V} (m : s.mut = true) (h : ∃ a, v = some (.ref a) ∧ M a ∧ MutAt K T M H a s) : SlK K T M H s v := by
  cases s with
  | un => cases m
  | dat _ => cases m
  | own ds => exact h
  | obj c ds => exact h
theorem ER.se {F : Fx} {M : Ms} {ρ : Ev} {σ : Sg} {H : Hp} (R : ER F M ρ σ H) : SE F.K F.T M ρ σ H where
  mm := R.mm
  ln := R.ln
  sl := fun i s h => by
    obtain ⟨v, h1, h2⟩ := R.sl i s h
    refine ⟨v, h1, ?_⟩
    cases s with
    | un => trivial
    | dat d => exact h2
    | own ds => obtain ⟨a, e, m, _, q⟩ := h2; exact ⟨a, e, m, q⟩
    | obj c ds => obtain ⟨a, e, m, _, q⟩ := h2; exact ⟨a, e, m, q⟩
  ap := R.ap
theorem ER.mad {F : Fx} {M : Ms} {ρ : Ev} {σ : Sg} {H : Hp} (R : ER F M ρ σ H) {a : Addr} (h : Mad ρ σ a) : M a ∧ (F.P a ∨ F.H0 a = none) := by
  obtain ⟨i, s, h1, m, h2⟩ := h
  obtain ⟨v, e, q⟩ := R.sl i s h1
  obtain ⟨b, e2, m2, p, _⟩ := q.mut_at m
  rw [h2] at e
  cases e
  cases e2
  exact ⟨m2, p⟩
theorem SE.mad {K : PySem.W.Frag} {T : Cl} {M : Ms} {ρ : Ev} {σ : Sg} {H : Hp} (R : SE K T M ρ σ H) {a : Addr} (h : Mad ρ σ a) : M a := by
  obtain ⟨i, s, h1, m, h2⟩ := h
  obtain ⟨v, e, q⟩ := R.sl i s h1
  obtain ⟨b, e2, m2, _⟩ := q.mutAt m
  rw [h2] at e
  cases e
  cases e2
  exact m2
/-- from the slots to a frame -/
theorem ER.of_se {F : Fx} {M : Ms} {ρ : Ev} {σ : Sg} {H : Hp} (S : SE F.K F.T M ρ σ H) (m0 : ∀ a, F.M0 a → M a) (kp : Ke F.T F.P F.H0 H) (h0 : ∀ a, F.M0 a → F.H0 a ≠ none)
    (pm : ∀ a, Mad ρ σ a → F.P a ∨ F.H0 a = none) (pr : ∀ p ∈ F.pa, σ[p.1]? = some (some (.ref p.2)) ∧ ∃ s, ρ[p.1]? = some s ∧ s.mut = true) (pp : ∀ a, F.P a → F.M0 a) : ER F M ρ σ H where
  m0 := m0
  mm := S.mm
  kp := kp
  h0 := h0
  ln := S.ln
  sl := fun i s h => by
    obtain ⟨v, h1, h2⟩ := S.sl i s h
    refine ⟨v, h1, ?_⟩
    cases s with
    | un => trivial
    | dat d => exact h2
    | own ds => obtain ⟨a, e, m, q⟩ := h2; subst e; exact ⟨a, rfl, m, pm a ⟨i, _, h, rfl, h1⟩, q⟩
    | obj c ds => obtain ⟨a, e, m, q⟩ := h2; subst e; exact ⟨a, rfl, m, pm a ⟨i, _, h, rfl, h1⟩, q⟩
  ap := S.ap
  pr := pr
  pp := pp
/-- the mutable slots, written -/
def mads (ρ : Ev) (σ : Sg) : List (Nat × Addr) := (List.range ρ.length).filterMap fun (i : Nat) => match (ρ[i]? : Option Sl), (σ[i]? : Option (Option V)) with
  | some s, some (some (V.ref a)) => if s.mut = true then some (i, a) else none
  | _, _ => none
theorem mem_mads {ρ : Ev} {σ : Sg} {p : Nat × Addr} : p ∈ mads ρ σ ↔ ∃ s, ρ[p.1]? = some s ∧ s.mut = true ∧ σ[p.1]? = some (some (.ref p.2)) := by
  unfold mads
  rw [List.mem_filterMap]
  constructor
  · rintro ⟨i, hi, e⟩
    split at e
    · rename_i s a h1 h2
      split at e
      · cases e
        exact ⟨s, h1, by assumption, h2⟩
      · cases e
    · cases e
  · rintro ⟨s, h1, m, h2⟩
    refine ⟨p.1, List.mem_range.mpr (List.getElem?_eq_some_iff.mp h1).1, ?_⟩
    rw [h1, h2]
    simp [m]
/-- the frame in which all mutable slots are parameters -/
def subF (K : PySem.W.Frag) (T : Cl) (M : Ms) (ρ : Ev) (σ : Sg) (H : Hp) : Fx := ⟨K, T, M, mads ρ σ, H⟩
theorem subF_P {K : PySem.W.Frag} {T : Cl} {M : Ms} {ρ : Ev} {σ : Sg} {H : Hp} {a : Addr} : (subF K T M ρ σ H).P a ↔ Mad ρ σ a := by
  constructor
  · rintro ⟨i, h⟩
    obtain ⟨s, h1, h2, h3⟩ := mem_mads.mp h
    exact ⟨i, s, h1, h2, h3⟩
  · rintro ⟨i, s, h1, h2, h3⟩
    exact ⟨i, mem_mads.mpr ⟨s, h1, h2, h3⟩⟩
theorem SE.enter {K : PySem.W.Frag} {T : Cl} {M : Ms} {ρ : Ev} {σ : Sg} {H : Hp} (S : SE K T M ρ σ H) : ER (subF K T M ρ σ H) M ρ σ H :=
  ER.of_se S (fun _ z => z) Ke.rfl (fun a m e => by have := S.mm a m; rw [show H a = none from e] at this; exact this) (fun a h => .inl (subF_P.mpr h))
    (fun p hp => by obtain ⟨s, h1, h2, h3⟩ := mem_mads.mp hp; exact ⟨h3, s, h1, h2⟩) (fun a h => S.mad (subF_P.mp h))
/-- what a walk within such a frame leaves -/
structure Went (T : Cl) (M : Ms) (ρ ρ' : Ev) (σ : Sg) (H H' : Hp) : Prop where
  mad : ∀ a, Mad ρ' σ a → Mad ρ σ a
  mus : ∀ (i : Nat) (s : Sl), ρ[i]? = some s → s.mut = true → ∃ s', ρ'[i]? = some s' ∧ s'.mut = true
  kp : Ke T (Mad ρ σ) H H'
theorem Went.rfl {T : Cl} {M : Ms} {ρ : Ev} {σ : Sg} {H : Hp} : Went T M ρ ρ σ H H := ⟨fun _ z => z, fun i s h m => ⟨s, h, m⟩, Ke.rfl⟩
theorem Went.trans {T : Cl} {M : Ms} {ρ ρ1 ρ2 : Ev} {σ : Sg} {H H1 H2 : Hp} (a : Went T M ρ ρ1 σ H H1) (b : Went T M ρ1 ρ2 σ H1 H2) : Went T M ρ ρ2 σ H H2 :=
  ⟨fun c h => a.mad c (b.mad c h), fun i s h m => by obtain ⟨s1, h1, m1⟩ := a.mus i s h m; exact b.mus i s1 h1 m1, a.kp.trans b.kp fun c z => .inr (a.mad c z)⟩
theorem SE.leave {K : PySem.W.Frag} {T : Cl} {M M2 : Ms} {ρ ρ2 : Ev} {σ : Sg} {H H2 : Hp} (S : SE K T M ρ σ H) (R : ER (subF K T M ρ σ H) M2 ρ2 σ H2) (s : ∀ a, M2 a → M a) : SE K T M ρ2 σ H2 ∧ Went T M ρ ρ2 σ H H2 := by
  have eM : M2 = M := by
    funext a
    exact propext ⟨s a, R.m0 a⟩
  subst eM
  refine ⟨R.se, fun a h => ?_, fun i t h m => ?_, R.kp.imp fun a _ z => subF_P.mp z⟩
  · obtain ⟨m, p⟩ := R.mad h
    rcases p with p | p
    · exact subF_P.mp p
    · have := S.mm a m
      rw [show H a = none from p] at this
      exact this.elim
  · obtain ⟨v, e, q⟩ := S.sl i t h
    obtain ⟨a, e2, _, _⟩ := q.mutAt m
    subst e2
    exact (R.pr (i, a) (mem_mads.mpr ⟨t, h, m, e⟩)).2

/-! ### slots wiped, set -/
def wipeE (ρ : Ev) : List Nat → Ev
  | [] => ρ
  | v :: vs => (wipeE ρ vs).set v .un
/-- the slots at vs as in ρ1, the others as in ρ2 -/
def backE (ρ1 ρ2 : Ev) : List Nat → Ev
  | [] => ρ2
  | v :: vs => match ρ1[v]? with
    | some s => (backE ρ1 ρ2 vs).set v s
    | none => backE ρ1 ρ2 vs
theorem wipeE_length (ρ : Ev) : ∀ vs, (wipeE ρ vs).length = ρ.length
  | [] => rfl
  | v :: vs => by unfold wipeE; rw [List.length_set, wipeE_length ρ vs]
theorem wipeE_get (ρ : Ev) (i : Nat) : ∀ vs, (wipeE ρ vs)[i]? = if i ∈ vs then (if i < ρ.length then some .un else none) else ρ[i]?
  | [] => by simp [wipeE]
  | v :: vs => by
    unfold wipeE
    rw [List.getElem?_set, wipeE_length]
    by_cases h : v = i
    · subst h; simp
    · rw [if_neg h, wipeE_get ρ i vs]
      have : i ∈ v :: vs ↔ i ∈ vs := by simp [Ne.symm h]
      by_cases k : i ∈ vs
      · rw [if_pos k, if_pos (this.mpr k)]
      · rw [if_neg k, if_neg fun z => k (this.mp z)]
theorem backE_length (ρ1 ρ2 : Ev) : ∀ vs, (backE ρ1 ρ2 vs).length = ρ2.length
  | [] => rfl
  | v :: vs => by
    unfold backE
    cases ρ1[v]? with
    | none => exact backE_length ρ1 ρ2 vs
    | some s => show ((backE ρ1 ρ2 vs).set v s).length = _; rw [List.length_set, backE_length ρ1 ρ2 vs]
theorem backE_get (ρ1 ρ2 : Ev) (hl : ρ1.length = ρ2.length) (i : Nat) : ∀ vs, (backE ρ1 ρ2 vs)[i]? = if i ∈ vs then ρ1[i]? else ρ2[i]?
  | [] => by simp [backE]
  | v :: vs => by
    unfold backE
    cases e : ρ1[v]? with
    | none =>
      show (backE ρ1 ρ2 vs)[i]? = _
      rw [backE_get ρ1 ρ2 hl i vs]
      by_cases h : v = i
      · subst h
        have h2 : ρ2[v]? = none := by
          rw [List.getElem?_eq_none_iff] at e ⊢
          omega
        simp [e, h2]
      · have : i ∈ v :: vs ↔ i ∈ vs := by simp [Ne.symm h]
        by_cases k : i ∈ vs
        · rw [if_pos k, if_pos (this.mpr k)]
        · rw [if_neg k, if_neg fun z => k (this.mp z)]
    | some s =>
      show ((backE ρ1 ρ2 vs).set v s)[i]? = _
      rw [List.getElem?_set, backE_length]
      by_cases h : v = i
      · subst h
        have hv : v < ρ2.length := by
          have := (List.getElem?_eq_some_iff.mp e).1
          omega
        simp [e, hv]
      · rw [if_neg h, backE_get ρ1 ρ2 hl i vs]
        have : i ∈ v :: vs ↔ i ∈ vs := by simp [Ne.symm h]
        by_cases k : i ∈ vs
        · rw [if_pos k, if_pos (this.mpr k)]
        · rw [if_neg k, if_neg fun z => k (this.mp z)]
theorem wipe_get (σ : Sg) (i : Nat) : ∀ vs, (wipe σ vs)[i]? = if i ∈ vs then (if i < σ.length then some none else none) else σ[i]?
  | [] => by simp [wipe]
  | v :: vs => by
    unfold wipe
    rw [List.getElem?_set, wipe_length]
    by_cases h : v = i
    · subst h; simp
    · rw [if_neg h, wipe_get σ i vs]
      have : i ∈ v :: vs ↔ i ∈ vs := by simp [Ne.symm h]
      by_cases k : i ∈ vs
      · rw [if_pos k, if_pos (this.mpr k)]
      · rw [if_neg k, if_neg fun z => k (this.mp z)]
section
variable {K : PySem.W.Frag} {T : Cl} {M : Ms} {ρ : Ev} {σ : Sg} {H : Hp}
theorem SE.wipe (S : SE K T M ρ σ H) (vs : List Nat) : SE K T M (wipeE ρ vs) (L2.wipe σ vs) H where
  mm := S.mm
  ln := by rw [wipeE_length, wipe_length]; exact S.ln
  sl := fun i s h => by
    rw [wipeE_get] at h
    rw [wipe_get]
    by_cases k : i ∈ vs
    · rw [if_pos k] at h ⊢
      split at h
      · rename_i hl
        cases h
        exact ⟨none, by rw [if_pos (by rw [← S.ln]; exact hl)], trivial⟩
      · cases h
    · rw [if_neg k] at h ⊢
      exact S.sl i s h
  ap := fun i j s t v h1 m1 h2 m2 e1 e2 => by
    rw [wipeE_get] at h1 h2
    rw [wipe_get] at e1 e2
    have k1 : i ∉ vs := fun k => by
      rw [if_pos k] at h1
      split at h1
      · cases h1; cases m1
      · cases h1
    have k2 : j ∉ vs := fun k => by
      rw [if_pos k] at h2
      split at h2
      · cases h2; cases m2
      · cases h2
    rw [if_neg k1] at h1 e1
    rw [if_neg k2] at h2 e2
    exact S.ap i j s t v h1 m1 h2 m2 e1 e2
theorem Mad.of_wipe {vs : List Nat} {a : Addr} (h : Mad (wipeE ρ vs) (L2.wipe σ vs) a) : Mad ρ σ a ∧ ∀ (i : Nat) (s : Sl), (wipeE ρ vs)[i]? = some s → s.mut = true → (L2.wipe σ vs)[i]? = some (some (.ref a)) → i ∉ vs ∧ ρ[i]? = some s ∧ σ[i]? = some (some (.ref a)) := by
  have key : ∀ (i : Nat) (s : Sl), (wipeE ρ vs)[i]? = some s → s.mut = true → (L2.wipe σ vs)[i]? = some (some (.ref a)) → i ∉ vs ∧ ρ[i]? = some s ∧ σ[i]? = some (some (.ref a)) := fun i s h1 m h2 => by
    rw [wipeE_get] at h1
    rw [wipe_get] at h2
    have k1 : i ∉ vs := fun k => by
      rw [if_pos k] at h1
      split at h1
      · cases h1; cases m
      · cases h1
    rw [if_neg k1] at h1 h2
    exact ⟨k1, h1, h2⟩
  refine ⟨?_, key⟩
  obtain ⟨i, s, h1, m, h2⟩ := h
  obtain ⟨_, h3, h4⟩ := key i s h1 m h2
  exact ⟨i, s, h3, m, h4⟩
/-- a slot gets data -/
theorem SE.setDat (S : SE K T M ρ σ H) {i : Nat} {d : D} {v : V} (h : Dv K T M H d v) : SE K T M (ρ.set i (.dat d)) (σ.set i (some v)) H where
  mm := S.mm
  ln := by rw [List.length_set, List.length_set]; exact S.ln
  sl := fun j s e => by
    rw [List.getElem?_set] at e ⊢
    by_cases k : i = j
    · subst k
      rw [if_pos rfl] at e ⊢
      split at e
      · rename_i hl
        cases e
        exact ⟨some v, by rw [if_pos (by rw [← S.ln]; exact hl)], v, rfl, h⟩
      · cases e
    · rw [if_neg k] at e ⊢
      exact S.sl j s e
  ap := fun j l s t u h1 m1 h2 m2 e1 e2 => by
    rw [List.getElem?_set] at h1 h2 e1 e2
    have k1 : i ≠ j := fun k => by
      rw [if_pos k] at h1
      split at h1
      · cases h1; cases m1
      · cases h1
    have k2 : i ≠ l := fun k => by
      rw [if_pos k] at h2
      split at h2
      · cases h2; cases m2
      · cases h2
    rw [if_neg k1] at h1 e1
    rw [if_neg k2] at h2 e2
    exact S.ap j l s t u h1 m1 h2 m2 e1 e2
theorem Mad.of_setDat {i : Nat} {d : D} {v : V} {a : Addr} (h : Mad (ρ.set i (.dat d)) (σ.set i (some v)) a) : Mad ρ σ a := by
  obtain ⟨j, s, h1, m, h2⟩ := h
  rw [List.getElem?_set] at h1 h2
  have k1 : i ≠ j := fun k => by
    rw [if_pos k] at h1
    split at h1
    · cases h1; cases m
    · cases h1
  rw [if_neg k1] at h1 h2
  exact ⟨j, s, h1, m, h2⟩
theorem ER.setDat {F : Fx} (R : ER F M ρ σ H) {i : Nat} {d : D} {v : V} (h : Dv F.K F.T M H d v) (hi : ∀ a, (i, a) ∉ F.pa) : ER F M (ρ.set i (.dat d)) (σ.set i (some v)) H :=
  ER.of_se (R.se.setDat h) R.m0 R.kp R.h0 (fun a m => (R.mad (Mad.of_setDat m)).2) (fun p hp => by
    have k : i ≠ p.1 := fun k => hi p.2 (by rw [k]; exact hp)
    rw [List.getElem?_set_ne k, List.getElem?_set_ne k]
    exact R.pr p hp) R.pp
end

/-! ### targets -/
inductive Pt where
  | nm (i : Nat) | tp (is : List Nat)
def Pt.slots : Pt → List Nat
  | .nm i => [i]
  | .tp is => is
def setsE : Ev → List Nat → List D → Option Ev
  | ρ, [], [] => some ρ
  | ρ, i :: is, d :: ds => setsE (ρ.set i (.dat d)) is ds
  | _, _, _ => none
def bindPt : Pt → D → Ev → Option Ev
  | .nm i, d, ρ => some (ρ.set i (.dat d))
  | .tp is, .tup ds, ρ => setsE ρ is ds
  | _, _, _ => none
/-- the reading of a target: the frame's own parameters are not among its slots -/
def TGd (F : Fx) (p : Pt) : TG := fun v σ H Q => ∃ M ρ d ρ', ER F M ρ σ H ∧ Dv F.K F.T M H d v ∧ bindPt p d ρ = some ρ' ∧ (∀ i ∈ p.slots, ∀ a, (i, a) ∉ F.pa) ∧
  ∀ σ', ER F M ρ' σ' H → (∀ j, j ∉ p.slots → σ'[j]? = σ[j]?) → Q σ' H
theorem PG.imp {X : Cx} {tg : Expr} {t t' : TG} (h : PG X tg t) (g : ∀ v σ H Q, t' v σ H Q → t v σ H Q) : PG X tg t' := ⟨fun pins s σ H v u Q I r hw => h.run pins s σ H v u Q I r (g _ _ _ _ hw)⟩
theorem PGs.imp {X : Cx} {tg : List Expr} {t t' : TGs} (h : PGs X tg t) (g : ∀ v σ H Q, t' v σ H Q → t v σ H Q) : PGs X tg t' := ⟨fun pins s σ H v u Q I r hw => h.run pins s σ H v u Q I r (g _ _ _ _ hw)⟩
def TGsd (F : Fx) (is : List Nat) : TGs := fun vs σ H Q => ∃ M ρ ds ρ', ER F M ρ σ H ∧ DvS F.K F.T M H ds vs ∧ setsE ρ is ds = some ρ' ∧ (∀ i ∈ is, ∀ a, (i, a) ∉ F.pa) ∧
  ∀ σ', ER F M ρ' σ' H → (∀ j, j ∉ is → σ'[j]? = σ[j]?) → Q σ' H
section
variable {X : Cx} {F : Fx} {pos : Pos}
theorem dg_name {i : Nat} {x : Str} (hN : X.N.Nodup) (hi : X.N[i]? = some x) (hx : Loc X.env.scope x) (hf : X.fn x = true ∨ X.env.scope.names.lookup x = some .local) : PG X (.Name x pos) (TGd F (.nm i)) := by
  refine PG.imp (pg_name hN hi hx hf) ?_
  rintro v σ H Q ⟨M, ρ, d, ρ', R, dv, e, hp, q⟩
  cases e
  exact q _ (R.setDat dv (hp i List.mem_cons_self)) fun j hj => List.getElem?_set_ne (fun e => hj (by simp [Pt.slots, e]))
theorem dgs_nil : PGs X [] (TGsd F []) := by
  refine PGs.imp pgs_nil ?_
  rintro vs σ H Q ⟨M, ρ, ds, ρ', R, dv, e, hp, q⟩
  cases ds with
  | nil =>
    cases e
    exact ⟨dv, q σ R fun _ _ => rfl⟩
  | cons _ _ => cases e
theorem dgs_cons {i : Nat} {is : List Nat} {e : Expr} {es : List Expr} (h1 : PG X e (TGd F (.nm i))) (h2 : PGs X es (TGsd F is))
    (hs : (assignEach (e :: es) X.env).map (·.2) = assign e X.env :: (assignEach es X.env).map (·.2)) : PGs X (e :: es) (TGsd F (i :: is)) := by
  refine PGs.imp (pgs_cons h1 h2 hs) ?_
  rintro vs σ H Q ⟨M, ρ, ds, ρ', R, dv, e, hp, q⟩
  cases ds with
  | nil => cases e
  | cons d ds =>
    obtain ⟨x, r, rfl, h3, h4⟩ := dv
    refine ⟨x, r, rfl, M, ρ, d, _, R, h3, rfl, fun j hj a => hp j (by simp only [Pt.slots, List.mem_singleton] at hj; simp [hj]) a, fun σ1 R1 k1 => ?_⟩
    refine ⟨M, _, ds, ρ', R1, h4, e, fun j hj a => hp j (List.mem_cons_of_mem _ hj) a, fun σ2 R2 k2 => q σ2 R2 fun j hj => ?_⟩
    simp only [List.mem_cons, not_or] at hj
    exact (k2 j hj.2).trans (k1 j (by simp [Pt.slots, hj.1]))
theorem dg_tup {is : List Nat} {es : List Expr} {k : Nat} (hK : F.K = X.K) (hc : X.calm = true) (h : PGs X es (TGsd F is)) (hl : es.length = is.length)
    (hn : (assignEach es X.env).length = es.length) (hst : (assignEach es X.env).findIdx? (·.1) = none) : PG X (.Tuple es k pos) (TGd F (.tp is)) := by
  obtain ⟨K, T, M0, pa, H0⟩ := F
  cases hK
  refine PG.imp (pg_tup (n := es.length) hc h hn hst) ?_
  rintro v σ H Q ⟨M, ρ, d, ρ', R, dv, e, hp, q⟩
  cases d with
  | tup ds =>
    obtain ⟨a, xs, rfl, ha, ra⟩ := dv
    have e' : setsE ρ is ds = some ρ' := e
    have len : ∀ (is : List Nat) (ds : List D) (ρ ρ' : Ev), setsE ρ is ds = some ρ' → is.length = ds.length := by
      intro is
      induction is with
      | nil => intro ds ρ ρ' h; cases ds with
        | nil => rfl
        | cons _ _ => cases h
      | cons i is ih => intro ds ρ ρ' h; cases ds with
        | nil => cases h
        | cons d ds => simp [ih ds _ _ h]
    exact ⟨a, xs, rfl, ha, by rw [← ra.length, ← len is ds ρ ρ' e', hl], M, ρ, ds, ρ', R, ra, e', hp, q⟩
  | _ => cases e
end
end SC

set_option Elab.async false
set_option linter.all false
set_option maxRecDepth 100000
namespace SC
open PySem PySem.Spec PyProof.Rows L2

/-! ### what is walked -/
abbrev FS := Ev → Option (List D × List Opd × Ev)
def ItOk (F : Fx) (J : It) (ds es : List D) (vs : List V) : Prop := ∀ (M : Ms) (H : Hp) (i : Nat), (∀ a, M a → Mu (H a)) → DoS F M H es vs →
  (∀ d, ds[i]? = some d → J.go i H ∧ ∀ x H', J.yld i H x H' → Ext H H' ∧ Dv F.K F.T M H' d x) ∧ (i = ds.length → J.stop i H)
def TId (F : Fx) (f : FS) : TI := fun σ H R => ∃ M ρ ds os ρ', ER F M ρ σ H ∧ f ρ = some (ds, os, ρ') ∧
  ∀ J vs es M' H', (∀ a, M' a → M a) → ER F M' ρ' σ H' → Keep M H H' → OpdsOk F M' H' σ os vs → getAll ρ' os = some es → ItOk F J ds es vs → R J H'
theorem PI.imp {X : Cx} {tg e : Expr} {t t' : TI} (h : PI X tg e t) (g : ∀ σ H Q, t' σ H Q → t σ H Q) : PI X tg e t' := ⟨fun pins s σ H R I hw => h.run pins s σ H R I (g _ _ _ hw)⟩
theorem PI.or {X : Cx} {tg e : Expr} {t t' : TI} (h : PI X tg e t) (h' : PI X tg e t') : PI X tg e (fun σ H R => t σ H R ∨ t' σ H R) := ⟨fun pins s σ H R I hw => by
  rcases hw with hw | hw
  · exact h.run pins s σ H R I hw
  · exact h'.run pins s σ H R I hw⟩
/-- the items of a thing that is walked by itself -/
def walkD : D → Option (List D)
  | .lst ds => some ds
  | .tup ds => some ds
  | .scr ns => some (ns.map .int)
  | .str z => some (z.cps.toList.map fun c => .str ⟨#[c]⟩)
  | _ => none
def sItm (fa : FE) : FS := fun ρ =>
  match fa ρ with
  | none => none
  | some (o, ρ1) => match o.get ρ1 with
    | none => none
    | some d => match walkD d with
      | none => none
      | some ds => some (ds, [o], ρ1)
theorem getAll1 {ρ : Ev} {o : Opd} {d : D} (h : o.get ρ = some d) : getAll ρ [o] = some [d] := by
  simp only [getAll, h]
theorem getAll_one {ρ : Ev} {o : Opd} {es : List D} (h : getAll ρ [o] = some es) : ∃ d, o.get ρ = some d ∧ es = [d] := by
  simp only [getAll] at h
  split at h
  · rename_i d ds g1 g2
    cases g2
    cases h
    exact ⟨d, g1, rfl⟩
  · cases h
section
variable {X : Cx} {F : Fx} {tg a b : Expr} {fa fb : FE} {pos : Pos}
theorem itOk_lst {ds : List D} {p : Addr} : ItOk F (Itl F.K p) ds [.lst ds] [.ref p] := by
  intro M H i mm hd
  obtain ⟨v, e, h⟩ := paired1 hd
  cases e
  obtain ⟨a, us, e, ha, ra⟩ := h.lst
  cases e
  refine ⟨fun d hdi => ⟨?_, ?_⟩, fun e => ⟨us, SqL.of ha, by rw [e, ra.length]; exact Nat.le_refl _⟩⟩
  · obtain ⟨x, hx, _⟩ := ra.getD hdi
    exact ⟨us, x, SqL.of ha, hx⟩
  · rintro x H' ⟨rfl, hx⟩
    obtain ⟨d', h1, h2⟩ := ra.get (hx us (SqL.of ha))
    rw [hdi] at h1
    cases h1
    exact ⟨Ext.rfl, h2⟩
theorem itOk_tup {ds : List D} {p : Addr} : ItOk F (Itt F.K p) ds [.tup ds] [.ref p] := by
  intro M H i mm hd
  obtain ⟨v, e, h⟩ := paired1 hd
  cases e
  obtain ⟨a, us, e, ha, ra⟩ := h.tup
  cases e
  refine ⟨fun d hdi => ⟨?_, ?_⟩, fun e => ⟨us, ha, by rw [e, ra.length]; exact Nat.le_refl _⟩⟩
  · obtain ⟨x, hx, _⟩ := ra.getD hdi
    exact ⟨us, x, ha, hx⟩
  · rintro x H' ⟨rfl, hx⟩
    obtain ⟨d', h1, h2⟩ := ra.get (hx us ha)
    rw [hdi] at h1
    cases h1
    exact ⟨Ext.rfl, h2⟩
theorem itOk_scr {ns : List Int} {p : Addr} : ItOk F (Itl F.K p) (ns.map .int) [.scr ns] [.ref p] := by
  intro M H i mm hd
  obtain ⟨v, e, h⟩ := paired1 hd
  cases e
  obtain ⟨a, e, ha⟩ := h.scr
  cases e
  refine ⟨fun d hdi => ⟨?_, ?_⟩, fun e => ⟨_, ha, by rw [e, List.length_map, List.length_map]; exact Nat.le_refl _⟩⟩
  · obtain ⟨x, hx, _⟩ := (DvS.of_ints (K := F.K) (T := F.T) (M := M) (H := H) ns).getD hdi
    exact ⟨_, x, ha, hx⟩
  · rintro x H' ⟨rfl, hx⟩
    obtain ⟨d', h1, h2⟩ := (DvS.of_ints (K := F.K) (T := F.T) (M := M) (H := H') ns).get (hx _ ha)
    rw [hdi] at h1
    cases h1
    exact ⟨Ext.rfl, h2⟩
theorem itOk_str {z : Str} : ItOk F (Its z) (z.cps.toList.map fun c => .str ⟨#[c]⟩) [.str z] [.str z] := by
  intro M H i mm hd
  refine ⟨fun d hdi => ⟨?_, ?_⟩, fun e => ?_⟩
  · have := (List.getElem?_eq_some_iff.mp hdi).1
    rw [List.length_map, Array.length_toList] at this
    exact this
  · rintro x H' ⟨rfl, c, hc, rfl⟩
    rw [List.getElem?_map, Array.getElem?_toList, hc] at hdi
    cases hdi
    exact ⟨Ext.rfl, rfl⟩
  · show z.cps.size ≤ i
    rw [e, List.length_map, Array.length_toList]
    exact Nat.le_refl _
theorem di_itm (hK : F.K = X.K) (h : PE X a (TEd F fa)) : PI X tg a (TId F (sItm fa)) := by
  obtain ⟨K, T, M0, pa, H0⟩ := F
  cases hK
  refine PI.imp (PI.or (pi_list h) (PI.or (pi_tup h) (pi_str h))) ?_
  rintro σ H R ⟨M, ρ, ds, os, ρ', E, hf, q⟩
  unfold sItm at hf
  cases e1 : fa ρ with
  | none => rw [e1] at hf; cases hf
  | some p1 =>
    obtain ⟨o1, ρ1⟩ := p1
    rw [e1] at hf
    simp only at hf
    cases g1 : o1.get ρ1 with
    | none => rw [g1] at hf; cases hf
    | some d =>
      rw [g1] at hf
      simp only at hf
      cases d with
      | lst es =>
        cases hf
        exact .inl ⟨M, ρ, o1, _, E, e1, fun v M1 H1 s1 R1 k1 ok1 => by
          obtain ⟨a, us, rfl, ha, ra⟩ := (R1.opd ok1 g1).lst
          exact ⟨a, rfl, ⟨us, SqL.of ha⟩, q _ [.ref a] _ M1 H1 s1 R1 k1 (.cons ok1 .nil) (getAll1 g1) itOk_lst⟩⟩
      | tup es =>
        cases hf
        exact .inr (.inl ⟨M, ρ, o1, _, E, e1, fun v M1 H1 s1 R1 k1 ok1 => by
          obtain ⟨a, us, rfl, ha, ra⟩ := (R1.opd ok1 g1).tup
          exact ⟨a, rfl, ⟨us, ha⟩, q _ [.ref a] _ M1 H1 s1 R1 k1 (.cons ok1 .nil) (getAll1 g1) itOk_tup⟩⟩)
      | scr es =>
        cases hf
        exact .inl ⟨M, ρ, o1, _, E, e1, fun v M1 H1 s1 R1 k1 ok1 => by
          obtain ⟨a, rfl, ha⟩ := (R1.opd ok1 g1).scr
          exact ⟨a, rfl, ⟨_, ha⟩, q _ [.ref a] _ M1 H1 s1 R1 k1 (.cons ok1 .nil) (getAll1 g1) itOk_scr⟩⟩
      | str z =>
        cases hf
        exact .inr (.inr ⟨M, ρ, o1, _, E, e1, fun v M1 H1 s1 R1 k1 ok1 => by
          cases (R1.opd ok1 g1).str
          exact ⟨z, rfl, q _ [.str z] _ M1 H1 s1 R1 k1 (.cons ok1 .nil) (getAll1 g1) itOk_str⟩⟩)
      | _ => cases hf
/-- range -/
def rangeD (lo : Int) (n : Nat) : List D := (List.range n).map fun i => .int (lo + (i : Nat))
def sRng (fa : FA) : FS := fun ρ =>
  match fa ρ with
  | some ([.dat (.int j)], ρ1) => if -1000000000 ≤ j ∧ j ≤ 1000000000 then some (rangeD 0 j.toNat, [], ρ1) else none
  | some ([.dat (.int i), .dat (.int j)], ρ1) => if -1000000000 ≤ i ∧ i ≤ 1000000000 ∧ -1000000000 ≤ j ∧ j ≤ 1000000000 then some (rangeD i (j - i).toNat, [], ρ1) else none
  | _ => none
theorem itOk_rng {lo : Int} {n : Nat} : ItOk F (Itr lo n) (rangeD lo n) [] [] := by
  intro M H i mm hd
  refine ⟨fun d hdi => ⟨?_, ?_⟩, fun e => ?_⟩
  · have := (List.getElem?_eq_some_iff.mp hdi).1
    exact (show i < n by simpa [rangeD] using this)
  · rintro x H' ⟨rfl, rfl⟩
    unfold rangeD at hdi
    rw [List.getElem?_map] at hdi
    obtain ⟨k, e1, e2⟩ := Option.map_eq_some_iff.mp hdi
    have : k = i := by
      rw [List.getElem?_range (by have := (List.getElem?_eq_some_iff.mp e1).1; simpa using this)] at e1
      exact (Option.some.inj e1).symm
    subst this
    subst e2
    exact ⟨Ext.rfl, rfl⟩
  · show n ≤ i
    rw [e]
    simp [rangeD]
theorem di_rng1 {p : Pos} {f : FA} (hg : Gl X "range") (hm : X.mg "range" = none) (ha : PA X [a] (TAd F f)) (hs : starEach [a] X.env = [(false, eval a X.env)]) (h1 : ∀ ρ os ρ', f ρ = some (os, ρ') → os.length = 1) : PI X tg (.Call (.Name "range" p) [a] [] pos) (TId F (sRng f)) := by
  refine PI.imp (pi_range1 hg hm ha hs) ?_
  rintro σ H R ⟨M, ρ, ds, os, ρ', E, hf, q⟩
  unfold sRng at hf
  cases e1 : f ρ with
  | none => rw [e1] at hf; cases hf
  | some p1 =>
    obtain ⟨o1, ρ1⟩ := p1
    have hl := h1 _ _ _ e1
    rw [e1] at hf
    match o1, hl, hf with
    | [.dat (.int j)], _, hf =>
      simp only at hf
      split at hf
      · rename_i hb
        cases hf
        refine ⟨M, ρ, _, _, E, e1, fun vs M1 H1 s1 R1 k1 ok1 => ?_⟩
        obtain ⟨v, rfl, hv⟩ := paired1 ok1
        cases (show v = .int j from hv)
        exact ⟨j, rfl, by omega, by omega, q _ [] [] M1 H1 s1 R1 k1 .nil rfl itOk_rng⟩
      · cases hf
theorem di_rng2 {p : Pos} {f : FA} (hg : Gl X "range") (hm : X.mg "range" = none) (ha : PA X [a, b] (TAd F f)) (hs : starEach [a, b] X.env = [(false, eval a X.env), (false, eval b X.env)]) (hs2 : starEach [b] X.env = [(false, eval b X.env)])
    (h1 : ∀ ρ os ρ', f ρ = some (os, ρ') → os.length = 2) : PI X tg (.Call (.Name "range" p) [a, b] [] pos) (TId F (sRng f)) := by
  refine PI.imp (pi_range2 hg hm ha hs hs2) ?_
  rintro σ H R ⟨M, ρ, ds, os, ρ', E, hf, q⟩
  unfold sRng at hf
  cases e1 : f ρ with
  | none => rw [e1] at hf; cases hf
  | some p1 =>
    obtain ⟨o1, ρ1⟩ := p1
    have hl := h1 _ _ _ e1
    rw [e1] at hf
    match o1, hl, hf with
    | [.dat (.int i), .dat (.int j)], _, hf =>
      simp only at hf
      split at hf
      · rename_i hb
        cases hf
        refine ⟨M, ρ, _, _, E, e1, fun vs M1 H1 s1 R1 k1 ok1 => ?_⟩
        obtain ⟨v, w, rfl, hv, hw⟩ := paired2 ok1
        cases (show v = .int i from hv)
        cases (show w = .int j from hw)
        exact ⟨i, j, rfl, ⟨by omega, by omega, by omega, by omega⟩, q _ [] [] M1 H1 s1 R1 k1 .nil rfl itOk_rng⟩
      · cases hf
/-- enumerate -/
def seqD : D → Option (List D)
  | .lst ds => some ds
  | .tup ds => some ds
  | .scr ns => some (ns.map .int)
  | _ => none
def enumD : Nat → List D → List D
  | _, [] => []
  | i, d :: ds => .tup [.int (i : Nat), d] :: enumD (i + 1) ds
theorem enumD_get : ∀ (ds : List D) (k i : Nat), (enumD k ds)[i]? = ds[i]?.map fun d => .tup [.int ((k + i : Nat) : Int), d]
  | [], _, _ => by simp [enumD]
  | d :: ds, k, 0 => by simp [enumD]
  | d :: ds, k, i + 1 => by
    simp only [enumD, List.getElem?_cons_succ]
    rw [enumD_get ds (k + 1) i]
    have : k + 1 + i = k + (i + 1) := by omega
    rw [this]
theorem enumD_length : ∀ (ds : List D) (k : Nat), (enumD k ds).length = ds.length
  | [], _ => rfl
  | d :: ds, k => by simp [enumD, enumD_length ds]
def sEnm (fa : FA) : FS := fun ρ =>
  match fa ρ with
  | some ([o], ρ1) => match o.get ρ1 with
    | none => none
    | some d => match seqD d with
      | none => none
      | some ds => some (enumD 0 ds, [o], ρ1)
  | _ => none
theorem pair_new {M : Ms} {H : Hp} {T : Addr} {x y : V} {d e : D} (hT : H T = none) (h1 : Dv F.K F.T M H d x) (h2 : Dv F.K F.T M H e y) : Ext H (upd H T (.tup [x, y])) ∧ Dv F.K F.T M (upd H T (.tup [x, y])) (.tup [d, e]) (.ref T) :=
  ⟨Ext.new hT, ⟨T, _, rfl, SqT.of upd_same, DvS.ext (Ext.new hT) _ (DvS.cons h1 (DvS.cons h2 DvS.nil))⟩⟩
theorem itOk_enm {ds : List D} {p : Addr} {c : D} (hc : ∀ M H, Do F.K F.T M H c (.ref p) → ∃ us, SqL F.K H p us ∧ DvS F.K F.T M H ds us) : ItOk F (Ite F.K p) (enumD 0 ds) [c] [.ref p] := by
  intro M H i mm hd
  obtain ⟨v, e, h⟩ := paired1 hd
  cases e
  obtain ⟨us, ha, ra⟩ := hc M H h
  refine ⟨fun d hdi => ⟨?_, ?_⟩, fun e => ⟨us, ha, by rw [e, enumD_length, ra.length]; exact Nat.le_refl _⟩⟩
  · rw [enumD_get] at hdi
    obtain ⟨k, e1, e2⟩ := Option.map_eq_some_iff.mp hdi
    obtain ⟨x, hx, _⟩ := ra.getD e1
    exact ⟨us, x, ha, hx⟩
  · rintro v H' ⟨U, x, rfl, hU, rfl, hx⟩
    rw [enumD_get] at hdi
    obtain ⟨k, e1, e2⟩ := Option.map_eq_some_iff.mp hdi
    subst e2
    obtain ⟨d', h1, h2⟩ := ra.get (hx us ha)
    rw [e1] at h1
    cases h1
    rw [Nat.zero_add]
    exact pair_new hU rfl h2
theorem itOk_enmT {ds : List D} {p : Addr} : ItOk F (IteT F.K p) (enumD 0 ds) [.tup ds] [.ref p] := by
  intro M H i mm hd
  obtain ⟨v, e, h⟩ := paired1 hd
  cases e
  obtain ⟨a, us, e, ha, ra⟩ := h.tup
  cases e
  refine ⟨fun d hdi => ⟨?_, ?_⟩, fun e => ⟨us, ha, by rw [e, enumD_length, ra.length]⟩⟩
  · rw [enumD_get] at hdi
    obtain ⟨k, e1, e2⟩ := Option.map_eq_some_iff.mp hdi
    obtain ⟨x, hx, _⟩ := ra.getD e1
    exact ⟨us, x, ha, hx⟩
  · rintro v H' ⟨U, x, rfl, hU, rfl, hx⟩
    rw [enumD_get] at hdi
    obtain ⟨k, e1, e2⟩ := Option.map_eq_some_iff.mp hdi
    subst e2
    obtain ⟨d', h1, h2⟩ := ra.get (hx us ha)
    rw [e1] at h1
    cases h1
    rw [Nat.zero_add]
    exact pair_new hU rfl h2
theorem di_enm {p tpos : Pos} {f : FA} {elts : List Expr} {kk : Nat} (hK : F.K = X.K) (hg : Gl X "enumerate") (hm : X.mg "enumerate" = none) (ha : PA X [a] (TAd F f)) (hs : starEach [a] X.env = [(false, eval a X.env)]) (h1 : ∀ ρ os ρ', f ρ = some (os, ρ') → os.length = 1) :
    PI X (.Tuple elts kk tpos) (.Call (.Name "enumerate" p) [a] [] pos) (TId F (sEnm f)) := by
  obtain ⟨K, T, M0, pa, H0⟩ := F
  cases hK
  refine PI.imp (PI.or (pi_enum hg hm ha hs) (pi_enumT hg hm ha hs)) ?_
  rintro σ H R ⟨M, ρ, ds, os, ρ', E, hf, q⟩
  unfold sEnm at hf
  cases e1 : f ρ with
  | none => rw [e1] at hf; cases hf
  | some p1 =>
    obtain ⟨o1, ρ1⟩ := p1
    have hl := h1 _ _ _ e1
    rw [e1] at hf
    match o1, hl, hf with
    | [o], _, hf =>
      simp only at hf
      cases g1 : o.get ρ1 with
      | none => rw [g1] at hf; cases hf
      | some d =>
        rw [g1] at hf
        simp only at hf
        cases d with
        | lst es =>
          cases hf
          refine .inl ⟨M, ρ, _, _, E, e1, fun vs M1 H1 s1 R1 k1 ok1 => ?_⟩
          obtain ⟨v, rfl, hv⟩ := paired1 ok1
          obtain ⟨a, us, rfl, ha, ra⟩ := (R1.opd hv g1).lst
          exact ⟨a, us, rfl, SqL.of ha, q _ [.ref a] _ M1 H1 s1 R1 k1 ok1 (getAll1 g1) (itOk_enm fun M H h => by
            obtain ⟨b, ws, e, hb, rb⟩ := h.lst
            cases e
            exact ⟨ws, SqL.of hb, rb⟩)⟩
        | scr es =>
          cases hf
          refine .inl ⟨M, ρ, _, _, E, e1, fun vs M1 H1 s1 R1 k1 ok1 => ?_⟩
          obtain ⟨v, rfl, hv⟩ := paired1 ok1
          obtain ⟨a, rfl, ha⟩ := (R1.opd hv g1).scr
          exact ⟨a, _, rfl, ha, q _ [.ref a] _ M1 H1 s1 R1 k1 ok1 (getAll1 g1) (itOk_enm fun M H h => by
            obtain ⟨b, e, hb⟩ := h.scr
            cases e
            exact ⟨_, hb, DvS.of_ints es⟩)⟩
        | tup es =>
          cases hf
          refine .inr ⟨M, ρ, _, _, E, e1, fun vs M1 H1 s1 R1 k1 ok1 => ?_⟩
          obtain ⟨v, rfl, hv⟩ := paired1 ok1
          obtain ⟨a, us, rfl, ha, ra⟩ := (R1.opd hv g1).tup
          exact ⟨a, us, rfl, ha, q _ [.ref a] _ M1 H1 s1 R1 k1 ok1 (getAll1 g1) itOk_enmT⟩
        | _ => cases hf
/-- zip -/
def zipD : List D → List D → List D
  | d :: ds, e :: es => .tup [d, e] :: zipD ds es
  | _, _ => []
theorem zipD_get : ∀ (ds es : List D) (i : Nat) (t : D), (zipD ds es)[i]? = some t → ∃ d e, ds[i]? = some d ∧ es[i]? = some e ∧ t = .tup [d, e]
  | d :: ds, e :: es, 0, t, h => by simp only [zipD, List.getElem?_cons_zero] at h; cases h; exact ⟨d, e, rfl, rfl, rfl⟩
  | d :: ds, e :: es, i + 1, t, h => by
    simp only [zipD, List.getElem?_cons_succ] at h
    obtain ⟨d', e', h1, h2, h3⟩ := zipD_get ds es i t h
    exact ⟨d', e', by simpa using h1, by simpa using h2, h3⟩
  | [], _, _, _, h => by simp [zipD] at h
  | _ :: _, [], _, _, h => by simp [zipD] at h
theorem zipD_length : ∀ (ds es : List D), (zipD ds es).length = min ds.length es.length
  | d :: ds, e :: es => by simp [zipD, zipD_length ds es]
  | [], es => by simp [zipD]
  | _ :: _, [] => by simp [zipD]
def isLst : D → Bool
  | .tup _ => false
  | _ => true
def sZip (fa : FA) : FS := fun ρ =>
  match fa ρ with
  | some ([o, p], ρ1) => match o.get ρ1, p.get ρ1 with
    | some d, some e => match seqD d, seqD e with
      | some ds, some es => some (zipD ds es, [o, p], ρ1)
      | _, _ => none
    | _, _ => none
  | _ => none
theorem seqB_ex {M : Ms} {H : Hp} {d : D} {ds : List D} {v : V} (hs : seqD d = some ds) (h : Do F.K F.T M H d v) : ∃ p us, v = V.ref p ∧ SqB F.K (isLst d) H p us ∧ DvS F.K F.T M H ds us := by
  cases d with
  | lst es => cases hs; obtain ⟨a, us, rfl, ha, ra⟩ := h.lst; exact ⟨a, us, rfl, SqL.of ha, ra⟩
  | tup es => cases hs; obtain ⟨a, us, rfl, ha, ra⟩ := h.tup; exact ⟨a, us, rfl, ha, ra⟩
  | scr es => cases hs; obtain ⟨a, rfl, ha⟩ := h.scr; exact ⟨a, _, rfl, ha, DvS.of_ints es⟩
  | _ => cases hs
theorem itOk_zip {ds es : List D} {p r : Addr} {c c' : D} (h1 : seqD c = some ds) (h2 : seqD c' = some es) :
    ItOk F (ItzB F.K (isLst c) (isLst c') p r) (zipD ds es) [c, c'] [.ref p, .ref r] := by
  intro M H i mm hd
  obtain ⟨v, w, e, hv, hw⟩ := paired2 hd
  cases e
  obtain ⟨_, us, e, ha, ra⟩ := seqB_ex h1 hv
  cases e
  obtain ⟨_, ws, e, hb, rb⟩ := seqB_ex h2 hw
  cases e
  refine ⟨fun t ht => ⟨?_, ?_⟩, fun e => ⟨us, ws, ha, hb, ?_, ?_, ?_⟩⟩
  · obtain ⟨d, e, hd1, hd2, rfl⟩ := zipD_get ds es i t ht
    obtain ⟨x, hx, _⟩ := ra.getD hd1
    obtain ⟨y, hy, _⟩ := rb.getD hd2
    exact ⟨us, ws, x, y, ha, hb, hx, hy⟩
  · rintro v H' ⟨U, x, y, rfl, hU, rfl, hx, hy⟩
    obtain ⟨d, e, hd1, hd2, rfl⟩ := zipD_get ds es i t ht
    obtain ⟨d', q1, q2⟩ := ra.get (hx us ha)
    obtain ⟨e', q3, q4⟩ := rb.get (hy ws hb)
    rw [hd1] at q1
    rw [hd2] at q3
    cases q1
    cases q3
    exact pair_new hU q2 q4
  · rw [e, zipD_length, ← ra.length]; omega
  · rw [e, zipD_length, ← rb.length]; omega
  · rw [e, zipD_length, ← ra.length, ← rb.length]; (first | done | omega)
theorem di_zip {p tpos : Pos} {f : FA} {elts : List Expr} {kk : Nat} (hK : F.K = X.K) (hg : Gl X "zip") (hm : X.mg "zip" = none) (ha : PA X [a, b] (TAd F f)) (hs : starEach [a, b] X.env = (false, eval a X.env) :: starEach [b] X.env)
    (hpl : (backTo pos (starEach [b] X.env)).any (·.1) = false) (h1 : ∀ ρ os ρ', f ρ = some (os, ρ') → os.length = 2) :
    PI X (.Tuple elts kk tpos) (.Call (.Name "zip" p) [a, b] [] pos) (TId F (sZip f)) := by
  obtain ⟨K, T, M0, pa, H0⟩ := F
  cases hK
  refine PI.imp (pi_zipB hg hm ha hs hpl) ?_
  rintro σ H R ⟨M, ρ, ds, os, ρ', E, hf, q⟩
  unfold sZip at hf
  cases e1 : f ρ with
  | none => rw [e1] at hf; cases hf
  | some p1 =>
    obtain ⟨o1, ρ1⟩ := p1
    have hl := h1 _ _ _ e1
    rw [e1] at hf
    match o1, hl, hf with
    | [o, o'], _, hf =>
      simp only at hf
      cases g1 : o.get ρ1 with
      | none => rw [g1] at hf; cases hf
      | some d =>
        cases g2 : o'.get ρ1 with
        | none => rw [g1, g2] at hf; cases hf
        | some d' =>
          rw [g1, g2] at hf
          simp only at hf
          cases k1 : seqD d with
          | none => rw [k1] at hf; cases hf
          | some es =>
            cases k2 : seqD d' with
            | none => rw [k1, k2] at hf; cases hf
            | some es' =>
              rw [k1, k2] at hf
              cases hf
              refine ⟨M, ρ, _, _, E, e1, fun vs M1 H1 s1 R1 kk1 ok1 => ?_⟩
              obtain ⟨v, w, rfl, hv, hw⟩ := paired2 ok1
              obtain ⟨a, us, rfl, ha, ra⟩ := seqB_ex k1 (R1.opd hv g1)
              obtain ⟨b, ws, rfl, hb, rb⟩ := seqB_ex k2 (R1.opd hw g2)
              exact ⟨a, b, us, ws, _, _, rfl, ha, hb, q _ [.ref a, .ref b] [d, d'] M1 H1 s1 R1 kk1 ok1 (by simp only [getAll, g1, g2]) (itOk_zip k1 k2)⟩
end
end SC

set_option Elab.async false
set_option linter.all false
set_option maxRecDepth 100000
namespace SC
open PySem PySem.Spec PyProof.Rows L2

/-! ### list comprehensions -/
def lcLoop (own : List Nat) (p : Pt) (os : List Opd) (es : List D) (ft : FT) (fe : FE) : List D → Ev → List D → Option (List D × Ev)
  | [], ρ, acc => if getAll (wipeE ρ own) os = some es then some (acc, ρ) else none
  | d :: ds, ρ, acc => if getAll (wipeE ρ own) os = some es then
      match bindPt p d (wipeE ρ own) with
      | none => none
      | some ρa => match ft ρa with
        | none => none
        | some (true, ρb) => match fe ρb with
          | some (.dat y, ρc) => lcLoop own p os es ft fe ds ρc (acc ++ [y])
          | _ => none
        | some (false, ρb) => lcLoop own p os es ft fe ds ρb acc
    else none
/-- a new list: its items -/
abbrev FN := Ev → Option (List D × Ev)
def nLc (own : List Nat) (p : Pt) (src : FS) (ft : FT) (fe : FE) : FN := fun ρ =>
  match src ρ with
  | none => none
  | some (ds, os, ρ1) => match getAll ρ1 os with
    | none => none
    | some es => if ds.length ≤ sLn then
        match lcLoop own p os es ft fe ds ρ1 [] with
        | some (out, ρ2) => some (out, backE ρ1 ρ2 own)
        | none => none
      else none
/-- a thing of nobody else's -/
structure NewAt (F : Fx) (M1 : Ms) (ρ : Ev) (σ : Sg) (M : Ms) (H H1 : Hp) (p : Addr) (ds : List D) : Prop where
  m : M1 p
  old : M p ∨ H p = none
  h0 : F.H0 p = none
  no : ¬ Mad ρ σ p
  at_ : ∃ xs, H1 p = some (.lst xs) ∧ DvS F.K F.T M1 H1 ds xs
def TEn (F : Fx) (f : FN) : TE := fun σ H Q => ∃ M ρ ds ρ', ER F M ρ σ H ∧ f ρ = some (ds, ρ') ∧
  ∀ p M1 H1, (∀ a, M1 a → M a ∨ a = p) → ER F M1 ρ' σ H1 → Keep M H H1 → NewAt F M1 ρ' σ M H H1 p ds → Q (.ref p) H1
/-- fewer mutable things -/
theorem ER.drop {F : Fx} {M M' : Ms} {ρ : Ev} {σ : Sg} {H : Hp} (R : ER F M ρ σ H) (s : ∀ a, M' a → M a) (m0 : ∀ a, F.M0 a → M' a) (ms : ∀ a, Mad ρ σ a → M' a) : ER F M' ρ σ H :=
  ER.of_se ⟨⟨fun a m => R.mm a (s a m), R.mm.ts⟩, R.ln, fun i z h => by
      obtain ⟨v, h1, h2⟩ := R.se.sl i z h
      refine ⟨v, h1, ?_⟩
      by_cases m : z.mut = true
      · obtain ⟨a, rfl, m2, q⟩ := h2.mutAt m
        exact SlK.of_mut m ⟨a, rfl, ms a ⟨i, z, h, m, h1⟩, MutAt.less s q⟩
      · cases z with
        | un => trivial
        | dat d => obtain ⟨x, e1, e2⟩ := h2; exact ⟨x, e1, Dv.less s d e2⟩
        | own _ => exact absurd rfl m
        | obj _ _ => exact absurd rfl m, R.ap⟩ m0 R.kp R.h0 (fun a m => (R.mad m).2) R.pr R.pp
def fNew (f : FN) : FE := fun ρ => match f ρ with
  | some (ds, ρ') => some (.dat (.lst ds), ρ')
  | none => none
theorem en_read {F : Fx} {f : FN} {σ : Sg} {H : Hp} {Q : VK} (h : TEd F (fNew f) σ H Q) : TEn F f σ H Q := by
  obtain ⟨M, ρ, o, ρ', R, hf, q⟩ := h
  unfold fNew at hf
  cases e : f ρ with
  | none => rw [e] at hf; cases hf
  | some p =>
    obtain ⟨ds, ρ1⟩ := p
    rw [e] at hf
    cases hf
    refine ⟨M, ρ, ds, _, R, e, fun p M1 H1 s R1 k n => ?_⟩
    obtain ⟨xs, e1, e2⟩ := n.at_
    have R2 : ER F (fun a => M1 a ∧ M a ∧ a ≠ p) _ σ H1 := R1.drop (fun a z => z.1) (fun a z => ⟨R1.m0 a z, R.m0 a z, fun e => R1.h0 a z (by rw [e]; exact n.h0)⟩) fun a z => by
      refine ⟨(R1.mad z).1, ?_, fun e => n.no (by rw [← e]; exact z)⟩
      rcases s a (R1.mad z).1 with y | y
      · exact y
      · exact absurd (by rw [← y]; exact z) n.no
    exact q _ _ H1 (fun a z => z.2.1) R2 k ⟨p, xs, rfl, fun z => z.2.2 rfl, e1, DvS.less (fun a z => z.1) ds e2⟩
/-- readings over some frame -/
def TGx (K : PySem.W.Frag) (T : Cl) (p : Pt) : TG := fun v σ H Q => ∃ F : Fx, F.K = K ∧ F.T = T ∧ TGd F p v σ H Q
def TTx (K : PySem.W.Frag) (T : Cl) (f : FT) : TT := fun σ H Q => ∃ F : Fx, F.K = K ∧ F.T = T ∧ TTd F f σ H Q
def TEx (K : PySem.W.Frag) (T : Cl) (f : FE) : TE := fun σ H Q => ∃ F : Fx, F.K = K ∧ F.T = T ∧ TEd F f σ H Q
theorem PE.ex {X : Cx} {T : Cl} {e : Expr} {f : FE} (h : ∀ F : Fx, F.K = X.K → F.T = T → PE X e (TEd F f)) : PE X e (TEx X.K T f) := ⟨fun pins s σ H Q I ⟨F, hK, hT, hw⟩ => (h F hK hT).run pins s σ H Q I hw⟩
theorem PT.ex {X : Cx} {T : Cl} {e : Expr} {f : FT} (h : ∀ F : Fx, F.K = X.K → F.T = T → PT X e (TTd F f)) : PT X e (TTx X.K T f) := ⟨fun pins s σ H Q I ⟨F, hK, hT, hw⟩ => (h F hK hT).run pins s σ H Q I hw⟩
theorem PTs.ex {X : Cx} {T : Cl} {e : List Expr} {f : FT} (h : ∀ F : Fx, F.K = X.K → F.T = T → PTs X e (TTd F f)) : PTs X e (TTx X.K T f) := ⟨fun pins s σ H Q I ⟨F, hK, hT, hw⟩ => (h F hK hT).run pins s σ H Q I hw⟩
theorem PG.ex {X : Cx} {T : Cl} {e : Expr} {p : Pt} (h : ∀ F : Fx, F.K = X.K → F.T = T → PG X e (TGd F p)) : PG X e (TGx X.K T p) := ⟨fun pins s σ H v u Q I r ⟨F, hK, hT, hw⟩ => (h F hK hT).run pins s σ H v u Q I r hw⟩
def fYes : FT := fun ρ => some (true, ρ)
theorem dts_nil {X : Cx} {F : Fx} : PTs X [] (TTd F fYes) := ⟨fun pins s σ H Q I ⟨M, ρ, b, ρ', R, hf, q⟩ => by
  cases hf
  exact pts_nil.run pins s σ H Q I (q M H (fun _ z => z) R Keep.rfl)⟩
theorem dts_one {X : Cx} {F : Fx} {c : Expr} {f : FT} (h : PT X c (TTd F f)) : PTs X [c] (TTd F f) := pts_one h
section
variable {K : PySem.W.Frag} {T : Cl} {M : Ms} {ρ : Ev} {σ : Sg} {H H' : Hp}
/-- a mutable thing that is no slot's changes -/
theorem SE.put (S : SE K T M ρ σ H) {Dd : Addr} {o : HO} (hm : M Dd) (hn : ¬ Mad ρ σ Dd) (ho : Mu (some o)) : SE K T M ρ σ (upd H Dd o) where
  mm := S.mm.put hm ho
  ln := S.ln
  sl := fun i s h => by
    have kp : Keep M H (upd H Dd o) := fun a u e n => .of <| by rw [upd_ne (fun z => n (by rw [z]; exact hm))]; exact e
    obtain ⟨v, h1, h2⟩ := S.sl i s h
    refine ⟨v, h1, ?_⟩
    by_cases m : s.mut = true
    · obtain ⟨a, rfl, m2, q⟩ := h2.mutAt m
      have ne : a ≠ Dd := fun z => hn (by rw [← z]; exact ⟨i, s, h, m, h1⟩)
      exact SlK.of_mut m ⟨a, rfl, m2, MutAt.other kp S.mm (upd_ne ne) q⟩
    · cases s with
      | un => trivial
      | dat d => obtain ⟨x, e1, e2⟩ := h2; exact ⟨x, e1, Dv.keep kp S.mm d e2⟩
      | own _ => exact absurd rfl m
      | obj _ _ => exact absurd rfl m
  ap := S.ap
theorem SE.ext (S : SE K T M ρ σ H) (e : Ext H H') : SE K T M ρ σ H' where
  mm := S.mm.ext e
  ln := S.ln
  sl := fun i s h => by
    obtain ⟨v, h1, h2⟩ := S.sl i s h
    refine ⟨v, h1, ?_⟩
    by_cases m : s.mut = true
    · obtain ⟨a, rfl, m2, q⟩ := h2.mutAt m
      exact SlK.of_mut m ⟨a, rfl, m2, MutAt.ext e q⟩
    · cases s with
      | un => trivial
      | dat d => obtain ⟨x, e1, e2⟩ := h2; exact ⟨x, e1, Dv.ext e d e2⟩
      | own _ => exact absurd rfl m
      | obj _ _ => exact absurd rfl m
  ap := S.ap
/-- a new mutable thing -/
theorem SE.more (S : SE K T M ρ σ H) {Dd : Addr} {o : HO} (hn : H Dd = none) (ho : Mu (some o)) : SE K T (fun a => M a ∨ a = Dd) ρ σ (upd H Dd o) where
  mm := S.mm.more hn ho
  ln := S.ln
  sl := fun i s h => by
    have ex : Ext H (upd H Dd o) := Ext.new hn
    have to : ∀ a, (M a ∨ a = Dd) → M a ∨ H a = none := fun a z => z.elim .inl fun e => .inr (by rw [e]; exact hn)
    obtain ⟨v, h1, h2⟩ := S.sl i s h
    refine ⟨v, h1, ?_⟩
    cases s with
    | un => trivial
    | dat d => obtain ⟨x, e1, e2⟩ := h2; exact ⟨x, e1, Dv.ext ex d (Dv.to to d e2)⟩
    | own ds => obtain ⟨a, e1, m, xs, e2, e3⟩ := h2; exact ⟨a, e1, .inl m, xs, ex a _ e2, DvS.ext ex ds (DvS.to to ds e3)⟩
    | obj c ds => obtain ⟨a, e1, m, dx, xs, e2, l, e3⟩ := h2; exact ⟨a, e1, .inl m, dx, xs, ex a _ e2, l, DvS.ext ex ds (DvS.to to ds e3)⟩
  ap := S.ap
theorem SE.to_ER {F : Fx} (S : SE F.K F.T M ρ σ H) (m0 : ∀ a, F.M0 a → M a) : True := trivial
end
theorem wipe_same {σ σ2 : Sg} {own : List Nat} (hl : σ2.length = σ.length) (h : ∀ j, j ∉ own → σ2[j]? = (L2.wipe σ own)[j]?) : L2.wipe σ2 own = L2.wipe σ own := by
  apply List.ext_getElem?
  intro j
  rw [wipe_get, wipe_get]
  by_cases k : j ∈ own
  · rw [if_pos k, if_pos k, hl]
  · rw [if_neg k, if_neg k, h j k, wipe_get, if_neg k]
theorem wipe_wipe (σ : Sg) (own : List Nat) : L2.wipe (L2.wipe σ own) own = L2.wipe σ own := wipe_same (wipe_length _ _) fun _ _ => rfl
theorem setsE_length : ∀ {is : List Nat} {ds : List D} {ρ ρ' : Ev}, setsE ρ is ds = some ρ' → ρ'.length = ρ.length
  | [], [], ρ, ρ', h => by cases h; rfl
  | i :: is, d :: ds, ρ, ρ', h => by
    have := setsE_length (is := is) (ds := ds) h
    rw [this, List.length_set]
  | [], _ :: _, _, _, h => by cases h
  | _ :: _, [], _, _, h => by cases h
theorem bindPt_length {p : Pt} {d : D} {ρ ρ' : Ev} (h : bindPt p d ρ = some ρ') : ρ'.length = ρ.length := by
  cases p with
  | nm i => cases h; exact List.length_set
  | tp is => cases d with
    | tup ds => exact setsE_length h
    | _ => cases h
/-- the slots keep their number -/
theorem ER.len2 {F : Fx} {M M' : Ms} {ρ ρ' : Ev} {σ : Sg} {H H' : Hp} (R : ER F M ρ σ H) (R' : ER F M' ρ' σ H') : ρ'.length = ρ.length := R'.ln.trans R.ln.symm

theorem MutAt.to {K : PySem.W.Frag} {T : Cl} {M M' : Ms} {H : Hp} {a : Addr} (e : ∀ a, M' a → M a ∨ H a = none) : ∀ {s : Sl}, MutAt K T M H a s → MutAt K T M' H a s
  | .un, h => h.elim
  | .dat _, h => h.elim
  | .own ds, ⟨xs, e2, e3⟩ => ⟨xs, e2, DvS.to e ds e3⟩
  | .obj c ds, ⟨dx, xs, e2, l, e3⟩ => ⟨dx, xs, e2, l, DvS.to e ds e3⟩
theorem lc_read {K : PySem.W.Frag} {T : Cl} {own : List Nat} {p : Pt} {src : FS} {ft : FT} {fe : FE} (hp : ∀ i ∈ p.slots, i ∈ own) {F : Fx} (hK : F.K = K) (hT : F.T = T) {σ : Sg} {H : Hp} {Q : VK}
    (h : TEn F (nLc own p src ft fe) σ H Q) : tLc (TId F src) (TGx K T p) (TTx K T ft) (TEx K T fe) own σ H Q := by
  obtain ⟨M, ρ, o, ρ', R, hf, q⟩ := h
  subst hK hT
  unfold nLc at hf
  cases e1 : src ρ with
  | none => rw [e1] at hf; cases hf
  | some p1 =>
    obtain ⟨ds, os, ρ1⟩ := p1
    rw [e1] at hf
    simp only at hf
    cases e2 : getAll ρ1 os with
    | none => rw [e2] at hf; cases hf
    | some es =>
      rw [e2] at hf
      simp only at hf
      split at hf
      case isFalse => cases hf
      case isTrue hz =>
      cases e3 : lcLoop own p os es ft fe ds ρ1 [] with
      | none => rw [e3] at hf; cases hf
      | some p3 =>
        obtain ⟨out, ρ2⟩ := p3
        rw [e3] at hf
        cases hf
        refine ⟨M, ρ, ds, os, ρ1, R, e1, fun J vs es' M1 H1 s1 R1 k1 ok1 ge itok Dd hD => ?_⟩
        rw [e2] at ge
        cases ge
        -- the state at the start
        let σw := L2.wipe σ own
        let MD : Ms := fun a => M1 a ∨ a = Dd
        have nD1 : ¬ M1 Dd := R1.fresh hD
        have S0 : SE F.K F.T MD (wipeE ρ1 own) σw (upd H1 Dd (.lst [])) := (R1.se.wipe own).more hD trivial
        have mad1 : ∀ a, Mad (wipeE ρ1 own) σw a → M1 a := fun a z => R1.se.mad (Mad.of_wipe z).1
        have ok0 : ∀ (G : Fx), G.K = F.K → G.T = F.T → (∀ i, Opd.slot i ∈ os → i ∉ own) → OpdsOk G MD (upd H1 Dd (.lst [])) σw os vs := by
          intro G hGK hGT hown
          have to : ∀ a, MD a → M1 a ∨ H1 a = none := fun a z => z.elim .inl fun e => .inr (by rw [e]; exact hD)
          clear e2 itok e1 e3
          induction ok1 with
          | nil => exact .nil
          | @cons o v os vs h t ih =>
            refine .cons ?_ (ih fun i hi => hown i (List.mem_cons_of_mem _ hi))
            cases o with
            | dat d =>
              show Dv G.K G.T MD _ d v
              rw [hGK, hGT]
              exact Dv.ext (Ext.new hD) d (Dv.to to d h)
            | slot i =>
              show σw[i]? = some (some v)
              have hi := hown i List.mem_cons_self
              show (L2.wipe σ own)[i]? = _
              rw [wipe_get, if_neg hi]
              exact h
        -- slots among the containers are not the comprehension's own
        have hown : ∀ i, Opd.slot i ∈ os → i ∉ own := by
          have c0 : getAll (wipeE ρ1 own) os = some es := by
            cases ds with
            | nil =>
              unfold lcLoop at e3
              split at e3
              · assumption
              · cases e3
            | cons d ds =>
              unfold lcLoop at e3
              split at e3
              · assumption
              · cases e3
          clear e2 e1 itok ok1 ok0 e3
          induction os generalizing es with
          | nil => intro i hi; cases hi
          | cons o os ih =>
            simp only [getAll] at c0
            split at c0
            · rename_i d ds' g1 g2
              intro i hi
              rcases List.mem_cons.mp hi with z | z
              · subst z
                intro hin
                have : (match (wipeE ρ1 own)[i]? with
                  | some (.own ds) => some (D.lst ds)
                  | some (.obj c ds) => some (.ins c ds)
                  | _ => none) = some d := g1
                rw [wipeE_get, if_pos hin] at this
                split at this
                · rename_i hh
                  split at hh <;> cases hh
                · rename_i hh
                  split at hh <;> cases hh
                · cases this
              · exact ih _ g2 i z
            · cases c0
        refine ⟨fun i m H2 => m = ds.length - i ∧ i ≤ ds.length ∧ ∃ ρi acc us, lcLoop own p os es ft fe (ds.drop i) ρi acc = some (o, ρ2) ∧ SE F.K F.T MD (wipeE ρi own) σw H2 ∧
            Went F.T M1 (wipeE ρ1 own) (wipeE ρi own) σw H1 H2 ∧ H2 Dd = some (.lst us) ∧ DvS F.K F.T MD H2 acc us ∧ acc.length ≤ i ∧ OpdsOk F MD H2 σw os vs,
          ⟨ds.length, by simp, Nat.zero_le _, ρ1, [], [], by rw [List.drop_zero]; exact e3, S0, ⟨fun _ z => z, fun i s h m => ⟨s, h, m⟩, Ke.of fun a o e => by rw [upd_ne (ne_of_none e hD)]; exact e⟩, upd_same, rfl, Nat.zero_le _, ok0 F rfl rfl hown⟩, ?_⟩
        rintro i m H2 ⟨rfl, hi, ρi, acc, us, el, S, wt, hH2, hacc, hla, okc⟩
        have hchk : getAll (wipeE ρi own) os = some es := by
          cases q2 : ds.drop i with
          | nil =>
            rw [q2] at el
            unfold lcLoop at el
            split at el
            · assumption
            · cases el
          | cons d r =>
            rw [q2] at el
            unfold lcLoop at el
            split at el
            · assumption
            · cases el
        have notD : ∀ (G : Ev), (∀ a, Mad G σw a → Mad (wipeE ρ1 own) σw a) → ¬ Mad G σw Dd := fun G hG z => nD1 (mad1 _ (hG _ z))
        have doS : DoS F MD H2 es vs := by
          have R2 := S.enter
          have ok2 : OpdsOk (subF F.K F.T MD (wipeE ρi own) σw H2) MD H2 σw os vs := by
            clear hchk hown ok0 ok1 e2 itok e1 e3 el
            induction okc with
            | nil => exact .nil
            | @cons o v os vs h t ih =>
              refine .cons ?_ ih
              cases o with
              | dat d => exact h
              | slot i => exact h
          exact OpdsOk.getAll R2 ok2 hchk
        have ito := itok MD H2 i S.mm doS
        by_cases hlt : i < ds.length
        · refine .inr ⟨?_, fun H3 => ∃ ρi acc us, lcLoop own p os es ft fe (ds.drop (i + 1)) ρi acc = some (o, ρ2) ∧ SE F.K F.T MD (wipeE ρi own) σw H3 ∧
            Went F.T M1 (wipeE ρ1 own) (wipeE ρi own) σw H1 H3 ∧ H3 Dd = some (.lst us) ∧ DvS F.K F.T MD H3 acc us ∧ acc.length ≤ i + 1 ∧ OpdsOk F MD H3 σw os vs, fun H' hh => ?_, fun x H3 hy => ?_⟩
          · exact (ito.1 ds[i] (by simp [hlt])).1
          · obtain ⟨ρj, acc', us', h1, h2⟩ := hh
            exact ⟨ds.length - (i + 1), by omega, rfl, hlt, ρj, acc', us', h1, h2⟩
          · obtain ⟨ex3, dvx⟩ := (ito.1 ds[i] (by simp [hlt])).2 x H3 hy
            rw [List.drop_eq_getElem_cons hlt] at el
            unfold lcLoop at el
            rw [if_pos hchk] at el
            cases b1 : bindPt p ds[i] (wipeE ρi own) with
            | none => rw [b1] at el; cases el
            | some ρa =>
              rw [b1] at el
              simp only at el
              have S3 := S.ext ex3
              refine ⟨subF F.K F.T MD (wipeE ρi own) σw H3, rfl, rfl, MD, wipeE ρi own, ds[i], ρa, S3.enter, dvx, b1, fun j hj a hm => ?_, fun σ2 Ra ag => ?_⟩
              · obtain ⟨s, g1, g2, g3⟩ := mem_mads.mp hm
                have g1' : (wipeE ρi own)[j]? = some s := g1
                rw [wipeE_get, if_pos (hp j hj)] at g1'
                split at g1'
                · cases g1'; cases g2
                · cases g1'
              · have lσ : σ2.length = σ.length := by
                  have h1 := Ra.ln
                  have h2 := bindPt_length b1
                  have h3 := S.ln
                  rw [wipe_length] at h3
                  omega
                have wσ : L2.wipe σ2 own = σw := wipe_same lσ fun j hj => by
                  rw [ag j fun z => hj (hp j z)]
                refine ⟨wσ, ?_⟩
                -- the mutable slots are as before
                have madA : ∀ a, Mad ρa σ2 a → Mad (wipeE ρi own) σw a := fun a z => by
                  obtain ⟨_, pm⟩ := Ra.mad z
                  rcases pm with pm | pm
                  · exact subF_P.mp pm
                  · have := S3.mm a (Ra.mad z).1
                    rw [show H3 a = none from pm] at this
                    exact this.elim
                cases t1 : ft ρa with
                | none => rw [t1] at el; cases el
                | some pb =>
                  obtain ⟨b, ρb⟩ := pb
                  rw [t1] at el
                  have Sa : SE F.K F.T MD ρa σ2 H3 := Ra.se
                  refine ⟨subF F.K F.T MD ρa σ2 H3, rfl, rfl, MD, ρa, b, ρb, Sa.enter, t1, fun M4 H4 s4 R4 k4 => ?_⟩
                  obtain ⟨Sb, wb⟩ := SE.leave Sa R4 s4
                  -- back to the wiped slots
                  have back : ∀ (ρz : Ev) (Hz : Hp), SE F.K F.T MD ρz σ2 Hz → Went F.T MD ρa ρz σ2 H3 Hz → SE F.K F.T MD (wipeE ρz own) σw Hz ∧ Went F.T M1 (wipeE ρ1 own) (wipeE ρz own) σw H1 Hz := fun ρz Hz Sz wz => by
                    have S' : SE F.K F.T MD (wipeE ρz own) σw Hz := by
                      have := Sz.wipe own
                      rw [wσ] at this
                      exact this
                    refine ⟨S', ⟨fun a z => ?_, fun j s hj m => ?_, (wt.kp.trans (Ext.ke (P := fun _ => False) ex3) fun _ z => z.elim).trans wz.kp fun a z => .inr (wt.mad a (madA a z))⟩⟩
                    · rw [← wσ] at z
                      have z2 := wz.mad a (Mad.of_wipe z).1
                      exact wt.mad a (madA a z2)
                    · obtain ⟨s', hj', m'⟩ := wt.mus j s hj m
                      have jn : j ∉ own := fun k => by
                        rw [wipeE_get, if_pos k] at hj'
                        split at hj'
                        · cases hj'; cases m'
                        · cases hj'
                      obtain ⟨v, ev, qv⟩ := S3.sl j s' hj'
                      obtain ⟨a, rfl, _, _⟩ := qv.mutAt m'
                      obtain ⟨s2, hj2, m2⟩ := (Ra.pr (j, a) (mem_mads.mpr ⟨s', hj', m', ev⟩)).2
                      obtain ⟨s3, hj3, m3⟩ := wz.mus j s2 hj2 m2
                      exact ⟨s3, by rw [wipeE_get, if_neg jn]; exact hj3, m3⟩
                  have keepc : ∀ (Hz : Hp), Keep MD H2 Hz → OpdsOk F MD Hz σw os vs := fun Hz hk => OpdsOk.keep S.mm hk okc
                  have kz : ∀ (ρz : Ev) (Hz : Hp), Went F.T MD ρa ρz σ2 H3 Hz → Ke F.T (Mad (wipeE ρi own) σw) H2 Hz := fun ρz Hz wz => (Ext.ke (P := Mad (wipeE ρi own) σw) ex3).trans wz.kp fun c z => .inr (madA c z)
                  have noD : ¬ Mad (wipeE ρi own) σw Dd := notD _ wt.mad
                  cases b with
                  | false =>
                    simp only at el
                    show if false = true then _ else _
                    rw [if_neg Bool.false_ne_true]
                    obtain ⟨Sz, wz⟩ := back ρb H4 Sb wb
                    have kk := kz ρb H4 wb
                    refine ⟨ρb, acc, us, el, Sz, wz, (kk.at_ Dd _ hH2 noD).nt .lst, DvS.keep (kk.keep fun a z => S.mad z) S.mm acc hacc, by omega, keepc H4 (kk.keep fun a z => S.mad z)⟩
                  | true =>
                    simp only at el
                    show if true = true then _ else _
                    rw [if_pos rfl]
                    cases f1 : fe ρb with
                    | none => rw [f1] at el; cases el
                    | some pc =>
                      obtain ⟨oy, ρc⟩ := pc
                      rw [f1] at el
                      cases oy with
                      | slot _ => cases el
                      | dat y =>
                        simp only at el
                        refine ⟨subF F.K F.T MD ρb σ2 H4, rfl, rfl, MD, ρb, _, ρc, Sb.enter, f1, fun v M5 H5 s5 R5 k5 ok5 => ?_⟩
                        obtain ⟨Sc, wc⟩ := SE.leave Sb R5 s5
                        have eM : M5 = MD := by
                          funext a
                          exact propext ⟨s5 a, R5.m0 a⟩
                        subst eM
                        have wbc := wb.trans (M := MD) wc
                        obtain ⟨Sz, wz⟩ := back ρc H5 Sc wbc
                        have kk := kz ρc H5 wbc
                        have hD5 : H5 Dd = some (.lst us) := (kk.at_ Dd _ hH2 noD).nt .lst
                        have kD : Keep MD H5 (upd H5 Dd (.lst (us ++ [v]))) := fun a u e n => .of <| by rw [upd_ne (fun z => n (by rw [z]; exact .inr rfl))]; exact e
                        have noD' : ¬ Mad (wipeE ρc own) σw Dd := notD _ wz.mad
                        have k2 : Keep MD H2 (upd H5 Dd (.lst (us ++ [v]))) := fun a o ea na => (kk.at_ a o ea fun z => na (S.mad z)).trans fun u eu => kD a u eu na
                        refine ⟨us, hD5, ?_, ρc, acc ++ [y], us ++ [v], el, Sz.put (.inr rfl) noD' trivial, ⟨wz.mad, wz.mus, ⟨fun a o ea na => ?_, fun t => tabs_upd (wz.kp.tab t) hD5 trivial⟩⟩, upd_same, DvS.append (DvS.keep k2 S.mm acc hacc) (DvS.cons (Dv.keep kD Sz.mm y ok5) DvS.nil), ?_, keepc _ k2⟩
                        · have := hacc.length
                          rw [← sLn_eq]
                          omega
                        · rw [upd_ne (ne_of_none ea hD)]
                          exact wz.kp.at_ a o ea na
                        · rw [List.length_append]
                          simp only [List.length_cons, List.length_nil]
                          omega
        · have ei : i = ds.length := by omega
          refine .inl ⟨ito.2 ei, ?_⟩
          rw [List.drop_eq_nil_of_le (by omega)] at el
          unfold lcLoop at el
          rw [if_pos hchk] at el
          cases el
          have ln2 : ρ2.length = ρ1.length := by
            have h1 := S.ln
            have h2 := R1.ln
            rw [wipeE_length, wipe_length] at h1
            omega
          have kM : Keep M1 H1 H2 := wt.kp.keep fun a z => mad1 a z
          have getB : ∀ j, (backE ρ1 ρ2 own)[j]? = if j ∈ own then ρ1[j]? else ρ2[j]? := fun j => backE_get ρ1 ρ2 ln2.symm j own
          have outW : ∀ (j : Nat) (s : Sl), j ∉ own → ρ2[j]? = some s → (wipeE ρ2 own)[j]? = some s ∧ σw[j]? = σ[j]? := fun j s hj hs => ⟨by rw [wipeE_get, if_neg hj]; exact hs, by show (L2.wipe σ own)[j]? = _; rw [wipe_get, if_neg hj]⟩
          have madB : ∀ (j : Nat) (s : Sl) (a : Addr), (backE ρ1 ρ2 own)[j]? = some s → s.mut = true → σ[j]? = some (some (.ref a)) → Mad ρ1 σ a := fun j s a hj m hs => by
            rw [getB] at hj
            by_cases k : j ∈ own
            · rw [if_pos k] at hj; exact ⟨j, s, hj, m, hs⟩
            · rw [if_neg k] at hj
              obtain ⟨h1, h2⟩ := outW j s k hj
              exact (Mad.of_wipe (wt.mad a ⟨j, s, h1, m, by rw [h2]; exact hs⟩)).1
          have toD : ∀ a, MD a → M1 a ∨ H1 a = none := fun a z => z.elim .inl fun e => .inr (by rw [e]; exact hD)
          have k0 : Keep MD (upd H1 Dd (.lst [])) H2 := fun a o ea na => by
            have ne : a ≠ Dd := fun z => na (.inr z)
            rw [upd_ne ne] at ea
            exact kM a o ea fun z => na (.inl z)
          have SF : SE F.K F.T MD (backE ρ1 ρ2 own) σ H2 := by
            refine ⟨S.mm, by rw [backE_length, ln2]; exact R1.ln, fun j s hj => ?_, fun j l s t v h1 m1 h2 m2 e1 e2 => ?_⟩
            · have hj0 := hj
              rw [getB] at hj
              by_cases k : j ∈ own
              · rw [if_pos k] at hj
                obtain ⟨v, g1, g2⟩ := R1.se.sl j s hj
                refine ⟨v, g1, ?_⟩
                by_cases m : s.mut = true
                · obtain ⟨a, rfl, m2, qa⟩ := g2.mutAt m
                  have na : ¬ Mad (wipeE ρ1 own) σw a := fun z => by
                    obtain ⟨_, key⟩ := Mad.of_wipe z
                    obtain ⟨l, t, z1, z2, z3⟩ := z
                    obtain ⟨ln, z4, z5⟩ := key l t z1 z2 z3
                    have := R1.ap j l s t _ hj m z4 z2 g1 z5
                    exact ln (by rw [← this]; exact k)
                  have eqa : H2 a = H1 a := by
                    cases qq : H1 a with
                    | none => exact absurd qq (R1.mh a m2)
                    | some o => exact (wt.kp.at_ a o qq na).nt (NT.mu (by have := R1.mm a m2; rw [qq] at this; exact this))
                  have ne : a ≠ Dd := fun z => nD1 (by rw [← z]; exact m2)
                  exact SlK.of_mut m ⟨a, rfl, .inl m2, MutAt.other k0 S0.mm (by rw [upd_ne ne]; exact eqa) (MutAt.ext (Ext.new hD) (MutAt.to toD qa))⟩
                · cases s with
                  | un => trivial
                  | dat d => obtain ⟨x, c1, c2⟩ := g2; exact ⟨x, c1, Dv.keep k0 S0.mm d (Dv.ext (Ext.new hD) d (Dv.to toD d c2))⟩
                  | own _ => exact absurd rfl m
                  | obj _ _ => exact absurd rfl m
              · rw [if_neg k] at hj
                obtain ⟨h1, h2⟩ := outW j s k hj
                obtain ⟨v, g1, g2⟩ := S.sl j s h1
                rw [h2] at g1
                refine ⟨v, g1, ?_⟩
                by_cases m : s.mut = true
                · obtain ⟨a, rfl, m2, qa⟩ := g2.mutAt m
                  exact SlK.of_mut m ⟨a, rfl, .inl (R1.se.mad (madB j s a hj0 m g1)), qa⟩
                · cases s with
                  | un => trivial
                  | dat d => exact g2
                  | own _ => exact absurd rfl m
                  | obj _ _ => exact absurd rfl m
            · rw [getB] at h1 h2
              -- the address of a slot outside is one of an outside slot at the start
              have outA : ∀ (j : Nat) (s : Sl) (a : Addr), j ∉ own → ρ2[j]? = some s → s.mut = true → σ[j]? = some (some (.ref a)) → ∃ (l : Nat) (t : Sl), l ∉ own ∧ ρ1[l]? = some t ∧ t.mut = true ∧ σ[l]? = some (some (.ref a)) := fun j s a k hj m hs => by
                obtain ⟨c1, c2⟩ := outW j s k hj
                have z := wt.mad a ⟨j, s, c1, m, by rw [c2]; exact hs⟩
                obtain ⟨_, key⟩ := Mad.of_wipe z
                obtain ⟨l, t, z1, z2, z3⟩ := z
                obtain ⟨ln, z4, z5⟩ := key l t z1 z2 z3
                exact ⟨l, t, ln, z4, z2, z5⟩
              by_cases kj : j ∈ own
              · rw [if_pos kj] at h1
                by_cases kl : l ∈ own
                · rw [if_pos kl] at h2
                  exact R1.ap j l s t v h1 m1 h2 m2 e1 e2
                · rw [if_neg kl] at h2
                  obtain ⟨w, g1, g2⟩ := R1.se.sl j s h1
                  obtain ⟨a, rfl, _, _⟩ := g2.mutAt m1
                  rw [e1] at g1
                  cases g1
                  obtain ⟨l', t', ln', c1, c2, c3⟩ := outA l t a kl h2 m2 e2
                  have := R1.ap j l' s t' _ h1 m1 c1 c2 e1 c3
                  exact absurd (by rw [← this]; exact kj) ln'
              · rw [if_neg kj] at h1
                by_cases kl : l ∈ own
                · rw [if_pos kl] at h2
                  obtain ⟨w, g1, g2⟩ := R1.se.sl l t h2
                  obtain ⟨a, rfl, _, _⟩ := g2.mutAt m2
                  rw [e2] at g1
                  cases g1
                  obtain ⟨l', t', ln', c1, c2, c3⟩ := outA j s a kj h1 m1 e1
                  have := R1.ap l l' t t' _ h2 m2 c1 c2 e2 c3
                  exact absurd (by rw [← this]; exact kl) ln'
                · rw [if_neg kl] at h2
                  obtain ⟨c1, c2⟩ := outW j s kj h1
                  obtain ⟨c3, c4⟩ := outW l t kl h2
                  exact S.ap j l s t v c1 m1 c3 m2 (by rw [c2]; exact e1) (by rw [c4]; exact e2)
          have RF : ER F MD (backE ρ1 ρ2 own) σ H2 := by
            refine ER.of_se SF (fun a z => .inl (R1.m0 a z)) (R1.kp.trans wt.kp fun a z => ?_) R1.h0 (fun a ⟨j, s, hj, m, hs⟩ => (R1.mad (madB j s a hj m hs)).2) (fun pp hpp => ?_) R1.pp
            · exact (R1.mad (Mad.of_wipe z).1).2.symm
            · obtain ⟨g1, s, g2, g3⟩ := R1.pr pp hpp
              refine ⟨g1, ?_⟩
              rw [getB]
              by_cases k : pp.1 ∈ own
              · rw [if_pos k]; exact ⟨s, g2, g3⟩
              · rw [if_neg k]
                obtain ⟨s', h1, h2⟩ := wt.mus pp.1 s (by rw [wipeE_get, if_neg k]; exact g2) g3
                rw [wipeE_get, if_neg k] at h1
                exact ⟨s', h1, h2⟩
          have oldD : M Dd ∨ H Dd = none := by
            by_cases mm : M Dd
            · exact .inl mm
            · cases qq : H Dd with
              | none => exact .inr rfl
              | some o => exact absurd hD (k1 Dd o qq mm).ne
          have h0D : F.H0 Dd = none := by
            cases qq : F.H0 Dd with
            | none => rfl
            | some o =>
              by_cases pm : F.P Dd
              · exact absurd (R1.m0 Dd (R1.pp Dd pm)) nD1
              · exact absurd hD (R1.kp.at_ Dd o qq pm).ne
          exact q Dd MD H2 (fun a z => z.imp (s1 a) id) RF (k1.trans (kM.mono s1)) ⟨.inr rfl, oldD, h0D, fun ⟨j, s, hj, m, hs⟩ => nD1 (R1.se.mad (madB j s Dd hj m hs)), us, hH2, hacc⟩
end SC

set_option Elab.async false
set_option linter.all false
set_option maxRecDepth 100000
namespace SC
open PySem PySem.Spec PyProof.Rows L2

section
variable {K : PySem.W.Frag} {T : Cl} {M M' : Ms} {H H' : Hp}
mutual
theorem Dv.mv (k : Keep M H H') (mm : ∀ a, M a → Mu (H a)) (s : ∀ a, M' a → M a ∨ H a = none) : ∀ (d : D) {v : V}, Dv K T M H d v → Dv K T M' H' d v
  | .non, _, h => h
  | .bl _, _, h => h
  | .int _, _, h => h
  | .str _, _, h => h
  | .tup ds, v, h => by
    obtain ⟨a, xs, e, q, r⟩ := h
    exact ⟨a, xs, e, SqT.keep q k mm, DvS.mv k mm s ds r⟩
  | .lst ds, v, h => by
    obtain ⟨a, xs, e, n, q, r⟩ := h
    exact ⟨a, xs, e, fun z => (s a z).elim n (fun w => by rw [w] at q; cases q), (k a _ q n).nt .lst, DvS.mv k mm s ds r⟩
  | .ins c ds, v, h => by
    obtain ⟨a, dx, xs, e, n, q, l, r⟩ := h
    exact ⟨a, dx, xs, e, fun z => (s a z).elim n (fun w => by rw [w] at q; cases q), (k a _ q n).nt .ins, l, DvS.mv k mm s ds r⟩
  | .dic ks ds, v, h => by
    obtain ⟨a, xs, e, n, q, l, r⟩ := h
    exact ⟨a, xs, e, fun z => (s a z).elim n (fun w => by rw [w] at q; cases q), (k a _ q n).nt .dK, l, DvS.mv k mm s ds r⟩
  | .scr ns, v, h => by
    obtain ⟨a, e, q⟩ := h
    exact ⟨a, e, SqF.keep q k mm⟩
  | .cl _, _, h => h
theorem DvS.mv (k : Keep M H H') (mm : ∀ a, M a → Mu (H a)) (s : ∀ a, M' a → M a ∨ H a = none) : ∀ (ds : List D) {xs : List V}, DvS K T M H ds xs → DvS K T M' H' ds xs
  | [], _, h => h
  | d :: ds, _, h => by
    obtain ⟨x, r, e, h1, h2⟩ := h
    exact ⟨x, r, e, Dv.mv k mm s d h1, DvS.mv k mm s ds h2⟩
end
end

section
variable {X : Cx} {F : Fx} {pos : Pos}
theorem dn_lc {elt tg iter : Expr} {ifs : List Expr} {scope : Scope} {own : List (Str × Nat)} {p : Pt} {src : FS} {ft : FT} {fe : FE} (hK : F.K = X.K) (hc : X.calm = true) (hN : X.N.Nodup) (hi : PI X tg iter (TId F src)) (ok : BlkOk X.N X.env.scope scope own) (hp : ∀ i ∈ p.slots, i ∈ own.map (·.2))
    (hg : ∀ (s : Shared) (H : Hp) (C : Addr) (cl : List (Str × Addr)) (fp : List Addr) (G : Fx), G.K = X.K → G.T = F.T → PG (X.blk s H scope (compEnvC scope cl C X.env) fp) tg (TGd G p))
    (ht : ∀ (s : Shared) (H : Hp) (C : Addr) (cl : List (Str × Addr)) (fp : List Addr) (G : Fx), G.K = X.K → G.T = F.T → PTs (X.blk s H scope (compEnvC scope cl C X.env) fp) ifs (TTd G ft))
    (he : ∀ (s : Shared) (H : Hp) (C : Addr) (cl : List (Str × Addr)) (fp : List Addr) (G : Fx), G.K = X.K → G.T = F.T → PE (X.blk s H scope (compEnvC scope cl C X.env) fp) elt (TEd G fe))
    (hs : ∀ x, foldedSetIterable iter X.env x = pure x) : PE X (.ListComp elt [⟨tg, iter, ifs, 0⟩] scope pos) (TEn F (nLc (own.map (·.2)) p src ft fe)) :=
  PE.imp (pe_lc hc hN hi ok (fun s H C cl fp => PG.ex (T := F.T) fun G h1 h2 => hg s H C cl fp G h1 h2) (fun s H C cl fp => PTs.ex (T := F.T) fun G h1 h2 => ht s H C cl fp G h1 h2)
    (fun s H C cl fp => PE.ex (T := F.T) fun G h1 h2 => he s H C cl fp G h1 h2) hs) fun σ H Q h => lc_read hp hK rfl h
theorem de_new {e : Expr} {f : FN} (h : PE X e (TEn F f)) : PE X e (TEd F (fNew f)) := PE.imp h fun _ _ _ => en_read
def nDisp (fa : FA) : FN := fun ρ =>
  match fa ρ with
  | none => none
  | some (os, ρ1) => match datAll os with
    | none => none
    | some ds => if ds.length ≤ sLn then some (ds, ρ1) else none
theorem ER.more {F : Fx} {M : Ms} {ρ : Ev} {σ : Sg} {H : Hp} (R : ER F M ρ σ H) {p : Addr} {o : HO} (hp : H p = none) (ho : Mu (some o)) : ER F (fun a => M a ∨ a = p) ρ σ (upd H p o) :=
  ER.of_se (R.se.more hp ho) (fun a z => .inl (R.m0 a z)) (R.kp.trans (Ext.ke (P := fun _ => False) (Ext.new hp)) fun _ z => z.elim) R.h0 (fun a m => (R.mad m).2) R.pr R.pp
/-- all that stood stands, tables may have grown -/
theorem Ke.all {T : Cl} {P : Addr → Prop} {M : Ms} {H H' : Hp} (k : Ke T P H H') (no : ∀ a, P a → H a = none) : Keep M H H' := fun a o e _ => k.at_ a o e fun z => by rw [no a z] at e; cases e
theorem SE.ke {K : PySem.W.Frag} {T : Cl} {M : Ms} {ρ : Ev} {σ : Sg} {H H' : Hp} {P : Addr → Prop} (S : SE K T M ρ σ H) (k : Ke T P H H') (no : ∀ a, P a → H a = none) : SE K T M ρ σ H' := by
  have kp : Keep M H H' := k.all no
  have same : ∀ a, M a → H' a = H a := fun a m => by
    have mu := S.mm a m
    cases e : H a with
    | none => rw [e] at mu; exact mu.elim
    | some o => rw [e] at mu; exact (k.at_ a o e fun z => by rw [no a z] at e; cases e).nt (.mu mu)
  refine ⟨⟨fun a m => by rw [same a m]; exact S.mm a m, k.tab S.mm.ts⟩, S.ln, fun i s h => ?_, S.ap⟩
  obtain ⟨v, h1, h2⟩ := S.sl i s h
  refine ⟨v, h1, ?_⟩
  by_cases m : s.mut = true
  · obtain ⟨a, rfl, m2, q⟩ := h2.mutAt m
    exact SlK.of_mut m ⟨a, rfl, m2, MutAt.other kp S.mm (same a m2) q⟩
  · cases s with
    | un => trivial
    | dat d => obtain ⟨x, e1, e2⟩ := h2; exact ⟨x, e1, Dv.keep kp S.mm d e2⟩
    | own _ => exact absurd rfl m
    | obj _ _ => exact absurd rfl m
theorem ER.ke {F : Fx} {M : Ms} {ρ : Ev} {σ : Sg} {H H' : Hp} {P : Addr → Prop} (R : ER F M ρ σ H) (k : Ke F.T P H H') (no : ∀ a, P a → H a = none) : ER F M ρ σ H' :=
  ER.of_se (R.se.ke k no) R.m0 (R.kp.trans k fun c z => by
    by_cases pm : F.P c
    · exact .inr pm
    · refine .inl ?_
      cases q : F.H0 c with
      | none => rfl
      | some o => exact absurd (no c z) (R.kp.at_ c o q pm).ne) R.h0 (fun a m => (R.mad m).2) R.pr R.pp
/-- what was not there at the entry -/
theorem ER.h0n {F : Fx} {M : Ms} {ρ : Ev} {σ : Sg} {H : Hp} (R : ER F M ρ σ H) {p : Addr} (hp : H p = none) : F.H0 p = none := by
  cases q : F.H0 p with
  | none => rfl
  | some o =>
    by_cases pm : F.P p
    · exact absurd hp (R.mh p (R.m0 p (R.pp p pm)))
    · exact absurd hp (R.kp.at_ p o q pm).ne
theorem old_of {M : Ms} {H H1 : Hp} {p : Addr} (k : Keep M H H1) (hp : H1 p = none) : M p ∨ H p = none := by
  by_cases mm : M p
  · exact .inl mm
  · cases qq : H p with
    | none => exact .inr rfl
    | some o => exact absurd hp (k p o qq mm).ne
theorem ER.newLst {F : Fx} {M M1 : Ms} {ρ : Ev} {σ : Sg} {H H1 : Hp} (R : ER F M1 ρ σ H1) (k : Keep M H H1) (s : ∀ a, M1 a → M a) {p : Addr} {ds : List D} {vs : List V} (hp : H1 p = none) (dv : DvS F.K F.T M1 H1 ds vs) :
    ER F (fun a => M1 a ∨ a = p) ρ σ (upd H1 p (.lst vs)) ∧ NewAt F (fun a => M1 a ∨ a = p) ρ σ M H (upd H1 p (.lst vs)) p ds :=
  ⟨R.more hp trivial, .inr rfl, old_of k hp, R.h0n hp, fun z => R.fresh hp (R.se.mad z), vs, upd_same, DvS.ext (Ext.new hp) ds (DvS.to (fun a z => z.elim .inl fun e => .inr (by rw [e]; exact hp)) ds dv)⟩
theorem dn_lst {es : List Expr} {f : FA} (h : PA X es (TAd F f)) : PE X (.List es pos) (TEn F (nDisp f)) := by
  refine PE.imp (pe_lst h) ?_
  rintro σ H Q ⟨M, ρ, o, ρ', R, hf, q⟩
  unfold nDisp at hf
  cases e1 : f ρ with
  | none => rw [e1] at hf; cases hf
  | some p1 =>
    obtain ⟨os, ρ1⟩ := p1
    rw [e1] at hf
    simp only at hf
    cases e2 : datAll os with
    | none => rw [e2] at hf; cases hf
    | some ds =>
      rw [e2] at hf
      simp only at hf
      split at hf
      · rename_i hz
        cases hf
        refine ⟨M, ρ, os, _, R, e1, fun vs M1 H1 s1 R1 k1 ok1 => ?_⟩
        have dv := OpdsOk.datAll ok1 e2
        refine ⟨by rw [← dv.length, ← sLn_eq]; exact hz, fun p hp => ?_⟩
        obtain ⟨R2, n2⟩ := R1.newLst k1 s1 hp dv
        exact q p _ _ (fun a z => z.imp (s1 a) id) R2 (k1.trans (Ext.new hp).keep) n2
      · cases hf
end

/-! ### several operands, some of them new lists -/
inductive Kd where
  | dat (d : D) | new (ds : List D)
abbrev FM := Ev → Option (List Kd × Ev)
def KdOk (F : Fx) (M : Ms) (H : Hp) : Kd → V → Prop
  | .dat d, v => Dv F.K F.T M H d v
  | .new ds, v => ∃ p xs, v = .ref p ∧ M p ∧ F.H0 p = none ∧ H p = some (.lst xs) ∧ DvS F.K F.T M H ds xs
def newsOf : List Kd → List V → List Addr
  | .dat _ :: ks, _ :: vs => newsOf ks vs
  | .new _ :: ks, .ref p :: vs => p :: newsOf ks vs
  | _, _ => []
structure KdsOk (F : Fx) (M1 : Ms) (ρ : Ev) (σ : Sg) (M : Ms) (H H1 : Hp) (ks : List Kd) (vs : List V) : Prop where
  ok : Paired (KdOk F M1 H1) ks vs
  nod : (newsOf ks vs).Nodup
  no : ∀ p ∈ newsOf ks vs, ¬ Mad ρ σ p
  old : ∀ p ∈ newsOf ks vs, M p ∨ H p = none
def TAn (F : Fx) (f : FM) : TA := fun σ H Q => ∃ M ρ ks ρ', ER F M ρ σ H ∧ f ρ = some (ks, ρ') ∧
  ∀ vs M1 H1, (∀ a, M1 a → M a ∨ a ∈ newsOf ks vs) → ER F M1 ρ' σ H1 → Keep M H H1 → KdsOk F M1 ρ' σ M H H1 ks vs → Q vs H1
def mNil : FM := fun ρ => some ([], ρ)
def mDat (fa : FE) (fr : FM) : FM := fun ρ =>
  match fa ρ with
  | some (.dat d, ρ1) => match fr ρ1 with
    | some (ks, ρ2) => some (.dat d :: ks, ρ2)
    | none => none
  | _ => none
def mNew (fa : FN) (fr : FM) : FM := fun ρ =>
  match fa ρ with
  | some (ds, ρ1) => match fr ρ1 with
    | some (ks, ρ2) => some (.new ds :: ks, ρ2)
    | none => none
  | none => none
theorem news_lt {F : Fx} {M : Ms} {H : Hp} : ∀ {ks : List Kd} {vs : List V}, Paired (KdOk F M H) ks vs → ∀ p ∈ newsOf ks vs, M p ∧ F.H0 p = none
  | _, _, .nil, p, hp => by cases hp
  | .dat d :: ks, v :: vs, .cons h t, p, hp => news_lt t p hp
  | .new ds :: ks, v :: vs, .cons h t, p, hp => by
    obtain ⟨q, xs, rfl, m, h0, _⟩ := h
    rcases List.mem_cons.mp hp with e | e
    · subst e; exact ⟨m, h0⟩
    · exact news_lt t p e
section
variable {X : Cx} {F : Fx} {e : Expr} {es : List Expr}
theorem dm_nil : PA X [] (TAn F mNil) := by
  refine PA.imp pa_nil ?_
  rintro σ H Q ⟨M, ρ, o, ρ', R, hf, q⟩
  cases hf
  exact q [] M H (fun _ z => .inl z) R Keep.rfl ⟨Paired.nil, List.nodup_nil, fun p hp => absurd hp (by simp [newsOf]), fun p hp => absurd hp (by simp [newsOf])⟩
theorem dm_dat {fa : FE} {fr : FM} (ha : PE X e (TEd F fa)) (hr : PA X es (TAn F fr)) (hs : starEach (e :: es) X.env = (false, eval e X.env) :: starEach es X.env) : PA X (e :: es) (TAn F (mDat fa fr)) := by
  refine PA.imp (pa_cons ha hr hs) ?_
  rintro σ H Q ⟨M, ρ, os, ρ', R, hf, q⟩
  unfold mDat at hf
  split at hf
  · rename_i d ρ1 e1
    split at hf
    · rename_i ks ρ2 e2
      cases hf
      refine ⟨M, ρ, _, _, R, e1, fun v M1 H1 s1 R1 k1 ok1 => ⟨M1, ρ1, ks, _, R1, e2, fun vs M2 H2 s2 R2 k2 ok2 => ?_⟩⟩
      refine q (v :: vs) M2 H2 (fun a z => (s2 a z).imp (s1 a) id) R2 (k1.trans (k2.mono s1)) ⟨.cons ?_ ok2.ok, ok2.nod, ok2.no, fun p hp => ?_⟩
      · refine Dv.mv k2 R1.mm (fun a z => ?_) d ok1
        rcases s2 a z with y | y
        · exact .inl y
        · exact ok2.old a y
      · rcases ok2.old p hp with y | y
        · exact .inl (s1 p y)
        · exact old_of k1 y
    · cases hf
  · cases hf
theorem dm_new {fa : FN} {fr : FM} (ha : PE X e (TEn F fa)) (hr : ∀ G : Fx, G.K = F.K → G.T = F.T → PA X es (TAn G fr)) (hs : starEach (e :: es) X.env = (false, eval e X.env) :: starEach es X.env) : PA X (e :: es) (TAn F (mNew fa fr)) := by
  refine PA.imp (pa_cons (t := fun σ H Q => ∃ G : Fx, G.K = F.K ∧ G.T = F.T ∧ TAn G fr σ H Q) ha ⟨fun pos pins s σ H Q I ⟨G, h1, h2, hw⟩ => (hr G h1 h2).run pos pins s σ H Q I hw⟩ hs) ?_
  rintro σ H Q ⟨M, ρ, os, ρ', R, hf, q⟩
  unfold mNew at hf
  split at hf
  · rename_i ds ρ1 e1
    split at hf
    · rename_i ks ρ2 e2
      cases hf
      refine ⟨M, ρ, _, _, R, e1, fun p M1 H1 s1 R1 k1 n => ⟨subF F.K F.T M1 ρ1 σ H1, rfl, rfl, M1, ρ1, ks, _, R1.se.enter, e2, fun vs M2 H2 s2 R2 k2 ok2 => ?_⟩⟩
      obtain ⟨xs, c1, c2⟩ := n.at_
      have h1n : ∀ a, H1 a = none → F.H0 a = none := fun a h => R1.h0n h
      have R3 : ER F M2 ρ' σ H2 := by
        refine ER.of_se R2.se (fun a z => R2.m0 a (R1.m0 a z)) (R1.kp.trans R2.kp fun a z => (R1.mad (subF_P.mp z)).2.symm) R.h0 (fun a m => ?_) (fun pp hpp => ?_) R.pp
        · rcases (R2.mad m).2 with y | y
          · exact (R1.mad (subF_P.mp y)).2
          · exact .inr (h1n a y)
        · obtain ⟨g1, s, g2, g3⟩ := R1.pr pp hpp
          exact R2.pr pp (mem_mads.mpr ⟨s, g2, g3, g1⟩)
      have c3 : H2 p = some (.lst xs) := (R2.kp.at_ p _ c1 fun z => n.no (subF_P.mp z)).nt .lst
      have news : ∀ r ∈ newsOf ks vs, H1 r = none := fun r hr => (news_lt ok2.ok r hr).2
      have toM : ∀ a, M2 a → M1 a ∨ H1 a = none := fun a z => (s2 a z).imp id (news a)
      refine q (.ref p :: vs) M2 H2 (fun a z => ?_) R3 (fun a o ea na => ?_) ⟨.cons ⟨p, xs, rfl, R2.m0 p n.m, n.h0, c3, DvS.mv k2 R1.mm toM ds c2⟩ ?_, ?_, fun r hr => ?_, fun r hr => ?_⟩
      · rcases s2 a z with y | y
        · rcases s1 a y with x | x
          · exact .inl x
          · exact .inr (by rw [x]; exact List.mem_cons_self)
        · exact .inr (List.mem_cons_of_mem _ y)
      · refine (k1 a o ea na).trans fun u eu => k2 a u eu fun z => ?_
        rcases s1 a z with x | x
        · exact na x
        · subst x
          rcases n.old with y | y
          · exact na y
          · rw [y] at ea; cases ea
      · have : ∀ {ks : List Kd} {vs : List V}, Paired (KdOk (subF F.K F.T M1 ρ1 σ H1) M2 H2) ks vs → Paired (KdOk F M2 H2) ks vs := by
          intro ks vs h
          refine Paired.mapP h fun k v hk => ?_
          cases k with
          | dat d => exact hk
          | new ds => obtain ⟨r, xs, e, m, h0, c⟩ := hk; exact ⟨r, xs, e, m, h1n r h0, c⟩
        exact this ok2.ok
      · refine List.nodup_cons.mpr ⟨fun z => ?_, ok2.nod⟩
        rw [news p z] at c1; cases c1
      · rcases List.mem_cons.mp hr with x | x
        · subst x
          intro z
          rcases (R2.mad z).2 with y | y
          · exact n.no (subF_P.mp y)
          · rw [show H1 r = none from y] at c1; cases c1
        · exact ok2.no r x
      · rcases List.mem_cons.mp hr with x | x
        · subst x; exact n.old
        · have := news r x
          exact old_of k1 this
    · cases hf
  · cases hf
end
end SC

set_option Elab.async false
set_option linter.all false
set_option maxRecDepth 100000
namespace SC
open PySem PySem.Spec PyProof.Rows L2

/-! ### the slots change -/
section
variable {F : Fx} {M : Ms} {ρ : Ev} {σ : Sg} {H : Hp}
/-- a slot gets a new list -/
theorem SE.setOwn {K : PySem.W.Frag} {T : Cl} (S : SE K T M ρ σ H) {i : Nat} {p : Addr} {ds : List D} {xs : List V} (m : M p) (no : ¬ Mad ρ σ p) (hp : H p = some (.lst xs)) (dv : DvS K T M H ds xs) : SE K T M (ρ.set i (.own ds)) (σ.set i (some (.ref p))) H where
  mm := S.mm
  ln := by rw [List.length_set, List.length_set]; exact S.ln
  sl := fun j s e => by
    rw [List.getElem?_set] at e ⊢
    by_cases k : i = j
    · subst k
      rw [if_pos rfl] at e ⊢
      split at e
      · rename_i hl
        cases e
        exact ⟨some (.ref p), by rw [if_pos (by rw [← S.ln]; exact hl)], p, rfl, m, xs, hp, dv⟩
      · cases e
    · rw [if_neg k] at e ⊢
      exact S.sl j s e
  ap := fun j l s t u h1 m1 h2 m2 e1 e2 => by
    rw [List.getElem?_set] at h1 h2 e1 e2
    by_cases k1 : i = j
    · by_cases k2 : i = l
      · exact k1.symm.trans k2
      · rw [if_neg k2] at h2 e2
        rw [if_pos k1] at e1
        split at e1
        · cases e1
          exact absurd ⟨l, t, h2, m2, e2⟩ no
        · cases e1
    · rw [if_neg k1] at h1 e1
      by_cases k2 : i = l
      · rw [if_pos k2] at e2
        split at e2
        · cases e2
          exact absurd ⟨j, s, h1, m1, e1⟩ no
        · cases e2
      · rw [if_neg k2] at h2 e2
        exact S.ap j l s t u h1 m1 h2 m2 e1 e2
theorem Mad.of_setOwn {i : Nat} {ds : List D} {p a : Addr} (h : Mad (ρ.set i (.own ds)) (σ.set i (some (.ref p))) a) : a = p ∨ Mad ρ σ a := by
  obtain ⟨j, s, h1, m, h2⟩ := h
  rw [List.getElem?_set] at h1 h2
  by_cases k : i = j
  · rw [if_pos k] at h2
    split at h2
    · cases h2; exact .inl rfl
    · cases h2
  · rw [if_neg k] at h1 h2
    exact .inr ⟨j, s, h1, m, h2⟩
theorem ER.setOwn (R : ER F M ρ σ H) {i : Nat} {p : Addr} {ds : List D} {xs : List V} (m : M p) (no : ¬ Mad ρ σ p) (h0 : F.H0 p = none) (hp : H p = some (.lst xs)) (dv : DvS F.K F.T M H ds xs) (hi : ∀ a, (i, a) ∉ F.pa) :
    ER F M (ρ.set i (.own ds)) (σ.set i (some (.ref p))) H :=
  ER.of_se (R.se.setOwn m no hp dv) R.m0 R.kp R.h0 (fun a z => by
    rcases Mad.of_setOwn z with e | z
    · exact .inr (by rw [e]; exact h0)
    · exact (R.mad z).2) (fun pp hpp => by
    have k : i ≠ pp.1 := fun k => hi pp.2 (by rw [k]; exact hpp)
    rw [List.getElem?_set_ne k, List.getElem?_set_ne k]
    exact R.pr pp hpp) R.pp
/-- the list at a slot changes -/
theorem SE.putOwn {K : PySem.W.Frag} {T : Cl} (S : SE K T M ρ σ H) {i : Nat} {p : Addr} {ds ds' : List D} {xs : List V} (hi : ρ[i]? = some (.own ds)) (hs : σ[i]? = some (some (.ref p))) (m : M p) (dv : DvS K T M H ds' xs) : SE K T M (ρ.set i (.own ds')) σ (upd H p (.lst xs)) := by
  have kp : Keep M H (upd H p (.lst xs)) := fun a u e n => .of (by rw [upd_ne (fun z => n (by rw [z]; exact m))]; exact e)
  refine ⟨S.mm.put m trivial, by rw [List.length_set]; exact S.ln, fun j s e => ?_, fun j l s t u h1 m1 h2 m2 e1 e2 => ?_⟩
  · rw [List.getElem?_set] at e
    by_cases k : i = j
    · subst k
      rw [if_pos rfl] at e
      split at e
      · cases e
        exact ⟨_, hs, p, rfl, m, xs, upd_same, DvS.keep kp S.mm ds' dv⟩
      · cases e
    · rw [if_neg k] at e
      obtain ⟨v, h1, h2⟩ := S.sl j s e
      refine ⟨v, h1, ?_⟩
      by_cases mu : s.mut = true
      · obtain ⟨a, rfl, m2, q⟩ := h2.mutAt mu
        have ne : a ≠ p := fun z => by
          subst z
          exact k (S.ap i j _ s _ hi rfl e mu hs h1)
        exact SlK.of_mut mu ⟨a, rfl, m2, MutAt.other kp S.mm (upd_ne ne) q⟩
      · cases s with
        | un => trivial
        | dat d => obtain ⟨x, e1, e2⟩ := h2; exact ⟨x, e1, Dv.keep kp S.mm d e2⟩
        | own _ => exact absurd rfl mu
        | obj _ _ => exact absurd rfl mu
  · have get : ∀ (j : Nat) (s : Sl), (ρ.set i (.own ds'))[j]? = some s → s.mut = true → ∃ s', ρ[j]? = some s' ∧ s'.mut = true := fun j s h mu => by
      rw [List.getElem?_set] at h
      by_cases k : i = j
      · exact ⟨.own ds, by rw [← k]; exact hi, rfl⟩
      · rw [if_neg k] at h; exact ⟨s, h, mu⟩
    obtain ⟨s', a1, a2⟩ := get j s h1 m1
    obtain ⟨t', b1, b2⟩ := get l t h2 m2
    exact S.ap j l s' t' u a1 a2 b1 b2 e1 e2
theorem Mad.of_putOwn {i : Nat} {ds ds' : List D} {a : Addr} (hi : ρ[i]? = some (.own ds)) (h : Mad (ρ.set i (.own ds')) σ a) : Mad ρ σ a := by
  obtain ⟨j, s, h1, m, h2⟩ := h
  rw [List.getElem?_set] at h1
  by_cases k : i = j
  · exact ⟨j, .own ds, by rw [← k]; exact hi, rfl, h2⟩
  · rw [if_neg k] at h1
    exact ⟨j, s, h1, m, h2⟩
theorem ER.putOwn (R : ER F M ρ σ H) {i : Nat} {p : Addr} {ds ds' : List D} {xs : List V} (hi : ρ[i]? = some (.own ds)) (hs : σ[i]? = some (some (.ref p))) (dv : DvS F.K F.T M H ds' xs) :
    ER F M (ρ.set i (.own ds')) σ (upd H p (.lst xs)) := by
  have mp : Mad ρ σ p := ⟨i, _, hi, rfl, hs⟩
  refine ER.of_se (R.se.putOwn hi hs (R.se.mad mp) dv) R.m0 (R.kp.trans (Ke.upd (R.mm p (R.se.mad mp))) fun a z => by subst z; exact (R.mad mp).2.symm) R.h0 (fun a z => (R.mad (Mad.of_putOwn hi z)).2) (fun pp hpp => ?_) R.pp
  · obtain ⟨g1, s, g2, g3⟩ := R.pr pp hpp
    refine ⟨g1, ?_⟩
    rw [List.getElem?_set]
    by_cases k : i = pp.1
    · rw [if_pos k, if_pos (List.getElem?_eq_some_iff.mp hi).1]
      exact ⟨_, rfl, rfl⟩
    · rw [if_neg k]
      exact ⟨s, g2, g3⟩
/-- a slot's list becomes data -/
theorem ER.frz (R : ER F M ρ σ H) {i : Nat} {ds : List D} (hi : ρ[i]? = some (.own ds)) (hp : ∀ a, (i, a) ∉ F.pa) : ∃ M', (∀ a, M' a → M a) ∧ ER F M' (ρ.set i (.dat (.lst ds))) σ H := by
  obtain ⟨v, h1, h2⟩ := R.se.sl i _ hi
  obtain ⟨p, rfl, m, xs, e1, e2⟩ := h2
  have mp : Mad ρ σ p := ⟨i, _, hi, rfl, h1⟩
  have nP : ¬ F.P p := fun ⟨j, hj⟩ => by
    obtain ⟨g1, s, g2, g3⟩ := R.pr (j, p) hj
    have := R.ap i j _ s _ hi rfl g2 g3 h1 g1
    subst this
    exact hp p hj
  have h0 : F.H0 p = none := (R.mad mp).2.resolve_left nP
  have nm0 : ¬ F.M0 p := fun z => R.h0 p z h0
  let M' : Ms := fun a => M a ∧ a ≠ p
  have less : ∀ a, M' a → M a := fun a z => z.1
  have dvl : Dv F.K F.T M' H (.lst ds) (.ref p) := ⟨p, xs, rfl, fun z => z.2 rfl, e1, DvS.less less ds e2⟩
  -- the slots but this one
  have sub : ∀ (j : Nat) (s : Sl), j ≠ i → ρ[j]? = some s → s.mut = true → σ[j]? ≠ some (some (.ref p)) := fun j s k hj mu z => k (R.ap j i s _ _ hj mu hi rfl z h1)
  refine ⟨M', less, ER.of_se ⟨⟨fun a z => R.mm a z.1, R.mm.ts⟩, by rw [List.length_set]; exact R.ln, fun j s e => ?_, fun j l s t u g1 m1 g2 m2 z1 z2 => ?_⟩ (fun a z => ⟨R.m0 a z, fun e => nm0 (by rw [← e]; exact z)⟩) R.kp R.h0 (fun a z => ?_) (fun pp hpp => ?_) R.pp⟩
  · rw [List.getElem?_set] at e
    by_cases k : i = j
    · subst k
      rw [if_pos rfl] at e
      split at e
      · cases e; exact ⟨_, h1, _, rfl, dvl⟩
      · cases e
    · rw [if_neg k] at e
      obtain ⟨v, g1, g2⟩ := R.se.sl j s e
      refine ⟨v, g1, ?_⟩
      by_cases mu : s.mut = true
      · obtain ⟨a, rfl, m2, q⟩ := g2.mutAt mu
        exact SlK.of_mut mu ⟨a, rfl, ⟨m2, fun z => sub j s (Ne.symm k) e mu (by rw [← z]; exact g1)⟩, MutAt.less less q⟩
      · cases s with
        | un => trivial
        | dat d => obtain ⟨x, e1, e2⟩ := g2; exact ⟨x, e1, Dv.less less d e2⟩
        | own _ => exact absurd rfl mu
        | obj _ _ => exact absurd rfl mu
  · rw [List.getElem?_set] at g1 g2
    have k1 : i ≠ j := fun k => by
      rw [if_pos k] at g1
      split at g1
      · cases g1; cases m1
      · cases g1
    have k2 : i ≠ l := fun k => by
      rw [if_pos k] at g2
      split at g2
      · cases g2; cases m2
      · cases g2
    rw [if_neg k1] at g1
    rw [if_neg k2] at g2
    exact R.ap j l s t u g1 m1 g2 m2 z1 z2
  · obtain ⟨j, s, g1, mu, g2⟩ := z
    rw [List.getElem?_set] at g1
    have k1 : i ≠ j := fun k => by
      rw [if_pos k] at g1
      split at g1
      · cases g1; cases mu
      · cases g1
    rw [if_neg k1] at g1
    exact (R.mad ⟨j, s, g1, mu, g2⟩).2
  · have k : i ≠ pp.1 := fun k => hp pp.2 (by rw [k]; exact hpp)
    rw [List.getElem?_set_ne k]
    exact R.pr pp hpp
end

/-! ### statements -/
inductive Fw where
  | nx | bk | ct | rt (d : D)
abbrev FB := Ev → Option (Fw × Ev)
def Stp (F : Fx) (M M' : Ms) (H H' : Hp) : Prop := ∀ d v, Dv F.K F.T M H d v → Dv F.K F.T M' H' d v
theorem Stp.rfl {F : Fx} {M : Ms} {H : Hp} : Stp F M M H H := fun _ _ h => h
theorem Stp.trans {F : Fx} {M M1 M2 : Ms} {H H1 H2 : Hp} (a : Stp F M M1 H H1) (b : Stp F M1 M2 H1 H2) : Stp F M M2 H H2 := fun d v h => b d v (a d v h)
theorem Stp.of {F : Fx} {M M' : Ms} {ρ : Ev} {σ : Sg} {H H' : Hp} (R : ER F M ρ σ H) (s : ∀ a, M' a → M a ∨ H a = none) (k : Keep M H H') : Stp F M M' H H' := fun d v h => Dv.mv k R.mm s d h
def EndD (F : Fx) (E : Ends) (w : Fw) (M' : Ms) (σ' : Sg) (H' : Hp) : Prop := match w with
  | .nx => E.nx σ' H'
  | .bk => E.bk σ' H'
  | .ct => E.ct σ' H'
  | .rt d => ∀ v, Dv F.K F.T M' H' d v → E.rt v H'
def TSd (F : Fx) (f : FB) : TS := fun E σ H => ∃ M ρ w ρ', ER F M ρ σ H ∧ f ρ = some (w, ρ') ∧ ∀ M' σ' H', ER F M' ρ' σ' H' → Stp F M M' H H' → EndD F E w M' σ' H'
def bNx : FB := fun ρ => some (.nx, ρ)
def bBk : FB := fun ρ => some (.bk, ρ)
def bCt : FB := fun ρ => some (.ct, ρ)
def bSeq (f g : FB) : FB := fun ρ => match f ρ with
  | some (.nx, ρ1) => g ρ1
  | some (w, ρ1) => some (w, ρ1)
  | none => none
def bRet (fe : FE) : FB := fun ρ => match fe ρ with
  | some (.dat d, ρ1) => some (.rt d, ρ1)
  | _ => none
def bRetN : FB := fun ρ => some (.rt .non, ρ)
def bIf (c : FT) (f g : FB) : FB := fun ρ => match c ρ with
  | some (true, ρ1) => f ρ1
  | some (false, ρ1) => g ρ1
  | none => none
def bExp (fe : FE) : FB := fun ρ => match fe ρ with
  | some (_, ρ1) => some (.nx, ρ1)
  | none => none
def bSet (i : Nat) (fe : FE) : FB := fun ρ => match fe ρ with
  | some (.dat d, ρ1) => some (.nx, ρ1.set i (.dat d))
  | _ => none
def bOwn (i : Nat) (fn : FN) : FB := fun ρ => match fn ρ with
  | some (ds, ρ1) => some (.nx, ρ1.set i (.own ds))
  | none => none
def bFrz (i : Nat) : FB := fun ρ => match ρ[i]? with
  | some (.own ds) => some (.nx, ρ.set i (.dat (.lst ds)))
  | _ => none
def setKs : Ev → List Nat → List Kd → Option Ev
  | ρ, [], [] => some ρ
  | ρ, i :: is, .dat d :: ks => setKs (ρ.set i (.dat d)) is ks
  | ρ, i :: is, .new ds :: ks => setKs (ρ.set i (.own ds)) is ks
  | _, _, _ => none
def bPar (is : List Nat) (fm : FM) : FB := fun ρ => match fm ρ with
  | some (ks, ρ1) => match setKs ρ1 is ks with
    | some ρ2 => some (.nx, ρ2)
    | none => none
  | none => none
def ownAt (ρ : Ev) (i : Nat) : Option (List D) := match ρ[i]? with
  | some (.own ds) => some ds
  | _ => none
theorem ownAt_some {ρ : Ev} {i : Nat} {ds : List D} (h : ownAt ρ i = some ds) : ρ[i]? = some (.own ds) := by
  unfold ownAt at h
  split at h
  · cases h; assumption
  · cases h
def bPut (i : Nat) (fi fe : FE) : FB := fun ρ => match fe ρ with
  | some (.dat d, ρ1) => match ownAt ρ1 i with
    | none => none
    | some _ => match fi ρ1 with
      | some (.dat (.int k), ρ2) => match ownAt ρ2 i with
        | some ds => match ixN ds.length k with
          | some j => some (.nx, ρ2.set i (.own (ds.set j d)))
          | none => none
        | none => none
      | _ => none
  | _ => none
theorem ER.ownRef {F : Fx} {M : Ms} {ρ : Ev} {σ : Sg} {H : Hp} (R : ER F M ρ σ H) {i : Nat} {ds : List D} (h : ownAt ρ i = some ds) : ∃ a xs, σ[i]? = some (some (.ref a)) ∧ M a ∧ H a = some (.lst xs) ∧ DvS F.K F.T M H ds xs := by
  obtain ⟨v, g1, g2⟩ := R.se.sl i _ (ownAt_some h)
  obtain ⟨a, rfl, m, xs, c1, c2⟩ := g2
  exact ⟨a, xs, g1, m, c1, c2⟩
theorem Keep.put {M : Ms} {H : Hp} {a : Addr} {o : HO} (m : M a) : Keep M H (upd H a o) := fun b u e n => .of (by rw [upd_ne (fun z => n (by rw [z]; exact m))]; exact e)
section
variable {X : Cx} {F : Fx} {pos : Pos}
theorem dss_nil : PSs X [] (TSd F bNx) := PSs.imp pss_nil fun E σ H ⟨M, ρ, w, ρ', R, hf, q⟩ => by
  cases hf
  exact q M σ H R Stp.rfl
theorem ds_pass : PS X (.Pass pos) (TSd F bNx) := PS.imp ps_pass fun E σ H ⟨M, ρ, w, ρ', R, hf, q⟩ => by
  cases hf
  exact q M σ H R Stp.rfl
theorem ds_break : PS X (.Break pos) (TSd F bBk) := PS.imp ps_break fun E σ H ⟨M, ρ, w, ρ', R, hf, q⟩ => by
  cases hf
  exact q M σ H R Stp.rfl
theorem ds_continue : PS X (.Continue pos) (TSd F bCt) := PS.imp ps_continue fun E σ H ⟨M, ρ, w, ρ', R, hf, q⟩ => by
  cases hf
  exact q M σ H R Stp.rfl
theorem seq_read {f g : FB} {E : Ends} {σ : Sg} {H : Hp} (h : TSd F (bSeq f g) E σ H) : tSeq (TSd F f) (TSd F g) E σ H := by
  obtain ⟨M, ρ, w, ρ', R, hf, q⟩ := h
  unfold bSeq at hf
  split at hf
  · rename_i ρ1 e1
    exact ⟨M, ρ, _, ρ1, R, e1, fun M1 σ1 H1 R1 s1 => ⟨M1, ρ1, w, ρ', R1, hf, fun M2 σ2 H2 R2 s2 => q M2 σ2 H2 R2 (s1.trans s2)⟩⟩
  · rename_i w1 ρ1 hn e1
    cases hf
    refine ⟨M, ρ, w, ρ', R, e1, fun M1 σ1 H1 R1 s1 => ?_⟩
    have := q M1 σ1 H1 R1 s1
    cases w with
    | nx => exact absurd rfl hn
    | bk => exact this
    | ct => exact this
    | rt d => exact this
  · cases hf
theorem dss_cons {st : Stmt} {rest : List Stmt} {f g : FB} (h1 : PS X st (TSd F f)) (h2 : PSs X rest (TSd F g)) : PSs X (st :: rest) (TSd F (bSeq f g)) := PSs.imp (pss_cons h1 h2) fun _ _ _ => seq_read
theorem dss_one {st : Stmt} {f : FB} (h1 : PS X st (TSd F f)) : PSs X [st] (TSd F f) := pss_one h1
theorem ds_ret {e : Expr} {fe : FE} (he : PE X e (TEd F fe)) : PS X (.Return (some e) pos) (TSd F (bRet fe)) := PS.imp (ps_ret he) fun E σ H ⟨M, ρ, w, ρ', R, hf, q⟩ => by
  unfold bRet at hf
  split at hf
  · rename_i d ρ1 e1
    cases hf
    exact ⟨M, ρ, _, _, R, e1, fun v M1 H1 s1 R1 k1 ok1 => q M1 σ H1 R1 (Stp.of R (fun a z => .inl (s1 a z)) k1) v ok1⟩
  · cases hf
theorem ds_retN : PS X (.Return none pos) (TSd F bRetN) := PS.imp ps_retN fun E σ H ⟨M, ρ, w, ρ', R, hf, q⟩ => by
  cases hf
  exact q M σ H R Stp.rfl .non rfl
theorem ds_if {c : Expr} {a b : List Stmt} {ft : FT} {f g : FB} (hc : PT X c (TTd F ft)) (ha : PSs X a (TSd F f)) (hb : PSs X b (TSd F g)) : PS X (.If c a b pos) (TSd F (bIf ft f g)) := PS.imp (ps_if hc ha hb) fun E σ H ⟨M, ρ, w, ρ', R, hf, q⟩ => by
  unfold bIf at hf
  split at hf
  · rename_i ρ1 e1
    refine ⟨M, ρ, _, ρ1, R, e1, fun M1 H1 s1 R1 k1 => ?_⟩
    show if true = true then _ else _
    rw [if_pos rfl]
    exact ⟨M1, ρ1, w, ρ', R1, hf, fun M2 σ2 H2 R2 s2 => q M2 σ2 H2 R2 ((Stp.of R (fun a z => .inl (s1 a z)) k1).trans s2)⟩
  · rename_i ρ1 e1
    refine ⟨M, ρ, _, ρ1, R, e1, fun M1 H1 s1 R1 k1 => ?_⟩
    show if false = true then _ else _
    rw [if_neg Bool.false_ne_true]
    exact ⟨M1, ρ1, w, ρ', R1, hf, fun M2 σ2 H2 R2 s2 => q M2 σ2 H2 R2 ((Stp.of R (fun a z => .inl (s1 a z)) k1).trans s2)⟩
  · cases hf
theorem ds_expr {e : Expr} {fe : FE} (he : PE X e (TEd F fe)) (hs : swapsWith e none pos.line X.env = pure false) : PS X (.Expr e pos) (TSd F (bExp fe)) := PS.imp (ps_expr he hs) fun E σ H ⟨M, ρ, w, ρ', R, hf, q⟩ => by
  unfold bExp at hf
  split at hf
  · rename_i o ρ1 e1
    cases hf
    exact ⟨M, ρ, o, _, R, e1, fun v M1 H1 s1 R1 k1 ok1 => q M1 σ H1 R1 (Stp.of R (fun a z => .inl (s1 a z)) k1)⟩
  · cases hf
/-- readings of name = value, value data -/
theorem set_read {i : Nat} {fe : FE} (hi : ∀ a, (i, a) ∉ F.pa) {E : Ends} {σ : Sg} {H : Hp} (h : TSd F (bSet i fe) E σ H) : tAsg (TEd F fe) (gName i) E σ H := by
  obtain ⟨M, ρ, w, ρ', R, hf, q⟩ := h
  unfold bSet at hf
  split at hf
  · rename_i d ρ1 e1
    cases hf
    exact ⟨M, ρ, _, ρ1, R, e1, fun v M1 H1 s1 R1 k1 ok1 => q M1 _ H1 (R1.setDat ok1 hi) (Stp.of R (fun a z => .inl (s1 a z)) k1)⟩
  · cases hf
theorem NewAt.stp {M M1 : Ms} {ρ ρ' : Ev} {σ : Sg} {H H1 : Hp} {p : Addr} {ds : List D} (R : ER F M ρ σ H) (n : NewAt F M1 ρ' σ M H H1 p ds) (s : ∀ a, M1 a → M a ∨ a = p) (k : Keep M H H1) : Stp F M M1 H H1 :=
  Stp.of R (fun a z => (s a z).elim .inl fun e => by rw [e]; exact n.old) k
theorem own_read {i : Nat} {fn : FN} (hi : ∀ a, (i, a) ∉ F.pa) {E : Ends} {σ : Sg} {H : Hp} (h : TSd F (bOwn i fn) E σ H) : tAsg (TEn F fn) (gName i) E σ H := by
  obtain ⟨M, ρ, w, ρ', R, hf, q⟩ := h
  unfold bOwn at hf
  split at hf
  · rename_i ds ρ1 e1
    cases hf
    refine ⟨M, ρ, _, ρ1, R, e1, fun p M1 H1 s1 R1 k1 n => ?_⟩
    obtain ⟨xs, c1, c2⟩ := n.at_
    exact q M1 _ H1 (R1.setOwn n.m n.no n.h0 c1 c2 hi) (n.stp R s1 k1)
  · cases hf
theorem ds_set {i : Nat} {x : Str} {e : Expr} {fe : FE} {pos' : Pos} (hN : X.N.Nodup) (hi : X.N[i]? = some x) (hx : Loc X.env.scope x) (he : PE X e (TEd F fe)) (hs : swapsWith e (some (.Name x pos')) pos.line X.env = pure false) (hf : X.fn x = true ∨ X.env.scope.names.lookup x = some .local) (hp : ∀ a, (i, a) ∉ F.pa) :
    PS X (.Assign [.Name x pos'] e pos) (TSd F (bSet i fe)) := PS.imp (ps_set hN hi hx he hs hf) fun _ _ _ => set_read hp
theorem ds_own {i : Nat} {x : Str} {e : Expr} {fn : FN} {pos' : Pos} (hN : X.N.Nodup) (hi : X.N[i]? = some x) (hx : Loc X.env.scope x) (he : PE X e (TEn F fn)) (hs : swapsWith e (some (.Name x pos')) pos.line X.env = pure false) (hf : X.fn x = true ∨ X.env.scope.names.lookup x = some .local) (hp : ∀ a, (i, a) ∉ F.pa) :
    PS X (.Assign [.Name x pos'] e pos) (TSd F (bOwn i fn)) := PS.imp (ps_set hN hi hx he hs hf) fun _ _ _ => own_read hp
/-- name = [..] on one line -/
theorem ps_lc {i : Nat} {y : Str} {py spos : Pos} {elt tg iter : Expr} {ifs : List Expr} {scope : Scope} {own : List (Str × Nat)} {p : Pt} {src : FS} {ft : FT} {fe : FE} (hK : F.K = X.K) (hc : X.calm = true) (hN : X.N.Nodup) (hy : X.N[i]? = some y) (hyl : X.env.scope.names.lookup y = some .local)
    (hsw : swapsWith (.ListComp elt [⟨tg, iter, ifs, 0⟩] scope pos) (some (.Name y py)) spos.line X.env = pure true) (hi : PI X tg iter (TId F src)) (ok : BlkOk X.N X.env.scope scope own) (hp : ∀ i ∈ p.slots, i ∈ own.map (·.2))
    (hg : ∀ (s : Shared) (H : Hp) (C : Addr) (cl : List (Str × Addr)) (fp : List Addr) (G : Fx), G.K = X.K → G.T = F.T → PG (X.blk s H scope (compEnvC scope cl C X.env) fp) tg (TGd G p))
    (ht : ∀ (s : Shared) (H : Hp) (C : Addr) (cl : List (Str × Addr)) (fp : List Addr) (G : Fx), G.K = X.K → G.T = F.T → PTs (X.blk s H scope (compEnvC scope cl C X.env) fp) ifs (TTd G ft))
    (he : ∀ (s : Shared) (H : Hp) (C : Addr) (cl : List (Str × Addr)) (fp : List Addr) (G : Fx), G.K = X.K → G.T = F.T → PE (X.blk s H scope (compEnvC scope cl C X.env) fp) elt (TEd G fe))
    (hs : ∀ x, foldedSetIterable iter X.env x = pure x) : PS X (.Assign [.Name y py] (.ListComp elt [⟨tg, iter, ifs, 0⟩] scope pos) spos) (tAsg (TEn F (nLc (own.map (·.2)) p src ft fe)) (gName i)) :=
  PS.imp (ps_setLc hc hN hy hyl hsw hi ok (fun s H C cl fp => PG.ex (T := F.T) fun G h1 h2 => hg s H C cl fp G h1 h2) (fun s H C cl fp => PTs.ex (T := F.T) fun G h1 h2 => ht s H C cl fp G h1 h2)
    (fun s H C cl fp => PE.ex (T := F.T) fun G h1 h2 => he s H C cl fp G h1 h2) hs) fun E σ H h => lc_read hp hK rfl h
theorem ds_lcO {st : Stmt} {i : Nat} {fn : FN} (h : PS X st (tAsg (TEn F fn) (gName i))) (hp : ∀ a, (i, a) ∉ F.pa) : PS X st (TSd F (bOwn i fn)) := PS.imp h fun _ _ _ => own_read hp
theorem ds_lcD {st : Stmt} {i : Nat} {fn : FN} (h : PS X st (tAsg (TEn F fn) (gName i))) (hp : ∀ a, (i, a) ∉ F.pa) : PS X st (TSd F (bSet i (fNew fn))) := PS.imp h fun E σ H h => by
  have := set_read hp h
  exact en_read this
/-- a list of one's own becomes data ahead of a statement -/
theorem dss_frz {st : List Stmt} {i : Nat} {g : FB} (h : PSs X st (TSd F g)) (hp : ∀ a, (i, a) ∉ F.pa) : PSs X st (TSd F (bSeq (bFrz i) g)) := PSs.imp h fun E σ H ⟨M, ρ, w, ρ', R, hf, q⟩ => by
  unfold bSeq bFrz at hf
  cases e1 : ρ[i]? with
  | none => rw [e1] at hf; cases hf
  | some s =>
    rw [e1] at hf
    cases s with
    | own ds =>
      simp only at hf
      obtain ⟨M1, s1, R1⟩ := R.frz e1 hp
      exact ⟨M1, _, w, ρ', R1, hf, fun M2 σ2 H2 R2 s2 => q M2 σ2 H2 R2 (fun d v h => s2 d v (Dv.less s1 d h))⟩
    | _ => cases hf
theorem ds_put {i : Nat} {x : Str} {ei ev : Expr} {fi fe : FE} {p1 p2 : Pos} (hN : X.N[i]? = some x) (hv : Vis X.env.scope x) (hd : (x == ("__debug__" : Str)) = false) (hcd : (x == ("__classdict__" : Str)) = false)
    (hi : PE X ei (TEd F fi)) (he : PE X ev (TEd F fe)) (h1 : swapsWithSole [.Subscript (.Name x p1) ei p2] ev pos.line X.env = pure false) (h2 : swappedStores [.Subscript (.Name x p1) ei p2] ev X.env = pure none)
    (h3 : (assignEach [.Subscript (.Name x p1) ei p2] X.env).map (·.2) = [assign (.Subscript (.Name x p1) ei p2) X.env])
    (ha : ∀ v, assign (.Subscript (.Name x p1) ei p2) X.env v = (do
      let ov ← holding [v] (eval (.Name x p1) X.env)
      let iv ← holding [v, ov] (eval ei X.env)
      standAt p2
      holding [v, ov, iv] (setItem ov iv v)
      release [v, ov, iv] [])) :
    PS X (.Assign [.Subscript (.Name x p1) ei p2] ev pos) (TSd F (bPut i fi fe)) := PS.imp (ps_asg he (pg_sub (pe_var hN hv hd hcd) hi set_list ha) h1 h2 h3) fun E σ H ⟨M, ρ, w, ρ', R, hf, q⟩ => by
  unfold bPut at hf
  split at hf
  · rename_i d ρ1 e1
    split at hf
    · cases hf
    · rename_i ds0 e0
      split at hf
      · rename_i k ρ2 e2
        split at hf
        · rename_i ds e3
          split at hf
          · rename_i j e4
            cases hf
            refine ⟨M, ρ, _, ρ1, R, e1, fun v M1 H1 s1 R1 k1 ok1 => ?_⟩
            obtain ⟨a, xs0, ea, _⟩ := R1.ownRef e0
            refine ⟨.ref a, ea, M1, ρ1, _, ρ2, R1, e2, fun iv M2 H2 s2 R2 k2 ok2 => ?_⟩
            cases (show iv = .int k from ok2)
            obtain ⟨a', xs, g1, m, c1, c2⟩ := R2.ownRef e3
            rw [ea] at g1
            cases g1
            have dv := Dv.keep k2 R1.mm d ok1
            refine ⟨a, xs, k, j, rfl, rfl, c1, by rw [← c2.length]; exact e4, ?_⟩
            refine q M2 _ _ (R2.putOwn (ownAt_some e3) ea (DvS.set j c2 (Dv.less s2 d dv))) ?_
            exact (Stp.of R (fun b z => .inl (s1 b (s2 b z))) (k1.trans (k2.mono s1))).trans fun d v h => Dv.keep (Keep.put m) R2.mm d h
          · cases hf
        · cases hf
      · cases hf
  · cases hf
end
end SC

set_option Elab.async false
set_option linter.all false
set_option maxRecDepth 100000
namespace SC
open PySem PySem.Spec PyProof.Rows L2

def forL (p : Pt) (fb : FB) : List D → Ev → Option (Fw × Ev)
  | [], ρ => some (.nx, ρ)
  | d :: ds, ρ => match bindPt p d ρ with
    | none => none
    | some ρa => match fb ρa with
      | none => none
      | some (.nx, ρb) => forL p fb ds ρb
      | some (.ct, ρb) => forL p fb ds ρb
      | some (.bk, ρb) => some (.nx, ρb)
      | some (.rt d, ρb) => some (.rt d, ρb)
def bFor (p : Pt) (src : FS) (fb : FB) : FB := fun ρ => match src ρ with
  | none => none
  | some (ds, os, ρ1) => match datAll os with
    | none => none
    | some _ => forL p fb ds ρ1
def whL (ft : FT) (fb : FB) : Nat → Ev → Option (Fw × Ev)
  | 0, _ => none
  | n + 1, ρ => match ft ρ with
    | none => none
    | some (false, ρ1) => some (.nx, ρ1)
    | some (true, ρ1) => match fb ρ1 with
      | none => none
      | some (.nx, ρb) => whL ft fb n ρb
      | some (.ct, ρb) => whL ft fb n ρb
      | some (.bk, ρb) => some (.nx, ρb)
      | some (.rt d, ρb) => some (.rt d, ρb)
def bWh (fuel : Ev → Nat) (ft : FT) (fb : FB) : FB := fun ρ => whL ft fb (fuel ρ) ρ
theorem datAll_do {F : Fx} {M M2 : Ms} {H H2 : Hp} {σ : Sg} (st : Stp F M M2 H H2) : ∀ {os : List Opd} {vs : List V} {es es' : List D} {ρ : Ev}, OpdsOk F M H σ os vs → datAll os = some es → getAll ρ os = some es' → DoS F M2 H2 es' vs
  | _, _, es, es', ρ, .nil, _, h => by
    cases h
    exact .nil
  | .dat d :: os, v :: vs, es, es', ρ, .cons h t, h1, h2 => by
    simp only [datAll, Option.map_eq_some_iff] at h1
    obtain ⟨es1, h3, _⟩ := h1
    simp only [getAll] at h2
    split at h2
    · rename_i d' ds' g1 g2
      cases h2
      cases g1
      exact .cons (.inl (st d v h)) (datAll_do st t h3 g2)
    · cases h2
  | .slot i :: os, v :: vs, es, es', ρ, .cons h t, h1, h2 => by cases h1
section
variable {X : Cx} {F : Fx} {pos : Pos}
theorem for_read {p : Pt} {src : FS} {fb : FB} (hp : ∀ i ∈ p.slots, ∀ a, (i, a) ∉ F.pa) {E : Ends} {σ : Sg} {H : Hp} (h : TSd F (bFor p src fb) E σ H) : tFor (TId F src) (TGd F p) (TSd F fb) E σ H := by
  obtain ⟨M, ρ, w, ρ', R, hf, q⟩ := h
  unfold bFor at hf
  cases e1 : src ρ with
  | none => rw [e1] at hf; cases hf
  | some p1 =>
    obtain ⟨ds, os, ρ1⟩ := p1
    rw [e1] at hf
    simp only at hf
    cases e2 : datAll os with
    | none => rw [e2] at hf; cases hf
    | some es0 =>
      rw [e2] at hf
      simp only at hf
      refine ⟨M, ρ, ds, os, ρ1, R, e1, fun J vs es M1 H1 s1 R1 k1 ok1 ge itok => ?_⟩
      have st1 := Stp.of R (fun a z => .inl (s1 a z)) k1
      refine ⟨fun i m σ' H' => m = ds.length - i ∧ i ≤ ds.length ∧ ∃ M2 ρ2, ER F M2 ρ2 σ' H' ∧ Stp F M1 M2 H1 H' ∧ forL p fb (ds.drop i) ρ2 = some (w, ρ'), ⟨ds.length, by simp, Nat.zero_le _, M1, ρ1, R1, Stp.rfl, hf⟩, ?_⟩
      rintro i m σ2 H2 ⟨rfl, hi, M2, ρ2, R2, st2, el⟩
      have doS := datAll_do st2 ok1 e2 ge
      have ito := itok M2 H2 i R2.mm doS
      by_cases hlt : i < ds.length
      · refine .inr ⟨(ito.1 ds[i] (by simp [hlt])).1, fun σ' H' => ∃ M2 ρ2, ER F M2 ρ2 σ' H' ∧ Stp F M1 M2 H1 H' ∧ forL p fb (ds.drop (i + 1)) ρ2 = some (w, ρ'), fun σ' H' hh => ⟨ds.length - (i + 1), by omega, rfl, hlt, hh⟩, fun x H3 hy => ?_⟩
        obtain ⟨ex3, dvx⟩ := (ito.1 ds[i] (by simp [hlt])).2 x H3 hy
        rw [List.drop_eq_getElem_cons hlt] at el
        unfold forL at el
        cases b1 : bindPt p ds[i] ρ2 with
        | none => rw [b1] at el; cases el
        | some ρa =>
          rw [b1] at el
          simp only at el
          refine ⟨M2, ρ2, ds[i], ρa, R2.ext ex3, dvx, b1, hp, fun σ3 R3 ag => ?_⟩
          have st3 : Stp F M2 M2 H2 H3 := fun d v h => Dv.ext ex3 d h
          cases f1 : fb ρa with
          | none => rw [f1] at el; cases el
          | some pw =>
            obtain ⟨w1, ρb⟩ := pw
            rw [f1] at el
            refine ⟨M2, ρa, w1, ρb, R3, f1, fun M4 σ4 H4 R4 st4 => ?_⟩
            have st := st2.trans (st3.trans st4)
            cases w1 with
            | nx => exact ⟨M4, ρb, R4, st, el⟩
            | ct => exact ⟨M4, ρb, R4, st, el⟩
            | bk => cases el; exact q M4 σ4 H4 R4 (st1.trans st)
            | rt d => cases el; exact q M4 σ4 H4 R4 (st1.trans st)
      · have ei : i = ds.length := by omega
        refine .inl ⟨ito.2 ei, ?_⟩
        rw [List.drop_eq_nil_of_le (by omega)] at el
        cases el
        exact q M2 σ2 H2 R2 (st1.trans st2)
theorem ds_for {tg iter : Expr} {body : List Stmt} {p : Pt} {src : FS} {fb : FB} (hpo : PassesOwn (model X.prog X.w) X.A X.env X.xe) (hc : X.calm = true) (hi : PI X tg iter (TId F src)) (hg : PG X tg (TGd F p)) (hb : PSs X body (TSd F fb))
    (hs : ∀ x, foldedSetIterable iter X.env x = pure x) (hp : ∀ i ∈ p.slots, ∀ a, (i, a) ∉ F.pa) : PS X (.For tg iter body [] pos) (TSd F (bFor p src fb)) :=
  PS.imp (ps_for hpo hc hi hg hb hs) fun _ _ _ => for_read hp
theorem wh_read {fuel : Ev → Nat} {ft : FT} {fb : FB} {E : Ends} {σ : Sg} {H : Hp} (h : TSd F (bWh fuel ft fb) E σ H) : tWhile (TTd F ft) (TSd F fb) E σ H := by
  obtain ⟨M, ρ, w, ρ', R, hf, q⟩ := h
  refine ⟨fun m σ' H' => ∃ M2 ρ2, ER F M2 ρ2 σ' H' ∧ Stp F M M2 H H' ∧ whL ft fb m ρ2 = some (w, ρ'), ⟨fuel ρ, M, ρ, R, Stp.rfl, hf⟩, ?_⟩
  rintro m σ2 H2 ⟨M2, ρ2, R2, st2, el⟩
  cases m with
  | zero => cases el
  | succ n =>
    unfold whL at el
    cases t1 : ft ρ2 with
    | none => rw [t1] at el; cases el
    | some pb =>
      obtain ⟨b, ρ3⟩ := pb
      rw [t1] at el
      refine ⟨M2, ρ2, b, ρ3, R2, t1, fun M3 H3 s3 R3 k3 => ?_⟩
      have st3 := st2.trans (Stp.of R2 (fun a z => .inl (s3 a z)) k3)
      cases b with
      | false =>
        show if false = true then _ else _
        rw [if_neg Bool.false_ne_true]
        cases el
        exact q M3 σ2 H3 R3 st3
      | true =>
        show if true = true then _ else _
        rw [if_pos rfl]
        refine ⟨fun σ' H' => ∃ M2 ρ2, ER F M2 ρ2 σ' H' ∧ Stp F M M2 H H' ∧ whL ft fb n ρ2 = some (w, ρ'), fun σ' H' hh => ⟨n, Nat.lt_succ_self n, hh⟩, ?_⟩
        simp only at el
        cases f1 : fb ρ3 with
        | none => rw [f1] at el; cases el
        | some pw =>
          obtain ⟨w1, ρb⟩ := pw
          rw [f1] at el
          refine ⟨M3, ρ3, w1, ρb, R3, f1, fun M4 σ4 H4 R4 st4 => ?_⟩
          have st := st3.trans st4
          cases w1 with
          | nx => exact ⟨M4, ρb, R4, st, el⟩
          | ct => exact ⟨M4, ρb, R4, st, el⟩
          | bk => cases el; exact q M4 σ4 H4 R4 st
          | rt d => cases el; exact q M4 σ4 H4 R4 st
theorem ds_while {c : Expr} {body : List Stmt} {fuel : Ev → Nat} {ft : FT} {fb : FB} (hpo : PassesOwn (model X.prog X.w) X.A X.env X.xe) (hc : PT X c (TTd F ft)) (hb : PSs X body (TSd F fb)) : PS X (.While c body [] pos) (TSd F (bWh fuel ft fb)) :=
  PS.imp (ps_while hpo hc hb) fun _ _ _ => wh_read
/-- target = a value -/
def bBind (p : Pt) (fe : FE) : FB := fun ρ => match fe ρ with
  | some (.dat d, ρ1) => match bindPt p d ρ1 with
    | some ρ2 => some (.nx, ρ2)
    | none => none
  | _ => none
theorem ds_bind {tg e : Expr} {p : Pt} {fe : FE} (he : PE X e (TEd F fe)) (hg : PG X tg (TGd F p)) (hs : swapsWithSole [tg] e pos.line X.env = pure false) (hw : swappedStores [tg] e X.env = pure none)
    (h1 : (assignEach [tg] X.env).map (·.2) = [assign tg X.env]) (hp : ∀ i ∈ p.slots, ∀ a, (i, a) ∉ F.pa) : PS X (.Assign [tg] e pos) (TSd F (bBind p fe)) :=
  PS.imp (ps_asg he hg hs hw h1) fun E σ H ⟨M, ρ, w, ρ', R, hf, q⟩ => by
    unfold bBind at hf
    split at hf
    · rename_i d ρ1 e1
      split at hf
      · rename_i ρ2 e2
        cases hf
        exact ⟨M, ρ, _, ρ1, R, e1, fun v M1 H1 s1 R1 k1 ok1 => ⟨M1, ρ1, d, _, R1, ok1, e2, hp, fun σ2 R2 ag => q M1 σ2 H1 R2 (Stp.of R (fun a z => .inl (s1 a z)) k1)⟩⟩
      · cases hf
    · cases hf
/-- several operands stored at names -/
theorem store_ks : ∀ {is : List Nat} {ks : List Kd} {vs : List V} {M : Ms} {ρ ρ' : Ev} {σ : Sg} {H : Hp}, ER F M ρ σ H → Paired (KdOk F M H) ks vs → (newsOf ks vs).Nodup → (∀ p ∈ newsOf ks vs, ¬ Mad ρ σ p) → setKs ρ is ks = some ρ' →
    (∀ i ∈ is, ∀ a, (i, a) ∉ F.pa) → ∃ σ', ER F M ρ' σ' H ∧ is.length = vs.length ∧ σ' = (is.zip vs).foldl (fun σ p => σ.set p.1 (some p.2)) σ
  | [], [], _, M, ρ, ρ', σ, H, R, .nil, _, _, h, _ => by
    cases h
    exact ⟨σ, R, rfl, rfl⟩
  | i :: is, .dat d :: ks, v :: vs, M, ρ, ρ', σ, H, R, .cons hk t, nd, no, h, hp => by
    have R1 := R.setDat (i := i) (show Dv F.K F.T M H d v from hk) (hp i List.mem_cons_self)
    obtain ⟨σ', R2, h1, h2⟩ := store_ks (is := is) R1 t nd (fun p hp' z => no p hp' (Mad.of_setDat z)) h fun j hj => hp j (List.mem_cons_of_mem _ hj)
    exact ⟨σ', R2, by simp [h1], h2⟩
  | i :: is, .new ds :: ks, v :: vs, M, ρ, ρ', σ, H, R, .cons hk t, nd, no, h, hp => by
    obtain ⟨p, xs, rfl, m, h0, e1, e2⟩ := hk
    obtain ⟨nd1, nd2⟩ := List.nodup_cons.mp nd
    have R1 := R.setOwn (i := i) m (no p List.mem_cons_self) h0 e1 e2 (hp i List.mem_cons_self)
    obtain ⟨σ', R2, h1, h2⟩ := store_ks (is := is) R1 t nd2 (fun r hr z => by
      rcases Mad.of_setOwn z with y | y
      · exact nd1 (by rw [← y]; exact hr)
      · exact no r (List.mem_cons_of_mem _ hr) y) h fun j hj => hp j (List.mem_cons_of_mem _ hj)
    exact ⟨σ', R2, by simp [h1], h2⟩
  | [], _ :: _, _, M, ρ, ρ', σ, H, R, _, _, _, h, _ => by cases h
  | _ :: _, [], _, M, ρ, ρ', σ, H, R, _, _, _, h, _ => by cases h
theorem KdsOk.stp {M M1 : Ms} {ρ ρ' : Ev} {σ : Sg} {H H1 : Hp} {ks : List Kd} {vs : List V} (R : ER F M ρ σ H) (n : KdsOk F M1 ρ' σ M H H1 ks vs) (s : ∀ a, M1 a → M a ∨ a ∈ newsOf ks vs) (k : Keep M H H1) : Stp F M M1 H H1 :=
  Stp.of R (fun a z => (s a z).elim .inl fun e => n.old a e) k
theorem setKs_len : ∀ {is : List Nat} {ks : List Kd} {ρ ρ' : Ev}, setKs ρ is ks = some ρ' → is.length = ks.length
  | [], [], _, _, _ => rfl
  | i :: is, .dat d :: ks, ρ, ρ', h => by simp [setKs_len (is := is) (ks := ks) h]
  | i :: is, .new d :: ks, ρ, ρ', h => by simp [setKs_len (is := is) (ks := ks) h]
  | [], _ :: _, _, _, h => by cases h
  | _ :: _, [], _, _, h => by cases h
theorem par_read {is : List Nat} {fm : FM} (hp : ∀ i ∈ is, ∀ a, (i, a) ∉ F.pa) {E : Ends} {σ : Sg} {H : Hp} (h : TSd F (bPar is fm) E σ H) :
    TAn F fm σ H fun vs H1 => is.length = vs.length ∧ E.nx ((is.zip vs).foldl (fun σ p => σ.set p.1 (some p.2)) σ) H1 := by
  obtain ⟨M, ρ, w, ρ', R, hf, q⟩ := h
  unfold bPar at hf
  split at hf
  · rename_i ks ρ1 e1
    split at hf
    · rename_i ρ2 e2
      cases hf
      refine ⟨M, ρ, ks, ρ1, R, e1, fun vs M1 H1 s1 R1 k1 n => ?_⟩
      obtain ⟨σ', R2, hl, e3⟩ := store_ks R1 n.ok n.nod n.no e2 hp
      refine ⟨hl, ?_⟩
      have := q M1 σ' H1 R2 (n.stp R s1 k1)
      rw [e3] at this
      exact this
    · cases hf
  · cases hf
theorem TAn.mono {fm : FM} {σ : Sg} {H : Hp} {Q Q' : List V → Hp → Prop} (h : TAn F fm σ H Q) (g : ∀ vs H1, Q vs H1 → Q' vs H1) : TAn F fm σ H Q' := by
  obtain ⟨M, ρ, ks, ρ', R, hf, q⟩ := h
  exact ⟨M, ρ, ks, ρ', R, hf, fun vs M1 H1 s1 R1 k1 n => g _ _ (q vs M1 H1 s1 R1 k1 n)⟩
theorem ds_par2 {i j : Nat} {x y : Str} {a b : Expr} {fm : FM} {px py pt : Pos} {kt k2 pt2} (hc : X.calm = true) (hN : X.N.Nodup) (hi : X.N[i]? = some x) (hj : X.N[j]? = some y) (hij : i ≠ j)
    (hx : X.env.scope.names.lookup x = some .local) (hy : X.env.scope.names.lookup y = some .local) (ha : PA X [a, b] (TAn F fm))
    (hw : swappedStores [.Tuple [.Name x px, .Name y py] kt pt] (.Tuple [a, b] k2 pt2) X.env = pure (some [x, y]))
    (hs : swapsWithSole [.Tuple [.Name x px, .Name y py] kt pt] (.Tuple [a, b] k2 pt2) pos.line X.env = pure false) (hp : ∀ l ∈ [i, j], ∀ a, (l, a) ∉ F.pa) :
    PS X (.Assign [.Tuple [.Name x px, .Name y py] kt pt] (.Tuple [a, b] k2 pt2) pos) (TSd F (bPar [i, j] fm)) :=
  PS.imp (ps_par hc hN hi hj hij hx hy ha hw hs) fun E σ H h => TAn.mono (par_read hp h) fun vs H1 ⟨hl, q⟩ => by
    match vs, hl, q with
    | [v, w], _, q => exact ⟨v, w, rfl, q⟩
theorem ds_par3 {i j l : Nat} {x y z : Str} {a b c : Expr} {fm : FM} {px py pz pt : Pos} {kt k2 pt2} (hc : X.calm = true) (hN : X.N.Nodup) (hi : X.N[i]? = some x) (hj : X.N[j]? = some y) (hl : X.N[l]? = some z) (hij : i ≠ j) (hil : i ≠ l) (hjl : j ≠ l)
    (hx : X.env.scope.names.lookup x = some .local) (hy : X.env.scope.names.lookup y = some .local) (hz : X.env.scope.names.lookup z = some .local) (ha : PA X [a, b, c] (TAn F fm))
    (hw : swappedStores [.Tuple [.Name x px, .Name y py, .Name z pz] kt pt] (.Tuple [a, b, c] k2 pt2) X.env = pure (some [x, y, z]))
    (hs : swapsWithSole [.Tuple [.Name x px, .Name y py, .Name z pz] kt pt] (.Tuple [a, b, c] k2 pt2) pos.line X.env = pure false) (hp : ∀ l' ∈ [i, j, l], ∀ a, (l', a) ∉ F.pa) :
    PS X (.Assign [.Tuple [.Name x px, .Name y py, .Name z pz] kt pt] (.Tuple [a, b, c] k2 pt2) pos) (TSd F (bPar [i, j, l] fm)) :=
  PS.imp (ps_par3 hc hN hi hj hl hij hil hjl hx hy hz ha hw hs) fun E σ H h => TAn.mono (par_read hp h) fun vs H1 ⟨hl, q⟩ => by
    match vs, hl, q with
    | [v, w, u], _, q => exact ⟨v, w, u, rfl, q⟩
/-- .. where the tuple is laid -/
inductive NmT (X : Cx) : List Nat → List Expr → Prop where
  | nil : NmT X [] []
  | cons {i : Nat} {x : Str} {p : Pos} {is : List Nat} {es : List Expr} (hi : X.N[i]? = some x) (hx : Loc X.env.scope x) (hf : X.fn x = true ∨ X.env.scope.names.lookup x = some .local) (h : NmT X is es)
      (hs : (assignEach (.Name x p :: es) X.env).map (·.2) = assign (.Name x p) X.env :: (assignEach es X.env).map (·.2)) : NmT X (i :: is) (.Name x p :: es)
def gSts (is : List Nat) : TGs := fun vs σ H Q => is.length = vs.length ∧ Q ((is.zip vs).foldl (fun σ p => σ.set p.1 (some p.2)) σ) H
theorem pgs_nm (hN : X.N.Nodup) : ∀ {is : List Nat} {es : List Expr}, NmT X is es → PGs X es (gSts is)
  | _, _, .nil => PGs.imp pgs_nil fun vs σ H Q ⟨h1, h2⟩ => by
    cases vs with
    | nil => exact ⟨rfl, h2⟩
    | cons _ _ => cases h1
  | _, _, .cons hi hx hf h hs => PGs.imp (pgs_cons (pg_name hN hi hx hf) (pgs_nm hN h) hs) fun vs σ H Q ⟨h1, h2⟩ => by
    cases vs with
    | nil => cases h1
    | cons v r => exact ⟨v, r, rfl, by simpa using h1, h2⟩
theorem ER.upTup {M : Ms} {ρ : Ev} {σ : Sg} {H : Hp} (R : ER F M ρ σ H) {p : Addr} {xs : List V} (hp : H p = none) : ER F M ρ σ (upd H p (.tup xs)) := R.ext (Ext.new hp)
theorem ds_parT {is : List Nat} {ts es : List Expr} {fm : FM} {kt k2 : Nat} {pt pt2 : Pos} {n : Nat} (hK : F.K = X.K) (hc : X.calm = true) (hN : X.N.Nodup) (hn : NmT X is ts) (ha : PA X es (TAn F fm))
    (hl : (assignEach ts X.env).length = n) (hln : is.length = n) (hst : (assignEach ts X.env).findIdx? (·.1) = none)
    (hs : swapsWithSole [.Tuple ts kt pt] (.Tuple es k2 pt2) pos.line X.env = pure false) (hw : swappedStores [.Tuple ts kt pt] (.Tuple es k2 pt2) X.env = pure none)
    (h1 : (assignEach [.Tuple ts kt pt] X.env).map (·.2) = [assign (.Tuple ts kt pt) X.env]) (hz : n ≤ sLn) (hp : ∀ l ∈ is, ∀ a, (l, a) ∉ F.pa) :
    PS X (.Assign [.Tuple ts kt pt] (.Tuple es k2 pt2) pos) (TSd F (bPar is fm)) := by
  obtain ⟨K, T, M0, pa, H0⟩ := F
  cases hK
  refine PS.imp (ps_asg (pe_tup ha) (pg_tup (n := n) hc (pgs_nm hN hn) hl hst) hs hw h1) ?_
  rintro E σ H ⟨M, ρ, w, ρ', R, hf, q⟩
  unfold bPar at hf
  split at hf
  · rename_i ks ρ1 e1
    split at hf
    · rename_i ρ2 e2
      cases hf
      refine ⟨M, ρ, ks, ρ1, R, e1, fun vs M1 H1 s1 R1 k1 nn => ?_⟩
      obtain ⟨σ', R2, hl2, e3⟩ := store_ks R1 nn.ok nn.nod nn.no e2 hp
      refine ⟨by rw [← hl2, hln, ← sLn_eq]; exact hz, fun p hp' => ⟨p, vs, rfl, SqT.of upd_same, by rw [← hl2, hln], hl2, ?_⟩⟩
      rw [← e3]
      exact q M1 σ' _ (R2.ext (Ext.new hp')) ((nn.stp R s1 k1).trans fun d v h => Dv.ext (Ext.new hp') d h)
    · cases hf
  · cases hf
end
end SC

set_option Elab.async false
set_option linter.all false
set_option maxRecDepth 100000
namespace SC
open PySem PySem.Spec PyProof.Rows L2

/-! ### calls, with nothing being shown around them -/
abbrev SpG := List V → Hp → VK → Prop
def GR (outer : List Env) (P : Program) (w : World) (H : Hp) (s : Shared) (Q : VK) (r : Result) (s' : Shared) : Prop := ∃ u, r = .ok (.ret u) ∧ CE outer P w H s Q u s'
structure FnG (P : Program) (w : World) (K : PySem.W.Frag) (mg : Str → Option Value) (base : Heap) (k : Nat) (f : Addr) (fd : FuncData) (ps : List Str) (sp : SpG) : Prop where
  len : ∀ vs H Q, sp vs H Q → vs.length = ps.length
  run : ∀ (A : Around) (outer : List Env) (s : Shared) (H : Hp) (args : Args) (us : List Value) (vs : List V) (Q : VK), Room k A → A.guards = some [] → Env0 P w K mg base A outer s H →
    BindsTo s fd args (ps.zip us) → Vals vs us → sp vs H Q → codeAny (model P w) A (.call (.ref f) args) (GR outer P w H s Q) s
theorem FnG.mono {P : Program} {w : World} {K : PySem.W.Frag} {mg : Str → Option Value} {base : Heap} {j k : Nat} {f : Addr} {fd : FuncData} {ps : List Str} {sp : SpG} (F : FnG P w K mg base j f fd ps sp) (h : j ≤ k) : FnG P w K mg base k f fd ps sp :=
  ⟨F.len, fun A outer s H args us vs Q hr => F.run A outer s H args us vs Q (hr.mono h)⟩
theorem FnG.imp {P : Program} {w : World} {K : PySem.W.Frag} {mg : Str → Option Value} {base : Heap} {k : Nat} {f : Addr} {fd : FuncData} {ps : List Str} {sp sp' : SpG} (F : FnG P w K mg base k f fd ps sp) (h : ∀ vs H Q, sp' vs H Q → sp vs H Q) : FnG P w K mg base k f fd ps sp' :=
  ⟨fun vs H Q q => F.len vs H Q (h _ _ _ q), fun A outer s H args us vs Q hr hg e0 hb rv q => F.run A outer s H args us vs Q hr hg e0 hb rv (h _ _ _ q)⟩
section
variable {X : Cx} {k : Nat} {f : Addr} {fd : FuncData} {ps : List Str} {sp : SpG} {dvs : List V} {ds : List Value} {x : Str} {p pos : Pos} {e : Expr} {es : List Expr} {t : TA}
/-- the callee, from a body -/
theorem FnG.step (F : FnG X.prog X.w X.K X.mg X.base k f fd ps sp) (hr : Room k X.A) (gd : X.A.guards = some []) {pins : List (Addr × Obj)} {σ : Sg} {H : Hp} {s : Shared} {Q : VK} {us ws : List Value} {kws : List (Str × Value)} {vs : List V}
    (I : Inv X pins σ H s) (hb : BindsTo s fd ⟨us, kws⟩ (ps.zip ws)) (rv : Vals vs ws) (h : sp vs H Q) : wpAny (model X.prog X.w) X.A (call (.ref f) us kws) (EP X pins σ Q) X.xe s := by
  refine wpAny_call (codeAny_mono (F.run X.A X.stack s H ⟨us, kws⟩ ws vs Q hr gd I.env0 hb rv h) ?_)
  rintro _ s2 ⟨u, rfl, c⟩
  exact I.after c
def tCallG (sp : SpG) (dvs : List V) (t : TA) : TE := fun σ H Q => t σ H fun vs H1 => sp (vs ++ dvs) H1 Q
theorem pe_callG (F : FnG X.prog X.w X.K X.mg X.base k f fd ps sp) (hr : Room k X.A) (gd : X.A.guards = some []) (hg : Gl X x) (hm : X.mg x = some (.ref f)) (hk : PySem.W.keepIn X.K (.ref f) = true) (hb : Binds X.K fd ps ds) (hd : Vals dvs ds)
    (ha : PA X (e :: es) t) (hdb : (x == ("__debug__" : Str)) = false) (he : starEach (e :: es) X.env = (false, eval e X.env) :: starEach es X.env) (hpl : (backTo pos (starEach es X.env)).any (·.1) = false) : PE X (.Call (.Name x p) (e :: es) [] pos) (tCallG sp dvs t) :=
  ⟨fun pins s σ H Q I h => wpAny_Call_Name_kw (ld_glob I hg hm (PySem.W.callWith_K (h₀ := X.base) I.ok.mod.kin hk (thn (ha.run pos pins s σ H _ I h) fun us s1 ⟨vs, H1, I1, r, q⟩ => ⟨I1.kIn, by
    have r2 := r.append hd
    exact F.step hr gd I1 (hb s1 us I1.kIn (by rw [← r2.length]; exact F.len _ _ _ q)) r2 q⟩) he hpl) hdb)⟩
theorem pe_callG0 (F : FnG X.prog X.w X.K X.mg X.base k f fd ps sp) (hr : Room k X.A) (gd : X.A.guards = some []) (hg : Gl X x) (hm : X.mg x = some (.ref f)) (hk : PySem.W.keepIn X.K (.ref f) = true) (hb : Binds X.K fd ps ds) (hd : Vals dvs ds)
    (hdb : (x == ("__debug__" : Str)) = false) : PE X (.Call (.Name x p) [] [] pos) (tCallG sp dvs tNil) :=
  ⟨fun pins s σ H Q I h => wpAny_Call_Name_kw (ld_glob I hg hm (PySem.W.callWith_K0 I.kIn hk (by
    have r2 := Vals.append (xs := []) (us := []) .nil hd
    exact F.step hr gd I (hb s [] I.kIn (by rw [← r2.length]; exact F.len _ _ _ h)) r2 h)) hdb)⟩
end

-- (L2.CX0: none leaves)
theorem FnG.ofOk {P : Program} {w : World} {K : PySem.W.Frag} {mg : Str → Option Value} {base : Heap} {k : Nat} {f : Addr} {fd : FuncData} {ps : List Str} {sp : SpG} (F : FnOk P w K mg base CX0 k f fd ps fun vs H Q _ => sp vs H Q) : FnG P w K mg base k f fd ps sp where
  len := fun vs H Q q => F.len vs H Q (fun _ _ _ => False) q
  run := fun A outer s H args us vs Q hr _ e0 hb rv q => codeAny_mono (F.run A outer s H args us vs Q (fun _ _ _ => False) hr e0 hb rv q) fun r s2 h => by
    cases r with
    | error e => exact False.elim h
    | ok fl =>
      cases fl with
      | ret u => exact ⟨u, rfl, h⟩
      | next => exact False.elim h
      | brk => exact False.elim h
      | cont => exact False.elim h
theorem passes0 {X : Cx} {E : XK} : Passes CX0 X E := fun _ _ _ _ _ _ _ z => False.elim z
/-- the context of a def's body -/
abbrev bodyCx (P : Program) (w : World) (K : PySem.W.Frag) (mg : Str → Option Value) (base : Heap) (N : List Str) (qual : Str) (scope : Scope) (f : Addr) (cd : Value) (A : Around) (outer : List Env) (s : Shared) (H : Hp) (E : XK) : Cx :=
  cxOf CX0 P w K mg base N qual scope f cd A outer s H E
theorem bodyCx_own {P : Program} {w : World} {K : PySem.W.Frag} {mg : Str → Option Value} {base : Heap} {N : List Str} {qual : Str} {scope : Scope} {f : Addr} {cd : Value} {A : Around} {outer : List Env} {s : Shared} {H : Hp} {E : XK} :
    PassesOwn (model P w) (bodyCx P w K mg base N qual scope f cd A outer s H E).A (bodyCx P w K mg base N qual scope f cd A outer s H E).env (bodyCx P w K mg base N qual scope f cd A outer s H E).xe :=
  passes_of (X := bodyCx P w K mg base N qual scope f cd A outer s H E) rfl
/-- a def keeps its promise, by its body -/
theorem FnG.of {P : Program} {w : World} {K : PySem.W.Frag} {mg : Str → Option Value} {base : Heap} {k : Nat} {f : Addr} {name qual : Str} {params : Arguments} {body : List Stmt} {scope : Scope} {dV kV doc pm cdv ct oc : Value} {an od : Option Addr} {osl : Array (Option Value)} {N ps : List Str} {sp : SpG}
    (lk : K.lookup f = some ⟨oc, od, .func (PySem.W.fnOf name qual params body scope dV kV doc pm an cdv ct), osl⟩) (hcd : PySem.W.codeIn K cdv qual = true) (S : FnScope N ps scope) (len : ∀ vs H Q, sp vs H Q → vs.length = ps.length)
    (go : ∀ (A : Around) (outer : List Env) (s : Shared) (H : Hp) (vs : List V) (Q : VK), Room k (A.deeper (envOfC qual scope s.heap.objs.size f cdv)) → A.guards = some [] → sp vs H Q →
      ∃ t, PSs (bodyCx P w K mg base N qual scope f cdv A outer s H fun _ _ _ => False) body t ∧ t { nx := fun _ H' => Q .non H', rt := Q } (start N vs) H) :
    FnG P w K mg base (k + 1) f (PySem.W.fnOf name qual params body scope dV kV doc pm an cdv ct) ps sp where
  len := len
  run := fun A outer s H args us vs Q hr gd e0 hb rv hsp => by
    have vlen := len _ _ _ hsp
    have kin : K.In s.heap := e0.mod.kin.keeps fun b o z => (e0.bs b o z).1
    have nolim : s.heap.NoLimit := e0.mod.nolimit.keeps fun b o z => (e0.bs b o z).1
    have kinds : ∀ z ∈ ps.zip us, scope.names.lookup z.1 = some .local ∨ (scope.names.lookup z.1 = some .cell ∧ ((cellsFrom (s.heap.objs.size + 1) scope.names []).lookup z.1).isSome = true) := by
      rintro ⟨nm, vl⟩ hz
      exact (S.par nm (List.of_mem_zip hz).1).imp id fun c => ⟨c, PySem.W.cellsFrom_some _ _ _ (.inl c)⟩
    obtain ⟨t, bodyOk, tq⟩ := go A outer s H vs Q (hr.deeper _) gd hsp
    apply codeAny_call_function hr.depth (kin _ _ lk) rfl S.co S.gen rfl (PySem.W.codeRec_of kin hcd)
    apply hb
    apply wpAny_newFunctionEnv_cells S.kind kinds
    rintro env rfl sN inc
    refine ⟨nolim.keeps inc.toInCall.keep, codeAny_func (wpAny_mono (bodyOk.run [] sN _ H _ (inv_start S hr.hd e0 vlen rv inc) tq) ?_ ?_)⟩
    · intro fl s2 hs
      cases fl with
      | next => obtain ⟨σ2, H2, J, q⟩ := hs; exact ⟨Value.none, rfl, V.non, H2, J.os, J.bare, J.base, J.hok, rfl, q⟩
      | ret u => obtain ⟨v, σ2, H2, J, r2, q⟩ := hs; exact ⟨u, rfl, v, H2, J.os, J.bare, J.base, J.hok, r2, q⟩
      | brk => obtain ⟨_, _, _, q⟩ := hs; exact q.elim
      | cont => obtain ⟨_, _, _, q⟩ := hs; exact q.elim
    · intro e s2 hs
      refine wpAny_mono hs ?_ ?_
      · rintro _ _ z
        exact False.elim z
      · rintro _ _ z
        exact False.elim z
end SC

set_option Elab.async false
set_option linter.all false
set_option maxRecDepth 100000
namespace SC
open PySem PySem.Spec PyProof.Rows L2

/-! ### defs over data -/
abbrev FG := List Sl → Option (D × List Sl)
def spD (K : PySem.W.Frag) (T : Cl) (n : Nat) (g : FG) : SpG := fun vs H Q => vs.length = n ∧ ∃ M ss r outs, SE K T M ss (vs.map some) H ∧ g ss = some (r, outs) ∧
  ∀ v H', Ke T (Mad ss (vs.map some)) H H' →
    (∀ (m : Nat) (s : Sl), ss[m]? = some s → s.mut = true → ∃ (o : Sl) (a : Addr), outs[m]? = some o ∧ o.mut = true ∧ vs[m]? = some (.ref a) ∧ MutAt K T M H' a o) → Dv K T M H' r v → Q v H'
def frD : Option (Fw × Ev) → Option (D × List Sl)
  | some (.rt d, ρ) => some (d, ρ)
  | some (.nx, ρ) => some (.non, ρ)
  | _ => none
/-- a def: N names, the parameters that the body sets, the body -/
def fnD (N : Nat) (asg : List Nat) (fb : FB) : FG := fun ss =>
  if asg.all fun i => match ss[i]? with
    | some s => !s.mut
    | none => true
  then frD (fb (ss ++ List.replicate (N - ss.length) .un)) else none
theorem start_len {N : List Str} {vs : List V} (h : vs.length ≤ N.length) : (L2.start N vs).length = N.length := by
  unfold L2.start
  rw [List.length_append, List.length_map, List.length_replicate]
  omega
theorem se_start {K : PySem.W.Frag} {T : Cl} {M : Ms} {H : Hp} {N : List Str} {ss : List Sl} {vs : List V} (S : SE K T M ss (vs.map some) H) (hl : vs.length ≤ N.length) : SE K T M (ss ++ List.replicate (N.length - ss.length) .un) (L2.start N vs) H := by
  have ls : ss.length = vs.length := by have := S.ln; rw [List.length_map] at this; exact this
  have get : ∀ (i : Nat) (s : Sl), (ss ++ List.replicate (N.length - ss.length) .un)[i]? = some s → s.mut = true → ss[i]? = some s ∧ (L2.start N vs)[i]? = (vs.map some)[i]? := fun i s h m => by
    by_cases hi : i < ss.length
    · rw [List.getElem?_append_left hi] at h
      exact ⟨h, by unfold L2.start; rw [List.getElem?_append_left (by rw [List.length_map]; omega)]⟩
    · rw [List.getElem?_append_right (by omega), List.getElem?_replicate] at h
      split at h
      · cases h; cases m
      · cases h
  refine ⟨S.mm, ?_, fun i s h => ?_, fun i j s t v h1 m1 h2 m2 e1 e2 => ?_⟩
  · rw [start_len hl, List.length_append, List.length_replicate]
    omega
  · by_cases hi : i < ss.length
    · rw [List.getElem?_append_left hi] at h
      obtain ⟨v, g1, g2⟩ := S.sl i s h
      exact ⟨v, by unfold L2.start; rw [List.getElem?_append_left (by rw [List.length_map]; omega)]; exact g1, g2⟩
    · have hn : i < N.length := by
        have := (List.getElem?_eq_some_iff.mp h).1
        rw [List.length_append, List.length_replicate] at this
        omega
      rw [List.getElem?_append_right (by omega), List.getElem?_replicate] at h
      split at h
      · cases h
        refine ⟨none, ?_, trivial⟩
        unfold L2.start
        rw [List.getElem?_append_right (by rw [List.length_map]; omega), List.getElem?_replicate, List.length_map, if_pos (by omega)]
      · cases h
  · obtain ⟨a1, a2⟩ := get i s h1 m1
    obtain ⟨b1, b2⟩ := get j t h2 m2
    exact S.ap i j s t v a1 m1 b1 m2 (by rw [← a2]; exact e1) (by rw [← b2]; exact e2)
/-- slots that are no parameters of one's own -/
structure PaOk (F : Fx) (n : Nat) (asg : List Nat) : Prop where
  lt : ∀ p ∈ F.pa, p.1 < n
  na : ∀ p ∈ F.pa, p.1 ∉ asg
theorem PaOk.not {F : Fx} {n : Nat} {asg : List Nat} (h : PaOk F n asg) {i : Nat} (hi : (decide (n ≤ i) || asg.contains i) = true) : ∀ a, (i, a) ∉ F.pa := fun a z => by
  have h1 := h.lt _ z
  have h2 := h.na _ z
  rw [Bool.or_eq_true, decide_eq_true_eq, List.contains_iff_mem] at hi
  rcases hi with hi | hi
  · simp only at h1; omega
  · exact h2 hi
theorem PaOk.nots {F : Fx} {n : Nat} {asg is : List Nat} (h : PaOk F n asg) (hi : (is.all fun i => decide (n ≤ i) || asg.contains i) = true) : ∀ i ∈ is, ∀ a, (i, a) ∉ F.pa := fun i z => h.not (List.all_eq_true.mp hi i z)
/-- a def's entry -/
theorem spD_in {K : PySem.W.Frag} {T : Cl} {N ps : List Str} {scope : Scope} {asg : List Nat} {fb : FB} (S : FnScope N ps scope) {vs : List V} {H : Hp} {Q : VK} (h : spD K T ps.length (fnD N.length asg fb) vs H Q) :
    ∃ F : Fx, F.K = K ∧ F.T = T ∧ PaOk F ps.length asg ∧ TSd F fb { nx := fun _ H' => Q .non H', rt := Q } (L2.start N vs) H := by
  obtain ⟨hv, M, ss, r, outs, se, hg, q⟩ := h
  have hpl : ps.length ≤ N.length := by have := congrArg List.length S.pre; rw [List.length_take] at this; omega
  have ls : ss.length = vs.length := by have := se.ln; rw [List.length_map] at this; exact this
  have S1 := se_start se (N := N) (by rw [hv]; exact hpl)
  generalize hρ : ss ++ List.replicate (N.length - ss.length) .un = ρ0 at S1
  unfold fnD at hg
  rw [hρ] at hg
  split at hg
  case isFalse => cases hg
  case isTrue ha =>
  have madS : ∀ (i : Nat) (s : Sl) (v : Option V), ρ0[i]? = some s → s.mut = true → (L2.start N vs)[i]? = some v → ss[i]? = some s ∧ (vs.map some)[i]? = some v := fun i s v h m e => by
    rw [← hρ] at h
    by_cases hi : i < ss.length
    · rw [List.getElem?_append_left hi] at h
      refine ⟨h, ?_⟩
      unfold L2.start at e
      rw [List.getElem?_append_left (by rw [List.length_map]; omega)] at e
      exact e
    · rw [List.getElem?_append_right (by omega), List.getElem?_replicate] at h
      split at h
      · cases h; cases m
      · cases h
  have pas : PaOk (subF K T M ρ0 (L2.start N vs) H) ps.length asg := by
    refine ⟨fun p hp => ?_, fun p hp z => ?_⟩
    · obtain ⟨s, h1, m, h2⟩ := mem_mads.mp hp
      have := (List.getElem?_eq_some_iff.mp (madS p.1 s _ h1 m h2).1).1
      omega
    · obtain ⟨s, h1, m, h2⟩ := mem_mads.mp hp
      have h3 := (madS p.1 s _ h1 m h2).1
      have := List.all_eq_true.mp ha p.1 z
      rw [h3] at this
      simp only [m] at this
      cases this
  refine ⟨subF K T M ρ0 (L2.start N vs) H, rfl, rfl, pas, ?_⟩
  have fin : ∀ (w1 : Fw) (d : D) (ρ' : Ev) (M' : Ms) (σ' : Sg) (H' : Hp) (v : V), ρ' = outs → d = r → ER (subF K T M ρ0 (L2.start N vs) H) M' ρ' σ' H' → Dv K T M' H' d v → Q v H' := by
    intro w1 d ρ' M' σ' H' v e1 e2 R dv
    subst e1 e2
    refine q v H' (R.kp.imp fun a _ z => ?_) (fun m s hm mu => ?_) (Dv.less R.m0 _ dv)
    · obtain ⟨i, t, z1, z2, z3⟩ := subF_P.mp z
      obtain ⟨c1, c2⟩ := madS i t _ z1 z2 z3
      exact ⟨i, t, c1, z2, c2⟩
    · obtain ⟨u, h1, h2⟩ := se.sl m s hm
      obtain ⟨a, rfl, _, _⟩ := h2.mutAt mu
      have hlt : m < ss.length := (List.getElem?_eq_some_iff.mp hm).1
      have g1 : ρ0[m]? = some s := by rw [← hρ, List.getElem?_append_left hlt]; exact hm
      have g2 : (L2.start N vs)[m]? = some (some (.ref a)) := by unfold L2.start; rw [List.getElem?_append_left (by rw [List.length_map]; omega)]; exact h1
      obtain ⟨k1, o, k2, k3⟩ := R.pr (m, a) (mem_mads.mpr ⟨s, g1, mu, g2⟩)
      obtain ⟨u, h3, h4⟩ := R.se.sl m o k2
      rw [k1] at h3
      cases h3
      obtain ⟨a', e, _, ma⟩ := h4.mutAt k3
      cases e
      refine ⟨o, a, k2, k3, ?_, MutAt.less R.m0 ma⟩
      rw [List.getElem?_map] at h1
      cases hh : vs[m]? with
      | none => rw [hh] at h1; cases h1
      | some x => rw [hh] at h1; cases h1; rfl
  cases e1 : fb ρ0 with
  | none => rw [e1] at hg; cases hg
  | some pw =>
    obtain ⟨w1, ρ'⟩ := pw
    rw [e1] at hg
    refine ⟨M, ρ0, w1, ρ', S1.enter, e1, fun M' σ' H' R st => ?_⟩
    cases w1 with
    | nx => cases hg; exact fin .nx .non _ M' σ' H' .non rfl rfl R rfl
    | rt d => cases hg; exact fun v dv => fin .nx _ _ M' σ' H' v rfl rfl R dv
    | bk => cases hg
    | ct => cases hg


section
variable {P : Program} {w : World} {K : PySem.W.Frag} {mg : Str → Option Value} {base : Heap} {k : Nat} {f : Addr} {name qual : Str} {params : Arguments} {body : List Stmt} {scope : Scope} {dV kV doc pm cdv ct oc : Value} {an od : Option Addr} {osl : Array (Option Value)} {N ps : List Str} {T : Cl} {asg : List Nat} {fb : FB}
theorem exF {X : Cx} {T : Cl} {n : Nat} (h : ∀ F : Fx, F.K = X.K → F.T = T → PaOk F n asg → PSs X body (TSd F fb)) : PSs X body (fun D σ H => ∃ F : Fx, F.K = X.K ∧ F.T = T ∧ PaOk F n asg ∧ TSd F fb D σ H) :=
  ⟨fun pins s σ H D I ⟨F, h1, h2, h3, hw⟩ => (h F h1 h2 h3).run pins s σ H D I hw⟩
theorem FnG.ofD (lk : K.lookup f = some ⟨oc, od, .func (PySem.W.fnOf name qual params body scope dV kV doc pm an cdv ct), osl⟩) (hcd : PySem.W.codeIn K cdv qual = true) (S : FnScope N ps scope)
    (go : ∀ (A : Around) (outer : List Env) (s : Shared) (H : Hp) (E : XK), Room k (A.deeper (envOfC qual scope s.heap.objs.size f cdv)) → A.guards = some [] → ∀ F : Fx, F.K = K → F.T = T → PaOk F ps.length asg →
      PSs (bodyCx P w K mg base N qual scope f cdv A outer s H E) body (TSd F fb)) :
    FnG P w K mg base (k + 1) f (PySem.W.fnOf name qual params body scope dV kV doc pm an cdv ct) ps (spD K T ps.length (fnD N.length asg fb)) :=
  FnG.of lk hcd S (fun vs H Q h => h.1) fun A outer s H vs Q hr gd h => ⟨_, exF (go A outer s H _ hr gd), spD_in S h⟩
/-- the same, as the hand layer's promise -/
abbrev spO (K : PySem.W.Frag) (T : Cl) (n : Nat) (g : FG) : Sp := fun vs H Q _ => spD K T n g vs H Q
theorem okD (lk : K.lookup f = some ⟨oc, od, .func (PySem.W.fnOf name qual params body scope dV kV doc pm an cdv ct), osl⟩) (hcd : PySem.W.codeIn K cdv qual = true) (S : FnScope N ps scope)
    (go : ∀ (A : Around) (outer : List Env) (s : Shared) (H : Hp) (E : XK), Room k (A.deeper (envOfC qual scope s.heap.objs.size f cdv)) → ∀ F : Fx, F.K = K → F.T = T → PaOk F ps.length asg →
      PSs (bodyCx P w K mg base N qual scope f cdv A outer s H E) body (TSd F fb)) :
    FnOk P w K mg base CX0 (k + 1) f (PySem.W.fnOf name qual params body scope dV kV doc pm an cdv ct) ps (spO K T ps.length (fnD N.length asg fb)) :=
  fn_of lk hcd S (fun vs H Q E h => h.1) fun A outer s H vs Q E hr h => ⟨_, exF (go A outer s H E hr), spD_in S h⟩
end

/-! ### the call of such a def -/
def argSl (ρ : Ev) : List Opd → Option (List Sl)
  | [] => some []
  | .dat d :: os => (argSl ρ os).map (.dat d :: ·)
  | .slot i :: os => match ρ[i]? with
    | some s => if s.mut = true then (argSl ρ os).map (s :: ·) else none
    | none => none
def slotsOf : List Opd → List Nat
  | [] => []
  | .dat _ :: os => slotsOf os
  | .slot i :: os => i :: slotsOf os
def putSl : Ev → List Opd → List Sl → Ev
  | ρ, .slot i :: os, o :: outs => putSl (ρ.set i o) os outs
  | ρ, .dat _ :: os, _ :: outs => putSl ρ os outs
  | ρ, _, _ => ρ
def fCall (g : FG) (dss : List D) (fa : FA) : FE := fun ρ => match fa ρ with
  | none => none
  | some (os, ρ1) => match argSl ρ1 os with
    | none => none
    | some ss => if (slotsOf os).Nodup then match g (ss ++ dss.map .dat) with
        | some (r, outs) => if os.length ≤ outs.length then some (.dat r, putSl ρ1 os outs) else none
        | none => none
      else none
theorem putSl_len : ∀ (os : List Opd) (outs : List Sl) (ρ : Ev), (putSl ρ os outs).length = ρ.length
  | .slot i :: os, o :: outs, ρ => by
    show (putSl (ρ.set i o) os outs).length = _
    rw [putSl_len os outs, List.length_set]
  | .dat _ :: os, _ :: outs, ρ => putSl_len os outs ρ
  | [], _, ρ => by simp [putSl]
  | .slot _ :: _, [], ρ => by simp [putSl]
  | .dat _ :: _, [], ρ => by simp [putSl]
theorem putSl_out : ∀ (os : List Opd) (outs : List Sl) (ρ : Ev) (j : Nat), j ∉ slotsOf os → (putSl ρ os outs)[j]? = ρ[j]?
  | .slot i :: os, o :: outs, ρ, j, h => by
    simp only [slotsOf, List.mem_cons, not_or] at h
    show (putSl (ρ.set i o) os outs)[j]? = _
    rw [putSl_out os outs _ j h.2, List.getElem?_set_ne (Ne.symm h.1)]
  | .dat _ :: os, _ :: outs, ρ, j, h => putSl_out os outs ρ j h
  | [], _, ρ, j, h => by simp [putSl]
  | .slot _ :: _, [], ρ, j, h => by simp [putSl]
  | .dat _ :: _, [], ρ, j, h => by simp [putSl]
theorem slotsOf_mem : ∀ {os : List Opd} {m j : Nat}, os[m]? = some (.slot j) → j ∈ slotsOf os
  | .slot i :: os, 0, j, h => by simp at h; subst h; exact List.mem_cons_self
  | .dat _ :: os, 0, j, h => by simp at h
  | .slot i :: os, m + 1, j, h => List.mem_cons_of_mem _ (slotsOf_mem (os := os) (m := m) (by simpa using h))
  | .dat _ :: os, m + 1, j, h => slotsOf_mem (os := os) (m := m) (by simpa using h)
  | [], m, j, h => by simp at h
theorem mem_slotsOf : ∀ {os : List Opd} {j : Nat}, j ∈ slotsOf os → ∃ m : Nat, os[m]? = some (.slot j)
  | .slot i :: os, j, h => by
    rcases List.mem_cons.mp h with e | e
    · subst e; exact ⟨0, rfl⟩
    · obtain ⟨m, hm⟩ := mem_slotsOf (os := os) e; exact ⟨m + 1, by simpa using hm⟩
  | .dat _ :: os, j, h => by obtain ⟨m, hm⟩ := mem_slotsOf (os := os) h; exact ⟨m + 1, by simpa using hm⟩
  | [], j, h => by cases h
theorem putSl_in : ∀ (os : List Opd) (outs : List Sl) (ρ : Ev) (m j : Nat), (slotsOf os).Nodup → os.length ≤ outs.length → os[m]? = some (.slot j) → j < ρ.length → (putSl ρ os outs)[j]? = outs[m]?
  | .slot i :: os, o :: outs, ρ, 0, j, nd, hl, h, hj => by
    simp at h
    subst h
    show (putSl (ρ.set i o) os outs)[i]? = _
    rw [putSl_out os outs _ i (List.nodup_cons.mp nd).1, List.getElem?_set_self hj]
    rfl
  | .slot i :: os, o :: outs, ρ, m + 1, j, nd, hl, h, hj => by
    show (putSl (ρ.set i o) os outs)[j]? = outs[m]?
    exact putSl_in os outs _ m j (List.nodup_cons.mp nd).2 (by simpa using hl) (by simpa using h) (by rw [List.length_set]; exact hj)
  | .dat _ :: os, o :: outs, ρ, 0, j, nd, hl, h, hj => by simp at h
  | .dat _ :: os, o :: outs, ρ, m + 1, j, nd, hl, h, hj => putSl_in os outs ρ m j nd (by simpa using hl) (by simpa using h) hj
  | [], _, ρ, m, j, nd, hl, h, hj => by simp at h
  | _ :: _, [], ρ, m, j, nd, hl, h, hj => by simp at hl
theorem argSl_len : ∀ {ρ : Ev} {os : List Opd} {ss : List Sl}, argSl ρ os = some ss → ss.length = os.length
  | _, [], _, h => by cases h; rfl
  | ρ, .dat d :: os, ss, h => by
    simp only [argSl, Option.map_eq_some_iff] at h
    obtain ⟨r, h1, rfl⟩ := h
    simp [argSl_len h1]
  | ρ, .slot i :: os, ss, h => by
    simp only [argSl] at h
    split at h
    · split at h
      · simp only [Option.map_eq_some_iff] at h
        obtain ⟨r, h1, rfl⟩ := h
        simp [argSl_len h1]
      · cases h
    · cases h
theorem argSl_get : ∀ {ρ : Ev} {os : List Opd} {ss : List Sl}, argSl ρ os = some ss → ∀ (m : Nat) (s : Sl), ss[m]? = some s → (∃ d, os[m]? = some (.dat d) ∧ s = .dat d) ∨ ∃ i, os[m]? = some (.slot i) ∧ ρ[i]? = some s ∧ s.mut = true
  | _, [], _, h, m, s, e => by cases h; simp at e
  | ρ, .dat d :: os, ss, h, m, s, e => by
    simp only [argSl, Option.map_eq_some_iff] at h
    obtain ⟨r, h1, rfl⟩ := h
    cases m with
    | zero => simp at e; subst e; exact .inl ⟨d, rfl, rfl⟩
    | succ m => simpa using argSl_get h1 m s (by simpa using e)
  | ρ, .slot i :: os, ss, h, m, s, e => by
    simp only [argSl] at h
    split at h
    · rename_i t ht
      split at h
      · rename_i hm
        simp only [Option.map_eq_some_iff] at h
        obtain ⟨r, h1, rfl⟩ := h
        cases m with
        | zero => simp at e; subst e; exact .inr ⟨i, rfl, ht, hm⟩
        | succ m => simpa using argSl_get h1 m s (by simpa using e)
      · cases h
    · cases h
theorem OpdsOk.at {F : Fx} {M : Ms} {H : Hp} {σ : Sg} : ∀ {os : List Opd} {vs : List V}, OpdsOk F M H σ os vs → ∀ (m : Nat) (o : Opd), os[m]? = some o → ∃ v, vs[m]? = some v ∧ OpdOk F M H σ o v
  | _, _, .nil, m, o, h => by simp at h
  | _, _, .cons h t, 0, o, e => by simp at e; subst e; exact ⟨_, rfl, h⟩
  | _, _, .cons h t, m + 1, o, e => by simpa using OpdsOk.at t m o (by simpa using e)
/-- the data of default values -/
def DefOk (K : PySem.W.Frag) (T : Cl) (dss : List D) (dvs : List V) : Prop := ∀ M H, DvS K T M H dss dvs
theorem slots_inj : ∀ {os : List Opd} (m l j : Nat), (slotsOf os).Nodup → os[m]? = some (.slot j) → os[l]? = some (.slot j) → m = l
  | [], m, l, j, nd, h1, h2 => by simp at h1
  | .slot i :: os, 0, 0, j, nd, h1, h2 => rfl
  | .slot i :: os, 0, l + 1, j, nd, h1, h2 => by
    simp at h1 h2
    subst h1
    exact absurd (slotsOf_mem h2) (List.nodup_cons.mp nd).1
  | .slot i :: os, m + 1, 0, j, nd, h1, h2 => by
    simp at h1 h2
    subst h2
    exact absurd (slotsOf_mem h1) (List.nodup_cons.mp nd).1
  | .slot i :: os, m + 1, l + 1, j, nd, h1, h2 => by
    simp at h1 h2
    rw [slots_inj m l j (List.nodup_cons.mp nd).2 h1 h2]
  | .dat d :: os, 0, l, j, nd, h1, h2 => by simp at h1
  | .dat d :: os, m + 1, 0, j, nd, h1, h2 => by simp at h2
  | .dat d :: os, m + 1, l + 1, j, nd, h1, h2 => by
    simp at h1 h2
    rw [slots_inj (os := os) m l j nd h1 h2]
section
variable {F : Fx} {M : Ms} {ρ : Ev} {σ : Sg} {H H' : Hp}
/-- the arguments as a frame's start -/
theorem args_se (R : ER F M ρ σ H) {os : List Opd} {vs dvs : List V} {ss : List Sl} {dss : List D} (ok : OpdsOk F M H σ os vs) (ha : argSl ρ os = some ss) (nd : (slotsOf os).Nodup) (hd : DefOk F.K F.T dss dvs) :
    SE F.K F.T M (ss ++ dss.map .dat) ((vs ++ dvs).map some) H := by
  have l1 := argSl_len ha
  have l2 : os.length = vs.length := Paired.length ok
  have l3 := (hd M H).length
  have get : ∀ (m : Nat) (s : Sl), (ss ++ dss.map .dat)[m]? = some s → s.mut = true → ∃ i, os[m]? = some (.slot i) ∧ ρ[i]? = some s ∧ ((vs ++ dvs).map some)[m]? = σ[i]? := fun m s h mu => by
    by_cases hm : m < ss.length
    · rw [List.getElem?_append_left hm] at h
      rcases argSl_get ha m s h with ⟨d, _, rfl⟩ | ⟨i, h1, h2, _⟩
      · cases mu
      · obtain ⟨v, c1, c2⟩ := OpdsOk.at ok m _ h1
        exact ⟨i, h1, h2, by rw [List.getElem?_map, List.getElem?_append_left (by omega), c1]; exact (show σ[i]? = some (some v) from c2).symm⟩
    · rw [List.getElem?_append_right (by omega), List.getElem?_map] at h
      cases e : dss[m - ss.length]? with
      | none => rw [e] at h; cases h
      | some d => rw [e] at h; cases h; cases mu
  refine ⟨R.mm, by simp; omega, fun m s h => ?_, fun m l s t v h1 m1 h2 m2 e1 e2 => ?_⟩
  · by_cases mu : s.mut = true
    · obtain ⟨i, c1, c2, c3⟩ := get m s h mu
      obtain ⟨v, g1, g2⟩ := R.se.sl i s c2
      exact ⟨v, by rw [c3]; exact g1, g2⟩
    · by_cases hm : m < ss.length
      · rw [List.getElem?_append_left hm] at h
        rcases argSl_get ha m s h with ⟨d, c1, rfl⟩ | ⟨i, _, _, z⟩
        · obtain ⟨v, c2, c3⟩ := OpdsOk.at ok m _ c1
          exact ⟨some v, by rw [List.getElem?_map, List.getElem?_append_left (by omega), c2]; rfl, v, rfl, c3⟩
        · exact absurd z mu
      · rw [List.getElem?_append_right (by omega), List.getElem?_map] at h
        cases e : dss[m - ss.length]? with
        | none => rw [e] at h; cases h
        | some d =>
          rw [e] at h
          cases h
          obtain ⟨x, c1, c2⟩ := (hd M H).getD e
          exact ⟨some x, by rw [List.getElem?_map, List.getElem?_append_right (by omega), ← l2, ← l1, c1]; rfl, x, rfl, c2⟩
  · obtain ⟨i, c1, c2, c3⟩ := get m s h1 m1
    obtain ⟨j, d1, d2, d3⟩ := get l t h2 m2
    rw [c3] at e1
    rw [d3] at e2
    have := R.ap i j s t v c2 m1 d2 m2 e1 e2
    subst this
    exact slots_inj m l i nd c1 d1
/-- behind the call -/
theorem args_back (R : ER F M ρ σ H) {os : List Opd} {vs dvs : List V} {ss outs : List Sl} {dss : List D} (ok : OpdsOk F M H σ os vs) (ha : argSl ρ os = some ss) (nd : (slotsOf os).Nodup) (hd : DefOk F.K F.T dss dvs)
    (kp : Ke F.T (Mad (ss ++ dss.map .dat) ((vs ++ dvs).map some)) H H')
    (ho : ∀ (m : Nat) (s : Sl), (ss ++ dss.map .dat)[m]? = some s → s.mut = true → ∃ (o : Sl) (a : Addr), outs[m]? = some o ∧ o.mut = true ∧ (vs ++ dvs)[m]? = some (.ref a) ∧ MutAt F.K F.T M H' a o) (hlo : os.length ≤ outs.length) :
    ER F M (putSl ρ os outs) σ H' ∧ Keep M H H' := by
  have S := args_se R ok ha nd hd
  have l1 := argSl_len ha
  have l2 : os.length = vs.length := Paired.length ok
  have keep : Keep M H H' := kp.keep fun a z => S.mad z
  -- an argument slot
  have inn : ∀ (j : Nat), j ∈ slotsOf os → ∃ s o a, ρ[j]? = some s ∧ s.mut = true ∧ (putSl ρ os outs)[j]? = some o ∧ o.mut = true ∧ σ[j]? = some (some (.ref a)) ∧ MutAt F.K F.T M H' a o := fun j hj => by
    obtain ⟨m, hm⟩ := mem_slotsOf hj
    have hml : m < ss.length := by rw [l1]; exact (List.getElem?_eq_some_iff.mp hm).1
    obtain ⟨s, hs⟩ : ∃ s, ss[m]? = some s := ⟨ss[m], by simp [hml]⟩
    rcases argSl_get ha m s hs with ⟨d, c1, _⟩ | ⟨i, c1, c2, c3⟩
    · rw [hm] at c1; cases c1
    · rw [hm] at c1
      cases c1
      obtain ⟨o, a, g1, g2, g3, g4⟩ := ho m s (by rw [List.getElem?_append_left hml]; exact hs) c3
      obtain ⟨v, k1, k2⟩ := OpdsOk.at ok m _ hm
      rw [List.getElem?_append_left (by omega), k1] at g3
      cases g3
      exact ⟨s, o, a, c2, c3, by rw [putSl_in os outs ρ m j nd hlo hm (List.getElem?_eq_some_iff.mp c2).1]; exact g1, g2, k2, g4⟩
  have outN : ∀ (j : Nat) (s : Sl) (a : Addr), j ∉ slotsOf os → ρ[j]? = some s → s.mut = true → σ[j]? = some (some (.ref a)) → ¬ Mad (ss ++ dss.map .dat) ((vs ++ dvs).map some) a := fun j s a hj hs mu e ⟨m, t, z1, z2, z3⟩ => by
    by_cases hm : m < ss.length
    · rw [List.getElem?_append_left hm] at z1
      rcases argSl_get ha m t z1 with ⟨d, _, rfl⟩ | ⟨i, c1, c2, _⟩
      · cases z2
      · obtain ⟨v, k1, k2⟩ := OpdsOk.at ok m _ c1
        rw [List.getElem?_map, List.getElem?_append_left (by omega), k1] at z3
        cases z3
        have := R.ap j i s t _ hs mu c2 z2 e k2
        subst this
        exact hj (slotsOf_mem c1)
    · rw [List.getElem?_append_right (by omega), List.getElem?_map] at z1
      cases e : dss[m - ss.length]? with
      | none => rw [e] at z1; cases z1
      | some d => rw [e] at z1; cases z1; cases z2
  have mus : ∀ (j : Nat) (s : Sl), (putSl ρ os outs)[j]? = some s → s.mut = true → ∃ s', ρ[j]? = some s' ∧ s'.mut = true := fun j s h mu => by
    by_cases hj : j ∈ slotsOf os
    · obtain ⟨s', o, a, c1, c2, _⟩ := inn j hj
      exact ⟨s', c1, c2⟩
    · rw [putSl_out os outs ρ j hj] at h
      exact ⟨s, h, mu⟩
  refine ⟨ER.of_se ⟨⟨fun a m => ?_, kp.tab R.mm.ts⟩, by rw [putSl_len]; exact R.ln, fun j s h => ?_, fun j l s t v h1 m1 h2 m2 e1 e2 => ?_⟩ R.m0 (R.kp.trans kp fun a z => ?_) R.h0 (fun a ⟨j, s, h, mu, e⟩ => ?_) (fun pp hpp => ?_) R.pp, keep⟩
  · by_cases z : Mad (ss ++ dss.map .dat) ((vs ++ dvs).map some) a
    · obtain ⟨m, s, z1, z2, z3⟩ := z
      obtain ⟨o, a', g1, g2, g3, g4⟩ := ho m s z1 z2
      rw [List.getElem?_map, g3] at z3
      cases z3
      cases o with
      | un => exact g4.elim
      | dat _ => exact g4.elim
      | own _ => obtain ⟨xs, e, _⟩ := g4; rw [e]; trivial
      | obj _ _ => obtain ⟨dx, xs, e, _⟩ := g4; rw [e]; trivial
    · have mu := R.mm a m
      cases e : H a with
      | none => rw [e] at mu; exact mu.elim
      | some o => rw [(kp.at_ a o e z).nt (.mu (by rw [e] at mu; exact mu))]; rw [e] at mu; exact mu
  · by_cases hj : j ∈ slotsOf os
    · obtain ⟨s', o, a, c1, c2, c3, c4, c5, c6⟩ := inn j hj
      rw [c3] at h
      cases h
      obtain ⟨v, g1, g2⟩ := R.se.sl j s' c1
      rw [c5] at g1
      cases g1
      obtain ⟨a', e, ma, _⟩ := g2.mutAt c2
      cases e
      exact ⟨_, c5, SlK.of_mut c4 ⟨a, rfl, ma, c6⟩⟩
    · rw [putSl_out os outs ρ j hj] at h
      obtain ⟨v, g1, g2⟩ := R.se.sl j s h
      refine ⟨v, g1, ?_⟩
      by_cases mu : s.mut = true
      · obtain ⟨a, rfl, ma, q⟩ := g2.mutAt mu
        have na := outN j s a hj h mu g1
        have ea : H' a = H a := by
          cases e : H a with
          | none => exact absurd e (R.mh a ma)
          | some o => exact (kp.at_ a o e na).nt (.mu (by have := R.mm a ma; rw [e] at this; exact this))
        exact SlK.of_mut mu ⟨a, rfl, ma, MutAt.other keep R.mm ea q⟩
      · cases s with
        | un => trivial
        | dat d => obtain ⟨x, e1, e2⟩ := g2; exact ⟨x, e1, Dv.keep keep R.mm d e2⟩
        | own _ => exact absurd rfl mu
        | obj _ _ => exact absurd rfl mu
  · obtain ⟨s', a1, a2⟩ := mus j s h1 m1
    obtain ⟨t', b1, b2⟩ := mus l t h2 m2
    exact R.ap j l s' t' v a1 a2 b1 b2 e1 e2
  · refine Or.symm ?_
    obtain ⟨m, s, z1, z2, z3⟩ := z
    by_cases hm : m < ss.length
    · rw [List.getElem?_append_left hm] at z1
      rcases argSl_get ha m s z1 with ⟨d, _, rfl⟩ | ⟨i, c1, c2, _⟩
      · cases z2
      · obtain ⟨v, k1, k2⟩ := OpdsOk.at ok m _ c1
        rw [List.getElem?_map, List.getElem?_append_left (by omega), k1] at z3
        cases z3
        exact (R.mad ⟨i, s, c2, z2, k2⟩).2
    · rw [List.getElem?_append_right (by omega), List.getElem?_map] at z1
      cases e : dss[m - ss.length]? with
      | none => rw [e] at z1; cases z1
      | some d => rw [e] at z1; cases z1; cases z2
  · obtain ⟨s', a1, a2⟩ := mus j s h mu
    exact (R.mad ⟨j, s', a1, a2, e⟩).2
  · obtain ⟨g1, s, g2, g3⟩ := R.pr pp hpp
    refine ⟨g1, ?_⟩
    by_cases hj : pp.1 ∈ slotsOf os
    · obtain ⟨s', o, a, c1, c2, c3, c4, _⟩ := inn pp.1 hj
      exact ⟨o, c3, c4⟩
    · rw [putSl_out os outs ρ pp.1 hj]
      exact ⟨s, g2, g3⟩
theorem call_read {n : Nat} {g : FG} {dss : List D} {dvs : List V} {fa : FA} {Q : VK} (hl : ∀ ρ os ρ', fa ρ = some (os, ρ') → os.length + dss.length = n) (hd : DefOk F.K F.T dss dvs) (h : TEd F (fCall g dss fa) σ H Q) : tCallG (spD F.K F.T n g) dvs (TAd F fa) σ H Q := by
  obtain ⟨M, ρ, o, ρ', R, hf, q⟩ := h
  unfold fCall at hf
  cases e1 : fa ρ with
  | none => rw [e1] at hf; cases hf
  | some p1 =>
    obtain ⟨os, ρ1⟩ := p1
    rw [e1] at hf
    simp only at hf
    cases e2 : argSl ρ1 os with
    | none => rw [e2] at hf; cases hf
    | some ss =>
      rw [e2] at hf
      simp only at hf
      split at hf
      case isFalse => cases hf
      case isTrue nd =>
      cases e3 : g (ss ++ dss.map .dat) with
      | none => rw [e3] at hf; cases hf
      | some pr =>
        obtain ⟨r, outs⟩ := pr
        rw [e3] at hf
        simp only at hf
        split at hf
        case isFalse => cases hf
        case isTrue hlo =>
        cases hf
        refine ⟨M, ρ, os, ρ1, R, e1, fun vs M1 H1 s1 R1 k1 ok1 => ⟨?_, M1, _, r, outs, args_se R1 ok1 e2 nd hd, e3, fun v H2 kp ho dv => ?_⟩⟩
        · have := hl ρ os ρ1 e1
          have l2 : os.length = vs.length := Paired.length ok1
          have l3 := (hd M1 H1).length
          rw [List.length_append]
          omega
        · obtain ⟨R2, k2⟩ := args_back R1 ok1 e2 nd hd kp ho hlo
          exact q v M1 H2 s1 R2 (k1.trans (k2.mono s1)) dv
end
/-- the number of operands -/
structure FaLen (fa : FA) (n : Nat) : Prop where
  eq : ∀ ρ os ρ', fa ρ = some (os, ρ') → os.length = n
theorem faLen_nil : FaLen fNil 0 := ⟨fun ρ os ρ' h => by cases h; rfl⟩
theorem faLen_cons {fe : FE} {fr : FA} {n : Nat} (h : FaLen fr n) : FaLen (fCons fe fr) (n + 1) := ⟨fun ρ os ρ' e => by
  unfold fCons at e
  split at e
  · cases e
  · rename_i o ρ1 e1
    split at e
    · cases e
    · rename_i os' ρ2 e2
      first
        | (split at e <;> first | (cases e; simp [h.eq _ _ _ e2]) | cases e)
        | (cases e; simp [h.eq _ _ _ e2])⟩
section
variable {X : Cx} {F : Fx} {k : Nat} {f : Addr} {fd : FuncData} {ps : List Str} {g : FG} {dvs : List V} {dss : List D} {ds : List Value} {x : Str} {p pos : Pos} {e : Expr} {es : List Expr} {fa : FA} {n : Nat}
theorem de_call (hK : F.K = X.K) (Fn : FnG X.prog X.w X.K X.mg X.base k f fd ps (spD X.K F.T ps.length g)) (hr : Room k X.A) (gd : X.A.guards = some []) (hg : Gl X x) (hm : X.mg x = some (.ref f)) (hk : PySem.W.keepIn X.K (.ref f) = true) (hb : Binds X.K fd ps ds) (hd : Vals dvs ds) (hdd : DefOk F.K F.T dss dvs)
    (ha : PA X (e :: es) (TAd F fa)) (hl : FaLen fa n) (hn : n + dss.length = ps.length) (hdb : (x == ("__debug__" : Str)) = false) (he : starEach (e :: es) X.env = (false, eval e X.env) :: starEach es X.env) (hpl : (backTo pos (starEach es X.env)).any (·.1) = false) :
    PE X (.Call (.Name x p) (e :: es) [] pos) (TEd F (fCall g dss fa)) := by
  refine PE.imp (pe_callG Fn hr gd hg hm hk hb hd ha hdb he hpl) fun σ H Q h => ?_
  rw [← hK]
  exact call_read (fun ρ os ρ' z => by rw [hl.eq ρ os ρ' z]; exact hn) hdd h
theorem de_call0 (hK : F.K = X.K) (Fn : FnG X.prog X.w X.K X.mg X.base k f fd ps (spD X.K F.T ps.length g)) (hr : Room k X.A) (gd : X.A.guards = some []) (hg : Gl X x) (hm : X.mg x = some (.ref f)) (hk : PySem.W.keepIn X.K (.ref f) = true) (hb : Binds X.K fd ps ds) (hd : Vals dvs ds) (hdd : DefOk F.K F.T dss dvs)
    (hn : dss.length = ps.length) (hdb : (x == ("__debug__" : Str)) = false) : PE X (.Call (.Name x p) [] [] pos) (TEd F (fCall g dss fNil)) := by
  refine PE.imp (pe_callG0 Fn hr gd hg hm hk hb hd hdb) fun σ H Q h => ?_
  rw [← hK]
  obtain ⟨M, ρ, os, ρ', R, hf, q⟩ := call_read (n := ps.length) (fun ρ os ρ' z => by cases z; simpa using hn) hdd h
  cases hf
  exact q [] M H (fun _ z => z) R Keep.rfl .nil
end
end SC

set_option Elab.async false
set_option linter.all false
set_option maxRecDepth 100000
namespace SC
open PySem PySem.Spec PyProof.Rows L2

/-! ### a slot's thing changes, any kind -/
section
variable {F : Fx} {M : Ms} {ρ : Ev} {σ : Sg} {H : Hp}
theorem mutAt_mu {K : PySem.W.Frag} {T : Cl} {H : Hp} {a : Addr} : ∀ {s : Sl}, MutAt K T M H a s → Mu (H a)
  | .un, h => h.elim
  | .dat _, h => h.elim
  | .own _, ⟨xs, e, _⟩ => by rw [e]; trivial
  | .obj _ _, ⟨dx, xs, e, _⟩ => by rw [e]; trivial
theorem ER.putMut (R : ER F M ρ σ H) {H' : Hp} {i : Nat} {p : Addr} {t s : Sl} (hi : ρ[i]? = some t) (mt : t.mut = true) (ms : s.mut = true) (hs : σ[i]? = some (some (.ref p))) (kp : ∀ a o, H a = some o → a ≠ p → H' a = some o) (at_ : MutAt F.K F.T M H' p s) :
    ER F M (ρ.set i s) σ H' ∧ Keep M H H' := by
  have mp : Mad ρ σ p := ⟨i, t, hi, mt, hs⟩
  have m := R.se.mad mp
  have ke : Ke F.T (fun a => a = p) H H' := ⟨fun a o e n => .of (kp a o e n), fun t => tabs_nt t fun a o e nm => kp a o e fun z => nm (by rw [z] at e; have := R.mm p m; rw [e] at this; exact this)⟩
  have keep : Keep M H H' := ke.keep fun a z => by rw [z]; exact m
  have hl : i < ρ.length := (List.getElem?_eq_some_iff.mp hi).1
  have get : ∀ (j : Nat) (u : Sl), (ρ.set i s)[j]? = some u → u.mut = true → ∃ u', ρ[j]? = some u' ∧ u'.mut = true := fun j u h mu => by
    rw [List.getElem?_set] at h
    by_cases k : i = j
    · exact ⟨t, by rw [← k]; exact hi, mt⟩
    · rw [if_neg k] at h; exact ⟨u, h, mu⟩
  refine ⟨ER.of_se ⟨⟨fun a ma => ?_, ke.tab R.mm.ts⟩, by rw [List.length_set]; exact R.ln, fun j u e => ?_, fun j l u u' v h1 m1 h2 m2 e1 e2 => ?_⟩ R.m0 (R.kp.trans ke fun a z => by subst z; exact (R.mad mp).2.symm) R.h0 (fun a ⟨j, u, h, mu, e⟩ => ?_) (fun pp hpp => ?_) R.pp, keep⟩
  · by_cases h : a = p
    · subst h; exact mutAt_mu at_
    · have mu := R.mm a ma
      cases e : H a with
      | none => rw [e] at mu; exact mu.elim
      | some o => rw [kp a o e h]; rw [e] at mu; exact mu
  · rw [List.getElem?_set] at e
    by_cases k : i = j
    · subst k
      rw [if_pos rfl, if_pos hl] at e
      cases e
      exact ⟨_, hs, SlK.of_mut ms ⟨p, rfl, m, at_⟩⟩
    · rw [if_neg k] at e
      obtain ⟨v, h1, h2⟩ := R.se.sl j u e
      refine ⟨v, h1, ?_⟩
      by_cases mu : u.mut = true
      · obtain ⟨a, rfl, m2, q⟩ := h2.mutAt mu
        have ne : a ≠ p := fun z => by
          subst z
          exact k (R.ap i j t u _ hi mt e mu hs h1)
        have ea : H' a = H a := by
          cases c : H a with
          | none => exact absurd c (R.mh a m2)
          | some o => exact kp a o c ne
        exact SlK.of_mut mu ⟨a, rfl, m2, MutAt.other keep R.mm ea q⟩
      · cases u with
        | un => trivial
        | dat d => obtain ⟨x, e1, e2⟩ := h2; exact ⟨x, e1, Dv.keep keep R.mm d e2⟩
        | own _ => exact absurd rfl mu
        | obj _ _ => exact absurd rfl mu
  · obtain ⟨s', a1, a2⟩ := get j u h1 m1
    obtain ⟨t', b1, b2⟩ := get l u' h2 m2
    exact R.ap j l s' t' v a1 a2 b1 b2 e1 e2
  · obtain ⟨s', a1, a2⟩ := get j u h mu
    exact (R.mad ⟨j, s', a1, a2, e⟩).2
  · obtain ⟨g1, u, g2, g3⟩ := R.pr pp hpp
    refine ⟨g1, ?_⟩
    rw [List.getElem?_set]
    by_cases k : i = pp.1
    · rw [if_pos k, if_pos hl]
      exact ⟨_, rfl, ms⟩
    · rw [if_neg k]
      exact ⟨u, g2, g3⟩
/-- a slot gets a new thing -/
theorem ER.setMut (R : ER F M ρ σ H) {i : Nat} {p : Addr} {s : Sl} (ms : s.mut = true) (m : M p) (no : ¬ Mad ρ σ p) (h0 : F.H0 p = none) (at_ : MutAt F.K F.T M H p s) (hi : ∀ a, (i, a) ∉ F.pa) :
    ER F M (ρ.set i s) (σ.set i (some (.ref p))) H := by
  have get : ∀ (j : Nat) (u : Sl) (v : Option V), (ρ.set i s)[j]? = some u → u.mut = true → (σ.set i (some (.ref p)))[j]? = some v → (j = i ∧ v = some (.ref p)) ∨ (j ≠ i ∧ ρ[j]? = some u ∧ σ[j]? = some v) := fun j u v h mu e => by
    rw [List.getElem?_set] at h e
    by_cases k : i = j
    · rw [if_pos k] at e
      split at e
      · cases e; exact .inl ⟨k.symm, rfl⟩
      · cases e
    · rw [if_neg k] at h e
      exact .inr ⟨Ne.symm k, h, e⟩
  refine ER.of_se ⟨R.mm, by rw [List.length_set, List.length_set]; exact R.ln, fun j u e => ?_, fun j l u u' v h1 m1 h2 m2 e1 e2 => ?_⟩ R.m0 R.kp R.h0 (fun a ⟨j, u, h, mu, e⟩ => ?_) (fun pp hpp => ?_) R.pp
  · rw [List.getElem?_set] at e ⊢
    by_cases k : i = j
    · subst k
      rw [if_pos rfl] at e ⊢
      split at e
      · rename_i hl
        cases e
        exact ⟨some (.ref p), by rw [if_pos (by rw [← R.ln]; exact hl)], SlK.of_mut ms ⟨p, rfl, m, at_⟩⟩
      · cases e
    · rw [if_neg k] at e ⊢
      exact R.se.sl j u e
  · rcases get j u v h1 m1 e1 with ⟨a1, a2⟩ | ⟨a0, a1, a2⟩
    · rcases get l u' v h2 m2 e2 with ⟨b1, b2⟩ | ⟨b0, b1, b2⟩
      · exact a1.trans b1.symm
      · rw [a2] at b2; exact absurd ⟨l, u', b1, m2, b2⟩ no
    · rcases get l u' v h2 m2 e2 with ⟨b1, b2⟩ | ⟨b0, b1, b2⟩
      · rw [b2] at a2; exact absurd ⟨j, u, a1, m1, a2⟩ no
      · exact R.ap j l u u' v a1 m1 b1 m2 a2 b2
  · rcases get j u _ h mu e with ⟨a1, a2⟩ | ⟨a0, a1, a2⟩
    · cases a2; exact .inr h0
    · exact (R.mad ⟨j, u, a1, mu, a2⟩).2
  · have k : i ≠ pp.1 := fun k => hi pp.2 (by rw [k]; exact hpp)
    rw [List.getElem?_set_ne k, List.getElem?_set_ne k]
    exact R.pr pp hpp
end

/-! ### fields -/
structure CK (K : PySem.W.Frag) (T : Cl) (c : Nat) : Prop where
  cls : Cls K (T.ad c)
  nd : (T.fl c).Nodup
  na : ∀ f ∈ T.fl c, NoAttr K (T.ad c) f
  few : (T.fl c).length < 1000
theorem zip_lookup : ∀ {fl : List Str} {xs : List V} {j : Nat} {f : Str} {v : V}, fl.Nodup → fl[j]? = some f → xs[j]? = some v → (fl.zip xs).lookup f = some v
  | [], _, j, f, v, _, h, _ => by simp at h
  | _ :: _, [], j, f, v, _, _, h => by simp at h
  | g :: fl, x :: xs, 0, f, v, nd, h1, h2 => by
    simp at h1 h2
    subst h1 h2
    simp [List.zip_cons_cons, List.lookup]
  | g :: fl, x :: xs, j + 1, f, v, nd, h1, h2 => by
    have hm : f ∈ fl := List.mem_of_getElem? (by simpa using h1)
    have ne : (f == g) = false := beq_eq_false_iff_ne.mpr fun e => (List.nodup_cons.mp nd).1 (by rw [← e]; exact hm)
    rw [List.zip_cons_cons, List.lookup_cons, ne]
    exact zip_lookup (List.nodup_cons.mp nd).2 (by simpa using h1) (by simpa using h2)
theorem zip_nolook : ∀ {fl : List Str} {xs : List V} {f : Str}, f ∉ fl → (fl.zip xs).lookup f = none
  | [], _, f, _ => by simp
  | _ :: _, [], f, _ => by simp
  | g :: fl, x :: xs, f, h => by
    have ne : (f == g) = false := beq_eq_false_iff_ne.mpr fun e => h (by rw [e]; exact List.mem_cons_self)
    rw [List.zip_cons_cons, List.lookup_cons, ne]
    exact zip_nolook fun z => h (List.mem_cons_of_mem _ z)
/-- put, or added at the end -/
def setA {α : Type} (xs : List α) (j : Nat) (y : α) : List α := if j < xs.length then xs.set j y else xs ++ [y]
theorem zip_put : ∀ {fl : List Str} {xs : List V} {j : Nat} {f : Str} {y : V}, fl.Nodup → fl[j]? = some f → j ≤ xs.length → putF f y (fl.zip xs) = fl.zip (setA xs j y)
  | [], _, j, f, y, _, h, _ => by simp at h
  | g :: fl, [], j, f, y, nd, h, hj => by
    have : j = 0 := by simpa using hj
    subst this
    simp at h
    subst h
    simp [putF, setA]
  | g :: fl, x :: xs, 0, f, y, nd, h, hj => by
    simp at h
    subst h
    simp [putF, setA]
  | g :: fl, x :: xs, j + 1, f, y, nd, h, hj => by
    have hm : f ∈ fl := List.mem_of_getElem? (by simpa using h)
    have ne : g ≠ f := fun e => (List.nodup_cons.mp nd).1 (by rw [e]; exact hm)
    have ih := zip_put (y := y) (List.nodup_cons.mp nd).2 (show fl[j]? = some f by simpa using h) (show j ≤ xs.length by simpa using hj)
    rw [List.zip_cons_cons]
    show (if g = f then _ else (g, x) :: putF f y (fl.zip xs)) = _
    rw [if_neg ne, ih]
    unfold setA
    by_cases hl : j < xs.length
    · rw [if_pos hl, if_pos (by simpa using hl)]; simp
    · rw [if_neg hl, if_neg (by simpa using hl)]; simp
theorem setA_len {α : Type} {xs : List α} {j : Nat} {y : α} {n : Nat} (h : xs.length ≤ n) (hj : j < n) (hl : j ≤ xs.length) : (setA xs j y).length ≤ n := by
  unfold setA
  split
  · rw [List.length_set]; exact h
  · rw [List.length_append]; simp; omega
theorem DvS.setA {K : PySem.W.Frag} {T : Cl} {M : Ms} {H : Hp} {ds : List D} {xs : List V} {j : Nat} {d : D} {y : V} (h : DvS K T M H ds xs) (hd : Dv K T M H d y) : DvS K T M H (SC.setA ds j d) (SC.setA xs j y) := by
  unfold SC.setA
  rw [h.length]
  split
  · exact h.set j hd
  · exact h.append (DvS.cons hd DvS.nil)
def insOf : Option D → Option (Nat × List D)
  | some (.ins c ds) => some (c, ds)
  | _ => none
def fFld (c j : Nat) (fa : FE) : FE := fun ρ => match fa ρ with
  | none => none
  | some (o, ρ1) => match insOf (o.get ρ1) with
    | some (c', ds) => if c' = c then (ds[j]?).map fun d => (.dat d, ρ1) else none
    | none => none
theorem insOf_some {o : Option D} {c : Nat} {ds : List D} (h : insOf o = some (c, ds)) : o = some (.ins c ds) := by
  unfold insOf at h
  split at h
  · cases h; rfl
  · cases h
section
variable {X : Cx} {F : Fx} {pos : Pos} {e : Expr} {fa : FE}
theorem de_fld {c j : Nat} {f : Str} (hK : F.K = X.K) (ck : CK X.K F.T c) (hf : (F.T.fl c)[j]? = some f) (ha : PE X e (TEd F fa)) (hb : attributeBase e f X.env (eval e X.env) = eval e X.env) : PE X (.Attribute e f pos) (TEd F (fFld c j fa)) := by
  obtain ⟨K, T, M0, pa, H0⟩ := F
  cases hK
  refine PE.imp (pe_fld ha hb) ?_
  rintro σ H Q ⟨M, ρ, o, ρ', R, hf', q⟩
  unfold fFld at hf'
  cases e1 : fa ρ with
  | none => rw [e1] at hf'; cases hf'
  | some p1 =>
    obtain ⟨o1, ρ1⟩ := p1
    rw [e1] at hf'
    simp only at hf'
    cases e2 : insOf (o1.get ρ1) with
    | none => rw [e2] at hf'; cases hf'
    | some p2 =>
      obtain ⟨c', ds⟩ := p2
      rw [e2] at hf'
      simp only at hf'
      split at hf'
      · rename_i hc
        subst hc
        cases e3 : ds[j]? with
        | none => rw [e3] at hf'; cases hf'
        | some d =>
          rw [e3] at hf'
          cases hf'
          refine ⟨M, ρ, o1, _, R, e1, fun v M1 H1 s1 R1 k1 ok1 => ?_⟩
          obtain ⟨a, dx, xs, rfl, ha, hl, dv⟩ := (R1.opd ok1 (insOf_some e2)).ins
          obtain ⟨x, h1, h2⟩ := dv.getD e3
          exact ⟨a, _, dx, _, x, rfl, ha, ck.cls, ck.na f (List.mem_of_getElem? hf), zip_lookup ck.nd hf h1, q x M1 H1 s1 R1 k1 h2⟩
      · cases hf'
/-- the target o.f of an own object -/
def objAt (ρ : Ev) (i : Nat) : Option (Nat × List D) := match ρ[i]? with
  | some (.obj c ds) => some (c, ds)
  | _ => none
theorem objAt_some {ρ : Ev} {i c : Nat} {ds : List D} (h : objAt ρ i = some (c, ds)) : ρ[i]? = some (.obj c ds) := by
  unfold objAt at h
  split at h
  · cases h; assumption
  · cases h
/-- set a field of the slot's object -/
def putA (i c j : Nat) (d : D) (ρ : Ev) : Option Ev := match objAt ρ i with
  | some (c', ds) => if c' = c ∧ j ≤ ds.length then some (ρ.set i (.obj c (setA ds j d))) else none
  | none => none
def TAt (F : Fx) (i c j : Nat) : TG := fun v σ H Q => ∃ M ρ d ρ', ER F M ρ σ H ∧ Dv F.K F.T M H d v ∧ putA i c j d ρ = some ρ' ∧
  ∀ H', ER F M ρ' σ H' → Keep M H H' → Q σ H'
theorem pg_attr {i c j : Nat} {x f : Str} {p1 : Pos} (hK : F.K = X.K) (ck : CK X.K F.T c) (hf : (F.T.fl c)[j]? = some f) (hN : X.N[i]? = some x) (hv : Vis X.env.scope x) (hd : (x == ("__debug__" : Str)) = false) (hcd : (x == ("__classdict__" : Str)) = false) :
    PG X (.Attribute (.Name x p1) f pos) (TAt F i c j) := by
  obtain ⟨K, T, M0, pa, H0⟩ := F
  cases hK
  refine ⟨fun pins s σ H v u Q I r h => ?_⟩
  obtain ⟨M, ρ, d, ρ', R, dv, hp, q⟩ := h
  unfold putA at hp
  cases e2 : objAt ρ i with
  | none => rw [e2] at hp; cases hp
  | some p2 =>
    obtain ⟨c', ds⟩ := p2
    rw [e2] at hp
    simp only at hp
    split at hp
    · rename_i hc
      obtain ⟨rfl, hjl⟩ := hc
      cases hp
      obtain ⟨v', g1, g2⟩ := R.se.sl i _ (objAt_some e2)
      obtain ⟨a, rfl, m, dx, xs, c1, c2, c3⟩ := g2
      rw [PySem.assign_Attribute]
      refine wpAny_bind (wpAny_holding (thn ((pe_var hN hv hd hcd).run pins s σ H (fun y H1 => y = .ref a ∧ H1 = H) I ⟨.ref a, g1, rfl, rfl⟩) fun ov s1 ⟨y, H1, I1, ry, ey, eH⟩ => ?_))
      subst ey eH
      obtain rfl : ov = Value.ref a := ry
      have hjf : j < (T.fl c').length := (List.getElem?_eq_some_iff.mp hf).1
      have hjx : j ≤ xs.length := by rw [← c3.length]; exact hjl
      refine wpAny_bind (wpAny_standAt (wpAny_bind (wpAny_holding (setattr_ok I1 c1 ck.cls (ck.na f (List.mem_of_getElem? hf)) (by
        have := ck.few
        rw [List.length_zip]
        have c2' : xs.length ≤ (T.fl c').length := c2
        omega) r fun s3 I3 => wpAny_release ⟨σ, _, I3, ?_⟩))))
      rw [zip_put ck.nd hf hjx]
      have kp : Keep M H1 (upd H1 a (.ins (T.ad c') dx ((T.fl c').zip (SC.setA xs j v)))) := Keep.put m
      obtain ⟨R2, k2⟩ := R.putMut (H' := upd H1 a (.ins (T.ad c') dx ((T.fl c').zip (SC.setA xs j v)))) (objAt_some e2) rfl (s := .obj c' (SC.setA ds j d)) rfl g1 (fun b o e n => by rw [upd_ne n]; exact e)
        ⟨dx, _, upd_same, setA_len c2 hjf hjx, DvS.keep kp R.mm _ (c3.setA dv)⟩
      exact q _ R2 k2
    · cases hp
end
end SC

set_option Elab.async false
set_option linter.all false
set_option maxRecDepth 100000
namespace SC
open PySem PySem.Spec PyProof.Rows L2

/-! ### targets: names and fields -/
inductive Tg where
  | nm (i : Nat) | at_ (i c j : Nat)
def setT : Tg → D → Ev → Option Ev
  | .nm i, d, ρ => some (ρ.set i (.dat d))
  | .at_ i c j, d, ρ => putA i c j d ρ
def setTs : List Tg → List D → Ev → Option Ev
  | [], [], ρ => some ρ
  | t :: ts, d :: ds, ρ => match setT t d ρ with
    | some ρ1 => setTs ts ds ρ1
    | none => none
  | _, _, _ => none
def Tg.free (F : Fx) : Tg → Prop
  | .nm i => ∀ a, (i, a) ∉ F.pa
  | .at_ _ _ _ => True
def TGt (F : Fx) (t : Tg) : TG := fun v σ H Q => ∃ M ρ d ρ', ER F M ρ σ H ∧ Dv F.K F.T M H d v ∧ setT t d ρ = some ρ' ∧ t.free F ∧ ∀ σ' H', ER F M ρ' σ' H' → Keep M H H' → Q σ' H'
def TGts (F : Fx) (ts : List Tg) : TGs := fun vs σ H Q => ∃ M ρ ds ρ', ER F M ρ σ H ∧ DvS F.K F.T M H ds vs ∧ setTs ts ds ρ = some ρ' ∧ (∀ t ∈ ts, t.free F) ∧ ∀ σ' H', ER F M ρ' σ' H' → Keep M H H' → Q σ' H'
section
variable {X : Cx} {F : Fx} {pos : Pos}
theorem dt_nm {i : Nat} {x : Str} (hN : X.N.Nodup) (hi : X.N[i]? = some x) (hx : Loc X.env.scope x) (hf : X.fn x = true ∨ X.env.scope.names.lookup x = some .local) : PG X (.Name x pos) (TGt F (.nm i)) :=
  PG.imp (pg_name hN hi hx hf) fun v σ H Q ⟨M, ρ, d, ρ', R, dv, e, hp, q⟩ => by
    cases e
    exact q _ H (R.setDat dv hp) Keep.rfl
theorem dt_at {i c j : Nat} {x f : Str} {p1 : Pos} (hK : F.K = X.K) (ck : CK X.K F.T c) (hf : (F.T.fl c)[j]? = some f) (hN : X.N[i]? = some x) (hv : Vis X.env.scope x) (hd : (x == ("__debug__" : Str)) = false) (hcd : (x == ("__classdict__" : Str)) = false) :
    PG X (.Attribute (.Name x p1) f pos) (TGt F (.at_ i c j)) :=
  PG.imp (pg_attr hK ck hf hN hv hd hcd) fun v σ H Q ⟨M, ρ, d, ρ', R, dv, e, hp, q⟩ => ⟨M, ρ, d, ρ', R, dv, e, fun H' R' k => q σ H' R' k⟩
theorem dts_nil' : PGs X [] (TGts F []) :=
  PGs.imp pgs_nil fun vs σ H Q ⟨M, ρ, ds, ρ', R, dv, e, hp, q⟩ => by
    cases ds with
    | nil => cases e; exact ⟨dv, q σ H R Keep.rfl⟩
    | cons _ _ => cases e
theorem dts_cons {t : Tg} {ts : List Tg} {e : Expr} {es : List Expr} (h1 : PG X e (TGt F t)) (h2 : PGs X es (TGts F ts)) (hs : (assignEach (e :: es) X.env).map (·.2) = assign e X.env :: (assignEach es X.env).map (·.2)) : PGs X (e :: es) (TGts F (t :: ts)) :=
  PGs.imp (pgs_cons h1 h2 hs) fun vs σ H Q ⟨M, ρ, ds, ρ', R, dv, e, hp, q⟩ => by
    cases ds with
    | nil => cases e
    | cons d ds =>
      obtain ⟨x, r, rfl, h3, h4⟩ := dv
      unfold setTs at e
      split at e
      · rename_i ρ1 e1
        exact ⟨x, r, rfl, M, ρ, d, ρ1, R, h3, e1, hp t List.mem_cons_self, fun σ1 H1 R1 k1 => ⟨M, ρ1, ds, ρ', R1, DvS.keep k1 R.mm ds h4, e, fun u hu => hp u (List.mem_cons_of_mem _ hu), fun σ2 H2 R2 k2 => q σ2 H2 R2 (k1.trans k2)⟩⟩
      · cases e
theorem setTs_len : ∀ {ts : List Tg} {ds : List D} {ρ ρ' : Ev}, setTs ts ds ρ = some ρ' → ts.length = ds.length
  | [], [], _, _, _ => rfl
  | t :: ts, d :: ds, ρ, ρ', h => by
    unfold setTs at h
    split at h
    · simp [setTs_len (ts := ts) h]
    · cases h
  | [], _ :: _, _, _, h => by cases h
  | _ :: _, [], _, _, h => by cases h
def bTg (t : Tg) (fe : FE) : FB := fun ρ => match fe ρ with
  | some (.dat d, ρ1) => match setT t d ρ1 with
    | some ρ2 => some (.nx, ρ2)
    | none => none
  | _ => none
def bTgs (ts : List Tg) (fe : FE) : FB := fun ρ => match fe ρ with
  | some (.dat (.tup ds), ρ1) => match setTs ts ds ρ1 with
    | some ρ2 => some (.nx, ρ2)
    | none => none
  | _ => none
theorem ds_tg {tg e : Expr} {t : Tg} {fe : FE} (he : PE X e (TEd F fe)) (hg : PG X tg (TGt F t)) (hs : swapsWithSole [tg] e pos.line X.env = pure false) (hw : swappedStores [tg] e X.env = pure none)
    (h1 : (assignEach [tg] X.env).map (·.2) = [assign tg X.env]) (hp : t.free F) : PS X (.Assign [tg] e pos) (TSd F (bTg t fe)) :=
  PS.imp (ps_asg he hg hs hw h1) fun E σ H ⟨M, ρ, w, ρ', R, hf, q⟩ => by
    unfold bTg at hf
    split at hf
    · rename_i d ρ1 e1
      split at hf
      · rename_i ρ2 e2
        cases hf
        exact ⟨M, ρ, _, ρ1, R, e1, fun v M1 H1 s1 R1 k1 ok1 => ⟨M1, ρ1, d, _, R1, ok1, e2, hp, fun σ2 H2 R2 k2 => q M1 σ2 H2 R2 ((Stp.of R (fun a z => .inl (s1 a z)) k1).trans fun d v h => Dv.keep k2 R1.mm d h)⟩⟩
      · cases hf
    · cases hf
theorem ds_tgs {ts : List Expr} {e : Expr} {gs : List Tg} {kt n : Nat} {pt : Pos} {fe : FE} (hK : F.K = X.K) (hc : X.calm = true) (he : PE X e (TEd F fe)) (hg : PGs X ts (TGts F gs)) (hl : (assignEach ts X.env).length = n) (hln : gs.length = n) (hst : (assignEach ts X.env).findIdx? (·.1) = none)
    (hs : swapsWithSole [.Tuple ts kt pt] e pos.line X.env = pure false) (hw : swappedStores [.Tuple ts kt pt] e X.env = pure none) (h1 : (assignEach [.Tuple ts kt pt] X.env).map (·.2) = [assign (.Tuple ts kt pt) X.env]) (hp : ∀ t ∈ gs, t.free F) :
    PS X (.Assign [.Tuple ts kt pt] e pos) (TSd F (bTgs gs fe)) := by
  obtain ⟨K, T, M0, pa, H0⟩ := F
  cases hK
  refine PS.imp (ps_asg he (pg_tup (n := n) hc hg hl hst) hs hw h1) fun E σ H ⟨M, ρ, w, ρ', R, hf, q⟩ => ?_
  unfold bTgs at hf
  split at hf
  · rename_i ds ρ1 e1
    split at hf
    · rename_i ρ2 e2
      cases hf
      refine ⟨M, ρ, _, ρ1, R, e1, fun v M1 H1 s1 R1 k1 ok1 => ?_⟩
      obtain ⟨a, xs, rfl, ha, ra⟩ := ok1
      exact ⟨a, xs, rfl, ha, by rw [← ra.length, ← setTs_len e2, hln], M1, ρ1, ds, _, R1, ra, e2, hp, fun σ2 H2 R2 k2 => q M1 σ2 H2 R2 ((Stp.of R (fun a z => .inl (s1 a z)) k1).trans fun d v h => Dv.keep k2 R1.mm d h)⟩
    · cases hf
  · cases hf
end

/-! ### calls: of methods, properties -/
theorem call_core {F : Fx} {n : Nat} {g : FG} {dss : List D} {dvs : List V} {os : List Opd} {ρ1 ρ' : Ev} {r : Opd} {σ : Sg} (hl : os.length + dss.length = n) (hd : DefOk F.K F.T dss dvs)
    (hf : (match argSl ρ1 os with
    | none => none
    | some ss => if (slotsOf os).Nodup then match g (ss ++ dss.map .dat) with
        | some (r, outs) => if os.length ≤ outs.length then some (Opd.dat r, putSl ρ1 os outs) else none
        | none => none
      else none) = some (r, ρ')) {M1 : Ms} {H1 : Hp} (R1 : ER F M1 ρ1 σ H1) {vs : List V} (ok1 : OpdsOk F M1 H1 σ os vs) {Q : VK}
    (q : ∀ v H2, ER F M1 ρ' σ H2 → Keep M1 H1 H2 → OpdOk F M1 H2 σ r v → Q v H2) : spD F.K F.T n g (vs ++ dvs) H1 Q := by
  cases e2 : argSl ρ1 os with
  | none => rw [e2] at hf; cases hf
  | some ss =>
    rw [e2] at hf
    simp only at hf
    split at hf
    case isFalse => cases hf
    case isTrue nd =>
    cases e3 : g (ss ++ dss.map .dat) with
    | none => rw [e3] at hf; cases hf
    | some pr =>
      obtain ⟨r', outs⟩ := pr
      rw [e3] at hf
      simp only at hf
      split at hf
      case isFalse => cases hf
      case isTrue hlo =>
      cases hf
      refine ⟨?_, M1, _, r', outs, args_se R1 ok1 e2 nd hd, e3, fun v H2 kp ho dv => ?_⟩
      · have l2 : os.length = vs.length := Paired.length ok1
        have l3 := (hd M1 H1).length
        rw [List.length_append]
        omega
      · obtain ⟨R2, k2⟩ := args_back R1 ok1 e2 nd hd kp ho hlo
        exact q v H2 R2 k2 dv
/-- the call of g with these operands -/
def runG (g : FG) (dss : List D) (os : List Opd) (ρ1 : Ev) : Option (Opd × Ev) := match argSl ρ1 os with
  | none => none
  | some ss => if (slotsOf os).Nodup then match g (ss ++ dss.map .dat) with
      | some (r, outs) => if os.length ≤ outs.length then some (Opd.dat r, putSl ρ1 os outs) else none
      | none => none
    else none
def fMeth (c : Nat) (g : FG) (dss : List D) (fo : FE) (fa : FA) : FE := fun ρ => match fo ρ with
  | none => none
  | some (o, ρ1) => match insOf (o.get ρ1) with
    | some (c', _) => if c' = c then match fa ρ1 with
        | some (os, ρ2) => runG g dss (o :: os) ρ2
        | none => none
      else none
    | none => none
section
variable {X : Cx} {F : Fx} {k : Nat} {C f : Addr} {fd : FuncData} {ps : List Str} {g : FG} {dvs : List V} {dss : List D} {ds : List Value} {m : Str} {apos pos : Pos} {o e : Expr} {es : List Expr} {fo : FE} {fa : FA} {n c : Nat}
theorem meth_read (hl : FaLen fa n) (hn : n + 1 + dss.length = ps.length) (hdd : DefOk F.K F.T dss dvs) (hm : m ∉ F.T.fl c) {σ : Sg} {H : Hp} {Q : VK} (h : TEd F (fMeth c g dss fo fa) σ H Q) :
    tMeth (F.T.ad c) m (spO F.K F.T ps.length g) dvs (fun _ _ _ => False) (TEd F fo) (TAd F fa) σ H Q := by
  obtain ⟨M, ρ, r, ρ', R, hf, q⟩ := h
  unfold fMeth at hf
  cases e1 : fo ρ with
  | none => rw [e1] at hf; cases hf
  | some p1 =>
    obtain ⟨o1, ρ1⟩ := p1
    rw [e1] at hf
    simp only at hf
    cases e2 : insOf (o1.get ρ1) with
    | none => rw [e2] at hf; cases hf
    | some p2 =>
      obtain ⟨c', ds'⟩ := p2
      rw [e2] at hf
      simp only at hf
      split at hf
      case isFalse => cases hf
      case isTrue hc =>
      subst hc
      cases e3 : fa ρ1 with
      | none => rw [e3] at hf; cases hf
      | some p3 =>
        obtain ⟨os, ρ2⟩ := p3
        rw [e3] at hf
        simp only at hf
        refine ⟨M, ρ, o1, ρ1, R, e1, fun x M1 H1 s1 R1 k1 ok1 => ?_⟩
        obtain ⟨a, dx, xs, rfl, ha, hl', dv⟩ := (R1.opd ok1 (insOf_some e2)).ins
        refine ⟨a, dx, _, rfl, ha, zip_nolook hm, M1, ρ1, os, ρ2, R1, e3, fun vs M2 H2 s2 R2 k2 ok2 => ?_⟩
        have lo := hl.eq _ _ _ e3
        exact call_core (os := o1 :: os) (vs := V.ref a :: vs) (by rw [List.length_cons, lo]; omega) hdd hf R2 (.cons (OpdOk.less s2 (OpdOk.keep R1.mm k2 ok1)) ok2)
          fun v H3 R3 k3 ok3 => q v M2 H3 (fun b z => s1 b (s2 b z)) R3 ((k1.trans (k2.mono s1)).trans (k3.mono fun b z => s1 b (s2 b z))) ok3
theorem de_meth {pl : Sem Bool} (hK : F.K = X.K) (ho : PE X o (TEd F fo)) (ck : CK X.K F.T c) (hm : Meth X.K (F.T.ad c) m f) (Fn : FnOk X.prog X.w X.K X.mg X.base CX0 k f fd ps (spO X.K F.T ps.length g)) (hr : Room k X.A) (hb : Binds X.K fd ps ds) (hd : Vals dvs ds) (hdd : DefOk F.K F.T dss dvs)
    (ha : PA X (e :: es) (TAd F fa)) (hl : FaLen fa n) (hn : n + 1 + dss.length = ps.length) (hnf : m ∉ F.T.fl c) (hst : starEach (e :: es) X.env = (false, eval e X.env) :: starEach es X.env) (hpl : (backTo pos (starEach es X.env)).any (·.1) = false)
    (ht : eval (.Call (.Attribute o m apos) (e :: es) [] pos) X.env = (do
      let ov ← eval o X.env
      standAt apos.atName
      let (f, first) ← holding [ov] (getMethod ov m pl)
      callWith pos f first (backTo pos (starEach (e :: es) X.env)) (backToKw pos (keywordEach [] X.env)))) : PE X (.Call (.Attribute o m apos) (e :: es) [] pos) (TEd F (fMeth c g dss fo fa)) := by
  obtain ⟨K, T, M0, pa, H0⟩ := F
  cases hK
  exact PE.imp (pe_meth (E := fun _ _ _ => False) ho ck.cls hm Fn hr hb hd passes0 ha hst hpl ht) fun σ H Q h => meth_read hl hn hdd hnf h
theorem nil_read {t : TA} {σ : Sg} {H : Hp} {Q : List V → Hp → Prop} (h : TAd F fNil σ H Q) : tNil σ H Q := by
  obtain ⟨M, ρ, os, ρ', R, hf, q⟩ := h
  cases hf
  exact q [] M H (fun _ z => z) R Keep.rfl .nil
theorem de_meth0 {pl : Sem Bool} (hK : F.K = X.K) (ho : PE X o (TEd F fo)) (ck : CK X.K F.T c) (hm : Meth X.K (F.T.ad c) m f) (Fn : FnOk X.prog X.w X.K X.mg X.base CX0 k f fd ps (spO X.K F.T ps.length g)) (hr : Room k X.A) (hb : Binds X.K fd ps ds) (hd : Vals dvs ds) (hdd : DefOk F.K F.T dss dvs)
    (hn : 0 + 1 + dss.length = ps.length) (hnf : m ∉ F.T.fl c)
    (ht : eval (.Call (.Attribute o m apos) [] [] pos) X.env = (do
      let ov ← eval o X.env
      standAt apos.atName
      let (f, first) ← holding [ov] (getMethod ov m pl)
      callWith pos f first (backTo pos (starEach [] X.env)) (backToKw pos (keywordEach [] X.env)))) : PE X (.Call (.Attribute o m apos) [] [] pos) (TEd F (fMeth c g dss fo fNil)) := by
  obtain ⟨K, T, M0, pa, H0⟩ := F
  cases hK
  refine PE.imp (pe_meth0 (E := fun _ _ _ => False) ho ck.cls hm Fn hr hb hd passes0 ht) fun σ H Q h => ?_
  obtain ⟨M, ρ, o1, ρ1, R, e1, qq⟩ := meth_read (m := m) faLen_nil hn hdd hnf h
  refine ⟨M, ρ, o1, ρ1, R, e1, fun v M1 H1 s1 R1 k1 ok1 => ?_⟩
  obtain ⟨a, dx, fs, c1, c2, c3, c4⟩ := qq v M1 H1 s1 R1 k1 ok1
  exact ⟨a, dx, fs, c1, c2, c3, nil_read (t := tNil) c4⟩
theorem de_prop {p : Addr} (hK : F.K = X.K) (ho : PE X o (TEd F fo)) (ck : CK X.K F.T c) (hp : PropOf X.K (F.T.ad c) m p f) (Fn : FnOk X.prog X.w X.K X.mg X.base CX0 k f fd ps (spO X.K F.T ps.length g)) (hr : Room (k + 1) X.A) (hb : Binds X.K fd ps [])
    (hn : 1 = ps.length) (hab : attributeBase o m X.env (eval o X.env) = eval o X.env) : PE X (.Attribute o m pos) (TEd F (fMeth c g [] fo fNil)) := by
  obtain ⟨K, T, M0, pa, H0⟩ := F
  cases hK
  refine PE.imp (pe_prop (E := fun _ _ _ => False) (dvs := []) ho ck.cls hp Fn hr hb .nil passes0 hab) ?_
  rintro σ H Q ⟨M, ρ, r, ρ', R, hf, q⟩
  unfold fMeth at hf
  cases e1 : fo ρ with
  | none => rw [e1] at hf; cases hf
  | some p1 =>
    obtain ⟨o1, ρ1⟩ := p1
    rw [e1] at hf
    simp only at hf
    cases e2 : insOf (o1.get ρ1) with
    | none => rw [e2] at hf; cases hf
    | some p2 =>
      obtain ⟨c', ds'⟩ := p2
      rw [e2] at hf
      simp only at hf
      split at hf
      case isFalse => cases hf
      case isTrue hc =>
      subst hc
      refine ⟨M, ρ, o1, ρ1, R, e1, fun x M1 H1 s1 R1 k1 ok1 => ?_⟩
      obtain ⟨a, dx, xs, rfl, ha, hl', dv⟩ := (R1.opd ok1 (insOf_some e2)).ins
      exact ⟨a, dx, _, rfl, ha, call_core (dvs := []) (dss := []) (os := [o1]) (vs := [V.ref a]) (by simpa using hn) (fun _ _ => rfl) hf R1 (.cons ok1 .nil)
        fun v H3 R3 k3 ok3 => q v M1 H3 s1 R3 (k1.trans (k3.mono s1)) ok3⟩
end
end SC

set_option Elab.async false
set_option linter.all false
set_option maxRecDepth 100000
namespace SC
open PySem PySem.Spec PyProof.Rows L2

/-! ### built-ins by name, constants -/
section
variable {X : Cx} {F : Fx} {x : Str} {p pos : Pos} {e : Expr} {es : List Expr} {fa : FA} {id : String} {g : List D → Option D}
theorem de_blt (hc : CallR X (.builtin id) (rCs F g)) (hg : Gl X x) (hm : X.mg x = none) (hv : bootBuiltins x = some (.builtin id)) (ha : PA X (e :: es) (TAd F fa)) (hn : x ≠ "__name__") (hdb : (x == ("__debug__" : Str)) = false)
    (he : starEach (e :: es) X.env = (false, eval e X.env) :: starEach es X.env) (hpl : (backTo pos (starEach es X.env)).any (·.1) = false) : PE X (.Call (.Name x p) (e :: es) [] pos) (TEd F (fBlt g fa)) :=
  PE.imp (pe_callB hc hg hm hv ha hn hdb he hpl) fun _ _ _ => blt_imp
theorem de_bty (hc : CallR X (.type id) (rCs F g)) (hg : Gl X x) (hm : X.mg x = none) (hv : bootBuiltins x = some (.type id)) (ha : PA X (e :: es) (TAd F fa)) (hn : x ≠ "__name__") (hdb : (x == ("__debug__" : Str)) = false)
    (he : starEach (e :: es) X.env = (false, eval e X.env) :: starEach es X.env) (hpl : (backTo pos (starEach es X.env)).any (·.1) = false) : PE X (.Call (.Name x p) (e :: es) [] pos) (TEd F (fBlt g fa)) :=
  PE.imp (pe_callTy hc hg hm hv ha hn hdb he hpl) fun _ _ _ => blt_imp
theorem de_glob {d : D} {v : V} {u : Value} (hg : Gl X x) (hm : X.mg x = some u) (r : RelV v u) (hdb : (x == ("__debug__" : Str)) = false) (hd : ∀ M H, Dv F.K F.T M H d v) : PE X (.Name x pos) (TEd F (fC d)) := de_c (pe_glob hg hm r hdb) hd
end

/-! ### isinstance -/
def tyD : D → Option String
  | .non => some "NoneType"
  | .bl _ => some "bool"
  | .int _ => some "int"
  | .str _ => some "str"
  | .tup _ => some "tuple"
  | .lst _ => some "list"
  | .dic _ _ => some "dict"
  | .scr _ => some "list"
  | .ins _ _ => none
  | .cl _ => none
def tyIs (n : String) (d : D) : Option Bool := match tyD d with
  | some t => kitB t n
  | none => none
/-- is it of the class c (cs: the classes of its instances) -/
def inCls (kn cs : List Nat) (d : D) : Option Bool := match d with
  | .ins c _ => if kn.contains c = true then some (cs.contains c) else none
  | .cl _ => none
  | _ => some false
def fIsi (g : D → Option Bool) (fa : FE) : FE := fun ρ => match fa ρ with
  | none => none
  | some (o, ρ1) => match o.get ρ1 with
    | none => none
    | some d => match g d with
      | some b => some (.dat (.bl b), ρ1)
      | none => none
/-- what an own class tells of its instances' type -/
structure TyC (K : PySem.W.Frag) (C : Addr) : Prop where
  ha : PySem.W.findIn K (.ref C) "__class__" = some (some (.builtin "object.__class__"))
  hn : PySem.W.specialIn K (.builtin "object.__class__") "__get__" = some (some (.builtin "getset_descriptor.__get__"))
  htk : PySem.W.takesIn K (.builtin "object.__class__") = some true
  hm : PySem.W.mroIn K C (.type "object") = some true
theorem do_ty {K : PySem.W.Frag} {T : Cl} {M : Ms} {H : Hp} {d : D} {v : V} {t : String} (h : Do K T M H d v) (e : tyD d = some t) : TyX K H v (.type t) := by
  cases d with
  | non => cases e; rw [h.non]; exact .base .non
  | bl b => cases e; rw [h.bl]; exact .base (.bl b)
  | int i => cases e; rw [h.int]; exact .base (.int i)
  | str z => cases e; rw [h.str]; exact .base (.str z)
  | tup ds =>
    cases e
    obtain ⟨a, xs, rfl, q, _⟩ := h.tup
    rcases q with (q | ⟨o, q⟩) | ⟨o, its, n, q, c, _⟩
    · exact .base (.tup q)
    · exact .fTuple q
    · exact .kTuple q c
  | lst ds =>
    cases e
    obtain ⟨a, xs, rfl, q, _⟩ := h.lst
    exact .base (.lst q)
  | dic ks ds =>
    cases e
    rcases h with ⟨a, xs, rfl, _, q, _⟩ | ⟨_, _, _, e, _⟩ | ⟨_, _, _, _, _, e, _⟩
    · exact .base (.dK q)
    · cases e
    · cases e
  | scr ns =>
    cases e
    rcases h with ⟨a, rfl, q⟩ | ⟨_, _, _, e, _⟩ | ⟨_, _, _, _, _, e, _⟩
    · rcases q with ⟨o, q⟩ | ⟨o, its, n, q, c, _⟩
      · exact .base (.frz q)
      · exact .kList q c
    · cases e
    · cases e
  | ins c ds => cases e
  | cl _ => cases e
section
variable {X : Cx} {F : Fx} {x : Str} {p pos p2 : Pos} {a : Expr} {fa : FE}
theorem de_isi {n : String} {y : Str} (hK : F.K = X.K) (hg : Gl X x) (hm : X.mg x = none) (hv : bootBuiltins x = some (.builtin "isinstance")) (hn : x ≠ "__name__") (hdb : (x == ("__debug__" : Str)) = false)
    (hy : PE X (.Name y p2) (tC (.ty n))) (ha : PE X a (TEd F fa)) (he : starEach [a, .Name y p2] X.env = (false, eval a X.env) :: starEach [.Name y p2] X.env) (he2 : starEach [.Name y p2] X.env = (false, eval (.Name y p2) X.env) :: starEach [] X.env)
    (hpl : (backTo pos (starEach [.Name y p2] X.env)).any (·.1) = false) : PE X (.Call (.Name x p) [a, .Name y p2] [] pos) (TEd F (fIsi (tyIs n) fa)) := by
  obtain ⟨K, T, M0, pa, H0⟩ := F
  cases hK
  refine PE.imp (pe_callB call_isi hg hm hv (pa_cons ha (pa_cons hy pa_nil he2) he) hn hdb he hpl) ?_
  rintro σ H Q ⟨M, ρ, r, ρ', R, hf, q⟩
  unfold fIsi at hf
  cases e1 : fa ρ with
  | none => rw [e1] at hf; cases hf
  | some p1 =>
    obtain ⟨o, ρ1⟩ := p1
    rw [e1] at hf
    simp only at hf
    cases e2 : o.get ρ1 with
    | none => rw [e2] at hf; cases hf
    | some d =>
      rw [e2] at hf
      simp only at hf
      cases e3 : tyIs n d with
      | none => rw [e3] at hf; cases hf
      | some b =>
        rw [e3] at hf
        cases hf
        unfold tyIs at e3
        split at e3
        · rename_i t et
          refine ⟨M, ρ, o, _, R, e1, fun v M1 H1 s1 R1 k1 ok1 => ⟨v, .ty n, .type t, .type n, b, rfl, .ty n, do_ty (R1.opd ok1 e2) et, kit_ty e3, q _ M1 H1 s1 R1 k1 rfl⟩⟩
        · cases e3
/-- the own class at C: which instances it has -/
structure IsC (K : PySem.W.Frag) (T : Cl) (C : Addr) (kn cs : List Nat) : Prop where
  ty : ∀ t ∈ ["NoneType", "bool", "int", "str", "tuple", "list", "dict"], PySem.W.kitOne K (.type t) (.ref C) = some false
  own : ∀ c a dx fs (H : Hp), kn.contains c = true → H a = some (.ins (T.ad c) dx fs) → ∃ t, TyX K H (.ref a) t ∧ PySem.W.kitOne K t (.ref C) = some (cs.contains c)
theorem de_isiC {C : Addr} {kn cs : List Nat} {y : Str} (hK : F.K = X.K) (hC : IsC X.K F.T C kn cs) (hg : Gl X x) (hm : X.mg x = none) (hv : bootBuiltins x = some (.builtin "isinstance")) (hn : x ≠ "__name__") (hdb : (x == ("__debug__" : Str)) = false)
    (hy : PE X (.Name y p2) (tC (.ref C))) (ha : PE X a (TEd F fa)) (he : starEach [a, .Name y p2] X.env = (false, eval a X.env) :: starEach [.Name y p2] X.env) (he2 : starEach [.Name y p2] X.env = (false, eval (.Name y p2) X.env) :: starEach [] X.env)
    (hpl : (backTo pos (starEach [.Name y p2] X.env)).any (·.1) = false) : PE X (.Call (.Name x p) [a, .Name y p2] [] pos) (TEd F (fIsi (inCls kn cs) fa)) := by
  obtain ⟨K, T, M0, pa, H0⟩ := F
  cases hK
  refine PE.imp (pe_callB call_isi hg hm hv (pa_cons ha (pa_cons hy pa_nil he2) he) hn hdb he hpl) ?_
  rintro σ H Q ⟨M, ρ, r, ρ', R, hf, q⟩
  unfold fIsi at hf
  cases e1 : fa ρ with
  | none => rw [e1] at hf; cases hf
  | some p1 =>
    obtain ⟨o, ρ1⟩ := p1
    rw [e1] at hf
    simp only at hf
    cases e2 : o.get ρ1 with
    | none => rw [e2] at hf; cases hf
    | some d =>
      rw [e2] at hf
      simp only at hf
      cases e3 : inCls kn cs d with
      | none => rw [e3] at hf; cases hf
      | some b =>
        rw [e3] at hf
        cases hf
        refine ⟨M, ρ, o, _, R, e1, fun v M1 H1 s1 R1 k1 ok1 => ?_⟩
        have dd := R1.opd ok1 e2
        have key : ∃ t, TyX X.K H1 v t ∧ PySem.W.kitOne X.K t (.ref C) = some b := by
          cases et : tyD d with
          | some t =>
            have hb : b = false := by
              cases d <;> first | (cases e3; rfl) | cases et
            subst hb
            refine ⟨_, do_ty dd et, hC.ty t ?_⟩
            cases d <;> cases et <;> simp
          | none =>
            cases d with
            | ins c ds =>
              unfold inCls at e3
              simp only at e3
              split at e3
              · rename_i hk
                cases e3
                obtain ⟨a, dx, xs, rfl, ha, _, _⟩ := dd.ins
                exact hC.own c a dx _ H1 hk ha
              · cases e3
            | cl _ => cases e3
            | _ => cases et
        obtain ⟨t, ty, kb⟩ := key
        exact ⟨v, .ref C, t, .ref C, b, rfl, .own C, ty, kb, q _ M1 H1 s1 R1 k1 rfl⟩
end
end SC

set_option Elab.async false
set_option linter.all false
set_option maxRecDepth 100000
namespace SC
open PySem PySem.Spec PyProof.Rows L2

/-! ### making an instance -/
/-- the promise of an __init__ over data: fields of the class c from the arguments -/
def spMk (K : PySem.W.Frag) (T : Cl) (c : Nat) (gi : List D → Option (List D)) : Sp := fun vs H Q _ => ∃ x dx vs' M ds fs, vs = V.ref x :: vs' ∧ H x = some (.ins (T.ad c) dx []) ∧ MM T M H ∧ M x ∧ DvS K T M H ds vs' ∧ gi ds = some fs ∧
  ∀ H', Ke T (fun a => a = x) H H' → (∃ dx xs, H' x = some (.ins (T.ad c) dx ((T.fl c).zip xs)) ∧ xs.length ≤ (T.fl c).length ∧ DvS K T M H' fs xs) → Q .non H'
def outI (c : Nat) : Option (D × List Sl) → Option (List D)
  | some (.non, .obj c' fs :: _) => if c' = c then some fs else none
  | _ => none
/-- from an __init__'s denotation -/
def initD (c n : Nat) (g : FG) (ds : List D) : Option (List D) := if ds.length + 1 = n then outI c (g (.obj c [] :: ds.map .dat)) else none
/-- .. whose last parameter is *rows: np ones ahead of it, self apart -/
def initS (c np : Nat) (g : FG) (ds : List D) : Option (List D) := if np ≤ ds.length ∧ ds.length ≤ sLn then outI c (g (.obj c [] :: ((ds.take np).map .dat ++ [.dat (.tup (ds.drop np))]))) else none
theorem outI_some {c : Nat} {r : Option (D × List Sl)} {fs : List D} (h : outI c r = some fs) : ∃ rest, r = some (.non, .obj c fs :: rest) := by
  unfold outI at h
  split at h
  · rename_i c' fs' rest
    split at h
    · rename_i e
      cases h
      exact ⟨rest, by rw [e]⟩
    · cases h
  · cases h
section
variable {K : PySem.W.Frag} {T : Cl} {M : Ms} {H : Hp} {x dx : Addr} {c : Nat} {ds : List D} {vs : List V}
theorem se_mk (mm : MM T M H) (hx : H x = some (.ins (T.ad c) dx [])) (m : M x) (dv : DvS K T M H ds vs) : SE K T M (.obj c [] :: ds.map .dat) ((V.ref x :: vs).map some) H := by
  have nomut : ∀ (i : Nat) (s : Sl), (Sl.obj c [] :: ds.map .dat)[i]? = some s → s.mut = true → i = 0 := fun i s h mu => by
    cases i with
    | zero => rfl
    | succ i =>
      have h' : (ds.map Sl.dat)[i]? = some s := h
      rw [List.getElem?_map] at h'
      cases e : ds[i]? with
      | none => rw [e] at h'; cases h'
      | some d => rw [e] at h'; cases h'; cases mu
  refine ⟨mm, by simp [dv.length], fun i s h => ?_, fun i j s t v h1 m1 h2 m2 _ _ => (nomut i s h1 m1).trans (nomut j t h2 m2).symm⟩
  cases i with
  | zero =>
    cases h
    exact ⟨_, rfl, x, rfl, m, dx, [], by rw [hx, List.zip_nil_right], Nat.zero_le _, DvS.nil⟩
  | succ i =>
    have h' : (ds.map Sl.dat)[i]? = some s := h
    rw [List.getElem?_map] at h'
    cases e : ds[i]? with
    | none => rw [e] at h'; cases h'
    | some d =>
      rw [e] at h'
      cases h'
      obtain ⟨v, h1, h2⟩ := dv.getD e
      exact ⟨some v, by show (vs.map some)[i]? = _; rw [List.getElem?_map, h1]; rfl, v, rfl, h2⟩
theorem mk_post {n : Nat} {g : FG} {fs : List D} {Q : VK} {E : XK} (hn : vs.length + 1 = n) (mm : MM T M H) (hx : H x = some (.ins (T.ad c) dx [])) (m : M x) (dv : DvS K T M H ds vs) (hg : outI c (g (.obj c [] :: ds.map .dat)) = some fs)
    (q : ∀ H', Ke T (fun a => a = x) H H' → (∃ dx xs, H' x = some (.ins (T.ad c) dx ((T.fl c).zip xs)) ∧ xs.length ≤ (T.fl c).length ∧ DvS K T M H' fs xs) → Q .non H') : spO K T n g (V.ref x :: vs) H Q E := by
  obtain ⟨rest, e⟩ := outI_some hg
  refine ⟨by simpa using hn, M, _, _, _, se_mk mm hx m dv, e, fun v H' kp ho dvr => ?_⟩
  cases (show v = .non from dvr)
  refine q H' (kp.imp fun a _ ⟨i, s, z1, z2, z3⟩ => ?_) ?_
  · have hi : i = 0 := by
      cases i with
      | zero => rfl
      | succ i =>
        have h' : (ds.map Sl.dat)[i]? = some s := z1
        rw [List.getElem?_map] at h'
        cases e : ds[i]? with
        | none => rw [e] at h'; cases h'
        | some d => rw [e] at h'; cases h'; cases z2
    subst hi
    cases z3
    rfl
  · obtain ⟨o, a, h1, h2, h3, h4⟩ := ho 0 (.obj c []) rfl rfl
    cases h1
    cases h3
    exact h4
end
section
variable {P : Program} {w : World} {K : PySem.W.Frag} {mg : Str → Option Value} {base : Heap} {k : Nat} {f : Addr} {fd : FuncData} {ps : List Str} {T : Cl} {c : Nat} {g : FG}
theorem fnR_init (F : FnOk P w K mg base CX0 k f fd ps (spO K T ps.length g)) (hb : Binds K fd ps []) : FnR P w K mg base CX0 k f (spMk K T c (initD c ps.length g)) := by
  intro A outer s H us vs Q E hr e0 rv h
  obtain ⟨x, dx, vs', M, ds, fs, rfl, hx, mm, m, dv, hg, q⟩ := h
  unfold initD at hg
  split at hg
  case isFalse => cases hg
  case isTrue hl =>
  have sp := mk_post (E := E) (Q := Q) (g := g) (n := ps.length) (by rw [← dv.length]; exact hl) mm hx m dv hg q
  have kin : K.In s.heap := e0.mod.kin.keeps fun b o z => (e0.bs b o z).1
  have hlu : (us ++ []).length = ps.length := by rw [List.append_nil, ← rv.length]; simpa [dv.length] using hl
  have hbu := hb s us kin hlu
  rw [List.append_nil] at hbu
  exact F.run A outer s H ⟨us, []⟩ us _ Q E hr e0 hbu rv sp
variable {name qual : Str} {params : Arguments} {body : List Stmt} {scope : Scope} {dV kV doc pm cdv ct oc : Value} {an od : Option Addr} {osl : Array (Option Value)} {N : List Str} {asg : List Nat} {fb : FB} {pv : Str}
theorem fnR_star {np : Nat} (lk : K.lookup f = some ⟨oc, od, .func (PySem.W.fnOf name qual params body scope dV kV doc pm an cdv ct), osl⟩) (hcd : PySem.W.codeIn K cdv qual = true) (S : FnScope N (ps ++ [pv]) scope) (hnp : np + 1 = ps.length)
    (hb : ∀ us rest : List Value, us.length = ps.length → bindArgs (PySem.W.fnOf name qual params body scope dV kV doc pm an cdv ct) ⟨us ++ rest, []⟩ = (newTuple rest >>= fun t => pure (ps.zip us ++ [(pv, t)])))
    (go : ∀ (A : Around) (outer : List Env) (s : Shared) (H : Hp) (E : XK), Room k (A.deeper (envOfC qual scope s.heap.objs.size f cdv)) → ∀ F : Fx, F.K = K → F.T = T → PaOk F (ps ++ [pv]).length asg →
      PSs (bodyCx P w K mg base N qual scope f cdv A outer s H E) body (TSd F fb)) :
    FnR P w K mg base CX0 (k + 1) f (spMk K T c (initS c np (fnD N.length asg fb))) := by
  have R := StX.fn_star (P := P) (w := w) (mg := mg) (base := base) (sp := spO K T (ps ++ [pv]).length (fnD N.length asg fb)) lk hcd S StX.cxUp_none hb fun A outer s H vs Q E hr h => ⟨_, exF (go A outer s H E hr), spD_in S h⟩
  intro A outer s H us vs Q E hr e0 rv h
  obtain ⟨x, dx, vs', M, ds, fs, rfl, hx, mm, m, dv, hg, q⟩ := h
  unfold initS at hg
  split at hg
  case isFalse => cases hg
  case isTrue hl =>
  refine R A outer s H us _ Q E hr e0 rv ⟨V.ref x :: vs'.take np, vs'.drop np, by simp, ?_, ?_, fun p hp => ?_⟩
  · have := dv.length
    simp
    omega
  · have := dv.length
    rw [List.length_drop, ← sLn_eq]
    omega
  · have ex : Ext H (upd H p (.tup (vs'.drop np))) := Ext.new hp
    have dv2 : DvS K T M (upd H p (.tup (vs'.drop np))) (ds.take np ++ [D.tup (ds.drop np)]) (vs'.take np ++ [V.ref p]) :=
      (DvS.ext ex _ (dv.take np)).append (DvS.cons ⟨p, _, rfl, SqT.of upd_same, DvS.ext ex _ (dv.drop np)⟩ DvS.nil)
    have hg2 : outI c (fnD N.length asg fb (.obj c [] :: (ds.take np ++ [D.tup (ds.drop np)]).map .dat)) = some fs := by rw [List.map_append]; exact hg
    refine mk_post (dx := dx) (ds := ds.take np ++ [D.tup (ds.drop np)]) ?_ (mm.ext ex) (ex x _ hx) m dv2 hg2 fun H' kp ob => q H' ((Ext.ke (P := fun a => a = x) ex).trans kp fun a z => .inr z) ob
    · have := dv.length
      simp
      omega
end
def fMake (c : Nat) (gi : List D → Option (List D)) (fa : FA) : FE := fun ρ => match fa ρ with
  | none => none
  | some (os, ρ1) => match datAll os with
    | none => none
    | some ds => match gi ds with
      | some fs => some (.dat (.ins c fs), ρ1)
      | none => none
section
variable {X : Cx} {F : Fx} {k : Nat} {f : Addr} {x : Str} {p pos : Pos} {e : Expr} {es : List Expr} {fa : FA} {c : Nat} {gi : List D → Option (List D)}
theorem make_imp (hK : F.K = X.K) {σ : Sg} {H : Hp} {Q : VK} (h : TEd F (fMake c gi fa) σ H Q) : StX.tMakeR (F.T.ad c) (spMk X.K F.T c gi) (fun _ _ _ => False) (TAd F fa) σ H Q := by
  obtain ⟨K, T, M0, pa, H0⟩ := F
  cases hK
  obtain ⟨M, ρ, r, ρ', R, hf, q⟩ := h
  unfold fMake at hf
  cases e1 : fa ρ with
  | none => rw [e1] at hf; cases hf
  | some p1 =>
    obtain ⟨os, ρ1⟩ := p1
    rw [e1] at hf
    simp only at hf
    cases e2 : datAll os with
    | none => rw [e2] at hf; cases hf
    | some ds =>
      rw [e2] at hf
      simp only at hf
      cases e3 : gi ds with
      | none => rw [e3] at hf; cases hf
      | some fs =>
        rw [e3] at hf
        cases hf
        refine ⟨M, ρ, os, _, R, e1, fun vs M1 H1 s1 R1 k1 ok1 => ?_⟩
        have dv := OpdsOk.datAll ok1 e2
        intro x dx hx hdx hne
        have ex1 : Ext H1 (upd H1 dx (.own x)) := Ext.new hdx
        have hx1 : (upd H1 dx (.own x)) x = none := by rw [upd_ne (Ne.symm hne)]; exact hx
        have ex2 : Ext H1 (upd (upd H1 dx (.own x)) x (.ins (T.ad c) dx [])) := ex1.trans (Ext.new hx1)
        have to : ∀ a, (M1 a ∨ a = x) → M1 a ∨ H1 a = none := fun a z => z.imp id fun e => by rw [e]; exact hx
        refine ⟨x, dx, vs, fun a => M1 a ∨ a = x, ds, fs, rfl, upd_same, (R1.mm.ext ex1).more hx1 trivial, .inr rfl, DvS.ext ex2 ds (DvS.to to ds dv), e3, fun H2 kp ob => ⟨rfl, ?_⟩⟩
        · have ke3 : Ke T (fun a => a = x) H1 H2 := (Ext.ke (P := fun a => a = x) ex2).trans kp fun a z => .inr z
          have no3 : ∀ a, a = x → H1 a = none := fun a z => by rw [z]; exact hx
          obtain ⟨dx2, xs, c1, c2, c3⟩ := ob
          exact q _ M1 H2 s1 (R1.ke ke3 no3) (k1.trans ((ke3.all no3).mono s1)) ⟨x, dx2, xs, rfl, R1.fresh hx, c1, c2, DvS.less (fun a z => .inl z) fs c3⟩
theorem de_make (hK : F.K = X.K) (Mk_ : Mk X.K (F.T.ad c) f) (Fn : FnR X.prog X.w X.K X.mg X.base CX0 k f (spMk X.K F.T c gi)) (hr : Room (k + 1) X.A) (hg : Gl X x) (hm : X.mg x = some (.ref (F.T.ad c))) (ha : PA X (e :: es) (TAd F fa)) (hdb : (x == ("__debug__" : Str)) = false)
    (he : starEach (e :: es) X.env = (false, eval e X.env) :: starEach es X.env) (hpl : (backTo pos (starEach es X.env)).any (·.1) = false) : PE X (.Call (.Name x p) (e :: es) [] pos) (TEd F (fMake c gi fa)) :=
  PE.imp (StX.pe_makeR (E := fun _ _ _ => False) Mk_ Fn hr hg hm passes0 ha hdb he hpl) fun _ _ _ => make_imp hK
theorem pe_makeS {C : Addr} {sp : Sp} {t : TA} (Mk_ : Mk X.K C f) (Fn : FnR X.prog X.w X.K X.mg X.base CX0 k f sp) (hr : Room (k + 1) X.A) (hg : Gl X x) (hm : X.mg x = some (.ref C)) (ha : PA X (e :: es) t) (hdb : (x == ("__debug__" : Str)) = false)
    (he : starEach (e :: es) X.env = (false, eval e X.env) :: starEach es X.env) (hst : (backTo pos (starEach es X.env)).any (·.1) = true) : PE X (.Call (.Name x p) (e :: es) [] pos) (StX.tMakeR C sp (fun _ _ _ => False) t) :=
  ⟨fun pins s σ H Q I h => wpAny_Call_Name_kw (ld_glob I hg hm (PySem.W.callWith_S2 (h₀ := X.base) I.ok.mod.kin Mk_.kp (thn (ha.run pos pins s σ H _ I h) fun us s1 ⟨vs, H1, I1, r, q⟩ => ⟨I1.kIn, StX.run_makeR Mk_ Fn hr passes0 I1 r q⟩) he hst) hdb)⟩
theorem de_makeS (hK : F.K = X.K) (Mk_ : Mk X.K (F.T.ad c) f) (Fn : FnR X.prog X.w X.K X.mg X.base CX0 k f (spMk X.K F.T c gi)) (hr : Room (k + 1) X.A) (hg : Gl X x) (hm : X.mg x = some (.ref (F.T.ad c))) (ha : PA X (e :: es) (TAd F fa)) (hdb : (x == ("__debug__" : Str)) = false)
    (he : starEach (e :: es) X.env = (false, eval e X.env) :: starEach es X.env) (hpl : (backTo pos (starEach es X.env)).any (·.1) = true) : PE X (.Call (.Name x p) (e :: es) [] pos) (TEd F (fMake c gi fa)) :=
  PE.imp (pe_makeS Mk_ Fn hr hg hm  ha hdb he hpl) fun _ _ _ => make_imp hK
/-- a new object of one's own -/
abbrev FO1 := Ev → Option (Nat × List D × Ev)
def nMake (c : Nat) (gi : List D → Option (List D)) (fa : FA) : FO1 := fun ρ => match fa ρ with
  | none => none
  | some (os, ρ1) => match datAll os with
    | none => none
    | some ds => match gi ds with
      | some fs => some (c, fs, ρ1)
      | none => none
def bObj (i : Nat) (fn : FO1) : FB := fun ρ => match fn ρ with
  | some (c, fs, ρ1) => some (.nx, ρ1.set i (.obj c fs))
  | none => none
theorem ds_obj {i : Nat} {y : Str} {pos' sp : Pos} (hK : F.K = X.K) (Mk_ : Mk X.K (F.T.ad c) f) (Fn : FnR X.prog X.w X.K X.mg X.base CX0 k f (spMk X.K F.T c gi)) (hr : Room (k + 1) X.A) (hg : Gl X x) (hm : X.mg x = some (.ref (F.T.ad c))) (ha : PA X (e :: es) (TAd F fa)) (hdb : (x == ("__debug__" : Str)) = false)
    (he : starEach (e :: es) X.env = (false, eval e X.env) :: starEach es X.env) (hpl : (backTo pos (starEach es X.env)).any (·.1) = false)
    (hN : X.N.Nodup) (hi : X.N[i]? = some y) (hy : Loc X.env.scope y) (hs : swapsWith (.Call (.Name x p) (e :: es) [] pos) (some (.Name y pos')) sp.line X.env = pure false) (hfn : X.fn y = true ∨ X.env.scope.names.lookup y = some .local) (hp : ∀ a, (i, a) ∉ F.pa) :
    PS X (.Assign [.Name y pos'] (.Call (.Name x p) (e :: es) [] pos) sp) (TSd F (bObj i (nMake c gi fa))) := by
  obtain ⟨K, T, M0, pa, H0⟩ := F
  cases hK
  refine PS.imp (ps_set hN hi hy (StX.pe_makeR (E := fun _ _ _ => False) Mk_ Fn hr hg hm passes0 ha hdb he hpl) hs hfn) ?_
  rintro E σ H ⟨M, ρ, w, ρ', R, hf, q⟩
  unfold bObj nMake at hf
  cases e1 : fa ρ with
  | none => rw [e1] at hf; cases hf
  | some p1 =>
    obtain ⟨os, ρ1⟩ := p1
    rw [e1] at hf
    simp only at hf
    cases e2 : datAll os with
    | none => rw [e2] at hf; cases hf
    | some ds =>
      rw [e2] at hf
      simp only at hf
      cases e3 : gi ds with
      | none => rw [e3] at hf; cases hf
      | some fs =>
        rw [e3] at hf
        cases hf
        refine ⟨M, ρ, os, _, R, e1, fun vs M1 H1 s1 R1 k1 ok1 => ?_⟩
        have dv := OpdsOk.datAll ok1 e2
        intro x dx hx hdx hne
        have ex1 : Ext H1 (upd H1 dx (.own x)) := Ext.new hdx
        have hx1 : (upd H1 dx (.own x)) x = none := by rw [upd_ne (Ne.symm hne)]; exact hx
        have ex2 : Ext H1 (upd (upd H1 dx (.own x)) x (.ins (T.ad c) dx [])) := ex1.trans (Ext.new hx1)
        have to : ∀ a, (M1 a ∨ a = x) → M1 a ∨ H1 a = none := fun a z => z.imp id fun e => by rw [e]; exact hx
        refine ⟨x, dx, vs, fun a => M1 a ∨ a = x, ds, fs, rfl, upd_same, (R1.mm.ext ex1).more hx1 trivial, .inr rfl, DvS.ext ex2 ds (DvS.to to ds dv), e3, fun H2 kp ob => ⟨rfl, ?_⟩⟩
        · have ke3 : Ke T (fun a => a = x) H1 H2 := (Ext.ke (P := fun a => a = x) ex2).trans kp fun a z => .inr z
          have no3 : ∀ a, a = x → H1 a = none := fun a z => by rw [z]; exact hx
          obtain ⟨dx2, xs, c1, c2, c3⟩ := ob
          have R2 : ER ⟨X.K, T, M0, pa, H0⟩ M1 ρ1 σ H2 := R1.ke ke3 no3
          have no1 : ¬ Mad ρ1 σ x := fun z => R1.fresh hx (R1.se.mad z)
          have S3 : SE X.K T (fun a => M1 a ∨ a = x) ρ1 σ H2 := by
            have S := R2.se
            have to2 : ∀ a, (M1 a ∨ a = x) → M1 a ∨ H1 a = none := to
            have k3 : Keep M1 H1 H2 := ke3.all no3
            refine ⟨⟨fun a m => m.elim (S.mm a) fun z => by rw [z, c1]; trivial, S.mm.ts⟩, S.ln, fun j s hj => ?_, S.ap⟩
            obtain ⟨v, g1, g2⟩ := R1.se.sl j s hj
            obtain ⟨v', g1', g2'⟩ := S.sl j s hj
            rw [g1] at g1'
            cases g1'
            refine ⟨v, g1, ?_⟩
            cases s with
            | un => trivial
            | dat d => obtain ⟨y, e1, e2⟩ := g2; exact ⟨y, e1, Dv.mv k3 R1.mm to d e2⟩
            | own ds =>
              obtain ⟨a, e1, m, xs, h1, h2⟩ := g2
              obtain ⟨a', e1', m', xs', h1', h2'⟩ := g2'
              rw [e1] at e1'
              cases e1'

              exact ⟨a, e1, .inl m, xs, by rw [(ke3.at_ a _ h1 fun z => by rw [z, hx] at h1; cases h1).nt .lst], DvS.mv k3 R1.mm to _ h2⟩
            | obj c ds =>
              obtain ⟨a, e1, m, dx', xs, h1, hl', h2⟩ := g2
              exact ⟨a, e1, .inl m, dx', xs, by rw [(ke3.at_ a _ h1 fun z => by rw [z, hx] at h1; cases h1).nt .ins], hl', DvS.mv k3 R1.mm to _ h2⟩
          have R3 : ER ⟨X.K, T, M0, pa, H0⟩ (fun a => M1 a ∨ a = x) ρ1 σ H2 := ER.of_se S3 (fun a z => .inl (R2.m0 a z)) R2.kp R2.h0 (fun a m => (R2.mad m).2) R2.pr R2.pp
          have R4 := R3.setMut (i := i) (s := .obj c fs) rfl (.inr rfl) no1 (R1.h0n hx) ⟨dx2, xs, c1, c2, c3⟩ hp
          refine q _ _ H2 R4 ((Stp.of R (fun a z => .inl (s1 a z)) k1).trans fun d v h => Dv.mv (ke3.all no3 : Keep M1 H1 H2) R1.mm to d h)
end
end SC

set_option Elab.async false
set_option linter.all false
set_option maxRecDepth 100000
namespace SC
open PySem PySem.Spec PyProof.Rows L2

/-! ### special methods of instances -/
/-- the class has the name as a plain def -/
structure Sp1 (K : PySem.W.Frag) (C : Addr) (m : Str) (f : Addr) : Prop where
  at_ : PySem.W.findIn K (.ref C) m = some (some (.ref f))
  fn : PySem.W.isFn K (.ref f) = true
section
variable {X : Cx} {F : Fx} {k : Nat} {f : Addr} {fd : FuncData} {ps : List Str} {g : FG} {c : Nat}
theorem run_in1 {sp : SpG} (Fn : FnOk X.prog X.w X.K X.mg X.base CX0 k f fd ps fun vs H Q _ => sp vs H Q) (hr : Room (k + 1) X.A) (hb : Binds X.K fd ps []) {pins : List (Addr × Obj)} {σ : Sg} {H : Hp} {s : Shared} {Q : VK} {E' : Value → Shared → Prop} {us : List Value} {vs : List V}
    (I : Inv X pins σ H s) (rv : Vals vs us) (h : sp vs H Q) : wpAny (model X.prog X.w) X.A.in1 (call (.ref f) us) (EP X pins σ Q) E' s := by
  have hl : (us ++ []).length = ps.length := by rw [List.append_nil, ← rv.length]; exact Fn.len vs H Q (fun _ _ _ => False) h
  have hbu := hb s us I.kIn hl
  rw [List.append_nil] at hbu
  refine wpAny_call (codeAny_mono (Fn.run X.A.in1 X.stack s H ⟨us, []⟩ us vs Q (fun _ _ _ => False) hr.in1 I.env0.in1 hbu rv h) fun r s2 hq => ?_)
  cases r with
  | error e => exact False.elim hq
  | ok fl =>
    cases fl with
    | ret u => exact I.after hq
    | next => exact False.elim hq
    | brk => exact False.elim hq
    | cont => exact False.elim hq
/-- len of an instance -/
def rLenI (F : Fx) (c n : Nat) (g : FG) : List V → Hp → VK → Prop := fun vs H Q => ∃ a dx fs, vs = [V.ref a] ∧ H a = some (.ins (F.T.ad c) dx fs) ∧ spD F.K F.T n g [V.ref a] H fun v H' => ∃ i : Int, v = .int i ∧ 0 ≤ i ∧ i < 2 ^ 63 ∧ Q (.int i) H'
theorem cd_lenI (hK : F.K = X.K) (hs : Sp1 X.K (F.T.ad c) "__len__" f) (Fn : FnOk X.prog X.w X.K X.mg X.base CX0 k f fd ps (spO X.K F.T ps.length g)) (hr : Room (k + 1) X.A) (hb : Binds X.K fd ps []) : CallR X (.builtin "len") (rLenI F c ps.length g) := by
  obtain ⟨K, T, M0, pa, H0⟩ := F
  cases hK
  intro pins s σ H xs us Q I rv h
  obtain ⟨a, dx, fs, rfl, ha, sp⟩ := h
  cases rv with
  | cons r t =>
    cases t
    have r0 := r
    obtain rfl : _ = Value.ref a := r0
    obtain ⟨mA, O, _⟩ := ins_get I.hok ha
    obtain ⟨od, J, _⟩ := O.look
    obtain ⟨m, fr⟩ := I.fr
    refine PySem.W.len_K fr I.ok.mod.kin J hs.at_ hs.fn (wpAny_mono (run_in1 Fn hr hb I (vs := [V.ref a]) (.cons r .nil) sp) ?_ fun _ _ z => z)
    rintro u s2 ⟨v, H2, I2, r2, i, rfl, h0, h1, q⟩
    obtain ⟨t, rfl⟩ := r2
    exact ⟨⟨h0, h1⟩, .int i, H2, I2.tok _, ⟨_, rfl⟩, q⟩
def fLenI (c : Nat) (g : FG) (fo : FE) : FE := fun ρ => match fMeth c g [] fo fNil ρ with
  | some (.dat (.int i), ρ1) => if 0 ≤ i ∧ i < 9223372036854775808 then some (.dat (.int i), ρ1) else none
  | _ => none
theorem meth1 {fo : FE} {ρ ρ' : Ev} {r : Opd} (h : fMeth c g [] fo fNil ρ = some (r, ρ')) : ∃ o ρ1 ds, fo ρ = some (o, ρ1) ∧ o.get ρ1 = some (.ins c ds) ∧ runG g [] [o] ρ1 = some (r, ρ') := by
  unfold fMeth at h
  cases e1 : fo ρ with
  | none => rw [e1] at h; cases h
  | some p1 =>
    obtain ⟨o1, ρ1⟩ := p1
    rw [e1] at h
    simp only at h
    cases e2 : insOf (o1.get ρ1) with
    | none => rw [e2] at h; cases h
    | some p2 =>
      obtain ⟨c', ds'⟩ := p2
      rw [e2] at h
      simp only at h
      split at h
      case isFalse => cases h
      case isTrue hc =>
      subst hc
      exact ⟨o1, ρ1, ds', rfl, insOf_some e2, h⟩
theorem one_read {t : TE} {σ : Sg} {H : Hp} {Q : List V → Hp → Prop} (h : t σ H fun x H1 => Q [x] H1) : tCons t tNil σ H Q := h
variable {x : Str} {p pos : Pos} {e : Expr} {fo : FE}
theorem de_lenI (hK : F.K = X.K) (hs : Sp1 X.K (F.T.ad c) "__len__" f) (Fn : FnOk X.prog X.w X.K X.mg X.base CX0 k f fd ps (spO X.K F.T ps.length g)) (hr : Room (k + 1) X.A) (hb : Binds X.K fd ps []) (hn : 1 = ps.length)
    (hg : Gl X x) (hm : X.mg x = none) (hv : bootBuiltins x = some (.builtin "len")) (ho : PE X e (TEd F fo)) (hnm : x ≠ "__name__") (hdb : (x == ("__debug__" : Str)) = false)
    (he : starEach [e] X.env = (false, eval e X.env) :: starEach [] X.env) (hpl : (backTo pos (starEach [] X.env)).any (·.1) = false) : PE X (.Call (.Name x p) [e] [] pos) (TEd F (fLenI c g fo)) := by
  refine PE.imp (pe_callB (cd_lenI hK hs Fn hr hb) hg hm hv (pa_cons ho pa_nil he) hnm hdb he hpl) ?_
  rintro σ H Q ⟨M, ρ, r, ρ', R, hf, q⟩
  unfold fLenI at hf
  split at hf
  case h_2 => cases hf
  case h_1 i ρ1 e1 =>
  split at hf
  case isFalse => cases hf
  case isTrue hi =>
  cases hf
  obtain ⟨o, ρ0, ds, h1, h2, h3⟩ := meth1 e1
  refine one_read ⟨M, ρ, o, ρ0, R, h1, fun v M1 H1 s1 R1 k1 ok1 => ?_⟩
  obtain ⟨a, dx, xs, rfl, ha, hl', dv⟩ := (R1.opd ok1 h2).ins
  refine ⟨a, dx, _, rfl, ha, call_core (dvs := []) (dss := []) (os := [o]) (vs := [V.ref a]) (by simpa using hn) (fun _ _ => rfl) h3 R1 (.cons ok1 .nil) fun v H3 R3 k3 ok3 => ?_⟩
  cases (show v = .int i from ok3)
  exact ⟨i, rfl, hi.1, by have := hi.2; omega, q _ M1 H3 s1 R3 (k1.trans (k3.mono s1)) rfl⟩
/-- len of a sequence or of an instance of the class c -/
def fLen (c : Nat) (g : FG) (fo : FE) : FE := fun ρ => match fo ρ with
  | none => none
  | some (o, ρ1) => match insOf (o.get ρ1) with
    | some _ => fLenI c g fo ρ
    | none => fBlt dLen (fCons fo fNil) ρ
theorem PE.or {X : Cx} {e : Expr} {t t' : TE} (h : PE X e t) (h' : PE X e t') : PE X e (fun σ H Q => t σ H Q ∨ t' σ H Q) := ⟨fun pins s σ H Q I hw => hw.elim (h.run pins s σ H Q I) (h'.run pins s σ H Q I)⟩
theorem de_len (hi : PE X e (TEd F (fLenI c g fo))) {f2 : FE} (hb : PE X e (TEd F f2)) (h2 : f2 = fBlt dLen (fCons fo fNil)) : PE X e (TEd F (fLen c g fo)) := by
  subst h2
  refine PE.imp (PE.or hi hb) ?_
  rintro σ H Q ⟨M, ρ, r, ρ', R, hf, q⟩
  unfold fLen at hf
  split at hf
  · cases hf
  · split at hf
    · exact .inl ⟨M, ρ, r, ρ', R, hf, q⟩
    · exact .inr ⟨M, ρ, r, ρ', R, hf, q⟩
end
end SC

set_option Elab.async false
set_option linter.all false
set_option maxRecDepth 100000
namespace SC
open PySem PySem.Spec PyProof.Rows L2

/-! ### methods of a list of one's own -/
/-- what a method does with the list and its argument: the value, the list behind -/
abbrev LM := List D → D → Option (D × List D)
def lmApp : LM := fun ds d => if ds.length < sLn then some (.non, ds ++ [d]) else none
def lmExt : LM := fun ds d => match d with
  | .lst es => if ds.length + es.length ≤ sLn then some (.non, ds ++ es) else none
  | _ => none
def intsD : List D → Option (List Int)
  | [] => some []
  | .int i :: r => (intsD r).map (i :: ·)
  | _ :: _ => none
theorem intsD_some : ∀ {ds : List D} {ns : List Int}, intsD ds = some ns → ds = ns.map .int
  | [], _, h => by cases h; rfl
  | .int i :: r, ns, h => by
    simp only [intsD, Option.map_eq_some_iff] at h
    obtain ⟨l, h1, rfl⟩ := h
    rw [intsD_some h1]; rfl
  | .non :: _, _, h => by cases h
  | .bl _ :: _, _, h => by cases h
  | .str _ :: _, _, h => by cases h
  | .tup _ :: _, _, h => by cases h
  | .lst _ :: _, _, h => by cases h
  | .ins _ _ :: _, _, h => by cases h
  | .dic _ _ :: _, _, h => by cases h
  | .scr _ :: _, _, h => by cases h
  | .cl _ :: _, _, h => by cases h
def lmRem : LM := fun ds d => match d with
  | .int k => match intsD ds with
    | some ns => if k ∈ ns then some (.non, (ns.eraseIdx (ns.idxOf k)).map .int) else none
    | none => none
  | _ => none
def lmPop : LM := fun ds d => match d with
  | .int k => if -9223372036854775808 ≤ k ∧ k < 9223372036854775808 then match seqIndex? k ds.length with
      | some j => match ds[j]? with
        | some y => some (y, ds.eraseIdx j)
        | none => none
      | none => none
    else none
  | _ => none
/-- what a method's rule says of it -/
def MtD (X : Cx) (F : Fx) (id : String) (lm : LM) : Prop := ∃ r, MtR X id r ∧ ∀ (M : Ms) (H : Hp) (a : Addr) (xs : List V) (v : V) (ds : List D) (d y : D) (ds' : List D) (Q : VK), (∀ b, M b → Mu (H b)) → H a = some (.lst xs) → DvS F.K F.T M H ds xs → Dv F.K F.T M H d v → lm ds d = some (y, ds') →
  (∀ u xs', DvS F.K F.T M H ds' xs' → Dv F.K F.T M H y u → Q u (upd H a (.lst xs'))) → r (.ref a) [v] H Q
section
variable {X : Cx} {F : Fx}
theorem md_app : MtD X F "list.append" lmApp := ⟨_, mt_append, fun M H a xs v ds d y ds' Q mm ha dv dd hl q => by
  unfold lmApp at hl
  split at hl
  · rename_i hz
    cases hl
    exact ⟨a, xs, v, rfl, rfl, ha, by rw [← dv.length, ← sLn_eq]; exact hz, q .non _ (dv.append (DvS.cons dd DvS.nil)) rfl⟩
  · cases hl⟩
theorem md_ext : MtD X F "list.extend" lmExt := ⟨_, mt_extend, fun M H a xs v ds d y ds' Q mm ha dv dd hl q => by
  unfold lmExt at hl
  split at hl
  · rename_i es
    split at hl
    · rename_i hz
      cases hl
      obtain ⟨b, zs, rfl, _, hb, dz⟩ := dd
      exact ⟨a, b, xs, zs, rfl, rfl, ha, hb, by rw [← dv.length, ← dz.length, ← sLn_eq]; exact hz, q .non _ (dv.append dz) rfl⟩
    · cases hl
  · cases hl⟩
theorem md_rem : MtD X F "list.remove" lmRem := ⟨_, mt_remove, fun M H a xs v ds d y ds' Q mm ha dv dd hl q => by
  unfold lmRem at hl
  split at hl
  · rename_i k
    split at hl
    · rename_i ns hns
      split at hl
      · rename_i hk
        cases hl
        cases (show v = .int k from dd)
        rw [intsD_some hns] at dv
        have e := dv.ints
        subst e
        refine ⟨a, ns, k, ns.idxOf k, rfl, rfl, ha, ?_, fun m hm e => ?_, q .non _ (DvS.of_ints _) rfl⟩
        · rw [List.getElem?_eq_getElem (List.idxOf_lt_length_of_mem hk)]
          exact congrArg some (List.getElem_idxOf (List.idxOf_lt_length_of_mem hk))
        · have hml : m < ns.length := (List.getElem?_eq_some_iff.mp e).1
          have : ns[m] = k := by
            rw [List.getElem?_eq_getElem hml] at e
            exact Option.some.inj e
          have h2 := List.not_of_lt_findIdx (p := (· == k)) (xs := ns) (i := m) (by simpa [List.idxOf] using hm)
          simp [this] at h2
      · cases hl
    · cases hl
  · cases hl⟩
theorem md_pop : MtD X F "list.pop" lmPop := ⟨_, mt_popAt, fun M H a xs v ds d y ds' Q mm ha dv dd hl q => by
  unfold lmPop at hl
  split at hl
  · rename_i k
    split at hl
    · rename_i hz
      split at hl
      · rename_i j hj
        split at hl
        · rename_i y' hy
          cases hl
          cases (show v = .int k from dd)
          obtain ⟨x, h1, h2⟩ := dv.getD hy
          exact ⟨a, xs, k, j, x, rfl, rfl, ha, by have := hz.1; omega, by have := hz.2; omega, by rw [← dv.length]; exact hj, h1, q x _ (dv.eraseIdx j) h2⟩
        · cases hl
      · cases hl
    · cases hl
  · cases hl⟩
def fLM (lm : LM) (i : Nat) (fe : FE) : FE := fun ρ => match ownAt ρ i with
  | none => none
  | some _ => match fe ρ with
    | some (.dat d, ρ1) => match ownAt ρ1 i with
      | none => none
      | some ds => match lm ds d with
        | some (y, ds') => some (.dat y, ρ1.set i (.own ds'))
        | none => none
    | _ => none
variable {pos cpos apos : Pos} {e : Expr} {fe : FE} {x name : Str} {i : Nat} {id : String} {lm : LM}
theorem de_lm {p1 : Pos} (hK : F.K = X.K) (slot : Slot "list" name id) (hty : typeOf (.builtin id) = pure (.type "method_descriptor")) (hm : MtD X F id lm) (hN : X.N[i]? = some x) (hv : Vis X.env.scope x) (hd : (x == ("__debug__" : Str)) = false) (hcd : (x == ("__classdict__" : Str)) = false)
    (ha : PE X e (TEd F fe)) (hbase : attributeBase (.Name x p1) name X.env (eval (.Name x p1) X.env) = eval (.Name x p1) X.env)
    (hfew : ((backTo cpos (starEach [e] X.env)).all (fun x => !x.1) && (backToKw cpos (keywordEach [] X.env)).all (fun x => x.1.isSome)
      && decide (([e] : List Expr).length + ([] : List Keyword).length + (if ([] : List Keyword).isEmpty then 0 else 1) < 30)) = true)
    (hline : (apos.endLine == cpos.line) = true) (hs : starEach [e] X.env = (false, eval e X.env) :: starEach [] X.env) (hplain : (backTo cpos (starEach [] X.env)).any (·.1) = false) :
    PE X (.Call (.Attribute (.Name x p1) name apos) [e] [] cpos) (TEd F (fLM lm i fe)) := by
  obtain ⟨r, hr, hsp⟩ := hm
  obtain ⟨K, T, M0, pa, H0⟩ := F
  cases hK
  refine PE.imp (pe_bm PySem.F.plainAttrs_list slot hty hr (pe_var hN hv hd hcd) (pa_cons ha pa_nil hs) hbase hfew hline hs hplain) ?_
  rintro σ H Q ⟨M, ρ, o, ρ', R, hf, q⟩
  unfold fLM at hf
  cases e0 : ownAt ρ i with
  | none => rw [e0] at hf; cases hf
  | some ds0 =>
    rw [e0] at hf
    simp only at hf
    split at hf
    · rename_i d ρ1 e1
      cases e2 : ownAt ρ1 i with
      | none => rw [e2] at hf; cases hf
      | some ds =>
        rw [e2] at hf
        simp only at hf
        cases e3 : lm ds d with
        | none => rw [e3] at hf; cases hf
        | some p3 =>
          obtain ⟨y, ds'⟩ := p3
          rw [e3] at hf
          cases hf
          obtain ⟨a, xs0, ea, _, ha0, _⟩ := R.ownRef e0
          refine ⟨.ref a, ea, .inl ⟨rfl, xs0, SqL.of ha0⟩, M, ρ, _, ρ1, R, e1, fun v M1 H1 s1 R1 k1 ok1 => ?_⟩
          obtain ⟨a', xs, g1, m, c1, c2⟩ := R1.ownRef e2
          rw [ea] at g1
          cases g1
          refine hsp M1 H1 a xs v ds d y ds' Q R1.mm c1 c2 ok1 e3 fun u xs' dv' du => ?_
          have R2 := R1.putOwn (ownAt_some e2) ea dv'
          exact q u M1 _ s1 R2 (k1.trans (Keep.put (s1 a m))) (Dv.keep (Keep.put m) R1.mm y du)
    · cases hf
end
end SC

set_option Elab.async false
set_option linter.all false
set_option maxRecDepth 100000
namespace SC
open PySem PySem.Spec PyProof.Rows L2

/-! ### a op b op' c -/
def fChain (g g' : D → D → Option D) (fa fb fc : FE) : FE := fun ρ =>
  match fa ρ with
  | some (.dat d, ρ1) => match fb ρ1 with
    | some (.dat e, ρ2) => match g d e with
      | some (.bl true) => match fc ρ2 with
        | some (.dat f, ρ3) => match g' e f with
          | some r => some (.dat r, ρ3)
          | none => none
        | _ => none
      | some (.bl false) => some (.dat (.bl false), ρ2)
      | _ => none
    | _ => none
  | _ => none
section
variable {X : Cx} {F : Fx} {pos : Pos} {a b c : Expr} {fa fb fc : FE}
theorem chain_read {g g' : D → D → Option D} {σ : Sg} {H : Hp} {Q : VK} (h : TEd F (fChain g g' fa fb fc) σ H Q) : tChain (rD F g) (rD F g') (TEd F fa) (TEd F fb) (TEd F fc) σ H Q := by
  obtain ⟨M, ρ, r, ρ', R, hf, q⟩ := h
  unfold fChain at hf
  split at hf
  · rename_i d ρ1 e1
    split at hf
    · rename_i e ρ2 e2
      split at hf
      · rename_i eg
        split at hf
        · rename_i f ρ3 e3
          split at hf
          · rename_i r' eg'
            cases hf
            refine ⟨M, ρ, _, ρ1, R, e1, fun x M1 H1 s1 R1 k1 ok1 => ⟨M1, ρ1, _, ρ2, R1, e2, fun y M2 H2 s2 R2 k2 ok2 => ?_⟩⟩
            refine ⟨M2, d, e, .bl true, R2.mh, .inl (Dv.less s2 d (Dv.keep k2 R1.mm d ok1)), .inl ok2, eg, fun z H3 ex dz => ?_⟩
            cases (show z = .bl true from dz)
            refine ⟨true, rfl, ?_⟩
            rw [if_pos rfl]
            refine ⟨M2, ρ2, _, _, R2.ext ex, e3, fun w M4 H4 s4 R4 k4 ok4 => ?_⟩
            have d2 : Dv F.K F.T M4 H4 e y := Dv.less s4 e (Dv.keep k4 (R2.ext ex).mm e (Dv.ext ex e ok2))
            refine ⟨M4, e, f, r', R4.mh, .inl d2, .inl ok4, eg', fun v H5 ex5 dv => ?_⟩
            exact q v M4 H5 (fun a z => s1 a (s2 a (s4 a z))) (R4.ext ex5) (k1.trans ((k2.trans ((ex.keep (M := M2)).mono s2)).mono s1 |>.trans ((k4.trans ((ex5.keep (M := M4)).mono s4)).mono fun a z => s1 a (s2 a z)))) dv
          · cases hf
        · cases hf
      · rename_i eg
        cases hf
        refine ⟨M, ρ, _, ρ1, R, e1, fun x M1 H1 s1 R1 k1 ok1 => ⟨M1, ρ1, _, _, R1, e2, fun y M2 H2 s2 R2 k2 ok2 => ?_⟩⟩
        refine ⟨M2, d, e, .bl false, R2.mh, .inl (Dv.less s2 d (Dv.keep k2 R1.mm d ok1)), .inl ok2, eg, fun z H3 ex dz => ?_⟩
        cases (show z = .bl false from dz)
        refine ⟨false, rfl, ?_⟩
        rw [if_neg Bool.false_ne_true]
        exact q _ M2 H3 (fun a z => s1 a (s2 a z)) (R2.ext ex) (k1.trans ((k2.trans ((ex.keep (M := M2)).mono s2)).mono s1)) rfl
      · cases hf
    · cases hf
  · cases hf
theorem de_chain {op op' : CmpOp} {g g' : D → D → Option D} (ho : OpR X (compareOp op) (rD F g)) (ho' : OpR X (compareOp op') (rD F g')) (ha : PE X a (TEd F fa)) (hb : PE X b (TEd F fb)) (hc : PE X c (TEd F fc)) (hm : lastMarks [op, op'] [b, c] = false) : PE X (.Compare a [op, op'] [b, c] pos) (TEd F (fChain g g' fa fb fc)) :=
  PE.imp (pe_chain ho ho' ha hb hc hm) fun _ _ _ => chain_read
theorem dt_chain {op op' : CmpOp} {g g' : D → D → Option D} (ho : OpR X (compareOp op) (rD F g)) (ho' : OpR X (compareOp op') (rD F g')) (ha : PE X a (TEd F fa)) (hb : PE X b (TEd F fb)) (hc : PE X c (TEd F fc)) (hm : lastMarks [op, op'] [b, c] = false) : PT X (.Compare a [op, op'] [b, c] pos) (TTd F (fTest (fChain g g' fa fb fc))) :=
  PT.imp (pt_chain ho ho' ha hb hc hm) fun σ H Q h => by
    obtain ⟨M, ρ, r, ρ', R, hf, q⟩ := h
    unfold fTest at hf
    split at hf
    · rename_i k ρ1 e1
      cases hf
      exact chain_read ⟨M, ρ, _, _, R, e1, fun v M1 H1 s1 R1 k1 ok1 => ⟨_, ok1, q M1 H1 s1 R1 k1⟩⟩
    · cases hf
end
end SC

set_option Elab.async false
set_option linter.all false
set_option maxRecDepth 100000
namespace SC
open PySem PySem.Spec PyProof.Rows L2

theorem propB_ok {K : PySem.W.Frag} {C f : Str} (h : propB K C f = true) : PropOf K (He.ga K C) f (prAd K C f) (prGet K C f) := by
  unfold propB at h
  obtain ⟨h1, h2⟩ := Bool.and_eq_true_iff.mp h
  obtain ⟨h3, h4⟩ := Bool.and_eq_true_iff.mp h2
  obtain ⟨h5, h6⟩ := Bool.and_eq_true_iff.mp h4
  refine ⟨of_decide_eq_true h1, of_decide_eq_true h3, of_decide_eq_true h5, ?_⟩
  split at h6
  · rename_i g rest e
    exact ⟨rest, by rw [e, of_decide_eq_true h6]⟩
  · cases h6
theorem sp1B_ok {K : PySem.W.Frag} {C m : Str} (h : sp1B K C m = true) : Sp1 K (He.ga K C) m (He.ma K (He.ga K C) m) := by
  obtain ⟨h1, h2⟩ := Bool.and_eq_true_iff.mp (show (_ && _) = true from h)
  exact ⟨of_decide_eq_true h1, h2⟩
/-! ### defs of the text -/
/-- a def at hand: its name's address, how it binds, its promise -/
structure Def1 (P : Program) (w : World) (K : PySem.W.Frag) (mg : Str → Option Value) (base : Heap) (T : Cl) (k : Nat) (f : Addr) (ps : List Str) (g : FG) : Prop where
  ex : ∃ fd, Binds K fd ps [] ∧ FnOk P w K mg base CX0 k f fd ps (spO K T ps.length g)
  kp : PySem.W.keepIn K (.ref f) = true
theorem FunD.def1 {P : Program} {w : World} {K : PySem.W.Frag} {mg : Str → Option Value} {base : Heap} {T : Cl} {k : Nat} {f : Addr} {fd : FuncData} {name qual : Str} {params : Arguments} {body : List Stmt} {scope : Scope} {N ps : List Str} {asg : List Nat} {fb : FB}
    (Fd : FunD K name qual params body scope [] [] f fd) (S : FnScope N ps scope)
    (hb : ∀ (kV doc pm : Value) (an : Option Addr) (cdv ct : Value) (us : List Value), us.length = ps.length → bindArgs (PySem.W.fnOf name qual params body scope .none kV doc pm an cdv ct) ⟨us, []⟩ = pure (ps.zip us))
    (go : ∀ (cdv : Value) (A : Around) (outer : List Env) (s : Shared) (H : Hp) (E : XK), Room k (A.deeper (envOfC qual scope s.heap.objs.size f cdv)) → ∀ F : Fx, F.K = K → F.T = T → PaOk F ps.length asg →
      PSs (bodyCx P w K mg base N qual scope f cdv A outer s H E) body (TSd F fb)) : Def1 P w K mg base T (k + 1) f ps (fnD N.length asg fb) := by
  have hbn := Fd.bindsN hb
  obtain ⟨oc, od, dV, kV, doc, pm, an, cdv, ct, osl, rfl, lk, hcd, _, _⟩ := Fd.ex
  exact ⟨⟨_, hbn, okD lk hcd S (go cdv)⟩, Fd.kp⟩
theorem Def1.mono {P : Program} {w : World} {K : PySem.W.Frag} {mg : Str → Option Value} {base : Heap} {T : Cl} {j k : Nat} {f : Addr} {ps : List Str} {g : FG} (h : Def1 P w K mg base T j f ps g) (hk : j ≤ k) : Def1 P w K mg base T k f ps g := by
  obtain ⟨⟨fd, h1, h2⟩, h3⟩ := h
  exact ⟨⟨fd, h1, h2.mono hk⟩, h3⟩
section
variable {X : Cx} {F : Fx} {j k : Nat} {f : Addr} {ps : List Str} {g : FG} {x : Str} {p pos : Pos} {e : Expr} {es : List Expr} {fa : FA} {n : Nat}
theorem de_callO (hK : F.K = X.K) (D1 : Def1 X.prog X.w X.K X.mg X.base F.T j f ps g) (hr : Room k X.A) (hjk : j ≤ k) (hg : Gl X x) (hm : X.mg x = some (.ref f)) (ha : PA X (e :: es) (TAd F fa)) (hl : FaLen fa n) (hn : n = ps.length) (hdb : (x == ("__debug__" : Str)) = false)
    (he : starEach (e :: es) X.env = (false, eval e X.env) :: starEach es X.env) (hpl : (backTo pos (starEach es X.env)).any (·.1) = false) : PE X (.Call (.Name x p) (e :: es) [] pos) (TEd F (fCall g [] fa)) := by
  obtain ⟨⟨fd, hb, Fn⟩, kp⟩ := D1
  refine PE.imp (pe_call (E := fun _ _ _ => False) (dvs := []) Fn (hr.mono hjk) hg hm kp hb .nil passes0 ha hdb he hpl) fun σ H Q h => ?_
  rw [← hK]
  exact call_read (dss := []) (dvs := []) (fun ρ os ρ' z => by rw [hl.eq ρ os ρ' z, List.length_nil]; omega) (fun _ _ => rfl) h
theorem de_callO0 (hK : F.K = X.K) (D1 : Def1 X.prog X.w X.K X.mg X.base F.T j f ps g) (hr : Room k X.A) (hjk : j ≤ k) (hg : Gl X x) (hm : X.mg x = some (.ref f)) (hn : 0 = ps.length) (hdb : (x == ("__debug__" : Str)) = false) : PE X (.Call (.Name x p) [] [] pos) (TEd F (fCall g [] fNil)) := by
  obtain ⟨⟨fd, hb, Fn⟩, kp⟩ := D1
  refine PE.imp (pe_call0 (E := fun _ _ _ => False) (dvs := []) Fn (hr.mono hjk) hg hm kp hb .nil passes0 hdb) fun σ H Q h => ?_
  rw [← hK]
  exact nil_read (t := tNil) (call_read (n := ps.length) (dss := []) (dvs := []) (fun ρ os ρ' z => by cases z; simpa using hn) (fun _ _ => rfl) h)
end
end SC

set_option Elab.async false
set_option linter.all false
set_option maxRecDepth 100000
namespace SC
open PySem PySem.Spec PyProof.Rows L2

def dNeg : D → Option D
  | .int i => some (.int (-i))
  | _ => none
section
variable {X : Cx} {F : Fx} {pos : Pos}
theorem und_neg : UnR X (unaryOp .USub) (rU1 F dNeg) := fun pins s σ H x v Q I rx ⟨M, d, r, hm, hx, hg, q⟩ => by
  unfold dNeg at hg
  split at hg
  · rename_i i
    cases hg
    exact un_neg pins s σ H x v Q I rx ⟨i, hx.int, q _ H Ext.rfl rfl⟩
  · cases hg
/-- list(range(e)), a new list -/
def nRg (fa : FE) : FN := fun ρ => match fa ρ with
  | some (.dat (.int j), ρ1) => if -1000000000 ≤ j ∧ j ≤ 16777216 then some (rangeD 0 j.toNat, ρ1) else none
  | _ => none
theorem rgV_dv {K : PySem.W.Frag} {T : Cl} {M : Ms} {H : Hp} (j : Int) : DvS K T M H (rangeD 0 j.toNat) (rgV 0 j) := by
  unfold rangeD rgV
  rw [Int.sub_zero]
  have : ∀ l : List Nat, DvS K T M H (l.map fun i => D.int (0 + (i : Nat))) (l.map fun i => V.int (0 + (i : Nat))) := by
    intro l
    induction l with
    | nil => exact DvS.nil
    | cons a r ih => exact DvS.cons rfl ih
  exact this _
theorem dn_rg {e : Expr} {fa : FE} {p p2 pos2 : Pos} (hc : X.calm = true) (hg : Gl X "list") (hm : X.mg "list" = none) (hg2 : Gl X "range") (hm2 : X.mg "range" = none) (ha : PE X e (TEd F fa)) (na2 : starEach [e] X.env = (false, eval e X.env) :: starEach [] X.env)
    (na : starEach [.Call (.Name "range" p2) [e] [] pos2] X.env = (false, eval (.Call (.Name "range" p2) [e] [] pos2) X.env) :: starEach [] X.env) : PE X (.Call (.Name "list" p) [.Call (.Name "range" p2) [e] [] pos2] [] pos) (TEn F (nRg fa)) := by
  refine PE.imp (pe_listRg hc hg hm (prg_1 hg2 hm2 ha na2) na) ?_
  rintro σ H Q ⟨M, ρ, ds, ρ', R, hf, q⟩
  unfold nRg at hf
  split at hf
  · rename_i j ρ1 e1
    split at hf
    · rename_i hj
      cases hf
      refine ⟨M, ρ, _, _, R, e1, fun v M1 H1 s1 R1 k1 ok1 => ?_⟩
      cases (show v = .int j from ok1)
      refine ⟨j, rfl, ⟨by omega, by omega, by have := hj.1; omega, by have := hj.2; omega, by omega⟩, fun p hp => ?_⟩
      obtain ⟨R2, n2⟩ := R1.newLst k1 s1 hp (rgV_dv j)
      exact q p _ _ (fun a z => z.imp (s1 a) id) R2 (k1.trans (Ext.new hp).keep) n2
    · cases hf
  · cases hf
end
/-! ### x in an instance, the call of an instance -/
section
variable {X : Cx} {F : Fx} {pos : Pos} {k c n : Nat} {f : Addr} {fd : FuncData} {ps : List Str} {g : FG} {a b e : Expr} {es : List Expr} {fa fb fo : FE} {fas : FA}
/-- a in b, b an instance of the class c -/
def fInI (c : Nat) (g : FG) (fa fb : FE) : FE := fun ρ => match fa ρ with
  | some (.dat d, ρ1) => match fb ρ1 with
    | none => none
    | some (o, ρ2) => match insOf (o.get ρ2) with
      | some (c', _) => if c' = c then match runG g [] [o, .dat d] ρ2 with
          | some (.dat (.bl r), ρ3) => some (.dat (.bl r), ρ3)
          | _ => none
        else none
      | none => none
  | _ => none
def rInI (F : Fx) (c n : Nat) (g : FG) : R2 := fun x y H Q => ∃ p dx fs, y = V.ref p ∧ H p = some (.ins (F.T.ad c) dx fs) ∧ spD F.K F.T n g [V.ref p, x] H fun v H' => ∃ r, v = .bl r ∧ Q (.bl r) H'
theorem opd_inI (hK : F.K = X.K) (hs : Sp1 X.K (F.T.ad c) "__contains__" f) (Fn : FnOk X.prog X.w X.K X.mg X.base CX0 k f fd ps (spO X.K F.T ps.length g)) (hr : Room k X.A) (hb : Binds X.K fd ps []) : OpR X (compareOp .In) (rInI F c ps.length g) := by
  obtain ⟨K, T, M0, pa, H0⟩ := F
  cases hK
  intro pins s σ H x y v u Q I rx ry h
  obtain ⟨p, dx, fs, rfl, hp, sp⟩ := h
  have ry0 := ry
  obtain rfl : u = Value.ref p := ry0
  obtain ⟨mA, O, _⟩ := ins_get I.hok hp
  obtain ⟨od, J, _⟩ := O.look
  obtain ⟨m, fr⟩ := I.fr
  refine PySem.W.in_K fr I.ok.mod.kin J hs.at_ hs.fn (wpAny_mono (run_fn (dvs := []) (E := fun _ _ _ => False) Fn hr hb .nil passes0 I (vs := [V.ref p, x]) (.cons ry (.cons rx .nil)) sp) ?_ fun _ _ z => z)
  rintro r s2 ⟨w', H2, I2, r2, b, rfl, q⟩
  cases r2
  exact wpAny_truthy_bool ⟨.bl b, H2, I2, rfl, q⟩
theorem inI_read (hn : 2 = ps.length) {σ : Sg} {H : Hp} {Q : VK} (h : TEd F (fInI c g fa fb) σ H Q) : tOp (rInI F c ps.length g) (TEd F fa) (TEd F fb) σ H Q := by
  obtain ⟨M, ρ, r, ρ', R, hf, q⟩ := h
  unfold fInI at hf
  split at hf
  · rename_i d ρ1 e1
    cases e2 : fb ρ1 with
    | none => rw [e2] at hf; cases hf
    | some p2 =>
      obtain ⟨o, ρ2⟩ := p2
      rw [e2] at hf
      simp only at hf
      cases e3 : insOf (o.get ρ2) with
      | none => rw [e3] at hf; cases hf
      | some p3 =>
        obtain ⟨c', ds'⟩ := p3
        rw [e3] at hf
        simp only at hf
        split at hf
        case isFalse => cases hf
        case isTrue hc =>
        subst hc
        split at hf
        · rename_i r' ρ3 e4
          cases hf
          refine ⟨M, ρ, _, ρ1, R, e1, fun x M1 H1 s1 R1 k1 ok1 => ⟨M1, ρ1, o, ρ2, R1, e2, fun y M2 H2 s2 R2 k2 ok2 => ?_⟩⟩
          obtain ⟨p, dx, xs, rfl, hp, hl, dv⟩ := (R2.opd ok2 (insOf_some e3)).ins
          refine ⟨p, dx, _, rfl, hp, call_core (dvs := []) (dss := []) (os := [o, .dat d]) (vs := [V.ref p, x]) (by simpa using hn) (fun _ _ => rfl) e4 R2 (.cons ok2 (.cons (Dv.less s2 d (Dv.keep k2 R1.mm d ok1)) .nil)) fun v H3 R3 k3 ok3 => ?_⟩
          cases (show v = .bl r' from ok3)
          exact ⟨r', rfl, q _ M2 H3 (fun a z => s1 a (s2 a z)) R3 ((k1.trans (k2.mono s1)).trans (k3.mono fun a z => s1 a (s2 a z))) rfl⟩
        · cases hf
  · cases hf
theorem de_inI (hK : F.K = X.K) (hs : Sp1 X.K (F.T.ad c) "__contains__" f) (Fn : FnOk X.prog X.w X.K X.mg X.base CX0 k f fd ps (spO X.K F.T ps.length g)) (hr : Room k X.A) (hb : Binds X.K fd ps []) (hn : 2 = ps.length) (ha : PE X a (TEd F fa)) (hbb : PE X b (TEd F fb)) (hm : behindInMarks .In b = false) :
    PE X (.Compare a [.In] [b] pos) (TEd F (fInI c g fa fb)) := PE.imp (pe_cmpR (opd_inI hK hs Fn hr hb) ha hbb hm) fun _ _ _ => inI_read hn
/-- the call of an instance -/
def spFnR (T : Cl) (K : PySem.W.Frag) (n : Nat) (g : FG) : Sp := spO K T n g
theorem fnR_pos {P : Program} {w : World} {K : PySem.W.Frag} {mg : Str → Option Value} {base : Heap} {T : Cl} (Fn : FnOk P w K mg base CX0 k f fd ps (spO K T ps.length g)) (hb : Binds K fd ps []) : FnR P w K mg base CX0 k f (spO K T ps.length g) := by
  intro A outer s H us vs Q E hr e0 rv h
  have kin : K.In s.heap := e0.mod.kin.keeps fun b o z => (e0.bs b o z).1
  have hlu : (us ++ []).length = ps.length := by rw [List.append_nil, ← rv.length]; exact Fn.len vs H Q E h
  have hbu := hb s us kin hlu
  rw [List.append_nil] at hbu
  exact Fn.run A outer s H ⟨us, []⟩ us vs Q E hr e0 hbu rv h
def fCallI (c : Nat) (g : FG) (fo : FE) (fas : FA) : FE := fun ρ => match fo ρ with
  | none => none
  | some (o, ρ1) => match insOf (o.get ρ1) with
    | none => none
    | some _ => match fas ρ1 with
      | none => none
      | some (os, ρ2) => match insOf (o.get ρ2) with
        | some (c', _) => if c' = c then runG g [] (o :: os) ρ2 else none
        | none => none
theorem de_callI (hK : F.K = X.K) (ho : PE X e (TEd F fo)) (co : StX.CallO X.K (F.T.ad c) f) (Fn : FnOk X.prog X.w X.K X.mg X.base CX0 k f fd ps (spO X.K F.T ps.length g)) (hr : Room k X.A) (hb : Binds X.K fd ps [])
    (ha : PA X (a :: es) (TAd F fas)) (hl : FaLen fas n) (hn : n + 1 = ps.length) (ht : eval (.Call e (a :: es) [] pos) X.env = (do callWith pos (← eval e X.env) [] (backTo pos (starEach (a :: es) X.env)) (backToKw pos (keywordEach [] X.env))))
    (he : starEach (a :: es) X.env = (false, eval a X.env) :: starEach es X.env) (hpl : (backTo pos (starEach es X.env)).any (·.1) = false) : PE X (.Call e (a :: es) [] pos) (TEd F (fCallI c g fo fas)) := by
  obtain ⟨K, T, M0, pa, H0⟩ := F
  cases hK
  refine PE.imp (StX.pe_callO (E := fun _ _ _ => False) ho co (fnR_pos Fn hb) hr passes0 ha ht he hpl) ?_
  rintro σ H Q ⟨M, ρ, r, ρ', R, hf, q⟩
  unfold fCallI at hf
  cases e1 : fo ρ with
  | none => rw [e1] at hf; cases hf
  | some p1 =>
    obtain ⟨o1, ρ1⟩ := p1
    rw [e1] at hf
    simp only at hf
    cases e2 : insOf (o1.get ρ1) with
    | none => rw [e2] at hf; cases hf
    | some p2 =>
      obtain ⟨c0, ds0⟩ := p2
      rw [e2] at hf
      simp only at hf
      cases e3 : fas ρ1 with
      | none => rw [e3] at hf; cases hf
      | some p3 =>
        obtain ⟨os, ρ2⟩ := p3
        rw [e3] at hf
        simp only at hf
        cases e4 : insOf (o1.get ρ2) with
        | none => rw [e4] at hf; cases hf
        | some p4 =>
          obtain ⟨c', ds'⟩ := p4
          rw [e4] at hf
          simp only at hf
          split at hf
          case isFalse => cases hf
          case isTrue hc =>
          subst hc
          refine ⟨M, ρ, o1, ρ1, R, e1, fun x M1 H1 s1 R1 k1 ok1 => ?_⟩
          obtain ⟨p, dx, xs, rfl, hp, hl', dv⟩ := (R1.opd ok1 (insOf_some e2)).ins
          refine ⟨p, rfl, M1, ρ1, os, ρ2, R1, e3, fun vs M2 H2 s2 R2 k2 ok2 => ?_⟩
          have lo := hl.eq _ _ _ e3
          have okr := OpdOk.less s2 (OpdOk.keep R1.mm k2 ok1)
          obtain ⟨p', dx2, xs2, e5, hp2, _, _⟩ := (R2.opd okr (insOf_some e4)).ins
          cases e5
          have cc := call_core (n := ps.length) (dvs := []) (dss := []) (os := o1 :: os) (vs := V.ref p :: vs) (Q := Q) (by rw [List.length_cons, lo]; simpa using hn) (fun _ _ => rfl) hf R2 (.cons okr ok2)
            fun v H3 R3 k3 ok3 => q v M2 H3 (fun b z => s1 b (s2 b z)) R3 ((k1.trans (k2.mono s1)).trans (k3.mono fun b z => s1 b (s2 b z))) ok3
          rw [List.append_nil] at cc
          exact ⟨.inr ⟨dx2, _, hp2⟩, cc⟩
end
end SC

set_option Elab.async false
set_option linter.all false
set_option maxRecDepth 100000
namespace SC
open PySem PySem.Spec PyProof.Rows L2

theorem ckT {K : PySem.W.Frag} {F : Fx} {T : Cl} {c : Nat} (hT : F.T = T) (h : CK K T c) : CK K F.T c := by rw [hT]; exact h
theorem flT {F : Fx} {T : Cl} {c j : Nat} {f : Str} (hT : F.T = T) (h : (T.fl c)[j]? = some f) : (F.T.fl c)[j]? = some f := by rw [hT]; exact h
theorem nfT {F : Fx} {T : Cl} {c : Nat} {m : Str} (hT : F.T = T) (h : (T.fl c).contains m = false) : m ∉ F.T.fl c := by
  rw [hT]
  intro z
  rw [List.contains_iff_mem.mpr z] at h
  cases h
theorem iscT {K : PySem.W.Frag} {F : Fx} {T : Cl} {C : Addr} {kn cs : List Nat} (hT : F.T = T) (h : IsC K T C kn cs) : IsC K F.T C kn cs := by rw [hT]; exact h
theorem Def1.T {P : Program} {w : World} {K : PySem.W.Frag} {mg : Str → Option Value} {base : Heap} {T : Cl} {k : Nat} {f : Addr} {ps : List Str} {g : FG} {F : Fx} (h : Def1 P w K mg base T k f ps g) (hT : F.T = T) : Def1 P w K mg base F.T k f ps g := by rw [hT]; exact h
theorem tupK {F : Fx} {K : PySem.W.Frag} {a : Addr} {ns : List Int} (hK : F.K = K) (h : ∀ H, SqT K H a (ns.map V.int)) (M : Ms) (H : Hp) : Dv F.K F.T M H (.tup (ns.map .int)) (.ref a) := ⟨a, _, rfl, by rw [hK]; exact h H, DvS.of_ints ns⟩
def bNo : FB := fun _ => none
theorem ds_never {X : Cx} {F : Fx} {st : Stmt} : PS X st (TSd F bNo) := PS.imp ps_never fun E σ H ⟨M, ρ, w, ρ', R, hf, q⟩ => by cases hf
theorem pe_tyN {X : Cx} {y : Str} {n : String} {p : Pos} (hg : Gl X y) (hm : X.mg y = none) (hv : bootBuiltins y = some (.type n)) (hn : y ≠ "__name__") (hdb : (y == ("__debug__" : Str)) = false) : PE X (.Name y p) (tC (.ty n)) :=
  ⟨fun pins s σ H Q I h => ld_blt I hg hm hv ⟨.ty n, H, I, rfl, h⟩ hn hdb⟩
theorem bt_len : bootBuiltins "len" = some (.builtin "len") := by decide +kernel
theorem bt_abs : bootBuiltins "abs" = some (.builtin "abs") := by decide +kernel
theorem bt_sum : bootBuiltins "sum" = some (.builtin "sum") := by decide +kernel
theorem bt_all : bootBuiltins "all" = some (.builtin "all") := by decide +kernel
theorem bt_any : bootBuiltins "any" = some (.builtin "any") := by decide +kernel
theorem bt_max : bootBuiltins "max" = some (.builtin "max") := by decide +kernel
theorem bt_min : bootBuiltins "min" = some (.builtin "min") := by decide +kernel
theorem bt_isinstance : bootBuiltins "isinstance" = some (.builtin "isinstance") := by decide +kernel
theorem bt_int : bootBuiltins "int" = some (.type "int") := by decide +kernel
theorem bt_bool : bootBuiltins "bool" = some (.type "bool") := by decide +kernel
theorem bt_tuple : bootBuiltins "tuple" = some (.type "tuple") := by decide +kernel
theorem bt_str : bootBuiltins "str" = some (.type "str") := by decide +kernel
theorem bt_list : bootBuiltins "list" = some (.type "list") := by decide +kernel
theorem bt_dict : bootBuiltins "dict" = some (.type "dict") := by decide +kernel
/-! ### a comprehension's scope, by a Bool -/
def kF : ScopeKind → Bool
  | .function => true
  | _ => false
def kFree : NameKind → Bool
  | .free => true
  | _ => false
def kOwn : NameKind → Bool
  | .local => true
  | .cell => true
  | _ => false
def kOut : Option NameKind → Bool
  | some .cell => true
  | some .free => true
  | _ => false
def blkB (N : List Str) (sc scope : Scope) (own : List (Str × Nat)) : Bool := kF scope.kind && (decide (scope.names.map (·.1)).Nodup && (own.all (fun p => decide (N[p.2]? = some p.1)) &&
  (scope.names.all (fun y => !kFree y.2 || kOut (sc.names.lookup y.1)) && scope.names.all fun y => !kOwn y.2 || (decide (y.1 ∈ own.map (·.1)) || decide (y.1 ∉ N)))))
theorem lookup_nodup {α β : Type} [BEq α] [LawfulBEq α] : ∀ {l : List (α × β)}, (l.map (·.1)).Nodup → ∀ y ∈ l, l.lookup y.1 = some y.2
  | [], _, y, h => by cases h
  | (a, b) :: r, nd, y, h => by
    rw [List.lookup_cons]
    rcases List.mem_cons.mp h with e | e
    · subst e; simp
    · obtain ⟨n1, n2⟩ := List.nodup_cons.mp nd
      have ne : (y.1 == a) = false := by
        refine beq_eq_false_iff_ne.mpr fun z => n1 ?_
        show a ∈ _
        rw [← z]
        exact List.mem_map_of_mem (f := fun q : α × β => q.1) e
      rw [ne]
      exact lookup_nodup n2 y e
theorem blkB_ok {N : List Str} {sc scope : Scope} {own : List (Str × Nat)} (h : blkB N sc scope own = true) : BlkOk N sc scope own := by
  unfold blkB at h
  simp only [Bool.and_eq_true, decide_eq_true_eq, List.all_eq_true, Bool.or_eq_true, Bool.not_eq_true'] at h
  obtain ⟨h1, h2, h3, h4, h5⟩ := h
  refine ⟨?_, lookup_nodup h2, h3, fun y hy e => ?_, fun y hy e => ?_⟩
  · cases hk : scope.kind <;> rw [hk] at h1 <;> first | rfl | cases h1
  · have := h4 y hy
    rw [e] at this
    rcases this with z | z
    · cases z
    · unfold kOut at z
      split at z
      · exact .inl (by assumption)
      · exact .inr (by assumption)
      · cases z
  · have := h5 y hy
    rcases this with z | z
    · rcases e with e | e <;> rw [e] at z <;> cases z
    · exact z
/-! ### comprehensions with their slots written -/
section
variable {X : Cx} {F : Fx} {pos : Pos} {elt tg iter : Expr} {ifs : List Expr} {scope : Scope} {idx : List Nat} {p : Pt} {src : FS} {ft : FT} {fe : FE}
theorem dn_lcI (own : List (Str × Nat)) (hix : own.map (·.2) = idx) (hK : F.K = X.K) (hc : X.calm = true) (hN : X.N.Nodup) (hi : PI X tg iter (TId F src)) (ok : BlkOk X.N X.env.scope scope own) (hp : ∀ i ∈ p.slots, i ∈ idx)
    (hg : ∀ (s : Shared) (H : Hp) (C : Addr) (cl : List (Str × Addr)) (fp : List Addr) (G : Fx), G.K = X.K → G.T = F.T → PG (X.blk s H scope (compEnvC scope cl C X.env) fp) tg (TGd G p))
    (ht : ∀ (s : Shared) (H : Hp) (C : Addr) (cl : List (Str × Addr)) (fp : List Addr) (G : Fx), G.K = X.K → G.T = F.T → PTs (X.blk s H scope (compEnvC scope cl C X.env) fp) ifs (TTd G ft))
    (he : ∀ (s : Shared) (H : Hp) (C : Addr) (cl : List (Str × Addr)) (fp : List Addr) (G : Fx), G.K = X.K → G.T = F.T → PE (X.blk s H scope (compEnvC scope cl C X.env) fp) elt (TEd G fe))
    (hs : ∀ x, foldedSetIterable iter X.env x = pure x) : PE X (.ListComp elt [⟨tg, iter, ifs, 0⟩] scope pos) (TEn F (nLc idx p src ft fe)) := by
  subst hix
  exact dn_lc hK hc hN hi ok hp hg ht he hs
theorem ps_lcI {i : Nat} {y : Str} {py spos : Pos} (own : List (Str × Nat)) (hix : own.map (·.2) = idx) (hK : F.K = X.K) (hc : X.calm = true) (hN : X.N.Nodup) (hy : X.N[i]? = some y) (hyl : X.env.scope.names.lookup y = some .local)
    (hsw : swapsWith (.ListComp elt [⟨tg, iter, ifs, 0⟩] scope pos) (some (.Name y py)) spos.line X.env = pure true) (hi : PI X tg iter (TId F src)) (ok : BlkOk X.N X.env.scope scope own) (hp : ∀ i ∈ p.slots, i ∈ idx)
    (hg : ∀ (s : Shared) (H : Hp) (C : Addr) (cl : List (Str × Addr)) (fp : List Addr) (G : Fx), G.K = X.K → G.T = F.T → PG (X.blk s H scope (compEnvC scope cl C X.env) fp) tg (TGd G p))
    (ht : ∀ (s : Shared) (H : Hp) (C : Addr) (cl : List (Str × Addr)) (fp : List Addr) (G : Fx), G.K = X.K → G.T = F.T → PTs (X.blk s H scope (compEnvC scope cl C X.env) fp) ifs (TTd G ft))
    (he : ∀ (s : Shared) (H : Hp) (C : Addr) (cl : List (Str × Addr)) (fp : List Addr) (G : Fx), G.K = X.K → G.T = F.T → PE (X.blk s H scope (compEnvC scope cl C X.env) fp) elt (TEd G fe))
    (hs : ∀ x, foldedSetIterable iter X.env x = pure x) : PS X (.Assign [.Name y py] (.ListComp elt [⟨tg, iter, ifs, 0⟩] scope pos) spos) (tAsg (TEn F (nLc idx p src ft fe)) (gName i)) := by
  subst hix
  exact ps_lc hK hc hN hy hyl hsw hi ok hp hg ht he hs
end
/-! ### the rules with the defs at hand -/
section
variable {X : Cx} {F : Fx} {T : Cl} {j k c n : Nat} {f : Addr} {ps : List Str} {g : FG} {m x y : Str} {apos pos p : Pos} {o e a b : Expr} {es : List Expr} {fo fe f1 f2 : FE} {fa : FA} {gi : List D → Option (List D)}
theorem prD {q : Addr} (hK : F.K = X.K) (hT : F.T = T) (ho : PE X o (TEd F fo)) (ck : CK X.K F.T c) (hp : PropOf X.K (T.ad c) m q f) (D1 : Def1 X.prog X.w X.K X.mg X.base T j f ps g) (hr : Room k X.A) (hjk : j + 1 ≤ k) (hn : 1 = ps.length) (hab : attributeBase o m X.env (eval o X.env) = eval o X.env) :
    PE X (.Attribute o m pos) (TEd F (fMeth c g [] fo fNil)) := by
  subst hT
  obtain ⟨⟨fd, hb, Fn⟩, kp⟩ := D1
  exact de_prop hK ho ck hp Fn (hr.mono hjk) hb hn hab
theorem meD {pl : Sem Bool} (hK : F.K = X.K) (hT : F.T = T) (ho : PE X o (TEd F fo)) (ck : CK X.K F.T c) (hm : Meth X.K (T.ad c) m f) (D1 : Def1 X.prog X.w X.K X.mg X.base T j f ps g) (hr : Room k X.A) (hjk : j ≤ k) (ha : PA X (e :: es) (TAd F fa)) (hl : FaLen fa n) (hn : n + 1 = ps.length) (hnf : m ∉ F.T.fl c)
    (hst : starEach (e :: es) X.env = (false, eval e X.env) :: starEach es X.env) (hpl : (backTo pos (starEach es X.env)).any (·.1) = false)
    (ht : eval (.Call (.Attribute o m apos) (e :: es) [] pos) X.env = (do
      let ov ← eval o X.env
      standAt apos.atName
      let (f, first) ← holding [ov] (getMethod ov m pl)
      callWith pos f first (backTo pos (starEach (e :: es) X.env)) (backToKw pos (keywordEach [] X.env)))) : PE X (.Call (.Attribute o m apos) (e :: es) [] pos) (TEd F (fMeth c g [] fo fa)) := by
  subst hT
  obtain ⟨⟨fd, hb, Fn⟩, kp⟩ := D1
  exact de_meth hK ho ck hm Fn (hr.mono hjk) hb .nil (fun _ _ => rfl) ha hl (by simpa using hn) hnf hst hpl ht
theorem me0D {pl : Sem Bool} (hK : F.K = X.K) (hT : F.T = T) (ho : PE X o (TEd F fo)) (ck : CK X.K F.T c) (hm : Meth X.K (T.ad c) m f) (D1 : Def1 X.prog X.w X.K X.mg X.base T j f ps g) (hr : Room k X.A) (hjk : j ≤ k) (hn : 1 = ps.length) (hnf : m ∉ F.T.fl c)
    (ht : eval (.Call (.Attribute o m apos) [] [] pos) X.env = (do
      let ov ← eval o X.env
      standAt apos.atName
      let (f, first) ← holding [ov] (getMethod ov m pl)
      callWith pos f first (backTo pos (starEach [] X.env)) (backToKw pos (keywordEach [] X.env)))) : PE X (.Call (.Attribute o m apos) [] [] pos) (TEd F (fMeth c g [] fo fNil)) := by
  subst hT
  obtain ⟨⟨fd, hb, Fn⟩, kp⟩ := D1
  exact de_meth0 hK ho ck hm Fn (hr.mono hjk) hb .nil (fun _ _ => rfl) (by simpa using hn) hnf ht
theorem lenD (hK : F.K = X.K) (hT : F.T = T) (hs : Sp1 X.K (T.ad c) "__len__" f) (D1 : Def1 X.prog X.w X.K X.mg X.base T j f ps g) (hr : Room k X.A) (hjk : j + 1 ≤ k) (hn : 1 = ps.length) (hg : Gl X x) (hm : X.mg x = none) (hv : bootBuiltins x = some (.builtin "len")) (ho : PE X e (TEd F fo)) (hnm : x ≠ "__name__")
    (hdb : (x == ("__debug__" : Str)) = false) (he : starEach [e] X.env = (false, eval e X.env) :: starEach [] X.env) (hpl : (backTo pos (starEach [] X.env)).any (·.1) = false) : PE X (.Call (.Name x p) [e] [] pos) (TEd F (fLenI c g fo)) := by
  subst hT
  obtain ⟨⟨fd, hb, Fn⟩, kp⟩ := D1
  exact de_lenI hK hs Fn (hr.mono hjk) hb hn hg hm hv ho hnm hdb he hpl
theorem inID (hK : F.K = X.K) (hT : F.T = T) (hs : Sp1 X.K (T.ad c) "__contains__" f) (D1 : Def1 X.prog X.w X.K X.mg X.base T j f ps g) (hr : Room k X.A) (hjk : j ≤ k) (hn : 2 = ps.length) (ha : PE X a (TEd F f1)) (hb' : PE X b (TEd F f2)) (hm : behindInMarks .In b = false) : PE X (.Compare a [.In] [b] pos) (TEd F (fInI c g f1 f2)) := by
  subst hT
  obtain ⟨⟨fd, hb, Fn⟩, kp⟩ := D1
  exact de_inI hK hs Fn (hr.mono hjk) hb hn ha hb' hm
theorem ciD (hK : F.K = X.K) (hT : F.T = T) (ho : PE X e (TEd F fo)) (co : StX.CallO X.K (T.ad c) f) (D1 : Def1 X.prog X.w X.K X.mg X.base T j f ps g) (hr : Room k X.A) (hjk : j ≤ k) (ha : PA X (a :: es) (TAd F fa)) (hl : FaLen fa n) (hn : n + 1 = ps.length)
    (ht : eval (.Call e (a :: es) [] pos) X.env = (do callWith pos (← eval e X.env) [] (backTo pos (starEach (a :: es) X.env)) (backToKw pos (keywordEach [] X.env))))
    (he : starEach (a :: es) X.env = (false, eval a X.env) :: starEach es X.env) (hpl : (backTo pos (starEach es X.env)).any (·.1) = false) : PE X (.Call e (a :: es) [] pos) (TEd F (fCallI c g fo fa)) := by
  subst hT
  obtain ⟨⟨fd, hb, Fn⟩, kp⟩ := D1
  exact de_callI hK ho co Fn (hr.mono hjk) hb ha hl hn ht he hpl
theorem mkD (hK : F.K = X.K) (hT : F.T = T) (Mk_ : Mk X.K (T.ad c) f) (Fn : FnR X.prog X.w X.K X.mg X.base CX0 j f (spMk X.K T c gi)) (hr : Room k X.A) (hjk : j + 1 ≤ k) (hg : Gl X x) (hm : X.mg x = some (.ref (T.ad c))) (ha : PA X (e :: es) (TAd F fa)) (hdb : (x == ("__debug__" : Str)) = false)
    (he : starEach (e :: es) X.env = (false, eval e X.env) :: starEach es X.env) (hpl : (backTo pos (starEach es X.env)).any (·.1) = false) : PE X (.Call (.Name x p) (e :: es) [] pos) (TEd F (fMake c gi fa)) := by
  subst hT
  exact de_make hK Mk_ Fn (hr.mono hjk) hg hm ha hdb he hpl
theorem mkS (hK : F.K = X.K) (hT : F.T = T) (Mk_ : Mk X.K (T.ad c) f) (Fn : FnR X.prog X.w X.K X.mg X.base CX0 j f (spMk X.K T c gi)) (hr : Room k X.A) (hjk : j + 1 ≤ k) (hg : Gl X x) (hm : X.mg x = some (.ref (T.ad c))) (ha : PA X (e :: es) (TAd F fa)) (hdb : (x == ("__debug__" : Str)) = false)
    (he : starEach (e :: es) X.env = (false, eval e X.env) :: starEach es X.env) (hpl : (backTo pos (starEach es X.env)).any (·.1) = true) : PE X (.Call (.Name x p) (e :: es) [] pos) (TEd F (fMake c gi fa)) := by
  subst hT
  exact de_makeS hK Mk_ Fn (hr.mono hjk) hg hm ha hdb he hpl
theorem obD {i : Nat} {pos' sp : Pos} (hK : F.K = X.K) (hT : F.T = T) (Mk_ : Mk X.K (T.ad c) f) (Fn : FnR X.prog X.w X.K X.mg X.base CX0 j f (spMk X.K T c gi)) (hr : Room k X.A) (hjk : j + 1 ≤ k) (hg : Gl X x) (hm : X.mg x = some (.ref (T.ad c))) (ha : PA X (e :: es) (TAd F fa)) (hdb : (x == ("__debug__" : Str)) = false)
    (he : starEach (e :: es) X.env = (false, eval e X.env) :: starEach es X.env) (hpl : (backTo pos (starEach es X.env)).any (·.1) = false)
    (hN : X.N.Nodup) (hi : X.N[i]? = some y) (hy : Loc X.env.scope y) (hs : swapsWith (.Call (.Name x p) (e :: es) [] pos) (some (.Name y pos')) sp.line X.env = pure false) (hfn : X.fn y = true ∨ X.env.scope.names.lookup y = some .local) (hp : ∀ a, (i, a) ∉ F.pa) :
    PS X (.Assign [.Name y pos'] (.Call (.Name x p) (e :: es) [] pos) sp) (TSd F (bObj i (nMake c gi fa))) := by
  subst hT
  exact ds_obj hK Mk_ Fn (hr.mono hjk) hg hm ha hdb he hpl hN hi hy hs hfn hp
end
theorem fnR_starD {P : Program} {w : World} {K : PySem.W.Frag} {mg : Str → Option Value} {base : Heap} {T : Cl} {k c np : Nat} {f : Addr} {fd : FuncData} {name qual pv : Str} {params : Arguments} {body : List Stmt} {scope : Scope} {N ps : List Str} {asg : List Nat} {fb : FB}
    (Fd : FunD K name qual params body scope [] [] f fd) (S : FnScope N (ps ++ [pv]) scope) (hnp : np + 1 = ps.length)
    (hb : ∀ (kV doc pm : Value) (an : Option Addr) (cdv ct : Value) (us rest : List Value), us.length = ps.length → bindArgs (PySem.W.fnOf name qual params body scope .none kV doc pm an cdv ct) ⟨us ++ rest, []⟩ = (newTuple rest >>= fun t => pure (ps.zip us ++ [(pv, t)])))
    (go : ∀ (cdv : Value) (A : Around) (outer : List Env) (s : Shared) (H : Hp) (E : XK), Room k (A.deeper (envOfC qual scope s.heap.objs.size f cdv)) → ∀ F : Fx, F.K = K → F.T = T → PaOk F (ps ++ [pv]).length asg →
      PSs (bodyCx P w K mg base N qual scope f cdv A outer s H E) body (TSd F fb)) : FnR P w K mg base CX0 (k + 1) f (spMk K T c (initS c np (fnD N.length asg fb))) := by
  obtain ⟨oc, od, dV, kV, doc, pm, an, cdv, ct, osl, rfl, lk, hcd, hD, _⟩ := Fd.ex
  rcases hD with ⟨_, rfl⟩ | ⟨e, _⟩
  · exact fnR_star lk hcd S hnp (hb kV doc pm an cdv ct) (go cdv)
  · exact absurd rfl e
end SC

set_option Elab.async false
set_option linter.all false
set_option maxRecDepth 100000
namespace SC
open PySem PySem.Spec PyProof.Rows L2

section
variable {M : Model} {A : Around} {R : GenEnd} {Y : Protocol} {n : Nat} {s₀ : Shared} {c : Code} {fs : List Frame} {s : Shared} {env : Env} {K : Flow → Sem PySem.Fin} {J : Value → Sem PySem.Fin} {gd : Bool → Bool} {lv : List Value → List Value}
/-- a for statement in a generator: the iterator made, then its loop's own code -/
theorem seg_For {target iter : Expr} {body orelse : List Stmt} {pos : Pos} (hs : ∀ x, foldedSetIterable iter env x = pure x)
    (h : wpAny M (A.over c fs) (eval iter env) (fun x s1 => wpAny M (A.over c fs) (pyIter x) (fun it s2 => ∀ p, Seg M A R Y n s₀ (.forLoop target it body orelse env) (M.den (.forLoop target it body orelse env))
        (.ret (fun r => ((match r with | .ok f => (.pure f : Sem Flow) | .error e => .raise e).onRaise (cameBack env)).wrap K J gd lv) none (gd false) (lv []) c p [] :: fs) s2)
      (fun x s' => Seg M A R Y n s₀ c (J x) fs s') s1) (fun x s' => Seg M A R Y n s₀ c (J x) fs s') s) :
    Seg M A R Y n s₀ c ((exec (.For target iter body orelse pos) env).wrap K J gd lv) fs s := by
  rw [exec_For, Sem.bind_eq_wrap', Sem.wrap_wrap]
  refine seg_wrap (wpAny_standAt ?_)
  rw [Sem.bind_eq_wrap', Sem.wrap_wrap]
  refine seg_wrap (wpAny_mono h (fun x s1 h1 => ?_) fun _ _ z => z)
  rw [Sem.bind_eq_wrap', Sem.wrap_wrap, hs x]
  refine seg_wrap (wpAny_pure ?_)
  rw [Sem.bind_eq_wrap', Sem.wrap_wrap]
  refine seg_wrap (wpAny_standAt ?_)
  rw [Sem.bind_eq_wrap', Sem.wrap_wrap]
  refine seg_wrap (wpAny_holding (wpAny_mono h1 (fun it s2 h2 => ?_) fun _ _ z => z))
  exact seg_call h2
end
/-- what a loop's code does with an exception -/
def EXn (env : Env) (e : Value) : Sem PySem.Fin := (do noteFrame e env; theTreesLotGoes e : Sem Unit).wrap (fun _ => .raise e) .raise id id
section
variable {prog : Program} {w : World} {A : Around} {R : GenEnd} {Y : Protocol} {n : Nat} {s₀ : Shared} {fs : List Frame} {s : Shared} {env : Env}
theorem seg_forLoop {target : Expr} {it : Value} {body orelse : List Stmt}
    (h : wpAny (model prog w) (A.over (.forLoop target it body orelse env) fs) (pyNext it) (fun (r : Option Value) (s1 : Shared) => match r with
        | Option.none => Seg (model prog w) A R Y n s₀ (.forLoop target it body orelse env) (.pure (.again (.block orelse env))) fs s1
        | Option.some v => wpAny (model prog w) (A.over (.forLoop target it body orelse env) fs) (letOwnedTupleGo target it v) (fun _ s2 => wpAny (model prog w) (A.over (.forLoop target it body orelse env) fs) (assign target env v) (fun _ s3 =>
            Seg (model prog w) A R Y n s₀ (.forLoop target it body orelse env) ((execs body env).wrap (fun f => match f with
              | .next | .cont => .pure (.again (.forLoop target it body orelse env))
              | .brk => .pure (.done .next)
              | .ret v => .pure (.done (.ret v))) (EXn env) id id) fs s3)
          (fun x s' => Seg (model prog w) A R Y n s₀ (.forLoop target it body orelse env) (EXn env x) fs s') s2)
          (fun x s' => Seg (model prog w) A R Y n s₀ (.forLoop target it body orelse env) (EXn env x) fs s') s1)
      (fun x s' => Seg (model prog w) A R Y n s₀ (.forLoop target it body orelse env) (EXn env x) fs s') s) :
    Seg (model prog w) A R Y n s₀ (.forLoop target it body orelse env) ((model prog w).den (.forLoop target it body orelse env)) fs s := by
  show Seg _ A R Y n s₀ _ ((forTurn target it body orelse env).onRaise (fun x => do noteFrame x env; theTreesLotGoes x)) fs s
  have ex : ∀ x, ((do noteFrame x env; theTreesLotGoes x : Sem Unit).bind fun _ => (Sem.raise x : Sem PySem.Fin)) = EXn env x := fun x => Sem.bind_eq_wrap _ _
  rw [Sem.onRaise_eq_wrap]
  simp only [ex]
  simp only [forTurn]
  rw [Sem.bind_eq_wrap', Sem.wrap_wrap]
  refine seg_wrap (wpAny_standAt ?_)
  rw [Sem.bind_eq_wrap', Sem.wrap_wrap]
  refine seg_wrap (wpAny_onRaise (wpAny_mono h (fun r s1 h1 => ?_) fun x s' z => wpAny_standAt z))
  cases r with
  | none => exact h1
  | some v =>
    show Seg _ A R Y n s₀ _ (Sem.wrap _ _ _ _ (letOwnedTupleGo target it v >>= _)) fs s1
    rw [Sem.bind_eq_wrap', Sem.wrap_wrap]
    refine seg_wrap (wpAny_mono h1 (fun _ s2 h2 => ?_) fun _ _ z => z)
    rw [Sem.bind_eq_wrap', Sem.wrap_wrap]
    refine seg_wrap (wpAny_mono h2 (fun _ s3 h3 => ?_) fun _ _ z => z)
    rw [Sem.bind_eq_wrap', Sem.wrap_wrap]
    exact Eq.mp (congrArg (fun t => Seg _ A R Y n s₀ _ t fs s3) (Sem.wrap_congr (execs body env) id id (fun f => by cases f <;> rfl) (fun e => rfl))) h3
theorem seg_block0 {c : Code} (h : Seg (model prog w) A R Y n s₀ (.block [] env) (leafOf (.ok .next)) fs s) : Seg (model prog w) A R Y n s₀ c (.pure (.again (.block [] env))) fs s := by
  refine seg_again rfl ?_
  exact h
end
end SC

set_option Elab.async false
set_option linter.all false
set_option maxRecDepth 100000
namespace SC
open PySem PySem.Spec PyProof.Rows L2

section
variable {X : Cx}
def tGFor (wi : TI) (g : TG) (tb : TGn) : TGn := fun D ys σ H => wi σ H fun J H1 => ∃ W : Nat → Nat → List V → Sg → Hp → Prop, (∃ m, W 0 m ys σ H1) ∧ ∀ i m ys σ H, W i m ys σ H →
  (J.stop i H ∧ D.nx ys σ H) ∨ (J.go i H ∧ ∃ N : List V → Sg → Hp → Prop, (∀ ys' σ' H', N ys' σ' H' → ∃ m', m' < m ∧ W (i + 1) m' ys' σ' H') ∧ ∀ x H', J.yld i H x H' → g x σ H' fun σ2 H2 => tb { D with nx := N, ct := N, bk := D.nx } ys σ2 H2)
theorem gs_for {tg iter : Expr} {body : List Stmt} {pos : Pos} {wi : TI} {g : TG} {tb : TGn} (hp : PassesOwn (model X.prog X.w) X.A X.env X.xe) (hc : X.calm = true) (hi : PI X tg iter wi) (hg : PG X tg g) (hb : GSs X body tb)
    (hs : ∀ x, foldedSetIterable iter X.env x = pure x) : GS X (.For tg iter body [] pos) (tGFor wi g tb) := by
  refine ⟨fun A S ip R n ys s₀ c fs K J gd lv s σ H D gc hn kk hI ht => ?_⟩
  refine seg_For hs ?_
  rw [gc.over]
  obtain ⟨acc0, cc0, r0, I0⟩ := hI
  refine wpAny_mono (hi.run _ s σ H _ I0 ht) (fun v sA hA => wpAny_mono hA (fun itv sB hB p => ?_) fun x s' hx => kk.exc n s₀ x s' hx) fun x s' hx => kk.exc n s₀ x s' hx
  obtain ⟨it, fp, tn, Jt, HB, rfl, IB, T, tB, fB, W, ⟨m0, w0⟩, turn⟩ := hB
  -- the iterator's own objects
  have base : ∀ b ∈ fp, b ≠ X.env.locals ∧ b ∉ X.fs ∧ (b ∈ X.ex ∨ X.s_0.heap.objs.size ≤ b) ∧ (∀ x c, X.env.cells.lookup x = some c → c ≠ b) ∧ (∀ q ∈ X.pn, q.1 ≠ b) ∧ S ≠ b ∧ ∀ q ∈ ip, q.1 ≠ b := fun b hbm => by
    obtain ⟨_, f1, f2, f3, f4, f5⟩ := fB b hbm
    exact ⟨f1, f2, f3, f4, fun q hq => f5 q (List.mem_append_left _ hq), f5 (S, lstObj acc0 cc0) (List.mem_append_right _ List.mem_cons_self), fun q hq => f5 q (List.mem_append_right _ (List.mem_cons_of_mem _ hq))⟩
  have fpk : ∀ {acc : Array Value} {cc : Nat} {H' : Hp}, (∀ b ∈ fp, H' b = none) → ∀ b ∈ fp, FpOk X ((S, lstObj acc cc) :: ip) H' b := fun {acc cc H'} hn b hbm => by
    obtain ⟨f1, f2, f3, f4, f5, f6, f7⟩ := base b hbm
    refine ⟨hn b hbm, f1, f2, f3, f4, fun q hq => ?_⟩
    rcases List.mem_append.mp hq with z | z
    · exact f5 q z
    · rcases List.mem_cons.mp z with z | z
      · rw [z]; exact f6
      · exact f7 q z
  have gl := fun (kf : Result → Sem PySem.Fin) => gc_loop (k := kf) (c' := .forLoop tg (.ref it) body [] X.env) (l := lv []) (kp := []) (p := p) gc rfl rfl
  have run : ∀ (m i n : Nat) (ys : List V) (s₀ s : Shared) (σ : Sg) (H : Hp), n + ys.length = sizeLine → W i m ys σ H → GI X S ip ys σ H s → tn i s.heap → (∀ b ∈ fp, H b = none) →
      Seg (model X.prog X.w) A R (GY X S) n s₀ (.forLoop tg (.ref it) body [] X.env) ((model X.prog X.w).den (.forLoop tg (.ref it) body [] X.env))
        (.ret (fun r => ((match r with | .ok f => (.pure f : Sem Flow) | .error e => .raise e).onRaise (cameBack X.env)).wrap K J gd lv) none (gd false) (lv []) c p [] :: fs) s := by
    intro m
    induction m using Nat.strongRecOn with
    | ind m ih =>
      intro i n ys s₀ s σ H hn w hGI tni fn
      have bad : ∀ (n : Nat) (s₀ : Shared) (x : Value) (s' : Shared), X.xe x s' → Seg (model X.prog X.w) A R (GY X S) n s₀ (.forLoop tg (.ref it) body [] X.env) (EXn X.env x)
          (.ret (fun r => ((match r with | .ok f => (.pure f : Sem Flow) | .error e => .raise e).onRaise (cameBack X.env)).wrap K J gd lv) none (gd false) (lv []) c p [] :: fs) s' := fun n s₀ x s' hx => by
        unfold EXn
        apply seg_wrap
        rw [(gl _).over]
        exact wpAny_bind (wpAny_mono (hp x s' hx) (fun _ _ hcb => wpAny_theTreesLotGoes (seg_leaf (.error x) (seg_cameBack gc kk hcb))) fun y _ hcb => seg_leaf (.error y) (seg_cameBack gc kk hcb))
      apply seg_forLoop
      rw [(gl _).over]
      obtain ⟨acc, cc, ra, I⟩ := hGI
      have fk := fpk (acc := acc) (cc := cc) fn
      rcases turn i m ys σ H w with ⟨stp, qn⟩ | ⟨go, N, hN, step⟩
      · refine wpAny_mono (T.done X rfl rfl rfl hc i _ s σ H X.xe I fk tni stp) (fun r s1 ⟨hr, I1⟩ => ?_) fun x s' hx => bad n s₀ x s' hx
        subst hr
        exact seg_block0 (seg_leaf (.ok .next) (kk.ok n ys s₀ s1 .next hn ⟨σ, H, ⟨acc, cc, ra, I1⟩, qn⟩))
      · refine wpAny_mono (T.item X rfl rfl rfl hc i _ s σ H X.xe I fk tni go) (fun r s1 ⟨u, hr, h1⟩ => ?_) fun x s' hx => bad n s₀ x s' hx
        subst hr
        refine wpAny_mono h1 (fun _ s2 ⟨x, H2, I2, rx, yl, tn2, fn2⟩ => ?_) fun x s' hx => bad n s₀ x s' hx
        have fk2 := fpk (acc := acc) (cc := cc) fn2
        have I2p := I2.pinned fk2 (T.obj _ _ tn2)
        refine wpAny_mono (hg.run _ s2 σ H2 x u _ I2p rx (step x H2 yl)) (fun _ s3 ⟨σ3, H3, I3, q3⟩ => ?_) fun x s' hx => bad n s₀ x s' hx
        have hip : ∀ q ∈ ip ++ pinsAt fp s2.heap, q.1 ≠ S := fun q hq => by
          rcases List.mem_append.mp hq with z | z
          · exact gc.ip q z
          · exact fun e => (base q.1 (of_pinsAt z).1).2.2.2.2.2.1 e.symm
        have unp : ∀ {ys' : List V} {σ' : Sg} {H' : Hp} {s' : Shared}, GI X S (ip ++ pinsAt fp s2.heap) ys' σ' H' s' → GI X S ip ys' σ' H' s' ∧ tn (i + 1) s'.heap ∧ ∀ b ∈ fp, H' b = none := fun {ys' σ' H' s'} ⟨acc', cc', r', I'⟩ => by
          have I'' : Inv X (((S, lstObj acc' cc') :: ip) ++ pinsAt fp s2.heap) σ' H' s' := I'
          refine ⟨⟨acc', cc', r', I''.unpinned⟩, T.keep _ _ _ tn2 fun b hbm o e => (I''.pin (b, o) (List.mem_append_right _ (List.mem_append_right _ (mem_pinsAt hbm e)))).1, fun b hbm => ?_⟩
          obtain ⟨o, e, _⟩ := T.obj _ _ tn2 b hbm
          exact (I''.pin (b, o) (List.mem_append_right _ (List.mem_append_right _ (mem_pinsAt hbm e)))).2.1
        have g2 := gl fun r => ((match r with | .ok f => (.pure f : Sem Flow) | .error e => .raise e).onRaise (cameBack X.env)).wrap K J gd lv
        refine hb.run A S (ip ++ pinsAt fp s2.heap) R n ys s₀ _ _ _ _ id id s3 σ3 H3 { D with nx := N, ct := N, bk := D.nx } ⟨g2.pn, hip, g2.apart, g2.over, g2.split, g2.guard, g2.gd⟩ hn
          ⟨fun n' ys' s₀' s4 f hn' hs4 => ?_, fun n' s₀' x s4 hx => bad n' s₀' x s4 hx⟩ ⟨acc, cc, ra, I3⟩ q3
        cases f with
        | next =>
          obtain ⟨σ4, H4, G4, n4⟩ := hs4
          obtain ⟨m', hm, w4⟩ := hN ys' σ4 H4 n4
          obtain ⟨u1, u2, u3⟩ := unp G4
          exact seg_again rfl (ih m' hm (i + 1) n' ys' s₀' s4 σ4 H4 hn' w4 u1 u2 u3)
        | cont =>
          obtain ⟨σ4, H4, G4, n4⟩ := hs4
          obtain ⟨m', hm, w4⟩ := hN ys' σ4 H4 n4
          obtain ⟨u1, u2, u3⟩ := unp G4
          exact seg_again rfl (ih m' hm (i + 1) n' ys' s₀' s4 σ4 H4 hn' w4 u1 u2 u3)
        | brk =>
          obtain ⟨σ4, H4, G4, q4⟩ := hs4
          exact seg_leaf (.ok .next) (kk.ok n' ys' s₀' s4 .next hn' ⟨σ4, H4, (unp G4).1, q4⟩)
        | ret v =>
          obtain ⟨v4, σ4, H4, G4, r4, q4⟩ := hs4
          exact seg_leaf (.ok (.ret v)) (kk.ok n' ys' s₀' s4 (.ret v) hn' ⟨v4, σ4, H4, (unp G4).1, r4, q4⟩)
  exact run m0 0 n ys s₀ sB σ HB hn w0 ⟨acc0, cc0, r0, IB⟩ tB fun b hbm => (fB b hbm).1
end
end SC

set_option Elab.async false
set_option linter.all false
set_option maxRecDepth 100000
namespace SC
open PySem PySem.Spec PyProof.Rows L2

/-! ### generators over data -/
abbrev FGn := List D → Ev → Option (Fw × List D × Ev)
def EndG (F : Fx) (E : GEnds) (w : Fw) (M' : Ms) (ys' : List V) (σ' : Sg) (H' : Hp) : Prop := match w with
  | .nx => E.nx ys' σ' H'
  | .bk => E.bk ys' σ' H'
  | .ct => E.ct ys' σ' H'
  | .rt d => ∀ v, Dv F.K F.T M' H' d v → E.rt ys' v H'
def TGnd (F : Fx) (f : FGn) : TGn := fun E ys σ H => ∃ M ρ ds w ds' ρ', ER F M ρ σ H ∧ DvS F.K F.T M H ds ys ∧ f ds ρ = some (w, ds', ρ') ∧
  ∀ M' ys' σ' H', ER F M' ρ' σ' H' → Stp F M M' H H' → DvS F.K F.T M' H' ds' ys' → EndG F E w M' ys' σ' H'
theorem Stp.dvs {F : Fx} {M M' : Ms} {H H' : Hp} (s : Stp F M M' H H') : ∀ {ds : List D} {vs : List V}, DvS F.K F.T M H ds vs → DvS F.K F.T M' H' ds vs
  | [], _, h => h
  | d :: ds, _, ⟨x, r, e, h1, h2⟩ => ⟨x, r, e, s d x h1, Stp.dvs s h2⟩
def gPl (f : FB) : FGn := fun ds ρ => match f ρ with
  | some (w, ρ') => some (w, ds, ρ')
  | none => none
def gNil : FGn := fun ds ρ => some (.nx, ds, ρ)
def gSeq (f g : FGn) : FGn := fun ds ρ => match f ds ρ with
  | some (.nx, ds1, ρ1) => g ds1 ρ1
  | some (w, ds1, ρ1) => some (w, ds1, ρ1)
  | none => none
def gYld (fe : FE) : FGn := fun ds ρ => match fe ρ with
  | some (.dat d, ρ1) => if ds.length < sLn then some (.nx, ds ++ [d], ρ1) else none
  | _ => none
def gForL (p : Pt) (fb : FGn) : List D → List D → Ev → Option (Fw × List D × Ev)
  | [], ys, ρ => some (.nx, ys, ρ)
  | d :: ds, ys, ρ => match bindPt p d ρ with
    | none => none
    | some ρa => match fb ys ρa with
      | none => none
      | some (.nx, yb, ρb) => gForL p fb ds yb ρb
      | some (.ct, yb, ρb) => gForL p fb ds yb ρb
      | some (.bk, yb, ρb) => some (.nx, yb, ρb)
      | some (.rt d, yb, ρb) => some (.rt d, yb, ρb)
def gFor (p : Pt) (src : FS) (fb : FGn) : FGn := fun ys ρ => match src ρ with
  | none => none
  | some (ds, os, ρ1) => match datAll os with
    | none => none
    | some _ => gForL p fb ds ys ρ1
theorem GS.imp {X : Cx} {st : Stmt} {t t' : TGn} (h : GS X st t) (g : ∀ D ys σ H, t' D ys σ H → t D ys σ H) : GS X st t' :=
  ⟨fun A S ip R n ys s₀ c fs K J gd lv s σ H D gc hn k hI ht => h.run A S ip R n ys s₀ c fs K J gd lv s σ H D gc hn k hI (g _ _ _ _ ht)⟩
theorem GSs.imp {X : Cx} {st : List Stmt} {t t' : TGn} (h : GSs X st t) (g : ∀ D ys σ H, t' D ys σ H → t D ys σ H) : GSs X st t' :=
  ⟨fun A S ip R n ys s₀ c fs K J gd lv s σ H D gc hn k hI ht => h.run A S ip R n ys s₀ c fs K J gd lv s σ H D gc hn k hI (g _ _ _ _ ht)⟩
section
variable {X : Cx} {F : Fx} {pos : Pos}
theorem dg_pl {st : Stmt} {f : FB} (h : PS X st (TSd F f)) : GS X st (TGnd F (gPl f)) := GS.imp (gs_ps h) fun E ys σ H ⟨M, ρ, ds, w, ds', ρ', R, dv, hf, q⟩ => by
  unfold gPl at hf
  split at hf
  · rename_i w1 ρ1 e1
    cases hf
    refine ⟨M, ρ, w, _, R, e1, fun M1 σ1 H1 R1 s1 => ?_⟩
    have := q M1 ys σ1 H1 R1 s1 (s1.dvs dv)
    cases w with
    | nx => exact this
    | bk => exact this
    | ct => exact this
    | rt d => exact this
  · cases hf
theorem dgss_nil : GSs X [] (TGnd F gNil) := GSs.imp gss_nil fun E ys σ H ⟨M, ρ, ds, w, ds', ρ', R, dv, hf, q⟩ => by
  cases hf
  exact q M ys σ H R Stp.rfl dv
theorem dgss_cons {st : Stmt} {rest : List Stmt} {f g : FGn} (h1 : GS X st (TGnd F f)) (h2 : GSs X rest (TGnd F g)) : GSs X (st :: rest) (TGnd F (gSeq f g)) := GSs.imp (gss_cons h1 h2) fun E ys σ H ⟨M, ρ, ds, w, ds', ρ', R, dv, hf, q⟩ => by
  unfold gSeq at hf
  split at hf
  · rename_i ds1 ρ1 e1
    exact ⟨M, ρ, ds, _, ds1, ρ1, R, dv, e1, fun M1 ys1 σ1 H1 R1 s1 dv1 => ⟨M1, ρ1, ds1, w, ds', ρ', R1, dv1, hf, fun M2 ys2 σ2 H2 R2 s2 dv2 => q M2 ys2 σ2 H2 R2 (s1.trans s2) dv2⟩⟩
  · rename_i w1 ds1 ρ1 hn e1
    cases hf
    refine ⟨M, ρ, ds, w, _, _, R, dv, e1, fun M1 ys1 σ1 H1 R1 s1 dv1 => ?_⟩
    have := q M1 ys1 σ1 H1 R1 s1 dv1
    cases w with
    | nx => exact absurd rfl hn
    | bk => exact this
    | ct => exact this
    | rt d => exact this
  · cases hf
theorem dg_yld {e : Expr} {fe : FE} {yp : Pos} (he : PE X e (TEd F fe)) (hco : X.env.scope.isCoroutine = false) (hi : interactive X.env = false) : GS X (.Expr (.Yield (some e) yp) pos) (TGnd F (gYld fe)) :=
  GS.imp (gs_yield he hco hi) fun E ys σ H ⟨M, ρ, ds, w, ds', ρ', R, dv, hf, q⟩ => by
    unfold gYld at hf
    split at hf
    · rename_i d ρ1 e1
      split at hf
      · rename_i hz
        cases hf
        refine ⟨by rw [← dv.length, ← sLn_eq]; exact hz, M, ρ, _, _, R, e1, fun v M1 H1 s1 R1 k1 ok1 => ?_⟩
        have st := Stp.of R (fun a z => .inl (s1 a z)) k1
        exact q M1 _ σ H1 R1 st ((st.dvs dv).append (DvS.cons ok1 DvS.nil))
      · cases hf
    · cases hf
theorem gfor_read {p : Pt} {src : FS} {fb : FGn} (hp : ∀ i ∈ p.slots, ∀ a, (i, a) ∉ F.pa) {E : GEnds} {ys : List V} {σ : Sg} {H : Hp} (h : TGnd F (gFor p src fb) E ys σ H) : tGFor (TId F src) (TGd F p) (TGnd F fb) E ys σ H := by
  obtain ⟨M, ρ, dy, w, dy', ρ', R, dvy, hf, q⟩ := h
  unfold gFor at hf
  cases e1 : src ρ with
  | none => rw [e1] at hf; cases hf
  | some p1 =>
    obtain ⟨ds, os, ρ1⟩ := p1
    rw [e1] at hf
    simp only at hf
    cases e2 : datAll os with
    | none => rw [e2] at hf; cases hf
    | some es0 =>
      rw [e2] at hf
      simp only at hf
      refine ⟨M, ρ, ds, os, ρ1, R, e1, fun J vs es M1 H1 s1 R1 k1 ok1 ge itok => ?_⟩
      have st1 := Stp.of R (fun a z => .inl (s1 a z)) k1
      refine ⟨fun i m ys' σ' H' => m = ds.length - i ∧ i ≤ ds.length ∧ ∃ M2 ρ2 dy2, ER F M2 ρ2 σ' H' ∧ Stp F M1 M2 H1 H' ∧ DvS F.K F.T M2 H' dy2 ys' ∧ gForL p fb (ds.drop i) dy2 ρ2 = some (w, dy', ρ'), ⟨ds.length, by simp, Nat.zero_le _, M1, ρ1, dy, R1, Stp.rfl, st1.dvs dvy, hf⟩, ?_⟩
      rintro i m ys2 σ2 H2 ⟨rfl, hi, M2, ρ2, dy2, R2, st2, dv2, el⟩
      have doS := datAll_do st2 ok1 e2 ge
      have ito := itok M2 H2 i R2.mm doS
      by_cases hlt : i < ds.length
      · refine .inr ⟨(ito.1 ds[i] (by simp [hlt])).1, fun ys' σ' H' => ∃ M2 ρ2 dy2, ER F M2 ρ2 σ' H' ∧ Stp F M1 M2 H1 H' ∧ DvS F.K F.T M2 H' dy2 ys' ∧ gForL p fb (ds.drop (i + 1)) dy2 ρ2 = some (w, dy', ρ'), fun ys' σ' H' hh => ⟨ds.length - (i + 1), by omega, rfl, hlt, hh⟩, fun x H3 hy => ?_⟩
        obtain ⟨ex3, dvx⟩ := (ito.1 ds[i] (by simp [hlt])).2 x H3 hy
        rw [List.drop_eq_getElem_cons hlt] at el
        unfold gForL at el
        cases b1 : bindPt p ds[i] ρ2 with
        | none => rw [b1] at el; cases el
        | some ρa =>
          rw [b1] at el
          simp only at el
          refine ⟨M2, ρ2, ds[i], ρa, R2.ext ex3, dvx, b1, hp, fun σ3 R3 ag => ?_⟩
          have st3 : Stp F M2 M2 H2 H3 := fun d v h => Dv.ext ex3 d h
          cases f1 : fb dy2 ρa with
          | none => rw [f1] at el; cases el
          | some pw =>
            obtain ⟨w1, dyb, ρb⟩ := pw
            rw [f1] at el
            refine ⟨M2, ρa, dy2, w1, dyb, ρb, R3, st3.dvs dv2, f1, fun M4 ys4 σ4 H4 R4 st4 dv4 => ?_⟩
            have st := st2.trans (st3.trans st4)
            cases w1 with
            | nx => exact ⟨M4, ρb, dyb, R4, st, dv4, el⟩
            | ct => exact ⟨M4, ρb, dyb, R4, st, dv4, el⟩
            | bk => cases el; exact q M4 ys4 σ4 H4 R4 (st1.trans st) dv4
            | rt d => cases el; exact q M4 ys4 σ4 H4 R4 (st1.trans st) dv4
      · have ei : i = ds.length := by omega
        refine .inl ⟨ito.2 ei, ?_⟩
        rw [List.drop_eq_nil_of_le (by omega)] at el
        cases el
        exact q M2 ys2 σ2 H2 R2 (st1.trans st2) dv2
theorem dg_for {tg iter : Expr} {body : List Stmt} {p : Pt} {src : FS} {fb : FGn} (hpo : PassesOwn (model X.prog X.w) X.A X.env X.xe) (hc : X.calm = true) (hi : PI X tg iter (TId F src)) (hg : PG X tg (TGd F p)) (hb : GSs X body (TGnd F fb))
    (hs : ∀ x, foldedSetIterable iter X.env x = pure x) (hp : ∀ i ∈ p.slots, ∀ a, (i, a) ∉ F.pa) : GS X (.For tg iter body [] pos) (TGnd F (gFor p src fb)) :=
  GS.imp (gs_for hpo hc hi hg hb hs) fun _ _ _ _ => gfor_read hp
theorem dgss_frz {st : List Stmt} {i : Nat} {g : FGn} (h : GSs X st (TGnd F g)) (hp : ∀ a, (i, a) ∉ F.pa) : GSs X st (TGnd F (gSeq (gPl (bFrz i)) g)) := GSs.imp h fun E ys σ H ⟨M, ρ, ds, w, ds', ρ', R, dv, hf, q⟩ => by
  unfold gSeq gPl bFrz at hf
  cases e1 : ρ[i]? with
  | none => rw [e1] at hf; cases hf
  | some s =>
    rw [e1] at hf
    cases s with
    | own l =>
      simp only at hf
      obtain ⟨M1, s1, R1⟩ := R.frz e1 hp
      exact ⟨M1, _, ds, w, ds', ρ', R1, DvS.less s1 ds dv, hf, fun M2 ys2 σ2 H2 R2 s2 dv2 => q M2 ys2 σ2 H2 R2 (fun d v h => s2 d v (Dv.less s1 d h)) dv2⟩
    | _ => cases hf
end
/-! ### a generator def -/
def spY (K : PySem.W.Frag) (T : Cl) (n : Nat) (g : List D → Option (List D)) : L2.SpG := fun vs H Q _ => vs.length = n ∧ ∃ M ds out, MM T M H ∧ DvS K T M H ds vs ∧ g ds = some out ∧ ∀ ys H', Ke T (fun _ => False) H H' → DvS K T M H' out ys → Q ys H'
def genOut : Option (Fw × List D × Ev) → Option (List D)
  | some (.nx, out, _) => some out
  | some (.rt .non, out, _) => some out
  | _ => none
def genD (N : Nat) (fb : FGn) (ds : List D) : Option (List D) := genOut (fb [] (ds.map .dat ++ List.replicate (N - ds.length) .un))
section
variable {P : Program} {w : World} {K : PySem.W.Frag} {mg : Str → Option Value} {base : Heap} {k : Nat} {f : Addr} {fd : FuncData} {name qual : Str} {params : Arguments} {body : List Stmt} {scope : Scope} {N ps : List Str} {T : Cl} {fb : FGn}
theorem se_data {M : Ms} {H : Hp} {ds : List D} {vs : List V} (mm : MM T M H) (dv : DvS K T M H ds vs) : SE K T M (ds.map .dat) (vs.map some) H := by
  have nomut : ∀ (i : Nat) (s : Sl), (ds.map Sl.dat)[i]? = some s → s.mut = true → False := fun i s h mu => by
    rw [List.getElem?_map] at h
    cases e : ds[i]? with
    | none => rw [e] at h; cases h
    | some d => rw [e] at h; cases h; cases mu
  refine ⟨mm, by simp [dv.length], fun i s h => ?_, fun i j s t v h1 m1 _ _ _ _ => (nomut i s h1 m1).elim⟩
  rw [List.getElem?_map] at h
  cases e : ds[i]? with
  | none => rw [e] at h; cases h
  | some d =>
    rw [e] at h
    cases h
    obtain ⟨v, h1, h2⟩ := dv.getD e
    exact ⟨some v, by rw [List.getElem?_map, h1]; rfl, v, rfl, h2⟩
theorem exG {X : Cx} {body : List Stmt} {n : Nat} {asg : List Nat} (h : ∀ F : Fx, F.K = X.K → F.T = T → PaOk F n asg → GSs X body (TGnd F fb)) : GSs X body (fun D ys σ H => ∃ F : Fx, F.K = X.K ∧ F.T = T ∧ PaOk F n asg ∧ TGnd F fb D ys σ H) :=
  ⟨fun A S ip R n ys s₀ c fs K J gd lv s σ H D gc hn k hI ⟨F, h1, h2, h3, ht⟩ => (h F h1 h2 h3).run A S ip R n ys s₀ c fs K J gd lv s σ H D gc hn k hI ht⟩
theorem FunD.gen (Fd : FunD K name qual params body scope [] [] f fd) (S : GScope N ps scope)
    (go : ∀ (cdv : Value) (A : Around) (outer : List Env) (s : Shared) (H : Hp) (E : XK) (pn : List (Addr × Obj)), Room k (A.deeper (envOfC qual scope s.heap.objs.size f cdv)) → ∀ F : Fx, F.K = K → F.T = T → PaOk F 0 [] →
      GSs (gcxOf P w K mg base N qual scope f cdv A outer s H E pn) body (TGnd F fb)) : GFn P w K mg base (k + 1) f fd ps (spY K T ps.length (genD N.length fb)) := by
  obtain ⟨oc, od, dV, kV, doc, pm, an, cdv, ct, osl, rfl, lk, hcd, _, _⟩ := Fd.ex
  have hpl : ps.length ≤ N.length := by have := congrArg List.length S.pre; rw [List.length_take] at this; omega
  refine gfn_of lk hcd S (fun vs H Q E h => h.1) fun A outer s H vs Q E pn hr ⟨hv, M, ds, out, mm, dv, hg, q⟩ => ⟨_, exG (go cdv A outer s H E pn hr), ?_⟩
  have hvl : vs.length ≤ N.length := by rw [hv]; exact hpl
  have S0 := se_data mm dv
  have S1 := se_start S0 (N := N) hvl
  rw [List.length_map] at S1
  have nomut : ∀ (i : Nat) (s : Sl), (ds.map Sl.dat ++ List.replicate (N.length - ds.length) Sl.un)[i]? = some s → s.mut = true → False := fun i s h mu => by
    by_cases hi : i < ds.length
    · rw [List.getElem?_append_left (by simpa using hi), List.getElem?_map] at h
      cases e : ds[i]? with
      | none => rw [e] at h; cases h
      | some d => rw [e] at h; cases h; cases mu
    · rw [List.getElem?_append_right (by simpa using hi), List.getElem?_replicate] at h
      split at h
      · cases h; cases mu
      · cases h
  have nomad : ∀ a, ¬ Mad (ds.map Sl.dat ++ List.replicate (N.length - ds.length) Sl.un) (L2.start N vs) a := fun a ⟨i, s, h, mu, _⟩ => nomut i s h mu
  have R0 := S1.enter
  have nopa : ∀ p, p ∉ (subF K T M (ds.map Sl.dat ++ List.replicate (N.length - ds.length) Sl.un) (L2.start N vs) H).pa := fun p hp => by
    obtain ⟨s, h1, m, _⟩ := mem_mads.mp hp
    exact nomut p.1 s h1 m
  unfold genD genOut at hg
  have fin : ∀ (M' : Ms) (ρ' : Ev) (ys' : List V) (σ' : Sg) (H' : Hp), ER (subF K T M (ds.map Sl.dat ++ List.replicate (N.length - ds.length) Sl.un) (L2.start N vs) H) M' ρ' σ' H' → DvS K T M' H' out ys' → Q ys' H' := fun M' ρ' ys' σ' H' R' dv' =>
    q ys' H' (R'.kp.imp fun a _ z => nomad a (subF_P.mp z)) (DvS.less R'.m0 out dv')
  cases e1 : fb [] (ds.map Sl.dat ++ List.replicate (N.length - ds.length) Sl.un) with
  | none => rw [e1] at hg; cases hg
  | some pw =>
    obtain ⟨w1, ds', ρ'⟩ := pw
    rw [e1] at hg
    refine ⟨_, rfl, rfl, ⟨fun p hp => (nopa p hp).elim, fun p hp => (nopa p hp).elim⟩, M, _, [], w1, ds', ρ', R0, DvS.nil, e1, fun M' ys' σ' H' R' st' dv' => ?_⟩
    cases w1 with
    | nx => cases hg; exact fin M' ρ' ys' σ' H' R' dv'
    | rt d =>
      cases d with
      | non => cases hg; exact fun v z => ⟨z, fin M' ρ' ys' σ' H' R' dv'⟩
      | _ => cases hg
    | bk => cases hg
    | ct => cases hg
structure Gen1 (P : Program) (w : World) (K : PySem.W.Frag) (mg : Str → Option Value) (base : Heap) (T : Cl) (k : Nat) (f : Addr) (ps : List Str) (g : List D → Option (List D)) : Prop where
  ex : ∃ fd, Binds K fd ps [] ∧ GFn P w K mg base k f fd ps (spY K T ps.length g)
  kp : PySem.W.keepIn K (.ref f) = true
theorem FunD.gen1 (Fd : FunD K name qual params body scope [] [] f fd) (S : GScope N ps scope)
    (hb : ∀ (kV doc pm : Value) (an : Option Addr) (cdv ct : Value) (us : List Value), us.length = ps.length → bindArgs (PySem.W.fnOf name qual params body scope .none kV doc pm an cdv ct) ⟨us, []⟩ = pure (ps.zip us))
    (go : ∀ (cdv : Value) (A : Around) (outer : List Env) (s : Shared) (H : Hp) (E : XK) (pn : List (Addr × Obj)), Room k (A.deeper (envOfC qual scope s.heap.objs.size f cdv)) → ∀ F : Fx, F.K = K → F.T = T → PaOk F 0 [] →
      GSs (gcxOf P w K mg base N qual scope f cdv A outer s H E pn) body (TGnd F fb)) : Gen1 P w K mg base T (k + 1) f ps (genD N.length fb) :=
  ⟨⟨fd, Fd.bindsN hb, FunD.gen Fd S go⟩, Fd.kp⟩
end
section
variable {X : Cx} {F : Fx} {T : Cl} {j k n : Nat} {f : Addr} {ps : List Str} {g : List D → Option (List D)} {x y : Str} {p p2 pos pos2 : Pos} {e : Expr} {es : List Expr} {fa : FA}
def nGen (g : List D → Option (List D)) (fa : FA) : FN := fun ρ => match fa ρ with
  | none => none
  | some (os, ρ1) => match datAll os with
    | none => none
    | some ds => match g ds with
      | some out => some (out, ρ1)
      | none => none
theorem nostop0 {K : PySem.W.Frag} : NoStop K fun _ _ _ => False := fun _ _ _ z => False.elim z
theorem passesX {X : Cx} : Passes (CX X.prog X.w) X fun _ _ _ => False := fun _ _ _ _ _ _ _ ⟨_, _, _, _, _, _, _, _, _, _, _, _, z⟩ => False.elim z
theorem dn_gen (hK : F.K = X.K) (hT : F.T = T) (G1 : Gen1 X.prog X.w X.K X.mg X.base T j f ps g) (hr : Room k X.A) (hjk : j + 3 ≤ k) (hg : Gl X x) (hm : X.mg x = none) (hv : bootBuiltins x = some (.type "list")) (hn : x ≠ "__name__") (hdb : (x == ("__debug__" : Str)) = false)
    (hgy : Gl X y) (hmy : X.mg y = some (.ref f)) (ha : PA X (e :: es) (TAd F fa)) (hl : FaLen fa n) (hln : n = ps.length) (hdby : (y == ("__debug__" : Str)) = false) (he : starEach (e :: es) X.env = (false, eval e X.env) :: starEach es X.env) (hpl : (backTo pos2 (starEach es X.env)).any (·.1) = false)
    (he2 : starEach [.Call (.Name y p2) (e :: es) [] pos2] X.env = (false, eval (.Call (.Name y p2) (e :: es) [] pos2) X.env) :: starEach [] X.env) : PE X (.Call (.Name x p) [.Call (.Name y p2) (e :: es) [] pos2] [] pos) (TEn F (nGen g fa)) := by
  subst hT
  obtain ⟨⟨fd, hb, Fn⟩, kp⟩ := G1
  obtain ⟨K, T, M0, pa, H0⟩ := F
  cases hK
  have hrj : Room j X.A := hr.mono (by omega)
  refine PE.imp (pe_listG (pgen_call (E := fun _ _ _ => False) (dvs := []) Fn hrj hgy hmy kp hb .nil ha hdby he hpl) passesX nostop0 (hr.mono hjk) hg hm hv hn hdb he2) ?_
  rintro σ H Q ⟨M, ρ, out, ρ', R, hf, q⟩
  unfold nGen at hf
  cases e1 : fa ρ with
  | none => rw [e1] at hf; cases hf
  | some p1 =>
    obtain ⟨os, ρ1⟩ := p1
    rw [e1] at hf
    simp only at hf
    cases e2 : datAll os with
    | none => rw [e2] at hf; cases hf
    | some ds =>
      rw [e2] at hf
      simp only at hf
      cases e3 : g ds with
      | none => rw [e3] at hf; cases hf
      | some o =>
        rw [e3] at hf
        cases hf
        refine ⟨M, ρ, os, _, R, e1, fun vs M1 H1 s1 R1 k1 ok1 => ?_⟩
        have dv := OpdsOk.datAll ok1 e2
        refine ⟨?_, M1, ds, _, R1.mm, by rw [List.append_nil]; exact dv, e3, fun ys H2 ex dvy p hp => ?_⟩
        · rw [List.append_nil, ← hln, ← hl.eq _ _ _ e1]
          exact (Paired.length ok1).symm
        · obtain ⟨R2, n2⟩ := (R1.ke ex fun _ z => z.elim).newLst (k1.trans ((ex.all fun _ z => z.elim : Keep M1 H1 H2).mono s1)) s1 hp dvy
          exact q p _ _ (fun a z => z.imp (s1 a) id) R2 ((k1.trans ((ex.all fun _ z => z.elim : Keep M1 H1 H2).mono s1)).trans (Ext.new hp).keep) n2
end
end SC

set_option Elab.async false
set_option linter.all false
set_option maxRecDepth 100000
namespace SC
open PySem PySem.Spec PyProof.Rows L2

/-! ### repr -/
def dRepr : List D → Option D
  | [d] => match d with
    | .tup _ | .lst _ => match toP d with
      | some p => if p.showable && (!p.hasDict && (decide (p.depth ≤ 60) && decide (p.shown.length ≤ sLn))) then some (.str p.shown) else none
      | none => none
    | _ => none
  | _ => none
section
variable {X : Cx} {F : Fx}
theorem cd_repr (hK : F.K = X.K) (gd : X.A.guards = some []) (hu : X.A.units + 64 < cLine) : CallR X (.builtin "repr") (rCs F dRepr) := by
  obtain ⟨K, T, M0, pa, H0⟩ := F
  cases hK
  intro pins s σ H xs us Q I rv ⟨M, ds, r, hm, hx, g, q⟩
  unfold dRepr at g
  split at g
  case h_2 => cases g
  case h_1 d =>
  have key : ∃ p, toP d = some p ∧ (p.showable && (!p.hasDict && (decide (p.depth ≤ 60) && decide (p.shown.length ≤ sLn)))) = true ∧ r = .str p.shown ∧ ((∃ l, d = .tup l) ∨ ∃ l, d = .lst l) := by
    split at g
    · rename_i l
      split at g
      · rename_i p hp
        split at g
        · rename_i hc; cases g; exact ⟨p, hp, hc, rfl, .inl ⟨l, rfl⟩⟩
        · cases g
      · cases g
    · rename_i l
      split at g
      · rename_i p hp
        split at g
        · rename_i hc; cases g; exact ⟨p, hp, hc, rfl, .inr ⟨l, rfl⟩⟩
        · cases g
      · cases g
    · cases g
  obtain ⟨p, hp, hc, rfl, hd⟩ := key
  simp only [Bool.and_eq_true, Bool.not_eq_true', decide_eq_true_eq] at hc
  obtain ⟨c1, c2, c3, c4⟩ := hc
  obtain ⟨v, rfl, hv⟩ := paired1 hx
  obtain ⟨u, rfl, ru⟩ := rv.one
  have href : ∃ a, v = .ref a := by
    rcases hd with ⟨l, rfl⟩ | ⟨l, rfl⟩
    · obtain ⟨a, _, e, _⟩ := hv.tup; exact ⟨a, e⟩
    · obtain ⟨a, _, e, _⟩ := hv.lst; exact ⟨a, e⟩
  obtain ⟨a, rfl⟩ := href
  obtain ⟨as, rd⟩ := Dp.reads I p _ u (hv.dp hp) ru
  have ru0 := ru
  obtain rfl : u = Value.ref a := ru0
  refine repr_of_reads' rd c1 (fun z => by rw [c2] at z; cases z) gd (by omega) (fun b o z => z) (fun h' tk0 tk hk => ?_) (by rw [← sLn_eq]; exact c4)
  exact ⟨.str p.shown, H, I.kept hk, ⟨_, rfl⟩, q _ H Ext.rfl rfl⟩
/-- repr of an instance with a def of its own -/
def rReprI (F : Fx) (c n : Nat) (g : FG) : List V → Hp → VK → Prop := fun vs H Q => ∃ a dx fs, vs = [V.ref a] ∧ H a = some (.ins (F.T.ad c) dx fs) ∧ spD F.K F.T n g [V.ref a] H fun v H' => ∃ z : Str, v = .str z ∧ Q (.str z) H'
theorem cd_reprI {c k : Nat} {f : Addr} {fd : FuncData} {ps : List Str} {g : FG} (hK : F.K = X.K) (hs : Sp1 X.K (F.T.ad c) "__repr__" f) (Fn : FnOk X.prog X.w X.K X.mg X.base CX0 k f fd ps (spO X.K F.T ps.length g)) (hr : Room (k + 1) X.A) (hb : Binds X.K fd ps []) : CallR X (.builtin "repr") (rReprI F c ps.length g) := by
  obtain ⟨K, T, M0, pa, H0⟩ := F
  cases hK
  intro pins s σ H xs us Q I rv h
  obtain ⟨a, dx, fs, rfl, ha, sp⟩ := h
  obtain ⟨u, rfl, ru⟩ := rv.one
  have ru0 := ru
  obtain rfl : u = Value.ref a := ru0
  obtain ⟨mA, O, _⟩ := ins_get I.hok ha
  obtain ⟨od, J, _⟩ := O.look
  obtain ⟨m, fr⟩ := I.fr
  refine PySem.W.repr_K (by have := hr.units; show X.A.units + 1 < cLine; omega) fr I.ok.mod.kin J hs.at_ hs.fn (wpAny_mono (run_in1 Fn hr hb I (vs := [V.ref a]) (.cons ru .nil) sp) ?_ fun _ _ z => z)
  rintro u s2 ⟨v, H2, I2, r2, z, rfl, q⟩
  obtain ⟨t, rfl⟩ := r2
  exact ⟨.str z, H2, I2, ⟨_, rfl⟩, q⟩
def fReprI (c : Nat) (g : FG) (fo : FE) : FE := fun ρ => match fMeth c g [] fo fNil ρ with
  | some (.dat (.str z), ρ1) => some (.dat (.str z), ρ1)
  | _ => none
variable {x : Str} {p pos : Pos} {e : Expr} {fo : FE} {c j k : Nat} {f : Addr} {ps : List Str} {g : FG} {T : Cl}
theorem de_reprI (hK : F.K = X.K) (hT : F.T = T) (hs : Sp1 X.K (T.ad c) "__repr__" f) (D1 : Def1 X.prog X.w X.K X.mg X.base T j f ps g) (hr : Room k X.A) (hjk : j + 1 ≤ k) (hn : 1 = ps.length)
    (hg : Gl X x) (hm : X.mg x = none) (hv : bootBuiltins x = some (.builtin "repr")) (ho : PE X e (TEd F fo)) (hnm : x ≠ "__name__") (hdb : (x == ("__debug__" : Str)) = false)
    (he : starEach [e] X.env = (false, eval e X.env) :: starEach [] X.env) (hpl : (backTo pos (starEach [] X.env)).any (·.1) = false) : PE X (.Call (.Name x p) [e] [] pos) (TEd F (fReprI c g fo)) := by
  subst hT
  obtain ⟨⟨fd, hb, Fn⟩, kp⟩ := D1
  refine PE.imp (pe_callB (cd_reprI hK hs Fn (hr.mono hjk) hb) hg hm hv (pa_cons ho pa_nil he) hnm hdb he hpl) ?_
  rintro σ H Q ⟨M, ρ, r, ρ', R, hf, q⟩
  unfold fReprI at hf
  split at hf
  case h_2 => cases hf
  case h_1 z ρ1 e1 =>
  cases hf
  obtain ⟨o, ρ0, ds, h1, h2, h3⟩ := meth1 e1
  refine one_read ⟨M, ρ, o, ρ0, R, h1, fun v M1 H1 s1 R1 k1 ok1 => ?_⟩
  obtain ⟨a, dx, xs, rfl, ha, hl', dv⟩ := (R1.opd ok1 h2).ins
  refine ⟨a, dx, _, rfl, ha, call_core (dvs := []) (dss := []) (os := [o]) (vs := [V.ref a]) (by simpa using hn) (fun _ _ => rfl) h3 R1 (.cons ok1 .nil) fun v H3 R3 k3 ok3 => ?_⟩
  cases (show v = .str z from ok3)
  exact ⟨z, rfl, q _ M1 H3 s1 R3 (k1.trans (k3.mono s1)) rfl⟩
/-- a class's constant, read at an instance -/
def fCon (c : Nat) (d : D) (fo : FE) : FE := fun ρ => match fo ρ with
  | none => none
  | some (o, ρ1) => match insOf (o.get ρ1) with
    | some (c', _) => if c' = c then some (.dat d, ρ1) else none
    | none => none
theorem de_con {d : D} {v : V} {u : Value} {m : Str} (hK : F.K = X.K) (hT : F.T = T) (ck : CK X.K F.T c) (hc : Con X.K (T.ad c) m v u) (hm : m ∉ F.T.fl c) (hd : ∀ M H, Dv F.K F.T M H d v) (ho : PE X e (TEd F fo)) (hb : attributeBase e m X.env (eval e X.env) = eval e X.env) : PE X (.Attribute e m pos) (TEd F (fCon c d fo)) := by
  subst hT
  obtain ⟨K, T, M0, pa, H0⟩ := F
  cases hK
  refine PE.imp (pe_con ho hb) ?_
  rintro σ H Q ⟨M, ρ, r, ρ', R, hf, q⟩
  unfold fCon at hf
  cases e1 : fo ρ with
  | none => rw [e1] at hf; cases hf
  | some p1 =>
    obtain ⟨o1, ρ1⟩ := p1
    rw [e1] at hf
    simp only at hf
    cases e2 : insOf (o1.get ρ1) with
    | none => rw [e2] at hf; cases hf
    | some p2 =>
      obtain ⟨c', ds⟩ := p2
      rw [e2] at hf
      simp only at hf
      split at hf
      case isFalse => cases hf
      case isTrue hcc =>
      subst hcc
      cases hf
      refine ⟨M, ρ, o1, _, R, e1, fun w M1 H1 s1 R1 k1 ok1 => ?_⟩
      obtain ⟨a, dx, xs, rfl, ha, hl, dv⟩ := (R1.opd ok1 (insOf_some e2)).ins
      exact ⟨a, _, dx, _, v, u, rfl, ha, ck.cls, hc, zip_nolook hm, q v M1 H1 s1 R1 k1 (hd M1 H1)⟩
end
/-! ### f-strings -/
def strOfD : D → Option Str
  | .str y => if y.length ≤ sLn then some y else none
  | .int i => if i.natAbs.log2 < 1920 then some (toString i) else none
  | _ => none
/-- the parts, from the left -/
abbrev FJ := Str → Ev → Option (Str × Ev)
def jNil : FJ := fun acc ρ => some (acc, ρ)
def jLit (z : Str) (r : FJ) : FJ := fun acc ρ => if (acc ++ z).length ≤ sLn then r (acc ++ z) ρ else none
def jFmt (fe : FE) (r : FJ) : FJ := fun acc ρ => match fe ρ with
  | some (.dat d, ρ1) => match strOfD d with
    | some z => if (acc ++ z).length ≤ sLn then r (acc ++ z) ρ1 else none
    | none => none
  | _ => none
def fJoin (j : FJ) : FE := fun ρ => match j Str.empty ρ with
  | some (z, ρ1) => some (.dat (.str z), ρ1)
  | none => none
def TJd (F : Fx) (j : FJ) (acc : Str) : Sg → Hp → (Str → Hp → Prop) → Prop := fun σ H Q => ∃ M ρ z ρ', ER F M ρ σ H ∧ j acc ρ = some (z, ρ') ∧ ∀ M' H', (∀ a, M' a → M a) → ER F M' ρ' σ H' → Keep M H H' → Q z H'
structure JOk (X : Cx) (F : Fx) (es : List Expr) (j : FJ) : Prop where
  ex : ∃ ts, PJ X es ts ∧ ∀ acc σ H Q, TJd F j acc σ H Q → tJs ts acc σ H Q
section
variable {X : Cx} {F : Fx} {es : List Expr} {r : FJ} {e : Expr} {fe : FE} {pos : Pos}
theorem jd_nil : JOk X F [] jNil := ⟨[], .nil, fun acc σ H Q ⟨M, ρ, z, ρ', R, hf, q⟩ => by
  cases hf
  exact q M H (fun _ z => z) R Keep.rfl⟩
theorem jd_lit {z : Str} {k : Nat} (h : JOk X F es r) : JOk X F (.Constant (.str z) k pos :: es) (jLit z r) := by
  obtain ⟨ts, h1, h2⟩ := h
  refine ⟨_ :: ts, .cons pe_str h1, fun acc σ H Q ⟨M, ρ, y, ρ', R, hf, q⟩ => ?_⟩
  unfold jLit at hf
  split at hf
  · rename_i hz
    exact ⟨z, rfl, by rw [← sLn_eq]; exact hz, h2 _ σ H Q ⟨M, ρ, y, ρ', R, hf, q⟩⟩
  · cases hf
theorem jd_fmt (he : PE X e (TEd F fe)) (h : JOk X F es r) : JOk X F (.FormattedValue e (-1) none pos :: es) (jFmt fe r) := by
  obtain ⟨ts, h1, h2⟩ := h
  refine ⟨_ :: ts, .cons (pe_fmt he) h1, fun acc σ H Q ⟨M, ρ, y, ρ', R, hf, q⟩ => ?_⟩
  unfold jFmt at hf
  split at hf
  case h_2 => cases hf
  case h_1 d ρ1 e1 =>
  cases e2 : strOfD d with
  | none => rw [e2] at hf; cases hf
  | some z =>
    rw [e2] at hf
    simp only at hf
    split at hf
    case isFalse => cases hf
    case isTrue hz =>
    refine ⟨M, ρ, _, ρ1, R, e1, fun v M1 H1 s1 R1 k1 ok1 => ?_⟩
    have fin : ∃ y' : Str, V.str z = .str y' ∧ (acc ++ y').length ≤ sizeLine ∧ tJs ts (acc ++ y') σ H1 Q :=
      ⟨z, rfl, by rw [← sLn_eq]; exact hz, h2 _ σ H1 Q ⟨M1, ρ1, y, ρ', R1, hf, fun M2 H2 s2 R2 k2 => q M2 H2 (fun a t => s1 a (s2 a t)) R2 (k1.trans (k2.mono s1))⟩⟩
    unfold strOfD at e2
    split at e2
    · rename_i y0
      split at e2
      · rename_i hy
        cases e2
        exact .inl ⟨z, ok1, by rw [← sLn_eq]; exact hy, fin⟩
      · cases e2
    · rename_i i
      split at e2
      · rename_i hi
        cases e2
        exact .inr ⟨i, ok1, hi, fin⟩
      · cases e2
    · cases e2
theorem de_join {v1 v2 : Expr} {rest : List Expr} {j : FJ} (h : JOk X F (v1 :: v2 :: rest) j) : PE X (.JoinedStr (v1 :: v2 :: rest) pos) (TEd F (fJoin j)) := by
  obtain ⟨ts, h1, h2⟩ := h
  refine PE.imp (pe_joined h1) fun σ H Q ⟨M, ρ, o, ρ', R, hf, q⟩ => ?_
  unfold fJoin at hf
  split at hf
  · rename_i z ρ1 e1
    cases hf
    exact h2 _ σ H _ ⟨M, ρ, z, _, R, e1, fun M' H' s' R' k' => q _ M' H' s' R' k' rfl⟩
  · cases hf
end
end SC

set_option Elab.async false
set_option linter.all false
set_option maxRecDepth 100000
namespace SC
open PySem PySem.Spec PyProof.Rows L2

/-! ### defs with nothing being shown around them -/
structure DefG (P : Program) (w : World) (K : PySem.W.Frag) (mg : Str → Option Value) (base : Heap) (T : Cl) (k : Nat) (f : Addr) (ps : List Str) (g : FG) : Prop where
  ex : ∃ fd, Binds K fd ps [] ∧ FnG P w K mg base k f fd ps (spD K T ps.length g)
  kp : PySem.W.keepIn K (.ref f) = true
theorem Def1.toG {P : Program} {w : World} {K : PySem.W.Frag} {mg : Str → Option Value} {base : Heap} {T : Cl} {k : Nat} {f : Addr} {ps : List Str} {g : FG} (h : Def1 P w K mg base T k f ps g) : DefG P w K mg base T k f ps g := by
  obtain ⟨⟨fd, h1, h2⟩, h3⟩ := h
  exact ⟨⟨fd, h1, FnG.ofOk h2⟩, h3⟩
theorem DefG.T {P : Program} {w : World} {K : PySem.W.Frag} {mg : Str → Option Value} {base : Heap} {T : Cl} {k : Nat} {f : Addr} {ps : List Str} {g : FG} {F : Fx} (h : DefG P w K mg base T k f ps g) (hT : F.T = T) : DefG P w K mg base F.T k f ps g := by rw [hT]; exact h
theorem FunD.defG {P : Program} {w : World} {K : PySem.W.Frag} {mg : Str → Option Value} {base : Heap} {T : Cl} {k : Nat} {f : Addr} {fd : FuncData} {name qual : Str} {params : Arguments} {body : List Stmt} {scope : Scope} {N ps : List Str} {asg : List Nat} {fb : FB}
    (Fd : FunD K name qual params body scope [] [] f fd) (S : FnScope N ps scope)
    (hb : ∀ (kV doc pm : Value) (an : Option Addr) (cdv ct : Value) (us : List Value), us.length = ps.length → bindArgs (PySem.W.fnOf name qual params body scope .none kV doc pm an cdv ct) ⟨us, []⟩ = pure (ps.zip us))
    (go : ∀ (cdv : Value) (A : Around) (outer : List Env) (s : Shared) (H : Hp) (E : XK), Room k (A.deeper (envOfC qual scope s.heap.objs.size f cdv)) → A.guards = some [] → ∀ F : Fx, F.K = K → F.T = T → PaOk F ps.length asg →
      PSs (bodyCx P w K mg base N qual scope f cdv A outer s H E) body (TSd F fb)) : DefG P w K mg base T (k + 1) f ps (fnD N.length asg fb) := by
  have hbn := Fd.bindsN hb
  obtain ⟨oc, od, dV, kV, doc, pm, an, cdv, ct, osl, rfl, lk, hcd, _, _⟩ := Fd.ex
  exact ⟨⟨_, hbn, FnG.ofD lk hcd S (go cdv)⟩, Fd.kp⟩
section
variable {X : Cx} {F : Fx} {j k : Nat} {f : Addr} {ps : List Str} {g : FG} {x : Str} {p pos : Pos} {e : Expr} {es : List Expr} {fa : FA} {n : Nat}
theorem de_callG (hK : F.K = X.K) (D1 : DefG X.prog X.w X.K X.mg X.base F.T j f ps g) (gd : X.A.guards = some []) (hr : Room k X.A) (hjk : j ≤ k) (hg : Gl X x) (hm : X.mg x = some (.ref f)) (ha : PA X (e :: es) (TAd F fa)) (hl : FaLen fa n) (hn : n = ps.length) (hdb : (x == ("__debug__" : Str)) = false)
    (he : starEach (e :: es) X.env = (false, eval e X.env) :: starEach es X.env) (hpl : (backTo pos (starEach es X.env)).any (·.1) = false) : PE X (.Call (.Name x p) (e :: es) [] pos) (TEd F (fCall g [] fa)) := by
  obtain ⟨⟨fd, hb, Fn⟩, kp⟩ := D1
  exact de_call (dss := []) (dvs := []) hK Fn (hr.mono hjk) gd hg hm kp hb .nil (fun _ _ => rfl) ha hl (by simpa using hn) hdb he hpl
theorem de_callG0 (hK : F.K = X.K) (D1 : DefG X.prog X.w X.K X.mg X.base F.T j f ps g) (gd : X.A.guards = some []) (hr : Room k X.A) (hjk : j ≤ k) (hg : Gl X x) (hm : X.mg x = some (.ref f)) (hn : 0 = ps.length) (hdb : (x == ("__debug__" : Str)) = false) : PE X (.Call (.Name x p) [] [] pos) (TEd F (fCall g [] fNil)) := by
  obtain ⟨⟨fd, hb, Fn⟩, kp⟩ := D1
  exact de_call0 (dss := []) (dvs := []) hK Fn (hr.mono hjk) gd hg hm kp hb .nil (fun _ _ => rfl) (by simpa using hn) hdb
end
theorem bt_repr : bootBuiltins "repr" = some (.builtin "repr") := by decide +kernel
/-- a def that promises nothing -/
theorem Def1.zero {P : Program} {w : World} {K : PySem.W.Frag} {mg : Str → Option Value} {base : Heap} {T : Cl} {k : Nat} {f : Addr} {fd : FuncData} {name qual : Str} {params : Arguments} {body : List Stmt} {scope : Scope} {ps : List Str}
    (Fd : FunD K name qual params body scope [] [] f fd)
    (hb : ∀ (kV doc pm : Value) (an : Option Addr) (cdv ct : Value) (us : List Value), us.length = ps.length → bindArgs (PySem.W.fnOf name qual params body scope .none kV doc pm an cdv ct) ⟨us, []⟩ = pure (ps.zip us)) : Def1 P w K mg base T k f ps fun _ => none :=
  ⟨⟨fd, Fd.bindsN hb, ⟨fun vs H Q E h => h.1, fun A outer s H args us vs Q E hr e0 hb' rv ⟨_, _, _, _, _, _, z, _⟩ => by cases z⟩⟩, Fd.kp⟩

/-! ### the law's end -/
theorem law_callG {P : Program} {w : World} {K : PySem.W.Frag} {mg mb : Str → Option Value} {k : Nat} {fa a : Addr} {fd : FuncData} {x : Str} {sp : SpG} {sh : Shared} {vs : List Value} {ns : List Int}
    (kin : K.In sh.heap) (gl : sh.heap.Ns mainGlobals mg) (bl : sh.heap.Ns builtinsNs mb) (bb : ∀ x : Str, x ≠ "__name__" → mb x = bootBuiltins x) (nolim : sh.heap.NoLimit) (nogen : sh.gens = #[])
    (ha : sh.heap.get? a = some { cls := .type "list", data := .seq vs.toArray }) (allInts : IntsAre vs ns) (few : ns.length ≤ sizeLine) (hr : Room k callerA)
    (Fn : ∀ base : Heap, K.In base → base.Ns mainGlobals mg → FnG P w K mg base k fa fd [x] sp) (bind : ∀ (s : Shared) (u : Value), BindsTo s fd ⟨[u], []⟩ [(x, u)])
    (hsp : ∀ H : Hp, SqF K H a (ns.map V.int) → sp [.ref a] H fun v _ => v = .bl true) :
    codeAny (model P w) callerA (.call (.ref fa) ⟨[.ref a], []⟩) (fun r s' => r = .ok (.ret (.bool true)) ∧ OldK sh.heap s'.heap ∧ s'.os = sh.os ∧ AllBare s'.gens) sh := by
  have vl := vals_ints allInts
  have len := allInts.length
  -- the abstract heap: the script alone, where it is none of the written part
  obtain ⟨H, h1, h2, h3, h4⟩ : ∃ H : Hp, SqF K H a (ns.map V.int) ∧ HOk P w H sh.heap ∧ (∀ b, H b = none ∨ (b = a ∧ ∃ o u, H b = some (.frz o u))) ∧ (H a ≠ none → K.lookup a = none) := by
    cases lk : K.lookup a with
    | some o =>
      refine ⟨fun _ => none, .inr ⟨o, ?_⟩, fun b u z => (by cases z), fun b => .inl rfl, fun z => absurd rfl z⟩
      have e := kin a o lk
      rw [ha] at e
      cases e
      exact ⟨vs.toArray, _, lk, rfl, rfl, rfl, by rw [List.size_toArray, len]; exact few, by simpa using vl⟩
    | none =>
      let o : Obj := { cls := .type "list", data := .seq vs.toArray }
      refine ⟨upd (fun _ => none) a (.frz o (.lst (ns.map V.int))), .inl ⟨o, upd_same⟩, fun b u z => ?_, fun b => ?_, fun _ => rfl⟩
      · by_cases e : b = a
        · subst e
          rw [upd_same] at z
          cases z
          exact ⟨ha, by rw [List.length_map]; exact few, vs, _, vl, ha⟩
        · rw [upd_ne e] at z; cases z
      · by_cases e : b = a
        · subst e; exact .inr ⟨rfl, _, _, upd_same⟩
        · exact .inl (upd_ne e)
  have dictFree : ∀ {b : Addr} {o : Obj} {es : Array DictEntry} {n : Nat}, sh.heap.get? b = some o → o.data = .dict es n → H b = none := fun {b o es n} e d => by
    rcases h3 b with z | ⟨rfl, _⟩
    · exact z
    · rw [ha] at e
      cases e
      cases (show Data.seq vs.toArray _ = Data.dict es n from d)
  have space : ∀ {b : Addr} {m : Str → Option Value}, sh.heap.Ns b m → (hidT sh.heap H).Ns b m := fun {b m} ⟨o, es, n, e, d, r⟩ => ⟨o, es, n, hidT_get e (dictFree e d), d, r⟩
  have kb : K.In (hidT sh.heap H) := fun b o e => by
    refine hidT_get (kin b o e) ?_
    rcases h3 b with z | ⟨rfl, _, _, z⟩
    · exact z
    · rw [h4 (by rw [z]; exact fun q => by cases q)] at e; cases e
  have env : Env0 P w K mg (hidT sh.heap H) callerA [] sh H := by
    refine ⟨rfl, ⟨kb, space gl, ⟨mb, space bl, bb⟩, ?_⟩, fun b o e => of_hidT e, Nat.le_of_eq (hidT_size _ _), trivial, fun b z => (by cases z), h2, .of_eq nogen⟩
    obtain ⟨mc, c1, c2⟩ := nolim
    exact ⟨mc, space c1, c2⟩
  refine codeAny_mono ((Fn _ kb (space gl)).run callerA [] sh H ⟨[.ref a], []⟩ [.ref a] [.ref a] _ hr rfl env (bind sh (.ref a)) (.cons rfl .nil) (hsp H h1)) ?_
  rintro r s2 ⟨u, rfl, v, H2, os, bare, un, ok2, ru, ev⟩
  have ev' : v = .bl true := ev
  subst ev'
  obtain rfl : u = Value.bool true := ru
  refine ⟨rfl, OldK.of_keep fun b o e => ?_, os, bare⟩
  rcases h3 b with z | ⟨_, ob, q, z⟩
  · exact un.keep b o e z (fun y => by cases y) (fun y => by cases y)
  · have c1 : sh.heap.get? b = some ob := (h2 b _ z).1
    have c2 : s2.heap.get? b = some ob := (ok2 b _ (un.frzs b ob _ z)).1
    rw [c1] at e
    cases e
    exact c2
theorem walk_G {l : PySem.W.OpenLaw} {n k : Nat} {q : Program} {loose : List Str} {XP : (Str → Option Value) → Heap → Prop} {YP : World → Heap → Prop} {d : DefRec} {x : Str}
    (hn : l.most = some n) (hn2 : n ≤ sizeLine) (hdf : d.params.defaults = []) (hr : Room k callerA)
    (Fn : ∀ (w : World) (mg : Str → Option Value) (fa : Addr) (h : Heap), YP w h → h.Ns mainGlobals mg → mg d.name = some (.ref fa) →
      ∃ (K : PySem.W.Frag) (fd : FuncData) (sp : SpG), K.In h ∧ (∀ (s : Shared) (u : Value), BindsTo s fd ⟨[u], []⟩ [(x, u)]) ∧
        (∀ (H : Hp) (a : Addr) (ns : List Int), ns.length ≤ n → SqF K H a (ns.map V.int) → LamX.Tabs [] H → sp [.ref a] H fun v _ => v = .bl true) ∧
        ∀ base : Heap, K.In base → base.Ns mainGlobals mg → FnG l.prog w K mg base k fa fd [x] sp) :
    PySem.W.WalkO q loose XP YP l.row.toRowW d [] (fun f vs => PySem.call f vs) := by
  refine Att.attach_call hn hdf fun w s₀ s₁ mg mb fa o pm cd doc a vs ns G Y ho hd hcd hmg hobj hints hlen hg => ?_
  obtain ⟨K, fd, sp, kin, hb, hsp, hF⟩ := Fn w mg fa _ Y G.T.g hmg
  exact law_callG kin G.T.g G.T.b G.T.builtins G.T.nolimit hg hobj hints (Nat.le_trans hlen hn2) hr hF hb fun H hS => hsp H a ns hlen hS (fun p hp => by cases hp)
theorem FunD.fnG {P : Program} {w : World} {K : PySem.W.Frag} {mg : Str → Option Value} {base : Heap} {T : Cl} {k : Nat} {f : Addr} {fd : FuncData} {name qual : Str} {params : Arguments} {body : List Stmt} {scope : Scope} {N ps : List Str} {asg : List Nat} {fb : FB}
    (Fd : FunD K name qual params body scope [] [] f fd) (S : FnScope N ps scope)
    (go : ∀ (cdv : Value) (A : Around) (outer : List Env) (s : Shared) (H : Hp) (E : XK), Room k (A.deeper (envOfC qual scope s.heap.objs.size f cdv)) → A.guards = some [] → ∀ F : Fx, F.K = K → F.T = T → PaOk F ps.length asg →
      PSs (bodyCx P w K mg base N qual scope f cdv A outer s H E) body (TSd F fb)) : FnG P w K mg base (k + 1) f fd ps (spD K T ps.length (fnD N.length asg fb)) := by
  obtain ⟨oc, od, dV, kV, doc, pm, an, cdv, ct, osl, rfl, lk, hcd, _, _⟩ := Fd.ex
  exact FnG.ofD lk hcd S (go cdv)
/-- the law's promise at the script -/
theorem law_sp {K : PySem.W.Frag} {T : Cl} {g : FG} {H : Hp} {a : Addr} {ns : List Int} (h : ∃ o, g [.dat (.scr ns)] = some (.bl true, o)) (sq : SqF K H a (ns.map V.int)) (ts : LamX.Tabs T.tl H) : spD K T 1 g [.ref a] H fun v _ => v = .bl true := by
  obtain ⟨o, h⟩ := h
  exact ⟨rfl, fun _ => False, [.dat (.scr ns)], .bl true, o, se_data (ds := [.scr ns]) (vs := [.ref a]) ⟨fun _ z => z.elim, ts⟩ (DvS.cons ⟨a, rfl, sq⟩ DvS.nil), h, fun v H' _ _ dv => dv⟩
end SC

set_option Elab.async false
set_option linter.all false
set_option maxRecDepth 100000
namespace SC
open PySem PySem.Spec PyProof.Rows L2

/-! ### more single facts, told by Bools -/
theorem clsB_ok {K : PySem.W.Frag} {T : Cl} {c : Nat} {x : Str} {fl : List Str} (h : clsB x fl K = true) (ha : T.ad c = He.ga K x) (hf : T.fl c = fl) (nd : fl.Nodup) (few : fl.length < 1000) : CK K T c := by
  obtain ⟨h1, h2⟩ := Bool.and_eq_true_iff.mp (show (_ && _) = true from h)
  refine ⟨by rw [ha]; exact He.cls_ok h1, by rw [hf]; exact nd, fun f hm => ?_, by rw [hf]; exact few⟩
  rw [ha]
  rw [hf] at hm
  exact He.noat_ok (List.all_eq_true.mp h2 f hm)
theorem callOB_ok {K : PySem.W.Frag} {x : Str} (h : callOB x K = true) : StX.CallO K (He.ga K x) (He.ma K (He.ga K x) "__call__") := by
  obtain ⟨h1, h2⟩ := Bool.and_eq_true_iff.mp (show (_ && _) = true from h)
  obtain ⟨h3, h4⟩ := Bool.and_eq_true_iff.mp h2
  exact ⟨of_decide_eq_true h1, h3, h4⟩
theorem tyB_ok {K : PySem.W.Frag} {x : Str} (h : tyB x K = true) : TyC K (He.ga K x) := by
  obtain ⟨h1, h2⟩ := Bool.and_eq_true_iff.mp (show (_ && _) = true from h)
  obtain ⟨h3, h4⟩ := Bool.and_eq_true_iff.mp h2
  obtain ⟨h5, h6⟩ := Bool.and_eq_true_iff.mp h4
  exact ⟨of_decide_eq_true h1, of_decide_eq_true h3, of_decide_eq_true h5, of_decide_eq_true h6⟩
theorem iscB_ok {K : PySem.W.Frag} {T : Cl} {x : Str} {cs : List (Nat × Str × Bool)} {kn is : List Nat} (h : iscB x cs K = true) (ha : ∀ p ∈ cs, T.ad p.1 = He.ga K p.2.1) (hk : kn = cs.map (·.1)) (hi : ∀ p ∈ cs, is.contains p.1 = p.2.2) : IsC K T (He.ga K x) kn is := by
  obtain ⟨h1, h2⟩ := Bool.and_eq_true_iff.mp (show (_ && _) = true from h)
  refine ⟨fun t ht => of_decide_eq_true (List.all_eq_true.mp h1 t ht), fun c a dx fs H hc e => ?_⟩
  rw [hk, List.contains_iff_mem] at hc
  obtain ⟨p, hp, rfl⟩ := List.mem_map.mp hc
  obtain ⟨g1, g2⟩ := Bool.and_eq_true_iff.mp (List.all_eq_true.mp h2 p hp)
  obtain ⟨g3, g4⟩ := Bool.and_eq_true_iff.mp g2
  obtain ⟨t1, t2, t3, t4⟩ := tyB_ok g3
  rw [ha p hp] at e
  exact ⟨.ref (He.ga K p.2.1), .base (.ins e (He.cls_ok g1) t1 t2 t3 t4), by rw [hi p hp]; exact of_decide_eq_true g4⟩
theorem tupN_ok {K : PySem.W.Frag} {x : Str} {ns : List Int} (h : tupN x ns K = true) (H : Hp) : SqT K H (He.ga K x) (ns.map V.int) := by
  have := He.tupB_ok h H
  rw [List.map_map] at this
  exact this
end SC

set_option Elab.async false
set_option linter.all false
set_option maxRecDepth 100000
namespace SC
open PySem PySem.Spec PyProof.Rows L2

/-! ### methods of texts, with one argument -/
abbrev SM := Str → D → Option D
def MsD (X : Cx) (F : Fx) (id : String) (g : SM) : Prop := ∃ r, MtR X id r ∧ ∀ (M : Ms) (H : Hp) (z : Str) (v : V) (d y : D) (Q : VK), (∀ b, M b → Mu (H b)) → Do F.K F.T M H d v → g z d = some y → (∀ u H', Ext H H' → Dv F.K F.T M H' y u → Q u H') → r (.str z) [v] H Q
def smStarts : SM := fun z d => match d with
  | .str b => some (.bl (Txt.startswith z b))
  | _ => none
def smEnds : SM := fun z d => match d with
  | .str b => some (.bl (Txt.endswith z b))
  | _ => none
def strsD : List D → Option (List Str)
  | [] => some []
  | .str z :: r => (strsD r).map (z :: ·)
  | _ :: _ => none
theorem strsD_some : ∀ {ds : List D} {zs : List Str}, strsD ds = some zs → ds = zs.map .str
  | [], _, h => by cases h; rfl
  | .str i :: r, ns, h => by
    simp only [strsD, Option.map_eq_some_iff] at h
    obtain ⟨l, h1, rfl⟩ := h
    rw [strsD_some h1]; rfl
  | .non :: _, _, h => by cases h
  | .bl _ :: _, _, h => by cases h
  | .int _ :: _, _, h => by cases h
  | .tup _ :: _, _, h => by cases h
  | .lst _ :: _, _, h => by cases h
  | .ins _ _ :: _, _, h => by cases h
  | .dic _ _ :: _, _, h => by cases h
  | .scr _ :: _, _, h => by cases h
  | .cl _ :: _, _, h => by cases h
def seqS : D → Option (List Str)
  | .lst ds => strsD ds
  | .tup ds => strsD ds
  | _ => none
def smJoin : SM := fun z d => match seqS d with
  | some ys => if (ys.map (·.length)).sum + ys.length * z.length ≤ 16777216 then some (.str (Txt.join z ys)) else none
  | none => none
def smSplit : SM := fun z d => match d with
  | .str b => if (b.length == 0) = false ∧ z.length + 2 ≤ sLn then some (.lst ((Txt.split z b).map .str)) else none
  | _ => none
section
variable {X : Cx} {F : Fx}
theorem ms_starts : MsD X F "str.startswith" smStarts := ⟨_, mt_startswith, fun M H z v d y Q mm hv hg q => by
  unfold smStarts at hg
  split at hg
  · rename_i b
    cases hg
    exact ⟨z, b, rfl, by rw [hv.str], q _ H Ext.rfl rfl⟩
  · cases hg⟩
theorem ms_ends : MsD X F "str.endswith" smEnds := ⟨_, mt_endswith, fun M H z v d y Q mm hv hg q => by
  unfold smEnds at hg
  split at hg
  · rename_i b
    cases hg
    exact ⟨z, b, rfl, by rw [hv.str], q _ H Ext.rfl rfl⟩
  · cases hg⟩
theorem ms_join (hK : F.K = X.K) : MsD X F "str.join" smJoin := ⟨_, mt_join, fun M H z v d y Q mm hv hg q => by
  unfold smJoin at hg
  cases e : seqS d with
  | none => rw [e] at hg; cases hg
  | some ys =>
    rw [e] at hg
    simp only at hg
    split at hg
    case isFalse => cases hg
    case isTrue hz =>
    cases hg
    unfold seqS at e
    split at e
    · rename_i ds
      obtain ⟨a, xs, rfl, ha, dv⟩ := hv.lst
      rw [strsD_some e] at dv
      have ex := dv.strs
      subst ex
      exact ⟨z, a, ys, rfl, rfl, .inl (SqL.of ha), hz, q _ H Ext.rfl rfl⟩
    · rename_i ds
      obtain ⟨a, xs, rfl, ha, dv⟩ := hv.tup
      rw [strsD_some e] at dv
      have ex := dv.strs
      subst ex
      rw [hK] at ha
      exact ⟨z, a, ys, rfl, rfl, .inr ha, hz, q _ H Ext.rfl rfl⟩
    · cases e⟩
theorem ms_split : MsD X F "str.split" smSplit := ⟨_, mt_split, fun M H z v d y Q mm hv hg q => by
  unfold smSplit at hg
  split at hg
  · rename_i b
    split at hg
    case isFalse => cases hg
    case isTrue hz =>
    cases hg
    refine ⟨z, b, rfl, by rw [hv.str], hz.1, by rw [← sLn_eq]; exact hz.2, fun p hp => ?_⟩
    have np : ¬ M p := fun m => by have := mm p m; rw [hp] at this; exact this
    exact q _ _ (Ext.new hp) (Dv.newLst (DvS.of_strs _) hp np)
  · cases hg⟩
def fSM (g : SM) (fo fe : FE) : FE := fun ρ => match fo ρ with
  | some (.dat (.str z), ρ1) => match fe ρ1 with
    | none => none
    | some (o, ρ2) => match o.get ρ2 with
      | none => none
      | some d => match g z d with
        | some y => some (.dat y, ρ2)
        | none => none
  | _ => none
variable {pos cpos apos : Pos} {o e : Expr} {fo fe : FE} {name : Str} {id : String} {g : SM}
theorem de_sm (slot : Slot "str" name id) (hty : typeOf (.builtin id) = pure (.type "method_descriptor")) (hm : MsD X F id g) (ho : PE X o (TEd F fo)) (ha : PE X e (TEd F fe)) (hbase : attributeBase o name X.env (eval o X.env) = eval o X.env)
    (hfew : ((backTo cpos (starEach [e] X.env)).all (fun x => !x.1) && (backToKw cpos (keywordEach [] X.env)).all (fun x => x.1.isSome)
      && decide (([e] : List Expr).length + ([] : List Keyword).length + (if ([] : List Keyword).isEmpty then 0 else 1) < 30)) = true)
    (hline : (apos.endLine == cpos.line) = true) (hs : starEach [e] X.env = (false, eval e X.env) :: starEach [] X.env) (hplain : (backTo cpos (starEach [] X.env)).any (·.1) = false) :
    PE X (.Call (.Attribute o name apos) [e] [] cpos) (TEd F (fSM g fo fe)) := by
  obtain ⟨r, hr, hsp⟩ := hm
  refine PE.imp (pe_bm PySem.F.plainAttrs_str slot hty hr ho (pa_cons ha pa_nil hs) hbase hfew hline hs hplain) ?_
  rintro σ H Q ⟨M, ρ, r', ρ', R, hf, q⟩
  unfold fSM at hf
  split at hf
  case h_2 => cases hf
  case h_1 z ρ1 e1 =>
  cases e2 : fe ρ1 with
  | none => rw [e2] at hf; cases hf
  | some p2 =>
    obtain ⟨o2, ρ2⟩ := p2
    rw [e2] at hf
    simp only at hf
    cases e3 : o2.get ρ2 with
    | none => rw [e3] at hf; cases hf
    | some d =>
      rw [e3] at hf
      simp only at hf
      cases e4 : g z d with
      | none => rw [e4] at hf; cases hf
      | some y =>
        rw [e4] at hf
        cases hf
        refine ⟨M, ρ, _, ρ1, R, e1, fun x M1 H1 s1 R1 k1 ok1 => ?_⟩
        cases (show x = .str z from ok1)
        refine ⟨rfl, M1, ρ1, o2, _, R1, e2, fun v M2 H2 s2 R2 k2 ok2 => ?_⟩
        exact hsp M2 H2 z v d y Q R2.mm (R2.opd ok2 e3) e4 fun u H3 ex dv => q u M2 H3 (fun a t => s1 a (s2 a t)) (R2.ext ex) (k1.trans ((k2.trans ((ex.keep (M := M2)).mono s2)).mono s1)) dv
end
end SC

set_option Elab.async false
set_option linter.all false
set_option maxRecDepth 100000
namespace SC
open PySem PySem.Spec PyProof.Rows L2

/-! ### sorted, whole numbers -/
section
variable {prog : Program} {w : World} {A : Around} {E : Value → Shared → Prop} {s : Shared}
theorem srt_tup {l : Addr} {o : Obj} {n : Nat} {vs : List Value} {ns : List Int} {Q : Value → Shared → Prop} (ho : s.heap.get? l = some o) (hc : o.cls = .type "tuple") (hd : o.data = .seq vs.toArray n) (hz : vs.length ≤ sizeLine) (hI : IntsAre vs ns)
    (h : ∀ (h' : Heap) (d : Addr) (out : List Value), SrtO.Srtd SrtO.ltIv out → SrtO.Stb SrtO.ltIv out vs → s.heap.get? d = none → (∃ h1 : Heap, (∀ b o, s.heap.get? b = some o → h1.get? b = some o) ∧ h1.objs.size ≤ d) → (∀ b o, s.heap.get? b = some o → h'.get? b = some o) → (∃ n, h'.get? d = some (seqObj "list" out.toArray n)) → Q (.ref d) { s with heap := h' }) :
    wpAny (model prog w) A (call (.builtin "sorted") [.ref l]) Q E s := by
  apply Calls.call_function_entry kind_sorted plain_sorted entry_sorted (args_sorted1 _)
  unfold Builtin.«sorted»
  apply wpAny_bind (m := checkCount "sorted" 1 1 _)
  apply wpAny_pure
  refine wpAny_bind (wpAny_collect_seq l (.inr rfl) ho hc hd (fun h1 kp => ?_) (by rw [List.size_toArray]; exact hz))
  have fresh : s.heap.get? h1.objs.size = none := by
    cases e : s.heap.get? h1.objs.size with
    | none => rfl
    | some o' => exact absurd (Heap.lt_size (kp _ _ e)) (Nat.lt_irrefl _)
  refine wpAny_bind (wpAny_newList ?_ hz)
  have hoL : (h1.push (seqObj "list" vs.toArray 0)).get? h1.objs.size = some (seqObj "list" vs.toArray 0) := Heap.get?_push_size _ rfl
  refine wpAny_bind (wpAny_holding (wpAny_call_entry slot_list_sort ⟨_, hoL, rfl⟩ entry_list_sort (SrtO.list_sort_ord (s := { s with heap := h1.push (seqObj "list" vs.toArray 0) }) SrtO.swo_int hoL hz (fun h2 => SrtO.ints_sortable hI h2) fun out hs hb => ⟨_, rfl, ?_⟩) (args_list_sort _)))
  refine wpAny_pure ⟨_, rfl, h _ _ out hs hb fresh ⟨h1, kp, Nat.le_refl _⟩ (fun b o' e => ?_) (sortedHeap_at hoL)⟩
  have e1 := kp b o' e
  have lt := Heap.lt_size e1
  rw [sortedHeap_old (Nat.ne_of_lt lt) (Heap.lt_size (Heap.get?_push_of_some _ e1))]
  exact Heap.get?_push_of_some _ e1
end
def rSrtT (K : PySem.W.Frag) : List V → Hp → VK → Prop := fun vs H Q => ∃ (a : Addr) (ns : List Int), vs = [V.ref a] ∧ SqT K H a (ns.map V.int) ∧
  ∀ (ns' : List Int) (p : Addr), ns'.Perm ns → ns'.Pairwise (· ≤ ·) → H p = none → Q (.ref p) (upd H p (.lst (ns'.map V.int)))
section
variable {X : Cx} {F : Fx}
theorem cr_sortT : CallR X (.builtin "sorted") (rSrtT X.K) := by
  intro pins s σ H vs us Q I r h
  obtain ⟨a, ns, rfl, hs, q⟩ := h
  obtain ⟨its, rv, ⟨o, ho, hc, n, hd⟩, hz⟩ := I.tuple hs
  rw [Vals.ref1 r]
  have hi := rv.ints
  refine srt_tup ho hc hd (by rw [← rv.length]; exact hz) hi fun h' d out h1 h2 fr ⟨hm, km, lm⟩ kp ⟨ep, he⟩ => ?_
  obtain ⟨k1, k2, k3⟩ := SrtO.ints_out hi h1 h2
  have hlen : ((out.map SrtO.iv).map V.int).length ≤ sizeLine := by
    have := k2.length_eq
    simp only [List.length_map] at this hz ⊢
    omega
  have hn : H d = none := (I.hok.kept km).fresh lm
  exact ⟨.ref _, upd H d (.lst ((out.map SrtO.iv).map V.int)), I.laidN (t' := s.toks) kp fr hn ⟨hlen, out, ep, vals_of_ints k1, he⟩, rfl, q _ _ k2 k3 hn⟩
/-- sorted(..), whole numbers of a list or a tuple -/
def insI (i : Int) : List Int → List Int
  | [] => [i]
  | j :: r => if i ≤ j then i :: j :: r else j :: insI i r
def srtI : List Int → List Int
  | [] => []
  | i :: r => insI i (srtI r)
theorem insI_perm (i : Int) : ∀ ns, (insI i ns).Perm (i :: ns)
  | [] => .refl _
  | j :: r => by
    unfold insI
    split
    · exact .refl _
    · exact (List.Perm.cons j (insI_perm i r)).trans (List.Perm.swap i j r)
theorem insI_ord (i : Int) : ∀ {ns : List Int}, ns.Pairwise (· ≤ ·) → (insI i ns).Pairwise (· ≤ ·)
  | [], _ => List.pairwise_singleton _ _
  | j :: r, h => by
    obtain ⟨h1, h2⟩ := List.pairwise_cons.mp h
    unfold insI
    split
    · rename_i hl
      exact List.pairwise_cons.mpr ⟨fun a m => (List.mem_cons.mp m).elim (fun e => e ▸ hl) fun m => Int.le_trans hl (h1 a m), h⟩
    · rename_i hl
      refine List.pairwise_cons.mpr ⟨fun a m => ?_, insI_ord i h2⟩
      rcases List.mem_cons.mp ((insI_perm i r).mem_iff.mp m) with e | m
      · subst e; omega
      · exact h1 a m
theorem srtI_perm : ∀ ns, (srtI ns).Perm ns
  | [] => .refl _
  | i :: r => (insI_perm i _).trans (List.Perm.cons i (srtI_perm r))
theorem srtI_ord : ∀ ns, (srtI ns).Pairwise (· ≤ ·)
  | [] => .nil
  | i :: r => insI_ord i (srtI_ord r)
def dSorted : List D → Option D
  | [.lst ds] => (allI ds).map fun (ns : List Int) => D.lst ((srtI ns).map D.int)
  | [.tup ds] => (allI ds).map fun (ns : List Int) => D.lst ((srtI ns).map D.int)
  | _ => none
theorem srt_eq {ns ns' : List Int} (p : ns'.Perm ns) (o : ns'.Pairwise (· ≤ ·)) : ns' = srtI ns :=
  List.Perm.eq_of_pairwise (le := (· ≤ ·)) (fun a b _ _ h1 h2 => Int.le_antisymm h1 h2) o (srtI_ord ns) (p.trans (srtI_perm ns).symm)
theorem cd_sorted (hK : F.K = X.K) : CallR X (.builtin "sorted") (rCs F dSorted) := by
  obtain ⟨K, T, M0, pa, H0⟩ := F
  cases hK
  refine CallR.imp (cr_sortedI.or cr_sortT) ?_
  rintro vs H Q ⟨M, ds, r, hm, hx, g, q⟩
  have fin : ∀ (ns ns' : List Int) (p : Addr), ns'.Perm ns → ns'.Pairwise (· ≤ ·) → H p = none → Dv X.K T M (upd H p (.lst (ns'.map V.int))) (.lst ((srtI ns).map D.int)) (.ref p) := fun ns ns' p e1 e2 hp => by
    rw [srt_eq e1 e2]
    exact Dv.newLst (DvS.of_ints _) hp fun z => hm p z hp
  match ds, g with
  | [.lst ds], g =>
    obtain ⟨ns, e1, e2⟩ := Option.map_eq_some_iff.mp (show (allI ds).map (fun (ns : List Int) => D.lst ((srtI ns).map D.int)) = some r from g)
    subst e2
    obtain ⟨v, rfl, h⟩ := paired1 hx
    obtain ⟨a, us, rfl, ha, ra⟩ := h.lst
    rw [allI_eq e1] at ra
    rw [ra.ints] at ha
    exact .inl ⟨a, ns, rfl, SqL.of ha, fun ns' p e1 e2 hp => q _ _ (Ext.new hp) (fin ns ns' p e1 e2 hp)⟩
  | [.tup ds], g =>
    obtain ⟨ns, e1, e2⟩ := Option.map_eq_some_iff.mp (show (allI ds).map (fun (ns : List Int) => D.lst ((srtI ns).map D.int)) = some r from g)
    subst e2
    obtain ⟨v, rfl, h⟩ := paired1 hx
    obtain ⟨a, us, rfl, ha, ra⟩ := h.tup
    rw [allI_eq e1] at ra
    rw [ra.ints] at ha
    exact .inr ⟨a, ns, rfl, ha, fun ns' p e1 e2 hp => q _ _ (Ext.new hp) (fin ns ns' p e1 e2 hp)⟩
theorem bt_sorted : bootBuiltins "sorted" = some (.builtin "sorted") := by decide +kernel
end
end SC

set_option Elab.async false
set_option linter.all false
set_option maxRecDepth 100000
namespace SC
open PySem PySem.Spec PyProof.Rows L2

/-! ### + and - of instances -/
structure BinC (K : PySem.W.Frag) (C f : Addr) (op : Operator) : Prop where
  first : PySem.W.selfFirst K C = true
  at_ : PySem.W.findIn K (.ref C) (PySem.dunder op.info.2) = some (some (.ref f))
  fn : PySem.W.isFn K (.ref f) = true
  rc : PySem.W.findIn K (.ref C) (dunderR op.info.2) = some none
  fo : (PySem.W.findIn K (.type "int") (PySem.dunder op.info.2)).isSome = true
  ro : (PySem.W.findIn K (.type "int") (dunderR op.info.2)).isSome = true
  sub : PySem.W.subIn K (.type "int") (.ref C) = some false
theorem binCB_ok {x m : Str} {op : Operator} {K : PySem.W.Frag} (h : binCB x m op K = true) : BinC K (He.ga K x) (He.ma K (He.ga K x) m) op := by
  obtain ⟨a, b⟩ := Bool.and_eq_true_iff.mp (show (_ && _) = true from h)
  obtain ⟨a1, a2⟩ := Bool.and_eq_true_iff.mp a
  obtain ⟨a3, a4⟩ := Bool.and_eq_true_iff.mp a2
  obtain ⟨b1, b2⟩ := Bool.and_eq_true_iff.mp b
  obtain ⟨b3, b4⟩ := Bool.and_eq_true_iff.mp b1
  obtain ⟨b5, b6⟩ := Bool.and_eq_true_iff.mp b2
  exact ⟨a1, of_decide_eq_true a3, a4, of_decide_eq_true b3, b4, b5, of_decide_eq_true b6⟩
def rBinI (F : Fx) (c n : Nat) (g : FG) : R2 := fun x y H Q => ∃ p dx fs, x = V.ref p ∧ H p = some (.ins (F.T.ad c) dx fs) ∧ ((∃ i, y = .int i) ∨ ∃ p' dx' fs', y = V.ref p' ∧ H p' = some (.ins (F.T.ad c) dx' fs')) ∧ spD F.K F.T n g [x, y] H Q
def fBinI (c : Nat) (g : FG) (fa fb : FE) : FE := fun ρ => match fa ρ with
  | some (.dat (.ins c1 ds), ρ1) => if c1 = c then match fb ρ1 with
      | some (.dat (.int i), ρ2) => runG g [] [.dat (.ins c1 ds), .dat (.int i)] ρ2
      | some (.dat (.ins c2 es), ρ2) => if c2 = c then runG g [] [.dat (.ins c1 ds), .dat (.ins c2 es)] ρ2 else none
      | _ => none
    else none
  | _ => none
section
variable {X : Cx} {F : Fx} {pos : Pos} {k c n : Nat} {f : Addr} {fd : FuncData} {ps : List Str} {g : FG} {a b : Expr} {fa fb : FE} {op : Operator}
theorem cb_of {v : V} {r : Value} {Q : Value → Shared → Prop} {s : Shared} (h : RelV v r) (q : Q r s) : PySem.W.CmpBack Q r s := by
  cases v <;> (try (obtain ⟨t, rfl⟩ := h; exact q)) <;> (cases h; exact q)
theorem opd_binI (hK : F.K = X.K) (B : BinC X.K (F.T.ad c) f op) (Fn : FnOk X.prog X.w X.K X.mg X.base CX0 k f fd ps (spO X.K F.T ps.length g)) (hr : Room k X.A) (hb : Binds X.K fd ps []) : OpR X (binaryOp op) (rBinI F c ps.length g) := by
  obtain ⟨K, T, M0, pa, H0⟩ := F
  cases hK
  intro pins s σ H x y v u Q I rx ry h
  obtain ⟨p, dx, fs, rfl, hp, hy, sp⟩ := h
  have rx0 := rx
  obtain rfl : v = Value.ref p := rx0
  obtain ⟨mA, O, _⟩ := ins_get I.hok hp
  obtain ⟨od, J, _⟩ := O.look
  obtain ⟨m, fr⟩ := I.fr
  have run := wpAny_mono (run_fn (dvs := []) (E := fun _ _ _ => False) Fn hr hb .nil passes0 I (vs := [V.ref p, y]) (.cons rx (.cons ry .nil)) sp) (fun r s2 (h : EP X pins σ Q r s2) => by
    obtain ⟨w', H2, I2, r2, q⟩ := h
    exact cb_of r2 (show EP X pins σ Q r s2 from ⟨w', H2, I2, r2, q⟩)) fun _ _ z => z
  rcases hy with ⟨i, rfl⟩ | ⟨p', dx', fs', rfl, hp'⟩
  · obtain ⟨t, rfl⟩ := ry
    obtain ⟨fo, h1⟩ := Option.isSome_iff_exists.mp B.fo
    obtain ⟨ro, h2⟩ := Option.isSome_iff_exists.mp B.ro
    exact PySem.W.ksp_binT (T := "int") fr I.ok.mod.kin J rfl B.first B.at_ B.fn B.rc (.inl rfl) h1 h2 B.sub run
  · have ry0 := ry
    obtain rfl : u = Value.ref p' := ry0
    obtain ⟨mA', O', _⟩ := ins_get I.hok hp'
    obtain ⟨od', J', _⟩ := O'.look
    exact PySem.W.binop_K fr I.ok.mod.kin J J'.type B.first B.at_ B.fn run
theorem binI_read (hn : 2 = ps.length) {σ : Sg} {H : Hp} {Q : VK} (h : TEd F (fBinI c g fa fb) σ H Q) : tOp (rBinI F c ps.length g) (TEd F fa) (TEd F fb) σ H Q := by
  obtain ⟨M, ρ, r, ρ', R, hf, q⟩ := h
  unfold fBinI at hf
  split at hf
  case h_2 => cases hf
  case h_1 c1 ds ρ1 e1 =>
  split at hf
  case isFalse => cases hf
  case isTrue hc =>
  subst hc
  have core : ∀ (d2 : D) (ρ2 : Ev), fb ρ1 = some (.dat d2, ρ2) → runG g [] [.dat (.ins c1 ds), .dat d2] ρ2 = some (r, ρ') → (∀ (M : Ms) (H : Hp) (y : V), Dv F.K F.T M H d2 y → (∃ i, y = .int i) ∨ ∃ p' dx' fs', y = V.ref p' ∧ H p' = some (.ins (F.T.ad c1) dx' fs')) →
      tOp (rBinI F c1 ps.length g) (TEd F fa) (TEd F fb) σ H Q := fun d2 ρ2 e2 e4 hy => by
    refine ⟨M, ρ, _, ρ1, R, e1, fun x M1 H1 s1 R1 k1 ok1 => ⟨M1, ρ1, _, ρ2, R1, e2, fun y M2 H2 s2 R2 k2 ok2 => ?_⟩⟩
    have ok1' : Dv F.K F.T M2 H2 (.ins c1 ds) x := Dv.less s2 _ (Dv.keep k2 R1.mm _ ok1)
    have ok2' : Dv F.K F.T M2 H2 d2 y := ok2
    obtain ⟨p, dx, xs, rfl, nm, hp, hl, dv⟩ := id ok1'
    refine ⟨p, dx, _, rfl, hp, hy M2 H2 y ok2', call_core (dvs := []) (dss := []) (os := [.dat (.ins c1 ds), .dat d2]) (vs := [V.ref p, y]) (by simpa using hn) (fun _ _ => rfl) e4 R2 (.cons ok1' (.cons ok2' .nil)) fun v H3 R3 k3 ok3 => ?_⟩
    exact q _ M2 H3 (fun a z => s1 a (s2 a z)) R3 ((k1.trans (k2.mono s1)).trans (k3.mono fun a z => s1 a (s2 a z))) ok3
  split at hf
  case h_1 i ρ2 e2 => exact core _ ρ2 e2 hf fun M H y h => .inl ⟨i, h⟩
  case h_2 c2 es ρ2 e2 =>
    split at hf
    case isFalse => cases hf
    case isTrue hc =>
      subst hc
      exact core _ ρ2 e2 hf fun M H y h => by
        obtain ⟨p, dx, xs, rfl, nm, hp, hl, dv⟩ := h
        exact .inr ⟨p, dx, _, rfl, hp⟩
  case h_3 => cases hf
theorem de_binI (hK : F.K = X.K) (B : BinC X.K (F.T.ad c) f op) (Fn : FnOk X.prog X.w X.K X.mg X.base CX0 k f fd ps (spO X.K F.T ps.length g)) (hr : Room k X.A) (hb : Binds X.K fd ps []) (hn : 2 = ps.length) (ha : PE X a (TEd F fa)) (hbb : PE X b (TEd F fb)) :
    PE X (.BinOp a op b pos) (TEd F (fBinI c g fa fb)) := PE.imp (pe_op (opd_binI hK B Fn hr hb) ha hbb) fun _ _ _ => binI_read hn
theorem biD {T : Cl} {j : Nat} (hK : F.K = X.K) (hT : F.T = T) (B : BinC X.K (T.ad c) f op) (D1 : Def1 X.prog X.w X.K X.mg X.base T j f ps g) (hr : Room k X.A) (hjk : j ≤ k) (hn : 2 = ps.length) (ha : PE X a (TEd F fa)) (hbb : PE X b (TEd F fb)) : PE X (.BinOp a op b pos) (TEd F (fBinI c g fa fb)) := by
  subst hT
  obtain ⟨⟨fd, hb, Fn⟩, kp⟩ := D1
  exact de_binI hK B Fn (hr.mono hjk) hb hn ha hbb
end
end SC

set_option Elab.async false
set_option linter.all false
set_option maxRecDepth 100000
namespace SC
open PySem PySem.Spec PyProof.Rows L2

/-- enough turns for a loop down to 0 -/
def fuelI (i : Nat) : Ev → Nat := fun ρ => match ρ[i]? with
  | some (.dat (.int b)) => b.natAbs + 1
  | _ => 100000
/-! ### class methods -/
def fCM (c : Nat) (g : FG) (fa : FA) : FE := fun ρ => match fa ρ with
  | some (os, ρ1) => runG g [] (.dat (.cl c) :: os) ρ1
  | none => none
section
variable {X : Cx} {F : Fx} {T : Cl} {k j n c i : Nat} {f pr : Addr} {ps : List Str} {g : FG} {x m : Str} {p pos apos : Pos} {e : Expr} {es : List Expr} {fa : FA} {pl : Sem Bool} {gi : List D → Option (List D)}
theorem cmD (hK : F.K = X.K) (hT : F.T = T) (r : ClX.CRead X.K (T.ad c) (.type "type")) (cm : ClX.CMet X.K (T.ad c) (.type "type") m pr f) (D1 : Def1 X.prog X.w X.K X.mg X.base T j f ps g) (hr : Room k X.A) (hjk : j ≤ k)
    (ho : PE X (.Name x p) (tC (.ref (T.ad c)))) (ha : PA X (e :: es) (TAd F fa)) (hl : FaLen fa n) (hn : n + 1 = ps.length)
    (hst : starEach (e :: es) X.env = (false, eval e X.env) :: starEach es X.env) (hpl : (backTo pos (starEach es X.env)).any (·.1) = false)
    (ht : eval (.Call (.Attribute (.Name x p) m apos) (e :: es) [] pos) X.env = (do
      let ov ← eval (.Name x p) X.env
      standAt apos.atName
      let (f, first) ← holding [ov] (getMethod ov m pl)
      callWith pos f first (backTo pos (starEach (e :: es) X.env)) (backToKw pos (keywordEach [] X.env)))) : PE X (.Call (.Attribute (.Name x p) m apos) (e :: es) [] pos) (TEd F (fCM c g fa)) := by
  subst hT
  obtain ⟨⟨fd, hb, Fn⟩, kp⟩ := D1
  obtain ⟨K, T, M0, pa, H0⟩ := F
  cases hK
  refine PE.imp (ClX.pe_cmeth (E := fun _ _ _ => False) (CX := CX0) ho r cm (FnOk.raw (dvs := []) Fn hb .nil) (hr.mono hjk) passes0 ha hst hpl ht) ?_
  rintro σ H Q ⟨M, ρ, o, ρ', R, hf, q⟩
  unfold fCM at hf
  cases e1 : fa ρ with
  | none => rw [e1] at hf; cases hf
  | some p1 =>
    obtain ⟨os, ρ1⟩ := p1
    rw [e1] at hf
    simp only at hf
    refine ⟨rfl, M, ρ, os, ρ1, R, e1, fun vs M1 H1 s1 R1 k1 ok1 => ?_⟩
    have lo := hl.eq _ _ _ e1
    exact call_core (dvs := []) (dss := []) (os := .dat (.cl c) :: os) (vs := V.ref (T.ad c) :: vs) (by rw [List.length_cons, lo, List.length_nil]; omega) (fun _ _ => rfl) hf R1 (.cons rfl ok1)
      fun v H3 R3 k3 ok3 => q v M1 H3 s1 R3 (k1.trans (k3.mono s1)) ok3
/-- an instance of the class that a parameter holds -/
def fMakeL (i c : Nat) (gi : List D → Option (List D)) (fa : FA) : FE := fun ρ => match ρ[i]? with
  | some (.dat (.cl c')) => if c' = c then fMake c gi fa ρ else none
  | _ => none
theorem pe_makeL {C : Addr} {sp : Sp} {t : TA} (Mk_ : Mk X.K C f) (Fn : FnR X.prog X.w X.K X.mg X.base CX0 k f sp) (hr : Room (k + 1) X.A) (hN : X.N[i]? = some x) (hv : Vis X.env.scope x) (ha : PA X (e :: es) t) (hdb : (x == ("__debug__" : Str)) = false) (hcd : (x == ("__classdict__" : Str)) = false)
    (he : starEach (e :: es) X.env = (false, eval e X.env) :: starEach es X.env) (hst : (backTo pos (starEach es X.env)).any (·.1) = true) : PE X (.Call (.Name x p) (e :: es) [] pos) (fun σ H Q => σ[i]? = some (some (.ref C)) ∧ StX.tMakeR C sp (fun _ _ _ => False) t σ H Q) :=
  ⟨fun pins s σ H Q I h => wpAny_Call_Name_kw (thn ((pe_var (pos := p) hN hv hdb hcd).run pins s σ H (fun v H1 => v = .ref C ∧ H1 = H) I ⟨.ref C, h.1, rfl, rfl⟩) fun u s1 ⟨v, H1, I1, r1, q1⟩ => by
    obtain ⟨rfl, rfl⟩ := q1
    cases r1
    exact PySem.W.callWith_S2 (h₀ := X.base) I1.ok.mod.kin Mk_.kp (thn (ha.run pos pins s1 σ H1 _ I1 h.2) fun us s2 ⟨vs, H2, I2, r, q⟩ => ⟨I2.kIn, StX.run_makeR Mk_ Fn hr passes0 I2 r q⟩) he hst)⟩
theorem mkL (hK : F.K = X.K) (hT : F.T = T) (Mk_ : Mk X.K (T.ad c) f) (Fn : FnR X.prog X.w X.K X.mg X.base CX0 j f (spMk X.K T c gi)) (hr : Room k X.A) (hjk : j + 1 ≤ k) (hN : X.N[i]? = some x) (hv : Vis X.env.scope x) (ha : PA X (e :: es) (TAd F fa)) (hdb : (x == ("__debug__" : Str)) = false) (hcd : (x == ("__classdict__" : Str)) = false)
    (he : starEach (e :: es) X.env = (false, eval e X.env) :: starEach es X.env) (hst : (backTo pos (starEach es X.env)).any (·.1) = true) : PE X (.Call (.Name x p) (e :: es) [] pos) (TEd F (fMakeL i c gi fa)) := by
  subst hT
  refine PE.imp (pe_makeL Mk_ Fn (hr.mono hjk) hN hv ha hdb hcd he hst) ?_
  rintro σ H Q ⟨M, ρ, o, ρ', R, hf, q⟩
  unfold fMakeL at hf
  split at hf
  case h_2 => cases hf
  case h_1 c' e1 =>
  split at hf
  case isFalse => cases hf
  case isTrue hc =>
  subst hc
  refine ⟨?_, make_imp hK ⟨M, ρ, o, ρ', R, hf, q⟩⟩
  obtain ⟨v, g1, w, g2, g3⟩ := R.se.sl i _ e1
  rw [g1, g2, show w = V.ref (F.T.ad c') from g3]
end

/-! ### a, *b = a list -/
section
variable {prog : Program} {w : World} {A : Around} {E : Value → Shared → Prop} {s : Shared} {l : Addr} {x : Value} {r : List Value} {Q : List Value → Shared → Prop}
theorem unp_star (hl : PlainL s.heap l (x :: r).toArray) (hh : A.handled = none) (hz : (x :: r).length ≤ sizeLine)
    (h : ∀ (h' : Heap) (tk : Nat), (∀ b o, s.heap.get? b = some o → h'.get? b = some o) → Q [x, .ref h'.objs.size] { s with heap := h'.push { cls := .type "list", data := .seq r.toArray }, toks := tk }) : wpAny (model prog w) A (unpackItems (.ref l) 2 (some 1)) Q E s := by
  obtain ⟨o, n0, ho, hc, hd, hs⟩ := hl
  have hL : s.heap.IsList l (x :: r).toArray := ⟨o, ho, hc, n0, hs⟩
  have hlt : l < s.heap.objs.size := Heap.lt_size ho
  have hne : l ≠ s.heap.objs.size := Nat.ne_of_lt hlt
  unfold unpackItems notIterableAtAll
  refine wpAny_bind (wpAny_bind (wpAny_specialOf hL.typeIs slot_list_iter.lookup (wpAny_pure ?_)))
  rw [if_neg (by decide)]
  refine wpAny_bind (wpAny_holding (wpAny_pyIter_list hL ?_))
  refine wpAny_bind (wpAny_holding (PySem.W.kun_draw hne 1 0 _ _ ⟨_, Heap.get?_push_size _ rfl, rfl, rfl⟩ (hL.push _) (by simp) fun h1 it1 sm1 => ?_))
  have hL1 : h1.IsList l (x :: r).toArray := (hL.push _).extBut sm1.extBut hne
  obtain ⟨oi, hoi, _⟩ := id it1
  obtain ⟨ol, hol, _⟩ := id hL1
  rw [if_neg (show ¬ (List.take 1 (List.drop 0 (x :: r).toArray.toList)).length < 1 by simp)]
  refine wpAny_bind (wpAny_holding (PySem.W.kun_collect (s := { s with heap := h1 }) (T := "list_iterator") (.inr (.inr (.inl rfl))) (Walks.list (A := A.in1) hh s.heap.objs.size l hne (x :: r).toArray) (fun _ _ st => st.1.typeIs) (k := 1) (by simp) ⟨it1, hL1⟩ (Heap.lt_size hoi) (Heap.lt_size hol) (fun h2 tk k2 => ?_) (by simpa using hz)))
  have kp : ∀ b o, s.heap.get? b = some o → h2.get? b = some o := fun b o e => k2 b o (Nat.ne_of_lt (Heap.lt_size e)) (sm1.extBut b o (Nat.ne_of_lt (Heap.lt_size e)) (Heap.get?_push_of_some _ e))
  show wpAny _ _ (if (List.drop 1 (x :: r).toArray.toList).length < 2 - 1 - 1 then _ else _) _ _ _
  rw [if_neg (show ¬ (List.drop 1 (x :: r).toArray.toList).length < 2 - 1 - 1 by simp)]
  refine wpAny_bind (wpAny_newList ?_ (by simp at hz ⊢; omega))
  refine wpAny_pure ?_
  have := h h2 tk kp
  simpa using this
end
def gStar2 (K : PySem.W.Frag) (t : TGs) : TG := fun v σ H Q => ∃ a x xs, v = V.ref a ∧ SqL K H a (x :: xs) ∧ ∀ p, H p = none → t [x, .ref p] σ (upd H p (.lst xs)) Q
section
variable {X : Cx} {F : Fx} {pos : Pos}
theorem pg_star2 {es es' : List Expr} {k : Nat} {t : TGs} (hc : X.calm = true) (h : PGs X es' t) (he : (assignEach es X.env).map (·.2) = (assignEach es' X.env).map (·.2)) (hn : (assignEach es X.env).length = 2) (hst : (assignEach es X.env).findIdx? (·.1) = some 1) : PG X (.Tuple es k pos) (gStar2 X.K t) := by
  refine ⟨fun pins s σ H v u Q I r hw => ?_⟩
  obtain ⟨a, x, xs, rfl, hq, hw⟩ := hw
  cases r
  obtain ⟨its, rv, hl, hz⟩ := I.list hq
  cases rv with
  | cons r1 rr =>
    rename_i u1 us
    rw [assign_Tuple]
    refine wpAny_bind (wpAny_standAt ?_)
    unfold unpack
    rw [hn, hst, he]
    refine wpAny_bind (wpAny_holding (unp_star hl (I.ok.hd hc) (by have := rr.length; simp at hz ⊢; omega) fun h' tk kp => ?_))
    have I1 : Inv X pins σ H { s with heap := h', toks := tk } := I.kept (t' := tk) kp
    have hz1 : xs.length ≤ sizeLine := by simp at hz; omega
    have I2 := I1.laid (a := h'.objs.size) (o := .lst xs) (t' := tk) (h' := h'.push { cls := .type "list", data := .seq us.toArray }) (fun b u q => Heap.get?_push_of_some _ q) (Nat.le_refl _) ⟨hz1, us, _, rr, Heap.get?_push_size _ rfl⟩
    exact h.run pins _ σ _ _ _ Q I2 (.cons r1 (.cons (show RelV (.ref h'.objs.size) (.ref h'.objs.size) from rfl) .nil)) (hw h'.objs.size (I1.hok.fresh (Nat.le_refl _)))
/-- x, *y = .. -/
def bStar (i j : Nat) (fe : FE) : FB := fun ρ => match fe ρ with
  | some (.dat (.lst (d :: ds)), ρ1) => some (.nx, (ρ1.set i (.dat d)).set j (.dat (.lst ds)))
  | _ => none
theorem ds_star {e : Expr} {fe : FE} {i j k : Nat} {x y : Str} {p1 p2 p3 pt : Pos} (hK : F.K = X.K) (hc : X.calm = true) (he : PE X e (TEd F fe)) (h1 : PG X (.Name x p1) (TGd F (.nm i))) (h2 : PG X (.Name y p2) (TGd F (.nm j)))
    (hi : ∀ a, (i, a) ∉ F.pa) (hj : ∀ a, (j, a) ∉ F.pa)
    (hs : swapsWithSole [.Tuple [.Name x p1, .Starred (.Name y p2) p3] k pt] e pos.line X.env = pure false) (hw : swappedStores [.Tuple [.Name x p1, .Starred (.Name y p2) p3] k pt] e X.env = pure none)
    (ha : (assignEach [.Tuple [.Name x p1, .Starred (.Name y p2) p3] k pt] X.env).map (·.2) = [assign (.Tuple [.Name x p1, .Starred (.Name y p2) p3] k pt) X.env])
    (he2 : (assignEach [.Name x p1, .Starred (.Name y p2) p3] X.env).map (·.2) = (assignEach [.Name x p1, .Name y p2] X.env).map (·.2)) (hn : (assignEach [.Name x p1, .Starred (.Name y p2) p3] X.env).length = 2) (hst : (assignEach [.Name x p1, .Starred (.Name y p2) p3] X.env).findIdx? (·.1) = some 1)
    (g1 : (assignEach [.Name x p1, .Name y p2] X.env).map (·.2) = assign (.Name x p1) X.env :: (assignEach [.Name y p2] X.env).map (·.2)) (g2 : (assignEach [.Name y p2] X.env).map (·.2) = assign (.Name y p2) X.env :: (assignEach [] X.env).map (·.2)) :
    PS X (.Assign [.Tuple [.Name x p1, .Starred (.Name y p2) p3] k pt] e pos) (TSd F (bStar i j fe)) := by
  obtain ⟨K, T, M0, pa, H0⟩ := F
  cases hK
  refine PS.imp (ps_asg he (pg_star2 hc (pgs_cons h1 (pgs_cons h2 pgs_nil g2) g1) he2 hn hst) hs hw ha) ?_
  rintro E σ H ⟨M, ρ, w, ρ', R, hf, q⟩
  unfold bStar at hf
  split at hf
  case h_2 => cases hf
  case h_1 d ds ρ1 e1 =>
  cases hf
  refine ⟨M, ρ, _, ρ1, R, e1, fun v M1 H1 s1 R1 k1 ok1 => ?_⟩
  obtain ⟨a, vs, rfl, nm, hq, dv⟩ := ok1
  obtain ⟨x0, xs, rfl, d1, d2⟩ := dv
  refine ⟨a, x0, xs, rfl, SqL.of hq, fun p hp => ?_⟩
  have ex : Ext H1 (upd H1 p (.lst xs)) := Ext.new hp
  have R2 : ER _ M1 ρ1 σ (upd H1 p (.lst xs)) := R1.ext ex
  refine ⟨x0, [.ref p], rfl, M1, ρ1, d, _, R2, Dv.ext ex d d1, rfl, fun b hb => ?_, fun σ2 R3 _ => ?_⟩
  · rcases List.mem_singleton.mp hb with rfl
    exact hi
  · have dp : Dv X.K T M1 (upd H1 p (.lst xs)) (.lst ds) (.ref p) := Dv.newLst d2 hp fun z => R1.fresh hp z
    refine ⟨.ref p, [], rfl, M1, _, .lst ds, _, R3, dp, rfl, fun b hb => ?_, fun σ3 R4 _ => ⟨rfl, ?_⟩⟩
    · rcases List.mem_singleton.mp hb with rfl
      exact hj
    · exact q M1 σ3 _ R4 ((Stp.of R (fun a z => .inl (s1 a z)) k1).trans fun d v h => Dv.ext ex d h)
end

/-! ### a new list out of two -/
def nAdd (fa fb : FE) : FN := fun ρ => match fa ρ with
  | none => none
  | some (o, ρ1) => match fb ρ1 with
    | none => none
    | some (p, ρ2) => match o.get ρ2, p.get ρ2 with
      | some (.lst ds), some (.lst es) => if ds.length + es.length ≤ sLn then some (ds ++ es, ρ2) else none
      | _, _ => none
section
variable {X : Cx} {F : Fx} {pos : Pos} {a b : Expr} {fa fb : FE}
theorem dn_add (ha : PE X a (TEd F fa)) (hb : PE X b (TEd F fb)) : PE X (.BinOp a .Add b pos) (TEn F (nAdd fa fb)) := by
  refine PE.imp (pe_op op_cat ha hb) ?_
  rintro σ H Q ⟨M, ρ, o, ρ', R, hf, q⟩
  unfold nAdd at hf
  cases e1 : fa ρ with
  | none => rw [e1] at hf; cases hf
  | some p1 =>
    obtain ⟨o1, ρ1⟩ := p1
    rw [e1] at hf
    simp only at hf
    cases e2 : fb ρ1 with
    | none => rw [e2] at hf; cases hf
    | some p2 =>
      obtain ⟨o2, ρ2⟩ := p2
      rw [e2] at hf
      simp only at hf
      split at hf
      case h_2 => cases hf
      case h_1 ds es g1 g2 =>
      split at hf
      case isFalse => cases hf
      case isTrue hz =>
      cases hf
      refine ⟨M, ρ, o1, ρ1, R, e1, fun x M1 H1 s1 R1 k1 ok1 => ⟨M1, ρ1, o2, _, R1, e2, fun y M2 H2 s2 R2 k2 ok2 => ?_⟩⟩
      obtain ⟨l, us, rfl, ha, ra⟩ := (R2.opd (OpdOk.less s2 (OpdOk.keep R1.mm k2 ok1)) g1).lst
      obtain ⟨m, ws, rfl, hb, rb⟩ := (R2.opd ok2 g2).lst
      refine ⟨l, m, us, ws, rfl, rfl, ha, hb, by have := ra.length; have := rb.length; rw [← sLn_eq]; omega, fun p hp => ?_⟩
      have k12 := k1.trans (k2.mono s1)
      have s12 : ∀ z, M2 z → M z := fun z m => s1 z (s2 z m)
      obtain ⟨R3, n3⟩ := R2.newLst k12 s12 hp (DvS.append ra rb)
      exact q p _ _ (fun a z => z.imp (s12 a) id) R3 (k12.trans (Ext.new hp).keep) n3
end

/-! ### facts -/
theorem cmB_ok {K : PySem.W.Frag} {C m : Str} (h : cmB C m K = true) : ClX.CMet K (He.ga K C) (.type "type") m (He.ma K (He.ga K C) m) (cmAd K C m) := by
  obtain ⟨h1, h2⟩ := He.ba h
  exact He5.cmet_of h1 h2
theorem crB_ok {K : PySem.W.Frag} {C : Str} (h : crB C K = true) : ClX.CRead K (He.ga K C) (.type "type") := by
  obtain ⟨h1, h2⟩ := He.ba h
  exact ⟨h1, of_decide_eq_true h2⟩
end SC

set_option Elab.async false
set_option linter.all false
set_option maxRecDepth 100000
namespace SC
open PySem PySem.Spec PyProof.Rows L2

/-! ### a def that returns a new list of plain items -/
theorem dvs_flat {K : PySem.W.Frag} {T : Cl} {M M' : Ms} {H H' : Hp} : ∀ {ds : List D} {xs : List V}, ds.all flD = true → DvS K T M H ds xs → DvS K T M' H' ds xs
  | [], _, _, h => h
  | d :: ds, _, fl, ⟨x, r, e, h1, h2⟩ => by
    rw [List.all_cons, Bool.and_eq_true] at fl
    refine ⟨x, r, e, ?_, dvs_flat fl.2 h2⟩
    cases d with
    | non => exact h1
    | bl _ => exact h1
    | int _ => exact h1
    | str _ => exact h1
    | _ => exact absurd fl.1 (by simp [flD])
def spN (K : PySem.W.Frag) (T : Cl) (n : Nat) (g : List D → Option (List D)) : Sp := fun vs H Q _ => vs.length = n ∧ ∃ ds out, LamX.Tabs T.tl H ∧ DvS K T (fun _ => False) H ds vs ∧ g ds = some out ∧ out.all flD = true ∧
  ∀ p xs H', H p = none → Ke T (fun a => a = p) H H' → H' p = some (.lst xs) → DvS K T (fun _ => False) H' out xs → Q (.ref p) H'
def genN (N : Nat) (fn : FN) (ds : List D) : Option (List D) := match fn (ds.map .dat ++ List.replicate (N - ds.length) .un) with
  | some (out, _) => if out.all flD = true then some out else none
  | none => none
section
variable {P : Program} {w : World} {K : PySem.W.Frag} {mg : Str → Option Value} {base : Heap} {k : Nat} {f : Addr} {fd : FuncData} {name qual : Str} {params : Arguments} {e : Expr} {rpos : Pos} {scope : Scope} {N ps : List Str} {T : Cl} {fn : FN}
structure DefN (P : Program) (w : World) (K : PySem.W.Frag) (mg : Str → Option Value) (base : Heap) (T : Cl) (k : Nat) (f : Addr) (ps : List Str) (g : List D → Option (List D)) : Prop where
  ex : ∃ fd, Binds K fd ps [] ∧ FnOk P w K mg base CX0 k f fd ps (spN K T ps.length g)
  kp : PySem.W.keepIn K (.ref f) = true
theorem exN {X : Cx} (h : ∀ F : Fx, F.K = X.K → F.T = T → PaOk F 0 [] → PE X e (TEn F fn)) : PE X e (fun σ H Q => ∃ F : Fx, F.K = X.K ∧ F.T = T ∧ PaOk F 0 [] ∧ TEn F fn σ H Q) :=
  ⟨fun pins s σ H Q I ⟨F, h1, h2, h3, hw⟩ => (h F h1 h2 h3).run pins s σ H Q I hw⟩
theorem FunD.defN (Fd : FunD K name qual params [.Return (some e) rpos] scope [] [] f fd) (S : FnScope N ps scope)
    (hb : ∀ (kV doc pm : Value) (an : Option Addr) (cdv ct : Value) (us : List Value), us.length = ps.length → bindArgs (PySem.W.fnOf name qual params [.Return (some e) rpos] scope .none kV doc pm an cdv ct) ⟨us, []⟩ = pure (ps.zip us))
    (go : ∀ (cdv : Value) (A : Around) (outer : List Env) (s : Shared) (H : Hp) (E : XK), Room k (A.deeper (envOfC qual scope s.heap.objs.size f cdv)) → ∀ F : Fx, F.K = K → F.T = T → PaOk F 0 [] →
      PE (bodyCx P w K mg base N qual scope f cdv A outer s H E) e (TEn F fn)) : DefN P w K mg base T (k + 1) f ps (genN N.length fn) := by
  have hbn := Fd.bindsN hb
  obtain ⟨oc, od, dV, kV, doc, pm, an, cdv, ct, osl, rfl, lk, hcd, _, _⟩ := Fd.ex
  refine ⟨⟨_, hbn, fn_of lk hcd S (fun vs H Q E h => h.1) fun A outer s H vs Q E hr ⟨hv, ds, out, ts0, dv, hg, fl, q⟩ => ⟨_, pss_one (ps_ret (exN (T := T) (go cdv A outer s H E hr))), ?_⟩⟩, Fd.kp⟩
  have hpl : ps.length ≤ N.length := by have := congrArg List.length S.pre; rw [List.length_take] at this; omega
  have hvl : vs.length ≤ N.length := by rw [hv]; exact hpl
  have S0 := se_data ⟨fun _ z => False.elim z, ts0⟩ dv
  have S1 := se_start S0 (N := N) hvl
  rw [List.length_map] at S1
  have nomut : ∀ (i : Nat) (s : Sl), (ds.map Sl.dat ++ List.replicate (N.length - ds.length) Sl.un)[i]? = some s → s.mut = true → False := fun i s h mu => by
    by_cases hi : i < ds.length
    · rw [List.getElem?_append_left (by simpa using hi), List.getElem?_map] at h
      cases e : ds[i]? with
      | none => rw [e] at h; cases h
      | some d => rw [e] at h; cases h; cases mu
    · rw [List.getElem?_append_right (by simpa using hi), List.getElem?_replicate] at h
      split at h
      · cases h; cases mu
      · cases h
  have R0 := S1.enter
  have nopa : ∀ p, p ∉ (subF K T (fun _ => False) (ds.map Sl.dat ++ List.replicate (N.length - ds.length) Sl.un) (L2.start N vs) H).pa := fun p hp => by
    obtain ⟨s, h1, m, _⟩ := mem_mads.mp hp
    exact nomut p.1 s h1 m
  unfold genN at hg
  cases e1 : fn (ds.map Sl.dat ++ List.replicate (N.length - ds.length) Sl.un) with
  | none => rw [e1] at hg; cases hg
  | some pw =>
    obtain ⟨out', ρ'⟩ := pw
    rw [e1] at hg
    simp only [] at hg
    split at hg
    case isFalse => cases hg
    case isTrue =>
    cases hg
    refine ⟨_, rfl, rfl, ⟨fun p hp => (nopa p hp).elim, fun p hp => (nopa p hp).elim⟩, fun _ => False, _, out, ρ', R0, e1, fun p M1 H1 s1 R1 k1 n1 => ?_⟩
    obtain ⟨xs, a1, a2⟩ := n1.at_
    exact q p xs H1 (n1.old.elim False.elim id) ⟨fun a o ea _ => k1 a o ea fun z => z, fun _ => R1.mm.ts⟩ a1 (DvS.less (fun _ z => False.elim z) out a2)
end
def nCallN (g : List D → Option (List D)) (fa : FA) : FN := fun ρ => match fa ρ with
  | none => none
  | some (os, ρ1) => match datAll os with
    | none => none
    | some ds => match g ds with
      | some out => if out.all flD = true then some (out, ρ1) else none
      | none => none
section
variable {X : Cx} {F : Fx} {T : Cl} {j k n : Nat} {f : Addr} {ps : List Str} {g : List D → Option (List D)} {x : Str} {p pos : Pos} {e : Expr} {es : List Expr} {fa : FA}
theorem dn_callN (hK : F.K = X.K) (hT : F.T = T) (D1 : DefN X.prog X.w X.K X.mg X.base T j f ps g) (hr : Room k X.A) (hjk : j ≤ k) (hg : Gl X x) (hm : X.mg x = some (.ref f)) (ha : PA X (e :: es) (TAd F fa)) (hl : FaLen fa n) (hn : n = ps.length) (hdb : (x == ("__debug__" : Str)) = false)
    (he : starEach (e :: es) X.env = (false, eval e X.env) :: starEach es X.env) (hpl : (backTo pos (starEach es X.env)).any (·.1) = false) : PE X (.Call (.Name x p) (e :: es) [] pos) (TEn F (nCallN g fa)) := by
  subst hT
  obtain ⟨⟨fd, hb, Fn⟩, kp⟩ := D1
  obtain ⟨K, T, M0, pa, H0⟩ := F
  cases hK
  refine PE.imp (pe_call (E := fun _ _ _ => False) (dvs := []) Fn (hr.mono hjk) hg hm kp hb .nil passes0 ha hdb he hpl) ?_
  rintro σ H Q ⟨M, ρ, out, ρ', R, hf, q⟩
  unfold nCallN at hf
  cases e1 : fa ρ with
  | none => rw [e1] at hf; cases hf
  | some p1 =>
    obtain ⟨os, ρ1⟩ := p1
    rw [e1] at hf
    simp only at hf
    cases e2 : datAll os with
    | none => rw [e2] at hf; cases hf
    | some ds =>
      rw [e2] at hf
      simp only at hf
      cases e3 : g ds with
      | none => rw [e3] at hf; cases hf
      | some o =>
        rw [e3] at hf
        simp only at hf
        split at hf
        case isFalse => cases hf
        case isTrue fl =>
        cases hf
        refine ⟨M, ρ, os, _, R, e1, fun vs M1 H1 s1 R1 k1 ok1 => ?_⟩
        have dv := OpdsOk.datAll ok1 e2
        refine ⟨?_, ds, _, R1.mm.ts, by rw [List.append_nil]; exact DvS.less (fun _ z => False.elim z) ds dv, e3, fl, fun p xs H2 hp ex at_ dvy => ?_⟩
        · rw [List.append_nil, ← hn, ← hl.eq _ _ _ e1]
          exact (Paired.length ok1).symm
        · obtain ⟨R2, n2⟩ := R1.newLst k1 s1 hp (vs := xs) (dvs_flat fl dvy)
          have ex2 : Ke T (fun _ => False) (upd H1 p (.lst xs)) H2 := ⟨fun a u ea _ => by
            by_cases hap : a = p
            · subst hap
              rw [upd_same] at ea
              exact .of (by rw [at_, ← ea])
            · rw [upd_ne hap] at ea
              exact ex.at_ a u ea hap, fun _ => ex.tab R1.mm.ts⟩
          have kf : ∀ {N : Ms}, Keep N (upd H1 p (.lst xs)) H2 := ex2.all fun _ z => z.elim
          have ka : Keep M1 H1 H2 := ex.all fun a z => by rw [z]; exact hp
          obtain ⟨ys, y1, y2⟩ := n2.at_
          exact q p _ H2 (fun a z => z.imp (s1 a) id) (R2.ke ex2 fun _ z => z.elim) (k1.trans (ka.mono s1)) ⟨n2.m, n2.old, n2.h0, n2.no, ys, (ex2.at_ _ _ y1 fun z => z).nt .lst, DvS.keep kf R2.mm _ y2⟩
end
end SC

set_option Elab.async false
set_option linter.all false
set_option maxRecDepth 100000
namespace SC
open PySem PySem.Spec PyProof.Rows L2 HT

/-! ### t[::-1] of a tuple -/
section
variable {prog : Program} {w : World} {A : Around} {E : Value → Shared → Prop} {s : Shared}
theorem adjust_rev (n : Nat) : Builtin.Slice.sliceAdjust none none (-1) (n : Int) = ((n : Int) - 1, -1) := rfl
theorem places_rev (n : Nat) : Builtin.Slice.slicePlaces ((n : Int) - 1) (-1) (-1) = n := by
  unfold Builtin.Slice.slicePlaces
  have h1 : ¬ ((-1 : Int) > 0) := by omega
  simp only [h1, if_false]
  have e : ((n : Int) - 1 - -1 - 1) / (- -1) + 1 = (n : Int) := by
    rw [show (- -1 : Int) = 1 by decide, Int.ediv_one]
    omega
  split
  · rw [e, Int.toNat_natCast]
  · have : n = 0 := by omega
    subst this
    rfl
theorem sliceApplied_rev {sl : Addr} {vk : Value} {n : Nat} {Q : Int × Int × Nat → Shared → Prop} (hs : s.heap.IsSliceOf sl .none .none vk) (pk : IsPart vk (some (-1)))
    (h : Q ((n : Int) - 1, -1, n) s) : wpAny (model prog w) A (Builtin.Slice.sliceApplied (.ref sl) (pure (n : Int))) Q E s := by
  obtain ⟨os, hos, hcs, hds⟩ := id hs
  unfold Builtin.Slice.sliceApplied Builtin.Slice.sliceFields
  refine wpAny_bind (wpAny_bind (wpAny_field hos hds (x := .none) rfl (wpAny_bind (wpAny_field hos hds (x := .none) rfl (wpAny_bind (wpAny_field hos hds (x := vk) rfl (wpAny_pure ?_)))))))
  refine wpAny_bind (slicePart_ pk ?_)
  show wpAny _ _ (if ((-1 : Int) == 0) = true then _ else _) _ _ s
  rw [if_neg (by decide)]
  refine wpAny_bind (slicePart_none (wpAny_bind (slicePart_none (wpAny_bind (wpAny_pure ?_)))))
  show wpAny _ _ (match Builtin.Slice.sliceAdjust none none (-1) (n : Int) with | (lo, hi) => pure (lo, (-1 : Int), Builtin.Slice.slicePlaces lo hi (-1))) _ _ s
  rw [adjust_rev n]
  show wpAny _ _ (pure ((n : Int) - 1, (-1 : Int), Builtin.Slice.slicePlaces ((n : Int) - 1) (-1) (-1))) _ _ s
  rw [places_rev]
  exact wpAny_pure h
theorem fm_congr {α β : Type} {f g : α → Option β} : ∀ l : List α, (∀ a ∈ l, f a = g a) → l.filterMap f = l.filterMap g
  | [], _ => rfl
  | a :: l, h => by
    rw [List.filterMap_cons, List.filterMap_cons, h a List.mem_cons_self, fm_congr l fun b hb => h b (List.mem_cons_of_mem _ hb)]
theorem pick_rev (xs : Array Value) : ((List.range xs.size).filterMap fun (k : Nat) => xs[((xs.size : Int) - 1 + (k : Int) * (-1)).toNat]?).toArray = xs.toList.reverse.toArray := by
  congr 1
  have e : ∀ k ∈ List.range xs.size, xs[((xs.size : Int) - 1 + (k : Int) * (-1)).toNat]? = xs.toList.reverse[k]? := fun k hk => by
    have hk' := List.mem_range.mp hk
    rw [List.getElem?_reverse (by rw [Array.length_toList]; exact hk'), Array.length_toList, Array.getElem?_toList]
    congr 1
    omega
  have e2 : (List.range xs.size).filterMap (fun (k : Nat) => xs[((xs.size : Int) - 1 + (k : Int) * (-1)).toNat]?) = (List.range xs.size).filterMap (fun k => xs.toList.reverse[k]?) := fm_congr _ e
  rw [e2]
  have h := pick_run xs.toList.reverse.toArray 0 xs.size
  rw [List.filterMap_map] at h
  have e3 : ((fun x => xs.toList.reverse.toArray[x]?) ∘ fun x => 0 + x) = fun k => xs.toList.reverse[k]? := by
    funext k
    simp
  rw [e3] at h
  rw [h, List.drop_zero, List.take_of_length_le (by simp)]
theorem getItem_tuple_rev {t sl : Addr} {items : Array Value} {vk : Value} {Q : Value → Shared → Prop} (ht : IsTup s.heap t items) (hs : s.heap.IsSliceOf sl .none .none vk) (pk : IsPart vk (some (-1)))
    (h : Q (.ref s.heap.objs.size) { s with heap := s.heap.push { cls := .type "tuple", data := .seq items.toList.reverse.toArray } })
    (hsz : items.size ≤ sizeLine) : wpAny (model prog w) A (getItem (.ref t) (.ref sl)) Q E s := by
  have htake : sizeOk (.seq items.toList.reverse.toArray) := by
    show items.toList.reverse.toArray.size ≤ sizeLine
    rw [List.size_toArray, List.length_reverse, Array.length_toList]
    exact hsz
  obtain ⟨os, hos, hcs, hds⟩ := id hs
  have hTs : s.TypeIs (.ref sl) "slice" := ⟨os, hos, hcs⟩
  unfold getItem
  try with_reducible refine wpAny_holding ?_
  first | refine wpAny_bind (wpAny_pure ?_) | skip
  refine wpAny_bind (wpAny_sequenceKey ht.typeIs (by decide) ?_)
  refine wpAny_bind (wpAny_callSpecial?_slot (name := Str.ofString "__getitem__") ht.typeIs PyProof.Rows.slot_tuple_getitem
    (wpAny_call_entry PyProof.Rows.slot_tuple_getitem ht.typeIs entry_tuple_getitem ?_ (args_tuple_getitem _ _)))
  show wpAny _ _ (Builtin.Tuple.tupleItemsOf (.ref t) >>= _) _ _ s
  refine wpAny_bind (tupleItemsOf_ ht ?_)
  refine wpAny_bind (wpAny_typeOf hTs ?_)
  rw [if_pos (by decide)]
  refine wpAny_bind (sliceApplied_rev hs pk ?_)
  have hno : ¬ ((((items.size : Int) - 1) == 0 && (-1 : Int) == 1 && items.size == items.size) = true) := by
    intro q
    rw [Bool.and_eq_true, Bool.and_eq_true] at q
    exact absurd q.1.2 (by decide)
  show wpAny _ _ (if (((items.size : Int) - 1) == 0 && (-1 : Int) == 1 && items.size == items.size) = true then _ else _) _ _ s
  rw [if_neg hno, pick_rev]
  first
    | exact wpAny_bind (m := Builtin.Tuple.tupleExact _) (wpAny_newObj_type (wpAny_pure ⟨_, rfl, wpAny_pure h⟩) htake)
    | exact wpAny_bind (m := Builtin.Tuple.tupleExact _) (wpAny_newObj_type (wpAny_bind (wpAny_pure (wpAny_pure ⟨_, rfl, wpAny_pure h⟩))) htake)
    | exact wpAny_bind (wpAny_bind (m := Builtin.Tuple.tupleExact _) (wpAny_newObj_type (wpAny_pure (wpAny_pure ⟨_, rfl, wpAny_pure h⟩)) htake))
    | exact wpAny_bind (wpAny_bind (m := Builtin.Tuple.tupleExact _) (wpAny_newObj_type (wpAny_pure ⟨_, rfl, wpAny_pure h⟩) htake))
end
section
variable {X : Cx} {F : Fx} {a e st : Expr} {fa : FE} {fl : FO} {te : TE} {tk : TO} {pos p2 : Pos}
def tRevT (K : PySem.W.Frag) (te : TE) (tk : TO) : TE := fun σ H Q => te σ H fun x H1 => tk σ H1 fun o H2 => o = some (-1) ∧ ∃ t xs, x = .ref t ∧ SqT K H2 t xs ∧ ∀ p, H2 p = none → Q (.ref p) (upd H2 p (.tup xs.reverse))
theorem pe_revT (he : PE X e te) (hk : PO X (some st) tk) : PE X (.Subscript e (.Slice none none (some st) p2) pos) (tRevT X.K te tk) := by
  refine ⟨fun pins s σ H Q I h => ?_⟩
  refine Subscript_ (thn (he.run pins s σ H _ I h) fun v s1 ⟨x, H1, I1, r1, q1⟩ => ?_)
  refine wpAny_Slice ?_
  rw [evalPart_none]
  refine wpAny_pure ?_
  refine wpAny_pure ?_
  refine thn (hk.run pins s1 σ H1 _ I1 q1) fun vk s3 ⟨o, H3, I3, pk, eo, t, xs, ex, hq, q⟩ => ?_
  subst ex
  subst eo
  obtain rfl : v = Value.ref t := r1
  have I4 : Inv X pins σ H3 { s3 with heap := s3.heap.push { cls := .type "slice", data := .fields #[.none, .none, vk] } } := I3.kept (t' := s3.toks) fun b ob q => Heap.get?_push_of_some _ q
  obtain ⟨its, r, ht, hz⟩ := I4.tuple hq
  show wpAny (model X.prog X.w) X.A (subscriptTail e (.Slice none none (some st) p2) (.ref t) (.ref s3.heap.objs.size)) (EP X pins σ Q) X.xe { s3 with heap := s3.heap.push { cls := .type "slice", data := .fields #[.none, .none, vk] } }
  refine tail_any (T := "tuple") (ops := [.ref t, .ref s3.heap.objs.size]) ht.typeIs PyProof.Rows.slot_tuple_getitem.lookup ?_ (by with_unfolding_all rfl)
  have hz' : its.toArray.size ≤ sizeLine := by rw [List.size_toArray, ← r.length]; exact hz
  refine getItem_tuple_rev ht (Heap.IsSliceOf.new ..) pk ?_ hz'
  refine ⟨.ref (s3.heap.push { cls := .type "slice", data := .fields #[.none, .none, vk] }).objs.size, upd H3 (s3.heap.push { cls := .type "slice", data := .fields #[.none, .none, vk] }).objs.size (.tup xs.reverse), I4.laid (t' := s3.toks) (o := .tup xs.reverse) (fun b ob q => Heap.get?_push_of_some _ q) (Nat.le_refl _) ?_, rfl, q _ (I4.hok.fresh (Nat.le_refl _))⟩
  exact ⟨by rw [List.length_reverse]; exact hz, its.reverse, r.reverse, IsTup.new _ _⟩
/-- t[::-1] -/
def fRevT (fa : FE) (fl : FO) : FE := fun ρ =>
  match fa ρ with
  | none => none
  | some (o, ρ1) => match fl ρ1 with
    | some (some j, ρ2) => if j = -1 then match o.get ρ2 with
        | some (.tup ds) => some (.dat (.tup ds.reverse), ρ2)
        | _ => none
      else none
    | _ => none
theorem de_revT (hK : F.K = X.K) (ha : PE X a (TEd F fa)) (hl : PO X (some st) (TOd F fl)) : PE X (.Subscript a (.Slice none none (some st) p2) pos) (TEd F (fRevT fa fl)) := by
  obtain ⟨K, T, M0, pa, H0⟩ := F
  cases hK
  refine PE.imp (pe_revT ha hl) ?_
  rintro σ H Q ⟨M, ρ, o, ρ', R, hf, q⟩
  unfold fRevT at hf
  cases e1 : fa ρ with
  | none => rw [e1] at hf; cases hf
  | some p1 =>
    obtain ⟨o1, ρ1⟩ := p1
    rw [e1] at hf
    simp only at hf
    split at hf
    · rename_i j ρ2 e2
      split at hf
      · rename_i hj
        subst hj
        split at hf
        · rename_i ds g1
          cases hf
          refine ⟨M, ρ, o1, ρ1, R, e1, fun x M1 H1 s1 R1 k1 ok1 => ⟨M1, ρ1, _, _, R1, e2, fun M2 H2 s2 R2 k2 => ⟨rfl, ?_⟩⟩⟩
          have hd := R2.opd (OpdOk.less s2 (OpdOk.keep R1.mm k2 ok1)) g1
          obtain ⟨t, us, rfl, ht, ra⟩ := hd.tup
          refine ⟨t, us, rfl, ht, fun p hp => ?_⟩
          exact q _ M2 _ (fun a z => s1 a (s2 a z)) (R2.ext (Ext.new hp)) ((k1.trans (k2.mono s1)).trans (Ext.new hp).keep) (Dv.newTup ra.reverse hp fun z => R2.mh p z hp)
        · cases hf
      · cases hf
    · cases hf
/-- tuple(range(e)) -/
def fRgT (fa : FE) : FE := fun ρ => match fa ρ with
  | some (.dat (.int j), ρ1) => if -1000000000 ≤ j ∧ j ≤ 16777216 then some (.dat (.tup (rangeD 0 j.toNat)), ρ1) else none
  | _ => none
theorem de_rgT {e : Expr} {p p2 pos2 : Pos} (hc : X.calm = true) (hg : Gl X "tuple") (hm : X.mg "tuple" = none) (hg2 : Gl X "range") (hm2 : X.mg "range" = none) (ha : PE X e (TEd F fa)) (na2 : starEach [e] X.env = (false, eval e X.env) :: starEach [] X.env)
    (na : starEach [.Call (.Name "range" p2) [e] [] pos2] X.env = (false, eval (.Call (.Name "range" p2) [e] [] pos2) X.env) :: starEach [] X.env) : PE X (.Call (.Name "tuple" p) [.Call (.Name "range" p2) [e] [] pos2] [] pos) (TEd F (fRgT fa)) := by
  refine PE.imp (pe_tupRg hc hg hm (prg_1 hg2 hm2 ha na2) na) ?_
  rintro σ H Q ⟨M, ρ, ds, ρ', R, hf, q⟩
  unfold fRgT at hf
  split at hf
  · rename_i j ρ1 e1
    split at hf
    · rename_i hj
      cases hf
      refine ⟨M, ρ, _, _, R, e1, fun v M1 H1 s1 R1 k1 ok1 => ?_⟩
      cases (show v = .int j from ok1)
      refine ⟨j, rfl, ⟨by omega, by omega, by have := hj.1; omega, by have := hj.2; omega, by omega⟩, fun p hp => ?_⟩
      exact q _ M1 _ s1 (R1.ext (Ext.new hp)) (k1.trans (Ext.new hp).keep) (Dv.newTup (rgV_dv j) hp fun z => R1.mh p z hp)
    · cases hf
  · cases hf
end
end SC

set_option Elab.async false
set_option linter.all false
set_option maxRecDepth 100000
namespace SC
open PySem PySem.Spec PyProof.Rows L2

/-! ### in, data of any depth -/
theorem u65 {k : Nat} {A : Around} (r : Room k A) : A.units + 65 < cLine := by have := r.un; omega
theorem u3 {k : Nat} {A : Around} (r : Room k A) : A.units + 3 < cLine := by have := r.un; omega
def rInT (K : PySem.W.Frag) (g : Bool → Bool) : R2 := fun x y H Q => ∃ d ds, Dp K H x d ∧ (Dp K H y (.list ds) ∨ Dp K H y (.tuple ds)) ∧ SeqAt.shaped d = true ∧ SeqAt.shaped (.list ds) = true ∧ Q (.bl (g (ds.any fun z => PyData.eqv z d))) H
section
variable {X : Cx}
theorem op_inT (hu : X.A.units + 65 < cLine) : OpR X (compareOp .In) (rInT X.K id) := by
  intro pins s σ H x y v u Q I rx ry h
  obtain ⟨d, ds, hd, he, sd, se, q⟩ := h
  obtain ⟨as, r1⟩ := Dp.reads I d x v hd rx
  rcases he with he | he
  · obtain ⟨bs, r2⟩ := Dp.reads I (.list ds) y u he ry
    exact SeqAt.in_list_reads r2 r1 (SeqAt.canLay_of_shaped se) (SeqAt.canLay_of_shaped sd) (room_in_shaped sd hu) ⟨.bl _, H, I, rfl, q⟩
  · obtain ⟨bs, r2⟩ := Dp.reads I (.tuple ds) y u he ry
    exact SeqAt.in_tuple_reads r2 r1 (SeqAt.canLay_of_shaped se) (SeqAt.canLay_of_shaped sd) (room_in_shaped sd hu) ⟨.bl _, H, I, rfl, q⟩
theorem op_notInT (hu : X.A.units + 65 < cLine) : OpR X (compareOp .NotIn) (rInT X.K not) := by
  intro pins s σ H x y v u Q I rx ry h
  obtain ⟨d, ds, hd, he, sd, se, q⟩ := h
  obtain ⟨as, r1⟩ := Dp.reads I d x v hd rx
  rcases he with he | he
  · obtain ⟨bs, r2⟩ := Dp.reads I (.list ds) y u he ry
    exact SeqAt.notIn_list_reads r2 r1 (SeqAt.canLay_of_shaped se) (SeqAt.canLay_of_shaped sd) (room_in_shaped sd hu) ⟨.bl _, H, I, rfl, q⟩
  · obtain ⟨bs, r2⟩ := Dp.reads I (.tuple ds) y u he ry
    exact SeqAt.notIn_tuple_reads r2 r1 (SeqAt.canLay_of_shaped se) (SeqAt.canLay_of_shaped sd) (room_in_shaped sd hu) ⟨.bl _, H, I, rfl, q⟩
end
def dInT (g : Bool → Bool) (d e : D) : Option D := match e with
  | .lst es => if (shD d && shD (.lst es)) = true then some (.bl (g (inD d es))) else none
  | .tup es => if (shD d && shD (.lst es)) = true then some (.bl (g (inD d es))) else none
  | _ => none
theorem inD_any {d : D} {p : PyData} (hp : toP d = some p) : ∀ {es : List D} {ps : List PyData}, toPs es = some ps → inD d es = ps.any fun z => PyData.eqv z p
  | [], ps, h => by simp only [toPs] at h; cases h; rfl
  | e :: es, ps, h => by
    simp only [toPs] at h
    cases q1 : toP e with
    | none => rw [q1] at h; cases h
    | some p1 =>
      cases q2 : toPs es with
      | none => rw [q1, q2] at h; cases h
      | some p2 =>
        rw [q1, q2] at h
        cases h
        have ih := inD_any hp q2
        unfold inD at ih ⊢
        rw [List.any_cons, List.any_cons, ih]
        simp only [eqD, q1, hp]
section
variable {X : Cx} {F : Fx}
theorem inT_read {g : Bool → Bool} {x y : V} {H : Hp} {Q : VK} {M : Ms} {d e r : D} (hx : Do F.K F.T M H d x) (hy : Do F.K F.T M H e y) (hg : dInT g d e = some r) (q : ∀ v H', Ext H H' → Dv F.K F.T M H' r v → Q v H') : rInT F.K g x y H Q := by
  have key : ∀ es : List D, (shD d && shD (.lst es)) = true → (∀ ps, toPs es = some ps → (Dp F.K H y (.list ps) ∨ Dp F.K H y (.tuple ps))) → r = .bl (g (inD d es)) → rInT F.K g x y H Q := by
    intro es hz hdp er
    subst er
    obtain ⟨z1, z2⟩ := Bool.and_eq_true_iff.mp hz
    unfold shD at z1 z2
    cases e1 : toP d with
    | none => rw [e1] at z1; cases z1
    | some p1 =>
      simp only [toP] at z2
      cases e2 : toPs es with
      | none => rw [e2] at z2; cases z2
      | some p2 =>
        rw [e1] at z1; rw [e2] at z2
        refine ⟨p1, p2, hx.dp e1, hdp p2 e2, z1, z2, ?_⟩
        have := q (.bl (g (inD d es))) H Ext.rfl rfl
        rw [inD_any e1 e2] at this
        exact this
  unfold dInT at hg
  cases e with
  | lst es =>
    simp only at hg
    split at hg
    · rename_i hz
      cases hg
      exact key es hz (fun ps e2 => .inl (hy.dp (by simp only [toP, e2, Option.map_some]))) rfl
    · cases hg
  | tup es =>
    simp only at hg
    split at hg
    · rename_i hz
      cases hg
      exact key es hz (fun ps e2 => .inr (hy.dp (by simp only [toP, e2, Option.map_some]))) rfl
    · cases hg
  | _ => cases hg
theorem opd_inT (hK : F.K = X.K) (hu : X.A.units + 65 < cLine) : OpR X (compareOp .In) (rD F (dInT id)) := by
  obtain ⟨K, T, M0, pa, H0⟩ := F
  cases hK
  refine OpR.imp (op_inT hu) ?_
  rintro x y H Q ⟨M, d, e, r, hm, hx, hy, g, q⟩
  exact inT_read (F := ⟨X.K, T, M0, pa, H0⟩) hx hy g q
theorem opd_notInT (hK : F.K = X.K) (hu : X.A.units + 65 < cLine) : OpR X (compareOp .NotIn) (rD F (dInT not)) := by
  obtain ⟨K, T, M0, pa, H0⟩ := F
  cases hK
  refine OpR.imp (op_notInT hu) ?_
  rintro x y H Q ⟨M, d, e, r, hm, hx, hy, g, q⟩
  exact inT_read (F := ⟨X.K, T, M0, pa, H0⟩) hx hy g q
end

/-! ### sorted, tuples of whole numbers -/
def insL (i : List Int) : List (List Int) → List (List Int)
  | [] => [i]
  | j :: r => if i ≤ j then i :: j :: r else j :: insL i r
def srtL : List (List Int) → List (List Int)
  | [] => []
  | i :: r => insL i (srtL r)
theorem insL_perm (i : List Int) : ∀ ns, (insL i ns).Perm (i :: ns)
  | [] => .refl _
  | j :: r => by
    unfold insL
    split
    · exact .refl _
    · exact ((insL_perm i r).cons j).trans (.swap i j r)
theorem srtL_perm : ∀ ns, (srtL ns).Perm ns
  | [] => .refl _
  | i :: r => (insL_perm i _).trans ((srtL_perm r).cons i)
theorem insL_ord (i : List Int) : ∀ ns : List (List Int), ns.Pairwise (· ≤ ·) → (insL i ns).Pairwise (· ≤ ·)
  | [], _ => by simp [insL]
  | j :: r, h => by
    unfold insL
    obtain ⟨h1, h2⟩ := List.pairwise_cons.mp h
    split
    · rename_i c
      refine List.pairwise_cons.mpr ⟨fun k hk => ?_, h⟩
      rcases List.mem_cons.mp hk with rfl | z
      · exact c
      · exact List.le_trans c (h1 k z)
    · rename_i c
      have c2 : j ≤ i := by
        rcases List.le_total i j with z | z
        · exact absurd z c
        · exact z
      refine List.pairwise_cons.mpr ⟨fun k hk => ?_, insL_ord i r h2⟩
      rcases List.mem_cons.mp ((insL_perm i r).mem_iff.mp hk) with rfl | z
      · exact c2
      · exact h1 k z
theorem srtL_ord : ∀ ns : List (List Int), (srtL ns).Pairwise (· ≤ ·)
  | [] => .nil
  | i :: r => insL_ord i _ (srtL_ord r)
theorem dataLe_tups {β : Type} (x : β → List Int) : PySem.W.dataLe false (fun b => .tuple ((x b).map .int)) = fun p q => decide (x p ≤ x q) := by
  funext p q
  show (!PySem.W.dataLt (.tuple ((x q).map .int)) (.tuple ((x p).map .int))) = _
  rw [PySem.W.dataLt_tuple]
  show (!PySem.W.rowLt ((x q).map .int) ((x p).map .int)) = _
  rw [PySem.W.dataLt_ints]
  by_cases h : x q < x p
  · have h' : ¬ x p ≤ x q := fun r => List.not_lt.mpr r h
    simp [h, h']
  · have h' : x p ≤ x q := List.not_lt.mp h
    simp [h, h']
def rSrtL (K : PySem.W.Frag) : List V → Hp → VK → Prop := fun vs H Q => ∃ (a : Addr) (bs : List (V × List Int)), vs = [V.ref a] ∧ SqL K H a (bs.map (·.1)) ∧ (∀ b ∈ bs, b.2 ≠ [] ∧ Dp K H b.1 (.tuple (b.2.map .int))) ∧
  ∀ (bs' : List (V × List Int)) (p : Addr), bs'.Perm bs → (bs'.map (·.2)).Pairwise (· ≤ ·) → H p = none → Q (.ref p) (upd H p (.lst (bs'.map (·.1))))
theorem eachV : ∀ {bs : List (V × List Int)} {vs : List Value}, Vals (bs.map (·.1)) vs → PySem.W.EachIs (fun (v : Value) (b : V × List Int) => RelV b.1 v) vs bs
  | [], _, h => by cases h; exact .nil
  | b :: bs, _, h => by
    cases h with
    | cons h1 h2 => exact .cons h1 (eachV h2)
theorem eachV' : ∀ {bs : List (V × List Int)} {vs : List Value}, PySem.W.EachIs (fun (v : Value) (b : V × List Int) => RelV b.1 v) vs bs → Vals (bs.map (·.1)) vs
  | [], _, h => by cases h; exact .nil
  | b :: bs, _, h => by
    cases h with
    | cons h1 h2 => exact .cons h1 (eachV' h2)
theorem eachR {h : Heap} : ∀ {bs : List (V × List Int)} {vs : List Value}, Vals (bs.map (·.1)) vs → (∀ b ∈ bs, ∀ v, RelV b.1 v → ∃ as, Reads h v (.tuple (b.2.map .int)) as) → PySem.W.EachIs (fun (v : Value) (b : V × List Int) => ∃ as, Reads h v (.tuple (b.2.map .int)) as) vs bs
  | [], _, h, _ => by cases h; exact .nil
  | b :: bs, _, h, k => by
    cases h with
    | cons h1 h2 => exact .cons (k b List.mem_cons_self _ h1) (eachR h2 fun b hb => k b (List.mem_cons_of_mem _ hb))
section
variable {X : Cx} {F : Fx}
theorem cr_sortL (hu : X.A.units + 3 < cLine) : CallR X (.builtin "sorted") (rSrtL X.K) := by
  intro pins s σ H vs us Q I r h
  obtain ⟨a, bs, rfl, hs, hx, q⟩ := h
  obtain ⟨its, rv, hl, hz⟩ := I.list hs
  rw [Vals.ref1 r]
  have hlen : its.length = bs.length := by rw [← rv.length, List.length_map]
  have hdep : ∀ b : V × List Int, (PyData.tuple (b.2.map .int)).depth ≤ 1 := fun b => by
    simp only [PyData.depth, PySem.W.depth_ints]; exact Nat.le_refl _
  refine PySem.W.sorted_data (enc := fun b : V × List Int => .tuple (b.2.map .int)) hl.isList (eachV rv) (eachR rv fun b hb v hv => Dp.reads I _ _ _ (hx b hb).2 hv) (PySem.W.AllAlike.of fun b b' => ?_)
    (.inl fun d hd => ?_) (by rw [List.length_map] at hz; exact hz) (fun b _ => by have := hdep b; omega) fun out ho eo => ?_
  · simp only [PySem.W.alike]
    exact PySem.W.alike_ints _ _
  · obtain ⟨b, hb, rfl⟩ := List.mem_map.mp hd
    have h0 := (hx b hb).1
    cases e : b.2 with
    | nil => exact absurd e h0
    | cons x r => exact ⟨.int x, r.map .int, by simp⟩
  · obtain ⟨e, he⟩ := PyProof.Rows.sortedAll_at s.heap its out.toArray
    rw [dataLe_tups (fun b : V × List Int => b.2)] at eo
    have pm := List.mergeSort_perm bs fun p q => decide (p.2 ≤ q.2)
    have hv := eachV' eo
    have hfr : s.heap.get? (s.heap.objs.size + 1) = none := by
      cases e : s.heap.get? (s.heap.objs.size + 1) with
      | none => rfl
      | some o' => exact absurd (Heap.lt_size e) (Nat.not_lt.mpr (Nat.le_succ _))
    have hn : H (s.heap.objs.size + 1) = none := I.hok.fresh (Nat.le_succ _)
    have hl2 : ((bs.mergeSort fun p q => decide (p.2 ≤ q.2)).map (·.1)).length ≤ sizeLine := by
      rw [List.length_map] at hz ⊢; rw [pm.length_eq]; exact hz
    refine ⟨.ref _, upd H _ (.lst ((bs.mergeSort fun p q => decide (p.2 ≤ q.2)).map (·.1))), I.laidN (t' := s.toks) (fun _ _ => PyProof.Rows.sortedAll_old) hfr hn ⟨hl2, out, e, hv, he⟩, rfl, q _ _ pm ?_ hn⟩
    refine List.pairwise_map.mpr ?_
    have ps := List.pairwise_mergeSort (le := fun (p q : V × List Int) => decide (p.2 ≤ q.2)) (fun a b c h1 h2 => by simp only [decide_eq_true_eq] at *; exact List.le_trans h1 h2) (fun a b => by
      rcases List.le_total a.2 b.2 with z | z
      · simp [z]
      · simp [z]) bs
    exact ps.imp fun h => by simpa using h
def tupIs : List D → Option (List (List Int))
  | [] => some []
  | .tup ds :: r => match allI ds, tupIs r with
    | some (n :: ns), some rs => some ((n :: ns) :: rs)
    | _, _ => none
  | _ :: _ => none
def dSortedT : List D → Option D
  | [.lst ds] => (tupIs ds).map fun nss => D.lst ((srtL nss).map fun ns => .tup (ns.map .int))
  | _ => none
theorem tupIs_ok : ∀ {ds : List D} {nss : List (List Int)}, tupIs ds = some nss → ds = nss.map (fun ns => D.tup (ns.map .int)) ∧ ∀ ns ∈ nss, ns ≠ []
  | [], _, h => by cases h; exact ⟨rfl, fun _ z => nomatch z⟩
  | .tup ds :: r, nss, h => by
    unfold tupIs at h
    split at h
    · rename_i n ns rs e1 e2
      cases h
      obtain ⟨h1, h2⟩ := tupIs_ok e2
      refine ⟨by rw [allI_eq e1, h1]; rfl, fun x hx => ?_⟩
      rcases List.mem_cons.mp hx with rfl | z
      · exact List.cons_ne_nil _ _
      · exact h2 x z
    · cases h
  | .non :: _, _, h => by simp [tupIs] at h
  | .bl _ :: _, _, h => by simp [tupIs] at h
  | .str _ :: _, _, h => by simp [tupIs] at h
  | .int _ :: _, _, h => by simp [tupIs] at h
  | .lst _ :: _, _, h => by simp [tupIs] at h
  | .ins _ _ :: _, _, h => by simp [tupIs] at h
  | .dic _ _ :: _, _, h => by simp [tupIs] at h
  | .scr _ :: _, _, h => by simp [tupIs] at h
  | .cl _ :: _, _, h => by simp [tupIs] at h
theorem dvs_zip {K : PySem.W.Frag} {T : Cl} {M : Ms} {H : Hp} : ∀ {nss : List (List Int)} {xs : List V}, DvS K T M H (nss.map fun ns => D.tup (ns.map .int)) xs → (xs.zip nss).map (·.1) = xs ∧ (xs.zip nss).map (·.2) = nss ∧ ∀ b ∈ xs.zip nss, Dv K T M H (.tup (b.2.map .int)) b.1
  | [], xs, h => by cases (show xs = [] from h); exact ⟨rfl, rfl, fun _ z => nomatch z⟩
  | ns :: nss, xs, h => by
    obtain ⟨x, r, rfl, h1, h2⟩ := h
    obtain ⟨a, b, c⟩ := dvs_zip h2
    refine ⟨by simp [a], by simp [b], fun p hp => ?_⟩
    rcases List.mem_cons.mp hp with rfl | z
    · exact h1
    · exact c p z
theorem dvs_unzip {K : PySem.W.Frag} {T : Cl} {M : Ms} {H : Hp} : ∀ {bs : List (V × List Int)}, (∀ b ∈ bs, Dv K T M H (.tup (b.2.map .int)) b.1) → DvS K T M H ((bs.map (·.2)).map fun ns => D.tup (ns.map .int)) (bs.map (·.1))
  | [], _ => rfl
  | b :: bs, h => ⟨_, _, rfl, h b List.mem_cons_self, dvs_unzip fun c hc => h c (List.mem_cons_of_mem _ hc)⟩
theorem toPs_ints : ∀ ns : List Int, toPs (ns.map D.int) = some (ns.map PyData.int)
  | [] => by simp only [List.map_nil, toPs]
  | n :: ns => by simp only [List.map_cons, toPs, toP, toPs_ints ns]
theorem cd_sortedT (hK : F.K = X.K) (hu : X.A.units + 3 < cLine) : CallR X (.builtin "sorted") (rCs F dSortedT) := by
  obtain ⟨K, T, M0, pa, H0⟩ := F
  cases hK
  refine CallR.imp (cr_sortL hu) ?_
  rintro vs H Q ⟨M, ds, r, hm, hx, g, q⟩
  have main : ∀ (es : List D) (v : V), Do X.K T M H (.lst es) v → ∀ nss, tupIs es = some nss → r = D.lst ((srtL nss).map fun ns => .tup (ns.map .int)) → rSrtL X.K [v] H Q := by
    intro es v hv nss hn er
    subst er
    obtain ⟨rfl, hne⟩ := tupIs_ok hn
    obtain ⟨a, xs, rfl, ha, dv⟩ := hv.lst
    obtain ⟨z1, z2, z3⟩ := dvs_zip dv
    refine ⟨a, xs.zip nss, rfl, by rw [z1]; exact SqL.of ha, fun b hb => ⟨hne _ (by rw [← z2]; exact List.mem_map.mpr ⟨b, hb, rfl⟩), Dv.dp _ (z3 b hb) (by simp only [toP, toPs_ints, Option.map_some])⟩, fun bs' p pm po hp => ?_⟩
    have e : bs'.map (·.2) = srtL nss := List.Perm.eq_of_pairwise (le := (· ≤ ·)) (fun a b _ _ h1 h2 => List.le_antisymm h1 h2) po (srtL_ord nss) (((pm.map (·.2)).trans (by rw [z2])).trans (srtL_perm nss).symm)
    have hmp : ¬ M p := fun m => hm p m hp
    refine q _ _ (Ext.new hp) ⟨p, _, rfl, hmp, upd_same, ?_⟩
    rw [← e]
    exact DvS.ext (Ext.new hp) _ (dvs_unzip fun b hb => z3 b (pm.mem_iff.mp hb))
  cases hx with
  | nil => cases g
  | cons h t =>
    rename_i d v ds' vs'
    cases t with
    | nil =>
      cases d with
      | lst es =>
        simp only [dSortedT, Option.map_eq_some_iff] at g
        obtain ⟨nss, g1, g2⟩ := g
        exact main es v h nss g1 g2.symm
      | _ => cases g
    | cons h2 t2 => cases d <;> cases g
end
end SC

set_option Elab.async false
set_option linter.all false
set_option maxRecDepth 100000
namespace SC
open PySem PySem.Spec PyProof.Rows L2

/-! ### len(set(xs)), xs a list of tuples of whole numbers -/
def tLenSetT (K : PySem.W.Frag) (ta : TE) : TE := fun σ H Q => ta σ H fun x H1 => ∃ (l : Addr) (ks : List (Addr × List Int)), x = V.ref l ∧ SqL K H1 l (ks.map fun p => V.ref p.1) ∧ (∀ p ∈ ks, SqT K H1 p.1 (p.2.map V.int)) ∧ ks.length < 64 ∧
  ∀ L : List (Addr × List Int), (L.map (·.2)).Nodup → (∀ p ∈ L, p ∈ ks) → (∀ p ∈ ks, p.2 ∈ L.map (·.2)) → Q (.int (L.length : Nat)) H1
section
variable {X : Cx}
theorem pe_lenSetT {a : Expr} {ta : TE} {p p2 q pos : Pos} (hc : X.calm = true) (hu : X.A.units + 64 < cLine) (hg : Gl X "len") (hm : X.mg "len" = none) (hg2 : Gl X "set") (hm2 : X.mg "set" = none) (ha : PE X a ta)
    (na : starEach [a] X.env = (false, eval a X.env) :: starEach [] X.env := by rfl) : PE X (.Call (.Name "len" p) [.Call (.Name "set" p2) [a] [] q] [] pos) (tLenSetT X.K ta) := by
  refine ⟨fun pins s σ H Q I h => ?_⟩
  refine Call_ (ld_blt I hg hm PySem.boot_len ?_)
  refine PyProof.Rows.callWith_builtin1 (PyProof.Rows.args_cons ?_ rfl) rfl rfl
  refine Call_ (ld_blt I hg2 hm2 PyProof.Rows.boot_set ?_)
  refine PyProof.Rows.callWith_type1 (PyProof.Rows.args_cons (thn (ha.run pins s σ H _ I h) fun v s1 ⟨x, H1, I1, r1, q1⟩ => PyProof.Rows.args_nil ?_) na) na rfl
  obtain ⟨l, ks, rfl, hq, hk, hf, q1⟩ := q1
  cases r1
  obtain ⟨its, r, pl, hz⟩ := I1.list hq
  refine call_set_tups (P := X.prog) (w := X.w) ks (I1.ok.hd hc) pl.isList (by simpa using refs_of_vals r) (fun p hp => I1.isT (hk p hp)) hf (by omega) fun h' tk L es ep t R g k => ?_
  refine PyProof.Rows.args_nil ?_
  have hfew := R.few
  have R' : SetTR X.prog X.w ({ s1 with heap := h', toks := tk } : Shared).heap s1.heap.objs.size L es ep t := R
  have hsz := R'.size
  have hfit : t.fits es.size = true := R'.fits
  obtain ⟨o, ho, hex, hd⟩ := R.ob
  have I2 : Inv X pins σ H1 { s1 with heap := h', toks := tk } := I1.kept k
  refine call_len_set (s := { s1 with heap := h', toks := tk }) ho hex hd hfit (by rw [show es.size = L.length from hsz]; omega) ⟨.int (L.length : Nat), H1, I2.tok _, ⟨_, by rw [show es.size = L.length from hsz]⟩, ?_⟩
  exact q1 L R.nd (fun p hp => List.mem_of_mem_take (g.sub p hp)) fun p hp => g.all p (by rw [List.take_length]; exact hp)
end
def addNew (n : List Int) (l : List (List Int)) : List (List Int) := if n ∈ l then l else n :: l
def dedupL : List (List Int) → List (List Int)
  | [] => []
  | n :: r => addNew n (dedupL r)
theorem dedup_mem : ∀ (l : List (List Int)) (x : List Int), x ∈ dedupL l ↔ x ∈ l
  | [], x => Iff.rfl
  | n :: r, x => by
    have ih := dedup_mem r x
    unfold dedupL addNew
    split
    · rename_i h
      rw [ih, List.mem_cons]
      constructor
      · exact .inr
      · rintro (rfl | z)
        · exact (dedup_mem r x).mp h
        · exact z
    · rw [List.mem_cons, List.mem_cons, ih]
theorem dedup_nd : ∀ l : List (List Int), (dedupL l).Nodup
  | [] => List.nodup_nil
  | n :: r => by
    unfold dedupL addNew
    split
    · exact dedup_nd r
    · rename_i h
      exact List.nodup_cons.mpr ⟨h, dedup_nd r⟩
theorem len_of_mem {a b : List (List Int)} (h1 : a.Nodup) (h2 : b.Nodup) (h : ∀ x, x ∈ a ↔ x ∈ b) : a.length = b.length :=
  ((List.perm_ext_iff_of_nodup h1 h2).mpr h).length_eq
def fLenSet (fa : FE) : FE := fun ρ => match fa ρ with
  | some (.dat (.lst ds), ρ1) => match tupIs ds with
    | some nss => if nss.length < 64 then some (.dat (.int ((dedupL nss).length : Nat)), ρ1) else none
    | none => none
  | _ => none
theorem dvs_refs {K : PySem.W.Frag} {T : Cl} {M : Ms} {H : Hp} : ∀ {nss : List (List Int)} {xs : List V}, DvS K T M H (nss.map fun ns => D.tup (ns.map .int)) xs → ∃ ks : List (Addr × List Int), ks.map (·.2) = nss ∧ ks.map (fun p => V.ref p.1) = xs ∧ ∀ p ∈ ks, SqT K H p.1 (p.2.map V.int)
  | [], xs, h => by cases (show xs = [] from h); exact ⟨[], rfl, rfl, fun _ z => nomatch z⟩
  | ns :: nss, xs, h => by
    obtain ⟨x, r, rfl, ⟨a, ys, rfl, hs, hd⟩, h2⟩ := h
    obtain ⟨ks, e1, e2, e3⟩ := dvs_refs h2
    have := hd.ints
    subst this
    refine ⟨(a, ns) :: ks, by simp [e1], by simp [e2], fun p hp => ?_⟩
    rcases List.mem_cons.mp hp with rfl | z
    · exact hs
    · exact e3 p z
section
variable {X : Cx} {F : Fx}
theorem de_lenSet {a : Expr} {fa : FE} {p p2 q pos : Pos} (hK : F.K = X.K) (hc : X.calm = true) (hu : X.A.units + 64 < cLine) (hg : Gl X "len") (hm : X.mg "len" = none) (hg2 : Gl X "set") (hm2 : X.mg "set" = none) (ha : PE X a (TEd F fa))
    (na : starEach [a] X.env = (false, eval a X.env) :: starEach [] X.env := by rfl) : PE X (.Call (.Name "len" p) [.Call (.Name "set" p2) [a] [] q] [] pos) (TEd F (fLenSet fa)) := by
  obtain ⟨K, T, M0, pa, H0⟩ := F
  cases hK
  refine PE.imp (pe_lenSetT hc hu hg hm hg2 hm2 ha na) ?_
  rintro σ H Q ⟨M, ρ, o, ρ', R, hf, q⟩
  unfold fLenSet at hf
  split at hf
  · rename_i ds ρ1 e1
    split at hf
    · rename_i nss e2
      split at hf
      · rename_i hl
        cases hf
        refine ⟨M, ρ, _, _, R, e1, fun v M1 H1 s1 R1 k1 ok1 => ?_⟩
        obtain ⟨rfl, _⟩ := tupIs_ok e2
        obtain ⟨l, xs, rfl, _, hq, dv⟩ := (show Dv X.K T M1 H1 (.lst _) v from ok1)
        obtain ⟨ks, k1', k2, k3⟩ := dvs_refs dv
        refine ⟨l, ks, rfl, by rw [k2]; exact SqL.of hq, k3, by rw [← k1', List.length_map] at hl; exact hl, fun L n1 n2 n3 => ?_⟩
        have e : (dedupL nss).length = L.length := by
          rw [← List.length_map (f := fun p : Addr × List Int => p.2) (as := L)]
          refine len_of_mem (dedup_nd _) n1 fun x => ?_
          rw [dedup_mem, ← k1']
          constructor
          · intro hx
            obtain ⟨p, hp, rfl⟩ := List.mem_map.mp hx
            exact n3 p hp
          · intro hx
            obtain ⟨p, hp, rfl⟩ := List.mem_map.mp hx
            exact List.mem_map.mpr ⟨p, n2 p hp, rfl⟩
        rw [← e]
        exact q _ M1 H1 s1 R1 k1 rfl
      · cases hf
    · cases hf
  · cases hf
end
end SC

set_option Elab.async false
set_option linter.all false
set_option maxRecDepth 100000
namespace SC
open PySem PySem.Spec PyProof.Rows L2

/-! ### max of a tuple of whole numbers -/
def dMaxT : List D → Option D
  | [.tup ds] => match allI ds with
    | some (n :: ns) => some (.int (ns.foldl max n))
    | _ => none
  | _ => none
theorem data_ints : ∀ n ∈ ([] : List Int), True := fun _ _ => trivial
theorem alikeAll_ints (ns : List Int) : PySem.W.AlikeAll (ns.map PyData.int) := by
  constructor
  · intro x hx y hy
    obtain ⟨a, _, rfl⟩ := List.mem_map.mp hx
    obtain ⟨b, _, rfl⟩ := List.mem_map.mp hy
    simp [PySem.W.alike]
  · intro x hx
    obtain ⟨a, _, rfl⟩ := List.mem_map.mp hx
    exact fun h => nomatch h
section
variable {X : Cx} {F : Fx}
theorem cr_maxT (hc : X.calm = true) (hu : X.A.units + 3 < cLine) : CallR X (.builtin "max") (fun vs H Q => ∃ (a : Addr) (n : Int) (ns : List Int), vs = [V.ref a] ∧ SqT X.K H a ((n :: ns).map V.int) ∧ Q (.int (ns.foldl max n)) H) := by
  intro pins s σ H vs us Q I r h
  obtain ⟨a, n, ns, rfl, hs, q⟩ := h
  obtain ⟨its, rv, hl, _⟩ := I.tuple hs
  rw [Vals.ref1 r]
  have hi := rv.ints
  have rd := hi.reads s.heap
  refine PySem.W.max_tuple_data (x := PyData.int n) (xs := ns.map PyData.int) (I.ok.hd hc) hl rd (alikeAll_ints (n :: ns)) ?_ ?_
  · have : PyData.depthAll (PyData.int n :: ns.map PyData.int) = 0 := PySem.W.depth_ints (n :: ns)
    rw [this]
    omega
  · intro i v h' tk bs _ hv hk
    rw [PySem.W.maxD_ints] at hv
    cases hv
    exact ⟨.int (ns.foldl max n), H, I.kept hk, ⟨_, rfl⟩, q⟩
theorem cd_maxT (hK : F.K = X.K) (hc : X.calm = true) (hu : X.A.units + 3 < cLine) : CallR X (.builtin "max") (rCs F dMaxT) := by
  obtain ⟨K, T, M0, pa, H0⟩ := F
  cases hK
  refine CallR.imp (cr_maxT hc hu) ?_
  rintro vs H Q ⟨M, ds, r, hm, hx, g, q⟩
  match ds, g with
  | [.tup ds], g =>
    simp only [dMaxT] at g
    split at g
    · rename_i n ns e1
      cases g
      obtain ⟨v, rfl, h⟩ := paired1 hx
      obtain ⟨a, us, rfl, ha, ra⟩ := h.tup
      rw [allI_eq e1] at ra
      rw [ra.ints] at ha
      exact ⟨a, n, ns, rfl, ha, q _ _ Ext.rfl rfl⟩
    · cases g
end
end SC

set_option Elab.async false
set_option linter.all false
set_option maxRecDepth 100000
namespace SC
open PySem PySem.Spec PyProof.Rows L2

/-! ### calls by keywords alone -/
theorem PK.imp {X : Cx} {kws : List Keyword} {t t' : TA} (h : PK X kws t) (g : ∀ σ H Q, t' σ H Q → t σ H Q) : PK X kws t' := ⟨fun pos pins s σ H Q I hw => h.run pos pins s σ H Q I (g _ _ _ hw)⟩
section
variable {X : Cx} {F : Fx} {e : Expr} {kws : List Keyword} {nm : Option Str} {kpos : Pos} {fa : FE} {fr : FA}
theorem dk_nil : PK X [] (TAd F fNil) := by
  refine PK.imp pk_nil ?_
  rintro σ H Q ⟨M, ρ, os, ρ', R, hf, q⟩
  cases hf
  exact q [] M H (fun _ z => z) R Keep.rfl .nil
theorem dk_cons (ha : PE X e (TEd F fa)) (hr : PK X kws (TAd F fr)) : PK X (⟨nm, e, kpos⟩ :: kws) (TAd F (fCons fa fr)) := by
  refine PK.imp (pk_cons ha hr) ?_
  rintro σ H Q ⟨M, ρ, os, ρ', R, hf, q⟩
  unfold fCons at hf
  cases e1 : fa ρ with
  | none => rw [e1] at hf; cases hf
  | some p1 =>
    obtain ⟨o1, ρ1⟩ := p1
    rw [e1] at hf
    simp only at hf
    cases e2 : fr ρ1 with
    | none => rw [e2] at hf; cases hf
    | some p2 =>
      obtain ⟨o2, ρ2⟩ := p2
      rw [e2] at hf
      cases hf
      exact ⟨M, ρ, o1, ρ1, R, e1, fun x M1 H1 s1 R1 k1 ok1 => ⟨M1, ρ1, o2, _, R1, e2, fun y M2 H2 s2 R2 k2 ok2 => q _ M2 H2 (fun z m => s1 z (s2 z m)) R2 (k1.trans (k2.mono s1)) (.cons (OpdOk.less s2 (OpdOk.keep R1.mm k2 ok1)) ok2)⟩⟩
end
/-- the items at these places -/
def pickL {α : Type} (is : List Nat) (xs : List α) : List α := is.filterMap fun i => xs[i]?
def fPerm (is : List Nat) (fa : FA) : FA := fun ρ => match fa ρ with
  | some (os, ρ') => some (pickL is os, ρ')
  | none => none
def tPerm (is : List Nat) (t : TA) : TA := fun σ H Q => t σ H fun vs H1 => Q (pickL is vs) H1
theorem paired_get {α β : Type} {R : α → β → Prop} : ∀ {as : List α} {bs : List β}, Paired R as bs → ∀ i : Nat, (as[i]? = none ∧ bs[i]? = none) ∨ ∃ a b, as[i]? = some a ∧ bs[i]? = some b ∧ R a b
  | _, _, .nil, i => .inl ⟨by simp, by simp⟩
  | _, _, .cons h t, 0 => .inr ⟨_, _, rfl, rfl, h⟩
  | _, _, .cons h t, i + 1 => by simpa using paired_get t i
theorem paired_pick {α β : Type} {R : α → β → Prop} {as : List α} {bs : List β} (h : Paired R as bs) : ∀ is : List Nat, Paired R (pickL is as) (pickL is bs)
  | [] => .nil
  | i :: is => by
    have ih := paired_pick h is
    unfold pickL at ih ⊢
    rw [List.filterMap_cons, List.filterMap_cons]
    rcases paired_get h i with ⟨e1, e2⟩ | ⟨a, b, e1, e2, r⟩
    · rw [e1, e2]; exact ih
    · rw [e1, e2]; exact .cons r ih
theorem vals_pick {vs : List V} {us : List Value} (h : Vals vs us) : ∀ is : List Nat, Vals (pickL is vs) (pickL is us) := by
  have key : ∀ {vs : List V} {us : List Value}, Vals vs us → ∀ i : Nat, (vs[i]? = none ∧ us[i]? = none) ∨ ∃ a b, vs[i]? = some a ∧ us[i]? = some b ∧ RelV a b := by
    intro vs us h
    induction h with
    | nil => intro i; exact .inl ⟨by simp, by simp⟩
    | cons h t ih =>
      intro i
      cases i with
      | zero => exact .inr ⟨_, _, rfl, rfl, h⟩
      | succ i => simpa using ih i
  intro is
  induction is with
  | nil => exact .nil
  | cons i is ih =>
    unfold pickL at ih ⊢
    rw [List.filterMap_cons, List.filterMap_cons]
    rcases key h i with ⟨e1, e2⟩ | ⟨a, b, e1, e2, r⟩
    · rw [e1, e2]; exact ih
    · rw [e1, e2]; exact .cons r ih
theorem perm_read {F : Fx} {is : List Nat} {fa : FA} {σ : Sg} {H : Hp} {Q : List V → Hp → Prop} (h : TAd F (fPerm is fa) σ H Q) : tPerm is (TAd F fa) σ H Q := by
  obtain ⟨M, ρ, os, ρ', R, hf, q⟩ := h
  unfold fPerm at hf
  cases e1 : fa ρ with
  | none => rw [e1] at hf; cases hf
  | some p1 =>
    obtain ⟨o1, ρ1⟩ := p1
    rw [e1] at hf
    cases hf
    exact ⟨M, ρ, o1, _, R, e1, fun vs M1 H1 s1 R1 k1 ok1 => q _ M1 H1 s1 R1 k1 (paired_pick ok1 is)⟩
theorem faLen_perm {is : List Nat} {fa : FA} {n : Nat} (h : FaLen fa n) (hi : ∀ i ∈ is, i < n) : FaLen (fPerm is fa) is.length := ⟨fun ρ os ρ' e => by
  unfold fPerm at e
  split at e
  · rename_i o1 ρ1 e1
    cases e
    have hl := h.eq _ _ _ e1
    clear e1
    induction is with
    | nil => rfl
    | cons i is ih =>
      unfold pickL at ih ⊢
      have hi0 : i < o1.length := by rw [hl]; exact hi i List.mem_cons_self
      rw [List.filterMap_cons, List.getElem?_eq_getElem hi0]
      exact congrArg (· + 1) (ih fun j hj => hi j (List.mem_cons_of_mem _ hj))
  · cases e⟩
/-! ### defs at hand with their text -/
structure DefX (P : Program) (w : World) (K : PySem.W.Frag) (mg : Str → Option Value) (base : Heap) (T : Cl) (k : Nat) (f : Addr) (name qual : Str) (params : Arguments) (body : List Stmt) (scope : Scope) (ps : List Str) (g : FG) : Prop where
  ex : ∃ fd, FunD K name qual params body scope [] [] f fd ∧ FnOk P w K mg base CX0 k f fd ps (spO K T ps.length g)
theorem DefX.T {P : Program} {w : World} {K : PySem.W.Frag} {mg : Str → Option Value} {base : Heap} {k : Nat} {f : Addr} {name qual : Str} {params : Arguments} {body : List Stmt} {scope : Scope} {ps : List Str} {g : FG} {T0 : Cl} {F : Fx} (h : DefX P w K mg base T0 k f name qual params body scope ps g) (hT : F.T = T0) : DefX P w K mg base F.T k f name qual params body scope ps g := by rw [hT]; exact h
section
variable {P : Program} {w : World} {K : PySem.W.Frag} {mg : Str → Option Value} {base : Heap} {T : Cl} {k : Nat} {f : Addr} {fd : FuncData} {name qual : Str} {params : Arguments} {body : List Stmt} {scope : Scope} {N ps : List Str} {asg : List Nat} {fb : FB} {g : FG}
theorem FunD.defX (Fd : FunD K name qual params body scope [] [] f fd) (S : FnScope N ps scope)
    (go : ∀ (cdv : Value) (A : Around) (outer : List Env) (s : Shared) (H : Hp) (E : XK), Room k (A.deeper (envOfC qual scope s.heap.objs.size f cdv)) → ∀ F : Fx, F.K = K → F.T = T → PaOk F ps.length asg →
      PSs (bodyCx P w K mg base N qual scope f cdv A outer s H E) body (TSd F fb)) : DefX P w K mg base T (k + 1) f name qual params body scope ps (fnD N.length asg fb) := by
  have Fd0 := Fd
  obtain ⟨oc, od, dV, kV, doc, pm, an, cdv, ct, osl, rfl, lk, hcd, _, _⟩ := Fd.ex
  exact ⟨⟨_, Fd0, okD lk hcd S (go cdv)⟩⟩
theorem DefX.def1 (D : DefX P w K mg base T k f name qual params body scope ps g) (hb : ∀ (kV doc pm : Value) (an : Option Addr) (cdv ct : Value) (us : List Value), us.length = ps.length → bindArgs (PySem.W.fnOf name qual params body scope .none kV doc pm an cdv ct) ⟨us, []⟩ = pure (ps.zip us)) : Def1 P w K mg base T k f ps g := by
  obtain ⟨fd, Fd, Fn⟩ := D.ex
  exact ⟨⟨fd, Fd.bindsN hb, Fn⟩, Fd.kp⟩
/-- n0 bound values ahead, the keywords' values at the places is -/
def KwB (fd : FuncData) (ps : List Str) (n0 : Nat) (ks : List Str) (is : List Nat) : Prop := ∀ (s : Shared) (us ws : List Value), us.length = n0 → ws.length = ks.length → BindsTo s fd ⟨us, ks.zip ws⟩ (ps.zip (us ++ pickL is ws))
abbrev KwEq (name qual : Str) (params : Arguments) (body : List Stmt) (scope : Scope) (ps : List Str) (n0 : Nat) (ks : List Str) (is : List Nat) : Prop :=
  ∀ (kV doc pm : Value) (an : Option Addr) (cdv ct : Value) (us ws : List Value), us.length = n0 → ws.length = ks.length → bindArgs (PySem.W.fnOf name qual params body scope .none kV doc pm an cdv ct) ⟨us, ks.zip ws⟩ = pure (ps.zip (us ++ pickL is ws))
theorem FunD.kwB {n0 : Nat} {ks : List Str} {is : List Nat} (Fd : FunD K name qual params body scope [] [] f fd) (h : KwEq name qual params body scope ps n0 ks is) : KwB fd ps n0 ks is := by
  obtain ⟨oc, od, dV, kV, doc, pm, an, cdv, ct, osl, rfl, lk, hcd, hD, hK⟩ := Fd.ex
  rcases hD with ⟨_, rfl⟩ | ⟨e, _⟩
  · exact fun s us ws l1 l2 => .of_eq (h kV doc pm an cdv ct us ws l1 l2)
  · exact absurd rfl e
end
section
variable {X : Cx} {F : Fx} {T : Cl} {j k n c : Nat} {f pr : Addr} {fd : FuncData} {name qual : Str} {params : Arguments} {body : List Stmt} {scope : Scope} {ps ks : List Str} {is : List Nat} {g : FG} {x m : Str} {p pos apos : Pos} {o e : Expr} {kws : List Keyword} {fa : FA} {fo : FE} {sp : Sp} {E : XK} {tk : TA} {pl : Sem Bool}
theorem run_fnK {pins : List (Addr × Obj)} {σ : Sg} {H : Hp} {s : Shared} {Q : VK} {n0 : Nat} {us ws : List Value} {vs zs : List V} (Fn : FnOk X.prog X.w X.K X.mg X.base CX0 k f fd ps sp) (hr : Room k X.A) (hb : KwB fd ps n0 ks is) (I : Inv X pins σ H s) (r : Vals vs us) (rz : Vals zs ws) (l1 : us.length = n0) (l2 : ws.length = ks.length)
    (h : sp (vs ++ pickL is zs) H Q fun _ _ _ => False) : wpAny (model X.prog X.w) X.A (call (.ref f) us (ks.zip ws)) (EP X pins σ Q) X.xe s := by
  refine wpAny_call (codeAny_mono (Fn.run X.A X.stack s H ⟨us, ks.zip ws⟩ (us ++ pickL is ws) (vs ++ pickL is zs) Q _ hr I.env0 (hb s us ws l1 l2) (r.append (vals_pick rz is)) h) fun r s' hq => ?_)
  cases r with
  | error e => exact passes0 (E := fun _ _ _ => False) pins σ H s e s' I hq
  | ok fl =>
    cases fl with
    | ret u => exact I.after hq
    | next => exact False.elim hq
    | brk => exact False.elim hq
    | cont => exact False.elim hq
/-- the number of keywords' values -/
def tLen (n : Nat) (t : TA) : TA := fun σ H Q => t σ H fun vs H1 => vs.length = n ∧ Q vs H1
theorem tLen_of {G : Fx} {fa : FA} {n : Nat} (hl : FaLen fa n) {σ : Sg} {H : Hp} {Q : List V → Hp → Prop} (h : TAd G fa σ H Q) : tLen n (TAd G fa) σ H Q := by
  obtain ⟨M, ρ, os, ρ', R, hf, q⟩ := h
  exact ⟨M, ρ, os, ρ', R, hf, fun vs M1 H1 s1 R1 k1 ok1 => ⟨by rw [← Paired.length ok1]; exact hl.eq _ _ _ hf, q vs M1 H1 s1 R1 k1 ok1⟩⟩
/-- f(k = e, ..) -/
theorem pe_callKw (Fn : FnOk X.prog X.w X.K X.mg X.base CX0 k f fd ps sp) (hr : Room k X.A) (hg : Gl X x) (hm : X.mg x = some (.ref f)) (hk : PySem.W.keepIn X.K (.ref f) = true) (hb : KwB fd ps 0 ks is) (hkw : PK X kws tk)
    (hall : (backToKw pos (keywordEach kws X.env)).all (·.1.isSome) = true) (hnone : ((backTo pos (starEach [] X.env)).any (·.1) || (backToKw pos (keywordEach kws X.env)).any (·.1.isNone)) = false) (hks : (backToKw pos (keywordEach kws X.env)).filterMap (·.1) = ks) (hdb : (x == ("__debug__" : Str)) = false) :
    PE X (.Call (.Name x p) [] kws pos) (tCall sp [] (fun _ _ _ => False) (tPerm is (tLen ks.length tk))) := by
  refine ⟨fun pins s σ H Q I h => ?_⟩
  refine wpAny_Call_Name_kw (ld_glob I hg hm ?_ hdb)
  refine PySem.W.callWith_KW0 (h₀ := X.base) I.ok.mod.kin hk hall (thn (hkw.run pos pins s σ H _ I h) fun ws s2 ⟨zs, H2, I2, rz, l, q2⟩ => ⟨I2.kIn, ?_⟩) hnone
  rw [hks]
  have q3 : sp (pickL is zs ++ []) H2 Q fun _ _ _ => False := q2
  rw [List.append_nil] at q3
  exact run_fnK (us := []) (vs := []) Fn hr hb I2 .nil rz rfl (rz.length.symm.trans l) q3
theorem de_callKw (hK : F.K = X.K) (D1 : DefX X.prog X.w X.K X.mg X.base F.T j f name qual params body scope ps g) (hq : KwEq name qual params body scope ps 0 ks is) (hr : Room k X.A) (hjk : j ≤ k) (hg : Gl X x) (hm : X.mg x = some (.ref f)) (hkw : PK X kws (TAd F fa)) (hl : FaLen fa ks.length) (hi : ∀ i ∈ is, i < ks.length) (hn : is.length = ps.length)
    (hall : (backToKw pos (keywordEach kws X.env)).all (·.1.isSome) = true) (hnone : ((backTo pos (starEach [] X.env)).any (·.1) || (backToKw pos (keywordEach kws X.env)).any (·.1.isNone)) = false) (hks : (backToKw pos (keywordEach kws X.env)).filterMap (·.1) = ks) (hdb : (x == ("__debug__" : Str)) = false) :
    PE X (.Call (.Name x p) [] kws pos) (TEd F (fCall g [] (fPerm is fa))) := by
  obtain ⟨fd, Fd, Fn⟩ := D1.ex
  refine PE.imp (pe_callKw Fn (hr.mono hjk) hg hm Fd.kp (FunD.kwB Fd hq) hkw hall hnone hks hdb) fun σ H Q h => ?_
  rw [← hK]
  have h2 := call_read (n := ps.length) (dss := []) (dvs := []) (fun ρ os ρ' z => by rw [(faLen_perm hl hi).eq ρ os ρ' z, List.length_nil]; omega) (fun _ _ => rfl) h
  have h3 := perm_read h2
  exact tLen_of hl h3
/-- o.m(k = e, ..) -/
theorem de_methKw (hK : F.K = X.K) (hT : F.T = T) (ho : PE X o (TEd F fo)) (ck : CK X.K F.T c) (hm : Meth X.K (T.ad c) m f) (D1 : DefX X.prog X.w X.K X.mg X.base T j f name qual params body scope ps g) (hq : KwEq name qual params body scope ps 1 ks is) (hr : Room k X.A) (hjk : j ≤ k) (hkw : PK X kws (TAd F fa)) (hl : FaLen fa ks.length) (hi : ∀ i ∈ is, i < ks.length) (hn : is.length + 1 = ps.length) (hnf : m ∉ F.T.fl c)
    (hall : (backToKw pos (keywordEach kws X.env)).all (·.1.isSome) = true) (hnone : ((backTo pos (starEach [] X.env)).any (·.1) || (backToKw pos (keywordEach kws X.env)).any (·.1.isNone)) = false) (hks : (backToKw pos (keywordEach kws X.env)).filterMap (·.1) = ks)
    (ht : eval (.Call (.Attribute o m apos) [] kws pos) X.env = (do
      let ov ← eval o X.env
      standAt apos.atName
      let (f, first) ← holding [ov] (getMethod ov m pl)
      callWith pos f first (backTo pos (starEach [] X.env)) (backToKw pos (keywordEach kws X.env)))) : PE X (.Call (.Attribute o m apos) [] kws pos) (TEd F (fMeth c g [] fo (fPerm is fa))) := by
  subst hT
  obtain ⟨fd, Fd, Fn⟩ := D1.ex
  have P1 : PE X (.Call (.Attribute o m apos) [] kws pos) (tMeth (F.T.ad c) m (spO X.K F.T ps.length g) [] (fun _ _ _ => False) (TEd F fo) (tPerm is (tLen ks.length (TAd F fa)))) := by
    refine ⟨fun pins s σ H Q I h => ?_⟩
    refine PySem.W.methodCall_KW (pl := pl) (thn (ho.run pins s σ H _ I h) fun u s1 ⟨y, H1, I1, rx, a, dx, fs, ex, ea, l, q⟩ => ?_) ht
    subst ex
    obtain rfl : u = Value.ref a := rx
    refine getmeth_ok I1 ea ck.cls hm l ?_
    refine PySem.W.callWith_KW0 (first := [.ref a]) (h₀ := X.base) I.ok.mod.kin hm.kp hall (thn (hkw.run pos pins s1 σ H1 _ I1 q) fun ws s2 ⟨zs, H2, I2, rz, l2, q2⟩ => ⟨I2.kIn, ?_⟩) hnone
    rw [hks]
    have q3 : spO X.K F.T ps.length g (V.ref a :: (pickL is zs ++ [])) H2 Q fun _ _ _ => False := q2
    rw [List.append_nil] at q3
    exact run_fnK (us := [.ref a]) (vs := [.ref a]) Fn (hr.mono hjk) (FunD.kwB Fd hq) I2 (.cons rfl .nil) rz rfl (rz.length.symm.trans l2) q3
  obtain ⟨K, T, M0, pa, H0⟩ := F
  cases hK
  refine PE.imp P1 fun σ H Q h => ?_
  obtain ⟨M, ρ, o1, ρ1, R, e1, qq⟩ := meth_read (m := m) (dss := []) (dvs := []) (faLen_perm hl hi) (by simpa using hn) (fun _ _ => rfl) hnf h
  refine ⟨M, ρ, o1, ρ1, R, e1, fun v M1 H1 s1 R1 k1 ok1 => ?_⟩
  obtain ⟨a, dx, fs, c1, c2, c3, c4⟩ := qq v M1 H1 s1 R1 k1 ok1
  exact ⟨a, dx, fs, c1, c2, c3, tLen_of hl (perm_read c4)⟩
/-- C.m(k = e, ..), m a class method -/
theorem cmK (hK : F.K = X.K) (hT : F.T = T) (r : ClX.CRead X.K (T.ad c) (.type "type")) (cm : ClX.CMet X.K (T.ad c) (.type "type") m pr f) (D1 : DefX X.prog X.w X.K X.mg X.base T j f name qual params body scope ps g) (hq : KwEq name qual params body scope ps 1 ks is) (hr : Room k X.A) (hjk : j ≤ k)
    (ho : PE X (.Name x p) (tC (.ref (T.ad c)))) (hkw : PK X kws (TAd F fa)) (hl : FaLen fa ks.length) (hi : ∀ i ∈ is, i < ks.length) (hn : is.length + 1 = ps.length)
    (hall : (backToKw pos (keywordEach kws X.env)).all (·.1.isSome) = true) (hnone : ((backTo pos (starEach [] X.env)).any (·.1) || (backToKw pos (keywordEach kws X.env)).any (·.1.isNone)) = false) (hks : (backToKw pos (keywordEach kws X.env)).filterMap (·.1) = ks)
    (ht : eval (.Call (.Attribute (.Name x p) m apos) [] kws pos) X.env = (do
      let ov ← eval (.Name x p) X.env
      standAt apos.atName
      let (f, first) ← holding [ov] (getMethod ov m pl)
      callWith pos f first (backTo pos (starEach [] X.env)) (backToKw pos (keywordEach kws X.env)))) : PE X (.Call (.Attribute (.Name x p) m apos) [] kws pos) (TEd F (fCM c g (fPerm is fa))) := by
  subst hT
  obtain ⟨fd, Fd, Fn⟩ := D1.ex
  obtain ⟨K, T, M0, pa, H0⟩ := F
  cases hK
  have P1 : PE X (.Call (.Attribute (.Name x p) m apos) [] kws pos) (fun σ H Q => tC (.ref (T.ad c)) σ H fun y H1 => y = .ref (T.ad c) ∧ tPerm is (tLen ks.length (TAd ⟨X.K, T, M0, pa, H0⟩ fa)) σ H1 fun vs H2 => spO X.K T ps.length g (.ref (T.ad c) :: vs) H2 Q fun _ _ _ => False) := by
    refine ⟨fun pins s σ H Q I h => ?_⟩
    refine PySem.W.methodCall_KW (pl := pl) (thn (ho.run pins s σ H _ I h) fun u s1 ⟨y, H1, I1, rx, ex, q⟩ => ?_) ht
    subst ex
    obtain rfl : u = Value.ref (T.ad c) := rx
    refine ClX.getmethcm_ok I1 r cm fun s2 I2 => ?_
    refine PySem.W.callWith_of hnone (PySem.W.keeps_M cm.fi) (PyProof.Rows.evalArgs_kw2_nil hall (thn (hkw.run pos _ s2 σ H1 _ I2 q) fun ws s3 ⟨zs, H2, I3, rz, l2, q2⟩ => ⟨⟨ClX.pin_at I3, I3.kIn⟩, ?_⟩))
    rw [hks]
    have z : wpAny (model X.prog X.w) X.A (call (.ref s1.heap.objs.size) ([] ++ []) (ks.zip ws)) (EP X ((s1.heap.objs.size, PySem.W.methodObj (.ref f) (.ref (T.ad c))) :: pins) σ Q) X.xe s3 := by
      refine wpAny_call (PySem.W.method_call (ClX.pin_at I3) ?_)
      refine codeAny_mono (Fn.run X.A X.stack s3 H2 ⟨[.ref (T.ad c)], ks.zip ws⟩ ([.ref (T.ad c)] ++ pickL is ws) (V.ref (T.ad c) :: pickL is zs) Q (fun _ _ _ => False) (hr.mono hjk) I3.env0 (FunD.kwB Fd hq s3 [.ref (T.ad c)] ws rfl (rz.length.symm.trans l2)) (show Vals (V.ref (T.ad c) :: pickL is zs) ([Value.ref (T.ad c)] ++ pickL is ws) from .cons rfl (vals_pick rz is)) q2) fun r s' hq => ?_
      cases r with
      | error e => exact passes0 (E := fun _ _ _ => False) _ σ H2 s3 e s' I3 hq
      | ok fl =>
        cases fl with
        | ret u => exact I3.after hq
        | next => exact False.elim hq
        | brk => exact False.elim hq
        | cont => exact False.elim hq
    exact thn z fun _ _ y => ClX.unpinE y
  refine PE.imp P1 ?_
  rintro σ H Q ⟨M, ρ, o, ρ', R, hf, q⟩
  unfold fCM at hf
  cases e1 : fPerm is fa ρ with
  | none => rw [e1] at hf; cases hf
  | some p1 =>
    obtain ⟨os, ρ1⟩ := p1
    rw [e1] at hf
    simp only at hf
    have rd : TAd ⟨X.K, T, M0, pa, H0⟩ (fPerm is fa) σ H fun vs H2 => spO X.K T ps.length g (.ref (T.ad c) :: vs) H2 Q fun _ _ _ => False := by
      refine ⟨M, ρ, os, ρ1, R, e1, fun vs M1 H1 s1 R1 k1 ok1 => ?_⟩
      have lo := (faLen_perm hl hi).eq _ _ _ e1
      have cc := call_core (n := ps.length) (dvs := []) (dss := []) (os := .dat (.cl c) :: os) (vs := V.ref (T.ad c) :: vs) (Q := Q) (by rw [List.length_cons, lo, List.length_nil]; omega) (fun _ _ => rfl) hf R1 (.cons rfl ok1)
        fun v H3 R3 k3 ok3 => q v M1 H3 s1 R3 (k1.trans (k3.mono s1)) ok3
      rw [List.append_nil] at cc
      exact cc
    exact ⟨rfl, tLen_of hl (perm_read rd)⟩
/-- the call's node where the callee is an instance, with keywords -/
theorem callO_ofK {M : Model} {A : Around} {E : Value → Shared → Prop} {s : Shared} {a : Addr} {pos : Pos} {Q : Value → Shared → Prop} {args : List (Bool × Sem Value)} {kw : List (Option Str × Sem Value)} (hplain : (args.any (·.1) || kw.any (·.1.isNone)) = false)
    (h : wpAny M A (evalArgs (.ref a) true args kw) (fun z s₁ => (∃ C ox od, PySem.W.InstAt s₁.heap a ox C od ∧ ox.data = .plain) ∧ wpAny M A (call (.ref a) ([] ++ z.pos) z.kw) Q E s₁) E s) : wpAny M A (callWith pos (.ref a) [] args kw) Q E s := by
  unfold callWith
  refine wpAny_bind (wpAny_holding (wpAny_mono h (fun z s₁ h₁ => wpAny_bind (wpAny_standAt ?_)) fun _ _ y => y))
  obtain ⟨⟨C, ox, od, J, hd⟩, h₁⟩ := h₁
  have L := PySem.W.kco_keeper (M := M) J hd
  simp only [hplain]
  refine wpAny_bind (L.here ?_)
  have tail : ∀ {t : Sem Value}, wpAny M A t Q E s₁ → wpAny M A (t >>= fun r => holding [r] point >>= fun _ => pure r) Q E s₁ :=
    fun ht => wpAny_bind (wpAny_mono ht (fun r s₂ hr => wpAny_bind (wpAny_holding (wpAny_point (wpAny_pure hr)))) fun _ _ y => y)
  exact tail (wpAny_operateT h₁)
/-- o(k = e, ..), o an instance -/
theorem ciK (hK : F.K = X.K) (hT : F.T = T) (ho : PE X e (TEd F fo)) (co : StX.CallO X.K (T.ad c) f) (D1 : DefX X.prog X.w X.K X.mg X.base T j f name qual params body scope ps g) (hq : KwEq name qual params body scope ps 1 ks is) (hr : Room k X.A) (hjk : j ≤ k) (hkw : PK X kws (TAd F fa)) (hl : FaLen fa ks.length) (hi : ∀ i ∈ is, i < ks.length) (hn : is.length + 1 = ps.length)
    (hall : (backToKw pos (keywordEach kws X.env)).all (·.1.isSome) = true) (hnone : ((backTo pos (starEach [] X.env)).any (·.1) || (backToKw pos (keywordEach kws X.env)).any (·.1.isNone)) = false) (hks : (backToKw pos (keywordEach kws X.env)).filterMap (·.1) = ks)
    (ht : eval (.Call e [] kws pos) X.env = (do callWith pos (← eval e X.env) [] (backTo pos (starEach [] X.env)) (backToKw pos (keywordEach kws X.env)))) : PE X (.Call e [] kws pos) (TEd F (fCallI c g fo (fPerm is fa))) := by
  subst hT
  obtain ⟨fd, Fd, Fn⟩ := D1.ex
  obtain ⟨K, T, M0, pa, H0⟩ := F
  cases hK
  have P1 : PE X (.Call e [] kws pos) (fun σ H Q => TEd ⟨X.K, T, M0, pa, H0⟩ fo σ H fun y H1 => ∃ a, y = .ref a ∧ tPerm is (tLen ks.length (TAd ⟨X.K, T, M0, pa, H0⟩ fa)) σ H1 fun vs H2 => StX.InsC X H2 a (T.ad c) ∧ spO X.K T ps.length g (.ref a :: vs) H2 Q fun _ _ _ => False) := by
    refine ⟨fun pins s σ H Q I h => ?_⟩
    rw [ht]
    refine wpAny_bind (thn (ho.run pins s σ H _ I h) fun u s1 ⟨y, H1, I1, ry, a, ey, q⟩ => ?_)
    subst ey
    obtain rfl : u = Value.ref a := ry
    refine callO_ofK hnone (PyProof.Rows.evalArgs_kw2_nil hall (thn (hkw.run pos pins s1 σ H1 _ I1 q) fun ws s2 ⟨zs, H2, I2, rz, l2, hins, q2⟩ => ?_))
    rw [hks]
    obtain ⟨ox, od, J, hd⟩ := StX.insC_at I2 hins
    refine ⟨⟨T.ad c, ox, od, J, hd⟩, wpAny_call (PySem.W.kco_code I2.kIn J hd co.at_ co.fn co.fi ?_)⟩
    refine codeAny_mono (Fn.run X.A X.stack s2 H2 ⟨[.ref a], ks.zip ws⟩ ([Value.ref a] ++ pickL is ws) (V.ref a :: pickL is zs) Q (fun _ _ _ => False) (hr.mono hjk) I2.env0 (FunD.kwB Fd hq s2 [.ref a] ws rfl (rz.length.symm.trans l2)) (show Vals (V.ref a :: pickL is zs) ([Value.ref a] ++ pickL is ws) from .cons rfl (vals_pick rz is)) q2) fun r s' hq => ?_
    cases r with
    | error e => exact passes0 (E := fun _ _ _ => False) pins σ H2 s2 e s' I2 hq
    | ok fl =>
      cases fl with
      | ret u => exact I2.after hq
      | next => exact False.elim hq
      | brk => exact False.elim hq
      | cont => exact False.elim hq
  refine PE.imp P1 ?_
  rintro σ H Q ⟨M, ρ, r, ρ', R, hf, q⟩
  unfold fCallI at hf
  cases e1 : fo ρ with
  | none => rw [e1] at hf; cases hf
  | some p1 =>
    obtain ⟨o1, ρ1⟩ := p1
    rw [e1] at hf
    simp only at hf
    cases e2 : insOf (o1.get ρ1) with
    | none => rw [e2] at hf; cases hf
    | some p2 =>
      obtain ⟨c0, ds0⟩ := p2
      rw [e2] at hf
      simp only at hf
      cases e3 : fPerm is fa ρ1 with
      | none => rw [e3] at hf; cases hf
      | some p3 =>
        obtain ⟨os, ρ2⟩ := p3
        rw [e3] at hf
        simp only at hf
        cases e4 : insOf (o1.get ρ2) with
        | none => rw [e4] at hf; cases hf
        | some p4 =>
          obtain ⟨c', ds'⟩ := p4
          rw [e4] at hf
          simp only at hf
          split at hf
          case isFalse => cases hf
          case isTrue hc =>
          subst hc
          refine ⟨M, ρ, o1, ρ1, R, e1, fun x M1 H1 s1 R1 k1 ok1 => ?_⟩
          obtain ⟨p, dx, xs, rfl, hp, hl', dv⟩ := (R1.opd ok1 (insOf_some e2)).ins
          have rd : TAd ⟨X.K, T, M0, pa, H0⟩ (fPerm is fa) σ H1 (fun vs H2 => StX.InsC X H2 p (T.ad c') ∧ spO X.K T ps.length g (.ref p :: vs) H2 Q fun _ _ _ => False) := ?rd
          exact ⟨p, rfl, tLen_of hl (perm_read rd)⟩
          refine ⟨M1, ρ1, os, ρ2, R1, e3, fun vs M2 H2 s2 R2 k2 ok2 => ?_⟩
          have lo := (faLen_perm hl hi).eq _ _ _ e3
          have okr := OpdOk.less s2 (OpdOk.keep R1.mm k2 ok1)
          obtain ⟨p', dx2, xs2, e5, hp2, _, _⟩ := (R2.opd okr (insOf_some e4)).ins
          cases e5
          have cc := call_core (n := ps.length) (dvs := []) (dss := []) (os := o1 :: os) (vs := V.ref p :: vs) (Q := Q) (by rw [List.length_cons, lo]; simpa using hn) (fun _ _ => rfl) hf R2 (.cons okr ok2)
            fun v H3 R3 k3 ok3 => q v M2 H3 (fun b z => s1 b (s2 b z)) R3 ((k1.trans (k2.mono s1)).trans (k3.mono fun b z => s1 b (s2 b z))) ok3
          rw [List.append_nil] at cc
          exact ⟨.inr ⟨dx2, _, hp2⟩, cc⟩
end
/-! ### generators called by keywords -/
structure GenX (P : Program) (w : World) (K : PySem.W.Frag) (mg : Str → Option Value) (base : Heap) (T : Cl) (k : Nat) (f : Addr) (name qual : Str) (params : Arguments) (body : List Stmt) (scope : Scope) (ps : List Str) (g : List D → Option (List D)) : Prop where
  ex : ∃ fd, FunD K name qual params body scope [] [] f fd ∧ GFn P w K mg base k f fd ps (spY K T ps.length g)
section
variable {P : Program} {w : World} {K : PySem.W.Frag} {mg : Str → Option Value} {base : Heap} {T : Cl} {k : Nat} {f : Addr} {fd : FuncData} {name qual : Str} {params : Arguments} {body : List Stmt} {scope : Scope} {N ps : List Str} {fb : FGn} {g : List D → Option (List D)}
theorem FunD.genX (Fd : FunD K name qual params body scope [] [] f fd) (S : GScope N ps scope)
    (go : ∀ (cdv : Value) (A : Around) (outer : List Env) (s : Shared) (H : Hp) (E : XK) (pn : List (Addr × Obj)), Room k (A.deeper (envOfC qual scope s.heap.objs.size f cdv)) → ∀ F : Fx, F.K = K → F.T = T → PaOk F 0 [] →
      GSs (gcxOf P w K mg base N qual scope f cdv A outer s H E pn) body (TGnd F fb)) : GenX P w K mg base T (k + 1) f name qual params body scope ps (genD N.length fb) := by
  exact ⟨⟨fd, Fd, FunD.gen Fd S go⟩⟩
theorem GenX.gen1 (D : GenX P w K mg base T k f name qual params body scope ps g) (hb : ∀ (kV doc pm : Value) (an : Option Addr) (cdv ct : Value) (us : List Value), us.length = ps.length → bindArgs (PySem.W.fnOf name qual params body scope .none kV doc pm an cdv ct) ⟨us, []⟩ = pure (ps.zip us)) : Gen1 P w K mg base T k f ps g := by
  obtain ⟨fd, Fd, Fn⟩ := D.ex
  exact ⟨⟨fd, Fd.bindsN hb, Fn⟩, Fd.kp⟩
end
section
variable {X : Cx} {F : Fx} {T : Cl} {j k n : Nat} {f : Addr} {name qual : Str} {params : Arguments} {body : List Stmt} {scope : Scope} {ps ks : List Str} {is : List Nat} {g : List D → Option (List D)} {x y : Str} {p p2 pos pos2 : Pos} {kws : List Keyword} {fa : FA}
theorem dn_genKw (hK : F.K = X.K) (hT : F.T = T) (G1 : GenX X.prog X.w X.K X.mg X.base T j f name qual params body scope ps g) (hq : KwEq name qual params body scope ps 0 ks is) (hr : Room k X.A) (hjk : j + 3 ≤ k) (hg : Gl X x) (hm : X.mg x = none) (hv : bootBuiltins x = some (.type "list")) (hn : x ≠ "__name__") (hdb : (x == ("__debug__" : Str)) = false)
    (hgy : Gl X y) (hmy : X.mg y = some (.ref f)) (hkw : PK X kws (TAd F fa)) (hl : FaLen fa ks.length) (hi : ∀ i ∈ is, i < ks.length) (hln : is.length = ps.length) (hdby : (y == ("__debug__" : Str)) = false)
    (hall : (backToKw pos2 (keywordEach kws X.env)).all (·.1.isSome) = true) (hnone : ((backTo pos2 (starEach [] X.env)).any (·.1) || (backToKw pos2 (keywordEach kws X.env)).any (·.1.isNone)) = false) (hks : (backToKw pos2 (keywordEach kws X.env)).filterMap (·.1) = ks)
    (he2 : starEach [.Call (.Name y p2) [] kws pos2] X.env = (false, eval (.Call (.Name y p2) [] kws pos2) X.env) :: starEach [] X.env) : PE X (.Call (.Name x p) [.Call (.Name y p2) [] kws pos2] [] pos) (TEn F (nGen g (fPerm is fa))) := by
  subst hT
  obtain ⟨fd, Fd, Fn⟩ := G1.ex
  obtain ⟨K, T, M0, pa, H0⟩ := F
  cases hK
  have hrj : Room j X.A := hr.mono (by omega)
  have PG1 : PGen X j (.Call (.Name y p2) [] kws pos2) (L2.tCallG (spY X.K T ps.length g) [] (fun _ _ _ => False) (tPerm is (tLen ks.length (TAd ⟨X.K, T, M0, pa, H0⟩ fa)))) (fun _ _ _ => False) := by
    refine ⟨fun pins s σ H cont I h => ?_⟩
    refine wpAny_Call_Name_kw (ld_glob I hgy hmy ?_ hdby)
    refine PySem.W.callWith_KW0 (h₀ := X.base) I.ok.mod.kin Fd.kp hall (thn (hkw.run pos2 pins s σ H _ I h) fun ws s2 ⟨zs, H2, I2, rz, l2, q2⟩ => ⟨I2.kIn, ?_⟩) hnone
    rw [hks]
    have q3 : spY X.K T ps.length g (pickL is zs ++ []) H2 cont fun _ _ _ => False := q2
    rw [List.append_nil] at q3
    refine wpAny_call (codeAny_mono (Fn.run X.A X.stack s2 H2 ⟨[], ks.zip ws⟩ ([] ++ pickL is ws) (pickL is zs) cont (fun _ _ _ => False) hrj I2.env0 (FunD.kwB Fd hq s2 [] ws rfl (rz.length.symm.trans l2)) (vals_pick rz is) q3) fun r s' hq => ?_)
    cases r with
    | error e => exact False.elim hq
    | ok fl =>
      cases fl with
      | ret u => exact ⟨H2, s2, [], I2, .nil, hq⟩
      | next => exact False.elim hq
      | brk => exact False.elim hq
      | cont => exact False.elim hq
  refine PE.imp (pe_listG PG1 passesX nostop0 (hr.mono hjk) hg hm hv hn hdb he2) ?_
  rintro σ H Q ⟨M, ρ, out, ρ', R, hf, q⟩
  unfold nGen at hf
  cases e1 : fPerm is fa ρ with
  | none => rw [e1] at hf; cases hf
  | some p1 =>
    obtain ⟨os, ρ1⟩ := p1
    rw [e1] at hf
    simp only at hf
    cases e2 : datAll os with
    | none => rw [e2] at hf; cases hf
    | some ds =>
      rw [e2] at hf
      simp only at hf
      cases e3 : g ds with
      | none => rw [e3] at hf; cases hf
      | some o =>
        rw [e3] at hf
        cases hf
        have rd : TAd ⟨X.K, T, M0, pa, H0⟩ (fPerm is fa) σ H (fun vs H1 => spY X.K T ps.length g (vs ++ []) H1 (fun ys H2 => ∀ p, H2 p = none → Q (.ref p) (upd H2 p (.lst ys))) fun _ _ _ => False) := by
          refine ⟨M, ρ, os, _, R, e1, fun vs M1 H1 s1 R1 k1 ok1 => ?_⟩
          have dv := OpdsOk.datAll ok1 e2
          refine ⟨?_, M1, ds, _, R1.mm, by rw [List.append_nil]; exact dv, e3, fun ys H2 ex dvy p hp => ?_⟩
          · rw [List.append_nil, ← hln, ← (faLen_perm hl hi).eq _ _ _ e1]
            exact (Paired.length ok1).symm
          · obtain ⟨R2, n2⟩ := (R1.ke ex fun _ z => z.elim).newLst (k1.trans ((ex.all fun _ z => z.elim : Keep M1 H1 H2).mono s1)) s1 hp dvy
            exact q p _ _ (fun a z => z.imp (s1 a) id) R2 ((k1.trans ((ex.all fun _ z => z.elim : Keep M1 H1 H2).mono s1)).trans (Ext.new hp).keep) n2
        exact tLen_of hl (perm_read rd)
end
end SC

set_option Elab.async false
set_option linter.all false
set_option maxRecDepth 100000
namespace SC
open PySem PySem.Spec PyProof.Rows L2

/-! ### static methods over a star parameter alone -/
/-- C.m is a staticmethod: its record at p, its def at g -/
structure SMet (K : PySem.W.Frag) (C : Addr) (m : Str) (p g : Addr) : Prop where
  at_ : PySem.W.findCls K (.ref C) (.type "type") m = some (.get (.builtin "staticmethod.__get__") (.ref p) .none (.ref C))
  rc : ∃ rest, PySem.W.recIn K p "staticmethod" = some (.ref g :: rest)
theorem smB_ok {K : PySem.W.Frag} {C m : Str} (h : He5.wrapB K (He.ga K C) "staticmethod" "staticmethod.__get__" m = true) : SMet K (He.ga K C) m (He.ma K (He.ga K C) m) (He5.wf K (He.ga K C) "staticmethod" m) := by
  obtain ⟨h1, h2⟩ := He5.wrapB_ok h
  exact ⟨h1, h2⟩
/-- the promise of a def over *v: a datum from data -/
def spT (K : PySem.W.Frag) (T : Cl) (g : List D → Option D) : Sp := fun vs H Q _ => ∃ M ds r, MM T M H ∧ DvS K T M H ds vs ∧ ds.length ≤ sLn ∧ g ds = some r ∧ ∀ v H', Ke T (fun _ => False) H H' → Dv K T M H' r v → Q v H'
def outT : Option (D × List Sl) → Option D
  | some (r, _) => some r
  | none => none
def starG (N : Nat) (asg : List Nat) (fb : FB) (ds : List D) : Option D := outT (fnD N asg fb [.dat (.tup ds)])
theorem bind_star0 {B : List Value → Sem (List (Str × Value))} {pv : Str} (h0 : B [] = (newTuple [] >>= fun t => pure [(pv, t)])) (h1 : ∀ r rs, B (r :: rs) = (newTuple (r :: rs) >>= fun t => pure [(pv, t)])) :
    ∀ us rest : List Value, us.length = ([] : List Str).length → B (us ++ rest) = (newTuple rest >>= fun t => pure (([] : List Str).zip us ++ [(pv, t)]))
  | [], [], _ => h0
  | [], r :: rs, _ => h1 r rs
section
variable {P : Program} {w : World} {K : PySem.W.Frag} {mg : Str → Option Value} {base : Heap} {k : Nat} {f : Addr} {fd : FuncData} {T : Cl}
variable {name qual : Str} {params : Arguments} {body : List Stmt} {scope : Scope} {dV kV doc pm cdv ct oc : Value} {an od : Option Addr} {osl : Array (Option Value)} {N : List Str} {asg : List Nat} {fb : FB} {pv : Str}
theorem fnR_starO (lk : K.lookup f = some ⟨oc, od, .func (PySem.W.fnOf name qual params body scope dV kV doc pm an cdv ct), osl⟩) (hcd : PySem.W.codeIn K cdv qual = true) (S : FnScope N ([] ++ [pv]) scope)
    (hb : ∀ us rest : List Value, us.length = ([] : List Str).length → bindArgs (PySem.W.fnOf name qual params body scope dV kV doc pm an cdv ct) ⟨us ++ rest, []⟩ = (newTuple rest >>= fun t => pure (([] : List Str).zip us ++ [(pv, t)])))
    (go : ∀ (A : Around) (outer : List Env) (s : Shared) (H : Hp) (E : XK), Room k (A.deeper (envOfC qual scope s.heap.objs.size f cdv)) → ∀ F : Fx, F.K = K → F.T = T → PaOk F (([] : List Str) ++ [pv]).length asg →
      PSs (bodyCx P w K mg base N qual scope f cdv A outer s H E) body (TSd F fb)) :
    FnR P w K mg base CX0 (k + 1) f (spT K T (starG N.length asg fb)) := by
  have R := StX.fn_star (P := P) (w := w) (mg := mg) (base := base) (ps := []) (sp := spO K T (([] : List Str) ++ [pv]).length (fnD N.length asg fb)) lk hcd S StX.cxUp_none hb fun A outer s H vs Q E hr h => ⟨_, exF (go A outer s H E hr), spD_in S h⟩
  intro A outer s H us vs Q E hr e0 rv h
  obtain ⟨M, ds, r, mm, dv, hl, hg, q⟩ := h
  refine R A outer s H us _ Q E hr e0 rv ⟨[], vs, rfl, rfl, ?_, fun p hp => ?_⟩
  · have := dv.length
    rw [← sLn_eq]
    omega
  · have ex : Ext H (upd H p (.tup vs)) := Ext.new hp
    have dv2 : DvS K T M (upd H p (.tup vs)) [D.tup ds] [V.ref p] := DvS.cons ⟨p, _, rfl, SqT.of upd_same, DvS.ext ex _ dv⟩ DvS.nil
    have mm2 : MM T M (upd H p (.tup vs)) := mm.ext ex
    unfold starG at hg
    cases e : fnD N.length asg fb [.dat (.tup ds)] with
    | none => rw [e] at hg; cases hg
    | some pr =>
      obtain ⟨r', outs⟩ := pr
      rw [e] at hg
      cases hg
      refine ⟨rfl, M, _, _, _, se_data mm2 dv2, e, fun v H' kp ho dvr => q v H' ((Ext.ke (P := fun _ => False) ex).trans kp fun a ⟨i, s, z1, z2, z3⟩ => ?_) dvr⟩
      cases i with
      | zero => cases z1; cases z2
      | succ i => cases z1
theorem fnR_starOD (Fd : FunD K name qual params body scope [] [] f fd) (S : FnScope N ([] ++ [pv]) scope)
    (hb : ∀ (kV doc pm : Value) (an : Option Addr) (cdv ct : Value) (us rest : List Value), us.length = ([] : List Str).length → bindArgs (PySem.W.fnOf name qual params body scope .none kV doc pm an cdv ct) ⟨us ++ rest, []⟩ = (newTuple rest >>= fun t => pure (([] : List Str).zip us ++ [(pv, t)])))
    (go : ∀ (cdv : Value) (A : Around) (outer : List Env) (s : Shared) (H : Hp) (E : XK), Room k (A.deeper (envOfC qual scope s.heap.objs.size f cdv)) → ∀ F : Fx, F.K = K → F.T = T → PaOk F (([] : List Str) ++ [pv]).length asg →
      PSs (bodyCx P w K mg base N qual scope f cdv A outer s H E) body (TSd F fb)) : FnR P w K mg base CX0 (k + 1) f (spT K T (starG N.length asg fb)) := by
  obtain ⟨oc, od, dV, kV, doc, pm, an, cdv, ct, osl, rfl, lk, hcd, hD, _⟩ := Fd.ex
  rcases hD with ⟨_, rfl⟩ | ⟨e, _⟩
  · exact fnR_starO lk hcd S (hb kV doc pm an cdv ct) (go cdv)
  · exact absurd rfl e
end
def fST (g : List D → Option D) (fa : FA) : FE := fun ρ => match fa ρ with
  | none => none
  | some (os, ρ1) => match datAll os with
    | none => none
    | some ds => if ds.length ≤ sLn then match g ds with
      | some r => some (.dat r, ρ1)
      | none => none
      else none
section
variable {X : Cx} {F : Fx} {T : Cl} {j k c : Nat} {f pr : Addr} {g : List D → Option D} {x m : Str} {p pos apos : Pos} {e : Expr} {es : List Expr} {fa : FA} {pl : Sem Bool}
theorem getmethsm_ok {pins : List (Addr × Obj)} {σ : L2.St} {H : Hp} {s : Shared} {C : Addr} {A : Around} {E : Value → Shared → Prop} {Q : Value × List Value → Shared → Prop} (I : Inv X pins σ H s) (r : ClX.CRead X.K C (.type "type")) (k : SMet X.K C m pr f)
    (h : ∀ s', Inv X pins σ H s' → Q (.ref f, []) s') : wpAny (model X.prog X.w) A (getMethod (.ref C) m pl) Q E s := by
  obtain ⟨rest, hp⟩ := k.rc
  refine PySem.W.method_cls I.kIn r.ga (PySem.W.cls_bind I.kIn r.rd k.at_ ?_)
  refine wpAny_call (PySem.W.sm_get (s := { s with toks := s.toks + 1 }) I.kIn hp (PySem.W.handed_on rfl ?_))
  exact h _ (I.tok _)
theorem stD (hK : F.K = X.K) (hT : F.T = T) (r : ClX.CRead X.K (T.ad c) (.type "type")) (sm : SMet X.K (T.ad c) m pr f) (kp : PySem.W.keepIn X.K (.ref f) = true) (Fn : FnR X.prog X.w X.K X.mg X.base CX0 j f (spT X.K T g)) (hr : Room k X.A) (hjk : j ≤ k)
    (ho : PE X (.Name x p) (tC (.ref (T.ad c)))) (ha : PA X (e :: es) (TAd F fa))
    (hst : starEach (e :: es) X.env = (false, eval e X.env) :: starEach es X.env) (hpl : (backTo pos (starEach es X.env)).any (·.1) = false)
    (ht : eval (.Call (.Attribute (.Name x p) m apos) (e :: es) [] pos) X.env = (do
      let ov ← eval (.Name x p) X.env
      standAt apos.atName
      let (f, first) ← holding [ov] (getMethod ov m pl)
      callWith pos f first (backTo pos (starEach (e :: es) X.env)) (backToKw pos (keywordEach [] X.env)))) : PE X (.Call (.Attribute (.Name x p) m apos) (e :: es) [] pos) (TEd F (fST g fa)) := by
  subst hT
  obtain ⟨K, T, M0, pa, H0⟩ := F
  cases hK
  have P1 : PE X (.Call (.Attribute (.Name x p) m apos) (e :: es) [] pos) (fun σ H Q => tC (.ref (T.ad c)) σ H fun y H1 => y = .ref (T.ad c) ∧ TAd ⟨X.K, T, M0, pa, H0⟩ fa σ H1 fun vs H2 => spT X.K T g vs H2 Q fun _ _ _ => False) := by
    refine ⟨fun pins s σ H Q I h => ?_⟩
    refine PySem.W.methodCall_KW (pl := pl) (thn (ho.run pins s σ H _ I h) fun u s1 ⟨y, H1, I1, rx, ex, q⟩ => ?_) ht
    subst ex
    obtain rfl : u = Value.ref (T.ad c) := rx
    refine getmethsm_ok I1 r sm fun s2 I2 => ?_
    refine PySem.W.callWith_K (first := []) (h₀ := X.base) I.ok.mod.kin kp (thn (ha.run pos pins s2 σ H1 _ I2 q) fun us s3 ⟨vs, H2, I3, rv, q2⟩ => ⟨I3.kIn, ?_⟩) hst hpl
    exact wpAny_call (run_fnR (us := us) (vs := vs) Fn (hr.mono hjk) passes0 I3 rv q2)
  refine PE.imp P1 ?_
  rintro σ H Q ⟨M, ρ, o, ρ', R, hf, q⟩
  unfold fST at hf
  cases e1 : fa ρ with
  | none => rw [e1] at hf; cases hf
  | some p1 =>
    obtain ⟨os, ρ1⟩ := p1
    rw [e1] at hf
    simp only at hf
    cases e2 : datAll os with
    | none => rw [e2] at hf; cases hf
    | some ds =>
      rw [e2] at hf
      simp only at hf
      split at hf
      case isFalse => cases hf
      case isTrue hl =>
      cases e3 : g ds with
      | none => rw [e3] at hf; cases hf
      | some y =>
        rw [e3] at hf
        cases hf
        refine ⟨rfl, M, ρ, os, _, R, e1, fun vs M1 H1 s1 R1 k1 ok1 => ?_⟩
        have dv := OpdsOk.datAll ok1 e2
        exact ⟨M1, ds, y, R1.mm, dv, hl, e3, fun v H2 ex dvr => q v M1 H2 s1 (R1.ke ex fun _ z => z.elim) (k1.trans ((ex.all fun _ z => z.elim : Keep M1 H1 H2).mono s1)) dvr⟩
end
end SC

set_option Elab.async false
set_option linter.all false
set_option maxRecDepth 100000
namespace SC
open PySem PySem.Spec PyProof.Rows L2

/-! ### a property's setter -/
/-- C has the name as a property at p whose setter is the def at g -/
structure SetOf (K : PySem.W.Frag) (C : Addr) (f : Str) (p g : Addr) : Prop where
  own : PySem.W.findIn K (.ref C) "__setattr__" = some (some (.builtin "object.__setattr__"))
  pl : PySem.W.plainOver K C = true
  tk : PySem.W.takerIn K C f = some (some (.ref p))
  ty : PySem.W.typeIn K (.ref p) = some (.type "property")
  rec_ : ∃ a rest, PySem.W.recIn K p "property" = some (a :: .ref g :: rest)
section
variable {X : Cx} {k : Nat} {C p g a dx : Addr} {fs : List (Str × V)} {f : Str} {fd : FuncData} {ps : List Str} {sp : Sp}
theorem setprop_ok {pins : List (Addr × Obj)} {σ : L2.St} {H : Hp} {s : Shared} {Q : Hp → Prop} {u : Value} {v : V} (I : Inv X pins σ H s) (ea : H a = some (.ins C dx fs)) (hs : SetOf X.K C f p g) (Fn : FnOk X.prog X.w X.K X.mg X.base CX0 k g fd ps sp)
    (hr : Room (k + 2) X.A) (hb : Binds X.K fd ps []) (hl : ps.length = 2) (rv : RelV v u) (h : sp [.ref a, v] H (fun _ H' => Q H') fun _ _ _ => False) :
    wpAny (model X.prog X.w) X.A (setAttr (.ref a) f u) (fun _ s' => ∃ H', Inv X pins σ H' s' ∧ Q H') X.xe s := by
  obtain ⟨mA, O, _, _, _, _⟩ := ins_get I.hok ea
  obtain ⟨od, J, _⟩ := O.look
  obtain ⟨w0, rest, hrec⟩ := hs.rec_
  have I1 := I.tok (s.toks + 1)
  refine PySem.W.set_plain I.kIn J hs.own (PySem.W.osa_descr (s := { s with toks := s.toks + 1 }) PySem.W.KF.slot_pset I.kIn J hs.pl hs.tk hs.ty (PySem.W.prop_set (s := { s with toks := s.toks + 1 }) I.kIn hrec ?_))
  refine codeAny_mono (Fn.run X.A.in1.in1 X.stack { s with toks := s.toks + 1 } H ⟨[.ref a, u], []⟩ [.ref a, u] [.ref a, v] _ _ hr.in1.in1 I1.env0.in1.in1 (hb _ [.ref a, u] I1.kIn (by rw [hl]; rfl)) (.cons rfl (.cons rv .nil)) h) fun r s' hq => ?_
  cases r with
  | error e => exact passes0 (E := fun _ _ _ => False) pins σ H _ e s' I1 hq
  | ok fl =>
    cases fl with
    | ret w =>
      obtain ⟨v', H', I3, _, q3⟩ := I1.after hq
      exact ⟨H', I3, q3⟩
    | next => exact False.elim hq
    | brk => exact False.elim hq
    | cont => exact False.elim hq
end
def TPrp (F : Fx) (i c : Nat) (g : FG) : TG := fun v σ H Q => ∃ M ρ d ρ' r ds, ER F M ρ σ H ∧ Dv F.K F.T M H d v ∧ ρ[i]? = some (.obj c ds) ∧ runG g [] [.slot i, .dat d] ρ = some (r, ρ') ∧
  ∀ H', ER F M ρ' σ H' → Keep M H H' → Q σ H'
def bPrp (i c : Nat) (g : FG) (fe : FE) : FB := fun ρ => match fe ρ with
  | some (.dat d, ρ1) => match objAt ρ1 i with
    | some (c', _) => if c' = c then match runG g [] [.slot i, .dat d] ρ1 with
        | some (_, ρ2) => some (.nx, ρ2)
        | none => none
      else none
    | none => none
  | _ => none
section
variable {X : Cx} {F : Fx} {T : Cl} {j k i c : Nat} {q g' : Addr} {x f : Str} {p1 pos pos' : Pos} {e : Expr} {g : FG} {fe : FE} {ps : List Str}
theorem pg_prp (hK : F.K = X.K) (hT : F.T = T) (hs : SetOf X.K (T.ad c) f q g') (D1 : Def1 X.prog X.w X.K X.mg X.base T j g' ps g) (hr : Room k X.A) (hjk : j + 2 ≤ k) (hps : ps.length = 2) (hN : X.N[i]? = some x) (hv : Vis X.env.scope x) (hd : (x == ("__debug__" : Str)) = false) (hcd : (x == ("__classdict__" : Str)) = false) :
    PG X (.Attribute (.Name x p1) f pos) (TPrp F i c g) := by
  subst hT
  obtain ⟨⟨fd, hb, Fn⟩, kp⟩ := D1
  obtain ⟨K, T, M0, pa, H0⟩ := F
  cases hK
  refine ⟨fun pins s σ H v u Q I r h => ?_⟩
  obtain ⟨M, ρ, d, ρ', y, ds, R, dv, ho, hf, qq⟩ := h
  obtain ⟨v', g1, g2⟩ := R.se.sl i _ ho
  obtain ⟨a, rfl, m, dx, xs, c1, c2, c3⟩ := g2
  rw [PySem.assign_Attribute]
  refine wpAny_bind (wpAny_holding (thn ((pe_var hN hv hd hcd).run pins s σ H (fun y H1 => y = .ref a ∧ H1 = H) I ⟨.ref a, g1, rfl, rfl⟩) fun ov s1 ⟨y, H1, I1, ry, ey, eH⟩ => ?_))
  subst ey eH
  obtain rfl : ov = Value.ref a := ry
  have ok : OpdsOk ⟨X.K, T, M0, pa, H0⟩ M H1 σ [.slot i, .dat d] [V.ref a, v] := .cons g1 (.cons dv .nil)
  have cc := call_core (n := ps.length) (dvs := []) (dss := []) (Q := fun _ H' => Q σ H') (by rw [hps]; rfl) (fun _ _ => rfl) hf R ok fun w H2 R2 k2 _ => qq H2 R2 k2
  rw [List.append_nil] at cc
  refine wpAny_bind (wpAny_standAt (wpAny_bind (wpAny_holding (wpAny_mono (setprop_ok I1 c1 hs Fn (hr.mono hjk) hb hps r cc) (fun _ s3 ⟨H3, I3, q3⟩ => wpAny_release ⟨σ, H3, I3, q3⟩) fun _ _ z => z))))
theorem ds_prp {tg : Expr} (he : PE X e (TEd F fe)) (hg : PG X tg (TPrp F i c g)) (hs : swapsWithSole [tg] e pos.line X.env = pure false) (hw : swappedStores [tg] e X.env = pure none)
    (h1 : (assignEach [tg] X.env).map (·.2) = [assign tg X.env]) : PS X (.Assign [tg] e pos) (TSd F (bPrp i c g fe)) :=
  PS.imp (ps_asg he hg hs hw h1) fun E σ H ⟨M, ρ, w, ρ', R, hf, q⟩ => by
    unfold bPrp at hf
    split at hf
    · rename_i d ρ1 e1
      split at hf
      · rename_i c' ds e2
        split at hf
        · rename_i hc
          subst hc
          split at hf
          · rename_i r ρ2 e3
            cases hf
            exact ⟨M, ρ, _, ρ1, R, e1, fun v M1 H1 s1 R1 k1 ok1 => ⟨M1, ρ1, d, _, _, _, R1, ok1, objAt_some e2, e3, fun H2 R2 k2 => q M1 σ H2 R2 ((Stp.of R (fun a z => .inl (s1 a z)) k1).trans fun d v h => Dv.keep k2 R1.mm d h)⟩⟩
          · cases hf
        · cases hf
      · cases hf
    · cases hf
end
end SC

set_option Elab.async false
set_option linter.all false
set_option maxRecDepth 100000
set_option maxHeartbeats 1000000
namespace SC
open PySem PySem.Spec PyProof.Rows L2

/-! ### dict displays: none, or one key with its value -/
def tDic1 (k : Key) (t : L2.TE) : L2.TE := fun σ H Q => t σ H fun v H1 => ∀ p, H1 p = none → Q (.ref p) (upd H1 p (.dK [(k, v)]))
theorem pe_dic1 {X : Cx} {pos : Pos} {ke e : Expr} {k : Key} {t : L2.TE} (hk : PE X ke (tC (kV k))) (he : PE X e t) : PE X (.Dict [some ke] [e] pos) (tDic1 k t) := by
  refine ⟨fun pins s σ H Q I q => ?_⟩
  have hn : H s.heap.objs.size = none := I.hok.fresh (Nat.le_refl s.heap.objs.size)
  let Qt : VK := fun v H1 => ∀ p, H1 p = none → Q (.ref p) (upd H1 p (.dK [(k, v)]))
  let ob : Obj := { cls := .type "dict", data := .dict #[] }
  have I0 : Inv X pins σ H { s with heap := s.heap.push ob } := I.kept fun _ _ q => Heap.get?_push_of_some _ q
  have hL : s.heap.objs.size ≠ X.env.locals := (Nat.ne_of_lt I.lt).symm
  have hF : s.heap.objs.size ∉ X.fs := I.nofs (Nat.le_refl _)
  have hS : X.s_0.heap.objs.size ≤ s.heap.objs.size := I.sz
  have hC : ∀ x c, X.env.cells.lookup x = some c → c ≠ s.heap.objs.size := fun x c e z => by
    obtain ⟨v, o, ho, _⟩ := I.cell x c e
    exact absurd (Heap.lt_size ho) (by rw [z]; exact Nat.lt_irrefl _)
  have hP : ∀ p ∈ X.pn ++ pins, p.1 ≠ s.heap.objs.size := fun p hp z => by
    obtain ⟨e, _⟩ := I.pin p hp
    exact absurd (Heap.lt_size e) (by rw [z]; exact Nat.lt_irrefl _)
  have I1 : Inv X ((s.heap.objs.size, ob) :: pins) σ H { s with heap := s.heap.push ob } := I0.pins_of fun p hp => by
    rcases List.mem_cons.mp hp with rfl | hp
    · exact ⟨Heap.get?_push_size _ rfl, hn, hL, hF, fun v z => by cases z⟩
    · exact I0.pin p (List.mem_append_right _ hp)
  refine wpAny_Dict_walk (knd := mixKind X.prog X.w) rfl rfl (by simp) (by simp) (pairTrees_cons_walk (thn (hk.run _ _ σ _ (fun v H' => v = kV k ∧ t σ H' Qt) I1 (And.intro rfl q)) fun u s1 ⟨x, H1, I2, rx, ex, q1⟩ => thn (he.run _ s1 σ H1 Qt I2 q1) fun w2 s2 ⟨y, H2, I3, ry, q2⟩ => pairTrees_nil_walk ?_))
  subst ex
  obtain ⟨g2, n2, _⟩ := I3.pin (s.heap.objs.size, ob) (List.mem_append_right _ List.mem_cons_self)
  obtain ⟨rs, c, rk⟩ := carries_of (P := X.prog) (w := X.w) (kvs := [(k, y)]) (ws := [(u, w2)]) (.cons ⟨rx, ry⟩ .nil)
  have dd0 : s2.heap.DictOf (mixKind X.prog X.w) s.heap.objs.size [] := ⟨_, #[], 0, g2, ⟨rfl, rfl, rfl⟩, rfl, fun _ he => by simp at he, Pairs.nil, List.nodup_nil⟩
  refine ⟨rs, c, dd0, fun h' dd' hs => ⟨.ref s.heap.objs.size, upd (upd H2 s.heap.objs.size (.dK [])) s.heap.objs.size (.dK [(k, y)]), ?_, rfl, ?_⟩⟩
  · have hsm : (s.heap.objs.size == sysModules) = false := beq_eq_false_iff_ne.mpr (Ne.symm (Nat.ne_of_lt I.big))
    have I4 : Inv X pins σ H2 s2 := I3.pins_of fun p hp => I3.pin p (List.mem_append_right _ (List.mem_cons_of_mem _ hp))
    have nit : ∀ b u, H2 b = some u → b ≠ s.heap.objs.size := fun b u e z => by rw [z, n2] at e; cases e
    have hok : HOk X.prog X.w (upd H2 s.heap.objs.size (.dK [])) s2.heap := fun b u e => by
      by_cases hb : b = s.heap.objs.size
      · subst hb
        rw [upd_same] at e
        cases e
        exact ⟨Nat.zero_le _, hsm, [], .nil, dd0⟩
      · rw [upd_ne hb] at e
        exact (I4.hok b u e).stay (fun c v _ q => q) (fun c q => by rw [upd_ne (nit _ _ q)]; exact q) fun c xs q => by rw [upd_ne (nit _ _ q)]; exact q
    have I5 : Inv X pins σ (upd H2 s.heap.objs.size (.dK [])) s2 := I4.step (g' := s2.gens) (d' := s2.drawn) (t' := s2.toks) (h' := s2.heap) (ch := [s.heap.objs.size]) (fun b hb => by
        have e : b = s.heap.objs.size := by simpa using hb
        subst e
        exact ⟨.inr hS, hL, hC, hP⟩) (fun b o _ _ _ e _ => e) (fun b o _ _ _ e _ => ⟨o.slots, e⟩) (fun b o hc e n => by rw [upd_ne (fun z => hc (by simp [z]))]; exact n)
      (fun b o _ e => ⟨o, e⟩) (fun b xs e => by rw [upd_ne (nit _ _ e)]; exact e) (fun b o u e => by rw [upd_ne (nit _ _ e)]; exact e) (fun b ps e => ⟨#[], by rw [upd_ne (nit _ _ e), e]; simp⟩) (fun m hm => hm) hok I4.bare
    have hz : ([(k, y)] : List (Key × V)).length ≤ sizeLine := by rw [sizeLine_eq]; simp
    have he' : ∃ q, h'.get? s.heap.objs.size = some q := let ⟨q, _, _, hq, _⟩ := dd'; ⟨q, hq⟩
    exact d_write I5 (by rw [upd_same]; exact True.intro) hs he' (dk_new hz hsm (rk.merge .nil) dd')
  · have e : upd (upd H2 s.heap.objs.size (.dK [])) s.heap.objs.size (.dK [(k, y)]) = upd H2 s.heap.objs.size (.dK [(k, y)]) := by
      funext b
      by_cases hb : b = s.heap.objs.size
      · subst hb; rw [upd_same, upd_same]
      · rw [upd_ne hb, upd_ne hb, upd_ne hb]
    rw [e]
    exact q2 _ n2
def fDic0 : FE := fun ρ => some (.dat (.dic [] []), ρ)
def fDic1 (k : Key) (f : FE) : FE := fun ρ => match f ρ with
  | some (.dat d, ρ1) => some (.dat (.dic [k] [d]), ρ1)
  | _ => none
section
variable {X : Cx} {F : Fx} {pos : Pos}
theorem de_dic0 : PE X (.Dict [] [] pos) (TEd F fDic0) := by
  refine PE.imp pe_dnewK ?_
  rintro σ H Q ⟨M, ρ, o, ρ', R, hf, q⟩
  cases hf
  exact fun p hp => q _ M _ (fun _ m => m) (R.ext (Ext.new hp)) (Ext.new hp).keep ⟨p, [], rfl, R.fresh hp, upd_same, rfl, rfl⟩
theorem de_dic1 {ke e : Expr} {k : Key} {f : FE} (hk : PE X ke (tC (kV k))) (he : PE X e (TEd F f)) : PE X (.Dict [some ke] [e] pos) (TEd F (fDic1 k f)) := by
  refine PE.imp (pe_dic1 hk he) ?_
  rintro σ H Q ⟨M, ρ, o, ρ', R, hf, q⟩
  unfold fDic1 at hf
  split at hf
  case h_2 => cases hf
  case h_1 d ρ1 e1 =>
  cases hf
  refine ⟨M, ρ, .dat d, _, R, e1, fun v M1 H1 s1 R1 k1 ok1 => ?_⟩
  exact fun p hp => q _ M1 _ s1 (R1.ext (Ext.new hp)) (k1.trans (Ext.new hp).keep) ⟨p, [v], rfl, R1.fresh hp, upd_same, rfl, v, [], rfl, Dv.ext (Ext.new hp) d ok1, rfl⟩
end
end SC

set_option Elab.async false
set_option linter.all false
set_option maxRecDepth 100000
set_option maxHeartbeats 1000000
namespace SC
open PySem PySem.Spec PyProof.Rows L2

/-! ### == and != with an instance that has a == of its own -/
section
open PySem.SeqAt AutoSeq1 MeetsSeq MeetsSeq2 MeetsSeq3
variable {M : Model} {prog : Program} {w : World} {A : Around} {E : Value → Shared → Prop} {s : Shared} {K : PySem.W.Frag} {x C f : Addr} {ox : Obj} {od : Option Obj}
theorem entry_other {y : Addr} {oy : Obj} {Q : Fin → Shared → Prop} (I : PySem.W.InstAt s.heap x ox C od) (hy : s.heap.get? y = some oy) (hxy : x ≠ y) (hq : Q (.done (.ret .notImplemented)) s) : wpAny M A (Builtin.«object.__eq__» ⟨[.ref x, .ref y], []⟩) Q E s :=
  objEq_entry_other hxy I.at_ hy (by rw [I.cls]; exact fun z => nomatch z) hq
theorem call_objEq2 {y : Addr} {oy : Obj} {Q : Value → Shared → Prop} (X : K.In s.heap) (I : PySem.W.InstAt s.heap x ox C od) (hm : PySem.W.mroIn K C (.type "object") = some true) (hy : s.heap.get? y = some oy) (hxy : x ≠ y) (hq : Q .notImplemented s) :
    wpAny (model prog w) A (call (.builtin "object.__eq__") [.ref x, .ref y]) Q E s :=
  wpAny_call (codeAny_call_builtin F.cmp_object.eq.plain F.cmpEntry_eq (PySem.W.check_slot F.cmpKind_eq F.cmpSplit_eq (I.type.andThen (PySem.W.looks_mroIn X hm)) (F.cmpArgs_eq _ _) (entry_other I hy hxy hq)))
theorem ifBound_objNe {args : List Value} {Q : Option Value → Shared → Prop} (X : K.In s.heap) (I : PySem.W.InstAt s.heap x ox C od) (hs : PySem.W.findIn K (.ref C) "__ne__" = some (some (.builtin "object.__ne__")))
    (h : wpAny M A (call (.builtin "object.__ne__") (.ref x :: args)) (fun v => Q (some v)) E s) : wpAny M A (callSpecialIfBound? (.ref x) "__ne__" args) Q E s := by
  simp only [callSpecialIfBound?, bindSpecialIfBound?]
  refine wpAny_holding (wpAny_bind (wpAny_bind (wpAny_bind (I.type.here ((PySem.W.looks_findIn X hs).here ?_)))))
  refine wpAny_bind (wpAny_askSetting (wpAny_ite ?_))
  have fin : wpAny M A (call (.builtin "object.__ne__") ([.ref x] ++ args) >>= fun v => pure (some v)) Q E s := wpAny_bind (wpAny_mono h (fun v s' h' => wpAny_pure h') fun _ _ h' => h')
  split
  · exact wpAny_bind (wpAny_of_eq (F.cmp_object.ne.bind _) (wpAny_pure (by exact fin)))
  · exact wpAny_tryCatch (wpAny_bind (wpAny_of_eq (F.cmp_object.ne.bind _) (wpAny_pure (by exact fin))))
theorem entry_ne {b : Value} {Q : Fin → Shared → Prop} (hu : A.units < cLine) (X : K.In s.heap) (I : PySem.W.InstAt s.heap x ox C od) (hs : PySem.W.findIn K (.ref C) "__eq__" = some (some (.ref f))) (hf : PySem.W.isFn K (.ref f) = true)
    (h : wpAny M A (call (.ref f) [.ref x, b]) (fun v s' => ∃ r, v = .bool r ∧ Q (.done (.ret (.bool (!r)))) s') E s) : wpAny M A (Builtin.«object.__ne__» ⟨[.ref x, b], []⟩) Q E s := by
  unfold Builtin.«object.__ne__»
  repeat (first
    | with_reducible refine wpAny_cRoomFor hu ?_
    | (refine wpAny_bind (m := callSpecialIfBound? (.ref x) (Str.ofString "__eq__") [b])
        (PySem.W.ifBound_K X I hs hf (wpAny_mono h (fun r s' hr => by
          obtain ⟨b, rfl, hq⟩ := hr
          repeat (first | exact hq | exact wpAny_pure hq | exact wpAny_truthy_bool hq | (refine wpAny_bind (m := truthy (.bool _)) (wpAny_truthy_bool ?_)) | wp_step)) fun _ _ e => e)))
    | wp_step)
theorem call_objNe {b : Value} {Q : Value → Shared → Prop} (hu : A.units + 1 < cLine) (X : K.In s.heap) (I : PySem.W.InstAt s.heap x ox C od) (hm : PySem.W.mroIn K C (.type "object") = some true) (hs : PySem.W.findIn K (.ref C) "__eq__" = some (some (.ref f))) (hf : PySem.W.isFn K (.ref f) = true)
    (h : wpAny (model prog w) A.in1 (call (.ref f) [.ref x, b]) (fun v s' => ∃ r, v = .bool r ∧ Q (.bool (!r)) s') E s) : wpAny (model prog w) A (call (.builtin "object.__ne__") [.ref x, b]) Q E s :=
  wpAny_call (codeAny_call_builtin F.cmp_object.ne.plain F.cmpEntry_ne (PySem.W.check_slot F.cmpKind_ne F.cmpSplit_ne (I.type.andThen (PySem.W.looks_mroIn X hm)) (F.cmpArgs_ne _ _)
    (entry_ne (A := A.in1) hu X I hs hf (wpAny_mono h (fun v s' ⟨r, e, q⟩ => ⟨r, e, q⟩) fun _ _ e => e))))
/-- the instance on the left of != -/
theorem rc_ne {b tb : Value} {Q : Value → Shared → Prop} (hu : A.units + 1 < cLine) (X : K.In s.heap) (I : PySem.W.InstAt s.heap x ox C od) (hb : PySem.W.Looks (model prog w) s.heap (typeOf b) tb) (hn : PySem.W.notFirst K C tb = true) (hm : PySem.W.mroIn K C (.type "object") = some true)
    (hne : PySem.W.findIn K (.ref C) "__ne__" = some (some (.builtin "object.__ne__"))) (hs : PySem.W.findIn K (.ref C) "__eq__" = some (some (.ref f))) (hf : PySem.W.isFn K (.ref f) = true)
    (h : wpAny (model prog w) A.in1 (call (.ref f) [.ref x, b]) (fun v s' => ∃ r, v = .bool r ∧ Q (.bool (!r)) s') E s) : wpAny (model prog w) A (richCompare .NotEq (.ref x) b) Q E s := by
  have one : wpAny (model prog w) A (tryCompare (.ref x) "__ne__" b) (fun r s' => ∃ v, r = some v ∧ Q v s') E s := by
    unfold tryCompare
    refine wpAny_bind (ifBound_objNe X I hne (call_objNe hu X I hm hs hf (wpAny_mono h (fun v s' hv => ?_) fun _ _ e => e)))
    obtain ⟨r, e, q⟩ := hv
    exact ⟨r, e, wpAny_pure ⟨_, rfl, q⟩⟩
  unfold richCompare
  simp only [oneThing_ref]
  refine wpAny_holding (wpAny_bind (wpAny_cRoomFor (Nat.lt_of_succ_lt hu) ?_))
  rw [cmpInfo_NotEq]
  refine wpAny_bind (I.type.here (wpAny_bind (hb.here ?_)))
  split
  · rename_i q
    have e : PySem.W.subIn K tb (.ref C) = some false := by
      rcases Bool.or_eq_true_iff.mp hn with e | e
      · rw [beq_iff_eq.mp e] at q; simp at q
      · exact beq_iff_eq.mp e
    refine wpAny_bind ((PySem.W.looks_subIn X e).here ?_)
    simp only [Bool.false_eq_true, if_false]
    refine wpAny_bind (wpAny_mono one (fun r s' z => ?_) fun _ _ e => e)
    obtain ⟨v, rfl, hq⟩ := z
    exact wpAny_pure hq
  · refine wpAny_bind (wpAny_pure ?_)
    simp only [Bool.false_eq_true, if_false]
    refine wpAny_bind (wpAny_mono one (fun r s' z => ?_) fun _ _ e => e)
    obtain ⟨v, rfl, hq⟩ := z
    exact wpAny_pure hq
/-- the instance on the right of ==: what stands on the left declines -/
theorem rc_right {v t : Value} {Q : Value → Shared → Prop} (hu : A.units < cLine) (X : K.In s.heap) (I : PySem.W.InstAt s.heap x ox C od) (hv : PySem.W.Looks (model prog w) s.heap (typeOf v) t) (one : oneThing? .Eq v (.ref x) = none) (hsub : PySem.W.subIn K (.ref C) t = some false) (hne : t ≠ .ref C)
    (dec : ∀ Q' : Option Value → Shared → Prop, Q' none s → wpAny (model prog w) A (tryCompare v "__eq__" (.ref x)) Q' E s) (hs : PySem.W.findIn K (.ref C) "__eq__" = some (some (.ref f))) (hf : PySem.W.isFn K (.ref f) = true)
    (h : wpAny (model prog w) A (call (.ref f) [.ref x, v]) (PySem.W.CmpBack Q) E s) : wpAny (model prog w) A (richCompare .Eq v (.ref x)) Q E s := by
  have back : wpAny (model prog w) A (tryCompare (.ref x) "__eq__" v) (fun r s' => ∃ v, r = some v ∧ Q v s') E s := by
    unfold tryCompare
    refine wpAny_bind (PySem.W.ifBound_K X I hs hf (wpAny_mono h (fun v s' hv => ?_) fun _ _ e => e))
    cases v <;> first | exact hv.elim | exact wpAny_pure ⟨_, rfl, hv⟩
  unfold richCompare
  simp only [one]
  refine wpAny_holding (wpAny_bind (wpAny_cRoomFor hu ?_))
  rw [cmpInfo_Eq]
  refine wpAny_bind (hv.here (wpAny_bind (I.type.here ?_)))
  rw [if_pos (show (t != Value.ref C) = true by simpa using hne)]
  refine wpAny_bind ((PySem.W.looks_subIn X hsub).here ?_)
  simp only [Bool.false_eq_true, if_false, Bool.not_false, if_true]
  refine wpAny_bind (m := tryCompare v _ (.ref x)) (dec _ ?_)
  refine wpAny_bind (wpAny_mono back (fun r s' z => ?_) fun _ _ e => e)
  obtain ⟨v, rfl, hq⟩ := z
  exact wpAny_pure hq
end
end SC

set_option Elab.async false
set_option linter.all false
set_option maxRecDepth 100000
set_option maxHeartbeats 1000000
namespace SC
open PySem PySem.Spec PyProof.Rows L2

/-! ### what declines to be compared with an instance -/
section
open PySem.SeqAt AutoSeq1 MeetsSeq MeetsSeq2 MeetsSeq3
variable {M : Model} {prog : Program} {w : World} {A : Around} {E : Value → Shared → Prop} {s : Shared} {K : PySem.W.Frag} {x C f dx : Addr} {od : Option Obj} {Q : Option Value → Shared → Prop}
theorem inst_no {T : String} (X : K.In s.heap) (I : PySem.W.InstAt s.heap x (PySem.W.instObj C dx) C od) (h : PySem.W.subIn K (.ref C) (.type T) = some false) {R : Bool → Shared → Prop} (q : R false s) : wpAny M A (isInstance (.ref x) (.type T)) R E s := by
  unfold isInstance
  exact wpAny_bind (I.type.here ((PySem.W.looks_subIn X h).here q))
theorem dec_none (hq : Q none s) : wpAny (model prog w) A (tryCompare .none "__eq__" (.ref x)) Q E s :=
  wpAny_tryCompare_declines (show s.TypeIs .none "NoneType" from rfl) F.slot_NoneType_eq_refl (call_gives F.slot_NoneType_eq_refl rfl F.entry_NoneType_eq (F.args_NoneType_eq_2 _ _) (NoneType___eq___none_ref_0 x) ⟨rfl, hq⟩)
theorem int_entry {b : Int} {u : Tok} {R : Fin → Shared → Prop} (hx : s.heap.get? x = some (PySem.W.instObj C dx)) (hq : R (.done (.ret .notImplemented)) s) : wpAny M A (Builtin.«int.__eq__» ⟨[.int b u, .ref x], []⟩) R E s := by
  obtain ⟨hp2, g, d, tk, os⟩ := s
  wp_walk using wpAny_load hx
  exact hq
theorem bool_entry {b : Bool} {R : Fin → Shared → Prop} (hx : s.heap.get? x = some (PySem.W.instObj C dx)) (hq : R (.done (.ret .notImplemented)) s) : wpAny M A (Builtin.«int.__eq__» ⟨[.bool b, .ref x], []⟩) R E s := by
  obtain ⟨hp2, g, d, tk, os⟩ := s
  wp_walk using wpAny_load hx
  exact hq
theorem str_entry {b : Str} {u : Tok} {R : Fin → Shared → Prop} (hx : s.heap.get? x = some (PySem.W.instObj C dx)) (hq : R (.done (.ret .notImplemented)) s) : wpAny M A (Builtin.«str.__eq__» ⟨[.str b u, .ref x], []⟩) R E s := by
  obtain ⟨hp2, g, d, tk, os⟩ := s
  wp_walk using wpAny_load hx
  exact hq
theorem dec_int {b : Int} {u : Tok} (hx : s.heap.get? x = some (PySem.W.instObj C dx)) (hq : Q none s) : wpAny (model prog w) A (tryCompare (.int b u) "__eq__" (.ref x)) Q E s :=
  wpAny_tryCompare_declines (show s.TypeIs (.int b u) "int" from rfl) F.slot_int_eq (GQ.call_here F.slot_int_eq rfl F.entry_int_eq (F.args_int_eq_2 _ _) (int_entry hx ⟨rfl, hq⟩))
theorem dec_bool {b : Bool} (hx : s.heap.get? x = some (PySem.W.instObj C dx)) (hq : Q none s) : wpAny (model prog w) A (tryCompare (.bool b) "__eq__" (.ref x)) Q E s :=
  wpAny_tryCompare_declines (show s.TypeIs (.bool b) "bool" from rfl) F.slot_bool_eq (GQ.call_here F.slot_bool_eq rfl F.entry_int_eq (F.args_int_eq_2 _ _) (bool_entry hx ⟨rfl, hq⟩))
theorem dec_str {b : Str} {u : Tok} (hx : s.heap.get? x = some (PySem.W.instObj C dx)) (hq : Q none s) : wpAny (model prog w) A (tryCompare (.str b u) "__eq__" (.ref x)) Q E s :=
  wpAny_tryCompare_declines (show s.TypeIs (.str b u) "str" from rfl) F.slot_str_eq (GQ.call_here F.slot_str_eq rfl F.entry_str_eq (F.args_str_eq_2 _ _) (str_entry hx ⟨rfl, hq⟩))
theorem list_entry {a : Addr} {o : Obj} {R : Fin → Shared → Prop} (ha : s.heap.get? a = some o) (X : K.In s.heap) (I : PySem.W.InstAt s.heap x (PySem.W.instObj C dx) C od) (h : PySem.W.subIn K (.ref C) (.type "list") = some false) (hq : R (.done (.ret .notImplemented)) s) :
    wpAny M A (Builtin.«list.__eq__» ⟨[.ref a, .ref x], []⟩) R E s := by
  obtain ⟨hp2, g, d, tk, os⟩ := s
  wp_walk using inst_no X I h
  exact hq
theorem dec_list {a : Addr} {o : Obj} (ha : s.heap.get? a = some o) (ht : o.cls = .type "list") (X : K.In s.heap) (I : PySem.W.InstAt s.heap x (PySem.W.instObj C dx) C od) (h : PySem.W.subIn K (.ref C) (.type "list") = some false) (hq : Q none s) :
    wpAny (model prog w) A (tryCompare (.ref a) "__eq__" (.ref x)) Q E s :=
  wpAny_tryCompare_declines (show s.TypeIs (.ref a) "list" from ⟨_, ha, ht⟩) F.slot_list_eq (GQ.call_here F.slot_list_eq ⟨_, ha, ht⟩ F.entry_list_eq (F.args_list_eq_2 _ _) (list_entry ha X I h ⟨rfl, hq⟩))
theorem tuple_entry {a : Addr} {o : Obj} {R : Fin → Shared → Prop} (ha : s.heap.get? a = some o) (X : K.In s.heap) (I : PySem.W.InstAt s.heap x (PySem.W.instObj C dx) C od) (h : PySem.W.subIn K (.ref C) (.type "tuple") = some false) (hq : R (.done (.ret .notImplemented)) s) :
    wpAny M A (Builtin.«tuple.__eq__» ⟨[.ref a, .ref x], []⟩) R E s := by
  obtain ⟨hp2, g, d, tk, os⟩ := s
  wp_walk using inst_no X I h
  exact hq
theorem dec_tuple {a : Addr} {o : Obj} (ha : s.heap.get? a = some o) (ht : o.cls = .type "tuple") (X : K.In s.heap) (I : PySem.W.InstAt s.heap x (PySem.W.instObj C dx) C od) (h : PySem.W.subIn K (.ref C) (.type "tuple") = some false) (hq : Q none s) :
    wpAny (model prog w) A (tryCompare (.ref a) "__eq__" (.ref x)) Q E s :=
  wpAny_tryCompare_declines (show s.TypeIs (.ref a) "tuple" from ⟨_, ha, ht⟩) F.slot_tuple_eq (GQ.call_here F.slot_tuple_eq ⟨_, ha, ht⟩ F.entry_tuple_eq (F.args_tuple_eq_2 _ _) (tuple_entry ha X I h ⟨rfl, hq⟩))
theorem dict_entry {a : Addr} {o : Obj} {R : Fin → Shared → Prop} (ha : s.heap.get? a = some o) (hsm : (a == sysModules) = false) (X : K.In s.heap) (I : PySem.W.InstAt s.heap x (PySem.W.instObj C dx) C od) (h : PySem.W.subIn K (.ref C) (.type "dict") = some false) (hq : R (.done (.ret .notImplemented)) s) :
    wpAny M A (Builtin.«dict.__eq__» ⟨[.ref a, .ref x], []⟩) R E s := by
  obtain ⟨hp2, g, d, tk, os⟩ := s
  wp_walk using inst_no X I h
  exact hq
theorem dec_dict {a : Addr} {o : Obj} (ha : s.heap.get? a = some o) (ht : o.cls = .type "dict") (hsm : (a == sysModules) = false) (X : K.In s.heap) (I : PySem.W.InstAt s.heap x (PySem.W.instObj C dx) C od) (h : PySem.W.subIn K (.ref C) (.type "dict") = some false) (hq : Q none s) :
    wpAny (model prog w) A (tryCompare (.ref a) "__eq__" (.ref x)) Q E s :=
  wpAny_tryCompare_declines (show s.TypeIs (.ref a) "dict" from ⟨_, ha, ht⟩) F.slot_dict_eq (GQ.call_here F.slot_dict_eq ⟨_, ha, ht⟩ F.entry_dict_eq (F.args_dict_eq_2 _ _) (dict_entry ha hsm X I h ⟨rfl, hq⟩))
theorem dec_own {y D dy : Addr} {oe : Option Obj} (X : K.In s.heap) (J : PySem.W.InstAt s.heap y (PySem.W.instObj D dy) D oe) (hm : PySem.W.mroIn K D (.type "object") = some true) (he : PySem.W.findIn K (.ref D) "__eq__" = some (some (.builtin "object.__eq__")))
    (hx : s.heap.get? x = some (PySem.W.instObj C dx)) (hne : y ≠ x) (hq : Q none s) : wpAny (model prog w) A (tryCompare (.ref y) "__eq__" (.ref x)) Q E s := by
  unfold tryCompare
  exact wpAny_bind (HN.ifBound_objEq X J he (call_objEq2 X J hm hx hne (wpAny_pure hq)))
end
end SC

set_option Elab.async false
set_option linter.all false
set_option maxRecDepth 100000
set_option maxHeartbeats 1000000
namespace SC
open PySem PySem.Spec PyProof.Rows L2

/-! ### what kind of value stands there -/
inductive KdV (K : PySem.W.Frag) (H : Hp) : V → String → Prop
  | non : KdV K H .non "NoneType"
  | bl (b : Bool) : KdV K H (.bl b) "bool"
  | int (i : Int) : KdV K H (.int i) "int"
  | str (z : Str) : KdV K H (.str z) "str"
  | lst {a : Addr} {xs : List V} (e : H a = some (.lst xs)) : KdV K H (.ref a) "list"
  | tup {a : Addr} {xs : List V} (e : SqT K H a xs) : KdV K H (.ref a) "tuple"
  | scr {a : Addr} {xs : List V} (e : SqF K H a xs) : KdV K H (.ref a) "list"
  | dic {a : Addr} {kvs : List (Key × V)} (e : H a = some (.dK kvs)) : KdV K H (.ref a) "dict"
theorem do_kd {K : PySem.W.Frag} {T : Cl} {M : Ms} {H : Hp} {d : D} {v : V} {t : String} (h : Do K T M H d v) (e : tyD d = some t) : KdV K H v t := by
  cases d with
  | non => cases e; rw [h.non]; exact .non
  | bl b => cases e; rw [h.bl]; exact .bl b
  | int i => cases e; rw [h.int]; exact .int i
  | str z => cases e; rw [h.str]; exact .str z
  | tup ds => cases e; obtain ⟨a, xs, rfl, q, _⟩ := h.tup; exact .tup q
  | lst ds => cases e; obtain ⟨a, xs, rfl, q, _⟩ := h.lst; exact .lst q
  | dic ks ds =>
    cases e
    rcases h with ⟨a, xs, rfl, _, q, _⟩ | ⟨_, _, _, e, _⟩ | ⟨_, _, _, _, _, e, _⟩
    · exact .dic q
    · cases e
    · cases e
  | scr ns =>
    cases e
    rcases h with ⟨a, rfl, q⟩ | ⟨_, _, _, e, _⟩ | ⟨_, _, _, _, _, e, _⟩
    · exact .scr q
    · cases e
    · cases e
  | ins c ds => cases e
  | cl _ => cases e
theorem KdV.ty {K : PySem.W.Frag} {H : Hp} {v : V} {t : String} (h : KdV K H v t) : TyX K H v (.type t) := by
  cases h with
  | non => exact .base .non
  | bl b => exact .base (.bl b)
  | int i => exact .base (.int i)
  | str z => exact .base (.str z)
  | lst e => exact .base (.lst e)
  | tup q =>
    rcases q with (q | ⟨o, q⟩) | ⟨o, its, n, q, c, _⟩
    · exact .base (.tup q)
    · exact .fTuple q
    · exact .kTuple q c
  | scr q =>
    rcases q with ⟨o, q⟩ | ⟨o, its, n, q, c, _⟩
    · exact .base (.frz q)
    · exact .kList q c
  | dic q => exact .base (.dK q)
section
variable {X : Cx} {pins : List (Addr × Obj)} {σ : Sg} {H : Hp} {s : Shared}
theorem KdV.looks {v : V} {u : Value} {t : String} (h : KdV X.K H v t) (I : Inv X pins σ H s) (r : RelV v u) (M : Model) : PySem.W.Looks M s.heap (typeOf u) (.type t) := by
  obtain ⟨P, kx, hp, _⟩ := kit_of I r h.ty
  exact kx.ty M _ I.kIn hp
theorem KdV.one {v : V} {u : Value} {t : String} (h : KdV X.K H v t) (r : RelV v u) (x : Addr) : oneThing? .Eq u (.ref x) = none := by
  cases h with
  | non => cases (show u = Value.none from r); rfl
  | bl b => cases (show u = Value.bool b from r); rfl
  | int i => obtain ⟨t, q⟩ := (show ∃ t, u = Value.int i t from r); cases q; rfl
  | str z => obtain ⟨t, q⟩ := (show ∃ t, u = Value.str z t from r); cases q; rfl
  | lst e => cases (show u = Value.ref _ from r); exact oneThing_ref ..
  | tup e => cases (show u = Value.ref _ from r); exact oneThing_ref ..
  | scr e => cases (show u = Value.ref _ from r); exact oneThing_ref ..
  | dic e => cases (show u = Value.ref _ from r); exact oneThing_ref ..
theorem KdV.dec {v : V} {u : Value} {t : String} {x C dx : Addr} {od : Option Obj} {A : Around} {E : Value → Shared → Prop} {Q : Option Value → Shared → Prop} (h : KdV X.K H v t) (I : Inv X pins σ H s) (r : RelV v u) (J : PySem.W.InstAt s.heap x (PySem.W.instObj C dx) C od)
    (hs : PySem.W.subIn X.K (.ref C) (.type t) = some false) (q : Q none s) : wpAny (model X.prog X.w) A (tryCompare u "__eq__" (.ref x)) Q E s := by
  cases h with
  | non => cases (show u = Value.none from r); exact dec_none q
  | bl b => cases (show u = Value.bool b from r); exact dec_bool J.at_ q
  | int i => obtain ⟨t, z⟩ := (show ∃ t, u = Value.int i t from r); cases z; exact dec_int J.at_ q
  | str z => obtain ⟨t, z⟩ := (show ∃ t, u = Value.str z t from r); cases z; exact dec_str J.at_ q
  | @lst a xs ea =>
    cases (show u = Value.ref a from r)
    obtain ⟨_, _, n, _, h1⟩ := (show ObjOk X.prog X.w H s.heap a (.lst xs) from I.hok a _ ea)
    exact dec_list h1 rfl I.kIn J hs q
  | @tup a xs e =>
    cases (show u = Value.ref a from r)
    rcases e with (ea | ⟨ob, ea⟩) | ⟨o, its, n, ea, c, _⟩
    · obtain ⟨_, _, _, o, h1, h2, _⟩ := (show ObjOk X.prog X.w H s.heap a (.tup xs) from I.hok a _ ea)
      exact dec_tuple h1 h2 I.kIn J hs q
    · obtain ⟨_, _, _, _, o, h1, h2, _⟩ := (show ObjOk X.prog X.w H s.heap a (.frz ob (.tup xs)) from I.hok a _ ea)
      exact dec_tuple h1 h2 I.kIn J hs q
    · exact dec_tuple (I.kIn a o ea) c I.kIn J hs q
  | @scr a xs e =>
    cases (show u = Value.ref a from r)
    rcases e with ⟨ob, ea⟩ | ⟨o, its, n, ea, c, _⟩
    · obtain ⟨_, _, _, n, _, h1⟩ := (show ObjOk X.prog X.w H s.heap a (.frz ob (.lst xs)) from I.hok a _ ea)
      exact dec_list h1 rfl I.kIn J hs q
    · exact dec_list (I.kIn a o ea) c I.kIn J hs q
  | @dic a kvs ea =>
    cases (show u = Value.ref a from r)
    obtain ⟨_, y, vs, _, o, es, ep, h1, h2, _⟩ := (show ObjOk X.prog X.w H s.heap a (.dK kvs) from I.hok a _ ea)
    exact dec_dict h1 h2.1 y I.kIn J hs q
end

/-! ### the facts, the operators -/
structure EqC (K : PySem.W.Frag) (T : Cl) (c : Nat) (kn : List Nat) (f : Addr) : Prop where
  at_ : PySem.W.findIn K (.ref (T.ad c)) "__eq__" = some (some (.ref f))
  fn : PySem.W.isFn K (.ref f) = true
  ne : PySem.W.findIn K (.ref (T.ad c)) "__ne__" = some (some (.builtin "object.__ne__"))
  mro : PySem.W.mroIn K (T.ad c) (.type "object") = some true
  ty : ∀ t ∈ tys, PySem.W.subIn K (.type t) (.ref (T.ad c)) = some false ∧ PySem.W.subIn K (.ref (T.ad c)) (.type t) = some false
  own : ∀ c' ∈ kn, T.ad c' ≠ T.ad c ∧ PySem.W.subIn K (.ref (T.ad c')) (.ref (T.ad c)) = some false ∧ PySem.W.subIn K (.ref (T.ad c)) (.ref (T.ad c')) = some false ∧
    PySem.W.mroIn K (T.ad c') (.type "object") = some true ∧ PySem.W.findIn K (.ref (T.ad c')) "__eq__" = some (some (.builtin "object.__eq__"))
/-- what is compared with an instance of c: a builtin's, or an instance of a class in kn -/
def OkV (F : Fx) (kn : List Nat) (v : V) (H : Hp) : Prop := (∃ t, t ∈ tys ∧ KdV F.K H v t) ∨ ∃ c' a dx fs, c' ∈ kn ∧ v = .ref a ∧ H a = some (.ins (F.T.ad c') dx fs)
def kdOk (kn : List Nat) : D → Bool
  | .ins c' _ => kn.contains c'
  | .cl _ => false
  | _ => true
theorem okV_of {F : Fx} {kn : List Nat} {M : Ms} {H : Hp} {d : D} {v : V} (h : Do F.K F.T M H d v) (e : kdOk kn d = true) : OkV F kn v H := by
  cases et : tyD d with
  | some t =>
    refine .inl ⟨t, ?_, do_kd h et⟩
    cases d <;> cases et <;> simp [tys]
  | none =>
    cases d with
    | ins c ds =>
      obtain ⟨a, dx, xs, rfl, ha, _, _⟩ := h.ins
      exact .inr ⟨c, a, dx, _, List.contains_iff_mem.mp e, rfl, ha⟩
    | cl _ => cases e
    | _ => cases et
def rEqL (F : Fx) (c : Nat) (kn : List Nat) (n : Nat) (g : FG) (neg : Bool) : R2 := fun x y H Q => ∃ p dx fs, x = V.ref p ∧ H p = some (.ins (F.T.ad c) dx fs) ∧ OkV F (c :: kn) y H ∧ spD F.K F.T n g [V.ref p, y] H fun v H' => ∃ r, v = .bl r ∧ Q (.bl (xor neg r)) H'
def rEqR (F : Fx) (c : Nat) (kn : List Nat) (n : Nat) (g : FG) : R2 := fun x y H Q => ∃ p dx fs, y = V.ref p ∧ H p = some (.ins (F.T.ad c) dx fs) ∧ OkV F kn x H ∧ spD F.K F.T n g [V.ref p, x] H fun v H' => ∃ r, v = .bl r ∧ Q (.bl r) H'
section
variable {X : Cx} {F : Fx} {T : Cl} {c j k : Nat} {kn : List Nat} {f : Addr} {fd : FuncData} {ps : List Str} {g : FG} {fa fb : FE} {a b : Expr} {pos : Pos}
theorem okV_looks {pins : List (Addr × Obj)} {σ : Sg} {H : Hp} {s : Shared} {v : V} {u : Value} (C : EqC X.K F.T c kn f) (hK : F.K = X.K) (h : OkV F (c :: kn) v H) (I : Inv X pins σ H s) (r : RelV v u) :
    ∃ tb, PySem.W.Looks (model X.prog X.w) s.heap (typeOf u) tb ∧ PySem.W.notFirst X.K (F.T.ad c) tb = true := by
  rcases h with ⟨t, ht, kd⟩ | ⟨c', a, dx, fs, hc, rfl, ha⟩
  · rw [hK] at kd
    refine ⟨_, kd.looks I r _, ?_⟩
    unfold PySem.W.notFirst
    rw [(C.ty t ht).1]
    simp
  · cases (show u = Value.ref a from r)
    obtain ⟨mA, O, _⟩ := ins_get I.hok ha
    obtain ⟨od, J, _⟩ := O.look
    refine ⟨_, J.type, ?_⟩
    unfold PySem.W.notFirst
    rcases List.mem_cons.mp hc with rfl | hc
    · simp
    · rw [(C.own c' hc).2.1]; simp
theorem opd_eqL (hK : F.K = X.K) (C : EqC X.K F.T c kn f) (Fn : FnOk X.prog X.w X.K X.mg X.base CX0 k f fd ps (spO X.K F.T ps.length g)) (hr : Room k X.A) (hb : Binds X.K fd ps []) : OpR X (compareOp .Eq) (rEqL F c kn ps.length g false) := by
  intro pins s σ H x y v u Q I rx ry h
  obtain ⟨p, dx, fs, rfl, hp, ok, sp⟩ := h
  cases (show v = Value.ref p from rx)
  obtain ⟨tb, lk, nf⟩ := okV_looks C hK ok I ry
  rw [hK] at sp
  obtain ⟨mA, O, _⟩ := ins_get I.hok hp
  obtain ⟨od, J, _⟩ := O.look
  obtain ⟨m, fr⟩ := I.fr
  refine PySem.W.cmp_ofEq (PySem.W.cmp_K (op := .Eq) hr.units0 fr I.ok.mod.kin J lk nf C.at_ C.fn (wpAny_mono (run_fn (dvs := []) (E := fun _ _ _ => False) Fn hr hb .nil passes0 I (vs := [V.ref p, y]) (.cons rx (.cons ry .nil)) sp) ?_ fun _ _ z => z))
  rintro r s2 ⟨w', H2, I2, r2, b, rfl, q⟩
  cases r2
  exact ⟨.bl b, H2, I2, rfl, by simpa using q⟩
theorem opd_neL (hK : F.K = X.K) (C : EqC X.K F.T c kn f) (Fn : FnOk X.prog X.w X.K X.mg X.base CX0 k f fd ps (spO X.K F.T ps.length g)) (hr : Room (k + 1) X.A) (hb : Binds X.K fd ps []) : OpR X (compareOp .NotEq) (rEqL F c kn ps.length g true) := by
  intro pins s σ H x y v u Q I rx ry h
  obtain ⟨p, dx, fs, rfl, hp, ok, sp⟩ := h
  cases (show v = Value.ref p from rx)
  obtain ⟨tb, lk, nf⟩ := okV_looks C hK ok I ry
  rw [hK] at sp
  obtain ⟨mA, O, _⟩ := ins_get I.hok hp
  obtain ⟨od, J, _⟩ := O.look
  refine PySem.W.cmp_ofNotEq (rc_ne (by have := hr.units; omega) I.kIn J lk nf C.mro C.ne C.at_ C.fn (wpAny_mono (run_in1 Fn hr hb I (vs := [V.ref p, y]) (.cons rx (.cons ry .nil)) sp) ?_ fun _ _ z => z))
  rintro r s2 ⟨w', H2, I2, r2, b, rfl, q⟩
  cases r2
  exact ⟨b, rfl, .bl (!b), H2, I2, rfl, by simpa using q⟩
theorem opd_eqR (hK : F.K = X.K) (C : EqC X.K F.T c kn f) (Fn : FnOk X.prog X.w X.K X.mg X.base CX0 k f fd ps (spO X.K F.T ps.length g)) (hr : Room k X.A) (hb : Binds X.K fd ps []) : OpR X (compareOp .Eq) (rEqR F c kn ps.length g) := by
  intro pins s σ H x y v u Q I rx ry h
  obtain ⟨p, dx, fs, rfl, hp, ok, sp⟩ := h
  cases (show u = Value.ref p from ry)
  rw [hK] at sp
  obtain ⟨mA, O, _⟩ := ins_get I.hok hp
  obtain ⟨od, J, _⟩ := O.look
  have call : wpAny (model X.prog X.w) X.A (call (.ref f) [.ref p, v]) (PySem.W.CmpBack (EP X pins σ Q)) X.xe s := by
    refine wpAny_mono (run_fn (dvs := []) (E := fun _ _ _ => False) Fn hr hb .nil passes0 I (vs := [V.ref p, x]) (.cons ry (.cons rx .nil)) sp) ?_ fun _ _ z => z
    rintro r s2 ⟨w', H2, I2, r2, b, rfl, q⟩
    cases r2
    exact ⟨.bl b, H2, I2, rfl, q⟩
  rcases ok with ⟨t, ht, kd⟩ | ⟨c', a, dy, fy, hc, rfl, ha⟩
  · rw [hK] at kd
    exact PySem.W.cmp_ofEq (rc_right hr.units0 I.kIn J (kd.looks I rx _) (kd.one rx p) (C.ty t ht).2 (fun z => nomatch z) (fun Q' q => kd.dec I rx J (C.ty t ht).2 q) C.at_ C.fn call)
  · cases (show v = Value.ref a from rx)
    obtain ⟨mA', O', _⟩ := ins_get I.hok ha
    obtain ⟨od', J', _⟩ := O'.look
    obtain ⟨o1, o2, o3, o4, o5⟩ := C.own c' hc
    refine PySem.W.cmp_ofEq (rc_right hr.units0 I.kIn J J'.type (oneThing_ref ..) o3 (fun z => o1 (by injection z)) (fun Q' q => dec_own I.kIn J' o4 o5 J.at_ (fun z => ?_) q) C.at_ C.fn call)
    subst z
    rw [hp] at ha
    injection ha with ha
    injection ha with ha
    exact o1 ha.symm
/-! ### their denotations -/
def fEqL (c : Nat) (kn : List Nat) (g : FG) (neg : Bool) (fa fb : FE) : FE := fun ρ => match fa ρ with
  | some (.dat d, ρ1) => match insOf (some d) with
    | none => none
    | some (c', _) => if c' = c then match fb ρ1 with
      | none => none
      | some (o, ρ2) => match o.get ρ2 with
        | none => none
        | some d2 => if kdOk (c :: kn) d2 = true then match runG g [] [.dat d, o] ρ2 with
            | some (.dat (.bl r), ρ3) => some (.dat (.bl (xor neg r)), ρ3)
            | _ => none
          else none
      else none
  | _ => none
def fEqR (c : Nat) (kn : List Nat) (g : FG) (fa fb : FE) : FE := fun ρ => match fa ρ with
  | some (.dat d, ρ1) => if kdOk kn d = true then match fb ρ1 with
    | none => none
    | some (o, ρ2) => match insOf (o.get ρ2) with
      | some (c', _) => if c' = c then match runG g [] [o, .dat d] ρ2 with
          | some (.dat (.bl r), ρ3) => some (.dat (.bl r), ρ3)
          | _ => none
        else none
      | none => none
    else none
  | _ => none
theorem eqL_read {neg : Bool} (hn : 2 = ps.length) {σ : Sg} {H : Hp} {Q : VK} (h : TEd F (fEqL c kn g neg fa fb) σ H Q) : tOp (rEqL F c kn ps.length g neg) (TEd F fa) (TEd F fb) σ H Q := by
  obtain ⟨M, ρ, r, ρ', R, hf, q⟩ := h
  unfold fEqL at hf
  split at hf
  case h_2 => cases hf
  case h_1 d ρ1 e1 =>
  cases e3 : insOf (some d) with
  | none => rw [e3] at hf; cases hf
  | some p3 =>
    obtain ⟨c', ds'⟩ := p3
    rw [e3] at hf
    simp only at hf
    split at hf
    case isFalse => cases hf
    case isTrue hc =>
    subst hc
    cases e2 : fb ρ1 with
    | none => rw [e2] at hf; cases hf
    | some p2 =>
      obtain ⟨o, ρ2⟩ := p2
      rw [e2] at hf
      simp only at hf
      cases e5 : o.get ρ2 with
      | none => rw [e5] at hf; cases hf
      | some d2 =>
        rw [e5] at hf
        simp only at hf
        split at hf
        case isFalse => cases hf
        case isTrue hk =>
        split at hf
        case h_2 => cases hf
        case h_1 r' ρ3 e4 =>
        cases hf
        refine ⟨M, ρ, _, ρ1, R, e1, fun x M1 H1 s1 R1 k1 ok1 => ⟨M1, ρ1, o, ρ2, R1, e2, fun y M2 H2 s2 R2 k2 ok2 => ?_⟩⟩
        have ok1' : OpdOk F M2 H2 σ (.dat d) x := Dv.less s2 d (Dv.keep k2 R1.mm d ok1)
        obtain ⟨p, dx, xs, rfl, hp, hl, dv⟩ := (R2.opd (o := .dat d) ok1' (insOf_some e3)).ins
        refine ⟨p, dx, _, rfl, hp, okV_of (R2.opd ok2 e5) hk, call_core (dvs := []) (dss := []) (os := [.dat d, o]) (vs := [V.ref p, y]) (by simpa using hn) (fun _ _ => rfl) e4 R2 (.cons ok1' (.cons ok2 .nil)) fun v H3 R3 k3 ok3 => ?_⟩
        cases (show v = .bl r' from ok3)
        exact ⟨r', rfl, q _ M2 H3 (fun a z => s1 a (s2 a z)) R3 ((k1.trans (k2.mono s1)).trans (k3.mono fun a z => s1 a (s2 a z))) rfl⟩
theorem eqR_read (hn : 2 = ps.length) {σ : Sg} {H : Hp} {Q : VK} (h : TEd F (fEqR c kn g fa fb) σ H Q) : tOp (rEqR F c kn ps.length g) (TEd F fa) (TEd F fb) σ H Q := by
  obtain ⟨M, ρ, r, ρ', R, hf, q⟩ := h
  unfold fEqR at hf
  split at hf
  case h_2 => cases hf
  case h_1 d ρ1 e1 =>
  split at hf
  case isFalse => cases hf
  case isTrue hk =>
  cases e2 : fb ρ1 with
  | none => rw [e2] at hf; cases hf
  | some p2 =>
    obtain ⟨o, ρ2⟩ := p2
    rw [e2] at hf
    simp only at hf
    cases e3 : insOf (o.get ρ2) with
    | none => rw [e3] at hf; cases hf
    | some p3 =>
      obtain ⟨c', ds'⟩ := p3
      rw [e3] at hf
      simp only at hf
      split at hf
      case isFalse => cases hf
      case isTrue hc =>
      subst hc
      split at hf
      case h_2 => cases hf
      case h_1 r' ρ3 e4 =>
      cases hf
      refine ⟨M, ρ, _, ρ1, R, e1, fun x M1 H1 s1 R1 k1 ok1 => ⟨M1, ρ1, o, ρ2, R1, e2, fun y M2 H2 s2 R2 k2 ok2 => ?_⟩⟩
      have ok1' : OpdOk F M2 H2 σ (.dat d) x := Dv.less s2 d (Dv.keep k2 R1.mm d ok1)
      obtain ⟨p, dx, xs, rfl, hp, hl, dv⟩ := (R2.opd ok2 (insOf_some e3)).ins
      refine ⟨p, dx, _, rfl, hp, okV_of (R2.opd (o := .dat d) ok1' rfl) hk, call_core (dvs := []) (dss := []) (os := [o, .dat d]) (vs := [V.ref p, x]) (by simpa using hn) (fun _ _ => rfl) e4 R2 (.cons ok2 (.cons ok1' .nil)) fun v H3 R3 k3 ok3 => ?_⟩
      cases (show v = .bl r' from ok3)
      exact ⟨r', rfl, q _ M2 H3 (fun a z => s1 a (s2 a z)) R3 ((k1.trans (k2.mono s1)).trans (k3.mono fun a z => s1 a (s2 a z))) rfl⟩
theorem de_eqL (hK : F.K = X.K) (hT : F.T = T) (C : EqC X.K T c kn f) (D1 : Def1 X.prog X.w X.K X.mg X.base T j f ps g) (hr : Room k X.A) (hjk : j ≤ k) (hn : 2 = ps.length) (ha : PE X a (TEd F fa)) (hb' : PE X b (TEd F fb)) (hm : behindInMarks .Eq b = false) :
    PE X (.Compare a [.Eq] [b] pos) (TEd F (fEqL c kn g false fa fb)) := by
  subst hT
  obtain ⟨⟨fd, hb, Fn⟩, kp⟩ := D1
  exact PE.imp (pe_cmpR (opd_eqL hK C Fn (hr.mono hjk) hb) ha hb' hm) fun _ _ _ => eqL_read hn
theorem de_neL (hK : F.K = X.K) (hT : F.T = T) (C : EqC X.K T c kn f) (D1 : Def1 X.prog X.w X.K X.mg X.base T j f ps g) (hr : Room k X.A) (hjk : j + 1 ≤ k) (hn : 2 = ps.length) (ha : PE X a (TEd F fa)) (hb' : PE X b (TEd F fb)) (hm : behindInMarks .NotEq b = false) :
    PE X (.Compare a [.NotEq] [b] pos) (TEd F (fEqL c kn g true fa fb)) := by
  subst hT
  obtain ⟨⟨fd, hb, Fn⟩, kp⟩ := D1
  exact PE.imp (pe_cmpR (opd_neL hK C Fn (hr.mono hjk) hb) ha hb' hm) fun _ _ _ => eqL_read hn
theorem de_eqR (hK : F.K = X.K) (hT : F.T = T) (C : EqC X.K T c kn f) (D1 : Def1 X.prog X.w X.K X.mg X.base T j f ps g) (hr : Room k X.A) (hjk : j ≤ k) (hn : 2 = ps.length) (ha : PE X a (TEd F fa)) (hb' : PE X b (TEd F fb)) (hm : behindInMarks .Eq b = false) :
    PE X (.Compare a [.Eq] [b] pos) (TEd F (fEqR c kn g fa fb)) := by
  subst hT
  obtain ⟨⟨fd, hb, Fn⟩, kp⟩ := D1
  exact PE.imp (pe_cmpR (opd_eqR hK C Fn (hr.mono hjk) hb) ha hb' hm) fun _ _ _ => eqR_read hn
end
theorem eqC_ok {K : PySem.W.Frag} {T : Cl} {c : Nat} {C f : Str} {kn : List Nat} {ks : List Str} (h : eqCB C f ks K = true) (hc : T.ad c = He.ga K C) (hk : ∀ c' ∈ kn, ∃ D ∈ ks, T.ad c' = He.ga K D) : EqC K T c kn (He.ma K (He.ga K C) f) := by
  unfold eqCB at h
  simp only [Bool.and_eq_true, List.all_eq_true] at h
  obtain ⟨h1, h2, h3, h4, h5, h6⟩ := h
  refine ⟨by rw [hc]; exact of_decide_eq_true h1, h2, by rw [hc]; exact of_decide_eq_true h3, by rw [hc]; exact of_decide_eq_true h4, fun t ht => ?_, fun c' hc' => ?_⟩
  · rw [hc]; exact ⟨of_decide_eq_true (h5 t ht).1, of_decide_eq_true (h5 t ht).2⟩
  · obtain ⟨D, hD, e⟩ := hk c' hc'
    obtain ⟨a1, a2, a3, a4, a5⟩ := h6 D hD
    rw [hc, e]
    exact ⟨of_decide_eq_true a1, of_decide_eq_true a2, of_decide_eq_true a3, of_decide_eq_true a4, of_decide_eq_true a5⟩
end SC

set_option Elab.async false
set_option linter.all false
set_option maxRecDepth 100000
set_option maxHeartbeats 1000000
namespace SC
open PySem PySem.Spec PyProof.Rows L2

/-! ### max of a list of whole numbers -/
def dMaxL : List D → Option D
  | [.lst ds] => match allI ds with
    | some (n :: ns) => some (.int (ns.foldl max n))
    | _ => none
  | _ => none
theorem fmax_mem : ∀ (ns : List Int) (n : Int), ns.foldl max n ∈ n :: ns
  | [], n => List.mem_cons_self
  | m :: ns, n => by
    have h := fmax_mem ns (max n m)
    show ns.foldl max (max n m) ∈ _
    rcases List.mem_cons.mp h with e | h
    · rw [e]
      rcases Int.le_total n m with q | q
      · rw [Int.max_eq_right q]; exact List.mem_cons_of_mem _ List.mem_cons_self
      · rw [Int.max_eq_left q]; exact List.mem_cons_self
    · exact List.mem_cons_of_mem _ (List.mem_cons_of_mem _ h)
theorem fmax_ge : ∀ (ns : List Int) (n y : Int), y ∈ n :: ns → y ≤ ns.foldl max n
  | [], n, y, h => by
    have : y = n := by simpa using h
    subst this; exact Int.le_refl _
  | m :: ns, n, y, h => by
    show y ≤ ns.foldl max (max n m)
    have top := fmax_ge ns (max n m) (max n m) List.mem_cons_self
    rcases List.mem_cons.mp h with rfl | h
    · exact Int.le_trans (Int.le_max_left _ _) top
    rcases List.mem_cons.mp h with rfl | h
    · exact Int.le_trans (Int.le_max_right _ _) top
    · exact fmax_ge ns (max n m) y (List.mem_cons_of_mem _ h)
theorem cd_maxL {X : Cx} {F : Fx} (hK : F.K = X.K) (hc : X.calm = true) : CallR X (.builtin "max") (rCs F dMaxL) := by
  obtain ⟨K, T, M0, pa, H0⟩ := F
  cases hK
  refine CallR.imp (cr_max hc) ?_
  rintro vs H Q ⟨M, ds, r, hm, hx, g, q⟩
  match ds, g with
  | [.lst ds], g =>
    simp only [dMaxL] at g
    split at g
    · rename_i n ns e1
      cases g
      obtain ⟨v, rfl, h⟩ := paired1 hx
      obtain ⟨a, us, rfl, ha, ra⟩ := h.lst
      rw [allI_eq e1] at ra
      rw [ra.ints] at ha
      refine ⟨a, n :: ns, rfl, SqL.of ha, by simp, fun m h1 h2 => ?_⟩
      have e : m = ns.foldl max n := Int.le_antisymm (fmax_ge ns n m h1) (h2 _ (fmax_mem ns n))
      rw [e]
      exact q _ _ Ext.rfl rfl
    · cases g
end SC

set_option Elab.async false
set_option linter.all false
set_option maxRecDepth 100000
set_option maxHeartbeats 0
namespace SC
open PySem PySem.Spec PyProof.Rows L2
def TT (K : PySem.W.Frag) : Cl := { ad := fun c => match c with | 0 => He.ga K "Plan" | 1 => He.ga K "Period" | _ => 0, fl := fun c => match c with | 0 => ["count", "kept"] | 1 => ["base", "past"] | _ => [] }
structure Ws (K : PySem.W.Frag) (mg : Str → Option Value) : Prop where
  c_Period : CK K (TT K) 1
  c_Plan : CK K (TT K) 0
  w_Plan_read : ClX.CMet K ((TT K).ad 0) (.type "type") "read" (He.ma K (He.ga K "Plan") "read") (cmAd K "Plan" "read")
  q_Plan : ClX.CRead K ((TT K).ad 0) (.type "type")
  e_Plan : EqC K (TT K) 0 [1] (He.ma K (He.ga K "Plan") "__eq__")
  n_all : mg "all" = none
  n_bool : mg "bool" = none
  n_enumerate : mg "enumerate" = none
  n_int : mg "int" = none
  n_isinstance : mg "isinstance" = none
  n_len : mg "len" = none
  n_max : mg "max" = none
  n_range : mg "range" = none
  n_repr : mg "repr" = none
  n_str : mg "str" = none
  n_sum : mg "sum" = none
  n_tuple : mg "tuple" = none
  f_Period___init__ : ∃ fd, FunD K "__init__" "Period.__init__" (defArgs (inClass (top 41) 1)) (defBody (inClass (top 41) 1)) (defScope (inClass (top 41) 1)) [] [] (He.ma K (He.ga K "Period") "__init__") fd
  f_Plan___eq__ : ∃ fd, FunD K "__eq__" "Plan.__eq__" (defArgs (inClass (top 31) 14)) (defBody (inClass (top 31) 14)) (defScope (inClass (top 31) 14)) [] [] (He.ma K (He.ga K "Plan") "__eq__") fd
  f_Plan___init__ : ∃ fd, FunD K "__init__" "Plan.__init__" (defArgs (inClass (top 31) 0)) (defBody (inClass (top 31) 0)) (defScope (inClass (top 31) 0)) [] [] (He.ma K (He.ga K "Plan") "__init__") fd
  f_Plan___len__ : ∃ fd, FunD K "__len__" "Plan.__len__" (defArgs (inClass (top 31) 9)) (defBody (inClass (top 31) 9)) (defScope (inClass (top 31) 9)) [] [] (He.ma K (He.ga K "Plan") "__len__") fd
  f_Plan___repr__ : ∃ fd, FunD K "__repr__" "Plan.__repr__" (defArgs (inClass (top 31) 15)) (defBody (inClass (top 31) 15)) (defScope (inClass (top 31) 15)) [] [] (He.ma K (He.ga K "Plan") "__repr__") fd
  f_Plan_products : ∃ fd, FunD K "products" "Plan.products" (defArgs (inClass (top 31) 5)) (defBody (inClass (top 31) 5)) (defScope (inClass (top 31) 5)) [] [] (prGet K "Plan" "products") fd
  f_Plan_read : ∃ fd, FunD K "read" "Plan.read" (defArgs (inClass (top 31) 2)) (defBody (inClass (top 31) 2)) (defScope (inClass (top 31) 2)) [] [] (cmAd K "Plan" "read") fd
  f_Plan_rows : ∃ fd, FunD K "rows" "Plan.rows" (defArgs (inClass (top 31) 6)) (defBody (inClass (top 31) 6)) (defScope (inClass (top 31) 6)) [] [] (prGet K "Plan" "rows") fd
  f_Plan_text : ∃ fd, FunD K "text" "Plan.text" (defArgs (inClass (top 31) 4)) (defBody (inClass (top 31) 4)) (defScope (inClass (top 31) 4)) [] [] (He.ma K (He.ga K "Plan") "text") fd
  f__law_build : ∃ fd, FunD K "_law_build" "_law_build" (defArgs (top 50)) (defBody (top 50)) (defScope (top 50)) [] [] (He.ga K "_law_build") fd
  f__law_cell : ∃ fd, FunD K "_law_cell" "_law_cell" (defArgs (top 43)) (defBody (top 43)) (defScope (top 43)) [] [] (He.ga K "_law_cell") fd
  f__law_draw : ∃ fd, FunD K "_law_draw" "_law_draw" (defArgs (top 45)) (defBody (top 45)) (defScope (top 45)) [] [] (He.ga K "_law_draw") fd
  f__law_draw_plan : ∃ fd, FunD K "_law_draw_plan" "_law_draw_plan" (defArgs (top 48)) (defBody (top 48)) (defScope (top 48)) [] [] (He.ga K "_law_draw_plan") fd
  f__law_draw_row : ∃ fd, FunD K "_law_draw_row" "_law_draw_row" (defArgs (top 47)) (defBody (top 47)) (defScope (top 47)) [] [] (He.ga K "_law_draw_row") fd
  f__law_is_right : ∃ fd, FunD K "_law_is_right" "_law_is_right" (defArgs (top 53)) (defBody (top 53)) (defScope (top 53)) [] [] (He.ga K "_law_is_right") fd
  f__law_near : ∃ fd, FunD K "_law_near" "_law_near" (defArgs (top 52)) (defBody (top 52)) (defScope (top 52)) [] [] (He.ga K "_law_near") fd
  f__law_odds : ∃ fd, FunD K "_law_odds" "_law_odds" (defArgs (top 51)) (defBody (top 51)) (defScope (top 51)) [] [] (He.ga K "_law_odds") fd
  f__law_pen : ∃ fd, FunD K "_law_pen" "_law_pen" (defArgs (top 44)) (defBody (top 44)) (defScope (top 44)) [] [] (He.ga K "_law_pen") fd
  f__law_same : ∃ fd, FunD K "_law_same" "_law_same" (defArgs (top 46)) (defBody (top 46)) (defScope (top 46)) [] [] (He.ga K "_law_same") fd
  f__law_write : ∃ fd, FunD K "_law_write" "_law_write" (defArgs (top 49)) (defBody (top 49)) (defScope (top 49)) [] [] (He.ga K "_law_write") fd
  f_are_rows : ∃ fd, FunD K "are_rows" "are_rows" (defArgs (top 29)) (defBody (top 29)) (defScope (top 29)) [] [] (He.ga K "are_rows") fd
  f_is_between : ∃ fd, FunD K "is_between" "is_between" (defArgs (top 17)) (defBody (top 17)) (defScope (top 17)) [] [] (He.ga K "is_between") fd
  f_is_integer : ∃ fd, FunD K "is_integer" "is_integer" (defArgs (top 16)) (defBody (top 16)) (defScope (top 16)) [] [] (He.ga K "is_integer") fd
  f_is_row : ∃ fd, FunD K "is_row" "is_row" (defArgs (top 28)) (defBody (top 28)) (defScope (top 28)) [] [] (He.ga K "is_row") fd
  f_law : ∃ fd, FunD K "law" "law" (defArgs (top 54)) (defBody (top 54)) (defScope (top 54)) [] [] (He.ga K "law") fd
  f_need_plan : ∃ fd, FunD K "need_plan" "need_plan" (defArgs (top 32)) (defBody (top 32)) (defScope (top 32)) [] [] (He.ga K "need_plan") fd
  f_number_in : ∃ fd, FunD K "number_in" "number_in" (defArgs (top 30)) (defBody (top 30)) (defScope (top 30)) [] [] (He.ga K "number_in") fd
  g_NOTHING : mg "NOTHING" = some (.ref (He.ga K "NOTHING"))
  g_Period : mg "Period" = some (.ref (He.ga K "Period"))
  g_Plan : mg "Plan" = some (.ref (He.ga K "Plan"))
  g__law_build : mg "_law_build" = some (.ref (He.ga K "_law_build"))
  g__law_cell : mg "_law_cell" = some (.ref (He.ga K "_law_cell"))
  g__law_draw : mg "_law_draw" = some (.ref (He.ga K "_law_draw"))
  g__law_draw_plan : mg "_law_draw_plan" = some (.ref (He.ga K "_law_draw_plan"))
  g__law_draw_row : mg "_law_draw_row" = some (.ref (He.ga K "_law_draw_row"))
  g__law_is_right : mg "_law_is_right" = some (.ref (He.ga K "_law_is_right"))
  g__law_near : mg "_law_near" = some (.ref (He.ga K "_law_near"))
  g__law_odds : mg "_law_odds" = some (.ref (He.ga K "_law_odds"))
  g__law_pen : mg "_law_pen" = some (.ref (He.ga K "_law_pen"))
  g__law_same : mg "_law_same" = some (.ref (He.ga K "_law_same"))
  g__law_write : mg "_law_write" = some (.ref (He.ga K "_law_write"))
  g_are_rows : mg "are_rows" = some (.ref (He.ga K "are_rows"))
  g_is_between : mg "is_between" = some (.ref (He.ga K "is_between"))
  g_is_integer : mg "is_integer" = some (.ref (He.ga K "is_integer"))
  g_is_row : mg "is_row" = some (.ref (He.ga K "is_row"))
  g_law : mg "law" = some (.ref (He.ga K "law"))
  g_need_plan : mg "need_plan" = some (.ref (He.ga K "need_plan"))
  g_number_in : mg "number_in" = some (.ref (He.ga K "number_in"))
  i_MOST : ∃ t, mg "MOST" = some (.int 4 t)
  i_MOST_WEIGHT : ∃ t, mg "MOST_WEIGHT" = some (.int 20 t)
  j_Plan : IsC K (TT K) (He.ga K "Plan") [0, 1] [0]
  h_Plan_text : Meth K ((TT K).ad 0) "text" (He.ma K (He.ga K "Plan") "text")
  m_Period : Mk K ((TT K).ad 1) (He.ma K (He.ga K "Period") "__init__")
  m_Plan : Mk K ((TT K).ad 0) (He.ma K (He.ga K "Plan") "__init__")
  p_Plan_products : PropOf K ((TT K).ad 0) "products" (prAd K "Plan" "products") (prGet K "Plan" "products")
  p_Plan_rows : PropOf K ((TT K).ad 0) "rows" (prAd K "Plan" "rows") (prGet K "Plan" "rows")
  s_Plan___len__ : Sp1 K ((TT K).ad 0) "__len__" (He.ma K (He.ga K "Plan") "__len__")
  s_Plan___repr__ : Sp1 K ((TT K).ad 0) "__repr__" (He.ma K (He.ga K "Plan") "__repr__")
  i_DIGITS : ∃ t, mg "DIGITS" = some (.str "0123456789" t)
  i_HEAD : ∃ t, mg "HEAD" = some (.str "products " t)
  t_NOTHING : ∀ H, SqT K H (He.ga K "NOTHING") [.int 0, .int 1]
/-! ### _law_cell -/
abbrev s__law_cell : Stmt := top 43
def N__law_cell : List Str := ["_law_script", "_law_k"]
def d__law_cell : FB := bRet (fIf (fTest (fBin (dCmp fun i j => decide (i < j)) (fVar 1) (fBlt dLen (fCons (fVar 0) fNil)))) (fBin dIdx (fVar 0) (fVar 1)) (fC (.int 0)))
def g__law_cell : FG := fnD 2 [] d__law_cell
theorem nd__law_cell : N__law_cell.Nodup := by decide +kernel
theorem sc__law_cell : FnScope N__law_cell ["_law_script", "_law_k"] (defScope s__law_cell) := ⟨rfl, rfl, rfl, nd__law_cell, rfl, by decide +kernel, by decide +kernel⟩
theorem ok__law_cell {P : Program} {w : World} {K : PySem.W.Frag} {mg : Str → Option Value} {base : Heap} (W : Ws K mg) : Def1 P w K mg base (TT K) 1 (He.ga K "_law_cell") ["_law_script", "_law_k"] g__law_cell := by
  obtain ⟨fd, Fd⟩ := W.f__law_cell
  exact FunD.def1 (N := N__law_cell) (ps := ["_law_script", "_law_k"]) (asg := []) (fb := d__law_cell) Fd sc__law_cell (fun _ _ _ _ _ _ us hl => match us, hl with | [_, _], _ => rfl) (fun cdv A outer s H E hr F hK hT hpa => (dss_one (ds_ret (de_if (dt_cmp (opd_cmp op_lt) (de_var rfl (.inl rfl) rfl rfl) (de_blt (cd_len hK) rfl W.n_len bt_len (da_cons (de_var rfl (.inl rfl) rfl rfl) da_nil rfl) (by decide) rfl rfl rfl) rfl) (de_ix hK (de_var rfl (.inl rfl) rfl rfl) (de_var rfl (.inl rfl) rfl rfl) (fun _ _ => rfl)) (de_c pe_int (fun _ _ => rfl))))))
/-! ### _law_pen: a new list -/
abbrev sn__law_pen : Stmt := top 44
def Nn__law_pen : List Str := ["_law_cell_here"]
def dn__law_pen : FN := nDisp (fCons (fBlt dMax (fCons (fC (.int 0)) (fCons (fBin dSub (fVar 0) (fBin dPow (fC (.int 10)) (fC (.int 18)))) (fNil)))) (fCons (fBin dAdd (fBin dMod (fVar 0) (fC (.int 2147483629))) (fC (.int 1))) (fCons (fC (.int 0)) (fNil))))
def gn__law_pen : List D → Option (List D) := genN 1 dn__law_pen
theorem ndn__law_pen : Nn__law_pen.Nodup := by decide +kernel
theorem scn__law_pen : FnScope Nn__law_pen ["_law_cell_here"] (defScope sn__law_pen) := ⟨rfl, rfl, rfl, ndn__law_pen, rfl, by decide +kernel, by decide +kernel⟩
theorem okn__law_pen {P : Program} {w : World} {K : PySem.W.Frag} {mg : Str → Option Value} {base : Heap} (W : Ws K mg) : DefN P w K mg base (TT K) 1 (He.ga K "_law_pen") ["_law_cell_here"] gn__law_pen := by
  obtain ⟨fd, Fd⟩ := W.f__law_pen
  exact FunD.defN (N := Nn__law_pen) (ps := ["_law_cell_here"]) (fn := dn__law_pen) Fd scn__law_pen (fun _ _ _ _ _ _ us hl => match us, hl with | [_], _ => rfl) (fun cdv A outer s H E hr F hK hT hpa => (dn_lst (da_cons (de_blt (cd_max rfl) rfl W.n_max bt_max (da_cons (de_c pe_int (fun _ _ => rfl)) (da_cons (de_bin (opd_sub hK) (de_var rfl (.inl rfl) rfl rfl) (de_bin (opd_pow hK) (de_c pe_int (fun _ _ => rfl)) (de_c pe_int (fun _ _ => rfl)))) da_nil rfl) rfl) (by decide) rfl rfl rfl) (da_cons (de_bin (opd_add hK) (de_bin (opd_mod hK) (de_var rfl (.inl rfl) rfl rfl) (de_c pe_int (fun _ _ => rfl))) (de_c pe_int (fun _ _ => rfl))) (da_cons (de_c pe_int (fun _ _ => rfl)) da_nil rfl) rfl) rfl)))
/-! ### _law_draw -/
abbrev s__law_draw : Stmt := top 45
def N__law_draw : List Str := ["_law_pen_here", "_law_many", "_law_found", "_law_stirred"]
def d__law_draw : FB := bSeq (bIf (fTest (fBin (dCmp fun i j => decide (j < i)) (fBin dIdx (fVar 0) (fC (.int 0))) (fC (.int 0)))) (bSeq (bSet 2 (fBin dMod (fBin dIdx (fVar 0) (fC (.int 0))) (fVar 1))) (bSeq (bPut 0 (fC (.int 0)) (fBin dDiv (fBin dIdx (fVar 0) (fC (.int 0))) (fVar 1))) (bRet (fVar 2)))) (bNx)) (bSeq (bPut 0 (fC (.int 2)) (fBin dAdd (fBin dIdx (fVar 0) (fC (.int 2))) (fC (.int 1)))) (bSeq (bPut 0 (fC (.int 1)) (fBin dMod (fBin dAdd (fBin dAdd (fBin dMul (fBin dIdx (fVar 0) (fC (.int 1))) (fC (.int 48271))) (fBin dMul (fC (.int 1009)) (fBin dIdx (fVar 0) (fC (.int 2))))) (fC (.int 7))) (fC (.int 2147483647)))) (bSeq (bSet 3 (fBin dMod (fBin dAdd (fBin dAdd (fBin dMul (fBin dIdx (fVar 0) (fC (.int 1))) (fBin dIdx (fVar 0) (fC (.int 1)))) (fBin dMul (fC (.int 69621)) (fBin dIdx (fVar 0) (fC (.int 1))))) (fC (.int 11))) (fC (.int 2147483629)))) (bSeq (bSet 3 (fBin dMod (fBin dAdd (fBin dMul (fVar 3) (fVar 3)) (fBin dMul (fC (.int 40014)) (fVar 3))) (fC (.int 2147483587)))) (bRet (fBin dMod (fBin dDiv (fVar 3) (fC (.int 16))) (fVar 1)))))))
def g__law_draw : FG := fnD 4 [] d__law_draw
theorem nd__law_draw : N__law_draw.Nodup := by decide +kernel
theorem sc__law_draw : FnScope N__law_draw ["_law_pen_here", "_law_many"] (defScope s__law_draw) := ⟨rfl, rfl, rfl, nd__law_draw, rfl, by decide +kernel, by decide +kernel⟩
theorem ok__law_draw {P : Program} {w : World} {K : PySem.W.Frag} {mg : Str → Option Value} {base : Heap} (W : Ws K mg) : Def1 P w K mg base (TT K) 1 (He.ga K "_law_draw") ["_law_pen_here", "_law_many"] g__law_draw := by
  obtain ⟨fd, Fd⟩ := W.f__law_draw
  exact FunD.def1 (N := N__law_draw) (ps := ["_law_pen_here", "_law_many"]) (asg := []) (fb := d__law_draw) Fd sc__law_draw (fun _ _ _ _ _ _ us hl => match us, hl with | [_, _], _ => rfl) (fun cdv A outer s H E hr F hK hT hpa => (dss_cons (ds_if (dt_cmp (opd_cmp op_gt) (de_ix hK (de_var rfl (.inl rfl) rfl rfl) (de_c pe_int (fun _ _ => rfl)) (fun _ _ => rfl)) (de_c pe_int (fun _ _ => rfl)) rfl) (dss_cons (ds_set nd__law_draw rfl (.inl rfl) (de_bin (opd_mod hK) (de_ix hK (de_var rfl (.inl rfl) rfl rfl) (de_c pe_int (fun _ _ => rfl)) (fun _ _ => rfl)) (de_var rfl (.inl rfl) rfl rfl)) rfl (.inl rfl) (hpa.not (i := 2) rfl)) (dss_cons (ds_put rfl (.inl rfl) rfl rfl (de_c pe_int (fun _ _ => rfl)) (de_bin (opd_div hK) (de_ix hK (de_var rfl (.inl rfl) rfl rfl) (de_c pe_int (fun _ _ => rfl)) (fun _ _ => rfl)) (de_var rfl (.inl rfl) rfl rfl)) rfl rfl rfl (fun _ => rfl)) (dss_one (ds_ret (de_var rfl (.inl rfl) rfl rfl))))) dss_nil) (dss_cons (ds_put rfl (.inl rfl) rfl rfl (de_c pe_int (fun _ _ => rfl)) (de_bin (opd_add hK) (de_ix hK (de_var rfl (.inl rfl) rfl rfl) (de_c pe_int (fun _ _ => rfl)) (fun _ _ => rfl)) (de_c pe_int (fun _ _ => rfl))) rfl rfl rfl (fun _ => rfl)) (dss_cons (ds_put rfl (.inl rfl) rfl rfl (de_c pe_int (fun _ _ => rfl)) (de_bin (opd_mod hK) (de_bin (opd_add hK) (de_bin (opd_add hK) (de_bin (opd_mul hK) (de_ix hK (de_var rfl (.inl rfl) rfl rfl) (de_c pe_int (fun _ _ => rfl)) (fun _ _ => rfl)) (de_c pe_int (fun _ _ => rfl))) (de_bin (opd_mul hK) (de_c pe_int (fun _ _ => rfl)) (de_ix hK (de_var rfl (.inl rfl) rfl rfl) (de_c pe_int (fun _ _ => rfl)) (fun _ _ => rfl)))) (de_c pe_int (fun _ _ => rfl))) (de_c pe_int (fun _ _ => rfl))) rfl rfl rfl (fun _ => rfl)) (dss_cons (ds_set nd__law_draw rfl (.inl rfl) (de_bin (opd_mod hK) (de_bin (opd_add hK) (de_bin (opd_add hK) (de_bin (opd_mul hK) (de_ix hK (de_var rfl (.inl rfl) rfl rfl) (de_c pe_int (fun _ _ => rfl)) (fun _ _ => rfl)) (de_ix hK (de_var rfl (.inl rfl) rfl rfl) (de_c pe_int (fun _ _ => rfl)) (fun _ _ => rfl))) (de_bin (opd_mul hK) (de_c pe_int (fun _ _ => rfl)) (de_ix hK (de_var rfl (.inl rfl) rfl rfl) (de_c pe_int (fun _ _ => rfl)) (fun _ _ => rfl)))) (de_c pe_int (fun _ _ => rfl))) (de_c pe_int (fun _ _ => rfl))) rfl (.inl rfl) (hpa.not (i := 3) rfl)) (dss_cons (ds_set nd__law_draw rfl (.inl rfl) (de_bin (opd_mod hK) (de_bin (opd_add hK) (de_bin (opd_mul hK) (de_var rfl (.inl rfl) rfl rfl) (de_var rfl (.inl rfl) rfl rfl)) (de_bin (opd_mul hK) (de_c pe_int (fun _ _ => rfl)) (de_var rfl (.inl rfl) rfl rfl))) (de_c pe_int (fun _ _ => rfl))) rfl (.inl rfl) (hpa.not (i := 3) rfl)) (dss_one (ds_ret (de_bin (opd_mod hK) (de_bin (opd_div hK) (de_var rfl (.inl rfl) rfl rfl) (de_c pe_int (fun _ _ => rfl))) (de_var rfl (.inl rfl) rfl rfl))))))))))
/-! ### _law_draw_row -/
abbrev s__law_draw_row : Stmt := top 47
def N__law_draw_row : List Str := ["_law_pen_here", "_law_products", "_law_centres", "_law_at", "_law_way", "_law_most", "_law_row", "_law_spot", "_law_turn", "_law_weight"]
def d__law_draw_row : FB := bSeq (bSet 5 (fBin dIdx (fNew (nDisp (fCons (fC (.int 3)) (fCons (fC (.int 5)) (fCons (fC (.int 21)) (fNil)))))) (fCall g__law_draw [] (fCons (fVar 0) (fCons (fC (.int 3)) (fNil)))))) (bSeq (bOwn 6 (nLc [8] (.nm 8) (sRng (fCons (fBin dAdd (fVar 1) (fVar 2)) (fNil))) (fYes) (fCall g__law_draw [] (fCons (fVar 0) (fCons (fVar 5) (fNil)))))) (bSeq (bIf (fTest (fBin (dEq) (fVar 4) (fC (.int 0)))) (bOwn 6 (nAdd (fSlc (fVar 6) (fNoPart) (fPart (fVar 1))) (fNew (nLc [9] (.nm 9) (sItm (fSlc (fVar 6) (fPart (fVar 1)) (fNoPart))) (fYes) (fIf (fTest (fBin (dEq) (fCall g__law_draw [] (fCons (fVar 0) (fCons (fC (.int 3)) (fNil)))) (fC (.int 0)))) (fVar 9) (fC (.int 0))))))) (bNx)) (bSeq (bSet 7 (fCall g__law_draw [] (fCons (fVar 0) (fCons (fVar 1) (fNil))))) (bSeq (bIf (fTest (fBin (dEq) (fBlt dSum (fCons (fSlc (fVar 6) (fNoPart) (fPart (fVar 1))) (fNil))) (fC (.int 0)))) (bPut 6 (fVar 7) (fBin dAdd (fC (.int 1)) (fCall g__law_draw [] (fCons (fVar 0) (fCons (fBin dSub (fVar 5) (fC (.int 1))) (fNil)))))) (bNx)) (bSeq (bPut 6 (fBin dAdd (fVar 1) (fVar 3)) (fC (.int 0))) (bRet (fBlt dTuple (fCons (fVar 6) (fNil)))))))))
def g__law_draw_row : FG := fnD 10 [] d__law_draw_row
theorem nd__law_draw_row : N__law_draw_row.Nodup := by decide +kernel
theorem sc__law_draw_row : FnScope N__law_draw_row ["_law_pen_here", "_law_products", "_law_centres", "_law_at", "_law_way"] (defScope s__law_draw_row) := ⟨rfl, rfl, rfl, nd__law_draw_row, rfl, by decide +kernel, by decide +kernel⟩
theorem ok__law_draw_row {P : Program} {w : World} {K : PySem.W.Frag} {mg : Str → Option Value} {base : Heap} (W : Ws K mg) : Def1 P w K mg base (TT K) 2 (He.ga K "_law_draw_row") ["_law_pen_here", "_law_products", "_law_centres", "_law_at", "_law_way"] g__law_draw_row := by
  obtain ⟨fd, Fd⟩ := W.f__law_draw_row
  exact FunD.def1 (N := N__law_draw_row) (ps := ["_law_pen_here", "_law_products", "_law_centres", "_law_at", "_law_way"]) (asg := []) (fb := d__law_draw_row) Fd sc__law_draw_row (fun _ _ _ _ _ _ us hl => match us, hl with | [_, _, _, _, _], _ => rfl) (fun cdv A outer s H E hr F hK hT hpa => (dss_cons (ds_set nd__law_draw_row rfl (.inr rfl) (de_ix hK (de_new (dn_lst (da_cons (de_c pe_int (fun _ _ => rfl)) (da_cons (de_c pe_int (fun _ _ => rfl)) (da_cons (de_c pe_int (fun _ _ => rfl)) da_nil rfl) rfl) rfl))) (de_callO hK ((ok__law_draw W).T hT) hr (by decide) rfl W.g__law_draw (da_cons (de_var rfl (.inr (.inl rfl)) rfl rfl) (da_cons (de_c pe_int (fun _ _ => rfl)) da_nil rfl) rfl) (faLen_cons (faLen_cons faLen_nil)) rfl rfl rfl rfl) (fun _ _ => rfl)) rfl (.inl rfl) (hpa.not (i := 5) rfl)) (dss_cons (ds_lcO (ps_lcI [("_law_turn", 8)] rfl hK rfl nd__law_draw_row rfl rfl (sw_true rfl rfl rfl rfl) (di_rng1 rfl W.n_range (da_cons (de_bin (opd_add hK) (de_var rfl (.inl rfl) rfl rfl) (de_var rfl (.inl rfl) rfl rfl)) da_nil rfl) rfl (faLen_cons faLen_nil).eq) (blkB_ok rfl) (by decide) (fun _ _ _ _ _ _ hK1 hT1 => (dg_name nd__law_draw_row rfl (.inl rfl) (.inr rfl))) (fun _ _ _ _ _ _ hK1 hT1 => dts_nil) (fun _ _ _ _ _ _ hK1 hT1 => (de_callO hK1 ((ok__law_draw W).T (hT1.trans hT)) hr (by decide) rfl W.g__law_draw (da_cons (de_var rfl (.inr (.inl rfl)) rfl rfl) (da_cons (de_var rfl (.inr (.inl rfl)) rfl rfl) da_nil rfl) rfl) (faLen_cons (faLen_cons faLen_nil)) rfl rfl rfl rfl)) (fun _ => rfl)) (hpa.not (i := 6) rfl)) (dss_cons (ds_if (dt_cmp (opd_eq hK hr.units) (de_var rfl (.inl rfl) rfl rfl) (de_c pe_int (fun _ _ => rfl)) rfl) (dss_one (ds_own nd__law_draw_row rfl (.inl rfl) (dn_add (de_slc hK (de_var rfl (.inl rfl) rfl rfl) do_none (do_some (de_var rfl (.inl rfl) rfl rfl))) (de_new (dn_lcI [("_law_weight", 9)] rfl hK rfl nd__law_draw_row (di_itm hK (de_slc hK (de_var rfl (.inl rfl) rfl rfl) (do_some (de_var rfl (.inl rfl) rfl rfl)) do_none)) (blkB_ok rfl) (by decide) (fun _ _ _ _ _ _ hK1 hT1 => (dg_name nd__law_draw_row rfl (.inl rfl) (.inr rfl))) (fun _ _ _ _ _ _ hK1 hT1 => dts_nil) (fun _ _ _ _ _ _ hK1 hT1 => (de_if (dt_cmp (opd_eq hK1 hr.units) (de_callO hK1 ((ok__law_draw W).T (hT1.trans hT)) hr (by decide) rfl W.g__law_draw (da_cons (de_var rfl (.inr (.inl rfl)) rfl rfl) (da_cons (de_c pe_int (fun _ _ => rfl)) da_nil rfl) rfl) (faLen_cons (faLen_cons faLen_nil)) rfl rfl rfl rfl) (de_c pe_int (fun _ _ => rfl)) rfl) (de_var rfl (.inl rfl) rfl rfl) (de_c pe_int (fun _ _ => rfl)))) (fun _ => rfl)))) rfl (.inl rfl) (hpa.not (i := 6) rfl))) dss_nil) (dss_cons (ds_set nd__law_draw_row rfl (.inl rfl) (de_callO hK ((ok__law_draw W).T hT) hr (by decide) rfl W.g__law_draw (da_cons (de_var rfl (.inr (.inl rfl)) rfl rfl) (da_cons (de_var rfl (.inl rfl) rfl rfl) da_nil rfl) rfl) (faLen_cons (faLen_cons faLen_nil)) rfl rfl rfl rfl) rfl (.inl rfl) (hpa.not (i := 7) rfl)) (dss_cons (ds_if (dt_cmp (opd_eq hK hr.units) (de_blt (cd_sum hK rfl) rfl W.n_sum bt_sum (da_cons (de_slc hK (de_var rfl (.inl rfl) rfl rfl) do_none (do_some (de_var rfl (.inl rfl) rfl rfl))) da_nil rfl) (by decide) rfl rfl rfl) (de_c pe_int (fun _ _ => rfl)) rfl) (dss_one (ds_put rfl (.inl rfl) rfl rfl (de_var rfl (.inl rfl) rfl rfl) (de_bin (opd_add hK) (de_c pe_int (fun _ _ => rfl)) (de_callO hK ((ok__law_draw W).T hT) hr (by decide) rfl W.g__law_draw (da_cons (de_var rfl (.inr (.inl rfl)) rfl rfl) (da_cons (de_bin (opd_sub hK) (de_var rfl (.inr (.inl rfl)) rfl rfl) (de_c pe_int (fun _ _ => rfl))) da_nil rfl) rfl) (faLen_cons (faLen_cons faLen_nil)) rfl rfl rfl rfl)) rfl rfl rfl (fun _ => rfl))) dss_nil) (dss_cons (ds_put rfl (.inl rfl) rfl rfl (de_bin (opd_add hK) (de_var rfl (.inl rfl) rfl rfl) (de_var rfl (.inl rfl) rfl rfl)) (de_c pe_int (fun _ _ => rfl)) rfl rfl rfl (fun _ => rfl)) (dss_one (ds_ret (de_bty (cd_tuple hK) rfl W.n_tuple bt_tuple (da_cons (de_var rfl (.inl rfl) rfl rfl) da_nil rfl) (by decide) rfl rfl rfl))))))))))
/-! ### _law_draw_plan -/
abbrev s__law_draw_plan : Stmt := top 48
def N__law_draw_plan : List Str := ["_law_pen_here", "_law_products", "_law_centres", "_law_way", "_law_rows", "_law_base", "_law_spot", "_law_at", "_law_row", "_law_turn", "_law_one"]
def d__law_draw_plan : FB := bSeq (bPar [1, 2, 3] (mDat (fBin dAdd (fC (.int 1)) (fCall g__law_draw [] (fCons (fVar 0) (fCons (fC (.int 4)) (fNil))))) (mDat (fBin dAdd (fC (.int 1)) (fCall g__law_draw [] (fCons (fVar 0) (fCons (fC (.int 4)) (fNil))))) (mDat (fCall g__law_draw [] (fCons (fVar 0) (fCons (fC (.int 4)) (fNil)))) (mNil))))) (bSeq (bOwn 4 (nLc [7] (.nm 7) (sRng (fCons (fVar 2) (fNil))) (fYes) (fCall g__law_draw_row [] (fCons (fVar 0) (fCons (fVar 1) (fCons (fVar 2) (fCons (fVar 7) (fCons (fVar 3) (fNil))))))))) (bSeq (bIf (fTest (fBin (dCmp fun i j => decide (j < i)) (fVar 3) (fC (.int 1)))) (bSeq (bSet 5 (fBin dAdd (fNew (nLc [9] (.nm 9) (sRng (fCons (fBin dSub (fVar 1) (fC (.int 1))) (fNil))) (fYes) (fCall g__law_draw [] (fCons (fVar 0) (fCons (fC (.int 5)) (fNil)))))) (fNew (nDisp (fCons (fBin dAdd (fC (.int 1)) (fCall g__law_draw [] (fCons (fVar 0) (fCons (fC (.int 4)) (fNil))))) (fNil)))))) (bOwn 4 (nLc [7, 8] (.tp [7, 8]) (sEnm (fCons (fVar 4) (fNil))) (fYes) (fBin dAdd (fBlt dTuple (fCons (fNew (nLc [10] (.nm 10) (sItm (fVar 5)) (fYes) (fBin dMul (fBin dAdd (fC (.int 1)) (fBin dMod (fVar 7) (fC (.int 4)))) (fVar 10)))) (fNil))) (fSlc (fVar 8) (fPart (fVar 1)) (fNoPart)))))) (bNx)) (bSeq (bIf (fTest (fBin (dEq) (fVar 3) (fC (.int 3)))) (bSeq (bSet 6 (fCall g__law_draw [] (fCons (fVar 0) (fCons (fVar 2) (fNil))))) (bPut 4 (fVar 6) (fCall g__law_draw_row [] (fCons (fVar 0) (fCons (fVar 1) (fCons (fVar 2) (fCons (fVar 6) (fCons (fC (.int 0)) (fNil))))))))) (bNx)) (bSeq (bFrz 4) (bRet (fDisp .tup (fCons (fVar 1) (fCons (fVar 4) (fNil)))))))))
def g__law_draw_plan : FG := fnD 11 [] d__law_draw_plan
theorem nd__law_draw_plan : N__law_draw_plan.Nodup := by decide +kernel
theorem sc__law_draw_plan : FnScope N__law_draw_plan ["_law_pen_here"] (defScope s__law_draw_plan) := ⟨rfl, rfl, rfl, nd__law_draw_plan, rfl, by decide +kernel, by decide +kernel⟩
theorem ok__law_draw_plan {P : Program} {w : World} {K : PySem.W.Frag} {mg : Str → Option Value} {base : Heap} (W : Ws K mg) : Def1 P w K mg base (TT K) 3 (He.ga K "_law_draw_plan") ["_law_pen_here"] g__law_draw_plan := by
  obtain ⟨fd, Fd⟩ := W.f__law_draw_plan
  exact FunD.def1 (N := N__law_draw_plan) (ps := ["_law_pen_here"]) (asg := []) (fb := d__law_draw_plan) Fd sc__law_draw_plan (fun _ _ _ _ _ _ us hl => match us, hl with | [_], _ => rfl) (fun cdv A outer s H E hr F hK hT hpa => (dss_cons (ds_parT (n := 3) hK rfl nd__law_draw_plan (.cons rfl (.inr rfl) (.inl rfl) (.cons rfl (.inr rfl) (.inl rfl) (.cons rfl (.inr rfl) (.inl rfl) .nil rfl) rfl) rfl) (dm_dat (de_bin (opd_add hK) (de_c pe_int (fun _ _ => rfl)) (de_callO hK ((ok__law_draw W).T hT) hr (by decide) rfl W.g__law_draw (da_cons (de_var rfl (.inr (.inl rfl)) rfl rfl) (da_cons (de_c pe_int (fun _ _ => rfl)) da_nil rfl) rfl) (faLen_cons (faLen_cons faLen_nil)) rfl rfl rfl rfl)) (dm_dat (de_bin (opd_add hK) (de_c pe_int (fun _ _ => rfl)) (de_callO hK ((ok__law_draw W).T hT) hr (by decide) rfl W.g__law_draw (da_cons (de_var rfl (.inr (.inl rfl)) rfl rfl) (da_cons (de_c pe_int (fun _ _ => rfl)) da_nil rfl) rfl) (faLen_cons (faLen_cons faLen_nil)) rfl rfl rfl rfl)) (dm_dat (de_callO hK ((ok__law_draw W).T hT) hr (by decide) rfl W.g__law_draw (da_cons (de_var rfl (.inr (.inl rfl)) rfl rfl) (da_cons (de_c pe_int (fun _ _ => rfl)) da_nil rfl) rfl) (faLen_cons (faLen_cons faLen_nil)) rfl rfl rfl rfl) dm_nil rfl) rfl) rfl) rfl rfl rfl rfl rfl rfl (by decide) (hpa.nots rfl)) (dss_cons (ds_lcO (ps_lcI [("_law_at", 7)] rfl hK rfl nd__law_draw_plan rfl rfl (sw_true rfl rfl rfl rfl) (di_rng1 rfl W.n_range (da_cons (de_var rfl (.inr (.inl rfl)) rfl rfl) da_nil rfl) rfl (faLen_cons faLen_nil).eq) (blkB_ok rfl) (by decide) (fun _ _ _ _ _ _ hK1 hT1 => (dg_name nd__law_draw_plan rfl (.inl rfl) (.inr rfl))) (fun _ _ _ _ _ _ hK1 hT1 => dts_nil) (fun _ _ _ _ _ _ hK1 hT1 => (de_callO hK1 ((ok__law_draw_row W).T (hT1.trans hT)) hr (by decide) rfl W.g__law_draw_row (da_cons (de_var rfl (.inr (.inl rfl)) rfl rfl) (da_cons (de_var rfl (.inr (.inl rfl)) rfl rfl) (da_cons (de_var rfl (.inr (.inl rfl)) rfl rfl) (da_cons (de_var rfl (.inl rfl) rfl rfl) (da_cons (de_var rfl (.inr (.inl rfl)) rfl rfl) da_nil rfl) rfl) rfl) rfl) rfl) (faLen_cons (faLen_cons (faLen_cons (faLen_cons (faLen_cons faLen_nil))))) rfl rfl rfl rfl)) (fun _ => rfl)) (hpa.not (i := 4) rfl)) (dss_cons (ds_if (dt_cmp (opd_cmp op_gt) (de_var rfl (.inr (.inl rfl)) rfl rfl) (de_c pe_int (fun _ _ => rfl)) rfl) (dss_cons (ds_set nd__law_draw_plan rfl (.inr rfl) (de_bin (opd_add hK) (de_new (dn_lcI [("_law_turn", 9)] rfl hK rfl nd__law_draw_plan (di_rng1 rfl W.n_range (da_cons (de_bin (opd_sub hK) (de_var rfl (.inr (.inl rfl)) rfl rfl) (de_c pe_int (fun _ _ => rfl))) da_nil rfl) rfl (faLen_cons faLen_nil).eq) (blkB_ok rfl) (by decide) (fun _ _ _ _ _ _ hK1 hT1 => (dg_name nd__law_draw_plan rfl (.inl rfl) (.inr rfl))) (fun _ _ _ _ _ _ hK1 hT1 => dts_nil) (fun _ _ _ _ _ _ hK1 hT1 => (de_callO hK1 ((ok__law_draw W).T (hT1.trans hT)) hr (by decide) rfl W.g__law_draw (da_cons (de_var rfl (.inr (.inl rfl)) rfl rfl) (da_cons (de_c pe_int (fun _ _ => rfl)) da_nil rfl) rfl) (faLen_cons (faLen_cons faLen_nil)) rfl rfl rfl rfl)) (fun _ => rfl))) (de_new (dn_lst (da_cons (de_bin (opd_add hK) (de_c pe_int (fun _ _ => rfl)) (de_callO hK ((ok__law_draw W).T hT) hr (by decide) rfl W.g__law_draw (da_cons (de_var rfl (.inr (.inl rfl)) rfl rfl) (da_cons (de_c pe_int (fun _ _ => rfl)) da_nil rfl) rfl) (faLen_cons (faLen_cons faLen_nil)) rfl rfl rfl rfl)) da_nil rfl)))) rfl (.inl rfl) (hpa.not (i := 5) rfl)) (dss_one (ds_lcO (ps_lcI [("_law_at", 7), ("_law_row", 8)] rfl hK rfl nd__law_draw_plan rfl rfl (sw_true rfl rfl rfl rfl) (di_enm hK rfl W.n_enumerate (da_cons (de_var rfl (.inl rfl) rfl rfl) da_nil rfl) rfl (faLen_cons faLen_nil).eq) (blkB_ok rfl) (by decide) (fun _ _ _ _ _ _ hK1 hT1 => (dg_tup hK1 rfl (dgs_cons (dg_name nd__law_draw_plan rfl (.inr rfl) (.inl rfl)) (dgs_cons (dg_name nd__law_draw_plan rfl (.inl rfl) (.inr rfl)) dgs_nil rfl) rfl) rfl rfl rfl)) (fun _ _ _ _ _ _ hK1 hT1 => dts_nil) (fun _ _ _ _ _ _ hK1 hT1 => (de_bin (opd_add hK1) (de_bty (cd_tuple hK1) rfl W.n_tuple bt_tuple (da_cons (de_new (dn_lcI [("_law_one", 10)] rfl hK1 rfl nd__law_draw_plan (di_itm hK1 (de_var rfl (.inr (.inl rfl)) rfl rfl)) (blkB_ok rfl) (by decide) (fun _ _ _ _ _ _ hK2 hT2 => (dg_name nd__law_draw_plan rfl (.inl rfl) (.inr rfl))) (fun _ _ _ _ _ _ hK2 hT2 => dts_nil) (fun _ _ _ _ _ _ hK2 hT2 => (de_bin (opd_mul hK2) (de_bin (opd_add hK2) (de_c pe_int (fun _ _ => rfl)) (de_bin (opd_mod hK2) (de_var rfl (.inr (.inl rfl)) rfl rfl) (de_c pe_int (fun _ _ => rfl)))) (de_var rfl (.inl rfl) rfl rfl))) (fun _ => rfl))) da_nil rfl) (by decide) rfl rfl rfl) (de_slc hK1 (de_var rfl (.inl rfl) rfl rfl) (do_some (de_var rfl (.inr (.inl rfl)) rfl rfl)) do_none))) (fun _ => rfl)) (hpa.not (i := 4) rfl)))) dss_nil) (dss_cons (ds_if (dt_cmp (opd_eq hK hr.units) (de_var rfl (.inr (.inl rfl)) rfl rfl) (de_c pe_int (fun _ _ => rfl)) rfl) (dss_cons (ds_set nd__law_draw_plan rfl (.inl rfl) (de_callO hK ((ok__law_draw W).T hT) hr (by decide) rfl W.g__law_draw (da_cons (de_var rfl (.inr (.inl rfl)) rfl rfl) (da_cons (de_var rfl (.inr (.inl rfl)) rfl rfl) da_nil rfl) rfl) (faLen_cons (faLen_cons faLen_nil)) rfl rfl rfl rfl) rfl (.inl rfl) (hpa.not (i := 6) rfl)) (dss_one (ds_put rfl (.inl rfl) rfl rfl (de_var rfl (.inl rfl) rfl rfl) (de_callO hK ((ok__law_draw_row W).T hT) hr (by decide) rfl W.g__law_draw_row (da_cons (de_var rfl (.inr (.inl rfl)) rfl rfl) (da_cons (de_var rfl (.inr (.inl rfl)) rfl rfl) (da_cons (de_var rfl (.inr (.inl rfl)) rfl rfl) (da_cons (de_var rfl (.inl rfl) rfl rfl) (da_cons (de_c pe_int (fun _ _ => rfl)) da_nil rfl) rfl) rfl) rfl) rfl) (faLen_cons (faLen_cons (faLen_cons (faLen_cons (faLen_cons faLen_nil))))) rfl rfl rfl rfl) rfl rfl rfl (fun _ => rfl)))) dss_nil) (dss_frz (dss_one (ds_ret (de_tup (da_cons (de_var rfl (.inr (.inl rfl)) rfl rfl) (da_cons (de_var rfl (.inl rfl) rfl rfl) da_nil rfl) rfl)))) (hpa.not (i := 4) rfl)))))))
/-! ### _law_near -/
abbrev s__law_near : Stmt := top 52
def N__law_near : List Str := ["_law_pen_here", "_law_products", "_law_rows", "_law_way", "_law_spot", "_law_row", "_law_place", "_law_weight"]
def d__law_near : FB := bSeq (bPar [3, 4] (mDat (fCall g__law_draw [] (fCons (fVar 0) (fCons (fC (.int 5)) (fNil)))) (mDat (fCall g__law_draw [] (fCons (fVar 0) (fCons (fBlt dLen (fCons (fVar 2) fNil)) (fNil)))) (mNil)))) (bSeq (bSet 5 (fBin dIdx (fVar 2) (fVar 4))) (bSeq (bIf (fTest (fBin (dEq) (fVar 3) (fC (.int 0)))) (bSeq (bSet 6 (fCall g__law_draw [] (fCons (fVar 0) (fCons (fVar 1) (fNil))))) (bSet 5 (fBin dAdd (fBin dAdd (fSlc (fVar 5) (fNoPart) (fPart (fVar 6))) (fDisp .tup (fCons (fBin dAdd (fC (.int 1)) (fCall g__law_draw [] (fCons (fVar 0) (fCons (fC (.int 20)) (fNil))))) (fNil)))) (fSlc (fVar 5) (fPart (fBin dAdd (fVar 6) (fC (.int 1)))) (fNoPart))))) (bNx)) (bSeq (bIf (fAnd (fTest (fBin (dEq) (fVar 3) (fC (.int 1)))) (fTest (fBin (dCmp fun i j => decide (i < j)) (fBlt dMaxT (fCons (fVar 5) (fNil))) (fC (.int 11))))) (bSet 5 (fBlt dTuple (fCons (fNew (nLc [7] (.nm 7) (sItm (fVar 5)) (fYes) (fBin dMul (fC (.int 2)) (fVar 7)))) (fNil)))) (bNx)) (bSeq (bIf (fAnd (fTest (fBin (dEq) (fVar 3) (fC (.int 2)))) (fAnd (fTest (fBin (dEq) (fVar 1) (fC (.int 2)))) (fAnd (fTest (fBin (dCmp fun i j => decide (j < i)) (fBin dIdx (fVar 5) (fC (.int 1))) (fC (.int 0)))) (fTest (fBin (dEq) (fBlt dLen (fCons (fVar 2) fNil)) (fC (.int 1))))))) (bRet (fDisp .tup (fCons (fC (.int 1)) (fCons (fNew (nDisp (fCons (fDisp .tup (fCons (fBin dAdd (fBin dIdx (fVar 5) (fC (.int 0))) (fBin dIdx (fVar 5) (fC (.int 1)))) (fCons (fC (.int 0)) (fNil)))) (fNil)))) (fNil))))) (bNx)) (bRet (fIf (fTest (fBin (dCmp fun i j => decide (i < j)) (fVar 3) (fC (.int 4)))) (fDisp .tup (fCons (fVar 1) (fCons (fBin dAdd (fBin dAdd (fSlc (fVar 2) (fNoPart) (fPart (fVar 4))) (fNew (nDisp (fCons (fVar 5) (fNil))))) (fSlc (fVar 2) (fPart (fBin dAdd (fVar 4) (fC (.int 1)))) (fNoPart))) (fNil)))) (fCall g__law_draw_plan [] (fCons (fVar 0) (fNil)))))))))
def g__law_near : FG := fnD 8 [] d__law_near
theorem nd__law_near : N__law_near.Nodup := by decide +kernel
theorem sc__law_near : FnScope N__law_near ["_law_pen_here", "_law_products", "_law_rows"] (defScope s__law_near) := ⟨rfl, rfl, rfl, nd__law_near, rfl, by decide +kernel, by decide +kernel⟩
theorem ok__law_near {P : Program} {w : World} {K : PySem.W.Frag} {mg : Str → Option Value} {base : Heap} (W : Ws K mg) : Def1 P w K mg base (TT K) 4 (He.ga K "_law_near") ["_law_pen_here", "_law_products", "_law_rows"] g__law_near := by
  obtain ⟨fd, Fd⟩ := W.f__law_near
  exact FunD.def1 (N := N__law_near) (ps := ["_law_pen_here", "_law_products", "_law_rows"]) (asg := []) (fb := d__law_near) Fd sc__law_near (fun _ _ _ _ _ _ us hl => match us, hl with | [_, _, _], _ => rfl) (fun cdv A outer s H E hr F hK hT hpa => (dss_cons (ds_par2 rfl nd__law_near rfl rfl (by decide) rfl rfl (dm_dat (de_callO hK ((ok__law_draw W).T hT) hr (by decide) rfl W.g__law_draw (da_cons (de_var rfl (.inl rfl) rfl rfl) (da_cons (de_c pe_int (fun _ _ => rfl)) da_nil rfl) rfl) (faLen_cons (faLen_cons faLen_nil)) rfl rfl rfl rfl) (dm_dat (de_callO hK ((ok__law_draw W).T hT) hr (by decide) rfl W.g__law_draw (da_cons (de_var rfl (.inl rfl) rfl rfl) (da_cons (de_blt (cd_len hK) rfl W.n_len bt_len (da_cons (de_var rfl (.inl rfl) rfl rfl) da_nil rfl) (by decide) rfl rfl rfl) da_nil rfl) rfl) (faLen_cons (faLen_cons faLen_nil)) rfl rfl rfl rfl) dm_nil rfl) rfl) rfl rfl (hpa.nots rfl)) (dss_cons (ds_set nd__law_near rfl (.inl rfl) (de_ix hK (de_var rfl (.inl rfl) rfl rfl) (de_var rfl (.inl rfl) rfl rfl) (fun _ _ => rfl)) rfl (.inl rfl) (hpa.not (i := 5) rfl)) (dss_cons (ds_if (dt_cmp (opd_eq hK hr.units) (de_var rfl (.inl rfl) rfl rfl) (de_c pe_int (fun _ _ => rfl)) rfl) (dss_cons (ds_set nd__law_near rfl (.inl rfl) (de_callO hK ((ok__law_draw W).T hT) hr (by decide) rfl W.g__law_draw (da_cons (de_var rfl (.inl rfl) rfl rfl) (da_cons (de_var rfl (.inl rfl) rfl rfl) da_nil rfl) rfl) (faLen_cons (faLen_cons faLen_nil)) rfl rfl rfl rfl) rfl (.inl rfl) (hpa.not (i := 6) rfl)) (dss_one (ds_set nd__law_near rfl (.inl rfl) (de_bin (opd_add hK) (de_bin (opd_add hK) (de_slc hK (de_var rfl (.inl rfl) rfl rfl) do_none (do_some (de_var rfl (.inl rfl) rfl rfl))) (de_tup (da_cons (de_bin (opd_add hK) (de_c pe_int (fun _ _ => rfl)) (de_callO hK ((ok__law_draw W).T hT) hr (by decide) rfl W.g__law_draw (da_cons (de_var rfl (.inl rfl) rfl rfl) (da_cons (de_c pe_int (fun _ _ => rfl)) da_nil rfl) rfl) (faLen_cons (faLen_cons faLen_nil)) rfl rfl rfl rfl)) da_nil rfl))) (de_slc hK (de_var rfl (.inl rfl) rfl rfl) (do_some (de_bin (opd_add hK) (de_var rfl (.inl rfl) rfl rfl) (de_c pe_int (fun _ _ => rfl)))) do_none)) rfl (.inl rfl) (hpa.not (i := 5) rfl)))) dss_nil) (dss_cons (ds_if (PW.pt (dw_and (dt_cmp (opd_eq hK hr.units) (de_var rfl (.inl rfl) rfl rfl) (de_c pe_int (fun _ _ => rfl)) rfl) (dw_and1 (dt_cmp (opd_cmp op_lt) (de_blt (cd_maxT hK rfl (u3 hr)) rfl W.n_max bt_max (da_cons (de_var rfl (.inl rfl) rfl rfl) da_nil rfl) (by decide) rfl rfl rfl) (de_c pe_int (fun _ _ => rfl)) rfl)))) (dss_one (ds_set nd__law_near rfl (.inl rfl) (de_bty (cd_tuple hK) rfl W.n_tuple bt_tuple (da_cons (de_new (dn_lcI [("_law_weight", 7)] rfl hK rfl nd__law_near (di_itm hK (de_var rfl (.inl rfl) rfl rfl)) (blkB_ok rfl) (by decide) (fun _ _ _ _ _ _ hK1 hT1 => (dg_name nd__law_near rfl (.inl rfl) (.inr rfl))) (fun _ _ _ _ _ _ hK1 hT1 => dts_nil) (fun _ _ _ _ _ _ hK1 hT1 => (de_bin (opd_mul hK1) (de_c pe_int (fun _ _ => rfl)) (de_var rfl (.inl rfl) rfl rfl))) (fun _ => rfl))) da_nil rfl) (by decide) rfl rfl rfl) rfl (.inl rfl) (hpa.not (i := 5) rfl))) dss_nil) (dss_cons (ds_if (PW.pt (dw_and (dt_cmp (opd_eq hK hr.units) (de_var rfl (.inl rfl) rfl rfl) (de_c pe_int (fun _ _ => rfl)) rfl) (dw_and (dt_cmp (opd_eq hK hr.units) (de_var rfl (.inl rfl) rfl rfl) (de_c pe_int (fun _ _ => rfl)) rfl) (dw_and (dt_cmp (opd_cmp op_gt) (de_ix hK (de_var rfl (.inl rfl) rfl rfl) (de_c pe_int (fun _ _ => rfl)) (fun _ _ => rfl)) (de_c pe_int (fun _ _ => rfl)) rfl) (dw_and1 (dt_cmp (opd_eq hK hr.units) (de_blt (cd_len hK) rfl W.n_len bt_len (da_cons (de_var rfl (.inl rfl) rfl rfl) da_nil rfl) (by decide) rfl rfl rfl) (de_c pe_int (fun _ _ => rfl)) rfl)))))) (dss_one (ds_ret (de_tup (da_cons (de_c pe_int (fun _ _ => rfl)) (da_cons (de_new (dn_lst (da_cons (de_tup (da_cons (de_bin (opd_add hK) (de_ix hK (de_var rfl (.inl rfl) rfl rfl) (de_c pe_int (fun _ _ => rfl)) (fun _ _ => rfl)) (de_ix hK (de_var rfl (.inl rfl) rfl rfl) (de_c pe_int (fun _ _ => rfl)) (fun _ _ => rfl))) (da_cons (de_c pe_int (fun _ _ => rfl)) da_nil rfl) rfl)) da_nil rfl))) da_nil rfl) rfl)))) dss_nil) (dss_one (ds_ret (de_if (dt_cmp (opd_cmp op_lt) (de_var rfl (.inl rfl) rfl rfl) (de_c pe_int (fun _ _ => rfl)) rfl) (de_tup (da_cons (de_var rfl (.inl rfl) rfl rfl) (da_cons (de_bin (opd_add hK) (de_bin (opd_add hK) (de_slc hK (de_var rfl (.inl rfl) rfl rfl) do_none (do_some (de_var rfl (.inl rfl) rfl rfl))) (de_new (dn_lst (da_cons (de_var rfl (.inl rfl) rfl rfl) da_nil rfl)))) (de_slc hK (de_var rfl (.inl rfl) rfl rfl) (do_some (de_bin (opd_add hK) (de_var rfl (.inl rfl) rfl rfl) (de_c pe_int (fun _ _ => rfl)))) do_none)) da_nil rfl) rfl)) (de_callO hK ((ok__law_draw_plan W).T hT) hr (by decide) rfl W.g__law_draw_plan (da_cons (de_var rfl (.inl rfl) rfl rfl) da_nil rfl) (faLen_cons faLen_nil) rfl rfl rfl rfl))))))))))
/-! ### number_in -/
abbrev s_number_in : Stmt := top 30
def N_number_in : List Str := ["word", "sign"]
def d_number_in : FB := bSeq (bIf (fOr (fNot (fTest (fChain (dCmp fun i j => decide (i ≤ j)) (dCmp fun i j => decide (i ≤ j)) (fC (.int 1)) (fBlt dLen (fCons (fVar 0) fNil)) (fC (.int 2))))) (fNot (fTest (fBlt dAll (fCons (fNew (nLc [1] (.nm 1) (sItm (fVar 0)) (fYes) (fBin (dIn) (fVar 1) (fC (.str "0123456789"))))) (fNil)))))) (bRet (fUn dNeg (fC (.int 1)))) (bNx)) (bRet (fIf (fAnd (fTest (fBin (dEq) (fBlt dLen (fCons (fVar 0) fNil)) (fC (.int 2)))) (fTest (fBin (dEq) (fBin dIdx (fVar 0) (fC (.int 0))) (fC (.str "0"))))) (fUn dNeg (fC (.int 1))) (fBlt dInt (fCons (fVar 0) (fNil)))))
def g_number_in : FG := fnD 2 [] d_number_in
theorem nd_number_in : N_number_in.Nodup := by decide +kernel
theorem sc_number_in : FnScope N_number_in ["word"] (defScope s_number_in) := ⟨rfl, rfl, rfl, nd_number_in, rfl, by decide +kernel, by decide +kernel⟩
theorem ok_number_in {P : Program} {w : World} {K : PySem.W.Frag} {mg : Str → Option Value} {base : Heap} (W : Ws K mg) : Def1 P w K mg base (TT K) 1 (He.ga K "number_in") ["word"] g_number_in := by
  obtain ⟨fd, Fd⟩ := W.f_number_in
  exact FunD.def1 (N := N_number_in) (ps := ["word"]) (asg := []) (fb := d_number_in) Fd sc_number_in (fun _ _ _ _ _ _ us hl => match us, hl with | [_], _ => rfl) (fun cdv A outer s H E hr F hK hT hpa => (dss_cons (ds_if (PW.pt (dw_or (dt_not (dt_chain (opd_cmp op_le) (opd_cmp op_le) (de_c pe_int (fun _ _ => rfl)) (de_blt (cd_len hK) rfl W.n_len bt_len (da_cons (de_var rfl (.inl rfl) rfl rfl) da_nil rfl) (by decide) rfl rfl rfl) (de_c pe_int (fun _ _ => rfl)) rfl)) (dw_or1 (dt_not (dt_val (de_blt (cd_all hK rfl) rfl W.n_all bt_all (da_cons (de_new (dn_lcI [("sign", 1)] rfl hK rfl nd_number_in (di_itm hK (de_var rfl (.inl rfl) rfl rfl)) (blkB_ok rfl) (by decide) (fun _ _ _ _ _ _ hK1 hT1 => (dg_name nd_number_in rfl (.inl rfl) (.inr rfl))) (fun _ _ _ _ _ _ hK1 hT1 => dts_nil) (fun _ _ _ _ _ _ hK1 hT1 => (de_cmp (opd_in hK1) (de_var rfl (.inl rfl) rfl rfl) (de_glob rfl W.i_DIGITS.choose_spec (show RelV (.str "0123456789") _ from ⟨_, rfl⟩) rfl (fun _ _ => rfl)) rfl)) (fun _ => rfl))) da_nil rfl) (by decide) rfl rfl rfl) (fun _ => rfl)))))) (dss_one (ds_ret (de_un und_neg (de_c pe_int (fun _ _ => rfl))))) dss_nil) (dss_one (ds_ret (de_if (PW.pt (dw_and (dt_cmp (opd_eq hK hr.units) (de_blt (cd_len hK) rfl W.n_len bt_len (da_cons (de_var rfl (.inl rfl) rfl rfl) da_nil rfl) (by decide) rfl rfl rfl) (de_c pe_int (fun _ _ => rfl)) rfl) (dw_and1 (dt_cmp (opd_eq hK hr.units) (de_ix hK (de_var rfl (.inl rfl) rfl rfl) (de_c pe_int (fun _ _ => rfl)) (fun _ _ => rfl)) (de_c pe_str (fun _ _ => rfl)) rfl)))) (de_un und_neg (de_c pe_int (fun _ _ => rfl))) (de_bty (cd_int hK) rfl W.n_int bt_int (da_cons (de_var rfl (.inl rfl) rfl rfl) da_nil rfl) (by decide) rfl rfl rfl))))))
/-! ### is_integer -/
abbrev s_is_integer : Stmt := top 16
def N_is_integer : List Str := ["thing"]
def d_is_integer : FB := bRet (fAndV (fTest (fIsi (tyIs "int") (fVar 0))) (fBool (fNot (fTest (fIsi (tyIs "bool") (fVar 0))))))
def g_is_integer : FG := fnD 1 [] d_is_integer
theorem nd_is_integer : N_is_integer.Nodup := by decide +kernel
theorem sc_is_integer : FnScope N_is_integer ["thing"] (defScope s_is_integer) := ⟨rfl, rfl, rfl, nd_is_integer, rfl, by decide +kernel, by decide +kernel⟩
theorem ok_is_integer {P : Program} {w : World} {K : PySem.W.Frag} {mg : Str → Option Value} {base : Heap} (W : Ws K mg) : Def1 P w K mg base (TT K) 1 (He.ga K "is_integer") ["thing"] g_is_integer := by
  obtain ⟨fd, Fd⟩ := W.f_is_integer
  exact FunD.def1 (N := N_is_integer) (ps := ["thing"]) (asg := []) (fb := d_is_integer) Fd sc_is_integer (fun _ _ _ _ _ _ us hl => match us, hl with | [_], _ => rfl) (fun cdv A outer s H E hr F hK hT hpa => (dss_one (ds_ret (de_and (de_isi hK rfl W.n_isinstance bt_isinstance (by decide) rfl (pe_tyN rfl W.n_int bt_int (by decide) rfl) (de_var rfl (.inl rfl) rfl rfl) rfl rfl rfl) (de_one (de_not (de_isi hK rfl W.n_isinstance bt_isinstance (by decide) rfl (pe_tyN rfl W.n_bool bt_bool (by decide) rfl) (de_var rfl (.inl rfl) rfl rfl) rfl rfl rfl)))))))
/-! ### is_between -/
abbrev s_is_between : Stmt := top 17
def N_is_between : List Str := ["thing", "least", "most"]
def d_is_between : FB := bRet (fAndV (fTest (fCall g_is_integer [] (fCons (fVar 0) (fNil)))) (fChain (dCmp fun i j => decide (i ≤ j)) (dCmp fun i j => decide (i ≤ j)) (fVar 1) (fVar 0) (fVar 2)))
def g_is_between : FG := fnD 3 [] d_is_between
theorem nd_is_between : N_is_between.Nodup := by decide +kernel
theorem sc_is_between : FnScope N_is_between ["thing", "least", "most"] (defScope s_is_between) := ⟨rfl, rfl, rfl, nd_is_between, rfl, by decide +kernel, by decide +kernel⟩
theorem ok_is_between {P : Program} {w : World} {K : PySem.W.Frag} {mg : Str → Option Value} {base : Heap} (W : Ws K mg) : Def1 P w K mg base (TT K) 2 (He.ga K "is_between") ["thing", "least", "most"] g_is_between := by
  obtain ⟨fd, Fd⟩ := W.f_is_between
  exact FunD.def1 (N := N_is_between) (ps := ["thing", "least", "most"]) (asg := []) (fb := d_is_between) Fd sc_is_between (fun _ _ _ _ _ _ us hl => match us, hl with | [_, _, _], _ => rfl) (fun cdv A outer s H E hr F hK hT hpa => (dss_one (ds_ret (de_and (de_callO hK ((ok_is_integer W).T hT) hr (by decide) rfl W.g_is_integer (da_cons (de_var rfl (.inl rfl) rfl rfl) da_nil rfl) (faLen_cons faLen_nil) rfl rfl rfl rfl) (de_one (de_chain (opd_cmp op_le) (opd_cmp op_le) (de_var rfl (.inl rfl) rfl rfl) (de_var rfl (.inl rfl) rfl rfl) (de_var rfl (.inl rfl) rfl rfl) rfl))))))
/-! ### Plan.__len__ -/
abbrev s_Plan___len__ : Stmt := inClass (top 31) 9
def N_Plan___len__ : List Str := ["self"]
def d_Plan___len__ : FB := bRet (fBlt dLen (fCons (fFld 0 1 (fVar 0)) fNil))
def g_Plan___len__ : FG := fnD 1 [] d_Plan___len__
theorem nd_Plan___len__ : N_Plan___len__.Nodup := by decide +kernel
theorem sc_Plan___len__ : FnScope N_Plan___len__ ["self"] (defScope s_Plan___len__) := ⟨rfl, rfl, rfl, nd_Plan___len__, rfl, by decide +kernel, by decide +kernel⟩
theorem ok_Plan___len__ {P : Program} {w : World} {K : PySem.W.Frag} {mg : Str → Option Value} {base : Heap} (W : Ws K mg) : Def1 P w K mg base (TT K) 1 (He.ma K (He.ga K "Plan") "__len__") ["self"] g_Plan___len__ := by
  obtain ⟨fd, Fd⟩ := W.f_Plan___len__
  exact FunD.def1 (N := N_Plan___len__) (ps := ["self"]) (asg := []) (fb := d_Plan___len__) Fd sc_Plan___len__ (fun _ _ _ _ _ _ us hl => match us, hl with | [_], _ => rfl) (fun cdv A outer s H E hr F hK hT hpa => (dss_one (ds_ret (de_blt (cd_len hK) rfl W.n_len bt_len (da_cons (de_fld hK (ckT hT W.c_Plan) (flT hT rfl) (de_var rfl (.inl rfl) rfl rfl) rfl) da_nil rfl) (by decide) rfl rfl rfl))))
/-! ### is_row -/
abbrev s_is_row : Stmt := top 28
def N_is_row : List Str := ["thing", "products", "centres", "centre", "weight"]
def d_is_row : FB := bSeq (bIf (fOr (fNot (fTest (fIsi (tyIs "tuple") (fVar 0)))) (fTest (fBin (dNe) (fLen 0 g_Plan___len__ (fVar 0)) (fBin dAdd (fVar 1) (fVar 2))))) (bRet (fC (.bl false))) (bNx)) (bSeq (bIf (fNot (fTest (fBlt dAll (fCons (fNew (nLc [4] (.nm 4) (sItm (fVar 0)) (fYes) (fCall g_is_between [] (fCons (fVar 4) (fCons (fC (.int 0)) (fCons (fC (.int 20)) (fNil))))))) (fNil))))) (bRet (fC (.bl false))) (bNx)) (bRet (fAndV (fTest (fBin (dCmp fun i j => decide (j < i)) (fBlt dSum (fCons (fSlc (fVar 0) (fNoPart) (fPart (fVar 1))) (fNil))) (fC (.int 0)))) (fBin (dEq) (fBin dIdx (fVar 0) (fBin dAdd (fVar 1) (fVar 3))) (fC (.int 0))))))
def g_is_row : FG := fnD 5 [] d_is_row
theorem nd_is_row : N_is_row.Nodup := by decide +kernel
theorem sc_is_row : FnScope N_is_row ["thing", "products", "centres", "centre"] (defScope s_is_row) := ⟨rfl, rfl, rfl, nd_is_row, rfl, by decide +kernel, by decide +kernel⟩
theorem ok_is_row {P : Program} {w : World} {K : PySem.W.Frag} {mg : Str → Option Value} {base : Heap} (W : Ws K mg) : Def1 P w K mg base (TT K) 3 (He.ga K "is_row") ["thing", "products", "centres", "centre"] g_is_row := by
  obtain ⟨fd, Fd⟩ := W.f_is_row
  exact FunD.def1 (N := N_is_row) (ps := ["thing", "products", "centres", "centre"]) (asg := []) (fb := d_is_row) Fd sc_is_row (fun _ _ _ _ _ _ us hl => match us, hl with | [_, _, _, _], _ => rfl) (fun cdv A outer s H E hr F hK hT hpa => (dss_cons (ds_if (PW.pt (dw_or (dt_not (dt_val (de_isi hK rfl W.n_isinstance bt_isinstance (by decide) rfl (pe_tyN rfl W.n_tuple bt_tuple (by decide) rfl) (de_var rfl (.inl rfl) rfl rfl) rfl rfl rfl) (fun _ => rfl))) (dw_or1 (dt_cmp (opd_ne hK hr.units) (de_len (lenD hK hT W.s_Plan___len__ (ok_Plan___len__ W) hr (by decide) rfl rfl W.n_len bt_len (de_var rfl (.inl rfl) rfl rfl) (by decide) rfl rfl rfl) (de_blt (cd_len hK) rfl W.n_len bt_len (da_cons (de_var rfl (.inl rfl) rfl rfl) da_nil rfl) (by decide) rfl rfl rfl) rfl) (de_bin (opd_add hK) (de_var rfl (.inl rfl) rfl rfl) (de_var rfl (.inl rfl) rfl rfl)) rfl)))) (dss_one (ds_ret (de_c pe_bl (fun _ _ => rfl)))) dss_nil) (dss_cons (ds_if (dt_not (dt_val (de_blt (cd_all hK rfl) rfl W.n_all bt_all (da_cons (de_new (dn_lcI [("weight", 4)] rfl hK rfl nd_is_row (di_itm hK (de_var rfl (.inl rfl) rfl rfl)) (blkB_ok rfl) (by decide) (fun _ _ _ _ _ _ hK1 hT1 => (dg_name nd_is_row rfl (.inl rfl) (.inr rfl))) (fun _ _ _ _ _ _ hK1 hT1 => dts_nil) (fun _ _ _ _ _ _ hK1 hT1 => (de_callO hK1 ((ok_is_between W).T (hT1.trans hT)) hr (by decide) rfl W.g_is_between (da_cons (de_var rfl (.inl rfl) rfl rfl) (da_cons (de_c pe_int (fun _ _ => rfl)) (da_cons (de_glob rfl W.i_MOST_WEIGHT.choose_spec (show RelV (.int 20) _ from ⟨_, rfl⟩) rfl (fun _ _ => rfl)) da_nil rfl) rfl) rfl) (faLen_cons (faLen_cons (faLen_cons faLen_nil))) rfl rfl rfl rfl)) (fun _ => rfl))) da_nil rfl) (by decide) rfl rfl rfl) (fun _ => rfl))) (dss_one (ds_ret (de_c pe_bl (fun _ _ => rfl)))) dss_nil) (dss_one (ds_ret (de_and (de_cmp (opd_cmp op_gt) (de_blt (cd_sum hK rfl) rfl W.n_sum bt_sum (da_cons (de_slc hK (de_var rfl (.inl rfl) rfl rfl) do_none (do_some (de_var rfl (.inl rfl) rfl rfl))) da_nil rfl) (by decide) rfl rfl rfl) (de_c pe_int (fun _ _ => rfl)) rfl) (de_one (de_cmp (opd_eq hK hr.units) (de_ix hK (de_var rfl (.inl rfl) rfl rfl) (de_bin (opd_add hK) (de_var rfl (.inl rfl) rfl rfl) (de_var rfl (.inl rfl) rfl rfl)) (fun _ _ => rfl)) (de_c pe_int (fun _ _ => rfl)) rfl))))))))
/-! ### are_rows -/
abbrev s_are_rows : Stmt := top 29
def N_are_rows : List Str := ["things", "products", "centre", "thing"]
def d_are_rows : FB := bRet (fBlt dAll (fCons (fNew (nLc [2, 3] (.tp [2, 3]) (sEnm (fCons (fVar 0) (fNil))) (fYes) (fCall g_is_row [] (fCons (fVar 3) (fCons (fVar 1) (fCons (fBlt dLen (fCons (fVar 0) fNil)) (fCons (fVar 2) (fNil)))))))) (fNil)))
def g_are_rows : FG := fnD 4 [] d_are_rows
theorem nd_are_rows : N_are_rows.Nodup := by decide +kernel
theorem sc_are_rows : FnScope N_are_rows ["things", "products"] (defScope s_are_rows) := ⟨rfl, rfl, rfl, nd_are_rows, rfl, by decide +kernel, by decide +kernel⟩
theorem ok_are_rows {P : Program} {w : World} {K : PySem.W.Frag} {mg : Str → Option Value} {base : Heap} (W : Ws K mg) : Def1 P w K mg base (TT K) 4 (He.ga K "are_rows") ["things", "products"] g_are_rows := by
  obtain ⟨fd, Fd⟩ := W.f_are_rows
  exact FunD.def1 (N := N_are_rows) (ps := ["things", "products"]) (asg := []) (fb := d_are_rows) Fd sc_are_rows (fun _ _ _ _ _ _ us hl => match us, hl with | [_, _], _ => rfl) (fun cdv A outer s H E hr F hK hT hpa => (dss_one (ds_ret (de_blt (cd_all hK rfl) rfl W.n_all bt_all (da_cons (de_new (dn_lcI [("centre", 2), ("thing", 3)] rfl hK rfl nd_are_rows (di_enm hK rfl W.n_enumerate (da_cons (de_var rfl (.inr (.inl rfl)) rfl rfl) da_nil rfl) rfl (faLen_cons faLen_nil).eq) (blkB_ok rfl) (by decide) (fun _ _ _ _ _ _ hK1 hT1 => (dg_tup hK1 rfl (dgs_cons (dg_name nd_are_rows rfl (.inl rfl) (.inr rfl)) (dgs_cons (dg_name nd_are_rows rfl (.inl rfl) (.inr rfl)) dgs_nil rfl) rfl) rfl rfl rfl)) (fun _ _ _ _ _ _ hK1 hT1 => dts_nil) (fun _ _ _ _ _ _ hK1 hT1 => (de_callO hK1 ((ok_is_row W).T (hT1.trans hT)) hr (by decide) rfl W.g_is_row (da_cons (de_var rfl (.inl rfl) rfl rfl) (da_cons (de_var rfl (.inr (.inl rfl)) rfl rfl) (da_cons (de_blt (cd_len hK1) rfl W.n_len bt_len (da_cons (de_var rfl (.inr (.inl rfl)) rfl rfl) da_nil rfl) (by decide) rfl rfl rfl) (da_cons (de_var rfl (.inl rfl) rfl rfl) da_nil rfl) rfl) rfl) rfl) (faLen_cons (faLen_cons (faLen_cons (faLen_cons faLen_nil)))) rfl rfl rfl rfl)) (fun _ => rfl))) da_nil rfl) (by decide) rfl rfl rfl))))
/-! ### Plan.__init__ -/
abbrev s_Plan___init__ : Stmt := inClass (top 31) 0
def N_Plan___init__ : List Str := ["self", "products", "rows"]
def d_Plan___init__ : FB := bSeq (bIf (fNot (fTest (fCall g_is_between [] (fCons (fVar 1) (fCons (fC (.int 1)) (fCons (fC (.int 4)) (fNil))))))) (bNo) (bNx)) (bSeq (bIf (fTest (fBin (dCmp fun i j => decide (j < i)) (fBlt dLen (fCons (fVar 2) fNil)) (fC (.int 4)))) (bNo) (bNx)) (bSeq (bIf (fOr (fTest (fBin (dEq) (fVar 2) (fDisp .tup (fNil)))) (fNot (fTest (fCall g_are_rows [] (fCons (fVar 2) (fCons (fVar 1) (fNil))))))) (bNo) (bNx)) (bTgs [(.at_ 0 0 0), (.at_ 0 0 1)] (fDisp .tup (fCons (fVar 1) (fCons (fVar 2) (fNil)))))))
def g_Plan___init__ : FG := fnD 3 [] d_Plan___init__
theorem nd_Plan___init__ : N_Plan___init__.Nodup := by decide +kernel
theorem sc_Plan___init__ : FnScope N_Plan___init__ ["self", "products", "rows"] (defScope s_Plan___init__) := ⟨rfl, rfl, rfl, nd_Plan___init__, rfl, by decide +kernel, by decide +kernel⟩
def i_Plan___init__ : List D → Option (List D) := initS 0 1 g_Plan___init__
theorem ok_Plan___init__ {P : Program} {w : World} {K : PySem.W.Frag} {mg : Str → Option Value} {base : Heap} (W : Ws K mg) : FnR P w K mg base CX0 5 (He.ma K (He.ga K "Plan") "__init__") (spMk K (TT K) 0 i_Plan___init__) := by
  obtain ⟨fd, Fd⟩ := W.f_Plan___init__
  exact fnR_starD (N := N_Plan___init__) (ps := ["self", "products"]) (pv := "rows") (asg := []) (fb := d_Plan___init__) Fd sc_Plan___init__ rfl (fun kV doc pm an cdv ct => StX.bind_star2 (B := fun us => bindArgs (PySem.W.fnOf "__init__" "Plan.__init__" _ _ _ .none kV doc pm an cdv ct) ⟨us, []⟩) (fun _ _ => rfl) (fun _ _ _ _ => rfl)) (fun cdv A outer s H E hr F hK hT hpa => (dss_cons (ds_if (dt_not (dt_val (de_callO hK ((ok_is_between W).T hT) hr (by decide) rfl W.g_is_between (da_cons (de_var rfl (.inl rfl) rfl rfl) (da_cons (de_c pe_int (fun _ _ => rfl)) (da_cons (de_glob rfl W.i_MOST.choose_spec (show RelV (.int 4) _ from ⟨_, rfl⟩) rfl (fun _ _ => rfl)) da_nil rfl) rfl) rfl) (faLen_cons (faLen_cons (faLen_cons faLen_nil))) rfl rfl rfl rfl) (fun _ => rfl))) (dss_one ds_never) dss_nil) (dss_cons (ds_if (dt_cmp (opd_cmp op_gt) (de_blt (cd_len hK) rfl W.n_len bt_len (da_cons (de_var rfl (.inl rfl) rfl rfl) da_nil rfl) (by decide) rfl rfl rfl) (de_glob rfl W.i_MOST.choose_spec (show RelV (.int 4) _ from ⟨_, rfl⟩) rfl (fun _ _ => rfl)) rfl) (dss_one ds_never) dss_nil) (dss_cons (ds_if (PW.pt (dw_or (dt_cmp (opd_eq hK hr.units) (de_var rfl (.inl rfl) rfl rfl) (de_tup da_nil) rfl) (dw_or1 (dt_not (dt_val (de_callO hK ((ok_are_rows W).T hT) hr (by decide) rfl W.g_are_rows (da_cons (de_var rfl (.inl rfl) rfl rfl) (da_cons (de_var rfl (.inl rfl) rfl rfl) da_nil rfl) rfl) (faLen_cons (faLen_cons faLen_nil)) rfl rfl rfl rfl) (fun _ => rfl)))))) (dss_one ds_never) dss_nil) (dss_one (ds_tgs hK rfl (de_tup (da_cons (de_var rfl (.inl rfl) rfl rfl) (da_cons (de_var rfl (.inl rfl) rfl rfl) da_nil rfl) rfl)) (dts_cons (dt_at hK (ckT hT W.c_Plan) (flT hT rfl) rfl (.inl rfl) rfl rfl) (dts_cons (dt_at hK (ckT hT W.c_Plan) (flT hT rfl) rfl (.inl rfl) rfl rfl) dts_nil' rfl) rfl) rfl rfl rfl rfl rfl rfl (by simp [Tg.free])))))))
/-! ### Plan.read -/
abbrev s_Plan_read : Stmt := inClass (top 31) 2
def N_Plan_read : List Str := ["cls", "text", "first", "lines", "products", "rows", "line", "word"]
def d_Plan_read : FB := bSeq (bIf (fOr (fNot (fTest (fIsi (tyIs "str") (fVar 1)))) (fOr (fNot (fTest (fSM smStarts (fVar 1) (fC (.str "products "))))) (fNot (fTest (fSM smEnds (fVar 1) (fC (.str "\n"))))))) (bNo) (bNx)) (bSeq (bStar 2 3 (fSM smSplit (fSlc (fVar 1) (fPart (fBlt dLen (fCons (fC (.str "products ")) fNil))) (fPart (fUn dNeg (fC (.int 1))))) (fC (.str "\n")))) (bSeq (bPar [4, 5] (mDat (fCall g_number_in [] (fCons (fVar 2) (fNil))) (mDat (fNew (nLc [6] (.nm 6) (sItm (fVar 3)) (fYes) (fBlt dTuple (fCons (fNew (nLc [7] (.nm 7) (sItm (fSM smSplit (fVar 6) (fC (.str " ")))) (fYes) (fCall g_number_in [] (fCons (fVar 7) (fNil))))) (fNil))))) (mNil)))) (bSeq (bIf (fOr (fNot (fTest (fCall g_is_between [] (fCons (fVar 4) (fCons (fC (.int 1)) (fCons (fC (.int 4)) (fNil))))))) (fOr (fNot (fTest (fChain (dCmp fun i j => decide (i ≤ j)) (dCmp fun i j => decide (i ≤ j)) (fC (.int 1)) (fBlt dLen (fCons (fVar 5) fNil)) (fC (.int 4))))) (fNot (fTest (fCall g_are_rows [] (fCons (fVar 5) (fCons (fVar 4) (fNil)))))))) (bNo) (bNx)) (bRet (fMakeL 0 0 i_Plan___init__ (fCons (fVar 4) (fStar (fVar 5) (fNil))))))))
def g_Plan_read : FG := fnD 8 [] d_Plan_read
theorem nd_Plan_read : N_Plan_read.Nodup := by decide +kernel
theorem sc_Plan_read : FnScope N_Plan_read ["cls", "text"] (defScope s_Plan_read) := ⟨rfl, rfl, rfl, nd_Plan_read, rfl, by decide +kernel, by decide +kernel⟩
theorem ok_Plan_read {P : Program} {w : World} {K : PySem.W.Frag} {mg : Str → Option Value} {base : Heap} (W : Ws K mg) : Def1 P w K mg base (TT K) 7 (cmAd K "Plan" "read") ["cls", "text"] g_Plan_read := by
  obtain ⟨fd, Fd⟩ := W.f_Plan_read
  exact FunD.def1 (N := N_Plan_read) (ps := ["cls", "text"]) (asg := []) (fb := d_Plan_read) Fd sc_Plan_read (fun _ _ _ _ _ _ us hl => match us, hl with | [_, _], _ => rfl) (fun cdv A outer s H E hr F hK hT hpa => (dss_cons (ds_if (PW.pt (dw_or (dt_not (dt_val (de_isi hK rfl W.n_isinstance bt_isinstance (by decide) rfl (pe_tyN rfl W.n_str bt_str (by decide) rfl) (de_var rfl (.inl rfl) rfl rfl) rfl rfl rfl) (fun _ => rfl))) (dw_or (dt_not (dt_val (de_sm PySem.F.slot_str_startswith PySem.F.type_str_startswith ms_starts (de_var rfl (.inl rfl) rfl rfl) (de_glob rfl W.i_HEAD.choose_spec (show RelV (.str "products ") _ from ⟨_, rfl⟩) rfl (fun _ _ => rfl)) rfl rfl rfl rfl rfl) (fun _ => rfl))) (dw_or1 (dt_not (dt_val (de_sm PySem.F.slot_str_endswith PySem.F.type_str_endswith ms_ends (de_var rfl (.inl rfl) rfl rfl) (de_c pe_str (fun _ _ => rfl)) rfl rfl rfl rfl rfl) (fun _ => rfl))))))) (dss_one ds_never) dss_nil) (dss_cons (ds_star hK rfl (de_sm PySem.F.slot_str_split PySem.F.type_str_split ms_split (de_slc hK (de_var rfl (.inl rfl) rfl rfl) (do_some (de_blt (cd_len hK) rfl W.n_len bt_len (da_cons (de_glob rfl W.i_HEAD.choose_spec (show RelV (.str "products ") _ from ⟨_, rfl⟩) rfl (fun _ _ => rfl)) da_nil rfl) (by decide) rfl rfl rfl)) (do_some (de_un und_neg (de_c pe_int (fun _ _ => rfl))))) (de_c pe_str (fun _ _ => rfl)) rfl rfl rfl rfl rfl) (dg_name nd_Plan_read rfl (.inl rfl) (.inl rfl)) (dg_name nd_Plan_read rfl (.inl rfl) (.inl rfl)) (hpa.not (i := 2) rfl) (hpa.not (i := 3) rfl) rfl rfl rfl rfl rfl rfl rfl rfl) (dss_cons (ds_par2 rfl nd_Plan_read rfl rfl (by decide) rfl rfl (dm_dat (de_callO hK ((ok_number_in W).T hT) hr (by decide) rfl W.g_number_in (da_cons (de_var rfl (.inl rfl) rfl rfl) da_nil rfl) (faLen_cons faLen_nil) rfl rfl rfl rfl) (dm_dat (de_new (dn_lcI [("line", 6)] rfl hK rfl nd_Plan_read (di_itm hK (de_var rfl (.inl rfl) rfl rfl)) (blkB_ok rfl) (by decide) (fun _ _ _ _ _ _ hK1 hT1 => (dg_name nd_Plan_read rfl (.inl rfl) (.inr rfl))) (fun _ _ _ _ _ _ hK1 hT1 => dts_nil) (fun _ _ _ _ _ _ hK1 hT1 => (de_bty (cd_tuple hK1) rfl W.n_tuple bt_tuple (da_cons (de_new (dn_lcI [("word", 7)] rfl hK1 rfl nd_Plan_read (di_itm hK1 (de_sm PySem.F.slot_str_split PySem.F.type_str_split ms_split (de_var rfl (.inl rfl) rfl rfl) (de_c pe_str (fun _ _ => rfl)) rfl rfl rfl rfl rfl)) (blkB_ok rfl) (by decide) (fun _ _ _ _ _ _ hK2 hT2 => (dg_name nd_Plan_read rfl (.inl rfl) (.inr rfl))) (fun _ _ _ _ _ _ hK2 hT2 => dts_nil) (fun _ _ _ _ _ _ hK2 hT2 => (de_callO hK2 ((ok_number_in W).T (hT2.trans (hT1.trans hT))) hr (by decide) rfl W.g_number_in (da_cons (de_var rfl (.inl rfl) rfl rfl) da_nil rfl) (faLen_cons faLen_nil) rfl rfl rfl rfl)) (fun _ => rfl))) da_nil rfl) (by decide) rfl rfl rfl)) (fun _ => rfl))) dm_nil rfl) rfl) rfl rfl (hpa.nots rfl)) (dss_cons (ds_if (PW.pt (dw_or (dt_not (dt_val (de_callO hK ((ok_is_between W).T hT) hr (by decide) rfl W.g_is_between (da_cons (de_var rfl (.inl rfl) rfl rfl) (da_cons (de_c pe_int (fun _ _ => rfl)) (da_cons (de_glob rfl W.i_MOST.choose_spec (show RelV (.int 4) _ from ⟨_, rfl⟩) rfl (fun _ _ => rfl)) da_nil rfl) rfl) rfl) (faLen_cons (faLen_cons (faLen_cons faLen_nil))) rfl rfl rfl rfl) (fun _ => rfl))) (dw_or (dt_not (dt_chain (opd_cmp op_le) (opd_cmp op_le) (de_c pe_int (fun _ _ => rfl)) (de_blt (cd_len hK) rfl W.n_len bt_len (da_cons (de_var rfl (.inl rfl) rfl rfl) da_nil rfl) (by decide) rfl rfl rfl) (de_glob rfl W.i_MOST.choose_spec (show RelV (.int 4) _ from ⟨_, rfl⟩) rfl (fun _ _ => rfl)) rfl)) (dw_or1 (dt_not (dt_val (de_callO hK ((ok_are_rows W).T hT) hr (by decide) rfl W.g_are_rows (da_cons (de_var rfl (.inl rfl) rfl rfl) (da_cons (de_var rfl (.inl rfl) rfl rfl) da_nil rfl) rfl) (faLen_cons (faLen_cons faLen_nil)) rfl rfl rfl rfl) (fun _ => rfl))))))) (dss_one ds_never) dss_nil) (dss_one (ds_ret (mkL hK hT W.m_Plan (ok_Plan___init__ W) hr (by decide) rfl (.inl rfl) (da_cons (de_var rfl (.inl rfl) rfl rfl) (da_star (de_var rfl (.inl rfl) rfl rfl) da_nil hK) rfl) rfl rfl rfl rfl))))))))
/-! ### _law_write -/
abbrev s__law_write : Stmt := top 49
def N__law_write : List Str := ["_law_products", "_law_rows", "_law_lines", "_law_row", "_law_line", "_law_weight"]
def d__law_write : FB := bSeq (bSet 2 (fBin dAdd (fNew (nDisp (fCons (fBin dAdd (fC (.str "products ")) (fBlt dStr (fCons (fVar 0) (fNil)))) (fNil)))) (fNew (nLc [3] (.nm 3) (sItm (fVar 1)) (fYes) (fSM smJoin (fC (.str " ")) (fNew (nLc [5] (.nm 5) (sItm (fVar 3)) (fYes) (fBlt dStr (fCons (fVar 5) (fNil)))))))))) (bRet (fSM smJoin (fC (.str "")) (fNew (nLc [4] (.nm 4) (sItm (fVar 2)) (fYes) (fBin dAdd (fVar 4) (fC (.str "\n")))))))
def g__law_write : FG := fnD 6 [] d__law_write
theorem nd__law_write : N__law_write.Nodup := by decide +kernel
theorem sc__law_write : FnScope N__law_write ["_law_products", "_law_rows"] (defScope s__law_write) := ⟨rfl, rfl, rfl, nd__law_write, rfl, by decide +kernel, by decide +kernel⟩
theorem ok__law_write {P : Program} {w : World} {K : PySem.W.Frag} {mg : Str → Option Value} {base : Heap} (W : Ws K mg) : Def1 P w K mg base (TT K) 1 (He.ga K "_law_write") ["_law_products", "_law_rows"] g__law_write := by
  obtain ⟨fd, Fd⟩ := W.f__law_write
  exact FunD.def1 (N := N__law_write) (ps := ["_law_products", "_law_rows"]) (asg := []) (fb := d__law_write) Fd sc__law_write (fun _ _ _ _ _ _ us hl => match us, hl with | [_, _], _ => rfl) (fun cdv A outer s H E hr F hK hT hpa => (dss_cons (ds_set nd__law_write rfl (.inl rfl) (de_bin (opd_add hK) (de_new (dn_lst (da_cons (de_bin (opd_add hK) (de_c pe_str (fun _ _ => rfl)) (de_bty (cd_str hK) rfl W.n_str bt_str (da_cons (de_var rfl (.inl rfl) rfl rfl) da_nil rfl) (by decide) rfl rfl rfl)) da_nil rfl))) (de_new (dn_lcI [("_law_row", 3)] rfl hK rfl nd__law_write (di_itm hK (de_var rfl (.inl rfl) rfl rfl)) (blkB_ok rfl) (by decide) (fun _ _ _ _ _ _ hK1 hT1 => (dg_name nd__law_write rfl (.inl rfl) (.inr rfl))) (fun _ _ _ _ _ _ hK1 hT1 => dts_nil) (fun _ _ _ _ _ _ hK1 hT1 => (de_sm PySem.F.slot_str_join PySem.F.type_str_join (ms_join hK1) (de_c pe_str (fun _ _ => rfl)) (de_new (dn_lcI [("_law_weight", 5)] rfl hK1 rfl nd__law_write (di_itm hK1 (de_var rfl (.inl rfl) rfl rfl)) (blkB_ok rfl) (by decide) (fun _ _ _ _ _ _ hK2 hT2 => (dg_name nd__law_write rfl (.inl rfl) (.inr rfl))) (fun _ _ _ _ _ _ hK2 hT2 => dts_nil) (fun _ _ _ _ _ _ hK2 hT2 => (de_bty (cd_str hK2) rfl W.n_str bt_str (da_cons (de_var rfl (.inl rfl) rfl rfl) da_nil rfl) (by decide) rfl rfl rfl)) (fun _ => rfl))) rfl rfl rfl rfl rfl)) (fun _ => rfl)))) rfl (.inl rfl) (hpa.not (i := 2) rfl)) (dss_one (ds_ret (de_sm PySem.F.slot_str_join PySem.F.type_str_join (ms_join hK) (de_c pe_str (fun _ _ => rfl)) (de_new (dn_lcI [("_law_line", 4)] rfl hK rfl nd__law_write (di_itm hK (de_var rfl (.inl rfl) rfl rfl)) (blkB_ok rfl) (by decide) (fun _ _ _ _ _ _ hK1 hT1 => (dg_name nd__law_write rfl (.inl rfl) (.inr rfl))) (fun _ _ _ _ _ _ hK1 hT1 => dts_nil) (fun _ _ _ _ _ _ hK1 hT1 => (de_bin (opd_add hK1) (de_var rfl (.inl rfl) rfl rfl) (de_c pe_str (fun _ _ => rfl)))) (fun _ => rfl))) rfl rfl rfl rfl rfl)))))
/-! ### _law_build -/
abbrev s__law_build : Stmt := top 50
def N__law_build : List Str := ["_law_products", "_law_rows"]
def d__law_build : FB := bRet (fCM 0 g_Plan_read (fCons (fCall g__law_write [] (fCons (fVar 0) (fCons (fVar 1) (fNil)))) (fNil)))
def g__law_build : FG := fnD 2 [] d__law_build
theorem nd__law_build : N__law_build.Nodup := by decide +kernel
theorem sc__law_build : FnScope N__law_build ["_law_products", "_law_rows"] (defScope s__law_build) := ⟨rfl, rfl, rfl, nd__law_build, rfl, by decide +kernel, by decide +kernel⟩
theorem ok__law_build {P : Program} {w : World} {K : PySem.W.Frag} {mg : Str → Option Value} {base : Heap} (W : Ws K mg) : Def1 P w K mg base (TT K) 8 (He.ga K "_law_build") ["_law_products", "_law_rows"] g__law_build := by
  obtain ⟨fd, Fd⟩ := W.f__law_build
  exact FunD.def1 (N := N__law_build) (ps := ["_law_products", "_law_rows"]) (asg := []) (fb := d__law_build) Fd sc__law_build (fun _ _ _ _ _ _ us hl => match us, hl with | [_, _], _ => rfl) (fun cdv A outer s H E hr F hK hT hpa => (dss_one (ds_ret (cmD hK hT W.q_Plan W.w_Plan_read (ok_Plan_read W) hr (by decide) (pe_glob rfl W.g_Plan rfl rfl) (da_cons (de_callO hK ((ok__law_write W).T hT) hr (by decide) rfl W.g__law_write (da_cons (de_var rfl (.inl rfl) rfl rfl) (da_cons (de_var rfl (.inl rfl) rfl rfl) da_nil rfl) rfl) (faLen_cons (faLen_cons faLen_nil)) rfl rfl rfl rfl) da_nil rfl) (faLen_cons faLen_nil) rfl rfl rfl rfl))))
/-! ### _law_same -/
abbrev s__law_same : Stmt := top 46
def N__law_same : List Str := ["_law_actual", "_law_due"]
def d__law_same : FB := bRet (fBin (dEq) (fBlt dRepr (fCons (fVar 0) fNil)) (fBlt dRepr (fCons (fVar 1) fNil)))
def g__law_same : FG := fnD 2 [] d__law_same
theorem nd__law_same : N__law_same.Nodup := by decide +kernel
theorem sc__law_same : FnScope N__law_same ["_law_actual", "_law_due"] (defScope s__law_same) := ⟨rfl, rfl, rfl, nd__law_same, rfl, by decide +kernel, by decide +kernel⟩
theorem ok__law_same {P : Program} {w : World} {K : PySem.W.Frag} {mg : Str → Option Value} {base : Heap} (W : Ws K mg) : DefG P w K mg base (TT K) 1 (He.ga K "_law_same") ["_law_actual", "_law_due"] g__law_same := by
  obtain ⟨fd, Fd⟩ := W.f__law_same
  exact FunD.defG (N := N__law_same) (ps := ["_law_actual", "_law_due"]) (asg := []) (fb := d__law_same) Fd sc__law_same (fun _ _ _ _ _ _ us hl => match us, hl with | [_, _], _ => rfl) (fun cdv A outer s H E hr gd F hK hT hpa => (dss_one (ds_ret (de_cmp (opd_eq hK hr.units) (de_blt (cd_repr hK gd hr.units) rfl W.n_repr bt_repr (da_cons (de_var rfl (.inl rfl) rfl rfl) da_nil rfl) (by decide) rfl rfl rfl) (de_blt (cd_repr hK gd hr.units) rfl W.n_repr bt_repr (da_cons (de_var rfl (.inl rfl) rfl rfl) da_nil rfl) (by decide) rfl rfl rfl) rfl))))
/-! ### Plan.__eq__ -/
abbrev s_Plan___eq__ : Stmt := inClass (top 31) 14
def N_Plan___eq__ : List Str := ["self", "other"]
def d_Plan___eq__ : FB := bRet (fAndV (fTest (fIsi (inCls [0, 1] [0]) (fVar 1))) (fAndV (fTest (fBin (dEq) (fFld 0 0 (fVar 0)) (fFld 0 0 (fVar 1)))) (fBin (dEq) (fFld 0 1 (fVar 0)) (fFld 0 1 (fVar 1)))))
def g_Plan___eq__ : FG := fnD 2 [] d_Plan___eq__
theorem nd_Plan___eq__ : N_Plan___eq__.Nodup := by decide +kernel
theorem sc_Plan___eq__ : FnScope N_Plan___eq__ ["self", "other"] (defScope s_Plan___eq__) := ⟨rfl, rfl, rfl, nd_Plan___eq__, rfl, by decide +kernel, by decide +kernel⟩
theorem ok_Plan___eq__ {P : Program} {w : World} {K : PySem.W.Frag} {mg : Str → Option Value} {base : Heap} (W : Ws K mg) : Def1 P w K mg base (TT K) 1 (He.ma K (He.ga K "Plan") "__eq__") ["self", "other"] g_Plan___eq__ := by
  obtain ⟨fd, Fd⟩ := W.f_Plan___eq__
  exact FunD.def1 (N := N_Plan___eq__) (ps := ["self", "other"]) (asg := []) (fb := d_Plan___eq__) Fd sc_Plan___eq__ (fun _ _ _ _ _ _ us hl => match us, hl with | [_, _], _ => rfl) (fun cdv A outer s H E hr F hK hT hpa => (dss_one (ds_ret (de_and (de_isiC hK (iscT hT W.j_Plan) rfl W.n_isinstance bt_isinstance (by decide) rfl (pe_glob rfl W.g_Plan rfl rfl) (de_var rfl (.inl rfl) rfl rfl) rfl rfl rfl) (de_and (de_cmp (opd_eq hK hr.units) (de_fld hK (ckT hT W.c_Plan) (flT hT rfl) (de_var rfl (.inl rfl) rfl rfl) rfl) (de_fld hK (ckT hT W.c_Plan) (flT hT rfl) (de_var rfl (.inl rfl) rfl rfl) rfl) rfl) (de_one (de_cmp (opd_eq hK hr.units) (de_fld hK (ckT hT W.c_Plan) (flT hT rfl) (de_var rfl (.inl rfl) rfl rfl) rfl) (de_fld hK (ckT hT W.c_Plan) (flT hT rfl) (de_var rfl (.inl rfl) rfl rfl) rfl) rfl)))))))
/-! ### _law_is_right -/
abbrev s__law_is_right : Stmt := top 53
def N__law_is_right : List Str := ["_law_products", "_law_rows", "_law_number", "_law_others", "_law_one", "_law_other", "_law_due"]
def d__law_is_right : FB := bSeq (bPar [4, 5] (mDat (fCall g__law_build [] (fCons (fVar 0) (fCons (fVar 1) (fNil)))) (mDat (fCall g__law_build [] (fCons (fVar 2) (fCons (fVar 3) (fNil)))) (mNil)))) (bSeq (bSet 6 (fBin (dEq) (fDisp .tup (fCons (fVar 0) (fCons (fVar 1) (fNil)))) (fDisp .tup (fCons (fVar 2) (fCons (fVar 3) (fNil)))))) (bRet (fCall g__law_same [] (fCons (fNew (nDisp (fCons (fEqL 0 [1] g_Plan___eq__ false (fVar 4) (fVar 5)) (fCons (fEqL 0 [1] g_Plan___eq__ false (fVar 5) (fVar 4)) (fCons (fEqL 0 [1] g_Plan___eq__ true (fVar 4) (fVar 5)) (fCons (fEqL 0 [1] g_Plan___eq__ false (fVar 4) (fVar 4)) (fNil))))))) (fCons (fNew (nDisp (fCons (fVar 6) (fCons (fVar 6) (fCons (fBool (fNot (fTest (fVar 6)))) (fCons (fC (.bl true)) (fNil))))))) (fNil))))))
def g__law_is_right : FG := fnD 7 [] d__law_is_right
theorem nd__law_is_right : N__law_is_right.Nodup := by decide +kernel
theorem sc__law_is_right : FnScope N__law_is_right ["_law_products", "_law_rows", "_law_number", "_law_others"] (defScope s__law_is_right) := ⟨rfl, rfl, rfl, nd__law_is_right, rfl, by decide +kernel, by decide +kernel⟩
theorem ok__law_is_right {P : Program} {w : World} {K : PySem.W.Frag} {mg : Str → Option Value} {base : Heap} (W : Ws K mg) : DefG P w K mg base (TT K) 9 (He.ga K "_law_is_right") ["_law_products", "_law_rows", "_law_number", "_law_others"] g__law_is_right := by
  obtain ⟨fd, Fd⟩ := W.f__law_is_right
  exact FunD.defG (N := N__law_is_right) (ps := ["_law_products", "_law_rows", "_law_number", "_law_others"]) (asg := []) (fb := d__law_is_right) Fd sc__law_is_right (fun _ _ _ _ _ _ us hl => match us, hl with | [_, _, _, _], _ => rfl) (fun cdv A outer s H E hr gd F hK hT hpa => (dss_cons (ds_par2 rfl nd__law_is_right rfl rfl (by decide) rfl rfl (dm_dat (de_callO hK ((ok__law_build W).T hT) hr (by decide) rfl W.g__law_build (da_cons (de_var rfl (.inl rfl) rfl rfl) (da_cons (de_var rfl (.inl rfl) rfl rfl) da_nil rfl) rfl) (faLen_cons (faLen_cons faLen_nil)) rfl rfl rfl rfl) (dm_dat (de_callO hK ((ok__law_build W).T hT) hr (by decide) rfl W.g__law_build (da_cons (de_var rfl (.inl rfl) rfl rfl) (da_cons (de_var rfl (.inl rfl) rfl rfl) da_nil rfl) rfl) (faLen_cons (faLen_cons faLen_nil)) rfl rfl rfl rfl) dm_nil rfl) rfl) rfl rfl (hpa.nots rfl)) (dss_cons (ds_set nd__law_is_right rfl (.inl rfl) (de_cmp (opd_eq hK hr.units) (de_tup (da_cons (de_var rfl (.inl rfl) rfl rfl) (da_cons (de_var rfl (.inl rfl) rfl rfl) da_nil rfl) rfl)) (de_tup (da_cons (de_var rfl (.inl rfl) rfl rfl) (da_cons (de_var rfl (.inl rfl) rfl rfl) da_nil rfl) rfl)) rfl) rfl (.inl rfl) (hpa.not (i := 6) rfl)) (dss_one (ds_ret (de_callG hK ((ok__law_same W).T hT) gd hr (by decide) rfl W.g__law_same (da_cons (de_new (dn_lst (da_cons (de_eqL hK hT W.e_Plan (ok_Plan___eq__ W) hr (by decide) rfl (de_var rfl (.inl rfl) rfl rfl) (de_var rfl (.inl rfl) rfl rfl) rfl) (da_cons (de_eqL hK hT W.e_Plan (ok_Plan___eq__ W) hr (by decide) rfl (de_var rfl (.inl rfl) rfl rfl) (de_var rfl (.inl rfl) rfl rfl) rfl) (da_cons (de_neL hK hT W.e_Plan (ok_Plan___eq__ W) hr (by decide) rfl (de_var rfl (.inl rfl) rfl rfl) (de_var rfl (.inl rfl) rfl rfl) rfl) (da_cons (de_eqL hK hT W.e_Plan (ok_Plan___eq__ W) hr (by decide) rfl (de_var rfl (.inl rfl) rfl rfl) (de_var rfl (.inl rfl) rfl rfl) rfl) da_nil rfl) rfl) rfl) rfl))) (da_cons (de_new (dn_lst (da_cons (de_var rfl (.inl rfl) rfl rfl) (da_cons (de_var rfl (.inl rfl) rfl rfl) (da_cons (de_not (de_var rfl (.inl rfl) rfl rfl)) (da_cons (de_c pe_bl (fun _ _ => rfl)) da_nil rfl) rfl) rfl) rfl))) da_nil rfl) rfl) (faLen_cons (faLen_cons faLen_nil)) rfl rfl rfl rfl))))))
/-! ### _law_odds -/
abbrev s__law_odds : Stmt := top 51
def N__law_odds : List Str := ["_law_found"]
def d__law_odds : FB := bSeq (bSet 0 (fNew (nDisp (fCons (fC .non) (fCons (fC (.bl true)) (fCons (fC (.bl false)) (fCons (fC (.int 0)) (fCons (fC (.int 1)) (fCons (fC (.int 2)) (fCons (fC (.int 4)) (fCons (fC (.int 5)) (fCons (fUn dNeg (fC (.int 1))) (fCons (fC (.int 21)) (fCons (fBin dSub (fBin dPow (fC (.int 10)) (fC (.int 13))) (fC (.int 1))) (fCons (fC (.str "")) (fCons (fC (.str "0")) (fCons (fC (.str "products 1\n1 0\n")) (fCons (fDisp .tup (fNil)) (fCons (fNew (nDisp (fNil))) (fCons (fDic0) (fCons (fDisp .tup (fCons (fC (.int 0)) (fNil))) (fNil)))))))))))))))))))))) (bSeq (bSet 0 (fBin dAdd (fVar 0) (fNew (nDisp (fCons (fDisp .tup (fCons (fC (.bl true)) (fNil))) (fCons (fDisp .tup (fCons (fC (.int 1)) (fCons (fC (.int 0)) (fNil)))) (fCons (fDisp .tup (fCons (fC (.int 0)) (fCons (fC (.int 1)) (fNil)))) (fCons (fNew (nDisp (fCons (fC (.int 0)) (fCons (fC (.int 1)) (fNil))))) (fCons (fDisp .tup (fCons (fC (.int 0)) (fCons (fC (.int 0)) (fNil)))) (fCons (fDisp .tup (fCons (fC (.bl false)) (fCons (fC (.int 1)) (fNil)))) (fCons (fDisp .tup (fCons (fC (.int 1)) (fCons (fC (.bl true)) (fNil)))) (fCons (fDisp .tup (fCons (fC (.str "0")) (fCons (fC (.str "1")) (fNil)))) (fCons (fDisp .tup (fCons (fC .non) (fCons (fC (.int 0)) (fNil)))) (fCons (fDisp .tup (fCons (fC (.int 2)) (fCons (fC (.int 1)) (fCons (fC (.int 0)) (fNil))))) (fNil))))))))))))))) (bSeq (bSet 0 (fBin dAdd (fVar 0) (fNew (nDisp (fCons (fDisp .tup (fCons (fC (.int 0)) (fCons (fC (.int 1)) (fCons (fC (.int 2)) (fNil))))) (fCons (fDisp .tup (fCons (fC (.int 0)) (fCons (fC (.int 1)) (fCons (fC (.int 2)) (fCons (fC (.int 3)) (fNil)))))) (fCons (fDisp .tup (fCons (fC (.int 1)) (fCons (fC (.int 1)) (fCons (fC (.int 0)) (fNil))))) (fCons (fDisp .tup (fCons (fC (.int 1)) (fCons (fC (.int 0)) (fCons (fC (.int 0)) (fNil))))) (fCons (fDisp .tup (fCons (fC (.int 20)) (fCons (fC (.int 0)) (fNil)))) (fCons (fDisp .tup (fCons (fC (.int 21)) (fCons (fC (.int 0)) (fNil)))) (fCons (fDisp .tup (fCons (fC (.int 1)) (fCons (fUn dNeg (fC (.int 1))) (fNil)))) (fCons (fDisp .tup (fCons (fDisp .tup (fCons (fC (.int 1)) (fCons (fC (.int 0)) (fNil)))) (fNil))) (fCons (fDisp .tup (fCons (fNew (nDisp (fCons (fC (.int 1)) (fCons (fC (.int 0)) (fNil))))) (fNil))) (fNil)))))))))))))) (bSeq (bSet 0 (fBin dAdd (fVar 0) (fNew (nDisp (fCons (fNew (nDisp (fCons (fNew (nDisp (fNil))) (fNil)))) (fCons (fDisp .tup (fCons (fC (.int 0)) (fCons (fC (.int 0)) (fCons (fC (.int 0)) (fNil))))) (fCons (fDisp .tup (fCons (fC (.int 1)) (fCons (fC (.int 1)) (fNil)))) (fCons (fDisp .tup (fCons (fC (.int 1)) (fCons (fC (.int 2)) (fNil)))) (fCons (fDisp .tup (fCons (fC (.int 2)) (fCons (fC (.int 4)) (fNil)))) (fCons (fDisp .tup (fCons (fC (.int 0)) (fCons (fC (.int 2)) (fNil)))) (fCons (fDisp .tup (fCons (fC (.int 1000000)) (fNil))) (fCons (fDisp .tup (fCons (fC (.int 1000001)) (fNil))) (fCons (fDisp .tup (fCons (fDisp .tup (fCons (fDisp .tup (fCons (fDisp .tup (fCons (fC (.int 0)) (fNil))) (fNil))) (fNil))) (fNil))) (fCons (fDic1 (.inr "a") (fNew (nDisp (fCons (fC (.int 0)) (fNil))))) (fNil))))))))))))))) (bSeq (bSet 0 (fBin dAdd (fVar 0) (fNew (nDisp (fCons (fDisp .tup (fCons (fC (.str "same")) (fCons (fDisp .tup (fNil)) (fNil)))) (fCons (fDisp .tup (fCons (fC (.str "differ")) (fCons (fDisp .tup (fCons (fC (.int 0)) (fNil))) (fCons (fDisp .tup (fCons (fC (.int 0)) (fNil))) (fCons (fDisp .tup (fCons (fC (.int 0)) (fNil))) (fNil)))))) (fCons (fDisp .tup (fCons (fDisp .tup (fCons (fC (.int 0)) (fCons (fC (.int 1)) (fNil)))) (fNil))) (fCons (fDisp .tup (fCons (fDisp .tup (fCons (fDisp .tup (fCons (fC (.int 0)) (fNil))) (fCons (fDisp .tup (fCons (fDisp .tup (fCons (fC (.int 1)) (fCons (fC (.int 1)) (fNil)))) (fNil))) (fNil)))) (fNil))) (fCons (fDisp .tup (fCons (fC (.int 1)) (fCons (fC (.int 1)) (fCons (fC (.int 1)) (fCons (fC (.int 1)) (fNil)))))) (fNil)))))))))) (bRet (fBin dAdd (fVar 0) (fNew (nDisp (fCons (fDisp .tup (fCons (fC (.int 1)) (fNil))) (fCons (fDic1 (.inl 0) (fC (.int 1))) (fNil)))))))))))
def g__law_odds : FG := fnD 1 [] d__law_odds
theorem nd__law_odds : N__law_odds.Nodup := by decide +kernel
theorem sc__law_odds : FnScope N__law_odds [] (defScope s__law_odds) := ⟨rfl, rfl, rfl, nd__law_odds, rfl, by decide +kernel, by decide +kernel⟩
theorem ok__law_odds {P : Program} {w : World} {K : PySem.W.Frag} {mg : Str → Option Value} {base : Heap} (W : Ws K mg) : Def1 P w K mg base (TT K) 1 (He.ga K "_law_odds") [] g__law_odds := by
  obtain ⟨fd, Fd⟩ := W.f__law_odds
  exact FunD.def1 (N := N__law_odds) (ps := []) (asg := []) (fb := d__law_odds) Fd sc__law_odds (fun _ _ _ _ _ _ us hl => match us, hl with | [], _ => rfl) (fun cdv A outer s H E hr F hK hT hpa => (dss_cons (ds_set nd__law_odds rfl (.inl rfl) (de_new (dn_lst (da_cons (de_c pe_non (fun _ _ => rfl)) (da_cons (de_c pe_bl (fun _ _ => rfl)) (da_cons (de_c pe_bl (fun _ _ => rfl)) (da_cons (de_c pe_int (fun _ _ => rfl)) (da_cons (de_c pe_int (fun _ _ => rfl)) (da_cons (de_c pe_int (fun _ _ => rfl)) (da_cons (de_c pe_int (fun _ _ => rfl)) (da_cons (de_c pe_int (fun _ _ => rfl)) (da_cons (de_un und_neg (de_c pe_int (fun _ _ => rfl))) (da_cons (de_c pe_int (fun _ _ => rfl)) (da_cons (de_bin (opd_sub hK) (de_bin (opd_pow hK) (de_c pe_int (fun _ _ => rfl)) (de_c pe_int (fun _ _ => rfl))) (de_c pe_int (fun _ _ => rfl))) (da_cons (de_c pe_str (fun _ _ => rfl)) (da_cons (de_c pe_str (fun _ _ => rfl)) (da_cons (de_c pe_str (fun _ _ => rfl)) (da_cons (de_tup da_nil) (da_cons (de_new (dn_lst da_nil)) (da_cons de_dic0 (da_cons (de_tup (da_cons (de_c pe_int (fun _ _ => rfl)) da_nil rfl)) da_nil rfl) rfl) rfl) rfl) rfl) rfl) rfl) rfl) rfl) rfl) rfl) rfl) rfl) rfl) rfl) rfl) rfl) rfl))) rfl (.inl rfl) (hpa.not (i := 0) rfl)) (dss_cons (ds_set nd__law_odds rfl (.inl rfl) (de_bin (opd_add hK) (de_var rfl (.inl rfl) rfl rfl) (de_new (dn_lst (da_cons (de_tup (da_cons (de_c pe_bl (fun _ _ => rfl)) da_nil rfl)) (da_cons (de_tup (da_cons (de_c pe_int (fun _ _ => rfl)) (da_cons (de_c pe_int (fun _ _ => rfl)) da_nil rfl) rfl)) (da_cons (de_tup (da_cons (de_c pe_int (fun _ _ => rfl)) (da_cons (de_c pe_int (fun _ _ => rfl)) da_nil rfl) rfl)) (da_cons (de_new (dn_lst (da_cons (de_c pe_int (fun _ _ => rfl)) (da_cons (de_c pe_int (fun _ _ => rfl)) da_nil rfl) rfl))) (da_cons (de_tup (da_cons (de_c pe_int (fun _ _ => rfl)) (da_cons (de_c pe_int (fun _ _ => rfl)) da_nil rfl) rfl)) (da_cons (de_tup (da_cons (de_c pe_bl (fun _ _ => rfl)) (da_cons (de_c pe_int (fun _ _ => rfl)) da_nil rfl) rfl)) (da_cons (de_tup (da_cons (de_c pe_int (fun _ _ => rfl)) (da_cons (de_c pe_bl (fun _ _ => rfl)) da_nil rfl) rfl)) (da_cons (de_tup (da_cons (de_c pe_str (fun _ _ => rfl)) (da_cons (de_c pe_str (fun _ _ => rfl)) da_nil rfl) rfl)) (da_cons (de_tup (da_cons (de_c pe_non (fun _ _ => rfl)) (da_cons (de_c pe_int (fun _ _ => rfl)) da_nil rfl) rfl)) (da_cons (de_tup (da_cons (de_c pe_int (fun _ _ => rfl)) (da_cons (de_c pe_int (fun _ _ => rfl)) (da_cons (de_c pe_int (fun _ _ => rfl)) da_nil rfl) rfl) rfl)) da_nil rfl) rfl) rfl) rfl) rfl) rfl) rfl) rfl) rfl) rfl)))) rfl (.inl rfl) (hpa.not (i := 0) rfl)) (dss_cons (ds_set nd__law_odds rfl (.inl rfl) (de_bin (opd_add hK) (de_var rfl (.inl rfl) rfl rfl) (de_new (dn_lst (da_cons (de_tup (da_cons (de_c pe_int (fun _ _ => rfl)) (da_cons (de_c pe_int (fun _ _ => rfl)) (da_cons (de_c pe_int (fun _ _ => rfl)) da_nil rfl) rfl) rfl)) (da_cons (de_tup (da_cons (de_c pe_int (fun _ _ => rfl)) (da_cons (de_c pe_int (fun _ _ => rfl)) (da_cons (de_c pe_int (fun _ _ => rfl)) (da_cons (de_c pe_int (fun _ _ => rfl)) da_nil rfl) rfl) rfl) rfl)) (da_cons (de_tup (da_cons (de_c pe_int (fun _ _ => rfl)) (da_cons (de_c pe_int (fun _ _ => rfl)) (da_cons (de_c pe_int (fun _ _ => rfl)) da_nil rfl) rfl) rfl)) (da_cons (de_tup (da_cons (de_c pe_int (fun _ _ => rfl)) (da_cons (de_c pe_int (fun _ _ => rfl)) (da_cons (de_c pe_int (fun _ _ => rfl)) da_nil rfl) rfl) rfl)) (da_cons (de_tup (da_cons (de_c pe_int (fun _ _ => rfl)) (da_cons (de_c pe_int (fun _ _ => rfl)) da_nil rfl) rfl)) (da_cons (de_tup (da_cons (de_c pe_int (fun _ _ => rfl)) (da_cons (de_c pe_int (fun _ _ => rfl)) da_nil rfl) rfl)) (da_cons (de_tup (da_cons (de_c pe_int (fun _ _ => rfl)) (da_cons (de_un und_neg (de_c pe_int (fun _ _ => rfl))) da_nil rfl) rfl)) (da_cons (de_tup (da_cons (de_tup (da_cons (de_c pe_int (fun _ _ => rfl)) (da_cons (de_c pe_int (fun _ _ => rfl)) da_nil rfl) rfl)) da_nil rfl)) (da_cons (de_tup (da_cons (de_new (dn_lst (da_cons (de_c pe_int (fun _ _ => rfl)) (da_cons (de_c pe_int (fun _ _ => rfl)) da_nil rfl) rfl))) da_nil rfl)) da_nil rfl) rfl) rfl) rfl) rfl) rfl) rfl) rfl) rfl)))) rfl (.inl rfl) (hpa.not (i := 0) rfl)) (dss_cons (ds_set nd__law_odds rfl (.inl rfl) (de_bin (opd_add hK) (de_var rfl (.inl rfl) rfl rfl) (de_new (dn_lst (da_cons (de_new (dn_lst (da_cons (de_new (dn_lst da_nil)) da_nil rfl))) (da_cons (de_tup (da_cons (de_c pe_int (fun _ _ => rfl)) (da_cons (de_c pe_int (fun _ _ => rfl)) (da_cons (de_c pe_int (fun _ _ => rfl)) da_nil rfl) rfl) rfl)) (da_cons (de_tup (da_cons (de_c pe_int (fun _ _ => rfl)) (da_cons (de_c pe_int (fun _ _ => rfl)) da_nil rfl) rfl)) (da_cons (de_tup (da_cons (de_c pe_int (fun _ _ => rfl)) (da_cons (de_c pe_int (fun _ _ => rfl)) da_nil rfl) rfl)) (da_cons (de_tup (da_cons (de_c pe_int (fun _ _ => rfl)) (da_cons (de_c pe_int (fun _ _ => rfl)) da_nil rfl) rfl)) (da_cons (de_tup (da_cons (de_c pe_int (fun _ _ => rfl)) (da_cons (de_c pe_int (fun _ _ => rfl)) da_nil rfl) rfl)) (da_cons (de_tup (da_cons (de_c pe_int (fun _ _ => rfl)) da_nil rfl)) (da_cons (de_tup (da_cons (de_c pe_int (fun _ _ => rfl)) da_nil rfl)) (da_cons (de_tup (da_cons (de_tup (da_cons (de_tup (da_cons (de_tup (da_cons (de_c pe_int (fun _ _ => rfl)) da_nil rfl)) da_nil rfl)) da_nil rfl)) da_nil rfl)) (da_cons (de_dic1 (k := .inr "a") pe_str (de_new (dn_lst (da_cons (de_c pe_int (fun _ _ => rfl)) da_nil rfl)))) da_nil rfl) rfl) rfl) rfl) rfl) rfl) rfl) rfl) rfl) rfl)))) rfl (.inl rfl) (hpa.not (i := 0) rfl)) (dss_cons (ds_set nd__law_odds rfl (.inl rfl) (de_bin (opd_add hK) (de_var rfl (.inl rfl) rfl rfl) (de_new (dn_lst (da_cons (de_tup (da_cons (de_c pe_str (fun _ _ => rfl)) (da_cons (de_tup da_nil) da_nil rfl) rfl)) (da_cons (de_tup (da_cons (de_c pe_str (fun _ _ => rfl)) (da_cons (de_tup (da_cons (de_c pe_int (fun _ _ => rfl)) da_nil rfl)) (da_cons (de_tup (da_cons (de_c pe_int (fun _ _ => rfl)) da_nil rfl)) (da_cons (de_tup (da_cons (de_c pe_int (fun _ _ => rfl)) da_nil rfl)) da_nil rfl) rfl) rfl) rfl)) (da_cons (de_tup (da_cons (de_tup (da_cons (de_c pe_int (fun _ _ => rfl)) (da_cons (de_c pe_int (fun _ _ => rfl)) da_nil rfl) rfl)) da_nil rfl)) (da_cons (de_tup (da_cons (de_tup (da_cons (de_tup (da_cons (de_c pe_int (fun _ _ => rfl)) da_nil rfl)) (da_cons (de_tup (da_cons (de_tup (da_cons (de_c pe_int (fun _ _ => rfl)) (da_cons (de_c pe_int (fun _ _ => rfl)) da_nil rfl) rfl)) da_nil rfl)) da_nil rfl) rfl)) da_nil rfl)) (da_cons (de_tup (da_cons (de_c pe_int (fun _ _ => rfl)) (da_cons (de_c pe_int (fun _ _ => rfl)) (da_cons (de_c pe_int (fun _ _ => rfl)) (da_cons (de_c pe_int (fun _ _ => rfl)) da_nil rfl) rfl) rfl) rfl)) da_nil rfl) rfl) rfl) rfl) rfl)))) rfl (.inl rfl) (hpa.not (i := 0) rfl)) (dss_one (ds_ret (de_bin (opd_add hK) (de_var rfl (.inl rfl) rfl rfl) (de_new (dn_lst (da_cons (de_tup (da_cons (de_c pe_int (fun _ _ => rfl)) da_nil rfl)) (da_cons (de_dic1 (k := .inl 0) pe_int (de_c pe_int (fun _ _ => rfl))) da_nil rfl) rfl))))))))))))
/-! ### Plan.__repr__ -/
abbrev s_Plan___repr__ : Stmt := inClass (top 31) 15
def N_Plan___repr__ : List Str := ["self"]
def d_Plan___repr__ : FB := bRet (fJoin (jLit "Plan(" (jFmt (fFld 0 0 (fVar 0)) (jLit " products, " (jFmt (fBlt dLen (fCons (fFld 0 1 (fVar 0)) fNil)) (jLit " centres)" (jNil)))))))
def g_Plan___repr__ : FG := fnD 1 [] d_Plan___repr__
theorem nd_Plan___repr__ : N_Plan___repr__.Nodup := by decide +kernel
theorem sc_Plan___repr__ : FnScope N_Plan___repr__ ["self"] (defScope s_Plan___repr__) := ⟨rfl, rfl, rfl, nd_Plan___repr__, rfl, by decide +kernel, by decide +kernel⟩
theorem ok_Plan___repr__ {P : Program} {w : World} {K : PySem.W.Frag} {mg : Str → Option Value} {base : Heap} (W : Ws K mg) : Def1 P w K mg base (TT K) 1 (He.ma K (He.ga K "Plan") "__repr__") ["self"] g_Plan___repr__ := by
  obtain ⟨fd, Fd⟩ := W.f_Plan___repr__
  exact FunD.def1 (N := N_Plan___repr__) (ps := ["self"]) (asg := []) (fb := d_Plan___repr__) Fd sc_Plan___repr__ (fun _ _ _ _ _ _ us hl => match us, hl with | [_], _ => rfl) (fun cdv A outer s H E hr F hK hT hpa => (dss_one (ds_ret (de_join (jd_lit (jd_fmt (de_fld hK (ckT hT W.c_Plan) (flT hT rfl) (de_var rfl (.inl rfl) rfl rfl) rfl) (jd_lit (jd_fmt (de_blt (cd_len hK) rfl W.n_len bt_len (da_cons (de_fld hK (ckT hT W.c_Plan) (flT hT rfl) (de_var rfl (.inl rfl) rfl rfl) rfl) da_nil rfl) (by decide) rfl rfl rfl) (jd_lit jd_nil)))))))))
/-! ### need_plan -/
abbrev s_need_plan : Stmt := top 32
def N_need_plan : List Str := ["thing"]
def d_need_plan : FB := bIf (fNot (fTest (fIsi (inCls [0, 1] [0]) (fVar 0)))) (bNo) (bNx)
def g_need_plan : FG := fnD 1 [] d_need_plan
theorem nd_need_plan : N_need_plan.Nodup := by decide +kernel
theorem sc_need_plan : FnScope N_need_plan ["thing"] (defScope s_need_plan) := ⟨rfl, rfl, rfl, nd_need_plan, rfl, by decide +kernel, by decide +kernel⟩
theorem ok_need_plan {P : Program} {w : World} {K : PySem.W.Frag} {mg : Str → Option Value} {base : Heap} (W : Ws K mg) : Def1 P w K mg base (TT K) 1 (He.ga K "need_plan") ["thing"] g_need_plan := by
  obtain ⟨fd, Fd⟩ := W.f_need_plan
  exact FunD.def1 (N := N_need_plan) (ps := ["thing"]) (asg := []) (fb := d_need_plan) Fd sc_need_plan (fun _ _ _ _ _ _ us hl => match us, hl with | [_], _ => rfl) (fun cdv A outer s H E hr F hK hT hpa => (dss_one (ds_if (dt_not (dt_val (de_isiC hK (iscT hT W.j_Plan) rfl W.n_isinstance bt_isinstance (by decide) rfl (pe_glob rfl W.g_Plan rfl rfl) (de_var rfl (.inl rfl) rfl rfl) rfl rfl rfl) (fun _ => rfl))) (dss_one ds_never) dss_nil)))
/-! ### Plan.products -/
abbrev s_Plan_products : Stmt := inClass (top 31) 5
def N_Plan_products : List Str := ["self"]
def d_Plan_products : FB := bRet (fFld 0 0 (fVar 0))
def g_Plan_products : FG := fnD 1 [] d_Plan_products
theorem nd_Plan_products : N_Plan_products.Nodup := by decide +kernel
theorem sc_Plan_products : FnScope N_Plan_products ["self"] (defScope s_Plan_products) := ⟨rfl, rfl, rfl, nd_Plan_products, rfl, by decide +kernel, by decide +kernel⟩
theorem ok_Plan_products {P : Program} {w : World} {K : PySem.W.Frag} {mg : Str → Option Value} {base : Heap} (W : Ws K mg) : Def1 P w K mg base (TT K) 1 (prGet K "Plan" "products") ["self"] g_Plan_products := by
  obtain ⟨fd, Fd⟩ := W.f_Plan_products
  exact FunD.def1 (N := N_Plan_products) (ps := ["self"]) (asg := []) (fb := d_Plan_products) Fd sc_Plan_products (fun _ _ _ _ _ _ us hl => match us, hl with | [_], _ => rfl) (fun cdv A outer s H E hr F hK hT hpa => (dss_one (ds_ret (de_fld hK (ckT hT W.c_Plan) (flT hT rfl) (de_var rfl (.inl rfl) rfl rfl) rfl))))
/-! ### Period.__init__ -/
abbrev s_Period___init__ : Stmt := inClass (top 41) 1
def N_Period___init__ : List Str := ["self", "plan", "many"]
def d_Period___init__ : FB := bSeq (bExp (fCall g_need_plan [] (fCons (fVar 1) (fNil)))) (bSeq (bSet 2 (fLen 0 g_Plan___len__ (fVar 1))) (bTgs [(.at_ 0 1 0), (.at_ 0 1 1)] (fDisp .tup (fCons (fVar 1) (fCons (fDisp .tup (fCons (fDisp .tup (fCons (fBin dMul (fDisp .tup (fCons (fC (.int 0)) (fNil))) (fVar 2)) (fCons (fBin dMul (fDisp .tup (fCons (fC (.tup [.int 0, .int 1])) (fNil))) (fVar 2)) (fCons (fBin dMul (fDisp .tup (fCons (fC (.tup [.int 0, .int 1])) (fNil))) (fMeth 0 g_Plan_products [] (fVar 1) fNil)) (fCons (fDisp .tup (fNil)) (fNil)))))) (fNil))) (fNil))))))
def g_Period___init__ : FG := fnD 3 [] d_Period___init__
theorem nd_Period___init__ : N_Period___init__.Nodup := by decide +kernel
theorem sc_Period___init__ : FnScope N_Period___init__ ["self", "plan"] (defScope s_Period___init__) := ⟨rfl, rfl, rfl, nd_Period___init__, rfl, by decide +kernel, by decide +kernel⟩
theorem okd_Period___init__ {P : Program} {w : World} {K : PySem.W.Frag} {mg : Str → Option Value} {base : Heap} (W : Ws K mg) : Def1 P w K mg base (TT K) 3 (He.ma K (He.ga K "Period") "__init__") ["self", "plan"] g_Period___init__ := by
  obtain ⟨fd, Fd⟩ := W.f_Period___init__
  exact FunD.def1 (N := N_Period___init__) (ps := ["self", "plan"]) (asg := []) (fb := d_Period___init__) Fd sc_Period___init__ (fun _ _ _ _ _ _ us hl => match us, hl with | [_, _], _ => rfl) (fun cdv A outer s H E hr F hK hT hpa => (dss_cons (ds_expr (de_callO hK ((ok_need_plan W).T hT) hr (by decide) rfl W.g_need_plan (da_cons (de_var rfl (.inl rfl) rfl rfl) da_nil rfl) (faLen_cons faLen_nil) rfl rfl rfl rfl) rfl) (dss_cons (ds_set nd_Period___init__ rfl (.inl rfl) (de_len (lenD hK hT W.s_Plan___len__ (ok_Plan___len__ W) hr (by decide) rfl rfl W.n_len bt_len (de_var rfl (.inl rfl) rfl rfl) (by decide) rfl rfl rfl) (de_blt (cd_len hK) rfl W.n_len bt_len (da_cons (de_var rfl (.inl rfl) rfl rfl) da_nil rfl) (by decide) rfl rfl rfl) rfl) rfl (.inl rfl) (hpa.not (i := 2) rfl)) (dss_one (ds_tgs hK rfl (de_tup (da_cons (de_var rfl (.inl rfl) rfl rfl) (da_cons (de_tup (da_cons (de_tup (da_cons (de_bin (opd_mul hK) (de_tup (da_cons (de_c pe_int (fun _ _ => rfl)) da_nil rfl)) (de_var rfl (.inl rfl) rfl rfl)) (da_cons (de_bin (opd_mul hK) (de_tup (da_cons (de_glob rfl W.g_NOTHING (show RelV (.ref _) _ from rfl) rfl (fun M H => tupK (ns := [0, 1]) hK W.t_NOTHING M H)) da_nil rfl)) (de_var rfl (.inl rfl) rfl rfl)) (da_cons (de_bin (opd_mul hK) (de_tup (da_cons (de_glob rfl W.g_NOTHING (show RelV (.ref _) _ from rfl) rfl (fun M H => tupK (ns := [0, 1]) hK W.t_NOTHING M H)) da_nil rfl)) (prD hK hT (de_var rfl (.inl rfl) rfl rfl) (ckT hT W.c_Plan) W.p_Plan_products (ok_Plan_products W) hr (by decide) rfl rfl)) (da_cons (de_tup da_nil) da_nil rfl) rfl) rfl) rfl)) da_nil rfl)) da_nil rfl) rfl)) (dts_cons (dt_at hK (ckT hT W.c_Period) (flT hT rfl) rfl (.inl rfl) rfl rfl) (dts_cons (dt_at hK (ckT hT W.c_Period) (flT hT rfl) rfl (.inl rfl) rfl rfl) dts_nil' rfl) rfl) rfl rfl rfl rfl rfl rfl (by simp [Tg.free]))))))
def i_Period___init__ : List D → Option (List D) := initD 1 2 g_Period___init__
theorem ok_Period___init__ {P : Program} {w : World} {K : PySem.W.Frag} {mg : Str → Option Value} {base : Heap} (W : Ws K mg) : FnR P w K mg base CX0 3 (He.ma K (He.ga K "Period") "__init__") (spMk K (TT K) 1 i_Period___init__) := by
  obtain ⟨⟨fd, hb, Fn⟩, kp⟩ := okd_Period___init__ W (P := P) (w := w) (base := base)
  exact fnR_init Fn hb
/-! ### Plan.text -/
abbrev s_Plan_text : Stmt := inClass (top 31) 4
def N_Plan_text : List Str := ["self", "lines", "row", "line", "weight"]
def d_Plan_text : FB := bSeq (bSet 1 (fBin dAdd (fNew (nDisp (fCons (fBin dAdd (fC (.str "products ")) (fBlt dStr (fCons (fFld 0 0 (fVar 0)) (fNil)))) (fNil)))) (fNew (nLc [2] (.nm 2) (sItm (fFld 0 1 (fVar 0))) (fYes) (fSM smJoin (fC (.str " ")) (fNew (nLc [4] (.nm 4) (sItm (fVar 2)) (fYes) (fBlt dStr (fCons (fVar 4) (fNil)))))))))) (bRet (fSM smJoin (fC (.str "")) (fNew (nLc [3] (.nm 3) (sItm (fVar 1)) (fYes) (fBin dAdd (fVar 3) (fC (.str "\n")))))))
def g_Plan_text : FG := fnD 5 [] d_Plan_text
theorem nd_Plan_text : N_Plan_text.Nodup := by decide +kernel
theorem sc_Plan_text : FnScope N_Plan_text ["self"] (defScope s_Plan_text) := ⟨rfl, rfl, rfl, nd_Plan_text, rfl, by decide +kernel, by decide +kernel⟩
theorem ok_Plan_text {P : Program} {w : World} {K : PySem.W.Frag} {mg : Str → Option Value} {base : Heap} (W : Ws K mg) : Def1 P w K mg base (TT K) 1 (He.ma K (He.ga K "Plan") "text") ["self"] g_Plan_text := by
  obtain ⟨fd, Fd⟩ := W.f_Plan_text
  exact FunD.def1 (N := N_Plan_text) (ps := ["self"]) (asg := []) (fb := d_Plan_text) Fd sc_Plan_text (fun _ _ _ _ _ _ us hl => match us, hl with | [_], _ => rfl) (fun cdv A outer s H E hr F hK hT hpa => (dss_cons (ds_set nd_Plan_text rfl (.inl rfl) (de_bin (opd_add hK) (de_new (dn_lst (da_cons (de_bin (opd_add hK) (de_glob rfl W.i_HEAD.choose_spec (show RelV (.str "products ") _ from ⟨_, rfl⟩) rfl (fun _ _ => rfl)) (de_bty (cd_str hK) rfl W.n_str bt_str (da_cons (de_fld hK (ckT hT W.c_Plan) (flT hT rfl) (de_var rfl (.inl rfl) rfl rfl) rfl) da_nil rfl) (by decide) rfl rfl rfl)) da_nil rfl))) (de_new (dn_lcI [("row", 2)] rfl hK rfl nd_Plan_text (di_itm hK (de_fld hK (ckT hT W.c_Plan) (flT hT rfl) (de_var rfl (.inl rfl) rfl rfl) rfl)) (blkB_ok rfl) (by decide) (fun _ _ _ _ _ _ hK1 hT1 => (dg_name nd_Plan_text rfl (.inl rfl) (.inr rfl))) (fun _ _ _ _ _ _ hK1 hT1 => dts_nil) (fun _ _ _ _ _ _ hK1 hT1 => (de_sm PySem.F.slot_str_join PySem.F.type_str_join (ms_join hK1) (de_c pe_str (fun _ _ => rfl)) (de_new (dn_lcI [("weight", 4)] rfl hK1 rfl nd_Plan_text (di_itm hK1 (de_var rfl (.inl rfl) rfl rfl)) (blkB_ok rfl) (by decide) (fun _ _ _ _ _ _ hK2 hT2 => (dg_name nd_Plan_text rfl (.inl rfl) (.inr rfl))) (fun _ _ _ _ _ _ hK2 hT2 => dts_nil) (fun _ _ _ _ _ _ hK2 hT2 => (de_bty (cd_str hK2) rfl W.n_str bt_str (da_cons (de_var rfl (.inl rfl) rfl rfl) da_nil rfl) (by decide) rfl rfl rfl)) (fun _ => rfl))) rfl rfl rfl rfl rfl)) (fun _ => rfl)))) rfl (.inl rfl) (hpa.not (i := 1) rfl)) (dss_one (ds_ret (de_sm PySem.F.slot_str_join PySem.F.type_str_join (ms_join hK) (de_c pe_str (fun _ _ => rfl)) (de_new (dn_lcI [("line", 3)] rfl hK rfl nd_Plan_text (di_itm hK (de_var rfl (.inl rfl) rfl rfl)) (blkB_ok rfl) (by decide) (fun _ _ _ _ _ _ hK1 hT1 => (dg_name nd_Plan_text rfl (.inl rfl) (.inr rfl))) (fun _ _ _ _ _ _ hK1 hT1 => dts_nil) (fun _ _ _ _ _ _ hK1 hT1 => (de_bin (opd_add hK1) (de_var rfl (.inl rfl) rfl rfl) (de_c pe_str (fun _ _ => rfl)))) (fun _ => rfl))) rfl rfl rfl rfl rfl)))))
/-! ### Plan.rows -/
abbrev s_Plan_rows : Stmt := inClass (top 31) 6
def N_Plan_rows : List Str := ["self"]
def d_Plan_rows : FB := bRet (fFld 0 1 (fVar 0))
def g_Plan_rows : FG := fnD 1 [] d_Plan_rows
theorem nd_Plan_rows : N_Plan_rows.Nodup := by decide +kernel
theorem sc_Plan_rows : FnScope N_Plan_rows ["self"] (defScope s_Plan_rows) := ⟨rfl, rfl, rfl, nd_Plan_rows, rfl, by decide +kernel, by decide +kernel⟩
theorem ok_Plan_rows {P : Program} {w : World} {K : PySem.W.Frag} {mg : Str → Option Value} {base : Heap} (W : Ws K mg) : Def1 P w K mg base (TT K) 1 (prGet K "Plan" "rows") ["self"] g_Plan_rows := by
  obtain ⟨fd, Fd⟩ := W.f_Plan_rows
  exact FunD.def1 (N := N_Plan_rows) (ps := ["self"]) (asg := []) (fb := d_Plan_rows) Fd sc_Plan_rows (fun _ _ _ _ _ _ us hl => match us, hl with | [_], _ => rfl) (fun cdv A outer s H E hr F hK hT hpa => (dss_one (ds_ret (de_fld hK (ckT hT W.c_Plan) (flT hT rfl) (de_var rfl (.inl rfl) rfl rfl) rfl))))
/-! ### law -/
abbrev s_law : Stmt := top 54
def N_law : List Str := ["_law_script", "_law_cell_here", "_law_pen_here", "_law_lap", "_law_products", "_law_rows", "_law_number", "_law_others", "_law_made", "_law_thing", "_law_row"]
def d_law : FB := bSeq (bFor (.nm 1) (sItm (fBin dAdd (fNew (nDisp (fCons (fCall g__law_cell [] (fCons (fVar 0) (fCons (fC (.int 0)) (fNil)))) (fNil)))) (fSlc (fVar 0) (fPart (fC (.int 1))) (fPart (fC (.int 3)))))) (bSeq (bOwn 2 (nCallN gn__law_pen (fCons (fVar 1) (fNil)))) (bSeq (bFor (.nm 3) (sRng (fCons (fC (.int 20)) (fNil))) (bSeq (bBind (.tp [4, 5]) (fCall g__law_draw_plan [] (fCons (fVar 2) (fNil)))) (bSeq (bBind (.tp [6, 7]) (fCall g__law_near [] (fCons (fVar 2) (fCons (fVar 4) (fCons (fVar 5) (fNil)))))) (bSeq (bIf (fTest (fBin (dCmp fun i j => decide (j < i)) (fBlt dMaxL (fCons (fNew (nLc [10] (.nm 10) (sItm (fVar 7)) (fYes) (fBlt dMaxT (fCons (fVar 10) (fNil))))) (fNil))) (fC (.int 20)))) (bPar [6, 7] (mDat (fVar 4) (mDat (fVar 5) (mNil)))) (bNx)) (bIf (fOr (fNot (fTest (fCall g__law_is_right [] (fCons (fVar 4) (fCons (fVar 5) (fCons (fVar 6) (fCons (fVar 7) (fNil)))))))) (fNot (fTest (fCall g__law_is_right [] (fCons (fVar 4) (fCons (fVar 5) (fCons (fVar 4) (fCons (fVar 5) (fNil))))))))) (bRet (fC (.bl false))) (bNx)))))) (bSeq (bSet 8 (fCall g__law_build [] (fCons (fVar 4) (fCons (fVar 5) (fNil))))) (bFor (.nm 9) (sItm (fBin dAdd (fCall g__law_odds [] fNil) (fNew (nDisp (fCons (fVar 5) (fCons (fMeth 0 g_Plan_rows [] (fVar 8) fNil) (fCons (fMeth 0 g_Plan_text [] (fVar 8) fNil) (fCons (fNew (nDisp (fCons (fVar 8) (fNil)))) (fCons (fMake 1 i_Period___init__ (fCons (fVar 8) (fNil))) (fCons (fReprI 0 g_Plan___repr__ (fVar 8)) (fNil))))))))))) (bIf (fNot (fTest (fCall g__law_same [] (fCons (fNew (nDisp (fCons (fEqL 0 [1] g_Plan___eq__ false (fVar 8) (fVar 9)) (fCons (fEqR 0 [1] g_Plan___eq__ (fVar 9) (fVar 8)) (fCons (fEqL 0 [1] g_Plan___eq__ true (fVar 8) (fVar 9)) (fNil)))))) (fCons (fNew (nDisp (fCons (fC (.bl false)) (fCons (fC (.bl false)) (fCons (fC (.bl true)) (fNil)))))) (fNil)))))) (bRet (fC (.bl false))) (bNx))))))) (bRet (fCall g__law_is_right [] (fCons (fC (.int 1)) (fCons (fNew (nDisp (fCons (fDisp .tup (fCons (fC (.int 1)) (fCons (fC (.int 0)) (fCons (fC (.int 1)) (fNil))))) (fCons (fDisp .tup (fCons (fC (.int 1)) (fCons (fC (.int 1)) (fCons (fC (.int 0)) (fNil))))) (fNil))))) (fCons (fC (.int 2)) (fCons (fNew (nDisp (fCons (fDisp .tup (fCons (fC (.int 1)) (fCons (fC (.int 0)) (fCons (fC (.int 0)) (fNil))))) (fNil)))) (fNil)))))))
def g_law : FG := fnD 11 [] d_law
theorem nd_law : N_law.Nodup := by decide +kernel
theorem sc_law : FnScope N_law ["_law_script"] (defScope s_law) := ⟨rfl, rfl, rfl, nd_law, rfl, by decide +kernel, by decide +kernel⟩
theorem fn_law {P : Program} {w : World} {K : PySem.W.Frag} {mg : Str → Option Value} {base : Heap} (W : Ws K mg) {fd : FuncData} (Fd : FunD K "law" "law" (defArgs (top 54)) (defBody (top 54)) (defScope (top 54)) [] [] (He.ga K "law") fd) : FnG P w K mg base 10 (He.ga K "law") fd ["_law_script"] (spD K (TT K) 1 g_law) :=
  FunD.fnG (N := N_law) (ps := ["_law_script"]) (asg := []) (fb := d_law) Fd sc_law (fun cdv A outer s H E hr gd F hK hT hpa => (dss_cons (ds_for bodyCx_own rfl (di_itm hK (de_bin (opd_add hK) (de_new (dn_lst (da_cons (de_callO hK ((ok__law_cell W).T hT) hr (by decide) rfl W.g__law_cell (da_cons (de_var rfl (.inl rfl) rfl rfl) (da_cons (de_c pe_int (fun _ _ => rfl)) da_nil rfl) rfl) (faLen_cons (faLen_cons faLen_nil)) rfl rfl rfl rfl) da_nil rfl))) (de_slc hK (de_var rfl (.inl rfl) rfl rfl) (do_some (de_c pe_int (fun _ _ => rfl))) (do_some (de_c pe_int (fun _ _ => rfl)))))) (dg_name nd_law rfl (.inl rfl) (.inl rfl)) (dss_cons (ds_own nd_law rfl (.inl rfl) (dn_callN hK hT (okn__law_pen W) hr (by decide) rfl W.g__law_pen (da_cons (de_var rfl (.inl rfl) rfl rfl) da_nil rfl) (faLen_cons faLen_nil) rfl rfl rfl rfl) rfl (.inl rfl) (hpa.not (i := 2) rfl)) (dss_cons (ds_for bodyCx_own rfl (di_rng1 rfl W.n_range (da_cons (de_c pe_int (fun _ _ => rfl)) da_nil rfl) rfl (faLen_cons faLen_nil).eq) (dg_name nd_law rfl (.inl rfl) (.inl rfl)) (dss_cons (ds_bind (de_callO hK ((ok__law_draw_plan W).T hT) hr (by decide) rfl W.g__law_draw_plan (da_cons (de_var rfl (.inl rfl) rfl rfl) da_nil rfl) (faLen_cons faLen_nil) rfl rfl rfl rfl) (dg_tup hK rfl (dgs_cons (dg_name nd_law rfl (.inl rfl) (.inl rfl)) (dgs_cons (dg_name nd_law rfl (.inl rfl) (.inl rfl)) dgs_nil rfl) rfl) rfl rfl rfl) rfl rfl rfl (hpa.nots rfl)) (dss_cons (ds_bind (de_callO hK ((ok__law_near W).T hT) hr (by decide) rfl W.g__law_near (da_cons (de_var rfl (.inl rfl) rfl rfl) (da_cons (de_var rfl (.inl rfl) rfl rfl) (da_cons (de_var rfl (.inl rfl) rfl rfl) da_nil rfl) rfl) rfl) (faLen_cons (faLen_cons (faLen_cons faLen_nil))) rfl rfl rfl rfl) (dg_tup hK rfl (dgs_cons (dg_name nd_law rfl (.inl rfl) (.inl rfl)) (dgs_cons (dg_name nd_law rfl (.inl rfl) (.inl rfl)) dgs_nil rfl) rfl) rfl rfl rfl) rfl rfl rfl (hpa.nots rfl)) (dss_cons (ds_if (dt_cmp (opd_cmp op_gt) (de_blt (cd_maxL hK rfl) rfl W.n_max bt_max (da_cons (de_new (dn_lcI [("_law_row", 10)] rfl hK rfl nd_law (di_itm hK (de_var rfl (.inl rfl) rfl rfl)) (blkB_ok rfl) (by decide) (fun _ _ _ _ _ _ hK1 hT1 => (dg_name nd_law rfl (.inl rfl) (.inr rfl))) (fun _ _ _ _ _ _ hK1 hT1 => dts_nil) (fun _ _ _ _ _ _ hK1 hT1 => (de_blt (cd_maxT hK1 rfl (u3 hr)) rfl W.n_max bt_max (da_cons (de_var rfl (.inl rfl) rfl rfl) da_nil rfl) (by decide) rfl rfl rfl)) (fun _ => rfl))) da_nil rfl) (by decide) rfl rfl rfl) (de_c pe_int (fun _ _ => rfl)) rfl) (dss_one (ds_par2 rfl nd_law rfl rfl (by decide) rfl rfl (dm_dat (de_var rfl (.inl rfl) rfl rfl) (dm_dat (de_var rfl (.inl rfl) rfl rfl) dm_nil rfl) rfl) rfl rfl (hpa.nots rfl))) dss_nil) (dss_one (ds_if (PW.pt (dw_or (dt_not (dt_val (de_callG hK ((ok__law_is_right W).T hT) gd hr (by decide) rfl W.g__law_is_right (da_cons (de_var rfl (.inl rfl) rfl rfl) (da_cons (de_var rfl (.inl rfl) rfl rfl) (da_cons (de_var rfl (.inl rfl) rfl rfl) (da_cons (de_var rfl (.inl rfl) rfl rfl) da_nil rfl) rfl) rfl) rfl) (faLen_cons (faLen_cons (faLen_cons (faLen_cons faLen_nil)))) rfl rfl rfl rfl) (fun _ => rfl))) (dw_or1 (dt_not (dt_val (de_callG hK ((ok__law_is_right W).T hT) gd hr (by decide) rfl W.g__law_is_right (da_cons (de_var rfl (.inl rfl) rfl rfl) (da_cons (de_var rfl (.inl rfl) rfl rfl) (da_cons (de_var rfl (.inl rfl) rfl rfl) (da_cons (de_var rfl (.inl rfl) rfl rfl) da_nil rfl) rfl) rfl) rfl) (faLen_cons (faLen_cons (faLen_cons (faLen_cons faLen_nil)))) rfl rfl rfl rfl) (fun _ => rfl)))))) (dss_one (ds_ret (de_c pe_bl (fun _ _ => rfl)))) dss_nil))))) (fun _ => rfl) (hpa.nots rfl)) (dss_cons (ds_set nd_law rfl (.inl rfl) (de_callO hK ((ok__law_build W).T hT) hr (by decide) rfl W.g__law_build (da_cons (de_var rfl (.inl rfl) rfl rfl) (da_cons (de_var rfl (.inl rfl) rfl rfl) da_nil rfl) rfl) (faLen_cons (faLen_cons faLen_nil)) rfl rfl rfl rfl) rfl (.inl rfl) (hpa.not (i := 8) rfl)) (dss_one (ds_for bodyCx_own rfl (di_itm hK (de_bin (opd_add hK) (de_callO0 hK ((ok__law_odds W).T hT) hr (by decide) rfl W.g__law_odds rfl rfl) (de_new (dn_lst (da_cons (de_var rfl (.inl rfl) rfl rfl) (da_cons (prD hK hT (de_var rfl (.inl rfl) rfl rfl) (ckT hT W.c_Plan) W.p_Plan_rows (ok_Plan_rows W) hr (by decide) rfl rfl) (da_cons (me0D hK hT (de_var rfl (.inl rfl) rfl rfl) (ckT hT W.c_Plan) W.h_Plan_text (ok_Plan_text W) hr (by decide) rfl (nfT hT rfl) rfl) (da_cons (de_new (dn_lst (da_cons (de_var rfl (.inl rfl) rfl rfl) da_nil rfl))) (da_cons (mkD hK hT W.m_Period (ok_Period___init__ W) hr (by decide) rfl W.g_Period (da_cons (de_var rfl (.inl rfl) rfl rfl) da_nil rfl) rfl rfl rfl) (da_cons (de_reprI hK hT W.s_Plan___repr__ (ok_Plan___repr__ W) hr (by decide) rfl rfl W.n_repr bt_repr (de_var rfl (.inl rfl) rfl rfl) (by decide) rfl rfl rfl) da_nil rfl) rfl) rfl) rfl) rfl) rfl))))) (dg_name nd_law rfl (.inl rfl) (.inl rfl)) (dss_one (ds_if (dt_not (dt_val (de_callG hK ((ok__law_same W).T hT) gd hr (by decide) rfl W.g__law_same (da_cons (de_new (dn_lst (da_cons (de_eqL hK hT W.e_Plan (ok_Plan___eq__ W) hr (by decide) rfl (de_var rfl (.inl rfl) rfl rfl) (de_var rfl (.inl rfl) rfl rfl) rfl) (da_cons (de_eqR hK hT W.e_Plan (ok_Plan___eq__ W) hr (by decide) rfl (de_var rfl (.inl rfl) rfl rfl) (de_var rfl (.inl rfl) rfl rfl) rfl) (da_cons (de_neL hK hT W.e_Plan (ok_Plan___eq__ W) hr (by decide) rfl (de_var rfl (.inl rfl) rfl rfl) (de_var rfl (.inl rfl) rfl rfl) rfl) da_nil rfl) rfl) rfl))) (da_cons (de_new (dn_lst (da_cons (de_c pe_bl (fun _ _ => rfl)) (da_cons (de_c pe_bl (fun _ _ => rfl)) (da_cons (de_c pe_bl (fun _ _ => rfl)) da_nil rfl) rfl) rfl))) da_nil rfl) rfl) (faLen_cons (faLen_cons faLen_nil)) rfl rfl rfl rfl) (fun _ => rfl))) (dss_one (ds_ret (de_c pe_bl (fun _ _ => rfl)))) dss_nil)) (fun _ => rfl) (hpa.nots rfl)))))) (fun _ => rfl) (hpa.nots rfl)) (dss_one (ds_ret (de_callG hK ((ok__law_is_right W).T hT) gd hr (by decide) rfl W.g__law_is_right (da_cons (de_c pe_int (fun _ _ => rfl)) (da_cons (de_new (dn_lst (da_cons (de_tup (da_cons (de_c pe_int (fun _ _ => rfl)) (da_cons (de_c pe_int (fun _ _ => rfl)) (da_cons (de_c pe_int (fun _ _ => rfl)) da_nil rfl) rfl) rfl)) (da_cons (de_tup (da_cons (de_c pe_int (fun _ _ => rfl)) (da_cons (de_c pe_int (fun _ _ => rfl)) (da_cons (de_c pe_int (fun _ _ => rfl)) da_nil rfl) rfl) rfl)) da_nil rfl) rfl))) (da_cons (de_c pe_int (fun _ _ => rfl)) (da_cons (de_new (dn_lst (da_cons (de_tup (da_cons (de_c pe_int (fun _ _ => rfl)) (da_cons (de_c pe_int (fun _ _ => rfl)) (da_cons (de_c pe_int (fun _ _ => rfl)) da_nil rfl) rfl) rfl)) da_nil rfl))) da_nil rfl) rfl) rfl) rfl) (faLen_cons (faLen_cons (faLen_cons (faLen_cons faLen_nil)))) rfl rfl rfl rfl)))))
theorem ws_of {K : PySem.W.Frag} {h : Heap} {mg : Str → Option Value} (X : K.In h) (G : h.Ns mainGlobals mg) (c : SaysX ckA fnL K) : Ws K mg := by
  have hc : (ckL.all fun f => f K) = true := c.chk
  exact {
    c_Period := clsB_ok (ckAt hc 0 rfl) rfl rfl (by decide +kernel) (by decide)
    c_Plan := clsB_ok (ckAt hc 1 rfl) rfl rfl (by decide +kernel) (by decide)
    w_Plan_read := cmB_ok (ckAt hc 2 rfl)
    q_Plan := crB_ok (ckAt hc 3 rfl)
    e_Plan := eqC_ok (ks := ["Period"]) (ckAt hc 4 rfl) rfl (fun c hc => by simp only [List.mem_cons, List.not_mem_nil, or_false] at hc; subst hc; exact ⟨_, List.mem_cons_self, rfl⟩)
    n_all := He.free_ok X G (ckAt hc 5 rfl)
    n_bool := He.free_ok X G (ckAt hc 6 rfl)
    n_enumerate := He.free_ok X G (ckAt hc 7 rfl)
    n_int := He.free_ok X G (ckAt hc 8 rfl)
    n_isinstance := He.free_ok X G (ckAt hc 9 rfl)
    n_len := He.free_ok X G (ckAt hc 10 rfl)
    n_max := He.free_ok X G (ckAt hc 11 rfl)
    n_range := He.free_ok X G (ckAt hc 12 rfl)
    n_repr := He.free_ok X G (ckAt hc 13 rfl)
    n_str := He.free_ok X G (ckAt hc 14 rfl)
    n_sum := He.free_ok X G (ckAt hc 15 rfl)
    n_tuple := He.free_ok X G (ckAt hc 16 rfl)
    f_Period___init__ := c.def_ 0 rfl
    f_Plan___eq__ := c.def_ 1 rfl
    f_Plan___init__ := c.def_ 2 rfl
    f_Plan___len__ := c.def_ 3 rfl
    f_Plan___repr__ := c.def_ 4 rfl
    f_Plan_products := c.def_ 5 rfl
    f_Plan_read := c.def_ 6 rfl
    f_Plan_rows := c.def_ 7 rfl
    f_Plan_text := c.def_ 8 rfl
    f__law_build := c.def_ 9 rfl
    f__law_cell := c.def_ 10 rfl
    f__law_draw := c.def_ 11 rfl
    f__law_draw_plan := c.def_ 12 rfl
    f__law_draw_row := c.def_ 13 rfl
    f__law_is_right := c.def_ 14 rfl
    f__law_near := c.def_ 15 rfl
    f__law_odds := c.def_ 16 rfl
    f__law_pen := c.def_ 17 rfl
    f__law_same := c.def_ 18 rfl
    f__law_write := c.def_ 19 rfl
    f_are_rows := c.def_ 20 rfl
    f_is_between := c.def_ 21 rfl
    f_is_integer := c.def_ 22 rfl
    f_is_row := c.def_ 23 rfl
    f_law := c.def_ 24 rfl
    f_need_plan := c.def_ 25 rfl
    f_number_in := c.def_ 26 rfl
    g_NOTHING := He.glo_ok X G (ckAt hc 17 rfl)
    g_Period := He.glo_ok X G (ckAt hc 18 rfl)
    g_Plan := He.glo_ok X G (ckAt hc 19 rfl)
    g__law_build := He.glo_ok X G (ckAt hc 20 rfl)
    g__law_cell := He.glo_ok X G (ckAt hc 21 rfl)
    g__law_draw := He.glo_ok X G (ckAt hc 22 rfl)
    g__law_draw_plan := He.glo_ok X G (ckAt hc 23 rfl)
    g__law_draw_row := He.glo_ok X G (ckAt hc 24 rfl)
    g__law_is_right := He.glo_ok X G (ckAt hc 25 rfl)
    g__law_near := He.glo_ok X G (ckAt hc 26 rfl)
    g__law_odds := He.glo_ok X G (ckAt hc 27 rfl)
    g__law_pen := He.glo_ok X G (ckAt hc 28 rfl)
    g__law_same := He.glo_ok X G (ckAt hc 29 rfl)
    g__law_write := He.glo_ok X G (ckAt hc 30 rfl)
    g_are_rows := He.glo_ok X G (ckAt hc 31 rfl)
    g_is_between := He.glo_ok X G (ckAt hc 32 rfl)
    g_is_integer := He.glo_ok X G (ckAt hc 33 rfl)
    g_is_row := He.glo_ok X G (ckAt hc 34 rfl)
    g_law := He.glo_ok X G (ckAt hc 35 rfl)
    g_need_plan := He.glo_ok X G (ckAt hc 36 rfl)
    g_number_in := He.glo_ok X G (ckAt hc 37 rfl)
    i_MOST := He.int_ok X G (ckAt hc 38 rfl)
    i_MOST_WEIGHT := He.int_ok X G (ckAt hc 39 rfl)
    j_Plan := iscB_ok (cs := [(0, "Plan", true), (1, "Period", false)]) (ckAt hc 40 rfl) (fun p hp => by simp only [List.mem_cons, List.not_mem_nil, or_false] at hp; first | (rcases hp with rfl | rfl <;> rfl) | (subst hp; rfl)) rfl (fun p hp => by simp only [List.mem_cons, List.not_mem_nil, or_false] at hp; first | (rcases hp with rfl | rfl <;> rfl) | (subst hp; rfl))
    h_Plan_text := He.meth_ok (ckAt hc 41 rfl)
    m_Period := He.mkr_ok (ckAt hc 42 rfl)
    m_Plan := He.mkr_ok (ckAt hc 43 rfl)
    p_Plan_products := propB_ok (ckAt hc 44 rfl)
    p_Plan_rows := propB_ok (ckAt hc 45 rfl)
    s_Plan___len__ := sp1B_ok (ckAt hc 46 rfl)
    s_Plan___repr__ := sp1B_ok (ckAt hc 47 rfl)
    i_DIGITS := He.str_ok X G (ckAt hc 48 rfl)
    i_HEAD := He.str_ok X G (ckAt hc 49 rfl)
    t_NOTHING := tupN_ok (ckAt hc 50 rfl)
  }
end SC

set_option Elab.async false
set_option linter.all false
set_option maxRecDepth 100000
namespace SC
open PySem PySem.Spec PyProof.Rows L2

/-! ### plain steps -/
theorem dEq_int (a b : Int) : dEq (.int a) (.int b) = some (.bl (decide (a = b))) := by
  have h : ∀ z : Int, shD (.int z) = true := fun z => rfl
  have e : eqD (.int a) (.int b) = decide (a = b) := by
    simp only [eqD, toP, PyData.eqv]
    first | rfl | (rw [Bool.eq_iff_iff]; simp)
  simp [dEq, h, e]
theorem dNe_int (a b : Int) : dNe (.int a) (.int b) = some (.bl (!decide (a = b))) := by
  have h : ∀ z : Int, shD (.int z) = true := fun z => rfl
  have e : eqD (.int a) (.int b) = decide (a = b) := by
    simp only [eqD, toP, PyData.eqv]
    first | rfl | (rw [Bool.eq_iff_iff]; simp)
  simp [dNe, h, e]
theorem gcd_loop {i j : Nat} (hij : i ≠ j) : ∀ (n a b : Nat) (ρ : Ev), ρ[i]? = some (.dat (.int a)) → ρ[j]? = some (.dat (.int b)) → b < n →
    whL (fTest (fBin dNe (fVar j) (fC (.int 0)))) (bPar [i, j] (mDat (fVar j) (mDat (fBin dMod (fVar i) (fVar j)) mNil))) n ρ = some (.nx, (ρ.set i (.dat (.int (Nat.gcd a b)))).set j (.dat (.int 0)))
  | 0, _, _, _, _, _, h => absurd h (Nat.not_lt_zero _)
  | n + 1, a, 0, ρ, hi, hj, h => by
    have e : (ρ.set i (.dat (.int (Nat.gcd a 0)))).set j (.dat (.int 0)) = ρ := by
      rw [Nat.gcd_zero_right]
      have e1 : ρ.set i (.dat (.int a)) = ρ := by
        apply List.ext_getElem?
        intro k
        rw [List.getElem?_set]
        split
        · rename_i hk; subst hk; rw [hi]; split
          · rfl
          · rename_i hk; have := (List.getElem?_eq_some_iff.mp hi).1; omega
        · rfl
      rw [e1]
      apply List.ext_getElem?
      intro k
      rw [List.getElem?_set]
      split
      · rename_i hk; subst hk; rw [hj]; split
        · rfl
        · rename_i hk; have := (List.getElem?_eq_some_iff.mp hj).1; omega
      · rfl
    rw [e]
    simp only [whL, fTest, fBin, fVar, hj, fC, Opd.get, dNe_int]
    simp
  | n + 1, a, b + 1, ρ, hi, hj, h => by
    have hne : decide (((b + 1 : Nat) : Int) = 0) = false := decide_eq_false (by omega)
    have hm : ((a : Int) % ((b + 1 : Nat) : Int)) = ((a % (b + 1) : Nat) : Int) := (Int.natCast_emod a (b + 1)).symm
    have hp : (0 : Int) < ((b + 1 : Nat) : Int) := by omega
    have IH := gcd_loop hij n (b + 1) (a % (b + 1)) ((ρ.set i (.dat (.int ((b + 1 : Nat) : Int)))).set j (.dat (.int ((a % (b + 1) : Nat) : Int)))) (by
      rw [List.getElem?_set_ne (Ne.symm hij), List.getElem?_set_self (List.getElem?_eq_some_iff.mp hi).1]) (by
      rw [List.getElem?_set_self]; rw [List.length_set]; exact (List.getElem?_eq_some_iff.mp hj).1) (by have h2 : a % (b + 1) < b + 1 := Nat.mod_lt a (Nat.succ_pos b); omega)
    have eg : Nat.gcd (b + 1) (a % (b + 1)) = Nat.gcd a (b + 1) := by rw [Nat.gcd_comm a (b + 1), Nat.gcd_rec (b + 1) a, Nat.gcd_comm]
    rw [eg] at IH
    simp only [whL, fTest, fBin, fVar, hi, hj, fC, Opd.get, dNe_int, hne, bPar, mDat, mNil, dMod, if_pos hp, hm, setKs, Bool.not_false]
    rw [IH]
    congr 2
    rw [List.set_comm _ _ hij, List.set_set, List.set_comm _ _ (Ne.symm hij), List.set_set]
end SC

set_option Elab.async false
set_option linter.all false
set_option maxRecDepth 100000
namespace SC
open PySem PySem.Spec PyProof.Rows L2

/-! ### new lists, plain -/
theorem back_wipe {ρ1 ρ2 : Ev} {own : List Nat} (h : wipeE ρ2 own = wipeE ρ1 own) : backE ρ1 ρ2 own = ρ1 := by
  have hl : ρ1.length = ρ2.length := by
    have := congrArg List.length h
    rw [wipeE_length, wipeE_length] at this
    exact this.symm
  apply List.ext_getElem?
  intro i
  rw [backE_get ρ1 ρ2 hl]
  split
  · rfl
  · rename_i hi
    have := congrArg (fun l => l[i]?) h
    simp only [wipeE_get, if_neg hi] at this
    exact this
/-- with a state: an invariant of the items so far and the slots -/
theorem lc_inv {own : List Nat} {p : Pt} {os : List Opd} {es : List D} {ft : FT} {fe : FE} (I : List D → Ev → Prop) (hos : ∀ ρ, getAll ρ os = some es) :
    ∀ (ds : List D) (acc : List D) (ρ : Ev), (∀ k d, ds[k]? = some d → ∀ acc' ρ', acc'.length = acc.length + k → I acc' ρ' → ∃ ρa ρb y ρc, bindPt p d (wipeE ρ' own) = some ρa ∧ ft ρa = some (true, ρb) ∧ fe ρb = some (.dat y, ρc) ∧ I (acc' ++ [y]) ρc) →
      I acc ρ → ∃ out ρ', lcLoop own p os es ft fe ds ρ acc = some (out, ρ') ∧ I out ρ' ∧ out.length = acc.length + ds.length
  | [], acc, ρ, _, h => ⟨acc, ρ, by simp only [lcLoop, hos, if_true], h, rfl⟩
  | d :: ds, acc, ρ, st, h => by
    obtain ⟨ρa, ρb, y, ρc, e1, e2, e3, h1⟩ := st 0 d rfl acc ρ rfl h
    obtain ⟨out, ρ', e, h2, l2⟩ := lc_inv I hos ds (acc ++ [y]) ρc (fun k d' hk acc' ρ' hl => st (k + 1) d' (by simpa using hk) acc' ρ' (by rw [hl, List.length_append]; simp; omega)) h1
    refine ⟨out, ρ', ?_, h2, by rw [l2, List.length_append]; simp; omega⟩
    simp only [lcLoop, hos, if_true, e1, e2, e3]
    exact e
/-- .. of pure items, with a filter -/
theorem lc_fm {own : List Nat} {p : Pt} {os : List Opd} {es : List D} {ft : FT} {fe : FE} (hos : ∀ ρ, getAll ρ os = some es) (b : D → Bool) (h : D → D) (ρw : Ev) :
    ∀ (ds : List D) (acc : List D) (ρ : Ev), (∀ d ∈ ds, ∃ ρa ρb, bindPt p d ρw = some ρa ∧ ft ρa = some (b d, ρb) ∧ (b d = false → wipeE ρb own = ρw) ∧ (b d = true → ∃ ρc, fe ρb = some (.dat (h d), ρc) ∧ wipeE ρc own = ρw)) →
      wipeE ρ own = ρw → ∃ ρ', lcLoop own p os es ft fe ds ρ acc = some (acc ++ (ds.filter b).map h, ρ') ∧ wipeE ρ' own = ρw
  | [], acc, ρ, _, hw => ⟨ρ, by simp [lcLoop, hos], hw⟩
  | d :: ds, acc, ρ, st, hw => by
    obtain ⟨ρa, ρb, e1, e2, e3, e4⟩ := st d List.mem_cons_self
    cases hb : b d with
    | false =>
      obtain ⟨ρ', e, w⟩ := lc_fm hos b h ρw ds acc ρb (fun d' hd => st d' (List.mem_cons_of_mem _ hd)) (e3 hb)
      refine ⟨ρ', ?_, w⟩
      rw [hb] at e2
      simp only [lcLoop, hos, if_true, hw, e1, e2]
      rw [e, List.filter_cons, hb]
      rfl
    | true =>
      obtain ⟨ρc, e5, w5⟩ := e4 hb
      obtain ⟨ρ', e, w⟩ := lc_fm hos b h ρw ds (acc ++ [h d]) ρc (fun d' hd => st d' (List.mem_cons_of_mem _ hd)) w5
      refine ⟨ρ', ?_, w⟩
      rw [hb] at e2
      simp only [lcLoop, hos, if_true, hw, e1, e2, e5]
      rw [e, List.filter_cons, hb]
      simp
theorem nLc_fm {own : List Nat} {p : Pt} {src : FS} {ft : FT} {fe : FE} {ρ : Ev} {ds es : List D} {os : List Opd} (b : D → Bool) (h : D → D) (hs : src ρ = some (ds, os, ρ)) (hos : ∀ ρ, getAll ρ os = some es) (hl : ds.length ≤ sLn)
    (st : ∀ d ∈ ds, ∃ ρa ρb, bindPt p d (wipeE ρ own) = some ρa ∧ ft ρa = some (b d, ρb) ∧ (b d = false → wipeE ρb own = wipeE ρ own) ∧ (b d = true → ∃ ρc, fe ρb = some (.dat (h d), ρc) ∧ wipeE ρc own = wipeE ρ own)) :
    nLc own p src ft fe ρ = some ((ds.filter b).map h, ρ) := by
  obtain ⟨ρ', e, w⟩ := lc_fm hos b h (wipeE ρ own) ds [] ρ st rfl
  simp only [nLc, hs, hos, if_pos hl, e, back_wipe w, List.nil_append]
theorem nLc_map {own : List Nat} {p : Pt} {src : FS} {fe : FE} {ρ : Ev} {ds es : List D} {os : List Opd} (h : D → D) (hs : src ρ = some (ds, os, ρ)) (hos : ∀ ρ, getAll ρ os = some es) (hl : ds.length ≤ sLn)
    (st : ∀ d ∈ ds, ∃ ρa, bindPt p d (wipeE ρ own) = some ρa ∧ ∃ ρc, fe ρa = some (.dat (h d), ρc) ∧ wipeE ρc own = wipeE ρ own) :
    nLc own p src fYes fe ρ = some (ds.map h, ρ) := by
  have := nLc_fm (own := own) (p := p) (src := src) (ft := fYes) (fe := fe) (fun _ => true) h hs hos hl (fun d hd => by
    obtain ⟨ρa, e1, r⟩ := st d hd
    exact ⟨ρa, ρa, e1, rfl, fun z => absurd z (by decide), fun _ => r⟩)
  rw [List.filter_eq_self.mpr (fun _ _ => rfl)] at this
  exact this
/-- .. by places: the k-th item -/
theorem lc_ix {own : List Nat} {p : Pt} {os : List Opd} {es : List D} {fe : FE} (hos : ∀ ρ, getAll ρ os = some es) (ρw : Ev) :
    ∀ (ds out : List D) (acc : List D) (ρ : Ev), ds.length = out.length → (∀ (k : Nat) (d y : D), ds[k]? = some d → out[k]? = some y → ∃ ρa ρc, bindPt p d ρw = some ρa ∧ fe ρa = some (.dat y, ρc) ∧ wipeE ρc own = ρw) →
      wipeE ρ own = ρw → ∃ ρ', lcLoop own p os es fYes fe ds ρ acc = some (acc ++ out, ρ') ∧ wipeE ρ' own = ρw
  | [], [], acc, ρ, _, _, hw => ⟨ρ, by simp [lcLoop, hos], hw⟩
  | d :: ds, y :: out, acc, ρ, hl, st, hw => by
    obtain ⟨ρa, ρc, e1, e2, e3⟩ := st 0 d y rfl rfl
    obtain ⟨ρ', e, w⟩ := lc_ix hos ρw ds out (acc ++ [y]) ρc (by simpa using hl) (fun k d' y' h1 h2 => st (k + 1) d' y' (by simpa using h1) (by simpa using h2)) e3
    refine ⟨ρ', ?_, w⟩
    simp only [lcLoop, hos, if_true, hw, e1, fYes, e2]
    rw [e]
    simp
  | [], _ :: _, _, _, hl, _, _ => by simp at hl
  | _ :: _, [], _, _, hl, _, _ => by simp at hl
theorem nLc_ix {own : List Nat} {p : Pt} {src : FS} {fe : FE} {ρ : Ev} {ds es : List D} {os : List Opd} (out : List D) (hs : src ρ = some (ds, os, ρ)) (hos : ∀ ρ, getAll ρ os = some es) (hl : ds.length ≤ sLn) (ho : ds.length = out.length)
    (st : ∀ (k : Nat) (d y : D), ds[k]? = some d → out[k]? = some y → ∃ ρa ρc, bindPt p d (wipeE ρ own) = some ρa ∧ fe ρa = some (.dat y, ρc) ∧ wipeE ρc own = wipeE ρ own) :
    nLc own p src fYes fe ρ = some (out, ρ) := by
  obtain ⟨ρ', e, w⟩ := lc_ix hos (wipeE ρ own) ds out [] ρ ho st rfl
  simp only [nLc, hs, hos, if_pos hl, e, back_wipe w, List.nil_append]
theorem getAll_dat (d : D) (ρ : Ev) : getAll ρ [.dat d] = some [d] := rfl
theorem getAll_dat2 (d e : D) (ρ : Ev) : getAll ρ [.dat d, .dat e] = some [d, e] := rfl
/-- for over data: an invariant by places -/
theorem for_inv {p : Pt} {fb : FB} (I : Nat → Ev → Prop) : ∀ (ds : List D) (n : Nat) (ρ : Ev), (∀ k d, ds[k]? = some d → ∀ ρ, I (n + k) ρ → ∃ ρa ρb, bindPt p d ρ = some ρa ∧ fb ρa = some (.nx, ρb) ∧ I (n + k + 1) ρb) → I n ρ →
    ∃ ρ', forL p fb ds ρ = some (.nx, ρ') ∧ I (n + ds.length) ρ'
  | [], n, ρ, _, h => ⟨ρ, rfl, h⟩
  | d :: ds, n, ρ, st, h => by
    obtain ⟨ρa, ρb, e1, e2, h1⟩ := st 0 d rfl ρ h
    obtain ⟨ρ', e, h2⟩ := for_inv I ds (n + 1) ρb (fun k d' hk ρ hI => by
      have := st (k + 1) d' (by simpa using hk) ρ (by rw [show n + (k + 1) = n + 1 + k by omega]; exact hI)
      rw [show n + (k + 1) + 1 = n + 1 + k + 1 by omega] at this
      exact this) h1
    refine ⟨ρ', ?_, by rw [show n + (d :: ds).length = n + 1 + ds.length by simp; omega]; exact h2⟩
    simp only [forL, e1, e2]
    exact e
theorem forE {p : Pt} {src : FS} {fb : FB} {ρ ρ1 : Ev} {ds : List D} {os : List Opd} {es : List D} {r : Option (Fw × Ev)} (hs : src ρ = some (ds, os, ρ1)) (ho : datAll os = some es) (h : forL p fb ds ρ1 = r) : bFor p src fb ρ = r := by
  simp only [bFor, hs, ho, h]
theorem rng_get (n k : Nat) (d : D) (h : (rangeD 0 n)[k]? = some d) : d = .int (k : Int) ∧ k < n := by
  unfold rangeD at h
  rw [List.getElem?_map] at h
  obtain ⟨i, h1, h2⟩ := Option.map_eq_some_iff.mp h
  obtain ⟨h3, h4⟩ := List.getElem?_eq_some_iff.mp h1
  rw [List.length_range] at h3
  rw [List.getElem_range] at h4
  subst h4
  rw [← h2, Int.zero_add]
  exact ⟨rfl, h3⟩
theorem rng_len (n : Nat) : (rangeD 0 n).length = n := by simp [rangeD]
theorem sRng_ok {fa : FE} {ρ : Ev} {n : Nat} (h : fa ρ = some (.dat (.int (n : Int)), ρ)) (hn : n ≤ 1000000000) : sRng (fCons fa fNil) ρ = some (rangeD 0 n, [], ρ) := by
  simp only [sRng, fCons, fNil, h]
  rw [if_pos (by omega), Int.toNat_natCast]
theorem idx_nat {ds : List D} {k : Nat} {d : D} (h : ds[k]? = some d) : dIdx (.lst ds) (.int (k : Int)) = some d := by
  have hk := (List.getElem?_eq_some_iff.mp h).1
  show atI ds (k : Int) = some d
  unfold atI ixN
  rw [if_pos (by omega), if_pos (by omega), Int.toNat_natCast]
  exact h
theorem idx_natT {ds : List D} {k : Nat} {d : D} (h : ds[k]? = some d) : dIdx (.tup ds) (.int (k : Int)) = some d := idx_nat h
theorem ixN_nat {n k : Nat} (h : k < n) : ixN n (k : Int) = some k := by
  unfold ixN
  rw [if_pos (by omega), if_pos (by omega), Int.toNat_natCast]
theorem sum_map : ∀ (ws : List Nat), (ws.map fun (w : Nat) => (w : Int)).sum = ((ws.sum : Nat) : Int)
  | [] => rfl
  | w :: ws => by simp [sum_map ws]
theorem allI_nat (ws : List Nat) : allI (ws.map fun (w : Nat) => D.int (w : Int)) = some (ws.map fun (w : Nat) => (w : Int)) := by
  have := allI_map (ws.map fun (w : Nat) => (w : Int))
  rw [List.map_map] at this
  exact this
theorem dSum_lst (ws : List Nat) : dSum [.lst (ws.map fun (w : Nat) => D.int (w : Int))] = some (.int (ws.sum : Nat)) := by
  simp only [dSum, allI_nat, Option.map_some, sum_map]
theorem dSum_tup (ws : List Nat) : dSum [.tup (ws.map fun (w : Nat) => D.int (w : Int))] = some (.int (ws.sum : Nat)) := by
  simp only [dSum, allI_nat, Option.map_some, sum_map]
theorem cut_lo {xs : List D} {k : Nat} (h : k ≤ xs.length) : cutD xs none (some (k : Int)) = xs.take k := by
  unfold cutD
  rw [HT.sIx_none, HT.sIx_nat, Nat.min_eq_left h]
  simp
theorem cut_hi {xs : List D} {k : Nat} (h : k ≤ xs.length) : cutD xs (some (k : Int)) none = xs.drop k := by
  unfold cutD
  rw [HT.sIx_none, HT.sIx_nat, Nat.min_eq_left h]
  rw [List.take_of_length_le (by simp)]
theorem flD_int (ws : List Nat) : (ws.map fun (w : Nat) => D.int (w : Int)).all flD = true := by simp [flD]
theorem eqD_int (a b : Nat) : eqD (.int (a : Int)) (.int (b : Int)) = decide (a = b) := by
  simp only [eqD, toP, PyData.eqv]
  show decide ((a : Int) = (b : Int)) = _
  by_cases h : a = b
  · simp [h]
  · rw [decide_eq_false h, decide_eq_false (by omega)]
theorem inD_nat (a : Nat) : ∀ ws : List Nat, inD (.int (a : Int)) (ws.map fun (w : Nat) => D.int (w : Int)) = decide (a ∈ ws)
  | [] => by simp [inD]
  | w :: ws => by
    have ih := inD_nat a ws
    unfold inD at ih ⊢
    rw [List.map_cons, List.any_cons, ih, eqD_int]
    by_cases h : w = a
    · simp [h]
    · have h2 : ¬ a = w := fun e => h e.symm
      simp [h, h2]
theorem dIn_lst (a : Nat) (ws : List Nat) : dIn (.int (a : Int)) (.lst (ws.map fun (w : Nat) => D.int (w : Int))) = some (.bl (decide (a ∈ ws))) := by
  have h : (flD (.int (a : Int)) && (ws.map fun (w : Nat) => D.int (w : Int)).all flD) = true := by rw [flD_int]; rfl
  simp only [dIn, if_pos h, inD_nat]
theorem dIn_tup (a : Nat) (ws : List Nat) : dIn (.int (a : Int)) (.tup (ws.map fun (w : Nat) => D.int (w : Int))) = some (.bl (decide (a ∈ ws))) := by
  have h : (flD (.int (a : Int)) && (ws.map fun (w : Nat) => D.int (w : Int)).all flD) = true := by rw [flD_int]; rfl
  simp only [dIn, if_pos h, inD_nat]
theorem dNotIn_tup (a : Nat) (ws : List Nat) : dNotIn (.int (a : Int)) (.tup (ws.map fun (w : Nat) => D.int (w : Int))) = some (.bl (!decide (a ∈ ws))) := by
  have h : (flD (.int (a : Int)) && (ws.map fun (w : Nat) => D.int (w : Int)).all flD) = true := by rw [flD_int]; rfl
  simp only [dNotIn, if_pos h, inD_nat]
end SC

set_option Elab.async false
set_option linter.all false
set_option maxRecDepth 100000
namespace SC
open PySem PySem.Spec PyProof.Rows L2

/-! ### data that can be told and compared -/
def Ok7 (x : Str) : Prop := ∀ c ∈ TL.tl x, c < 0x110000
theorem Ok7.cat {x y : Str} (h : Ok7 x) (k : Ok7 y) : Ok7 (x ++ y) := fun c hc => by
  rw [TL.tl_append] at hc
  rcases List.mem_append.mp hc with z | z
  · exact h c z
  · exact k c z
theorem Ok7.strOk {x : Str} (h : Ok7 x) : PyData.strOk x = true := by
  unfold PyData.strOk
  rw [← Array.all_toList, List.all_eq_true]
  exact fun c hc => decide_eq_true (h c hc)
theorem ok7_num (n : Nat) : Ok7 (toString (n : Int) : Str) := fun c hc => by
  have e : TL.tl (toString (n : Int) : Str) = TL.numL n := TL.tl_num n
  rw [e] at hc
  have := TL.numL_digits n c hc
  omega
theorem ok7_dec {x : Str} (h : (TL.tl x).all (· < 0x110000) = true) : Ok7 x := fun c hc => of_decide_eq_true (List.all_eq_true.mp h c hc)
theorem ok7_join {sep : Str} (hs : Ok7 sep) : ∀ ts : List Str, (∀ t ∈ ts, Ok7 t) → Ok7 (Str.join sep ts)
  | [], _ => fun c hc => by simp [Str.join, TL.tl, Str.empty] at hc
  | [t], h => h t List.mem_cons_self
  | t :: u :: r, h => ((h t List.mem_cons_self).cat hs).cat (ok7_join hs (u :: r) fun z hz => h z (List.mem_cons_of_mem _ hz))
theorem ok7_from : ∀ (ts : List Str) (k : Nat) (acc : Str), Ok7 acc → (∀ t ∈ ts, Ok7 t) → Ok7 (textFrom k acc ts)
  | [], _, _, h, _ => h
  | t :: ts, k, acc, h, g => ok7_from ts (k + 1) _ ((h.cat (by split <;> exact ok7_dec (by decide +kernel))).cat (g t List.mem_cons_self)) fun z hz => g z (List.mem_cons_of_mem _ hz)
theorem from_len {A : Nat} : ∀ (ts : List Str) (k : Nat) (acc : Str), (∀ t ∈ ts, t.length ≤ A) → (textFrom k acc ts).length ≤ acc.length + ts.length * (A + 2)
  | [], _, acc, _ => by simp [textFrom]
  | t :: ts, k, acc, h => by
    have ih := from_len ts (k + 1) (acc ++ (if k > 0 then ", " else "" : String) ++ t) fun z hz => h z (List.mem_cons_of_mem _ hz)
    have h1 := h t List.mem_cons_self
    have e : (acc ++ (if k > 0 then ", " else "" : String) ++ t).length ≤ acc.length + 2 + t.length := by
      rw [strLen_append, strLen_append]
      have : ((if k > 0 then ", " else "" : String) : Str).length ≤ 2 := by split <;> decide
      omega
    simp only [textFrom, List.length_cons, Nat.add_mul, Nat.one_mul]
    omega
theorem join_len {A : Nat} {sep : Str} (hs : sep.length = 2) : ∀ (ts : List Str), (∀ t ∈ ts, t.length ≤ A) → (Str.join sep ts).length ≤ ts.length * (A + 2)
  | [], _ => by simp [Str.join, Str.empty, Str.length]
  | [t], h => by
    have := h t List.mem_cons_self
    simp only [Str.join, List.length_cons, List.length_nil]
    omega
  | t :: u :: r, h => by
    have ih := join_len hs (u :: r) fun z hz => h z (List.mem_cons_of_mem _ hz)
    have h1 := h t List.mem_cons_self
    show (t ++ sep ++ Str.join sep (u :: r)).length ≤ _
    rw [strLen_append, strLen_append, hs]
    simp only [List.length_cons, Nat.add_mul, Nat.one_mul] at ih ⊢
    omega
structure TmP (k w : Nat) (p : PyData) : Prop where
  lay : p.canLay0 = true
  dep : p.depth ≤ k
  sho : p.showable = true
  nod : p.hasDict = false
  len : p.shown.length ≤ w
  ok : Ok7 p.shown
def Tm (k w : Nat) (d : D) : Prop := ∃ p, toP d = some p ∧ TmP k w p
def TmPs (k w : Nat) (ps : List PyData) : Prop := ∀ p ∈ ps, TmP k w p
theorem shownAll_eq : ∀ ps : List PyData, PyData.shownAll ps = ps.map PyData.shown
  | [] => rfl
  | p :: ps => by simp [PyData.shownAll, shownAll_eq ps]
theorem tmPs {k w : Nat} : ∀ {ps : List PyData}, TmPs k w ps → PyData.canLayAll0 ps = true ∧ PyData.depthAll ps ≤ k ∧ PyData.showableAll ps = true ∧ PyData.hasDictAll ps = false
  | [], _ => ⟨rfl, Nat.zero_le _, rfl, rfl⟩
  | p :: ps, h => by
    obtain ⟨a, b, c, d⟩ := tmPs (ps := ps) fun q hq => h q (List.mem_cons_of_mem _ hq)
    have h1 := h p List.mem_cons_self
    refine ⟨by simp [PyData.canLayAll0, h1.lay, a], ?_, by simp [PyData.showableAll, h1.sho, c], by simp [PyData.hasDictAll, h1.nod, d]⟩
    simp only [PyData.depthAll]
    exact Nat.max_le.mpr ⟨h1.dep, b⟩
theorem shown_of {k w : Nat} {ps : List PyData} (h : TmPs k w ps) : (∀ t ∈ PyData.shownAll ps, t.length ≤ w) ∧ (∀ t ∈ PyData.shownAll ps, Ok7 t) ∧ (PyData.shownAll ps).length = ps.length := by
  rw [shownAll_eq]
  refine ⟨fun t ht => ?_, fun t ht => ?_, List.length_map _⟩
  · obtain ⟨p, hp, rfl⟩ := List.mem_map.mp ht
    exact (h p hp).len
  · obtain ⟨p, hp, rfl⟩ := List.mem_map.mp ht
    exact (h p hp).ok
theorem tmP_tup {k w : Nat} {ps : List PyData} (h : TmPs k w ps) : TmP (k + 1) (ps.length * (w + 2) + 3) (.tuple ps) := by
  obtain ⟨a, b, c, d⟩ := tmPs h
  obtain ⟨l, o, n⟩ := shown_of h
  refine ⟨by simp only [PyData.canLay0]; exact a, by simp only [PyData.depth]; omega, by simp only [PyData.showable]; exact c, by simp only [PyData.hasDict]; exact d, ?_, ?_⟩
  · simp only [PyData.shown, tupleText]
    have h1 := join_len (sep := (", " : String)) (by decide) _ l
    rw [n] at h1
    have h2 : ((if (PyData.shownAll ps).length == 1 then ",)" else ")" : String) : Str).length ≤ 2 := by split <;> decide
    have h3 : (("(" : String) : Str).length = 1 := by decide
    rw [strLen_append, strLen_append, h3]
    omega
  · simp only [PyData.shown, tupleText]
    exact ((ok7_dec (by decide +kernel)).cat (ok7_join (ok7_dec (by decide +kernel)) _ o)).cat (by split <;> exact ok7_dec (by decide +kernel))
theorem tmP_lst {k w : Nat} {ps : List PyData} (h : TmPs k w ps) : TmP (k + 1) (ps.length * (w + 2) + 3) (.list ps) := by
  obtain ⟨a, b, c, d⟩ := tmPs h
  obtain ⟨l, o, n⟩ := shown_of h
  refine ⟨by simp only [PyData.canLay0]; exact a, by simp only [PyData.depth]; omega, by simp only [PyData.showable]; exact c, by simp only [PyData.hasDict]; exact d, ?_, ?_⟩
  · simp only [PyData.shown, listText]
    have h1 := from_len _ 0 ("[" : String) l
    rw [n] at h1
    have h3 : (("[" : String) : Str).length = 1 := by decide
    have h4 : (("]" : String) : Str).length = 1 := by decide
    rw [strLen_append, h4]
    omega
  · simp only [PyData.shown, listText]
    exact (ok7_from _ 0 _ (ok7_dec (by decide +kernel)) o).cat (ok7_dec (by decide +kernel))
theorem tm_nat {n L : Nat} (h : n < 2 ^ L) (hL : L ≤ 1900) : Tm 0 640 (.int (n : Int)) := by
  refine ⟨.int n, by simp only [toP], by simp only [PyData.canLay0], by simp only [PyData.depth]; exact Nat.le_refl _, ?_, by simp only [PyData.hasDict], ?_, ?_⟩
  · simp only [PyData.showable, Int.natAbs_natCast]
    refine decide_eq_true ?_
    by_cases h0 : n = 0
    · subst h0; decide
    · have := (Nat.log2_lt h0).mpr h
      omega
  · simp only [PyData.shown]
    have h2 : n < 2 ^ 1900 := Nat.lt_of_lt_of_le h (Nat.pow_le_pow_right (by decide) hL)
    have h3 : (2 : Nat) ^ 1900 ≤ 10 ^ 640 := by decide +kernel
    have h4 : n < 10 ^ 640 := Nat.lt_of_lt_of_le h2 h3
    have e := TL.tl_num n
    have := TL.numL_len (k := 640) (by decide) h4
    show (Str.ofString (toString (n : Int))).length ≤ 640
    rw [TL.len_tl, e]
    exact this
  · simp only [PyData.shown]
    exact ok7_num n
theorem Tm.mono {k w k' w' : Nat} {d : D} (h : Tm k w d) (hk : k ≤ k') (hw : w ≤ w') : Tm k' w' d := by
  obtain ⟨p, e, a, b, c, d', l, o⟩ := h
  exact ⟨p, e, a, Nat.le_trans b hk, c, d', Nat.le_trans l hw, o⟩
theorem tms {k w : Nat} : ∀ {ds : List D}, (∀ d ∈ ds, Tm k w d) → ∃ ps, toPs ds = some ps ∧ TmPs k w ps ∧ ps.length = ds.length
  | [], _ => ⟨[], by simp only [toPs], (fun _ h => nomatch h), rfl⟩
  | d :: ds, h => by
    obtain ⟨p, e, hp⟩ := h d List.mem_cons_self
    obtain ⟨ps, e2, h2, l2⟩ := tms (ds := ds) fun x hx => h x (List.mem_cons_of_mem _ hx)
    refine ⟨p :: ps, by simp only [toPs, e, e2], fun q hq => ?_, by simp [l2]⟩
    rcases List.mem_cons.mp hq with rfl | z
    · exact hp
    · exact h2 q z
theorem tm_tup {k w : Nat} {ds : List D} (h : ∀ d ∈ ds, Tm k w d) : Tm (k + 1) (ds.length * (w + 2) + 3) (.tup ds) := by
  obtain ⟨ps, e, h2, l⟩ := tms h
  refine ⟨.tuple ps, by simp only [toP, e, Option.map_some], ?_⟩
  rw [← l]
  exact tmP_tup h2
theorem tm_lst {k w : Nat} {ds : List D} (h : ∀ d ∈ ds, Tm k w d) : Tm (k + 1) (ds.length * (w + 2) + 3) (.lst ds) := by
  obtain ⟨ps, e, h2, l⟩ := tms h
  refine ⟨.list ps, by simp only [toP, e, Option.map_some], ?_⟩
  rw [← l]
  exact tmP_lst h2
theorem Tm.sh {k w : Nat} {d : D} (h : Tm k w d) (hk : k ≤ 60) : shD d = true := by
  obtain ⟨p, e, t⟩ := h
  unfold shD
  rw [e]
  show SeqAt.shaped p = true
  unfold SeqAt.shaped
  rw [t.lay, decide_eq_true (show p.depth ≤ 64 by have := t.dep; omega)]
  rfl
/-- repr: a text, fit to be compared -/
theorem repr_tup {k w : Nat} {ds : List D} (h : Tm k w (.tup ds)) (hk : k ≤ 60) (hw : w ≤ sLn) : ∃ z : Str, dRepr [.tup ds] = some (.str z) ∧ shD (.str z) = true := by
  obtain ⟨p, e, t⟩ := h
  refine ⟨p.shown, ?_, ?_⟩
  · have c : (p.showable && (!p.hasDict && (decide (p.depth ≤ 60) && decide (p.shown.length ≤ sLn)))) = true := by
      rw [t.sho, t.nod, decide_eq_true (Nat.le_trans t.dep hk), decide_eq_true (Nat.le_trans t.len hw)] <;> rfl
    simp only [dRepr, e, if_pos c]
  · unfold shD
    simp only [toP]
    unfold SeqAt.shaped
    simp only [PyData.canLay0, t.ok.strOk, PyData.depth]
    rfl
theorem repr_lst {k w : Nat} {ds : List D} (h : Tm k w (.lst ds)) (hk : k ≤ 60) (hw : w ≤ sLn) : ∃ z : Str, dRepr [.lst ds] = some (.str z) ∧ shD (.str z) = true := by
  obtain ⟨p, e, t⟩ := h
  refine ⟨p.shown, ?_, ?_⟩
  · have c : (p.showable && (!p.hasDict && (decide (p.depth ≤ 60) && decide (p.shown.length ≤ sLn)))) = true := by
      rw [t.sho, t.nod, decide_eq_true (Nat.le_trans t.dep hk), decide_eq_true (Nat.le_trans t.len hw)] <;> rfl
    simp only [dRepr, e, if_pos c]
  · unfold shD
    simp only [toP]
    unfold SeqAt.shaped
    simp only [PyData.canLay0, t.ok.strOk, PyData.depth]
    rfl
theorem eq_str {z : Str} (h : shD (.str z) = true) : dEq (.str z) (.str z) = some (.bl true) := by
  have e : eqD (.str z) (.str z) = true := by
    simp only [eqD, toP, PyData.eqv]
    exact beq_self_eq_true z
  simp only [dEq, h, e]
  rfl
end SC

set_option Elab.async false
set_option linter.all false
set_option maxRecDepth 100000
namespace SC
open PySem PySem.Spec PyProof.Rows L2

/-! ### signed numbers, lists of them -/
def SzI (L : Nat) (x : Int) : Prop := x.natAbs < 2 ^ L
theorem SzI.mono {L M : Nat} {x : Int} (h : SzI L x) (k : L ≤ M) : SzI M x := Nat.lt_of_lt_of_le h (Nat.pow_le_pow_right (by decide) k)
theorem SzI.mul {L M : Nat} {x y : Int} (h : SzI L x) (k : SzI M y) : SzI (L + M) (x * y) := by
  unfold SzI at *
  rw [Int.natAbs_mul, Nat.pow_add]
  exact Nat.mul_lt_mul'' h k
theorem SzI.add {L : Nat} {x y : Int} (h : SzI L x) (k : SzI L y) : SzI (L + 1) (x + y) := by
  unfold SzI at *
  have := Int.natAbs_add_le x y
  rw [Nat.pow_succ]
  omega
theorem SzI.sub {L : Nat} {x y : Int} (h : SzI L x) (k : SzI L y) : SzI (L + 1) (x - y) := by
  unfold SzI at *
  have := Int.natAbs_sub_le x y
  rw [Nat.pow_succ]
  omega
theorem SzI.neg {L : Nat} {x : Int} (h : SzI L x) : SzI L (-x) := by
  unfold SzI at *
  rw [Int.natAbs_neg]
  exact h
theorem log2_leI {L a : Nat} (h : a < 2 ^ L) : a.log2 ≤ L := by
  by_cases ha : a = 0
  · subst ha; exact Nat.zero_le _
  · exact Nat.le_of_lt ((Nat.log2_lt ha).mpr h)
theorem mulI {L M : Nat} {x y : Int} (h : SzI L x) (k : SzI M y) (hl : L + M ≤ 999999) : dMul (.int x) (.int y) = some (.int (x * y)) := by
  have h1 := log2_leI h
  have h2 := log2_leI k
  have : x.natAbs.log2 + y.natAbs.log2 < 1000000 := by omega
  simp only [dMul, if_pos this]
def iL (xs : List Int) : List D := xs.map D.int
theorem iL_len (xs : List Int) : (iL xs).length = xs.length := List.length_map _
theorem iL_get {xs : List Int} {i : Nat} {x : Int} (h : xs[i]? = some x) : (iL xs)[i]? = some (.int x) := by rw [iL, List.getElem?_map, h]; rfl
def rI (xs : List Int) : D := .lst (iL xs)
def matD (M : List (List Int)) : D := .lst (M.map rI)
/-- shapes that can be compared -/
structure LayP (k : Nat) (p : PyData) : Prop where
  lay : p.canLay0 = true
  dep : p.depth ≤ k
theorem lay_all {k : Nat} : ∀ {ps : List PyData}, (∀ p ∈ ps, LayP k p) → PyData.canLayAll0 ps = true ∧ PyData.depthAll ps ≤ k
  | [], _ => ⟨rfl, Nat.zero_le _⟩
  | p :: ps, h => by
    obtain ⟨a, b⟩ := lay_all (ps := ps) fun q hq => h q (List.mem_cons_of_mem _ hq)
    have h1 := h p List.mem_cons_self
    refine ⟨by simp [PyData.canLayAll0, h1.lay, a], ?_⟩
    simp only [PyData.depthAll]
    exact Nat.max_le.mpr ⟨h1.dep, b⟩
theorem iL_p : ∀ xs : List Int, ∃ ps, toPs (iL xs) = some ps ∧ (∀ p ∈ ps, LayP 0 p) ∧ ps.length = xs.length
  | [] => ⟨[], by simp only [iL, List.map_nil, toPs], (fun _ h => nomatch h), rfl⟩
  | x :: xs => by
    obtain ⟨ps, e, h, l⟩ := iL_p xs
    refine ⟨.int x :: ps, ?_, fun q hq => ?_, by simp [l]⟩
    · show toPs (.int x :: iL xs) = _
      simp only [toPs, toP, e]
    · rcases List.mem_cons.mp hq with rfl | z
      · exact ⟨by simp only [PyData.canLay0], by simp only [PyData.depth]; exact Nat.le_refl _⟩
      · exact h q z
theorem mat_p : ∀ M : List (List Int), ∃ ps, toPs (M.map rI) = some ps ∧ (∀ p ∈ ps, LayP 1 p) ∧ ps.length = M.length
  | [] => ⟨[], by simp only [List.map_nil, toPs], (fun _ h => nomatch h), rfl⟩
  | r :: M => by
    obtain ⟨qs, e1, h1, _⟩ := iL_p r
    obtain ⟨ps, e, h, l⟩ := mat_p M
    refine ⟨.list qs :: ps, ?_, fun q hq => ?_, by simp [l]⟩
    · simp only [List.map_cons, toPs, rI, toP, e1, Option.map_some]
      rw [show (M.map rI) = M.map rI from rfl, e]
    · rcases List.mem_cons.mp hq with rfl | z
      · obtain ⟨a, b⟩ := lay_all h1
        exact ⟨by simp only [PyData.canLay0]; exact a, by simp only [PyData.depth]; omega⟩
      · exact h q z
theorem eq_matnil (M : List (List Int)) : dEq (matD M) (.lst []) = some (.bl (decide (M = []))) := by
  obtain ⟨ps, e, h, l⟩ := mat_p M
  obtain ⟨a, b⟩ := lay_all h
  have s1 : shD (matD M) = true := by
    unfold shD matD
    simp only [toP, e, Option.map_some]
    show SeqAt.shaped (.list ps) = true
    unfold SeqAt.shaped
    simp only [PyData.canLay0, a, PyData.depth, Bool.true_and]
    exact decide_eq_true (by omega)
  have s2 : shD (.lst []) = true := rfl
  have e3 : eqD (matD M) (.lst []) = decide (M = []) := by
    unfold matD
    simp only [eqD, toP, toPs, e, Option.map_some]
    cases M with
    | nil =>
      have : ps = [] := List.eq_nil_of_length_eq_zero (by simpa using l)
      subst this
      simp [PyData.eqv, PyData.eqvAll]
    | cons r M =>
      cases ps with
      | nil => simp at l
      | cons q ps => simp [PyData.eqv, PyData.eqvAll]
  simp only [dEq, s1, s2, e3]
  rfl
/-- new lists from a source whose operands are looked at again -/
theorem lc_ixO {own : List Nat} {p : Pt} {os : List Opd} {es : List D} {fe : FE} (ρw : Ev) (hos : getAll ρw os = some es) :
    ∀ (ds out : List D) (acc : List D) (ρ : Ev), ds.length = out.length → (∀ (k : Nat) (d y : D), ds[k]? = some d → out[k]? = some y → ∃ ρa ρc, bindPt p d ρw = some ρa ∧ fe ρa = some (.dat y, ρc) ∧ wipeE ρc own = ρw) →
      wipeE ρ own = ρw → ∃ ρ', lcLoop own p os es fYes fe ds ρ acc = some (acc ++ out, ρ') ∧ wipeE ρ' own = ρw
  | [], [], acc, ρ, _, _, hw => ⟨ρ, by simp [lcLoop, hw, hos], hw⟩
  | d :: ds, y :: out, acc, ρ, hl, st, hw => by
    obtain ⟨ρa, ρc, e1, e2, e3⟩ := st 0 d y rfl rfl
    obtain ⟨ρ', e, w⟩ := lc_ixO ρw hos ds out (acc ++ [y]) ρc (by simpa using hl) (fun k d' y' h1 h2 => st (k + 1) d' y' (by simpa using h1) (by simpa using h2)) e3
    refine ⟨ρ', ?_, w⟩
    simp only [lcLoop, hw, hos, if_true, e1, fYes, e2]
    rw [e]
    simp
  | [], _ :: _, _, _, hl, _, _ => by simp at hl
  | _ :: _, [], _, _, hl, _, _ => by simp at hl
theorem nLc_ixO {own : List Nat} {p : Pt} {src : FS} {fe : FE} {ρ : Ev} {ds es : List D} {os : List Opd} (out : List D) (hs : src ρ = some (ds, os, ρ)) (h1 : getAll ρ os = some es) (h2 : getAll (wipeE ρ own) os = some es) (hl : ds.length ≤ sLn) (ho : ds.length = out.length)
    (st : ∀ (k : Nat) (d y : D), ds[k]? = some d → out[k]? = some y → ∃ ρa ρc, bindPt p d (wipeE ρ own) = some ρa ∧ fe ρa = some (.dat y, ρc) ∧ wipeE ρc own = wipeE ρ own) :
    nLc own p src fYes fe ρ = some (out, ρ) := by
  obtain ⟨ρ', e, w⟩ := lc_ixO (wipeE ρ own) h2 ds out [] ρ ho st rfl
  simp only [nLc, hs, h1, if_pos hl, e, back_wipe w, List.nil_append]
theorem slcToG {fa fb : FE} {ρ ρ1 ρ2 : Ev} {o : Opd} {ds : List D} {k : Nat} (h1 : fa ρ = some (o, ρ1)) (h2 : fb ρ1 = some (.dat (.int (k : Int)), ρ2)) (ho : o.get ρ2 = some (.lst ds)) (hk : k ≤ ds.length) : fSlc fa fNoPart (fPart fb) ρ = some (.dat (.lst (ds.take k)), ρ2) := by
  simp only [fSlc, h1, fNoPart, fPart, h2, ho, dSlc, cut_lo hk]
theorem slcFromG {fa fb : FE} {ρ ρ1 ρ2 : Ev} {o : Opd} {ds : List D} {k : Nat} (h1 : fa ρ = some (o, ρ1)) (h2 : fb ρ1 = some (.dat (.int (k : Int)), ρ2)) (ho : o.get ρ2 = some (.lst ds)) (hk : k ≤ ds.length) : fSlc fa (fPart fb) fNoPart ρ = some (.dat (.lst (ds.drop k)), ρ2) := by
  simp only [fSlc, h1, fNoPart, fPart, h2, ho, dSlc, cut_hi hk]
theorem zip_len (ds es : List D) : (zipD ds es).length = min ds.length es.length := zipD_length ds es
theorem zip_map {α β : Type} (f : α → D) (g : β → D) : ∀ (as : List α) (bs : List β), zipD (as.map f) (bs.map g) = List.zipWith (fun a b => D.tup [f a, g b]) as bs
  | [], _ => by simp [zipD]
  | _ :: _, [] => by simp [zipD]
  | a :: as, b :: bs => by simp [zipD, zip_map f g as bs]
theorem zw_get {α β γ : Type} (f : α → β → γ) : ∀ (as : List α) (bs : List β) (i : Nat) (y : γ), (List.zipWith f as bs)[i]? = some y → ∃ a b, as[i]? = some a ∧ bs[i]? = some b ∧ y = f a b
  | [], _, _, _, h => by simp at h
  | _ :: _, [], _, _, h => by simp at h
  | a :: as, b :: bs, 0, y, h => ⟨a, b, rfl, rfl, by simpa using h.symm⟩
  | a :: as, b :: bs, i + 1, y, h => by
    obtain ⟨x, z, h1, h2, h3⟩ := zw_get f as bs i y (by simpa using h)
    exact ⟨x, z, by simpa using h1, by simpa using h2, h3⟩
end SC

set_option Elab.async false
set_option linter.all false
set_option maxRecDepth 100000
namespace SC
open PySem PySem.Spec PyProof.Rows L2

abbrev Fc := Nat × Nat
/-! ### fractions -/
def Ret (g : FG) (ss : List Sl) (r : D) : Prop := ∃ outs, g ss = some (r, outs) ∧ ss.length ≤ outs.length
abbrev dI (n : Nat) : D := .int (n : Int)
def nf (p : Nat × Nat) : D := .tup [.int (p.1 : Int), .int (p.2 : Int)]
def red (m k : Nat) : Nat × Nat := (m / Nat.gcd m k, k / Nat.gcd m k)
theorem put_nil : ∀ (n : Nat) (ρ : Ev) (os : List Opd) (outs : List Sl), slotsOf os = [] → putSl ρ os outs = ρ
  | _, ρ, [], _, _ => by simp [putSl]
  | n, ρ, .dat _ :: os, [], _ => by simp [putSl]
  | n, ρ, .dat _ :: os, _ :: outs, h => by
    show putSl ρ os outs = ρ
    exact put_nil n ρ os outs h
  | _, _, .slot _ :: _, _, h => by cases h
theorem callD1 {g : FG} {fa : FE} {ρ ρ1 : Ev} {d r : D} (h1 : fa ρ = some (.dat d, ρ1)) (h : Ret g [.dat d] r) : fCall g [] (fCons fa fNil) ρ = some (.dat r, ρ1) := by
  obtain ⟨o, ho, hl⟩ := h
  have hl' : 1 ≤ o.length := hl
  have hp := put_nil 0 ρ1 [.dat d] o rfl
  simp [fCall, fCons, fNil, h1, argSl, slotsOf, ho, hp, hl']
theorem callD2 {g : FG} {fa fb : FE} {ρ ρ1 ρ2 : Ev} {d e r : D} (h1 : fa ρ = some (.dat d, ρ1)) (h2 : fb ρ1 = some (.dat e, ρ2)) (h : Ret g [.dat d, .dat e] r) : fCall g [] (fCons fa (fCons fb fNil)) ρ = some (.dat r, ρ2) := by
  obtain ⟨o, ho, hl⟩ := h
  have hl' : 2 ≤ o.length := hl
  have hp := put_nil 0 ρ2 [.dat d, .dat e] o rfl
  simp [fCall, fCons, fNil, h1, h2, argSl, slotsOf, ho, hp, hl']
theorem callD3 {g : FG} {fa fb fc : FE} {ρ ρ1 ρ2 ρ3 : Ev} {d e f r : D} (h1 : fa ρ = some (.dat d, ρ1)) (h2 : fb ρ1 = some (.dat e, ρ2)) (h3 : fc ρ2 = some (.dat f, ρ3)) (h : Ret g [.dat d, .dat e, .dat f] r) : fCall g [] (fCons fa (fCons fb (fCons fc fNil))) ρ = some (.dat r, ρ3) := by
  obtain ⟨o, ho, hl⟩ := h
  have hl' : 3 ≤ o.length := hl
  have hp := put_nil 0 ρ3 [.dat d, .dat e, .dat f] o rfl
  simp [fCall, fCons, fNil, h1, h2, h3, argSl, slotsOf, ho, hp, hl']
theorem callD4 {g : FG} {fa fb fc fd : FE} {ρ ρ1 ρ2 ρ3 ρ4 : Ev} {d e f i r : D} (h1 : fa ρ = some (.dat d, ρ1)) (h2 : fb ρ1 = some (.dat e, ρ2)) (h3 : fc ρ2 = some (.dat f, ρ3)) (h4 : fd ρ3 = some (.dat i, ρ4)) (h : Ret g [.dat d, .dat e, .dat f, .dat i] r) : fCall g [] (fCons fa (fCons fb (fCons fc (fCons fd fNil)))) ρ = some (.dat r, ρ4) := by
  obtain ⟨o, ho, hl⟩ := h
  have hl' : 4 ≤ o.length := hl
  have hp := put_nil 0 ρ4 [.dat d, .dat e, .dat f, .dat i] o rfl
  simp [fCall, fCons, fNil, h1, h2, h3, h4, argSl, slotsOf, ho, hp, hl']
theorem binD {g : D → D → Option D} {fa fb : FE} {ρ ρ1 ρ2 : Ev} {d e r : D} (h1 : fa ρ = some (.dat d, ρ1)) (h2 : fb ρ1 = some (.dat e, ρ2)) (h : g d e = some r) : fBin g fa fb ρ = some (.dat r, ρ2) := by
  simp only [fBin, h1, h2, Opd.get, h]
theorem dDiv_ok {m g L : Nat} (h : 0 < g) (hs : g < 2 ^ L) (hL : L ≤ 8999) : dDiv (.int (m : Int)) (.int (g : Int)) = some (dI (m / g)) := by
  have h1 : (0 : Int) < (g : Int) := by omega
  have h2 : (g : Int).natAbs.log2 < 9000 := by
    rw [Int.natAbs_natCast]
    exact Nat.lt_of_lt_of_le ((Nat.log2_lt (Nat.ne_of_gt h)).mpr hs) (by omega)
  simp only [dDiv, if_pos (And.intro h1 h2)]
  rfl
theorem idx0 (p : Nat × Nat) : dIdx (nf p) (.int 0) = some (dI p.1) := rfl
theorem idx1 (p : Nat × Nat) : dIdx (nf p) (.int 1) = some (dI p.2) := rfl
theorem log2_le {a L : Nat} (h : a < 2 ^ L) : a.log2 ≤ L := by
  by_cases ha : a = 0
  · subst ha; exact Nat.zero_le _
  · exact Nat.le_of_lt ((Nat.log2_lt ha).mpr h)
theorem mul_ok {a b L M : Nat} (ha : a < 2 ^ L) (hb : b < 2 ^ M) (h : L + M ≤ 999999) : dMul (dI a) (dI b) = some (dI (a * b)) := by
  have h1 := log2_le ha
  have h2 := log2_le hb
  have : (a : Int).natAbs.log2 + (b : Int).natAbs.log2 < 1000000 := by
    rw [Int.natAbs_natCast, Int.natAbs_natCast]; omega
  simp only [dMul, if_pos this]
  rfl
theorem add_ok (a b : Nat) : dAdd (dI a) (dI b) = some (dI (a + b)) := rfl
structure Fr (L : Nat) (p : Nat × Nat) : Prop where
  pos : 0 < p.2
  cop : Nat.gcd p.1 p.2 = 1
  n : p.1 < 2 ^ L
  d : p.2 < 2 ^ L
def plus (p q : Nat × Nat) : Nat × Nat := red (p.1 * q.2 + q.1 * p.2) (p.2 * q.2)
def byf (p : Nat × Nat) (w s : Nat) : Nat × Nat := red (p.1 * w) (p.2 * s)
theorem Fr.mono {L M : Nat} {p : Nat × Nat} (h : Fr L p) (k : L ≤ M) : Fr M p := ⟨h.pos, h.cop, Nat.lt_of_lt_of_le h.n (Nat.pow_le_pow_right (by decide) k), Nat.lt_of_lt_of_le h.d (Nat.pow_le_pow_right (by decide) k)⟩
theorem red_fr {m k L : Nat} (hk : 0 < k) (h1 : m < 2 ^ L) (h2 : k < 2 ^ L) : Fr L (red m k) := by
  have hg : 0 < Nat.gcd m k := Nat.gcd_pos_of_pos_right _ hk
  exact ⟨Nat.div_pos (Nat.le_of_dvd hk (Nat.gcd_dvd_right m k)) hg, Nat.gcd_div_gcd_div_gcd_of_pos_right hk, Nat.lt_of_le_of_lt (Nat.div_le_self _ _) h1, Nat.lt_of_le_of_lt (Nat.div_le_self _ _) h2⟩
theorem mul_lt {a b L M : Nat} (ha : a < 2 ^ L) (hb : b < 2 ^ M) : a * b < 2 ^ (L + M) := by
  rw [Nat.pow_add]
  exact Nat.mul_lt_mul'' ha hb
theorem plus_num {p q : Nat × Nat} {L M : Nat} (hp : Fr L p) (hq : Fr M q) : p.1 * q.2 + q.1 * p.2 < 2 ^ (L + M + 1) := by
  have h1 := mul_lt hp.n hq.d
  have h2 := mul_lt hq.n hp.d
  rw [Nat.add_comm M L] at h2
  rw [Nat.pow_succ]
  omega
theorem plus_den {p q : Nat × Nat} {L M : Nat} (hp : Fr L p) (hq : Fr M q) : p.2 * q.2 < 2 ^ (L + M + 1) :=
  Nat.lt_of_lt_of_le (mul_lt hp.d hq.d) (Nat.pow_le_pow_right (by decide) (Nat.le_succ _))
theorem plus_fr {p q : Nat × Nat} {L M : Nat} (hp : Fr L p) (hq : Fr M q) : Fr (L + M + 1) (plus p q) :=
  red_fr (Nat.mul_pos hp.pos hq.pos) (plus_num hp hq) (plus_den hp hq)
theorem byf_fr {p : Nat × Nat} {w s L M : Nat} (hp : Fr L p) (hw : w < 2 ^ M) (hs : s < 2 ^ M) (h0 : 0 < s) : Fr (L + M) (byf p w s) :=
  red_fr (Nat.mul_pos hp.pos h0) (mul_lt hp.n hw) (mul_lt hp.d hs)
theorem red_self {p : Nat × Nat} (h : Nat.gcd p.1 p.2 = 1) : red p.1 p.2 = p := by
  unfold red
  rw [h, Nat.div_one, Nat.div_one]
theorem plus_zero {p : Nat × Nat} (h : Nat.gcd p.1 p.2 = 1) : plus (0, 1) p = p := by
  unfold plus
  simp only [Nat.zero_mul, Nat.zero_add, Nat.mul_one, Nat.one_mul]
  exact red_self h
theorem fr_zero (L : Nat) (h : 0 < L) : Fr L (0, 1) := ⟨by decide, by decide, Nat.pow_pos (by decide), Nat.one_lt_two_pow (Nat.ne_of_gt h)⟩
def mulE (fa : FE) (i : Int) (fb : FE) (j : Int) : FE := fBin dMul (fBin dIdx fa (fC (.int i))) (fBin dIdx fb (fC (.int j)))
def lessf (p q : Nat × Nat) : Bool := decide (p.1 * q.2 < q.1 * p.2)
theorem cmp_ok (a b : Nat) : dCmp (fun i j => decide (i < j)) (dI a) (dI b) = some (.bl (decide (a < b))) := by
  simp only [dCmp, Int.ofNat_lt]
end SC

set_option Elab.async false
set_option linter.all false
set_option maxRecDepth 100000
namespace SC
open PySem PySem.Spec PyProof.Rows L2


end SC

set_option Elab.async false
set_option linter.all false
set_option maxRecDepth 100000
namespace SC
open PySem PySem.Spec PyProof.Rows L2

/-! ### the pen -/
def pen (x y z : Nat) : Sl := .own [dI x, dI y, dI z]
theorem mod_ok {a b : Nat} (h : 0 < b) : dMod (dI a) (dI b) = some (dI (a % b)) := by
  have : (0 : Int) < (b : Int) := by omega
  simp only [dMod, if_pos this]
  rfl
theorem div_ok {a b L : Nat} (h : 0 < b) (hs : b < 2 ^ L) (hL : L ≤ 8999) : dDiv (dI a) (dI b) = some (dI (a / b)) := dDiv_ok h hs hL
/-- an operand that reads as d, nothing changed -/
def RdO (fe : FE) (ρ : Ev) (d : D) : Prop := ∃ o, fe ρ = some (o, ρ) ∧ o.get ρ = some d
theorem RdO.of {fe : FE} {ρ : Ev} {d : D} (h : fe ρ = some (.dat d, ρ)) : RdO fe ρ d := ⟨_, h, rfl⟩
theorem binO {g : D → D → Option D} {fa fb : FE} {ρ : Ev} {d e r : D} (h1 : RdO fa ρ d) (h2 : RdO fb ρ e) (h : g d e = some r) : fBin g fa fb ρ = some (.dat r, ρ) := by
  obtain ⟨o, e1, g1⟩ := h1
  obtain ⟨p, e2, g2⟩ := h2
  simp only [fBin, e1, e2, g1, g2, h]
theorem binR {g : D → D → Option D} {fa fb : FE} {ρ : Ev} {d e r : D} (h1 : RdO fa ρ d) (h2 : RdO fb ρ e) (h : g d e = some r) : RdO (fBin g fa fb) ρ r := .of (binO h1 h2 h)
section
variable (x y z n : Nat) (s t : Sl)
theorem penI0 : RdO (fBin dIdx (fVar 0) (fC (.int 0))) [pen x y z, .dat (dI n), s, t] (dI x) := ⟨_, rfl, rfl⟩
theorem penI1 : RdO (fBin dIdx (fVar 0) (fC (.int 1))) [pen x y z, .dat (dI n), s, t] (dI y) := ⟨_, rfl, rfl⟩
theorem penI2 : RdO (fBin dIdx (fVar 0) (fC (.int 2))) [pen x y z, .dat (dI n), s, t] (dI z) := ⟨_, rfl, rfl⟩
theorem kR (i : Nat) (ρ : Ev) : RdO (fC (.int i)) ρ (dI i) := ⟨_, rfl, rfl⟩
end
theorem putO {ρ : Ev} {fe : FE} {d : D} (h : fe ρ = some (.dat d, ρ)) {ds : List D} (ho : ownAt ρ 0 = some ds) {k : Int} {j : Nat} (hj : ixN ds.length k = some j) : bPut 0 (fC (.int k)) fe ρ = some (.nx, ρ.set 0 (.own (ds.set j d))) := by
  simp only [bPut, h, ho, fC, hj]
theorem setO {ρ : Ev} {fe : FE} {d : D} {i : Nat} (h : fe ρ = some (.dat d, ρ)) : bSet i fe ρ = some (.nx, ρ.set i (.dat d)) := by
  simp only [bSet, h]
theorem seqE {f g : FB} {ρ ρ1 : Ev} {r : Option (Fw × Ev)} (h1 : f ρ = some (.nx, ρ1)) (h2 : g ρ1 = r) : bSeq f g ρ = r := by
  simp only [bSeq, h1, h2]
theorem seqR {f g : FB} {ρ ρ1 : Ev} {d : D} (h1 : f ρ = some (.rt d, ρ1)) : bSeq f g ρ = some (.rt d, ρ1) := by
  simp only [bSeq, h1]
theorem ifT {c : FT} {f g : FB} {ρ ρ1 : Ev} {r : Option (Fw × Ev)} (h : c ρ = some (true, ρ1)) (h1 : f ρ1 = r) : bIf c f g ρ = r := by
  simp only [bIf, h, h1]
theorem ifF {c : FT} {f g : FB} {ρ ρ1 : Ev} {r : Option (Fw × Ev)} (h : c ρ = some (false, ρ1)) (h1 : g ρ1 = r) : bIf c f g ρ = r := by
  simp only [bIf, h, h1]
theorem retE {fe : FE} {ρ ρ1 : Ev} {d : D} (h : fe ρ = some (.dat d, ρ1)) : bRet fe ρ = some (.rt d, ρ1) := by
  simp only [bRet, h]
theorem testE {fe : FE} {ρ ρ1 : Ev} {b : Bool} (h : fe ρ = some (.dat (.bl b), ρ1)) : fTest fe ρ = some (b, ρ1) := by
  simp only [fTest, h]
def stir1 (y z : Nat) : Nat := (y * 48271 + 1009 * z + 7) % 2147483647
def stir2 (y : Nat) : Nat := (y * y + 69621 * y + 11) % 2147483629
def stir3 (y : Nat) : Nat := (y * y + 40014 * y) % 2147483587
theorem gt0_ok (x : Nat) : (dCmp fun i j => decide (j < i)) (dI x) (dI 0) = some (.bl (decide (0 < x))) := by
  simp only [dCmp]
  congr 2
  simp
theorem draw_eq {x y z n N : Nat} (hn : 0 < n) (hn2 : n < 2 ^ 21) (hy : y < 2 ^ 31) (hz : z ≤ N) (hN : N < 2 ^ 60) :
    d__law_draw [pen x y z, .dat (dI n), .un, .un] = if 0 < x then some (.rt (dI (x % n)), [pen (x / n) y z, .dat (dI n), .dat (dI (x % n)), .un]) else
      some (.rt (dI (stir3 (stir2 (stir1 y (z + 1))) / 16 % n)), [pen x (stir1 y (z + 1)) (z + 1), .dat (dI n), .un, .dat (dI (stir3 (stir2 (stir1 y (z + 1)))))]) := by
  by_cases hx : 0 < x
  · rw [if_pos hx]
    refine seqR (ifT (testE (binO (penI0 x y z n .un .un) (kR 0 _) ((gt0_ok x).trans (by rw [decide_eq_true hx])))) ?_)
    refine seqE (setO (binO (penI0 x y z n .un .un) (.of rfl) (mod_ok hn))) ?_
    refine seqE (putO (binO (penI0 x y z n (.dat (dI (x % n))) .un) (.of rfl) (div_ok hn hn2 (by decide))) rfl rfl) ?_
    exact retE rfl
  · rw [if_neg hx]
    have h1 : stir1 y (z + 1) < 2 ^ 31 := Nat.lt_trans (Nat.mod_lt _ (by decide)) (by decide)
    have h2 : stir2 (stir1 y (z + 1)) < 2 ^ 31 := Nat.lt_trans (Nat.mod_lt _ (by decide)) (by decide)
    refine seqE (ifF (testE (binO (penI0 x y z n .un .un) (kR 0 _) ((gt0_ok x).trans (by rw [decide_eq_false hx])))) rfl) ?_
    refine seqE (putO (binO (penI2 x y z n .un .un) (kR 1 _) (add_ok z 1)) rfl rfl) ?_
    refine seqE (putO (binO (binR (binR (binR (penI1 x y (z + 1) n .un .un) (kR 48271 _) (mul_ok (L := 31) (M := 16) hy (by decide) (by decide))) (binR (kR 1009 _) (penI2 x y (z + 1) n .un .un) (mul_ok (L := 10) (M := 61) (by decide) (by omega) (by decide))) (add_ok _ _)) (kR 7 _) (add_ok _ _)) (kR 2147483647 _) (mod_ok (by decide))) rfl rfl) ?_
    refine seqE (ρ1 := [pen x (stir1 y (z + 1)) (z + 1), .dat (dI n), .un, .dat (dI (stir2 (stir1 y (z + 1))))]) (setO (binO (binR (binR (binR (penI1 x (stir1 y (z + 1)) (z + 1) n .un .un) (penI1 x (stir1 y (z + 1)) (z + 1) n .un .un) (mul_ok h1 h1 (by decide))) (binR (kR 69621 _) (penI1 x (stir1 y (z + 1)) (z + 1) n .un .un) (mul_ok (L := 17) (by decide) h1 (by decide))) (add_ok _ _)) (kR 11 _) (add_ok _ _)) (kR 2147483629 _) (mod_ok (by decide)))) ?_
    refine seqE (ρ1 := [pen x (stir1 y (z + 1)) (z + 1), .dat (dI n), .un, .dat (dI (stir3 (stir2 (stir1 y (z + 1)))))]) (setO (binO (binR (binR (.of rfl) (.of rfl) (mul_ok (a := stir2 (stir1 y (z + 1))) (b := stir2 (stir1 y (z + 1))) h2 h2 (by decide))) (binR (kR 40014 _) (.of rfl) (mul_ok (L := 16) (b := stir2 (stir1 y (z + 1))) (by decide) h2 (by decide))) (add_ok _ _)) (kR 2147483587 _) (mod_ok (by decide)))) ?_
    exact retE (binO (binR (.of rfl) (kR 16 _) (div_ok (a := stir3 (stir2 (stir1 y (z + 1)))) (by decide) (L := 5) (by decide) (by decide))) (.of rfl) (mod_ok hn))
end SC

set_option Elab.async false
set_option linter.all false
set_option maxRecDepth 100000
namespace SC
open PySem PySem.Spec PyProof.Rows L2

/-! ### drawing -/
def PenOk (N : Nat) (s : Sl) : Prop := ∃ x y z, s = pen x y z ∧ y < 2 ^ 31 ∧ z ≤ N
theorem PenOk.mono {N M : Nat} {s : Sl} (h : PenOk N s) (k : N ≤ M) : PenOk M s := by
  obtain ⟨x, y, z, e, h1, h2⟩ := h
  exact ⟨x, y, z, e, h1, Nat.le_trans h2 k⟩
/-- a def that draws at most c times: its answer -/
def Dr (c : Nat) (g : FG) (as : List Sl) (P : D → Prop) : Prop := ∀ N s, PenOk N s → N + c < 2 ^ 60 → ∃ r s' rest, g (s :: as) = some (r, s' :: rest) ∧ as.length ≤ rest.length ∧ PenOk (N + c) s' ∧ P r
theorem draw_dr {n : Nat} (hn : 0 < n) (hn2 : n < 2 ^ 21) : Dr 1 g__law_draw [.dat (dI n)] (fun r => ∃ k, r = dI k ∧ k < n) := by
  rintro N _ ⟨x, y, z, rfl, hy, hz⟩ hN
  have e := draw_eq (x := x) (y := y) (z := z) (N := N) hn hn2 hy hz (by omega)
  by_cases hx : 0 < x
  · rw [if_pos hx] at e
    refine ⟨dI (x % n), pen (x / n) y z, [.dat (dI n), .dat (dI (x % n)), .un], ?_, by simp, ⟨_, _, _, rfl, hy, by omega⟩, _, rfl, Nat.mod_lt _ hn⟩
    show frD (d__law_draw [pen x y z, .dat (dI n), .un, .un]) = _
    rw [e]
    rfl
  · rw [if_neg hx] at e
    refine ⟨dI (stir3 (stir2 (stir1 y (z + 1))) / 16 % n), pen x (stir1 y (z + 1)) (z + 1), [.dat (dI n), .un, .dat (dI (stir3 (stir2 (stir1 y (z + 1)))))], ?_, by simp, ⟨_, _, _, rfl, Nat.lt_trans (Nat.mod_lt _ (by decide)) (by decide), by omega⟩, _, rfl, Nat.mod_lt _ hn⟩
    show frD (d__law_draw [pen x y z, .dat (dI n), .un, .un]) = _
    rw [e]
    rfl
theorem callP1 {g : FG} {ρ : Ev} {s s' : Sl} {r : D} {rest : List Sl} {N : Nat} (h0 : ρ[0]? = some s) (hs : PenOk N s) (hg : g [s] = some (r, s' :: rest)) : fCall g [] (fCons (fVar 0) fNil) ρ = some (.dat r, ρ.set 0 s') := by
  obtain ⟨x, y, z, rfl, _, _⟩ := hs
  unfold pen at *
  simp [fCall, fCons, fNil, fVar, h0, argSl, Sl.mut, slotsOf, hg, putSl]
theorem callP2 {g : FG} {fb : FE} {ρ : Ev} {s s' : Sl} {d r : D} {rest : List Sl} {N : Nat} (h0 : ρ[0]? = some s) (hs : PenOk N s) (h2 : fb ρ = some (.dat d, ρ)) (hg : g [s, .dat d] = some (r, s' :: rest)) (hl : 1 ≤ rest.length) :
    fCall g [] (fCons (fVar 0) (fCons fb fNil)) ρ = some (.dat r, ρ.set 0 s') := by
  obtain ⟨x, y, z, rfl, _, _⟩ := hs
  unfold pen at *
  have e : putSl (ρ.set 0 s') [.dat d] rest = ρ.set 0 s' := put_nil 0 _ _ _ rfl
  simp [fCall, fCons, fNil, fVar, h0, h2, argSl, Sl.mut, slotsOf, hg, putSl, hl, e]
/-- the call of such a def from a frame whose first slot is the pen -/
theorem dr_call1 {c N : Nat} {g : FG} {P : D → Prop} (h : Dr c g [] P) {s : Sl} {ρ : Ev} (hs : PenOk N s) (hN : N + c < 2 ^ 60) : ∃ r s', fCall g [] (fCons (fVar 0) fNil) (s :: ρ) = some (.dat r, s' :: ρ) ∧ PenOk (N + c) s' ∧ P r := by
  obtain ⟨r, s', rest, e, _, h1, h2⟩ := h N s hs hN
  exact ⟨r, s', callP1 rfl hs e, h1, h2⟩
theorem dr_call2 {c N : Nat} {g : FG} {d : D} {P : D → Prop} (h : Dr c g [.dat d] P) {fb : FE} {s : Sl} {ρ : Ev} (hs : PenOk N s) (hN : N + c < 2 ^ 60) (hb : fb (s :: ρ) = some (.dat d, s :: ρ)) : ∃ r s', fCall g [] (fCons (fVar 0) (fCons fb fNil)) (s :: ρ) = some (.dat r, s' :: ρ) ∧ PenOk (N + c) s' ∧ P r := by
  obtain ⟨r, s', rest, e, hl, h1, h2⟩ := h N s hs hN
  exact ⟨r, s', callP2 rfl hs hb e hl, h1, h2⟩
/-- draw(pen, n), n written there -/
theorem draw_c {N : Nat} (n : Nat) (hn : 0 < n) (hn2 : n < 2 ^ 21) {s : Sl} (ρ : Ev) (hs : PenOk N s) (hN : N + 1 < 2 ^ 60) {fb : FE} (hb : fb (s :: ρ) = some (.dat (dI n), s :: ρ)) : ∃ k s', fCall g__law_draw [] (fCons (fVar 0) (fCons fb fNil)) (s :: ρ) = some (.dat (dI k), s' :: ρ) ∧ PenOk (N + 1) s' ∧ k < n := by
  obtain ⟨r, s', e, h1, k, rfl, h2⟩ := dr_call2 (draw_dr hn hn2) (ρ := ρ) hs hN hb
  exact ⟨k, s', e, h1, h2⟩
theorem consE {fa : FE} {fr : FA} {ρ ρ1 ρ2 : Ev} {o : Opd} {os : List Opd} (h1 : fa ρ = some (o, ρ1)) (h2 : fr ρ1 = some (os, ρ2)) : fCons fa fr ρ = some (o :: os, ρ2) := by
  simp only [fCons, h1, h2]
theorem newE {fa : FA} {ρ ρ1 : Ev} {os : List Opd} {ds : List D} (h : fa ρ = some (os, ρ1)) (hd : datAll os = some ds) (hl : ds.length ≤ sLn) : nDisp fa ρ = some (ds, ρ1) := by
  simp only [nDisp, h, hd, if_pos hl]
theorem fnewE {fn : FN} {ρ ρ1 : Ev} {ds : List D} (h : fn ρ = some (ds, ρ1)) : fNew fn ρ = some (.dat (.lst ds), ρ1) := by
  simp only [fNew, h]
theorem binE {g : D → D → Option D} {fa fb : FE} {ρ ρ1 ρ2 : Ev} {d e r : D} (h1 : fa ρ = some (.dat d, ρ1)) (h2 : fb ρ1 = some (.dat e, ρ2)) (h : g d e = some r) : fBin g fa fb ρ = some (.dat r, ρ2) := binD h1 h2 h
/-! ### the plan drawn -/
structure Row (p n at_ : Nat) (ws : List Nat) : Prop where
  len : ws.length = p + n
  le : ∀ w ∈ ws, w ≤ 20
  pos : 0 < (ws.take p).sum
  own : ws[p + at_]? = some 0
def rowD (ws : List Nat) : D := .tup (ws.map fun (w : Nat) => D.int (w : Int))
structure VP (p : Nat) (rows : List (List Nat)) : Prop where
  p1 : 1 ≤ p
  p4 : p ≤ 4
  n1 : 1 ≤ rows.length
  n4 : rows.length ≤ 4
  row : ∀ i ws, rows[i]? = some ws → Row p rows.length i ws
def nl (ws : List Nat) : List D := ws.map fun (w : Nat) => D.int (w : Int)
theorem bltE {g : List D → Option D} {fa : FA} {ρ ρ1 : Ev} {os : List Opd} {ds : List D} {r : D} (h : fa ρ = some (os, ρ1)) (hd : getAll ρ1 os = some ds) (hg : g ds = some r) : fBlt g fa ρ = some (.dat r, ρ1) := by
  simp only [fBlt, h, hd, hg]
theorem putE {i j : Nat} {fi fe : FE} {ρ ρ1 ρ2 : Ev} {d : D} {k : Int} {ds0 ds : List D} (h1 : fe ρ = some (.dat d, ρ1)) (h2 : ownAt ρ1 i = some ds0) (h3 : fi ρ1 = some (.dat (.int k), ρ2)) (h4 : ownAt ρ2 i = some ds) (h5 : ixN ds.length k = some j) : bPut i fi fe ρ = some (.nx, ρ2.set i (.own (ds.set j d))) := by
  simp only [bPut, h1, h2, h3, h4, h5]
theorem orT {fa fb : FT} {ρ ρ1 : Ev} (h : fa ρ = some (true, ρ1)) : fOr fa fb ρ = some (true, ρ1) := by simp only [fOr, h]
theorem orF {fa fb : FT} {ρ ρ1 : Ev} {r : Option (Bool × Ev)} (h : fa ρ = some (false, ρ1)) (h2 : fb ρ1 = r) : fOr fa fb ρ = r := by simp only [fOr, h, h2]
theorem andT {fa fb : FT} {ρ ρ1 : Ev} {r : Option (Bool × Ev)} (h : fa ρ = some (true, ρ1)) (h2 : fb ρ1 = r) : fAnd fa fb ρ = r := by simp only [fAnd, h, h2]
theorem andF {fa fb : FT} {ρ ρ1 : Ev} (h : fa ρ = some (false, ρ1)) : fAnd fa fb ρ = some (false, ρ1) := by simp only [fAnd, h]
theorem notE {fa : FT} {b : Bool} {ρ ρ1 : Ev} (h : fa ρ = some (b, ρ1)) : fNot fa ρ = some (!b, ρ1) := by simp only [fNot, h]
theorem iteT {fc : FT} {fa fb : FE} {ρ ρ1 : Ev} {r : Option (Opd × Ev)} (h : fc ρ = some (true, ρ1)) (h2 : fa ρ1 = r) : fIf fc fa fb ρ = r := by simp only [fIf, h, h2]
theorem iteF {fc : FT} {fa fb : FE} {ρ ρ1 : Ev} {r : Option (Opd × Ev)} (h : fc ρ = some (false, ρ1)) (h2 : fb ρ1 = r) : fIf fc fa fb ρ = r := by simp only [fIf, h, h2]
theorem andVT {fa : FT} {fb : FE} {ρ ρ1 : Ev} {r : Option (Opd × Ev)} (h : fa ρ = some (true, ρ1)) (h2 : fb ρ1 = r) : fAndV fa fb ρ = r := by simp only [fAndV, h, h2]
theorem boolE {fa : FT} {b : Bool} {ρ ρ1 : Ev} (h : fa ρ = some (b, ρ1)) : fBool fa ρ = some (.dat (.bl b), ρ1) := by simp only [fBool, h]
theorem binG {g : D → D → Option D} {fa fb : FE} {ρ ρ1 ρ2 : Ev} {o p : Opd} {d e r : D} (h1 : fa ρ = some (o, ρ1)) (h2 : fb ρ1 = some (p, ρ2)) (g1 : o.get ρ2 = some d) (g2 : p.get ρ2 = some e) (h : g d e = some r) : fBin g fa fb ρ = some (.dat r, ρ2) := by
  simp only [fBin, h1, h2, g1, g2, h]
theorem expE {fe : FE} {ρ ρ1 : Ev} {o : Opd} (h : fe ρ = some (o, ρ1)) : bExp fe ρ = some (.nx, ρ1) := by simp only [bExp, h]
theorem lmE {lm : LM} {i : Nat} {fe : FE} {ρ ρ1 : Ev} {d y : D} {ds0 ds ds' : List D} (h1 : ownAt ρ i = some ds0) (h2 : fe ρ = some (.dat d, ρ1)) (h3 : ownAt ρ1 i = some ds) (h4 : lm ds d = some (y, ds')) : fLM lm i fe ρ = some (.dat y, ρ1.set i (.own ds')) := by
  simp only [fLM, h1, h2, h3, h4]
theorem dispE {c : List D → D} {fa : FA} {ρ ρ1 : Ev} {os : List Opd} {ds : List D} (h : fa ρ = some (os, ρ1)) (hd : datAll os = some ds) (hl : ds.length ≤ sLn) : fDisp c fa ρ = some (.dat (c ds), ρ1) := by
  simp only [fDisp, h, hd, if_pos hl]
theorem parE {is : List Nat} {fm : FM} {ρ ρ1 ρ2 : Ev} {ks : List Kd} (h : fm ρ = some (ks, ρ1)) (h2 : setKs ρ1 is ks = some ρ2) : bPar is fm ρ = some (.nx, ρ2) := by simp only [bPar, h, h2]
theorem mDatE {fa : FE} {fr : FM} {ρ ρ1 ρ2 : Ev} {d : D} {ks : List Kd} (h : fa ρ = some (.dat d, ρ1)) (h2 : fr ρ1 = some (ks, ρ2)) : mDat fa fr ρ = some (.dat d :: ks, ρ2) := by simp only [mDat, h, h2]
theorem mNewE {fa : FN} {fr : FM} {ρ ρ1 ρ2 : Ev} {ds : List D} {ks : List Kd} (h : fa ρ = some (ds, ρ1)) (h2 : fr ρ1 = some (ks, ρ2)) : mNew fa fr ρ = some (.new ds :: ks, ρ2) := by simp only [mNew, h, h2]
theorem ownE {i : Nat} {fn : FN} {ρ ρ1 : Ev} {ds : List D} (h : fn ρ = some (ds, ρ1)) : bOwn i fn ρ = some (.nx, ρ1.set i (.own ds)) := by simp only [bOwn, h]
theorem setE {i : Nat} {fe : FE} {ρ ρ1 : Ev} {d : D} (h : fe ρ = some (.dat d, ρ1)) : bSet i fe ρ = some (.nx, ρ1.set i (.dat d)) := by simp only [bSet, h]
theorem eq_nat (a b : Nat) : dEq (dI a) (dI b) = some (.bl (decide (a = b))) := by
  rw [dEq_int]
  congr 2
  by_cases h : a = b
  · simp [h]
  · rw [decide_eq_false h, decide_eq_false (by omega)]
theorem ne_nat (a b : Nat) : dNe (dI a) (dI b) = some (.bl (!decide (a = b))) := by
  rw [dNe_int]
  congr 3
  by_cases h : a = b
  · simp [h]
  · rw [decide_eq_false h, decide_eq_false (by omega)]
theorem le_sum {v : Nat} : ∀ {ws : List Nat}, v ∈ ws → v ≤ ws.sum
  | w :: ws, h => by
    rw [List.sum_cons]
    rcases List.mem_cons.mp h with e | e
    · omega
    · have := le_sum e; omega
end SC

set_option Elab.async false
set_option linter.all false
set_option maxRecDepth 100000
namespace SC
open PySem PySem.Spec PyProof.Rows L2

theorem bindE {p : Pt} {fe : FE} {d : D} {ρ ρ1 ρ2 : Ev} (h : fe ρ = some (.dat d, ρ1)) (h2 : bindPt p d ρ1 = some ρ2) : bBind p fe ρ = some (.nx, ρ2) := by
  simp only [bBind, h, h2]
theorem forl_cons {p : Pt} {fb : FB} {d : D} {ds : List D} {ρ ρa ρb : Ev} {r : Option (Fw × Ev)} (h1 : bindPt p d ρ = some ρa) (h2 : fb ρa = some (.nx, ρb)) (h3 : forL p fb ds ρb = r) : forL p fb (d :: ds) ρ = r := by
  simp only [forL, h1, h2, h3]
end SC

set_option Elab.async false
set_option linter.all false
set_option maxRecDepth 100000
namespace SC
open PySem PySem.Spec PyProof.Rows L2

/-! ### texts of plans -/
abbrev St (l : List Nat) : Str := SX.S l
def numS (n : Nat) : D := .str (St (TL.numL n))
theorem dStr_nat {n : Nat} (h : n < 2 ^ 21) : dStr [dI n] = some (numS n) := by
  have h1 : (n : Int).natAbs.log2 < 1920 := by
    rw [Int.natAbs_natCast]
    have := log2_le h
    omega
  simp only [dStr, if_pos h1]
  rw [show (toString (n : Int) : Str) = St (TL.numL n) from TL.ext_tl (TL.tl_num n)]
  rfl
theorem numL_le2 {n : Nat} (h : n ≤ 99) : (TL.numL n).length ≤ 2 := TL.numL_len (k := 2) (by decide) (by omega)
theorem joinL_len (S : List Nat) : ∀ ps : List (List Nat), (TL.joinL S ps).length ≤ (ps.map List.length).sum + ps.length * S.length
  | [] => by simp [TL.joinL]
  | [p] => by simp [TL.joinL]
  | p :: q :: r => by
    have ih := joinL_len S (q :: r)
    simp only [TL.joinL, List.length_append, List.map_cons, List.sum_cons, List.length_cons, Nat.add_mul, Nat.one_mul] at ih ⊢
    omega
theorem lenS_sum {A : Nat} : ∀ (ps : List (List Nat)), (∀ p ∈ ps, p.length ≤ A) → (ps.map List.length).sum ≤ ps.length * A
  | [], _ => by simp
  | p :: ps, h => by
    have h1 := h p List.mem_cons_self
    have ih := lenS_sum ps fun q hq => h q (List.mem_cons_of_mem _ hq)
    simp only [List.map_cons, List.sum_cons, List.length_cons, Nat.add_mul, Nat.one_mul]
    omega
theorem strsD_map : ∀ zs : List Str, strsD (zs.map .str) = some zs
  | [] => rfl
  | z :: zs => by show (strsD (zs.map .str)).map (z :: ·) = _; rw [strsD_map zs]; rfl
theorem join_ok {sep : List Nat} {ps : List (List Nat)} {A : Nat} (h : ∀ p ∈ ps, p.length ≤ A) (hA : ps.length * A + ps.length * sep.length ≤ 16777216) :
    smJoin (St sep) (.lst (ps.map fun p => .str (St p))) = some (.str (St (TL.joinL sep ps))) := by
  have e : (ps.map fun p => D.str (St p)) = (ps.map St).map .str := by rw [List.map_map]; rfl
  have hs : ((ps.map St).map (·.length)).sum + (ps.map St).length * (St sep).length ≤ 16777216 := by
    rw [SX.lens, List.length_map, SX.S_len]
    have h3 : (ps.map fun (x : List Nat) => x.length).sum ≤ ps.length * A := lenS_sum ps h
    omega
  simp only [smJoin, seqS, e, strsD_map, if_pos hs]
  congr 2
  refine TL.ext_tl ?_
  rw [TL.join_eq, TL.tl_join, SX.map_S_tl]
def lineL (ws : List Nat) : List Nat := TL.joinL [32] (ws.map TL.numL)
theorem line_len {ws : List Nat} (h : ∀ w ∈ ws, w ≤ 20) : (lineL ws).length ≤ 3 * ws.length := by
  have h1 := joinL_len [32] (ws.map TL.numL)
  have h2 := lenS_sum (A := 2) (ws.map TL.numL) (fun p hp => by
    obtain ⟨w, hw, rfl⟩ := List.mem_map.mp hp
    exact numL_le2 (Nat.le_trans (h w hw) (by decide)))
  simp only [List.length_map, List.length_cons, List.length_nil] at h1 h2
  unfold lineL
  omega
theorem joinL_nil : ∀ ps : List (List Nat), TL.joinL [] ps = ps.flatten
  | [] => rfl
  | [p] => by simp [TL.joinL]
  | p :: q :: r => by
    show p ++ ([] ++ TL.joinL [] (q :: r)) = _
    rw [joinL_nil (q :: r)]
    simp
theorem flat_join : ∀ (l : List Nat) (ls : List (List Nat)), ((l :: ls).map (· ++ [10])).flatten = TL.joinL [10] (l :: ls) ++ [10]
  | l, [] => by simp [TL.joinL]
  | l, m :: ls => by
    have ih := flat_join m ls
    rw [List.map_cons, List.flatten_cons, ih]
    simp [TL.joinL]
/-- the separator is not in it -/
theorem numL_no {n c : Nat} (h : c < 48) : c ∉ TL.numL n := TL.numL_free (.inl h)
theorem join_no {c : Nat} {sep : List Nat} (hs : c ∉ sep) : ∀ ps : List (List Nat), (∀ p ∈ ps, c ∉ p) → c ∉ TL.joinL sep ps
  | [], _ => by simp [TL.joinL]
  | [p], h => h p List.mem_cons_self
  | p :: q :: r, h => by
    have ih := join_no hs (q :: r) fun z hz => h z (List.mem_cons_of_mem _ hz)
    have h1 := h p List.mem_cons_self
    simp only [TL.joinL, List.mem_append, not_or]
    exact ⟨h1, hs, ih⟩
theorem line_no (ws : List Nat) : 10 ∉ lineL ws := join_no (by decide) _ fun p hp => by
  obtain ⟨w, _, rfl⟩ := List.mem_map.mp hp
  exact numL_no (by decide)
theorem split_ok {c : Nat} {ps : List (List Nat)} (hc : c < 256) (hne : ps ≠ []) (h : ∀ p ∈ ps, c ∉ p) : Txt.split (St (TL.joinL [c] ps)) (St [c]) = ps.map St := by
  have e : St (TL.joinL [c] ps) = Txt.join (St [c]) (ps.map St) := TL.ext_tl (by rw [TL.join_eq, TL.tl_join, SX.map_S_tl])
  rw [e]
  refine TL.split_join (s := c) (S := []) rfl ?_ (fun z => hne (List.map_eq_nil_iff.mp z)) fun p hp => ?_
  · exact SX.all256 (by simp [hc])
  · obtain ⟨q, hq, rfl⟩ := List.mem_map.mp hp
    exact h q hq
theorem starts_ok (a b : List Nat) : Txt.startswith (St (a ++ b)) (St a) = true := by
  unfold Txt.startswith
  rw [SX.S_len, SX.S_len, Bool.and_eq_true]
  refine ⟨decide_eq_true (by rw [List.length_append]; omega), ?_⟩
  rw [PySem.StrLaws.subAt_eq, SX.S_len]
  show ((((a ++ b).drop 0).take a.length) == a) = true
  rw [List.drop_zero, List.take_left]
  exact beq_self_eq_true _
theorem ends_ok (a b : List Nat) : Txt.endswith (St (a ++ b)) (St b) = true := by
  unfold Txt.endswith
  rw [SX.S_len, SX.S_len, Bool.and_eq_true]
  refine ⟨decide_eq_true (by rw [List.length_append]; omega), ?_⟩
  rw [PySem.StrLaws.subAt_eq, SX.S_len]
  show ((((a ++ b).drop ((a ++ b).length - b.length)).take b.length) == b) = true
  rw [List.length_append, Nat.add_sub_cancel, List.drop_left, List.take_length]
  exact beq_self_eq_true _
theorem mid_ok (a m : List Nat) (c : Nat) (ha : a.length = 9) : Txt.slice (St (a ++ m ++ [c])) (some 9) (some (-1)) = St m := by
  rw [← C8.cutS_slice]
  refine TL.ext_tl ?_
  unfold L2.cutS
  show (((a ++ m ++ [c]).drop (HT.sIx (St (a ++ m ++ [c])).length 0 (some 9))).take (HT.sIx (St (a ++ m ++ [c])).length (St (a ++ m ++ [c])).length (some (-1)) - HT.sIx (St (a ++ m ++ [c])).length 0 (some 9))) = m
  have hl : (St (a ++ m ++ [c])).length = 9 + m.length + 1 := by rw [SX.S_len]; simp [ha]; omega
  have h1 : HT.sIx (9 + m.length + 1) 0 (some 9) = 9 := by simp [HT.sIx]; omega
  have h2 : HT.sIx (9 + m.length + 1) (9 + m.length + 1) (some (-1)) = 9 + m.length := by simp [HT.sIx]; omega
  rw [hl, h1, h2, Nat.add_sub_cancel_left, List.append_assoc, ← ha, List.drop_left, List.take_left]
end SC

set_option Elab.async false
set_option linter.all false
set_option maxRecDepth 100000
namespace SC
open PySem PySem.Spec PyProof.Rows L2

/-! ### checks of plans -/
theorem isiE {g : D → Option Bool} {fa : FE} {ρ ρ1 : Ev} {o : Opd} {d : D} {b : Bool} (h : fa ρ = some (o, ρ1)) (hd : o.get ρ1 = some d) (hg : g d = some b) : fIsi g fa ρ = some (.dat (.bl b), ρ1) := by
  simp only [fIsi, h, hd, hg]
theorem chainT {g g' : D → D → Option D} {fa fb fc : FE} {ρ ρ1 ρ2 ρ3 : Ev} {d e f r : D} (h1 : fa ρ = some (.dat d, ρ1)) (h2 : fb ρ1 = some (.dat e, ρ2)) (hg : g d e = some (.bl true)) (h3 : fc ρ2 = some (.dat f, ρ3)) (hg' : g' e f = some r) : fChain g g' fa fb fc ρ = some (.dat r, ρ3) := by
  simp only [fChain, h1, h2, hg, h3, hg']
theorem chainF {g g' : D → D → Option D} {fa fb fc : FE} {ρ ρ1 ρ2 : Ev} {d e : D} (h1 : fa ρ = some (.dat d, ρ1)) (h2 : fb ρ1 = some (.dat e, ρ2)) (hg : g d e = some (.bl false)) : fChain g g' fa fb fc ρ = some (.dat (.bl false), ρ2) := by
  simp only [fChain, h1, h2, hg]
theorem le_nat (a b : Nat) : dCmp (fun i j => decide (i ≤ j)) (dI a) (dI b) = some (.bl (decide (a ≤ b))) := by
  simp only [dCmp, Int.ofNat_le]
theorem gt_nat (a b : Nat) : dCmp (fun i j => decide (j < i)) (dI a) (dI b) = some (.bl (decide (b < a))) := by
  simp only [dCmp, Int.ofNat_lt]
theorem isint_ok (a : Nat) : Ret g_is_integer [.dat (dI a)] (.bl true) := ⟨[.dat (dI a)], rfl, Nat.le_refl _⟩
theorem btw_ok {a lo hi : Nat} (h1 : lo ≤ a) (h2 : a ≤ hi) : Ret g_is_between [.dat (dI a), .dat (dI lo), .dat (dI hi)] (.bl true) := by
  refine ⟨[.dat (dI a), .dat (dI lo), .dat (dI hi)], ?_, Nat.le_refl _⟩
  have b : d_is_between [.dat (dI a), .dat (dI lo), .dat (dI hi)] = some (.rt (.bl true), [.dat (dI a), .dat (dI lo), .dat (dI hi)]) :=
    retE (andVT (testE (callD1 rfl (isint_ok a))) (chainT rfl rfl ((le_nat lo a).trans (by rw [decide_eq_true h1])) rfl ((le_nat a hi).trans (by rw [decide_eq_true h2]))))
  show frD (d_is_between [.dat (dI a), .dat (dI lo), .dat (dI hi)]) = _
  rw [b]
  rfl
theorem allB_true {α : Type} (l : List α) : allB (l.map fun _ => D.bl true) = some (l.map fun _ => true) := by
  have := allB_map (l.map fun _ => true)
  rw [List.map_map] at this
  exact this
theorem dAll_true {α : Type} (l : List α) : dAll [.lst (l.map fun _ => D.bl true)] = some (.bl true) := by
  simp only [dAll, allB_true, Option.map_some]
  simp
theorem slcTo {fa fb : FE} {ρ ρ1 ρ2 : Ev} {ds : List D} {k : Nat} (h1 : fa ρ = some (.dat (.tup ds), ρ1)) (h2 : fb ρ1 = some (.dat (dI k), ρ2)) (hk : k ≤ ds.length) : fSlc fa fNoPart (fPart fb) ρ = some (.dat (.tup (ds.take k)), ρ2) := by
  simp only [fSlc, h1, fNoPart, fPart, h2, Opd.get, dSlc, cut_lo hk]
theorem slcFrom {fa fb : FE} {ρ ρ1 ρ2 : Ev} {ds : List D} {k : Nat} (h1 : fa ρ = some (.dat (.tup ds), ρ1)) (h2 : fb ρ1 = some (.dat (dI k), ρ2)) (hk : k ≤ ds.length) : fSlc fa (fPart fb) fNoPart ρ = some (.dat (.tup (ds.drop k)), ρ2) := by
  simp only [fSlc, h1, fNoPart, fPart, h2, Opd.get, dSlc, cut_hi hk]
theorem row_len {p n i : Nat} {ws : List Nat} (h : Row p n i ws) : (nl ws).length = p + n := by rw [nl, List.length_map, h.len]
theorem itmE {fa : FE} {ρ ρ1 : Ev} {o : Opd} {d : D} {ds : List D} (h : fa ρ = some (o, ρ1)) (hd : o.get ρ1 = some d) (hw : walkD d = some ds) : sItm fa ρ = some (ds, [o], ρ1) := by
  simp only [sItm, h, hd, hw]
theorem lenD' {c : Nat} {g : FG} {fa : FE} {ρ ρ1 : Ev} {d r : D} (h : fa ρ = some (.dat d, ρ1)) (hi : insOf (some d) = none) (hl : dLen [d] = some r) : fLen c g fa ρ = some (.dat r, ρ1) := by
  simp only [fLen, h, Opd.get, hi]
  exact bltE (consE h rfl) rfl hl
theorem isrow_ok {p n i : Nat} {ws : List Nat} (hp : p ≤ 4) (hn : n ≤ 4) (hi : i < n) (h : Row p n i ws) : Ret g_is_row [.dat (rowD ws), .dat (dI p), .dat (dI n), .dat (dI i)] (.bl true) := by
  have hl := row_len h
  refine ⟨[.dat (rowD ws), .dat (dI p), .dat (dI n), .dat (dI i), .un], ?_, by simp⟩
  have hlen : dLen [rowD ws] = some (dI (p + n)) := by
    show some (D.int ((nl ws).length : Nat)) = _
    rw [hl]
  have lc : nLc [4] (.nm 4) (sItm (fVar 0)) (fYes) (fCall g_is_between [] (fCons (fVar 4) (fCons (fC (.int 0)) (fCons (fC (.int 20)) (fNil))))) [.dat (rowD ws), .dat (dI p), .dat (dI n), .dat (dI i), .un] = some ((nl ws).map fun _ => .bl true, [.dat (rowD ws), .dat (dI p), .dat (dI n), .dat (dI i), .un]) :=
    nLc_map (fun _ => .bl true) (itmE rfl rfl rfl) (getAll_dat _) (by rw [show ((nl ws).length) = p + n from hl]; exact Nat.le_trans (Nat.add_le_add hp hn) (by decide)) (fun d hd => by
      obtain ⟨w, hw, rfl⟩ := List.mem_map.mp hd
      exact ⟨[.dat (rowD ws), .dat (dI p), .dat (dI n), .dat (dI i), .dat (dI w)], rfl, _, callD3 rfl rfl rfl (btw_ok (lo := 0) (hi := 20) (Nat.zero_le _) (h.le w hw)), rfl⟩)
  have hz : dIdx (rowD ws) (dI (p + i)) = some (dI 0) := idx_natT (by rw [List.getElem?_map, h.own]; rfl)
  have hs : dSum [.tup ((nl ws).take p)] = some (dI (ws.take p).sum) := by
    rw [nl, ← List.map_take]
    exact dSum_tup _
  have b : d_is_row [.dat (rowD ws), .dat (dI p), .dat (dI n), .dat (dI i), .un] = some (.rt (.bl true), [.dat (rowD ws), .dat (dI p), .dat (dI n), .dat (dI i), .un]) := by
    refine seqE (ifF (orF (notE (testE (isiE (d := rowD ws) (b := true) rfl rfl rfl))) (testE (binE (lenD' rfl rfl hlen) (binE rfl rfl (add_ok p n)) ((ne_nat _ _).trans (by rw [decide_eq_true rfl]; rfl))))) rfl) ?_
    refine seqE (ifF (notE (testE (bltE (ds := [.lst ((nl ws).map fun _ => .bl true)]) (consE (fnewE lc) rfl) rfl (dAll_true _)))) rfl) ?_
    exact retE (andVT (testE (binE (bltE (ds := [.tup ((nl ws).take p)]) (consE (slcTo rfl rfl (by rw [show (List.map (fun (w : Nat) => D.int (w : Int)) ws).length = p + n from hl]; omega)) rfl) rfl hs) (e := dI 0) rfl ((gt_nat _ _).trans (by rw [decide_eq_true h.pos])))) (binE (binE rfl (binE rfl rfl (add_ok p i)) hz) (e := dI 0) rfl ((eq_nat 0 0).trans rfl)))
  show frD (d_is_row [.dat (rowD ws), .dat (dI p), .dat (dI n), .dat (dI i), .un]) = _
  rw [b]
  rfl
theorem enumD_len (ds : List D) (k : Nat) : (enumD k ds).length = ds.length := enumD_length ds k
theorem arerows_ok {p : Nat} {rows : List (List Nat)} (h : VP p rows) {d : D} (hd : seqD d = some (rows.map rowD)) (hl : dLen [d] = some (dI rows.length)) : Ret g_are_rows [.dat d, .dat (dI p)] (.bl true) := by
  refine ⟨[.dat d, .dat (dI p), .un, .un], ?_, by simp⟩
  have hsrc : sEnm (fCons (fVar 0) fNil) [.dat d, .dat (dI p), .un, .un] = some (enumD 0 (rows.map rowD), [.dat d], [.dat d, .dat (dI p), .un, .un]) := by
    simp only [sEnm, fCons, fVar, fNil, List.getElem?_cons_zero, Opd.get, hd]
  have lc : nLc [2, 3] (.tp [2, 3]) (sEnm (fCons (fVar 0) (fNil))) (fYes) (fCall g_is_row [] (fCons (fVar 3) (fCons (fVar 1) (fCons (fBlt dLen (fCons (fVar 0) fNil)) (fCons (fVar 2) (fNil)))))) [.dat d, .dat (dI p), .un, .un] = some (rows.map fun _ => .bl true, [.dat d, .dat (dI p), .un, .un]) :=
    nLc_ix (rows.map fun _ => .bl true) hsrc (getAll_dat _) (by rw [enumD_len, List.length_map]; exact Nat.le_trans h.n4 (by decide)) (by rw [enumD_len, List.length_map, List.length_map]) (fun k e y hk hy => by
      rw [enumD_get, List.getElem?_map] at hk
      obtain ⟨e1, h1, rfl⟩ := Option.map_eq_some_iff.mp hk
      obtain ⟨ws, h2, rfl⟩ := Option.map_eq_some_iff.mp h1
      rw [List.getElem?_map, h2] at hy
      cases hy
      rw [Nat.zero_add]
      refine ⟨[.dat d, .dat (dI p), .dat (dI k), .dat (rowD ws)], _, rfl, callD4 rfl rfl (bltE (ds := [d]) (consE rfl rfl) rfl hl) rfl (isrow_ok h.p4 h.n4 (List.getElem?_eq_some_iff.mp h2).1 (h.row k ws h2)), rfl⟩)
  have b : d_are_rows [.dat d, .dat (dI p), .un, .un] = some (.rt (.bl true), [.dat d, .dat (dI p), .un, .un]) :=
    retE (bltE (ds := [.lst (rows.map fun _ => .bl true)]) (consE (fnewE lc) rfl) rfl (dAll_true _))
  show frD (d_are_rows [.dat d, .dat (dI p), .un, .un]) = _
  rw [b]
  rfl
theorem row_tm {p n i : Nat} {ws : List Nat} (h : Row p n i ws) : Tm 1 ((p + n) * 642 + 3) (rowD ws) := by
  have := tm_tup (k := 0) (w := 640) (ds := nl ws) (fun d hd => by
    obtain ⟨w, hw, rfl⟩ := List.mem_map.mp hd
    exact tm_nat (L := 5) (Nat.lt_of_le_of_lt (h.le w hw) (by decide)) (by decide))
  rw [row_len h] at this
  exact this
theorem rows_mem {p : Nat} {rows : List (List Nat)} (h : VP p rows) : ∀ d ∈ rows.map rowD, Tm 1 5200 d := fun d hd => by
  obtain ⟨ws, hw, rfl⟩ := List.mem_map.mp hd
  obtain ⟨i, hi⟩ := List.mem_iff_getElem?.mp hw
  refine (row_tm (h.row i ws hi)).mono (Nat.le_refl _) ?_
  have := h.p4
  have := h.n4
  omega
theorem rows_tm {p : Nat} {rows : List (List Nat)} (h : VP p rows) : Tm 2 20900 (.tup (rows.map rowD)) := by
  refine (tm_tup (rows_mem h)).mono (Nat.le_refl _) ?_
  rw [List.length_map]
  have := h.n4
  omega
theorem seq_lst (ds : List D) : seqD (.lst ds) = some ds := rfl
theorem callI_ok {p : Nat} {rows : List (List Nat)} (h : VP p rows) : i_Plan___init__ (dI p :: rows.map rowD) = some [dI p, .tup (rows.map rowD)] := by
  have hlen : (dI p :: rows.map rowD).length = rows.length + 1 := by simp
  show initS 0 1 g_Plan___init__ (dI p :: rows.map rowD) = _
  unfold initS
  rw [if_pos ⟨by rw [hlen]; omega, by rw [hlen]; exact Nat.le_trans (Nat.succ_le_succ h.n4) (by decide)⟩]
  have hg : Ret g_are_rows [.dat (.tup (rows.map rowD)), .dat (dI p)] (.bl true) := arerows_ok h rfl (by show some (D.int ((rows.map rowD).length : Nat)) = _; rw [List.length_map])
  have hne : dEq (.tup (rows.map rowD)) (.tup []) = some (.bl false) := by
    obtain ⟨ws, rs, e⟩ : ∃ ws rs, rows = ws :: rs := by
      cases hr : rows with
      | nil => have := h.n1; rw [hr] at this; simp at this
      | cons a b => exact ⟨a, b, rfl⟩
    obtain ⟨q, e1, t1⟩ := rows_tm h
    have s1 : shD (.tup (rows.map rowD)) = true := Tm.sh ⟨q, e1, t1⟩ (by decide)
    have s2 : shD (.tup []) = true := rfl
    have e3 : eqD (.tup (rows.map rowD)) (.tup []) = false := by
      rw [e, List.map_cons] at e1 ⊢
      simp only [toP, toPs] at e1
      cases h4 : toP (rowD ws) with
      | none => rw [h4] at e1; simp at e1
      | some p1 =>
        cases h5 : toPs (rs.map rowD) with
        | none => rw [h4, h5] at e1; simp at e1
        | some p2 =>
          simp only [eqD, toP, toPs, h4, h5, Option.map_some]
          simp [PyData.eqv, PyData.eqvAll]
    simp only [dEq, s1, s2, e3]
    rfl
  have hle : dLen [.tup (rows.map rowD)] = some (dI rows.length) := by
    show some (D.int ((rows.map rowD).length : Nat)) = _
    rw [List.length_map]
  have b : d_Plan___init__ [.obj 0 [], .dat (dI p), .dat (.tup (rows.map rowD))] = some (.nx, [.obj 0 [dI p, .tup (rows.map rowD)], .dat (dI p), .dat (.tup (rows.map rowD))]) := by
    refine seqE (ifF (notE (testE (callD3 rfl rfl rfl (btw_ok (lo := 1) (hi := 4) h.p1 h.p4)))) rfl) ?_
    refine seqE (ifF (testE (binE (bltE (ds := [.tup (rows.map rowD)]) (consE rfl rfl) rfl hle) (e := dI 4) rfl ((gt_nat _ _).trans (by rw [decide_eq_false (by have := h.n4; omega)])))) rfl) ?_
    refine seqE (ifF (orF (testE (binE rfl (dispE (c := .tup) (ds := []) rfl rfl (by decide)) hne)) (notE (testE (callD2 rfl rfl hg)))) rfl) ?_
    rfl
  show outI 0 (frD (d_Plan___init__ [.obj 0 [], .dat (dI p), .dat (.tup (rows.map rowD))])) = _
  rw [b]
  rfl
def planD (p : Nat) (rows : List (List Nat)) : D := .ins 0 [dI p, .tup (rows.map rowD)]
end SC

set_option Elab.async false
set_option linter.all false
set_option maxRecDepth 100000
namespace SC
open PySem PySem.Spec PyProof.Rows L2

/-! ### a row drawn -/
theorem nAddE {fa fb : FE} {ρ ρ1 ρ2 : Ev} {o q : Opd} {ds es : List D} (h1 : fa ρ = some (o, ρ1)) (h2 : fb ρ1 = some (q, ρ2)) (g1 : o.get ρ2 = some (.lst ds)) (g2 : q.get ρ2 = some (.lst es)) (hl : ds.length + es.length ≤ sLn) : nAdd fa fb ρ = some (ds ++ es, ρ2) := by
  simp only [nAdd, h1, h2, g1, g2, if_pos hl]
theorem rdraw_ok {N p n m : Nat} {s : Sl} (hpn : p + n ≤ 8) (hm0 : 0 < m) (hm : m < 2 ^ 21) (hs : PenOk N s) (hN : N + 8 < 2 ^ 60) (a3 a4 a6 a7 a8 a9 : Sl) :
    ∃ (ws : List Nat) (s' : Sl), nLc [8] (.nm 8) (sRng (fCons (fBin dAdd (fVar 1) (fVar 2)) (fNil))) (fYes) (fCall g__law_draw [] (fCons (fVar 0) (fCons (fVar 5) (fNil)))) [s, .dat (dI p), .dat (dI n), a3, a4, .dat (dI m), a6, a7, a8, a9] = some (nl ws, [s', .dat (dI p), .dat (dI n), a3, a4, .dat (dI m), a6, a7, a8, a9]) ∧ PenOk (N + 8) s' ∧ ws.length = p + n ∧ ∀ w ∈ ws, w < m := by
  have inv := lc_inv (own := [8]) (p := .nm 8) (os := []) (es := []) (ft := fYes) (fe := fCall g__law_draw [] (fCons (fVar 0) (fCons (fVar 5) (fNil))))
    (fun acc ρ => ∃ (s' b8 : Sl) (ws : List Nat), ρ = [s', .dat (dI p), .dat (dI n), a3, a4, .dat (dI m), a6, a7, b8, a9] ∧ PenOk (N + acc.length) s' ∧ acc = nl ws ∧ ∀ w ∈ ws, w < m) (fun _ => rfl) (rangeD 0 (p + n)) [] [s, .dat (dI p), .dat (dI n), a3, a4, .dat (dI m), a6, a7, a8, a9] (fun k d hk acc ρ hl hI => by
      obtain ⟨s', b8, ws, rfl, h1, h2, h3⟩ := hI
      obtain ⟨_, hkp⟩ := rng_get (p + n) k d hk
      simp only [List.length_nil, Nat.zero_add] at hl
      obtain ⟨w, s2, e, h4, h5⟩ := draw_c m hm0 hm [.dat (dI p), .dat (dI n), a3, a4, .dat (dI m), a6, a7, .dat d, a9] h1 (by omega) (fb := fVar 5) rfl
      refine ⟨_, _, dI w, _, rfl, rfl, e, s2, .dat d, ws ++ [w], rfl, ?_, ?_, ?_⟩
      · exact h4.mono (by rw [List.length_append, List.length_singleton]; omega)
      · rw [h2, nl, nl, List.map_append]; rfl
      · intro v hv
        rcases List.mem_append.mp hv with hv | hv
        · exact h3 v hv
        · rw [List.mem_singleton.mp hv]; exact h5) ⟨s, a8, [], rfl, hs, rfl, fun _ z => nomatch z⟩
  obtain ⟨out, ρ', e, ⟨s', b8, ws, rfl, h1, h2, h3⟩, hl⟩ := inv
  rw [rng_len, List.length_nil, Nat.zero_add] at hl
  refine ⟨ws, s', ?_, h1.mono (by omega), by rw [← hl, h2, nl, List.length_map], h3⟩
  have hsrc : sRng (fCons (fBin dAdd (fVar 1) (fVar 2)) fNil) [s, .dat (dI p), .dat (dI n), a3, a4, .dat (dI m), a6, a7, a8, a9] = some (rangeD 0 (p + n), [], [s, .dat (dI p), .dat (dI n), a3, a4, .dat (dI m), a6, a7, a8, a9]) := sRng_ok (n := p + n) (binE rfl rfl (add_ok p n)) (by omega)
  have hlen : (rangeD 0 (p + n)).length ≤ sLn := by rw [rng_len]; exact Nat.le_trans hpn (by decide)
  simp only [nLc, hsrc, getAll, if_pos hlen, e, h2]
  rfl
/-- some weights for centres set to 0 -/
theorem rzero_ok {N p : Nat} {s : Sl} {ws : List Nat} (hl8 : ws.length ≤ 8) (hp : p ≤ ws.length) (hw : ∀ w ∈ ws, w ≤ 20) (hs : PenOk N s) (hN : N + 8 < 2 ^ 60) (a2 a3 a4 a5 a7 a8 a9 : Sl) :
    ∃ (vs : List Nat) (s' : Sl), nLc [9] (.nm 9) (sItm (fSlc (fVar 6) (fPart (fVar 1)) (fNoPart))) (fYes) (fIf (fTest (fBin (dEq) (fCall g__law_draw [] (fCons (fVar 0) (fCons (fC (.int 3)) (fNil)))) (fC (.int 0)))) (fVar 9) (fC (.int 0))) [s, .dat (dI p), a2, a3, a4, a5, .own (nl ws), a7, a8, a9] = some (nl vs, [s', .dat (dI p), a2, a3, a4, a5, .own (nl ws), a7, a8, a9]) ∧ PenOk (N + 8) s' ∧ vs.length = ws.length - p ∧ ∀ w ∈ vs, w ≤ 20 := by
  have hnl : p ≤ (nl ws).length := by rw [nl, List.length_map]; exact hp
  have inv := lc_inv (own := [9]) (p := .nm 9) (os := [.dat (.lst ((nl ws).drop p))]) (es := [.lst ((nl ws).drop p)]) (ft := fYes) (fe := fIf (fTest (fBin (dEq) (fCall g__law_draw [] (fCons (fVar 0) (fCons (fC (.int 3)) (fNil)))) (fC (.int 0)))) (fVar 9) (fC (.int 0)))
    (fun acc ρ => ∃ (s' b9 : Sl) (vs : List Nat), ρ = [s', .dat (dI p), a2, a3, a4, a5, .own (nl ws), a7, a8, b9] ∧ PenOk (N + acc.length) s' ∧ acc = nl vs ∧ ∀ w ∈ vs, w ≤ 20) (fun _ => rfl) ((nl ws).drop p) [] [s, .dat (dI p), a2, a3, a4, a5, .own (nl ws), a7, a8, a9] (fun k d hk acc ρ hl hI => by
      obtain ⟨s', b9, vs, rfl, h1, h2, h3⟩ := hI
      have hkl := (List.getElem?_eq_some_iff.mp hk).1
      rw [List.length_drop, nl, List.length_map] at hkl
      simp only [List.length_nil, Nat.zero_add] at hl
      rw [nl, ← List.map_drop, List.getElem?_map] at hk
      obtain ⟨v, hv, rfl⟩ := Option.map_eq_some_iff.mp hk
      have hv20 : v ≤ 20 := hw v (List.mem_of_mem_drop (List.mem_of_getElem? hv))
      obtain ⟨q, s2, e, h4, h5⟩ := draw_c 3 (by decide) (by decide) [.dat (dI p), a2, a3, a4, a5, .own (nl ws), a7, a8, .dat (dI v)] h1 (by omega) (fb := fC (.int 3)) rfl
      have key : ∀ x : Nat, x ≤ 20 → ∃ (s' b9 : Sl) (vs : List Nat), ([s2, .dat (dI p), a2, a3, a4, a5, .own (nl ws), a7, a8, .dat (dI v)] : Ev) = [s', .dat (dI p), a2, a3, a4, a5, .own (nl ws), a7, a8, b9] ∧ PenOk (N + (acc ++ [dI x]).length) s' ∧ acc ++ [dI x] = nl vs ∧ ∀ w ∈ vs, w ≤ 20 := fun x hx => by
        refine ⟨s2, _, vs ++ [x], rfl, h4.mono (by rw [List.length_append, List.length_singleton]; omega), by rw [h2, nl, nl, List.map_append]; rfl, fun u hu => ?_⟩
        rcases List.mem_append.mp hu with hu | hu
        · exact h3 u hu
        · rw [List.mem_singleton.mp hu]; exact hx
      have t : fTest (fBin (dEq) (fCall g__law_draw [] (fCons (fVar 0) (fCons (fC (.int 3)) (fNil)))) (fC (.int 0))) [s', .dat (dI p), a2, a3, a4, a5, .own (nl ws), a7, a8, .dat (dI v)] = some (decide (q = 0), [s2, .dat (dI p), a2, a3, a4, a5, .own (nl ws), a7, a8, .dat (dI v)]) := testE (binE e (e := dI 0) rfl (eq_nat q 0))
      by_cases hq : q = 0
      · rw [decide_eq_true hq] at t
        exact ⟨_, _, dI v, _, rfl, rfl, iteT t rfl, key v hv20⟩
      · rw [decide_eq_false hq] at t
        exact ⟨_, _, dI 0, _, rfl, rfl, iteF t rfl, key 0 (by decide)⟩) ⟨s, a9, [], rfl, hs, rfl, fun _ z => nomatch z⟩
  obtain ⟨out, ρ', e, ⟨s', b9, vs, rfl, h1, h2, h3⟩, hl⟩ := inv
  have hdl : ((nl ws).drop p).length = ws.length - p := by rw [List.length_drop, nl, List.length_map]
  rw [hdl, List.length_nil, Nat.zero_add] at hl
  refine ⟨vs, s', ?_, h1.mono (by omega), by rw [← hl, h2, nl, List.length_map], h3⟩
  have hsrc : sItm (fSlc (fVar 6) (fPart (fVar 1)) (fNoPart)) [s, .dat (dI p), a2, a3, a4, a5, .own (nl ws), a7, a8, a9] = some ((nl ws).drop p, [.dat (.lst ((nl ws).drop p))], [s, .dat (dI p), a2, a3, a4, a5, .own (nl ws), a7, a8, a9]) := itmE (slcFromG (k := p) (o := .slot 6) rfl rfl rfl hnl) rfl rfl
  have hlen : ((nl ws).drop p).length ≤ sLn := by rw [hdl]; exact Nat.le_trans (Nat.le_trans (Nat.sub_le _ _) hl8) (by decide)
  simp only [nLc, hsrc, getAll_dat, if_pos hlen, e, h2]
  rfl
theorem nl_take (k : Nat) (ws : List Nat) : (nl ws).take k = nl (ws.take k) := by rw [nl, nl, List.map_take]
theorem nl_drop (k : Nat) (ws : List Nat) : (nl ws).drop k = nl (ws.drop k) := by rw [nl, nl, List.map_drop]
theorem nl_app (a b : List Nat) : nl a ++ nl b = nl (a ++ b) := by rw [nl, nl, nl, List.map_append]
theorem nl_set (k v : Nat) (ws : List Nat) : (nl ws).set k (dI v) = nl (ws.set k v) := by rw [nl, nl, List.map_set]
theorem nl_len (ws : List Nat) : (nl ws).length = ws.length := by rw [nl, List.length_map]
theorem drawrow_dr {p n k way : Nat} (hp0 : 0 < p) (hp : p ≤ 4) (hn : n ≤ 4) (hk : k < n) : Dr 30 g__law_draw_row [.dat (dI p), .dat (dI n), .dat (dI k), .dat (dI way)] (fun r => ∃ ws, Row p n k ws ∧ r = rowD ws) := by
  intro N s hs hN
  -- the greatest weight
  obtain ⟨q, s1, e1, h1, l1⟩ := draw_c 3 (by decide) (by decide) [.dat (dI p), .dat (dI n), .dat (dI k), .dat (dI way), .un, .un, .un, .un, .un] hs (by omega) (fb := fC (.int 3)) rfl
  have hx : ∃ m, ([dI 3, dI 5, dI 21] : List D)[q]? = some (dI m) ∧ 3 ≤ m ∧ m ≤ 21 := by
    match q, l1 with
    | 0, _ => exact ⟨3, rfl, by decide, by decide⟩
    | 1, _ => exact ⟨5, rfl, by decide, by decide⟩
    | 2, _ => exact ⟨21, rfl, by decide, by decide⟩
  obtain ⟨m, hm, hm3, hm21⟩ := hx
  let ρ0 : Ev := [s, .dat (dI p), .dat (dI n), .dat (dI k), .dat (dI way), .un, .un, .un, .un, .un]
  let ρ1 : Ev := [s1, .dat (dI p), .dat (dI n), .dat (dI k), .dat (dI way), .dat (dI m), .un, .un, .un, .un]
  have b1 : bSet 5 (fBin dIdx (fNew (nDisp (fCons (fC (.int 3)) (fCons (fC (.int 5)) (fCons (fC (.int 21)) (fNil)))))) (fCall g__law_draw [] (fCons (fVar 0) (fCons (fC (.int 3)) (fNil))))) ρ0 = some (.nx, ρ1) :=
    setE (ρ1 := [s1, .dat (dI p), .dat (dI n), .dat (dI k), .dat (dI way), .un, .un, .un, .un, .un]) (binE (ρ1 := ρ0) (d := .lst [dI 3, dI 5, dI 21]) (fnewE (newE (consE rfl (consE rfl (consE rfl rfl))) rfl (show 3 ≤ sLn by decide))) e1 (idx_nat hm))
  obtain ⟨ws, s2, e2, h2, l2, w2⟩ := rdraw_ok (p := p) (n := n) (m := m) (by omega) (by omega) (by omega) h1 (by omega) (.dat (dI k)) (.dat (dI way)) .un .un .un .un
  have w2' : ∀ w ∈ ws, w ≤ 20 := fun w hw => by have := w2 w hw; omega
  let ρ2 : Ev := [s2, .dat (dI p), .dat (dI n), .dat (dI k), .dat (dI way), .dat (dI m), .own (nl ws), .un, .un, .un]
  -- few gifts
  have b3 : ∃ (vs : List Nat) (s3 : Sl), bIf (fTest (fBin (dEq) (fVar 4) (fC (.int 0)))) (bOwn 6 (nAdd (fSlc (fVar 6) (fNoPart) (fPart (fVar 1))) (fNew (nLc [9] (.nm 9) (sItm (fSlc (fVar 6) (fPart (fVar 1)) (fNoPart))) (fYes) (fIf (fTest (fBin (dEq) (fCall g__law_draw [] (fCons (fVar 0) (fCons (fC (.int 3)) (fNil)))) (fC (.int 0)))) (fVar 9) (fC (.int 0))))))) (bNx) ρ2 = some (.nx, [s3, .dat (dI p), .dat (dI n), .dat (dI k), .dat (dI way), .dat (dI m), .own (nl vs), .un, .un, .un]) ∧ PenOk (N + 17) s3 ∧ vs.length = p + n ∧ ∀ w ∈ vs, w ≤ 20 := by
    have t : fTest (fBin (dEq) (fVar 4) (fC (.int 0))) ρ2 = some (decide (way = 0), ρ2) := testE (binE (d := dI way) (e := dI 0) rfl rfl (eq_nat way 0))
    by_cases hw0 : way = 0
    · rw [decide_eq_true hw0] at t
      obtain ⟨vs, s3, e3, h3, l3, w3⟩ := rzero_ok (p := p) (ws := ws) (by omega) (by omega) w2' h2 (by omega) (.dat (dI n)) (.dat (dI k)) (.dat (dI way)) (.dat (dI m)) .un .un .un
      refine ⟨ws.take p ++ vs, s3, ?_, h3.mono (by omega), by rw [List.length_append, List.length_take, l3]; omega, fun w hw => ?_⟩
      · refine ifT t ?_
        rw [← nl_app, ← nl_take]
        exact ownE (ρ1 := [s3, .dat (dI p), .dat (dI n), .dat (dI k), .dat (dI way), .dat (dI m), .own (nl ws), .un, .un, .un]) (nAddE (o := .dat (.lst ((nl ws).take p))) (q := .dat (.lst (nl vs))) (slcToG (k := p) (o := .slot 6) rfl rfl rfl (by rw [nl_len]; omega)) (fnewE e3) rfl rfl (by rw [List.length_take, nl_len, nl_len, l3]; exact Nat.le_trans (show min p ws.length + (ws.length - p) ≤ 8 by omega) (by decide)))
      · rcases List.mem_append.mp hw with z | z
        · exact w2' w (List.mem_of_mem_take z)
        · exact w3 w z
    · rw [decide_eq_false hw0] at t
      exact ⟨ws, s2, ifF t rfl, h2.mono (by omega), l2, w2'⟩
  obtain ⟨vs, s3, b3, h3, l3, w3⟩ := b3
  -- the spot
  obtain ⟨sp, s4, e4, h4, l4⟩ := draw_c p hp0 (by omega) [.dat (dI p), .dat (dI n), .dat (dI k), .dat (dI way), .dat (dI m), .own (nl vs), .un, .un, .un] h3 (by omega) (fb := fVar 1) rfl
  let ρ4 : Ev := [s4, .dat (dI p), .dat (dI n), .dat (dI k), .dat (dI way), .dat (dI m), .own (nl vs), .dat (dI sp), .un, .un]
  have b5 : ∃ (us : List Nat) (s5 : Sl), bIf (fTest (fBin (dEq) (fBlt dSum (fCons (fSlc (fVar 6) (fNoPart) (fPart (fVar 1))) (fNil))) (fC (.int 0)))) (bPut 6 (fVar 7) (fBin dAdd (fC (.int 1)) (fCall g__law_draw [] (fCons (fVar 0) (fCons (fBin dSub (fVar 5) (fC (.int 1))) (fNil)))))) (bNx) ρ4 = some (.nx, [s5, .dat (dI p), .dat (dI n), .dat (dI k), .dat (dI way), .dat (dI m), .own (nl us), .dat (dI sp), .un, .un]) ∧ PenOk (N + 20) s5 ∧ us.length = p + n ∧ (∀ w ∈ us, w ≤ 20) ∧ 0 < (us.take p).sum := by
    have t : fTest (fBin (dEq) (fBlt dSum (fCons (fSlc (fVar 6) (fNoPart) (fPart (fVar 1))) (fNil))) (fC (.int 0))) ρ4 = some (decide ((vs.take p).sum = 0), ρ4) :=
      testE (binE (ρ1 := ρ4) (d := dI (vs.take p).sum) (e := dI 0) (bltE (ρ1 := ρ4) (ds := [.lst ((nl vs).take p)]) (consE (slcToG (k := p) (o := .slot 6) rfl rfl rfl (by rw [nl_len]; omega)) rfl) rfl (by rw [nl_take]; exact dSum_lst _)) rfl (eq_nat _ 0))
    by_cases h0 : (vs.take p).sum = 0
    · rw [decide_eq_true h0] at t
      have hsub : dSub (dI m) (dI 1) = some (dI (m - 1)) := by
        show some (D.int ((m : Int) - 1)) = _
        congr 2
        omega
      obtain ⟨x, s5, e5, h5, l5⟩ := draw_c (m - 1) (by omega) (by omega) [.dat (dI p), .dat (dI n), .dat (dI k), .dat (dI way), .dat (dI m), .own (nl vs), .dat (dI sp), .un, .un] h4 (by omega) (fb := fBin dSub (fVar 5) (fC (.int 1))) (binE rfl rfl hsub)
      refine ⟨vs.set sp (1 + x), s5, ?_, h5.mono (by omega), by rw [List.length_set]; exact l3, fun w hw => ?_, ?_⟩
      · refine ifT t ?_
        rw [← nl_set]
        let ρp : Ev := [s5, .dat (dI p), .dat (dI n), .dat (dI k), .dat (dI way), .dat (dI m), .own (nl vs), .dat (dI sp), .un, .un]
        exact putE (i := 6) (j := sp) (k := (sp : Int)) (d := dI (1 + x)) (ds0 := nl vs) (ds := nl vs) (fi := fVar 7) (ρ := ρ4) (ρ1 := ρp) (ρ2 := ρp) (binE (d := dI 1) rfl e5 (add_ok 1 x)) rfl rfl rfl (ixN_nat (by rw [nl_len]; omega))
      · rcases List.mem_or_eq_of_mem_set hw with z | z
        · exact w3 w z
        · omega
      · have hmem : 1 + x ∈ (vs.set sp (1 + x)).take p := by
          rw [List.mem_take_iff_getElem]
          exact ⟨sp, by rw [List.length_set]; omega, by rw [List.getElem_set_self]⟩
        have := le_sum hmem
        omega
    · rw [decide_eq_false h0] at t
      exact ⟨vs, s4, ifF t rfl, h4.mono (by omega), l3, w3, by omega⟩
  obtain ⟨us, s5, b5, h5, l5, w5, z5⟩ := b5
  let ρ5 : Ev := [s5, .dat (dI p), .dat (dI n), .dat (dI k), .dat (dI way), .dat (dI m), .own (nl us), .dat (dI sp), .un, .un]
  let ρ6 : Ev := [s5, .dat (dI p), .dat (dI n), .dat (dI k), .dat (dI way), .dat (dI m), .own (nl (us.set (p + k) 0)), .dat (dI sp), .un, .un]
  have b6 : bPut 6 (fBin dAdd (fVar 1) (fVar 3)) (fC (.int 0)) ρ5 = some (.nx, ρ6) := by
    have := putE (i := 6) (j := p + k) (fi := fBin dAdd (fVar 1) (fVar 3)) (fe := fC (.int 0)) (ρ := ρ5) (ρ1 := ρ5) (ρ2 := ρ5) (d := dI 0) (k := ((p + k : Nat) : Int)) (ds0 := nl us) (ds := nl us) rfl rfl (binE (d := dI p) (e := dI k) rfl rfl (add_ok p k)) rfl (ixN_nat (by rw [nl_len]; omega))
    rw [nl_set] at this
    exact this
  have row : Row p n k (us.set (p + k) 0) := by
    refine ⟨by rw [List.length_set]; exact l5, fun w hw => ?_, ?_, ?_⟩
    · rcases List.mem_or_eq_of_mem_set hw with z | z
      · exact w5 w z
      · omega
    · rw [List.take_set_of_le (by omega)]; exact z5
    · rw [List.getElem?_set_self (by omega)]
  refine ⟨rowD (us.set (p + k) 0), s5, [.dat (dI p), .dat (dI n), .dat (dI k), .dat (dI way), .dat (dI m), .own (nl (us.set (p + k) 0)), .dat (dI sp), .un, .un], ?_, by simp, h5.mono (by omega), _, row, rfl⟩
  have b : d__law_draw_row ρ0 = some (.rt (rowD (us.set (p + k) 0)), ρ6) := by
    refine seqE b1 ?_
    refine seqE (ρ1 := ρ2) (ownE (ρ1 := [s2, .dat (dI p), .dat (dI n), .dat (dI k), .dat (dI way), .dat (dI m), .un, .un, .un, .un]) e2) ?_
    refine seqE b3 ?_
    refine seqE (ρ1 := ρ4) (setE (ρ1 := [s4, .dat (dI p), .dat (dI n), .dat (dI k), .dat (dI way), .dat (dI m), .own (nl vs), .un, .un, .un]) e4) ?_
    refine seqE b5 ?_
    refine seqE b6 ?_
    exact retE (bltE (ρ1 := ρ6) (os := [.slot 6]) (ds := [.lst (nl (us.set (p + k) 0))]) rfl rfl rfl)
  show frD (d__law_draw_row ρ0) = _
  rw [b]
  rfl
end SC

set_option Elab.async false
set_option linter.all false
set_option maxRecDepth 100000
namespace SC
open PySem PySem.Spec PyProof.Rows L2

/-! ### a plan drawn -/
theorem callP5 {g : FG} {fb fc fd fe : FE} {ρ : Ev} {s s' : Sl} {d1 d2 d3 d4 r : D} {rest : List Sl} {N : Nat} (h0 : ρ[0]? = some s) (hs : PenOk N s) (h1 : fb ρ = some (.dat d1, ρ)) (h2 : fc ρ = some (.dat d2, ρ)) (h3 : fd ρ = some (.dat d3, ρ)) (h4 : fe ρ = some (.dat d4, ρ)) (hg : g [s, .dat d1, .dat d2, .dat d3, .dat d4] = some (r, s' :: rest)) (hl : 4 ≤ rest.length) :
    fCall g [] (fCons (fVar 0) (fCons fb (fCons fc (fCons fd (fCons fe fNil))))) ρ = some (.dat r, ρ.set 0 s') := by
  obtain ⟨x, y, z, rfl, _, _⟩ := hs
  unfold pen at *
  have e : putSl (ρ.set 0 s') [.dat d1, .dat d2, .dat d3, .dat d4] rest = ρ.set 0 s' := put_nil 0 _ _ _ rfl
  simp [fCall, fCons, fNil, fVar, h0, h1, h2, h3, h4, argSl, Sl.mut, slotsOf, hg, putSl, hl, e]
theorem dr_call5 {c N : Nat} {g : FG} {d1 d2 d3 d4 : D} {P : D → Prop} (h : Dr c g [.dat d1, .dat d2, .dat d3, .dat d4] P) {fb fc fd fe : FE} {s : Sl} {ρ : Ev} (hs : PenOk N s) (hN : N + c < 2 ^ 60) (h1 : fb (s :: ρ) = some (.dat d1, s :: ρ)) (h2 : fc (s :: ρ) = some (.dat d2, s :: ρ)) (h3 : fd (s :: ρ) = some (.dat d3, s :: ρ)) (h4 : fe (s :: ρ) = some (.dat d4, s :: ρ)) :
    ∃ r s', fCall g [] (fCons (fVar 0) (fCons fb (fCons fc (fCons fd (fCons fe fNil))))) (s :: ρ) = some (.dat r, s' :: ρ) ∧ PenOk (N + c) s' ∧ P r := by
  obtain ⟨r, s', rest, e, hl, g1, g2⟩ := h N s hs hN
  exact ⟨r, s', callP5 rfl hs h1 h2 h3 h4 e hl, g1, g2⟩
def RowsOk (p n : Nat) (rows : List (List Nat)) : Prop := ∀ i ws, rows[i]? = some ws → Row p n i ws
theorem RowsOk.snoc {p n : Nat} {rows : List (List Nat)} {ws : List Nat} (h : RowsOk p n rows) (hw : Row p n rows.length ws) : RowsOk p n (rows ++ [ws]) := fun j vs hj => by
  by_cases hjl : j < rows.length
  · rw [List.getElem?_append_left hjl] at hj
    exact h j vs hj
  · rw [List.getElem?_append_right (by omega)] at hj
    have hj0 : j - rows.length = 0 := by
      have := (List.getElem?_eq_some_iff.mp hj).1
      simp at this
      omega
    rw [hj0] at hj
    cases hj
    have : j = rows.length := by omega
    rw [this]
    exact hw
theorem prows_dr {N p n way : Nat} {s : Sl} (hp0 : 0 < p) (hp : p ≤ 4) (hn : n ≤ 4) (hs : PenOk N s) (hN : N + 200 < 2 ^ 60) (a4 a5 a6 a7 a8 a9 a10 : Sl) :
    ∃ (rows : List (List Nat)) (s' : Sl), nLc [7] (.nm 7) (sRng (fCons (fVar 2) (fNil))) (fYes) (fCall g__law_draw_row [] (fCons (fVar 0) (fCons (fVar 1) (fCons (fVar 2) (fCons (fVar 7) (fCons (fVar 3) (fNil))))))) [s, .dat (dI p), .dat (dI n), .dat (dI way), a4, a5, a6, a7, a8, a9, a10] = some (rows.map rowD, [s', .dat (dI p), .dat (dI n), .dat (dI way), a4, a5, a6, a7, a8, a9, a10]) ∧ PenOk (N + 120) s' ∧ rows.length = n ∧ RowsOk p n rows := by
  have inv := lc_inv (own := [7]) (p := .nm 7) (os := []) (es := []) (ft := fYes) (fe := fCall g__law_draw_row [] (fCons (fVar 0) (fCons (fVar 1) (fCons (fVar 2) (fCons (fVar 7) (fCons (fVar 3) (fNil)))))))
    (fun acc ρ => ∃ (s' b7 : Sl) (rows : List (List Nat)), ρ = [s', .dat (dI p), .dat (dI n), .dat (dI way), a4, a5, a6, b7, a8, a9, a10] ∧ PenOk (N + 30 * acc.length) s' ∧ acc = rows.map rowD ∧ RowsOk p n rows) (fun _ => rfl) (rangeD 0 n) [] [s, .dat (dI p), .dat (dI n), .dat (dI way), a4, a5, a6, a7, a8, a9, a10] (fun k d hk acc ρ hl hI => by
      obtain ⟨s', b7, rows, rfl, h1, h2, h3⟩ := hI
      obtain ⟨rfl, hkp⟩ := rng_get n k d hk
      simp only [List.length_nil, Nat.zero_add] at hl
      have hrl : rows.length = k := by rw [← hl, h2, List.length_map]
      obtain ⟨r, s2, e, h4, ws, h5, rfl⟩ := dr_call5 (drawrow_dr (way := way) hp0 hp hn hkp) (ρ := [.dat (dI p), .dat (dI n), .dat (dI way), a4, a5, a6, .dat (dI k), a8, a9, a10]) h1 (by omega) (fb := fVar 1) (fc := fVar 2) (fd := fVar 7) (fe := fVar 3) rfl rfl rfl rfl
      refine ⟨_, _, rowD ws, _, rfl, rfl, e, s2, .dat (dI k), rows ++ [ws], rfl, ?_, ?_, ?_⟩
      · exact h4.mono (by rw [List.length_append, List.length_singleton]; omega)
      · rw [h2, List.map_append]; rfl
      · rw [← hrl] at h5
        exact h3.snoc h5) ⟨s, a7, [], rfl, hs, rfl, fun _ _ z => by simp at z⟩
  obtain ⟨out, ρ', e, ⟨s', b7, rows, rfl, h1, h2, h3⟩, hl⟩ := inv
  rw [rng_len, List.length_nil, Nat.zero_add] at hl
  refine ⟨rows, s', ?_, h1.mono (by omega), by rw [← hl, h2, List.length_map], h3⟩
  have hsrc : sRng (fCons (fVar 2) fNil) [s, .dat (dI p), .dat (dI n), .dat (dI way), a4, a5, a6, a7, a8, a9, a10] = some (rangeD 0 n, [], [s, .dat (dI p), .dat (dI n), .dat (dI way), a4, a5, a6, a7, a8, a9, a10]) := sRng_ok rfl (by omega)
  have hlen : (rangeD 0 n).length ≤ sLn := by rw [rng_len]; exact Nat.le_trans hn (by decide)
  simp only [nLc, hsrc, getAll, if_pos hlen, e, h2]
  rfl
/-- weights that are common to all rows -/
theorem base_ok {N p : Nat} {s : Sl} (hp0 : 0 < p) (hp : p ≤ 4) (hs : PenOk N s) (hN : N + 8 < 2 ^ 60) (a2 a3 a4 a5 a6 a7 a8 a9 a10 : Sl) :
    ∃ (bs : List Nat) (s' : Sl), fBin dAdd (fNew (nLc [9] (.nm 9) (sRng (fCons (fBin dSub (fVar 1) (fC (.int 1))) (fNil))) (fYes) (fCall g__law_draw [] (fCons (fVar 0) (fCons (fC (.int 5)) (fNil)))))) (fNew (nDisp (fCons (fBin dAdd (fC (.int 1)) (fCall g__law_draw [] (fCons (fVar 0) (fCons (fC (.int 4)) (fNil))))) (fNil)))) [s, .dat (dI p), a2, a3, a4, a5, a6, a7, a8, a9, a10] = some (.dat (.lst (nl bs)), [s', .dat (dI p), a2, a3, a4, a5, a6, a7, a8, a9, a10]) ∧ PenOk (N + 8) s' ∧ bs.length = p ∧ (∀ w ∈ bs, w ≤ 4) ∧ ∃ b ∈ bs, 0 < b := by
  have inv := lc_inv (own := [9]) (p := .nm 9) (os := []) (es := []) (ft := fYes) (fe := fCall g__law_draw [] (fCons (fVar 0) (fCons (fC (.int 5)) (fNil))))
    (fun acc ρ => ∃ (s' b9 : Sl) (ws : List Nat), ρ = [s', .dat (dI p), a2, a3, a4, a5, a6, a7, a8, b9, a10] ∧ PenOk (N + acc.length) s' ∧ acc = nl ws ∧ ∀ w ∈ ws, w ≤ 4) (fun _ => rfl) (rangeD 0 (p - 1)) [] [s, .dat (dI p), a2, a3, a4, a5, a6, a7, a8, a9, a10] (fun k d hk acc ρ hl hI => by
      obtain ⟨s', b9, ws, rfl, h1, h2, h3⟩ := hI
      obtain ⟨_, hkp⟩ := rng_get (p - 1) k d hk
      simp only [List.length_nil, Nat.zero_add] at hl
      obtain ⟨w, s2, e, h4, h5⟩ := draw_c 5 (by decide) (by decide) [.dat (dI p), a2, a3, a4, a5, a6, a7, a8, .dat d, a10] h1 (by omega) (fb := fC (.int 5)) rfl
      refine ⟨_, _, dI w, _, rfl, rfl, e, s2, .dat d, ws ++ [w], rfl, ?_, ?_, ?_⟩
      · exact h4.mono (by rw [List.length_append, List.length_singleton]; omega)
      · rw [h2, nl, nl, List.map_append]; rfl
      · intro v hv
        rcases List.mem_append.mp hv with hv | hv
        · exact h3 v hv
        · rw [List.mem_singleton.mp hv]; omega) ⟨s, a9, [], rfl, hs, rfl, fun _ z => nomatch z⟩
  obtain ⟨out, ρ', e, ⟨s', b9, ws, rfl, h1, h2, h3⟩, hl⟩ := inv
  rw [rng_len, List.length_nil, Nat.zero_add] at hl
  have hwl : ws.length = p - 1 := by rw [← hl, h2, nl_len]
  let ρ0 : Ev := [s, .dat (dI p), a2, a3, a4, a5, a6, a7, a8, a9, a10]
  let ρ1 : Ev := [s', .dat (dI p), a2, a3, a4, a5, a6, a7, a8, a9, a10]
  have hsub : dSub (dI p) (dI 1) = some (dI (p - 1)) := by
    show some (D.int ((p : Int) - 1)) = _
    congr 2
    omega
  have hsrc : sRng (fCons (fBin dSub (fVar 1) (fC (.int 1))) fNil) ρ0 = some (rangeD 0 (p - 1), [], ρ0) := sRng_ok (n := p - 1) (binE rfl rfl hsub) (by omega)
  have hlen : (rangeD 0 (p - 1)).length ≤ sLn := by rw [rng_len]; exact Nat.le_trans (show p - 1 ≤ 4 by omega) (by decide)
  have lc : nLc [9] (.nm 9) (sRng (fCons (fBin dSub (fVar 1) (fC (.int 1))) (fNil))) (fYes) (fCall g__law_draw [] (fCons (fVar 0) (fCons (fC (.int 5)) (fNil)))) ρ0 = some (nl ws, ρ1) := by
    simp only [nLc, hsrc, getAll, if_pos hlen]
    rw [show ρ0 = [s, .dat (dI p), a2, a3, a4, a5, a6, a7, a8, a9, a10] from rfl, e, h2]
    rfl
  obtain ⟨x, s2, e2, h4, l4⟩ := draw_c 4 (by decide) (by decide) [.dat (dI p), a2, a3, a4, a5, a6, a7, a8, a9, a10] h1 (by omega) (fb := fC (.int 4)) rfl
  let ρ2 : Ev := [s2, .dat (dI p), a2, a3, a4, a5, a6, a7, a8, a9, a10]
  refine ⟨ws ++ [1 + x], s2, ?_, h4.mono (by omega), by rw [List.length_append, hwl, List.length_singleton]; omega, fun w hw => ?_, 1 + x, by simp, by omega⟩
  · have hle : (nl ws).length + [dI (1 + x)].length ≤ sLn := by rw [nl_len, hwl]; exact Nat.le_trans (show p - 1 + 1 ≤ 4 by omega) (by decide)
    have ha : dAdd (.lst (nl ws)) (.lst [dI (1 + x)]) = some (.lst (nl ws ++ [dI (1 + x)])) := by simp only [dAdd, if_pos hle]
    rw [← nl_app]
    exact binE (ρ1 := ρ1) (ρ2 := ρ2) (fnewE lc) (fnewE (newE (ρ1 := ρ2) (os := [.dat (dI (1 + x))]) (consE (binE (ρ1 := ρ1) (d := dI 1) rfl e2 (add_ok 1 x)) rfl) rfl (show 1 ≤ sLn by decide))) ha
  · rcases List.mem_append.mp hw with z | z
    · exact h3 w z
    · rw [List.mem_singleton.mp z]; omega
def mixL (p : Nat) (bs : List Nat) : Nat → List (List Nat) → List (List Nat)
  | _, [] => []
  | k, ws :: r => (bs.map (fun b => (1 + k % 4) * b) ++ ws.drop p) :: mixL p bs (k + 1) r
theorem mix_len (p : Nat) (bs : List Nat) : ∀ (rows : List (List Nat)) (k : Nat), (mixL p bs k rows).length = rows.length
  | [], _ => rfl
  | _ :: r, k => by simp [mixL, mix_len p bs r (k + 1)]
theorem mix_get (p : Nat) (bs : List Nat) : ∀ (rows : List (List Nat)) (k i : Nat), (mixL p bs k rows)[i]? = rows[i]?.map fun ws => bs.map (fun b => (1 + (k + i) % 4) * b) ++ ws.drop p
  | [], _, _ => by simp [mixL]
  | _ :: _, k, 0 => by simp [mixL]
  | ws :: r, k, i + 1 => by
    simp only [mixL, List.getElem?_cons_succ]
    rw [mix_get p bs r (k + 1) i, show k + 1 + i = k + (i + 1) by omega]
theorem mix_ok {p n : Nat} {bs : List Nat} {rows : List (List Nat)} (hb : bs.length = p) (h4 : ∀ w ∈ bs, w ≤ 4) (hp : ∃ b ∈ bs, 0 < b) (h : RowsOk p n rows) : RowsOk p n (mixL p bs 0 rows) := fun i vs hi => by
  rw [mix_get, Nat.zero_add] at hi
  obtain ⟨ws, h1, rfl⟩ := Option.map_eq_some_iff.mp hi
  have r := h i ws h1
  have hl : (bs.map (fun b => (1 + i % 4) * b)).length = p := by rw [List.length_map, hb]
  refine ⟨by rw [List.length_append, hl, List.length_drop, r.len]; omega, fun w hw => ?_, ?_, ?_⟩
  · rcases List.mem_append.mp hw with z | z
    · obtain ⟨b, hb', rfl⟩ := List.mem_map.mp z
      have := Nat.mul_le_mul (show 1 + i % 4 ≤ 4 by omega) (h4 b hb')
      omega
    · exact r.le w (List.mem_of_mem_drop z)
  · rw [← hl, List.take_left]
    obtain ⟨b, hb1, hb2⟩ := hp
    have hm : (1 + i % 4) * b ∈ bs.map (fun b => (1 + i % 4) * b) := List.mem_map.mpr ⟨b, hb1, rfl⟩
    have := le_sum hm
    have : 0 < (1 + i % 4) * b := Nat.mul_pos (by omega) hb2
    omega
  · rw [List.getElem?_append_right (by omega), hl, Nat.add_sub_cancel_left, List.getElem?_drop]
    exact r.own
theorem mixed_ok {p n way : Nat} {bs : List Nat} {rows : List (List Nat)} (hp : p ≤ 4) (hn : n ≤ 4) (hrl : rows.length = n) (hb : bs.length = p) (hb4 : ∀ w ∈ bs, w ≤ 4) (h : RowsOk p n rows) (s a6 : Sl) :
    nLc [7, 8] (.tp [7, 8]) (sEnm (fCons (fVar 4) (fNil))) (fYes) (fBin dAdd (fBlt dTuple (fCons (fNew (nLc [10] (.nm 10) (sItm (fVar 5)) (fYes) (fBin dMul (fBin dAdd (fC (.int 1)) (fBin dMod (fVar 7) (fC (.int 4)))) (fVar 10)))) (fNil))) (fSlc (fVar 8) (fPart (fVar 1)) (fNoPart)))
      [s, .dat (dI p), .dat (dI n), .dat (dI way), .own (rows.map rowD), .dat (.lst (nl bs)), a6, .un, .un, .un, .un] = some ((mixL p bs 0 rows).map rowD, [s, .dat (dI p), .dat (dI n), .dat (dI way), .own (rows.map rowD), .dat (.lst (nl bs)), a6, .un, .un, .un, .un]) := by
  have hs : sEnm (fCons (fVar 4) (fNil)) [s, .dat (dI p), .dat (dI n), .dat (dI way), .own (rows.map rowD), .dat (.lst (nl bs)), a6, .un, .un, .un, .un] = some (enumD 0 (rows.map rowD), [.slot 4], [s, .dat (dI p), .dat (dI n), .dat (dI way), .own (rows.map rowD), .dat (.lst (nl bs)), a6, .un, .un, .un, .un]) := rfl
  refine nLc_ixO (es := [.lst (rows.map rowD)]) _ hs rfl rfl (by rw [enumD_len, List.length_map, hrl]; exact Nat.le_trans hn (by decide)) (by rw [enumD_len, List.length_map, List.length_map, mix_len]) (fun k d y hk hy => ?_)
  rw [enumD_get, List.getElem?_map] at hk
  obtain ⟨d0, hd0, rfl⟩ := Option.map_eq_some_iff.mp hk
  obtain ⟨ws, h1, rfl⟩ := Option.map_eq_some_iff.mp hd0
  rw [List.getElem?_map, mix_get, h1] at hy
  cases hy
  simp only [Nat.zero_add]
  have r := h k ws h1
  have hkn : k < n := by have := (List.getElem?_eq_some_iff.mp h1).1; omega
  let ρa : Ev := [s, .dat (dI p), .dat (dI n), .dat (dI way), .own (rows.map rowD), .dat (.lst (nl bs)), a6, .dat (dI k), .dat (rowD ws), .un, .un]
  have lc : nLc [10] (.nm 10) (sItm (fVar 5)) (fYes) (fBin dMul (fBin dAdd (fC (.int 1)) (fBin dMod (fVar 7) (fC (.int 4)))) (fVar 10)) ρa = some (nl (bs.map fun b => (1 + k % 4) * b), ρa) :=
    nLc_ix _ (itmE (ρ1 := ρa) (d := .lst (nl bs)) rfl rfl rfl) (getAll_dat _) (by rw [nl_len, hb]; exact Nat.le_trans hp (by decide)) (by rw [nl_len, nl_len, List.length_map]) (fun j d y hj hy => by
      rw [nl, List.getElem?_map] at hj
      obtain ⟨b, h2, rfl⟩ := Option.map_eq_some_iff.mp hj
      rw [nl, List.getElem?_map, List.getElem?_map, h2] at hy
      cases hy
      have hb4' := hb4 b (List.mem_of_getElem? h2)
      let ρb : Ev := [s, .dat (dI p), .dat (dI n), .dat (dI way), .own (rows.map rowD), .dat (.lst (nl bs)), a6, .dat (dI k), .dat (rowD ws), .un, .dat (dI b)]
      refine ⟨ρb, ρb, rfl, binE (ρ1 := ρb) (ρ2 := ρb) (d := dI (1 + k % 4)) (e := dI b) (binE (ρ1 := ρb) (ρ2 := ρb) (d := dI 1) (e := dI (k % 4)) rfl (binE (ρ1 := ρb) (ρ2 := ρb) (d := dI k) (e := dI 4) rfl rfl (mod_ok (by decide))) (add_ok 1 (k % 4))) rfl (mul_ok (L := 10) (M := 10) (by omega) (by omega) (by decide)), rfl⟩)
  have e2 : fSlc (fVar 8) (fPart (fVar 1)) (fNoPart) ρa = some (.dat (.tup ((nl ws).drop p)), ρa) := slcFrom (ρ1 := ρa) (ρ2 := ρa) (k := p) (ds := nl ws) rfl rfl (by rw [nl_len, r.len]; omega)
  have ha : dAdd (.tup (nl (bs.map fun b => (1 + k % 4) * b))) (.tup ((nl ws).drop p)) = some (rowD (bs.map (fun b => (1 + k % 4) * b) ++ ws.drop p)) := by
    have hle : (nl (bs.map fun b => (1 + k % 4) * b)).length + ((nl ws).drop p).length ≤ sLn := by
      rw [nl_len, List.length_map, hb, List.length_drop, nl_len, r.len]
      exact Nat.le_trans (show p + (p + n - p) ≤ 8 by omega) (by decide)
    simp only [dAdd, if_pos hle]
    rw [nl_drop, nl_app]
    rfl
  exact ⟨ρa, ρa, rfl, binE (ρ1 := ρa) (ρ2 := ρa) (bltE (ρ1 := ρa) (ds := [.lst (nl (bs.map fun b => (1 + k % 4) * b))]) (consE (fnewE lc) rfl) rfl rfl) e2 ha, rfl⟩
end SC

set_option Elab.async false
set_option linter.all false
set_option maxRecDepth 100000
namespace SC
open PySem PySem.Spec PyProof.Rows L2

theorem RowsOk.set {p n k : Nat} {rows : List (List Nat)} {ws : List Nat} (h : RowsOk p n rows) (hw : Row p n k ws) : RowsOk p n (rows.set k ws) := fun i vs hi => by
  rw [List.getElem?_set] at hi
  split at hi
  · rename_i e
    split at hi
    · cases hi; rw [← e]; exact hw
    · cases hi
  · exact h i vs hi
theorem drawplan_dr : Dr 250 g__law_draw_plan [] (fun r => ∃ p rows, VP p rows ∧ r = .tup [dI p, .lst (rows.map rowD)]) := by
  intro N s hs hN
  let u : Ev := [.un, .un, .un, .un, .un, .un, .un, .un, .un, .un]
  obtain ⟨k1, s1, e1, h1, l1⟩ := draw_c 4 (by decide) (by decide) u hs (by omega) (fb := fC (.int 4)) rfl
  obtain ⟨k2, s2, e2, h2, l2⟩ := draw_c 4 (by decide) (by decide) u h1 (by omega) (fb := fC (.int 4)) rfl
  obtain ⟨way, s3, e3, h3, l3⟩ := draw_c 4 (by decide) (by decide) u h2 (by omega) (fb := fC (.int 4)) rfl
  generalize hp : 1 + k1 = p at *
  generalize hn : 1 + k2 = n at *
  have p0 : 0 < p := by omega
  have p4 : p ≤ 4 := by omega
  have n4 : n ≤ 4 := by omega
  let ρ1 : Ev := [s3, .dat (dI p), .dat (dI n), .dat (dI way), .un, .un, .un, .un, .un, .un, .un]
  have b1 : bPar [1, 2, 3] (mDat (fBin dAdd (fC (.int 1)) (fCall g__law_draw [] (fCons (fVar 0) (fCons (fC (.int 4)) (fNil))))) (mDat (fBin dAdd (fC (.int 1)) (fCall g__law_draw [] (fCons (fVar 0) (fCons (fC (.int 4)) (fNil))))) (mDat (fCall g__law_draw [] (fCons (fVar 0) (fCons (fC (.int 4)) (fNil)))) (mNil)))) (s :: u) = some (.nx, ρ1) := by
    have a1 : dAdd (dI 1) (dI k1) = some (dI p) := by rw [← hp]; exact add_ok 1 k1
    have a2 : dAdd (dI 1) (dI k2) = some (dI n) := by rw [← hn]; exact add_ok 1 k2
    exact parE (mDatE (binE (d := dI 1) rfl e1 a1) (mDatE (binE (d := dI 1) rfl e2 a2) (mDatE e3 rfl))) rfl
  obtain ⟨rows, s4, e4, h4, l4, r4⟩ := prows_dr (way := way) p0 p4 n4 h3 (by omega) .un .un .un .un .un .un .un
  let ρ2 : Ev := [s4, .dat (dI p), .dat (dI n), .dat (dI way), .own (rows.map rowD), .un, .un, .un, .un, .un, .un]
  have b3 : ∃ (rows' : List (List Nat)) (s5 a5 : Sl), bIf (fTest (fBin (dCmp fun i j => decide (j < i)) (fVar 3) (fC (.int 1)))) (bSeq (bSet 5 (fBin dAdd (fNew (nLc [9] (.nm 9) (sRng (fCons (fBin dSub (fVar 1) (fC (.int 1))) (fNil))) (fYes) (fCall g__law_draw [] (fCons (fVar 0) (fCons (fC (.int 5)) (fNil)))))) (fNew (nDisp (fCons (fBin dAdd (fC (.int 1)) (fCall g__law_draw [] (fCons (fVar 0) (fCons (fC (.int 4)) (fNil))))) (fNil)))))) (bOwn 4 (nLc [7, 8] (.tp [7, 8]) (sEnm (fCons (fVar 4) (fNil))) (fYes) (fBin dAdd (fBlt dTuple (fCons (fNew (nLc [10] (.nm 10) (sItm (fVar 5)) (fYes) (fBin dMul (fBin dAdd (fC (.int 1)) (fBin dMod (fVar 7) (fC (.int 4)))) (fVar 10)))) (fNil))) (fSlc (fVar 8) (fPart (fVar 1)) (fNoPart)))))) (bNx) ρ2
      = some (.nx, [s5, .dat (dI p), .dat (dI n), .dat (dI way), .own (rows'.map rowD), a5, .un, .un, .un, .un, .un]) ∧ PenOk (N + 140) s5 ∧ rows'.length = n ∧ RowsOk p n rows' := by
    have t : fTest (fBin (dCmp fun i j => decide (j < i)) (fVar 3) (fC (.int 1))) ρ2 = some (decide (1 < way), ρ2) := testE (binE (d := dI way) (e := dI 1) rfl rfl (gt_nat way 1))
    by_cases hw : 1 < way
    · rw [decide_eq_true hw] at t
      obtain ⟨bs, s5, e5, h5, l5, b4, bp⟩ := base_ok p0 p4 h4 (by omega) (.dat (dI n)) (.dat (dI way)) (.own (rows.map rowD)) .un .un .un .un .un .un
      let ρ3 : Ev := [s5, .dat (dI p), .dat (dI n), .dat (dI way), .own (rows.map rowD), .dat (.lst (nl bs)), .un, .un, .un, .un, .un]
      refine ⟨mixL p bs 0 rows, s5, .dat (.lst (nl bs)), ?_, h5.mono (by omega), by rw [mix_len]; exact l4, mix_ok l5 b4 bp r4⟩
      refine ifT t (seqE (ρ1 := ρ3) (setE (ρ1 := [s5, .dat (dI p), .dat (dI n), .dat (dI way), .own (rows.map rowD), .un, .un, .un, .un, .un, .un]) e5) ?_)
      exact ownE (ρ1 := ρ3) (mixed_ok p4 n4 l4 l5 b4 r4 s5 .un)
    · rw [decide_eq_false hw] at t
      exact ⟨rows, s4, .un, ifF t rfl, h4.mono (by omega), l4, r4⟩
  obtain ⟨rows1, s5, a5, b3, h5, l5, r5⟩ := b3
  let ρ3 : Ev := [s5, .dat (dI p), .dat (dI n), .dat (dI way), .own (rows1.map rowD), a5, .un, .un, .un, .un, .un]
  have b4 : ∃ (rows' : List (List Nat)) (s6 a6 : Sl), bIf (fTest (fBin (dEq) (fVar 3) (fC (.int 3)))) (bSeq (bSet 6 (fCall g__law_draw [] (fCons (fVar 0) (fCons (fVar 2) (fNil))))) (bPut 4 (fVar 6) (fCall g__law_draw_row [] (fCons (fVar 0) (fCons (fVar 1) (fCons (fVar 2) (fCons (fVar 6) (fCons (fC (.int 0)) (fNil))))))))) (bNx) ρ3
      = some (.nx, [s6, .dat (dI p), .dat (dI n), .dat (dI way), .own (rows'.map rowD), a5, a6, .un, .un, .un, .un]) ∧ PenOk (N + 250) s6 ∧ rows'.length = n ∧ RowsOk p n rows' := by
    have t : fTest (fBin (dEq) (fVar 3) (fC (.int 3))) ρ3 = some (decide (way = 3), ρ3) := testE (binE (d := dI way) (e := dI 3) rfl rfl (eq_nat way 3))
    by_cases hw : way = 3
    · rw [decide_eq_true hw] at t
      obtain ⟨sp, s6, e6, h6, l6⟩ := draw_c n (by omega) (by omega) [.dat (dI p), .dat (dI n), .dat (dI way), .own (rows1.map rowD), a5, .un, .un, .un, .un, .un] h5 (by omega) (fb := fVar 2) rfl
      let ρ4 : Ev := [s6, .dat (dI p), .dat (dI n), .dat (dI way), .own (rows1.map rowD), a5, .dat (dI sp), .un, .un, .un, .un]
      obtain ⟨r, s7, e7, h7, ws, hr, rfl⟩ := dr_call5 (drawrow_dr (way := 0) p0 p4 n4 l6) (ρ := [.dat (dI p), .dat (dI n), .dat (dI way), .own (rows1.map rowD), a5, .dat (dI sp), .un, .un, .un, .un]) h6 (by omega) (fb := fVar 1) (fc := fVar 2) (fd := fVar 6) (fe := fC (.int 0)) rfl rfl rfl rfl
      let ρ5 : Ev := [s7, .dat (dI p), .dat (dI n), .dat (dI way), .own (rows1.map rowD), a5, .dat (dI sp), .un, .un, .un, .un]
      refine ⟨rows1.set sp ws, s7, .dat (dI sp), ?_, h7.mono (by omega), by rw [List.length_set]; exact l5, r5.set hr⟩
      refine ifT t (seqE (ρ1 := ρ4) (setE (ρ1 := [s6, .dat (dI p), .dat (dI n), .dat (dI way), .own (rows1.map rowD), a5, .un, .un, .un, .un, .un]) e6) ?_)
      rw [List.map_set]
      exact putE (i := 4) (j := sp) (k := (sp : Int)) (d := rowD ws) (ds0 := rows1.map rowD) (ds := rows1.map rowD) (fi := fVar 6) (ρ := ρ4) (ρ1 := ρ5) (ρ2 := ρ5) e7 rfl rfl rfl (ixN_nat (by rw [List.length_map]; omega))
    · rw [decide_eq_false hw] at t
      exact ⟨rows1, s5, .un, ifF t rfl, h5.mono (by omega), l5, r5⟩
  obtain ⟨rows2, s6, a6, b4, h6, l6, r6⟩ := b4
  refine ⟨.tup [dI p, .lst (rows2.map rowD)], s6, [.dat (dI p), .dat (dI n), .dat (dI way), .dat (.lst (rows2.map rowD)), a5, a6, .un, .un, .un, .un], ?_, Nat.zero_le _, h6, p, rows2, ⟨by omega, p4, by omega, by omega, by rw [l6]; exact r6⟩, rfl⟩
  let ρ9 : Ev := [s6, .dat (dI p), .dat (dI n), .dat (dI way), .dat (.lst (rows2.map rowD)), a5, a6, .un, .un, .un, .un]
  have b : d__law_draw_plan (s :: u) = some (.rt (.tup [dI p, .lst (rows2.map rowD)]), ρ9) := by
    refine seqE b1 ?_
    refine seqE (ρ1 := ρ2) (ownE (ρ1 := [s4, .dat (dI p), .dat (dI n), .dat (dI way), .un, .un, .un, .un, .un, .un, .un]) e4) ?_
    refine seqE b3 ?_
    refine seqE b4 ?_
    refine seqE (ρ1 := ρ9) rfl ?_
    exact retE (dispE (ρ1 := ρ9) (ds := [dI p, .lst (rows2.map rowD)]) (consE rfl (consE rfl rfl)) rfl (show 2 ≤ sLn by decide))
  show frD (d__law_draw_plan (s :: u)) = _
  rw [b]
  rfl
end SC

set_option Elab.async false
set_option linter.all false
set_option maxRecDepth 100000
namespace SC
open PySem PySem.Spec PyProof.Rows L2

/-! ### reading a plan's text -/
def numChk (n : Nat) : Bool := match g_number_in [.dat (numS n)] with
  | some (d, o) => D.beq d (dI n) && decide (1 ≤ o.length)
  | none => false
theorem num_all : ((List.range 21).all numChk) = true := by kernel_rfl
theorem num_ok {n : Nat} (h : n ≤ 20) : Ret g_number_in [.dat (numS n)] (dI n) := by
  have h1 := List.all_eq_true.mp num_all n (List.mem_range.mpr (by omega))
  unfold numChk at h1
  split at h1
  · rename_i d o e
    rw [Bool.and_eq_true] at h1
    exact ⟨o, by rw [e, D.beq_eq h1.1], of_decide_eq_true h1.2⟩
  · cases h1
theorem smE {g : SM} {fo fe : FE} {ρ ρ1 ρ2 : Ev} {z : Str} {o : Opd} {d y : D} (h1 : fo ρ = some (.dat (.str z), ρ1)) (h2 : fe ρ1 = some (o, ρ2)) (h3 : o.get ρ2 = some d) (hg : g z d = some y) : fSM g fo fe ρ = some (.dat y, ρ2) := by
  simp only [fSM, h1, h2, h3, hg]
def Hd : List Nat := [112, 114, 111, 100, 117, 99, 116, 115, 32]
theorem hd_eq : (Str.ofString "products ") = St Hd := by decide +kernel
theorem nl_eq : (Str.ofString "\n") = St [10] := by decide +kernel
theorem sp_eq : (Str.ofString " ") = St [32] := by decide +kernel
theorem em_eq : (Str.ofString "") = St [] := by decide +kernel
def partsL (p : Nat) (rows : List (List Nat)) : List (List Nat) := TL.numL p :: rows.map lineL
def bodyL (p : Nat) (rows : List (List Nat)) : List Nat := TL.joinL [10] (partsL p rows)
def textL (p : Nat) (rows : List (List Nat)) : List Nat := Hd ++ bodyL p rows ++ [10]
theorem row_line {p : Nat} {rows : List (List Nat)} (h : VP p rows) : ∀ l ∈ rows.map lineL, l.length ≤ 24 := fun l hl => by
  obtain ⟨ws, hw, rfl⟩ := List.mem_map.mp hl
  obtain ⟨i, hi⟩ := List.mem_iff_getElem?.mp hw
  have r := h.row i ws hi
  have h1 := line_len r.le
  have h2 := r.len
  have := h.p4
  have := h.n4
  omega
theorem parts_len {p : Nat} {rows : List (List Nat)} (h : VP p rows) : ∀ l ∈ partsL p rows, l.length ≤ 24 := fun l hl => by
  rcases List.mem_cons.mp hl with rfl | z
  · have := numL_le2 (n := p) (Nat.le_trans h.p4 (by decide)); omega
  · exact row_line h l z
theorem body_len {p : Nat} {rows : List (List Nat)} (h : VP p rows) : (bodyL p rows).length ≤ 125 := by
  have h1 := joinL_len [10] (partsL p rows)
  have h2 := lenS_sum (partsL p rows) (parts_len h)
  have h3 : (partsL p rows).length = rows.length + 1 := by simp [partsL]
  have := h.n4
  unfold bodyL
  simp only [List.length_cons, List.length_nil] at h1
  rw [h3] at h1 h2
  omega
theorem parts_no {p : Nat} {rows : List (List Nat)} : ∀ l ∈ partsL p rows, 10 ∉ l := fun l hl => by
  rcases List.mem_cons.mp hl with rfl | z
  · exact numL_no (by decide)
  · obtain ⟨ws, _, rfl⟩ := List.mem_map.mp z
    exact line_no ws
/-- the rows read -/
theorem rows_read {p : Nat} {rows : List (List Nat)} (h : VP p rows) (a0 a1 a2 a4 a5 a6 a7 : Sl) :
    nLc [6] (.nm 6) (sItm (fVar 3)) (fYes) (fBlt dTuple (fCons (fNew (nLc [7] (.nm 7) (sItm (fSM smSplit (fVar 6) (fC (.str " ")))) (fYes) (fCall g_number_in [] (fCons (fVar 7) (fNil))))) (fNil))) [a0, a1, a2, .dat (.lst ((rows.map lineL).map fun l => .str (St l))), a4, a5, a6, a7]
      = some (rows.map rowD, [a0, a1, a2, .dat (.lst ((rows.map lineL).map fun l => .str (St l))), a4, a5, a6, a7]) :=
  nLc_ix (rows.map rowD) (itmE rfl rfl rfl) (getAll_dat _) (by rw [List.length_map, List.length_map]; exact Nat.le_trans h.n4 (by decide)) (by rw [List.length_map, List.length_map, List.length_map]) (fun k d y hk hy => by
    rw [List.getElem?_map, List.getElem?_map] at hk
    obtain ⟨l, h1, rfl⟩ := Option.map_eq_some_iff.mp hk
    obtain ⟨ws, h2, rfl⟩ := Option.map_eq_some_iff.mp h1
    rw [List.getElem?_map, h2] at hy
    cases hy
    have r := h.row k ws h2
    have hlen : (lineL ws).length ≤ 24 := row_line h _ (List.mem_map.mpr ⟨ws, List.mem_of_getElem? h2, rfl⟩)
    have hne : ws.map TL.numL ≠ [] := fun z => by
      have := congrArg List.length z
      rw [List.length_map, r.len, List.length_nil] at this
      have := h.p1
      omega
    have hsp : smSplit (St (lineL ws)) (.str (Str.ofString " ")) = some (.lst ((ws.map TL.numL).map fun l => .str (St l))) := by
      have hc : ((Str.ofString " ").length == 0) = false ∧ (St (lineL ws)).length + 2 ≤ sLn := ⟨by decide +kernel, by rw [SX.S_len]; exact Nat.le_trans (Nat.add_le_add_right hlen 2) (by decide)⟩
      simp only [smSplit, if_pos hc]
      rw [sp_eq]
      unfold lineL
      rw [split_ok (by decide) hne (fun q hq => by
        obtain ⟨w, _, rfl⟩ := List.mem_map.mp hq
        exact numL_no (by decide)), List.map_map]
      rfl
    have lc : nLc [7] (.nm 7) (sItm (fSM smSplit (fVar 6) (fC (.str " ")))) (fYes) (fCall g_number_in [] (fCons (fVar 7) (fNil))) [a0, a1, a2, .dat (.lst ((rows.map lineL).map fun l => .str (St l))), a4, a5, .dat (.str (St (lineL ws))), a7] = some (nl ws, [a0, a1, a2, .dat (.lst ((rows.map lineL).map fun l => .str (St l))), a4, a5, .dat (.str (St (lineL ws))), a7]) :=
      nLc_ix (nl ws) (itmE (smE rfl rfl rfl hsp) rfl rfl) (getAll_dat _) (by rw [List.length_map, List.length_map, r.len]; exact Nat.le_trans (Nat.add_le_add h.p4 h.n4) (by decide)) (by rw [List.length_map, List.length_map, nl, List.length_map]) (fun i d y hd hy => by
        rw [List.getElem?_map, List.getElem?_map] at hd
        obtain ⟨l, h3, rfl⟩ := Option.map_eq_some_iff.mp hd
        obtain ⟨w, h4, rfl⟩ := Option.map_eq_some_iff.mp h3
        rw [nl, List.getElem?_map, h4] at hy
        cases hy
        exact ⟨[a0, a1, a2, .dat (.lst ((rows.map lineL).map fun l => .str (St l))), a4, a5, .dat (.str (St (lineL ws))), .dat (numS w)], _, rfl, callD1 rfl (num_ok (r.le w (List.mem_of_getElem? h4))), rfl⟩)
    exact ⟨[a0, a1, a2, .dat (.lst ((rows.map lineL).map fun l => .str (St l))), a4, a5, .dat (.str (St (lineL ws))), a7], _, rfl, bltE (ds := [.lst (nl ws)]) (consE (fnewE lc) rfl) rfl rfl, rfl⟩)
theorem star_ok : ∀ ds : List D, datAll (ds.map Opd.dat ++ []) = some ds
  | [] => rfl
  | d :: ds => by
    show (datAll (ds.map Opd.dat ++ [])).map (d :: ·) = _
    rw [star_ok ds]
    rfl
theorem starE {i : Nat} {j : Nat} {fe : FE} {ρ ρ1 : Ev} {d : D} {ds : List D} (h : fe ρ = some (.dat (.lst (d :: ds)), ρ1)) : bStar i j fe ρ = some (.nx, (ρ1.set i (.dat d)).set j (.dat (.lst ds))) := by
  simp only [bStar, h]
theorem read_ok {p : Nat} {rows : List (List Nat)} (h : VP p rows) : Ret g_Plan_read [.dat (.cl 0), .dat (.str (St (textL p rows)))] (planD p rows) := by
  have hb := body_len h
  have htl : (St (textL p rows)).length ≤ 135 := by
    rw [SX.S_len]
    unfold textL Hd
    simp only [List.length_append, List.length_cons, List.length_nil]
    omega
  have hz : (St (textL p rows)).length ≤ sLn := Nat.le_trans htl (by decide)
  let ls : D := .lst ((rows.map lineL).map fun l => .str (St l))
  have h1 : smStarts (St (textL p rows)) (.str (Str.ofString "products ")) = some (.bl true) := by
    simp only [smStarts]
    rw [hd_eq, textL, List.append_assoc, starts_ok]
  have h2 : smEnds (St (textL p rows)) (.str (Str.ofString "\n")) = some (.bl true) := by
    simp only [smEnds]
    rw [nl_eq, textL, ends_ok]
  have h3 : dSlc (.str (St (textL p rows))) (some 9) (some (-1)) = some (.str (St (bodyL p rows))) := by
    simp only [dSlc, if_pos hz]
    rw [textL, mid_ok Hd _ 10 rfl]
  have h4 : smSplit (St (bodyL p rows)) (.str (Str.ofString "\n")) = some (.lst (numS p :: (rows.map lineL).map fun l => .str (St l))) := by
    have hc : ((Str.ofString "\n").length == 0) = false ∧ (St (bodyL p rows)).length + 2 ≤ sLn := ⟨by decide +kernel, by rw [SX.S_len]; exact Nat.le_trans (Nat.add_le_add_right hb 2) (by decide)⟩
    simp only [smSplit, if_pos hc]
    rw [nl_eq, bodyL, split_ok (by decide) (by simp [partsL]) parts_no]
    simp [partsL, numS]
  have hlen : dLen [.str (Str.ofString "products ")] = some (.int 9) := by kernel_rfl
  have sl : fSlc (fVar 1) (fPart (fBlt dLen (fCons (fC (.str "products ")) fNil))) (fPart (fUn dNeg (fC (.int 1)))) [.dat (.cl 0), .dat (.str (St (textL p rows))), .un, .un, .un, .un, .un, .un] = some (.dat (.str (St (bodyL p rows))), [.dat (.cl 0), .dat (.str (St (textL p rows))), .un, .un, .un, .un, .un, .un]) := by
    have e1 : fBlt dLen (fCons (fC (.str "products ")) fNil) [.dat (.cl 0), .dat (.str (St (textL p rows))), .un, .un, .un, .un, .un, .un] = some (.dat (.int 9), [.dat (.cl 0), .dat (.str (St (textL p rows))), .un, .un, .un, .un, .un, .un]) := bltE (consE rfl rfl) rfl hlen
    have e2 : fUn dNeg (fC (.int 1)) [.dat (.cl 0), .dat (.str (St (textL p rows))), .un, .un, .un, .un, .un, .un] = some (.dat (.int (-1)), [.dat (.cl 0), .dat (.str (St (textL p rows))), .un, .un, .un, .un, .un, .un]) := rfl
    have e0 : fVar 1 [.dat (.cl 0), .dat (.str (St (textL p rows))), .un, .un, .un, .un, .un, .un] = some (.dat (.str (St (textL p rows))), [.dat (.cl 0), .dat (.str (St (textL p rows))), .un, .un, .un, .un, .un, .un]) := rfl
    simp only [fSlc, e0, fPart, e1, e2, Opd.get, h3]
  have hrl : dLen [.lst (rows.map rowD)] = some (dI rows.length) := by
    show some (D.int ((rows.map rowD).length : Nat)) = _
    rw [List.length_map]
  let ρ5 : Ev := [.dat (.cl 0), .dat (.str (St (textL p rows))), .dat (numS p), .dat ls, .dat (dI p), .dat (.lst (rows.map rowD)), .un, .un]
  have mk : fMakeL 0 0 i_Plan___init__ (fCons (fVar 4) (fStar (fVar 5) (fNil))) ρ5 = some (.dat (planD p rows), ρ5) := by
    have ea : fCons (fVar 4) (fStar (fVar 5) (fNil)) ρ5 = some (.dat (dI p) :: ((rows.map rowD).map Opd.dat ++ []), ρ5) := rfl
    have eb : datAll (.dat (dI p) :: ((rows.map rowD).map Opd.dat ++ [])) = some (dI p :: rows.map rowD) := by
      simp only [datAll, star_ok, Option.map_some]
    show fMake 0 i_Plan___init__ (fCons (fVar 4) (fStar (fVar 5) (fNil))) ρ5 = _
    simp only [fMake, ea, eb, callI_ok h]
    rfl
  have b : d_Plan_read [.dat (.cl 0), .dat (.str (St (textL p rows))), .un, .un, .un, .un, .un, .un] = some (.rt (planD p rows), ρ5) := by
    refine seqE (ifF (orF (notE (testE (isiE (d := .str (St (textL p rows))) (b := true) rfl rfl rfl))) (orF (notE (testE (smE rfl rfl rfl h1))) (notE (testE (smE rfl rfl rfl h2))))) rfl) ?_
    refine seqE (starE (smE sl rfl rfl h4)) ?_
    refine seqE (parE (mDatE (callD1 rfl (num_ok (Nat.le_trans h.p4 (by decide)))) (mDatE (fnewE (rows_read h (.dat (.cl 0)) (.dat (.str (St (textL p rows)))) (.dat (numS p)) .un .un .un .un)) rfl)) rfl) ?_
    refine seqE (ρ1 := ρ5) (ifF (orF (notE (testE (callD3 rfl rfl rfl (btw_ok (lo := 1) (hi := 4) h.p1 h.p4)))) (orF (notE (testE (chainT (e := dI rows.length) (f := dI 4) (d := dI 1) rfl (bltE (consE rfl rfl) rfl hrl) ((le_nat 1 _).trans (by rw [decide_eq_true h.n1])) rfl ((le_nat _ 4).trans (by rw [decide_eq_true h.n4]))))) (notE (testE (callD2 rfl rfl (arerows_ok h rfl hrl)))))) rfl) ?_
    exact retE mk
  refine ⟨ρ5, ?_, by simp [ρ5]⟩
  show frD (d_Plan_read [.dat (.cl 0), .dat (.str (St (textL p rows))), .un, .un, .un, .un, .un, .un]) = _
  rw [b]
  rfl
end SC

set_option Elab.async false
set_option linter.all false
set_option maxRecDepth 100000
namespace SC
open PySem PySem.Spec PyProof.Rows L2

/-! ### the plan made of rows; what it tells -/
theorem cmE {c : Nat} {g : FG} {fa : FA} {ρ ρ1 : Ev} {d r : D} (h : fa ρ = some ([.dat d], ρ1)) (hg : Ret g [.dat (.cl c), .dat d] r) : fCM c g fa ρ = some (.dat r, ρ1) := by
  obtain ⟨o, ho, hl⟩ := hg
  have hl' : 2 ≤ o.length := hl
  have hp := put_nil 0 ρ1 [.dat (.cl c), .dat d] o rfl
  simp [fCM, h, runG, argSl, slotsOf, ho, hp, hl']
theorem methE0 {c : Nat} {ds : List D} {g : FG} {fo : FE} {ρ ρ1 : Ev} {r : D} (h : fo ρ = some (.dat (.ins c ds), ρ1)) (hg : Ret g [.dat (.ins c ds)] r) : fMeth c g [] fo fNil ρ = some (.dat r, ρ1) := by
  obtain ⟨o, ho, hl⟩ := hg
  have hl' : 1 ≤ o.length := hl
  have hp := put_nil 0 ρ1 [.dat (.ins c ds)] o rfl
  simp [fMeth, h, Opd.get, insOf, fNil, runG, argSl, slotsOf, ho, hp, hl']
theorem lenIE {c n : Nat} {ds : List D} {g : FG} {fo : FE} {ρ ρ1 : Ev} (h : fo ρ = some (.dat (.ins c ds), ρ1)) (hg : Ret g [.dat (.ins c ds)] (dI n)) (hn : n < 1000) : fLen c g fo ρ = some (.dat (dI n), ρ1) := by
  have e := methE0 h hg
  have hb : (0 : Int) ≤ (n : Int) ∧ (n : Int) < 9223372036854775808 := by omega
  simp only [fLen, h, Opd.get, insOf, fLenI, e, if_pos hb]
theorem prows_ok (p : Nat) (rows : List (List Nat)) : Ret g_Plan_rows [.dat (planD p rows)] (.tup (rows.map rowD)) := ⟨_, rfl, Nat.le_refl _⟩
theorem pprod_ok (p : Nat) (rows : List (List Nat)) : Ret g_Plan_products [.dat (planD p rows)] (dI p) := ⟨_, rfl, Nat.le_refl _⟩
theorem plen_ok (p : Nat) (rows : List (List Nat)) : Ret g_Plan___len__ [.dat (planD p rows)] (dI rows.length) := by
  refine ⟨[.dat (planD p rows)], ?_, Nat.le_refl _⟩
  have b : d_Plan___len__ [.dat (planD p rows)] = some (.rt (dI rows.length), [.dat (planD p rows)]) :=
    retE (bltE (ds := [.tup (rows.map rowD)]) (consE rfl rfl) rfl (by show some (D.int ((rows.map rowD).length : Nat)) = _; rw [List.length_map]))
  show frD (d_Plan___len__ [.dat (planD p rows)]) = _
  rw [b]
  rfl
theorem needplan_ok (p : Nat) (rows : List (List Nat)) : Ret g_need_plan [.dat (planD p rows)] .non := ⟨_, rfl, Nat.le_refl _⟩
theorem joinL_head (a b : List Nat) : ∀ ls : List (List Nat), TL.joinL [10] ((a ++ b) :: ls) = a ++ TL.joinL [10] (b :: ls)
  | [] => rfl
  | l :: ls => by simp [TL.joinL]
end SC

set_option Elab.async false
set_option linter.all false
set_option maxRecDepth 100000
namespace SC
open PySem PySem.Spec PyProof.Rows L2

/-! ### texts and plans, made and told -/
theorem join_all {P : Nat → Prop} {sep : List Nat} (hs : ∀ c ∈ sep, P c) : ∀ ps : List (List Nat), (∀ p ∈ ps, ∀ c ∈ p, P c) → ∀ c ∈ TL.joinL sep ps, P c
  | [], _, c, h => by simp [TL.joinL] at h
  | [p], g, c, h => g p List.mem_cons_self c (by simpa [TL.joinL] using h)
  | p :: q :: r, g, c, h => by
    simp only [TL.joinL, List.mem_append] at h
    rcases h with h | h | h
    · exact g p List.mem_cons_self c h
    · exact hs c h
    · exact join_all hs (q :: r) (fun z hz => g z (List.mem_cons_of_mem _ hz)) c h
theorem num_asc (n : Nat) : ∀ c ∈ TL.numL n, c < 128 := fun c hc => by
  have := TL.numL_digits n c hc
  omega
theorem text_asc (p : Nat) (rows : List (List Nat)) : ∀ c ∈ textL p rows, c < 128 := fun c hc => by
  simp only [textL, List.mem_append] at hc
  rcases hc with (hc | hc) | hc
  · exact (show ∀ c ∈ Hd, c < 128 by decide) c hc
  · refine join_all (P := fun c => c < 128) (by decide) _ (fun l hl => ?_) c hc
    rcases List.mem_cons.mp hl with rfl | z
    · exact num_asc p
    · obtain ⟨ws, _, rfl⟩ := List.mem_map.mp z
      exact join_all (P := fun c => c < 128) (by decide) _ fun l hl => by
        obtain ⟨w, _, rfl⟩ := List.mem_map.mp hl
        exact num_asc w
  · exact (show ∀ c ∈ ([10] : List Nat), c < 128 by decide) c hc
theorem rchar_asc : ((List.range 128).all fun c => ((PySem.Builtin.Str.reprChar 34 c).all (· < 0x110000)) && ((PySem.Builtin.Str.reprChar 39 c).all (· < 0x110000))) = true := by decide +kernel
theorem fold_ok7 {q : Nat} : ∀ (l : List Nat) (acc : Array Nat), (∀ c ∈ acc.toList, c < 0x110000) → (∀ c ∈ l, ∀ d ∈ PySem.Builtin.Str.reprChar q c, d < 0x110000) → ∀ c ∈ (l.foldl (fun out c => out ++ (PySem.Builtin.Str.reprChar q c).toArray) acc).toList, c < 0x110000
  | [], acc, h, _ => h
  | a :: l, acc, h, g => by
    refine fold_ok7 l (acc ++ (PySem.Builtin.Str.reprChar q a).toArray) (fun c hc => ?_) (fun c hc => g c (List.mem_cons_of_mem _ hc))
    rw [Array.toList_append] at hc
    rcases List.mem_append.mp hc with z | z
    · exact h c z
    · exact g a List.mem_cons_self c z
theorem tm_str {l : List Nat} (h : ∀ c ∈ l, c < 128) : Tm 0 (10 * l.length + 2) (.str (St l)) := by
  have hS : (St l).cps.toList = l := rfl
  have h7 : Ok7 (St l) := fun c hc => by have := h c hc; omega
  refine ⟨.str (St l), by simp only [toP], by simp only [PyData.canLay0]; exact h7.strOk, by simp only [PyData.depth]; exact Nat.le_refl _, by simp only [PyData.showable], by simp only [PyData.hasDict], ?_, ?_⟩
  · simp only [PyData.shown]
    have := PySem.StrLaws.reprText_len (St l) (fun c hc => Nat.lt_of_lt_of_le (h c (by rw [← hS]; exact hc)) (by decide))
    rw [SX.S_len] at this
    exact this
  · simp only [PyData.shown]
    have hq : reprQuote (St l) = 34 ∨ reprQuote (St l) = 39 := by
      unfold reprQuote
      split
      · exact .inl rfl
      · exact .inr rfl
    have hc : ∀ c ∈ l, ∀ d ∈ PySem.Builtin.Str.reprChar (reprQuote (St l)) c, d < 0x110000 := fun c hc d hd => by
      have a := List.all_eq_true.mp rchar_asc c (List.mem_range.mpr (h c hc))
      rw [Bool.and_eq_true] at a
      rcases hq with e | e
      · rw [e] at hd; exact of_decide_eq_true (List.all_eq_true.mp a.1 d hd)
      · rw [e] at hd; exact of_decide_eq_true (List.all_eq_true.mp a.2 d hd)
    have qd : reprQuote (St l) < 0x110000 := by rcases hq with e | e <;> rw [e] <;> decide
    intro c hcm
    have hcm' : c ∈ (((St l).cps.foldl (fun out c => out ++ (PySem.Builtin.Str.reprChar (reprQuote (St l)) c).toArray) #[reprQuote (St l)]).push (reprQuote (St l))).toList := hcm
    rw [Array.toList_push, ← Array.foldl_toList, hS] at hcm'
    rcases List.mem_append.mp hcm' with z | z
    · exact fold_ok7 l _ (fun x hx => by simp at hx; rw [hx]; exact qd) hc c z
    · rw [List.mem_singleton.mp z]; exact qd
theorem write_ok {p : Nat} {rows : List (List Nat)} (h : VP p rows) : Ret g__law_write [.dat (dI p), .dat (.lst (rows.map rowD))] (.str (St (textL p rows))) := by
  let L : List Nat := Hd ++ TL.numL p
  let Ls : List (List Nat) := L :: rows.map lineL
  have hp2 := numL_le2 (n := p) (Nat.le_trans h.p4 (by decide))
  have hL : L.length ≤ 24 := by simp [L, Hd]; omega
  have hLs : ∀ l ∈ Ls, l.length ≤ 24 := fun l hl => by
    rcases List.mem_cons.mp hl with rfl | z
    · exact hL
    · exact row_line h l z
  have hLn : Ls.length ≤ 5 := by simp [Ls]; exact h.n4
  have hs : dAdd (.str (Str.ofString "products ")) (numS p) = some (.str (St L)) := by
    have hc : (Str.ofString "products ").length + (St (TL.numL p)).length ≤ sLn := by
      rw [hd_eq, SX.S_len, SX.S_len]
      exact Nat.le_trans (show Hd.length + (TL.numL p).length ≤ 20 by simp [Hd]; omega) (by decide)
    show (if (Str.ofString "products ").length + (St (TL.numL p)).length ≤ sLn then some (D.str (Str.ofString "products " ++ St (TL.numL p))) else none) = _
    rw [if_pos hc, hd_eq, SX.S_cat]
  have lc : nLc [3] (.nm 3) (sItm (fVar 1)) (fYes) (fSM smJoin (fC (.str " ")) (fNew (nLc [5] (.nm 5) (sItm (fVar 3)) (fYes) (fBlt dStr (fCons (fVar 5) (fNil)))))) [.dat (dI p), .dat (.lst (rows.map rowD)), .un, .un, .un, .un] = some ((rows.map lineL).map fun l => .str (St l), [.dat (dI p), .dat (.lst (rows.map rowD)), .un, .un, .un, .un]) :=
    nLc_ix ((rows.map lineL).map fun l => .str (St l)) (itmE rfl rfl rfl) (getAll_dat _) (by rw [List.length_map]; exact Nat.le_trans h.n4 (by decide)) (by rw [List.length_map, List.length_map, List.length_map]) (fun k d y hk hy => by
      rw [List.getElem?_map] at hk
      obtain ⟨ws, h2, rfl⟩ := Option.map_eq_some_iff.mp hk
      rw [List.getElem?_map, List.getElem?_map, h2] at hy
      cases hy
      have r := h.row k ws h2
      have lc2 : nLc [5] (.nm 5) (sItm (fVar 3)) (fYes) (fBlt dStr (fCons (fVar 5) (fNil))) [.dat (dI p), .dat (.lst (rows.map rowD)), .un, .dat (rowD ws), .un, .un] = some ((ws.map TL.numL).map fun l => .str (St l), [.dat (dI p), .dat (.lst (rows.map rowD)), .un, .dat (rowD ws), .un, .un]) :=
        nLc_ix ((ws.map TL.numL).map fun l => .str (St l)) (itmE rfl rfl rfl) (getAll_dat _) (by rw [List.length_map, r.len]; exact Nat.le_trans (Nat.add_le_add h.p4 h.n4) (by decide)) (by rw [List.length_map, List.length_map, List.length_map]) (fun i d y hd hy => by
          rw [List.getElem?_map] at hd
          obtain ⟨w, h4, rfl⟩ := Option.map_eq_some_iff.mp hd
          rw [List.getElem?_map, List.getElem?_map, h4] at hy
          cases hy
          refine ⟨[.dat (dI p), .dat (.lst (rows.map rowD)), .un, .dat (rowD ws), .un, .dat (dI w)], _, rfl, bltE (ds := [dI w]) (consE rfl rfl) rfl (dStr_nat (Nat.lt_of_le_of_lt (r.le w (List.mem_of_getElem? h4)) (by decide))), rfl⟩)
      have hj : smJoin (Str.ofString " ") (.lst ((ws.map TL.numL).map fun l => .str (St l))) = some (.str (St (lineL ws))) := by
        rw [sp_eq]
        refine join_ok (A := 2) (fun q hq => by
          obtain ⟨w, hw, rfl⟩ := List.mem_map.mp hq
          exact numL_le2 (Nat.le_trans (r.le w hw) (by decide))) ?_
        rw [List.length_map, r.len]
        have := h.p4
        have := h.n4
        simp only [List.length_cons, List.length_nil]
        omega
      exact ⟨[.dat (dI p), .dat (.lst (rows.map rowD)), .un, .dat (rowD ws), .un, .un], _, rfl, smE rfl (fnewE lc2) rfl hj, rfl⟩)
  have hadd : dAdd (.lst [.str (St L)]) (.lst ((rows.map lineL).map fun l => .str (St l))) = some (.lst (Ls.map fun l => .str (St l))) := by
    have hc : ([D.str (St L)]).length + ((rows.map lineL).map fun l => D.str (St l)).length ≤ sLn := by
      rw [List.length_map, List.length_map]
      exact Nat.le_trans (show 1 + rows.length ≤ 5 by have := h.n4; omega) (by decide)
    simp only [dAdd, if_pos hc]
    rfl
  let ρ2 : Ev := [.dat (dI p), .dat (.lst (rows.map rowD)), .dat (.lst (Ls.map fun l => .str (St l))), .un, .un, .un]
  have lc3 : nLc [4] (.nm 4) (sItm (fVar 2)) (fYes) (fBin dAdd (fVar 4) (fC (.str "\n"))) ρ2 = some ((Ls.map (· ++ [10])).map fun l => .str (St l), ρ2) :=
    nLc_ix ((Ls.map (· ++ [10])).map fun l => .str (St l)) (itmE rfl rfl rfl) (getAll_dat _) (by rw [List.length_map]; exact Nat.le_trans hLn (by decide)) (by rw [List.length_map, List.length_map, List.length_map]) (fun k d y hk hy => by
      rw [List.getElem?_map] at hk
      obtain ⟨l, h2, rfl⟩ := Option.map_eq_some_iff.mp hk
      rw [List.getElem?_map, List.getElem?_map, h2] at hy
      cases hy
      have hll := hLs l (List.mem_of_getElem? h2)
      have ha : dAdd (.str (St l)) (.str (Str.ofString "\n")) = some (.str (St (l ++ [10]))) := by
        have hc : (St l).length + (Str.ofString "\n").length ≤ sLn := by
          rw [nl_eq, SX.S_len, SX.S_len]
          exact Nat.le_trans (show l.length + [10].length ≤ 25 by simp; omega) (by decide)
        simp only [dAdd, if_pos hc]
        rw [nl_eq, SX.S_cat]
      exact ⟨[.dat (dI p), .dat (.lst (rows.map rowD)), .dat (.lst (Ls.map fun l => .str (St l))), .un, .dat (.str (St l)), .un], _, rfl, binE rfl rfl ha, rfl⟩)
  have hj : smJoin (Str.ofString "") (.lst ((Ls.map (· ++ [10])).map fun l => .str (St l))) = some (.str (St (textL p rows))) := by
    rw [em_eq]
    have := join_ok (sep := []) (ps := Ls.map (· ++ [10])) (A := 25) (fun q hq => by
      obtain ⟨l, hl, rfl⟩ := List.mem_map.mp hq
      have := hLs l hl
      simp
      omega) (by rw [List.length_map]; simp; omega)
    rw [this, joinL_nil]
    congr 3
    show ((L :: rows.map lineL).map (· ++ [10])).flatten = _
    rw [flat_join, joinL_head]
    rfl
  have b : d__law_write [.dat (dI p), .dat (.lst (rows.map rowD)), .un, .un, .un, .un] = some (.rt (.str (St (textL p rows))), ρ2) := by
    refine seqE (setE (binE (d := .lst [.str (St L)]) (fnewE (newE (consE (binE rfl (bltE (ds := [dI p]) (consE rfl rfl) rfl (dStr_nat (Nat.lt_of_le_of_lt h.p4 (by decide)))) hs) rfl) rfl (show 1 ≤ sLn by decide))) (fnewE lc) hadd)) ?_
    exact retE (smE (ρ2 := ρ2) rfl (fnewE lc3) rfl hj)
  refine ⟨ρ2, ?_, by simp [ρ2]⟩
  show frD (d__law_write [.dat (dI p), .dat (.lst (rows.map rowD)), .un, .un, .un, .un]) = _
  rw [b]
  rfl
theorem text_ok {p : Nat} {rows : List (List Nat)} (h : VP p rows) : Ret g_Plan_text [.dat (planD p rows)] (.str (St (textL p rows))) := by
  let L : List Nat := Hd ++ TL.numL p
  let Ls : List (List Nat) := L :: rows.map lineL
  have hp2 := numL_le2 (n := p) (Nat.le_trans h.p4 (by decide))
  have hL : L.length ≤ 24 := by simp [L, Hd]; omega
  have hLs : ∀ l ∈ Ls, l.length ≤ 24 := fun l hl => by
    rcases List.mem_cons.mp hl with rfl | z
    · exact hL
    · exact row_line h l z
  have hLn : Ls.length ≤ 5 := by simp [Ls]; exact h.n4
  have hs : dAdd (.str (Str.ofString "products ")) (numS p) = some (.str (St L)) := by
    have hc : (Str.ofString "products ").length + (St (TL.numL p)).length ≤ sLn := by
      rw [hd_eq, SX.S_len, SX.S_len]
      exact Nat.le_trans (show Hd.length + (TL.numL p).length ≤ 20 by simp [Hd]; omega) (by decide)
    show (if (Str.ofString "products ").length + (St (TL.numL p)).length ≤ sLn then some (D.str (Str.ofString "products " ++ St (TL.numL p))) else none) = _
    rw [if_pos hc, hd_eq, SX.S_cat]
  have lc : nLc [2] (.nm 2) (sItm (fFld 0 1 (fVar 0))) (fYes) (fSM smJoin (fC (.str " ")) (fNew (nLc [4] (.nm 4) (sItm (fVar 2)) (fYes) (fBlt dStr (fCons (fVar 4) (fNil)))))) [.dat (planD p rows), .un, .un, .un, .un] = some ((rows.map lineL).map fun l => .str (St l), [.dat (planD p rows), .un, .un, .un, .un]) :=
    nLc_ix ((rows.map lineL).map fun l => .str (St l)) (itmE rfl rfl rfl) (getAll_dat _) (by rw [List.length_map]; exact Nat.le_trans h.n4 (by decide)) (by rw [List.length_map, List.length_map, List.length_map]) (fun k d y hk hy => by
      rw [List.getElem?_map] at hk
      obtain ⟨ws, h2, rfl⟩ := Option.map_eq_some_iff.mp hk
      rw [List.getElem?_map, List.getElem?_map, h2] at hy
      cases hy
      have r := h.row k ws h2
      have lc2 : nLc [4] (.nm 4) (sItm (fVar 2)) (fYes) (fBlt dStr (fCons (fVar 4) (fNil))) [.dat (planD p rows), .un, .dat (rowD ws), .un, .un] = some ((ws.map TL.numL).map fun l => .str (St l), [.dat (planD p rows), .un, .dat (rowD ws), .un, .un]) :=
        nLc_ix ((ws.map TL.numL).map fun l => .str (St l)) (itmE rfl rfl rfl) (getAll_dat _) (by rw [List.length_map, r.len]; exact Nat.le_trans (Nat.add_le_add h.p4 h.n4) (by decide)) (by rw [List.length_map, List.length_map, List.length_map]) (fun i d y hd hy => by
          rw [List.getElem?_map] at hd
          obtain ⟨w, h4, rfl⟩ := Option.map_eq_some_iff.mp hd
          rw [List.getElem?_map, List.getElem?_map, h4] at hy
          cases hy
          refine ⟨[.dat (planD p rows), .un, .dat (rowD ws), .un, .dat (dI w)], _, rfl, bltE (ds := [dI w]) (consE rfl rfl) rfl (dStr_nat (Nat.lt_of_le_of_lt (r.le w (List.mem_of_getElem? h4)) (by decide))), rfl⟩)
      have hj : smJoin (Str.ofString " ") (.lst ((ws.map TL.numL).map fun l => .str (St l))) = some (.str (St (lineL ws))) := by
        rw [sp_eq]
        refine join_ok (A := 2) (fun q hq => by
          obtain ⟨w, hw, rfl⟩ := List.mem_map.mp hq
          exact numL_le2 (Nat.le_trans (r.le w hw) (by decide))) ?_
        rw [List.length_map, r.len]
        have := h.p4
        have := h.n4
        simp only [List.length_cons, List.length_nil]
        omega
      exact ⟨[.dat (planD p rows), .un, .dat (rowD ws), .un, .un], _, rfl, smE rfl (fnewE lc2) rfl hj, rfl⟩)
  have hadd : dAdd (.lst [.str (St L)]) (.lst ((rows.map lineL).map fun l => .str (St l))) = some (.lst (Ls.map fun l => .str (St l))) := by
    have hc : ([D.str (St L)]).length + ((rows.map lineL).map fun l => D.str (St l)).length ≤ sLn := by
      rw [List.length_map, List.length_map]
      exact Nat.le_trans (show 1 + rows.length ≤ 5 by have := h.n4; omega) (by decide)
    simp only [dAdd, if_pos hc]
    rfl
  let ρ2 : Ev := [.dat (planD p rows), .dat (.lst (Ls.map fun l => .str (St l))), .un, .un, .un]
  have lc3 : nLc [3] (.nm 3) (sItm (fVar 1)) (fYes) (fBin dAdd (fVar 3) (fC (.str "\n"))) ρ2 = some ((Ls.map (· ++ [10])).map fun l => .str (St l), ρ2) :=
    nLc_ix ((Ls.map (· ++ [10])).map fun l => .str (St l)) (itmE rfl rfl rfl) (getAll_dat _) (by rw [List.length_map]; exact Nat.le_trans hLn (by decide)) (by rw [List.length_map, List.length_map, List.length_map]) (fun k d y hk hy => by
      rw [List.getElem?_map] at hk
      obtain ⟨l, h2, rfl⟩ := Option.map_eq_some_iff.mp hk
      rw [List.getElem?_map, List.getElem?_map, h2] at hy
      cases hy
      have hll := hLs l (List.mem_of_getElem? h2)
      have ha : dAdd (.str (St l)) (.str (Str.ofString "\n")) = some (.str (St (l ++ [10]))) := by
        have hc : (St l).length + (Str.ofString "\n").length ≤ sLn := by
          rw [nl_eq, SX.S_len, SX.S_len]
          exact Nat.le_trans (show l.length + [10].length ≤ 25 by simp; omega) (by decide)
        simp only [dAdd, if_pos hc]
        rw [nl_eq, SX.S_cat]
      exact ⟨[.dat (planD p rows), .dat (.lst (Ls.map fun l => .str (St l))), .un, .dat (.str (St l)), .un], _, rfl, binE rfl rfl ha, rfl⟩)
  have hj : smJoin (Str.ofString "") (.lst ((Ls.map (· ++ [10])).map fun l => .str (St l))) = some (.str (St (textL p rows))) := by
    rw [em_eq]
    have := join_ok (sep := []) (ps := Ls.map (· ++ [10])) (A := 25) (fun q hq => by
      obtain ⟨l, hl, rfl⟩ := List.mem_map.mp hq
      have := hLs l hl
      simp
      omega) (by rw [List.length_map]; simp; omega)
    rw [this, joinL_nil]
    congr 3
    show ((L :: rows.map lineL).map (· ++ [10])).flatten = _
    rw [flat_join, joinL_head]
    rfl
  have b : d_Plan_text [.dat (planD p rows), .un, .un, .un, .un] = some (.rt (.str (St (textL p rows))), ρ2) := by
    refine seqE (setE (binE (d := .lst [.str (St L)]) (fnewE (newE (consE (binE rfl (bltE (ds := [dI p]) (consE rfl rfl) rfl (dStr_nat (Nat.lt_of_le_of_lt h.p4 (by decide)))) hs) rfl) rfl (show 1 ≤ sLn by decide))) (fnewE lc) hadd)) ?_
    exact retE (smE (ρ2 := ρ2) rfl (fnewE lc3) rfl hj)
  refine ⟨ρ2, ?_, by simp [ρ2]⟩
  show frD (d_Plan_text [.dat (planD p rows), .un, .un, .un, .un]) = _
  rw [b]
  rfl
theorem build_ok {p : Nat} {rows : List (List Nat)} (h : VP p rows) : Ret g__law_build [.dat (dI p), .dat (.lst (rows.map rowD))] (planD p rows) := by
  let ρ : Ev := [.dat (dI p), .dat (.lst (rows.map rowD))]
  have b : d__law_build ρ = some (.rt (planD p rows), ρ) := retE (cmE (consE (callD2 (ρ1 := ρ) (ρ2 := ρ) rfl rfl (write_ok h)) rfl) (read_ok h))
  refine ⟨ρ, ?_, Nat.le_refl _⟩
  show frD (d__law_build ρ) = _
  rw [b]
  rfl
def Ti1 : List Nat := [80, 108, 97, 110, 40]
def Ti2 : List Nat := [32, 112, 114, 111, 100, 117, 99, 116, 115, 44, 32]
def Ti3 : List Nat := [32, 99, 101, 110, 116, 114, 101, 115, 41]
theorem ti1_eq : (Str.ofString "Plan(") = St Ti1 := by decide +kernel
theorem ti2_eq : (Str.ofString " products, ") = St Ti2 := by decide +kernel
theorem ti3_eq : (Str.ofString " centres)") = St Ti3 := by decide +kernel
def titleL (p n : Nat) : List Nat := Ti1 ++ TL.numL p ++ Ti2 ++ TL.numL n ++ Ti3
theorem strof_nat {n : Nat} (h : n < 2 ^ 21) : strOfD (dI n) = some (St (TL.numL n)) := by
  have h1 : (n : Int).natAbs.log2 < 1920 := by
    rw [Int.natAbs_natCast]
    have := log2_le h
    omega
  simp only [strOfD, if_pos h1]
  rw [show (toString (n : Int) : Str) = St (TL.numL n) from TL.ext_tl (TL.tl_num n)]
theorem st_len (l : List Nat) : (St l).length = l.length := SX.S_len l
theorem st_room {l : List Nat} (h : l.length ≤ 1000) : (St l).length ≤ sLn := by
  rw [st_len]
  exact Nat.le_trans h (by decide)
theorem jlitE {z : Str} {zl l : List Nat} {r : FJ} {ρ : Ev} {x : Option (Str × Ev)} (hz : z = St zl) (hl : (l ++ zl).length ≤ 1000) (h : r (St (l ++ zl)) ρ = x) : jLit z r (St l) ρ = x := by
  subst hz
  unfold jLit
  rw [SX.S_cat, if_pos (st_room hl)]
  exact h
theorem jfmtE {n : Nat} {fe : FE} {l : List Nat} {r : FJ} {ρ ρ1 : Ev} {x : Option (Str × Ev)} (he : fe ρ = some (.dat (dI n), ρ1)) (hn : n < 2 ^ 21) (hl : (l ++ TL.numL n).length ≤ 1000) (h : r (St (l ++ TL.numL n)) ρ1 = x) : jFmt fe r (St l) ρ = x := by
  unfold jFmt
  rw [he]
  simp only [strof_nat hn]
  rw [SX.S_cat, if_pos (st_room hl)]
  exact h
theorem num4 {n : Nat} (h : n ≤ 4) : (TL.numL n).length ≤ 2 := numL_le2 (by omega)
theorem prepr_ok {p : Nat} {rows : List (List Nat)} (h : VP p rows) : Ret g_Plan___repr__ [.dat (planD p rows)] (.str (St (titleL p rows.length))) := by
  let ρ : Ev := [.dat (planD p rows)]
  have n1 := num4 h.p4
  have n2 := num4 h.n4
  have e2 : fBlt dLen (fCons (fFld 0 1 (fVar 0)) fNil) ρ = some (.dat (dI rows.length), ρ) := bltE (ds := [.tup (rows.map rowD)]) (consE rfl rfl) rfl (by show some (D.int ((rows.map rowD).length : Nat)) = _; rw [List.length_map])
  have j : jLit "Plan(" (jFmt (fFld 0 0 (fVar 0)) (jLit " products, " (jFmt (fBlt dLen (fCons (fFld 0 1 (fVar 0)) fNil)) (jLit " centres)" (jNil))))) (St []) ρ = some (St (titleL p rows.length), ρ) := by
    refine jlitE ti1_eq (by simp [Ti1]) ?_
    refine jfmtE (n := p) (ρ1 := ρ) rfl (Nat.lt_of_le_of_lt h.p4 (by decide)) (by simp [Ti1]; omega) ?_
    refine jlitE ti2_eq (by simp [Ti1, Ti2]; omega) ?_
    refine jfmtE e2 (Nat.lt_of_le_of_lt h.n4 (by decide)) (by simp [Ti1, Ti2]; omega) ?_
    refine jlitE ti3_eq (by simp [Ti1, Ti2, Ti3]; omega) ?_
    rfl
  have b : d_Plan___repr__ ρ = some (.rt (.str (St (titleL p rows.length))), ρ) := by
    refine retE ?_
    unfold fJoin
    rw [show (Str.empty : Str) = St [] from rfl, j]
  refine ⟨ρ, ?_, Nat.le_refl _⟩
  show frD (d_Plan___repr__ ρ) = _
  rw [b]
  rfl
def factsD (p : Nat) (rows : List (List Nat)) : List D := [dI p, .tup (rows.map rowD), dI rows.length, .str (St (titleL p rows.length)), .str (St (textL p rows))]
theorem reprIE {c : Nat} {ds : List D} {g : FG} {fo : FE} {ρ ρ1 : Ev} {z : Str} (h : fo ρ = some (.dat (.ins c ds), ρ1)) (hg : Ret g [.dat (.ins c ds)] (.str z)) : fReprI c g fo ρ = some (.dat (.str z), ρ1) := by
  simp only [fReprI, methE0 h hg]
theorem add_st {z : Str} {a b : List Nat} (hz : z = St a) (hl : (a ++ b).length ≤ 1000) : dAdd (.str z) (.str (St b)) = some (.str (St (a ++ b))) := by
  subst hz
  have hc : (St a).length + (St b).length ≤ sLn := by
    rw [st_len, st_len, ← List.length_append]
    exact Nat.le_trans hl (by decide)
  simp only [dAdd, if_pos hc]
  rw [SX.S_cat]
theorem add_ts {z : Str} {a b : List Nat} (hz : z = St b) (hl : (a ++ b).length ≤ 1000) : dAdd (.str (St a)) (.str z) = some (.str (St (a ++ b))) := by
  subst hz
  exact add_st rfl hl
theorem title_asc (p n : Nat) : ∀ c ∈ titleL p n, c < 128 := fun c hc => by
  simp only [titleL, List.mem_append] at hc
  rcases hc with (((hc | hc) | hc) | hc) | hc
  · exact (show ∀ c ∈ Ti1, c < 128 by decide) c hc
  · exact num_asc p c hc
  · exact (show ∀ c ∈ Ti2, c < 128 by decide) c hc
  · exact num_asc n c hc
  · exact (show ∀ c ∈ Ti3, c < 128 by decide) c hc
theorem facts_mem {p : Nat} {rows : List (List Nat)} (h : VP p rows) : ∀ d ∈ factsD p rows, Tm 2 20900 d := fun d hd => by
  have n1 := num4 h.p4
  have n2 := num4 h.n4
  have hb := body_len h
  simp only [factsD, List.mem_cons, List.not_mem_nil, or_false] at hd
  rcases hd with rfl | rfl | rfl | rfl | rfl
  · exact (tm_nat (L := 10) (Nat.lt_of_le_of_lt h.p4 (by decide)) (by decide)).mono (by decide) (by decide)
  · exact rows_tm h
  · exact (tm_nat (L := 10) (Nat.lt_of_le_of_lt h.n4 (by decide)) (by decide)).mono (by decide) (by decide)
  · exact (tm_str (title_asc _ _)).mono (by decide) (by simp [titleL, Ti1, Ti2, Ti3]; omega)
  · exact (tm_str (text_asc _ _)).mono (by decide) (by simp [textL, Hd]; omega)
end SC

set_option Elab.async false
set_option linter.all false
set_option maxRecDepth 100000
namespace SC
open PySem PySem.Spec PyProof.Rows L2

/-! ### the law -/
theorem nf_tm {q : Fc} (h : Fr 575 q) : Tm 1 1300 (nf q) := by
  refine (tm_tup (k := 0) (w := 640) (ds := [.int (q.1 : Int), .int (q.2 : Int)]) (fun d hd => ?_)).mono (Nat.le_refl _) (show 2 * (640 + 2) + 3 ≤ 1300 by decide)
  simp only [List.mem_cons, List.not_mem_nil, or_false] at hd
  rcases hd with rfl | rfl
  · exact tm_nat h.n (by decide)
  · exact tm_nat h.d (by decide)
theorem same_ok {d : D} {z : Str} (h1 : dRepr [d] = some (.str z)) (h2 : shD (.str z) = true) : Ret g__law_same [.dat d, .dat d] (.bl true) := by
  refine ⟨[.dat d, .dat d], ?_, Nat.le_refl _⟩
  have b : d__law_same [.dat d, .dat d] = some (.rt (.bl true), [.dat d, .dat d]) :=
    retE (binE (ρ1 := [.dat d, .dat d]) (ρ2 := [.dat d, .dat d]) (bltE (ds := [d]) (consE rfl rfl) rfl h1) (bltE (ds := [d]) (consE rfl rfl) rfl h1) (eq_str h2))
  show frD (d__law_same [.dat d, .dat d]) = _
  rw [b]
  rfl
theorem same_lst {k w : Nat} {ds : List D} (h : ∀ d ∈ ds, Tm k w d) (hk : k < 60) (hw : ds.length * (w + 2) + 3 ≤ sLn) : Ret g__law_same [.dat (.lst ds), .dat (.lst ds)] (.bl true) := by
  obtain ⟨z, h1, h2⟩ := repr_lst (tm_lst h) hk hw
  exact same_ok h1 h2
theorem same_tup {k w : Nat} {ds : List D} (h : Tm k w (.tup ds)) (hk : k ≤ 60) (hw : w ≤ sLn) : Ret g__law_same [.dat (.tup ds), .dat (.tup ds)] (.bl true) := by
  obtain ⟨z, h1, h2⟩ := repr_tup h hk hw
  exact same_ok h1 h2
end SC

set_option Elab.async false
set_option linter.all false
set_option maxRecDepth 100000
namespace SC
open PySem PySem.Spec PyProof.Rows L2

/-- the pen of any cell -/
theorem pen_ok (c : Int) : ∃ x y : Nat, y < 2 ^ 31 ∧ gn__law_pen [.int c] = some [dI x, dI y, dI 0] := by
  refine ⟨(if c - 10 ^ 18 > 0 then c - 10 ^ 18 else 0).toNat, (c % 2147483629 + 1).toNat, ?_, ?_⟩
  · have h1 := Int.emod_nonneg c (show (2147483629 : Int) ≠ 0 by decide)
    have h2 := Int.emod_lt_of_pos c (show (0 : Int) < 2147483629 by decide)
    omega
  · have h1 := Int.emod_nonneg c (show (2147483629 : Int) ≠ 0 by decide)
    have e1 : ((c % 2147483629 + 1).toNat : Int) = c % 2147483629 + 1 := Int.toNat_of_nonneg (by omega)
    have e2 : (((if c - 10 ^ 18 > 0 then c - 10 ^ 18 else 0).toNat : Nat) : Int) = if c - 10 ^ 18 > 0 then c - 10 ^ 18 else 0 := Int.toNat_of_nonneg (by split <;> omega)
    let ρ : Ev := [.dat (.int c)]
    have p1 : fBin dPow (fC (.int 10)) (fC (.int 18)) ρ = some (.dat (.int (10 ^ 18)), ρ) := binE rfl rfl (by kernel_rfl)
    have m1 : dMax [.int 0, .int (c - 10 ^ 18)] = some (.int (if c - 10 ^ 18 > 0 then c - 10 ^ 18 else 0)) := rfl
    have i1 : fBlt dMax (fCons (fC (.int 0)) (fCons (fBin dSub (fVar 0) (fBin dPow (fC (.int 10)) (fC (.int 18)))) (fNil))) ρ = some (.dat (.int (if c - 10 ^ 18 > 0 then c - 10 ^ 18 else 0)), ρ) :=
      bltE (ρ1 := ρ) (ds := [.int 0, .int (c - 10 ^ 18)]) (consE rfl (consE (binE (ρ1 := ρ) (ρ2 := ρ) rfl p1 rfl) rfl)) rfl m1
    have i2 : fBin dAdd (fBin dMod (fVar 0) (fC (.int 2147483629))) (fC (.int 1)) ρ = some (.dat (.int (c % 2147483629 + 1)), ρ) := binE (ρ1 := ρ) (ρ2 := ρ) (binE (ρ1 := ρ) (ρ2 := ρ) rfl rfl (r := .int (c % 2147483629)) (by simp only [dMod, if_pos (show (0 : Int) < 2147483629 by decide)])) rfl rfl
    have e : dn__law_pen ρ = some ([.int (if c - 10 ^ 18 > 0 then c - 10 ^ 18 else 0), .int (c % 2147483629 + 1), .int 0], ρ) := newE (consE i1 (consE i2 (consE rfl rfl))) rfl (show 3 ≤ sLn by decide)
    show (match dn__law_pen ρ with | some (out, _) => if out.all flD = true then some out else none | none => none) = _
    rw [e, ← e1, ← e2]
    rfl
theorem cell_ok (ns : List Int) (k : Nat) : ∃ c : Int, Ret g__law_cell [.dat (.scr ns), .dat (dI k)] (.int c) := by
  have t : fTest (fBin (dCmp fun i j => decide (i < j)) (fVar 1) (fBlt dLen (fCons (fVar 0) fNil))) [.dat (.scr ns), .dat (dI k)] = some (decide (k < ns.length), [.dat (.scr ns), .dat (dI k)]) :=
    testE (binE (ρ1 := [.dat (.scr ns), .dat (dI k)]) (ρ2 := [.dat (.scr ns), .dat (dI k)]) rfl (bltE (ρ1 := [.dat (.scr ns), .dat (dI k)]) (ds := [.scr ns]) (consE rfl rfl) rfl rfl) (cmp_ok k ns.length))
  by_cases hk : k < ns.length
  · rw [decide_eq_true hk] at t
    have hi : dIdx (.scr ns) (dI k) = some (.int ns[k]) := by
      show (atI ns (k : Int)).map D.int = _
      unfold atI ixN
      rw [if_pos (by omega), if_pos (by omega), Int.toNat_natCast, Option.bind_some, List.getElem?_eq_getElem hk]
      rfl
    refine ⟨ns[k], [.dat (.scr ns), .dat (dI k)], ?_, Nat.le_refl _⟩
    have b : d__law_cell [.dat (.scr ns), .dat (dI k)] = some (.rt (.int ns[k]), [.dat (.scr ns), .dat (dI k)]) := retE (iteT t (binE rfl rfl hi))
    show frD (d__law_cell [.dat (.scr ns), .dat (dI k)]) = _
    rw [b]
    rfl
  · rw [decide_eq_false hk] at t
    refine ⟨0, [.dat (.scr ns), .dat (dI k)], ?_, Nat.le_refl _⟩
    have b : d__law_cell [.dat (.scr ns), .dat (dI k)] = some (.rt (.int 0), [.dat (.scr ns), .dat (dI k)]) := retE (iteF t rfl)
    show frD (d__law_cell [.dat (.scr ns), .dat (dI k)]) = _
    rw [b]
    rfl
end SC

set_option Elab.async false
set_option linter.all false
set_option maxRecDepth 100000
namespace SC
open PySem PySem.Spec PyProof.Rows L2

/-! ### the cells of a script, the pen at any slot -/
theorem callPi1 {g : FG} {ρ : Ev} {s s' : Sl} {r : D} {rest : List Sl} {N i : Nat} (h0 : ρ[i]? = some s) (hs : PenOk N s) (hg : g [s] = some (r, s' :: rest)) : fCall g [] (fCons (fVar i) fNil) ρ = some (.dat r, ρ.set i s') := by
  obtain ⟨x, y, z, rfl, _, _⟩ := hs
  unfold pen at *
  simp [fCall, fCons, fNil, fVar, h0, argSl, Sl.mut, slotsOf, hg, putSl]
theorem callPi2 {g : FG} {fb : FE} {ρ : Ev} {s s' : Sl} {d r : D} {rest : List Sl} {N i : Nat} (h0 : ρ[i]? = some s) (hs : PenOk N s) (h2 : fb ρ = some (.dat d, ρ)) (hg : g [s, .dat d] = some (r, s' :: rest)) (hl : 1 ≤ rest.length) :
    fCall g [] (fCons (fVar i) (fCons fb fNil)) ρ = some (.dat r, ρ.set i s') := by
  obtain ⟨x, y, z, rfl, _, _⟩ := hs
  unfold pen at *
  have e : putSl (ρ.set i s') [.dat d] rest = ρ.set i s' := put_nil 0 _ _ _ rfl
  simp [fCall, fCons, fNil, fVar, h0, h2, argSl, Sl.mut, slotsOf, hg, putSl, hl, e]
theorem dr_calli1 {c N i : Nat} {g : FG} {P : D → Prop} (h : Dr c g [] P) {s : Sl} {ρ : Ev} (h0 : ρ[i]? = some s) (hs : PenOk N s) (hN : N + c < 2 ^ 60) : ∃ r s', fCall g [] (fCons (fVar i) fNil) ρ = some (.dat r, ρ.set i s') ∧ PenOk (N + c) s' ∧ P r := by
  obtain ⟨r, s', rest, e, _, h1, h2⟩ := h N s hs hN
  exact ⟨r, s', callPi1 h0 hs e, h1, h2⟩
theorem dr_calli2 {c N i : Nat} {g : FG} {d : D} {P : D → Prop} (h : Dr c g [.dat d] P) {fb : FE} {s : Sl} {ρ : Ev} (h0 : ρ[i]? = some s) (hs : PenOk N s) (hN : N + c < 2 ^ 60) (hb : fb ρ = some (.dat d, ρ)) : ∃ r s', fCall g [] (fCons (fVar i) (fCons fb fNil)) ρ = some (.dat r, ρ.set i s') ∧ PenOk (N + c) s' ∧ P r := by
  obtain ⟨r, s', rest, e, hl, h1, h2⟩ := h N s hs hN
  exact ⟨r, s', callPi2 h0 hs hb e hl, h1, h2⟩
theorem cut_len (ns : List Int) : (cutI ns (some 1) (some 3)).length ≤ 2 := by
  unfold cutI
  rw [List.length_take, List.length_drop]
  have h1 : HT.sIx ns.length 0 (some 1) = min 1 ns.length := rfl
  have h3 : HT.sIx ns.length ns.length (some 3) = min 3 ns.length := rfl
  rw [h1, h3]
  omega
/-- [cell(script, 0)] + script[1:3] -/
theorem cellsG (ns : List Int) {ρ : Ev} (h0 : ρ[0]? = some (.dat (.scr ns))) : ∃ cs : List Int, sItm (fBin dAdd (fNew (nDisp (fCons (fCall g__law_cell [] (fCons (fVar 0) (fCons (fC (.int 0)) (fNil)))) (fNil)))) (fSlc (fVar 0) (fPart (fC (.int 1))) (fPart (fC (.int 3))))) ρ = some (cs.map D.int, [.dat (.lst (cs.map D.int))], ρ) := by
  obtain ⟨c, hc⟩ := cell_ok ns 0
  refine ⟨c :: cutI ns (some 1) (some 3), ?_⟩
  have v0 : fVar 0 ρ = some (.dat (.scr ns), ρ) := by simp only [fVar, h0]
  have e1 : fNew (nDisp (fCons (fCall g__law_cell [] (fCons (fVar 0) (fCons (fC (.int 0)) (fNil)))) (fNil))) ρ = some (.dat (.lst [.int c]), ρ) := fnewE (newE (ρ1 := ρ) (ds := [.int c]) (consE (callD2 (ρ1 := ρ) (ρ2 := ρ) v0 rfl hc) rfl) rfl (show 1 ≤ sLn by decide))
  have e2 : fSlc (fVar 0) (fPart (fC (.int 1))) (fPart (fC (.int 3))) ρ = some (.dat (.lst ((cutI ns (some 1) (some 3)).map D.int)), ρ) := by
    simp only [fSlc, v0, fPart, fC]
    rfl
  have hl : ([D.int c]).length + ((cutI ns (some 1) (some 3)).map D.int).length ≤ sLn := by
    rw [List.length_map]
    have := cut_len ns
    exact Nat.le_trans (show 1 + (cutI ns (some 1) (some 3)).length ≤ 3 by omega) (by decide)
  have ha : dAdd (.lst [.int c]) (.lst ((cutI ns (some 1) (some 3)).map D.int)) = some (.lst ((c :: cutI ns (some 1) (some 3)).map D.int)) := by
    simp only [dAdd, if_pos hl]
    rfl
  exact itmE (binE (ρ1 := ρ) (ρ2 := ρ) e1 e2 ha) rfl rfl
/-- the pen of a cell -/
theorem penN_ok {ρ : Ev} {i : Nat} {c : Int} (h : fVar i ρ = some (.dat (.int c), ρ)) : ∃ s, PenOk 0 s ∧ ∀ j, bOwn j (nCallN gn__law_pen (fCons (fVar i) (fNil))) ρ = some (.nx, ρ.set j s) := by
  obtain ⟨x, y, hy, hp⟩ := pen_ok c
  refine ⟨pen x y 0, ⟨x, y, 0, rfl, hy, Nat.le_refl _⟩, fun j => ?_⟩
  have e1 : fCons (fVar i) fNil ρ = some ([.dat (.int c)], ρ) := consE h rfl
  have e2 : nCallN gn__law_pen (fCons (fVar i) (fNil)) ρ = some ([dI x, dI y, dI 0], ρ) := by
    simp only [nCallN, e1, datAll, Option.map_some, hp]
    rfl
  exact ownE e2
end SC

set_option Elab.async false
set_option linter.all false
set_option maxRecDepth 100000
namespace SC
open PySem PySem.Spec PyProof.Rows L2

/-! ### the law's laps -/
def lapsB (m : Nat) (lapB : FB) : FB := bFor (.nm 1) (sItm (fBin dAdd (fNew (nDisp (fCons (fCall g__law_cell [] (fCons (fVar 0) (fCons (fC (.int 0)) (fNil)))) (fNil)))) (fSlc (fVar 0) (fPart (fC (.int 1))) (fPart (fC (.int 3)))))) (bSeq (bOwn 2 (nCallN gn__law_pen (fCons (fVar 1) (fNil)))) (bFor (.nm 3) (sRng (fCons (fC (.int m)) (fNil))) lapB))
theorem laps_ok (ns : List Int) {m c L : Nat} {lapB : FB} (hm : m ≤ 100) (hc : c ≤ 100000) (lap : ∀ (N : Nat) (s a1 a3 : Sl) (r : Ev), PenOk N s → N + c < 2 ^ 60 → r.length = L →
    ∃ s' r', lapB (.dat (.scr ns) :: a1 :: s :: a3 :: r) = some (.nx, .dat (.scr ns) :: a1 :: s' :: a3 :: r') ∧ PenOk (N + c) s' ∧ r'.length = L) (r : Ev) (hr : r.length = L) :
    ∃ a1 a2 a3 r', lapsB m lapB (.dat (.scr ns) :: .un :: .un :: .un :: r) = some (.nx, .dat (.scr ns) :: a1 :: a2 :: a3 :: r') ∧ r'.length = L := by
  obtain ⟨cs, hsrc⟩ := cellsG ns (ρ := .dat (.scr ns) :: .un :: .un :: .un :: r) rfl
  let cellB : FB := (bSeq (bOwn 2 (nCallN gn__law_pen (fCons (fVar 1) (fNil)))) (bFor (.nm 3) (sRng (fCons (fC (.int m)) (fNil))) lapB))
  have cell : ∀ (x : Int) (a2 a3 : Sl) (r : Ev), r.length = L → ∃ b2 b3 r', cellB (.dat (.scr ns) :: .dat (.int x) :: a2 :: a3 :: r) = some (.nx, .dat (.scr ns) :: .dat (.int x) :: b2 :: b3 :: r') ∧ r'.length = L := by
    intro x a2 a3 r hr
    obtain ⟨s, hs, hown⟩ := penN_ok (ρ := .dat (.scr ns) :: .dat (.int x) :: a2 :: a3 :: r) (i := 1) (c := x) rfl
    obtain ⟨ρ', e, s', b3, r', rfl, _, hr'⟩ := for_inv (p := .nm 3) (fb := lapB) (fun i ρ => ∃ s' b3 r', ρ = .dat (.scr ns) :: .dat (.int x) :: s' :: b3 :: r' ∧ PenOk (c * i) s' ∧ r'.length = L)
      (rangeD 0 m) 0 (.dat (.scr ns) :: .dat (.int x) :: s :: a3 :: r) (fun k d hk ρ hI => by
        obtain ⟨s', b3, r1, rfl, g, h1⟩ := hI
        obtain ⟨rfl, hkp⟩ := rng_get m k d hk
        have hb : c * k ≤ 100000 * 100 := Nat.mul_le_mul hc (by omega)
        obtain ⟨s2, r2, e, g2, h2⟩ := lap (c * (0 + k)) s' (.dat (.int x)) (.dat (dI k)) r1 g (by rw [Nat.zero_add]; omega) h1
        exact ⟨_, _, rfl, e, s2, _, r2, rfl, by rw [Nat.mul_succ]; exact g2, h2⟩) ⟨s, a3, r, rfl, hs, hr⟩
    exact ⟨s', b3, r', seqE (hown 2) (forE (sRng_ok (n := m) rfl (by omega)) rfl e), hr'⟩
  obtain ⟨ρ', e, a1, a2, a3, r', rfl, hr'⟩ := for_inv (p := .nm 1) (fb := cellB) (fun _ ρ => ∃ a1 a2 a3 r', ρ = .dat (.scr ns) :: a1 :: a2 :: a3 :: r' ∧ r'.length = L) (cs.map D.int) 0 (.dat (.scr ns) :: .un :: .un :: .un :: r) (fun k d hk ρ hI => by
    obtain ⟨a1, a2, a3, r1, rfl, h1⟩ := hI
    rw [List.getElem?_map] at hk
    obtain ⟨x, _, rfl⟩ := Option.map_eq_some_iff.mp hk
    obtain ⟨b2, b3, r2, e, h2⟩ := cell x a2 a3 r1 h1
    exact ⟨_, _, rfl, e, _, b2, b3, r2, rfl, h2⟩) ⟨_, _, _, r, rfl, hr⟩
  exact ⟨a1, a2, a3, r', forE hsrc rfl e, hr'⟩
theorem len4 {r : Ev} (h : r.length = 4) : ∃ a b c d, r = [a, b, c, d] := by
  match r, h with
  | [a, b, c, d], _ => exact ⟨a, b, c, d, rfl⟩
end SC

set_option Elab.async false
set_option linter.all false
set_option maxRecDepth 100000
namespace SC
open PySem PySem.Spec PyProof.Rows L2

/-! ### == of plans -/
def rP (ws : List Nat) : PyData := .tuple (ws.map fun (w : Nat) => PyData.int (w : Int))
theorem toPs_nat : ∀ ws : List Nat, toPs (ws.map fun (w : Nat) => D.int (w : Int)) = some (ws.map fun (w : Nat) => PyData.int (w : Int))
  | [] => by simp only [List.map_nil, toPs]
  | w :: ws => by simp only [List.map_cons, toPs, toP, toPs_nat ws]
theorem toP_row (ws : List Nat) : toP (rowD ws) = some (rP ws) := by
  unfold rowD rP
  simp only [toP, toPs_nat, Option.map_some]
theorem toPs_rows : ∀ rows : List (List Nat), toPs (rows.map rowD) = some (rows.map rP)
  | [] => by simp only [List.map_nil, toPs]
  | w :: ws => by simp only [List.map_cons, toPs, toP_row, toPs_rows ws]
theorem eqv_nats : ∀ a b : List Nat, PyData.eqvAll (a.map fun (w : Nat) => PyData.int (w : Int)) (b.map fun (w : Nat) => PyData.int (w : Int)) = decide (a = b)
  | [], [] => by simp [PyData.eqvAll]
  | [], _ :: _ => by simp [PyData.eqvAll]
  | _ :: _, [] => by simp [PyData.eqvAll]
  | x :: xs, y :: ys => by
    simp only [List.map_cons, PyData.eqvAll, PyData.eqv, eqv_nats xs ys]
    by_cases h : x = y
    · subst h; simp
    · have : ¬ ((x : Int) = (y : Int)) := fun z => h (Int.ofNat.inj z)
      simp [h, this]
theorem eqv_rows : ∀ a b : List (List Nat), PyData.eqvAll (a.map rP) (b.map rP) = decide (a = b)
  | [], [] => by simp [PyData.eqvAll]
  | [], _ :: _ => by simp [PyData.eqvAll]
  | _ :: _, [] => by simp [PyData.eqvAll]
  | x :: xs, y :: ys => by
    have h0 : PyData.eqv (rP x) (rP y) = decide (x = y) := by
      unfold rP
      simp only [PyData.eqv, eqv_nats]
    simp only [List.map_cons, PyData.eqvAll, h0, eqv_rows xs ys]
    by_cases h : x = y
    · subst h; simp
    · simp [h]
theorem eq_rows {p q : Nat} {a b : List (List Nat)} (h : VP p a) (h2 : VP q b) : dEq (.tup (a.map rowD)) (.tup (b.map rowD)) = some (.bl (decide (a = b))) := by
  unfold dEq
  rw [(rows_tm h).sh (by decide), (rows_tm h2).sh (by decide)]
  simp only [Bool.and_self, if_true, eqD, toP, toPs_rows, Option.map_some, PyData.eqv, eqv_rows]
theorem pair_tm {p : Nat} {rows : List (List Nat)} (h : VP p rows) : Tm 3 50000 (.tup [dI p, .lst (rows.map rowD)]) := by
  have h1 : ∀ d ∈ rows.map rowD, Tm 1 5200 d := fun d hd => by
    obtain ⟨i, hi⟩ := List.mem_iff_getElem?.mp hd
    rw [List.getElem?_map] at hi
    obtain ⟨ws, hw, rfl⟩ := Option.map_eq_some_iff.mp hi
    refine (row_tm (h.row i ws hw)).mono (Nat.le_refl _) ?_
    have h4 := h.p4
    have n4 := h.n4
    omega
  have h2 := tm_lst h1
  have h3 : ∀ d ∈ [dI p, .lst (rows.map rowD)], Tm 2 21000 d := fun d hd => by
    simp only [List.mem_cons, List.not_mem_nil, or_false] at hd
    rcases hd with rfl | rfl
    · exact (tm_nat (L := 10) (Nat.lt_of_le_of_lt h.p4 (by decide)) (by decide)).mono (by decide) (by decide)
    · refine h2.mono (by decide) ?_
      have n4 := h.n4
      rw [List.length_map]
      omega
  exact (tm_tup h3).mono (by decide) (by show 2 * (21000 + 2) + 3 ≤ 50000; decide)
theorem eq_pair {p q : Nat} {a b : List (List Nat)} (h : VP p a) (h2 : VP q b) : dEq (.tup [dI p, .lst (a.map rowD)]) (.tup [dI q, .lst (b.map rowD)]) = some (.bl (decide (p = q ∧ a = b))) := by
  unfold dEq
  rw [(pair_tm h).sh (by decide), (pair_tm h2).sh (by decide)]
  simp only [Bool.and_self, if_true, eqD, toP, toPs, toPs_rows, Option.map_some, PyData.eqv, PyData.eqvAll, eqv_rows]
  by_cases e : p = q
  · subst e; simp
  · have : ¬ ((p : Int) = (q : Int)) := fun z => e (Int.ofNat.inj z)
    simp [e, this]
theorem eqp_ok {p q : Nat} {a b : List (List Nat)} (h : VP p a) (h2 : VP q b) : Ret g_Plan___eq__ [.dat (planD p a), .dat (planD q b)] (.bl (decide (p = q ∧ a = b))) := by
  let ρ : Ev := [.dat (planD p a), .dat (planD q b)]
  have e1 : fBin dEq (fFld 0 0 (fVar 0)) (fFld 0 0 (fVar 1)) ρ = some (.dat (.bl (decide (p = q))), ρ) := binE (ρ1 := ρ) (ρ2 := ρ) rfl rfl (eq_nat p q)
  have e2 : fBin dEq (fFld 0 1 (fVar 0)) (fFld 0 1 (fVar 1)) ρ = some (.dat (.bl (decide (a = b))), ρ) := binE (ρ1 := ρ) (ρ2 := ρ) rfl rfl (eq_rows h h2)
  have e0 : fTest (fIsi (inCls [0, 1] [0]) (fVar 1)) ρ = some (true, ρ) := rfl
  have body : d_Plan___eq__ ρ = some (.rt (.bl (decide (p = q ∧ a = b))), ρ) := by
    refine retE (andVT e0 ?_)
    by_cases e : p = q
    · have t := testE e1
      rw [decide_eq_true e] at t
      rw [andVT t rfl, e2]
      simp [e]
    · have t := testE e1
      rw [decide_eq_false e] at t
      simp only [fAndV, t]
      simp [e]
  refine ⟨ρ, ?_, by simp [ρ]⟩
  show frD (d_Plan___eq__ ρ) = _
  rw [body]
  rfl
/-- what is no plan is not equal to a plan -/
def Foe (d : D) : Prop := inCls [0, 1] [0] d = some false
theorem foe_kd {d : D} (h : Foe d) : kdOk [0, 1] d = true ∧ kdOk [1] d = true := by
  unfold Foe inCls at h
  cases d with
  | ins c ds =>
    simp only at h
    split at h
    · rename_i hc
      have h1 := Option.some.inj h
      have hc' : c = 0 ∨ c = 1 := by simpa using hc
      rcases hc' with rfl | rfl
      · simp at h1
      · exact ⟨rfl, rfl⟩
    · cases h
  | cl c => cases h
  | _ => exact ⟨rfl, rfl⟩
theorem eqo_ok {p : Nat} {a : List (List Nat)} {d : D} (h : Foe d) : Ret g_Plan___eq__ [.dat (planD p a), .dat d] (.bl false) := by
  let ρ : Ev := [.dat (planD p a), .dat d]
  have e0 : fTest (fIsi (inCls [0, 1] [0]) (fVar 1)) ρ = some (false, ρ) := by
    refine testE ?_
    simp only [fIsi]
    show (match inCls [0, 1] [0] d with | some b => some (Opd.dat (.bl b), ρ) | none => none) = _
    rw [show inCls [0, 1] [0] d = some false from h]
  have body : d_Plan___eq__ ρ = some (.rt (.bl false), ρ) := by
    refine retE ?_
    simp only [fAndV, e0]
  refine ⟨ρ, ?_, by simp [ρ]⟩
  show frD (d_Plan___eq__ ρ) = _
  rw [body]
  rfl
theorem runD2 {g : FG} {ρ : Ev} {d e r : D} (h : Ret g [.dat d, .dat e] r) : runG g [] [.dat d, .dat e] ρ = some (.dat r, ρ) := by
  obtain ⟨o, ho, hl⟩ := h
  have hl' : 2 ≤ o.length := hl
  have hp := put_nil 0 ρ [.dat d, .dat e] o rfl
  simp [runG, argSl, slotsOf, ho, hp, hl']
theorem eqLE {neg : Bool} {fa fb : FE} {ρ ρ1 ρ2 : Ev} {p : Nat} {a : List (List Nat)} {e : D} {r : Bool} (h1 : fa ρ = some (.dat (planD p a), ρ1)) (h2 : fb ρ1 = some (.dat e, ρ2)) (hk : kdOk [0, 1] e = true) (h : Ret g_Plan___eq__ [.dat (planD p a), .dat e] (.bl r)) :
    fEqL 0 [1] g_Plan___eq__ neg fa fb ρ = some (.dat (.bl (xor neg r)), ρ2) := by
  unfold fEqL
  rw [h1]
  show (match fb ρ1 with | none => none | some (o, ρ2) => match o.get ρ2 with
        | none => none
        | some d2 => if kdOk [0, 1] d2 = true then match runG g_Plan___eq__ [] [.dat (planD p a), o] ρ2 with
            | some (.dat (.bl r), ρ3) => some (Opd.dat (.bl (xor neg r)), ρ3)
            | _ => none
          else none) = _
  rw [h2]
  show (if kdOk [0, 1] e = true then match runG g_Plan___eq__ [] [.dat (planD p a), .dat e] ρ2 with
            | some (.dat (.bl r), ρ3) => some (Opd.dat (.bl (xor neg r)), ρ3)
            | _ => none
          else none) = _
  rw [if_pos hk, runD2 h]
theorem eqRE {fa fb : FE} {ρ ρ1 ρ2 : Ev} {p : Nat} {a : List (List Nat)} {e : D} {r : Bool} (h1 : fa ρ = some (.dat e, ρ1)) (h2 : fb ρ1 = some (.dat (planD p a), ρ2)) (hk : kdOk [1] e = true) (h : Ret g_Plan___eq__ [.dat (planD p a), .dat e] (.bl r)) :
    fEqR 0 [1] g_Plan___eq__ fa fb ρ = some (.dat (.bl r), ρ2) := by
  unfold fEqR
  rw [h1]
  show (if kdOk [1] e = true then _ else none) = _
  rw [if_pos hk, h2]
  show (match runG g_Plan___eq__ [] [.dat (planD p a), .dat e] ρ2 with
            | some (.dat (.bl r), ρ3) => some (Opd.dat (.bl r), ρ3)
            | _ => none) = _
  rw [runD2 h]
end SC

set_option Elab.async false
set_option linter.all false
set_option maxRecDepth 100000
namespace SC
open PySem PySem.Spec PyProof.Rows L2

/-! ### the near plan -/
theorem allI_nl : ∀ l : List Nat, allI (nl l) = some (l.map fun (x : Nat) => (x : Int))
  | [] => rfl
  | x :: l => by
    have e : nl (x :: l) = .int (x : Int) :: nl l := rfl
    rw [e, allI, allI_nl l]
    rfl
theorem fmaxN : ∀ (l : List Nat) (a : Nat), (l.map fun (x : Nat) => (x : Int)).foldl max (a : Int) = ((l.foldl max a : Nat) : Int)
  | [], a => rfl
  | x :: l, a => by
    have e : max (a : Int) (x : Int) = ((max a x : Nat) : Int) := by omega
    rw [List.map_cons, List.foldl_cons, e, fmaxN l]
    rfl
theorem fmaxN_le {L : Nat} : ∀ (l : List Nat) (a : Nat), a ≤ L → (∀ x ∈ l, x ≤ L) → l.foldl max a ≤ L
  | [], a, h, _ => h
  | x :: l, a, h, g => by
    show l.foldl max (max a x) ≤ L
    exact fmaxN_le l _ (Nat.max_le.mpr ⟨h, g x List.mem_cons_self⟩) fun y hy => g y (List.mem_cons_of_mem _ hy)
theorem fmaxN_mem {L : Nat} : ∀ (l : List Nat) (a : Nat), l.foldl max a < L → a < L ∧ ∀ x ∈ l, x < L
  | [], a, h => ⟨h, fun _ z => by cases z⟩
  | x :: l, a, h => by
    obtain ⟨h1, h2⟩ := fmaxN_mem l (max a x) h
    refine ⟨by omega, fun y hy => ?_⟩
    rcases List.mem_cons.mp hy with rfl | hy
    · omega
    · exact h2 y hy
theorem maxT_nl (w : Nat) (ws : List Nat) : dMaxT [.tup (nl (w :: ws))] = some (dI (ws.foldl max w)) := by
  simp only [dMaxT, allI_nl, List.map_cons, fmaxN]
theorem maxL_nl (w : Nat) (ws : List Nat) : dMaxL [.lst (nl (w :: ws))] = some (dI (ws.foldl max w)) := by
  simp only [dMaxL, allI_nl, List.map_cons, fmaxN]
theorem lt_natD (a b : Nat) : dCmp (fun i j => decide (i < j)) (dI a) (dI b) = some (.bl (decide (a < b))) := by
  simp only [dCmp, Int.ofNat_lt]
def Near (q : Nat) (b : List (List Nat)) : Prop := VP q b ∨ ∃ w, q = 1 ∧ b = [[w, 0]] ∧ w ≤ 40 ∧ 0 < w
theorem vp_set {p i : Nat} {rows : List (List Nat)} {ws : List Nat} (h : VP p rows) (hr : Row p rows.length i ws) : VP p (rows.take i ++ [ws] ++ rows.drop (i + 1)) ∨ ¬ i < rows.length := by
  by_cases hi : i < rows.length
  · left
    have e : rows.take i ++ [ws] ++ rows.drop (i + 1) = rows.set i ws := by
      rw [List.set_eq_take_append_cons_drop, if_pos hi]
      simp
    rw [e]
    refine ⟨h.p1, h.p4, by rw [List.length_set]; exact h.n1, by rw [List.length_set]; exact h.n4, fun j vs hj => ?_⟩
    rw [List.length_set]
    by_cases hij : i = j
    · subst hij
      rw [List.getElem?_set_self hi] at hj
      cases hj
      exact hr
    · rw [List.getElem?_set_ne hij] at hj
      exact h.row j vs hj
  · exact .inr hi
theorem le_sumN : ∀ (l : List Nat) (x : Nat), x ∈ l → x ≤ l.sum
  | y :: l, x, h => by
    rw [List.sum_cons]
    rcases List.mem_cons.mp h with rfl | h
    · omega
    · have := le_sumN l x h
      omega
theorem row_put {p n i k v : Nat} {ws : List Nat} (h : Row p n i ws) (hk : k < p) (h1 : 1 ≤ v) (h2 : v ≤ 20) : Row p n i (ws.set k v) := by
  have hl := h.len
  refine ⟨by rw [List.length_set]; exact hl, fun w hw => ?_, ?_, ?_⟩
  · rcases List.mem_or_eq_of_mem_set hw with z | rfl
    · exact h.le w z
    · exact h2
  · have hm : v ∈ (ws.set k v).take p := by
      rw [List.take_set]
      exact List.mem_set (by rw [List.length_take]; omega) v
    have := le_sumN _ _ hm
    omega
  · rw [List.getElem?_set_ne (by omega)]
    exact h.own
theorem row_dbl {p n i : Nat} {ws : List Nat} (h : Row p n i ws) (hs : ∀ w ∈ ws, w < 11) : Row p n i (ws.map (2 * ·)) := by
  refine ⟨by rw [List.length_map]; exact h.len, fun w hw => ?_, ?_, ?_⟩
  · obtain ⟨x, hx, rfl⟩ := List.mem_map.mp hw
    have := hs x hx
    show 2 * x ≤ 20
    omega
  · rw [← List.map_take]
    have e : ∀ l : List Nat, (l.map (2 * ·)).sum = 2 * l.sum := fun l => by
      induction l with
      | nil => rfl
      | cons x l ih => simp only [List.map_cons, List.sum_cons, ih]; omega
    rw [e]
    have := h.pos
    omega
  · rw [List.getElem?_map, h.own]
    rfl
theorem len_rowsD (rows : List (List Nat)) {i : Nat} {ρ : Ev} (h : fVar i ρ = some (.dat (.lst (rows.map rowD)), ρ)) : fBlt dLen (fCons (fVar i) fNil) ρ = some (.dat (dI rows.length), ρ) :=
  bltE (ρ1 := ρ) (ds := [.lst (rows.map rowD)]) (consE h rfl) rfl (by simp only [dLen, List.length_map])
theorem add_tup2 {a b : List D} (h : a.length + b.length ≤ sLn) : dAdd (.tup a) (.tup b) = some (.tup (a ++ b)) := by simp only [dAdd, if_pos h]
theorem add_lst2 {a b : List D} (h : a.length + b.length ≤ sLn) : dAdd (.lst a) (.lst b) = some (.lst (a ++ b)) := by simp only [dAdd, if_pos h]
theorem sLn_100 : 100 ≤ sLn := by decide
theorem slcTo0 {fa fb : FE} {ρ ρ1 ρ2 : Ev} {ds : List D} {k : Nat} (h1 : fa ρ = some (.dat (.lst ds), ρ1)) (h2 : fb ρ1 = some (.dat (dI k), ρ2)) (hk : k ≤ ds.length) : fSlc fa fNoPart (fPart fb) ρ = some (.dat (.lst (ds.take k)), ρ2) := by
  simp only [fSlc, h1, fNoPart, fPart, h2, Opd.get, dSlc, cut_lo hk]
theorem slcFrom0 {fa fb : FE} {ρ ρ1 ρ2 : Ev} {ds : List D} {k : Nat} (h1 : fa ρ = some (.dat (.lst ds), ρ1)) (h2 : fb ρ1 = some (.dat (dI k), ρ2)) (hk : k ≤ ds.length) : fSlc fa (fPart fb) fNoPart ρ = some (.dat (.lst (ds.drop k)), ρ2) := by
  simp only [fSlc, h1, fNoPart, fPart, h2, Opd.get, dSlc, cut_hi hk]
theorem near_dr {p : Nat} {rows : List (List Nat)} (h : VP p rows) : Dr 300 g__law_near [.dat (dI p), .dat (.lst (rows.map rowD))] (fun r => ∃ q b, r = .tup [dI q, .lst (b.map rowD)] ∧ Near q b) := by
  intro N s hs hN
  have p1 := h.p1
  have p4 := h.p4
  have n1 := h.n1
  have n4 := h.n4
  let R : D := .lst (rows.map rowD)
  obtain ⟨way, s1, e1, h1, l1⟩ := draw_c 5 (by decide) (by decide) [.dat (dI p), .dat R, .un, .un, .un, .un, .un] hs (by omega) (fb := fC (.int 5)) rfl
  obtain ⟨sp, s2, e2, h2, l2⟩ := draw_c rows.length (by omega) (by omega) [.dat (dI p), .dat R, .un, .un, .un, .un, .un] h1 (by omega) (fb := fBlt dLen (fCons (fVar 2) fNil)) (len_rowsD rows rfl)
  obtain ⟨ws, hws⟩ : ∃ ws, rows[sp]? = some ws := ⟨_, List.getElem?_eq_getElem l2⟩
  have hrow := h.row sp ws hws
  have hwl : ws.length = p + rows.length := hrow.len
  let ρ1 : Ev := [s2, .dat (dI p), .dat R, .dat (dI way), .dat (dI sp), .un, .un, .un]
  let ρ2 : Ev := [s2, .dat (dI p), .dat R, .dat (dI way), .dat (dI sp), .dat (rowD ws), .un, .un]
  have b1 : bPar [3, 4] (mDat (fCall g__law_draw [] (fCons (fVar 0) (fCons (fC (.int 5)) (fNil)))) (mDat (fCall g__law_draw [] (fCons (fVar 0) (fCons (fBlt dLen (fCons (fVar 2) fNil)) (fNil)))) (mNil))) [s, .dat (dI p), .dat R, .un, .un, .un, .un, .un] = some (.nx, ρ1) := parE (mDatE e1 (mDatE e2 rfl)) rfl
  have hix : dIdx R (dI sp) = some (rowD ws) := idx_nat (by rw [List.getElem?_map, hws]; rfl)
  have b2 : bSet 5 (fBin dIdx (fVar 2) (fVar 4)) ρ1 = some (.nx, ρ2) := setE (ρ1 := ρ1) (binE (ρ1 := ρ1) (ρ2 := ρ1) rfl rfl hix)
  -- one weight put
  have b3 : ∃ (ws' : List Nat) (s3 a6 : Sl), bIf (fTest (fBin (dEq) (fVar 3) (fC (.int 0)))) (bSeq (bSet 6 (fCall g__law_draw [] (fCons (fVar 0) (fCons (fVar 1) (fNil))))) (bSet 5 (fBin dAdd (fBin dAdd (fSlc (fVar 5) (fNoPart) (fPart (fVar 6))) (fDisp .tup (fCons (fBin dAdd (fC (.int 1)) (fCall g__law_draw [] (fCons (fVar 0) (fCons (fC (.int 20)) (fNil))))) (fNil)))) (fSlc (fVar 5) (fPart (fBin dAdd (fVar 6) (fC (.int 1)))) (fNoPart))))) (bNx) ρ2
      = some (.nx, [s3, .dat (dI p), .dat R, .dat (dI way), .dat (dI sp), .dat (rowD ws'), a6, .un]) ∧ PenOk (N + 4) s3 ∧ Row p rows.length sp ws' := by
    have t : fTest (fBin (dEq) (fVar 3) (fC (.int 0))) ρ2 = some (decide (way = 0), ρ2) := testE (binE (ρ1 := ρ2) (ρ2 := ρ2) (d := dI way) (e := dI 0) rfl rfl (eq_nat way 0))
    by_cases hw : way = 0
    · rw [decide_eq_true hw] at t
      obtain ⟨k, s3, e3, h3, l3⟩ := draw_c p (by omega) (by omega) [.dat (dI p), .dat R, .dat (dI way), .dat (dI sp), .dat (rowD ws), .un, .un] h2 (by omega) (fb := fVar 1) rfl
      obtain ⟨v, s4, e4, h4, l4⟩ := draw_c 20 (by decide) (by decide) [.dat (dI p), .dat R, .dat (dI way), .dat (dI sp), .dat (rowD ws), .dat (dI k), .un] h3 (by omega) (fb := fC (.int 20)) rfl
      let ρ3 : Ev := [s3, .dat (dI p), .dat R, .dat (dI way), .dat (dI sp), .dat (rowD ws), .dat (dI k), .un]
      let ρ4 : Ev := [s4, .dat (dI p), .dat R, .dat (dI way), .dat (dI sp), .dat (rowD ws), .dat (dI k), .un]
      have hkl : k ≤ (nl ws).length := by rw [nl_len]; omega
      have hkl1 : k + 1 ≤ (nl ws).length := by rw [nl_len]; omega
      have x1 : fSlc (fVar 5) (fNoPart) (fPart (fVar 6)) ρ3 = some (.dat (.tup ((nl ws).take k)), ρ3) := slcTo (ρ1 := ρ3) (ρ2 := ρ3) rfl rfl hkl
      have x2 : fDisp .tup (fCons (fBin dAdd (fC (.int 1)) (fCall g__law_draw [] (fCons (fVar 0) (fCons (fC (.int 20)) (fNil))))) (fNil)) ρ3 = some (.dat (.tup [dI (1 + v)]), ρ4) := dispE (ρ1 := ρ4) (ds := [dI (1 + v)]) (consE (binE (ρ1 := ρ3) (d := dI 1) rfl e4 (add_ok 1 v)) rfl) rfl (show 1 ≤ sLn by decide)
      have x3 : fSlc (fVar 5) (fPart (fBin dAdd (fVar 6) (fC (.int 1)))) (fNoPart) ρ4 = some (.dat (.tup ((nl ws).drop (k + 1))), ρ4) := slcFrom (ρ1 := ρ4) (ρ2 := ρ4) (k := k + 1) rfl (binE (ρ1 := ρ4) (ρ2 := ρ4) (d := dI k) (e := dI 1) rfl rfl (add_ok k 1)) hkl1
      have a1 : dAdd (.tup ((nl ws).take k)) (.tup [dI (1 + v)]) = some (.tup ((nl ws).take k ++ [dI (1 + v)])) := add_tup2 (Nat.le_trans (by rw [List.length_take, nl_len]; simp; omega) sLn_100)
      have a2 : dAdd (.tup ((nl ws).take k ++ [dI (1 + v)])) (.tup ((nl ws).drop (k + 1))) = some (rowD (ws.set k (1 + v))) := by
        rw [add_tup2 (Nat.le_trans (by rw [List.length_append, List.length_take, List.length_drop, nl_len]; simp; omega) sLn_100)]
        have e : ws.set k (1 + v) = ws.take k ++ (1 + v) :: ws.drop (k + 1) := by rw [List.set_eq_take_append_cons_drop, if_pos (by omega)]
        rw [e]
        unfold rowD nl
        simp
      refine ⟨ws.set k (1 + v), s4, .dat (dI k), ifT t (seqE (ρ1 := ρ3) (setE (ρ1 := [s3, .dat (dI p), .dat R, .dat (dI way), .dat (dI sp), .dat (rowD ws), .un, .un]) e3) (setE (ρ1 := ρ4) (binE (binE x1 x2 a1) x3 a2))), h4.mono (by omega), row_put hrow l3 (by omega) (by omega)⟩
    · rw [decide_eq_false hw] at t
      exact ⟨ws, s2, .un, ifF t rfl, h2.mono (by omega), hrow⟩
  obtain ⟨ws3, s3, a6, b3, h3, hrow3⟩ := b3
  let ρ3 : Ev := [s3, .dat (dI p), .dat R, .dat (dI way), .dat (dI sp), .dat (rowD ws3), a6, .un]
  have l3 : ws3.length = p + rows.length := hrow3.len
  -- the weights doubled
  have b4 : ∃ (ws' : List Nat), bIf (fAnd (fTest (fBin (dEq) (fVar 3) (fC (.int 1)))) (fTest (fBin (dCmp fun i j => decide (i < j)) (fBlt dMaxT (fCons (fVar 5) (fNil))) (fC (.int 11))))) (bSet 5 (fBlt dTuple (fCons (fNew (nLc [7] (.nm 7) (sItm (fVar 5)) (fYes) (fBin dMul (fC (.int 2)) (fVar 7)))) (fNil)))) (bNx) ρ3
      = some (.nx, [s3, .dat (dI p), .dat R, .dat (dI way), .dat (dI sp), .dat (rowD ws'), a6, .un]) ∧ Row p rows.length sp ws' := by
    have t : fTest (fBin (dEq) (fVar 3) (fC (.int 1))) ρ3 = some (decide (way = 1), ρ3) := testE (binE (ρ1 := ρ3) (ρ2 := ρ3) (d := dI way) (e := dI 1) rfl rfl (eq_nat way 1))
    by_cases hw : way = 1
    · rw [decide_eq_true hw] at t
      obtain ⟨w, wr, hwr⟩ : ∃ w wr, ws3 = w :: wr := by
        cases ws3 with
        | nil => simp at l3; omega
        | cons w wr => exact ⟨w, wr, rfl⟩
      have t2 : fTest (fBin (dCmp fun i j => decide (i < j)) (fBlt dMaxT (fCons (fVar 5) (fNil))) (fC (.int 11))) ρ3 = some (decide (wr.foldl max w < 11), ρ3) :=
        testE (binE (ρ1 := ρ3) (ρ2 := ρ3) (d := dI (wr.foldl max w)) (e := dI 11) (bltE (ρ1 := ρ3) (ds := [rowD ws3]) (consE rfl rfl) rfl (by rw [hwr]; exact maxT_nl w wr)) rfl (lt_natD _ _))
      by_cases hm : wr.foldl max w < 11
      · rw [decide_eq_true hm] at t2
        obtain ⟨m1, m2⟩ := fmaxN_mem wr w hm
        have hs : ∀ x ∈ ws3, x < 11 := fun x hx => by
          rw [hwr] at hx
          rcases List.mem_cons.mp hx with rfl | hx
          · exact m1
          · exact m2 x hx
        have lc : nLc [7] (.nm 7) (sItm (fVar 5)) (fYes) (fBin dMul (fC (.int 2)) (fVar 7)) ρ3 = some (nl (ws3.map (2 * ·)), ρ3) := by
          refine nLc_ix _ (itmE (fa := fVar 5) (ρ1 := ρ3) (o := Opd.dat (rowD ws3)) (d := rowD ws3) rfl rfl (show walkD (rowD ws3) = some (nl ws3) from rfl)) (getAll_dat _) (by rw [nl_len]; exact Nat.le_trans (by omega) sLn_100) (by rw [nl_len, nl_len, List.length_map]) (fun k d y hk hy => ?_)
          rw [nl, List.getElem?_map] at hk hy
          obtain ⟨x, hx, rfl⟩ := Option.map_eq_some_iff.mp hk
          rw [List.getElem?_map, hx] at hy
          have e2 : y = dI (2 * x) := (Option.some.inj hy).symm
          subst e2
          let ρa : Ev := [s3, .dat (dI p), .dat R, .dat (dI way), .dat (dI sp), .dat (rowD ws3), a6, .dat (dI x)]
          have hx11 := hs x (List.mem_of_getElem? hx)
          exact ⟨ρa, ρa, rfl, binE (ρ1 := ρa) (ρ2 := ρa) (d := dI 2) (e := dI x) rfl rfl (mul_ok (L := 4) (M := 4) (by decide) (by omega) (by decide)), rfl⟩
        exact ⟨ws3.map (2 * ·), ifT (andT t t2) (setE (ρ1 := ρ3) (bltE (ρ1 := ρ3) (ds := [.lst (nl (ws3.map (2 * ·)))]) (r := rowD (ws3.map (2 * ·))) (consE (fnewE lc) rfl) rfl rfl)), row_dbl hrow3 hs⟩
      · rw [decide_eq_false hm] at t2
        exact ⟨ws3, ifF (andT t t2) rfl, hrow3⟩
    · rw [decide_eq_false hw] at t
      exact ⟨ws3, ifF (andF t) rfl, hrow3⟩
  obtain ⟨ws4, b4, hrow4⟩ := b4
  let ρ4 : Ev := [s3, .dat (dI p), .dat R, .dat (dI way), .dat (dI sp), .dat (rowD ws4), a6, .un]
  have l4 : ws4.length = p + rows.length := hrow4.len
  have get4 : ∀ k, k < p + rows.length → dIdx (rowD ws4) (dI k) = some (dI (ws4.getD k 0)) := fun k hk => idx_natT (by
    rw [List.getElem?_map, List.getElem?_eq_getElem (show k < ws4.length by omega), List.getD_eq_getElem?_getD, List.getElem?_eq_getElem (show k < ws4.length by omega)]
    rfl)
  have mid : bIf (fAnd (fTest (fBin (dEq) (fVar 3) (fC (.int 2)))) (fAnd (fTest (fBin (dEq) (fVar 1) (fC (.int 2)))) (fAnd (fTest (fBin (dCmp fun i j => decide (j < i)) (fBin dIdx (fVar 5) (fC (.int 1))) (fC (.int 0)))) (fTest (fBin (dEq) (fBlt dLen (fCons (fVar 2) fNil)) (fC (.int 1))))))) (bRet (fDisp .tup (fCons (fC (.int 1)) (fCons (fNew (nDisp (fCons (fDisp .tup (fCons (fBin dAdd (fBin dIdx (fVar 5) (fC (.int 0))) (fBin dIdx (fVar 5) (fC (.int 1)))) (fCons (fC (.int 0)) (fNil)))) (fNil)))) (fNil))))) (bNx) ρ4 = some (.nx, ρ4) ∨
      ∃ w, bIf (fAnd (fTest (fBin (dEq) (fVar 3) (fC (.int 2)))) (fAnd (fTest (fBin (dEq) (fVar 1) (fC (.int 2)))) (fAnd (fTest (fBin (dCmp fun i j => decide (j < i)) (fBin dIdx (fVar 5) (fC (.int 1))) (fC (.int 0)))) (fTest (fBin (dEq) (fBlt dLen (fCons (fVar 2) fNil)) (fC (.int 1))))))) (bRet (fDisp .tup (fCons (fC (.int 1)) (fCons (fNew (nDisp (fCons (fDisp .tup (fCons (fBin dAdd (fBin dIdx (fVar 5) (fC (.int 0))) (fBin dIdx (fVar 5) (fC (.int 1)))) (fCons (fC (.int 0)) (fNil)))) (fNil)))) (fNil))))) (bNx) ρ4 = some (.rt (.tup [dI 1, .lst [rowD [w, 0]]]), ρ4) ∧ w ≤ 40 ∧ 0 < w := by
    have t1 : fTest (fBin (dEq) (fVar 3) (fC (.int 2))) ρ4 = some (decide (way = 2), ρ4) := testE (binE (ρ1 := ρ4) (ρ2 := ρ4) (d := dI way) (e := dI 2) rfl rfl (eq_nat way 2))
    by_cases c1 : way = 2
    case neg => rw [decide_eq_false c1] at t1; exact .inl (ifF (andF t1) rfl)
    rw [decide_eq_true c1] at t1
    have t2 : fTest (fBin (dEq) (fVar 1) (fC (.int 2))) ρ4 = some (decide (p = 2), ρ4) := testE (binE (ρ1 := ρ4) (ρ2 := ρ4) (d := dI p) (e := dI 2) rfl rfl (eq_nat p 2))
    by_cases c2 : p = 2
    case neg => rw [decide_eq_false c2] at t2; exact .inl (ifF (andT t1 (andF t2)) rfl)
    rw [decide_eq_true c2] at t2
    have i1 : fBin dIdx (fVar 5) (fC (.int 1)) ρ4 = some (.dat (dI (ws4.getD 1 0)), ρ4) := binE (ρ1 := ρ4) (ρ2 := ρ4) rfl rfl (get4 1 (by omega))
    have i0 : fBin dIdx (fVar 5) (fC (.int 0)) ρ4 = some (.dat (dI (ws4.getD 0 0)), ρ4) := binE (ρ1 := ρ4) (ρ2 := ρ4) rfl rfl (get4 0 (by omega))
    have t3 : fTest (fBin (dCmp fun i j => decide (j < i)) (fBin dIdx (fVar 5) (fC (.int 1))) (fC (.int 0))) ρ4 = some (decide (0 < ws4.getD 1 0), ρ4) := testE (binE (ρ1 := ρ4) (ρ2 := ρ4) (e := dI 0) i1 rfl (gt_nat _ 0))
    by_cases c3 : 0 < ws4.getD 1 0
    case neg => rw [decide_eq_false c3] at t3; exact .inl (ifF (andT t1 (andT t2 (andF t3))) rfl)
    rw [decide_eq_true c3] at t3
    have t4 : fTest (fBin (dEq) (fBlt dLen (fCons (fVar 2) fNil)) (fC (.int 1))) ρ4 = some (decide (rows.length = 1), ρ4) := testE (binE (ρ1 := ρ4) (ρ2 := ρ4) (d := dI rows.length) (e := dI 1) (len_rowsD rows rfl) rfl (eq_nat _ 1))
    by_cases c4 : rows.length = 1
    case neg => rw [decide_eq_false c4] at t4; exact .inl (ifF (andT t1 (andT t2 (andT t3 t4))) rfl)
    rw [decide_eq_true c4] at t4
    have g : ∀ k, ws4.getD k 0 ≤ 20 := fun k => by
      rw [List.getD_eq_getElem?_getD]
      cases e : ws4[k]? with
      | none => simp
      | some x => exact hrow4.le x (List.mem_of_getElem? e)
    refine .inr ⟨ws4.getD 0 0 + ws4.getD 1 0, ifT (andT t1 (andT t2 (andT t3 t4))) (retE (dispE (ρ1 := ρ4) (ds := [dI 1, .lst [rowD [ws4.getD 0 0 + ws4.getD 1 0, 0]]]) (consE rfl (consE (fnewE (newE (ρ1 := ρ4) (ds := [rowD [ws4.getD 0 0 + ws4.getD 1 0, 0]]) (consE (dispE (ρ1 := ρ4) (ds := [dI (ws4.getD 0 0 + ws4.getD 1 0), dI 0]) (consE (binE (ρ1 := ρ4) (ρ2 := ρ4) i0 i1 (add_ok _ _)) (consE rfl rfl)) rfl (show 2 ≤ sLn by decide)) rfl) rfl (show 1 ≤ sLn by decide))) rfl)) rfl (show 2 ≤ sLn by decide))), ?_, ?_⟩
    · have := g 0
      have := g 1
      omega
    · omega
  have fin : ∃ (r : D) (s5 : Sl) (rest : Ev), bRet (fIf (fTest (fBin (dCmp fun i j => decide (i < j)) (fVar 3) (fC (.int 4)))) (fDisp .tup (fCons (fVar 1) (fCons (fBin dAdd (fBin dAdd (fSlc (fVar 2) (fNoPart) (fPart (fVar 4))) (fNew (nDisp (fCons (fVar 5) (fNil))))) (fSlc (fVar 2) (fPart (fBin dAdd (fVar 4) (fC (.int 1)))) (fNoPart))) (fNil)))) (fCall g__law_draw_plan [] (fCons (fVar 0) (fNil)))) ρ4 = some (.rt r, s5 :: rest) ∧ rest.length = 7 ∧ PenOk (N + 300) s5 ∧ ∃ q b, r = .tup [dI q, .lst (b.map rowD)] ∧ Near q b := by
    have t : fTest (fBin (dCmp fun i j => decide (i < j)) (fVar 3) (fC (.int 4))) ρ4 = some (decide (way < 4), ρ4) := testE (binE (ρ1 := ρ4) (ρ2 := ρ4) (d := dI way) (e := dI 4) rfl rfl (lt_natD way 4))
    by_cases hw : way < 4
    · rw [decide_eq_true hw] at t
      have rl : (rows.map rowD).length = rows.length := List.length_map ..
      have x1 : fSlc (fVar 2) (fNoPart) (fPart (fVar 4)) ρ4 = some (.dat (.lst ((rows.map rowD).take sp)), ρ4) := slcTo0 (ρ1 := ρ4) (ρ2 := ρ4) rfl rfl (by omega)
      have x2 : fNew (nDisp (fCons (fVar 5) (fNil))) ρ4 = some (.dat (.lst [rowD ws4]), ρ4) := fnewE (newE (ρ1 := ρ4) (ds := [rowD ws4]) (consE rfl rfl) rfl (show 1 ≤ sLn by decide))
      have x3 : fSlc (fVar 2) (fPart (fBin dAdd (fVar 4) (fC (.int 1)))) (fNoPart) ρ4 = some (.dat (.lst ((rows.map rowD).drop (sp + 1))), ρ4) := slcFrom0 (ρ1 := ρ4) (ρ2 := ρ4) (k := sp + 1) rfl (binE (ρ1 := ρ4) (ρ2 := ρ4) (d := dI sp) (e := dI 1) rfl rfl (add_ok sp 1)) (by omega)
      have a1 : dAdd (.lst ((rows.map rowD).take sp)) (.lst [rowD ws4]) = some (.lst ((rows.map rowD).take sp ++ [rowD ws4])) := add_lst2 (Nat.le_trans (by rw [List.length_take, rl]; simp; omega) sLn_100)
      have a2 : dAdd (.lst ((rows.map rowD).take sp ++ [rowD ws4])) (.lst ((rows.map rowD).drop (sp + 1))) = some (.lst ((rows.take sp ++ [ws4] ++ rows.drop (sp + 1)).map rowD)) := by
        rw [add_lst2 (Nat.le_trans (by rw [List.length_append, List.length_take, List.length_drop, rl]; simp; omega) sLn_100)]
        simp
      refine ⟨_, s3, [.dat (dI p), .dat R, .dat (dI way), .dat (dI sp), .dat (rowD ws4), a6, .un], retE (iteT t (dispE (ρ1 := ρ4) (ds := [dI p, .lst ((rows.take sp ++ [ws4] ++ rows.drop (sp + 1)).map rowD)]) (consE rfl (consE (binE (binE x1 x2 a1) x3 a2) rfl)) rfl (show 2 ≤ sLn by decide))), rfl, h3.mono (by omega), p, _, rfl, ?_⟩
      rcases vp_set h hrow4 with z | z
      · exact .inl z
      · exact absurd l2 z
    · rw [decide_eq_false hw] at t
      obtain ⟨r, s5, e5, h5, q, b, hb, rfl⟩ := dr_call1 drawplan_dr (ρ := [.dat (dI p), .dat R, .dat (dI way), .dat (dI sp), .dat (rowD ws4), a6, .un]) h3 (by omega)
      exact ⟨_, s5, [.dat (dI p), .dat R, .dat (dI way), .dat (dI sp), .dat (rowD ws4), a6, .un], retE (iteF t e5), rfl, h5.mono (by omega), q, b, rfl, .inl hb⟩
  have front : ∀ {x : Option (Fw × Ev)}, bSeq (bIf (fAnd (fTest (fBin (dEq) (fVar 3) (fC (.int 2)))) (fAnd (fTest (fBin (dEq) (fVar 1) (fC (.int 2)))) (fAnd (fTest (fBin (dCmp fun i j => decide (j < i)) (fBin dIdx (fVar 5) (fC (.int 1))) (fC (.int 0)))) (fTest (fBin (dEq) (fBlt dLen (fCons (fVar 2) fNil)) (fC (.int 1))))))) (bRet (fDisp .tup (fCons (fC (.int 1)) (fCons (fNew (nDisp (fCons (fDisp .tup (fCons (fBin dAdd (fBin dIdx (fVar 5) (fC (.int 0))) (fBin dIdx (fVar 5) (fC (.int 1)))) (fCons (fC (.int 0)) (fNil)))) (fNil)))) (fNil))))) (bNx)) (bRet (fIf (fTest (fBin (dCmp fun i j => decide (i < j)) (fVar 3) (fC (.int 4)))) (fDisp .tup (fCons (fVar 1) (fCons (fBin dAdd (fBin dAdd (fSlc (fVar 2) (fNoPart) (fPart (fVar 4))) (fNew (nDisp (fCons (fVar 5) (fNil))))) (fSlc (fVar 2) (fPart (fBin dAdd (fVar 4) (fC (.int 1)))) (fNoPart))) (fNil)))) (fCall g__law_draw_plan [] (fCons (fVar 0) (fNil))))) ρ4 = x →
      d__law_near [s, .dat (dI p), .dat R, .un, .un, .un, .un, .un] = x := fun hx => seqE b1 (seqE b2 (seqE b3 (seqE b4 hx)))
  rcases mid with m | ⟨w, m, w1, w2⟩
  · obtain ⟨r, s5, rest, e, hl, h5, hr⟩ := fin
    have b := front (seqE m e)
    refine ⟨r, s5, rest, ?_, by rw [hl]; exact (show 2 ≤ 7 by decide), h5, hr⟩
    show frD (d__law_near [s, .dat (dI p), .dat R, .un, .un, .un, .un, .un]) = _
    rw [b]
    rfl
  · have b := front (seqR m)
    refine ⟨_, s3, [.dat (dI p), .dat R, .dat (dI way), .dat (dI sp), .dat (rowD ws4), a6, .un], ?_, (show 2 ≤ 7 by decide), h3.mono (by omega), 1, [[w, 0]], rfl, .inr ⟨w, rfl, rfl, w1, w2⟩⟩
    show frD (d__law_near [s, .dat (dI p), .dat R, .un, .un, .un, .un, .un]) = _
    rw [b]
    rfl
theorem tm_bl (b : Bool) : Tm 0 5 (.bl b) := by
  refine ⟨.bool b, by simp only [toP], by simp only [PyData.canLay0], by simp only [PyData.depth]; exact Nat.le_refl _, by simp only [PyData.showable], by simp only [PyData.hasDict], ?_, ?_⟩
  · cases b <;> decide +kernel
  · cases b <;> exact ok7_dec (by decide +kernel)
theorem same_bools (bs : List Bool) (h : bs.length ≤ 10) : Ret g__law_same [.dat (.lst (bs.map D.bl)), .dat (.lst (bs.map D.bl))] (.bl true) :=
  same_lst (k := 0) (w := 5) (fun d hd => by obtain ⟨b, _, rfl⟩ := List.mem_map.mp hd; exact tm_bl b) (by decide) (Nat.le_trans (by rw [List.length_map]; omega) (show 1000 ≤ sLn by decide))
/-- the checks of two plans -/
theorem isright_ok {p q : Nat} {a b : List (List Nat)} (h : VP p a) (h2 : VP q b) : Ret g__law_is_right [.dat (dI p), .dat (.lst (a.map rowD)), .dat (dI q), .dat (.lst (b.map rowD))] (.bl true) := by
  let A : D := .lst (a.map rowD)
  let B : D := .lst (b.map rowD)
  let ρ0 : Ev := [.dat (dI p), .dat A, .dat (dI q), .dat B, .un, .un, .un]
  let ρ1 : Ev := [.dat (dI p), .dat A, .dat (dI q), .dat B, .dat (planD p a), .dat (planD q b), .un]
  have b1 : bPar [4, 5] (mDat (fCall g__law_build [] (fCons (fVar 0) (fCons (fVar 1) (fNil)))) (mDat (fCall g__law_build [] (fCons (fVar 2) (fCons (fVar 3) (fNil)))) (mNil))) ρ0 = some (.nx, ρ1) :=
    parE (mDatE (ρ1 := ρ0) (callD2 (ρ1 := ρ0) (ρ2 := ρ0) rfl rfl (build_ok h)) (mDatE (ρ1 := ρ0) (callD2 (ρ1 := ρ0) (ρ2 := ρ0) rfl rfl (build_ok h2)) rfl)) rfl
  have hdue := eq_pair h h2
  have q1 := eqp_ok h h2
  have q2 := eqp_ok h2 h
  have q3 := eqp_ok h h
  have sy : decide (q = p ∧ b = a) = decide (p = q ∧ a = b) := by
    rw [decide_eq_decide]
    exact ⟨fun ⟨x, y⟩ => ⟨x.symm, y.symm⟩, fun ⟨x, y⟩ => ⟨x.symm, y.symm⟩⟩
  rw [sy] at q2
  rw [decide_eq_true (show p = p ∧ a = a from ⟨rfl, rfl⟩)] at q3
  generalize decide (p = q ∧ a = b) = due at hdue q1 q2
  let ρ2 : Ev := [.dat (dI p), .dat A, .dat (dI q), .dat B, .dat (planD p a), .dat (planD q b), .dat (.bl due)]
  have b2 : bSet 6 (fBin (dEq) (fDisp .tup (fCons (fVar 0) (fCons (fVar 1) (fNil)))) (fDisp .tup (fCons (fVar 2) (fCons (fVar 3) (fNil))))) ρ1 = some (.nx, ρ2) :=
    setE (ρ1 := ρ1) (binE (ρ1 := ρ1) (ρ2 := ρ1) (dispE (ρ1 := ρ1) (ds := [dI p, A]) (consE rfl (consE rfl rfl)) rfl (show 2 ≤ sLn by decide)) (dispE (ρ1 := ρ1) (ds := [dI q, B]) (consE rfl (consE rfl rfl)) rfl (show 2 ≤ sLn by decide)) hdue)
  let L : D := .lst [.bl due, .bl due, .bl (!due), .bl true]
  have x1 : fNew (nDisp (fCons (fEqL 0 [1] g_Plan___eq__ false (fVar 4) (fVar 5)) (fCons (fEqL 0 [1] g_Plan___eq__ false (fVar 5) (fVar 4)) (fCons (fEqL 0 [1] g_Plan___eq__ true (fVar 4) (fVar 5)) (fCons (fEqL 0 [1] g_Plan___eq__ false (fVar 4) (fVar 4)) (fNil)))))) ρ2 = some (.dat L, ρ2) := by
    have r1 : fEqL 0 [1] g_Plan___eq__ false (fVar 4) (fVar 5) ρ2 = some (.dat (.bl due), ρ2) := by
      have := eqLE (neg := false) (ρ1 := ρ2) (ρ2 := ρ2) (fa := fVar 4) (fb := fVar 5) (ρ := ρ2) rfl rfl rfl q1
      cases due <;> exact this
    have r2 : fEqL 0 [1] g_Plan___eq__ false (fVar 5) (fVar 4) ρ2 = some (.dat (.bl due), ρ2) := by
      have := eqLE (neg := false) (ρ1 := ρ2) (ρ2 := ρ2) (fa := fVar 5) (fb := fVar 4) (ρ := ρ2) rfl rfl rfl q2
      cases due <;> exact this
    have r3 : fEqL 0 [1] g_Plan___eq__ true (fVar 4) (fVar 5) ρ2 = some (.dat (.bl (!due)), ρ2) := by
      have := eqLE (neg := true) (ρ1 := ρ2) (ρ2 := ρ2) (fa := fVar 4) (fb := fVar 5) (ρ := ρ2) rfl rfl rfl q1
      cases due <;> exact this
    have r4 : fEqL 0 [1] g_Plan___eq__ false (fVar 4) (fVar 4) ρ2 = some (.dat (.bl true), ρ2) := eqLE (neg := false) (ρ1 := ρ2) (ρ2 := ρ2) (fa := fVar 4) (fb := fVar 4) (ρ := ρ2) rfl rfl rfl q3
    exact fnewE (newE (ρ1 := ρ2) (ds := [.bl due, .bl due, .bl (!due), .bl true]) (consE r1 (consE r2 (consE r3 (consE r4 rfl)))) rfl (show 4 ≤ sLn by decide))
  have x2 : fNew (nDisp (fCons (fVar 6) (fCons (fVar 6) (fCons (fBool (fNot (fTest (fVar 6)))) (fCons (fC (.bl true)) (fNil)))))) ρ2 = some (.dat L, ρ2) :=
    fnewE (newE (ρ1 := ρ2) (ds := [.bl due, .bl due, .bl (!due), .bl true]) (consE rfl (consE rfl (consE (boolE (notE (testE (ρ1 := ρ2) (b := due) rfl))) (consE rfl rfl)))) rfl (show 4 ≤ sLn by decide))
  have same : Ret g__law_same [.dat L, .dat L] (.bl true) := same_bools [due, due, !due, true] (show 4 ≤ 10 by decide)
  have body : d__law_is_right ρ0 = some (.rt (.bl true), ρ2) := seqE b1 (seqE b2 (retE (callD2 (ρ1 := ρ2) (ρ2 := ρ2) x1 x2 same)))
  refine ⟨ρ2, ?_, (show 4 ≤ 7 by decide)⟩
  show frD (d__law_is_right ρ0) = _
  rw [body]
  rfl
end SC

set_option Elab.async false
set_option linter.all false
set_option maxRecDepth 100000
namespace SC
open PySem PySem.Spec PyProof.Rows L2

/-! ### the law k03 -/
theorem callPi3 {g : FG} {fb fc : FE} {ρ : Ev} {s s' : Sl} {d e r : D} {rest : List Sl} {N i : Nat} (h0 : ρ[i]? = some s) (hs : PenOk N s) (h2 : fb ρ = some (.dat d, ρ)) (h3 : fc ρ = some (.dat e, ρ)) (hg : g [s, .dat d, .dat e] = some (r, s' :: rest)) (hl : 2 ≤ rest.length) :
    fCall g [] (fCons (fVar i) (fCons fb (fCons fc fNil))) ρ = some (.dat r, ρ.set i s') := by
  obtain ⟨x, y, z, rfl, _, _⟩ := hs
  unfold pen at *
  have e : putSl (ρ.set i s') [.dat d, .dat e] rest = ρ.set i s' := put_nil 0 _ _ _ rfl
  simp [fCall, fCons, fNil, fVar, h0, h2, h3, argSl, Sl.mut, slotsOf, hg, putSl, hl, e]
theorem dr_calli3 {c N i : Nat} {g : FG} {d e : D} {P : D → Prop} (h : Dr c g [.dat d, .dat e] P) {fb fc : FE} {s : Sl} {ρ : Ev} (h0 : ρ[i]? = some s) (hs : PenOk N s) (hN : N + c < 2 ^ 60) (hb : fb ρ = some (.dat d, ρ)) (hc : fc ρ = some (.dat e, ρ)) :
    ∃ r s', fCall g [] (fCons (fVar i) (fCons fb (fCons fc fNil))) ρ = some (.dat r, ρ.set i s') ∧ PenOk (N + c) s' ∧ P r := by
  obtain ⟨r, s', rest, e, hl, h1, h2⟩ := h N s hs hN
  exact ⟨r, s', callPi3 h0 hs hb hc e hl, h1, h2⟩
def lapB : FB := (bSeq (bBind (.tp [4, 5]) (fCall g__law_draw_plan [] (fCons (fVar 2) (fNil)))) (bSeq (bBind (.tp [6, 7]) (fCall g__law_near [] (fCons (fVar 2) (fCons (fVar 4) (fCons (fVar 5) (fNil)))))) (bSeq (bIf (fTest (fBin (dCmp fun i j => decide (j < i)) (fBlt dMaxL (fCons (fNew (nLc [10] (.nm 10) (sItm (fVar 7)) (fYes) (fBlt dMaxT (fCons (fVar 10) (fNil))))) (fNil))) (fC (.int 20)))) (bPar [6, 7] (mDat (fVar 4) (mDat (fVar 5) (mNil)))) (bNx)) (bIf (fOr (fNot (fTest (fCall g__law_is_right [] (fCons (fVar 4) (fCons (fVar 5) (fCons (fVar 6) (fCons (fVar 7) (fNil)))))))) (fNot (fTest (fCall g__law_is_right [] (fCons (fVar 4) (fCons (fVar 5) (fCons (fVar 4) (fCons (fVar 5) (fNil))))))))) (bRet (fC (.bl false))) (bNx)))))
theorem maxs_ok {L : Nat} {b : List (List Nat)} (hne : b ≠ []) (hrow : ∀ ws ∈ b, ws ≠ [] ∧ ∀ w ∈ ws, w ≤ L) (h4 : b.length ≤ 4) (a0 a1 a2 a3 a4 a5 a6 a8 a9 a10 : Sl) :
    ∃ m : Nat, m ≤ L ∧ (∀ w, b = [[w, 0]] → m = w) ∧ fBlt dMaxL (fCons (fNew (nLc [10] (.nm 10) (sItm (fVar 7)) (fYes) (fBlt dMaxT (fCons (fVar 10) (fNil))))) (fNil)) [a0, a1, a2, a3, a4, a5, a6, .dat (.lst (b.map rowD)), a8, a9, a10] = some (.dat (dI m), [a0, a1, a2, a3, a4, a5, a6, .dat (.lst (b.map rowD)), a8, a9, a10]) := by
  let mx : List Nat → Nat := fun ws => match ws with
    | [] => 0
    | w :: r => r.foldl max w
  let ρ : Ev := [a0, a1, a2, a3, a4, a5, a6, .dat (.lst (b.map rowD)), a8, a9, a10]
  have lc : nLc [10] (.nm 10) (sItm (fVar 7)) (fYes) (fBlt dMaxT (fCons (fVar 10) (fNil))) ρ = some (nl (b.map mx), ρ) := by
    refine nLc_ix _ (itmE (fa := fVar 7) (ρ1 := ρ) (o := Opd.dat (.lst (b.map rowD))) (d := .lst (b.map rowD)) rfl rfl rfl) (getAll_dat _) (by rw [List.length_map]; exact Nat.le_trans (by omega) sLn_100) (by rw [nl_len, List.length_map, List.length_map]) (fun k d y hk hy => ?_)
    rw [List.getElem?_map] at hk
    obtain ⟨ws, hw, rfl⟩ := Option.map_eq_some_iff.mp hk
    rw [nl, List.getElem?_map, List.getElem?_map, hw] at hy
    have ey : y = dI (mx ws) := (Option.some.inj hy).symm
    subst ey
    let ρa : Ev := [a0, a1, a2, a3, a4, a5, a6, .dat (.lst (b.map rowD)), a8, a9, .dat (rowD ws)]
    refine ⟨ρa, ρa, rfl, bltE (ρ1 := ρa) (ds := [rowD ws]) (consE rfl rfl) rfl ?_, rfl⟩
    cases ws with
    | nil => exact absurd rfl (hrow [] (List.mem_of_getElem? hw)).1
    | cons w r => exact maxT_nl w r
  cases b with
  | nil => exact absurd rfl hne
  | cons ws r =>
    have le : ∀ x ∈ (ws :: r).map mx, x ≤ L := fun x hx => by
      obtain ⟨vs, hv, rfl⟩ := List.mem_map.mp hx
      obtain ⟨h1, h2⟩ := hrow vs hv
      cases vs with
      | nil => exact absurd rfl h1
      | cons w q => exact fmaxN_le q w (h2 w List.mem_cons_self) fun y hy => h2 y (List.mem_cons_of_mem _ hy)
    refine ⟨(r.map mx).foldl max (mx ws), fmaxN_le _ _ (le _ (by simp)) fun x hx => le x (by rw [List.map_cons]; exact List.mem_cons_of_mem _ hx), fun w e => ?_, bltE (ρ1 := ρ) (ds := [.lst (nl ((ws :: r).map mx))]) (consE (fnewE lc) rfl) rfl (by rw [List.map_cons]; exact maxL_nl _ _)⟩
    cases e
    show max w 0 = w
    omega
theorem vp_max {p : Nat} {b : List (List Nat)} (h : VP p b) : b ≠ [] ∧ (∀ ws ∈ b, ws ≠ [] ∧ ∀ w ∈ ws, w ≤ 20) ∧ b.length ≤ 4 := by
  refine ⟨fun e => ?_, fun ws hw => ?_, h.n4⟩
  · have := h.n1
    rw [e] at this
    simp at this
  · obtain ⟨i, hi⟩ := List.mem_iff_getElem?.mp hw
    have r := h.row i ws hi
    refine ⟨fun e => ?_, r.le⟩
    have := r.len
    have := h.p1
    rw [e] at *
    simp at *
    omega
theorem vp_one {w : Nat} (h : w ≤ 20) (h0 : 0 < w) : VP 1 [[w, 0]] := by
  refine ⟨by decide, by decide, Nat.le_refl 1, (show 1 ≤ 4 by decide), fun i ws hi => ?_⟩
  match i, hi with
  | 0, hi =>
    cases hi
    refine ⟨rfl, fun x hx => ?_, by simpa using h0, rfl⟩
    simp only [List.mem_cons, List.not_mem_nil, or_false] at hx
    rcases hx with rfl | rfl
    · exact h
    · omega
theorem lap_ok {N : Nat} (a0 a1 a3 : Sl) {s : Sl} (hs : PenOk N s) (hN : N + 600 < 2 ^ 60) (a4 a5 a6 a7 a8 a9 a10 : Sl) :
    ∃ s' p rows b6 b7, VP p rows ∧ lapB [a0, a1, s, a3, a4, a5, a6, a7, a8, a9, a10] = some (.nx, [a0, a1, s', a3, .dat (dI p), .dat (.lst (rows.map rowD)), b6, b7, a8, a9, a10]) ∧ PenOk (N + 600) s' := by
  let ρ0 : Ev := [a0, a1, s, a3, a4, a5, a6, a7, a8, a9, a10]
  obtain ⟨r, s1, e1, h1, p, rows, h, rfl⟩ := dr_calli1 (i := 2) drawplan_dr (ρ := ρ0) rfl hs (by omega)
  let R : D := .lst (rows.map rowD)
  let ρ1 : Ev := [a0, a1, s1, a3, .dat (dI p), .dat R, a6, a7, a8, a9, a10]
  obtain ⟨r2, s2, e2, h2, q, b, rfl, hb⟩ := dr_calli3 (i := 2) (near_dr h) (ρ := ρ1) rfl h1 (by omega) (fb := fVar 4) (fc := fVar 5) rfl rfl
  let B : D := .lst (b.map rowD)
  let ρ2 : Ev := [a0, a1, s2, a3, .dat (dI p), .dat R, .dat (dI q), .dat B, a8, a9, a10]
  refine ⟨s2, p, rows, ?_⟩
  have c : ∃ q' b', VP q' b' ∧ (bIf (fTest (fBin (dCmp fun i j => decide (j < i)) (fBlt dMaxL (fCons (fNew (nLc [10] (.nm 10) (sItm (fVar 7)) (fYes) (fBlt dMaxT (fCons (fVar 10) (fNil))))) (fNil))) (fC (.int 20)))) (bPar [6, 7] (mDat (fVar 4) (mDat (fVar 5) (mNil)))) (bNx)) ρ2 = some (.nx, [a0, a1, s2, a3, .dat (dI p), .dat R, .dat (dI q'), .dat (.lst (b'.map rowD)), a8, a9, a10]) := by
    rcases hb with hv | ⟨w, rfl, rfl, w1, w2⟩
    · obtain ⟨m1, m2, m3⟩ := vp_max hv
      obtain ⟨m, hm, _, em⟩ := maxs_ok m1 m2 m3 a0 a1 s2 a3 (.dat (dI p)) (.dat R) (.dat (dI q)) a8 a9 a10
      have t : (fTest (fBin (dCmp fun i j => decide (j < i)) (fBlt dMaxL (fCons (fNew (nLc [10] (.nm 10) (sItm (fVar 7)) (fYes) (fBlt dMaxT (fCons (fVar 10) (fNil))))) (fNil))) (fC (.int 20)))) ρ2 = some (false, ρ2) := by
        have := testE (binE (fb := fC (.int 20)) (ρ1 := ρ2) (ρ2 := ρ2) (d := dI m) (e := dI 20) em rfl (gt_nat m 20))
        rw [decide_eq_false (by omega)] at this
        exact this
      exact ⟨q, b, hv, ifF t rfl⟩
    · obtain ⟨m, hm, he, em⟩ := maxs_ok (L := 40) (b := [[w, 0]]) (by simp) (fun ws hw => by
        have : ws = [w, 0] := by simpa using hw
        subst this
        refine ⟨by simp, fun x hx => ?_⟩
        simp only [List.mem_cons, List.not_mem_nil, or_false] at hx
        rcases hx with rfl | rfl <;> omega) (show 1 ≤ 4 by decide) a0 a1 s2 a3 (.dat (dI p)) (.dat R) (.dat (dI 1)) a8 a9 a10
      have hmw := he w rfl
      subst hmw
      have t := testE (binE (fb := fC (.int 20)) (ρ1 := ρ2) (ρ2 := ρ2) (d := dI m) (e := dI 20) em rfl (gt_nat m 20))
      by_cases hw : 20 < m
      · rw [decide_eq_true hw] at t
        exact ⟨p, rows, h, ifT t (parE (ρ1 := ρ2) (mDatE (ρ1 := ρ2) rfl (mDatE (ρ1 := ρ2) rfl rfl)) rfl)⟩
      · rw [decide_eq_false hw] at t
        exact ⟨1, [[m, 0]], vp_one (by omega) w2, ifF t rfl⟩
  obtain ⟨q', b', hv, e3⟩ := c
  let ρ3 : Ev := [a0, a1, s2, a3, .dat (dI p), .dat R, .dat (dI q'), .dat (.lst (b'.map rowD)), a8, a9, a10]
  refine ⟨.dat (dI q'), .dat (.lst (b'.map rowD)), h, ?_, h2.mono (by omega)⟩
  refine seqE (ρ1 := ρ1) (bindE e1 rfl) (seqE (ρ1 := ρ2) (bindE e2 rfl) (seqE (ρ1 := ρ3) e3 ?_))
  have y1 : fNot (fTest (fCall g__law_is_right [] (fCons (fVar 4) (fCons (fVar 5) (fCons (fVar 6) (fCons (fVar 7) (fNil))))))) ρ3 = some (false, ρ3) := notE (b := true) (testE (callD4 (ρ1 := ρ3) (ρ2 := ρ3) (ρ3 := ρ3) (ρ4 := ρ3) rfl rfl rfl rfl (isright_ok h hv)))
  have y2 : fNot (fTest (fCall g__law_is_right [] (fCons (fVar 4) (fCons (fVar 5) (fCons (fVar 4) (fCons (fVar 5) (fNil))))))) ρ3 = some (false, ρ3) := notE (b := true) (testE (callD4 (ρ1 := ρ3) (ρ2 := ρ3) (ρ3 := ρ3) (ρ4 := ρ3) rfl rfl rfl rfl (isright_ok h h)))
  exact ifF (orF y1 y2) rfl
/-! ### values of other kinds -/
def foeB (d : D) : Bool := match inCls [0, 1] [0] d with
  | some false => true
  | _ => false
theorem foeB_ok {d : D} (h : foeB d = true) : Foe d := by
  unfold foeB at h
  split at h
  · assumption
  · cases h
def oddsChk : Bool := match g__law_odds [] with
  | some (.lst ds, _) => ds.all foeB && decide (ds.length ≤ 100)
  | _ => false
theorem odds_chk : oddsChk = true := by kernel_rfl
theorem odds_ok : ∃ ds, (∀ d ∈ ds, Foe d) ∧ ds.length ≤ 100 ∧ Ret g__law_odds [] (.lst ds) := by
  have h := odds_chk
  unfold oddsChk at h
  split at h
  · rename_i ds o e
    obtain ⟨h1, h2⟩ := Bool.and_eq_true_iff.mp h
    exact ⟨ds, fun d hd => foeB_ok (List.all_eq_true.mp h1 d hd), of_decide_eq_true h2, o, e, Nat.zero_le _⟩
  · cases h
theorem callD0 {g : FG} {ρ : Ev} {r : D} (h : Ret g [] r) : fCall g [] fNil ρ = some (.dat r, ρ) := by
  obtain ⟨o, ho, hl⟩ := h
  have hp := put_nil 0 ρ [] o rfl
  simp [fCall, fNil, argSl, slotsOf, ho, hp]
theorem mul_tupE {ds : List D} {n : Nat} (h : ds ≠ []) (hl : ds.length ≤ 10) (h1 : 1 ≤ n) (h4 : n ≤ 4) : ∃ r, dMul (.tup ds) (dI n) = some (.tup r) := by
  have : n = 1 ∨ 2 ≤ n := by omega
  simp only [dMul]
  by_cases e : (n : Int) = 1
  · rw [if_pos ⟨h, e⟩]; exact ⟨_, rfl⟩
  · rw [if_neg (fun z => e z.2), if_pos ⟨h, by omega, by omega, by omega⟩]; exact ⟨_, rfl⟩
theorem period_ok {p : Nat} {rows : List (List Nat)} (h : VP p rows) : ∃ fs, i_Period___init__ [planD p rows] = some fs := by
  let ρ : Ev := [.obj 1 [], .dat (planD p rows), .un]
  let ρ2 : Ev := [.obj 1 [], .dat (planD p rows), .dat (dI rows.length)]
  obtain ⟨r1, e1⟩ := mul_tupE (ds := [dI 0]) (n := rows.length) (by simp) (by decide) h.n1 h.n4
  obtain ⟨r2, e2⟩ := mul_tupE (ds := [.tup [.int 0, .int 1]]) (n := rows.length) (by simp) (by decide) h.n1 h.n4
  obtain ⟨r3, e3⟩ := mul_tupE (ds := [.tup [.int 0, .int 1]]) (n := p) (by simp) (by decide) h.p1 h.p4
  let P : D := .tup [.tup [.tup r1, .tup r2, .tup r3, .tup []]]
  have b1 : bExp (fCall g_need_plan [] (fCons (fVar 1) (fNil))) ρ = some (.nx, ρ) := expE (callD1 (ρ1 := ρ) rfl (needplan_ok p rows))
  have b2 : bSet 2 (fLen 0 g_Plan___len__ (fVar 1)) ρ = some (.nx, ρ2) := setE (ρ1 := ρ) (lenIE (ρ1 := ρ) rfl (plen_ok p rows) (by have := h.n4; omega))
  have hd : (fDisp .tup (fCons (fVar 1) (fCons (fDisp .tup (fCons (fDisp .tup (fCons (fBin dMul (fDisp .tup (fCons (fC (.int 0)) (fNil))) (fVar 2)) (fCons (fBin dMul (fDisp .tup (fCons (fC (.tup [.int 0, .int 1])) (fNil))) (fVar 2)) (fCons (fBin dMul (fDisp .tup (fCons (fC (.tup [.int 0, .int 1])) (fNil))) (fMeth 0 g_Plan_products [] (fVar 1) fNil)) (fCons (fDisp .tup (fNil)) (fNil)))))) (fNil))) (fNil)))) ρ2 = some (.dat (.tup [planD p rows, P]), ρ2) := by
    have x1 : fBin dMul (fDisp .tup (fCons (fC (.int 0)) (fNil))) (fVar 2) ρ2 = some (.dat (.tup r1), ρ2) := binE (ρ1 := ρ2) (ρ2 := ρ2) (d := .tup [dI 0]) (e := dI rows.length) (dispE (ρ1 := ρ2) (ds := [dI 0]) (consE rfl rfl) rfl (show 1 ≤ sLn by decide)) rfl e1
    have x2 : fBin dMul (fDisp .tup (fCons (fC (.tup [.int 0, .int 1])) (fNil))) (fVar 2) ρ2 = some (.dat (.tup r2), ρ2) := binE (ρ1 := ρ2) (ρ2 := ρ2) (d := .tup [.tup [.int 0, .int 1]]) (e := dI rows.length) (dispE (ρ1 := ρ2) (ds := [.tup [.int 0, .int 1]]) (consE rfl rfl) rfl (show 1 ≤ sLn by decide)) rfl e2
    have x3 : fBin dMul (fDisp .tup (fCons (fC (.tup [.int 0, .int 1])) (fNil))) (fMeth 0 g_Plan_products [] (fVar 1) fNil) ρ2 = some (.dat (.tup r3), ρ2) := binE (ρ1 := ρ2) (ρ2 := ρ2) (d := .tup [.tup [.int 0, .int 1]]) (e := dI p) (dispE (ρ1 := ρ2) (ds := [.tup [.int 0, .int 1]]) (consE rfl rfl) rfl (show 1 ≤ sLn by decide)) (methE0 (ρ1 := ρ2) rfl (pprod_ok p rows)) e3
    have x4 : fDisp .tup (fNil) ρ2 = some (.dat (.tup []), ρ2) := dispE (ρ1 := ρ2) (ds := []) rfl rfl (Nat.zero_le _)
    exact dispE (ρ1 := ρ2) (ds := [planD p rows, P]) (consE rfl (consE (dispE (ρ1 := ρ2) (ds := [.tup [.tup r1, .tup r2, .tup r3, .tup []]]) (consE (dispE (ρ1 := ρ2) (ds := [.tup r1, .tup r2, .tup r3, .tup []]) (consE x1 (consE x2 (consE x3 (consE x4 rfl)))) rfl (show 4 ≤ sLn by decide)) rfl) rfl (show 1 ≤ sLn by decide)) rfl)) rfl (show 2 ≤ sLn by decide)
  have b3 : bTgs [(.at_ 0 1 0), (.at_ 0 1 1)] (fDisp .tup (fCons (fVar 1) (fCons (fDisp .tup (fCons (fDisp .tup (fCons (fBin dMul (fDisp .tup (fCons (fC (.int 0)) (fNil))) (fVar 2)) (fCons (fBin dMul (fDisp .tup (fCons (fC (.tup [.int 0, .int 1])) (fNil))) (fVar 2)) (fCons (fBin dMul (fDisp .tup (fCons (fC (.tup [.int 0, .int 1])) (fNil))) (fMeth 0 g_Plan_products [] (fVar 1) fNil)) (fCons (fDisp .tup (fNil)) (fNil)))))) (fNil))) (fNil)))) ρ2 = some (.nx, [.obj 1 [planD p rows, P], .dat (planD p rows), .dat (dI rows.length)]) := by
    simp only [bTgs, hd]
    rfl
  have body : d_Period___init__ ρ = some (.nx, [.obj 1 [planD p rows, P], .dat (planD p rows), .dat (dI rows.length)]) := seqE b1 (seqE b2 b3)
  refine ⟨[planD p rows, P], ?_⟩
  have hg : g_Period___init__ [.obj 1 [], .dat (planD p rows)] = some (.non, [.obj 1 [planD p rows, P], .dat (planD p rows), .dat (dI rows.length)]) := by
    have : frD (d_Period___init__ ρ) = some (.non, [.obj 1 [planD p rows, P], .dat (planD p rows), .dat (dI rows.length)]) := by rw [body]; rfl
    exact this
  show initD 1 2 g_Period___init__ [planD p rows] = _
  unfold initD
  refine (if_pos (show [planD p rows].length + 1 = 2 from rfl)).trans ?_
  show outI 1 (g_Period___init__ [.obj 1 [], .dat (planD p rows)]) = _
  rw [hg]
  rfl
/-! ### a cell, the law -/
theorem thing_ok {p : Nat} {rows : List (List Nat)} {d : D} (h : Foe d) (a0 a1 a2 a3 a4 a5 a6 a7 a10 : Sl) :
    (bIf (fNot (fTest (fCall g__law_same [] (fCons (fNew (nDisp (fCons (fEqL 0 [1] g_Plan___eq__ false (fVar 8) (fVar 9)) (fCons (fEqR 0 [1] g_Plan___eq__ (fVar 9) (fVar 8)) (fCons (fEqL 0 [1] g_Plan___eq__ true (fVar 8) (fVar 9)) (fNil)))))) (fCons (fNew (nDisp (fCons (fC (.bl false)) (fCons (fC (.bl false)) (fCons (fC (.bl true)) (fNil)))))) (fNil)))))) (bRet (fC (.bl false))) (bNx)) [a0, a1, a2, a3, a4, a5, a6, a7, .dat (planD p rows), .dat d, a10] = some (.nx, [a0, a1, a2, a3, a4, a5, a6, a7, .dat (planD p rows), .dat d, a10]) := by
  let ρ : Ev := [a0, a1, a2, a3, a4, a5, a6, a7, .dat (planD p rows), .dat d, a10]
  obtain ⟨k1, k2⟩ := foe_kd h
  have q := eqo_ok (p := p) (a := rows) h
  have r1 : fEqL 0 [1] g_Plan___eq__ false (fVar 8) (fVar 9) ρ = some (.dat (.bl false), ρ) := eqLE (neg := false) (ρ := ρ) (ρ1 := ρ) (ρ2 := ρ) (fa := fVar 8) (fb := fVar 9) rfl rfl k1 q
  have r2 : fEqR 0 [1] g_Plan___eq__ (fVar 9) (fVar 8) ρ = some (.dat (.bl false), ρ) := eqRE (ρ := ρ) (ρ1 := ρ) (ρ2 := ρ) (fa := fVar 9) (fb := fVar 8) rfl rfl k2 q
  have r3 : fEqL 0 [1] g_Plan___eq__ true (fVar 8) (fVar 9) ρ = some (.dat (.bl true), ρ) := eqLE (neg := true) (ρ := ρ) (ρ1 := ρ) (ρ2 := ρ) (fa := fVar 8) (fb := fVar 9) rfl rfl k1 q
  refine ifF (ρ1 := ρ) (notE (b := true) (testE (callD2 (ρ1 := ρ) (ρ2 := ρ) (fnewE (newE (ρ1 := ρ) (ds := [.bl false, .bl false, .bl true]) (consE r1 (consE r2 (consE r3 rfl))) rfl (show 3 ≤ sLn by decide))) (fnewE (newE (ρ1 := ρ) (ds := [.bl false, .bl false, .bl true]) rfl rfl (show 3 ≤ sLn by decide))) (same_bools [false, false, true] (show 3 ≤ 10 by decide))))) rfl
theorem addItm {fa fb : FE} {ρ : Ev} {os more : List D} (h1 : fa ρ = some (.dat (.lst os), ρ)) (h2 : fb ρ = some (.dat (.lst more), ρ)) (hl : os.length + more.length ≤ sLn) : sItm (fBin dAdd fa fb) ρ = some (os ++ more, [.dat (.lst (os ++ more))], ρ) :=
  itmE (binE (ρ1 := ρ) (ρ2 := ρ) h1 h2 (add_lst2 hl)) rfl rfl
def moreL (p : Nat) (rows : List (List Nat)) (fs : List D) : List D := [.lst (rows.map rowD), .tup (rows.map rowD), .str (St (textL p rows)), .lst [planD p rows], .ins 1 fs, .str (St (titleL p rows.length))]
theorem more_len (p : Nat) (rows : List (List Nat)) (fs : List D) : (moreL p rows fs).length = 6 := rfl
theorem more_foe (p : Nat) (rows : List (List Nat)) (fs : List D) : ∀ d ∈ moreL p rows fs, Foe d := fun d z => by
  simp only [moreL, List.mem_cons, List.not_mem_nil, or_false] at z
  rcases z with rfl | rfl | rfl | rfl | rfl | rfl
  · exact (rfl : inCls [0, 1] [0] (.lst (rows.map rowD)) = some false)
  · exact (rfl : inCls [0, 1] [0] (.tup (rows.map rowD)) = some false)
  · exact (rfl : inCls [0, 1] [0] (.str (St (textL p rows))) = some false)
  · exact (rfl : inCls [0, 1] [0] (.lst [planD p rows]) = some false)
  · exact (rfl : inCls [0, 1] [0] (.ins 1 fs) = some false)
  · exact (rfl : inCls [0, 1] [0] (.str (St (titleL p rows.length))) = some false)
theorem makeE1 {c : Nat} {gi : List D → Option (List D)} {fo : FE} {ρ ρ1 : Ev} {d : D} {fs : List D} (h : fo ρ = some (.dat d, ρ1)) (hg : gi [d] = some fs) : fMake c gi (fCons fo (fNil)) ρ = some (.dat (.ins c fs), ρ1) := by
  have ea : fCons fo fNil ρ = some ([.dat d], ρ1) := consE h rfl
  simp only [fMake, ea, datAll, Option.map_some, hg]
theorem more_ok {p : Nat} {rows : List (List Nat)} {fs : List D} {ρ : Ev} (h : VP p rows) (ef : i_Period___init__ [planD p rows] = some fs) (h5 : fVar 5 ρ = some (.dat (.lst (rows.map rowD)), ρ)) (h8 : fVar 8 ρ = some (.dat (planD p rows), ρ)) :
    fNew (nDisp (fCons (fVar 5) (fCons (fMeth 0 g_Plan_rows [] (fVar 8) fNil) (fCons (fMeth 0 g_Plan_text [] (fVar 8) fNil) (fCons (fNew (nDisp (fCons (fVar 8) (fNil)))) (fCons (fMake 1 i_Period___init__ (fCons (fVar 8) (fNil))) (fCons (fReprI 0 g_Plan___repr__ (fVar 8)) (fNil)))))))) ρ = some (.dat (.lst (moreL p rows fs)), ρ) :=
  fnewE (newE (ρ1 := ρ) (ds := moreL p rows fs) (consE h5 (consE (methE0 (ρ1 := ρ) h8 (prows_ok p rows)) (consE (methE0 (ρ1 := ρ) h8 (text_ok h)) (consE (fnewE (newE (ρ1 := ρ) (ds := [planD p rows]) (consE h8 rfl) rfl (show 1 ≤ sLn by decide))) (consE (makeE1 h8 ef) (consE (reprIE (ρ1 := ρ) h8 (prepr_ok h)) rfl)))))) rfl (show 6 ≤ sLn by decide))
theorem things_ok {p : Nat} {rows : List (List Nat)} {ρ : Ev} (h : VP p rows) (h5 : fVar 5 ρ = some (.dat (.lst (rows.map rowD)), ρ)) (h8 : fVar 8 ρ = some (.dat (planD p rows), ρ)) :
    ∃ ds, (∀ d ∈ ds, Foe d) ∧ (sItm (fBin dAdd (fCall g__law_odds [] fNil) (fNew (nDisp (fCons (fVar 5) (fCons (fMeth 0 g_Plan_rows [] (fVar 8) fNil) (fCons (fMeth 0 g_Plan_text [] (fVar 8) fNil) (fCons (fNew (nDisp (fCons (fVar 8) (fNil)))) (fCons (fMake 1 i_Period___init__ (fCons (fVar 8) (fNil))) (fCons (fReprI 0 g_Plan___repr__ (fVar 8)) (fNil))))))))))) ρ = some (ds, [.dat (.lst ds)], ρ) := by
  obtain ⟨os, o1, o2, o3⟩ := odds_ok
  obtain ⟨fs, ef⟩ := period_ok h
  have hl : os.length + (moreL p rows fs).length ≤ sLn := by
    rw [more_len]
    exact Nat.le_trans (show os.length + 6 ≤ 200 by omega) (show 200 ≤ sLn by decide)
  refine ⟨os ++ moreL p rows fs, fun d hd => ?_, addItm (callD0 o3) (more_ok h ef h5 h8) hl⟩
  rcases List.mem_append.mp hd with z | z
  · exact o1 d z
  · exact more_foe p rows fs d z
def cellB : FB := bSeq (bOwn 2 (nCallN gn__law_pen (fCons (fVar 1) (fNil)))) (bSeq (bFor (.nm 3) (sRng (fCons (fC (.int 20)) (fNil))) lapB) (bSeq (bSet 8 (fCall g__law_build [] (fCons (fVar 4) (fCons (fVar 5) (fNil))))) (bFor (.nm 9) (sItm (fBin dAdd (fCall g__law_odds [] fNil) (fNew (nDisp (fCons (fVar 5) (fCons (fMeth 0 g_Plan_rows [] (fVar 8) fNil) (fCons (fMeth 0 g_Plan_text [] (fVar 8) fNil) (fCons (fNew (nDisp (fCons (fVar 8) (fNil)))) (fCons (fMake 1 i_Period___init__ (fCons (fVar 8) (fNil))) (fCons (fReprI 0 g_Plan___repr__ (fVar 8)) (fNil))))))))))) (bIf (fNot (fTest (fCall g__law_same [] (fCons (fNew (nDisp (fCons (fEqL 0 [1] g_Plan___eq__ false (fVar 8) (fVar 9)) (fCons (fEqR 0 [1] g_Plan___eq__ (fVar 9) (fVar 8)) (fCons (fEqL 0 [1] g_Plan___eq__ true (fVar 8) (fVar 9)) (fNil)))))) (fCons (fNew (nDisp (fCons (fC (.bl false)) (fCons (fC (.bl false)) (fCons (fC (.bl true)) (fNil)))))) (fNil)))))) (bRet (fC (.bl false))) (bNx)))))
theorem len7 {r : Ev} (h : r.length = 7) : ∃ a b c d e f g, r = [a, b, c, d, e, f, g] := by
  match r, h with
  | [a, b, c, d, e, f, g], _ => exact ⟨a, b, c, d, e, f, g, rfl⟩
theorem cell_run (a0 : Sl) (x : Int) (a2 a3 : Sl) (r : Ev) (hr : r.length = 7) : ∃ b2 b3 r', cellB (a0 :: .dat (.int x) :: a2 :: a3 :: r) = some (.nx, a0 :: .dat (.int x) :: b2 :: b3 :: r') ∧ r'.length = 7 := by
  obtain ⟨s, hs, hown⟩ := penN_ok (ρ := a0 :: .dat (.int x) :: a2 :: a3 :: r) (i := 1) (c := x) rfl
  obtain ⟨ρ', e, hI⟩ := for_inv (p := .nm 3) (fb := lapB) (fun i ρ => ∃ s' b3 r', ρ = a0 :: .dat (.int x) :: s' :: b3 :: r' ∧ r'.length = 7 ∧ PenOk (600 * i) s' ∧ (0 < i → ∃ p rows, VP p rows ∧ r'[0]? = some (.dat (dI p)) ∧ r'[1]? = some (.dat (.lst (rows.map rowD)))))
    (rangeD 0 20) 0 (a0 :: .dat (.int x) :: s :: a3 :: r) (fun k d hk ρ hI => by
      obtain ⟨s', b3, r1, rfl, h1, g, _⟩ := hI
      obtain ⟨rfl, hkp⟩ := rng_get 20 k d hk
      obtain ⟨a4, a5, a6, a7, a8, a9, a10, rfl⟩ := len7 h1
      obtain ⟨s2, p, rows, b6, b7, hv, e, g2⟩ := lap_ok a0 (.dat (.int x)) (.dat (dI k)) g (by omega) a4 a5 a6 a7 a8 a9 a10
      exact ⟨_, _, rfl, e, s2, _, _, rfl, rfl, by rw [Nat.mul_succ]; exact g2, fun _ => ⟨p, rows, hv, rfl, rfl⟩⟩) ⟨s, a3, r, rfl, hr, hs, fun z => absurd z (Nat.lt_irrefl 0)⟩
  obtain ⟨s', b3, r', rfl, hr', g, hp⟩ := hI
  obtain ⟨p, rows, h, q1, q2⟩ := hp (by decide)
  obtain ⟨a4, a5, a6, a7, a8, a9, a10, rfl⟩ := len7 hr'
  obtain rfl : a4 = .dat (dI p) := Option.some.inj q1
  obtain rfl : a5 = .dat (.lst (rows.map rowD)) := Option.some.inj q2
  let ρ2 : Ev := [a0, .dat (.int x), s', b3, .dat (dI p), .dat (.lst (rows.map rowD)), a6, a7, a8, a9, a10]
  let ρ3 : Ev := [a0, .dat (.int x), s', b3, .dat (dI p), .dat (.lst (rows.map rowD)), a6, a7, .dat (planD p rows), a9, a10]
  have m : (bSet 8 (fCall g__law_build [] (fCons (fVar 4) (fCons (fVar 5) (fNil))))) ρ2 = some (.nx, ρ3) := setE (ρ1 := ρ2) (callD2 (ρ1 := ρ2) (ρ2 := ρ2) rfl rfl (build_ok h))
  obtain ⟨ds, hds, hsrc⟩ := things_ok (ρ := ρ3) h rfl rfl
  obtain ⟨ρ4, e4, b9, rfl⟩ := for_inv (p := .nm 9) (fb := (bIf (fNot (fTest (fCall g__law_same [] (fCons (fNew (nDisp (fCons (fEqL 0 [1] g_Plan___eq__ false (fVar 8) (fVar 9)) (fCons (fEqR 0 [1] g_Plan___eq__ (fVar 9) (fVar 8)) (fCons (fEqL 0 [1] g_Plan___eq__ true (fVar 8) (fVar 9)) (fNil)))))) (fCons (fNew (nDisp (fCons (fC (.bl false)) (fCons (fC (.bl false)) (fCons (fC (.bl true)) (fNil)))))) (fNil)))))) (bRet (fC (.bl false))) (bNx))) (fun _ ρ => ∃ b9, ρ = [a0, .dat (.int x), s', b3, .dat (dI p), .dat (.lst (rows.map rowD)), a6, a7, .dat (planD p rows), b9, a10]) ds 0 ρ3 (fun k d hk ρ hI => by
    obtain ⟨b9, rfl⟩ := hI
    exact ⟨_, _, rfl, thing_ok (hds d (List.mem_of_getElem? hk)) a0 (.dat (.int x)) s' b3 (.dat (dI p)) (.dat (.lst (rows.map rowD))) a6 a7 a10, _, rfl⟩) ⟨a9, rfl⟩
  exact ⟨s', b3, _, seqE (hown 2) (seqE (forE (sRng_ok (n := 20) rfl (by decide)) rfl e) (seqE m (forE hsrc rfl e4))), rfl⟩
theorem vp_a : VP 1 [[1, 0, 1], [1, 1, 0]] := ⟨by decide, by decide, by decide, by decide, fun i ws hi => by
  match i, hi with
  | 0, hi => cases hi; exact ⟨rfl, by decide, by decide, rfl⟩
  | 1, hi => cases hi; exact ⟨rfl, by decide, by decide, rfl⟩⟩
theorem vp_b : VP 2 [[1, 0, 0]] := ⟨by decide, by decide, by decide, by decide, fun i ws hi => by
  match i, hi with
  | 0, hi => cases hi; exact ⟨rfl, by decide, by decide, rfl⟩⟩
theorem law_true (ns : List Int) : ∃ o, g_law [.dat (.scr ns)] = some (.bl true, o) := by
  let u : Ev := [.un, .un, .un, .un, .un, .un, .un]
  obtain ⟨cs, hsrc⟩ := cellsG ns (ρ := .dat (.scr ns) :: .un :: .un :: .un :: u) rfl
  obtain ⟨ρ', e, a1, a2, a3, r', rfl, hr'⟩ := for_inv (p := .nm 1) (fb := cellB) (fun _ ρ => ∃ a1 a2 a3 r', ρ = .dat (.scr ns) :: a1 :: a2 :: a3 :: r' ∧ r'.length = 7) (cs.map D.int) 0 (.dat (.scr ns) :: .un :: .un :: .un :: u) (fun k d hk ρ hI => by
    obtain ⟨a1, a2, a3, r1, rfl, h1⟩ := hI
    rw [List.getElem?_map] at hk
    obtain ⟨x, _, rfl⟩ := Option.map_eq_some_iff.mp hk
    obtain ⟨b2, b3, r2, e, h2⟩ := cell_run (.dat (.scr ns)) x a2 a3 r1 h1
    exact ⟨_, _, rfl, e, _, b2, b3, r2, rfl, h2⟩) ⟨_, _, _, u, rfl, rfl⟩
  let ρ2 : Ev := .dat (.scr ns) :: a1 :: a2 :: a3 :: r'
  have last : (bRet (fCall g__law_is_right [] (fCons (fC (.int 1)) (fCons (fNew (nDisp (fCons (fDisp .tup (fCons (fC (.int 1)) (fCons (fC (.int 0)) (fCons (fC (.int 1)) (fNil))))) (fCons (fDisp .tup (fCons (fC (.int 1)) (fCons (fC (.int 1)) (fCons (fC (.int 0)) (fNil))))) (fNil))))) (fCons (fC (.int 2)) (fCons (fNew (nDisp (fCons (fDisp .tup (fCons (fC (.int 1)) (fCons (fC (.int 0)) (fCons (fC (.int 0)) (fNil))))) (fNil)))) (fNil))))))) ρ2 = some (.rt (.bl true), ρ2) := retE (callD4 (ρ1 := ρ2) (ρ2 := ρ2) (ρ3 := ρ2) (ρ4 := ρ2) rfl rfl rfl rfl (isright_ok vp_a vp_b))
  have bb : d_law (.dat (.scr ns) :: .un :: .un :: .un :: u) = some (.rt (.bl true), ρ2) := seqE (forE hsrc rfl e) last
  refine ⟨ρ2, ?_⟩
  show frD (d_law (.dat (.scr ns) :: .un :: .un :: .un :: u)) = _
  rw [bb]
  rfl
end SC

open PySem PySem.W PySem.Calls PyProof.Rows
theorem PySem.Challenge.cw_supportcosts_k03_equal_plans_holds : PySem.Challenge.rw_supportcosts_k03_equal_plans.Holds := by
  w_on; o_law
  refine HandSHeadRun.head_any (r := SC.Rw) (q := SC.vw) (H := SC.hkX) (ob := SC.obX) (M := 40000) (loose := SC.looseL) (d := HandSHeadRun.topDef SC.Rw.prog 54) (kwd := []) SC.obX_eq
    (by kernel_rfl) (fun s => by kernel_rfl) SC.runX (by kernel_rfl) (by kernel_rfl) (by kernel_rfl) (by rfl) (by first | assumption | decide +kernel) (by decide +kernel) ⟨rfl, rfl, rfl, rfl, rfl, by decide +kernel⟩ ?hw ?hc
  case hw => w_witness2
  case hc =>
    refine SC.walk_G (l := PySem.Challenge.rw_supportcosts_k03_equal_plans) (n := 63) (k := 10) (x := "_law_script") rfl (by decide) (by kernel_rfl) ⟨rfl, by decide, by decide⟩ ?F
    intro w mg fa h Y G hmg
    obtain ⟨K, KX, c⟩ := Y
    have W := SC.ws_of KX G c
    obtain ⟨fd, Fd⟩ := W.f_law
    have nm : (HandSHeadRun.topDef SC.Rw.prog 54).name = ("law" : PySem.Str) := by kernel_rfl
    rw [nm, W.g_law] at hmg
    cases hmg
    exact ⟨K, fd, _, KX, fun s u => L2.FunD.bindsA (ps := ["_law_script"]) Fd (fun _ _ _ _ _ _ us hl => match us, hl with | [_], _ => rfl) s [u] rfl, fun H a ns _ sq ts => SC.law_sp (SC.law_true ns) sq ts, fun base _ _ => SC.fn_law W Fd⟩

