import PyProof.Rows.All
import Wide.All
import OpenK.AllK
import Wide.FinOn
import HandS.HeadHook2
import HandS.HeadHook3
import HandS.Defaults
import HandS.HeadEnd
import HandS.Head2
import HandS.Words
import HandS.HeadNt
import HandS.Head0
import HandS.Head1
import HandS.ForMost
import HandS.IsInst
import HandS.Star
import HandS.Wide
import HandS.TupMul
import HandS.TupAny
import HandS.Codes
import HandS.Style
import KE.KTupSum
import HandS.Text
import HandS.Zip
import HandS.Iter
import KE.GoesEnum
import KE.GoesMore
import HandS.Exc
import HandS.Property
import HandS.SetFor
import HandS.Conv
import HandS.GenList
import HandS.GenYield
import HandS.FStr
import PyProof.ReprRoads
import HandS.SortInts
import HandS.ExcValue
import PyProof.TupleOfSeq
import KE.KOpsOwn
import HandS.ClsMeth
import KE.KUnpackStar
import PySem.Challenge.RW_supportcosts_k45_least_and_greatest_tota
set_option Elab.async false
set_option linter.all false
set_option maxRecDepth 100000
namespace SC
open PySem PySem.Spec PyProof.Rows L2

/-! ### the head's facts: a Bool of one's own, defs at addresses -/
structure Dx where
  ad : PySem.W.Frag → Addr
  name : Str
  qual : Str
  params : Arguments
  body : List Stmt
  scope : Scope
abbrev FW : Type := Option (Str × Str × Arguments × FuncBody × Scope × Addr × List (Str × Addr) × Addr)
def fnAt (K : PySem.W.Frag) (a : Addr) : FW := match K.lookup a with
  | some ⟨_, _, .func d, _⟩ => some (d.name, d.qualname, d.params, d.body, d.scope, d.globals, d.closure, d.builtins)
  | _ => none
def Dx.val (d : Dx) : FW := some (d.name, d.qual, d.params, .stmts d.body, d.scope, mainGlobals, [], builtinsNs)
def Dx.ok (K : PySem.W.Frag) (d : Dx) : Bool := PySem.W.keepIn K (.ref (d.ad K)) && (match K.lookup (d.ad K) with
  | some ⟨_, _, .func z, _⟩ => PySem.W.codeIn K z.code d.qual && (He.dflB K z.defaults [] && He.kwdB K z.kwdefaults [])
  | _ => false)
theorem Dx.funD {K : PySem.W.Frag} {d : Dx} (e : fnAt K (d.ad K) = d.val) (c : d.ok K = true) : ∃ fd, FunD K d.name d.qual d.params d.body d.scope [] [] (d.ad K) fd := by
  obtain ⟨kp, c2⟩ := Bool.and_eq_true_iff.mp (show (PySem.W.keepIn K (.ref (d.ad K)) && _) = true from c)
  unfold fnAt at e
  cases lk : K.lookup (d.ad K) with
  | none => rw [lk] at c2; cases c2
  | some ob =>
    obtain ⟨cl, dc, dat, sl⟩ := ob
    rw [lk] at c2 e
    cases dat with
    | func z =>
      obtain ⟨z1, z2, z3, z4, z5, z6, z7, z8, z9, z10, z11, z12, z13, z14, z15⟩ := z
      have e' : (some (z1, z2, z3, z4, z5, z6, z7, z15) : FW) = some (d.name, d.qual, d.params, .stmts d.body, d.scope, mainGlobals, [], builtinsNs) := e
      simp only [Option.some.injEq, Prod.mk.injEq] at e'
      obtain ⟨i1, i2, i3, i4, i5, i6, i7, i8⟩ := e'
      subst i1 i2 i3 i4 i5 i6 i7 i8
      obtain ⟨j1, j2⟩ := Bool.and_eq_true_iff.mp (show (PySem.W.codeIn K z13 d.qual && (He.dflB K z8 [] && He.kwdB K z9 [])) = true from c2)
      obtain ⟨j3, j4⟩ := Bool.and_eq_true_iff.mp j2
      exact ⟨_, ⟨cl, dc, z8, z9, z10, z11, z12, z13, z14, sl, rfl, lk, j1, He.dflB_ok j3, He.kwdB_ok j4⟩, kp⟩
    | _ => cases c2
abbrev AlX : Type := Bool × List FW
def obsX (ck : PySem.W.Frag → Bool) (fn : List Dx) (K : PySem.W.Frag) : AlX := (ck K && fn.all fun d => d.ok K, fn.map fun d => fnAt K (d.ad K))
def valX (fn : List Dx) : AlX := (true, fn.map Dx.val)
def SaysX (ck : PySem.W.Frag → Bool) (fn : List Dx) (K : PySem.W.Frag) : Prop := obsX ck fn K = valX fn
def obsXG (n : Nat) (ck : PySem.W.Frag → Bool) (fn : List Dx) (g : Addr → Option Obj) : AlX := obsX ck fn (He.frG g (He5.asA g n))
def hookX (n : Nat) (ck : PySem.W.Frag → Bool) (fn : List Dx) : PySem.W.Hook where
  α := AlX
  obs := fun s => obsXG n ck fn s.heap.get?
  val := fun _ => valX fn
  says := fun _ h => ∃ K : PySem.W.Frag, K.In h ∧ SaysX ck fn K
  of := fun _ _ e => ⟨_, He.frG_in, e⟩
  keeps := fun _ _ _ ⟨K, kin, c⟩ k => ⟨K, PySem.W.Frag.In.keeps kin k, c⟩
theorem obsXG_eq {n : Nat} {ck : PySem.W.Frag → Bool} {fn : List Dx} {g : Addr → Option Obj} {s : Shared} (h : ∀ a, g a = s.heap.get? a) : obsXG n ck fn g = (hookX n ck fn).obs s := by
  rw [show g = s.heap.get? from funext h] <;> rfl
section
variable {ck : PySem.W.Frag → Bool} {fn : List Dx} {K : PySem.W.Frag}
theorem SaysX.chk (c : SaysX ck fn K) : ck K = true := (Bool.and_eq_true_iff.mp (show (ck K && fn.all fun d => d.ok K) = true from congrArg Prod.fst c)).1
theorem SaysX.def_ (c : SaysX ck fn K) (i : Nat) {d : Dx} (h : fn[i]? = some d) : ∃ fd, FunD K d.name d.qual d.params d.body d.scope [] [] (d.ad K) fd := by
  have all := (Bool.and_eq_true_iff.mp (show (ck K && fn.all fun d => d.ok K) = true from congrArg Prod.fst c)).2
  have e : fn.map (fun d => fnAt K (d.ad K)) = fn.map Dx.val := congrArg Prod.snd c
  have e2 := congrArg (fun l => l[i]?) e
  simp only [List.getElem?_map, h, Option.map_some, Option.some.injEq] at e2
  exact Dx.funD e2 (List.all_eq_true.mp all d (List.mem_of_getElem? h))
end
/-! ### single facts -/
def prAd (K : PySem.W.Frag) (C f : Str) : Addr := match PySem.W.findIn K (.ref (He.ga K C)) f with
  | some (some (.ref a)) => a
  | _ => 0
def prGet (K : PySem.W.Frag) (C f : Str) : Addr := match PySem.W.recIn K (prAd K C f) "property" with
  | some (.ref g :: _) => g
  | _ => 0
def eqO (a b : Option (Option Value)) : Bool := decide (a = b)
def propB (K : PySem.W.Frag) (C f : Str) : Bool := eqO (PySem.W.findIn K (.ref (He.ga K C)) f) (some (some (.ref (prAd K C f)))) && (eqO (PySem.W.specialIn K (.ref (prAd K C f)) "__get__") (some (some (.builtin "property.__get__"))) &&
  (decide (PySem.W.takesIn K (.ref (prAd K C f)) = some true) && (match PySem.W.recIn K (prAd K C f) "property" with
    | some (.ref g :: _) => decide (g = prGet K C f)
    | _ => false)))
def sp1B (K : PySem.W.Frag) (C m : Str) : Bool := eqO (PySem.W.findIn K (.ref (He.ga K C)) m) (some (some (.ref (He.ma K (He.ga K C) m)))) && PySem.W.isFn K (.ref (He.ma K (He.ga K C) m))
theorem ckAt {K : PySem.W.Frag} {l : List (PySem.W.Frag → Bool)} (h : (l.all fun f => f K) = true) (i : Nat) {f : PySem.W.Frag → Bool} (hi : l[i]? = some f) : f K = true := List.all_eq_true.mp h f (List.mem_of_getElem? hi)
def clsB (x : Str) (fl : List Str) (K : PySem.W.Frag) : Bool := (He.Fa.cls x).ok K && fl.all fun f => (He.Fa.noat x f).ok K
def callOB (x : Str) (K : PySem.W.Frag) : Bool := eqO (PySem.W.findIn K (.ref (He.ga K x)) "__call__") (some (some (.ref (He.ma K (He.ga K x) "__call__")))) && (PySem.W.isFn K (.ref (He.ma K (He.ga K x) "__call__")) && PySem.W.fnIn K (He.ma K (He.ga K x) "__call__"))
def tyB (x : Str) (K : PySem.W.Frag) : Bool := eqO (PySem.W.findIn K (.ref (He.ga K x)) "__class__") (some (some (.builtin "object.__class__"))) && (eqO (PySem.W.specialIn K (.builtin "object.__class__") "__get__") (some (some (.builtin "getset_descriptor.__get__"))) &&
  (decide (PySem.W.takesIn K (.builtin "object.__class__") = some true) && decide (PySem.W.mroIn K (He.ga K x) (.type "object") = some true)))
def tys : List String := ["NoneType", "bool", "int", "str", "tuple", "list", "dict"]
/-- what isinstance(.., x) answers: no for the built-in types, told for own classes -/
def iscB (x : Str) (cs : List (Nat × Str × Bool)) (K : PySem.W.Frag) : Bool := (tys.all fun t => decide (PySem.W.kitOne K (.type t) (.ref (He.ga K x)) = some false)) &&
  cs.all fun p => (He.Fa.cls p.2.1).ok K && (tyB p.2.1 K && decide (PySem.W.kitOne K (.ref (He.ga K p.2.1)) (.ref (He.ga K x)) = some p.2.2))
def conStr (C f z : Str) (K : PySem.W.Frag) : Bool := He.conB K C f (.str z)
/-- a tuple of ints at a name -/
def tupN (x : Str) (ns : List Int) (K : PySem.W.Frag) : Bool := He.tupB K x (ns.map He.Dv.int)
def cmAd (K : PySem.W.Frag) (C m : Str) : Addr := He5.wf K (He.ga K C) "classmethod" m
def cmB (C m : Str) (K : PySem.W.Frag) : Bool := He5.wrapB K (He.ga K C) "classmethod" "classmethod.__get__" m && PySem.W.fnIn K (He5.wf K (He.ga K C) "classmethod" m)
def crB (C : Str) (K : PySem.W.Frag) : Bool := PySem.W.readsIn K (He.ga K C) (.type "type") && decide (PySem.W.specialIn K (.ref (He.ga K C)) "__getattribute__" = some (some (.builtin "type.__getattribute__")))
def binCB (x m : Str) (op : Operator) (K : PySem.W.Frag) : Bool :=
  (PySem.W.selfFirst K (He.ga K x) && (eqO (PySem.W.findIn K (.ref (He.ga K x)) (PySem.dunder op.info.2)) (some (some (.ref (He.ma K (He.ga K x) m)))) && PySem.W.isFn K (.ref (He.ma K (He.ga K x) m)))) &&
  ((eqO (PySem.W.findIn K (.ref (He.ga K x)) (dunderR op.info.2)) (some none) && (PySem.W.findIn K (.type "int") (PySem.dunder op.info.2)).isSome) &&
  ((PySem.W.findIn K (.type "int") (dunderR op.info.2)).isSome && decide (PySem.W.subIn K (.type "int") (.ref (He.ga K x)) = some false)))
end SC

set_option Elab.async false
set_option linter.all false
set_option maxRecDepth 100000
set_option maxHeartbeats 0
namespace SC
open PySem PySem.Spec PyProof.Rows L2
def top (i : Nat) : Stmt := PySem.Challenge.pw_supportcosts_k45_least_and_greatest_tota.main.body.getD i (.Pass ⟨0, 0, 0, 0⟩)
def ckL0 : List (PySem.W.Frag → Bool) := [
  clsB "Plan" ["count", "kept"],
  cmB "Plan" "read",
  crB "Plan",
  fun K => (He.Fa.free "abs").ok K,
  fun K => (He.Fa.free "all").ok K,
  fun K => (He.Fa.free "bool").ok K,
  fun K => (He.Fa.free "enumerate").ok K,
  fun K => (He.Fa.free "int").ok K,
  fun K => (He.Fa.free "isinstance").ok K,
  fun K => (He.Fa.free "len").ok K,
  fun K => (He.Fa.free "list").ok K,
  fun K => (He.Fa.free "max").ok K,
  fun K => (He.Fa.free "min").ok K,
  fun K => (He.Fa.free "range").ok K,
  fun K => (He.Fa.free "repr").ok K,
  fun K => (He.Fa.free "str").ok K,
  fun K => (He.Fa.free "sum").ok K,
  fun K => (He.Fa.free "tuple").ok K
]
def ckL1 : List (PySem.W.Frag → Bool) := [
  fun K => (He.Fa.free "zip").ok K,
  fun K => (He.Fa.glo "NOTHING").ok K,
  fun K => (He.Fa.glo "Plan").ok K,
  fun K => (He.Fa.glo "_law_borne_by").ok K,
  fun K => (He.Fa.glo "_law_by").ok K,
  fun K => (He.Fa.glo "_law_case").ok K,
  fun K => (He.Fa.glo "_law_cell").ok K,
  fun K => (He.Fa.glo "_law_draw").ok K,
  fun K => (He.Fa.glo "_law_ends").ok K,
  fun K => (He.Fa.glo "_law_less").ok K,
  fun K => (He.Fa.glo "_law_net").ok K,
  fun K => (He.Fa.glo "_law_pen").ok K,
  fun K => (He.Fa.glo "_law_plus").ok K,
  fun K => (He.Fa.glo "_law_ratio").ok K,
  fun K => (He.Fa.glo "_law_right").ok K,
  fun K => (He.Fa.glo "_law_same").ok K,
  fun K => (He.Fa.glo "_law_shut").ok K,
  fun K => (He.Fa.glo "_law_spent").ok K
]
def ckL2 : List (PySem.W.Frag → Bool) := [
  fun K => (He.Fa.glo "_law_turns").ok K,
  fun K => (He.Fa.glo "_law_weight").ok K,
  fun K => (He.Fa.glo "all_borne").ok K,
  fun K => (He.Fa.glo "all_orders").ok K,
  fun K => (He.Fa.glo "are_costs").ok K,
  fun K => (He.Fa.glo "are_rows").ok K,
  fun K => (He.Fa.glo "as_fraction").ok K,
  fun K => (He.Fa.glo "between").ok K,
  fun K => (He.Fa.glo "borne_in").ok K,
  fun K => (He.Fa.glo "closings").ok K,
  fun K => (He.Fa.glo "divisor").ok K,
  fun K => (He.Fa.glo "fraction").ok K,
  fun K => (He.Fa.glo "is_between").ok K,
  fun K => (He.Fa.glo "is_integer").ok K,
  fun K => (He.Fa.glo "is_less").ok K,
  fun K => (He.Fa.glo "is_row").ok K,
  fun K => (He.Fa.glo "law").ok K,
  fun K => (He.Fa.glo "need_costs").ok K
]
def ckL3 : List (PySem.W.Frag → Bool) := [
  fun K => (He.Fa.glo "need_plan").ok K,
  fun K => (He.Fa.glo "number_in").ok K,
  fun K => (He.Fa.glo "passed_on").ok K,
  fun K => (He.Fa.glo "sum_of").ok K,
  fun K => (He.Fa.glo "times").ok K,
  fun K => (He.Fa.int "MOST" 4).ok K,
  fun K => (He.Fa.int "MOST_COST" 1000000).ok K,
  fun K => (He.Fa.int "MOST_WEIGHT" 20).ok K,
  iscB "Plan" [(0, "Plan", true)],
  fun K => (He.Fa.mkr "Plan").ok K,
  fun K => propB K "Plan" "products",
  fun K => propB K "Plan" "rows",
  fun K => sp1B K "Plan" "__len__",
  fun K => (He.Fa.str "DIGITS" "0123456789").ok K,
  fun K => (He.Fa.str "HEAD" "products ").ok K,
  tupN "NOTHING" [0, 1]
]
def ckL : List (PySem.W.Frag → Bool) := ckL0 ++ (ckL1 ++ (ckL2 ++ (ckL3)))
def ckA (K : PySem.W.Frag) : Bool := ckL.all fun f => f K
def fnL : List Dx := [
  ⟨fun K => He.ma K (He.ga K "Plan") "__init__", "__init__", "Plan.__init__", defArgs (inClass (top 31) 0), defBody (inClass (top 31) 0), defScope (inClass (top 31) 0)⟩,
  ⟨fun K => He.ma K (He.ga K "Plan") "__len__", "__len__", "Plan.__len__", defArgs (inClass (top 31) 9), defBody (inClass (top 31) 9), defScope (inClass (top 31) 9)⟩,
  ⟨fun K => prGet K "Plan" "products", "products", "Plan.products", defArgs (inClass (top 31) 5), defBody (inClass (top 31) 5), defScope (inClass (top 31) 5)⟩,
  ⟨fun K => cmAd K "Plan" "read", "read", "Plan.read", defArgs (inClass (top 31) 2), defBody (inClass (top 31) 2), defScope (inClass (top 31) 2)⟩,
  ⟨fun K => prGet K "Plan" "rows", "rows", "Plan.rows", defArgs (inClass (top 31) 6), defBody (inClass (top 31) 6), defScope (inClass (top 31) 6)⟩,
  ⟨fun K => He.ga K "_law_borne_by", "_law_borne_by", "_law_borne_by", defArgs (top 60), defBody (top 60), defScope (top 60)⟩,
  ⟨fun K => He.ga K "_law_by", "_law_by", "_law_by", defArgs (top 56), defBody (top 56), defScope (top 56)⟩,
  ⟨fun K => He.ga K "_law_case", "_law_case", "_law_case", defArgs (top 52), defBody (top 52), defScope (top 52)⟩,
  ⟨fun K => He.ga K "_law_cell", "_law_cell", "_law_cell", defArgs (top 47), defBody (top 47), defScope (top 47)⟩,
  ⟨fun K => He.ga K "_law_draw", "_law_draw", "_law_draw", defArgs (top 49), defBody (top 49), defScope (top 49)⟩,
  ⟨fun K => He.ga K "_law_ends", "_law_ends", "_law_ends", defArgs (top 62), defBody (top 62), defScope (top 62)⟩,
  ⟨fun K => He.ga K "_law_less", "_law_less", "_law_less", defArgs (top 61), defBody (top 61), defScope (top 61)⟩,
  ⟨fun K => He.ga K "_law_net", "_law_net", "_law_net", defArgs (top 53), defBody (top 53), defScope (top 53)⟩,
  ⟨fun K => He.ga K "_law_pen", "_law_pen", "_law_pen", defArgs (top 48), defBody (top 48), defScope (top 48)⟩,
  ⟨fun K => He.ga K "_law_plus", "_law_plus", "_law_plus", defArgs (top 55), defBody (top 55), defScope (top 55)⟩,
  ⟨fun K => He.ga K "_law_ratio", "_law_ratio", "_law_ratio", defArgs (top 54), defBody (top 54), defScope (top 54)⟩,
  ⟨fun K => He.ga K "_law_right", "_law_right", "_law_right", defArgs (top 63), defBody (top 63), defScope (top 63)⟩,
  ⟨fun K => He.ga K "_law_same", "_law_same", "_law_same", defArgs (top 50), defBody (top 50), defScope (top 50)⟩,
  ⟨fun K => He.ga K "_law_shut", "_law_shut", "_law_shut", defArgs (top 58), defBody (top 58), defScope (top 58)⟩,
  ⟨fun K => He.ga K "_law_spent", "_law_spent", "_law_spent", defArgs (top 57), defBody (top 57), defScope (top 57)⟩,
  ⟨fun K => He.ga K "_law_turns", "_law_turns", "_law_turns", defArgs (top 59), defBody (top 59), defScope (top 59)⟩,
  ⟨fun K => He.ga K "_law_weight", "_law_weight", "_law_weight", defArgs (top 51), defBody (top 51), defScope (top 51)⟩,
  ⟨fun K => He.ga K "all_borne", "all_borne", "all_borne", defArgs (top 44), defBody (top 44), defScope (top 44)⟩,
  ⟨fun K => He.ga K "all_orders", "all_orders", "all_orders", defArgs (top 42), defBody (top 42), defScope (top 42)⟩,
  ⟨fun K => He.ga K "are_costs", "are_costs", "are_costs", defArgs (top 37), defBody (top 37), defScope (top 37)⟩,
  ⟨fun K => He.ga K "are_rows", "are_rows", "are_rows", defArgs (top 29), defBody (top 29), defScope (top 29)⟩,
  ⟨fun K => He.ga K "as_fraction", "as_fraction", "as_fraction", defArgs (top 22), defBody (top 22), defScope (top 22)⟩,
  ⟨fun K => He.ga K "between", "between", "between", defArgs (top 45), defBody (top 45), defScope (top 45)⟩,
  ⟨fun K => He.ga K "borne_in", "borne_in", "borne_in", defArgs (top 41), defBody (top 41), defScope (top 41)⟩,
  ⟨fun K => He.ga K "closings", "closings", "closings", defArgs (top 40), defBody (top 40), defScope (top 40)⟩,
  ⟨fun K => He.ga K "divisor", "divisor", "divisor", defArgs (top 17), defBody (top 17), defScope (top 17)⟩,
  ⟨fun K => He.ga K "fraction", "fraction", "fraction", defArgs (top 18), defBody (top 18), defScope (top 18)⟩,
  ⟨fun K => He.ga K "is_between", "is_between", "is_between", defArgs (top 16), defBody (top 16), defScope (top 16)⟩,
  ⟨fun K => He.ga K "is_integer", "is_integer", "is_integer", defArgs (top 15), defBody (top 15), defScope (top 15)⟩,
  ⟨fun K => He.ga K "is_less", "is_less", "is_less", defArgs (top 21), defBody (top 21), defScope (top 21)⟩,
  ⟨fun K => He.ga K "is_row", "is_row", "is_row", defArgs (top 28), defBody (top 28), defScope (top 28)⟩,
  ⟨fun K => He.ga K "law", "law", "law", defArgs (top 64), defBody (top 64), defScope (top 64)⟩,
  ⟨fun K => He.ga K "need_costs", "need_costs", "need_costs", defArgs (top 38), defBody (top 38), defScope (top 38)⟩,
  ⟨fun K => He.ga K "need_plan", "need_plan", "need_plan", defArgs (top 32), defBody (top 32), defScope (top 32)⟩,
  ⟨fun K => He.ga K "number_in", "number_in", "number_in", defArgs (top 30), defBody (top 30), defScope (top 30)⟩,
  ⟨fun K => He.ga K "passed_on", "passed_on", "passed_on", defArgs (top 39), defBody (top 39), defScope (top 39)⟩,
  ⟨fun K => He.ga K "sum_of", "sum_of", "sum_of", defArgs (top 19), defBody (top 19), defScope (top 19)⟩,
  ⟨fun K => He.ga K "times", "times", "times", defArgs (top 20), defBody (top 20), defScope (top 20)⟩
]
def lawI : Nat := 64
def looseL : List Str := (["_wall", "CostError", "NoCount", "NoRow", "NoPlan", "NoCentre", "NoProduct", "NoCosts", "NoText", "Unlike", "LastCentre", "TooMany", "NOTHING", "is_integer", "is_between", "divisor", "fraction", "sum_of", "times", "is_less", "as_fraction", "MOST", "MOST_WEIGHT", "HEAD", "DIGITS", "is_row", "are_rows", "number_in", "Plan", "need_plan"] : List Str) ++ (["need_centre", "proportions_of", "MOST_COST", "are_costs", "need_costs", "passed_on", "closings", "borne_in", "all_orders", "all_borne", "between", "_law_cell", "_law_pen", "_law_draw", "_law_same", "_law_weight", "_law_case", "_law_net", "_law_ratio", "_law_plus", "_law_by", "_law_spent", "_law_shut", "_law_turns", "_law_borne_by", "_law_less", "_law_ends", "_law_right"] : List Str)
end SC
namespace SC
open PySem PySem.W PySem.Calls PyProof.Rows HandSHeadRun
abbrev Rw : PySem.W.OpenRow := PySem.W.OpenLaw.row PySem.Challenge.rw_supportcosts_k45_least_and_greatest_tota
abbrev vw : Program := PySem.W.view Rw.prog [64]
theorem runA (w : World) (os : OsState) : (endF (stepQ (denQ tabQ) Rw.prog w) 40000 Rw.prog w os).map (fun s => (looksF Rw.prog (boot_heap w.params) s.abs, seenQ vw looseL (importedModules Rw.prog.main.body) (fun s => xlAt vw [] s && recOk Rw.toRowW.records s) s.abs)) = some (true, openGood vw looseL) := by
  kernel_rfl
def frT (s : SharedT) : PySem.W.Frag := He.frG (getT s) (He5.asA (getT s) 7)
theorem runB0 (w : World) (os : OsState) : (endF (stepQ (denQ tabQ) Rw.prog w) 40000 Rw.prog w os).map (fun s => ckL0.all fun f => f (frT s)) = some true := by
  kernel_rfl
theorem runB1 (w : World) (os : OsState) : (endF (stepQ (denQ tabQ) Rw.prog w) 40000 Rw.prog w os).map (fun s => ckL1.all fun f => f (frT s)) = some true := by
  kernel_rfl
theorem runB2 (w : World) (os : OsState) : (endF (stepQ (denQ tabQ) Rw.prog w) 40000 Rw.prog w os).map (fun s => ckL2.all fun f => f (frT s)) = some true := by
  kernel_rfl
theorem runB3 (w : World) (os : OsState) : (endF (stepQ (denQ tabQ) Rw.prog w) 40000 Rw.prog w os).map (fun s => ckL3.all fun f => f (frT s)) = some true := by
  kernel_rfl
theorem runF (w : World) (os : OsState) : (endF (stepQ (denQ tabQ) Rw.prog w) 40000 Rw.prog w os).map (fun s => fnL.all fun d => d.ok (frT s)) = some true := by
  kernel_rfl
theorem and_run {o : Option SharedT} {g h : SharedT → Bool} (h1 : o.map g = some true) (h2 : o.map h = some true) : o.map (fun s => g s && h s) = some true := by
  cases o with
  | none => cases h1
  | some s =>
    simp only [Option.map_some, Option.some.injEq] at h1 h2 ⊢
    rw [h1, h2] <;> rfl
theorem runB (w : World) (os : OsState) : (endF (stepQ (denQ tabQ) Rw.prog w) 40000 Rw.prog w os).map (fun s => ckA (frT s) && fnL.all fun d => d.ok (frT s)) = some true := by
  have e : (fun s => ckA (frT s) && fnL.all fun d => d.ok (frT s)) = fun s => ((ckL0.all fun f => f (frT s)) && ((ckL1.all fun f => f (frT s)) && ((ckL2.all fun f => f (frT s)) && ((ckL3.all fun f => f (frT s)))))) && fnL.all fun d => d.ok (frT s) := by
    funext s
    simp only [ckA, ckL, List.all_append]
  rw [e]
  exact and_run (and_run (runB0 w os) (and_run (runB1 w os) (and_run (runB2 w os) (runB3 w os)))) (runF w os)
theorem runC (w : World) (os : OsState) : (endF (stepQ (denQ tabQ) Rw.prog w) 40000 Rw.prog w os).map (fun s => fnL.map fun d => fnAt (frT s) (d.ad (frT s))) = some (fnL.map Dx.val) := by
  kernel_rfl
abbrev hkX : PySem.W.Hook := hookX 7 ckA fnL
def obX (s : SharedT) : AlX := obsXG 7 ckA fnL (getT s)
theorem obX_eq (s : SharedT) : obX s = hkX.obs s.abs := obsXG_eq (getT_eq s)
theorem mix {α β γ : Type} {o : Option SharedT} {f : SharedT → α} {g : SharedT → Bool} {h : SharedT → β} {a : α} {b : β} {k : SharedT → Bool × β} (hk : ∀ s, k s = (g s, h s)) (h1 : o.map f = some a) (h2 : o.map g = some true) (h3 : o.map h = some b) : o.map (fun s => (f s, k s)) = some (a, (true, b)) := by
  cases o with
  | none => cases h1
  | some s =>
    simp only [Option.map_some, Option.some.injEq] at h1 h2 h3 ⊢
    rw [hk, h1, h2, h3]
theorem runX (w : World) : RunEq Rw vw hkX obX 40000 looseL w := by
  intro os
  have m := mix (γ := Unit) (k := obX) (fun s => rfl) (runA w os) (runB w os) (runC w os)
  generalize endF (stepQ (denQ tabQ) Rw.prog w) 40000 Rw.prog w os = o at m ⊢
  cases o with
  | none => cases m
  | some s =>
    have e := Option.some.inj m
    exact congrArg some (Prod.ext (congrArg (fun z => z.1.1) e) (Prod.ext (congrArg (fun z => z.1.2) e) (congrArg (fun z => z.2) e)))
end SC

set_option Elab.async false
set_option linter.all false
set_option maxRecDepth 100000
namespace SC
open PySem PySem.Spec PyProof.Rows L2

/-- data: what a value stands for, without addresses -/
inductive D where
  | non | bl (b : Bool) | int (i : Int) | str (x : Str)
  | tup (ds : List D) | lst (ds : List D)
  | ins (c : Nat) (ds : List D)
  | dic (ks : List Key) (ds : List D)
  | scr (ns : List Int)
  | cl (c : Nat)

/-- the classes: where they stand, their fields' names -/
structure Cl where
  ad : Nat → Addr
  fl : Nat → List Str

abbrev Ms := Addr → Prop

/-- a list that nobody changes: locked, or of the written part -/
def SqF (K : PySem.W.Frag) (H : Hp) (a : Addr) (xs : List V) : Prop :=
  (∃ o, H a = some (.frz o (.lst xs))) ∨ ∃ (o : Obj) (its : Array Value) (n : Nat), K.lookup a = some o ∧ o.cls = .type "list" ∧ o.dict = none ∧ o.data = .seq its n ∧ its.size ≤ sizeLine ∧ Vals xs its.toList
theorem SqF.sql {K : PySem.W.Frag} {H : Hp} {a : Addr} {xs : List V} (h : SqF K H a xs) : SqL K H a xs := by
  rcases h with ⟨o, h⟩ | h
  · exact .inl (.inr ⟨o, h⟩)
  · exact .inr h
/-- what may be mutable -/
def Mu : Option HO → Prop
  | some (.lst _) => True
  | some (.ins _ _ _) => True
  | _ => False
section
variable (K : PySem.W.Frag) (T : Cl) (M : Ms) (H : Hp)
mutual
def Dv : D → V → Prop
  | .non, v => v = .non
  | .bl b, v => v = .bl b
  | .int i, v => v = .int i
  | .str x, v => v = .str x
  | .tup ds, v => ∃ a xs, v = .ref a ∧ SqT K H a xs ∧ DvS ds xs
  | .lst ds, v => ∃ a xs, v = .ref a ∧ ¬ M a ∧ H a = some (.lst xs) ∧ DvS ds xs
  | .ins c ds, v => ∃ a dx xs, v = .ref a ∧ ¬ M a ∧ H a = some (.ins (T.ad c) dx ((T.fl c).zip xs)) ∧ xs.length ≤ (T.fl c).length ∧ DvS ds xs
  | .dic ks ds, v => ∃ a xs, v = .ref a ∧ ¬ M a ∧ H a = some (.dK (ks.zip xs)) ∧ ks.length = xs.length ∧ DvS ds xs
  | .scr ns, v => ∃ a, v = .ref a ∧ SqF K H a (ns.map V.int)
  | .cl c, v => v = .ref (T.ad c)
def DvS : List D → List V → Prop
  | [], xs => xs = []
  | d :: ds, xs => ∃ x r, xs = x :: r ∧ Dv d x ∧ DvS ds r
end
end

/-- what is not mutable stays -/
def Keep (M : Ms) (H H' : Hp) : Prop := ∀ a o, H a = some o → ¬ M a → H' a = some o
/-- all stays -/
def Ext (H H' : Hp) : Prop := ∀ a o, H a = some o → H' a = some o
theorem Ext.rfl {H : Hp} : Ext H H := fun _ _ h => h
theorem Ext.trans {H H1 H2 : Hp} (h : Ext H H1) (g : Ext H1 H2) : Ext H H2 := fun a o q => g a o (h a o q)
theorem Ext.keep {M : Ms} {H H' : Hp} (h : Ext H H') : Keep M H H' := fun a o q _ => h a o q
theorem Keep.rfl {M : Ms} {H : Hp} : Keep M H H := fun _ _ h _ => h
theorem Keep.trans {M : Ms} {H H1 H2 : Hp} (h : Keep M H H1) (g : Keep M H1 H2) : Keep M H H2 := fun a o q n => g a o (h a o q n) n
theorem Keep.mono {M M' : Ms} {H H' : Hp} (h : Keep M' H H') (s : ∀ a, M' a → M a) : Keep M H H' := fun a o q n => h a o q fun z => n (s a z)
theorem Ext.new {H : Hp} {p : Addr} {o : HO} (h : H p = none) : Ext H (upd H p o) := fun a u q => by
  rw [upd_ne (ne_of_none q h)]; exact q

section
variable {K : PySem.W.Frag} {T : Cl} {M M' : Ms} {H H' : Hp}
theorem SqT.keep {a : Addr} {xs : List V} (h : SqT K H a xs) (k : Keep M H H') (mm : ∀ a, M a → Mu (H a)) : SqT K H' a xs := by
  rcases h with h | h
  · rcases h with h | ⟨o, h⟩
    · exact .inl (.inl (k a _ h fun z => by have := mm a z; rw [h] at this; exact this))
    · exact .inl (.inr ⟨o, k a _ h fun z => by have := mm a z; rw [h] at this; exact this⟩)
  · exact .inr h
theorem SqF.keep {a : Addr} {xs : List V} (h : SqF K H a xs) (k : Keep M H H') (mm : ∀ a, M a → Mu (H a)) : SqF K H' a xs := by
  rcases h with ⟨o, h⟩ | h
  · exact .inl ⟨o, k a _ h fun z => by have := mm a z; rw [h] at this; exact this⟩
  · exact .inr h
theorem SqT.ext {a : Addr} {xs : List V} (h : SqT K H a xs) (k : Ext H H') : SqT K H' a xs := SqT.keep (M := fun _ => False) h k.keep fun _ z => z.elim
theorem SqF.ext {a : Addr} {xs : List V} (h : SqF K H a xs) (k : Ext H H') : SqF K H' a xs := SqF.keep (M := fun _ => False) h k.keep fun _ z => z.elim
mutual
theorem Dv.keep (k : Keep M H H') (mm : ∀ a, M a → Mu (H a)) : ∀ (d : D) {v : V}, Dv K T M H d v → Dv K T M H' d v
  | .non, _, h => h
  | .bl _, _, h => h
  | .int _, _, h => h
  | .str _, _, h => h
  | .tup ds, v, h => by
    obtain ⟨a, xs, e, q, r⟩ := h
    exact ⟨a, xs, e, SqT.keep q k mm, DvS.keep k mm ds r⟩
  | .lst ds, v, h => by
    obtain ⟨a, xs, e, n, q, r⟩ := h
    exact ⟨a, xs, e, n, k a _ q n, DvS.keep k mm ds r⟩
  | .ins c ds, v, h => by
    obtain ⟨a, dx, xs, e, n, q, l, r⟩ := h
    exact ⟨a, dx, xs, e, n, k a _ q n, l, DvS.keep k mm ds r⟩
  | .dic ks ds, v, h => by
    obtain ⟨a, xs, e, n, q, l, r⟩ := h
    exact ⟨a, xs, e, n, k a _ q n, l, DvS.keep k mm ds r⟩
  | .scr ns, v, h => by
    obtain ⟨a, e, q⟩ := h
    exact ⟨a, e, SqF.keep q k mm⟩
  | .cl _, _, h => h
theorem DvS.keep (k : Keep M H H') (mm : ∀ a, M a → Mu (H a)) : ∀ (ds : List D) {xs : List V}, DvS K T M H ds xs → DvS K T M H' ds xs
  | [], _, h => h
  | d :: ds, _, h => by
    obtain ⟨x, r, e, h1, h2⟩ := h
    exact ⟨x, r, e, Dv.keep k mm d h1, DvS.keep k mm ds h2⟩
end
mutual
theorem Dv.ext (k : Ext H H') : ∀ (d : D) {v : V}, Dv K T M H d v → Dv K T M H' d v
  | .non, _, h => h
  | .bl _, _, h => h
  | .int _, _, h => h
  | .str _, _, h => h
  | .tup ds, v, h => by
    obtain ⟨a, xs, e, q, r⟩ := h
    exact ⟨a, xs, e, SqT.ext q k, DvS.ext k ds r⟩
  | .lst ds, v, h => by
    obtain ⟨a, xs, e, n, q, r⟩ := h
    exact ⟨a, xs, e, n, k a _ q, DvS.ext k ds r⟩
  | .ins c ds, v, h => by
    obtain ⟨a, dx, xs, e, n, q, l, r⟩ := h
    exact ⟨a, dx, xs, e, n, k a _ q, l, DvS.ext k ds r⟩
  | .dic ks ds, v, h => by
    obtain ⟨a, xs, e, n, q, l, r⟩ := h
    exact ⟨a, xs, e, n, k a _ q, l, DvS.ext k ds r⟩
  | .scr ns, v, h => by
    obtain ⟨a, e, q⟩ := h
    exact ⟨a, e, SqF.ext q k⟩
  | .cl _, _, h => h
theorem DvS.ext (k : Ext H H') : ∀ (ds : List D) {xs : List V}, DvS K T M H ds xs → DvS K T M H' ds xs
  | [], _, h => h
  | d :: ds, _, h => by
    obtain ⟨x, r, e, h1, h2⟩ := h
    exact ⟨x, r, e, Dv.ext k d h1, DvS.ext k ds h2⟩
end
-- other mutable things: fewer, or more of what was not there
mutual
theorem Dv.to (s : ∀ a, M' a → M a ∨ H a = none) : ∀ (d : D) {v : V}, Dv K T M H d v → Dv K T M' H d v
  | .non, _, h => h
  | .bl _, _, h => h
  | .int _, _, h => h
  | .str _, _, h => h
  | .tup ds, v, h => by
    obtain ⟨a, xs, e, q, r⟩ := h
    exact ⟨a, xs, e, q, DvS.to s ds r⟩
  | .lst ds, v, h => by
    obtain ⟨a, xs, e, n, q, r⟩ := h
    exact ⟨a, xs, e, fun z => (s a z).elim n (fun w => by rw [w] at q; cases q), q, DvS.to s ds r⟩
  | .ins c ds, v, h => by
    obtain ⟨a, dx, xs, e, n, q, l, r⟩ := h
    exact ⟨a, dx, xs, e, fun z => (s a z).elim n (fun w => by rw [w] at q; cases q), q, l, DvS.to s ds r⟩
  | .dic ks ds, v, h => by
    obtain ⟨a, xs, e, n, q, l, r⟩ := h
    exact ⟨a, xs, e, fun z => (s a z).elim n (fun w => by rw [w] at q; cases q), q, l, DvS.to s ds r⟩
  | .scr ns, v, h => h
  | .cl _, _, h => h
theorem DvS.to (s : ∀ a, M' a → M a ∨ H a = none) : ∀ (ds : List D) {xs : List V}, DvS K T M H ds xs → DvS K T M' H ds xs
  | [], _, h => h
  | d :: ds, _, h => by
    obtain ⟨x, r, e, h1, h2⟩ := h
    exact ⟨x, r, e, Dv.to s d h1, DvS.to s ds h2⟩
end
theorem Dv.less (s : ∀ a, M' a → M a) (d : D) {v : V} (h : Dv K T M H d v) : Dv K T M' H d v := Dv.to (fun a z => .inl (s a z)) d h
theorem DvS.less (s : ∀ a, M' a → M a) (ds : List D) {xs : List V} (h : DvS K T M H ds xs) : DvS K T M' H ds xs := DvS.to (fun a z => .inl (s a z)) ds h
theorem DvS.nil : DvS K T M H [] [] := rfl
theorem DvS.cons {d : D} {ds : List D} {x : V} {xs : List V} (h : Dv K T M H d x) (r : DvS K T M H ds xs) : DvS K T M H (d :: ds) (x :: xs) := ⟨x, xs, rfl, h, r⟩
theorem DvS.length : ∀ {ds : List D} {xs : List V}, DvS K T M H ds xs → ds.length = xs.length
  | [], _, h => by cases (show _ = [] from h); rfl
  | _ :: ds, _, ⟨_, r, e, _, h2⟩ => by subst e; simp [DvS.length h2]
theorem DvS.get : ∀ {ds : List D} {xs : List V} {i : Nat} {x : V}, DvS K T M H ds xs → xs[i]? = some x → ∃ d, ds[i]? = some d ∧ Dv K T M H d x
  | [], _, _, _, h, e => by cases (show _ = [] from h); simp at e
  | d :: ds, _, 0, _, ⟨_, r, e0, h1, _⟩, e => by subst e0; simp at e; subst e; exact ⟨d, rfl, h1⟩
  | d :: ds, _, i + 1, _, ⟨_, r, e0, _, h2⟩, e => by
    subst e0
    obtain ⟨d', h3, h4⟩ := DvS.get (i := i) h2 (by simpa using e)
    exact ⟨d', by simpa using h3, h4⟩
theorem DvS.getD : ∀ {ds : List D} {xs : List V} {i : Nat} {d : D}, DvS K T M H ds xs → ds[i]? = some d → ∃ x, xs[i]? = some x ∧ Dv K T M H d x
  | [], _, _, _, h, e => by simp at e
  | d :: ds, _, 0, _, ⟨x, r, e0, h1, _⟩, e => by subst e0; simp at e; subst e; exact ⟨x, rfl, h1⟩
  | d :: ds, _, i + 1, _, ⟨_, r, e0, _, h2⟩, e => by
    subst e0
    obtain ⟨x', h3, h4⟩ := DvS.getD (i := i) h2 (by simpa using e)
    exact ⟨x', by simpa using h3, h4⟩
theorem DvS.append : ∀ {ds es : List D} {xs ys : List V}, DvS K T M H ds xs → DvS K T M H es ys → DvS K T M H (ds ++ es) (xs ++ ys)
  | [], _, _, _, h, g => by cases (show _ = [] from h); exact g
  | d :: ds, _, _, _, ⟨x, r, e, h1, h2⟩, g => by subst e; exact ⟨x, _, rfl, h1, DvS.append h2 g⟩
theorem DvS.take : ∀ {ds : List D} {xs : List V} (n : Nat), DvS K T M H ds xs → DvS K T M H (ds.take n) (xs.take n)
  | _, _, 0, _ => by simp [DvS]
  | [], _, n + 1, h => by cases (show _ = [] from h); simp [DvS]
  | d :: ds, _, n + 1, ⟨x, r, e, h1, h2⟩ => by subst e; exact ⟨x, _, rfl, h1, DvS.take n h2⟩
theorem DvS.drop : ∀ {ds : List D} {xs : List V} (n : Nat), DvS K T M H ds xs → DvS K T M H (ds.drop n) (xs.drop n)
  | _, _, 0, h => h
  | [], _, n + 1, h => by cases (show _ = [] from h); simp [DvS]
  | d :: ds, _, n + 1, ⟨x, r, e, h1, h2⟩ => by subst e; exact DvS.drop n h2
theorem DvS.set : ∀ {ds : List D} {xs : List V} (i : Nat) {d : D} {x : V}, DvS K T M H ds xs → Dv K T M H d x → DvS K T M H (ds.set i d) (xs.set i x)
  | [], _, _, _, _, h, _ => by cases (show _ = [] from h); simp [DvS]
  | d :: ds, _, 0, _, _, ⟨x, r, e, h1, h2⟩, g => by subst e; exact ⟨_, _, rfl, g, h2⟩
  | d :: ds, _, i + 1, _, _, ⟨x, r, e, h1, h2⟩, g => by subst e; exact ⟨_, _, rfl, h1, DvS.set i h2 g⟩
theorem DvS.reverse {ds : List D} {xs : List V} : DvS K T M H ds xs → DvS K T M H ds.reverse xs.reverse := by
  induction ds generalizing xs with
  | nil => intro h; cases (show _ = [] from h); exact rfl
  | cons d ds ih =>
    rintro ⟨x, r, e, h1, h2⟩
    subst e
    rw [List.reverse_cons, List.reverse_cons]
    exact DvS.append (ih h2) (DvS.cons h1 DvS.nil)
theorem DvS.eraseIdx : ∀ {ds : List D} {xs : List V} (i : Nat), DvS K T M H ds xs → DvS K T M H (ds.eraseIdx i) (xs.eraseIdx i)
  | [], _, _, h => by cases (show _ = [] from h); simp [DvS]
  | d :: ds, _, 0, ⟨x, r, e, h1, h2⟩ => by subst e; exact h2
  | d :: ds, _, i + 1, ⟨x, r, e, h1, h2⟩ => by subst e; exact ⟨x, _, rfl, h1, DvS.eraseIdx i h2⟩
theorem DvS.ints : ∀ {ns : List Int} {xs : List V}, DvS K T M H (ns.map D.int) xs → xs = ns.map V.int
  | [], _, h => h
  | n :: ns, _, ⟨x, r, e, h1, h2⟩ => by subst e; cases (show x = .int n from h1); rw [DvS.ints h2]; rfl
theorem DvS.of_ints : ∀ (ns : List Int), DvS K T M H (ns.map D.int) (ns.map V.int)
  | [] => rfl
  | n :: ns => ⟨_, _, rfl, rfl, DvS.of_ints ns⟩
theorem DvS.bls : ∀ {ns : List Bool} {xs : List V}, DvS K T M H (ns.map D.bl) xs → xs = ns.map V.bl
  | [], _, h => h
  | n :: ns, _, ⟨x, r, e, h1, h2⟩ => by subst e; cases (show x = .bl n from h1); rw [DvS.bls h2]; rfl
theorem DvS.strs : ∀ {ns : List Str} {xs : List V}, DvS K T M H (ns.map D.str) xs → xs = ns.map V.str
  | [], _, h => h
  | n :: ns, _, ⟨x, r, e, h1, h2⟩ => by subst e; cases (show x = .str n from h1); rw [DvS.strs h2]; rfl
theorem DvS.of_strs : ∀ (ns : List Str), DvS K T M H (ns.map D.str) (ns.map V.str)
  | [] => rfl
  | n :: ns => ⟨_, _, rfl, rfl, DvS.of_strs ns⟩
/-- a new tuple of data -/
theorem Dv.newTup {ds : List D} {xs : List V} {p : Addr} (h : DvS K T M H ds xs) (hp : H p = none) (hm : ¬ M p) : Dv K T M (upd H p (.tup xs)) (.tup ds) (.ref p) :=
  ⟨p, xs, rfl, SqT.of upd_same, DvS.ext (Ext.new hp) ds h⟩
theorem Dv.newLst {ds : List D} {xs : List V} {p : Addr} (h : DvS K T M H ds xs) (hp : H p = none) (hm : ¬ M p) : Dv K T M (upd H p (.lst xs)) (.lst ds) (.ref p) :=
  ⟨p, xs, rfl, hm, upd_same, DvS.ext (Ext.new hp) ds h⟩
end

/-! ### the slots -/
abbrev Sg := L2.St
inductive Sl where
  | un | dat (d : D) | own (ds : List D) | obj (c : Nat) (ds : List D)
abbrev Ev := List Sl
def Sl.mut : Sl → Bool
  | .own _ => true
  | .obj _ _ => true
  | _ => false

/-- the frame of a def: the written part, the classes, what the caller may have that changes, the own parameters (slot, address), the heap at the entry -/
structure Fx where
  K : PySem.W.Frag
  T : Cl
  M0 : Ms
  pa : List (Nat × Addr)
  H0 : Hp
def Fx.P (F : Fx) (a : Addr) : Prop := ∃ i, (i, a) ∈ F.pa

/-- what a mutable slot holds, at the address a -/
def MutAt (K : PySem.W.Frag) (T : Cl) (M : Ms) (H : Hp) (a : Addr) : Sl → Prop
  | .own ds => ∃ xs, H a = some (.lst xs) ∧ DvS K T M H ds xs
  | .obj c ds => ∃ dx xs, H a = some (.ins (T.ad c) dx ((T.fl c).zip xs)) ∧ xs.length ≤ (T.fl c).length ∧ DvS K T M H ds xs
  | _ => False
def SlOk (F : Fx) (M : Ms) (H : Hp) : Sl → Option V → Prop
  | .un, _ => True
  | .dat d, v => ∃ x, v = some x ∧ Dv F.K F.T M H d x
  | s, v => ∃ a, v = some (.ref a) ∧ M a ∧ (F.P a ∨ F.H0 a = none) ∧ MutAt F.K F.T M H a s

structure ER (F : Fx) (M : Ms) (ρ : Ev) (σ : Sg) (H : Hp) : Prop where
  m0 : ∀ a, F.M0 a → M a
  mm : ∀ a, M a → Mu (H a)
  kp : ∀ a o, F.H0 a = some o → ¬ F.P a → H a = some o
  h0 : ∀ a, F.M0 a → F.H0 a ≠ none
  ln : ρ.length = σ.length
  sl : ∀ (i : Nat) (s : Sl), ρ[i]? = some s → ∃ v, σ[i]? = some v ∧ SlOk F M H s v
  ap : ∀ (i j : Nat) (s t : Sl) (v : Option V), ρ[i]? = some s → s.mut = true → ρ[j]? = some t → t.mut = true → σ[i]? = some v → σ[j]? = some v → i = j
  pr : ∀ p ∈ F.pa, σ[p.1]? = some (some (.ref p.2)) ∧ ∃ s, ρ[p.1]? = some s ∧ s.mut = true
  pp : ∀ a, F.P a → F.M0 a

section
variable {F : Fx} {M M' : Ms} {ρ : Ev} {σ : Sg} {H H' : Hp}
theorem MutAt.ext {K : PySem.W.Frag} {T : Cl} {a : Addr} (e : Ext H H') : ∀ {s : Sl}, MutAt K T M H a s → MutAt K T M H' a s
  | .un, h => h.elim
  | .dat _, h => h.elim
  | .own ds, ⟨xs, e2, e3⟩ => ⟨xs, e a _ e2, DvS.ext e ds e3⟩
  | .obj c ds, ⟨dx, xs, e2, l, e3⟩ => ⟨dx, xs, e a _ e2, l, DvS.ext e ds e3⟩
theorem MutAt.less {K : PySem.W.Frag} {T : Cl} {a : Addr} (e : ∀ a, M' a → M a) : ∀ {s : Sl}, MutAt K T M H a s → MutAt K T M' H a s
  | .un, h => h.elim
  | .dat _, h => h.elim
  | .own ds, ⟨xs, e2, e3⟩ => ⟨xs, e2, DvS.less e ds e3⟩
  | .obj c ds, ⟨dx, xs, e2, l, e3⟩ => ⟨dx, xs, e2, l, DvS.less e ds e3⟩
/-- .. where another mutable thing has changed -/
theorem MutAt.other {K : PySem.W.Frag} {T : Cl} {a : Addr} (k : Keep M H H') (mm : ∀ a, M a → Mu (H a)) (ka : H' a = H a) : ∀ {s : Sl}, MutAt K T M H a s → MutAt K T M H' a s
  | .un, h => h.elim
  | .dat _, h => h.elim
  | .own ds, ⟨xs, e2, e3⟩ => ⟨xs, ka.trans e2, DvS.keep k mm ds e3⟩
  | .obj c ds, ⟨dx, xs, e2, l, e3⟩ => ⟨dx, xs, ka.trans e2, l, DvS.keep k mm ds e3⟩
theorem SlOk.mut_at {s : Sl} {v : Option V} (h : SlOk F M H s v) (m : s.mut = true) : ∃ a, v = some (.ref a) ∧ M a ∧ (F.P a ∨ F.H0 a = none) ∧ MutAt F.K F.T M H a s := by
  cases s with
  | un => cases m
  | dat _ => cases m
  | own ds => exact h
  | obj c ds => exact h
theorem SlOk.of_mut {s : Sl} {v : Option V} (m : s.mut = true) (h : ∃ a, v = some (.ref a) ∧ M a ∧ (F.P a ∨ F.H0 a = none) ∧ MutAt F.K F.T M H a s) : SlOk F M H s v := by
  cases s with
  | un => cases m
  | dat _ => cases m
  | own ds => exact h
  | obj c ds => exact h
/-- the heap has only grown -/
theorem ER.ext (R : ER F M ρ σ H) (e : Ext H H') : ER F M ρ σ H' where
  m0 := R.m0
  mm := fun a m => by
    cases q : H a with
    | none => have := R.mm a m; rw [q] at this; exact this.elim
    | some o => rw [e a o q]; have := R.mm a m; rw [q] at this; exact this
  kp := fun a o h n => e a o (R.kp a o h n)
  h0 := R.h0
  ln := R.ln
  sl := fun i s h => by
    obtain ⟨v, h1, h2⟩ := R.sl i s h
    refine ⟨v, h1, ?_⟩
    cases s with
    | un => trivial
    | dat d => obtain ⟨x, e1, e2⟩ := h2; exact ⟨x, e1, Dv.ext e d e2⟩
    | own ds => obtain ⟨a, e1, m, p, e2⟩ := h2; exact ⟨a, e1, m, p, e2.ext e⟩
    | obj c ds => obtain ⟨a, e1, m, p, e2⟩ := h2; exact ⟨a, e1, m, p, e2.ext e⟩
  ap := R.ap
  pr := R.pr
  pp := R.pp
theorem ER.mh (R : ER F M ρ σ H) (a : Addr) (m : M a) : H a ≠ none := fun e => by have := R.mm a m; rw [e] at this; exact this
theorem ER.fresh (R : ER F M ρ σ H) {p : Addr} (hp : H p = none) : ¬ M p := fun m => R.mh p m hp
end

/-! ### what an expression gives: data, or a mutable slot -/
inductive Opd where
  | dat (d : D) | slot (i : Nat)
def OpdOk (F : Fx) (M : Ms) (H : Hp) (σ : Sg) : Opd → V → Prop
  | .dat d, v => Dv F.K F.T M H d v
  | .slot i, v => σ[i]? = some (some v)
theorem OpdOk.keep {F : Fx} {M : Ms} {H H' : Hp} {σ : Sg} (mm : ∀ a, M a → Mu (H a)) (k : Keep M H H') : ∀ {o : Opd} {v : V}, OpdOk F M H σ o v → OpdOk F M H' σ o v
  | .dat d, _, h => Dv.keep k mm d h
  | .slot _, _, h => h
theorem OpdOk.less {F : Fx} {M M' : Ms} {H : Hp} {σ : Sg} (k : ∀ a, M' a → M a) : ∀ {o : Opd} {v : V}, OpdOk F M H σ o v → OpdOk F M' H σ o v
  | .dat d, _, h => Dv.less k d h
  | .slot _, _, h => h
/-- an operand, its content read -/
def Opd.get (ρ : Ev) : Opd → Option D
  | .dat d => some d
  | .slot i => match ρ[i]? with
    | some (.own ds) => some (.lst ds)
    | some (.obj c ds) => some (.ins c ds)
    | _ => none
/-- data, or a mutable thing whose content is data: what operators that keep nothing may take -/
def Do (K : PySem.W.Frag) (T : Cl) (M : Ms) (H : Hp) (d : D) (v : V) : Prop :=
  Dv K T M H d v ∨ (∃ ds a xs, d = .lst ds ∧ v = .ref a ∧ H a = some (.lst xs) ∧ DvS K T M H ds xs) ∨
    ∃ c ds a dx xs, d = .ins c ds ∧ v = .ref a ∧ H a = some (.ins (T.ad c) dx ((T.fl c).zip xs)) ∧ xs.length ≤ (T.fl c).length ∧ DvS K T M H ds xs
theorem ER.opd {F : Fx} {M : Ms} {ρ : Ev} {σ : Sg} {H : Hp} (R : ER F M ρ σ H) {o : Opd} {v : V} {d : D} (h : OpdOk F M H σ o v) (g : o.get ρ = some d) : Do F.K F.T M H d v := by
  cases o with
  | dat e => cases g; exact .inl h
  | slot i =>
    have g' : (match ρ[i]? with
      | some (.own ds) => some (D.lst ds)
      | some (.obj c ds) => some (.ins c ds)
      | _ => none) = some d := g
    cases q : ρ[i]? with
    | none => rw [q] at g'; cases g'
    | some s =>
      obtain ⟨v', h1, h2⟩ := R.sl i s q
      rw [show σ[i]? = some (some v) from h] at h1
      cases h1
      rw [q] at g'
      cases s with
      | un => cases g'
      | dat _ => cases g'
      | own ds =>
        cases g'
        obtain ⟨a, e, m, p, xs, e2, e3⟩ := h2
        cases e
        exact .inr (.inl ⟨ds, a, xs, rfl, rfl, e2, e3⟩)
      | obj c ds =>
        cases g'
        obtain ⟨a, e, m, p, dx, xs, e2, l, e3⟩ := h2
        cases e
        exact .inr (.inr ⟨c, ds, a, dx, xs, rfl, rfl, e2, l, e3⟩)
section
variable {K : PySem.W.Frag} {T : Cl} {M : Ms} {H : Hp} {v : V}
theorem Do.int {i : Int} (h : Do K T M H (.int i) v) : v = .int i := by
  rcases h with h | ⟨_, _, _, e, _⟩ | ⟨_, _, _, _, _, e, _⟩
  · exact h
  · cases e
  · cases e
theorem Do.bl {i : Bool} (h : Do K T M H (.bl i) v) : v = .bl i := by
  rcases h with h | ⟨_, _, _, e, _⟩ | ⟨_, _, _, _, _, e, _⟩
  · exact h
  · cases e
  · cases e
theorem Do.str {i : Str} (h : Do K T M H (.str i) v) : v = .str i := by
  rcases h with h | ⟨_, _, _, e, _⟩ | ⟨_, _, _, _, _, e, _⟩
  · exact h
  · cases e
  · cases e
theorem Do.non (h : Do K T M H .non v) : v = .non := by
  rcases h with h | ⟨_, _, _, e, _⟩ | ⟨_, _, _, _, _, e, _⟩
  · exact h
  · cases e
  · cases e
theorem Do.tup {ds : List D} (h : Do K T M H (.tup ds) v) : ∃ a xs, v = .ref a ∧ SqT K H a xs ∧ DvS K T M H ds xs := by
  rcases h with ⟨a, xs, e, q, r⟩ | ⟨_, _, _, e, _⟩ | ⟨_, _, _, _, _, e, _⟩
  · exact ⟨a, xs, e, q, r⟩
  · cases e
  · cases e
theorem Do.lst {ds : List D} (h : Do K T M H (.lst ds) v) : ∃ a xs, v = .ref a ∧ H a = some (.lst xs) ∧ DvS K T M H ds xs := by
  rcases h with ⟨a, xs, e, _, q, r⟩ | ⟨_, a, xs, e, e2, q, r⟩ | ⟨_, _, _, _, _, e, _⟩
  · exact ⟨a, xs, e, q, r⟩
  · cases e; exact ⟨a, xs, e2, q, r⟩
  · cases e
theorem Do.scr {ns : List Int} (h : Do K T M H (.scr ns) v) : ∃ a, v = .ref a ∧ SqL K H a (ns.map V.int) := by
  rcases h with ⟨a, e, q⟩ | ⟨_, _, _, e, _⟩ | ⟨_, _, _, _, _, e, _⟩
  · exact ⟨a, e, q.sql⟩
  · cases e
  · cases e
theorem Do.ins {c : Nat} {ds : List D} (h : Do K T M H (.ins c ds) v) : ∃ a dx xs, v = .ref a ∧ H a = some (.ins (T.ad c) dx ((T.fl c).zip xs)) ∧ xs.length ≤ (T.fl c).length ∧ DvS K T M H ds xs := by
  rcases h with ⟨a, dx, xs, e, _, q, l, r⟩ | ⟨_, _, _, e, _⟩ | ⟨c', ds', a, dx, xs, e, e2, q, l, r⟩
  · exact ⟨a, dx, xs, e, q, l, r⟩
  · cases e
  · cases e; exact ⟨a, dx, xs, e2, q, l, r⟩
end

/-! ### expressions -/
/-- denotations: of an expression, of an argument list -/
abbrev FE := Ev → Option (Opd × Ev)
abbrev FA := Ev → Option (List Opd × Ev)
abbrev FT := Ev → Option (Bool × Ev)
/-- the reading of an expression by its denotation -/
def TEd (F : Fx) (f : FE) : TE := fun σ H Q => ∃ M ρ o ρ', ER F M ρ σ H ∧ f ρ = some (o, ρ') ∧
  ∀ v M' H', (∀ a, M' a → M a) → ER F M' ρ' σ H' → Keep M H H' → OpdOk F M' H' σ o v → Q v H'
def OpdsOk (F : Fx) (M : Ms) (H : Hp) (σ : Sg) (os : List Opd) (vs : List V) : Prop := Paired (OpdOk F M H σ) os vs
def TAd (F : Fx) (f : FA) : TA := fun σ H Q => ∃ M ρ os ρ', ER F M ρ σ H ∧ f ρ = some (os, ρ') ∧
  ∀ vs M' H', (∀ a, M' a → M a) → ER F M' ρ' σ H' → Keep M H H' → OpdsOk F M' H' σ os vs → Q vs H'
def TTd (F : Fx) (f : FT) : TT := fun σ H Q => ∃ M ρ b ρ', ER F M ρ σ H ∧ f ρ = some (b, ρ') ∧
  ∀ M' H', (∀ a, M' a → M a) → ER F M' ρ' σ H' → Keep M H H' → Q b H'
theorem PE.imp {X : Cx} {e : Expr} {t t' : TE} (h : PE X e t) (g : ∀ σ H Q, t' σ H Q → t σ H Q) : PE X e t' := ⟨fun pins s σ H Q I hw => h.run pins s σ H Q I (g _ _ _ hw)⟩
theorem PT.imp {X : Cx} {e : Expr} {t t' : TT} (h : PT X e t) (g : ∀ σ H Q, t' σ H Q → t σ H Q) : PT X e t' := ⟨fun pins s σ H Q I hw => h.run pins s σ H Q I (g _ _ _ hw)⟩
theorem PW.imp {X : Cx} {e : Expr} {t t' : TT} (h : PW X e t) (g : ∀ σ H Q, t' σ H Q → t σ H Q) : PW X e t' := ⟨fun wh pins s σ H Q I hw => h.run wh pins s σ H Q I (g _ _ _ hw)⟩
theorem PA.imp {X : Cx} {e : List Expr} {t t' : TA} (h : PA X e t) (g : ∀ σ H Q, t' σ H Q → t σ H Q) : PA X e t' := ⟨fun pos pins s σ H Q I hw => h.run pos pins s σ H Q I (g _ _ _ hw)⟩
theorem PS.imp {X : Cx} {e : Stmt} {t t' : TS} (h : PS X e t) (g : ∀ D σ H, t' D σ H → t D σ H) : PS X e t' := ⟨fun pins s σ H D I hw => h.run pins s σ H D I (g _ _ _ hw)⟩
theorem PSs.imp {X : Cx} {e : List Stmt} {t t' : TS} (h : PSs X e t) (g : ∀ D σ H, t' D σ H → t D σ H) : PSs X e t' := ⟨fun pins s σ H D I hw => h.run pins s σ H D I (g _ _ _ hw)⟩
end SC

set_option Elab.async false
set_option linter.all false
set_option maxRecDepth 100000
set_option maxHeartbeats 4000000
namespace SC
open PySem PySem.Spec PyProof.Rows L2
/-- a tuple taken once: the tuple itself -/
theorem tup_once (l : Addr) (its : Array Value) (n : Nat) (dd : Option Addr) (sl : Array (Option Value)) (u : Tok) :
    Meets (Builtin.«tuple.__mul__» ⟨[.ref l, .int 1 u], []⟩) (fun _ R s => s.heap.get? l = some { cls := .type "tuple", dict := dd, data := .seq its n, slots := sl } ∧ R (.ok (.ret (.ref l))) s) :=
  .of_wp fun prog w A R s h => by
    obtain ⟨hp, gs, dr, tk, os⟩ := s
    obtain ⟨hl, h⟩ := h
    have f1 := AutoSeq1.idx_int
    have b1 : (its.isEmpty || (1 : Int) == 1) = true := by simp
    wp_walk using wpAny_loadPart' hl
    exact ⟨_, rfl, h⟩
/-- t * 1, t a tuple with items: t -/
def rOnce (K : PySem.W.Frag) : R2 := fun x y H Q => ∃ l xs, x = V.ref l ∧ y = V.int 1 ∧ SqT K H l xs ∧ xs ≠ [] ∧ Q (.ref l) H
theorem op_once {X : Cx} : OpR X (binaryOp .Mult) (rOnce X.K) := by
  intro pins s σ H x y v u Q I rx ry h
  obtain ⟨l, xs, rfl, rfl, hT, hne, q⟩ := h
  cases rx
  obtain ⟨t, rfl⟩ := ry
  obtain ⟨its, r, ⟨⟨cls, dd, dat, sl⟩, ho, hc, n, hd⟩, hs⟩ := I.tuple hT
  simp only at hc hd
  subst hc hd
  refine wpAny_binaryOp_repeat_ref (T := "tuple") (U := "int") (by decide) ⟨_, ho, rfl⟩ (fun s1 => typeIs_int s1 1 t) noFill_tuple_mul F.fills_int_mul F.slot_int_rmul repeat_tuple F.slot_int_index.lookup
    (call_meets F.slot_int_rmul (typeIs_int s 1 t) F.entry_int_rmul (F.args_int_rmul_2 _ _) (int_rmul_tuple 1 t l its.toArray n dd sl) ⟨ho, rfl, ⟨_, ho, rfl⟩, ?_⟩)
  refine call_meets F.slot_tuple_mul ⟨_, ho, rfl⟩ F.entry_tuple_mul (F.args_tuple_mul_2 _ _) (tup_once l its.toArray n dd sl t) ⟨ho, ?_⟩
  exact ⟨.ref l, H, I, rfl, q⟩
end SC

set_option Elab.async false
set_option linter.all false
set_option maxRecDepth 100000
namespace SC
open PySem PySem.Spec PyProof.Rows L2

/-! ### operators by values -/
def rD (F : Fx) (g : D → D → Option D) : R2 := fun x y H Q => ∃ M d e r, (∀ a, M a → H a ≠ none) ∧ Do F.K F.T M H d x ∧ Do F.K F.T M H e y ∧ g d e = some r ∧ ∀ v H', Ext H H' → Dv F.K F.T M H' r v → Q v H'
def rU1 (F : Fx) (g : D → Option D) : V → Hp → VK → Prop := fun x H Q => ∃ M d r, (∀ a, M a → H a ≠ none) ∧ Do F.K F.T M H d x ∧ g d = some r ∧ ∀ v H', Ext H H' → Dv F.K F.T M H' r v → Q v H'
theorem OpR.imp {X : Cx} {f : Value → Value → Sem Value} {r r' : R2} (h : OpR X f r) (g : ∀ x y H Q, r' x y H Q → r x y H Q) : OpR X f r' :=
  fun pins s σ H x y v u Q I rx ry hw => h pins s σ H x y v u Q I rx ry (g _ _ _ _ hw)

def sLn : Nat := 16777216
theorem sLn_eq : sLn = sizeLine := by decide
def dAdd : D → D → Option D
  | .int i, .int j => some (.int (i + j))
  | .str x, .str y => if x.length + y.length ≤ sLn then some (.str (x ++ y)) else none
  | .tup xs, .tup ys => if xs.length + ys.length ≤ sLn then some (.tup (xs ++ ys)) else none
  | .lst xs, .lst ys => if xs.length + ys.length ≤ sLn then some (.lst (xs ++ ys)) else none
  | _, _ => none
def dSub : D → D → Option D
  | .int i, .int j => some (.int (i - j))
  | _, _ => none
def dMul : D → D → Option D
  | .int i, .int j => if i.natAbs.log2 + j.natAbs.log2 < 1000000 then some (.int (i * j)) else none
  | .tup xs, .int k => if xs ≠ [] ∧ k = 1 then some (.tup xs) else if xs ≠ [] ∧ 2 ≤ k ∧ k ≤ 1000 ∧ xs.length ≤ 1000 then some (.tup (List.replicate k.toNat xs).flatten) else none
  | .lst xs, .int k => if 0 ≤ k ∧ k ≤ 1000 ∧ xs.length ≤ 1000 then some (.lst (List.replicate k.toNat xs).flatten) else none
  | _, _ => none
def dMod : D → D → Option D
  | .int i, .int j => if 0 < j then some (.int (i % j)) else none
  | _, _ => none
def dDiv : D → D → Option D
  | .int i, .int j => if 0 < j ∧ j.natAbs.log2 < 9000 then some (.int (i / j)) else none
  | _, _ => none
def dPow : D → D → Option D
  | .int i, .int j => if 0 ≤ j ∧ j ≤ 1000 ∧ i.natAbs < 2 ^ 64 then some (.int (i ^ j.toNat)) else none
  | _, _ => none
section
variable {X : Cx} {F : Fx}
theorem opd_add (hK : F.K = X.K) : OpR X (binaryOp .Add) (rD F dAdd) := by
  obtain ⟨K, T, M0, pa, H0⟩ := F
  cases hK
  refine OpR.imp (op_add.or (op_add_str.or (op_catA.or op_cat))) ?_
  rintro x y H Q ⟨M, d, e, r, hm, hx, hy, g, q⟩
  cases d with
  | int i => cases e with
    | int j =>
      cases g
      exact .inl ⟨i, j, hx.int, hy.int, q _ _ Ext.rfl rfl⟩
    | _ => cases g
  | str i => cases e with
    | str j =>
      simp only [dAdd] at g
      split at g
      · rename_i hz
        cases g
        exact .inr (.inl ⟨i, j, hx.str, hy.str, by rw [← sLn_eq]; exact hz, q _ _ Ext.rfl rfl⟩)
      · cases g
    | _ => cases g
  | tup xs => cases e with
    | tup ys =>
      simp only [dAdd] at g
      split at g
      · rename_i hz
        cases g
        rcases hx with ⟨a, us, rfl, ha, ra⟩ | ⟨_, _, _, e, _⟩ | ⟨_, _, _, _, _, e, _⟩
        · rcases hy with ⟨b, ws, rfl, hb, rb⟩ | ⟨_, _, _, e, _⟩ | ⟨_, _, _, _, _, e, _⟩
          · have l1 := ra.length
            have l2 := rb.length
            refine .inr (.inr (.inl ⟨a, b, us, ws, rfl, rfl, ha, hb, by rw [← sLn_eq]; omega, fun e => ?_, fun _ e => ?_, fun _ _ p hp => ?_⟩))
            · subst e
              have : xs = [] := List.eq_nil_of_length_eq_zero (by simpa using l1)
              subst this
              exact q _ _ Ext.rfl ⟨b, ws, rfl, hb, rb⟩
            · subst e
              have : ys = [] := List.eq_nil_of_length_eq_zero (by simpa using l2)
              subst this
              rw [List.append_nil] at q
              exact q _ _ Ext.rfl ⟨a, us, rfl, ha, ra⟩
            · exact q _ _ (Ext.new hp) (Dv.newTup (DvS.append ra rb) hp fun z => hm p z hp)
          · cases e
          · cases e
        · cases e
        · cases e
      · cases g
    | _ => cases g
  | lst xs => cases e with
    | lst ys =>
      simp only [dAdd] at g
      split at g
      · rename_i hz
        cases g
        obtain ⟨a, us, rfl, ha, ra⟩ := hx.lst
        obtain ⟨b, ws, rfl, hb, rb⟩ := hy.lst
        have l1 := ra.length
        have l2 := rb.length
        refine .inr (.inr (.inr ⟨a, b, us, ws, rfl, rfl, ha, hb, by rw [← sLn_eq]; omega, fun p hp => ?_⟩))
        exact q _ _ (Ext.new hp) (Dv.newLst (DvS.append ra rb) hp fun z => hm p z hp)
      · cases g
    | _ => cases g
  | _ => cases g
theorem opd_sub (hK : F.K = X.K) : OpR X (binaryOp .Sub) (rD F dSub) := by
  refine OpR.imp op_sub ?_
  rintro x y H Q ⟨M, d, e, r, hm, hx, hy, g, q⟩
  cases d with
  | int i => cases e with
    | int j => cases g; exact ⟨i, j, hx.int, hy.int, q _ _ Ext.rfl rfl⟩
    | _ => cases g
  | _ => cases g
theorem opd_mod (hK : F.K = X.K) : OpR X (binaryOp .Mod) (rD F dMod) := by
  refine OpR.imp op_mod ?_
  rintro x y H Q ⟨M, d, e, r, hm, hx, hy, g, q⟩
  cases d with
  | int i => cases e with
    | int j =>
      simp only [dMod] at g
      split at g
      · rename_i hz
        cases g; exact ⟨i, j, hx.int, hy.int, hz, q _ _ Ext.rfl rfl⟩
      · cases g
    | _ => cases g
  | _ => cases g
theorem opd_div (hK : F.K = X.K) : OpR X (binaryOp .FloorDiv) (rD F dDiv) := by
  refine OpR.imp op_fdivW ?_
  rintro x y H Q ⟨M, d, e, r, hm, hx, hy, g, q⟩
  cases d with
  | int i => cases e with
    | int j =>
      simp only [dDiv] at g
      split at g
      · rename_i hz
        cases g; exact ⟨i, j, hx.int, hy.int, hz, q _ _ Ext.rfl rfl⟩
      · cases g
    | _ => cases g
  | _ => cases g
theorem opd_pow (hK : F.K = X.K) : OpR X (binaryOp .Pow) (rD F dPow) := by
  refine OpR.imp op_pow ?_
  rintro x y H Q ⟨M, d, e, r, hm, hx, hy, g, q⟩
  cases d with
  | int i => cases e with
    | int j =>
      simp only [dPow] at g
      split at g
      · rename_i hz
        cases g; exact ⟨i, j, hx.int, hy.int, ⟨hz.1, by omega, hz.2.2⟩, q _ _ Ext.rfl rfl⟩
      · cases g
    | _ => cases g
  | _ => cases g
theorem DvS.rep {K : PySem.W.Frag} {T : Cl} {M : Ms} {H : Hp} {ds : List D} {xs : List V} (h : DvS K T M H ds xs) : ∀ k : Nat, DvS K T M H (List.replicate k ds).flatten (List.replicate k xs).flatten
  | 0 => by simp [DvS]
  | k + 1 => by
    rw [List.replicate_succ, List.replicate_succ, List.flatten_cons, List.flatten_cons]
    exact DvS.append h (DvS.rep h k)
theorem opd_mul (hK : F.K = X.K) : OpR X (binaryOp .Mult) (rD F dMul) := by
  obtain ⟨K, T, M0, pa, H0⟩ := F
  cases hK
  refine OpR.imp (op_mulW.or (op_once.or (op_repT.or op_rep))) ?_
  rintro x y H Q ⟨M, d, e, r, hm, hx, hy, g, q⟩
  cases d with
  | int i => cases e with
    | int j =>
      simp only [dMul] at g
      split at g
      · rename_i hz
        cases g; exact .inl ⟨i, j, hx.int, hy.int, hz, q _ _ Ext.rfl rfl⟩
      · cases g
    | _ => cases g
  | tup xs => cases e with
    | int k =>
      simp only [dMul] at g
      split at g
      · rename_i hz
        cases g
        obtain ⟨a, us, rfl, ha, ra⟩ := hx.tup
        have l1 := ra.length
        refine .inr (.inl ⟨a, us, rfl, by rw [hy.int, hz.2], ha, fun z => hz.1 (List.eq_nil_of_length_eq_zero (by rw [l1, z]; rfl)), q _ _ Ext.rfl ⟨a, us, rfl, ha, ra⟩⟩)
      split at g
      · rename_i hz
        cases g
        obtain ⟨a, us, rfl, ha, ra⟩ := hx.tup
        have l1 := ra.length
        refine .inr (.inr (.inl ⟨a, k, us, rfl, hy.int, ha, fun z => hz.1 (List.eq_nil_of_length_eq_zero (by rw [l1, z]; rfl)), hz.2.1, hz.2.2.1, by omega, fun p hp => ?_⟩))
        exact q _ _ (Ext.new hp) (Dv.newTup (DvS.rep ra _) hp fun z => hm p z hp)
      · cases g
    | _ => cases g
  | lst xs => cases e with
    | int k =>
      simp only [dMul] at g
      split at g
      · rename_i hz
        cases g
        obtain ⟨a, us, rfl, ha, ra⟩ := hx.lst
        have l1 := ra.length
        refine .inr (.inr (.inr ⟨a, k, us, rfl, hy.int, ha, by omega, by omega, ?_, fun p hp => ?_⟩))
        · rw [← sLn_eq]
          have h1 : us.length ≤ 1000 := by omega
          have h2 : k.toNat ≤ 1000 := by omega
          have := Nat.mul_le_mul h1 h2
          show us.length * k.toNat ≤ 16777216
          omega
        · exact q _ _ (Ext.new hp) (Dv.newLst (DvS.rep ra _) hp fun z => hm p z hp)
      · cases g
    | _ => cases g
  | _ => cases g
/-- an int comparison -/
def dCmp (p : Int → Int → Bool) : D → D → Option D
  | .int i, .int j => some (.bl (p i j))
  | _, _ => none
theorem opd_cmp {f : Value → Value → Sem Value} {p : Int → Int → Bool} (h : OpR X f (rI0 fun i j => .bl (p i j))) : OpR X f (rD F (dCmp p)) := by
  refine OpR.imp h ?_
  rintro x y H Q ⟨M, d, e, r, hm, hx, hy, g, q⟩
  cases d with
  | int i => cases e with
    | int j => cases g; exact ⟨i, j, hx.int, hy.int, q _ _ Ext.rfl rfl⟩
    | _ => cases g
  | _ => cases g
end
end SC

set_option Elab.async false
set_option linter.all false
set_option maxRecDepth 100000
namespace SC
open PySem PySem.Spec PyProof.Rows L2

/-! ### equality of data -/
mutual
def toP : D → Option PyData
  | .non => some .none
  | .bl b => some (.bool b)
  | .int i => some (.int i)
  | .str x => some (.str x)
  | .tup ds => (toPs ds).map .tuple
  | .lst ds => (toPs ds).map .list
  | _ => none
def toPs : List D → Option (List PyData)
  | [] => some []
  | d :: ds => match toP d, toPs ds with
    | some p, some ps => some (p :: ps)
    | _, _ => none
end
def shD (d : D) : Bool := match toP d with
  | some p => SeqAt.shaped p
  | none => false
def eqD (d e : D) : Bool := match toP d, toP e with
  | some p, some q => PyData.eqv p q
  | _, _ => false
def dEq (d e : D) : Option D := if (shD d && shD e) = true then some (.bl (eqD d e)) else none
def dNe (d e : D) : Option D := if (shD d && shD e) = true then some (.bl (!eqD d e)) else none
section
variable {K : PySem.W.Frag} {T : Cl} {M : Ms} {H : Hp}
mutual
theorem Dv.dp : ∀ (d : D) {v : V} {p : PyData}, Dv K T M H d v → toP d = some p → Dp K H v p
  | .non, v, p, h, e => by simp only [toP] at e; cases e; cases (show v = .non from h); exact .non
  | .bl b, v, p, h, e => by simp only [toP] at e; cases e; cases (show v = .bl b from h); exact .bl b
  | .int b, v, p, h, e => by simp only [toP] at e; cases e; cases (show v = .int b from h); exact .int b
  | .str b, v, p, h, e => by simp only [toP] at e; cases e; cases (show v = .str b from h); exact .str b
  | .tup ds, v, p, h, e => by
    simp only [toP] at e
    obtain ⟨ps, e1, e2⟩ := Option.map_eq_some_iff.mp e
    subst e2
    obtain ⟨a, xs, rfl, q, r⟩ := h
    exact .tup q (DvS.dps ds r e1)
  | .lst ds, v, p, h, e => by
    simp only [toP] at e
    obtain ⟨ps, e1, e2⟩ := Option.map_eq_some_iff.mp e
    subst e2
    obtain ⟨a, xs, rfl, _, q, r⟩ := h
    exact .lst (SqL.of q) (DvS.dps ds r e1)
  | .ins _ _, _, _, _, e => by simp only [toP] at e; cases e
  | .dic _ _, _, _, _, e => by simp only [toP] at e; cases e
  | .scr _, _, _, _, e => by simp only [toP] at e; cases e
  | .cl _, _, _, _, e => by simp only [toP] at e; cases e
theorem DvS.dps : ∀ (ds : List D) {xs : List V} {ps : List PyData}, DvS K T M H ds xs → toPs ds = some ps → DpAll K H xs ps
  | [], xs, ps, h, e => by simp only [toPs] at e; cases e; cases (show xs = [] from h); exact .nil
  | d :: ds, xs, ps, h, e => by
    obtain ⟨x, r, rfl, h1, h2⟩ := h
    simp only [toPs] at e
    cases q1 : toP d with
    | none => rw [q1] at e; cases e
    | some p1 =>
      cases q2 : toPs ds with
      | none => rw [q1, q2] at e; cases e
      | some p2 =>
        rw [q1, q2] at e
        cases e
        exact .cons (Dv.dp d h1 q1) (DvS.dps ds h2 q2)
end
theorem Do.dp {d : D} {v : V} {p : PyData} (h : Do K T M H d v) (e : toP d = some p) : Dp K H v p := by
  rcases h with h | ⟨ds, a, xs, rfl, rfl, q, r⟩ | ⟨_, _, _, _, _, rfl, _⟩
  · exact Dv.dp d h e
  · simp only [toP] at e
    obtain ⟨ps, e1, e2⟩ := Option.map_eq_some_iff.mp e
    subst e2
    exact .lst (SqL.of q) (DvS.dps ds r e1)
  · simp only [toP] at e; cases e
end
section
variable {X : Cx} {F : Fx}
theorem opd_eq (hK : F.K = X.K) (hu : X.A.units + 64 < cLine) : OpR X (compareOp .Eq) (rD F dEq) := by
  obtain ⟨K, T, M0, pa, H0⟩ := F
  cases hK
  refine OpR.imp (op_eqD hu) ?_
  rintro x y H Q ⟨M, d, e, r, hm, hx, hy, g, q⟩
  unfold dEq at g
  split at g
  · rename_i hz
    cases g
    obtain ⟨z1, z2⟩ := Bool.and_eq_true_iff.mp hz
    unfold shD at z1 z2
    cases e1 : toP d with
    | none => rw [e1] at z1; cases z1
    | some p1 =>
      cases e2 : toP e with
      | none => rw [e2] at z2; cases z2
      | some p2 =>
        rw [e1] at z1; rw [e2] at z2
        refine ⟨p1, p2, hx.dp e1, hy.dp e2, z1, z2, ?_⟩
        have := q (.bl (eqD d e)) H Ext.rfl rfl
        unfold eqD at this
        rw [e1, e2] at this
        exact this
  · cases g
theorem opd_ne (hK : F.K = X.K) (hu : X.A.units + 64 < cLine) : OpR X (compareOp .NotEq) (rD F dNe) := by
  obtain ⟨K, T, M0, pa, H0⟩ := F
  cases hK
  refine OpR.imp (op_neD hu) ?_
  rintro x y H Q ⟨M, d, e, r, hm, hx, hy, g, q⟩
  unfold dNe at g
  split at g
  · rename_i hz
    cases g
    obtain ⟨z1, z2⟩ := Bool.and_eq_true_iff.mp hz
    unfold shD at z1 z2
    cases e1 : toP d with
    | none => rw [e1] at z1; cases z1
    | some p1 =>
      cases e2 : toP e with
      | none => rw [e2] at z2; cases z2
      | some p2 =>
        rw [e1] at z1; rw [e2] at z2
        refine ⟨p1, p2, hx.dp e1, hy.dp e2, z1, z2, ?_⟩
        have := q (.bl (!eqD d e)) H Ext.rfl rfl
        unfold eqD at this
        rw [e1, e2] at this
        exact this
  · cases g
end

/-! ### in -/
def flD : D → Bool
  | .non => true
  | .bl _ => true
  | .int _ => true
  | .str _ => true
  | _ => false
def inD (d : D) (ds : List D) : Bool := ds.any fun e => eqD e d
def dIn : D → D → Option D
  | d, .lst es => if (flD d && es.all flD) = true then some (.bl (inD d es)) else none
  | d, .tup es => if (flD d && es.all flD) = true then some (.bl (inD d es)) else none
  | .str x, .str y => some (.bl (!(Builtin.Str.occurrences y x 0 y.length 1).isEmpty))
  | _, _ => none
def dNotIn : D → D → Option D
  | d, .lst es => if (flD d && es.all flD) = true then some (.bl (!inD d es)) else none
  | d, .tup es => if (flD d && es.all flD) = true then some (.bl (!inD d es)) else none
  | .str x, .str y => some (.bl (!(!(Builtin.Str.occurrences y x 0 y.length 1).isEmpty)))
  | _, _ => none
section
variable {K : PySem.W.Frag} {T : Cl} {M : Ms} {H : Hp}
theorem flD_v {d : D} {v : V} (f : flD d = true) (h : Dv K T M H d v) : flatV v = true := by
  cases d with
  | non => cases (show v = _ from h); rfl
  | bl _ => cases (show v = _ from h); rfl
  | int _ => cases (show v = _ from h); rfl
  | str _ => cases (show v = _ from h); rfl
  | _ => cases f
theorem flD_eq {d e : D} {v w : V} (f : flD d = true) (g : flD e = true) (h : Dv K T M H d v) (k : Dv K T M H e w) : eqV v w = eqD d e := by
  cases d with
  | non =>
    cases (show v = _ from h)
    cases e with
    | non => cases (show w = _ from k); rfl
    | bl _ => cases (show w = _ from k); rfl
    | int _ => cases (show w = _ from k); rfl
    | str _ => cases (show w = _ from k); rfl
    | _ => cases g
  | bl b =>
    cases (show v = _ from h)
    cases e with
    | non => cases (show w = _ from k); rfl
    | bl _ => cases (show w = _ from k); rfl
    | int _ => cases (show w = _ from k); rfl
    | str _ => cases (show w = _ from k); rfl
    | _ => cases g
  | int b =>
    cases (show v = _ from h)
    cases e with
    | non => cases (show w = _ from k); rfl
    | bl _ => cases (show w = _ from k); rfl
    | int _ => cases (show w = _ from k); rfl
    | str _ => cases (show w = _ from k); rfl
    | _ => cases g
  | str b =>
    cases (show v = _ from h)
    cases e with
    | non => cases (show w = _ from k); rfl
    | bl _ => cases (show w = _ from k); rfl
    | int _ => cases (show w = _ from k); rfl
    | str _ => cases (show w = _ from k); rfl
    | _ => cases g
  | _ => cases f
theorem DvS.flat : ∀ {ds : List D} {xs : List V}, DvS K T M H ds xs → ds.all flD = true → xs.all flatV = true
  | [], _, h, _ => by cases (show _ = [] from h); rfl
  | d :: ds, _, ⟨x, r, e, h1, h2⟩, f => by
    subst e
    obtain ⟨f1, f2⟩ := Bool.and_eq_true_iff.mp (show (flD d && ds.all flD) = true from f)
    show (flatV x && r.all flatV) = true
    rw [flD_v f1 h1, DvS.flat h2 f2]; rfl
theorem DvS.inV {d : D} {v : V} (f : flD d = true) (h : Dv K T M H d v) : ∀ {ds : List D} {xs : List V}, DvS K T M H ds xs → ds.all flD = true → inV v xs = inD d ds
  | [], _, hh, _ => by cases (show _ = [] from hh); rfl
  | e :: ds, _, ⟨x, r, q, h1, h2⟩, g => by
    subst q
    obtain ⟨f1, f2⟩ := Bool.and_eq_true_iff.mp (show (flD e && ds.all flD) = true from g)
    show (eqV x v || L2.inV v r) = (eqD e d || inD d ds)
    rw [flD_eq f1 f h1 h, DvS.inV f h h2 f2]
theorem Do.flat {d : D} {v : V} (f : flD d = true) (h : Do K T M H d v) : Dv K T M H d v := by
  rcases h with h | ⟨_, _, _, rfl, _⟩ | ⟨_, _, _, _, _, rfl, _⟩
  · exact h
  · cases f
  · cases f
end
section
variable {X : Cx} {F : Fx}
theorem opd_in (hK : F.K = X.K) : OpR X (compareOp .In) (rD F dIn) := by
  obtain ⟨K, T, M0, pa, H0⟩ := F
  cases hK
  refine OpR.imp (op_in_seq.or op_in_str) ?_
  rintro x y H Q ⟨M, d, e, r, hm, hx, hy, g, q⟩
  cases e with
  | lst es =>
    simp only [dIn] at g
    split at g
    · rename_i hz
      cases g
      obtain ⟨f1, f2⟩ := Bool.and_eq_true_iff.mp hz
      obtain ⟨a, us, rfl, ha, ra⟩ := hy.lst
      refine .inl ⟨a, us, rfl, .inl (SqL.of ha), flD_v f1 (hx.flat f1), ra.flat f2, ?_⟩
      rw [DvS.inV f1 (hx.flat f1) ra f2]
      exact q _ _ Ext.rfl rfl
    · cases g
  | tup es =>
    simp only [dIn] at g
    split at g
    · rename_i hz
      cases g
      obtain ⟨f1, f2⟩ := Bool.and_eq_true_iff.mp hz
      obtain ⟨a, us, rfl, ha, ra⟩ := hy.tup
      refine .inl ⟨a, us, rfl, .inr ha, flD_v f1 (hx.flat f1), ra.flat f2, ?_⟩
      rw [DvS.inV f1 (hx.flat f1) ra f2]
      exact q _ _ Ext.rfl rfl
    · cases g
  | str z => cases d with
    | str w => cases g; exact .inr ⟨w, z, hx.str, hy.str, q _ _ Ext.rfl rfl⟩
    | _ => cases g
  | _ => cases d <;> cases g
theorem opd_notIn (hK : F.K = X.K) : OpR X (compareOp .NotIn) (rD F dNotIn) := by
  obtain ⟨K, T, M0, pa, H0⟩ := F
  cases hK
  refine OpR.imp (op_notIn_seq.or op_notIn_str) ?_
  rintro x y H Q ⟨M, d, e, r, hm, hx, hy, g, q⟩
  cases e with
  | lst es =>
    simp only [dNotIn] at g
    split at g
    · rename_i hz
      cases g
      obtain ⟨f1, f2⟩ := Bool.and_eq_true_iff.mp hz
      obtain ⟨a, us, rfl, ha, ra⟩ := hy.lst
      refine .inl ⟨a, us, rfl, .inl (SqL.of ha), flD_v f1 (hx.flat f1), ra.flat f2, ?_⟩
      rw [DvS.inV f1 (hx.flat f1) ra f2]
      exact q _ _ Ext.rfl rfl
    · cases g
  | tup es =>
    simp only [dNotIn] at g
    split at g
    · rename_i hz
      cases g
      obtain ⟨f1, f2⟩ := Bool.and_eq_true_iff.mp hz
      obtain ⟨a, us, rfl, ha, ra⟩ := hy.tup
      refine .inl ⟨a, us, rfl, .inr ha, flD_v f1 (hx.flat f1), ra.flat f2, ?_⟩
      rw [DvS.inV f1 (hx.flat f1) ra f2]
      exact q _ _ Ext.rfl rfl
    · cases g
  | str z => cases d with
    | str w => cases g; exact .inr ⟨w, z, hx.str, hy.str, q _ _ Ext.rfl rfl⟩
    | _ => cases g
  | _ => cases d <;> cases g

/-! ### is None -/
def isNonD : D → Bool
  | .non => true
  | _ => false
def dIs : D → D → Option D
  | d, .non => some (.bl (isNonD d))
  | _, _ => none
def dIsNot : D → D → Option D
  | d, .non => some (.bl (!isNonD d))
  | _, _ => none
theorem Do.isNon {K : PySem.W.Frag} {T : Cl} {M : Ms} {H : Hp} {d : D} {v : V} (h : Do K T M H d v) : decide (v = V.non) = isNonD d := by
  rcases h with h | ⟨_, _, _, rfl, rfl, _⟩ | ⟨_, _, _, _, _, rfl, rfl, _⟩
  · cases d with
    | non => cases (show v = _ from h); rfl
    | bl _ => cases (show v = _ from h); rfl
    | int _ => cases (show v = _ from h); rfl
    | str _ => cases (show v = _ from h); rfl
    | tup _ => obtain ⟨a, xs, rfl, _⟩ := h; rfl
    | lst _ => obtain ⟨a, xs, rfl, _⟩ := h; rfl
    | ins _ _ => obtain ⟨a, dx, xs, rfl, _⟩ := h; rfl
    | dic _ _ => obtain ⟨a, xs, rfl, _⟩ := h; rfl
    | scr _ => obtain ⟨a, rfl, _⟩ := h; rfl
    | cl _ => cases (show v = _ from h); rfl
  · rfl
  · rfl
theorem opd_is (hK : F.K = X.K) : OpR X (compareOp .Is) (rD F dIs) := by
  refine OpR.imp op_isN ?_
  rintro x y H Q ⟨M, d, e, r, hm, hx, hy, g, q⟩
  cases e with
  | non =>
    cases g
    refine ⟨hy.non, ?_⟩
    rw [hx.isNon]
    exact q _ _ Ext.rfl rfl
  | _ => cases d <;> cases g
theorem opd_isNot (hK : F.K = X.K) : OpR X (compareOp .IsNot) (rD F dIsNot) := by
  refine OpR.imp op_notN ?_
  rintro x y H Q ⟨M, d, e, r, hm, hx, hy, g, q⟩
  cases e with
  | non =>
    cases g
    refine ⟨hy.non, ?_⟩
    rw [hx.isNon]
    exact q _ _ Ext.rfl rfl
  | _ => cases d <;> cases g

/-! ### subscripts -/
def dIdx : D → D → Option D
  | .lst ds, .int i => atI ds i
  | .tup ds, .int i => atI ds i
  | .scr ns, .int i => (atI ns i).map .int
  | .str z, .int i => if z.length ≤ sLn then (atI z.cps.toList i).map fun c => .str ⟨#[c]⟩ else none
  | _, _ => none
theorem IxR.imp {r r' : R2} (h : IxR X r) (g : ∀ x y H Q, r' x y H Q → r x y H Q) : IxR X r' := by
  unfold IxR at *
  intros
  apply h <;> first | assumption | (apply g; assumption)
theorem DvS.atI {K : PySem.W.Frag} {T : Cl} {M : Ms} {H : Hp} {ds : List D} {xs : List V} {i : Int} {d : D} (h : DvS K T M H ds xs) (e : L2.atI ds i = some d) : ∃ v, L2.atI xs i = some v ∧ Dv K T M H d v := by
  unfold L2.atI at e ⊢
  rw [← h.length]
  cases q : ixN ds.length i with
  | none => rw [q] at e; cases e
  | some j =>
    rw [q] at e
    exact h.getD (show ds[j]? = some d from e)
theorem ixd (hK : F.K = X.K) : IxR X (rD F dIdx) := by
  obtain ⟨K, T, M0, pa, H0⟩ := F
  cases hK
  refine IxR.imp ix_seq ?_
  rintro x y H Q ⟨M, d, e, r, hm, hx, hy, g, q⟩
  cases d with
  | lst ds => cases e with
    | int i =>
      obtain ⟨a, us, rfl, ha, ra⟩ := hx.lst
      obtain ⟨v, e1, e2⟩ := ra.atI (show atI ds i = some r from g)
      exact .inl ⟨a, us, i, v, rfl, hy.int, SqL.of ha, e1, q _ _ Ext.rfl e2⟩
    | _ => cases g
  | tup ds => cases e with
    | int i =>
      obtain ⟨a, us, rfl, ha, ra⟩ := hx.tup
      obtain ⟨v, e1, e2⟩ := ra.atI (show atI ds i = some r from g)
      exact .inr (.inl ⟨a, us, i, v, rfl, hy.int, ha, e1, q _ _ Ext.rfl e2⟩)
    | _ => cases g
  | scr ns => cases e with
    | int i =>
      obtain ⟨a, rfl, ha⟩ := hx.scr
      obtain ⟨k, e1, e2⟩ := Option.map_eq_some_iff.mp (show (atI ns i).map D.int = some r from g)
      subst e2
      refine .inl ⟨a, _, i, .int k, rfl, hy.int, ha, ?_, q _ _ Ext.rfl rfl⟩
      unfold atI at e1 ⊢
      rw [List.length_map]
      cases q : ixN ns.length i with
      | none => rw [q] at e1; cases e1
      | some j =>
        rw [q] at e1
        show (ns.map V.int)[j]? = some (.int k)
        rw [List.getElem?_map, show ns[j]? = some k from e1]; rfl
    | _ => cases g
  | str z => cases e with
    | int i =>
      simp only [dIdx] at g
      split at g
      · rename_i hz
        obtain ⟨c, e1, e2⟩ := Option.map_eq_some_iff.mp g
        subst e2
        exact .inr (.inr ⟨z, i, c, hx.str, hy.int, by rw [← sLn_eq]; exact hz, e1, q _ _ Ext.rfl rfl⟩)
      · cases g
    | _ => cases g
  | _ => cases g

/-! ### slices -/
def cutD (xs : List D) (lo hi : Option Int) : List D := (xs.drop (HT.sIx xs.length 0 lo)).take (HT.sIx xs.length xs.length hi - HT.sIx xs.length 0 lo)
theorem DvS.cut {K : PySem.W.Frag} {T : Cl} {M : Ms} {H : Hp} {ds : List D} {xs : List V} (h : DvS K T M H ds xs) (lo hi : Option Int) : DvS K T M H (cutD ds lo hi) (cutV xs lo hi) := by
  unfold cutD cutV
  rw [h.length]
  exact DvS.take _ (DvS.drop _ h)
def cutI (xs : List Int) (lo hi : Option Int) : List Int := (xs.drop (HT.sIx xs.length 0 lo)).take (HT.sIx xs.length xs.length hi - HT.sIx xs.length 0 lo)
def dSlc : D → Option Int → Option Int → Option D
  | .lst ds, lo, hi => some (.lst (cutD ds lo hi))
  | .tup ds, lo, hi => some (.tup (cutD ds lo hi))
  | .scr ns, lo, hi => some (.lst ((cutI ns lo hi).map .int))
  | .str z, lo, hi => if z.length ≤ sLn then some (.str (Txt.slice z lo hi)) else none
  | _, _, _ => none
def rSd (F : Fx) (g : D → Option Int → Option Int → Option D) : V → Option Int → Option Int → Hp → VK → Prop := fun x lo hi H Q => ∃ M d r, (∀ a, M a → H a ≠ none) ∧ Do F.K F.T M H d x ∧ g d lo hi = some r ∧ ∀ v H', Ext H H' → Dv F.K F.T M H' r v → Q v H'
theorem SlR.imp {r r' : V → Option Int → Option Int → Hp → VK → Prop} (h : SlR X r) (g : ∀ x lo hi H Q, r' x lo hi H Q → r x lo hi H Q) : SlR X r' := by
  intro pins s σ H x v vl vu lo hi sl Q I rx hs pl pu hw
  exact h pins s σ H x v vl vu lo hi sl Q I rx hs pl pu (g _ _ _ _ _ hw)
theorem sld (hK : F.K = X.K) : SlR X (rSd F dSlc) := by
  obtain ⟨K, T, M0, pa, H0⟩ := F
  cases hK
  refine SlR.imp (sl_list.or (sl_tupA.or C8.sl_txt)) ?_
  rintro x lo hi H Q ⟨M, d, r, hm, hx, g, q⟩
  cases d with
  | lst ds =>
    cases g
    obtain ⟨a, us, rfl, ha, ra⟩ := hx.lst
    exact .inl ⟨a, us, rfl, SqL.of ha, fun p hp => q _ _ (Ext.new hp) (Dv.newLst (ra.cut lo hi) hp fun z => hm p z hp)⟩
  | scr ns =>
    cases g
    obtain ⟨a, rfl, ha⟩ := hx.scr
    refine .inl ⟨a, _, rfl, ha, fun p hp => q _ _ (Ext.new hp) ⟨p, _, rfl, fun z => hm p z hp, upd_same, ?_⟩⟩
    have e : cutV (ns.map V.int) lo hi = (cutI ns lo hi).map V.int := by
      unfold cutV cutI
      rw [List.length_map, List.map_take, List.map_drop]
    rw [e]
    exact DvS.of_ints _
  | tup ds =>
    cases g
    rcases hx with ⟨a, us, rfl, ha, ra⟩ | ⟨_, _, _, e, _⟩ | ⟨_, _, _, _, _, e, _⟩
    · refine .inr (.inl ⟨a, us, rfl, ha, fun e => ?_, fun _ p hp => q _ _ (Ext.new hp) (Dv.newTup (ra.cut lo hi) hp fun z => hm p z hp)⟩)
      have e2 : cutD ds lo hi = ds := by
        unfold cutD
        rw [ra.length, e.1, e.2, List.drop_zero, Nat.sub_zero, ← ra.length, List.take_length]
      refine q _ _ Ext.rfl ?_
      rw [e2]
      exact ⟨a, us, rfl, ha, ra⟩
    · cases e
    · cases e
  | str z =>
    simp only [dSlc] at g
    split at g
    · rename_i hz
      cases g
      exact .inr (.inr ⟨z, hx.str, by rw [← sLn_eq]; exact hz, q _ _ Ext.rfl rfl⟩)
    · cases g
  | _ => cases g
end
end SC

set_option Elab.async false
set_option linter.all false
set_option maxRecDepth 100000
namespace SC
open PySem PySem.Spec PyProof.Rows L2

/-! ### calls of built-in functions, by values -/
def DoS (F : Fx) (M : Ms) (H : Hp) (ds : List D) (vs : List V) : Prop := Paired (Do F.K F.T M H) ds vs
def rCs (F : Fx) (g : List D → Option D) : List V → Hp → VK → Prop := fun vs H Q => ∃ M ds r, (∀ a, M a → H a ≠ none) ∧ DoS F M H ds vs ∧ g ds = some r ∧ ∀ v H', Ext H H' → Dv F.K F.T M H' r v → Q v H'
theorem CallR.imp {X : Cx} {f : Value} {r r' : List V → Hp → VK → Prop} (h : CallR X f r) (g : ∀ xs H Q, r' xs H Q → r xs H Q) : CallR X f r' :=
  fun pins s σ H xs us Q I rr hw => h pins s σ H xs us Q I rr (g _ _ _ hw)
def allI : List D → Option (List Int)
  | [] => some []
  | .int i :: ds => (allI ds).map (i :: ·)
  | _ :: _ => none
def allB : List D → Option (List Bool)
  | [] => some []
  | .bl i :: ds => (allB ds).map (i :: ·)
  | _ :: _ => none
def allS : List D → Option (List Str)
  | [] => some []
  | .str i :: ds => (allS ds).map (i :: ·)
  | _ :: _ => none
theorem allI_eq : ∀ {ds : List D} {ns : List Int}, allI ds = some ns → ds = ns.map .int
  | [], _, h => by cases h; rfl
  | .int i :: ds, ns, h => by
    obtain ⟨m, e1, e2⟩ := Option.map_eq_some_iff.mp (show (allI ds).map (i :: ·) = some ns from h)
    subst e2
    rw [allI_eq e1]; rfl
  | .non :: _, _, h => by cases h
  | .bl _ :: _, _, h => by cases h
  | .str _ :: _, _, h => by cases h
  | .tup _ :: _, _, h => by cases h
  | .lst _ :: _, _, h => by cases h
  | .ins _ _ :: _, _, h => by cases h
  | .dic _ _ :: _, _, h => by cases h
  | .scr _ :: _, _, h => by cases h
  | .cl _ :: _, _, h => by cases h
theorem allI_map : ∀ (ns : List Int), allI (ns.map .int) = some ns
  | [] => rfl
  | n :: ns => by show (allI (ns.map .int)).map (n :: ·) = _; rw [allI_map ns]; rfl
theorem allB_eq : ∀ {ds : List D} {ns : List Bool}, allB ds = some ns → ds = ns.map .bl
  | [], _, h => by cases h; rfl
  | .bl i :: ds, ns, h => by
    obtain ⟨m, e1, e2⟩ := Option.map_eq_some_iff.mp (show (allB ds).map (i :: ·) = some ns from h)
    subst e2
    rw [allB_eq e1]; rfl
  | .non :: _, _, h => by cases h
  | .int _ :: _, _, h => by cases h
  | .str _ :: _, _, h => by cases h
  | .tup _ :: _, _, h => by cases h
  | .lst _ :: _, _, h => by cases h
  | .ins _ _ :: _, _, h => by cases h
  | .dic _ _ :: _, _, h => by cases h
  | .scr _ :: _, _, h => by cases h
  | .cl _ :: _, _, h => by cases h
theorem allB_map : ∀ (ns : List Bool), allB (ns.map .bl) = some ns
  | [] => rfl
  | n :: ns => by show (allB (ns.map .bl)).map (n :: ·) = _; rw [allB_map ns]; rfl
theorem allS_eq : ∀ {ds : List D} {ns : List Str}, allS ds = some ns → ds = ns.map .str
  | [], _, h => by cases h; rfl
  | .str i :: ds, ns, h => by
    obtain ⟨m, e1, e2⟩ := Option.map_eq_some_iff.mp (show (allS ds).map (i :: ·) = some ns from h)
    subst e2
    rw [allS_eq e1]; rfl
  | .non :: _, _, h => by cases h
  | .int _ :: _, _, h => by cases h
  | .bl _ :: _, _, h => by cases h
  | .tup _ :: _, _, h => by cases h
  | .lst _ :: _, _, h => by cases h
  | .ins _ _ :: _, _, h => by cases h
  | .dic _ _ :: _, _, h => by cases h
  | .scr _ :: _, _, h => by cases h
  | .cl _ :: _, _, h => by cases h
theorem allS_map : ∀ (ns : List Str), allS (ns.map .str) = some ns
  | [] => rfl
  | n :: ns => by show (allS (ns.map .str)).map (n :: ·) = _; rw [allS_map ns]; rfl

def dLen : List D → Option D
  | [.lst ds] => some (.int ds.length)
  | [.tup ds] => some (.int ds.length)
  | [.scr ds] => some (.int ds.length)
  | [.str z] => if z.length ≤ sLn then some (.int z.length) else none
  | _ => none
def dAbs : List D → Option D
  | [.int i] => some (.int (if i < 0 then -i else i))
  | _ => none
def dSum : List D → Option D
  | [.lst ds] => (allI ds).map fun ns => .int ns.sum
  | [.tup ds] => (allI ds).map fun ns => .int ns.sum
  | _ => none
def dAll : List D → Option D
  | [.lst ds] => (allB ds).map fun bs => .bl (bs.all id)
  | _ => none
def dAny : List D → Option D
  | [.lst ds] => (allB ds).map fun bs => .bl (bs.any id)
  | _ => none
def dList : List D → Option D
  | [.lst ds] => some (.lst ds)
  | [.tup ds] => some (.lst ds)
  | [.scr ns] => some (.lst (ns.map .int))
  | _ => none
def dTuple : List D → Option D
  | [.lst ds] => some (.tup ds)
  | [.tup ds] => some (.tup ds)
  | _ => none
def dInt : List D → Option D
  | [.int i] => some (.int i)
  | [.bl b] => some (.int (if b then 1 else 0))
  | [.str z] => if z.length ≤ 640 then (PySem.intText? z).map .int else none
  | _ => none
def dStr : List D → Option D
  | [.int i] => if i.natAbs.log2 < 1920 then some (.str (toString i)) else none
  | _ => none
def dMax : List D → Option D
  | [.int i, .int j] => some (.int (if j > i then j else i))
  | _ => none
def dMin : List D → Option D
  | [.int i, .int j] => some (.int (if j < i then j else i))
  | _ => none
section
variable {X : Cx} {F : Fx}
theorem paired1 {α β : Type} {R : α → β → Prop} {a : α} {bs : List β} (h : Paired R [a] bs) : ∃ b, bs = [b] ∧ R a b := by
  cases h with
  | cons r t => cases t; exact ⟨_, rfl, r⟩
theorem paired2 {α β : Type} {R : α → β → Prop} {a a' : α} {bs : List β} (h : Paired R [a, a'] bs) : ∃ b b', bs = [b, b'] ∧ R a b ∧ R a' b' := by
  cases h with
  | cons r t => cases t with
    | cons r' t' => cases t'; exact ⟨_, _, rfl, r, r'⟩
theorem cd_len (hK : F.K = X.K) : CallR X (.builtin "len") (rCs F dLen) := by
  obtain ⟨K, T, M0, pa, H0⟩ := F
  cases hK
  refine CallR.imp call_len ?_
  rintro vs H Q ⟨M, ds, r, hm, hx, g, q⟩
  match ds, g with
  | [.lst ds], g =>
    cases g
    obtain ⟨v, rfl, h⟩ := paired1 hx
    obtain ⟨a, us, rfl, ha, ra⟩ := h.lst
    refine ⟨_, us.length, rfl, .inl ⟨us, SqL.of ha, rfl⟩, ?_⟩
    rw [← ra.length]
    exact q _ _ Ext.rfl rfl
  | [.tup ds], g =>
    cases g
    obtain ⟨v, rfl, h⟩ := paired1 hx
    obtain ⟨a, us, rfl, ha, ra⟩ := h.tup
    refine ⟨_, us.length, rfl, .inr ⟨us, ha, rfl⟩, ?_⟩
    rw [← ra.length]
    exact q _ _ Ext.rfl rfl
  | [.scr ds], g =>
    cases g
    obtain ⟨v, rfl, h⟩ := paired1 hx
    obtain ⟨a, rfl, ha⟩ := h.scr
    refine ⟨_, (ds.map V.int).length, rfl, .inl ⟨_, ha, rfl⟩, ?_⟩
    rw [List.length_map]
    exact q _ _ Ext.rfl rfl
  | [.str z], g =>
    simp only [dLen] at g
    split at g
    · rename_i hz
      cases g
      obtain ⟨v, rfl, h⟩ := paired1 hx
      cases h.str
      exact ⟨_, z.length, rfl, ⟨by rw [← sLn_eq]; exact hz, rfl⟩, q _ _ Ext.rfl rfl⟩
    · cases g
theorem cd_abs (hK : F.K = X.K) : CallR X (.builtin "abs") (rCs F dAbs) := by
  refine CallR.imp call_abs ?_
  rintro vs H Q ⟨M, ds, r, hm, hx, g, q⟩
  match ds, g with
  | [.int i], g =>
    cases g
    obtain ⟨v, rfl, h⟩ := paired1 hx
    cases h.int
    exact ⟨i, rfl, q _ _ Ext.rfl rfl⟩
/-- sum of a tuple -/
theorem cr_sumT (hc : X.calm = true) : CallR X (.builtin "sum") (fun vs H Q => ∃ (a : Addr) (ns : List Int), vs = [V.ref a] ∧ SqT X.K H a (ns.map V.int) ∧ Q (.int ns.sum) H) := by
  intro pins s σ H vs us Q I r h
  obtain ⟨a, ns, rfl, hs, q⟩ := h
  obtain ⟨its, rv, hl, _⟩ := I.tuple hs
  rw [Vals.ref1 r]
  have hi := rv.ints
  obtain ⟨xs, hx⟩ := hi.allInts.items
  have hn : numsOf its.toArray.toList = ns := by rw [show its.toArray.toList = its from rfl, hi.numsOf]
  rw [hx] at hl hn
  rw [nums_intItems] at hn
  refine PySem.W.ktm_sumG (I.ok.hd hc) hl fun h' tk t' hk => ?_
  rw [preSum_eq, List.take_of_length_le (by simp), hn]
  exact ⟨.int ns.sum, H, I.kept hk, ⟨_, rfl⟩, q⟩
theorem cd_sum (hK : F.K = X.K) (hc : X.calm = true) : CallR X (.builtin "sum") (rCs F dSum) := by
  obtain ⟨K, T, M0, pa, H0⟩ := F
  cases hK
  refine CallR.imp ((cr_sum hc).or (cr_sumT hc)) ?_
  rintro vs H Q ⟨M, ds, r, hm, hx, g, q⟩
  match ds, g with
  | [.lst ds], g =>
    obtain ⟨ns, e1, e2⟩ := Option.map_eq_some_iff.mp (show (allI ds).map (fun ns => D.int ns.sum) = some r from g)
    subst e2
    obtain ⟨v, rfl, h⟩ := paired1 hx
    obtain ⟨a, us, rfl, ha, ra⟩ := h.lst
    rw [allI_eq e1] at ra
    rw [ra.ints] at ha
    exact .inl ⟨a, ns, rfl, SqL.of ha, q _ _ Ext.rfl rfl⟩
  | [.tup ds], g =>
    obtain ⟨ns, e1, e2⟩ := Option.map_eq_some_iff.mp (show (allI ds).map (fun ns => D.int ns.sum) = some r from g)
    subst e2
    obtain ⟨v, rfl, h⟩ := paired1 hx
    obtain ⟨a, us, rfl, ha, ra⟩ := h.tup
    rw [allI_eq e1] at ra
    rw [ra.ints] at ha
    exact .inr ⟨a, ns, rfl, ha, q _ _ Ext.rfl rfl⟩
theorem cd_all (hK : F.K = X.K) (hc : X.calm = true) : CallR X (.builtin "all") (rCs F dAll) := by
  obtain ⟨K, T, M0, pa, H0⟩ := F
  cases hK
  refine CallR.imp (cr_all hc) ?_
  rintro vs H Q ⟨M, ds, r, hm, hx, g, q⟩
  match ds, g with
  | [.lst ds], g =>
    obtain ⟨ns, e1, e2⟩ := Option.map_eq_some_iff.mp (show (allB ds).map (fun bs => D.bl (bs.all id)) = some r from g)
    subst e2
    obtain ⟨v, rfl, h⟩ := paired1 hx
    obtain ⟨a, us, rfl, ha, ra⟩ := h.lst
    rw [allB_eq e1] at ra
    rw [ra.bls] at ha
    exact ⟨a, ns, rfl, SqL.of ha, q _ _ Ext.rfl rfl⟩
theorem cd_any (hK : F.K = X.K) (hc : X.calm = true) : CallR X (.builtin "any") (rCs F dAny) := by
  obtain ⟨K, T, M0, pa, H0⟩ := F
  cases hK
  refine CallR.imp (cr_any hc) ?_
  rintro vs H Q ⟨M, ds, r, hm, hx, g, q⟩
  match ds, g with
  | [.lst ds], g =>
    obtain ⟨ns, e1, e2⟩ := Option.map_eq_some_iff.mp (show (allB ds).map (fun bs => D.bl (bs.any id)) = some r from g)
    subst e2
    obtain ⟨v, rfl, h⟩ := paired1 hx
    obtain ⟨a, us, rfl, ha, ra⟩ := h.lst
    rw [allB_eq e1] at ra
    rw [ra.bls] at ha
    exact ⟨a, ns, rfl, SqL.of ha, q _ _ Ext.rfl rfl⟩
theorem cd_list (hK : F.K = X.K) : CallR X (.type "list") (rCs F dList) := by
  obtain ⟨K, T, M0, pa, H0⟩ := F
  cases hK
  refine CallR.imp call_list_of ?_
  rintro vs H Q ⟨M, ds, r, hm, hx, g, q⟩
  match ds, g with
  | [.lst ds], g =>
    cases g
    obtain ⟨v, rfl, h⟩ := paired1 hx
    obtain ⟨a, us, rfl, ha, ra⟩ := h.lst
    exact ⟨a, us, rfl, .inl (SqL.of ha), fun p hp => q _ _ (Ext.new hp) (Dv.newLst ra hp fun z => hm p z hp)⟩
  | [.tup ds], g =>
    cases g
    obtain ⟨v, rfl, h⟩ := paired1 hx
    obtain ⟨a, us, rfl, ha, ra⟩ := h.tup
    exact ⟨a, us, rfl, .inr ha, fun p hp => q _ _ (Ext.new hp) (Dv.newLst ra hp fun z => hm p z hp)⟩
  | [.scr ns], g =>
    cases g
    obtain ⟨v, rfl, h⟩ := paired1 hx
    obtain ⟨a, rfl, ha⟩ := h.scr
    exact ⟨a, _, rfl, .inl ha, fun p hp => q _ _ (Ext.new hp) (Dv.newLst (DvS.of_ints ns) hp fun z => hm p z hp)⟩
theorem cd_tuple (hK : F.K = X.K) : CallR X (.type "tuple") (rCs F dTuple) := by
  obtain ⟨K, T, M0, pa, H0⟩ := F
  cases hK
  refine CallR.imp call_tuple_of ?_
  rintro vs H Q ⟨M, ds, r, hm, hx, g, q⟩
  match ds, g with
  | [.lst ds], g =>
    cases g
    obtain ⟨v, rfl, h⟩ := paired1 hx
    obtain ⟨a, us, rfl, ha, ra⟩ := h.lst
    exact ⟨a, us, rfl, .inl ⟨SqL.of ha, fun p hp => q _ _ (Ext.new hp) (Dv.newTup ra hp fun z => hm p z hp)⟩⟩
  | [.tup ds], g =>
    cases g
    obtain ⟨v, rfl, h⟩ := paired1 hx
    rcases h with ⟨a, us, rfl, ha, ra⟩ | ⟨_, _, _, e, _⟩ | ⟨_, _, _, _, _, e, _⟩
    · exact ⟨a, us, rfl, .inr ⟨ha, q _ _ Ext.rfl ⟨a, us, rfl, ha, ra⟩⟩⟩
    · cases e
    · cases e
theorem cd_int (hK : F.K = X.K) : CallR X (.type "int") (rCs F dInt) := by
  refine CallR.imp (call_int1.or call_int_str) ?_
  rintro vs H Q ⟨M, ds, r, hm, hx, g, q⟩
  match ds, g with
  | [.int i], g =>
    cases g
    obtain ⟨v, rfl, h⟩ := paired1 hx
    cases h.int
    exact .inl (.inl ⟨i, rfl, q _ _ Ext.rfl rfl⟩)
  | [.bl i], g =>
    cases g
    obtain ⟨v, rfl, h⟩ := paired1 hx
    cases h.bl
    exact .inl (.inr ⟨i, rfl, q _ _ Ext.rfl rfl⟩)
  | [.str z], g =>
    simp only [dInt] at g
    split at g
    · rename_i hz
      obtain ⟨n, e1, e2⟩ := Option.map_eq_some_iff.mp g
      subst e2
      obtain ⟨v, rfl, h⟩ := paired1 hx
      cases h.str
      exact .inr ⟨z, n, rfl, e1, hz, q _ _ Ext.rfl rfl⟩
    · cases g
theorem cd_str (hK : F.K = X.K) : CallR X (.type "str") (rCs F dStr) := by
  refine CallR.imp call_str_int ?_
  rintro vs H Q ⟨M, ds, r, hm, hx, g, q⟩
  match ds, g with
  | [.int i], g =>
    simp only [dStr] at g
    split at g
    · rename_i hz
      cases g
      obtain ⟨v, rfl, h⟩ := paired1 hx
      cases h.int
      exact ⟨i, rfl, hz, q _ _ Ext.rfl rfl⟩
    · cases g
theorem cd_max (hc : X.calm = true) : CallR X (.builtin "max") (rCs F dMax) := by
  refine CallR.imp (call_max2 hc) ?_
  rintro vs H Q ⟨M, ds, r, hm, hx, g, q⟩
  match ds, g with
  | [.int i, .int j], g =>
    cases g
    obtain ⟨v, w, rfl, h, h'⟩ := paired2 hx
    cases h.int
    cases h'.int
    exact ⟨i, j, rfl, q _ _ Ext.rfl rfl⟩
theorem cd_min (hc : X.calm = true) : CallR X (.builtin "min") (rCs F dMin) := by
  refine CallR.imp (call_min2 hc) ?_
  rintro vs H Q ⟨M, ds, r, hm, hx, g, q⟩
  match ds, g with
  | [.int i, .int j], g =>
    cases g
    obtain ⟨v, w, rfl, h, h'⟩ := paired2 hx
    cases h.int
    cases h'.int
    exact ⟨i, j, rfl, q _ _ Ext.rfl rfl⟩
end
end SC

set_option Elab.async false
set_option linter.all false
set_option maxRecDepth 100000
namespace SC
open PySem PySem.Spec PyProof.Rows L2

/-! ### denotations -/
def fVar (i : Nat) : FE := fun ρ => match ρ[i]? with
  | some (.dat d) => some (.dat d, ρ)
  | some (.own _) => some (.slot i, ρ)
  | some (.obj _ _) => some (.slot i, ρ)
  | _ => none
def fC (d : D) : FE := fun ρ => some (.dat d, ρ)
def fBin (g : D → D → Option D) (fa fb : FE) : FE := fun ρ =>
  match fa ρ with
  | none => none
  | some (o, ρ1) => match fb ρ1 with
    | none => none
    | some (p, ρ2) => match o.get ρ2, p.get ρ2 with
      | some d, some e => match g d e with
        | some r => some (.dat r, ρ2)
        | none => none
      | _, _ => none
def fUn (g : D → Option D) (fa : FE) : FE := fun ρ =>
  match fa ρ with
  | none => none
  | some (o, ρ1) => match o.get ρ1 with
    | some d => match g d with
      | some r => some (.dat r, ρ1)
      | none => none
    | none => none
def fNil : FA := fun ρ => some ([], ρ)
def fCons (fa : FE) (fr : FA) : FA := fun ρ =>
  match fa ρ with
  | none => none
  | some (o, ρ1) => match fr ρ1 with
    | none => none
    | some (os, ρ2) => some (o :: os, ρ2)
def itemsD : D → Option (List D)
  | .tup ds => some ds
  | .lst ds => some ds
  | _ => none
/-- *e, .. -/
def fStar (fa : FE) (fr : FA) : FA := fun ρ =>
  match fa ρ with
  | none => none
  | some (o, ρ1) => match o.get ρ1 with
    | none => none
    | some d => match itemsD d with
      | none => none
      | some ds => match fr ρ1 with
        | none => none
        | some (os, ρ2) => some (ds.map .dat ++ os, ρ2)
def datAll : List Opd → Option (List D)
  | [] => some []
  | .dat d :: os => (datAll os).map (d :: ·)
  | .slot _ :: _ => none
def getAll (ρ : Ev) : List Opd → Option (List D)
  | [] => some []
  | o :: os => match o.get ρ, getAll ρ os with
    | some d, some ds => some (d :: ds)
    | _, _ => none
/-- a display: c gives the datum of its items -/
def fDisp (c : List D → D) (fa : FA) : FE := fun ρ =>
  match fa ρ with
  | none => none
  | some (os, ρ1) => match datAll os with
    | none => none
    | some ds => if ds.length ≤ sLn then some (.dat (c ds), ρ1) else none
/-- a built-in's call -/
def fBlt (g : List D → Option D) (fa : FA) : FE := fun ρ =>
  match fa ρ with
  | none => none
  | some (os, ρ1) => match getAll ρ1 os with
    | none => none
    | some ds => match g ds with
      | some r => some (.dat r, ρ1)
      | none => none
def fTest (fa : FE) : FT := fun ρ =>
  match fa ρ with
  | some (.dat (.bl b), ρ1) => some (b, ρ1)
  | _ => none
def fAnd (fa fb : FT) : FT := fun ρ =>
  match fa ρ with
  | some (true, ρ1) => fb ρ1
  | some (false, ρ1) => some (false, ρ1)
  | none => none
def fOr (fa fb : FT) : FT := fun ρ =>
  match fa ρ with
  | some (true, ρ1) => some (true, ρ1)
  | some (false, ρ1) => fb ρ1
  | none => none
def fNot (fa : FT) : FT := fun ρ =>
  match fa ρ with
  | some (b, ρ1) => some (!b, ρ1)
  | none => none
def fIf (fc : FT) (fa fb : FE) : FE := fun ρ =>
  match fc ρ with
  | some (true, ρ1) => fa ρ1
  | some (false, ρ1) => fb ρ1
  | none => none
/-- and, or, not as values -/
def fAndV (fa : FT) (fb : FE) : FE := fun ρ =>
  match fa ρ with
  | some (true, ρ1) => fb ρ1
  | some (false, ρ1) => some (.dat (.bl false), ρ1)
  | none => none
def fOrV (fa : FT) (fb : FE) : FE := fun ρ =>
  match fa ρ with
  | some (true, ρ1) => some (.dat (.bl true), ρ1)
  | some (false, ρ1) => fb ρ1
  | none => none
def fBool (fa : FT) : FE := fun ρ =>
  match fa ρ with
  | some (b, ρ1) => some (.dat (.bl b), ρ1)
  | none => none
/-- a op b op' c -/
def fChn (g g' : D → D → Option D) (fa fb fc : FE) : FE := fun ρ =>
  match fa ρ with
  | none => none
  | some (o, ρ1) => match fb ρ1 with
    | none => none
    | some (p, ρ2) => match o.get ρ2, p.get ρ2 with
      | some d, some e => match g d e with
        | some (.bl true) => match fc ρ2 with
          | none => none
          | some (q, ρ3) => match p.get ρ3, q.get ρ3 with
            | some e', some f => match g' e' f with
              | some r => some (.dat r, ρ3)
              | none => none
            | _, _ => none
        | some (.bl false) => some (.dat (.bl false), ρ2)
        | _ => none
      | _, _ => none

/-! ### slices' parts -/
abbrev FO := Ev → Option (Option Int × Ev)
def fNoPart : FO := fun ρ => some (none, ρ)
def fPart (fa : FE) : FO := fun ρ =>
  match fa ρ with
  | some (.dat (.int i), ρ1) => some (some i, ρ1)
  | _ => none
def fSlc (fa : FE) (fl fh : FO) : FE := fun ρ =>
  match fa ρ with
  | none => none
  | some (o, ρ1) => match fl ρ1 with
    | none => none
    | some (l, ρ2) => match fh ρ2 with
      | none => none
      | some (h, ρ3) => match o.get ρ3 with
        | none => none
        | some d => match dSlc d l h with
          | some r => some (.dat r, ρ3)
          | none => none
def TOd (F : Fx) (f : FO) : TO := fun σ H Q => ∃ M ρ b ρ', ER F M ρ σ H ∧ f ρ = some (b, ρ') ∧
  ∀ M' H', (∀ a, M' a → M a) → ER F M' ρ' σ H' → Keep M H H' → Q b H'

section
variable {X : Cx} {F : Fx} {a b c : Expr} {fa fb fc : FE} {pos : Pos}
theorem de_var {i : Nat} {x : Str} (hN : X.N[i]? = some x) (hv : Vis X.env.scope x) (hd : (x == ("__debug__" : Str)) = false) (hcd : (x == ("__classdict__" : Str)) = false) : PE X (.Name x pos) (TEd F (fVar i)) := by
  refine PE.imp (pe_var hN hv hd hcd) ?_
  rintro σ H Q ⟨M, ρ, o, ρ', R, hf, q⟩
  unfold fVar at hf
  cases e : ρ[i]? with
  | none => rw [e] at hf; cases hf
  | some s =>
    obtain ⟨v, h1, h2⟩ := R.sl i s e
    rw [e] at hf
    cases s with
    | un => cases hf
    | dat d =>
      cases hf
      obtain ⟨x, rfl, h3⟩ := h2
      exact ⟨x, h1, q x M H (fun _ z => z) R Keep.rfl h3⟩
    | own ds =>
      cases hf
      obtain ⟨p, rfl, _⟩ := h2
      exact ⟨_, h1, q _ M H (fun _ z => z) R Keep.rfl h1⟩
    | obj k ds =>
      cases hf
      obtain ⟨p, rfl, _⟩ := h2
      exact ⟨_, h1, q _ M H (fun _ z => z) R Keep.rfl h1⟩
/-- a constant, by its value -/
theorem de_c {e : Expr} {v : V} {d : D} (h : PE X e (tC v)) (hd : ∀ M H, Dv F.K F.T M H d v) : PE X e (TEd F (fC d)) := by
  refine PE.imp h ?_
  rintro σ H Q ⟨M, ρ, o, ρ', R, hf, q⟩
  cases hf
  exact q v M H (fun _ z => z) R Keep.rfl (hd M H)
theorem de_bin {op : Operator} {g : D → D → Option D} (ho : OpR X (binaryOp op) (rD F g)) (ha : PE X a (TEd F fa)) (hb : PE X b (TEd F fb)) : PE X (.BinOp a op b pos) (TEd F (fBin g fa fb)) := by
  refine PE.imp (pe_op ho ha hb) ?_
  rintro σ H Q ⟨M, ρ, o, ρ', R, hf, q⟩
  unfold fBin at hf
  cases e1 : fa ρ with
  | none => rw [e1] at hf; cases hf
  | some p1 =>
    obtain ⟨o1, ρ1⟩ := p1
    rw [e1] at hf
    simp only at hf
    cases e2 : fb ρ1 with
    | none => rw [e2] at hf; cases hf
    | some p2 =>
      obtain ⟨o2, ρ2⟩ := p2
      rw [e2] at hf
      simp only at hf
      split at hf
      · rename_i d e g1 g2
        split at hf
        · rename_i r hr
          cases hf
          refine ⟨M, ρ, o1, ρ1, R, e1, fun x M1 H1 s1 R1 k1 ok1 => ⟨M1, ρ1, o2, _, R1, e2, fun y M2 H2 s2 R2 k2 ok2 => ?_⟩⟩
          exact ⟨M2, d, e, r, R2.mh, R2.opd (OpdOk.less s2 (OpdOk.keep R1.mm k2 ok1)) g1, R2.opd ok2 g2, hr, fun v H' ex dv => q v M2 H' (fun z m => s1 z (s2 z m)) (R2.ext ex) (k1.trans ((k2.mono s1).trans ex.keep)) dv⟩
        · cases hf
      · cases hf
theorem de_cmp {op : CmpOp} {g : D → D → Option D} (ho : OpR X (compareOp op) (rD F g)) (ha : PE X a (TEd F fa)) (hb : PE X b (TEd F fb)) (hm : behindInMarks op b = false) : PE X (.Compare a [op] [b] pos) (TEd F (fBin g fa fb)) := by
  refine PE.imp (pe_cmpR ho ha hb hm) ?_
  rintro σ H Q ⟨M, ρ, o, ρ', R, hf, q⟩
  unfold fBin at hf
  cases e1 : fa ρ with
  | none => rw [e1] at hf; cases hf
  | some p1 =>
    obtain ⟨o1, ρ1⟩ := p1
    rw [e1] at hf
    simp only at hf
    cases e2 : fb ρ1 with
    | none => rw [e2] at hf; cases hf
    | some p2 =>
      obtain ⟨o2, ρ2⟩ := p2
      rw [e2] at hf
      simp only at hf
      split at hf
      · rename_i d e g1 g2
        split at hf
        · rename_i r hr
          cases hf
          refine ⟨M, ρ, o1, ρ1, R, e1, fun x M1 H1 s1 R1 k1 ok1 => ⟨M1, ρ1, o2, _, R1, e2, fun y M2 H2 s2 R2 k2 ok2 => ?_⟩⟩
          exact ⟨M2, d, e, r, R2.mh, R2.opd (OpdOk.less s2 (OpdOk.keep R1.mm k2 ok1)) g1, R2.opd ok2 g2, hr, fun v H' ex dv => q v M2 H' (fun z m => s1 z (s2 z m)) (R2.ext ex) (k1.trans ((k2.mono s1).trans ex.keep)) dv⟩
        · cases hf
      · cases hf
theorem dt_cmp {op : CmpOp} {g : D → D → Option D} (ho : OpR X (compareOp op) (rD F g)) (ha : PE X a (TEd F fa)) (hb : PE X b (TEd F fb)) (hm : behindInMarks op b = false) : PT X (.Compare a [op] [b] pos) (TTd F (fTest (fBin g fa fb))) := by
  refine PT.imp (pt_cmpR ho ha hb hm) ?_
  rintro σ H Q ⟨M, ρ, o, ρ', R, hf, q⟩
  unfold fTest fBin at hf
  cases e1 : fa ρ with
  | none => rw [e1] at hf; cases hf
  | some p1 =>
    obtain ⟨o1, ρ1⟩ := p1
    rw [e1] at hf
    simp only at hf
    cases e2 : fb ρ1 with
    | none => rw [e2] at hf; cases hf
    | some p2 =>
      obtain ⟨o2, ρ2⟩ := p2
      rw [e2] at hf
      simp only at hf
      cases g1 : o1.get ρ2 with
      | none => rw [g1] at hf; cases hf
      | some d =>
        cases g2 : o2.get ρ2 with
        | none => rw [g1, g2] at hf; cases hf
        | some e =>
          rw [g1, g2] at hf
          simp only at hf
          cases hr : g d e with
          | none => rw [hr] at hf; cases hf
          | some r =>
            rw [hr] at hf
            cases r with
            | bl k =>
              cases hf
              refine ⟨M, ρ, o1, ρ1, R, e1, fun x M1 H1 s1 R1 k1 ok1 => ⟨M1, ρ1, o2, _, R1, e2, fun y M2 H2 s2 R2 k2 ok2 => ?_⟩⟩
              exact ⟨M2, d, e, _, R2.mh, R2.opd (OpdOk.less s2 (OpdOk.keep R1.mm k2 ok1)) g1, R2.opd ok2 g2, hr, fun v H' ex dv => ⟨_, dv, q M2 H' (fun z m => s1 z (s2 z m)) (R2.ext ex) (k1.trans ((k2.mono s1).trans ex.keep))⟩⟩
            | _ => cases hf
theorem de_un {op : UnaryOp} {g : D → Option D} (ho : UnR X (unaryOp op) (rU1 F g)) (ha : PE X a (TEd F fa)) : PE X (.UnaryOp op a pos) (TEd F (fUn g fa)) := by
  refine PE.imp (pe_un ho ha) ?_
  rintro σ H Q ⟨M, ρ, o, ρ', R, hf, q⟩
  unfold fUn at hf
  cases e1 : fa ρ with
  | none => rw [e1] at hf; cases hf
  | some p1 =>
    obtain ⟨o1, ρ1⟩ := p1
    rw [e1] at hf
    simp only at hf
    split at hf
    · rename_i d g1
      split at hf
      · rename_i r hr
        cases hf
        exact ⟨M, ρ, o1, _, R, e1, fun x M1 H1 s1 R1 k1 ok1 => ⟨M1, d, r, R1.mh, R1.opd ok1 g1, hr, fun v H' ex dv => q v M1 H' s1 (R1.ext ex) (k1.trans ex.keep) dv⟩⟩
      · cases hf
    · cases hf
theorem da_nil : PA X [] (TAd F fNil) := by
  refine PA.imp pa_nil ?_
  rintro σ H Q ⟨M, ρ, o, ρ', R, hf, q⟩
  cases hf
  exact q [] M H (fun _ z => z) R Keep.rfl .nil
theorem OpdsOk.keep {M : Ms} {H H' : Hp} {σ : Sg} (mm : ∀ a, M a → Mu (H a)) (k : Keep M H H') : ∀ {os : List Opd} {vs : List V}, OpdsOk F M H σ os vs → OpdsOk F M H' σ os vs
  | _, _, .nil => .nil
  | _, _, .cons h t => .cons (OpdOk.keep mm k h) (OpdsOk.keep mm k t)
theorem OpdsOk.less {M M' : Ms} {H : Hp} {σ : Sg} (k : ∀ a, M' a → M a) : ∀ {os : List Opd} {vs : List V}, OpdsOk F M H σ os vs → OpdsOk F M' H σ os vs
  | _, _, .nil => .nil
  | _, _, .cons h t => .cons (OpdOk.less k h) (OpdsOk.less k t)
theorem OpdsOk.append {M : Ms} {H : Hp} {σ : Sg} : ∀ {os ps : List Opd} {vs ws : List V}, OpdsOk F M H σ os vs → OpdsOk F M H σ ps ws → OpdsOk F M H σ (os ++ ps) (vs ++ ws)
  | _, _, _, _, .nil, g => g
  | _, _, _, _, .cons h t, g => .cons h (OpdsOk.append t g)
theorem OpdsOk.dats {M : Ms} {H : Hp} {σ : Sg} : ∀ {ds : List D} {vs : List V}, DvS F.K F.T M H ds vs → OpdsOk F M H σ (ds.map .dat) vs
  | [], _, h => by cases (show _ = [] from h); exact .nil
  | d :: ds, _, ⟨x, r, e, h1, h2⟩ => by subst e; exact .cons h1 (OpdsOk.dats h2)
theorem OpdsOk.datAll {M : Ms} {H : Hp} {σ : Sg} : ∀ {os : List Opd} {vs : List V} {ds : List D}, OpdsOk F M H σ os vs → SC.datAll os = some ds → DvS F.K F.T M H ds vs
  | _, _, _, .nil, e => by cases e; exact rfl
  | .dat d :: os, _, ds, .cons h t, e => by
    obtain ⟨es, e1, e2⟩ := Option.map_eq_some_iff.mp (show (SC.datAll os).map (d :: ·) = some ds from e)
    subst e2
    exact ⟨_, _, rfl, h, OpdsOk.datAll t e1⟩
  | .slot _ :: _, _, _, .cons _ _, e => by cases e
theorem OpdsOk.getAll {M : Ms} {H : Hp} {σ : Sg} {ρ : Ev} (R : ER F M ρ σ H) : ∀ {os : List Opd} {vs : List V} {ds : List D}, OpdsOk F M H σ os vs → SC.getAll ρ os = some ds → DoS F M H ds vs
  | _, _, _, .nil, e => by cases e; exact .nil
  | o :: os, _, ds, .cons h t, e => by
    simp only [SC.getAll] at e
    split at e
    · rename_i d ds' g1 g2
      cases e
      exact .cons (R.opd h g1) (OpdsOk.getAll R t g2)
    · cases e
theorem da_cons {e : Expr} {es : List Expr} {fr : FA} (ha : PE X e (TEd F fa)) (hr : PA X es (TAd F fr)) (hs : starEach (e :: es) X.env = (false, eval e X.env) :: starEach es X.env) : PA X (e :: es) (TAd F (fCons fa fr)) := by
  refine PA.imp (pa_cons ha hr hs) ?_
  rintro σ H Q ⟨M, ρ, os, ρ', R, hf, q⟩
  unfold fCons at hf
  cases e1 : fa ρ with
  | none => rw [e1] at hf; cases hf
  | some p1 =>
    obtain ⟨o1, ρ1⟩ := p1
    rw [e1] at hf
    simp only at hf
    cases e2 : fr ρ1 with
    | none => rw [e2] at hf; cases hf
    | some p2 =>
      obtain ⟨o2, ρ2⟩ := p2
      rw [e2] at hf
      cases hf
      exact ⟨M, ρ, o1, ρ1, R, e1, fun x M1 H1 s1 R1 k1 ok1 => ⟨M1, ρ1, o2, _, R1, e2, fun y M2 H2 s2 R2 k2 ok2 => q _ M2 H2 (fun z m => s1 z (s2 z m)) R2 (k1.trans (k2.mono s1)) (.cons (OpdOk.less s2 (OpdOk.keep R1.mm k2 ok1)) ok2)⟩⟩
theorem da_star {e : Expr} {es : List Expr} {fr : FA} {p : Pos} (ha : PE X e (TEd F fa)) (hr : PA X es (TAd F fr)) (hK : F.K = X.K) : PA X (.Starred e p :: es) (TAd F (fStar fa fr)) := by
  obtain ⟨K, T, M0, pa, H0⟩ := F
  cases hK
  refine PA.imp (StX.pa_star ha hr) ?_
  rintro σ H Q ⟨M, ρ, os, ρ', R, hf, q⟩
  unfold fStar at hf
  cases e1 : fa ρ with
  | none => rw [e1] at hf; cases hf
  | some p1 =>
    obtain ⟨o1, ρ1⟩ := p1
    rw [e1] at hf
    simp only at hf
    cases g1 : o1.get ρ1 with
    | none => rw [g1] at hf; cases hf
    | some d =>
      rw [g1] at hf
      simp only at hf
      cases g2 : itemsD d with
      | none => rw [g2] at hf; cases hf
      | some ds =>
        rw [g2] at hf
        simp only at hf
        cases e2 : fr ρ1 with
        | none => rw [e2] at hf; cases hf
        | some p2 =>
          obtain ⟨o2, ρ2⟩ := p2
          rw [e2] at hf
          cases hf
          refine ⟨M, ρ, o1, ρ1, R, e1, fun x M1 H1 s1 R1 k1 ok1 => ?_⟩
          have hd := R1.opd ok1 g1
          have fin : ∀ (p : Addr) (us : List V), x = V.ref p → (SqT X.K H1 p us ∨ SqL X.K H1 p us) → DvS X.K T M1 H1 ds us →
              ∃ p xs, x = V.ref p ∧ (SqT X.K H1 p xs ∨ SqL X.K H1 p xs) ∧ TAd ⟨X.K, T, M0, pa, H0⟩ fr σ H1 fun ys H2 => Q (xs ++ ys) H2 := fun p us ex hq ru =>
            ⟨p, us, ex, hq, M1, ρ1, o2, _, R1, e2, fun y M2 H2 s2 R2 k2 ok2 => q _ M2 H2 (fun z m => s1 z (s2 z m)) R2 (k1.trans (k2.mono s1)) (OpdsOk.append (OpdsOk.dats (DvS.less s2 _ (DvS.keep k2 R1.mm _ ru))) ok2)⟩
          cases d with
          | tup es =>
            cases g2
            obtain ⟨p, us, rfl, hp, ru⟩ := hd.tup
            exact fin p us rfl (.inl hp) ru
          | lst es =>
            cases g2
            obtain ⟨p, us, rfl, hp, ru⟩ := hd.lst
            exact fin p us rfl (.inr (SqL.of hp)) ru
          | _ => cases g2
theorem de_tup {es : List Expr} {f : FA} {k : Nat} (h : PA X es (TAd F f)) : PE X (.Tuple es k pos) (TEd F (fDisp .tup f)) := by
  refine PE.imp (pe_tup h) ?_
  rintro σ H Q ⟨M, ρ, o, ρ', R, hf, q⟩
  unfold fDisp at hf
  cases e1 : f ρ with
  | none => rw [e1] at hf; cases hf
  | some p1 =>
    obtain ⟨os, ρ1⟩ := p1
    rw [e1] at hf
    simp only at hf
    cases e2 : datAll os with
    | none => rw [e2] at hf; cases hf
    | some ds =>
      rw [e2] at hf
      simp only at hf
      split at hf
      · rename_i hz
        cases hf
        refine ⟨M, ρ, os, _, R, e1, fun vs M1 H1 s1 R1 k1 ok1 => ?_⟩
        have dv := OpdsOk.datAll ok1 e2
        exact ⟨by rw [← dv.length, ← sLn_eq]; exact hz, fun p hp => q _ M1 _ s1 (R1.ext (Ext.new hp)) (k1.trans (Ext.new hp).keep) (Dv.newTup dv hp (R1.fresh hp))⟩
      · cases hf
theorem de_lst {es : List Expr} {f : FA} (h : PA X es (TAd F f)) : PE X (.List es pos) (TEd F (fDisp .lst f)) := by
  refine PE.imp (pe_lst h) ?_
  rintro σ H Q ⟨M, ρ, o, ρ', R, hf, q⟩
  unfold fDisp at hf
  cases e1 : f ρ with
  | none => rw [e1] at hf; cases hf
  | some p1 =>
    obtain ⟨os, ρ1⟩ := p1
    rw [e1] at hf
    simp only at hf
    cases e2 : datAll os with
    | none => rw [e2] at hf; cases hf
    | some ds =>
      rw [e2] at hf
      simp only at hf
      split at hf
      · rename_i hz
        cases hf
        refine ⟨M, ρ, os, _, R, e1, fun vs M1 H1 s1 R1 k1 ok1 => ?_⟩
        have dv := OpdsOk.datAll ok1 e2
        exact ⟨by rw [← dv.length, ← sLn_eq]; exact hz, fun p hp => q _ M1 _ s1 (R1.ext (Ext.new hp)) (k1.trans (Ext.new hp).keep) (Dv.newLst dv hp (R1.fresh hp))⟩
      · cases hf
/-- the reading of a built-in's call -/
theorem blt_imp {g : List D → Option D} {f : FA} {σ : Sg} {H : Hp} {Q : VK} (h : TEd F (fBlt g f) σ H Q) : tCB (rCs F g) (TAd F f) σ H Q := by
  obtain ⟨M, ρ, o, ρ', R, hf, q⟩ := h
  unfold fBlt at hf
  cases e1 : f ρ with
  | none => rw [e1] at hf; cases hf
  | some p1 =>
    obtain ⟨os, ρ1⟩ := p1
    rw [e1] at hf
    simp only at hf
    cases e2 : getAll ρ1 os with
    | none => rw [e2] at hf; cases hf
    | some ds =>
      rw [e2] at hf
      simp only at hf
      cases e3 : g ds with
      | none => rw [e3] at hf; cases hf
      | some r =>
        rw [e3] at hf
        cases hf
        exact ⟨M, ρ, os, _, R, e1, fun vs M1 H1 s1 R1 k1 ok1 => ⟨M1, ds, r, R1.mh, OpdsOk.getAll R1 ok1 e2, e3, fun v H' ex dv => q v M1 H' s1 (R1.ext ex) (k1.trans ex.keep) dv⟩⟩
theorem dt_val {e : Expr} (h : PE X e (TEd F fa)) (he : ∀ whole, isTrue e X.env whole = (do let v ← whole; standAt e.pos; holding [v] (truthy v))) : PT X e (TTd F (fTest fa)) := by
  refine PT.imp (pt_val h he) ?_
  rintro σ H Q ⟨M, ρ, o, ρ', R, hf, q⟩
  unfold fTest at hf
  cases e1 : fa ρ with
  | none => rw [e1] at hf; cases hf
  | some p1 =>
    obtain ⟨o1, ρ1⟩ := p1
    rw [e1] at hf
    cases o1 with
    | slot _ => cases hf
    | dat d =>
      cases d with
      | bl k =>
        cases hf
        exact ⟨M, ρ, _, _, R, e1, fun v M1 H1 s1 R1 k1 ok1 => ⟨_, ok1, q M1 H1 s1 R1 k1⟩⟩
      | _ => cases hf
theorem dw_and1 {f : FT} (h : PT X a (TTd F f)) : PW X (.BoolOp .And [a] pos) (TTd F f) := pw_and1 h
theorem dw_or1 {f : FT} (h : PT X a (TTd F f)) : PW X (.BoolOp .Or [a] pos) (TTd F f) := pw_or1 h
theorem dw_and {rest : List Expr} {f g : FT} (h : PT X a (TTd F f)) (h' : PW X (.BoolOp .And (b :: rest) pos) (TTd F g)) : PW X (.BoolOp .And (a :: b :: rest) pos) (TTd F (fAnd f g)) := by
  refine PW.imp (pw_and h h') ?_
  rintro σ H Q ⟨M, ρ, o, ρ', R, hf, q⟩
  unfold fAnd at hf
  cases e1 : f ρ with
  | none => rw [e1] at hf; cases hf
  | some p1 =>
    obtain ⟨k, ρ1⟩ := p1
    rw [e1] at hf
    cases k with
    | true =>
      simp only at hf
      exact ⟨M, ρ, _, _, R, e1, fun M1 H1 s1 R1 k1 => by
        (try dsimp only); rw [if_pos rfl]
        exact ⟨M1, ρ1, _, _, R1, hf, fun M2 H2 s2 R2 k2 => q M2 H2 (fun z m => s1 z (s2 z m)) R2 (k1.trans (k2.mono s1))⟩⟩
    | false =>
      cases hf
      exact ⟨M, ρ, _, _, R, e1, fun M1 H1 s1 R1 k1 => by
        (try dsimp only); rw [if_neg Bool.false_ne_true]
        exact q M1 H1 s1 R1 k1⟩
theorem dw_or {rest : List Expr} {f g : FT} (h : PT X a (TTd F f)) (h' : PW X (.BoolOp .Or (b :: rest) pos) (TTd F g)) : PW X (.BoolOp .Or (a :: b :: rest) pos) (TTd F (fOr f g)) := by
  refine PW.imp (pw_or h h') ?_
  rintro σ H Q ⟨M, ρ, o, ρ', R, hf, q⟩
  unfold fOr at hf
  cases e1 : f ρ with
  | none => rw [e1] at hf; cases hf
  | some p1 =>
    obtain ⟨k, ρ1⟩ := p1
    rw [e1] at hf
    cases k with
    | true =>
      cases hf
      exact ⟨M, ρ, _, _, R, e1, fun M1 H1 s1 R1 k1 => by
        (try dsimp only); rw [if_pos rfl]
        exact q M1 H1 s1 R1 k1⟩
    | false =>
      simp only at hf
      exact ⟨M, ρ, _, _, R, e1, fun M1 H1 s1 R1 k1 => by
        (try dsimp only); rw [if_neg Bool.false_ne_true]
        exact ⟨M1, ρ1, _, _, R1, hf, fun M2 H2 s2 R2 k2 => q M2 H2 (fun z m => s1 z (s2 z m)) R2 (k1.trans (k2.mono s1))⟩⟩
theorem dt_not {f : FT} (h : PT X a (TTd F f)) : PT X (.UnaryOp .Not a pos) (TTd F (fNot f)) := by
  refine PT.imp (pt_not h) ?_
  rintro σ H Q ⟨M, ρ, o, ρ', R, hf, q⟩
  unfold fNot at hf
  cases e1 : f ρ with
  | none => rw [e1] at hf; cases hf
  | some p1 =>
    obtain ⟨k, ρ1⟩ := p1
    rw [e1] at hf
    cases hf
    exact ⟨M, ρ, _, _, R, e1, fun M1 H1 s1 R1 k1 => q M1 H1 s1 R1 k1⟩
theorem de_if {f : FT} (hc : PT X c (TTd F f)) (ha : PE X a (TEd F fa)) (hb : PE X b (TEd F fb)) : PE X (.IfExp c a b pos) (TEd F (fIf f fa fb)) := by
  refine PE.imp (pe_ifExp hc ha hb) ?_
  rintro σ H Q ⟨M, ρ, o, ρ', R, hf, q⟩
  unfold fIf at hf
  cases e1 : f ρ with
  | none => rw [e1] at hf; cases hf
  | some p1 =>
    obtain ⟨k, ρ1⟩ := p1
    rw [e1] at hf
    cases k with
    | true =>
      simp only at hf
      exact ⟨M, ρ, _, _, R, e1, fun M1 H1 s1 R1 k1 => by
        (try dsimp only); rw [if_pos rfl]
        exact ⟨M1, ρ1, _, _, R1, hf, fun v M2 H2 s2 R2 k2 ok => q v M2 H2 (fun z m => s1 z (s2 z m)) R2 (k1.trans (k2.mono s1)) ok⟩⟩
    | false =>
      simp only at hf
      exact ⟨M, ρ, _, _, R, e1, fun M1 H1 s1 R1 k1 => by
        (try dsimp only); rw [if_neg Bool.false_ne_true]
        exact ⟨M1, ρ1, _, _, R1, hf, fun v M2 H2 s2 R2 k2 ok => q v M2 H2 (fun z m => s1 z (s2 z m)) R2 (k1.trans (k2.mono s1)) ok⟩⟩
theorem de_one {op : BoolOp} (h : PE X a (TEd F fa)) : PE X (.BoolOp op [a] pos) (TEd F fa) := pe_one h
theorem de_and {rest : List Expr} (h : PE X a (TEd F fa)) (h' : PE X (.BoolOp .And (b :: rest) pos) (TEd F fb)) : PE X (.BoolOp .And (a :: b :: rest) pos) (TEd F (fAndV (fTest fa) fb)) := by
  refine PE.imp (pe_and h h') ?_
  rintro σ H Q ⟨M, ρ, o, ρ', R, hf, q⟩
  unfold fAndV fTest at hf
  cases e1 : fa ρ with
  | none => rw [e1] at hf; cases hf
  | some p1 =>
    obtain ⟨o1, ρ1⟩ := p1
    rw [e1] at hf
    cases o1 with
    | slot _ => cases hf
    | dat d =>
      cases d with
      | bl k =>
        cases k with
        | true =>
          simp only at hf
          exact ⟨M, ρ, _, _, R, e1, fun v M1 H1 s1 R1 k1 ok1 => ⟨true, ok1, by
            (try dsimp only); rw [if_pos rfl]
            exact ⟨M1, ρ1, _, _, R1, hf, fun v M2 H2 s2 R2 k2 ok => q v M2 H2 (fun z m => s1 z (s2 z m)) R2 (k1.trans (k2.mono s1)) ok⟩⟩⟩
        | false =>
          cases hf
          exact ⟨M, ρ, _, _, R, e1, fun v M1 H1 s1 R1 k1 ok1 => ⟨false, ok1, by
            (try dsimp only); rw [if_neg Bool.false_ne_true]
            exact q _ M1 H1 s1 R1 k1 rfl⟩⟩
      | _ => cases hf
theorem de_or {rest : List Expr} (h : PE X a (TEd F fa)) (h' : PE X (.BoolOp .Or (b :: rest) pos) (TEd F fb)) : PE X (.BoolOp .Or (a :: b :: rest) pos) (TEd F (fOrV (fTest fa) fb)) := by
  refine PE.imp (pe_or h h') ?_
  rintro σ H Q ⟨M, ρ, o, ρ', R, hf, q⟩
  unfold fOrV fTest at hf
  cases e1 : fa ρ with
  | none => rw [e1] at hf; cases hf
  | some p1 =>
    obtain ⟨o1, ρ1⟩ := p1
    rw [e1] at hf
    cases o1 with
    | slot _ => cases hf
    | dat d =>
      cases d with
      | bl k =>
        cases k with
        | true =>
          cases hf
          exact ⟨M, ρ, _, _, R, e1, fun v M1 H1 s1 R1 k1 ok1 => ⟨true, ok1, by
            (try dsimp only); rw [if_pos rfl]
            exact q _ M1 H1 s1 R1 k1 rfl⟩⟩
        | false =>
          simp only at hf
          exact ⟨M, ρ, _, _, R, e1, fun v M1 H1 s1 R1 k1 ok1 => ⟨false, ok1, by
            (try dsimp only); rw [if_neg Bool.false_ne_true]
            exact ⟨M1, ρ1, _, _, R1, hf, fun v M2 H2 s2 R2 k2 ok => q v M2 H2 (fun z m => s1 z (s2 z m)) R2 (k1.trans (k2.mono s1)) ok⟩⟩⟩
      | _ => cases hf
theorem de_not (h : PE X a (TEd F fa)) : PE X (.UnaryOp .Not a pos) (TEd F (fBool (fNot (fTest fa)))) := by
  refine PE.imp (pe_not h) ?_
  rintro σ H Q ⟨M, ρ, o, ρ', R, hf, q⟩
  unfold fBool fNot fTest at hf
  cases e1 : fa ρ with
  | none => rw [e1] at hf; cases hf
  | some p1 =>
    obtain ⟨o1, ρ1⟩ := p1
    rw [e1] at hf
    cases o1 with
    | slot _ => cases hf
    | dat d =>
      cases d with
      | bl k =>
        cases hf
        exact ⟨M, ρ, _, _, R, e1, fun v M1 H1 s1 R1 k1 ok1 => ⟨k, ok1, q _ M1 H1 s1 R1 k1 rfl⟩⟩
      | _ => cases hf
theorem de_ix (hK : F.K = X.K) (ha : PE X a (TEd F fa)) (hb : PE X b (TEd F fb)) (hs : PlainIx b) : PE X (.Subscript a b pos) (TEd F (fBin dIdx fa fb)) := by
  refine PE.imp (pe_ix (ixd hK) ha hb hs) ?_
  rintro σ H Q ⟨M, ρ, o, ρ', R, hf, q⟩
  unfold fBin at hf
  cases e1 : fa ρ with
  | none => rw [e1] at hf; cases hf
  | some p1 =>
    obtain ⟨o1, ρ1⟩ := p1
    rw [e1] at hf
    simp only at hf
    cases e2 : fb ρ1 with
    | none => rw [e2] at hf; cases hf
    | some p2 =>
      obtain ⟨o2, ρ2⟩ := p2
      rw [e2] at hf
      simp only at hf
      split at hf
      · rename_i d e g1 g2
        split at hf
        · rename_i r hr
          cases hf
          refine ⟨M, ρ, o1, ρ1, R, e1, fun x M1 H1 s1 R1 k1 ok1 => ⟨M1, ρ1, o2, _, R1, e2, fun y M2 H2 s2 R2 k2 ok2 => ?_⟩⟩
          exact ⟨M2, d, e, r, R2.mh, R2.opd (OpdOk.less s2 (OpdOk.keep R1.mm k2 ok1)) g1, R2.opd ok2 g2, hr, fun v H' ex dv => q v M2 H' (fun z m => s1 z (s2 z m)) (R2.ext ex) (k1.trans ((k2.mono s1).trans ex.keep)) dv⟩
        · cases hf
      · cases hf
theorem PO.imp {e : Option Expr} {t t' : TO} (h : PO X e t) (g : ∀ σ H Q, t' σ H Q → t σ H Q) : PO X e t' := ⟨fun pins s σ H Q I hw => h.run pins s σ H Q I (g _ _ _ hw)⟩
theorem do_none : PO X none (TOd F fNoPart) := by
  refine PO.imp po_none ?_
  rintro σ H Q ⟨M, ρ, o, ρ', R, hf, q⟩
  cases hf
  exact q M H (fun _ z => z) R Keep.rfl
theorem do_some (h : PE X a (TEd F fa)) : PO X (some a) (TOd F (fPart fa)) := by
  refine PO.imp (po_some h) ?_
  rintro σ H Q ⟨M, ρ, o, ρ', R, hf, q⟩
  unfold fPart at hf
  cases e1 : fa ρ with
  | none => rw [e1] at hf; cases hf
  | some p1 =>
    obtain ⟨o1, ρ1⟩ := p1
    rw [e1] at hf
    cases o1 with
    | slot _ => cases hf
    | dat d =>
      cases d with
      | int i =>
        cases hf
        exact ⟨M, ρ, _, _, R, e1, fun v M1 H1 s1 R1 k1 ok1 => ⟨i, ok1, q M1 H1 s1 R1 k1⟩⟩
      | _ => cases hf
theorem de_slc {lo hi : Option Expr} {fl fh : FO} {p2 : Pos} (hK : F.K = X.K) (ha : PE X a (TEd F fa)) (hl : PO X lo (TOd F fl)) (hh : PO X hi (TOd F fh)) : PE X (.Subscript a (.Slice lo hi none p2) pos) (TEd F (fSlc fa fl fh)) := by
  refine PE.imp (pe_slice (sld hK) ha hl hh) ?_
  rintro σ H Q ⟨M, ρ, o, ρ', R, hf, q⟩
  unfold fSlc at hf
  cases e1 : fa ρ with
  | none => rw [e1] at hf; cases hf
  | some p1 =>
    obtain ⟨o1, ρ1⟩ := p1
    rw [e1] at hf
    simp only at hf
    cases e2 : fl ρ1 with
    | none => rw [e2] at hf; cases hf
    | some p2 =>
      obtain ⟨l, ρ2⟩ := p2
      rw [e2] at hf
      simp only at hf
      cases e3 : fh ρ2 with
      | none => rw [e3] at hf; cases hf
      | some p3 =>
        obtain ⟨u, ρ3⟩ := p3
        rw [e3] at hf
        simp only at hf
        cases g1 : o1.get ρ3 with
        | none => rw [g1] at hf; cases hf
        | some d =>
          rw [g1] at hf
          simp only at hf
          split at hf
          · rename_i r hr
            cases hf
            refine ⟨M, ρ, o1, ρ1, R, e1, fun x M1 H1 s1 R1 k1 ok1 => ⟨M1, ρ1, l, ρ2, R1, e2, fun M2 H2 s2 R2 k2 => ⟨M2, ρ2, u, _, R2, e3, fun M3 H3 s3 R3 k3 => ?_⟩⟩⟩
            exact ⟨M3, d, r, R3.mh, R3.opd (OpdOk.less (fun z m => s2 z (s3 z m)) (OpdOk.keep R1.mm (k2.trans (k3.mono s2)) ok1)) g1, hr, fun v H' ex dv => q v M3 H' (fun z m => s1 z (s2 z (s3 z m))) (R3.ext ex) (k1.trans ((k2.mono s1).trans ((k3.mono fun z m => s1 z (s2 z m)).trans ex.keep))) dv⟩
          · cases hf
end
end SC

set_option Elab.async false
set_option linter.all false
set_option maxRecDepth 100000
namespace PySem
open Sem (wp)
open AutoSeq1 (wpAny_loadPart')
theorem sc_enumerate_newT (l : Addr) (items : Array Value) (n : Nat) (dct : Option Addr) (sl : Array (Option Value)) :
    Meets (Builtin.«enumerate.__new__» ⟨[.type "enumerate", .ref l], []⟩) (fun _ R s => s.heap.get? l = some { cls := .type "tuple", dict := dct, data := .seq items n, slots := sl } ∧
      R (.ok (.ret (.ref (s.heap.push { cls := .type "tuple_iterator", data := .fields #[.ref l, .int 0 0] }).objs.size)))
        { s with heap := (s.heap.push { cls := .type "tuple_iterator", data := .fields #[.ref l, .int 0 0] }).push { cls := .type "enumerate", data := .fields #[.none, .bool false, .ref s.heap.objs.size, rawInt 0, .none, .none] } }) :=
  .of_wp fun prog w A R s h => by
    obtain ⟨hp, g, d, tk, os⟩ := s; obtain ⟨hl, h⟩ := h
    have hsub := sub_enumerate
    have hL : Heap.IsTuple (Shared.heap ⟨hp, g, d, tk, os⟩) l items := ⟨_, hl, rfl, n, rfl⟩
    wp_walk using wpAny_loadPart' hl
    refine wpAny_stack_any fun st => wpAny_pure ?_
    split
    · rename_i c _ _ _ _ _
      cases (c == Value.type "enumerate")
      · wp_walk using wpAny_loadPart' hl, wpAny_pyIter_tuple hL
        exact ⟨_, rfl, h⟩
      · wp_walk using wpAny_loadPart' hl, wpAny_pyIter_tuple hL
        exact ⟨_, rfl, h⟩
    · wp_walk using wpAny_loadPart' hl, wpAny_pyIter_tuple hL
      exact ⟨_, rfl, h⟩
section
variable {prog : Program} {w : World} {A : Around} {E : Value → Shared → Prop} {s : Shared}
theorem sc_call_enumerate_tuple {l : Addr} {items : Array Value} {Q : Value → Shared → Prop} (hL : s.heap.IsTuple l items)
    (h : ∀ h', IsEnum h' (s.heap.objs.size + 1) s.heap.objs.size 0 .none → h'.IsTupleIter s.heap.objs.size l 0 → h'.objs.size = s.heap.objs.size + 2 →
      (∀ b o, s.heap.get? b = some o → h'.get? b = some o) → Q (.ref (s.heap.objs.size + 1)) { s with heap := h' }) :
    wpAny (model prog w) A (call (.type "enumerate") [.ref l]) Q E s := by
  obtain ⟨⟨c, dct, dt, sl⟩, hl, hc, n, hd⟩ := hL
  replace hc : c = .type "tuple" := hc
  replace hd : dt = .seq items n := hd
  subst hc hd
  refine callType_new F.called_enumerate (by decide) (F.typeCall_enumerate_1 _) (F.newCall_enumerate_1 _) (fun obj => F.args_object_init_2 obj _) F.entry_enumerate_new
    (sc_enumerate_newT l items n dct sl) ⟨hl, ?_⟩
  have hz : (s.heap.push { cls := .type "tuple_iterator", data := .fields #[.ref l, .int 0 0] }).objs.size = s.heap.objs.size + 1 := Heap.size_push ..
  show _ ∧ _
  rw [hz]
  have he : IsEnum ((s.heap.push { cls := .type "tuple_iterator", data := .fields #[.ref l, .int 0 0] }).push
      { cls := .type "enumerate", data := .fields #[.none, .bool false, .ref s.heap.objs.size, rawInt 0, .none, .none] }) (s.heap.objs.size + 1) s.heap.objs.size 0 .none := by
    have := Heap.get?_push_size (s.heap.push { cls := .type "tuple_iterator", data := .fields #[.ref l, .int 0 0] })
      (o := { cls := .type "enumerate", data := .fields #[.none, .bool false, .ref s.heap.objs.size, rawInt 0, .none, .none] }) rfl
    rw [hz] at this; exact this
  refine ⟨⟨_, he, rfl⟩, h _ he ⟨_, Heap.get?_push_of_some _ (Heap.get?_push_size _ rfl), rfl, rfl⟩ (by rw [Heap.size_push, hz]) fun b o x => Heap.get?_push_of_some _ (Heap.get?_push_of_some _ x)⟩
end
end PySem
namespace SC
open PySem PySem.Spec PyProof.Rows L2

/-! ### enumerate of a tuple, zip of mixed kinds -/
def IteT (K : PySem.W.Frag) (a : Addr) : It :=
  ⟨fun i H => ∃ (xs : List V) (x : V), SqT K H a xs ∧ xs[i]? = some x, fun i H v H' => ∃ T x, v = .ref T ∧ H T = none ∧ H' = upd H T (.tup [.int (i : Nat), x]) ∧ ∀ xs, SqT K H a xs → xs[i]? = some x, fun i H => ∃ xs : List V, SqT K H a xs ∧ i = xs.length⟩
theorem turn_enumT {P : Program} {w : World} {K : PySem.W.Frag} {elts : List Expr} {kk : Nat} {tpos : Pos} (a e it : Addr) (hne : a ≠ it) (hae : e ≠ a) :
    Turn P w K (.Tuple elts kk tpos) (IteT K a) [e, it] e (fun i h => (∃ old, IsEnum h e it ((i : Nat) : Int) old) ∧ h.IsTupleIter it a i ∧ e ≠ it) where
  mem := by simp
  obj := fun i h st b hb => by
    obtain ⟨⟨old, he⟩, ⟨o, ho, hc, hd⟩, _⟩ := st
    have e' : b = e ∨ b = it := by simpa using hb
    rcases e' with z | z
    · rw [z]; exact ⟨_, he, fun v q => nomatch q⟩
    · rw [z]; exact ⟨o, ho, fun v q => by rw [hd] at q; cases q⟩
  keep := fun i h h' st k => let ⟨⟨old, he⟩, hi, hne⟩ := st; ⟨⟨old, k e (by simp) _ he⟩, hi.at fun o q => k it (by simp) o q, hne⟩
  item := by
    intro X hP hw hK hc i pins s σ H E I hf st hg
    subst hP hw hK
    obtain ⟨⟨old, he⟩, hit, hei⟩ := st
    obtain ⟨xs, x, hq, hx⟩ := hg
    obtain ⟨its, rv, p, hz⟩ := I.tuple hq
    obtain ⟨u, hu, ru⟩ := rv.get hx
    have hel : e < s.heap.objs.size := Heap.lt_size he
    have hil : it < s.heap.objs.size := by obtain ⟨_, q, _⟩ := hit; exact Heap.lt_size q
    have hlt : i < its.toArray.size := by
      rw [List.size_toArray]
      exact (List.getElem?_eq_some_iff.mp hu).1
    refine wpAny_pyNext_enum_itemC (Draws.tuple (A := X.A.in1) (I.ok.hd hc) it a hne its.toArray) he ⟨hit, (show s.heap.IsTuple a its.toArray from p)⟩ hlt hei (by simp [hei, hae]) fun y h' tk hy ho hst' hT hsz hk => ?_
    have ey : y = u := by
      have : its[i]? = some y := by simpa using hy
      rw [hu] at this; exact (Option.some.inj this).symm
    subst ey
    obtain ⟨hit', _⟩ := hst'
    refine ⟨_, rfl, wpAny_letOwnedTupleGo_enum (s := { s with heap := h', toks := tk + 1 }) ho fun h'' he' sb => ?_⟩
    have hT2 : h''.get? s.heap.objs.size = some { cls := .type "tuple", data := .seq #[.int i tk, y] } := (sb.2 _ (Nat.ne_of_gt hel)).trans hT
    have new : ObjOk X.prog X.w (upd H s.heap.objs.size (.tup [.int (i : Nat), x])) h'' s.heap.objs.size (.tup [.int (i : Nat), x]) :=
      ⟨by show 2 ≤ sizeLine; decide, [.int i tk, y], .cons ⟨_, rfl⟩ (.cons ru .nil), ⟨_, hT2, rfl, _, rfl⟩⟩
    have I1 : Inv X pins σ (upd H s.heap.objs.size (.tup [.int (i : Nat), x])) { s with heap := h'', toks := tk + 1 } :=
      I.turnedNew (ch := [e, it]) (fun b ob hb q => (sb.2 b (fun z => hb (by simp [z]))).trans (hk b ob (fun z => hb (by simp [z])) (fun z => hb (by simp [z])) q)) hf (Nat.le_refl _) new
    refine ⟨.ref s.heap.objs.size, _, I1, rfl, ⟨_, x, rfl, I.hok.fresh (Nat.le_refl _), rfl, fun ys hy => by rw [I.tuple_inj hy hq]; exact hx⟩, ⟨⟨y, ?_⟩, hit'.at fun o q => (sb.2 it (Ne.symm hei)).trans q, hei⟩, fun b hb => ?_⟩
    · have e1 : ((i + 1 : Nat) : Int) = (i : Int) + 1 := by omega
      rw [e1]; exact he'
    · have hb' : b < s.heap.objs.size := by
        have e' : b = e ∨ b = it := by simpa using hb
        rcases e' with z | z
        · rw [z]; exact hel
        · rw [z]; exact hil
      rw [upd_ne (Nat.ne_of_lt hb')]
      exact (hf b hb).1
  done := by
    intro X hP hw hK hc i pins s σ H E I hf st hg
    subst hP hw hK
    obtain ⟨⟨old, he⟩, hit, hei⟩ := st
    obtain ⟨xs, hq, hx⟩ := hg
    obtain ⟨its, rv, p, hz⟩ := I.tuple hq
    obtain ⟨f0, f1, f2, f3, f4, f5⟩ := hf it (by simp)
    have hl := rv.length
    have D := Draws.tuple (prog := X.prog) (w := X.w) (A := X.A.in1) (I.ok.hd hc) it a hne its.toArray
    have en : i = its.toArray.size := by rw [List.size_toArray, ← hl]; exact hx
    have hst : (fun (i : Nat) (h : Heap) => h.IsTupleIter it a i ∧ h.IsTuple a its.toArray) its.toArray.size s.heap := by
      rw [← en]; exact ⟨hit, p⟩
    exact wpAny_pyNext_enum_endD D he hst fun h' eb => ⟨rfl, I.turned (t' := s.toks) (fun b o hb q => eb b o hb q) f0 f1 f3 f4 f5⟩
  self := fun A i s Q E st h => let ⟨⟨_, he⟩, _⟩ := st; wpAny_pyIter_enum he h
end SC

set_option Elab.async false
set_option linter.all false
set_option maxRecDepth 100000
namespace SC
open PySem PySem.Spec PyProof.Rows L2

def iEnumT (K : PySem.W.Frag) (ta : TA) : TI := fun σ H R => ta σ H fun vs H1 => ∃ a xs, vs = [.ref a] ∧ SqT K H1 a xs ∧ R (IteT K a) H1
theorem pi_enumT {X : Cx} {e : Expr} {ta : TA} {p pos tpos : Pos} {elts : List Expr} {kk : Nat} (hg : Gl X "enumerate") (hm : X.mg "enumerate" = none) (ha : PA X [e] ta) (hs : starEach [e] X.env = [(false, eval e X.env)]) :
    PI X (.Tuple elts kk tpos) (.Call (.Name "enumerate" p) [e] [] pos) (iEnumT X.K ta) := by
  refine ⟨fun pins s σ H R I h => ?_⟩
  refine Call_ (ld_blt I hg hm boot_enumerate (PyProof.Rows.callWith_type1 (thn (ha.run pos pins s σ H _ I h) fun us s1 ⟨vs, H1, I1, r1, q1⟩ => ?_) hs rfl))
  obtain ⟨a, xs, ex, hq, q⟩ := q1
  subst ex
  cases r1 with
  | cons r rr =>
    cases rr
    cases r
    obtain ⟨its, rv, p', hz⟩ := I1.tuple hq
    refine sc_call_enumerate_tuple (show s1.heap.IsTuple a its.toArray from p') fun h' he hit hsz hk => wpAny_pyIter_enum he ?_
    have I2 : Inv X pins σ H1 { s1 with heap := h' } := I1.kept (t' := s1.toks) hk
    have la : a < s1.heap.objs.size := p'.lt
    refine ⟨s1.heap.objs.size + 1, [s1.heap.objs.size + 1, s1.heap.objs.size], _, _, H1, rfl, I2, turn_enumT a (s1.heap.objs.size + 1) s1.heap.objs.size (Nat.ne_of_lt la) (Nat.ne_of_gt (Nat.lt_succ_of_lt la)), ⟨⟨.none, he⟩, hit, Nat.succ_ne_self _⟩, fun b hb => ?_, q⟩
    have e' : b = s1.heap.objs.size + 1 ∨ b = s1.heap.objs.size := by simpa using hb
    have hle : s1.heap.objs.size ≤ b := by
      rcases e' with z | z
      · rw [z]; exact Nat.le_add_right _ _
      · rw [z]; exact Nat.le_refl _
    exact I1.fpOk hle (I1.hok.fresh hle)

/-! a list (true) or a tuple (false) -/
def SqB (K : PySem.W.Frag) (b : Bool) (H : Hp) (a : Addr) (xs : List V) : Prop := match b with
  | true => SqL K H a xs
  | false => SqT K H a xs
def IterB (b : Bool) (h : Heap) (it a : Addr) (i : Nat) : Prop := match b with
  | true => h.IsListIter it a i
  | false => h.IsTupleIter it a i
def SeqB (b : Bool) (h : Heap) (a : Addr) (items : Array Value) : Prop := match b with
  | true => h.IsList a items
  | false => h.IsTuple a items
theorem IterB.lt {b : Bool} {h : Heap} {it a : Addr} {i : Nat} (x : IterB b h it a i) : ∃ o, h.get? it = some o ∧ ∀ v, o.data ≠ .cell v := by
  cases b with
  | true => obtain ⟨o, e, _, d⟩ := (show h.IsListIter it a i from x); exact ⟨o, e, fun v q => by rw [d] at q; cases q⟩
  | false => obtain ⟨o, e, _, d⟩ := (show h.IsTupleIter it a i from x); exact ⟨o, e, fun v q => by rw [d] at q; cases q⟩
theorem IterB.at {b : Bool} {h h' : Heap} {it a : Addr} {i : Nat} (x : IterB b h it a i) (k : ∀ o, h.get? it = some o → h'.get? it = some o) : IterB b h' it a i := by
  cases b with
  | true => exact (show h.IsListIter it a i from x).at k
  | false => exact (show h.IsTupleIter it a i from x).at k
theorem drawsB {prog : Program} {w : World} {A : Around} (hh : A.handled = none) (b : Bool) (it a : Addr) (hne : a ≠ it) (items : Array Value) :
    Draws prog w A it [it, a] items.size (fun i v => items[i]? = some v) (fun i h => IterB b h it a i ∧ SeqB b h a items) := by
  cases b with
  | true => exact Draws.list hh it a hne items
  | false => exact Draws.tuple hh it a hne items
section
variable {X : Cx} {pins : List (Addr × Obj)} {σ : L2.St} {H : Hp} {s : Shared} {a : Addr} {xs ys : List V}
theorem seqB_of {b : Bool} (I : Inv X pins σ H s) (h : SqB X.K b H a xs) : ∃ its : List Value, Vals xs its ∧ SeqB b s.heap a its.toArray ∧ xs.length ≤ sizeLine ∧ a < s.heap.objs.size := by
  cases b with
  | true => obtain ⟨its, r, p, z⟩ := I.list h; exact ⟨its, r, p.isList, z, p.lt⟩
  | false => obtain ⟨its, r, p, z⟩ := I.tuple h; exact ⟨its, r, p, z, p.lt⟩
theorem seqB_inj {b : Bool} (I : Inv X pins σ H s) (h : SqB X.K b H a xs) (h' : SqB X.K b H a ys) : xs = ys := by
  cases b with
  | true => exact I.list_inj h h'
  | false => exact I.tuple_inj h h'
end
def ItzB (K : PySem.W.Frag) (b1 b2 : Bool) (a b : Addr) : It :=
  ⟨fun i H => ∃ (xs ys : List V) (x y : V), SqB K b1 H a xs ∧ SqB K b2 H b ys ∧ xs[i]? = some x ∧ ys[i]? = some y,
    fun i H v H' => ∃ T x y, v = .ref T ∧ H T = none ∧ H' = upd H T (.tup [x, y]) ∧ (∀ xs, SqB K b1 H a xs → xs[i]? = some x) ∧ ∀ ys, SqB K b2 H b ys → ys[i]? = some y,
    fun i H => ∃ xs ys : List V, SqB K b1 H a xs ∧ SqB K b2 H b ys ∧ i ≤ xs.length ∧ i ≤ ys.length ∧ (i = xs.length ∨ i = ys.length)⟩
theorem turn_zipB {P : Program} {w : World} {K : PySem.W.Frag} {elts : List Expr} {kk : Nat} {tpos : Pos} {a b z TI TO i1 i2 : Addr} (b1 b2 : Bool) (S : ZipSep2 z TI TO i1 i2 [i1, a] [i2, b]) (ha : a ≠ i1) (hb : b ≠ i2) :
    Turn P w K (.Tuple elts kk tpos) (ItzB K b1 b2 a b) [z, TI, TO, i1, i2] z (fun i h => IsZip h z TI TO .none ∧ IsTupOf2 h TI (.ref i1) (.ref i2) ∧ (∃ x y, IsTupOf2 h TO x y) ∧ IterB b1 h i1 a i ∧ IterB b2 h i2 b i) where
  mem := by simp
  obj := fun i h st c hc => by
    obtain ⟨hz, hTI, ⟨x, y, hTO⟩, h1, h2⟩ := st
    have e' : c = z ∨ c = TI ∨ c = TO ∨ c = i1 ∨ c = i2 := by simpa using hc
    rcases e' with q | q | q | q | q
    · rw [q]; exact ⟨_, hz, fun v q => nomatch q⟩
    · rw [q]; exact ⟨_, hTI, fun v q => nomatch q⟩
    · rw [q]; exact ⟨_, hTO, fun v q => nomatch q⟩
    · rw [q]; exact h1.lt
    · rw [q]; exact h2.lt
  keep := fun i h h' st k => by
    obtain ⟨hz, hTI, ⟨x, y, hTO⟩, h1, h2⟩ := st
    exact ⟨k z (by simp) _ hz, k TI (by simp) _ hTI, ⟨x, y, k TO (by simp) _ hTO⟩, h1.at fun o q => k i1 (by simp) o q, h2.at fun o q => k i2 (by simp) o q⟩
  item := by
    intro X hP hw hK hc i pins s σ H E I hf st hg
    subst hP hw hK
    obtain ⟨hz, hTI, ⟨x0, y0, hTO⟩, h1, h2⟩ := st
    obtain ⟨xs, ys, x, y, hqx, hqy, hx, hy⟩ := hg
    obtain ⟨its, rv, p, _⟩ := seqB_of I hqx
    obtain ⟨its2, rv2, p2, _⟩ := seqB_of I hqy
    obtain ⟨u, hu, ru⟩ := rv.get hx
    obtain ⟨u2, hu2, ru2⟩ := rv2.get hy
    have hzl : z < s.heap.objs.size := Heap.lt_size hz
    have l1 : i < its.toArray.size := by rw [List.size_toArray]; exact (List.getElem?_eq_some_iff.mp hu).1
    have l2 : i < its2.toArray.size := by rw [List.size_toArray]; exact (List.getElem?_eq_some_iff.mp hu2).1
    refine wpAny_pyNext_zipD2_item S (drawsB (A := X.A.in1) (I.ok.hd hc) b1 i1 a ha its.toArray) (drawsB (A := X.A.in1) (I.ok.hd hc) b2 i2 b hb its2.toArray) hz hTI hTO ⟨h1, p⟩ ⟨h2, p2⟩ l1 l2 fun v1 v2 h' tk e1 e2 z' TO' st1 st2 hT hsz hk => ?_
    have ev1 : v1 = u := by
      have : its[i]? = some v1 := by simpa using e1
      rw [hu] at this; exact (Option.some.inj this).symm
    have ev2 : v2 = u2 := by
      have : its2[i]? = some v2 := by simpa using e2
      rw [hu2] at this; exact (Option.some.inj this).symm
    subst ev1 ev2
    obtain ⟨h1', _⟩ := st1
    obtain ⟨h2', _⟩ := st2
    refine ⟨_, rfl, wpAny_letOwnedTupleGo_zip (s := { s with heap := h', toks := tk }) z' fun h'' z'' sb => ?_⟩
    have hT2 : h''.get? s.heap.objs.size = some { cls := .type "tuple", data := .seq #[v1, v2] } := (sb.2 _ (Nat.ne_of_gt hzl)).trans hT
    have new : ObjOk X.prog X.w (upd H s.heap.objs.size (.tup [x, y])) h'' s.heap.objs.size (.tup [x, y]) :=
      ⟨by show 2 ≤ sizeLine; decide, [v1, v2], .cons ru (.cons ru2 .nil), ⟨_, hT2, rfl, _, rfl⟩⟩
    have I1 : Inv X pins σ (upd H s.heap.objs.size (.tup [x, y])) { s with heap := h'', toks := tk } :=
      I.turnedNew (t' := tk) (ch := [z, TI, TO, i1, i2]) (fun c o hb q => (sb.2 c (fun q' => hb (by simp [q']))).trans (hk c o (fun q' => hb (by simp [q'])) (fun q' => hb (by simp [q'])) (fun q' => hb (by simp [q'])) (fun q' => hb (by simp [q'])) q)) hf (Nat.le_refl _) new
    refine ⟨.ref s.heap.objs.size, _, I1, rfl, ⟨_, x, y, rfl, I.hok.fresh (Nat.le_refl _), rfl, fun l hl => by rw [seqB_inj I hl hqx]; exact hx, fun l hl => by rw [seqB_inj I hl hqy]; exact hy⟩, ⟨z'', ?_, ⟨v1, v2, ?_⟩, ?_, ?_⟩, fun c hcm => ?_⟩
    · exact (sb.2 _ S.TIz).trans (hk _ _ S.TIz S.TITO S.TIi1 S.TIi2 hTI)
    · exact (sb.2 _ S.TOz).trans TO'
    · exact h1'.at fun o q => (sb.2 _ (Ne.symm S.zi1)).trans q
    · exact h2'.at fun o q => (sb.2 _ (Ne.symm S.zi2)).trans q
    · have hlt : c < s.heap.objs.size := by
        have e' : c = z ∨ c = TI ∨ c = TO ∨ c = i1 ∨ c = i2 := by simpa using hcm
        rcases e' with q | q | q | q | q
        · rw [q]; exact hzl
        · rw [q]; exact Heap.lt_size hTI
        · rw [q]; exact Heap.lt_size hTO
        · rw [q]; obtain ⟨_, e1, _⟩ := h1.lt; exact Heap.lt_size e1
        · rw [q]; obtain ⟨_, e2, _⟩ := h2.lt; exact Heap.lt_size e2
      rw [upd_ne (Nat.ne_of_lt hlt)]
      exact (hf c hcm).1
  done := by
    intro X hP hw hK hc i pins s σ H E I hf st hg
    subst hP hw hK
    obtain ⟨hz, hTI, ⟨x0, y0, hTO⟩, h1, h2⟩ := st
    obtain ⟨xs, ys, hqx, hqy, hl1, hl2, hend⟩ := hg
    obtain ⟨its, rv, p, _⟩ := seqB_of I hqx
    obtain ⟨its2, rv2, p2, _⟩ := seqB_of I hqy
    have l1 := rv.length
    have l2 := rv2.length
    have z1 : its.toArray.size = its.length := List.size_toArray
    have z2 : its2.toArray.size = its2.length := List.size_toArray
    exact wpAny_pyNext_zipD2_end S (drawsB (A := X.A.in1) (I.ok.hd hc) b1 i1 a ha its.toArray) (drawsB (A := X.A.in1) (I.ok.hd hc) b2 i2 b hb its2.toArray) hz hTI hTO ⟨h1, p⟩ ⟨h2, p2⟩ (by omega) (by omega) (by omega) fun h' tk hk => ⟨rfl, I.turnedL (t' := tk) (ch := [z, TI, TO, i1, i2]) (fun c o hb q =>
      hk c o (fun q' => hb (by simp [q'])) (fun q' => hb (by simp [q'])) (fun q' => hb (by simp [q'])) (fun q' => hb (by simp [q'])) q) hf⟩
  self := fun A i s Q E st h => wpAny_pyIter_zip st.1 h

def iZipB (K : PySem.W.Frag) (ta : TA) : TI := fun σ H R => ta σ H fun vs H1 => ∃ a b xs ys b1 b2, vs = [.ref a, .ref b] ∧ SqB K b1 H1 a xs ∧ SqB K b2 H1 b ys ∧ R (ItzB K b1 b2 a b) H1
theorem beginsB (b : Bool) (a : Addr) (items : Array Value) : ∃ o, Begins (.ref a) o (fun h => SeqB b h a items) ∧ ∀ h it, h.get? it = some o → IterB b h it a 0 := by
  cases b with
  | true => exact ⟨_, begins_list a items, fun h it e => ⟨_, e, rfl, rfl⟩⟩
  | false => exact ⟨_, begins_tuple a items, fun h it e => ⟨_, e, rfl, rfl⟩⟩
theorem pi_zipB {X : Cx} {e e2 : Expr} {ta : TA} {p pos tpos : Pos} {elts : List Expr} {kk : Nat} (hg : Gl X "zip") (hm : X.mg "zip" = none) (ha : PA X [e, e2] ta)
    (hs : starEach [e, e2] X.env = (false, eval e X.env) :: starEach [e2] X.env) (hpl : (backTo pos (starEach [e2] X.env)).any (·.1) = false) :
    PI X (.Tuple elts kk tpos) (.Call (.Name "zip" p) [e, e2] [] pos) (iZipB X.K ta) := by
  refine ⟨fun pins s σ H R I h => ?_⟩
  refine Call_ (ld_blt I hg hm PyProof.Rows.boot_zip (PyProof.Rows.callWith_type1 (thn (ha.run pos pins s σ H _ I h) fun us s1 ⟨vs, H1, I1, r1, q1⟩ => ?_) hs hpl))
  obtain ⟨a, b, xs, ys, b1, b2, ex, hqx, hqy, q⟩ := q1
  subst ex
  cases r1 with
  | cons r rr =>
    cases rr with
    | cons r' rr =>
      cases rr
      cases r
      cases r'
      obtain ⟨its, rv, p1, _, la⟩ := seqB_of I1 hqx
      obtain ⟨its2, rv2, p2, _, lb⟩ := seqB_of I1 hqy
      obtain ⟨o1, B1, i1⟩ := beginsB b1 a its.toArray
      obtain ⟨o2, B2, i2⟩ := beginsB b2 b its2.toArray
      refine zip_begins2 B1 B2 p1 p2 fun h' hz hTI hTO h1 h2 hsz hk => wpAny_pyIter_zip hz ?_
      have I2 : Inv X pins σ H1 { s1 with heap := h' } := I1.kept (t' := s1.toks) hk
      refine ⟨s1.heap.objs.size + 4, [s1.heap.objs.size + 4, s1.heap.objs.size + 2, s1.heap.objs.size + 3, s1.heap.objs.size, s1.heap.objs.size + 1], _, _, H1, rfl, I2,
        turn_zipB b1 b2 (zip_sep2 (fp1 := [a]) (fp2 := [b]) (fun c hc => by rw [List.mem_singleton.mp hc]; exact la) (fun c hc => by rw [List.mem_singleton.mp hc]; exact lb)) (Nat.ne_of_lt la) (Nat.ne_of_lt (Nat.lt_succ_of_lt lb)), ⟨hz, hTI, ⟨_, _, hTO⟩, i1 _ _ h1, i2 _ _ h2⟩, fun c hcm => ?_, q⟩
      have e' : c = s1.heap.objs.size + 4 ∨ c = s1.heap.objs.size + 2 ∨ c = s1.heap.objs.size + 3 ∨ c = s1.heap.objs.size ∨ c = s1.heap.objs.size + 1 := by simpa using hcm
      have hle : s1.heap.objs.size ≤ c := by
        rcases e' with z | z | z | z | z
        · rw [z]; exact Nat.le_add_right _ _
        · rw [z]; exact Nat.le_add_right _ _
        · rw [z]; exact Nat.le_add_right _ _
        · rw [z]; exact Nat.le_refl _
        · rw [z]; exact Nat.le_add_right _ _
      exact I1.fpOk hle (I1.hok.fresh hle)
end SC

set_option Elab.async false
set_option linter.all false
set_option maxRecDepth 100000
namespace SC
open PySem PySem.Spec PyProof.Rows L2

/-! ### decidable equality of data -/
mutual
def D.beq : D → D → Bool
  | .non, .non => true
  | .bl a, .bl b => a == b
  | .int a, .int b => a == b
  | .str a, .str b => a == b
  | .tup a, .tup b => D.beqs a b
  | .lst a, .lst b => D.beqs a b
  | .ins c a, .ins d b => c == d && D.beqs a b
  | .dic k a, .dic l b => decide (k = l) && D.beqs a b
  | .scr a, .scr b => a == b
  | .cl a, .cl b => a == b
  | _, _ => false
def D.beqs : List D → List D → Bool
  | [], [] => true
  | a :: as, b :: bs => D.beq a b && D.beqs as bs
  | _, _ => false
end
mutual
theorem D.beq_refl : ∀ d : D, D.beq d d = true
  | .non => rfl
  | .bl _ => by simp [D.beq]
  | .int _ => by simp [D.beq]
  | .str _ => by simp [D.beq]
  | .tup a => by simp [D.beq, D.beqs_refl a]
  | .lst a => by simp [D.beq, D.beqs_refl a]
  | .ins c a => by simp [D.beq, D.beqs_refl a]
  | .dic k a => by simp [D.beq, D.beqs_refl a]
  | .scr a => by simp [D.beq]
  | .cl a => by simp [D.beq]
theorem D.beqs_refl : ∀ d : List D, D.beqs d d = true
  | [] => rfl
  | a :: as => by simp [D.beqs, D.beq_refl a, D.beqs_refl as]
end
mutual
theorem D.beq_eq : ∀ {d e : D}, D.beq d e = true → d = e
  | .non, e, h => by cases e <;> simp [D.beq] at h; rfl
  | .bl _, e, h => by cases e <;> simp [D.beq] at h; rw [h]
  | .int _, e, h => by cases e <;> simp [D.beq] at h; rw [h]
  | .str _, e, h => by cases e <;> simp [D.beq] at h; rw [h]
  | .tup a, e, h => by cases e <;> simp [D.beq] at h; rw [D.beqs_eq h]
  | .lst a, e, h => by cases e <;> simp [D.beq] at h; rw [D.beqs_eq h]
  | .ins c a, e, h => by cases e <;> simp [D.beq] at h; rw [h.1, D.beqs_eq h.2]
  | .dic k a, e, h => by cases e <;> simp [D.beq] at h; rw [h.1, D.beqs_eq h.2]
  | .scr a, e, h => by cases e <;> simp [D.beq] at h; rw [h]
  | .cl a, e, h => by cases e <;> simp [D.beq] at h; rw [h]
theorem D.beqs_eq : ∀ {d e : List D}, D.beqs d e = true → d = e
  | [], e, h => by cases e <;> simp [D.beqs] at h; rfl
  | a :: as, e, h => by cases e <;> simp [D.beqs] at h; rw [D.beq_eq h.1, D.beqs_eq h.2]
end
instance : DecidableEq D := fun a b => if h : D.beq a b = true then isTrue (D.beq_eq h) else isFalse fun e => h (by rw [e]; exact D.beq_refl b)

/-! ### the slots without a frame -/
/-- a mutable slot's address -/
def Mad (ρ : Ev) (σ : Sg) (a : Addr) : Prop := ∃ (i : Nat) (s : Sl), ρ[i]? = some s ∧ s.mut = true ∧ σ[i]? = some (some (.ref a))
def SlK (K : PySem.W.Frag) (T : Cl) (M : Ms) (H : Hp) : Sl → Option V → Prop
  | .un, _ => True
  | .dat d, v => ∃ x, v = some x ∧ Dv K T M H d x
  | s, v => ∃ a, v = some (.ref a) ∧ M a ∧ MutAt K T M H a s
structure SE (K : PySem.W.Frag) (T : Cl) (M : Ms) (ρ : Ev) (σ : Sg) (H : Hp) : Prop where
  mm : ∀ a, M a → Mu (H a)
  ln : ρ.length = σ.length
  sl : ∀ (i : Nat) (s : Sl), ρ[i]? = some s → ∃ v, σ[i]? = some v ∧ SlK K T M H s v
  ap : ∀ (i j : Nat) (s t : Sl) (v : Option V), ρ[i]? = some s → s.mut = true → ρ[j]? = some t → t.mut = true → σ[i]? = some v → σ[j]? = some v → i = j
theorem SlK.mutAt {K : PySem.W.Frag} {T : Cl} {M : Ms} {H : Hp} {s : Sl} {v : Option V} (h : SlK K T M H s v) (m : s.mut = true) : ∃ a, v = some (.ref a) ∧ M a ∧ MutAt K T M H a s := by
  cases s with
  | un => cases m
  | dat _ => cases m
  | own ds => exact h
  | obj c ds => exact h
theorem SlK.of_mut {K : PySem.W.Frag} {T : Cl} {M : Ms} {H : Hp} {s : Sl} {v : Option V} (m : s.mut = true) (h : ∃ a, v = some (.ref a) ∧ M a ∧ MutAt K T M H a s) : SlK K T M H s v := by
  cases s with
  | un => cases m
  | dat _ => cases m
  | own ds => exact h
  | obj c ds => exact h
theorem ER.se {F : Fx} {M : Ms} {ρ : Ev} {σ : Sg} {H : Hp} (R : ER F M ρ σ H) : SE F.K F.T M ρ σ H where
  mm := R.mm
  ln := R.ln
  sl := fun i s h => by
    obtain ⟨v, h1, h2⟩ := R.sl i s h
    refine ⟨v, h1, ?_⟩
    cases s with
    | un => trivial
    | dat d => exact h2
    | own ds => obtain ⟨a, e, m, _, q⟩ := h2; exact ⟨a, e, m, q⟩
    | obj c ds => obtain ⟨a, e, m, _, q⟩ := h2; exact ⟨a, e, m, q⟩
  ap := R.ap
theorem ER.mad {F : Fx} {M : Ms} {ρ : Ev} {σ : Sg} {H : Hp} (R : ER F M ρ σ H) {a : Addr} (h : Mad ρ σ a) : M a ∧ (F.P a ∨ F.H0 a = none) := by
  obtain ⟨i, s, h1, m, h2⟩ := h
  obtain ⟨v, e, q⟩ := R.sl i s h1
  obtain ⟨b, e2, m2, p, _⟩ := q.mut_at m
  rw [h2] at e
  cases e
  cases e2
  exact ⟨m2, p⟩
theorem SE.mad {K : PySem.W.Frag} {T : Cl} {M : Ms} {ρ : Ev} {σ : Sg} {H : Hp} (R : SE K T M ρ σ H) {a : Addr} (h : Mad ρ σ a) : M a := by
  obtain ⟨i, s, h1, m, h2⟩ := h
  obtain ⟨v, e, q⟩ := R.sl i s h1
  obtain ⟨b, e2, m2, _⟩ := q.mutAt m
  rw [h2] at e
  cases e
  cases e2
  exact m2
/-- from the slots to a frame -/
theorem ER.of_se {F : Fx} {M : Ms} {ρ : Ev} {σ : Sg} {H : Hp} (S : SE F.K F.T M ρ σ H) (m0 : ∀ a, F.M0 a → M a) (kp : ∀ a o, F.H0 a = some o → ¬ F.P a → H a = some o) (h0 : ∀ a, F.M0 a → F.H0 a ≠ none)
    (pm : ∀ a, Mad ρ σ a → F.P a ∨ F.H0 a = none) (pr : ∀ p ∈ F.pa, σ[p.1]? = some (some (.ref p.2)) ∧ ∃ s, ρ[p.1]? = some s ∧ s.mut = true) (pp : ∀ a, F.P a → F.M0 a) : ER F M ρ σ H where
  m0 := m0
  mm := S.mm
  kp := kp
  h0 := h0
  ln := S.ln
  sl := fun i s h => by
    obtain ⟨v, h1, h2⟩ := S.sl i s h
    refine ⟨v, h1, ?_⟩
    cases s with
    | un => trivial
    | dat d => exact h2
    | own ds => obtain ⟨a, e, m, q⟩ := h2; subst e; exact ⟨a, rfl, m, pm a ⟨i, _, h, rfl, h1⟩, q⟩
    | obj c ds => obtain ⟨a, e, m, q⟩ := h2; subst e; exact ⟨a, rfl, m, pm a ⟨i, _, h, rfl, h1⟩, q⟩
  ap := S.ap
  pr := pr
  pp := pp
/-- the mutable slots, written -/
def mads (ρ : Ev) (σ : Sg) : List (Nat × Addr) := (List.range ρ.length).filterMap fun (i : Nat) => match (ρ[i]? : Option Sl), (σ[i]? : Option (Option V)) with
  | some s, some (some (V.ref a)) => if s.mut = true then some (i, a) else none
  | _, _ => none
theorem mem_mads {ρ : Ev} {σ : Sg} {p : Nat × Addr} : p ∈ mads ρ σ ↔ ∃ s, ρ[p.1]? = some s ∧ s.mut = true ∧ σ[p.1]? = some (some (.ref p.2)) := by
  unfold mads
  rw [List.mem_filterMap]
  constructor
  · rintro ⟨i, hi, e⟩
    split at e
    · rename_i s a h1 h2
      split at e
      · cases e
        exact ⟨s, h1, by assumption, h2⟩
      · cases e
    · cases e
  · rintro ⟨s, h1, m, h2⟩
    refine ⟨p.1, List.mem_range.mpr (List.getElem?_eq_some_iff.mp h1).1, ?_⟩
    rw [h1, h2]
    simp [m]
/-- the frame in which all mutable slots are parameters -/
def subF (K : PySem.W.Frag) (T : Cl) (M : Ms) (ρ : Ev) (σ : Sg) (H : Hp) : Fx := ⟨K, T, M, mads ρ σ, H⟩
theorem subF_P {K : PySem.W.Frag} {T : Cl} {M : Ms} {ρ : Ev} {σ : Sg} {H : Hp} {a : Addr} : (subF K T M ρ σ H).P a ↔ Mad ρ σ a := by
  constructor
  · rintro ⟨i, h⟩
    obtain ⟨s, h1, h2, h3⟩ := mem_mads.mp h
    exact ⟨i, s, h1, h2, h3⟩
  · rintro ⟨i, s, h1, h2, h3⟩
    exact ⟨i, mem_mads.mpr ⟨s, h1, h2, h3⟩⟩
theorem SE.enter {K : PySem.W.Frag} {T : Cl} {M : Ms} {ρ : Ev} {σ : Sg} {H : Hp} (S : SE K T M ρ σ H) : ER (subF K T M ρ σ H) M ρ σ H :=
  ER.of_se S (fun _ z => z) (fun _ _ e _ => e) (fun a m e => by have := S.mm a m; rw [show H a = none from e] at this; exact this) (fun a h => .inl (subF_P.mpr h))
    (fun p hp => by obtain ⟨s, h1, h2, h3⟩ := mem_mads.mp hp; exact ⟨h3, s, h1, h2⟩) (fun a h => S.mad (subF_P.mp h))
/-- what a walk within such a frame leaves -/
structure Went (M : Ms) (ρ ρ' : Ev) (σ : Sg) (H H' : Hp) : Prop where
  mad : ∀ a, Mad ρ' σ a → Mad ρ σ a
  mus : ∀ (i : Nat) (s : Sl), ρ[i]? = some s → s.mut = true → ∃ s', ρ'[i]? = some s' ∧ s'.mut = true
  kp : ∀ a o, H a = some o → ¬ Mad ρ σ a → H' a = some o
theorem Went.rfl {M : Ms} {ρ : Ev} {σ : Sg} {H : Hp} : Went M ρ ρ σ H H := ⟨fun _ z => z, fun i s h m => ⟨s, h, m⟩, fun _ _ e _ => e⟩
theorem Went.trans {M : Ms} {ρ ρ1 ρ2 : Ev} {σ : Sg} {H H1 H2 : Hp} (a : Went M ρ ρ1 σ H H1) (b : Went M ρ1 ρ2 σ H1 H2) : Went M ρ ρ2 σ H H2 :=
  ⟨fun c h => a.mad c (b.mad c h), fun i s h m => by obtain ⟨s1, h1, m1⟩ := a.mus i s h m; exact b.mus i s1 h1 m1, fun c o e n => b.kp c o (a.kp c o e n) fun z => n (a.mad c z)⟩
theorem SE.leave {K : PySem.W.Frag} {T : Cl} {M M2 : Ms} {ρ ρ2 : Ev} {σ : Sg} {H H2 : Hp} (S : SE K T M ρ σ H) (R : ER (subF K T M ρ σ H) M2 ρ2 σ H2) (s : ∀ a, M2 a → M a) : SE K T M ρ2 σ H2 ∧ Went M ρ ρ2 σ H H2 := by
  have eM : M2 = M := by
    funext a
    exact propext ⟨s a, R.m0 a⟩
  subst eM
  refine ⟨R.se, fun a h => ?_, fun i t h m => ?_, fun a o e n => R.kp a o e fun z => n (subF_P.mp z)⟩
  · obtain ⟨m, p⟩ := R.mad h
    rcases p with p | p
    · exact subF_P.mp p
    · have := S.mm a m
      rw [show H a = none from p] at this
      exact this.elim
  · obtain ⟨v, e, q⟩ := S.sl i t h
    obtain ⟨a, e2, _, _⟩ := q.mutAt m
    subst e2
    exact (R.pr (i, a) (mem_mads.mpr ⟨t, h, m, e⟩)).2

/-! ### slots wiped, set -/
def wipeE (ρ : Ev) : List Nat → Ev
  | [] => ρ
  | v :: vs => (wipeE ρ vs).set v .un
/-- the slots at vs as in ρ1, the others as in ρ2 -/
def backE (ρ1 ρ2 : Ev) : List Nat → Ev
  | [] => ρ2
  | v :: vs => match ρ1[v]? with
    | some s => (backE ρ1 ρ2 vs).set v s
    | none => backE ρ1 ρ2 vs
theorem wipeE_length (ρ : Ev) : ∀ vs, (wipeE ρ vs).length = ρ.length
  | [] => rfl
  | v :: vs => by unfold wipeE; rw [List.length_set, wipeE_length ρ vs]
theorem wipeE_get (ρ : Ev) (i : Nat) : ∀ vs, (wipeE ρ vs)[i]? = if i ∈ vs then (if i < ρ.length then some .un else none) else ρ[i]?
  | [] => by simp [wipeE]
  | v :: vs => by
    unfold wipeE
    rw [List.getElem?_set, wipeE_length]
    by_cases h : v = i
    · subst h; simp
    · rw [if_neg h, wipeE_get ρ i vs]
      have : i ∈ v :: vs ↔ i ∈ vs := by simp [Ne.symm h]
      by_cases k : i ∈ vs
      · rw [if_pos k, if_pos (this.mpr k)]
      · rw [if_neg k, if_neg fun z => k (this.mp z)]
theorem backE_length (ρ1 ρ2 : Ev) : ∀ vs, (backE ρ1 ρ2 vs).length = ρ2.length
  | [] => rfl
  | v :: vs => by
    unfold backE
    cases ρ1[v]? with
    | none => exact backE_length ρ1 ρ2 vs
    | some s => show ((backE ρ1 ρ2 vs).set v s).length = _; rw [List.length_set, backE_length ρ1 ρ2 vs]
theorem backE_get (ρ1 ρ2 : Ev) (hl : ρ1.length = ρ2.length) (i : Nat) : ∀ vs, (backE ρ1 ρ2 vs)[i]? = if i ∈ vs then ρ1[i]? else ρ2[i]?
  | [] => by simp [backE]
  | v :: vs => by
    unfold backE
    cases e : ρ1[v]? with
    | none =>
      show (backE ρ1 ρ2 vs)[i]? = _
      rw [backE_get ρ1 ρ2 hl i vs]
      by_cases h : v = i
      · subst h
        have h2 : ρ2[v]? = none := by
          rw [List.getElem?_eq_none_iff] at e ⊢
          omega
        simp [e, h2]
      · have : i ∈ v :: vs ↔ i ∈ vs := by simp [Ne.symm h]
        by_cases k : i ∈ vs
        · rw [if_pos k, if_pos (this.mpr k)]
        · rw [if_neg k, if_neg fun z => k (this.mp z)]
    | some s =>
      show ((backE ρ1 ρ2 vs).set v s)[i]? = _
      rw [List.getElem?_set, backE_length]
      by_cases h : v = i
      · subst h
        have hv : v < ρ2.length := by
          have := (List.getElem?_eq_some_iff.mp e).1
          omega
        simp [e, hv]
      · rw [if_neg h, backE_get ρ1 ρ2 hl i vs]
        have : i ∈ v :: vs ↔ i ∈ vs := by simp [Ne.symm h]
        by_cases k : i ∈ vs
        · rw [if_pos k, if_pos (this.mpr k)]
        · rw [if_neg k, if_neg fun z => k (this.mp z)]
theorem wipe_get (σ : Sg) (i : Nat) : ∀ vs, (wipe σ vs)[i]? = if i ∈ vs then (if i < σ.length then some none else none) else σ[i]?
  | [] => by simp [wipe]
  | v :: vs => by
    unfold wipe
    rw [List.getElem?_set, wipe_length]
    by_cases h : v = i
    · subst h; simp
    · rw [if_neg h, wipe_get σ i vs]
      have : i ∈ v :: vs ↔ i ∈ vs := by simp [Ne.symm h]
      by_cases k : i ∈ vs
      · rw [if_pos k, if_pos (this.mpr k)]
      · rw [if_neg k, if_neg fun z => k (this.mp z)]
section
variable {K : PySem.W.Frag} {T : Cl} {M : Ms} {ρ : Ev} {σ : Sg} {H : Hp}
theorem SE.wipe (S : SE K T M ρ σ H) (vs : List Nat) : SE K T M (wipeE ρ vs) (L2.wipe σ vs) H where
  mm := S.mm
  ln := by rw [wipeE_length, wipe_length]; exact S.ln
  sl := fun i s h => by
    rw [wipeE_get] at h
    rw [wipe_get]
    by_cases k : i ∈ vs
    · rw [if_pos k] at h ⊢
      split at h
      · rename_i hl
        cases h
        exact ⟨none, by rw [if_pos (by rw [← S.ln]; exact hl)], trivial⟩
      · cases h
    · rw [if_neg k] at h ⊢
      exact S.sl i s h
  ap := fun i j s t v h1 m1 h2 m2 e1 e2 => by
    rw [wipeE_get] at h1 h2
    rw [wipe_get] at e1 e2
    have k1 : i ∉ vs := fun k => by
      rw [if_pos k] at h1
      split at h1
      · cases h1; cases m1
      · cases h1
    have k2 : j ∉ vs := fun k => by
      rw [if_pos k] at h2
      split at h2
      · cases h2; cases m2
      · cases h2
    rw [if_neg k1] at h1 e1
    rw [if_neg k2] at h2 e2
    exact S.ap i j s t v h1 m1 h2 m2 e1 e2
theorem Mad.of_wipe {vs : List Nat} {a : Addr} (h : Mad (wipeE ρ vs) (L2.wipe σ vs) a) : Mad ρ σ a ∧ ∀ (i : Nat) (s : Sl), (wipeE ρ vs)[i]? = some s → s.mut = true → (L2.wipe σ vs)[i]? = some (some (.ref a)) → i ∉ vs ∧ ρ[i]? = some s ∧ σ[i]? = some (some (.ref a)) := by
  have key : ∀ (i : Nat) (s : Sl), (wipeE ρ vs)[i]? = some s → s.mut = true → (L2.wipe σ vs)[i]? = some (some (.ref a)) → i ∉ vs ∧ ρ[i]? = some s ∧ σ[i]? = some (some (.ref a)) := fun i s h1 m h2 => by
    rw [wipeE_get] at h1
    rw [wipe_get] at h2
    have k1 : i ∉ vs := fun k => by
      rw [if_pos k] at h1
      split at h1
      · cases h1; cases m
      · cases h1
    rw [if_neg k1] at h1 h2
    exact ⟨k1, h1, h2⟩
  refine ⟨?_, key⟩
  obtain ⟨i, s, h1, m, h2⟩ := h
  obtain ⟨_, h3, h4⟩ := key i s h1 m h2
  exact ⟨i, s, h3, m, h4⟩
/-- a slot gets data -/
theorem SE.setDat (S : SE K T M ρ σ H) {i : Nat} {d : D} {v : V} (h : Dv K T M H d v) : SE K T M (ρ.set i (.dat d)) (σ.set i (some v)) H where
  mm := S.mm
  ln := by rw [List.length_set, List.length_set]; exact S.ln
  sl := fun j s e => by
    rw [List.getElem?_set] at e ⊢
    by_cases k : i = j
    · subst k
      rw [if_pos rfl] at e ⊢
      split at e
      · rename_i hl
        cases e
        exact ⟨some v, by rw [if_pos (by rw [← S.ln]; exact hl)], v, rfl, h⟩
      · cases e
    · rw [if_neg k] at e ⊢
      exact S.sl j s e
  ap := fun j l s t u h1 m1 h2 m2 e1 e2 => by
    rw [List.getElem?_set] at h1 h2 e1 e2
    have k1 : i ≠ j := fun k => by
      rw [if_pos k] at h1
      split at h1
      · cases h1; cases m1
      · cases h1
    have k2 : i ≠ l := fun k => by
      rw [if_pos k] at h2
      split at h2
      · cases h2; cases m2
      · cases h2
    rw [if_neg k1] at h1 e1
    rw [if_neg k2] at h2 e2
    exact S.ap j l s t u h1 m1 h2 m2 e1 e2
theorem Mad.of_setDat {i : Nat} {d : D} {v : V} {a : Addr} (h : Mad (ρ.set i (.dat d)) (σ.set i (some v)) a) : Mad ρ σ a := by
  obtain ⟨j, s, h1, m, h2⟩ := h
  rw [List.getElem?_set] at h1 h2
  have k1 : i ≠ j := fun k => by
    rw [if_pos k] at h1
    split at h1
    · cases h1; cases m
    · cases h1
  rw [if_neg k1] at h1 h2
  exact ⟨j, s, h1, m, h2⟩
theorem ER.setDat {F : Fx} (R : ER F M ρ σ H) {i : Nat} {d : D} {v : V} (h : Dv F.K F.T M H d v) (hi : ∀ a, (i, a) ∉ F.pa) : ER F M (ρ.set i (.dat d)) (σ.set i (some v)) H :=
  ER.of_se (R.se.setDat h) R.m0 R.kp R.h0 (fun a m => (R.mad (Mad.of_setDat m)).2) (fun p hp => by
    have k : i ≠ p.1 := fun k => hi p.2 (by rw [k]; exact hp)
    rw [List.getElem?_set_ne k, List.getElem?_set_ne k]
    exact R.pr p hp) R.pp
end

/-! ### targets -/
inductive Pt where
  | nm (i : Nat) | tp (is : List Nat)
def Pt.slots : Pt → List Nat
  | .nm i => [i]
  | .tp is => is
def setsE : Ev → List Nat → List D → Option Ev
  | ρ, [], [] => some ρ
  | ρ, i :: is, d :: ds => setsE (ρ.set i (.dat d)) is ds
  | _, _, _ => none
def bindPt : Pt → D → Ev → Option Ev
  | .nm i, d, ρ => some (ρ.set i (.dat d))
  | .tp is, .tup ds, ρ => setsE ρ is ds
  | _, _, _ => none
/-- the reading of a target: the frame's own parameters are not among its slots -/
def TGd (F : Fx) (p : Pt) : TG := fun v σ H Q => ∃ M ρ d ρ', ER F M ρ σ H ∧ Dv F.K F.T M H d v ∧ bindPt p d ρ = some ρ' ∧ (∀ i ∈ p.slots, ∀ a, (i, a) ∉ F.pa) ∧
  ∀ σ', ER F M ρ' σ' H → (∀ j, j ∉ p.slots → σ'[j]? = σ[j]?) → Q σ' H
theorem PG.imp {X : Cx} {tg : Expr} {t t' : TG} (h : PG X tg t) (g : ∀ v σ H Q, t' v σ H Q → t v σ H Q) : PG X tg t' := ⟨fun pins s σ H v u Q I r hw => h.run pins s σ H v u Q I r (g _ _ _ _ hw)⟩
theorem PGs.imp {X : Cx} {tg : List Expr} {t t' : TGs} (h : PGs X tg t) (g : ∀ v σ H Q, t' v σ H Q → t v σ H Q) : PGs X tg t' := ⟨fun pins s σ H v u Q I r hw => h.run pins s σ H v u Q I r (g _ _ _ _ hw)⟩
def TGsd (F : Fx) (is : List Nat) : TGs := fun vs σ H Q => ∃ M ρ ds ρ', ER F M ρ σ H ∧ DvS F.K F.T M H ds vs ∧ setsE ρ is ds = some ρ' ∧ (∀ i ∈ is, ∀ a, (i, a) ∉ F.pa) ∧
  ∀ σ', ER F M ρ' σ' H → (∀ j, j ∉ is → σ'[j]? = σ[j]?) → Q σ' H
section
variable {X : Cx} {F : Fx} {pos : Pos}
theorem dg_name {i : Nat} {x : Str} (hN : X.N.Nodup) (hi : X.N[i]? = some x) (hx : Loc X.env.scope x) (hf : X.fn x = true ∨ X.env.scope.names.lookup x = some .local) : PG X (.Name x pos) (TGd F (.nm i)) := by
  refine PG.imp (pg_name hN hi hx hf) ?_
  rintro v σ H Q ⟨M, ρ, d, ρ', R, dv, e, hp, q⟩
  cases e
  exact q _ (R.setDat dv (hp i List.mem_cons_self)) fun j hj => List.getElem?_set_ne (fun e => hj (by simp [Pt.slots, e]))
theorem dgs_nil : PGs X [] (TGsd F []) := by
  refine PGs.imp pgs_nil ?_
  rintro vs σ H Q ⟨M, ρ, ds, ρ', R, dv, e, hp, q⟩
  cases ds with
  | nil =>
    cases e
    exact ⟨dv, q σ R fun _ _ => rfl⟩
  | cons _ _ => cases e
theorem dgs_cons {i : Nat} {is : List Nat} {e : Expr} {es : List Expr} (h1 : PG X e (TGd F (.nm i))) (h2 : PGs X es (TGsd F is))
    (hs : (assignEach (e :: es) X.env).map (·.2) = assign e X.env :: (assignEach es X.env).map (·.2)) : PGs X (e :: es) (TGsd F (i :: is)) := by
  refine PGs.imp (pgs_cons h1 h2 hs) ?_
  rintro vs σ H Q ⟨M, ρ, ds, ρ', R, dv, e, hp, q⟩
  cases ds with
  | nil => cases e
  | cons d ds =>
    obtain ⟨x, r, rfl, h3, h4⟩ := dv
    refine ⟨x, r, rfl, M, ρ, d, _, R, h3, rfl, fun j hj a => hp j (by simp only [Pt.slots, List.mem_singleton] at hj; simp [hj]) a, fun σ1 R1 k1 => ?_⟩
    refine ⟨M, _, ds, ρ', R1, h4, e, fun j hj a => hp j (List.mem_cons_of_mem _ hj) a, fun σ2 R2 k2 => q σ2 R2 fun j hj => ?_⟩
    simp only [List.mem_cons, not_or] at hj
    exact (k2 j hj.2).trans (k1 j (by simp [Pt.slots, hj.1]))
theorem dg_tup {is : List Nat} {es : List Expr} {k : Nat} (hK : F.K = X.K) (hc : X.calm = true) (h : PGs X es (TGsd F is)) (hl : es.length = is.length)
    (hn : (assignEach es X.env).length = es.length) (hst : (assignEach es X.env).findIdx? (·.1) = none) : PG X (.Tuple es k pos) (TGd F (.tp is)) := by
  obtain ⟨K, T, M0, pa, H0⟩ := F
  cases hK
  refine PG.imp (pg_tup (n := es.length) hc h hn hst) ?_
  rintro v σ H Q ⟨M, ρ, d, ρ', R, dv, e, hp, q⟩
  cases d with
  | tup ds =>
    obtain ⟨a, xs, rfl, ha, ra⟩ := dv
    have e' : setsE ρ is ds = some ρ' := e
    have len : ∀ (is : List Nat) (ds : List D) (ρ ρ' : Ev), setsE ρ is ds = some ρ' → is.length = ds.length := by
      intro is
      induction is with
      | nil => intro ds ρ ρ' h; cases ds with
        | nil => rfl
        | cons _ _ => cases h
      | cons i is ih => intro ds ρ ρ' h; cases ds with
        | nil => cases h
        | cons d ds => simp [ih ds _ _ h]
    exact ⟨a, xs, rfl, ha, by rw [← ra.length, ← len is ds ρ ρ' e', hl], M, ρ, ds, ρ', R, ra, e', hp, q⟩
  | _ => cases e
end
end SC

set_option Elab.async false
set_option linter.all false
set_option maxRecDepth 100000
namespace SC
open PySem PySem.Spec PyProof.Rows L2

/-! ### what is walked -/
abbrev FS := Ev → Option (List D × List Opd × Ev)
def ItOk (F : Fx) (J : It) (ds es : List D) (vs : List V) : Prop := ∀ (M : Ms) (H : Hp) (i : Nat), (∀ a, M a → Mu (H a)) → DoS F M H es vs →
  (∀ d, ds[i]? = some d → J.go i H ∧ ∀ x H', J.yld i H x H' → Ext H H' ∧ Dv F.K F.T M H' d x) ∧ (i = ds.length → J.stop i H)
def TId (F : Fx) (f : FS) : TI := fun σ H R => ∃ M ρ ds os ρ', ER F M ρ σ H ∧ f ρ = some (ds, os, ρ') ∧
  ∀ J vs es M' H', (∀ a, M' a → M a) → ER F M' ρ' σ H' → Keep M H H' → OpdsOk F M' H' σ os vs → getAll ρ' os = some es → ItOk F J ds es vs → R J H'
theorem PI.imp {X : Cx} {tg e : Expr} {t t' : TI} (h : PI X tg e t) (g : ∀ σ H Q, t' σ H Q → t σ H Q) : PI X tg e t' := ⟨fun pins s σ H R I hw => h.run pins s σ H R I (g _ _ _ hw)⟩
theorem PI.or {X : Cx} {tg e : Expr} {t t' : TI} (h : PI X tg e t) (h' : PI X tg e t') : PI X tg e (fun σ H R => t σ H R ∨ t' σ H R) := ⟨fun pins s σ H R I hw => by
  rcases hw with hw | hw
  · exact h.run pins s σ H R I hw
  · exact h'.run pins s σ H R I hw⟩
/-- the items of a thing that is walked by itself -/
def walkD : D → Option (List D)
  | .lst ds => some ds
  | .tup ds => some ds
  | .scr ns => some (ns.map .int)
  | .str z => some (z.cps.toList.map fun c => .str ⟨#[c]⟩)
  | _ => none
def sItm (fa : FE) : FS := fun ρ =>
  match fa ρ with
  | none => none
  | some (o, ρ1) => match o.get ρ1 with
    | none => none
    | some d => match walkD d with
      | none => none
      | some ds => some (ds, [o], ρ1)
theorem getAll1 {ρ : Ev} {o : Opd} {d : D} (h : o.get ρ = some d) : getAll ρ [o] = some [d] := by
  simp only [getAll, h]
theorem getAll_one {ρ : Ev} {o : Opd} {es : List D} (h : getAll ρ [o] = some es) : ∃ d, o.get ρ = some d ∧ es = [d] := by
  simp only [getAll] at h
  split at h
  · rename_i d ds g1 g2
    cases g2
    cases h
    exact ⟨d, g1, rfl⟩
  · cases h
section
variable {X : Cx} {F : Fx} {tg a b : Expr} {fa fb : FE} {pos : Pos}
theorem itOk_lst {ds : List D} {p : Addr} : ItOk F (Itl F.K p) ds [.lst ds] [.ref p] := by
  intro M H i mm hd
  obtain ⟨v, e, h⟩ := paired1 hd
  cases e
  obtain ⟨a, us, e, ha, ra⟩ := h.lst
  cases e
  refine ⟨fun d hdi => ⟨?_, ?_⟩, fun e => ⟨us, SqL.of ha, by rw [e, ra.length]; exact Nat.le_refl _⟩⟩
  · obtain ⟨x, hx, _⟩ := ra.getD hdi
    exact ⟨us, x, SqL.of ha, hx⟩
  · rintro x H' ⟨rfl, hx⟩
    obtain ⟨d', h1, h2⟩ := ra.get (hx us (SqL.of ha))
    rw [hdi] at h1
    cases h1
    exact ⟨Ext.rfl, h2⟩
theorem itOk_tup {ds : List D} {p : Addr} : ItOk F (Itt F.K p) ds [.tup ds] [.ref p] := by
  intro M H i mm hd
  obtain ⟨v, e, h⟩ := paired1 hd
  cases e
  obtain ⟨a, us, e, ha, ra⟩ := h.tup
  cases e
  refine ⟨fun d hdi => ⟨?_, ?_⟩, fun e => ⟨us, ha, by rw [e, ra.length]; exact Nat.le_refl _⟩⟩
  · obtain ⟨x, hx, _⟩ := ra.getD hdi
    exact ⟨us, x, ha, hx⟩
  · rintro x H' ⟨rfl, hx⟩
    obtain ⟨d', h1, h2⟩ := ra.get (hx us ha)
    rw [hdi] at h1
    cases h1
    exact ⟨Ext.rfl, h2⟩
theorem itOk_scr {ns : List Int} {p : Addr} : ItOk F (Itl F.K p) (ns.map .int) [.scr ns] [.ref p] := by
  intro M H i mm hd
  obtain ⟨v, e, h⟩ := paired1 hd
  cases e
  obtain ⟨a, e, ha⟩ := h.scr
  cases e
  refine ⟨fun d hdi => ⟨?_, ?_⟩, fun e => ⟨_, ha, by rw [e, List.length_map, List.length_map]; exact Nat.le_refl _⟩⟩
  · obtain ⟨x, hx, _⟩ := (DvS.of_ints (K := F.K) (T := F.T) (M := M) (H := H) ns).getD hdi
    exact ⟨_, x, ha, hx⟩
  · rintro x H' ⟨rfl, hx⟩
    obtain ⟨d', h1, h2⟩ := (DvS.of_ints (K := F.K) (T := F.T) (M := M) (H := H') ns).get (hx _ ha)
    rw [hdi] at h1
    cases h1
    exact ⟨Ext.rfl, h2⟩
theorem itOk_str {z : Str} : ItOk F (Its z) (z.cps.toList.map fun c => .str ⟨#[c]⟩) [.str z] [.str z] := by
  intro M H i mm hd
  refine ⟨fun d hdi => ⟨?_, ?_⟩, fun e => ?_⟩
  · have := (List.getElem?_eq_some_iff.mp hdi).1
    rw [List.length_map, Array.length_toList] at this
    exact this
  · rintro x H' ⟨rfl, c, hc, rfl⟩
    rw [List.getElem?_map, Array.getElem?_toList, hc] at hdi
    cases hdi
    exact ⟨Ext.rfl, rfl⟩
  · show z.cps.size ≤ i
    rw [e, List.length_map, Array.length_toList]
    exact Nat.le_refl _
theorem di_itm (hK : F.K = X.K) (h : PE X a (TEd F fa)) : PI X tg a (TId F (sItm fa)) := by
  obtain ⟨K, T, M0, pa, H0⟩ := F
  cases hK
  refine PI.imp (PI.or (pi_list h) (PI.or (pi_tup h) (pi_str h))) ?_
  rintro σ H R ⟨M, ρ, ds, os, ρ', E, hf, q⟩
  unfold sItm at hf
  cases e1 : fa ρ with
  | none => rw [e1] at hf; cases hf
  | some p1 =>
    obtain ⟨o1, ρ1⟩ := p1
    rw [e1] at hf
    simp only at hf
    cases g1 : o1.get ρ1 with
    | none => rw [g1] at hf; cases hf
    | some d =>
      rw [g1] at hf
      simp only at hf
      cases d with
      | lst es =>
        cases hf
        exact .inl ⟨M, ρ, o1, _, E, e1, fun v M1 H1 s1 R1 k1 ok1 => by
          obtain ⟨a, us, rfl, ha, ra⟩ := (R1.opd ok1 g1).lst
          exact ⟨a, rfl, ⟨us, SqL.of ha⟩, q _ [.ref a] _ M1 H1 s1 R1 k1 (.cons ok1 .nil) (getAll1 g1) itOk_lst⟩⟩
      | tup es =>
        cases hf
        exact .inr (.inl ⟨M, ρ, o1, _, E, e1, fun v M1 H1 s1 R1 k1 ok1 => by
          obtain ⟨a, us, rfl, ha, ra⟩ := (R1.opd ok1 g1).tup
          exact ⟨a, rfl, ⟨us, ha⟩, q _ [.ref a] _ M1 H1 s1 R1 k1 (.cons ok1 .nil) (getAll1 g1) itOk_tup⟩⟩)
      | scr es =>
        cases hf
        exact .inl ⟨M, ρ, o1, _, E, e1, fun v M1 H1 s1 R1 k1 ok1 => by
          obtain ⟨a, rfl, ha⟩ := (R1.opd ok1 g1).scr
          exact ⟨a, rfl, ⟨_, ha⟩, q _ [.ref a] _ M1 H1 s1 R1 k1 (.cons ok1 .nil) (getAll1 g1) itOk_scr⟩⟩
      | str z =>
        cases hf
        exact .inr (.inr ⟨M, ρ, o1, _, E, e1, fun v M1 H1 s1 R1 k1 ok1 => by
          cases (R1.opd ok1 g1).str
          exact ⟨z, rfl, q _ [.str z] _ M1 H1 s1 R1 k1 (.cons ok1 .nil) (getAll1 g1) itOk_str⟩⟩)
      | _ => cases hf
/-- range -/
def rangeD (lo : Int) (n : Nat) : List D := (List.range n).map fun i => .int (lo + (i : Nat))
def sRng (fa : FA) : FS := fun ρ =>
  match fa ρ with
  | some ([.dat (.int j)], ρ1) => if -1000000000 ≤ j ∧ j ≤ 1000000000 then some (rangeD 0 j.toNat, [], ρ1) else none
  | some ([.dat (.int i), .dat (.int j)], ρ1) => if -1000000000 ≤ i ∧ i ≤ 1000000000 ∧ -1000000000 ≤ j ∧ j ≤ 1000000000 then some (rangeD i (j - i).toNat, [], ρ1) else none
  | _ => none
theorem itOk_rng {lo : Int} {n : Nat} : ItOk F (Itr lo n) (rangeD lo n) [] [] := by
  intro M H i mm hd
  refine ⟨fun d hdi => ⟨?_, ?_⟩, fun e => ?_⟩
  · have := (List.getElem?_eq_some_iff.mp hdi).1
    exact (show i < n by simpa [rangeD] using this)
  · rintro x H' ⟨rfl, rfl⟩
    unfold rangeD at hdi
    rw [List.getElem?_map] at hdi
    obtain ⟨k, e1, e2⟩ := Option.map_eq_some_iff.mp hdi
    have : k = i := by
      rw [List.getElem?_range (by have := (List.getElem?_eq_some_iff.mp e1).1; simpa using this)] at e1
      exact (Option.some.inj e1).symm
    subst this
    subst e2
    exact ⟨Ext.rfl, rfl⟩
  · show n ≤ i
    rw [e]
    simp [rangeD]
theorem di_rng1 {p : Pos} {f : FA} (hg : Gl X "range") (hm : X.mg "range" = none) (ha : PA X [a] (TAd F f)) (hs : starEach [a] X.env = [(false, eval a X.env)]) (h1 : ∀ ρ os ρ', f ρ = some (os, ρ') → os.length = 1) : PI X tg (.Call (.Name "range" p) [a] [] pos) (TId F (sRng f)) := by
  refine PI.imp (pi_range1 hg hm ha hs) ?_
  rintro σ H R ⟨M, ρ, ds, os, ρ', E, hf, q⟩
  unfold sRng at hf
  cases e1 : f ρ with
  | none => rw [e1] at hf; cases hf
  | some p1 =>
    obtain ⟨o1, ρ1⟩ := p1
    have hl := h1 _ _ _ e1
    rw [e1] at hf
    match o1, hl, hf with
    | [.dat (.int j)], _, hf =>
      simp only at hf
      split at hf
      · rename_i hb
        cases hf
        refine ⟨M, ρ, _, _, E, e1, fun vs M1 H1 s1 R1 k1 ok1 => ?_⟩
        obtain ⟨v, rfl, hv⟩ := paired1 ok1
        cases (show v = .int j from hv)
        exact ⟨j, rfl, by omega, by omega, q _ [] [] M1 H1 s1 R1 k1 .nil rfl itOk_rng⟩
      · cases hf
theorem di_rng2 {p : Pos} {f : FA} (hg : Gl X "range") (hm : X.mg "range" = none) (ha : PA X [a, b] (TAd F f)) (hs : starEach [a, b] X.env = [(false, eval a X.env), (false, eval b X.env)]) (hs2 : starEach [b] X.env = [(false, eval b X.env)])
    (h1 : ∀ ρ os ρ', f ρ = some (os, ρ') → os.length = 2) : PI X tg (.Call (.Name "range" p) [a, b] [] pos) (TId F (sRng f)) := by
  refine PI.imp (pi_range2 hg hm ha hs hs2) ?_
  rintro σ H R ⟨M, ρ, ds, os, ρ', E, hf, q⟩
  unfold sRng at hf
  cases e1 : f ρ with
  | none => rw [e1] at hf; cases hf
  | some p1 =>
    obtain ⟨o1, ρ1⟩ := p1
    have hl := h1 _ _ _ e1
    rw [e1] at hf
    match o1, hl, hf with
    | [.dat (.int i), .dat (.int j)], _, hf =>
      simp only at hf
      split at hf
      · rename_i hb
        cases hf
        refine ⟨M, ρ, _, _, E, e1, fun vs M1 H1 s1 R1 k1 ok1 => ?_⟩
        obtain ⟨v, w, rfl, hv, hw⟩ := paired2 ok1
        cases (show v = .int i from hv)
        cases (show w = .int j from hw)
        exact ⟨i, j, rfl, ⟨by omega, by omega, by omega, by omega⟩, q _ [] [] M1 H1 s1 R1 k1 .nil rfl itOk_rng⟩
      · cases hf
/-- enumerate -/
def seqD : D → Option (List D)
  | .lst ds => some ds
  | .tup ds => some ds
  | .scr ns => some (ns.map .int)
  | _ => none
def enumD : Nat → List D → List D
  | _, [] => []
  | i, d :: ds => .tup [.int (i : Nat), d] :: enumD (i + 1) ds
theorem enumD_get : ∀ (ds : List D) (k i : Nat), (enumD k ds)[i]? = ds[i]?.map fun d => .tup [.int ((k + i : Nat) : Int), d]
  | [], _, _ => by simp [enumD]
  | d :: ds, k, 0 => by simp [enumD]
  | d :: ds, k, i + 1 => by
    simp only [enumD, List.getElem?_cons_succ]
    rw [enumD_get ds (k + 1) i]
    have : k + 1 + i = k + (i + 1) := by omega
    rw [this]
theorem enumD_length : ∀ (ds : List D) (k : Nat), (enumD k ds).length = ds.length
  | [], _ => rfl
  | d :: ds, k => by simp [enumD, enumD_length ds]
def sEnm (fa : FA) : FS := fun ρ =>
  match fa ρ with
  | some ([o], ρ1) => match o.get ρ1 with
    | none => none
    | some d => match seqD d with
      | none => none
      | some ds => some (enumD 0 ds, [o], ρ1)
  | _ => none
theorem pair_new {M : Ms} {H : Hp} {T : Addr} {x y : V} {d e : D} (hT : H T = none) (h1 : Dv F.K F.T M H d x) (h2 : Dv F.K F.T M H e y) : Ext H (upd H T (.tup [x, y])) ∧ Dv F.K F.T M (upd H T (.tup [x, y])) (.tup [d, e]) (.ref T) :=
  ⟨Ext.new hT, ⟨T, _, rfl, SqT.of upd_same, DvS.ext (Ext.new hT) _ (DvS.cons h1 (DvS.cons h2 DvS.nil))⟩⟩
theorem itOk_enm {ds : List D} {p : Addr} {c : D} (hc : ∀ M H, Do F.K F.T M H c (.ref p) → ∃ us, SqL F.K H p us ∧ DvS F.K F.T M H ds us) : ItOk F (Ite F.K p) (enumD 0 ds) [c] [.ref p] := by
  intro M H i mm hd
  obtain ⟨v, e, h⟩ := paired1 hd
  cases e
  obtain ⟨us, ha, ra⟩ := hc M H h
  refine ⟨fun d hdi => ⟨?_, ?_⟩, fun e => ⟨us, ha, by rw [e, enumD_length, ra.length]; exact Nat.le_refl _⟩⟩
  · rw [enumD_get] at hdi
    obtain ⟨k, e1, e2⟩ := Option.map_eq_some_iff.mp hdi
    obtain ⟨x, hx, _⟩ := ra.getD e1
    exact ⟨us, x, ha, hx⟩
  · rintro v H' ⟨U, x, rfl, hU, rfl, hx⟩
    rw [enumD_get] at hdi
    obtain ⟨k, e1, e2⟩ := Option.map_eq_some_iff.mp hdi
    subst e2
    obtain ⟨d', h1, h2⟩ := ra.get (hx us ha)
    rw [e1] at h1
    cases h1
    rw [Nat.zero_add]
    exact pair_new hU rfl h2
theorem itOk_enmT {ds : List D} {p : Addr} : ItOk F (IteT F.K p) (enumD 0 ds) [.tup ds] [.ref p] := by
  intro M H i mm hd
  obtain ⟨v, e, h⟩ := paired1 hd
  cases e
  obtain ⟨a, us, e, ha, ra⟩ := h.tup
  cases e
  refine ⟨fun d hdi => ⟨?_, ?_⟩, fun e => ⟨us, ha, by rw [e, enumD_length, ra.length]⟩⟩
  · rw [enumD_get] at hdi
    obtain ⟨k, e1, e2⟩ := Option.map_eq_some_iff.mp hdi
    obtain ⟨x, hx, _⟩ := ra.getD e1
    exact ⟨us, x, ha, hx⟩
  · rintro v H' ⟨U, x, rfl, hU, rfl, hx⟩
    rw [enumD_get] at hdi
    obtain ⟨k, e1, e2⟩ := Option.map_eq_some_iff.mp hdi
    subst e2
    obtain ⟨d', h1, h2⟩ := ra.get (hx us ha)
    rw [e1] at h1
    cases h1
    rw [Nat.zero_add]
    exact pair_new hU rfl h2
theorem di_enm {p tpos : Pos} {f : FA} {elts : List Expr} {kk : Nat} (hK : F.K = X.K) (hg : Gl X "enumerate") (hm : X.mg "enumerate" = none) (ha : PA X [a] (TAd F f)) (hs : starEach [a] X.env = [(false, eval a X.env)]) (h1 : ∀ ρ os ρ', f ρ = some (os, ρ') → os.length = 1) :
    PI X (.Tuple elts kk tpos) (.Call (.Name "enumerate" p) [a] [] pos) (TId F (sEnm f)) := by
  obtain ⟨K, T, M0, pa, H0⟩ := F
  cases hK
  refine PI.imp (PI.or (pi_enum hg hm ha hs) (pi_enumT hg hm ha hs)) ?_
  rintro σ H R ⟨M, ρ, ds, os, ρ', E, hf, q⟩
  unfold sEnm at hf
  cases e1 : f ρ with
  | none => rw [e1] at hf; cases hf
  | some p1 =>
    obtain ⟨o1, ρ1⟩ := p1
    have hl := h1 _ _ _ e1
    rw [e1] at hf
    match o1, hl, hf with
    | [o], _, hf =>
      simp only at hf
      cases g1 : o.get ρ1 with
      | none => rw [g1] at hf; cases hf
      | some d =>
        rw [g1] at hf
        simp only at hf
        cases d with
        | lst es =>
          cases hf
          refine .inl ⟨M, ρ, _, _, E, e1, fun vs M1 H1 s1 R1 k1 ok1 => ?_⟩
          obtain ⟨v, rfl, hv⟩ := paired1 ok1
          obtain ⟨a, us, rfl, ha, ra⟩ := (R1.opd hv g1).lst
          exact ⟨a, us, rfl, SqL.of ha, q _ [.ref a] _ M1 H1 s1 R1 k1 ok1 (getAll1 g1) (itOk_enm fun M H h => by
            obtain ⟨b, ws, e, hb, rb⟩ := h.lst
            cases e
            exact ⟨ws, SqL.of hb, rb⟩)⟩
        | scr es =>
          cases hf
          refine .inl ⟨M, ρ, _, _, E, e1, fun vs M1 H1 s1 R1 k1 ok1 => ?_⟩
          obtain ⟨v, rfl, hv⟩ := paired1 ok1
          obtain ⟨a, rfl, ha⟩ := (R1.opd hv g1).scr
          exact ⟨a, _, rfl, ha, q _ [.ref a] _ M1 H1 s1 R1 k1 ok1 (getAll1 g1) (itOk_enm fun M H h => by
            obtain ⟨b, e, hb⟩ := h.scr
            cases e
            exact ⟨_, hb, DvS.of_ints es⟩)⟩
        | tup es =>
          cases hf
          refine .inr ⟨M, ρ, _, _, E, e1, fun vs M1 H1 s1 R1 k1 ok1 => ?_⟩
          obtain ⟨v, rfl, hv⟩ := paired1 ok1
          obtain ⟨a, us, rfl, ha, ra⟩ := (R1.opd hv g1).tup
          exact ⟨a, us, rfl, ha, q _ [.ref a] _ M1 H1 s1 R1 k1 ok1 (getAll1 g1) itOk_enmT⟩
        | _ => cases hf
/-- zip -/
def zipD : List D → List D → List D
  | d :: ds, e :: es => .tup [d, e] :: zipD ds es
  | _, _ => []
theorem zipD_get : ∀ (ds es : List D) (i : Nat) (t : D), (zipD ds es)[i]? = some t → ∃ d e, ds[i]? = some d ∧ es[i]? = some e ∧ t = .tup [d, e]
  | d :: ds, e :: es, 0, t, h => by simp only [zipD, List.getElem?_cons_zero] at h; cases h; exact ⟨d, e, rfl, rfl, rfl⟩
  | d :: ds, e :: es, i + 1, t, h => by
    simp only [zipD, List.getElem?_cons_succ] at h
    obtain ⟨d', e', h1, h2, h3⟩ := zipD_get ds es i t h
    exact ⟨d', e', by simpa using h1, by simpa using h2, h3⟩
  | [], _, _, _, h => by simp [zipD] at h
  | _ :: _, [], _, _, h => by simp [zipD] at h
theorem zipD_length : ∀ (ds es : List D), (zipD ds es).length = min ds.length es.length
  | d :: ds, e :: es => by simp [zipD, zipD_length ds es]
  | [], es => by simp [zipD]
  | _ :: _, [] => by simp [zipD]
def isLst : D → Bool
  | .tup _ => false
  | _ => true
def sZip (fa : FA) : FS := fun ρ =>
  match fa ρ with
  | some ([o, p], ρ1) => match o.get ρ1, p.get ρ1 with
    | some d, some e => match seqD d, seqD e with
      | some ds, some es => some (zipD ds es, [o, p], ρ1)
      | _, _ => none
    | _, _ => none
  | _ => none
theorem seqB_ex {M : Ms} {H : Hp} {d : D} {ds : List D} {v : V} (hs : seqD d = some ds) (h : Do F.K F.T M H d v) : ∃ p us, v = V.ref p ∧ SqB F.K (isLst d) H p us ∧ DvS F.K F.T M H ds us := by
  cases d with
  | lst es => cases hs; obtain ⟨a, us, rfl, ha, ra⟩ := h.lst; exact ⟨a, us, rfl, SqL.of ha, ra⟩
  | tup es => cases hs; obtain ⟨a, us, rfl, ha, ra⟩ := h.tup; exact ⟨a, us, rfl, ha, ra⟩
  | scr es => cases hs; obtain ⟨a, rfl, ha⟩ := h.scr; exact ⟨a, _, rfl, ha, DvS.of_ints es⟩
  | _ => cases hs
theorem itOk_zip {ds es : List D} {p r : Addr} {c c' : D} (h1 : seqD c = some ds) (h2 : seqD c' = some es) :
    ItOk F (ItzB F.K (isLst c) (isLst c') p r) (zipD ds es) [c, c'] [.ref p, .ref r] := by
  intro M H i mm hd
  obtain ⟨v, w, e, hv, hw⟩ := paired2 hd
  cases e
  obtain ⟨_, us, e, ha, ra⟩ := seqB_ex h1 hv
  cases e
  obtain ⟨_, ws, e, hb, rb⟩ := seqB_ex h2 hw
  cases e
  refine ⟨fun t ht => ⟨?_, ?_⟩, fun e => ⟨us, ws, ha, hb, ?_, ?_, ?_⟩⟩
  · obtain ⟨d, e, hd1, hd2, rfl⟩ := zipD_get ds es i t ht
    obtain ⟨x, hx, _⟩ := ra.getD hd1
    obtain ⟨y, hy, _⟩ := rb.getD hd2
    exact ⟨us, ws, x, y, ha, hb, hx, hy⟩
  · rintro v H' ⟨U, x, y, rfl, hU, rfl, hx, hy⟩
    obtain ⟨d, e, hd1, hd2, rfl⟩ := zipD_get ds es i t ht
    obtain ⟨d', q1, q2⟩ := ra.get (hx us ha)
    obtain ⟨e', q3, q4⟩ := rb.get (hy ws hb)
    rw [hd1] at q1
    rw [hd2] at q3
    cases q1
    cases q3
    exact pair_new hU q2 q4
  · rw [e, zipD_length, ← ra.length]; omega
  · rw [e, zipD_length, ← rb.length]; omega
  · rw [e, zipD_length, ← ra.length, ← rb.length]; (first | done | omega)
theorem di_zip {p tpos : Pos} {f : FA} {elts : List Expr} {kk : Nat} (hK : F.K = X.K) (hg : Gl X "zip") (hm : X.mg "zip" = none) (ha : PA X [a, b] (TAd F f)) (hs : starEach [a, b] X.env = (false, eval a X.env) :: starEach [b] X.env)
    (hpl : (backTo pos (starEach [b] X.env)).any (·.1) = false) (h1 : ∀ ρ os ρ', f ρ = some (os, ρ') → os.length = 2) :
    PI X (.Tuple elts kk tpos) (.Call (.Name "zip" p) [a, b] [] pos) (TId F (sZip f)) := by
  obtain ⟨K, T, M0, pa, H0⟩ := F
  cases hK
  refine PI.imp (pi_zipB hg hm ha hs hpl) ?_
  rintro σ H R ⟨M, ρ, ds, os, ρ', E, hf, q⟩
  unfold sZip at hf
  cases e1 : f ρ with
  | none => rw [e1] at hf; cases hf
  | some p1 =>
    obtain ⟨o1, ρ1⟩ := p1
    have hl := h1 _ _ _ e1
    rw [e1] at hf
    match o1, hl, hf with
    | [o, o'], _, hf =>
      simp only at hf
      cases g1 : o.get ρ1 with
      | none => rw [g1] at hf; cases hf
      | some d =>
        cases g2 : o'.get ρ1 with
        | none => rw [g1, g2] at hf; cases hf
        | some d' =>
          rw [g1, g2] at hf
          simp only at hf
          cases k1 : seqD d with
          | none => rw [k1] at hf; cases hf
          | some es =>
            cases k2 : seqD d' with
            | none => rw [k1, k2] at hf; cases hf
            | some es' =>
              rw [k1, k2] at hf
              cases hf
              refine ⟨M, ρ, _, _, E, e1, fun vs M1 H1 s1 R1 kk1 ok1 => ?_⟩
              obtain ⟨v, w, rfl, hv, hw⟩ := paired2 ok1
              obtain ⟨a, us, rfl, ha, ra⟩ := seqB_ex k1 (R1.opd hv g1)
              obtain ⟨b, ws, rfl, hb, rb⟩ := seqB_ex k2 (R1.opd hw g2)
              exact ⟨a, b, us, ws, _, _, rfl, ha, hb, q _ [.ref a, .ref b] [d, d'] M1 H1 s1 R1 kk1 ok1 (by simp only [getAll, g1, g2]) (itOk_zip k1 k2)⟩
end
end SC

set_option Elab.async false
set_option linter.all false
set_option maxRecDepth 100000
namespace SC
open PySem PySem.Spec PyProof.Rows L2

/-! ### list comprehensions -/
def lcLoop (own : List Nat) (p : Pt) (os : List Opd) (es : List D) (ft : FT) (fe : FE) : List D → Ev → List D → Option (List D × Ev)
  | [], ρ, acc => if getAll (wipeE ρ own) os = some es then some (acc, ρ) else none
  | d :: ds, ρ, acc => if getAll (wipeE ρ own) os = some es then
      match bindPt p d (wipeE ρ own) with
      | none => none
      | some ρa => match ft ρa with
        | none => none
        | some (true, ρb) => match fe ρb with
          | some (.dat y, ρc) => lcLoop own p os es ft fe ds ρc (acc ++ [y])
          | _ => none
        | some (false, ρb) => lcLoop own p os es ft fe ds ρb acc
    else none
/-- a new list: its items -/
abbrev FN := Ev → Option (List D × Ev)
def nLc (own : List Nat) (p : Pt) (src : FS) (ft : FT) (fe : FE) : FN := fun ρ =>
  match src ρ with
  | none => none
  | some (ds, os, ρ1) => match getAll ρ1 os with
    | none => none
    | some es => if ds.length ≤ sLn then
        match lcLoop own p os es ft fe ds ρ1 [] with
        | some (out, ρ2) => some (out, backE ρ1 ρ2 own)
        | none => none
      else none
/-- a thing of nobody else's -/
structure NewAt (F : Fx) (M1 : Ms) (ρ : Ev) (σ : Sg) (M : Ms) (H H1 : Hp) (p : Addr) (ds : List D) : Prop where
  m : M1 p
  old : M p ∨ H p = none
  h0 : F.H0 p = none
  no : ¬ Mad ρ σ p
  at_ : ∃ xs, H1 p = some (.lst xs) ∧ DvS F.K F.T M1 H1 ds xs
def TEn (F : Fx) (f : FN) : TE := fun σ H Q => ∃ M ρ ds ρ', ER F M ρ σ H ∧ f ρ = some (ds, ρ') ∧
  ∀ p M1 H1, (∀ a, M1 a → M a ∨ a = p) → ER F M1 ρ' σ H1 → Keep M H H1 → NewAt F M1 ρ' σ M H H1 p ds → Q (.ref p) H1
/-- fewer mutable things -/
theorem ER.drop {F : Fx} {M M' : Ms} {ρ : Ev} {σ : Sg} {H : Hp} (R : ER F M ρ σ H) (s : ∀ a, M' a → M a) (m0 : ∀ a, F.M0 a → M' a) (ms : ∀ a, Mad ρ σ a → M' a) : ER F M' ρ σ H :=
  ER.of_se ⟨fun a m => R.mm a (s a m), R.ln, fun i z h => by
      obtain ⟨v, h1, h2⟩ := R.se.sl i z h
      refine ⟨v, h1, ?_⟩
      by_cases m : z.mut = true
      · obtain ⟨a, rfl, m2, q⟩ := h2.mutAt m
        exact SlK.of_mut m ⟨a, rfl, ms a ⟨i, z, h, m, h1⟩, MutAt.less s q⟩
      · cases z with
        | un => trivial
        | dat d => obtain ⟨x, e1, e2⟩ := h2; exact ⟨x, e1, Dv.less s d e2⟩
        | own _ => exact absurd rfl m
        | obj _ _ => exact absurd rfl m, R.ap⟩ m0 R.kp R.h0 (fun a m => (R.mad m).2) R.pr R.pp
def fNew (f : FN) : FE := fun ρ => match f ρ with
  | some (ds, ρ') => some (.dat (.lst ds), ρ')
  | none => none
theorem en_read {F : Fx} {f : FN} {σ : Sg} {H : Hp} {Q : VK} (h : TEd F (fNew f) σ H Q) : TEn F f σ H Q := by
  obtain ⟨M, ρ, o, ρ', R, hf, q⟩ := h
  unfold fNew at hf
  cases e : f ρ with
  | none => rw [e] at hf; cases hf
  | some p =>
    obtain ⟨ds, ρ1⟩ := p
    rw [e] at hf
    cases hf
    refine ⟨M, ρ, ds, _, R, e, fun p M1 H1 s R1 k n => ?_⟩
    obtain ⟨xs, e1, e2⟩ := n.at_
    have R2 : ER F (fun a => M1 a ∧ M a ∧ a ≠ p) _ σ H1 := R1.drop (fun a z => z.1) (fun a z => ⟨R1.m0 a z, R.m0 a z, fun e => R1.h0 a z (by rw [e]; exact n.h0)⟩) fun a z => by
      refine ⟨(R1.mad z).1, ?_, fun e => n.no (by rw [← e]; exact z)⟩
      rcases s a (R1.mad z).1 with y | y
      · exact y
      · exact absurd (by rw [← y]; exact z) n.no
    exact q _ _ H1 (fun a z => z.2.1) R2 k ⟨p, xs, rfl, fun z => z.2.2 rfl, e1, DvS.less (fun a z => z.1) ds e2⟩
/-- readings over some frame -/
def TGx (K : PySem.W.Frag) (T : Cl) (p : Pt) : TG := fun v σ H Q => ∃ F : Fx, F.K = K ∧ F.T = T ∧ TGd F p v σ H Q
def TTx (K : PySem.W.Frag) (T : Cl) (f : FT) : TT := fun σ H Q => ∃ F : Fx, F.K = K ∧ F.T = T ∧ TTd F f σ H Q
def TEx (K : PySem.W.Frag) (T : Cl) (f : FE) : TE := fun σ H Q => ∃ F : Fx, F.K = K ∧ F.T = T ∧ TEd F f σ H Q
theorem PE.ex {X : Cx} {T : Cl} {e : Expr} {f : FE} (h : ∀ F : Fx, F.K = X.K → F.T = T → PE X e (TEd F f)) : PE X e (TEx X.K T f) := ⟨fun pins s σ H Q I ⟨F, hK, hT, hw⟩ => (h F hK hT).run pins s σ H Q I hw⟩
theorem PT.ex {X : Cx} {T : Cl} {e : Expr} {f : FT} (h : ∀ F : Fx, F.K = X.K → F.T = T → PT X e (TTd F f)) : PT X e (TTx X.K T f) := ⟨fun pins s σ H Q I ⟨F, hK, hT, hw⟩ => (h F hK hT).run pins s σ H Q I hw⟩
theorem PTs.ex {X : Cx} {T : Cl} {e : List Expr} {f : FT} (h : ∀ F : Fx, F.K = X.K → F.T = T → PTs X e (TTd F f)) : PTs X e (TTx X.K T f) := ⟨fun pins s σ H Q I ⟨F, hK, hT, hw⟩ => (h F hK hT).run pins s σ H Q I hw⟩
theorem PG.ex {X : Cx} {T : Cl} {e : Expr} {p : Pt} (h : ∀ F : Fx, F.K = X.K → F.T = T → PG X e (TGd F p)) : PG X e (TGx X.K T p) := ⟨fun pins s σ H v u Q I r ⟨F, hK, hT, hw⟩ => (h F hK hT).run pins s σ H v u Q I r hw⟩
def fYes : FT := fun ρ => some (true, ρ)
theorem dts_nil {X : Cx} {F : Fx} : PTs X [] (TTd F fYes) := ⟨fun pins s σ H Q I ⟨M, ρ, b, ρ', R, hf, q⟩ => by
  cases hf
  exact pts_nil.run pins s σ H Q I (q M H (fun _ z => z) R Keep.rfl)⟩
theorem dts_one {X : Cx} {F : Fx} {c : Expr} {f : FT} (h : PT X c (TTd F f)) : PTs X [c] (TTd F f) := pts_one h
section
variable {K : PySem.W.Frag} {T : Cl} {M : Ms} {ρ : Ev} {σ : Sg} {H H' : Hp}
/-- a mutable thing that is no slot's changes -/
theorem SE.put (S : SE K T M ρ σ H) {Dd : Addr} {o : HO} (hm : M Dd) (hn : ¬ Mad ρ σ Dd) (ho : Mu (some o)) : SE K T M ρ σ (upd H Dd o) where
  mm := fun a m => by
    by_cases h : a = Dd
    · subst h; rw [upd_same]; exact ho
    · rw [upd_ne h]; exact S.mm a m
  ln := S.ln
  sl := fun i s h => by
    have kp : Keep M H (upd H Dd o) := fun a u e n => by rw [upd_ne (fun z => n (by rw [z]; exact hm))]; exact e
    obtain ⟨v, h1, h2⟩ := S.sl i s h
    refine ⟨v, h1, ?_⟩
    by_cases m : s.mut = true
    · obtain ⟨a, rfl, m2, q⟩ := h2.mutAt m
      have ne : a ≠ Dd := fun z => hn (by rw [← z]; exact ⟨i, s, h, m, h1⟩)
      exact SlK.of_mut m ⟨a, rfl, m2, MutAt.other kp S.mm (upd_ne ne) q⟩
    · cases s with
      | un => trivial
      | dat d => obtain ⟨x, e1, e2⟩ := h2; exact ⟨x, e1, Dv.keep kp S.mm d e2⟩
      | own _ => exact absurd rfl m
      | obj _ _ => exact absurd rfl m
  ap := S.ap
theorem SE.ext (S : SE K T M ρ σ H) (e : Ext H H') : SE K T M ρ σ H' where
  mm := fun a m => by
    cases q : H a with
    | none => have := S.mm a m; rw [q] at this; exact this.elim
    | some o => rw [e a o q]; have := S.mm a m; rw [q] at this; exact this
  ln := S.ln
  sl := fun i s h => by
    obtain ⟨v, h1, h2⟩ := S.sl i s h
    refine ⟨v, h1, ?_⟩
    by_cases m : s.mut = true
    · obtain ⟨a, rfl, m2, q⟩ := h2.mutAt m
      exact SlK.of_mut m ⟨a, rfl, m2, MutAt.ext e q⟩
    · cases s with
      | un => trivial
      | dat d => obtain ⟨x, e1, e2⟩ := h2; exact ⟨x, e1, Dv.ext e d e2⟩
      | own _ => exact absurd rfl m
      | obj _ _ => exact absurd rfl m
  ap := S.ap
/-- a new mutable thing -/
theorem SE.more (S : SE K T M ρ σ H) {Dd : Addr} {o : HO} (hn : H Dd = none) (ho : Mu (some o)) : SE K T (fun a => M a ∨ a = Dd) ρ σ (upd H Dd o) where
  mm := fun a m => by
    by_cases h : a = Dd
    · subst h; rw [upd_same]; exact ho
    · rw [upd_ne h]
      exact m.elim (S.mm a) fun z => absurd z h
  ln := S.ln
  sl := fun i s h => by
    have ex : Ext H (upd H Dd o) := Ext.new hn
    have to : ∀ a, (M a ∨ a = Dd) → M a ∨ H a = none := fun a z => z.elim .inl fun e => .inr (by rw [e]; exact hn)
    obtain ⟨v, h1, h2⟩ := S.sl i s h
    refine ⟨v, h1, ?_⟩
    cases s with
    | un => trivial
    | dat d => obtain ⟨x, e1, e2⟩ := h2; exact ⟨x, e1, Dv.ext ex d (Dv.to to d e2)⟩
    | own ds => obtain ⟨a, e1, m, xs, e2, e3⟩ := h2; exact ⟨a, e1, .inl m, xs, ex a _ e2, DvS.ext ex ds (DvS.to to ds e3)⟩
    | obj c ds => obtain ⟨a, e1, m, dx, xs, e2, l, e3⟩ := h2; exact ⟨a, e1, .inl m, dx, xs, ex a _ e2, l, DvS.ext ex ds (DvS.to to ds e3)⟩
  ap := S.ap
theorem SE.to_ER {F : Fx} (S : SE F.K F.T M ρ σ H) (m0 : ∀ a, F.M0 a → M a) : True := trivial
end
theorem wipe_same {σ σ2 : Sg} {own : List Nat} (hl : σ2.length = σ.length) (h : ∀ j, j ∉ own → σ2[j]? = (L2.wipe σ own)[j]?) : L2.wipe σ2 own = L2.wipe σ own := by
  apply List.ext_getElem?
  intro j
  rw [wipe_get, wipe_get]
  by_cases k : j ∈ own
  · rw [if_pos k, if_pos k, hl]
  · rw [if_neg k, if_neg k, h j k, wipe_get, if_neg k]
theorem wipe_wipe (σ : Sg) (own : List Nat) : L2.wipe (L2.wipe σ own) own = L2.wipe σ own := wipe_same (wipe_length _ _) fun _ _ => rfl
theorem setsE_length : ∀ {is : List Nat} {ds : List D} {ρ ρ' : Ev}, setsE ρ is ds = some ρ' → ρ'.length = ρ.length
  | [], [], ρ, ρ', h => by cases h; rfl
  | i :: is, d :: ds, ρ, ρ', h => by
    have := setsE_length (is := is) (ds := ds) h
    rw [this, List.length_set]
  | [], _ :: _, _, _, h => by cases h
  | _ :: _, [], _, _, h => by cases h
theorem bindPt_length {p : Pt} {d : D} {ρ ρ' : Ev} (h : bindPt p d ρ = some ρ') : ρ'.length = ρ.length := by
  cases p with
  | nm i => cases h; exact List.length_set
  | tp is => cases d with
    | tup ds => exact setsE_length h
    | _ => cases h
/-- the slots keep their number -/
theorem ER.len2 {F : Fx} {M M' : Ms} {ρ ρ' : Ev} {σ : Sg} {H H' : Hp} (R : ER F M ρ σ H) (R' : ER F M' ρ' σ H') : ρ'.length = ρ.length := R'.ln.trans R.ln.symm

theorem MutAt.to {K : PySem.W.Frag} {T : Cl} {M M' : Ms} {H : Hp} {a : Addr} (e : ∀ a, M' a → M a ∨ H a = none) : ∀ {s : Sl}, MutAt K T M H a s → MutAt K T M' H a s
  | .un, h => h.elim
  | .dat _, h => h.elim
  | .own ds, ⟨xs, e2, e3⟩ => ⟨xs, e2, DvS.to e ds e3⟩
  | .obj c ds, ⟨dx, xs, e2, l, e3⟩ => ⟨dx, xs, e2, l, DvS.to e ds e3⟩
theorem lc_read {K : PySem.W.Frag} {T : Cl} {own : List Nat} {p : Pt} {src : FS} {ft : FT} {fe : FE} (hp : ∀ i ∈ p.slots, i ∈ own) {F : Fx} (hK : F.K = K) (hT : F.T = T) {σ : Sg} {H : Hp} {Q : VK}
    (h : TEn F (nLc own p src ft fe) σ H Q) : tLc (TId F src) (TGx K T p) (TTx K T ft) (TEx K T fe) own σ H Q := by
  obtain ⟨M, ρ, o, ρ', R, hf, q⟩ := h
  subst hK hT
  unfold nLc at hf
  cases e1 : src ρ with
  | none => rw [e1] at hf; cases hf
  | some p1 =>
    obtain ⟨ds, os, ρ1⟩ := p1
    rw [e1] at hf
    simp only at hf
    cases e2 : getAll ρ1 os with
    | none => rw [e2] at hf; cases hf
    | some es =>
      rw [e2] at hf
      simp only at hf
      split at hf
      case isFalse => cases hf
      case isTrue hz =>
      cases e3 : lcLoop own p os es ft fe ds ρ1 [] with
      | none => rw [e3] at hf; cases hf
      | some p3 =>
        obtain ⟨out, ρ2⟩ := p3
        rw [e3] at hf
        cases hf
        refine ⟨M, ρ, ds, os, ρ1, R, e1, fun J vs es' M1 H1 s1 R1 k1 ok1 ge itok Dd hD => ?_⟩
        rw [e2] at ge
        cases ge
        -- the state at the start
        let σw := L2.wipe σ own
        let MD : Ms := fun a => M1 a ∨ a = Dd
        have nD1 : ¬ M1 Dd := R1.fresh hD
        have S0 : SE F.K F.T MD (wipeE ρ1 own) σw (upd H1 Dd (.lst [])) := (R1.se.wipe own).more hD trivial
        have mad1 : ∀ a, Mad (wipeE ρ1 own) σw a → M1 a := fun a z => R1.se.mad (Mad.of_wipe z).1
        have ok0 : ∀ (G : Fx), G.K = F.K → G.T = F.T → (∀ i, Opd.slot i ∈ os → i ∉ own) → OpdsOk G MD (upd H1 Dd (.lst [])) σw os vs := by
          intro G hGK hGT hown
          have to : ∀ a, MD a → M1 a ∨ H1 a = none := fun a z => z.elim .inl fun e => .inr (by rw [e]; exact hD)
          clear e2 itok e1 e3
          induction ok1 with
          | nil => exact .nil
          | @cons o v os vs h t ih =>
            refine .cons ?_ (ih fun i hi => hown i (List.mem_cons_of_mem _ hi))
            cases o with
            | dat d =>
              show Dv G.K G.T MD _ d v
              rw [hGK, hGT]
              exact Dv.ext (Ext.new hD) d (Dv.to to d h)
            | slot i =>
              show σw[i]? = some (some v)
              have hi := hown i List.mem_cons_self
              show (L2.wipe σ own)[i]? = _
              rw [wipe_get, if_neg hi]
              exact h
        -- slots among the containers are not the comprehension's own
        have hown : ∀ i, Opd.slot i ∈ os → i ∉ own := by
          have c0 : getAll (wipeE ρ1 own) os = some es := by
            cases ds with
            | nil =>
              unfold lcLoop at e3
              split at e3
              · assumption
              · cases e3
            | cons d ds =>
              unfold lcLoop at e3
              split at e3
              · assumption
              · cases e3
          clear e2 e1 itok ok1 ok0 e3
          induction os generalizing es with
          | nil => intro i hi; cases hi
          | cons o os ih =>
            simp only [getAll] at c0
            split at c0
            · rename_i d ds' g1 g2
              intro i hi
              rcases List.mem_cons.mp hi with z | z
              · subst z
                intro hin
                have : (match (wipeE ρ1 own)[i]? with
                  | some (.own ds) => some (D.lst ds)
                  | some (.obj c ds) => some (.ins c ds)
                  | _ => none) = some d := g1
                rw [wipeE_get, if_pos hin] at this
                split at this
                · rename_i hh
                  split at hh <;> cases hh
                · rename_i hh
                  split at hh <;> cases hh
                · cases this
              · exact ih _ g2 i z
            · cases c0
        refine ⟨fun i m H2 => m = ds.length - i ∧ i ≤ ds.length ∧ ∃ ρi acc us, lcLoop own p os es ft fe (ds.drop i) ρi acc = some (o, ρ2) ∧ SE F.K F.T MD (wipeE ρi own) σw H2 ∧
            Went M1 (wipeE ρ1 own) (wipeE ρi own) σw H1 H2 ∧ H2 Dd = some (.lst us) ∧ DvS F.K F.T MD H2 acc us ∧ acc.length ≤ i ∧ OpdsOk F MD H2 σw os vs,
          ⟨ds.length, by simp, Nat.zero_le _, ρ1, [], [], by rw [List.drop_zero]; exact e3, S0, ⟨fun _ z => z, fun i s h m => ⟨s, h, m⟩, fun a o e _ => by rw [upd_ne (ne_of_none e hD)]; exact e⟩, upd_same, rfl, Nat.zero_le _, ok0 F rfl rfl hown⟩, ?_⟩
        rintro i m H2 ⟨rfl, hi, ρi, acc, us, el, S, wt, hH2, hacc, hla, okc⟩
        have hchk : getAll (wipeE ρi own) os = some es := by
          cases q2 : ds.drop i with
          | nil =>
            rw [q2] at el
            unfold lcLoop at el
            split at el
            · assumption
            · cases el
          | cons d r =>
            rw [q2] at el
            unfold lcLoop at el
            split at el
            · assumption
            · cases el
        have notD : ∀ (G : Ev), (∀ a, Mad G σw a → Mad (wipeE ρ1 own) σw a) → ¬ Mad G σw Dd := fun G hG z => nD1 (mad1 _ (hG _ z))
        have doS : DoS F MD H2 es vs := by
          have R2 := S.enter
          have ok2 : OpdsOk (subF F.K F.T MD (wipeE ρi own) σw H2) MD H2 σw os vs := by
            clear hchk hown ok0 ok1 e2 itok e1 e3 el
            induction okc with
            | nil => exact .nil
            | @cons o v os vs h t ih =>
              refine .cons ?_ ih
              cases o with
              | dat d => exact h
              | slot i => exact h
          exact OpdsOk.getAll R2 ok2 hchk
        have ito := itok MD H2 i S.mm doS
        by_cases hlt : i < ds.length
        · refine .inr ⟨?_, fun H3 => ∃ ρi acc us, lcLoop own p os es ft fe (ds.drop (i + 1)) ρi acc = some (o, ρ2) ∧ SE F.K F.T MD (wipeE ρi own) σw H3 ∧
            Went M1 (wipeE ρ1 own) (wipeE ρi own) σw H1 H3 ∧ H3 Dd = some (.lst us) ∧ DvS F.K F.T MD H3 acc us ∧ acc.length ≤ i + 1 ∧ OpdsOk F MD H3 σw os vs, fun H' hh => ?_, fun x H3 hy => ?_⟩
          · exact (ito.1 ds[i] (by simp [hlt])).1
          · obtain ⟨ρj, acc', us', h1, h2⟩ := hh
            exact ⟨ds.length - (i + 1), by omega, rfl, hlt, ρj, acc', us', h1, h2⟩
          · obtain ⟨ex3, dvx⟩ := (ito.1 ds[i] (by simp [hlt])).2 x H3 hy
            rw [List.drop_eq_getElem_cons hlt] at el
            unfold lcLoop at el
            rw [if_pos hchk] at el
            cases b1 : bindPt p ds[i] (wipeE ρi own) with
            | none => rw [b1] at el; cases el
            | some ρa =>
              rw [b1] at el
              simp only at el
              have S3 := S.ext ex3
              refine ⟨subF F.K F.T MD (wipeE ρi own) σw H3, rfl, rfl, MD, wipeE ρi own, ds[i], ρa, S3.enter, dvx, b1, fun j hj a hm => ?_, fun σ2 Ra ag => ?_⟩
              · obtain ⟨s, g1, g2, g3⟩ := mem_mads.mp hm
                have g1' : (wipeE ρi own)[j]? = some s := g1
                rw [wipeE_get, if_pos (hp j hj)] at g1'
                split at g1'
                · cases g1'; cases g2
                · cases g1'
              · have lσ : σ2.length = σ.length := by
                  have h1 := Ra.ln
                  have h2 := bindPt_length b1
                  have h3 := S.ln
                  rw [wipe_length] at h3
                  omega
                have wσ : L2.wipe σ2 own = σw := wipe_same lσ fun j hj => by
                  rw [ag j fun z => hj (hp j z)]
                refine ⟨wσ, ?_⟩
                -- the mutable slots are as before
                have madA : ∀ a, Mad ρa σ2 a → Mad (wipeE ρi own) σw a := fun a z => by
                  obtain ⟨_, pm⟩ := Ra.mad z
                  rcases pm with pm | pm
                  · exact subF_P.mp pm
                  · have := S3.mm a (Ra.mad z).1
                    rw [show H3 a = none from pm] at this
                    exact this.elim
                cases t1 : ft ρa with
                | none => rw [t1] at el; cases el
                | some pb =>
                  obtain ⟨b, ρb⟩ := pb
                  rw [t1] at el
                  have Sa : SE F.K F.T MD ρa σ2 H3 := Ra.se
                  refine ⟨subF F.K F.T MD ρa σ2 H3, rfl, rfl, MD, ρa, b, ρb, Sa.enter, t1, fun M4 H4 s4 R4 k4 => ?_⟩
                  obtain ⟨Sb, wb⟩ := SE.leave Sa R4 s4
                  -- back to the wiped slots
                  have back : ∀ (ρz : Ev) (Hz : Hp), SE F.K F.T MD ρz σ2 Hz → Went MD ρa ρz σ2 H3 Hz → SE F.K F.T MD (wipeE ρz own) σw Hz ∧ Went M1 (wipeE ρ1 own) (wipeE ρz own) σw H1 Hz := fun ρz Hz Sz wz => by
                    have S' : SE F.K F.T MD (wipeE ρz own) σw Hz := by
                      have := Sz.wipe own
                      rw [wσ] at this
                      exact this
                    refine ⟨S', ⟨fun a z => ?_, fun j s hj m => ?_, fun a o ea na => ?_⟩⟩
                    · rw [← wσ] at z
                      have z2 := wz.mad a (Mad.of_wipe z).1
                      exact wt.mad a (madA a z2)
                    · obtain ⟨s', hj', m'⟩ := wt.mus j s hj m
                      have jn : j ∉ own := fun k => by
                        rw [wipeE_get, if_pos k] at hj'
                        split at hj'
                        · cases hj'; cases m'
                        · cases hj'
                      obtain ⟨v, ev, qv⟩ := S3.sl j s' hj'
                      obtain ⟨a, rfl, _, _⟩ := qv.mutAt m'
                      obtain ⟨s2, hj2, m2⟩ := (Ra.pr (j, a) (mem_mads.mpr ⟨s', hj', m', ev⟩)).2
                      obtain ⟨s3, hj3, m3⟩ := wz.mus j s2 hj2 m2
                      exact ⟨s3, by rw [wipeE_get, if_neg jn]; exact hj3, m3⟩
                    · have e2 := wt.kp a o ea na
                      have na2 : ¬ Mad (wipeE ρi own) σw a := fun z => na (wt.mad a z)
                      exact wz.kp a o (ex3 a o e2) fun z => na2 (madA a z)
                  have keepc : ∀ (Hz : Hp), (∀ a o, H2 a = some o → ¬ MD a → Hz a = some o) → OpdsOk F MD Hz σw os vs := fun Hz hk => OpdsOk.keep S.mm hk okc
                  have kz : ∀ (ρz : Ev) (Hz : Hp), Went MD ρa ρz σ2 H3 Hz → ∀ a o, H2 a = some o → ¬ Mad (wipeE ρi own) σw a → Hz a = some o := fun ρz Hz wz a o ea na => wz.kp a o (ex3 a o ea) fun z => na (madA a z)
                  have noD : ¬ Mad (wipeE ρi own) σw Dd := notD _ wt.mad
                  cases b with
                  | false =>
                    simp only at el
                    show if false = true then _ else _
                    rw [if_neg Bool.false_ne_true]
                    obtain ⟨Sz, wz⟩ := back ρb H4 Sb wb
                    have kk := kz ρb H4 wb
                    refine ⟨ρb, acc, us, el, Sz, wz, kk Dd _ hH2 noD, DvS.keep (fun a o ea na => kk a o ea fun z => na (S.mad z)) S.mm acc hacc, by omega, keepc H4 fun a o ea na => kk a o ea fun z => na (S.mad z)⟩
                  | true =>
                    simp only at el
                    show if true = true then _ else _
                    rw [if_pos rfl]
                    cases f1 : fe ρb with
                    | none => rw [f1] at el; cases el
                    | some pc =>
                      obtain ⟨oy, ρc⟩ := pc
                      rw [f1] at el
                      cases oy with
                      | slot _ => cases el
                      | dat y =>
                        simp only at el
                        refine ⟨subF F.K F.T MD ρb σ2 H4, rfl, rfl, MD, ρb, _, ρc, Sb.enter, f1, fun v M5 H5 s5 R5 k5 ok5 => ?_⟩
                        obtain ⟨Sc, wc⟩ := SE.leave Sb R5 s5
                        have eM : M5 = MD := by
                          funext a
                          exact propext ⟨s5 a, R5.m0 a⟩
                        subst eM
                        have wbc := wb.trans (M := MD) wc
                        obtain ⟨Sz, wz⟩ := back ρc H5 Sc wbc
                        have kk := kz ρc H5 wbc
                        have hD5 : H5 Dd = some (.lst us) := kk Dd _ hH2 noD
                        have kD : Keep MD H5 (upd H5 Dd (.lst (us ++ [v]))) := fun a u e n => by rw [upd_ne (fun z => n (by rw [z]; exact .inr rfl))]; exact e
                        have noD' : ¬ Mad (wipeE ρc own) σw Dd := notD _ wz.mad
                        have k2 : Keep MD H2 (upd H5 Dd (.lst (us ++ [v]))) := fun a o ea na => kD a o (kk a o ea fun z => na (S.mad z)) na
                        refine ⟨us, hD5, ?_, ρc, acc ++ [y], us ++ [v], el, Sz.put (.inr rfl) noD' trivial, ⟨wz.mad, wz.mus, fun a o ea na => ?_⟩, upd_same, DvS.append (DvS.keep k2 S.mm acc hacc) (DvS.cons (Dv.keep kD Sz.mm y ok5) DvS.nil), ?_, keepc _ k2⟩
                        · have := hacc.length
                          rw [← sLn_eq]
                          omega
                        · rw [upd_ne (ne_of_none ea hD)]
                          exact wz.kp a o ea na
                        · rw [List.length_append]
                          simp only [List.length_cons, List.length_nil]
                          omega
        · have ei : i = ds.length := by omega
          refine .inl ⟨ito.2 ei, ?_⟩
          rw [List.drop_eq_nil_of_le (by omega)] at el
          unfold lcLoop at el
          rw [if_pos hchk] at el
          cases el
          have ln2 : ρ2.length = ρ1.length := by
            have h1 := S.ln
            have h2 := R1.ln
            rw [wipeE_length, wipe_length] at h1
            omega
          have kM : Keep M1 H1 H2 := fun a o ea na => wt.kp a o ea fun z => na (mad1 a z)
          have getB : ∀ j, (backE ρ1 ρ2 own)[j]? = if j ∈ own then ρ1[j]? else ρ2[j]? := fun j => backE_get ρ1 ρ2 ln2.symm j own
          have outW : ∀ (j : Nat) (s : Sl), j ∉ own → ρ2[j]? = some s → (wipeE ρ2 own)[j]? = some s ∧ σw[j]? = σ[j]? := fun j s hj hs => ⟨by rw [wipeE_get, if_neg hj]; exact hs, by show (L2.wipe σ own)[j]? = _; rw [wipe_get, if_neg hj]⟩
          have madB : ∀ (j : Nat) (s : Sl) (a : Addr), (backE ρ1 ρ2 own)[j]? = some s → s.mut = true → σ[j]? = some (some (.ref a)) → Mad ρ1 σ a := fun j s a hj m hs => by
            rw [getB] at hj
            by_cases k : j ∈ own
            · rw [if_pos k] at hj; exact ⟨j, s, hj, m, hs⟩
            · rw [if_neg k] at hj
              obtain ⟨h1, h2⟩ := outW j s k hj
              exact (Mad.of_wipe (wt.mad a ⟨j, s, h1, m, by rw [h2]; exact hs⟩)).1
          have toD : ∀ a, MD a → M1 a ∨ H1 a = none := fun a z => z.elim .inl fun e => .inr (by rw [e]; exact hD)
          have k0 : Keep MD (upd H1 Dd (.lst [])) H2 := fun a o ea na => by
            have ne : a ≠ Dd := fun z => na (.inr z)
            rw [upd_ne ne] at ea
            exact kM a o ea fun z => na (.inl z)
          have SF : SE F.K F.T MD (backE ρ1 ρ2 own) σ H2 := by
            refine ⟨fun a z => S.mm a z, by rw [backE_length, ln2]; exact R1.ln, fun j s hj => ?_, fun j l s t v h1 m1 h2 m2 e1 e2 => ?_⟩
            · have hj0 := hj
              rw [getB] at hj
              by_cases k : j ∈ own
              · rw [if_pos k] at hj
                obtain ⟨v, g1, g2⟩ := R1.se.sl j s hj
                refine ⟨v, g1, ?_⟩
                by_cases m : s.mut = true
                · obtain ⟨a, rfl, m2, qa⟩ := g2.mutAt m
                  have na : ¬ Mad (wipeE ρ1 own) σw a := fun z => by
                    obtain ⟨_, key⟩ := Mad.of_wipe z
                    obtain ⟨l, t, z1, z2, z3⟩ := z
                    obtain ⟨ln, z4, z5⟩ := key l t z1 z2 z3
                    have := R1.ap j l s t _ hj m z4 z2 g1 z5
                    exact ln (by rw [← this]; exact k)
                  have eqa : H2 a = H1 a := by
                    cases qq : H1 a with
                    | none => exact absurd qq (R1.mh a m2)
                    | some o => exact wt.kp a o qq na
                  have ne : a ≠ Dd := fun z => nD1 (by rw [← z]; exact m2)
                  exact SlK.of_mut m ⟨a, rfl, .inl m2, MutAt.other k0 S0.mm (by rw [upd_ne ne]; exact eqa) (MutAt.ext (Ext.new hD) (MutAt.to toD qa))⟩
                · cases s with
                  | un => trivial
                  | dat d => obtain ⟨x, c1, c2⟩ := g2; exact ⟨x, c1, Dv.keep k0 S0.mm d (Dv.ext (Ext.new hD) d (Dv.to toD d c2))⟩
                  | own _ => exact absurd rfl m
                  | obj _ _ => exact absurd rfl m
              · rw [if_neg k] at hj
                obtain ⟨h1, h2⟩ := outW j s k hj
                obtain ⟨v, g1, g2⟩ := S.sl j s h1
                rw [h2] at g1
                refine ⟨v, g1, ?_⟩
                by_cases m : s.mut = true
                · obtain ⟨a, rfl, m2, qa⟩ := g2.mutAt m
                  exact SlK.of_mut m ⟨a, rfl, .inl (R1.se.mad (madB j s a hj0 m g1)), qa⟩
                · cases s with
                  | un => trivial
                  | dat d => exact g2
                  | own _ => exact absurd rfl m
                  | obj _ _ => exact absurd rfl m
            · rw [getB] at h1 h2
              -- the address of a slot outside is one of an outside slot at the start
              have outA : ∀ (j : Nat) (s : Sl) (a : Addr), j ∉ own → ρ2[j]? = some s → s.mut = true → σ[j]? = some (some (.ref a)) → ∃ (l : Nat) (t : Sl), l ∉ own ∧ ρ1[l]? = some t ∧ t.mut = true ∧ σ[l]? = some (some (.ref a)) := fun j s a k hj m hs => by
                obtain ⟨c1, c2⟩ := outW j s k hj
                have z := wt.mad a ⟨j, s, c1, m, by rw [c2]; exact hs⟩
                obtain ⟨_, key⟩ := Mad.of_wipe z
                obtain ⟨l, t, z1, z2, z3⟩ := z
                obtain ⟨ln, z4, z5⟩ := key l t z1 z2 z3
                exact ⟨l, t, ln, z4, z2, z5⟩
              by_cases kj : j ∈ own
              · rw [if_pos kj] at h1
                by_cases kl : l ∈ own
                · rw [if_pos kl] at h2
                  exact R1.ap j l s t v h1 m1 h2 m2 e1 e2
                · rw [if_neg kl] at h2
                  obtain ⟨w, g1, g2⟩ := R1.se.sl j s h1
                  obtain ⟨a, rfl, _, _⟩ := g2.mutAt m1
                  rw [e1] at g1
                  cases g1
                  obtain ⟨l', t', ln', c1, c2, c3⟩ := outA l t a kl h2 m2 e2
                  have := R1.ap j l' s t' _ h1 m1 c1 c2 e1 c3
                  exact absurd (by rw [← this]; exact kj) ln'
              · rw [if_neg kj] at h1
                by_cases kl : l ∈ own
                · rw [if_pos kl] at h2
                  obtain ⟨w, g1, g2⟩ := R1.se.sl l t h2
                  obtain ⟨a, rfl, _, _⟩ := g2.mutAt m2
                  rw [e2] at g1
                  cases g1
                  obtain ⟨l', t', ln', c1, c2, c3⟩ := outA j s a kj h1 m1 e1
                  have := R1.ap l l' t t' _ h2 m2 c1 c2 e2 c3
                  exact absurd (by rw [← this]; exact kl) ln'
                · rw [if_neg kl] at h2
                  obtain ⟨c1, c2⟩ := outW j s kj h1
                  obtain ⟨c3, c4⟩ := outW l t kl h2
                  exact S.ap j l s t v c1 m1 c3 m2 (by rw [c2]; exact e1) (by rw [c4]; exact e2)
          have RF : ER F MD (backE ρ1 ρ2 own) σ H2 := by
            refine ER.of_se SF (fun a z => .inl (R1.m0 a z)) (fun a o e n => ?_) R1.h0 (fun a ⟨j, s, hj, m, hs⟩ => (R1.mad (madB j s a hj m hs)).2) (fun pp hpp => ?_) R1.pp
            · have e1 := R1.kp a o e n
              refine wt.kp a o e1 fun z => ?_
              rcases (R1.mad (Mad.of_wipe z).1).2 with y | y
              · exact n y
              · rw [y] at e; cases e
            · obtain ⟨g1, s, g2, g3⟩ := R1.pr pp hpp
              refine ⟨g1, ?_⟩
              rw [getB]
              by_cases k : pp.1 ∈ own
              · rw [if_pos k]; exact ⟨s, g2, g3⟩
              · rw [if_neg k]
                obtain ⟨s', h1, h2⟩ := wt.mus pp.1 s (by rw [wipeE_get, if_neg k]; exact g2) g3
                rw [wipeE_get, if_neg k] at h1
                exact ⟨s', h1, h2⟩
          have oldD : M Dd ∨ H Dd = none := by
            by_cases mm : M Dd
            · exact .inl mm
            · cases qq : H Dd with
              | none => exact .inr rfl
              | some o => rw [k1 Dd o qq mm] at hD; cases hD
          have h0D : F.H0 Dd = none := by
            cases qq : F.H0 Dd with
            | none => rfl
            | some o =>
              by_cases pm : F.P Dd
              · exact absurd (R1.m0 Dd (R1.pp Dd pm)) nD1
              · rw [R1.kp Dd o qq pm] at hD; cases hD
          exact q Dd MD H2 (fun a z => z.imp (s1 a) id) RF (k1.trans (kM.mono s1)) ⟨.inr rfl, oldD, h0D, fun ⟨j, s, hj, m, hs⟩ => nD1 (R1.se.mad (madB j s Dd hj m hs)), us, hH2, hacc⟩
end SC

set_option Elab.async false
set_option linter.all false
set_option maxRecDepth 100000
namespace SC
open PySem PySem.Spec PyProof.Rows L2

section
variable {K : PySem.W.Frag} {T : Cl} {M M' : Ms} {H H' : Hp}
mutual
theorem Dv.mv (k : Keep M H H') (mm : ∀ a, M a → Mu (H a)) (s : ∀ a, M' a → M a ∨ H a = none) : ∀ (d : D) {v : V}, Dv K T M H d v → Dv K T M' H' d v
  | .non, _, h => h
  | .bl _, _, h => h
  | .int _, _, h => h
  | .str _, _, h => h
  | .tup ds, v, h => by
    obtain ⟨a, xs, e, q, r⟩ := h
    exact ⟨a, xs, e, SqT.keep q k mm, DvS.mv k mm s ds r⟩
  | .lst ds, v, h => by
    obtain ⟨a, xs, e, n, q, r⟩ := h
    exact ⟨a, xs, e, fun z => (s a z).elim n (fun w => by rw [w] at q; cases q), k a _ q n, DvS.mv k mm s ds r⟩
  | .ins c ds, v, h => by
    obtain ⟨a, dx, xs, e, n, q, l, r⟩ := h
    exact ⟨a, dx, xs, e, fun z => (s a z).elim n (fun w => by rw [w] at q; cases q), k a _ q n, l, DvS.mv k mm s ds r⟩
  | .dic ks ds, v, h => by
    obtain ⟨a, xs, e, n, q, l, r⟩ := h
    exact ⟨a, xs, e, fun z => (s a z).elim n (fun w => by rw [w] at q; cases q), k a _ q n, l, DvS.mv k mm s ds r⟩
  | .scr ns, v, h => by
    obtain ⟨a, e, q⟩ := h
    exact ⟨a, e, SqF.keep q k mm⟩
  | .cl _, _, h => h
theorem DvS.mv (k : Keep M H H') (mm : ∀ a, M a → Mu (H a)) (s : ∀ a, M' a → M a ∨ H a = none) : ∀ (ds : List D) {xs : List V}, DvS K T M H ds xs → DvS K T M' H' ds xs
  | [], _, h => h
  | d :: ds, _, h => by
    obtain ⟨x, r, e, h1, h2⟩ := h
    exact ⟨x, r, e, Dv.mv k mm s d h1, DvS.mv k mm s ds h2⟩
end
end

section
variable {X : Cx} {F : Fx} {pos : Pos}
theorem dn_lc {elt tg iter : Expr} {ifs : List Expr} {scope : Scope} {own : List (Str × Nat)} {p : Pt} {src : FS} {ft : FT} {fe : FE} (hK : F.K = X.K) (hc : X.calm = true) (hN : X.N.Nodup) (hi : PI X tg iter (TId F src)) (ok : BlkOk X.N X.env.scope scope own) (hp : ∀ i ∈ p.slots, i ∈ own.map (·.2))
    (hg : ∀ (s : Shared) (H : Hp) (C : Addr) (cl : List (Str × Addr)) (fp : List Addr) (G : Fx), G.K = X.K → G.T = F.T → PG (X.blk s H scope (compEnvC scope cl C X.env) fp) tg (TGd G p))
    (ht : ∀ (s : Shared) (H : Hp) (C : Addr) (cl : List (Str × Addr)) (fp : List Addr) (G : Fx), G.K = X.K → G.T = F.T → PTs (X.blk s H scope (compEnvC scope cl C X.env) fp) ifs (TTd G ft))
    (he : ∀ (s : Shared) (H : Hp) (C : Addr) (cl : List (Str × Addr)) (fp : List Addr) (G : Fx), G.K = X.K → G.T = F.T → PE (X.blk s H scope (compEnvC scope cl C X.env) fp) elt (TEd G fe))
    (hs : ∀ x, foldedSetIterable iter X.env x = pure x) : PE X (.ListComp elt [⟨tg, iter, ifs, 0⟩] scope pos) (TEn F (nLc (own.map (·.2)) p src ft fe)) :=
  PE.imp (pe_lc hc hN hi ok (fun s H C cl fp => PG.ex (T := F.T) fun G h1 h2 => hg s H C cl fp G h1 h2) (fun s H C cl fp => PTs.ex (T := F.T) fun G h1 h2 => ht s H C cl fp G h1 h2)
    (fun s H C cl fp => PE.ex (T := F.T) fun G h1 h2 => he s H C cl fp G h1 h2) hs) fun σ H Q h => lc_read hp hK rfl h
theorem de_new {e : Expr} {f : FN} (h : PE X e (TEn F f)) : PE X e (TEd F (fNew f)) := PE.imp h fun _ _ _ => en_read
def nDisp (fa : FA) : FN := fun ρ =>
  match fa ρ with
  | none => none
  | some (os, ρ1) => match datAll os with
    | none => none
    | some ds => if ds.length ≤ sLn then some (ds, ρ1) else none
theorem ER.more {F : Fx} {M : Ms} {ρ : Ev} {σ : Sg} {H : Hp} (R : ER F M ρ σ H) {p : Addr} {o : HO} (hp : H p = none) (ho : Mu (some o)) : ER F (fun a => M a ∨ a = p) ρ σ (upd H p o) :=
  ER.of_se (R.se.more hp ho) (fun a z => .inl (R.m0 a z)) (fun a u e n => (Ext.new hp) a u (R.kp a u e n)) R.h0 (fun a m => (R.mad m).2) R.pr R.pp
/-- what was not there at the entry -/
theorem ER.h0n {F : Fx} {M : Ms} {ρ : Ev} {σ : Sg} {H : Hp} (R : ER F M ρ σ H) {p : Addr} (hp : H p = none) : F.H0 p = none := by
  cases q : F.H0 p with
  | none => rfl
  | some o =>
    by_cases pm : F.P p
    · exact absurd hp (R.mh p (R.m0 p (R.pp p pm)))
    · rw [R.kp p o q pm] at hp; cases hp
theorem old_of {M : Ms} {H H1 : Hp} {p : Addr} (k : Keep M H H1) (hp : H1 p = none) : M p ∨ H p = none := by
  by_cases mm : M p
  · exact .inl mm
  · cases qq : H p with
    | none => exact .inr rfl
    | some o => rw [k p o qq mm] at hp; cases hp
theorem ER.newLst {F : Fx} {M M1 : Ms} {ρ : Ev} {σ : Sg} {H H1 : Hp} (R : ER F M1 ρ σ H1) (k : Keep M H H1) (s : ∀ a, M1 a → M a) {p : Addr} {ds : List D} {vs : List V} (hp : H1 p = none) (dv : DvS F.K F.T M1 H1 ds vs) :
    ER F (fun a => M1 a ∨ a = p) ρ σ (upd H1 p (.lst vs)) ∧ NewAt F (fun a => M1 a ∨ a = p) ρ σ M H (upd H1 p (.lst vs)) p ds :=
  ⟨R.more hp trivial, .inr rfl, old_of k hp, R.h0n hp, fun z => R.fresh hp (R.se.mad z), vs, upd_same, DvS.ext (Ext.new hp) ds (DvS.to (fun a z => z.elim .inl fun e => .inr (by rw [e]; exact hp)) ds dv)⟩
theorem dn_lst {es : List Expr} {f : FA} (h : PA X es (TAd F f)) : PE X (.List es pos) (TEn F (nDisp f)) := by
  refine PE.imp (pe_lst h) ?_
  rintro σ H Q ⟨M, ρ, o, ρ', R, hf, q⟩
  unfold nDisp at hf
  cases e1 : f ρ with
  | none => rw [e1] at hf; cases hf
  | some p1 =>
    obtain ⟨os, ρ1⟩ := p1
    rw [e1] at hf
    simp only at hf
    cases e2 : datAll os with
    | none => rw [e2] at hf; cases hf
    | some ds =>
      rw [e2] at hf
      simp only at hf
      split at hf
      · rename_i hz
        cases hf
        refine ⟨M, ρ, os, _, R, e1, fun vs M1 H1 s1 R1 k1 ok1 => ?_⟩
        have dv := OpdsOk.datAll ok1 e2
        refine ⟨by rw [← dv.length, ← sLn_eq]; exact hz, fun p hp => ?_⟩
        obtain ⟨R2, n2⟩ := R1.newLst k1 s1 hp dv
        exact q p _ _ (fun a z => z.imp (s1 a) id) R2 (k1.trans (Ext.new hp).keep) n2
      · cases hf
end

/-! ### several operands, some of them new lists -/
inductive Kd where
  | dat (d : D) | new (ds : List D)
abbrev FM := Ev → Option (List Kd × Ev)
def KdOk (F : Fx) (M : Ms) (H : Hp) : Kd → V → Prop
  | .dat d, v => Dv F.K F.T M H d v
  | .new ds, v => ∃ p xs, v = .ref p ∧ M p ∧ F.H0 p = none ∧ H p = some (.lst xs) ∧ DvS F.K F.T M H ds xs
def newsOf : List Kd → List V → List Addr
  | .dat _ :: ks, _ :: vs => newsOf ks vs
  | .new _ :: ks, .ref p :: vs => p :: newsOf ks vs
  | _, _ => []
structure KdsOk (F : Fx) (M1 : Ms) (ρ : Ev) (σ : Sg) (M : Ms) (H H1 : Hp) (ks : List Kd) (vs : List V) : Prop where
  ok : Paired (KdOk F M1 H1) ks vs
  nod : (newsOf ks vs).Nodup
  no : ∀ p ∈ newsOf ks vs, ¬ Mad ρ σ p
  old : ∀ p ∈ newsOf ks vs, M p ∨ H p = none
def TAn (F : Fx) (f : FM) : TA := fun σ H Q => ∃ M ρ ks ρ', ER F M ρ σ H ∧ f ρ = some (ks, ρ') ∧
  ∀ vs M1 H1, (∀ a, M1 a → M a ∨ a ∈ newsOf ks vs) → ER F M1 ρ' σ H1 → Keep M H H1 → KdsOk F M1 ρ' σ M H H1 ks vs → Q vs H1
def mNil : FM := fun ρ => some ([], ρ)
def mDat (fa : FE) (fr : FM) : FM := fun ρ =>
  match fa ρ with
  | some (.dat d, ρ1) => match fr ρ1 with
    | some (ks, ρ2) => some (.dat d :: ks, ρ2)
    | none => none
  | _ => none
def mNew (fa : FN) (fr : FM) : FM := fun ρ =>
  match fa ρ with
  | some (ds, ρ1) => match fr ρ1 with
    | some (ks, ρ2) => some (.new ds :: ks, ρ2)
    | none => none
  | none => none
theorem news_lt {F : Fx} {M : Ms} {H : Hp} : ∀ {ks : List Kd} {vs : List V}, Paired (KdOk F M H) ks vs → ∀ p ∈ newsOf ks vs, M p ∧ F.H0 p = none
  | _, _, .nil, p, hp => by cases hp
  | .dat d :: ks, v :: vs, .cons h t, p, hp => news_lt t p hp
  | .new ds :: ks, v :: vs, .cons h t, p, hp => by
    obtain ⟨q, xs, rfl, m, h0, _⟩ := h
    rcases List.mem_cons.mp hp with e | e
    · subst e; exact ⟨m, h0⟩
    · exact news_lt t p e
section
variable {X : Cx} {F : Fx} {e : Expr} {es : List Expr}
theorem dm_nil : PA X [] (TAn F mNil) := by
  refine PA.imp pa_nil ?_
  rintro σ H Q ⟨M, ρ, o, ρ', R, hf, q⟩
  cases hf
  exact q [] M H (fun _ z => .inl z) R Keep.rfl ⟨Paired.nil, List.nodup_nil, fun p hp => absurd hp (by simp [newsOf]), fun p hp => absurd hp (by simp [newsOf])⟩
theorem dm_dat {fa : FE} {fr : FM} (ha : PE X e (TEd F fa)) (hr : PA X es (TAn F fr)) (hs : starEach (e :: es) X.env = (false, eval e X.env) :: starEach es X.env) : PA X (e :: es) (TAn F (mDat fa fr)) := by
  refine PA.imp (pa_cons ha hr hs) ?_
  rintro σ H Q ⟨M, ρ, os, ρ', R, hf, q⟩
  unfold mDat at hf
  split at hf
  · rename_i d ρ1 e1
    split at hf
    · rename_i ks ρ2 e2
      cases hf
      refine ⟨M, ρ, _, _, R, e1, fun v M1 H1 s1 R1 k1 ok1 => ⟨M1, ρ1, ks, _, R1, e2, fun vs M2 H2 s2 R2 k2 ok2 => ?_⟩⟩
      refine q (v :: vs) M2 H2 (fun a z => (s2 a z).imp (s1 a) id) R2 (k1.trans (k2.mono s1)) ⟨.cons ?_ ok2.ok, ok2.nod, ok2.no, fun p hp => ?_⟩
      · refine Dv.mv k2 R1.mm (fun a z => ?_) d ok1
        rcases s2 a z with y | y
        · exact .inl y
        · exact ok2.old a y
      · rcases ok2.old p hp with y | y
        · exact .inl (s1 p y)
        · exact old_of k1 y
    · cases hf
  · cases hf
theorem dm_new {fa : FN} {fr : FM} (ha : PE X e (TEn F fa)) (hr : ∀ G : Fx, G.K = F.K → G.T = F.T → PA X es (TAn G fr)) (hs : starEach (e :: es) X.env = (false, eval e X.env) :: starEach es X.env) : PA X (e :: es) (TAn F (mNew fa fr)) := by
  refine PA.imp (pa_cons (t := fun σ H Q => ∃ G : Fx, G.K = F.K ∧ G.T = F.T ∧ TAn G fr σ H Q) ha ⟨fun pos pins s σ H Q I ⟨G, h1, h2, hw⟩ => (hr G h1 h2).run pos pins s σ H Q I hw⟩ hs) ?_
  rintro σ H Q ⟨M, ρ, os, ρ', R, hf, q⟩
  unfold mNew at hf
  split at hf
  · rename_i ds ρ1 e1
    split at hf
    · rename_i ks ρ2 e2
      cases hf
      refine ⟨M, ρ, _, _, R, e1, fun p M1 H1 s1 R1 k1 n => ⟨subF F.K F.T M1 ρ1 σ H1, rfl, rfl, M1, ρ1, ks, _, R1.se.enter, e2, fun vs M2 H2 s2 R2 k2 ok2 => ?_⟩⟩
      obtain ⟨xs, c1, c2⟩ := n.at_
      have h1n : ∀ a, H1 a = none → F.H0 a = none := fun a h => R1.h0n h
      have R3 : ER F M2 ρ' σ H2 := by
        refine ER.of_se R2.se (fun a z => R2.m0 a (R1.m0 a z)) (fun a o ea na => ?_) R.h0 (fun a m => ?_) (fun pp hpp => ?_) R.pp
        · refine R2.kp a o (R1.kp a o ea na) fun z => ?_
          rcases (R1.mad (subF_P.mp z)).2 with y | y
          · exact na y
          · rw [y] at ea; cases ea
        · rcases (R2.mad m).2 with y | y
          · exact (R1.mad (subF_P.mp y)).2
          · exact .inr (h1n a y)
        · obtain ⟨g1, s, g2, g3⟩ := R1.pr pp hpp
          exact R2.pr pp (mem_mads.mpr ⟨s, g2, g3, g1⟩)
      have c3 : H2 p = some (.lst xs) := R2.kp p _ c1 fun z => n.no (subF_P.mp z)
      have news : ∀ r ∈ newsOf ks vs, H1 r = none := fun r hr => (news_lt ok2.ok r hr).2
      have toM : ∀ a, M2 a → M1 a ∨ H1 a = none := fun a z => (s2 a z).imp id (news a)
      refine q (.ref p :: vs) M2 H2 (fun a z => ?_) R3 (fun a o ea na => ?_) ⟨.cons ⟨p, xs, rfl, R2.m0 p n.m, n.h0, c3, DvS.mv k2 R1.mm toM ds c2⟩ ?_, ?_, fun r hr => ?_, fun r hr => ?_⟩
      · rcases s2 a z with y | y
        · rcases s1 a y with x | x
          · exact .inl x
          · exact .inr (by rw [x]; exact List.mem_cons_self)
        · exact .inr (List.mem_cons_of_mem _ y)
      · have e2 := k1 a o ea na
        refine k2 a o e2 fun z => ?_
        rcases s1 a z with x | x
        · exact na x
        · subst x
          rcases n.old with y | y
          · exact na y
          · rw [y] at ea; cases ea
      · have : ∀ {ks : List Kd} {vs : List V}, Paired (KdOk (subF F.K F.T M1 ρ1 σ H1) M2 H2) ks vs → Paired (KdOk F M2 H2) ks vs := by
          intro ks vs h
          refine Paired.mapP h fun k v hk => ?_
          cases k with
          | dat d => exact hk
          | new ds => obtain ⟨r, xs, e, m, h0, c⟩ := hk; exact ⟨r, xs, e, m, h1n r h0, c⟩
        exact this ok2.ok
      · refine List.nodup_cons.mpr ⟨fun z => ?_, ok2.nod⟩
        rw [news p z] at c1; cases c1
      · rcases List.mem_cons.mp hr with x | x
        · subst x
          intro z
          rcases (R2.mad z).2 with y | y
          · exact n.no (subF_P.mp y)
          · rw [show H1 r = none from y] at c1; cases c1
        · exact ok2.no r x
      · rcases List.mem_cons.mp hr with x | x
        · subst x; exact n.old
        · have := news r x
          exact old_of k1 this
    · cases hf
  · cases hf
end
end SC

set_option Elab.async false
set_option linter.all false
set_option maxRecDepth 100000
namespace SC
open PySem PySem.Spec PyProof.Rows L2

/-! ### the slots change -/
section
variable {F : Fx} {M : Ms} {ρ : Ev} {σ : Sg} {H : Hp}
/-- a slot gets a new list -/
theorem SE.setOwn {K : PySem.W.Frag} {T : Cl} (S : SE K T M ρ σ H) {i : Nat} {p : Addr} {ds : List D} {xs : List V} (m : M p) (no : ¬ Mad ρ σ p) (hp : H p = some (.lst xs)) (dv : DvS K T M H ds xs) : SE K T M (ρ.set i (.own ds)) (σ.set i (some (.ref p))) H where
  mm := S.mm
  ln := by rw [List.length_set, List.length_set]; exact S.ln
  sl := fun j s e => by
    rw [List.getElem?_set] at e ⊢
    by_cases k : i = j
    · subst k
      rw [if_pos rfl] at e ⊢
      split at e
      · rename_i hl
        cases e
        exact ⟨some (.ref p), by rw [if_pos (by rw [← S.ln]; exact hl)], p, rfl, m, xs, hp, dv⟩
      · cases e
    · rw [if_neg k] at e ⊢
      exact S.sl j s e
  ap := fun j l s t u h1 m1 h2 m2 e1 e2 => by
    rw [List.getElem?_set] at h1 h2 e1 e2
    by_cases k1 : i = j
    · by_cases k2 : i = l
      · exact k1.symm.trans k2
      · rw [if_neg k2] at h2 e2
        rw [if_pos k1] at e1
        split at e1
        · cases e1
          exact absurd ⟨l, t, h2, m2, e2⟩ no
        · cases e1
    · rw [if_neg k1] at h1 e1
      by_cases k2 : i = l
      · rw [if_pos k2] at e2
        split at e2
        · cases e2
          exact absurd ⟨j, s, h1, m1, e1⟩ no
        · cases e2
      · rw [if_neg k2] at h2 e2
        exact S.ap j l s t u h1 m1 h2 m2 e1 e2
theorem Mad.of_setOwn {i : Nat} {ds : List D} {p a : Addr} (h : Mad (ρ.set i (.own ds)) (σ.set i (some (.ref p))) a) : a = p ∨ Mad ρ σ a := by
  obtain ⟨j, s, h1, m, h2⟩ := h
  rw [List.getElem?_set] at h1 h2
  by_cases k : i = j
  · rw [if_pos k] at h2
    split at h2
    · cases h2; exact .inl rfl
    · cases h2
  · rw [if_neg k] at h1 h2
    exact .inr ⟨j, s, h1, m, h2⟩
theorem ER.setOwn (R : ER F M ρ σ H) {i : Nat} {p : Addr} {ds : List D} {xs : List V} (m : M p) (no : ¬ Mad ρ σ p) (h0 : F.H0 p = none) (hp : H p = some (.lst xs)) (dv : DvS F.K F.T M H ds xs) (hi : ∀ a, (i, a) ∉ F.pa) :
    ER F M (ρ.set i (.own ds)) (σ.set i (some (.ref p))) H :=
  ER.of_se (R.se.setOwn m no hp dv) R.m0 R.kp R.h0 (fun a z => by
    rcases Mad.of_setOwn z with e | z
    · exact .inr (by rw [e]; exact h0)
    · exact (R.mad z).2) (fun pp hpp => by
    have k : i ≠ pp.1 := fun k => hi pp.2 (by rw [k]; exact hpp)
    rw [List.getElem?_set_ne k, List.getElem?_set_ne k]
    exact R.pr pp hpp) R.pp
/-- the list at a slot changes -/
theorem SE.putOwn {K : PySem.W.Frag} {T : Cl} (S : SE K T M ρ σ H) {i : Nat} {p : Addr} {ds ds' : List D} {xs : List V} (hi : ρ[i]? = some (.own ds)) (hs : σ[i]? = some (some (.ref p))) (m : M p) (dv : DvS K T M H ds' xs) : SE K T M (ρ.set i (.own ds')) σ (upd H p (.lst xs)) := by
  have kp : Keep M H (upd H p (.lst xs)) := fun a u e n => by rw [upd_ne (fun z => n (by rw [z]; exact m))]; exact e
  refine ⟨fun a ma => ?_, by rw [List.length_set]; exact S.ln, fun j s e => ?_, fun j l s t u h1 m1 h2 m2 e1 e2 => ?_⟩
  · by_cases h : a = p
    · subst h; rw [upd_same]; trivial
    · rw [upd_ne h]; exact S.mm a ma
  · rw [List.getElem?_set] at e
    by_cases k : i = j
    · subst k
      rw [if_pos rfl] at e
      split at e
      · cases e
        exact ⟨_, hs, p, rfl, m, xs, upd_same, DvS.keep kp S.mm ds' dv⟩
      · cases e
    · rw [if_neg k] at e
      obtain ⟨v, h1, h2⟩ := S.sl j s e
      refine ⟨v, h1, ?_⟩
      by_cases mu : s.mut = true
      · obtain ⟨a, rfl, m2, q⟩ := h2.mutAt mu
        have ne : a ≠ p := fun z => by
          subst z
          exact k (S.ap i j _ s _ hi rfl e mu hs h1)
        exact SlK.of_mut mu ⟨a, rfl, m2, MutAt.other kp S.mm (upd_ne ne) q⟩
      · cases s with
        | un => trivial
        | dat d => obtain ⟨x, e1, e2⟩ := h2; exact ⟨x, e1, Dv.keep kp S.mm d e2⟩
        | own _ => exact absurd rfl mu
        | obj _ _ => exact absurd rfl mu
  · have get : ∀ (j : Nat) (s : Sl), (ρ.set i (.own ds'))[j]? = some s → s.mut = true → ∃ s', ρ[j]? = some s' ∧ s'.mut = true := fun j s h mu => by
      rw [List.getElem?_set] at h
      by_cases k : i = j
      · exact ⟨.own ds, by rw [← k]; exact hi, rfl⟩
      · rw [if_neg k] at h; exact ⟨s, h, mu⟩
    obtain ⟨s', a1, a2⟩ := get j s h1 m1
    obtain ⟨t', b1, b2⟩ := get l t h2 m2
    exact S.ap j l s' t' u a1 a2 b1 b2 e1 e2
theorem Mad.of_putOwn {i : Nat} {ds ds' : List D} {a : Addr} (hi : ρ[i]? = some (.own ds)) (h : Mad (ρ.set i (.own ds')) σ a) : Mad ρ σ a := by
  obtain ⟨j, s, h1, m, h2⟩ := h
  rw [List.getElem?_set] at h1
  by_cases k : i = j
  · exact ⟨j, .own ds, by rw [← k]; exact hi, rfl, h2⟩
  · rw [if_neg k] at h1
    exact ⟨j, s, h1, m, h2⟩
theorem ER.putOwn (R : ER F M ρ σ H) {i : Nat} {p : Addr} {ds ds' : List D} {xs : List V} (hi : ρ[i]? = some (.own ds)) (hs : σ[i]? = some (some (.ref p))) (dv : DvS F.K F.T M H ds' xs) :
    ER F M (ρ.set i (.own ds')) σ (upd H p (.lst xs)) := by
  have mp : Mad ρ σ p := ⟨i, _, hi, rfl, hs⟩
  refine ER.of_se (R.se.putOwn hi hs (R.se.mad mp) dv) R.m0 (fun a o e n => ?_) R.h0 (fun a z => (R.mad (Mad.of_putOwn hi z)).2) (fun pp hpp => ?_) R.pp
  · have ne : a ≠ p := fun z => by
      subst z
      rcases (R.mad mp).2 with y | y
      · exact n y
      · rw [y] at e; cases e
    rw [upd_ne ne]
    exact R.kp a o e n
  · obtain ⟨g1, s, g2, g3⟩ := R.pr pp hpp
    refine ⟨g1, ?_⟩
    rw [List.getElem?_set]
    by_cases k : i = pp.1
    · rw [if_pos k, if_pos (List.getElem?_eq_some_iff.mp hi).1]
      exact ⟨_, rfl, rfl⟩
    · rw [if_neg k]
      exact ⟨s, g2, g3⟩
/-- a slot's list becomes data -/
theorem ER.frz (R : ER F M ρ σ H) {i : Nat} {ds : List D} (hi : ρ[i]? = some (.own ds)) (hp : ∀ a, (i, a) ∉ F.pa) : ∃ M', (∀ a, M' a → M a) ∧ ER F M' (ρ.set i (.dat (.lst ds))) σ H := by
  obtain ⟨v, h1, h2⟩ := R.se.sl i _ hi
  obtain ⟨p, rfl, m, xs, e1, e2⟩ := h2
  have mp : Mad ρ σ p := ⟨i, _, hi, rfl, h1⟩
  have nP : ¬ F.P p := fun ⟨j, hj⟩ => by
    obtain ⟨g1, s, g2, g3⟩ := R.pr (j, p) hj
    have := R.ap i j _ s _ hi rfl g2 g3 h1 g1
    subst this
    exact hp p hj
  have h0 : F.H0 p = none := (R.mad mp).2.resolve_left nP
  have nm0 : ¬ F.M0 p := fun z => R.h0 p z h0
  let M' : Ms := fun a => M a ∧ a ≠ p
  have less : ∀ a, M' a → M a := fun a z => z.1
  have dvl : Dv F.K F.T M' H (.lst ds) (.ref p) := ⟨p, xs, rfl, fun z => z.2 rfl, e1, DvS.less less ds e2⟩
  -- the slots but this one
  have sub : ∀ (j : Nat) (s : Sl), j ≠ i → ρ[j]? = some s → s.mut = true → σ[j]? ≠ some (some (.ref p)) := fun j s k hj mu z => k (R.ap j i s _ _ hj mu hi rfl z h1)
  refine ⟨M', less, ER.of_se ⟨fun a z => R.mm a z.1, by rw [List.length_set]; exact R.ln, fun j s e => ?_, fun j l s t u g1 m1 g2 m2 z1 z2 => ?_⟩ (fun a z => ⟨R.m0 a z, fun e => nm0 (by rw [← e]; exact z)⟩) R.kp R.h0 (fun a z => ?_) (fun pp hpp => ?_) R.pp⟩
  · rw [List.getElem?_set] at e
    by_cases k : i = j
    · subst k
      rw [if_pos rfl] at e
      split at e
      · cases e; exact ⟨_, h1, _, rfl, dvl⟩
      · cases e
    · rw [if_neg k] at e
      obtain ⟨v, g1, g2⟩ := R.se.sl j s e
      refine ⟨v, g1, ?_⟩
      by_cases mu : s.mut = true
      · obtain ⟨a, rfl, m2, q⟩ := g2.mutAt mu
        exact SlK.of_mut mu ⟨a, rfl, ⟨m2, fun z => sub j s (Ne.symm k) e mu (by rw [← z]; exact g1)⟩, MutAt.less less q⟩
      · cases s with
        | un => trivial
        | dat d => obtain ⟨x, e1, e2⟩ := g2; exact ⟨x, e1, Dv.less less d e2⟩
        | own _ => exact absurd rfl mu
        | obj _ _ => exact absurd rfl mu
  · rw [List.getElem?_set] at g1 g2
    have k1 : i ≠ j := fun k => by
      rw [if_pos k] at g1
      split at g1
      · cases g1; cases m1
      · cases g1
    have k2 : i ≠ l := fun k => by
      rw [if_pos k] at g2
      split at g2
      · cases g2; cases m2
      · cases g2
    rw [if_neg k1] at g1
    rw [if_neg k2] at g2
    exact R.ap j l s t u g1 m1 g2 m2 z1 z2
  · obtain ⟨j, s, g1, mu, g2⟩ := z
    rw [List.getElem?_set] at g1
    have k1 : i ≠ j := fun k => by
      rw [if_pos k] at g1
      split at g1
      · cases g1; cases mu
      · cases g1
    rw [if_neg k1] at g1
    exact (R.mad ⟨j, s, g1, mu, g2⟩).2
  · have k : i ≠ pp.1 := fun k => hp pp.2 (by rw [k]; exact hpp)
    rw [List.getElem?_set_ne k]
    exact R.pr pp hpp
end

/-! ### statements -/
inductive Fw where
  | nx | bk | ct | rt (d : D)
abbrev FB := Ev → Option (Fw × Ev)
def Stp (F : Fx) (M M' : Ms) (H H' : Hp) : Prop := ∀ d v, Dv F.K F.T M H d v → Dv F.K F.T M' H' d v
theorem Stp.rfl {F : Fx} {M : Ms} {H : Hp} : Stp F M M H H := fun _ _ h => h
theorem Stp.trans {F : Fx} {M M1 M2 : Ms} {H H1 H2 : Hp} (a : Stp F M M1 H H1) (b : Stp F M1 M2 H1 H2) : Stp F M M2 H H2 := fun d v h => b d v (a d v h)
theorem Stp.of {F : Fx} {M M' : Ms} {ρ : Ev} {σ : Sg} {H H' : Hp} (R : ER F M ρ σ H) (s : ∀ a, M' a → M a ∨ H a = none) (k : Keep M H H') : Stp F M M' H H' := fun d v h => Dv.mv k R.mm s d h
def EndD (F : Fx) (E : Ends) (w : Fw) (M' : Ms) (σ' : Sg) (H' : Hp) : Prop := match w with
  | .nx => E.nx σ' H'
  | .bk => E.bk σ' H'
  | .ct => E.ct σ' H'
  | .rt d => ∀ v, Dv F.K F.T M' H' d v → E.rt v H'
def TSd (F : Fx) (f : FB) : TS := fun E σ H => ∃ M ρ w ρ', ER F M ρ σ H ∧ f ρ = some (w, ρ') ∧ ∀ M' σ' H', ER F M' ρ' σ' H' → Stp F M M' H H' → EndD F E w M' σ' H'
def bNx : FB := fun ρ => some (.nx, ρ)
def bBk : FB := fun ρ => some (.bk, ρ)
def bCt : FB := fun ρ => some (.ct, ρ)
def bSeq (f g : FB) : FB := fun ρ => match f ρ with
  | some (.nx, ρ1) => g ρ1
  | some (w, ρ1) => some (w, ρ1)
  | none => none
def bRet (fe : FE) : FB := fun ρ => match fe ρ with
  | some (.dat d, ρ1) => some (.rt d, ρ1)
  | _ => none
def bRetN : FB := fun ρ => some (.rt .non, ρ)
def bIf (c : FT) (f g : FB) : FB := fun ρ => match c ρ with
  | some (true, ρ1) => f ρ1
  | some (false, ρ1) => g ρ1
  | none => none
def bExp (fe : FE) : FB := fun ρ => match fe ρ with
  | some (_, ρ1) => some (.nx, ρ1)
  | none => none
def bSet (i : Nat) (fe : FE) : FB := fun ρ => match fe ρ with
  | some (.dat d, ρ1) => some (.nx, ρ1.set i (.dat d))
  | _ => none
def bOwn (i : Nat) (fn : FN) : FB := fun ρ => match fn ρ with
  | some (ds, ρ1) => some (.nx, ρ1.set i (.own ds))
  | none => none
def bFrz (i : Nat) : FB := fun ρ => match ρ[i]? with
  | some (.own ds) => some (.nx, ρ.set i (.dat (.lst ds)))
  | _ => none
def setKs : Ev → List Nat → List Kd → Option Ev
  | ρ, [], [] => some ρ
  | ρ, i :: is, .dat d :: ks => setKs (ρ.set i (.dat d)) is ks
  | ρ, i :: is, .new ds :: ks => setKs (ρ.set i (.own ds)) is ks
  | _, _, _ => none
def bPar (is : List Nat) (fm : FM) : FB := fun ρ => match fm ρ with
  | some (ks, ρ1) => match setKs ρ1 is ks with
    | some ρ2 => some (.nx, ρ2)
    | none => none
  | none => none
def ownAt (ρ : Ev) (i : Nat) : Option (List D) := match ρ[i]? with
  | some (.own ds) => some ds
  | _ => none
theorem ownAt_some {ρ : Ev} {i : Nat} {ds : List D} (h : ownAt ρ i = some ds) : ρ[i]? = some (.own ds) := by
  unfold ownAt at h
  split at h
  · cases h; assumption
  · cases h
def bPut (i : Nat) (fi fe : FE) : FB := fun ρ => match fe ρ with
  | some (.dat d, ρ1) => match ownAt ρ1 i with
    | none => none
    | some _ => match fi ρ1 with
      | some (.dat (.int k), ρ2) => match ownAt ρ2 i with
        | some ds => match ixN ds.length k with
          | some j => some (.nx, ρ2.set i (.own (ds.set j d)))
          | none => none
        | none => none
      | _ => none
  | _ => none
theorem ER.ownRef {F : Fx} {M : Ms} {ρ : Ev} {σ : Sg} {H : Hp} (R : ER F M ρ σ H) {i : Nat} {ds : List D} (h : ownAt ρ i = some ds) : ∃ a xs, σ[i]? = some (some (.ref a)) ∧ M a ∧ H a = some (.lst xs) ∧ DvS F.K F.T M H ds xs := by
  obtain ⟨v, g1, g2⟩ := R.se.sl i _ (ownAt_some h)
  obtain ⟨a, rfl, m, xs, c1, c2⟩ := g2
  exact ⟨a, xs, g1, m, c1, c2⟩
theorem Keep.put {M : Ms} {H : Hp} {a : Addr} {o : HO} (m : M a) : Keep M H (upd H a o) := fun b u e n => by rw [upd_ne (fun z => n (by rw [z]; exact m))]; exact e
section
variable {X : Cx} {F : Fx} {pos : Pos}
theorem dss_nil : PSs X [] (TSd F bNx) := PSs.imp pss_nil fun E σ H ⟨M, ρ, w, ρ', R, hf, q⟩ => by
  cases hf
  exact q M σ H R Stp.rfl
theorem ds_pass : PS X (.Pass pos) (TSd F bNx) := PS.imp ps_pass fun E σ H ⟨M, ρ, w, ρ', R, hf, q⟩ => by
  cases hf
  exact q M σ H R Stp.rfl
theorem ds_break : PS X (.Break pos) (TSd F bBk) := PS.imp ps_break fun E σ H ⟨M, ρ, w, ρ', R, hf, q⟩ => by
  cases hf
  exact q M σ H R Stp.rfl
theorem ds_continue : PS X (.Continue pos) (TSd F bCt) := PS.imp ps_continue fun E σ H ⟨M, ρ, w, ρ', R, hf, q⟩ => by
  cases hf
  exact q M σ H R Stp.rfl
theorem seq_read {f g : FB} {E : Ends} {σ : Sg} {H : Hp} (h : TSd F (bSeq f g) E σ H) : tSeq (TSd F f) (TSd F g) E σ H := by
  obtain ⟨M, ρ, w, ρ', R, hf, q⟩ := h
  unfold bSeq at hf
  split at hf
  · rename_i ρ1 e1
    exact ⟨M, ρ, _, ρ1, R, e1, fun M1 σ1 H1 R1 s1 => ⟨M1, ρ1, w, ρ', R1, hf, fun M2 σ2 H2 R2 s2 => q M2 σ2 H2 R2 (s1.trans s2)⟩⟩
  · rename_i w1 ρ1 hn e1
    cases hf
    refine ⟨M, ρ, w, ρ', R, e1, fun M1 σ1 H1 R1 s1 => ?_⟩
    have := q M1 σ1 H1 R1 s1
    cases w with
    | nx => exact absurd rfl hn
    | bk => exact this
    | ct => exact this
    | rt d => exact this
  · cases hf
theorem dss_cons {st : Stmt} {rest : List Stmt} {f g : FB} (h1 : PS X st (TSd F f)) (h2 : PSs X rest (TSd F g)) : PSs X (st :: rest) (TSd F (bSeq f g)) := PSs.imp (pss_cons h1 h2) fun _ _ _ => seq_read
theorem dss_one {st : Stmt} {f : FB} (h1 : PS X st (TSd F f)) : PSs X [st] (TSd F f) := pss_one h1
theorem ds_ret {e : Expr} {fe : FE} (he : PE X e (TEd F fe)) : PS X (.Return (some e) pos) (TSd F (bRet fe)) := PS.imp (ps_ret he) fun E σ H ⟨M, ρ, w, ρ', R, hf, q⟩ => by
  unfold bRet at hf
  split at hf
  · rename_i d ρ1 e1
    cases hf
    exact ⟨M, ρ, _, _, R, e1, fun v M1 H1 s1 R1 k1 ok1 => q M1 σ H1 R1 (Stp.of R (fun a z => .inl (s1 a z)) k1) v ok1⟩
  · cases hf
theorem ds_retN : PS X (.Return none pos) (TSd F bRetN) := PS.imp ps_retN fun E σ H ⟨M, ρ, w, ρ', R, hf, q⟩ => by
  cases hf
  exact q M σ H R Stp.rfl .non rfl
theorem ds_if {c : Expr} {a b : List Stmt} {ft : FT} {f g : FB} (hc : PT X c (TTd F ft)) (ha : PSs X a (TSd F f)) (hb : PSs X b (TSd F g)) : PS X (.If c a b pos) (TSd F (bIf ft f g)) := PS.imp (ps_if hc ha hb) fun E σ H ⟨M, ρ, w, ρ', R, hf, q⟩ => by
  unfold bIf at hf
  split at hf
  · rename_i ρ1 e1
    refine ⟨M, ρ, _, ρ1, R, e1, fun M1 H1 s1 R1 k1 => ?_⟩
    show if true = true then _ else _
    rw [if_pos rfl]
    exact ⟨M1, ρ1, w, ρ', R1, hf, fun M2 σ2 H2 R2 s2 => q M2 σ2 H2 R2 ((Stp.of R (fun a z => .inl (s1 a z)) k1).trans s2)⟩
  · rename_i ρ1 e1
    refine ⟨M, ρ, _, ρ1, R, e1, fun M1 H1 s1 R1 k1 => ?_⟩
    show if false = true then _ else _
    rw [if_neg Bool.false_ne_true]
    exact ⟨M1, ρ1, w, ρ', R1, hf, fun M2 σ2 H2 R2 s2 => q M2 σ2 H2 R2 ((Stp.of R (fun a z => .inl (s1 a z)) k1).trans s2)⟩
  · cases hf
theorem ds_expr {e : Expr} {fe : FE} (he : PE X e (TEd F fe)) (hs : swapsWith e none pos.line X.env = pure false) : PS X (.Expr e pos) (TSd F (bExp fe)) := PS.imp (ps_expr he hs) fun E σ H ⟨M, ρ, w, ρ', R, hf, q⟩ => by
  unfold bExp at hf
  split at hf
  · rename_i o ρ1 e1
    cases hf
    exact ⟨M, ρ, o, _, R, e1, fun v M1 H1 s1 R1 k1 ok1 => q M1 σ H1 R1 (Stp.of R (fun a z => .inl (s1 a z)) k1)⟩
  · cases hf
/-- readings of name = value, value data -/
theorem set_read {i : Nat} {fe : FE} (hi : ∀ a, (i, a) ∉ F.pa) {E : Ends} {σ : Sg} {H : Hp} (h : TSd F (bSet i fe) E σ H) : tAsg (TEd F fe) (gName i) E σ H := by
  obtain ⟨M, ρ, w, ρ', R, hf, q⟩ := h
  unfold bSet at hf
  split at hf
  · rename_i d ρ1 e1
    cases hf
    exact ⟨M, ρ, _, ρ1, R, e1, fun v M1 H1 s1 R1 k1 ok1 => q M1 _ H1 (R1.setDat ok1 hi) (Stp.of R (fun a z => .inl (s1 a z)) k1)⟩
  · cases hf
theorem NewAt.stp {M M1 : Ms} {ρ ρ' : Ev} {σ : Sg} {H H1 : Hp} {p : Addr} {ds : List D} (R : ER F M ρ σ H) (n : NewAt F M1 ρ' σ M H H1 p ds) (s : ∀ a, M1 a → M a ∨ a = p) (k : Keep M H H1) : Stp F M M1 H H1 :=
  Stp.of R (fun a z => (s a z).elim .inl fun e => by rw [e]; exact n.old) k
theorem own_read {i : Nat} {fn : FN} (hi : ∀ a, (i, a) ∉ F.pa) {E : Ends} {σ : Sg} {H : Hp} (h : TSd F (bOwn i fn) E σ H) : tAsg (TEn F fn) (gName i) E σ H := by
  obtain ⟨M, ρ, w, ρ', R, hf, q⟩ := h
  unfold bOwn at hf
  split at hf
  · rename_i ds ρ1 e1
    cases hf
    refine ⟨M, ρ, _, ρ1, R, e1, fun p M1 H1 s1 R1 k1 n => ?_⟩
    obtain ⟨xs, c1, c2⟩ := n.at_
    exact q M1 _ H1 (R1.setOwn n.m n.no n.h0 c1 c2 hi) (n.stp R s1 k1)
  · cases hf
theorem ds_set {i : Nat} {x : Str} {e : Expr} {fe : FE} {pos' : Pos} (hN : X.N.Nodup) (hi : X.N[i]? = some x) (hx : Loc X.env.scope x) (he : PE X e (TEd F fe)) (hs : swapsWith e (some (.Name x pos')) pos.line X.env = pure false) (hf : X.fn x = true ∨ X.env.scope.names.lookup x = some .local) (hp : ∀ a, (i, a) ∉ F.pa) :
    PS X (.Assign [.Name x pos'] e pos) (TSd F (bSet i fe)) := PS.imp (ps_set hN hi hx he hs hf) fun _ _ _ => set_read hp
theorem ds_own {i : Nat} {x : Str} {e : Expr} {fn : FN} {pos' : Pos} (hN : X.N.Nodup) (hi : X.N[i]? = some x) (hx : Loc X.env.scope x) (he : PE X e (TEn F fn)) (hs : swapsWith e (some (.Name x pos')) pos.line X.env = pure false) (hf : X.fn x = true ∨ X.env.scope.names.lookup x = some .local) (hp : ∀ a, (i, a) ∉ F.pa) :
    PS X (.Assign [.Name x pos'] e pos) (TSd F (bOwn i fn)) := PS.imp (ps_set hN hi hx he hs hf) fun _ _ _ => own_read hp
/-- name = [..] on one line -/
theorem ps_lc {i : Nat} {y : Str} {py spos : Pos} {elt tg iter : Expr} {ifs : List Expr} {scope : Scope} {own : List (Str × Nat)} {p : Pt} {src : FS} {ft : FT} {fe : FE} (hK : F.K = X.K) (hc : X.calm = true) (hN : X.N.Nodup) (hy : X.N[i]? = some y) (hyl : X.env.scope.names.lookup y = some .local)
    (hsw : swapsWith (.ListComp elt [⟨tg, iter, ifs, 0⟩] scope pos) (some (.Name y py)) spos.line X.env = pure true) (hi : PI X tg iter (TId F src)) (ok : BlkOk X.N X.env.scope scope own) (hp : ∀ i ∈ p.slots, i ∈ own.map (·.2))
    (hg : ∀ (s : Shared) (H : Hp) (C : Addr) (cl : List (Str × Addr)) (fp : List Addr) (G : Fx), G.K = X.K → G.T = F.T → PG (X.blk s H scope (compEnvC scope cl C X.env) fp) tg (TGd G p))
    (ht : ∀ (s : Shared) (H : Hp) (C : Addr) (cl : List (Str × Addr)) (fp : List Addr) (G : Fx), G.K = X.K → G.T = F.T → PTs (X.blk s H scope (compEnvC scope cl C X.env) fp) ifs (TTd G ft))
    (he : ∀ (s : Shared) (H : Hp) (C : Addr) (cl : List (Str × Addr)) (fp : List Addr) (G : Fx), G.K = X.K → G.T = F.T → PE (X.blk s H scope (compEnvC scope cl C X.env) fp) elt (TEd G fe))
    (hs : ∀ x, foldedSetIterable iter X.env x = pure x) : PS X (.Assign [.Name y py] (.ListComp elt [⟨tg, iter, ifs, 0⟩] scope pos) spos) (tAsg (TEn F (nLc (own.map (·.2)) p src ft fe)) (gName i)) :=
  PS.imp (ps_setLc hc hN hy hyl hsw hi ok (fun s H C cl fp => PG.ex (T := F.T) fun G h1 h2 => hg s H C cl fp G h1 h2) (fun s H C cl fp => PTs.ex (T := F.T) fun G h1 h2 => ht s H C cl fp G h1 h2)
    (fun s H C cl fp => PE.ex (T := F.T) fun G h1 h2 => he s H C cl fp G h1 h2) hs) fun E σ H h => lc_read hp hK rfl h
theorem ds_lcO {st : Stmt} {i : Nat} {fn : FN} (h : PS X st (tAsg (TEn F fn) (gName i))) (hp : ∀ a, (i, a) ∉ F.pa) : PS X st (TSd F (bOwn i fn)) := PS.imp h fun _ _ _ => own_read hp
theorem ds_lcD {st : Stmt} {i : Nat} {fn : FN} (h : PS X st (tAsg (TEn F fn) (gName i))) (hp : ∀ a, (i, a) ∉ F.pa) : PS X st (TSd F (bSet i (fNew fn))) := PS.imp h fun E σ H h => by
  have := set_read hp h
  exact en_read this
/-- a list of one's own becomes data ahead of a statement -/
theorem dss_frz {st : List Stmt} {i : Nat} {g : FB} (h : PSs X st (TSd F g)) (hp : ∀ a, (i, a) ∉ F.pa) : PSs X st (TSd F (bSeq (bFrz i) g)) := PSs.imp h fun E σ H ⟨M, ρ, w, ρ', R, hf, q⟩ => by
  unfold bSeq bFrz at hf
  cases e1 : ρ[i]? with
  | none => rw [e1] at hf; cases hf
  | some s =>
    rw [e1] at hf
    cases s with
    | own ds =>
      simp only at hf
      obtain ⟨M1, s1, R1⟩ := R.frz e1 hp
      exact ⟨M1, _, w, ρ', R1, hf, fun M2 σ2 H2 R2 s2 => q M2 σ2 H2 R2 (fun d v h => s2 d v (Dv.less s1 d h))⟩
    | _ => cases hf
theorem ds_put {i : Nat} {x : Str} {ei ev : Expr} {fi fe : FE} {p1 p2 : Pos} (hN : X.N[i]? = some x) (hv : Vis X.env.scope x) (hd : (x == ("__debug__" : Str)) = false) (hcd : (x == ("__classdict__" : Str)) = false)
    (hi : PE X ei (TEd F fi)) (he : PE X ev (TEd F fe)) (h1 : swapsWithSole [.Subscript (.Name x p1) ei p2] ev pos.line X.env = pure false) (h2 : swappedStores [.Subscript (.Name x p1) ei p2] ev X.env = pure none)
    (h3 : (assignEach [.Subscript (.Name x p1) ei p2] X.env).map (·.2) = [assign (.Subscript (.Name x p1) ei p2) X.env])
    (ha : ∀ v, assign (.Subscript (.Name x p1) ei p2) X.env v = (do
      let ov ← holding [v] (eval (.Name x p1) X.env)
      let iv ← holding [v, ov] (eval ei X.env)
      standAt p2
      holding [v, ov, iv] (setItem ov iv v)
      release [v, ov, iv] [])) :
    PS X (.Assign [.Subscript (.Name x p1) ei p2] ev pos) (TSd F (bPut i fi fe)) := PS.imp (ps_asg he (pg_sub (pe_var hN hv hd hcd) hi set_list ha) h1 h2 h3) fun E σ H ⟨M, ρ, w, ρ', R, hf, q⟩ => by
  unfold bPut at hf
  split at hf
  · rename_i d ρ1 e1
    split at hf
    · cases hf
    · rename_i ds0 e0
      split at hf
      · rename_i k ρ2 e2
        split at hf
        · rename_i ds e3
          split at hf
          · rename_i j e4
            cases hf
            refine ⟨M, ρ, _, ρ1, R, e1, fun v M1 H1 s1 R1 k1 ok1 => ?_⟩
            obtain ⟨a, xs0, ea, _⟩ := R1.ownRef e0
            refine ⟨.ref a, ea, M1, ρ1, _, ρ2, R1, e2, fun iv M2 H2 s2 R2 k2 ok2 => ?_⟩
            cases (show iv = .int k from ok2)
            obtain ⟨a', xs, g1, m, c1, c2⟩ := R2.ownRef e3
            rw [ea] at g1
            cases g1
            have dv := Dv.keep k2 R1.mm d ok1
            refine ⟨a, xs, k, j, rfl, rfl, c1, by rw [← c2.length]; exact e4, ?_⟩
            refine q M2 _ _ (R2.putOwn (ownAt_some e3) ea (DvS.set j c2 (Dv.less s2 d dv))) ?_
            exact (Stp.of R (fun b z => .inl (s1 b (s2 b z))) (k1.trans (k2.mono s1))).trans fun d v h => Dv.keep (Keep.put m) R2.mm d h
          · cases hf
        · cases hf
      · cases hf
  · cases hf
end
end SC

set_option Elab.async false
set_option linter.all false
set_option maxRecDepth 100000
namespace SC
open PySem PySem.Spec PyProof.Rows L2

def forL (p : Pt) (fb : FB) : List D → Ev → Option (Fw × Ev)
  | [], ρ => some (.nx, ρ)
  | d :: ds, ρ => match bindPt p d ρ with
    | none => none
    | some ρa => match fb ρa with
      | none => none
      | some (.nx, ρb) => forL p fb ds ρb
      | some (.ct, ρb) => forL p fb ds ρb
      | some (.bk, ρb) => some (.nx, ρb)
      | some (.rt d, ρb) => some (.rt d, ρb)
def bFor (p : Pt) (src : FS) (fb : FB) : FB := fun ρ => match src ρ with
  | none => none
  | some (ds, os, ρ1) => match datAll os with
    | none => none
    | some _ => forL p fb ds ρ1
def whL (ft : FT) (fb : FB) : Nat → Ev → Option (Fw × Ev)
  | 0, _ => none
  | n + 1, ρ => match ft ρ with
    | none => none
    | some (false, ρ1) => some (.nx, ρ1)
    | some (true, ρ1) => match fb ρ1 with
      | none => none
      | some (.nx, ρb) => whL ft fb n ρb
      | some (.ct, ρb) => whL ft fb n ρb
      | some (.bk, ρb) => some (.nx, ρb)
      | some (.rt d, ρb) => some (.rt d, ρb)
def bWh (fuel : Ev → Nat) (ft : FT) (fb : FB) : FB := fun ρ => whL ft fb (fuel ρ) ρ
theorem datAll_do {F : Fx} {M M2 : Ms} {H H2 : Hp} {σ : Sg} (st : Stp F M M2 H H2) : ∀ {os : List Opd} {vs : List V} {es es' : List D} {ρ : Ev}, OpdsOk F M H σ os vs → datAll os = some es → getAll ρ os = some es' → DoS F M2 H2 es' vs
  | _, _, es, es', ρ, .nil, _, h => by
    cases h
    exact .nil
  | .dat d :: os, v :: vs, es, es', ρ, .cons h t, h1, h2 => by
    simp only [datAll, Option.map_eq_some_iff] at h1
    obtain ⟨es1, h3, _⟩ := h1
    simp only [getAll] at h2
    split at h2
    · rename_i d' ds' g1 g2
      cases h2
      cases g1
      exact .cons (.inl (st d v h)) (datAll_do st t h3 g2)
    · cases h2
  | .slot i :: os, v :: vs, es, es', ρ, .cons h t, h1, h2 => by cases h1
section
variable {X : Cx} {F : Fx} {pos : Pos}
theorem for_read {p : Pt} {src : FS} {fb : FB} (hp : ∀ i ∈ p.slots, ∀ a, (i, a) ∉ F.pa) {E : Ends} {σ : Sg} {H : Hp} (h : TSd F (bFor p src fb) E σ H) : tFor (TId F src) (TGd F p) (TSd F fb) E σ H := by
  obtain ⟨M, ρ, w, ρ', R, hf, q⟩ := h
  unfold bFor at hf
  cases e1 : src ρ with
  | none => rw [e1] at hf; cases hf
  | some p1 =>
    obtain ⟨ds, os, ρ1⟩ := p1
    rw [e1] at hf
    simp only at hf
    cases e2 : datAll os with
    | none => rw [e2] at hf; cases hf
    | some es0 =>
      rw [e2] at hf
      simp only at hf
      refine ⟨M, ρ, ds, os, ρ1, R, e1, fun J vs es M1 H1 s1 R1 k1 ok1 ge itok => ?_⟩
      have st1 := Stp.of R (fun a z => .inl (s1 a z)) k1
      refine ⟨fun i m σ' H' => m = ds.length - i ∧ i ≤ ds.length ∧ ∃ M2 ρ2, ER F M2 ρ2 σ' H' ∧ Stp F M1 M2 H1 H' ∧ forL p fb (ds.drop i) ρ2 = some (w, ρ'), ⟨ds.length, by simp, Nat.zero_le _, M1, ρ1, R1, Stp.rfl, hf⟩, ?_⟩
      rintro i m σ2 H2 ⟨rfl, hi, M2, ρ2, R2, st2, el⟩
      have doS := datAll_do st2 ok1 e2 ge
      have ito := itok M2 H2 i R2.mm doS
      by_cases hlt : i < ds.length
      · refine .inr ⟨(ito.1 ds[i] (by simp [hlt])).1, fun σ' H' => ∃ M2 ρ2, ER F M2 ρ2 σ' H' ∧ Stp F M1 M2 H1 H' ∧ forL p fb (ds.drop (i + 1)) ρ2 = some (w, ρ'), fun σ' H' hh => ⟨ds.length - (i + 1), by omega, rfl, hlt, hh⟩, fun x H3 hy => ?_⟩
        obtain ⟨ex3, dvx⟩ := (ito.1 ds[i] (by simp [hlt])).2 x H3 hy
        rw [List.drop_eq_getElem_cons hlt] at el
        unfold forL at el
        cases b1 : bindPt p ds[i] ρ2 with
        | none => rw [b1] at el; cases el
        | some ρa =>
          rw [b1] at el
          simp only at el
          refine ⟨M2, ρ2, ds[i], ρa, R2.ext ex3, dvx, b1, hp, fun σ3 R3 ag => ?_⟩
          have st3 : Stp F M2 M2 H2 H3 := fun d v h => Dv.ext ex3 d h
          cases f1 : fb ρa with
          | none => rw [f1] at el; cases el
          | some pw =>
            obtain ⟨w1, ρb⟩ := pw
            rw [f1] at el
            refine ⟨M2, ρa, w1, ρb, R3, f1, fun M4 σ4 H4 R4 st4 => ?_⟩
            have st := st2.trans (st3.trans st4)
            cases w1 with
            | nx => exact ⟨M4, ρb, R4, st, el⟩
            | ct => exact ⟨M4, ρb, R4, st, el⟩
            | bk => cases el; exact q M4 σ4 H4 R4 (st1.trans st)
            | rt d => cases el; exact q M4 σ4 H4 R4 (st1.trans st)
      · have ei : i = ds.length := by omega
        refine .inl ⟨ito.2 ei, ?_⟩
        rw [List.drop_eq_nil_of_le (by omega)] at el
        cases el
        exact q M2 σ2 H2 R2 (st1.trans st2)
theorem ds_for {tg iter : Expr} {body : List Stmt} {p : Pt} {src : FS} {fb : FB} (hpo : PassesOwn (model X.prog X.w) X.A X.env X.xe) (hc : X.calm = true) (hi : PI X tg iter (TId F src)) (hg : PG X tg (TGd F p)) (hb : PSs X body (TSd F fb))
    (hs : ∀ x, foldedSetIterable iter X.env x = pure x) (hp : ∀ i ∈ p.slots, ∀ a, (i, a) ∉ F.pa) : PS X (.For tg iter body [] pos) (TSd F (bFor p src fb)) :=
  PS.imp (ps_for hpo hc hi hg hb hs) fun _ _ _ => for_read hp
theorem wh_read {fuel : Ev → Nat} {ft : FT} {fb : FB} {E : Ends} {σ : Sg} {H : Hp} (h : TSd F (bWh fuel ft fb) E σ H) : tWhile (TTd F ft) (TSd F fb) E σ H := by
  obtain ⟨M, ρ, w, ρ', R, hf, q⟩ := h
  refine ⟨fun m σ' H' => ∃ M2 ρ2, ER F M2 ρ2 σ' H' ∧ Stp F M M2 H H' ∧ whL ft fb m ρ2 = some (w, ρ'), ⟨fuel ρ, M, ρ, R, Stp.rfl, hf⟩, ?_⟩
  rintro m σ2 H2 ⟨M2, ρ2, R2, st2, el⟩
  cases m with
  | zero => cases el
  | succ n =>
    unfold whL at el
    cases t1 : ft ρ2 with
    | none => rw [t1] at el; cases el
    | some pb =>
      obtain ⟨b, ρ3⟩ := pb
      rw [t1] at el
      refine ⟨M2, ρ2, b, ρ3, R2, t1, fun M3 H3 s3 R3 k3 => ?_⟩
      have st3 := st2.trans (Stp.of R2 (fun a z => .inl (s3 a z)) k3)
      cases b with
      | false =>
        show if false = true then _ else _
        rw [if_neg Bool.false_ne_true]
        cases el
        exact q M3 σ2 H3 R3 st3
      | true =>
        show if true = true then _ else _
        rw [if_pos rfl]
        refine ⟨fun σ' H' => ∃ M2 ρ2, ER F M2 ρ2 σ' H' ∧ Stp F M M2 H H' ∧ whL ft fb n ρ2 = some (w, ρ'), fun σ' H' hh => ⟨n, Nat.lt_succ_self n, hh⟩, ?_⟩
        simp only at el
        cases f1 : fb ρ3 with
        | none => rw [f1] at el; cases el
        | some pw =>
          obtain ⟨w1, ρb⟩ := pw
          rw [f1] at el
          refine ⟨M3, ρ3, w1, ρb, R3, f1, fun M4 σ4 H4 R4 st4 => ?_⟩
          have st := st3.trans st4
          cases w1 with
          | nx => exact ⟨M4, ρb, R4, st, el⟩
          | ct => exact ⟨M4, ρb, R4, st, el⟩
          | bk => cases el; exact q M4 σ4 H4 R4 st
          | rt d => cases el; exact q M4 σ4 H4 R4 st
theorem ds_while {c : Expr} {body : List Stmt} {fuel : Ev → Nat} {ft : FT} {fb : FB} (hpo : PassesOwn (model X.prog X.w) X.A X.env X.xe) (hc : PT X c (TTd F ft)) (hb : PSs X body (TSd F fb)) : PS X (.While c body [] pos) (TSd F (bWh fuel ft fb)) :=
  PS.imp (ps_while hpo hc hb) fun _ _ _ => wh_read
/-- target = a value -/
def bBind (p : Pt) (fe : FE) : FB := fun ρ => match fe ρ with
  | some (.dat d, ρ1) => match bindPt p d ρ1 with
    | some ρ2 => some (.nx, ρ2)
    | none => none
  | _ => none
theorem ds_bind {tg e : Expr} {p : Pt} {fe : FE} (he : PE X e (TEd F fe)) (hg : PG X tg (TGd F p)) (hs : swapsWithSole [tg] e pos.line X.env = pure false) (hw : swappedStores [tg] e X.env = pure none)
    (h1 : (assignEach [tg] X.env).map (·.2) = [assign tg X.env]) (hp : ∀ i ∈ p.slots, ∀ a, (i, a) ∉ F.pa) : PS X (.Assign [tg] e pos) (TSd F (bBind p fe)) :=
  PS.imp (ps_asg he hg hs hw h1) fun E σ H ⟨M, ρ, w, ρ', R, hf, q⟩ => by
    unfold bBind at hf
    split at hf
    · rename_i d ρ1 e1
      split at hf
      · rename_i ρ2 e2
        cases hf
        exact ⟨M, ρ, _, ρ1, R, e1, fun v M1 H1 s1 R1 k1 ok1 => ⟨M1, ρ1, d, _, R1, ok1, e2, hp, fun σ2 R2 ag => q M1 σ2 H1 R2 (Stp.of R (fun a z => .inl (s1 a z)) k1)⟩⟩
      · cases hf
    · cases hf
/-- several operands stored at names -/
theorem store_ks : ∀ {is : List Nat} {ks : List Kd} {vs : List V} {M : Ms} {ρ ρ' : Ev} {σ : Sg} {H : Hp}, ER F M ρ σ H → Paired (KdOk F M H) ks vs → (newsOf ks vs).Nodup → (∀ p ∈ newsOf ks vs, ¬ Mad ρ σ p) → setKs ρ is ks = some ρ' →
    (∀ i ∈ is, ∀ a, (i, a) ∉ F.pa) → ∃ σ', ER F M ρ' σ' H ∧ is.length = vs.length ∧ σ' = (is.zip vs).foldl (fun σ p => σ.set p.1 (some p.2)) σ
  | [], [], _, M, ρ, ρ', σ, H, R, .nil, _, _, h, _ => by
    cases h
    exact ⟨σ, R, rfl, rfl⟩
  | i :: is, .dat d :: ks, v :: vs, M, ρ, ρ', σ, H, R, .cons hk t, nd, no, h, hp => by
    have R1 := R.setDat (i := i) (show Dv F.K F.T M H d v from hk) (hp i List.mem_cons_self)
    obtain ⟨σ', R2, h1, h2⟩ := store_ks (is := is) R1 t nd (fun p hp' z => no p hp' (Mad.of_setDat z)) h fun j hj => hp j (List.mem_cons_of_mem _ hj)
    exact ⟨σ', R2, by simp [h1], h2⟩
  | i :: is, .new ds :: ks, v :: vs, M, ρ, ρ', σ, H, R, .cons hk t, nd, no, h, hp => by
    obtain ⟨p, xs, rfl, m, h0, e1, e2⟩ := hk
    obtain ⟨nd1, nd2⟩ := List.nodup_cons.mp nd
    have R1 := R.setOwn (i := i) m (no p List.mem_cons_self) h0 e1 e2 (hp i List.mem_cons_self)
    obtain ⟨σ', R2, h1, h2⟩ := store_ks (is := is) R1 t nd2 (fun r hr z => by
      rcases Mad.of_setOwn z with y | y
      · exact nd1 (by rw [← y]; exact hr)
      · exact no r (List.mem_cons_of_mem _ hr) y) h fun j hj => hp j (List.mem_cons_of_mem _ hj)
    exact ⟨σ', R2, by simp [h1], h2⟩
  | [], _ :: _, _, M, ρ, ρ', σ, H, R, _, _, _, h, _ => by cases h
  | _ :: _, [], _, M, ρ, ρ', σ, H, R, _, _, _, h, _ => by cases h
theorem KdsOk.stp {M M1 : Ms} {ρ ρ' : Ev} {σ : Sg} {H H1 : Hp} {ks : List Kd} {vs : List V} (R : ER F M ρ σ H) (n : KdsOk F M1 ρ' σ M H H1 ks vs) (s : ∀ a, M1 a → M a ∨ a ∈ newsOf ks vs) (k : Keep M H H1) : Stp F M M1 H H1 :=
  Stp.of R (fun a z => (s a z).elim .inl fun e => n.old a e) k
theorem setKs_len : ∀ {is : List Nat} {ks : List Kd} {ρ ρ' : Ev}, setKs ρ is ks = some ρ' → is.length = ks.length
  | [], [], _, _, _ => rfl
  | i :: is, .dat d :: ks, ρ, ρ', h => by simp [setKs_len (is := is) (ks := ks) h]
  | i :: is, .new d :: ks, ρ, ρ', h => by simp [setKs_len (is := is) (ks := ks) h]
  | [], _ :: _, _, _, h => by cases h
  | _ :: _, [], _, _, h => by cases h
theorem par_read {is : List Nat} {fm : FM} (hp : ∀ i ∈ is, ∀ a, (i, a) ∉ F.pa) {E : Ends} {σ : Sg} {H : Hp} (h : TSd F (bPar is fm) E σ H) :
    TAn F fm σ H fun vs H1 => is.length = vs.length ∧ E.nx ((is.zip vs).foldl (fun σ p => σ.set p.1 (some p.2)) σ) H1 := by
  obtain ⟨M, ρ, w, ρ', R, hf, q⟩ := h
  unfold bPar at hf
  split at hf
  · rename_i ks ρ1 e1
    split at hf
    · rename_i ρ2 e2
      cases hf
      refine ⟨M, ρ, ks, ρ1, R, e1, fun vs M1 H1 s1 R1 k1 n => ?_⟩
      obtain ⟨σ', R2, hl, e3⟩ := store_ks R1 n.ok n.nod n.no e2 hp
      refine ⟨hl, ?_⟩
      have := q M1 σ' H1 R2 (n.stp R s1 k1)
      rw [e3] at this
      exact this
    · cases hf
  · cases hf
theorem TAn.mono {fm : FM} {σ : Sg} {H : Hp} {Q Q' : List V → Hp → Prop} (h : TAn F fm σ H Q) (g : ∀ vs H1, Q vs H1 → Q' vs H1) : TAn F fm σ H Q' := by
  obtain ⟨M, ρ, ks, ρ', R, hf, q⟩ := h
  exact ⟨M, ρ, ks, ρ', R, hf, fun vs M1 H1 s1 R1 k1 n => g _ _ (q vs M1 H1 s1 R1 k1 n)⟩
theorem ds_par2 {i j : Nat} {x y : Str} {a b : Expr} {fm : FM} {px py pt : Pos} {kt k2 pt2} (hc : X.calm = true) (hN : X.N.Nodup) (hi : X.N[i]? = some x) (hj : X.N[j]? = some y) (hij : i ≠ j)
    (hx : X.env.scope.names.lookup x = some .local) (hy : X.env.scope.names.lookup y = some .local) (ha : PA X [a, b] (TAn F fm))
    (hw : swappedStores [.Tuple [.Name x px, .Name y py] kt pt] (.Tuple [a, b] k2 pt2) X.env = pure (some [x, y]))
    (hs : swapsWithSole [.Tuple [.Name x px, .Name y py] kt pt] (.Tuple [a, b] k2 pt2) pos.line X.env = pure false) (hp : ∀ l ∈ [i, j], ∀ a, (l, a) ∉ F.pa) :
    PS X (.Assign [.Tuple [.Name x px, .Name y py] kt pt] (.Tuple [a, b] k2 pt2) pos) (TSd F (bPar [i, j] fm)) :=
  PS.imp (ps_par hc hN hi hj hij hx hy ha hw hs) fun E σ H h => TAn.mono (par_read hp h) fun vs H1 ⟨hl, q⟩ => by
    match vs, hl, q with
    | [v, w], _, q => exact ⟨v, w, rfl, q⟩
theorem ds_par3 {i j l : Nat} {x y z : Str} {a b c : Expr} {fm : FM} {px py pz pt : Pos} {kt k2 pt2} (hc : X.calm = true) (hN : X.N.Nodup) (hi : X.N[i]? = some x) (hj : X.N[j]? = some y) (hl : X.N[l]? = some z) (hij : i ≠ j) (hil : i ≠ l) (hjl : j ≠ l)
    (hx : X.env.scope.names.lookup x = some .local) (hy : X.env.scope.names.lookup y = some .local) (hz : X.env.scope.names.lookup z = some .local) (ha : PA X [a, b, c] (TAn F fm))
    (hw : swappedStores [.Tuple [.Name x px, .Name y py, .Name z pz] kt pt] (.Tuple [a, b, c] k2 pt2) X.env = pure (some [x, y, z]))
    (hs : swapsWithSole [.Tuple [.Name x px, .Name y py, .Name z pz] kt pt] (.Tuple [a, b, c] k2 pt2) pos.line X.env = pure false) (hp : ∀ l' ∈ [i, j, l], ∀ a, (l', a) ∉ F.pa) :
    PS X (.Assign [.Tuple [.Name x px, .Name y py, .Name z pz] kt pt] (.Tuple [a, b, c] k2 pt2) pos) (TSd F (bPar [i, j, l] fm)) :=
  PS.imp (ps_par3 hc hN hi hj hl hij hil hjl hx hy hz ha hw hs) fun E σ H h => TAn.mono (par_read hp h) fun vs H1 ⟨hl, q⟩ => by
    match vs, hl, q with
    | [v, w, u], _, q => exact ⟨v, w, u, rfl, q⟩
/-- .. where the tuple is laid -/
inductive NmT (X : Cx) : List Nat → List Expr → Prop where
  | nil : NmT X [] []
  | cons {i : Nat} {x : Str} {p : Pos} {is : List Nat} {es : List Expr} (hi : X.N[i]? = some x) (hx : Loc X.env.scope x) (hf : X.fn x = true ∨ X.env.scope.names.lookup x = some .local) (h : NmT X is es)
      (hs : (assignEach (.Name x p :: es) X.env).map (·.2) = assign (.Name x p) X.env :: (assignEach es X.env).map (·.2)) : NmT X (i :: is) (.Name x p :: es)
def gSts (is : List Nat) : TGs := fun vs σ H Q => is.length = vs.length ∧ Q ((is.zip vs).foldl (fun σ p => σ.set p.1 (some p.2)) σ) H
theorem pgs_nm (hN : X.N.Nodup) : ∀ {is : List Nat} {es : List Expr}, NmT X is es → PGs X es (gSts is)
  | _, _, .nil => PGs.imp pgs_nil fun vs σ H Q ⟨h1, h2⟩ => by
    cases vs with
    | nil => exact ⟨rfl, h2⟩
    | cons _ _ => cases h1
  | _, _, .cons hi hx hf h hs => PGs.imp (pgs_cons (pg_name hN hi hx hf) (pgs_nm hN h) hs) fun vs σ H Q ⟨h1, h2⟩ => by
    cases vs with
    | nil => cases h1
    | cons v r => exact ⟨v, r, rfl, by simpa using h1, h2⟩
theorem ER.upTup {M : Ms} {ρ : Ev} {σ : Sg} {H : Hp} (R : ER F M ρ σ H) {p : Addr} {xs : List V} (hp : H p = none) : ER F M ρ σ (upd H p (.tup xs)) := R.ext (Ext.new hp)
theorem ds_parT {is : List Nat} {ts es : List Expr} {fm : FM} {kt k2 : Nat} {pt pt2 : Pos} {n : Nat} (hK : F.K = X.K) (hc : X.calm = true) (hN : X.N.Nodup) (hn : NmT X is ts) (ha : PA X es (TAn F fm))
    (hl : (assignEach ts X.env).length = n) (hln : is.length = n) (hst : (assignEach ts X.env).findIdx? (·.1) = none)
    (hs : swapsWithSole [.Tuple ts kt pt] (.Tuple es k2 pt2) pos.line X.env = pure false) (hw : swappedStores [.Tuple ts kt pt] (.Tuple es k2 pt2) X.env = pure none)
    (h1 : (assignEach [.Tuple ts kt pt] X.env).map (·.2) = [assign (.Tuple ts kt pt) X.env]) (hz : n ≤ sLn) (hp : ∀ l ∈ is, ∀ a, (l, a) ∉ F.pa) :
    PS X (.Assign [.Tuple ts kt pt] (.Tuple es k2 pt2) pos) (TSd F (bPar is fm)) := by
  obtain ⟨K, T, M0, pa, H0⟩ := F
  cases hK
  refine PS.imp (ps_asg (pe_tup ha) (pg_tup (n := n) hc (pgs_nm hN hn) hl hst) hs hw h1) ?_
  rintro E σ H ⟨M, ρ, w, ρ', R, hf, q⟩
  unfold bPar at hf
  split at hf
  · rename_i ks ρ1 e1
    split at hf
    · rename_i ρ2 e2
      cases hf
      refine ⟨M, ρ, ks, ρ1, R, e1, fun vs M1 H1 s1 R1 k1 nn => ?_⟩
      obtain ⟨σ', R2, hl2, e3⟩ := store_ks R1 nn.ok nn.nod nn.no e2 hp
      refine ⟨by rw [← hl2, hln, ← sLn_eq]; exact hz, fun p hp' => ⟨p, vs, rfl, SqT.of upd_same, by rw [← hl2, hln], hl2, ?_⟩⟩
      rw [← e3]
      exact q M1 σ' _ (R2.ext (Ext.new hp')) ((nn.stp R s1 k1).trans fun d v h => Dv.ext (Ext.new hp') d h)
    · cases hf
  · cases hf
end
end SC

set_option Elab.async false
set_option linter.all false
set_option maxRecDepth 100000
namespace SC
open PySem PySem.Spec PyProof.Rows L2

/-! ### calls, with nothing being shown around them -/
abbrev SpG := List V → Hp → VK → Prop
def GR (outer : List Env) (P : Program) (w : World) (H : Hp) (s : Shared) (Q : VK) (r : Result) (s' : Shared) : Prop := ∃ u, r = .ok (.ret u) ∧ CE outer P w H s Q u s'
structure FnG (P : Program) (w : World) (K : PySem.W.Frag) (mg : Str → Option Value) (base : Heap) (k : Nat) (f : Addr) (fd : FuncData) (ps : List Str) (sp : SpG) : Prop where
  len : ∀ vs H Q, sp vs H Q → vs.length = ps.length
  run : ∀ (A : Around) (outer : List Env) (s : Shared) (H : Hp) (args : Args) (us : List Value) (vs : List V) (Q : VK), Room k A → A.guards = some [] → Env0 P w K mg base A outer s H →
    BindsTo s fd args (ps.zip us) → Vals vs us → sp vs H Q → codeAny (model P w) A (.call (.ref f) args) (GR outer P w H s Q) s
theorem FnG.mono {P : Program} {w : World} {K : PySem.W.Frag} {mg : Str → Option Value} {base : Heap} {j k : Nat} {f : Addr} {fd : FuncData} {ps : List Str} {sp : SpG} (F : FnG P w K mg base j f fd ps sp) (h : j ≤ k) : FnG P w K mg base k f fd ps sp :=
  ⟨F.len, fun A outer s H args us vs Q hr => F.run A outer s H args us vs Q (hr.mono h)⟩
theorem FnG.imp {P : Program} {w : World} {K : PySem.W.Frag} {mg : Str → Option Value} {base : Heap} {k : Nat} {f : Addr} {fd : FuncData} {ps : List Str} {sp sp' : SpG} (F : FnG P w K mg base k f fd ps sp) (h : ∀ vs H Q, sp' vs H Q → sp vs H Q) : FnG P w K mg base k f fd ps sp' :=
  ⟨fun vs H Q q => F.len vs H Q (h _ _ _ q), fun A outer s H args us vs Q hr hg e0 hb rv q => F.run A outer s H args us vs Q hr hg e0 hb rv (h _ _ _ q)⟩
section
variable {X : Cx} {k : Nat} {f : Addr} {fd : FuncData} {ps : List Str} {sp : SpG} {dvs : List V} {ds : List Value} {x : Str} {p pos : Pos} {e : Expr} {es : List Expr} {t : TA}
/-- the callee, from a body -/
theorem FnG.step (F : FnG X.prog X.w X.K X.mg X.base k f fd ps sp) (hr : Room k X.A) (gd : X.A.guards = some []) {pins : List (Addr × Obj)} {σ : Sg} {H : Hp} {s : Shared} {Q : VK} {us ws : List Value} {kws : List (Str × Value)} {vs : List V}
    (I : Inv X pins σ H s) (hb : BindsTo s fd ⟨us, kws⟩ (ps.zip ws)) (rv : Vals vs ws) (h : sp vs H Q) : wpAny (model X.prog X.w) X.A (call (.ref f) us kws) (EP X pins σ Q) X.xe s := by
  refine wpAny_call (codeAny_mono (F.run X.A X.stack s H ⟨us, kws⟩ ws vs Q hr gd I.env0 hb rv h) ?_)
  rintro _ s2 ⟨u, rfl, c⟩
  exact I.after c
def tCallG (sp : SpG) (dvs : List V) (t : TA) : TE := fun σ H Q => t σ H fun vs H1 => sp (vs ++ dvs) H1 Q
theorem pe_callG (F : FnG X.prog X.w X.K X.mg X.base k f fd ps sp) (hr : Room k X.A) (gd : X.A.guards = some []) (hg : Gl X x) (hm : X.mg x = some (.ref f)) (hk : PySem.W.keepIn X.K (.ref f) = true) (hb : Binds X.K fd ps ds) (hd : Vals dvs ds)
    (ha : PA X (e :: es) t) (hdb : (x == ("__debug__" : Str)) = false) (he : starEach (e :: es) X.env = (false, eval e X.env) :: starEach es X.env) (hpl : (backTo pos (starEach es X.env)).any (·.1) = false) : PE X (.Call (.Name x p) (e :: es) [] pos) (tCallG sp dvs t) :=
  ⟨fun pins s σ H Q I h => wpAny_Call_Name_kw (ld_glob I hg hm (PySem.W.callWith_K (h₀ := X.base) I.ok.mod.kin hk (thn (ha.run pos pins s σ H _ I h) fun us s1 ⟨vs, H1, I1, r, q⟩ => ⟨I1.kIn, by
    have r2 := r.append hd
    exact F.step hr gd I1 (hb s1 us I1.kIn (by rw [← r2.length]; exact F.len _ _ _ q)) r2 q⟩) he hpl) hdb)⟩
theorem pe_callG0 (F : FnG X.prog X.w X.K X.mg X.base k f fd ps sp) (hr : Room k X.A) (gd : X.A.guards = some []) (hg : Gl X x) (hm : X.mg x = some (.ref f)) (hk : PySem.W.keepIn X.K (.ref f) = true) (hb : Binds X.K fd ps ds) (hd : Vals dvs ds)
    (hdb : (x == ("__debug__" : Str)) = false) : PE X (.Call (.Name x p) [] [] pos) (tCallG sp dvs tNil) :=
  ⟨fun pins s σ H Q I h => wpAny_Call_Name_kw (ld_glob I hg hm (PySem.W.callWith_K0 I.kIn hk (by
    have r2 := Vals.append (xs := []) (us := []) .nil hd
    exact F.step hr gd I (hb s [] I.kIn (by rw [← r2.length]; exact F.len _ _ _ h)) r2 h)) hdb)⟩
end

-- (L2.CX0: none leaves)
theorem FnG.ofOk {P : Program} {w : World} {K : PySem.W.Frag} {mg : Str → Option Value} {base : Heap} {k : Nat} {f : Addr} {fd : FuncData} {ps : List Str} {sp : SpG} (F : FnOk P w K mg base CX0 k f fd ps fun vs H Q _ => sp vs H Q) : FnG P w K mg base k f fd ps sp where
  len := fun vs H Q q => F.len vs H Q (fun _ _ _ => False) q
  run := fun A outer s H args us vs Q hr _ e0 hb rv q => codeAny_mono (F.run A outer s H args us vs Q (fun _ _ _ => False) hr e0 hb rv q) fun r s2 h => by
    cases r with
    | error e => exact False.elim h
    | ok fl =>
      cases fl with
      | ret u => exact ⟨u, rfl, h⟩
      | next => exact False.elim h
      | brk => exact False.elim h
      | cont => exact False.elim h
theorem passes0 {X : Cx} {E : XK} : Passes CX0 X E := fun _ _ _ _ _ _ _ z => False.elim z
/-- the context of a def's body -/
abbrev bodyCx (P : Program) (w : World) (K : PySem.W.Frag) (mg : Str → Option Value) (base : Heap) (N : List Str) (qual : Str) (scope : Scope) (f : Addr) (cd : Value) (A : Around) (outer : List Env) (s : Shared) (H : Hp) (E : XK) : Cx :=
  cxOf CX0 P w K mg base N qual scope f cd A outer s H E
theorem bodyCx_own {P : Program} {w : World} {K : PySem.W.Frag} {mg : Str → Option Value} {base : Heap} {N : List Str} {qual : Str} {scope : Scope} {f : Addr} {cd : Value} {A : Around} {outer : List Env} {s : Shared} {H : Hp} {E : XK} :
    PassesOwn (model P w) (bodyCx P w K mg base N qual scope f cd A outer s H E).A (bodyCx P w K mg base N qual scope f cd A outer s H E).env (bodyCx P w K mg base N qual scope f cd A outer s H E).xe :=
  passes_of (X := bodyCx P w K mg base N qual scope f cd A outer s H E) rfl
/-- a def keeps its promise, by its body -/
theorem FnG.of {P : Program} {w : World} {K : PySem.W.Frag} {mg : Str → Option Value} {base : Heap} {k : Nat} {f : Addr} {name qual : Str} {params : Arguments} {body : List Stmt} {scope : Scope} {dV kV doc pm cdv ct oc : Value} {an od : Option Addr} {osl : Array (Option Value)} {N ps : List Str} {sp : SpG}
    (lk : K.lookup f = some ⟨oc, od, .func (PySem.W.fnOf name qual params body scope dV kV doc pm an cdv ct), osl⟩) (hcd : PySem.W.codeIn K cdv qual = true) (S : FnScope N ps scope) (len : ∀ vs H Q, sp vs H Q → vs.length = ps.length)
    (go : ∀ (A : Around) (outer : List Env) (s : Shared) (H : Hp) (vs : List V) (Q : VK), Room k (A.deeper (envOfC qual scope s.heap.objs.size f cdv)) → A.guards = some [] → sp vs H Q →
      ∃ t, PSs (bodyCx P w K mg base N qual scope f cdv A outer s H fun _ _ _ => False) body t ∧ t { nx := fun _ H' => Q .non H', rt := Q } (start N vs) H) :
    FnG P w K mg base (k + 1) f (PySem.W.fnOf name qual params body scope dV kV doc pm an cdv ct) ps sp where
  len := len
  run := fun A outer s H args us vs Q hr gd e0 hb rv hsp => by
    have vlen := len _ _ _ hsp
    have kin : K.In s.heap := e0.mod.kin.keeps fun b o z => (e0.bs b o z).1
    have nolim : s.heap.NoLimit := e0.mod.nolimit.keeps fun b o z => (e0.bs b o z).1
    have kinds : ∀ z ∈ ps.zip us, scope.names.lookup z.1 = some .local ∨ (scope.names.lookup z.1 = some .cell ∧ ((cellsFrom (s.heap.objs.size + 1) scope.names []).lookup z.1).isSome = true) := by
      rintro ⟨nm, vl⟩ hz
      exact (S.par nm (List.of_mem_zip hz).1).imp id fun c => ⟨c, PySem.W.cellsFrom_some _ _ _ (.inl c)⟩
    obtain ⟨t, bodyOk, tq⟩ := go A outer s H vs Q (hr.deeper _) gd hsp
    apply codeAny_call_function hr.depth (kin _ _ lk) rfl S.co S.gen rfl (PySem.W.codeRec_of kin hcd)
    apply hb
    apply wpAny_newFunctionEnv_cells S.kind kinds
    rintro env rfl sN inc
    refine ⟨nolim.keeps inc.toInCall.keep, codeAny_func (wpAny_mono (bodyOk.run [] sN _ H _ (inv_start S hr.hd e0 vlen rv inc) tq) ?_ ?_)⟩
    · intro fl s2 hs
      cases fl with
      | next => obtain ⟨σ2, H2, J, q⟩ := hs; exact ⟨Value.none, rfl, V.non, H2, J.os, J.bare, J.base, J.hok, rfl, q⟩
      | ret u => obtain ⟨v, σ2, H2, J, r2, q⟩ := hs; exact ⟨u, rfl, v, H2, J.os, J.bare, J.base, J.hok, r2, q⟩
      | brk => obtain ⟨_, _, _, q⟩ := hs; exact q.elim
      | cont => obtain ⟨_, _, _, q⟩ := hs; exact q.elim
    · intro e s2 hs
      refine wpAny_mono hs ?_ ?_
      · rintro _ _ z
        exact False.elim z
      · rintro _ _ z
        exact False.elim z
end SC

set_option Elab.async false
set_option linter.all false
set_option maxRecDepth 100000
namespace SC
open PySem PySem.Spec PyProof.Rows L2

/-! ### defs over data -/
abbrev FG := List Sl → Option (D × List Sl)
def spD (K : PySem.W.Frag) (T : Cl) (n : Nat) (g : FG) : SpG := fun vs H Q => vs.length = n ∧ ∃ M ss r outs, SE K T M ss (vs.map some) H ∧ g ss = some (r, outs) ∧
  ∀ v H', (∀ a o, H a = some o → ¬ Mad ss (vs.map some) a → H' a = some o) →
    (∀ (m : Nat) (s : Sl), ss[m]? = some s → s.mut = true → ∃ (o : Sl) (a : Addr), outs[m]? = some o ∧ o.mut = true ∧ vs[m]? = some (.ref a) ∧ MutAt K T M H' a o) → Dv K T M H' r v → Q v H'
def frD : Option (Fw × Ev) → Option (D × List Sl)
  | some (.rt d, ρ) => some (d, ρ)
  | some (.nx, ρ) => some (.non, ρ)
  | _ => none
/-- a def: N names, the parameters that the body sets, the body -/
def fnD (N : Nat) (asg : List Nat) (fb : FB) : FG := fun ss =>
  if asg.all fun i => match ss[i]? with
    | some s => !s.mut
    | none => true
  then frD (fb (ss ++ List.replicate (N - ss.length) .un)) else none
theorem start_len {N : List Str} {vs : List V} (h : vs.length ≤ N.length) : (L2.start N vs).length = N.length := by
  unfold L2.start
  rw [List.length_append, List.length_map, List.length_replicate]
  omega
theorem se_start {K : PySem.W.Frag} {T : Cl} {M : Ms} {H : Hp} {N : List Str} {ss : List Sl} {vs : List V} (S : SE K T M ss (vs.map some) H) (hl : vs.length ≤ N.length) : SE K T M (ss ++ List.replicate (N.length - ss.length) .un) (L2.start N vs) H := by
  have ls : ss.length = vs.length := by have := S.ln; rw [List.length_map] at this; exact this
  have get : ∀ (i : Nat) (s : Sl), (ss ++ List.replicate (N.length - ss.length) .un)[i]? = some s → s.mut = true → ss[i]? = some s ∧ (L2.start N vs)[i]? = (vs.map some)[i]? := fun i s h m => by
    by_cases hi : i < ss.length
    · rw [List.getElem?_append_left hi] at h
      exact ⟨h, by unfold L2.start; rw [List.getElem?_append_left (by rw [List.length_map]; omega)]⟩
    · rw [List.getElem?_append_right (by omega), List.getElem?_replicate] at h
      split at h
      · cases h; cases m
      · cases h
  refine ⟨S.mm, ?_, fun i s h => ?_, fun i j s t v h1 m1 h2 m2 e1 e2 => ?_⟩
  · rw [start_len hl, List.length_append, List.length_replicate]
    omega
  · by_cases hi : i < ss.length
    · rw [List.getElem?_append_left hi] at h
      obtain ⟨v, g1, g2⟩ := S.sl i s h
      exact ⟨v, by unfold L2.start; rw [List.getElem?_append_left (by rw [List.length_map]; omega)]; exact g1, g2⟩
    · have hn : i < N.length := by
        have := (List.getElem?_eq_some_iff.mp h).1
        rw [List.length_append, List.length_replicate] at this
        omega
      rw [List.getElem?_append_right (by omega), List.getElem?_replicate] at h
      split at h
      · cases h
        refine ⟨none, ?_, trivial⟩
        unfold L2.start
        rw [List.getElem?_append_right (by rw [List.length_map]; omega), List.getElem?_replicate, List.length_map, if_pos (by omega)]
      · cases h
  · obtain ⟨a1, a2⟩ := get i s h1 m1
    obtain ⟨b1, b2⟩ := get j t h2 m2
    exact S.ap i j s t v a1 m1 b1 m2 (by rw [← a2]; exact e1) (by rw [← b2]; exact e2)
/-- slots that are no parameters of one's own -/
structure PaOk (F : Fx) (n : Nat) (asg : List Nat) : Prop where
  lt : ∀ p ∈ F.pa, p.1 < n
  na : ∀ p ∈ F.pa, p.1 ∉ asg
theorem PaOk.not {F : Fx} {n : Nat} {asg : List Nat} (h : PaOk F n asg) {i : Nat} (hi : (decide (n ≤ i) || asg.contains i) = true) : ∀ a, (i, a) ∉ F.pa := fun a z => by
  have h1 := h.lt _ z
  have h2 := h.na _ z
  rw [Bool.or_eq_true, decide_eq_true_eq, List.contains_iff_mem] at hi
  rcases hi with hi | hi
  · simp only at h1; omega
  · exact h2 hi
theorem PaOk.nots {F : Fx} {n : Nat} {asg is : List Nat} (h : PaOk F n asg) (hi : (is.all fun i => decide (n ≤ i) || asg.contains i) = true) : ∀ i ∈ is, ∀ a, (i, a) ∉ F.pa := fun i z => h.not (List.all_eq_true.mp hi i z)
/-- a def's entry -/
theorem spD_in {K : PySem.W.Frag} {T : Cl} {N ps : List Str} {scope : Scope} {asg : List Nat} {fb : FB} (S : FnScope N ps scope) {vs : List V} {H : Hp} {Q : VK} (h : spD K T ps.length (fnD N.length asg fb) vs H Q) :
    ∃ F : Fx, F.K = K ∧ F.T = T ∧ PaOk F ps.length asg ∧ TSd F fb { nx := fun _ H' => Q .non H', rt := Q } (L2.start N vs) H := by
  obtain ⟨hv, M, ss, r, outs, se, hg, q⟩ := h
  have hpl : ps.length ≤ N.length := by have := congrArg List.length S.pre; rw [List.length_take] at this; omega
  have ls : ss.length = vs.length := by have := se.ln; rw [List.length_map] at this; exact this
  have S1 := se_start se (N := N) (by rw [hv]; exact hpl)
  generalize hρ : ss ++ List.replicate (N.length - ss.length) .un = ρ0 at S1
  unfold fnD at hg
  rw [hρ] at hg
  split at hg
  case isFalse => cases hg
  case isTrue ha =>
  have madS : ∀ (i : Nat) (s : Sl) (v : Option V), ρ0[i]? = some s → s.mut = true → (L2.start N vs)[i]? = some v → ss[i]? = some s ∧ (vs.map some)[i]? = some v := fun i s v h m e => by
    rw [← hρ] at h
    by_cases hi : i < ss.length
    · rw [List.getElem?_append_left hi] at h
      refine ⟨h, ?_⟩
      unfold L2.start at e
      rw [List.getElem?_append_left (by rw [List.length_map]; omega)] at e
      exact e
    · rw [List.getElem?_append_right (by omega), List.getElem?_replicate] at h
      split at h
      · cases h; cases m
      · cases h
  have pas : PaOk (subF K T M ρ0 (L2.start N vs) H) ps.length asg := by
    refine ⟨fun p hp => ?_, fun p hp z => ?_⟩
    · obtain ⟨s, h1, m, h2⟩ := mem_mads.mp hp
      have := (List.getElem?_eq_some_iff.mp (madS p.1 s _ h1 m h2).1).1
      omega
    · obtain ⟨s, h1, m, h2⟩ := mem_mads.mp hp
      have h3 := (madS p.1 s _ h1 m h2).1
      have := List.all_eq_true.mp ha p.1 z
      rw [h3] at this
      simp only [m] at this
      cases this
  refine ⟨subF K T M ρ0 (L2.start N vs) H, rfl, rfl, pas, ?_⟩
  have fin : ∀ (w1 : Fw) (d : D) (ρ' : Ev) (M' : Ms) (σ' : Sg) (H' : Hp) (v : V), ρ' = outs → d = r → ER (subF K T M ρ0 (L2.start N vs) H) M' ρ' σ' H' → Dv K T M' H' d v → Q v H' := by
    intro w1 d ρ' M' σ' H' v e1 e2 R dv
    subst e1 e2
    refine q v H' (fun a o ea na => R.kp a o ea fun z => ?_) (fun m s hm mu => ?_) (Dv.less R.m0 _ dv)
    · obtain ⟨i, t, z1, z2, z3⟩ := subF_P.mp z
      obtain ⟨c1, c2⟩ := madS i t _ z1 z2 z3
      exact na ⟨i, t, c1, z2, c2⟩
    · obtain ⟨u, h1, h2⟩ := se.sl m s hm
      obtain ⟨a, rfl, _, _⟩ := h2.mutAt mu
      have hlt : m < ss.length := (List.getElem?_eq_some_iff.mp hm).1
      have g1 : ρ0[m]? = some s := by rw [← hρ, List.getElem?_append_left hlt]; exact hm
      have g2 : (L2.start N vs)[m]? = some (some (.ref a)) := by unfold L2.start; rw [List.getElem?_append_left (by rw [List.length_map]; omega)]; exact h1
      obtain ⟨k1, o, k2, k3⟩ := R.pr (m, a) (mem_mads.mpr ⟨s, g1, mu, g2⟩)
      obtain ⟨u, h3, h4⟩ := R.se.sl m o k2
      rw [k1] at h3
      cases h3
      obtain ⟨a', e, _, ma⟩ := h4.mutAt k3
      cases e
      refine ⟨o, a, k2, k3, ?_, MutAt.less R.m0 ma⟩
      rw [List.getElem?_map] at h1
      cases hh : vs[m]? with
      | none => rw [hh] at h1; cases h1
      | some x => rw [hh] at h1; cases h1; rfl
  cases e1 : fb ρ0 with
  | none => rw [e1] at hg; cases hg
  | some pw =>
    obtain ⟨w1, ρ'⟩ := pw
    rw [e1] at hg
    refine ⟨M, ρ0, w1, ρ', S1.enter, e1, fun M' σ' H' R st => ?_⟩
    cases w1 with
    | nx => cases hg; exact fin .nx .non _ M' σ' H' .non rfl rfl R rfl
    | rt d => cases hg; exact fun v dv => fin .nx _ _ M' σ' H' v rfl rfl R dv
    | bk => cases hg
    | ct => cases hg


section
variable {P : Program} {w : World} {K : PySem.W.Frag} {mg : Str → Option Value} {base : Heap} {k : Nat} {f : Addr} {name qual : Str} {params : Arguments} {body : List Stmt} {scope : Scope} {dV kV doc pm cdv ct oc : Value} {an od : Option Addr} {osl : Array (Option Value)} {N ps : List Str} {T : Cl} {asg : List Nat} {fb : FB}
theorem exF {X : Cx} {T : Cl} {n : Nat} (h : ∀ F : Fx, F.K = X.K → F.T = T → PaOk F n asg → PSs X body (TSd F fb)) : PSs X body (fun D σ H => ∃ F : Fx, F.K = X.K ∧ F.T = T ∧ PaOk F n asg ∧ TSd F fb D σ H) :=
  ⟨fun pins s σ H D I ⟨F, h1, h2, h3, hw⟩ => (h F h1 h2 h3).run pins s σ H D I hw⟩
theorem FnG.ofD (lk : K.lookup f = some ⟨oc, od, .func (PySem.W.fnOf name qual params body scope dV kV doc pm an cdv ct), osl⟩) (hcd : PySem.W.codeIn K cdv qual = true) (S : FnScope N ps scope)
    (go : ∀ (A : Around) (outer : List Env) (s : Shared) (H : Hp) (E : XK), Room k (A.deeper (envOfC qual scope s.heap.objs.size f cdv)) → A.guards = some [] → ∀ F : Fx, F.K = K → F.T = T → PaOk F ps.length asg →
      PSs (bodyCx P w K mg base N qual scope f cdv A outer s H E) body (TSd F fb)) :
    FnG P w K mg base (k + 1) f (PySem.W.fnOf name qual params body scope dV kV doc pm an cdv ct) ps (spD K T ps.length (fnD N.length asg fb)) :=
  FnG.of lk hcd S (fun vs H Q h => h.1) fun A outer s H vs Q hr gd h => ⟨_, exF (go A outer s H _ hr gd), spD_in S h⟩
/-- the same, as the hand layer's promise -/
abbrev spO (K : PySem.W.Frag) (T : Cl) (n : Nat) (g : FG) : Sp := fun vs H Q _ => spD K T n g vs H Q
theorem okD (lk : K.lookup f = some ⟨oc, od, .func (PySem.W.fnOf name qual params body scope dV kV doc pm an cdv ct), osl⟩) (hcd : PySem.W.codeIn K cdv qual = true) (S : FnScope N ps scope)
    (go : ∀ (A : Around) (outer : List Env) (s : Shared) (H : Hp) (E : XK), Room k (A.deeper (envOfC qual scope s.heap.objs.size f cdv)) → ∀ F : Fx, F.K = K → F.T = T → PaOk F ps.length asg →
      PSs (bodyCx P w K mg base N qual scope f cdv A outer s H E) body (TSd F fb)) :
    FnOk P w K mg base CX0 (k + 1) f (PySem.W.fnOf name qual params body scope dV kV doc pm an cdv ct) ps (spO K T ps.length (fnD N.length asg fb)) :=
  fn_of lk hcd S (fun vs H Q E h => h.1) fun A outer s H vs Q E hr h => ⟨_, exF (go A outer s H E hr), spD_in S h⟩
end

/-! ### the call of such a def -/
def argSl (ρ : Ev) : List Opd → Option (List Sl)
  | [] => some []
  | .dat d :: os => (argSl ρ os).map (.dat d :: ·)
  | .slot i :: os => match ρ[i]? with
    | some s => if s.mut = true then (argSl ρ os).map (s :: ·) else none
    | none => none
def slotsOf : List Opd → List Nat
  | [] => []
  | .dat _ :: os => slotsOf os
  | .slot i :: os => i :: slotsOf os
def putSl : Ev → List Opd → List Sl → Ev
  | ρ, .slot i :: os, o :: outs => putSl (ρ.set i o) os outs
  | ρ, .dat _ :: os, _ :: outs => putSl ρ os outs
  | ρ, _, _ => ρ
def fCall (g : FG) (dss : List D) (fa : FA) : FE := fun ρ => match fa ρ with
  | none => none
  | some (os, ρ1) => match argSl ρ1 os with
    | none => none
    | some ss => if (slotsOf os).Nodup then match g (ss ++ dss.map .dat) with
        | some (r, outs) => if os.length ≤ outs.length then some (.dat r, putSl ρ1 os outs) else none
        | none => none
      else none
theorem putSl_len : ∀ (os : List Opd) (outs : List Sl) (ρ : Ev), (putSl ρ os outs).length = ρ.length
  | .slot i :: os, o :: outs, ρ => by
    show (putSl (ρ.set i o) os outs).length = _
    rw [putSl_len os outs, List.length_set]
  | .dat _ :: os, _ :: outs, ρ => putSl_len os outs ρ
  | [], _, ρ => by simp [putSl]
  | .slot _ :: _, [], ρ => by simp [putSl]
  | .dat _ :: _, [], ρ => by simp [putSl]
theorem putSl_out : ∀ (os : List Opd) (outs : List Sl) (ρ : Ev) (j : Nat), j ∉ slotsOf os → (putSl ρ os outs)[j]? = ρ[j]?
  | .slot i :: os, o :: outs, ρ, j, h => by
    simp only [slotsOf, List.mem_cons, not_or] at h
    show (putSl (ρ.set i o) os outs)[j]? = _
    rw [putSl_out os outs _ j h.2, List.getElem?_set_ne (Ne.symm h.1)]
  | .dat _ :: os, _ :: outs, ρ, j, h => putSl_out os outs ρ j h
  | [], _, ρ, j, h => by simp [putSl]
  | .slot _ :: _, [], ρ, j, h => by simp [putSl]
  | .dat _ :: _, [], ρ, j, h => by simp [putSl]
theorem slotsOf_mem : ∀ {os : List Opd} {m j : Nat}, os[m]? = some (.slot j) → j ∈ slotsOf os
  | .slot i :: os, 0, j, h => by simp at h; subst h; exact List.mem_cons_self
  | .dat _ :: os, 0, j, h => by simp at h
  | .slot i :: os, m + 1, j, h => List.mem_cons_of_mem _ (slotsOf_mem (os := os) (m := m) (by simpa using h))
  | .dat _ :: os, m + 1, j, h => slotsOf_mem (os := os) (m := m) (by simpa using h)
  | [], m, j, h => by simp at h
theorem mem_slotsOf : ∀ {os : List Opd} {j : Nat}, j ∈ slotsOf os → ∃ m : Nat, os[m]? = some (.slot j)
  | .slot i :: os, j, h => by
    rcases List.mem_cons.mp h with e | e
    · subst e; exact ⟨0, rfl⟩
    · obtain ⟨m, hm⟩ := mem_slotsOf (os := os) e; exact ⟨m + 1, by simpa using hm⟩
  | .dat _ :: os, j, h => by obtain ⟨m, hm⟩ := mem_slotsOf (os := os) h; exact ⟨m + 1, by simpa using hm⟩
  | [], j, h => by cases h
theorem putSl_in : ∀ (os : List Opd) (outs : List Sl) (ρ : Ev) (m j : Nat), (slotsOf os).Nodup → os.length ≤ outs.length → os[m]? = some (.slot j) → j < ρ.length → (putSl ρ os outs)[j]? = outs[m]?
  | .slot i :: os, o :: outs, ρ, 0, j, nd, hl, h, hj => by
    simp at h
    subst h
    show (putSl (ρ.set i o) os outs)[i]? = _
    rw [putSl_out os outs _ i (List.nodup_cons.mp nd).1, List.getElem?_set_self hj]
    rfl
  | .slot i :: os, o :: outs, ρ, m + 1, j, nd, hl, h, hj => by
    show (putSl (ρ.set i o) os outs)[j]? = outs[m]?
    exact putSl_in os outs _ m j (List.nodup_cons.mp nd).2 (by simpa using hl) (by simpa using h) (by rw [List.length_set]; exact hj)
  | .dat _ :: os, o :: outs, ρ, 0, j, nd, hl, h, hj => by simp at h
  | .dat _ :: os, o :: outs, ρ, m + 1, j, nd, hl, h, hj => putSl_in os outs ρ m j nd (by simpa using hl) (by simpa using h) hj
  | [], _, ρ, m, j, nd, hl, h, hj => by simp at h
  | _ :: _, [], ρ, m, j, nd, hl, h, hj => by simp at hl
theorem argSl_len : ∀ {ρ : Ev} {os : List Opd} {ss : List Sl}, argSl ρ os = some ss → ss.length = os.length
  | _, [], _, h => by cases h; rfl
  | ρ, .dat d :: os, ss, h => by
    simp only [argSl, Option.map_eq_some_iff] at h
    obtain ⟨r, h1, rfl⟩ := h
    simp [argSl_len h1]
  | ρ, .slot i :: os, ss, h => by
    simp only [argSl] at h
    split at h
    · split at h
      · simp only [Option.map_eq_some_iff] at h
        obtain ⟨r, h1, rfl⟩ := h
        simp [argSl_len h1]
      · cases h
    · cases h
theorem argSl_get : ∀ {ρ : Ev} {os : List Opd} {ss : List Sl}, argSl ρ os = some ss → ∀ (m : Nat) (s : Sl), ss[m]? = some s → (∃ d, os[m]? = some (.dat d) ∧ s = .dat d) ∨ ∃ i, os[m]? = some (.slot i) ∧ ρ[i]? = some s ∧ s.mut = true
  | _, [], _, h, m, s, e => by cases h; simp at e
  | ρ, .dat d :: os, ss, h, m, s, e => by
    simp only [argSl, Option.map_eq_some_iff] at h
    obtain ⟨r, h1, rfl⟩ := h
    cases m with
    | zero => simp at e; subst e; exact .inl ⟨d, rfl, rfl⟩
    | succ m => simpa using argSl_get h1 m s (by simpa using e)
  | ρ, .slot i :: os, ss, h, m, s, e => by
    simp only [argSl] at h
    split at h
    · rename_i t ht
      split at h
      · rename_i hm
        simp only [Option.map_eq_some_iff] at h
        obtain ⟨r, h1, rfl⟩ := h
        cases m with
        | zero => simp at e; subst e; exact .inr ⟨i, rfl, ht, hm⟩
        | succ m => simpa using argSl_get h1 m s (by simpa using e)
      · cases h
    · cases h
theorem OpdsOk.at {F : Fx} {M : Ms} {H : Hp} {σ : Sg} : ∀ {os : List Opd} {vs : List V}, OpdsOk F M H σ os vs → ∀ (m : Nat) (o : Opd), os[m]? = some o → ∃ v, vs[m]? = some v ∧ OpdOk F M H σ o v
  | _, _, .nil, m, o, h => by simp at h
  | _, _, .cons h t, 0, o, e => by simp at e; subst e; exact ⟨_, rfl, h⟩
  | _, _, .cons h t, m + 1, o, e => by simpa using OpdsOk.at t m o (by simpa using e)
/-- the data of default values -/
def DefOk (K : PySem.W.Frag) (T : Cl) (dss : List D) (dvs : List V) : Prop := ∀ M H, DvS K T M H dss dvs
theorem slots_inj : ∀ {os : List Opd} (m l j : Nat), (slotsOf os).Nodup → os[m]? = some (.slot j) → os[l]? = some (.slot j) → m = l
  | [], m, l, j, nd, h1, h2 => by simp at h1
  | .slot i :: os, 0, 0, j, nd, h1, h2 => rfl
  | .slot i :: os, 0, l + 1, j, nd, h1, h2 => by
    simp at h1 h2
    subst h1
    exact absurd (slotsOf_mem h2) (List.nodup_cons.mp nd).1
  | .slot i :: os, m + 1, 0, j, nd, h1, h2 => by
    simp at h1 h2
    subst h2
    exact absurd (slotsOf_mem h1) (List.nodup_cons.mp nd).1
  | .slot i :: os, m + 1, l + 1, j, nd, h1, h2 => by
    simp at h1 h2
    rw [slots_inj m l j (List.nodup_cons.mp nd).2 h1 h2]
  | .dat d :: os, 0, l, j, nd, h1, h2 => by simp at h1
  | .dat d :: os, m + 1, 0, j, nd, h1, h2 => by simp at h2
  | .dat d :: os, m + 1, l + 1, j, nd, h1, h2 => by
    simp at h1 h2
    rw [slots_inj (os := os) m l j nd h1 h2]
section
variable {F : Fx} {M : Ms} {ρ : Ev} {σ : Sg} {H H' : Hp}
/-- the arguments as a frame's start -/
theorem args_se (R : ER F M ρ σ H) {os : List Opd} {vs dvs : List V} {ss : List Sl} {dss : List D} (ok : OpdsOk F M H σ os vs) (ha : argSl ρ os = some ss) (nd : (slotsOf os).Nodup) (hd : DefOk F.K F.T dss dvs) :
    SE F.K F.T M (ss ++ dss.map .dat) ((vs ++ dvs).map some) H := by
  have l1 := argSl_len ha
  have l2 : os.length = vs.length := Paired.length ok
  have l3 := (hd M H).length
  have get : ∀ (m : Nat) (s : Sl), (ss ++ dss.map .dat)[m]? = some s → s.mut = true → ∃ i, os[m]? = some (.slot i) ∧ ρ[i]? = some s ∧ ((vs ++ dvs).map some)[m]? = σ[i]? := fun m s h mu => by
    by_cases hm : m < ss.length
    · rw [List.getElem?_append_left hm] at h
      rcases argSl_get ha m s h with ⟨d, _, rfl⟩ | ⟨i, h1, h2, _⟩
      · cases mu
      · obtain ⟨v, c1, c2⟩ := OpdsOk.at ok m _ h1
        exact ⟨i, h1, h2, by rw [List.getElem?_map, List.getElem?_append_left (by omega), c1]; exact (show σ[i]? = some (some v) from c2).symm⟩
    · rw [List.getElem?_append_right (by omega), List.getElem?_map] at h
      cases e : dss[m - ss.length]? with
      | none => rw [e] at h; cases h
      | some d => rw [e] at h; cases h; cases mu
  refine ⟨R.mm, by simp; omega, fun m s h => ?_, fun m l s t v h1 m1 h2 m2 e1 e2 => ?_⟩
  · by_cases mu : s.mut = true
    · obtain ⟨i, c1, c2, c3⟩ := get m s h mu
      obtain ⟨v, g1, g2⟩ := R.se.sl i s c2
      exact ⟨v, by rw [c3]; exact g1, g2⟩
    · by_cases hm : m < ss.length
      · rw [List.getElem?_append_left hm] at h
        rcases argSl_get ha m s h with ⟨d, c1, rfl⟩ | ⟨i, _, _, z⟩
        · obtain ⟨v, c2, c3⟩ := OpdsOk.at ok m _ c1
          exact ⟨some v, by rw [List.getElem?_map, List.getElem?_append_left (by omega), c2]; rfl, v, rfl, c3⟩
        · exact absurd z mu
      · rw [List.getElem?_append_right (by omega), List.getElem?_map] at h
        cases e : dss[m - ss.length]? with
        | none => rw [e] at h; cases h
        | some d =>
          rw [e] at h
          cases h
          obtain ⟨x, c1, c2⟩ := (hd M H).getD e
          exact ⟨some x, by rw [List.getElem?_map, List.getElem?_append_right (by omega), ← l2, ← l1, c1]; rfl, x, rfl, c2⟩
  · obtain ⟨i, c1, c2, c3⟩ := get m s h1 m1
    obtain ⟨j, d1, d2, d3⟩ := get l t h2 m2
    rw [c3] at e1
    rw [d3] at e2
    have := R.ap i j s t v c2 m1 d2 m2 e1 e2
    subst this
    exact slots_inj m l i nd c1 d1
/-- behind the call -/
theorem args_back (R : ER F M ρ σ H) {os : List Opd} {vs dvs : List V} {ss outs : List Sl} {dss : List D} (ok : OpdsOk F M H σ os vs) (ha : argSl ρ os = some ss) (nd : (slotsOf os).Nodup) (hd : DefOk F.K F.T dss dvs)
    (kp : ∀ a o, H a = some o → ¬ Mad (ss ++ dss.map .dat) ((vs ++ dvs).map some) a → H' a = some o)
    (ho : ∀ (m : Nat) (s : Sl), (ss ++ dss.map .dat)[m]? = some s → s.mut = true → ∃ (o : Sl) (a : Addr), outs[m]? = some o ∧ o.mut = true ∧ (vs ++ dvs)[m]? = some (.ref a) ∧ MutAt F.K F.T M H' a o) (hlo : os.length ≤ outs.length) :
    ER F M (putSl ρ os outs) σ H' ∧ Keep M H H' := by
  have S := args_se R ok ha nd hd
  have l1 := argSl_len ha
  have l2 : os.length = vs.length := Paired.length ok
  have keep : Keep M H H' := fun a o e n => kp a o e fun z => n (S.mad z)
  -- an argument slot
  have inn : ∀ (j : Nat), j ∈ slotsOf os → ∃ s o a, ρ[j]? = some s ∧ s.mut = true ∧ (putSl ρ os outs)[j]? = some o ∧ o.mut = true ∧ σ[j]? = some (some (.ref a)) ∧ MutAt F.K F.T M H' a o := fun j hj => by
    obtain ⟨m, hm⟩ := mem_slotsOf hj
    have hml : m < ss.length := by rw [l1]; exact (List.getElem?_eq_some_iff.mp hm).1
    obtain ⟨s, hs⟩ : ∃ s, ss[m]? = some s := ⟨ss[m], by simp [hml]⟩
    rcases argSl_get ha m s hs with ⟨d, c1, _⟩ | ⟨i, c1, c2, c3⟩
    · rw [hm] at c1; cases c1
    · rw [hm] at c1
      cases c1
      obtain ⟨o, a, g1, g2, g3, g4⟩ := ho m s (by rw [List.getElem?_append_left hml]; exact hs) c3
      obtain ⟨v, k1, k2⟩ := OpdsOk.at ok m _ hm
      rw [List.getElem?_append_left (by omega), k1] at g3
      cases g3
      exact ⟨s, o, a, c2, c3, by rw [putSl_in os outs ρ m j nd hlo hm (List.getElem?_eq_some_iff.mp c2).1]; exact g1, g2, k2, g4⟩
  have outN : ∀ (j : Nat) (s : Sl) (a : Addr), j ∉ slotsOf os → ρ[j]? = some s → s.mut = true → σ[j]? = some (some (.ref a)) → ¬ Mad (ss ++ dss.map .dat) ((vs ++ dvs).map some) a := fun j s a hj hs mu e ⟨m, t, z1, z2, z3⟩ => by
    by_cases hm : m < ss.length
    · rw [List.getElem?_append_left hm] at z1
      rcases argSl_get ha m t z1 with ⟨d, _, rfl⟩ | ⟨i, c1, c2, _⟩
      · cases z2
      · obtain ⟨v, k1, k2⟩ := OpdsOk.at ok m _ c1
        rw [List.getElem?_map, List.getElem?_append_left (by omega), k1] at z3
        cases z3
        have := R.ap j i s t _ hs mu c2 z2 e k2
        subst this
        exact hj (slotsOf_mem c1)
    · rw [List.getElem?_append_right (by omega), List.getElem?_map] at z1
      cases e : dss[m - ss.length]? with
      | none => rw [e] at z1; cases z1
      | some d => rw [e] at z1; cases z1; cases z2
  have mus : ∀ (j : Nat) (s : Sl), (putSl ρ os outs)[j]? = some s → s.mut = true → ∃ s', ρ[j]? = some s' ∧ s'.mut = true := fun j s h mu => by
    by_cases hj : j ∈ slotsOf os
    · obtain ⟨s', o, a, c1, c2, _⟩ := inn j hj
      exact ⟨s', c1, c2⟩
    · rw [putSl_out os outs ρ j hj] at h
      exact ⟨s, h, mu⟩
  refine ⟨ER.of_se ⟨fun a m => ?_, by rw [putSl_len]; exact R.ln, fun j s h => ?_, fun j l s t v h1 m1 h2 m2 e1 e2 => ?_⟩ R.m0 (fun a o e n => ?_) R.h0 (fun a ⟨j, s, h, mu, e⟩ => ?_) (fun pp hpp => ?_) R.pp, keep⟩
  · by_cases z : Mad (ss ++ dss.map .dat) ((vs ++ dvs).map some) a
    · obtain ⟨m, s, z1, z2, z3⟩ := z
      obtain ⟨o, a', g1, g2, g3, g4⟩ := ho m s z1 z2
      rw [List.getElem?_map, g3] at z3
      cases z3
      cases o with
      | un => exact g4.elim
      | dat _ => exact g4.elim
      | own _ => obtain ⟨xs, e, _⟩ := g4; rw [e]; trivial
      | obj _ _ => obtain ⟨dx, xs, e, _⟩ := g4; rw [e]; trivial
    · have mu := R.mm a m
      cases e : H a with
      | none => rw [e] at mu; exact mu.elim
      | some o => rw [kp a o e z]; rw [e] at mu; exact mu
  · by_cases hj : j ∈ slotsOf os
    · obtain ⟨s', o, a, c1, c2, c3, c4, c5, c6⟩ := inn j hj
      rw [c3] at h
      cases h
      obtain ⟨v, g1, g2⟩ := R.se.sl j s' c1
      rw [c5] at g1
      cases g1
      obtain ⟨a', e, ma, _⟩ := g2.mutAt c2
      cases e
      exact ⟨_, c5, SlK.of_mut c4 ⟨a, rfl, ma, c6⟩⟩
    · rw [putSl_out os outs ρ j hj] at h
      obtain ⟨v, g1, g2⟩ := R.se.sl j s h
      refine ⟨v, g1, ?_⟩
      by_cases mu : s.mut = true
      · obtain ⟨a, rfl, ma, q⟩ := g2.mutAt mu
        have na := outN j s a hj h mu g1
        have ea : H' a = H a := by
          cases e : H a with
          | none => exact absurd e (R.mh a ma)
          | some o => exact kp a o e na
        exact SlK.of_mut mu ⟨a, rfl, ma, MutAt.other keep R.mm ea q⟩
      · cases s with
        | un => trivial
        | dat d => obtain ⟨x, e1, e2⟩ := g2; exact ⟨x, e1, Dv.keep keep R.mm d e2⟩
        | own _ => exact absurd rfl mu
        | obj _ _ => exact absurd rfl mu
  · obtain ⟨s', a1, a2⟩ := mus j s h1 m1
    obtain ⟨t', b1, b2⟩ := mus l t h2 m2
    exact R.ap j l s' t' v a1 a2 b1 b2 e1 e2
  · have e1 := R.kp a o e n
    refine kp a o e1 fun z => ?_
    obtain ⟨m, s, z1, z2, z3⟩ := z
    by_cases hm : m < ss.length
    · rw [List.getElem?_append_left hm] at z1
      rcases argSl_get ha m s z1 with ⟨d, _, rfl⟩ | ⟨i, c1, c2, _⟩
      · cases z2
      · obtain ⟨v, k1, k2⟩ := OpdsOk.at ok m _ c1
        rw [List.getElem?_map, List.getElem?_append_left (by omega), k1] at z3
        cases z3
        rcases (R.mad ⟨i, s, c2, z2, k2⟩).2 with y | y
        · exact n y
        · rw [y] at e; cases e
    · rw [List.getElem?_append_right (by omega), List.getElem?_map] at z1
      cases e : dss[m - ss.length]? with
      | none => rw [e] at z1; cases z1
      | some d => rw [e] at z1; cases z1; cases z2
  · obtain ⟨s', a1, a2⟩ := mus j s h mu
    exact (R.mad ⟨j, s', a1, a2, e⟩).2
  · obtain ⟨g1, s, g2, g3⟩ := R.pr pp hpp
    refine ⟨g1, ?_⟩
    by_cases hj : pp.1 ∈ slotsOf os
    · obtain ⟨s', o, a, c1, c2, c3, c4, _⟩ := inn pp.1 hj
      exact ⟨o, c3, c4⟩
    · rw [putSl_out os outs ρ pp.1 hj]
      exact ⟨s, g2, g3⟩
theorem call_read {n : Nat} {g : FG} {dss : List D} {dvs : List V} {fa : FA} {Q : VK} (hl : ∀ ρ os ρ', fa ρ = some (os, ρ') → os.length + dss.length = n) (hd : DefOk F.K F.T dss dvs) (h : TEd F (fCall g dss fa) σ H Q) : tCallG (spD F.K F.T n g) dvs (TAd F fa) σ H Q := by
  obtain ⟨M, ρ, o, ρ', R, hf, q⟩ := h
  unfold fCall at hf
  cases e1 : fa ρ with
  | none => rw [e1] at hf; cases hf
  | some p1 =>
    obtain ⟨os, ρ1⟩ := p1
    rw [e1] at hf
    simp only at hf
    cases e2 : argSl ρ1 os with
    | none => rw [e2] at hf; cases hf
    | some ss =>
      rw [e2] at hf
      simp only at hf
      split at hf
      case isFalse => cases hf
      case isTrue nd =>
      cases e3 : g (ss ++ dss.map .dat) with
      | none => rw [e3] at hf; cases hf
      | some pr =>
        obtain ⟨r, outs⟩ := pr
        rw [e3] at hf
        simp only at hf
        split at hf
        case isFalse => cases hf
        case isTrue hlo =>
        cases hf
        refine ⟨M, ρ, os, ρ1, R, e1, fun vs M1 H1 s1 R1 k1 ok1 => ⟨?_, M1, _, r, outs, args_se R1 ok1 e2 nd hd, e3, fun v H2 kp ho dv => ?_⟩⟩
        · have := hl ρ os ρ1 e1
          have l2 : os.length = vs.length := Paired.length ok1
          have l3 := (hd M1 H1).length
          rw [List.length_append]
          omega
        · obtain ⟨R2, k2⟩ := args_back R1 ok1 e2 nd hd kp ho hlo
          exact q v M1 H2 s1 R2 (k1.trans (k2.mono s1)) dv
end
/-- the number of operands -/
structure FaLen (fa : FA) (n : Nat) : Prop where
  eq : ∀ ρ os ρ', fa ρ = some (os, ρ') → os.length = n
theorem faLen_nil : FaLen fNil 0 := ⟨fun ρ os ρ' h => by cases h; rfl⟩
theorem faLen_cons {fe : FE} {fr : FA} {n : Nat} (h : FaLen fr n) : FaLen (fCons fe fr) (n + 1) := ⟨fun ρ os ρ' e => by
  unfold fCons at e
  split at e
  · cases e
  · rename_i o ρ1 e1
    split at e
    · cases e
    · rename_i os' ρ2 e2
      first
        | (split at e <;> first | (cases e; simp [h.eq _ _ _ e2]) | cases e)
        | (cases e; simp [h.eq _ _ _ e2])⟩
section
variable {X : Cx} {F : Fx} {k : Nat} {f : Addr} {fd : FuncData} {ps : List Str} {g : FG} {dvs : List V} {dss : List D} {ds : List Value} {x : Str} {p pos : Pos} {e : Expr} {es : List Expr} {fa : FA} {n : Nat}
theorem de_call (hK : F.K = X.K) (Fn : FnG X.prog X.w X.K X.mg X.base k f fd ps (spD X.K F.T ps.length g)) (hr : Room k X.A) (gd : X.A.guards = some []) (hg : Gl X x) (hm : X.mg x = some (.ref f)) (hk : PySem.W.keepIn X.K (.ref f) = true) (hb : Binds X.K fd ps ds) (hd : Vals dvs ds) (hdd : DefOk F.K F.T dss dvs)
    (ha : PA X (e :: es) (TAd F fa)) (hl : FaLen fa n) (hn : n + dss.length = ps.length) (hdb : (x == ("__debug__" : Str)) = false) (he : starEach (e :: es) X.env = (false, eval e X.env) :: starEach es X.env) (hpl : (backTo pos (starEach es X.env)).any (·.1) = false) :
    PE X (.Call (.Name x p) (e :: es) [] pos) (TEd F (fCall g dss fa)) := by
  refine PE.imp (pe_callG Fn hr gd hg hm hk hb hd ha hdb he hpl) fun σ H Q h => ?_
  rw [← hK]
  exact call_read (fun ρ os ρ' z => by rw [hl.eq ρ os ρ' z]; exact hn) hdd h
theorem de_call0 (hK : F.K = X.K) (Fn : FnG X.prog X.w X.K X.mg X.base k f fd ps (spD X.K F.T ps.length g)) (hr : Room k X.A) (gd : X.A.guards = some []) (hg : Gl X x) (hm : X.mg x = some (.ref f)) (hk : PySem.W.keepIn X.K (.ref f) = true) (hb : Binds X.K fd ps ds) (hd : Vals dvs ds) (hdd : DefOk F.K F.T dss dvs)
    (hn : dss.length = ps.length) (hdb : (x == ("__debug__" : Str)) = false) : PE X (.Call (.Name x p) [] [] pos) (TEd F (fCall g dss fNil)) := by
  refine PE.imp (pe_callG0 Fn hr gd hg hm hk hb hd hdb) fun σ H Q h => ?_
  rw [← hK]
  obtain ⟨M, ρ, os, ρ', R, hf, q⟩ := call_read (n := ps.length) (fun ρ os ρ' z => by cases z; simpa using hn) hdd h
  cases hf
  exact q [] M H (fun _ z => z) R Keep.rfl .nil
end
end SC

set_option Elab.async false
set_option linter.all false
set_option maxRecDepth 100000
namespace SC
open PySem PySem.Spec PyProof.Rows L2

/-! ### a slot's thing changes, any kind -/
section
variable {F : Fx} {M : Ms} {ρ : Ev} {σ : Sg} {H : Hp}
theorem mutAt_mu {K : PySem.W.Frag} {T : Cl} {H : Hp} {a : Addr} : ∀ {s : Sl}, MutAt K T M H a s → Mu (H a)
  | .un, h => h.elim
  | .dat _, h => h.elim
  | .own _, ⟨xs, e, _⟩ => by rw [e]; trivial
  | .obj _ _, ⟨dx, xs, e, _⟩ => by rw [e]; trivial
theorem ER.putMut (R : ER F M ρ σ H) {H' : Hp} {i : Nat} {p : Addr} {t s : Sl} (hi : ρ[i]? = some t) (mt : t.mut = true) (ms : s.mut = true) (hs : σ[i]? = some (some (.ref p))) (kp : ∀ a o, H a = some o → a ≠ p → H' a = some o) (at_ : MutAt F.K F.T M H' p s) :
    ER F M (ρ.set i s) σ H' ∧ Keep M H H' := by
  have mp : Mad ρ σ p := ⟨i, t, hi, mt, hs⟩
  have m := R.se.mad mp
  have keep : Keep M H H' := fun a o e n => kp a o e fun z => n (by rw [z]; exact m)
  have hl : i < ρ.length := (List.getElem?_eq_some_iff.mp hi).1
  have get : ∀ (j : Nat) (u : Sl), (ρ.set i s)[j]? = some u → u.mut = true → ∃ u', ρ[j]? = some u' ∧ u'.mut = true := fun j u h mu => by
    rw [List.getElem?_set] at h
    by_cases k : i = j
    · exact ⟨t, by rw [← k]; exact hi, mt⟩
    · rw [if_neg k] at h; exact ⟨u, h, mu⟩
  refine ⟨ER.of_se ⟨fun a ma => ?_, by rw [List.length_set]; exact R.ln, fun j u e => ?_, fun j l u u' v h1 m1 h2 m2 e1 e2 => ?_⟩ R.m0 (fun a o e n => ?_) R.h0 (fun a ⟨j, u, h, mu, e⟩ => ?_) (fun pp hpp => ?_) R.pp, keep⟩
  · by_cases h : a = p
    · subst h; exact mutAt_mu at_
    · have mu := R.mm a ma
      cases e : H a with
      | none => rw [e] at mu; exact mu.elim
      | some o => rw [kp a o e h]; rw [e] at mu; exact mu
  · rw [List.getElem?_set] at e
    by_cases k : i = j
    · subst k
      rw [if_pos rfl, if_pos hl] at e
      cases e
      exact ⟨_, hs, SlK.of_mut ms ⟨p, rfl, m, at_⟩⟩
    · rw [if_neg k] at e
      obtain ⟨v, h1, h2⟩ := R.se.sl j u e
      refine ⟨v, h1, ?_⟩
      by_cases mu : u.mut = true
      · obtain ⟨a, rfl, m2, q⟩ := h2.mutAt mu
        have ne : a ≠ p := fun z => by
          subst z
          exact k (R.ap i j t u _ hi mt e mu hs h1)
        have ea : H' a = H a := by
          cases c : H a with
          | none => exact absurd c (R.mh a m2)
          | some o => exact kp a o c ne
        exact SlK.of_mut mu ⟨a, rfl, m2, MutAt.other keep R.mm ea q⟩
      · cases u with
        | un => trivial
        | dat d => obtain ⟨x, e1, e2⟩ := h2; exact ⟨x, e1, Dv.keep keep R.mm d e2⟩
        | own _ => exact absurd rfl mu
        | obj _ _ => exact absurd rfl mu
  · obtain ⟨s', a1, a2⟩ := get j u h1 m1
    obtain ⟨t', b1, b2⟩ := get l u' h2 m2
    exact R.ap j l s' t' v a1 a2 b1 b2 e1 e2
  · have ne : a ≠ p := fun z => by
      subst z
      rcases (R.mad mp).2 with y | y
      · exact n y
      · rw [y] at e; cases e
    exact kp a o (R.kp a o e n) ne
  · obtain ⟨s', a1, a2⟩ := get j u h mu
    exact (R.mad ⟨j, s', a1, a2, e⟩).2
  · obtain ⟨g1, u, g2, g3⟩ := R.pr pp hpp
    refine ⟨g1, ?_⟩
    rw [List.getElem?_set]
    by_cases k : i = pp.1
    · rw [if_pos k, if_pos hl]
      exact ⟨_, rfl, ms⟩
    · rw [if_neg k]
      exact ⟨u, g2, g3⟩
/-- a slot gets a new thing -/
theorem ER.setMut (R : ER F M ρ σ H) {i : Nat} {p : Addr} {s : Sl} (ms : s.mut = true) (m : M p) (no : ¬ Mad ρ σ p) (h0 : F.H0 p = none) (at_ : MutAt F.K F.T M H p s) (hi : ∀ a, (i, a) ∉ F.pa) :
    ER F M (ρ.set i s) (σ.set i (some (.ref p))) H := by
  have get : ∀ (j : Nat) (u : Sl) (v : Option V), (ρ.set i s)[j]? = some u → u.mut = true → (σ.set i (some (.ref p)))[j]? = some v → (j = i ∧ v = some (.ref p)) ∨ (j ≠ i ∧ ρ[j]? = some u ∧ σ[j]? = some v) := fun j u v h mu e => by
    rw [List.getElem?_set] at h e
    by_cases k : i = j
    · rw [if_pos k] at e
      split at e
      · cases e; exact .inl ⟨k.symm, rfl⟩
      · cases e
    · rw [if_neg k] at h e
      exact .inr ⟨Ne.symm k, h, e⟩
  refine ER.of_se ⟨R.mm, by rw [List.length_set, List.length_set]; exact R.ln, fun j u e => ?_, fun j l u u' v h1 m1 h2 m2 e1 e2 => ?_⟩ R.m0 R.kp R.h0 (fun a ⟨j, u, h, mu, e⟩ => ?_) (fun pp hpp => ?_) R.pp
  · rw [List.getElem?_set] at e ⊢
    by_cases k : i = j
    · subst k
      rw [if_pos rfl] at e ⊢
      split at e
      · rename_i hl
        cases e
        exact ⟨some (.ref p), by rw [if_pos (by rw [← R.ln]; exact hl)], SlK.of_mut ms ⟨p, rfl, m, at_⟩⟩
      · cases e
    · rw [if_neg k] at e ⊢
      exact R.se.sl j u e
  · rcases get j u v h1 m1 e1 with ⟨a1, a2⟩ | ⟨a0, a1, a2⟩
    · rcases get l u' v h2 m2 e2 with ⟨b1, b2⟩ | ⟨b0, b1, b2⟩
      · exact a1.trans b1.symm
      · rw [a2] at b2; exact absurd ⟨l, u', b1, m2, b2⟩ no
    · rcases get l u' v h2 m2 e2 with ⟨b1, b2⟩ | ⟨b0, b1, b2⟩
      · rw [b2] at a2; exact absurd ⟨j, u, a1, m1, a2⟩ no
      · exact R.ap j l u u' v a1 m1 b1 m2 a2 b2
  · rcases get j u _ h mu e with ⟨a1, a2⟩ | ⟨a0, a1, a2⟩
    · cases a2; exact .inr h0
    · exact (R.mad ⟨j, u, a1, mu, a2⟩).2
  · have k : i ≠ pp.1 := fun k => hi pp.2 (by rw [k]; exact hpp)
    rw [List.getElem?_set_ne k, List.getElem?_set_ne k]
    exact R.pr pp hpp
end

/-! ### fields -/
structure CK (K : PySem.W.Frag) (T : Cl) (c : Nat) : Prop where
  cls : Cls K (T.ad c)
  nd : (T.fl c).Nodup
  na : ∀ f ∈ T.fl c, NoAttr K (T.ad c) f
  few : (T.fl c).length < 1000
theorem zip_lookup : ∀ {fl : List Str} {xs : List V} {j : Nat} {f : Str} {v : V}, fl.Nodup → fl[j]? = some f → xs[j]? = some v → (fl.zip xs).lookup f = some v
  | [], _, j, f, v, _, h, _ => by simp at h
  | _ :: _, [], j, f, v, _, _, h => by simp at h
  | g :: fl, x :: xs, 0, f, v, nd, h1, h2 => by
    simp at h1 h2
    subst h1 h2
    simp [List.zip_cons_cons, List.lookup]
  | g :: fl, x :: xs, j + 1, f, v, nd, h1, h2 => by
    have hm : f ∈ fl := List.mem_of_getElem? (by simpa using h1)
    have ne : (f == g) = false := beq_eq_false_iff_ne.mpr fun e => (List.nodup_cons.mp nd).1 (by rw [← e]; exact hm)
    rw [List.zip_cons_cons, List.lookup_cons, ne]
    exact zip_lookup (List.nodup_cons.mp nd).2 (by simpa using h1) (by simpa using h2)
theorem zip_nolook : ∀ {fl : List Str} {xs : List V} {f : Str}, f ∉ fl → (fl.zip xs).lookup f = none
  | [], _, f, _ => by simp
  | _ :: _, [], f, _ => by simp
  | g :: fl, x :: xs, f, h => by
    have ne : (f == g) = false := beq_eq_false_iff_ne.mpr fun e => h (by rw [e]; exact List.mem_cons_self)
    rw [List.zip_cons_cons, List.lookup_cons, ne]
    exact zip_nolook fun z => h (List.mem_cons_of_mem _ z)
/-- put, or added at the end -/
def setA {α : Type} (xs : List α) (j : Nat) (y : α) : List α := if j < xs.length then xs.set j y else xs ++ [y]
theorem zip_put : ∀ {fl : List Str} {xs : List V} {j : Nat} {f : Str} {y : V}, fl.Nodup → fl[j]? = some f → j ≤ xs.length → putF f y (fl.zip xs) = fl.zip (setA xs j y)
  | [], _, j, f, y, _, h, _ => by simp at h
  | g :: fl, [], j, f, y, nd, h, hj => by
    have : j = 0 := by simpa using hj
    subst this
    simp at h
    subst h
    simp [putF, setA]
  | g :: fl, x :: xs, 0, f, y, nd, h, hj => by
    simp at h
    subst h
    simp [putF, setA]
  | g :: fl, x :: xs, j + 1, f, y, nd, h, hj => by
    have hm : f ∈ fl := List.mem_of_getElem? (by simpa using h)
    have ne : g ≠ f := fun e => (List.nodup_cons.mp nd).1 (by rw [e]; exact hm)
    have ih := zip_put (y := y) (List.nodup_cons.mp nd).2 (show fl[j]? = some f by simpa using h) (show j ≤ xs.length by simpa using hj)
    rw [List.zip_cons_cons]
    show (if g = f then _ else (g, x) :: putF f y (fl.zip xs)) = _
    rw [if_neg ne, ih]
    unfold setA
    by_cases hl : j < xs.length
    · rw [if_pos hl, if_pos (by simpa using hl)]; simp
    · rw [if_neg hl, if_neg (by simpa using hl)]; simp
theorem setA_len {α : Type} {xs : List α} {j : Nat} {y : α} {n : Nat} (h : xs.length ≤ n) (hj : j < n) (hl : j ≤ xs.length) : (setA xs j y).length ≤ n := by
  unfold setA
  split
  · rw [List.length_set]; exact h
  · rw [List.length_append]; simp; omega
theorem DvS.setA {K : PySem.W.Frag} {T : Cl} {M : Ms} {H : Hp} {ds : List D} {xs : List V} {j : Nat} {d : D} {y : V} (h : DvS K T M H ds xs) (hd : Dv K T M H d y) : DvS K T M H (SC.setA ds j d) (SC.setA xs j y) := by
  unfold SC.setA
  rw [h.length]
  split
  · exact h.set j hd
  · exact h.append (DvS.cons hd DvS.nil)
def insOf : Option D → Option (Nat × List D)
  | some (.ins c ds) => some (c, ds)
  | _ => none
def fFld (c j : Nat) (fa : FE) : FE := fun ρ => match fa ρ with
  | none => none
  | some (o, ρ1) => match insOf (o.get ρ1) with
    | some (c', ds) => if c' = c then (ds[j]?).map fun d => (.dat d, ρ1) else none
    | none => none
theorem insOf_some {o : Option D} {c : Nat} {ds : List D} (h : insOf o = some (c, ds)) : o = some (.ins c ds) := by
  unfold insOf at h
  split at h
  · cases h; rfl
  · cases h
section
variable {X : Cx} {F : Fx} {pos : Pos} {e : Expr} {fa : FE}
theorem de_fld {c j : Nat} {f : Str} (hK : F.K = X.K) (ck : CK X.K F.T c) (hf : (F.T.fl c)[j]? = some f) (ha : PE X e (TEd F fa)) (hb : attributeBase e f X.env (eval e X.env) = eval e X.env) : PE X (.Attribute e f pos) (TEd F (fFld c j fa)) := by
  obtain ⟨K, T, M0, pa, H0⟩ := F
  cases hK
  refine PE.imp (pe_fld ha hb) ?_
  rintro σ H Q ⟨M, ρ, o, ρ', R, hf', q⟩
  unfold fFld at hf'
  cases e1 : fa ρ with
  | none => rw [e1] at hf'; cases hf'
  | some p1 =>
    obtain ⟨o1, ρ1⟩ := p1
    rw [e1] at hf'
    simp only at hf'
    cases e2 : insOf (o1.get ρ1) with
    | none => rw [e2] at hf'; cases hf'
    | some p2 =>
      obtain ⟨c', ds⟩ := p2
      rw [e2] at hf'
      simp only at hf'
      split at hf'
      · rename_i hc
        subst hc
        cases e3 : ds[j]? with
        | none => rw [e3] at hf'; cases hf'
        | some d =>
          rw [e3] at hf'
          cases hf'
          refine ⟨M, ρ, o1, _, R, e1, fun v M1 H1 s1 R1 k1 ok1 => ?_⟩
          obtain ⟨a, dx, xs, rfl, ha, hl, dv⟩ := (R1.opd ok1 (insOf_some e2)).ins
          obtain ⟨x, h1, h2⟩ := dv.getD e3
          exact ⟨a, _, dx, _, x, rfl, ha, ck.cls, ck.na f (List.mem_of_getElem? hf), zip_lookup ck.nd hf h1, q x M1 H1 s1 R1 k1 h2⟩
      · cases hf'
/-- the target o.f of an own object -/
def objAt (ρ : Ev) (i : Nat) : Option (Nat × List D) := match ρ[i]? with
  | some (.obj c ds) => some (c, ds)
  | _ => none
theorem objAt_some {ρ : Ev} {i c : Nat} {ds : List D} (h : objAt ρ i = some (c, ds)) : ρ[i]? = some (.obj c ds) := by
  unfold objAt at h
  split at h
  · cases h; assumption
  · cases h
/-- set a field of the slot's object -/
def putA (i c j : Nat) (d : D) (ρ : Ev) : Option Ev := match objAt ρ i with
  | some (c', ds) => if c' = c ∧ j ≤ ds.length then some (ρ.set i (.obj c (setA ds j d))) else none
  | none => none
def TAt (F : Fx) (i c j : Nat) : TG := fun v σ H Q => ∃ M ρ d ρ', ER F M ρ σ H ∧ Dv F.K F.T M H d v ∧ putA i c j d ρ = some ρ' ∧
  ∀ H', ER F M ρ' σ H' → Keep M H H' → Q σ H'
theorem pg_attr {i c j : Nat} {x f : Str} {p1 : Pos} (hK : F.K = X.K) (ck : CK X.K F.T c) (hf : (F.T.fl c)[j]? = some f) (hN : X.N[i]? = some x) (hv : Vis X.env.scope x) (hd : (x == ("__debug__" : Str)) = false) (hcd : (x == ("__classdict__" : Str)) = false) :
    PG X (.Attribute (.Name x p1) f pos) (TAt F i c j) := by
  obtain ⟨K, T, M0, pa, H0⟩ := F
  cases hK
  refine ⟨fun pins s σ H v u Q I r h => ?_⟩
  obtain ⟨M, ρ, d, ρ', R, dv, hp, q⟩ := h
  unfold putA at hp
  cases e2 : objAt ρ i with
  | none => rw [e2] at hp; cases hp
  | some p2 =>
    obtain ⟨c', ds⟩ := p2
    rw [e2] at hp
    simp only at hp
    split at hp
    · rename_i hc
      obtain ⟨rfl, hjl⟩ := hc
      cases hp
      obtain ⟨v', g1, g2⟩ := R.se.sl i _ (objAt_some e2)
      obtain ⟨a, rfl, m, dx, xs, c1, c2, c3⟩ := g2
      rw [PySem.assign_Attribute]
      refine wpAny_bind (wpAny_holding (thn ((pe_var hN hv hd hcd).run pins s σ H (fun y H1 => y = .ref a ∧ H1 = H) I ⟨.ref a, g1, rfl, rfl⟩) fun ov s1 ⟨y, H1, I1, ry, ey, eH⟩ => ?_))
      subst ey eH
      obtain rfl : ov = Value.ref a := ry
      have hjf : j < (T.fl c').length := (List.getElem?_eq_some_iff.mp hf).1
      have hjx : j ≤ xs.length := by rw [← c3.length]; exact hjl
      refine wpAny_bind (wpAny_standAt (wpAny_bind (wpAny_holding (setattr_ok I1 c1 ck.cls (ck.na f (List.mem_of_getElem? hf)) (by
        have := ck.few
        rw [List.length_zip]
        have c2' : xs.length ≤ (T.fl c').length := c2
        omega) r fun s3 I3 => wpAny_release ⟨σ, _, I3, ?_⟩))))
      rw [zip_put ck.nd hf hjx]
      have kp : Keep M H1 (upd H1 a (.ins (T.ad c') dx ((T.fl c').zip (SC.setA xs j v)))) := Keep.put m
      obtain ⟨R2, k2⟩ := R.putMut (H' := upd H1 a (.ins (T.ad c') dx ((T.fl c').zip (SC.setA xs j v)))) (objAt_some e2) rfl (s := .obj c' (SC.setA ds j d)) rfl g1 (fun b o e n => by rw [upd_ne n]; exact e)
        ⟨dx, _, upd_same, setA_len c2 hjf hjx, DvS.keep kp R.mm _ (c3.setA dv)⟩
      exact q _ R2 k2
    · cases hp
end
end SC

set_option Elab.async false
set_option linter.all false
set_option maxRecDepth 100000
namespace SC
open PySem PySem.Spec PyProof.Rows L2

/-! ### targets: names and fields -/
inductive Tg where
  | nm (i : Nat) | at_ (i c j : Nat)
def setT : Tg → D → Ev → Option Ev
  | .nm i, d, ρ => some (ρ.set i (.dat d))
  | .at_ i c j, d, ρ => putA i c j d ρ
def setTs : List Tg → List D → Ev → Option Ev
  | [], [], ρ => some ρ
  | t :: ts, d :: ds, ρ => match setT t d ρ with
    | some ρ1 => setTs ts ds ρ1
    | none => none
  | _, _, _ => none
def Tg.free (F : Fx) : Tg → Prop
  | .nm i => ∀ a, (i, a) ∉ F.pa
  | .at_ _ _ _ => True
def TGt (F : Fx) (t : Tg) : TG := fun v σ H Q => ∃ M ρ d ρ', ER F M ρ σ H ∧ Dv F.K F.T M H d v ∧ setT t d ρ = some ρ' ∧ t.free F ∧ ∀ σ' H', ER F M ρ' σ' H' → Keep M H H' → Q σ' H'
def TGts (F : Fx) (ts : List Tg) : TGs := fun vs σ H Q => ∃ M ρ ds ρ', ER F M ρ σ H ∧ DvS F.K F.T M H ds vs ∧ setTs ts ds ρ = some ρ' ∧ (∀ t ∈ ts, t.free F) ∧ ∀ σ' H', ER F M ρ' σ' H' → Keep M H H' → Q σ' H'
section
variable {X : Cx} {F : Fx} {pos : Pos}
theorem dt_nm {i : Nat} {x : Str} (hN : X.N.Nodup) (hi : X.N[i]? = some x) (hx : Loc X.env.scope x) (hf : X.fn x = true ∨ X.env.scope.names.lookup x = some .local) : PG X (.Name x pos) (TGt F (.nm i)) :=
  PG.imp (pg_name hN hi hx hf) fun v σ H Q ⟨M, ρ, d, ρ', R, dv, e, hp, q⟩ => by
    cases e
    exact q _ H (R.setDat dv hp) Keep.rfl
theorem dt_at {i c j : Nat} {x f : Str} {p1 : Pos} (hK : F.K = X.K) (ck : CK X.K F.T c) (hf : (F.T.fl c)[j]? = some f) (hN : X.N[i]? = some x) (hv : Vis X.env.scope x) (hd : (x == ("__debug__" : Str)) = false) (hcd : (x == ("__classdict__" : Str)) = false) :
    PG X (.Attribute (.Name x p1) f pos) (TGt F (.at_ i c j)) :=
  PG.imp (pg_attr hK ck hf hN hv hd hcd) fun v σ H Q ⟨M, ρ, d, ρ', R, dv, e, hp, q⟩ => ⟨M, ρ, d, ρ', R, dv, e, fun H' R' k => q σ H' R' k⟩
theorem dts_nil' : PGs X [] (TGts F []) :=
  PGs.imp pgs_nil fun vs σ H Q ⟨M, ρ, ds, ρ', R, dv, e, hp, q⟩ => by
    cases ds with
    | nil => cases e; exact ⟨dv, q σ H R Keep.rfl⟩
    | cons _ _ => cases e
theorem dts_cons {t : Tg} {ts : List Tg} {e : Expr} {es : List Expr} (h1 : PG X e (TGt F t)) (h2 : PGs X es (TGts F ts)) (hs : (assignEach (e :: es) X.env).map (·.2) = assign e X.env :: (assignEach es X.env).map (·.2)) : PGs X (e :: es) (TGts F (t :: ts)) :=
  PGs.imp (pgs_cons h1 h2 hs) fun vs σ H Q ⟨M, ρ, ds, ρ', R, dv, e, hp, q⟩ => by
    cases ds with
    | nil => cases e
    | cons d ds =>
      obtain ⟨x, r, rfl, h3, h4⟩ := dv
      unfold setTs at e
      split at e
      · rename_i ρ1 e1
        exact ⟨x, r, rfl, M, ρ, d, ρ1, R, h3, e1, hp t List.mem_cons_self, fun σ1 H1 R1 k1 => ⟨M, ρ1, ds, ρ', R1, DvS.keep k1 R.mm ds h4, e, fun u hu => hp u (List.mem_cons_of_mem _ hu), fun σ2 H2 R2 k2 => q σ2 H2 R2 (k1.trans k2)⟩⟩
      · cases e
theorem setTs_len : ∀ {ts : List Tg} {ds : List D} {ρ ρ' : Ev}, setTs ts ds ρ = some ρ' → ts.length = ds.length
  | [], [], _, _, _ => rfl
  | t :: ts, d :: ds, ρ, ρ', h => by
    unfold setTs at h
    split at h
    · simp [setTs_len (ts := ts) h]
    · cases h
  | [], _ :: _, _, _, h => by cases h
  | _ :: _, [], _, _, h => by cases h
def bTg (t : Tg) (fe : FE) : FB := fun ρ => match fe ρ with
  | some (.dat d, ρ1) => match setT t d ρ1 with
    | some ρ2 => some (.nx, ρ2)
    | none => none
  | _ => none
def bTgs (ts : List Tg) (fe : FE) : FB := fun ρ => match fe ρ with
  | some (.dat (.tup ds), ρ1) => match setTs ts ds ρ1 with
    | some ρ2 => some (.nx, ρ2)
    | none => none
  | _ => none
theorem ds_tg {tg e : Expr} {t : Tg} {fe : FE} (he : PE X e (TEd F fe)) (hg : PG X tg (TGt F t)) (hs : swapsWithSole [tg] e pos.line X.env = pure false) (hw : swappedStores [tg] e X.env = pure none)
    (h1 : (assignEach [tg] X.env).map (·.2) = [assign tg X.env]) (hp : t.free F) : PS X (.Assign [tg] e pos) (TSd F (bTg t fe)) :=
  PS.imp (ps_asg he hg hs hw h1) fun E σ H ⟨M, ρ, w, ρ', R, hf, q⟩ => by
    unfold bTg at hf
    split at hf
    · rename_i d ρ1 e1
      split at hf
      · rename_i ρ2 e2
        cases hf
        exact ⟨M, ρ, _, ρ1, R, e1, fun v M1 H1 s1 R1 k1 ok1 => ⟨M1, ρ1, d, _, R1, ok1, e2, hp, fun σ2 H2 R2 k2 => q M1 σ2 H2 R2 ((Stp.of R (fun a z => .inl (s1 a z)) k1).trans fun d v h => Dv.keep k2 R1.mm d h)⟩⟩
      · cases hf
    · cases hf
theorem ds_tgs {ts : List Expr} {e : Expr} {gs : List Tg} {kt n : Nat} {pt : Pos} {fe : FE} (hK : F.K = X.K) (hc : X.calm = true) (he : PE X e (TEd F fe)) (hg : PGs X ts (TGts F gs)) (hl : (assignEach ts X.env).length = n) (hln : gs.length = n) (hst : (assignEach ts X.env).findIdx? (·.1) = none)
    (hs : swapsWithSole [.Tuple ts kt pt] e pos.line X.env = pure false) (hw : swappedStores [.Tuple ts kt pt] e X.env = pure none) (h1 : (assignEach [.Tuple ts kt pt] X.env).map (·.2) = [assign (.Tuple ts kt pt) X.env]) (hp : ∀ t ∈ gs, t.free F) :
    PS X (.Assign [.Tuple ts kt pt] e pos) (TSd F (bTgs gs fe)) := by
  obtain ⟨K, T, M0, pa, H0⟩ := F
  cases hK
  refine PS.imp (ps_asg he (pg_tup (n := n) hc hg hl hst) hs hw h1) fun E σ H ⟨M, ρ, w, ρ', R, hf, q⟩ => ?_
  unfold bTgs at hf
  split at hf
  · rename_i ds ρ1 e1
    split at hf
    · rename_i ρ2 e2
      cases hf
      refine ⟨M, ρ, _, ρ1, R, e1, fun v M1 H1 s1 R1 k1 ok1 => ?_⟩
      obtain ⟨a, xs, rfl, ha, ra⟩ := ok1
      exact ⟨a, xs, rfl, ha, by rw [← ra.length, ← setTs_len e2, hln], M1, ρ1, ds, _, R1, ra, e2, hp, fun σ2 H2 R2 k2 => q M1 σ2 H2 R2 ((Stp.of R (fun a z => .inl (s1 a z)) k1).trans fun d v h => Dv.keep k2 R1.mm d h)⟩
    · cases hf
  · cases hf
end

/-! ### calls: of methods, properties -/
theorem call_core {F : Fx} {n : Nat} {g : FG} {dss : List D} {dvs : List V} {os : List Opd} {ρ1 ρ' : Ev} {r : Opd} {σ : Sg} (hl : os.length + dss.length = n) (hd : DefOk F.K F.T dss dvs)
    (hf : (match argSl ρ1 os with
    | none => none
    | some ss => if (slotsOf os).Nodup then match g (ss ++ dss.map .dat) with
        | some (r, outs) => if os.length ≤ outs.length then some (Opd.dat r, putSl ρ1 os outs) else none
        | none => none
      else none) = some (r, ρ')) {M1 : Ms} {H1 : Hp} (R1 : ER F M1 ρ1 σ H1) {vs : List V} (ok1 : OpdsOk F M1 H1 σ os vs) {Q : VK}
    (q : ∀ v H2, ER F M1 ρ' σ H2 → Keep M1 H1 H2 → OpdOk F M1 H2 σ r v → Q v H2) : spD F.K F.T n g (vs ++ dvs) H1 Q := by
  cases e2 : argSl ρ1 os with
  | none => rw [e2] at hf; cases hf
  | some ss =>
    rw [e2] at hf
    simp only at hf
    split at hf
    case isFalse => cases hf
    case isTrue nd =>
    cases e3 : g (ss ++ dss.map .dat) with
    | none => rw [e3] at hf; cases hf
    | some pr =>
      obtain ⟨r', outs⟩ := pr
      rw [e3] at hf
      simp only at hf
      split at hf
      case isFalse => cases hf
      case isTrue hlo =>
      cases hf
      refine ⟨?_, M1, _, r', outs, args_se R1 ok1 e2 nd hd, e3, fun v H2 kp ho dv => ?_⟩
      · have l2 : os.length = vs.length := Paired.length ok1
        have l3 := (hd M1 H1).length
        rw [List.length_append]
        omega
      · obtain ⟨R2, k2⟩ := args_back R1 ok1 e2 nd hd kp ho hlo
        exact q v H2 R2 k2 dv
/-- the call of g with these operands -/
def runG (g : FG) (dss : List D) (os : List Opd) (ρ1 : Ev) : Option (Opd × Ev) := match argSl ρ1 os with
  | none => none
  | some ss => if (slotsOf os).Nodup then match g (ss ++ dss.map .dat) with
      | some (r, outs) => if os.length ≤ outs.length then some (Opd.dat r, putSl ρ1 os outs) else none
      | none => none
    else none
def fMeth (c : Nat) (g : FG) (dss : List D) (fo : FE) (fa : FA) : FE := fun ρ => match fo ρ with
  | none => none
  | some (o, ρ1) => match insOf (o.get ρ1) with
    | some (c', _) => if c' = c then match fa ρ1 with
        | some (os, ρ2) => runG g dss (o :: os) ρ2
        | none => none
      else none
    | none => none
section
variable {X : Cx} {F : Fx} {k : Nat} {C f : Addr} {fd : FuncData} {ps : List Str} {g : FG} {dvs : List V} {dss : List D} {ds : List Value} {m : Str} {apos pos : Pos} {o e : Expr} {es : List Expr} {fo : FE} {fa : FA} {n c : Nat}
theorem meth_read (hl : FaLen fa n) (hn : n + 1 + dss.length = ps.length) (hdd : DefOk F.K F.T dss dvs) (hm : m ∉ F.T.fl c) {σ : Sg} {H : Hp} {Q : VK} (h : TEd F (fMeth c g dss fo fa) σ H Q) :
    tMeth (F.T.ad c) m (spO F.K F.T ps.length g) dvs (fun _ _ _ => False) (TEd F fo) (TAd F fa) σ H Q := by
  obtain ⟨M, ρ, r, ρ', R, hf, q⟩ := h
  unfold fMeth at hf
  cases e1 : fo ρ with
  | none => rw [e1] at hf; cases hf
  | some p1 =>
    obtain ⟨o1, ρ1⟩ := p1
    rw [e1] at hf
    simp only at hf
    cases e2 : insOf (o1.get ρ1) with
    | none => rw [e2] at hf; cases hf
    | some p2 =>
      obtain ⟨c', ds'⟩ := p2
      rw [e2] at hf
      simp only at hf
      split at hf
      case isFalse => cases hf
      case isTrue hc =>
      subst hc
      cases e3 : fa ρ1 with
      | none => rw [e3] at hf; cases hf
      | some p3 =>
        obtain ⟨os, ρ2⟩ := p3
        rw [e3] at hf
        simp only at hf
        refine ⟨M, ρ, o1, ρ1, R, e1, fun x M1 H1 s1 R1 k1 ok1 => ?_⟩
        obtain ⟨a, dx, xs, rfl, ha, hl', dv⟩ := (R1.opd ok1 (insOf_some e2)).ins
        refine ⟨a, dx, _, rfl, ha, zip_nolook hm, M1, ρ1, os, ρ2, R1, e3, fun vs M2 H2 s2 R2 k2 ok2 => ?_⟩
        have lo := hl.eq _ _ _ e3
        exact call_core (os := o1 :: os) (vs := V.ref a :: vs) (by rw [List.length_cons, lo]; omega) hdd hf R2 (.cons (OpdOk.less s2 (OpdOk.keep R1.mm k2 ok1)) ok2)
          fun v H3 R3 k3 ok3 => q v M2 H3 (fun b z => s1 b (s2 b z)) R3 ((k1.trans (k2.mono s1)).trans (k3.mono fun b z => s1 b (s2 b z))) ok3
theorem de_meth {pl : Sem Bool} (hK : F.K = X.K) (ho : PE X o (TEd F fo)) (ck : CK X.K F.T c) (hm : Meth X.K (F.T.ad c) m f) (Fn : FnOk X.prog X.w X.K X.mg X.base CX0 k f fd ps (spO X.K F.T ps.length g)) (hr : Room k X.A) (hb : Binds X.K fd ps ds) (hd : Vals dvs ds) (hdd : DefOk F.K F.T dss dvs)
    (ha : PA X (e :: es) (TAd F fa)) (hl : FaLen fa n) (hn : n + 1 + dss.length = ps.length) (hnf : m ∉ F.T.fl c) (hst : starEach (e :: es) X.env = (false, eval e X.env) :: starEach es X.env) (hpl : (backTo pos (starEach es X.env)).any (·.1) = false)
    (ht : eval (.Call (.Attribute o m apos) (e :: es) [] pos) X.env = (do
      let ov ← eval o X.env
      standAt apos.atName
      let (f, first) ← holding [ov] (getMethod ov m pl)
      callWith pos f first (backTo pos (starEach (e :: es) X.env)) (backToKw pos (keywordEach [] X.env)))) : PE X (.Call (.Attribute o m apos) (e :: es) [] pos) (TEd F (fMeth c g dss fo fa)) := by
  obtain ⟨K, T, M0, pa, H0⟩ := F
  cases hK
  exact PE.imp (pe_meth (E := fun _ _ _ => False) ho ck.cls hm Fn hr hb hd passes0 ha hst hpl ht) fun σ H Q h => meth_read hl hn hdd hnf h
theorem nil_read {t : TA} {σ : Sg} {H : Hp} {Q : List V → Hp → Prop} (h : TAd F fNil σ H Q) : tNil σ H Q := by
  obtain ⟨M, ρ, os, ρ', R, hf, q⟩ := h
  cases hf
  exact q [] M H (fun _ z => z) R Keep.rfl .nil
theorem de_meth0 {pl : Sem Bool} (hK : F.K = X.K) (ho : PE X o (TEd F fo)) (ck : CK X.K F.T c) (hm : Meth X.K (F.T.ad c) m f) (Fn : FnOk X.prog X.w X.K X.mg X.base CX0 k f fd ps (spO X.K F.T ps.length g)) (hr : Room k X.A) (hb : Binds X.K fd ps ds) (hd : Vals dvs ds) (hdd : DefOk F.K F.T dss dvs)
    (hn : 0 + 1 + dss.length = ps.length) (hnf : m ∉ F.T.fl c)
    (ht : eval (.Call (.Attribute o m apos) [] [] pos) X.env = (do
      let ov ← eval o X.env
      standAt apos.atName
      let (f, first) ← holding [ov] (getMethod ov m pl)
      callWith pos f first (backTo pos (starEach [] X.env)) (backToKw pos (keywordEach [] X.env)))) : PE X (.Call (.Attribute o m apos) [] [] pos) (TEd F (fMeth c g dss fo fNil)) := by
  obtain ⟨K, T, M0, pa, H0⟩ := F
  cases hK
  refine PE.imp (pe_meth0 (E := fun _ _ _ => False) ho ck.cls hm Fn hr hb hd passes0 ht) fun σ H Q h => ?_
  obtain ⟨M, ρ, o1, ρ1, R, e1, qq⟩ := meth_read (m := m) faLen_nil hn hdd hnf h
  refine ⟨M, ρ, o1, ρ1, R, e1, fun v M1 H1 s1 R1 k1 ok1 => ?_⟩
  obtain ⟨a, dx, fs, c1, c2, c3, c4⟩ := qq v M1 H1 s1 R1 k1 ok1
  exact ⟨a, dx, fs, c1, c2, c3, nil_read (t := tNil) c4⟩
theorem de_prop {p : Addr} (hK : F.K = X.K) (ho : PE X o (TEd F fo)) (ck : CK X.K F.T c) (hp : PropOf X.K (F.T.ad c) m p f) (Fn : FnOk X.prog X.w X.K X.mg X.base CX0 k f fd ps (spO X.K F.T ps.length g)) (hr : Room (k + 1) X.A) (hb : Binds X.K fd ps [])
    (hn : 1 = ps.length) (hab : attributeBase o m X.env (eval o X.env) = eval o X.env) : PE X (.Attribute o m pos) (TEd F (fMeth c g [] fo fNil)) := by
  obtain ⟨K, T, M0, pa, H0⟩ := F
  cases hK
  refine PE.imp (pe_prop (E := fun _ _ _ => False) (dvs := []) ho ck.cls hp Fn hr hb .nil passes0 hab) ?_
  rintro σ H Q ⟨M, ρ, r, ρ', R, hf, q⟩
  unfold fMeth at hf
  cases e1 : fo ρ with
  | none => rw [e1] at hf; cases hf
  | some p1 =>
    obtain ⟨o1, ρ1⟩ := p1
    rw [e1] at hf
    simp only at hf
    cases e2 : insOf (o1.get ρ1) with
    | none => rw [e2] at hf; cases hf
    | some p2 =>
      obtain ⟨c', ds'⟩ := p2
      rw [e2] at hf
      simp only at hf
      split at hf
      case isFalse => cases hf
      case isTrue hc =>
      subst hc
      refine ⟨M, ρ, o1, ρ1, R, e1, fun x M1 H1 s1 R1 k1 ok1 => ?_⟩
      obtain ⟨a, dx, xs, rfl, ha, hl', dv⟩ := (R1.opd ok1 (insOf_some e2)).ins
      exact ⟨a, dx, _, rfl, ha, call_core (dvs := []) (dss := []) (os := [o1]) (vs := [V.ref a]) (by simpa using hn) (fun _ _ => rfl) hf R1 (.cons ok1 .nil)
        fun v H3 R3 k3 ok3 => q v M1 H3 s1 R3 (k1.trans (k3.mono s1)) ok3⟩
end
end SC

set_option Elab.async false
set_option linter.all false
set_option maxRecDepth 100000
namespace SC
open PySem PySem.Spec PyProof.Rows L2

/-! ### built-ins by name, constants -/
section
variable {X : Cx} {F : Fx} {x : Str} {p pos : Pos} {e : Expr} {es : List Expr} {fa : FA} {id : String} {g : List D → Option D}
theorem de_blt (hc : CallR X (.builtin id) (rCs F g)) (hg : Gl X x) (hm : X.mg x = none) (hv : bootBuiltins x = some (.builtin id)) (ha : PA X (e :: es) (TAd F fa)) (hn : x ≠ "__name__") (hdb : (x == ("__debug__" : Str)) = false)
    (he : starEach (e :: es) X.env = (false, eval e X.env) :: starEach es X.env) (hpl : (backTo pos (starEach es X.env)).any (·.1) = false) : PE X (.Call (.Name x p) (e :: es) [] pos) (TEd F (fBlt g fa)) :=
  PE.imp (pe_callB hc hg hm hv ha hn hdb he hpl) fun _ _ _ => blt_imp
theorem de_bty (hc : CallR X (.type id) (rCs F g)) (hg : Gl X x) (hm : X.mg x = none) (hv : bootBuiltins x = some (.type id)) (ha : PA X (e :: es) (TAd F fa)) (hn : x ≠ "__name__") (hdb : (x == ("__debug__" : Str)) = false)
    (he : starEach (e :: es) X.env = (false, eval e X.env) :: starEach es X.env) (hpl : (backTo pos (starEach es X.env)).any (·.1) = false) : PE X (.Call (.Name x p) (e :: es) [] pos) (TEd F (fBlt g fa)) :=
  PE.imp (pe_callTy hc hg hm hv ha hn hdb he hpl) fun _ _ _ => blt_imp
theorem de_glob {d : D} {v : V} {u : Value} (hg : Gl X x) (hm : X.mg x = some u) (r : RelV v u) (hdb : (x == ("__debug__" : Str)) = false) (hd : ∀ M H, Dv F.K F.T M H d v) : PE X (.Name x pos) (TEd F (fC d)) := de_c (pe_glob hg hm r hdb) hd
end

/-! ### isinstance -/
def tyD : D → Option String
  | .non => some "NoneType"
  | .bl _ => some "bool"
  | .int _ => some "int"
  | .str _ => some "str"
  | .tup _ => some "tuple"
  | .lst _ => some "list"
  | .dic _ _ => some "dict"
  | .scr _ => some "list"
  | .ins _ _ => none
  | .cl _ => none
def tyIs (n : String) (d : D) : Option Bool := match tyD d with
  | some t => kitB t n
  | none => none
/-- is it of the class c (cs: the classes of its instances) -/
def inCls (kn cs : List Nat) (d : D) : Option Bool := match d with
  | .ins c _ => if kn.contains c = true then some (cs.contains c) else none
  | .cl _ => none
  | _ => some false
def fIsi (g : D → Option Bool) (fa : FE) : FE := fun ρ => match fa ρ with
  | none => none
  | some (o, ρ1) => match o.get ρ1 with
    | none => none
    | some d => match g d with
      | some b => some (.dat (.bl b), ρ1)
      | none => none
/-- what an own class tells of its instances' type -/
structure TyC (K : PySem.W.Frag) (C : Addr) : Prop where
  ha : PySem.W.findIn K (.ref C) "__class__" = some (some (.builtin "object.__class__"))
  hn : PySem.W.specialIn K (.builtin "object.__class__") "__get__" = some (some (.builtin "getset_descriptor.__get__"))
  htk : PySem.W.takesIn K (.builtin "object.__class__") = some true
  hm : PySem.W.mroIn K C (.type "object") = some true
theorem do_ty {K : PySem.W.Frag} {T : Cl} {M : Ms} {H : Hp} {d : D} {v : V} {t : String} (h : Do K T M H d v) (e : tyD d = some t) : TyX K H v (.type t) := by
  cases d with
  | non => cases e; rw [h.non]; exact .base .non
  | bl b => cases e; rw [h.bl]; exact .base (.bl b)
  | int i => cases e; rw [h.int]; exact .base (.int i)
  | str z => cases e; rw [h.str]; exact .base (.str z)
  | tup ds =>
    cases e
    obtain ⟨a, xs, rfl, q, _⟩ := h.tup
    rcases q with (q | ⟨o, q⟩) | ⟨o, its, n, q, c, _⟩
    · exact .base (.tup q)
    · exact .fTuple q
    · exact .kTuple q c
  | lst ds =>
    cases e
    obtain ⟨a, xs, rfl, q, _⟩ := h.lst
    exact .base (.lst q)
  | dic ks ds =>
    cases e
    rcases h with ⟨a, xs, rfl, _, q, _⟩ | ⟨_, _, _, e, _⟩ | ⟨_, _, _, _, _, e, _⟩
    · exact .base (.dK q)
    · cases e
    · cases e
  | scr ns =>
    cases e
    rcases h with ⟨a, rfl, q⟩ | ⟨_, _, _, e, _⟩ | ⟨_, _, _, _, _, e, _⟩
    · rcases q with ⟨o, q⟩ | ⟨o, its, n, q, c, _⟩
      · exact .base (.frz q)
      · exact .kList q c
    · cases e
    · cases e
  | ins c ds => cases e
  | cl _ => cases e
section
variable {X : Cx} {F : Fx} {x : Str} {p pos p2 : Pos} {a : Expr} {fa : FE}
theorem de_isi {n : String} {y : Str} (hK : F.K = X.K) (hg : Gl X x) (hm : X.mg x = none) (hv : bootBuiltins x = some (.builtin "isinstance")) (hn : x ≠ "__name__") (hdb : (x == ("__debug__" : Str)) = false)
    (hy : PE X (.Name y p2) (tC (.ty n))) (ha : PE X a (TEd F fa)) (he : starEach [a, .Name y p2] X.env = (false, eval a X.env) :: starEach [.Name y p2] X.env) (he2 : starEach [.Name y p2] X.env = (false, eval (.Name y p2) X.env) :: starEach [] X.env)
    (hpl : (backTo pos (starEach [.Name y p2] X.env)).any (·.1) = false) : PE X (.Call (.Name x p) [a, .Name y p2] [] pos) (TEd F (fIsi (tyIs n) fa)) := by
  obtain ⟨K, T, M0, pa, H0⟩ := F
  cases hK
  refine PE.imp (pe_callB call_isi hg hm hv (pa_cons ha (pa_cons hy pa_nil he2) he) hn hdb he hpl) ?_
  rintro σ H Q ⟨M, ρ, r, ρ', R, hf, q⟩
  unfold fIsi at hf
  cases e1 : fa ρ with
  | none => rw [e1] at hf; cases hf
  | some p1 =>
    obtain ⟨o, ρ1⟩ := p1
    rw [e1] at hf
    simp only at hf
    cases e2 : o.get ρ1 with
    | none => rw [e2] at hf; cases hf
    | some d =>
      rw [e2] at hf
      simp only at hf
      cases e3 : tyIs n d with
      | none => rw [e3] at hf; cases hf
      | some b =>
        rw [e3] at hf
        cases hf
        unfold tyIs at e3
        split at e3
        · rename_i t et
          refine ⟨M, ρ, o, _, R, e1, fun v M1 H1 s1 R1 k1 ok1 => ⟨v, .ty n, .type t, .type n, b, rfl, .ty n, do_ty (R1.opd ok1 e2) et, kit_ty e3, q _ M1 H1 s1 R1 k1 rfl⟩⟩
        · cases e3
/-- the own class at C: which instances it has -/
structure IsC (K : PySem.W.Frag) (T : Cl) (C : Addr) (kn cs : List Nat) : Prop where
  ty : ∀ t ∈ ["NoneType", "bool", "int", "str", "tuple", "list", "dict"], PySem.W.kitOne K (.type t) (.ref C) = some false
  own : ∀ c a dx fs (H : Hp), kn.contains c = true → H a = some (.ins (T.ad c) dx fs) → ∃ t, TyX K H (.ref a) t ∧ PySem.W.kitOne K t (.ref C) = some (cs.contains c)
theorem de_isiC {C : Addr} {kn cs : List Nat} {y : Str} (hK : F.K = X.K) (hC : IsC X.K F.T C kn cs) (hg : Gl X x) (hm : X.mg x = none) (hv : bootBuiltins x = some (.builtin "isinstance")) (hn : x ≠ "__name__") (hdb : (x == ("__debug__" : Str)) = false)
    (hy : PE X (.Name y p2) (tC (.ref C))) (ha : PE X a (TEd F fa)) (he : starEach [a, .Name y p2] X.env = (false, eval a X.env) :: starEach [.Name y p2] X.env) (he2 : starEach [.Name y p2] X.env = (false, eval (.Name y p2) X.env) :: starEach [] X.env)
    (hpl : (backTo pos (starEach [.Name y p2] X.env)).any (·.1) = false) : PE X (.Call (.Name x p) [a, .Name y p2] [] pos) (TEd F (fIsi (inCls kn cs) fa)) := by
  obtain ⟨K, T, M0, pa, H0⟩ := F
  cases hK
  refine PE.imp (pe_callB call_isi hg hm hv (pa_cons ha (pa_cons hy pa_nil he2) he) hn hdb he hpl) ?_
  rintro σ H Q ⟨M, ρ, r, ρ', R, hf, q⟩
  unfold fIsi at hf
  cases e1 : fa ρ with
  | none => rw [e1] at hf; cases hf
  | some p1 =>
    obtain ⟨o, ρ1⟩ := p1
    rw [e1] at hf
    simp only at hf
    cases e2 : o.get ρ1 with
    | none => rw [e2] at hf; cases hf
    | some d =>
      rw [e2] at hf
      simp only at hf
      cases e3 : inCls kn cs d with
      | none => rw [e3] at hf; cases hf
      | some b =>
        rw [e3] at hf
        cases hf
        refine ⟨M, ρ, o, _, R, e1, fun v M1 H1 s1 R1 k1 ok1 => ?_⟩
        have dd := R1.opd ok1 e2
        have key : ∃ t, TyX X.K H1 v t ∧ PySem.W.kitOne X.K t (.ref C) = some b := by
          cases et : tyD d with
          | some t =>
            have hb : b = false := by
              cases d <;> first | (cases e3; rfl) | cases et
            subst hb
            refine ⟨_, do_ty dd et, hC.ty t ?_⟩
            cases d <;> cases et <;> simp
          | none =>
            cases d with
            | ins c ds =>
              unfold inCls at e3
              simp only at e3
              split at e3
              · rename_i hk
                cases e3
                obtain ⟨a, dx, xs, rfl, ha, _, _⟩ := dd.ins
                exact hC.own c a dx _ H1 hk ha
              · cases e3
            | cl _ => cases e3
            | _ => cases et
        obtain ⟨t, ty, kb⟩ := key
        exact ⟨v, .ref C, t, .ref C, b, rfl, .own C, ty, kb, q _ M1 H1 s1 R1 k1 rfl⟩
end
end SC

set_option Elab.async false
set_option linter.all false
set_option maxRecDepth 100000
namespace SC
open PySem PySem.Spec PyProof.Rows L2

/-! ### making an instance -/
/-- the promise of an __init__ over data: fields of the class c from the arguments -/
def spMk (K : PySem.W.Frag) (T : Cl) (c : Nat) (gi : List D → Option (List D)) : Sp := fun vs H Q _ => ∃ x dx vs' M ds fs, vs = V.ref x :: vs' ∧ H x = some (.ins (T.ad c) dx []) ∧ (∀ a, M a → Mu (H a)) ∧ M x ∧ DvS K T M H ds vs' ∧ gi ds = some fs ∧
  ∀ H', (∀ a o, H a = some o → a ≠ x → H' a = some o) → (∃ dx xs, H' x = some (.ins (T.ad c) dx ((T.fl c).zip xs)) ∧ xs.length ≤ (T.fl c).length ∧ DvS K T M H' fs xs) → Q .non H'
def outI (c : Nat) : Option (D × List Sl) → Option (List D)
  | some (.non, .obj c' fs :: _) => if c' = c then some fs else none
  | _ => none
/-- from an __init__'s denotation -/
def initD (c n : Nat) (g : FG) (ds : List D) : Option (List D) := if ds.length + 1 = n then outI c (g (.obj c [] :: ds.map .dat)) else none
/-- .. whose last parameter is *rows: np ones ahead of it, self apart -/
def initS (c np : Nat) (g : FG) (ds : List D) : Option (List D) := if np ≤ ds.length ∧ ds.length ≤ sLn then outI c (g (.obj c [] :: ((ds.take np).map .dat ++ [.dat (.tup (ds.drop np))]))) else none
theorem outI_some {c : Nat} {r : Option (D × List Sl)} {fs : List D} (h : outI c r = some fs) : ∃ rest, r = some (.non, .obj c fs :: rest) := by
  unfold outI at h
  split at h
  · rename_i c' fs' rest
    split at h
    · rename_i e
      cases h
      exact ⟨rest, by rw [e]⟩
    · cases h
  · cases h
section
variable {K : PySem.W.Frag} {T : Cl} {M : Ms} {H : Hp} {x dx : Addr} {c : Nat} {ds : List D} {vs : List V}
theorem se_mk (mm : ∀ a, M a → Mu (H a)) (hx : H x = some (.ins (T.ad c) dx [])) (m : M x) (dv : DvS K T M H ds vs) : SE K T M (.obj c [] :: ds.map .dat) ((V.ref x :: vs).map some) H := by
  have nomut : ∀ (i : Nat) (s : Sl), (Sl.obj c [] :: ds.map .dat)[i]? = some s → s.mut = true → i = 0 := fun i s h mu => by
    cases i with
    | zero => rfl
    | succ i =>
      have h' : (ds.map Sl.dat)[i]? = some s := h
      rw [List.getElem?_map] at h'
      cases e : ds[i]? with
      | none => rw [e] at h'; cases h'
      | some d => rw [e] at h'; cases h'; cases mu
  refine ⟨mm, by simp [dv.length], fun i s h => ?_, fun i j s t v h1 m1 h2 m2 _ _ => (nomut i s h1 m1).trans (nomut j t h2 m2).symm⟩
  cases i with
  | zero =>
    cases h
    exact ⟨_, rfl, x, rfl, m, dx, [], by rw [hx, List.zip_nil_right], Nat.zero_le _, DvS.nil⟩
  | succ i =>
    have h' : (ds.map Sl.dat)[i]? = some s := h
    rw [List.getElem?_map] at h'
    cases e : ds[i]? with
    | none => rw [e] at h'; cases h'
    | some d =>
      rw [e] at h'
      cases h'
      obtain ⟨v, h1, h2⟩ := dv.getD e
      exact ⟨some v, by show (vs.map some)[i]? = _; rw [List.getElem?_map, h1]; rfl, v, rfl, h2⟩
theorem mk_post {n : Nat} {g : FG} {fs : List D} {Q : VK} {E : XK} (hn : vs.length + 1 = n) (mm : ∀ a, M a → Mu (H a)) (hx : H x = some (.ins (T.ad c) dx [])) (m : M x) (dv : DvS K T M H ds vs) (hg : outI c (g (.obj c [] :: ds.map .dat)) = some fs)
    (q : ∀ H', (∀ a o, H a = some o → a ≠ x → H' a = some o) → (∃ dx xs, H' x = some (.ins (T.ad c) dx ((T.fl c).zip xs)) ∧ xs.length ≤ (T.fl c).length ∧ DvS K T M H' fs xs) → Q .non H') : spO K T n g (V.ref x :: vs) H Q E := by
  obtain ⟨rest, e⟩ := outI_some hg
  refine ⟨by simpa using hn, M, _, _, _, se_mk mm hx m dv, e, fun v H' kp ho dvr => ?_⟩
  cases (show v = .non from dvr)
  refine q H' (fun a o ea na => kp a o ea fun ⟨i, s, z1, z2, z3⟩ => ?_) ?_
  · have hi : i = 0 := by
      cases i with
      | zero => rfl
      | succ i =>
        have h' : (ds.map Sl.dat)[i]? = some s := z1
        rw [List.getElem?_map] at h'
        cases e : ds[i]? with
        | none => rw [e] at h'; cases h'
        | some d => rw [e] at h'; cases h'; cases z2
    subst hi
    cases z3
    exact na rfl
  · obtain ⟨o, a, h1, h2, h3, h4⟩ := ho 0 (.obj c []) rfl rfl
    cases h1
    cases h3
    exact h4
end
section
variable {P : Program} {w : World} {K : PySem.W.Frag} {mg : Str → Option Value} {base : Heap} {k : Nat} {f : Addr} {fd : FuncData} {ps : List Str} {T : Cl} {c : Nat} {g : FG}
theorem fnR_init (F : FnOk P w K mg base CX0 k f fd ps (spO K T ps.length g)) (hb : Binds K fd ps []) : FnR P w K mg base CX0 k f (spMk K T c (initD c ps.length g)) := by
  intro A outer s H us vs Q E hr e0 rv h
  obtain ⟨x, dx, vs', M, ds, fs, rfl, hx, mm, m, dv, hg, q⟩ := h
  unfold initD at hg
  split at hg
  case isFalse => cases hg
  case isTrue hl =>
  have sp := mk_post (E := E) (Q := Q) (g := g) (n := ps.length) (by rw [← dv.length]; exact hl) mm hx m dv hg q
  have kin : K.In s.heap := e0.mod.kin.keeps fun b o z => (e0.bs b o z).1
  have hlu : (us ++ []).length = ps.length := by rw [List.append_nil, ← rv.length]; simpa [dv.length] using hl
  have hbu := hb s us kin hlu
  rw [List.append_nil] at hbu
  exact F.run A outer s H ⟨us, []⟩ us _ Q E hr e0 hbu rv sp
variable {name qual : Str} {params : Arguments} {body : List Stmt} {scope : Scope} {dV kV doc pm cdv ct oc : Value} {an od : Option Addr} {osl : Array (Option Value)} {N : List Str} {asg : List Nat} {fb : FB} {pv : Str}
theorem fnR_star {np : Nat} (lk : K.lookup f = some ⟨oc, od, .func (PySem.W.fnOf name qual params body scope dV kV doc pm an cdv ct), osl⟩) (hcd : PySem.W.codeIn K cdv qual = true) (S : FnScope N (ps ++ [pv]) scope) (hnp : np + 1 = ps.length)
    (hb : ∀ us rest : List Value, us.length = ps.length → bindArgs (PySem.W.fnOf name qual params body scope dV kV doc pm an cdv ct) ⟨us ++ rest, []⟩ = (newTuple rest >>= fun t => pure (ps.zip us ++ [(pv, t)])))
    (go : ∀ (A : Around) (outer : List Env) (s : Shared) (H : Hp) (E : XK), Room k (A.deeper (envOfC qual scope s.heap.objs.size f cdv)) → ∀ F : Fx, F.K = K → F.T = T → PaOk F (ps ++ [pv]).length asg →
      PSs (bodyCx P w K mg base N qual scope f cdv A outer s H E) body (TSd F fb)) :
    FnR P w K mg base CX0 (k + 1) f (spMk K T c (initS c np (fnD N.length asg fb))) := by
  have R := StX.fn_star (P := P) (w := w) (mg := mg) (base := base) (sp := spO K T (ps ++ [pv]).length (fnD N.length asg fb)) lk hcd S StX.cxUp_none hb fun A outer s H vs Q E hr h => ⟨_, exF (go A outer s H E hr), spD_in S h⟩
  intro A outer s H us vs Q E hr e0 rv h
  obtain ⟨x, dx, vs', M, ds, fs, rfl, hx, mm, m, dv, hg, q⟩ := h
  unfold initS at hg
  split at hg
  case isFalse => cases hg
  case isTrue hl =>
  refine R A outer s H us _ Q E hr e0 rv ⟨V.ref x :: vs'.take np, vs'.drop np, by simp, ?_, ?_, fun p hp => ?_⟩
  · have := dv.length
    simp
    omega
  · have := dv.length
    rw [List.length_drop, ← sLn_eq]
    omega
  · have ex : Ext H (upd H p (.tup (vs'.drop np))) := Ext.new hp
    have dv2 : DvS K T M (upd H p (.tup (vs'.drop np))) (ds.take np ++ [D.tup (ds.drop np)]) (vs'.take np ++ [V.ref p]) :=
      (DvS.ext ex _ (dv.take np)).append (DvS.cons ⟨p, _, rfl, SqT.of upd_same, DvS.ext ex _ (dv.drop np)⟩ DvS.nil)
    have hg2 : outI c (fnD N.length asg fb (.obj c [] :: (ds.take np ++ [D.tup (ds.drop np)]).map .dat)) = some fs := by rw [List.map_append]; exact hg
    refine mk_post (dx := dx) (ds := ds.take np ++ [D.tup (ds.drop np)]) ?_ (fun a z => ?_) (ex x _ hx) m dv2 hg2 fun H' kp ob => q H' (fun a o ea na => kp a o (ex a o ea) na) ob
    · have := dv.length
      simp
      omega
    · have mu := mm a z
      cases e : H a with
      | none => rw [e] at mu; exact mu.elim
      | some o => rw [ex a o e]; rw [e] at mu; exact mu
end
def fMake (c : Nat) (gi : List D → Option (List D)) (fa : FA) : FE := fun ρ => match fa ρ with
  | none => none
  | some (os, ρ1) => match datAll os with
    | none => none
    | some ds => match gi ds with
      | some fs => some (.dat (.ins c fs), ρ1)
      | none => none
section
variable {X : Cx} {F : Fx} {k : Nat} {f : Addr} {x : Str} {p pos : Pos} {e : Expr} {es : List Expr} {fa : FA} {c : Nat} {gi : List D → Option (List D)}
theorem make_imp (hK : F.K = X.K) {σ : Sg} {H : Hp} {Q : VK} (h : TEd F (fMake c gi fa) σ H Q) : StX.tMakeR (F.T.ad c) (spMk X.K F.T c gi) (fun _ _ _ => False) (TAd F fa) σ H Q := by
  obtain ⟨K, T, M0, pa, H0⟩ := F
  cases hK
  obtain ⟨M, ρ, r, ρ', R, hf, q⟩ := h
  unfold fMake at hf
  cases e1 : fa ρ with
  | none => rw [e1] at hf; cases hf
  | some p1 =>
    obtain ⟨os, ρ1⟩ := p1
    rw [e1] at hf
    simp only at hf
    cases e2 : datAll os with
    | none => rw [e2] at hf; cases hf
    | some ds =>
      rw [e2] at hf
      simp only at hf
      cases e3 : gi ds with
      | none => rw [e3] at hf; cases hf
      | some fs =>
        rw [e3] at hf
        cases hf
        refine ⟨M, ρ, os, _, R, e1, fun vs M1 H1 s1 R1 k1 ok1 => ?_⟩
        have dv := OpdsOk.datAll ok1 e2
        intro x dx hx hdx hne
        have ex1 : Ext H1 (upd H1 dx (.own x)) := Ext.new hdx
        have hx1 : (upd H1 dx (.own x)) x = none := by rw [upd_ne (Ne.symm hne)]; exact hx
        have ex2 : Ext H1 (upd (upd H1 dx (.own x)) x (.ins (T.ad c) dx [])) := ex1.trans (Ext.new hx1)
        have to : ∀ a, (M1 a ∨ a = x) → M1 a ∨ H1 a = none := fun a z => z.imp id fun e => by rw [e]; exact hx
        refine ⟨x, dx, vs, fun a => M1 a ∨ a = x, ds, fs, rfl, upd_same, fun a z => ?_, .inr rfl, DvS.ext ex2 ds (DvS.to to ds dv), e3, fun H2 kp ob => ⟨rfl, ?_⟩⟩
        · by_cases ea : a = x
          · subst ea; rw [upd_same]; trivial
          · have m := z.resolve_right ea
            have mu := R1.mm a m
            cases e : H1 a with
            | none => rw [e] at mu; exact mu.elim
            | some o => rw [ex2 a o e]; rw [e] at mu; exact mu
        · have ex3 : Ext H1 H2 := fun a o ea => kp a o (ex2 a o ea) fun z => by rw [z, hx] at ea; cases ea
          obtain ⟨dx2, xs, c1, c2, c3⟩ := ob
          exact q _ M1 H2 s1 (R1.ext ex3) (k1.trans ex3.keep) ⟨x, dx2, xs, rfl, R1.fresh hx, c1, c2, DvS.less (fun a z => .inl z) fs c3⟩
theorem de_make (hK : F.K = X.K) (Mk_ : Mk X.K (F.T.ad c) f) (Fn : FnR X.prog X.w X.K X.mg X.base CX0 k f (spMk X.K F.T c gi)) (hr : Room (k + 1) X.A) (hg : Gl X x) (hm : X.mg x = some (.ref (F.T.ad c))) (ha : PA X (e :: es) (TAd F fa)) (hdb : (x == ("__debug__" : Str)) = false)
    (he : starEach (e :: es) X.env = (false, eval e X.env) :: starEach es X.env) (hpl : (backTo pos (starEach es X.env)).any (·.1) = false) : PE X (.Call (.Name x p) (e :: es) [] pos) (TEd F (fMake c gi fa)) :=
  PE.imp (StX.pe_makeR (E := fun _ _ _ => False) Mk_ Fn hr hg hm passes0 ha hdb he hpl) fun _ _ _ => make_imp hK
theorem pe_makeS {C : Addr} {sp : Sp} {t : TA} (Mk_ : Mk X.K C f) (Fn : FnR X.prog X.w X.K X.mg X.base CX0 k f sp) (hr : Room (k + 1) X.A) (hg : Gl X x) (hm : X.mg x = some (.ref C)) (ha : PA X (e :: es) t) (hdb : (x == ("__debug__" : Str)) = false)
    (he : starEach (e :: es) X.env = (false, eval e X.env) :: starEach es X.env) (hst : (backTo pos (starEach es X.env)).any (·.1) = true) : PE X (.Call (.Name x p) (e :: es) [] pos) (StX.tMakeR C sp (fun _ _ _ => False) t) :=
  ⟨fun pins s σ H Q I h => wpAny_Call_Name_kw (ld_glob I hg hm (PySem.W.callWith_S2 (h₀ := X.base) I.ok.mod.kin Mk_.kp (thn (ha.run pos pins s σ H _ I h) fun us s1 ⟨vs, H1, I1, r, q⟩ => ⟨I1.kIn, StX.run_makeR Mk_ Fn hr passes0 I1 r q⟩) he hst) hdb)⟩
theorem de_makeS (hK : F.K = X.K) (Mk_ : Mk X.K (F.T.ad c) f) (Fn : FnR X.prog X.w X.K X.mg X.base CX0 k f (spMk X.K F.T c gi)) (hr : Room (k + 1) X.A) (hg : Gl X x) (hm : X.mg x = some (.ref (F.T.ad c))) (ha : PA X (e :: es) (TAd F fa)) (hdb : (x == ("__debug__" : Str)) = false)
    (he : starEach (e :: es) X.env = (false, eval e X.env) :: starEach es X.env) (hpl : (backTo pos (starEach es X.env)).any (·.1) = true) : PE X (.Call (.Name x p) (e :: es) [] pos) (TEd F (fMake c gi fa)) :=
  PE.imp (pe_makeS Mk_ Fn hr hg hm  ha hdb he hpl) fun _ _ _ => make_imp hK
/-- a new object of one's own -/
abbrev FO1 := Ev → Option (Nat × List D × Ev)
def nMake (c : Nat) (gi : List D → Option (List D)) (fa : FA) : FO1 := fun ρ => match fa ρ with
  | none => none
  | some (os, ρ1) => match datAll os with
    | none => none
    | some ds => match gi ds with
      | some fs => some (c, fs, ρ1)
      | none => none
def bObj (i : Nat) (fn : FO1) : FB := fun ρ => match fn ρ with
  | some (c, fs, ρ1) => some (.nx, ρ1.set i (.obj c fs))
  | none => none
theorem ds_obj {i : Nat} {y : Str} {pos' sp : Pos} (hK : F.K = X.K) (Mk_ : Mk X.K (F.T.ad c) f) (Fn : FnR X.prog X.w X.K X.mg X.base CX0 k f (spMk X.K F.T c gi)) (hr : Room (k + 1) X.A) (hg : Gl X x) (hm : X.mg x = some (.ref (F.T.ad c))) (ha : PA X (e :: es) (TAd F fa)) (hdb : (x == ("__debug__" : Str)) = false)
    (he : starEach (e :: es) X.env = (false, eval e X.env) :: starEach es X.env) (hpl : (backTo pos (starEach es X.env)).any (·.1) = false)
    (hN : X.N.Nodup) (hi : X.N[i]? = some y) (hy : Loc X.env.scope y) (hs : swapsWith (.Call (.Name x p) (e :: es) [] pos) (some (.Name y pos')) sp.line X.env = pure false) (hfn : X.fn y = true ∨ X.env.scope.names.lookup y = some .local) (hp : ∀ a, (i, a) ∉ F.pa) :
    PS X (.Assign [.Name y pos'] (.Call (.Name x p) (e :: es) [] pos) sp) (TSd F (bObj i (nMake c gi fa))) := by
  obtain ⟨K, T, M0, pa, H0⟩ := F
  cases hK
  refine PS.imp (ps_set hN hi hy (StX.pe_makeR (E := fun _ _ _ => False) Mk_ Fn hr hg hm passes0 ha hdb he hpl) hs hfn) ?_
  rintro E σ H ⟨M, ρ, w, ρ', R, hf, q⟩
  unfold bObj nMake at hf
  cases e1 : fa ρ with
  | none => rw [e1] at hf; cases hf
  | some p1 =>
    obtain ⟨os, ρ1⟩ := p1
    rw [e1] at hf
    simp only at hf
    cases e2 : datAll os with
    | none => rw [e2] at hf; cases hf
    | some ds =>
      rw [e2] at hf
      simp only at hf
      cases e3 : gi ds with
      | none => rw [e3] at hf; cases hf
      | some fs =>
        rw [e3] at hf
        cases hf
        refine ⟨M, ρ, os, _, R, e1, fun vs M1 H1 s1 R1 k1 ok1 => ?_⟩
        have dv := OpdsOk.datAll ok1 e2
        intro x dx hx hdx hne
        have ex1 : Ext H1 (upd H1 dx (.own x)) := Ext.new hdx
        have hx1 : (upd H1 dx (.own x)) x = none := by rw [upd_ne (Ne.symm hne)]; exact hx
        have ex2 : Ext H1 (upd (upd H1 dx (.own x)) x (.ins (T.ad c) dx [])) := ex1.trans (Ext.new hx1)
        have to : ∀ a, (M1 a ∨ a = x) → M1 a ∨ H1 a = none := fun a z => z.imp id fun e => by rw [e]; exact hx
        refine ⟨x, dx, vs, fun a => M1 a ∨ a = x, ds, fs, rfl, upd_same, fun a z => ?_, .inr rfl, DvS.ext ex2 ds (DvS.to to ds dv), e3, fun H2 kp ob => ⟨rfl, ?_⟩⟩
        · by_cases ea : a = x
          · subst ea; rw [upd_same]; trivial
          · have m := z.resolve_right ea
            have mu := R1.mm a m
            cases e : H1 a with
            | none => rw [e] at mu; exact mu.elim
            | some o => rw [ex2 a o e]; rw [e] at mu; exact mu
        · have ex3 : Ext H1 H2 := fun a o ea => kp a o (ex2 a o ea) fun z => by rw [z, hx] at ea; cases ea
          obtain ⟨dx2, xs, c1, c2, c3⟩ := ob
          have R2 : ER _ M1 ρ1 σ H2 := R1.ext ex3
          have no1 : ¬ Mad ρ1 σ x := fun z => R1.fresh hx (R1.se.mad z)
          have S3 : SE X.K T (fun a => M1 a ∨ a = x) ρ1 σ H2 := by
            have S := R2.se
            refine ⟨fun a m => m.elim (S.mm a) fun z => by rw [z, c1]; trivial, S.ln, fun j s hj => ?_, S.ap⟩
            obtain ⟨v, g1, g2⟩ := R1.se.sl j s hj
            refine ⟨v, g1, ?_⟩
            cases s with
            | un => trivial
            | dat d => obtain ⟨y, e1, e2⟩ := g2; exact ⟨y, e1, Dv.ext ex3 d (Dv.to to d e2)⟩
            | own ds => obtain ⟨a, e1, m, at_⟩ := g2; exact ⟨a, e1, .inl m, MutAt.ext ex3 (MutAt.to to at_)⟩
            | obj c ds => obtain ⟨a, e1, m, at_⟩ := g2; exact ⟨a, e1, .inl m, MutAt.ext ex3 (MutAt.to to at_)⟩
          have R3 : ER ⟨X.K, T, M0, pa, H0⟩ (fun a => M1 a ∨ a = x) ρ1 σ H2 := ER.of_se S3 (fun a z => .inl (R2.m0 a z)) R2.kp R2.h0 (fun a m => (R2.mad m).2) R2.pr R2.pp
          have R4 := R3.setMut (i := i) (s := .obj c fs) rfl (.inr rfl) no1 (R1.h0n hx) ⟨dx2, xs, c1, c2, c3⟩ hp
          refine q _ _ H2 R4 ((Stp.of R (fun a z => .inl (s1 a z)) k1).trans fun d v h => Dv.ext ex3 d (Dv.to to d h))
end
end SC

set_option Elab.async false
set_option linter.all false
set_option maxRecDepth 100000
namespace SC
open PySem PySem.Spec PyProof.Rows L2

/-! ### special methods of instances -/
/-- the class has the name as a plain def -/
structure Sp1 (K : PySem.W.Frag) (C : Addr) (m : Str) (f : Addr) : Prop where
  at_ : PySem.W.findIn K (.ref C) m = some (some (.ref f))
  fn : PySem.W.isFn K (.ref f) = true
section
variable {X : Cx} {F : Fx} {k : Nat} {f : Addr} {fd : FuncData} {ps : List Str} {g : FG} {c : Nat}
theorem run_in1 {sp : SpG} (Fn : FnOk X.prog X.w X.K X.mg X.base CX0 k f fd ps fun vs H Q _ => sp vs H Q) (hr : Room (k + 1) X.A) (hb : Binds X.K fd ps []) {pins : List (Addr × Obj)} {σ : Sg} {H : Hp} {s : Shared} {Q : VK} {E' : Value → Shared → Prop} {us : List Value} {vs : List V}
    (I : Inv X pins σ H s) (rv : Vals vs us) (h : sp vs H Q) : wpAny (model X.prog X.w) X.A.in1 (call (.ref f) us) (EP X pins σ Q) E' s := by
  have hl : (us ++ []).length = ps.length := by rw [List.append_nil, ← rv.length]; exact Fn.len vs H Q (fun _ _ _ => False) h
  have hbu := hb s us I.kIn hl
  rw [List.append_nil] at hbu
  refine wpAny_call (codeAny_mono (Fn.run X.A.in1 X.stack s H ⟨us, []⟩ us vs Q (fun _ _ _ => False) hr.in1 I.env0.in1 hbu rv h) fun r s2 hq => ?_)
  cases r with
  | error e => exact False.elim hq
  | ok fl =>
    cases fl with
    | ret u => exact I.after hq
    | next => exact False.elim hq
    | brk => exact False.elim hq
    | cont => exact False.elim hq
/-- len of an instance -/
def rLenI (F : Fx) (c n : Nat) (g : FG) : List V → Hp → VK → Prop := fun vs H Q => ∃ a dx fs, vs = [V.ref a] ∧ H a = some (.ins (F.T.ad c) dx fs) ∧ spD F.K F.T n g [V.ref a] H fun v H' => ∃ i : Int, v = .int i ∧ 0 ≤ i ∧ i < 2 ^ 63 ∧ Q (.int i) H'
theorem cd_lenI (hK : F.K = X.K) (hs : Sp1 X.K (F.T.ad c) "__len__" f) (Fn : FnOk X.prog X.w X.K X.mg X.base CX0 k f fd ps (spO X.K F.T ps.length g)) (hr : Room (k + 1) X.A) (hb : Binds X.K fd ps []) : CallR X (.builtin "len") (rLenI F c ps.length g) := by
  obtain ⟨K, T, M0, pa, H0⟩ := F
  cases hK
  intro pins s σ H xs us Q I rv h
  obtain ⟨a, dx, fs, rfl, ha, sp⟩ := h
  cases rv with
  | cons r t =>
    cases t
    have r0 := r
    obtain rfl : _ = Value.ref a := r0
    obtain ⟨mA, O, _⟩ := ins_get I.hok ha
    obtain ⟨od, J, _⟩ := O.look
    obtain ⟨m, fr⟩ := I.fr
    refine PySem.W.len_K fr I.ok.mod.kin J hs.at_ hs.fn (wpAny_mono (run_in1 Fn hr hb I (vs := [V.ref a]) (.cons r .nil) sp) ?_ fun _ _ z => z)
    rintro u s2 ⟨v, H2, I2, r2, i, rfl, h0, h1, q⟩
    obtain ⟨t, rfl⟩ := r2
    exact ⟨⟨h0, h1⟩, .int i, H2, I2.tok _, ⟨_, rfl⟩, q⟩
def fLenI (c : Nat) (g : FG) (fo : FE) : FE := fun ρ => match fMeth c g [] fo fNil ρ with
  | some (.dat (.int i), ρ1) => if 0 ≤ i ∧ i < 9223372036854775808 then some (.dat (.int i), ρ1) else none
  | _ => none
theorem meth1 {fo : FE} {ρ ρ' : Ev} {r : Opd} (h : fMeth c g [] fo fNil ρ = some (r, ρ')) : ∃ o ρ1 ds, fo ρ = some (o, ρ1) ∧ o.get ρ1 = some (.ins c ds) ∧ runG g [] [o] ρ1 = some (r, ρ') := by
  unfold fMeth at h
  cases e1 : fo ρ with
  | none => rw [e1] at h; cases h
  | some p1 =>
    obtain ⟨o1, ρ1⟩ := p1
    rw [e1] at h
    simp only at h
    cases e2 : insOf (o1.get ρ1) with
    | none => rw [e2] at h; cases h
    | some p2 =>
      obtain ⟨c', ds'⟩ := p2
      rw [e2] at h
      simp only at h
      split at h
      case isFalse => cases h
      case isTrue hc =>
      subst hc
      exact ⟨o1, ρ1, ds', rfl, insOf_some e2, h⟩
theorem one_read {t : TE} {σ : Sg} {H : Hp} {Q : List V → Hp → Prop} (h : t σ H fun x H1 => Q [x] H1) : tCons t tNil σ H Q := h
variable {x : Str} {p pos : Pos} {e : Expr} {fo : FE}
theorem de_lenI (hK : F.K = X.K) (hs : Sp1 X.K (F.T.ad c) "__len__" f) (Fn : FnOk X.prog X.w X.K X.mg X.base CX0 k f fd ps (spO X.K F.T ps.length g)) (hr : Room (k + 1) X.A) (hb : Binds X.K fd ps []) (hn : 1 = ps.length)
    (hg : Gl X x) (hm : X.mg x = none) (hv : bootBuiltins x = some (.builtin "len")) (ho : PE X e (TEd F fo)) (hnm : x ≠ "__name__") (hdb : (x == ("__debug__" : Str)) = false)
    (he : starEach [e] X.env = (false, eval e X.env) :: starEach [] X.env) (hpl : (backTo pos (starEach [] X.env)).any (·.1) = false) : PE X (.Call (.Name x p) [e] [] pos) (TEd F (fLenI c g fo)) := by
  refine PE.imp (pe_callB (cd_lenI hK hs Fn hr hb) hg hm hv (pa_cons ho pa_nil he) hnm hdb he hpl) ?_
  rintro σ H Q ⟨M, ρ, r, ρ', R, hf, q⟩
  unfold fLenI at hf
  split at hf
  case h_2 => cases hf
  case h_1 i ρ1 e1 =>
  split at hf
  case isFalse => cases hf
  case isTrue hi =>
  cases hf
  obtain ⟨o, ρ0, ds, h1, h2, h3⟩ := meth1 e1
  refine one_read ⟨M, ρ, o, ρ0, R, h1, fun v M1 H1 s1 R1 k1 ok1 => ?_⟩
  obtain ⟨a, dx, xs, rfl, ha, hl', dv⟩ := (R1.opd ok1 h2).ins
  refine ⟨a, dx, _, rfl, ha, call_core (dvs := []) (dss := []) (os := [o]) (vs := [V.ref a]) (by simpa using hn) (fun _ _ => rfl) h3 R1 (.cons ok1 .nil) fun v H3 R3 k3 ok3 => ?_⟩
  cases (show v = .int i from ok3)
  exact ⟨i, rfl, hi.1, by have := hi.2; omega, q _ M1 H3 s1 R3 (k1.trans (k3.mono s1)) rfl⟩
/-- len of a sequence or of an instance of the class c -/
def fLen (c : Nat) (g : FG) (fo : FE) : FE := fun ρ => match fo ρ with
  | none => none
  | some (o, ρ1) => match insOf (o.get ρ1) with
    | some _ => fLenI c g fo ρ
    | none => fBlt dLen (fCons fo fNil) ρ
theorem PE.or {X : Cx} {e : Expr} {t t' : TE} (h : PE X e t) (h' : PE X e t') : PE X e (fun σ H Q => t σ H Q ∨ t' σ H Q) := ⟨fun pins s σ H Q I hw => hw.elim (h.run pins s σ H Q I) (h'.run pins s σ H Q I)⟩
theorem de_len (hi : PE X e (TEd F (fLenI c g fo))) {f2 : FE} (hb : PE X e (TEd F f2)) (h2 : f2 = fBlt dLen (fCons fo fNil)) : PE X e (TEd F (fLen c g fo)) := by
  subst h2
  refine PE.imp (PE.or hi hb) ?_
  rintro σ H Q ⟨M, ρ, r, ρ', R, hf, q⟩
  unfold fLen at hf
  split at hf
  · cases hf
  · split at hf
    · exact .inl ⟨M, ρ, r, ρ', R, hf, q⟩
    · exact .inr ⟨M, ρ, r, ρ', R, hf, q⟩
end
end SC

set_option Elab.async false
set_option linter.all false
set_option maxRecDepth 100000
namespace SC
open PySem PySem.Spec PyProof.Rows L2

/-! ### methods of a list of one's own -/
/-- what a method does with the list and its argument: the value, the list behind -/
abbrev LM := List D → D → Option (D × List D)
def lmApp : LM := fun ds d => if ds.length < sLn then some (.non, ds ++ [d]) else none
def lmExt : LM := fun ds d => match d with
  | .lst es => if ds.length + es.length ≤ sLn then some (.non, ds ++ es) else none
  | _ => none
def intsD : List D → Option (List Int)
  | [] => some []
  | .int i :: r => (intsD r).map (i :: ·)
  | _ :: _ => none
theorem intsD_some : ∀ {ds : List D} {ns : List Int}, intsD ds = some ns → ds = ns.map .int
  | [], _, h => by cases h; rfl
  | .int i :: r, ns, h => by
    simp only [intsD, Option.map_eq_some_iff] at h
    obtain ⟨l, h1, rfl⟩ := h
    rw [intsD_some h1]; rfl
  | .non :: _, _, h => by cases h
  | .bl _ :: _, _, h => by cases h
  | .str _ :: _, _, h => by cases h
  | .tup _ :: _, _, h => by cases h
  | .lst _ :: _, _, h => by cases h
  | .ins _ _ :: _, _, h => by cases h
  | .dic _ _ :: _, _, h => by cases h
  | .scr _ :: _, _, h => by cases h
  | .cl _ :: _, _, h => by cases h
def lmRem : LM := fun ds d => match d with
  | .int k => match intsD ds with
    | some ns => if k ∈ ns then some (.non, (ns.eraseIdx (ns.idxOf k)).map .int) else none
    | none => none
  | _ => none
def lmPop : LM := fun ds d => match d with
  | .int k => if -9223372036854775808 ≤ k ∧ k < 9223372036854775808 then match seqIndex? k ds.length with
      | some j => match ds[j]? with
        | some y => some (y, ds.eraseIdx j)
        | none => none
      | none => none
    else none
  | _ => none
/-- what a method's rule says of it -/
def MtD (X : Cx) (F : Fx) (id : String) (lm : LM) : Prop := ∃ r, MtR X id r ∧ ∀ (M : Ms) (H : Hp) (a : Addr) (xs : List V) (v : V) (ds : List D) (d y : D) (ds' : List D) (Q : VK), (∀ b, M b → Mu (H b)) → H a = some (.lst xs) → DvS F.K F.T M H ds xs → Dv F.K F.T M H d v → lm ds d = some (y, ds') →
  (∀ u xs', DvS F.K F.T M H ds' xs' → Dv F.K F.T M H y u → Q u (upd H a (.lst xs'))) → r (.ref a) [v] H Q
section
variable {X : Cx} {F : Fx}
theorem md_app : MtD X F "list.append" lmApp := ⟨_, mt_append, fun M H a xs v ds d y ds' Q mm ha dv dd hl q => by
  unfold lmApp at hl
  split at hl
  · rename_i hz
    cases hl
    exact ⟨a, xs, v, rfl, rfl, ha, by rw [← dv.length, ← sLn_eq]; exact hz, q .non _ (dv.append (DvS.cons dd DvS.nil)) rfl⟩
  · cases hl⟩
theorem md_ext : MtD X F "list.extend" lmExt := ⟨_, mt_extend, fun M H a xs v ds d y ds' Q mm ha dv dd hl q => by
  unfold lmExt at hl
  split at hl
  · rename_i es
    split at hl
    · rename_i hz
      cases hl
      obtain ⟨b, zs, rfl, _, hb, dz⟩ := dd
      exact ⟨a, b, xs, zs, rfl, rfl, ha, hb, by rw [← dv.length, ← dz.length, ← sLn_eq]; exact hz, q .non _ (dv.append dz) rfl⟩
    · cases hl
  · cases hl⟩
theorem md_rem : MtD X F "list.remove" lmRem := ⟨_, mt_remove, fun M H a xs v ds d y ds' Q mm ha dv dd hl q => by
  unfold lmRem at hl
  split at hl
  · rename_i k
    split at hl
    · rename_i ns hns
      split at hl
      · rename_i hk
        cases hl
        cases (show v = .int k from dd)
        rw [intsD_some hns] at dv
        have e := dv.ints
        subst e
        refine ⟨a, ns, k, ns.idxOf k, rfl, rfl, ha, ?_, fun m hm e => ?_, q .non _ (DvS.of_ints _) rfl⟩
        · rw [List.getElem?_eq_getElem (List.idxOf_lt_length_of_mem hk)]
          exact congrArg some (List.getElem_idxOf (List.idxOf_lt_length_of_mem hk))
        · have hml : m < ns.length := (List.getElem?_eq_some_iff.mp e).1
          have : ns[m] = k := by
            rw [List.getElem?_eq_getElem hml] at e
            exact Option.some.inj e
          have h2 := List.not_of_lt_findIdx (p := (· == k)) (xs := ns) (i := m) (by simpa [List.idxOf] using hm)
          simp [this] at h2
      · cases hl
    · cases hl
  · cases hl⟩
theorem md_pop : MtD X F "list.pop" lmPop := ⟨_, mt_popAt, fun M H a xs v ds d y ds' Q mm ha dv dd hl q => by
  unfold lmPop at hl
  split at hl
  · rename_i k
    split at hl
    · rename_i hz
      split at hl
      · rename_i j hj
        split at hl
        · rename_i y' hy
          cases hl
          cases (show v = .int k from dd)
          obtain ⟨x, h1, h2⟩ := dv.getD hy
          exact ⟨a, xs, k, j, x, rfl, rfl, ha, by have := hz.1; omega, by have := hz.2; omega, by rw [← dv.length]; exact hj, h1, q x _ (dv.eraseIdx j) h2⟩
        · cases hl
      · cases hl
    · cases hl
  · cases hl⟩
def fLM (lm : LM) (i : Nat) (fe : FE) : FE := fun ρ => match ownAt ρ i with
  | none => none
  | some _ => match fe ρ with
    | some (.dat d, ρ1) => match ownAt ρ1 i with
      | none => none
      | some ds => match lm ds d with
        | some (y, ds') => some (.dat y, ρ1.set i (.own ds'))
        | none => none
    | _ => none
variable {pos cpos apos : Pos} {e : Expr} {fe : FE} {x name : Str} {i : Nat} {id : String} {lm : LM}
theorem de_lm {p1 : Pos} (hK : F.K = X.K) (slot : Slot "list" name id) (hty : typeOf (.builtin id) = pure (.type "method_descriptor")) (hm : MtD X F id lm) (hN : X.N[i]? = some x) (hv : Vis X.env.scope x) (hd : (x == ("__debug__" : Str)) = false) (hcd : (x == ("__classdict__" : Str)) = false)
    (ha : PE X e (TEd F fe)) (hbase : attributeBase (.Name x p1) name X.env (eval (.Name x p1) X.env) = eval (.Name x p1) X.env)
    (hfew : ((backTo cpos (starEach [e] X.env)).all (fun x => !x.1) && (backToKw cpos (keywordEach [] X.env)).all (fun x => x.1.isSome)
      && decide (([e] : List Expr).length + ([] : List Keyword).length + (if ([] : List Keyword).isEmpty then 0 else 1) < 30)) = true)
    (hline : (apos.endLine == cpos.line) = true) (hs : starEach [e] X.env = (false, eval e X.env) :: starEach [] X.env) (hplain : (backTo cpos (starEach [] X.env)).any (·.1) = false) :
    PE X (.Call (.Attribute (.Name x p1) name apos) [e] [] cpos) (TEd F (fLM lm i fe)) := by
  obtain ⟨r, hr, hsp⟩ := hm
  obtain ⟨K, T, M0, pa, H0⟩ := F
  cases hK
  refine PE.imp (pe_bm PySem.F.plainAttrs_list slot hty hr (pe_var hN hv hd hcd) (pa_cons ha pa_nil hs) hbase hfew hline hs hplain) ?_
  rintro σ H Q ⟨M, ρ, o, ρ', R, hf, q⟩
  unfold fLM at hf
  cases e0 : ownAt ρ i with
  | none => rw [e0] at hf; cases hf
  | some ds0 =>
    rw [e0] at hf
    simp only at hf
    split at hf
    · rename_i d ρ1 e1
      cases e2 : ownAt ρ1 i with
      | none => rw [e2] at hf; cases hf
      | some ds =>
        rw [e2] at hf
        simp only at hf
        cases e3 : lm ds d with
        | none => rw [e3] at hf; cases hf
        | some p3 =>
          obtain ⟨y, ds'⟩ := p3
          rw [e3] at hf
          cases hf
          obtain ⟨a, xs0, ea, _, ha0, _⟩ := R.ownRef e0
          refine ⟨.ref a, ea, .inl ⟨rfl, xs0, SqL.of ha0⟩, M, ρ, _, ρ1, R, e1, fun v M1 H1 s1 R1 k1 ok1 => ?_⟩
          obtain ⟨a', xs, g1, m, c1, c2⟩ := R1.ownRef e2
          rw [ea] at g1
          cases g1
          refine hsp M1 H1 a xs v ds d y ds' Q R1.mm c1 c2 ok1 e3 fun u xs' dv' du => ?_
          have R2 := R1.putOwn (ownAt_some e2) ea dv'
          exact q u M1 _ s1 R2 (k1.trans (Keep.put (s1 a m))) (Dv.keep (Keep.put m) R1.mm y du)
    · cases hf
end
end SC

set_option Elab.async false
set_option linter.all false
set_option maxRecDepth 100000
namespace SC
open PySem PySem.Spec PyProof.Rows L2

/-! ### a op b op' c -/
def fChain (g g' : D → D → Option D) (fa fb fc : FE) : FE := fun ρ =>
  match fa ρ with
  | some (.dat d, ρ1) => match fb ρ1 with
    | some (.dat e, ρ2) => match g d e with
      | some (.bl true) => match fc ρ2 with
        | some (.dat f, ρ3) => match g' e f with
          | some r => some (.dat r, ρ3)
          | none => none
        | _ => none
      | some (.bl false) => some (.dat (.bl false), ρ2)
      | _ => none
    | _ => none
  | _ => none
section
variable {X : Cx} {F : Fx} {pos : Pos} {a b c : Expr} {fa fb fc : FE}
theorem chain_read {g g' : D → D → Option D} {σ : Sg} {H : Hp} {Q : VK} (h : TEd F (fChain g g' fa fb fc) σ H Q) : tChain (rD F g) (rD F g') (TEd F fa) (TEd F fb) (TEd F fc) σ H Q := by
  obtain ⟨M, ρ, r, ρ', R, hf, q⟩ := h
  unfold fChain at hf
  split at hf
  · rename_i d ρ1 e1
    split at hf
    · rename_i e ρ2 e2
      split at hf
      · rename_i eg
        split at hf
        · rename_i f ρ3 e3
          split at hf
          · rename_i r' eg'
            cases hf
            refine ⟨M, ρ, _, ρ1, R, e1, fun x M1 H1 s1 R1 k1 ok1 => ⟨M1, ρ1, _, ρ2, R1, e2, fun y M2 H2 s2 R2 k2 ok2 => ?_⟩⟩
            refine ⟨M2, d, e, .bl true, R2.mh, .inl (Dv.less s2 d (Dv.keep k2 R1.mm d ok1)), .inl ok2, eg, fun z H3 ex dz => ?_⟩
            cases (show z = .bl true from dz)
            refine ⟨true, rfl, ?_⟩
            rw [if_pos rfl]
            refine ⟨M2, ρ2, _, _, R2.ext ex, e3, fun w M4 H4 s4 R4 k4 ok4 => ?_⟩
            have d2 : Dv F.K F.T M4 H4 e y := Dv.less s4 e (Dv.keep k4 (R2.ext ex).mm e (Dv.ext ex e ok2))
            refine ⟨M4, e, f, r', R4.mh, .inl d2, .inl ok4, eg', fun v H5 ex5 dv => ?_⟩
            exact q v M4 H5 (fun a z => s1 a (s2 a (s4 a z))) (R4.ext ex5) (k1.trans ((k2.trans ((ex.keep (M := M2)).mono s2)).mono s1 |>.trans ((k4.trans ((ex5.keep (M := M4)).mono s4)).mono fun a z => s1 a (s2 a z)))) dv
          · cases hf
        · cases hf
      · rename_i eg
        cases hf
        refine ⟨M, ρ, _, ρ1, R, e1, fun x M1 H1 s1 R1 k1 ok1 => ⟨M1, ρ1, _, _, R1, e2, fun y M2 H2 s2 R2 k2 ok2 => ?_⟩⟩
        refine ⟨M2, d, e, .bl false, R2.mh, .inl (Dv.less s2 d (Dv.keep k2 R1.mm d ok1)), .inl ok2, eg, fun z H3 ex dz => ?_⟩
        cases (show z = .bl false from dz)
        refine ⟨false, rfl, ?_⟩
        rw [if_neg Bool.false_ne_true]
        exact q _ M2 H3 (fun a z => s1 a (s2 a z)) (R2.ext ex) (k1.trans ((k2.trans ((ex.keep (M := M2)).mono s2)).mono s1)) rfl
      · cases hf
    · cases hf
  · cases hf
theorem de_chain {op op' : CmpOp} {g g' : D → D → Option D} (ho : OpR X (compareOp op) (rD F g)) (ho' : OpR X (compareOp op') (rD F g')) (ha : PE X a (TEd F fa)) (hb : PE X b (TEd F fb)) (hc : PE X c (TEd F fc)) (hm : lastMarks [op, op'] [b, c] = false) : PE X (.Compare a [op, op'] [b, c] pos) (TEd F (fChain g g' fa fb fc)) :=
  PE.imp (pe_chain ho ho' ha hb hc hm) fun _ _ _ => chain_read
theorem dt_chain {op op' : CmpOp} {g g' : D → D → Option D} (ho : OpR X (compareOp op) (rD F g)) (ho' : OpR X (compareOp op') (rD F g')) (ha : PE X a (TEd F fa)) (hb : PE X b (TEd F fb)) (hc : PE X c (TEd F fc)) (hm : lastMarks [op, op'] [b, c] = false) : PT X (.Compare a [op, op'] [b, c] pos) (TTd F (fTest (fChain g g' fa fb fc))) :=
  PT.imp (pt_chain ho ho' ha hb hc hm) fun σ H Q h => by
    obtain ⟨M, ρ, r, ρ', R, hf, q⟩ := h
    unfold fTest at hf
    split at hf
    · rename_i k ρ1 e1
      cases hf
      exact chain_read ⟨M, ρ, _, _, R, e1, fun v M1 H1 s1 R1 k1 ok1 => ⟨_, ok1, q M1 H1 s1 R1 k1⟩⟩
    · cases hf
end
end SC

set_option Elab.async false
set_option linter.all false
set_option maxRecDepth 100000
namespace SC
open PySem PySem.Spec PyProof.Rows L2

theorem propB_ok {K : PySem.W.Frag} {C f : Str} (h : propB K C f = true) : PropOf K (He.ga K C) f (prAd K C f) (prGet K C f) := by
  unfold propB at h
  obtain ⟨h1, h2⟩ := Bool.and_eq_true_iff.mp h
  obtain ⟨h3, h4⟩ := Bool.and_eq_true_iff.mp h2
  obtain ⟨h5, h6⟩ := Bool.and_eq_true_iff.mp h4
  refine ⟨of_decide_eq_true h1, of_decide_eq_true h3, of_decide_eq_true h5, ?_⟩
  split at h6
  · rename_i g rest e
    exact ⟨rest, by rw [e, of_decide_eq_true h6]⟩
  · cases h6
theorem sp1B_ok {K : PySem.W.Frag} {C m : Str} (h : sp1B K C m = true) : Sp1 K (He.ga K C) m (He.ma K (He.ga K C) m) := by
  obtain ⟨h1, h2⟩ := Bool.and_eq_true_iff.mp (show (_ && _) = true from h)
  exact ⟨of_decide_eq_true h1, h2⟩
/-! ### defs of the text -/
/-- a def at hand: its name's address, how it binds, its promise -/
structure Def1 (P : Program) (w : World) (K : PySem.W.Frag) (mg : Str → Option Value) (base : Heap) (T : Cl) (k : Nat) (f : Addr) (ps : List Str) (g : FG) : Prop where
  ex : ∃ fd, Binds K fd ps [] ∧ FnOk P w K mg base CX0 k f fd ps (spO K T ps.length g)
  kp : PySem.W.keepIn K (.ref f) = true
theorem FunD.def1 {P : Program} {w : World} {K : PySem.W.Frag} {mg : Str → Option Value} {base : Heap} {T : Cl} {k : Nat} {f : Addr} {fd : FuncData} {name qual : Str} {params : Arguments} {body : List Stmt} {scope : Scope} {N ps : List Str} {asg : List Nat} {fb : FB}
    (Fd : FunD K name qual params body scope [] [] f fd) (S : FnScope N ps scope)
    (hb : ∀ (kV doc pm : Value) (an : Option Addr) (cdv ct : Value) (us : List Value), us.length = ps.length → bindArgs (PySem.W.fnOf name qual params body scope .none kV doc pm an cdv ct) ⟨us, []⟩ = pure (ps.zip us))
    (go : ∀ (cdv : Value) (A : Around) (outer : List Env) (s : Shared) (H : Hp) (E : XK), Room k (A.deeper (envOfC qual scope s.heap.objs.size f cdv)) → ∀ F : Fx, F.K = K → F.T = T → PaOk F ps.length asg →
      PSs (bodyCx P w K mg base N qual scope f cdv A outer s H E) body (TSd F fb)) : Def1 P w K mg base T (k + 1) f ps (fnD N.length asg fb) := by
  have hbn := Fd.bindsN hb
  obtain ⟨oc, od, dV, kV, doc, pm, an, cdv, ct, osl, rfl, lk, hcd, _, _⟩ := Fd.ex
  exact ⟨⟨_, hbn, okD lk hcd S (go cdv)⟩, Fd.kp⟩
theorem Def1.mono {P : Program} {w : World} {K : PySem.W.Frag} {mg : Str → Option Value} {base : Heap} {T : Cl} {j k : Nat} {f : Addr} {ps : List Str} {g : FG} (h : Def1 P w K mg base T j f ps g) (hk : j ≤ k) : Def1 P w K mg base T k f ps g := by
  obtain ⟨⟨fd, h1, h2⟩, h3⟩ := h
  exact ⟨⟨fd, h1, h2.mono hk⟩, h3⟩
section
variable {X : Cx} {F : Fx} {j k : Nat} {f : Addr} {ps : List Str} {g : FG} {x : Str} {p pos : Pos} {e : Expr} {es : List Expr} {fa : FA} {n : Nat}
theorem de_callO (hK : F.K = X.K) (D1 : Def1 X.prog X.w X.K X.mg X.base F.T j f ps g) (hr : Room k X.A) (hjk : j ≤ k) (hg : Gl X x) (hm : X.mg x = some (.ref f)) (ha : PA X (e :: es) (TAd F fa)) (hl : FaLen fa n) (hn : n = ps.length) (hdb : (x == ("__debug__" : Str)) = false)
    (he : starEach (e :: es) X.env = (false, eval e X.env) :: starEach es X.env) (hpl : (backTo pos (starEach es X.env)).any (·.1) = false) : PE X (.Call (.Name x p) (e :: es) [] pos) (TEd F (fCall g [] fa)) := by
  obtain ⟨⟨fd, hb, Fn⟩, kp⟩ := D1
  refine PE.imp (pe_call (E := fun _ _ _ => False) (dvs := []) Fn (hr.mono hjk) hg hm kp hb .nil passes0 ha hdb he hpl) fun σ H Q h => ?_
  rw [← hK]
  exact call_read (dss := []) (dvs := []) (fun ρ os ρ' z => by rw [hl.eq ρ os ρ' z, List.length_nil]; omega) (fun _ _ => rfl) h
theorem de_callO0 (hK : F.K = X.K) (D1 : Def1 X.prog X.w X.K X.mg X.base F.T j f ps g) (hr : Room k X.A) (hjk : j ≤ k) (hg : Gl X x) (hm : X.mg x = some (.ref f)) (hn : 0 = ps.length) (hdb : (x == ("__debug__" : Str)) = false) : PE X (.Call (.Name x p) [] [] pos) (TEd F (fCall g [] fNil)) := by
  obtain ⟨⟨fd, hb, Fn⟩, kp⟩ := D1
  refine PE.imp (pe_call0 (E := fun _ _ _ => False) (dvs := []) Fn (hr.mono hjk) hg hm kp hb .nil passes0 hdb) fun σ H Q h => ?_
  rw [← hK]
  exact nil_read (t := tNil) (call_read (n := ps.length) (dss := []) (dvs := []) (fun ρ os ρ' z => by cases z; simpa using hn) (fun _ _ => rfl) h)
end
end SC

set_option Elab.async false
set_option linter.all false
set_option maxRecDepth 100000
namespace SC
open PySem PySem.Spec PyProof.Rows L2

def dNeg : D → Option D
  | .int i => some (.int (-i))
  | _ => none
section
variable {X : Cx} {F : Fx} {pos : Pos}
theorem und_neg : UnR X (unaryOp .USub) (rU1 F dNeg) := fun pins s σ H x v Q I rx ⟨M, d, r, hm, hx, hg, q⟩ => by
  unfold dNeg at hg
  split at hg
  · rename_i i
    cases hg
    exact un_neg pins s σ H x v Q I rx ⟨i, hx.int, q _ H Ext.rfl rfl⟩
  · cases hg
/-- list(range(e)), a new list -/
def nRg (fa : FE) : FN := fun ρ => match fa ρ with
  | some (.dat (.int j), ρ1) => if -1000000000 ≤ j ∧ j ≤ 16777216 then some (rangeD 0 j.toNat, ρ1) else none
  | _ => none
theorem rgV_dv {K : PySem.W.Frag} {T : Cl} {M : Ms} {H : Hp} (j : Int) : DvS K T M H (rangeD 0 j.toNat) (rgV 0 j) := by
  unfold rangeD rgV
  rw [Int.sub_zero]
  have : ∀ l : List Nat, DvS K T M H (l.map fun i => D.int (0 + (i : Nat))) (l.map fun i => V.int (0 + (i : Nat))) := by
    intro l
    induction l with
    | nil => exact DvS.nil
    | cons a r ih => exact DvS.cons rfl ih
  exact this _
theorem dn_rg {e : Expr} {fa : FE} {p p2 pos2 : Pos} (hc : X.calm = true) (hg : Gl X "list") (hm : X.mg "list" = none) (hg2 : Gl X "range") (hm2 : X.mg "range" = none) (ha : PE X e (TEd F fa)) (na2 : starEach [e] X.env = (false, eval e X.env) :: starEach [] X.env)
    (na : starEach [.Call (.Name "range" p2) [e] [] pos2] X.env = (false, eval (.Call (.Name "range" p2) [e] [] pos2) X.env) :: starEach [] X.env) : PE X (.Call (.Name "list" p) [.Call (.Name "range" p2) [e] [] pos2] [] pos) (TEn F (nRg fa)) := by
  refine PE.imp (pe_listRg hc hg hm (prg_1 hg2 hm2 ha na2) na) ?_
  rintro σ H Q ⟨M, ρ, ds, ρ', R, hf, q⟩
  unfold nRg at hf
  split at hf
  · rename_i j ρ1 e1
    split at hf
    · rename_i hj
      cases hf
      refine ⟨M, ρ, _, _, R, e1, fun v M1 H1 s1 R1 k1 ok1 => ?_⟩
      cases (show v = .int j from ok1)
      refine ⟨j, rfl, ⟨by omega, by omega, by have := hj.1; omega, by have := hj.2; omega, by omega⟩, fun p hp => ?_⟩
      obtain ⟨R2, n2⟩ := R1.newLst k1 s1 hp (rgV_dv j)
      exact q p _ _ (fun a z => z.imp (s1 a) id) R2 (k1.trans (Ext.new hp).keep) n2
    · cases hf
  · cases hf
end
/-! ### x in an instance, the call of an instance -/
section
variable {X : Cx} {F : Fx} {pos : Pos} {k c n : Nat} {f : Addr} {fd : FuncData} {ps : List Str} {g : FG} {a b e : Expr} {es : List Expr} {fa fb fo : FE} {fas : FA}
/-- a in b, b an instance of the class c -/
def fInI (c : Nat) (g : FG) (fa fb : FE) : FE := fun ρ => match fa ρ with
  | some (.dat d, ρ1) => match fb ρ1 with
    | none => none
    | some (o, ρ2) => match insOf (o.get ρ2) with
      | some (c', _) => if c' = c then match runG g [] [o, .dat d] ρ2 with
          | some (.dat (.bl r), ρ3) => some (.dat (.bl r), ρ3)
          | _ => none
        else none
      | none => none
  | _ => none
def rInI (F : Fx) (c n : Nat) (g : FG) : R2 := fun x y H Q => ∃ p dx fs, y = V.ref p ∧ H p = some (.ins (F.T.ad c) dx fs) ∧ spD F.K F.T n g [V.ref p, x] H fun v H' => ∃ r, v = .bl r ∧ Q (.bl r) H'
theorem opd_inI (hK : F.K = X.K) (hs : Sp1 X.K (F.T.ad c) "__contains__" f) (Fn : FnOk X.prog X.w X.K X.mg X.base CX0 k f fd ps (spO X.K F.T ps.length g)) (hr : Room k X.A) (hb : Binds X.K fd ps []) : OpR X (compareOp .In) (rInI F c ps.length g) := by
  obtain ⟨K, T, M0, pa, H0⟩ := F
  cases hK
  intro pins s σ H x y v u Q I rx ry h
  obtain ⟨p, dx, fs, rfl, hp, sp⟩ := h
  have ry0 := ry
  obtain rfl : u = Value.ref p := ry0
  obtain ⟨mA, O, _⟩ := ins_get I.hok hp
  obtain ⟨od, J, _⟩ := O.look
  obtain ⟨m, fr⟩ := I.fr
  refine PySem.W.in_K fr I.ok.mod.kin J hs.at_ hs.fn (wpAny_mono (run_fn (dvs := []) (E := fun _ _ _ => False) Fn hr hb .nil passes0 I (vs := [V.ref p, x]) (.cons ry (.cons rx .nil)) sp) ?_ fun _ _ z => z)
  rintro r s2 ⟨w', H2, I2, r2, b, rfl, q⟩
  cases r2
  exact wpAny_truthy_bool ⟨.bl b, H2, I2, rfl, q⟩
theorem inI_read (hn : 2 = ps.length) {σ : Sg} {H : Hp} {Q : VK} (h : TEd F (fInI c g fa fb) σ H Q) : tOp (rInI F c ps.length g) (TEd F fa) (TEd F fb) σ H Q := by
  obtain ⟨M, ρ, r, ρ', R, hf, q⟩ := h
  unfold fInI at hf
  split at hf
  · rename_i d ρ1 e1
    cases e2 : fb ρ1 with
    | none => rw [e2] at hf; cases hf
    | some p2 =>
      obtain ⟨o, ρ2⟩ := p2
      rw [e2] at hf
      simp only at hf
      cases e3 : insOf (o.get ρ2) with
      | none => rw [e3] at hf; cases hf
      | some p3 =>
        obtain ⟨c', ds'⟩ := p3
        rw [e3] at hf
        simp only at hf
        split at hf
        case isFalse => cases hf
        case isTrue hc =>
        subst hc
        split at hf
        · rename_i r' ρ3 e4
          cases hf
          refine ⟨M, ρ, _, ρ1, R, e1, fun x M1 H1 s1 R1 k1 ok1 => ⟨M1, ρ1, o, ρ2, R1, e2, fun y M2 H2 s2 R2 k2 ok2 => ?_⟩⟩
          obtain ⟨p, dx, xs, rfl, hp, hl, dv⟩ := (R2.opd ok2 (insOf_some e3)).ins
          refine ⟨p, dx, _, rfl, hp, call_core (dvs := []) (dss := []) (os := [o, .dat d]) (vs := [V.ref p, x]) (by simpa using hn) (fun _ _ => rfl) e4 R2 (.cons ok2 (.cons (Dv.less s2 d (Dv.keep k2 R1.mm d ok1)) .nil)) fun v H3 R3 k3 ok3 => ?_⟩
          cases (show v = .bl r' from ok3)
          exact ⟨r', rfl, q _ M2 H3 (fun a z => s1 a (s2 a z)) R3 ((k1.trans (k2.mono s1)).trans (k3.mono fun a z => s1 a (s2 a z))) rfl⟩
        · cases hf
  · cases hf
theorem de_inI (hK : F.K = X.K) (hs : Sp1 X.K (F.T.ad c) "__contains__" f) (Fn : FnOk X.prog X.w X.K X.mg X.base CX0 k f fd ps (spO X.K F.T ps.length g)) (hr : Room k X.A) (hb : Binds X.K fd ps []) (hn : 2 = ps.length) (ha : PE X a (TEd F fa)) (hbb : PE X b (TEd F fb)) (hm : behindInMarks .In b = false) :
    PE X (.Compare a [.In] [b] pos) (TEd F (fInI c g fa fb)) := PE.imp (pe_cmpR (opd_inI hK hs Fn hr hb) ha hbb hm) fun _ _ _ => inI_read hn
/-- the call of an instance -/
def spFnR (T : Cl) (K : PySem.W.Frag) (n : Nat) (g : FG) : Sp := spO K T n g
theorem fnR_pos {P : Program} {w : World} {K : PySem.W.Frag} {mg : Str → Option Value} {base : Heap} {T : Cl} (Fn : FnOk P w K mg base CX0 k f fd ps (spO K T ps.length g)) (hb : Binds K fd ps []) : FnR P w K mg base CX0 k f (spO K T ps.length g) := by
  intro A outer s H us vs Q E hr e0 rv h
  have kin : K.In s.heap := e0.mod.kin.keeps fun b o z => (e0.bs b o z).1
  have hlu : (us ++ []).length = ps.length := by rw [List.append_nil, ← rv.length]; exact Fn.len vs H Q E h
  have hbu := hb s us kin hlu
  rw [List.append_nil] at hbu
  exact Fn.run A outer s H ⟨us, []⟩ us vs Q E hr e0 hbu rv h
def fCallI (c : Nat) (g : FG) (fo : FE) (fas : FA) : FE := fun ρ => match fo ρ with
  | none => none
  | some (o, ρ1) => match insOf (o.get ρ1) with
    | none => none
    | some _ => match fas ρ1 with
      | none => none
      | some (os, ρ2) => match insOf (o.get ρ2) with
        | some (c', _) => if c' = c then runG g [] (o :: os) ρ2 else none
        | none => none
theorem de_callI (hK : F.K = X.K) (ho : PE X e (TEd F fo)) (co : StX.CallO X.K (F.T.ad c) f) (Fn : FnOk X.prog X.w X.K X.mg X.base CX0 k f fd ps (spO X.K F.T ps.length g)) (hr : Room k X.A) (hb : Binds X.K fd ps [])
    (ha : PA X (a :: es) (TAd F fas)) (hl : FaLen fas n) (hn : n + 1 = ps.length) (ht : eval (.Call e (a :: es) [] pos) X.env = (do callWith pos (← eval e X.env) [] (backTo pos (starEach (a :: es) X.env)) (backToKw pos (keywordEach [] X.env))))
    (he : starEach (a :: es) X.env = (false, eval a X.env) :: starEach es X.env) (hpl : (backTo pos (starEach es X.env)).any (·.1) = false) : PE X (.Call e (a :: es) [] pos) (TEd F (fCallI c g fo fas)) := by
  obtain ⟨K, T, M0, pa, H0⟩ := F
  cases hK
  refine PE.imp (StX.pe_callO (E := fun _ _ _ => False) ho co (fnR_pos Fn hb) hr passes0 ha ht he hpl) ?_
  rintro σ H Q ⟨M, ρ, r, ρ', R, hf, q⟩
  unfold fCallI at hf
  cases e1 : fo ρ with
  | none => rw [e1] at hf; cases hf
  | some p1 =>
    obtain ⟨o1, ρ1⟩ := p1
    rw [e1] at hf
    simp only at hf
    cases e2 : insOf (o1.get ρ1) with
    | none => rw [e2] at hf; cases hf
    | some p2 =>
      obtain ⟨c0, ds0⟩ := p2
      rw [e2] at hf
      simp only at hf
      cases e3 : fas ρ1 with
      | none => rw [e3] at hf; cases hf
      | some p3 =>
        obtain ⟨os, ρ2⟩ := p3
        rw [e3] at hf
        simp only at hf
        cases e4 : insOf (o1.get ρ2) with
        | none => rw [e4] at hf; cases hf
        | some p4 =>
          obtain ⟨c', ds'⟩ := p4
          rw [e4] at hf
          simp only at hf
          split at hf
          case isFalse => cases hf
          case isTrue hc =>
          subst hc
          refine ⟨M, ρ, o1, ρ1, R, e1, fun x M1 H1 s1 R1 k1 ok1 => ?_⟩
          obtain ⟨p, dx, xs, rfl, hp, hl', dv⟩ := (R1.opd ok1 (insOf_some e2)).ins
          refine ⟨p, rfl, M1, ρ1, os, ρ2, R1, e3, fun vs M2 H2 s2 R2 k2 ok2 => ?_⟩
          have lo := hl.eq _ _ _ e3
          have okr := OpdOk.less s2 (OpdOk.keep R1.mm k2 ok1)
          obtain ⟨p', dx2, xs2, e5, hp2, _, _⟩ := (R2.opd okr (insOf_some e4)).ins
          cases e5
          have cc := call_core (n := ps.length) (dvs := []) (dss := []) (os := o1 :: os) (vs := V.ref p :: vs) (Q := Q) (by rw [List.length_cons, lo]; simpa using hn) (fun _ _ => rfl) hf R2 (.cons okr ok2)
            fun v H3 R3 k3 ok3 => q v M2 H3 (fun b z => s1 b (s2 b z)) R3 ((k1.trans (k2.mono s1)).trans (k3.mono fun b z => s1 b (s2 b z))) ok3
          rw [List.append_nil] at cc
          exact ⟨.inr ⟨dx2, _, hp2⟩, cc⟩
end
end SC

set_option Elab.async false
set_option linter.all false
set_option maxRecDepth 100000
namespace SC
open PySem PySem.Spec PyProof.Rows L2

theorem ckT {K : PySem.W.Frag} {F : Fx} {T : Cl} {c : Nat} (hT : F.T = T) (h : CK K T c) : CK K F.T c := by rw [hT]; exact h
theorem flT {F : Fx} {T : Cl} {c j : Nat} {f : Str} (hT : F.T = T) (h : (T.fl c)[j]? = some f) : (F.T.fl c)[j]? = some f := by rw [hT]; exact h
theorem nfT {F : Fx} {T : Cl} {c : Nat} {m : Str} (hT : F.T = T) (h : (T.fl c).contains m = false) : m ∉ F.T.fl c := by
  rw [hT]
  intro z
  rw [List.contains_iff_mem.mpr z] at h
  cases h
theorem iscT {K : PySem.W.Frag} {F : Fx} {T : Cl} {C : Addr} {kn cs : List Nat} (hT : F.T = T) (h : IsC K T C kn cs) : IsC K F.T C kn cs := by rw [hT]; exact h
theorem Def1.T {P : Program} {w : World} {K : PySem.W.Frag} {mg : Str → Option Value} {base : Heap} {T : Cl} {k : Nat} {f : Addr} {ps : List Str} {g : FG} {F : Fx} (h : Def1 P w K mg base T k f ps g) (hT : F.T = T) : Def1 P w K mg base F.T k f ps g := by rw [hT]; exact h
theorem tupK {F : Fx} {K : PySem.W.Frag} {a : Addr} {ns : List Int} (hK : F.K = K) (h : ∀ H, SqT K H a (ns.map V.int)) (M : Ms) (H : Hp) : Dv F.K F.T M H (.tup (ns.map .int)) (.ref a) := ⟨a, _, rfl, by rw [hK]; exact h H, DvS.of_ints ns⟩
def bNo : FB := fun _ => none
theorem ds_never {X : Cx} {F : Fx} {st : Stmt} : PS X st (TSd F bNo) := PS.imp ps_never fun E σ H ⟨M, ρ, w, ρ', R, hf, q⟩ => by cases hf
theorem pe_tyN {X : Cx} {y : Str} {n : String} {p : Pos} (hg : Gl X y) (hm : X.mg y = none) (hv : bootBuiltins y = some (.type n)) (hn : y ≠ "__name__") (hdb : (y == ("__debug__" : Str)) = false) : PE X (.Name y p) (tC (.ty n)) :=
  ⟨fun pins s σ H Q I h => ld_blt I hg hm hv ⟨.ty n, H, I, rfl, h⟩ hn hdb⟩
theorem bt_len : bootBuiltins "len" = some (.builtin "len") := by decide +kernel
theorem bt_abs : bootBuiltins "abs" = some (.builtin "abs") := by decide +kernel
theorem bt_sum : bootBuiltins "sum" = some (.builtin "sum") := by decide +kernel
theorem bt_all : bootBuiltins "all" = some (.builtin "all") := by decide +kernel
theorem bt_any : bootBuiltins "any" = some (.builtin "any") := by decide +kernel
theorem bt_max : bootBuiltins "max" = some (.builtin "max") := by decide +kernel
theorem bt_min : bootBuiltins "min" = some (.builtin "min") := by decide +kernel
theorem bt_isinstance : bootBuiltins "isinstance" = some (.builtin "isinstance") := by decide +kernel
theorem bt_int : bootBuiltins "int" = some (.type "int") := by decide +kernel
theorem bt_bool : bootBuiltins "bool" = some (.type "bool") := by decide +kernel
theorem bt_tuple : bootBuiltins "tuple" = some (.type "tuple") := by decide +kernel
theorem bt_str : bootBuiltins "str" = some (.type "str") := by decide +kernel
theorem bt_list : bootBuiltins "list" = some (.type "list") := by decide +kernel
theorem bt_dict : bootBuiltins "dict" = some (.type "dict") := by decide +kernel
/-! ### a comprehension's scope, by a Bool -/
def kF : ScopeKind → Bool
  | .function => true
  | _ => false
def kFree : NameKind → Bool
  | .free => true
  | _ => false
def kOwn : NameKind → Bool
  | .local => true
  | .cell => true
  | _ => false
def kOut : Option NameKind → Bool
  | some .cell => true
  | some .free => true
  | _ => false
def blkB (N : List Str) (sc scope : Scope) (own : List (Str × Nat)) : Bool := kF scope.kind && (decide (scope.names.map (·.1)).Nodup && (own.all (fun p => decide (N[p.2]? = some p.1)) &&
  (scope.names.all (fun y => !kFree y.2 || kOut (sc.names.lookup y.1)) && scope.names.all fun y => !kOwn y.2 || (decide (y.1 ∈ own.map (·.1)) || decide (y.1 ∉ N)))))
theorem lookup_nodup {α β : Type} [BEq α] [LawfulBEq α] : ∀ {l : List (α × β)}, (l.map (·.1)).Nodup → ∀ y ∈ l, l.lookup y.1 = some y.2
  | [], _, y, h => by cases h
  | (a, b) :: r, nd, y, h => by
    rw [List.lookup_cons]
    rcases List.mem_cons.mp h with e | e
    · subst e; simp
    · obtain ⟨n1, n2⟩ := List.nodup_cons.mp nd
      have ne : (y.1 == a) = false := by
        refine beq_eq_false_iff_ne.mpr fun z => n1 ?_
        show a ∈ _
        rw [← z]
        exact List.mem_map_of_mem (f := fun q : α × β => q.1) e
      rw [ne]
      exact lookup_nodup n2 y e
theorem blkB_ok {N : List Str} {sc scope : Scope} {own : List (Str × Nat)} (h : blkB N sc scope own = true) : BlkOk N sc scope own := by
  unfold blkB at h
  simp only [Bool.and_eq_true, decide_eq_true_eq, List.all_eq_true, Bool.or_eq_true, Bool.not_eq_true'] at h
  obtain ⟨h1, h2, h3, h4, h5⟩ := h
  refine ⟨?_, lookup_nodup h2, h3, fun y hy e => ?_, fun y hy e => ?_⟩
  · cases hk : scope.kind <;> rw [hk] at h1 <;> first | rfl | cases h1
  · have := h4 y hy
    rw [e] at this
    rcases this with z | z
    · cases z
    · unfold kOut at z
      split at z
      · exact .inl (by assumption)
      · exact .inr (by assumption)
      · cases z
  · have := h5 y hy
    rcases this with z | z
    · rcases e with e | e <;> rw [e] at z <;> cases z
    · exact z
/-! ### comprehensions with their slots written -/
section
variable {X : Cx} {F : Fx} {pos : Pos} {elt tg iter : Expr} {ifs : List Expr} {scope : Scope} {idx : List Nat} {p : Pt} {src : FS} {ft : FT} {fe : FE}
theorem dn_lcI (own : List (Str × Nat)) (hix : own.map (·.2) = idx) (hK : F.K = X.K) (hc : X.calm = true) (hN : X.N.Nodup) (hi : PI X tg iter (TId F src)) (ok : BlkOk X.N X.env.scope scope own) (hp : ∀ i ∈ p.slots, i ∈ idx)
    (hg : ∀ (s : Shared) (H : Hp) (C : Addr) (cl : List (Str × Addr)) (fp : List Addr) (G : Fx), G.K = X.K → G.T = F.T → PG (X.blk s H scope (compEnvC scope cl C X.env) fp) tg (TGd G p))
    (ht : ∀ (s : Shared) (H : Hp) (C : Addr) (cl : List (Str × Addr)) (fp : List Addr) (G : Fx), G.K = X.K → G.T = F.T → PTs (X.blk s H scope (compEnvC scope cl C X.env) fp) ifs (TTd G ft))
    (he : ∀ (s : Shared) (H : Hp) (C : Addr) (cl : List (Str × Addr)) (fp : List Addr) (G : Fx), G.K = X.K → G.T = F.T → PE (X.blk s H scope (compEnvC scope cl C X.env) fp) elt (TEd G fe))
    (hs : ∀ x, foldedSetIterable iter X.env x = pure x) : PE X (.ListComp elt [⟨tg, iter, ifs, 0⟩] scope pos) (TEn F (nLc idx p src ft fe)) := by
  subst hix
  exact dn_lc hK hc hN hi ok hp hg ht he hs
theorem ps_lcI {i : Nat} {y : Str} {py spos : Pos} (own : List (Str × Nat)) (hix : own.map (·.2) = idx) (hK : F.K = X.K) (hc : X.calm = true) (hN : X.N.Nodup) (hy : X.N[i]? = some y) (hyl : X.env.scope.names.lookup y = some .local)
    (hsw : swapsWith (.ListComp elt [⟨tg, iter, ifs, 0⟩] scope pos) (some (.Name y py)) spos.line X.env = pure true) (hi : PI X tg iter (TId F src)) (ok : BlkOk X.N X.env.scope scope own) (hp : ∀ i ∈ p.slots, i ∈ idx)
    (hg : ∀ (s : Shared) (H : Hp) (C : Addr) (cl : List (Str × Addr)) (fp : List Addr) (G : Fx), G.K = X.K → G.T = F.T → PG (X.blk s H scope (compEnvC scope cl C X.env) fp) tg (TGd G p))
    (ht : ∀ (s : Shared) (H : Hp) (C : Addr) (cl : List (Str × Addr)) (fp : List Addr) (G : Fx), G.K = X.K → G.T = F.T → PTs (X.blk s H scope (compEnvC scope cl C X.env) fp) ifs (TTd G ft))
    (he : ∀ (s : Shared) (H : Hp) (C : Addr) (cl : List (Str × Addr)) (fp : List Addr) (G : Fx), G.K = X.K → G.T = F.T → PE (X.blk s H scope (compEnvC scope cl C X.env) fp) elt (TEd G fe))
    (hs : ∀ x, foldedSetIterable iter X.env x = pure x) : PS X (.Assign [.Name y py] (.ListComp elt [⟨tg, iter, ifs, 0⟩] scope pos) spos) (tAsg (TEn F (nLc idx p src ft fe)) (gName i)) := by
  subst hix
  exact ps_lc hK hc hN hy hyl hsw hi ok hp hg ht he hs
end
/-! ### the rules with the defs at hand -/
section
variable {X : Cx} {F : Fx} {T : Cl} {j k c n : Nat} {f : Addr} {ps : List Str} {g : FG} {m x y : Str} {apos pos p : Pos} {o e a b : Expr} {es : List Expr} {fo fe f1 f2 : FE} {fa : FA} {gi : List D → Option (List D)}
theorem prD {q : Addr} (hK : F.K = X.K) (hT : F.T = T) (ho : PE X o (TEd F fo)) (ck : CK X.K F.T c) (hp : PropOf X.K (T.ad c) m q f) (D1 : Def1 X.prog X.w X.K X.mg X.base T j f ps g) (hr : Room k X.A) (hjk : j + 1 ≤ k) (hn : 1 = ps.length) (hab : attributeBase o m X.env (eval o X.env) = eval o X.env) :
    PE X (.Attribute o m pos) (TEd F (fMeth c g [] fo fNil)) := by
  subst hT
  obtain ⟨⟨fd, hb, Fn⟩, kp⟩ := D1
  exact de_prop hK ho ck hp Fn (hr.mono hjk) hb hn hab
theorem meD {pl : Sem Bool} (hK : F.K = X.K) (hT : F.T = T) (ho : PE X o (TEd F fo)) (ck : CK X.K F.T c) (hm : Meth X.K (T.ad c) m f) (D1 : Def1 X.prog X.w X.K X.mg X.base T j f ps g) (hr : Room k X.A) (hjk : j ≤ k) (ha : PA X (e :: es) (TAd F fa)) (hl : FaLen fa n) (hn : n + 1 = ps.length) (hnf : m ∉ F.T.fl c)
    (hst : starEach (e :: es) X.env = (false, eval e X.env) :: starEach es X.env) (hpl : (backTo pos (starEach es X.env)).any (·.1) = false)
    (ht : eval (.Call (.Attribute o m apos) (e :: es) [] pos) X.env = (do
      let ov ← eval o X.env
      standAt apos.atName
      let (f, first) ← holding [ov] (getMethod ov m pl)
      callWith pos f first (backTo pos (starEach (e :: es) X.env)) (backToKw pos (keywordEach [] X.env)))) : PE X (.Call (.Attribute o m apos) (e :: es) [] pos) (TEd F (fMeth c g [] fo fa)) := by
  subst hT
  obtain ⟨⟨fd, hb, Fn⟩, kp⟩ := D1
  exact de_meth hK ho ck hm Fn (hr.mono hjk) hb .nil (fun _ _ => rfl) ha hl (by simpa using hn) hnf hst hpl ht
theorem me0D {pl : Sem Bool} (hK : F.K = X.K) (hT : F.T = T) (ho : PE X o (TEd F fo)) (ck : CK X.K F.T c) (hm : Meth X.K (T.ad c) m f) (D1 : Def1 X.prog X.w X.K X.mg X.base T j f ps g) (hr : Room k X.A) (hjk : j ≤ k) (hn : 1 = ps.length) (hnf : m ∉ F.T.fl c)
    (ht : eval (.Call (.Attribute o m apos) [] [] pos) X.env = (do
      let ov ← eval o X.env
      standAt apos.atName
      let (f, first) ← holding [ov] (getMethod ov m pl)
      callWith pos f first (backTo pos (starEach [] X.env)) (backToKw pos (keywordEach [] X.env)))) : PE X (.Call (.Attribute o m apos) [] [] pos) (TEd F (fMeth c g [] fo fNil)) := by
  subst hT
  obtain ⟨⟨fd, hb, Fn⟩, kp⟩ := D1
  exact de_meth0 hK ho ck hm Fn (hr.mono hjk) hb .nil (fun _ _ => rfl) (by simpa using hn) hnf ht
theorem lenD (hK : F.K = X.K) (hT : F.T = T) (hs : Sp1 X.K (T.ad c) "__len__" f) (D1 : Def1 X.prog X.w X.K X.mg X.base T j f ps g) (hr : Room k X.A) (hjk : j + 1 ≤ k) (hn : 1 = ps.length) (hg : Gl X x) (hm : X.mg x = none) (hv : bootBuiltins x = some (.builtin "len")) (ho : PE X e (TEd F fo)) (hnm : x ≠ "__name__")
    (hdb : (x == ("__debug__" : Str)) = false) (he : starEach [e] X.env = (false, eval e X.env) :: starEach [] X.env) (hpl : (backTo pos (starEach [] X.env)).any (·.1) = false) : PE X (.Call (.Name x p) [e] [] pos) (TEd F (fLenI c g fo)) := by
  subst hT
  obtain ⟨⟨fd, hb, Fn⟩, kp⟩ := D1
  exact de_lenI hK hs Fn (hr.mono hjk) hb hn hg hm hv ho hnm hdb he hpl
theorem inID (hK : F.K = X.K) (hT : F.T = T) (hs : Sp1 X.K (T.ad c) "__contains__" f) (D1 : Def1 X.prog X.w X.K X.mg X.base T j f ps g) (hr : Room k X.A) (hjk : j ≤ k) (hn : 2 = ps.length) (ha : PE X a (TEd F f1)) (hb' : PE X b (TEd F f2)) (hm : behindInMarks .In b = false) : PE X (.Compare a [.In] [b] pos) (TEd F (fInI c g f1 f2)) := by
  subst hT
  obtain ⟨⟨fd, hb, Fn⟩, kp⟩ := D1
  exact de_inI hK hs Fn (hr.mono hjk) hb hn ha hb' hm
theorem ciD (hK : F.K = X.K) (hT : F.T = T) (ho : PE X e (TEd F fo)) (co : StX.CallO X.K (T.ad c) f) (D1 : Def1 X.prog X.w X.K X.mg X.base T j f ps g) (hr : Room k X.A) (hjk : j ≤ k) (ha : PA X (a :: es) (TAd F fa)) (hl : FaLen fa n) (hn : n + 1 = ps.length)
    (ht : eval (.Call e (a :: es) [] pos) X.env = (do callWith pos (← eval e X.env) [] (backTo pos (starEach (a :: es) X.env)) (backToKw pos (keywordEach [] X.env))))
    (he : starEach (a :: es) X.env = (false, eval a X.env) :: starEach es X.env) (hpl : (backTo pos (starEach es X.env)).any (·.1) = false) : PE X (.Call e (a :: es) [] pos) (TEd F (fCallI c g fo fa)) := by
  subst hT
  obtain ⟨⟨fd, hb, Fn⟩, kp⟩ := D1
  exact de_callI hK ho co Fn (hr.mono hjk) hb ha hl hn ht he hpl
theorem mkD (hK : F.K = X.K) (hT : F.T = T) (Mk_ : Mk X.K (T.ad c) f) (Fn : FnR X.prog X.w X.K X.mg X.base CX0 j f (spMk X.K T c gi)) (hr : Room k X.A) (hjk : j + 1 ≤ k) (hg : Gl X x) (hm : X.mg x = some (.ref (T.ad c))) (ha : PA X (e :: es) (TAd F fa)) (hdb : (x == ("__debug__" : Str)) = false)
    (he : starEach (e :: es) X.env = (false, eval e X.env) :: starEach es X.env) (hpl : (backTo pos (starEach es X.env)).any (·.1) = false) : PE X (.Call (.Name x p) (e :: es) [] pos) (TEd F (fMake c gi fa)) := by
  subst hT
  exact de_make hK Mk_ Fn (hr.mono hjk) hg hm ha hdb he hpl
theorem mkS (hK : F.K = X.K) (hT : F.T = T) (Mk_ : Mk X.K (T.ad c) f) (Fn : FnR X.prog X.w X.K X.mg X.base CX0 j f (spMk X.K T c gi)) (hr : Room k X.A) (hjk : j + 1 ≤ k) (hg : Gl X x) (hm : X.mg x = some (.ref (T.ad c))) (ha : PA X (e :: es) (TAd F fa)) (hdb : (x == ("__debug__" : Str)) = false)
    (he : starEach (e :: es) X.env = (false, eval e X.env) :: starEach es X.env) (hpl : (backTo pos (starEach es X.env)).any (·.1) = true) : PE X (.Call (.Name x p) (e :: es) [] pos) (TEd F (fMake c gi fa)) := by
  subst hT
  exact de_makeS hK Mk_ Fn (hr.mono hjk) hg hm ha hdb he hpl
theorem obD {i : Nat} {pos' sp : Pos} (hK : F.K = X.K) (hT : F.T = T) (Mk_ : Mk X.K (T.ad c) f) (Fn : FnR X.prog X.w X.K X.mg X.base CX0 j f (spMk X.K T c gi)) (hr : Room k X.A) (hjk : j + 1 ≤ k) (hg : Gl X x) (hm : X.mg x = some (.ref (T.ad c))) (ha : PA X (e :: es) (TAd F fa)) (hdb : (x == ("__debug__" : Str)) = false)
    (he : starEach (e :: es) X.env = (false, eval e X.env) :: starEach es X.env) (hpl : (backTo pos (starEach es X.env)).any (·.1) = false)
    (hN : X.N.Nodup) (hi : X.N[i]? = some y) (hy : Loc X.env.scope y) (hs : swapsWith (.Call (.Name x p) (e :: es) [] pos) (some (.Name y pos')) sp.line X.env = pure false) (hfn : X.fn y = true ∨ X.env.scope.names.lookup y = some .local) (hp : ∀ a, (i, a) ∉ F.pa) :
    PS X (.Assign [.Name y pos'] (.Call (.Name x p) (e :: es) [] pos) sp) (TSd F (bObj i (nMake c gi fa))) := by
  subst hT
  exact ds_obj hK Mk_ Fn (hr.mono hjk) hg hm ha hdb he hpl hN hi hy hs hfn hp
end
theorem fnR_starD {P : Program} {w : World} {K : PySem.W.Frag} {mg : Str → Option Value} {base : Heap} {T : Cl} {k c np : Nat} {f : Addr} {fd : FuncData} {name qual pv : Str} {params : Arguments} {body : List Stmt} {scope : Scope} {N ps : List Str} {asg : List Nat} {fb : FB}
    (Fd : FunD K name qual params body scope [] [] f fd) (S : FnScope N (ps ++ [pv]) scope) (hnp : np + 1 = ps.length)
    (hb : ∀ (kV doc pm : Value) (an : Option Addr) (cdv ct : Value) (us rest : List Value), us.length = ps.length → bindArgs (PySem.W.fnOf name qual params body scope .none kV doc pm an cdv ct) ⟨us ++ rest, []⟩ = (newTuple rest >>= fun t => pure (ps.zip us ++ [(pv, t)])))
    (go : ∀ (cdv : Value) (A : Around) (outer : List Env) (s : Shared) (H : Hp) (E : XK), Room k (A.deeper (envOfC qual scope s.heap.objs.size f cdv)) → ∀ F : Fx, F.K = K → F.T = T → PaOk F (ps ++ [pv]).length asg →
      PSs (bodyCx P w K mg base N qual scope f cdv A outer s H E) body (TSd F fb)) : FnR P w K mg base CX0 (k + 1) f (spMk K T c (initS c np (fnD N.length asg fb))) := by
  obtain ⟨oc, od, dV, kV, doc, pm, an, cdv, ct, osl, rfl, lk, hcd, hD, _⟩ := Fd.ex
  rcases hD with ⟨_, rfl⟩ | ⟨e, _⟩
  · exact fnR_star lk hcd S hnp (hb kV doc pm an cdv ct) (go cdv)
  · exact absurd rfl e
end SC

set_option Elab.async false
set_option linter.all false
set_option maxRecDepth 100000
namespace SC
open PySem PySem.Spec PyProof.Rows L2

section
variable {M : Model} {A : Around} {R : GenEnd} {Y : Protocol} {n : Nat} {s₀ : Shared} {c : Code} {fs : List Frame} {s : Shared} {env : Env} {K : Flow → Sem PySem.Fin} {J : Value → Sem PySem.Fin} {gd : Bool → Bool} {lv : List Value → List Value}
/-- a for statement in a generator: the iterator made, then its loop's own code -/
theorem seg_For {target iter : Expr} {body orelse : List Stmt} {pos : Pos} (hs : ∀ x, foldedSetIterable iter env x = pure x)
    (h : wpAny M (A.over c fs) (eval iter env) (fun x s1 => wpAny M (A.over c fs) (pyIter x) (fun it s2 => ∀ p, Seg M A R Y n s₀ (.forLoop target it body orelse env) (M.den (.forLoop target it body orelse env))
        (.ret (fun r => ((match r with | .ok f => (.pure f : Sem Flow) | .error e => .raise e).onRaise (cameBack env)).wrap K J gd lv) none (gd false) (lv []) c p [] :: fs) s2)
      (fun x s' => Seg M A R Y n s₀ c (J x) fs s') s1) (fun x s' => Seg M A R Y n s₀ c (J x) fs s') s) :
    Seg M A R Y n s₀ c ((exec (.For target iter body orelse pos) env).wrap K J gd lv) fs s := by
  rw [exec_For, Sem.bind_eq_wrap', Sem.wrap_wrap]
  refine seg_wrap (wpAny_standAt ?_)
  rw [Sem.bind_eq_wrap', Sem.wrap_wrap]
  refine seg_wrap (wpAny_mono h (fun x s1 h1 => ?_) fun _ _ z => z)
  rw [Sem.bind_eq_wrap', Sem.wrap_wrap, hs x]
  refine seg_wrap (wpAny_pure ?_)
  rw [Sem.bind_eq_wrap', Sem.wrap_wrap]
  refine seg_wrap (wpAny_standAt ?_)
  rw [Sem.bind_eq_wrap', Sem.wrap_wrap]
  refine seg_wrap (wpAny_holding (wpAny_mono h1 (fun it s2 h2 => ?_) fun _ _ z => z))
  exact seg_call h2
end
/-- what a loop's code does with an exception -/
def EXn (env : Env) (e : Value) : Sem PySem.Fin := (do noteFrame e env; theTreesLotGoes e : Sem Unit).wrap (fun _ => .raise e) .raise id id
section
variable {prog : Program} {w : World} {A : Around} {R : GenEnd} {Y : Protocol} {n : Nat} {s₀ : Shared} {fs : List Frame} {s : Shared} {env : Env}
theorem seg_forLoop {target : Expr} {it : Value} {body orelse : List Stmt}
    (h : wpAny (model prog w) (A.over (.forLoop target it body orelse env) fs) (pyNext it) (fun (r : Option Value) (s1 : Shared) => match r with
        | Option.none => Seg (model prog w) A R Y n s₀ (.forLoop target it body orelse env) (.pure (.again (.block orelse env))) fs s1
        | Option.some v => wpAny (model prog w) (A.over (.forLoop target it body orelse env) fs) (letOwnedTupleGo target it v) (fun _ s2 => wpAny (model prog w) (A.over (.forLoop target it body orelse env) fs) (assign target env v) (fun _ s3 =>
            Seg (model prog w) A R Y n s₀ (.forLoop target it body orelse env) ((execs body env).wrap (fun f => match f with
              | .next | .cont => .pure (.again (.forLoop target it body orelse env))
              | .brk => .pure (.done .next)
              | .ret v => .pure (.done (.ret v))) (EXn env) id id) fs s3)
          (fun x s' => Seg (model prog w) A R Y n s₀ (.forLoop target it body orelse env) (EXn env x) fs s') s2)
          (fun x s' => Seg (model prog w) A R Y n s₀ (.forLoop target it body orelse env) (EXn env x) fs s') s1)
      (fun x s' => Seg (model prog w) A R Y n s₀ (.forLoop target it body orelse env) (EXn env x) fs s') s) :
    Seg (model prog w) A R Y n s₀ (.forLoop target it body orelse env) ((model prog w).den (.forLoop target it body orelse env)) fs s := by
  show Seg _ A R Y n s₀ _ ((forTurn target it body orelse env).onRaise (fun x => do noteFrame x env; theTreesLotGoes x)) fs s
  have ex : ∀ x, ((do noteFrame x env; theTreesLotGoes x : Sem Unit).bind fun _ => (Sem.raise x : Sem PySem.Fin)) = EXn env x := fun x => Sem.bind_eq_wrap _ _
  rw [Sem.onRaise_eq_wrap]
  simp only [ex]
  simp only [forTurn]
  rw [Sem.bind_eq_wrap', Sem.wrap_wrap]
  refine seg_wrap (wpAny_standAt ?_)
  rw [Sem.bind_eq_wrap', Sem.wrap_wrap]
  refine seg_wrap (wpAny_onRaise (wpAny_mono h (fun r s1 h1 => ?_) fun x s' z => wpAny_standAt z))
  cases r with
  | none => exact h1
  | some v =>
    show Seg _ A R Y n s₀ _ (Sem.wrap _ _ _ _ (letOwnedTupleGo target it v >>= _)) fs s1
    rw [Sem.bind_eq_wrap', Sem.wrap_wrap]
    refine seg_wrap (wpAny_mono h1 (fun _ s2 h2 => ?_) fun _ _ z => z)
    rw [Sem.bind_eq_wrap', Sem.wrap_wrap]
    refine seg_wrap (wpAny_mono h2 (fun _ s3 h3 => ?_) fun _ _ z => z)
    rw [Sem.bind_eq_wrap', Sem.wrap_wrap]
    exact Eq.mp (congrArg (fun t => Seg _ A R Y n s₀ _ t fs s3) (Sem.wrap_congr (execs body env) id id (fun f => by cases f <;> rfl) (fun e => rfl))) h3
theorem seg_block0 {c : Code} (h : Seg (model prog w) A R Y n s₀ (.block [] env) (leafOf (.ok .next)) fs s) : Seg (model prog w) A R Y n s₀ c (.pure (.again (.block [] env))) fs s := by
  refine seg_again rfl ?_
  exact h
end
end SC

set_option Elab.async false
set_option linter.all false
set_option maxRecDepth 100000
namespace SC
open PySem PySem.Spec PyProof.Rows L2

section
variable {X : Cx}
def tGFor (wi : TI) (g : TG) (tb : TGn) : TGn := fun D ys σ H => wi σ H fun J H1 => ∃ W : Nat → Nat → List V → Sg → Hp → Prop, (∃ m, W 0 m ys σ H1) ∧ ∀ i m ys σ H, W i m ys σ H →
  (J.stop i H ∧ D.nx ys σ H) ∨ (J.go i H ∧ ∃ N : List V → Sg → Hp → Prop, (∀ ys' σ' H', N ys' σ' H' → ∃ m', m' < m ∧ W (i + 1) m' ys' σ' H') ∧ ∀ x H', J.yld i H x H' → g x σ H' fun σ2 H2 => tb { D with nx := N, ct := N, bk := D.nx } ys σ2 H2)
theorem gs_for {tg iter : Expr} {body : List Stmt} {pos : Pos} {wi : TI} {g : TG} {tb : TGn} (hp : PassesOwn (model X.prog X.w) X.A X.env X.xe) (hc : X.calm = true) (hi : PI X tg iter wi) (hg : PG X tg g) (hb : GSs X body tb)
    (hs : ∀ x, foldedSetIterable iter X.env x = pure x) : GS X (.For tg iter body [] pos) (tGFor wi g tb) := by
  refine ⟨fun A S ip R n ys s₀ c fs K J gd lv s σ H D gc hn kk hI ht => ?_⟩
  refine seg_For hs ?_
  rw [gc.over]
  obtain ⟨acc0, cc0, r0, I0⟩ := hI
  refine wpAny_mono (hi.run _ s σ H _ I0 ht) (fun v sA hA => wpAny_mono hA (fun itv sB hB p => ?_) fun x s' hx => kk.exc n s₀ x s' hx) fun x s' hx => kk.exc n s₀ x s' hx
  obtain ⟨it, fp, tn, Jt, HB, rfl, IB, T, tB, fB, W, ⟨m0, w0⟩, turn⟩ := hB
  -- the iterator's own objects
  have base : ∀ b ∈ fp, b ≠ X.env.locals ∧ b ∉ X.fs ∧ (b ∈ X.ex ∨ X.s_0.heap.objs.size ≤ b) ∧ (∀ x c, X.env.cells.lookup x = some c → c ≠ b) ∧ (∀ q ∈ X.pn, q.1 ≠ b) ∧ S ≠ b ∧ ∀ q ∈ ip, q.1 ≠ b := fun b hbm => by
    obtain ⟨_, f1, f2, f3, f4, f5⟩ := fB b hbm
    exact ⟨f1, f2, f3, f4, fun q hq => f5 q (List.mem_append_left _ hq), f5 (S, lstObj acc0 cc0) (List.mem_append_right _ List.mem_cons_self), fun q hq => f5 q (List.mem_append_right _ (List.mem_cons_of_mem _ hq))⟩
  have fpk : ∀ {acc : Array Value} {cc : Nat} {H' : Hp}, (∀ b ∈ fp, H' b = none) → ∀ b ∈ fp, FpOk X ((S, lstObj acc cc) :: ip) H' b := fun {acc cc H'} hn b hbm => by
    obtain ⟨f1, f2, f3, f4, f5, f6, f7⟩ := base b hbm
    refine ⟨hn b hbm, f1, f2, f3, f4, fun q hq => ?_⟩
    rcases List.mem_append.mp hq with z | z
    · exact f5 q z
    · rcases List.mem_cons.mp z with z | z
      · rw [z]; exact f6
      · exact f7 q z
  have gl := fun (kf : Result → Sem PySem.Fin) => gc_loop (k := kf) (c' := .forLoop tg (.ref it) body [] X.env) (l := lv []) (kp := []) (p := p) gc rfl rfl
  have run : ∀ (m i n : Nat) (ys : List V) (s₀ s : Shared) (σ : Sg) (H : Hp), n + ys.length = sizeLine → W i m ys σ H → GI X S ip ys σ H s → tn i s.heap → (∀ b ∈ fp, H b = none) →
      Seg (model X.prog X.w) A R (GY X S) n s₀ (.forLoop tg (.ref it) body [] X.env) ((model X.prog X.w).den (.forLoop tg (.ref it) body [] X.env))
        (.ret (fun r => ((match r with | .ok f => (.pure f : Sem Flow) | .error e => .raise e).onRaise (cameBack X.env)).wrap K J gd lv) none (gd false) (lv []) c p [] :: fs) s := by
    intro m
    induction m using Nat.strongRecOn with
    | ind m ih =>
      intro i n ys s₀ s σ H hn w hGI tni fn
      have bad : ∀ (n : Nat) (s₀ : Shared) (x : Value) (s' : Shared), X.xe x s' → Seg (model X.prog X.w) A R (GY X S) n s₀ (.forLoop tg (.ref it) body [] X.env) (EXn X.env x)
          (.ret (fun r => ((match r with | .ok f => (.pure f : Sem Flow) | .error e => .raise e).onRaise (cameBack X.env)).wrap K J gd lv) none (gd false) (lv []) c p [] :: fs) s' := fun n s₀ x s' hx => by
        unfold EXn
        apply seg_wrap
        rw [(gl _).over]
        exact wpAny_bind (wpAny_mono (hp x s' hx) (fun _ _ hcb => wpAny_theTreesLotGoes (seg_leaf (.error x) (seg_cameBack gc kk hcb))) fun y _ hcb => seg_leaf (.error y) (seg_cameBack gc kk hcb))
      apply seg_forLoop
      rw [(gl _).over]
      obtain ⟨acc, cc, ra, I⟩ := hGI
      have fk := fpk (acc := acc) (cc := cc) fn
      rcases turn i m ys σ H w with ⟨stp, qn⟩ | ⟨go, N, hN, step⟩
      · refine wpAny_mono (T.done X rfl rfl rfl hc i _ s σ H X.xe I fk tni stp) (fun r s1 ⟨hr, I1⟩ => ?_) fun x s' hx => bad n s₀ x s' hx
        subst hr
        exact seg_block0 (seg_leaf (.ok .next) (kk.ok n ys s₀ s1 .next hn ⟨σ, H, ⟨acc, cc, ra, I1⟩, qn⟩))
      · refine wpAny_mono (T.item X rfl rfl rfl hc i _ s σ H X.xe I fk tni go) (fun r s1 ⟨u, hr, h1⟩ => ?_) fun x s' hx => bad n s₀ x s' hx
        subst hr
        refine wpAny_mono h1 (fun _ s2 ⟨x, H2, I2, rx, yl, tn2, fn2⟩ => ?_) fun x s' hx => bad n s₀ x s' hx
        have fk2 := fpk (acc := acc) (cc := cc) fn2
        have I2p := I2.pinned fk2 (T.obj _ _ tn2)
        refine wpAny_mono (hg.run _ s2 σ H2 x u _ I2p rx (step x H2 yl)) (fun _ s3 ⟨σ3, H3, I3, q3⟩ => ?_) fun x s' hx => bad n s₀ x s' hx
        have hip : ∀ q ∈ ip ++ pinsAt fp s2.heap, q.1 ≠ S := fun q hq => by
          rcases List.mem_append.mp hq with z | z
          · exact gc.ip q z
          · exact fun e => (base q.1 (of_pinsAt z).1).2.2.2.2.2.1 e.symm
        have unp : ∀ {ys' : List V} {σ' : Sg} {H' : Hp} {s' : Shared}, GI X S (ip ++ pinsAt fp s2.heap) ys' σ' H' s' → GI X S ip ys' σ' H' s' ∧ tn (i + 1) s'.heap ∧ ∀ b ∈ fp, H' b = none := fun {ys' σ' H' s'} ⟨acc', cc', r', I'⟩ => by
          have I'' : Inv X (((S, lstObj acc' cc') :: ip) ++ pinsAt fp s2.heap) σ' H' s' := I'
          refine ⟨⟨acc', cc', r', I''.unpinned⟩, T.keep _ _ _ tn2 fun b hbm o e => (I''.pin (b, o) (List.mem_append_right _ (List.mem_append_right _ (mem_pinsAt hbm e)))).1, fun b hbm => ?_⟩
          obtain ⟨o, e, _⟩ := T.obj _ _ tn2 b hbm
          exact (I''.pin (b, o) (List.mem_append_right _ (List.mem_append_right _ (mem_pinsAt hbm e)))).2.1
        have g2 := gl fun r => ((match r with | .ok f => (.pure f : Sem Flow) | .error e => .raise e).onRaise (cameBack X.env)).wrap K J gd lv
        refine hb.run A S (ip ++ pinsAt fp s2.heap) R n ys s₀ _ _ _ _ id id s3 σ3 H3 { D with nx := N, ct := N, bk := D.nx } ⟨g2.pn, hip, g2.apart, g2.over, g2.split, g2.guard, g2.gd⟩ hn
          ⟨fun n' ys' s₀' s4 f hn' hs4 => ?_, fun n' s₀' x s4 hx => bad n' s₀' x s4 hx⟩ ⟨acc, cc, ra, I3⟩ q3
        cases f with
        | next =>
          obtain ⟨σ4, H4, G4, n4⟩ := hs4
          obtain ⟨m', hm, w4⟩ := hN ys' σ4 H4 n4
          obtain ⟨u1, u2, u3⟩ := unp G4
          exact seg_again rfl (ih m' hm (i + 1) n' ys' s₀' s4 σ4 H4 hn' w4 u1 u2 u3)
        | cont =>
          obtain ⟨σ4, H4, G4, n4⟩ := hs4
          obtain ⟨m', hm, w4⟩ := hN ys' σ4 H4 n4
          obtain ⟨u1, u2, u3⟩ := unp G4
          exact seg_again rfl (ih m' hm (i + 1) n' ys' s₀' s4 σ4 H4 hn' w4 u1 u2 u3)
        | brk =>
          obtain ⟨σ4, H4, G4, q4⟩ := hs4
          exact seg_leaf (.ok .next) (kk.ok n' ys' s₀' s4 .next hn' ⟨σ4, H4, (unp G4).1, q4⟩)
        | ret v =>
          obtain ⟨v4, σ4, H4, G4, r4, q4⟩ := hs4
          exact seg_leaf (.ok (.ret v)) (kk.ok n' ys' s₀' s4 (.ret v) hn' ⟨v4, σ4, H4, (unp G4).1, r4, q4⟩)
  exact run m0 0 n ys s₀ sB σ HB hn w0 ⟨acc0, cc0, r0, IB⟩ tB fun b hbm => (fB b hbm).1
end
end SC

set_option Elab.async false
set_option linter.all false
set_option maxRecDepth 100000
namespace SC
open PySem PySem.Spec PyProof.Rows L2

/-! ### generators over data -/
abbrev FGn := List D → Ev → Option (Fw × List D × Ev)
def EndG (F : Fx) (E : GEnds) (w : Fw) (M' : Ms) (ys' : List V) (σ' : Sg) (H' : Hp) : Prop := match w with
  | .nx => E.nx ys' σ' H'
  | .bk => E.bk ys' σ' H'
  | .ct => E.ct ys' σ' H'
  | .rt d => ∀ v, Dv F.K F.T M' H' d v → E.rt ys' v H'
def TGnd (F : Fx) (f : FGn) : TGn := fun E ys σ H => ∃ M ρ ds w ds' ρ', ER F M ρ σ H ∧ DvS F.K F.T M H ds ys ∧ f ds ρ = some (w, ds', ρ') ∧
  ∀ M' ys' σ' H', ER F M' ρ' σ' H' → Stp F M M' H H' → DvS F.K F.T M' H' ds' ys' → EndG F E w M' ys' σ' H'
theorem Stp.dvs {F : Fx} {M M' : Ms} {H H' : Hp} (s : Stp F M M' H H') : ∀ {ds : List D} {vs : List V}, DvS F.K F.T M H ds vs → DvS F.K F.T M' H' ds vs
  | [], _, h => h
  | d :: ds, _, ⟨x, r, e, h1, h2⟩ => ⟨x, r, e, s d x h1, Stp.dvs s h2⟩
def gPl (f : FB) : FGn := fun ds ρ => match f ρ with
  | some (w, ρ') => some (w, ds, ρ')
  | none => none
def gNil : FGn := fun ds ρ => some (.nx, ds, ρ)
def gSeq (f g : FGn) : FGn := fun ds ρ => match f ds ρ with
  | some (.nx, ds1, ρ1) => g ds1 ρ1
  | some (w, ds1, ρ1) => some (w, ds1, ρ1)
  | none => none
def gYld (fe : FE) : FGn := fun ds ρ => match fe ρ with
  | some (.dat d, ρ1) => if ds.length < sLn then some (.nx, ds ++ [d], ρ1) else none
  | _ => none
def gForL (p : Pt) (fb : FGn) : List D → List D → Ev → Option (Fw × List D × Ev)
  | [], ys, ρ => some (.nx, ys, ρ)
  | d :: ds, ys, ρ => match bindPt p d ρ with
    | none => none
    | some ρa => match fb ys ρa with
      | none => none
      | some (.nx, yb, ρb) => gForL p fb ds yb ρb
      | some (.ct, yb, ρb) => gForL p fb ds yb ρb
      | some (.bk, yb, ρb) => some (.nx, yb, ρb)
      | some (.rt d, yb, ρb) => some (.rt d, yb, ρb)
def gFor (p : Pt) (src : FS) (fb : FGn) : FGn := fun ys ρ => match src ρ with
  | none => none
  | some (ds, os, ρ1) => match datAll os with
    | none => none
    | some _ => gForL p fb ds ys ρ1
theorem GS.imp {X : Cx} {st : Stmt} {t t' : TGn} (h : GS X st t) (g : ∀ D ys σ H, t' D ys σ H → t D ys σ H) : GS X st t' :=
  ⟨fun A S ip R n ys s₀ c fs K J gd lv s σ H D gc hn k hI ht => h.run A S ip R n ys s₀ c fs K J gd lv s σ H D gc hn k hI (g _ _ _ _ ht)⟩
theorem GSs.imp {X : Cx} {st : List Stmt} {t t' : TGn} (h : GSs X st t) (g : ∀ D ys σ H, t' D ys σ H → t D ys σ H) : GSs X st t' :=
  ⟨fun A S ip R n ys s₀ c fs K J gd lv s σ H D gc hn k hI ht => h.run A S ip R n ys s₀ c fs K J gd lv s σ H D gc hn k hI (g _ _ _ _ ht)⟩
section
variable {X : Cx} {F : Fx} {pos : Pos}
theorem dg_pl {st : Stmt} {f : FB} (h : PS X st (TSd F f)) : GS X st (TGnd F (gPl f)) := GS.imp (gs_ps h) fun E ys σ H ⟨M, ρ, ds, w, ds', ρ', R, dv, hf, q⟩ => by
  unfold gPl at hf
  split at hf
  · rename_i w1 ρ1 e1
    cases hf
    refine ⟨M, ρ, w, _, R, e1, fun M1 σ1 H1 R1 s1 => ?_⟩
    have := q M1 ys σ1 H1 R1 s1 (s1.dvs dv)
    cases w with
    | nx => exact this
    | bk => exact this
    | ct => exact this
    | rt d => exact this
  · cases hf
theorem dgss_nil : GSs X [] (TGnd F gNil) := GSs.imp gss_nil fun E ys σ H ⟨M, ρ, ds, w, ds', ρ', R, dv, hf, q⟩ => by
  cases hf
  exact q M ys σ H R Stp.rfl dv
theorem dgss_cons {st : Stmt} {rest : List Stmt} {f g : FGn} (h1 : GS X st (TGnd F f)) (h2 : GSs X rest (TGnd F g)) : GSs X (st :: rest) (TGnd F (gSeq f g)) := GSs.imp (gss_cons h1 h2) fun E ys σ H ⟨M, ρ, ds, w, ds', ρ', R, dv, hf, q⟩ => by
  unfold gSeq at hf
  split at hf
  · rename_i ds1 ρ1 e1
    exact ⟨M, ρ, ds, _, ds1, ρ1, R, dv, e1, fun M1 ys1 σ1 H1 R1 s1 dv1 => ⟨M1, ρ1, ds1, w, ds', ρ', R1, dv1, hf, fun M2 ys2 σ2 H2 R2 s2 dv2 => q M2 ys2 σ2 H2 R2 (s1.trans s2) dv2⟩⟩
  · rename_i w1 ds1 ρ1 hn e1
    cases hf
    refine ⟨M, ρ, ds, w, _, _, R, dv, e1, fun M1 ys1 σ1 H1 R1 s1 dv1 => ?_⟩
    have := q M1 ys1 σ1 H1 R1 s1 dv1
    cases w with
    | nx => exact absurd rfl hn
    | bk => exact this
    | ct => exact this
    | rt d => exact this
  · cases hf
theorem dg_yld {e : Expr} {fe : FE} {yp : Pos} (he : PE X e (TEd F fe)) (hco : X.env.scope.isCoroutine = false) (hi : interactive X.env = false) : GS X (.Expr (.Yield (some e) yp) pos) (TGnd F (gYld fe)) :=
  GS.imp (gs_yield he hco hi) fun E ys σ H ⟨M, ρ, ds, w, ds', ρ', R, dv, hf, q⟩ => by
    unfold gYld at hf
    split at hf
    · rename_i d ρ1 e1
      split at hf
      · rename_i hz
        cases hf
        refine ⟨by rw [← dv.length, ← sLn_eq]; exact hz, M, ρ, _, _, R, e1, fun v M1 H1 s1 R1 k1 ok1 => ?_⟩
        have st := Stp.of R (fun a z => .inl (s1 a z)) k1
        exact q M1 _ σ H1 R1 st ((st.dvs dv).append (DvS.cons ok1 DvS.nil))
      · cases hf
    · cases hf
theorem gfor_read {p : Pt} {src : FS} {fb : FGn} (hp : ∀ i ∈ p.slots, ∀ a, (i, a) ∉ F.pa) {E : GEnds} {ys : List V} {σ : Sg} {H : Hp} (h : TGnd F (gFor p src fb) E ys σ H) : tGFor (TId F src) (TGd F p) (TGnd F fb) E ys σ H := by
  obtain ⟨M, ρ, dy, w, dy', ρ', R, dvy, hf, q⟩ := h
  unfold gFor at hf
  cases e1 : src ρ with
  | none => rw [e1] at hf; cases hf
  | some p1 =>
    obtain ⟨ds, os, ρ1⟩ := p1
    rw [e1] at hf
    simp only at hf
    cases e2 : datAll os with
    | none => rw [e2] at hf; cases hf
    | some es0 =>
      rw [e2] at hf
      simp only at hf
      refine ⟨M, ρ, ds, os, ρ1, R, e1, fun J vs es M1 H1 s1 R1 k1 ok1 ge itok => ?_⟩
      have st1 := Stp.of R (fun a z => .inl (s1 a z)) k1
      refine ⟨fun i m ys' σ' H' => m = ds.length - i ∧ i ≤ ds.length ∧ ∃ M2 ρ2 dy2, ER F M2 ρ2 σ' H' ∧ Stp F M1 M2 H1 H' ∧ DvS F.K F.T M2 H' dy2 ys' ∧ gForL p fb (ds.drop i) dy2 ρ2 = some (w, dy', ρ'), ⟨ds.length, by simp, Nat.zero_le _, M1, ρ1, dy, R1, Stp.rfl, st1.dvs dvy, hf⟩, ?_⟩
      rintro i m ys2 σ2 H2 ⟨rfl, hi, M2, ρ2, dy2, R2, st2, dv2, el⟩
      have doS := datAll_do st2 ok1 e2 ge
      have ito := itok M2 H2 i R2.mm doS
      by_cases hlt : i < ds.length
      · refine .inr ⟨(ito.1 ds[i] (by simp [hlt])).1, fun ys' σ' H' => ∃ M2 ρ2 dy2, ER F M2 ρ2 σ' H' ∧ Stp F M1 M2 H1 H' ∧ DvS F.K F.T M2 H' dy2 ys' ∧ gForL p fb (ds.drop (i + 1)) dy2 ρ2 = some (w, dy', ρ'), fun ys' σ' H' hh => ⟨ds.length - (i + 1), by omega, rfl, hlt, hh⟩, fun x H3 hy => ?_⟩
        obtain ⟨ex3, dvx⟩ := (ito.1 ds[i] (by simp [hlt])).2 x H3 hy
        rw [List.drop_eq_getElem_cons hlt] at el
        unfold gForL at el
        cases b1 : bindPt p ds[i] ρ2 with
        | none => rw [b1] at el; cases el
        | some ρa =>
          rw [b1] at el
          simp only at el
          refine ⟨M2, ρ2, ds[i], ρa, R2.ext ex3, dvx, b1, hp, fun σ3 R3 ag => ?_⟩
          have st3 : Stp F M2 M2 H2 H3 := fun d v h => Dv.ext ex3 d h
          cases f1 : fb dy2 ρa with
          | none => rw [f1] at el; cases el
          | some pw =>
            obtain ⟨w1, dyb, ρb⟩ := pw
            rw [f1] at el
            refine ⟨M2, ρa, dy2, w1, dyb, ρb, R3, st3.dvs dv2, f1, fun M4 ys4 σ4 H4 R4 st4 dv4 => ?_⟩
            have st := st2.trans (st3.trans st4)
            cases w1 with
            | nx => exact ⟨M4, ρb, dyb, R4, st, dv4, el⟩
            | ct => exact ⟨M4, ρb, dyb, R4, st, dv4, el⟩
            | bk => cases el; exact q M4 ys4 σ4 H4 R4 (st1.trans st) dv4
            | rt d => cases el; exact q M4 ys4 σ4 H4 R4 (st1.trans st) dv4
      · have ei : i = ds.length := by omega
        refine .inl ⟨ito.2 ei, ?_⟩
        rw [List.drop_eq_nil_of_le (by omega)] at el
        cases el
        exact q M2 ys2 σ2 H2 R2 (st1.trans st2) dv2
theorem dg_for {tg iter : Expr} {body : List Stmt} {p : Pt} {src : FS} {fb : FGn} (hpo : PassesOwn (model X.prog X.w) X.A X.env X.xe) (hc : X.calm = true) (hi : PI X tg iter (TId F src)) (hg : PG X tg (TGd F p)) (hb : GSs X body (TGnd F fb))
    (hs : ∀ x, foldedSetIterable iter X.env x = pure x) (hp : ∀ i ∈ p.slots, ∀ a, (i, a) ∉ F.pa) : GS X (.For tg iter body [] pos) (TGnd F (gFor p src fb)) :=
  GS.imp (gs_for hpo hc hi hg hb hs) fun _ _ _ _ => gfor_read hp
theorem dgss_frz {st : List Stmt} {i : Nat} {g : FGn} (h : GSs X st (TGnd F g)) (hp : ∀ a, (i, a) ∉ F.pa) : GSs X st (TGnd F (gSeq (gPl (bFrz i)) g)) := GSs.imp h fun E ys σ H ⟨M, ρ, ds, w, ds', ρ', R, dv, hf, q⟩ => by
  unfold gSeq gPl bFrz at hf
  cases e1 : ρ[i]? with
  | none => rw [e1] at hf; cases hf
  | some s =>
    rw [e1] at hf
    cases s with
    | own l =>
      simp only at hf
      obtain ⟨M1, s1, R1⟩ := R.frz e1 hp
      exact ⟨M1, _, ds, w, ds', ρ', R1, DvS.less s1 ds dv, hf, fun M2 ys2 σ2 H2 R2 s2 dv2 => q M2 ys2 σ2 H2 R2 (fun d v h => s2 d v (Dv.less s1 d h)) dv2⟩
    | _ => cases hf
end
/-! ### a generator def -/
def spY (K : PySem.W.Frag) (T : Cl) (n : Nat) (g : List D → Option (List D)) : L2.SpG := fun vs H Q _ => vs.length = n ∧ ∃ M ds out, (∀ a, M a → Mu (H a)) ∧ DvS K T M H ds vs ∧ g ds = some out ∧ ∀ ys H', Ext H H' → DvS K T M H' out ys → Q ys H'
def genOut : Option (Fw × List D × Ev) → Option (List D)
  | some (.nx, out, _) => some out
  | some (.rt .non, out, _) => some out
  | _ => none
def genD (N : Nat) (fb : FGn) (ds : List D) : Option (List D) := genOut (fb [] (ds.map .dat ++ List.replicate (N - ds.length) .un))
section
variable {P : Program} {w : World} {K : PySem.W.Frag} {mg : Str → Option Value} {base : Heap} {k : Nat} {f : Addr} {fd : FuncData} {name qual : Str} {params : Arguments} {body : List Stmt} {scope : Scope} {N ps : List Str} {T : Cl} {fb : FGn}
theorem se_data {M : Ms} {H : Hp} {ds : List D} {vs : List V} (mm : ∀ a, M a → Mu (H a)) (dv : DvS K T M H ds vs) : SE K T M (ds.map .dat) (vs.map some) H := by
  have nomut : ∀ (i : Nat) (s : Sl), (ds.map Sl.dat)[i]? = some s → s.mut = true → False := fun i s h mu => by
    rw [List.getElem?_map] at h
    cases e : ds[i]? with
    | none => rw [e] at h; cases h
    | some d => rw [e] at h; cases h; cases mu
  refine ⟨mm, by simp [dv.length], fun i s h => ?_, fun i j s t v h1 m1 _ _ _ _ => (nomut i s h1 m1).elim⟩
  rw [List.getElem?_map] at h
  cases e : ds[i]? with
  | none => rw [e] at h; cases h
  | some d =>
    rw [e] at h
    cases h
    obtain ⟨v, h1, h2⟩ := dv.getD e
    exact ⟨some v, by rw [List.getElem?_map, h1]; rfl, v, rfl, h2⟩
theorem exG {X : Cx} {body : List Stmt} {n : Nat} {asg : List Nat} (h : ∀ F : Fx, F.K = X.K → F.T = T → PaOk F n asg → GSs X body (TGnd F fb)) : GSs X body (fun D ys σ H => ∃ F : Fx, F.K = X.K ∧ F.T = T ∧ PaOk F n asg ∧ TGnd F fb D ys σ H) :=
  ⟨fun A S ip R n ys s₀ c fs K J gd lv s σ H D gc hn k hI ⟨F, h1, h2, h3, ht⟩ => (h F h1 h2 h3).run A S ip R n ys s₀ c fs K J gd lv s σ H D gc hn k hI ht⟩
theorem FunD.gen (Fd : FunD K name qual params body scope [] [] f fd) (S : GScope N ps scope)
    (go : ∀ (cdv : Value) (A : Around) (outer : List Env) (s : Shared) (H : Hp) (E : XK) (pn : List (Addr × Obj)), Room k (A.deeper (envOfC qual scope s.heap.objs.size f cdv)) → ∀ F : Fx, F.K = K → F.T = T → PaOk F 0 [] →
      GSs (gcxOf P w K mg base N qual scope f cdv A outer s H E pn) body (TGnd F fb)) : GFn P w K mg base (k + 1) f fd ps (spY K T ps.length (genD N.length fb)) := by
  obtain ⟨oc, od, dV, kV, doc, pm, an, cdv, ct, osl, rfl, lk, hcd, _, _⟩ := Fd.ex
  have hpl : ps.length ≤ N.length := by have := congrArg List.length S.pre; rw [List.length_take] at this; omega
  refine gfn_of lk hcd S (fun vs H Q E h => h.1) fun A outer s H vs Q E pn hr ⟨hv, M, ds, out, mm, dv, hg, q⟩ => ⟨_, exG (go cdv A outer s H E pn hr), ?_⟩
  have hvl : vs.length ≤ N.length := by rw [hv]; exact hpl
  have S0 := se_data mm dv
  have S1 := se_start S0 (N := N) hvl
  rw [List.length_map] at S1
  have nomut : ∀ (i : Nat) (s : Sl), (ds.map Sl.dat ++ List.replicate (N.length - ds.length) Sl.un)[i]? = some s → s.mut = true → False := fun i s h mu => by
    by_cases hi : i < ds.length
    · rw [List.getElem?_append_left (by simpa using hi), List.getElem?_map] at h
      cases e : ds[i]? with
      | none => rw [e] at h; cases h
      | some d => rw [e] at h; cases h; cases mu
    · rw [List.getElem?_append_right (by simpa using hi), List.getElem?_replicate] at h
      split at h
      · cases h; cases mu
      · cases h
  have nomad : ∀ a, ¬ Mad (ds.map Sl.dat ++ List.replicate (N.length - ds.length) Sl.un) (L2.start N vs) a := fun a ⟨i, s, h, mu, _⟩ => nomut i s h mu
  have R0 := S1.enter
  have nopa : ∀ p, p ∉ (subF K T M (ds.map Sl.dat ++ List.replicate (N.length - ds.length) Sl.un) (L2.start N vs) H).pa := fun p hp => by
    obtain ⟨s, h1, m, _⟩ := mem_mads.mp hp
    exact nomut p.1 s h1 m
  unfold genD genOut at hg
  have fin : ∀ (M' : Ms) (ρ' : Ev) (ys' : List V) (σ' : Sg) (H' : Hp), ER (subF K T M (ds.map Sl.dat ++ List.replicate (N.length - ds.length) Sl.un) (L2.start N vs) H) M' ρ' σ' H' → DvS K T M' H' out ys' → Q ys' H' := fun M' ρ' ys' σ' H' R' dv' =>
    q ys' H' (fun a o e => R'.kp a o e fun z => nomad a (subF_P.mp z)) (DvS.less R'.m0 out dv')
  cases e1 : fb [] (ds.map Sl.dat ++ List.replicate (N.length - ds.length) Sl.un) with
  | none => rw [e1] at hg; cases hg
  | some pw =>
    obtain ⟨w1, ds', ρ'⟩ := pw
    rw [e1] at hg
    refine ⟨_, rfl, rfl, ⟨fun p hp => (nopa p hp).elim, fun p hp => (nopa p hp).elim⟩, M, _, [], w1, ds', ρ', R0, DvS.nil, e1, fun M' ys' σ' H' R' st' dv' => ?_⟩
    cases w1 with
    | nx => cases hg; exact fin M' ρ' ys' σ' H' R' dv'
    | rt d =>
      cases d with
      | non => cases hg; exact fun v z => ⟨z, fin M' ρ' ys' σ' H' R' dv'⟩
      | _ => cases hg
    | bk => cases hg
    | ct => cases hg
structure Gen1 (P : Program) (w : World) (K : PySem.W.Frag) (mg : Str → Option Value) (base : Heap) (T : Cl) (k : Nat) (f : Addr) (ps : List Str) (g : List D → Option (List D)) : Prop where
  ex : ∃ fd, Binds K fd ps [] ∧ GFn P w K mg base k f fd ps (spY K T ps.length g)
  kp : PySem.W.keepIn K (.ref f) = true
theorem FunD.gen1 (Fd : FunD K name qual params body scope [] [] f fd) (S : GScope N ps scope)
    (hb : ∀ (kV doc pm : Value) (an : Option Addr) (cdv ct : Value) (us : List Value), us.length = ps.length → bindArgs (PySem.W.fnOf name qual params body scope .none kV doc pm an cdv ct) ⟨us, []⟩ = pure (ps.zip us))
    (go : ∀ (cdv : Value) (A : Around) (outer : List Env) (s : Shared) (H : Hp) (E : XK) (pn : List (Addr × Obj)), Room k (A.deeper (envOfC qual scope s.heap.objs.size f cdv)) → ∀ F : Fx, F.K = K → F.T = T → PaOk F 0 [] →
      GSs (gcxOf P w K mg base N qual scope f cdv A outer s H E pn) body (TGnd F fb)) : Gen1 P w K mg base T (k + 1) f ps (genD N.length fb) :=
  ⟨⟨fd, Fd.bindsN hb, FunD.gen Fd S go⟩, Fd.kp⟩
end
section
variable {X : Cx} {F : Fx} {T : Cl} {j k n : Nat} {f : Addr} {ps : List Str} {g : List D → Option (List D)} {x y : Str} {p p2 pos pos2 : Pos} {e : Expr} {es : List Expr} {fa : FA}
def nGen (g : List D → Option (List D)) (fa : FA) : FN := fun ρ => match fa ρ with
  | none => none
  | some (os, ρ1) => match datAll os with
    | none => none
    | some ds => match g ds with
      | some out => some (out, ρ1)
      | none => none
theorem nostop0 {K : PySem.W.Frag} : NoStop K fun _ _ _ => False := fun _ _ _ z => False.elim z
theorem passesX {X : Cx} : Passes (CX X.prog X.w) X fun _ _ _ => False := fun _ _ _ _ _ _ _ ⟨_, _, _, _, _, _, _, _, _, _, _, _, z⟩ => False.elim z
theorem dn_gen (hK : F.K = X.K) (hT : F.T = T) (G1 : Gen1 X.prog X.w X.K X.mg X.base T j f ps g) (hr : Room k X.A) (hjk : j + 3 ≤ k) (hg : Gl X x) (hm : X.mg x = none) (hv : bootBuiltins x = some (.type "list")) (hn : x ≠ "__name__") (hdb : (x == ("__debug__" : Str)) = false)
    (hgy : Gl X y) (hmy : X.mg y = some (.ref f)) (ha : PA X (e :: es) (TAd F fa)) (hl : FaLen fa n) (hln : n = ps.length) (hdby : (y == ("__debug__" : Str)) = false) (he : starEach (e :: es) X.env = (false, eval e X.env) :: starEach es X.env) (hpl : (backTo pos2 (starEach es X.env)).any (·.1) = false)
    (he2 : starEach [.Call (.Name y p2) (e :: es) [] pos2] X.env = (false, eval (.Call (.Name y p2) (e :: es) [] pos2) X.env) :: starEach [] X.env) : PE X (.Call (.Name x p) [.Call (.Name y p2) (e :: es) [] pos2] [] pos) (TEn F (nGen g fa)) := by
  subst hT
  obtain ⟨⟨fd, hb, Fn⟩, kp⟩ := G1
  obtain ⟨K, T, M0, pa, H0⟩ := F
  cases hK
  have hrj : Room j X.A := hr.mono (by omega)
  refine PE.imp (pe_listG (pgen_call (E := fun _ _ _ => False) (dvs := []) Fn hrj hgy hmy kp hb .nil ha hdby he hpl) passesX nostop0 (hr.mono hjk) hg hm hv hn hdb he2) ?_
  rintro σ H Q ⟨M, ρ, out, ρ', R, hf, q⟩
  unfold nGen at hf
  cases e1 : fa ρ with
  | none => rw [e1] at hf; cases hf
  | some p1 =>
    obtain ⟨os, ρ1⟩ := p1
    rw [e1] at hf
    simp only at hf
    cases e2 : datAll os with
    | none => rw [e2] at hf; cases hf
    | some ds =>
      rw [e2] at hf
      simp only at hf
      cases e3 : g ds with
      | none => rw [e3] at hf; cases hf
      | some o =>
        rw [e3] at hf
        cases hf
        refine ⟨M, ρ, os, _, R, e1, fun vs M1 H1 s1 R1 k1 ok1 => ?_⟩
        have dv := OpdsOk.datAll ok1 e2
        refine ⟨?_, M1, ds, _, R1.mm, by rw [List.append_nil]; exact dv, e3, fun ys H2 ex dvy p hp => ?_⟩
        · rw [List.append_nil, ← hln, ← hl.eq _ _ _ e1]
          exact (Paired.length ok1).symm
        · obtain ⟨R2, n2⟩ := (R1.ext ex).newLst (k1.trans ex.keep) s1 hp dvy
          exact q p _ _ (fun a z => z.imp (s1 a) id) R2 (k1.trans (ex.trans (Ext.new hp)).keep) n2
end
end SC

set_option Elab.async false
set_option linter.all false
set_option maxRecDepth 100000
namespace SC
open PySem PySem.Spec PyProof.Rows L2

/-! ### repr -/
def dRepr : List D → Option D
  | [d] => match d with
    | .tup _ | .lst _ => match toP d with
      | some p => if p.showable && (!p.hasDict && (decide (p.depth ≤ 60) && decide (p.shown.length ≤ sLn))) then some (.str p.shown) else none
      | none => none
    | _ => none
  | _ => none
section
variable {X : Cx} {F : Fx}
theorem cd_repr (hK : F.K = X.K) (gd : X.A.guards = some []) (hu : X.A.units + 64 < cLine) : CallR X (.builtin "repr") (rCs F dRepr) := by
  obtain ⟨K, T, M0, pa, H0⟩ := F
  cases hK
  intro pins s σ H xs us Q I rv ⟨M, ds, r, hm, hx, g, q⟩
  unfold dRepr at g
  split at g
  case h_2 => cases g
  case h_1 d =>
  have key : ∃ p, toP d = some p ∧ (p.showable && (!p.hasDict && (decide (p.depth ≤ 60) && decide (p.shown.length ≤ sLn)))) = true ∧ r = .str p.shown ∧ ((∃ l, d = .tup l) ∨ ∃ l, d = .lst l) := by
    split at g
    · rename_i l
      split at g
      · rename_i p hp
        split at g
        · rename_i hc; cases g; exact ⟨p, hp, hc, rfl, .inl ⟨l, rfl⟩⟩
        · cases g
      · cases g
    · rename_i l
      split at g
      · rename_i p hp
        split at g
        · rename_i hc; cases g; exact ⟨p, hp, hc, rfl, .inr ⟨l, rfl⟩⟩
        · cases g
      · cases g
    · cases g
  obtain ⟨p, hp, hc, rfl, hd⟩ := key
  simp only [Bool.and_eq_true, Bool.not_eq_true', decide_eq_true_eq] at hc
  obtain ⟨c1, c2, c3, c4⟩ := hc
  obtain ⟨v, rfl, hv⟩ := paired1 hx
  obtain ⟨u, rfl, ru⟩ := rv.one
  have href : ∃ a, v = .ref a := by
    rcases hd with ⟨l, rfl⟩ | ⟨l, rfl⟩
    · obtain ⟨a, _, e, _⟩ := hv.tup; exact ⟨a, e⟩
    · obtain ⟨a, _, e, _⟩ := hv.lst; exact ⟨a, e⟩
  obtain ⟨a, rfl⟩ := href
  obtain ⟨as, rd⟩ := Dp.reads I p _ u (hv.dp hp) ru
  have ru0 := ru
  obtain rfl : u = Value.ref a := ru0
  refine repr_of_reads' rd c1 (fun z => by rw [c2] at z; cases z) gd (by omega) (fun b o z => z) (fun h' tk0 tk hk => ?_) (by rw [← sLn_eq]; exact c4)
  exact ⟨.str p.shown, H, I.kept hk, ⟨_, rfl⟩, q _ H Ext.rfl rfl⟩
/-- repr of an instance with a def of its own -/
def rReprI (F : Fx) (c n : Nat) (g : FG) : List V → Hp → VK → Prop := fun vs H Q => ∃ a dx fs, vs = [V.ref a] ∧ H a = some (.ins (F.T.ad c) dx fs) ∧ spD F.K F.T n g [V.ref a] H fun v H' => ∃ z : Str, v = .str z ∧ Q (.str z) H'
theorem cd_reprI {c k : Nat} {f : Addr} {fd : FuncData} {ps : List Str} {g : FG} (hK : F.K = X.K) (hs : Sp1 X.K (F.T.ad c) "__repr__" f) (Fn : FnOk X.prog X.w X.K X.mg X.base CX0 k f fd ps (spO X.K F.T ps.length g)) (hr : Room (k + 1) X.A) (hb : Binds X.K fd ps []) : CallR X (.builtin "repr") (rReprI F c ps.length g) := by
  obtain ⟨K, T, M0, pa, H0⟩ := F
  cases hK
  intro pins s σ H xs us Q I rv h
  obtain ⟨a, dx, fs, rfl, ha, sp⟩ := h
  obtain ⟨u, rfl, ru⟩ := rv.one
  have ru0 := ru
  obtain rfl : u = Value.ref a := ru0
  obtain ⟨mA, O, _⟩ := ins_get I.hok ha
  obtain ⟨od, J, _⟩ := O.look
  obtain ⟨m, fr⟩ := I.fr
  refine PySem.W.repr_K (by have := hr.units; show X.A.units + 1 < cLine; omega) fr I.ok.mod.kin J hs.at_ hs.fn (wpAny_mono (run_in1 Fn hr hb I (vs := [V.ref a]) (.cons ru .nil) sp) ?_ fun _ _ z => z)
  rintro u s2 ⟨v, H2, I2, r2, z, rfl, q⟩
  obtain ⟨t, rfl⟩ := r2
  exact ⟨.str z, H2, I2, ⟨_, rfl⟩, q⟩
def fReprI (c : Nat) (g : FG) (fo : FE) : FE := fun ρ => match fMeth c g [] fo fNil ρ with
  | some (.dat (.str z), ρ1) => some (.dat (.str z), ρ1)
  | _ => none
variable {x : Str} {p pos : Pos} {e : Expr} {fo : FE} {c j k : Nat} {f : Addr} {ps : List Str} {g : FG} {T : Cl}
theorem de_reprI (hK : F.K = X.K) (hT : F.T = T) (hs : Sp1 X.K (T.ad c) "__repr__" f) (D1 : Def1 X.prog X.w X.K X.mg X.base T j f ps g) (hr : Room k X.A) (hjk : j + 1 ≤ k) (hn : 1 = ps.length)
    (hg : Gl X x) (hm : X.mg x = none) (hv : bootBuiltins x = some (.builtin "repr")) (ho : PE X e (TEd F fo)) (hnm : x ≠ "__name__") (hdb : (x == ("__debug__" : Str)) = false)
    (he : starEach [e] X.env = (false, eval e X.env) :: starEach [] X.env) (hpl : (backTo pos (starEach [] X.env)).any (·.1) = false) : PE X (.Call (.Name x p) [e] [] pos) (TEd F (fReprI c g fo)) := by
  subst hT
  obtain ⟨⟨fd, hb, Fn⟩, kp⟩ := D1
  refine PE.imp (pe_callB (cd_reprI hK hs Fn (hr.mono hjk) hb) hg hm hv (pa_cons ho pa_nil he) hnm hdb he hpl) ?_
  rintro σ H Q ⟨M, ρ, r, ρ', R, hf, q⟩
  unfold fReprI at hf
  split at hf
  case h_2 => cases hf
  case h_1 z ρ1 e1 =>
  cases hf
  obtain ⟨o, ρ0, ds, h1, h2, h3⟩ := meth1 e1
  refine one_read ⟨M, ρ, o, ρ0, R, h1, fun v M1 H1 s1 R1 k1 ok1 => ?_⟩
  obtain ⟨a, dx, xs, rfl, ha, hl', dv⟩ := (R1.opd ok1 h2).ins
  refine ⟨a, dx, _, rfl, ha, call_core (dvs := []) (dss := []) (os := [o]) (vs := [V.ref a]) (by simpa using hn) (fun _ _ => rfl) h3 R1 (.cons ok1 .nil) fun v H3 R3 k3 ok3 => ?_⟩
  cases (show v = .str z from ok3)
  exact ⟨z, rfl, q _ M1 H3 s1 R3 (k1.trans (k3.mono s1)) rfl⟩
/-- a class's constant, read at an instance -/
def fCon (c : Nat) (d : D) (fo : FE) : FE := fun ρ => match fo ρ with
  | none => none
  | some (o, ρ1) => match insOf (o.get ρ1) with
    | some (c', _) => if c' = c then some (.dat d, ρ1) else none
    | none => none
theorem de_con {d : D} {v : V} {u : Value} {m : Str} (hK : F.K = X.K) (hT : F.T = T) (ck : CK X.K F.T c) (hc : Con X.K (T.ad c) m v u) (hm : m ∉ F.T.fl c) (hd : ∀ M H, Dv F.K F.T M H d v) (ho : PE X e (TEd F fo)) (hb : attributeBase e m X.env (eval e X.env) = eval e X.env) : PE X (.Attribute e m pos) (TEd F (fCon c d fo)) := by
  subst hT
  obtain ⟨K, T, M0, pa, H0⟩ := F
  cases hK
  refine PE.imp (pe_con ho hb) ?_
  rintro σ H Q ⟨M, ρ, r, ρ', R, hf, q⟩
  unfold fCon at hf
  cases e1 : fo ρ with
  | none => rw [e1] at hf; cases hf
  | some p1 =>
    obtain ⟨o1, ρ1⟩ := p1
    rw [e1] at hf
    simp only at hf
    cases e2 : insOf (o1.get ρ1) with
    | none => rw [e2] at hf; cases hf
    | some p2 =>
      obtain ⟨c', ds⟩ := p2
      rw [e2] at hf
      simp only at hf
      split at hf
      case isFalse => cases hf
      case isTrue hcc =>
      subst hcc
      cases hf
      refine ⟨M, ρ, o1, _, R, e1, fun w M1 H1 s1 R1 k1 ok1 => ?_⟩
      obtain ⟨a, dx, xs, rfl, ha, hl, dv⟩ := (R1.opd ok1 (insOf_some e2)).ins
      exact ⟨a, _, dx, _, v, u, rfl, ha, ck.cls, hc, zip_nolook hm, q v M1 H1 s1 R1 k1 (hd M1 H1)⟩
end
/-! ### f-strings -/
def strOfD : D → Option Str
  | .str y => if y.length ≤ sLn then some y else none
  | .int i => if i.natAbs.log2 < 1920 then some (toString i) else none
  | _ => none
/-- the parts, from the left -/
abbrev FJ := Str → Ev → Option (Str × Ev)
def jNil : FJ := fun acc ρ => some (acc, ρ)
def jLit (z : Str) (r : FJ) : FJ := fun acc ρ => if (acc ++ z).length ≤ sLn then r (acc ++ z) ρ else none
def jFmt (fe : FE) (r : FJ) : FJ := fun acc ρ => match fe ρ with
  | some (.dat d, ρ1) => match strOfD d with
    | some z => if (acc ++ z).length ≤ sLn then r (acc ++ z) ρ1 else none
    | none => none
  | _ => none
def fJoin (j : FJ) : FE := fun ρ => match j Str.empty ρ with
  | some (z, ρ1) => some (.dat (.str z), ρ1)
  | none => none
def TJd (F : Fx) (j : FJ) (acc : Str) : Sg → Hp → (Str → Hp → Prop) → Prop := fun σ H Q => ∃ M ρ z ρ', ER F M ρ σ H ∧ j acc ρ = some (z, ρ') ∧ ∀ M' H', (∀ a, M' a → M a) → ER F M' ρ' σ H' → Keep M H H' → Q z H'
structure JOk (X : Cx) (F : Fx) (es : List Expr) (j : FJ) : Prop where
  ex : ∃ ts, PJ X es ts ∧ ∀ acc σ H Q, TJd F j acc σ H Q → tJs ts acc σ H Q
section
variable {X : Cx} {F : Fx} {es : List Expr} {r : FJ} {e : Expr} {fe : FE} {pos : Pos}
theorem jd_nil : JOk X F [] jNil := ⟨[], .nil, fun acc σ H Q ⟨M, ρ, z, ρ', R, hf, q⟩ => by
  cases hf
  exact q M H (fun _ z => z) R Keep.rfl⟩
theorem jd_lit {z : Str} {k : Nat} (h : JOk X F es r) : JOk X F (.Constant (.str z) k pos :: es) (jLit z r) := by
  obtain ⟨ts, h1, h2⟩ := h
  refine ⟨_ :: ts, .cons pe_str h1, fun acc σ H Q ⟨M, ρ, y, ρ', R, hf, q⟩ => ?_⟩
  unfold jLit at hf
  split at hf
  · rename_i hz
    exact ⟨z, rfl, by rw [← sLn_eq]; exact hz, h2 _ σ H Q ⟨M, ρ, y, ρ', R, hf, q⟩⟩
  · cases hf
theorem jd_fmt (he : PE X e (TEd F fe)) (h : JOk X F es r) : JOk X F (.FormattedValue e (-1) none pos :: es) (jFmt fe r) := by
  obtain ⟨ts, h1, h2⟩ := h
  refine ⟨_ :: ts, .cons (pe_fmt he) h1, fun acc σ H Q ⟨M, ρ, y, ρ', R, hf, q⟩ => ?_⟩
  unfold jFmt at hf
  split at hf
  case h_2 => cases hf
  case h_1 d ρ1 e1 =>
  cases e2 : strOfD d with
  | none => rw [e2] at hf; cases hf
  | some z =>
    rw [e2] at hf
    simp only at hf
    split at hf
    case isFalse => cases hf
    case isTrue hz =>
    refine ⟨M, ρ, _, ρ1, R, e1, fun v M1 H1 s1 R1 k1 ok1 => ?_⟩
    have fin : ∃ y' : Str, V.str z = .str y' ∧ (acc ++ y').length ≤ sizeLine ∧ tJs ts (acc ++ y') σ H1 Q :=
      ⟨z, rfl, by rw [← sLn_eq]; exact hz, h2 _ σ H1 Q ⟨M1, ρ1, y, ρ', R1, hf, fun M2 H2 s2 R2 k2 => q M2 H2 (fun a t => s1 a (s2 a t)) R2 (k1.trans (k2.mono s1))⟩⟩
    unfold strOfD at e2
    split at e2
    · rename_i y0
      split at e2
      · rename_i hy
        cases e2
        exact .inl ⟨z, ok1, by rw [← sLn_eq]; exact hy, fin⟩
      · cases e2
    · rename_i i
      split at e2
      · rename_i hi
        cases e2
        exact .inr ⟨i, ok1, hi, fin⟩
      · cases e2
    · cases e2
theorem de_join {v1 v2 : Expr} {rest : List Expr} {j : FJ} (h : JOk X F (v1 :: v2 :: rest) j) : PE X (.JoinedStr (v1 :: v2 :: rest) pos) (TEd F (fJoin j)) := by
  obtain ⟨ts, h1, h2⟩ := h
  refine PE.imp (pe_joined h1) fun σ H Q ⟨M, ρ, o, ρ', R, hf, q⟩ => ?_
  unfold fJoin at hf
  split at hf
  · rename_i z ρ1 e1
    cases hf
    exact h2 _ σ H _ ⟨M, ρ, z, _, R, e1, fun M' H' s' R' k' => q _ M' H' s' R' k' rfl⟩
  · cases hf
end
end SC

set_option Elab.async false
set_option linter.all false
set_option maxRecDepth 100000
namespace SC
open PySem PySem.Spec PyProof.Rows L2

/-! ### defs with nothing being shown around them -/
structure DefG (P : Program) (w : World) (K : PySem.W.Frag) (mg : Str → Option Value) (base : Heap) (T : Cl) (k : Nat) (f : Addr) (ps : List Str) (g : FG) : Prop where
  ex : ∃ fd, Binds K fd ps [] ∧ FnG P w K mg base k f fd ps (spD K T ps.length g)
  kp : PySem.W.keepIn K (.ref f) = true
theorem Def1.toG {P : Program} {w : World} {K : PySem.W.Frag} {mg : Str → Option Value} {base : Heap} {T : Cl} {k : Nat} {f : Addr} {ps : List Str} {g : FG} (h : Def1 P w K mg base T k f ps g) : DefG P w K mg base T k f ps g := by
  obtain ⟨⟨fd, h1, h2⟩, h3⟩ := h
  exact ⟨⟨fd, h1, FnG.ofOk h2⟩, h3⟩
theorem DefG.T {P : Program} {w : World} {K : PySem.W.Frag} {mg : Str → Option Value} {base : Heap} {T : Cl} {k : Nat} {f : Addr} {ps : List Str} {g : FG} {F : Fx} (h : DefG P w K mg base T k f ps g) (hT : F.T = T) : DefG P w K mg base F.T k f ps g := by rw [hT]; exact h
theorem FunD.defG {P : Program} {w : World} {K : PySem.W.Frag} {mg : Str → Option Value} {base : Heap} {T : Cl} {k : Nat} {f : Addr} {fd : FuncData} {name qual : Str} {params : Arguments} {body : List Stmt} {scope : Scope} {N ps : List Str} {asg : List Nat} {fb : FB}
    (Fd : FunD K name qual params body scope [] [] f fd) (S : FnScope N ps scope)
    (hb : ∀ (kV doc pm : Value) (an : Option Addr) (cdv ct : Value) (us : List Value), us.length = ps.length → bindArgs (PySem.W.fnOf name qual params body scope .none kV doc pm an cdv ct) ⟨us, []⟩ = pure (ps.zip us))
    (go : ∀ (cdv : Value) (A : Around) (outer : List Env) (s : Shared) (H : Hp) (E : XK), Room k (A.deeper (envOfC qual scope s.heap.objs.size f cdv)) → A.guards = some [] → ∀ F : Fx, F.K = K → F.T = T → PaOk F ps.length asg →
      PSs (bodyCx P w K mg base N qual scope f cdv A outer s H E) body (TSd F fb)) : DefG P w K mg base T (k + 1) f ps (fnD N.length asg fb) := by
  have hbn := Fd.bindsN hb
  obtain ⟨oc, od, dV, kV, doc, pm, an, cdv, ct, osl, rfl, lk, hcd, _, _⟩ := Fd.ex
  exact ⟨⟨_, hbn, FnG.ofD lk hcd S (go cdv)⟩, Fd.kp⟩
section
variable {X : Cx} {F : Fx} {j k : Nat} {f : Addr} {ps : List Str} {g : FG} {x : Str} {p pos : Pos} {e : Expr} {es : List Expr} {fa : FA} {n : Nat}
theorem de_callG (hK : F.K = X.K) (D1 : DefG X.prog X.w X.K X.mg X.base F.T j f ps g) (gd : X.A.guards = some []) (hr : Room k X.A) (hjk : j ≤ k) (hg : Gl X x) (hm : X.mg x = some (.ref f)) (ha : PA X (e :: es) (TAd F fa)) (hl : FaLen fa n) (hn : n = ps.length) (hdb : (x == ("__debug__" : Str)) = false)
    (he : starEach (e :: es) X.env = (false, eval e X.env) :: starEach es X.env) (hpl : (backTo pos (starEach es X.env)).any (·.1) = false) : PE X (.Call (.Name x p) (e :: es) [] pos) (TEd F (fCall g [] fa)) := by
  obtain ⟨⟨fd, hb, Fn⟩, kp⟩ := D1
  exact de_call (dss := []) (dvs := []) hK Fn (hr.mono hjk) gd hg hm kp hb .nil (fun _ _ => rfl) ha hl (by simpa using hn) hdb he hpl
theorem de_callG0 (hK : F.K = X.K) (D1 : DefG X.prog X.w X.K X.mg X.base F.T j f ps g) (gd : X.A.guards = some []) (hr : Room k X.A) (hjk : j ≤ k) (hg : Gl X x) (hm : X.mg x = some (.ref f)) (hn : 0 = ps.length) (hdb : (x == ("__debug__" : Str)) = false) : PE X (.Call (.Name x p) [] [] pos) (TEd F (fCall g [] fNil)) := by
  obtain ⟨⟨fd, hb, Fn⟩, kp⟩ := D1
  exact de_call0 (dss := []) (dvs := []) hK Fn (hr.mono hjk) gd hg hm kp hb .nil (fun _ _ => rfl) (by simpa using hn) hdb
end
theorem bt_repr : bootBuiltins "repr" = some (.builtin "repr") := by decide +kernel
/-- a def that promises nothing -/
theorem Def1.zero {P : Program} {w : World} {K : PySem.W.Frag} {mg : Str → Option Value} {base : Heap} {T : Cl} {k : Nat} {f : Addr} {fd : FuncData} {name qual : Str} {params : Arguments} {body : List Stmt} {scope : Scope} {ps : List Str}
    (Fd : FunD K name qual params body scope [] [] f fd)
    (hb : ∀ (kV doc pm : Value) (an : Option Addr) (cdv ct : Value) (us : List Value), us.length = ps.length → bindArgs (PySem.W.fnOf name qual params body scope .none kV doc pm an cdv ct) ⟨us, []⟩ = pure (ps.zip us)) : Def1 P w K mg base T k f ps fun _ => none :=
  ⟨⟨fd, Fd.bindsN hb, ⟨fun vs H Q E h => h.1, fun A outer s H args us vs Q E hr e0 hb' rv ⟨_, _, _, _, _, _, z, _⟩ => by cases z⟩⟩, Fd.kp⟩

/-! ### the law's end -/
theorem law_callG {P : Program} {w : World} {K : PySem.W.Frag} {mg mb : Str → Option Value} {k : Nat} {fa a : Addr} {fd : FuncData} {x : Str} {sp : SpG} {sh : Shared} {vs : List Value} {ns : List Int}
    (kin : K.In sh.heap) (gl : sh.heap.Ns mainGlobals mg) (bl : sh.heap.Ns builtinsNs mb) (bb : ∀ x : Str, x ≠ "__name__" → mb x = bootBuiltins x) (nolim : sh.heap.NoLimit) (nogen : sh.gens = #[])
    (ha : sh.heap.get? a = some { cls := .type "list", data := .seq vs.toArray }) (allInts : IntsAre vs ns) (few : ns.length ≤ sizeLine) (hr : Room k callerA)
    (Fn : ∀ base : Heap, K.In base → base.Ns mainGlobals mg → FnG P w K mg base k fa fd [x] sp) (bind : ∀ (s : Shared) (u : Value), BindsTo s fd ⟨[u], []⟩ [(x, u)])
    (hsp : ∀ H : Hp, SqF K H a (ns.map V.int) → sp [.ref a] H fun v _ => v = .bl true) :
    codeAny (model P w) callerA (.call (.ref fa) ⟨[.ref a], []⟩) (fun r s' => r = .ok (.ret (.bool true)) ∧ OldK sh.heap s'.heap ∧ s'.os = sh.os ∧ AllBare s'.gens) sh := by
  have vl := vals_ints allInts
  have len := allInts.length
  -- the abstract heap: the script alone, where it is none of the written part
  obtain ⟨H, h1, h2, h3, h4⟩ : ∃ H : Hp, SqF K H a (ns.map V.int) ∧ HOk P w H sh.heap ∧ (∀ b, H b = none ∨ (b = a ∧ ∃ o u, H b = some (.frz o u))) ∧ (H a ≠ none → K.lookup a = none) := by
    cases lk : K.lookup a with
    | some o =>
      refine ⟨fun _ => none, .inr ⟨o, ?_⟩, fun b u z => (by cases z), fun b => .inl rfl, fun z => absurd rfl z⟩
      have e := kin a o lk
      rw [ha] at e
      cases e
      exact ⟨vs.toArray, _, lk, rfl, rfl, rfl, by rw [List.size_toArray, len]; exact few, by simpa using vl⟩
    | none =>
      let o : Obj := { cls := .type "list", data := .seq vs.toArray }
      refine ⟨upd (fun _ => none) a (.frz o (.lst (ns.map V.int))), .inl ⟨o, upd_same⟩, fun b u z => ?_, fun b => ?_, fun _ => rfl⟩
      · by_cases e : b = a
        · subst e
          rw [upd_same] at z
          cases z
          exact ⟨ha, by rw [List.length_map]; exact few, vs, _, vl, ha⟩
        · rw [upd_ne e] at z; cases z
      · by_cases e : b = a
        · subst e; exact .inr ⟨rfl, _, _, upd_same⟩
        · exact .inl (upd_ne e)
  have dictFree : ∀ {b : Addr} {o : Obj} {es : Array DictEntry} {n : Nat}, sh.heap.get? b = some o → o.data = .dict es n → H b = none := fun {b o es n} e d => by
    rcases h3 b with z | ⟨rfl, _⟩
    · exact z
    · rw [ha] at e
      cases e
      cases (show Data.seq vs.toArray _ = Data.dict es n from d)
  have space : ∀ {b : Addr} {m : Str → Option Value}, sh.heap.Ns b m → (hidT sh.heap H).Ns b m := fun {b m} ⟨o, es, n, e, d, r⟩ => ⟨o, es, n, hidT_get e (dictFree e d), d, r⟩
  have kb : K.In (hidT sh.heap H) := fun b o e => by
    refine hidT_get (kin b o e) ?_
    rcases h3 b with z | ⟨rfl, _, _, z⟩
    · exact z
    · rw [h4 (by rw [z]; exact fun q => by cases q)] at e; cases e
  have env : Env0 P w K mg (hidT sh.heap H) callerA [] sh H := by
    refine ⟨rfl, ⟨kb, space gl, ⟨mb, space bl, bb⟩, ?_⟩, fun b o e => of_hidT e, Nat.le_of_eq (hidT_size _ _), trivial, fun b z => (by cases z), h2, .of_eq nogen⟩
    obtain ⟨mc, c1, c2⟩ := nolim
    exact ⟨mc, space c1, c2⟩
  refine codeAny_mono ((Fn _ kb (space gl)).run callerA [] sh H ⟨[.ref a], []⟩ [.ref a] [.ref a] _ hr rfl env (bind sh (.ref a)) (.cons rfl .nil) (hsp H h1)) ?_
  rintro r s2 ⟨u, rfl, v, H2, os, bare, un, ok2, ru, ev⟩
  have ev' : v = .bl true := ev
  subst ev'
  obtain rfl : u = Value.bool true := ru
  refine ⟨rfl, OldK.of_keep fun b o e => ?_, os, bare⟩
  rcases h3 b with z | ⟨_, ob, q, z⟩
  · exact un.keep b o e z (fun y => by cases y) (fun y => by cases y)
  · have c1 : sh.heap.get? b = some ob := (h2 b _ z).1
    have c2 : s2.heap.get? b = some ob := (ok2 b _ (un.frzs b ob _ z)).1
    rw [c1] at e
    cases e
    exact c2
theorem walk_G {l : PySem.W.OpenLaw} {n k : Nat} {q : Program} {loose : List Str} {XP : (Str → Option Value) → Heap → Prop} {YP : World → Heap → Prop} {d : DefRec} {x : Str}
    (hn : l.most = some n) (hn2 : n ≤ sizeLine) (hdf : d.params.defaults = []) (hr : Room k callerA)
    (Fn : ∀ (w : World) (mg : Str → Option Value) (fa : Addr) (h : Heap), YP w h → h.Ns mainGlobals mg → mg d.name = some (.ref fa) →
      ∃ (K : PySem.W.Frag) (fd : FuncData) (sp : SpG), K.In h ∧ (∀ (s : Shared) (u : Value), BindsTo s fd ⟨[u], []⟩ [(x, u)]) ∧
        (∀ (H : Hp) (a : Addr) (ns : List Int), ns.length ≤ n → SqF K H a (ns.map V.int) → sp [.ref a] H fun v _ => v = .bl true) ∧
        ∀ base : Heap, K.In base → base.Ns mainGlobals mg → FnG l.prog w K mg base k fa fd [x] sp) :
    PySem.W.WalkO q loose XP YP l.row.toRowW d [] (fun f vs => PySem.call f vs) := by
  refine Att.attach_call hn hdf fun w s₀ s₁ mg mb fa o pm cd doc a vs ns G Y ho hd hcd hmg hobj hints hlen hg => ?_
  obtain ⟨K, fd, sp, kin, hb, hsp, hF⟩ := Fn w mg fa _ Y G.T.g hmg
  exact law_callG kin G.T.g G.T.b G.T.builtins G.T.nolimit hg hobj hints (Nat.le_trans hlen hn2) hr hF hb fun H hS => hsp H a ns hlen hS
theorem FunD.fnG {P : Program} {w : World} {K : PySem.W.Frag} {mg : Str → Option Value} {base : Heap} {T : Cl} {k : Nat} {f : Addr} {fd : FuncData} {name qual : Str} {params : Arguments} {body : List Stmt} {scope : Scope} {N ps : List Str} {asg : List Nat} {fb : FB}
    (Fd : FunD K name qual params body scope [] [] f fd) (S : FnScope N ps scope)
    (go : ∀ (cdv : Value) (A : Around) (outer : List Env) (s : Shared) (H : Hp) (E : XK), Room k (A.deeper (envOfC qual scope s.heap.objs.size f cdv)) → A.guards = some [] → ∀ F : Fx, F.K = K → F.T = T → PaOk F ps.length asg →
      PSs (bodyCx P w K mg base N qual scope f cdv A outer s H E) body (TSd F fb)) : FnG P w K mg base (k + 1) f fd ps (spD K T ps.length (fnD N.length asg fb)) := by
  obtain ⟨oc, od, dV, kV, doc, pm, an, cdv, ct, osl, rfl, lk, hcd, _, _⟩ := Fd.ex
  exact FnG.ofD lk hcd S (go cdv)
/-- the law's promise at the script -/
theorem law_sp {K : PySem.W.Frag} {T : Cl} {g : FG} {H : Hp} {a : Addr} {ns : List Int} (h : ∃ o, g [.dat (.scr ns)] = some (.bl true, o)) (sq : SqF K H a (ns.map V.int)) : spD K T 1 g [.ref a] H fun v _ => v = .bl true := by
  obtain ⟨o, h⟩ := h
  exact ⟨rfl, fun _ => False, [.dat (.scr ns)], .bl true, o, se_data (ds := [.scr ns]) (vs := [.ref a]) (fun _ z => z.elim) (DvS.cons ⟨a, rfl, sq⟩ DvS.nil), h, fun v H' _ _ dv => dv⟩
end SC

set_option Elab.async false
set_option linter.all false
set_option maxRecDepth 100000
namespace SC
open PySem PySem.Spec PyProof.Rows L2

/-! ### more single facts, told by Bools -/
theorem clsB_ok {K : PySem.W.Frag} {T : Cl} {c : Nat} {x : Str} {fl : List Str} (h : clsB x fl K = true) (ha : T.ad c = He.ga K x) (hf : T.fl c = fl) (nd : fl.Nodup) (few : fl.length < 1000) : CK K T c := by
  obtain ⟨h1, h2⟩ := Bool.and_eq_true_iff.mp (show (_ && _) = true from h)
  refine ⟨by rw [ha]; exact He.cls_ok h1, by rw [hf]; exact nd, fun f hm => ?_, by rw [hf]; exact few⟩
  rw [ha]
  rw [hf] at hm
  exact He.noat_ok (List.all_eq_true.mp h2 f hm)
theorem callOB_ok {K : PySem.W.Frag} {x : Str} (h : callOB x K = true) : StX.CallO K (He.ga K x) (He.ma K (He.ga K x) "__call__") := by
  obtain ⟨h1, h2⟩ := Bool.and_eq_true_iff.mp (show (_ && _) = true from h)
  obtain ⟨h3, h4⟩ := Bool.and_eq_true_iff.mp h2
  exact ⟨of_decide_eq_true h1, h3, h4⟩
theorem tyB_ok {K : PySem.W.Frag} {x : Str} (h : tyB x K = true) : TyC K (He.ga K x) := by
  obtain ⟨h1, h2⟩ := Bool.and_eq_true_iff.mp (show (_ && _) = true from h)
  obtain ⟨h3, h4⟩ := Bool.and_eq_true_iff.mp h2
  obtain ⟨h5, h6⟩ := Bool.and_eq_true_iff.mp h4
  exact ⟨of_decide_eq_true h1, of_decide_eq_true h3, of_decide_eq_true h5, of_decide_eq_true h6⟩
theorem iscB_ok {K : PySem.W.Frag} {T : Cl} {x : Str} {cs : List (Nat × Str × Bool)} {kn is : List Nat} (h : iscB x cs K = true) (ha : ∀ p ∈ cs, T.ad p.1 = He.ga K p.2.1) (hk : kn = cs.map (·.1)) (hi : ∀ p ∈ cs, is.contains p.1 = p.2.2) : IsC K T (He.ga K x) kn is := by
  obtain ⟨h1, h2⟩ := Bool.and_eq_true_iff.mp (show (_ && _) = true from h)
  refine ⟨fun t ht => of_decide_eq_true (List.all_eq_true.mp h1 t ht), fun c a dx fs H hc e => ?_⟩
  rw [hk, List.contains_iff_mem] at hc
  obtain ⟨p, hp, rfl⟩ := List.mem_map.mp hc
  obtain ⟨g1, g2⟩ := Bool.and_eq_true_iff.mp (List.all_eq_true.mp h2 p hp)
  obtain ⟨g3, g4⟩ := Bool.and_eq_true_iff.mp g2
  obtain ⟨t1, t2, t3, t4⟩ := tyB_ok g3
  rw [ha p hp] at e
  exact ⟨.ref (He.ga K p.2.1), .base (.ins e (He.cls_ok g1) t1 t2 t3 t4), by rw [hi p hp]; exact of_decide_eq_true g4⟩
theorem tupN_ok {K : PySem.W.Frag} {x : Str} {ns : List Int} (h : tupN x ns K = true) (H : Hp) : SqT K H (He.ga K x) (ns.map V.int) := by
  have := He.tupB_ok h H
  rw [List.map_map] at this
  exact this
end SC

set_option Elab.async false
set_option linter.all false
set_option maxRecDepth 100000
namespace SC
open PySem PySem.Spec PyProof.Rows L2

/-! ### methods of texts, with one argument -/
abbrev SM := Str → D → Option D
def MsD (X : Cx) (F : Fx) (id : String) (g : SM) : Prop := ∃ r, MtR X id r ∧ ∀ (M : Ms) (H : Hp) (z : Str) (v : V) (d y : D) (Q : VK), (∀ b, M b → Mu (H b)) → Do F.K F.T M H d v → g z d = some y → (∀ u H', Ext H H' → Dv F.K F.T M H' y u → Q u H') → r (.str z) [v] H Q
def smStarts : SM := fun z d => match d with
  | .str b => some (.bl (Txt.startswith z b))
  | _ => none
def smEnds : SM := fun z d => match d with
  | .str b => some (.bl (Txt.endswith z b))
  | _ => none
def strsD : List D → Option (List Str)
  | [] => some []
  | .str z :: r => (strsD r).map (z :: ·)
  | _ :: _ => none
theorem strsD_some : ∀ {ds : List D} {zs : List Str}, strsD ds = some zs → ds = zs.map .str
  | [], _, h => by cases h; rfl
  | .str i :: r, ns, h => by
    simp only [strsD, Option.map_eq_some_iff] at h
    obtain ⟨l, h1, rfl⟩ := h
    rw [strsD_some h1]; rfl
  | .non :: _, _, h => by cases h
  | .bl _ :: _, _, h => by cases h
  | .int _ :: _, _, h => by cases h
  | .tup _ :: _, _, h => by cases h
  | .lst _ :: _, _, h => by cases h
  | .ins _ _ :: _, _, h => by cases h
  | .dic _ _ :: _, _, h => by cases h
  | .scr _ :: _, _, h => by cases h
  | .cl _ :: _, _, h => by cases h
def seqS : D → Option (List Str)
  | .lst ds => strsD ds
  | .tup ds => strsD ds
  | _ => none
def smJoin : SM := fun z d => match seqS d with
  | some ys => if (ys.map (·.length)).sum + ys.length * z.length ≤ 16777216 then some (.str (Txt.join z ys)) else none
  | none => none
def smSplit : SM := fun z d => match d with
  | .str b => if (b.length == 0) = false ∧ z.length + 2 ≤ sLn then some (.lst ((Txt.split z b).map .str)) else none
  | _ => none
section
variable {X : Cx} {F : Fx}
theorem ms_starts : MsD X F "str.startswith" smStarts := ⟨_, mt_startswith, fun M H z v d y Q mm hv hg q => by
  unfold smStarts at hg
  split at hg
  · rename_i b
    cases hg
    exact ⟨z, b, rfl, by rw [hv.str], q _ H Ext.rfl rfl⟩
  · cases hg⟩
theorem ms_ends : MsD X F "str.endswith" smEnds := ⟨_, mt_endswith, fun M H z v d y Q mm hv hg q => by
  unfold smEnds at hg
  split at hg
  · rename_i b
    cases hg
    exact ⟨z, b, rfl, by rw [hv.str], q _ H Ext.rfl rfl⟩
  · cases hg⟩
theorem ms_join (hK : F.K = X.K) : MsD X F "str.join" smJoin := ⟨_, mt_join, fun M H z v d y Q mm hv hg q => by
  unfold smJoin at hg
  cases e : seqS d with
  | none => rw [e] at hg; cases hg
  | some ys =>
    rw [e] at hg
    simp only at hg
    split at hg
    case isFalse => cases hg
    case isTrue hz =>
    cases hg
    unfold seqS at e
    split at e
    · rename_i ds
      obtain ⟨a, xs, rfl, ha, dv⟩ := hv.lst
      rw [strsD_some e] at dv
      have ex := dv.strs
      subst ex
      exact ⟨z, a, ys, rfl, rfl, .inl (SqL.of ha), hz, q _ H Ext.rfl rfl⟩
    · rename_i ds
      obtain ⟨a, xs, rfl, ha, dv⟩ := hv.tup
      rw [strsD_some e] at dv
      have ex := dv.strs
      subst ex
      rw [hK] at ha
      exact ⟨z, a, ys, rfl, rfl, .inr ha, hz, q _ H Ext.rfl rfl⟩
    · cases e⟩
theorem ms_split : MsD X F "str.split" smSplit := ⟨_, mt_split, fun M H z v d y Q mm hv hg q => by
  unfold smSplit at hg
  split at hg
  · rename_i b
    split at hg
    case isFalse => cases hg
    case isTrue hz =>
    cases hg
    refine ⟨z, b, rfl, by rw [hv.str], hz.1, by rw [← sLn_eq]; exact hz.2, fun p hp => ?_⟩
    have np : ¬ M p := fun m => by have := mm p m; rw [hp] at this; exact this
    exact q _ _ (Ext.new hp) (Dv.newLst (DvS.of_strs _) hp np)
  · cases hg⟩
def fSM (g : SM) (fo fe : FE) : FE := fun ρ => match fo ρ with
  | some (.dat (.str z), ρ1) => match fe ρ1 with
    | none => none
    | some (o, ρ2) => match o.get ρ2 with
      | none => none
      | some d => match g z d with
        | some y => some (.dat y, ρ2)
        | none => none
  | _ => none
variable {pos cpos apos : Pos} {o e : Expr} {fo fe : FE} {name : Str} {id : String} {g : SM}
theorem de_sm (slot : Slot "str" name id) (hty : typeOf (.builtin id) = pure (.type "method_descriptor")) (hm : MsD X F id g) (ho : PE X o (TEd F fo)) (ha : PE X e (TEd F fe)) (hbase : attributeBase o name X.env (eval o X.env) = eval o X.env)
    (hfew : ((backTo cpos (starEach [e] X.env)).all (fun x => !x.1) && (backToKw cpos (keywordEach [] X.env)).all (fun x => x.1.isSome)
      && decide (([e] : List Expr).length + ([] : List Keyword).length + (if ([] : List Keyword).isEmpty then 0 else 1) < 30)) = true)
    (hline : (apos.endLine == cpos.line) = true) (hs : starEach [e] X.env = (false, eval e X.env) :: starEach [] X.env) (hplain : (backTo cpos (starEach [] X.env)).any (·.1) = false) :
    PE X (.Call (.Attribute o name apos) [e] [] cpos) (TEd F (fSM g fo fe)) := by
  obtain ⟨r, hr, hsp⟩ := hm
  refine PE.imp (pe_bm PySem.F.plainAttrs_str slot hty hr ho (pa_cons ha pa_nil hs) hbase hfew hline hs hplain) ?_
  rintro σ H Q ⟨M, ρ, r', ρ', R, hf, q⟩
  unfold fSM at hf
  split at hf
  case h_2 => cases hf
  case h_1 z ρ1 e1 =>
  cases e2 : fe ρ1 with
  | none => rw [e2] at hf; cases hf
  | some p2 =>
    obtain ⟨o2, ρ2⟩ := p2
    rw [e2] at hf
    simp only at hf
    cases e3 : o2.get ρ2 with
    | none => rw [e3] at hf; cases hf
    | some d =>
      rw [e3] at hf
      simp only at hf
      cases e4 : g z d with
      | none => rw [e4] at hf; cases hf
      | some y =>
        rw [e4] at hf
        cases hf
        refine ⟨M, ρ, _, ρ1, R, e1, fun x M1 H1 s1 R1 k1 ok1 => ?_⟩
        cases (show x = .str z from ok1)
        refine ⟨rfl, M1, ρ1, o2, _, R1, e2, fun v M2 H2 s2 R2 k2 ok2 => ?_⟩
        exact hsp M2 H2 z v d y Q R2.mm (R2.opd ok2 e3) e4 fun u H3 ex dv => q u M2 H3 (fun a t => s1 a (s2 a t)) (R2.ext ex) (k1.trans ((k2.trans ((ex.keep (M := M2)).mono s2)).mono s1)) dv
end
end SC

set_option Elab.async false
set_option linter.all false
set_option maxRecDepth 100000
namespace SC
open PySem PySem.Spec PyProof.Rows L2

/-! ### sorted, whole numbers -/
section
variable {prog : Program} {w : World} {A : Around} {E : Value → Shared → Prop} {s : Shared}
theorem srt_tup {l : Addr} {o : Obj} {n : Nat} {vs : List Value} {ns : List Int} {Q : Value → Shared → Prop} (ho : s.heap.get? l = some o) (hc : o.cls = .type "tuple") (hd : o.data = .seq vs.toArray n) (hz : vs.length ≤ sizeLine) (hI : IntsAre vs ns)
    (h : ∀ (h' : Heap) (d : Addr) (out : List Value), SrtO.Srtd SrtO.ltIv out → SrtO.Stb SrtO.ltIv out vs → s.heap.get? d = none → (∃ h1 : Heap, (∀ b o, s.heap.get? b = some o → h1.get? b = some o) ∧ h1.objs.size ≤ d) → (∀ b o, s.heap.get? b = some o → h'.get? b = some o) → (∃ n, h'.get? d = some (seqObj "list" out.toArray n)) → Q (.ref d) { s with heap := h' }) :
    wpAny (model prog w) A (call (.builtin "sorted") [.ref l]) Q E s := by
  apply Calls.call_function_entry kind_sorted plain_sorted entry_sorted (args_sorted1 _)
  unfold Builtin.«sorted»
  apply wpAny_bind (m := checkCount "sorted" 1 1 _)
  apply wpAny_pure
  refine wpAny_bind (wpAny_collect_seq l (.inr rfl) ho hc hd (fun h1 kp => ?_) (by rw [List.size_toArray]; exact hz))
  have fresh : s.heap.get? h1.objs.size = none := by
    cases e : s.heap.get? h1.objs.size with
    | none => rfl
    | some o' => exact absurd (Heap.lt_size (kp _ _ e)) (Nat.lt_irrefl _)
  refine wpAny_bind (wpAny_newList ?_ hz)
  have hoL : (h1.push (seqObj "list" vs.toArray 0)).get? h1.objs.size = some (seqObj "list" vs.toArray 0) := Heap.get?_push_size _ rfl
  refine wpAny_bind (wpAny_holding (wpAny_call_entry slot_list_sort ⟨_, hoL, rfl⟩ entry_list_sort (SrtO.list_sort_ord (s := { s with heap := h1.push (seqObj "list" vs.toArray 0) }) SrtO.swo_int hoL hz (fun h2 => SrtO.ints_sortable hI h2) fun out hs hb => ⟨_, rfl, ?_⟩) (args_list_sort _)))
  refine wpAny_pure ⟨_, rfl, h _ _ out hs hb fresh ⟨h1, kp, Nat.le_refl _⟩ (fun b o' e => ?_) (sortedHeap_at hoL)⟩
  have e1 := kp b o' e
  have lt := Heap.lt_size e1
  rw [sortedHeap_old (Nat.ne_of_lt lt) (Heap.lt_size (Heap.get?_push_of_some _ e1))]
  exact Heap.get?_push_of_some _ e1
end
def rSrtT (K : PySem.W.Frag) : List V → Hp → VK → Prop := fun vs H Q => ∃ (a : Addr) (ns : List Int), vs = [V.ref a] ∧ SqT K H a (ns.map V.int) ∧
  ∀ (ns' : List Int) (p : Addr), ns'.Perm ns → ns'.Pairwise (· ≤ ·) → H p = none → Q (.ref p) (upd H p (.lst (ns'.map V.int)))
section
variable {X : Cx} {F : Fx}
theorem cr_sortT : CallR X (.builtin "sorted") (rSrtT X.K) := by
  intro pins s σ H vs us Q I r h
  obtain ⟨a, ns, rfl, hs, q⟩ := h
  obtain ⟨its, rv, ⟨o, ho, hc, n, hd⟩, hz⟩ := I.tuple hs
  rw [Vals.ref1 r]
  have hi := rv.ints
  refine srt_tup ho hc hd (by rw [← rv.length]; exact hz) hi fun h' d out h1 h2 fr ⟨hm, km, lm⟩ kp ⟨ep, he⟩ => ?_
  obtain ⟨k1, k2, k3⟩ := SrtO.ints_out hi h1 h2
  have hlen : ((out.map SrtO.iv).map V.int).length ≤ sizeLine := by
    have := k2.length_eq
    simp only [List.length_map] at this hz ⊢
    omega
  have hn : H d = none := (I.hok.kept km).fresh lm
  exact ⟨.ref _, upd H d (.lst ((out.map SrtO.iv).map V.int)), I.laidN (t' := s.toks) kp fr hn ⟨hlen, out, ep, vals_of_ints k1, he⟩, rfl, q _ _ k2 k3 hn⟩
/-- sorted(..), whole numbers of a list or a tuple -/
def insI (i : Int) : List Int → List Int
  | [] => [i]
  | j :: r => if i ≤ j then i :: j :: r else j :: insI i r
def srtI : List Int → List Int
  | [] => []
  | i :: r => insI i (srtI r)
theorem insI_perm (i : Int) : ∀ ns, (insI i ns).Perm (i :: ns)
  | [] => .refl _
  | j :: r => by
    unfold insI
    split
    · exact .refl _
    · exact (List.Perm.cons j (insI_perm i r)).trans (List.Perm.swap i j r)
theorem insI_ord (i : Int) : ∀ {ns : List Int}, ns.Pairwise (· ≤ ·) → (insI i ns).Pairwise (· ≤ ·)
  | [], _ => List.pairwise_singleton _ _
  | j :: r, h => by
    obtain ⟨h1, h2⟩ := List.pairwise_cons.mp h
    unfold insI
    split
    · rename_i hl
      exact List.pairwise_cons.mpr ⟨fun a m => (List.mem_cons.mp m).elim (fun e => e ▸ hl) fun m => Int.le_trans hl (h1 a m), h⟩
    · rename_i hl
      refine List.pairwise_cons.mpr ⟨fun a m => ?_, insI_ord i h2⟩
      rcases List.mem_cons.mp ((insI_perm i r).mem_iff.mp m) with e | m
      · subst e; omega
      · exact h1 a m
theorem srtI_perm : ∀ ns, (srtI ns).Perm ns
  | [] => .refl _
  | i :: r => (insI_perm i _).trans (List.Perm.cons i (srtI_perm r))
theorem srtI_ord : ∀ ns, (srtI ns).Pairwise (· ≤ ·)
  | [] => .nil
  | i :: r => insI_ord i (srtI_ord r)
def dSorted : List D → Option D
  | [.lst ds] => (allI ds).map fun (ns : List Int) => D.lst ((srtI ns).map D.int)
  | [.tup ds] => (allI ds).map fun (ns : List Int) => D.lst ((srtI ns).map D.int)
  | _ => none
theorem srt_eq {ns ns' : List Int} (p : ns'.Perm ns) (o : ns'.Pairwise (· ≤ ·)) : ns' = srtI ns :=
  List.Perm.eq_of_pairwise (le := (· ≤ ·)) (fun a b _ _ h1 h2 => Int.le_antisymm h1 h2) o (srtI_ord ns) (p.trans (srtI_perm ns).symm)
theorem cd_sorted (hK : F.K = X.K) : CallR X (.builtin "sorted") (rCs F dSorted) := by
  obtain ⟨K, T, M0, pa, H0⟩ := F
  cases hK
  refine CallR.imp (cr_sortedI.or cr_sortT) ?_
  rintro vs H Q ⟨M, ds, r, hm, hx, g, q⟩
  have fin : ∀ (ns ns' : List Int) (p : Addr), ns'.Perm ns → ns'.Pairwise (· ≤ ·) → H p = none → Dv X.K T M (upd H p (.lst (ns'.map V.int))) (.lst ((srtI ns).map D.int)) (.ref p) := fun ns ns' p e1 e2 hp => by
    rw [srt_eq e1 e2]
    exact Dv.newLst (DvS.of_ints _) hp fun z => hm p z hp
  match ds, g with
  | [.lst ds], g =>
    obtain ⟨ns, e1, e2⟩ := Option.map_eq_some_iff.mp (show (allI ds).map (fun (ns : List Int) => D.lst ((srtI ns).map D.int)) = some r from g)
    subst e2
    obtain ⟨v, rfl, h⟩ := paired1 hx
    obtain ⟨a, us, rfl, ha, ra⟩ := h.lst
    rw [allI_eq e1] at ra
    rw [ra.ints] at ha
    exact .inl ⟨a, ns, rfl, SqL.of ha, fun ns' p e1 e2 hp => q _ _ (Ext.new hp) (fin ns ns' p e1 e2 hp)⟩
  | [.tup ds], g =>
    obtain ⟨ns, e1, e2⟩ := Option.map_eq_some_iff.mp (show (allI ds).map (fun (ns : List Int) => D.lst ((srtI ns).map D.int)) = some r from g)
    subst e2
    obtain ⟨v, rfl, h⟩ := paired1 hx
    obtain ⟨a, us, rfl, ha, ra⟩ := h.tup
    rw [allI_eq e1] at ra
    rw [ra.ints] at ha
    exact .inr ⟨a, ns, rfl, ha, fun ns' p e1 e2 hp => q _ _ (Ext.new hp) (fin ns ns' p e1 e2 hp)⟩
theorem bt_sorted : bootBuiltins "sorted" = some (.builtin "sorted") := by decide +kernel
end
end SC

set_option Elab.async false
set_option linter.all false
set_option maxRecDepth 100000
namespace SC
open PySem PySem.Spec PyProof.Rows L2

/-! ### + and - of instances -/
structure BinC (K : PySem.W.Frag) (C f : Addr) (op : Operator) : Prop where
  first : PySem.W.selfFirst K C = true
  at_ : PySem.W.findIn K (.ref C) (PySem.dunder op.info.2) = some (some (.ref f))
  fn : PySem.W.isFn K (.ref f) = true
  rc : PySem.W.findIn K (.ref C) (dunderR op.info.2) = some none
  fo : (PySem.W.findIn K (.type "int") (PySem.dunder op.info.2)).isSome = true
  ro : (PySem.W.findIn K (.type "int") (dunderR op.info.2)).isSome = true
  sub : PySem.W.subIn K (.type "int") (.ref C) = some false
theorem binCB_ok {x m : Str} {op : Operator} {K : PySem.W.Frag} (h : binCB x m op K = true) : BinC K (He.ga K x) (He.ma K (He.ga K x) m) op := by
  obtain ⟨a, b⟩ := Bool.and_eq_true_iff.mp (show (_ && _) = true from h)
  obtain ⟨a1, a2⟩ := Bool.and_eq_true_iff.mp a
  obtain ⟨a3, a4⟩ := Bool.and_eq_true_iff.mp a2
  obtain ⟨b1, b2⟩ := Bool.and_eq_true_iff.mp b
  obtain ⟨b3, b4⟩ := Bool.and_eq_true_iff.mp b1
  obtain ⟨b5, b6⟩ := Bool.and_eq_true_iff.mp b2
  exact ⟨a1, of_decide_eq_true a3, a4, of_decide_eq_true b3, b4, b5, of_decide_eq_true b6⟩
def rBinI (F : Fx) (c n : Nat) (g : FG) : R2 := fun x y H Q => ∃ p dx fs, x = V.ref p ∧ H p = some (.ins (F.T.ad c) dx fs) ∧ ((∃ i, y = .int i) ∨ ∃ p' dx' fs', y = V.ref p' ∧ H p' = some (.ins (F.T.ad c) dx' fs')) ∧ spD F.K F.T n g [x, y] H Q
def fBinI (c : Nat) (g : FG) (fa fb : FE) : FE := fun ρ => match fa ρ with
  | some (.dat (.ins c1 ds), ρ1) => if c1 = c then match fb ρ1 with
      | some (.dat (.int i), ρ2) => runG g [] [.dat (.ins c1 ds), .dat (.int i)] ρ2
      | some (.dat (.ins c2 es), ρ2) => if c2 = c then runG g [] [.dat (.ins c1 ds), .dat (.ins c2 es)] ρ2 else none
      | _ => none
    else none
  | _ => none
section
variable {X : Cx} {F : Fx} {pos : Pos} {k c n : Nat} {f : Addr} {fd : FuncData} {ps : List Str} {g : FG} {a b : Expr} {fa fb : FE} {op : Operator}
theorem cb_of {v : V} {r : Value} {Q : Value → Shared → Prop} {s : Shared} (h : RelV v r) (q : Q r s) : PySem.W.CmpBack Q r s := by
  cases v <;> (try (obtain ⟨t, rfl⟩ := h; exact q)) <;> (cases h; exact q)
theorem opd_binI (hK : F.K = X.K) (B : BinC X.K (F.T.ad c) f op) (Fn : FnOk X.prog X.w X.K X.mg X.base CX0 k f fd ps (spO X.K F.T ps.length g)) (hr : Room k X.A) (hb : Binds X.K fd ps []) : OpR X (binaryOp op) (rBinI F c ps.length g) := by
  obtain ⟨K, T, M0, pa, H0⟩ := F
  cases hK
  intro pins s σ H x y v u Q I rx ry h
  obtain ⟨p, dx, fs, rfl, hp, hy, sp⟩ := h
  have rx0 := rx
  obtain rfl : v = Value.ref p := rx0
  obtain ⟨mA, O, _⟩ := ins_get I.hok hp
  obtain ⟨od, J, _⟩ := O.look
  obtain ⟨m, fr⟩ := I.fr
  have run := wpAny_mono (run_fn (dvs := []) (E := fun _ _ _ => False) Fn hr hb .nil passes0 I (vs := [V.ref p, y]) (.cons rx (.cons ry .nil)) sp) (fun r s2 (h : EP X pins σ Q r s2) => by
    obtain ⟨w', H2, I2, r2, q⟩ := h
    exact cb_of r2 (show EP X pins σ Q r s2 from ⟨w', H2, I2, r2, q⟩)) fun _ _ z => z
  rcases hy with ⟨i, rfl⟩ | ⟨p', dx', fs', rfl, hp'⟩
  · obtain ⟨t, rfl⟩ := ry
    obtain ⟨fo, h1⟩ := Option.isSome_iff_exists.mp B.fo
    obtain ⟨ro, h2⟩ := Option.isSome_iff_exists.mp B.ro
    exact PySem.W.ksp_binT (T := "int") fr I.ok.mod.kin J rfl B.first B.at_ B.fn B.rc (.inl rfl) h1 h2 B.sub run
  · have ry0 := ry
    obtain rfl : u = Value.ref p' := ry0
    obtain ⟨mA', O', _⟩ := ins_get I.hok hp'
    obtain ⟨od', J', _⟩ := O'.look
    exact PySem.W.binop_K fr I.ok.mod.kin J J'.type B.first B.at_ B.fn run
theorem binI_read (hn : 2 = ps.length) {σ : Sg} {H : Hp} {Q : VK} (h : TEd F (fBinI c g fa fb) σ H Q) : tOp (rBinI F c ps.length g) (TEd F fa) (TEd F fb) σ H Q := by
  obtain ⟨M, ρ, r, ρ', R, hf, q⟩ := h
  unfold fBinI at hf
  split at hf
  case h_2 => cases hf
  case h_1 c1 ds ρ1 e1 =>
  split at hf
  case isFalse => cases hf
  case isTrue hc =>
  subst hc
  have core : ∀ (d2 : D) (ρ2 : Ev), fb ρ1 = some (.dat d2, ρ2) → runG g [] [.dat (.ins c1 ds), .dat d2] ρ2 = some (r, ρ') → (∀ (M : Ms) (H : Hp) (y : V), Dv F.K F.T M H d2 y → (∃ i, y = .int i) ∨ ∃ p' dx' fs', y = V.ref p' ∧ H p' = some (.ins (F.T.ad c1) dx' fs')) →
      tOp (rBinI F c1 ps.length g) (TEd F fa) (TEd F fb) σ H Q := fun d2 ρ2 e2 e4 hy => by
    refine ⟨M, ρ, _, ρ1, R, e1, fun x M1 H1 s1 R1 k1 ok1 => ⟨M1, ρ1, _, ρ2, R1, e2, fun y M2 H2 s2 R2 k2 ok2 => ?_⟩⟩
    have ok1' : Dv F.K F.T M2 H2 (.ins c1 ds) x := Dv.less s2 _ (Dv.keep k2 R1.mm _ ok1)
    have ok2' : Dv F.K F.T M2 H2 d2 y := ok2
    obtain ⟨p, dx, xs, rfl, nm, hp, hl, dv⟩ := id ok1'
    refine ⟨p, dx, _, rfl, hp, hy M2 H2 y ok2', call_core (dvs := []) (dss := []) (os := [.dat (.ins c1 ds), .dat d2]) (vs := [V.ref p, y]) (by simpa using hn) (fun _ _ => rfl) e4 R2 (.cons ok1' (.cons ok2' .nil)) fun v H3 R3 k3 ok3 => ?_⟩
    exact q _ M2 H3 (fun a z => s1 a (s2 a z)) R3 ((k1.trans (k2.mono s1)).trans (k3.mono fun a z => s1 a (s2 a z))) ok3
  split at hf
  case h_1 i ρ2 e2 => exact core _ ρ2 e2 hf fun M H y h => .inl ⟨i, h⟩
  case h_2 c2 es ρ2 e2 =>
    split at hf
    case isFalse => cases hf
    case isTrue hc =>
      subst hc
      exact core _ ρ2 e2 hf fun M H y h => by
        obtain ⟨p, dx, xs, rfl, nm, hp, hl, dv⟩ := h
        exact .inr ⟨p, dx, _, rfl, hp⟩
  case h_3 => cases hf
theorem de_binI (hK : F.K = X.K) (B : BinC X.K (F.T.ad c) f op) (Fn : FnOk X.prog X.w X.K X.mg X.base CX0 k f fd ps (spO X.K F.T ps.length g)) (hr : Room k X.A) (hb : Binds X.K fd ps []) (hn : 2 = ps.length) (ha : PE X a (TEd F fa)) (hbb : PE X b (TEd F fb)) :
    PE X (.BinOp a op b pos) (TEd F (fBinI c g fa fb)) := PE.imp (pe_op (opd_binI hK B Fn hr hb) ha hbb) fun _ _ _ => binI_read hn
theorem biD {T : Cl} {j : Nat} (hK : F.K = X.K) (hT : F.T = T) (B : BinC X.K (T.ad c) f op) (D1 : Def1 X.prog X.w X.K X.mg X.base T j f ps g) (hr : Room k X.A) (hjk : j ≤ k) (hn : 2 = ps.length) (ha : PE X a (TEd F fa)) (hbb : PE X b (TEd F fb)) : PE X (.BinOp a op b pos) (TEd F (fBinI c g fa fb)) := by
  subst hT
  obtain ⟨⟨fd, hb, Fn⟩, kp⟩ := D1
  exact de_binI hK B Fn (hr.mono hjk) hb hn ha hbb
end
end SC

set_option Elab.async false
set_option linter.all false
set_option maxRecDepth 100000
namespace SC
open PySem PySem.Spec PyProof.Rows L2

/-- enough turns for a loop down to 0 -/
def fuelI (i : Nat) : Ev → Nat := fun ρ => match ρ[i]? with
  | some (.dat (.int b)) => b.natAbs + 1
  | _ => 100000
/-! ### class methods -/
def fCM (c : Nat) (g : FG) (fa : FA) : FE := fun ρ => match fa ρ with
  | some (os, ρ1) => runG g [] (.dat (.cl c) :: os) ρ1
  | none => none
section
variable {X : Cx} {F : Fx} {T : Cl} {k j n c i : Nat} {f pr : Addr} {ps : List Str} {g : FG} {x m : Str} {p pos apos : Pos} {e : Expr} {es : List Expr} {fa : FA} {pl : Sem Bool} {gi : List D → Option (List D)}
theorem cmD (hK : F.K = X.K) (hT : F.T = T) (r : ClX.CRead X.K (T.ad c) (.type "type")) (cm : ClX.CMet X.K (T.ad c) (.type "type") m pr f) (D1 : Def1 X.prog X.w X.K X.mg X.base T j f ps g) (hr : Room k X.A) (hjk : j ≤ k)
    (ho : PE X (.Name x p) (tC (.ref (T.ad c)))) (ha : PA X (e :: es) (TAd F fa)) (hl : FaLen fa n) (hn : n + 1 = ps.length)
    (hst : starEach (e :: es) X.env = (false, eval e X.env) :: starEach es X.env) (hpl : (backTo pos (starEach es X.env)).any (·.1) = false)
    (ht : eval (.Call (.Attribute (.Name x p) m apos) (e :: es) [] pos) X.env = (do
      let ov ← eval (.Name x p) X.env
      standAt apos.atName
      let (f, first) ← holding [ov] (getMethod ov m pl)
      callWith pos f first (backTo pos (starEach (e :: es) X.env)) (backToKw pos (keywordEach [] X.env)))) : PE X (.Call (.Attribute (.Name x p) m apos) (e :: es) [] pos) (TEd F (fCM c g fa)) := by
  subst hT
  obtain ⟨⟨fd, hb, Fn⟩, kp⟩ := D1
  obtain ⟨K, T, M0, pa, H0⟩ := F
  cases hK
  refine PE.imp (ClX.pe_cmeth (E := fun _ _ _ => False) (CX := CX0) ho r cm (FnOk.raw (dvs := []) Fn hb .nil) (hr.mono hjk) passes0 ha hst hpl ht) ?_
  rintro σ H Q ⟨M, ρ, o, ρ', R, hf, q⟩
  unfold fCM at hf
  cases e1 : fa ρ with
  | none => rw [e1] at hf; cases hf
  | some p1 =>
    obtain ⟨os, ρ1⟩ := p1
    rw [e1] at hf
    simp only at hf
    refine ⟨rfl, M, ρ, os, ρ1, R, e1, fun vs M1 H1 s1 R1 k1 ok1 => ?_⟩
    have lo := hl.eq _ _ _ e1
    exact call_core (dvs := []) (dss := []) (os := .dat (.cl c) :: os) (vs := V.ref (T.ad c) :: vs) (by rw [List.length_cons, lo, List.length_nil]; omega) (fun _ _ => rfl) hf R1 (.cons rfl ok1)
      fun v H3 R3 k3 ok3 => q v M1 H3 s1 R3 (k1.trans (k3.mono s1)) ok3
/-- an instance of the class that a parameter holds -/
def fMakeL (i c : Nat) (gi : List D → Option (List D)) (fa : FA) : FE := fun ρ => match ρ[i]? with
  | some (.dat (.cl c')) => if c' = c then fMake c gi fa ρ else none
  | _ => none
theorem pe_makeL {C : Addr} {sp : Sp} {t : TA} (Mk_ : Mk X.K C f) (Fn : FnR X.prog X.w X.K X.mg X.base CX0 k f sp) (hr : Room (k + 1) X.A) (hN : X.N[i]? = some x) (hv : Vis X.env.scope x) (ha : PA X (e :: es) t) (hdb : (x == ("__debug__" : Str)) = false) (hcd : (x == ("__classdict__" : Str)) = false)
    (he : starEach (e :: es) X.env = (false, eval e X.env) :: starEach es X.env) (hst : (backTo pos (starEach es X.env)).any (·.1) = true) : PE X (.Call (.Name x p) (e :: es) [] pos) (fun σ H Q => σ[i]? = some (some (.ref C)) ∧ StX.tMakeR C sp (fun _ _ _ => False) t σ H Q) :=
  ⟨fun pins s σ H Q I h => wpAny_Call_Name_kw (thn ((pe_var (pos := p) hN hv hdb hcd).run pins s σ H (fun v H1 => v = .ref C ∧ H1 = H) I ⟨.ref C, h.1, rfl, rfl⟩) fun u s1 ⟨v, H1, I1, r1, q1⟩ => by
    obtain ⟨rfl, rfl⟩ := q1
    cases r1
    exact PySem.W.callWith_S2 (h₀ := X.base) I1.ok.mod.kin Mk_.kp (thn (ha.run pos pins s1 σ H1 _ I1 h.2) fun us s2 ⟨vs, H2, I2, r, q⟩ => ⟨I2.kIn, StX.run_makeR Mk_ Fn hr passes0 I2 r q⟩) he hst)⟩
theorem mkL (hK : F.K = X.K) (hT : F.T = T) (Mk_ : Mk X.K (T.ad c) f) (Fn : FnR X.prog X.w X.K X.mg X.base CX0 j f (spMk X.K T c gi)) (hr : Room k X.A) (hjk : j + 1 ≤ k) (hN : X.N[i]? = some x) (hv : Vis X.env.scope x) (ha : PA X (e :: es) (TAd F fa)) (hdb : (x == ("__debug__" : Str)) = false) (hcd : (x == ("__classdict__" : Str)) = false)
    (he : starEach (e :: es) X.env = (false, eval e X.env) :: starEach es X.env) (hst : (backTo pos (starEach es X.env)).any (·.1) = true) : PE X (.Call (.Name x p) (e :: es) [] pos) (TEd F (fMakeL i c gi fa)) := by
  subst hT
  refine PE.imp (pe_makeL Mk_ Fn (hr.mono hjk) hN hv ha hdb hcd he hst) ?_
  rintro σ H Q ⟨M, ρ, o, ρ', R, hf, q⟩
  unfold fMakeL at hf
  split at hf
  case h_2 => cases hf
  case h_1 c' e1 =>
  split at hf
  case isFalse => cases hf
  case isTrue hc =>
  subst hc
  refine ⟨?_, make_imp hK ⟨M, ρ, o, ρ', R, hf, q⟩⟩
  obtain ⟨v, g1, w, g2, g3⟩ := R.se.sl i _ e1
  rw [g1, g2, show w = V.ref (F.T.ad c') from g3]
end

/-! ### a, *b = a list -/
section
variable {prog : Program} {w : World} {A : Around} {E : Value → Shared → Prop} {s : Shared} {l : Addr} {x : Value} {r : List Value} {Q : List Value → Shared → Prop}
theorem unp_star (hl : PlainL s.heap l (x :: r).toArray) (hh : A.handled = none) (hz : (x :: r).length ≤ sizeLine)
    (h : ∀ (h' : Heap) (tk : Nat), (∀ b o, s.heap.get? b = some o → h'.get? b = some o) → Q [x, .ref h'.objs.size] { s with heap := h'.push { cls := .type "list", data := .seq r.toArray }, toks := tk }) : wpAny (model prog w) A (unpackItems (.ref l) 2 (some 1)) Q E s := by
  obtain ⟨o, n0, ho, hc, hd, hs⟩ := hl
  have hL : s.heap.IsList l (x :: r).toArray := ⟨o, ho, hc, n0, hs⟩
  have hlt : l < s.heap.objs.size := Heap.lt_size ho
  have hne : l ≠ s.heap.objs.size := Nat.ne_of_lt hlt
  unfold unpackItems notIterableAtAll
  refine wpAny_bind (wpAny_bind (wpAny_specialOf hL.typeIs slot_list_iter.lookup (wpAny_pure ?_)))
  rw [if_neg (by decide)]
  refine wpAny_bind (wpAny_holding (wpAny_pyIter_list hL ?_))
  refine wpAny_bind (wpAny_holding (PySem.W.kun_draw hne 1 0 _ _ ⟨_, Heap.get?_push_size _ rfl, rfl, rfl⟩ (hL.push _) (by simp) fun h1 it1 sm1 => ?_))
  have hL1 : h1.IsList l (x :: r).toArray := (hL.push _).extBut sm1.extBut hne
  obtain ⟨oi, hoi, _⟩ := id it1
  obtain ⟨ol, hol, _⟩ := id hL1
  rw [if_neg (show ¬ (List.take 1 (List.drop 0 (x :: r).toArray.toList)).length < 1 by simp)]
  refine wpAny_bind (wpAny_holding (PySem.W.kun_collect (s := { s with heap := h1 }) (T := "list_iterator") (.inr (.inr (.inl rfl))) (Walks.list (A := A.in1) hh s.heap.objs.size l hne (x :: r).toArray) (fun _ _ st => st.1.typeIs) (k := 1) (by simp) ⟨it1, hL1⟩ (Heap.lt_size hoi) (Heap.lt_size hol) (fun h2 tk k2 => ?_) (by simpa using hz)))
  have kp : ∀ b o, s.heap.get? b = some o → h2.get? b = some o := fun b o e => k2 b o (Nat.ne_of_lt (Heap.lt_size e)) (sm1.extBut b o (Nat.ne_of_lt (Heap.lt_size e)) (Heap.get?_push_of_some _ e))
  show wpAny _ _ (if (List.drop 1 (x :: r).toArray.toList).length < 2 - 1 - 1 then _ else _) _ _ _
  rw [if_neg (show ¬ (List.drop 1 (x :: r).toArray.toList).length < 2 - 1 - 1 by simp)]
  refine wpAny_bind (wpAny_newList ?_ (by simp at hz ⊢; omega))
  refine wpAny_pure ?_
  have := h h2 tk kp
  simpa using this
end
def gStar2 (K : PySem.W.Frag) (t : TGs) : TG := fun v σ H Q => ∃ a x xs, v = V.ref a ∧ SqL K H a (x :: xs) ∧ ∀ p, H p = none → t [x, .ref p] σ (upd H p (.lst xs)) Q
section
variable {X : Cx} {F : Fx} {pos : Pos}
theorem pg_star2 {es es' : List Expr} {k : Nat} {t : TGs} (hc : X.calm = true) (h : PGs X es' t) (he : (assignEach es X.env).map (·.2) = (assignEach es' X.env).map (·.2)) (hn : (assignEach es X.env).length = 2) (hst : (assignEach es X.env).findIdx? (·.1) = some 1) : PG X (.Tuple es k pos) (gStar2 X.K t) := by
  refine ⟨fun pins s σ H v u Q I r hw => ?_⟩
  obtain ⟨a, x, xs, rfl, hq, hw⟩ := hw
  cases r
  obtain ⟨its, rv, hl, hz⟩ := I.list hq
  cases rv with
  | cons r1 rr =>
    rename_i u1 us
    rw [assign_Tuple]
    refine wpAny_bind (wpAny_standAt ?_)
    unfold unpack
    rw [hn, hst, he]
    refine wpAny_bind (wpAny_holding (unp_star hl (I.ok.hd hc) (by have := rr.length; simp at hz ⊢; omega) fun h' tk kp => ?_))
    have I1 : Inv X pins σ H { s with heap := h', toks := tk } := I.kept (t' := tk) kp
    have hz1 : xs.length ≤ sizeLine := by simp at hz; omega
    have I2 := I1.laid (a := h'.objs.size) (o := .lst xs) (t' := tk) (h' := h'.push { cls := .type "list", data := .seq us.toArray }) (fun b u q => Heap.get?_push_of_some _ q) (Nat.le_refl _) ⟨hz1, us, _, rr, Heap.get?_push_size _ rfl⟩
    exact h.run pins _ σ _ _ _ Q I2 (.cons r1 (.cons (show RelV (.ref h'.objs.size) (.ref h'.objs.size) from rfl) .nil)) (hw h'.objs.size (I1.hok.fresh (Nat.le_refl _)))
/-- x, *y = .. -/
def bStar (i j : Nat) (fe : FE) : FB := fun ρ => match fe ρ with
  | some (.dat (.lst (d :: ds)), ρ1) => some (.nx, (ρ1.set i (.dat d)).set j (.dat (.lst ds)))
  | _ => none
theorem ds_star {e : Expr} {fe : FE} {i j k : Nat} {x y : Str} {p1 p2 p3 pt : Pos} (hK : F.K = X.K) (hc : X.calm = true) (he : PE X e (TEd F fe)) (h1 : PG X (.Name x p1) (TGd F (.nm i))) (h2 : PG X (.Name y p2) (TGd F (.nm j)))
    (hi : ∀ a, (i, a) ∉ F.pa) (hj : ∀ a, (j, a) ∉ F.pa)
    (hs : swapsWithSole [.Tuple [.Name x p1, .Starred (.Name y p2) p3] k pt] e pos.line X.env = pure false) (hw : swappedStores [.Tuple [.Name x p1, .Starred (.Name y p2) p3] k pt] e X.env = pure none)
    (ha : (assignEach [.Tuple [.Name x p1, .Starred (.Name y p2) p3] k pt] X.env).map (·.2) = [assign (.Tuple [.Name x p1, .Starred (.Name y p2) p3] k pt) X.env])
    (he2 : (assignEach [.Name x p1, .Starred (.Name y p2) p3] X.env).map (·.2) = (assignEach [.Name x p1, .Name y p2] X.env).map (·.2)) (hn : (assignEach [.Name x p1, .Starred (.Name y p2) p3] X.env).length = 2) (hst : (assignEach [.Name x p1, .Starred (.Name y p2) p3] X.env).findIdx? (·.1) = some 1)
    (g1 : (assignEach [.Name x p1, .Name y p2] X.env).map (·.2) = assign (.Name x p1) X.env :: (assignEach [.Name y p2] X.env).map (·.2)) (g2 : (assignEach [.Name y p2] X.env).map (·.2) = assign (.Name y p2) X.env :: (assignEach [] X.env).map (·.2)) :
    PS X (.Assign [.Tuple [.Name x p1, .Starred (.Name y p2) p3] k pt] e pos) (TSd F (bStar i j fe)) := by
  obtain ⟨K, T, M0, pa, H0⟩ := F
  cases hK
  refine PS.imp (ps_asg he (pg_star2 hc (pgs_cons h1 (pgs_cons h2 pgs_nil g2) g1) he2 hn hst) hs hw ha) ?_
  rintro E σ H ⟨M, ρ, w, ρ', R, hf, q⟩
  unfold bStar at hf
  split at hf
  case h_2 => cases hf
  case h_1 d ds ρ1 e1 =>
  cases hf
  refine ⟨M, ρ, _, ρ1, R, e1, fun v M1 H1 s1 R1 k1 ok1 => ?_⟩
  obtain ⟨a, vs, rfl, nm, hq, dv⟩ := ok1
  obtain ⟨x0, xs, rfl, d1, d2⟩ := dv
  refine ⟨a, x0, xs, rfl, SqL.of hq, fun p hp => ?_⟩
  have ex : Ext H1 (upd H1 p (.lst xs)) := Ext.new hp
  have R2 : ER _ M1 ρ1 σ (upd H1 p (.lst xs)) := R1.ext ex
  refine ⟨x0, [.ref p], rfl, M1, ρ1, d, _, R2, Dv.ext ex d d1, rfl, fun b hb => ?_, fun σ2 R3 _ => ?_⟩
  · rcases List.mem_singleton.mp hb with rfl
    exact hi
  · have dp : Dv X.K T M1 (upd H1 p (.lst xs)) (.lst ds) (.ref p) := Dv.newLst d2 hp fun z => R1.fresh hp z
    refine ⟨.ref p, [], rfl, M1, _, .lst ds, _, R3, dp, rfl, fun b hb => ?_, fun σ3 R4 _ => ⟨rfl, ?_⟩⟩
    · rcases List.mem_singleton.mp hb with rfl
      exact hj
    · exact q M1 σ3 _ R4 ((Stp.of R (fun a z => .inl (s1 a z)) k1).trans fun d v h => Dv.ext ex d h)
end

/-! ### a new list out of two -/
def nAdd (fa fb : FE) : FN := fun ρ => match fa ρ with
  | none => none
  | some (o, ρ1) => match fb ρ1 with
    | none => none
    | some (p, ρ2) => match o.get ρ2, p.get ρ2 with
      | some (.lst ds), some (.lst es) => if ds.length + es.length ≤ sLn then some (ds ++ es, ρ2) else none
      | _, _ => none
section
variable {X : Cx} {F : Fx} {pos : Pos} {a b : Expr} {fa fb : FE}
theorem dn_add (ha : PE X a (TEd F fa)) (hb : PE X b (TEd F fb)) : PE X (.BinOp a .Add b pos) (TEn F (nAdd fa fb)) := by
  refine PE.imp (pe_op op_cat ha hb) ?_
  rintro σ H Q ⟨M, ρ, o, ρ', R, hf, q⟩
  unfold nAdd at hf
  cases e1 : fa ρ with
  | none => rw [e1] at hf; cases hf
  | some p1 =>
    obtain ⟨o1, ρ1⟩ := p1
    rw [e1] at hf
    simp only at hf
    cases e2 : fb ρ1 with
    | none => rw [e2] at hf; cases hf
    | some p2 =>
      obtain ⟨o2, ρ2⟩ := p2
      rw [e2] at hf
      simp only at hf
      split at hf
      case h_2 => cases hf
      case h_1 ds es g1 g2 =>
      split at hf
      case isFalse => cases hf
      case isTrue hz =>
      cases hf
      refine ⟨M, ρ, o1, ρ1, R, e1, fun x M1 H1 s1 R1 k1 ok1 => ⟨M1, ρ1, o2, _, R1, e2, fun y M2 H2 s2 R2 k2 ok2 => ?_⟩⟩
      obtain ⟨l, us, rfl, ha, ra⟩ := (R2.opd (OpdOk.less s2 (OpdOk.keep R1.mm k2 ok1)) g1).lst
      obtain ⟨m, ws, rfl, hb, rb⟩ := (R2.opd ok2 g2).lst
      refine ⟨l, m, us, ws, rfl, rfl, ha, hb, by have := ra.length; have := rb.length; rw [← sLn_eq]; omega, fun p hp => ?_⟩
      have k12 := k1.trans (k2.mono s1)
      have s12 : ∀ z, M2 z → M z := fun z m => s1 z (s2 z m)
      obtain ⟨R3, n3⟩ := R2.newLst k12 s12 hp (DvS.append ra rb)
      exact q p _ _ (fun a z => z.imp (s12 a) id) R3 (k12.trans (Ext.new hp).keep) n3
end

/-! ### facts -/
theorem cmB_ok {K : PySem.W.Frag} {C m : Str} (h : cmB C m K = true) : ClX.CMet K (He.ga K C) (.type "type") m (He.ma K (He.ga K C) m) (cmAd K C m) := by
  obtain ⟨h1, h2⟩ := He.ba h
  exact He5.cmet_of h1 h2
theorem crB_ok {K : PySem.W.Frag} {C : Str} (h : crB C K = true) : ClX.CRead K (He.ga K C) (.type "type") := by
  obtain ⟨h1, h2⟩ := He.ba h
  exact ⟨h1, of_decide_eq_true h2⟩
end SC

set_option Elab.async false
set_option linter.all false
set_option maxRecDepth 100000
namespace SC
open PySem PySem.Spec PyProof.Rows L2

/-! ### a def that returns a new list of plain items -/
theorem dvs_flat {K : PySem.W.Frag} {T : Cl} {M M' : Ms} {H H' : Hp} : ∀ {ds : List D} {xs : List V}, ds.all flD = true → DvS K T M H ds xs → DvS K T M' H' ds xs
  | [], _, _, h => h
  | d :: ds, _, fl, ⟨x, r, e, h1, h2⟩ => by
    rw [List.all_cons, Bool.and_eq_true] at fl
    refine ⟨x, r, e, ?_, dvs_flat fl.2 h2⟩
    cases d with
    | non => exact h1
    | bl _ => exact h1
    | int _ => exact h1
    | str _ => exact h1
    | _ => exact absurd fl.1 (by simp [flD])
def spN (K : PySem.W.Frag) (T : Cl) (n : Nat) (g : List D → Option (List D)) : Sp := fun vs H Q _ => vs.length = n ∧ ∃ ds out, DvS K T (fun _ => False) H ds vs ∧ g ds = some out ∧ out.all flD = true ∧
  ∀ p xs H', H p = none → Ext H H' → H' p = some (.lst xs) → DvS K T (fun _ => False) H' out xs → Q (.ref p) H'
def genN (N : Nat) (fn : FN) (ds : List D) : Option (List D) := match fn (ds.map .dat ++ List.replicate (N - ds.length) .un) with
  | some (out, _) => if out.all flD = true then some out else none
  | none => none
section
variable {P : Program} {w : World} {K : PySem.W.Frag} {mg : Str → Option Value} {base : Heap} {k : Nat} {f : Addr} {fd : FuncData} {name qual : Str} {params : Arguments} {e : Expr} {rpos : Pos} {scope : Scope} {N ps : List Str} {T : Cl} {fn : FN}
structure DefN (P : Program) (w : World) (K : PySem.W.Frag) (mg : Str → Option Value) (base : Heap) (T : Cl) (k : Nat) (f : Addr) (ps : List Str) (g : List D → Option (List D)) : Prop where
  ex : ∃ fd, Binds K fd ps [] ∧ FnOk P w K mg base CX0 k f fd ps (spN K T ps.length g)
  kp : PySem.W.keepIn K (.ref f) = true
theorem exN {X : Cx} (h : ∀ F : Fx, F.K = X.K → F.T = T → PaOk F 0 [] → PE X e (TEn F fn)) : PE X e (fun σ H Q => ∃ F : Fx, F.K = X.K ∧ F.T = T ∧ PaOk F 0 [] ∧ TEn F fn σ H Q) :=
  ⟨fun pins s σ H Q I ⟨F, h1, h2, h3, hw⟩ => (h F h1 h2 h3).run pins s σ H Q I hw⟩
theorem FunD.defN (Fd : FunD K name qual params [.Return (some e) rpos] scope [] [] f fd) (S : FnScope N ps scope)
    (hb : ∀ (kV doc pm : Value) (an : Option Addr) (cdv ct : Value) (us : List Value), us.length = ps.length → bindArgs (PySem.W.fnOf name qual params [.Return (some e) rpos] scope .none kV doc pm an cdv ct) ⟨us, []⟩ = pure (ps.zip us))
    (go : ∀ (cdv : Value) (A : Around) (outer : List Env) (s : Shared) (H : Hp) (E : XK), Room k (A.deeper (envOfC qual scope s.heap.objs.size f cdv)) → ∀ F : Fx, F.K = K → F.T = T → PaOk F 0 [] →
      PE (bodyCx P w K mg base N qual scope f cdv A outer s H E) e (TEn F fn)) : DefN P w K mg base T (k + 1) f ps (genN N.length fn) := by
  have hbn := Fd.bindsN hb
  obtain ⟨oc, od, dV, kV, doc, pm, an, cdv, ct, osl, rfl, lk, hcd, _, _⟩ := Fd.ex
  refine ⟨⟨_, hbn, fn_of lk hcd S (fun vs H Q E h => h.1) fun A outer s H vs Q E hr ⟨hv, ds, out, dv, hg, fl, q⟩ => ⟨_, pss_one (ps_ret (exN (T := T) (go cdv A outer s H E hr))), ?_⟩⟩, Fd.kp⟩
  have hpl : ps.length ≤ N.length := by have := congrArg List.length S.pre; rw [List.length_take] at this; omega
  have hvl : vs.length ≤ N.length := by rw [hv]; exact hpl
  have S0 := se_data (fun _ z => False.elim z) dv
  have S1 := se_start S0 (N := N) hvl
  rw [List.length_map] at S1
  have nomut : ∀ (i : Nat) (s : Sl), (ds.map Sl.dat ++ List.replicate (N.length - ds.length) Sl.un)[i]? = some s → s.mut = true → False := fun i s h mu => by
    by_cases hi : i < ds.length
    · rw [List.getElem?_append_left (by simpa using hi), List.getElem?_map] at h
      cases e : ds[i]? with
      | none => rw [e] at h; cases h
      | some d => rw [e] at h; cases h; cases mu
    · rw [List.getElem?_append_right (by simpa using hi), List.getElem?_replicate] at h
      split at h
      · cases h; cases mu
      · cases h
  have R0 := S1.enter
  have nopa : ∀ p, p ∉ (subF K T (fun _ => False) (ds.map Sl.dat ++ List.replicate (N.length - ds.length) Sl.un) (L2.start N vs) H).pa := fun p hp => by
    obtain ⟨s, h1, m, _⟩ := mem_mads.mp hp
    exact nomut p.1 s h1 m
  unfold genN at hg
  cases e1 : fn (ds.map Sl.dat ++ List.replicate (N.length - ds.length) Sl.un) with
  | none => rw [e1] at hg; cases hg
  | some pw =>
    obtain ⟨out', ρ'⟩ := pw
    rw [e1] at hg
    simp only [] at hg
    split at hg
    case isFalse => cases hg
    case isTrue =>
    cases hg
    refine ⟨_, rfl, rfl, ⟨fun p hp => (nopa p hp).elim, fun p hp => (nopa p hp).elim⟩, fun _ => False, _, out, ρ', R0, e1, fun p M1 H1 s1 R1 k1 n1 => ?_⟩
    obtain ⟨xs, a1, a2⟩ := n1.at_
    exact q p xs H1 (n1.old.elim False.elim id) (fun a o ea => k1 a o ea fun z => z) a1 (DvS.less (fun _ z => False.elim z) out a2)
end
def nCallN (g : List D → Option (List D)) (fa : FA) : FN := fun ρ => match fa ρ with
  | none => none
  | some (os, ρ1) => match datAll os with
    | none => none
    | some ds => match g ds with
      | some out => if out.all flD = true then some (out, ρ1) else none
      | none => none
section
variable {X : Cx} {F : Fx} {T : Cl} {j k n : Nat} {f : Addr} {ps : List Str} {g : List D → Option (List D)} {x : Str} {p pos : Pos} {e : Expr} {es : List Expr} {fa : FA}
theorem dn_callN (hK : F.K = X.K) (hT : F.T = T) (D1 : DefN X.prog X.w X.K X.mg X.base T j f ps g) (hr : Room k X.A) (hjk : j ≤ k) (hg : Gl X x) (hm : X.mg x = some (.ref f)) (ha : PA X (e :: es) (TAd F fa)) (hl : FaLen fa n) (hn : n = ps.length) (hdb : (x == ("__debug__" : Str)) = false)
    (he : starEach (e :: es) X.env = (false, eval e X.env) :: starEach es X.env) (hpl : (backTo pos (starEach es X.env)).any (·.1) = false) : PE X (.Call (.Name x p) (e :: es) [] pos) (TEn F (nCallN g fa)) := by
  subst hT
  obtain ⟨⟨fd, hb, Fn⟩, kp⟩ := D1
  obtain ⟨K, T, M0, pa, H0⟩ := F
  cases hK
  refine PE.imp (pe_call (E := fun _ _ _ => False) (dvs := []) Fn (hr.mono hjk) hg hm kp hb .nil passes0 ha hdb he hpl) ?_
  rintro σ H Q ⟨M, ρ, out, ρ', R, hf, q⟩
  unfold nCallN at hf
  cases e1 : fa ρ with
  | none => rw [e1] at hf; cases hf
  | some p1 =>
    obtain ⟨os, ρ1⟩ := p1
    rw [e1] at hf
    simp only at hf
    cases e2 : datAll os with
    | none => rw [e2] at hf; cases hf
    | some ds =>
      rw [e2] at hf
      simp only at hf
      cases e3 : g ds with
      | none => rw [e3] at hf; cases hf
      | some o =>
        rw [e3] at hf
        simp only at hf
        split at hf
        case isFalse => cases hf
        case isTrue fl =>
        cases hf
        refine ⟨M, ρ, os, _, R, e1, fun vs M1 H1 s1 R1 k1 ok1 => ?_⟩
        have dv := OpdsOk.datAll ok1 e2
        refine ⟨?_, ds, _, by rw [List.append_nil]; exact DvS.less (fun _ z => False.elim z) ds dv, e3, fl, fun p xs H2 hp ex at_ dvy => ?_⟩
        · rw [List.append_nil, ← hn, ← hl.eq _ _ _ e1]
          exact (Paired.length ok1).symm
        · obtain ⟨R2, n2⟩ := R1.newLst k1 s1 hp (vs := xs) (dvs_flat fl dvy)
          have ex2 : Ext (upd H1 p (.lst xs)) H2 := fun a u ea => by
            by_cases hap : a = p
            · subst hap
              rw [upd_same] at ea
              rw [at_, ← ea]
            · rw [upd_ne hap] at ea
              exact ex a u ea
          obtain ⟨ys, y1, y2⟩ := n2.at_
          exact q p _ H2 (fun a z => z.imp (s1 a) id) (R2.ext ex2) (k1.trans ex.keep) ⟨n2.m, n2.old, n2.h0, n2.no, ys, ex2 _ _ y1, DvS.ext ex2 _ y2⟩
end
end SC

set_option Elab.async false
set_option linter.all false
set_option maxRecDepth 100000
set_option maxHeartbeats 0
namespace SC
open PySem PySem.Spec PyProof.Rows L2
def TT (K : PySem.W.Frag) : Cl := ⟨fun c => match c with | 0 => He.ga K "Plan" | 1 => He.ga K "Period" | _ => 0, fun c => match c with | 0 => ["count", "kept"] | 1 => ["base", "past"] | _ => []⟩
structure Ws (K : PySem.W.Frag) (mg : Str → Option Value) : Prop where
  c_Plan : CK K (TT K) 0
  w_Plan_read : ClX.CMet K ((TT K).ad 0) (.type "type") "read" (He.ma K (He.ga K "Plan") "read") (cmAd K "Plan" "read")
  q_Plan : ClX.CRead K ((TT K).ad 0) (.type "type")
  n_abs : mg "abs" = none
  n_all : mg "all" = none
  n_bool : mg "bool" = none
  n_enumerate : mg "enumerate" = none
  n_int : mg "int" = none
  n_isinstance : mg "isinstance" = none
  n_len : mg "len" = none
  n_list : mg "list" = none
  n_max : mg "max" = none
  n_min : mg "min" = none
  n_range : mg "range" = none
  n_repr : mg "repr" = none
  n_str : mg "str" = none
  n_sum : mg "sum" = none
  n_tuple : mg "tuple" = none
  n_zip : mg "zip" = none
  f_Plan___init__ : ∃ fd, FunD K "__init__" "Plan.__init__" (defArgs (inClass (top 31) 0)) (defBody (inClass (top 31) 0)) (defScope (inClass (top 31) 0)) [] [] (He.ma K (He.ga K "Plan") "__init__") fd
  f_Plan___len__ : ∃ fd, FunD K "__len__" "Plan.__len__" (defArgs (inClass (top 31) 9)) (defBody (inClass (top 31) 9)) (defScope (inClass (top 31) 9)) [] [] (He.ma K (He.ga K "Plan") "__len__") fd
  f_Plan_products : ∃ fd, FunD K "products" "Plan.products" (defArgs (inClass (top 31) 5)) (defBody (inClass (top 31) 5)) (defScope (inClass (top 31) 5)) [] [] (prGet K "Plan" "products") fd
  f_Plan_read : ∃ fd, FunD K "read" "Plan.read" (defArgs (inClass (top 31) 2)) (defBody (inClass (top 31) 2)) (defScope (inClass (top 31) 2)) [] [] (cmAd K "Plan" "read") fd
  f_Plan_rows : ∃ fd, FunD K "rows" "Plan.rows" (defArgs (inClass (top 31) 6)) (defBody (inClass (top 31) 6)) (defScope (inClass (top 31) 6)) [] [] (prGet K "Plan" "rows") fd
  f__law_borne_by : ∃ fd, FunD K "_law_borne_by" "_law_borne_by" (defArgs (top 60)) (defBody (top 60)) (defScope (top 60)) [] [] (He.ga K "_law_borne_by") fd
  f__law_by : ∃ fd, FunD K "_law_by" "_law_by" (defArgs (top 56)) (defBody (top 56)) (defScope (top 56)) [] [] (He.ga K "_law_by") fd
  f__law_case : ∃ fd, FunD K "_law_case" "_law_case" (defArgs (top 52)) (defBody (top 52)) (defScope (top 52)) [] [] (He.ga K "_law_case") fd
  f__law_cell : ∃ fd, FunD K "_law_cell" "_law_cell" (defArgs (top 47)) (defBody (top 47)) (defScope (top 47)) [] [] (He.ga K "_law_cell") fd
  f__law_draw : ∃ fd, FunD K "_law_draw" "_law_draw" (defArgs (top 49)) (defBody (top 49)) (defScope (top 49)) [] [] (He.ga K "_law_draw") fd
  f__law_ends : ∃ fd, FunD K "_law_ends" "_law_ends" (defArgs (top 62)) (defBody (top 62)) (defScope (top 62)) [] [] (He.ga K "_law_ends") fd
  f__law_less : ∃ fd, FunD K "_law_less" "_law_less" (defArgs (top 61)) (defBody (top 61)) (defScope (top 61)) [] [] (He.ga K "_law_less") fd
  f__law_net : ∃ fd, FunD K "_law_net" "_law_net" (defArgs (top 53)) (defBody (top 53)) (defScope (top 53)) [] [] (He.ga K "_law_net") fd
  f__law_pen : ∃ fd, FunD K "_law_pen" "_law_pen" (defArgs (top 48)) (defBody (top 48)) (defScope (top 48)) [] [] (He.ga K "_law_pen") fd
  f__law_plus : ∃ fd, FunD K "_law_plus" "_law_plus" (defArgs (top 55)) (defBody (top 55)) (defScope (top 55)) [] [] (He.ga K "_law_plus") fd
  f__law_ratio : ∃ fd, FunD K "_law_ratio" "_law_ratio" (defArgs (top 54)) (defBody (top 54)) (defScope (top 54)) [] [] (He.ga K "_law_ratio") fd
  f__law_right : ∃ fd, FunD K "_law_right" "_law_right" (defArgs (top 63)) (defBody (top 63)) (defScope (top 63)) [] [] (He.ga K "_law_right") fd
  f__law_same : ∃ fd, FunD K "_law_same" "_law_same" (defArgs (top 50)) (defBody (top 50)) (defScope (top 50)) [] [] (He.ga K "_law_same") fd
  f__law_shut : ∃ fd, FunD K "_law_shut" "_law_shut" (defArgs (top 58)) (defBody (top 58)) (defScope (top 58)) [] [] (He.ga K "_law_shut") fd
  f__law_spent : ∃ fd, FunD K "_law_spent" "_law_spent" (defArgs (top 57)) (defBody (top 57)) (defScope (top 57)) [] [] (He.ga K "_law_spent") fd
  f__law_turns : ∃ fd, FunD K "_law_turns" "_law_turns" (defArgs (top 59)) (defBody (top 59)) (defScope (top 59)) [] [] (He.ga K "_law_turns") fd
  f__law_weight : ∃ fd, FunD K "_law_weight" "_law_weight" (defArgs (top 51)) (defBody (top 51)) (defScope (top 51)) [] [] (He.ga K "_law_weight") fd
  f_all_borne : ∃ fd, FunD K "all_borne" "all_borne" (defArgs (top 44)) (defBody (top 44)) (defScope (top 44)) [] [] (He.ga K "all_borne") fd
  f_all_orders : ∃ fd, FunD K "all_orders" "all_orders" (defArgs (top 42)) (defBody (top 42)) (defScope (top 42)) [] [] (He.ga K "all_orders") fd
  f_are_costs : ∃ fd, FunD K "are_costs" "are_costs" (defArgs (top 37)) (defBody (top 37)) (defScope (top 37)) [] [] (He.ga K "are_costs") fd
  f_are_rows : ∃ fd, FunD K "are_rows" "are_rows" (defArgs (top 29)) (defBody (top 29)) (defScope (top 29)) [] [] (He.ga K "are_rows") fd
  f_as_fraction : ∃ fd, FunD K "as_fraction" "as_fraction" (defArgs (top 22)) (defBody (top 22)) (defScope (top 22)) [] [] (He.ga K "as_fraction") fd
  f_between : ∃ fd, FunD K "between" "between" (defArgs (top 45)) (defBody (top 45)) (defScope (top 45)) [] [] (He.ga K "between") fd
  f_borne_in : ∃ fd, FunD K "borne_in" "borne_in" (defArgs (top 41)) (defBody (top 41)) (defScope (top 41)) [] [] (He.ga K "borne_in") fd
  f_closings : ∃ fd, FunD K "closings" "closings" (defArgs (top 40)) (defBody (top 40)) (defScope (top 40)) [] [] (He.ga K "closings") fd
  f_divisor : ∃ fd, FunD K "divisor" "divisor" (defArgs (top 17)) (defBody (top 17)) (defScope (top 17)) [] [] (He.ga K "divisor") fd
  f_fraction : ∃ fd, FunD K "fraction" "fraction" (defArgs (top 18)) (defBody (top 18)) (defScope (top 18)) [] [] (He.ga K "fraction") fd
  f_is_between : ∃ fd, FunD K "is_between" "is_between" (defArgs (top 16)) (defBody (top 16)) (defScope (top 16)) [] [] (He.ga K "is_between") fd
  f_is_integer : ∃ fd, FunD K "is_integer" "is_integer" (defArgs (top 15)) (defBody (top 15)) (defScope (top 15)) [] [] (He.ga K "is_integer") fd
  f_is_less : ∃ fd, FunD K "is_less" "is_less" (defArgs (top 21)) (defBody (top 21)) (defScope (top 21)) [] [] (He.ga K "is_less") fd
  f_is_row : ∃ fd, FunD K "is_row" "is_row" (defArgs (top 28)) (defBody (top 28)) (defScope (top 28)) [] [] (He.ga K "is_row") fd
  f_law : ∃ fd, FunD K "law" "law" (defArgs (top 64)) (defBody (top 64)) (defScope (top 64)) [] [] (He.ga K "law") fd
  f_need_costs : ∃ fd, FunD K "need_costs" "need_costs" (defArgs (top 38)) (defBody (top 38)) (defScope (top 38)) [] [] (He.ga K "need_costs") fd
  f_need_plan : ∃ fd, FunD K "need_plan" "need_plan" (defArgs (top 32)) (defBody (top 32)) (defScope (top 32)) [] [] (He.ga K "need_plan") fd
  f_number_in : ∃ fd, FunD K "number_in" "number_in" (defArgs (top 30)) (defBody (top 30)) (defScope (top 30)) [] [] (He.ga K "number_in") fd
  f_passed_on : ∃ fd, FunD K "passed_on" "passed_on" (defArgs (top 39)) (defBody (top 39)) (defScope (top 39)) [] [] (He.ga K "passed_on") fd
  f_sum_of : ∃ fd, FunD K "sum_of" "sum_of" (defArgs (top 19)) (defBody (top 19)) (defScope (top 19)) [] [] (He.ga K "sum_of") fd
  f_times : ∃ fd, FunD K "times" "times" (defArgs (top 20)) (defBody (top 20)) (defScope (top 20)) [] [] (He.ga K "times") fd
  g_NOTHING : mg "NOTHING" = some (.ref (He.ga K "NOTHING"))
  g_Plan : mg "Plan" = some (.ref (He.ga K "Plan"))
  g__law_borne_by : mg "_law_borne_by" = some (.ref (He.ga K "_law_borne_by"))
  g__law_by : mg "_law_by" = some (.ref (He.ga K "_law_by"))
  g__law_case : mg "_law_case" = some (.ref (He.ga K "_law_case"))
  g__law_cell : mg "_law_cell" = some (.ref (He.ga K "_law_cell"))
  g__law_draw : mg "_law_draw" = some (.ref (He.ga K "_law_draw"))
  g__law_ends : mg "_law_ends" = some (.ref (He.ga K "_law_ends"))
  g__law_less : mg "_law_less" = some (.ref (He.ga K "_law_less"))
  g__law_net : mg "_law_net" = some (.ref (He.ga K "_law_net"))
  g__law_pen : mg "_law_pen" = some (.ref (He.ga K "_law_pen"))
  g__law_plus : mg "_law_plus" = some (.ref (He.ga K "_law_plus"))
  g__law_ratio : mg "_law_ratio" = some (.ref (He.ga K "_law_ratio"))
  g__law_right : mg "_law_right" = some (.ref (He.ga K "_law_right"))
  g__law_same : mg "_law_same" = some (.ref (He.ga K "_law_same"))
  g__law_shut : mg "_law_shut" = some (.ref (He.ga K "_law_shut"))
  g__law_spent : mg "_law_spent" = some (.ref (He.ga K "_law_spent"))
  g__law_turns : mg "_law_turns" = some (.ref (He.ga K "_law_turns"))
  g__law_weight : mg "_law_weight" = some (.ref (He.ga K "_law_weight"))
  g_all_borne : mg "all_borne" = some (.ref (He.ga K "all_borne"))
  g_all_orders : mg "all_orders" = some (.ref (He.ga K "all_orders"))
  g_are_costs : mg "are_costs" = some (.ref (He.ga K "are_costs"))
  g_are_rows : mg "are_rows" = some (.ref (He.ga K "are_rows"))
  g_as_fraction : mg "as_fraction" = some (.ref (He.ga K "as_fraction"))
  g_between : mg "between" = some (.ref (He.ga K "between"))
  g_borne_in : mg "borne_in" = some (.ref (He.ga K "borne_in"))
  g_closings : mg "closings" = some (.ref (He.ga K "closings"))
  g_divisor : mg "divisor" = some (.ref (He.ga K "divisor"))
  g_fraction : mg "fraction" = some (.ref (He.ga K "fraction"))
  g_is_between : mg "is_between" = some (.ref (He.ga K "is_between"))
  g_is_integer : mg "is_integer" = some (.ref (He.ga K "is_integer"))
  g_is_less : mg "is_less" = some (.ref (He.ga K "is_less"))
  g_is_row : mg "is_row" = some (.ref (He.ga K "is_row"))
  g_law : mg "law" = some (.ref (He.ga K "law"))
  g_need_costs : mg "need_costs" = some (.ref (He.ga K "need_costs"))
  g_need_plan : mg "need_plan" = some (.ref (He.ga K "need_plan"))
  g_number_in : mg "number_in" = some (.ref (He.ga K "number_in"))
  g_passed_on : mg "passed_on" = some (.ref (He.ga K "passed_on"))
  g_sum_of : mg "sum_of" = some (.ref (He.ga K "sum_of"))
  g_times : mg "times" = some (.ref (He.ga K "times"))
  i_MOST : ∃ t, mg "MOST" = some (.int 4 t)
  i_MOST_COST : ∃ t, mg "MOST_COST" = some (.int 1000000 t)
  i_MOST_WEIGHT : ∃ t, mg "MOST_WEIGHT" = some (.int 20 t)
  j_Plan : IsC K (TT K) (He.ga K "Plan") [0] [0]
  m_Plan : Mk K ((TT K).ad 0) (He.ma K (He.ga K "Plan") "__init__")
  p_Plan_products : PropOf K ((TT K).ad 0) "products" (prAd K "Plan" "products") (prGet K "Plan" "products")
  p_Plan_rows : PropOf K ((TT K).ad 0) "rows" (prAd K "Plan" "rows") (prGet K "Plan" "rows")
  s_Plan___len__ : Sp1 K ((TT K).ad 0) "__len__" (He.ma K (He.ga K "Plan") "__len__")
  i_DIGITS : ∃ t, mg "DIGITS" = some (.str "0123456789" t)
  i_HEAD : ∃ t, mg "HEAD" = some (.str "products " t)
  t_NOTHING : ∀ H, SqT K H (He.ga K "NOTHING") [.int 0, .int 1]
/-! ### _law_pen: a new list -/
abbrev sn__law_pen : Stmt := top 48
def Nn__law_pen : List Str := ["_law_cell_here"]
def dn__law_pen : FN := nDisp (fCons (fBlt dMax (fCons (fC (.int 0)) (fCons (fBin dSub (fVar 0) (fBin dPow (fC (.int 10)) (fC (.int 18)))) (fNil)))) (fCons (fBin dAdd (fBin dMod (fVar 0) (fC (.int 2147483629))) (fC (.int 1))) (fCons (fC (.int 0)) (fNil))))
def gn__law_pen : List D → Option (List D) := genN 1 dn__law_pen
theorem ndn__law_pen : Nn__law_pen.Nodup := by decide +kernel
theorem scn__law_pen : FnScope Nn__law_pen ["_law_cell_here"] (defScope sn__law_pen) := ⟨rfl, rfl, rfl, ndn__law_pen, rfl, by decide +kernel, by decide +kernel⟩
theorem okn__law_pen {P : Program} {w : World} {K : PySem.W.Frag} {mg : Str → Option Value} {base : Heap} (W : Ws K mg) : DefN P w K mg base (TT K) 1 (He.ga K "_law_pen") ["_law_cell_here"] gn__law_pen := by
  obtain ⟨fd, Fd⟩ := W.f__law_pen
  exact FunD.defN (N := Nn__law_pen) (ps := ["_law_cell_here"]) (fn := dn__law_pen) Fd scn__law_pen (fun _ _ _ _ _ _ us hl => match us, hl with | [_], _ => rfl) (fun cdv A outer s H E hr F hK hT hpa => (dn_lst (da_cons (de_blt (cd_max rfl) rfl W.n_max bt_max (da_cons (de_c pe_int (fun _ _ => rfl)) (da_cons (de_bin (opd_sub hK) (de_var rfl (.inl rfl) rfl rfl) (de_bin (opd_pow hK) (de_c pe_int (fun _ _ => rfl)) (de_c pe_int (fun _ _ => rfl)))) da_nil rfl) rfl) (by decide) rfl rfl rfl) (da_cons (de_bin (opd_add hK) (de_bin (opd_mod hK) (de_var rfl (.inl rfl) rfl rfl) (de_c pe_int (fun _ _ => rfl))) (de_c pe_int (fun _ _ => rfl))) (da_cons (de_c pe_int (fun _ _ => rfl)) da_nil rfl) rfl) rfl)))
/-! ### _law_cell -/
abbrev s__law_cell : Stmt := top 47
def N__law_cell : List Str := ["_law_script", "_law_k"]
def d__law_cell : FB := bRet (fIf (fTest (fBin (dCmp fun i j => decide (i < j)) (fVar 1) (fBlt dLen (fCons (fVar 0) fNil)))) (fBin dIdx (fVar 0) (fVar 1)) (fC (.int 0)))
def g__law_cell : FG := fnD 2 [] d__law_cell
theorem nd__law_cell : N__law_cell.Nodup := by decide +kernel
theorem sc__law_cell : FnScope N__law_cell ["_law_script", "_law_k"] (defScope s__law_cell) := ⟨rfl, rfl, rfl, nd__law_cell, rfl, by decide +kernel, by decide +kernel⟩
theorem ok__law_cell {P : Program} {w : World} {K : PySem.W.Frag} {mg : Str → Option Value} {base : Heap} (W : Ws K mg) : Def1 P w K mg base (TT K) 1 (He.ga K "_law_cell") ["_law_script", "_law_k"] g__law_cell := by
  obtain ⟨fd, Fd⟩ := W.f__law_cell
  exact FunD.def1 (N := N__law_cell) (ps := ["_law_script", "_law_k"]) (asg := []) (fb := d__law_cell) Fd sc__law_cell (fun _ _ _ _ _ _ us hl => match us, hl with | [_, _], _ => rfl) (fun cdv A outer s H E hr F hK hT hpa => (dss_one (ds_ret (de_if (dt_cmp (opd_cmp op_lt) (de_var rfl (.inl rfl) rfl rfl) (de_blt (cd_len hK) rfl W.n_len bt_len (da_cons (de_var rfl (.inl rfl) rfl rfl) da_nil rfl) (by decide) rfl rfl rfl) rfl) (de_ix hK (de_var rfl (.inl rfl) rfl rfl) (de_var rfl (.inl rfl) rfl rfl) (fun _ _ => rfl)) (de_c pe_int (fun _ _ => rfl))))))
/-! ### _law_draw -/
abbrev s__law_draw : Stmt := top 49
def N__law_draw : List Str := ["_law_pen_here", "_law_count", "_law_found", "_law_stirred"]
def d__law_draw : FB := bSeq (bIf (fTest (fBin (dCmp fun i j => decide (j < i)) (fBin dIdx (fVar 0) (fC (.int 0))) (fC (.int 0)))) (bSeq (bSet 2 (fBin dMod (fBin dIdx (fVar 0) (fC (.int 0))) (fVar 1))) (bSeq (bPut 0 (fC (.int 0)) (fBin dDiv (fBin dIdx (fVar 0) (fC (.int 0))) (fVar 1))) (bRet (fVar 2)))) (bNx)) (bSeq (bPut 0 (fC (.int 2)) (fBin dAdd (fBin dIdx (fVar 0) (fC (.int 2))) (fC (.int 1)))) (bSeq (bPut 0 (fC (.int 1)) (fBin dMod (fBin dAdd (fBin dAdd (fBin dMul (fBin dIdx (fVar 0) (fC (.int 1))) (fC (.int 48271))) (fBin dMul (fC (.int 1009)) (fBin dIdx (fVar 0) (fC (.int 2))))) (fC (.int 7))) (fC (.int 2147483647)))) (bSeq (bSet 3 (fBin dMod (fBin dAdd (fBin dAdd (fBin dMul (fBin dIdx (fVar 0) (fC (.int 1))) (fBin dIdx (fVar 0) (fC (.int 1)))) (fBin dMul (fC (.int 69621)) (fBin dIdx (fVar 0) (fC (.int 1))))) (fC (.int 11))) (fC (.int 2147483629)))) (bSeq (bSet 3 (fBin dMod (fBin dAdd (fBin dMul (fVar 3) (fVar 3)) (fBin dMul (fC (.int 40014)) (fVar 3))) (fC (.int 2147483587)))) (bRet (fBin dMod (fBin dDiv (fVar 3) (fC (.int 16))) (fVar 1)))))))
def g__law_draw : FG := fnD 4 [] d__law_draw
theorem nd__law_draw : N__law_draw.Nodup := by decide +kernel
theorem sc__law_draw : FnScope N__law_draw ["_law_pen_here", "_law_count"] (defScope s__law_draw) := ⟨rfl, rfl, rfl, nd__law_draw, rfl, by decide +kernel, by decide +kernel⟩
theorem ok__law_draw {P : Program} {w : World} {K : PySem.W.Frag} {mg : Str → Option Value} {base : Heap} (W : Ws K mg) : Def1 P w K mg base (TT K) 1 (He.ga K "_law_draw") ["_law_pen_here", "_law_count"] g__law_draw := by
  obtain ⟨fd, Fd⟩ := W.f__law_draw
  exact FunD.def1 (N := N__law_draw) (ps := ["_law_pen_here", "_law_count"]) (asg := []) (fb := d__law_draw) Fd sc__law_draw (fun _ _ _ _ _ _ us hl => match us, hl with | [_, _], _ => rfl) (fun cdv A outer s H E hr F hK hT hpa => (dss_cons (ds_if (dt_cmp (opd_cmp op_gt) (de_ix hK (de_var rfl (.inl rfl) rfl rfl) (de_c pe_int (fun _ _ => rfl)) (fun _ _ => rfl)) (de_c pe_int (fun _ _ => rfl)) rfl) (dss_cons (ds_set nd__law_draw rfl (.inl rfl) (de_bin (opd_mod hK) (de_ix hK (de_var rfl (.inl rfl) rfl rfl) (de_c pe_int (fun _ _ => rfl)) (fun _ _ => rfl)) (de_var rfl (.inl rfl) rfl rfl)) rfl (.inl rfl) (hpa.not (i := 2) rfl)) (dss_cons (ds_put rfl (.inl rfl) rfl rfl (de_c pe_int (fun _ _ => rfl)) (de_bin (opd_div hK) (de_ix hK (de_var rfl (.inl rfl) rfl rfl) (de_c pe_int (fun _ _ => rfl)) (fun _ _ => rfl)) (de_var rfl (.inl rfl) rfl rfl)) rfl rfl rfl (fun _ => rfl)) (dss_one (ds_ret (de_var rfl (.inl rfl) rfl rfl))))) dss_nil) (dss_cons (ds_put rfl (.inl rfl) rfl rfl (de_c pe_int (fun _ _ => rfl)) (de_bin (opd_add hK) (de_ix hK (de_var rfl (.inl rfl) rfl rfl) (de_c pe_int (fun _ _ => rfl)) (fun _ _ => rfl)) (de_c pe_int (fun _ _ => rfl))) rfl rfl rfl (fun _ => rfl)) (dss_cons (ds_put rfl (.inl rfl) rfl rfl (de_c pe_int (fun _ _ => rfl)) (de_bin (opd_mod hK) (de_bin (opd_add hK) (de_bin (opd_add hK) (de_bin (opd_mul hK) (de_ix hK (de_var rfl (.inl rfl) rfl rfl) (de_c pe_int (fun _ _ => rfl)) (fun _ _ => rfl)) (de_c pe_int (fun _ _ => rfl))) (de_bin (opd_mul hK) (de_c pe_int (fun _ _ => rfl)) (de_ix hK (de_var rfl (.inl rfl) rfl rfl) (de_c pe_int (fun _ _ => rfl)) (fun _ _ => rfl)))) (de_c pe_int (fun _ _ => rfl))) (de_c pe_int (fun _ _ => rfl))) rfl rfl rfl (fun _ => rfl)) (dss_cons (ds_set nd__law_draw rfl (.inl rfl) (de_bin (opd_mod hK) (de_bin (opd_add hK) (de_bin (opd_add hK) (de_bin (opd_mul hK) (de_ix hK (de_var rfl (.inl rfl) rfl rfl) (de_c pe_int (fun _ _ => rfl)) (fun _ _ => rfl)) (de_ix hK (de_var rfl (.inl rfl) rfl rfl) (de_c pe_int (fun _ _ => rfl)) (fun _ _ => rfl))) (de_bin (opd_mul hK) (de_c pe_int (fun _ _ => rfl)) (de_ix hK (de_var rfl (.inl rfl) rfl rfl) (de_c pe_int (fun _ _ => rfl)) (fun _ _ => rfl)))) (de_c pe_int (fun _ _ => rfl))) (de_c pe_int (fun _ _ => rfl))) rfl (.inl rfl) (hpa.not (i := 3) rfl)) (dss_cons (ds_set nd__law_draw rfl (.inl rfl) (de_bin (opd_mod hK) (de_bin (opd_add hK) (de_bin (opd_mul hK) (de_var rfl (.inl rfl) rfl rfl) (de_var rfl (.inl rfl) rfl rfl)) (de_bin (opd_mul hK) (de_c pe_int (fun _ _ => rfl)) (de_var rfl (.inl rfl) rfl rfl))) (de_c pe_int (fun _ _ => rfl))) rfl (.inl rfl) (hpa.not (i := 3) rfl)) (dss_one (ds_ret (de_bin (opd_mod hK) (de_bin (opd_div hK) (de_var rfl (.inl rfl) rfl rfl) (de_c pe_int (fun _ _ => rfl))) (de_var rfl (.inl rfl) rfl rfl))))))))))
/-! ### _law_weight -/
abbrev s__law_weight : Stmt := top 51
def N__law_weight : List Str := ["_law_pen_here"]
def d__law_weight : FB := bRet (fBin dIdx (fNew (nDisp (fCons (fC (.int 0)) (fCons (fC (.int 1)) (fCons (fC (.int 1)) (fCons (fC (.int 2)) (fCons (fC (.int 3)) (fCons (fC (.int 5)) (fCons (fC (.int 20)) (fCons (fCall g__law_draw [] (fCons (fVar 0) (fCons (fC (.int 21)) (fNil)))) (fNil))))))))))) (fCall g__law_draw [] (fCons (fVar 0) (fCons (fC (.int 8)) (fNil)))))
def g__law_weight : FG := fnD 1 [] d__law_weight
theorem nd__law_weight : N__law_weight.Nodup := by decide +kernel
theorem sc__law_weight : FnScope N__law_weight ["_law_pen_here"] (defScope s__law_weight) := ⟨rfl, rfl, rfl, nd__law_weight, rfl, by decide +kernel, by decide +kernel⟩
theorem ok__law_weight {P : Program} {w : World} {K : PySem.W.Frag} {mg : Str → Option Value} {base : Heap} (W : Ws K mg) : Def1 P w K mg base (TT K) 2 (He.ga K "_law_weight") ["_law_pen_here"] g__law_weight := by
  obtain ⟨fd, Fd⟩ := W.f__law_weight
  exact FunD.def1 (N := N__law_weight) (ps := ["_law_pen_here"]) (asg := []) (fb := d__law_weight) Fd sc__law_weight (fun _ _ _ _ _ _ us hl => match us, hl with | [_], _ => rfl) (fun cdv A outer s H E hr F hK hT hpa => (dss_one (ds_ret (de_ix hK (de_new (dn_lst (da_cons (de_c pe_int (fun _ _ => rfl)) (da_cons (de_c pe_int (fun _ _ => rfl)) (da_cons (de_c pe_int (fun _ _ => rfl)) (da_cons (de_c pe_int (fun _ _ => rfl)) (da_cons (de_c pe_int (fun _ _ => rfl)) (da_cons (de_c pe_int (fun _ _ => rfl)) (da_cons (de_c pe_int (fun _ _ => rfl)) (da_cons (de_callO hK ((ok__law_draw W).T hT) hr (by decide) rfl W.g__law_draw (da_cons (de_var rfl (.inl rfl) rfl rfl) (da_cons (de_c pe_int (fun _ _ => rfl)) da_nil rfl) rfl) (faLen_cons (faLen_cons faLen_nil)) rfl rfl rfl rfl) da_nil rfl) rfl) rfl) rfl) rfl) rfl) rfl) rfl))) (de_callO hK ((ok__law_draw W).T hT) hr (by decide) rfl W.g__law_draw (da_cons (de_var rfl (.inl rfl) rfl rfl) (da_cons (de_c pe_int (fun _ _ => rfl)) da_nil rfl) rfl) (faLen_cons (faLen_cons faLen_nil)) rfl rfl rfl rfl) (fun _ _ => rfl)))))
/-! ### _law_case -/
abbrev s__law_case : Stmt := top 52
def N__law_case : List Str := ["_law_pen_here", "_law_goods", "_law_size", "_law_rows", "_law_at", "_law_mine", "_law_its", "_law_lap", "_law_one"]
def d__law_case : FB := bSeq (bPar [1, 2, 3] (mDat (fBin dAdd (fC (.int 1)) (fCall g__law_draw [] (fCons (fVar 0) (fCons (fC (.int 4)) (fNil))))) (mDat (fBin dAdd (fC (.int 1)) (fCall g__law_draw [] (fCons (fVar 0) (fCons (fC (.int 4)) (fNil))))) (mNew (nDisp (fNil)) (mNil))))) (bSeq (bFor (.nm 4) (sRng (fCons (fVar 2) (fNil))) (bSeq (bOwn 5 (nLc [7] (.nm 7) (sRng (fCons (fVar 1) (fNil))) (fYes) (fCall g__law_weight [] (fCons (fVar 0) (fNil))))) (bSeq (bIf (fTest (fBin (dEq) (fBlt dSum (fCons (fVar 5) (fNil))) (fC (.int 0)))) (bPut 5 (fCall g__law_draw [] (fCons (fVar 0) (fCons (fVar 1) (fNil)))) (fBin dAdd (fC (.int 1)) (fCall g__law_draw [] (fCons (fVar 0) (fCons (fC (.int 20)) (fNil)))))) (bNx)) (bSeq (bSet 6 (fNew (nLc [8] (.nm 8) (sRng (fCons (fVar 2) (fNil))) (fYes) (fIf (fOr (fTest (fBin (dEq) (fVar 4) (fVar 8))) (fTest (fBin (dEq) (fCall g__law_draw [] (fCons (fVar 0) (fCons (fC (.int 3)) (fNil)))) (fC (.int 0))))) (fC (.int 0)) (fCall g__law_weight [] (fCons (fVar 0) (fNil))))))) (bExp (fLM lmApp 3 (fBlt dTuple (fCons (fBin dAdd (fVar 5) (fVar 6)) (fNil))))))))) (bSeq (bFrz 3) (bRet (fDisp .tup (fCons (fVar 1) (fCons (fVar 3) (fNil)))))))
def g__law_case : FG := fnD 9 [] d__law_case
theorem nd__law_case : N__law_case.Nodup := by decide +kernel
theorem sc__law_case : FnScope N__law_case ["_law_pen_here"] (defScope s__law_case) := ⟨rfl, rfl, rfl, nd__law_case, rfl, by decide +kernel, by decide +kernel⟩
theorem ok__law_case {P : Program} {w : World} {K : PySem.W.Frag} {mg : Str → Option Value} {base : Heap} (W : Ws K mg) : Def1 P w K mg base (TT K) 3 (He.ga K "_law_case") ["_law_pen_here"] g__law_case := by
  obtain ⟨fd, Fd⟩ := W.f__law_case
  exact FunD.def1 (N := N__law_case) (ps := ["_law_pen_here"]) (asg := []) (fb := d__law_case) Fd sc__law_case (fun _ _ _ _ _ _ us hl => match us, hl with | [_], _ => rfl) (fun cdv A outer s H E hr F hK hT hpa => (dss_cons (ds_par3 rfl nd__law_case rfl rfl rfl (by decide) (by decide) (by decide) rfl rfl rfl (dm_dat (de_bin (opd_add hK) (de_c pe_int (fun _ _ => rfl)) (de_callO hK ((ok__law_draw W).T hT) hr (by decide) rfl W.g__law_draw (da_cons (de_var rfl (.inr (.inl rfl)) rfl rfl) (da_cons (de_c pe_int (fun _ _ => rfl)) da_nil rfl) rfl) (faLen_cons (faLen_cons faLen_nil)) rfl rfl rfl rfl)) (dm_dat (de_bin (opd_add hK) (de_c pe_int (fun _ _ => rfl)) (de_callO hK ((ok__law_draw W).T hT) hr (by decide) rfl W.g__law_draw (da_cons (de_var rfl (.inr (.inl rfl)) rfl rfl) (da_cons (de_c pe_int (fun _ _ => rfl)) da_nil rfl) rfl) (faLen_cons (faLen_cons faLen_nil)) rfl rfl rfl rfl)) (dm_new (dn_lst da_nil) (fun _ jK1 jT1 => dm_nil) rfl) rfl) rfl) rfl rfl (hpa.nots rfl)) (dss_cons (ds_for bodyCx_own rfl (di_rng1 rfl W.n_range (da_cons (de_var rfl (.inl rfl) rfl rfl) da_nil rfl) rfl (faLen_cons faLen_nil).eq) (dg_name nd__law_case rfl (.inr rfl) (.inl rfl)) (dss_cons (ds_lcO (ps_lcI [("_law_lap", 7)] rfl hK rfl nd__law_case rfl rfl (sw_true rfl rfl rfl rfl) (di_rng1 rfl W.n_range (da_cons (de_var rfl (.inl rfl) rfl rfl) da_nil rfl) rfl (faLen_cons faLen_nil).eq) (blkB_ok rfl) (by decide) (fun _ _ _ _ _ _ hK1 hT1 => (dg_name nd__law_case rfl (.inl rfl) (.inr rfl))) (fun _ _ _ _ _ _ hK1 hT1 => dts_nil) (fun _ _ _ _ _ _ hK1 hT1 => (de_callO hK1 ((ok__law_weight W).T (hT1.trans hT)) hr (by decide) rfl W.g__law_weight (da_cons (de_var rfl (.inr (.inl rfl)) rfl rfl) da_nil rfl) (faLen_cons faLen_nil) rfl rfl rfl rfl)) (fun _ => rfl)) (hpa.not (i := 5) rfl)) (dss_cons (ds_if (dt_cmp (opd_eq hK hr.units) (de_blt (cd_sum hK rfl) rfl W.n_sum bt_sum (da_cons (de_var rfl (.inl rfl) rfl rfl) da_nil rfl) (by decide) rfl rfl rfl) (de_c pe_int (fun _ _ => rfl)) rfl) (dss_one (ds_put rfl (.inl rfl) rfl rfl (de_callO hK ((ok__law_draw W).T hT) hr (by decide) rfl W.g__law_draw (da_cons (de_var rfl (.inr (.inl rfl)) rfl rfl) (da_cons (de_var rfl (.inl rfl) rfl rfl) da_nil rfl) rfl) (faLen_cons (faLen_cons faLen_nil)) rfl rfl rfl rfl) (de_bin (opd_add hK) (de_c pe_int (fun _ _ => rfl)) (de_callO hK ((ok__law_draw W).T hT) hr (by decide) rfl W.g__law_draw (da_cons (de_var rfl (.inr (.inl rfl)) rfl rfl) (da_cons (de_c pe_int (fun _ _ => rfl)) da_nil rfl) rfl) (faLen_cons (faLen_cons faLen_nil)) rfl rfl rfl rfl)) rfl rfl rfl (fun _ => rfl))) dss_nil) (dss_cons (ds_lcD (ps_lcI [("_law_one", 8)] rfl hK rfl nd__law_case rfl rfl (sw_true rfl rfl rfl rfl) (di_rng1 rfl W.n_range (da_cons (de_var rfl (.inl rfl) rfl rfl) da_nil rfl) rfl (faLen_cons faLen_nil).eq) (blkB_ok rfl) (by decide) (fun _ _ _ _ _ _ hK1 hT1 => (dg_name nd__law_case rfl (.inl rfl) (.inr rfl))) (fun _ _ _ _ _ _ hK1 hT1 => dts_nil) (fun _ _ _ _ _ _ hK1 hT1 => (de_if (PW.pt (dw_or (dt_cmp (opd_eq hK1 hr.units) (de_var rfl (.inr (.inl rfl)) rfl rfl) (de_var rfl (.inl rfl) rfl rfl) rfl) (dw_or1 (dt_cmp (opd_eq hK1 hr.units) (de_callO hK1 ((ok__law_draw W).T (hT1.trans hT)) hr (by decide) rfl W.g__law_draw (da_cons (de_var rfl (.inr (.inl rfl)) rfl rfl) (da_cons (de_c pe_int (fun _ _ => rfl)) da_nil rfl) rfl) (faLen_cons (faLen_cons faLen_nil)) rfl rfl rfl rfl) (de_c pe_int (fun _ _ => rfl)) rfl)))) (de_c pe_int (fun _ _ => rfl)) (de_callO hK1 ((ok__law_weight W).T (hT1.trans hT)) hr (by decide) rfl W.g__law_weight (da_cons (de_var rfl (.inr (.inl rfl)) rfl rfl) da_nil rfl) (faLen_cons faLen_nil) rfl rfl rfl rfl))) (fun _ => rfl)) (hpa.not (i := 6) rfl)) (dss_one (ds_expr (de_lm hK PySem.F.slot_list_append PySem.F.type_list_append md_app rfl (.inl rfl) rfl rfl (de_bty (cd_tuple hK) rfl W.n_tuple bt_tuple (da_cons (de_bin (opd_add hK) (de_var rfl (.inl rfl) rfl rfl) (de_var rfl (.inl rfl) rfl rfl)) da_nil rfl) (by decide) rfl rfl rfl) rfl rfl rfl rfl rfl) rfl))))) (fun _ => rfl) (hpa.nots rfl)) (dss_frz (dss_one (ds_ret (de_tup (da_cons (de_var rfl (.inl rfl) rfl rfl) (da_cons (de_var rfl (.inl rfl) rfl rfl) da_nil rfl) rfl)))) (hpa.not (i := 3) rfl)))))
/-! ### number_in -/
abbrev s_number_in : Stmt := top 30
def N_number_in : List Str := ["word", "sign"]
def d_number_in : FB := bSeq (bIf (fOr (fNot (fTest (fChain (dCmp fun i j => decide (i ≤ j)) (dCmp fun i j => decide (i ≤ j)) (fC (.int 1)) (fBlt dLen (fCons (fVar 0) fNil)) (fC (.int 2))))) (fNot (fTest (fBlt dAll (fCons (fNew (nLc [1] (.nm 1) (sItm (fVar 0)) (fYes) (fBin (dIn) (fVar 1) (fC (.str "0123456789"))))) (fNil)))))) (bRet (fUn dNeg (fC (.int 1)))) (bNx)) (bRet (fIf (fAnd (fTest (fBin (dEq) (fBlt dLen (fCons (fVar 0) fNil)) (fC (.int 2)))) (fTest (fBin (dEq) (fBin dIdx (fVar 0) (fC (.int 0))) (fC (.str "0"))))) (fUn dNeg (fC (.int 1))) (fBlt dInt (fCons (fVar 0) (fNil)))))
def g_number_in : FG := fnD 2 [] d_number_in
theorem nd_number_in : N_number_in.Nodup := by decide +kernel
theorem sc_number_in : FnScope N_number_in ["word"] (defScope s_number_in) := ⟨rfl, rfl, rfl, nd_number_in, rfl, by decide +kernel, by decide +kernel⟩
theorem ok_number_in {P : Program} {w : World} {K : PySem.W.Frag} {mg : Str → Option Value} {base : Heap} (W : Ws K mg) : Def1 P w K mg base (TT K) 1 (He.ga K "number_in") ["word"] g_number_in := by
  obtain ⟨fd, Fd⟩ := W.f_number_in
  exact FunD.def1 (N := N_number_in) (ps := ["word"]) (asg := []) (fb := d_number_in) Fd sc_number_in (fun _ _ _ _ _ _ us hl => match us, hl with | [_], _ => rfl) (fun cdv A outer s H E hr F hK hT hpa => (dss_cons (ds_if (PW.pt (dw_or (dt_not (dt_chain (opd_cmp op_le) (opd_cmp op_le) (de_c pe_int (fun _ _ => rfl)) (de_blt (cd_len hK) rfl W.n_len bt_len (da_cons (de_var rfl (.inl rfl) rfl rfl) da_nil rfl) (by decide) rfl rfl rfl) (de_c pe_int (fun _ _ => rfl)) rfl)) (dw_or1 (dt_not (dt_val (de_blt (cd_all hK rfl) rfl W.n_all bt_all (da_cons (de_new (dn_lcI [("sign", 1)] rfl hK rfl nd_number_in (di_itm hK (de_var rfl (.inl rfl) rfl rfl)) (blkB_ok rfl) (by decide) (fun _ _ _ _ _ _ hK1 hT1 => (dg_name nd_number_in rfl (.inl rfl) (.inr rfl))) (fun _ _ _ _ _ _ hK1 hT1 => dts_nil) (fun _ _ _ _ _ _ hK1 hT1 => (de_cmp (opd_in hK1) (de_var rfl (.inl rfl) rfl rfl) (de_glob rfl W.i_DIGITS.choose_spec (show RelV (.str "0123456789") _ from ⟨_, rfl⟩) rfl (fun _ _ => rfl)) rfl)) (fun _ => rfl))) da_nil rfl) (by decide) rfl rfl rfl) (fun _ => rfl)))))) (dss_one (ds_ret (de_un und_neg (de_c pe_int (fun _ _ => rfl))))) dss_nil) (dss_one (ds_ret (de_if (PW.pt (dw_and (dt_cmp (opd_eq hK hr.units) (de_blt (cd_len hK) rfl W.n_len bt_len (da_cons (de_var rfl (.inl rfl) rfl rfl) da_nil rfl) (by decide) rfl rfl rfl) (de_c pe_int (fun _ _ => rfl)) rfl) (dw_and1 (dt_cmp (opd_eq hK hr.units) (de_ix hK (de_var rfl (.inl rfl) rfl rfl) (de_c pe_int (fun _ _ => rfl)) (fun _ _ => rfl)) (de_c pe_str (fun _ _ => rfl)) rfl)))) (de_un und_neg (de_c pe_int (fun _ _ => rfl))) (de_bty (cd_int hK) rfl W.n_int bt_int (da_cons (de_var rfl (.inl rfl) rfl rfl) da_nil rfl) (by decide) rfl rfl rfl))))))
/-! ### is_integer -/
abbrev s_is_integer : Stmt := top 15
def N_is_integer : List Str := ["thing"]
def d_is_integer : FB := bRet (fAndV (fTest (fIsi (tyIs "int") (fVar 0))) (fBool (fNot (fTest (fIsi (tyIs "bool") (fVar 0))))))
def g_is_integer : FG := fnD 1 [] d_is_integer
theorem nd_is_integer : N_is_integer.Nodup := by decide +kernel
theorem sc_is_integer : FnScope N_is_integer ["thing"] (defScope s_is_integer) := ⟨rfl, rfl, rfl, nd_is_integer, rfl, by decide +kernel, by decide +kernel⟩
theorem ok_is_integer {P : Program} {w : World} {K : PySem.W.Frag} {mg : Str → Option Value} {base : Heap} (W : Ws K mg) : Def1 P w K mg base (TT K) 1 (He.ga K "is_integer") ["thing"] g_is_integer := by
  obtain ⟨fd, Fd⟩ := W.f_is_integer
  exact FunD.def1 (N := N_is_integer) (ps := ["thing"]) (asg := []) (fb := d_is_integer) Fd sc_is_integer (fun _ _ _ _ _ _ us hl => match us, hl with | [_], _ => rfl) (fun cdv A outer s H E hr F hK hT hpa => (dss_one (ds_ret (de_and (de_isi hK rfl W.n_isinstance bt_isinstance (by decide) rfl (pe_tyN rfl W.n_int bt_int (by decide) rfl) (de_var rfl (.inl rfl) rfl rfl) rfl rfl rfl) (de_one (de_not (de_isi hK rfl W.n_isinstance bt_isinstance (by decide) rfl (pe_tyN rfl W.n_bool bt_bool (by decide) rfl) (de_var rfl (.inl rfl) rfl rfl) rfl rfl rfl)))))))
/-! ### is_between -/
abbrev s_is_between : Stmt := top 16
def N_is_between : List Str := ["thing", "least", "most"]
def d_is_between : FB := bRet (fAndV (fTest (fCall g_is_integer [] (fCons (fVar 0) (fNil)))) (fChain (dCmp fun i j => decide (i ≤ j)) (dCmp fun i j => decide (i ≤ j)) (fVar 1) (fVar 0) (fVar 2)))
def g_is_between : FG := fnD 3 [] d_is_between
theorem nd_is_between : N_is_between.Nodup := by decide +kernel
theorem sc_is_between : FnScope N_is_between ["thing", "least", "most"] (defScope s_is_between) := ⟨rfl, rfl, rfl, nd_is_between, rfl, by decide +kernel, by decide +kernel⟩
theorem ok_is_between {P : Program} {w : World} {K : PySem.W.Frag} {mg : Str → Option Value} {base : Heap} (W : Ws K mg) : Def1 P w K mg base (TT K) 2 (He.ga K "is_between") ["thing", "least", "most"] g_is_between := by
  obtain ⟨fd, Fd⟩ := W.f_is_between
  exact FunD.def1 (N := N_is_between) (ps := ["thing", "least", "most"]) (asg := []) (fb := d_is_between) Fd sc_is_between (fun _ _ _ _ _ _ us hl => match us, hl with | [_, _, _], _ => rfl) (fun cdv A outer s H E hr F hK hT hpa => (dss_one (ds_ret (de_and (de_callO hK ((ok_is_integer W).T hT) hr (by decide) rfl W.g_is_integer (da_cons (de_var rfl (.inl rfl) rfl rfl) da_nil rfl) (faLen_cons faLen_nil) rfl rfl rfl rfl) (de_one (de_chain (opd_cmp op_le) (opd_cmp op_le) (de_var rfl (.inl rfl) rfl rfl) (de_var rfl (.inl rfl) rfl rfl) (de_var rfl (.inl rfl) rfl rfl) rfl))))))
/-! ### Plan.__len__ -/
abbrev s_Plan___len__ : Stmt := inClass (top 31) 9
def N_Plan___len__ : List Str := ["self"]
def d_Plan___len__ : FB := bRet (fBlt dLen (fCons (fFld 0 1 (fVar 0)) fNil))
def g_Plan___len__ : FG := fnD 1 [] d_Plan___len__
theorem nd_Plan___len__ : N_Plan___len__.Nodup := by decide +kernel
theorem sc_Plan___len__ : FnScope N_Plan___len__ ["self"] (defScope s_Plan___len__) := ⟨rfl, rfl, rfl, nd_Plan___len__, rfl, by decide +kernel, by decide +kernel⟩
theorem ok_Plan___len__ {P : Program} {w : World} {K : PySem.W.Frag} {mg : Str → Option Value} {base : Heap} (W : Ws K mg) : Def1 P w K mg base (TT K) 1 (He.ma K (He.ga K "Plan") "__len__") ["self"] g_Plan___len__ := by
  obtain ⟨fd, Fd⟩ := W.f_Plan___len__
  exact FunD.def1 (N := N_Plan___len__) (ps := ["self"]) (asg := []) (fb := d_Plan___len__) Fd sc_Plan___len__ (fun _ _ _ _ _ _ us hl => match us, hl with | [_], _ => rfl) (fun cdv A outer s H E hr F hK hT hpa => (dss_one (ds_ret (de_blt (cd_len hK) rfl W.n_len bt_len (da_cons (de_fld hK (ckT hT W.c_Plan) (flT hT rfl) (de_var rfl (.inl rfl) rfl rfl) rfl) da_nil rfl) (by decide) rfl rfl rfl))))
/-! ### is_row -/
abbrev s_is_row : Stmt := top 28
def N_is_row : List Str := ["thing", "products", "centres", "centre", "weight"]
def d_is_row : FB := bSeq (bIf (fOr (fNot (fTest (fIsi (tyIs "tuple") (fVar 0)))) (fTest (fBin (dNe) (fLen 0 g_Plan___len__ (fVar 0)) (fBin dAdd (fVar 1) (fVar 2))))) (bRet (fC (.bl false))) (bNx)) (bSeq (bIf (fNot (fTest (fBlt dAll (fCons (fNew (nLc [4] (.nm 4) (sItm (fVar 0)) (fYes) (fCall g_is_between [] (fCons (fVar 4) (fCons (fC (.int 0)) (fCons (fC (.int 20)) (fNil))))))) (fNil))))) (bRet (fC (.bl false))) (bNx)) (bRet (fAndV (fTest (fBin (dCmp fun i j => decide (j < i)) (fBlt dSum (fCons (fSlc (fVar 0) (fNoPart) (fPart (fVar 1))) (fNil))) (fC (.int 0)))) (fBin (dEq) (fBin dIdx (fVar 0) (fBin dAdd (fVar 1) (fVar 3))) (fC (.int 0))))))
def g_is_row : FG := fnD 5 [] d_is_row
theorem nd_is_row : N_is_row.Nodup := by decide +kernel
theorem sc_is_row : FnScope N_is_row ["thing", "products", "centres", "centre"] (defScope s_is_row) := ⟨rfl, rfl, rfl, nd_is_row, rfl, by decide +kernel, by decide +kernel⟩
theorem ok_is_row {P : Program} {w : World} {K : PySem.W.Frag} {mg : Str → Option Value} {base : Heap} (W : Ws K mg) : Def1 P w K mg base (TT K) 3 (He.ga K "is_row") ["thing", "products", "centres", "centre"] g_is_row := by
  obtain ⟨fd, Fd⟩ := W.f_is_row
  exact FunD.def1 (N := N_is_row) (ps := ["thing", "products", "centres", "centre"]) (asg := []) (fb := d_is_row) Fd sc_is_row (fun _ _ _ _ _ _ us hl => match us, hl with | [_, _, _, _], _ => rfl) (fun cdv A outer s H E hr F hK hT hpa => (dss_cons (ds_if (PW.pt (dw_or (dt_not (dt_val (de_isi hK rfl W.n_isinstance bt_isinstance (by decide) rfl (pe_tyN rfl W.n_tuple bt_tuple (by decide) rfl) (de_var rfl (.inl rfl) rfl rfl) rfl rfl rfl) (fun _ => rfl))) (dw_or1 (dt_cmp (opd_ne hK hr.units) (de_len (lenD hK hT W.s_Plan___len__ (ok_Plan___len__ W) hr (by decide) rfl rfl W.n_len bt_len (de_var rfl (.inl rfl) rfl rfl) (by decide) rfl rfl rfl) (de_blt (cd_len hK) rfl W.n_len bt_len (da_cons (de_var rfl (.inl rfl) rfl rfl) da_nil rfl) (by decide) rfl rfl rfl) rfl) (de_bin (opd_add hK) (de_var rfl (.inl rfl) rfl rfl) (de_var rfl (.inl rfl) rfl rfl)) rfl)))) (dss_one (ds_ret (de_c pe_bl (fun _ _ => rfl)))) dss_nil) (dss_cons (ds_if (dt_not (dt_val (de_blt (cd_all hK rfl) rfl W.n_all bt_all (da_cons (de_new (dn_lcI [("weight", 4)] rfl hK rfl nd_is_row (di_itm hK (de_var rfl (.inl rfl) rfl rfl)) (blkB_ok rfl) (by decide) (fun _ _ _ _ _ _ hK1 hT1 => (dg_name nd_is_row rfl (.inl rfl) (.inr rfl))) (fun _ _ _ _ _ _ hK1 hT1 => dts_nil) (fun _ _ _ _ _ _ hK1 hT1 => (de_callO hK1 ((ok_is_between W).T (hT1.trans hT)) hr (by decide) rfl W.g_is_between (da_cons (de_var rfl (.inl rfl) rfl rfl) (da_cons (de_c pe_int (fun _ _ => rfl)) (da_cons (de_glob rfl W.i_MOST_WEIGHT.choose_spec (show RelV (.int 20) _ from ⟨_, rfl⟩) rfl (fun _ _ => rfl)) da_nil rfl) rfl) rfl) (faLen_cons (faLen_cons (faLen_cons faLen_nil))) rfl rfl rfl rfl)) (fun _ => rfl))) da_nil rfl) (by decide) rfl rfl rfl) (fun _ => rfl))) (dss_one (ds_ret (de_c pe_bl (fun _ _ => rfl)))) dss_nil) (dss_one (ds_ret (de_and (de_cmp (opd_cmp op_gt) (de_blt (cd_sum hK rfl) rfl W.n_sum bt_sum (da_cons (de_slc hK (de_var rfl (.inl rfl) rfl rfl) do_none (do_some (de_var rfl (.inl rfl) rfl rfl))) da_nil rfl) (by decide) rfl rfl rfl) (de_c pe_int (fun _ _ => rfl)) rfl) (de_one (de_cmp (opd_eq hK hr.units) (de_ix hK (de_var rfl (.inl rfl) rfl rfl) (de_bin (opd_add hK) (de_var rfl (.inl rfl) rfl rfl) (de_var rfl (.inl rfl) rfl rfl)) (fun _ _ => rfl)) (de_c pe_int (fun _ _ => rfl)) rfl))))))))
/-! ### are_rows -/
abbrev s_are_rows : Stmt := top 29
def N_are_rows : List Str := ["things", "products", "centre", "thing"]
def d_are_rows : FB := bRet (fBlt dAll (fCons (fNew (nLc [2, 3] (.tp [2, 3]) (sEnm (fCons (fVar 0) (fNil))) (fYes) (fCall g_is_row [] (fCons (fVar 3) (fCons (fVar 1) (fCons (fBlt dLen (fCons (fVar 0) fNil)) (fCons (fVar 2) (fNil)))))))) (fNil)))
def g_are_rows : FG := fnD 4 [] d_are_rows
theorem nd_are_rows : N_are_rows.Nodup := by decide +kernel
theorem sc_are_rows : FnScope N_are_rows ["things", "products"] (defScope s_are_rows) := ⟨rfl, rfl, rfl, nd_are_rows, rfl, by decide +kernel, by decide +kernel⟩
theorem ok_are_rows {P : Program} {w : World} {K : PySem.W.Frag} {mg : Str → Option Value} {base : Heap} (W : Ws K mg) : Def1 P w K mg base (TT K) 4 (He.ga K "are_rows") ["things", "products"] g_are_rows := by
  obtain ⟨fd, Fd⟩ := W.f_are_rows
  exact FunD.def1 (N := N_are_rows) (ps := ["things", "products"]) (asg := []) (fb := d_are_rows) Fd sc_are_rows (fun _ _ _ _ _ _ us hl => match us, hl with | [_, _], _ => rfl) (fun cdv A outer s H E hr F hK hT hpa => (dss_one (ds_ret (de_blt (cd_all hK rfl) rfl W.n_all bt_all (da_cons (de_new (dn_lcI [("centre", 2), ("thing", 3)] rfl hK rfl nd_are_rows (di_enm hK rfl W.n_enumerate (da_cons (de_var rfl (.inr (.inl rfl)) rfl rfl) da_nil rfl) rfl (faLen_cons faLen_nil).eq) (blkB_ok rfl) (by decide) (fun _ _ _ _ _ _ hK1 hT1 => (dg_tup hK1 rfl (dgs_cons (dg_name nd_are_rows rfl (.inl rfl) (.inr rfl)) (dgs_cons (dg_name nd_are_rows rfl (.inl rfl) (.inr rfl)) dgs_nil rfl) rfl) rfl rfl rfl)) (fun _ _ _ _ _ _ hK1 hT1 => dts_nil) (fun _ _ _ _ _ _ hK1 hT1 => (de_callO hK1 ((ok_is_row W).T (hT1.trans hT)) hr (by decide) rfl W.g_is_row (da_cons (de_var rfl (.inl rfl) rfl rfl) (da_cons (de_var rfl (.inr (.inl rfl)) rfl rfl) (da_cons (de_blt (cd_len hK1) rfl W.n_len bt_len (da_cons (de_var rfl (.inr (.inl rfl)) rfl rfl) da_nil rfl) (by decide) rfl rfl rfl) (da_cons (de_var rfl (.inl rfl) rfl rfl) da_nil rfl) rfl) rfl) rfl) (faLen_cons (faLen_cons (faLen_cons (faLen_cons faLen_nil)))) rfl rfl rfl rfl)) (fun _ => rfl))) da_nil rfl) (by decide) rfl rfl rfl))))
/-! ### Plan.__init__ -/
abbrev s_Plan___init__ : Stmt := inClass (top 31) 0
def N_Plan___init__ : List Str := ["self", "products", "rows"]
def d_Plan___init__ : FB := bSeq (bIf (fNot (fTest (fCall g_is_between [] (fCons (fVar 1) (fCons (fC (.int 1)) (fCons (fC (.int 4)) (fNil))))))) (bNo) (bNx)) (bSeq (bIf (fTest (fBin (dCmp fun i j => decide (j < i)) (fBlt dLen (fCons (fVar 2) fNil)) (fC (.int 4)))) (bNo) (bNx)) (bSeq (bIf (fOr (fTest (fBin (dEq) (fVar 2) (fDisp .tup (fNil)))) (fNot (fTest (fCall g_are_rows [] (fCons (fVar 2) (fCons (fVar 1) (fNil))))))) (bNo) (bNx)) (bTgs [(.at_ 0 0 0), (.at_ 0 0 1)] (fDisp .tup (fCons (fVar 1) (fCons (fVar 2) (fNil)))))))
def g_Plan___init__ : FG := fnD 3 [] d_Plan___init__
theorem nd_Plan___init__ : N_Plan___init__.Nodup := by decide +kernel
theorem sc_Plan___init__ : FnScope N_Plan___init__ ["self", "products", "rows"] (defScope s_Plan___init__) := ⟨rfl, rfl, rfl, nd_Plan___init__, rfl, by decide +kernel, by decide +kernel⟩
def i_Plan___init__ : List D → Option (List D) := initS 0 1 g_Plan___init__
theorem ok_Plan___init__ {P : Program} {w : World} {K : PySem.W.Frag} {mg : Str → Option Value} {base : Heap} (W : Ws K mg) : FnR P w K mg base CX0 5 (He.ma K (He.ga K "Plan") "__init__") (spMk K (TT K) 0 i_Plan___init__) := by
  obtain ⟨fd, Fd⟩ := W.f_Plan___init__
  exact fnR_starD (N := N_Plan___init__) (ps := ["self", "products"]) (pv := "rows") (asg := []) (fb := d_Plan___init__) Fd sc_Plan___init__ rfl (fun kV doc pm an cdv ct => StX.bind_star2 (B := fun us => bindArgs (PySem.W.fnOf "__init__" "Plan.__init__" _ _ _ .none kV doc pm an cdv ct) ⟨us, []⟩) (fun _ _ => rfl) (fun _ _ _ _ => rfl)) (fun cdv A outer s H E hr F hK hT hpa => (dss_cons (ds_if (dt_not (dt_val (de_callO hK ((ok_is_between W).T hT) hr (by decide) rfl W.g_is_between (da_cons (de_var rfl (.inl rfl) rfl rfl) (da_cons (de_c pe_int (fun _ _ => rfl)) (da_cons (de_glob rfl W.i_MOST.choose_spec (show RelV (.int 4) _ from ⟨_, rfl⟩) rfl (fun _ _ => rfl)) da_nil rfl) rfl) rfl) (faLen_cons (faLen_cons (faLen_cons faLen_nil))) rfl rfl rfl rfl) (fun _ => rfl))) (dss_one ds_never) dss_nil) (dss_cons (ds_if (dt_cmp (opd_cmp op_gt) (de_blt (cd_len hK) rfl W.n_len bt_len (da_cons (de_var rfl (.inl rfl) rfl rfl) da_nil rfl) (by decide) rfl rfl rfl) (de_glob rfl W.i_MOST.choose_spec (show RelV (.int 4) _ from ⟨_, rfl⟩) rfl (fun _ _ => rfl)) rfl) (dss_one ds_never) dss_nil) (dss_cons (ds_if (PW.pt (dw_or (dt_cmp (opd_eq hK hr.units) (de_var rfl (.inl rfl) rfl rfl) (de_tup da_nil) rfl) (dw_or1 (dt_not (dt_val (de_callO hK ((ok_are_rows W).T hT) hr (by decide) rfl W.g_are_rows (da_cons (de_var rfl (.inl rfl) rfl rfl) (da_cons (de_var rfl (.inl rfl) rfl rfl) da_nil rfl) rfl) (faLen_cons (faLen_cons faLen_nil)) rfl rfl rfl rfl) (fun _ => rfl)))))) (dss_one ds_never) dss_nil) (dss_one (ds_tgs hK rfl (de_tup (da_cons (de_var rfl (.inl rfl) rfl rfl) (da_cons (de_var rfl (.inl rfl) rfl rfl) da_nil rfl) rfl)) (dts_cons (dt_at hK (ckT hT W.c_Plan) (flT hT rfl) rfl (.inl rfl) rfl rfl) (dts_cons (dt_at hK (ckT hT W.c_Plan) (flT hT rfl) rfl (.inl rfl) rfl rfl) dts_nil' rfl) rfl) rfl rfl rfl rfl rfl rfl (by simp [Tg.free])))))))
/-! ### Plan.read -/
abbrev s_Plan_read : Stmt := inClass (top 31) 2
def N_Plan_read : List Str := ["cls", "text", "first", "lines", "products", "rows", "line", "word"]
def d_Plan_read : FB := bSeq (bIf (fOr (fNot (fTest (fIsi (tyIs "str") (fVar 1)))) (fOr (fNot (fTest (fSM smStarts (fVar 1) (fC (.str "products "))))) (fNot (fTest (fSM smEnds (fVar 1) (fC (.str "\n"))))))) (bNo) (bNx)) (bSeq (bStar 2 3 (fSM smSplit (fSlc (fVar 1) (fPart (fBlt dLen (fCons (fC (.str "products ")) fNil))) (fPart (fUn dNeg (fC (.int 1))))) (fC (.str "\n")))) (bSeq (bPar [4, 5] (mDat (fCall g_number_in [] (fCons (fVar 2) (fNil))) (mDat (fNew (nLc [6] (.nm 6) (sItm (fVar 3)) (fYes) (fBlt dTuple (fCons (fNew (nLc [7] (.nm 7) (sItm (fSM smSplit (fVar 6) (fC (.str " ")))) (fYes) (fCall g_number_in [] (fCons (fVar 7) (fNil))))) (fNil))))) (mNil)))) (bSeq (bIf (fOr (fNot (fTest (fCall g_is_between [] (fCons (fVar 4) (fCons (fC (.int 1)) (fCons (fC (.int 4)) (fNil))))))) (fOr (fNot (fTest (fChain (dCmp fun i j => decide (i ≤ j)) (dCmp fun i j => decide (i ≤ j)) (fC (.int 1)) (fBlt dLen (fCons (fVar 5) fNil)) (fC (.int 4))))) (fNot (fTest (fCall g_are_rows [] (fCons (fVar 5) (fCons (fVar 4) (fNil)))))))) (bNo) (bNx)) (bRet (fMakeL 0 0 i_Plan___init__ (fCons (fVar 4) (fStar (fVar 5) (fNil))))))))
def g_Plan_read : FG := fnD 8 [] d_Plan_read
theorem nd_Plan_read : N_Plan_read.Nodup := by decide +kernel
theorem sc_Plan_read : FnScope N_Plan_read ["cls", "text"] (defScope s_Plan_read) := ⟨rfl, rfl, rfl, nd_Plan_read, rfl, by decide +kernel, by decide +kernel⟩
theorem ok_Plan_read {P : Program} {w : World} {K : PySem.W.Frag} {mg : Str → Option Value} {base : Heap} (W : Ws K mg) : Def1 P w K mg base (TT K) 7 (cmAd K "Plan" "read") ["cls", "text"] g_Plan_read := by
  obtain ⟨fd, Fd⟩ := W.f_Plan_read
  exact FunD.def1 (N := N_Plan_read) (ps := ["cls", "text"]) (asg := []) (fb := d_Plan_read) Fd sc_Plan_read (fun _ _ _ _ _ _ us hl => match us, hl with | [_, _], _ => rfl) (fun cdv A outer s H E hr F hK hT hpa => (dss_cons (ds_if (PW.pt (dw_or (dt_not (dt_val (de_isi hK rfl W.n_isinstance bt_isinstance (by decide) rfl (pe_tyN rfl W.n_str bt_str (by decide) rfl) (de_var rfl (.inl rfl) rfl rfl) rfl rfl rfl) (fun _ => rfl))) (dw_or (dt_not (dt_val (de_sm PySem.F.slot_str_startswith PySem.F.type_str_startswith ms_starts (de_var rfl (.inl rfl) rfl rfl) (de_glob rfl W.i_HEAD.choose_spec (show RelV (.str "products ") _ from ⟨_, rfl⟩) rfl (fun _ _ => rfl)) rfl rfl rfl rfl rfl) (fun _ => rfl))) (dw_or1 (dt_not (dt_val (de_sm PySem.F.slot_str_endswith PySem.F.type_str_endswith ms_ends (de_var rfl (.inl rfl) rfl rfl) (de_c pe_str (fun _ _ => rfl)) rfl rfl rfl rfl rfl) (fun _ => rfl))))))) (dss_one ds_never) dss_nil) (dss_cons (ds_star hK rfl (de_sm PySem.F.slot_str_split PySem.F.type_str_split ms_split (de_slc hK (de_var rfl (.inl rfl) rfl rfl) (do_some (de_blt (cd_len hK) rfl W.n_len bt_len (da_cons (de_glob rfl W.i_HEAD.choose_spec (show RelV (.str "products ") _ from ⟨_, rfl⟩) rfl (fun _ _ => rfl)) da_nil rfl) (by decide) rfl rfl rfl)) (do_some (de_un und_neg (de_c pe_int (fun _ _ => rfl))))) (de_c pe_str (fun _ _ => rfl)) rfl rfl rfl rfl rfl) (dg_name nd_Plan_read rfl (.inl rfl) (.inl rfl)) (dg_name nd_Plan_read rfl (.inl rfl) (.inl rfl)) (hpa.not (i := 2) rfl) (hpa.not (i := 3) rfl) rfl rfl rfl rfl rfl rfl rfl rfl) (dss_cons (ds_par2 rfl nd_Plan_read rfl rfl (by decide) rfl rfl (dm_dat (de_callO hK ((ok_number_in W).T hT) hr (by decide) rfl W.g_number_in (da_cons (de_var rfl (.inl rfl) rfl rfl) da_nil rfl) (faLen_cons faLen_nil) rfl rfl rfl rfl) (dm_dat (de_new (dn_lcI [("line", 6)] rfl hK rfl nd_Plan_read (di_itm hK (de_var rfl (.inl rfl) rfl rfl)) (blkB_ok rfl) (by decide) (fun _ _ _ _ _ _ hK1 hT1 => (dg_name nd_Plan_read rfl (.inl rfl) (.inr rfl))) (fun _ _ _ _ _ _ hK1 hT1 => dts_nil) (fun _ _ _ _ _ _ hK1 hT1 => (de_bty (cd_tuple hK1) rfl W.n_tuple bt_tuple (da_cons (de_new (dn_lcI [("word", 7)] rfl hK1 rfl nd_Plan_read (di_itm hK1 (de_sm PySem.F.slot_str_split PySem.F.type_str_split ms_split (de_var rfl (.inl rfl) rfl rfl) (de_c pe_str (fun _ _ => rfl)) rfl rfl rfl rfl rfl)) (blkB_ok rfl) (by decide) (fun _ _ _ _ _ _ hK2 hT2 => (dg_name nd_Plan_read rfl (.inl rfl) (.inr rfl))) (fun _ _ _ _ _ _ hK2 hT2 => dts_nil) (fun _ _ _ _ _ _ hK2 hT2 => (de_callO hK2 ((ok_number_in W).T (hT2.trans (hT1.trans hT))) hr (by decide) rfl W.g_number_in (da_cons (de_var rfl (.inl rfl) rfl rfl) da_nil rfl) (faLen_cons faLen_nil) rfl rfl rfl rfl)) (fun _ => rfl))) da_nil rfl) (by decide) rfl rfl rfl)) (fun _ => rfl))) dm_nil rfl) rfl) rfl rfl (hpa.nots rfl)) (dss_cons (ds_if (PW.pt (dw_or (dt_not (dt_val (de_callO hK ((ok_is_between W).T hT) hr (by decide) rfl W.g_is_between (da_cons (de_var rfl (.inl rfl) rfl rfl) (da_cons (de_c pe_int (fun _ _ => rfl)) (da_cons (de_glob rfl W.i_MOST.choose_spec (show RelV (.int 4) _ from ⟨_, rfl⟩) rfl (fun _ _ => rfl)) da_nil rfl) rfl) rfl) (faLen_cons (faLen_cons (faLen_cons faLen_nil))) rfl rfl rfl rfl) (fun _ => rfl))) (dw_or (dt_not (dt_chain (opd_cmp op_le) (opd_cmp op_le) (de_c pe_int (fun _ _ => rfl)) (de_blt (cd_len hK) rfl W.n_len bt_len (da_cons (de_var rfl (.inl rfl) rfl rfl) da_nil rfl) (by decide) rfl rfl rfl) (de_glob rfl W.i_MOST.choose_spec (show RelV (.int 4) _ from ⟨_, rfl⟩) rfl (fun _ _ => rfl)) rfl)) (dw_or1 (dt_not (dt_val (de_callO hK ((ok_are_rows W).T hT) hr (by decide) rfl W.g_are_rows (da_cons (de_var rfl (.inl rfl) rfl rfl) (da_cons (de_var rfl (.inl rfl) rfl rfl) da_nil rfl) rfl) (faLen_cons (faLen_cons faLen_nil)) rfl rfl rfl rfl) (fun _ => rfl))))))) (dss_one ds_never) dss_nil) (dss_one (ds_ret (mkL hK hT W.m_Plan (ok_Plan___init__ W) hr (by decide) rfl (.inl rfl) (da_cons (de_var rfl (.inl rfl) rfl rfl) (da_star (de_var rfl (.inl rfl) rfl rfl) da_nil hK) rfl) rfl rfl rfl rfl))))))))
/-! ### _law_net -/
abbrev s__law_net : Stmt := top 53
def N__law_net : List Str := ["_law_goods", "_law_rows", "_law_lines", "_law_row", "_law_line", "_law_one"]
def d__law_net : FB := bSeq (bSet 2 (fBin dAdd (fNew (nDisp (fCons (fBin dAdd (fC (.str "products ")) (fBlt dStr (fCons (fVar 0) (fNil)))) (fNil)))) (fNew (nLc [3] (.nm 3) (sItm (fVar 1)) (fYes) (fSM smJoin (fC (.str " ")) (fNew (nLc [5] (.nm 5) (sItm (fVar 3)) (fYes) (fBlt dStr (fCons (fVar 5) (fNil)))))))))) (bRet (fCM 0 g_Plan_read (fCons (fSM smJoin (fC (.str "")) (fNew (nLc [4] (.nm 4) (sItm (fVar 2)) (fYes) (fBin dAdd (fVar 4) (fC (.str "\n")))))) (fNil))))
def g__law_net : FG := fnD 6 [] d__law_net
theorem nd__law_net : N__law_net.Nodup := by decide +kernel
theorem sc__law_net : FnScope N__law_net ["_law_goods", "_law_rows"] (defScope s__law_net) := ⟨rfl, rfl, rfl, nd__law_net, rfl, by decide +kernel, by decide +kernel⟩
theorem ok__law_net {P : Program} {w : World} {K : PySem.W.Frag} {mg : Str → Option Value} {base : Heap} (W : Ws K mg) : Def1 P w K mg base (TT K) 8 (He.ga K "_law_net") ["_law_goods", "_law_rows"] g__law_net := by
  obtain ⟨fd, Fd⟩ := W.f__law_net
  exact FunD.def1 (N := N__law_net) (ps := ["_law_goods", "_law_rows"]) (asg := []) (fb := d__law_net) Fd sc__law_net (fun _ _ _ _ _ _ us hl => match us, hl with | [_, _], _ => rfl) (fun cdv A outer s H E hr F hK hT hpa => (dss_cons (ds_set nd__law_net rfl (.inl rfl) (de_bin (opd_add hK) (de_new (dn_lst (da_cons (de_bin (opd_add hK) (de_c pe_str (fun _ _ => rfl)) (de_bty (cd_str hK) rfl W.n_str bt_str (da_cons (de_var rfl (.inl rfl) rfl rfl) da_nil rfl) (by decide) rfl rfl rfl)) da_nil rfl))) (de_new (dn_lcI [("_law_row", 3)] rfl hK rfl nd__law_net (di_itm hK (de_var rfl (.inl rfl) rfl rfl)) (blkB_ok rfl) (by decide) (fun _ _ _ _ _ _ hK1 hT1 => (dg_name nd__law_net rfl (.inl rfl) (.inr rfl))) (fun _ _ _ _ _ _ hK1 hT1 => dts_nil) (fun _ _ _ _ _ _ hK1 hT1 => (de_sm PySem.F.slot_str_join PySem.F.type_str_join (ms_join hK1) (de_c pe_str (fun _ _ => rfl)) (de_new (dn_lcI [("_law_one", 5)] rfl hK1 rfl nd__law_net (di_itm hK1 (de_var rfl (.inl rfl) rfl rfl)) (blkB_ok rfl) (by decide) (fun _ _ _ _ _ _ hK2 hT2 => (dg_name nd__law_net rfl (.inl rfl) (.inr rfl))) (fun _ _ _ _ _ _ hK2 hT2 => dts_nil) (fun _ _ _ _ _ _ hK2 hT2 => (de_bty (cd_str hK2) rfl W.n_str bt_str (da_cons (de_var rfl (.inl rfl) rfl rfl) da_nil rfl) (by decide) rfl rfl rfl)) (fun _ => rfl))) rfl rfl rfl rfl rfl)) (fun _ => rfl)))) rfl (.inl rfl) (hpa.not (i := 2) rfl)) (dss_one (ds_ret (cmD hK hT W.q_Plan W.w_Plan_read (ok_Plan_read W) hr (by decide) (pe_glob rfl W.g_Plan rfl rfl) (da_cons (de_sm PySem.F.slot_str_join PySem.F.type_str_join (ms_join hK) (de_c pe_str (fun _ _ => rfl)) (de_new (dn_lcI [("_law_line", 4)] rfl hK rfl nd__law_net (di_itm hK (de_var rfl (.inl rfl) rfl rfl)) (blkB_ok rfl) (by decide) (fun _ _ _ _ _ _ hK1 hT1 => (dg_name nd__law_net rfl (.inl rfl) (.inr rfl))) (fun _ _ _ _ _ _ hK1 hT1 => dts_nil) (fun _ _ _ _ _ _ hK1 hT1 => (de_bin (opd_add hK1) (de_var rfl (.inl rfl) rfl rfl) (de_c pe_str (fun _ _ => rfl)))) (fun _ => rfl))) rfl rfl rfl rfl rfl) da_nil rfl) (faLen_cons faLen_nil) rfl rfl rfl rfl)))))
/-! ### _law_spent -/
abbrev s__law_spent : Stmt := top 57
def N__law_spent : List Str := ["_law_pen_here", "_law_size", "_law_lap"]
def d__law_spent : FB := bRet (fBlt dTuple (fCons (fNew (nLc [2] (.nm 2) (sRng (fCons (fVar 1) (fNil))) (fYes) (fBin dIdx (fNew (nDisp (fCons (fC (.int 0)) (fCons (fC (.int 1)) (fCons (fC (.int 7)) (fCons (fC (.int 60)) (fCons (fC (.int 1000000)) (fCons (fCall g__law_draw [] (fCons (fVar 0) (fCons (fC (.int 1000001)) (fNil)))) (fNil))))))))) (fCall g__law_draw [] (fCons (fVar 0) (fCons (fC (.int 6)) (fNil))))))) (fNil)))
def g__law_spent : FG := fnD 3 [] d__law_spent
theorem nd__law_spent : N__law_spent.Nodup := by decide +kernel
theorem sc__law_spent : FnScope N__law_spent ["_law_pen_here", "_law_size"] (defScope s__law_spent) := ⟨rfl, rfl, rfl, nd__law_spent, rfl, by decide +kernel, by decide +kernel⟩
theorem ok__law_spent {P : Program} {w : World} {K : PySem.W.Frag} {mg : Str → Option Value} {base : Heap} (W : Ws K mg) : Def1 P w K mg base (TT K) 2 (He.ga K "_law_spent") ["_law_pen_here", "_law_size"] g__law_spent := by
  obtain ⟨fd, Fd⟩ := W.f__law_spent
  exact FunD.def1 (N := N__law_spent) (ps := ["_law_pen_here", "_law_size"]) (asg := []) (fb := d__law_spent) Fd sc__law_spent (fun _ _ _ _ _ _ us hl => match us, hl with | [_, _], _ => rfl) (fun cdv A outer s H E hr F hK hT hpa => (dss_one (ds_ret (de_bty (cd_tuple hK) rfl W.n_tuple bt_tuple (da_cons (de_new (dn_lcI [("_law_lap", 2)] rfl hK rfl nd__law_spent (di_rng1 rfl W.n_range (da_cons (de_var rfl (.inl rfl) rfl rfl) da_nil rfl) rfl (faLen_cons faLen_nil).eq) (blkB_ok rfl) (by decide) (fun _ _ _ _ _ _ hK1 hT1 => (dg_name nd__law_spent rfl (.inl rfl) (.inr rfl))) (fun _ _ _ _ _ _ hK1 hT1 => dts_nil) (fun _ _ _ _ _ _ hK1 hT1 => (de_ix hK1 (de_new (dn_lst (da_cons (de_c pe_int (fun _ _ => rfl)) (da_cons (de_c pe_int (fun _ _ => rfl)) (da_cons (de_c pe_int (fun _ _ => rfl)) (da_cons (de_c pe_int (fun _ _ => rfl)) (da_cons (de_c pe_int (fun _ _ => rfl)) (da_cons (de_callO hK1 ((ok__law_draw W).T (hT1.trans hT)) hr (by decide) rfl W.g__law_draw (da_cons (de_var rfl (.inr (.inl rfl)) rfl rfl) (da_cons (de_c pe_int (fun _ _ => rfl)) da_nil rfl) rfl) (faLen_cons (faLen_cons faLen_nil)) rfl rfl rfl rfl) da_nil rfl) rfl) rfl) rfl) rfl) rfl))) (de_callO hK1 ((ok__law_draw W).T (hT1.trans hT)) hr (by decide) rfl W.g__law_draw (da_cons (de_var rfl (.inr (.inl rfl)) rfl rfl) (da_cons (de_c pe_int (fun _ _ => rfl)) da_nil rfl) rfl) (faLen_cons (faLen_cons faLen_nil)) rfl rfl rfl rfl) (fun _ _ => rfl))) (fun _ => rfl))) da_nil rfl) (by decide) rfl rfl rfl))))
/-! ### _law_turns -/
abbrev s__law_turns : Stmt := top 59
def N__law_turns : List Str := ["_law_size", "_law_found", "_law_lap", "_law_longer", "_law_row", "_law_one"]
def d__law_turns : FB := bSeq (bSet 1 (fNew (nDisp (fCons (fDisp .tup (fNil)) (fNil))))) (bSeq (bFor (.nm 2) (sRng (fCons (fVar 0) (fNil))) (bSeq (bOwn 3 (nDisp (fNil))) (bSeq (bFor (.nm 4) (sItm (fVar 1)) (bExp (fLM lmExt 3 (fNew (nLc [5] (.nm 5) (sRng (fCons (fVar 0) (fNil))) (fTest (fBin (dNotIn) (fVar 5) (fVar 4))) (fBin dAdd (fVar 4) (fDisp .tup (fCons (fVar 5) (fNil))))))))) (bSeq (bFrz 3) (bSet 1 (fVar 3)))))) (bRet (fVar 1)))
def g__law_turns : FG := fnD 6 [] d__law_turns
theorem nd__law_turns : N__law_turns.Nodup := by decide +kernel
theorem sc__law_turns : FnScope N__law_turns ["_law_size"] (defScope s__law_turns) := ⟨rfl, rfl, rfl, nd__law_turns, rfl, by decide +kernel, by decide +kernel⟩
theorem ok__law_turns {P : Program} {w : World} {K : PySem.W.Frag} {mg : Str → Option Value} {base : Heap} (W : Ws K mg) : Def1 P w K mg base (TT K) 1 (He.ga K "_law_turns") ["_law_size"] g__law_turns := by
  obtain ⟨fd, Fd⟩ := W.f__law_turns
  exact FunD.def1 (N := N__law_turns) (ps := ["_law_size"]) (asg := []) (fb := d__law_turns) Fd sc__law_turns (fun _ _ _ _ _ _ us hl => match us, hl with | [_], _ => rfl) (fun cdv A outer s H E hr F hK hT hpa => (dss_cons (ds_set nd__law_turns rfl (.inl rfl) (de_new (dn_lst (da_cons (de_tup da_nil) da_nil rfl))) rfl (.inl rfl) (hpa.not (i := 1) rfl)) (dss_cons (ds_for bodyCx_own rfl (di_rng1 rfl W.n_range (da_cons (de_var rfl (.inl rfl) rfl rfl) da_nil rfl) rfl (faLen_cons faLen_nil).eq) (dg_name nd__law_turns rfl (.inl rfl) (.inl rfl)) (dss_cons (ds_own nd__law_turns rfl (.inl rfl) (dn_lst da_nil) rfl (.inl rfl) (hpa.not (i := 3) rfl)) (dss_cons (ds_for bodyCx_own rfl (di_itm hK (de_var rfl (.inl rfl) rfl rfl)) (dg_name nd__law_turns rfl (.inr rfl) (.inl rfl)) (dss_one (ds_expr (de_lm hK PySem.F.slot_list_extend PySem.F.type_list_extend md_ext rfl (.inl rfl) rfl rfl (de_new (dn_lcI [("_law_one", 5)] rfl hK rfl nd__law_turns (di_rng1 rfl W.n_range (da_cons (de_var rfl (.inl rfl) rfl rfl) da_nil rfl) rfl (faLen_cons faLen_nil).eq) (blkB_ok rfl) (by decide) (fun _ _ _ _ _ _ hK1 hT1 => (dg_name nd__law_turns rfl (.inl rfl) (.inr rfl))) (fun _ _ _ _ _ _ hK1 hT1 => (dts_one (dt_cmp (opd_notIn hK1) (de_var rfl (.inl rfl) rfl rfl) (de_var rfl (.inr (.inl rfl)) rfl rfl) rfl))) (fun _ _ _ _ _ _ hK1 hT1 => (de_bin (opd_add hK1) (de_var rfl (.inr (.inl rfl)) rfl rfl) (de_tup (da_cons (de_var rfl (.inl rfl) rfl rfl) da_nil rfl)))) (fun _ => rfl))) rfl rfl rfl rfl rfl) rfl)) (fun _ => rfl) (hpa.nots rfl)) (dss_frz (dss_one (ds_set nd__law_turns rfl (.inl rfl) (de_var rfl (.inl rfl) rfl rfl) rfl (.inl rfl) (hpa.not (i := 1) rfl))) (hpa.not (i := 3) rfl)))) (fun _ => rfl) (hpa.nots rfl)) (dss_one (ds_ret (de_var rfl (.inl rfl) rfl rfl))))))
/-! ### _law_ratio -/
abbrev s__law_ratio : Stmt := top 54
def N__law_ratio : List Str := ["_law_top", "_law_bottom", "_law_one", "_law_other"]
def d__law_ratio : FB := bSeq (bPar [2, 3] (mDat (fBlt dAbs (fCons (fVar 0) (fNil))) (mDat (fVar 1) (mNil)))) (bSeq (bWh (fuelI 3) (fTest (fBin (dNe) (fVar 3) (fC (.int 0)))) (bPar [2, 3] (mDat (fVar 3) (mDat (fBin dMod (fVar 2) (fVar 3)) (mNil))))) (bRet (fDisp .tup (fCons (fBin dDiv (fVar 0) (fVar 2)) (fCons (fBin dDiv (fVar 1) (fVar 2)) (fNil))))))
def g__law_ratio : FG := fnD 4 [] d__law_ratio
theorem nd__law_ratio : N__law_ratio.Nodup := by decide +kernel
theorem sc__law_ratio : FnScope N__law_ratio ["_law_top", "_law_bottom"] (defScope s__law_ratio) := ⟨rfl, rfl, rfl, nd__law_ratio, rfl, by decide +kernel, by decide +kernel⟩
theorem ok__law_ratio {P : Program} {w : World} {K : PySem.W.Frag} {mg : Str → Option Value} {base : Heap} (W : Ws K mg) : Def1 P w K mg base (TT K) 1 (He.ga K "_law_ratio") ["_law_top", "_law_bottom"] g__law_ratio := by
  obtain ⟨fd, Fd⟩ := W.f__law_ratio
  exact FunD.def1 (N := N__law_ratio) (ps := ["_law_top", "_law_bottom"]) (asg := []) (fb := d__law_ratio) Fd sc__law_ratio (fun _ _ _ _ _ _ us hl => match us, hl with | [_, _], _ => rfl) (fun cdv A outer s H E hr F hK hT hpa => (dss_cons (ds_par2 rfl nd__law_ratio rfl rfl (by decide) rfl rfl (dm_dat (de_blt (cd_abs hK) rfl W.n_abs bt_abs (da_cons (de_var rfl (.inl rfl) rfl rfl) da_nil rfl) (by decide) rfl rfl rfl) (dm_dat (de_var rfl (.inl rfl) rfl rfl) dm_nil rfl) rfl) rfl rfl (hpa.nots rfl)) (dss_cons (ds_while bodyCx_own (dt_cmp (opd_ne hK hr.units) (de_var rfl (.inl rfl) rfl rfl) (de_c pe_int (fun _ _ => rfl)) rfl) (dss_one (ds_par2 rfl nd__law_ratio rfl rfl (by decide) rfl rfl (dm_dat (de_var rfl (.inl rfl) rfl rfl) (dm_dat (de_bin (opd_mod hK) (de_var rfl (.inl rfl) rfl rfl) (de_var rfl (.inl rfl) rfl rfl)) dm_nil rfl) rfl) rfl rfl (hpa.nots rfl)))) (dss_one (ds_ret (de_tup (da_cons (de_bin (opd_div hK) (de_var rfl (.inl rfl) rfl rfl) (de_var rfl (.inl rfl) rfl rfl)) (da_cons (de_bin (opd_div hK) (de_var rfl (.inl rfl) rfl rfl) (de_var rfl (.inl rfl) rfl rfl)) da_nil rfl) rfl)))))))
/-! ### _law_plus -/
abbrev s__law_plus : Stmt := top 55
def N__law_plus : List Str := ["_law_one", "_law_other"]
def d__law_plus : FB := bRet (fCall g__law_ratio [] (fCons (fBin dAdd (fBin dMul (fBin dIdx (fVar 0) (fC (.int 0))) (fBin dIdx (fVar 1) (fC (.int 1)))) (fBin dMul (fBin dIdx (fVar 1) (fC (.int 0))) (fBin dIdx (fVar 0) (fC (.int 1))))) (fCons (fBin dMul (fBin dIdx (fVar 0) (fC (.int 1))) (fBin dIdx (fVar 1) (fC (.int 1)))) (fNil))))
def g__law_plus : FG := fnD 2 [] d__law_plus
theorem nd__law_plus : N__law_plus.Nodup := by decide +kernel
theorem sc__law_plus : FnScope N__law_plus ["_law_one", "_law_other"] (defScope s__law_plus) := ⟨rfl, rfl, rfl, nd__law_plus, rfl, by decide +kernel, by decide +kernel⟩
theorem ok__law_plus {P : Program} {w : World} {K : PySem.W.Frag} {mg : Str → Option Value} {base : Heap} (W : Ws K mg) : Def1 P w K mg base (TT K) 2 (He.ga K "_law_plus") ["_law_one", "_law_other"] g__law_plus := by
  obtain ⟨fd, Fd⟩ := W.f__law_plus
  exact FunD.def1 (N := N__law_plus) (ps := ["_law_one", "_law_other"]) (asg := []) (fb := d__law_plus) Fd sc__law_plus (fun _ _ _ _ _ _ us hl => match us, hl with | [_, _], _ => rfl) (fun cdv A outer s H E hr F hK hT hpa => (dss_one (ds_ret (de_callO hK ((ok__law_ratio W).T hT) hr (by decide) rfl W.g__law_ratio (da_cons (de_bin (opd_add hK) (de_bin (opd_mul hK) (de_ix hK (de_var rfl (.inl rfl) rfl rfl) (de_c pe_int (fun _ _ => rfl)) (fun _ _ => rfl)) (de_ix hK (de_var rfl (.inl rfl) rfl rfl) (de_c pe_int (fun _ _ => rfl)) (fun _ _ => rfl))) (de_bin (opd_mul hK) (de_ix hK (de_var rfl (.inl rfl) rfl rfl) (de_c pe_int (fun _ _ => rfl)) (fun _ _ => rfl)) (de_ix hK (de_var rfl (.inl rfl) rfl rfl) (de_c pe_int (fun _ _ => rfl)) (fun _ _ => rfl)))) (da_cons (de_bin (opd_mul hK) (de_ix hK (de_var rfl (.inl rfl) rfl rfl) (de_c pe_int (fun _ _ => rfl)) (fun _ _ => rfl)) (de_ix hK (de_var rfl (.inl rfl) rfl rfl) (de_c pe_int (fun _ _ => rfl)) (fun _ _ => rfl))) da_nil rfl) rfl) (faLen_cons (faLen_cons faLen_nil)) rfl rfl rfl rfl))))
/-! ### _law_by -/
abbrev s__law_by : Stmt := top 56
def N__law_by : List Str := ["_law_one", "_law_number", "_law_bottom"]
def d__law_by : FB := bRet (fCall g__law_ratio [] (fCons (fBin dMul (fBin dIdx (fVar 0) (fC (.int 0))) (fVar 1)) (fCons (fBin dMul (fBin dIdx (fVar 0) (fC (.int 1))) (fVar 2)) (fNil))))
def g__law_by : FG := fnD 3 [] d__law_by
theorem nd__law_by : N__law_by.Nodup := by decide +kernel
theorem sc__law_by : FnScope N__law_by ["_law_one", "_law_number", "_law_bottom"] (defScope s__law_by) := ⟨rfl, rfl, rfl, nd__law_by, rfl, by decide +kernel, by decide +kernel⟩
theorem ok__law_by {P : Program} {w : World} {K : PySem.W.Frag} {mg : Str → Option Value} {base : Heap} (W : Ws K mg) : Def1 P w K mg base (TT K) 2 (He.ga K "_law_by") ["_law_one", "_law_number", "_law_bottom"] g__law_by := by
  obtain ⟨fd, Fd⟩ := W.f__law_by
  exact FunD.def1 (N := N__law_by) (ps := ["_law_one", "_law_number", "_law_bottom"]) (asg := []) (fb := d__law_by) Fd sc__law_by (fun _ _ _ _ _ _ us hl => match us, hl with | [_, _, _], _ => rfl) (fun cdv A outer s H E hr F hK hT hpa => (dss_one (ds_ret (de_callO hK ((ok__law_ratio W).T hT) hr (by decide) rfl W.g__law_ratio (da_cons (de_bin (opd_mul hK) (de_ix hK (de_var rfl (.inl rfl) rfl rfl) (de_c pe_int (fun _ _ => rfl)) (fun _ _ => rfl)) (de_var rfl (.inl rfl) rfl rfl)) (da_cons (de_bin (opd_mul hK) (de_ix hK (de_var rfl (.inl rfl) rfl rfl) (de_c pe_int (fun _ _ => rfl)) (fun _ _ => rfl)) (de_var rfl (.inl rfl) rfl rfl)) da_nil rfl) rfl) (faLen_cons (faLen_cons faLen_nil)) rfl rfl rfl rfl))))
/-! ### _law_shut -/
abbrev s__law_shut : Stmt := top 58
def N__law_shut : List Str := ["_law_goods", "_law_rows", "_law_state", "_law_centre", "_law_spent_here", "_law_had", "_law_borne", "_law_shut_here", "_law_row", "_law_mine", "_law_after", "_law_rest", "_law_bottom", "_law_at", "_law_one", "_law_weight_here"]
def d__law_shut : FB := bSeq (bBind (.tp [4, 5, 6, 7]) (fVar 2)) (bSeq (bPar [8, 9, 10] (mDat (fBin dIdx (fVar 1) (fVar 3)) (mDat (fBin dIdx (fVar 5) (fVar 3)) (mNew (nDisp (fNil)) (mNil))))) (bSeq (bSet 11 (fNew (nLc [14] (.nm 14) (sRng (fCons (fBlt dLen (fCons (fVar 1) fNil)) (fNil))) (fAnd (fTest (fBin (dNe) (fVar 14) (fVar 3))) (fTest (fBin (dNotIn) (fVar 14) (fVar 7)))) (fVar 14)))) (bSeq (bSet 12 (fBin dAdd (fBlt dSum (fCons (fSlc (fVar 8) (fNoPart) (fPart (fVar 0))) (fNil))) (fBlt dSum (fCons (fNew (nLc [14] (.nm 14) (sItm (fVar 11)) (fYes) (fBin dIdx (fVar 8) (fBin dAdd (fVar 0) (fVar 14))))) (fNil))))) (bSeq (bSet 6 (fBlt dTuple (fCons (fNew (nLc [14, 15] (.tp [14, 15]) (sZip (fCons (fVar 6) (fCons (fVar 8) (fNil)))) (fYes) (fCall g__law_plus [] (fCons (fVar 14) (fCons (fCall g__law_by [] (fCons (fVar 9) (fCons (fVar 15) (fCons (fVar 12) (fNil))))) (fNil)))))) (fNil)))) (bSeq (bFor (.tp [13, 14]) (sEnm (fCons (fVar 5) (fNil))) (bExp (fLM lmApp 10 (fIf (fTest (fBin (dIn) (fVar 13) (fVar 11))) (fCall g__law_plus [] (fCons (fVar 14) (fCons (fCall g__law_by [] (fCons (fVar 9) (fCons (fBin dIdx (fVar 8) (fBin dAdd (fVar 0) (fVar 13))) (fCons (fVar 12) (fNil))))) (fNil)))) (fDisp .tup (fCons (fC (.int 0)) (fCons (fC (.int 1)) (fNil)))))))) (bRet (fDisp .tup (fCons (fVar 4) (fCons (fBlt dTuple (fCons (fVar 10) (fNil))) (fCons (fVar 6) (fCons (fBin dAdd (fVar 7) (fDisp .tup (fCons (fVar 3) (fNil)))) (fNil))))))))))))
def g__law_shut : FG := fnD 16 [] d__law_shut
theorem nd__law_shut : N__law_shut.Nodup := by decide +kernel
theorem sc__law_shut : FnScope N__law_shut ["_law_goods", "_law_rows", "_law_state", "_law_centre"] (defScope s__law_shut) := ⟨rfl, rfl, rfl, nd__law_shut, rfl, by decide +kernel, by decide +kernel⟩
theorem ok__law_shut {P : Program} {w : World} {K : PySem.W.Frag} {mg : Str → Option Value} {base : Heap} (W : Ws K mg) : Def1 P w K mg base (TT K) 3 (He.ga K "_law_shut") ["_law_goods", "_law_rows", "_law_state", "_law_centre"] g__law_shut := by
  obtain ⟨fd, Fd⟩ := W.f__law_shut
  exact FunD.def1 (N := N__law_shut) (ps := ["_law_goods", "_law_rows", "_law_state", "_law_centre"]) (asg := []) (fb := d__law_shut) Fd sc__law_shut (fun _ _ _ _ _ _ us hl => match us, hl with | [_, _, _, _], _ => rfl) (fun cdv A outer s H E hr F hK hT hpa => (dss_cons (ds_bind (de_var rfl (.inl rfl) rfl rfl) (dg_tup hK rfl (dgs_cons (dg_name nd__law_shut rfl (.inl rfl) (.inl rfl)) (dgs_cons (dg_name nd__law_shut rfl (.inl rfl) (.inl rfl)) (dgs_cons (dg_name nd__law_shut rfl (.inl rfl) (.inl rfl)) (dgs_cons (dg_name nd__law_shut rfl (.inr rfl) (.inl rfl)) dgs_nil rfl) rfl) rfl) rfl) rfl rfl rfl) rfl rfl rfl (hpa.nots rfl)) (dss_cons (ds_parT (n := 3) hK rfl nd__law_shut (.cons rfl (.inr rfl) (.inl rfl) (.cons rfl (.inr rfl) (.inl rfl) (.cons rfl (.inl rfl) (.inl rfl) .nil rfl) rfl) rfl) (dm_dat (de_ix hK (de_var rfl (.inl rfl) rfl rfl) (de_var rfl (.inr (.inl rfl)) rfl rfl) (fun _ _ => rfl)) (dm_dat (de_ix hK (de_var rfl (.inl rfl) rfl rfl) (de_var rfl (.inr (.inl rfl)) rfl rfl) (fun _ _ => rfl)) (dm_new (dn_lst da_nil) (fun _ jK1 jT1 => dm_nil) rfl) rfl) rfl) rfl rfl rfl rfl rfl rfl (by decide) (hpa.nots rfl)) (dss_cons (ds_lcD (ps_lcI [("_law_one", 14)] rfl hK rfl nd__law_shut rfl rfl (sw_true rfl rfl rfl rfl) (di_rng1 rfl W.n_range (da_cons (de_blt (cd_len hK) rfl W.n_len bt_len (da_cons (de_var rfl (.inl rfl) rfl rfl) da_nil rfl) (by decide) rfl rfl rfl) da_nil rfl) rfl (faLen_cons faLen_nil).eq) (blkB_ok rfl) (by decide) (fun _ _ _ _ _ _ hK1 hT1 => (dg_name nd__law_shut rfl (.inl rfl) (.inr rfl))) (fun _ _ _ _ _ _ hK1 hT1 => (dts_one (PW.pt (dw_and (dt_cmp (opd_ne hK1 hr.units) (de_var rfl (.inl rfl) rfl rfl) (de_var rfl (.inr (.inl rfl)) rfl rfl) rfl) (dw_and1 (dt_cmp (opd_notIn hK1) (de_var rfl (.inl rfl) rfl rfl) (de_var rfl (.inr (.inl rfl)) rfl rfl) rfl)))))) (fun _ _ _ _ _ _ hK1 hT1 => (de_var rfl (.inl rfl) rfl rfl)) (fun _ => rfl)) (hpa.not (i := 11) rfl)) (dss_cons (ds_set nd__law_shut rfl (.inr rfl) (de_bin (opd_add hK) (de_blt (cd_sum hK rfl) rfl W.n_sum bt_sum (da_cons (de_slc hK (de_var rfl (.inr (.inl rfl)) rfl rfl) do_none (do_some (de_var rfl (.inr (.inl rfl)) rfl rfl))) da_nil rfl) (by decide) rfl rfl rfl) (de_blt (cd_sum hK rfl) rfl W.n_sum bt_sum (da_cons (de_new (dn_lcI [("_law_one", 14)] rfl hK rfl nd__law_shut (di_itm hK (de_var rfl (.inl rfl) rfl rfl)) (blkB_ok rfl) (by decide) (fun _ _ _ _ _ _ hK1 hT1 => (dg_name nd__law_shut rfl (.inl rfl) (.inr rfl))) (fun _ _ _ _ _ _ hK1 hT1 => dts_nil) (fun _ _ _ _ _ _ hK1 hT1 => (de_ix hK1 (de_var rfl (.inr (.inl rfl)) rfl rfl) (de_bin (opd_add hK1) (de_var rfl (.inr (.inl rfl)) rfl rfl) (de_var rfl (.inl rfl) rfl rfl)) (fun _ _ => rfl))) (fun _ => rfl))) da_nil rfl) (by decide) rfl rfl rfl)) rfl (.inl rfl) (hpa.not (i := 12) rfl)) (dss_cons (ds_set nd__law_shut rfl (.inl rfl) (de_bty (cd_tuple hK) rfl W.n_tuple bt_tuple (da_cons (de_new (dn_lcI [("_law_one", 14), ("_law_weight_here", 15)] rfl hK rfl nd__law_shut (di_zip hK rfl W.n_zip (da_cons (de_var rfl (.inl rfl) rfl rfl) (da_cons (de_var rfl (.inr (.inl rfl)) rfl rfl) da_nil rfl) rfl) rfl rfl (faLen_cons (faLen_cons faLen_nil)).eq) (blkB_ok rfl) (by decide) (fun _ _ _ _ _ _ hK1 hT1 => (dg_tup hK1 rfl (dgs_cons (dg_name nd__law_shut rfl (.inl rfl) (.inr rfl)) (dgs_cons (dg_name nd__law_shut rfl (.inl rfl) (.inr rfl)) dgs_nil rfl) rfl) rfl rfl rfl)) (fun _ _ _ _ _ _ hK1 hT1 => dts_nil) (fun _ _ _ _ _ _ hK1 hT1 => (de_callO hK1 ((ok__law_plus W).T (hT1.trans hT)) hr (by decide) rfl W.g__law_plus (da_cons (de_var rfl (.inl rfl) rfl rfl) (da_cons (de_callO hK1 ((ok__law_by W).T (hT1.trans hT)) hr (by decide) rfl W.g__law_by (da_cons (de_var rfl (.inr (.inl rfl)) rfl rfl) (da_cons (de_var rfl (.inl rfl) rfl rfl) (da_cons (de_var rfl (.inr (.inl rfl)) rfl rfl) da_nil rfl) rfl) rfl) (faLen_cons (faLen_cons (faLen_cons faLen_nil))) rfl rfl rfl rfl) da_nil rfl) rfl) (faLen_cons (faLen_cons faLen_nil)) rfl rfl rfl rfl)) (fun _ => rfl))) da_nil rfl) (by decide) rfl rfl rfl) rfl (.inl rfl) (hpa.not (i := 6) rfl)) (dss_cons (ds_for bodyCx_own rfl (di_enm hK rfl W.n_enumerate (da_cons (de_var rfl (.inl rfl) rfl rfl) da_nil rfl) rfl (faLen_cons faLen_nil).eq) (dg_tup hK rfl (dgs_cons (dg_name nd__law_shut rfl (.inl rfl) (.inl rfl)) (dgs_cons (dg_name nd__law_shut rfl (.inl rfl) (.inl rfl)) dgs_nil rfl) rfl) rfl rfl rfl) (dss_one (ds_expr (de_lm hK PySem.F.slot_list_append PySem.F.type_list_append md_app rfl (.inl rfl) rfl rfl (de_if (dt_cmp (opd_in hK) (de_var rfl (.inl rfl) rfl rfl) (de_var rfl (.inl rfl) rfl rfl) rfl) (de_callO hK ((ok__law_plus W).T hT) hr (by decide) rfl W.g__law_plus (da_cons (de_var rfl (.inl rfl) rfl rfl) (da_cons (de_callO hK ((ok__law_by W).T hT) hr (by decide) rfl W.g__law_by (da_cons (de_var rfl (.inr (.inl rfl)) rfl rfl) (da_cons (de_ix hK (de_var rfl (.inr (.inl rfl)) rfl rfl) (de_bin (opd_add hK) (de_var rfl (.inr (.inl rfl)) rfl rfl) (de_var rfl (.inl rfl) rfl rfl)) (fun _ _ => rfl)) (da_cons (de_var rfl (.inr (.inl rfl)) rfl rfl) da_nil rfl) rfl) rfl) (faLen_cons (faLen_cons (faLen_cons faLen_nil))) rfl rfl rfl rfl) da_nil rfl) rfl) (faLen_cons (faLen_cons faLen_nil)) rfl rfl rfl rfl) (de_tup (da_cons (de_c pe_int (fun _ _ => rfl)) (da_cons (de_c pe_int (fun _ _ => rfl)) da_nil rfl) rfl))) rfl rfl rfl rfl rfl) rfl)) (fun _ => rfl) (hpa.nots rfl)) (dss_one (ds_ret (de_tup (da_cons (de_var rfl (.inl rfl) rfl rfl) (da_cons (de_bty (cd_tuple hK) rfl W.n_tuple bt_tuple (da_cons (de_var rfl (.inl rfl) rfl rfl) da_nil rfl) (by decide) rfl rfl rfl) (da_cons (de_var rfl (.inl rfl) rfl rfl) (da_cons (de_bin (opd_add hK) (de_var rfl (.inr (.inl rfl)) rfl rfl) (de_tup (da_cons (de_var rfl (.inr (.inl rfl)) rfl rfl) da_nil rfl))) da_nil rfl) rfl) rfl) rfl)))))))))))
/-! ### _law_borne_by -/
abbrev s__law_borne_by : Stmt := top 60
def N__law_borne_by : List Str := ["_law_goods", "_law_rows", "_law_turn", "_law_spent_here", "_law_state", "_law_centre", "_law_cost"]
def d__law_borne_by : FB := bSeq (bSet 4 (fDisp .tup (fCons (fVar 3) (fCons (fBlt dTuple (fCons (fNew (nLc [6] (.nm 6) (sItm (fVar 3)) (fYes) (fDisp .tup (fCons (fVar 6) (fCons (fC (.int 1)) (fNil)))))) (fNil))) (fCons (fBin dMul (fDisp .tup (fCons (fDisp .tup (fCons (fC (.int 0)) (fCons (fC (.int 1)) (fNil)))) (fNil))) (fVar 0)) (fCons (fDisp .tup (fNil)) (fNil))))))) (bSeq (bFor (.nm 5) (sItm (fVar 2)) (bSet 4 (fCall g__law_shut [] (fCons (fVar 0) (fCons (fVar 1) (fCons (fVar 4) (fCons (fVar 5) (fNil)))))))) (bRet (fBin dIdx (fVar 4) (fC (.int 2)))))
def g__law_borne_by : FG := fnD 7 [] d__law_borne_by
theorem nd__law_borne_by : N__law_borne_by.Nodup := by decide +kernel
theorem sc__law_borne_by : FnScope N__law_borne_by ["_law_goods", "_law_rows", "_law_turn", "_law_spent_here"] (defScope s__law_borne_by) := ⟨rfl, rfl, rfl, nd__law_borne_by, rfl, by decide +kernel, by decide +kernel⟩
theorem ok__law_borne_by {P : Program} {w : World} {K : PySem.W.Frag} {mg : Str → Option Value} {base : Heap} (W : Ws K mg) : Def1 P w K mg base (TT K) 4 (He.ga K "_law_borne_by") ["_law_goods", "_law_rows", "_law_turn", "_law_spent_here"] g__law_borne_by := by
  obtain ⟨fd, Fd⟩ := W.f__law_borne_by
  exact FunD.def1 (N := N__law_borne_by) (ps := ["_law_goods", "_law_rows", "_law_turn", "_law_spent_here"]) (asg := []) (fb := d__law_borne_by) Fd sc__law_borne_by (fun _ _ _ _ _ _ us hl => match us, hl with | [_, _, _, _], _ => rfl) (fun cdv A outer s H E hr F hK hT hpa => (dss_cons (ds_set nd__law_borne_by rfl (.inl rfl) (de_tup (da_cons (de_var rfl (.inl rfl) rfl rfl) (da_cons (de_bty (cd_tuple hK) rfl W.n_tuple bt_tuple (da_cons (de_new (dn_lcI [("_law_cost", 6)] rfl hK rfl nd__law_borne_by (di_itm hK (de_var rfl (.inl rfl) rfl rfl)) (blkB_ok rfl) (by decide) (fun _ _ _ _ _ _ hK1 hT1 => (dg_name nd__law_borne_by rfl (.inl rfl) (.inr rfl))) (fun _ _ _ _ _ _ hK1 hT1 => dts_nil) (fun _ _ _ _ _ _ hK1 hT1 => (de_tup (da_cons (de_var rfl (.inl rfl) rfl rfl) (da_cons (de_c pe_int (fun _ _ => rfl)) da_nil rfl) rfl))) (fun _ => rfl))) da_nil rfl) (by decide) rfl rfl rfl) (da_cons (de_bin (opd_mul hK) (de_tup (da_cons (de_tup (da_cons (de_c pe_int (fun _ _ => rfl)) (da_cons (de_c pe_int (fun _ _ => rfl)) da_nil rfl) rfl)) da_nil rfl)) (de_var rfl (.inl rfl) rfl rfl)) (da_cons (de_tup da_nil) da_nil rfl) rfl) rfl) rfl)) rfl (.inl rfl) (hpa.not (i := 4) rfl)) (dss_cons (ds_for bodyCx_own rfl (di_itm hK (de_var rfl (.inl rfl) rfl rfl)) (dg_name nd__law_borne_by rfl (.inl rfl) (.inl rfl)) (dss_one (ds_set nd__law_borne_by rfl (.inl rfl) (de_callO hK ((ok__law_shut W).T hT) hr (by decide) rfl W.g__law_shut (da_cons (de_var rfl (.inl rfl) rfl rfl) (da_cons (de_var rfl (.inl rfl) rfl rfl) (da_cons (de_var rfl (.inl rfl) rfl rfl) (da_cons (de_var rfl (.inl rfl) rfl rfl) da_nil rfl) rfl) rfl) rfl) (faLen_cons (faLen_cons (faLen_cons (faLen_cons faLen_nil)))) rfl rfl rfl rfl) rfl (.inl rfl) (hpa.not (i := 4) rfl))) (fun _ => rfl) (hpa.nots rfl)) (dss_one (ds_ret (de_ix hK (de_var rfl (.inl rfl) rfl rfl) (de_c pe_int (fun _ _ => rfl)) (fun _ _ => rfl)))))))
/-! ### _law_less -/
abbrev s__law_less : Stmt := top 61
def N__law_less : List Str := ["_law_one", "_law_other"]
def d__law_less : FB := bRet (fBin (dCmp fun i j => decide (i < j)) (fBin dMul (fBin dIdx (fVar 0) (fC (.int 0))) (fBin dIdx (fVar 1) (fC (.int 1)))) (fBin dMul (fBin dIdx (fVar 1) (fC (.int 0))) (fBin dIdx (fVar 0) (fC (.int 1)))))
def g__law_less : FG := fnD 2 [] d__law_less
theorem nd__law_less : N__law_less.Nodup := by decide +kernel
theorem sc__law_less : FnScope N__law_less ["_law_one", "_law_other"] (defScope s__law_less) := ⟨rfl, rfl, rfl, nd__law_less, rfl, by decide +kernel, by decide +kernel⟩
theorem ok__law_less {P : Program} {w : World} {K : PySem.W.Frag} {mg : Str → Option Value} {base : Heap} (W : Ws K mg) : Def1 P w K mg base (TT K) 1 (He.ga K "_law_less") ["_law_one", "_law_other"] g__law_less := by
  obtain ⟨fd, Fd⟩ := W.f__law_less
  exact FunD.def1 (N := N__law_less) (ps := ["_law_one", "_law_other"]) (asg := []) (fb := d__law_less) Fd sc__law_less (fun _ _ _ _ _ _ us hl => match us, hl with | [_, _], _ => rfl) (fun cdv A outer s H E hr F hK hT hpa => (dss_one (ds_ret (de_cmp (opd_cmp op_lt) (de_bin (opd_mul hK) (de_ix hK (de_var rfl (.inl rfl) rfl rfl) (de_c pe_int (fun _ _ => rfl)) (fun _ _ => rfl)) (de_ix hK (de_var rfl (.inl rfl) rfl rfl) (de_c pe_int (fun _ _ => rfl)) (fun _ _ => rfl))) (de_bin (opd_mul hK) (de_ix hK (de_var rfl (.inl rfl) rfl rfl) (de_c pe_int (fun _ _ => rfl)) (fun _ _ => rfl)) (de_ix hK (de_var rfl (.inl rfl) rfl rfl) (de_c pe_int (fun _ _ => rfl)) (fun _ _ => rfl))) rfl))))
/-! ### _law_ends -/
abbrev s__law_ends : Stmt := top 62
def N__law_ends : List Str := ["_law_found", "_law_low", "_law_high", "_law_one"]
def d__law_ends : FB := bSeq (bPar [1, 2] (mDat (fBin dIdx (fVar 0) (fC (.int 0))) (mDat (fBin dIdx (fVar 0) (fC (.int 0))) (mNil)))) (bSeq (bFor (.nm 3) (sItm (fVar 0)) (bSeq (bSet 1 (fIf (fTest (fCall g__law_less [] (fCons (fVar 3) (fCons (fVar 1) (fNil))))) (fVar 3) (fVar 1))) (bSet 2 (fIf (fTest (fCall g__law_less [] (fCons (fVar 2) (fCons (fVar 3) (fNil))))) (fVar 3) (fVar 2))))) (bRet (fDisp .tup (fCons (fVar 1) (fCons (fVar 2) (fNil))))))
def g__law_ends : FG := fnD 4 [] d__law_ends
theorem nd__law_ends : N__law_ends.Nodup := by decide +kernel
theorem sc__law_ends : FnScope N__law_ends ["_law_found"] (defScope s__law_ends) := ⟨rfl, rfl, rfl, nd__law_ends, rfl, by decide +kernel, by decide +kernel⟩
theorem ok__law_ends {P : Program} {w : World} {K : PySem.W.Frag} {mg : Str → Option Value} {base : Heap} (W : Ws K mg) : Def1 P w K mg base (TT K) 2 (He.ga K "_law_ends") ["_law_found"] g__law_ends := by
  obtain ⟨fd, Fd⟩ := W.f__law_ends
  exact FunD.def1 (N := N__law_ends) (ps := ["_law_found"]) (asg := []) (fb := d__law_ends) Fd sc__law_ends (fun _ _ _ _ _ _ us hl => match us, hl with | [_], _ => rfl) (fun cdv A outer s H E hr F hK hT hpa => (dss_cons (ds_par2 rfl nd__law_ends rfl rfl (by decide) rfl rfl (dm_dat (de_ix hK (de_var rfl (.inl rfl) rfl rfl) (de_c pe_int (fun _ _ => rfl)) (fun _ _ => rfl)) (dm_dat (de_ix hK (de_var rfl (.inl rfl) rfl rfl) (de_c pe_int (fun _ _ => rfl)) (fun _ _ => rfl)) dm_nil rfl) rfl) rfl rfl (hpa.nots rfl)) (dss_cons (ds_for bodyCx_own rfl (di_itm hK (de_var rfl (.inl rfl) rfl rfl)) (dg_name nd__law_ends rfl (.inl rfl) (.inl rfl)) (dss_cons (ds_set nd__law_ends rfl (.inl rfl) (de_if (dt_val (de_callO hK ((ok__law_less W).T hT) hr (by decide) rfl W.g__law_less (da_cons (de_var rfl (.inl rfl) rfl rfl) (da_cons (de_var rfl (.inl rfl) rfl rfl) da_nil rfl) rfl) (faLen_cons (faLen_cons faLen_nil)) rfl rfl rfl rfl) (fun _ => rfl)) (de_var rfl (.inl rfl) rfl rfl) (de_var rfl (.inl rfl) rfl rfl)) rfl (.inl rfl) (hpa.not (i := 1) rfl)) (dss_one (ds_set nd__law_ends rfl (.inl rfl) (de_if (dt_val (de_callO hK ((ok__law_less W).T hT) hr (by decide) rfl W.g__law_less (da_cons (de_var rfl (.inl rfl) rfl rfl) (da_cons (de_var rfl (.inl rfl) rfl rfl) da_nil rfl) rfl) (faLen_cons (faLen_cons faLen_nil)) rfl rfl rfl rfl) (fun _ => rfl)) (de_var rfl (.inl rfl) rfl rfl) (de_var rfl (.inl rfl) rfl rfl)) rfl (.inl rfl) (hpa.not (i := 2) rfl)))) (fun _ => rfl) (hpa.nots rfl)) (dss_one (ds_ret (de_tup (da_cons (de_var rfl (.inl rfl) rfl rfl) (da_cons (de_var rfl (.inl rfl) rfl rfl) da_nil rfl) rfl)))))))
/-! ### _law_same -/
abbrev s__law_same : Stmt := top 50
def N__law_same : List Str := ["_law_actual", "_law_due"]
def d__law_same : FB := bRet (fBin (dEq) (fBlt dRepr (fCons (fVar 0) fNil)) (fBlt dRepr (fCons (fVar 1) fNil)))
def g__law_same : FG := fnD 2 [] d__law_same
theorem nd__law_same : N__law_same.Nodup := by decide +kernel
theorem sc__law_same : FnScope N__law_same ["_law_actual", "_law_due"] (defScope s__law_same) := ⟨rfl, rfl, rfl, nd__law_same, rfl, by decide +kernel, by decide +kernel⟩
theorem ok__law_same {P : Program} {w : World} {K : PySem.W.Frag} {mg : Str → Option Value} {base : Heap} (W : Ws K mg) : DefG P w K mg base (TT K) 1 (He.ga K "_law_same") ["_law_actual", "_law_due"] g__law_same := by
  obtain ⟨fd, Fd⟩ := W.f__law_same
  exact FunD.defG (N := N__law_same) (ps := ["_law_actual", "_law_due"]) (asg := []) (fb := d__law_same) Fd sc__law_same (fun _ _ _ _ _ _ us hl => match us, hl with | [_, _], _ => rfl) (fun cdv A outer s H E hr gd F hK hT hpa => (dss_one (ds_ret (de_cmp (opd_eq hK hr.units) (de_blt (cd_repr hK gd hr.units) rfl W.n_repr bt_repr (da_cons (de_var rfl (.inl rfl) rfl rfl) da_nil rfl) (by decide) rfl rfl rfl) (de_blt (cd_repr hK gd hr.units) rfl W.n_repr bt_repr (da_cons (de_var rfl (.inl rfl) rfl rfl) da_nil rfl) (by decide) rfl rfl rfl) rfl))))
/-! ### need_plan -/
abbrev s_need_plan : Stmt := top 32
def N_need_plan : List Str := ["thing"]
def d_need_plan : FB := bIf (fNot (fTest (fIsi (inCls [0] [0]) (fVar 0)))) (bNo) (bNx)
def g_need_plan : FG := fnD 1 [] d_need_plan
theorem nd_need_plan : N_need_plan.Nodup := by decide +kernel
theorem sc_need_plan : FnScope N_need_plan ["thing"] (defScope s_need_plan) := ⟨rfl, rfl, rfl, nd_need_plan, rfl, by decide +kernel, by decide +kernel⟩
theorem ok_need_plan {P : Program} {w : World} {K : PySem.W.Frag} {mg : Str → Option Value} {base : Heap} (W : Ws K mg) : Def1 P w K mg base (TT K) 1 (He.ga K "need_plan") ["thing"] g_need_plan := by
  obtain ⟨fd, Fd⟩ := W.f_need_plan
  exact FunD.def1 (N := N_need_plan) (ps := ["thing"]) (asg := []) (fb := d_need_plan) Fd sc_need_plan (fun _ _ _ _ _ _ us hl => match us, hl with | [_], _ => rfl) (fun cdv A outer s H E hr F hK hT hpa => (dss_one (ds_if (dt_not (dt_val (de_isiC hK (iscT hT W.j_Plan) rfl W.n_isinstance bt_isinstance (by decide) rfl (pe_glob rfl W.g_Plan rfl rfl) (de_var rfl (.inl rfl) rfl rfl) rfl rfl rfl) (fun _ => rfl))) (dss_one ds_never) dss_nil)))
/-! ### are_costs -/
abbrev s_are_costs : Stmt := top 37
def N_are_costs : List Str := ["plan", "thing", "one"]
def d_are_costs : FB := bSeq (bIf (fOr (fNot (fTest (fIsi (tyIs "tuple") (fVar 1)))) (fTest (fBin (dNe) (fLen 0 g_Plan___len__ (fVar 1)) (fLen 0 g_Plan___len__ (fVar 0))))) (bRet (fC (.bl false))) (bNx)) (bRet (fBlt dAll (fCons (fNew (nLc [2] (.nm 2) (sItm (fVar 1)) (fYes) (fCall g_is_between [] (fCons (fVar 2) (fCons (fC (.int 0)) (fCons (fC (.int 1000000)) (fNil))))))) (fNil))))
def g_are_costs : FG := fnD 3 [] d_are_costs
theorem nd_are_costs : N_are_costs.Nodup := by decide +kernel
theorem sc_are_costs : FnScope N_are_costs ["plan", "thing"] (defScope s_are_costs) := ⟨rfl, rfl, rfl, nd_are_costs, rfl, by decide +kernel, by decide +kernel⟩
theorem ok_are_costs {P : Program} {w : World} {K : PySem.W.Frag} {mg : Str → Option Value} {base : Heap} (W : Ws K mg) : Def1 P w K mg base (TT K) 3 (He.ga K "are_costs") ["plan", "thing"] g_are_costs := by
  obtain ⟨fd, Fd⟩ := W.f_are_costs
  exact FunD.def1 (N := N_are_costs) (ps := ["plan", "thing"]) (asg := []) (fb := d_are_costs) Fd sc_are_costs (fun _ _ _ _ _ _ us hl => match us, hl with | [_, _], _ => rfl) (fun cdv A outer s H E hr F hK hT hpa => (dss_cons (ds_if (PW.pt (dw_or (dt_not (dt_val (de_isi hK rfl W.n_isinstance bt_isinstance (by decide) rfl (pe_tyN rfl W.n_tuple bt_tuple (by decide) rfl) (de_var rfl (.inl rfl) rfl rfl) rfl rfl rfl) (fun _ => rfl))) (dw_or1 (dt_cmp (opd_ne hK hr.units) (de_len (lenD hK hT W.s_Plan___len__ (ok_Plan___len__ W) hr (by decide) rfl rfl W.n_len bt_len (de_var rfl (.inl rfl) rfl rfl) (by decide) rfl rfl rfl) (de_blt (cd_len hK) rfl W.n_len bt_len (da_cons (de_var rfl (.inl rfl) rfl rfl) da_nil rfl) (by decide) rfl rfl rfl) rfl) (de_len (lenD hK hT W.s_Plan___len__ (ok_Plan___len__ W) hr (by decide) rfl rfl W.n_len bt_len (de_var rfl (.inl rfl) rfl rfl) (by decide) rfl rfl rfl) (de_blt (cd_len hK) rfl W.n_len bt_len (da_cons (de_var rfl (.inl rfl) rfl rfl) da_nil rfl) (by decide) rfl rfl rfl) rfl) rfl)))) (dss_one (ds_ret (de_c pe_bl (fun _ _ => rfl)))) dss_nil) (dss_one (ds_ret (de_blt (cd_all hK rfl) rfl W.n_all bt_all (da_cons (de_new (dn_lcI [("one", 2)] rfl hK rfl nd_are_costs (di_itm hK (de_var rfl (.inl rfl) rfl rfl)) (blkB_ok rfl) (by decide) (fun _ _ _ _ _ _ hK1 hT1 => (dg_name nd_are_costs rfl (.inl rfl) (.inr rfl))) (fun _ _ _ _ _ _ hK1 hT1 => dts_nil) (fun _ _ _ _ _ _ hK1 hT1 => (de_callO hK1 ((ok_is_between W).T (hT1.trans hT)) hr (by decide) rfl W.g_is_between (da_cons (de_var rfl (.inl rfl) rfl rfl) (da_cons (de_c pe_int (fun _ _ => rfl)) (da_cons (de_glob rfl W.i_MOST_COST.choose_spec (show RelV (.int 1000000) _ from ⟨_, rfl⟩) rfl (fun _ _ => rfl)) da_nil rfl) rfl) rfl) (faLen_cons (faLen_cons (faLen_cons faLen_nil))) rfl rfl rfl rfl)) (fun _ => rfl))) da_nil rfl) (by decide) rfl rfl rfl)))))
/-! ### need_costs -/
abbrev s_need_costs : Stmt := top 38
def N_need_costs : List Str := ["plan", "thing"]
def d_need_costs : FB := bIf (fNot (fTest (fCall g_are_costs [] (fCons (fVar 0) (fCons (fVar 1) (fNil)))))) (bNo) (bNx)
def g_need_costs : FG := fnD 2 [] d_need_costs
theorem nd_need_costs : N_need_costs.Nodup := by decide +kernel
theorem sc_need_costs : FnScope N_need_costs ["plan", "thing"] (defScope s_need_costs) := ⟨rfl, rfl, rfl, nd_need_costs, rfl, by decide +kernel, by decide +kernel⟩
theorem ok_need_costs {P : Program} {w : World} {K : PySem.W.Frag} {mg : Str → Option Value} {base : Heap} (W : Ws K mg) : Def1 P w K mg base (TT K) 4 (He.ga K "need_costs") ["plan", "thing"] g_need_costs := by
  obtain ⟨fd, Fd⟩ := W.f_need_costs
  exact FunD.def1 (N := N_need_costs) (ps := ["plan", "thing"]) (asg := []) (fb := d_need_costs) Fd sc_need_costs (fun _ _ _ _ _ _ us hl => match us, hl with | [_, _], _ => rfl) (fun cdv A outer s H E hr F hK hT hpa => (dss_one (ds_if (dt_not (dt_val (de_callO hK ((ok_are_costs W).T hT) hr (by decide) rfl W.g_are_costs (da_cons (de_var rfl (.inl rfl) rfl rfl) (da_cons (de_var rfl (.inl rfl) rfl rfl) da_nil rfl) rfl) (faLen_cons (faLen_cons faLen_nil)) rfl rfl rfl rfl) (fun _ => rfl))) (dss_one ds_never) dss_nil)))
/-! ### Plan.products -/
abbrev s_Plan_products : Stmt := inClass (top 31) 5
def N_Plan_products : List Str := ["self"]
def d_Plan_products : FB := bRet (fFld 0 0 (fVar 0))
def g_Plan_products : FG := fnD 1 [] d_Plan_products
theorem nd_Plan_products : N_Plan_products.Nodup := by decide +kernel
theorem sc_Plan_products : FnScope N_Plan_products ["self"] (defScope s_Plan_products) := ⟨rfl, rfl, rfl, nd_Plan_products, rfl, by decide +kernel, by decide +kernel⟩
theorem ok_Plan_products {P : Program} {w : World} {K : PySem.W.Frag} {mg : Str → Option Value} {base : Heap} (W : Ws K mg) : Def1 P w K mg base (TT K) 1 (prGet K "Plan" "products") ["self"] g_Plan_products := by
  obtain ⟨fd, Fd⟩ := W.f_Plan_products
  exact FunD.def1 (N := N_Plan_products) (ps := ["self"]) (asg := []) (fb := d_Plan_products) Fd sc_Plan_products (fun _ _ _ _ _ _ us hl => match us, hl with | [_], _ => rfl) (fun cdv A outer s H E hr F hK hT hpa => (dss_one (ds_ret (de_fld hK (ckT hT W.c_Plan) (flT hT rfl) (de_var rfl (.inl rfl) rfl rfl) rfl))))
/-! ### as_fraction -/
abbrev s_as_fraction : Stmt := top 22
def N_as_fraction : List Str := ["number"]
def d_as_fraction : FB := bRet (fDisp .tup (fCons (fVar 0) (fCons (fC (.int 1)) (fNil))))
def g_as_fraction : FG := fnD 1 [] d_as_fraction
theorem nd_as_fraction : N_as_fraction.Nodup := by decide +kernel
theorem sc_as_fraction : FnScope N_as_fraction ["number"] (defScope s_as_fraction) := ⟨rfl, rfl, rfl, nd_as_fraction, rfl, by decide +kernel, by decide +kernel⟩
theorem ok_as_fraction {P : Program} {w : World} {K : PySem.W.Frag} {mg : Str → Option Value} {base : Heap} (W : Ws K mg) : Def1 P w K mg base (TT K) 1 (He.ga K "as_fraction") ["number"] g_as_fraction := by
  obtain ⟨fd, Fd⟩ := W.f_as_fraction
  exact FunD.def1 (N := N_as_fraction) (ps := ["number"]) (asg := []) (fb := d_as_fraction) Fd sc_as_fraction (fun _ _ _ _ _ _ us hl => match us, hl with | [_], _ => rfl) (fun cdv A outer s H E hr F hK hT hpa => (dss_one (ds_ret (de_tup (da_cons (de_var rfl (.inl rfl) rfl rfl) (da_cons (de_c pe_int (fun _ _ => rfl)) da_nil rfl) rfl)))))
/-! ### all_orders -/
abbrev s_all_orders : Stmt := top 42
def N_all_orders : List Str := ["centres", "found", "centre", "rest", "one", "order"]
def d_all_orders (rec_ : FG) : FB := bSeq (bIf (fTest (fBin (dEq) (fVar 0) (fNew (nDisp (fNil))))) (bRet (fNew (nDisp (fCons (fDisp .tup (fNil)) (fNil))))) (bNx)) (bSeq (bOwn 1 (nDisp (fNil))) (bSeq (bFor (.nm 2) (sItm (fVar 0)) (bSeq (bSet 3 (fNew (nLc [4] (.nm 4) (sItm (fVar 0)) (fTest (fBin (dNe) (fVar 4) (fVar 2))) (fVar 4)))) (bExp (fLM lmExt 1 (fNew (nLc [5] (.nm 5) (sItm (fCall rec_ [] (fCons (fVar 3) (fNil)))) (fYes) (fBin dAdd (fDisp .tup (fCons (fVar 2) (fNil))) (fVar 5)))))))) (bSeq (bFrz 1) (bRet (fVar 1)))))
def r_all_orders : Nat → FG
  | 0 => fun _ => none
  | n + 1 => fnD 6 [] (d_all_orders (r_all_orders n))
def g_all_orders : FG := r_all_orders 6
theorem nd_all_orders : N_all_orders.Nodup := by decide +kernel
theorem sc_all_orders : FnScope N_all_orders ["centres"] (defScope s_all_orders) := ⟨rfl, rfl, rfl, nd_all_orders, rfl, by decide +kernel, by decide +kernel⟩
theorem okr_all_orders {P : Program} {w : World} {K : PySem.W.Frag} {mg : Str → Option Value} {base : Heap} (W : Ws K mg) (n : Nat) : Def1 P w K mg base (TT K) (0 + n) (He.ga K "all_orders") ["centres"] (r_all_orders n) := by
  obtain ⟨fd, Fd⟩ := W.f_all_orders
  induction n with
  | zero => exact Def1.zero Fd (fun _ _ _ _ _ _ us hl => match us, hl with | [_], _ => rfl)
  | succ n IH => exact FunD.def1 (k := 0 + n) (N := N_all_orders) (ps := ["centres"]) (asg := []) (fb := d_all_orders (r_all_orders n)) Fd sc_all_orders (fun _ _ _ _ _ _ us hl => match us, hl with | [_], _ => rfl) (fun cdv A outer s H E hr F hK hT hpa => (dss_cons (ds_if (dt_cmp (opd_eq hK hr.units) (de_var rfl (.inl rfl) rfl rfl) (de_new (dn_lst da_nil)) rfl) (dss_one (ds_ret (de_new (dn_lst (da_cons (de_tup da_nil) da_nil rfl))))) dss_nil) (dss_cons (ds_own nd_all_orders rfl (.inl rfl) (dn_lst da_nil) rfl (.inl rfl) (hpa.not (i := 1) rfl)) (dss_cons (ds_for bodyCx_own rfl (di_itm hK (de_var rfl (.inl rfl) rfl rfl)) (dg_name nd_all_orders rfl (.inr rfl) (.inl rfl)) (dss_cons (ds_lcD (ps_lcI [("one", 4)] rfl hK rfl nd_all_orders rfl rfl (sw_true rfl rfl rfl rfl) (di_itm hK (de_var rfl (.inl rfl) rfl rfl)) (blkB_ok rfl) (by decide) (fun _ _ _ _ _ _ hK1 hT1 => (dg_name nd_all_orders rfl (.inl rfl) (.inr rfl))) (fun _ _ _ _ _ _ hK1 hT1 => (dts_one (dt_cmp (opd_ne hK1 hr.units) (de_var rfl (.inl rfl) rfl rfl) (de_var rfl (.inr (.inl rfl)) rfl rfl) rfl))) (fun _ _ _ _ _ _ hK1 hT1 => (de_var rfl (.inl rfl) rfl rfl)) (fun _ => rfl)) (hpa.not (i := 3) rfl)) (dss_one (ds_expr (de_lm hK PySem.F.slot_list_extend PySem.F.type_list_extend md_ext rfl (.inl rfl) rfl rfl (de_new (dn_lcI [("order", 5)] rfl hK rfl nd_all_orders (di_itm hK (de_callO hK (IH.T hT) hr (by omega) rfl W.g_all_orders (da_cons (de_var rfl (.inl rfl) rfl rfl) da_nil rfl) (faLen_cons faLen_nil) rfl rfl rfl rfl)) (blkB_ok rfl) (by decide) (fun _ _ _ _ _ _ hK1 hT1 => (dg_name nd_all_orders rfl (.inl rfl) (.inr rfl))) (fun _ _ _ _ _ _ hK1 hT1 => dts_nil) (fun _ _ _ _ _ _ hK1 hT1 => (de_bin (opd_add hK1) (de_tup (da_cons (de_var rfl (.inr (.inl rfl)) rfl rfl) da_nil rfl)) (de_var rfl (.inl rfl) rfl rfl))) (fun _ => rfl))) rfl rfl rfl rfl rfl) rfl))) (fun _ => rfl) (hpa.nots rfl)) (dss_frz (dss_one (ds_ret (de_var rfl (.inl rfl) rfl rfl))) (hpa.not (i := 1) rfl))))))
theorem ok_all_orders {P : Program} {w : World} {K : PySem.W.Frag} {mg : Str → Option Value} {base : Heap} (W : Ws K mg) : Def1 P w K mg base (TT K) 6 (He.ga K "all_orders") ["centres"] g_all_orders := okr_all_orders W 6
/-! ### Plan.rows -/
abbrev s_Plan_rows : Stmt := inClass (top 31) 6
def N_Plan_rows : List Str := ["self"]
def d_Plan_rows : FB := bRet (fFld 0 1 (fVar 0))
def g_Plan_rows : FG := fnD 1 [] d_Plan_rows
theorem nd_Plan_rows : N_Plan_rows.Nodup := by decide +kernel
theorem sc_Plan_rows : FnScope N_Plan_rows ["self"] (defScope s_Plan_rows) := ⟨rfl, rfl, rfl, nd_Plan_rows, rfl, by decide +kernel, by decide +kernel⟩
theorem ok_Plan_rows {P : Program} {w : World} {K : PySem.W.Frag} {mg : Str → Option Value} {base : Heap} (W : Ws K mg) : Def1 P w K mg base (TT K) 1 (prGet K "Plan" "rows") ["self"] g_Plan_rows := by
  obtain ⟨fd, Fd⟩ := W.f_Plan_rows
  exact FunD.def1 (N := N_Plan_rows) (ps := ["self"]) (asg := []) (fb := d_Plan_rows) Fd sc_Plan_rows (fun _ _ _ _ _ _ us hl => match us, hl with | [_], _ => rfl) (fun cdv A outer s H E hr F hK hT hpa => (dss_one (ds_ret (de_fld hK (ckT hT W.c_Plan) (flT hT rfl) (de_var rfl (.inl rfl) rfl rfl) rfl))))
/-! ### divisor -/
abbrev s_divisor : Stmt := top 17
def N_divisor : List Str := ["one", "other"]
def d_divisor : FB := bSeq (bWh (fuelI 1) (fTest (fBin (dNe) (fVar 1) (fC (.int 0)))) (bPar [0, 1] (mDat (fVar 1) (mDat (fBin dMod (fVar 0) (fVar 1)) (mNil))))) (bRet (fVar 0))
def g_divisor : FG := fnD 2 [0, 1] d_divisor
theorem nd_divisor : N_divisor.Nodup := by decide +kernel
theorem sc_divisor : FnScope N_divisor ["one", "other"] (defScope s_divisor) := ⟨rfl, rfl, rfl, nd_divisor, rfl, by decide +kernel, by decide +kernel⟩
theorem ok_divisor {P : Program} {w : World} {K : PySem.W.Frag} {mg : Str → Option Value} {base : Heap} (W : Ws K mg) : Def1 P w K mg base (TT K) 1 (He.ga K "divisor") ["one", "other"] g_divisor := by
  obtain ⟨fd, Fd⟩ := W.f_divisor
  exact FunD.def1 (N := N_divisor) (ps := ["one", "other"]) (asg := [0, 1]) (fb := d_divisor) Fd sc_divisor (fun _ _ _ _ _ _ us hl => match us, hl with | [_, _], _ => rfl) (fun cdv A outer s H E hr F hK hT hpa => (dss_cons (ds_while bodyCx_own (dt_cmp (opd_ne hK hr.units) (de_var rfl (.inl rfl) rfl rfl) (de_c pe_int (fun _ _ => rfl)) rfl) (dss_one (ds_par2 rfl nd_divisor rfl rfl (by decide) rfl rfl (dm_dat (de_var rfl (.inl rfl) rfl rfl) (dm_dat (de_bin (opd_mod hK) (de_var rfl (.inl rfl) rfl rfl) (de_var rfl (.inl rfl) rfl rfl)) dm_nil rfl) rfl) rfl rfl (hpa.nots rfl)))) (dss_one (ds_ret (de_var rfl (.inl rfl) rfl rfl)))))
/-! ### fraction -/
abbrev s_fraction : Stmt := top 18
def N_fraction : List Str := ["top", "bottom", "common"]
def d_fraction : FB := bSeq (bSet 2 (fCall g_divisor [] (fCons (fBlt dAbs (fCons (fVar 0) (fNil))) (fCons (fVar 1) (fNil))))) (bRet (fDisp .tup (fCons (fBin dDiv (fVar 0) (fVar 2)) (fCons (fBin dDiv (fVar 1) (fVar 2)) (fNil)))))
def g_fraction : FG := fnD 3 [] d_fraction
theorem nd_fraction : N_fraction.Nodup := by decide +kernel
theorem sc_fraction : FnScope N_fraction ["top", "bottom"] (defScope s_fraction) := ⟨rfl, rfl, rfl, nd_fraction, rfl, by decide +kernel, by decide +kernel⟩
theorem ok_fraction {P : Program} {w : World} {K : PySem.W.Frag} {mg : Str → Option Value} {base : Heap} (W : Ws K mg) : Def1 P w K mg base (TT K) 2 (He.ga K "fraction") ["top", "bottom"] g_fraction := by
  obtain ⟨fd, Fd⟩ := W.f_fraction
  exact FunD.def1 (N := N_fraction) (ps := ["top", "bottom"]) (asg := []) (fb := d_fraction) Fd sc_fraction (fun _ _ _ _ _ _ us hl => match us, hl with | [_, _], _ => rfl) (fun cdv A outer s H E hr F hK hT hpa => (dss_cons (ds_set nd_fraction rfl (.inl rfl) (de_callO hK ((ok_divisor W).T hT) hr (by decide) rfl W.g_divisor (da_cons (de_blt (cd_abs hK) rfl W.n_abs bt_abs (da_cons (de_var rfl (.inl rfl) rfl rfl) da_nil rfl) (by decide) rfl rfl rfl) (da_cons (de_var rfl (.inl rfl) rfl rfl) da_nil rfl) rfl) (faLen_cons (faLen_cons faLen_nil)) rfl rfl rfl rfl) rfl (.inl rfl) (hpa.not (i := 2) rfl)) (dss_one (ds_ret (de_tup (da_cons (de_bin (opd_div hK) (de_var rfl (.inl rfl) rfl rfl) (de_var rfl (.inl rfl) rfl rfl)) (da_cons (de_bin (opd_div hK) (de_var rfl (.inl rfl) rfl rfl) (de_var rfl (.inl rfl) rfl rfl)) da_nil rfl) rfl))))))
/-! ### times -/
abbrev s_times : Stmt := top 20
def N_times : List Str := ["one", "other"]
def d_times : FB := bRet (fCall g_fraction [] (fCons (fBin dMul (fBin dIdx (fVar 0) (fC (.int 0))) (fBin dIdx (fVar 1) (fC (.int 0)))) (fCons (fBin dMul (fBin dIdx (fVar 0) (fC (.int 1))) (fBin dIdx (fVar 1) (fC (.int 1)))) (fNil))))
def g_times : FG := fnD 2 [] d_times
theorem nd_times : N_times.Nodup := by decide +kernel
theorem sc_times : FnScope N_times ["one", "other"] (defScope s_times) := ⟨rfl, rfl, rfl, nd_times, rfl, by decide +kernel, by decide +kernel⟩
theorem ok_times {P : Program} {w : World} {K : PySem.W.Frag} {mg : Str → Option Value} {base : Heap} (W : Ws K mg) : Def1 P w K mg base (TT K) 3 (He.ga K "times") ["one", "other"] g_times := by
  obtain ⟨fd, Fd⟩ := W.f_times
  exact FunD.def1 (N := N_times) (ps := ["one", "other"]) (asg := []) (fb := d_times) Fd sc_times (fun _ _ _ _ _ _ us hl => match us, hl with | [_, _], _ => rfl) (fun cdv A outer s H E hr F hK hT hpa => (dss_one (ds_ret (de_callO hK ((ok_fraction W).T hT) hr (by decide) rfl W.g_fraction (da_cons (de_bin (opd_mul hK) (de_ix hK (de_var rfl (.inl rfl) rfl rfl) (de_c pe_int (fun _ _ => rfl)) (fun _ _ => rfl)) (de_ix hK (de_var rfl (.inl rfl) rfl rfl) (de_c pe_int (fun _ _ => rfl)) (fun _ _ => rfl))) (da_cons (de_bin (opd_mul hK) (de_ix hK (de_var rfl (.inl rfl) rfl rfl) (de_c pe_int (fun _ _ => rfl)) (fun _ _ => rfl)) (de_ix hK (de_var rfl (.inl rfl) rfl rfl) (de_c pe_int (fun _ _ => rfl)) (fun _ _ => rfl))) da_nil rfl) rfl) (faLen_cons (faLen_cons faLen_nil)) rfl rfl rfl rfl))))
/-! ### passed_on -/
abbrev s_passed_on : Stmt := top 39
def N_passed_on : List Str := ["plan", "centre", "amount", "left", "row", "products", "weights", "weight", "one"]
def d_passed_on : FB := bSeq (bPar [4, 5] (mDat (fBin dIdx (fMeth 0 g_Plan_rows [] (fVar 0) fNil) (fVar 1)) (mDat (fMeth 0 g_Plan_products [] (fVar 0) fNil) (mNil)))) (bSeq (bSet 6 (fBin dAdd (fSlc (fVar 4) (fNoPart) (fPart (fVar 5))) (fBlt dTuple (fCons (fNew (nLc [8, 7] (.tp [8, 7]) (sEnm (fCons (fSlc (fVar 4) (fPart (fVar 5)) (fNoPart)) (fNil))) (fYes) (fIf (fTest (fBin (dIn) (fVar 8) (fVar 3))) (fVar 7) (fC (.int 0))))) (fNil))))) (bRet (fBlt dTuple (fCons (fNew (nLc [7] (.nm 7) (sItm (fVar 6)) (fYes) (fCall g_times [] (fCons (fVar 2) (fCons (fDisp .tup (fCons (fVar 7) (fCons (fBlt dSum (fCons (fVar 6) (fNil))) (fNil)))) (fNil)))))) (fNil)))))
def g_passed_on : FG := fnD 9 [] d_passed_on
theorem nd_passed_on : N_passed_on.Nodup := by decide +kernel
theorem sc_passed_on : FnScope N_passed_on ["plan", "centre", "amount", "left"] (defScope s_passed_on) := ⟨rfl, rfl, rfl, nd_passed_on, rfl, by decide +kernel, by decide +kernel⟩
theorem ok_passed_on {P : Program} {w : World} {K : PySem.W.Frag} {mg : Str → Option Value} {base : Heap} (W : Ws K mg) : Def1 P w K mg base (TT K) 4 (He.ga K "passed_on") ["plan", "centre", "amount", "left"] g_passed_on := by
  obtain ⟨fd, Fd⟩ := W.f_passed_on
  exact FunD.def1 (N := N_passed_on) (ps := ["plan", "centre", "amount", "left"]) (asg := []) (fb := d_passed_on) Fd sc_passed_on (fun _ _ _ _ _ _ us hl => match us, hl with | [_, _, _, _], _ => rfl) (fun cdv A outer s H E hr F hK hT hpa => (dss_cons (ds_par2 rfl nd_passed_on rfl rfl (by decide) rfl rfl (dm_dat (de_ix hK (prD hK hT (de_var rfl (.inl rfl) rfl rfl) (ckT hT W.c_Plan) W.p_Plan_rows (ok_Plan_rows W) hr (by decide) rfl rfl) (de_var rfl (.inl rfl) rfl rfl) (fun _ _ => rfl)) (dm_dat (prD hK hT (de_var rfl (.inl rfl) rfl rfl) (ckT hT W.c_Plan) W.p_Plan_products (ok_Plan_products W) hr (by decide) rfl rfl) dm_nil rfl) rfl) rfl rfl (hpa.nots rfl)) (dss_cons (ds_set nd_passed_on rfl (.inr rfl) (de_bin (opd_add hK) (de_slc hK (de_var rfl (.inl rfl) rfl rfl) do_none (do_some (de_var rfl (.inl rfl) rfl rfl))) (de_bty (cd_tuple hK) rfl W.n_tuple bt_tuple (da_cons (de_new (dn_lcI [("one", 8), ("weight", 7)] rfl hK rfl nd_passed_on (di_enm hK rfl W.n_enumerate (da_cons (de_slc hK (de_var rfl (.inl rfl) rfl rfl) (do_some (de_var rfl (.inl rfl) rfl rfl)) do_none) da_nil rfl) rfl (faLen_cons faLen_nil).eq) (blkB_ok rfl) (by decide) (fun _ _ _ _ _ _ hK1 hT1 => (dg_tup hK1 rfl (dgs_cons (dg_name nd_passed_on rfl (.inl rfl) (.inr rfl)) (dgs_cons (dg_name nd_passed_on rfl (.inl rfl) (.inr rfl)) dgs_nil rfl) rfl) rfl rfl rfl)) (fun _ _ _ _ _ _ hK1 hT1 => dts_nil) (fun _ _ _ _ _ _ hK1 hT1 => (de_if (dt_cmp (opd_in hK1) (de_var rfl (.inl rfl) rfl rfl) (de_var rfl (.inr (.inl rfl)) rfl rfl) rfl) (de_var rfl (.inl rfl) rfl rfl) (de_c pe_int (fun _ _ => rfl)))) (fun _ => rfl))) da_nil rfl) (by decide) rfl rfl rfl)) rfl (.inl rfl) (hpa.not (i := 6) rfl)) (dss_one (ds_ret (de_bty (cd_tuple hK) rfl W.n_tuple bt_tuple (da_cons (de_new (dn_lcI [("weight", 7)] rfl hK rfl nd_passed_on (di_itm hK (de_var rfl (.inr (.inl rfl)) rfl rfl)) (blkB_ok rfl) (by decide) (fun _ _ _ _ _ _ hK1 hT1 => (dg_name nd_passed_on rfl (.inl rfl) (.inr rfl))) (fun _ _ _ _ _ _ hK1 hT1 => dts_nil) (fun _ _ _ _ _ _ hK1 hT1 => (de_callO hK1 ((ok_times W).T (hT1.trans hT)) hr (by decide) rfl W.g_times (da_cons (de_var rfl (.inr (.inl rfl)) rfl rfl) (da_cons (de_tup (da_cons (de_var rfl (.inl rfl) rfl rfl) (da_cons (de_blt (cd_sum hK1 rfl) rfl W.n_sum bt_sum (da_cons (de_var rfl (.inr (.inl rfl)) rfl rfl) da_nil rfl) (by decide) rfl rfl rfl) da_nil rfl) rfl)) da_nil rfl) rfl) (faLen_cons (faLen_cons faLen_nil)) rfl rfl rfl rfl)) (fun _ => rfl))) da_nil rfl) (by decide) rfl rfl rfl))))))
/-! ### sum_of -/
abbrev s_sum_of : Stmt := top 19
def N_sum_of : List Str := ["fractions", "found", "top", "bottom"]
def d_sum_of : FB := bSeq (bSet 1 (fC (.tup [.int 0, .int 1]))) (bSeq (bFor (.tp [2, 3]) (sItm (fVar 0)) (bSet 1 (fCall g_fraction [] (fCons (fBin dAdd (fBin dMul (fBin dIdx (fVar 1) (fC (.int 0))) (fVar 3)) (fBin dMul (fVar 2) (fBin dIdx (fVar 1) (fC (.int 1))))) (fCons (fBin dMul (fBin dIdx (fVar 1) (fC (.int 1))) (fVar 3)) (fNil)))))) (bRet (fVar 1)))
def g_sum_of : FG := fnD 4 [] d_sum_of
theorem nd_sum_of : N_sum_of.Nodup := by decide +kernel
theorem sc_sum_of : FnScope N_sum_of ["fractions"] (defScope s_sum_of) := ⟨rfl, rfl, rfl, nd_sum_of, rfl, by decide +kernel, by decide +kernel⟩
theorem ok_sum_of {P : Program} {w : World} {K : PySem.W.Frag} {mg : Str → Option Value} {base : Heap} (W : Ws K mg) : Def1 P w K mg base (TT K) 3 (He.ga K "sum_of") ["fractions"] g_sum_of := by
  obtain ⟨fd, Fd⟩ := W.f_sum_of
  exact FunD.def1 (N := N_sum_of) (ps := ["fractions"]) (asg := []) (fb := d_sum_of) Fd sc_sum_of (fun _ _ _ _ _ _ us hl => match us, hl with | [_], _ => rfl) (fun cdv A outer s H E hr F hK hT hpa => (dss_cons (ds_set nd_sum_of rfl (.inl rfl) (de_glob rfl W.g_NOTHING (show RelV (.ref _) _ from rfl) rfl (fun M H => tupK (ns := [0, 1]) hK W.t_NOTHING M H)) rfl (.inl rfl) (hpa.not (i := 1) rfl)) (dss_cons (ds_for bodyCx_own rfl (di_itm hK (de_var rfl (.inl rfl) rfl rfl)) (dg_tup hK rfl (dgs_cons (dg_name nd_sum_of rfl (.inl rfl) (.inl rfl)) (dgs_cons (dg_name nd_sum_of rfl (.inl rfl) (.inl rfl)) dgs_nil rfl) rfl) rfl rfl rfl) (dss_one (ds_set nd_sum_of rfl (.inl rfl) (de_callO hK ((ok_fraction W).T hT) hr (by decide) rfl W.g_fraction (da_cons (de_bin (opd_add hK) (de_bin (opd_mul hK) (de_ix hK (de_var rfl (.inl rfl) rfl rfl) (de_c pe_int (fun _ _ => rfl)) (fun _ _ => rfl)) (de_var rfl (.inl rfl) rfl rfl)) (de_bin (opd_mul hK) (de_var rfl (.inl rfl) rfl rfl) (de_ix hK (de_var rfl (.inl rfl) rfl rfl) (de_c pe_int (fun _ _ => rfl)) (fun _ _ => rfl)))) (da_cons (de_bin (opd_mul hK) (de_ix hK (de_var rfl (.inl rfl) rfl rfl) (de_c pe_int (fun _ _ => rfl)) (fun _ _ => rfl)) (de_var rfl (.inl rfl) rfl rfl)) da_nil rfl) rfl) (faLen_cons (faLen_cons faLen_nil)) rfl rfl rfl rfl) rfl (.inl rfl) (hpa.not (i := 1) rfl))) (fun _ => rfl) (hpa.nots rfl)) (dss_one (ds_ret (de_var rfl (.inl rfl) rfl rfl))))))
/-! ### closings -/
abbrev s_closings : Stmt := top 40
def N_closings : List Str := ["plan", "order", "amounts", "had", "left", "found", "centre", "parts", "one", "part"]
def d_closings : FB := bSeq (bPar [3, 4, 5] (mDat (fBlt dList (fCons (fVar 2) (fNil))) (mNew (nRg (fLen 0 g_Plan___len__ (fVar 0))) (mNew (nDisp (fNil)) (mNil))))) (bSeq (bFor (.nm 6) (sItm (fVar 1)) (bSeq (bExp (fLM lmRem 4 (fVar 6))) (bSeq (bSet 7 (fCall g_passed_on [] (fCons (fVar 0) (fCons (fVar 6) (fCons (fBin dIdx (fVar 3) (fVar 6)) (fCons (fVar 4) (fNil))))))) (bSeq (bExp (fLM lmApp 5 (fDisp .tup (fCons (fVar 6) (fCons (fBin dIdx (fVar 3) (fVar 6)) (fCons (fVar 7) (fNil))))))) (bSet 3 (fNew (nLc [8, 9] (.tp [8, 9]) (sZip (fCons (fVar 3) (fCons (fSlc (fVar 7) (fPart (fMeth 0 g_Plan_products [] (fVar 0) fNil)) (fNoPart)) (fNil)))) (fYes) (fCall g_sum_of [] (fCons (fNew (nDisp (fCons (fVar 8) (fCons (fVar 9) (fNil))))) (fNil)))))))))) (bSeq (bFrz 5) (bRet (fVar 5))))
def g_closings : FG := fnD 10 [] d_closings
theorem nd_closings : N_closings.Nodup := by decide +kernel
theorem sc_closings : FnScope N_closings ["plan", "order", "amounts"] (defScope s_closings) := ⟨rfl, rfl, rfl, nd_closings, rfl, by decide +kernel, by decide +kernel⟩
theorem ok_closings {P : Program} {w : World} {K : PySem.W.Frag} {mg : Str → Option Value} {base : Heap} (W : Ws K mg) : Def1 P w K mg base (TT K) 5 (He.ga K "closings") ["plan", "order", "amounts"] g_closings := by
  obtain ⟨fd, Fd⟩ := W.f_closings
  exact FunD.def1 (N := N_closings) (ps := ["plan", "order", "amounts"]) (asg := []) (fb := d_closings) Fd sc_closings (fun _ _ _ _ _ _ us hl => match us, hl with | [_, _, _], _ => rfl) (fun cdv A outer s H E hr F hK hT hpa => (dss_cons (ds_par3 rfl nd_closings rfl rfl rfl (by decide) (by decide) (by decide) rfl rfl rfl (dm_dat (de_bty (cd_list hK) rfl W.n_list bt_list (da_cons (de_var rfl (.inl rfl) rfl rfl) da_nil rfl) (by decide) rfl rfl rfl) (dm_new (dn_rg rfl rfl W.n_list rfl W.n_range (de_len (lenD hK hT W.s_Plan___len__ (ok_Plan___len__ W) hr (by decide) rfl rfl W.n_len bt_len (de_var rfl (.inl rfl) rfl rfl) (by decide) rfl rfl rfl) (de_blt (cd_len hK) rfl W.n_len bt_len (da_cons (de_var rfl (.inl rfl) rfl rfl) da_nil rfl) (by decide) rfl rfl rfl) rfl) rfl rfl) (fun _ jK1 jT1 => (dm_new (dn_lst da_nil) (fun _ jK2 jT2 => dm_nil) rfl)) rfl) rfl) rfl rfl (hpa.nots rfl)) (dss_cons (ds_for bodyCx_own rfl (di_itm hK (de_var rfl (.inl rfl) rfl rfl)) (dg_name nd_closings rfl (.inl rfl) (.inl rfl)) (dss_cons (ds_expr (de_lm hK PySem.F.slot_list_remove PySem.F.type_list_remove md_rem rfl (.inl rfl) rfl rfl (de_var rfl (.inl rfl) rfl rfl) rfl rfl rfl rfl rfl) rfl) (dss_cons (ds_set nd_closings rfl (.inl rfl) (de_callO hK ((ok_passed_on W).T hT) hr (by decide) rfl W.g_passed_on (da_cons (de_var rfl (.inl rfl) rfl rfl) (da_cons (de_var rfl (.inl rfl) rfl rfl) (da_cons (de_ix hK (de_var rfl (.inl rfl) rfl rfl) (de_var rfl (.inl rfl) rfl rfl) (fun _ _ => rfl)) (da_cons (de_var rfl (.inl rfl) rfl rfl) da_nil rfl) rfl) rfl) rfl) (faLen_cons (faLen_cons (faLen_cons (faLen_cons faLen_nil)))) rfl rfl rfl rfl) rfl (.inl rfl) (hpa.not (i := 7) rfl)) (dss_cons (ds_expr (de_lm hK PySem.F.slot_list_append PySem.F.type_list_append md_app rfl (.inl rfl) rfl rfl (de_tup (da_cons (de_var rfl (.inl rfl) rfl rfl) (da_cons (de_ix hK (de_var rfl (.inl rfl) rfl rfl) (de_var rfl (.inl rfl) rfl rfl) (fun _ _ => rfl)) (da_cons (de_var rfl (.inl rfl) rfl rfl) da_nil rfl) rfl) rfl)) rfl rfl rfl rfl rfl) rfl) (dss_one (ds_lcD (ps_lcI [("one", 8), ("part", 9)] rfl hK rfl nd_closings rfl rfl (sw_true rfl rfl rfl rfl) (di_zip hK rfl W.n_zip (da_cons (de_var rfl (.inl rfl) rfl rfl) (da_cons (de_slc hK (de_var rfl (.inl rfl) rfl rfl) (do_some (prD hK hT (de_var rfl (.inl rfl) rfl rfl) (ckT hT W.c_Plan) W.p_Plan_products (ok_Plan_products W) hr (by decide) rfl rfl)) do_none) da_nil rfl) rfl) rfl rfl (faLen_cons (faLen_cons faLen_nil)).eq) (blkB_ok rfl) (by decide) (fun _ _ _ _ _ _ hK1 hT1 => (dg_tup hK1 rfl (dgs_cons (dg_name nd_closings rfl (.inl rfl) (.inr rfl)) (dgs_cons (dg_name nd_closings rfl (.inl rfl) (.inr rfl)) dgs_nil rfl) rfl) rfl rfl rfl)) (fun _ _ _ _ _ _ hK1 hT1 => dts_nil) (fun _ _ _ _ _ _ hK1 hT1 => (de_callO hK1 ((ok_sum_of W).T (hT1.trans hT)) hr (by decide) rfl W.g_sum_of (da_cons (de_new (dn_lst (da_cons (de_var rfl (.inl rfl) rfl rfl) (da_cons (de_var rfl (.inl rfl) rfl rfl) da_nil rfl) rfl))) da_nil rfl) (faLen_cons faLen_nil) rfl rfl rfl rfl)) (fun _ => rfl)) (hpa.not (i := 3) rfl)))))) (fun _ => rfl) (hpa.nots rfl)) (dss_frz (dss_one (ds_ret (de_var rfl (.inl rfl) rfl rfl))) (hpa.not (i := 5) rfl)))))
/-! ### borne_in -/
abbrev s_borne_in : Stmt := top 41
def N_borne_in : List Str := ["plan", "order", "amounts", "found", "centre", "amount", "parts", "one", "part"]
def d_borne_in : FB := bSeq (bSet 3 (fBin dMul (fNew (nDisp (fCons (fC (.tup [.int 0, .int 1])) (fNil)))) (fMeth 0 g_Plan_products [] (fVar 0) fNil))) (bSeq (bFor (.tp [4, 5, 6]) (sItm (fCall g_closings [] (fCons (fVar 0) (fCons (fVar 1) (fCons (fVar 2) (fNil)))))) (bSet 3 (fNew (nLc [7, 8] (.tp [7, 8]) (sZip (fCons (fVar 3) (fCons (fVar 6) (fNil)))) (fYes) (fCall g_sum_of [] (fCons (fNew (nDisp (fCons (fVar 7) (fCons (fVar 8) (fNil))))) (fNil))))))) (bRet (fBlt dTuple (fCons (fVar 3) (fNil)))))
def g_borne_in : FG := fnD 9 [] d_borne_in
theorem nd_borne_in : N_borne_in.Nodup := by decide +kernel
theorem sc_borne_in : FnScope N_borne_in ["plan", "order", "amounts"] (defScope s_borne_in) := ⟨rfl, rfl, rfl, nd_borne_in, rfl, by decide +kernel, by decide +kernel⟩
theorem ok_borne_in {P : Program} {w : World} {K : PySem.W.Frag} {mg : Str → Option Value} {base : Heap} (W : Ws K mg) : Def1 P w K mg base (TT K) 6 (He.ga K "borne_in") ["plan", "order", "amounts"] g_borne_in := by
  obtain ⟨fd, Fd⟩ := W.f_borne_in
  exact FunD.def1 (N := N_borne_in) (ps := ["plan", "order", "amounts"]) (asg := []) (fb := d_borne_in) Fd sc_borne_in (fun _ _ _ _ _ _ us hl => match us, hl with | [_, _, _], _ => rfl) (fun cdv A outer s H E hr F hK hT hpa => (dss_cons (ds_set nd_borne_in rfl (.inl rfl) (de_bin (opd_mul hK) (de_new (dn_lst (da_cons (de_glob rfl W.g_NOTHING (show RelV (.ref _) _ from rfl) rfl (fun M H => tupK (ns := [0, 1]) hK W.t_NOTHING M H)) da_nil rfl))) (prD hK hT (de_var rfl (.inl rfl) rfl rfl) (ckT hT W.c_Plan) W.p_Plan_products (ok_Plan_products W) hr (by decide) rfl rfl)) rfl (.inl rfl) (hpa.not (i := 3) rfl)) (dss_cons (ds_for bodyCx_own rfl (di_itm hK (de_callO hK ((ok_closings W).T hT) hr (by decide) rfl W.g_closings (da_cons (de_var rfl (.inl rfl) rfl rfl) (da_cons (de_var rfl (.inl rfl) rfl rfl) (da_cons (de_var rfl (.inl rfl) rfl rfl) da_nil rfl) rfl) rfl) (faLen_cons (faLen_cons (faLen_cons faLen_nil))) rfl rfl rfl rfl)) (dg_tup hK rfl (dgs_cons (dg_name nd_borne_in rfl (.inl rfl) (.inl rfl)) (dgs_cons (dg_name nd_borne_in rfl (.inl rfl) (.inl rfl)) (dgs_cons (dg_name nd_borne_in rfl (.inl rfl) (.inl rfl)) dgs_nil rfl) rfl) rfl) rfl rfl rfl) (dss_one (ds_lcD (ps_lcI [("one", 7), ("part", 8)] rfl hK rfl nd_borne_in rfl rfl (sw_true rfl rfl rfl rfl) (di_zip hK rfl W.n_zip (da_cons (de_var rfl (.inl rfl) rfl rfl) (da_cons (de_var rfl (.inl rfl) rfl rfl) da_nil rfl) rfl) rfl rfl (faLen_cons (faLen_cons faLen_nil)).eq) (blkB_ok rfl) (by decide) (fun _ _ _ _ _ _ hK1 hT1 => (dg_tup hK1 rfl (dgs_cons (dg_name nd_borne_in rfl (.inl rfl) (.inr rfl)) (dgs_cons (dg_name nd_borne_in rfl (.inl rfl) (.inr rfl)) dgs_nil rfl) rfl) rfl rfl rfl)) (fun _ _ _ _ _ _ hK1 hT1 => dts_nil) (fun _ _ _ _ _ _ hK1 hT1 => (de_callO hK1 ((ok_sum_of W).T (hT1.trans hT)) hr (by decide) rfl W.g_sum_of (da_cons (de_new (dn_lst (da_cons (de_var rfl (.inl rfl) rfl rfl) (da_cons (de_var rfl (.inl rfl) rfl rfl) da_nil rfl) rfl))) da_nil rfl) (faLen_cons faLen_nil) rfl rfl rfl rfl)) (fun _ => rfl)) (hpa.not (i := 3) rfl))) (fun _ => rfl) (hpa.nots rfl)) (dss_one (ds_ret (de_bty (cd_tuple hK) rfl W.n_tuple bt_tuple (da_cons (de_var rfl (.inl rfl) rfl rfl) da_nil rfl) (by decide) rfl rfl rfl))))))
/-! ### all_borne -/
abbrev s_all_borne : Stmt := top 44
def N_all_borne : List Str := ["plan", "costs", "amounts", "cost", "order"]
def d_all_borne : FB := bSeq (bSet 2 (fNew (nLc [3] (.nm 3) (sItm (fVar 1)) (fYes) (fCall g_as_fraction [] (fCons (fVar 3) (fNil)))))) (bRet (fNew (nLc [4] (.nm 4) (sItm (fCall g_all_orders [] (fCons (fNew (nRg (fLen 0 g_Plan___len__ (fVar 0)))) (fNil)))) (fYes) (fDisp .tup (fCons (fVar 4) (fCons (fCall g_borne_in [] (fCons (fVar 0) (fCons (fVar 4) (fCons (fVar 2) (fNil))))) (fNil)))))))
def g_all_borne : FG := fnD 5 [] d_all_borne
theorem nd_all_borne : N_all_borne.Nodup := by decide +kernel
theorem sc_all_borne : FnScope N_all_borne ["plan", "costs"] (defScope s_all_borne) := ⟨rfl, rfl, rfl, nd_all_borne, rfl, by decide +kernel, by decide +kernel⟩
theorem ok_all_borne {P : Program} {w : World} {K : PySem.W.Frag} {mg : Str → Option Value} {base : Heap} (W : Ws K mg) : Def1 P w K mg base (TT K) 7 (He.ga K "all_borne") ["plan", "costs"] g_all_borne := by
  obtain ⟨fd, Fd⟩ := W.f_all_borne
  exact FunD.def1 (N := N_all_borne) (ps := ["plan", "costs"]) (asg := []) (fb := d_all_borne) Fd sc_all_borne (fun _ _ _ _ _ _ us hl => match us, hl with | [_, _], _ => rfl) (fun cdv A outer s H E hr F hK hT hpa => (dss_cons (ds_set nd_all_borne rfl (.inr rfl) (de_new (dn_lcI [("cost", 3)] rfl hK rfl nd_all_borne (di_itm hK (de_var rfl (.inl rfl) rfl rfl)) (blkB_ok rfl) (by decide) (fun _ _ _ _ _ _ hK1 hT1 => (dg_name nd_all_borne rfl (.inl rfl) (.inr rfl))) (fun _ _ _ _ _ _ hK1 hT1 => dts_nil) (fun _ _ _ _ _ _ hK1 hT1 => (de_callO hK1 ((ok_as_fraction W).T (hT1.trans hT)) hr (by decide) rfl W.g_as_fraction (da_cons (de_var rfl (.inl rfl) rfl rfl) da_nil rfl) (faLen_cons faLen_nil) rfl rfl rfl rfl)) (fun _ => rfl))) rfl (.inl rfl) (hpa.not (i := 2) rfl)) (dss_one (ds_ret (de_new (dn_lcI [("order", 4)] rfl hK rfl nd_all_borne (di_itm hK (de_callO hK ((ok_all_orders W).T hT) hr (by decide) rfl W.g_all_orders (da_cons (de_new (dn_rg rfl rfl W.n_list rfl W.n_range (de_len (lenD hK hT W.s_Plan___len__ (ok_Plan___len__ W) hr (by decide) rfl rfl W.n_len bt_len (de_var rfl (.inr (.inl rfl)) rfl rfl) (by decide) rfl rfl rfl) (de_blt (cd_len hK) rfl W.n_len bt_len (da_cons (de_var rfl (.inr (.inl rfl)) rfl rfl) da_nil rfl) (by decide) rfl rfl rfl) rfl) rfl rfl)) da_nil rfl) (faLen_cons faLen_nil) rfl rfl rfl rfl)) (blkB_ok rfl) (by decide) (fun _ _ _ _ _ _ hK1 hT1 => (dg_name nd_all_borne rfl (.inl rfl) (.inr rfl))) (fun _ _ _ _ _ _ hK1 hT1 => dts_nil) (fun _ _ _ _ _ _ hK1 hT1 => (de_tup (da_cons (de_var rfl (.inl rfl) rfl rfl) (da_cons (de_callO hK1 ((ok_borne_in W).T (hT1.trans hT)) hr (by decide) rfl W.g_borne_in (da_cons (de_var rfl (.inr (.inl rfl)) rfl rfl) (da_cons (de_var rfl (.inl rfl) rfl rfl) (da_cons (de_var rfl (.inr (.inl rfl)) rfl rfl) da_nil rfl) rfl) rfl) (faLen_cons (faLen_cons (faLen_cons faLen_nil))) rfl rfl rfl rfl) da_nil rfl) rfl))) (fun _ => rfl)))))))
/-! ### is_less -/
abbrev s_is_less : Stmt := top 21
def N_is_less : List Str := ["one", "other"]
def d_is_less : FB := bRet (fBin (dCmp fun i j => decide (i < j)) (fBin dMul (fBin dIdx (fVar 0) (fC (.int 0))) (fBin dIdx (fVar 1) (fC (.int 1)))) (fBin dMul (fBin dIdx (fVar 1) (fC (.int 0))) (fBin dIdx (fVar 0) (fC (.int 1)))))
def g_is_less : FG := fnD 2 [] d_is_less
theorem nd_is_less : N_is_less.Nodup := by decide +kernel
theorem sc_is_less : FnScope N_is_less ["one", "other"] (defScope s_is_less) := ⟨rfl, rfl, rfl, nd_is_less, rfl, by decide +kernel, by decide +kernel⟩
theorem ok_is_less {P : Program} {w : World} {K : PySem.W.Frag} {mg : Str → Option Value} {base : Heap} (W : Ws K mg) : Def1 P w K mg base (TT K) 1 (He.ga K "is_less") ["one", "other"] g_is_less := by
  obtain ⟨fd, Fd⟩ := W.f_is_less
  exact FunD.def1 (N := N_is_less) (ps := ["one", "other"]) (asg := []) (fb := d_is_less) Fd sc_is_less (fun _ _ _ _ _ _ us hl => match us, hl with | [_, _], _ => rfl) (fun cdv A outer s H E hr F hK hT hpa => (dss_one (ds_ret (de_cmp (opd_cmp op_lt) (de_bin (opd_mul hK) (de_ix hK (de_var rfl (.inl rfl) rfl rfl) (de_c pe_int (fun _ _ => rfl)) (fun _ _ => rfl)) (de_ix hK (de_var rfl (.inl rfl) rfl rfl) (de_c pe_int (fun _ _ => rfl)) (fun _ _ => rfl))) (de_bin (opd_mul hK) (de_ix hK (de_var rfl (.inl rfl) rfl rfl) (de_c pe_int (fun _ _ => rfl)) (fun _ _ => rfl)) (de_ix hK (de_var rfl (.inl rfl) rfl rfl) (de_c pe_int (fun _ _ => rfl)) (fun _ _ => rfl))) rfl))))
/-! ### between -/
abbrev s_between : Stmt := top 45
def N_between : List Str := ["plan", "costs", "product", "found", "least", "greatest", "one", "order", "borne"]
def d_between : FB := bSeq (bExp (fCall g_need_plan [] (fCons (fVar 0) (fNil)))) (bSeq (bExp (fCall g_need_costs [] (fCons (fVar 0) (fCons (fVar 1) (fNil))))) (bSeq (bIf (fNot (fTest (fCall g_is_between [] (fCons (fVar 2) (fCons (fC (.int 0)) (fCons (fBin dSub (fMeth 0 g_Plan_products [] (fVar 0) fNil) (fC (.int 1))) (fNil))))))) (bNo) (bNx)) (bSeq (bSet 3 (fNew (nLc [7, 8] (.tp [7, 8]) (sItm (fCall g_all_borne [] (fCons (fVar 0) (fCons (fVar 1) (fNil))))) (fYes) (fBin dIdx (fVar 8) (fVar 2))))) (bSeq (bPar [4, 5] (mDat (fBin dIdx (fVar 3) (fC (.int 0))) (mDat (fBin dIdx (fVar 3) (fC (.int 0))) (mNil)))) (bSeq (bFor (.nm 6) (sItm (fVar 3)) (bSeq (bSet 4 (fIf (fTest (fCall g_is_less [] (fCons (fVar 6) (fCons (fVar 4) (fNil))))) (fVar 6) (fVar 4))) (bSet 5 (fIf (fTest (fCall g_is_less [] (fCons (fVar 5) (fCons (fVar 6) (fNil))))) (fVar 6) (fVar 5))))) (bRet (fDisp .tup (fCons (fVar 4) (fCons (fVar 5) (fNil))))))))))
def g_between : FG := fnD 9 [] d_between
theorem nd_between : N_between.Nodup := by decide +kernel
theorem sc_between : FnScope N_between ["plan", "costs", "product"] (defScope s_between) := ⟨rfl, rfl, rfl, nd_between, rfl, by decide +kernel, by decide +kernel⟩
theorem ok_between {P : Program} {w : World} {K : PySem.W.Frag} {mg : Str → Option Value} {base : Heap} (W : Ws K mg) : Def1 P w K mg base (TT K) 8 (He.ga K "between") ["plan", "costs", "product"] g_between := by
  obtain ⟨fd, Fd⟩ := W.f_between
  exact FunD.def1 (N := N_between) (ps := ["plan", "costs", "product"]) (asg := []) (fb := d_between) Fd sc_between (fun _ _ _ _ _ _ us hl => match us, hl with | [_, _, _], _ => rfl) (fun cdv A outer s H E hr F hK hT hpa => (dss_cons (ds_expr (de_callO hK ((ok_need_plan W).T hT) hr (by decide) rfl W.g_need_plan (da_cons (de_var rfl (.inl rfl) rfl rfl) da_nil rfl) (faLen_cons faLen_nil) rfl rfl rfl rfl) rfl) (dss_cons (ds_expr (de_callO hK ((ok_need_costs W).T hT) hr (by decide) rfl W.g_need_costs (da_cons (de_var rfl (.inl rfl) rfl rfl) (da_cons (de_var rfl (.inl rfl) rfl rfl) da_nil rfl) rfl) (faLen_cons (faLen_cons faLen_nil)) rfl rfl rfl rfl) rfl) (dss_cons (ds_if (dt_not (dt_val (de_callO hK ((ok_is_between W).T hT) hr (by decide) rfl W.g_is_between (da_cons (de_var rfl (.inr (.inl rfl)) rfl rfl) (da_cons (de_c pe_int (fun _ _ => rfl)) (da_cons (de_bin (opd_sub hK) (prD hK hT (de_var rfl (.inl rfl) rfl rfl) (ckT hT W.c_Plan) W.p_Plan_products (ok_Plan_products W) hr (by decide) rfl rfl) (de_c pe_int (fun _ _ => rfl))) da_nil rfl) rfl) rfl) (faLen_cons (faLen_cons (faLen_cons faLen_nil))) rfl rfl rfl rfl) (fun _ => rfl))) (dss_one ds_never) dss_nil) (dss_cons (ds_lcD (ps_lcI [("order", 7), ("borne", 8)] rfl hK rfl nd_between rfl rfl (sw_true rfl rfl rfl rfl) (di_itm hK (de_callO hK ((ok_all_borne W).T hT) hr (by decide) rfl W.g_all_borne (da_cons (de_var rfl (.inl rfl) rfl rfl) (da_cons (de_var rfl (.inl rfl) rfl rfl) da_nil rfl) rfl) (faLen_cons (faLen_cons faLen_nil)) rfl rfl rfl rfl)) (blkB_ok rfl) (by decide) (fun _ _ _ _ _ _ hK1 hT1 => (dg_tup hK1 rfl (dgs_cons (dg_name nd_between rfl (.inl rfl) (.inr rfl)) (dgs_cons (dg_name nd_between rfl (.inl rfl) (.inr rfl)) dgs_nil rfl) rfl) rfl rfl rfl)) (fun _ _ _ _ _ _ hK1 hT1 => dts_nil) (fun _ _ _ _ _ _ hK1 hT1 => (de_ix hK1 (de_var rfl (.inl rfl) rfl rfl) (de_var rfl (.inr (.inl rfl)) rfl rfl) (fun _ _ => rfl))) (fun _ => rfl)) (hpa.not (i := 3) rfl)) (dss_cons (ds_par2 rfl nd_between rfl rfl (by decide) rfl rfl (dm_dat (de_ix hK (de_var rfl (.inl rfl) rfl rfl) (de_c pe_int (fun _ _ => rfl)) (fun _ _ => rfl)) (dm_dat (de_ix hK (de_var rfl (.inl rfl) rfl rfl) (de_c pe_int (fun _ _ => rfl)) (fun _ _ => rfl)) dm_nil rfl) rfl) rfl rfl (hpa.nots rfl)) (dss_cons (ds_for bodyCx_own rfl (di_itm hK (de_var rfl (.inl rfl) rfl rfl)) (dg_name nd_between rfl (.inl rfl) (.inl rfl)) (dss_cons (ds_set nd_between rfl (.inl rfl) (de_if (dt_val (de_callO hK ((ok_is_less W).T hT) hr (by decide) rfl W.g_is_less (da_cons (de_var rfl (.inl rfl) rfl rfl) (da_cons (de_var rfl (.inl rfl) rfl rfl) da_nil rfl) rfl) (faLen_cons (faLen_cons faLen_nil)) rfl rfl rfl rfl) (fun _ => rfl)) (de_var rfl (.inl rfl) rfl rfl) (de_var rfl (.inl rfl) rfl rfl)) rfl (.inl rfl) (hpa.not (i := 4) rfl)) (dss_one (ds_set nd_between rfl (.inl rfl) (de_if (dt_val (de_callO hK ((ok_is_less W).T hT) hr (by decide) rfl W.g_is_less (da_cons (de_var rfl (.inl rfl) rfl rfl) (da_cons (de_var rfl (.inl rfl) rfl rfl) da_nil rfl) rfl) (faLen_cons (faLen_cons faLen_nil)) rfl rfl rfl rfl) (fun _ => rfl)) (de_var rfl (.inl rfl) rfl rfl) (de_var rfl (.inl rfl) rfl rfl)) rfl (.inl rfl) (hpa.not (i := 5) rfl)))) (fun _ => rfl) (hpa.nots rfl)) (dss_one (ds_ret (de_tup (da_cons (de_var rfl (.inl rfl) rfl rfl) (da_cons (de_var rfl (.inl rfl) rfl rfl) da_nil rfl) rfl)))))))))))
/-! ### _law_right -/
abbrev s__law_right : Stmt := top 63
def N__law_right : List Str := ["_law_pen_here", "_law_goods", "_law_rows", "_law_net_here", "_law_lap", "_law_spent_here", "_law_all_borne_here", "_law_good", "_law_due", "_law_turn", "_law_borne"]
def d__law_right : FB := bSeq (bBind (.tp [1, 2]) (fCall g__law_case [] (fCons (fVar 0) (fNil)))) (bSeq (bSet 3 (fCall g__law_net [] (fCons (fVar 1) (fCons (fVar 2) (fNil))))) (bSeq (bFor (.nm 4) (sRng (fCons (fC (.int 2)) (fNil))) (bSeq (bSet 5 (fCall g__law_spent [] (fCons (fVar 0) (fCons (fBlt dLen (fCons (fVar 2) fNil)) (fNil))))) (bSeq (bSet 6 (fNew (nLc [9] (.nm 9) (sItm (fCall g__law_turns [] (fCons (fBlt dLen (fCons (fVar 2) fNil)) (fNil)))) (fYes) (fCall g__law_borne_by [] (fCons (fVar 1) (fCons (fVar 2) (fCons (fVar 9) (fCons (fVar 5) (fNil))))))))) (bFor (.nm 7) (sRng (fCons (fVar 1) (fNil))) (bSeq (bSet 8 (fCall g__law_ends [] (fCons (fNew (nLc [10] (.nm 10) (sItm (fVar 6)) (fYes) (fBin dIdx (fVar 10) (fVar 7)))) (fNil)))) (bIf (fNot (fTest (fCall g__law_same [] (fCons (fNew (nDisp (fCons (fCall g_between [] (fCons (fVar 3) (fCons (fVar 5) (fCons (fVar 7) (fNil))))) (fCons (fCall g_between [] (fCons (fVar 3) (fCons (fVar 5) (fCons (fVar 7) (fNil))))) (fNil))))) (fCons (fNew (nDisp (fCons (fVar 8) (fCons (fVar 8) (fNil))))) (fNil)))))) (bRet (fC (.bl false))) (bNx))))))) (bRet (fCall g__law_same [] (fCons (fMeth 0 g_Plan_rows [] (fVar 3) fNil) (fCons (fBlt dTuple (fCons (fVar 2) (fNil))) (fNil)))))))
def g__law_right : FG := fnD 11 [] d__law_right
theorem nd__law_right : N__law_right.Nodup := by decide +kernel
theorem sc__law_right : FnScope N__law_right ["_law_pen_here"] (defScope s__law_right) := ⟨rfl, rfl, rfl, nd__law_right, rfl, by decide +kernel, by decide +kernel⟩
theorem ok__law_right {P : Program} {w : World} {K : PySem.W.Frag} {mg : Str → Option Value} {base : Heap} (W : Ws K mg) : DefG P w K mg base (TT K) 9 (He.ga K "_law_right") ["_law_pen_here"] g__law_right := by
  obtain ⟨fd, Fd⟩ := W.f__law_right
  exact FunD.defG (N := N__law_right) (ps := ["_law_pen_here"]) (asg := []) (fb := d__law_right) Fd sc__law_right (fun _ _ _ _ _ _ us hl => match us, hl with | [_], _ => rfl) (fun cdv A outer s H E hr gd F hK hT hpa => (dss_cons (ds_bind (de_callO hK ((ok__law_case W).T hT) hr (by decide) rfl W.g__law_case (da_cons (de_var rfl (.inl rfl) rfl rfl) da_nil rfl) (faLen_cons faLen_nil) rfl rfl rfl rfl) (dg_tup hK rfl (dgs_cons (dg_name nd__law_right rfl (.inr rfl) (.inl rfl)) (dgs_cons (dg_name nd__law_right rfl (.inr rfl) (.inl rfl)) dgs_nil rfl) rfl) rfl rfl rfl) rfl rfl rfl (hpa.nots rfl)) (dss_cons (ds_set nd__law_right rfl (.inl rfl) (de_callO hK ((ok__law_net W).T hT) hr (by decide) rfl W.g__law_net (da_cons (de_var rfl (.inr (.inl rfl)) rfl rfl) (da_cons (de_var rfl (.inr (.inl rfl)) rfl rfl) da_nil rfl) rfl) (faLen_cons (faLen_cons faLen_nil)) rfl rfl rfl rfl) rfl (.inl rfl) (hpa.not (i := 3) rfl)) (dss_cons (ds_for bodyCx_own rfl (di_rng1 rfl W.n_range (da_cons (de_c pe_int (fun _ _ => rfl)) da_nil rfl) rfl (faLen_cons faLen_nil).eq) (dg_name nd__law_right rfl (.inl rfl) (.inl rfl)) (dss_cons (ds_set nd__law_right rfl (.inr rfl) (de_callO hK ((ok__law_spent W).T hT) hr (by decide) rfl W.g__law_spent (da_cons (de_var rfl (.inl rfl) rfl rfl) (da_cons (de_blt (cd_len hK) rfl W.n_len bt_len (da_cons (de_var rfl (.inr (.inl rfl)) rfl rfl) da_nil rfl) (by decide) rfl rfl rfl) da_nil rfl) rfl) (faLen_cons (faLen_cons faLen_nil)) rfl rfl rfl rfl) rfl (.inl rfl) (hpa.not (i := 5) rfl)) (dss_cons (ds_lcD (ps_lcI [("_law_turn", 9)] rfl hK rfl nd__law_right rfl rfl (sw_true rfl rfl rfl rfl) (di_itm hK (de_callO hK ((ok__law_turns W).T hT) hr (by decide) rfl W.g__law_turns (da_cons (de_blt (cd_len hK) rfl W.n_len bt_len (da_cons (de_var rfl (.inr (.inl rfl)) rfl rfl) da_nil rfl) (by decide) rfl rfl rfl) da_nil rfl) (faLen_cons faLen_nil) rfl rfl rfl rfl)) (blkB_ok rfl) (by decide) (fun _ _ _ _ _ _ hK1 hT1 => (dg_name nd__law_right rfl (.inl rfl) (.inr rfl))) (fun _ _ _ _ _ _ hK1 hT1 => dts_nil) (fun _ _ _ _ _ _ hK1 hT1 => (de_callO hK1 ((ok__law_borne_by W).T (hT1.trans hT)) hr (by decide) rfl W.g__law_borne_by (da_cons (de_var rfl (.inr (.inl rfl)) rfl rfl) (da_cons (de_var rfl (.inr (.inl rfl)) rfl rfl) (da_cons (de_var rfl (.inl rfl) rfl rfl) (da_cons (de_var rfl (.inr (.inl rfl)) rfl rfl) da_nil rfl) rfl) rfl) rfl) (faLen_cons (faLen_cons (faLen_cons (faLen_cons faLen_nil)))) rfl rfl rfl rfl)) (fun _ => rfl)) (hpa.not (i := 6) rfl)) (dss_one (ds_for bodyCx_own rfl (di_rng1 rfl W.n_range (da_cons (de_var rfl (.inr (.inl rfl)) rfl rfl) da_nil rfl) rfl (faLen_cons faLen_nil).eq) (dg_name nd__law_right rfl (.inr rfl) (.inl rfl)) (dss_cons (ds_set nd__law_right rfl (.inl rfl) (de_callO hK ((ok__law_ends W).T hT) hr (by decide) rfl W.g__law_ends (da_cons (de_new (dn_lcI [("_law_borne", 10)] rfl hK rfl nd__law_right (di_itm hK (de_var rfl (.inl rfl) rfl rfl)) (blkB_ok rfl) (by decide) (fun _ _ _ _ _ _ hK1 hT1 => (dg_name nd__law_right rfl (.inl rfl) (.inr rfl))) (fun _ _ _ _ _ _ hK1 hT1 => dts_nil) (fun _ _ _ _ _ _ hK1 hT1 => (de_ix hK1 (de_var rfl (.inl rfl) rfl rfl) (de_var rfl (.inr (.inl rfl)) rfl rfl) (fun _ _ => rfl))) (fun _ => rfl))) da_nil rfl) (faLen_cons faLen_nil) rfl rfl rfl rfl) rfl (.inl rfl) (hpa.not (i := 8) rfl)) (dss_one (ds_if (dt_not (dt_val (de_callG hK ((ok__law_same W).T hT) gd hr (by decide) rfl W.g__law_same (da_cons (de_new (dn_lst (da_cons (de_callO hK ((ok_between W).T hT) hr (by decide) rfl W.g_between (da_cons (de_var rfl (.inl rfl) rfl rfl) (da_cons (de_var rfl (.inr (.inl rfl)) rfl rfl) (da_cons (de_var rfl (.inr (.inl rfl)) rfl rfl) da_nil rfl) rfl) rfl) (faLen_cons (faLen_cons (faLen_cons faLen_nil))) rfl rfl rfl rfl) (da_cons (de_callO hK ((ok_between W).T hT) hr (by decide) rfl W.g_between (da_cons (de_var rfl (.inl rfl) rfl rfl) (da_cons (de_var rfl (.inr (.inl rfl)) rfl rfl) (da_cons (de_var rfl (.inr (.inl rfl)) rfl rfl) da_nil rfl) rfl) rfl) (faLen_cons (faLen_cons (faLen_cons faLen_nil))) rfl rfl rfl rfl) da_nil rfl) rfl))) (da_cons (de_new (dn_lst (da_cons (de_var rfl (.inl rfl) rfl rfl) (da_cons (de_var rfl (.inl rfl) rfl rfl) da_nil rfl) rfl))) da_nil rfl) rfl) (faLen_cons (faLen_cons faLen_nil)) rfl rfl rfl rfl) (fun _ => rfl))) (dss_one (ds_ret (de_c pe_bl (fun _ _ => rfl)))) dss_nil))) (fun _ => rfl) (hpa.nots rfl))))) (fun _ => rfl) (hpa.nots rfl)) (dss_one (ds_ret (de_callG hK ((ok__law_same W).T hT) gd hr (by decide) rfl W.g__law_same (da_cons (prD hK hT (de_var rfl (.inl rfl) rfl rfl) (ckT hT W.c_Plan) W.p_Plan_rows (ok_Plan_rows W) hr (by decide) rfl rfl) (da_cons (de_bty (cd_tuple hK) rfl W.n_tuple bt_tuple (da_cons (de_var rfl (.inr (.inl rfl)) rfl rfl) da_nil rfl) (by decide) rfl rfl rfl) da_nil rfl) rfl) (faLen_cons (faLen_cons faLen_nil)) rfl rfl rfl rfl)))))))
/-! ### law -/
abbrev s_law : Stmt := top 64
def N_law : List Str := ["_law_script", "_law_k", "_law_pen_here", "_law_lap"]
def d_law : FB := bSeq (bFor (.nm 1) (sRng (fCons (fBlt dMax (fCons (fC (.int 1)) (fCons (fBlt dMin (fCons (fBlt dLen (fCons (fVar 0) fNil)) (fCons (fC (.int 3)) (fNil)))) (fNil)))) (fNil))) (bSeq (bOwn 2 (nCallN gn__law_pen (fCons (fCall g__law_cell [] (fCons (fVar 0) (fCons (fVar 1) (fNil)))) (fNil)))) (bFor (.nm 3) (sRng (fCons (fC (.int 3)) (fNil))) (bIf (fNot (fTest (fCall g__law_right [] (fCons (fVar 2) (fNil))))) (bRet (fC (.bl false))) (bNx))))) (bRet (fC (.bl true)))
def g_law : FG := fnD 4 [] d_law
theorem nd_law : N_law.Nodup := by decide +kernel
theorem sc_law : FnScope N_law ["_law_script"] (defScope s_law) := ⟨rfl, rfl, rfl, nd_law, rfl, by decide +kernel, by decide +kernel⟩
theorem fn_law {P : Program} {w : World} {K : PySem.W.Frag} {mg : Str → Option Value} {base : Heap} (W : Ws K mg) {fd : FuncData} (Fd : FunD K "law" "law" (defArgs (top 64)) (defBody (top 64)) (defScope (top 64)) [] [] (He.ga K "law") fd) : FnG P w K mg base 10 (He.ga K "law") fd ["_law_script"] (spD K (TT K) 1 g_law) :=
  FunD.fnG (N := N_law) (ps := ["_law_script"]) (asg := []) (fb := d_law) Fd sc_law (fun cdv A outer s H E hr gd F hK hT hpa => (dss_cons (ds_for bodyCx_own rfl (di_rng1 rfl W.n_range (da_cons (de_blt (cd_max rfl) rfl W.n_max bt_max (da_cons (de_c pe_int (fun _ _ => rfl)) (da_cons (de_blt (cd_min rfl) rfl W.n_min bt_min (da_cons (de_blt (cd_len hK) rfl W.n_len bt_len (da_cons (de_var rfl (.inl rfl) rfl rfl) da_nil rfl) (by decide) rfl rfl rfl) (da_cons (de_c pe_int (fun _ _ => rfl)) da_nil rfl) rfl) (by decide) rfl rfl rfl) da_nil rfl) rfl) (by decide) rfl rfl rfl) da_nil rfl) rfl (faLen_cons faLen_nil).eq) (dg_name nd_law rfl (.inl rfl) (.inl rfl)) (dss_cons (ds_own nd_law rfl (.inl rfl) (dn_callN hK hT (okn__law_pen W) hr (by decide) rfl W.g__law_pen (da_cons (de_callO hK ((ok__law_cell W).T hT) hr (by decide) rfl W.g__law_cell (da_cons (de_var rfl (.inl rfl) rfl rfl) (da_cons (de_var rfl (.inl rfl) rfl rfl) da_nil rfl) rfl) (faLen_cons (faLen_cons faLen_nil)) rfl rfl rfl rfl) da_nil rfl) (faLen_cons faLen_nil) rfl rfl rfl rfl) rfl (.inl rfl) (hpa.not (i := 2) rfl)) (dss_one (ds_for bodyCx_own rfl (di_rng1 rfl W.n_range (da_cons (de_c pe_int (fun _ _ => rfl)) da_nil rfl) rfl (faLen_cons faLen_nil).eq) (dg_name nd_law rfl (.inl rfl) (.inl rfl)) (dss_one (ds_if (dt_not (dt_val (de_callG hK ((ok__law_right W).T hT) gd hr (by decide) rfl W.g__law_right (da_cons (de_var rfl (.inl rfl) rfl rfl) da_nil rfl) (faLen_cons faLen_nil) rfl rfl rfl rfl) (fun _ => rfl))) (dss_one (ds_ret (de_c pe_bl (fun _ _ => rfl)))) dss_nil)) (fun _ => rfl) (hpa.nots rfl)))) (fun _ => rfl) (hpa.nots rfl)) (dss_one (ds_ret (de_c pe_bl (fun _ _ => rfl))))))
theorem ws_of {K : PySem.W.Frag} {h : Heap} {mg : Str → Option Value} (X : K.In h) (G : h.Ns mainGlobals mg) (c : SaysX ckA fnL K) : Ws K mg := by
  have hc : (ckL.all fun f => f K) = true := c.chk
  exact {
    c_Plan := clsB_ok (ckAt hc 0 rfl) rfl rfl (by decide +kernel) (by decide)
    w_Plan_read := cmB_ok (ckAt hc 1 rfl)
    q_Plan := crB_ok (ckAt hc 2 rfl)
    n_abs := He.free_ok X G (ckAt hc 3 rfl)
    n_all := He.free_ok X G (ckAt hc 4 rfl)
    n_bool := He.free_ok X G (ckAt hc 5 rfl)
    n_enumerate := He.free_ok X G (ckAt hc 6 rfl)
    n_int := He.free_ok X G (ckAt hc 7 rfl)
    n_isinstance := He.free_ok X G (ckAt hc 8 rfl)
    n_len := He.free_ok X G (ckAt hc 9 rfl)
    n_list := He.free_ok X G (ckAt hc 10 rfl)
    n_max := He.free_ok X G (ckAt hc 11 rfl)
    n_min := He.free_ok X G (ckAt hc 12 rfl)
    n_range := He.free_ok X G (ckAt hc 13 rfl)
    n_repr := He.free_ok X G (ckAt hc 14 rfl)
    n_str := He.free_ok X G (ckAt hc 15 rfl)
    n_sum := He.free_ok X G (ckAt hc 16 rfl)
    n_tuple := He.free_ok X G (ckAt hc 17 rfl)
    n_zip := He.free_ok X G (ckAt hc 18 rfl)
    f_Plan___init__ := c.def_ 0 rfl
    f_Plan___len__ := c.def_ 1 rfl
    f_Plan_products := c.def_ 2 rfl
    f_Plan_read := c.def_ 3 rfl
    f_Plan_rows := c.def_ 4 rfl
    f__law_borne_by := c.def_ 5 rfl
    f__law_by := c.def_ 6 rfl
    f__law_case := c.def_ 7 rfl
    f__law_cell := c.def_ 8 rfl
    f__law_draw := c.def_ 9 rfl
    f__law_ends := c.def_ 10 rfl
    f__law_less := c.def_ 11 rfl
    f__law_net := c.def_ 12 rfl
    f__law_pen := c.def_ 13 rfl
    f__law_plus := c.def_ 14 rfl
    f__law_ratio := c.def_ 15 rfl
    f__law_right := c.def_ 16 rfl
    f__law_same := c.def_ 17 rfl
    f__law_shut := c.def_ 18 rfl
    f__law_spent := c.def_ 19 rfl
    f__law_turns := c.def_ 20 rfl
    f__law_weight := c.def_ 21 rfl
    f_all_borne := c.def_ 22 rfl
    f_all_orders := c.def_ 23 rfl
    f_are_costs := c.def_ 24 rfl
    f_are_rows := c.def_ 25 rfl
    f_as_fraction := c.def_ 26 rfl
    f_between := c.def_ 27 rfl
    f_borne_in := c.def_ 28 rfl
    f_closings := c.def_ 29 rfl
    f_divisor := c.def_ 30 rfl
    f_fraction := c.def_ 31 rfl
    f_is_between := c.def_ 32 rfl
    f_is_integer := c.def_ 33 rfl
    f_is_less := c.def_ 34 rfl
    f_is_row := c.def_ 35 rfl
    f_law := c.def_ 36 rfl
    f_need_costs := c.def_ 37 rfl
    f_need_plan := c.def_ 38 rfl
    f_number_in := c.def_ 39 rfl
    f_passed_on := c.def_ 40 rfl
    f_sum_of := c.def_ 41 rfl
    f_times := c.def_ 42 rfl
    g_NOTHING := He.glo_ok X G (ckAt hc 19 rfl)
    g_Plan := He.glo_ok X G (ckAt hc 20 rfl)
    g__law_borne_by := He.glo_ok X G (ckAt hc 21 rfl)
    g__law_by := He.glo_ok X G (ckAt hc 22 rfl)
    g__law_case := He.glo_ok X G (ckAt hc 23 rfl)
    g__law_cell := He.glo_ok X G (ckAt hc 24 rfl)
    g__law_draw := He.glo_ok X G (ckAt hc 25 rfl)
    g__law_ends := He.glo_ok X G (ckAt hc 26 rfl)
    g__law_less := He.glo_ok X G (ckAt hc 27 rfl)
    g__law_net := He.glo_ok X G (ckAt hc 28 rfl)
    g__law_pen := He.glo_ok X G (ckAt hc 29 rfl)
    g__law_plus := He.glo_ok X G (ckAt hc 30 rfl)
    g__law_ratio := He.glo_ok X G (ckAt hc 31 rfl)
    g__law_right := He.glo_ok X G (ckAt hc 32 rfl)
    g__law_same := He.glo_ok X G (ckAt hc 33 rfl)
    g__law_shut := He.glo_ok X G (ckAt hc 34 rfl)
    g__law_spent := He.glo_ok X G (ckAt hc 35 rfl)
    g__law_turns := He.glo_ok X G (ckAt hc 36 rfl)
    g__law_weight := He.glo_ok X G (ckAt hc 37 rfl)
    g_all_borne := He.glo_ok X G (ckAt hc 38 rfl)
    g_all_orders := He.glo_ok X G (ckAt hc 39 rfl)
    g_are_costs := He.glo_ok X G (ckAt hc 40 rfl)
    g_are_rows := He.glo_ok X G (ckAt hc 41 rfl)
    g_as_fraction := He.glo_ok X G (ckAt hc 42 rfl)
    g_between := He.glo_ok X G (ckAt hc 43 rfl)
    g_borne_in := He.glo_ok X G (ckAt hc 44 rfl)
    g_closings := He.glo_ok X G (ckAt hc 45 rfl)
    g_divisor := He.glo_ok X G (ckAt hc 46 rfl)
    g_fraction := He.glo_ok X G (ckAt hc 47 rfl)
    g_is_between := He.glo_ok X G (ckAt hc 48 rfl)
    g_is_integer := He.glo_ok X G (ckAt hc 49 rfl)
    g_is_less := He.glo_ok X G (ckAt hc 50 rfl)
    g_is_row := He.glo_ok X G (ckAt hc 51 rfl)
    g_law := He.glo_ok X G (ckAt hc 52 rfl)
    g_need_costs := He.glo_ok X G (ckAt hc 53 rfl)
    g_need_plan := He.glo_ok X G (ckAt hc 54 rfl)
    g_number_in := He.glo_ok X G (ckAt hc 55 rfl)
    g_passed_on := He.glo_ok X G (ckAt hc 56 rfl)
    g_sum_of := He.glo_ok X G (ckAt hc 57 rfl)
    g_times := He.glo_ok X G (ckAt hc 58 rfl)
    i_MOST := He.int_ok X G (ckAt hc 59 rfl)
    i_MOST_COST := He.int_ok X G (ckAt hc 60 rfl)
    i_MOST_WEIGHT := He.int_ok X G (ckAt hc 61 rfl)
    j_Plan := iscB_ok (cs := [(0, "Plan", true)]) (ckAt hc 62 rfl) (fun p hp => by simp only [List.mem_cons, List.not_mem_nil, or_false] at hp; first | (rcases hp with rfl | rfl <;> rfl) | (subst hp; rfl)) rfl (fun p hp => by simp only [List.mem_cons, List.not_mem_nil, or_false] at hp; first | (rcases hp with rfl | rfl <;> rfl) | (subst hp; rfl))
    m_Plan := He.mkr_ok (ckAt hc 63 rfl)
    p_Plan_products := propB_ok (ckAt hc 64 rfl)
    p_Plan_rows := propB_ok (ckAt hc 65 rfl)
    s_Plan___len__ := sp1B_ok (ckAt hc 66 rfl)
    i_DIGITS := He.str_ok X G (ckAt hc 67 rfl)
    i_HEAD := He.str_ok X G (ckAt hc 68 rfl)
    t_NOTHING := tupN_ok (ckAt hc 69 rfl)
  }
end SC

set_option Elab.async false
set_option linter.all false
set_option maxRecDepth 100000
namespace SC
open PySem PySem.Spec PyProof.Rows L2

/-! ### plain steps -/
theorem dEq_int (a b : Int) : dEq (.int a) (.int b) = some (.bl (decide (a = b))) := by
  have h : ∀ z : Int, shD (.int z) = true := fun z => rfl
  have e : eqD (.int a) (.int b) = decide (a = b) := by
    simp only [eqD, toP, PyData.eqv]
    first | rfl | (rw [Bool.eq_iff_iff]; simp)
  simp [dEq, h, e]
theorem dNe_int (a b : Int) : dNe (.int a) (.int b) = some (.bl (!decide (a = b))) := by
  have h : ∀ z : Int, shD (.int z) = true := fun z => rfl
  have e : eqD (.int a) (.int b) = decide (a = b) := by
    simp only [eqD, toP, PyData.eqv]
    first | rfl | (rw [Bool.eq_iff_iff]; simp)
  simp [dNe, h, e]
theorem gcd_loop {i j : Nat} (hij : i ≠ j) : ∀ (n a b : Nat) (ρ : Ev), ρ[i]? = some (.dat (.int a)) → ρ[j]? = some (.dat (.int b)) → b < n →
    whL (fTest (fBin dNe (fVar j) (fC (.int 0)))) (bPar [i, j] (mDat (fVar j) (mDat (fBin dMod (fVar i) (fVar j)) mNil))) n ρ = some (.nx, (ρ.set i (.dat (.int (Nat.gcd a b)))).set j (.dat (.int 0)))
  | 0, _, _, _, _, _, h => absurd h (Nat.not_lt_zero _)
  | n + 1, a, 0, ρ, hi, hj, h => by
    have e : (ρ.set i (.dat (.int (Nat.gcd a 0)))).set j (.dat (.int 0)) = ρ := by
      rw [Nat.gcd_zero_right]
      have e1 : ρ.set i (.dat (.int a)) = ρ := by
        apply List.ext_getElem?
        intro k
        rw [List.getElem?_set]
        split
        · rename_i hk; subst hk; rw [hi]; split
          · rfl
          · rename_i hk; have := (List.getElem?_eq_some_iff.mp hi).1; omega
        · rfl
      rw [e1]
      apply List.ext_getElem?
      intro k
      rw [List.getElem?_set]
      split
      · rename_i hk; subst hk; rw [hj]; split
        · rfl
        · rename_i hk; have := (List.getElem?_eq_some_iff.mp hj).1; omega
      · rfl
    rw [e]
    simp only [whL, fTest, fBin, fVar, hj, fC, Opd.get, dNe_int]
    simp
  | n + 1, a, b + 1, ρ, hi, hj, h => by
    have hne : decide (((b + 1 : Nat) : Int) = 0) = false := decide_eq_false (by omega)
    have hm : ((a : Int) % ((b + 1 : Nat) : Int)) = ((a % (b + 1) : Nat) : Int) := (Int.natCast_emod a (b + 1)).symm
    have hp : (0 : Int) < ((b + 1 : Nat) : Int) := by omega
    have IH := gcd_loop hij n (b + 1) (a % (b + 1)) ((ρ.set i (.dat (.int ((b + 1 : Nat) : Int)))).set j (.dat (.int ((a % (b + 1) : Nat) : Int)))) (by
      rw [List.getElem?_set_ne (Ne.symm hij), List.getElem?_set_self (List.getElem?_eq_some_iff.mp hi).1]) (by
      rw [List.getElem?_set_self]; rw [List.length_set]; exact (List.getElem?_eq_some_iff.mp hj).1) (by have h2 : a % (b + 1) < b + 1 := Nat.mod_lt a (Nat.succ_pos b); omega)
    have eg : Nat.gcd (b + 1) (a % (b + 1)) = Nat.gcd a (b + 1) := by rw [Nat.gcd_comm a (b + 1), Nat.gcd_rec (b + 1) a, Nat.gcd_comm]
    rw [eg] at IH
    simp only [whL, fTest, fBin, fVar, hi, hj, fC, Opd.get, dNe_int, hne, bPar, mDat, mNil, dMod, if_pos hp, hm, setKs, Bool.not_false]
    rw [IH]
    congr 2
    rw [List.set_comm _ _ hij, List.set_set, List.set_comm _ _ (Ne.symm hij), List.set_set]
end SC

set_option Elab.async false
set_option linter.all false
set_option maxRecDepth 100000
namespace SC
open PySem PySem.Spec PyProof.Rows L2

/-! ### new lists, plain -/
theorem back_wipe {ρ1 ρ2 : Ev} {own : List Nat} (h : wipeE ρ2 own = wipeE ρ1 own) : backE ρ1 ρ2 own = ρ1 := by
  have hl : ρ1.length = ρ2.length := by
    have := congrArg List.length h
    rw [wipeE_length, wipeE_length] at this
    exact this.symm
  apply List.ext_getElem?
  intro i
  rw [backE_get ρ1 ρ2 hl]
  split
  · rfl
  · rename_i hi
    have := congrArg (fun l => l[i]?) h
    simp only [wipeE_get, if_neg hi] at this
    exact this
/-- with a state: an invariant of the items so far and the slots -/
theorem lc_inv {own : List Nat} {p : Pt} {os : List Opd} {es : List D} {ft : FT} {fe : FE} (I : List D → Ev → Prop) (hos : ∀ ρ, getAll ρ os = some es) :
    ∀ (ds : List D) (acc : List D) (ρ : Ev), (∀ k d, ds[k]? = some d → ∀ acc' ρ', acc'.length = acc.length + k → I acc' ρ' → ∃ ρa ρb y ρc, bindPt p d (wipeE ρ' own) = some ρa ∧ ft ρa = some (true, ρb) ∧ fe ρb = some (.dat y, ρc) ∧ I (acc' ++ [y]) ρc) →
      I acc ρ → ∃ out ρ', lcLoop own p os es ft fe ds ρ acc = some (out, ρ') ∧ I out ρ' ∧ out.length = acc.length + ds.length
  | [], acc, ρ, _, h => ⟨acc, ρ, by simp only [lcLoop, hos, if_true], h, rfl⟩
  | d :: ds, acc, ρ, st, h => by
    obtain ⟨ρa, ρb, y, ρc, e1, e2, e3, h1⟩ := st 0 d rfl acc ρ rfl h
    obtain ⟨out, ρ', e, h2, l2⟩ := lc_inv I hos ds (acc ++ [y]) ρc (fun k d' hk acc' ρ' hl => st (k + 1) d' (by simpa using hk) acc' ρ' (by rw [hl, List.length_append]; simp; omega)) h1
    refine ⟨out, ρ', ?_, h2, by rw [l2, List.length_append]; simp; omega⟩
    simp only [lcLoop, hos, if_true, e1, e2, e3]
    exact e
/-- .. of pure items, with a filter -/
theorem lc_fm {own : List Nat} {p : Pt} {os : List Opd} {es : List D} {ft : FT} {fe : FE} (hos : ∀ ρ, getAll ρ os = some es) (b : D → Bool) (h : D → D) (ρw : Ev) :
    ∀ (ds : List D) (acc : List D) (ρ : Ev), (∀ d ∈ ds, ∃ ρa ρb, bindPt p d ρw = some ρa ∧ ft ρa = some (b d, ρb) ∧ (b d = false → wipeE ρb own = ρw) ∧ (b d = true → ∃ ρc, fe ρb = some (.dat (h d), ρc) ∧ wipeE ρc own = ρw)) →
      wipeE ρ own = ρw → ∃ ρ', lcLoop own p os es ft fe ds ρ acc = some (acc ++ (ds.filter b).map h, ρ') ∧ wipeE ρ' own = ρw
  | [], acc, ρ, _, hw => ⟨ρ, by simp [lcLoop, hos], hw⟩
  | d :: ds, acc, ρ, st, hw => by
    obtain ⟨ρa, ρb, e1, e2, e3, e4⟩ := st d List.mem_cons_self
    cases hb : b d with
    | false =>
      obtain ⟨ρ', e, w⟩ := lc_fm hos b h ρw ds acc ρb (fun d' hd => st d' (List.mem_cons_of_mem _ hd)) (e3 hb)
      refine ⟨ρ', ?_, w⟩
      rw [hb] at e2
      simp only [lcLoop, hos, if_true, hw, e1, e2]
      rw [e, List.filter_cons, hb]
      rfl
    | true =>
      obtain ⟨ρc, e5, w5⟩ := e4 hb
      obtain ⟨ρ', e, w⟩ := lc_fm hos b h ρw ds (acc ++ [h d]) ρc (fun d' hd => st d' (List.mem_cons_of_mem _ hd)) w5
      refine ⟨ρ', ?_, w⟩
      rw [hb] at e2
      simp only [lcLoop, hos, if_true, hw, e1, e2, e5]
      rw [e, List.filter_cons, hb]
      simp
theorem nLc_fm {own : List Nat} {p : Pt} {src : FS} {ft : FT} {fe : FE} {ρ : Ev} {ds es : List D} {os : List Opd} (b : D → Bool) (h : D → D) (hs : src ρ = some (ds, os, ρ)) (hos : ∀ ρ, getAll ρ os = some es) (hl : ds.length ≤ sLn)
    (st : ∀ d ∈ ds, ∃ ρa ρb, bindPt p d (wipeE ρ own) = some ρa ∧ ft ρa = some (b d, ρb) ∧ (b d = false → wipeE ρb own = wipeE ρ own) ∧ (b d = true → ∃ ρc, fe ρb = some (.dat (h d), ρc) ∧ wipeE ρc own = wipeE ρ own)) :
    nLc own p src ft fe ρ = some ((ds.filter b).map h, ρ) := by
  obtain ⟨ρ', e, w⟩ := lc_fm hos b h (wipeE ρ own) ds [] ρ st rfl
  simp only [nLc, hs, hos, if_pos hl, e, back_wipe w, List.nil_append]
theorem nLc_map {own : List Nat} {p : Pt} {src : FS} {fe : FE} {ρ : Ev} {ds es : List D} {os : List Opd} (h : D → D) (hs : src ρ = some (ds, os, ρ)) (hos : ∀ ρ, getAll ρ os = some es) (hl : ds.length ≤ sLn)
    (st : ∀ d ∈ ds, ∃ ρa, bindPt p d (wipeE ρ own) = some ρa ∧ ∃ ρc, fe ρa = some (.dat (h d), ρc) ∧ wipeE ρc own = wipeE ρ own) :
    nLc own p src fYes fe ρ = some (ds.map h, ρ) := by
  have := nLc_fm (own := own) (p := p) (src := src) (ft := fYes) (fe := fe) (fun _ => true) h hs hos hl (fun d hd => by
    obtain ⟨ρa, e1, r⟩ := st d hd
    exact ⟨ρa, ρa, e1, rfl, fun z => absurd z (by decide), fun _ => r⟩)
  rw [List.filter_eq_self.mpr (fun _ _ => rfl)] at this
  exact this
/-- .. by places: the k-th item -/
theorem lc_ix {own : List Nat} {p : Pt} {os : List Opd} {es : List D} {fe : FE} (hos : ∀ ρ, getAll ρ os = some es) (ρw : Ev) :
    ∀ (ds out : List D) (acc : List D) (ρ : Ev), ds.length = out.length → (∀ (k : Nat) (d y : D), ds[k]? = some d → out[k]? = some y → ∃ ρa ρc, bindPt p d ρw = some ρa ∧ fe ρa = some (.dat y, ρc) ∧ wipeE ρc own = ρw) →
      wipeE ρ own = ρw → ∃ ρ', lcLoop own p os es fYes fe ds ρ acc = some (acc ++ out, ρ') ∧ wipeE ρ' own = ρw
  | [], [], acc, ρ, _, _, hw => ⟨ρ, by simp [lcLoop, hos], hw⟩
  | d :: ds, y :: out, acc, ρ, hl, st, hw => by
    obtain ⟨ρa, ρc, e1, e2, e3⟩ := st 0 d y rfl rfl
    obtain ⟨ρ', e, w⟩ := lc_ix hos ρw ds out (acc ++ [y]) ρc (by simpa using hl) (fun k d' y' h1 h2 => st (k + 1) d' y' (by simpa using h1) (by simpa using h2)) e3
    refine ⟨ρ', ?_, w⟩
    simp only [lcLoop, hos, if_true, hw, e1, fYes, e2]
    rw [e]
    simp
  | [], _ :: _, _, _, hl, _, _ => by simp at hl
  | _ :: _, [], _, _, hl, _, _ => by simp at hl
theorem nLc_ix {own : List Nat} {p : Pt} {src : FS} {fe : FE} {ρ : Ev} {ds es : List D} {os : List Opd} (out : List D) (hs : src ρ = some (ds, os, ρ)) (hos : ∀ ρ, getAll ρ os = some es) (hl : ds.length ≤ sLn) (ho : ds.length = out.length)
    (st : ∀ (k : Nat) (d y : D), ds[k]? = some d → out[k]? = some y → ∃ ρa ρc, bindPt p d (wipeE ρ own) = some ρa ∧ fe ρa = some (.dat y, ρc) ∧ wipeE ρc own = wipeE ρ own) :
    nLc own p src fYes fe ρ = some (out, ρ) := by
  obtain ⟨ρ', e, w⟩ := lc_ix hos (wipeE ρ own) ds out [] ρ ho st rfl
  simp only [nLc, hs, hos, if_pos hl, e, back_wipe w, List.nil_append]
theorem getAll_dat (d : D) (ρ : Ev) : getAll ρ [.dat d] = some [d] := rfl
theorem getAll_dat2 (d e : D) (ρ : Ev) : getAll ρ [.dat d, .dat e] = some [d, e] := rfl
/-- for over data: an invariant by places -/
theorem for_inv {p : Pt} {fb : FB} (I : Nat → Ev → Prop) : ∀ (ds : List D) (n : Nat) (ρ : Ev), (∀ k d, ds[k]? = some d → ∀ ρ, I (n + k) ρ → ∃ ρa ρb, bindPt p d ρ = some ρa ∧ fb ρa = some (.nx, ρb) ∧ I (n + k + 1) ρb) → I n ρ →
    ∃ ρ', forL p fb ds ρ = some (.nx, ρ') ∧ I (n + ds.length) ρ'
  | [], n, ρ, _, h => ⟨ρ, rfl, h⟩
  | d :: ds, n, ρ, st, h => by
    obtain ⟨ρa, ρb, e1, e2, h1⟩ := st 0 d rfl ρ h
    obtain ⟨ρ', e, h2⟩ := for_inv I ds (n + 1) ρb (fun k d' hk ρ hI => by
      have := st (k + 1) d' (by simpa using hk) ρ (by rw [show n + (k + 1) = n + 1 + k by omega]; exact hI)
      rw [show n + (k + 1) + 1 = n + 1 + k + 1 by omega] at this
      exact this) h1
    refine ⟨ρ', ?_, by rw [show n + (d :: ds).length = n + 1 + ds.length by simp; omega]; exact h2⟩
    simp only [forL, e1, e2]
    exact e
theorem forE {p : Pt} {src : FS} {fb : FB} {ρ ρ1 : Ev} {ds : List D} {os : List Opd} {es : List D} {r : Option (Fw × Ev)} (hs : src ρ = some (ds, os, ρ1)) (ho : datAll os = some es) (h : forL p fb ds ρ1 = r) : bFor p src fb ρ = r := by
  simp only [bFor, hs, ho, h]
theorem rng_get (n k : Nat) (d : D) (h : (rangeD 0 n)[k]? = some d) : d = .int (k : Int) ∧ k < n := by
  unfold rangeD at h
  rw [List.getElem?_map] at h
  obtain ⟨i, h1, h2⟩ := Option.map_eq_some_iff.mp h
  obtain ⟨h3, h4⟩ := List.getElem?_eq_some_iff.mp h1
  rw [List.length_range] at h3
  rw [List.getElem_range] at h4
  subst h4
  rw [← h2, Int.zero_add]
  exact ⟨rfl, h3⟩
theorem rng_len (n : Nat) : (rangeD 0 n).length = n := by simp [rangeD]
theorem sRng_ok {fa : FE} {ρ : Ev} {n : Nat} (h : fa ρ = some (.dat (.int (n : Int)), ρ)) (hn : n ≤ 1000000000) : sRng (fCons fa fNil) ρ = some (rangeD 0 n, [], ρ) := by
  simp only [sRng, fCons, fNil, h]
  rw [if_pos (by omega), Int.toNat_natCast]
theorem idx_nat {ds : List D} {k : Nat} {d : D} (h : ds[k]? = some d) : dIdx (.lst ds) (.int (k : Int)) = some d := by
  have hk := (List.getElem?_eq_some_iff.mp h).1
  show atI ds (k : Int) = some d
  unfold atI ixN
  rw [if_pos (by omega), if_pos (by omega), Int.toNat_natCast]
  exact h
theorem idx_natT {ds : List D} {k : Nat} {d : D} (h : ds[k]? = some d) : dIdx (.tup ds) (.int (k : Int)) = some d := idx_nat h
theorem ixN_nat {n k : Nat} (h : k < n) : ixN n (k : Int) = some k := by
  unfold ixN
  rw [if_pos (by omega), if_pos (by omega), Int.toNat_natCast]
theorem sum_map : ∀ (ws : List Nat), (ws.map fun (w : Nat) => (w : Int)).sum = ((ws.sum : Nat) : Int)
  | [] => rfl
  | w :: ws => by simp [sum_map ws]
theorem allI_nat (ws : List Nat) : allI (ws.map fun (w : Nat) => D.int (w : Int)) = some (ws.map fun (w : Nat) => (w : Int)) := by
  have := allI_map (ws.map fun (w : Nat) => (w : Int))
  rw [List.map_map] at this
  exact this
theorem dSum_lst (ws : List Nat) : dSum [.lst (ws.map fun (w : Nat) => D.int (w : Int))] = some (.int (ws.sum : Nat)) := by
  simp only [dSum, allI_nat, Option.map_some, sum_map]
theorem dSum_tup (ws : List Nat) : dSum [.tup (ws.map fun (w : Nat) => D.int (w : Int))] = some (.int (ws.sum : Nat)) := by
  simp only [dSum, allI_nat, Option.map_some, sum_map]
theorem cut_lo {xs : List D} {k : Nat} (h : k ≤ xs.length) : cutD xs none (some (k : Int)) = xs.take k := by
  unfold cutD
  rw [HT.sIx_none, HT.sIx_nat, Nat.min_eq_left h]
  simp
theorem cut_hi {xs : List D} {k : Nat} (h : k ≤ xs.length) : cutD xs (some (k : Int)) none = xs.drop k := by
  unfold cutD
  rw [HT.sIx_none, HT.sIx_nat, Nat.min_eq_left h]
  rw [List.take_of_length_le (by simp)]
theorem flD_int (ws : List Nat) : (ws.map fun (w : Nat) => D.int (w : Int)).all flD = true := by simp [flD]
theorem eqD_int (a b : Nat) : eqD (.int (a : Int)) (.int (b : Int)) = decide (a = b) := by
  simp only [eqD, toP, PyData.eqv]
  show decide ((a : Int) = (b : Int)) = _
  by_cases h : a = b
  · simp [h]
  · rw [decide_eq_false h, decide_eq_false (by omega)]
theorem inD_nat (a : Nat) : ∀ ws : List Nat, inD (.int (a : Int)) (ws.map fun (w : Nat) => D.int (w : Int)) = decide (a ∈ ws)
  | [] => by simp [inD]
  | w :: ws => by
    have ih := inD_nat a ws
    unfold inD at ih ⊢
    rw [List.map_cons, List.any_cons, ih, eqD_int]
    by_cases h : w = a
    · simp [h]
    · have h2 : ¬ a = w := fun e => h e.symm
      simp [h, h2]
theorem dIn_lst (a : Nat) (ws : List Nat) : dIn (.int (a : Int)) (.lst (ws.map fun (w : Nat) => D.int (w : Int))) = some (.bl (decide (a ∈ ws))) := by
  have h : (flD (.int (a : Int)) && (ws.map fun (w : Nat) => D.int (w : Int)).all flD) = true := by rw [flD_int]; rfl
  simp only [dIn, if_pos h, inD_nat]
theorem dIn_tup (a : Nat) (ws : List Nat) : dIn (.int (a : Int)) (.tup (ws.map fun (w : Nat) => D.int (w : Int))) = some (.bl (decide (a ∈ ws))) := by
  have h : (flD (.int (a : Int)) && (ws.map fun (w : Nat) => D.int (w : Int)).all flD) = true := by rw [flD_int]; rfl
  simp only [dIn, if_pos h, inD_nat]
theorem dNotIn_tup (a : Nat) (ws : List Nat) : dNotIn (.int (a : Int)) (.tup (ws.map fun (w : Nat) => D.int (w : Int))) = some (.bl (!decide (a ∈ ws))) := by
  have h : (flD (.int (a : Int)) && (ws.map fun (w : Nat) => D.int (w : Int)).all flD) = true := by rw [flD_int]; rfl
  simp only [dNotIn, if_pos h, inD_nat]
end SC

set_option Elab.async false
set_option linter.all false
set_option maxRecDepth 100000
namespace SC
open PySem PySem.Spec PyProof.Rows L2

/-! ### data that can be told and compared -/
def Ok7 (x : Str) : Prop := ∀ c ∈ TL.tl x, c < 0x110000
theorem Ok7.cat {x y : Str} (h : Ok7 x) (k : Ok7 y) : Ok7 (x ++ y) := fun c hc => by
  rw [TL.tl_append] at hc
  rcases List.mem_append.mp hc with z | z
  · exact h c z
  · exact k c z
theorem Ok7.strOk {x : Str} (h : Ok7 x) : PyData.strOk x = true := by
  unfold PyData.strOk
  rw [← Array.all_toList, List.all_eq_true]
  exact fun c hc => decide_eq_true (h c hc)
theorem ok7_num (n : Nat) : Ok7 (toString (n : Int) : Str) := fun c hc => by
  have e : TL.tl (toString (n : Int) : Str) = TL.numL n := TL.tl_num n
  rw [e] at hc
  have := TL.numL_digits n c hc
  omega
theorem ok7_dec {x : Str} (h : (TL.tl x).all (· < 0x110000) = true) : Ok7 x := fun c hc => of_decide_eq_true (List.all_eq_true.mp h c hc)
theorem ok7_join {sep : Str} (hs : Ok7 sep) : ∀ ts : List Str, (∀ t ∈ ts, Ok7 t) → Ok7 (Str.join sep ts)
  | [], _ => fun c hc => by simp [Str.join, TL.tl, Str.empty] at hc
  | [t], h => h t List.mem_cons_self
  | t :: u :: r, h => ((h t List.mem_cons_self).cat hs).cat (ok7_join hs (u :: r) fun z hz => h z (List.mem_cons_of_mem _ hz))
theorem ok7_from : ∀ (ts : List Str) (k : Nat) (acc : Str), Ok7 acc → (∀ t ∈ ts, Ok7 t) → Ok7 (textFrom k acc ts)
  | [], _, _, h, _ => h
  | t :: ts, k, acc, h, g => ok7_from ts (k + 1) _ ((h.cat (by split <;> exact ok7_dec (by decide +kernel))).cat (g t List.mem_cons_self)) fun z hz => g z (List.mem_cons_of_mem _ hz)
theorem from_len {A : Nat} : ∀ (ts : List Str) (k : Nat) (acc : Str), (∀ t ∈ ts, t.length ≤ A) → (textFrom k acc ts).length ≤ acc.length + ts.length * (A + 2)
  | [], _, acc, _ => by simp [textFrom]
  | t :: ts, k, acc, h => by
    have ih := from_len ts (k + 1) (acc ++ (if k > 0 then ", " else "" : String) ++ t) fun z hz => h z (List.mem_cons_of_mem _ hz)
    have h1 := h t List.mem_cons_self
    have e : (acc ++ (if k > 0 then ", " else "" : String) ++ t).length ≤ acc.length + 2 + t.length := by
      rw [strLen_append, strLen_append]
      have : ((if k > 0 then ", " else "" : String) : Str).length ≤ 2 := by split <;> decide
      omega
    simp only [textFrom, List.length_cons, Nat.add_mul, Nat.one_mul]
    omega
theorem join_len {A : Nat} {sep : Str} (hs : sep.length = 2) : ∀ (ts : List Str), (∀ t ∈ ts, t.length ≤ A) → (Str.join sep ts).length ≤ ts.length * (A + 2)
  | [], _ => by simp [Str.join, Str.empty, Str.length]
  | [t], h => by
    have := h t List.mem_cons_self
    simp only [Str.join, List.length_cons, List.length_nil]
    omega
  | t :: u :: r, h => by
    have ih := join_len hs (u :: r) fun z hz => h z (List.mem_cons_of_mem _ hz)
    have h1 := h t List.mem_cons_self
    show (t ++ sep ++ Str.join sep (u :: r)).length ≤ _
    rw [strLen_append, strLen_append, hs]
    simp only [List.length_cons, Nat.add_mul, Nat.one_mul] at ih ⊢
    omega
structure TmP (k w : Nat) (p : PyData) : Prop where
  lay : p.canLay0 = true
  dep : p.depth ≤ k
  sho : p.showable = true
  nod : p.hasDict = false
  len : p.shown.length ≤ w
  ok : Ok7 p.shown
def Tm (k w : Nat) (d : D) : Prop := ∃ p, toP d = some p ∧ TmP k w p
def TmPs (k w : Nat) (ps : List PyData) : Prop := ∀ p ∈ ps, TmP k w p
theorem shownAll_eq : ∀ ps : List PyData, PyData.shownAll ps = ps.map PyData.shown
  | [] => rfl
  | p :: ps => by simp [PyData.shownAll, shownAll_eq ps]
theorem tmPs {k w : Nat} : ∀ {ps : List PyData}, TmPs k w ps → PyData.canLayAll0 ps = true ∧ PyData.depthAll ps ≤ k ∧ PyData.showableAll ps = true ∧ PyData.hasDictAll ps = false
  | [], _ => ⟨rfl, Nat.zero_le _, rfl, rfl⟩
  | p :: ps, h => by
    obtain ⟨a, b, c, d⟩ := tmPs (ps := ps) fun q hq => h q (List.mem_cons_of_mem _ hq)
    have h1 := h p List.mem_cons_self
    refine ⟨by simp [PyData.canLayAll0, h1.lay, a], ?_, by simp [PyData.showableAll, h1.sho, c], by simp [PyData.hasDictAll, h1.nod, d]⟩
    simp only [PyData.depthAll]
    exact Nat.max_le.mpr ⟨h1.dep, b⟩
theorem shown_of {k w : Nat} {ps : List PyData} (h : TmPs k w ps) : (∀ t ∈ PyData.shownAll ps, t.length ≤ w) ∧ (∀ t ∈ PyData.shownAll ps, Ok7 t) ∧ (PyData.shownAll ps).length = ps.length := by
  rw [shownAll_eq]
  refine ⟨fun t ht => ?_, fun t ht => ?_, List.length_map _⟩
  · obtain ⟨p, hp, rfl⟩ := List.mem_map.mp ht
    exact (h p hp).len
  · obtain ⟨p, hp, rfl⟩ := List.mem_map.mp ht
    exact (h p hp).ok
theorem tmP_tup {k w : Nat} {ps : List PyData} (h : TmPs k w ps) : TmP (k + 1) (ps.length * (w + 2) + 3) (.tuple ps) := by
  obtain ⟨a, b, c, d⟩ := tmPs h
  obtain ⟨l, o, n⟩ := shown_of h
  refine ⟨by simp only [PyData.canLay0]; exact a, by simp only [PyData.depth]; omega, by simp only [PyData.showable]; exact c, by simp only [PyData.hasDict]; exact d, ?_, ?_⟩
  · simp only [PyData.shown, tupleText]
    have h1 := join_len (sep := (", " : String)) (by decide) _ l
    rw [n] at h1
    have h2 : ((if (PyData.shownAll ps).length == 1 then ",)" else ")" : String) : Str).length ≤ 2 := by split <;> decide
    have h3 : (("(" : String) : Str).length = 1 := by decide
    rw [strLen_append, strLen_append, h3]
    omega
  · simp only [PyData.shown, tupleText]
    exact ((ok7_dec (by decide +kernel)).cat (ok7_join (ok7_dec (by decide +kernel)) _ o)).cat (by split <;> exact ok7_dec (by decide +kernel))
theorem tmP_lst {k w : Nat} {ps : List PyData} (h : TmPs k w ps) : TmP (k + 1) (ps.length * (w + 2) + 3) (.list ps) := by
  obtain ⟨a, b, c, d⟩ := tmPs h
  obtain ⟨l, o, n⟩ := shown_of h
  refine ⟨by simp only [PyData.canLay0]; exact a, by simp only [PyData.depth]; omega, by simp only [PyData.showable]; exact c, by simp only [PyData.hasDict]; exact d, ?_, ?_⟩
  · simp only [PyData.shown, listText]
    have h1 := from_len _ 0 ("[" : String) l
    rw [n] at h1
    have h3 : (("[" : String) : Str).length = 1 := by decide
    have h4 : (("]" : String) : Str).length = 1 := by decide
    rw [strLen_append, h4]
    omega
  · simp only [PyData.shown, listText]
    exact (ok7_from _ 0 _ (ok7_dec (by decide +kernel)) o).cat (ok7_dec (by decide +kernel))
theorem tm_nat {n L : Nat} (h : n < 2 ^ L) (hL : L ≤ 1900) : Tm 0 640 (.int (n : Int)) := by
  refine ⟨.int n, by simp only [toP], by simp only [PyData.canLay0], by simp only [PyData.depth]; exact Nat.le_refl _, ?_, by simp only [PyData.hasDict], ?_, ?_⟩
  · simp only [PyData.showable, Int.natAbs_natCast]
    refine decide_eq_true ?_
    by_cases h0 : n = 0
    · subst h0; decide
    · have := (Nat.log2_lt h0).mpr h
      omega
  · simp only [PyData.shown]
    have h2 : n < 2 ^ 1900 := Nat.lt_of_lt_of_le h (Nat.pow_le_pow_right (by decide) hL)
    have h3 : (2 : Nat) ^ 1900 ≤ 10 ^ 640 := by decide +kernel
    have h4 : n < 10 ^ 640 := Nat.lt_of_lt_of_le h2 h3
    have e := TL.tl_num n
    have := TL.numL_len (k := 640) (by decide) h4
    show (Str.ofString (toString (n : Int))).length ≤ 640
    rw [TL.len_tl, e]
    exact this
  · simp only [PyData.shown]
    exact ok7_num n
theorem Tm.mono {k w k' w' : Nat} {d : D} (h : Tm k w d) (hk : k ≤ k') (hw : w ≤ w') : Tm k' w' d := by
  obtain ⟨p, e, a, b, c, d', l, o⟩ := h
  exact ⟨p, e, a, Nat.le_trans b hk, c, d', Nat.le_trans l hw, o⟩
theorem tms {k w : Nat} : ∀ {ds : List D}, (∀ d ∈ ds, Tm k w d) → ∃ ps, toPs ds = some ps ∧ TmPs k w ps ∧ ps.length = ds.length
  | [], _ => ⟨[], by simp only [toPs], (fun _ h => nomatch h), rfl⟩
  | d :: ds, h => by
    obtain ⟨p, e, hp⟩ := h d List.mem_cons_self
    obtain ⟨ps, e2, h2, l2⟩ := tms (ds := ds) fun x hx => h x (List.mem_cons_of_mem _ hx)
    refine ⟨p :: ps, by simp only [toPs, e, e2], fun q hq => ?_, by simp [l2]⟩
    rcases List.mem_cons.mp hq with rfl | z
    · exact hp
    · exact h2 q z
theorem tm_tup {k w : Nat} {ds : List D} (h : ∀ d ∈ ds, Tm k w d) : Tm (k + 1) (ds.length * (w + 2) + 3) (.tup ds) := by
  obtain ⟨ps, e, h2, l⟩ := tms h
  refine ⟨.tuple ps, by simp only [toP, e, Option.map_some], ?_⟩
  rw [← l]
  exact tmP_tup h2
theorem tm_lst {k w : Nat} {ds : List D} (h : ∀ d ∈ ds, Tm k w d) : Tm (k + 1) (ds.length * (w + 2) + 3) (.lst ds) := by
  obtain ⟨ps, e, h2, l⟩ := tms h
  refine ⟨.list ps, by simp only [toP, e, Option.map_some], ?_⟩
  rw [← l]
  exact tmP_lst h2
theorem Tm.sh {k w : Nat} {d : D} (h : Tm k w d) (hk : k ≤ 60) : shD d = true := by
  obtain ⟨p, e, t⟩ := h
  unfold shD
  rw [e]
  show SeqAt.shaped p = true
  unfold SeqAt.shaped
  rw [t.lay, decide_eq_true (show p.depth ≤ 64 by have := t.dep; omega)]
  rfl
/-- repr: a text, fit to be compared -/
theorem repr_tup {k w : Nat} {ds : List D} (h : Tm k w (.tup ds)) (hk : k ≤ 60) (hw : w ≤ sLn) : ∃ z : Str, dRepr [.tup ds] = some (.str z) ∧ shD (.str z) = true := by
  obtain ⟨p, e, t⟩ := h
  refine ⟨p.shown, ?_, ?_⟩
  · have c : (p.showable && (!p.hasDict && (decide (p.depth ≤ 60) && decide (p.shown.length ≤ sLn)))) = true := by
      rw [t.sho, t.nod, decide_eq_true (Nat.le_trans t.dep hk), decide_eq_true (Nat.le_trans t.len hw)] <;> rfl
    simp only [dRepr, e, if_pos c]
  · unfold shD
    simp only [toP]
    unfold SeqAt.shaped
    simp only [PyData.canLay0, t.ok.strOk, PyData.depth]
    rfl
theorem repr_lst {k w : Nat} {ds : List D} (h : Tm k w (.lst ds)) (hk : k ≤ 60) (hw : w ≤ sLn) : ∃ z : Str, dRepr [.lst ds] = some (.str z) ∧ shD (.str z) = true := by
  obtain ⟨p, e, t⟩ := h
  refine ⟨p.shown, ?_, ?_⟩
  · have c : (p.showable && (!p.hasDict && (decide (p.depth ≤ 60) && decide (p.shown.length ≤ sLn)))) = true := by
      rw [t.sho, t.nod, decide_eq_true (Nat.le_trans t.dep hk), decide_eq_true (Nat.le_trans t.len hw)] <;> rfl
    simp only [dRepr, e, if_pos c]
  · unfold shD
    simp only [toP]
    unfold SeqAt.shaped
    simp only [PyData.canLay0, t.ok.strOk, PyData.depth]
    rfl
theorem eq_str {z : Str} (h : shD (.str z) = true) : dEq (.str z) (.str z) = some (.bl true) := by
  have e : eqD (.str z) (.str z) = true := by
    simp only [eqD, toP, PyData.eqv]
    exact beq_self_eq_true z
  simp only [dEq, h, e]
  rfl
end SC

set_option Elab.async false
set_option linter.all false
set_option maxRecDepth 100000
namespace SC
open PySem PySem.Spec PyProof.Rows L2

/-! ### fractions -/
def Ret (g : FG) (ss : List Sl) (r : D) : Prop := ∃ outs, g ss = some (r, outs) ∧ ss.length ≤ outs.length
abbrev dI (n : Nat) : D := .int (n : Int)
def nf (p : Nat × Nat) : D := .tup [.int (p.1 : Int), .int (p.2 : Int)]
def red (m k : Nat) : Nat × Nat := (m / Nat.gcd m k, k / Nat.gcd m k)
theorem put_nil : ∀ (n : Nat) (ρ : Ev) (os : List Opd) (outs : List Sl), slotsOf os = [] → putSl ρ os outs = ρ
  | _, ρ, [], _, _ => by simp [putSl]
  | n, ρ, .dat _ :: os, [], _ => by simp [putSl]
  | n, ρ, .dat _ :: os, _ :: outs, h => by
    show putSl ρ os outs = ρ
    exact put_nil n ρ os outs h
  | _, _, .slot _ :: _, _, h => by cases h
theorem callD1 {g : FG} {fa : FE} {ρ ρ1 : Ev} {d r : D} (h1 : fa ρ = some (.dat d, ρ1)) (h : Ret g [.dat d] r) : fCall g [] (fCons fa fNil) ρ = some (.dat r, ρ1) := by
  obtain ⟨o, ho, hl⟩ := h
  have hl' : 1 ≤ o.length := hl
  have hp := put_nil 0 ρ1 [.dat d] o rfl
  simp [fCall, fCons, fNil, h1, argSl, slotsOf, ho, hp, hl']
theorem callD2 {g : FG} {fa fb : FE} {ρ ρ1 ρ2 : Ev} {d e r : D} (h1 : fa ρ = some (.dat d, ρ1)) (h2 : fb ρ1 = some (.dat e, ρ2)) (h : Ret g [.dat d, .dat e] r) : fCall g [] (fCons fa (fCons fb fNil)) ρ = some (.dat r, ρ2) := by
  obtain ⟨o, ho, hl⟩ := h
  have hl' : 2 ≤ o.length := hl
  have hp := put_nil 0 ρ2 [.dat d, .dat e] o rfl
  simp [fCall, fCons, fNil, h1, h2, argSl, slotsOf, ho, hp, hl']
theorem callD3 {g : FG} {fa fb fc : FE} {ρ ρ1 ρ2 ρ3 : Ev} {d e f r : D} (h1 : fa ρ = some (.dat d, ρ1)) (h2 : fb ρ1 = some (.dat e, ρ2)) (h3 : fc ρ2 = some (.dat f, ρ3)) (h : Ret g [.dat d, .dat e, .dat f] r) : fCall g [] (fCons fa (fCons fb (fCons fc fNil))) ρ = some (.dat r, ρ3) := by
  obtain ⟨o, ho, hl⟩ := h
  have hl' : 3 ≤ o.length := hl
  have hp := put_nil 0 ρ3 [.dat d, .dat e, .dat f] o rfl
  simp [fCall, fCons, fNil, h1, h2, h3, argSl, slotsOf, ho, hp, hl']
theorem callD4 {g : FG} {fa fb fc fd : FE} {ρ ρ1 ρ2 ρ3 ρ4 : Ev} {d e f i r : D} (h1 : fa ρ = some (.dat d, ρ1)) (h2 : fb ρ1 = some (.dat e, ρ2)) (h3 : fc ρ2 = some (.dat f, ρ3)) (h4 : fd ρ3 = some (.dat i, ρ4)) (h : Ret g [.dat d, .dat e, .dat f, .dat i] r) : fCall g [] (fCons fa (fCons fb (fCons fc (fCons fd fNil)))) ρ = some (.dat r, ρ4) := by
  obtain ⟨o, ho, hl⟩ := h
  have hl' : 4 ≤ o.length := hl
  have hp := put_nil 0 ρ4 [.dat d, .dat e, .dat f, .dat i] o rfl
  simp [fCall, fCons, fNil, h1, h2, h3, h4, argSl, slotsOf, ho, hp, hl']
theorem binD {g : D → D → Option D} {fa fb : FE} {ρ ρ1 ρ2 : Ev} {d e r : D} (h1 : fa ρ = some (.dat d, ρ1)) (h2 : fb ρ1 = some (.dat e, ρ2)) (h : g d e = some r) : fBin g fa fb ρ = some (.dat r, ρ2) := by
  simp only [fBin, h1, h2, Opd.get, h]
theorem divisor_ok (m k : Nat) : Ret g_divisor [.dat (dI m), .dat (dI k)] (dI (Nat.gcd m k)) := by
  have h := gcd_loop (i := 0) (j := 1) (by decide) (k + 1) m k [.dat (dI m), .dat (dI k)] rfl rfl (Nat.lt_succ_self k)
  refine ⟨[.dat (dI (Nat.gcd m k)), .dat (dI 0)], ?_, Nat.le_refl _⟩
  show frD (d_divisor [.dat (dI m), .dat (dI k)]) = _
  unfold d_divisor bSeq bWh
  have e : fuelI 1 [.dat (dI m), .dat (dI k)] = k + 1 := rfl
  rw [e, h]
  rfl
theorem dDiv_ok {m g L : Nat} (h : 0 < g) (hs : g < 2 ^ L) (hL : L ≤ 8999) : dDiv (.int (m : Int)) (.int (g : Int)) = some (dI (m / g)) := by
  have h1 : (0 : Int) < (g : Int) := by omega
  have h2 : (g : Int).natAbs.log2 < 9000 := by
    rw [Int.natAbs_natCast]
    exact Nat.lt_of_lt_of_le ((Nat.log2_lt (Nat.ne_of_gt h)).mpr hs) (by omega)
  simp only [dDiv, if_pos (And.intro h1 h2)]
  rfl
theorem frac_ok {m k L : Nat} (hk : 0 < k) (hs : k < 2 ^ L) (hL : L ≤ 8999) : Ret g_fraction [.dat (dI m), .dat (dI k)] (nf (red m k)) := by
  have hg : 0 < Nat.gcd m k := Nat.gcd_pos_of_pos_right _ hk
  have hgs : Nat.gcd m k < 2 ^ L := Nat.lt_of_le_of_lt (Nat.le_of_dvd hk (Nat.gcd_dvd_right m k)) hs
  have ha : dAbs [dI m] = some (dI m) := by
    have : ¬ ((m : Int) < 0) := by omega
    simp only [dAbs, if_neg this]
  refine ⟨[.dat (dI m), .dat (dI k), .dat (dI (Nat.gcd m k))], ?_, Nat.le_succ _⟩
  show frD (d_fraction [.dat (dI m), .dat (dI k), .un]) = _
  have h1 : fBlt dAbs (fCons (fVar 0) fNil) [.dat (dI m), .dat (dI k), .un] = some (.dat (dI m), [.dat (dI m), .dat (dI k), .un]) := by
    simp only [fBlt, fCons, fVar, fNil, List.getElem?_cons_zero, getAll, Opd.get, ha]
  have h2 : bSet 2 (fCall g_divisor [] (fCons (fBlt dAbs (fCons (fVar 0) fNil)) (fCons (fVar 1) fNil))) [.dat (dI m), .dat (dI k), .un] = some (.nx, [.dat (dI m), .dat (dI k), .dat (dI (Nat.gcd m k))]) := by
    unfold bSet
    rw [callD2 h1 rfl (divisor_ok m k)]
    rfl
  unfold d_fraction bSeq
  rw [h2]
  simp only [bRet, fDisp, fCons, fNil]
  rw [binD (g := dDiv) (d := dI m) (e := dI (Nat.gcd m k)) rfl rfl (dDiv_ok hg hgs hL)]
  simp only
  rw [binD (g := dDiv) (d := dI k) (e := dI (Nat.gcd m k)) rfl rfl (dDiv_ok hg hgs hL)]
  rfl

theorem idx0 (p : Nat × Nat) : dIdx (nf p) (.int 0) = some (dI p.1) := rfl
theorem idx1 (p : Nat × Nat) : dIdx (nf p) (.int 1) = some (dI p.2) := rfl
theorem log2_le {a L : Nat} (h : a < 2 ^ L) : a.log2 ≤ L := by
  by_cases ha : a = 0
  · subst ha; exact Nat.zero_le _
  · exact Nat.le_of_lt ((Nat.log2_lt ha).mpr h)
theorem mul_ok {a b L M : Nat} (ha : a < 2 ^ L) (hb : b < 2 ^ M) (h : L + M ≤ 999999) : dMul (dI a) (dI b) = some (dI (a * b)) := by
  have h1 := log2_le ha
  have h2 := log2_le hb
  have : (a : Int).natAbs.log2 + (b : Int).natAbs.log2 < 1000000 := by
    rw [Int.natAbs_natCast, Int.natAbs_natCast]; omega
  simp only [dMul, if_pos this]
  rfl
theorem add_ok (a b : Nat) : dAdd (dI a) (dI b) = some (dI (a + b)) := rfl
structure Fr (L : Nat) (p : Nat × Nat) : Prop where
  pos : 0 < p.2
  cop : Nat.gcd p.1 p.2 = 1
  n : p.1 < 2 ^ L
  d : p.2 < 2 ^ L
def plus (p q : Nat × Nat) : Nat × Nat := red (p.1 * q.2 + q.1 * p.2) (p.2 * q.2)
def byf (p : Nat × Nat) (w s : Nat) : Nat × Nat := red (p.1 * w) (p.2 * s)
theorem Fr.mono {L M : Nat} {p : Nat × Nat} (h : Fr L p) (k : L ≤ M) : Fr M p := ⟨h.pos, h.cop, Nat.lt_of_lt_of_le h.n (Nat.pow_le_pow_right (by decide) k), Nat.lt_of_lt_of_le h.d (Nat.pow_le_pow_right (by decide) k)⟩
theorem red_fr {m k L : Nat} (hk : 0 < k) (h1 : m < 2 ^ L) (h2 : k < 2 ^ L) : Fr L (red m k) := by
  have hg : 0 < Nat.gcd m k := Nat.gcd_pos_of_pos_right _ hk
  exact ⟨Nat.div_pos (Nat.le_of_dvd hk (Nat.gcd_dvd_right m k)) hg, Nat.gcd_div_gcd_div_gcd_of_pos_right hk, Nat.lt_of_le_of_lt (Nat.div_le_self _ _) h1, Nat.lt_of_le_of_lt (Nat.div_le_self _ _) h2⟩
theorem mul_lt {a b L M : Nat} (ha : a < 2 ^ L) (hb : b < 2 ^ M) : a * b < 2 ^ (L + M) := by
  rw [Nat.pow_add]
  exact Nat.mul_lt_mul'' ha hb
theorem plus_num {p q : Nat × Nat} {L M : Nat} (hp : Fr L p) (hq : Fr M q) : p.1 * q.2 + q.1 * p.2 < 2 ^ (L + M + 1) := by
  have h1 := mul_lt hp.n hq.d
  have h2 := mul_lt hq.n hp.d
  rw [Nat.add_comm M L] at h2
  rw [Nat.pow_succ]
  omega
theorem plus_den {p q : Nat × Nat} {L M : Nat} (hp : Fr L p) (hq : Fr M q) : p.2 * q.2 < 2 ^ (L + M + 1) :=
  Nat.lt_of_lt_of_le (mul_lt hp.d hq.d) (Nat.pow_le_pow_right (by decide) (Nat.le_succ _))
theorem plus_fr {p q : Nat × Nat} {L M : Nat} (hp : Fr L p) (hq : Fr M q) : Fr (L + M + 1) (plus p q) :=
  red_fr (Nat.mul_pos hp.pos hq.pos) (plus_num hp hq) (plus_den hp hq)
theorem byf_fr {p : Nat × Nat} {w s L M : Nat} (hp : Fr L p) (hw : w < 2 ^ M) (hs : s < 2 ^ M) (h0 : 0 < s) : Fr (L + M) (byf p w s) :=
  red_fr (Nat.mul_pos hp.pos h0) (mul_lt hp.n hw) (mul_lt hp.d hs)
theorem red_self {p : Nat × Nat} (h : Nat.gcd p.1 p.2 = 1) : red p.1 p.2 = p := by
  unfold red
  rw [h, Nat.div_one, Nat.div_one]
theorem plus_zero {p : Nat × Nat} (h : Nat.gcd p.1 p.2 = 1) : plus (0, 1) p = p := by
  unfold plus
  simp only [Nat.zero_mul, Nat.zero_add, Nat.mul_one, Nat.one_mul]
  exact red_self h
theorem fr_zero (L : Nat) (h : 0 < L) : Fr L (0, 1) := ⟨by decide, by decide, Nat.pow_pos (by decide), Nat.one_lt_two_pow (Nat.ne_of_gt h)⟩
/-- the numbers of two fractions, multiplied crosswise -/
theorem fracCall {fa fb : FE} {ρ ρ1 ρ2 : Ev} {m k L : Nat} (h1 : fa ρ = some (.dat (dI m), ρ1)) (h2 : fb ρ1 = some (.dat (dI k), ρ2)) (hk : 0 < k) (hs : k < 2 ^ L) (hL : L ≤ 8999) :
    fCall g_fraction [] (fCons fa (fCons fb fNil)) ρ = some (.dat (nf (red m k)), ρ2) := callD2 h1 h2 (frac_ok hk hs hL)
def mulE (fa : FE) (i : Int) (fb : FE) (j : Int) : FE := fBin dMul (fBin dIdx fa (fC (.int i))) (fBin dIdx fb (fC (.int j)))
theorem times_ok {p q : Nat × Nat} {L M : Nat} (hp : Fr L p) (hq0 : 0 < q.2) (hq1 : q.1 < 2 ^ M) (hq2 : q.2 < 2 ^ M) (hL : L + M ≤ 8999) : Ret g_times [.dat (nf p), .dat (nf q)] (nf (red (p.1 * q.1) (p.2 * q.2))) := by
  refine ⟨[.dat (nf p), .dat (nf q)], ?_, Nat.le_refl _⟩
  show frD (d_times [.dat (nf p), .dat (nf q)]) = _
  unfold d_times bRet
  rw [fracCall (m := p.1 * q.1) (k := p.2 * q.2) (ρ1 := [.dat (nf p), .dat (nf q)]) (ρ2 := [.dat (nf p), .dat (nf q)]) (L := L + M)
    (binD (d := dI p.1) (e := dI q.1) rfl rfl (mul_ok hp.n hq1 (by omega))) (binD (d := dI p.2) (e := dI q.2) rfl rfl (mul_ok hp.d hq2 (by omega))) (Nat.mul_pos hp.pos hq0) (mul_lt hp.d hq2) hL]
  rfl
theorem sum_step {p q : Nat × Nat} {L M : Nat} (hp : Fr L p) (hq : Fr M q) (hL : L + M + 1 ≤ 8999) (x : Sl) :
    fCall g_fraction [] (fCons (fBin dAdd (fBin dMul (fBin dIdx (fVar 1) (fC (.int 0))) (fVar 3)) (fBin dMul (fVar 2) (fBin dIdx (fVar 1) (fC (.int 1))))) (fCons (fBin dMul (fBin dIdx (fVar 1) (fC (.int 1))) (fVar 3)) (fNil))) [x, .dat (nf p), .dat (dI q.1), .dat (dI q.2)]
      = some (.dat (nf (plus p q)), [x, .dat (nf p), .dat (dI q.1), .dat (dI q.2)]) :=
  fracCall (L := L + M + 1) (binD (d := dI (p.1 * q.2)) (e := dI (q.1 * p.2)) (binD (d := dI p.1) (e := dI q.2) rfl rfl (mul_ok hp.n hq.d (by omega))) (binD (d := dI q.1) (e := dI p.2) rfl rfl (mul_ok hq.n hp.d (by omega))) (add_ok _ _))
    (binD (d := dI p.2) (e := dI q.2) rfl rfl (mul_ok hp.d hq.d (by omega))) (Nat.mul_pos hp.pos hq.pos) (plus_den hp hq) hL
def sumBody : FB := bSet 1 (fCall g_fraction [] (fCons (fBin dAdd (fBin dMul (fBin dIdx (fVar 1) (fC (.int 0))) (fVar 3)) (fBin dMul (fVar 2) (fBin dIdx (fVar 1) (fC (.int 1))))) (fCons (fBin dMul (fBin dIdx (fVar 1) (fC (.int 1))) (fVar 3)) (fNil))))
theorem sum_loop (x : Sl) {L : Nat} : ∀ (qs : List (Nat × Nat)) (A : Nat) (p : Nat × Nat) (s2 s3 : Sl), Fr A p → (∀ q ∈ qs, Fr L q) → A + qs.length * (L + 1) ≤ 8999 →
    ∃ t2 t3, forL (.tp [2, 3]) sumBody (qs.map nf) [x, .dat (nf p), s2, s3] = some (.nx, [x, .dat (nf (qs.foldl plus p)), t2, t3])
  | [], A, p, s2, s3, _, _, _ => ⟨s2, s3, rfl⟩
  | q :: qs, A, p, s2, s3, hp, hq, hL => by
    have h1 := hq q List.mem_cons_self
    simp only [List.length_cons, Nat.add_mul, Nat.one_mul] at hL
    obtain ⟨t2, t3, e⟩ := sum_loop x qs (A + L + 1) (plus p q) (.dat (dI q.1)) (.dat (dI q.2)) (plus_fr hp h1) (fun r hr => hq r (List.mem_cons_of_mem _ hr)) (by omega)
    refine ⟨t2, t3, ?_⟩
    have b : sumBody [x, .dat (nf p), .dat (dI q.1), .dat (dI q.2)] = some (.nx, [x, .dat (nf (plus p q)), .dat (dI q.1), .dat (dI q.2)]) := by
      unfold sumBody bSet
      rw [sum_step hp h1 (by omega) x]
      rfl
    have c : bindPt (.tp [2, 3]) (nf q) [x, .dat (nf p), s2, s3] = some [x, .dat (nf p), .dat (dI q.1), .dat (dI q.2)] := rfl
    simp only [List.map_cons, forL, c, b]
    exact e
theorem sum_ok {qs : List (Nat × Nat)} {L : Nat} (hq : ∀ q ∈ qs, Fr L q) (hL : 1 + qs.length * (L + 1) ≤ 8999) : Ret g_sum_of [.dat (.lst (qs.map nf))] (nf (qs.foldl plus (0, 1))) := by
  obtain ⟨t2, t3, e⟩ := sum_loop (.dat (.lst (qs.map nf))) qs 1 (0, 1) .un .un (fr_zero 1 (by decide)) hq hL
  refine ⟨[.dat (.lst (qs.map nf)), .dat (nf (qs.foldl plus (0, 1))), t2, t3], ?_, by simp⟩
  show frD (d_sum_of [.dat (.lst (qs.map nf)), .un, .un, .un]) = _
  have f : bFor (.tp [2, 3]) (sItm (fVar 0)) sumBody [.dat (.lst (qs.map nf)), .dat (nf (0, 1)), .un, .un] = some (.nx, [.dat (.lst (qs.map nf)), .dat (nf (qs.foldl plus (0, 1))), t2, t3]) := e
  have g : bSet 1 (fC (.tup [.int 0, .int 1])) [.dat (.lst (qs.map nf)), .un, .un, .un] = some (.nx, [.dat (.lst (qs.map nf)), .dat (nf (0, 1)), .un, .un]) := rfl
  show frD (bSeq (bSet 1 (fC (.tup [.int 0, .int 1]))) (bSeq (bFor (.tp [2, 3]) (sItm (fVar 0)) sumBody) (bRet (fVar 1))) [.dat (.lst (qs.map nf)), .un, .un, .un]) = _
  simp only [bSeq, g, f]
  rfl
theorem sum2_ok {p q : Nat × Nat} {L : Nat} (hp : Fr L p) (hq : Fr L q) (hL : 2 * L + 3 ≤ 8999) : Ret g_sum_of [.dat (.lst [nf p, nf q])] (nf (plus p q)) := by
  have h := sum_ok (qs := [p, q]) (L := L) (by simp; exact ⟨hp, hq⟩) (by simp; omega)
  have e : [p, q].foldl plus (0, 1) = plus p q := by simp [plus_zero hp.cop]
  rw [e] at h
  exact h
theorem ratio_ok {m k L : Nat} (hk : 0 < k) (hs : k < 2 ^ L) (hL : L ≤ 8999) : Ret g__law_ratio [.dat (dI m), .dat (dI k)] (nf (red m k)) := by
  have hg : 0 < Nat.gcd m k := Nat.gcd_pos_of_pos_right _ hk
  have hgs : Nat.gcd m k < 2 ^ L := Nat.lt_of_le_of_lt (Nat.le_of_dvd hk (Nat.gcd_dvd_right m k)) hs
  have ha : dAbs [dI m] = some (dI m) := by
    have : ¬ ((m : Int) < 0) := by omega
    simp only [dAbs, if_neg this]
  refine ⟨[.dat (dI m), .dat (dI k), .dat (dI (Nat.gcd m k)), .dat (dI 0)], ?_, by simp⟩
  show frD (d__law_ratio [.dat (dI m), .dat (dI k), .un, .un]) = _
  have h1 : fBlt dAbs (fCons (fVar 0) fNil) [.dat (dI m), .dat (dI k), .un, .un] = some (.dat (dI m), [.dat (dI m), .dat (dI k), .un, .un]) := by
    simp only [fBlt, fCons, fVar, fNil, List.getElem?_cons_zero, getAll, Opd.get, ha]
  have h2 : bPar [2, 3] (mDat (fBlt dAbs (fCons (fVar 0) (fNil))) (mDat (fVar 1) (mNil))) [.dat (dI m), .dat (dI k), .un, .un] = some (.nx, [.dat (dI m), .dat (dI k), .dat (dI m), .dat (dI k)]) := by
    simp only [bPar, mDat, h1]
    rfl
  have h3 : bWh (fuelI 3) (fTest (fBin (dNe) (fVar 3) (fC (.int 0)))) (bPar [2, 3] (mDat (fVar 3) (mDat (fBin dMod (fVar 2) (fVar 3)) (mNil)))) [.dat (dI m), .dat (dI k), .dat (dI m), .dat (dI k)] = some (.nx, [.dat (dI m), .dat (dI k), .dat (dI (Nat.gcd m k)), .dat (dI 0)]) :=
    gcd_loop (i := 2) (j := 3) (by decide) (k + 1) m k [.dat (dI m), .dat (dI k), .dat (dI m), .dat (dI k)] rfl rfl (Nat.lt_succ_self k)
  unfold d__law_ratio
  simp only [bSeq, h2, h3]
  simp only [bRet, fDisp, fCons, fNil]
  rw [binD (g := dDiv) (d := dI m) (e := dI (Nat.gcd m k)) rfl rfl (dDiv_ok hg hgs hL)]
  simp only
  rw [binD (g := dDiv) (d := dI k) (e := dI (Nat.gcd m k)) rfl rfl (dDiv_ok hg hgs hL)]
  rfl
theorem lplus_ok {p q : Nat × Nat} {L M : Nat} (hp : Fr L p) (hq : Fr M q) (hL : L + M + 1 ≤ 8999) : Ret g__law_plus [.dat (nf p), .dat (nf q)] (nf (plus p q)) := by
  refine ⟨[.dat (nf p), .dat (nf q)], ?_, Nat.le_refl _⟩
  show frD (d__law_plus [.dat (nf p), .dat (nf q)]) = _
  unfold d__law_plus bRet
  rw [callD2 (ρ1 := [.dat (nf p), .dat (nf q)]) (ρ2 := [.dat (nf p), .dat (nf q)]) (binD (d := dI (p.1 * q.2)) (e := dI (q.1 * p.2)) (binD (d := dI p.1) (e := dI q.2) rfl rfl (mul_ok hp.n hq.d (by omega))) (binD (d := dI q.1) (e := dI p.2) rfl rfl (mul_ok hq.n hp.d (by omega))) (add_ok _ _))
    (binD (d := dI p.2) (e := dI q.2) rfl rfl (mul_ok hp.d hq.d (by omega))) (ratio_ok (Nat.mul_pos hp.pos hq.pos) (plus_den hp hq) hL)]
  rfl
theorem lby_ok {p : Nat × Nat} {w s L M : Nat} (hp : Fr L p) (hw : w < 2 ^ M) (hs : s < 2 ^ M) (h0 : 0 < s) (hL : L + M ≤ 8999) : Ret g__law_by [.dat (nf p), .dat (dI w), .dat (dI s)] (nf (byf p w s)) := by
  refine ⟨[.dat (nf p), .dat (dI w), .dat (dI s)], ?_, Nat.le_refl _⟩
  show frD (d__law_by [.dat (nf p), .dat (dI w), .dat (dI s)]) = _
  unfold d__law_by bRet
  rw [callD2 (ρ1 := [.dat (nf p), .dat (dI w), .dat (dI s)]) (ρ2 := [.dat (nf p), .dat (dI w), .dat (dI s)]) (binD (d := dI p.1) (e := dI w) rfl rfl (mul_ok hp.n hw (by omega))) (binD (d := dI p.2) (e := dI s) rfl rfl (mul_ok hp.d hs (by omega))) (ratio_ok (Nat.mul_pos hp.pos h0) (mul_lt hp.d hs) hL)]
  rfl
def lessf (p q : Nat × Nat) : Bool := decide (p.1 * q.2 < q.1 * p.2)
theorem cmp_ok (a b : Nat) : dCmp (fun i j => decide (i < j)) (dI a) (dI b) = some (.bl (decide (a < b))) := by
  simp only [dCmp, Int.ofNat_lt]
theorem less_ok {p q : Nat × Nat} {L M : Nat} (hp : Fr L p) (hq : Fr M q) (hL : L + M ≤ 999999) : Ret g_is_less [.dat (nf p), .dat (nf q)] (.bl (lessf p q)) := by
  refine ⟨[.dat (nf p), .dat (nf q)], ?_, Nat.le_refl _⟩
  show frD (d_is_less [.dat (nf p), .dat (nf q)]) = _
  unfold d_is_less bRet
  rw [binD (ρ1 := [.dat (nf p), .dat (nf q)]) (ρ2 := [.dat (nf p), .dat (nf q)]) (d := dI (p.1 * q.2)) (e := dI (q.1 * p.2)) (binD (d := dI p.1) (e := dI q.2) rfl rfl (mul_ok hp.n hq.d (by omega))) (binD (d := dI q.1) (e := dI p.2) rfl rfl (mul_ok hq.n hp.d (by omega))) (cmp_ok _ _)]
  rfl
theorem lless_ok {p q : Nat × Nat} {L M : Nat} (hp : Fr L p) (hq : Fr M q) (hL : L + M ≤ 999999) : Ret g__law_less [.dat (nf p), .dat (nf q)] (.bl (lessf p q)) := by
  refine ⟨[.dat (nf p), .dat (nf q)], ?_, Nat.le_refl _⟩
  show frD (d__law_less [.dat (nf p), .dat (nf q)]) = _
  unfold d__law_less bRet
  rw [binD (ρ1 := [.dat (nf p), .dat (nf q)]) (ρ2 := [.dat (nf p), .dat (nf q)]) (d := dI (p.1 * q.2)) (e := dI (q.1 * p.2)) (binD (d := dI p.1) (e := dI q.2) rfl rfl (mul_ok hp.n hq.d (by omega))) (binD (d := dI q.1) (e := dI p.2) rfl rfl (mul_ok hq.n hp.d (by omega))) (cmp_ok _ _)]
  rfl
end SC

set_option Elab.async false
set_option linter.all false
set_option maxRecDepth 100000
namespace SC
open PySem PySem.Spec PyProof.Rows L2

/-! ### the pen -/
def pen (x y z : Nat) : Sl := .own [dI x, dI y, dI z]
theorem mod_ok {a b : Nat} (h : 0 < b) : dMod (dI a) (dI b) = some (dI (a % b)) := by
  have : (0 : Int) < (b : Int) := by omega
  simp only [dMod, if_pos this]
  rfl
theorem div_ok {a b L : Nat} (h : 0 < b) (hs : b < 2 ^ L) (hL : L ≤ 8999) : dDiv (dI a) (dI b) = some (dI (a / b)) := dDiv_ok h hs hL
/-- an operand that reads as d, nothing changed -/
def RdO (fe : FE) (ρ : Ev) (d : D) : Prop := ∃ o, fe ρ = some (o, ρ) ∧ o.get ρ = some d
theorem RdO.of {fe : FE} {ρ : Ev} {d : D} (h : fe ρ = some (.dat d, ρ)) : RdO fe ρ d := ⟨_, h, rfl⟩
theorem binO {g : D → D → Option D} {fa fb : FE} {ρ : Ev} {d e r : D} (h1 : RdO fa ρ d) (h2 : RdO fb ρ e) (h : g d e = some r) : fBin g fa fb ρ = some (.dat r, ρ) := by
  obtain ⟨o, e1, g1⟩ := h1
  obtain ⟨p, e2, g2⟩ := h2
  simp only [fBin, e1, e2, g1, g2, h]
theorem binR {g : D → D → Option D} {fa fb : FE} {ρ : Ev} {d e r : D} (h1 : RdO fa ρ d) (h2 : RdO fb ρ e) (h : g d e = some r) : RdO (fBin g fa fb) ρ r := .of (binO h1 h2 h)
section
variable (x y z n : Nat) (s t : Sl)
theorem penI0 : RdO (fBin dIdx (fVar 0) (fC (.int 0))) [pen x y z, .dat (dI n), s, t] (dI x) := ⟨_, rfl, rfl⟩
theorem penI1 : RdO (fBin dIdx (fVar 0) (fC (.int 1))) [pen x y z, .dat (dI n), s, t] (dI y) := ⟨_, rfl, rfl⟩
theorem penI2 : RdO (fBin dIdx (fVar 0) (fC (.int 2))) [pen x y z, .dat (dI n), s, t] (dI z) := ⟨_, rfl, rfl⟩
theorem kR (i : Nat) (ρ : Ev) : RdO (fC (.int i)) ρ (dI i) := ⟨_, rfl, rfl⟩
end
theorem putO {ρ : Ev} {fe : FE} {d : D} (h : fe ρ = some (.dat d, ρ)) {ds : List D} (ho : ownAt ρ 0 = some ds) {k : Int} {j : Nat} (hj : ixN ds.length k = some j) : bPut 0 (fC (.int k)) fe ρ = some (.nx, ρ.set 0 (.own (ds.set j d))) := by
  simp only [bPut, h, ho, fC, hj]
theorem setO {ρ : Ev} {fe : FE} {d : D} {i : Nat} (h : fe ρ = some (.dat d, ρ)) : bSet i fe ρ = some (.nx, ρ.set i (.dat d)) := by
  simp only [bSet, h]
theorem seqE {f g : FB} {ρ ρ1 : Ev} {r : Option (Fw × Ev)} (h1 : f ρ = some (.nx, ρ1)) (h2 : g ρ1 = r) : bSeq f g ρ = r := by
  simp only [bSeq, h1, h2]
theorem seqR {f g : FB} {ρ ρ1 : Ev} {d : D} (h1 : f ρ = some (.rt d, ρ1)) : bSeq f g ρ = some (.rt d, ρ1) := by
  simp only [bSeq, h1]
theorem ifT {c : FT} {f g : FB} {ρ ρ1 : Ev} {r : Option (Fw × Ev)} (h : c ρ = some (true, ρ1)) (h1 : f ρ1 = r) : bIf c f g ρ = r := by
  simp only [bIf, h, h1]
theorem ifF {c : FT} {f g : FB} {ρ ρ1 : Ev} {r : Option (Fw × Ev)} (h : c ρ = some (false, ρ1)) (h1 : g ρ1 = r) : bIf c f g ρ = r := by
  simp only [bIf, h, h1]
theorem retE {fe : FE} {ρ ρ1 : Ev} {d : D} (h : fe ρ = some (.dat d, ρ1)) : bRet fe ρ = some (.rt d, ρ1) := by
  simp only [bRet, h]
theorem testE {fe : FE} {ρ ρ1 : Ev} {b : Bool} (h : fe ρ = some (.dat (.bl b), ρ1)) : fTest fe ρ = some (b, ρ1) := by
  simp only [fTest, h]
def stir1 (y z : Nat) : Nat := (y * 48271 + 1009 * z + 7) % 2147483647
def stir2 (y : Nat) : Nat := (y * y + 69621 * y + 11) % 2147483629
def stir3 (y : Nat) : Nat := (y * y + 40014 * y) % 2147483587
theorem gt0_ok (x : Nat) : (dCmp fun i j => decide (j < i)) (dI x) (dI 0) = some (.bl (decide (0 < x))) := by
  simp only [dCmp]
  congr 2
  simp
theorem draw_eq {x y z n N : Nat} (hn : 0 < n) (hn2 : n < 2 ^ 21) (hy : y < 2 ^ 31) (hz : z ≤ N) (hN : N < 2 ^ 60) :
    d__law_draw [pen x y z, .dat (dI n), .un, .un] = if 0 < x then some (.rt (dI (x % n)), [pen (x / n) y z, .dat (dI n), .dat (dI (x % n)), .un]) else
      some (.rt (dI (stir3 (stir2 (stir1 y (z + 1))) / 16 % n)), [pen x (stir1 y (z + 1)) (z + 1), .dat (dI n), .un, .dat (dI (stir3 (stir2 (stir1 y (z + 1)))))]) := by
  by_cases hx : 0 < x
  · rw [if_pos hx]
    refine seqR (ifT (testE (binO (penI0 x y z n .un .un) (kR 0 _) ((gt0_ok x).trans (by rw [decide_eq_true hx])))) ?_)
    refine seqE (setO (binO (penI0 x y z n .un .un) (.of rfl) (mod_ok hn))) ?_
    refine seqE (putO (binO (penI0 x y z n (.dat (dI (x % n))) .un) (.of rfl) (div_ok hn hn2 (by decide))) rfl rfl) ?_
    exact retE rfl
  · rw [if_neg hx]
    have h1 : stir1 y (z + 1) < 2 ^ 31 := Nat.lt_trans (Nat.mod_lt _ (by decide)) (by decide)
    have h2 : stir2 (stir1 y (z + 1)) < 2 ^ 31 := Nat.lt_trans (Nat.mod_lt _ (by decide)) (by decide)
    refine seqE (ifF (testE (binO (penI0 x y z n .un .un) (kR 0 _) ((gt0_ok x).trans (by rw [decide_eq_false hx])))) rfl) ?_
    refine seqE (putO (binO (penI2 x y z n .un .un) (kR 1 _) (add_ok z 1)) rfl rfl) ?_
    refine seqE (putO (binO (binR (binR (binR (penI1 x y (z + 1) n .un .un) (kR 48271 _) (mul_ok (L := 31) (M := 16) hy (by decide) (by decide))) (binR (kR 1009 _) (penI2 x y (z + 1) n .un .un) (mul_ok (L := 10) (M := 61) (by decide) (by omega) (by decide))) (add_ok _ _)) (kR 7 _) (add_ok _ _)) (kR 2147483647 _) (mod_ok (by decide))) rfl rfl) ?_
    refine seqE (ρ1 := [pen x (stir1 y (z + 1)) (z + 1), .dat (dI n), .un, .dat (dI (stir2 (stir1 y (z + 1))))]) (setO (binO (binR (binR (binR (penI1 x (stir1 y (z + 1)) (z + 1) n .un .un) (penI1 x (stir1 y (z + 1)) (z + 1) n .un .un) (mul_ok h1 h1 (by decide))) (binR (kR 69621 _) (penI1 x (stir1 y (z + 1)) (z + 1) n .un .un) (mul_ok (L := 17) (by decide) h1 (by decide))) (add_ok _ _)) (kR 11 _) (add_ok _ _)) (kR 2147483629 _) (mod_ok (by decide)))) ?_
    refine seqE (ρ1 := [pen x (stir1 y (z + 1)) (z + 1), .dat (dI n), .un, .dat (dI (stir3 (stir2 (stir1 y (z + 1)))))]) (setO (binO (binR (binR (.of rfl) (.of rfl) (mul_ok (a := stir2 (stir1 y (z + 1))) (b := stir2 (stir1 y (z + 1))) h2 h2 (by decide))) (binR (kR 40014 _) (.of rfl) (mul_ok (L := 16) (b := stir2 (stir1 y (z + 1))) (by decide) h2 (by decide))) (add_ok _ _)) (kR 2147483587 _) (mod_ok (by decide)))) ?_
    exact retE (binO (binR (.of rfl) (kR 16 _) (div_ok (a := stir3 (stir2 (stir1 y (z + 1)))) (by decide) (L := 5) (by decide) (by decide))) (.of rfl) (mod_ok hn))
end SC

set_option Elab.async false
set_option linter.all false
set_option maxRecDepth 100000
namespace SC
open PySem PySem.Spec PyProof.Rows L2

/-! ### drawing -/
def PenOk (N : Nat) (s : Sl) : Prop := ∃ x y z, s = pen x y z ∧ y < 2 ^ 31 ∧ z ≤ N
theorem PenOk.mono {N M : Nat} {s : Sl} (h : PenOk N s) (k : N ≤ M) : PenOk M s := by
  obtain ⟨x, y, z, e, h1, h2⟩ := h
  exact ⟨x, y, z, e, h1, Nat.le_trans h2 k⟩
/-- a def that draws at most c times: its answer -/
def Dr (c : Nat) (g : FG) (as : List Sl) (P : D → Prop) : Prop := ∀ N s, PenOk N s → N + c < 2 ^ 60 → ∃ r s' rest, g (s :: as) = some (r, s' :: rest) ∧ as.length ≤ rest.length ∧ PenOk (N + c) s' ∧ P r
theorem draw_dr {n : Nat} (hn : 0 < n) (hn2 : n < 2 ^ 21) : Dr 1 g__law_draw [.dat (dI n)] (fun r => ∃ k, r = dI k ∧ k < n) := by
  rintro N _ ⟨x, y, z, rfl, hy, hz⟩ hN
  have e := draw_eq (x := x) (y := y) (z := z) (N := N) hn hn2 hy hz (by omega)
  by_cases hx : 0 < x
  · rw [if_pos hx] at e
    refine ⟨dI (x % n), pen (x / n) y z, [.dat (dI n), .dat (dI (x % n)), .un], ?_, by simp, ⟨_, _, _, rfl, hy, by omega⟩, _, rfl, Nat.mod_lt _ hn⟩
    show frD (d__law_draw [pen x y z, .dat (dI n), .un, .un]) = _
    rw [e]
    rfl
  · rw [if_neg hx] at e
    refine ⟨dI (stir3 (stir2 (stir1 y (z + 1))) / 16 % n), pen x (stir1 y (z + 1)) (z + 1), [.dat (dI n), .un, .dat (dI (stir3 (stir2 (stir1 y (z + 1)))))], ?_, by simp, ⟨_, _, _, rfl, Nat.lt_trans (Nat.mod_lt _ (by decide)) (by decide), by omega⟩, _, rfl, Nat.mod_lt _ hn⟩
    show frD (d__law_draw [pen x y z, .dat (dI n), .un, .un]) = _
    rw [e]
    rfl
theorem callP1 {g : FG} {ρ : Ev} {s s' : Sl} {r : D} {rest : List Sl} {N : Nat} (h0 : ρ[0]? = some s) (hs : PenOk N s) (hg : g [s] = some (r, s' :: rest)) : fCall g [] (fCons (fVar 0) fNil) ρ = some (.dat r, ρ.set 0 s') := by
  obtain ⟨x, y, z, rfl, _, _⟩ := hs
  unfold pen at *
  simp [fCall, fCons, fNil, fVar, h0, argSl, Sl.mut, slotsOf, hg, putSl]
theorem callP2 {g : FG} {fb : FE} {ρ : Ev} {s s' : Sl} {d r : D} {rest : List Sl} {N : Nat} (h0 : ρ[0]? = some s) (hs : PenOk N s) (h2 : fb ρ = some (.dat d, ρ)) (hg : g [s, .dat d] = some (r, s' :: rest)) (hl : 1 ≤ rest.length) :
    fCall g [] (fCons (fVar 0) (fCons fb fNil)) ρ = some (.dat r, ρ.set 0 s') := by
  obtain ⟨x, y, z, rfl, _, _⟩ := hs
  unfold pen at *
  have e : putSl (ρ.set 0 s') [.dat d] rest = ρ.set 0 s' := put_nil 0 _ _ _ rfl
  simp [fCall, fCons, fNil, fVar, h0, h2, argSl, Sl.mut, slotsOf, hg, putSl, hl, e]
/-- the call of such a def from a frame whose first slot is the pen -/
theorem dr_call1 {c N : Nat} {g : FG} {P : D → Prop} (h : Dr c g [] P) {s : Sl} {ρ : Ev} (hs : PenOk N s) (hN : N + c < 2 ^ 60) : ∃ r s', fCall g [] (fCons (fVar 0) fNil) (s :: ρ) = some (.dat r, s' :: ρ) ∧ PenOk (N + c) s' ∧ P r := by
  obtain ⟨r, s', rest, e, _, h1, h2⟩ := h N s hs hN
  exact ⟨r, s', callP1 rfl hs e, h1, h2⟩
theorem dr_call2 {c N : Nat} {g : FG} {d : D} {P : D → Prop} (h : Dr c g [.dat d] P) {fb : FE} {s : Sl} {ρ : Ev} (hs : PenOk N s) (hN : N + c < 2 ^ 60) (hb : fb (s :: ρ) = some (.dat d, s :: ρ)) : ∃ r s', fCall g [] (fCons (fVar 0) (fCons fb fNil)) (s :: ρ) = some (.dat r, s' :: ρ) ∧ PenOk (N + c) s' ∧ P r := by
  obtain ⟨r, s', rest, e, hl, h1, h2⟩ := h N s hs hN
  exact ⟨r, s', callP2 rfl hs hb e hl, h1, h2⟩
/-- draw(pen, n), n written there -/
theorem draw_c {N : Nat} (n : Nat) (hn : 0 < n) (hn2 : n < 2 ^ 21) {s : Sl} (ρ : Ev) (hs : PenOk N s) (hN : N + 1 < 2 ^ 60) {fb : FE} (hb : fb (s :: ρ) = some (.dat (dI n), s :: ρ)) : ∃ k s', fCall g__law_draw [] (fCons (fVar 0) (fCons fb fNil)) (s :: ρ) = some (.dat (dI k), s' :: ρ) ∧ PenOk (N + 1) s' ∧ k < n := by
  obtain ⟨r, s', e, h1, k, rfl, h2⟩ := dr_call2 (draw_dr hn hn2) (ρ := ρ) hs hN hb
  exact ⟨k, s', e, h1, h2⟩
theorem consE {fa : FE} {fr : FA} {ρ ρ1 ρ2 : Ev} {o : Opd} {os : List Opd} (h1 : fa ρ = some (o, ρ1)) (h2 : fr ρ1 = some (os, ρ2)) : fCons fa fr ρ = some (o :: os, ρ2) := by
  simp only [fCons, h1, h2]
theorem newE {fa : FA} {ρ ρ1 : Ev} {os : List Opd} {ds : List D} (h : fa ρ = some (os, ρ1)) (hd : datAll os = some ds) (hl : ds.length ≤ sLn) : nDisp fa ρ = some (ds, ρ1) := by
  simp only [nDisp, h, hd, if_pos hl]
theorem fnewE {fn : FN} {ρ ρ1 : Ev} {ds : List D} (h : fn ρ = some (ds, ρ1)) : fNew fn ρ = some (.dat (.lst ds), ρ1) := by
  simp only [fNew, h]
theorem binE {g : D → D → Option D} {fa fb : FE} {ρ ρ1 ρ2 : Ev} {d e r : D} (h1 : fa ρ = some (.dat d, ρ1)) (h2 : fb ρ1 = some (.dat e, ρ2)) (h : g d e = some r) : fBin g fa fb ρ = some (.dat r, ρ2) := binD h1 h2 h
theorem weight_dr : Dr 2 g__law_weight [] (fun r => ∃ k, r = dI k ∧ k ≤ 20) := by
  intro N s hs hN
  obtain ⟨k1, s1, e1, h1, l1⟩ := draw_c 21 (by decide) (by decide) [] hs (by omega) (fb := fC (.int 21)) rfl
  obtain ⟨k2, s2, e2, h2, l2⟩ := draw_c 8 (by decide) (by decide) [] h1 (by omega) (fb := fC (.int 8)) rfl
  have hx : ∃ w, ([dI 0, dI 1, dI 1, dI 2, dI 3, dI 5, dI 20, dI k1] : List D)[k2]? = some (dI w) ∧ w ≤ 20 := by
    match k2, l2 with
    | 0, _ => exact ⟨0, rfl, by decide⟩
    | 1, _ => exact ⟨1, rfl, by decide⟩
    | 2, _ => exact ⟨1, rfl, by decide⟩
    | 3, _ => exact ⟨2, rfl, by decide⟩
    | 4, _ => exact ⟨3, rfl, by decide⟩
    | 5, _ => exact ⟨5, rfl, by decide⟩
    | 6, _ => exact ⟨20, rfl, by decide⟩
    | 7, _ => exact ⟨k1, rfl, by omega⟩
  obtain ⟨w, hw, lw⟩ := hx
  have b : d__law_weight [s] = some (.rt (dI w), [s2]) := by
    refine retE (binE (d := .lst [dI 0, dI 1, dI 1, dI 2, dI 3, dI 5, dI 20, dI k1]) (fnewE (newE (consE rfl (consE rfl (consE rfl (consE rfl (consE rfl (consE rfl (consE rfl (consE e1 rfl)))))))) rfl (show 8 ≤ sLn by decide))) e2 (idx_nat hw))
  refine ⟨dI w, s2, [], ?_, Nat.le_refl _, h2, w, rfl, lw⟩
  show frD (d__law_weight [s]) = _
  rw [b]
  rfl
theorem weight_c {N : Nat} {s : Sl} (ρ : Ev) (hs : PenOk N s) (hN : N + 2 < 2 ^ 60) : ∃ k s', fCall g__law_weight [] (fCons (fVar 0) fNil) (s :: ρ) = some (.dat (dI k), s' :: ρ) ∧ PenOk (N + 2) s' ∧ k ≤ 20 := by
  obtain ⟨r, s', e, h1, k, rfl, h2⟩ := dr_call1 weight_dr (ρ := ρ) hs hN
  exact ⟨k, s', e, h1, h2⟩

/-! ### the plan drawn -/
structure Row (p n at_ : Nat) (ws : List Nat) : Prop where
  len : ws.length = p + n
  le : ∀ w ∈ ws, w ≤ 20
  pos : 0 < (ws.take p).sum
  own : ws[p + at_]? = some 0
def rowD (ws : List Nat) : D := .tup (ws.map fun (w : Nat) => D.int (w : Int))
structure VP (p : Nat) (rows : List (List Nat)) : Prop where
  p1 : 1 ≤ p
  p4 : p ≤ 4
  n1 : 1 ≤ rows.length
  n4 : rows.length ≤ 4
  row : ∀ i ws, rows[i]? = some ws → Row p rows.length i ws
/-- the products' weights -/
theorem mine_ok {N p : Nat} {s : Sl} (hp : p ≤ 4) (hs : PenOk N s) (hN : N + 2 * p < 2 ^ 60) (a2 a3 a4 a5 a6 a7 a8 : Sl) :
    ∃ (ws : List Nat) (s' : Sl), nLc [7] (.nm 7) (sRng (fCons (fVar 1) (fNil))) (fYes) (fCall g__law_weight [] (fCons (fVar 0) (fNil))) [s, .dat (dI p), a2, a3, a4, a5, a6, a7, a8] = some (ws.map (fun (w : Nat) => D.int (w : Int)), [s', .dat (dI p), a2, a3, a4, a5, a6, a7, a8]) ∧ PenOk (N + 2 * p) s' ∧ ws.length = p ∧ ∀ w ∈ ws, w ≤ 20 := by
  have inv := lc_inv (own := [7]) (p := .nm 7) (os := []) (es := []) (ft := fYes) (fe := fCall g__law_weight [] (fCons (fVar 0) (fNil)))
    (fun acc ρ => ∃ (s' b7 : Sl) (ws : List Nat), ρ = [s', .dat (dI p), a2, a3, a4, a5, a6, b7, a8] ∧ PenOk (N + 2 * acc.length) s' ∧ acc = ws.map (fun (w : Nat) => D.int (w : Int)) ∧ ∀ w ∈ ws, w ≤ 20) (fun _ => rfl) (rangeD 0 p) [] [s, .dat (dI p), a2, a3, a4, a5, a6, a7, a8] (fun k d hk acc ρ hl hI => by
      obtain ⟨s', b7, ws, rfl, h1, h2, h3⟩ := hI
      obtain ⟨_, hkp⟩ := rng_get p k d hk
      simp only [List.length_nil, Nat.zero_add] at hl
      obtain ⟨w, s2, e, h4, h5⟩ := weight_c [.dat (dI p), a2, a3, a4, a5, a6, .dat d, a8] h1 (by omega)
      refine ⟨_, _, dI w, _, rfl, rfl, e, s2, .dat d, ws ++ [w], rfl, ?_, ?_, ?_⟩
      · exact h4.mono (by rw [List.length_append, List.length_singleton]; omega)
      · rw [h2, List.map_append]; rfl
      · intro v hv
        rcases List.mem_append.mp hv with hv | hv
        · exact h3 v hv
        · rw [List.mem_singleton.mp hv]; exact h5) ⟨s, a7, [], rfl, hs, rfl, fun _ z => nomatch z⟩
  obtain ⟨out, ρ', e, ⟨s', b7, ws, rfl, h1, h2, h3⟩, hl⟩ := inv
  rw [rng_len, List.length_nil, Nat.zero_add] at hl
  refine ⟨ws, s', ?_, by rw [← hl]; exact h1, by rw [← hl, h2, List.length_map], h3⟩
  have hsrc : sRng (fCons (fVar 1) fNil) [s, .dat (dI p), a2, a3, a4, a5, a6, a7, a8] = some (rangeD 0 p, [], [s, .dat (dI p), a2, a3, a4, a5, a6, a7, a8]) := sRng_ok rfl (by omega)
  have hlen : (rangeD 0 p).length ≤ sLn := by rw [rng_len]; exact Nat.le_trans hp (by decide)
  simp only [nLc, hsrc, getAll, if_pos hlen, e, h2]
  rfl
end SC

set_option Elab.async false
set_option linter.all false
set_option maxRecDepth 100000
namespace SC
open PySem PySem.Spec PyProof.Rows L2

def nl (ws : List Nat) : List D := ws.map fun (w : Nat) => D.int (w : Int)
theorem bltE {g : List D → Option D} {fa : FA} {ρ ρ1 : Ev} {os : List Opd} {ds : List D} {r : D} (h : fa ρ = some (os, ρ1)) (hd : getAll ρ1 os = some ds) (hg : g ds = some r) : fBlt g fa ρ = some (.dat r, ρ1) := by
  simp only [fBlt, h, hd, hg]
theorem putE {i j : Nat} {fi fe : FE} {ρ ρ1 ρ2 : Ev} {d : D} {k : Int} {ds0 ds : List D} (h1 : fe ρ = some (.dat d, ρ1)) (h2 : ownAt ρ1 i = some ds0) (h3 : fi ρ1 = some (.dat (.int k), ρ2)) (h4 : ownAt ρ2 i = some ds) (h5 : ixN ds.length k = some j) : bPut i fi fe ρ = some (.nx, ρ2.set i (.own (ds.set j d))) := by
  simp only [bPut, h1, h2, h3, h4, h5]
theorem orT {fa fb : FT} {ρ ρ1 : Ev} (h : fa ρ = some (true, ρ1)) : fOr fa fb ρ = some (true, ρ1) := by simp only [fOr, h]
theorem orF {fa fb : FT} {ρ ρ1 : Ev} {r : Option (Bool × Ev)} (h : fa ρ = some (false, ρ1)) (h2 : fb ρ1 = r) : fOr fa fb ρ = r := by simp only [fOr, h, h2]
theorem andT {fa fb : FT} {ρ ρ1 : Ev} {r : Option (Bool × Ev)} (h : fa ρ = some (true, ρ1)) (h2 : fb ρ1 = r) : fAnd fa fb ρ = r := by simp only [fAnd, h, h2]
theorem andF {fa fb : FT} {ρ ρ1 : Ev} (h : fa ρ = some (false, ρ1)) : fAnd fa fb ρ = some (false, ρ1) := by simp only [fAnd, h]
theorem notE {fa : FT} {b : Bool} {ρ ρ1 : Ev} (h : fa ρ = some (b, ρ1)) : fNot fa ρ = some (!b, ρ1) := by simp only [fNot, h]
theorem iteT {fc : FT} {fa fb : FE} {ρ ρ1 : Ev} {r : Option (Opd × Ev)} (h : fc ρ = some (true, ρ1)) (h2 : fa ρ1 = r) : fIf fc fa fb ρ = r := by simp only [fIf, h, h2]
theorem iteF {fc : FT} {fa fb : FE} {ρ ρ1 : Ev} {r : Option (Opd × Ev)} (h : fc ρ = some (false, ρ1)) (h2 : fb ρ1 = r) : fIf fc fa fb ρ = r := by simp only [fIf, h, h2]
theorem andVT {fa : FT} {fb : FE} {ρ ρ1 : Ev} {r : Option (Opd × Ev)} (h : fa ρ = some (true, ρ1)) (h2 : fb ρ1 = r) : fAndV fa fb ρ = r := by simp only [fAndV, h, h2]
theorem boolE {fa : FT} {b : Bool} {ρ ρ1 : Ev} (h : fa ρ = some (b, ρ1)) : fBool fa ρ = some (.dat (.bl b), ρ1) := by simp only [fBool, h]
theorem binG {g : D → D → Option D} {fa fb : FE} {ρ ρ1 ρ2 : Ev} {o p : Opd} {d e r : D} (h1 : fa ρ = some (o, ρ1)) (h2 : fb ρ1 = some (p, ρ2)) (g1 : o.get ρ2 = some d) (g2 : p.get ρ2 = some e) (h : g d e = some r) : fBin g fa fb ρ = some (.dat r, ρ2) := by
  simp only [fBin, h1, h2, g1, g2, h]
theorem expE {fe : FE} {ρ ρ1 : Ev} {o : Opd} (h : fe ρ = some (o, ρ1)) : bExp fe ρ = some (.nx, ρ1) := by simp only [bExp, h]
theorem lmE {lm : LM} {i : Nat} {fe : FE} {ρ ρ1 : Ev} {d y : D} {ds0 ds ds' : List D} (h1 : ownAt ρ i = some ds0) (h2 : fe ρ = some (.dat d, ρ1)) (h3 : ownAt ρ1 i = some ds) (h4 : lm ds d = some (y, ds')) : fLM lm i fe ρ = some (.dat y, ρ1.set i (.own ds')) := by
  simp only [fLM, h1, h2, h3, h4]
theorem dispE {c : List D → D} {fa : FA} {ρ ρ1 : Ev} {os : List Opd} {ds : List D} (h : fa ρ = some (os, ρ1)) (hd : datAll os = some ds) (hl : ds.length ≤ sLn) : fDisp c fa ρ = some (.dat (c ds), ρ1) := by
  simp only [fDisp, h, hd, if_pos hl]
theorem parE {is : List Nat} {fm : FM} {ρ ρ1 ρ2 : Ev} {ks : List Kd} (h : fm ρ = some (ks, ρ1)) (h2 : setKs ρ1 is ks = some ρ2) : bPar is fm ρ = some (.nx, ρ2) := by simp only [bPar, h, h2]
theorem mDatE {fa : FE} {fr : FM} {ρ ρ1 ρ2 : Ev} {d : D} {ks : List Kd} (h : fa ρ = some (.dat d, ρ1)) (h2 : fr ρ1 = some (ks, ρ2)) : mDat fa fr ρ = some (.dat d :: ks, ρ2) := by simp only [mDat, h, h2]
theorem mNewE {fa : FN} {fr : FM} {ρ ρ1 ρ2 : Ev} {ds : List D} {ks : List Kd} (h : fa ρ = some (ds, ρ1)) (h2 : fr ρ1 = some (ks, ρ2)) : mNew fa fr ρ = some (.new ds :: ks, ρ2) := by simp only [mNew, h, h2]
theorem ownE {i : Nat} {fn : FN} {ρ ρ1 : Ev} {ds : List D} (h : fn ρ = some (ds, ρ1)) : bOwn i fn ρ = some (.nx, ρ1.set i (.own ds)) := by simp only [bOwn, h]
theorem setE {i : Nat} {fe : FE} {ρ ρ1 : Ev} {d : D} (h : fe ρ = some (.dat d, ρ1)) : bSet i fe ρ = some (.nx, ρ1.set i (.dat d)) := by simp only [bSet, h]
theorem eq_nat (a b : Nat) : dEq (dI a) (dI b) = some (.bl (decide (a = b))) := by
  rw [dEq_int]
  congr 2
  by_cases h : a = b
  · simp [h]
  · rw [decide_eq_false h, decide_eq_false (by omega)]
theorem ne_nat (a b : Nat) : dNe (dI a) (dI b) = some (.bl (!decide (a = b))) := by
  rw [dNe_int]
  congr 3
  by_cases h : a = b
  · simp [h]
  · rw [decide_eq_false h, decide_eq_false (by omega)]
theorem le_sum {v : Nat} : ∀ {ws : List Nat}, v ∈ ws → v ≤ ws.sum
  | w :: ws, h => by
    rw [List.sum_cons]
    rcases List.mem_cons.mp h with e | e
    · omega
    · have := le_sum e; omega
/-- a row of products' weights that is not all 0 -/
theorem fix_ok {N p : Nat} {s : Sl} {ws : List Nat} (hp0 : 0 < p) (hp : p ≤ 4) (hs : PenOk N s) (hN : N + 2 < 2 ^ 60) (hl : ws.length = p) (hw : ∀ w ∈ ws, w ≤ 20) (a2 a3 a4 a6 a7 a8 : Sl) :
    ∃ (ws' : List Nat) (s' : Sl), bIf (fTest (fBin (dEq) (fBlt dSum (fCons (fVar 5) (fNil))) (fC (.int 0)))) (bPut 5 (fCall g__law_draw [] (fCons (fVar 0) (fCons (fVar 1) (fNil)))) (fBin dAdd (fC (.int 1)) (fCall g__law_draw [] (fCons (fVar 0) (fCons (fC (.int 20)) (fNil)))))) (bNx)
      [s, .dat (dI p), a2, a3, a4, .own (nl ws), a6, a7, a8] = some (.nx, [s', .dat (dI p), a2, a3, a4, .own (nl ws'), a6, a7, a8]) ∧ PenOk (N + 2) s' ∧ ws'.length = p ∧ (∀ w ∈ ws', w ≤ 20) ∧ 0 < ws'.sum := by
  have ht : fTest (fBin (dEq) (fBlt dSum (fCons (fVar 5) (fNil))) (fC (.int 0))) [s, .dat (dI p), a2, a3, a4, .own (nl ws), a6, a7, a8] = some (decide (ws.sum = 0), [s, .dat (dI p), a2, a3, a4, .own (nl ws), a6, a7, a8]) :=
    testE (binE (bltE (ds := [.lst (nl ws)]) rfl rfl (dSum_lst ws)) (e := dI 0) rfl (eq_nat _ _))
  by_cases h0 : ws.sum = 0
  · rw [decide_eq_true h0] at ht
    obtain ⟨k1, s1, e1, h1, l1⟩ := draw_c 20 (by decide) (by decide) [.dat (dI p), a2, a3, a4, .own (nl ws), a6, a7, a8] hs (by omega) (fb := fC (.int 20)) rfl
    obtain ⟨k2, s2, e2, h2, l2⟩ := draw_c p hp0 (Nat.lt_of_le_of_lt hp (by decide)) [.dat (dI p), a2, a3, a4, .own (nl ws), a6, a7, a8] h1 (by omega) (fb := fVar 1) rfl
    refine ⟨ws.set k2 (1 + k1), s2, ?_, h2.mono (by omega), by rw [List.length_set]; exact hl, fun w hw' => ?_, ?_⟩
    · refine ifT ht ((putE (binE (d := dI 1) rfl e1 (add_ok 1 k1)) rfl e2 rfl (ixN_nat (by rw [nl, List.length_map, hl]; exact l2))).trans ?_)
      show some (Fw.nx, [s2, .dat (dI p), a2, a3, a4, .own ((nl ws).set k2 (dI (1 + k1))), a6, a7, a8]) = _
      rw [nl, nl, List.map_set]
    · rcases List.mem_or_eq_of_mem_set hw' with z | z
      · exact hw w z
      · omega
    · have : 1 + k1 ∈ ws.set k2 (1 + k1) := List.mem_set (by omega) _
      have := le_sum this
      omega
  · rw [decide_eq_false h0] at ht
    exact ⟨ws, s, ifF ht rfl, hs.mono (by omega), hl, hw, by omega⟩
/-- the weights for centres -/
theorem its_ok {N n k : Nat} {s : Sl} (hn : n ≤ 4) (hk : k < n) (hs : PenOk N s) (hN : N + 3 * n < 2 ^ 60) (a1 a3 a5 a6 a7 a8 : Sl) :
    ∃ (vs : List Nat) (s' : Sl), nLc [8] (.nm 8) (sRng (fCons (fVar 2) (fNil))) (fYes) (fIf (fOr (fTest (fBin (dEq) (fVar 4) (fVar 8))) (fTest (fBin (dEq) (fCall g__law_draw [] (fCons (fVar 0) (fCons (fC (.int 3)) (fNil)))) (fC (.int 0))))) (fC (.int 0)) (fCall g__law_weight [] (fCons (fVar 0) (fNil))))
      [s, a1, .dat (dI n), a3, .dat (dI k), a5, a6, a7, a8] = some (nl vs, [s', a1, .dat (dI n), a3, .dat (dI k), a5, a6, a7, a8]) ∧ PenOk (N + 3 * n) s' ∧ vs.length = n ∧ (∀ w ∈ vs, w ≤ 20) ∧ vs[k]? = some 0 := by
  have inv := lc_inv (own := [8]) (p := .nm 8) (os := []) (es := []) (ft := fYes) (fe := fIf (fOr (fTest (fBin (dEq) (fVar 4) (fVar 8))) (fTest (fBin (dEq) (fCall g__law_draw [] (fCons (fVar 0) (fCons (fC (.int 3)) (fNil)))) (fC (.int 0))))) (fC (.int 0)) (fCall g__law_weight [] (fCons (fVar 0) (fNil))))
    (fun acc ρ => ∃ (s' b8 : Sl) (vs : List Nat), ρ = [s', a1, .dat (dI n), a3, .dat (dI k), a5, a6, a7, b8] ∧ PenOk (N + 3 * acc.length) s' ∧ acc = nl vs ∧ (∀ w ∈ vs, w ≤ 20) ∧ (k < vs.length → vs[k]? = some 0)) (fun _ => rfl) (rangeD 0 n) [] [s, a1, .dat (dI n), a3, .dat (dI k), a5, a6, a7, a8] (fun i d hi acc ρ hl hI => by
      obtain ⟨s', b8, vs, rfl, h1, h2, h3, h4⟩ := hI
      obtain ⟨rfl, hip⟩ := rng_get n i d hi
      simp only [List.length_nil, Nat.zero_add] at hl
      have hvl : vs.length = i := by rw [← hl, h2, nl, List.length_map]
      have key : ∀ (w : Nat) (s2 : Sl) (ρb ρc : Ev), w ≤ 20 → (k = i → w = 0) → PenOk (N + 3 * acc.length + 3) s2 → ρc = [s2, a1, .dat (dI n), a3, .dat (dI k), a5, a6, a7, .dat (dI i)] → ∃ (s' b8 : Sl) (vs : List Nat), ρc = [s', a1, .dat (dI n), a3, .dat (dI k), a5, a6, a7, b8] ∧ PenOk (N + 3 * (acc ++ [dI w]).length) s' ∧ acc ++ [dI w] = nl vs ∧ (∀ w ∈ vs, w ≤ 20) ∧ (k < vs.length → vs[k]? = some 0) := by
        intro w s2 ρb ρc hw hz hp e
        refine ⟨s2, _, vs ++ [w], e, hp.mono (by rw [List.length_append, List.length_singleton]; omega), by rw [h2, nl, nl, List.map_append]; rfl, fun v hv => ?_, fun hkl => ?_⟩
        · rcases List.mem_append.mp hv with hv | hv
          · exact h3 v hv
          · rw [List.mem_singleton.mp hv]; exact hw
        · rw [List.length_append, List.length_singleton] at hkl
          by_cases hkv : k < vs.length
          · rw [List.getElem?_append_left hkv]; exact h4 hkv
          · have : k = vs.length := by omega
            rw [this, List.getElem?_append_right (Nat.le_refl _), Nat.sub_self]
            show some w = some 0
            rw [hz (by omega)]
      have t1 : fTest (fBin (dEq) (fVar 4) (fVar 8)) [s', a1, .dat (dI n), a3, .dat (dI k), a5, a6, a7, .dat (dI i)] = some (decide (k = i), [s', a1, .dat (dI n), a3, .dat (dI k), a5, a6, a7, .dat (dI i)]) := testE (binE rfl rfl (eq_nat k i))
      by_cases hki : k = i
      · rw [decide_eq_true hki] at t1
        exact ⟨_, _, dI 0, _, rfl, rfl, iteT (orT t1) rfl, key 0 s' [] _ (by decide) (fun _ => rfl) (h1.mono (by omega)) rfl⟩
      · rw [decide_eq_false hki] at t1
        obtain ⟨k1, s1, e1, g1, l1⟩ := draw_c 3 (by decide) (by decide) [a1, .dat (dI n), a3, .dat (dI k), a5, a6, a7, .dat (dI i)] h1 (by omega) (fb := fC (.int 3)) rfl
        have t2 : fTest (fBin (dEq) (fCall g__law_draw [] (fCons (fVar 0) (fCons (fC (.int 3)) (fNil)))) (fC (.int 0))) [s', a1, .dat (dI n), a3, .dat (dI k), a5, a6, a7, .dat (dI i)] = some (decide (k1 = 0), [s1, a1, .dat (dI n), a3, .dat (dI k), a5, a6, a7, .dat (dI i)]) := testE (binE e1 (e := dI 0) rfl (eq_nat k1 0))
        by_cases hk1 : k1 = 0
        · rw [decide_eq_true hk1] at t2
          exact ⟨_, _, dI 0, _, rfl, rfl, iteT (orF t1 t2) rfl, key 0 s1 [] _ (by decide) (fun _ => rfl) (g1.mono (by omega)) rfl⟩
        · rw [decide_eq_false hk1] at t2
          obtain ⟨w, s2, e2, g2, l2⟩ := weight_c [a1, .dat (dI n), a3, .dat (dI k), a5, a6, a7, .dat (dI i)] g1 (by omega)
          exact ⟨_, _, dI w, _, rfl, rfl, iteF (orF t1 t2) e2, key w s2 [] _ l2 (fun z => absurd z hki) (g2.mono (by omega)) rfl⟩) ⟨s, a8, [], rfl, hs, rfl, by simp, by simp⟩
  obtain ⟨out, ρ', e, ⟨s', b8, vs, rfl, h1, h2, h3, h4⟩, hl⟩ := inv
  rw [rng_len, List.length_nil, Nat.zero_add] at hl
  have hvl : vs.length = n := by rw [← hl, h2, nl, List.length_map]
  refine ⟨vs, s', ?_, by rw [← hl]; exact h1, hvl, h3, h4 (by omega)⟩
  have hsrc : sRng (fCons (fVar 2) fNil) [s, a1, .dat (dI n), a3, .dat (dI k), a5, a6, a7, a8] = some (rangeD 0 n, [], [s, a1, .dat (dI n), a3, .dat (dI k), a5, a6, a7, a8]) := sRng_ok rfl (by omega)
  have hlen : (rangeD 0 n).length ≤ sLn := by rw [rng_len]; exact Nat.le_trans hn (by decide)
  simp only [nLc, hsrc, getAll, if_pos hlen, e, h2]
  rfl
end SC

set_option Elab.async false
set_option linter.all false
set_option maxRecDepth 100000
namespace SC
open PySem PySem.Spec PyProof.Rows L2

theorem row_own {p n k : Nat} {ws vs : List Nat} (h1 : ws.length = p) (h2 : vs.length = n) (h3 : ∀ w ∈ ws, w ≤ 20) (h4 : ∀ w ∈ vs, w ≤ 20) (h5 : 0 < ws.sum) (h6 : vs[k]? = some 0) : Row p n k (ws ++ vs) := by
  refine ⟨by rw [List.length_append, h1, h2], fun w hw => ?_, ?_, ?_⟩
  · rcases List.mem_append.mp hw with z | z
    · exact h3 w z
    · exact h4 w z
  · rw [← h1, List.take_left]; exact h5
  · rw [← h1, List.getElem?_append_right (Nat.le_add_right _ _), Nat.add_sub_cancel_left]; exact h6
theorem row_step {N p n k : Nat} {s : Sl} {rows : List (List Nat)} (hp0 : 0 < p) (hp : p ≤ 4) (hn : n ≤ 4) (hk : k < n) (hr : rows.length ≤ 4) (hs : PenOk N s) (hN : N + 30 < 2 ^ 60) (a5 a6 a7 a8 : Sl) :
    ∃ (ws : List Nat) (s' b5 b6 : Sl), (bSeq (bOwn 5 (nLc [7] (.nm 7) (sRng (fCons (fVar 1) (fNil))) (fYes) (fCall g__law_weight [] (fCons (fVar 0) (fNil))))) (bSeq (bIf (fTest (fBin (dEq) (fBlt dSum (fCons (fVar 5) (fNil))) (fC (.int 0)))) (bPut 5 (fCall g__law_draw [] (fCons (fVar 0) (fCons (fVar 1) (fNil)))) (fBin dAdd (fC (.int 1)) (fCall g__law_draw [] (fCons (fVar 0) (fCons (fC (.int 20)) (fNil)))))) (bNx)) (bSeq (bSet 6 (fNew (nLc [8] (.nm 8) (sRng (fCons (fVar 2) (fNil))) (fYes) (fIf (fOr (fTest (fBin (dEq) (fVar 4) (fVar 8))) (fTest (fBin (dEq) (fCall g__law_draw [] (fCons (fVar 0) (fCons (fC (.int 3)) (fNil)))) (fC (.int 0))))) (fC (.int 0)) (fCall g__law_weight [] (fCons (fVar 0) (fNil))))))) (bExp (fLM lmApp 3 (fBlt dTuple (fCons (fBin dAdd (fVar 5) (fVar 6)) (fNil))))))))
      [s, .dat (dI p), .dat (dI n), .own (rows.map rowD), .dat (dI k), a5, a6, a7, a8] = some (.nx, [s', .dat (dI p), .dat (dI n), .own ((rows ++ [ws]).map rowD), .dat (dI k), b5, b6, a7, a8]) ∧ PenOk (N + 30) s' ∧ Row p n k ws := by
  obtain ⟨ws, s1, e1, h1, l1, w1⟩ := mine_ok (p := p) hp hs (by omega) (.dat (dI n)) (.own (rows.map rowD)) (.dat (dI k)) a5 a6 a7 a8
  obtain ⟨ws', s2, e2, h2, l2, w2, z2⟩ := fix_ok (ws := ws) hp0 hp h1 (by omega) l1 w1 (.dat (dI n)) (.own (rows.map rowD)) (.dat (dI k)) a6 a7 a8
  obtain ⟨vs, s3, e3, h3, l3, w3, z3⟩ := its_ok (n := n) (k := k) hn hk h2 (by omega) (.dat (dI p)) (.own (rows.map rowD)) (.own (nl ws')) a6 a7 a8
  refine ⟨ws' ++ vs, s3, .own (nl ws'), .dat (.lst (nl vs)), ?_, h3.mono (by omega), row_own l2 l3 w2 w3 z2 z3⟩
  refine seqE (ownE e1) (seqE e2 (seqE (setE (fnewE e3)) ?_))
  have hle : (nl ws').length + (nl vs).length ≤ sLn := by
    rw [nl, nl, List.length_map, List.length_map, l2, l3]
    exact Nat.le_trans (Nat.add_le_add hp hn) (by decide)
  have hlr : (rows.map rowD).length < sLn := by rw [List.length_map]; exact Nat.lt_of_le_of_lt hr (by decide)
  have ha : dAdd (.lst (nl ws')) (.lst (nl vs)) = some (.lst (nl ws' ++ nl vs)) := by simp only [dAdd, if_pos hle]
  have hm : lmApp (rows.map rowD) (.tup (nl ws' ++ nl vs)) = some (.non, (rows ++ [ws' ++ vs]).map rowD) := by
    simp only [lmApp, if_pos hlr, List.map_append, List.map_cons, List.map_nil]
    rw [show rowD (ws' ++ vs) = .tup (nl ws' ++ nl vs) by simp only [rowD, nl, List.map_append]]
  have el : fLM lmApp 3 (fBlt dTuple (fCons (fBin dAdd (fVar 5) (fVar 6)) fNil)) [s3, .dat (dI p), .dat (dI n), .own (rows.map rowD), .dat (dI k), .own (nl ws'), .dat (.lst (nl vs)), a7, a8] = some (.dat .non, [s3, .dat (dI p), .dat (dI n), .own ((rows ++ [ws' ++ vs]).map rowD), .dat (dI k), .own (nl ws'), .dat (.lst (nl vs)), a7, a8]) :=
    lmE (ρ1 := [s3, .dat (dI p), .dat (dI n), .own (rows.map rowD), .dat (dI k), .own (nl ws'), .dat (.lst (nl vs)), a7, a8]) (d := .tup (nl ws' ++ nl vs)) (ds0 := rows.map rowD) rfl
      (bltE (ρ1 := [s3, .dat (dI p), .dat (dI n), .own (rows.map rowD), .dat (dI k), .own (nl ws'), .dat (.lst (nl vs)), a7, a8]) (ds := [.lst (nl ws' ++ nl vs)]) (consE (binG (ρ1 := [s3, .dat (dI p), .dat (dI n), .own (rows.map rowD), .dat (dI k), .own (nl ws'), .dat (.lst (nl vs)), a7, a8]) (ρ2 := [s3, .dat (dI p), .dat (dI n), .own (rows.map rowD), .dat (dI k), .own (nl ws'), .dat (.lst (nl vs)), a7, a8]) (o := .slot 5) (p := .dat (.lst (nl vs))) rfl rfl rfl rfl ha) rfl) rfl rfl) rfl hm
  exact expE el
theorem case_dr : Dr 200 g__law_case [] (fun r => ∃ p rows, VP p rows ∧ r = .tup [dI p, .lst (rows.map rowD)]) := by
  intro N s hs hN
  obtain ⟨k1, s1, e1, h1, l1⟩ := draw_c 4 (by decide) (by decide) [.un, .un, .un, .un, .un, .un, .un, .un] hs (by omega) (fb := fC (.int 4)) rfl
  obtain ⟨k2, s2, e2, h2, l2⟩ := draw_c 4 (by decide) (by decide) [.un, .un, .un, .un, .un, .un, .un, .un] h1 (by omega) (fb := fC (.int 4)) rfl
  have inv := for_inv (p := .nm 4) (fb := (bSeq (bOwn 5 (nLc [7] (.nm 7) (sRng (fCons (fVar 1) (fNil))) (fYes) (fCall g__law_weight [] (fCons (fVar 0) (fNil))))) (bSeq (bIf (fTest (fBin (dEq) (fBlt dSum (fCons (fVar 5) (fNil))) (fC (.int 0)))) (bPut 5 (fCall g__law_draw [] (fCons (fVar 0) (fCons (fVar 1) (fNil)))) (fBin dAdd (fC (.int 1)) (fCall g__law_draw [] (fCons (fVar 0) (fCons (fC (.int 20)) (fNil)))))) (bNx)) (bSeq (bSet 6 (fNew (nLc [8] (.nm 8) (sRng (fCons (fVar 2) (fNil))) (fYes) (fIf (fOr (fTest (fBin (dEq) (fVar 4) (fVar 8))) (fTest (fBin (dEq) (fCall g__law_draw [] (fCons (fVar 0) (fCons (fC (.int 3)) (fNil)))) (fC (.int 0))))) (fC (.int 0)) (fCall g__law_weight [] (fCons (fVar 0) (fNil))))))) (bExp (fLM lmApp 3 (fBlt dTuple (fCons (fBin dAdd (fVar 5) (fVar 6)) (fNil)))))))))
    (fun i ρ => ∃ (s' a4 a5 a6 a7 a8 : Sl) (rows : List (List Nat)), ρ = [s', .dat (dI (1 + k1)), .dat (dI (1 + k2)), .own (rows.map rowD), a4, a5, a6, a7, a8] ∧ PenOk (N + 2 + 30 * i) s' ∧ rows.length = i ∧ ∀ j ws, rows[j]? = some ws → Row (1 + k1) (1 + k2) j ws)
    (rangeD 0 (1 + k2)) 0 [s2, .dat (dI (1 + k1)), .dat (dI (1 + k2)), .own [], .un, .un, .un, .un, .un] (fun k d hk ρ hI => by
      obtain ⟨s', a4, a5, a6, a7, a8, rows, rfl, g1, g2, g3⟩ := hI
      obtain ⟨rfl, hkn⟩ := rng_get _ k d hk
      rw [Nat.zero_add] at g1 g2 ⊢
      obtain ⟨ws, s3, b5, b6, e, g4, g5⟩ := row_step (p := 1 + k1) (n := 1 + k2) (k := k) (rows := rows) (by omega) (by omega) (by omega) hkn (by omega) g1 (by omega) a5 a6 a7 a8
      refine ⟨_, _, rfl, e, s3, _, b5, b6, a7, a8, rows ++ [ws], rfl, g4.mono (by omega), by rw [List.length_append, g2]; rfl, fun j vs hj => ?_⟩
      by_cases hjl : j < rows.length
      · rw [List.getElem?_append_left hjl] at hj
        exact g3 j vs hj
      · rw [List.getElem?_append_right (by omega)] at hj
        have hj0 : j - rows.length = 0 := by
          have := (List.getElem?_eq_some_iff.mp hj).1
          simp at this
          omega
        rw [hj0] at hj
        cases hj
        have : j = k := by omega
        rw [this]
        exact g5) ⟨s2, .un, .un, .un, .un, .un, [], rfl, h2, rfl, fun j ws z => by simp at z⟩
  obtain ⟨ρ', e, s', a4, a5, a6, a7, a8, rows, rfl, g1, g2, g3⟩ := inv
  rw [rng_len, Nat.zero_add] at g1 g2
  refine ⟨.tup [dI (1 + k1), .lst (rows.map rowD)], s', [.dat (dI (1 + k1)), .dat (dI (1 + k2)), .dat (.lst (rows.map rowD)), a4, a5, a6, a7, a8], ?_, Nat.zero_le _, g1.mono (by omega), 1 + k1, rows, ⟨by omega, by omega, by omega, by omega, by rw [g2]; exact g3⟩, rfl⟩
  have b : d__law_case [s, .un, .un, .un, .un, .un, .un, .un, .un] = some (.rt (.tup [dI (1 + k1), .lst (rows.map rowD)]), [s', .dat (dI (1 + k1)), .dat (dI (1 + k2)), .dat (.lst (rows.map rowD)), a4, a5, a6, a7, a8]) := by
    refine seqE (parE (mDatE (binE (d := dI 1) rfl e1 (add_ok 1 k1)) (mDatE (binE (d := dI 1) rfl e2 (add_ok 1 k2)) (mNewE (newE rfl rfl (by decide)) rfl))) rfl) ?_
    refine seqE (forE (sRng_ok rfl (by omega)) rfl e) (seqE rfl ?_)
    exact retE (dispE (consE rfl (consE rfl rfl)) rfl (show 2 ≤ sLn by decide))
  show frD (d__law_case [s, .un, .un, .un, .un, .un, .un, .un, .un]) = _
  rw [b]
  rfl
end SC

set_option Elab.async false
set_option linter.all false
set_option maxRecDepth 100000
namespace SC
open PySem PySem.Spec PyProof.Rows L2

/-! ### texts of plans -/
abbrev St (l : List Nat) : Str := SX.S l
def numS (n : Nat) : D := .str (St (TL.numL n))
theorem dStr_nat {n : Nat} (h : n < 2 ^ 21) : dStr [dI n] = some (numS n) := by
  have h1 : (n : Int).natAbs.log2 < 1920 := by
    rw [Int.natAbs_natCast]
    have := log2_le h
    omega
  simp only [dStr, if_pos h1]
  rw [show (toString (n : Int) : Str) = St (TL.numL n) from TL.ext_tl (TL.tl_num n)]
  rfl
theorem numL_le2 {n : Nat} (h : n ≤ 99) : (TL.numL n).length ≤ 2 := TL.numL_len (k := 2) (by decide) (by omega)
theorem joinL_len (S : List Nat) : ∀ ps : List (List Nat), (TL.joinL S ps).length ≤ (ps.map List.length).sum + ps.length * S.length
  | [] => by simp [TL.joinL]
  | [p] => by simp [TL.joinL]
  | p :: q :: r => by
    have ih := joinL_len S (q :: r)
    simp only [TL.joinL, List.length_append, List.map_cons, List.sum_cons, List.length_cons, Nat.add_mul, Nat.one_mul] at ih ⊢
    omega
theorem lenS_sum {A : Nat} : ∀ (ps : List (List Nat)), (∀ p ∈ ps, p.length ≤ A) → (ps.map List.length).sum ≤ ps.length * A
  | [], _ => by simp
  | p :: ps, h => by
    have h1 := h p List.mem_cons_self
    have ih := lenS_sum ps fun q hq => h q (List.mem_cons_of_mem _ hq)
    simp only [List.map_cons, List.sum_cons, List.length_cons, Nat.add_mul, Nat.one_mul]
    omega
theorem strsD_map : ∀ zs : List Str, strsD (zs.map .str) = some zs
  | [] => rfl
  | z :: zs => by show (strsD (zs.map .str)).map (z :: ·) = _; rw [strsD_map zs]; rfl
theorem join_ok {sep : List Nat} {ps : List (List Nat)} {A : Nat} (h : ∀ p ∈ ps, p.length ≤ A) (hA : ps.length * A + ps.length * sep.length ≤ 16777216) :
    smJoin (St sep) (.lst (ps.map fun p => .str (St p))) = some (.str (St (TL.joinL sep ps))) := by
  have e : (ps.map fun p => D.str (St p)) = (ps.map St).map .str := by rw [List.map_map]; rfl
  have hs : ((ps.map St).map (·.length)).sum + (ps.map St).length * (St sep).length ≤ 16777216 := by
    rw [SX.lens, List.length_map, SX.S_len]
    have h3 : (ps.map fun (x : List Nat) => x.length).sum ≤ ps.length * A := lenS_sum ps h
    omega
  simp only [smJoin, seqS, e, strsD_map, if_pos hs]
  congr 2
  refine TL.ext_tl ?_
  rw [TL.join_eq, TL.tl_join, SX.map_S_tl]
def lineL (ws : List Nat) : List Nat := TL.joinL [32] (ws.map TL.numL)
theorem line_len {ws : List Nat} (h : ∀ w ∈ ws, w ≤ 20) : (lineL ws).length ≤ 3 * ws.length := by
  have h1 := joinL_len [32] (ws.map TL.numL)
  have h2 := lenS_sum (A := 2) (ws.map TL.numL) (fun p hp => by
    obtain ⟨w, hw, rfl⟩ := List.mem_map.mp hp
    exact numL_le2 (Nat.le_trans (h w hw) (by decide)))
  simp only [List.length_map, List.length_cons, List.length_nil] at h1 h2
  unfold lineL
  omega
theorem joinL_nil : ∀ ps : List (List Nat), TL.joinL [] ps = ps.flatten
  | [] => rfl
  | [p] => by simp [TL.joinL]
  | p :: q :: r => by
    show p ++ ([] ++ TL.joinL [] (q :: r)) = _
    rw [joinL_nil (q :: r)]
    simp
theorem flat_join : ∀ (l : List Nat) (ls : List (List Nat)), ((l :: ls).map (· ++ [10])).flatten = TL.joinL [10] (l :: ls) ++ [10]
  | l, [] => by simp [TL.joinL]
  | l, m :: ls => by
    have ih := flat_join m ls
    rw [List.map_cons, List.flatten_cons, ih]
    simp [TL.joinL]
/-- the separator is not in it -/
theorem numL_no {n c : Nat} (h : c < 48) : c ∉ TL.numL n := TL.numL_free (.inl h)
theorem join_no {c : Nat} {sep : List Nat} (hs : c ∉ sep) : ∀ ps : List (List Nat), (∀ p ∈ ps, c ∉ p) → c ∉ TL.joinL sep ps
  | [], _ => by simp [TL.joinL]
  | [p], h => h p List.mem_cons_self
  | p :: q :: r, h => by
    have ih := join_no hs (q :: r) fun z hz => h z (List.mem_cons_of_mem _ hz)
    have h1 := h p List.mem_cons_self
    simp only [TL.joinL, List.mem_append, not_or]
    exact ⟨h1, hs, ih⟩
theorem line_no (ws : List Nat) : 10 ∉ lineL ws := join_no (by decide) _ fun p hp => by
  obtain ⟨w, _, rfl⟩ := List.mem_map.mp hp
  exact numL_no (by decide)
theorem split_ok {c : Nat} {ps : List (List Nat)} (hc : c < 256) (hne : ps ≠ []) (h : ∀ p ∈ ps, c ∉ p) : Txt.split (St (TL.joinL [c] ps)) (St [c]) = ps.map St := by
  have e : St (TL.joinL [c] ps) = Txt.join (St [c]) (ps.map St) := TL.ext_tl (by rw [TL.join_eq, TL.tl_join, SX.map_S_tl])
  rw [e]
  refine TL.split_join (s := c) (S := []) rfl ?_ (fun z => hne (List.map_eq_nil_iff.mp z)) fun p hp => ?_
  · exact SX.all256 (by simp [hc])
  · obtain ⟨q, hq, rfl⟩ := List.mem_map.mp hp
    exact h q hq
theorem starts_ok (a b : List Nat) : Txt.startswith (St (a ++ b)) (St a) = true := by
  unfold Txt.startswith
  rw [SX.S_len, SX.S_len, Bool.and_eq_true]
  refine ⟨decide_eq_true (by rw [List.length_append]; omega), ?_⟩
  rw [PySem.StrLaws.subAt_eq, SX.S_len]
  show ((((a ++ b).drop 0).take a.length) == a) = true
  rw [List.drop_zero, List.take_left]
  exact beq_self_eq_true _
theorem ends_ok (a b : List Nat) : Txt.endswith (St (a ++ b)) (St b) = true := by
  unfold Txt.endswith
  rw [SX.S_len, SX.S_len, Bool.and_eq_true]
  refine ⟨decide_eq_true (by rw [List.length_append]; omega), ?_⟩
  rw [PySem.StrLaws.subAt_eq, SX.S_len]
  show ((((a ++ b).drop ((a ++ b).length - b.length)).take b.length) == b) = true
  rw [List.length_append, Nat.add_sub_cancel, List.drop_left, List.take_length]
  exact beq_self_eq_true _
theorem mid_ok (a m : List Nat) (c : Nat) (ha : a.length = 9) : Txt.slice (St (a ++ m ++ [c])) (some 9) (some (-1)) = St m := by
  rw [← C8.cutS_slice]
  refine TL.ext_tl ?_
  unfold L2.cutS
  show (((a ++ m ++ [c]).drop (HT.sIx (St (a ++ m ++ [c])).length 0 (some 9))).take (HT.sIx (St (a ++ m ++ [c])).length (St (a ++ m ++ [c])).length (some (-1)) - HT.sIx (St (a ++ m ++ [c])).length 0 (some 9))) = m
  have hl : (St (a ++ m ++ [c])).length = 9 + m.length + 1 := by rw [SX.S_len]; simp [ha]; omega
  have h1 : HT.sIx (9 + m.length + 1) 0 (some 9) = 9 := by simp [HT.sIx]; omega
  have h2 : HT.sIx (9 + m.length + 1) (9 + m.length + 1) (some (-1)) = 9 + m.length := by simp [HT.sIx]; omega
  rw [hl, h1, h2, Nat.add_sub_cancel_left, List.append_assoc, ← ha, List.drop_left, List.take_left]
end SC

set_option Elab.async false
set_option linter.all false
set_option maxRecDepth 100000
namespace SC
open PySem PySem.Spec PyProof.Rows L2

/-! ### checks of plans -/
theorem isiE {g : D → Option Bool} {fa : FE} {ρ ρ1 : Ev} {o : Opd} {d : D} {b : Bool} (h : fa ρ = some (o, ρ1)) (hd : o.get ρ1 = some d) (hg : g d = some b) : fIsi g fa ρ = some (.dat (.bl b), ρ1) := by
  simp only [fIsi, h, hd, hg]
theorem chainT {g g' : D → D → Option D} {fa fb fc : FE} {ρ ρ1 ρ2 ρ3 : Ev} {d e f r : D} (h1 : fa ρ = some (.dat d, ρ1)) (h2 : fb ρ1 = some (.dat e, ρ2)) (hg : g d e = some (.bl true)) (h3 : fc ρ2 = some (.dat f, ρ3)) (hg' : g' e f = some r) : fChain g g' fa fb fc ρ = some (.dat r, ρ3) := by
  simp only [fChain, h1, h2, hg, h3, hg']
theorem chainF {g g' : D → D → Option D} {fa fb fc : FE} {ρ ρ1 ρ2 : Ev} {d e : D} (h1 : fa ρ = some (.dat d, ρ1)) (h2 : fb ρ1 = some (.dat e, ρ2)) (hg : g d e = some (.bl false)) : fChain g g' fa fb fc ρ = some (.dat (.bl false), ρ2) := by
  simp only [fChain, h1, h2, hg]
theorem le_nat (a b : Nat) : dCmp (fun i j => decide (i ≤ j)) (dI a) (dI b) = some (.bl (decide (a ≤ b))) := by
  simp only [dCmp, Int.ofNat_le]
theorem gt_nat (a b : Nat) : dCmp (fun i j => decide (j < i)) (dI a) (dI b) = some (.bl (decide (b < a))) := by
  simp only [dCmp, Int.ofNat_lt]
theorem isint_ok (a : Nat) : Ret g_is_integer [.dat (dI a)] (.bl true) := ⟨[.dat (dI a)], rfl, Nat.le_refl _⟩
theorem btw_ok {a lo hi : Nat} (h1 : lo ≤ a) (h2 : a ≤ hi) : Ret g_is_between [.dat (dI a), .dat (dI lo), .dat (dI hi)] (.bl true) := by
  refine ⟨[.dat (dI a), .dat (dI lo), .dat (dI hi)], ?_, Nat.le_refl _⟩
  have b : d_is_between [.dat (dI a), .dat (dI lo), .dat (dI hi)] = some (.rt (.bl true), [.dat (dI a), .dat (dI lo), .dat (dI hi)]) :=
    retE (andVT (testE (callD1 rfl (isint_ok a))) (chainT rfl rfl ((le_nat lo a).trans (by rw [decide_eq_true h1])) rfl ((le_nat a hi).trans (by rw [decide_eq_true h2]))))
  show frD (d_is_between [.dat (dI a), .dat (dI lo), .dat (dI hi)]) = _
  rw [b]
  rfl
theorem allB_true {α : Type} (l : List α) : allB (l.map fun _ => D.bl true) = some (l.map fun _ => true) := by
  have := allB_map (l.map fun _ => true)
  rw [List.map_map] at this
  exact this
theorem dAll_true {α : Type} (l : List α) : dAll [.lst (l.map fun _ => D.bl true)] = some (.bl true) := by
  simp only [dAll, allB_true, Option.map_some]
  simp
theorem slcTo {fa fb : FE} {ρ ρ1 ρ2 : Ev} {ds : List D} {k : Nat} (h1 : fa ρ = some (.dat (.tup ds), ρ1)) (h2 : fb ρ1 = some (.dat (dI k), ρ2)) (hk : k ≤ ds.length) : fSlc fa fNoPart (fPart fb) ρ = some (.dat (.tup (ds.take k)), ρ2) := by
  simp only [fSlc, h1, fNoPart, fPart, h2, Opd.get, dSlc, cut_lo hk]
theorem slcFrom {fa fb : FE} {ρ ρ1 ρ2 : Ev} {ds : List D} {k : Nat} (h1 : fa ρ = some (.dat (.tup ds), ρ1)) (h2 : fb ρ1 = some (.dat (dI k), ρ2)) (hk : k ≤ ds.length) : fSlc fa (fPart fb) fNoPart ρ = some (.dat (.tup (ds.drop k)), ρ2) := by
  simp only [fSlc, h1, fNoPart, fPart, h2, Opd.get, dSlc, cut_hi hk]
theorem row_len {p n i : Nat} {ws : List Nat} (h : Row p n i ws) : (nl ws).length = p + n := by rw [nl, List.length_map, h.len]
theorem itmE {fa : FE} {ρ ρ1 : Ev} {o : Opd} {d : D} {ds : List D} (h : fa ρ = some (o, ρ1)) (hd : o.get ρ1 = some d) (hw : walkD d = some ds) : sItm fa ρ = some (ds, [o], ρ1) := by
  simp only [sItm, h, hd, hw]
theorem lenD' {c : Nat} {g : FG} {fa : FE} {ρ ρ1 : Ev} {d r : D} (h : fa ρ = some (.dat d, ρ1)) (hi : insOf (some d) = none) (hl : dLen [d] = some r) : fLen c g fa ρ = some (.dat r, ρ1) := by
  simp only [fLen, h, Opd.get, hi]
  exact bltE (consE h rfl) rfl hl
theorem isrow_ok {p n i : Nat} {ws : List Nat} (hp : p ≤ 4) (hn : n ≤ 4) (hi : i < n) (h : Row p n i ws) : Ret g_is_row [.dat (rowD ws), .dat (dI p), .dat (dI n), .dat (dI i)] (.bl true) := by
  have hl := row_len h
  refine ⟨[.dat (rowD ws), .dat (dI p), .dat (dI n), .dat (dI i), .un], ?_, by simp⟩
  have hlen : dLen [rowD ws] = some (dI (p + n)) := by
    show some (D.int ((nl ws).length : Nat)) = _
    rw [hl]
  have lc : nLc [4] (.nm 4) (sItm (fVar 0)) (fYes) (fCall g_is_between [] (fCons (fVar 4) (fCons (fC (.int 0)) (fCons (fC (.int 20)) (fNil))))) [.dat (rowD ws), .dat (dI p), .dat (dI n), .dat (dI i), .un] = some ((nl ws).map fun _ => .bl true, [.dat (rowD ws), .dat (dI p), .dat (dI n), .dat (dI i), .un]) :=
    nLc_map (fun _ => .bl true) (itmE rfl rfl rfl) (getAll_dat _) (by rw [show ((nl ws).length) = p + n from hl]; exact Nat.le_trans (Nat.add_le_add hp hn) (by decide)) (fun d hd => by
      obtain ⟨w, hw, rfl⟩ := List.mem_map.mp hd
      exact ⟨[.dat (rowD ws), .dat (dI p), .dat (dI n), .dat (dI i), .dat (dI w)], rfl, _, callD3 rfl rfl rfl (btw_ok (lo := 0) (hi := 20) (Nat.zero_le _) (h.le w hw)), rfl⟩)
  have hz : dIdx (rowD ws) (dI (p + i)) = some (dI 0) := idx_natT (by rw [List.getElem?_map, h.own]; rfl)
  have hs : dSum [.tup ((nl ws).take p)] = some (dI (ws.take p).sum) := by
    rw [nl, ← List.map_take]
    exact dSum_tup _
  have b : d_is_row [.dat (rowD ws), .dat (dI p), .dat (dI n), .dat (dI i), .un] = some (.rt (.bl true), [.dat (rowD ws), .dat (dI p), .dat (dI n), .dat (dI i), .un]) := by
    refine seqE (ifF (orF (notE (testE (isiE (d := rowD ws) (b := true) rfl rfl rfl))) (testE (binE (lenD' rfl rfl hlen) (binE rfl rfl (add_ok p n)) ((ne_nat _ _).trans (by rw [decide_eq_true rfl]; rfl))))) rfl) ?_
    refine seqE (ifF (notE (testE (bltE (ds := [.lst ((nl ws).map fun _ => .bl true)]) (consE (fnewE lc) rfl) rfl (dAll_true _)))) rfl) ?_
    exact retE (andVT (testE (binE (bltE (ds := [.tup ((nl ws).take p)]) (consE (slcTo rfl rfl (by rw [show (List.map (fun (w : Nat) => D.int (w : Int)) ws).length = p + n from hl]; omega)) rfl) rfl hs) (e := dI 0) rfl ((gt_nat _ _).trans (by rw [decide_eq_true h.pos])))) (binE (binE rfl (binE rfl rfl (add_ok p i)) hz) (e := dI 0) rfl ((eq_nat 0 0).trans rfl)))
  show frD (d_is_row [.dat (rowD ws), .dat (dI p), .dat (dI n), .dat (dI i), .un]) = _
  rw [b]
  rfl
theorem enumD_len (ds : List D) (k : Nat) : (enumD k ds).length = ds.length := enumD_length ds k
theorem arerows_ok {p : Nat} {rows : List (List Nat)} (h : VP p rows) {d : D} (hd : seqD d = some (rows.map rowD)) (hl : dLen [d] = some (dI rows.length)) : Ret g_are_rows [.dat d, .dat (dI p)] (.bl true) := by
  refine ⟨[.dat d, .dat (dI p), .un, .un], ?_, by simp⟩
  have hsrc : sEnm (fCons (fVar 0) fNil) [.dat d, .dat (dI p), .un, .un] = some (enumD 0 (rows.map rowD), [.dat d], [.dat d, .dat (dI p), .un, .un]) := by
    simp only [sEnm, fCons, fVar, fNil, List.getElem?_cons_zero, Opd.get, hd]
  have lc : nLc [2, 3] (.tp [2, 3]) (sEnm (fCons (fVar 0) (fNil))) (fYes) (fCall g_is_row [] (fCons (fVar 3) (fCons (fVar 1) (fCons (fBlt dLen (fCons (fVar 0) fNil)) (fCons (fVar 2) (fNil)))))) [.dat d, .dat (dI p), .un, .un] = some (rows.map fun _ => .bl true, [.dat d, .dat (dI p), .un, .un]) :=
    nLc_ix (rows.map fun _ => .bl true) hsrc (getAll_dat _) (by rw [enumD_len, List.length_map]; exact Nat.le_trans h.n4 (by decide)) (by rw [enumD_len, List.length_map, List.length_map]) (fun k e y hk hy => by
      rw [enumD_get, List.getElem?_map] at hk
      obtain ⟨e1, h1, rfl⟩ := Option.map_eq_some_iff.mp hk
      obtain ⟨ws, h2, rfl⟩ := Option.map_eq_some_iff.mp h1
      rw [List.getElem?_map, h2] at hy
      cases hy
      rw [Nat.zero_add]
      refine ⟨[.dat d, .dat (dI p), .dat (dI k), .dat (rowD ws)], _, rfl, callD4 rfl rfl (bltE (ds := [d]) (consE rfl rfl) rfl hl) rfl (isrow_ok h.p4 h.n4 (List.getElem?_eq_some_iff.mp h2).1 (h.row k ws h2)), rfl⟩)
  have b : d_are_rows [.dat d, .dat (dI p), .un, .un] = some (.rt (.bl true), [.dat d, .dat (dI p), .un, .un]) :=
    retE (bltE (ds := [.lst (rows.map fun _ => .bl true)]) (consE (fnewE lc) rfl) rfl (dAll_true _))
  show frD (d_are_rows [.dat d, .dat (dI p), .un, .un]) = _
  rw [b]
  rfl
theorem row_tm {p n i : Nat} {ws : List Nat} (h : Row p n i ws) : Tm 1 ((p + n) * 642 + 3) (rowD ws) := by
  have := tm_tup (k := 0) (w := 640) (ds := nl ws) (fun d hd => by
    obtain ⟨w, hw, rfl⟩ := List.mem_map.mp hd
    exact tm_nat (L := 5) (Nat.lt_of_le_of_lt (h.le w hw) (by decide)) (by decide))
  rw [row_len h] at this
  exact this
theorem rows_mem {p : Nat} {rows : List (List Nat)} (h : VP p rows) : ∀ d ∈ rows.map rowD, Tm 1 5200 d := fun d hd => by
  obtain ⟨ws, hw, rfl⟩ := List.mem_map.mp hd
  obtain ⟨i, hi⟩ := List.mem_iff_getElem?.mp hw
  refine (row_tm (h.row i ws hi)).mono (Nat.le_refl _) ?_
  have := h.p4
  have := h.n4
  omega
theorem rows_tm {p : Nat} {rows : List (List Nat)} (h : VP p rows) : Tm 2 20900 (.tup (rows.map rowD)) := by
  refine (tm_tup (rows_mem h)).mono (Nat.le_refl _) ?_
  rw [List.length_map]
  have := h.n4
  omega
theorem seq_lst (ds : List D) : seqD (.lst ds) = some ds := rfl
theorem callI_ok {p : Nat} {rows : List (List Nat)} (h : VP p rows) : i_Plan___init__ (dI p :: rows.map rowD) = some [dI p, .tup (rows.map rowD)] := by
  have hlen : (dI p :: rows.map rowD).length = rows.length + 1 := by simp
  show initS 0 1 g_Plan___init__ (dI p :: rows.map rowD) = _
  unfold initS
  rw [if_pos ⟨by rw [hlen]; omega, by rw [hlen]; exact Nat.le_trans (Nat.succ_le_succ h.n4) (by decide)⟩]
  have hg : Ret g_are_rows [.dat (.tup (rows.map rowD)), .dat (dI p)] (.bl true) := arerows_ok h rfl (by show some (D.int ((rows.map rowD).length : Nat)) = _; rw [List.length_map])
  have hne : dEq (.tup (rows.map rowD)) (.tup []) = some (.bl false) := by
    obtain ⟨ws, rs, e⟩ : ∃ ws rs, rows = ws :: rs := by
      cases hr : rows with
      | nil => have := h.n1; rw [hr] at this; simp at this
      | cons a b => exact ⟨a, b, rfl⟩
    obtain ⟨q, e1, t1⟩ := rows_tm h
    have s1 : shD (.tup (rows.map rowD)) = true := Tm.sh ⟨q, e1, t1⟩ (by decide)
    have s2 : shD (.tup []) = true := rfl
    have e3 : eqD (.tup (rows.map rowD)) (.tup []) = false := by
      rw [e, List.map_cons] at e1 ⊢
      simp only [toP, toPs] at e1
      cases h4 : toP (rowD ws) with
      | none => rw [h4] at e1; simp at e1
      | some p1 =>
        cases h5 : toPs (rs.map rowD) with
        | none => rw [h4, h5] at e1; simp at e1
        | some p2 =>
          simp only [eqD, toP, toPs, h4, h5, Option.map_some]
          simp [PyData.eqv, PyData.eqvAll]
    simp only [dEq, s1, s2, e3]
    rfl
  have hle : dLen [.tup (rows.map rowD)] = some (dI rows.length) := by
    show some (D.int ((rows.map rowD).length : Nat)) = _
    rw [List.length_map]
  have b : d_Plan___init__ [.obj 0 [], .dat (dI p), .dat (.tup (rows.map rowD))] = some (.nx, [.obj 0 [dI p, .tup (rows.map rowD)], .dat (dI p), .dat (.tup (rows.map rowD))]) := by
    refine seqE (ifF (notE (testE (callD3 rfl rfl rfl (btw_ok (lo := 1) (hi := 4) h.p1 h.p4)))) rfl) ?_
    refine seqE (ifF (testE (binE (bltE (ds := [.tup (rows.map rowD)]) (consE rfl rfl) rfl hle) (e := dI 4) rfl ((gt_nat _ _).trans (by rw [decide_eq_false (by have := h.n4; omega)])))) rfl) ?_
    refine seqE (ifF (orF (testE (binE rfl (dispE (c := .tup) (ds := []) rfl rfl (by decide)) hne)) (notE (testE (callD2 rfl rfl hg)))) rfl) ?_
    rfl
  show outI 0 (frD (d_Plan___init__ [.obj 0 [], .dat (dI p), .dat (.tup (rows.map rowD))])) = _
  rw [b]
  rfl
def planD (p : Nat) (rows : List (List Nat)) : D := .ins 0 [dI p, .tup (rows.map rowD)]
end SC

set_option Elab.async false
set_option linter.all false
set_option maxRecDepth 100000
namespace SC
open PySem PySem.Spec PyProof.Rows L2

/-! ### reading a plan's text -/
def numChk (n : Nat) : Bool := match g_number_in [.dat (numS n)] with
  | some (d, o) => D.beq d (dI n) && decide (1 ≤ o.length)
  | none => false
theorem num_all : ((List.range 21).all numChk) = true := by kernel_rfl
theorem num_ok {n : Nat} (h : n ≤ 20) : Ret g_number_in [.dat (numS n)] (dI n) := by
  have h1 := List.all_eq_true.mp num_all n (List.mem_range.mpr (by omega))
  unfold numChk at h1
  split at h1
  · rename_i d o e
    rw [Bool.and_eq_true] at h1
    exact ⟨o, by rw [e, D.beq_eq h1.1], of_decide_eq_true h1.2⟩
  · cases h1
theorem smE {g : SM} {fo fe : FE} {ρ ρ1 ρ2 : Ev} {z : Str} {o : Opd} {d y : D} (h1 : fo ρ = some (.dat (.str z), ρ1)) (h2 : fe ρ1 = some (o, ρ2)) (h3 : o.get ρ2 = some d) (hg : g z d = some y) : fSM g fo fe ρ = some (.dat y, ρ2) := by
  simp only [fSM, h1, h2, h3, hg]
def Hd : List Nat := [112, 114, 111, 100, 117, 99, 116, 115, 32]
theorem hd_eq : (Str.ofString "products ") = St Hd := by decide +kernel
theorem nl_eq : (Str.ofString "\n") = St [10] := by decide +kernel
theorem sp_eq : (Str.ofString " ") = St [32] := by decide +kernel
theorem em_eq : (Str.ofString "") = St [] := by decide +kernel
def partsL (p : Nat) (rows : List (List Nat)) : List (List Nat) := TL.numL p :: rows.map lineL
def bodyL (p : Nat) (rows : List (List Nat)) : List Nat := TL.joinL [10] (partsL p rows)
def textL (p : Nat) (rows : List (List Nat)) : List Nat := Hd ++ bodyL p rows ++ [10]
theorem row_line {p : Nat} {rows : List (List Nat)} (h : VP p rows) : ∀ l ∈ rows.map lineL, l.length ≤ 24 := fun l hl => by
  obtain ⟨ws, hw, rfl⟩ := List.mem_map.mp hl
  obtain ⟨i, hi⟩ := List.mem_iff_getElem?.mp hw
  have r := h.row i ws hi
  have h1 := line_len r.le
  have h2 := r.len
  have := h.p4
  have := h.n4
  omega
theorem parts_len {p : Nat} {rows : List (List Nat)} (h : VP p rows) : ∀ l ∈ partsL p rows, l.length ≤ 24 := fun l hl => by
  rcases List.mem_cons.mp hl with rfl | z
  · have := numL_le2 (n := p) (Nat.le_trans h.p4 (by decide)); omega
  · exact row_line h l z
theorem body_len {p : Nat} {rows : List (List Nat)} (h : VP p rows) : (bodyL p rows).length ≤ 125 := by
  have h1 := joinL_len [10] (partsL p rows)
  have h2 := lenS_sum (partsL p rows) (parts_len h)
  have h3 : (partsL p rows).length = rows.length + 1 := by simp [partsL]
  have := h.n4
  unfold bodyL
  simp only [List.length_cons, List.length_nil] at h1
  rw [h3] at h1 h2
  omega
theorem parts_no {p : Nat} {rows : List (List Nat)} : ∀ l ∈ partsL p rows, 10 ∉ l := fun l hl => by
  rcases List.mem_cons.mp hl with rfl | z
  · exact numL_no (by decide)
  · obtain ⟨ws, _, rfl⟩ := List.mem_map.mp z
    exact line_no ws
/-- the rows read -/
theorem rows_read {p : Nat} {rows : List (List Nat)} (h : VP p rows) (a0 a1 a2 a4 a5 a6 a7 : Sl) :
    nLc [6] (.nm 6) (sItm (fVar 3)) (fYes) (fBlt dTuple (fCons (fNew (nLc [7] (.nm 7) (sItm (fSM smSplit (fVar 6) (fC (.str " ")))) (fYes) (fCall g_number_in [] (fCons (fVar 7) (fNil))))) (fNil))) [a0, a1, a2, .dat (.lst ((rows.map lineL).map fun l => .str (St l))), a4, a5, a6, a7]
      = some (rows.map rowD, [a0, a1, a2, .dat (.lst ((rows.map lineL).map fun l => .str (St l))), a4, a5, a6, a7]) :=
  nLc_ix (rows.map rowD) (itmE rfl rfl rfl) (getAll_dat _) (by rw [List.length_map, List.length_map]; exact Nat.le_trans h.n4 (by decide)) (by rw [List.length_map, List.length_map, List.length_map]) (fun k d y hk hy => by
    rw [List.getElem?_map, List.getElem?_map] at hk
    obtain ⟨l, h1, rfl⟩ := Option.map_eq_some_iff.mp hk
    obtain ⟨ws, h2, rfl⟩ := Option.map_eq_some_iff.mp h1
    rw [List.getElem?_map, h2] at hy
    cases hy
    have r := h.row k ws h2
    have hlen : (lineL ws).length ≤ 24 := row_line h _ (List.mem_map.mpr ⟨ws, List.mem_of_getElem? h2, rfl⟩)
    have hne : ws.map TL.numL ≠ [] := fun z => by
      have := congrArg List.length z
      rw [List.length_map, r.len, List.length_nil] at this
      have := h.p1
      omega
    have hsp : smSplit (St (lineL ws)) (.str (Str.ofString " ")) = some (.lst ((ws.map TL.numL).map fun l => .str (St l))) := by
      have hc : ((Str.ofString " ").length == 0) = false ∧ (St (lineL ws)).length + 2 ≤ sLn := ⟨by decide +kernel, by rw [SX.S_len]; exact Nat.le_trans (Nat.add_le_add_right hlen 2) (by decide)⟩
      simp only [smSplit, if_pos hc]
      rw [sp_eq]
      unfold lineL
      rw [split_ok (by decide) hne (fun q hq => by
        obtain ⟨w, _, rfl⟩ := List.mem_map.mp hq
        exact numL_no (by decide)), List.map_map]
      rfl
    have lc : nLc [7] (.nm 7) (sItm (fSM smSplit (fVar 6) (fC (.str " ")))) (fYes) (fCall g_number_in [] (fCons (fVar 7) (fNil))) [a0, a1, a2, .dat (.lst ((rows.map lineL).map fun l => .str (St l))), a4, a5, .dat (.str (St (lineL ws))), a7] = some (nl ws, [a0, a1, a2, .dat (.lst ((rows.map lineL).map fun l => .str (St l))), a4, a5, .dat (.str (St (lineL ws))), a7]) :=
      nLc_ix (nl ws) (itmE (smE rfl rfl rfl hsp) rfl rfl) (getAll_dat _) (by rw [List.length_map, List.length_map, r.len]; exact Nat.le_trans (Nat.add_le_add h.p4 h.n4) (by decide)) (by rw [List.length_map, List.length_map, nl, List.length_map]) (fun i d y hd hy => by
        rw [List.getElem?_map, List.getElem?_map] at hd
        obtain ⟨l, h3, rfl⟩ := Option.map_eq_some_iff.mp hd
        obtain ⟨w, h4, rfl⟩ := Option.map_eq_some_iff.mp h3
        rw [nl, List.getElem?_map, h4] at hy
        cases hy
        exact ⟨[a0, a1, a2, .dat (.lst ((rows.map lineL).map fun l => .str (St l))), a4, a5, .dat (.str (St (lineL ws))), .dat (numS w)], _, rfl, callD1 rfl (num_ok (r.le w (List.mem_of_getElem? h4))), rfl⟩)
    exact ⟨[a0, a1, a2, .dat (.lst ((rows.map lineL).map fun l => .str (St l))), a4, a5, .dat (.str (St (lineL ws))), a7], _, rfl, bltE (ds := [.lst (nl ws)]) (consE (fnewE lc) rfl) rfl rfl, rfl⟩)
theorem star_ok : ∀ ds : List D, datAll (ds.map Opd.dat ++ []) = some ds
  | [] => rfl
  | d :: ds => by
    show (datAll (ds.map Opd.dat ++ [])).map (d :: ·) = _
    rw [star_ok ds]
    rfl
theorem starE {i : Nat} {j : Nat} {fe : FE} {ρ ρ1 : Ev} {d : D} {ds : List D} (h : fe ρ = some (.dat (.lst (d :: ds)), ρ1)) : bStar i j fe ρ = some (.nx, (ρ1.set i (.dat d)).set j (.dat (.lst ds))) := by
  simp only [bStar, h]
theorem read_ok {p : Nat} {rows : List (List Nat)} (h : VP p rows) : Ret g_Plan_read [.dat (.cl 0), .dat (.str (St (textL p rows)))] (planD p rows) := by
  have hb := body_len h
  have htl : (St (textL p rows)).length ≤ 135 := by
    rw [SX.S_len]
    unfold textL Hd
    simp only [List.length_append, List.length_cons, List.length_nil]
    omega
  have hz : (St (textL p rows)).length ≤ sLn := Nat.le_trans htl (by decide)
  let ls : D := .lst ((rows.map lineL).map fun l => .str (St l))
  have h1 : smStarts (St (textL p rows)) (.str (Str.ofString "products ")) = some (.bl true) := by
    simp only [smStarts]
    rw [hd_eq, textL, List.append_assoc, starts_ok]
  have h2 : smEnds (St (textL p rows)) (.str (Str.ofString "\n")) = some (.bl true) := by
    simp only [smEnds]
    rw [nl_eq, textL, ends_ok]
  have h3 : dSlc (.str (St (textL p rows))) (some 9) (some (-1)) = some (.str (St (bodyL p rows))) := by
    simp only [dSlc, if_pos hz]
    rw [textL, mid_ok Hd _ 10 rfl]
  have h4 : smSplit (St (bodyL p rows)) (.str (Str.ofString "\n")) = some (.lst (numS p :: (rows.map lineL).map fun l => .str (St l))) := by
    have hc : ((Str.ofString "\n").length == 0) = false ∧ (St (bodyL p rows)).length + 2 ≤ sLn := ⟨by decide +kernel, by rw [SX.S_len]; exact Nat.le_trans (Nat.add_le_add_right hb 2) (by decide)⟩
    simp only [smSplit, if_pos hc]
    rw [nl_eq, bodyL, split_ok (by decide) (by simp [partsL]) parts_no]
    simp [partsL, numS]
  have hlen : dLen [.str (Str.ofString "products ")] = some (.int 9) := by kernel_rfl
  have sl : fSlc (fVar 1) (fPart (fBlt dLen (fCons (fC (.str "products ")) fNil))) (fPart (fUn dNeg (fC (.int 1)))) [.dat (.cl 0), .dat (.str (St (textL p rows))), .un, .un, .un, .un, .un, .un] = some (.dat (.str (St (bodyL p rows))), [.dat (.cl 0), .dat (.str (St (textL p rows))), .un, .un, .un, .un, .un, .un]) := by
    have e1 : fBlt dLen (fCons (fC (.str "products ")) fNil) [.dat (.cl 0), .dat (.str (St (textL p rows))), .un, .un, .un, .un, .un, .un] = some (.dat (.int 9), [.dat (.cl 0), .dat (.str (St (textL p rows))), .un, .un, .un, .un, .un, .un]) := bltE (consE rfl rfl) rfl hlen
    have e2 : fUn dNeg (fC (.int 1)) [.dat (.cl 0), .dat (.str (St (textL p rows))), .un, .un, .un, .un, .un, .un] = some (.dat (.int (-1)), [.dat (.cl 0), .dat (.str (St (textL p rows))), .un, .un, .un, .un, .un, .un]) := rfl
    have e0 : fVar 1 [.dat (.cl 0), .dat (.str (St (textL p rows))), .un, .un, .un, .un, .un, .un] = some (.dat (.str (St (textL p rows))), [.dat (.cl 0), .dat (.str (St (textL p rows))), .un, .un, .un, .un, .un, .un]) := rfl
    simp only [fSlc, e0, fPart, e1, e2, Opd.get, h3]
  have hrl : dLen [.lst (rows.map rowD)] = some (dI rows.length) := by
    show some (D.int ((rows.map rowD).length : Nat)) = _
    rw [List.length_map]
  let ρ5 : Ev := [.dat (.cl 0), .dat (.str (St (textL p rows))), .dat (numS p), .dat ls, .dat (dI p), .dat (.lst (rows.map rowD)), .un, .un]
  have mk : fMakeL 0 0 i_Plan___init__ (fCons (fVar 4) (fStar (fVar 5) (fNil))) ρ5 = some (.dat (planD p rows), ρ5) := by
    have ea : fCons (fVar 4) (fStar (fVar 5) (fNil)) ρ5 = some (.dat (dI p) :: ((rows.map rowD).map Opd.dat ++ []), ρ5) := rfl
    have eb : datAll (.dat (dI p) :: ((rows.map rowD).map Opd.dat ++ [])) = some (dI p :: rows.map rowD) := by
      simp only [datAll, star_ok, Option.map_some]
    show fMake 0 i_Plan___init__ (fCons (fVar 4) (fStar (fVar 5) (fNil))) ρ5 = _
    simp only [fMake, ea, eb, callI_ok h]
    rfl
  have b : d_Plan_read [.dat (.cl 0), .dat (.str (St (textL p rows))), .un, .un, .un, .un, .un, .un] = some (.rt (planD p rows), ρ5) := by
    refine seqE (ifF (orF (notE (testE (isiE (d := .str (St (textL p rows))) (b := true) rfl rfl rfl))) (orF (notE (testE (smE rfl rfl rfl h1))) (notE (testE (smE rfl rfl rfl h2))))) rfl) ?_
    refine seqE (starE (smE sl rfl rfl h4)) ?_
    refine seqE (parE (mDatE (callD1 rfl (num_ok (Nat.le_trans h.p4 (by decide)))) (mDatE (fnewE (rows_read h (.dat (.cl 0)) (.dat (.str (St (textL p rows)))) (.dat (numS p)) .un .un .un .un)) rfl)) rfl) ?_
    refine seqE (ρ1 := ρ5) (ifF (orF (notE (testE (callD3 rfl rfl rfl (btw_ok (lo := 1) (hi := 4) h.p1 h.p4)))) (orF (notE (testE (chainT (e := dI rows.length) (f := dI 4) (d := dI 1) rfl (bltE (consE rfl rfl) rfl hrl) ((le_nat 1 _).trans (by rw [decide_eq_true h.n1])) rfl ((le_nat _ 4).trans (by rw [decide_eq_true h.n4]))))) (notE (testE (callD2 rfl rfl (arerows_ok h rfl hrl)))))) rfl) ?_
    exact retE mk
  refine ⟨ρ5, ?_, by simp [ρ5]⟩
  show frD (d_Plan_read [.dat (.cl 0), .dat (.str (St (textL p rows))), .un, .un, .un, .un, .un, .un]) = _
  rw [b]
  rfl
end SC

set_option Elab.async false
set_option linter.all false
set_option maxRecDepth 100000
namespace SC
open PySem PySem.Spec PyProof.Rows L2

/-! ### the plan made of rows; what it tells -/
theorem cmE {c : Nat} {g : FG} {fa : FA} {ρ ρ1 : Ev} {d r : D} (h : fa ρ = some ([.dat d], ρ1)) (hg : Ret g [.dat (.cl c), .dat d] r) : fCM c g fa ρ = some (.dat r, ρ1) := by
  obtain ⟨o, ho, hl⟩ := hg
  have hl' : 2 ≤ o.length := hl
  have hp := put_nil 0 ρ1 [.dat (.cl c), .dat d] o rfl
  simp [fCM, h, runG, argSl, slotsOf, ho, hp, hl']
theorem methE0 {c : Nat} {ds : List D} {g : FG} {fo : FE} {ρ ρ1 : Ev} {r : D} (h : fo ρ = some (.dat (.ins c ds), ρ1)) (hg : Ret g [.dat (.ins c ds)] r) : fMeth c g [] fo fNil ρ = some (.dat r, ρ1) := by
  obtain ⟨o, ho, hl⟩ := hg
  have hl' : 1 ≤ o.length := hl
  have hp := put_nil 0 ρ1 [.dat (.ins c ds)] o rfl
  simp [fMeth, h, Opd.get, insOf, fNil, runG, argSl, slotsOf, ho, hp, hl']
theorem lenIE {c n : Nat} {ds : List D} {g : FG} {fo : FE} {ρ ρ1 : Ev} (h : fo ρ = some (.dat (.ins c ds), ρ1)) (hg : Ret g [.dat (.ins c ds)] (dI n)) (hn : n < 1000) : fLen c g fo ρ = some (.dat (dI n), ρ1) := by
  have e := methE0 h hg
  have hb : (0 : Int) ≤ (n : Int) ∧ (n : Int) < 9223372036854775808 := by omega
  simp only [fLen, h, Opd.get, insOf, fLenI, e, if_pos hb]
theorem prows_ok (p : Nat) (rows : List (List Nat)) : Ret g_Plan_rows [.dat (planD p rows)] (.tup (rows.map rowD)) := ⟨_, rfl, Nat.le_refl _⟩
theorem pprod_ok (p : Nat) (rows : List (List Nat)) : Ret g_Plan_products [.dat (planD p rows)] (dI p) := ⟨_, rfl, Nat.le_refl _⟩
theorem plen_ok (p : Nat) (rows : List (List Nat)) : Ret g_Plan___len__ [.dat (planD p rows)] (dI rows.length) := by
  refine ⟨[.dat (planD p rows)], ?_, Nat.le_refl _⟩
  have b : d_Plan___len__ [.dat (planD p rows)] = some (.rt (dI rows.length), [.dat (planD p rows)]) :=
    retE (bltE (ds := [.tup (rows.map rowD)]) (consE rfl rfl) rfl (by show some (D.int ((rows.map rowD).length : Nat)) = _; rw [List.length_map]))
  show frD (d_Plan___len__ [.dat (planD p rows)]) = _
  rw [b]
  rfl
theorem needplan_ok (p : Nat) (rows : List (List Nat)) : Ret g_need_plan [.dat (planD p rows)] .non := ⟨_, rfl, Nat.le_refl _⟩
theorem joinL_head (a b : List Nat) : ∀ ls : List (List Nat), TL.joinL [10] ((a ++ b) :: ls) = a ++ TL.joinL [10] (b :: ls)
  | [] => rfl
  | l :: ls => by simp [TL.joinL]
theorem net_ok {p : Nat} {rows : List (List Nat)} (h : VP p rows) : Ret g__law_net [.dat (dI p), .dat (.lst (rows.map rowD))] (planD p rows) := by
  let L : List Nat := Hd ++ TL.numL p
  let Ls : List (List Nat) := L :: rows.map lineL
  have hp2 := numL_le2 (n := p) (Nat.le_trans h.p4 (by decide))
  have hL : L.length ≤ 24 := by simp [L, Hd]; omega
  have hLs : ∀ l ∈ Ls, l.length ≤ 24 := fun l hl => by
    rcases List.mem_cons.mp hl with rfl | z
    · exact hL
    · exact row_line h l z
  have hLn : Ls.length ≤ 5 := by simp [Ls]; exact h.n4
  have hs : dAdd (.str (Str.ofString "products ")) (numS p) = some (.str (St L)) := by
    have hc : (Str.ofString "products ").length + (St (TL.numL p)).length ≤ sLn := by
      rw [hd_eq, SX.S_len, SX.S_len]
      exact Nat.le_trans (show Hd.length + (TL.numL p).length ≤ 20 by simp [Hd]; omega) (by decide)
    show (if (Str.ofString "products ").length + (St (TL.numL p)).length ≤ sLn then some (D.str (Str.ofString "products " ++ St (TL.numL p))) else none) = _
    rw [if_pos hc, hd_eq, SX.S_cat]
  have lc : nLc [3] (.nm 3) (sItm (fVar 1)) (fYes) (fSM smJoin (fC (.str " ")) (fNew (nLc [5] (.nm 5) (sItm (fVar 3)) (fYes) (fBlt dStr (fCons (fVar 5) (fNil)))))) [.dat (dI p), .dat (.lst (rows.map rowD)), .un, .un, .un, .un] = some ((rows.map lineL).map fun l => .str (St l), [.dat (dI p), .dat (.lst (rows.map rowD)), .un, .un, .un, .un]) :=
    nLc_ix ((rows.map lineL).map fun l => .str (St l)) (itmE rfl rfl rfl) (getAll_dat _) (by rw [List.length_map]; exact Nat.le_trans h.n4 (by decide)) (by rw [List.length_map, List.length_map, List.length_map]) (fun k d y hk hy => by
      rw [List.getElem?_map] at hk
      obtain ⟨ws, h2, rfl⟩ := Option.map_eq_some_iff.mp hk
      rw [List.getElem?_map, List.getElem?_map, h2] at hy
      cases hy
      have r := h.row k ws h2
      have lc2 : nLc [5] (.nm 5) (sItm (fVar 3)) (fYes) (fBlt dStr (fCons (fVar 5) (fNil))) [.dat (dI p), .dat (.lst (rows.map rowD)), .un, .dat (rowD ws), .un, .un] = some ((ws.map TL.numL).map fun l => .str (St l), [.dat (dI p), .dat (.lst (rows.map rowD)), .un, .dat (rowD ws), .un, .un]) :=
        nLc_ix ((ws.map TL.numL).map fun l => .str (St l)) (itmE rfl rfl rfl) (getAll_dat _) (by rw [List.length_map, r.len]; exact Nat.le_trans (Nat.add_le_add h.p4 h.n4) (by decide)) (by rw [List.length_map, List.length_map, List.length_map]) (fun i d y hd hy => by
          rw [List.getElem?_map] at hd
          obtain ⟨w, h4, rfl⟩ := Option.map_eq_some_iff.mp hd
          rw [List.getElem?_map, List.getElem?_map, h4] at hy
          cases hy
          refine ⟨[.dat (dI p), .dat (.lst (rows.map rowD)), .un, .dat (rowD ws), .un, .dat (dI w)], _, rfl, bltE (ds := [dI w]) (consE rfl rfl) rfl (dStr_nat (Nat.lt_of_le_of_lt (r.le w (List.mem_of_getElem? h4)) (by decide))), rfl⟩)
      have hj : smJoin (Str.ofString " ") (.lst ((ws.map TL.numL).map fun l => .str (St l))) = some (.str (St (lineL ws))) := by
        rw [sp_eq]
        refine join_ok (A := 2) (fun q hq => by
          obtain ⟨w, hw, rfl⟩ := List.mem_map.mp hq
          exact numL_le2 (Nat.le_trans (r.le w hw) (by decide))) ?_
        rw [List.length_map, r.len]
        have := h.p4
        have := h.n4
        simp only [List.length_cons, List.length_nil]
        omega
      exact ⟨[.dat (dI p), .dat (.lst (rows.map rowD)), .un, .dat (rowD ws), .un, .un], _, rfl, smE rfl (fnewE lc2) rfl hj, rfl⟩)
  have hadd : dAdd (.lst [.str (St L)]) (.lst ((rows.map lineL).map fun l => .str (St l))) = some (.lst (Ls.map fun l => .str (St l))) := by
    have hc : ([D.str (St L)]).length + ((rows.map lineL).map fun l => D.str (St l)).length ≤ sLn := by
      rw [List.length_map, List.length_map]
      exact Nat.le_trans (show 1 + rows.length ≤ 5 by have := h.n4; omega) (by decide)
    simp only [dAdd, if_pos hc]
    rfl
  let ρ2 : Ev := [.dat (dI p), .dat (.lst (rows.map rowD)), .dat (.lst (Ls.map fun l => .str (St l))), .un, .un, .un]
  have lc3 : nLc [4] (.nm 4) (sItm (fVar 2)) (fYes) (fBin dAdd (fVar 4) (fC (.str "\n"))) ρ2 = some ((Ls.map (· ++ [10])).map fun l => .str (St l), ρ2) :=
    nLc_ix ((Ls.map (· ++ [10])).map fun l => .str (St l)) (itmE rfl rfl rfl) (getAll_dat _) (by rw [List.length_map]; exact Nat.le_trans hLn (by decide)) (by rw [List.length_map, List.length_map, List.length_map]) (fun k d y hk hy => by
      rw [List.getElem?_map] at hk
      obtain ⟨l, h2, rfl⟩ := Option.map_eq_some_iff.mp hk
      rw [List.getElem?_map, List.getElem?_map, h2] at hy
      cases hy
      have hll := hLs l (List.mem_of_getElem? h2)
      have ha : dAdd (.str (St l)) (.str (Str.ofString "\n")) = some (.str (St (l ++ [10]))) := by
        have hc : (St l).length + (Str.ofString "\n").length ≤ sLn := by
          rw [nl_eq, SX.S_len, SX.S_len]
          exact Nat.le_trans (show l.length + [10].length ≤ 25 by simp; omega) (by decide)
        simp only [dAdd, if_pos hc]
        rw [nl_eq, SX.S_cat]
      exact ⟨[.dat (dI p), .dat (.lst (rows.map rowD)), .dat (.lst (Ls.map fun l => .str (St l))), .un, .dat (.str (St l)), .un], _, rfl, binE rfl rfl ha, rfl⟩)
  have hj : smJoin (Str.ofString "") (.lst ((Ls.map (· ++ [10])).map fun l => .str (St l))) = some (.str (St (textL p rows))) := by
    rw [em_eq]
    have := join_ok (sep := []) (ps := Ls.map (· ++ [10])) (A := 25) (fun q hq => by
      obtain ⟨l, hl, rfl⟩ := List.mem_map.mp hq
      have := hLs l hl
      simp
      omega) (by rw [List.length_map]; simp; omega)
    rw [this, joinL_nil]
    congr 3
    show ((L :: rows.map lineL).map (· ++ [10])).flatten = _
    rw [flat_join, joinL_head]
    rfl
  have b : d__law_net [.dat (dI p), .dat (.lst (rows.map rowD)), .un, .un, .un, .un] = some (.rt (planD p rows), ρ2) := by
    refine seqE (setE (binE (d := .lst [.str (St L)]) (fnewE (newE (consE (binE rfl (bltE (ds := [dI p]) (consE rfl rfl) rfl (dStr_nat (Nat.lt_of_le_of_lt h.p4 (by decide)))) hs) rfl) rfl (show 1 ≤ sLn by decide))) (fnewE lc) hadd)) ?_
    exact retE (cmE (consE (smE (ρ2 := ρ2) rfl (fnewE lc3) rfl hj) rfl) (read_ok h))
  refine ⟨ρ2, ?_, by simp [ρ2]⟩
  show frD (d__law_net [.dat (dI p), .dat (.lst (rows.map rowD)), .un, .un, .un, .un]) = _
  rw [b]
  rfl

/-! ### costs -/
structure Co (n : Nat) (cs : List Nat) : Prop where
  len : cs.length = n
  le : ∀ c ∈ cs, c ≤ 1000000
theorem cost_c {N : Nat} {s : Sl} (ρ : Ev) (hs : PenOk N s) (hN : N + 2 < 2 ^ 60) : ∃ k s', fBin dIdx (fNew (nDisp (fCons (fC (.int 0)) (fCons (fC (.int 1)) (fCons (fC (.int 7)) (fCons (fC (.int 60)) (fCons (fC (.int 1000000)) (fCons (fCall g__law_draw [] (fCons (fVar 0) (fCons (fC (.int 1000001)) (fNil)))) (fNil))))))))) (fCall g__law_draw [] (fCons (fVar 0) (fCons (fC (.int 6)) (fNil)))) (s :: ρ) = some (.dat (dI k), s' :: ρ) ∧ PenOk (N + 2) s' ∧ k ≤ 1000000 := by
  obtain ⟨k1, s1, e1, h1, l1⟩ := draw_c 1000001 (by decide) (by decide) ρ hs (by omega) (fb := fC (.int 1000001)) rfl
  obtain ⟨k2, s2, e2, h2, l2⟩ := draw_c 6 (by decide) (by decide) ρ h1 (by omega) (fb := fC (.int 6)) rfl
  have hx : ∃ w, ([dI 0, dI 1, dI 7, dI 60, dI 1000000, dI k1] : List D)[k2]? = some (dI w) ∧ w ≤ 1000000 := by
    match k2, l2 with
    | 0, _ => exact ⟨0, rfl, by decide⟩
    | 1, _ => exact ⟨1, rfl, by decide⟩
    | 2, _ => exact ⟨7, rfl, by decide⟩
    | 3, _ => exact ⟨60, rfl, by decide⟩
    | 4, _ => exact ⟨1000000, rfl, by decide⟩
    | 5, _ => exact ⟨k1, rfl, by omega⟩
  obtain ⟨w, hw, lw⟩ := hx
  refine ⟨w, s2, ?_, h2, lw⟩
  exact binE (d := .lst [dI 0, dI 1, dI 7, dI 60, dI 1000000, dI k1]) (fnewE (newE (consE rfl (consE rfl (consE rfl (consE rfl (consE rfl (consE e1 rfl)))))) rfl (show 6 ≤ sLn by decide))) e2 (idx_nat hw)
theorem spent_dr {n : Nat} (hn : n ≤ 4) : Dr 10 g__law_spent [.dat (dI n)] (fun r => ∃ cs, Co n cs ∧ r = .tup (nl cs)) := by
  intro N s hs hN
  have inv := lc_inv (own := [2]) (p := .nm 2) (os := []) (es := []) (ft := fYes) (fe := fBin dIdx (fNew (nDisp (fCons (fC (.int 0)) (fCons (fC (.int 1)) (fCons (fC (.int 7)) (fCons (fC (.int 60)) (fCons (fC (.int 1000000)) (fCons (fCall g__law_draw [] (fCons (fVar 0) (fCons (fC (.int 1000001)) (fNil)))) (fNil))))))))) (fCall g__law_draw [] (fCons (fVar 0) (fCons (fC (.int 6)) (fNil)))))
    (fun acc ρ => ∃ (s' b2 : Sl) (cs : List Nat), ρ = [s', .dat (dI n), b2] ∧ PenOk (N + 2 * acc.length) s' ∧ acc = nl cs ∧ ∀ c ∈ cs, c ≤ 1000000) (fun _ => rfl) (rangeD 0 n) [] [s, .dat (dI n), .un] (fun k d hk acc ρ hl hI => by
      obtain ⟨s', b2, cs, rfl, h1, h2, h3⟩ := hI
      obtain ⟨_, hkp⟩ := rng_get n k d hk
      simp only [List.length_nil, Nat.zero_add] at hl
      obtain ⟨w, s2, e, h4, h5⟩ := cost_c [.dat (dI n), .dat d] h1 (by omega)
      refine ⟨_, _, dI w, _, rfl, rfl, e, s2, .dat d, cs ++ [w], rfl, ?_, ?_, ?_⟩
      · exact h4.mono (by rw [List.length_append, List.length_singleton]; omega)
      · rw [h2, nl, nl, List.map_append]; rfl
      · intro v hv
        rcases List.mem_append.mp hv with hv | hv
        · exact h3 v hv
        · rw [List.mem_singleton.mp hv]; exact h5) ⟨s, .un, [], rfl, hs, rfl, by simp⟩
  obtain ⟨out, ρ', e, ⟨s', b2, cs, rfl, h1, h2, h3⟩, hl⟩ := inv
  rw [rng_len, List.length_nil, Nat.zero_add] at hl
  have hcl : cs.length = n := by rw [← hl, h2, nl, List.length_map]
  have hsrc : sRng (fCons (fVar 1) fNil) [s, .dat (dI n), .un] = some (rangeD 0 n, [], [s, .dat (dI n), .un]) := sRng_ok rfl (by omega)
  have hlen : (rangeD 0 n).length ≤ sLn := by rw [rng_len]; exact Nat.le_trans hn (by decide)
  have lc : nLc [2] (.nm 2) (sRng (fCons (fVar 1) (fNil))) (fYes) (fBin dIdx (fNew (nDisp (fCons (fC (.int 0)) (fCons (fC (.int 1)) (fCons (fC (.int 7)) (fCons (fC (.int 60)) (fCons (fC (.int 1000000)) (fCons (fCall g__law_draw [] (fCons (fVar 0) (fCons (fC (.int 1000001)) (fNil)))) (fNil))))))))) (fCall g__law_draw [] (fCons (fVar 0) (fCons (fC (.int 6)) (fNil))))) [s, .dat (dI n), .un] = some (nl cs, [s', .dat (dI n), .un]) := by
    simp only [nLc, hsrc, getAll, if_pos hlen, e, h2]
    rfl
  refine ⟨.tup (nl cs), s', [.dat (dI n), .un], ?_, by simp, by refine h1.mono ?_; rw [hl]; omega, cs, ⟨hcl, h3⟩, rfl⟩
  have b : d__law_spent [s, .dat (dI n), .un] = some (.rt (.tup (nl cs)), [s', .dat (dI n), .un]) := retE (bltE (ds := [.lst (nl cs)]) (consE (fnewE lc) rfl) rfl rfl)
  show frD (d__law_spent [s, .dat (dI n), .un]) = _
  rw [b]
  rfl
theorem arecosts_ok {p : Nat} {rows : List (List Nat)} {cs : List Nat} (h : VP p rows) (hc : Co rows.length cs) : Ret g_are_costs [.dat (planD p rows), .dat (.tup (nl cs))] (.bl true) := by
  refine ⟨[.dat (planD p rows), .dat (.tup (nl cs)), .un], ?_, by simp⟩
  have hl : (nl cs).length = rows.length := by rw [nl, List.length_map, hc.len]
  have hlen : dLen [.tup (nl cs)] = some (dI rows.length) := by
    show some (D.int ((nl cs).length : Nat)) = _
    rw [hl]
  have lc : nLc [2] (.nm 2) (sItm (fVar 1)) (fYes) (fCall g_is_between [] (fCons (fVar 2) (fCons (fC (.int 0)) (fCons (fC (.int 1000000)) (fNil))))) [.dat (planD p rows), .dat (.tup (nl cs)), .un] = some ((nl cs).map fun _ => .bl true, [.dat (planD p rows), .dat (.tup (nl cs)), .un]) :=
    nLc_map (fun _ => .bl true) (itmE rfl rfl rfl) (getAll_dat _) (by rw [hl]; exact Nat.le_trans h.n4 (by decide)) (fun d hd => by
      obtain ⟨w, hw, rfl⟩ := List.mem_map.mp hd
      exact ⟨[.dat (planD p rows), .dat (.tup (nl cs)), .dat (dI w)], rfl, _, callD3 rfl rfl rfl (btw_ok (lo := 0) (hi := 1000000) (Nat.zero_le _) (hc.le w hw)), rfl⟩)
  have b : d_are_costs [.dat (planD p rows), .dat (.tup (nl cs)), .un] = some (.rt (.bl true), [.dat (planD p rows), .dat (.tup (nl cs)), .un]) := by
    refine seqE (ifF (orF (notE (testE (isiE (d := .tup (nl cs)) (b := true) rfl rfl rfl))) (testE (binE (lenD' rfl rfl hlen) (lenIE rfl (plen_ok p rows) (by have := h.n4; omega)) ((ne_nat _ _).trans (by rw [decide_eq_true rfl]; rfl))))) rfl) ?_
    exact retE (bltE (ds := [.lst ((nl cs).map fun _ => .bl true)]) (consE (fnewE lc) rfl) rfl (dAll_true _))
  show frD (d_are_costs [.dat (planD p rows), .dat (.tup (nl cs)), .un]) = _
  rw [b]
  rfl
theorem needcosts_ok {p : Nat} {rows : List (List Nat)} {cs : List Nat} (h : VP p rows) (hc : Co rows.length cs) : Ret g_need_costs [.dat (planD p rows), .dat (.tup (nl cs))] .non := by
  refine ⟨[.dat (planD p rows), .dat (.tup (nl cs))], ?_, Nat.le_refl _⟩
  have b : d_need_costs [.dat (planD p rows), .dat (.tup (nl cs))] = some (.nx, [.dat (planD p rows), .dat (.tup (nl cs))]) := ifF (notE (testE (callD2 rfl rfl (arecosts_ok h hc)))) rfl
  show frD (d_need_costs [.dat (planD p rows), .dat (.tup (nl cs))]) = _
  rw [b]
  rfl
end SC

set_option Elab.async false
set_option linter.all false
set_option maxRecDepth 100000
namespace SC
open PySem PySem.Spec PyProof.Rows L2

/-! ### closings: what they are -/
abbrev Fc := Nat × Nat
/-- the places that are not closed -/
def restL (n : Nat) (shut : List Nat) : List Nat := (List.range n).filter fun i => decide (i ∉ shut)
/-- the weights of those left, 0 for the others; the first has the number k -/
def maskL (left : List Nat) : Nat → List Nat → List Nat
  | _, [] => []
  | k, w :: ws => (if k ∈ left then w else 0) :: maskL left (k + 1) ws
def wtsL (p : Nat) (left ws : List Nat) : List Nat := ws.take p ++ maskL left 0 (ws.drop p)
def partsF (a : Fc) (V : List Nat) : List Fc := V.map fun w => byf a w V.sum
theorem mask_len (left : List Nat) : ∀ (k : Nat) (ws : List Nat), (maskL left k ws).length = ws.length
  | _, [] => rfl
  | k, w :: ws => by simp [maskL, mask_len left (k + 1) ws]
theorem mask_get (left : List Nat) : ∀ (ws : List Nat) (k i : Nat), (maskL left k ws)[i]? = ws[i]?.map fun w => if k + i ∈ left then w else 0
  | [], _, _ => by simp [maskL]
  | w :: ws, k, 0 => by simp [maskL]
  | w :: ws, k, i + 1 => by
    simp only [maskL, List.getElem?_cons_succ]
    rw [mask_get left ws (k + 1) i]
    rw [show k + 1 + i = k + (i + 1) by omega]
theorem mask_le {left : List Nat} {A : Nat} : ∀ (ws : List Nat) (k : Nat), (∀ w ∈ ws, w ≤ A) → ∀ w ∈ maskL left k ws, w ≤ A
  | [], _, _, w, h => by simp [maskL] at h
  | v :: ws, k, h, w, hw => by
    rcases List.mem_cons.mp hw with rfl | z
    · split
      · exact h v List.mem_cons_self
      · exact Nat.zero_le _
    · exact mask_le ws (k + 1) (fun x hx => h x (List.mem_cons_of_mem _ hx)) w z
theorem sum_le_mul {A : Nat} : ∀ ws : List Nat, (∀ w ∈ ws, w ≤ A) → ws.sum ≤ ws.length * A
  | [], _ => by simp
  | w :: ws, h => by
    have h1 := h w List.mem_cons_self
    have ih := sum_le_mul ws fun x hx => h x (List.mem_cons_of_mem _ hx)
    simp only [List.sum_cons, List.length_cons, Nat.add_mul, Nat.one_mul]
    omega
theorem wts_len {p n i : Nat} {ws : List Nat} (h : Row p n i ws) (left : List Nat) : (wtsL p left ws).length = p + n := by
  have := h.len
  rw [wtsL, List.length_append, mask_len, List.length_take, List.length_drop]
  omega
theorem wts_le {p n i : Nat} {ws : List Nat} (h : Row p n i ws) (left : List Nat) : ∀ w ∈ wtsL p left ws, w ≤ 20 := fun w hw => by
  rcases List.mem_append.mp hw with z | z
  · exact h.le w (List.mem_of_mem_take z)
  · exact mask_le _ _ (fun x hx => h.le x (List.mem_of_mem_drop hx)) w z
theorem wts_pos {p n i : Nat} {ws : List Nat} (h : Row p n i ws) (left : List Nat) : 0 < (wtsL p left ws).sum := by
  rw [wtsL, List.sum_append]
  have := h.pos
  omega
theorem wts_sum {p n i : Nat} {ws : List Nat} (hp : p ≤ 4) (hn : n ≤ 4) (h : Row p n i ws) (left : List Nat) : (wtsL p left ws).sum < 2 ^ 8 := by
  have := sum_le_mul _ (wts_le h left)
  rw [wts_len h] at this
  have : (p + n) * 20 ≤ 160 := by omega
  omega
theorem parts_fr {p n i L : Nat} {ws : List Nat} {a : Fc} (hp : p ≤ 4) (hn : n ≤ 4) (h : Row p n i ws) (left : List Nat) (ha : Fr L a) : ∀ q ∈ partsF a (wtsL p left ws), Fr (L + 8) q := fun q hq => by
  obtain ⟨w, hw, rfl⟩ := List.mem_map.mp hq
  exact byf_fr ha (Nat.lt_of_le_of_lt (wts_le h left w hw) (by decide)) (wts_sum hp hn h left) (wts_pos h left)

/-! ### passed_on -/
def leftS (left : List Nat) : Sl := .own (nl left)
theorem times_w {L : Nat} {a : Fc} {w S : Nat} (ha : Fr L a) (hw : w < 2 ^ 8) (hS : S < 2 ^ 8) (h0 : 0 < S) (hL : L + 8 ≤ 8999) : Ret g_times [.dat (nf a), .dat (.tup [dI w, dI S])] (nf (byf a w S)) :=
  times_ok (q := (w, S)) ha h0 hw hS hL
theorem passed_ok {p n c L : Nat} {rows : List (List Nat)} {ws : List Nat} {a : Fc} (h : VP p rows) (hn : n = rows.length) (hc : rows[c]? = some ws) (ha : Fr L a) (hL : L + 8 ≤ 8999) (left : List Nat) :
    ∃ x0 x1 x2 rest, g_passed_on [.dat (planD p rows), .dat (dI c), .dat (nf a), leftS left] = some (.tup ((partsF a (wtsL p left ws)).map nf), x0 :: x1 :: x2 :: leftS left :: rest) := by
  subst hn
  have r := h.row c ws hc
  have hl := row_len r
  have hle : (nl ws).length ≤ 8 := by rw [hl]; exact Nat.add_le_add h.p4 h.n4
  have hdrop : ((nl ws).drop p).length = rows.length := by rw [List.length_drop, hl]; omega
  let V := wtsL p left ws
  have hV : V.length = p + rows.length := wts_len r left
  have lc : nLc [8, 7] (.tp [8, 7]) (sEnm (fCons (fSlc (fVar 4) (fPart (fVar 5)) (fNoPart)) (fNil))) (fYes) (fIf (fTest (fBin (dIn) (fVar 8) (fVar 3))) (fVar 7) (fC (.int 0))) [.dat (planD p rows), .dat (dI c), .dat (nf a), leftS left, .dat (rowD ws), .dat (dI p), .un, .un, .un]
      = some (nl (maskL left 0 (ws.drop p)), [.dat (planD p rows), .dat (dI c), .dat (nf a), leftS left, .dat (rowD ws), .dat (dI p), .un, .un, .un]) := by
    have hs : sEnm (fCons (fSlc (fVar 4) (fPart (fVar 5)) (fNoPart)) (fNil)) [.dat (planD p rows), .dat (dI c), .dat (nf a), leftS left, .dat (rowD ws), .dat (dI p), .un, .un, .un] = some (enumD 0 ((nl ws).drop p), [.dat (.tup ((nl ws).drop p))], [.dat (planD p rows), .dat (dI c), .dat (nf a), leftS left, .dat (rowD ws), .dat (dI p), .un, .un, .un]) := by
      have e := slcFrom (fa := fVar 4) (fb := fVar 5) (ρ := [.dat (planD p rows), .dat (dI c), .dat (nf a), leftS left, .dat (rowD ws), .dat (dI p), .un, .un, .un]) (ds := nl ws) (k := p) rfl rfl (by rw [hl]; omega)
      simp only [sEnm, fCons, fNil, e, Opd.get, seqD]
    refine nLc_ix _ hs (getAll_dat _) (by rw [enumD_len, hdrop]; exact Nat.le_trans h.n4 (by decide)) (by rw [enumD_len, hdrop, nl, List.length_map, mask_len, List.length_drop, r.len]; omega) (fun k d y hk hy => ?_)
    rw [enumD_get, nl, ← List.map_drop, List.getElem?_map] at hk
    obtain ⟨e1, h1, rfl⟩ := Option.map_eq_some_iff.mp hk
    obtain ⟨w, h2, rfl⟩ := Option.map_eq_some_iff.mp h1
    rw [nl, List.getElem?_map, mask_get, h2, Nat.zero_add] at hy
    cases hy
    rw [Nat.zero_add]
    refine ⟨[.dat (planD p rows), .dat (dI c), .dat (nf a), leftS left, .dat (rowD ws), .dat (dI p), .un, .dat (dI w), .dat (dI k)], [.dat (planD p rows), .dat (dI c), .dat (nf a), leftS left, .dat (rowD ws), .dat (dI p), .un, .dat (dI w), .dat (dI k)], rfl, ?_, rfl⟩
    have t : fTest (fBin dIn (fVar 8) (fVar 3)) [.dat (planD p rows), .dat (dI c), .dat (nf a), leftS left, .dat (rowD ws), .dat (dI p), .un, .dat (dI w), .dat (dI k)] = some (decide (k ∈ left), [.dat (planD p rows), .dat (dI c), .dat (nf a), leftS left, .dat (rowD ws), .dat (dI p), .un, .dat (dI w), .dat (dI k)]) :=
      testE (binG (o := .dat (dI k)) (p := .slot 3) rfl rfl rfl rfl (dIn_lst k left))
    by_cases hk : k ∈ left
    · rw [decide_eq_true hk] at t
      exact iteT t (by simp only [if_pos hk]; rfl)
    · rw [decide_eq_false hk] at t
      exact iteF t (by simp only [if_neg hk]; rfl)
  have hsum : dSum [.tup (nl V)] = some (dI V.sum) := dSum_tup V
  have hadd : dAdd (.tup ((nl ws).take p)) (.tup (nl (maskL left 0 (ws.drop p)))) = some (.tup (nl V)) := by
    have hc : ((nl ws).take p).length + (nl (maskL left 0 (ws.drop p))).length ≤ sLn := by
      rw [List.length_take, nl, nl, List.length_map, List.length_map, mask_len, List.length_drop, r.len]
      have := h.p4
      have := h.n4
      exact Nat.le_trans (show min p (p + rows.length) + (p + rows.length - p) ≤ 8 by omega) (by decide)
    simp only [dAdd, if_pos hc]
    rw [show nl V = (nl ws).take p ++ nl (maskL left 0 (ws.drop p)) by simp only [V, wtsL, nl, List.map_append, List.map_take]]
  let ρ6 : Ev := [.dat (planD p rows), .dat (dI c), .dat (nf a), leftS left, .dat (rowD ws), .dat (dI p), .dat (.tup (nl V)), .un, .un]
  have lc2 : nLc [7] (.nm 7) (sItm (fVar 6)) (fYes) (fCall g_times [] (fCons (fVar 2) (fCons (fDisp .tup (fCons (fVar 7) (fCons (fBlt dSum (fCons (fVar 6) (fNil))) (fNil)))) (fNil)))) ρ6 = some ((partsF a V).map nf, ρ6) :=
    nLc_ix _ (itmE rfl rfl rfl) (getAll_dat _) (by rw [nl, List.length_map, hV]; exact Nat.le_trans (Nat.add_le_add h.p4 h.n4) (by decide)) (by rw [nl, partsF, List.length_map, List.length_map, List.length_map]) (fun k d y hk hy => by
      rw [nl, List.getElem?_map] at hk
      obtain ⟨w, h2, rfl⟩ := Option.map_eq_some_iff.mp hk
      rw [partsF, List.getElem?_map, List.getElem?_map, h2] at hy
      cases hy
      have hw := wts_le r left w (List.mem_of_getElem? h2)
      exact ⟨[.dat (planD p rows), .dat (dI c), .dat (nf a), leftS left, .dat (rowD ws), .dat (dI p), .dat (.tup (nl V)), .dat (dI w), .un], _, rfl,
        callD2 rfl (dispE (consE rfl (consE (bltE (ds := [.tup (nl V)]) (consE rfl rfl) rfl hsum) rfl)) rfl (show 2 ≤ sLn by decide)) (times_w ha (Nat.lt_of_le_of_lt hw (by decide)) (wts_sum h.p4 h.n4 r left) (wts_pos r left) hL), rfl⟩)
  have b : d_passed_on [.dat (planD p rows), .dat (dI c), .dat (nf a), leftS left, .un, .un, .un, .un, .un] = some (.rt (.tup ((partsF a V).map nf)), ρ6) := by
    refine seqE (parE (mDatE (binE (methE0 rfl (prows_ok p rows)) rfl (idx_natT (by rw [List.getElem?_map, hc]; rfl))) (mDatE (methE0 rfl (pprod_ok p rows)) rfl)) rfl) ?_
    refine seqE (ρ1 := ρ6) (setE (ρ1 := [.dat (planD p rows), .dat (dI c), .dat (nf a), leftS left, .dat (rowD ws), .dat (dI p), .un, .un, .un]) (binE (slcTo (ds := nl ws) rfl rfl (by rw [hl]; omega)) (bltE (ds := [.lst (nl (maskL left 0 (ws.drop p)))]) (consE (fnewE lc) rfl) rfl rfl) hadd)) ?_
    exact retE (bltE (ds := [.lst ((partsF a V).map nf)]) (consE (fnewE lc2) rfl) rfl rfl)
  refine ⟨.dat (planD p rows), .dat (dI c), .dat (nf a), [.dat (rowD ws), .dat (dI p), .dat (.tup (nl V)), .un, .un], ?_⟩
  show frD (d_passed_on [.dat (planD p rows), .dat (dI c), .dat (nf a), leftS left, .un, .un, .un, .un, .un]) = _
  rw [b]
  rfl
end SC

set_option Elab.async false
set_option linter.all false
set_option maxRecDepth 100000
namespace SC
open PySem PySem.Spec PyProof.Rows L2

/-! ### closings, one after another -/
theorem idx_cast (a : Nat) : ∀ ws : List Nat, (ws.map fun (w : Nat) => (w : Int)).idxOf (a : Int) = ws.idxOf a
  | [] => rfl
  | w :: ws => by
    have ih := idx_cast a ws
    simp only [List.map_cons, List.idxOf_cons, ih]
    by_cases h : w = a
    · subst h; simp
    · have h2 : ¬ (w : Int) = (a : Int) := by omega
      have e1 : ((w : Int) == (a : Int)) = false := beq_eq_false_iff_ne.mpr h2
      have e2 : (w == a) = false := beq_eq_false_iff_ne.mpr h
      rw [e1, e2]
theorem intsD_nat : ∀ ws : List Nat, intsD (nl ws) = some (ws.map fun (w : Nat) => (w : Int))
  | [] => rfl
  | w :: ws => by
    show (intsD (nl ws)).map ((w : Int) :: ·) = _
    rw [intsD_nat ws]
    rfl
theorem map_erase (f : Nat → D) : ∀ (i : Nat) (ws : List Nat), (ws.eraseIdx i).map f = (ws.map f).eraseIdx i
  | _, [] => rfl
  | 0, w :: ws => rfl
  | i + 1, w :: ws => by simp [map_erase f i ws]
theorem rem_ok {c : Nat} {ws : List Nat} (h : c ∈ ws) : lmRem (nl ws) (dI c) = some (.non, nl (ws.erase c)) := by
  have hm : (c : Int) ∈ ws.map fun (w : Nat) => (w : Int) := List.mem_map.mpr ⟨c, h, rfl⟩
  simp only [lmRem, intsD_nat, if_pos hm, idx_cast]
  congr 2
  rw [List.erase_eq_eraseIdx_of_idxOf rfl]
  rw [nl, map_erase]
  rw [show (ws.map fun (w : Nat) => D.int (w : Int)) = (ws.map fun (w : Nat) => (w : Int)).map D.int by rw [List.map_map]; rfl]
  generalize (ws.map fun (w : Nat) => (w : Int)) = zs
  have : ∀ (i : Nat) (zs : List Int), (zs.eraseIdx i).map D.int = (zs.map D.int).eraseIdx i := by
    intro i zs
    induction zs generalizing i with
    | nil => rfl
    | cons z zs ih => cases i with
      | zero => rfl
      | succ i => simp [ih]
  exact this _ _
theorem rest_nodup (n : Nat) (shut : List Nat) : (restL n shut).Nodup := List.Pairwise.filter _ List.nodup_range
theorem rest_mem {n : Nat} {shut : List Nat} {i : Nat} : i ∈ restL n shut ↔ i < n ∧ i ∉ shut := by
  unfold restL
  rw [List.mem_filter, List.mem_range, decide_eq_true_iff]
theorem rest_step (n : Nat) (shut : List Nat) (c : Nat) : (restL n shut).erase c = restL n (shut ++ [c]) := by
  rw [List.Nodup.erase_eq_filter (rest_nodup n shut)]
  unfold restL
  rw [List.filter_filter]
  congr 1
  funext i
  by_cases h : i = c
  · subst h; simp
  · have h2 : (i != c) = true := bne_iff_ne.mpr h
    rw [h2, Bool.true_and]
    simp [h]
/-- one closing: what the centre passes on -/
def outP (p n : Nat) (rows : List (List Nat)) (had : List Fc) (shut : List Nat) (c : Nat) : List Fc := partsF (had.getD c (0, 1)) (wtsL p (restL n (shut ++ [c])) (rows.getD c []))
/-- what the centres have behind it -/
def hadP (p n : Nat) (rows : List (List Nat)) (had : List Fc) (shut : List Nat) (c : Nat) : List Fc := List.zipWith plus had ((outP p n rows had shut c).drop p)
/-- all closings: the centre, what it had, what it passed on -/
def closeP (p n : Nat) (rows : List (List Nat)) : List Nat → List Fc → List Nat → List (Nat × Fc × List Fc)
  | [], _, _ => []
  | c :: o, had, shut => (c, had.getD c (0, 1), outP p n rows had shut c) :: closeP p n rows o (hadP p n rows had shut c) (shut ++ [c])
def stepD (x : Nat × Fc × List Fc) : D := .tup [dI x.1, nf x.2.1, .tup (x.2.2.map nf)]
theorem zip_len (ds es : List D) : (zipD ds es).length = min ds.length es.length := zipD_length ds es
theorem zip_map {α β : Type} (f : α → D) (g : β → D) : ∀ (as : List α) (bs : List β), zipD (as.map f) (bs.map g) = List.zipWith (fun a b => D.tup [f a, g b]) as bs
  | [], _ => by simp [zipD]
  | _ :: _, [] => by simp [zipD]
  | a :: as, b :: bs => by simp [zipD, zip_map f g as bs]
theorem zw_get {α β γ : Type} (f : α → β → γ) : ∀ (as : List α) (bs : List β) (i : Nat) (y : γ), (List.zipWith f as bs)[i]? = some y → ∃ a b, as[i]? = some a ∧ bs[i]? = some b ∧ y = f a b
  | [], _, _, _, h => by simp at h
  | _ :: _, [], _, _, h => by simp at h
  | a :: as, b :: bs, 0, y, h => ⟨a, b, rfl, rfl, by simpa using h.symm⟩
  | a :: as, b :: bs, i + 1, y, h => by
    obtain ⟨x, z, h1, h2, h3⟩ := zw_get f as bs i y (by simpa using h)
    exact ⟨x, z, by simpa using h1, by simpa using h2, h3⟩
/-- [sum_of([one, part]) for one, part in zip(xs, ys)], in the slots i, j -/
theorem zipsum_ok {L : Nat} {xs ys : List Fc} (hL : 2 * L + 3 ≤ 8999) (hx : ∀ q ∈ xs, Fr L q) (hy : ∀ q ∈ ys, Fr L q) (hlen : xs.length ≤ 1000) {fa fb : FE} {ρ : Ev} {i j : Nat}
    (h1 : fa ρ = some (.dat (.lst (xs.map nf)), ρ)) {d2 : D} (h2 : fb ρ = some (.dat d2, ρ)) (hd2 : seqD d2 = some (ys.map nf)) (hij : i ≠ j) (hi : i < ρ.length) (hj : j < ρ.length) :
    nLc [i, j] (.tp [i, j]) (sZip (fCons fa (fCons fb fNil))) (fYes) (fCall g_sum_of [] (fCons (fNew (nDisp (fCons (fVar i) (fCons (fVar j) (fNil))))) (fNil))) ρ = some ((List.zipWith plus xs ys).map nf, ρ) := by
  have hs : sZip (fCons fa (fCons fb fNil)) ρ = some (zipD (xs.map nf) (ys.map nf), [.dat (.lst (xs.map nf)), .dat d2], ρ) := by
    have e1 : seqD (.lst (xs.map nf)) = some (xs.map nf) := rfl
    simp only [sZip, fCons, fNil, h1, h2, Opd.get, e1, hd2]
  refine nLc_ix _ hs (getAll_dat2 _ _) ?_ ?_ (fun k d y hk hy => ?_)
  · rw [zip_len, List.length_map, List.length_map]
    exact Nat.le_trans (Nat.le_trans (Nat.min_le_left _ _) hlen) (by decide)
  · rw [zip_len, List.length_map, List.length_map, List.length_map, List.length_zipWith]
  · rw [zip_map] at hk
    obtain ⟨q, r, k1, k2, rfl⟩ := zw_get _ _ _ _ _ hk
    rw [List.getElem?_map, List.getElem?_zipWith, k1, k2] at hy
    cases hy
    let ρw := wipeE ρ [i, j]
    have hwl : ρw.length = ρ.length := wipeE_length ρ [i, j]
    let ρa := (ρw.set i (.dat (nf q))).set j (.dat (nf r))
    have gi : ρa[i]? = some (.dat (nf q)) := by
      show ((ρw.set i (.dat (nf q))).set j (.dat (nf r)))[i]? = _
      rw [List.getElem?_set_ne (Ne.symm hij), List.getElem?_set_self (by rw [hwl]; exact hi)]
    have gj : ρa[j]? = some (.dat (nf r)) := by
      show ((ρw.set i (.dat (nf q))).set j (.dat (nf r)))[j]? = _
      rw [List.getElem?_set_self (by rw [List.length_set, hwl]; exact hj)]
    have v1 : fVar i ρa = some (.dat (nf q), ρa) := by simp only [fVar, gi]
    have v2 : fVar j ρa = some (.dat (nf r), ρa) := by simp only [fVar, gj]
    refine ⟨ρa, ρa, rfl, callD1 (fnewE (newE (consE v1 (consE v2 rfl)) rfl (show 2 ≤ sLn by decide))) (sum2_ok (hx q (List.mem_of_getElem? k1)) (hy r (List.mem_of_getElem? k2)) hL), ?_⟩
    apply List.ext_getElem?
    intro m
    have hal : ρa.length = ρ.length := by simp only [ρa, List.length_set, hwl]
    rw [wipeE_get, wipeE_get, hal]
    split
    · rfl
    · rename_i hm
      simp only [List.mem_cons, List.not_mem_nil, or_false, not_or] at hm
      show ((ρw.set i (.dat (nf q))).set j (.dat (nf r)))[m]? = _
      rw [List.getElem?_set_ne (Ne.symm hm.2), List.getElem?_set_ne (Ne.symm hm.1)]
      show (wipeE ρ [i, j])[m]? = _
      rw [wipeE_get, if_neg (by simp [hm.1, hm.2])]
end SC

set_option Elab.async false
set_option linter.all false
set_option maxRecDepth 100000
namespace SC
open PySem PySem.Spec PyProof.Rows L2

theorem callO4 {g : FG} {fa fb fc : FE} {ρ : Ev} {a b c r : D} {ds : List D} {i : Nat} {x0 x1 x2 : Sl} {rest : List Sl} (h1 : fa ρ = some (.dat a, ρ)) (h2 : fb ρ = some (.dat b, ρ)) (h3 : fc ρ = some (.dat c, ρ)) (hi : ρ[i]? = some (.own ds))
    (hg : g [.dat a, .dat b, .dat c, .own ds] = some (r, x0 :: x1 :: x2 :: .own ds :: rest)) : fCall g [] (fCons fa (fCons fb (fCons fc (fCons (fVar i) fNil)))) ρ = some (.dat r, ρ.set i (.own ds)) := by
  simp [fCall, fCons, fNil, h1, h2, h3, fVar, hi, argSl, Sl.mut, slotsOf, hg, putSl]
def bL : Nat → Nat
  | 0 => 20
  | k + 1 => 2 * bL k + 17
theorem bL_mono : ∀ {j k : Nat}, j ≤ k → bL j ≤ bL k := by
  intro j k h
  induction h with
  | refl => exact Nat.le_refl _
  | step h ih => simp only [bL]; omega
/-- centres in an order, none of them closed yet -/
structure Od (n : Nat) (shut o : List Nat) : Prop where
  lt : ∀ c ∈ o, c < n ∧ c ∉ shut
  nd : o.Nodup
theorem Od.tail {n c : Nat} {shut o : List Nat} (h : Od n shut (c :: o)) : Od n (shut ++ [c]) o := by
  obtain ⟨h1, h2⟩ := List.nodup_cons.mp h.nd
  refine ⟨fun d hd => ⟨(h.lt d (List.mem_cons_of_mem _ hd)).1, fun z => ?_⟩, h2⟩
  rcases List.mem_append.mp z with z | z
  · exact (h.lt d (List.mem_cons_of_mem _ hd)).2 z
  · rw [List.mem_singleton.mp z] at hd
    exact h1 hd
theorem out_fr {p L : Nat} {rows : List (List Nat)} {had : List Fc} {shut : List Nat} {c : Nat} (h : VP p rows) (hc : c < rows.length) (hl : had.length = rows.length) (hf : ∀ q ∈ had, Fr L q) : (∀ q ∈ outP p rows.length rows had shut c, Fr (L + 8) q) ∧ (outP p rows.length rows had shut c).length = p + rows.length := by
  have hr : rows[c]? = some (rows.getD c []) := by rw [List.getD_eq_getElem?_getD, List.getElem?_eq_getElem hc]; rfl
  have r := h.row c _ hr
  have hm : had.getD c (0, 1) ∈ had := by
    rw [List.getD_eq_getElem?_getD, List.getElem?_eq_getElem (by omega)]
    exact List.getElem_mem _
  refine ⟨parts_fr h.p4 h.n4 r _ (hf _ hm), ?_⟩
  rw [outP, partsF, List.length_map]
  exact wts_len r _
theorem had_fr {p k : Nat} {rows : List (List Nat)} {had : List Fc} {shut : List Nat} {c : Nat} (h : VP p rows) (hc : c < rows.length) (hl : had.length = rows.length) (hf : ∀ q ∈ had, Fr (bL k) q) : (∀ q ∈ hadP p rows.length rows had shut c, Fr (bL (k + 1)) q) ∧ (hadP p rows.length rows had shut c).length = rows.length := by
  obtain ⟨h1, h2⟩ := out_fr (shut := shut) h hc hl hf
  refine ⟨fun q hq => ?_, ?_⟩
  · obtain ⟨i, hi⟩ := List.mem_iff_getElem?.mp hq
    obtain ⟨a, b, e1, e2, rfl⟩ := zw_get _ _ _ _ _ hi
    exact (plus_fr (hf a (List.mem_of_getElem? e1)) (h1 b (List.mem_of_mem_drop (List.mem_of_getElem? e2)))).mono (by simp only [bL]; omega)
  · rw [hadP, List.length_zipWith, List.length_drop, h2, hl]; omega
theorem idx_nf {had : List Fc} {c : Nat} (hc : c < had.length) : dIdx (.lst (had.map nf)) (dI c) = some (nf (had.getD c (0, 1))) :=
  idx_nat (by rw [List.getElem?_map, List.getD_eq_getElem?_getD, List.getElem?_eq_getElem hc]; rfl)
theorem close_step {p k c : Nat} {rows : List (List Nat)} {had : List Fc} {shut : List Nat} {fnd : List (Nat × Fc × List Fc)} (h : VP p rows) (hc : c < rows.length) (hs : c ∉ shut) (hl : had.length = rows.length) (hf : ∀ q ∈ had, Fr (bL k) q) (hk : k ≤ 3) (hfn : fnd.length ≤ 4) (od am s7 : Sl) :
    (bSeq (bExp (fLM lmRem 4 (fVar 6))) (bSeq (bSet 7 (fCall g_passed_on [] (fCons (fVar 0) (fCons (fVar 6) (fCons (fBin dIdx (fVar 3) (fVar 6)) (fCons (fVar 4) (fNil))))))) (bSeq (bExp (fLM lmApp 5 (fDisp .tup (fCons (fVar 6) (fCons (fBin dIdx (fVar 3) (fVar 6)) (fCons (fVar 7) (fNil))))))) (bSet 3 (fNew (nLc [8, 9] (.tp [8, 9]) (sZip (fCons (fVar 3) (fCons (fSlc (fVar 7) (fPart (fMeth 0 g_Plan_products [] (fVar 0) fNil)) (fNoPart)) (fNil)))) (fYes) (fCall g_sum_of [] (fCons (fNew (nDisp (fCons (fVar 8) (fCons (fVar 9) (fNil))))) (fNil)))))))))
      [.dat (planD p rows), od, am, .dat (.lst (had.map nf)), leftS (restL rows.length shut), .own (fnd.map stepD), .dat (dI c), s7, .un, .un]
    = some (.nx, [.dat (planD p rows), od, am, .dat (.lst ((hadP p rows.length rows had shut c).map nf)), leftS (restL rows.length (shut ++ [c])), .own ((fnd ++ [(c, had.getD c (0, 1), outP p rows.length rows had shut c)]).map stepD), .dat (dI c), .dat (.tup ((outP p rows.length rows had shut c).map nf)), .un, .un]) := by
  have hr : rows[c]? = some (rows.getD c []) := by rw [List.getD_eq_getElem?_getD, List.getElem?_eq_getElem hc]; rfl
  have hm : had.getD c (0, 1) ∈ had := by
    rw [List.getD_eq_getElem?_getD, List.getElem?_eq_getElem (by omega)]
    exact List.getElem_mem _
  have hbL : bL k ≤ 279 := Nat.le_trans (bL_mono hk) (by decide)
  obtain ⟨o1, o2⟩ := out_fr (shut := shut) h hc hl hf
  obtain ⟨x0, x1, x2, rest, eg⟩ := passed_ok (a := had.getD c (0, 1)) h rfl hr (hf _ hm) (by omega) (restL rows.length (shut ++ [c]))
  have er : lmRem (nl (restL rows.length shut)) (dI c) = some (.non, nl (restL rows.length (shut ++ [c]))) := by
    rw [rem_ok (rest_mem.mpr ⟨hc, hs⟩), rest_step]
  let ρ1 : Ev := [.dat (planD p rows), od, am, .dat (.lst (had.map nf)), leftS (restL rows.length (shut ++ [c])), .own (fnd.map stepD), .dat (dI c), s7, .un, .un]
  let ρ2 : Ev := [.dat (planD p rows), od, am, .dat (.lst (had.map nf)), leftS (restL rows.length (shut ++ [c])), .own (fnd.map stepD), .dat (dI c), .dat (.tup ((outP p rows.length rows had shut c).map nf)), .un, .un]
  let ρ3 : Ev := [.dat (planD p rows), od, am, .dat (.lst (had.map nf)), leftS (restL rows.length (shut ++ [c])), .own ((fnd ++ [(c, had.getD c (0, 1), outP p rows.length rows had shut c)]).map stepD), .dat (dI c), .dat (.tup ((outP p rows.length rows had shut c).map nf)), .un, .un]
  have e1 : fLM lmRem 4 (fVar 6) [.dat (planD p rows), od, am, .dat (.lst (had.map nf)), leftS (restL rows.length shut), .own (fnd.map stepD), .dat (dI c), s7, .un, .un] = some (.dat .non, ρ1) :=
    lmE (ρ1 := [.dat (planD p rows), od, am, .dat (.lst (had.map nf)), leftS (restL rows.length shut), .own (fnd.map stepD), .dat (dI c), s7, .un, .un]) (ds0 := nl (restL rows.length shut)) (d := dI c) rfl rfl rfl er
  have e2 : fCall g_passed_on [] (fCons (fVar 0) (fCons (fVar 6) (fCons (fBin dIdx (fVar 3) (fVar 6)) (fCons (fVar 4) (fNil))))) ρ1 = some (.dat (.tup ((outP p rows.length rows had shut c).map nf)), ρ1) :=
    callO4 (ρ := ρ1) (i := 4) (ds := nl (restL rows.length (shut ++ [c]))) (a := planD p rows) (b := dI c) (c := nf (had.getD c (0, 1))) rfl rfl (binE rfl rfl (idx_nf (by omega))) rfl eg
  have hd : (fnd.map stepD).length < sLn := by rw [List.length_map]; exact Nat.lt_of_le_of_lt hfn (by decide)
  have ea : lmApp (fnd.map stepD) (stepD (c, had.getD c (0, 1), outP p rows.length rows had shut c)) = some (.non, (fnd ++ [(c, had.getD c (0, 1), outP p rows.length rows had shut c)]).map stepD) := by
    simp only [lmApp, if_pos hd, List.map_append, List.map_cons, List.map_nil]
  have e3 : fLM lmApp 5 (fDisp .tup (fCons (fVar 6) (fCons (fBin dIdx (fVar 3) (fVar 6)) (fCons (fVar 7) (fNil))))) ρ2 = some (.dat .non, ρ3) :=
    lmE (ρ1 := ρ2) (ds0 := fnd.map stepD) (d := stepD (c, had.getD c (0, 1), outP p rows.length rows had shut c)) rfl (dispE (ρ1 := ρ2) (ds := [dI c, nf (had.getD c (0, 1)), .tup ((outP p rows.length rows had shut c).map nf)]) (consE rfl (consE (binE (ρ2 := ρ2) rfl rfl (idx_nf (by omega))) (consE rfl rfl))) rfl (show 3 ≤ sLn by decide)) rfl ea
  have e4 : nLc [8, 9] (.tp [8, 9]) (sZip (fCons (fVar 3) (fCons (fSlc (fVar 7) (fPart (fMeth 0 g_Plan_products [] (fVar 0) fNil)) (fNoPart)) (fNil)))) (fYes) (fCall g_sum_of [] (fCons (fNew (nDisp (fCons (fVar 8) (fCons (fVar 9) (fNil))))) (fNil))) ρ3 = some ((hadP p rows.length rows had shut c).map nf, ρ3) :=
    zipsum_ok (L := bL k + 8) (xs := had) (ys := (outP p rows.length rows had shut c).drop p) (by omega) (fun q hq => (hf q hq).mono (by omega)) (fun q hq => o1 q (List.mem_of_mem_drop hq)) (by rw [hl]; have := h.n4; omega) (ρ := ρ3) (d2 := .tup (((outP p rows.length rows had shut c).map nf).drop p)) rfl
      (slcFrom (ρ1 := ρ3) (ρ2 := ρ3) (ds := (outP p rows.length rows had shut c).map nf) rfl (methE0 (ρ1 := ρ3) rfl (pprod_ok p rows)) (by rw [List.length_map, o2]; omega)) (by simp only [seqD, List.map_drop]) (by decide) (show 8 < 10 by decide) (show 9 < 10 by decide)
  refine seqE (expE e1) (seqE (ρ1 := ρ2) (setE (ρ1 := ρ1) e2) (seqE (expE e3) (setE (ρ1 := ρ3) (fnewE e4))))
theorem close_loop {p : Nat} {rows : List (List Nat)} (h : VP p rows) (od am : Sl) : ∀ (o : List Nat) (k : Nat) (had : List Fc) (shut : List Nat) (fnd : List (Nat × Fc × List Fc)) (s6 s7 : Sl), Od rows.length shut o → had.length = rows.length → (∀ q ∈ had, Fr (bL k) q) → k + o.length ≤ 4 → fnd.length ≤ k →
    ∃ (had' : List Fc) (shut' : List Nat) (t6 t7 : Sl), forL (.nm 6) (bSeq (bExp (fLM lmRem 4 (fVar 6))) (bSeq (bSet 7 (fCall g_passed_on [] (fCons (fVar 0) (fCons (fVar 6) (fCons (fBin dIdx (fVar 3) (fVar 6)) (fCons (fVar 4) (fNil))))))) (bSeq (bExp (fLM lmApp 5 (fDisp .tup (fCons (fVar 6) (fCons (fBin dIdx (fVar 3) (fVar 6)) (fCons (fVar 7) (fNil))))))) (bSet 3 (fNew (nLc [8, 9] (.tp [8, 9]) (sZip (fCons (fVar 3) (fCons (fSlc (fVar 7) (fPart (fMeth 0 g_Plan_products [] (fVar 0) fNil)) (fNoPart)) (fNil)))) (fYes) (fCall g_sum_of [] (fCons (fNew (nDisp (fCons (fVar 8) (fCons (fVar 9) (fNil))))) (fNil)))))))))
      (nl o) [.dat (planD p rows), od, am, .dat (.lst (had.map nf)), leftS (restL rows.length shut), .own (fnd.map stepD), s6, s7, .un, .un] = some (.nx, [.dat (planD p rows), od, am, .dat (.lst (had'.map nf)), leftS (restL rows.length shut'), .own ((fnd ++ closeP p rows.length rows o had shut).map stepD), t6, t7, .un, .un])
  | [], k, had, shut, fnd, s6, s7, _, _, _, _, _ => ⟨had, shut, s6, s7, by simp only [closeP, List.append_nil]; rfl⟩
  | c :: o, k, had, shut, fnd, s6, s7, hod, hl, hf, hk, hfn => by
    obtain ⟨hc, hs⟩ := hod.lt c List.mem_cons_self
    simp only [List.length_cons] at hk
    have st := close_step (k := k) (fnd := fnd) h hc hs hl hf (by omega) (by omega) od am s7
    obtain ⟨f1, f2⟩ := had_fr (shut := shut) h hc hl hf
    obtain ⟨had', shut', t6, t7, e⟩ := close_loop h od am o (k + 1) (hadP p rows.length rows had shut c) (shut ++ [c]) (fnd ++ [(c, had.getD c (0, 1), outP p rows.length rows had shut c)]) (.dat (dI c)) (.dat (.tup ((outP p rows.length rows had shut c).map nf))) hod.tail f2 f1 (by omega) (by rw [List.length_append]; simp; omega)
    refine ⟨had', shut', t6, t7, ?_⟩
    have bp : bindPt (.nm 6) (dI c) [.dat (planD p rows), od, am, .dat (.lst (had.map nf)), leftS (restL rows.length shut), .own (fnd.map stepD), s6, s7, .un, .un] = some [.dat (planD p rows), od, am, .dat (.lst (had.map nf)), leftS (restL rows.length shut), .own (fnd.map stepD), .dat (dI c), s7, .un, .un] := rfl
    show forL (.nm 6) _ (dI c :: nl o) _ = _
    simp only [forL, bp, st]
    rw [e, closeP, List.append_assoc]
    rfl
theorem rest_nil (n : Nat) : restL n [] = List.range n := by
  unfold restL
  exact List.filter_eq_self.mpr fun _ _ => by simp
theorem rng_nl (n : Nat) : rangeD 0 n = nl (List.range n) := by
  unfold rangeD nl
  apply List.map_congr_left
  intro i _
  rw [Int.zero_add]
theorem nRg_ok {fa : FE} {ρ : Ev} {n : Nat} (h : fa ρ = some (.dat (.int (n : Int)), ρ)) (hn : n ≤ 1000) : nRg fa ρ = some (nl (List.range n), ρ) := by
  simp only [nRg, h]
  rw [if_pos (by omega), Int.toNat_natCast, rng_nl]
theorem closings_ok {p : Nat} {rows : List (List Nat)} {o : List Nat} {had : List Fc} (h : VP p rows) (ho : Od rows.length [] o) (hol : o.length ≤ 4) (hl : had.length = rows.length) (hf : ∀ q ∈ had, Fr 20 q) :
    Ret g_closings [.dat (planD p rows), .dat (.tup (nl o)), .dat (.lst (had.map nf))] (.lst ((closeP p rows.length rows o had []).map stepD)) := by
  obtain ⟨had', shut', t6, t7, e⟩ := close_loop h (.dat (.tup (nl o))) (.dat (.lst (had.map nf))) o 0 had [] [] .un .un ho hl hf (by omega) (Nat.le_refl _)
  rw [List.nil_append] at e
  have hrg : nRg (fLen 0 g_Plan___len__ (fVar 0)) [.dat (planD p rows), .dat (.tup (nl o)), .dat (.lst (had.map nf)), .un, .un, .un, .un, .un, .un, .un] = some (nl (restL rows.length []), [.dat (planD p rows), .dat (.tup (nl o)), .dat (.lst (had.map nf)), .un, .un, .un, .un, .un, .un, .un]) := by
    have e1 : fLen 0 g_Plan___len__ (fVar 0) [.dat (planD p rows), .dat (.tup (nl o)), .dat (.lst (had.map nf)), .un, .un, .un, .un, .un, .un, .un] = some (.dat (dI rows.length), [.dat (planD p rows), .dat (.tup (nl o)), .dat (.lst (had.map nf)), .un, .un, .un, .un, .un, .un, .un]) := lenIE rfl (plen_ok p rows) (by have := h.n4; omega)
    rw [rest_nil]
    exact nRg_ok e1 (by have := h.n4; omega)
  have b : d_closings [.dat (planD p rows), .dat (.tup (nl o)), .dat (.lst (had.map nf)), .un, .un, .un, .un, .un, .un, .un] = some (.rt (.lst ((closeP p rows.length rows o had []).map stepD)), [.dat (planD p rows), .dat (.tup (nl o)), .dat (.lst (had.map nf)), .dat (.lst (had'.map nf)), leftS (restL rows.length shut'), .dat (.lst ((closeP p rows.length rows o had []).map stepD)), t6, t7, .un, .un]) := by
    refine seqE (parE (mDatE (bltE (ds := [.lst (had.map nf)]) (consE rfl rfl) rfl rfl) (mNewE hrg (mNewE (newE rfl rfl (by decide)) rfl))) rfl) ?_
    refine seqE (forE (itmE rfl rfl rfl) rfl e) (seqE rfl ?_)
    exact retE rfl
  refine ⟨[.dat (planD p rows), .dat (.tup (nl o)), .dat (.lst (had.map nf)), .dat (.lst (had'.map nf)), leftS (restL rows.length shut'), .dat (.lst ((closeP p rows.length rows o had []).map stepD)), t6, t7, .un, .un], ?_, by simp⟩
  show frD (d_closings [.dat (planD p rows), .dat (.tup (nl o)), .dat (.lst (had.map nf)), .un, .un, .un, .un, .un, .un, .un]) = _
  rw [b]
  rfl
end SC

set_option Elab.async false
set_option linter.all false
set_option maxRecDepth 100000
namespace SC
open PySem PySem.Spec PyProof.Rows L2

/-! ### what the products bear -/
def foldB (steps : List (Nat × Fc × List Fc)) (b : List Fc) : List Fc := steps.foldl (fun b x => List.zipWith plus b x.2.2) b
def bornF (p : Nat) (rows : List (List Nat)) (o : List Nat) (had : List Fc) : List Fc := foldB (closeP p rows.length rows o had []) (List.replicate p (0, 1))
theorem borne_step {p k c : Nat} {rows : List (List Nat)} {had b : List Fc} {shut : List Nat} (h : VP p rows) (hc : c < rows.length) (hl : had.length = rows.length) (hf : ∀ q ∈ had, Fr (bL k) q) (hk : k ≤ 3) (hb : ∀ q ∈ b, Fr (bL k) q) (hbl : b.length = p) (pl od am : Sl) (a : D) :
    bSet 3 (fNew (nLc [7, 8] (.tp [7, 8]) (sZip (fCons (fVar 3) (fCons (fVar 6) (fNil)))) (fYes) (fCall g_sum_of [] (fCons (fNew (nDisp (fCons (fVar 7) (fCons (fVar 8) (fNil))))) (fNil)))))
      [pl, od, am, .dat (.lst (b.map nf)), .dat (dI c), .dat a, .dat (.tup ((outP p rows.length rows had shut c).map nf)), .un, .un]
    = some (.nx, [pl, od, am, .dat (.lst ((List.zipWith plus b (outP p rows.length rows had shut c)).map nf)), .dat (dI c), .dat a, .dat (.tup ((outP p rows.length rows had shut c).map nf)), .un, .un])
    ∧ (∀ q ∈ List.zipWith plus b (outP p rows.length rows had shut c), Fr (bL (k + 1)) q) ∧ (List.zipWith plus b (outP p rows.length rows had shut c)).length = p := by
  obtain ⟨o1, o2⟩ := out_fr (shut := shut) h hc hl hf
  have hbL : bL k ≤ 279 := Nat.le_trans (bL_mono hk) (by decide)
  refine ⟨?_, fun q hq => ?_, by rw [List.length_zipWith, o2, hbl]; omega⟩
  · let ρ : Ev := [pl, od, am, .dat (.lst (b.map nf)), .dat (dI c), .dat a, .dat (.tup ((outP p rows.length rows had shut c).map nf)), .un, .un]
    have e : nLc [7, 8] (.tp [7, 8]) (sZip (fCons (fVar 3) (fCons (fVar 6) (fNil)))) (fYes) (fCall g_sum_of [] (fCons (fNew (nDisp (fCons (fVar 7) (fCons (fVar 8) (fNil))))) (fNil))) ρ = some ((List.zipWith plus b (outP p rows.length rows had shut c)).map nf, ρ) :=
      zipsum_ok (L := bL k + 8) (xs := b) (ys := outP p rows.length rows had shut c) (by omega) (fun q hq => (hb q hq).mono (by omega)) o1 (by rw [hbl]; have := h.p4; omega) (ρ := ρ) (d2 := .tup ((outP p rows.length rows had shut c).map nf)) rfl rfl rfl (by decide) (show 7 < 9 by decide) (show 8 < 9 by decide)
    exact setE (ρ1 := ρ) (fnewE e)
  · obtain ⟨i, hi⟩ := List.mem_iff_getElem?.mp hq
    obtain ⟨x, y, e1, e2, rfl⟩ := zw_get _ _ _ _ _ hi
    exact (plus_fr (hb x (List.mem_of_getElem? e1)) (o1 y (List.mem_of_getElem? e2))).mono (by simp only [bL]; omega)
theorem borne_loop {p : Nat} {rows : List (List Nat)} (h : VP p rows) (pl od am : Sl) : ∀ (o : List Nat) (k : Nat) (had b : List Fc) (shut : List Nat) (s4 s5 s6 : Sl), Od rows.length shut o → had.length = rows.length → (∀ q ∈ had, Fr (bL k) q) → k + o.length ≤ 4 → (∀ q ∈ b, Fr (bL k) q) → b.length = p →
    ∃ (t4 t5 t6 : Sl), forL (.tp [4, 5, 6]) (bSet 3 (fNew (nLc [7, 8] (.tp [7, 8]) (sZip (fCons (fVar 3) (fCons (fVar 6) (fNil)))) (fYes) (fCall g_sum_of [] (fCons (fNew (nDisp (fCons (fVar 7) (fCons (fVar 8) (fNil))))) (fNil))))))
      ((closeP p rows.length rows o had shut).map stepD) [pl, od, am, .dat (.lst (b.map nf)), s4, s5, s6, .un, .un] = some (.nx, [pl, od, am, .dat (.lst ((foldB (closeP p rows.length rows o had shut) b).map nf)), t4, t5, t6, .un, .un])
      ∧ (∀ q ∈ foldB (closeP p rows.length rows o had shut) b, Fr (bL (k + o.length)) q) ∧ (foldB (closeP p rows.length rows o had shut) b).length = p
  | [], k, had, b, shut, s4, s5, s6, _, _, _, _, hb, hbl => ⟨s4, s5, s6, rfl, hb, hbl⟩
  | c :: o, k, had, b, shut, s4, s5, s6, hod, hl, hf, hk, hb, hbl => by
    obtain ⟨hc, hs⟩ := hod.lt c List.mem_cons_self
    simp only [List.length_cons] at hk
    obtain ⟨st, b1, b2⟩ := borne_step (k := k) (shut := shut) h hc hl hf (by omega) hb hbl pl od am (nf (had.getD c (0, 1)))
    obtain ⟨f1, f2⟩ := had_fr (shut := shut) h hc hl hf
    obtain ⟨t4, t5, t6, e, g1, g2⟩ := borne_loop h pl od am o (k + 1) (hadP p rows.length rows had shut c) (List.zipWith plus b (outP p rows.length rows had shut c)) (shut ++ [c]) (.dat (dI c)) (.dat (nf (had.getD c (0, 1)))) (.dat (.tup ((outP p rows.length rows had shut c).map nf))) hod.tail f2 f1 (by omega) b1 b2
    refine ⟨t4, t5, t6, ?_, by rw [List.length_cons, show k + (o.length + 1) = k + 1 + o.length by omega]; exact g1, g2⟩
    have bp : bindPt (.tp [4, 5, 6]) (stepD (c, had.getD c (0, 1), outP p rows.length rows had shut c)) [pl, od, am, .dat (.lst (b.map nf)), s4, s5, s6, .un, .un] = some [pl, od, am, .dat (.lst (b.map nf)), .dat (dI c), .dat (nf (had.getD c (0, 1))), .dat (.tup ((outP p rows.length rows had shut c).map nf)), .un, .un] := rfl
    simp only [closeP, List.map_cons, forL, bp, st]
    exact e
theorem rep_nf (p : Nat) : (List.replicate p [nf (0, 1)]).flatten = (List.replicate p ((0, 1) : Fc)).map nf := by
  induction p with
  | zero => rfl
  | succ p ih => rw [List.replicate_succ, List.flatten_cons, ih, List.replicate_succ, List.map_cons]; rfl
theorem bornF_fr {p : Nat} {rows : List (List Nat)} {o : List Nat} {had : List Fc} (h : VP p rows) (ho : Od rows.length [] o) (hol : o.length ≤ 4) (hl : had.length = rows.length) (hf : ∀ q ∈ had, Fr 20 q) : (∀ q ∈ bornF p rows o had, Fr 575 q) ∧ (bornF p rows o had).length = p := by
  obtain ⟨_, _, _, _, g1, g2⟩ := borne_loop h .un .un .un o 0 had (List.replicate p (0, 1)) [] .un .un .un ho hl hf (by omega) (fun q hq => by rw [(List.mem_replicate.mp hq).2]; exact fr_zero 20 (by decide)) (by simp)
  refine ⟨fun q hq => (g1 q hq).mono ?_, g2⟩
  exact Nat.le_trans (bL_mono (show 0 + o.length ≤ 4 by omega)) (by decide)
theorem bornein_ok {p : Nat} {rows : List (List Nat)} {o : List Nat} {had : List Fc} (h : VP p rows) (ho : Od rows.length [] o) (hol : o.length ≤ 4) (hl : had.length = rows.length) (hf : ∀ q ∈ had, Fr 20 q) :
    Ret g_borne_in [.dat (planD p rows), .dat (.tup (nl o)), .dat (.lst (had.map nf))] (.tup ((bornF p rows o had).map nf)) := by
  obtain ⟨t4, t5, t6, e, _, _⟩ := borne_loop h (.dat (planD p rows)) (.dat (.tup (nl o))) (.dat (.lst (had.map nf))) o 0 had (List.replicate p (0, 1)) [] .un .un .un ho hl hf (by omega) (fun q hq => by rw [(List.mem_replicate.mp hq).2]; exact fr_zero 20 (by decide)) (by simp)
  have hm : dMul (.lst [nf (0, 1)]) (dI p) = some (.lst ((List.replicate p ((0, 1) : Fc)).map nf)) := by
    have hc : (0 : Int) ≤ (p : Int) ∧ (p : Int) ≤ 1000 ∧ [nf (0, 1)].length ≤ 1000 := ⟨by omega, by have := h.p4; omega, by decide⟩
    simp only [dMul, if_pos hc, Int.toNat_natCast, rep_nf]
  let ρ3 : Ev := [.dat (planD p rows), .dat (.tup (nl o)), .dat (.lst (had.map nf)), .dat (.lst ((List.replicate p ((0, 1) : Fc)).map nf)), .un, .un, .un, .un, .un]
  have b : d_borne_in [.dat (planD p rows), .dat (.tup (nl o)), .dat (.lst (had.map nf)), .un, .un, .un, .un, .un, .un] = some (.rt (.tup ((bornF p rows o had).map nf)), [.dat (planD p rows), .dat (.tup (nl o)), .dat (.lst (had.map nf)), .dat (.lst ((bornF p rows o had).map nf)), t4, t5, t6, .un, .un]) := by
    refine seqE (ρ1 := ρ3) (setE (ρ1 := [.dat (planD p rows), .dat (.tup (nl o)), .dat (.lst (had.map nf)), .un, .un, .un, .un, .un, .un]) (binE (d := .lst [nf (0, 1)]) (fnewE (newE (consE rfl rfl) rfl (show 1 ≤ sLn by decide))) (methE0 rfl (pprod_ok p rows)) hm)) ?_
    refine seqE (forE (itmE (ρ1 := ρ3) (callD3 (ρ3 := ρ3) rfl rfl rfl (closings_ok h ho hol hl hf)) rfl rfl) rfl e) ?_
    exact retE (bltE (ds := [.lst ((bornF p rows o had).map nf)]) (consE rfl rfl) rfl rfl)
  refine ⟨[.dat (planD p rows), .dat (.tup (nl o)), .dat (.lst (had.map nf)), .dat (.lst ((bornF p rows o had).map nf)), t4, t5, t6, .un, .un], ?_, by simp⟩
  show frD (d_borne_in [.dat (planD p rows), .dat (.tup (nl o)), .dat (.lst (had.map nf)), .un, .un, .un, .un, .un, .un]) = _
  rw [b]
  rfl

/-! ### all orders -/
def permL : Nat → List Nat → List (List Nat)
  | 0, _ => [[]]
  | k + 1, cs => cs.flatMap fun c => (permL k (cs.filter (· ≠ c))).map (c :: ·)
def ordL (n : Nat) : List (List Nat) := permL n (List.range n)
def ordD (n : Nat) : List D := (ordL n).map fun o => .tup (nl o)
def ordChk (n : Nat) : Bool := (match g_all_orders [.dat (.lst (nl (List.range n)))] with
  | some (.lst ds, o) => D.beqs ds (ordD n) && decide (1 ≤ o.length)
  | _ => false) && ((match g__law_turns [.dat (dI n)] with
  | some (.lst ds, o) => D.beqs ds (ordD n) && decide (1 ≤ o.length)
  | _ => false) && ((ordL n).all fun o => decide (o.Nodup) && (o.all (fun c => decide (c < n)) && decide (o.length = n)) && decide ((ordL n).length ≤ 24)))
theorem ord_all : ([0, 1, 2, 3, 4] : List Nat).all ordChk = true := by kernel_rfl
theorem ord_ok {n : Nat} (h : n ≤ 4) : Ret g_all_orders [.dat (.lst (nl (List.range n)))] (.lst (ordD n)) ∧ Ret g__law_turns [.dat (dI n)] (.lst (ordD n)) ∧ ∀ o ∈ ordL n, Od n [] o ∧ o.length = n ∧ (ordL n).length ≤ 24 := by
  have hm : n ∈ ([0, 1, 2, 3, 4] : List Nat) := by
    have : n = 0 ∨ n = 1 ∨ n = 2 ∨ n = 3 ∨ n = 4 := by omega
    simpa using this
  have h1 := List.all_eq_true.mp ord_all n hm
  unfold ordChk at h1
  rw [Bool.and_eq_true, Bool.and_eq_true] at h1
  obtain ⟨h2, h3, h4⟩ := h1
  refine ⟨?_, ?_, fun o ho => ?_⟩
  · split at h2
    · rename_i ds o e
      rw [Bool.and_eq_true] at h2
      exact ⟨o, by rw [e, D.beqs_eq h2.1], of_decide_eq_true h2.2⟩
    · cases h2
  · split at h3
    · rename_i ds o e
      rw [Bool.and_eq_true] at h3
      exact ⟨o, by rw [e, D.beqs_eq h3.1], of_decide_eq_true h3.2⟩
    · cases h3
  · have h5 := List.all_eq_true.mp h4 o ho
    rw [Bool.and_eq_true, Bool.and_eq_true, Bool.and_eq_true] at h5
    obtain ⟨⟨h6, h7, h8⟩, h9⟩ := h5
    exact ⟨⟨fun c hc => ⟨of_decide_eq_true (List.all_eq_true.mp h7 c hc), by simp⟩, of_decide_eq_true h6⟩, of_decide_eq_true h8, of_decide_eq_true h9⟩
end SC

set_option Elab.async false
set_option linter.all false
set_option maxRecDepth 100000
namespace SC
open PySem PySem.Spec PyProof.Rows L2

/-! ### the law's closings -/
theorem mask_sum (left : List Nat) : ∀ (xs : List Nat) (k : Nat), (maskL left k xs).sum = (((List.range' k xs.length).filter fun i => decide (i ∈ left)).map fun i => xs.getD (i - k) 0).sum
  | [], _ => rfl
  | w :: ws, k => by
    have ih := mask_sum left ws (k + 1)
    have e : ((List.range' (k + 1) ws.length).filter fun i => decide (i ∈ left)).map (fun i => (w :: ws).getD (i - k) 0) = ((List.range' (k + 1) ws.length).filter fun i => decide (i ∈ left)).map (fun i => ws.getD (i - (k + 1)) 0) := by
      apply List.map_congr_left
      intro i hi
      have h1 := (List.mem_filter.mp hi).1
      rw [List.mem_range'_1] at h1
      rw [show i - k = (i - (k + 1)) + 1 by omega]
      rfl
    simp only [maskL, List.sum_cons, List.length_cons, List.range'_succ, List.filter_cons]
    by_cases hk : k ∈ left
    · rw [decide_eq_true hk, if_pos hk, if_pos rfl, List.map_cons, List.sum_cons, e, ih, Nat.sub_self]
      rfl
    · rw [decide_eq_false hk, if_neg hk, if_neg (by simp), e, ih, Nat.zero_add]
theorem rest_filter (n : Nat) (shut : List Nat) : ((List.range' 0 n).filter fun i => decide (i ∈ restL n shut)) = restL n shut := by
  rw [← List.range_eq_range']
  show (List.range n).filter _ = (List.range n).filter _
  apply List.filter_congr
  intro i hi
  have hi2 := List.mem_range.mp hi
  by_cases h : i ∈ shut
  · rw [decide_eq_false (fun z => (rest_mem.mp z).2 h), decide_eq_false (fun z => z h)]
  · rw [decide_eq_true (rest_mem.mpr ⟨hi2, h⟩), decide_eq_true h]
theorem wts_bottom {p n i : Nat} {ws : List Nat} (h : Row p n i ws) (shut : List Nat) : (ws.take p).sum + ((restL n shut).map fun i => ws.getD (p + i) 0).sum = (wtsL p (restL n shut) ws).sum := by
  rw [wtsL, List.sum_append, mask_sum]
  have hl : (ws.drop p).length = n := by rw [List.length_drop, h.len]; omega
  rw [hl, rest_filter]
  congr 2
  apply List.map_congr_left
  intro j _
  rw [List.getD_eq_getElem?_getD, List.getD_eq_getElem?_getD, List.getElem?_drop]
  rfl
/-- what the centres have behind a closing, the law's way -/
def goL (p : Nat) (ws rest : List Nat) (a : Fc) (S : Nat) : Nat → List Fc → List Fc
  | _, [] => []
  | k, q :: r => (if k ∈ rest then plus q (byf a (ws.getD (p + k) 0) S) else (0, 1)) :: goL p ws rest a S (k + 1) r
theorem go_len (p : Nat) (ws rest : List Nat) (a : Fc) (S : Nat) : ∀ (qs : List Fc) (k : Nat), (goL p ws rest a S k qs).length = qs.length
  | [], _ => rfl
  | q :: qs, k => by simp [goL, go_len p ws rest a S qs (k + 1)]
theorem go_get (p : Nat) (ws rest : List Nat) (a : Fc) (S : Nat) : ∀ (qs : List Fc) (k i : Nat), (goL p ws rest a S k qs)[i]? = qs[i]?.map fun q => if k + i ∈ rest then plus q (byf a (ws.getD (p + (k + i)) 0) S) else (0, 1)
  | [], _, _ => by simp [goL]
  | q :: qs, k, 0 => by simp [goL]
  | q :: qs, k, i + 1 => by
    simp only [goL, List.getElem?_cons_succ]
    rw [go_get p ws rest a S qs (k + 1) i, show k + 1 + i = k + (i + 1) by omega]
def hadL (p n : Nat) (rows : List (List Nat)) (had : List Fc) (shut : List Nat) (c : Nat) : List Fc :=
  goL p (rows.getD c []) (restL n (shut ++ [c])) (had.getD c (0, 1)) (wtsL p (restL n (shut ++ [c])) (rows.getD c [])).sum 0 had
def bornL (p n : Nat) (rows : List (List Nat)) (had b : List Fc) (shut : List Nat) (c : Nat) : List Fc :=
  List.zipWith (fun q w => plus q (byf (had.getD c (0, 1)) w (wtsL p (restL n (shut ++ [c])) (rows.getD c [])).sum)) b (rows.getD c [])
def lawS (p n : Nat) (rows : List (List Nat)) : List Nat → List Fc → List Fc → List Nat → List Fc
  | [], _, b, _ => b
  | c :: o, had, b, shut => lawS p n rows o (hadL p n rows had shut c) (bornL p n rows had b shut c) (shut ++ [c])
theorem take_same {p : Nat} {ws left : List Nat} {i : Nat} (hi : i < p) (hp : p ≤ ws.length) : (wtsL p left ws)[i]? = ws[i]? := by
  rw [wtsL, List.getElem?_append_left (by rw [List.length_take]; omega), List.getElem?_take, if_pos hi]
theorem born_same {p : Nat} {rows : List (List Nat)} {hl hp b : List Fc} {shut : List Nat} {c : Nat} (h : VP p rows) (hc : c < rows.length) (e : hl.getD c (0, 1) = hp.getD c (0, 1)) (hb : b.length = p) :
    bornL p rows.length rows hl b shut c = List.zipWith plus b (outP p rows.length rows hp shut c) := by
  have hr : rows[c]? = some (rows.getD c []) := by rw [List.getD_eq_getElem?_getD, List.getElem?_eq_getElem hc]; rfl
  have r := h.row c _ hr
  apply List.ext_getElem?
  intro i
  rw [bornL, outP, partsF, List.getElem?_zipWith, List.getElem?_zipWith, List.getElem?_map, e]
  by_cases hi : i < p
  · rw [take_same hi (by rw [r.len]; omega)]
    cases b[i]? with
    | none => rfl
    | some q => cases (rows.getD c [])[i]? with
      | none => rfl
      | some w => rfl
  · rw [List.getElem?_eq_none (show b.length ≤ i by omega)]
theorem had_same {p : Nat} {rows : List (List Nat)} {hl hp : List Fc} {shut : List Nat} {c : Nat} (h : VP p rows) (hc : c < rows.length) (ll : hl.length = rows.length) (lp : hp.length = rows.length) (R : ∀ i, i < rows.length → i ∉ shut → hl[i]? = hp[i]?) (hs : c ∉ shut) :
    ∀ i, i < rows.length → i ∉ shut ++ [c] → (hadL p rows.length rows hl shut c)[i]? = (hadP p rows.length rows hp shut c)[i]? := by
  intro i hi hni
  have hr : rows[c]? = some (rows.getD c []) := by rw [List.getD_eq_getElem?_getD, List.getElem?_eq_getElem hc]; rfl
  have r := h.row c _ hr
  have hrest : i ∈ restL rows.length (shut ++ [c]) := rest_mem.mpr ⟨hi, hni⟩
  have e1 : hl[i]? = hp[i]? := R i hi fun z => hni (List.mem_append_left _ z)
  have e2 : hl.getD c (0, 1) = hp.getD c (0, 1) := by rw [List.getD_eq_getElem?_getD, List.getD_eq_getElem?_getD, R c hc hs]
  rw [hadL, go_get, hadP, List.getElem?_zipWith, outP, partsF, e1, e2, Nat.zero_add]
  simp only [if_pos hrest]
  rw [List.getElem?_drop, List.getElem?_map, wtsL, List.getElem?_append_right (by rw [List.length_take, r.len]; omega), List.length_take, r.len, Nat.min_eq_left (Nat.le_add_right _ _), Nat.add_sub_cancel_left, mask_get, List.getElem?_drop, Nat.zero_add]
  simp only [if_pos hrest]
  have hw : ∀ (ws : List Nat) (j : Nat), j < ws.length → ws[j]? = some (ws.getD j 0) := fun ws j hj => by
    rw [List.getD_eq_getElem?_getD, List.getElem?_eq_getElem hj]; rfl
  rw [hw (rows.getD c []) (p + i) (by rw [r.len]; omega)]
  cases hp[i]? with
  | none => rfl
  | some q => rfl
theorem law_same {p : Nat} {rows : List (List Nat)} (h : VP p rows) : ∀ (o : List Nat) (hl hp b : List Fc) (shut : List Nat), Od rows.length shut o → hl.length = rows.length → hp.length = rows.length → (∀ i, i < rows.length → i ∉ shut → hl[i]? = hp[i]?) → b.length = p → lawS p rows.length rows o hl b shut = foldB (closeP p rows.length rows o hp shut) b
  | [], _, _, _, _, _, _, _, _, _ => rfl
  | c :: o, hl, hp, b, shut, hod, ll, lp, R, hb => by
    obtain ⟨hc, hs⟩ := hod.lt c List.mem_cons_self
    have hr : rows[c]? = some (rows.getD c []) := by rw [List.getD_eq_getElem?_getD, List.getElem?_eq_getElem hc]; rfl
    have r := h.row c _ hr
    have e2 : hl.getD c (0, 1) = hp.getD c (0, 1) := by rw [List.getD_eq_getElem?_getD, List.getD_eq_getElem?_getD, R c hc hs]
    have l1 : (hadL p rows.length rows hl shut c).length = rows.length := by rw [hadL, go_len]; exact ll
    have l2 : (hadP p rows.length rows hp shut c).length = rows.length := by
      rw [hadP, List.length_zipWith, List.length_drop, outP, partsF, List.length_map, wts_len r, lp]; omega
    have l3 : (List.zipWith plus b (outP p rows.length rows hp shut c)).length = p := by
      rw [List.length_zipWith, outP, partsF, List.length_map, wts_len r, hb]; omega
    simp only [lawS, closeP, foldB, List.foldl_cons]
    rw [born_same h hc e2 hb]
    exact law_same h o _ _ _ _ hod.tail l1 l2 (had_same h hc ll lp R hs) l3
theorem law_born {p : Nat} {rows : List (List Nat)} {o : List Nat} {had : List Fc} (h : VP p rows) (ho : Od rows.length [] o) (hl : had.length = rows.length) : lawS p rows.length rows o had (List.replicate p (0, 1)) [] = bornF p rows o had :=
  law_same h o had had _ [] ho hl hl (fun _ _ _ => rfl) (by simp)
end SC

set_option Elab.async false
set_option linter.all false
set_option maxRecDepth 100000
namespace SC
open PySem PySem.Spec PyProof.Rows L2

/-! ### the law's closings: the walk -/
def stS (sp : D) (had b : List Fc) (shut : List Nat) : D := .tup [sp, .tup (had.map nf), .tup (b.map nf), .tup (nl shut)]
theorem rest_filterD (n : Nat) (shut : List Nat) (c : Nat) : (nl (List.range n)).filter (fun d => match d with | .int i => !decide (i = (c : Int)) && !decide (i.toNat ∈ shut) | _ => false) = nl (restL n (shut ++ [c])) := by
  unfold nl restL
  rw [List.filter_map]
  congr 1
  apply List.filter_congr
  intro i _
  simp only [Function.comp]
  by_cases h : i = c
  · subst h; simp
  · have h2 : ¬ (i : Int) = (c : Int) := by omega
    simp [h, h2]
theorem had_frL {p k : Nat} {rows : List (List Nat)} {had : List Fc} {shut : List Nat} {c : Nat} (h : VP p rows) (hc : c < rows.length) (hl : had.length = rows.length) (hf : ∀ q ∈ had, Fr (bL k) q) : ∀ q ∈ hadL p rows.length rows had shut c, Fr (bL (k + 1)) q := fun q hq => by
  have hr : rows[c]? = some (rows.getD c []) := by rw [List.getD_eq_getElem?_getD, List.getElem?_eq_getElem hc]; rfl
  have r := h.row c _ hr
  have hm : had.getD c (0, 1) ∈ had := by
    rw [List.getD_eq_getElem?_getD, List.getElem?_eq_getElem (by omega)]
    exact List.getElem_mem _
  obtain ⟨i, hi⟩ := List.mem_iff_getElem?.mp hq
  rw [hadL, go_get] at hi
  obtain ⟨a, e1, e2⟩ := Option.map_eq_some_iff.mp hi
  have hil : i < rows.length := by have := (List.getElem?_eq_some_iff.mp e1).1; omega
  subst e2
  split
  · have hw : (rows.getD c []).getD (p + (0 + i)) 0 ≤ 20 := by
      refine r.le _ ?_
      have hlt : p + (0 + i) < (rows.getD c []).length := by rw [r.len]; omega
      rw [List.getD_eq_getElem?_getD (l := rows.getD c []), List.getElem?_eq_getElem hlt]
      exact List.getElem_mem _
    have := plus_fr (hf a (List.mem_of_getElem? e1)) (byf_fr (hf _ hm) (Nat.lt_of_le_of_lt hw (by decide)) (wts_sum h.p4 h.n4 r (restL rows.length (shut ++ [c]))) (wts_pos r (restL rows.length (shut ++ [c]))))
    exact this.mono (by simp only [bL]; omega)
  · exact fr_zero _ (by simp only [bL]; omega)
theorem shut_ok {p k c : Nat} {rows : List (List Nat)} {had b : List Fc} {shut : List Nat} (h : VP p rows) (hc : c < rows.length) (hl : had.length = rows.length) (hf : ∀ q ∈ had, Fr (bL k) q) (hk : k ≤ 3) (hb : ∀ q ∈ b, Fr (bL k) q) (hbl : b.length = p) (hsl : shut.length ≤ 4) (sp : D) :
    Ret g__law_shut [.dat (dI p), .dat (.lst (rows.map rowD)), .dat (stS sp had b shut), .dat (dI c)] (stS sp (hadL p rows.length rows had shut c) (bornL p rows.length rows had b shut c) (shut ++ [c])) := by
  have hr : rows[c]? = some (rows.getD c []) := by rw [List.getD_eq_getElem?_getD, List.getElem?_eq_getElem hc]; rfl
  have r := h.row c _ hr
  have hbL : bL k ≤ 279 := Nat.le_trans (bL_mono hk) (by decide)
  have hm : had.getD c (0, 1) ∈ had := by
    rw [List.getD_eq_getElem?_getD, List.getElem?_eq_getElem (by omega)]
    exact List.getElem_mem _
  have hrl : dLen [.lst (rows.map rowD)] = some (dI rows.length) := by
    show some (D.int ((rows.map rowD).length : Nat)) = _
    rw [List.length_map]
  generalize hws : rows.getD c [] = ws at r hr
  generalize ha : had.getD c (0, 1) = a at hm
  let rest := restL rows.length (shut ++ [c])
  let S := (wtsL p rest ws).sum
  have hS8 : S < 2 ^ 8 := wts_sum h.p4 h.n4 r rest
  have hS0 : 0 < S := wts_pos r rest
  have hrn : rest.length ≤ 4 := Nat.le_trans (List.length_filter_le _ _) (by rw [List.length_range]; exact h.n4)
  -- the frames
  let A : List Sl := [.dat (dI p), .dat (.lst (rows.map rowD)), .dat (stS sp had b shut), .dat (dI c), .dat sp, .dat (.tup (had.map nf)), .dat (.tup (b.map nf)), .dat (.tup (nl shut)), .dat (rowD ws), .dat (nf a), .own []]
  let ρ2 : Ev := A ++ [.un, .un, .un, .un, .un]
  let ρ3 : Ev := A ++ [.dat (.lst (nl rest)), .un, .un, .un, .un]
  let ρ4 : Ev := A ++ [.dat (.lst (nl rest)), .dat (dI S), .un, .un, .un]
  have lc1 : nLc [14] (.nm 14) (sRng (fCons (fBlt dLen (fCons (fVar 1) fNil)) (fNil))) (fAnd (fTest (fBin (dNe) (fVar 14) (fVar 3))) (fTest (fBin (dNotIn) (fVar 14) (fVar 7)))) (fVar 14) ρ2 = some (nl rest, ρ2) := by
    have hsrc : sRng (fCons (fBlt dLen (fCons (fVar 1) fNil)) fNil) ρ2 = some (nl (List.range rows.length), [], ρ2) := by
      rw [← rng_nl]
      exact sRng_ok (bltE (ds := [.lst (rows.map rowD)]) (consE rfl rfl) rfl hrl) (by have := h.n4; omega)
    have e := nLc_fm (own := [14]) (p := .nm 14) (src := sRng (fCons (fBlt dLen (fCons (fVar 1) fNil)) (fNil))) (ft := fAnd (fTest (fBin (dNe) (fVar 14) (fVar 3))) (fTest (fBin (dNotIn) (fVar 14) (fVar 7)))) (fe := fVar 14) (ρ := ρ2) (fun d => match d with | .int i => !decide (i = (c : Int)) && !decide (i.toNat ∈ shut) | _ => false) id hsrc (fun _ => rfl) (by rw [nl, List.length_map, List.length_range]; exact Nat.le_trans h.n4 (by decide)) (fun d hd => by
      obtain ⟨i, hi, rfl⟩ := List.mem_map.mp hd
      let ρa : Ev := A ++ [.un, .un, .un, .dat (dI i), .un]
      have t1 : fTest (fBin (dNe) (fVar 14) (fVar 3)) ρa = some (!decide (i = c), ρa) := testE (binE rfl rfl (ne_nat i c))
      have t2 : fTest (fBin (dNotIn) (fVar 14) (fVar 7)) ρa = some (!decide (i ∈ shut), ρa) := testE (binE rfl rfl (dNotIn_tup i shut))
      have hte : decide ((i : Int) = (c : Int)) = decide (i = c) := by
        by_cases hic : i = c
        · simp [hic]
        · rw [decide_eq_false hic, decide_eq_false (by omega)]
      refine ⟨ρa, ρa, rfl, ?_, fun _ => rfl, fun _ => ⟨ρa, rfl, rfl⟩⟩
      show fAnd _ _ ρa = some (!decide ((i : Int) = (c : Int)) && !decide ((i : Int).toNat ∈ shut), ρa)
      rw [hte, Int.toNat_natCast]
      by_cases hic : i = c
      · rw [decide_eq_true hic] at t1 ⊢
        exact andF t1
      · rw [decide_eq_false hic] at t1 ⊢
        rw [andT t1 t2]
        rfl)
    rw [rest_filterD, List.map_id] at e
    exact e
  have lc2 : nLc [14] (.nm 14) (sItm (fVar 11)) (fYes) (fBin dIdx (fVar 8) (fBin dAdd (fVar 0) (fVar 14))) ρ3 = some (nl (rest.map fun i => ws.getD (p + i) 0), ρ3) :=
    nLc_ix _ (itmE rfl rfl rfl) (getAll_dat _) (by rw [nl, List.length_map]; exact Nat.le_trans hrn (by decide)) (by rw [nl, nl, List.length_map, List.length_map, List.length_map]) (fun j d y hd hy => by
      rw [nl, List.getElem?_map] at hd
      obtain ⟨i, h2, rfl⟩ := Option.map_eq_some_iff.mp hd
      rw [nl, List.getElem?_map, List.getElem?_map, h2] at hy
      cases hy
      have hir := rest_mem.mp (List.mem_of_getElem? h2)
      have hw : ws[p + i]? = some (ws.getD (p + i) 0) := by
        rw [List.getD_eq_getElem?_getD, List.getElem?_eq_getElem (by rw [r.len]; omega)]; rfl
      exact ⟨A ++ [.dat (.lst (nl rest)), .un, .un, .dat (dI i), .un], A ++ [.dat (.lst (nl rest)), .un, .un, .dat (dI i), .un], rfl, binE rfl (binE rfl rfl (add_ok p i)) (idx_natT (by rw [List.getElem?_map, hw]; rfl)), rfl⟩)
  have hbot : (ws.take p).sum + (rest.map fun i => ws.getD (p + i) 0).sum = S := wts_bottom r (shut ++ [c])
  have hs1 : dSum [.tup ((nl ws).take p)] = some (dI (ws.take p).sum) := by
    rw [nl, ← List.map_take]
    exact dSum_tup _
  have hs2 : dSum [.lst (nl (rest.map fun i => ws.getD (p + i) 0))] = some (dI (rest.map fun i => ws.getD (p + i) 0).sum) := dSum_lst _
  have lc3 : nLc [14, 15] (.tp [14, 15]) (sZip (fCons (fVar 6) (fCons (fVar 8) (fNil)))) (fYes) (fCall g__law_plus [] (fCons (fVar 14) (fCons (fCall g__law_by [] (fCons (fVar 9) (fCons (fVar 15) (fCons (fVar 12) (fNil))))) (fNil)))) ρ4 = some ((List.zipWith (fun q w => plus q (byf a w S)) b ws).map nf, ρ4) := by
    have hsrc : sZip (fCons (fVar 6) (fCons (fVar 8) fNil)) ρ4 = some (zipD (b.map nf) (nl ws), [.dat (.tup (b.map nf)), .dat (rowD ws)], ρ4) := rfl
    refine nLc_ix _ hsrc (getAll_dat2 _ _) ?_ ?_ (fun j d y hd hy => ?_)
    · rw [zip_len, List.length_map, hbl]
      exact Nat.le_trans (Nat.le_trans (Nat.min_le_left _ _) h.p4) (by decide)
    · rw [zip_len, nl, List.length_map, List.length_map, List.length_map, List.length_zipWith]
    · rw [nl, zip_map] at hd
      obtain ⟨q, w, k1, k2, rfl⟩ := zw_get _ _ _ _ _ hd
      rw [List.getElem?_map, List.getElem?_zipWith, k1, k2] at hy
      cases hy
      have hw := r.le w (List.mem_of_getElem? k2)
      let ρa : Ev := A ++ [.dat (.lst (nl rest)), .dat (dI S), .un, .dat (nf q), .dat (dI w)]
      have hb1 := byf_fr (hf _ hm) (Nat.lt_of_le_of_lt hw (by decide)) hS8 hS0
      exact ⟨ρa, ρa, rfl, callD2 (ρ1 := ρa) (ρ2 := ρa) rfl (callD3 (ρ1 := ρa) (ρ2 := ρa) (ρ3 := ρa) rfl rfl rfl (lby_ok (hf _ hm) (Nat.lt_of_le_of_lt hw (by decide)) hS8 hS0 (by omega))) (lplus_ok (hb q (List.mem_of_getElem? k1)) hb1 (by omega)), rfl⟩
  let b' := List.zipWith (fun q w => plus q (byf a w S)) b ws
  let A5 : List Sl := [.dat (dI p), .dat (.lst (rows.map rowD)), .dat (stS sp had b shut), .dat (dI c), .dat sp, .dat (.tup (had.map nf)), .dat (.tup (b'.map nf)), .dat (.tup (nl shut)), .dat (rowD ws), .dat (nf a)]
  have loop : ∀ (qs : List Fc) (j : Nat) (acc : List Fc) (s13 s14 : Sl), (∀ q ∈ qs, Fr (bL k) q) → j + qs.length ≤ rows.length → acc.length = j → ∃ t13 t14, forL (.tp [13, 14]) (bExp (fLM lmApp 10 (fIf (fTest (fBin (dIn) (fVar 13) (fVar 11))) (fCall g__law_plus [] (fCons (fVar 14) (fCons (fCall g__law_by [] (fCons (fVar 9) (fCons (fBin dIdx (fVar 8) (fBin dAdd (fVar 0) (fVar 13))) (fCons (fVar 12) (fNil))))) (fNil)))) (fDisp .tup (fCons (fC (.int 0)) (fCons (fC (.int 1)) (fNil)))))))
      (enumD j (qs.map nf)) (A5 ++ [.own (acc.map nf), .dat (.lst (nl rest)), .dat (dI S), s13, s14, .un]) = some (.nx, A5 ++ [.own ((acc ++ goL p ws rest a S j qs).map nf), .dat (.lst (nl rest)), .dat (dI S), t13, t14, .un]) := by
    intro qs
    induction qs with
    | nil => intro j acc s13 s14 _ _ _; exact ⟨s13, s14, by simp only [goL, List.append_nil]; rfl⟩
    | cons q qs ih =>
      intro j acc s13 s14 hq hj hacc
      simp only [List.length_cons] at hj
      let v : Fc := if j ∈ rest then plus q (byf a (ws.getD (p + j) 0) S) else (0, 1)
      obtain ⟨t13, t14, e⟩ := ih (j + 1) (acc ++ [v]) (.dat (dI j)) (.dat (nf q)) (fun x hx => hq x (List.mem_cons_of_mem _ hx)) (by omega) (by rw [List.length_append, hacc]; rfl)
      refine ⟨t13, t14, ?_⟩
      let ρa : Ev := A5 ++ [.own (acc.map nf), .dat (.lst (nl rest)), .dat (dI S), .dat (dI j), .dat (nf q), .un]
      let ρb : Ev := A5 ++ [.own ((acc ++ [v]).map nf), .dat (.lst (nl rest)), .dat (dI S), .dat (dI j), .dat (nf q), .un]
      have bp : bindPt (.tp [13, 14]) (.tup [dI j, nf q]) (A5 ++ [.own (acc.map nf), .dat (.lst (nl rest)), .dat (dI S), s13, s14, .un]) = some ρa := rfl
      have t : fTest (fBin (dIn) (fVar 13) (fVar 11)) ρa = some (decide (j ∈ rest), ρa) := testE (binE rfl rfl (dIn_lst j rest))
      have hv : fIf (fTest (fBin (dIn) (fVar 13) (fVar 11))) (fCall g__law_plus [] (fCons (fVar 14) (fCons (fCall g__law_by [] (fCons (fVar 9) (fCons (fBin dIdx (fVar 8) (fBin dAdd (fVar 0) (fVar 13))) (fCons (fVar 12) (fNil))))) (fNil)))) (fDisp .tup (fCons (fC (.int 0)) (fCons (fC (.int 1)) (fNil)))) ρa = some (.dat (nf v), ρa) := by
        by_cases hjr : j ∈ rest
        · rw [decide_eq_true hjr] at t
          have hw : ws[p + j]? = some (ws.getD (p + j) 0) := by
            rw [List.getD_eq_getElem?_getD, List.getElem?_eq_getElem (by rw [r.len]; omega)]; rfl
          have hw20 : ws.getD (p + j) 0 ≤ 20 := r.le _ (List.mem_of_getElem? hw)
          have hb1 := byf_fr (hf _ hm) (Nat.lt_of_le_of_lt hw20 (by decide)) hS8 hS0
          have hve : v = plus q (byf a (ws.getD (p + j) 0) S) := if_pos hjr
          rw [hve]
          exact iteT t (callD2 (ρ1 := ρa) (ρ2 := ρa) rfl (callD3 (ρ1 := ρa) (ρ2 := ρa) (ρ3 := ρa) rfl (binE (ρ1 := ρa) (ρ2 := ρa) rfl (binE (ρ1 := ρa) (ρ2 := ρa) rfl rfl (add_ok p j)) (idx_natT (by rw [List.getElem?_map, hw]; rfl))) rfl (lby_ok (hf _ hm) (Nat.lt_of_le_of_lt hw20 (by decide)) hS8 hS0 (by omega))) (lplus_ok (hq q List.mem_cons_self) hb1 (by omega)))
        · rw [decide_eq_false hjr] at t
          have hve : v = (0, 1) := if_neg hjr
          rw [hve]
          exact iteF t (dispE (consE rfl (consE rfl rfl)) rfl (show 2 ≤ sLn by decide))
      have hacl : (acc.map nf).length < sLn := by
        rw [List.length_map, hacc]
        have := h.n4
        exact Nat.lt_of_le_of_lt (show j ≤ 4 by omega) (by decide)
      have ea : lmApp (acc.map nf) (nf v) = some (.non, (acc ++ [v]).map nf) := by
        simp only [lmApp, if_pos hacl, List.map_append, List.map_cons, List.map_nil]
      have st : bExp (fLM lmApp 10 (fIf (fTest (fBin (dIn) (fVar 13) (fVar 11))) (fCall g__law_plus [] (fCons (fVar 14) (fCons (fCall g__law_by [] (fCons (fVar 9) (fCons (fBin dIdx (fVar 8) (fBin dAdd (fVar 0) (fVar 13))) (fCons (fVar 12) (fNil))))) (fNil)))) (fDisp .tup (fCons (fC (.int 0)) (fCons (fC (.int 1)) (fNil)))))) ρa = some (.nx, ρb) :=
        expE (lmE (ρ1 := ρa) (ds0 := acc.map nf) (d := nf v) rfl hv rfl ea)
      simp only [List.map_cons, enumD, forL]
      rw [show bindPt (.tp [13, 14]) (.tup [.int ((j : Nat) : Int), nf q]) (A5 ++ [.own (acc.map nf), .dat (.lst (nl rest)), .dat (dI S), s13, s14, .un]) = some ρa from rfl]
      simp only [st]
      rw [goL, show acc ++ ((if j ∈ rest then plus q (byf a (ws.getD (p + j) 0) S) else (0, 1)) :: goL p ws rest a S (j + 1) qs) = (acc ++ [v]) ++ goL p ws rest a S (j + 1) qs by simp [v]]
      exact e
  obtain ⟨t13, t14, el⟩ := loop had 0 [] .un .un hf (by omega) rfl
  rw [List.nil_append] at el
  let had' := goL p ws rest a S 0 had
  have hadd : dAdd (.tup (nl shut)) (.tup [dI c]) = some (.tup (nl (shut ++ [c]))) := by
    have hcnd : (nl shut).length + [dI c].length ≤ sLn := by rw [nl, List.length_map]; exact Nat.le_trans (Nat.add_le_add_right hsl 1) (by decide)
    simp only [dAdd, if_pos hcnd]
    rw [nl, nl, List.map_append]
    rfl
  let ρ5 : Ev := A5 ++ [.own [], .dat (.lst (nl rest)), .dat (dI S), .un, .un, .un]
  let ρ6 : Ev := A5 ++ [.own (had'.map nf), .dat (.lst (nl rest)), .dat (dI S), t13, t14, .un]
  have b0 : d__law_shut ([.dat (dI p), .dat (.lst (rows.map rowD)), .dat (stS sp had b shut), .dat (dI c)] ++ List.replicate 12 .un) = some (.rt (stS sp had' b' (shut ++ [c])), ρ6) := by
    refine seqE (ρ1 := [.dat (dI p), .dat (.lst (rows.map rowD)), .dat (stS sp had b shut), .dat (dI c), .dat sp, .dat (.tup (had.map nf)), .dat (.tup (b.map nf)), .dat (.tup (nl shut)), .un, .un, .un, .un, .un, .un, .un, .un]) rfl ?_
    refine seqE (ρ1 := ρ2) (parE (ρ1 := [.dat (dI p), .dat (.lst (rows.map rowD)), .dat (stS sp had b shut), .dat (dI c), .dat sp, .dat (.tup (had.map nf)), .dat (.tup (b.map nf)), .dat (.tup (nl shut)), .un, .un, .un, .un, .un, .un, .un, .un]) (mDatE (d := rowD ws) (binE rfl rfl (idx_nat (by rw [List.getElem?_map, hr]; rfl))) (mDatE (d := nf a) (binE rfl rfl (idx_natT (by rw [List.getElem?_map, List.getElem?_eq_getElem (by omega), ← ha, List.getD_eq_getElem?_getD, List.getElem?_eq_getElem (by omega)]; rfl))) (mNewE (newE rfl rfl (by decide)) rfl))) rfl) ?_
    refine seqE (ρ1 := ρ3) (setE (ρ1 := ρ2) (fnewE lc1)) ?_
    refine seqE (ρ1 := ρ4) (setE (ρ1 := ρ3) (d := dI S) (binE (ρ1 := ρ3) (ρ2 := ρ3) (bltE (ρ1 := ρ3) (ds := [.tup ((nl ws).take p)]) (consE (slcTo (ρ1 := ρ3) (ρ2 := ρ3) (ds := nl ws) rfl rfl (by rw [row_len r]; omega)) rfl) rfl hs1) (bltE (ρ1 := ρ3) (ds := [.lst (nl (rest.map fun i => ws.getD (p + i) 0))]) (consE (fnewE lc2) rfl) rfl hs2) ((add_ok _ _).trans (by rw [hbot])))) ?_
    refine seqE (ρ1 := ρ5) (setE (ρ1 := ρ4) (d := .tup (b'.map nf)) (bltE (ρ1 := ρ4) (ds := [.lst (b'.map nf)]) (consE (fnewE lc3) rfl) rfl rfl)) ?_
    refine seqE (ρ1 := ρ6) (forE (ρ1 := ρ5) (ds := enumD 0 (had.map nf)) (os := [.dat (.tup (had.map nf))]) rfl rfl el) ?_
    exact retE (dispE (ρ1 := ρ6) (ds := [sp, .tup (had'.map nf), .tup (b'.map nf), .tup (nl (shut ++ [c]))]) (consE rfl (consE (bltE (ρ1 := ρ6) (os := [.slot 10]) (ds := [.lst (had'.map nf)]) rfl rfl rfl) (consE rfl (consE (binE (ρ1 := ρ6) (ρ2 := ρ6) rfl (dispE (ρ1 := ρ6) (ds := [dI c]) (consE rfl rfl) rfl (show 1 ≤ sLn by decide)) hadd) rfl)))) rfl (show 4 ≤ sLn by decide))
  refine ⟨ρ6, ?_, by simp [ρ6, A5]⟩
  show frD (d__law_shut ([.dat (dI p), .dat (.lst (rows.map rowD)), .dat (stS sp had b shut), .dat (dI c)] ++ List.replicate 12 .un)) = _
  rw [b0]
  have e1 : had' = hadL p rows.length rows had shut c := by simp only [had', hadL, hws, ha, S, rest]
  have e2 : b' = bornL p rows.length rows had b shut c := by simp only [b', bornL, hws, ha, S, rest]
  rw [e1, e2]
  rfl
end SC

set_option Elab.async false
set_option linter.all false
set_option maxRecDepth 100000
namespace SC
open PySem PySem.Spec PyProof.Rows L2

/-! ### all orders' totals, both ways -/
def had0 (cs : List Nat) : List Fc := cs.map fun c => (c, 1)
theorem had0_fr {n : Nat} {cs : List Nat} (h : Co n cs) : (∀ q ∈ had0 cs, Fr 20 q) ∧ (had0 cs).length = n := by
  refine ⟨fun q hq => ?_, by rw [had0, List.length_map, h.len]⟩
  obtain ⟨c, hc, rfl⟩ := List.mem_map.mp hq
  exact ⟨Nat.one_pos, Nat.gcd_one_right c, Nat.lt_of_le_of_lt (h.le c hc) (by decide), Nat.one_lt_two_pow (by decide)⟩
theorem law_loop {p : Nat} {rows : List (List Nat)} (h : VP p rows) (od : Sl) (sp : D) : ∀ (o : List Nat) (k : Nat) (had b : List Fc) (shut : List Nat) (s5 : Sl), Od rows.length shut o → had.length = rows.length → (∀ q ∈ had, Fr (bL k) q) → k + o.length ≤ 4 → (∀ q ∈ b, Fr (bL k) q) → b.length = p → shut.length ≤ k →
    ∃ (had' : List Fc) (shut' : List Nat) (t5 : Sl), forL (.nm 5) (bSet 4 (fCall g__law_shut [] (fCons (fVar 0) (fCons (fVar 1) (fCons (fVar 4) (fCons (fVar 5) (fNil))))))) (nl o) [.dat (dI p), .dat (.lst (rows.map rowD)), od, .dat sp, .dat (stS sp had b shut), s5, .un]
      = some (.nx, [.dat (dI p), .dat (.lst (rows.map rowD)), od, .dat sp, .dat (stS sp had' (lawS p rows.length rows o had b shut) shut'), t5, .un])
  | [], k, had, b, shut, s5, _, _, _, _, _, _, _ => ⟨had, shut, s5, rfl⟩
  | c :: o, k, had, b, shut, s5, hod, hl, hf, hk, hb, hbl, hsl => by
    obtain ⟨hc, hs⟩ := hod.lt c List.mem_cons_self
    simp only [List.length_cons] at hk
    have st := shut_ok (k := k) (shut := shut) h hc hl hf (by omega) hb hbl (by omega) sp
    obtain ⟨_, b1, b2⟩ := borne_step (k := k) (shut := shut) h hc hl hf (by omega) hb hbl .un .un .un .non
    rw [← born_same (hl := had) h hc rfl hbl] at b1 b2
    have f1 := had_frL (shut := shut) h hc hl hf
    have f2 : (hadL p rows.length rows had shut c).length = rows.length := by rw [hadL, go_len]; exact hl
    obtain ⟨had', shut', t5, e⟩ := law_loop h od sp o (k + 1) (hadL p rows.length rows had shut c) (bornL p rows.length rows had b shut c) (shut ++ [c]) (.dat (dI c)) hod.tail f2 f1 (by omega) b1 b2 (by rw [List.length_append]; simp; omega)
    refine ⟨had', shut', t5, ?_⟩
    let ρa : Ev := [.dat (dI p), .dat (.lst (rows.map rowD)), od, .dat sp, .dat (stS sp had b shut), .dat (dI c), .un]
    have bp : bindPt (.nm 5) (dI c) [.dat (dI p), .dat (.lst (rows.map rowD)), od, .dat sp, .dat (stS sp had b shut), s5, .un] = some ρa := rfl
    have bs : bSet 4 (fCall g__law_shut [] (fCons (fVar 0) (fCons (fVar 1) (fCons (fVar 4) (fCons (fVar 5) (fNil)))))) ρa = some (.nx, [.dat (dI p), .dat (.lst (rows.map rowD)), od, .dat sp, .dat (stS sp (hadL p rows.length rows had shut c) (bornL p rows.length rows had b shut c) (shut ++ [c])), .dat (dI c), .un]) :=
      setE (ρ1 := ρa) (callD4 (ρ1 := ρa) (ρ2 := ρa) (ρ3 := ρa) (ρ4 := ρa) rfl rfl rfl rfl st)
    show forL (.nm 5) _ (dI c :: nl o) _ = _
    simp only [forL, bp, bs]
    exact e
theorem mul_nothing {p : Nat} (h1 : 1 ≤ p) (h4 : p ≤ 4) : dMul (.tup [nf (0, 1)]) (dI p) = some (.tup ((List.replicate p ((0, 1) : Fc)).map nf)) := by
  rw [← rep_nf]
  by_cases hp : p = 1
  · subst hp
    rfl
  · have hn : ¬ ([nf (0, 1)] ≠ [] ∧ (p : Int) = 1) := fun z => hp (by have := z.2; omega)
    have hc : [nf (0, 1)] ≠ [] ∧ (2 : Int) ≤ (p : Int) ∧ (p : Int) ≤ 1000 ∧ [nf (0, 1)].length ≤ 1000 := ⟨by simp, by omega, by omega, by decide⟩
    simp only [dMul]
    rw [if_neg hn, if_pos hc, Int.toNat_natCast]
theorem borneby_ok {p : Nat} {rows : List (List Nat)} {o cs : List Nat} (h : VP p rows) (ho : Od rows.length [] o) (hol : o.length ≤ 4) (hc : Co rows.length cs) :
    Ret g__law_borne_by [.dat (dI p), .dat (.lst (rows.map rowD)), .dat (.tup (nl o)), .dat (.tup (nl cs))] (.tup ((bornF p rows o (had0 cs)).map nf)) := by
  obtain ⟨hf, hl⟩ := had0_fr hc
  obtain ⟨had', shut', t5, e⟩ := law_loop h (.dat (.tup (nl o))) (.tup (nl cs)) o 0 (had0 cs) (List.replicate p (0, 1)) [] .un ho hl hf (by omega) (fun q hq => by rw [(List.mem_replicate.mp hq).2]; exact fr_zero 20 (by decide)) (by simp) (Nat.le_refl _)
  rw [law_born h ho hl] at e
  let ρ0 : Ev := [.dat (dI p), .dat (.lst (rows.map rowD)), .dat (.tup (nl o)), .dat (.tup (nl cs)), .un, .un, .un]
  have lc : nLc [6] (.nm 6) (sItm (fVar 3)) (fYes) (fDisp .tup (fCons (fVar 6) (fCons (fC (.int 1)) (fNil)))) ρ0 = some ((had0 cs).map nf, ρ0) :=
    nLc_ix _ (itmE rfl rfl rfl) (getAll_dat _) (by rw [nl, List.length_map, hc.len]; exact Nat.le_trans h.n4 (by decide)) (by rw [nl, List.length_map, List.length_map, had0, List.length_map]) (fun k d y hk hy => by
      rw [nl, List.getElem?_map] at hk
      obtain ⟨w, h2, rfl⟩ := Option.map_eq_some_iff.mp hk
      rw [had0, List.getElem?_map, List.getElem?_map, h2] at hy
      cases hy
      let ρa : Ev := [.dat (dI p), .dat (.lst (rows.map rowD)), .dat (.tup (nl o)), .dat (.tup (nl cs)), .un, .un, .dat (dI w)]
      exact ⟨ρa, ρa, rfl, dispE (ρ1 := ρa) (ds := [dI w, .int 1]) (consE rfl (consE rfl rfl)) rfl (show 2 ≤ sLn by decide), rfl⟩)
  let ρ4 : Ev := [.dat (dI p), .dat (.lst (rows.map rowD)), .dat (.tup (nl o)), .dat (.tup (nl cs)), .dat (stS (.tup (nl cs)) (had0 cs) (List.replicate p (0, 1)) []), .un, .un]
  have b : d__law_borne_by ρ0 = some (.rt (.tup ((bornF p rows o (had0 cs)).map nf)), [.dat (dI p), .dat (.lst (rows.map rowD)), .dat (.tup (nl o)), .dat (.tup (nl cs)), .dat (stS (.tup (nl cs)) had' (bornF p rows o (had0 cs)) shut'), t5, .un]) := by
    refine seqE (ρ1 := ρ4) (setE (ρ1 := ρ0) (dispE (ρ1 := ρ0) (ds := [.tup (nl cs), .tup ((had0 cs).map nf), .tup ((List.replicate p ((0, 1) : Fc)).map nf), .tup []]) (consE rfl (consE (bltE (ρ1 := ρ0) (ds := [.lst ((had0 cs).map nf)]) (consE (fnewE lc) rfl) rfl rfl) (consE (binE (ρ1 := ρ0) (ρ2 := ρ0) (d := .tup [nf (0, 1)]) (dispE (ρ1 := ρ0) (ds := [nf (0, 1)]) (consE (dispE (ρ1 := ρ0) (ds := [.int 0, .int 1]) (consE rfl (consE rfl rfl)) rfl (show 2 ≤ sLn by decide)) rfl) rfl (show 1 ≤ sLn by decide)) rfl (mul_nothing h.p1 h.p4)) (consE (dispE (ρ1 := ρ0) (ds := []) rfl rfl (by decide)) rfl)))) rfl (show 4 ≤ sLn by decide))) ?_
    refine seqE (forE (ρ1 := ρ4) (ds := nl o) (os := [.dat (.tup (nl o))]) rfl rfl e) ?_
    exact retE rfl
  refine ⟨[.dat (dI p), .dat (.lst (rows.map rowD)), .dat (.tup (nl o)), .dat (.tup (nl cs)), .dat (stS (.tup (nl cs)) had' (bornF p rows o (had0 cs)) shut'), t5, .un], ?_, by simp⟩
  show frD (d__law_borne_by ρ0) = _
  rw [b]
  rfl
theorem asfrac_ok (c : Nat) : Ret g_as_fraction [.dat (dI c)] (nf (c, 1)) := ⟨_, rfl, Nat.le_refl _⟩
def bothD (p : Nat) (rows : List (List Nat)) (cs : List Nat) (o : List Nat) : D := .tup [.tup (nl o), .tup ((bornF p rows o (had0 cs)).map nf)]
theorem allborne_ok {p : Nat} {rows : List (List Nat)} {cs : List Nat} (h : VP p rows) (hc : Co rows.length cs) : Ret g_all_borne [.dat (planD p rows), .dat (.tup (nl cs))] (.lst ((ordL rows.length).map (bothD p rows cs))) := by
  obtain ⟨hf, hl⟩ := had0_fr hc
  obtain ⟨ho1, _, ho3⟩ := ord_ok h.n4
  let ρ0 : Ev := [.dat (planD p rows), .dat (.tup (nl cs)), .un, .un, .un]
  have lc : nLc [3] (.nm 3) (sItm (fVar 1)) (fYes) (fCall g_as_fraction [] (fCons (fVar 3) (fNil))) ρ0 = some ((had0 cs).map nf, ρ0) :=
    nLc_ix _ (itmE rfl rfl rfl) (getAll_dat _) (by rw [nl, List.length_map, hc.len]; exact Nat.le_trans h.n4 (by decide)) (by rw [nl, List.length_map, List.length_map, had0, List.length_map]) (fun k d y hk hy => by
      rw [nl, List.getElem?_map] at hk
      obtain ⟨w, h2, rfl⟩ := Option.map_eq_some_iff.mp hk
      rw [had0, List.getElem?_map, List.getElem?_map, h2] at hy
      cases hy
      let ρa : Ev := [.dat (planD p rows), .dat (.tup (nl cs)), .un, .dat (dI w), .un]
      exact ⟨ρa, ρa, rfl, callD1 (ρ1 := ρa) rfl (asfrac_ok w), rfl⟩)
  let ρ2 : Ev := [.dat (planD p rows), .dat (.tup (nl cs)), .dat (.lst ((had0 cs).map nf)), .un, .un]
  have e0 : fCall g_all_orders [] (fCons (fNew (nRg (fLen 0 g_Plan___len__ (fVar 0)))) (fNil)) ρ2 = some (.dat (.lst (ordD rows.length)), ρ2) :=
    callD1 (ρ1 := ρ2) (fnewE (nRg_ok (lenIE (ρ1 := ρ2) rfl (plen_ok p rows) (by have := h.n4; omega)) (by have := h.n4; omega))) ho1
  have lc2 : nLc [4] (.nm 4) (sItm (fCall g_all_orders [] (fCons (fNew (nRg (fLen 0 g_Plan___len__ (fVar 0)))) (fNil)))) (fYes) (fDisp .tup (fCons (fVar 4) (fCons (fCall g_borne_in [] (fCons (fVar 0) (fCons (fVar 4) (fCons (fVar 2) (fNil))))) (fNil)))) ρ2 = some ((ordL rows.length).map (bothD p rows cs), ρ2) := by
    have hlen : (ordD rows.length).length ≤ sLn := by
      rw [ordD, List.length_map]
      cases e : ordL rows.length with
      | nil => exact Nat.zero_le _
      | cons o os =>
        have := (ho3 o (by rw [e]; exact List.mem_cons_self)).2.2
        rw [e] at this
        exact Nat.le_trans this (by decide)
    exact nLc_ix _ (itmE (ρ1 := ρ2) e0 rfl rfl) (getAll_dat _) hlen (by rw [ordD, List.length_map, List.length_map]) (fun k d y hk hy => by
      rw [ordD, List.getElem?_map] at hk
      obtain ⟨o, h2, rfl⟩ := Option.map_eq_some_iff.mp hk
      rw [List.getElem?_map, h2] at hy
      cases hy
      obtain ⟨od, ol, _⟩ := ho3 o (List.mem_of_getElem? h2)
      let ρa : Ev := [.dat (planD p rows), .dat (.tup (nl cs)), .dat (.lst ((had0 cs).map nf)), .un, .dat (.tup (nl o))]
      exact ⟨ρa, ρa, rfl, dispE (ρ1 := ρa) (consE rfl (consE (callD3 (ρ1 := ρa) (ρ2 := ρa) (ρ3 := ρa) rfl rfl rfl (bornein_ok h od (by rw [ol]; exact h.n4) hl hf)) rfl)) rfl (show 2 ≤ sLn by decide), rfl⟩)
  have b : d_all_borne ρ0 = some (.rt (.lst ((ordL rows.length).map (bothD p rows cs))), ρ2) := by
    refine seqE (ρ1 := ρ2) (setE (ρ1 := ρ0) (fnewE lc)) ?_
    exact retE (fnewE lc2)
  refine ⟨ρ2, ?_, by simp [ρ2]⟩
  show frD (d_all_borne ρ0) = _
  rw [b]
  rfl

/-! ### the least and the greatest -/
def endsStep (x : Fc × Fc) (q : Fc) : Fc × Fc := (if lessf q x.1 = true then q else x.1, if lessf x.2 q = true then q else x.2)
def endsF (F : List Fc) : Fc × Fc := F.foldl endsStep (F.headD (0, 1), F.headD (0, 1))
def endsD (F : List Fc) : D := .tup [nf (endsF F).1, nf (endsF F).2]
theorem ends_fr {L : Nat} : ∀ (F : List Fc) (x : Fc × Fc), (∀ q ∈ F, Fr L q) → Fr L x.1 → Fr L x.2 → Fr L (F.foldl endsStep x).1 ∧ Fr L (F.foldl endsStep x).2
  | [], _, _, h1, h2 => ⟨h1, h2⟩
  | q :: F, x, h, h1, h2 => by
    have hq := h q List.mem_cons_self
    refine ends_fr F (endsStep x q) (fun r hr => h r (List.mem_cons_of_mem _ hr)) ?_ ?_
    · show Fr L (if lessf q x.1 = true then q else x.1)
      split
      · exact hq
      · exact h1
    · show Fr L (if lessf x.2 q = true then q else x.2)
      split
      · exact hq
      · exact h2
theorem pick_ok {ft : FT} {ρ : Ev} {i j : Nat} {q r : Fc} {c : Bool} (ht : ft ρ = some (c, ρ)) (h1 : fVar i ρ = some (.dat (nf q), ρ)) (h2 : fVar j ρ = some (.dat (nf r), ρ)) : fIf ft (fVar i) (fVar j) ρ = some (.dat (nf (if c = true then q else r)), ρ) := by
  cases c with
  | true => exact iteT ht h1
  | false => exact iteF ht h2
theorem lends_loop (fd : Sl) : ∀ (F : List Fc) (x : Fc × Fc) (s3 : Sl), (∀ q ∈ F, Fr 575 q) → Fr 575 x.1 → Fr 575 x.2 → ∃ t3, forL (.nm 3) (bSeq (bSet 1 (fIf (fTest (fCall g__law_less [] (fCons (fVar 3) (fCons (fVar 1) (fNil))))) (fVar 3) (fVar 1))) (bSet 2 (fIf (fTest (fCall g__law_less [] (fCons (fVar 2) (fCons (fVar 3) (fNil))))) (fVar 3) (fVar 2)))) (F.map nf) [fd, .dat (nf x.1), .dat (nf x.2), s3] = some (.nx, [fd, .dat (nf (F.foldl endsStep x).1), .dat (nf (F.foldl endsStep x).2), t3])
  | [], _, s3, _, _, _ => ⟨s3, rfl⟩
  | q :: F, x, s3, h, h1, h2 => by
    have hq := h q List.mem_cons_self
    obtain ⟨f1, f2⟩ := ends_fr [q] x (by simpa using hq) h1 h2
    obtain ⟨t3, e⟩ := lends_loop fd F (endsStep x q) (.dat (nf q)) (fun r hr => h r (List.mem_cons_of_mem _ hr)) f1 f2
    refine ⟨t3, ?_⟩
    let ρa : Ev := [fd, .dat (nf x.1), .dat (nf x.2), .dat (nf q)]
    let ρb : Ev := [fd, .dat (nf (endsStep x q).1), .dat (nf x.2), .dat (nf q)]
    have bp : bindPt (.nm 3) (nf q) [fd, .dat (nf x.1), .dat (nf x.2), s3] = some ρa := rfl
    have st : bSeq (bSet 1 (fIf (fTest (fCall g__law_less [] (fCons (fVar 3) (fCons (fVar 1) (fNil))))) (fVar 3) (fVar 1))) (bSet 2 (fIf (fTest (fCall g__law_less [] (fCons (fVar 2) (fCons (fVar 3) (fNil))))) (fVar 3) (fVar 2))) ρa = some (.nx, [fd, .dat (nf (endsStep x q).1), .dat (nf (endsStep x q).2), .dat (nf q)]) :=
      seqE (ρ1 := ρb) (setE (ρ1 := ρa) (pick_ok (testE (callD2 (ρ1 := ρa) (ρ2 := ρa) rfl rfl (lless_ok hq h1 (by decide)))) rfl rfl)) (setE (ρ1 := ρb) (pick_ok (testE (callD2 (ρ1 := ρb) (ρ2 := ρb) rfl rfl (lless_ok h2 hq (by decide)))) rfl rfl))
    simp only [List.map_cons, forL, bp, st]
    exact e
theorem lends_ok {F : List Fc} (hne : F ≠ []) (h : ∀ q ∈ F, Fr 575 q) : Ret g__law_ends [.dat (.lst (F.map nf))] (endsD F) := by
  cases F with
  | nil => exact absurd rfl hne
  | cons q F =>
    have hq := h q List.mem_cons_self
    obtain ⟨t3, e⟩ := lends_loop (.dat (.lst ((q :: F).map nf))) (q :: F) (q, q) .un h hq hq
    have hi : dIdx (.lst ((q :: F).map nf)) (.int 0) = some (nf q) := idx_nat (k := 0) rfl
    have b : d__law_ends [.dat (.lst ((q :: F).map nf)), .un, .un, .un] = some (.rt (endsD (q :: F)), [.dat (.lst ((q :: F).map nf)), .dat (nf (endsF (q :: F)).1), .dat (nf (endsF (q :: F)).2), t3]) := by
      refine seqE (parE (mDatE (binE rfl rfl hi) (mDatE (binE rfl rfl hi) rfl)) rfl) ?_
      refine seqE (forE (itmE rfl rfl rfl) rfl e) ?_
      exact retE (dispE (consE rfl (consE rfl rfl)) rfl (show 2 ≤ sLn by decide))
    refine ⟨[.dat (.lst ((q :: F).map nf)), .dat (nf (endsF (q :: F)).1), .dat (nf (endsF (q :: F)).2), t3], ?_, by simp⟩
    show frD (d__law_ends [.dat (.lst ((q :: F).map nf)), .un, .un, .un]) = _
    rw [b]
    rfl
theorem btw_loop (a0 a1 a2 a3 : Sl) : ∀ (F : List Fc) (x : Fc × Fc) (s6 : Sl), (∀ q ∈ F, Fr 575 q) → Fr 575 x.1 → Fr 575 x.2 → ∃ t6, forL (.nm 6) (bSeq (bSet 4 (fIf (fTest (fCall g_is_less [] (fCons (fVar 6) (fCons (fVar 4) (fNil))))) (fVar 6) (fVar 4))) (bSet 5 (fIf (fTest (fCall g_is_less [] (fCons (fVar 5) (fCons (fVar 6) (fNil))))) (fVar 6) (fVar 5)))) (F.map nf) [a0, a1, a2, a3, .dat (nf x.1), .dat (nf x.2), s6, .un, .un] = some (.nx, [a0, a1, a2, a3, .dat (nf (F.foldl endsStep x).1), .dat (nf (F.foldl endsStep x).2), t6, .un, .un])
  | [], _, s6, _, _, _ => ⟨s6, rfl⟩
  | q :: F, x, s6, h, h1, h2 => by
    have hq := h q List.mem_cons_self
    obtain ⟨f1, f2⟩ := ends_fr [q] x (by simpa using hq) h1 h2
    obtain ⟨t6, e⟩ := btw_loop a0 a1 a2 a3 F (endsStep x q) (.dat (nf q)) (fun r hr => h r (List.mem_cons_of_mem _ hr)) f1 f2
    refine ⟨t6, ?_⟩
    let ρa : Ev := [a0, a1, a2, a3, .dat (nf x.1), .dat (nf x.2), .dat (nf q), .un, .un]
    let ρb : Ev := [a0, a1, a2, a3, .dat (nf (endsStep x q).1), .dat (nf x.2), .dat (nf q), .un, .un]
    have bp : bindPt (.nm 6) (nf q) [a0, a1, a2, a3, .dat (nf x.1), .dat (nf x.2), s6, .un, .un] = some ρa := rfl
    have st : bSeq (bSet 4 (fIf (fTest (fCall g_is_less [] (fCons (fVar 6) (fCons (fVar 4) (fNil))))) (fVar 6) (fVar 4))) (bSet 5 (fIf (fTest (fCall g_is_less [] (fCons (fVar 5) (fCons (fVar 6) (fNil))))) (fVar 6) (fVar 5))) ρa = some (.nx, [a0, a1, a2, a3, .dat (nf (endsStep x q).1), .dat (nf (endsStep x q).2), .dat (nf q), .un, .un]) :=
      seqE (ρ1 := ρb) (setE (ρ1 := ρa) (pick_ok (testE (callD2 (ρ1 := ρa) (ρ2 := ρa) rfl rfl (less_ok hq h1 (by decide)))) rfl rfl)) (setE (ρ1 := ρb) (pick_ok (testE (callD2 (ρ1 := ρb) (ρ2 := ρb) rfl rfl (less_ok h2 hq (by decide)))) rfl rfl))
    simp only [List.map_cons, forL, bp, st]
    exact e
end SC

set_option Elab.async false
set_option linter.all false
set_option maxRecDepth 100000
namespace SC
open PySem PySem.Spec PyProof.Rows L2

/-! ### between -/
def tots (p : Nat) (rows : List (List Nat)) (cs : List Nat) (g : Nat) : List Fc := (ordL rows.length).map fun o => (bornF p rows o (had0 cs)).getD g (0, 1)
theorem tots_fr {p : Nat} {rows : List (List Nat)} {cs : List Nat} {g : Nat} (h : VP p rows) (hc : Co rows.length cs) (hg : g < p) : (∀ q ∈ tots p rows cs g, Fr 575 q) ∧ tots p rows cs g ≠ [] := by
  obtain ⟨hf, hl⟩ := had0_fr hc
  obtain ⟨_, _, ho3⟩ := ord_ok h.n4
  refine ⟨fun q hq => ?_, fun z => ?_⟩
  · obtain ⟨o, ho, rfl⟩ := List.mem_map.mp hq
    obtain ⟨od, ol, _⟩ := ho3 o ho
    obtain ⟨b1, b2⟩ := bornF_fr h od (by rw [ol]; exact h.n4) hl hf
    have hlt : g < (bornF p rows o (had0 cs)).length := by rw [b2]; exact hg
    rw [List.getD_eq_getElem?_getD, List.getElem?_eq_getElem hlt]
    exact b1 _ (List.getElem_mem _)
  · have e : ordL rows.length = [] := List.map_eq_nil_iff.mp z
    have hn : rows.length = 1 ∨ rows.length = 2 ∨ rows.length = 3 ∨ rows.length = 4 := by have := h.n1; have := h.n4; omega
    rcases hn with hn | hn | hn | hn <;> rw [hn] at e <;> exact absurd (congrArg List.length e) (by decide +kernel)
theorem born_idx {p g : Nat} {rows : List (List Nat)} {o cs : List Nat} (h : VP p rows) (ho : Od rows.length [] o) (hol : o.length ≤ 4) (hc : Co rows.length cs) (hg : g < p) : dIdx (.tup ((bornF p rows o (had0 cs)).map nf)) (dI g) = some (nf ((bornF p rows o (had0 cs)).getD g (0, 1))) := by
  obtain ⟨hf, hl⟩ := had0_fr hc
  obtain ⟨_, b2⟩ := bornF_fr h ho hol hl hf
  have hlt : g < (bornF p rows o (had0 cs)).length := by rw [b2]; exact hg
  exact idx_natT (by rw [List.getElem?_map, List.getD_eq_getElem?_getD, List.getElem?_eq_getElem hlt]; rfl)
theorem ord_len {n : Nat} (h : n ≤ 4) : (ordL n).length ≤ 24 := by
  cases e : ordL n with
  | nil => exact Nat.zero_le _
  | cons o os =>
    have := ((ord_ok h).2.2 o (by rw [e]; exact List.mem_cons_self)).2.2
    rw [e] at this
    exact this
theorem between_ok {p g : Nat} {rows : List (List Nat)} {cs : List Nat} (h : VP p rows) (hc : Co rows.length cs) (hg : g < p) : Ret g_between [.dat (planD p rows), .dat (.tup (nl cs)), .dat (dI g)] (endsD (tots p rows cs g)) := by
  obtain ⟨_, _, ho3⟩ := ord_ok h.n4
  obtain ⟨t1, t2⟩ := tots_fr h hc hg
  let ρ0 : Ev := [.dat (planD p rows), .dat (.tup (nl cs)), .dat (dI g), .un, .un, .un, .un, .un, .un]
  have hsub : dSub (dI p) (.int 1) = some (dI (p - 1)) := by
    have e : (p : Int) - 1 = ((p - 1 : Nat) : Int) := by have := h.p1; omega
    simp only [dSub, e]
  have lc : nLc [7, 8] (.tp [7, 8]) (sItm (fCall g_all_borne [] (fCons (fVar 0) (fCons (fVar 1) (fNil))))) (fYes) (fBin dIdx (fVar 8) (fVar 2)) ρ0 = some ((tots p rows cs g).map nf, ρ0) :=
    nLc_ix _ (itmE (ρ1 := ρ0) (callD2 (ρ1 := ρ0) (ρ2 := ρ0) rfl rfl (allborne_ok h hc)) rfl rfl) (getAll_dat _) (by rw [List.length_map]; exact Nat.le_trans (ord_len h.n4) (by decide)) (by rw [List.length_map, List.length_map, tots, List.length_map]) (fun k d y hk hy => by
      rw [List.getElem?_map] at hk
      obtain ⟨o, h2, rfl⟩ := Option.map_eq_some_iff.mp hk
      rw [tots, List.getElem?_map, List.getElem?_map, h2] at hy
      cases hy
      obtain ⟨od, ol, _⟩ := ho3 o (List.mem_of_getElem? h2)
      let ρa : Ev := [.dat (planD p rows), .dat (.tup (nl cs)), .dat (dI g), .un, .un, .un, .un, .dat (.tup (nl o)), .dat (.tup ((bornF p rows o (had0 cs)).map nf))]
      exact ⟨ρa, ρa, rfl, binE (ρ1 := ρa) rfl rfl (born_idx h od (by rw [ol]; exact h.n4) hc hg), rfl⟩)
  cases eF : tots p rows cs g with
  | nil => exact absurd eF t2
  | cons q F =>
    rw [eF] at t1 lc
    have hq := t1 q List.mem_cons_self
    let ρ3 : Ev := [.dat (planD p rows), .dat (.tup (nl cs)), .dat (dI g), .dat (.lst ((q :: F).map nf)), .un, .un, .un, .un, .un]
    let ρ4 : Ev := [.dat (planD p rows), .dat (.tup (nl cs)), .dat (dI g), .dat (.lst ((q :: F).map nf)), .dat (nf q), .dat (nf q), .un, .un, .un]
    obtain ⟨t6, e⟩ := btw_loop (.dat (planD p rows)) (.dat (.tup (nl cs))) (.dat (dI g)) (.dat (.lst ((q :: F).map nf))) (q :: F) (q, q) .un t1 hq hq
    have hi : dIdx (.lst ((q :: F).map nf)) (.int 0) = some (nf q) := idx_nat (k := 0) rfl
    have b : d_between ρ0 = some (.rt (endsD (q :: F)), [.dat (planD p rows), .dat (.tup (nl cs)), .dat (dI g), .dat (.lst ((q :: F).map nf)), .dat (nf (endsF (q :: F)).1), .dat (nf (endsF (q :: F)).2), t6, .un, .un]) := by
      refine seqE (ρ1 := ρ0) (expE (callD1 (ρ1 := ρ0) rfl (needplan_ok p rows))) ?_
      refine seqE (ρ1 := ρ0) (expE (callD2 (ρ1 := ρ0) (ρ2 := ρ0) rfl rfl (needcosts_ok h hc))) ?_
      refine seqE (ρ1 := ρ0) (ifF (ρ1 := ρ0) (notE (testE (callD3 (ρ1 := ρ0) (ρ2 := ρ0) (ρ3 := ρ0) rfl rfl (binE (ρ1 := ρ0) (ρ2 := ρ0) (methE0 (ρ1 := ρ0) rfl (pprod_ok p rows)) rfl hsub) (btw_ok (lo := 0) (hi := p - 1) (Nat.zero_le _) (by omega))))) rfl) ?_
      refine seqE (ρ1 := ρ3) (setE (ρ1 := ρ0) (fnewE lc)) ?_
      refine seqE (ρ1 := ρ4) (parE (ρ1 := ρ3) (mDatE (binE (ρ1 := ρ3) (ρ2 := ρ3) rfl rfl hi) (mDatE (binE (ρ1 := ρ3) (ρ2 := ρ3) rfl rfl hi) rfl)) rfl) ?_
      refine seqE (forE (ρ1 := ρ4) (ds := (q :: F).map nf) (os := [.dat (.lst ((q :: F).map nf))]) rfl rfl e) ?_
      exact retE (dispE (consE rfl (consE rfl rfl)) rfl (show 2 ≤ sLn by decide))
    refine ⟨[.dat (planD p rows), .dat (.tup (nl cs)), .dat (dI g), .dat (.lst ((q :: F).map nf)), .dat (nf (endsF (q :: F)).1), .dat (nf (endsF (q :: F)).2), t6, .un, .un], ?_, by simp⟩
    show frD (d_between ρ0) = _
    rw [b]
    rfl

/-! ### the law -/
theorem nf_tm {q : Fc} (h : Fr 575 q) : Tm 1 1300 (nf q) := by
  refine (tm_tup (k := 0) (w := 640) (ds := [.int (q.1 : Int), .int (q.2 : Int)]) (fun d hd => ?_)).mono (Nat.le_refl _) (show 2 * (640 + 2) + 3 ≤ 1300 by decide)
  simp only [List.mem_cons, List.not_mem_nil, or_false] at hd
  rcases hd with rfl | rfl
  · exact tm_nat h.n (by decide)
  · exact tm_nat h.d (by decide)
theorem endsD_tm {F : List Fc} (hne : F ≠ []) (h : ∀ q ∈ F, Fr 575 q) : Tm 2 2700 (endsD F) := by
  cases F with
  | nil => exact absurd rfl hne
  | cons q F =>
    have hq := h q List.mem_cons_self
    obtain ⟨h1, h2⟩ := ends_fr (q :: F) (q, q) h hq hq
    refine (tm_tup (k := 1) (w := 1300) (ds := [nf (endsF (q :: F)).1, nf (endsF (q :: F)).2]) (fun d hd => ?_)).mono (Nat.le_refl _) (show 2 * (1300 + 2) + 3 ≤ 2700 by decide)
    simp only [List.mem_cons, List.not_mem_nil, or_false] at hd
    rcases hd with rfl | rfl
    · exact nf_tm h1
    · exact nf_tm h2
theorem same_ok {d : D} {z : Str} (h1 : dRepr [d] = some (.str z)) (h2 : shD (.str z) = true) : Ret g__law_same [.dat d, .dat d] (.bl true) := by
  refine ⟨[.dat d, .dat d], ?_, Nat.le_refl _⟩
  have b : d__law_same [.dat d, .dat d] = some (.rt (.bl true), [.dat d, .dat d]) :=
    retE (binE (ρ1 := [.dat d, .dat d]) (ρ2 := [.dat d, .dat d]) (bltE (ds := [d]) (consE rfl rfl) rfl h1) (bltE (ds := [d]) (consE rfl rfl) rfl h1) (eq_str h2))
  show frD (d__law_same [.dat d, .dat d]) = _
  rw [b]
  rfl
theorem same_lst {k w : Nat} {ds : List D} (h : ∀ d ∈ ds, Tm k w d) (hk : k < 60) (hw : ds.length * (w + 2) + 3 ≤ sLn) : Ret g__law_same [.dat (.lst ds), .dat (.lst ds)] (.bl true) := by
  obtain ⟨z, h1, h2⟩ := repr_lst (tm_lst h) hk hw
  exact same_ok h1 h2
theorem same_tup {k w : Nat} {ds : List D} (h : Tm k w (.tup ds)) (hk : k ≤ 60) (hw : w ≤ sLn) : Ret g__law_same [.dat (.tup ds), .dat (.tup ds)] (.bl true) := by
  obtain ⟨z, h1, h2⟩ := repr_tup h hk hw
  exact same_ok h1 h2
theorem dr_callV {c N : Nat} {g : FG} {d : D} {P : D → Prop} (h : Dr c g [.dat d] P) {fb : FE} {s : Sl} {ρ : Ev} (hs : PenOk N s) (hN : N + c < 2 ^ 60) (hb : fb (s :: ρ) = some (.dat d, s :: ρ)) : ∃ r s', fCall g [] (fCons (fVar 0) (fCons fb fNil)) (s :: ρ) = some (.dat r, s' :: ρ) ∧ PenOk (N + c) s' ∧ P r := dr_call2 h hs hN hb
theorem good_step {p g : Nat} {rows : List (List Nat)} {cs : List Nat} (h : VP p rows) (hc : Co rows.length cs) (hg : g < p) (a0 a4 a8 : Sl) :
    (bSeq (bSet 8 (fCall g__law_ends [] (fCons (fNew (nLc [10] (.nm 10) (sItm (fVar 6)) (fYes) (fBin dIdx (fVar 10) (fVar 7)))) (fNil)))) (bIf (fNot (fTest (fCall g__law_same [] (fCons (fNew (nDisp (fCons (fCall g_between [] (fCons (fVar 3) (fCons (fVar 5) (fCons (fVar 7) (fNil))))) (fCons (fCall g_between [] (fCons (fVar 3) (fCons (fVar 5) (fCons (fVar 7) (fNil))))) (fNil))))) (fCons (fNew (nDisp (fCons (fVar 8) (fCons (fVar 8) (fNil))))) (fNil)))))) (bRet (fC (.bl false))) (bNx)))
      [a0, .dat (dI p), .dat (.lst (rows.map rowD)), .dat (planD p rows), a4, .dat (.tup (nl cs)), .dat (.lst ((ordL rows.length).map fun o => .tup ((bornF p rows o (had0 cs)).map nf))), .dat (dI g), a8, .un, .un]
    = some (.nx, [a0, .dat (dI p), .dat (.lst (rows.map rowD)), .dat (planD p rows), a4, .dat (.tup (nl cs)), .dat (.lst ((ordL rows.length).map fun o => .tup ((bornF p rows o (had0 cs)).map nf))), .dat (dI g), .dat (endsD (tots p rows cs g)), .un, .un]) := by
  obtain ⟨_, _, ho3⟩ := ord_ok h.n4
  obtain ⟨t1, t2⟩ := tots_fr h hc hg
  let all : D := .lst ((ordL rows.length).map fun o => .tup ((bornF p rows o (had0 cs)).map nf))
  let ρ0 : Ev := [a0, .dat (dI p), .dat (.lst (rows.map rowD)), .dat (planD p rows), a4, .dat (.tup (nl cs)), .dat all, .dat (dI g), a8, .un, .un]
  let ρ8 : Ev := [a0, .dat (dI p), .dat (.lst (rows.map rowD)), .dat (planD p rows), a4, .dat (.tup (nl cs)), .dat all, .dat (dI g), .dat (endsD (tots p rows cs g)), .un, .un]
  have lc : nLc [10] (.nm 10) (sItm (fVar 6)) (fYes) (fBin dIdx (fVar 10) (fVar 7)) ρ0 = some ((tots p rows cs g).map nf, ρ0) :=
    nLc_ix _ (itmE (ρ1 := ρ0) (d := all) rfl rfl rfl) (getAll_dat _) (by rw [List.length_map]; exact Nat.le_trans (ord_len h.n4) (by decide)) (by rw [List.length_map, List.length_map, tots, List.length_map]) (fun k d y hk hy => by
      rw [List.getElem?_map] at hk
      obtain ⟨o, h2, rfl⟩ := Option.map_eq_some_iff.mp hk
      rw [tots, List.getElem?_map, List.getElem?_map, h2] at hy
      cases hy
      obtain ⟨od, ol, _⟩ := ho3 o (List.mem_of_getElem? h2)
      let ρa : Ev := [a0, .dat (dI p), .dat (.lst (rows.map rowD)), .dat (planD p rows), a4, .dat (.tup (nl cs)), .dat all, .dat (dI g), a8, .un, .dat (.tup ((bornF p rows o (had0 cs)).map nf))]
      exact ⟨ρa, ρa, rfl, binE (ρ1 := ρa) rfl rfl (born_idx h od (by rw [ol]; exact h.n4) hc hg), rfl⟩)
  have eb : fCall g_between [] (fCons (fVar 3) (fCons (fVar 5) (fCons (fVar 7) (fNil)))) ρ8 = some (.dat (endsD (tots p rows cs g)), ρ8) := callD3 (ρ1 := ρ8) (ρ2 := ρ8) (ρ3 := ρ8) rfl rfl rfl (between_ok h hc hg)
  have es : Ret g__law_same [.dat (.lst [endsD (tots p rows cs g), endsD (tots p rows cs g)]), .dat (.lst [endsD (tots p rows cs g), endsD (tots p rows cs g)])] (.bl true) :=
    same_lst (k := 2) (w := 2700) (fun d hd => by
      simp only [List.mem_cons, List.not_mem_nil, or_false] at hd
      rcases hd with rfl | rfl <;> exact endsD_tm t2 t1) (by decide) (show 2 * (2700 + 2) + 3 ≤ sLn by decide)
  refine seqE (ρ1 := ρ8) (setE (ρ1 := ρ0) (callD1 (ρ1 := ρ0) (fnewE lc) (lends_ok t2 t1))) ?_
  exact ifF (ρ1 := ρ8) (notE (testE (callD2 (ρ1 := ρ8) (ρ2 := ρ8) (fnewE (newE (ds := [endsD (tots p rows cs g), endsD (tots p rows cs g)]) (consE eb (consE eb rfl)) rfl (show 2 ≤ sLn by decide))) (fnewE (newE (ds := [endsD (tots p rows cs g), endsD (tots p rows cs g)]) (consE rfl (consE rfl rfl)) rfl (show 2 ≤ sLn by decide))) es))) rfl
end SC

set_option Elab.async false
set_option linter.all false
set_option maxRecDepth 100000
namespace SC
open PySem PySem.Spec PyProof.Rows L2

def allD (p : Nat) (rows : List (List Nat)) (cs : List Nat) : D := .lst ((ordL rows.length).map fun o => .tup ((bornF p rows o (had0 cs)).map nf))
theorem good_loop {p : Nat} {rows : List (List Nat)} {cs : List Nat} (h : VP p rows) (hc : Co rows.length cs) (a0 a4 a7 a8 : Sl) :
    ∃ t7 t8, forL (.nm 7) (bSeq (bSet 8 (fCall g__law_ends [] (fCons (fNew (nLc [10] (.nm 10) (sItm (fVar 6)) (fYes) (fBin dIdx (fVar 10) (fVar 7)))) (fNil)))) (bIf (fNot (fTest (fCall g__law_same [] (fCons (fNew (nDisp (fCons (fCall g_between [] (fCons (fVar 3) (fCons (fVar 5) (fCons (fVar 7) (fNil))))) (fCons (fCall g_between [] (fCons (fVar 3) (fCons (fVar 5) (fCons (fVar 7) (fNil))))) (fNil))))) (fCons (fNew (nDisp (fCons (fVar 8) (fCons (fVar 8) (fNil))))) (fNil)))))) (bRet (fC (.bl false))) (bNx)))
      (rangeD 0 p) [a0, .dat (dI p), .dat (.lst (rows.map rowD)), .dat (planD p rows), a4, .dat (.tup (nl cs)), .dat (allD p rows cs), a7, a8, .un, .un]
    = some (.nx, [a0, .dat (dI p), .dat (.lst (rows.map rowD)), .dat (planD p rows), a4, .dat (.tup (nl cs)), .dat (allD p rows cs), t7, t8, .un, .un]) := by
  obtain ⟨ρ', e, t7, t8, rfl⟩ := for_inv (p := .nm 7) (fun _ ρ => ∃ t7 t8, ρ = [a0, .dat (dI p), .dat (.lst (rows.map rowD)), .dat (planD p rows), a4, .dat (.tup (nl cs)), .dat (allD p rows cs), t7, t8, .un, .un])
    (rangeD 0 p) 0 [a0, .dat (dI p), .dat (.lst (rows.map rowD)), .dat (planD p rows), a4, .dat (.tup (nl cs)), .dat (allD p rows cs), a7, a8, .un, .un] (fun k d hk ρ hI => by
      obtain ⟨t7, t8, rfl⟩ := hI
      obtain ⟨rfl, hkp⟩ := rng_get p k d hk
      exact ⟨_, _, rfl, good_step h hc hkp a0 a4 t8, _, _, rfl⟩) ⟨a7, a8, rfl⟩
  exact ⟨t7, t8, e⟩
theorem right_dr : Dr 300 g__law_right [] (fun r => r = .bl true) := by
  intro N s hs hN
  obtain ⟨r, s1, e1, h1, p, rows, h, rfl⟩ := dr_call1 case_dr (ρ := [.un, .un, .un, .un, .un, .un, .un, .un, .un, .un]) hs (by omega)
  obtain ⟨_, ho2, ho3⟩ := ord_ok h.n4
  have hrl : dLen [.lst (rows.map rowD)] = some (dI rows.length) := by
    show some (D.int ((rows.map rowD).length : Nat)) = _
    rw [List.length_map]
  let fb : FB := (bSeq (bSet 5 (fCall g__law_spent [] (fCons (fVar 0) (fCons (fBlt dLen (fCons (fVar 2) fNil)) (fNil))))) (bSeq (bSet 6 (fNew (nLc [9] (.nm 9) (sItm (fCall g__law_turns [] (fCons (fBlt dLen (fCons (fVar 2) fNil)) (fNil)))) (fYes) (fCall g__law_borne_by [] (fCons (fVar 1) (fCons (fVar 2) (fCons (fVar 9) (fCons (fVar 5) (fNil))))))))) (bFor (.nm 7) (sRng (fCons (fVar 1) (fNil))) (bSeq (bSet 8 (fCall g__law_ends [] (fCons (fNew (nLc [10] (.nm 10) (sItm (fVar 6)) (fYes) (fBin dIdx (fVar 10) (fVar 7)))) (fNil)))) (bIf (fNot (fTest (fCall g__law_same [] (fCons (fNew (nDisp (fCons (fCall g_between [] (fCons (fVar 3) (fCons (fVar 5) (fCons (fVar 7) (fNil))))) (fCons (fCall g_between [] (fCons (fVar 3) (fCons (fVar 5) (fCons (fVar 7) (fNil))))) (fNil))))) (fCons (fNew (nDisp (fCons (fVar 8) (fCons (fVar 8) (fNil))))) (fNil)))))) (bRet (fC (.bl false))) (bNx))))))
  have step : ∀ (M : Nat) (s : Sl) (a4 a5 a6 a7 a8 : Sl), PenOk M s → M + 10 < 2 ^ 60 → ∃ s' b5 b6 b7 b8, fb [s, .dat (dI p), .dat (.lst (rows.map rowD)), .dat (planD p rows), a4, a5, a6, a7, a8, .un, .un] = some (.nx, [s', .dat (dI p), .dat (.lst (rows.map rowD)), .dat (planD p rows), a4, b5, b6, b7, b8, .un, .un]) ∧ PenOk (M + 10) s' := by
    intro M s a4 a5 a6 a7 a8 hs hM
    let ρ0 : Ev := [s, .dat (dI p), .dat (.lst (rows.map rowD)), .dat (planD p rows), a4, a5, a6, a7, a8, .un, .un]
    obtain ⟨r, s', e, h2, cs, hc, rfl⟩ := dr_callV (spent_dr h.n4) (fb := fBlt dLen (fCons (fVar 2) fNil)) (ρ := [.dat (dI p), .dat (.lst (rows.map rowD)), .dat (planD p rows), a4, a5, a6, a7, a8, .un, .un]) hs hM (bltE (ds := [.lst (rows.map rowD)]) (consE rfl rfl) rfl hrl)
    let ρ5 : Ev := [s', .dat (dI p), .dat (.lst (rows.map rowD)), .dat (planD p rows), a4, .dat (.tup (nl cs)), a6, a7, a8, .un, .un]
    let ρ6 : Ev := [s', .dat (dI p), .dat (.lst (rows.map rowD)), .dat (planD p rows), a4, .dat (.tup (nl cs)), .dat (allD p rows cs), a7, a8, .un, .un]
    have lc : nLc [9] (.nm 9) (sItm (fCall g__law_turns [] (fCons (fBlt dLen (fCons (fVar 2) fNil)) (fNil)))) (fYes) (fCall g__law_borne_by [] (fCons (fVar 1) (fCons (fVar 2) (fCons (fVar 9) (fCons (fVar 5) (fNil)))))) ρ5 = some ((ordL rows.length).map fun o => .tup ((bornF p rows o (had0 cs)).map nf), ρ5) :=
      nLc_ix _ (itmE (ρ1 := ρ5) (callD1 (ρ1 := ρ5) (bltE (ρ1 := ρ5) (ds := [.lst (rows.map rowD)]) (consE rfl rfl) rfl hrl) ho2) rfl rfl) (getAll_dat _) (by rw [ordD, List.length_map]; exact Nat.le_trans (ord_len h.n4) (by decide)) (by rw [ordD, List.length_map, List.length_map]) (fun k d y hk hy => by
        rw [ordD, List.getElem?_map] at hk
        obtain ⟨o, h2, rfl⟩ := Option.map_eq_some_iff.mp hk
        rw [List.getElem?_map, h2] at hy
        cases hy
        obtain ⟨od, ol, _⟩ := ho3 o (List.mem_of_getElem? h2)
        let ρa : Ev := [s', .dat (dI p), .dat (.lst (rows.map rowD)), .dat (planD p rows), a4, .dat (.tup (nl cs)), a6, a7, a8, .dat (.tup (nl o)), .un]
        exact ⟨ρa, ρa, rfl, callD4 (ρ1 := ρa) (ρ2 := ρa) (ρ3 := ρa) (ρ4 := ρa) rfl rfl rfl rfl (borneby_ok h od (by rw [ol]; exact h.n4) hc), rfl⟩)
    obtain ⟨t7, t8, eg⟩ := good_loop h hc s' a4 a7 a8
    refine ⟨s', .dat (.tup (nl cs)), .dat (allD p rows cs), t7, t8, ?_, h2⟩
    refine seqE (ρ1 := ρ5) (setE (ρ1 := [s', .dat (dI p), .dat (.lst (rows.map rowD)), .dat (planD p rows), a4, a5, a6, a7, a8, .un, .un]) e) ?_
    refine seqE (ρ1 := ρ6) (setE (ρ1 := ρ5) (fnewE lc)) ?_
    exact forE (ρ1 := ρ6) (sRng_ok rfl (by have := h.p4; omega)) rfl eg
  obtain ⟨ρ', e, s', a4, a5, a6, a7, a8, rfl, g1⟩ := for_inv (p := .nm 4) (fb := fb) (fun i ρ => ∃ s' a4 a5 a6 a7 a8, ρ = [s', .dat (dI p), .dat (.lst (rows.map rowD)), .dat (planD p rows), a4, a5, a6, a7, a8, .un, .un] ∧ PenOk (N + 200 + 10 * i) s')
    (rangeD 0 2) 0 [s1, .dat (dI p), .dat (.lst (rows.map rowD)), .dat (planD p rows), .un, .un, .un, .un, .un, .un, .un] (fun k d hk ρ hI => by
      obtain ⟨s', a4, a5, a6, a7, a8, rfl, g⟩ := hI
      obtain ⟨rfl, hkp⟩ := rng_get 2 k d hk
      obtain ⟨s2, b5, b6, b7, b8, e, g2⟩ := step _ s' (.dat (dI k)) a5 a6 a7 a8 g (by omega)
      exact ⟨_, _, rfl, e, s2, _, b5, b6, b7, b8, rfl, g2.mono (by omega)⟩) ⟨s1, _, _, _, _, _, rfl, h1⟩
  have hsame : Ret g__law_same [.dat (.tup (rows.map rowD)), .dat (.tup (rows.map rowD))] (.bl true) := same_tup (rows_tm h) (by decide) (show 20900 ≤ sLn by decide)
  let ρf : Ev := [s', .dat (dI p), .dat (.lst (rows.map rowD)), .dat (planD p rows), a4, a5, a6, a7, a8, .un, .un]
  have b : d__law_right [s, .un, .un, .un, .un, .un, .un, .un, .un, .un, .un] = some (.rt (.bl true), ρf) := by
    refine seqE (ρ1 := [s1, .dat (dI p), .dat (.lst (rows.map rowD)), .un, .un, .un, .un, .un, .un, .un, .un]) (by simp only [bBind, e1]; rfl) ?_
    refine seqE (ρ1 := [s1, .dat (dI p), .dat (.lst (rows.map rowD)), .dat (planD p rows), .un, .un, .un, .un, .un, .un, .un]) (setE (ρ1 := [s1, .dat (dI p), .dat (.lst (rows.map rowD)), .un, .un, .un, .un, .un, .un, .un, .un]) (callD2 (ρ1 := [s1, .dat (dI p), .dat (.lst (rows.map rowD)), .un, .un, .un, .un, .un, .un, .un, .un]) (ρ2 := [s1, .dat (dI p), .dat (.lst (rows.map rowD)), .un, .un, .un, .un, .un, .un, .un, .un]) rfl rfl (net_ok h))) ?_
    refine seqE (forE (ρ1 := [s1, .dat (dI p), .dat (.lst (rows.map rowD)), .dat (planD p rows), .un, .un, .un, .un, .un, .un, .un]) (sRng_ok (n := 2) rfl (by decide)) rfl e) ?_
    exact retE (callD2 (ρ1 := ρf) (ρ2 := ρf) (methE0 (ρ1 := ρf) rfl (prows_ok p rows)) (bltE (ρ1 := ρf) (ds := [.lst (rows.map rowD)]) (consE rfl rfl) rfl rfl) hsame)
  refine ⟨.bl true, s', [.dat (dI p), .dat (.lst (rows.map rowD)), .dat (planD p rows), a4, a5, a6, a7, a8, .un, .un], ?_, Nat.zero_le _, g1.mono (by rw [rng_len]; omega), rfl⟩
  show frD (d__law_right [s, .un, .un, .un, .un, .un, .un, .un, .un, .un, .un]) = _
  rw [b]
  rfl
/-- the pen of any cell -/
theorem pen_ok (c : Int) : ∃ x y : Nat, y < 2 ^ 31 ∧ gn__law_pen [.int c] = some [dI x, dI y, dI 0] := by
  refine ⟨(if c - 10 ^ 18 > 0 then c - 10 ^ 18 else 0).toNat, (c % 2147483629 + 1).toNat, ?_, ?_⟩
  · have h1 := Int.emod_nonneg c (show (2147483629 : Int) ≠ 0 by decide)
    have h2 := Int.emod_lt_of_pos c (show (0 : Int) < 2147483629 by decide)
    omega
  · have h1 := Int.emod_nonneg c (show (2147483629 : Int) ≠ 0 by decide)
    have e1 : ((c % 2147483629 + 1).toNat : Int) = c % 2147483629 + 1 := Int.toNat_of_nonneg (by omega)
    have e2 : (((if c - 10 ^ 18 > 0 then c - 10 ^ 18 else 0).toNat : Nat) : Int) = if c - 10 ^ 18 > 0 then c - 10 ^ 18 else 0 := Int.toNat_of_nonneg (by split <;> omega)
    let ρ : Ev := [.dat (.int c)]
    have p1 : fBin dPow (fC (.int 10)) (fC (.int 18)) ρ = some (.dat (.int (10 ^ 18)), ρ) := binE rfl rfl (by kernel_rfl)
    have m1 : dMax [.int 0, .int (c - 10 ^ 18)] = some (.int (if c - 10 ^ 18 > 0 then c - 10 ^ 18 else 0)) := rfl
    have i1 : fBlt dMax (fCons (fC (.int 0)) (fCons (fBin dSub (fVar 0) (fBin dPow (fC (.int 10)) (fC (.int 18)))) (fNil))) ρ = some (.dat (.int (if c - 10 ^ 18 > 0 then c - 10 ^ 18 else 0)), ρ) :=
      bltE (ρ1 := ρ) (ds := [.int 0, .int (c - 10 ^ 18)]) (consE rfl (consE (binE (ρ1 := ρ) (ρ2 := ρ) rfl p1 rfl) rfl)) rfl m1
    have i2 : fBin dAdd (fBin dMod (fVar 0) (fC (.int 2147483629))) (fC (.int 1)) ρ = some (.dat (.int (c % 2147483629 + 1)), ρ) := binE (ρ1 := ρ) (ρ2 := ρ) (binE (ρ1 := ρ) (ρ2 := ρ) rfl rfl (r := .int (c % 2147483629)) (by simp only [dMod, if_pos (show (0 : Int) < 2147483629 by decide)])) rfl rfl
    have e : dn__law_pen ρ = some ([.int (if c - 10 ^ 18 > 0 then c - 10 ^ 18 else 0), .int (c % 2147483629 + 1), .int 0], ρ) := newE (consE i1 (consE i2 (consE rfl rfl))) rfl (show 3 ≤ sLn by decide)
    show (match dn__law_pen ρ with | some (out, _) => if out.all flD = true then some out else none | none => none) = _
    rw [e, ← e1, ← e2]
    rfl
theorem cell_ok (ns : List Int) (k : Nat) : ∃ c : Int, Ret g__law_cell [.dat (.scr ns), .dat (dI k)] (.int c) := by
  have t : fTest (fBin (dCmp fun i j => decide (i < j)) (fVar 1) (fBlt dLen (fCons (fVar 0) fNil))) [.dat (.scr ns), .dat (dI k)] = some (decide (k < ns.length), [.dat (.scr ns), .dat (dI k)]) :=
    testE (binE (ρ1 := [.dat (.scr ns), .dat (dI k)]) (ρ2 := [.dat (.scr ns), .dat (dI k)]) rfl (bltE (ρ1 := [.dat (.scr ns), .dat (dI k)]) (ds := [.scr ns]) (consE rfl rfl) rfl rfl) (cmp_ok k ns.length))
  by_cases hk : k < ns.length
  · rw [decide_eq_true hk] at t
    have hi : dIdx (.scr ns) (dI k) = some (.int ns[k]) := by
      show (atI ns (k : Int)).map D.int = _
      unfold atI ixN
      rw [if_pos (by omega), if_pos (by omega), Int.toNat_natCast, Option.bind_some, List.getElem?_eq_getElem hk]
      rfl
    refine ⟨ns[k], [.dat (.scr ns), .dat (dI k)], ?_, Nat.le_refl _⟩
    have b : d__law_cell [.dat (.scr ns), .dat (dI k)] = some (.rt (.int ns[k]), [.dat (.scr ns), .dat (dI k)]) := retE (iteT t (binE rfl rfl hi))
    show frD (d__law_cell [.dat (.scr ns), .dat (dI k)]) = _
    rw [b]
    rfl
  · rw [decide_eq_false hk] at t
    refine ⟨0, [.dat (.scr ns), .dat (dI k)], ?_, Nat.le_refl _⟩
    have b : d__law_cell [.dat (.scr ns), .dat (dI k)] = some (.rt (.int 0), [.dat (.scr ns), .dat (dI k)]) := retE (iteF t rfl)
    show frD (d__law_cell [.dat (.scr ns), .dat (dI k)]) = _
    rw [b]
    rfl
theorem dr_call1_2 {c N : Nat} {g : FG} {P : D → Prop} (h : Dr c g [] P) {s a0 a1 a3 : Sl} (hs : PenOk N s) (hN : N + c < 2 ^ 60) : ∃ r s', fCall g [] (fCons (fVar 2) fNil) [a0, a1, s, a3] = some (.dat r, [a0, a1, s', a3]) ∧ PenOk (N + c) s' ∧ P r := by
  obtain ⟨r, s', rest, e, _, h1, h2⟩ := h N s hs hN
  refine ⟨r, s', ?_, h1, h2⟩
  obtain ⟨x, y, z, rfl, _, _⟩ := hs
  unfold pen at *
  simp [fCall, fCons, fNil, fVar, argSl, Sl.mut, slotsOf, e, putSl]
theorem law_true (ns : List Int) : ∃ o, g_law [.dat (.scr ns)] = some (.bl true, o) := by
  let lapB : FB := bIf (fNot (fTest (fCall g__law_right [] (fCons (fVar 2) (fNil))))) (bRet (fC (.bl false))) (bNx)
  let cellB : FB := bSeq (bOwn 2 (nCallN gn__law_pen (fCons (fCall g__law_cell [] (fCons (fVar 0) (fCons (fVar 1) (fNil)))) (fNil)))) (bFor (.nm 3) (sRng (fCons (fC (.int 3)) (fNil))) lapB)
  have lap : ∀ (s a1 a3 : Sl), PenOk 0 s → ∃ s' b3, forL (.nm 3) lapB (rangeD 0 3) [.dat (.scr ns), a1, s, a3] = some (.nx, [.dat (.scr ns), a1, s', b3]) := by
    intro s a1 a3 hs
    obtain ⟨ρ', e, s', b3, rfl, _⟩ := for_inv (p := .nm 3) (fb := lapB) (fun i ρ => ∃ s' b3, ρ = [.dat (.scr ns), a1, s', b3] ∧ PenOk (300 * i) s') (rangeD 0 3) 0 [.dat (.scr ns), a1, s, a3] (fun k d hk ρ hI => by
      obtain ⟨s', b3, rfl, g⟩ := hI
      obtain ⟨rfl, hkp⟩ := rng_get 3 k d hk
      obtain ⟨r, s2, e, g2, rfl⟩ := dr_call1_2 (a0 := .dat (.scr ns)) (a1 := a1) (a3 := .dat (dI k)) right_dr g (by omega)
      exact ⟨_, _, rfl, ifF (notE (testE e)) rfl, s2, _, rfl, g2.mono (by omega)⟩) ⟨s, a3, rfl, hs⟩
    exact ⟨s', b3, e⟩
  have cell : ∀ (k : Nat) (a2 a3 : Sl), ∃ b2 b3, cellB [.dat (.scr ns), .dat (dI k), a2, a3] = some (.nx, [.dat (.scr ns), .dat (dI k), b2, b3]) := by
    intro k a2 a3
    obtain ⟨c, hc⟩ := cell_ok ns k
    obtain ⟨x, y, hy, hp⟩ := pen_ok c
    let ρ : Ev := [.dat (.scr ns), .dat (dI k), a2, a3]
    have e1 : fCons (fCall g__law_cell [] (fCons (fVar 0) (fCons (fVar 1) (fNil)))) (fNil) ρ = some ([.dat (.int c)], ρ) := consE (callD2 (ρ1 := ρ) (ρ2 := ρ) rfl rfl hc) rfl
    have e2 : nCallN gn__law_pen (fCons (fCall g__law_cell [] (fCons (fVar 0) (fCons (fVar 1) (fNil)))) (fNil)) ρ = some ([dI x, dI y, dI 0], ρ) := by
      simp only [nCallN, e1, datAll, Option.map_some, hp]
      rfl
    obtain ⟨s', b3, e3⟩ := lap (pen x y 0) (.dat (dI k)) a3 ⟨x, y, 0, rfl, hy, Nat.le_refl _⟩
    refine ⟨s', b3, ?_⟩
    refine seqE (ρ1 := [.dat (.scr ns), .dat (dI k), pen x y 0, a3]) (ownE (ρ1 := ρ) e2) ?_
    exact forE (ρ1 := [.dat (.scr ns), .dat (dI k), pen x y 0, a3]) (sRng_ok (n := 3) rfl (by decide)) rfl e3
  have src : ∃ m, sRng (fCons (fBlt dMax (fCons (fC (.int 1)) (fCons (fBlt dMin (fCons (fBlt dLen (fCons (fVar 0) fNil)) (fCons (fC (.int 3)) (fNil)))) (fNil)))) (fNil)) [.dat (.scr ns), .un, .un, .un] = some (rangeD 0 m, [], [.dat (.scr ns), .un, .un, .un]) := by
    refine ⟨(if (if (3 : Int) < (ns.length : Int) then (3 : Int) else (ns.length : Int)) > 1 then (if (3 : Int) < (ns.length : Int) then (3 : Int) else (ns.length : Int)) else 1).toNat, ?_⟩
    simp only [sRng, fCons, fBlt, fC, fVar, fNil, getAll, Opd.get, dMax, dMin, dLen, List.getElem?_cons_zero]
    rw [if_pos]
    split <;> split <;> omega
  obtain ⟨m, hm⟩ := src
  obtain ⟨ρ', e, a1, a2, a3, rfl⟩ := for_inv (p := .nm 1) (fb := cellB) (fun _ ρ => ∃ a1 a2 a3, ρ = [.dat (.scr ns), a1, a2, a3]) (rangeD 0 m) 0 [.dat (.scr ns), .un, .un, .un] (fun k d hk ρ hI => by
    obtain ⟨a1, a2, a3, rfl⟩ := hI
    obtain ⟨rfl, _⟩ := rng_get m k d hk
    obtain ⟨b2, b3, e⟩ := cell k a2 a3
    exact ⟨_, _, rfl, e, _, b2, b3, rfl⟩) ⟨_, _, _, rfl⟩
  have b : d_law [.dat (.scr ns), .un, .un, .un] = some (.rt (.bl true), [.dat (.scr ns), a1, a2, a3]) := by
    refine seqE (forE hm rfl e) ?_
    exact retE rfl
  refine ⟨[.dat (.scr ns), a1, a2, a3], ?_⟩
  show frD (d_law [.dat (.scr ns), .un, .un, .un]) = _
  rw [b]
  rfl
end SC

open PySem PySem.W PySem.Calls PyProof.Rows
theorem PySem.Challenge.cw_supportcosts_k45_least_and_greatest_tota_holds : PySem.Challenge.rw_supportcosts_k45_least_and_greatest_tota.Holds := by
  w_on; o_law
  refine HandSHeadRun.head_any (r := SC.Rw) (q := SC.vw) (H := SC.hkX) (ob := SC.obX) (M := 40000) (loose := SC.looseL) (d := HandSHeadRun.topDef SC.Rw.prog 64) (kwd := []) SC.obX_eq
    (by kernel_rfl) (fun s => by kernel_rfl) SC.runX (by kernel_rfl) (by kernel_rfl) (by kernel_rfl) (by rfl) (by first | assumption | decide +kernel) (by decide +kernel) ⟨rfl, rfl, rfl, rfl, rfl, by decide +kernel⟩ ?hw ?hc
  case hw => w_witness2
  case hc =>
    refine SC.walk_G (l := PySem.Challenge.rw_supportcosts_k45_least_and_greatest_tota) (n := 63) (k := 10) (x := "_law_script") rfl (by decide) (by kernel_rfl) ⟨rfl, by decide, by decide⟩ ?F
    intro w mg fa h Y G hmg
    obtain ⟨K, KX, c⟩ := Y
    have W := SC.ws_of KX G c
    obtain ⟨fd, Fd⟩ := W.f_law
    have nm : (HandSHeadRun.topDef SC.Rw.prog 64).name = ("law" : PySem.Str) := by kernel_rfl
    rw [nm, W.g_law] at hmg
    cases hmg
    exact ⟨K, fd, _, KX, fun s u => L2.FunD.bindsA (ps := ["_law_script"]) Fd (fun _ _ _ _ _ _ us hl => match us, hl with | [_], _ => rfl) s [u] rfl, fun H a ns _ sq => SC.law_sp (SC.law_true ns) sq, fun base _ _ => SC.fn_law W Fd⟩

