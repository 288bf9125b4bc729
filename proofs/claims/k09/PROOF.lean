import PyProof.Rows.All
import Wide.All
import OpenK.AllK
import Wide.FinOn
import PySem.Challenge.RW_nonius_k09_whole_few_circles_and_plans
import HandS.ForMost
import HandS.ForExc
import HandS.Wide
import HandS.WideMore
import HandS.Deep
import HandS.IsInst
import HandS.CallSlots
import HandS.Defaults
import KE.KeyNested
import HandS.Lambda
import HandS.Nested
import HandS.ExcCtx
import HandS.SuiteRaise
import HandS.ExcInit
import HandS.ExcIs
import HandS.ExcField
import KE.KExcIs
import KE.KExcInit
import KE.KStateDown
import Lean
import HandS.More
import HandS.Head0
import HandS.Head1
import HandS.Head2
import HandS.HeadEnd
import HandS.HeadHook1
import HandS.HeadHook2
import HandS.HeadHook4
import HandS.MakeKwOnly
import HandS.SetFor
import HandS.IntHex
import HandS.FStr
import HandS.Text
import HandS.OwnEq
import HandS.Dict
import HandS.Conv
import HandS.SortInts
import HandS.WordsDict
import KE.KFmtOwn
import HandS.Style
import HandS.HeadWalk
import KE.KDictKeyed
import KE.KDictDisplayH
import PyProof.DictMoreH
import HandS.TupLen
import KE.SortKeyHeap
import HandS.SortKw
import HandS.TupSets
import HandS.TryOnly
import HandS.SetKeys
import HandS.ListEq
import HandS.RaiseOp
import HandS.RaiseFrom
import HandS.ExcInitHot
import HandS.Set
import HandS.Head3
import HandS.ExcValue
import PyProof.WalkInts
import PyProof.MinMaxWalk
import KE.SortData
import HandS.DictTup
import HandS.ListItems
import HandS.Iter
import HandS.HotCalls
import PyProof.ReprRoads
import HandS.TupMul
set_option Elab.async false
set_option linter.all false
set_option maxRecDepth 100000
set_option maxHeartbeats 4000000
namespace Pd
open PySem L2
open PySem.W in
def xcB (K : Frag) (C : Addr) (bm : List Value) (newId : String) : Bool := match K.lookup C with
  | some ⟨.type t, _, .cls cd, sl⟩ => (match sl.toList with
    | [_, _, _, _, some (.builtin n), _] => decide (t = "type") && (decide (cd.mro = .ref C :: bm) && (decide (n = newId) && (!cd.hasDel && cd.hasDict)))
    | _ => false)
  | _ => false
end Pd
namespace Pd
open PySem L2
open PySem.W in
def xcAll (K : Frag) (c : Str) (bm : List Value) (newId : String) (fs : List Str) : Bool :=
  xcB K (He.ga K c) bm newId && (He.eqO (findIn K (.ref (He.ga K c)) "__setattr__") (some (some (.builtin "object.__setattr__"))) && (decide (subIn K (.ref (He.ga K c)) (.type "BaseException") = some true) && (decide (typeIn K (.ref (He.ga K c)) = some (.type "type")) && (keepIn K (.ref (He.ga K c)) &&
  (He.eqO (findIn K (.ref (He.ga K c)) "__init__") (some (some (.ref (He.ma K (He.ga K c) "__init__")))) && (decide (typeIn K (.ref (He.ma K (He.ga K c) "__init__")) = some (.type "function")) && (fs.all fun f => He.eqO (findIn K (.ref (He.ga K c)) f) (some none))))))))
end Pd
namespace Pd
open PySem L2
open PySem.W in
def xrAll (K : Frag) (c : Str) : Bool :=
  He.eqO (findIn K (.ref (He.ga K c)) "__getattribute__") (some (some (.builtin "BaseException.__getattribute__"))) && (He.eqO (findIn K (.ref (He.ga K c)) "__getattr__") (some none) && (decide (subIn K (.ref (He.ga K c)) (.type "BaseException") = some true) && (hasDictIn K (He.ga K c) &&
  (He.eqO (findIn K (.ref (He.ga K c)) "__class__") (some (some (.builtin "object.__class__"))) && (He.eqO (specialIn K (.builtin "object.__class__") "__get__") (some (some (.builtin "getset_descriptor.__get__"))) && (decide (takesIn K (.builtin "object.__class__") = some true) && (decide (mroIn K (He.ga K c) (.type "object") = some true) &&
  decide (exmOne K (.ref (He.ga K c)) (.ref (He.ga K c)) = some true))))))))
end Pd
namespace Pd
open PySem PySem.W L2
def exmAll (K : PySem.W.Frag) (rs ks : List Str) : Bool := rs.all fun c' => ks.all fun k => decide (exmOne K (.ref (He.ga K c')) (.ref (He.ga K k)) = some (c' == k))
end Pd
namespace Pd
open PySem PySem.W
def nextA (g : Addr → Option Obj) (as : List Addr) : List Addr := as.flatMap fun a => match g a with
  | some o => He.refsD o
  | none => []
end Pd
namespace Pd
open PySem PySem.W
def asU (g : Addr → Option Obj) : Nat → List Addr → List Addr
  | 0, l => l
  | n + 1, l => l ++ asU g n (nextA g l)
end Pd
namespace Pd
open PySem PySem.W
def evK {β : Type} : Frag → (Frag → β) → β
  | [], k => k []
  | (a, o) :: r, k => HandSHeadRun.frNat a fun a => evK r fun r => k ((a, o) :: r)
end Pd
namespace Pd
open PySem PySem.W
theorem evK_eq {β : Type} : ∀ (K : Frag) (k : Frag → β), evK K k = k K
  | [], k => rfl
  | (a, o) :: r, k => by
    show HandSHeadRun.frNat a (fun a => evK r fun r => k ((a, o) :: r)) = _
    rw [HandSHeadRun.frNat_eq]
    exact evK_eq r fun r => k ((a, o) :: r)
end Pd
namespace Pd
open PySem PySem.W
def fragU (n : Nat) (g : Addr → Option Obj) : Frag := He.frT g (asU g n [mainGlobals])
end Pd
namespace Pd
open PySem PySem.W
def obsU (n : Nat) (fa : List He.Fa) (fn : List He.DefD) (ts : List He.Tab) (tf : List He.Defn) (ex : Frag → Bool) (g : Addr → Option Obj) : He.AlX := evK (fragU n g) fun K => (He.obsT fa fn ts K, ex K && He.tabsB g tf K)
end Pd
namespace Pd
open PySem PySem.W
theorem saysU_of {n : Nat} {fa : List He.Fa} {fn : List He.DefD} {ts : List He.Tab} {tf : List He.Defn} {ex : Frag → Bool} {w : World} {h : Heap} (e : obsU n fa fn ts tf ex h.get? = He.valX fn ts w) : He.SaysX fa fn ts tf ex w h (fragU n h.get?) := by
  unfold obsU at e
  rw [evK_eq] at e
  have a1 := congrArg Prod.fst e
  have a2 := congrArg Prod.snd e
  obtain ⟨b1, b2⟩ := He.ba a2
  have each : ∀ p ∈ tf, (codeHdIn (fragU n h.get?) (He.cT (fragU n h.get?) p).1 (He.cT (fragU n h.get?) p).2 && (match h.get? (He.cT (fragU n h.get?) p).2 with
      | some o => He.emptyTab o
      | none => false)) = true := fun p hp => List.all_eq_true.mp b2 p hp
  have some_ : ∀ p ∈ tf, ∃ o, h.get? (He.cT (fragU n h.get?) p).2 = some o ∧ He.emptyTab o = true := fun p hp => by
    have c := (He.ba (each p hp)).2
    cases q : h.get? (He.cT (fragU n h.get?) p).2 with
    | none => rw [q] at c; cases c
    | some o => rw [q] at c; exact ⟨o, rfl, c⟩
  refine ⟨a1, b1, fun p hp => (He.ba (each p hp)).1, fun p hp => ?_, fun p hp => ?_⟩
  · obtain ⟨o, q, z⟩ := some_ p hp
    exact He.frT_none q z
  · obtain ⟨o, q, z⟩ := some_ p hp
    rw [q, He.emptyTab_eq z]
end Pd
namespace Pd
open PySem PySem.W
def obTU (n : Nat) (fa : List He.Fa) (fn : List He.DefD) (ts : List He.Tab) (tf : List He.Defn) (ex : Frag → Bool) (s : Shared) : He.AlX := match HandSHeadRun.treeOf s with
  | some x => obsU n fa fn ts tf ex (HandSHeadRun.getT x)
  | none => obsU n fa fn ts tf ex s.heap.get?
end Pd
namespace Pd
open PySem PySem.W
theorem obTU_eq {n : Nat} {fa : List He.Fa} {fn : List He.DefD} {ts : List He.Tab} {tf : List He.Defn} {ex : Frag → Bool} (s : Shared) : obTU n fa fn ts tf ex s = obsU n fa fn ts tf ex s.heap.get? := by
  unfold obTU
  cases e : HandSHeadRun.treeOf s with
  | none => rfl
  | some x =>
    show obsU n fa fn ts tf ex (HandSHeadRun.getT x) = _
    rw [← (HandSHeadRun.treeOf_eq e).1, show HandSHeadRun.getT x = x.abs.heap.get? from funext (HandSHeadRun.getT_eq x)]
end Pd
namespace Pd
open PySem PySem.W
def hookU (n : Nat) (fa : List He.Fa) (fn : List He.DefD) (ts : List He.Tab) (tf : List He.Defn) (ex : Frag → Bool) : Hook where
  α := He.AlX
  obs := obTU n fa fn ts tf ex
  val := fun w => He.valX fn ts w
  says := (He.hookX n fa fn ts tf ex).says
  of := fun w s e => ⟨_, He.frT_in, saysU_of (by rw [← obTU_eq]; exact e)⟩
  keeps := (He.hookX n fa fn ts tf ex).keeps
end Pd
set_option Elab.async false
set_option linter.all false
set_option maxRecDepth 100000
set_option maxHeartbeats 4000000
namespace Law
open PySem L2 Pd
def top (i : Nat) : Stmt := PySem.Challenge.pw_nonius_k09_whole_few_circles_and_plans.main.body.getD i (.Pass ⟨0, 0, 0, 0⟩)
abbrev s_u_law_draws : Stmt := top 25
abbrev s_u_law_under : Stmt := top 29
abbrev s_u_law_circles : Stmt := top 30
abbrev s_u_law_wheel : Stmt := top 31
abbrev s_u_law_side : Stmt := top 36
abbrev s_u_law_gcd : Stmt := top 27
abbrev s_u_law_least : Stmt := top 28
abbrev s_u_law_bar : Stmt := top 32
abbrev s_look_turns : Stmt := top 13
abbrev s_look_circles : Stmt := top 14
abbrev s_common : Stmt := top 5
abbrev s_least_common : Stmt := top 16
abbrev s_finest : Stmt := top 17
abbrev s_look_count : Stmt := top 15
abbrev s_primes_in : Stmt := top 18
abbrev s_bar : Stmt := top 19
abbrev s_crowds_of : Stmt := top 20
abbrev s_few_circles : Stmt := top 21
abbrev s_part : Stmt := top 6
abbrev s_less : Stmt := top 7
abbrev s_holes_of : Stmt := top 22
abbrev s_plan : Stmt := top 23
abbrev s_u_law_told : Stmt := top 37
abbrev s_u_law_same : Stmt := top 26
abbrev s_u_law_choices : Stmt := top 35
abbrev s_u_law_low : Stmt := top 33
abbrev s_u_law_plus : Stmt := top 34
abbrev s_u_law_walked : Stmt := top 38
abbrev s_law : Stmt := top 39
def mks : List (Str × Str) := [("crowds_of", "crowds_of.<locals>.<lambda>")]
def d_u_law_draws : He.DefD := ⟨("_law_draws", none), "_law_draws", "_law_draws", defArgs s_u_law_draws, defBody s_u_law_draws, defScope s_u_law_draws, [], []⟩
def d_u_law_under : He.DefD := ⟨("_law_under", none), "_law_under", "_law_under", defArgs s_u_law_under, defBody s_u_law_under, defScope s_u_law_under, [], []⟩
def d_u_law_circles : He.DefD := ⟨("_law_circles", none), "_law_circles", "_law_circles", defArgs s_u_law_circles, defBody s_u_law_circles, defScope s_u_law_circles, [], []⟩
def d_u_law_wheel : He.DefD := ⟨("_law_wheel", none), "_law_wheel", "_law_wheel", defArgs s_u_law_wheel, defBody s_u_law_wheel, defScope s_u_law_wheel, [], []⟩
def d_u_law_side : He.DefD := ⟨("_law_side", none), "_law_side", "_law_side", defArgs s_u_law_side, defBody s_u_law_side, defScope s_u_law_side, [], []⟩
def d_u_law_gcd : He.DefD := ⟨("_law_gcd", none), "_law_gcd", "_law_gcd", defArgs s_u_law_gcd, defBody s_u_law_gcd, defScope s_u_law_gcd, [], []⟩
def d_u_law_least : He.DefD := ⟨("_law_least", none), "_law_least", "_law_least", defArgs s_u_law_least, defBody s_u_law_least, defScope s_u_law_least, [], []⟩
def d_u_law_bar : He.DefD := ⟨("_law_bar", none), "_law_bar", "_law_bar", defArgs s_u_law_bar, defBody s_u_law_bar, defScope s_u_law_bar, [], []⟩
def d_look_turns : He.DefD := ⟨("look_turns", none), "look_turns", "look_turns", defArgs s_look_turns, defBody s_look_turns, defScope s_look_turns, [], []⟩
def d_look_circles : He.DefD := ⟨("look_circles", none), "look_circles", "look_circles", defArgs s_look_circles, defBody s_look_circles, defScope s_look_circles, [], []⟩
def d_common : He.DefD := ⟨("common", none), "common", "common", defArgs s_common, defBody s_common, defScope s_common, [], []⟩
def d_least_common : He.DefD := ⟨("least_common", none), "least_common", "least_common", defArgs s_least_common, defBody s_least_common, defScope s_least_common, [], []⟩
def d_finest : He.DefD := ⟨("finest", none), "finest", "finest", defArgs s_finest, defBody s_finest, defScope s_finest, [], []⟩
def d_look_count : He.DefD := ⟨("look_count", none), "look_count", "look_count", defArgs s_look_count, defBody s_look_count, defScope s_look_count, [], []⟩
def d_primes_in : He.DefD := ⟨("primes_in", none), "primes_in", "primes_in", defArgs s_primes_in, defBody s_primes_in, defScope s_primes_in, [], []⟩
def d_bar : He.DefD := ⟨("bar", none), "bar", "bar", defArgs s_bar, defBody s_bar, defScope s_bar, [], []⟩
def d_crowds_of : He.DefD := ⟨("crowds_of", none), "crowds_of", "crowds_of", defArgs s_crowds_of, defBody s_crowds_of, defScope s_crowds_of, [], []⟩
def d_few_circles : He.DefD := ⟨("few_circles", none), "few_circles", "few_circles", defArgs s_few_circles, defBody s_few_circles, defScope s_few_circles, [], []⟩
def d_part : He.DefD := ⟨("part", none), "part", "part", defArgs s_part, defBody s_part, defScope s_part, [.int 1], []⟩
def d_less : He.DefD := ⟨("less", none), "less", "less", defArgs s_less, defBody s_less, defScope s_less, [], []⟩
def d_holes_of : He.DefD := ⟨("holes_of", none), "holes_of", "holes_of", defArgs s_holes_of, defBody s_holes_of, defScope s_holes_of, [], []⟩
def d_plan : He.DefD := ⟨("plan", none), "plan", "plan", defArgs s_plan, defBody s_plan, defScope s_plan, [], []⟩
def d_u_law_told : He.DefD := ⟨("_law_told", none), "_law_told", "_law_told", defArgs s_u_law_told, defBody s_u_law_told, defScope s_u_law_told, [], []⟩
def d_u_law_same : He.DefD := ⟨("_law_same", none), "_law_same", "_law_same", defArgs s_u_law_same, defBody s_u_law_same, defScope s_u_law_same, [], []⟩
def d_u_law_choices : He.DefD := ⟨("_law_choices", none), "_law_choices", "_law_choices", defArgs s_u_law_choices, defBody s_u_law_choices, defScope s_u_law_choices, [], []⟩
def d_u_law_low : He.DefD := ⟨("_law_low", none), "_law_low", "_law_low", defArgs s_u_law_low, defBody s_u_law_low, defScope s_u_law_low, [], []⟩
def d_u_law_plus : He.DefD := ⟨("_law_plus", none), "_law_plus", "_law_plus", defArgs s_u_law_plus, defBody s_u_law_plus, defScope s_u_law_plus, [], []⟩
def d_u_law_walked : He.DefD := ⟨("_law_walked", none), "_law_walked", "_law_walked", defArgs s_u_law_walked, defBody s_u_law_walked, defScope s_u_law_walked, [], []⟩
def d_law : He.DefD := ⟨("law", none), "law", "law", defArgs s_law, defBody s_law, defScope s_law, [], []⟩
abbrev si_BadCount : Stmt := inClass (top 1) 0
theorem sci_BadCount : FnScope ["self"] ["self"] (defScope si_BadCount) := ⟨rfl, rfl, rfl, by decide +kernel, rfl, by decide +kernel, by decide +kernel⟩
def di_BadCount : He.DefD := ⟨("BadCount", some "__init__"), "__init__", "BadCount.__init__", defArgs si_BadCount, defBody si_BadCount, defScope si_BadCount, [], []⟩
abbrev si_Barred : Stmt := inClass (top 3) 0
theorem sci_Barred : FnScope ["self", "prime", "power"] ["self", "prime", "power"] (defScope si_Barred) := ⟨rfl, rfl, rfl, by decide +kernel, rfl, by decide +kernel, by decide +kernel⟩
def di_Barred : He.DefD := ⟨("Barred", some "__init__"), "__init__", "Barred.__init__", defArgs si_Barred, defBody si_Barred, defScope si_Barred, [], []⟩
abbrev si_BadPart : Stmt := inClass (top 2) 0
theorem sci_BadPart : FnScope ["self"] ["self"] (defScope si_BadPart) := ⟨rfl, rfl, rfl, by decide +kernel, rfl, by decide +kernel, by decide +kernel⟩
def di_BadPart : He.DefD := ⟨("BadPart", some "__init__"), "__init__", "BadPart.__init__", defArgs si_BadPart, defBody si_BadPart, defScope si_BadPart, [], []⟩
def fa : List He.Fa := [.glo "_law_draws", .glo "_law_under", .glo "_law_circles", .glo "_law_wheel", .glo "_law_side", .glo "_law_gcd", .glo "_law_least", .glo "_law_bar", .glo "look_turns", .glo "look_circles", .glo "common", .glo "least_common", .glo "finest", .glo "look_count", .glo "primes_in", .glo "bar", .glo "crowds_of", .glo "few_circles", .glo "part", .glo "less", .glo "holes_of", .glo "plan", .glo "_law_told", .glo "_law_same", .glo "_law_choices", .glo "_law_low", .glo "_law_plus", .glo "_law_walked", .glo "law", .glo "BadCount", .glo "Barred", .glo "BadPart", .int "MOST_TURNS" 200, .int "LEAST_CIRCLE" 2, .int "MOST_CIRCLE" 120, .int "MOST_COUNT" 5000, .free "abs", .free "range", .free "sorted", .free "len", .free "enumerate", .free "isinstance", .free "ArithmeticError", .free "str", .free "int", .free "all", .free "list", .free "tuple", .free "bool", .free "min"]
def fn : List He.DefD := [d_u_law_draws, d_u_law_under, d_u_law_circles, d_u_law_wheel, d_u_law_side, d_u_law_gcd, d_u_law_least, d_u_law_bar, d_look_turns, d_look_circles, d_common, d_least_common, d_finest, d_look_count, d_primes_in, d_bar, d_crowds_of, d_few_circles, d_part, d_less, d_holes_of, d_plan, d_u_law_told, d_u_law_same, d_u_law_choices, d_u_law_low, d_u_law_plus, d_u_law_walked, d_law, di_BadCount, di_Barred, di_BadPart]
def exb (K : PySem.W.Frag) : Bool := (xcAll K "BadCount" [.type "ValueError", .type "Exception", .type "BaseException", .type "object"] "ValueError.__new__" ["word"] && (xcAll K "Barred" [.type "ArithmeticError", .type "Exception", .type "BaseException", .type "object"] "ArithmeticError.__new__" ["word", "prime", "power"] && (xrAll K "Barred" && (xcAll K "BadPart" [.type "ZeroDivisionError", .type "ArithmeticError", .type "Exception", .type "BaseException", .type "object"] "ZeroDivisionError.__new__" ["word"] && (decide (PySem.W.kitOne K (.ref (He.ga K "Barred")) (.type "ArithmeticError") = some true) && (exmAll K ["Barred", "BadCount", "BadPart"] ["Barred"] && true))))))
abbrev R : PySem.W.OpenRow := PySem.W.OpenLaw.row PySem.Challenge.rw_nonius_k09_whole_few_circles_and_plans
def tf : List He.Defn := [("crowds_of", none)]
abbrev hk : PySem.W.Hook := Pd.hookU 5 fa fn [] tf exb
def ob (s : PySem.W.SharedT) : He.AlX := Pd.obsU 5 fa fn [] tf exb (HandSHeadRun.getT s)
theorem ob_eq (s : PySem.W.SharedT) : ob s = hk.obs s.abs := by
  show Pd.obsU 5 fa fn [] tf exb (HandSHeadRun.getT s) = Pd.obTU 5 fa fn [] tf exb s.abs
  rw [Pd.obTU_eq, show HandSHeadRun.getT s = s.abs.heap.get? from funext (HandSHeadRun.getT_eq s)]
def loose : List PySem.Str := (["BadCount", "BadPart", "Barred", "common", "part", "less", "MOST_TURNS", "LEAST_CIRCLE", "MOST_CIRCLE", "MOST_COUNT", "look_turns", "look_circles", "look_count", "least_common", "finest", "primes_in", "bar", "crowds_of", "few_circles", "holes_of", "plan", "_law_draws", "_law_same", "_law_gcd", "_law_least", "_law_under", "_law_circles", "_law_wheel", "_law_bar", "_law_low"] : List PySem.Str) ++ (["_law_plus", "_law_choices", "_law_side", "_law_told", "_law_walked"] : List PySem.Str)
theorem mks_tf : ∀ p ∈ mks, ((p.1, none) : He.Defn) ∈ tf := by decide
theorem run (w : World) : HandSHeadRun.RunEq R (PySem.W.view R.prog [39]) hk ob 9000 loose w := by
  intro os
  kernel_rfl
end Law

set_option Elab.async false
set_option linter.all false
set_option maxRecDepth 100000
set_option maxHeartbeats 4000000
namespace Pd
open PySem L2

inductive D where
  | non
  | bl (b : Bool)
  | int (i : Int)
  | str (x : Str)
  | lst (xs : List D)
  | tup (xs : List D)
  | obj (C : Str) (ns : List Str) (xs : List D)
  | scr (ns : List Int)
  | loc (n : Nat)
  | dct (ks vs : List D)
  | dtt (ks : List NestedKey) (vs : List D)
  | clo (i : Int)

def cmk (n : Nat) : HO := .met n n
theorem cmk_inj {n m : Nat} (h : cmk n = cmk m) : n = m := by
  unfold cmk at h
  exact (HO.met.inj h).1
def keyD : Key → D
  | .inl i => .int i
  | .inr x => .str x
def Sub (H0 H : Hp) : Prop := ∀ b u, H0 b = some u → H b = some u ∨ (∃ n, u = cmk n) ∧ H b ≠ none
theorem Sub.of {H0 H : Hp} (s : Same H0 H) : Sub H0 H := fun b u e => .inl (s b u e)
theorem Sub.refl (H : Hp) : Sub H H := fun b u e => .inl e
theorem Sub.free {H0 H : Hp} (s : Sub H0 H) {a : Addr} (h : H a = none) : H0 a = none := by
  cases e : H0 a with
  | none => rfl
  | some u =>
    rcases s a u e with z | ⟨_, z⟩
    · rw [h] at z
      cases z
    · exact absurd h z
theorem Sub.to {A H0 H : Hp} (s : Same A H0) (t : Sub H0 H) : Sub A H := fun b u e => t b u (s b u e)
theorem Sub.trans {H0 H H' : Hp} (s : Sub H0 H) (t : Same H H') : Sub H0 H' := fun b u e => by
  rcases s b u e with z | ⟨z1, z2⟩
  · exact .inl (t b u z)
  · refine .inr ⟨z1, fun y => ?_⟩
    cases q : H b with
    | none => exact z2 q
    | some v =>
      rw [t b v q] at y
      cases y
theorem Sub.upd {H0 H : Hp} (s : Sub H0 H) {a : Addr} {o : HO} (h : H0 a = none) : Sub H0 (upd H a o) := fun b u e => by
  rw [upd_ne (ne_of_none e h)]
  exact s b u e
theorem Sub.get {H0 H : Hp} (s : Sub H0 H) {a : Addr} {u : HO} (h : H0 a = some u) (n : ∀ n, u ≠ cmk n) : H a = some u := by
  rcases s a u h with z | ⟨⟨k, z⟩, _⟩
  · exact z
  · exact absurd z (n k)

structure G where
  K : PySem.W.Frag
  ca : Str → Addr
  w : World
abbrev DEnt := NestedKey × Addr × Value
def entN (w : World) (x : DEnt) : DictEntry := ⟨x.1.hash w, .ref x.2.1, x.2.2⟩
def dtP (w : World) (a : Addr) (xs : List DEnt) (ep : Nat) (h : Heap) : Prop :=
  ∃ o es, h.get? a = some o ∧ o.ExactDict ∧ o.data = .dict es ep ∧ es.toList = xs.map (entN w) ∧ (xs.map (·.1)).Nodup ∧ xs.length ≤ sizeLine ∧ (a == sysModules) = false
def dtO (w : World) (a : Addr) (xs : List DEnt) (ep : Nat) : HO := .ext (dtP w a xs ep)
mutual
inductive KeyAt (K : PySem.W.Frag) (H : Hp) : NestedKey → V → Prop
  | none : KeyAt K H .none .non
  | num (i : Int) : KeyAt K H (.num i) (.int i)
  | text (x : Str) : KeyAt K H (.text x) (.str x)
  | tup {a : Addr} {ks : List NestedKey} {vs : List V} (q : SqT K H a vs) (r : KeysAt K H ks vs) : KeyAt K H (.tup ks) (.ref a)
inductive KeysAt (K : PySem.W.Frag) (H : Hp) : List NestedKey → List V → Prop
  | nil : KeysAt K H [] []
  | cons {k : NestedKey} {ks : List NestedKey} {v : V} {vs : List V} (q : KeyAt K H k v) (r : KeysAt K H ks vs) : KeysAt K H (k :: ks) (v :: vs)
end

def LamO (f : Addr) (o : Obj) : HO := .ext fun h => h.get? f = some o
theorem lamO_nk {f : Addr} {o : Obj} (n : Nat) : LamO f o ≠ cmk n := fun z => by
  unfold LamO cmk at z
  cases z
structure ModLam (ar : Arguments) (bd : Expr) (sc : Scope) : Prop where
  b : ∃ (p1 p2 p3 p4 p5 : Pos) (j : Nat), bd = .Compare (.BinOp (.Name "other" p1) .Mod (.Name "number" p2) p3) [.Eq] [.Constant (.int 0) j p4] p5
  s : NdefX.NScope ["other", "number"] ["other"] ["number"] sc
  a : ∀ (q : Str) (cl : List (Str × Addr)) (pm cv ctv u : Value), bindArgs (PySem.W.kla_fn "<lambda>" q ar bd sc cl pm cv ctv) ⟨[u], []⟩ = pure [(("other" : Str), u)]

mutual
inductive Rp (g : G) (H : Hp) : V → D → Prop
  | non : Rp g H .non .non
  | bl (b : Bool) : Rp g H (.bl b) (.bl b)
  | int (i : Int) : Rp g H (.int i) (.int i)
  | str (x : Str) : Rp g H (.str x) (.str x)
  | lst {a : Addr} {vs : List V} {ds : List D} (q : Rd H a (.lst vs)) (r : RpA g H vs ds) : Rp g H (.ref a) (.lst ds)
  | tup {a : Addr} {vs : List V} {ds : List D} (q : SqT g.K H a vs) (r : RpA g H vs ds) : Rp g H (.ref a) (.tup ds)
  | obj {C : Str} {ns : List Str} {a dx : Addr} {vs : List V} {ds : List D} (q : H a = some (.ins (g.ca C) dx (ns.zip vs))) (r : RpA g H vs ds) : Rp g H (.ref a) (.obj C ns ds)
  | scr {a : Addr} {ns : List Int} (q : SqL g.K H a (ns.map V.int)) : Rp g H (.ref a) (.scr ns)
  | loc {a : Addr} {n : Nat} (q : H a = some (cmk n)) : Rp g H (.ref a) (.loc n)
  | dcK {a : Addr} {kvs : List (Key × V)} {ks vs : List D} (q : Rd H a (.dK kvs)) (e : ks = kvs.map fun p => keyD p.1) (r : RpA g H (kvs.map (·.2)) vs) : Rp g H (.ref a) (.dct ks vs)
  | dtt {a : Addr} {xs : List DEnt} {ep : Nat} {ks : List NestedKey} {ws : List V} {vs : List D} (q : H a = some (dtO g.w a xs ep)) (e : ks = xs.map (·.1)) (dp : ∀ k ∈ ks, k.depth ≤ 8) (rk : ∀ x ∈ xs, KeyAt g.K H x.1 (.ref x.2.1))
      (rel : Vals ws (xs.map (·.2.2))) (r : RpA g H ws vs) : Rp g H (.ref a) (.dtt ks vs)
  | clo {f c c' : Addr} {i : Int} {q : Str} {ar : Arguments} {bd : Expr} {sc : Scope} {pm ctv u : Value} {oc : Obj} (m : ModLam ar bd sc) (ru : RelV (.int i) u) (ho : oc.data = .cell (some u)) (q1 : H f = some (LamO f (PySem.W.kla_obj "<lambda>" q ar bd sc [("number", c)] pm c' ctv)))
      (q2 : H c = some (LamO c oc)) (q3 : H c' = some (LamX.CodeO c' q)) : Rp g H (.ref f) (.clo i)
inductive RpA (g : G) (H : Hp) : List V → List D → Prop
  | nil : RpA g H [] []
  | cons {v : V} {vs : List V} {d : D} {ds : List D} (q : Rp g H v d) (r : RpA g H vs ds) : RpA g H (v :: vs) (d :: ds)
end

theorem rd_up {H H' : Hp} {a : Addr} {u : HO} (e : Same H H') (h : Rd H a u) : Rd H' a u := by
  rcases h with h | ⟨o, h⟩
  · exact .inl (e _ _ h)
  · exact .inr ⟨o, e _ _ h⟩
theorem rd_in {H H' : Hp} {a : Addr} {u : HO} (e : Sub H H') (h : Rd H a u) (n : ∀ n, u ≠ cmk n) : Rd H' a u := by
  rcases h with h | ⟨o, h⟩
  · exact .inl (e.get h n)
  · exact .inr ⟨o, e.get h (fun _ z => nomatch z)⟩
theorem sqL_up {K : PySem.W.Frag} {H H' : Hp} {a : Addr} {xs : List V} (e : Same H H') (h : SqL K H a xs) : SqL K H' a xs := e.seq h
theorem sqT_up {K : PySem.W.Frag} {H H' : Hp} {a : Addr} {xs : List V} (e : Same H H') (h : SqT K H a xs) : SqT K H' a xs := by
  rcases h with (h | ⟨o, h⟩) | h
  · exact .inl (.inl (e _ _ h))
  · exact .inl (.inr ⟨o, e _ _ h⟩)
  · exact .inr h

theorem rdL_in {H H' : Hp} {a : Addr} {xs : List V} (e : Sub H H') (h : Rd H a (.lst xs)) : Rd H' a (.lst xs) := rd_in e h fun _ z => nomatch z
theorem sqL_in {K : PySem.W.Frag} {H H' : Hp} {a : Addr} {xs : List V} (e : Sub H H') (h : SqL K H a xs) : SqL K H' a xs := by
  rcases h with h | h
  · exact .inl (rdL_in e h)
  · exact .inr h
theorem sqT_in {K : PySem.W.Frag} {H H' : Hp} {a : Addr} {xs : List V} (e : Sub H H') (h : SqT K H a xs) : SqT K H' a xs := by
  rcases h with h | h
  · exact .inl (rd_in e h fun _ z => nomatch z)
  · exact .inr h

mutual
theorem KeyAt.up {K : PySem.W.Frag} {H H' : Hp} (e : Same H H') : ∀ (k : NestedKey) (v : V), KeyAt K H k v → KeyAt K H' k v
  | .none, _, h => by cases h; exact .none
  | .num _, _, h => by cases h; exact .num _
  | .text _, _, h => by cases h; exact .text _
  | .tup ks, _, h => by
    cases h with
    | tup q r => exact .tup (sqT_up e q) (KeysAt.up e ks _ r)
theorem KeysAt.up {K : PySem.W.Frag} {H H' : Hp} (e : Same H H') : ∀ (ks : List NestedKey) (vs : List V), KeysAt K H ks vs → KeysAt K H' ks vs
  | [], _, h => by cases h; exact .nil
  | k :: ks, _, h => by
    cases h with
    | cons q r => exact .cons (KeyAt.up e k _ q) (KeysAt.up e ks _ r)
end
mutual
theorem Rp.up {g : G} {H H' : Hp} (e : Same H H') : ∀ (d : D) (v : V), Rp g H v d → Rp g H' v d
  | .non, _, h => by cases h; exact .non
  | .bl _, _, h => by cases h; exact .bl _
  | .int _, _, h => by cases h; exact .int _
  | .str _, _, h => by cases h; exact .str _
  | .lst ds, _, h => by
    cases h with
    | lst q r => exact .lst (rd_up e q) (RpA.up e ds _ r)
  | .tup ds, _, h => by
    cases h with
    | tup q r => exact .tup (sqT_up e q) (RpA.up e ds _ r)
  | .obj C ns ds, _, h => by
    cases h with
    | obj q r => exact .obj (e _ _ q) (RpA.up e ds _ r)
  | .scr ns, _, h => by
    cases h with
    | scr q => exact .scr (sqL_up e q)
  | .loc n, _, h => by
    cases h with
    | loc q => exact .loc (e _ _ q)
  | .dct ks vs, _, h => by
    cases h with
    | dcK q e1 r => exact .dcK (rd_up e q) e1 (RpA.up e vs _ r)
  | .dtt ks vs, _, h => by
    cases h with
    | dtt q e1 dp rk rel r => exact .dtt (e _ _ q) e1 dp (fun x hx => KeyAt.up e _ _ (rk x hx)) rel (RpA.up e vs _ r)
  | .clo _, _, h => by
    cases h with
    | clo m ru ho q1 q2 q3 => exact .clo m ru ho (e _ _ q1) (e _ _ q2) (e _ _ q3)
theorem RpA.up {g : G} {H H' : Hp} (e : Same H H') : ∀ (ds : List D) (vs : List V), RpA g H vs ds → RpA g H' vs ds
  | [], _, h => by cases h; exact .nil
  | d :: ds, _, h => by
    cases h with
    | cons q r => exact .cons (Rp.up e d _ q) (RpA.up e ds _ r)
end
theorem Rp.mono {g : G} {H H' : Hp} {v : V} {d : D} (h : Rp g H v d) (e : Same H H') : Rp g H' v d := Rp.up e d v h
theorem RpA.mono {g : G} {H H' : Hp} {vs : List V} {ds : List D} (h : RpA g H vs ds) (e : Same H H') : RpA g H' vs ds := RpA.up e ds vs h
theorem RpA.length {g : G} {H : Hp} : ∀ {vs : List V} {ds : List D}, RpA g H vs ds → vs.length = ds.length
  | _, _, .nil => rfl
  | _, _, .cons _ r => by rw [List.length_cons, List.length_cons, r.length]
theorem RpA.get {g : G} {H : Hp} : ∀ {vs : List V} {ds : List D} {i : Nat} {d : D}, RpA g H vs ds → ds[i]? = some d → ∃ v, vs[i]? = some v ∧ Rp g H v d
  | _, _, _, _, .nil, e => by simp at e
  | _, _, 0, _, .cons q _, e => by
    simp at e
    subst e
    exact ⟨_, rfl, q⟩
  | _, _, i + 1, d, .cons _ r, e => by
    obtain ⟨v, h1, h2⟩ := RpA.get (i := i) (d := d) r (by simpa using e)
    exact ⟨v, by simpa using h1, h2⟩
theorem RpA.append {g : G} {H : Hp} : ∀ {vs ws : List V} {ds es : List D}, RpA g H vs ds → RpA g H ws es → RpA g H (vs ++ ws) (ds ++ es)
  | _, _, _, _, .nil, s => s
  | _, _, _, _, .cons q r, s => .cons q (RpA.append r s)
theorem RpA.take {g : G} {H : Hp} : ∀ {vs : List V} {ds : List D} (n : Nat), RpA g H vs ds → RpA g H (vs.take n) (ds.take n)
  | _, _, 0, _ => .nil
  | _, _, _ + 1, .nil => .nil
  | _, _, n + 1, .cons q r => .cons q (RpA.take n r)
theorem RpA.drop {g : G} {H : Hp} : ∀ {vs : List V} {ds : List D} (n : Nat), RpA g H vs ds → RpA g H (vs.drop n) (ds.drop n)
  | _, _, 0, h => h
  | _, _, _ + 1, .nil => .nil
  | _, _, n + 1, .cons _ r => RpA.drop n r
theorem RpA.one {g : G} {H : Hp} {v : V} {d : D} (h : Rp g H v d) : RpA g H [v] [d] := .cons h .nil
theorem RpA.set {g : G} {H : Hp} {v : V} {d : D} (h : Rp g H v d) : ∀ {vs : List V} {ds : List D} (i : Nat), RpA g H vs ds → RpA g H (vs.set i v) (ds.set i d)
  | _, _, _, .nil => .nil
  | _, _, 0, .cons _ r => .cons h r
  | _, _, i + 1, .cons q r => .cons q (RpA.set h i r)
theorem RpA.reverse {g : G} {H : Hp} : ∀ {vs : List V} {ds : List D}, RpA g H vs ds → RpA g H vs.reverse ds.reverse
  | _, _, .nil => .nil
  | _, _, .cons q r => by
    rw [List.reverse_cons, List.reverse_cons]
    exact RpA.append (RpA.reverse r) (.one q)
theorem RpA.mapInt {g : G} {H : Hp} : ∀ (ns : List Int), RpA g H (ns.map V.int) (ns.map D.int)
  | [] => .nil
  | n :: ns => .cons (.int n) (RpA.mapInt ns)

inductive Res (α : Type) where
  | ok (a : α)
  | xc (c : Str) (fs : List (Str × D))
  | bad
def Res.bind {α β : Type} (r : Res α) (k : α → Res β) : Res β :=
  match r with
  | .ok a => k a
  | .xc c fs => .xc c fs
  | .bad => .bad
theorem Res.bind_ok {α β : Type} (a : α) (k : α → Res β) : (Res.ok a).bind k = k a := rfl

inductive O where
  | no
  | sh (d : D)
  | ol (ds : List D)
  | ot (ks : List NestedKey) (vs : List D)
structure DtR (g : G) (H : Hp) (xs : List DEnt) (ks : List NestedKey) (vs : List D) : Prop where
  e : ks = xs.map (·.1)
  dp : ∀ k ∈ ks, k.depth ≤ 8
  rk : ∀ x ∈ xs, KeyAt g.K H x.1 (.ref x.2.1)
  rv : ∃ ws, Vals ws (xs.map (·.2.2)) ∧ RpA g H ws vs
theorem DtR.mono {g : G} {H H' : Hp} {xs : List DEnt} {ks : List NestedKey} {vs : List D} (h : DtR g H xs ks vs) (e : Same H H') : DtR g H' xs ks vs :=
  ⟨h.e, h.dp, fun x hx => KeyAt.up e _ _ (h.rk x hx), let ⟨ws, a, b⟩ := h.rv; ⟨ws, a, b.mono e⟩⟩

inductive Sl (g : G) (H0 H : Hp) : Option V → O → List Addr → Prop
  | no {v : Option V} : Sl g H0 H v .no []
  | sh {v : V} {d : D} (q : Rp g H0 v d) : Sl g H0 H (some v) (.sh d) []
  | ol {a : Addr} {vs : List V} {ds : List D} (q : H a = some (.lst vs)) (r : RpA g H0 vs ds) : Sl g H0 H (some (.ref a)) (.ol ds) [a]
  | ot {a : Addr} {xs : List DEnt} {ep : Nat} {ks : List NestedKey} {vs : List D} (q : H a = some (dtO g.w a xs ep)) (r : DtR g H0 xs ks vs) : Sl g H0 H (some (.ref a)) (.ot ks vs) [a]
inductive Sls (g : G) (H0 H : Hp) : St → List O → List Addr → Prop
  | nil : Sls g H0 H [] [] []
  | cons {v : Option V} {o : O} {σ : St} {δ : List O} {as bs : List Addr} (q : Sl g H0 H v o as) (r : Sls g H0 H σ δ bs) : Sls g H0 H (v :: σ) (o :: δ) (as ++ bs)

structure Grow (H0 H H0' H' : Hp) : Prop where
  up : Same H H'
  up0 : Same H0 H0'
  sub : Sub H0' H'
  fr : ∀ a, H a ≠ none → H0 a = none → H0' a = none
  nm : ∀ a n, H0' a = some (cmk n) → H0 a = some (cmk n)
theorem Grow.refl {H0 H : Hp} (s : Sub H0 H) : Grow H0 H H0 H := ⟨Same.refl H, Same.refl H0, s, fun _ _ h => h, fun _ _ h => h⟩
theorem Grow.trans {H0 H H1 H' H2 H'' : Hp} (a : Grow H0 H H1 H') (b : Grow H1 H' H2 H'') : Grow H0 H H2 H'' :=
  ⟨a.up.trans b.up, a.up0.trans b.up0, b.sub, fun x hx h0 => b.fr x (fun z => hx (a.up.free z)) (a.fr x hx h0), fun x n h => a.nm x n (b.nm x n h)⟩
theorem Grow.new {H0 H : Hp} {p : Addr} {o : HO} (s : Sub H0 H) (hp : H p = none) (nk : ∀ n, o ≠ cmk n := by intro n z; cases z) : Grow H0 H (upd H0 p o) (upd H p o) where
  up := fun b u e => by rw [upd_ne (ne_of_none e hp)]; exact e
  up0 := fun b u e => by rw [upd_ne (ne_of_none e (s.free hp))]; exact e
  sub := fun b u e => by
    by_cases h : b = p
    · subst h
      rw [upd_same] at e ⊢
      exact .inl e
    · rw [upd_ne h] at e ⊢
      exact s b u e
  fr := fun a ha h0 => by
    have n : a ≠ p := fun z => ha (by rw [z]; exact hp)
    rw [upd_ne n]
    exact h0
  nm := fun a n h => by
    by_cases e : a = p
    · subst e
      rw [upd_same] at h
      exact absurd (Option.some.inj h) (nk n)
    · rw [upd_ne e] at h
      exact h
theorem Grow.lay {H0 H : Hp} {p : Addr} {o : HO} (s : Sub H0 H) (hp : H p = none) : Grow H0 H H0 (upd H p o) where
  up := fun b u e => by rw [upd_ne (ne_of_none e hp)]; exact e
  up0 := Same.refl H0
  sub := s.trans fun b u e => by rw [upd_ne (ne_of_none e hp)]; exact e
  fr := fun _ _ h => h
  nm := fun _ _ h => h

structure Stt (g : G) (Hc H0c H0 H : Hp) (σ : St) (δ : List O) : Prop where
  own : ∃ as, Sls g H0 H σ δ as ∧ as.Nodup ∧ ∀ a ∈ as, Hc a = none ∧ H0 a = none
  s0 : Sub H0 H
  sc : Same Hc H
  s0c : Same H0c H0
  fr : ∀ a, Hc a ≠ none → H0c a = none → H0 a = none
  nm : ∀ a n, H0 a = some (cmk n) → H0c a = some (cmk n)

section
variable {g : G} {Hc H0c H0 H H0' H' : Hp} {σ : St} {δ : List O} {as : List Addr} {v : Option V} {o : O}
theorem Sl.up (h : Sl g H0 H v o as) (e0 : Same H0 H0') (e : ∀ a ∈ as, H' a = H a) : Sl g H0' H' v o as := by
  cases h with
  | no => exact .no
  | sh q => exact .sh (q.mono e0)
  | ol q r => exact .ol (by rw [e _ (List.mem_singleton.mpr rfl)]; exact q) (r.mono e0)
  | ot q r => exact .ot (by rw [e _ (List.mem_singleton.mpr rfl)]; exact q) (r.mono e0)
theorem Sls.up (h : Sls g H0 H σ δ as) (e0 : Same H0 H0') : (∀ a ∈ as, H' a = H a) → Sls g H0' H' σ δ as := by
  induction h with
  | nil => exact fun _ => .nil
  | cons q r ih => exact fun e => .cons (q.up e0 fun a ha => e a (List.mem_append_left _ ha)) (ih fun a ha => e a (List.mem_append_right _ ha))
theorem Sl.there (h : Sl g H0 H v o as) : ∀ a ∈ as, H a ≠ none := by
  cases h with
  | no => intro a ha; cases ha
  | sh q => intro a ha; cases ha
  | ol q r =>
    intro a ha
    rw [List.mem_singleton.mp ha, q]
    exact fun z => nomatch z
  | ot q r =>
    intro a ha
    rw [List.mem_singleton.mp ha, q]
    exact fun z => nomatch z
theorem Sls.there (h : Sls g H0 H σ δ as) : ∀ a ∈ as, H a ≠ none := by
  induction h with
  | nil => intro a ha; cases ha
  | cons q r ih =>
    intro a ha
    rcases List.mem_append.mp ha with z | z
    · exact q.there a z
    · exact ih a z
theorem same_at {a : Addr} (e : Same H H') (h : H a ≠ none) : H' a = H a := by
  cases q : H a with
  | none => exact absurd q h
  | some u => exact e a u q
theorem Stt.grow (S : Stt g Hc H0c H0 H σ δ) (w : Grow H0 H H0' H') : Stt g Hc H0c H0' H' σ δ := by
  obtain ⟨as, h1, h2, h3⟩ := S.own
  refine ⟨⟨as, h1.up w.up0 fun a ha => same_at w.up (h1.there a ha), h2, fun a ha => ⟨(h3 a ha).1, w.fr a (h1.there a ha) (h3 a ha).2⟩⟩, w.sub, S.sc.trans w.up, S.s0c.trans w.up0, fun a h1 h2 => ?_, fun a n h => S.nm a n (w.nm a n h)⟩
  refine w.fr a ?_ (S.fr a h1 h2)
  rw [same_at S.sc h1]
  exact h1
theorem Stt.grown (S : Stt g Hc H0c H0 H σ δ) : Grow H0c Hc H0 H := ⟨S.sc, S.s0c, S.s0, S.fr, S.nm⟩
theorem Sls.len (h : Sls g H0 H σ δ as) : σ.length = δ.length := by
  induction h with
  | nil => rfl
  | cons q r ih => rw [List.length_cons, List.length_cons, ih]
theorem Sls.get {i : Nat} {d : D} (h : Sls g H0 H σ δ as) : δ[i]? = some (.sh d) → ∃ v, σ[i]? = some (some v) ∧ Rp g H0 v d := by
  induction h generalizing i with
  | nil => intro e; simp at e
  | cons q r ih =>
    cases i with
    | zero =>
      intro e
      simp at e
      subst e
      cases q with
      | sh q => exact ⟨_, rfl, q⟩
    | succ i =>
      intro e
      obtain ⟨v, h1, h2⟩ := ih (i := i) (by simpa using e)
      exact ⟨v, by simpa using h1, h2⟩
theorem Sls.set {v : Option V} {o : O} {cs : List Addr} (q : Sl g H0 H v o cs) (h : Sls g H0 H σ δ as) : ∀ (i : Nat), as.Nodup → cs.Nodup → (∀ a ∈ cs, a ∉ as) →
    ∃ bs, Sls g H0 H (σ.set i v) (δ.set i o) bs ∧ bs.Nodup ∧ ∀ a ∈ bs, a ∈ cs ∨ a ∈ as := by
  induction h with
  | nil => intro i n _ _; exact ⟨[], .nil, n, fun a ha => nomatch ha⟩
  | @cons v1 o1 σ1 δ1 as1 bs1 q1 r1 ih =>
    intro i n nc hd
    have n1 := List.nodup_append.mp n
    cases i with
    | zero =>
      refine ⟨cs ++ bs1, .cons q r1, List.nodup_append.mpr ⟨nc, n1.2.1, fun a ha b hb e => ?_⟩, fun a ha => ?_⟩
      · subst e
        exact hd a ha (List.mem_append_right _ hb)
      · rcases List.mem_append.mp ha with z | z
        · exact .inl z
        · exact .inr (List.mem_append_right _ z)
    | succ i =>
      obtain ⟨bs, h1, h2, h3⟩ := ih i n1.2.1 nc fun a ha hb => hd a ha (List.mem_append_right _ hb)
      refine ⟨as1 ++ bs, .cons q1 h1, List.nodup_append.mpr ⟨n1.1, h2, fun a ha b hb e => ?_⟩, fun a ha => ?_⟩
      · subst e
        rcases h3 a hb with z | z
        · exact hd a z (List.mem_append_left _ ha)
        · exact n1.2.2 a ha a z rfl
      · rcases List.mem_append.mp ha with z | z
        · exact .inr (List.mem_append_left _ z)
        · rcases h3 a z with y | y
          · exact .inl y
          · exact .inr (List.mem_append_right _ y)
theorem Stt.setSh {x : V} {d : D} (S : Stt g Hc H0c H0 H σ δ) (r : Rp g H0 x d) (i : Nat) : Stt g Hc H0c H0 H (σ.set i (some x)) (δ.set i (.sh d)) := by
  obtain ⟨as, h1, h2, h3⟩ := S.own
  obtain ⟨bs, q1, q2, q3⟩ := Sls.set (.sh r) h1 i h2 List.nodup_nil fun a ha => nomatch ha
  refine ⟨⟨bs, q1, q2, fun a ha => ?_⟩, S.s0, S.sc, S.s0c, S.fr, S.nm⟩
  rcases q3 a ha with z | z
  · cases z
  · exact h3 a z
theorem Stt.setNo (S : Stt g Hc H0c H0 H σ δ) (v : Option V) (i : Nat) : Stt g Hc H0c H0 H (σ.set i v) (δ.set i .no) := by
  obtain ⟨as, h1, h2, h3⟩ := S.own
  obtain ⟨bs, q1, q2, q3⟩ := Sls.set (v := v) .no h1 i h2 List.nodup_nil fun a ha => nomatch ha
  refine ⟨⟨bs, q1, q2, fun a ha => ?_⟩, S.s0, S.sc, S.s0c, S.fr, S.nm⟩
  rcases q3 a ha with z | z
  · cases z
  · exact h3 a z
end
end Pd

set_option Elab.async false
set_option linter.all false
set_option maxRecDepth 100000
set_option maxHeartbeats 4000000
namespace Pd
open PySem L2

def FR (g : G) (H0 : Hp) (fvs : List (Str × V)) (fs : List (Str × D)) : Prop := fvs.map (·.1) = fs.map (·.1) ∧ RpA g H0 (fvs.map (·.2)) (fs.map (·.2))
def Post {α β : Type} (g : G) (W : WX) (σ : St) (H0 H : Hp) (R : Hp → α → β → Prop) (Q : α → Hp → Prop) : Res β → Prop
  | .ok b => ∀ x H0' H', Grow H0 H H0' H' → R H0' x b → Q x H'
  | .xc c fs => ∀ ad fvs H0' H', Grow H0 H H0' H' → H' ad = some (.xd fvs) → FR g H0' fvs fs → W (.ref (g.ca c)) (some ad) σ H'
  | .bad => False
abbrev Sm := List O
def tG {α β : Type} (g : G) (W : WX) (R : Hp → α → β → Prop) (f : Sm → Res β) : St → Hp → (α → Hp → Prop) → Prop := fun σ H Q => ∃ Hc H0c H0 δ, Stt g Hc H0c H0 H σ δ ∧ Post g W σ H0 H R Q (f δ)
abbrev tD (g : G) (W : WX) (f : Sm → Res D) : TE := tG g W (Rp g) f
abbrev tDA (g : G) (W : WX) (f : Sm → Res (List D)) : TA := tG g W (RpA g) f
def REq {α : Type} (_ : Hp) (x y : α) : Prop := x = y
abbrev tDT (g : G) (W : WX) (f : Sm → Res Bool) : TT := tG g W REq f
abbrev tDO (g : G) (W : WX) (f : Sm → Res (Option Int)) : TO := tG g W REq f

section
variable {α β α1 β1 : Type} {g : G} {W : WX} {σ : St} {δ : Sm} {Hc H0c H0 H H0' H' : Hp} {R : Hp → α → β → Prop} {R1 : Hp → α1 → β1 → Prop} {Q : α → Hp → Prop}
theorem Post.grow {r : Res β} (w : Grow H0 H H0' H') (p : Post g W σ H0 H R Q r) : Post g W σ H0' H' R Q r := by
  cases r with
  | ok b => exact fun x A B w' q => p x A B (w.trans w') q
  | xc c fs => exact fun ad fvs A B w' q1 q2 => p ad fvs A B (w.trans w') q1 q2
  | bad => exact p
theorem Post.bind {f1 : Sm → Res β1} {k : β1 → Res β} {P : α1 → Hp → Prop} (S : Stt g Hc H0c H0 H σ δ) (p : Post g W σ H0 H R Q ((f1 δ).bind k))
    (hk : ∀ x b H0' H', Grow H0 H H0' H' → Stt g Hc H0c H0' H' σ δ → R1 H0' x b → Post g W σ H0' H' R Q (k b) → P x H') : tG g W R1 f1 σ H P := by
  refine ⟨Hc, H0c, H0, δ, S, ?_⟩
  cases e : f1 δ with
  | ok b =>
    rw [e] at p
    exact fun x A B w q => hk x b A B w (S.grow w) q (Post.grow w p)
  | xc c fs =>
    rw [e] at p
    exact p
  | bad =>
    rw [e] at p
    exact p.elim
theorem Post.now {b : β} {x : α} (S : Stt g Hc H0c H0 H σ δ) (p : Post g W σ H0 H R Q (.ok b)) (r : R H0 x b) : Q x H := p x H0 H (Grow.refl S.s0) r
theorem Post.new {b : β} {x : α} {a : Addr} {o : HO} (S : Stt g Hc H0c H0 H σ δ) (p : Post g W σ H0 H R Q (.ok b)) (ha : H a = none) (r : R (upd H0 a o) x b) (nk : ∀ n, o ≠ cmk n := by intro n z; cases z) : Q x (upd H a o) := p x _ _ (Grow.new S.s0 ha nk) r
end

theorem peI {X : Cx} {e : Expr} {t t' : TE} (h : PE X e t) (i : ∀ σ H Q, t' σ H Q → t σ H Q) : PE X e t' := ⟨fun pins s σ H Q I w => h.run pins s σ H Q I (i σ H Q w)⟩
theorem ptI {X : Cx} {e : Expr} {t t' : TT} (h : PT X e t) (i : ∀ σ H Q, t' σ H Q → t σ H Q) : PT X e t' := ⟨fun pins s σ H Q I w => h.run pins s σ H Q I (i σ H Q w)⟩
theorem pwI {X : Cx} {e : Expr} {t t' : TT} (h : PW X e t) (i : ∀ σ H Q, t' σ H Q → t σ H Q) : PW X e t' := ⟨fun wh pins s σ H Q I w => h.run wh pins s σ H Q I (i σ H Q w)⟩
theorem paI {X : Cx} {e : List Expr} {t t' : TA} (h : PA X e t) (i : ∀ σ H Q, t' σ H Q → t σ H Q) : PA X e t' := ⟨fun pos pins s σ H Q I w => h.run pos pins s σ H Q I (i σ H Q w)⟩
theorem pkI {X : Cx} {e : List Keyword} {t t' : TA} (h : PK X e t) (i : ∀ σ H Q, t' σ H Q → t σ H Q) : PK X e t' := ⟨fun pos pins s σ H Q I w => h.run pos pins s σ H Q I (i σ H Q w)⟩
theorem poI {X : Cx} {e : Option Expr} {t t' : TO} (h : PO X e t) (i : ∀ σ H Q, t' σ H Q → t σ H Q) : PO X e t' := ⟨fun pins s σ H Q I w => h.run pins s σ H Q I (i σ H Q w)⟩
theorem psI {X : Cx} {e : Stmt} {t t' : TS} (h : PS X e t) (i : ∀ D σ H, t' D σ H → t D σ H) : PS X e t' := ⟨fun pins s σ H Q I w => h.run pins s σ H Q I (i Q σ H w)⟩
theorem pssI {X : Cx} {e : List Stmt} {t t' : TS} (h : PSs X e t) (i : ∀ D σ H, t' D σ H → t D σ H) : PSs X e t' := ⟨fun pins s σ H Q I w => h.run pins s σ H Q I (i Q σ H w)⟩

abbrev PD (X : Cx) (ca : Str → Addr) (W : WX) (e : Expr) (f : Sm → Res D) : Prop := PE X e (tD ⟨X.K, ca, X.w⟩ W f)
abbrev PDT (X : Cx) (ca : Str → Addr) (W : WX) (e : Expr) (f : Sm → Res Bool) : Prop := PT X e (tDT ⟨X.K, ca, X.w⟩ W f)
abbrev PDW (X : Cx) (ca : Str → Addr) (W : WX) (e : Expr) (f : Sm → Res Bool) : Prop := PW X e (tDT ⟨X.K, ca, X.w⟩ W f)
abbrev PDA (X : Cx) (ca : Str → Addr) (W : WX) (e : List Expr) (f : Sm → Res (List D)) : Prop := PA X e (tDA ⟨X.K, ca, X.w⟩ W f)
abbrev PDK (X : Cx) (ca : Str → Addr) (W : WX) (e : List Keyword) (f : Sm → Res (List D)) : Prop := PK X e (tDA ⟨X.K, ca, X.w⟩ W f)
abbrev PDO (X : Cx) (ca : Str → Addr) (W : WX) (e : Option Expr) (f : Sm → Res (Option Int)) : Prop := PO X e (tDO ⟨X.K, ca, X.w⟩ W f)

def eVar (i : Nat) : Sm → Res D := fun δ => match δ[i]? with
  | some (.sh d) => .ok d
  | _ => .bad
def eC (d : D) : Sm → Res D := fun _ => .ok d
def e1 (k : D → Res D) (a : Sm → Res D) : Sm → Res D := fun δ => (a δ).bind k
def e2 (k : D → D → Res D) (a b : Sm → Res D) : Sm → Res D := fun δ => (a δ).bind fun x => (b δ).bind fun y => k x y
def aNil : Sm → Res (List D) := fun _ => .ok []
def aCons (a : Sm → Res D) (r : Sm → Res (List D)) : Sm → Res (List D) := fun δ => (a δ).bind fun x => (r δ).bind fun xs => .ok (x :: xs)
def kTup (xs : List D) : Res D := if xs.length ≤ 16777216 then .ok (.tup xs) else .bad
def kLst (xs : List D) : Res D := if xs.length ≤ 16777216 then .ok (.lst xs) else .bad
def eA (k : List D → Res D) (a : Sm → Res (List D)) : Sm → Res D := fun δ => (a δ).bind k
def eIf (t : Sm → Res Bool) (a b : Sm → Res D) : Sm → Res D := fun δ => (t δ).bind fun c => if c = true then a δ else b δ
def asB : D → Res Bool
  | .bl b => .ok b
  | _ => .bad
def tOf (a : Sm → Res D) : Sm → Res Bool := fun δ => (a δ).bind asB
def tAnd2 (a b : Sm → Res Bool) : Sm → Res Bool := fun δ => (a δ).bind fun c => if c = true then b δ else .ok false
def tOr2 (a b : Sm → Res Bool) : Sm → Res Bool := fun δ => (a δ).bind fun c => if c = true then .ok true else b δ
def tNot1 (a : Sm → Res Bool) : Sm → Res Bool := fun δ => (a δ).bind fun c => .ok (!c)
def eAnd (a b : Sm → Res D) : Sm → Res D := fun δ => (a δ).bind fun x => match x with
  | .bl true => b δ
  | .bl false => .ok (.bl false)
  | _ => .bad
def eOr (a b : Sm → Res D) : Sm → Res D := fun δ => (a δ).bind fun x => match x with
  | .bl true => .ok (.bl true)
  | .bl false => b δ
  | _ => .bad
def kNot : D → Res D
  | .bl b => .ok (.bl (!b))
  | _ => .bad

def K2 (g : G) (r : R2) (k : D → D → Res D) : Prop := ∀ (W : WX) (σ : St) (δ : Sm) (Hc H0c H0 H : Hp) (x y : V) (a b : D) (Q : VK), Stt g Hc H0c H0 H σ δ → Rp g H0 x a → Rp g H0 y b → Post g W σ H0 H (Rp g) Q (k a b) → r x y H Q
def K1 (g : G) (r : V → Hp → VK → Prop) (k : D → Res D) : Prop := ∀ (W : WX) (σ : St) (δ : Sm) (Hc H0c H0 H : Hp) (x : V) (a : D) (Q : VK), Stt g Hc H0c H0 H σ δ → Rp g H0 x a → Post g W σ H0 H (Rp g) Q (k a) → r x H Q
def KN (g : G) (r : List V → Hp → VK → Prop) (k : List D → Res D) : Prop := ∀ (W : WX) (σ : St) (δ : Sm) (Hc H0c H0 H : Hp) (xs : List V) (as : List D) (Q : VK), Stt g Hc H0c H0 H σ δ → RpA g H0 xs as → Post g W σ H0 H (Rp g) Q (k as) → r xs H Q
section
variable {g : G} {W : WX} {fa fb : Sm → Res D} {σ : St} {H : Hp} {Q : VK}
theorem two {r : R2} {k : D → D → Res D} (hk : K2 g r k) (h : tD g W (e2 k fa fb) σ H Q) : tOp r (tD g W fa) (tD g W fb) σ H Q := by
  obtain ⟨Hc, H0c, H0, δ, S, p⟩ := h
  refine Post.bind S p fun x a A1 B1 w1 S1 r1 p1 => ?_
  refine Post.bind S1 p1 fun y b A2 B2 w2 S2 r2 p2 => ?_
  exact hk W σ δ Hc H0c A2 B2 x y a b Q S2 (r1.mono w2.up0) r2 p2
theorem one {r : V → Hp → VK → Prop} {k : D → Res D} (hk : K1 g r k) (h : tD g W (e1 k fa) σ H Q) : tUn r (tD g W fa) σ H Q := by
  obtain ⟨Hc, H0c, H0, δ, S, p⟩ := h
  exact Post.bind S p fun x a A1 B1 w1 S1 r1 p1 => hk W σ δ Hc H0c A1 B1 x a Q S1 r1 p1
theorem many {r : List V → Hp → VK → Prop} {k : List D → Res D} {fl : Sm → Res (List D)} (hk : KN g r k) (h : tD g W (eA k fl) σ H Q) : tCB r (tDA g W fl) σ H Q := by
  obtain ⟨Hc, H0c, H0, δ, S, p⟩ := h
  exact Post.bind S p fun x a A1 B1 w1 S1 r1 p1 => hk W σ δ Hc H0c A1 B1 x a Q S1 r1 p1
end

section
variable {X : Cx} {ca : Str → Addr} {W : WX} {a b c : Expr} {fa fb fc : Sm → Res D} {pos : Pos}
theorem pd_var (i : Nat) {x : Str} (hN : X.N[i]? = some x := by rfl) (hv : Vis X.env.scope x := by first | exact Or.inl rfl | exact Or.inr (Or.inl rfl) | exact Or.inr (Or.inr rfl)) (hd : (x == ("__debug__" : Str)) = false := by decide)
    (hcd : (x == ("__classdict__" : Str)) = false := by decide) : PD X ca W (.Name x pos) (eVar i) := by
  refine peI (pe_var (i := i) hN hv hd hcd) fun σ H Q h => ?_
  obtain ⟨Hc, H0c, H0, δ, S, p⟩ := h
  obtain ⟨as, h1, _⟩ := S.own
  unfold eVar at p
  split at p
  · rename_i d e
    obtain ⟨v, e1, r⟩ := h1.get e
    exact ⟨v, e1, Post.now S p r⟩
  · exact p.elim
theorem pd_c {v : V} {d : D} {e : Expr} (h : PE X e (tC v)) (r : ∀ H, Rp ⟨X.K, ca, X.w⟩ H v d) : PD X ca W e (eC d) := by
  refine peI h fun σ H Q h => ?_
  obtain ⟨Hc, H0c, H0, δ, S, p⟩ := h
  exact Post.now S p (r _)
theorem pd_int {i : Int} {j pos} : PD X ca W (.Constant (.int i) j pos) (eC (.int i)) := pd_c pe_int fun _ => .int i
theorem pd_bl {b : Bool} {j pos} : PD X ca W (.Constant (.bool b) j pos) (eC (.bl b)) := pd_c pe_bl fun _ => .bl b
theorem pd_non {j pos} : PD X ca W (.Constant .none j pos) (eC .non) := pd_c pe_non fun _ => .non
theorem pd_str {x j pos} : PD X ca W (.Constant (.str x) j pos) (eC (.str x)) := pd_c pe_str fun _ => .str x
theorem pd_glob {x : Str} {v : V} {u : Value} {d : D} (hm : X.mg x = some u) (rv : RelV v u) (r : ∀ H, Rp ⟨X.K, ca, X.w⟩ H v d) (hg : Gl X x := by rfl) (hd : (x == ("__debug__" : Str)) = false := by decide) : PD X ca W (.Name x pos) (eC d) := pd_c (pe_glob hg hm rv hd) r
theorem pd_op {op : Operator} {r : R2} {k : D → D → Res D} (ho : OpR X (binaryOp op) r) (hk : K2 ⟨X.K, ca, X.w⟩ r k) (ha : PD X ca W a fa) (hb : PD X ca W b fb) : PD X ca W (.BinOp a op b pos) (e2 k fa fb) := peI (pe_op ho ha hb) fun σ H Q h => two hk h
theorem pd_cmp {op : CmpOp} {r : R2} {k : D → D → Res D} (ho : OpR X (compareOp op) r) (hk : K2 ⟨X.K, ca, X.w⟩ r k) (ha : PD X ca W a fa) (hb : PD X ca W b fb) (hm : behindInMarks op b = false := by first | exact nomark _ | rfl) : PD X ca W (.Compare a [op] [b] pos) (e2 k fa fb) :=
  peI (pe_cmpR ho ha hb hm) fun σ H Q h => two hk h
theorem toB {g : G} {σ : St} {H : Hp} {Q : Bool → Hp → Prop} (h : tDT g W (tOf fa) σ H Q) : tB (tD g W fa) σ H Q := by
  obtain ⟨Hc, H0c, H0, δ, S, p⟩ := h
  refine Post.bind S p fun x a A1 B1 w1 S1 r1 p1 => ?_
  cases r1 with
  | bl b => exact ⟨b, rfl, Post.now S1 p1 rfl⟩
  | _ => exact p1.elim
theorem pdt_cmp {op : CmpOp} {r : R2} {k : D → D → Res D} (ho : OpR X (compareOp op) r) (hk : K2 ⟨X.K, ca, X.w⟩ r k) (ha : PD X ca W a fa) (hb : PD X ca W b fb) (hm : behindInMarks op b = false := by first | exact nomark _ | rfl) : PDT X ca W (.Compare a [op] [b] pos) (tOf (e2 k fa fb)) := by
  refine ptI (pt_cmpR ho ha hb hm) fun σ H Q h => ?_
  obtain ⟨Hc, H0c, H0, δ, S, p⟩ := h
  have q : tB (tD ⟨X.K, ca, X.w⟩ W (e2 k fa fb)) σ H Q := toB ⟨Hc, H0c, H0, δ, S, p⟩
  exact two hk q
theorem pdt_val (ha : PD X ca W a fa) (he : ∀ whole, isTrue a X.env whole = (do let v ← whole; standAt a.pos; holding [v] (truthy v)) := by intro _; rfl) : PDT X ca W a (tOf fa) := ptI (pt_val ha he) fun σ H Q h => toB h
variable {ta tb : Sm → Res Bool} {rest : List Expr}
theorem pdw_or1 (ha : PDT X ca W a ta) : PDW X ca W (.BoolOp .Or [a] pos) ta := pw_or1 ha
theorem pdw_or (ha : PDT X ca W a ta) (hb : PDW X ca W (.BoolOp .Or (b :: rest) pos) tb) : PDW X ca W (.BoolOp .Or (a :: b :: rest) pos) (tOr2 ta tb) := by
  refine pwI (pw_or ha hb) fun σ H Q h => ?_
  obtain ⟨Hc, H0c, H0, δ, S, p⟩ := h
  refine Post.bind S p fun x a A1 B1 w1 S1 r1 p1 => ?_
  cases r1
  cases x with
  | false => exact ⟨Hc, H0c, A1, δ, S1, p1⟩
  | true => exact Post.now S1 p1 rfl
theorem pdt_w (h : PDW X ca W a ta) : PDT X ca W a ta := PW.pt h
theorem pdt_not (ha : PDT X ca W a ta) : PDT X ca W (.UnaryOp .Not a pos) (tNot1 ta) := by
  refine ptI (pt_not ha) fun σ H Q h => ?_
  obtain ⟨Hc, H0c, H0, δ, S, p⟩ := h
  refine Post.bind S p fun x a A1 B1 w1 S1 r1 p1 => ?_
  cases r1
  exact Post.now S1 p1 rfl
theorem pd_one {op} (h : PD X ca W a fa) : PD X ca W (.BoolOp op [a] pos) fa := pe_one h
theorem pd_and (ha : PD X ca W a fa) (hb : PD X ca W (.BoolOp .And (b :: rest) pos) fb) : PD X ca W (.BoolOp .And (a :: b :: rest) pos) (eAnd fa fb) := by
  refine peI (pe_and ha hb) fun σ H Q h => ?_
  obtain ⟨Hc, H0c, H0, δ, S, p⟩ := h
  refine Post.bind S p fun x a A1 B1 w1 S1 r1 p1 => ?_
  cases r1 with
  | bl b =>
    refine ⟨b, rfl, ?_⟩
    cases b with
    | true => exact ⟨Hc, H0c, A1, δ, S1, p1⟩
    | false => exact Post.now S1 p1 (.bl false)
  | _ => exact p1.elim
variable {es : List Expr} {fl : Sm → Res (List D)}
theorem pda_nil : PDA X ca W [] aNil := paI pa_nil fun σ H Q ⟨Hc, H0c, H0, δ, S, p⟩ => Post.now S p .nil
theorem pda_cons (ha : PD X ca W a fa) (hr : PDA X ca W es fl) (hs : starEach (a :: es) X.env = (false, eval a X.env) :: starEach es X.env := by rfl) : PDA X ca W (a :: es) (aCons fa fl) := by
  refine paI (pa_cons ha hr hs) fun σ H Q h => ?_
  obtain ⟨Hc, H0c, H0, δ, S, p⟩ := h
  refine Post.bind S p fun x a A1 B1 w1 S1 r1 p1 => ?_
  refine Post.bind S1 p1 fun y b A2 B2 w2 S2 r2 p2 => ?_
  exact Post.now S2 p2 (.cons (r1.mono w2.up0) r2)
variable {kws : List Keyword} {nm : Option Str} {kpos : Pos}
theorem pdk_nil : PDK X ca W [] aNil := pkI pk_nil fun σ H Q ⟨Hc, H0c, H0, δ, S, p⟩ => Post.now S p .nil
theorem pdk_cons (ha : PD X ca W a fa) (hr : PDK X ca W kws fl) : PDK X ca W (⟨nm, a, kpos⟩ :: kws) (aCons fa fl) := by
  refine pkI (pk_cons ha hr) fun σ H Q h => ?_
  obtain ⟨Hc, H0c, H0, δ, S, p⟩ := h
  refine Post.bind S p fun x a A1 B1 w1 S1 r1 p1 => ?_
  refine Post.bind S1 p1 fun y b A2 B2 w2 S2 r2 p2 => ?_
  exact Post.now S2 p2 (.cons (r1.mono w2.up0) r2)
theorem szl {n : Nat} (h : n ≤ 16777216) : n ≤ sizeLine := by rw [sizeLine_eq]; exact h
theorem pd_tup {x1} (h : PDA X ca W es fl) : PD X ca W (.Tuple es x1 pos) (eA kTup fl) := by
  refine peI (pe_tup h) fun σ H Q h => ?_
  obtain ⟨Hc, H0c, H0, δ, S, p⟩ := h
  refine Post.bind S p fun xs ds A1 B1 w1 S1 r1 p1 => ?_
  unfold kTup at p1
  split at p1
  · rename_i hl
    refine ⟨szl (by rw [r1.length]; exact hl), fun q hq => Post.new S1 p1 hq (.tup (SqT.of upd_same) (r1.mono (Grow.new S1.s0 hq).up0))⟩
  · exact p1.elim
theorem pd_lst (h : PDA X ca W es fl) : PD X ca W (.List es pos) (eA kLst fl) := by
  refine peI (pe_lst h) fun σ H Q h => ?_
  obtain ⟨Hc, H0c, H0, δ, S, p⟩ := h
  refine Post.bind S p fun xs ds A1 B1 w1 S1 r1 p1 => ?_
  unfold kLst at p1
  split at p1
  · rename_i hl
    refine ⟨szl (by rw [r1.length]; exact hl), fun q hq => Post.new S1 p1 hq (.lst (.inl upd_same) (r1.mono (Grow.new S1.s0 hq).up0))⟩
  · exact p1.elim
theorem pd_ix {r : R2} {k : D → D → Res D} (ho : IxR X r) (hk : K2 ⟨X.K, ca, X.w⟩ r k) (ha : PD X ca W a fa) (hb : PD X ca W b fb) (hs : PlainIx b := by exact fun _ _ => rfl) : PD X ca W (.Subscript a b pos) (e2 k fa fb) := peI (pe_ix ho ha hb hs) fun σ H Q h => two hk h
end
end Pd

set_option Elab.async false
set_option linter.all false
set_option maxRecDepth 100000
set_option maxHeartbeats 4000000
namespace Pd
open PySem L2

def kI (C : Int → Int → Bool) (f : Int → Int → D) : D → D → Res D
  | .int i, .int j => if C i j = true then .ok (f i j) else .bad
  | _, _ => .bad
theorem k2_I {g : G} {C : Int → Int → Bool} {P : Int → Int → Prop} {f : Int → Int → D} {fv : Int → Int → V} (hC : ∀ i j, C i j = true → P i j) (hf : ∀ H i j, Rp g H (fv i j) (f i j)) : K2 g (rI P fv) (kI C f) := by
  intro W σ δ Hc H0c H0 H x y a b Q S rx ry p
  cases rx with
  | int i =>
    cases ry with
    | int j =>
      have p' : Post g W σ H0 H (Rp g) Q (if C i j = true then .ok (f i j) else .bad) := p
      by_cases h : C i j = true
      · rw [if_pos h] at p'
        exact ⟨i, j, rfl, rfl, hC i j h, Post.now S p' (hf _ i j)⟩
      · rw [if_neg h] at p'
        exact p'.elim
    | _ => exact p.elim
  | _ => exact p.elim
theorem k2_I0 {g : G} {f : Int → Int → D} {fv : Int → Int → V} (hf : ∀ H i j, Rp g H (fv i j) (f i j)) : K2 g (rI0 fv) (kI (fun _ _ => true) f) := by
  intro W σ δ Hc H0c H0 H x y a b Q S rx ry p
  cases rx with
  | int i =>
    cases ry with
    | int j => exact ⟨i, j, rfl, rfl, Post.now S p (hf _ i j)⟩
    | _ => exact p.elim
  | _ => exact p.elim
def mulOk (i j : Int) : Bool := decide (i.natAbs.log2 + j.natAbs.log2 < 1000000)
def divOk (_ j : Int) : Bool := decide (0 < j ∧ j.natAbs.log2 < 9000)
def modOk (_ j : Int) : Bool := decide (0 < j)
def powOk (i j : Int) : Bool := decide (0 ≤ j ∧ j ≤ 1000000 ∧ i.natAbs < 2 ^ 64)
theorem mulOk_of {i j : Int} (h : mulOk i j = true) : CMulW i j := of_decide_eq_true (p := i.natAbs.log2 + j.natAbs.log2 < 1000000) h
theorem divOk_of {i j : Int} (h : divOk i j = true) : CDivW i j := of_decide_eq_true (p := 0 < j ∧ j.natAbs.log2 < 9000) h
theorem powOk_of {i j : Int} (h : powOk i j = true) : CPow i j := of_decide_eq_true (p := 0 ≤ j ∧ j ≤ 1000000 ∧ i.natAbs < 2 ^ 64) h
def kAdd : D → D → Res D := kI (fun _ _ => true) fun i j => .int (i + j)
def kSub : D → D → Res D := kI (fun _ _ => true) fun i j => .int (i - j)
def kMul : D → D → Res D := kI mulOk fun i j => .int (i * j)
def kDiv : D → D → Res D := kI divOk fun i j => .int (i / j)
def kMod : D → D → Res D := kI modOk fun i j => .int (i % j)
def kPow : D → D → Res D := kI powOk fun i j => .int (i ^ j.toNat)
def kLt : D → D → Res D := kI (fun _ _ => true) fun i j => .bl (decide (i < j))
def kLe : D → D → Res D := kI (fun _ _ => true) fun i j => .bl (decide (i ≤ j))
def kGt : D → D → Res D := kI (fun _ _ => true) fun i j => .bl (decide (j < i))
def kGe : D → D → Res D := kI (fun _ _ => true) fun i j => .bl (decide (j ≤ i))
def kNeg : D → Res D
  | .int i => .ok (.int (-i))
  | _ => .bad
section
variable {X : Cx} {ca : Str → Addr} {W : WX} {a b c : Expr} {fa fb fc : Sm → Res D} {pos : Pos}
theorem pd_add (ha : PD X ca W a fa) (hb : PD X ca W b fb) : PD X ca W (.BinOp a .Add b pos) (e2 kAdd fa fb) := pd_op op_add (k2_I0 fun _ _ _ => .int _) ha hb
theorem pd_sub (ha : PD X ca W a fa) (hb : PD X ca W b fb) : PD X ca W (.BinOp a .Sub b pos) (e2 kSub fa fb) := pd_op op_sub (k2_I0 fun _ _ _ => .int _) ha hb
theorem pd_mul (ha : PD X ca W a fa) (hb : PD X ca W b fb) : PD X ca W (.BinOp a .Mult b pos) (e2 kMul fa fb) := pd_op op_mulW (k2_I (fun _ _ h => mulOk_of h) fun _ _ _ => .int _) ha hb
theorem pd_div (ha : PD X ca W a fa) (hb : PD X ca W b fb) : PD X ca W (.BinOp a .FloorDiv b pos) (e2 kDiv fa fb) := pd_op op_fdivW (k2_I (fun _ _ h => divOk_of h) fun _ _ _ => .int _) ha hb
theorem pd_mod (ha : PD X ca W a fa) (hb : PD X ca W b fb) : PD X ca W (.BinOp a .Mod b pos) (e2 kMod fa fb) := pd_op op_mod (k2_I (fun _ _ h => of_decide_eq_true h) fun _ _ _ => .int _) ha hb
theorem pd_pow (ha : PD X ca W a fa) (hb : PD X ca W b fb) : PD X ca W (.BinOp a .Pow b pos) (e2 kPow fa fb) := pd_op op_pow (k2_I (fun _ _ h => powOk_of h) fun _ _ _ => .int _) ha hb
theorem pdt_lt (ha : PD X ca W a fa) (hb : PD X ca W b fb) : PDT X ca W (.Compare a [.Lt] [b] pos) (tOf (e2 kLt fa fb)) := pdt_cmp op_lt (k2_I0 fun _ _ _ => .bl _) ha hb
theorem pdt_le (ha : PD X ca W a fa) (hb : PD X ca W b fb) : PDT X ca W (.Compare a [.LtE] [b] pos) (tOf (e2 kLe fa fb)) := pdt_cmp op_le (k2_I0 fun _ _ _ => .bl _) ha hb
theorem pdt_gt (ha : PD X ca W a fa) (hb : PD X ca W b fb) : PDT X ca W (.Compare a [.Gt] [b] pos) (tOf (e2 kGt fa fb)) := pdt_cmp op_gt (k2_I0 fun _ _ _ => .bl _) ha hb
end

mutual
def toPy : D → PyData
  | .non => .none
  | .bl b => .bool b
  | .int i => .int i
  | .str x => .str x
  | .lst xs => .list (toPyA xs)
  | .tup xs => .tuple (toPyA xs)
  | .obj _ _ _ => .dict []
  | .scr _ => .dict []
  | .loc _ => .dict []
  | .dct _ _ => .dict []
  | .dtt _ _ => .dict []
  | .clo _ => .dict []
def toPyA : List D → List PyData
  | [] => []
  | d :: ds => toPy d :: toPyA ds
end
mutual
def plain : D → Bool
  | .non => true
  | .bl _ => true
  | .int _ => true
  | .str _ => true
  | .lst xs => plainA xs
  | .tup xs => plainA xs
  | .obj _ _ _ => false
  | .scr _ => false
  | .loc _ => false
  | .dct _ _ => false
  | .dtt _ _ => false
  | .clo _ => false
def plainA : List D → Bool
  | [] => true
  | d :: ds => plain d && plainA ds
end
mutual
theorem Rp.dp {g : G} {H0 H : Hp} (s : Sub H0 H) : ∀ (d : D) (v : V), plain d = true → Rp g H0 v d → Dp g.K H v (toPy d)
  | .non, _, _, h => by cases h; exact .non
  | .bl _, _, _, h => by cases h; exact .bl _
  | .int _, _, _, h => by cases h; exact .int _
  | .str _, _, _, h => by cases h; exact .str _
  | .lst ds, _, hp, h => by
    cases h with
    | lst q r => exact .lst (.inl (rdL_in s q)) (RpA.dp s ds _ hp r)
  | .tup ds, _, hp, h => by
    cases h with
    | tup q r => exact .tup (sqT_in s q) (RpA.dp s ds _ hp r)
  | .obj _ _ _, _, hp, _ => by cases hp
  | .scr _, _, hp, _ => by cases hp
  | .loc _, _, hp, _ => by cases hp
  | .dct _ _, _, hp, _ => by cases hp
  | .dtt _ _, _, hp, _ => by cases hp
  | .clo _, _, hp, _ => by cases hp
theorem RpA.dp {g : G} {H0 H : Hp} (s : Sub H0 H) : ∀ (ds : List D) (vs : List V), plainA ds = true → RpA g H0 vs ds → DpAll g.K H vs (toPyA ds)
  | [], _, _, h => by cases h; exact .nil
  | d :: ds, _, hp, h => by
    cases h with
    | cons q r =>
      have hp2 := Bool.and_eq_true_iff.mp (show (plain d && plainA ds) = true from hp)
      exact .cons (Rp.dp s d _ hp2.1 q) (RpA.dp s ds _ hp2.2 r)
end
def shp (d : D) : Bool := plain d && SeqAt.shaped (toPy d)
def deq (a b : D) : Bool := PyData.eqv (toPy a) (toPy b)
def bothS : D → D → Option Bool
  | .str x, .str y => some (x == y)
  | _, _ => none
def kEq : D → D → Res D := fun a b => match bothS a b with
  | some c => .ok (.bl c)
  | none => if (shp a && shp b) = true then .ok (.bl (deq a b)) else .bad
def kNe : D → D → Res D := fun a b => match bothS a b with
  | some c => .ok (.bl (!c))
  | none => if (shp a && shp b) = true then .ok (.bl (!deq a b)) else .bad
theorem bothS_some {a b : D} {c : Bool} (h : bothS a b = some c) : ∃ x y, a = .str x ∧ b = .str y ∧ c = (x == y) := by
  cases a with
  | str x =>
    cases b with
    | str y => exact ⟨x, y, rfl, rfl, (Option.some.inj h).symm⟩
    | _ => cases h
  | _ => cases h
def kIn : D → D → Res D := fun a b => match b with
  | .lst ds => if (shp a && shp (.lst ds)) = true then .ok (.bl (ds.any fun z => deq z a)) else .bad
  | _ => .bad
def kNotIn : D → D → Res D := fun a b => match b with
  | .lst ds => if (shp a && shp (.lst ds)) = true then .ok (.bl (!ds.any fun z => deq z a)) else .bad
  | _ => .bad
theorem any_py (a : D) : ∀ ds : List D, ((toPyA ds).any fun z => PyData.eqv z (toPy a)) = ds.any fun z => deq z a
  | [] => rfl
  | d :: ds => by
    show ((toPy d :: toPyA ds).any fun z => PyData.eqv z (toPy a)) = (d :: ds).any fun z => deq z a
    rw [List.any_cons, List.any_cons, any_py a ds]
    rfl
def isNon : D → Bool
  | .non => true
  | _ => false
def kIsN : D → D → Res D := fun a b => if isNon b = true then .ok (.bl (isNon a)) else .bad
def kNotN : D → D → Res D := fun a b => if isNon b = true then .ok (.bl (!isNon a)) else .bad
def atD (xs : List D) (i : Int) : Res D := match atI xs i with
  | some d => .ok d
  | none => .bad
def atS (x : Str) (i : Int) : Res D := if x.length ≤ 16777216 then (match atI x.cps.toList i with
    | some c => .ok (.str ⟨#[c]⟩)
    | none => .bad) else .bad
def kIx : D → D → Res D
  | .lst ds, .int i => atD ds i
  | .tup ds, .int i => atD ds i
  | .str x, .int i => atS x i
  | _, _ => .bad
theorem atI_rp {g : G} {H : Hp} {vs : List V} {ds : List D} {i : Int} {d : D} (r : RpA g H vs ds) (h : atI ds i = some d) : ∃ v, atI vs i = some v ∧ Rp g H v d := by
  unfold atI at h ⊢
  rw [r.length]
  cases e : ixN ds.length i with
  | none => rw [e] at h; cases h
  | some j =>
    rw [e] at h
    exact r.get h
section
variable {X : Cx} {ca : Str → Addr}
theorem k2_eq : K2 ⟨X.K, ca, X.w⟩ (fun x y H Q => rEqD X.K x y H Q ∨ rEq x y H Q) kEq := by
  intro W σ δ Hc H0c H0 H x y a b Q S rx ry p
  unfold kEq at p
  cases e : bothS a b with
  | some c =>
    rw [e] at p
    obtain ⟨u, v, rfl, rfl, rfl⟩ := bothS_some e
    cases rx
    cases ry
    refine .inr ⟨rfl, ?_⟩
    rw [dec_str]
    exact Post.now S p (.bl _)
  | none =>
  rw [e] at p
  refine .inl ?_
  dsimp only at p
  split at p
  · rename_i h
    obtain ⟨h1, h2⟩ := Bool.and_eq_true_iff.mp h
    obtain ⟨a1, a2⟩ := Bool.and_eq_true_iff.mp h1
    obtain ⟨b1, b2⟩ := Bool.and_eq_true_iff.mp h2
    exact ⟨toPy a, toPy b, Rp.dp S.s0 a x a1 rx, Rp.dp S.s0 b y b1 ry, a2, b2, Post.now S p (.bl _)⟩
  · exact p.elim
theorem k2_ne : K2 ⟨X.K, ca, X.w⟩ (fun x y H Q => rNeD X.K x y H Q ∨ rNe x y H Q) kNe := by
  intro W σ δ Hc H0c H0 H x y a b Q S rx ry p
  unfold kNe at p
  cases e : bothS a b with
  | some c =>
    rw [e] at p
    obtain ⟨u, v, rfl, rfl, rfl⟩ := bothS_some e
    cases rx
    cases ry
    refine .inr ⟨rfl, ?_⟩
    rw [dec_str]
    exact Post.now S p (.bl _)
  | none =>
  rw [e] at p
  refine .inl ?_
  dsimp only at p
  split at p
  · rename_i h
    obtain ⟨h1, h2⟩ := Bool.and_eq_true_iff.mp h
    obtain ⟨a1, a2⟩ := Bool.and_eq_true_iff.mp h1
    obtain ⟨b1, b2⟩ := Bool.and_eq_true_iff.mp h2
    exact ⟨toPy a, toPy b, Rp.dp S.s0 a x a1 rx, Rp.dp S.s0 b y b1 ry, a2, b2, Post.now S p (.bl _)⟩
  · exact p.elim
theorem k2_notIn : K2 ⟨X.K, ca, X.w⟩ (rNotInD X.K) kNotIn := by
  intro W σ δ Hc H0c H0 H x y a b Q S rx ry p
  cases b with
  | lst ds =>
    have p' : Post ⟨X.K, ca, X.w⟩ W σ H0 H (Rp ⟨X.K, ca, X.w⟩) Q (if (shp a && shp (.lst ds)) = true then .ok (.bl (!ds.any fun z => deq z a)) else .bad) := p
    by_cases h : (shp a && shp (.lst ds)) = true
    · rw [if_pos h] at p'
      obtain ⟨h1, h2⟩ := Bool.and_eq_true_iff.mp h
      obtain ⟨a1, a2⟩ := Bool.and_eq_true_iff.mp h1
      obtain ⟨b1, b2⟩ := Bool.and_eq_true_iff.mp h2
      refine ⟨toPy a, toPyA ds, Rp.dp S.s0 a x a1 rx, Rp.dp S.s0 (.lst ds) y b1 ry, a2, b2, ?_⟩
      rw [any_py]
      exact Post.now S p' (.bl _)
    · rw [if_neg h] at p'
      exact p'.elim
  | _ => exact p.elim
theorem isNon_rp {g : G} {H : Hp} {x : V} {a : D} (r : Rp g H x a) : decide (x = .non) = isNon a := by
  cases r <;> first | rfl | exact decide_eq_false (fun z => nomatch z)
theorem non_of {g : G} {H : Hp} {x : V} {a : D} (r : Rp g H x a) (h : isNon a = true) : x = .non := by
  cases r <;> first | rfl | cases h
theorem k2_isN : K2 ⟨X.K, ca, X.w⟩ (fun x y H Q => y = .non ∧ Q (.bl (decide (x = .non))) H) kIsN := by
  intro W σ δ Hc H0c H0 H x y a b Q S rx ry p
  unfold kIsN at p
  split at p
  · rename_i h
    refine ⟨non_of ry h, ?_⟩
    rw [isNon_rp rx]
    exact Post.now S p (.bl _)
  · exact p.elim
theorem k2_notN : K2 ⟨X.K, ca, X.w⟩ (fun x y H Q => y = .non ∧ Q (.bl (!decide (x = .non))) H) kNotN := by
  intro W σ δ Hc H0c H0 H x y a b Q S rx ry p
  unfold kNotN at p
  split at p
  · rename_i h
    refine ⟨non_of ry h, ?_⟩
    rw [isNon_rp rx]
    exact Post.now S p (.bl _)
  · exact p.elim
theorem k2_ix : K2 ⟨X.K, ca, X.w⟩ (rIx X.K) kIx := by
  intro W σ δ Hc H0c H0 H x y a b Q S rx ry p
  cases ry with
  | int i =>
    cases rx with
    | @lst l vs ds q r =>
      have p' : Post ⟨X.K, ca, X.w⟩ W σ H0 H (Rp ⟨X.K, ca, X.w⟩) Q (atD ds i) := p
      unfold atD at p'
      split at p'
      · rename_i d e
        obtain ⟨v, e1, r1⟩ := atI_rp r e
        exact .inl ⟨l, vs, i, v, rfl, rfl, .inl (rdL_in S.s0 q), e1, Post.now S p' r1⟩
      · exact p'.elim
    | @tup l vs ds q r =>
      have p' : Post ⟨X.K, ca, X.w⟩ W σ H0 H (Rp ⟨X.K, ca, X.w⟩) Q (atD ds i) := p
      unfold atD at p'
      split at p'
      · rename_i d e
        obtain ⟨v, e1, r1⟩ := atI_rp r e
        exact .inr (.inl ⟨l, vs, i, v, rfl, rfl, sqT_in S.s0 q, e1, Post.now S p' r1⟩)
      · exact p'.elim
    | str z =>
      have p' : Post ⟨X.K, ca, X.w⟩ W σ H0 H (Rp ⟨X.K, ca, X.w⟩) Q (atS z i) := p
      unfold atS at p'
      split at p'
      · rename_i h
        split at p'
        · rename_i c e
          exact .inr (.inr ⟨z, i, c, rfl, rfl, szl h, e, Post.now S p' (.str _)⟩)
        · exact p'.elim
      · exact p'.elim
    | _ => exact p.elim
  | _ => cases rx <;> exact p.elim
variable {W : WX} {a b c : Expr} {fa fb fc : Sm → Res D} {pos : Pos}
theorem pd_eq (hu : X.A.units + 64 < cLine) (ha : PD X ca W a fa) (hb : PD X ca W b fb) : PD X ca W (.Compare a [.Eq] [b] pos) (e2 kEq fa fb) := pd_cmp ((op_eqD hu).or op_eq) k2_eq ha hb
theorem pdt_eq (hu : X.A.units + 64 < cLine) (ha : PD X ca W a fa) (hb : PD X ca W b fb) : PDT X ca W (.Compare a [.Eq] [b] pos) (tOf (e2 kEq fa fb)) := pdt_cmp ((op_eqD hu).or op_eq) k2_eq ha hb
theorem pdt_ne (hu : X.A.units + 64 < cLine) (ha : PD X ca W a fa) (hb : PD X ca W b fb) : PDT X ca W (.Compare a [.NotEq] [b] pos) (tOf (e2 kNe fa fb)) := pdt_cmp ((op_neD hu).or op_ne) k2_ne ha hb
theorem pd_isN (ha : PD X ca W a fa) (hb : PD X ca W b fb) : PD X ca W (.Compare a [.Is] [b] pos) (e2 kIsN fa fb) := pd_cmp op_isN k2_isN ha hb
theorem pdt_isN (ha : PD X ca W a fa) (hb : PD X ca W b fb) : PDT X ca W (.Compare a [.Is] [b] pos) (tOf (e2 kIsN fa fb)) := pdt_cmp op_isN k2_isN ha hb
theorem pdt_notN (ha : PD X ca W a fa) (hb : PD X ca W b fb) : PDT X ca W (.Compare a [.IsNot] [b] pos) (tOf (e2 kNotN fa fb)) := pdt_cmp op_notN k2_notN ha hb
theorem pd_sub1 (ha : PD X ca W a fa) (hb : PD X ca W b fb) (hs : PlainIx b := by exact fun _ _ => rfl) : PD X ca W (.Subscript a b pos) (e2 kIx fa fb) := pd_ix ix_seq k2_ix ha hb hs
end

inductive Out where
  | nx (δ : Sm)
  | rt (d : D)
  | bk (δ : Sm)
  | ct (δ : Sm)
  | xc (c : Str) (fs : List (Str × D)) (δ : Sm)
  | bad
def PostS (g : G) (W : WX) (Hc H0c : Hp) (E : Ends) : Out → Prop
  | .nx δ => ∀ σ H0 H, Stt g Hc H0c H0 H σ δ → E.nx σ H
  | .rt d => ∀ v H0 H, Grow H0c Hc H0 H → Rp g H0 v d → E.rt v H
  | .bk δ => ∀ σ H0 H, Stt g Hc H0c H0 H σ δ → E.bk σ H
  | .ct δ => ∀ σ H0 H, Stt g Hc H0c H0 H σ δ → E.ct σ H
  | .xc c fs δ => ∀ ad fvs σ H0 H, Stt g Hc H0c H0 H σ δ → H ad = some (.xd fvs) → FR g H0 fvs fs → W (.ref (g.ca c)) (some ad) σ H
  | .bad => False
def tS (g : G) (W : WX) (m : Sm → Out) : TS := fun E σ H => ∃ Hc H0c H0 δ, Stt g Hc H0c H0 H σ δ ∧ PostS g W Hc H0c E (m δ)
abbrev PDS (X : Cx) (ca : Str → Addr) (W : WX) (s : Stmt) (m : Sm → Out) : Prop := PS X s (tS ⟨X.K, ca, X.w⟩ W m)
abbrev PDSs (X : Cx) (ca : Str → Addr) (W : WX) (s : List Stmt) (m : Sm → Out) : Prop := PSs X s (tS ⟨X.K, ca, X.w⟩ W m)
def Res.out {α : Type} (r : Res α) (δ : Sm) (k : α → Out) : Out :=
  match r with
  | .ok a => k a
  | .xc c fs => .xc c fs δ
  | .bad => .bad
def mNext : Sm → Out := fun δ => .nx δ
def mSeq (m n : Sm → Out) : Sm → Out := fun δ => match m δ with
  | .nx δ' => n δ'
  | .rt d => .rt d
  | .bk δ' => .bk δ'
  | .ct δ' => .ct δ'
  | .xc c fs δ' => .xc c fs δ'
  | .bad => .bad
def mSet (i : Nat) (f : Sm → Res D) : Sm → Out := fun δ => (f δ).out δ fun d => .nx (δ.set i (.sh d))
def mRet (f : Sm → Res D) : Sm → Out := fun δ => (f δ).out δ .rt
def mDrop (f : Sm → Res D) : Sm → Out := fun δ => (f δ).out δ fun _ => .nx δ
def mIf (t : Sm → Res Bool) (m n : Sm → Out) : Sm → Out := fun δ => (t δ).out δ fun c => if c = true then m δ else n δ
def mAug (i : Nat) (k : D → D → Res D) (f : Sm → Res D) : Sm → Out := fun δ => (eVar i δ).out δ fun x => (f δ).out δ fun y => (k x y).out δ fun z => .nx (δ.set i (.sh z))
section
variable {α β : Type} {g : G} {W : WX} {σ : St} {δ : Sm} {Hc H0c H0 H H0' H' : Hp} {R : Hp → α → β → Prop} {E : Ends}
theorem Post.out {f : Sm → Res β} {k : β → Out} {P : α → Hp → Prop} (S : Stt g Hc H0c H0 H σ δ) (p : PostS g W Hc H0c E ((f δ).out δ k))
    (hk : ∀ x b H0' H', Grow H0 H H0' H' → Stt g Hc H0c H0' H' σ δ → R H0' x b → PostS g W Hc H0c E (k b) → P x H') : tG g W R f σ H P := by
  refine ⟨Hc, H0c, H0, δ, S, ?_⟩
  cases e : f δ with
  | ok b =>
    rw [e] at p
    exact fun x A B w q => hk x b A B w (S.grow w) q p
  | xc c fs =>
    rw [e] at p
    exact fun ad fvs A B w q1 q2 => p ad fvs σ A B (S.grow w) q1 q2
  | bad =>
    rw [e] at p
    exact p.elim
end
section
variable {X : Cx} {ca : Str → Addr} {W : WX} {st : Stmt} {rest : List Stmt} {m n : Sm → Out} {a b : Expr} {fa fb : Sm → Res D} {ta : Sm → Res Bool} {pos : Pos}
theorem pds_nil : PDSs X ca W [] mNext := pssI pss_nil fun E σ H ⟨Hc, H0c, H0, δ, S, p⟩ => p σ H0 H S
theorem pds_cons (h1 : PDS X ca W st m) (h2 : PDSs X ca W rest n) : PDSs X ca W (st :: rest) (mSeq m n) := by
  refine pssI (pss_cons h1 h2) fun E σ H h => ?_
  obtain ⟨Hc, H0c, H0, δ, S, p⟩ := h
  refine ⟨Hc, H0c, H0, δ, S, ?_⟩
  unfold mSeq at p
  cases e : m δ with
  | nx δ' =>
    rw [e] at p
    exact fun σ' A B S' => ⟨Hc, H0c, A, δ', S', p⟩
  | rt d => rw [e] at p; exact p
  | bk δ' => rw [e] at p; exact p
  | ct δ' => rw [e] at p; exact p
  | xc c fs δ' => rw [e] at p; exact p
  | bad => rw [e] at p; exact p
theorem pds_one (h1 : PDS X ca W st m) : PDSs X ca W [st] m := pss_one h1
def mBreak : Sm → Out := fun δ => .bk δ
def mCont : Sm → Out := fun δ => .ct δ
theorem pds_continue : PDS X ca W (.Continue pos) mCont := psI ps_continue fun E σ H ⟨Hc, H0c, H0, δ, S, p⟩ => p σ H0 H S
theorem pds_ret (ha : PD X ca W a fa) : PDS X ca W (.Return (some a) pos) (mRet fa) := psI (ps_ret ha) fun E σ H ⟨Hc, H0c, H0, δ, S, p⟩ =>
  Post.out S p fun x b A B w S1 r p1 => p1 x A B S1.grown r
theorem pds_expr (ha : PD X ca W a fa) (hs : swapsWith a none pos.line X.env = pure false := by rfl) : PDS X ca W (.Expr a pos) (mDrop fa) := psI (ps_expr ha hs) fun E σ H ⟨Hc, H0c, H0, δ, S, p⟩ =>
  Post.out S p fun x b A B w S1 r p1 => p1 σ A B S1
theorem pds_set (i : Nat) {x : Str} {pos' : Pos} (hN : X.N.Nodup) (ha : PD X ca W a fa) (hi : X.N[i]? = some x := by rfl) (hx : Loc X.env.scope x := by first | exact Or.inl rfl | exact Or.inr rfl) (hs : swapsWith a (some (.Name x pos')) pos.line X.env = pure false := by rfl)
    (hf : X.fn x = true ∨ X.env.scope.names.lookup x = some .local := by first | exact .inl rfl | exact .inr rfl) : PDS X ca W (.Assign [.Name x pos'] a pos) (mSet i fa) :=
  psI (ps_set hN hi hx ha hs hf) fun E σ H ⟨Hc, H0c, H0, δ, S, p⟩ => Post.out S p fun x b A B w S1 r p1 => p1 _ A B (S1.setSh r i)
theorem pds_if {ys ns : List Stmt} {c : Expr} (hc : PDT X ca W c ta) (hy : PDSs X ca W ys m) (hn : PDSs X ca W ns n) : PDS X ca W (.If c ys ns pos) (mIf ta m n) := by
  refine psI (ps_if hc hy hn) fun E σ H h => ?_
  obtain ⟨Hc, H0c, H0, δ, S, p⟩ := h
  refine Post.out S p fun x b A B w S1 r p1 => ?_
  cases r
  cases x with
  | true => exact ⟨Hc, H0c, A, δ, S1, p1⟩
  | false => exact ⟨Hc, H0c, A, δ, S1, p1⟩
theorem pds_aug (i : Nat) {x : Str} {op : Operator} {r : R2} {k : D → D → Res D} {pos' : Pos} (hN : X.N.Nodup) (ho : OpR X (inplaceOp op) r) (hk : K2 ⟨X.K, ca, X.w⟩ r k) (ha : PD X ca W a fa) (hi : X.N[i]? = some x := by rfl) (hx : Loc X.env.scope x := by first | exact Or.inl rfl | exact Or.inr rfl)
    (hf : X.fn x = true ∨ X.env.scope.names.lookup x = some .local := by first | exact .inl rfl | exact .inr rfl) : PDS X ca W (.AugAssign (.Name x pos') op a pos) (mAug i k fa) := by
  refine psI (ps_aug hN hi hx ha ho hf) fun E σ H h => ?_
  obtain ⟨Hc, H0c, H0, δ, S, p⟩ := h
  obtain ⟨as, h1, _⟩ := S.own
  unfold mAug at p
  cases e : δ[i]? with
  | none =>
    have z : eVar i δ = .bad := by unfold eVar; rw [e]
    rw [z] at p
    exact p.elim
  | some o =>
    cases o with
    | no =>
      have z : eVar i δ = .bad := by unfold eVar; rw [e]
      rw [z] at p
      exact p.elim
    | ol ds =>
      have z : eVar i δ = .bad := by unfold eVar; rw [e]
      rw [z] at p
      exact p.elim
    | ot ks vs =>
      have z : eVar i δ = .bad := by unfold eVar; rw [e]
      rw [z] at p
      exact p.elim
    | sh d =>
      have z : eVar i δ = .ok d := by unfold eVar; rw [e]
      rw [z] at p
      obtain ⟨v, ev, rv⟩ := h1.get e
      refine ⟨v, ev, ?_⟩
      refine Post.out S p fun y b A B w S1 ry p1 => ?_
      have p1' : PostS ⟨X.K, ca, X.w⟩ W Hc H0c E ((k d b).out δ fun z => .nx (δ.set i (.sh z))) := p1
      refine hk W σ δ Hc H0c A B v y d b _ S1 (rv.mono w.up0) ry ?_
      cases q : k d b with
      | ok zz =>
        rw [q] at p1'
        exact fun u A' B' w' ru => p1' _ A' B' ((S1.grow w').setSh ru i)
      | xc c fs =>
        rw [q] at p1'
        exact fun ad fvs A' B' w' q1 q2 => p1' ad fvs σ A' B' (S1.grow w') q1 q2
      | bad =>
        rw [q] at p1'
        exact p1'.elim
end
end Pd

set_option Elab.async false
set_option linter.all false
set_option maxRecDepth 100000
set_option maxHeartbeats 4000000
namespace Pd
open PySem L2
variable {vn : Bool}
def CXv : Bool → Program → World → CXT
  | true, P, w => L2N.CX P w
  | false, P, w => L2.CX P w
def TakesV : Bool → Cx → WX → Prop
  | true, X, W => L2N.Takes X W
  | false, X, W => L2.Takes X W
theorem flyN_z {B h : Heap} {l : List Env} {a : Addr} {cls : Value} {d : Option Addr} (x : PySem.HandSPX.FlyingZ B l a (L2N.Zn cls d) h) : PySem.HandSPX.FlyingZ B l a (L2.Zc cls d) h := L2H.flyingZ_imp (fun _ z => z.zc) x
theorem cxN_z {P : Program} {w : World} {outer : List Env} {H : Hp} {s : Shared} {E : XK} {u : Value} {s' : Shared} (h : L2N.CX P w outer H s E u s') : L2.CX P w outer H s E u s' := by
  obtain ⟨a, B, H', cls, d, e, fl, r⟩ := h
  exact ⟨a, B, H', cls, d, e, flyN_z fl, r⟩
theorem cxv_z {P : Program} {w : World} {outer : List Env} {H : Hp} {s : Shared} {E : XK} {u : Value} {s' : Shared} (h : CXv vn P w outer H s E u s') : L2.CX P w outer H s E u s' := by
  cases vn
  · exact h
  · exact cxN_z h
theorem fnok_z {P : Program} {w : World} {K : PySem.W.Frag} {mg : Str → Option Value} {base : Heap} {k : Nat} {f : Addr} {fd : FuncData} {ps : List Str} {sp : Sp} (F : FnOk P w K mg base (CXv vn P w) k f fd ps sp) : FnOk P w K mg base (CXv false P w) k f fd ps sp :=
  ⟨F.len, fun A outer s H args us vs Q E h1 h2 h3 h4 h5 => PySem.codeAny_mono (F.run A outer s H args us vs Q E h1 h2 h3 h4 h5) fun r s' hq => by
    cases r with
    | error e => exact cxv_z hq
    | ok fl => cases fl <;> exact hq⟩
theorem passAtV {X : Cx} {W : WX} (tk : TakesV vn X W) (σ : L2.St) : PassesAt (CXv vn X.prog X.w) X σ (WE W σ) := by
  cases vn
  · exact L2.passAt tk σ
  · exact L2N.passAt tk σ
theorem takesV_of {X : Cx} {E : XK} (hs : X.stack = X.env :: X.outer) (hf : X.env.frame = some X.env.locals) (hex : X.ex = []) {E1 : Value → Shared → Prop}
    (hx : X.xe = fun e s' => wpAny (model X.prog X.w) X.A (PySem.leaving X.env e) (fun _ s'' => CXv vn X.prog X.w X.outer X.H_0 X.s_0 E e s'') E1 s') : TakesV vn X (fun cls d _ H => E cls d H) := by
  cases vn
  · exact L2.takes_of hs hf hex hx
  · exact L2N.takes_of hs hf hex hx
def Zv : Bool → Value → Option Addr → Obj → Prop
  | true, cls, d => L2N.Zn cls d
  | false, cls, d => L2.Zc cls d
theorem Zv.zc {cls : Value} {d : Option Addr} {o : Obj} (h : Zv vn cls d o) : L2.Zc cls d o := by
  cases vn
  · exact h
  · exact L2N.Zn.zc h
theorem Zv.to {vb : Bool} (hv : vn = true → vb = true) {cls : Value} {d : Option Addr} {o : Obj} (h : Zv vb cls d o) : Zv vn cls d o := by
  cases vn
  · exact Zv.zc h
  · have e := hv rfl
    subst e
    exact h
def XEv (vn : Bool) (X : Cx) (W : WX) (u : Value) (s' : Shared) : Prop :=
  ∃ (a : Addr) (B : Heap) (sI : Shared) (pins : List (Addr × Obj)) (σ : L2.St) (H : Hp) (cls : Value) (d : Option Addr),
    u = .ref a ∧ Inv X pins σ H sI ∧ (∀ b o, sI.heap.get? b = some o → b ∉ frs X.stack → B.get? b = some o) ∧ sI.heap.UpToSlots s'.heap ∧
      Sky B X.stack a (Zv vn cls d) X.env.locals s'.heap ∧ H a = none ∧ s'.os = sI.os ∧ PyProof.Rows.AllBare s'.gens ∧ W cls d σ H
theorem TakesV.run {X : Cx} {W : WX} (tk : TakesV vn X W) {u : Value} {s' : Shared} (x : XEv vn X W u s') : X.xe u s' := by
  cases vn
  · exact tk u s' x
  · exact tk u s' x
theorem takesV_mk {X : Cx} {W : WX} (h : ∀ u s', XEv vn X W u s' → X.xe u s') : TakesV vn X W := by
  cases vn
  · exact h
  · exact h
theorem skyV_land {B : Heap} {s : Shared} {M : Model} {A : Around} {E1 : Value → Shared → Prop} {env : Env} {outer : List Env} {L a : Addr} {cls : Value} {d : Option Addr} {Q : Unit → Shared → Prop} (hfr : A.frames = some (env :: outer)) (hf : env.frame = some L)
    (x : Sky B (env :: outer) a (Zv vn cls d) L s.heap) (hQ : ∀ h', PySem.HandSPX.FlyingZ B (env :: outer) a (Zv vn cls d) h' → s.heap.UpToSlots h' → Q () { s with heap := h' }) :
    wpAny M A (PySem.noteFrame (.ref a) env) (fun _ s₂ => wpAny M A (PySem.setFlight (.ref a) none) Q E1 s₂) E1 s := by
  cases vn
  · exact L2.Sky.land L2.Zc.steady hfr hf x hQ
  · exact L2N.Sky.land L2N.Zn.steady hfr hf x hQ
theorem pmk_z {X : Cx} {e : Expr} {t : L2.St → Hp → XK → Prop} (h : L2N.PMk X e t) : L2.PMk X e t := fun pins s σ H Q I q => wpAny_mono (h pins s σ H Q I q) (fun u s' x => by
  obtain ⟨a, oe, vs, sI, H', cls, d, e, J, k, hne, ha, hz, r⟩ := x
  exact ⟨a, oe, vs, sI, H', cls, d, e, J, k, hne, ha, hz.zc, r⟩) fun _ _ x => x
theorem ps_raiseV {X : Cx} {W : WX} {e : Expr} {t : L2.St → Hp → XK → Prop} {pos : Pos} (hc : X.calm = true) (tk : TakesV vn X W) (he : L2N.PMk X e t) : PS X (.Raise (some e) none pos) (fun _ σ H => t σ H fun cls d H' => W cls d σ H') := by
  cases vn
  · exact L2.ps_raise hc tk (pmk_z he)
  · exact L2N.ps_raise hc tk he

section
variable {g : G} {Hc H0c H0 H : Hp} {σ : St} {δ : Sm} {as : List Addr}
theorem Stt.layOl {p : Addr} {vs : List V} {ds : List D} (S : Stt g Hc H0c H0 H σ δ) (hp : H p = none) (r : RpA g H0 vs ds) (i : Nat) : Stt g Hc H0c H0 (upd H p (.lst vs)) (σ.set i (some (.ref p))) (δ.set i (.ol ds)) := by
  obtain ⟨as, h1, h2, h3⟩ := S.own
  have hn : ∀ a ∈ as, a ≠ p := fun a ha z => h1.there a ha (by rw [z]; exact hp)
  have h1' : Sls g H0 (upd H p (.lst vs)) σ δ as := h1.up (Same.refl H0) fun a ha => upd_ne (hn a ha)
  obtain ⟨bs, q1, q2, q3⟩ := Sls.set (.ol upd_same r) h1' i h2 (by simp) fun a ha => by
    rw [List.mem_singleton.mp ha]
    exact fun z => hn p z rfl
  have w := Grow.lay (o := .lst vs) S.s0 hp
  refine ⟨⟨bs, q1, q2, fun a ha => ?_⟩, w.sub, S.sc.trans w.up, S.s0c, S.fr, S.nm⟩
  rcases q3 a ha with z | z
  · rw [List.mem_singleton.mp z]
    exact ⟨S.sc.free hp, S.s0.free hp⟩
  · exact h3 a z
theorem Sls.put (h : Sls g H0 H σ δ as) : ∀ {i : Nat} {ds : List D}, as.Nodup → δ[i]? = some (.ol ds) → ∃ a vs, σ[i]? = some (some (.ref a)) ∧ H a = some (.lst vs) ∧ RpA g H0 vs ds ∧ a ∈ as ∧
    ∀ vs' ds', RpA g H0 vs' ds' → Sls g H0 (upd H a (.lst vs')) σ (δ.set i (.ol ds')) as := by
  induction h with
  | nil => intro i ds _ e; simp at e
  | @cons v1 o1 σ1 δ1 as1 bs1 q1 r1 ih =>
    intro i ds n e
    have n1 := List.nodup_append.mp n
    cases i with
    | zero =>
      simp at e
      subst e
      cases q1 with
      | @ol a vs _ q r =>
        refine ⟨a, vs, rfl, q, r, List.mem_append_left _ (List.mem_singleton.mpr rfl), fun vs' ds' r' => ?_⟩
        refine Sls.cons (.ol upd_same r') (r1.up (Same.refl H0) fun b hb => upd_ne fun z => ?_)
        exact n1.2.2 a (List.mem_singleton.mpr rfl) b hb z.symm
    | succ i =>
      obtain ⟨a, vs, h1, h2, h3, h4, h5⟩ := ih (i := i) (ds := ds) n1.2.1 (by simpa using e)
      refine ⟨a, vs, by simpa using h1, h2, h3, List.mem_append_right _ h4, fun vs' ds' r' => ?_⟩
      refine Sls.cons (q1.up (Same.refl H0) fun b hb => upd_ne fun z => ?_) (h5 vs' ds' r')
      subst z
      exact n1.2.2 b hb b h4 rfl
theorem Stt.put {i : Nat} {ds : List D} (S : Stt g Hc H0c H0 H σ δ) (e : δ[i]? = some (.ol ds)) : ∃ a vs, σ[i]? = some (some (.ref a)) ∧ H a = some (.lst vs) ∧ RpA g H0 vs ds ∧
    ∀ vs' ds', RpA g H0 vs' ds' → Stt g Hc H0c H0 (upd H a (.lst vs')) σ (δ.set i (.ol ds')) := by
  obtain ⟨as, h1, h2, h3⟩ := S.own
  obtain ⟨a, vs, q1, q2, q3, q4, q5⟩ := h1.put h2 e
  obtain ⟨c1, c2⟩ := h3 a q4
  refine ⟨a, vs, q1, q2, q3, fun vs' ds' r' => ⟨⟨as, q5 vs' ds' r', h2, h3⟩, S.s0.upd c2, fun b u z => ?_, S.s0c, S.fr, S.nm⟩⟩
  · rw [upd_ne (ne_of_none z c1)]
    exact S.sc b u z
def frz (i : Nat) (δ : Sm) : Sm := match δ[i]? with
  | some (.ol ds) => δ.set i (.sh (.lst ds))
  | some (.ot ks vs) => δ.set i (.sh (.dtt ks vs))
  | _ => δ
def frzD : O → Option D
  | .ol ds => some (.lst ds)
  | .ot ks vs => some (.dtt ks vs)
  | _ => none
theorem Sls.frz (h : Sls g H0 H σ δ as) (s0 : Sub H0 H) (hz : ∀ a ∈ as, H0 a = none) : ∀ {i : Nat} {o : O} {d : D}, as.Nodup → δ[i]? = some o → frzD o = some d → ∃ a u bs, H a = some u ∧ (∀ n, u ≠ cmk n) ∧ a ∈ as ∧ bs.Nodup ∧ (∀ b ∈ bs, b ∈ as ∧ b ≠ a) ∧
    (∀ H1, Same H0 H1 → H1 a = some u → Sls g H1 H σ (δ.set i (.sh d)) bs) := by
  induction h with
  | nil => intro i o d _ e; simp at e
  | @cons v1 o1 σ1 δ1 as1 bs1 q1 r1 ih =>
    intro i o d n e f
    have n1 := List.nodup_append.mp n
    cases i with
    | zero =>
      simp at e
      subst e
      cases q1 with
      | @ol a vs _ q r =>
        cases f
        refine ⟨a, _, bs1, q, (fun _ z => nomatch z), List.mem_append_left _ (List.mem_singleton.mpr rfl), n1.2.1, fun b hb => ⟨List.mem_append_right _ hb, fun z => ?_⟩, fun H1 u1 u2 => ?_⟩
        · exact n1.2.2 a (List.mem_singleton.mpr rfl) b hb z.symm
        · have z := Sls.cons (Sl.sh (H := H) (Rp.lst (.inl u2) (r.mono u1))) (r1.up u1 fun _ _ => rfl)
          exact z
      | @ot a xs ep ks vs q r =>
        cases f
        refine ⟨a, _, bs1, q, (fun _ z => nomatch z), List.mem_append_left _ (List.mem_singleton.mpr rfl), n1.2.1, fun b hb => ⟨List.mem_append_right _ hb, fun z => ?_⟩, fun H1 u1 u2 => ?_⟩
        · exact n1.2.2 a (List.mem_singleton.mpr rfl) b hb z.symm
        · obtain ⟨ws, w1, w2⟩ := r.rv
          have z := Sls.cons (Sl.sh (H := H) (Rp.dtt u2 r.e r.dp (fun x hx => KeyAt.up u1 _ _ (r.rk x hx)) w1 (w2.mono u1))) (r1.up u1 fun _ _ => rfl)
          exact z
      | no => cases f
      | sh q => cases f
    | succ i =>
      obtain ⟨a, u, bs, h1, h1', h2, h4, h5, h6⟩ := ih (fun a ha => hz a (List.mem_append_right _ ha)) (i := i) (o := o) (d := d) n1.2.1 (by simpa using e) f
      refine ⟨a, u, as1 ++ bs, h1, h1', List.mem_append_right _ h2, List.nodup_append.mpr ⟨n1.1, h4, fun x hx y hy z => ?_⟩, fun b hb => ?_, fun H1 u1 u2 => ?_⟩
      · exact n1.2.2 x hx y (h5 y hy).1 z
      · rcases List.mem_append.mp hb with z | z
        · exact ⟨List.mem_append_left _ z, fun y => n1.2.2 b z a h2 y⟩
        · exact ⟨List.mem_append_right _ (h5 b z).1, (h5 b z).2⟩
      · exact Sls.cons (q1.up u1 fun _ _ => rfl) (h6 H1 u1 u2)
theorem Stt.frzO (S : Stt g Hc H0c H0 H σ δ) {i : Nat} {o : O} {d : D} (e : δ[i]? = some o) (f : frzD o = some d) : ∃ H1, Same H0 H1 ∧ Stt g Hc H0c H1 H σ (δ.set i (.sh d)) := by
  obtain ⟨as, h1, h2, h3⟩ := S.own
  obtain ⟨a, u, bs, q1, qk, q2, q4, q5, q6⟩ := h1.frz S.s0 (fun a ha => (h3 a ha).2) h2 e f
  obtain ⟨c1, c2⟩ := h3 a q2
  have u1 : Same H0 (upd H0 a u) := fun b u z => by rw [upd_ne (ne_of_none z c2)]; exact z
  refine ⟨upd H0 a u, u1, ⟨bs, q6 _ u1 upd_same, q4, fun b hb => ⟨(h3 b (q5 b hb).1).1, ?_⟩⟩, fun b u z => ?_, S.sc, S.s0c.trans u1, fun b hb hn => ?_, fun b n z => ?_⟩
  · rw [upd_ne (q5 b hb).2]
    exact (h3 b (q5 b hb).1).2
  · by_cases y : b = a
    · subst y
      rw [upd_same] at z
      rw [q1]
      exact .inl z
    · rw [upd_ne y] at z
      exact S.s0 b _ z
  · rw [upd_ne fun z => hb (by rw [z]; exact c1)]
    exact S.fr b hb hn
  · by_cases y : b = a
    · subst y
      rw [upd_same] at z
      exact absurd (Option.some.inj z) (qk n)
    · rw [upd_ne y] at z
      exact S.nm b n z
theorem Stt.frz (S : Stt g Hc H0c H0 H σ δ) (i : Nat) : ∃ H1, Same H0 H1 ∧ Stt g Hc H0c H1 H σ (frz i δ) := by
  unfold Pd.frz
  split
  · rename_i ds e
    exact S.frzO e rfl
  · rename_i ks vs e
    exact S.frzO e rfl
  · exact ⟨H0, Same.refl H0, S⟩
end
def mSetL (i : Nat) (f : Sm → Res (List D)) : Sm → Out := fun δ => (f δ).out δ fun ds => if ds.length ≤ 16777216 then .nx (δ.set i (.ol ds)) else .bad
def mApp (i : Nat) (f : Sm → Res D) : Sm → Out := fun δ => match δ[i]? with
  | some (.ol ds) => (f δ).out δ fun d => if ds.length < 16777216 then .nx (δ.set i (.ol (ds ++ [d]))) else .bad
  | _ => .bad
def frzs : List Nat → Sm → Sm
  | [], δ => δ
  | i :: is, δ => frzs is (frz i δ)
def flat : D → Bool
  | .non => true
  | .bl _ => true
  | .int _ => true
  | .str _ => true
  | _ => false
theorem Rp.flat {g : G} {H H' : Hp} {v : V} {d : D} (h : Rp g H v d) (f : flat d = true) : Rp g H' v d := by
  cases h with
  | non => exact .non
  | bl b => exact .bl b
  | int i => exact .int i
  | str x => exact .str x
  | _ => cases f
def eBor (is : List Nat) (f : Sm → Res D) : Sm → Res D := fun δ => match f (frzs is δ) with
  | .ok d => if flat d = true then .ok d else .bad
  | _ => .bad
theorem Stt.frzs {g : G} {Hc H0c H : Hp} {σ : St} : ∀ (is : List Nat) {H0 : Hp} {δ : Sm}, Stt g Hc H0c H0 H σ δ → ∃ H1, Same H0 H1 ∧ Stt g Hc H0c H1 H σ (frzs is δ)
  | [], H0, δ, S => ⟨H0, Same.refl H0, S⟩
  | i :: is, H0, δ, S => by
    obtain ⟨H1, u1, S1⟩ := S.frz i
    obtain ⟨H2, u2, S2⟩ := Stt.frzs is S1
    exact ⟨H2, u1.trans u2, S2⟩
section
variable {X : Cx} {ca : Str → Addr} {W : WX} {a b : Expr} {es : List Expr} {fa : Sm → Res D} {fl : Sm → Res (List D)} {sts : List Stmt} {m : Sm → Out} {pos : Pos}
theorem pds_frz (i : Nat) (h : PDSs X ca W sts m) : PDSs X ca W sts (fun δ => m (frz i δ)) := by
  refine pssI h fun E σ H h => ?_
  obtain ⟨Hc, H0c, H0, δ, S, p⟩ := h
  obtain ⟨H1, _, S1⟩ := S.frz i
  exact ⟨Hc, H0c, H1, frz i δ, S1, p⟩
theorem pds_setL (i : Nat) {x : Str} {pos' lp : Pos} (hN : X.N.Nodup) (ha : PDA X ca W es fl) (hi : X.N[i]? = some x := by rfl) (hx : Loc X.env.scope x := by first | exact Or.inl rfl | exact Or.inr rfl) (hs : swapsWith (.List es lp) (some (.Name x pos')) pos.line X.env = pure false := by rfl)
    (hf : X.fn x = true ∨ X.env.scope.names.lookup x = some .local := by first | exact .inl rfl | exact .inr rfl) : PDS X ca W (.Assign [.Name x pos'] (.List es lp) pos) (mSetL i fl) := by
  refine psI (ps_set hN hi hx (pe_lst ha) hs hf) fun E σ H h => ?_
  obtain ⟨Hc, H0c, H0, δ, S, p⟩ := h
  refine Post.out S p fun xs ds A B w S1 r p1 => ?_
  by_cases z : ds.length ≤ 16777216
  · simp only [if_pos z] at p1
    refine ⟨szl (by rw [r.length]; exact z), fun q hq => ?_⟩
    exact p1 _ _ _ (S1.layOl hq r i)
  · simp only [if_neg z] at p1
    exact p1.elim
theorem pds_app (i : Nat) {x : Str} {px pa pc : Pos} (ha : PD X ca W a fa) (hN : X.N[i]? = some x := by rfl) (hv : Vis X.env.scope x := by first | exact Or.inl rfl | exact Or.inr (Or.inl rfl) | exact Or.inr (Or.inr rfl)) (hd : (x == ("__debug__" : Str)) = false := by decide)
    (hcd : (x == ("__classdict__" : Str)) = false := by decide)
    (hs0 : starEach [a] X.env = (false, eval a X.env) :: starEach [] X.env := by rfl)
    (hfew : ((backTo pc (starEach [a] X.env)).all (fun x => !x.1) && (backToKw pc (keywordEach [] X.env)).all (fun x => x.1.isSome)
      && decide (([a] : List Expr).length + ([] : List Keyword).length + (if ([] : List Keyword).isEmpty then 0 else 1) < 30)) = true := by rfl)
    (hline : (pa.endLine == pc.line) = true := by rfl)
    (hs : swapsWith (.Call (.Attribute (.Name x px) "append" pa) [a] [] pc) none pos.line X.env = pure false := by rfl) :
    PDS X ca W (.Expr (.Call (.Attribute (.Name x px) "append" pa) [a] [] pc) pos) (mApp i fa) := by
  have h0 : PE X (.Name x px) (tVar i) := pe_var hN hv hd hcd
  have h1 : PA X [a] (tCons (tD ⟨X.K, ca, X.w⟩ W fa) tNil) := pa_cons ha pa_nil hs0
  refine psI (ps_expr (pe_bm PySem.F.plainAttrs_list PySem.F.slot_list_append PySem.F.type_list_append mt_append h0 h1 rfl hfew hline hs0 rfl) hs) fun E σ H h => ?_
  obtain ⟨Hc, H0c, H0, δ, S, p⟩ := h
  unfold mApp at p
  split at p
  · rename_i ds e
    obtain ⟨l, vs, q1, q2, q3, _⟩ := S.put e
    refine ⟨_, q1, .inl ⟨rfl, _, SqL.of q2⟩, ?_⟩
    refine Post.out S p fun y d A B w S1 ry p1 => ?_
    obtain ⟨l', vs', t1, t2, t3, t4⟩ := S1.put e
    rw [q1] at t1
    cases t1
    by_cases z : ds.length < 16777216
    · simp only [if_pos z] at p1
      refine ⟨l, vs', y, rfl, rfl, t2, by rw [sizeLine_eq, t3.length]; exact z, ?_⟩
      exact p1 σ A _ (t4 _ _ (t3.append (.one ry)))
    · simp only [if_neg z] at p1
      exact p1.elim
  · exact p.elim
end

def spD (g : G) (n : Nat) (fm : List D → Res D) : Sp := fun vs H Q E => ∃ H0 ds, Sub H0 H ∧ RpA g H0 vs ds ∧ ds.length = n ∧ Post g (fun cls d _ H' => E cls d H') [] H0 H (Rp g) Q (fm ds)
structure Bd (g : G) (fd : FuncData) (ps : List Str) (n : Nat) (ks : List Str) (gD : List D → List D → List D) : Prop where
  ex : ∃ (gg : List Value → List Value → List Value) (gV : List V → List V → List V), KBn g.K fd ps n ks gg gV ∧ ∀ H0 vs ds zs es, RpA g H0 vs ds → RpA g H0 zs es → RpA g H0 (gV vs zs) (gD ds es)
def ALen (f : Sm → Res (List D)) (n : Nat) : Prop := ∀ δ ds, f δ = .ok ds → ds.length = n
theorem al_nil : ALen aNil 0 := fun _ _ h => by cases h; rfl
theorem al_cons {a : Sm → Res D} {r : Sm → Res (List D)} {n : Nat} (h : ALen r n) : ALen (aCons a r) (n + 1) := fun δ ds e => by
  unfold aCons at e
  cases e1 : a δ with
  | ok x =>
    rw [e1] at e
    cases e2 : r δ with
    | ok xs =>
      rw [e2] at e
      cases e
      rw [List.length_cons, h δ xs e2]
    | xc c fs => rw [e2] at e; cases e
    | bad => rw [e2] at e; cases e
  | xc c fs => rw [e1] at e; cases e
  | bad => rw [e1] at e; cases e
def eCall (fm : List D → Res D) (gD : List D → List D → List D) (fa fk : Sm → Res (List D)) : Sm → Res D := fun δ => (fa δ).bind fun ds => (fk δ).bind fun es => fm (gD ds es)
theorem Post.bindE {α α1 β β1 : Type} {g : G} {W : WX} {σ : St} {δ : Sm} {Hc H0c H0 H : Hp} {R : Hp → α → β → Prop} {R1 : Hp → α1 → β1 → Prop} {Q : α → Hp → Prop} {f1 : Sm → Res β1} {k : β1 → Res β} {P : α1 → Hp → Prop} (S : Stt g Hc H0c H0 H σ δ) (p : Post g W σ H0 H R Q ((f1 δ).bind k))
    (hk : ∀ x b H0' H', f1 δ = .ok b → Grow H0 H H0' H' → Stt g Hc H0c H0' H' σ δ → R1 H0' x b → Post g W σ H0' H' R Q (k b) → P x H') : tG g W R1 f1 σ H P := by
  refine ⟨Hc, H0c, H0, δ, S, ?_⟩
  cases e : f1 δ with
  | ok b =>
    rw [e] at p
    exact fun x A B w q => hk x b A B e w (S.grow w) q (Post.grow w p)
  | xc c fs =>
    rw [e] at p
    exact p
  | bad =>
    rw [e] at p
    exact p.elim
section
variable {X : Cx} {ca : Str → Addr} {W : WX} {k n np : Nat} {f : Addr} {fd : FuncData} {ps ks : List Str} {fm : List D → Res D} {gD : List D → List D → List D} {x : Str} {p pos : Pos} {e : Expr} {es : List Expr} {kws : List Keyword} {fa fk : Sm → Res (List D)}
theorem run_call {pins : List (Addr × Obj)} {σ : St} {H : Hp} {s : Shared} {Q : VK} {us ws : List Value} {vs zs : List V} {gg : List Value → List Value → List Value} {gV : List V → List V → List V} {sp : Sp} (F : FnOk X.prog X.w X.K X.mg X.base (CXv vn X.prog X.w) k f fd ps sp) (hr : Room k X.A) (hb : KBn X.K fd ps n ks gg gV) (tk : TakesV vn X W)
    (I : Inv X pins σ H s) (r : Vals vs us) (rz : Vals zs ws) (l1 : vs.length = n) (l2 : zs.length = ks.length) (h : sp (gV vs zs) H Q (WE W σ)) : wpAny (model X.prog X.w) X.A (call (.ref f) us (ks.zip ws)) (EP X pins σ Q) X.xe s := by
  have r2 := hb.rel r rz
  refine wpAny_call (codeAny_mono (F.run X.A X.stack s H ⟨us, ks.zip ws⟩ (gg us ws) (gV vs zs) Q (WE W σ) hr I.env0 (hb.to s us ws I.kIn (r.length.symm.trans l1) (rz.length.symm.trans l2)) r2 h) fun res s' hq => ?_)
  cases res with
  | error er => exact passAtV tk σ pins H s er s' I hq
  | ok fl =>
    cases fl with
    | ret u => exact I.after hq
    | next => exact hq.elim
    | brk => exact hq.elim
    | cont => exact hq.elim
theorem pd_call (F : FnOk X.prog X.w X.K X.mg X.base (CXv vn X.prog X.w) k f fd ps (spD ⟨X.K, ca, X.w⟩ ps.length fm)) (hr : Room k X.A) (hm : X.mg x = some (.ref f)) (hk : PySem.W.keepIn X.K (.ref f) = true) (hb : Bd ⟨X.K, ca, X.w⟩ fd ps n ks gD) (tk : TakesV vn X W)
    (ha : PDA X ca W (e :: es) fa) (hkw : PDK X ca W kws fk) (la : ALen fa n) (lk : ALen fk ks.length) (lg : ∀ ds es, ds.length = n → es.length = ks.length → (gD ds es).length = ps.length) (hg : Gl X x := by rfl)
    (hall : (backToKw pos (keywordEach kws X.env)).all (·.1.isSome) = true := by rfl) (hks : (backToKw pos (keywordEach kws X.env)).filterMap (·.1) = ks := by rfl)
    (hdb : (x == ("__debug__" : Str)) = false := by decide) (he : starEach (e :: es) X.env = (false, eval e X.env) :: starEach es X.env := by rfl)
    (hpl : ((backTo pos (starEach (e :: es) X.env)).any (·.1) || (backToKw pos (keywordEach kws X.env)).any (·.1.isNone)) = false := by rfl) :
    PD X ca W (.Call (.Name x p) (e :: es) kws pos) (eCall fm gD fa fk) := by
  obtain ⟨gg, gV, hb1, hb2⟩ := hb.ex
  refine ⟨fun pins s σ H Q I h => ?_⟩
  obtain ⟨Hc, H0c, H0, δ, S, pp⟩ := h
  refine wpAny_Call_Name_kw (ld_glob I hg hm ?_ hdb)
  refine PySem.W.callWith_KW (h₀ := X.base) I.ok.mod.kin hk hall (thn (ha.run pos pins s σ H (fun vs B => ∃ ds A, fa δ = .ok ds ∧ Stt ⟨X.K, ca, X.w⟩ Hc H0c A B σ δ ∧ RpA ⟨X.K, ca, X.w⟩ A vs ds ∧ Post ⟨X.K, ca, X.w⟩ W σ A B (Rp ⟨X.K, ca, X.w⟩) Q ((fk δ).bind fun es => fm (gD ds es))) I
    (Post.bindE S pp fun vs ds A B e1 w S1 r1 p1 => ⟨ds, A, e1, S1, r1, p1⟩)) fun us s1 ⟨vs, H1, I1, rv, ds, A, e1, S1, r1, p1⟩ => ?_) hpl he
  refine thn (hkw.run pos pins s1 σ H1 (fun zs B => ∃ es A', fk δ = .ok es ∧ Stt ⟨X.K, ca, X.w⟩ Hc H0c A' B σ δ ∧ Same A A' ∧ RpA ⟨X.K, ca, X.w⟩ A' zs es ∧ Post ⟨X.K, ca, X.w⟩ W σ A' B (Rp ⟨X.K, ca, X.w⟩) Q (fm (gD ds es))) I1
    (Post.bindE S1 p1 fun zs es A' B e2 w S2 r2 p2 => ⟨es, A', e2, S2, w.up0, r2, p2⟩)) fun ws s2 ⟨zs, H2, I2, rz, es, A', e2, S2, u2, r2, p2⟩ => ⟨I2.kIn, ?_⟩
  rw [hks]
  have l1 := la δ ds e1
  have l2 := lk δ es e2
  refine run_call F hr hb1 tk I2 rv rz (by rw [r1.length]; exact l1) (by rw [r2.length]; exact l2) ?_
  refine ⟨A', gD ds es, S2.s0, hb2 A' vs ds zs es (r1.mono u2) r2, lg ds es l1 l2, ?_⟩
  cases q : fm (gD ds es) with
  | ok d => rw [q] at p2; exact p2
  | xc c fs => rw [q] at p2; exact p2
  | bad => rw [q] at p2; exact p2
end

def runF (n : Nat) (m : Sm → Out) (ds : List D) : Res D := match m (ds.map O.sh ++ List.replicate n O.no) with
  | .rt d => .ok d
  | .nx _ => .ok .non
  | .xc c fs _ => .xc c fs
  | _ => .bad
theorem sls_none {g : G} {H0 H : Hp} : ∀ n : Nat, Sls g H0 H (List.replicate n none) (List.replicate n O.no) []
  | 0 => .nil
  | n + 1 => Sls.cons (as := []) .no (sls_none n)
theorem sls_args {g : G} {H0 H : Hp} {n : Nat} : ∀ {vs : List V} {ds : List D}, RpA g H0 vs ds → Sls g H0 H (vs.map some ++ List.replicate n none) (ds.map O.sh ++ List.replicate n O.no) []
  | _, _, .nil => sls_none n
  | _, _, .cons q r => Sls.cons (as := []) (.sh q) (sls_args r)
section
variable {P : Program} {w : World} {K : PySem.W.Frag} {mg : Str → Option Value} {base : Heap} {ca : Str → Addr} {x qual : Str} {params : Arguments} {body : List Stmt} {scope : Scope} {dvs : List V} {kws : List (Str × V)} {f : Addr} {fd : FuncData} {N ps : List Str} {k n : Nat} {m : Sm → Out}
theorem fn_mk (F : FunD K x qual params body scope dvs kws f fd) (S : FnScope N ps scope) (hn : N.length = ps.length + n)
    (hb : ∀ (cdv : Value) (A : Around) (outer : List Env) (s : Shared) (H : Hp) (E : XK), Room k (A.deeper (PyProof.Rows.envOfC qual scope s.heap.objs.size f cdv)) →
      PDSs (cxOf (CXv vn P w) P w K mg base N qual scope f cdv A outer s H E) ca (fun cls d _ H' => E cls d H') body m) :
    FnOk P w K mg base (CXv vn P w) (k + 1) f fd ps (spD ⟨K, ca, w⟩ ps.length (runF n m)) := by
  refine F.ok S (fun vs H Q E h => ?_) (fun cdv A outer s H vs Q E hr h => ⟨_, hb cdv A outer s H E hr, ?_⟩)
  · obtain ⟨H0, ds, _, r, l, _⟩ := h
    rw [r.length, l]
  · obtain ⟨H0, ds, s0, r, l, p⟩ := h
    have el : N.length - vs.length = n := by
      rw [r.length, l, hn]
      omega
    refine ⟨H, H0, H0, ds.map O.sh ++ List.replicate n O.no, ⟨⟨[], ?_, List.nodup_nil, fun a ha => nomatch ha⟩, s0, Same.refl H, Same.refl H0, fun _ _ h => h, fun _ _ h => h⟩, ?_⟩
    · unfold L2.start
      rw [el]
      exact sls_args r
    · unfold runF at p
      cases e : m (ds.map O.sh ++ List.replicate n O.no) with
      | nx δ =>
        rw [e] at p
        exact fun σ A B S1 => p .non A B S1.grown .non
      | rt d =>
        rw [e] at p
        exact fun v A B w1 r1 => p v A B w1 r1
      | bk δ => rw [e] at p; exact p.elim
      | ct δ => rw [e] at p; exact p.elim
      | xc c fs δ =>
        rw [e] at p
        exact fun ad fvs σ A B S1 q1 q2 => p ad fvs A B S1.grown q1 q2
      | bad => rw [e] at p; exact p.elim
end
theorem takesX {P : Program} {w : World} {K : PySem.W.Frag} {mg : Str → Option Value} {base : Heap} {N : List Str} {qual : Str} {scope : Scope} {f : Addr} {cdv : Value} {A : Around} {outer : List Env} {s : Shared} {H : Hp} {E : XK} :
    TakesV vn (cxOf (CXv vn P w) P w K mg base N qual scope f cdv A outer s H E) (fun cls d _ H' => E cls d H') := takesV_of rfl rfl rfl rfl
end Pd

set_option Elab.async false
set_option linter.all false
set_option maxRecDepth 100000
set_option maxHeartbeats 4000000
namespace Pd
open PySem L2

theorem wipe_at (σ : St) : ∀ (vs : List Nat) (k : Nat), (wipe σ vs)[k]? = if k ∈ vs ∧ k < σ.length then some none else σ[k]?
  | [], k => by
    rw [if_neg (fun h => nomatch h.1)]
    rfl
  | v :: vs, k => by
    show ((wipe σ vs).set v none)[k]? = _
    rw [List.getElem?_set, wipe_length, wipe_at σ vs k]
    by_cases h1 : v = k
    · subst h1
      by_cases h2 : v < σ.length
      · simp [h2]
      · simp [h2]
    · rw [if_neg h1]
      by_cases h2 : k ∈ vs ∧ k < σ.length
      · rw [if_pos h2, if_pos ⟨List.mem_cons_of_mem _ h2.1, h2.2⟩]
      · rw [if_neg h2, if_neg]
        rintro ⟨h3, h4⟩
        rcases List.mem_cons.mp h3 with z | z
        · exact h1 z.symm
        · exact h2 ⟨z, h4⟩
theorem wipe_set {σ : St} {vs : List Nat} {j : Nat} {v : Option V} (h : j ∈ vs) : wipe (σ.set j v) vs = wipe σ vs := by
  refine List.ext_getElem? fun k => ?_
  rw [wipe_at, wipe_at, List.length_set]
  by_cases h2 : k ∈ vs ∧ k < σ.length
  · rw [if_pos h2, if_pos h2]
  · rw [if_neg h2, if_neg h2, List.getElem?_set]
    by_cases e : j = k
    · subst e
      have : ¬ j < σ.length := fun z => h2 ⟨h, z⟩
      simp [this]
    · rw [if_neg e]
theorem wipe_wipe {σ : St} {vs : List Nat} : wipe (wipe σ vs) vs = wipe σ vs := by
  refine List.ext_getElem? fun k => ?_
  rw [wipe_at, wipe_length]
  by_cases h2 : k ∈ vs ∧ k < σ.length
  · rw [if_pos h2, wipe_at, if_pos h2]
  · rw [if_neg h2]
def GOk (g : G) (vs : List Nat) (tg : TG) (gt : D → Sm → Res Sm) : Prop := ∀ (Hc H0c H0 H : Hp) (σ : St) (δ : Sm) (x : V) (d : D) (δ1 : Sm) (Q : St → Hp → Prop), Stt g Hc H0c H0 H σ δ → Rp g H0 x d → gt d δ = .ok δ1 →
  (∀ σ1, wipe σ1 vs = wipe σ vs → Stt g Hc H0c H0 H σ1 δ1 → Q σ1 H) → tg x σ H Q
def GOks (g : G) (vs : List Nat) (tg : TGs) (gt : List D → Sm → Res Sm) : Prop := ∀ (Hc H0c H0 H : Hp) (σ : St) (δ : Sm) (x : List V) (d : List D) (δ1 : Sm) (Q : St → Hp → Prop), Stt g Hc H0c H0 H σ δ → RpA g H0 x d → gt d δ = .ok δ1 →
  (∀ σ1, wipe σ1 vs = wipe σ vs → Stt g Hc H0c H0 H σ1 δ1 → Q σ1 H) → tg x σ H Q
def gtN (j : Nat) : D → Sm → Res Sm := fun d δ => .ok (δ.set j (.sh d))
def gtNil : List D → Sm → Res Sm
  | [], δ => .ok δ
  | _ :: _, _ => .bad
def gtCons (a : D → Sm → Res Sm) (r : List D → Sm → Res Sm) : List D → Sm → Res Sm
  | d :: ds, δ => (a d δ).bind fun δ1 => r ds δ1
  | [], _ => .bad
def gtT (n : Nat) (r : List D → Sm → Res Sm) : D → Sm → Res Sm := fun d δ => match d with
  | .tup ds => if ds.length = n then r ds δ else .bad
  | _ => .bad
section
variable {g : G} {vs : List Nat}
theorem gok_name {j : Nat} (h : j ∈ vs := by decide) : GOk g vs (gName j) (gtN j) := fun Hc H0c H0 H σ δ x d δ1 Q S r e k => by
  cases e
  exact k _ (wipe_set h) (S.setSh r j)
theorem goks_nil : GOks g vs gNil gtNil := fun Hc H0c H0 H σ δ x d δ1 Q S r e k => by
  cases r with
  | nil =>
    cases e
    exact ⟨rfl, k σ rfl S⟩
  | cons _ _ => cases e
theorem goks_cons {t : TG} {u : TGs} {a : D → Sm → Res Sm} {b : List D → Sm → Res Sm} (h1 : GOk g vs t a) (h2 : GOks g vs u b) : GOks g vs (gCons t u) (gtCons a b) := fun Hc H0c H0 H σ δ x d δ1 Q S r e k => by
  cases r with
  | nil => cases e
  | @cons v ws d1 ds q r =>
    have e' : (a d1 δ).bind (fun δ1 => b ds δ1) = .ok δ1 := e
    cases e1 : a d1 δ with
    | ok δ2 =>
      rw [e1] at e'
      refine ⟨v, ws, rfl, h1 Hc H0c H0 H σ δ v d1 δ2 _ S q e1 fun σ1 z1 S1 => ?_⟩
      exact h2 Hc H0c H0 H σ1 δ2 ws ds δ1 Q S1 r e' fun σ2 z2 S2 => k σ2 (z2.trans z1) S2
    | xc c fs => rw [e1] at e'; cases e'
    | bad => rw [e1] at e'; cases e'
theorem gok_tup {n : Nat} {u : TGs} {b : List D → Sm → Res Sm} (h : GOks g vs u b) : GOk g vs (gTup g.K n u) (gtT n b) := fun Hc H0c H0 H σ δ x d δ1 Q S r e k => by
  cases r with
  | @tup a ws ds q r =>
    have e' : (if ds.length = n then b ds δ else .bad) = .ok δ1 := e
    by_cases z : ds.length = n
    · rw [if_pos z] at e'
      exact ⟨a, ws, rfl, sqT_in S.s0 q, by rw [r.length]; exact z, h Hc H0c H0 H σ δ ws ds δ1 Q S r e' k⟩
    · rw [if_neg z] at e'
      cases e'
  | _ => cases e
end

structure Its (g : G) (A : Hp) (J : It) (ds : List D) : Prop where
  go : ∀ (i : Nat) (d : D) (A1 B1 : Hp), Same A A1 → Sub A1 B1 → ds[i]? = some d → J.go i B1 ∧ ∀ x B2, J.yld i B1 x B2 → ∃ A2, Grow A1 B1 A2 B2 ∧ Rp g A2 x d
  stop : ∀ (i : Nat) (B1 : Hp), Sub A B1 → ds.length ≤ i → J.stop i B1
abbrev PDI (X : Cx) (ca : Str → Addr) (W : WX) (tg iter : Expr) (it : Sm → Res (List D)) : Prop := PI X tg iter (tG ⟨X.K, ca, X.w⟩ W (Its ⟨X.K, ca, X.w⟩) it)
theorem piI {X : Cx} {tg e : Expr} {t t' : TI} (h : PI X tg e t) (i : ∀ σ H Q, t' σ H Q → t σ H Q) : PI X tg e t' := ⟨fun pins s σ H Q I w => h.run pins s σ H Q I (i σ H Q w)⟩
def asL : D → Res (List D)
  | .lst ds => .ok ds
  | _ => .bad
def asT : D → Res (List D)
  | .tup ds => .ok ds
  | _ => .bad
def itOf (k : D → Res (List D)) (f : Sm → Res D) : Sm → Res (List D) := fun δ => (f δ).bind k
def inR (j : Int) : Bool := decide (-(2 ^ 62) ≤ j ∧ j < 2 ^ 62)
def rangeD (lo : Int) (n : Nat) : List D := (List.range n).map fun i => .int (lo + (i : Nat))
def kRng1 : List D → Res (List D)
  | [.int j] => if inR j = true then .ok (rangeD 0 j.toNat) else .bad
  | _ => .bad
def kRng2 : List D → Res (List D)
  | [.int i, .int j] => if (inR i && inR j) = true then .ok (rangeD i (j - i).toNat) else .bad
  | _ => .bad
def itA (k : List D → Res (List D)) (f : Sm → Res (List D)) : Sm → Res (List D) := fun δ => (f δ).bind k
theorem its_list {g : G} {A : Hp} {a : Addr} {vs : List V} {ds : List D} (q : SqL g.K A a vs) (r : RpA g A vs ds) : Its g A (Itl g.K a) ds where
  go := fun i d A1 B1 u1 u2 e => by
    obtain ⟨v, e1, r1⟩ := r.get e
    have q1 := sqL_in (.to u1 u2) q
    refine ⟨⟨vs, v, q1, e1⟩, fun x B2 y => ?_⟩
    obtain ⟨e2, e3⟩ := y
    have e4 := e3 vs q1
    rw [e1] at e4
    cases e4
    subst e2
    exact ⟨A1, Grow.refl u2, r1.mono u1⟩
  stop := fun i B1 u1 h => ⟨vs, sqL_in u1 q, by rw [r.length]; exact h⟩
theorem rangeD_at {lo : Int} {n i : Nat} {d : D} (h : (rangeD lo n)[i]? = some d) : i < n ∧ d = .int (lo + i) := by
  unfold rangeD at h
  rw [List.getElem?_map] at h
  cases e : (List.range n)[i]? with
  | none => rw [e] at h; cases h
  | some j =>
    rw [e] at h
    obtain ⟨h1, h2⟩ := List.getElem?_eq_some_iff.mp e
    rw [List.length_range] at h1
    rw [List.getElem_range] at h2
    subst h2
    cases h
    exact ⟨h1, rfl⟩
theorem its_range {g : G} {A : Hp} {lo : Int} {n : Nat} : Its g A (Itr lo n) (rangeD lo n) where
  go := fun i d A1 B1 u1 u2 e => by
    obtain ⟨h1, rfl⟩ := rangeD_at e
    refine ⟨h1, fun x B2 y => ?_⟩
    obtain ⟨rfl, rfl⟩ := y
    exact ⟨A1, Grow.refl u2, .int _⟩
  stop := fun i B1 u1 h => by
    unfold rangeD at h
    rw [List.length_map, List.length_range] at h
    exact h
section
variable {X : Cx} {ca : Str → Addr} {W : WX} {tg a b : Expr} {fa : Sm → Res D} {fl : Sm → Res (List D)} {pos p : Pos}
theorem pdi_list (h : PD X ca W a fa) : PDI X ca W tg a (itOf asL fa) := by
  refine piI (pi_list h) fun σ H R h => ?_
  obtain ⟨Hc, H0c, H0, δ, S, p⟩ := h
  refine Post.bind S p fun x d A B w S1 r p1 => ?_
  cases r with
  | @lst l vs ds q r => exact ⟨l, rfl, ⟨vs, .inl (rdL_in S1.s0 q)⟩, Post.now S1 p1 (its_list (.inl q) r)⟩
  | _ => exact p1.elim
theorem inR_of {j : Int} (h : inR j = true) : -(2 ^ 62) ≤ j ∧ j < 2 ^ 62 := of_decide_eq_true (p := -(2 ^ 62) ≤ j ∧ j < 2 ^ 62) h
theorem pdi_range1 (hm : X.mg "range" = none) (ha : PDA X ca W [a] fl) (hg : Gl X "range" := by rfl) (hs : starEach [a] X.env = [(false, eval a X.env)] := by rfl) : PDI X ca W tg (.Call (.Name "range" p) [a] [] pos) (itA kRng1 fl) := by
  refine piI (pi_range1 hg hm ha hs) fun σ H R h => ?_
  obtain ⟨Hc, H0c, H0, δ, S, p⟩ := h
  refine Post.bind S p fun x d A B w S1 r p1 => ?_
  cases r with
  | nil => exact p1.elim
  | cons q r =>
    cases r with
    | nil =>
      cases q with
      | int j =>
        have p2 : Post ⟨X.K, ca, X.w⟩ W σ A B (Its ⟨X.K, ca, X.w⟩) R (if inR j = true then .ok (rangeD 0 j.toNat) else .bad) := p1
        by_cases z : inR j = true
        · rw [if_pos z] at p2
          exact ⟨j, rfl, (inR_of z).1, (inR_of z).2, Post.now S1 p2 its_range⟩
        · rw [if_neg z] at p2
          exact p2.elim
      | _ => exact p1.elim
    | cons _ _ => cases q <;> exact p1.elim
end

def forL (gt : D → Sm → Res Sm) (b : Sm → Out) : List D → Sm → Out
  | [], δ => .nx δ
  | d :: ds, δ => match gt d δ with
    | .ok δ1 => match b δ1 with
      | .nx δ2 => forL gt b ds δ2
      | .ct δ2 => forL gt b ds δ2
      | .bk δ2 => .nx δ2
      | .rt r => .rt r
      | .xc c fs δ2 => .xc c fs δ2
      | .bad => .bad
    | _ => .bad
def mFor (it : Sm → Res (List D)) (gt : D → Sm → Res Sm) (b : Sm → Out) : Sm → Out := fun δ => (it δ).out δ fun ds => forL gt b ds δ
def whL (t : Sm → Res Bool) (b : Sm → Out) : Nat → Sm → Out
  | 0, _ => .bad
  | n + 1, δ => (t δ).out δ fun c => if c = true then (match b δ with
      | .nx δ2 => whL t b n δ2
      | .ct δ2 => whL t b n δ2
      | .bk δ2 => .nx δ2
      | .rt r => .rt r
      | .xc c fs δ2 => .xc c fs δ2
      | .bad => .bad) else .nx δ
def mWhile (n : Nat) (t : Sm → Res Bool) (b : Sm → Out) : Sm → Out := fun δ => whL t b n δ
theorem Stt.rebase {g : G} {Hc H0c H0 H : Hp} {σ : St} {δ : Sm} (S : Stt g Hc H0c H0 H σ δ) : Stt g Hc H0 H0 H σ δ := ⟨S.own, S.s0, S.sc, Same.refl H0, fun _ _ h => h, fun _ _ h => h⟩
theorem Stt.unbase {g : G} {Hc H0c A H0 H H' : Hp} {σ σ' : St} {δ δ' : Sm} (S : Stt g Hc H0c A H σ δ) (S' : Stt g Hc A H0 H' σ' δ') : Stt g Hc H0c H0 H' σ' δ' := ⟨S'.own, S'.s0, S'.sc, S.s0c.trans S'.s0c, fun a h1 h2 => S'.fr a h1 (S.fr a h1 h2), fun a n h => S.nm a n (S'.nm a n h)⟩
theorem PostS.rebase {g : G} {W : WX} {Hc H0c A H : Hp} {σ : St} {δ : Sm} {E : Ends} {o : Out} (S : Stt g Hc H0c A H σ δ) (p : PostS g W Hc H0c E o) : PostS g W Hc A E o := by
  cases o with
  | nx δ' => exact fun σ' H0 H' S' => p σ' H0 H' (S.unbase S')
  | rt d => exact fun v H0 H' w r => p v H0 H' ⟨w.up, S.s0c.trans w.up0, w.sub, fun a h1 h2 => w.fr a h1 (S.fr a h1 h2), fun a n h => S.nm a n (w.nm a n h)⟩ r
  | bk δ' => exact fun σ' H0 H' S' => p σ' H0 H' (S.unbase S')
  | ct δ' => exact fun σ' H0 H' S' => p σ' H0 H' (S.unbase S')
  | xc c fs δ' => exact fun ad fvs σ' H0 H' S' q1 q2 => p ad fvs σ' H0 H' (S.unbase S') q1 q2
  | bad => exact p
section
variable {X : Cx} {ca : Str → Addr} {W : WX} {tg iter c : Expr} {it : Sm → Res (List D)} {gt : D → Sm → Res Sm} {m : Sm → Out} {t : Sm → Res Bool} {body : List Stmt} {tgr : TG} {vs : List Nat} {pos : Pos}
theorem pds_for (hp : PassesOwn (model X.prog X.w) X.A X.env X.xe) (hc : X.calm = true) (hi : PDI X ca W tg iter it) (hg : PG X tg tgr) (hgo : GOk ⟨X.K, ca, X.w⟩ vs tgr gt) (hb : PDSs X ca W body m) (hs : ∀ x, foldedSetIterable iter X.env x = pure x := by intro _; rfl) :
    PDS X ca W (.For tg iter body [] pos) (mFor it gt m) := by
  refine psI (ps_for hp hc hi hg hb hs) fun E σ H h => ?_
  obtain ⟨Hc, H0c, H0, δ, S, p⟩ := h
  refine Post.out S p fun J ds A B w S1 its p1 => ?_
  have p1' := PostS.rebase S1 p1
  refine ⟨fun i mm σ H => mm = ds.length - i ∧ i ≤ ds.length ∧ ∃ A1 δ1, Stt ⟨X.K, ca, X.w⟩ Hc A A1 H σ δ1 ∧ PostS ⟨X.K, ca, X.w⟩ W Hc A E (forL gt m (ds.drop i) δ1), ⟨ds.length, by omega, Nat.zero_le _, A, δ, S1.rebase, p1'⟩, ?_⟩
  rintro i mm σ2 H2 ⟨rfl, hi2, A1, δ1, S2, p2⟩
  by_cases hlt : i < ds.length
  · refine .inr ?_
    have e : ds[i]? = some ds[i] := List.getElem?_eq_getElem hlt
    obtain ⟨g1, g2⟩ := its.go i _ A1 H2 S2.s0c S2.s0 e
    refine ⟨g1, fun σ' H' => (ds.length - (i + 1)) = ds.length - (i + 1) ∧ i + 1 ≤ ds.length ∧ ∃ A1 δ1, Stt ⟨X.K, ca, X.w⟩ Hc A A1 H' σ' δ1 ∧ PostS ⟨X.K, ca, X.w⟩ W Hc A E (forL gt m (ds.drop (i + 1)) δ1), fun σ' H' z => ⟨_, by omega, z⟩, fun x H3 y => ?_⟩
    obtain ⟨A2, w2, r2⟩ := g2 x H3 y
    rw [List.drop_eq_getElem_cons hlt] at p2
    unfold forL at p2
    cases e1 : gt ds[i] δ1 with
    | ok δ2 =>
      rw [e1] at p2
      refine hgo Hc A A2 H3 σ2 δ1 x ds[i] δ2 _ (S2.grow w2) r2 e1 fun σ3 _ S3 => ?_
      refine ⟨Hc, A, A2, δ2, S3, ?_⟩
      cases e2 : m δ2 with
      | nx δ3 =>
        simp only [e2] at p2
        exact fun σ4 A4 H4 S4 => ⟨rfl, hlt, A4, δ3, S4, p2⟩
      | ct δ3 =>
        simp only [e2] at p2
        exact fun σ4 A4 H4 S4 => ⟨rfl, hlt, A4, δ3, S4, p2⟩
      | bk δ3 =>
        simp only [e2] at p2
        exact p2
      | rt d =>
        simp only [e2] at p2
        exact p2
      | xc c fs δ3 =>
        simp only [e2] at p2
        exact p2
      | bad =>
        simp only [e2] at p2
        exact p2
    | xc c fs => rw [e1] at p2; exact p2.elim
    | bad => rw [e1] at p2; exact p2.elim
  · refine .inl ⟨its.stop i H2 (.to S2.s0c S2.s0) (by omega), ?_⟩
    rw [List.drop_eq_nil_of_le (by omega)] at p2
    exact p2 σ2 A1 H2 S2
theorem pds_while (n : Nat) (hp : PassesOwn (model X.prog X.w) X.A X.env X.xe) (hc : PDT X ca W c t) (hb : PDSs X ca W body m) : PDS X ca W (.While c body [] pos) (mWhile n t m) := by
  refine psI (ps_while hp hc hb) fun E σ H h => ?_
  obtain ⟨Hc, H0c, H0, δ, S, p⟩ := h
  refine ⟨fun mm σ H => ∃ A δ, Stt ⟨X.K, ca, X.w⟩ Hc H0c A H σ δ ∧ PostS ⟨X.K, ca, X.w⟩ W Hc H0c E (whL t m mm δ), ⟨n, H0, δ, S, p⟩, ?_⟩
  rintro mm σ2 H2 ⟨A, δ2, S2, p2⟩
  cases mm with
  | zero => exact p2.elim
  | succ mm =>
    refine Post.out S2 p2 fun b b' A1 B1 w S3 r p3 => ?_
    cases r
    cases b with
    | true =>
      rw [if_pos rfl]
      simp only [if_true] at p3
      refine ⟨fun σ' H' => ∃ A δ, Stt ⟨X.K, ca, X.w⟩ Hc H0c A H' σ' δ ∧ PostS ⟨X.K, ca, X.w⟩ W Hc H0c E (whL t m mm δ), fun σ' H' z => ⟨mm, Nat.lt_succ_self _, z⟩, Hc, H0c, A1, δ2, S3, ?_⟩
      cases e2 : m δ2 with
      | nx δ3 =>
        rw [e2] at p3
        exact fun σ4 A4 H4 S4 => ⟨A4, δ3, S4, p3⟩
      | ct δ3 =>
        rw [e2] at p3
        exact fun σ4 A4 H4 S4 => ⟨A4, δ3, S4, p3⟩
      | bk δ3 => rw [e2] at p3; exact p3
      | rt d => rw [e2] at p3; exact p3
      | xc c fs δ3 => rw [e2] at p3; exact p3
      | bad => rw [e2] at p3; exact p3
    | false =>
      rw [if_neg (by decide)]
      exact p3 σ2 A1 B1 S3
def mPar (i j : Nat) (f : Sm → Res (List D)) : Sm → Out := fun δ => (f δ).out δ fun ds => match ds with
  | [x, y] => .nx ((δ.set i (.sh x)).set j (.sh y))
  | _ => .bad
theorem pds_par {i j : Nat} {x y : Str} {a b : Expr} {fl : Sm → Res (List D)} {px py pt : Pos} {kt k2 pt2} (hc : X.calm = true) (hN : X.N.Nodup) (hij : i ≠ j) (ha : PDA X ca W [a, b] fl) (hi : X.N[i]? = some x := by rfl) (hj : X.N[j]? = some y := by rfl)
    (hx : X.env.scope.names.lookup x = some .local := by rfl) (hy : X.env.scope.names.lookup y = some .local := by rfl)
    (hw : swappedStores [.Tuple [.Name x px, .Name y py] kt pt] (.Tuple [a, b] k2 pt2) X.env = pure (some [x, y]) := by rfl)
    (hs : swapsWithSole [.Tuple [.Name x px, .Name y py] kt pt] (.Tuple [a, b] k2 pt2) pos.line X.env = pure false := by rfl) :
    PDS X ca W (.Assign [.Tuple [.Name x px, .Name y py] kt pt] (.Tuple [a, b] k2 pt2) pos) (mPar i j fl) := by
  refine psI (ps_par hc hN hi hj hij hx hy ha hw hs) fun E σ H h => ?_
  obtain ⟨Hc, H0c, H0, δ, S, p⟩ := h
  refine Post.out S p fun xs ds A B w S1 r p1 => ?_
  cases r with
  | nil => exact p1.elim
  | cons q r =>
    cases r with
    | nil => exact p1.elim
    | cons q2 r =>
      cases r with
      | cons _ _ => exact p1.elim
      | nil => exact ⟨_, _, rfl, p1 _ A B ((S1.setSh q i).setSh q2 j)⟩
def mAsg (f : Sm → Res D) (gt : D → Sm → Res Sm) : Sm → Out := fun δ => (f δ).out δ fun d => match gt d δ with
  | .ok δ1 => .nx δ1
  | _ => .bad
end
end Pd

set_option Elab.async false
set_option linter.all false
set_option maxRecDepth 100000
set_option maxHeartbeats 4000000
namespace Pd
open PySem L2

def W0 : WX := fun _ _ _ _ => False
def hideO : O → O
  | .ol _ => .no
  | .ot _ _ => .no
  | o => o
def wipeD : List Nat → Sm → Sm
  | [], δ => δ
  | v :: vs, δ => (wipeD vs δ).set v .no
def lcL (gt : D → Sm → Res Sm) (t : Sm → Res Bool) (e : Sm → Res D) (δ0 : Sm) : List D → Res (List D)
  | [] => .ok []
  | d :: ds => match gt d δ0 with
    | .ok δ1 => match t δ1 with
      | .ok true => match e δ1 with
        | .ok r => match lcL gt t e δ0 ds with
          | .ok rs => .ok (r :: rs)
          | _ => .bad
        | _ => .bad
      | .ok false => lcL gt t e δ0 ds
      | _ => .bad
    | _ => .bad
def lcR (it : Sm → Res (List D)) (gt : D → Sm → Res Sm) (t : Sm → Res Bool) (e : Sm → Res D) (vs : List Nat) : Sm → Res (List D) := fun δ => (it δ).bind fun ds => if ds.length ≤ 16777216 then (match lcL gt t e ((wipeD vs δ).map hideO) ds with
  | .ok rs => .ok rs
  | _ => .bad) else .bad
def eLc (it : Sm → Res (List D)) (gt : D → Sm → Res Sm) (t : Sm → Res Bool) (e : Sm → Res D) (vs : List Nat) : Sm → Res D := fun δ => (lcR it gt t e vs δ).bind fun rs => .ok (.lst rs)
def tYesD : Sm → Res Bool := fun _ => .ok true
section
variable {g : G} {Hc H0c H0 H : Hp} {σ : St} {δ : Sm} {as : List Addr}
theorem Stt.wipe (S : Stt g Hc H0c H0 H σ δ) : ∀ vs : List Nat, Stt g Hc H0c H0 H (wipe σ vs) (wipeD vs δ)
  | [] => S
  | v :: vs => (Stt.wipe S vs).setNo none v
theorem Sls.hide (h : Sls g H0 H σ δ as) : Sls g H0 H σ (δ.map hideO) [] := by
  induction h with
  | nil => exact .nil
  | cons q r ih =>
    cases q with
    | no => exact Sls.cons (as := []) .no ih
    | sh q => exact Sls.cons (as := []) (.sh q) ih
    | ol q r => exact Sls.cons (as := []) .no ih
    | ot q r => exact Sls.cons (as := []) .no ih
end
theorem grow_frz {A B A' H' : Hp} {p : Addr} {xs : List V} (w : Grow A B A' H') (h1 : B p = none) (h2 : H' p = some (.lst xs)) (h3 : A' p = none) : Grow A B (upd A' p (.lst xs)) H' where
  up := w.up
  up0 := fun b u z => by
    have z2 := w.up0 b u z
    rw [upd_ne (ne_of_none z2 h3)]
    exact z2
  sub := fun b u z => by
    by_cases e : b = p
    · subst e
      rw [upd_same] at z
      rw [h2]
      exact .inl z
    · rw [upd_ne e] at z
      exact w.sub b u z
  fr := fun a ha h0 => by
    rw [upd_ne fun z => ha (by rw [z]; exact h1)]
    exact w.fr a ha h0
  nm := fun a n h => by
    by_cases e : a = p
    · subst e
      rw [upd_same] at h
      cases Option.some.inj h
    · rw [upd_ne e] at h
      exact w.nm a n h
structure Stb (g : G) (Hc H0c H0 H : Hp) (σ : St) (δ : Sm) : Prop where
  own : Sls g H0 H σ δ []
  s0 : Sub H0 H
  sc : Same Hc H
  s0c : Same H0c H0
  fr : ∀ a, Hc a ≠ none → H0c a = none → H0 a = none
  nm : ∀ a n, H0 a = some (cmk n) → H0c a = some (cmk n)
section
variable {g : G} {Hc H0c H0 H H0' H' : Hp} {σ : St} {δ : Sm}
theorem Stb.stt (S : Stb g Hc H0c H0 H σ δ) : Stt g Hc H0c H0 H σ δ := ⟨⟨[], S.own, List.nodup_nil, fun a ha => nomatch ha⟩, S.s0, S.sc, S.s0c, S.fr, S.nm⟩
theorem Stb.grow (S : Stb g Hc H0c H0 H σ δ) (w : Grow H0 H H0' H') : Stb g Hc H0c H0' H' σ δ := by
  have z := S.stt.grow w
  exact ⟨S.own.up w.up0 (fun a ha => nomatch ha), z.s0, z.sc, z.s0c, z.fr, z.nm⟩
theorem Stb.write {p : Addr} {o : HO} (S : Stb g Hc H0c H0 H σ δ) (h1 : Hc p = none) (h2 : H0 p = none) : Stb g Hc H0c H0 (upd H p o) σ δ :=
  ⟨S.own.up (Same.refl H0) (fun a ha => nomatch ha), S.s0.upd h2, fun b u z => by rw [upd_ne (ne_of_none z h1)]; exact S.sc b u z, S.s0c, S.fr, S.nm⟩
theorem Stt.blockb (S : Stt g Hc H0c H0 H σ δ) : Stb g H H0 H0 H σ (δ.map hideO) := by
  obtain ⟨as, h1, _⟩ := S.own
  exact ⟨h1.hide, S.s0, Same.refl H, Same.refl H0, fun _ _ h => h, fun _ _ h => h⟩
end
theorem lc_go {g : G} {vs : List Nat} {tgr : TG} {gt : D → Sm → Res Sm} {t : Sm → Res Bool} {fe : Sm → Res D} {A B : Hp} {J : It} {ds rs : List D} {Hc H0c : Hp} {σ : St} {δ : Sm} {p : Addr} {Qd : Hp → Prop} (hgo : GOk g vs tgr gt) (its : Its g A J ds) (S : Stt g Hc H0c A B σ δ)
    (he : lcL gt t fe ((wipeD vs δ).map hideO) ds = .ok rs) (hl : ds.length ≤ 16777216) (hp : B p = none) (hq : ∀ xs A' H', Grow A B A' H' → H' p = some (.lst xs) → A' p = none → RpA g A' xs rs → Qd H') :
    ∃ W : Nat → Nat → Hp → Prop, (∃ m, W 0 m (upd B p (.lst []))) ∧ ∀ i m H, W i m H →
      (J.stop i H ∧ Qd H) ∨ (J.go i H ∧ ∃ Nx : Hp → Prop, (∀ H', Nx H' → ∃ m', m' < m ∧ W (i + 1) m' H') ∧ ∀ x H', J.yld i H x H' → tgr x (wipe σ vs) H' fun σ2 H2 => wipe σ2 vs = wipe σ vs ∧ tDT g W0 t σ2 H2 fun b H3 =>
        if b = true then tD g W0 fe σ2 H3 fun y H4 => ∃ acc, H4 p = some (.lst acc) ∧ acc.length < sizeLine ∧ Nx (upd H4 p (.lst (acc ++ [y]))) else Nx H3) := by
  have Sw := (S.wipe vs).blockb
  generalize (wipeD vs δ).map hideO = δh at Sw he
  refine ⟨fun i m H => m = ds.length - i ∧ i ≤ ds.length ∧ ∃ A1 xs r0 r1, Stb g B A A1 H (wipe σ vs) δh ∧ A1 p = none ∧ H p = some (.lst xs) ∧ RpA g A1 xs r0 ∧ lcL gt t fe δh (ds.drop i) = .ok r1 ∧ r0 ++ r1 = rs ∧ r0.length ≤ i, ?_, ?_⟩
  · exact ⟨ds.length, by omega, Nat.zero_le _, A, [], [], rs, Sw.write hp (S.s0.free hp), S.s0.free hp, upd_same, .nil, he, rfl, Nat.le_refl _⟩
  · rintro i m H ⟨rfl, hi, A1, xs, r0, r1, S1, n1, hx, rx, e1, er, hr⟩
    by_cases hlt : i < ds.length
    · refine .inr ?_
      have e : ds[i]? = some ds[i] := List.getElem?_eq_getElem hlt
      obtain ⟨g1, g2⟩ := its.go i _ A1 H S1.s0c S1.s0 e
      refine ⟨g1, fun H' => (ds.length - (i + 1)) = ds.length - (i + 1) ∧ i + 1 ≤ ds.length ∧ ∃ A1 xs r0 r1, Stb g B A A1 H' (wipe σ vs) δh ∧ A1 p = none ∧ H' p = some (.lst xs) ∧ RpA g A1 xs r0 ∧ lcL gt t fe δh (ds.drop (i + 1)) = .ok r1 ∧ r0 ++ r1 = rs ∧ r0.length ≤ i + 1, fun H' z => ⟨_, by omega, z⟩, fun x H2 y => ?_⟩
      obtain ⟨A2, w2, r2⟩ := g2 x H2 y
      have S2 := S1.grow w2
      have hne : H p ≠ none := by rw [hx]; exact fun z => nomatch z
      have n2 := w2.fr p hne n1
      have hx2 := w2.up p _ hx
      rw [List.drop_eq_getElem_cons hlt] at e1
      unfold lcL at e1
      cases f1 : gt ds[i] δh with
      | ok δ1 =>
        simp only [f1] at e1
        refine hgo B A A2 H2 (wipe σ vs) δh x ds[i] δ1 _ S2.stt r2 f1 fun σ1 z1 S3 => ⟨z1.trans wipe_wipe, ?_⟩
        refine ⟨B, A, A2, δ1, S3, ?_⟩
        cases f2 : t δ1 with
        | ok b =>
          simp only [f2] at e1
          intro b' A3 H3 w3 eb
          have eb2 : b' = b := eb
          subst eb2
          have S4 := S2.grow w3
          have hne2 : H2 p ≠ none := by rw [hx2]; exact fun z => nomatch z
          have n3 := w3.fr p hne2 n2
          have hx3 := w3.up p _ hx2
          cases b' with
          | true =>
            rw [if_pos rfl]
            cases f3 : fe δ1 with
            | ok r =>
              simp only [f3] at e1
              refine ⟨B, A, A3, δ1, S3.grow w3, ?_⟩
              rw [f3]
              intro yv A4 H4 w4 ry
              have S5 := S4.grow w4
              have hne3 : H3 p ≠ none := by rw [hx3]; exact fun z => nomatch z
              have n4 := w4.fr p hne3 n3
              have hx4 := w4.up p _ hx3
              split at e1
              · rename_i rs' f4
                cases e1
                have rx4 := rx.mono ((w2.up0.trans w3.up0).trans w4.up0)
                refine ⟨xs, hx4, by rw [sizeLine_eq, rx.length]; omega, rfl, hlt, A4, xs ++ [yv], r0 ++ [r], rs', S5.write hp n4, n4, upd_same, rx4.append (.one ry), f4, ?_, ?_⟩
                · rw [List.append_assoc]
                  exact er
                · rw [List.length_append, List.length_singleton]
                  omega
              · cases e1
            | xc c fs => simp only [f3] at e1; cases e1
            | bad => simp only [f3] at e1; cases e1
          | false =>
            rw [if_neg (by decide)]
            exact ⟨rfl, hlt, A3, xs, r0, r1, S4, n3, hx3, rx.mono (w2.up0.trans w3.up0), e1, er, by omega⟩
        | xc c fs => simp only [f2] at e1; cases e1
        | bad => simp only [f2] at e1; cases e1
      | xc c fs => simp only [f1] at e1; cases e1
      | bad => simp only [f1] at e1; cases e1
    · refine .inl ⟨its.stop i H (.to S1.s0c S1.s0) (by omega), ?_⟩
      rw [List.drop_eq_nil_of_le (by omega)] at e1
      cases e1
      rw [List.append_nil] at er
      subst er
      exact hq xs A1 H ⟨S1.sc, S1.s0c, S1.s0, S1.fr, S1.nm⟩ hx n1 rx
section
variable {X : Cx} {ca : Str → Addr} {W : WX} {elt tg iter : Expr} {ifs : List Expr} {scope : Scope} {own : List (Str × Nat)} {it : Sm → Res (List D)} {gt : D → Sm → Res Sm} {t : Sm → Res Bool} {fe : Sm → Res D} {tgr : TG} {pos : Pos}
theorem pdts_nil : PTs X [] (tDT ⟨X.K, ca, X.w⟩ W tYesD) := ⟨fun pins s σ H Q I h => by
  obtain ⟨Hc, H0c, H0, δ, S, p⟩ := h
  exact (pts_nil (X := X)).run pins s σ H Q I (show Q true H from Post.now S p rfl)⟩
theorem pdts_one {c : Expr} (h : PDT X ca W c t) : PTs X [c] (tDT ⟨X.K, ca, X.w⟩ W t) := pts_one h
theorem lcR_out {β : Type} {g : G} {σ : St} {Hc H0c H0 H : Hp} {δ : Sm} {vs : List Nat} {P : It → Hp → Prop} {R : Prop}
    (S : Stt g Hc H0c H0 H σ δ) {rs : List D} (e : lcR it gt t fe vs δ = .ok rs) : ∃ ds, it δ = .ok ds ∧ ds.length ≤ 16777216 ∧ lcL gt t fe ((wipeD vs δ).map hideO) ds = .ok rs := by
  unfold lcR at e
  cases e1 : it δ with
  | ok ds =>
    rw [e1] at e
    have e' : (if ds.length ≤ 16777216 then (match lcL gt t fe ((wipeD vs δ).map hideO) ds with | .ok rs => .ok rs | _ => .bad) else .bad) = Res.ok rs := e
    by_cases z : ds.length ≤ 16777216
    · rw [if_pos z] at e'
      refine ⟨ds, rfl, z, ?_⟩
      split at e'
      · rename_i rs' f
        cases e'
        exact f
      · cases e'
    · rw [if_neg z] at e'
      cases e'
  | xc c fs => rw [e1] at e; cases e
  | bad => rw [e1] at e; cases e
theorem lc_read {g : G} {vs : List Nat} {σ : St} {Hc H0c H0 H : Hp} {δ : Sm} {Q : VK} (hgo : GOk g vs tgr gt) (S : Stt g Hc H0c H0 H σ δ)
    (hx : ∀ c fs, it δ = .xc c fs → ∀ ad fvs A B, Grow H0 H A B → B ad = some (.xd fvs) → FR g A fvs fs → W (.ref (g.ca c)) (some ad) σ B)
    (hb : ∀ ds, it δ = .ok ds → ∃ rs, lcR it gt t fe vs δ = .ok rs ∧ ∀ p xs A B H', Grow H0 H A B → B p = none → ∀ A', Grow A B A' H' → H' p = some (.lst xs) → A' p = none → RpA g A' xs rs → Q (.ref p) H')
    (hn : it δ ≠ .bad) : tLc (tG g W (Its g) it) tgr (tDT g W0 t) (tD g W0 fe) vs σ H Q := by
  refine ⟨Hc, H0c, H0, δ, S, ?_⟩
  cases e : it δ with
  | ok ds =>
    intro J A B w its p hp
    obtain ⟨rs, e1, k⟩ := hb ds e
    obtain ⟨ds', f1, f2, f3⟩ := lcR_out (β := Unit) (P := fun _ _ => True) (R := True) S e1
    rw [e] at f1
    cases f1
    exact lc_go hgo its (S.grow w) f3 f2 hp fun xs A' H' w2 h1 h2 h3 => k p xs A B H' w hp A' w2 h1 h2 h3
  | xc c fs => exact hx c fs e
  | bad => exact absurd e hn
theorem lcR_xc {vs : List Nat} {δ : Sm} {c : Str} {fs : List (Str × D)} (h : it δ = .xc c fs) : lcR it gt t fe vs δ = .xc c fs := by
  unfold lcR
  rw [h]
  rfl
theorem lcR_bad {vs : List Nat} {δ : Sm} (h : it δ = .bad) : lcR it gt t fe vs δ = .bad := by
  unfold lcR
  rw [h]
  rfl
theorem lcR_ok {vs : List Nat} {δ : Sm} {ds : List D} (h : it δ = .ok ds) : lcR it gt t fe vs δ = .bad ∨ ∃ rs, lcR it gt t fe vs δ = .ok rs := by
  have e : lcR it gt t fe vs δ = if ds.length ≤ 16777216 then (match lcL gt t fe ((wipeD vs δ).map hideO) ds with | .ok rs => .ok rs | _ => .bad) else .bad := by
    unfold lcR
    rw [h]
    rfl
  rw [e]
  split
  · split
    · exact .inr ⟨_, rfl⟩
    · exact .inl rfl
  · exact .inl rfl
theorem lc_post {g : G} {vs : List Nat} {σ : St} {H : Hp} {Q : VK} (hgo : GOk g vs tgr gt) (h : tD g W (eLc it gt t fe vs) σ H Q) : tLc (tG g W (Its g) it) tgr (tDT g W0 t) (tD g W0 fe) vs σ H Q := by
  obtain ⟨Hc, H0c, H0, δ, S, p⟩ := h
  unfold eLc at p
  refine lc_read hgo S (fun c fs e => ?_) (fun ds e => ?_) (fun e => ?_)
  · rw [lcR_xc e] at p
    exact p
  · rcases lcR_ok (gt := gt) (t := t) (fe := fe) (vs := vs) e with z | ⟨rs, z⟩
    · rw [z] at p
      exact p.elim
    · rw [z] at p
      refine ⟨rs, z, fun q xs A B H' w hp A' w2 h1 h2 h3 => ?_⟩
      have w3 := grow_frz w2 hp h1 h2
      exact p (.ref q) _ H' (w.trans w3) (.lst (.inl upd_same) (h3.mono fun b u y => by rw [upd_ne (ne_of_none y h2)]; exact y))
  · rw [lcR_bad e] at p
    exact p.elim
theorem pd_lc (hc : X.calm = true) (hN : X.N.Nodup) (hi : PDI X ca W tg iter it) (ok : BlkOk X.N X.env.scope scope own) (hgo : GOk ⟨X.K, ca, X.w⟩ (own.map (·.2)) tgr gt)
    (hg : ∀ (s : Shared) (H : Hp) (C : Addr) (cl : List (Str × Addr)) (fp : List Addr), PG (X.blk s H scope (compEnvC scope cl C X.env) fp) tg tgr)
    (ht : ∀ (s : Shared) (H : Hp) (C : Addr) (cl : List (Str × Addr)) (fp : List Addr), PTs (X.blk s H scope (compEnvC scope cl C X.env) fp) ifs (tDT ⟨X.K, ca, X.w⟩ W0 t))
    (he : ∀ (s : Shared) (H : Hp) (C : Addr) (cl : List (Str × Addr)) (fp : List Addr), PD (X.blk s H scope (compEnvC scope cl C X.env) fp) ca W0 elt fe) (hs : ∀ x, foldedSetIterable iter X.env x = pure x := by intro _; rfl) :
    PD X ca W (.ListComp elt [⟨tg, iter, ifs, 0⟩] scope pos) (eLc it gt t fe (own.map (·.2))) :=
  peI (pe_lc (te := tD ⟨X.K, ca, X.w⟩ W0 fe) hc hN hi ok hg ht he hs) fun σ H Q h => lc_post hgo h
theorem pds_setLc (i : Nat) {y : Str} {py spos : Pos} (hc : X.calm = true) (hN : X.N.Nodup) (hi : PDI X ca W tg iter it) (ok : BlkOk X.N X.env.scope scope own) (hgo : GOk ⟨X.K, ca, X.w⟩ (own.map (·.2)) tgr gt)
    (hg : ∀ (s : Shared) (H : Hp) (C : Addr) (cl : List (Str × Addr)) (fp : List Addr), PG (X.blk s H scope (compEnvC scope cl C X.env) fp) tg tgr)
    (ht : ∀ (s : Shared) (H : Hp) (C : Addr) (cl : List (Str × Addr)) (fp : List Addr), PTs (X.blk s H scope (compEnvC scope cl C X.env) fp) ifs (tDT ⟨X.K, ca, X.w⟩ W0 t))
    (he : ∀ (s : Shared) (H : Hp) (C : Addr) (cl : List (Str × Addr)) (fp : List Addr), PD (X.blk s H scope (compEnvC scope cl C X.env) fp) ca W0 elt fe)
    (hsw : swapsWith (.ListComp elt [⟨tg, iter, ifs, 0⟩] scope pos) (some (.Name y py)) spos.line X.env = pure true)
    (hy : X.N[i]? = some y := by rfl) (hyl : X.env.scope.names.lookup y = some .local := by rfl) (hs : ∀ x, foldedSetIterable iter X.env x = pure x := by intro _; rfl) :
    PDS X ca W (.Assign [.Name y py] (.ListComp elt [⟨tg, iter, ifs, 0⟩] scope pos) spos) (mSet i (eLc it gt t fe (own.map (·.2)))) := by
  refine psI (ps_setLc (te := tD ⟨X.K, ca, X.w⟩ W0 fe) hc hN hy hyl hsw hi ok hg ht he hs) fun E σ H h => ?_
  obtain ⟨Hc, H0c, H0, δ, S, p⟩ := h
  have q : tD ⟨X.K, ca, X.w⟩ W (eLc it gt t fe (own.map (·.2))) σ H (fun x B => E.nx (σ.set i (some x)) B) := Post.out S p fun x b A B w S1 r p1 => p1 _ A B (S1.setSh r i)
  exact lc_post hgo q
def mSetLcL (i : Nat) (it : Sm → Res (List D)) (gt : D → Sm → Res Sm) (t : Sm → Res Bool) (e : Sm → Res D) (vs : List Nat) : Sm → Out := fun δ => (lcR it gt t e vs δ).out δ fun rs => .nx (δ.set i (.ol rs))
end
end Pd

set_option Elab.async false
set_option linter.all false
set_option maxRecDepth 100000
set_option maxHeartbeats 4000000
namespace Pd
open PySem L2

section
variable {X : Cx} {ca : Str → Addr} {W : WX} {a b c : Expr} {fa fb fc : Sm → Res D} {es : List Expr} {fl : Sm → Res (List D)} {pos p p2 : Pos} {x : Str}
theorem pd_callB {id : String} {r : List V → Hp → VK → Prop} {k : List D → Res D} (hc : CallR X (.builtin id) r) (hk : KN ⟨X.K, ca, X.w⟩ r k) (hm : X.mg x = none) (hv : bootBuiltins x = some (.builtin id)) (ha : PDA X ca W (a :: es) fl) (hg : Gl X x := by rfl) (hn : x ≠ "__name__" := by decide) (hdb : (x == ("__debug__" : Str)) = false := by decide)
    (he : starEach (a :: es) X.env = (false, eval a X.env) :: starEach es X.env := by rfl) (hpl : (backTo pos (starEach es X.env)).any (·.1) = false := by rfl) : PD X ca W (.Call (.Name x p) (a :: es) [] pos) (eA k fl) :=
  peI (pe_callB hc hg hm hv ha hn hdb he hpl) fun σ H Q h => many hk h
def kAbs : List D → Res D
  | [.int i] => .ok (.int (if i < 0 then -i else i))
  | _ => .bad
def kLen : List D → Res D
  | [.lst ds] => .ok (.int ds.length)
  | [.tup ds] => .ok (.int ds.length)
  | [.str z] => if z.length ≤ 16777216 then .ok (.int z.length) else .bad
  | _ => .bad
theorem kn_abs : KN ⟨X.K, ca, X.w⟩ (fun xs H Q => ∃ i, xs = [.int i] ∧ Q (.int (if i < 0 then -i else i)) H) kAbs := by
  intro W σ δ Hc H0c H0 H xs as Q S r p
  cases r with
  | nil => exact p.elim
  | cons q r =>
    cases r with
    | nil =>
      cases q with
      | int i => exact ⟨i, rfl, Post.now S p (.int _)⟩
      | _ => exact p.elim
    | cons _ _ => cases q <;> exact p.elim
theorem kn_len : KN ⟨X.K, ca, X.w⟩ (fun xs H Q => ∃ x n, xs = [x] ∧ LenV X.K x H n ∧ Q (.int n) H) kLen := by
  intro W σ δ Hc H0c H0 H xs as Q S r p
  cases r with
  | nil => exact p.elim
  | cons q r =>
    cases r with
    | nil =>
      cases q with
      | @lst a vs ds q r => exact ⟨.ref a, ds.length, rfl, .inl ⟨vs, .inl (rdL_in S.s0 q), r.length.symm⟩, Post.now S p (.int _)⟩
      | @tup a vs ds q r => exact ⟨.ref a, ds.length, rfl, .inr ⟨vs, sqT_in S.s0 q, r.length.symm⟩, Post.now S p (.int _)⟩
      | str z =>
        have p' : Post ⟨X.K, ca, X.w⟩ W σ H0 H (Rp ⟨X.K, ca, X.w⟩) Q (if z.length ≤ 16777216 then .ok (.int z.length) else .bad) := p
        by_cases y : z.length ≤ 16777216
        · rw [if_pos y] at p'
          exact ⟨.str z, z.length, rfl, ⟨szl y, rfl⟩, Post.now S p' (.int _)⟩
        · rw [if_neg y] at p'
          exact p'.elim
      | _ => exact p.elim
    | cons _ _ => cases q <;> exact p.elim
theorem pd_abs (hm : X.mg "abs" = none) (ha : PDA X ca W [a] fl) (hg : Gl X "abs" := by rfl) (he : starEach [a] X.env = (false, eval a X.env) :: starEach [] X.env := by rfl) : PD X ca W (.Call (.Name "abs" p) [a] [] pos) (eA kAbs fl) := pd_callB call_abs kn_abs hm (by decide +kernel) ha hg (by decide) (by decide) he
theorem pd_len (hm : X.mg "len" = none) (ha : PDA X ca W [a] fl) (hg : Gl X "len" := by rfl) (he : starEach [a] X.env = (false, eval a X.env) :: starEach [] X.env := by rfl) : PD X ca W (.Call (.Name "len" p) [a] [] pos) (eA kLen fl) := pd_callB call_len kn_len hm (by decide +kernel) ha hg (by decide) (by decide) he
def bools : List D → Res (List Bool)
  | [] => .ok []
  | .bl b :: ds => (bools ds).bind fun bs => .ok (b :: bs)
  | _ :: _ => .bad
theorem bools_rp {g : G} {H : Hp} : ∀ {vs : List V} {ds : List D} {bs : List Bool}, RpA g H vs ds → bools ds = .ok bs → vs = bs.map V.bl
  | _, _, bs, .nil, e => by
    cases e
    rfl
  | _, _, bs, .cons q r, e => by
    cases q with
    | @bl b =>
      rename_i vs ds
      have e' : (bools ds).bind (fun bs => .ok (b :: bs)) = .ok bs := e
      cases e1 : bools ds with
      | ok bs1 =>
        rw [e1] at e'
        cases e'
        rw [bools_rp r e1]
        rfl
      | xc c fs => rw [e1] at e'; cases e'
      | bad => rw [e1] at e'; cases e'
    | _ => cases e
def kAll : List D → Res D
  | [.lst ds] => (bools ds).bind fun bs => .ok (.bl (bs.all id))
  | _ => .bad
def kAny : List D → Res D
  | [.lst ds] => (bools ds).bind fun bs => .ok (.bl (bs.any id))
  | _ => .bad
theorem bools_noxc : ∀ (ds : List D) (c : Str) (fs : List (Str × D)), bools ds ≠ .xc c fs
  | [], c, fs, h => by cases h
  | d :: ds, c, fs, h => by
    cases d with
    | bl b =>
      have h' : (bools ds).bind (fun bs => .ok (b :: bs)) = .xc c fs := h
      cases e1 : bools ds with
      | ok bs => rw [e1] at h'; cases h'
      | xc c1 fs1 => exact bools_noxc ds c1 fs1 e1
      | bad => rw [e1] at h'; cases h'
    | _ => cases h
theorem kn_all : KN ⟨X.K, ca, X.w⟩ (rAll X.K) kAll := by
  intro W σ δ Hc H0c H0 H xs as Q S r p
  cases r with
  | nil => exact p.elim
  | cons q r =>
    cases r with
    | nil =>
      cases q with
      | @lst a vs ds q r =>
        have p' : Post ⟨X.K, ca, X.w⟩ W σ H0 H (Rp ⟨X.K, ca, X.w⟩) Q ((bools ds).bind fun bs => .ok (.bl (bs.all id))) := p
        cases e : bools ds with
        | ok bs =>
          rw [e] at p'
          have z := bools_rp r e
          subst z
          exact ⟨a, bs, rfl, .inl (rdL_in S.s0 q), Post.now S p' (.bl _)⟩
        | xc c fs => exact absurd e (bools_noxc ds c fs)
        | bad => rw [e] at p'; exact p'.elim
      | _ => exact p.elim
    | cons _ _ => cases q <;> exact p.elim
theorem pd_all (hc : X.calm = true) (hm : X.mg "all" = none) (ha : PDA X ca W [a] fl) (hg : Gl X "all" := by rfl) (he : starEach [a] X.env = (false, eval a X.env) :: starEach [] X.env := by rfl) : PD X ca W (.Call (.Name "all" p) [a] [] pos) (eA kAll fl) := pd_callB (cr_all hc) kn_all hm (by decide +kernel) ha hg (by decide) (by decide) he
inductive BT where
  | int | str | bool | list | tuple
def BT.nm : BT → String
  | .int => "int"
  | .str => "str"
  | .bool => "bool"
  | .list => "list"
  | .tuple => "tuple"
def isD : BT → D → Option Bool
  | _, .obj _ _ _ => none
  | _, .scr _ => none
  | _, .loc _ => none
  | _, .dct _ _ => none
  | _, .dtt _ _ => none
  | _, .clo _ => none
  | .int, .int _ => some true
  | .int, .bl _ => some true
  | .str, .str _ => some true
  | .bool, .bl _ => some true
  | .list, .lst _ => some true
  | .tuple, .tup _ => some true
  | _, _ => some false
def kIsi (T : BT) (d : D) : Res D := match isD T d with
  | some b => .ok (.bl b)
  | none => .bad
def tyN : D → String
  | .non => "NoneType"
  | .bl _ => "bool"
  | .int _ => "int"
  | .str _ => "str"
  | .lst _ => "list"
  | .tup _ => "tuple"
  | .obj _ _ _ => "object"
  | .scr _ => "object"
  | .loc _ => "object"
  | .dct _ _ => "object"
  | .dtt _ _ => "object"
  | .clo _ => "object"
theorem kit_is (K : PySem.W.Frag) (T : BT) (d : D) (b : Bool) (h : isD T d = some b) : PySem.W.kitOne K (.type (tyN d)) (.type T.nm) = some b := by
  cases d <;> cases T <;> first | (cases h; done) | (simp only [tyN, BT.nm]; cases h; exact kit_ty (by decide +kernel))
theorem ty_rp {K : PySem.W.Frag} {w : World} {H0 H : Hp} {v : V} {d : D} (s : Sub H0 H) (h : Rp ⟨K, ca, w⟩ H0 v d) (ho : isD .int d ≠ none) : TyX K H v (.type (tyN d)) := by
  cases h with
  | non => exact .base .non
  | bl b => exact .base (.bl b)
  | int i => exact .base (.int i)
  | str x => exact .base (.str x)
  | lst q r =>
    rcases rdL_in s q with q | ⟨o, q⟩
    · exact .base (.lst q)
    · exact .base (.frz q)
  | tup q r =>
    rcases sqT_in s q with (q | ⟨o, q⟩) | ⟨o, its, n, h1, h2, _⟩
    · exact .base (.tup q)
    · exact .fTuple q
    · exact .kTuple h1 h2
  | obj q r => exact absurd rfl ho
  | scr q => exact absurd rfl ho
  | loc q => exact absurd rfl ho
  | dcK q _ _ => exact absurd rfl ho
  | dtt q _ _ _ _ _ => exact absurd rfl ho
  | clo _ _ _ _ _ _ => exact absurd rfl ho
theorem pd_isi (T : BT) {tn : Str} (hm : X.mg "isinstance" = none) (ht : X.mg tn = none) (hv : bootBuiltins tn = some (.type T.nm)) (ha : PD X ca W a fa) (hg : Gl X "isinstance" := by rfl) (hg2 : Gl X tn := by rfl) (hn2 : tn ≠ "__name__" := by decide) (hd2 : (tn == ("__debug__" : Str)) = false := by decide)
    (hs : starEach [a, .Name tn p2] X.env = (false, eval a X.env) :: starEach [.Name tn p2] X.env := by rfl) (hs2 : starEach [.Name tn p2] X.env = (false, eval (.Name tn p2) X.env) :: starEach [] X.env := by rfl) (hpl : (backTo pos (starEach [.Name tn p2] X.env)).any (·.1) = false := by rfl) :
    PD X ca W (.Call (.Name "isinstance" p) [a, .Name tn p2] [] pos) (e1 (kIsi T) fa) := by
  have h2 : PE X (.Name tn p2) (tC (.ty T.nm)) := pe_bltn hg2 ht hv rfl hn2 hd2
  have hA : PA X [a, .Name tn p2] (tCons (tD ⟨X.K, ca, X.w⟩ W fa) (tCons (tC (.ty T.nm)) tNil)) := pa_cons ha (pa_cons h2 pa_nil hs2) hs
  refine peI (pe_callB call_isi hg hm (by decide +kernel) hA (by decide) (by decide) hs hpl) fun σ H Q h => ?_
  obtain ⟨Hc, H0c, H0, δ, S, p⟩ := h
  refine Post.bind S p fun x d A B w S1 r p1 => ?_
  unfold kIsi at p1
  cases e : isD T d with
  | none => rw [e] at p1; exact p1.elim
  | some b =>
    rw [e] at p1
    have ho : isD .int d ≠ none := by
      intro z
      cases d with
      | obj C ns xs => cases T <;> cases e
      | scr ns => cases T <;> cases e
      | loc n => cases T <;> cases e
      | dct ks vs => cases T <;> cases e
      | dtt ks vs => cases T <;> cases e
      | clo i => cases T <;> cases e
      | _ => cases z
    exact ⟨x, .ty T.nm, .type (tyN d), .type T.nm, b, rfl, .ty _, ty_rp S1.s0 r ho, kit_is X.K T d b e, Post.now S1 p1 (.bl _)⟩
end

def cutD (xs : List D) (lo hi : Option Int) : List D := (xs.drop (HT.sIx xs.length 0 lo)).take (HT.sIx xs.length xs.length hi - HT.sIx xs.length 0 lo)
theorem cut_rp {g : G} {H : Hp} {vs : List V} {ds : List D} (r : RpA g H vs ds) (lo hi : Option Int) : RpA g H (cutV vs lo hi) (cutD ds lo hi) := by
  unfold cutV cutD
  rw [r.length]
  exact (r.drop _).take _
def oNone : Sm → Res (Option Int) := fun _ => .ok none
def oSome (f : Sm → Res D) : Sm → Res (Option Int) := fun δ => (f δ).bind fun d => match d with
  | .int i => .ok (some i)
  | _ => .bad
def kSlL (d : D) (lo hi : Option Int) : Res D := match d with
  | .lst ds => .ok (.lst (cutD ds lo hi))
  | .scr ns => .ok (.lst (cutD (ns.map D.int) lo hi))
  | _ => .bad
def kSlS (d : D) (lo hi : Option Int) : Res D := match d with
  | .str z => if z.length ≤ 16777216 then .ok (.str (cutS z lo hi)) else .bad
  | _ => .bad
def kSlT (d : D) (lo hi : Option Int) : Res D := match d with
  | .tup ds => if HT.sIx ds.length 0 lo = 0 ∧ HT.sIx ds.length ds.length hi = ds.length then .bad else .ok (.tup (cutD ds lo hi))
  | _ => .bad
def eSl (k : D → Option Int → Option Int → Res D) (f : Sm → Res D) (lo hi : Sm → Res (Option Int)) : Sm → Res D := fun δ => (f δ).bind fun d => (lo δ).bind fun l => (hi δ).bind fun h => k d l h
def rCatS : R2 := fun x y H Q => ∃ l b xs zs, x = .ref l ∧ y = .ref b ∧ Rd H l (.lst xs) ∧ Rd H b (.lst zs) ∧ xs.length + zs.length ≤ sizeLine ∧ ∀ p, H p = none → Q (.ref p) (upd H p (.lst (xs ++ zs)))
def kCat : D → D → Res D
  | .lst xs, .lst ys => if xs.length + ys.length ≤ 16777216 then .ok (.lst (xs ++ ys)) else .bad
  | _, _ => .bad
def kCatStr : D → D → Res D
  | .str x, .str y => if x.length + y.length ≤ 16777216 then .ok (.str (x ++ y)) else .bad
  | _, _ => .bad
def kCatT : D → D → Res D
  | .tup xs, .tup ys => if xs ≠ [] ∧ xs.length + ys.length ≤ 16777216 then .ok (.tup (xs ++ ys)) else .bad
  | _, _ => .bad
section
variable {X : Cx} {ca : Str → Addr} {W : WX} {a b : Expr} {fa fb : Sm → Res D} {lo hi : Option Expr} {fo fh : Sm → Res (Option Int)} {pos p2 : Pos}
theorem pdo_none : PDO X ca W none oNone := poI po_none fun σ H Q ⟨Hc, H0c, H0, δ, S, p⟩ => Post.now S p rfl
theorem pdo_some (h : PD X ca W a fa) : PDO X ca W (some a) (oSome fa) := by
  refine poI (po_some h) fun σ H Q h => ?_
  obtain ⟨Hc, H0c, H0, δ, S, p⟩ := h
  refine Post.bind S p fun x d A B w S1 r p1 => ?_
  cases r with
  | int i => exact ⟨i, rfl, Post.now S1 p1 rfl⟩
  | _ => exact p1.elim
theorem pd_slice {r : V → Option Int → Option Int → Hp → VK → Prop} {k : D → Option Int → Option Int → Res D} (hr : SlR X r)
    (hk : ∀ (W : WX) (σ : St) (δ : Sm) (Hc H0c H0 H : Hp) (x : V) (d : D) (l h : Option Int) (Q : VK), Stt ⟨X.K, ca, X.w⟩ Hc H0c H0 H σ δ → Rp ⟨X.K, ca, X.w⟩ H0 x d → Post ⟨X.K, ca, X.w⟩ W σ H0 H (Rp ⟨X.K, ca, X.w⟩) Q (k d l h) → r x l h H Q)
    (ha : PD X ca W a fa) (hl : PDO X ca W lo fo) (hu : PDO X ca W hi fh) : PD X ca W (.Subscript a (.Slice lo hi none p2) pos) (eSl k fa fo fh) := by
  refine peI (pe_slice hr ha hl hu) fun σ H Q h => ?_
  obtain ⟨Hc, H0c, H0, δ, S, p⟩ := h
  refine Post.bind S p fun x d A B w S1 r1 p1 => ?_
  refine Post.bind S1 p1 fun l l' A2 B2 w2 S2 r2 p2 => ?_
  cases r2
  refine Post.bind S2 p2 fun h h' A3 B3 w3 S3 r3 p3 => ?_
  cases r3
  exact hk W σ δ Hc H0c A3 B3 x d l h Q S3 (r1.mono (w2.up0.trans w3.up0)) p3
theorem pd_sliceL (ha : PD X ca W a fa) (hl : PDO X ca W lo fo) (hu : PDO X ca W hi fh) : PD X ca W (.Subscript a (.Slice lo hi none p2) pos) (eSl kSlL fa fo fh) := by
  refine pd_slice sl_list (fun W σ δ Hc H0c H0 H x d l h Q S rx p => ?_) ha hl hu
  cases rx with
  | @lst a vs ds q r => exact ⟨a, vs, rfl, .inl (rdL_in S.s0 q), fun p1 hp => Post.new S p hp (.lst (.inl upd_same) ((cut_rp r l h).mono (Grow.new S.s0 hp).up0))⟩
  | @scr a ns q => exact ⟨a, _, rfl, sqL_in S.s0 q, fun p1 hp => Post.new S p hp (.lst (.inl upd_same) (cut_rp (RpA.mapInt ns) l h))⟩
  | _ => exact p.elim
theorem op_catS : OpR X (binaryOp .Add) rCatS := by
  intro pins s σ H x y v u Q I rx ry h
  obtain ⟨l, b, xs, zs, rfl, rfl, hH, hB, hz, q⟩ := h
  cases rx
  cases ry
  obtain ⟨z1, i1, n1, r1, e1⟩ := hH.ok I.hok
  obtain ⟨z2, i2, n2, r2, e2⟩ := hB.ok I.hok
  have l1 := r1.length
  have l2 := r2.length
  refine PySem.P.add_list e1 e2 ?_ (by rw [List.size_toArray, List.size_toArray]; omega)
  have ea : i1.toArray ++ i2.toArray = (i1 ++ i2).toArray := by simp
  rw [ea]
  exact ⟨.ref _, _, I.lnew (t' := s.toks) (r1.append r2) (by rw [List.length_append]; omega), rfl, q _ I.fresh⟩
theorem pd_cat (ha : PD X ca W a fa) (hb : PD X ca W b fb) : PD X ca W (.BinOp a .Add b pos) (e2 kCat fa fb) := by
  refine pd_op op_catS (fun W σ δ Hc H0c H0 H x y d e Q S rx ry p => ?_) ha hb
  cases rx with
  | @lst a vs ds q r =>
    cases ry with
    | @lst b ws es q2 r2 =>
      have p' : Post ⟨X.K, ca, X.w⟩ W σ H0 H (Rp ⟨X.K, ca, X.w⟩) Q (if ds.length + es.length ≤ 16777216 then .ok (.lst (ds ++ es)) else .bad) := p
      by_cases y : ds.length + es.length ≤ 16777216
      · rw [if_pos y] at p'
        exact ⟨a, b, vs, ws, rfl, rfl, rdL_in S.s0 q, rdL_in S.s0 q2, szl (by rw [r.length, r2.length]; exact y), fun p1 hp => Post.new S p' hp (.lst (.inl upd_same) ((r.append r2).mono (Grow.new S.s0 hp).up0))⟩
      · rw [if_neg y] at p'
        exact p'.elim
    | _ => exact p.elim
  | _ => cases ry <;> exact p.elim
end
end Pd

set_option Elab.async false
set_option linter.all false
set_option maxRecDepth 100000
set_option maxHeartbeats 4000000
namespace Pd
open PySem L2
variable {vn : Bool}
section
open PySem.W PySem.HandSPX Builtin Builtin.ObjectAttr
variable {prog : Program} {w : World} {A : Around} {E : Value → Shared → Prop} {R : Result → Shared → Prop} {hp : Heap} {g : Array GenState} {d : Drawn} {t : Nat} {os : OsState} {B : String} {bm : List Value}
theorem osaNew {K : Frag} {name : Str} {tk : Tok} {v : Value} {x C : Addr} {fv : Array Value} {cd : ClassData} (SF : PySem.StoreFacts B bm "object.__setattr__" "object")
    (X : K.In hp) (hx : hp.get? x = some { cls := .ref C, data := .fields fv }) (hcd : clsIn K C = some cd) (hm : cd.mro = .ref C :: bm) (hh : cd.hasDict = true) (hob : bm.contains (.type "object") = true) (ha : findIn K (.ref C) name = some none)
    (hq : ∀ h' tk' dx, (∀ b o, b ≠ x → hp.get? b = some o → h'.get? b = some o) → hp.objs.size ≤ dx → dx ≠ x → h'.get? x = some { cls := .ref C, dict := some dx, data := .fields fv } →
      h'.Ns1 dx (fun y => if y = name then some v else none) → R (.ok (.ret .none)) ⟨h', g, d, tk', os⟩) :
    codeAny (model prog w) A (.call (.builtin "object.__setattr__") ⟨[.ref x, .str name tk, v], []⟩) R ⟨hp, g, d, t, os⟩ := by
  have I : InstAt hp x { cls := .ref C, data := .fields fv } C none := ⟨hx, rfl, rfl, trivial⟩
  have SO := F.store_object
  have ne : cd.mro.isEmpty = false := by rw [hm]; rfl
  have hob2 : cd.mro.contains (.type "object") = true := by rw [hm, List.contains_cons, hob, Bool.or_true]
  have hxs : x ≠ hp.objs.size := Nat.ne_of_lt (Heap.lt_size hx)
  have sub : Looks (model prog w) hp (isInstance (.ref x) (.type "object")) true := I.type.andThen (looks_mroIn X (by unfold mroIn; rw [hcd, Option.bind_some, if_neg (by rw [ne]; decide), hob2]))
  refine codeAny_call_builtin SO.slot.plain SO.entry (@check_slot (model prog w) _ _ ⟨hp, g, d, t, os⟩ "object.__setattr__" "object" "__setattr__" (.ref x) [.str name tk, v] [] _ SO.kind SO.split sub (SO.args (.ref x) (.str name tk) v) ?_)
  have hmr : Looks (model prog w) hp (mroOf (.ref C)) cd.mro := (looks_clsIn X hcd).andThen .now
  have L3 : Looks (model prog w) hp (storeTaker? none) none := .now
  have hcls : Looks (model prog w) hp (classData C) cd := looks_clsIn X hcd
  rw [osa_eq, refuse_eq]
  refine wpAny_bind (wpAny_bind (I.type.at (wpAny_bind (hmr.at ?_))))
  rw [hm, refuseLoop_ref, SF.passes]
  refine wpAny_pure (wpAny_bind (I.type.at (wpAny_bind ((looks_findIn X ha).at (wpAny_bind (L3.at ?_))))))
  show wpAny _ _ (storeInOwnDict (.ref x) (.ref C) (.str name tk) name v false) _ _ _
  obtain ⟨nm, bs, mro, ns, qn, hd, sn, sb, ab, col, del⟩ := cd
  dsimp only at hh
  subst hh
  unfold storeInOwnDict ownDictForStores
  repeat (first | with_reducible refine store_in_new ?_ ?_ | with_reducible refine wpAny_loadPart_at hx ?_ | with_reducible refine hcls.at ?_ | wp_step)
  · exact ⟨_, #[], _, (Heap.get?_update_ne _ _ _ _ hxs.symm).trans (Heap.get?_push_at rfl rfl), rfl, fun e he => absurd he (by simp), fun _ => rfl⟩
  · intro h' tk' hn' hs
    have hx1 : (hp.push { cls := .type "dict", data := .dict #[] }).get? x = some { cls := .ref C, data := .fields fv } := Heap.get?_push_of_some _ hx
    refine hq h' tk' hp.objs.size (fun b o hb ho => ?_) (Nat.le_refl _) hxs.symm ?_ hn'
    · exact (hs.2 b (Nat.ne_of_lt (Heap.lt_size ho))).trans ((Heap.get?_update_ne _ _ _ _ hb).trans (Heap.get?_push_of_some _ ho))
    · exact (hs.2 x hxs).trans (Heap.get?_update_self _ hx1 rfl)
theorem osaOld {K : Frag} {name : Str} {tk : Tok} {v : Value} {x C dx : Addr} {fv : Array Value} {cd : ClassData} {m0 : Str → Option Value} {nl : List Str} (SF : PySem.StoreFacts B bm "object.__setattr__" "object")
    (X : K.In hp) (hx : hp.get? x = some { cls := .ref C, dict := some dx, data := .fields fv }) (hns : hp.Ns1 dx m0) (hw : Within m0 nl) (hz : nl.length ≤ 1000) (hcd : clsIn K C = some cd) (hm : cd.mro = .ref C :: bm) (hh : cd.hasDict = true) (hob : bm.contains (.type "object") = true)
    (ha : findIn K (.ref C) name = some none)
    (hq : ∀ h' tk', (∀ b o, b ≠ dx → hp.get? b = some o → h'.get? b = some o) → h'.Ns1 dx (fun y => if y = name then some v else m0 y) → R (.ok (.ret .none)) ⟨h', g, d, tk', os⟩) :
    codeAny (model prog w) A (.call (.builtin "object.__setattr__") ⟨[.ref x, .str name tk, v], []⟩) R ⟨hp, g, d, t, os⟩ := by
  obtain ⟨oD, esD, epD, hoD, hdD, _⟩ := hns.count hw
  have I : InstAt hp x { cls := .ref C, dict := some dx, data := .fields fv } C (some oD) := ⟨hx, rfl, rfl, hoD⟩
  have SO := F.store_object
  have ne : cd.mro.isEmpty = false := by rw [hm]; rfl
  have hob2 : cd.mro.contains (.type "object") = true := by rw [hm, List.contains_cons, hob, Bool.or_true]
  have sub : Looks (model prog w) hp (isInstance (.ref x) (.type "object")) true := I.type.andThen (looks_mroIn X (by unfold mroIn; rw [hcd, Option.bind_some, if_neg (by rw [ne]; decide), hob2]))
  refine codeAny_call_builtin SO.slot.plain SO.entry (@check_slot (model prog w) _ _ ⟨hp, g, d, t, os⟩ "object.__setattr__" "object" "__setattr__" (.ref x) [.str name tk, v] [] _ SO.kind SO.split sub (SO.args (.ref x) (.str name tk) v) ?_)
  have hmr : Looks (model prog w) hp (mroOf (.ref C)) cd.mro := (looks_clsIn X hcd).andThen .now
  have L3 : Looks (model prog w) hp (storeTaker? none) none := .now
  have hcls : Looks (model prog w) hp (classData C) cd := looks_clsIn X hcd
  rw [osa_eq, refuse_eq]
  refine wpAny_bind (wpAny_bind (I.type.at (wpAny_bind (hmr.at ?_))))
  rw [hm, refuseLoop_ref, SF.passes]
  refine wpAny_pure (wpAny_bind (I.type.at (wpAny_bind ((looks_findIn X ha).at (wpAny_bind (L3.at ?_))))))
  show wpAny _ _ (storeInOwnDict (.ref x) (.ref C) (.str name tk) name v false) _ _ _
  obtain ⟨nm, bs, mro, ns, qn, hd, sn, sb, ab, col, del⟩ := cd
  dsimp only at hh
  subst hh
  unfold storeInOwnDict ownDictForStores
  repeat (first | with_reducible refine PySem.OEX.store_in_old hns hw hz ?_ | with_reducible refine wpAny_loadPart_at hx ?_ | with_reducible refine hcls.at ?_ | wp_step)
  intro h' tk' hn' hs
  exact hq h' tk' (fun b o hb ho => (hs.2 b hb).trans ho) hn'
end

structure XcC (K : PySem.W.Frag) (C : Addr) (bm : List Value) (newId : String) : Prop where
  cls : ∃ nm q N bs sn sub ab col dd k0 k1 k2 k3 k5, K.lookup C = some (excClassObj nm q C N bs bm true sn sub ab col dd k0 k1 k2 k3 k5 newId)
  sa : PySem.W.findIn K (.ref C) "__setattr__" = some (some (.builtin "object.__setattr__"))
  exC : PySem.W.subIn K (.ref C) (.type "BaseException") = some true
  tyC : PySem.W.typeIn K (.ref C) = some (.type "type")
  kC : PySem.W.keepIn K (.ref C) = true
structure BaseF (B : String) (bm : List Value) (newId initId : String) : Prop where
  bf : ExcBaseFacts B newId initId bm
  sf : PySem.StoreFacts B bm "object.__setattr__" "object"
  ob : bm.contains (.type "object") = true
structure BaseSt (B : String) (bm : List Value) : Prop where
  sf : PySem.StoreFacts B bm "object.__setattr__" "object"
  ob : bm.contains (.type "object") = true
theorem BaseF.st {B : String} {bm : List Value} {newId initId : String} (h : BaseF B bm newId initId) : BaseSt B bm := ⟨h.sf, h.ob⟩
section
variable {X : Cx} {pins : List (Addr × Obj)} {σ : St} {H : Hp} {s : Shared} {a C dx : Addr} {f : Str} {y : V} {u : Value} {fs : List (Str × V)} {Q : Unit → Shared → Prop} {E : Value → Shared → Prop} {A : Around} {B : String} {bm : List Value} {newId initId : String}
theorem ostNew (BF : BaseSt B bm) (T : XcC X.K C bm newId) (I : Inv X pins σ H s) (e : H a = some (exo a C none)) (hno : PySem.W.findIn X.K (.ref C) f = some none) (ry : RelV y u)
    (h : ∀ dx s', H dx = none → dx ≠ a → Inv X pins σ (upd (upd H dx (exd dx [(f, y)])) a (exo a C (some dx))) s' → Q () s') : wpAny (model X.prog X.w) A (setAttr (.ref a) f u) Q E s := by
  obtain ⟨nm, q, N, bs, sn, sub, ab, col, dd, k0, k1, k2, k3, k5, hC⟩ := T.cls
  have hcl : PySem.W.clsIn X.K C = some { name := nm, bases := bs, mro := .ref C :: bm, ns := N, qualname := q, hasDict := true, slotNames := sn, subclasses := sub, abstract := ab, collection := col, hasDel := false } := by unfold PySem.W.clsIn; rw [hC] <;> rfl
  obtain ⟨t1, ho⟩ := exo_at I.hok e
  obtain ⟨hp, g, d, t, os⟩ := s
  refine PySem.W.set_plain I.kIn (ox := { cls := .ref C, dict := none, data := .fields #[.ref t1, .none, .none, .none, .bool false, .none] }) (od := none) ⟨ho, rfl, rfl, trivial⟩ T.sa ?_
  refine osaNew BF.sf I.kIn ho hcl rfl rfl BF.ob hno (fun h' tk' dx k dn dne hx hn => ?_)
  have hnd : H dx = none := I.hok.fresh dn
  have nd : ∀ {b : Addr} {o : Obj}, hp.get? b = some o → b ≠ dx := fun {b o} q => Nat.ne_of_lt (Nat.lt_of_lt_of_le (Heap.lt_size q) dn)
  have na : ∀ {b : Addr}, H b = none → b ≠ a := fun {b} n z => by
    rw [z, e] at n
    cases n
  have U1 : Un X.fs [] H (upd (upd H dx (exd dx [(f, y)])) a (exo a C (some dx))) hp h' := {
    keep := fun b o q n _ _ => k b o (na n) q
    slot := fun b o q n _ _ => ⟨o.slots, k b o (na n) q⟩
    free := fun b o q n _ => by rw [upd_ne (na n), upd_ne (nd q)]; exact n
    there := fun b o q _ => by
      by_cases hb : b = a
      · exact ⟨_, by rw [hb]; exact hx⟩
      · exact ⟨o, k b o hb q⟩
    tups := fun b xs q => by rw [upd_ne (at_ne e q exo_tup), upd_ne (ne_of_none q hnd)]; exact q
    frzs := fun b o v q => by rw [upd_ne (at_ne e q exo_frz), upd_ne (ne_of_none q hnd)]; exact q
    tbls := fun b ps q => ⟨#[], by rw [upd_ne (at_ne e q exo_tbl), upd_ne (ne_of_none q hnd), q]; simp⟩ }
  refine h dx _ hnd dne (I.un (t' := tk') U1 fun b o q => ?_)
  by_cases hb : b = a
  · subst hb
    rw [upd_same] at q
    cases q
    exact exo_ok hx
  · rw [upd_ne hb] at q
    by_cases hd : b = dx
    · subst hd
      rw [upd_same] at q
      cases q
      exact exd_ok hn (relO_put (fs := []) ry fun g => True.intro)
    · rw [upd_ne hd] at q
      exact (I.hok b o q).stay (fun c v hc z => k c v (by
          rcases hc with hc | hc
          · rw [hc]
            exact hb
          · exact at_ne e hc exo_own) z)
        (fun c hc => by rw [upd_ne (at_ne e hc exo_own), upd_ne (ne_of_none hc hnd)]; exact hc) (fun c xs hc => by rw [upd_ne (at_ne e hc exo_tup), upd_ne (ne_of_none hc hnd)]; exact hc)
theorem ostOld (BF : BaseSt B bm) (T : XcC X.K C bm newId) (I : Inv X pins σ H s) (e : H a = some (exo a C (some dx))) (ed : H dx = some (exd dx fs)) (hl : fs.length ≤ 900) (hno : PySem.W.findIn X.K (.ref C) f = some none) (ry : RelV y u)
    (h : ∀ s', Inv X pins σ (upd H dx (exd dx ((f, y) :: fs))) s' → Q () s') : wpAny (model X.prog X.w) A (setAttr (.ref a) f u) Q E s := by
  obtain ⟨nm, q, N, bs, sn, sub, ab, col, dd, k0, k1, k2, k3, k5, hC⟩ := T.cls
  have hcl : PySem.W.clsIn X.K C = some { name := nm, bases := bs, mro := .ref C :: bm, ns := N, qualname := q, hasDict := true, slotNames := sn, subclasses := sub, abstract := ab, collection := col, hasDel := false } := by unfold PySem.W.clsIn; rw [hC] <;> rfl
  obtain ⟨t1, ho⟩ := exo_at I.hok e
  obtain ⟨mA, hns, rel⟩ := exd_at I.hok ed
  have hw := within_of rel
  obtain ⟨hp, g, d, t, os⟩ := s
  obtain ⟨oD, _, _, hoD, _, _⟩ := hns.count hw
  refine PySem.W.set_plain I.kIn (ox := { cls := .ref C, dict := some dx, data := .fields #[.ref t1, .none, .none, .none, .bool false, .none] }) (od := some oD) ⟨ho, rfl, rfl, hoD⟩ T.sa ?_
  refine osaOld BF.sf I.kIn ho hns hw (by rw [List.length_map]; omega) hcl rfl rfl BF.ob hno (fun h' tk' k hn => ?_)
  have hd : ∃ o, h'.get? dx = some o := by
    obtain ⟨o, _, _, e', _⟩ := hn
    exact ⟨o, e'⟩
  exact h _ (I.write (t' := tk') (x := dx) (e := dx) (o := exd dx ((f, y) :: fs)) (by rw [ed]; exact True.intro) (.inl rfl) k hd (exd_ok hn (relO_put ry rel)))
def tSt (K : PySem.W.Frag) (C : Addr) (f : Str) (to te : TE) : TS := fun D σ H => te σ H fun y H1 => to σ H1 fun x H2 => ∃ a : Addr, x = .ref a ∧ PySem.W.findIn K (.ref C) f = some none ∧
  ((H2 a = some (exo a C none) ∧ ∀ dx, H2 dx = none → dx ≠ a → D.nx σ (upd (upd H2 dx (exd dx [(f, y)])) a (exo a C (some dx)))) ∨
    ∃ (dx : Addr) (fs : List (Str × V)), H2 a = some (exo a C (some dx)) ∧ H2 dx = some (exd dx fs) ∧ fs.length ≤ 900 ∧ D.nx σ (upd H2 dx (exd dx ((f, y) :: fs))))
theorem ps_stS {o e : Expr} {to te : TE} {p' pos : Pos} (BF : BaseSt B bm) (T : XcC X.K C bm newId) (ho : PE X o to) (he : PE X e te) (hs : swapsWith e (some (.Attribute o f p')) pos.line X.env = pure false := by rfl) : PS X (.Assign [.Attribute o f p'] e pos) (tSt X.K C f to te) := by
  refine ⟨fun pins s σ H D I h => ?_⟩
  refine plainObj_wpAny_Assign_Attribute (thn (he.run pins s σ H _ I h) fun v s1 ⟨y, H1, I1, r1, q1⟩ => thn (ho.run pins s1 σ H1 _ I1 q1) fun u s2 ⟨x, H2, I2, r2, a, ex, hno, q⟩ => ?_) hs
  subst ex
  obtain rfl : u = Value.ref a := r2
  rcases q with ⟨ea, q⟩ | ⟨dx, fs, ea, ed, hl, q⟩
  · exact ostNew BF T I2 ea hno r1 fun dx s' n ne J => ⟨σ, _, J, q dx n ne⟩
  · exact ostOld BF T I2 ea ed hl hno r1 fun s' J => ⟨σ, _, J, q⟩
theorem ps_st {o e : Expr} {to te : TE} {p' pos : Pos} (BF : BaseF B bm newId initId) (T : XcC X.K C bm newId) (ho : PE X o to) (he : PE X e te) (hs : swapsWith e (some (.Attribute o f p')) pos.line X.env = pure false := by rfl) : PS X (.Assign [.Attribute o f p'] e pos) (tSt X.K C f to te) := ps_stS BF.st T ho he hs
end

def tMk0 (C : Addr) (sp : Sp) : L2.St → Hp → XK → Prop := fun σ H Q => ∀ a, H a = none → sp [.ref a] (upd H a (exo a C none))
  (fun v H2 => v = .non ∧ ∃ (d : Addr) (fs : List (Str × V)), H2 a = some (exo a C (some d)) ∧ H2 d = some (exd d fs) ∧ H d = none ∧ Q (.ref C) (some d) (upd (del H2 a) d (.xd fs))) (fun _ _ _ => False)
theorem mk_endN {X : Cx} {pins : List (Addr × Obj)} {σ : L2.St} {H1 H2 : Hp} {Q : XK} {hp hp2 h2 : Heap} {g1 g2 : Array GenState} {d1 d2 : Drawn} {t1 t2 : Nat} {os1 os2 : OsState} {a C d : Addr} {fs : List (Str × V)} (T : Raises X (.ref C)) (I1 : Inv X pins σ H1 ⟨hp, g1, d1, t1, os1⟩)
    (ha : hp.objs.size ≤ a) (k : ∀ b o, hp.get? b = some o → hp2.get? b = some o) (un : Un (frs X.stack) [] (upd H1 a (exo a C none)) H2 hp2 h2) (hok : HOk X.prog X.w H2 h2) (ho : os2 = os1) (hb : PyProof.Rows.AllBare g2)
    (ea : H2 a = some (exo a C (some d))) (ed : H2 d = some (exd d fs)) (hd1 : H1 d = none) (q : Q (.ref C) (some d) (upd (del H2 a) d (.xd fs))) : L2N.MkP X pins σ Q (.ref a) ⟨h2, g2, d2, t2, os2⟩ := by
  obtain ⟨t0, G, J, kG, ge, hoe, na⟩ := mk_end0 (d2 := d2) (t2 := t2) I1 ha k un hok ho hb ea ed hd1
  exact ⟨a, _, _, ⟨G, g2, d2, t2, os2⟩, _, .ref C, some d, rfl, J, kG, ge, hoe, ⟨rfl, rfl, fun vs hv => by cases hv; rfl⟩, rfl, rfl, na, rfl, hb, T, q⟩
theorem pmk0 {X : Cx} {B : String} {bm : List Value} {newId initId : String} {x : Str} {C fI : Addr} {k : Nat} {fd : FuncData} {ps : List Str} {sp : Sp} {p pos : Pos} (BF : BaseF B bm newId initId) (T : XcC X.K C bm newId) (iC : PySem.W.findIn X.K (.ref C) "__init__" = some (some (.ref fI))) (tI : PySem.W.typeIn X.K (.ref fI) = some (.type "function"))
    (F1 : FnOk X.prog X.w X.K X.mg X.base (L2.CX X.prog X.w) k fI fd ps sp) (hr : Room (k + 1) X.A) (hb : Binds X.K fd ps []) (hg : Gl X x) (hm : X.mg x = some (.ref C)) (hdb : (x == ("__debug__" : Str)) = false := by decide) :
    L2N.PMk X (.Call (.Name x p) [] [] pos) (tMk0 C sp) := by
  intro pins s σ H Q I h
  obtain ⟨nm, q, N, bs, sn, sub, ab, col, dd, k0, k1, k2, k3, k5, hC⟩ := T.cls
  refine wpAny_Call_Name_kw (ld_glob I hg hm ?_ hdb)
  refine PySem.W.callWith_K0 I.kIn T.kC ?_
  show wpAny _ _ (call (.ref C) []) _ _ _
  obtain ⟨hp, g, dr, tk, os⟩ := s
  have hsz : hp.objs.size ≤ hp.objs.size + 1 := Nat.le_succ _
  have hn : H (hp.objs.size + 1) = none := I.hok.fresh hsz
  have hq := h (hp.objs.size + 1) hn
  have kk : ∀ b o, hp.get? b = some o → ((hp.push (PySem.W.kdv_tup [])).push (PySem.HandSPX.excO C hp.objs.size)).get? b = some o := fun b o e => Heap.get?_push_of_some _ (Heap.get?_push_of_some _ e)
  have hget : ((hp.push (PySem.W.kdv_tup [])).push (PySem.HandSPX.excO C hp.objs.size)).get? (hp.objs.size + 1) = some (PySem.HandSPX.excO C hp.objs.size) := by heap_get
  have I2 : Inv X pins σ (upd H (hp.objs.size + 1) (exo (hp.objs.size + 1) C none)) ⟨(hp.push (PySem.W.kdv_tup [])).push (PySem.HandSPX.excO C hp.objs.size), g, dr, tk, os⟩ :=
    I.laid (t' := tk) (a := hp.objs.size + 1) (o := exo (hp.objs.size + 1) C none) (h' := (hp.push (PySem.W.kdv_tup [])).push (PySem.HandSPX.excO C hp.objs.size)) kk hsz (exo_ok hget)
  have r2 : Vals [V.ref (hp.objs.size + 1)] [Value.ref (hp.objs.size + 1)] := .cons rfl .nil
  have hl : ([Value.ref (hp.objs.size + 1)] ++ ([] : List Value)).length = ps.length := by
    have e := r2.length
    rw [F1.len _ _ _ _ hq] at e
    exact e.symm
  have bt := hb ⟨(hp.push (PySem.W.kdv_tup [])).push (PySem.HandSPX.excO C hp.objs.size), g, dr, tk, os⟩ [Value.ref (hp.objs.size + 1)] I2.kIn hl
  rw [List.append_nil] at bt
  refine wpAny_call (PySem.HandSPX.call_own BF.bf (fun Y => rfl) (I.kIn _ _ hC) (PySem.W.looks_findIn I.kIn iC) (fun self => PySem.W.bind_fn I.kIn self tI) (Nat.zero_le _)
    (codeAny_mono (F1.run _ X.stack _ _ ⟨[Value.ref (hp.objs.size + 1)], []⟩ [Value.ref (hp.objs.size + 1)] _ _ (fun _ _ _ => False) (hr.make C [] []) (I2.env0.make C [] []) bt r2 hq) fun r s' hq' => ?_))
  cases r with
  | error er => exact passL (X := X) pins σ _ _ er s' I2 hq'
  | ok fl =>
    cases fl with
    | ret u =>
      obtain ⟨v, H2, os2, bare2, un2, hok2, rv, ev, d, fs, ea, ed, hd1, q2⟩ := hq'
      subst ev
      obtain ⟨h2, g2, d2, t2, os'⟩ := s'
      exact ⟨rv, mk_endN (raises_own T.exC T.tyC) I hsz kk un2 hok2 os2 bare2 ea ed hd1 q2⟩
    | next => exact False.elim hq'
    | brk => exact False.elim hq'
    | cont => exact False.elim hq'
end Pd

set_option Elab.async false
set_option linter.all false
set_option maxRecDepth 100000
set_option maxHeartbeats 4000000
namespace Pd
open PySem L2
variable {vn : Bool}
def spX0 (C : Addr) (w : Str) : Sp := fun vs H Q _ => ∃ a, vs = [.ref a] ∧ H a = some (exo a C none) ∧ ∀ d, H d = none → d ≠ a → Q .non (upd (upd H d (exd d [("word", .str w)])) a (exo a C (some d)))
section
variable {P : Program} {w : World} {K : PySem.W.Frag} {mg : Str → Option Value} {base : Heap} {x qual : Str} {params : Arguments} {body : List Stmt} {scope : Scope} {f C : Addr} {fd : FuncData} {wd : Str}
theorem init0_ok (F : FunD K x qual params body scope [] [] f fd) (S : FnScope ["self"] ["self"] scope) (hno : PySem.W.findIn K (.ref C) "word" = some none)
    (hb : ∀ (cdv : Value) (A : Around) (outer : List Env) (s : Shared) (H : Hp) (E : XK), PSs (cxOf (L2.CX P w) P w K mg base ["self"] qual scope f cdv A outer s H E) body (tSt K C "word" (tVar 0) (tC (.str wd)))) :
    FnOk P w K mg base (L2.CX P w) 1 f fd ["self"] (spX0 C wd) := by
  refine F.ok S (fun vs H Q E h => ?_) (fun cdv A outer s H vs Q E hr h => ⟨_, hb cdv A outer s H E, ?_⟩)
  · obtain ⟨a, rfl, _⟩ := h
    rfl
  · obtain ⟨a, rfl, ha, k⟩ := h
    exact ⟨.ref a, rfl, a, rfl, hno, .inl ⟨ha, fun dx h1 h2 => k dx h1 h2⟩⟩
end
def mRaise (c : Str) (fs : List (Str × D)) : Sm → Out := fun δ => .xc c fs δ
theorem del_back {H : Hp} {a d : Addr} {o1 o2 o3 u : HO} (ha : H a = none) (hd : d ≠ a) : upd (del (upd (upd (upd H a o1) d o2) a o3) a) d u = upd H d u := by
  funext b
  by_cases e : b = d
  · rw [e, upd_same, upd_same]
  · rw [upd_ne e, upd_ne e]
    by_cases e2 : b = a
    · rw [e2, del_same, ha]
    · rw [del_ne e2, upd_ne e2, upd_ne e, upd_ne e2]
theorem pds_raise0 {X : Cx} {ca : Str → Addr} {W : WX} {B : String} {bm : List Value} {newId initId : String} {x : Str} {fI : Addr} {k : Nat} {fd : FuncData} {c wd : Str} {p p' pos : Pos} (BF : BaseF B bm newId initId) (T : XcC X.K (ca c) bm newId) (iC : PySem.W.findIn X.K (.ref (ca c)) "__init__" = some (some (.ref fI)))
    (tI : PySem.W.typeIn X.K (.ref fI) = some (.type "function")) (F1 : FnOk X.prog X.w X.K X.mg X.base (L2.CX X.prog X.w) k fI fd ["self"] (spX0 (ca c) wd)) (hr : Room (k + 1) X.A) (hb : Binds X.K fd ["self"] []) (hm : X.mg x = some (.ref (ca c))) (hc : X.calm = true) (tk : TakesV vn X W)
    (hg : Gl X x := by rfl) (hdb : (x == ("__debug__" : Str)) = false := by decide) : PDS X ca W (.Raise (some (.Call (.Name x p) [] [] p')) none pos) (mRaise c [("word", .str wd)]) := by
  refine psI (ps_raiseV hc tk (pmk0 BF T iC tI F1 hr hb hg hm hdb)) fun E σ H h => ?_
  obtain ⟨Hc, H0c, H0, δ, S, p⟩ := h
  intro a ha
  refine ⟨a, rfl, upd_same, fun d hd hda => ⟨rfl, d, [("word", .str wd)], upd_same, ?_, ?_, ?_⟩⟩
  · rw [upd_ne hda, upd_same]
  · rw [upd_ne hda] at hd
    exact hd
  · rw [upd_ne hda] at hd
    rw [del_back ha hda]
    refine p d [("word", .str wd)] σ H0 _ (S.grow (Grow.lay S.s0 hd)) upd_same ⟨rfl, .one (.str wd)⟩
structure XCtx (g : G) (H0 H : Hp) (σ : St) (i : Nat) (a : Addr) (cls : Value) (d : Option Addr) (c : Str) (fs : List (Str × D)) : Prop where
  cl : cls = .ref (g.ca c)
  sl : σ[i]? = some (some (.ref a))
  fl : ∃ ad fvs, d = some ad ∧ H ad = some (.xd fvs) ∧ FR g H0 fvs fs
theorem XCtx.grow {g : G} {H0 H H0' H' : Hp} {σ : St} {i : Nat} {a : Addr} {cls : Value} {d : Option Addr} {c : Str} {fs : List (Str × D)} (x : XCtx g H0 H σ i a cls d c fs) (w : Grow H0 H H0' H') : XCtx g H0' H' σ i a cls d c fs := by
  obtain ⟨ad, fvs, h1, h2, h3, h4⟩ := x.fl
  exact ⟨x.cl, x.sl, ad, fvs, h1, w.up _ _ h2, h3, h4.mono w.up0⟩
def tH {α β : Type} (g : G) (i : Nat) (c : Str) (a : Addr) (cls : Value) (d : Option Addr) (R : Hp → α → β → Prop) (f : List (Str × D) → Sm → Res β) : St → Hp → (α → Hp → Prop) → Prop := fun σ H Q => ∃ Hc H0c H0 δ fs, Stt g Hc H0c H0 H σ δ ∧ XCtx g H0 H σ i a cls d c fs ∧ Post g W0 σ H0 H R Q (f fs δ)
section
variable {α β α1 β1 : Type} {g : G} {σ : St} {δ : Sm} {i : Nat} {c : Str} {a : Addr} {cls : Value} {d : Option Addr} {fs : List (Str × D)} {Hc H0c H0 H H0' H' : Hp} {R : Hp → α → β → Prop} {R1 : Hp → α1 → β1 → Prop} {Q : α → Hp → Prop}
theorem Post.bindH {f1 : List (Str × D) → Sm → Res β1} {k : β1 → Res β} {P : α1 → Hp → Prop} (S : Stt g Hc H0c H0 H σ δ) (x : XCtx g H0 H σ i a cls d c fs) (p : Post g W0 σ H0 H R Q ((f1 fs δ).bind k))
    (hk : ∀ v b H0' H', Grow H0 H H0' H' → Stt g Hc H0c H0' H' σ δ → XCtx g H0' H' σ i a cls d c fs → R1 H0' v b → Post g W0 σ H0' H' R Q (k b) → P v H') : tH g i c a cls d R1 f1 σ H P := by
  refine ⟨Hc, H0c, H0, δ, fs, S, x, ?_⟩
  cases e : f1 fs δ with
  | ok b =>
    rw [e] at p
    exact fun v A B w q => hk v b A B w (S.grow w) (x.grow w) q (Post.grow w p)
  | xc c fs =>
    rw [e] at p
    exact p
  | bad =>
    rw [e] at p
    exact p.elim
end
section
variable {X : Cx} {ca : Str → Addr} {i : Nat} {c : Str} {a : Addr} {cls : Value} {d : Option Addr} {oe : Obj} {pn : List (Addr × Obj)} {e e2 : Expr} {es : List Expr} {f : List (Str × D) → Sm → Res D} {fl : List (Str × D) → Sm → Res (List D)} {pos p p2 : Pos} {n en : Str}
abbrev PDH (X : Cx) (ca : Str → Addr) (i : Nat) (c : Str) (a : Addr) (cls : Value) (d : Option Addr) (e : Expr) (f : List (Str × D) → Sm → Res D) : Prop := PE X e (tH ⟨X.K, ca, X.w⟩ i c a cls d (Rp ⟨X.K, ca, X.w⟩) f)
abbrev PDHA (X : Cx) (ca : Str → Addr) (i : Nat) (c : Str) (a : Addr) (cls : Value) (d : Option Addr) (e : List Expr) (f : List (Str × D) → Sm → Res (List D)) : Prop := PA X e (tH ⟨X.K, ca, X.w⟩ i c a cls d (RpA ⟨X.K, ca, X.w⟩) f)
def hLift (f : Sm → Res D) : List (Str × D) → Sm → Res D := fun _ => f
def hNil : List (Str × D) → Sm → Res (List D) := fun _ _ => .ok []
def hCons (f : List (Str × D) → Sm → Res D) (fl : List (Str × D) → Sm → Res (List D)) : List (Str × D) → Sm → Res (List D) := fun fs δ => (f fs δ).bind fun x => (fl fs δ).bind fun xs => .ok (x :: xs)
def hTup (fl : List (Str × D) → Sm → Res (List D)) : List (Str × D) → Sm → Res D := fun fs δ => (fl fs δ).bind kTup
def hBl (b : Bool) : List (Str × D) → Sm → Res D := fun _ _ => .ok (.bl b)
theorem pha_nil : PDHA X ca i c a cls d [] hNil := paI pa_nil fun σ H Q ⟨Hc, H0c, H0, δ, fs, S, x, p⟩ => Post.now S p .nil
theorem pha_cons (ha : PDH X ca i c a cls d e f) (hr : PDHA X ca i c a cls d es fl) (hs : starEach (e :: es) X.env = (false, eval e X.env) :: starEach es X.env := by rfl) : PDHA X ca i c a cls d (e :: es) (hCons f fl) := by
  refine paI (pa_cons ha hr hs) fun σ H Q h => ?_
  obtain ⟨Hc, H0c, H0, δ, fs, S, x, p⟩ := h
  refine Post.bindH S x p fun v b A1 B1 w1 S1 x1 r1 p1 => ?_
  refine Post.bindH S1 x1 p1 fun y b A2 B2 w2 S2 x2 r2 p2 => ?_
  exact Post.now S2 p2 (.cons (r1.mono w2.up0) r2)
theorem ph_tup {x1} (h : PDHA X ca i c a cls d es fl) : PDH X ca i c a cls d (.Tuple es x1 pos) (hTup fl) := by
  refine peI (pe_tup h) fun σ H Q h => ?_
  obtain ⟨Hc, H0c, H0, δ, fs, S, x, p⟩ := h
  refine Post.bindH S x p fun xs ds A1 B1 w1 S1 x1 r1 p1 => ?_
  unfold kTup at p1
  split at p1
  · rename_i hl
    refine ⟨szl (by rw [r1.length]; exact hl), fun q hq => Post.new S1 p1 hq (.tup (SqT.of upd_same) (r1.mono (Grow.new S1.s0 hq).up0))⟩
  · exact p1.elim
def xFld (n : Str) : List (Str × D) → Sm → Res D := fun fs _ => match fs.lookup n with
  | some d => .ok d
  | none => .bad
theorem fr_look {g : G} {H : Hp} {n : Str} {d : D} : ∀ {fvs : List (Str × V)} {fs : List (Str × D)}, FR g H fvs fs → fs.lookup n = some d → ∃ v, fvs.lookup n = some v ∧ Rp g H v d
  | [], [], _, e => by cases e
  | [], _ :: _, h, _ => by cases h.1
  | _ :: _, [], h, _ => by cases h.1
  | (k, v) :: fvs, (k', d') :: fs, h, e => by
    obtain ⟨h1, h2⟩ := h
    simp only [List.map_cons] at h1 h2
    cases h2 with
    | cons q r =>
      obtain ⟨rfl, h3⟩ := List.cons.inj h1
      rw [List.lookup_cons] at e ⊢
      cases z : n == k with
      | true =>
        rw [z] at e
        cases e
        exact ⟨v, rfl, q⟩
      | false =>
        rw [z] at e
        exact fr_look ⟨h3, r⟩ e
theorem ph_fld (T : XfC X.K (ca c)) (hno : PySem.W.findIn X.K (.ref (ca c)) n = some none) (hz : Zc cls d oe) (hf : ∃ vs, oe.data = .fields vs) (hN : (X.suite a ((a, oe) :: pn)).N[i]? = some en := by rfl)
    (hv : Vis (X.suite a ((a, oe) :: pn)).env.scope en := by first | exact Or.inl rfl | exact Or.inr (Or.inl rfl)) (hd : (en == ("__debug__" : Str)) = false := by decide) (hcd : (en == ("__classdict__" : Str)) = false := by decide)
    (hb : attributeBase (.Name en p) n X.env (eval (.Name en p) X.env) = eval (.Name en p) X.env := by rfl) : PDH (X.suite a ((a, oe) :: pn)) ca i c a cls d (.Attribute (.Name en p) n pos) (xFld n) := by
  refine peI (pe_xf T hno hz hf (pe_var (i := i) hN hv hd hcd) hb) fun σ H Q h => ?_
  obtain ⟨Hc, H0c, H0, δ, fs, S, x, p⟩ := h
  refine ⟨.ref a, x.sl, rfl, x.cl, ?_⟩
  obtain ⟨ad, fvs, h1, h2, h3⟩ := x.fl
  unfold xFld at p
  cases e : fs.lookup n with
  | none => rw [e] at p; exact p.elim
  | some d' =>
    rw [e] at p
    obtain ⟨v, e1, r1⟩ := fr_look h3 e
    exact ⟨ad, fvs, v, h1, h2, e1, Post.now S p r1⟩
theorem ph_isi {tn : Str} {T : String} {b : Bool} (C : ExcC X.K (ca c)) (hk : PySem.W.kitOne X.K (.ref (ca c)) (.type T) = some b) (hz : Zc cls d oe) (hf : ∃ vs, oe.data = .fields vs) (hm : X.mg "isinstance" = none) (ht : X.mg tn = none) (hv2 : bootBuiltins tn = some (.type T))
    (hN : (X.suite a ((a, oe) :: pn)).N[i]? = some en := by rfl)
    (hv : Vis (X.suite a ((a, oe) :: pn)).env.scope en := by first | exact Or.inl rfl | exact Or.inr (Or.inl rfl)) (hd : (en == ("__debug__" : Str)) = false := by decide) (hcd : (en == ("__classdict__" : Str)) = false := by decide)
    (hg : Gl (X.suite a ((a, oe) :: pn)) "isinstance" := by rfl) (hg2 : Gl (X.suite a ((a, oe) :: pn)) tn := by rfl) (hn2 : tn ≠ "__name__" := by decide) (hd2 : (tn == ("__debug__" : Str)) = false := by decide)
    (hs : starEach [.Name en p, .Name tn p2] X.env = (false, eval (.Name en p) X.env) :: starEach [.Name tn p2] X.env := by rfl) (hs2 : starEach [.Name tn p2] X.env = (false, eval (.Name tn p2) X.env) :: starEach [] X.env := by rfl) (hpl : (backTo pos (starEach [.Name tn p2] X.env)).any (·.1) = false := by rfl) {pf : Pos} :
    PDH (X.suite a ((a, oe) :: pn)) ca i c a cls d (.Call (.Name "isinstance" pf) [.Name en p, .Name tn p2] [] pos) (hBl b) := by
  have h2 : PE (X.suite a ((a, oe) :: pn)) (.Name tn p2) (tC (.ty T)) := pe_bltn hg2 ht hv2 rfl hn2 hd2
  have hA : PA (X.suite a ((a, oe) :: pn)) [.Name en p, .Name tn p2] (tCons (tVar i) (tCons (tC (.ty T)) tNil)) := pa_cons (pe_var hN hv hd hcd) (pa_cons h2 pa_nil hs2) hs
  have hC : CallR (X.suite a ((a, oe) :: pn)) (.builtin "isinstance") (fun xs H Q => xs = [.ref a, .ty T] ∧ cls = .ref (ca c) ∧ (∃ ad fvs, d = some ad ∧ H ad = some (.xd fvs)) ∧ Q (.bl b) H) := by
    intro pins s σ H xs us Q I r h
    obtain ⟨rfl, ec, ⟨ad, fvs, ed, had⟩, q⟩ := h
    obtain ⟨u1, u2, rfl, r1, r2⟩ := vals2 r
    cases (show u1 = Value.ref a from r1)
    cases (show u2 = Value.type T from r2)
    obtain ⟨hget, _⟩ := I.pin (a, oe) (List.mem_append.mpr (.inl List.mem_cons_self))
    obtain ⟨vs, hv⟩ := hf
    have hx : ObjOk X.prog X.w H s.heap ad (.xd fvs) := I.hok ad _ had
    obtain ⟨mA, ⟨od, es, ep, ho, _⟩, _⟩ := hx
    have J : PySem.W.InstAt s.heap a oe (ca c) (some od) := by
      obtain ⟨oc, oo, oda, osl⟩ := oe
      obtain ⟨z1, z2⟩ := hz
      dsimp only at z1 z2 hv
      subst z1 z2 hv ed
      exact ⟨hget, ec, rfl, ho⟩
    have hcl : (PySem.W.clsIn X.K (ca c)).isSome = true := by
      obtain ⟨cd, h1, _⟩ := PySem.W.any_some C.hd
      rw [h1]
      rfl
    exact PySem.W.kia_one (PySem.W.kitx_exc hcl C.hg C.hk C.hs C.ha C.hn C.ht C.hm) I.kIn J hk (fun z => nomatch z) fun tk => ⟨.bl b, H, I.kept (t' := tk) fun _ _ z => z, rfl, q⟩
  refine peI (pe_callB hC hg hm (by decide +kernel) hA (by decide) (by decide) hs hpl) fun σ H Q h => ?_
  obtain ⟨Hc, H0c, H0, δ, fs, S, x, p⟩ := h
  obtain ⟨ad, fvs, h1, h2, h3⟩ := x.fl
  exact ⟨.ref a, x.sl, rfl, x.cl, ⟨ad, fvs, h1, h2⟩, Post.now S p (.bl _)⟩
end
def tHS (g : G) (i : Nat) (c : Str) (a : Addr) (cls : Value) (d : Option Addr) (m : List (Str × D) → Sm → Out) : TS := fun E σ H => ∃ Hc H0c H0 δ fs, Stt g Hc H0c H0 H σ δ ∧ XCtx g H0 H σ i a cls d c fs ∧ PostS g W0 Hc H0c E (m fs δ)
def hRet (f : List (Str × D) → Sm → Res D) : List (Str × D) → Sm → Out := fun fs δ => match f fs δ with
  | .ok d => .rt d
  | _ => .bad
theorem phs_ret {X : Cx} {ca : Str → Addr} {i : Nat} {c : Str} {a : Addr} {cls : Value} {d : Option Addr} {e : Expr} {f : List (Str × D) → Sm → Res D} {pos : Pos} (h : PDH X ca i c a cls d e f) : PSs X [.Return (some e) pos] (tHS ⟨X.K, ca, X.w⟩ i c a cls d (hRet f)) := by
  refine pssI (pss_one (ps_ret h)) fun E σ H h => ?_
  obtain ⟨Hc, H0c, H0, δ, fs, S, x, p⟩ := h
  refine ⟨Hc, H0c, H0, δ, fs, S, x, ?_⟩
  unfold hRet at p
  cases e : f fs δ with
  | ok d =>
    rw [e] at p
    exact fun v A B w r => p v A B (S.grown.trans w) r
  | xc c fs => rw [e] at p; exact p.elim
  | bad => rw [e] at p; exact p.elim
def mTry (i : Nat) (c : Str) (cs : List Str) (mb : Sm → Out) (mh : List (Str × D) → Sm → Out) : Sm → Out := fun δ => match mb δ with
  | .xc c' fs δ' => if c' = c then (if i < δ'.length then (match mh fs (δ'.set i .no) with
      | .nx δ2 => .nx (δ2.set i .no)
      | .rt r => .rt r
      | .bk δ2 => .bk (δ2.set i .no)
      | .ct δ2 => .ct (δ2.set i .no)
      | _ => .bad) else .bad) else if c' ∈ cs then .xc c' fs δ' else .bad
  | o => o
end Pd

set_option Elab.async false
set_option linter.all false
set_option maxRecDepth 100000
set_option maxHeartbeats 4000000
namespace Pd
open PySem L2
variable {vn : Bool}
inductive Pk where
  | p (i : Nat)
  | k (i : Nat)
  | d (i : Nat)
def pick {α : Type} (us ws its : List α) : List Pk → List α
  | [] => []
  | .p i :: r => (us[i]?).toList ++ pick us ws its r
  | .k i :: r => (ws[i]?).toList ++ pick us ws its r
  | .d i :: r => (its[i]?).toList ++ pick us ws its r
theorem vals_opt {xs : List V} {us : List Value} (r : Vals xs us) (i : Nat) : Vals (xs[i]?).toList (us[i]?).toList := by
  cases e : xs[i]? with
  | none =>
    rw [Vals.none_of r e]
    exact .nil
  | some x =>
    obtain ⟨u, h1, h2⟩ := r.get e
    rw [h1]
    exact .cons h2 .nil
theorem pick_vals {vs zs ds : List V} {us ws its : List Value} (r1 : Vals vs us) (r2 : Vals zs ws) (r3 : Vals ds its) : ∀ ix : List Pk, Vals (pick vs zs ds ix) (pick us ws its ix)
  | [] => .nil
  | .p i :: r => (vals_opt r1 i).append (pick_vals r1 r2 r3 r)
  | .k i :: r => (vals_opt r2 i).append (pick_vals r1 r2 r3 r)
  | .d i :: r => (vals_opt r3 i).append (pick_vals r1 r2 r3 r)
theorem rpa_opt {g : G} {H : Hp} {xs : List V} {us : List D} (r : RpA g H xs us) (i : Nat) : RpA g H (xs[i]?).toList (us[i]?).toList := by
  cases e : us[i]? with
  | none =>
    have h2 : us.length ≤ i := List.getElem?_eq_none_iff.mp e
    have h3 : xs[i]? = none := List.getElem?_eq_none_iff.mpr (by rw [r.length]; exact h2)
    rw [h3]
    exact .nil
  | some x =>
    obtain ⟨u, h1, h2⟩ := r.get e
    rw [h1]
    exact .one h2
theorem pick_rpa {g : G} {H : Hp} {vs zs ds : List V} {us ws its : List D} (r1 : RpA g H vs us) (r2 : RpA g H zs ws) (r3 : RpA g H ds its) : ∀ ix : List Pk, RpA g H (pick vs zs ds ix) (pick us ws its ix)
  | [] => .nil
  | .p i :: r => (rpa_opt r1 i).append (pick_rpa r1 r2 r3 r)
  | .k i :: r => (rpa_opt r2 i).append (pick_rpa r1 r2 r3 r)
  | .d i :: r => (rpa_opt r3 i).append (pick_rpa r1 r2 r3 r)
section
variable {K : PySem.W.Frag} {ca : Str → Addr} {w : World} {x qual : Str} {params : Arguments} {body : List Stmt} {scope : Scope} {dvs : List V} {f : Addr} {fd : FuncData} {ps ks : List Str}
theorem bd0 (F : FunD K x qual params body scope [] [] f fd) (n : Nat) (ix : List Pk)
    (h : ∀ (kV doc pm : Value) (an : Option Addr) (cdv ct : Value) (us ws : List Value), us.length = n → ws.length = ks.length → bindArgs (PySem.W.fnOf x qual params body scope .none kV doc pm an cdv ct) ⟨us, ks.zip ws⟩ = pure (ps.zip (pick us ws [] ix))) :
    Bd ⟨K, ca, w⟩ fd ps n ks (fun ds es => pick ds es [] ix) := by
  obtain ⟨oc, od, dV, kV, doc, pm, an, cdv, ct, osl, rfl, lk, hcd, hD, hK⟩ := F.ex
  rcases hD with ⟨_, rfl⟩ | ⟨e, _⟩
  · exact ⟨fun us ws => pick us ws [] ix, fun vs zs => pick vs zs [] ix, ⟨fun s us ws _ h1 h2 => .of_eq (h kV doc pm an cdv ct us ws h1 h2), fun r1 r2 => pick_vals r1 r2 .nil ix⟩, fun H0 vs ds zs es r1 r2 => pick_rpa r1 r2 .nil ix⟩
  · exact absurd rfl e
theorem bd1 (F : FunD K x qual params body scope dvs [] f fd) (dds : List D) (hn : dvs ≠ []) (hr : ∀ H, RpA ⟨K, ca, w⟩ H dvs dds) (n : Nat) (ix : List Pk)
    (h : ∀ (T : Addr) (kV doc pm : Value) (an : Option Addr) (cdv ct : Value) (us ws its : List Value), us.length = n → ws.length = ks.length → its.length = dvs.length →
      ∃ k, bindArgs (PySem.W.fnOf x qual params body scope (.ref T) kV doc pm an cdv ct) ⟨us, ks.zip ws⟩ = seqItems? (.ref T) >>= k ∧ k (some its.toArray) = pure (ps.zip (pick us ws its ix))) :
    Bd ⟨K, ca, w⟩ fd ps n ks (fun ds es => pick ds es dds ix) := by
  obtain ⟨oc, od, dV, kV, doc, pm, an, cdv, ct, osl, rfl, lk, hcd, hD, hK⟩ := F.ex
  rcases hD with ⟨e, _⟩ | ⟨_, T, o, its, m, rfl, lT, oT, rT⟩
  · exact absurd e hn
  · refine ⟨fun us ws => pick us ws its ix, fun vs zs => pick vs zs dvs ix, ⟨fun s us ws X h1 h2 => ?_, fun r1 r2 => pick_vals r1 r2 rT ix⟩, fun H0 vs ds zs es r1 r2 => pick_rpa r1 r2 (hr H0) ix⟩
    obtain ⟨k, e1, e2⟩ := h T kV doc pm an cdv ct us ws its h1 h2 rT.length.symm
    refine BindsTo.of_looks fun M => ?_
    rw [e1]
    exact looks_items X lT oT (.of_pure e2)
end
structure FnE (vn : Bool) (P : Program) (w : World) (K : PySem.W.Frag) (mg : Str → Option Value) (base : Heap) (ca : Str → Addr) (x : Str) (st : Stmt) (dvs : List V) (ps : List Str) (k : Nat) (fm : List D → Res D) (f : Addr) (fd : FuncData) : Prop where
  d : FunD K x x (defArgs st) (defBody st) (defScope st) dvs [] f fd
  g : FnOk P w K mg base (CXv vn P w) k f fd ps (spD ⟨K, ca, w⟩ ps.length fm)
  m : mg x = some (.ref f)
structure XcE (P : Program) (w : World) (K : PySem.W.Frag) (mg : Str → Option Value) (base : Heap) (ca : Str → Addr) (c : Str) (B : String) (bm : List Value) (newId initId : String) (wd : Str) (fI : Addr) (fd : FuncData) : Prop where
  bf : BaseF B bm newId initId
  t : XcC K (ca c) bm newId
  iC : PySem.W.findIn K (.ref (ca c)) "__init__" = some (some (.ref fI))
  tI : PySem.W.typeIn K (.ref fI) = some (.type "function")
  g : FnOk P w K mg base (L2.CX P w) 1 fI fd ["self"] (spX0 (ca c) wd)
  b : Binds K fd ["self"] []
  m : mg c = some (.ref (ca c))
structure XcR (K : PySem.W.Frag) (C : Addr) : Prop where
  xf : XfC K C
  ec : ExcC K C
  me : PySem.W.exmOne K (.ref C) (.ref C) = some true
theorem hu64 {A : Around} {k : Nat} (hr : Room k A) : A.units + 64 < cLine := by have := hr.un; omega
theorem hu65 {A : Around} {k : Nat} (hr : Room k A) : A.units + 65 < cLine := by have := hr.un; omega
theorem takesB {X : Cx} : TakesV vn X W0 := takesV_mk fun _ _ x => by obtain ⟨_, _, _, _, _, _, _, _, _, _, _, _, _, _, _, _, z⟩ := x; exact z.elim
theorem passesX {P : Program} {w : World} {K : PySem.W.Frag} {mg : Str → Option Value} {base : Heap} {N : List Str} {qual : Str} {scope : Scope} {f : Addr} {cdv : Value} {A : Around} {outer : List Env} {s : Shared} {H : Hp} {E : XK} :
    PassesOwn (model P w) (A.deeper (PyProof.Rows.envOfC qual scope s.heap.objs.size f cdv)) (PyProof.Rows.envOfC qual scope s.heap.objs.size f cdv) (cxOf (CXv vn P w) P w K mg base N qual scope f cdv A outer s H E).xe :=
  passes_of (X := cxOf (CXv vn P w) P w K mg base N qual scope f cdv A outer s H E) rfl
theorem xcB_ok {K : PySem.W.Frag} {C : Addr} {bm : List Value} {newId : String} (h : xcB K C bm newId = true) : ∃ nm q N bs sn sub ab col dd k0 k1 k2 k3 k5, K.lookup C = some (excClassObj nm q C N bs bm true sn sub ab col dd k0 k1 k2 k3 k5 newId) := by
  unfold xcB at h
  split at h
  · rename_i t dd cd sl ho
    split at h
    · rename_i k0 k1 k2 k3 n k5 hs
      obtain ⟨h1, h2⟩ := Bool.and_eq_true_iff.mp h
      obtain ⟨h3, h4⟩ := Bool.and_eq_true_iff.mp h2
      obtain ⟨h5, h6⟩ := Bool.and_eq_true_iff.mp h4
      obtain ⟨h7, h8⟩ := Bool.and_eq_true_iff.mp h6
      obtain ⟨nm, bs, mro, ns, qn, hd, sn, sub, ab, col, del⟩ := cd
      have e1 := of_decide_eq_true h1
      have e3 : mro = .ref C :: bm := of_decide_eq_true h3
      have e5 := of_decide_eq_true h5
      have e7 : del = false := by
        cases del with
        | true => cases h7
        | false => rfl
      have e8 : hd = true := h8
      subst e1 e3 e5 e7 e8
      have hsl : sl = #[k0, k1, k2, k3, some (.builtin n), k5] := by
        have z := congrArg List.toArray hs
        simpa using z
      rw [hsl] at ho
      exact ⟨nm, qn, ns, bs, sn, sub, ab, col, dd, k0, k1, k2, k3, k5, ho⟩
    · cases h
  · cases h
theorem ab {a b : Bool} (h : (a && b) = true) : a = true ∧ b = true := Bool.and_eq_true_iff.mp h
structure XcF (K : PySem.W.Frag) (c : Str) (bm : List Value) (newId : String) (fs : List Str) : Prop where
  t : XcC K (He.ga K c) bm newId
  iC : PySem.W.findIn K (.ref (He.ga K c)) "__init__" = some (some (.ref (He.ma K (He.ga K c) "__init__")))
  tI : PySem.W.typeIn K (.ref (He.ma K (He.ga K c) "__init__")) = some (.type "function")
  no : ∀ f ∈ fs, PySem.W.findIn K (.ref (He.ga K c)) f = some none
theorem xcAll_ok {K : PySem.W.Frag} {c : Str} {bm : List Value} {newId : String} {fs : List Str} (h : xcAll K c bm newId fs = true) : XcF K c bm newId fs := by
  obtain ⟨h1, h⟩ := ab h
  obtain ⟨h2, h⟩ := ab h
  obtain ⟨h3, h⟩ := ab h
  obtain ⟨h4, h⟩ := ab h
  obtain ⟨h5, h⟩ := ab h
  obtain ⟨h6, h⟩ := ab h
  obtain ⟨h7, h8⟩ := ab h
  exact ⟨⟨xcB_ok h1, He.eqO_ok h2, of_decide_eq_true h3, of_decide_eq_true h4, h5⟩, He.eqO_ok h6, of_decide_eq_true h7, fun f hf => He.eqO_ok (List.all_eq_true.mp h8 f hf)⟩
theorem xrAll_ok {K : PySem.W.Frag} {c : Str} (h : xrAll K c = true) : XcR K (He.ga K c) := by
  obtain ⟨h1, h⟩ := ab h
  obtain ⟨h2, h⟩ := ab h
  obtain ⟨h3, h⟩ := ab h
  obtain ⟨h4, h⟩ := ab h
  obtain ⟨h5, h⟩ := ab h
  obtain ⟨h6, h⟩ := ab h
  obtain ⟨h7, h⟩ := ab h
  obtain ⟨h8, h9⟩ := ab h
  exact ⟨⟨He.eqO_ok h1, He.eqO_ok h2, of_decide_eq_true h3, h4⟩, ⟨He.eqO_ok h1, He.eqO_ok h2, of_decide_eq_true h3, h4, He.eqO_ok h5, He.eqO_ok h6, of_decide_eq_true h7, of_decide_eq_true h8⟩, of_decide_eq_true h9⟩
abbrev AlB : Type := He.AlD × Bool
def obsB (n : Nat) (fa : List He.Fa) (fn : List He.DefD) (ex : PySem.W.Frag → Bool) (g : Addr → Option Obj) : AlB := (He.obsD fa fn (He.frG g (He.asD g n)), ex (He.frG g (He.asD g n)))
def hookB (n : Nat) (fa : List He.Fa) (fn : List He.DefD) (ex : PySem.W.Frag → Bool) : PySem.W.Hook where
  α := AlB
  obs := fun s => obsB n fa fn ex s.heap.get?
  val := fun _ => (He.valD fn, true)
  says := fun _ h => ∃ K : PySem.W.Frag, K.In h ∧ He.SaysD fa fn K ∧ ex K = true
  of := fun _ _ e => ⟨_, He.frG_in, congrArg (fun z : AlB => z.1) e, congrArg (fun z : AlB => z.2) e⟩
  keeps := fun _ _ _ ⟨K, hK, c⟩ k => ⟨K, PySem.W.Frag.In.keeps hK k, c⟩
theorem obsB_eq {n : Nat} {fa : List He.Fa} {fn : List He.DefD} {ex : PySem.W.Frag → Bool} {g : Addr → Option Obj} {s : Shared} (h : ∀ a, g a = s.heap.get? a) : obsB n fa fn ex g = (hookB n fa fn ex).obs s := by
  have e : g = s.heap.get? := funext h
  rw [e] <;> rfl
theorem bfValueError : BaseF "ValueError" [.type "ValueError", .type "Exception", .type "BaseException", .type "object"] "ValueError.__new__" "ValueError.__init__" := ⟨PySem.F.excBase_ValueError, PySem.F.store_ValueError, by decide +kernel⟩
theorem bfArithmeticError : BaseF "ArithmeticError" [.type "ArithmeticError", .type "Exception", .type "BaseException", .type "object"] "ArithmeticError.__new__" "ArithmeticError.__init__" := ⟨PySem.F.excBase_ArithmeticError, PySem.F.store_ArithmeticError, by decide +kernel⟩
theorem bfZeroDivisionError : BaseF "ZeroDivisionError" [.type "ZeroDivisionError", .type "ArithmeticError", .type "Exception", .type "BaseException", .type "object"] "ZeroDivisionError.__new__" "ZeroDivisionError.__init__" := ⟨PySem.F.excBase_ZeroDivisionError, PySem.F.store_ZeroDivisionError, by decide +kernel⟩
theorem cx_never {P : Program} {w : World} (H : Hp) (s : Shared) (e : Value) (s' : Shared) (h : L2.CX P w [] H s (fun _ _ _ => False) e s') : False := by
  obtain ⟨_, _, _, _, _, _, _, _, _, _, _, _, z⟩ := h
  exact z
end Pd
namespace Pd
open PySem L2
variable {vn : Bool}
def fuelTop : Nat := 2 ^ 4000
def mFrz (i : Nat) (m : Sm → Out) : Sm → Out := fun δ => m (frz i δ)
theorem pds_mfrz {X : Cx} {ca : Str → Addr} {W : WX} {sts : List Stmt} {m : Sm → Out} (i : Nat) (h : PDSs X ca W sts m) : PDSs X ca W sts (mFrz i m) := pds_frz i h
structure GlE (K : PySem.W.Frag) (mg : Str → Option Value) (ca : Str → Addr) (x : Str) (d : D) : Prop where
  ex : ∃ v u, mg x = some u ∧ RelV v u ∧ ∀ w H, Rp ⟨K, ca, w⟩ H v d
theorem pd_globE {X : Cx} {ca : Str → Addr} {W : WX} {x : Str} {d : D} {pos : Pos} (h : GlE X.K X.mg ca x d) (hg : Gl X x := by rfl) (hd : (x == ("__debug__" : Str)) = false := by decide) : PD X ca W (.Name x pos) (eC d) := by
  obtain ⟨v, u, h1, h2, h3⟩ := h.ex
  exact pd_glob h1 h2 (h3 _) hg hd
theorem iop_mulW {X : Cx} : OpR X (inplaceOp .Mult) (rI CMulW fun i j => .int (i * j)) := opI fun _ _ _ _ _ _ _ hc q => PyProof.Rows.imul_int q hc.ok
theorem fn_bad {P : Program} {w : World} {K : PySem.W.Frag} {mg : Str → Option Value} {base : Heap} {ca : Str → Addr} {k n : Nat} {f : Addr} {fd : FuncData} {ps : List Str} : FnOk P w K mg base (CXv vn P w) k f fd ps (spD ⟨K, ca, w⟩ n fun _ => .bad) :=
  ⟨fun vs H Q E h => by
    obtain ⟨_, _, _, _, _, z⟩ := h
    exact z.elim, fun A outer s H args us vs Q E _ _ _ _ h => by
    obtain ⟨_, _, _, _, _, z⟩ := h
    exact z.elim⟩
end Pd
namespace Pd
open PySem PySem.Spec PyProof.Rows L2
variable {vn : Bool}
theorem funD_inj {K : PySem.W.Frag} {x qual : Str} {params : Arguments} {body : List Stmt} {scope : Scope} {dvs : List V} {kws : List (Str × V)} {f : Addr} {fd fd2 : FuncData} (a : FunD K x qual params body scope dvs kws f fd) (b : FunD K x qual params body scope dvs kws f fd2) : fd = fd2 := by
  obtain ⟨oc, od, dV, kV, doc, pm, an, cdv, ct, osl, _, lk, _⟩ := a.ex
  obtain ⟨oc2, od2, dV2, kV2, doc2, pm2, an2, cdv2, ct2, osl2, _, lk2, _⟩ := b.ex
  rw [lk] at lk2
  injection lk2 with z
  injection z with _ _ z3 _
  injection z3
end Pd

set_option Elab.async false
set_option linter.all false
set_option maxRecDepth 100000
set_option maxHeartbeats 4000000
namespace Pd
open PySem L2
theorem log2_lt {i : Int} {n : Nat} (h : i.natAbs < 2 ^ n) (h0 : 0 < n) : i.natAbs.log2 < n := PySem.Flt.log2_lt_of h0 h
theorem mulOk_lt {i j : Int} {a b : Nat} (ha : i.natAbs < 2 ^ a) (hb : j.natAbs < 2 ^ b) (h : 0 < a ∧ 0 < b ∧ a + b ≤ 1000000) : mulOk i j = true := by
  have x := log2_lt ha h.1
  have y := log2_lt hb h.2.1
  exact decide_eq_true (by omega)
theorem divOk_lt {i j : Int} {b : Nat} (h1 : 0 < j) (hb : j.natAbs < 2 ^ b) (h : 0 < b ∧ b ≤ 9000) : divOk i j = true := by
  have y := log2_lt hb h.1
  exact decide_eq_true ⟨h1, by omega⟩
theorem modOk_lt {i j : Int} (h1 : 0 < j) : modOk i j = true := decide_eq_true h1
theorem forL_next {gt : D → Sm → Res Sm} {b : Sm → Out} {d : D} {ds : List D} {δ δ1 δ2 : Sm} (h1 : gt d δ = .ok δ1) (h2 : b δ1 = .nx δ2) : forL gt b (d :: ds) δ = forL gt b ds δ2 := by
  show (match gt d δ with | .ok δ1 => _ | _ => _) = _
  rw [h1]
  show (match b δ1 with | .nx δ2 => _ | .ct δ2 => _ | .bk δ2 => _ | .rt r => _ | .xc c fs δ2 => _ | .bad => _) = _
  rw [h2]
theorem forL_inv {gt : D → Sm → Res Sm} {b : Sm → Out} (Inv : Sm → Prop) : ∀ {ds : List D} {δ : Sm}, (∀ d ∈ ds, ∀ δ, Inv δ → ∃ δ1 δ2, gt d δ = .ok δ1 ∧ b δ1 = .nx δ2 ∧ Inv δ2) → Inv δ → ∃ δ', forL gt b ds δ = .nx δ' ∧ Inv δ'
  | [], δ, _, h0 => ⟨δ, rfl, h0⟩
  | d :: ds, δ, h, h0 => by
    obtain ⟨δ1, δ2, e1, e2, h2⟩ := h d (List.mem_cons_self ..) δ h0
    obtain ⟨δ', e3, h3⟩ := forL_inv Inv (ds := ds) (fun d hd => h d (List.mem_cons_of_mem _ hd)) h2
    exact ⟨δ', (forL_next e1 e2).trans e3, h3⟩
theorem whL_stop {t : Sm → Res Bool} {b : Sm → Out} {n : Nat} {δ : Sm} (h : t δ = .ok false) : whL t b (n + 1) δ = .nx δ := by
  show (t δ).out δ _ = _
  rw [h]
  rfl
theorem whL_next {t : Sm → Res Bool} {b : Sm → Out} {n : Nat} {δ δ2 : Sm} (h : t δ = .ok true) (h2 : b δ = .nx δ2) : whL t b (n + 1) δ = whL t b n δ2 := by
  show (t δ).out δ _ = _
  rw [h]
  simp only [Res.out, if_true, h2]
theorem whL_inv {t : Sm → Res Bool} {b : Sm → Out} (Inv : Sm → Prop) (μ : Sm → Nat) (h : ∀ δ, Inv δ → (t δ = .ok true ∧ ∃ δ2, b δ = .nx δ2 ∧ Inv δ2 ∧ μ δ2 < μ δ) ∨ t δ = .ok false) :
    ∀ (n : Nat) (δ : Sm), Inv δ → μ δ < n → ∃ δ', whL t b n δ = .nx δ' ∧ Inv δ' ∧ t δ' = .ok false
  | 0, δ, _, hm => absurd hm (Nat.not_lt_zero _)
  | n + 1, δ, h0, hm => by
    rcases h δ h0 with ⟨e1, δ2, e2, h2, hl⟩ | e
    · obtain ⟨δ', e3, h3, h4⟩ := whL_inv Inv μ h n δ2 h2 (by omega)
      exact ⟨δ', (whL_next e1 e2).trans e3, h3, h4⟩
    · exact ⟨δ, whL_stop e, h0, e⟩
theorem fuelTop_lt {n : Nat} (h : n < 2 ^ 4000) : n < fuelTop := h
theorem shp_int (i : Int) : shp (.int i) = true := Eq.trans rfl rfl
theorem shp_bl (b : Bool) : shp (.bl b) = true := Eq.trans rfl rfl
theorem deq_int (i j : Int) : deq (.int i) (.int j) = (i == j) := by
  unfold deq toPy
  simp only [PyData.eqv]
theorem deq_bl (i j : Bool) : deq (.bl i) (.bl j) = (i == j) := by
  unfold deq toPy
  simp only [PyData.eqv]
theorem kEq_int (i j : Int) : kEq (.int i) (.int j) = .ok (.bl (i == j)) := by
  unfold kEq
  dsimp only [bothS]
  rw [shp_int, shp_int, deq_int]
  rfl
theorem kNe_int (i j : Int) : kNe (.int i) (.int j) = .ok (.bl (!(i == j))) := by
  unfold kNe
  dsimp only [bothS]
  rw [shp_int, shp_int, deq_int]
  rfl
theorem kEq_bl (i j : Bool) : kEq (.bl i) (.bl j) = .ok (.bl (i == j)) := by
  unfold kEq
  dsimp only [bothS]
  rw [shp_bl, shp_bl, deq_bl]
  rfl
theorem kNe_bl (i j : Bool) : kNe (.bl i) (.bl j) = .ok (.bl (!(i == j))) := by
  unfold kNe
  dsimp only [bothS]
  rw [shp_bl, shp_bl, deq_bl]
  rfl
theorem kEq_str (i j : Str) : kEq (.str i) (.str j) = .ok (.bl (i == j)) := by
  rfl
theorem kNe_str (i j : Str) : kNe (.str i) (.str j) = .ok (.bl (!(i == j))) := by
  rfl
theorem kMul_ok {i j : Int} (h : mulOk i j = true) : kMul (.int i) (.int j) = .ok (.int (i * j)) := by
  show (if mulOk i j = true then _ else _) = _
  rw [if_pos h]
theorem kDiv_ok {i j : Int} (h : divOk i j = true) : kDiv (.int i) (.int j) = .ok (.int (i / j)) := by
  show (if divOk i j = true then _ else _) = _
  rw [if_pos h]
theorem kMod_ok {i j : Int} (h : 0 < j) : kMod (.int i) (.int j) = .ok (.int (i % j)) := by
  show (if modOk i j = true then _ else _) = _
  rw [if_pos (modOk_lt h)]
theorem kAdd_ok (i j : Int) : kAdd (.int i) (.int j) = .ok (.int (i + j)) := Eq.trans rfl rfl
theorem kSub_ok (i j : Int) : kSub (.int i) (.int j) = .ok (.int (i - j)) := Eq.trans rfl rfl
theorem kLt_ok (i j : Int) : kLt (.int i) (.int j) = .ok (.bl (decide (i < j))) := Eq.trans rfl rfl
theorem kLe_ok (i j : Int) : kLe (.int i) (.int j) = .ok (.bl (decide (i ≤ j))) := Eq.trans rfl rfl
theorem kGt_ok (i j : Int) : kGt (.int i) (.int j) = .ok (.bl (decide (j < i))) := Eq.trans rfl rfl
theorem kGe_ok (i j : Int) : kGe (.int i) (.int j) = .ok (.bl (decide (j ≤ i))) := Eq.trans rfl rfl
theorem kAbs_ok (i : Int) : kAbs [.int i] = .ok (.int (if i < 0 then -i else i)) := Eq.trans rfl rfl
theorem abs_eq (i : Int) : (if i < 0 then -i else i) = (i.natAbs : Int) := by
  split <;> omega
end Pd

set_option Elab.async false
set_option linter.all false
set_option maxRecDepth 100000
set_option maxHeartbeats 4000000
namespace Pd
open PySem L2
variable {α β : Type}
theorem bind_ok (a : α) (k : α → Res β) : (Res.ok a).bind k = k a := Eq.trans rfl rfl
theorem bind_xc (c : Str) (fs : List (Str × D)) (k : α → Res β) : (Res.xc c fs).bind k = .xc c fs := Eq.trans rfl rfl
theorem out_ok (a : α) (δ : Sm) (k : α → Out) : (Res.ok a).out δ k = k a := Eq.trans rfl rfl
theorem out_xc (c : Str) (fs : List (Str × D)) (δ : Sm) (k : α → Out) : (Res.xc c fs : Res α).out δ k = .xc c fs δ := Eq.trans rfl rfl
def seqO (o : Out) (n : Sm → Out) : Out := match o with | .nx δ' => n δ' | .rt d => .rt d | .bk δ' => .bk δ' | .ct δ' => .ct δ' | .xc c fs δ' => .xc c fs δ' | .bad => .bad
theorem seqO_nx (δ : Sm) (n : Sm → Out) : seqO (.nx δ) n = n δ := Eq.trans rfl rfl
theorem seqO_rt (d : D) (n : Sm → Out) : seqO (.rt d) n = .rt d := Eq.trans rfl rfl
theorem seqO_bk (δ : Sm) (n : Sm → Out) : seqO (.bk δ) n = .bk δ := Eq.trans rfl rfl
theorem seqO_ct (δ : Sm) (n : Sm → Out) : seqO (.ct δ) n = .ct δ := Eq.trans rfl rfl
theorem seqO_xc (c : Str) (fs : List (Str × D)) (δ : Sm) (n : Sm → Out) : seqO (.xc c fs δ) n = .xc c fs δ := Eq.trans rfl rfl
def finO (o : Out) : Res D := match o with | .rt d => .ok d | .nx _ => .ok .non | .xc c fs _ => .xc c fs | _ => .bad
theorem finO_rt (d : D) : finO (.rt d) = .ok d := Eq.trans rfl rfl
theorem finO_nx (δ : Sm) : finO (.nx δ) = .ok .non := Eq.trans rfl rfl
theorem finO_xc (c : Str) (fs : List (Str × D)) (δ : Sm) : finO (.xc c fs δ) = .xc c fs := Eq.trans rfl rfl
def slots (n : Nat) (ds : List D) : Sm := ds.map O.sh ++ List.replicate n O.no
theorem slots_cons (n : Nat) (d : D) (ds : List D) : slots n (d :: ds) = .sh d :: slots n ds := Eq.trans rfl rfl
theorem slots_S (n : Nat) : slots (n + 1) [] = .no :: slots n [] := Eq.trans rfl rfl
theorem slots_0 : slots 0 [] = [] := Eq.trans rfl rfl
theorem runF_eq (n : Nat) (m : Sm → Out) (ds : List D) : runF n m ds = finO (m (slots n ds)) := Eq.trans rfl rfl
theorem eVar_0 (d : D) (δ : Sm) : eVar 0 (.sh d :: δ) = .ok d := Eq.trans rfl rfl
theorem eVar_S (i : Nat) (o : O) (δ : Sm) : eVar (i + 1) (o :: δ) = eVar i δ := Eq.trans rfl rfl
theorem eC_eq (d : D) (δ : Sm) : eC d δ = .ok d := Eq.trans rfl rfl
theorem e1_eq (k : D → Res D) (a : Sm → Res D) (δ : Sm) : e1 k a δ = (a δ).bind k := Eq.trans rfl rfl
def c2 (k : D → D → Res D) (b : Sm → Res D) (δ : Sm) (x : D) : Res D := (b δ).bind (k x)
theorem c2_eq (k : D → D → Res D) (b : Sm → Res D) (δ : Sm) (x : D) : c2 k b δ x = (b δ).bind (k x) := Eq.trans rfl rfl
theorem e2_eq (k : D → D → Res D) (a b : Sm → Res D) (δ : Sm) : e2 k a b δ = (a δ).bind (c2 k b δ) := Eq.trans rfl rfl
theorem eA_eq (k : List D → Res D) (a : Sm → Res (List D)) (δ : Sm) : eA k a δ = (a δ).bind k := Eq.trans rfl rfl
theorem aNil_eq (δ : Sm) : aNil δ = .ok [] := Eq.trans rfl rfl
def cA2 (x : D) (xs : List D) : Res (List D) := .ok (x :: xs)
def cA (r : Sm → Res (List D)) (δ : Sm) (x : D) : Res (List D) := (r δ).bind (cA2 x)
theorem cA2_eq (x : D) (xs : List D) : cA2 x xs = .ok (x :: xs) := Eq.trans rfl rfl
theorem cA_eq (r : Sm → Res (List D)) (δ : Sm) (x : D) : cA r δ x = (r δ).bind (cA2 x) := Eq.trans rfl rfl
theorem aCons_eq (a : Sm → Res D) (r : Sm → Res (List D)) (δ : Sm) : aCons a r δ = (a δ).bind (cA r δ) := Eq.trans rfl rfl
def cC2 (fm : List D → Res D) (gD : List D → List D → List D) (ds es : List D) : Res D := fm (gD ds es)
def cC (fm : List D → Res D) (gD : List D → List D → List D) (fk : Sm → Res (List D)) (δ : Sm) (ds : List D) : Res D := (fk δ).bind (cC2 fm gD ds)
theorem cC2_eq (fm : List D → Res D) (gD : List D → List D → List D) (ds es : List D) : cC2 fm gD ds es = fm (gD ds es) := Eq.trans rfl rfl
theorem cC_eq (fm : List D → Res D) (gD : List D → List D → List D) (fk : Sm → Res (List D)) (δ : Sm) (ds : List D) : cC fm gD fk δ ds = (fk δ).bind (cC2 fm gD ds) := Eq.trans rfl rfl
theorem eCall_eq (fm : List D → Res D) (gD : List D → List D → List D) (fa fk : Sm → Res (List D)) (δ : Sm) : eCall fm gD fa fk δ = (fa δ).bind (cC fm gD fk δ) := Eq.trans rfl rfl
def cI {γ : Type} (a b : Sm → γ) (δ : Sm) (c : Bool) : γ := if c = true then a δ else b δ
theorem cI_t {γ : Type} (a b : Sm → γ) (δ : Sm) : cI a b δ true = a δ := Eq.trans rfl rfl
theorem cI_f {γ : Type} (a b : Sm → γ) (δ : Sm) : cI a b δ false = b δ := Eq.trans rfl rfl
theorem eIf_eq (t : Sm → Res Bool) (a b : Sm → Res D) (δ : Sm) : eIf t a b δ = (t δ).bind (cI a b δ) := Eq.trans rfl rfl
theorem tOf_eq (a : Sm → Res D) (δ : Sm) : tOf a δ = (a δ).bind asB := Eq.trans rfl rfl
theorem asB_bl (b : Bool) : asB (.bl b) = .ok b := Eq.trans rfl rfl
def cAnd (b : Sm → Res Bool) (δ : Sm) (c : Bool) : Res Bool := if c = true then b δ else .ok false
def cOr (b : Sm → Res Bool) (δ : Sm) (c : Bool) : Res Bool := if c = true then .ok true else b δ
def cNot (c : Bool) : Res Bool := .ok (!c)
theorem cAnd_t (b : Sm → Res Bool) (δ : Sm) : cAnd b δ true = b δ := Eq.trans rfl rfl
theorem cAnd_f (b : Sm → Res Bool) (δ : Sm) : cAnd b δ false = .ok false := Eq.trans rfl rfl
theorem cOr_t (b : Sm → Res Bool) (δ : Sm) : cOr b δ true = .ok true := Eq.trans rfl rfl
theorem cOr_f (b : Sm → Res Bool) (δ : Sm) : cOr b δ false = b δ := Eq.trans rfl rfl
theorem cNot_eq (c : Bool) : cNot c = .ok (!c) := Eq.trans rfl rfl
theorem tAnd2_eq (a b : Sm → Res Bool) (δ : Sm) : tAnd2 a b δ = (a δ).bind (cAnd b δ) := Eq.trans rfl rfl
theorem tOr2_eq (a b : Sm → Res Bool) (δ : Sm) : tOr2 a b δ = (a δ).bind (cOr b δ) := Eq.trans rfl rfl
theorem tNot1_eq (a : Sm → Res Bool) (δ : Sm) : tNot1 a δ = (a δ).bind cNot := Eq.trans rfl rfl
def cEA (b : Sm → Res D) (δ : Sm) (x : D) : Res D := match x with | .bl true => b δ | .bl false => .ok (.bl false) | _ => .bad
def cEO (b : Sm → Res D) (δ : Sm) (x : D) : Res D := match x with | .bl true => .ok (.bl true) | .bl false => b δ | _ => .bad
theorem cEA_t (b : Sm → Res D) (δ : Sm) : cEA b δ (.bl true) = b δ := Eq.trans rfl rfl
theorem cEA_f (b : Sm → Res D) (δ : Sm) : cEA b δ (.bl false) = .ok (.bl false) := Eq.trans rfl rfl
theorem cEO_t (b : Sm → Res D) (δ : Sm) : cEO b δ (.bl true) = .ok (.bl true) := Eq.trans rfl rfl
theorem cEO_f (b : Sm → Res D) (δ : Sm) : cEO b δ (.bl false) = b δ := Eq.trans rfl rfl
theorem eAnd_eq (a b : Sm → Res D) (δ : Sm) : eAnd a b δ = (a δ).bind (cEA b δ) := Eq.trans rfl rfl
theorem eOr_eq (a b : Sm → Res D) (δ : Sm) : eOr a b δ = (a δ).bind (cEO b δ) := Eq.trans rfl rfl
theorem mNext_eq (δ : Sm) : mNext δ = .nx δ := Eq.trans rfl rfl
theorem mSeq_eq (m n : Sm → Out) (δ : Sm) : mSeq m n δ = seqO (m δ) n := Eq.trans rfl rfl
def cSet (i : Nat) (δ : Sm) (d : D) : Out := .nx (δ.set i (.sh d))
theorem cSet_eq (i : Nat) (δ : Sm) (d : D) : cSet i δ d = .nx (δ.set i (.sh d)) := Eq.trans rfl rfl
theorem mSet_eq (i : Nat) (f : Sm → Res D) (δ : Sm) : mSet i f δ = (f δ).out δ (cSet i δ) := Eq.trans rfl rfl
theorem mRet_eq (f : Sm → Res D) (δ : Sm) : mRet f δ = (f δ).out δ .rt := Eq.trans rfl rfl
def cDrop (δ : Sm) (d : D) : Out := .nx δ
theorem cDrop_eq (δ : Sm) (d : D) : cDrop δ d = .nx δ := Eq.trans rfl rfl
theorem mDrop_eq (f : Sm → Res D) (δ : Sm) : mDrop f δ = (f δ).out δ (cDrop δ) := Eq.trans rfl rfl
theorem mRaise_eq (c : Str) (fs : List (Str × D)) (δ : Sm) : mRaise c fs δ = .xc c fs δ := Eq.trans rfl rfl
theorem mIf_eq (t : Sm → Res Bool) (m n : Sm → Out) (δ : Sm) : mIf t m n δ = (t δ).out δ (cI m n δ) := Eq.trans rfl rfl
def cAug2 (i : Nat) (k : D → D → Res D) (δ : Sm) (x y : D) : Out := (k x y).out δ (cSet i δ)
def cAug (i : Nat) (k : D → D → Res D) (f : Sm → Res D) (δ : Sm) (x : D) : Out := (f δ).out δ (cAug2 i k δ x)
theorem cAug2_eq (i : Nat) (k : D → D → Res D) (δ : Sm) (x y : D) : cAug2 i k δ x y = (k x y).out δ (cSet i δ) := Eq.trans rfl rfl
theorem cAug_eq (i : Nat) (k : D → D → Res D) (f : Sm → Res D) (δ : Sm) (x : D) : cAug i k f δ x = (f δ).out δ (cAug2 i k δ x) := Eq.trans rfl rfl
theorem mAug_eq (i : Nat) (k : D → D → Res D) (f : Sm → Res D) (δ : Sm) : mAug i k f δ = (eVar i δ).out δ (cAug i k f δ) := Eq.trans rfl rfl
theorem mSetL_nil {i : Nat} {δ : Sm} : mSetL i aNil δ = .nx (δ.set i (.ol [])) := Eq.trans rfl rfl
def asOl (o : Option O) : Res (List D) := match o with | some (.ol ds) => .ok ds | _ => .bad
theorem asOl_ol (ds : List D) : asOl (some (.ol ds)) = .ok ds := Eq.trans rfl rfl
def shortL (ds : List D) : Bool := decide (ds.length < 16777216)
theorem shortL_lt {ds : List D} (h : ds.length < 16777216) : shortL ds = true := decide_eq_true h
def cApp2 (i : Nat) (δ : Sm) (ds : List D) (d : D) : Out := if shortL ds = true then .nx (δ.set i (.ol (ds ++ [d]))) else .bad
def cApp (i : Nat) (f : Sm → Res D) (δ : Sm) (ds : List D) : Out := (f δ).out δ (cApp2 i δ ds)
theorem cApp2_ok (i : Nat) (δ : Sm) {ds : List D} (d : D) (h : shortL ds = true) : cApp2 i δ ds d = .nx (δ.set i (.ol (ds ++ [d]))) := if_pos h
theorem cApp_eq (i : Nat) (f : Sm → Res D) (δ : Sm) (ds : List D) : cApp i f δ ds = (f δ).out δ (cApp2 i δ ds) := Eq.trans rfl rfl
theorem mApp_eq (i : Nat) (f : Sm → Res D) (δ : Sm) : mApp i f δ = (asOl δ[i]?).out δ (cApp i f δ) := by
  show (match δ[i]? with | some (.ol ds) => (f δ).out δ fun d => if ds.length < 16777216 then .nx (δ.set i (.ol (ds ++ [d]))) else .bad | _ => .bad) = _
  cases h : δ[i]? with
  | none => rfl
  | some o =>
    cases o with
    | no => rfl
    | sh d => rfl
    | ot ks vs => rfl
    | ol ds =>
      rw [asOl_ol, out_ok]
      show (f δ).out δ _ = (f δ).out δ _
      congr 1
      funext d
      unfold cApp2 shortL
      simp only [decide_eq_true_eq]
theorem mFrz_eq (i : Nat) (m : Sm → Out) (δ : Sm) : mFrz i m δ = m (frz i δ) := Eq.trans rfl rfl
theorem frz_ol0 (ds : List D) (δ : Sm) : frz 0 (.ol ds :: δ) = .sh (.lst ds) :: δ := Eq.trans rfl rfl
theorem frz_S (i : Nat) (o : O) (δ : Sm) : frz (i + 1) (o :: δ) = o :: frz i δ := by
  unfold frz
  rw [List.getElem?_cons_succ]
  cases h : δ[i]? with
  | none => rfl
  | some x => cases x <;> rfl
def ltLen (i : Nat) (δ : Sm) : Bool := decide (i < δ.length)
theorem ltLen_0 (o : O) (δ : Sm) : ltLen 0 (o :: δ) = true := decide_eq_true (Nat.succ_pos _)
theorem ltLen_S (i : Nat) (o : O) (δ : Sm) : ltLen (i + 1) (o :: δ) = ltLen i δ := by
  unfold ltLen
  simp only [List.length_cons, Nat.add_lt_add_iff_right]
def hdO (i : Nat) (o : Out) : Out := match o with
      | .nx δ2 => .nx (δ2.set i .no)
      | .rt r => .rt r
      | .bk δ2 => .bk (δ2.set i .no)
      | .ct δ2 => .ct (δ2.set i .no)
      | _ => .bad
theorem hdO_rt (i : Nat) (d : D) : hdO i (.rt d) = .rt d := Eq.trans rfl rfl
theorem hdO_nx (i : Nat) (δ : Sm) : hdO i (.nx δ) = .nx (δ.set i .no) := Eq.trans rfl rfl
theorem hdO_bk (i : Nat) (δ : Sm) : hdO i (.bk δ) = .bk (δ.set i .no) := Eq.trans rfl rfl
theorem hdO_ct (i : Nat) (δ : Sm) : hdO i (.ct δ) = .ct (δ.set i .no) := Eq.trans rfl rfl
def hdI (i : Nat) (mh : List (Str × D) → Sm → Out) (fs : List (Str × D)) (δ : Sm) (b : Bool) : Out := if b = true then hdO i (mh fs (δ.set i .no)) else .bad
theorem hdI_t (i : Nat) (mh : List (Str × D) → Sm → Out) (fs : List (Str × D)) (δ : Sm) : hdI i mh fs δ true = hdO i (mh fs (δ.set i .no)) := Eq.trans rfl rfl
def tryO (i : Nat) (c : Str) (cs : List Str) (mh : List (Str × D) → Sm → Out) (o : Out) : Out := match o with
  | .xc c' fs δ' => if c' = c then (if i < δ'.length then hdO i (mh fs (δ'.set i .no)) else .bad) else if c' ∈ cs then .xc c' fs δ' else .bad
  | o => o
theorem tryO_rt (i : Nat) (c : Str) (cs : List Str) (mh : List (Str × D) → Sm → Out) (d : D) : tryO i c cs mh (.rt d) = .rt d := Eq.trans rfl rfl
theorem tryO_nx (i : Nat) (c : Str) (cs : List Str) (mh : List (Str × D) → Sm → Out) (d : Sm) : tryO i c cs mh (.nx d) = .nx d := Eq.trans rfl rfl
theorem tryO_xc (i : Nat) (c : Str) (cs : List Str) (mh : List (Str × D) → Sm → Out) (fs : List (Str × D)) (d : Sm) : tryO i c cs mh (.xc c fs d) = hdI i mh fs d (ltLen i d) := by
  unfold tryO hdI ltLen
  simp only [if_true, decide_eq_true_eq]
theorem mTry_eq (i : Nat) (c : Str) (cs : List Str) (mb : Sm → Out) (mh : List (Str × D) → Sm → Out) (δ : Sm) : mTry i c cs mb mh δ = tryO i c cs mh (mb δ) := by
  unfold mTry tryO hdO
  cases mb δ <;> rfl
def hOut (r : Res D) : Out := match r with | .ok d => .rt d | _ => .bad
theorem hOut_ok (d : D) : hOut (.ok d) = .rt d := Eq.trans rfl rfl
theorem hRet_eq (f : List (Str × D) → Sm → Res D) (fs : List (Str × D)) (δ : Sm) : hRet f fs δ = hOut (f fs δ) := Eq.trans rfl rfl
theorem hTup_eq (fl : List (Str × D) → Sm → Res (List D)) (fs : List (Str × D)) (δ : Sm) : hTup fl fs δ = (fl fs δ).bind kTup := Eq.trans rfl rfl
theorem hCons_eq (f : List (Str × D) → Sm → Res D) (fl : List (Str × D) → Sm → Res (List D)) (fs : List (Str × D)) (δ : Sm) : hCons f fl fs δ = (f fs δ).bind (cA (fl fs) δ) := Eq.trans rfl rfl
theorem hNil_eq (fs : List (Str × D)) (δ : Sm) : hNil fs δ = .ok [] := Eq.trans rfl rfl
theorem hBl_eq (b : Bool) (fs : List (Str × D)) (δ : Sm) : hBl b fs δ = .ok (.bl b) := Eq.trans rfl rfl
theorem hLift_eq (f : Sm → Res D) (fs : List (Str × D)) (δ : Sm) : hLift f fs δ = f δ := Eq.trans rfl rfl
theorem xFld_0 (n : Str) (d : D) (fs : List (Str × D)) (δ : Sm) : xFld n ((n, d) :: fs) δ = .ok d := by
  unfold xFld
  simp only [List.lookup, beq_self_eq_true]
def cFor (gt : D → Sm → Res Sm) (b : Sm → Out) (δ : Sm) (ds : List D) : Out := forL gt b ds δ
theorem cFor_eq (gt : D → Sm → Res Sm) (b : Sm → Out) (δ : Sm) (ds : List D) : cFor gt b δ ds = forL gt b ds δ := Eq.trans rfl rfl
theorem mFor_eq (it : Sm → Res (List D)) (gt : D → Sm → Res Sm) (b : Sm → Out) (δ : Sm) : mFor it gt b δ = (it δ).out δ (cFor gt b δ) := Eq.trans rfl rfl
theorem mWhile_eq (n : Nat) (t : Sm → Res Bool) (b : Sm → Out) (δ : Sm) : mWhile n t b δ = whL t b n δ := Eq.trans rfl rfl
def cPar (i j : Nat) (δ : Sm) (ds : List D) : Out := match ds with | [x, y] => .nx ((δ.set i (.sh x)).set j (.sh y)) | _ => .bad
theorem cPar_2 (i j : Nat) (δ : Sm) (x y : D) : cPar i j δ [x, y] = .nx ((δ.set i (.sh x)).set j (.sh y)) := Eq.trans rfl rfl
theorem mPar_eq (i j : Nat) (f : Sm → Res (List D)) (δ : Sm) : mPar i j f δ = (f δ).out δ (cPar i j δ) := Eq.trans rfl rfl
def asgO (r : Res Sm) : Out := match r with | .ok δ1 => .nx δ1 | _ => .bad
def cAsg (gt : D → Sm → Res Sm) (δ : Sm) (d : D) : Out := asgO (gt d δ)
theorem asgO_ok (δ : Sm) : asgO (.ok δ) = .nx δ := Eq.trans rfl rfl
theorem cAsg_eq (gt : D → Sm → Res Sm) (δ : Sm) (d : D) : cAsg gt δ d = asgO (gt d δ) := Eq.trans rfl rfl
theorem mAsg_eq (f : Sm → Res D) (gt : D → Sm → Res Sm) (δ : Sm) : mAsg f gt δ = (f δ).out δ (cAsg gt δ) := Eq.trans rfl rfl
def pk (its : List D) (ps : List Pk) (ds es : List D) : List D := pick ds es its ps
theorem pk_eq (its : List D) (ps : List Pk) (ds es : List D) : pk its ps ds es = pick ds es its ps := Eq.trans rfl rfl
theorem gtN_eq (j : Nat) (d : D) (δ : Sm) : gtN j d δ = .ok (δ.set j (.sh d)) := Eq.trans rfl rfl
theorem gtT_tup (n : Nat) (r : List D → Sm → Res Sm) (ds : List D) (δ : Sm) : gtT n r (.tup ds) δ = if ds.length = n then r ds δ else .bad := Eq.trans rfl rfl
theorem gtCons_cons (a : D → Sm → Res Sm) (r : List D → Sm → Res Sm) (d : D) (ds : List D) (δ : Sm) : gtCons a r (d :: ds) δ = (a d δ).bind fun δ1 => r ds δ1 := Eq.trans rfl rfl
theorem gtNil_nil (δ : Sm) : gtNil [] δ = .ok δ := Eq.trans rfl rfl
theorem itOf_eq (k : D → Res (List D)) (f : Sm → Res D) (δ : Sm) : itOf k f δ = (f δ).bind k := Eq.trans rfl rfl
theorem itA_eq (k : List D → Res (List D)) (f : Sm → Res (List D)) (δ : Sm) : itA k f δ = (f δ).bind k := Eq.trans rfl rfl
theorem asL_lst (ds : List D) : asL (.lst ds) = .ok ds := Eq.trans rfl rfl
theorem asT_tup (ds : List D) : asT (.tup ds) = .ok ds := Eq.trans rfl rfl
theorem pick_nil (us ws its : List α) : pick us ws its [] = [] := Eq.trans rfl rfl
theorem pick_p (us ws its : List α) (i : Nat) (r : List Pk) : pick us ws its (.p i :: r) = (us[i]?).toList ++ pick us ws its r := Eq.trans rfl rfl
theorem pick_k (us ws its : List α) (i : Nat) (r : List Pk) : pick us ws its (.k i :: r) = (ws[i]?).toList ++ pick us ws its r := Eq.trans rfl rfl
theorem pick_d (us ws its : List α) (i : Nat) (r : List Pk) : pick us ws its (.d i :: r) = (its[i]?).toList ++ pick us ws its r := Eq.trans rfl rfl
theorem toList_some (a : α) : (some a).toList = [a] := Eq.trans rfl rfl
theorem get0 (a : α) (l : List α) : (a :: l)[0]? = some a := Eq.trans rfl rfl
theorem getS (a : α) (l : List α) (n : Nat) : (a :: l)[n + 1]? = l[n]? := Eq.trans rfl rfl
theorem set0 (a b : α) (l : List α) : (a :: l).set 0 b = b :: l := Eq.trans rfl rfl
theorem setS (a b : α) (l : List α) (n : Nat) : (a :: l).set (n + 1) b = a :: l.set n b := Eq.trans rfl rfl
theorem kTup1 (a : D) : kTup [a] = .ok (.tup [a]) := Eq.trans rfl rfl
theorem kTup2 (a b : D) : kTup [a, b] = .ok (.tup [a, b]) := Eq.trans rfl rfl
theorem kTup3 (a b c : D) : kTup [a, b, c] = .ok (.tup [a, b, c]) := Eq.trans rfl rfl
theorem kTup4 (a b c d : D) : kTup [a, b, c, d] = .ok (.tup [a, b, c, d]) := Eq.trans rfl rfl
theorem kIsN_non : kIsN .non .non = .ok (.bl true) := Eq.trans rfl rfl
theorem kIsN_int (i : Int) : kIsN (.int i) .non = .ok (.bl false) := Eq.trans rfl rfl
theorem kIsN_tup (xs : List D) : kIsN (.tup xs) .non = .ok (.bl false) := Eq.trans rfl rfl
theorem kIsN_lst (xs : List D) : kIsN (.lst xs) .non = .ok (.bl false) := Eq.trans rfl rfl
theorem kIsN_str (x : Str) : kIsN (.str x) .non = .ok (.bl false) := Eq.trans rfl rfl
theorem kIsN_bl (x : Bool) : kIsN (.bl x) .non = .ok (.bl false) := Eq.trans rfl rfl
theorem kNotN_non : kNotN .non .non = .ok (.bl false) := Eq.trans rfl rfl
theorem kNotN_int (i : Int) : kNotN (.int i) .non = .ok (.bl true) := Eq.trans rfl rfl
theorem kNotN_tup (xs : List D) : kNotN (.tup xs) .non = .ok (.bl true) := Eq.trans rfl rfl
theorem kNotN_lst (xs : List D) : kNotN (.lst xs) .non = .ok (.bl true) := Eq.trans rfl rfl
theorem kNotN_str (x : Str) : kNotN (.str x) .non = .ok (.bl true) := Eq.trans rfl rfl
theorem kNotN_bl (x : Bool) : kNotN (.bl x) .non = .ok (.bl true) := Eq.trans rfl rfl
theorem kIx_tup (ds : List D) (i : Int) : kIx (.tup ds) (.int i) = atD ds i := Eq.trans rfl rfl
theorem kIx_lst (ds : List D) (i : Int) : kIx (.lst ds) (.int i) = atD ds i := Eq.trans rfl rfl
theorem atD_nat {ds : List D} {i : Int} {d : D} (h0 : 0 ≤ i) (h : ds[i.toNat]? = some d) : atD ds i = .ok d := by
  have z := atI_nat h
  rw [Int.toNat_of_nonneg h0] at z
  unfold atD
  rw [z]
theorem atD_0 (a : D) (ds : List D) : atD (a :: ds) 0 = .ok a := atD_nat (by decide) rfl
theorem atD_1 (a b : D) (ds : List D) : atD (a :: b :: ds) 1 = .ok b := atD_nat (by decide) rfl
theorem atD_2 (a b c : D) (ds : List D) : atD (a :: b :: c :: ds) 2 = .ok c := atD_nat (by decide) rfl
theorem atD_3 (a b c d : D) (ds : List D) : atD (a :: b :: c :: d :: ds) 3 = .ok d := atD_nat (by decide) rfl
theorem atD_4 (a b c d e : D) (ds : List D) : atD (a :: b :: c :: d :: e :: ds) 4 = .ok e := atD_nat (by decide) rfl
theorem atD_5 (a b c d e f : D) (ds : List D) : atD (a :: b :: c :: d :: e :: f :: ds) 5 = .ok f := atD_nat (by decide) rfl
theorem atD_6 (a b c d e f g : D) (ds : List D) : atD (a :: b :: c :: d :: e :: f :: g :: ds) 6 = .ok g := atD_nat (by decide) rfl
theorem kNeg_ok (i : Int) : kNeg (.int i) = .ok (.int (-i)) := Eq.trans rfl rfl
theorem kNot_bl (b : Bool) : kNot (.bl b) = .ok (.bl (!b)) := Eq.trans rfl rfl
def cSl2 (k : D → Option Int → Option Int → Res D) (hi : Sm → Res (Option Int)) (δ : Sm) (d : D) (l : Option Int) : Res D := (hi δ).bind (k d l)
def cSl (k : D → Option Int → Option Int → Res D) (lo hi : Sm → Res (Option Int)) (δ : Sm) (d : D) : Res D := (lo δ).bind (cSl2 k hi δ d)
theorem cSl2_eq (k : D → Option Int → Option Int → Res D) (hi : Sm → Res (Option Int)) (δ : Sm) (d : D) (l : Option Int) : cSl2 k hi δ d l = (hi δ).bind (k d l) := Eq.trans rfl rfl
theorem cSl_eq (k : D → Option Int → Option Int → Res D) (lo hi : Sm → Res (Option Int)) (δ : Sm) (d : D) : cSl k lo hi δ d = (lo δ).bind (cSl2 k hi δ d) := Eq.trans rfl rfl
theorem eSl_eq (k : D → Option Int → Option Int → Res D) (f : Sm → Res D) (lo hi : Sm → Res (Option Int)) (δ : Sm) : eSl k f lo hi δ = (f δ).bind (cSl k lo hi δ) := Eq.trans rfl rfl
theorem oNone_eq (δ : Sm) : oNone δ = .ok none := Eq.trans rfl rfl
def asOI (d : D) : Res (Option Int) := match d with | .int i => .ok (some i) | _ => .bad
theorem asOI_int (i : Int) : asOI (.int i) = .ok (some i) := Eq.trans rfl rfl
theorem oSome_eq (f : Sm → Res D) (δ : Sm) : oSome f δ = (f δ).bind asOI := Eq.trans rfl rfl
theorem kSlL_lst (ds : List D) (lo hi : Option Int) : kSlL (.lst ds) lo hi = .ok (.lst (cutD ds lo hi)) := Eq.trans rfl rfl
theorem kSlL_scr (ns : List Int) (lo hi : Option Int) : kSlL (.scr ns) lo hi = .ok (.lst (cutD (ns.map D.int) lo hi)) := Eq.trans rfl rfl
theorem kCat_ok {xs ys : List D} (h : xs.length + ys.length ≤ 16777216) : kCat (.lst xs) (.lst ys) = .ok (.lst (xs ++ ys)) := if_pos h
theorem kLen_lst (ds : List D) : kLen [.lst ds] = .ok (.int ds.length) := Eq.trans rfl rfl
theorem kLen_tup (ds : List D) : kLen [.tup ds] = .ok (.int ds.length) := Eq.trans rfl rfl
theorem kAll_lst (ds : List D) : kAll [.lst ds] = (bools ds).bind fun bs => .ok (.bl (bs.all id)) := Eq.trans rfl rfl
theorem kIsi_eq (T : BT) (d : D) : kIsi T d = (match isD T d with | some b => .ok (.bl b) | none => .bad) := Eq.trans rfl rfl
theorem cut_most {α : Type} (f : α → D) (ns : List α) (k : Nat) : (cutD (ns.map f) none (some (k : Int))) = (ns.take k).map f := by
  unfold cutD
  rw [HT.sIx_none, HT.sIx_nat, List.drop_zero, Nat.sub_zero, List.length_map, ← List.map_take]
  congr 1
  by_cases h : k ≤ ns.length
  · rw [Nat.min_eq_left h]
  · rw [Nat.min_eq_right (by omega), List.take_of_length_le (Nat.le_refl _), List.take_of_length_le (by omega)]
theorem inR_nat {n : Nat} (h : n ≤ 1000000) : inR (n : Int) = true := decide_eq_true ⟨by omega, by omega⟩
theorem inR_int {n : Int} (h : -1000000000 ≤ n ∧ n ≤ 1000000000) : inR n = true := decide_eq_true ⟨by omega, by omega⟩
theorem kRng1_eq (j : Int) : kRng1 [.int j] = if inR j = true then .ok (rangeD 0 j.toNat) else .bad := Eq.trans rfl rfl
theorem kRng1_nat {n : Nat} (h : n ≤ 1000000) : kRng1 [.int (n : Int)] = .ok (rangeD 0 n) := by
  rw [kRng1_eq, if_pos (inR_nat h), Int.toNat_natCast]
theorem rangeD_len (i : Int) (n : Nat) : (rangeD i n).length = n := by
  unfold rangeD
  rw [List.length_map, List.length_range]
theorem rangeD_mem {i : Int} {n : Nat} {d : D} (h : d ∈ rangeD i n) : ∃ k : Nat, k < n ∧ d = .int (i + (k : Nat)) := by
  unfold rangeD at h
  obtain ⟨k, hk, rfl⟩ := List.mem_map.mp h
  exact ⟨k, List.mem_range.mp hk, rfl⟩
theorem lcL_all {gt : D → Sm → Res Sm} {t : Sm → Res Bool} {e : Sm → Res D} {δ0 : Sm} (v : D → D) : ∀ {ds : List D}, (∀ d ∈ ds, ∃ δ1, gt d δ0 = .ok δ1 ∧ t δ1 = .ok true ∧ e δ1 = .ok (v d)) → lcL gt t e δ0 ds = .ok (ds.map v)
  | [], _ => rfl
  | d :: ds, h => by
    obtain ⟨δ1, h1, h2, h3⟩ := h d (List.mem_cons_self ..)
    unfold lcL
    rw [h1]
    simp only [h2, h3, lcL_all v (ds := ds) (fun d hd => h d (List.mem_cons_of_mem _ hd)), List.map_cons]
theorem eLc_all {it : Sm → Res (List D)} {gt : D → Sm → Res Sm} {t : Sm → Res Bool} {e : Sm → Res D} {vs : List Nat} {δ : Sm} {ds : List D} (v : D → D) (hit : it δ = .ok ds) (hl : ds.length ≤ 16777216)
    (h : ∀ d ∈ ds, ∃ δ1, gt d ((wipeD vs δ).map hideO) = .ok δ1 ∧ t δ1 = .ok true ∧ e δ1 = .ok (v d)) : eLc it gt t e vs δ = .ok (.lst (ds.map v)) := by
  unfold eLc lcR
  rw [hit]
  simp only [bind_ok, if_pos hl, lcL_all v h]
theorem bools_true : ∀ (ds : List D), (∀ d ∈ ds, d = .bl true) → ∃ bs, bools ds = .ok bs ∧ bs.all id = true
  | [], _ => ⟨[], rfl, rfl⟩
  | d :: ds, h => by
    obtain ⟨bs, h1, h2⟩ := bools_true ds fun x hx => h x (List.mem_cons_of_mem _ hx)
    have e := h d (List.mem_cons_self ..)
    subst e
    refine ⟨true :: bs, ?_, ?_⟩
    · show (bools ds).bind _ = _
      rw [h1]
      rfl
    · rw [List.all_cons, h2]
      rfl
theorem kAll_true {α : Type} (ds : List α) : kAll [.lst (ds.map fun _ => .bl true)] = .ok (.bl true) := by
  obtain ⟨bs, hb1, hb2⟩ := bools_true (ds.map fun _ => D.bl true) fun d hd => by
    obtain ⟨_, _, rfl⟩ := List.mem_map.mp hd
    rfl
  rw [kAll_lst, hb1, bind_ok, hb2]
theorem kLst2 (a b : D) : kLst [a, b] = .ok (.lst [a, b]) := Eq.trans rfl rfl
theorem kLst1 (a : D) : kLst [a] = .ok (.lst [a]) := Eq.trans rfl rfl
theorem kLst0 : kLst [] = .ok (.lst []) := Eq.trans rfl rfl
theorem kLst3 (a b c : D) : kLst [a, b, c] = .ok (.lst [a, b, c]) := Eq.trans rfl rfl
theorem kLst4 (a b c d : D) : kLst [a, b, c, d] = .ok (.lst [a, b, c, d]) := Eq.trans rfl rfl
theorem kLst5 (a b c d e : D) : kLst [a, b, c, d, e] = .ok (.lst [a, b, c, d, e]) := Eq.trans rfl rfl
theorem kLst6 (a b c d e f : D) : kLst [a, b, c, d, e, f] = .ok (.lst [a, b, c, d, e, f]) := Eq.trans rfl rfl
theorem kLst7 (a b c d e f g : D) : kLst [a, b, c, d, e, f, g] = .ok (.lst [a, b, c, d, e, f, g]) := Eq.trans rfl rfl
theorem kLst8 (a b c d e f g h : D) : kLst [a, b, c, d, e, f, g, h] = .ok (.lst [a, b, c, d, e, f, g, h]) := Eq.trans rfl rfl
theorem kLst9 (a b c d e f g h i : D) : kLst [a, b, c, d, e, f, g, h, i] = .ok (.lst [a, b, c, d, e, f, g, h, i]) := Eq.trans rfl rfl
theorem kTup5 (a b c d e : D) : kTup [a, b, c, d, e] = .ok (.tup [a, b, c, d, e]) := Eq.trans rfl rfl
theorem kTup6 (a b c d e f : D) : kTup [a, b, c, d, e, f] = .ok (.tup [a, b, c, d, e, f]) := Eq.trans rfl rfl
end Pd

set_option Elab.async false
set_option linter.all false
set_option maxRecDepth 100000
set_option maxHeartbeats 4000000
namespace Pd
open PySem L2
def kRev : List D → Res (List D)
  | [.lst ds] => .ok ds.reverse
  | _ => .bad
section
variable {X : Cx} {ca : Str → Addr} {W : WX} {tg a b : Expr} {fa fb : Sm → Res D} {fl : Sm → Res (List D)} {pos p : Pos}
def kList : List D → Res D
  | [.lst ds] => .ok (.lst ds)
  | [.tup ds] => .ok (.lst ds)
  | _ => .bad
def kMin2 : List D → Res D
  | [.int i, .int j] => .ok (.int (if j < i then j else i))
  | _ => .bad
def kMax2 : List D → Res D
  | [.int i, .int j] => .ok (.int (if j > i then j else i))
  | _ => .bad
theorem kn_min2 : KN ⟨X.K, ca, X.w⟩ (fun xs H Q => ∃ i j, xs = [.int i, .int j] ∧ Q (.int (if j < i then j else i)) H) kMin2 := by
  intro W σ δ Hc H0c H0 H xs as Q S r p
  cases r with
  | nil => exact p.elim
  | cons q r =>
    cases r with
    | nil => cases q <;> exact p.elim
    | cons q2 r =>
      cases r with
      | nil =>
        cases q with
        | int i =>
          cases q2 with
          | int j => exact ⟨i, j, rfl, Post.now S p (.int _)⟩
          | _ => exact p.elim
        | _ => cases q2 <;> exact p.elim
      | cons _ _ => cases q <;> cases q2 <;> exact p.elim
theorem pd_min2 (hc : X.calm = true) (hm : X.mg "min" = none) (ha : PDA X ca W [a, b] fl) (hg : Gl X "min" := by rfl) (he : starEach [a, b] X.env = (false, eval a X.env) :: starEach [b] X.env := by rfl) (hpl : (backTo pos (starEach [b] X.env)).any (·.1) = false := by rfl) : PD X ca W (.Call (.Name "min" p) [a, b] [] pos) (eA kMin2 fl) := pd_callB (call_min2 hc) kn_min2 hm (by decide +kernel) ha hg (by decide) (by decide) he hpl
def kRepD (ds : List D) : D → Res D
  | .int k => if -(2 ^ 62) ≤ k ∧ k < 2 ^ 62 ∧ ds.length ≤ 16777216 ∧ ds.length * k.toNat ≤ 16777216 then .ok (.lst (List.replicate k.toNat ds).flatten) else .bad
  | _ => .bad
def eRep (fl : Sm → Res (List D)) (fk : Sm → Res D) : Sm → Res D := fun δ => (fl δ).bind fun ds => if ds.length ≤ 16777216 then (fk δ).bind (kRepD ds) else .bad
theorem rpA_rep {g : G} {H : Hp} {vs : List V} {ds : List D} (r : RpA g H vs ds) : ∀ n : Nat, RpA g H (List.replicate n vs).flatten (List.replicate n ds).flatten
  | 0 => .nil
  | n + 1 => by
    rw [List.replicate_succ, List.replicate_succ, List.flatten_cons, List.flatten_cons]
    exact r.append (rpA_rep r n)
theorem pd_rep {es : List Expr} {fk : Sm → Res D} {k : Expr} {pos2 : Pos} (h : PDA X ca W es fl) (hk : PD X ca W k fk) : PD X ca W (.BinOp (.List es pos2) .Mult k pos) (eRep fl fk) := by
  refine peI (pe_op op_rep (pe_lst h) hk) fun σ H Q h => ?_
  obtain ⟨Hc, H0c, H0, δ, S, p⟩ := h
  refine Post.bind S p fun xs ds A1 B1 w1 S1 r1 p1 => ?_
  have hl := r1.length
  by_cases z : ds.length ≤ 16777216
  · rw [if_pos z] at p1
    refine ⟨szl (by rw [hl]; exact z), fun q hq => ?_⟩
    have w2 : Grow A1 B1 (upd A1 q (.lst xs)) (upd B1 q (.lst xs)) := Grow.new S1.s0 hq
    refine Post.bind (S1.grow w2) (Post.grow w2 p1) fun x d A2 B2 w3 S2 r2 p2 => ?_
    cases r2 with
    | int k =>
      have p3 : Post ⟨X.K, ca, X.w⟩ W σ A2 B2 (Rp ⟨X.K, ca, X.w⟩) Q (if -(2 ^ 62) ≤ k ∧ k < 2 ^ 62 ∧ ds.length ≤ 16777216 ∧ ds.length * k.toNat ≤ 16777216 then .ok (.lst (List.replicate k.toNat ds).flatten) else .bad) := p2
      by_cases y : -(2 ^ 62) ≤ k ∧ k < 2 ^ 62 ∧ ds.length ≤ 16777216 ∧ ds.length * k.toNat ≤ 16777216
      · rw [if_pos y] at p3
        refine ⟨q, k, xs, rfl, rfl, ?_, by omega, by omega, szl (by rw [hl]; exact y.2.2.2), fun p4 hp => Post.new S2 p3 hp (.lst (.inl upd_same) ((rpA_rep (r1.mono (w2.up0.trans w3.up0)) k.toNat).mono (Grow.new S2.s0 hp).up0))⟩
        exact w3.up _ _ upd_same
      · rw [if_neg y] at p3
        exact p3.elim
    | _ => exact p2.elim
  · rw [if_neg z] at p1
    exact p1.elim
def cRep (fk : Sm → Res D) (δ : Sm) (ds : List D) : Res D := if ds.length ≤ 16777216 then (fk δ).bind (kRepD ds) else .bad
theorem eRep_eq (fl : Sm → Res (List D)) (fk : Sm → Res D) (δ : Sm) : eRep fl fk δ = (fl δ).bind (cRep fk δ) := Eq.trans rfl rfl
theorem cRep_1 (fk : Sm → Res D) (δ : Sm) (a : D) : cRep fk δ [a] = (fk δ).bind (kRepD [a]) := Eq.trans rfl rfl
theorem rep1_flat (a : D) : ∀ n : Nat, (List.replicate n [a]).flatten = List.replicate n a
  | 0 => rfl
  | n + 1 => by rw [List.replicate_succ, List.flatten_cons, rep1_flat a n, List.replicate_succ]; rfl
theorem kRepD_1 (a : D) (k : Int) (h : 0 ≤ k ∧ k ≤ 1000000) : kRepD [a] (.int k) = .ok (.lst (List.replicate k.toNat a)) := by
  have e : ([a] : List D).length = 1 := rfl
  have z : -(2 ^ 62) ≤ k ∧ k < 2 ^ 62 ∧ [a].length ≤ 16777216 ∧ [a].length * k.toNat ≤ 16777216 := by rw [e]; omega
  rw [← rep1_flat a k.toNat]
  exact if_pos z
theorem kRev_lst (ds : List D) : kRev [.lst ds] = .ok ds.reverse := Eq.trans rfl rfl
theorem kList_lst (ds : List D) : kList [.lst ds] = .ok (.lst ds) := Eq.trans rfl rfl
theorem kList_tup (ds : List D) : kList [.tup ds] = .ok (.lst ds) := Eq.trans rfl rfl
theorem kMin2_eq (i j : Int) : kMin2 [.int i, .int j] = .ok (.int (if j < i then j else i)) := Eq.trans rfl rfl
theorem kMax2_eq (i j : Int) : kMax2 [.int i, .int j] = .ok (.int (if j > i then j else i)) := Eq.trans rfl rfl
end
end Pd

set_option Elab.async false
set_option linter.all false
set_option maxRecDepth 100000
set_option maxHeartbeats 4000000
set_option exponentiation.threshold 5000
namespace Pd
open PySem L2
theorem gcd_step (x y : Nat) : Nat.gcd y (x % y) = Nat.gcd x y := by
  rw [Nat.gcd_comm y, ← Nat.gcd_rec, Nat.gcd_comm]
theorem gcd_pos {a b : Int} (hb : b ≠ 0) : 0 < (Int.gcd a b : Int) := by
  have : 0 < Int.gcd a b := Int.gcd_pos_of_ne_zero_right a hb
  omega
theorem gcd_le {a b : Int} (hb : b ≠ 0) : Int.gcd a b ≤ b.natAbs := Nat.le_of_dvd (by omega) (Nat.gcd_dvd_right _ _)
theorem gcd_div {a b x : Int} (hb : b ≠ 0) (hl : b.natAbs < 2 ^ 4000) : divOk x (Int.gcd a b : Int) = true :=
  divOk_lt (b := 4000) (gcd_pos hb) (by have := gcd_le (a := a) hb; omega) (by omega)
def lowD (a b : Int) : D := .tup [.int (a / (Int.gcd a b : Int)), .int (b / (Int.gcd a b : Int))]
def qD (r : Rat) : D := .tup [.int r.num, .int (r.den : Int)]
theorem low_norm (n : Int) (d : Nat) (h : d ≠ 0) : lowD n d = qD (Rat.normalize n d h) := by
  rw [Rat.normalize_eq]
  unfold lowD qD
  have e : Int.gcd n (d : Int) = n.natAbs.gcd d := rfl
  rw [e]
  simp only [Int.natCast_ediv]
theorem low_div (n : Int) (d : Int) (h : 0 < d) : lowD n d = qD (Rat.divInt n d) := by
  obtain ⟨k, rfl⟩ := Int.eq_ofNat_of_zero_le (Int.le_of_lt h)
  have hk : k ≠ 0 := by omega
  rw [low_norm n k hk]
  congr 1
  rw [Rat.normalize_eq_mkRat hk, Rat.divInt_ofNat]
theorem low_add (r s : Rat) : lowD (r.num * s.den + s.num * r.den) (r.den * s.den) = qD (r + s) := by
  rw [Rat.add_def, ← low_norm, Int.natCast_mul]
theorem low_sub (r s : Rat) : lowD (r.num * s.den - s.num * r.den) (r.den * s.den) = qD (r - s) := by
  rw [Rat.sub_def, ← low_norm, Int.natCast_mul]
def Sz (n : Nat) (r : Rat) : Prop := r.num.natAbs < 2 ^ n ∧ r.den < 2 ^ n
theorem Sz.le {n m : Nat} {r : Rat} (h : Sz n r) (hm : n ≤ m) : Sz m r := ⟨Nat.lt_of_lt_of_le h.1 (Nat.pow_le_pow_right (by omega) hm), Nat.lt_of_lt_of_le h.2 (Nat.pow_le_pow_right (by omega) hm)⟩
theorem norm_le (n : Int) (d : Nat) (h : d ≠ 0) : (Rat.normalize n d h).num.natAbs ≤ n.natAbs ∧ (Rat.normalize n d h).den ≤ d := by
  rw [Rat.normalize_eq]
  refine ⟨?_, Nat.div_le_self ..⟩
  show (n / ((n.natAbs.gcd d : Nat) : Int)).natAbs ≤ n.natAbs
  have hp : 0 < n.natAbs.gcd d := Nat.gcd_pos_of_pos_right _ (by omega)
  exact Int.natAbs_ediv_le_natAbs ..
theorem sz_norm {n : Int} {d : Nat} {h : d ≠ 0} {k : Nat} (h1 : n.natAbs < 2 ^ k) (h2 : d < 2 ^ k) : Sz k (Rat.normalize n d h) :=
  ⟨Nat.lt_of_le_of_lt (norm_le n d h).1 h1, Nat.lt_of_le_of_lt (norm_le n d h).2 h2⟩
theorem bits_mul {a b n m : Nat} (h1 : a < 2 ^ n) (h2 : b < 2 ^ m) : a * b < 2 ^ (n + m) := by
  rw [Nat.pow_add]
  exact Nat.mul_lt_mul'' h1 h2
theorem sz_add {r s : Rat} {n m : Nat} (hr : Sz n r) (hs : Sz m s) : Sz (n + m + 1) (r + s) := by
  rw [Rat.add_def]
  have a := bits_mul hr.1 hs.2
  have b := bits_mul hr.2 hs.1
  have c := bits_mul hr.2 hs.2
  have e : (2 : Nat) ^ (n + m + 1) = 2 * 2 ^ (n + m) := by rw [Nat.pow_succ, Nat.mul_comm]
  refine sz_norm ?_ (by omega)
  have t : (r.num * (s.den : Int) + s.num * (r.den : Int)).natAbs ≤ r.num.natAbs * s.den + r.den * s.num.natAbs := by
    refine Nat.le_trans (Int.natAbs_add_le _ _) ?_
    rw [Int.natAbs_mul, Int.natAbs_mul, Int.natAbs_natCast, Int.natAbs_natCast, Nat.mul_comm s.num.natAbs]
    exact Nat.le_refl _
  omega
theorem sz_sub {r s : Rat} {n m : Nat} (hr : Sz n r) (hs : Sz m s) : Sz (n + m + 1) (r - s) := by
  rw [Rat.sub_def]
  have a := bits_mul hr.1 hs.2
  have b := bits_mul hr.2 hs.1
  have c := bits_mul hr.2 hs.2
  have e : (2 : Nat) ^ (n + m + 1) = 2 * 2 ^ (n + m) := by rw [Nat.pow_succ, Nat.mul_comm]
  refine sz_norm ?_ (by omega)
  have t : (r.num * (s.den : Int) - s.num * (r.den : Int)).natAbs ≤ r.num.natAbs * s.den + r.den * s.num.natAbs := by
    refine Nat.le_trans (Int.natAbs_sub_le _ _) ?_
    rw [Int.natAbs_mul, Int.natAbs_mul, Int.natAbs_natCast, Int.natAbs_natCast, Nat.mul_comm s.num.natAbs]
    exact Nat.le_refl _
  omega
theorem sz_div {a b : Int} {n : Nat} (hb : 0 < b) (h1 : a.natAbs < 2 ^ n) (h2 : b.natAbs < 2 ^ n) : Sz n (Rat.divInt a b) := by
  obtain ⟨k, rfl⟩ := Int.eq_ofNat_of_zero_le (Int.le_of_lt hb)
  have hk : k ≠ 0 := by omega
  rw [Rat.divInt_ofNat, ← Rat.normalize_eq_mkRat hk]
  exact sz_norm h1 (by omega)
theorem mulSz {i j : Int} {n m : Nat} (h1 : i.natAbs < 2 ^ n) (h2 : j.natAbs < 2 ^ m) (h : n + m ≤ 100000) : mulOk i j = true :=
  mulOk_lt (a := n + 1) (b := m + 1) (Nat.lt_of_lt_of_le h1 (Nat.pow_le_pow_right (by omega) (by omega))) (Nat.lt_of_lt_of_le h2 (Nat.pow_le_pow_right (by omega) (by omega))) (by omega)
mutual
def nice : Nat → D → Bool
  | _, .non => true
  | _, .bl _ => true
  | _, .int _ => true
  | n + 1, .lst xs => niceA n xs
  | n + 1, .tup xs => niceA n xs
  | _, _ => false
def niceA : Nat → List D → Bool
  | _, [] => true
  | n, d :: ds => nice n d && niceA n ds
end
mutual
theorem nice_ok : ∀ (n : Nat) (d : D), nice n d = true → plain d = true ∧ (toPy d).canLay0 = true ∧ (toPy d).depth ≤ n
  | n, .non, _ => ⟨rfl, by simp only [toPy, PyData.canLay0], by simp only [toPy, PyData.depth]; omega⟩
  | n, .bl _, _ => ⟨rfl, by simp only [toPy, PyData.canLay0], by simp only [toPy, PyData.depth]; omega⟩
  | n, .int _, _ => ⟨rfl, by simp only [toPy, PyData.canLay0], by simp only [toPy, PyData.depth]; omega⟩
  | n + 1, .lst xs, h => by
    have h' : niceA n xs = true := by simpa only [nice] using h
    obtain ⟨a, b, c⟩ := niceA_ok n xs h'
    exact ⟨by simpa only [plain] using a, by simpa only [toPy, PyData.canLay0] using b, by simp only [toPy, PyData.depth]; omega⟩
  | n + 1, .tup xs, h => by
    have h' : niceA n xs = true := by simpa only [nice] using h
    obtain ⟨a, b, c⟩ := niceA_ok n xs h'
    exact ⟨by simpa only [plain] using a, by simpa only [toPy, PyData.canLay0] using b, by simp only [toPy, PyData.depth]; omega⟩
  | 0, .lst xs, h => by simp only [nice] at h; cases h
  | 0, .tup xs, h => by simp only [nice] at h; cases h
  | 0, .str xs, h => by simp only [nice] at h; cases h
  | n + 1, .str xs, h => by simp only [nice] at h; cases h
  | 0, .obj .., h => by simp only [nice] at h; cases h
  | n + 1, .obj .., h => by simp only [nice] at h; cases h
  | 0, .scr .., h => by simp only [nice] at h; cases h
  | n + 1, .scr .., h => by simp only [nice] at h; cases h
theorem niceA_ok : ∀ (n : Nat) (ds : List D), niceA n ds = true → plainA ds = true ∧ PyData.canLayAll0 (toPyA ds) = true ∧ PyData.depthAll (toPyA ds) ≤ n
  | n, [], _ => ⟨rfl, by simp only [toPyA, PyData.canLayAll0], by simp only [toPyA, PyData.depthAll]; omega⟩
  | n, d :: ds, h => by
    have h' : (nice n d && niceA n ds) = true := by simpa only [niceA] using h
    obtain ⟨h1, h2⟩ := Bool.and_eq_true_iff.mp h'
    obtain ⟨a, b, c⟩ := nice_ok n d h1
    obtain ⟨a', b', c'⟩ := niceA_ok n ds h2
    exact ⟨by simp only [plainA, a, a', Bool.and_self], by simp only [toPyA, PyData.canLayAll0, b, b', Bool.and_self], by simp only [toPyA, PyData.depthAll]; omega⟩
end
theorem shp_nice {n : Nat} {d : D} (h : nice n d = true) (hn : n ≤ 64) : shp d = true := by
  obtain ⟨a, b, c⟩ := nice_ok n d h
  unfold shp PySem.SeqAt.shaped
  rw [a, b, decide_eq_true (show (toPy d).depth ≤ 64 by omega)]
  rfl
mutual
theorem eqv_refl : ∀ (n : Nat) (d : D), nice n d = true → (toPy d).eqv (toPy d) = true
  | n, .non, _ => by simp only [toPy, PyData.eqv]
  | n, .bl _, _ => by simp only [toPy, PyData.eqv, beq_self_eq_true]
  | n, .int _, _ => by simp only [toPy, PyData.eqv, beq_self_eq_true]
  | n + 1, .lst xs, h => by
    have h' : niceA n xs = true := by simpa only [nice] using h
    simp only [toPy, PyData.eqv, eqvA_refl n xs h']
  | n + 1, .tup xs, h => by
    have h' : niceA n xs = true := by simpa only [nice] using h
    simp only [toPy, PyData.eqv, eqvA_refl n xs h']
  | 0, .lst xs, h => by simp only [nice] at h; cases h
  | 0, .tup xs, h => by simp only [nice] at h; cases h
  | 0, .str xs, h => by simp only [nice] at h; cases h
  | n + 1, .str xs, h => by simp only [nice] at h; cases h
  | 0, .obj .., h => by simp only [nice] at h; cases h
  | n + 1, .obj .., h => by simp only [nice] at h; cases h
  | 0, .scr .., h => by simp only [nice] at h; cases h
  | n + 1, .scr .., h => by simp only [nice] at h; cases h
theorem eqvA_refl : ∀ (n : Nat) (ds : List D), niceA n ds = true → PyData.eqvAll (toPyA ds) (toPyA ds) = true
  | n, [], _ => by simp only [toPyA, PyData.eqvAll]
  | n, d :: ds, h => by
    have h' : (nice n d && niceA n ds) = true := by simpa only [niceA] using h
    obtain ⟨h1, h2⟩ := Bool.and_eq_true_iff.mp h'
    simp only [toPyA, PyData.eqvAll, eqv_refl n d h1, eqvA_refl n ds h2, Bool.and_self]
end
theorem niceA_all {n : Nat} : ∀ {ds : List D}, (∀ d ∈ ds, nice n d = true) → niceA n ds = true
  | [], _ => rfl
  | d :: ds, h => by
    simp only [niceA, h d (List.mem_cons_self ..), niceA_all (ds := ds) fun x hx => h x (List.mem_cons_of_mem _ hx), Bool.and_self]
theorem shp_pair (a b : Int) : shp (.tup [.int a, .int b]) = true := shp_nice (n := 1) (by simp only [nice, niceA, Bool.and_self]) (by omega)
theorem kEq_pair (a b c d : Int) : kEq (.tup [.int a, .int b]) (.tup [.int c, .int d]) = .ok (.bl (a == c && b == d)) := by
  unfold kEq
  dsimp only [bothS]
  rw [shp_pair, shp_pair]
  simp only [Bool.and_self, if_true]
  unfold deq
  simp only [toPy, toPyA, PyData.eqv, PyData.eqvAll, Bool.and_true]
theorem kEq_q (r s : Rat) : kEq (qD r) (qD s) = .ok (.bl (decide (r = s))) := by
  unfold qD
  rw [kEq_pair]
  congr 2
  by_cases h : r = s
  · subst h
    simp
  · rw [decide_eq_false h]
    cases hz : (r.num == s.num && (r.den : Int) == (s.den : Int)) with
    | false => rfl
    | true =>
      exfalso
      obtain ⟨h1, h2⟩ := Bool.and_eq_true_iff.mp hz
      exact h (Rat.ext (eq_of_beq h1) (by have := eq_of_beq h2; omega))
theorem dv_lt {a b c d : Int} (hb : 0 < b) (hd : 0 < d) : (Rat.divInt a b < Rat.divInt c d) ↔ a * d < c * b := by
  rw [Rat.divInt_eq_div, Rat.divInt_eq_div, Rat.div_lt_iff (Rat.intCast_pos.mpr hb)]
  have e : (c : Rat) / (d : Rat) * (b : Rat) = ((c : Rat) * (b : Rat)) / (d : Rat) := by
    rw [Rat.div_def, Rat.div_def, Rat.mul_assoc, Rat.mul_comm _ (b : Rat), ← Rat.mul_assoc]
  rw [e, Rat.lt_div_iff (Rat.intCast_pos.mpr hd), ← Rat.intCast_mul, ← Rat.intCast_mul, Rat.intCast_lt_intCast]
theorem den_pos' (r : Rat) : 0 < (r.den : Int) := by
  have := r.den_pos
  omega
end Pd

set_option Elab.async false
set_option linter.all false
set_option maxRecDepth 100000
set_option maxHeartbeats 4000000
set_option exponentiation.threshold 5000
namespace Pd
open PySem L2
def pD (p : Int × Int) : D := .tup [.int p.1, .int p.2]
theorem le_mul_one {a b : Int} (ha : 1 ≤ a) (hb : 0 ≤ b) : b ≤ a * b := by
  have := Int.mul_le_mul_of_nonneg_right ha hb
  omega
theorem between {a b c d p q : Int} (hb : 0 < b) (hd : 0 < d) (det : c * b - a * d = 1) (h1 : a * q < p * b) (h2 : p * d < c * q) : b + d ≤ q := by
  have id : (p * b - a * q) * d + (c * q - p * d) * b = q * (c * b - a * d) := by grind
  rw [det] at id
  have x := le_mul_one (a := p * b - a * q) (b := d) (by omega) (by omega)
  have y := le_mul_one (a := c * q - p * d) (b := b) (by omega) (by omega)
  omega
structure Nb (n : Int) (p q : Int × Int) : Prop where
  d1 : 0 < p.2
  d2 : 0 < q.2
  det : q.1 * p.2 - p.1 * q.2 = 1
  le1 : p.2 ≤ n
  le2 : q.2 ≤ n
  gt : n < p.2 + q.2
theorem Nb.lt {n : Int} {p q : Int × Int} (h : Nb n p q) : p.1 * q.2 < q.1 * p.2 := by
  have := h.det
  omega
def nxt (n : Int) (p q : Int × Int) : Int × Int := ((n + p.2) / q.2 * q.1 - p.1, (n + p.2) / q.2 * q.2 - p.2)
def far (n : Int) (q : Int × Int) : Nat := ((q.2 - q.1) * (n * n) / q.2).toNat
inductive Row (n : Int) : List (Int × Int) → Int × Int → Prop
  | one : Row n [(0, 1)] (0, 1)
  | snoc {L : List (Int × Int)} {p q : Int × Int} (r : Row n L p) (h : Nb n p q) (h0 : 0 ≤ q.1) (h1 : q.1 ≤ q.2) : Row n (L ++ [q]) q
theorem Row.last {n : Int} {L : List (Int × Int)} {p : Int × Int} (r : Row n L p) : L ≠ [] ∧ L[L.length - 1]? = some p := by
  cases r with
  | one => exact ⟨by simp, rfl⟩
  | snoc r h h0 h1 => exact ⟨by simp, by simp⟩
theorem Row.nb {n : Int} {L : List (Int × Int)} {p : Int × Int} (r : Row n L p) : ∀ i : Nat, i + 1 < L.length → ∃ a b, L[i]? = some a ∧ L[i + 1]? = some b ∧ Nb n a b := by
  induction r with
  | one =>
    intro i hi
    simp at hi
  | @snoc L p q r h h0 h1 ih =>
    intro i hi
    rw [List.length_append, List.length_cons, List.length_nil] at hi
    by_cases z : i + 1 < L.length
    · obtain ⟨a, b, e1, e2, g⟩ := ih i z
      exact ⟨a, b, by rw [List.getElem?_append_left (by omega)]; exact e1, by rw [List.getElem?_append_left z]; exact e2, g⟩
    · have l := r.last
      have hl : 0 < L.length := List.length_pos_iff.mpr l.1
      have e : i = L.length - 1 := by omega
      refine ⟨p, q, ?_, ?_, h⟩
      · rw [List.getElem?_append_left (by omega), e]
        exact l.2
      · rw [List.getElem?_append_right (by omega)]
        have : i + 1 - L.length = 0 := by omega
        rw [this]
        rfl
theorem Row.mem {n : Int} {L : List (Int × Int)} {p : Int × Int} (r : Row n L p) (hn : 1 ≤ n) : ∀ q ∈ L, 0 < q.2 ∧ q.2 ≤ n ∧ 0 ≤ q.1 ∧ q.1 ≤ q.2 := by
  induction r with
  | one =>
    intro q hq
    rw [List.mem_singleton] at hq
    subst hq
    exact ⟨by decide, hn, by decide, by decide⟩
  | @snoc L p q r h h0 h1 ih =>
    intro x hx
    rcases List.mem_append.mp hx with hx | hx
    · exact ih x hx
    · rw [List.mem_singleton] at hx
      subst hx
      exact ⟨h.d2, h.le2, h0, h1⟩
theorem pow_big : (2 : Nat) ^ 100 ≤ 2 ^ 4000 := Nat.pow_le_pow_right (by omega) (by omega)
def cSetL (i : Nat) (δ : Sm) (ds : List D) : Out := if ds.length ≤ 16777216 then .nx (δ.set i (.ol ds)) else .bad
theorem mSetL_eq (i : Nat) (f : Sm → Res (List D)) (δ : Sm) : mSetL i f δ = (f δ).out δ (cSetL i δ) := Eq.trans rfl rfl
theorem cSetL_0 (i : Nat) (δ : Sm) : cSetL i δ [] = .nx (δ.set i (.ol [])) := Eq.trans rfl rfl
theorem cSetL_1 (i : Nat) (δ : Sm) (a : D) : cSetL i δ [a] = .nx (δ.set i (.ol [a])) := Eq.trans rfl rfl
theorem cSetL_2 (i : Nat) (δ : Sm) (a b : D) : cSetL i δ [a, b] = .nx (δ.set i (.ol [a, b])) := Eq.trans rfl rfl
theorem cut_drop {α : Type} (f : α → D) (ns : List α) (k : Nat) : (cutD (ns.map f) (some (k : Int)) none) = (ns.drop k).map f := by
  unfold cutD
  rw [HT.sIx_none, HT.sIx_nat, List.length_map, ← List.map_drop]
  by_cases h : k ≤ ns.length
  · rw [Nat.min_eq_left h, List.take_of_length_le (by rw [List.length_map, List.length_drop]; omega)]
  · rw [Nat.min_eq_right (by omega), List.drop_of_length_le (Nat.le_refl _), List.drop_of_length_le (by omega), List.map_nil, List.take_nil]
theorem pD_0 (p : Int × Int) : kIx (pD p) (.int 0) = .ok (.int p.1) := by
  unfold pD
  rw [kIx_tup, atD_0]
theorem pD_1 (p : Int × Int) : kIx (pD p) (.int 1) = .ok (.int p.2) := by
  unfold pD
  rw [kIx_tup, atD_1]
theorem qD_0 (r : Rat) : kIx (qD r) (.int 0) = .ok (.int r.num) := by
  unfold qD
  rw [kIx_tup, atD_0]
theorem qD_1 (r : Rat) : kIx (qD r) (.int 1) = .ok (.int r.den) := by
  unfold qD
  rw [kIx_tup, atD_1]
end Pd

set_option Elab.async false
set_option linter.all false
set_option maxRecDepth 100000
set_option maxHeartbeats 4000000
set_option exponentiation.threshold 5000
namespace Pd
open PySem L2
theorem dv_one (w : Int) : Rat.divInt w 1 = (w : Rat) := by
  rw [Rat.divInt_eq_div]
  have e : ((1 : Int) : Rat) = 1 := rfl
  rw [e]
  grind
def wh (l : Rat) : Int := l.num / (l.den : Int)
def Iv (l : Rat) (h : Option Rat) (v : Rat) : Prop := l < v ∧ ∀ u, h = some u → v < u
structure Best (l : Rat) (h : Option Rat) (x y : Int) : Prop where
  pos : 0 < y
  iv : Iv l h (Rat.divInt x y)
  least : ∀ p q : Int, 0 < q → Iv l h (Rat.divInt p q) → y ≤ q ∧ (q = y ∨ 0 ≤ l → x ≤ p)
def lo' (l u : Rat) : Rat := (u - ((wh l : Int) : Rat))⁻¹
def hi' (l : Rat) : Option Rat := if l - ((wh l : Int) : Rat) = 0 then none else some (l - ((wh l : Int) : Rat))⁻¹
inductive Go (gt : D → Sm → Res Sm) (b : Sm → Out) : List D → Sm → Sm → Prop
  | nil {δ : Sm} : Go gt b [] δ δ
  | cons {d : D} {ds : List D} {δ δ1 δ2 δ3 : Sm} (h1 : gt d δ = .ok δ1) (h2 : b δ1 = .nx δ2) (g : Go gt b ds δ2 δ3) : Go gt b (d :: ds) δ δ3
theorem Go.for {gt : D → Sm → Res Sm} {b : Sm → Out} {ds : List D} {δ δ' : Sm} (g : Go gt b ds δ δ') : forL gt b ds δ = .nx δ' := by
  induction g with
  | nil => rfl
  | cons h1 h2 g ih => rw [forL_next h1 h2, ih]
end Pd

set_option Elab.async false
set_option linter.all false
set_option maxRecDepth 100000
set_option maxHeartbeats 4000000
set_option exponentiation.threshold 5000
namespace Pd
open PySem L2
theorem det_cop {a b c d : Int} (h : c * b - a * d = 1) : Int.gcd a b = 1 ∧ Int.gcd c d = 1 := by
  constructor
  · have h1 : (Int.gcd a b : Int) ∣ a := Int.gcd_dvd_left ..
    have h2 : (Int.gcd a b : Int) ∣ b := Int.gcd_dvd_right ..
    have h3 : (Int.gcd a b : Int) ∣ c * b - a * d := Int.dvd_sub (Int.dvd_mul_of_dvd_right h2) (Int.dvd_mul_of_dvd_left h1)
    rw [h] at h3
    have := Int.le_of_dvd (by omega) h3
    have : Int.gcd a b ≠ 0 := by
      intro z
      rw [z] at h3
      have := Int.zero_dvd.mp h3
      omega
    omega
  · have h1 : (Int.gcd c d : Int) ∣ c := Int.gcd_dvd_left ..
    have h2 : (Int.gcd c d : Int) ∣ d := Int.gcd_dvd_right ..
    have h3 : (Int.gcd c d : Int) ∣ c * b - a * d := Int.dvd_sub (Int.dvd_mul_of_dvd_left h1) (Int.dvd_mul_of_dvd_right h2)
    rw [h] at h3
    have := Int.le_of_dvd (by omega) h3
    have : Int.gcd c d ≠ 0 := by
      intro z
      rw [z] at h3
      have := Int.zero_dvd.mp h3
      omega
    omega
theorem cop_eq {a b c d : Int} (hb : 0 < b) (hd : 0 < d) (h1 : Int.gcd a b = 1) (h2 : Int.gcd c d = 1) (e : a * d = c * b) : a = c ∧ b = d := by
  have d1 : b ∣ d := by
    have : b ∣ a * d := ⟨c, by rw [e, Int.mul_comm]⟩
    have x : b.natAbs ∣ a.natAbs * d.natAbs := by
      have := Int.natAbs_dvd_natAbs.mpr this
      rwa [Int.natAbs_mul] at this
    exact Int.natAbs_dvd_natAbs.mp (Nat.Coprime.dvd_of_dvd_mul_left (Nat.Coprime.symm h1) x)
  have d2 : d ∣ b := by
    have : d ∣ c * b := ⟨a, by rw [← e, Int.mul_comm]⟩
    have x : d.natAbs ∣ c.natAbs * b.natAbs := by
      have := Int.natAbs_dvd_natAbs.mpr this
      rwa [Int.natAbs_mul] at this
    exact Int.natAbs_dvd_natAbs.mp (Nat.Coprime.dvd_of_dvd_mul_left (Nat.Coprime.symm h2) x)
  have l1 := Int.le_of_dvd hd d1
  have l2 := Int.le_of_dvd hb d2
  have eb : b = d := by omega
  subst eb
  exact ⟨Int.eq_of_mul_eq_mul_right (by omega) e, rfl⟩
theorem Row.all {n : Int} {L : List (Int × Int)} {p : Int × Int} (r : Row n L p) : ∀ {s t : Int}, 0 ≤ s → 0 < t → t ≤ n → Int.gcd s t = 1 → s * p.2 ≤ p.1 * t → (s, t) ∈ L := by
  induction r with
  | one =>
    intro s t h0 ht hn hg h
    have hs : s = 0 := by
      simp only at h
      omega
    subst hs
    rw [Int.gcd_zero_left] at hg
    have : t = 1 := by omega
    subst this
    exact List.mem_singleton.mpr rfl
  | @snoc L p q r h g0 g1 ih =>
    intro s t h0 ht hn hg hle
    by_cases hp : s * p.2 ≤ p.1 * t
    · exact List.mem_append_left _ (ih h0 ht hn hg hp)
    · by_cases hq : s * q.2 = q.1 * t
      · have cq := (det_cop h.det).2
        obtain ⟨e1, e2⟩ := cop_eq ht h.d2 hg cq hq
        refine List.mem_append_right _ (List.mem_singleton.mpr (Prod.ext e1 e2))
      · exfalso
        have := between h.d1 h.d2 h.det (p := s) (q := t) (by omega) (by omega)
        have := h.gt
        omega
end Pd

set_option Elab.async false
set_option linter.all false
set_option maxRecDepth 100000
set_option maxHeartbeats 4000000
namespace Pd
open PySem PySem.Spec PySem.Calls PySem.W PyProof.Rows L2
theorem each_ok {M : Model} {A : Around} {E : Value → Shared → Prop} {s : Shared} {f : Value → PUnit → Sem (ForInStep PUnit)} {Q : PUnit → Shared → Prop} : ∀ (cs : List Value), (∀ c ∈ cs, ∀ Q : ForInStep PUnit → Shared → Prop, Q (.yield ⟨⟩) s → wpAny M A (f c ⟨⟩) Q E s) → Q ⟨⟩ s → wpAny M A (forIn cs PUnit.unit f) Q E s
  | [], _, q => by
    simp only [List.forIn_nil]
    exact wpAny_pure q
  | c :: cs, h, q => by
    simp only [List.forIn_cons]
    refine wpAny_bind (h c (List.mem_cons_self ..) _ ?_)
    exact each_ok cs (fun x hx => h x (List.mem_cons_of_mem _ hx)) q
theorem first_ok {M : Model} {A : Around} {E : Value → Shared → Prop} {s : Shared} {σ : Type} {f : Value → σ → Sem (ForInStep σ)} {Q : σ → Shared → Prop} {i0 r1 : σ} {g : Value → Bool} : ∀ (cs : List Value), (∀ c ∈ cs, ∀ Q : ForInStep σ → Shared → Prop, Q (if g c = true then .done r1 else .yield i0) s → wpAny M A (f c i0) Q E s) → Q (if cs.any g = true then r1 else i0) s → wpAny M A (forIn cs i0 f) Q E s
  | [], _, q => by
    simp only [List.forIn_nil]
    exact wpAny_pure q
  | c :: cs, h, q => by
    simp only [List.forIn_cons]
    refine wpAny_bind (h c (List.mem_cons_self ..) _ ?_)
    cases hg : g c with
    | true =>
      rw [if_pos rfl]
      rw [List.any_cons, hg, Bool.true_or, if_pos rfl] at q
      exact wpAny_pure q
    | false =>
      rw [if_neg Bool.false_ne_true]
      rw [List.any_cons, hg, Bool.false_or] at q
      exact first_ok cs (fun x hx => h x (List.mem_cons_of_mem _ hx)) q
theorem any_all {K : PySem.W.Frag} {cls : Value} : ∀ {cs : List Value} {b : Bool}, exmAny K cls cs = some b → (∀ c ∈ cs, exmOne K cls c = some ((exmOne K cls c).getD false)) ∧ b = cs.any fun c => (exmOne K cls c).getD false
  | [], b, h => by
    have h' : some false = some b := h
    cases h'
    exact ⟨fun _ h => (nomatch h), rfl⟩
  | c :: cs, b, h => by
    obtain ⟨b1, d1, x, y, z⟩ := exmAny_cons h
    obtain ⟨p, q⟩ := any_all y
    refine ⟨fun k hk => ?_, ?_⟩
    · rcases List.mem_cons.mp hk with rfl | hk
      · rw [x]; rfl
      · exact p k hk
    · rw [z, q, List.any_cons, x]
      rfl
theorem exm_tupN {M : Model} {K : PySem.W.Frag} {cs : List Value} {cls : Value} {tp e : Addr} {b : Bool} {h : Heap} (X : K.In h) (LT : Looks M h (typeOf (.ref e)) cls) (hp : h.get? tp = some { cls := .type "tuple", data := .seq cs.toArray }) (hx : exmAny K cls cs = some b) :
    Looks M h (excMatches (.ref e) (.ref tp)) b := by
  intro A Q E s k₀ q
  obtain ⟨hh, g, d, tk, os⟩ := s
  have k : ∀ b o, h.get? b = some o → hh.get? b = some o := k₀
  have LI : Looks M h (isInstance (.ref tp) (.type "tuple")) true := ((Looks.ld hp).andThen .now).andThen (Looks.of_pure isSubtype_tuple_tuple)
  obtain ⟨al, hb⟩ := any_all hx
  have LT := LT.keeps k
  have LI := LI.keeps k
  have hp' := k _ _ hp
  unfold excMatches
  refine wpAny_bind (LI.at ?_)
  dsimp only
  rw [if_pos rfl]
  first
    | refine wpAny_bind (wpAny_seqItems hp' rfl ?_)
    | refine wpAny_bind (wpAny_bind (wpAny_seqItems hp' rfl (wpAny_pure ?_)))
  dsimp only [Option.getD_some, Option.getD]
  refine wpAny_bind (wpAny_pure ?_)
  refine wpAny_bind (each_ok cs (fun c hc Q' q' => ?_) ?_)
  · obtain ⟨e1, _⟩ := exm_cls (M := M) X (al c hc)
    have e1 := e1.keeps k
    refine wpAny_bind (e1.at ?_)
    simp only [Bool.not_true, Bool.false_eq_true, if_false]
    exact wpAny_pure q'
  · refine wpAny_bind (LT.at ?_)
    refine wpAny_bind (first_ok (g := fun c => (exmOne K cls c).getD false) (r1 := (some true, ())) cs (fun c hc Q' q' => ?_) ?_)
    · obtain ⟨_, S1⟩ := exm_cls (M := M) X (al c hc)
      have S1 := S1.keeps k
      refine wpAny_bind (S1.at ?_)
      cases hg : (exmOne K cls c).getD false with
      | true =>
        rw [if_pos rfl]
        simp only [hg, if_true] at q'
        exact wpAny_pure q'
      | false =>
        rw [if_neg Bool.false_ne_true]
        simp only [hg, Bool.false_eq_true, if_false] at q'
        exact wpAny_pure q'
    · rw [← hb]
      cases b with
      | true =>
        rw [if_pos rfl]
        exact wpAny_pure q
      | false =>
        rw [if_neg Bool.false_ne_true]
        exact wpAny_pure q
end Pd

set_option Elab.async false
set_option linter.all false
set_option maxRecDepth 100000
set_option maxHeartbeats 4000000
namespace Pd
open PySem PySem.Spec PySem.Calls PySem.W PyProof.Rows L2
variable {vn : Bool}
abbrev Sut := Addr → Value → Option Addr → TS
inductive NmsOk (X : Cx) : List Expr → List Value → Prop
  | nil : NmsOk X [] []
  | cons {x : Str} {p : Pos} {c : Value} {es : List Expr} {cs : List Value} (h : Names X x c) (r : NmsOk X es cs) : NmsOk X (.Name x p :: es) (c :: cs)
inductive TstOk (X : Cx) : Expr → List Value → Prop
  | one {x : Str} {p : Pos} {c : Value} (h : Names X x c) : TstOk X (.Name x p) [c]
  | tup {es : List Expr} {cs : List Value} {k : Nat} {p : Pos} (h : NmsOk X es cs) (hl : cs.length ≤ 1000) : TstOk X (.Tuple es k p) cs
inductive ClsOk (vn : Bool) (X : Cx) : List ExceptHandler → List (List Value × Option Nat × Sut) → Prop
  | nil : ClsOk vn X [] []
  | as_ {te : Expr} {cs : List Value} {n : Str} {i : Nat} {b0 : Stmt} {su : List Stmt} {ps : Pos} {hds : List ExceptHandler} {l : List (List Value × Option Nat × Sut)} {ts : Sut} (ht : TstOk X te cs) (hi : X.N[i]? = some n) (hln : X.env.kindOf n = some .local)
      (hsu : ∀ (a : Addr) (oe : Obj) (cls : Value) (d : Option Addr) (pn : List (Addr × Obj)), Zv vn cls d oe → (∃ vs, oe.data = .fields vs) → PSs (X.suite a ((a, oe) :: pn)) (b0 :: su) (ts a cls d)) (r : ClsOk vn X hds l) :
      ClsOk vn X (.ExceptHandler (some te) (some n) (b0 :: su) ps :: hds) ((cs, some i, ts) :: l)
  | no_ {te : Expr} {cs : List Value} {b0 : Stmt} {su : List Stmt} {ps : Pos} {hds : List ExceptHandler} {l : List (List Value × Option Nat × Sut)} {ts : Sut} (ht : TstOk X te cs)
      (hsu : ∀ (a : Addr) (oe : Obj) (cls : Value) (d : Option Addr) (pn : List (Addr × Obj)), Zv vn cls d oe → (∃ vs, oe.data = .fields vs) → PSs (X.suite a ((a, oe) :: pn)) (b0 :: su) (ts a cls d)) (r : ClsOk vn X hds l) :
      ClsOk vn X (.ExceptHandler (some te) none (b0 :: su) ps :: hds) ((cs, none, ts) :: l)
def endI (D : Ends) (i : Nat) : Ends := { nx := fun σ' H' => D.nx (σ'.set i none) H', rt := D.rt, bk := fun σ' H' => D.bk (σ'.set i none) H', ct := fun σ' H' => D.ct (σ'.set i none) H' }
def wCls (K : PySem.W.Frag) (Wout : WX) (D : Ends) : List (List Value × Option Nat × Sut) → WX
  | [] => Wout
  | (cs, oi, ts) :: r => fun cls d σ H => ∃ b, exmAny K cls cs = some b ∧ (b = true → ∀ a, H a = none → match oi with
      | some i => ts a cls d (endI D i) (σ.set i (some (.ref a))) H
      | none => ts a cls d D σ H) ∧ (b = false → wCls K Wout D r cls d σ H)
theorem fly_push {B h : Heap} {l : List Env} {e : Addr} {Z : Obj → Prop} (x : HandSPX.FlyingZ B l e Z h) (o : Obj) : HandSPX.FlyingZ B l e Z (h.push o) := by
  obtain ⟨x1, x2, x3, oe, vs, T, oT, ts, y1, y2, y3, y4, y5, y6, y7, y8, y9⟩ := x
  exact ⟨fun b o' q => Heap.get?_push_of_some _ (x1 b o' q), x2, x3.of_keeps fun b o' q _ => ⟨o', Heap.get?_push_of_some _ q, rfl⟩, oe, vs, T, oT, ts, Heap.get?_push_of_some _ y1, y2, y3, y4, y5, y6, Heap.get?_push_of_some _ y7, y8, y9⟩
theorem up_push {g h : Heap} (x : g.UpToSlots h) (o : Obj) : g.UpToSlots (h.push o) := fun b o' q hd => by
  obtain ⟨sl, z⟩ := x b o' q hd
  exact ⟨sl, Heap.get?_push_of_some _ z⟩
section
variable {X : Cx} {pins : List (Addr × Obj)} {D : Ends} {Wout : WX} {a : Addr} {B : Heap} {sI : Shared} {σ' : L2.St} {H' : Hp} {cls : Value} {d : Option Addr}
theorem nms_run {Y : Cx} {pn : List (Addr × Obj)} {σ : L2.St} {H : Hp} {s : Shared} (I : Inv Y pn σ H s) {E : Value → Shared → Prop} {pos : Pos} : ∀ {es : List Expr} {cs : List Value} {Q : List Value → Shared → Prop}, NmsOk Y es cs → Q cs s → wpAny (model Y.prog Y.w) Y.A (spliced (backTo pos (starEach es Y.env))) Q E s
  | _, _, Q, .nil, q => wpAny_items_nil q
  | _, _, Q, .cons (x := x) (p := p) (c := c) (es := es) (cs := cs) h r, q => by
    have nxt : wpAny (model Y.prog Y.w) Y.A (spliced (backTo pos (starEach es Y.env))) (fun vs s₂ => Q (c :: vs) s₂) E s := nms_run I r q
    refine wpAny_items_cons ?_ rfl
    obtain ⟨hg, hdb, hm | ⟨hm, hv, hn⟩⟩ := h
    · exact ld_glob I hg hm nxt hdb
    · exact ld_blt I hg hm hv nxt hn hdb
theorem NmsOk.suite {pn : List (Addr × Obj)} : ∀ {es : List Expr} {cs : List Value}, NmsOk X es cs → NmsOk (X.suite a pn) es cs
  | _, _, .nil => .nil
  | _, _, .cons h r => .cons h r.suite
theorem tst_run {Y : Cx} {pn : List (Addr × Obj)} {σ : L2.St} {H : Hp} {s : Shared} (I : Inv Y pn σ H s) {te : Expr} {cs : List Value} {b : Bool} (ht : TstOk Y te cs) (hb : exmAny Y.K cls cs = some b) {E E2 : Value → Shared → Prop} {Q : Bool → Shared → Prop}
    (LT : Looks (model Y.prog Y.w) s.heap (typeOf (.ref a)) cls) (q1 : Q b s) (q2 : ∀ o, Q b { s with heap := s.heap.push o }) :
    wpAny (model Y.prog Y.w) Y.A (eval te Y.env) (fun c s₁ => wpAny (model Y.prog Y.w) Y.A (excMatches (.ref a) c) Q E2 s₁) E s := by
  cases ht with
  | @one x p c h =>
    have hb1 : exmOne Y.K cls c = some b := by
      obtain ⟨b1, d1, x1, y1, z1⟩ := exmAny_cons hb
      have y2 : some false = some d1 := y1
      cases y2
      rw [x1, z1, Bool.or_false]
    have L := (exm_one (M := model Y.prog Y.w) I.kIn LT hb1).here (Q := Q) (E := E2) (A := Y.A) (s := s) q1
    obtain ⟨hg, hdb, hm | ⟨hm, hv, hn⟩⟩ := h
    · exact ld_glob I hg hm L hdb
    · exact ld_blt I hg hm hv L hn hdb
  | @tup es cs k p h hl =>
    refine wpAny_Tuple (nms_run I h ⟨Nat.le_trans hl (by decide), ?_⟩)
    have kp : ∀ x o, s.heap.get? x = some o → (s.heap.push { cls := .type "tuple", data := .seq cs.toArray }).get? x = some o := fun _ _ z => Heap.get?_push_of_some _ z
    exact (exm_tupN (M := model Y.prog Y.w) (I.kIn.keeps kp) (LT.keeps kp) (Heap.get?_push_size s.heap rfl) hb).here (q2 _)
theorem TstOk.suite {pn : List (Addr × Obj)} {te : Expr} {cs : List Value} (h : TstOk X te cs) : TstOk (X.suite a pn) te cs := by
  cases h with
  | one h => exact .one h
  | tup h hl => exact .tup h.suite hl
theorem cls_run (hs : X.stack = X.env :: X.outer) (hf : X.env.frame = some X.env.locals) (hN : X.N.Nodup) (tk : TakesV vn X Wout) (ok : X.Ok) (J : Inv X pins σ' H' sI) (nb : ∀ b o, sI.heap.get? b = some o → b ∉ frs X.stack → B.get? b = some o) (na : H' a = none) :
    ∀ {hds : List ExceptHandler} {l : List (List Value × Option Nat × Sut)}, ClsOk vn X hds l → ∀ {s : Shared}, s.os = sI.os → AllBare s.gens → sI.heap.UpToSlots s.heap → HandSPX.FlyingZ B (X.env :: X.outer) a (Zv vn cls d) s.heap → wCls X.K Wout D l cls d σ' H' →
      wpAny (model X.prog X.w) X.A (handleBy (.ref a) X.env hds) (SP X pins D) X.xe s := by
  intro hds l hk
  have apart : ∀ {h : Heap} {o : Obj} {vs : Array Value}, h.FunFrames B (X.env :: X.outer) → h.get? a = some o → o.data = .fields vs → a ≠ X.env.locals ∧ a ∉ X.fs := fun {h o vs} ff e dd => by
    have z : a ∉ frs (X.env :: X.outer) := fun hm => by
      obtain ⟨_, o', e', hnf⟩ := ff.mem hm
      rw [e] at e'
      cases e'
      exact hnf _ dd
    refine ⟨fun q => z (List.mem_filterMap.mpr ⟨X.env, List.mem_cons_self, by rw [hf, q]⟩), fun hm => ?_⟩
    obtain ⟨e2, he2, q2⟩ := List.mem_filterMap.mp hm
    exact z (List.mem_filterMap.mpr ⟨e2, List.mem_cons_of_mem _ he2, q2⟩)
  induction hk with
  | nil =>
    intro s os ag up fl w
    refine wpAny_handleBy_nil ?_
    obtain ⟨k1, k2, k3, oe, vs, T, oT, ts', he, hz, hd, h1, hr⟩ := id fl
    unfold PySem.passOn
    refine wpAny_bind (wpAny_field he hd h1 ?_)
    rw [if_neg (show ¬ ((Value.ref T == Value.none) = true) from by simp)]
    have last : wpAny (model X.prog X.w) X.A (setFlight (.ref a) X.env.frame) (fun _ s4 => wpAny (model X.prog X.w) X.A (throw (.ref a) : Sem Flow) (SP X pins D) X.xe s4) X.xe s := by
      rw [hf]
      exact HandSPX.setFlight_upZ fl fun h4 hh4 up4 => wpAny_throw (tk.run ⟨a, B, sI, pins, σ', H', cls, d, rfl, J, nb, up.trans up4, .inr (.inr (by rw [hs]; exact hh4)), na, os, ag, w⟩)
    first
      | exact wpAny_bind (wpAny_pure (wpAny_bind last))
      | exact wpAny_bind last
  | @as_ te cs n i b0 su ps hds l ts ht hi hln hsu r ih =>
    intro s os ag up fl w
    obtain ⟨b, hb1, yes, no⟩ := w
    have J3 : Inv X pins σ' H' s := J.landed nb fl.1 up os ag
    obtain ⟨oe3, vs3, he3, hz3, hd3⟩ := fl.there
    obtain ⟨nL, nF⟩ := apart fl.2.2.1 he3 hd3
    have S3 := J3.suite he3 hd3 na nL nF
    have LT : Looks (model X.prog X.w) s.heap (typeOf (.ref a)) cls := fun _ _ _ _ k q => wpAny_typeOf_ref (k _ _ he3) (by rw [hz3.zc.1]; exact q)
    refine wpAny_handleBy_cons (codeAny_handlers_test ?_) (by intro q; cases q)
    cases b with
    | false => exact tst_run (Y := X.suite a ((a, oe3) :: (X.pn ++ pins))) S3 ht.suite hb1 LT (ih os ag up fl (no rfl)) fun o => ih os ag (up_push up o) (fly_push fl o) (no rfl)
    | true =>
      have suiteOk : ∀ {s2 : Shared}, s2.os = sI.os → AllBare s2.gens → sI.heap.UpToSlots s2.heap → HandSPX.FlyingZ B (X.env :: X.outer) a (Zv vn cls d) s2.heap →
          codeAny (model X.prog X.w) (X.A.mark (some (.ref a))) (.handlers (.ref a) [.ExceptHandler none (some n) (b0 :: su) ps] X.env) (fun r s₂ => match r with
            | .ok f => wpAny (model X.prog X.w) X.A (do bindName X.env n .none; unbindBehindTheSuite X.env n ps) (fun _ s₃ => SP X pins D f s₃) X.xe s₂
            | .error x => cameBackBy (model X.prog X.w) X.A X.env X.xe x s₂) s2 := by
        intro s2 os2 ag2 up2 fl2
        refine codeAny_handlers_suite_as (HandSPX.lands_againZ fl2 fun h4 fl4 up4 => ?_)
        have J4 : Inv X pins σ' H' { s2 with heap := h4 } := J.landed nb fl4.1 (up2.trans up4) os2 ag2
        obtain ⟨oe4, vs4, he4, hz4, hd4⟩ := fl4.there
        obtain ⟨nL4, nF4⟩ := apart fl4.2.2.1 he4 hd4
        refine store_ok (X := X.suite a ((a, oe4) :: (X.pn ++ pins))) (v := .ref a) (J4.suite he4 hd4 na nL4 nF4) hN hi (.inl hln) rfl (fun s5 S5 => ?_) (.inr hln)
        refine wpAny_mono ((hsu a oe4 cls d (X.pn ++ pins) hz4 ⟨_, hd4⟩).run [] s5 _ H' _ S5 (yes rfl a na)) (fun f s6 hsp => ?_) (fun _ _ z => False.elim z)
        have off : ∀ {σ6 : L2.St} {H6 : Hp} {Q : Shared → Prop}, Inv (X.suite a ((a, oe4) :: (X.pn ++ pins))) [] σ6 H6 s6 → (∀ s7, Inv X pins (σ6.set i none) H6 s7 → Q s7) →
            wpAny (model X.prog X.w) X.A (do bindName X.env n .none; unbindBehindTheSuite X.env n ps) (fun _ s7 => Q s7) X.xe s6 := fun {σ6 H6 Q} S6 hq => gone_ok (S6.unsuite ok) hN hi hln hq
        cases f with
        | next => obtain ⟨_, _, S6, q6⟩ := hsp; exact off S6 fun _ J7 => ⟨_, _, J7, q6⟩
        | brk => obtain ⟨_, _, S6, q6⟩ := hsp; exact off S6 fun _ J7 => ⟨_, _, J7, q6⟩
        | cont => obtain ⟨_, _, S6, q6⟩ := hsp; exact off S6 fun _ J7 => ⟨_, _, J7, q6⟩
        | ret u => obtain ⟨_, _, _, S6, r6, q6⟩ := hsp; exact off S6 fun _ J7 => ⟨_, _, _, J7, r6, q6⟩
      exact tst_run (Y := X.suite a ((a, oe3) :: (X.pn ++ pins))) S3 ht.suite hb1 LT (suiteOk os ag up fl) fun o => suiteOk (s2 := { s with heap := s.heap.push o }) os ag (up_push up o) (fly_push fl o)
  | @no_ te cs b0 su ps hds l ts ht hsu r ih =>
    intro s os ag up fl w
    obtain ⟨b, hb1, yes, no⟩ := w
    have J3 : Inv X pins σ' H' s := J.landed nb fl.1 up os ag
    obtain ⟨oe3, vs3, he3, hz3, hd3⟩ := fl.there
    obtain ⟨nL, nF⟩ := apart fl.2.2.1 he3 hd3
    have S3 := J3.suite he3 hd3 na nL nF
    have LT : Looks (model X.prog X.w) s.heap (typeOf (.ref a)) cls := fun _ _ _ _ k q => wpAny_typeOf_ref (k _ _ he3) (by rw [hz3.zc.1]; exact q)
    refine wpAny_handleBy_cons (codeAny_handlers_test ?_) (by intro q; cases q)
    cases b with
    | false => exact tst_run (Y := X.suite a ((a, oe3) :: (X.pn ++ pins))) S3 ht.suite hb1 LT (ih os ag up fl (no rfl)) fun o => ih os ag (up_push up o) (fly_push fl o) (no rfl)
    | true =>
      have suiteOk : ∀ {s2 : Shared}, s2.os = sI.os → AllBare s2.gens → sI.heap.UpToSlots s2.heap → HandSPX.FlyingZ B (X.env :: X.outer) a (Zv vn cls d) s2.heap →
          codeAny (model X.prog X.w) (X.A.mark (some (.ref a))) (.handlers (.ref a) [.ExceptHandler none none (b0 :: su) ps] X.env) (fun r s₂ => match r with
            | .ok f => SP X pins D f s₂
            | .error x => cameBackBy (model X.prog X.w) X.A X.env X.xe x s₂) s2 := by
        intro s2 os2 ag2 up2 fl2
        refine codeAny_handlers_suite (HandSPX.lands_againZ fl2 fun h4 fl4 up4 => ?_)
        have J4 : Inv X pins σ' H' { s2 with heap := h4 } := J.landed nb fl4.1 (up2.trans up4) os2 ag2
        obtain ⟨oe4, vs4, he4, hz4, hd4⟩ := fl4.there
        obtain ⟨nL4, nF4⟩ := apart fl4.2.2.1 he4 hd4
        refine wpAny_mono ((hsu a oe4 cls d (X.pn ++ pins) hz4 ⟨_, hd4⟩).run [] _ _ H' _ (J4.suite he4 hd4 na nL4 nF4) (yes rfl a na)) (fun f s6 hsp => ?_) (fun _ _ z => False.elim z)
        cases f with
        | next => obtain ⟨_, _, S6, q6⟩ := hsp; exact ⟨_, _, S6.unsuite ok, q6⟩
        | brk => obtain ⟨_, _, S6, q6⟩ := hsp; exact ⟨_, _, S6.unsuite ok, q6⟩
        | cont => obtain ⟨_, _, S6, q6⟩ := hsp; exact ⟨_, _, S6.unsuite ok, q6⟩
        | ret u => obtain ⟨_, _, _, S6, r6, q6⟩ := hsp; exact ⟨_, _, _, S6.unsuite ok, r6, q6⟩
      exact tst_run (Y := X.suite a ((a, oe3) :: (X.pn ++ pins))) S3 ht.suite hb1 LT (suiteOk os ag up fl) fun o => suiteOk (s2 := { s with heap := s.heap.push o }) os ag (up_push up o) (fly_push fl o)
end
theorem ps_tryC {X : Cx} {body : List Stmt} {h₀ : ExceptHandler} {hds : List ExceptHandler} {l : List (List Value × Option Nat × Sut)} {pos : Pos} {tb : WX → TS} {Wout : WX} (hs : X.stack = X.env :: X.outer) (hf : X.env.frame = some X.env.locals) (hN : X.N.Nodup) (tk : TakesV vn X Wout)
    (hb : ∀ (W : WX) (pn : List (Addr × Obj)) (xe : Value → Shared → Prop), TakesV vn (X.tr pn xe) W → PassesOwn (model X.prog X.w) X.A X.env xe → PSs (X.tr pn xe) body (tb W))
    (hh : ClsOk vn X (h₀ :: hds) l) : PS X (.Try body (h₀ :: hds) [] [] pos) (fun D σ H => tb (wCls X.K Wout D l) D σ H) := by
  refine ⟨fun pins s σ H D I h => wpAny_Try_except ?_⟩
  have ok := I.ok
  have hfr : X.A.frames = some (X.env :: X.outer) := by rw [ok.frames, hs]
  refine wpAny_mono ((hb (wCls X.K Wout D l) (X.pn ++ pins) (fun e s₁ => wpAny (model X.prog X.w) X.A (noteFrame e X.env) (fun _ s₂ => wpAny (model X.prog X.w) X.A (setFlight e none)
    (fun _ s₃ => wpAny (model X.prog X.w) X.A (handleBy e X.env (h₀ :: hds)) (SP X pins D) X.xe s₃) X.xe s₂) X.xe s₁) (takesV_mk fun u s' xx => ?_) PassesOwn.looking).run [] s σ H D (I.toTry _) h) (fun f s1 hsp => ?_) (fun e s1 he => he)
  · obtain ⟨a, B, sI, pins', σ', H', cls, d, rfl, J', nb, up, sky, na, os, ag, w⟩ := xx
    have fly : Sky B (X.env :: X.outer) a (Zv vn cls d) X.env.locals s'.heap := by rw [← hs]; exact sky
    show wpAny (model X.prog X.w) X.A (noteFrame (.ref a) X.env) _ _ _
    exact skyV_land hfr hf fly fun h3 fl3 up3 => cls_run hs hf hN tk ok (J'.ofTry ok) nb na hh (s := { s' with heap := h3 }) os ag (up.trans up3) fl3 w
  · cases f with
    | next => obtain ⟨σ', H', J', q⟩ := hsp; exact wpAny_execs_nil ⟨σ', H', J'.ofTry ok, q⟩
    | brk => obtain ⟨σ', H', J', q⟩ := hsp; exact ⟨σ', H', J'.ofTry ok, q⟩
    | cont => obtain ⟨σ', H', J', q⟩ := hsp; exact ⟨σ', H', J'.ofTry ok, q⟩
    | ret u => obtain ⟨v, σ', H', J', r, q⟩ := hsp; exact ⟨v, σ', H', J'.ofTry ok, r, q⟩
end Pd

set_option Elab.async false
set_option linter.all false
set_option maxRecDepth 100000
set_option maxHeartbeats 4000000
namespace Pd
open PySem PySem.W L2
variable {vn : Bool}
abbrev HS := List (Str × D) → Sm → Out
abbrev Cl := Option Nat × List (Str × HS)
def calm (o : Out) : Out := match o with
  | .xc _ _ _ => .bad
  | o => o
def pickCl : List Cl → Str → List (Str × D) → Sm → Out
  | [], c, fs, δ => .xc c fs δ
  | (oi, hs) :: r, c, fs, δ => match hs.lookup c with
    | some mh => (match oi with
      | some i => if i < δ.length then hdO i (mh fs (δ.set i .no)) else .bad
      | none => calm (mh fs δ))
    | none => pickCl r c fs δ
def mTryC (rs : List Str) (cl : List Cl) (mb : Sm → Out) : Sm → Out := fun δ => match mb δ with
  | .xc c fs δ' => if c ∈ rs then pickCl cl c fs δ' else .bad
  | o => o
inductive DCl (X : Cx) (ca : Str → Addr) : List ExceptHandler → List Cl → Prop
  | nil : DCl X ca [] []
  | as_ {te : Expr} {hs : List (Str × HS)} {n : Str} {i : Nat} {b0 : Stmt} {su : List Stmt} {ps : Pos} {hds : List ExceptHandler} {l : List Cl} (ht : TstOk X te (hs.map fun p => .ref (ca p.1)))
      (hsu : ∀ p ∈ hs, ∀ (a : Addr) (oe : Obj) (cls : Value) (d : Option Addr) (pn : List (Addr × Obj)), Zc cls d oe → (∃ vs, oe.data = .fields vs) → PSs (X.suite a ((a, oe) :: pn)) (b0 :: su) (tHS ⟨X.K, ca, X.w⟩ i p.1 a cls d p.2)) (r : DCl X ca hds l)
      (hi : X.N[i]? = some n := by rfl) (hln : X.env.kindOf n = some .local := by rfl) : DCl X ca (.ExceptHandler (some te) (some n) (b0 :: su) ps :: hds) ((some i, hs) :: l)
  | no_ {te : Expr} {cs : List Str} {m : Sm → Out} {b0 : Stmt} {su : List Stmt} {ps : Pos} {hds : List ExceptHandler} {l : List Cl} (ht : TstOk X te (cs.map fun p => .ref (ca p)))
      (hsu : ∀ (a : Addr) (oe : Obj) (pn : List (Addr × Obj)), PSs (X.suite a ((a, oe) :: pn)) (b0 :: su) (tS ⟨X.K, ca, X.w⟩ W0 m)) (r : DCl X ca hds l) : DCl X ca (.ExceptHandler (some te) none (b0 :: su) ps :: hds) ((none, cs.map fun c => (c, fun _ => m)) :: l)
def sutOf (g : G) : Cl → List Value × Option Nat × Sut
  | (some i, hs) => (hs.map fun p => .ref (g.ca p.1), some i, fun a cls d E σ H => ∃ p ∈ hs, tHS g i p.1 a cls d p.2 E σ H)
  | (none, hs) => (hs.map fun p => .ref (g.ca p.1), none, fun a cls d E σ H => ∃ p ∈ hs, tS g W0 (p.2 []) E σ H)
theorem pss_ex {α : Type} {Y : Cx} {sts : List Stmt} {P : α → Prop} {t : α → TS} (h : ∀ p, P p → PSs Y sts (t p)) : PSs Y sts (fun E σ H => ∃ p, P p ∧ t p E σ H) :=
  ⟨fun pins s σ H E I ⟨p, hp, z⟩ => (h p hp).run pins s σ H E I z⟩
theorem DCl.ok {X : Cx} {ca : Str → Addr} : ∀ {hds : List ExceptHandler} {l : List Cl}, DCl X ca hds l → ClsOk vn X hds (l.map (sutOf ⟨X.K, ca, X.w⟩))
  | _, _, .nil => .nil
  | _, _, .as_ ht hsu r hi hln => .as_ ht hi hln (fun a oe cls d pn z f => pss_ex fun p hp => hsu p hp a oe cls d pn z.zc f) r.ok
  | _, _, .no_ (cs := cs) (m := m) ht hsu r => by
    refine ClsOk.no_ (cs := (cs.map fun c => (c, fun (_ : List (Str × D)) => m)).map fun p => .ref (ca p.1)) (by rw [List.map_map]; exact ht) (fun a oe cls d pn z f => pss_ex fun p hp => ?_) r.ok
    obtain ⟨c, _, rfl⟩ := List.mem_map.mp hp
    exact hsu a oe pn
theorem exm_strs {K : PySem.W.Frag} {ca : Str → Addr} {c' : Str} : ∀ {cs : List Str}, (∀ c ∈ cs, exmOne K (.ref (ca c')) (.ref (ca c)) = some (c' == c)) → exmAny K (.ref (ca c')) (cs.map fun c => .ref (ca c)) = some (cs.any fun c => c' == c)
  | [], _ => rfl
  | c :: cs, h => by
    rw [List.map_cons]
    unfold exmAny
    rw [h c (List.mem_cons_self ..), exm_strs fun x hx => h x (List.mem_cons_of_mem _ hx), List.any_cons]
theorem look_any {α : Type} {c : Str} : ∀ {hs : List (Str × α)}, (hs.map (·.1)).any (fun k => c == k) = (hs.lookup c).isSome
  | [] => rfl
  | (k, v) :: hs => by
    rw [List.map_cons, List.any_cons, List.lookup_cons, look_any (hs := hs)]
    cases c == k <;> rfl
theorem look_mem {α : Type} {c : Str} {v : α} : ∀ {hs : List (Str × α)}, hs.lookup c = some v → (c, v) ∈ hs
  | [], h => by cases h
  | (k, w) :: hs, h => by
    rw [List.lookup_cons] at h
    cases e : c == k with
    | true =>
      rw [e] at h
      cases h
      rw [eq_of_beq e]
      exact List.mem_cons_self ..
    | false =>
      rw [e] at h
      exact List.mem_cons_of_mem _ (look_mem h)
def Cst (l : List Cl) : Prop := ∀ cl ∈ l, cl.1 = none → ∀ p ∈ cl.2, ∀ fs, p.2 fs = p.2 []
theorem DCl.cst {X : Cx} {ca : Str → Addr} : ∀ {hds : List ExceptHandler} {l : List Cl}, DCl X ca hds l → Cst l
  | _, _, .nil => fun _ h => nomatch h
  | _, _, .as_ _ _ r _ _ => fun cl h e => by
    rcases List.mem_cons.mp h with rfl | h
    · cases e
    · exact r.cst cl h e
  | _, _, .no_ (cs := cs) (m := m) _ _ r => fun cl h e p hp fs => by
    rcases List.mem_cons.mp h with rfl | h
    · obtain ⟨c, _, rfl⟩ := List.mem_map.mp hp
      rfl
    · exact r.cst cl h e p hp fs
def tryC (rs : List Str) (cl : List Cl) (o : Out) : Out := match o with
  | .xc c fs δ' => if c ∈ rs then pickCl cl c fs δ' else .bad
  | o => o
theorem mTryC_eq (rs : List Str) (cl : List Cl) (mb : Sm → Out) (δ : Sm) : mTryC rs cl mb δ = tryC rs cl (mb δ) := by
  unfold mTryC tryC
  cases mb δ <;> rfl
theorem tryC_nx (rs : List Str) (cl : List Cl) (δ : Sm) : tryC rs cl (.nx δ) = .nx δ := Eq.trans rfl rfl
theorem tryC_rt (rs : List Str) (cl : List Cl) (d : D) : tryC rs cl (.rt d) = .rt d := Eq.trans rfl rfl
theorem tryC_bk (rs : List Str) (cl : List Cl) (δ : Sm) : tryC rs cl (.bk δ) = .bk δ := Eq.trans rfl rfl
theorem tryC_ct (rs : List Str) (cl : List Cl) (δ : Sm) : tryC rs cl (.ct δ) = .ct δ := Eq.trans rfl rfl
theorem calm_nx (δ : Sm) : calm (.nx δ) = .nx δ := Eq.trans rfl rfl
theorem calm_rt (d : D) : calm (.rt d) = .rt d := Eq.trans rfl rfl
theorem calm_bk (δ : Sm) : calm (.bk δ) = .bk δ := Eq.trans rfl rfl
theorem calm_ct (δ : Sm) : calm (.ct δ) = .ct δ := Eq.trans rfl rfl
def keys (cl : List Cl) : List Str := cl.flatMap fun q => q.2.map (·.1)
theorem exmAll_ok {K : PySem.W.Frag} {rs ks : List Str} (h : exmAll K rs ks = true) : ∀ c' ∈ rs, ∀ k ∈ ks, exmOne K (.ref (He.ga K c')) (.ref (He.ga K k)) = some (c' == k) := fun c' h1 k h2 =>
  of_decide_eq_true (List.all_eq_true.mp (List.all_eq_true.mp h c' h1) k h2)
end Pd

set_option Elab.async false
set_option linter.all false
set_option maxRecDepth 100000
set_option maxHeartbeats 4000000
namespace Pd
open PySem L2
def cCh2 (k' : D → D → Res D) (fc : Sm → Res D) (δ : Sm) (y : D) (z : D) : Res D := match z with
  | .bl true => (fc δ).bind (k' y)
  | .bl false => .ok (.bl false)
  | _ => .bad
def cCh1 (k k' : D → D → Res D) (fc : Sm → Res D) (δ : Sm) (x y : D) : Res D := (k x y).bind (cCh2 k' fc δ y)
def cCh (k k' : D → D → Res D) (fb fc : Sm → Res D) (δ : Sm) (x : D) : Res D := (fb δ).bind (cCh1 k k' fc δ x)
def eCh (k k' : D → D → Res D) (fa fb fc : Sm → Res D) : Sm → Res D := fun δ => (fa δ).bind (cCh k k' fb fc δ)
section
variable {X : Cx} {ca : Str → Addr} {W : WX} {a b c : Expr} {fa fb fc : Sm → Res D} {pos : Pos} {k k' : D → D → Res D} {r r' : R2}
theorem ch_ok {g : G} {σ : St} {H : Hp} {Q : VK} (hk : K2 g r k) (hk' : K2 g r' k') (h : tD g W (eCh k k' fa fb fc) σ H Q) : tChain r r' (tD g W fa) (tD g W fb) (tD g W fc) σ H Q := by
  obtain ⟨Hc, H0c, H0, δ, S, p⟩ := h
  refine Post.bind S p fun x a A1 B1 w1 S1 r1 p1 => ?_
  refine Post.bind S1 p1 fun y b A2 B2 w2 S2 r2 p2 => ?_
  refine hk W σ δ Hc H0c A2 B2 x y a b _ S2 (r1.mono w2.up0) r2 ?_
  have p3 : Post g W σ A2 B2 (Rp g) Q ((k a b).bind (cCh2 k' fc δ b)) := p2
  cases e : k a b with
  | bad => rw [e] at p3; exact p3.elim
  | xc c fs => rw [e] at p3; exact p3
  | ok z =>
    rw [e] at p3
    intro v A3 B3 w3 rv
    have p4 : Post g W σ A3 B3 (Rp g) Q (cCh2 k' fc δ b z) := Post.grow w3 p3
    have S3 := S2.grow w3
    cases rv with
    | bl t =>
      cases t with
      | true =>
        refine ⟨true, rfl, ?_⟩
        rw [if_pos rfl]
        refine Post.bind S3 p4 fun w d A4 B4 w4 S4 r4 p5 => ?_
        exact hk' W σ δ Hc H0c A4 B4 y w b d Q S4 (r2.mono (w3.up0.trans w4.up0)) r4 p5
      | false =>
        refine ⟨false, rfl, ?_⟩
        rw [if_neg Bool.false_ne_true]
        exact Post.now S3 p4 (.bl false)
    | _ => exact p4.elim
theorem pdt_chain {op op' : CmpOp} (ho : OpR X (compareOp op) r) (ho' : OpR X (compareOp op') r') (hk : K2 ⟨X.K, ca, X.w⟩ r k) (hk' : K2 ⟨X.K, ca, X.w⟩ r' k') (ha : PD X ca W a fa) (hb : PD X ca W b fb) (hc : PD X ca W c fc) (hm : lastMarks [op, op'] [b, c] = false := by with_unfolding_all rfl) :
    PDT X ca W (.Compare a [op, op'] [b, c] pos) (tOf (eCh k k' fa fb fc)) := ptI (pt_chain ho ho' ha hb hc hm) fun σ H Q h => by
  have q : tB (tD ⟨X.K, ca, X.w⟩ W (eCh k k' fa fb fc)) σ H Q := toB h
  exact ch_ok hk hk' q
theorem k2_bl {f : Int → Int → Bool} : K2 ⟨X.K, ca, X.w⟩ (rI0 fun i j => .bl (f i j)) (kI (fun _ _ => true) fun i j => .bl (f i j)) := k2_I0 fun _ _ _ => .bl _
end
theorem eCh_eq (k k' : D → D → Res D) (fa fb fc : Sm → Res D) (δ : Sm) : eCh k k' fa fb fc δ = (fa δ).bind (cCh k k' fb fc δ) := Eq.trans rfl rfl
theorem cCh_eq (k k' : D → D → Res D) (fb fc : Sm → Res D) (δ : Sm) (x : D) : cCh k k' fb fc δ x = (fb δ).bind (cCh1 k k' fc δ x) := Eq.trans rfl rfl
theorem cCh1_eq (k k' : D → D → Res D) (fc : Sm → Res D) (δ : Sm) (x y : D) : cCh1 k k' fc δ x y = (k x y).bind (cCh2 k' fc δ y) := Eq.trans rfl rfl
theorem cCh2_t (k' : D → D → Res D) (fc : Sm → Res D) (δ : Sm) (y : D) : cCh2 k' fc δ y (.bl true) = (fc δ).bind (k' y) := Eq.trans rfl rfl
theorem cCh2_f (k' : D → D → Res D) (fc : Sm → Res D) (δ : Sm) (y : D) : cCh2 k' fc δ y (.bl false) = .ok (.bl false) := Eq.trans rfl rfl
end Pd

set_option Elab.async false
set_option linter.all false
set_option maxRecDepth 100000
set_option maxHeartbeats 4000000
namespace Pd
open PySem L2
inductive Cell where
  | lst (ds : List D)
  | dct (ks vs : List D)
  | ins (C : Str) (fs : List (Str × D))
  | dcf (ks vs : List D)
  | tab (mk q : Str)
abbrev Cells := List Cell
inductive DcR (g : G) (H0 : Hp) : HO → List D → List D → Prop
  | k {kvs : List (Key × V)} {ks vs : List D} (e : ks = kvs.map fun p => keyD p.1) (r : RpA g H0 (kvs.map (·.2)) vs) : DcR g H0 (.dK kvs) ks vs
inductive CeR (g : G) (H0 : Hp) : HO → Cell → Prop
  | lst {vs : List V} {ds : List D} (r : RpA g H0 vs ds) : CeR g H0 (.lst vs) (.lst ds)
  | dct {o : HO} {ks vs : List D} (r : DcR g H0 o ks vs) : CeR g H0 o (.dct ks vs)
  | ins {C : Str} {dx : Addr} {fvs : List (Str × V)} {fs : List (Str × D)} (r : FR g H0 fvs fs) : CeR g H0 (.ins (g.ca C) dx fvs) (.ins C fs)
  | dcf {od : Obj} {o : HO} {ks vs : List D} (r : DcR g H0 o ks vs) : CeR g H0 (.frz od o) (.dcf ks vs)
  | tab {ps : Array Value} {mk q : Str} (t : TriplesOk ps.toList) (c : ∀ (pos : Pos) (cv : Value), codeAmong pos ps.toList = some cv → ∃ c, cv = .ref c ∧ H0 c = some (LamX.CodeO c q)) : CeR g H0 (.tbl ps) (.tab mk q)
section
variable {g : G} {H0 H H0' H' : Hp}
theorem DcR.up {o : HO} {ks vs : List D} (h : DcR g H0 o ks vs) (e0 : Same H0 H0') : DcR g H0' o ks vs := by
  cases h with
  | k e r => exact .k e (r.mono e0)
theorem FR.up {fvs : List (Str × V)} {fs : List (Str × D)} (h : FR g H0 fvs fs) (e0 : Same H0 H0') : FR g H0' fvs fs := ⟨h.1, h.2.mono e0⟩
theorem CeR.up {o : HO} {c : Cell} (h : CeR g H0 o c) (e0 : Same H0 H0') : CeR g H0' o c := by
  cases h with
  | lst r => exact .lst (r.mono e0)
  | dct r => exact .dct (r.up e0)
  | ins r => exact .ins (r.up e0)
  | dcf r => exact .dcf (r.up e0)
  | tab t c =>
    refine .tab t fun pos cv h => ?_
    obtain ⟨x, e1, e2⟩ := c pos cv h
    exact ⟨x, e1, e0 _ _ e2⟩
end
theorem CeR.nt {g : G} {H0 : Hp} {o : HO} {P q : Str} (h : CeR g H0 o (.tab P q)) (nt : ∀ ps, o ≠ .tbl ps) : False := by
  cases h with
  | tab t c => exact nt _ rfl
def tabA (K : PySem.W.Frag) (mk : Str) : Addr := (He.cT K (mk, none)).2
structure CSt (g : G) (H0 H : Hp) (κ : Cells) : Prop where
  at_ : ∀ n c, κ[n]? = some c → ∃ a o, H0 a = some (cmk n) ∧ H a = some o ∧ CeR g H0 o c
  bd : ∀ a n, H0 a = some (cmk n) → n < κ.length
  un : ∀ a b n, H0 a = some (cmk n) → H0 b = some (cmk n) → a = b
  tb : ∀ n P q, κ[n]? = some (.tab P q) → H0 (tabA g.K P) = some (cmk n)
structure Grw (H0 H H0' H' : Hp) : Prop where
  up : ∀ a u, H a = some u → (∀ n, H0 a ≠ some (cmk n)) → H' a = some u
  th : ∀ a, H a ≠ none → H' a ≠ none
  up0 : Same H0 H0'
  sub : Sub H0' H'
  fr : ∀ a, H a ≠ none → H0 a = none → H0' a = none
  lk : ∀ a od u, H a = some (.frz od u) → H' a = some (.frz od u)
theorem Grw.refl {H0 H : Hp} (s : Sub H0 H) : Grw H0 H H0 H := ⟨fun _ _ h _ => h, fun _ h => h, Same.refl H0, s, fun _ _ h => h, fun _ _ _ h => h⟩
theorem Grw.stay {H0 H H0' H' : Hp} (w : Grw H0 H H0' H') {a : Addr} (h : H a ≠ none) (n : ∀ n, H0 a ≠ some (cmk n)) : ∀ n, H0' a ≠ some (cmk n) := fun k e => by
  cases z : H0 a with
  | none =>
    rw [w.fr a h z] at e
    cases e
  | some u =>
    rw [w.up0 a u z] at e
    exact n k (z.trans e)
theorem Grw.trans {H0 H H1 H' H2 H'' : Hp} (a : Grw H0 H H1 H') (b : Grw H1 H' H2 H'') : Grw H0 H H2 H'' where
  up := fun x u e n => b.up x u (a.up x u e n) (a.stay (by rw [e]; exact fun z => nomatch z) n)
  th := fun x h => b.th x (a.th x h)
  up0 := a.up0.trans b.up0
  sub := b.sub
  fr := fun x h h0 => b.fr x (a.th x h) (a.fr x h h0)
  lk := fun x od u h => b.lk x od u (a.lk x od u h)
theorem Grow.grw {H0 H H0' H' : Hp} (w : Grow H0 H H0' H') : Grw H0 H H0' H' := ⟨fun a u h _ => w.up a u h, fun a h => by rw [same_at w.up h]; exact h, w.up0, w.sub, w.fr, fun a od u h => w.up a _ h⟩
theorem CSt.grow {g : G} {H0 H H0' H' : Hp} {κ : Cells} (c : CSt g H0 H κ) (w : Grow H0 H H0' H') : CSt g H0' H' κ where
  at_ := fun n x e => by
    obtain ⟨a, o, h1, h2, h3⟩ := c.at_ n x e
    exact ⟨a, o, w.up0 _ _ h1, w.up _ _ h2, h3.up w.up0⟩
  bd := fun a n h => c.bd a n (w.nm a n h)
  un := fun a b n h1 h2 => c.un a b n (w.nm a n h1) (w.nm b n h2)
  tb := fun n P q h => w.up0 _ _ (c.tb n P q h)
structure Stc (g : G) (Hc H0c H0 H : Hp) (σ : St) (δ : Sm) (κ : Cells) : Prop where
  own : ∃ as, Sls g H0 H σ δ as ∧ as.Nodup ∧ ∀ a ∈ as, Hc a = none ∧ H0 a = none
  cs : CSt g H0 H κ
  gr : Grw H0c Hc H0 H
section
variable {g : G} {Hc H0c H0 H H0' H' : Hp} {σ : St} {δ : Sm} {κ κ' : Cells}
theorem Stc.s0 (S : Stc g Hc H0c H0 H σ δ κ) : Sub H0 H := S.gr.sub
theorem Stc.grow (S : Stc g Hc H0c H0 H σ δ κ) (w : Grw H0 H H0' H') (c : CSt g H0' H' κ') : Stc g Hc H0c H0' H' σ δ κ' := by
  obtain ⟨as, h1, h2, h3⟩ := S.own
  refine ⟨⟨as, h1.up w.up0 fun a ha => ?_, h2, fun a ha => ⟨(h3 a ha).1, w.fr a (h1.there a ha) (h3 a ha).2⟩⟩, c, S.gr.trans w⟩
  obtain ⟨_, n0⟩ := h3 a ha
  cases e : H a with
  | none => exact absurd e (h1.there a ha)
  | some u => exact w.up a u e (fun n z => by rw [n0] at z; cases z)
structure Dwn (Hc H0 H Hd : Hp) : Prop where
  k2 : ∀ a u, H a = some u → H0 a ≠ none → Hd a = some u
  k3 : ∀ a, Hd a = none → H a = none ∨ Hc a = none ∧ H0 a = none
  k4 : Same Hd H
theorem Stc.down (S : Stc g Hc H0c H0 H σ δ κ) : ∃ Hd, Stt g Hd H0 H0 H σ δ ∧ Dwn Hc H0 H Hd := by
  obtain ⟨as, h1, h2, h3⟩ := S.own
  refine ⟨fun a => if a ∈ as then none else H a, ⟨⟨as, h1, h2, fun a ha => ⟨if_pos ha, (h3 a ha).2⟩⟩, S.s0, fun a u e => ?_, Same.refl H0, fun _ _ h => h, fun _ _ h => h⟩, fun a u e n => ?_, fun a e => ?_, fun a u e => ?_⟩
  · by_cases z : a ∈ as
    · rw [if_pos z] at e
      cases e
    · rw [if_neg z] at e
      exact e
  · exact (if_neg fun z => n (h3 a z).2).trans e
  · by_cases z : a ∈ as
    · exact .inr (h3 a z)
    · have e' : (if a ∈ as then none else H a) = none := e
      rw [if_neg z] at e'
      exact .inl e'
  · by_cases z : a ∈ as
    · have e' : (if a ∈ as then none else H a) = some u := e
      rw [if_pos z] at e'
      cases e'
    · have e' : (if a ∈ as then none else H a) = some u := e
      rw [if_neg z] at e'
      exact e'
end
inductive Rk (α : Type) where
  | ok (a : α) (κ : Cells)
  | xc (c : Str) (fs : List (Str × D)) (κ : Cells)
  | bad
def Rk.bind {α β : Type} (r : Rk α) (k : α → Cells → Rk β) : Rk β :=
  match r with
  | .ok a κ => k a κ
  | .xc c fs κ => .xc c fs κ
  | .bad => .bad
def Res.at {α : Type} (r : Res α) (κ : Cells) : Rk α :=
  match r with
  | .ok a => .ok a κ
  | .xc c fs => .xc c fs κ
  | .bad => .bad
theorem Rk.bind_ok {α β : Type} (a : α) (κ : Cells) (k : α → Cells → Rk β) : (Rk.ok a κ).bind k = k a κ := rfl
abbrev Sc (β : Type) := Sm → Cells → Rk β
def lf {β : Type} (f : Sm → Res β) : Sc β := fun δ κ => (f δ).at κ
def Post2 {α β : Type} (g : G) (W : WX) (σ : St) (H0 H : Hp) (R : Hp → α → β → Prop) (Q : α → Hp → Prop) : Rk β → Prop
  | .ok b κ => ∀ x H0' H', Grw H0 H H0' H' → CSt g H0' H' κ → R H0' x b → Q x H'
  | .xc c fs κ => ∀ ad fvs H0' H', Grw H0 H H0' H' → CSt g H0' H' κ → H' ad = some (.xd fvs) → FR g H0' fvs fs → W (.ref (g.ca c)) (some ad) σ H'
  | .bad => False
def tC {α β : Type} (g : G) (W : WX) (R : Hp → α → β → Prop) (f : Sc β) : St → Hp → (α → Hp → Prop) → Prop := fun σ H Q => ∃ Hc H0c H0 δ κ, Stc g Hc H0c H0 H σ δ κ ∧ Post2 g W σ H0 H R Q (f δ κ)
section
variable {α β α1 β1 : Type} {g : G} {W : WX} {σ : St} {δ : Sm} {κ κ' : Cells} {Hc H0c H0 H H0' H' : Hp} {R : Hp → α → β → Prop} {R1 : Hp → α1 → β1 → Prop} {Q : α → Hp → Prop}
theorem Post2.grow {r : Rk β} (w : Grw H0 H H0' H') (p : Post2 g W σ H0 H R Q r) : Post2 g W σ H0' H' R Q r := by
  cases r with
  | ok b κ => exact fun x A B w' c q => p x A B (w.trans w') c q
  | xc c fs κ => exact fun ad fvs A B w' c' q1 q2 => p ad fvs A B (w.trans w') c' q1 q2
  | bad => exact p
theorem Post2.bind {f1 : Sc β1} {k : β1 → Cells → Rk β} {P : α1 → Hp → Prop} (S : Stc g Hc H0c H0 H σ δ κ) (p : Post2 g W σ H0 H R Q ((f1 δ κ).bind k))
    (hk : ∀ x b κ' H0' H', Grw H0 H H0' H' → Stc g Hc H0c H0' H' σ δ κ' → R1 H0' x b → Post2 g W σ H0' H' R Q (k b κ') → P x H') : tC g W R1 f1 σ H P := by
  refine ⟨Hc, H0c, H0, δ, κ, S, ?_⟩
  cases e : f1 δ κ with
  | ok b κ' =>
    rw [e] at p
    exact fun x A B w c q => hk x b κ' A B w (S.grow w c) q (Post2.grow w p)
  | xc c fs κ' =>
    rw [e] at p
    exact p
  | bad =>
    rw [e] at p
    exact p.elim
theorem Post2.now {b : β} {x : α} (S : Stc g Hc H0c H0 H σ δ κ) (p : Post2 g W σ H0 H R Q (.ok b κ)) (r : R H0 x b) : Q x H := p x H0 H (Grw.refl S.s0) S.cs r
theorem Post2.pure {r : Res β} (S : Stc g Hc H0c H0 H σ δ κ) (p : Post2 g W σ H0 H R Q (r.at κ)) : Post g W σ H0 H R Q r := by
  cases r with
  | ok b => exact fun x A B w q => p x A B w.grw (S.cs.grow w) q
  | xc c fs => exact fun ad fvs A B w q1 q2 => p ad fvs A B w.grw (S.cs.grow w) q1 q2
  | bad => exact p
theorem lf_ok {f : Sm → Res β} (h : tC g W R (lf f) σ H Q) : tG g W R f σ H Q := by
  obtain ⟨Hc, H0c, H0, δ, κ, S, p⟩ := h
  obtain ⟨Hd, S1, _⟩ := S.down
  exact ⟨Hd, H0, H0, δ, S1, Post2.pure S p⟩
end
abbrev QD (X : Cx) (ca : Str → Addr) (W : WX) (e : Expr) (f : Sc D) : Prop := PE X e (tC ⟨X.K, ca, X.w⟩ W (Rp ⟨X.K, ca, X.w⟩) f)
abbrev QDT (X : Cx) (ca : Str → Addr) (W : WX) (e : Expr) (f : Sc Bool) : Prop := PT X e (tC ⟨X.K, ca, X.w⟩ W REq f)
abbrev QDW (X : Cx) (ca : Str → Addr) (W : WX) (e : Expr) (f : Sc Bool) : Prop := PW X e (tC ⟨X.K, ca, X.w⟩ W REq f)
abbrev QDA (X : Cx) (ca : Str → Addr) (W : WX) (e : List Expr) (f : Sc (List D)) : Prop := PA X e (tC ⟨X.K, ca, X.w⟩ W (RpA ⟨X.K, ca, X.w⟩) f)
abbrev QDK (X : Cx) (ca : Str → Addr) (W : WX) (e : List Keyword) (f : Sc (List D)) : Prop := PK X e (tC ⟨X.K, ca, X.w⟩ W (RpA ⟨X.K, ca, X.w⟩) f)
abbrev QDO (X : Cx) (ca : Str → Addr) (W : WX) (e : Option Expr) (f : Sc (Option Int)) : Prop := PO X e (tC ⟨X.K, ca, X.w⟩ W REq f)
section
variable {X : Cx} {ca : Str → Addr} {W : WX}
theorem qd_lf {e : Expr} {f : Sm → Res D} (h : PD X ca W e f) : QD X ca W e (lf f) := peI h fun _ _ _ h => lf_ok h
theorem qdt_lf {e : Expr} {f : Sm → Res Bool} (h : PDT X ca W e f) : QDT X ca W e (lf f) := ptI h fun _ _ _ h => lf_ok h
end
inductive Ot where
  | nx (δ : Sm) (κ : Cells)
  | rt (d : D) (κ : Cells)
  | bk (δ : Sm) (κ : Cells)
  | ct (δ : Sm) (κ : Cells)
  | xc (c : Str) (fs : List (Str × D)) (δ : Sm) (κ : Cells)
  | bad
def PostS2 (g : G) (W : WX) (Hc H0c : Hp) (E : Ends) : Ot → Prop
  | .nx δ κ => ∀ σ H0 H, Stc g Hc H0c H0 H σ δ κ → E.nx σ H
  | .rt d κ => ∀ v H0 H, Grw H0c Hc H0 H → CSt g H0 H κ → Rp g H0 v d → E.rt v H
  | .bk δ κ => ∀ σ H0 H, Stc g Hc H0c H0 H σ δ κ → E.bk σ H
  | .ct δ κ => ∀ σ H0 H, Stc g Hc H0c H0 H σ δ κ → E.ct σ H
  | .xc c fs δ κ => ∀ ad fvs σ H0 H, Stc g Hc H0c H0 H σ δ κ → H ad = some (.xd fvs) → FR g H0 fvs fs → W (.ref (g.ca c)) (some ad) σ H
  | .bad => False
abbrev Sn := Sm → Cells → Ot
def tS2 (g : G) (W : WX) (m : Sn) : TS := fun E σ H => ∃ Hc H0c H0 δ κ, Stc g Hc H0c H0 H σ δ κ ∧ PostS2 g W Hc H0c E (m δ κ)
abbrev QDS (X : Cx) (ca : Str → Addr) (W : WX) (s : Stmt) (m : Sn) : Prop := PS X s (tS2 ⟨X.K, ca, X.w⟩ W m)
abbrev QDSs (X : Cx) (ca : Str → Addr) (W : WX) (s : List Stmt) (m : Sn) : Prop := PSs X s (tS2 ⟨X.K, ca, X.w⟩ W m)
def Out.at (o : Out) (κ : Cells) : Ot :=
  match o with
  | .nx δ => .nx δ κ
  | .rt d => .rt d κ
  | .bk δ => .bk δ κ
  | .ct δ => .ct δ κ
  | .xc c fs δ => .xc c fs δ κ
  | .bad => .bad
def ls (m : Sm → Out) : Sn := fun δ κ => (m δ).at κ
section
variable {g : G} {W : WX} {Hc H0c H0 H : Hp} {σ : St} {δ : Sm} {κ : Cells}
theorem Stc.back (S : Stc g Hc H0c H0 H σ δ κ) {Hd : Hp} (k : Dwn Hc H0 H Hd) {σ' : St} {δ' : Sm} {A B : Hp} (T : Stt g Hd H0 A B σ' δ') : Stc g Hc H0c A B σ' δ' κ := by
  have cm : ∀ a n o, H0 a = some (cmk n) → H a = some o → B a = some o := fun a n o e q => T.sc a o (k.k2 a o q (by rw [e]; exact fun z => nomatch z))
  obtain ⟨as, h1, h2, h3⟩ := T.own
  refine ⟨⟨as, h1, h2, fun a ha => ?_⟩, ⟨fun n c e => ?_, fun a n e => S.cs.bd a n (T.nm a n e), fun a b n e1 e2 => S.cs.un a b n (T.nm a n e1) (T.nm b n e2), fun n P q e => T.s0c _ _ (S.cs.tb n P q e)⟩, ?_⟩
  · obtain ⟨n1, n2⟩ := h3 a ha
    rcases k.k3 a n1 with z | ⟨z1, z2⟩
    · refine ⟨?_, n2⟩
      cases q : Hc a with
      | none => rfl
      | some u => exact absurd z (S.gr.th a (by rw [q]; exact fun z => nomatch z))
    · exact ⟨z1, n2⟩
  · obtain ⟨a, o, h1, h2, h3⟩ := S.cs.at_ n c e
    exact ⟨a, o, T.s0c _ _ h1, cm a n o h1 h2, h3.up T.s0c⟩
  · have old : ∀ a u, Hc a = some u → H a = some u → B a = some u := fun a u e q => by
      cases z : Hd a with
      | none =>
        rcases k.k3 a z with y | ⟨y, _⟩
        · rw [q] at y
          cases y
        · rw [e] at y
          cases y
      | some w =>
        have y := k.k4 a w z
        rw [q] at y
        cases y
        exact T.sc a u z
    refine ⟨fun a u e n => old a u e (S.gr.up a u e n), fun a h => ?_, S.gr.up0.trans T.s0c, T.s0, fun a h h0 => ?_, fun a od u e => old a _ e (S.gr.lk a od u e)⟩
    · have q := S.gr.th a h
      cases z : Hd a with
      | none =>
        rcases k.k3 a z with y | ⟨y, _⟩
        · exact absurd y q
        · exact absurd y h
      | some w =>
        rw [T.sc a w z]
        exact fun z => nomatch z
    · have q := S.gr.th a h
      refine T.fr a ?_ (S.gr.fr a h h0)
      intro z
      rcases k.k3 a z with y | ⟨y, _⟩
      · exact absurd y q
      · exact absurd y h
theorem ls_ok {m : Sm → Out} {E : Ends} (h : tS2 g W (ls m) E σ H) : tS g W m E σ H := by
  obtain ⟨Hc, H0c, H0, δ, κ, S, p⟩ := h
  obtain ⟨Hd, S1, k⟩ := S.down
  refine ⟨Hd, H0, H0, δ, S1, ?_⟩
  unfold ls at p
  cases e : m δ with
  | nx δ' => rw [e] at p; exact fun σ' A B T => p σ' A B (S.back k T)
  | bk δ' => rw [e] at p; exact fun σ' A B T => p σ' A B (S.back k T)
  | ct δ' => rw [e] at p; exact fun σ' A B T => p σ' A B (S.back k T)
  | rt d =>
    rw [e] at p
    intro v A B w r
    have T : Stt g Hd H0 A B [] [] := ⟨⟨[], .nil, List.nodup_nil, fun a ha => nomatch ha⟩, w.sub, w.up, w.up0, w.fr, w.nm⟩
    have U := S.back k T
    exact p v A B U.gr U.cs r
  | xc c fs δ' => rw [e] at p; exact fun ad fvs σ' A B T q1 q2 => p ad fvs σ' A B (S.back k T) q1 q2
  | bad => rw [e] at p; exact p.elim
end
theorem qds_ls {X : Cx} {ca : Str → Addr} {W : WX} {s : Stmt} {m : Sm → Out} (h : PDS X ca W s m) : QDS X ca W s (ls m) := psI h fun _ _ _ h => ls_ok h
end Pd

set_option Elab.async false
set_option linter.all false
set_option maxRecDepth 100000
set_option maxHeartbeats 4000000
namespace Pd
open PySem L2
def Rk.out {α : Type} (r : Rk α) (δ : Sm) (k : α → Cells → Ot) : Ot :=
  match r with
  | .ok a κ => k a κ
  | .xc c fs κ => .xc c fs δ κ
  | .bad => .bad
def nNext : Sn := fun δ κ => .nx δ κ
def nSeq (m n : Sn) : Sn := fun δ κ => match m δ κ with
  | .nx δ' κ' => n δ' κ'
  | .rt d κ' => .rt d κ'
  | .bk δ' κ' => .bk δ' κ'
  | .ct δ' κ' => .ct δ' κ'
  | .xc c fs δ' κ' => .xc c fs δ' κ'
  | .bad => .bad
def nSet (i : Nat) (f : Sc D) : Sn := fun δ κ => (f δ κ).out δ fun d κ => .nx (δ.set i (.sh d)) κ
def nRet (f : Sc D) : Sn := fun δ κ => (f δ κ).out δ fun d κ => .rt d κ
def nDrop (f : Sc D) : Sn := fun δ κ => (f δ κ).out δ fun _ κ => .nx δ κ
def nIf (t : Sc Bool) (m n : Sn) : Sn := fun δ κ => (t δ κ).out δ fun c κ => if c = true then m δ κ else n δ κ
section
variable {α β : Type} {g : G} {W : WX} {σ : St} {δ : Sm} {κ : Cells} {Hc H0c H0 H : Hp} {R : Hp → α → β → Prop} {E : Ends}
theorem Post2.out {f : Sc β} {k : β → Cells → Ot} {P : α → Hp → Prop} (S : Stc g Hc H0c H0 H σ δ κ) (p : PostS2 g W Hc H0c E ((f δ κ).out δ k))
    (hk : ∀ x b κ' H0' H', Grw H0 H H0' H' → Stc g Hc H0c H0' H' σ δ κ' → R H0' x b → PostS2 g W Hc H0c E (k b κ') → P x H') : tC g W R f σ H P := by
  refine ⟨Hc, H0c, H0, δ, κ, S, ?_⟩
  cases e : f δ κ with
  | ok b κ' =>
    rw [e] at p
    exact fun x A B w c q => hk x b κ' A B w (S.grow w c) q p
  | xc c fs κ' =>
    rw [e] at p
    exact fun ad fvs A B w c q1 q2 => p ad fvs σ A B (S.grow w c) q1 q2
  | bad =>
    rw [e] at p
    exact p.elim
theorem Stc.setSh {x : V} {d : D} (S : Stc g Hc H0c H0 H σ δ κ) (r : Rp g H0 x d) (i : Nat) : Stc g Hc H0c H0 H (σ.set i (some x)) (δ.set i (.sh d)) κ := by
  obtain ⟨as, h1, h2, h3⟩ := S.own
  obtain ⟨bs, q1, q2, q3⟩ := Sls.set (.sh r) h1 i h2 List.nodup_nil fun a ha => nomatch ha
  refine ⟨⟨bs, q1, q2, fun a ha => ?_⟩, S.cs, S.gr⟩
  rcases q3 a ha with z | z
  · cases z
  · exact h3 a z
theorem Stc.setNo (S : Stc g Hc H0c H0 H σ δ κ) (v : Option V) (i : Nat) : Stc g Hc H0c H0 H (σ.set i v) (δ.set i .no) κ := by
  obtain ⟨as, h1, h2, h3⟩ := S.own
  obtain ⟨bs, q1, q2, q3⟩ := Sls.set (v := v) .no h1 i h2 List.nodup_nil fun a ha => nomatch ha
  refine ⟨⟨bs, q1, q2, fun a ha => ?_⟩, S.cs, S.gr⟩
  rcases q3 a ha with z | z
  · cases z
  · exact h3 a z
theorem Stc.bare (S : Stc g Hc H0c H0 H σ δ κ) : Stc g H H0 H0 H [] [] κ := ⟨⟨[], .nil, List.nodup_nil, fun a ha => nomatch ha⟩, S.cs, Grw.refl S.s0⟩
theorem Stc.plain (S : Stc g Hc H0c H0 H σ δ κ) : Stt g H H0 H0 H [] [] := ⟨⟨[], .nil, List.nodup_nil, fun a ha => nomatch ha⟩, S.s0, Same.refl H, Same.refl H0, fun _ _ h => h, fun _ _ h => h⟩
def wAt (W : WX) (σ : St) : WX := fun c d _ H => W c d σ H
theorem Post2.pureK {r : Res β} {Q : α → Hp → Prop} (S : Stc g Hc H0c H0 H σ δ κ) (p : Post2 g W σ H0 H R Q (r.at κ)) : Post g (wAt W σ) [] H0 H R Q r := by
  cases r with
  | ok b => exact fun x A B w q => p x A B w.grw (S.cs.grow w) q
  | xc c fs => exact fun ad fvs A B w q1 q2 => p ad fvs A B w.grw (S.cs.grow w) q1 q2
  | bad => exact p
end
section
variable {X : Cx} {ca : Str → Addr} {W : WX} {st : Stmt} {rest : List Stmt} {m n : Sn} {a b : Expr} {fa fb : Sc D} {ta : Sc Bool} {pos : Pos}
theorem qds_nil : QDSs X ca W [] nNext := pssI pss_nil fun E σ H ⟨Hc, H0c, H0, δ, κ, S, p⟩ => p σ H0 H S
theorem qds_cons (h1 : QDS X ca W st m) (h2 : QDSs X ca W rest n) : QDSs X ca W (st :: rest) (nSeq m n) := by
  refine pssI (pss_cons h1 h2) fun E σ H h => ?_
  obtain ⟨Hc, H0c, H0, δ, κ, S, p⟩ := h
  refine ⟨Hc, H0c, H0, δ, κ, S, ?_⟩
  unfold nSeq at p
  cases e : m δ κ with
  | nx δ' κ' =>
    rw [e] at p
    exact fun σ' A B S' => ⟨Hc, H0c, A, δ', κ', S', p⟩
  | rt d κ' => rw [e] at p; exact p
  | bk δ' κ' => rw [e] at p; exact p
  | ct δ' κ' => rw [e] at p; exact p
  | xc c fs δ' κ' => rw [e] at p; exact p
  | bad => rw [e] at p; exact p
theorem qds_one (h1 : QDS X ca W st m) : QDSs X ca W [st] m := pss_one h1
theorem qds_ret (ha : QD X ca W a fa) : QDS X ca W (.Return (some a) pos) (nRet fa) := psI (ps_ret ha) fun E σ H ⟨Hc, H0c, H0, δ, κ, S, p⟩ =>
  Post2.out S p fun x b κ' A B w S1 r p1 => p1 x A B S1.gr S1.cs r
theorem qds_expr (ha : QD X ca W a fa) (hs : swapsWith a none pos.line X.env = pure false := by rfl) : QDS X ca W (.Expr a pos) (nDrop fa) := psI (ps_expr ha hs) fun E σ H ⟨Hc, H0c, H0, δ, κ, S, p⟩ =>
  Post2.out S p fun x b κ' A B w S1 r p1 => p1 σ A B S1
theorem qds_set (i : Nat) {x : Str} {pos' : Pos} (hN : X.N.Nodup) (ha : QD X ca W a fa) (hi : X.N[i]? = some x := by rfl) (hx : Loc X.env.scope x := by first | exact Or.inl rfl | exact Or.inr rfl) (hs : swapsWith a (some (.Name x pos')) pos.line X.env = pure false := by rfl)
    (hf : X.fn x = true ∨ X.env.scope.names.lookup x = some .local := by first | exact .inl rfl | exact .inr rfl) : QDS X ca W (.Assign [.Name x pos'] a pos) (nSet i fa) :=
  psI (ps_set hN hi hx ha hs hf) fun E σ H ⟨Hc, H0c, H0, δ, κ, S, p⟩ => Post2.out S p fun x b κ' A B w S1 r p1 => p1 _ A B (S1.setSh r i)
theorem qds_if {ys ns : List Stmt} {c : Expr} (hc : QDT X ca W c ta) (hy : QDSs X ca W ys m) (hn : QDSs X ca W ns n) : QDS X ca W (.If c ys ns pos) (nIf ta m n) := by
  refine psI (ps_if hc hy hn) fun E σ H h => ?_
  obtain ⟨Hc, H0c, H0, δ, κ, S, p⟩ := h
  refine Post2.out S p fun x b κ' A B w S1 r p1 => ?_
  cases r
  cases x with
  | true => exact ⟨Hc, H0c, A, δ, κ', S1, p1⟩
  | false => exact ⟨Hc, H0c, A, δ, κ', S1, p1⟩
def z1 (k : D → Res D) (a : Sc D) : Sc D := fun δ κ => (a δ κ).bind fun x κ => (k x).at κ
def z2 (k : D → D → Res D) (a b : Sc D) : Sc D := fun δ κ => (a δ κ).bind fun x κ => (b δ κ).bind fun y κ => (k x y).at κ
def zNil : Sc (List D) := fun _ κ => .ok [] κ
def zCons (a : Sc D) (r : Sc (List D)) : Sc (List D) := fun δ κ => (a δ κ).bind fun x κ => (r δ κ).bind fun xs κ => .ok (x :: xs) κ
def zA (k : List D → Res D) (a : Sc (List D)) : Sc D := fun δ κ => (a δ κ).bind fun xs κ => (k xs).at κ
def zIf (t : Sc Bool) (a b : Sc D) : Sc D := fun δ κ => (t δ κ).bind fun c κ => if c = true then a δ κ else b δ κ
def sOf (a : Sc D) : Sc Bool := fun δ κ => (a δ κ).bind fun x κ => (asB x).at κ
def sAnd (a b : Sc Bool) : Sc Bool := fun δ κ => (a δ κ).bind fun c κ => if c = true then b δ κ else .ok false κ
def sOr (a b : Sc Bool) : Sc Bool := fun δ κ => (a δ κ).bind fun c κ => if c = true then .ok true κ else b δ κ
def sNot (a : Sc Bool) : Sc Bool := fun δ κ => (a δ κ).bind fun c κ => .ok (!c) κ
def zAnd (a b : Sc D) : Sc D := fun δ κ => (a δ κ).bind fun x κ => match x with
  | .bl true => b δ κ
  | .bl false => .ok (.bl false) κ
  | _ => .bad
def zOr (a b : Sc D) : Sc D := fun δ κ => (a δ κ).bind fun x κ => match x with
  | .bl true => .ok (.bl true) κ
  | .bl false => b δ κ
  | _ => .bad
theorem twoC {g : G} {σ : St} {H : Hp} {Q : VK} {r : R2} {k : D → D → Res D} (hk : K2 g r k) (h : tC g W (Rp g) (z2 k fa fb) σ H Q) : tOp r (tC g W (Rp g) fa) (tC g W (Rp g) fb) σ H Q := by
  obtain ⟨Hc, H0c, H0, δ, κ, S, p⟩ := h
  refine Post2.bind S p fun x a κ1 A1 B1 w1 S1 r1 p1 => ?_
  refine Post2.bind S1 p1 fun y b κ2 A2 B2 w2 S2 r2 p2 => ?_
  exact hk (wAt W σ) [] [] B2 A2 A2 B2 x y a b Q S2.plain (r1.mono w2.up0) r2 (Post2.pureK S2 p2)
theorem toBC {g : G} {σ : St} {H : Hp} {Q : Bool → Hp → Prop} (h : tC g W REq (sOf fa) σ H Q) : tB (tC g W (Rp g) fa) σ H Q := by
  obtain ⟨Hc, H0c, H0, δ, κ, S, p⟩ := h
  refine Post2.bind S p fun x a κ1 A1 B1 w1 S1 r1 p1 => ?_
  cases r1 with
  | bl b => exact ⟨b, rfl, Post2.now S1 p1 rfl⟩
  | _ => exact p1.elim
theorem qdt_cmp {op : CmpOp} {r : R2} {k : D → D → Res D} (ho : OpR X (compareOp op) r) (hk : K2 ⟨X.K, ca, X.w⟩ r k) (ha : QD X ca W a fa) (hb : QD X ca W b fb) (hm : behindInMarks op b = false := by first | exact nomark _ | rfl) : QDT X ca W (.Compare a [op] [b] pos) (sOf (z2 k fa fb)) := by
  refine ptI (pt_cmpR ho ha hb hm) fun σ H Q h => ?_
  have q : tB (tC ⟨X.K, ca, X.w⟩ W (Rp ⟨X.K, ca, X.w⟩) (z2 k fa fb)) σ H Q := toBC h
  exact twoC hk q
theorem qdt_val (ha : QD X ca W a fa) (he : ∀ whole, isTrue a X.env whole = (do let v ← whole; standAt a.pos; holding [v] (truthy v)) := by intro _; rfl) : QDT X ca W a (sOf fa) := ptI (pt_val ha he) fun σ H Q h => toBC h
variable {tb : Sc Bool} {rs : List Expr}
theorem qdw_and1 (ha : QDT X ca W a ta) : QDW X ca W (.BoolOp .And [a] pos) ta := pw_and1 ha
theorem qdw_or1 (ha : QDT X ca W a ta) : QDW X ca W (.BoolOp .Or [a] pos) ta := pw_or1 ha
theorem qdw_and (ha : QDT X ca W a ta) (hb : QDW X ca W (.BoolOp .And (b :: rs) pos) tb) : QDW X ca W (.BoolOp .And (a :: b :: rs) pos) (sAnd ta tb) := by
  refine pwI (pw_and ha hb) fun σ H Q h => ?_
  obtain ⟨Hc, H0c, H0, δ, κ, S, p⟩ := h
  refine Post2.bind S p fun x a κ1 A1 B1 w1 S1 r1 p1 => ?_
  cases r1
  cases x with
  | true => exact ⟨Hc, H0c, A1, δ, κ1, S1, p1⟩
  | false => exact Post2.now S1 p1 rfl
theorem qdw_or (ha : QDT X ca W a ta) (hb : QDW X ca W (.BoolOp .Or (b :: rs) pos) tb) : QDW X ca W (.BoolOp .Or (a :: b :: rs) pos) (sOr ta tb) := by
  refine pwI (pw_or ha hb) fun σ H Q h => ?_
  obtain ⟨Hc, H0c, H0, δ, κ, S, p⟩ := h
  refine Post2.bind S p fun x a κ1 A1 B1 w1 S1 r1 p1 => ?_
  cases r1
  cases x with
  | false => exact ⟨Hc, H0c, A1, δ, κ1, S1, p1⟩
  | true => exact Post2.now S1 p1 rfl
theorem qdt_w (h : QDW X ca W a ta) : QDT X ca W a ta := PW.pt h
theorem qdt_not (ha : QDT X ca W a ta) : QDT X ca W (.UnaryOp .Not a pos) (sNot ta) := by
  refine ptI (pt_not ha) fun σ H Q h => ?_
  obtain ⟨Hc, H0c, H0, δ, κ, S, p⟩ := h
  refine Post2.bind S p fun x a κ1 A1 B1 w1 S1 r1 p1 => ?_
  cases r1
  exact Post2.now S1 p1 rfl
variable {es : List Expr} {fl : Sc (List D)}
theorem qda_nil : QDA X ca W [] zNil := paI pa_nil fun σ H Q ⟨Hc, H0c, H0, δ, κ, S, p⟩ => Post2.now S p .nil
theorem qda_cons (ha : QD X ca W a fa) (hr : QDA X ca W es fl) (hs : starEach (a :: es) X.env = (false, eval a X.env) :: starEach es X.env := by rfl) : QDA X ca W (a :: es) (zCons fa fl) := by
  refine paI (pa_cons ha hr hs) fun σ H Q h => ?_
  obtain ⟨Hc, H0c, H0, δ, κ, S, p⟩ := h
  refine Post2.bind S p fun x a κ1 A1 B1 w1 S1 r1 p1 => ?_
  refine Post2.bind S1 p1 fun y b κ2 A2 B2 w2 S2 r2 p2 => ?_
  exact Post2.now S2 p2 (.cons (r1.mono w2.up0) r2)
variable {kws : List Keyword} {nm : Option Str} {kpos : Pos}
theorem qdk_nil : QDK X ca W [] zNil := pkI pk_nil fun σ H Q ⟨Hc, H0c, H0, δ, κ, S, p⟩ => Post2.now S p .nil
theorem qdk_cons (ha : QD X ca W a fa) (hr : QDK X ca W kws fl) : QDK X ca W (⟨nm, a, kpos⟩ :: kws) (zCons fa fl) := by
  refine pkI (pk_cons ha hr) fun σ H Q h => ?_
  obtain ⟨Hc, H0c, H0, δ, κ, S, p⟩ := h
  refine Post2.bind S p fun x a κ1 A1 B1 w1 S1 r1 p1 => ?_
  refine Post2.bind S1 p1 fun y b κ2 A2 B2 w2 S2 r2 p2 => ?_
  exact Post2.now S2 p2 (.cons (r1.mono w2.up0) r2)
theorem Post2.new {α β : Type} {g : G} {σ : St} {δ : Sm} {κ : Cells} {Hc H0c H0 H : Hp} {R : Hp → α → β → Prop} {Q : α → Hp → Prop} {b : β} {x : α} {p : Addr} {o : HO} (S : Stc g Hc H0c H0 H σ δ κ) (q : Post2 g W σ H0 H R Q (.ok b κ)) (hp : H p = none) (r : R (upd H0 p o) x b) (nk : ∀ n, o ≠ cmk n := by intro n z; cases z) : Q x (upd H p o) :=
  q x _ _ (Grow.new S.s0 hp nk).grw (S.cs.grow (Grow.new S.s0 hp nk)) r
theorem qd_tup {x1} (h : QDA X ca W es fl) : QD X ca W (.Tuple es x1 pos) (zA kTup fl) := by
  refine peI (pe_tup h) fun σ H Q h => ?_
  obtain ⟨Hc, H0c, H0, δ, κ, S, p⟩ := h
  refine Post2.bind S p fun xs ds κ1 A1 B1 w1 S1 r1 p1 => ?_
  unfold kTup at p1
  split at p1
  · rename_i hl
    refine ⟨szl (by rw [r1.length]; exact hl), fun q hq => Post2.new S1 p1 hq (.tup (SqT.of upd_same) (r1.mono (Grow.new S1.s0 hq).up0))⟩
  · exact p1.elim
theorem qd_lst (h : QDA X ca W es fl) : QD X ca W (.List es pos) (zA kLst fl) := by
  refine peI (pe_lst h) fun σ H Q h => ?_
  obtain ⟨Hc, H0c, H0, δ, κ, S, p⟩ := h
  refine Post2.bind S p fun xs ds κ1 A1 B1 w1 S1 r1 p1 => ?_
  unfold kLst at p1
  split at p1
  · rename_i hl
    refine ⟨szl (by rw [r1.length]; exact hl), fun q hq => Post2.new S1 p1 hq (.lst (.inl upd_same) (r1.mono (Grow.new S1.s0 hq).up0))⟩
  · exact p1.elim
end
def forC (gt : D → Sm → Res Sm) (b : Sn) : List D → Sn
  | [], δ, κ => .nx δ κ
  | d :: ds, δ, κ => match gt d δ with
    | .ok δ1 => match b δ1 κ with
      | .nx δ2 κ2 => forC gt b ds δ2 κ2
      | .ct δ2 κ2 => forC gt b ds δ2 κ2
      | .bk δ2 κ2 => .nx δ2 κ2
      | .rt r κ2 => .rt r κ2
      | .xc c fs δ2 κ2 => .xc c fs δ2 κ2
      | .bad => .bad
    | _ => .bad
def nFor (it : Sc (List D)) (gt : D → Sm → Res Sm) (b : Sn) : Sn := fun δ κ => (it δ κ).out δ fun ds κ => forC gt b ds δ κ
def whC (t : Sc Bool) (b : Sn) : Nat → Sn
  | 0, _, _ => .bad
  | n + 1, δ, κ => (t δ κ).out δ fun c κ => if c = true then (match b δ κ with
      | .nx δ2 κ2 => whC t b n δ2 κ2
      | .ct δ2 κ2 => whC t b n δ2 κ2
      | .bk δ2 κ2 => .nx δ2 κ2
      | .rt r κ2 => .rt r κ2
      | .xc c fs δ2 κ2 => .xc c fs δ2 κ2
      | .bad => .bad) else .nx δ κ
def nWhile (n : Nat) (t : Sc Bool) (b : Sn) : Sn := fun δ κ => whC t b n δ κ
def GOk2 (g : G) (vs : List Nat) (tg : TG) (gt : D → Sm → Res Sm) : Prop := ∀ (Hc H0c H0 H : Hp) (κ : Cells) (σ : St) (δ : Sm) (x : V) (d : D) (δ1 : Sm) (Q : St → Hp → Prop), Stc g Hc H0c H0 H σ δ κ → Rp g H0 x d → gt d δ = .ok δ1 →
  (∀ σ1, wipe σ1 vs = wipe σ vs → Stc g Hc H0c H0 H σ1 δ1 κ → Q σ1 H) → tg x σ H Q
theorem GOk.two {g : G} {vs : List Nat} {tg : TG} {gt : D → Sm → Res Sm} (h : GOk g vs tg gt) : GOk2 g vs tg gt := fun Hc H0c H0 H κ σ δ x d δ1 Q S r e k => by
  obtain ⟨Hd, S1, kk⟩ := S.down
  exact h Hd H0 H0 H σ δ x d δ1 Q S1 r e fun σ1 z T => k σ1 z (S.back kk T)
abbrev QDI (X : Cx) (ca : Str → Addr) (W : WX) (tg iter : Expr) (it : Sc (List D)) : Prop := PI X tg iter (tC ⟨X.K, ca, X.w⟩ W (Its ⟨X.K, ca, X.w⟩) it)
theorem qdi_lf {X : Cx} {ca : Str → Addr} {W : WX} {tg iter : Expr} {it : Sm → Res (List D)} (h : PDI X ca W tg iter it) : QDI X ca W tg iter (lf it) := piI h fun _ _ _ h => lf_ok h
theorem Stc.rebase {g : G} {Hc H0c H0 H : Hp} {σ : St} {δ : Sm} {κ : Cells} (S : Stc g Hc H0c H0 H σ δ κ) : Stc g Hc H0 H0 H σ δ κ :=
  ⟨S.own, S.cs, ⟨fun a u e n => S.gr.up a u e (fun k z => n k (S.gr.up0 a _ z)), S.gr.th, Same.refl H0, S.s0, fun _ _ h => h, S.gr.lk⟩⟩
theorem Grw.unbase {g : G} {Hc H0c A H H0 H' : Hp} {σ : St} {δ : Sm} {κ : Cells} (S : Stc g Hc H0c A H σ δ κ) (w : Grw A Hc H0 H') : Grw H0c Hc H0 H' :=
  ⟨fun a u e n => w.up a u e (S.gr.stay (by rw [e]; exact fun z => nomatch z) n), w.th, S.gr.up0.trans w.up0, w.sub, fun a h h0 => w.fr a h (S.gr.fr a h h0), w.lk⟩
theorem Stc.unbase {g : G} {Hc H0c A H H0 H' : Hp} {σ σ' : St} {δ δ' : Sm} {κ κ' : Cells} (S : Stc g Hc H0c A H σ δ κ) (S' : Stc g Hc A H0 H' σ' δ' κ') : Stc g Hc H0c H0 H' σ' δ' κ' := ⟨S'.own, S'.cs, Grw.unbase S S'.gr⟩
theorem PostS2.rebase {g : G} {W : WX} {Hc H0c A H : Hp} {σ : St} {δ : Sm} {κ : Cells} {E : Ends} {o : Ot} (S : Stc g Hc H0c A H σ δ κ) (p : PostS2 g W Hc H0c E o) : PostS2 g W Hc A E o := by
  cases o with
  | nx δ' κ' => exact fun σ' H0 H' S' => p σ' H0 H' (S.unbase S')
  | rt d κ' => exact fun v H0 H' w c r => p v H0 H' (Grw.unbase S w) c r
  | bk δ' κ' => exact fun σ' H0 H' S' => p σ' H0 H' (S.unbase S')
  | ct δ' κ' => exact fun σ' H0 H' S' => p σ' H0 H' (S.unbase S')
  | xc c fs δ' κ' => exact fun ad fvs σ' H0 H' S' q1 q2 => p ad fvs σ' H0 H' (S.unbase S') q1 q2
  | bad => exact p
section
variable {X : Cx} {ca : Str → Addr} {W : WX} {tg iter c a b : Expr} {it : Sc (List D)} {gt : D → Sm → Res Sm} {m : Sn} {t : Sc Bool} {body : List Stmt} {tgr : TG} {vs : List Nat} {pos p : Pos} {fa : Sc D} {fl : Sc (List D)}
theorem qds_for (hp : PassesOwn (model X.prog X.w) X.A X.env X.xe) (hc : X.calm = true) (hi : QDI X ca W tg iter it) (hg : PG X tg tgr) (hgo : GOk ⟨X.K, ca, X.w⟩ vs tgr gt) (hb : QDSs X ca W body m) (hs : ∀ x, foldedSetIterable iter X.env x = pure x := by intro _; rfl) :
    QDS X ca W (.For tg iter body [] pos) (nFor it gt m) := by
  refine psI (ps_for hp hc hi hg hb hs) fun E σ H h => ?_
  obtain ⟨Hc, H0c, H0, δ, κ, S, p⟩ := h
  refine Post2.out S p fun J ds κ1 A B w S1 its p1 => ?_
  have p1' := PostS2.rebase S1 p1
  refine ⟨fun i mm σ H => mm = ds.length - i ∧ i ≤ ds.length ∧ ∃ A1 δ1 κ1, Stc ⟨X.K, ca, X.w⟩ Hc A A1 H σ δ1 κ1 ∧ PostS2 ⟨X.K, ca, X.w⟩ W Hc A E (forC gt m (ds.drop i) δ1 κ1), ⟨ds.length, by omega, Nat.zero_le _, A, δ, κ1, S1.rebase, p1'⟩, ?_⟩
  rintro i mm σ2 H2 ⟨rfl, hi2, A1, δ1, κ2, S2, p2⟩
  by_cases hlt : i < ds.length
  · refine .inr ?_
    have e : ds[i]? = some ds[i] := List.getElem?_eq_getElem hlt
    obtain ⟨g1, g2⟩ := its.go i _ A1 H2 S2.gr.up0 S2.s0 e
    refine ⟨g1, fun σ' H' => (ds.length - (i + 1)) = ds.length - (i + 1) ∧ i + 1 ≤ ds.length ∧ ∃ A1 δ1 κ1, Stc ⟨X.K, ca, X.w⟩ Hc A A1 H' σ' δ1 κ1 ∧ PostS2 ⟨X.K, ca, X.w⟩ W Hc A E (forC gt m (ds.drop (i + 1)) δ1 κ1), fun σ' H' z => ⟨_, by omega, z⟩, fun x H3 y => ?_⟩
    obtain ⟨A2, w2, r2⟩ := g2 x H3 y
    rw [List.drop_eq_getElem_cons hlt] at p2
    unfold forC at p2
    cases e1 : gt ds[i] δ1 with
    | ok δ2 =>
      rw [e1] at p2
      have S3 := S2.grow w2.grw (S2.cs.grow w2)
      refine hgo.two Hc A A2 H3 κ2 σ2 δ1 x ds[i] δ2 _ S3 r2 e1 fun σ3 _ S4 => ?_
      refine ⟨Hc, A, A2, δ2, κ2, S4, ?_⟩
      cases e2 : m δ2 κ2 with
      | nx δ3 κ3 =>
        simp only [e2] at p2
        exact fun σ4 A4 H4 S4 => ⟨rfl, hlt, A4, δ3, κ3, S4, p2⟩
      | ct δ3 κ3 =>
        simp only [e2] at p2
        exact fun σ4 A4 H4 S4 => ⟨rfl, hlt, A4, δ3, κ3, S4, p2⟩
      | bk δ3 κ3 =>
        simp only [e2] at p2
        exact p2
      | rt d κ3 =>
        simp only [e2] at p2
        exact p2
      | xc c fs δ3 κ3 =>
        simp only [e2] at p2
        exact p2
      | bad =>
        simp only [e2] at p2
        exact p2
    | xc c fs => rw [e1] at p2; exact p2.elim
    | bad => rw [e1] at p2; exact p2.elim
  · refine .inl ⟨its.stop i H2 (.to S2.gr.up0 S2.s0) (by omega), ?_⟩
    rw [List.drop_eq_nil_of_le (by omega)] at p2
    exact p2 σ2 A1 H2 S2
theorem qdi_list (h : QD X ca W a fa) : QDI X ca W tg a (fun δ κ => (fa δ κ).bind fun d κ => (asL d).at κ) := by
  refine piI (pi_list h) fun σ H R h => ?_
  obtain ⟨Hc, H0c, H0, δ, κ, S, p⟩ := h
  refine Post2.bind S p fun x d κ1 A B w S1 r p1 => ?_
  cases r with
  | @lst l vs ds q r => exact ⟨l, rfl, ⟨vs, .inl (rdL_in S1.s0 q)⟩, Post2.now S1 p1 (its_list (.inl q) r)⟩
  | _ => exact p1.elim
def nAsg (f : Sc D) (gt : D → Sm → Res Sm) : Sn := fun δ κ => (f δ κ).out δ fun d κ => match gt d δ with
  | .ok δ1 => .nx δ1 κ
  | _ => .bad
theorem qds_asg {e : Expr} (he : QD X ca W e fa) (hg : PG X tg tgr) (hgo : GOk ⟨X.K, ca, X.w⟩ vs tgr gt) (hs : swapsWithSole [tg] e pos.line X.env = pure false := by rfl) (hw : swappedStores [tg] e X.env = pure none := by rfl)
    (h1 : (assignEach [tg] X.env).map (·.2) = [assign tg X.env] := by rfl) : QDS X ca W (.Assign [tg] e pos) (nAsg fa gt) := by
  refine psI (ps_asg he hg hs hw h1) fun E σ H h => ?_
  obtain ⟨Hc, H0c, H0, δ, κ, S, p⟩ := h
  refine Post2.out S p fun x d κ1 A B w S1 r p1 => ?_
  cases e1 : gt d δ with
  | ok δ1 =>
    simp only [e1] at p1
    exact hgo.two Hc H0c A B κ1 σ δ x d δ1 _ S1 r e1 fun σ1 _ S2 => p1 σ1 A B S2
  | xc c fs => simp only [e1] at p1; exact p1.elim
  | bad => simp only [e1] at p1; exact p1.elim
end
end Pd

set_option Elab.async false
set_option linter.all false
set_option maxRecDepth 100000
set_option maxHeartbeats 4000000
namespace Pd
open PySem L2
variable {vn : Bool}
def spC (g : G) (n : Nat) (fm : List D → Cells → Rk D) : Sp := fun vs H Q E => ∃ H0 κ ds, Sub H0 H ∧ CSt g H0 H κ ∧ RpA g H0 vs ds ∧ ds.length = n ∧ Post2 g (fun cls d _ H' => E cls d H') [] H0 H (Rp g) Q (fm ds κ)
def runC (n : Nat) (m : Sn) (ds : List D) (κ : Cells) : Rk D := match m (ds.map O.sh ++ List.replicate n O.no) κ with
  | .rt d κ => .ok d κ
  | .nx _ κ => .ok .non κ
  | .xc c fs _ κ => .xc c fs κ
  | _ => .bad
section
variable {P : Program} {w : World} {K : PySem.W.Frag} {mg : Str → Option Value} {base : Heap} {ca : Str → Addr} {x qual : Str} {params : Arguments} {body : List Stmt} {scope : Scope} {dvs : List V} {kws : List (Str × V)} {f : Addr} {fd : FuncData} {N ps : List Str} {k n : Nat} {m : Sn}
theorem fn_mkC (F : FunD K x qual params body scope dvs kws f fd) (S : FnScope N ps scope) (hn : N.length = ps.length + n)
    (hb : ∀ (cdv : Value) (A : Around) (outer : List Env) (s : Shared) (H : Hp) (E : XK), Room k (A.deeper (PyProof.Rows.envOfC qual scope s.heap.objs.size f cdv)) →
      QDSs (cxOf (CXv vn P w) P w K mg base N qual scope f cdv A outer s H E) ca (fun cls d _ H' => E cls d H') body m) :
    FnOk P w K mg base (CXv vn P w) (k + 1) f fd ps (spC ⟨K, ca, w⟩ ps.length (runC n m)) := by
  refine F.ok S (fun vs H Q E h => ?_) (fun cdv A outer s H vs Q E hr h => ⟨_, hb cdv A outer s H E hr, ?_⟩)
  · obtain ⟨H0, κ, ds, _, _, r, l, _⟩ := h
    rw [r.length, l]
  · obtain ⟨H0, κ, ds, s0, c0, r, l, p⟩ := h
    have el : N.length - vs.length = n := by
      rw [r.length, l, hn]
      omega
    refine ⟨H, H0, H0, ds.map O.sh ++ List.replicate n O.no, κ, ⟨⟨[], ?_, List.nodup_nil, fun a ha => nomatch ha⟩, c0, Grw.refl s0⟩, ?_⟩
    · unfold L2.start
      rw [el]
      exact sls_args r
    · unfold runC at p
      cases e : m (ds.map O.sh ++ List.replicate n O.no) κ with
      | nx δ κ' =>
        rw [e] at p
        exact fun σ A B S1 => p .non A B S1.gr S1.cs .non
      | rt d κ' =>
        rw [e] at p
        exact fun v A B w1 c1 r1 => p v A B w1 c1 r1
      | bk δ κ' => rw [e] at p; exact p.elim
      | ct δ κ' => rw [e] at p; exact p.elim
      | xc c fs δ κ' =>
        rw [e] at p
        exact fun ad fvs σ A B S1 q1 q2 => p ad fvs A B S1.gr S1.cs q1 q2
      | bad => rw [e] at p; exact p.elim
end
def ALc (f : Sc (List D)) (n : Nat) : Prop := ∀ δ κ ds κ', f δ κ = .ok ds κ' → ds.length = n
theorem alc_nil : ALc zNil 0 := fun _ _ _ _ h => by cases h; rfl
theorem alc_cons {a : Sc D} {r : Sc (List D)} {n : Nat} (h : ALc r n) : ALc (zCons a r) (n + 1) := fun δ κ ds κ' e => by
  unfold zCons at e
  cases e1 : a δ κ with
  | ok x κ1 =>
    rw [e1] at e
    have e' : (r δ κ1).bind (fun xs κ => .ok (x :: xs) κ) = .ok ds κ' := e
    cases e2 : r δ κ1 with
    | ok xs κ2 =>
      rw [e2] at e'
      cases e'
      rw [List.length_cons, h δ κ1 xs _ e2]
    | xc c fs κ2 => rw [e2] at e'; cases e'
    | bad => rw [e2] at e'; cases e'
  | xc c fs κ1 => rw [e1] at e; cases e
  | bad => rw [e1] at e; cases e
def zCall (fm : List D → Cells → Rk D) (gD : List D → List D → List D) (fa fk : Sc (List D)) : Sc D := fun δ κ => (fa δ κ).bind fun ds κ => (fk δ κ).bind fun es κ => fm (gD ds es) κ
theorem Post2.bindE {α α1 β β1 : Type} {g : G} {W : WX} {σ : St} {δ : Sm} {κ : Cells} {Hc H0c H0 H : Hp} {R : Hp → α → β → Prop} {R1 : Hp → α1 → β1 → Prop} {Q : α → Hp → Prop} {f1 : Sc β1} {k : β1 → Cells → Rk β} {P : α1 → Hp → Prop} (S : Stc g Hc H0c H0 H σ δ κ) (p : Post2 g W σ H0 H R Q ((f1 δ κ).bind k))
    (hk : ∀ x b κ' H0' H', f1 δ κ = .ok b κ' → Grw H0 H H0' H' → Stc g Hc H0c H0' H' σ δ κ' → R1 H0' x b → Post2 g W σ H0' H' R Q (k b κ') → P x H') : tC g W R1 f1 σ H P := by
  refine ⟨Hc, H0c, H0, δ, κ, S, ?_⟩
  cases e : f1 δ κ with
  | ok b κ' =>
    rw [e] at p
    exact fun x A B w c q => hk x b κ' A B e w (S.grow w c) q (Post2.grow w p)
  | xc c fs κ' =>
    rw [e] at p
    exact p
  | bad =>
    rw [e] at p
    exact p.elim
theorem Post2.bare {α β : Type} {g : G} {W : WX} {σ : St} {H0 H : Hp} {R : Hp → α → β → Prop} {Q : α → Hp → Prop} {r : Rk β} (p : Post2 g W σ H0 H R Q r) : Post2 g (fun cls d _ H' => WE W σ cls d H') [] H0 H R Q r := by
  cases r with
  | ok b κ => exact p
  | xc c fs κ => exact p
  | bad => exact p
section
variable {X : Cx} {ca : Str → Addr} {W : WX} {k n : Nat} {f : Addr} {fd : FuncData} {ps ks : List Str} {fm : List D → Cells → Rk D} {gD : List D → List D → List D} {x : Str} {p pos : Pos} {e : Expr} {es : List Expr} {kws : List Keyword} {fa fk : Sc (List D)}
theorem qd_call (F : FnOk X.prog X.w X.K X.mg X.base (CXv vn X.prog X.w) k f fd ps (spC ⟨X.K, ca, X.w⟩ ps.length fm)) (hr : Room k X.A) (hm : X.mg x = some (.ref f)) (hk : PySem.W.keepIn X.K (.ref f) = true) (hb : Bd ⟨X.K, ca, X.w⟩ fd ps n ks gD) (tk : TakesV vn X W)
    (ha : QDA X ca W (e :: es) fa) (hkw : QDK X ca W kws fk) (la : ALc fa n) (lk : ALc fk ks.length) (lg : ∀ ds es, ds.length = n → es.length = ks.length → (gD ds es).length = ps.length) (hg : Gl X x := by rfl)
    (hall : (backToKw pos (keywordEach kws X.env)).all (·.1.isSome) = true := by rfl) (hks : (backToKw pos (keywordEach kws X.env)).filterMap (·.1) = ks := by rfl)
    (hdb : (x == ("__debug__" : Str)) = false := by decide) (he : starEach (e :: es) X.env = (false, eval e X.env) :: starEach es X.env := by rfl)
    (hpl : ((backTo pos (starEach (e :: es) X.env)).any (·.1) || (backToKw pos (keywordEach kws X.env)).any (·.1.isNone)) = false := by rfl) :
    QD X ca W (.Call (.Name x p) (e :: es) kws pos) (zCall fm gD fa fk) := by
  obtain ⟨gg, gV, hb1, hb2⟩ := hb.ex
  refine ⟨fun pins s σ H Q I h => ?_⟩
  obtain ⟨Hc, H0c, H0, δ, κ, S, pp⟩ := h
  refine wpAny_Call_Name_kw (ld_glob I hg hm ?_ hdb)
  refine PySem.W.callWith_KW (h₀ := X.base) I.ok.mod.kin hk hall (thn (ha.run pos pins s σ H (fun vs B => ∃ ds A κ1, fa δ κ = .ok ds κ1 ∧ Stc ⟨X.K, ca, X.w⟩ Hc H0c A B σ δ κ1 ∧ RpA ⟨X.K, ca, X.w⟩ A vs ds ∧ Post2 ⟨X.K, ca, X.w⟩ W σ A B (Rp ⟨X.K, ca, X.w⟩) Q ((fk δ κ1).bind fun es κ => fm (gD ds es) κ)) I
    (Post2.bindE S pp fun vs ds κ1 A B e1 w S1 r1 p1 => ⟨ds, A, κ1, e1, S1, r1, p1⟩)) fun us s1 ⟨vs, H1, I1, rv, ds, A, κ1, e1, S1, r1, p1⟩ => ?_) hpl he
  refine thn (hkw.run pos pins s1 σ H1 (fun zs B => ∃ es A' κ2, fk δ κ1 = .ok es κ2 ∧ Stc ⟨X.K, ca, X.w⟩ Hc H0c A' B σ δ κ2 ∧ Same A A' ∧ RpA ⟨X.K, ca, X.w⟩ A' zs es ∧ Post2 ⟨X.K, ca, X.w⟩ W σ A' B (Rp ⟨X.K, ca, X.w⟩) Q (fm (gD ds es) κ2)) I1
    (Post2.bindE S1 p1 fun zs es κ2 A' B e2 w S2 r2 p2 => ⟨es, A', κ2, e2, S2, w.up0, r2, p2⟩)) fun ws s2 ⟨zs, H2, I2, rz, es, A', κ2, e2, S2, u2, r2, p2⟩ => ⟨I2.kIn, ?_⟩
  rw [hks]
  have l1 := la δ κ ds κ1 e1
  have l2 := lk δ κ1 es κ2 e2
  refine run_call F hr hb1 tk I2 rv rz (by rw [r1.length]; exact l1) (by rw [r2.length]; exact l2) ?_
  exact ⟨A', κ2, gD ds es, S2.s0, S2.cs, hb2 A' vs ds zs es (r1.mono u2) r2, lg ds es l1 l2, p2.bare⟩
theorem qd_call0 (F : FnOk X.prog X.w X.K X.mg X.base (CXv vn X.prog X.w) k f fd ps (spC ⟨X.K, ca, X.w⟩ ps.length fm)) (hr : Room k X.A) (hm : X.mg x = some (.ref f)) (hk : PySem.W.keepIn X.K (.ref f) = true) (hb : Bd ⟨X.K, ca, X.w⟩ fd ps 0 ks gD) (tk : TakesV vn X W)
    (hkw : QDK X ca W kws fk) (lk : ALc fk ks.length) (lg : ∀ es, es.length = ks.length → (gD [] es).length = ps.length) (hg : Gl X x := by rfl)
    (hall : (backToKw pos (keywordEach kws X.env)).all (·.1.isSome) = true := by rfl) (hks : (backToKw pos (keywordEach kws X.env)).filterMap (·.1) = ks := by rfl)
    (hdb : (x == ("__debug__" : Str)) = false := by decide)
    (hpl : ((backTo pos (starEach [] X.env)).any (·.1) || (backToKw pos (keywordEach kws X.env)).any (·.1.isNone)) = false := by rfl) :
    QD X ca W (.Call (.Name x p) [] kws pos) (zCall fm gD zNil fk) := by
  obtain ⟨gg, gV, hb1, hb2⟩ := hb.ex
  refine ⟨fun pins s σ H Q I h => ?_⟩
  obtain ⟨Hc, H0c, H0, δ, κ, S, pp⟩ := h
  have p1 : Post2 ⟨X.K, ca, X.w⟩ W σ H0 H (Rp ⟨X.K, ca, X.w⟩) Q ((fk δ κ).bind fun es κ => fm (gD [] es) κ) := pp
  refine wpAny_Call_Name_kw (ld_glob I hg hm ?_ hdb)
  refine PySem.W.callWith_KW0 (h₀ := X.base) I.ok.mod.kin hk hall (thn (hkw.run pos pins s σ H (fun zs B => ∃ es A' κ2, fk δ κ = .ok es κ2 ∧ Stc ⟨X.K, ca, X.w⟩ Hc H0c A' B σ δ κ2 ∧ RpA ⟨X.K, ca, X.w⟩ A' zs es ∧ Post2 ⟨X.K, ca, X.w⟩ W σ A' B (Rp ⟨X.K, ca, X.w⟩) Q (fm (gD [] es) κ2)) I
    (Post2.bindE S p1 fun zs es κ2 A' B e2 w S2 r2 p2 => ⟨es, A', κ2, e2, S2, r2, p2⟩)) fun ws s2 ⟨zs, H2, I2, rz, es, A', κ2, e2, S2, r2, p2⟩ => ⟨I2.kIn, ?_⟩) hpl
  rw [hks]
  have l2 := lk δ κ es κ2 e2
  refine run_call F hr hb1 tk I2 .nil rz rfl (by rw [r2.length]; exact l2) ?_
  exact ⟨A', κ2, gD [] es, S2.s0, S2.cs, hb2 A' [] [] zs es .nil r2, lg es l2, p2.bare⟩
end
def insOf (κ : Cells) : D → Option (Str × List (Str × D))
  | .loc n => match κ[n]? with
    | some (.ins C fs) => some (C, fs)
    | _ => none
  | .obj C ns xs => some (C, ns.zip xs)
  | _ => none
structure ClsF (K : PySem.W.Frag) (ca : Str → Addr) (C : Str) (f : Str) : Prop where
  cl : Cls K (ca C)
  no : NoAttr K (ca C) f
def zFld (Cs : List Str) (f : Str) (fo : Sc D) : Sc D := fun δ κ => (fo δ κ).bind fun d κ => match insOf κ d with
  | some (C, fs) => if C ∈ Cs then (match fs.lookup f with
    | some x => .ok x κ
    | none => .bad) else .bad
  | none => .bad
section
variable {X : Cx} {ca : Str → Addr} {W : WX} {o e : Expr} {f m : Str} {fo fe : Sc D} {pos apos p' : Pos} {Cs : List Str}
end
theorem CSt.put {g : G} {H0 H : Hp} {κ : Cells} {n : Nat} {a : Addr} {o : HO} {c : Cell} (C : CSt g H0 H κ) (m : H0 a = some (cmk n)) (r : CeR g H0 o c) (nt : ∀ ps, o ≠ .tbl ps := by intro _ z; cases z) : CSt g H0 (upd H a o) (κ.set n c) where
  tb := fun i P q e => by
    by_cases z : n = i
    · subst z
      rw [List.getElem?_set_self (C.bd a n m)] at e
      cases e
      exact (r.nt nt).elim
    · rw [List.getElem?_set_ne z] at e
      exact C.tb i P q e
  at_ := fun i x e => by
    by_cases z : n = i
    · subst z
      rw [List.getElem?_set_self (C.bd a n m)] at e
      cases e
      exact ⟨a, o, m, upd_same, r⟩
    · rw [List.getElem?_set_ne z] at e
      obtain ⟨b, u, h1, h2, h3⟩ := C.at_ i x e
      have hb : b ≠ a := fun y => by
        subst y
        rw [m] at h1
        exact z (cmk_inj (Option.some.inj h1))
      exact ⟨b, u, h1, by rw [upd_ne hb]; exact h2, h3⟩
  bd := fun b i h => by rw [List.length_set]; exact C.bd b i h
  un := C.un
theorem Grw.put {H0 H : Hp} {n : Nat} {a : Addr} {o o0 : HO} (s : Sub H0 H) (m : H0 a = some (cmk n)) (h0 : H a = some o0) (nf : ∀ od u, o0 ≠ .frz od u := by intro _ _ z; cases z) : Grw H0 H H0 (upd H a o) where
  lk := fun b od u e => by
    have hb : b ≠ a := fun y => by
      rw [y, h0] at e
      exact nf od u (Option.some.inj e)
    rw [upd_ne hb]
    exact e
  up := fun b u e z => by
    have hb : b ≠ a := fun y => z n (by rw [y]; exact m)
    rw [upd_ne hb]
    exact e
  th := fun b h => by
    by_cases z : b = a
    · rw [z, upd_same]
      exact fun y => nomatch y
    · rw [upd_ne z]
      exact h
  up0 := Same.refl H0
  sub := fun b u e => by
    by_cases z : b = a
    · subst z
      rw [m] at e
      exact .inr ⟨⟨n, (Option.some.inj e).symm⟩, by rw [upd_same]; exact fun y => nomatch y⟩
    · rw [upd_ne z]
      exact s b u e
  fr := fun _ _ h => h
theorem CSt.push {g : G} {H0 H : Hp} {κ : Cells} {a : Addr} {o : HO} {c : Cell} (C : CSt g H0 H κ) (s : Sub H0 H) (h : H a = none) (r : CeR g (upd H0 a (cmk κ.length)) o c) (nt : ∀ ps, o ≠ .tbl ps := by intro _ z; cases z) : CSt g (upd H0 a (cmk κ.length)) (upd H a o) (κ ++ [c]) := by
  have h0 := s.free h
  have up : Same H0 (upd H0 a (cmk κ.length)) := fun b u e => by rw [upd_ne (ne_of_none e h0)]; exact e
  have old : ∀ b n, upd H0 a (cmk κ.length) b = some (cmk n) → b = a ∧ n = κ.length ∨ b ≠ a ∧ H0 b = some (cmk n) := fun b n e => by
    by_cases z : b = a
    · subst z
      rw [upd_same] at e
      exact .inl ⟨rfl, (cmk_inj (Option.some.inj e)).symm⟩
    · rw [upd_ne z] at e
      exact .inr ⟨z, e⟩
  refine ⟨fun i x e => ?_, fun b n e => ?_, fun b d n e1 e2 => ?_, fun i P q e => ?_⟩
  · by_cases z : i < κ.length
    · rw [List.getElem?_append_left z] at e
      obtain ⟨b, u, h1, h2, h3⟩ := C.at_ i x e
      exact ⟨b, u, up _ _ h1, by rw [upd_ne (ne_of_none h2 h)]; exact h2, h3.up up⟩
    · have z2 : i = κ.length := by
        have := (List.getElem?_eq_some_iff.mp e).1
        rw [List.length_append, List.length_singleton] at this
        omega
      subst z2
      rw [List.getElem?_append_right (Nat.le_refl _), Nat.sub_self] at e
      cases e
      exact ⟨a, o, upd_same, upd_same, r⟩
  · rw [List.length_append, List.length_singleton]
    rcases old b n e with ⟨_, z⟩ | ⟨_, z⟩
    · omega
    · have := C.bd b n z
      omega
  · rcases old b n e1 with ⟨z1, z2⟩ | ⟨z1, z2⟩
    · rcases old d n e2 with ⟨y1, y2⟩ | ⟨y1, y2⟩
      · rw [z1, y1]
      · have := C.bd d n y2
        omega
    · rcases old d n e2 with ⟨y1, y2⟩ | ⟨y1, y2⟩
      · have := C.bd b n z2
        omega
      · exact C.un b d n z2 y2
  · by_cases z : i < κ.length
    · rw [List.getElem?_append_left z] at e
      exact up _ _ (C.tb i P q e)
    · have z2 : i = κ.length := by
        have := (List.getElem?_eq_some_iff.mp e).1
        rw [List.length_append, List.length_singleton] at this
        omega
      subst z2
      rw [List.getElem?_append_right (Nat.le_refl _), Nat.sub_self] at e
      cases e
      exact (r.nt nt).elim
theorem Grw.push {H0 H : Hp} {n : Nat} {a : Addr} {o : HO} (s : Sub H0 H) (h : H a = none) : Grw H0 H (upd H0 a (cmk n)) (upd H a o) where
  lk := fun b od u e => by rw [upd_ne (ne_of_none e h)]; exact e
  up := fun b u e _ => by rw [upd_ne (ne_of_none e h)]; exact e
  th := fun b hb => by
    have z : b ≠ a := fun y => hb (by rw [y]; exact h)
    rw [upd_ne z]
    exact hb
  up0 := fun b u e => by rw [upd_ne (ne_of_none e (s.free h))]; exact e
  sub := fun b u e => by
    by_cases z : b = a
    · subst z
      rw [upd_same] at e
      exact .inr ⟨⟨n, (Option.some.inj e).symm⟩, by rw [upd_same]; exact fun y => nomatch y⟩
    · rw [upd_ne z] at e ⊢
      exact s b u e
  fr := fun b hb h0 => by
    have z : b ≠ a := fun y => hb (by rw [y]; exact h)
    rw [upd_ne z]
    exact h0
def putD (f : Str) (d : D) : List (Str × D) → List (Str × D)
  | [] => [(f, d)]
  | (k, x) :: r => if k = f then (k, d) :: r else (k, x) :: putD f d r
def nFld (Cs : List Str) (f : Str) (fo fe : Sc D) : Sn := fun δ κ => (fe δ κ).out δ fun x κ => (fo δ κ).out δ fun d κ => match d with
  | .loc n => match κ[n]? with
    | some (.ins C fs) => if C ∈ Cs ∧ fs.length < 900 then .nx δ (κ.set n (.ins C (putD f x fs))) else .bad
    | _ => .bad
  | _ => .bad
theorem FR.put {g : G} {H : Hp} {f : Str} {y : V} {d : D} (r : Rp g H y d) : ∀ {fvs : List (Str × V)} {fs : List (Str × D)}, FR g H fvs fs → FR g H (putF f y fvs) (putD f d fs)
  | [], [], _ => ⟨rfl, .one r⟩
  | [], _ :: _, h => by cases h.1
  | _ :: _, [], h => by cases h.1
  | (k, v) :: fvs, (k', x) :: fs, h => by
    obtain ⟨h1, h2⟩ := h
    simp only [List.map_cons] at h1 h2
    cases h2 with
    | cons q t =>
      obtain ⟨rfl, h3⟩ := List.cons.inj h1
      unfold putF putD
      by_cases z : k = f
      · subst z
        first
          | (rw [if_pos rfl, if_pos rfl]; exact ⟨by simp only [List.map_cons, h3], by simp only [List.map_cons]; exact .cons r t⟩)
          | (simp; exact ⟨by simp [h3], by simpa using RpA.cons r t⟩)
      · obtain ⟨u1, u2⟩ := FR.put r (f := f) (y := y) (d := d) ⟨h3, t⟩
        have zb : (k == f) = false := by simpa using z
        first
          | (rw [if_neg z, if_neg z]; exact ⟨by simp only [List.map_cons, u1], by simp only [List.map_cons]; exact .cons q u2⟩)
          | (rw [if_neg z]; simp only [zb]; exact ⟨by simp [u1], by simpa using RpA.cons q u2⟩)
theorem FR.len {g : G} {H : Hp} {fvs : List (Str × V)} {fs : List (Str × D)} (h : FR g H fvs fs) : fvs.length = fs.length := by
  have := congrArg List.length h.1
  rwa [List.length_map, List.length_map] at this
section
variable {X : Cx} {ca : Str → Addr} {W : WX} {o e : Expr} {f m : Str} {fo fe : Sc D} {pos apos p' : Pos} {Cs : List Str}
end
end Pd

set_option Elab.async false
set_option linter.all false
set_option maxRecDepth 100000
set_option maxHeartbeats 4000000
namespace Pd
open PySem L2
variable {vn : Bool}
structure MthE (vn : Bool) (P : Program) (w : World) (K : PySem.W.Frag) (mg : Str → Option Value) (base : Heap) (ca : Str → Addr) (C m : Str) (n : Nat) (ks : List Str) (gD : List D → List D → List D) (k : Nat) (fm : List D → Cells → Rk D) : Prop where
  ex : ∃ (f : Addr) (fd : FuncData) (ps : List Str), Cls K (ca C) ∧ Meth K (ca C) m f ∧ FnOk P w K mg base (CXv vn P w) k f fd ps (spC ⟨K, ca, w⟩ ps.length fm) ∧ Bd ⟨K, ca, w⟩ fd ps n ks gD ∧ ∀ ds es, ds.length = n → es.length = ks.length → (gD ds es).length = ps.length
abbrev Fc := List D → Cells → Rk D
def zMeth (m : Str) (Ms : List (Str × Fc)) (gD : List D → List D → List D) (fo : Sc D) (fa fk : Sc (List D)) : Sc D := fun δ κ => (fo δ κ).bind fun d κ => match insOf κ d with
  | some (C, fs) => (match fs.lookup m with
    | some _ => .bad
    | none => match Ms.lookup C with
      | some fm => (fa δ κ).bind fun ds κ => (fk δ κ).bind fun es κ => fm (gD (d :: ds) es) κ
      | none => .bad)
  | none => .bad
section
variable {X : Cx} {ca : Str → Addr} {W : WX} {k n : Nat} {ks : List Str} {Ms : List (Str × Fc)} {gD : List D → List D → List D} {m : Str} {apos pos : Pos} {o e : Expr} {es : List Expr} {kws : List Keyword} {fo : Sc D} {fa fk : Sc (List D)}
end
section
variable {X : Cx} {W : WX} {k n : Nat} {f C : Addr} {fd : FuncData} {ps ks : List Str} {sp : Sp} {g : List Value → List Value → List Value} {gV : List V → List V → List V}
end
def zMake (C : Str) (fm : Fc) (gD : List D → List D → List D) (fa fk : Sc (List D)) : Sc D := fun δ κ => (fa δ κ).bind fun ds κ => (fk δ κ).bind fun es κ => (fm (gD (.loc κ.length :: ds) es) (κ ++ [.ins C []])).bind fun r κ' => match r with
  | .non => .ok (.loc κ.length) κ'
  | _ => .bad
structure MkE (vn : Bool) (P : Program) (w : World) (K : PySem.W.Frag) (mg : Str → Option Value) (base : Heap) (ca : Str → Addr) (C : Str) (n : Nat) (ks : List Str) (gD : List D → List D → List D) (k : Nat) (fm : Fc) : Prop where
  ex : ∃ (f : Addr) (fd : FuncData) (ps : List Str), Mk K (ca C) f ∧ FnOk P w K mg base (CXv vn P w) k f fd ps (spC ⟨K, ca, w⟩ ps.length fm) ∧ Bd ⟨K, ca, w⟩ fd ps n ks gD ∧ ∀ ds es, ds.length = n → es.length = ks.length → (gD ds es).length = ps.length
  m : mg C = some (.ref (ca C))
section
variable {X : Cx} {ca : Str → Addr} {W : WX} {k n : Nat} {ks : List Str} {fm : Fc} {gD : List D → List D → List D} {x : Str} {p pos : Pos} {e : Expr} {es : List Expr} {kws : List Keyword} {fa fk : Sc (List D)}
end
end Pd

set_option Elab.async false
set_option linter.all false
set_option maxRecDepth 100000
set_option maxHeartbeats 4000000
namespace Pd
open PySem L2
variable {vn : Bool}
mutual
def imm : D → Bool
  | .non => true
  | .bl _ => true
  | .int _ => true
  | .str _ => true
  | .tup xs => immA xs
  | _ => false
def immA : List D → Bool
  | [] => true
  | d :: ds => imm d && immA ds
end
def rsv : Nat → Cells → D → D
  | 0, _, d => d
  | n + 1, κ, .loc i => match κ[i]? with
    | some (.lst ds) => .lst (ds.map (rsv n κ))
    | _ => .loc i
  | n + 1, κ, .lst ds => .lst (ds.map (rsv n κ))
  | n + 1, κ, .tup ds => .tup (ds.map (rsv n κ))
  | _ + 1, _, d => d
open Classical in
noncomputable def star (H0 H : Hp) : Hp := fun a => if ∃ n, H0 a = some (cmk n) then H a else H0 a
open Classical in
noncomputable def unstar (H0 A : Hp) : Hp := fun a => if ∃ n, H0 a = some (cmk n) then H0 a else A a
section
variable {g : G} {H0 H A B : Hp} {κ : Cells}
theorem star_mk {a : Addr} {n : Nat} (h : H0 a = some (cmk n)) : star H0 H a = H a := if_pos ⟨n, h⟩
theorem star_no {a : Addr} (h : ∀ n, H0 a ≠ some (cmk n)) : star H0 H a = H0 a := if_neg fun ⟨n, z⟩ => h n z
theorem unstar_mk {a : Addr} {n : Nat} (h : H0 a = some (cmk n)) : unstar H0 A a = H0 a := if_pos ⟨n, h⟩
theorem unstar_no {a : Addr} (h : ∀ n, H0 a ≠ some (cmk n)) : unstar H0 A a = A a := if_neg fun ⟨n, z⟩ => h n z
theorem mk_or (H0 : Hp) (a : Addr) : (∃ n, H0 a = some (cmk n)) ∨ ∀ n, H0 a ≠ some (cmk n) := by
  by_cases h : ∃ n, H0 a = some (cmk n)
  · exact .inl h
  · exact .inr fun n z => h ⟨n, z⟩
theorem star_sub (s : Sub H0 H) : Same (star H0 H) H := fun a u e => by
  rcases mk_or H0 a with ⟨n, z⟩ | z
  · rwa [star_mk z] at e
  · rw [star_no z] at e
    exact s.get e fun n y => z n (by rw [e, y])
theorem star_get {a : Addr} {u : HO} (h : H0 a = some u) (n : ∀ n, u ≠ cmk n) : star H0 H a = some u := by
  rw [star_no fun k z => n k (Option.some.inj (h.symm.trans z))]
  exact h
theorem rd_star {a : Addr} {u : HO} (h : Rd H0 a u) (n : ∀ n, u ≠ cmk n) : Rd (star H0 H) a u := by
  rcases h with h | ⟨o, h⟩
  · exact .inl (star_get h n)
  · exact .inr ⟨o, star_get h fun _ z => nomatch z⟩
theorem sqT_star {K : PySem.W.Frag} {a : Addr} {vs : List V} (h : SqT K H0 a vs) : SqT K (star H0 H) a vs := by
  rcases h with h | h
  · exact .inl (rd_star h fun _ z => nomatch z)
  · exact .inr h
theorem rsv_rp (c : CSt g H0 H κ) : ∀ (n : Nat) (d : D) (v : V), Rp g H0 v d → plain (rsv n κ d) = true → Rp g (star H0 H) v (rsv n κ d)
  | 0, d, v, r, hp => by
    have go : ∀ (d : D) (v : V), plain d = true → Rp g H0 v d → Rp g (star H0 H) v d := fun d => by
      refine D.rec (motive_1 := fun d => ∀ v, plain d = true → Rp g H0 v d → Rp g (star H0 H) v d) (motive_2 := fun ds => ∀ vs, plainA ds = true → RpA g H0 vs ds → RpA g (star H0 H) vs ds) ?_ ?_ ?_ ?_ ?_ ?_ ?_ ?_ ?_ ?_ ?_ ?_ ?_ ?_ d
      · intro v _ r; cases r; exact .non
      · intro b v _ r; cases r; exact .bl b
      · intro i v _ r; cases r; exact .int i
      · intro x v _ r; cases r; exact .str x
      · intro xs ih v h r
        cases r with
        | lst q r => exact .lst (rd_star q fun _ z => nomatch z) (ih _ h r)
      · intro xs ih v h r
        cases r with
        | tup q r => exact .tup (sqT_star q) (ih _ h r)
      · intro C ns xs ih v h r; cases h
      · intro ns v h r; cases h
      · intro n v h r; cases h
      · intro ks vs _ _ v h r; cases h
      · intro ks vs _ v h r; cases h
      · intro i v h r; cases h
      · intro vs _ r; cases r; exact .nil
      · intro x xs i1 i2 vs h r
        cases r with
        | cons q r =>
          have h2 := Bool.and_eq_true_iff.mp (show (plain x && plainA xs) = true from h)
          exact .cons (i1 _ h2.1 q) (i2 _ h2.2 r)
    exact go d v hp r
  | n + 1, d, v, r, hp => by
    have many : ∀ (ds : List D) (vs : List V), RpA g H0 vs ds → plainA (ds.map (rsv n κ)) = true → RpA g (star H0 H) vs (ds.map (rsv n κ)) := by
      intro ds
      induction ds with
      | nil => intro vs r _; cases r; exact .nil
      | cons x xs ih =>
        intro vs r h
        cases r with
        | cons q r =>
          have h2 := Bool.and_eq_true_iff.mp (show (plain (rsv n κ x) && plainA (xs.map (rsv n κ))) = true from h)
          exact .cons (rsv_rp c n x _ q h2.1) (ih _ r h2.2)
    cases r with
    | non => exact .non
    | bl b => exact .bl b
    | int i => exact .int i
    | str x => exact .str x
    | @lst a vs ds q r => exact .lst (rd_star q fun _ z => nomatch z) (many ds vs r hp)
    | @tup a vs ds q r => exact .tup (sqT_star q) (many ds vs r hp)
    | obj q r => cases hp
    | scr q => cases hp
    | @loc a i q =>
      unfold rsv at hp ⊢
      cases e : κ[i]? with
      | none => rw [e] at hp; cases hp
      | some x =>
        rw [e] at hp
        cases x with
        | lst ds =>
          obtain ⟨b, o, h1, h2, h3⟩ := c.at_ i _ e
          cases c.un a b i q h1
          cases h3 with
          | lst r => exact .lst (.inl (by rw [star_mk q]; exact h2)) (many ds _ r hp)
        | dct ks vs => cases hp
        | ins C fs => cases hp
        | dcf ks vs => cases hp
        | tab P q => cases hp
    | dcK q e r => cases hp
    | dtt q _ _ _ _ _ => cases hp
    | clo _ _ _ _ _ _ => cases hp
theorem rsv_rpa (c : CSt g H0 H κ) (n : Nat) : ∀ {ds : List D} {vs : List V}, RpA g H0 vs ds → plainA (ds.map (rsv n κ)) = true → RpA g (star H0 H) vs (ds.map (rsv n κ))
  | [], _, .nil, _ => .nil
  | d :: ds, _, .cons q r, h => by
    have h2 := Bool.and_eq_true_iff.mp (show (plain (rsv n κ d) && plainA (ds.map (rsv n κ))) = true from h)
    exact .cons (rsv_rp c n d _ q h2.1) (rsv_rpa c n r h2.2)
theorem mark_no (c : CSt g H0 H κ) {a : Addr} {n : Nat} (h : H0 a = some (cmk n)) : (∀ xs, H a ≠ some (.tup xs)) ∧ (∀ o xs, H a ≠ some (.frz o (.tup xs))) ∧ ∀ k, H a ≠ some (cmk k) := by
  have hl := c.bd a n h
  obtain ⟨b, o, h1, h2, h3⟩ := c.at_ n _ (List.getElem?_eq_getElem hl)
  cases c.un a b n h h1
  rw [h2]
  generalize κ[n] = cc at h3
  cases h3 with
  | lst r => exact ⟨fun _ z => (nomatch z), fun _ _ z => (nomatch z), fun _ z => (nomatch z)⟩
  | dct r =>
    cases r with
    | k e r => exact ⟨fun _ z => (nomatch z), fun _ _ z => (nomatch z), fun _ z => (nomatch z)⟩
  | ins r => exact ⟨fun _ z => (nomatch z), fun _ _ z => (nomatch z), fun _ z => (nomatch z)⟩
  | dcf r =>
    cases r with
    | k e r => exact ⟨fun _ z => (nomatch z), fun _ _ z => (nomatch z), fun _ z => (nomatch z)⟩
  | tab t c => exact ⟨fun _ z => (nomatch z), fun _ _ z => (nomatch z), fun _ z => (nomatch z)⟩
theorem unstar_grow (c : CSt g H0 H κ) (s : Sub H0 H) (w : Grow (star H0 H) H A B) : Grow H0 H (unstar H0 A) B where
  up := w.up
  up0 := fun a u e => by
    rcases mk_or H0 a with ⟨n, z⟩ | z
    · rw [unstar_mk z]
      exact e
    · rw [unstar_no z]
      exact w.up0 a u ((star_no z).trans e)
  sub := fun a u e => by
    rcases mk_or H0 a with ⟨n, z⟩ | z
    · rw [unstar_mk z, z] at e
      refine .inr ⟨⟨n, (Option.some.inj e).symm⟩, ?_⟩
      have h : H a ≠ none := fun y => by rw [s.free y] at z; cases z
      rw [same_at w.up h]
      exact h
    · rw [unstar_no z] at e
      exact w.sub a u e
  fr := fun a h h0 => by
    have z : ∀ n, H0 a ≠ some (cmk n) := fun n y => by rw [h0] at y; cases y
    rw [unstar_no z]
    exact w.fr a h ((star_no z).trans h0)
  nm := fun a n h => by
    rcases mk_or H0 a with ⟨k, z⟩ | z
    · rw [unstar_mk z] at h
      exact h
    · rw [unstar_no z] at h
      have y := w.nm a n h
      rw [star_no z] at y
      exact y
theorem unstar_rp (c : CSt g H0 H κ) (w : Grow (star H0 H) H A B) : ∀ (d : D) (v : V), imm d = true → Rp g A v d → Rp g (unstar H0 A) v d := fun d => by
  refine D.rec (motive_1 := fun d => ∀ v, imm d = true → Rp g A v d → Rp g (unstar H0 A) v d) (motive_2 := fun ds => ∀ vs, immA ds = true → RpA g A vs ds → RpA g (unstar H0 A) vs ds) ?_ ?_ ?_ ?_ ?_ ?_ ?_ ?_ ?_ ?_ ?_ ?_ ?_ ?_ d
  · intro v _ r; cases r; exact .non
  · intro b v _ r; cases r; exact .bl b
  · intro i v _ r; cases r; exact .int i
  · intro x v _ r; cases r; exact .str x
  · intro xs ih v h r; cases h
  · intro xs ih v h r
    cases r with
    | @tup a vs _ q r =>
      refine .tup ?_ (ih _ h r)
      rcases q with q | q
      · refine .inl ?_
        rcases mk_or H0 a with ⟨n, z⟩ | z
        · exfalso
          have hl := c.bd a n z
          obtain ⟨b, o, h1, h2, h3⟩ := c.at_ n _ (List.getElem?_eq_getElem hl)
          cases c.un a b n z h1
          have y : A a = some o := w.up0 a o ((star_mk z).trans h2)
          obtain ⟨m1, m2, _⟩ := mark_no c z
          rcases q with q | ⟨o', q⟩
          · rw [y] at q
            exact m1 _ (h2.trans q)
          · rw [y] at q
            exact m2 _ _ (h2.trans q)
        · unfold Rd
          rw [unstar_no z]
          exact q
      · exact .inr q
  · intro C ns xs ih v h r; cases h
  · intro ns v h r; cases h
  · intro n v h r; cases h
  · intro ks vs _ _ v h r; cases h
  · intro ks vs _ v h r; cases h
  · intro i v h r; cases h
  · intro vs _ r; cases r; exact .nil
  · intro x xs i1 i2 vs h r
    cases r with
    | cons q r =>
      have h2 := Bool.and_eq_true_iff.mp (show (imm x && immA xs) = true from h)
      exact .cons (i1 _ h2.1 q) (i2 _ h2.2 r)
theorem unstar_rpa (c : CSt g H0 H κ) (w : Grow (star H0 H) H A B) : ∀ {ds : List D} {vs : List V}, immA ds = true → RpA g A vs ds → RpA g (unstar H0 A) vs ds
  | [], _, _, .nil => .nil
  | d :: ds, _, h, .cons q r => by
    have h2 := Bool.and_eq_true_iff.mp (show (imm d && immA ds) = true from h)
    exact .cons (unstar_rp c w d _ h2.1 q) (unstar_rpa c w h2.2 r)
end
def rImm (r : Res D) : Res D := match r with
  | .ok d => if imm d = true then .ok d else .bad
  | .xc c fs => if immA (fs.map (·.2)) = true then .xc c fs else .bad
  | .bad => .bad
theorem Post2.bor {g : G} {W : WX} {σ : St} {H0 H : Hp} {κ : Cells} {Q : VK} {r : Res D} (c : CSt g H0 H κ) (s : Sub H0 H) (p : Post2 g W σ H0 H (Rp g) Q ((rImm r).at κ)) : Post g W σ (star H0 H) H (Rp g) Q r := by
  cases r with
  | ok d =>
    by_cases z : imm d = true
    · have p' : Post2 g W σ H0 H (Rp g) Q (.ok d κ) := by
        unfold rImm at p
        simp only [if_pos z] at p
        exact p
      intro x A B w q
      have w' := unstar_grow c s w
      exact p' x _ B w'.grw (c.grow w') (unstar_rp c w d x z q)
    · unfold rImm at p
      simp only [if_neg z] at p
      exact p.elim
  | xc cc fs =>
    by_cases z : immA (fs.map (·.2)) = true
    · have p' : Post2 g W σ H0 H (Rp g) Q (.xc cc fs κ) := by
        unfold rImm at p
        simp only [if_pos z] at p
        exact p
      intro ad fvs A B w q1 q2
      have w' := unstar_grow c s w
      exact p' ad fvs _ B w'.grw (c.grow w') q1 ⟨q2.1, unstar_rpa c w z q2.2⟩
    · unfold rImm at p
      simp only [if_neg z] at p
      exact p.elim
  | bad => exact p
def rDeep : Nat := 6
def bor (fm : List D → Res D) : Fc := fun ds κ => if plainA (ds.map (rsv rDeep κ)) = true then (rImm (fm (ds.map (rsv rDeep κ)))).at κ else .bad
theorem fn_bor {P : Program} {w : World} {K : PySem.W.Frag} {mg : Str → Option Value} {base : Heap} {ca : Str → Addr} {f : Addr} {fd : FuncData} {ps : List Str} {k n : Nat} {fm : List D → Res D} (F : FnOk P w K mg base (CXv vn P w) k f fd ps (spD ⟨K, ca, w⟩ n fm)) : FnOk P w K mg base (CXv vn P w) k f fd ps (spC ⟨K, ca, w⟩ n (bor fm)) := F.imp fun vs H Q E h => by
  obtain ⟨H0, κ, ds, s0, c0, r, l, p⟩ := h
  unfold bor at p
  by_cases z : plainA (ds.map (rsv rDeep κ)) = true
  · simp only [if_pos z] at p
    exact ⟨star H0 H, ds.map (rsv rDeep κ), Sub.of (star_sub s0), rsv_rpa c0 rDeep r z, by rw [List.length_map, l], Post2.bor c0 s0 p⟩
  · simp only [if_neg z] at p
    exact p.elim
def z2b (k : D → D → Res D) (a b : Sc D) : Sc D := fun δ κ => (a δ κ).bind fun x κ => (b δ κ).bind fun y κ => if (plain (rsv rDeep κ x) && plain (rsv rDeep κ y)) = true then (rImm (k (rsv rDeep κ x) (rsv rDeep κ y))).at κ else .bad
def zAb (k : List D → Res D) (a : Sc (List D)) : Sc D := fun δ κ => (a δ κ).bind fun xs κ => if plainA (xs.map (rsv rDeep κ)) = true then (rImm (k (xs.map (rsv rDeep κ)))).at κ else .bad
section
variable {X : Cx} {ca : Str → Addr} {W : WX} {a b : Expr} {es : List Expr} {fa fb : Sc D} {fl : Sc (List D)} {pos p : Pos}
theorem star_stt {g : G} {H0 H : Hp} (s : Sub H0 H) : Stt g H (star H0 H) (star H0 H) H [] [] := ⟨⟨[], .nil, List.nodup_nil, fun a ha => nomatch ha⟩, Sub.of (star_sub s), Same.refl H, Same.refl _, fun _ _ h => h, fun _ _ h => h⟩
theorem Post2.wat {α β : Type} {g : G} {σ : St} {H0 H : Hp} {R : Hp → α → β → Prop} {Q : α → Hp → Prop} {r : Rk β} (p : Post2 g W σ H0 H R Q r) : Post2 g (wAt W σ) [] H0 H R Q r := by
  cases r with
  | ok b κ => exact p
  | xc c fs κ => exact p
  | bad => exact p
theorem twoB {g : G} {σ : St} {H : Hp} {Q : VK} {r : R2} {k : D → D → Res D} (hk : K2 g r k) (h : tC g W (Rp g) (z2b k fa fb) σ H Q) : tOp r (tC g W (Rp g) fa) (tC g W (Rp g) fb) σ H Q := by
  obtain ⟨Hc, H0c, H0, δ, κ, S, p⟩ := h
  refine Post2.bind S p fun x a κ1 A1 B1 w1 S1 r1 p1 => ?_
  refine Post2.bind S1 p1 fun y b κ2 A2 B2 w2 S2 r2 p2 => ?_
  split at p2
  · rename_i z
    obtain ⟨z1, z2⟩ := Bool.and_eq_true_iff.mp z
    exact hk (wAt W σ) [] [] B2 _ _ B2 x y _ _ Q (star_stt S2.s0) (rsv_rp S2.cs rDeep a x (r1.mono w2.up0) z1) (rsv_rp S2.cs rDeep b y r2 z2) (Post2.bor S2.cs S2.s0 p2.wat)
  · exact p2.elim
theorem qdt_cmpb {op : CmpOp} {r : R2} {k : D → D → Res D} (ho : OpR X (compareOp op) r) (hk : K2 ⟨X.K, ca, X.w⟩ r k) (ha : QD X ca W a fa) (hb : QD X ca W b fb) (hm : behindInMarks op b = false := by first | exact nomark _ | rfl) : QDT X ca W (.Compare a [op] [b] pos) (sOf (z2b k fa fb)) := by
  refine ptI (pt_cmpR ho ha hb hm) fun σ H Q h => ?_
  have q : tB (tC ⟨X.K, ca, X.w⟩ W (Rp ⟨X.K, ca, X.w⟩) (z2b k fa fb)) σ H Q := toBC h
  exact twoB hk q
end
theorem rsv_plain (κ : Cells) : ∀ (n : Nat) (d : D), plain d = true → rsv n κ d = d
  | 0, d, _ => rfl
  | n + 1, d, h => by
    have many : ∀ ds : List D, plainA ds = true → ds.map (rsv n κ) = ds := by
      intro ds
      induction ds with
      | nil => intro _; rfl
      | cons x xs ih =>
        intro h
        have h2 := Bool.and_eq_true_iff.mp (show (plain x && plainA xs) = true from h)
        rw [List.map_cons, rsv_plain κ n x h2.1, ih h2.2]
    cases d with
    | lst ds => show D.lst (ds.map (rsv n κ)) = _; rw [many ds h]
    | tup ds => show D.tup (ds.map (rsv n κ)) = _; rw [many ds h]
    | loc i => cases h
    | _ => rfl
theorem rsv_plainA (κ : Cells) (n : Nat) : ∀ (ds : List D), plainA ds = true → ds.map (rsv n κ) = ds
  | [], _ => rfl
  | x :: xs, h => by
    have h2 := Bool.and_eq_true_iff.mp (show (plain x && plainA xs) = true from h)
    rw [List.map_cons, rsv_plain κ n x h2.1, rsv_plainA κ n xs h2.2]
end Pd

set_option Elab.async false
set_option linter.all false
set_option maxRecDepth 100000
set_option maxHeartbeats 4000000
namespace Pd
open PySem L2
def K2c (g : G) (r : R2) (k : D → D → Cells → Rk D) : Prop := ∀ (W : WX) (σ : St) (δ : Sm) (κ : Cells) (Hc H0c H0 H : Hp) (x y : V) (a b : D) (Q : VK), Stc g Hc H0c H0 H σ δ κ → Rp g H0 x a → Rp g H0 y b → Post2 g W σ H0 H (Rp g) Q (k a b κ) → r x y H Q
def KNc (g : G) (r : List V → Hp → VK → Prop) (k : List D → Cells → Rk D) : Prop := ∀ (W : WX) (σ : St) (δ : Sm) (κ : Cells) (Hc H0c H0 H : Hp) (xs : List V) (as : List D) (Q : VK), Stc g Hc H0c H0 H σ δ κ → RpA g H0 xs as → Post2 g W σ H0 H (Rp g) Q (k as κ) → r xs H Q
def KMt (g : G) (r : V → List V → Hp → VK → Prop) (k : D → List D → Cells → Rk D) : Prop := ∀ (W : WX) (σ : St) (δ : Sm) (κ : Cells) (Hc H0c H0 H : Hp) (x : V) (xs : List V) (a : D) (as : List D) (Q : VK), Stc g Hc H0c H0 H σ δ κ → Rp g H0 x a → RpA g H0 xs as → Post2 g W σ H0 H (Rp g) Q (k a as κ) → r x xs H Q
def z2c (k : D → D → Cells → Rk D) (a b : Sc D) : Sc D := fun δ κ => (a δ κ).bind fun x κ => (b δ κ).bind fun y κ => k x y κ
def zAc (k : List D → Cells → Rk D) (a : Sc (List D)) : Sc D := fun δ κ => (a δ κ).bind fun xs κ => k xs κ
section
variable {X : Cx} {ca : Str → Addr} {W : WX} {a b o e : Expr} {es : List Expr} {fa fb fo : Sc D} {fl : Sc (List D)} {pos p apos : Pos}
theorem twoK {g : G} {σ : St} {H : Hp} {Q : VK} {r : R2} {k : D → D → Cells → Rk D} (hk : K2c g r k) (h : tC g W (Rp g) (z2c k fa fb) σ H Q) : tOp r (tC g W (Rp g) fa) (tC g W (Rp g) fb) σ H Q := by
  obtain ⟨Hc, H0c, H0, δ, κ, S, p⟩ := h
  refine Post2.bind S p fun x a κ1 A1 B1 w1 S1 r1 p1 => ?_
  refine Post2.bind S1 p1 fun y b κ2 A2 B2 w2 S2 r2 p2 => ?_
  exact hk W σ δ κ2 Hc H0c A2 B2 x y a b Q S2 (r1.mono w2.up0) r2 p2
theorem manyK {g : G} {σ : St} {H : Hp} {Q : VK} {r : List V → Hp → VK → Prop} {k : List D → Cells → Rk D} (hk : KNc g r k) (h : tC g W (Rp g) (zAc k fl) σ H Q) : tCB r (tC g W (RpA g) fl) σ H Q := by
  obtain ⟨Hc, H0c, H0, δ, κ, S, p⟩ := h
  exact Post2.bind S p fun x a κ1 A1 B1 w1 S1 r1 p1 => hk W σ δ κ1 Hc H0c A1 B1 x a Q S1 r1 p1
theorem qd_ixc {r : R2} {k : D → D → Cells → Rk D} (ho : IxR X r) (hk : K2c ⟨X.K, ca, X.w⟩ r k) (ha : QD X ca W a fa) (hb : QD X ca W b fb) (hs : PlainIx b := by exact fun _ _ => rfl) : QD X ca W (.Subscript a b pos) (z2c k fa fb) := peI (pe_ix ho ha hb hs) fun σ H Q h => twoK hk h
theorem qd_callBc {r : List V → Hp → VK → Prop} {k : List D → Cells → Rk D} {id : String} {x : Str} (hc : CallR X (.builtin id) r) (hk : KNc ⟨X.K, ca, X.w⟩ r k) (hm : X.mg x = none) (hv : bootBuiltins x = some (.builtin id)) (ha : QDA X ca W (a :: es) fl) (hg : Gl X x := by rfl) (hn : x ≠ "__name__" := by decide) (hdb : (x == ("__debug__" : Str)) = false := by decide)
    (he : starEach (a :: es) X.env = (false, eval a X.env) :: starEach es X.env := by rfl) (hpl : (backTo pos (starEach es X.env)).any (·.1) = false := by rfl) : QD X ca W (.Call (.Name x p) (a :: es) [] pos) (zAc k fl) := peI (pe_callB hc hg hm hv ha hn hdb he hpl) fun σ H Q h => manyK hk h
end
def lstR (κ : Cells) : D → Option (List D)
  | .lst ds => some ds
  | .loc n => match κ[n]? with
    | some (.lst ds) => some ds
    | _ => none
  | _ => none
def lstOf (κ : Cells) : D → Option (List D)
  | .scr ns => some (ns.map D.int)
  | d => lstR κ d
theorem lstR_ok {g : G} {H0 H : Hp} {κ : Cells} {v : V} {d : D} {ds : List D} (c : CSt g H0 H κ) (s : Sub H0 H) (r : Rp g H0 v d) (e : lstR κ d = some ds) : ∃ a vs, v = .ref a ∧ Rd H a (.lst vs) ∧ RpA g H0 vs ds := by
  cases r with
  | @lst a vs ds' q r => cases e; exact ⟨a, vs, rfl, rdL_in s q, r⟩
  | @loc a n q =>
    unfold lstR at e
    dsimp only at e
    cases e1 : κ[n]? with
    | none => rw [e1] at e; cases e
    | some y =>
      rw [e1] at e
      cases y with
      | lst ds' =>
        cases e
        obtain ⟨b, o, h1, h2, h3⟩ := c.at_ n _ e1
        cases c.un a b n q h1
        cases h3 with
        | @lst vs _ r => exact ⟨a, vs, rfl, .inl h2, r⟩
      | _ => cases e
  | _ => cases e
theorem lstOf_ok {g : G} {H0 H : Hp} {κ : Cells} {v : V} {d : D} {ds : List D} (c : CSt g H0 H κ) (s : Sub H0 H) (r : Rp g H0 v d) (e : lstOf κ d = some ds) : ∃ a vs, v = .ref a ∧ SqL g.K H a vs ∧ RpA g H0 vs ds := by
  by_cases z : ∃ ns, d = .scr ns
  · obtain ⟨ns, rfl⟩ := z
    cases r with
    | @scr a ns q => cases e; exact ⟨a, _, rfl, sqL_in s q, RpA.mapInt ns⟩
  · have e' : lstR κ d = some ds := by
      unfold lstOf at e
      split at e
      · exact absurd ⟨_, rfl⟩ z
      · exact e
    obtain ⟨a, vs, h1, h2, h3⟩ := lstR_ok c s r e'
    exact ⟨a, vs, h1, .inl h2, h3⟩
theorem cellL {g : G} {H0 H : Hp} {κ : Cells} {n : Nat} {a : Addr} {ds : List D} (c : CSt g H0 H κ) (q : H0 a = some (cmk n)) (e : κ[n]? = some (.lst ds)) : ∃ vs, H a = some (.lst vs) ∧ RpA g H0 vs ds := by
  obtain ⟨b, o, h1, h2, h3⟩ := c.at_ n _ e
  cases c.un a b n q h1
  cases h3 with
  | @lst vs _ r => exact ⟨vs, h2, r⟩
theorem Post2.put {α : Type} {g : G} {W : WX} {σ : St} {δ : Sm} {κ : Cells} {Hc H0c H0 H : Hp} {R : Hp → V → α → Prop} {Q : VK} {b : α} {x : V} {n : Nat} {a : Addr} {o : HO} {c : Cell} (S : Stc g Hc H0c H0 H σ δ κ) (p : Post2 g W σ H0 H R Q (.ok b (κ.set n c))) (m : H0 a = some (cmk n)) {o0 : HO} (h0 : H a = some o0) (r : CeR g H0 o c) (rx : R H0 x b) (nf : ∀ od u, o0 ≠ .frz od u := by intro _ _ z; cases z) (nt : ∀ ps, o ≠ .tbl ps := by intro _ z; cases z) : Q x (upd H a o) :=
  p x H0 _ (Grw.put S.s0 m h0 nf) (S.cs.put m r nt) rx
theorem Post2.push {g : G} {W : WX} {σ : St} {δ : Sm} {κ : Cells} {Hc H0c H0 H : Hp} {Q : VK} {a : Addr} {o : HO} {c : Cell} (S : Stc g Hc H0c H0 H σ δ κ) (p : Post2 g W σ H0 H (Rp g) Q (.ok (.loc κ.length) (κ ++ [c]))) (h : H a = none) (r : CeR g (upd H0 a (cmk κ.length)) o c) (nt : ∀ ps, o ≠ .tbl ps := by intro _ z; cases z) : Q (.ref a) (upd H a o) :=
  p _ _ _ (Grw.push S.s0 h) (S.cs.push S.s0 h r nt) (.loc upd_same)
theorem upMk {H0 H : Hp} {a : Addr} {n : Nat} (s : Sub H0 H) (h : H a = none) : Same H0 (upd H0 a (cmk n)) := fun b u e => by rw [upd_ne (ne_of_none e (s.free h))]; exact e
def kLen2 : List D → Cells → Rk D
  | [d], κ => match lstOf κ d with
    | some ds => .ok (.int ds.length) κ
    | none => (kLen [d]).at κ
  | _, _ => .bad
def kIx2 (x y : D) (κ : Cells) : Rk D := match lstOf κ x with
  | some ds => (match y with
    | .int i => (atD ds i).at κ
    | _ => .bad)
  | none => (kIx x y).at κ
def kList2 : List D → Cells → Rk D
  | [d], κ => match lstOf κ d with
    | some ds => .ok (.lst ds) κ
    | none => (kList [d]).at κ
  | _, _ => .bad
def kListC : List D → Cells → Rk D
  | [d], κ => match lstOf κ d with
    | some ds => .ok (.loc κ.length) (κ ++ [.lst ds])
    | none => match d with
      | .tup ds => .ok (.loc κ.length) (κ ++ [.lst ds])
      | _ => .bad
  | _, _ => .bad
def kNewL (ds : List D) (κ : Cells) : Rk D := if ds.length ≤ 16777216 then .ok (.loc κ.length) (κ ++ [.lst ds]) else .bad
def kCat2 (x y : D) (κ : Cells) : Rk D := match lstR κ x, lstR κ y with
  | some xs, some ys => if xs.length + ys.length ≤ 16777216 then .ok (.lst (xs ++ ys)) κ else .bad
  | _, _ => .bad
def kCatC (x y : D) (κ : Cells) : Rk D := match lstR κ x, lstR κ y with
  | some xs, some ys => if xs.length + ys.length ≤ 16777216 then .ok (.loc κ.length) (κ ++ [.lst (xs ++ ys)]) else .bad
  | _, _ => .bad
section
variable {X : Cx} {ca : Str → Addr}
theorem knc_len : KNc ⟨X.K, ca, X.w⟩ (fun xs H Q => ∃ x n, xs = [x] ∧ LenV X.K x H n ∧ Q (.int n) H) kLen2 := by
  intro W σ δ κ Hc H0c H0 H xs as Q S r p
  cases r with
  | nil => exact p.elim
  | @cons v vs d ds q r =>
    cases r with
    | nil =>
      unfold kLen2 at p
      dsimp only at p
      cases e : lstOf κ d with
      | some ds =>
        rw [e] at p
        obtain ⟨a, vs, rfl, h1, h2⟩ := lstOf_ok S.cs S.s0 q e
        exact ⟨.ref a, ds.length, rfl, .inl ⟨vs, h1, h2.length.symm⟩, Post2.now S p (.int _)⟩
      | none =>
        rw [e] at p
        exact kn_len (wAt W σ) [] [] H H0 H0 H _ _ Q S.plain (.one q) (Post2.pureK S p)
    | cons _ _ => exact p.elim
theorem k2c_ix : K2c ⟨X.K, ca, X.w⟩ (rIx X.K) kIx2 := by
  intro W σ δ κ Hc H0c H0 H x y a b Q S rx ry p
  unfold kIx2 at p
  cases e : lstOf κ a with
  | some ds =>
    rw [e] at p
    obtain ⟨l, vs, rfl, h1, h2⟩ := lstOf_ok S.cs S.s0 rx e
    cases ry with
    | int i =>
      have p' : Post2 ⟨X.K, ca, X.w⟩ W σ H0 H (Rp ⟨X.K, ca, X.w⟩) Q ((atD ds i).at κ) := p
      unfold atD at p'
      split at p'
      · rename_i d e1
        obtain ⟨v, f1, r1⟩ := atI_rp h2 e1
        exact .inl ⟨l, vs, i, v, rfl, rfl, h1, f1, Post2.now S p' r1⟩
      · exact p'.elim
    | _ => exact p.elim
  | none =>
    rw [e] at p
    exact k2_ix (wAt W σ) [] [] H H0 H0 H x y a b Q S.plain rx ry (Post2.pureK S p)
variable {W : WX} {a b o e : Expr} {es : List Expr} {fa fb fo : Sc D} {fl : Sc (List D)} {pos p apos : Pos}
theorem qd_len (hm : X.mg "len" = none) (ha : QDA X ca W [a] fl) (hg : Gl X "len" := by rfl) (he : starEach [a] X.env = (false, eval a X.env) :: starEach [] X.env := by rfl) : QD X ca W (.Call (.Name "len" p) [a] [] pos) (zAc kLen2 fl) := qd_callBc call_len knc_len hm (by decide +kernel) ha hg (by decide) (by decide) he
theorem qd_sub1 (ha : QD X ca W a fa) (hb : QD X ca W b fb) (hs : PlainIx b := by exact fun _ _ => rfl) : QD X ca W (.Subscript a b pos) (z2c kIx2 fa fb) := qd_ixc ix_seq k2c_ix ha hb hs
theorem qd_newL (h : QDA X ca W es fl) : QD X ca W (.List es pos) (zAc kNewL fl) := by
  refine peI (pe_lst h) fun σ H Q h => ?_
  obtain ⟨Hc, H0c, H0, δ, κ, S, p⟩ := h
  refine Post2.bind S p fun xs ds κ1 A1 B1 w1 S1 r1 p1 => ?_
  unfold kNewL at p1
  split at p1
  · rename_i hl
    exact ⟨szl (by rw [r1.length]; exact hl), fun q hq => Post2.push S1 p1 hq (.lst (r1.mono (upMk S1.s0 hq)))⟩
  · exact p1.elim
theorem qdt_notInb (hu : X.A.units + 65 < cLine) (ha : QD X ca W a fa) (hb : QD X ca W b fb) (hm : behindInMarks .NotIn b = false := by rfl) : QDT X ca W (.Compare a [.NotIn] [b] pos) (sOf (z2b kNotIn fa fb)) := qdt_cmpb (op_notInD hu) k2_notIn ha hb hm
def zBmL (k : D → List D → Cells → Rk D) (fo : Sc D) (fl : Sc (List D)) : Sc D := fun δ κ => (fo δ κ).bind fun d κ => match lstOf κ d with
  | some _ => (fl δ κ).bind fun ds κ => k d ds κ
  | none => .bad
theorem qd_bmL {r : V → List V → Hp → VK → Prop} {k : D → List D → Cells → Rk D} {name : Str} {id : String} (slot : Slot "list" name id) (hty : typeOf (.builtin id) = pure (.type "method_descriptor")) (hm : MtR X id r) (hk : KMt ⟨X.K, ca, X.w⟩ r k) (ho : QD X ca W o fo) (ha : QDA X ca W (e :: es) fl)
    (hbase : attributeBase o name X.env (eval o X.env) = eval o X.env := by rfl)
    (hfew : ((backTo pos (starEach (e :: es) X.env)).all (fun x => !x.1) && (backToKw pos (keywordEach [] X.env)).all (fun x => x.1.isSome) && decide ((e :: es).length + ([] : List Keyword).length + (if ([] : List Keyword).isEmpty then 0 else 1) < 30)) = true := by rfl)
    (hline : (apos.endLine == pos.line) = true := by rfl) (hs : starEach (e :: es) X.env = (false, eval e X.env) :: starEach es X.env := by rfl) (hplain : (backTo pos (starEach es X.env)).any (·.1) = false := by rfl) :
    QD X ca W (.Call (.Attribute o name apos) (e :: es) [] pos) (zBmL k fo fl) := by
  refine peI (pe_bm PySem.F.plainAttrs_list slot hty hm ho ha hbase hfew hline hs hplain) fun σ H Q h => ?_
  obtain ⟨Hc, H0c, H0, δ, κ, S, p⟩ := h
  refine Post2.bind S p fun x d κ1 A1 B1 w1 S1 r1 p1 => ?_
  split at p1
  · rename_i ds0 e1
    obtain ⟨l, vs, rfl, h1, h2⟩ := lstOf_ok S1.cs S1.s0 r1 e1
    refine ⟨.inl ⟨rfl, vs, h1⟩, ?_⟩
    exact Post2.bind S1 p1 fun xs ds κ2 A2 B2 w2 S2 r2 p2 => hk W σ δ κ2 Hc H0c A2 B2 _ xs d ds Q S2 (r1.mono w2.up0) r2 p2
  · exact p1.elim
def kChg (f : List D → List D → Option (D × List D)) (d : D) (as : List D) (κ : Cells) : Rk D := match d with
  | .loc n => match κ[n]? with
    | some (.lst ds) => (match f ds as with
      | some (r, ds') => .ok r (κ.set n (.lst ds'))
      | none => .bad)
    | _ => .bad
  | _ => .bad
theorem kmt_chg {r : V → List V → Hp → VK → Prop} {f : List D → List D → Option (D × List D)}
    (h : ∀ (H0 H : Hp) (l : Addr) (vs : List V) (ds : List D) (ws : List V) (as : List D) (y : D) (ds' : List D) (Q : VK), H l = some (.lst vs) → RpA ⟨X.K, ca, X.w⟩ H0 vs ds → RpA ⟨X.K, ca, X.w⟩ H0 ws as → f ds as = some (y, ds') → (∀ v vs', Rp ⟨X.K, ca, X.w⟩ H0 v y → RpA ⟨X.K, ca, X.w⟩ H0 vs' ds' → Q v (upd H l (.lst vs'))) → r (.ref l) ws H Q) : KMt ⟨X.K, ca, X.w⟩ r (kChg f) := by
  intro W σ δ κ Hc H0c H0 H x xs a as Q S rx rs p
  cases rx with
  | @loc l n q =>
    have p' : Post2 ⟨X.K, ca, X.w⟩ W σ H0 H (Rp ⟨X.K, ca, X.w⟩) Q (match κ[n]? with
      | some (.lst ds) => (match f ds as with
        | some (r, ds') => .ok r (κ.set n (.lst ds'))
        | none => .bad)
      | _ => .bad) := p
    cases e : κ[n]? with
    | none => rw [e] at p'; exact p'.elim
    | some c =>
      rw [e] at p'
      cases c with
      | lst ds =>
        dsimp only at p'
        cases e2 : f ds as with
        | none => rw [e2] at p'; exact p'.elim
        | some yy =>
          obtain ⟨y, ds'⟩ := yy
          rw [e2] at p'
          obtain ⟨vs, h1, h2⟩ := cellL S.cs q e
          exact h H0 H l vs ds xs as y ds' Q h1 h2 rs e2 fun v vs' rv rvs => Post2.put S p' q h1 (.lst rvs) rv
      | dct ks vs => exact p'.elim
      | dcf ks vs => exact p'.elim
      | tab P q => exact p'.elim
      | ins C fs => exact p'.elim
  | _ => exact p.elim
def fApp : List D → List D → Option (D × List D)
  | ds, [d] => if ds.length < 16777216 then some (.non, ds ++ [d]) else none
  | _, _ => none
def fRev : List D → List D → Option (D × List D)
  | ds, [] => some (.non, ds.reverse)
  | _, _ => none
def fClr : List D → List D → Option (D × List D)
  | _, [] => some (.non, [])
  | _, _ => none
def fPop : List D → List D → Option (D × List D)
  | ds, [] => match ds[ds.length - 1]? with
    | some d => some (d, ds.dropLast)
    | none => none
  | _, _ => none
theorem RpA.dropLast {g : G} {H : Hp} {vs : List V} {ds : List D} (r : RpA g H vs ds) : RpA g H vs.dropLast ds.dropLast := by
  rw [List.dropLast_eq_take, List.dropLast_eq_take, r.length]
  exact r.take _
theorem kmt_app : KMt ⟨X.K, ca, X.w⟩ rAppend (kChg fApp) := kmt_chg fun H0 H l vs ds ws as y ds' Q h1 h2 h3 e k => by
  cases h3 with
  | nil => cases e
  | @cons w ws d as q r =>
    cases r with
    | cons _ _ => cases e
    | nil =>
      unfold fApp at e
      dsimp only at e
      by_cases z : ds.length < 16777216
      · rw [if_pos z] at e
        cases e
        exact ⟨l, vs, w, rfl, rfl, h1, by rw [sizeLine_eq, h2.length]; exact z, k .non _ .non (h2.append (.one q))⟩
      · rw [if_neg z] at e
        cases e
theorem qd_append (ho : QD X ca W o fo) (ha : QDA X ca W [a] fl) (hbase : attributeBase o "append" X.env (eval o X.env) = eval o X.env := by rfl) (hs : starEach [a] X.env = (false, eval a X.env) :: starEach [] X.env := by rfl) (hline : (apos.endLine == pos.line) = true := by rfl)
    (hfew : ((backTo pos (starEach [a] X.env)).all (fun x => !x.1) && (backToKw pos (keywordEach [] X.env)).all (fun x => x.1.isSome) && decide (([a] : List Expr).length + ([] : List Keyword).length + (if ([] : List Keyword).isEmpty then 0 else 1) < 30)) = true := by rfl) : QD X ca W (.Call (.Attribute o "append" apos) [a] [] pos) (zBmL (kChg fApp) fo fl) := qd_bmL PySem.F.slot_list_append PySem.F.type_list_append mt_append kmt_app ho ha hbase hfew hline hs rfl
end
end Pd

set_option Elab.async false
set_option linter.all false
set_option maxRecDepth 100000
set_option maxHeartbeats 4000000
namespace Pd
open PySem PySem.W L2
variable {vn : Bool}
abbrev HS2 := List (Str × D) → Sn
abbrev Cl2 := Option Nat × List (Str × HS2)
def calm2 (o : Ot) : Ot := match o with
  | .xc _ _ _ _ => .bad
  | o => o
def hdO2 (i : Nat) (o : Ot) : Ot := match o with
  | .nx δ2 κ => .nx (δ2.set i .no) κ
  | .rt r κ => .rt r κ
  | .bk δ2 κ => .bk (δ2.set i .no) κ
  | .ct δ2 κ => .ct (δ2.set i .no) κ
  | _ => .bad
def hdI2 (i : Nat) (mh : HS2) (fs : List (Str × D)) (δ : Sm) (κ : Cells) (b : Bool) : Ot := if b = true then hdO2 i (mh fs (δ.set i .no) κ) else .bad
def pickC2 : List Cl2 → Str → List (Str × D) → Sn
  | [], c, fs, δ, κ => .xc c fs δ κ
  | (oi, hs) :: r, c, fs, δ, κ => match hs.lookup c with
    | some mh => (match oi with
      | some i => hdI2 i mh fs δ κ (ltLen i δ)
      | none => calm2 (mh fs δ κ))
    | none => pickC2 r c fs δ κ
def tryC2 (rs : List Str) (cl : List Cl2) (o : Ot) : Ot := match o with
  | .xc c fs δ' κ' => if c ∈ rs then pickC2 cl c fs δ' κ' else .bad
  | o => o
def nTryC (rs : List Str) (cl : List Cl2) (mb : Sn) : Sn := fun δ κ => tryC2 rs cl (mb δ κ)
def tHS2 (g : G) (i : Nat) (c : Str) (a : Addr) (cls : Value) (d : Option Addr) (m : HS2) : TS := fun E σ H => ∃ Hc H0c H0 δ κ fs, Stc g Hc H0c H0 H σ δ κ ∧ XCtx g H0 H σ i a cls d c fs ∧ PostS2 g W0 Hc H0c E (m fs δ κ)
def hls (m : HS) : HS2 := fun fs δ κ => (m fs δ).at κ
theorem hls_ok {g : G} {i : Nat} {c : Str} {a : Addr} {cls : Value} {d : Option Addr} {m : HS} {E : Ends} {σ : St} {H : Hp} (h : tHS2 g i c a cls d (hls m) E σ H) : tHS g i c a cls d m E σ H := by
  obtain ⟨Hc, H0c, H0, δ, κ, fs, S, x, p⟩ := h
  obtain ⟨Hd, S1, k⟩ := S.down
  refine ⟨Hd, H0, H0, δ, fs, S1, x, ?_⟩
  unfold hls at p
  cases e : m fs δ with
  | nx δ' => rw [e] at p; exact fun σ' A B T => p σ' A B (S.back k T)
  | bk δ' => rw [e] at p; exact fun σ' A B T => p σ' A B (S.back k T)
  | ct δ' => rw [e] at p; exact fun σ' A B T => p σ' A B (S.back k T)
  | rt d =>
    rw [e] at p
    intro v A B w r
    have T : Stt g Hd H0 A B [] [] := ⟨⟨[], .nil, List.nodup_nil, fun a ha => nomatch ha⟩, w.sub, w.up, w.up0, w.fr, w.nm⟩
    have U := S.back k T
    exact p v A B U.gr U.cs r
  | xc c fs δ' => rw [e] at p; exact fun ad fvs σ' A B T q1 q2 => p ad fvs σ' A B (S.back k T) q1 q2
  | bad => rw [e] at p; exact p.elim
theorem phs_hls {X : Cx} {ca : Str → Addr} {i : Nat} {c : Str} {a : Addr} {cls : Value} {d : Option Addr} {sts : List Stmt} {m : HS} (h : PSs X sts (tHS ⟨X.K, ca, X.w⟩ i c a cls d m)) : PSs X sts (tHS2 ⟨X.K, ca, X.w⟩ i c a cls d (hls m)) := pssI h fun _ _ _ h => hls_ok h
inductive DCl2 (vn : Bool) (X : Cx) (ca : Str → Addr) : List ExceptHandler → List Cl2 → Prop
  | nil : DCl2 vn X ca [] []
  | as_ {te : Expr} {hs : List (Str × HS2)} {n : Str} {i : Nat} {b0 : Stmt} {su : List Stmt} {ps : Pos} {hds : List ExceptHandler} {l : List Cl2} (ht : TstOk X te (hs.map fun p => .ref (ca p.1)))
      (hsu : ∀ p ∈ hs, ∀ (a : Addr) (oe : Obj) (cls : Value) (d : Option Addr) (pn : List (Addr × Obj)), Zc cls d oe → (∃ vs, oe.data = .fields vs) → PSs (X.suite a ((a, oe) :: pn)) (b0 :: su) (tHS2 ⟨X.K, ca, X.w⟩ i p.1 a cls d p.2)) (r : DCl2 vn X ca hds l)
      (hi : X.N[i]? = some n := by rfl) (hln : X.env.kindOf n = some .local := by rfl) : DCl2 vn X ca (.ExceptHandler (some te) (some n) (b0 :: su) ps :: hds) ((some i, hs) :: l)
  | no_ {te : Expr} {cs : List Str} {m : Sn} {b0 : Stmt} {su : List Stmt} {ps : Pos} {hds : List ExceptHandler} {l : List Cl2} (ht : TstOk X te (cs.map fun p => .ref (ca p)))
      (hsu : ∀ (a : Addr) (oe : Obj) (pn : List (Addr × Obj)), PSs (X.suite a ((a, oe) :: pn)) (b0 :: su) (tS2 ⟨X.K, ca, X.w⟩ W0 m)) (r : DCl2 vn X ca hds l) : DCl2 vn X ca (.ExceptHandler (some te) none (b0 :: su) ps :: hds) ((none, cs.map fun c => (c, fun _ => m)) :: l)
  | asH_ {te : Expr} {hs : List (Str × HS2)} {n : Str} {i : Nat} {b0 : Stmt} {su : List Stmt} {ps : Pos} {hds : List ExceptHandler} {l : List Cl2} (hv : vn = true) (ht : TstOk X te (hs.map fun p => .ref (ca p.1)))
      (hsu : ∀ p ∈ hs, ∀ (a : Addr) (oe : Obj) (cls : Value) (d : Option Addr) (pn : List (Addr × Obj)), L2H.HotC (X.suite a ((a, oe) :: pn)) → Zc cls d oe → (∃ vs, oe.data = .fields vs) → PSs (X.suite a ((a, oe) :: pn)) (b0 :: su) (tHS2 ⟨X.K, ca, X.w⟩ i p.1 a cls d p.2)) (r : DCl2 vn X ca hds l)
      (hi : X.N[i]? = some n := by rfl) (hln : X.env.kindOf n = some .local := by rfl) : DCl2 vn X ca (.ExceptHandler (some te) (some n) (b0 :: su) ps :: hds) ((some i, hs) :: l)
  | noH_ {te : Expr} {cs : List Str} {m : Sn} {b0 : Stmt} {su : List Stmt} {ps : Pos} {hds : List ExceptHandler} {l : List Cl2} (hv : vn = true) (ht : TstOk X te (cs.map fun p => .ref (ca p)))
      (hsu : ∀ (a : Addr) (oe : Obj) (pn : List (Addr × Obj)), L2H.HotC (X.suite a ((a, oe) :: pn)) → PSs (X.suite a ((a, oe) :: pn)) (b0 :: su) (tS2 ⟨X.K, ca, X.w⟩ W0 m)) (r : DCl2 vn X ca hds l) : DCl2 vn X ca (.ExceptHandler (some te) none (b0 :: su) ps :: hds) ((none, cs.map fun c => (c, fun _ => m)) :: l)
theorem hot_of {X : Cx} {a : Addr} {oe : Obj} {pn : List (Addr × Obj)} {cls : Value} {d : Option Addr} (hv : vn = true) (z : Zv vn cls d oe) (f : ∃ vs, oe.data = .fields vs) : L2H.HotC (X.suite a ((a, oe) :: pn)) := by
  subst hv
  obtain ⟨vs, hd⟩ := f
  exact ⟨(a, oe), ⟨rfl, vs, hd, z.2.2 vs hd⟩, List.mem_cons_self⟩
def sutOf2 (g : G) : Cl2 → List Value × Option Nat × Sut
  | (some i, hs) => (hs.map fun p => .ref (g.ca p.1), some i, fun a cls d E σ H => ∃ p ∈ hs, tHS2 g i p.1 a cls d p.2 E σ H)
  | (none, hs) => (hs.map fun p => .ref (g.ca p.1), none, fun a cls d E σ H => ∃ p ∈ hs, tS2 g W0 (p.2 []) E σ H)
theorem DCl2.ok {X : Cx} {ca : Str → Addr} : ∀ {hds : List ExceptHandler} {l : List Cl2}, DCl2 vn X ca hds l → ClsOk vn X hds (l.map (sutOf2 ⟨X.K, ca, X.w⟩))
  | _, _, .nil => .nil
  | _, _, .as_ ht hsu r hi hln => .as_ ht hi hln (fun a oe cls d pn z f => pss_ex fun p hp => hsu p hp a oe cls d pn z.zc f) r.ok
  | _, _, .no_ (cs := cs) (m := m) ht hsu r => by
    refine ClsOk.no_ (cs := (cs.map fun c => (c, fun (_ : List (Str × D)) => m)).map fun p => .ref (ca p.1)) (by rw [List.map_map]; exact ht) (fun a oe cls d pn z f => pss_ex fun p hp => ?_) r.ok
    obtain ⟨c, _, rfl⟩ := List.mem_map.mp hp
    exact hsu a oe pn
  | _, _, .asH_ hv ht hsu r hi hln => .as_ ht hi hln (fun a oe cls d pn z f => pss_ex fun p hp => hsu p hp a oe cls d pn (hot_of hv z f) z.zc f) r.ok
  | _, _, .noH_ (cs := cs) (m := m) hv ht hsu r => by
    refine ClsOk.no_ (cs := (cs.map fun c => (c, fun (_ : List (Str × D)) => m)).map fun p => .ref (ca p.1)) (by rw [List.map_map]; exact ht) (fun a oe cls d pn z f => pss_ex fun p hp => ?_) r.ok
    obtain ⟨c, _, rfl⟩ := List.mem_map.mp hp
    exact hsu a oe pn (hot_of hv z f)
def Cst2 (l : List Cl2) : Prop := ∀ cl ∈ l, cl.1 = none → ∀ p ∈ cl.2, ∀ fs, p.2 fs = p.2 []
theorem DCl2.cst {X : Cx} {ca : Str → Addr} : ∀ {hds : List ExceptHandler} {l : List Cl2}, DCl2 vn X ca hds l → Cst2 l
  | _, _, .nil => fun _ h => nomatch h
  | _, _, .as_ _ _ r _ _ => fun cl h e => by
    rcases List.mem_cons.mp h with rfl | h
    · cases e
    · exact r.cst cl h e
  | _, _, .no_ (cs := cs) (m := m) _ _ r => fun cl h e p hp fs => by
    rcases List.mem_cons.mp h with rfl | h
    · obtain ⟨c, _, rfl⟩ := List.mem_map.mp hp
      rfl
    · exact r.cst cl h e p hp fs
  | _, _, .asH_ _ _ _ r _ _ => fun cl h e => by
    rcases List.mem_cons.mp h with rfl | h
    · cases e
    · exact r.cst cl h e
  | _, _, .noH_ (cs := cs) (m := m) _ _ _ r => fun cl h e p hp fs => by
    rcases List.mem_cons.mp h with rfl | h
    · obtain ⟨c, _, rfl⟩ := List.mem_map.mp hp
      rfl
    · exact r.cst cl h e p hp fs
theorem calm_post2 {g : G} {W : WX} {Hc H0c : Hp} {E : Ends} {o : Ot} (p : PostS2 g W Hc H0c E (calm2 o)) : PostS2 g W0 Hc H0c E o := by
  cases o with
  | xc c fs δ κ => exact p.elim
  | nx δ κ => exact p
  | rt d κ => exact p
  | bk δ κ => exact p
  | ct δ κ => exact p
  | bad => exact p
theorem cl_wish2 {g : G} {Wout : WX} {E : Ends} {c' : Str} {fs : List (Str × D)} {ad : Addr} {fvs : List (Str × V)} {σ1 : St} {A B Hc H0c : Hp} {δ' : Sm} {κ' : Cells} (S1 : Stc g Hc H0c A B σ1 δ' κ') (had : B ad = some (.xd fvs)) (fr : FR g A fvs fs) :
    ∀ (l : List Cl2), (∀ cl ∈ l, ∀ k ∈ cl.2.map (·.1), exmOne g.K (.ref (g.ca c')) (.ref (g.ca k)) = some (c' == k)) → Cst2 l → PostS2 g Wout Hc H0c E (pickC2 l c' fs δ' κ') → wCls g.K Wout E (l.map (sutOf2 g)) (.ref (g.ca c')) (some ad) σ1 B
  | [], _, _, p => p ad fvs σ1 A B S1 had fr
  | (oi, hs) :: l, hx, hc, p => by
    have ex := exm_strs (cs := hs.map (·.1)) (hx (oi, hs) (List.mem_cons_self ..))
    rw [List.map_map, look_any] at ex
    have ih := cl_wish2 (Wout := Wout) (E := E) S1 had fr l (fun cl h => hx cl (List.mem_cons_of_mem _ h)) (fun cl h => hc cl (List.mem_cons_of_mem _ h))
    unfold pickC2 at p
    cases e : hs.lookup c' with
    | none =>
      rw [e] at ex
      simp only [e] at p
      cases oi with
      | none => exact ⟨false, ex, fun q => Bool.noConfusion q, fun _ => ih p⟩
      | some i => exact ⟨false, ex, fun q => Bool.noConfusion q, fun _ => ih p⟩
    | some mh =>
      rw [e] at ex
      simp only [e] at p
      cases oi with
      | none =>
        refine ⟨true, ex, fun _ a _ => ⟨(c', mh), look_mem e, Hc, H0c, A, δ', κ', S1, ?_⟩, fun q => Bool.noConfusion q⟩
        have z := hc (none, hs) (List.mem_cons_self ..) rfl (c', mh) (look_mem e) fs
        simp only at z
        show PostS2 g W0 Hc H0c E (mh [] δ' κ')
        rw [← z]
        exact calm_post2 p
      | some i =>
        have p' : PostS2 g Wout Hc H0c E (hdI2 i mh fs δ' κ' (ltLen i δ')) := p
        unfold hdI2 at p'
        by_cases hil : i < δ'.length
        case neg =>
          have z : ltLen i δ' = false := decide_eq_false hil
          rw [z] at p'
          exact p'.elim
        have z : ltLen i δ' = true := decide_eq_true hil
        rw [z, if_pos rfl] at p'
        refine ⟨true, ex, fun _ a ha => ⟨(c', mh), look_mem e, Hc, H0c, A, δ'.set i .no, κ', fs, S1.setNo _ i, ⟨rfl, ?_, ad, fvs, rfl, had, fr⟩, ?_⟩, fun q => Bool.noConfusion q⟩
        · obtain ⟨as, q1, _⟩ := S1.own
          have hl : i < σ1.length := by
            rw [q1.len]
            exact hil
          rw [List.getElem?_set_self hl]
        · show PostS2 g W0 Hc H0c (endI E i) (mh fs (δ'.set i .no) κ')
          cases e2 : mh fs (δ'.set i .no) κ' with
          | nx δ2 κ2 =>
            rw [e2] at p'
            exact fun σ2 A2 B2 S2 => p' _ A2 B2 (S2.setNo none i)
          | rt d κ2 => rw [e2] at p'; exact p'
          | bk δ2 κ2 =>
            rw [e2] at p'
            exact fun σ2 A2 B2 S2 => p' _ A2 B2 (S2.setNo none i)
          | ct δ2 κ2 =>
            rw [e2] at p'
            exact fun σ2 A2 B2 S2 => p' _ A2 B2 (S2.setNo none i)
          | xc c2 fs2 δ2 κ2 => rw [e2] at p'; exact p'.elim
          | bad => rw [e2] at p'; exact p'.elim
def keys2 (cl : List Cl2) : List Str := cl.flatMap fun q => q.2.map (·.1)
theorem qds_tryK {X : Cx} {ca : Str → Addr} {W : WX} {rs ks : List Str} {cl : List Cl2} {body : List Stmt} {h0 : ExceptHandler} {hds : List ExceptHandler} {pos : Pos} {mb : Sn} (hs : X.stack = X.env :: X.outer) (hf : X.env.frame = some X.env.locals) (hN : X.N.Nodup) (tk : TakesV vn X W) (hk : keys2 cl = ks)
    (hx : ∀ c' ∈ rs, ∀ k ∈ ks, exmOne X.K (.ref (ca c')) (.ref (ca k)) = some (c' == k))
    (hb : ∀ (W : WX) (pn : List (Addr × Obj)) (xe : Value → Shared → Prop), TakesV vn (X.tr pn xe) W → PassesOwn (model X.prog X.w) X.A X.env xe → PSs (X.tr pn xe) body (tS2 ⟨X.K, ca, X.w⟩ W mb))
    (hc : DCl2 vn X ca (h0 :: hds) cl) : QDS X ca W (.Try body (h0 :: hds) [] [] pos) (nTryC rs cl mb) := by
  refine psI (ps_tryC hs hf hN tk hb hc.ok) fun E σ H h => ?_
  obtain ⟨Hc, H0c, H0, δ, κ, S, p⟩ := h
  refine ⟨Hc, H0c, H0, δ, κ, S, ?_⟩
  unfold nTryC tryC2 at p
  cases e : mb δ κ with
  | nx δ' κ' => rw [e] at p; exact p
  | rt d κ' => rw [e] at p; exact p
  | bk δ' κ' => rw [e] at p; exact p
  | ct δ' κ' => rw [e] at p; exact p
  | bad => rw [e] at p; exact p
  | xc c' fs δ' κ' =>
    simp only [e] at p
    intro ad fvs σ1 A B S1 had fr
    by_cases z : c' ∈ rs
    · rw [if_pos z] at p
      refine cl_wish2 S1 had fr cl (fun q hq k hk2 => hx c' z k ?_) hc.cst p
      rw [← hk]
      exact List.mem_flatMap.mpr ⟨q, hq, hk2⟩
    · rw [if_neg z] at p
      exact p.elim
theorem tryC2_nx (rs : List Str) (cl : List Cl2) (δ : Sm) (κ : Cells) : tryC2 rs cl (.nx δ κ) = .nx δ κ := Eq.trans rfl rfl
theorem tryC2_rt (rs : List Str) (cl : List Cl2) (d : D) (κ : Cells) : tryC2 rs cl (.rt d κ) = .rt d κ := Eq.trans rfl rfl
theorem tryC2_bk (rs : List Str) (cl : List Cl2) (δ : Sm) (κ : Cells) : tryC2 rs cl (.bk δ κ) = .bk δ κ := Eq.trans rfl rfl
theorem tryC2_ct (rs : List Str) (cl : List Cl2) (δ : Sm) (κ : Cells) : tryC2 rs cl (.ct δ κ) = .ct δ κ := Eq.trans rfl rfl
theorem tryC2_xc {rs : List Str} (cl : List Cl2) {c : Str} (fs : List (Str × D)) (δ : Sm) (κ : Cells) (h : c ∈ rs) : tryC2 rs cl (.xc c fs δ κ) = pickC2 cl c fs δ κ := if_pos h
theorem pick2_as {i : Nat} {hs : List (Str × HS2)} {r : List Cl2} {c : Str} {mh : HS2} (fs : List (Str × D)) (δ : Sm) (κ : Cells) (h : hs.lookup c = some mh) : pickC2 ((some i, hs) :: r) c fs δ κ = hdI2 i mh fs δ κ (ltLen i δ) := by
  unfold pickC2
  rw [h]
theorem hdI2_t (i : Nat) (mh : HS2) (fs : List (Str × D)) (δ : Sm) (κ : Cells) : hdI2 i mh fs δ κ true = hdO2 i (mh fs (δ.set i .no) κ) := Eq.trans rfl rfl
theorem hdO2_rt (i : Nat) (d : D) (κ : Cells) : hdO2 i (.rt d κ) = .rt d κ := Eq.trans rfl rfl
theorem hdO2_nx (i : Nat) (δ : Sm) (κ : Cells) : hdO2 i (.nx δ κ) = .nx (δ.set i .no) κ := Eq.trans rfl rfl
def nFrz (i : Nat) (m : Sn) : Sn := fun δ κ => m (frz i δ) κ
theorem Stc.frz {g : G} {Hc H0c H0 H : Hp} {σ : St} {δ : Sm} {κ : Cells} (S : Stc g Hc H0c H0 H σ δ κ) (i : Nat) : ∃ H1, Stc g Hc H0c H1 H σ (frz i δ) κ := by
  obtain ⟨Hd, S1, k⟩ := S.down
  obtain ⟨H1, _, T⟩ := S1.frz i
  exact ⟨H1, S.back k T⟩
theorem qds_mfrz {X : Cx} {ca : Str → Addr} {W : WX} {sts : List Stmt} {m : Sn} (i : Nat) (h : QDSs X ca W sts m) : QDSs X ca W sts (nFrz i m) := by
  refine pssI h fun E σ H h => ?_
  obtain ⟨Hc, H0c, H0, δ, κ, S, p⟩ := h
  obtain ⟨H1, S1⟩ := S.frz i
  exact ⟨Hc, H0c, H1, Pd.frz i δ, κ, S1, p⟩
def nApp (i : Nat) (f : Sc D) : Sn := fun δ κ => match δ[i]? with
  | some (.ol ds) => (f δ κ).out δ fun d κ => if ds.length < 16777216 then .nx (δ.set i (.ol (ds ++ [d]))) κ else .bad
  | _ => .bad
theorem Stc.put {g : G} {Hc H0c H0 H : Hp} {σ : St} {δ : Sm} {κ : Cells} {i : Nat} {ds : List D} (S : Stc g Hc H0c H0 H σ δ κ) (e : δ[i]? = some (.ol ds)) : ∃ a vs, σ[i]? = some (some (.ref a)) ∧ H a = some (.lst vs) ∧ RpA g H0 vs ds ∧
    ∀ vs' ds', RpA g H0 vs' ds' → Stc g Hc H0c H0 (upd H a (.lst vs')) σ (δ.set i (.ol ds')) κ := by
  obtain ⟨Hd, S1, k⟩ := S.down
  obtain ⟨a, vs, h1, h2, h3, h4⟩ := S1.put e
  exact ⟨a, vs, h1, h2, h3, fun vs' ds' r => S.back k (h4 vs' ds' r)⟩
end Pd

set_option Elab.async false
set_option linter.all false
set_option maxRecDepth 100000
set_option maxHeartbeats 4000000
namespace Pd
open PySem L2
def lcC (gt : D → Sm → Res Sm) (t : Sc Bool) (e : Sc D) (δ0 : Sm) : List D → Cells → Rk (List D)
  | [], κ => .ok [] κ
  | d :: ds, κ => match gt d δ0 with
    | .ok δ1 => match t δ1 κ with
      | .ok true κ1 => match e δ1 κ1 with
        | .ok r κ2 => match lcC gt t e δ0 ds κ2 with
          | .ok rs κ3 => .ok (r :: rs) κ3
          | _ => .bad
        | _ => .bad
      | .ok false κ1 => lcC gt t e δ0 ds κ1
      | _ => .bad
    | _ => .bad
def lcRC (it : Sc (List D)) (gt : D → Sm → Res Sm) (t : Sc Bool) (e : Sc D) (vs : List Nat) : Sc (List D) := fun δ κ => (it δ κ).bind fun ds κ => if ds.length ≤ 16777216 then (match lcC gt t e ((wipeD vs δ).map hideO) ds κ with
  | .ok rs κ => .ok rs κ
  | _ => .bad) else .bad
def zLc (it : Sc (List D)) (gt : D → Sm → Res Sm) (t : Sc Bool) (e : Sc D) (vs : List Nat) : Sc D := fun δ κ => (lcRC it gt t e vs δ κ).bind fun rs κ => .ok (.lst rs) κ
def zLcC (it : Sc (List D)) (gt : D → Sm → Res Sm) (t : Sc Bool) (e : Sc D) (vs : List Nat) : Sc D := fun δ κ => (lcRC it gt t e vs δ κ).bind fun rs κ => .ok (.loc κ.length) (κ ++ [.lst rs])
def sYes : Sc Bool := fun _ κ => .ok true κ
theorem Stc.wipe {g : G} {Hc H0c H0 H : Hp} {σ : St} {δ : Sm} {κ : Cells} (S : Stc g Hc H0c H0 H σ δ κ) : ∀ vs : List Nat, Stc g Hc H0c H0 H (wipe σ vs) (wipeD vs δ) κ
  | [] => S
  | v :: vs => (Stc.wipe S vs).setNo none v
structure Stcb (g : G) (Hc H0c H0 H : Hp) (σ : St) (δ : Sm) (κ : Cells) : Prop where
  own : Sls g H0 H σ δ []
  cs : CSt g H0 H κ
  gr : Grw H0c Hc H0 H
section
variable {g : G} {Hc H0c H0 H H0' H' : Hp} {σ : St} {δ : Sm} {κ κ' : Cells}
theorem Stcb.stc (S : Stcb g Hc H0c H0 H σ δ κ) : Stc g Hc H0c H0 H σ δ κ := ⟨⟨[], S.own, List.nodup_nil, fun a ha => nomatch ha⟩, S.cs, S.gr⟩
theorem Stcb.grow (S : Stcb g Hc H0c H0 H σ δ κ) (w : Grw H0 H H0' H') (c : CSt g H0' H' κ') : Stcb g Hc H0c H0' H' σ δ κ' := ⟨S.own.up w.up0 (fun a ha => nomatch ha), c, S.gr.trans w⟩
theorem Stcb.write {p : Addr} {o : HO} (S : Stcb g Hc H0c H0 H σ δ κ) (h1 : Hc p = none) (h2 : H0 p = none) : Stcb g Hc H0c H0 (upd H p o) σ δ κ := by
  refine ⟨S.own.up (Same.refl H0) (fun a ha => nomatch ha), ⟨fun n c e => ?_, S.cs.bd, S.cs.un, S.cs.tb⟩, ⟨fun a u e n => ?_, fun a h => ?_, S.gr.up0, S.gr.sub.upd h2, S.gr.fr, fun a od u e => ?_⟩⟩
  · obtain ⟨a, u, e1, e2, e3⟩ := S.cs.at_ n c e
    exact ⟨a, u, e1, by rw [upd_ne (ne_of_none e1 h2)]; exact e2, e3⟩
  · rw [upd_ne (ne_of_none e h1)]
    exact S.gr.up a u e n
  · have z : a ≠ p := fun y => h (by rw [y]; exact h1)
    rw [upd_ne z]
    exact S.gr.th a h
  · rw [upd_ne (ne_of_none e h1)]
    exact S.gr.lk a od u e
theorem Stc.blockb (S : Stc g Hc H0c H0 H σ δ κ) : Stcb g H H0 H0 H σ (δ.map hideO) κ := by
  obtain ⟨as, h1, _⟩ := S.own
  exact ⟨h1.hide, S.cs, Grw.refl S.s0⟩
end
theorem lc_goC {g : G} {vs : List Nat} {tgr : TG} {gt : D → Sm → Res Sm} {t : Sc Bool} {fe : Sc D} {A B : Hp} {J : It} {ds rs : List D} {Hc H0c : Hp} {σ : St} {δ : Sm} {κ κ' : Cells} {p : Addr} {Qd : Hp → Prop} (hgo : GOk g vs tgr gt) (its : Its g A J ds) (S : Stc g Hc H0c A B σ δ κ)
    (he : lcC gt t fe ((wipeD vs δ).map hideO) ds κ = .ok rs κ') (hl : ds.length ≤ 16777216) (hp : B p = none) (hq : ∀ xs A' H', Grw A B A' H' → CSt g A' H' κ' → H' p = some (.lst xs) → A' p = none → RpA g A' xs rs → Qd H') :
    ∃ W : Nat → Nat → Hp → Prop, (∃ m, W 0 m (upd B p (.lst []))) ∧ ∀ i m H, W i m H →
      (J.stop i H ∧ Qd H) ∨ (J.go i H ∧ ∃ Nx : Hp → Prop, (∀ H', Nx H' → ∃ m', m' < m ∧ W (i + 1) m' H') ∧ ∀ x H', J.yld i H x H' → tgr x (wipe σ vs) H' fun σ2 H2 => wipe σ2 vs = wipe σ vs ∧ Pd.tC g W0 REq t σ2 H2 fun b H3 =>
        if b = true then Pd.tC g W0 (Rp g) fe σ2 H3 fun y H4 => ∃ acc, H4 p = some (.lst acc) ∧ acc.length < sizeLine ∧ Nx (upd H4 p (.lst (acc ++ [y]))) else Nx H3) := by
  have Sw := (S.wipe vs).blockb
  generalize (wipeD vs δ).map hideO = δh at Sw he
  refine ⟨fun i m H => m = ds.length - i ∧ i ≤ ds.length ∧ ∃ A1 xs r0 r1 κ1, Stcb g B A A1 H (wipe σ vs) δh κ1 ∧ A1 p = none ∧ H p = some (.lst xs) ∧ RpA g A1 xs r0 ∧ lcC gt t fe δh (ds.drop i) κ1 = .ok r1 κ' ∧ r0 ++ r1 = rs ∧ r0.length ≤ i, ?_, ?_⟩
  · exact ⟨ds.length, by omega, Nat.zero_le _, A, [], [], rs, κ, Sw.write hp (S.s0.free hp), S.s0.free hp, upd_same, .nil, he, rfl, Nat.le_refl _⟩
  · rintro i m H ⟨rfl, hi, A1, xs, r0, r1, κ1, S1, n1, hx, rx, e1, er, hr⟩
    by_cases hlt : i < ds.length
    · refine .inr ?_
      have e : ds[i]? = some ds[i] := List.getElem?_eq_getElem hlt
      obtain ⟨g1, g2⟩ := its.go i _ A1 H S1.gr.up0 S1.gr.sub e
      refine ⟨g1, fun H' => (ds.length - (i + 1)) = ds.length - (i + 1) ∧ i + 1 ≤ ds.length ∧ ∃ A1 xs r0 r1 κ1, Stcb g B A A1 H' (wipe σ vs) δh κ1 ∧ A1 p = none ∧ H' p = some (.lst xs) ∧ RpA g A1 xs r0 ∧ lcC gt t fe δh (ds.drop (i + 1)) κ1 = .ok r1 κ' ∧ r0 ++ r1 = rs ∧ r0.length ≤ i + 1, fun H' z => ⟨_, by omega, z⟩, fun x H2 y => ?_⟩
      obtain ⟨A2, w2, r2⟩ := g2 x H2 y
      have S2 := S1.grow w2.grw (S1.cs.grow w2)
      have hne : H p ≠ none := by rw [hx]; exact fun z => nomatch z
      have n2 := w2.fr p hne n1
      have hx2 := w2.up p _ hx
      rw [List.drop_eq_getElem_cons hlt] at e1
      unfold lcC at e1
      cases f1 : gt ds[i] δh with
      | ok δ1 =>
        simp only [f1] at e1
        refine hgo.two B A A2 H2 κ1 (wipe σ vs) δh x ds[i] δ1 _ S2.stc r2 f1 fun σ1 z1 S3 => ⟨z1.trans wipe_wipe, ?_⟩
        refine ⟨B, A, A2, δ1, κ1, S3, ?_⟩
        cases f2 : t δ1 κ1 with
        | ok b κ2 =>
          simp only [f2] at e1
          intro b' A3 H3 w3 c3 eb
          have eb2 : b' = b := eb
          subst eb2
          have S4 := S2.grow w3 c3
          have hne2 : H2 p ≠ none := by rw [hx2]; exact fun z => nomatch z
          have n3 := w3.fr p hne2 n2
          have hx3 := w3.up p _ hx2 (fun n z => by rw [n2] at z; cases z)
          cases b' with
          | true =>
            rw [if_pos rfl]
            cases f3 : fe δ1 κ2 with
            | ok r κ3 =>
              simp only [f3] at e1
              refine ⟨B, A, A3, δ1, κ2, S3.grow w3 c3, ?_⟩
              rw [f3]
              intro yv A4 H4 w4 c4 ry
              have S5 := S4.grow w4 c4
              have hne3 : H3 p ≠ none := by rw [hx3]; exact fun z => nomatch z
              have n4 := w4.fr p hne3 n3
              have hx4 := w4.up p _ hx3 (fun n z => by rw [n3] at z; cases z)
              split at e1
              · rename_i rs' κ4 f4
                cases e1
                have rx4 := rx.mono ((w2.up0.trans w3.up0).trans w4.up0)
                refine ⟨xs, hx4, by rw [sizeLine_eq, rx.length]; omega, rfl, hlt, A4, xs ++ [yv], r0 ++ [r], rs', κ3, S5.write hp n4, n4, upd_same, rx4.append (.one ry), f4, ?_, ?_⟩
                · rw [List.append_assoc]
                  exact er
                · rw [List.length_append, List.length_singleton]
                  omega
              · cases e1
            | xc c fs κ3 => simp only [f3] at e1; cases e1
            | bad => simp only [f3] at e1; cases e1
          | false =>
            rw [if_neg (by decide)]
            exact ⟨rfl, hlt, A3, xs, r0, r1, κ2, S4, n3, hx3, rx.mono (w2.up0.trans w3.up0), e1, er, by omega⟩
        | xc c fs κ2 => simp only [f2] at e1; cases e1
        | bad => simp only [f2] at e1; cases e1
      | xc c fs => simp only [f1] at e1; cases e1
      | bad => simp only [f1] at e1; cases e1
    · refine .inl ⟨its.stop i H (.to S1.gr.up0 S1.gr.sub) (by omega), ?_⟩
      rw [List.drop_eq_nil_of_le (by omega)] at e1
      cases e1
      rw [List.append_nil] at er
      subst er
      exact hq xs A1 H S1.gr S1.cs hx n1 rx
section
variable {X : Cx} {ca : Str → Addr} {W : WX} {elt tg iter : Expr} {ifs : List Expr} {scope : Scope} {own : List (Str × Nat)} {it : Sc (List D)} {gt : D → Sm → Res Sm} {t : Sc Bool} {fe : Sc D} {tgr : TG} {pos : Pos}
theorem qdts_one {c : Expr} (h : QDT X ca W c t) : PTs X [c] (Pd.tC ⟨X.K, ca, X.w⟩ W REq t) := pts_one h
theorem lc_readC {g : G} {vs : List Nat} {σ : St} {Hc H0c H0 H : Hp} {δ : Sm} {κ : Cells} {Q : VK} (hgo : GOk g vs tgr gt) (S : Stc g Hc H0c H0 H σ δ κ)
    (hx : ∀ c fs κ1, it δ κ = .xc c fs κ1 → ∀ ad fvs A B, Grw H0 H A B → CSt g A B κ1 → B ad = some (.xd fvs) → FR g A fvs fs → W (.ref (g.ca c)) (some ad) σ B)
    (hb : ∀ ds κ1, it δ κ = .ok ds κ1 → ∃ rs κ2, ds.length ≤ 16777216 ∧ lcC gt t fe ((wipeD vs δ).map hideO) ds κ1 = .ok rs κ2 ∧ ∀ p xs A B H', Grw H0 H A B → B p = none → ∀ A', Grw A B A' H' → CSt g A' H' κ2 → H' p = some (.lst xs) → A' p = none → RpA g A' xs rs → Q (.ref p) H')
    (hn : it δ κ ≠ .bad) : tLc (Pd.tC g W (Its g) it) tgr (Pd.tC g W0 REq t) (Pd.tC g W0 (Rp g) fe) vs σ H Q := by
  refine ⟨Hc, H0c, H0, δ, κ, S, ?_⟩
  cases e : it δ κ with
  | ok ds κ1 =>
    intro J A B w c its p hp
    obtain ⟨rs, κ2, f2, f3, k⟩ := hb ds κ1 e
    exact lc_goC hgo its (S.grow w c) f3 f2 hp fun xs A' H' w2 c2 h1 h2 h3 => k p xs A B H' w hp A' w2 c2 h1 h2 h3
  | xc c fs κ1 => exact hx c fs κ1 e
  | bad => exact absurd e hn
theorem Grw.frzL {H0 H A B A' H' : Hp} {p : Addr} {xs : List V} (w : Grw A B A' H') (h1 : B p = none) (h2 : H' p = some (.lst xs)) (h3 : A' p = none) : Grw A B (upd A' p (.lst xs)) H' where
  up := w.up
  th := w.th
  lk := w.lk
  up0 := fun b u z => by
    have z2 := w.up0 b u z
    rw [upd_ne (ne_of_none z2 h3)]
    exact z2
  sub := fun b u z => by
    by_cases e : b = p
    · subst e
      rw [upd_same] at z
      rw [h2]
      exact .inl z
    · rw [upd_ne e] at z
      exact w.sub b u z
  fr := fun a ha h0 => by
    rw [upd_ne fun z => ha (by rw [z]; exact h1)]
    exact w.fr a ha h0
theorem CSt.frzL {g : G} {A H : Hp} {κ : Cells} {p : Addr} {xs : List V} (c : CSt g A H κ) (h : A p = none) : CSt g (upd A p (.lst xs)) H κ := by
  have up : Same A (upd A p (.lst xs)) := fun b u e => by rw [upd_ne (ne_of_none e h)]; exact e
  have dn : ∀ b n, upd A p (.lst xs) b = some (cmk n) → A b = some (cmk n) := fun b n e => by
    by_cases z : b = p
    · subst z
      rw [upd_same] at e
      cases Option.some.inj e
    · rw [upd_ne z] at e
      exact e
  refine ⟨fun n x e => ?_, fun a n e => c.bd a n (dn a n e), fun a b n e1 e2 => c.un a b n (dn a n e1) (dn b n e2), fun n P q e => up _ _ (c.tb n P q e)⟩
  obtain ⟨a, o, h1, h2, h3⟩ := c.at_ n x e
  exact ⟨a, o, up _ _ h1, h2, h3.up up⟩
theorem Grw.mkL {A B A' H' : Hp} {p : Addr} {n : Nat} {o : HO} (w : Grw A B A' H') (h1 : B p = none) (h2 : H' p = some o) (h3 : A' p = none) : Grw A B (upd A' p (cmk n)) H' where
  up := w.up
  th := w.th
  lk := w.lk
  up0 := fun b u z => by
    have z2 := w.up0 b u z
    rw [upd_ne (ne_of_none z2 h3)]
    exact z2
  sub := fun b u z => by
    by_cases e : b = p
    · subst e
      rw [upd_same] at z
      exact .inr ⟨⟨n, (Option.some.inj z).symm⟩, by rw [h2]; exact fun y => nomatch y⟩
    · rw [upd_ne e] at z
      exact w.sub b u z
  fr := fun a ha h0 => by
    rw [upd_ne fun z => ha (by rw [z]; exact h1)]
    exact w.fr a ha h0
theorem CSt.mkL {g : G} {A H : Hp} {κ : Cells} {p : Addr} {o : HO} {x : Cell} (c : CSt g A H κ) (h : A p = none) (h2 : H p = some o) (r : CeR g (upd A p (cmk κ.length)) o x) (nt : ∀ ps, o ≠ .tbl ps := by intro _ z; cases z) : CSt g (upd A p (cmk κ.length)) H (κ ++ [x]) := by
  have up : Same A (upd A p (cmk κ.length)) := fun b u e => by rw [upd_ne (ne_of_none e h)]; exact e
  have old : ∀ b n, upd A p (cmk κ.length) b = some (cmk n) → b = p ∧ n = κ.length ∨ b ≠ p ∧ A b = some (cmk n) := fun b n e => by
    by_cases z : b = p
    · subst z
      rw [upd_same] at e
      exact .inl ⟨rfl, (cmk_inj (Option.some.inj e)).symm⟩
    · rw [upd_ne z] at e
      exact .inr ⟨z, e⟩
  refine ⟨fun i y e => ?_, fun b n e => ?_, fun b d n e1 e2 => ?_, fun i P q e => ?_⟩
  · by_cases z : i < κ.length
    · rw [List.getElem?_append_left z] at e
      obtain ⟨b, u, q1, q2, q3⟩ := c.at_ i y e
      exact ⟨b, u, up _ _ q1, q2, q3.up up⟩
    · have z2 : i = κ.length := by
        have := (List.getElem?_eq_some_iff.mp e).1
        rw [List.length_append, List.length_singleton] at this
        omega
      subst z2
      rw [List.getElem?_append_right (Nat.le_refl _), Nat.sub_self] at e
      cases e
      exact ⟨p, o, upd_same, h2, r⟩
  · rw [List.length_append, List.length_singleton]
    rcases old b n e with ⟨_, z⟩ | ⟨_, z⟩
    · omega
    · have := c.bd b n z
      omega
  · rcases old b n e1 with ⟨z1, z2⟩ | ⟨z1, z2⟩
    · rcases old d n e2 with ⟨y1, y2⟩ | ⟨y1, y2⟩
      · rw [z1, y1]
      · have := c.bd d n y2
        omega
    · rcases old d n e2 with ⟨y1, y2⟩ | ⟨y1, y2⟩
      · have := c.bd b n z2
        omega
      · exact c.un b d n z2 y2
  · by_cases z : i < κ.length
    · rw [List.getElem?_append_left z] at e
      exact up _ _ (c.tb i P q e)
    · have z2 : i = κ.length := by
        have := (List.getElem?_eq_some_iff.mp e).1
        rw [List.length_append, List.length_singleton] at this
        omega
      subst z2
      rw [List.getElem?_append_right (Nat.le_refl _), Nat.sub_self] at e
      cases e
      exact (r.nt nt).elim
theorem lcRC_at {vs : List Nat} {δ : Sm} {κ κ1 : Cells} {ds : List D} (h : it δ κ = .ok ds κ1) : (∃ rs κ2, ds.length ≤ 16777216 ∧ lcC gt t fe ((wipeD vs δ).map hideO) ds κ1 = .ok rs κ2 ∧ lcRC it gt t fe vs δ κ = .ok rs κ2) ∨ lcRC it gt t fe vs δ κ = .bad := by
  have e : lcRC it gt t fe vs δ κ = if ds.length ≤ 16777216 then (match lcC gt t fe ((wipeD vs δ).map hideO) ds κ1 with | .ok rs κ => .ok rs κ | _ => .bad) else .bad := by
    unfold lcRC
    rw [h]
    rfl
  rw [e]
  by_cases z : ds.length ≤ 16777216
  · rw [if_pos z]
    cases f : lcC gt t fe ((wipeD vs δ).map hideO) ds κ1 with
    | ok rs κ2 => exact .inl ⟨rs, κ2, z, rfl, rfl⟩
    | xc c fs κ2 => exact .inr rfl
    | bad => exact .inr rfl
  · rw [if_neg z]
    exact .inr rfl
theorem lcRC_xc {vs : List Nat} {δ : Sm} {κ κ1 : Cells} {c : Str} {fs : List (Str × D)} (h : it δ κ = .xc c fs κ1) : lcRC it gt t fe vs δ κ = .xc c fs κ1 := by
  unfold lcRC
  rw [h]
  rfl
theorem lcRC_bad {vs : List Nat} {δ : Sm} {κ : Cells} (h : it δ κ = .bad) : lcRC it gt t fe vs δ κ = .bad := by
  unfold lcRC
  rw [h]
  rfl
theorem lc_postC {g : G} {vs : List Nat} {σ : St} {H : Hp} {Q : VK} (hgo : GOk g vs tgr gt) (h : Pd.tC g W (Rp g) (zLc it gt t fe vs) σ H Q) : tLc (Pd.tC g W (Its g) it) tgr (Pd.tC g W0 REq t) (Pd.tC g W0 (Rp g) fe) vs σ H Q := by
  obtain ⟨Hc, H0c, H0, δ, κ, S, p⟩ := h
  unfold zLc at p
  refine lc_readC hgo S (fun c fs κ1 e => ?_) (fun ds κ1 e => ?_) (fun e => ?_)
  · rw [lcRC_xc e] at p
    exact p
  · rcases lcRC_at (gt := gt) (t := t) (fe := fe) (vs := vs) e with ⟨rs, κ2, z1, z2, z⟩ | z
    · rw [z] at p
      refine ⟨rs, κ2, z1, z2, fun q xs A B H' w hp A' w2 c2 h1 h2 h3 => ?_⟩
      exact p (.ref q) _ H' (w.trans (Grw.frzL (H0 := H0) (H := H) w2 hp h1 h2)) (c2.frzL h2) (.lst (.inl upd_same) (h3.mono fun b u y => by rw [upd_ne (ne_of_none y h2)]; exact y))
    · rw [z] at p
      exact p.elim
  · rw [lcRC_bad e] at p
    exact p.elim
variable {i : Nat} {y : Str} {py spos : Pos}
theorem qd_lc (hc : X.calm = true) (hN : X.N.Nodup) (hi : QDI X ca W tg iter it) (ok : BlkOk X.N X.env.scope scope own) (hgo : GOk ⟨X.K, ca, X.w⟩ (own.map (·.2)) tgr gt)
    (hg : ∀ (s : Shared) (H : Hp) (C : Addr) (cl : List (Str × Addr)) (fp : List Addr), PG (X.blk s H scope (compEnvC scope cl C X.env) fp) tg tgr)
    (ht : ∀ (s : Shared) (H : Hp) (C : Addr) (cl : List (Str × Addr)) (fp : List Addr), PTs (X.blk s H scope (compEnvC scope cl C X.env) fp) ifs (Pd.tC ⟨X.K, ca, X.w⟩ W0 REq t))
    (he : ∀ (s : Shared) (H : Hp) (C : Addr) (cl : List (Str × Addr)) (fp : List Addr), QD (X.blk s H scope (compEnvC scope cl C X.env) fp) ca W0 elt fe) (hs : ∀ x, foldedSetIterable iter X.env x = pure x := by intro _; rfl) :
    QD X ca W (.ListComp elt [⟨tg, iter, ifs, 0⟩] scope pos) (zLc it gt t fe (own.map (·.2))) :=
  peI (pe_lc (te := Pd.tC ⟨X.K, ca, X.w⟩ W0 (Rp ⟨X.K, ca, X.w⟩) fe) hc hN hi ok hg ht he hs) fun σ H Q h => lc_postC hgo h
theorem qds_setLc (i : Nat) (hc : X.calm = true) (hN : X.N.Nodup) (hi : QDI X ca W tg iter it) (ok : BlkOk X.N X.env.scope scope own) (hgo : GOk ⟨X.K, ca, X.w⟩ (own.map (·.2)) tgr gt)
    (hg : ∀ (s : Shared) (H : Hp) (C : Addr) (cl : List (Str × Addr)) (fp : List Addr), PG (X.blk s H scope (compEnvC scope cl C X.env) fp) tg tgr)
    (ht : ∀ (s : Shared) (H : Hp) (C : Addr) (cl : List (Str × Addr)) (fp : List Addr), PTs (X.blk s H scope (compEnvC scope cl C X.env) fp) ifs (Pd.tC ⟨X.K, ca, X.w⟩ W0 REq t))
    (he : ∀ (s : Shared) (H : Hp) (C : Addr) (cl : List (Str × Addr)) (fp : List Addr), QD (X.blk s H scope (compEnvC scope cl C X.env) fp) ca W0 elt fe)
    (hsw : swapsWith (.ListComp elt [⟨tg, iter, ifs, 0⟩] scope pos) (some (.Name y py)) spos.line X.env = pure true)
    (hy : X.N[i]? = some y := by rfl) (hyl : X.env.scope.names.lookup y = some .local := by rfl) (hs : ∀ x, foldedSetIterable iter X.env x = pure x := by intro _; rfl) :
    QDS X ca W (.Assign [.Name y py] (.ListComp elt [⟨tg, iter, ifs, 0⟩] scope pos) spos) (nSet i (zLc it gt t fe (own.map (·.2)))) := by
  refine psI (ps_setLc (te := Pd.tC ⟨X.K, ca, X.w⟩ W0 (Rp ⟨X.K, ca, X.w⟩) fe) hc hN hy hyl hsw hi ok hg ht he hs) fun E σ H h => ?_
  obtain ⟨Hc, H0c, H0, δ, κ, S, p⟩ := h
  have q : Pd.tC ⟨X.K, ca, X.w⟩ W (Rp ⟨X.K, ca, X.w⟩) (zLc it gt t fe (own.map (·.2))) σ H (fun x B => E.nx (σ.set i (some x)) B) := Post2.out S p fun x b κ' A B w S1 r p1 => p1 _ A B (S1.setSh r i)
  exact lc_postC hgo q
end
end Pd

set_option Elab.async false
set_option linter.all false
set_option maxRecDepth 100000
set_option maxHeartbeats 4000000
namespace Pd
open PySem L2
variable {vn : Bool}
def SpOk (vn : Bool) (P : Program) (w : World) (K : PySem.W.Frag) (mg : Str → Option Value) (base : Heap) (ca : Str → Addr) (m : Str) (k : Nat) (Ms : List (Str × Fc)) (n : Nat) : Prop := ∀ C fm, (C, fm) ∈ Ms → MthE vn P w K mg base ca C m n [] (fun ds _ => ds) k fm
def spAns (good : D → Bool) (r : Rk D) : Rk D := match r with
  | .ok d κ => if good d = true then .ok d κ else .bad
  | _ => .bad
def rSp1 (g : G) (Ms : List (Str × Fc)) (good : D → Bool) : List V → Hp → VK → Prop := fun xs H Q => ∃ H0 κ x d C fs fm, xs = [x] ∧ Sub H0 H ∧ CSt g H0 H κ ∧ Rp g H0 x d ∧ insOf κ d = some (C, fs) ∧ (C, fm) ∈ Ms ∧ Post2 g W0 [] H0 H (Rp g) Q (spAns good (fm [d] κ))
def kSp1 (Ms : List (Str × Fc)) (good : D → Bool) : List D → Cells → Rk D
  | [d], κ => match insOf κ d with
    | some (C, _) => (match Ms.lookup C with
      | some fm => spAns good (fm [d] κ)
      | none => .bad)
    | none => .bad
  | _, _ => .bad
def isN63 : D → Bool
  | .int n => decide (0 ≤ n ∧ n < 2 ^ 63)
  | _ => false
def isSt : D → Bool
  | .str _ => true
  | _ => false
def isBl : D → Bool
  | .bl _ => true
  | _ => false
section
variable {X : Cx} {ca : Str → Addr} {k : Nat} {Ms : List (Str × Fc)}
def tyOf (κ : Cells) (d : D) : Option Value := match d with
  | .non => some (.type "NoneType")
  | .bl _ => some (.type "bool")
  | .int _ => some (.type "int")
  | .str _ => some (.type "str")
  | .lst _ => some (.type "list")
  | .tup _ => some (.type "tuple")
  | .loc n => (match κ[n]? with
    | some (.lst _) => some (.type "list")
    | some (.dct _ _) => some (.type "dict")
    | _ => none)
  | _ => none
structure ClsT (K : PySem.W.Frag) (ca : Str → Addr) (C : Str) : Prop where
  cl : Cls K (ca C)
  ha : PySem.W.findIn K (.ref (ca C)) "__class__" = some (some (.builtin "object.__class__"))
  hn : PySem.W.specialIn K (.builtin "object.__class__") "__get__" = some (some (.builtin "getset_descriptor.__get__"))
  ht : PySem.W.takesIn K (.builtin "object.__class__") = some true
  hm : PySem.W.mroIn K (ca C) (.type "object") = some true
  me : PySem.W.kitOne K (.ref (ca C)) (.ref (ca C)) = some true
  no : ∀ T ∈ (["NoneType", "bool", "int", "str", "list", "tuple", "dict"] : List String), PySem.W.kitOne K (.type T) (.ref (ca C)) = some false
def othOk (C : Str) (κ : Cells) (d : D) : Bool := match insOf κ d with
  | some (C', _) => decide (C' = C)
  | none => (tyOf κ d).isSome
def rEqO (g : G) (Ms : List (Str × Fc)) : R2 := fun x y H Q => ∃ H0 κ d d' C fs fm, Sub H0 H ∧ CSt g H0 H κ ∧ Rp g H0 x d ∧ Rp g H0 y d' ∧ insOf κ d = some (C, fs) ∧ (C, fm) ∈ Ms ∧ othOk C κ d' = true ∧ Post2 g W0 [] H0 H (Rp g) Q (spAns isBl (fm [d, d'] κ))
def kEqO (Ms : List (Str × Fc)) (a b : D) (κ : Cells) : Rk D := match insOf κ a with
  | some (C, _) => (match Ms.lookup C with
    | some fm => if othOk C κ b = true then spAns isBl (fm [a, b] κ) else .bad
    | none => .bad)
  | none => .bad
def kIsO (C : Str) (d : D) (κ : Cells) : Rk D := match insOf κ d with
  | some (C', _) => if C' = C then .ok (.bl true) κ else .bad
  | none => (match tyOf κ d with
    | some _ => .ok (.bl false) κ
    | none => .bad)
def zIsO (C : Str) (fa : Sc D) : Sc D := fun δ κ => (fa δ κ).bind fun d κ => kIsO C d κ
variable {W : WX} {a b : Expr} {fa fb : Sc D} {fl : Sc (List D)} {pos p p2 : Pos} {C : Str}
end
end Pd

set_option Elab.async false
set_option linter.all false
set_option maxRecDepth 100000
set_option maxHeartbeats 4000000
namespace Pd
open PySem L2
variable {vn : Bool}
section
variable (vn : Bool) (P : Program) (w : World) (K : PySem.W.Frag) (mg : Str → Option Value) (base : Heap) (ca : Str → Addr)
structure FnC (x : Str) (st : Stmt) (dvs : List V) (ps : List Str) (k : Nat) (fm : Fc) (f : Addr) (fd : FuncData) : Prop where
  d : FunD K x x (defArgs st) (defBody st) (defScope st) dvs [] f fd
  g : FnOk P w K mg base (CXv vn P w) k f fd ps (spC ⟨K, ca, w⟩ ps.length fm)
  m : mg x = some (.ref f)
structure MtE (C m q : Str) (st : Stmt) (dvs : List V) (ps : List Str) (k : Nat) (fm : Fc) (f : Addr) (fd : FuncData) : Prop where
  d : FunD K m q (defArgs st) (defBody st) (defScope st) dvs [] f fd
  g : FnOk P w K mg base (CXv vn P w) k f fd ps (spC ⟨K, ca, w⟩ ps.length fm)
  cl : Cls K (ca C)
  me : Meth K (ca C) m f
structure MiE (C q : Str) (st : Stmt) (dvs : List V) (ps : List Str) (k : Nat) (fm : Fc) (f : Addr) (fd : FuncData) : Prop where
  d : FunD K "__init__" q (defArgs st) (defBody st) (defScope st) dvs [] f fd
  g : FnOk P w K mg base (CXv vn P w) k f fd ps (spC ⟨K, ca, w⟩ ps.length fm)
  mkc : Mk K (ca C) f
  m : mg C = some (.ref (ca C))
end
section
variable {P : Program} {w : World} {K : PySem.W.Frag} {mg : Str → Option Value} {base : Heap} {ca : Str → Addr} {C m q : Str} {st : Stmt} {dvs : List V} {ps ks : List Str} {k n : Nat} {fm : Fc} {f : Addr} {fd : FuncData} {gD : List D → List D → List D}
theorem MtE.z (h : MtE vn P w K mg base ca C m q st dvs ps k fm f fd) : MtE false P w K mg base ca C m q st dvs ps k fm f fd := ⟨h.d, fnok_z h.g, h.cl, h.me⟩
theorem MiE.z (h : MiE vn P w K mg base ca C q st dvs ps k fm f fd) : MiE false P w K mg base ca C q st dvs ps k fm f fd := ⟨h.d, fnok_z h.g, h.mkc, h.m⟩
theorem FnC.z {x : Str} (h : FnC vn P w K mg base ca x st dvs ps k fm f fd) : FnC false P w K mg base ca x st dvs ps k fm f fd := ⟨h.d, fnok_z h.g, h.m⟩
theorem FnE.z {x : Str} {fe : List D → Res D} (h : FnE vn P w K mg base ca x st dvs ps k fe f fd) : FnE false P w K mg base ca x st dvs ps k fe f fd := ⟨h.d, fnok_z h.g, h.m⟩
theorem MtE.at (h : MtE vn P w K mg base ca C m q st dvs ps k fm f fd) (hb : Bd ⟨K, ca, w⟩ fd ps n ks gD) (lg : ∀ ds es, ds.length = n → es.length = ks.length → (gD ds es).length = ps.length) : MthE vn P w K mg base ca C m n ks gD k fm := ⟨f, fd, ps, h.cl, h.me, h.g, hb, lg⟩
theorem MtE.up {j : Nat} (h : MtE vn P w K mg base ca C m q st dvs ps k fm f fd) (hj : k ≤ j) : MtE vn P w K mg base ca C m q st dvs ps j fm f fd := ⟨h.d, h.g.mono hj, h.cl, h.me⟩
theorem MiE.at (h : MiE vn P w K mg base ca C q st dvs ps k fm f fd) (hb : Bd ⟨K, ca, w⟩ fd ps n ks gD) (lg : ∀ ds es, ds.length = n → es.length = ks.length → (gD ds es).length = ps.length) : MkE vn P w K mg base ca C n ks gD k fm := ⟨⟨f, fd, ps, h.mkc, h.g, hb, lg⟩, h.m⟩
end
section
variable {K : PySem.W.Frag} {ca : Str → Addr} {w : World} {x qual : Str} {params : Arguments} {body : List Stmt} {scope : Scope} {f : Addr} {fd : FuncData} {ps : List Str}
end
open PySem.W in
def clsAll (K : Frag) (c : Str) : Bool := plainGet K (He.ga K c) Str.empty && (hasDictIn K (He.ga K c) && (plainOver K (He.ga K c) && He.eqO (findIn K (.ref (He.ga K c)) "__setattr__") (some (some (.builtin "object.__setattr__")))))
open PySem.W in
def methB (K : Frag) (c m : Str) : Bool := He.eqO (findIn K (.ref (He.ga K c)) m) (some (some (.ref (He.ma K (He.ga K c) m)))) && (isFn K (.ref (He.ma K (He.ga K c) m)) && keepIn K (.ref (He.ma K (He.ga K c) m)))
open PySem.W in
def makeB (K : Frag) (c : Str) : Bool := makesIn K (He.ga K c) && (keepIn K (.ref (He.ga K c)) && methB K c "__init__")
open PySem.W in
def noatB (K : Frag) (c f : Str) : Bool := He.eqO (findIn K (.ref (He.ga K c)) f) (some none)
open PySem.W in
def clstB (K : Frag) (c : Str) : Bool :=
  He.eqO (findIn K (.ref (He.ga K c)) "__class__") (some (some (.builtin "object.__class__"))) && (He.eqO (specialIn K (.builtin "object.__class__") "__get__") (some (some (.builtin "getset_descriptor.__get__"))) && (decide (takesIn K (.builtin "object.__class__") = some true) && (decide (mroIn K (He.ga K c) (.type "object") = some true) &&
  (decide (kitOne K (.ref (He.ga K c)) (.ref (He.ga K c)) = some true) && (["NoneType", "bool", "int", "str", "list", "tuple", "dict"] : List String).all fun T => decide (kitOne K (.type T) (.ref (He.ga K c)) = some false)))))
end Pd
namespace Pd
open PySem PySem.Spec PyProof.Rows L2
variable {vn : Bool}
end Pd

set_option Elab.async false
set_option linter.all false
set_option maxRecDepth 100000
set_option maxHeartbeats 4000000
namespace Pd
open PySem L2 PyProof.Rows

namespace I10
open PySem.NumText PySem.Calls
theorem reads {x : PySem.Str} {n : Int} (hl : x.length ≤ 640) (e : PySem.intText? x = some n) :
    (numSeenOf x).length ≤ 640 ∧ (int_private% "readNumeral") 0 10 (numSeenOf x) = (int_private% "Numeral.value") n ∧ ((numSeenOf x).length == (numTextOf x).length) = true := by
  have small : (numSeenOf x).length ≤ 640 := Nat.le_trans (seen_length x) hl
  refine ⟨small, ?_⟩
  rcases read0 x small with ⟨m, a1, a2, a3⟩ | ⟨a1, _⟩ <;> rw [e] at a1
  · obtain rfl := Option.some.inj a1
    exact ⟨a3, a2⟩
  · exact nomatch a1
end I10
section
variable {X : Cx} {ca : Str → Addr} {W : WX} {a b : Expr} {fa fb : Sm → Res D} {es : List Expr} {fl : Sm → Res (List D)} {pos p apos : Pos} {tg : Expr}
def on1 (k : D → Res D) : List D → Res D
  | [d] => k d
  | _ => .bad
def textOf (i : Int) : Str := toString i
def kStr1 : D → Res D
  | .int i => if i.natAbs.log2 < 1920 then .ok (.str (textOf i)) else .bad
  | _ => .bad
def kInt1 : D → Res D
  | .int i => .ok (.int i)
  | .bl k => .ok (.int (if k then 1 else 0))
  | .str t => if t.length ≤ 640 then match PySem.intText? t with | some n => .ok (.int n) | none => .bad else .bad
  | _ => .bad
def kInt10 : List D → Res D
  | [.str t, .int 10] => if t.length ≤ 640 then match PySem.intText? t with | some n => .ok (.int n) | none => .bad else .bad
  | _ => .bad
def kFmt : D → Res D
  | .str y => if y.length ≤ 16777216 then .ok (.str y) else .bad
  | .int i => if i.natAbs.log2 < 1920 then .ok (.str (textOf i)) else .bad
  | _ => .bad
def eJ : List (Sm → Res D) → Str → Sm → Res D
  | [], acc, _ => .ok (.str acc)
  | f :: fs, acc, δ => (f δ).bind fun d => match d with
    | .str y => if (acc ++ y).length ≤ 16777216 then eJ fs (acc ++ y) δ else .bad
    | _ => .bad
inductive PDJ (X : Cx) (ca : Str → Addr) (W : WX) : List Expr → List (Sm → Res D) → Prop where
  | nil : PDJ X ca W [] []
  | cons {e : Expr} {f : Sm → Res D} {es : List Expr} {fs : List (Sm → Res D)} (h : PD X ca W e f) (r : PDJ X ca W es fs) : PDJ X ca W (e :: es) (f :: fs)
theorem PDJ.pj {fs : List (Sm → Res D)} (h : PDJ X ca W es fs) : PJ X es (fs.map (tD ⟨X.K, ca, X.w⟩ W)) := by
  induction h with
  | nil => exact .nil
  | cons h _ ih => exact .cons h ih
def strsOf : List D → Option (List Str)
  | [] => some []
  | .str x :: ds => match strsOf ds with
    | some ys => some (x :: ys)
    | none => none
  | _ => none
def joinOk (s : Str) (ys : List Str) : Bool := decide ((ys.map (·.length)).sum + ys.length * s.length ≤ 16777216)
def kJoin (s : Str) : D → Res D
  | .lst ds => match strsOf ds with
    | some ys => if joinOk s ys = true then .ok (.str (Txt.join s ys)) else .bad
    | none => .bad
  | _ => .bad
def kSplit (s : Str) : D → Res D
  | .str b => if (b.length == 0) = false ∧ s.length + 2 ≤ 16777216 then .ok (.lst ((Txt.split s b).map D.str)) else .bad
  | _ => .bad
def kPart (s : Str) : D → Res D
  | .str b => if (b.length == 0) = false ∧ s.length ≤ 16777216 then .ok (.tup [.str (Txt.partition s b).1, .str (Txt.partition s b).2.1, .str (Txt.partition s b).2.2]) else .bad
  | _ => .bad
def eM1 (k : Str → D → Res D) (fa fb : Sm → Res D) : Sm → Res D := fun δ => (fa δ).bind fun x => match x with
  | .str z => (fb δ).bind (k z)
  | _ => .bad
def KM1 (g : G) (r : V → List V → Hp → VK → Prop) (k : Str → D → Res D) : Prop := ∀ z, K1 g (fun y H Q => r (.str z) [y] H Q) (k z)
def kInS : D → D → Res D
  | .str ⟨⟨[c]⟩⟩, .str z => .ok (.bl (decide (c ∈ z.cps.toList)))
  | _, _ => .bad
def kNotInS : D → D → Res D
  | .str ⟨⟨[c]⟩⟩, .str z => .ok (.bl (!decide (c ∈ z.cps.toList)))
  | _, _ => .bad
def asS : D → Res (List D)
  | .str x => .ok (x.cps.toList.map fun c => .str ⟨#[c]⟩)
  | _ => .bad
end
end Pd

set_option Elab.async false
set_option linter.all false
set_option maxRecDepth 100000
set_option maxHeartbeats 4000000
namespace Pd
open PySem L2
def mBad : Sm → Out := fun _ => .bad
def hBad : HS := fun _ _ => .bad
def eBad : Sm → Res D := fun _ => .bad
def tBor (is : List Nat) (f : Sm → Res Bool) : Sm → Res Bool := fun δ => match f (frzs is δ) with
  | .ok b => .ok b
  | _ => .bad
def mRev (i : Nat) : Sm → Out := fun δ => match δ[i]? with
  | some (.ol ds) => .nx (δ.set i (.ol ds.reverse))
  | _ => .bad
section
variable {X : Cx} {ca : Str → Addr} {W : WX} {a b : Expr} {es : List Expr} {fa : Sm → Res D} {ta : Sm → Res Bool} {st : Stmt} {sts : List Stmt} {m : Sm → Out} {pos : Pos}
end
end Pd

set_option Elab.async false
set_option linter.all false
set_option maxRecDepth 100000
set_option maxHeartbeats 4000000
namespace Pd
open PySem L2 TL
def cJ (fs : List (Sm → Res D)) (acc : Str) (δ : Sm) (d : D) : Res D := match d with
  | .str y => if (acc ++ y).length ≤ 16777216 then eJ fs (acc ++ y) δ else .bad
  | _ => .bad
theorem eJ_nil (acc : Str) (δ : Sm) : eJ [] acc δ = .ok (.str acc) := Eq.trans rfl rfl
theorem eJ_cons (f : Sm → Res D) (fs : List (Sm → Res D)) (acc : Str) (δ : Sm) : eJ (f :: fs) acc δ = (f δ).bind (cJ fs acc δ) := Eq.trans rfl rfl
def cM (k : Str → D → Res D) (b : Sm → Res D) (δ : Sm) (x : D) : Res D := match x with
  | .str z => (b δ).bind (k z)
  | _ => .bad
theorem eM1_eq (k : Str → D → Res D) (a b : Sm → Res D) (δ : Sm) : eM1 k a b δ = (a δ).bind (cM k b δ) := Eq.trans rfl rfl
theorem cM_str (k : Str → D → Res D) (b : Sm → Res D) (δ : Sm) (z : Str) : cM k b δ (.str z) = (b δ).bind (k z) := Eq.trans rfl rfl
theorem on1_eq (k : D → Res D) (d : D) : on1 k [d] = k d := Eq.trans rfl rfl
theorem kInt1_t : kInt1 (.bl true) = .ok (.int 1) := Eq.trans rfl rfl
theorem kInt1_f : kInt1 (.bl false) = .ok (.int 0) := Eq.trans rfl rfl
def noX {β : Type} : Res β → Res β
  | .ok b => .ok b
  | _ => .bad
theorem tBor_eq (is : List Nat) (f : Sm → Res Bool) (δ : Sm) : tBor is f δ = noX (f (frzs is δ)) := by
  unfold tBor
  cases f (frzs is δ) <;> rfl
theorem noX_ok {β : Type} (b : β) : noX (.ok b) = .ok b := Eq.trans rfl rfl
theorem frzs_nil (δ : Sm) : frzs [] δ = δ := Eq.trans rfl rfl
theorem frzs_cons (i : Nat) (is : List Nat) (δ : Sm) : frzs (i :: is) δ = frzs is (frz i δ) := Eq.trans rfl rfl
def cRev (i : Nat) (δ : Sm) : Option O → Out
  | some (.ol ds) => .nx (δ.set i (.ol ds.reverse))
  | _ => .bad
theorem mRev_eq (i : Nat) (δ : Sm) : mRev i δ = cRev i δ δ[i]? := Eq.trans rfl rfl
theorem cRev_ol (i : Nat) (δ : Sm) (ds : List D) : cRev i δ (some (.ol ds)) = .nx (δ.set i (.ol ds.reverse)) := Eq.trans rfl rfl
theorem asS_str (x : Str) : asS (.str x) = .ok (x.cps.toList.map fun c => .str ⟨#[c]⟩) := Eq.trans rfl rfl

theorem cSetL_3 (i : Nat) (δ : Sm) (a b c : D) : cSetL i δ [a, b, c] = .nx (δ.set i (.ol [a, b, c])) := Eq.trans rfl rfl
theorem len2 (a b : D) : (([a, b] : List D).length = 2) = True := eq_true rfl
theorem len3 (a b c : D) : (([a, b, c] : List D).length = 3) = True := eq_true rfl
theorem len4 (a b c d : D) : (([a, b, c, d] : List D).length = 4) = True := eq_true rfl
theorem len5 (a b c d e : D) : (([a, b, c, d, e] : List D).length = 5) = True := eq_true rfl
end Pd

set_option Elab.async false
set_option linter.all false
set_option maxRecDepth 100000
set_option maxHeartbeats 4000000
namespace Pd
open PySem L2
variable {vn : Bool}
section
open PySem.SeqAt PyProof.Rows
open AutoSeq1 (wpAny_loadPart')
end
def plIt : D → Bool
  | .int _ => true
  | .bl _ => true
  | .str _ => true
  | .non => true
  | .tup _ => true
  | _ => false
def inO (fm : Fc) (C : Str) (x : D) : List D → Cells → Rk D
  | [], κ => .ok (.bl false) κ
  | d :: ds, κ => match insOf κ x with
    | some (C', _) => if C' = C then (match spAns isBl (fm [x, d] κ) with
      | .ok (.bl true) κ' => .ok (.bl true) κ'
      | .ok (.bl false) κ' => inO fm C x ds κ'
      | _ => .bad) else .bad
    | none => .bad
def kInO (Ms : List (Str × Fc)) (a b : D) (κ : Cells) : Rk D := match insOf κ a with
  | some (C, _) => (match Ms.lookup C, b with
    | some fm, .lst ds => if ds.all plIt = true then inO fm C a ds κ else .bad
    | _, _ => .bad)
  | none => .bad
structure ClsN (K : PySem.W.Frag) (ca : Str → Addr) (C : Str) : Prop where
  no : ∀ T ∈ (["NoneType", "bool", "int", "str", "tuple"] : List String), PySem.W.subIn K (.ref (ca C)) (.type T) = some false
def clsnB (K : PySem.W.Frag) (c : Str) : Bool := (["NoneType", "bool", "int", "str", "tuple"] : List String).all fun T => decide (PySem.W.subIn K (.ref (He.ga K c)) (.type T) = some false)
def rInO (g : G) (Ms : List (Str × Fc)) : R2 := fun x y H Q => ∃ H0 κ d C fm l vs ds, Sub H0 H ∧ CSt g H0 H κ ∧ Rp g H0 x d ∧ y = .ref l ∧ Rd H0 l (.lst vs) ∧ RpA g H0 vs ds ∧ (∃ fs, insOf κ d = some (C, fs)) ∧ (C, fm) ∈ Ms ∧ ds.all plIt = true ∧ Post2 g W0 [] H0 H (Rp g) Q (inO fm C d ds κ)
section
variable {X : Cx} {ca : Str → Addr} {k : Nat} {Ms : List (Str × Fc)}
variable {W : WX} {a b : Expr} {fa fb : Sc D} {pos : Pos}
def zJ : List (Sc D) → Str → Sc D
  | [], acc, _, κ => .ok (.str acc) κ
  | f :: fs, acc, δ, κ => (f δ κ).bind fun d κ => match d with
    | .str y => if (acc ++ y).length ≤ 16777216 then zJ fs (acc ++ y) δ κ else .bad
    | _ => .bad
inductive QDJ (X : Cx) (ca : Str → Addr) (W : WX) : List Expr → List (Sc D) → Prop where
  | nil : QDJ X ca W [] []
  | cons {e : Expr} {f : Sc D} {es : List Expr} {fs : List (Sc D)} (h : QD X ca W e f) (r : QDJ X ca W es fs) : QDJ X ca W (e :: es) (f :: fs)
theorem QDJ.pj {es : List Expr} {fs : List (Sc D)} (h : QDJ X ca W es fs) : PJ X es (fs.map (tC ⟨X.K, ca, X.w⟩ W (Rp ⟨X.K, ca, X.w⟩))) := by
  induction h with
  | nil => exact .nil
  | cons h _ ih => exact .cons h ih
end
end Pd

set_option Elab.async false
set_option linter.all false
set_option maxRecDepth 100000
set_option maxHeartbeats 4000000
namespace Pd
open PySem L2
section
variable {α β : Type}
theorem rb_ok (a : α) (κ : Cells) (k : α → Cells → Rk β) : (Rk.ok a κ).bind k = k a κ := Eq.trans rfl rfl
theorem rb_xc (c : Str) (fs : List (Str × D)) (κ : Cells) (k : α → Cells → Rk β) : (Rk.xc c fs κ : Rk α).bind k = .xc c fs κ := Eq.trans rfl rfl
theorem ro_ok (a : α) (κ : Cells) (δ : Sm) (k : α → Cells → Ot) : (Rk.ok a κ).out δ k = k a κ := Eq.trans rfl rfl
theorem ro_xc (c : Str) (fs : List (Str × D)) (κ : Cells) (δ : Sm) (k : α → Cells → Ot) : (Rk.xc c fs κ : Rk α).out δ k = .xc c fs δ κ := Eq.trans rfl rfl
theorem at_ok (a : α) (κ : Cells) : (Res.ok a).at κ = .ok a κ := Eq.trans rfl rfl
theorem at_xc (c : Str) (fs : List (Str × D)) (κ : Cells) : (Res.xc c fs : Res α).at κ = .xc c fs κ := Eq.trans rfl rfl
theorem lf_eq (f : Sm → Res β) (δ : Sm) (κ : Cells) : lf f δ κ = (f δ).at κ := Eq.trans rfl rfl
end
theorem ot_nx (δ : Sm) (κ : Cells) : (Out.nx δ).at κ = .nx δ κ := Eq.trans rfl rfl
theorem ot_rt (d : D) (κ : Cells) : (Out.rt d).at κ = .rt d κ := Eq.trans rfl rfl
theorem ot_bk (δ : Sm) (κ : Cells) : (Out.bk δ).at κ = .bk δ κ := Eq.trans rfl rfl
theorem ot_ct (δ : Sm) (κ : Cells) : (Out.ct δ).at κ = .ct δ κ := Eq.trans rfl rfl
theorem ot_xc (c : Str) (fs : List (Str × D)) (δ : Sm) (κ : Cells) : (Out.xc c fs δ).at κ = .xc c fs δ κ := Eq.trans rfl rfl
theorem ls_eq (m : Sm → Out) (δ : Sm) (κ : Cells) : ls m δ κ = (m δ).at κ := Eq.trans rfl rfl
def seqK (n : Sn) : Ot → Ot
  | .nx δ κ => n δ κ
  | .rt d κ => .rt d κ
  | .bk δ κ => .bk δ κ
  | .ct δ κ => .ct δ κ
  | .xc c fs δ κ => .xc c fs δ κ
  | .bad => .bad
theorem nSeq_eq (m n : Sn) (δ : Sm) (κ : Cells) : nSeq m n δ κ = seqK n (m δ κ) := by
  unfold nSeq
  cases m δ κ <;> rfl
theorem seqK_nx (n : Sn) (δ : Sm) (κ : Cells) : seqK n (.nx δ κ) = n δ κ := Eq.trans rfl rfl
theorem seqK_rt (n : Sn) (d : D) (κ : Cells) : seqK n (.rt d κ) = .rt d κ := Eq.trans rfl rfl
theorem seqK_bk (n : Sn) (δ : Sm) (κ : Cells) : seqK n (.bk δ κ) = .bk δ κ := Eq.trans rfl rfl
theorem seqK_ct (n : Sn) (δ : Sm) (κ : Cells) : seqK n (.ct δ κ) = .ct δ κ := Eq.trans rfl rfl
theorem seqK_xc (n : Sn) (c : Str) (fs : List (Str × D)) (δ : Sm) (κ : Cells) : seqK n (.xc c fs δ κ) = .xc c fs δ κ := Eq.trans rfl rfl
theorem nNext_eq (δ : Sm) (κ : Cells) : nNext δ κ = .nx δ κ := Eq.trans rfl rfl
def dSet (i : Nat) (δ : Sm) (d : D) (κ : Cells) : Ot := .nx (δ.set i (.sh d)) κ
theorem nSet_eq (i : Nat) (f : Sc D) (δ : Sm) (κ : Cells) : nSet i f δ κ = (f δ κ).out δ (dSet i δ) := Eq.trans rfl rfl
theorem dSet_eq (i : Nat) (δ : Sm) (d : D) (κ : Cells) : dSet i δ d κ = .nx (δ.set i (.sh d)) κ := Eq.trans rfl rfl
def dRet (d : D) (κ : Cells) : Ot := .rt d κ
theorem nRet_eq (f : Sc D) (δ : Sm) (κ : Cells) : nRet f δ κ = (f δ κ).out δ dRet := Eq.trans rfl rfl
theorem dRet_eq (d : D) (κ : Cells) : dRet d κ = .rt d κ := Eq.trans rfl rfl
def dDrop (δ : Sm) (_ : D) (κ : Cells) : Ot := .nx δ κ
theorem nDrop_eq (f : Sc D) (δ : Sm) (κ : Cells) : nDrop f δ κ = (f δ κ).out δ (dDrop δ) := Eq.trans rfl rfl
theorem dDrop_eq (δ : Sm) (d : D) (κ : Cells) : dDrop δ d κ = .nx δ κ := Eq.trans rfl rfl
def dIf (m n : Sn) (δ : Sm) (c : Bool) (κ : Cells) : Ot := if c = true then m δ κ else n δ κ
theorem nIf_eq (t : Sc Bool) (m n : Sn) (δ : Sm) (κ : Cells) : nIf t m n δ κ = (t δ κ).out δ (dIf m n δ) := Eq.trans rfl rfl
theorem dIf_t (m n : Sn) (δ : Sm) (κ : Cells) : dIf m n δ true κ = m δ κ := Eq.trans rfl rfl
theorem dIf_f (m n : Sn) (δ : Sm) (κ : Cells) : dIf m n δ false κ = n δ κ := Eq.trans rfl rfl
def d1 (k : D → Res D) (x : D) (κ : Cells) : Rk D := (k x).at κ
theorem z1_eq (k : D → Res D) (a : Sc D) (δ : Sm) (κ : Cells) : z1 k a δ κ = (a δ κ).bind (d1 k) := Eq.trans rfl rfl
theorem d1_eq (k : D → Res D) (x : D) (κ : Cells) : d1 k x κ = (k x).at κ := Eq.trans rfl rfl
def d22 (k : D → D → Res D) (x y : D) (κ : Cells) : Rk D := (k x y).at κ
def d2 (k : D → D → Res D) (b : Sc D) (δ : Sm) (x : D) (κ : Cells) : Rk D := (b δ κ).bind (d22 k x)
theorem z2_eq (k : D → D → Res D) (a b : Sc D) (δ : Sm) (κ : Cells) : z2 k a b δ κ = (a δ κ).bind (d2 k b δ) := Eq.trans rfl rfl
theorem d2_eq (k : D → D → Res D) (b : Sc D) (δ : Sm) (x : D) (κ : Cells) : d2 k b δ x κ = (b δ κ).bind (d22 k x) := Eq.trans rfl rfl
theorem d22_eq (k : D → D → Res D) (x y : D) (κ : Cells) : d22 k x y κ = (k x y).at κ := Eq.trans rfl rfl
theorem zNil_eq (δ : Sm) (κ : Cells) : zNil δ κ = .ok [] κ := Eq.trans rfl rfl
def dC2 (x : D) (xs : List D) (κ : Cells) : Rk (List D) := .ok (x :: xs) κ
def dC (r : Sc (List D)) (δ : Sm) (x : D) (κ : Cells) : Rk (List D) := (r δ κ).bind (dC2 x)
theorem zCons_eq (a : Sc D) (r : Sc (List D)) (δ : Sm) (κ : Cells) : zCons a r δ κ = (a δ κ).bind (dC r δ) := Eq.trans rfl rfl
theorem dC_eq (r : Sc (List D)) (δ : Sm) (x : D) (κ : Cells) : dC r δ x κ = (r δ κ).bind (dC2 x) := Eq.trans rfl rfl
theorem dC2_eq (x : D) (xs : List D) (κ : Cells) : dC2 x xs κ = .ok (x :: xs) κ := Eq.trans rfl rfl
def dA (k : List D → Res D) (xs : List D) (κ : Cells) : Rk D := (k xs).at κ
theorem zA_eq (k : List D → Res D) (a : Sc (List D)) (δ : Sm) (κ : Cells) : zA k a δ κ = (a δ κ).bind (dA k) := Eq.trans rfl rfl
theorem dA_eq (k : List D → Res D) (xs : List D) (κ : Cells) : dA k xs κ = (k xs).at κ := Eq.trans rfl rfl
def dI (a b : Sc D) (δ : Sm) (c : Bool) (κ : Cells) : Rk D := if c = true then a δ κ else b δ κ
theorem zIf_eq (t : Sc Bool) (a b : Sc D) (δ : Sm) (κ : Cells) : zIf t a b δ κ = (t δ κ).bind (dI a b δ) := Eq.trans rfl rfl
theorem dI_t (a b : Sc D) (δ : Sm) (κ : Cells) : dI a b δ true κ = a δ κ := Eq.trans rfl rfl
theorem dI_f (a b : Sc D) (δ : Sm) (κ : Cells) : dI a b δ false κ = b δ κ := Eq.trans rfl rfl
def dB (x : D) (κ : Cells) : Rk Bool := (asB x).at κ
theorem sOf_eq (a : Sc D) (δ : Sm) (κ : Cells) : sOf a δ κ = (a δ κ).bind dB := Eq.trans rfl rfl
theorem dB_bl (b : Bool) (κ : Cells) : dB (.bl b) κ = .ok b κ := Eq.trans rfl rfl
def dAn (b : Sc Bool) (δ : Sm) (c : Bool) (κ : Cells) : Rk Bool := if c = true then b δ κ else .ok false κ
theorem sAnd_eq (a b : Sc Bool) (δ : Sm) (κ : Cells) : sAnd a b δ κ = (a δ κ).bind (dAn b δ) := Eq.trans rfl rfl
theorem dAn_t (b : Sc Bool) (δ : Sm) (κ : Cells) : dAn b δ true κ = b δ κ := Eq.trans rfl rfl
theorem dAn_f (b : Sc Bool) (δ : Sm) (κ : Cells) : dAn b δ false κ = .ok false κ := Eq.trans rfl rfl
def dOr (b : Sc Bool) (δ : Sm) (c : Bool) (κ : Cells) : Rk Bool := if c = true then .ok true κ else b δ κ
theorem sOr_eq (a b : Sc Bool) (δ : Sm) (κ : Cells) : sOr a b δ κ = (a δ κ).bind (dOr b δ) := Eq.trans rfl rfl
theorem dOr_t (b : Sc Bool) (δ : Sm) (κ : Cells) : dOr b δ true κ = .ok true κ := Eq.trans rfl rfl
theorem dOr_f (b : Sc Bool) (δ : Sm) (κ : Cells) : dOr b δ false κ = b δ κ := Eq.trans rfl rfl
def dNt (c : Bool) (κ : Cells) : Rk Bool := .ok (!c) κ
theorem sNot_eq (a : Sc Bool) (δ : Sm) (κ : Cells) : sNot a δ κ = (a δ κ).bind dNt := Eq.trans rfl rfl
theorem dNt_eq (c : Bool) (κ : Cells) : dNt c κ = .ok (!c) κ := Eq.trans rfl rfl
def dZa (b : Sc D) (δ : Sm) (x : D) (κ : Cells) : Rk D := match x with
  | .bl true => b δ κ
  | .bl false => .ok (.bl false) κ
  | _ => .bad
theorem zAnd_eq (a b : Sc D) (δ : Sm) (κ : Cells) : zAnd a b δ κ = (a δ κ).bind (dZa b δ) := Eq.trans rfl rfl
theorem dZa_t (b : Sc D) (δ : Sm) (κ : Cells) : dZa b δ (.bl true) κ = b δ κ := Eq.trans rfl rfl
theorem dZa_f (b : Sc D) (δ : Sm) (κ : Cells) : dZa b δ (.bl false) κ = .ok (.bl false) κ := Eq.trans rfl rfl
def dZo (b : Sc D) (δ : Sm) (x : D) (κ : Cells) : Rk D := match x with
  | .bl true => .ok (.bl true) κ
  | .bl false => b δ κ
  | _ => .bad
theorem zOr_eq (a b : Sc D) (δ : Sm) (κ : Cells) : zOr a b δ κ = (a δ κ).bind (dZo b δ) := Eq.trans rfl rfl
theorem dZo_t (b : Sc D) (δ : Sm) (κ : Cells) : dZo b δ (.bl true) κ = .ok (.bl true) κ := Eq.trans rfl rfl
theorem dZo_f (b : Sc D) (δ : Sm) (κ : Cells) : dZo b δ (.bl false) κ = b δ κ := Eq.trans rfl rfl
def finK : Ot → Rk D
  | .rt d κ => .ok d κ
  | .nx _ κ => .ok .non κ
  | .xc c fs _ κ => .xc c fs κ
  | _ => .bad
theorem runC_eq (n : Nat) (m : Sn) (ds : List D) (κ : Cells) : runC n m ds κ = finK (m (slots n ds) κ) := by
  unfold runC slots
  cases m (ds.map O.sh ++ List.replicate n O.no) κ <;> rfl
theorem finK_rt (d : D) (κ : Cells) : finK (.rt d κ) = .ok d κ := Eq.trans rfl rfl
theorem finK_nx (δ : Sm) (κ : Cells) : finK (.nx δ κ) = .ok .non κ := Eq.trans rfl rfl
theorem finK_xc (c : Str) (fs : List (Str × D)) (δ : Sm) (κ : Cells) : finK (.xc c fs δ κ) = .xc c fs κ := Eq.trans rfl rfl
def dCl2 (fm : Fc) (gD : List D → List D → List D) (ds es : List D) (κ : Cells) : Rk D := fm (gD ds es) κ
def dCl (fm : Fc) (gD : List D → List D → List D) (fk : Sc (List D)) (δ : Sm) (ds : List D) (κ : Cells) : Rk D := (fk δ κ).bind (dCl2 fm gD ds)
theorem zCall_eq (fm : Fc) (gD : List D → List D → List D) (fa fk : Sc (List D)) (δ : Sm) (κ : Cells) : zCall fm gD fa fk δ κ = (fa δ κ).bind (dCl fm gD fk δ) := Eq.trans rfl rfl
theorem dCl_eq (fm : Fc) (gD : List D → List D → List D) (fk : Sc (List D)) (δ : Sm) (ds : List D) (κ : Cells) : dCl fm gD fk δ ds κ = (fk δ κ).bind (dCl2 fm gD ds) := Eq.trans rfl rfl
theorem dCl2_eq (fm : Fc) (gD : List D → List D → List D) (ds es : List D) (κ : Cells) : dCl2 fm gD ds es κ = fm (gD ds es) κ := Eq.trans rfl rfl
def dF (Cs : List Str) (f : Str) (d : D) (κ : Cells) : Rk D := match insOf κ d with
  | some (C, fs) => if C ∈ Cs then (match fs.lookup f with
    | some x => .ok x κ
    | none => .bad) else .bad
  | none => .bad
theorem zFld_eq (Cs : List Str) (f : Str) (fo : Sc D) (δ : Sm) (κ : Cells) : zFld Cs f fo δ κ = (fo δ κ).bind (dF Cs f) := Eq.trans rfl rfl
def dM (m : Str) (Ms : List (Str × Fc)) (gD : List D → List D → List D) (fa fk : Sc (List D)) (δ : Sm) (d : D) (κ : Cells) : Rk D := match insOf κ d with
  | some (C, fs) => (match fs.lookup m with
    | some _ => .bad
    | none => match Ms.lookup C with
      | some fm => (fa δ κ).bind fun ds κ => (fk δ κ).bind fun es κ => fm (gD (d :: ds) es) κ
      | none => .bad)
  | none => .bad
def dM3 (fm : Fc) (gD : List D → List D → List D) (d : D) (ds es : List D) (κ : Cells) : Rk D := fm (gD (d :: ds) es) κ
def dM2 (fm : Fc) (gD : List D → List D → List D) (fk : Sc (List D)) (δ : Sm) (d : D) (ds : List D) (κ : Cells) : Rk D := (fk δ κ).bind (dM3 fm gD d ds)
theorem zMeth_eq (m : Str) (Ms : List (Str × Fc)) (gD : List D → List D → List D) (fo : Sc D) (fa fk : Sc (List D)) (δ : Sm) (κ : Cells) : zMeth m Ms gD fo fa fk δ κ = (fo δ κ).bind (dM m Ms gD fa fk δ) := Eq.trans rfl rfl
theorem dM2_eq (fm : Fc) (gD : List D → List D → List D) (fk : Sc (List D)) (δ : Sm) (d : D) (ds : List D) (κ : Cells) : dM2 fm gD fk δ d ds κ = (fk δ κ).bind (dM3 fm gD d ds) := Eq.trans rfl rfl
theorem dM3_eq (fm : Fc) (gD : List D → List D → List D) (d : D) (ds es : List D) (κ : Cells) : dM3 fm gD d ds es κ = fm (gD (d :: ds) es) κ := Eq.trans rfl rfl
def dK3 (n : Nat) (r : D) (κ : Cells) : Rk D := match r with
  | .non => .ok (.loc n) κ
  | _ => .bad
def dK2 (C : Str) (fm : Fc) (gD : List D → List D → List D) (ds es : List D) (κ : Cells) : Rk D := (fm (gD (.loc κ.length :: ds) es) (κ ++ [.ins C []])).bind (dK3 κ.length)
def dK (C : Str) (fm : Fc) (gD : List D → List D → List D) (fk : Sc (List D)) (δ : Sm) (ds : List D) (κ : Cells) : Rk D := (fk δ κ).bind (dK2 C fm gD ds)
theorem zMake_eq (C : Str) (fm : Fc) (gD : List D → List D → List D) (fa fk : Sc (List D)) (δ : Sm) (κ : Cells) : zMake C fm gD fa fk δ κ = (fa δ κ).bind (dK C fm gD fk δ) := Eq.trans rfl rfl
theorem dK_eq (C : Str) (fm : Fc) (gD : List D → List D → List D) (fk : Sc (List D)) (δ : Sm) (ds : List D) (κ : Cells) : dK C fm gD fk δ ds κ = (fk δ κ).bind (dK2 C fm gD ds) := Eq.trans rfl rfl
theorem dK2_eq (C : Str) (fm : Fc) (gD : List D → List D → List D) (ds es : List D) (κ : Cells) : dK2 C fm gD ds es κ = (fm (gD (.loc κ.length :: ds) es) (κ ++ [.ins C []])).bind (dK3 κ.length) := Eq.trans rfl rfl
theorem dK3_non (n : Nat) (κ : Cells) : dK3 n .non κ = .ok (.loc n) κ := Eq.trans rfl rfl
def dP2 (Cs : List Str) (f : Str) (δ : Sm) (x d : D) (κ : Cells) : Ot := match d with
  | .loc n => match κ[n]? with
    | some (.ins C fs) => if C ∈ Cs ∧ fs.length < 900 then .nx δ (κ.set n (.ins C (putD f x fs))) else .bad
    | _ => .bad
  | _ => .bad
def dP (Cs : List Str) (f : Str) (fo : Sc D) (δ : Sm) (x : D) (κ : Cells) : Ot := (fo δ κ).out δ (dP2 Cs f δ x)
theorem nFld_eq (Cs : List Str) (f : Str) (fo fe : Sc D) (δ : Sm) (κ : Cells) : nFld Cs f fo fe δ κ = (fe δ κ).out δ (dP Cs f fo δ) := Eq.trans rfl rfl
theorem dP_eq (Cs : List Str) (f : Str) (fo : Sc D) (δ : Sm) (x : D) (κ : Cells) : dP Cs f fo δ x κ = (fo δ κ).out δ (dP2 Cs f δ x) := Eq.trans rfl rfl
def dFo (gt : D → Sm → Res Sm) (b : Sn) (δ : Sm) (ds : List D) (κ : Cells) : Ot := forC gt b ds δ κ
theorem nFor_eq (it : Sc (List D)) (gt : D → Sm → Res Sm) (b : Sn) (δ : Sm) (κ : Cells) : nFor it gt b δ κ = (it δ κ).out δ (dFo gt b δ) := Eq.trans rfl rfl
theorem dFo_eq (gt : D → Sm → Res Sm) (b : Sn) (δ : Sm) (ds : List D) (κ : Cells) : dFo gt b δ ds κ = forC gt b ds δ κ := Eq.trans rfl rfl
theorem zAc_eq (k : List D → Cells → Rk D) (a : Sc (List D)) (δ : Sm) (κ : Cells) : zAc k a δ κ = (a δ κ).bind k := Eq.trans rfl rfl
def d2c (k : D → D → Cells → Rk D) (b : Sc D) (δ : Sm) (x : D) (κ : Cells) : Rk D := (b δ κ).bind (k x)
theorem z2c_eq (k : D → D → Cells → Rk D) (a b : Sc D) (δ : Sm) (κ : Cells) : z2c k a b δ κ = (a δ κ).bind (d2c k b δ) := Eq.trans rfl rfl
theorem d2c_eq (k : D → D → Cells → Rk D) (b : Sc D) (δ : Sm) (x : D) (κ : Cells) : d2c k b δ x κ = (b δ κ).bind (k x) := Eq.trans rfl rfl
def d2b2 (k : D → D → Res D) (x y : D) (κ : Cells) : Rk D := if (plain (rsv rDeep κ x) && plain (rsv rDeep κ y)) = true then (rImm (k (rsv rDeep κ x) (rsv rDeep κ y))).at κ else .bad
def d2b (k : D → D → Res D) (b : Sc D) (δ : Sm) (x : D) (κ : Cells) : Rk D := (b δ κ).bind (d2b2 k x)
theorem z2b_eq (k : D → D → Res D) (a b : Sc D) (δ : Sm) (κ : Cells) : z2b k a b δ κ = (a δ κ).bind (d2b k b δ) := Eq.trans rfl rfl
theorem d2b_eq (k : D → D → Res D) (b : Sc D) (δ : Sm) (x : D) (κ : Cells) : d2b k b δ x κ = (b δ κ).bind (d2b2 k x) := Eq.trans rfl rfl
theorem d2b2_int (k : D → D → Res D) (i j : Int) (κ : Cells) : d2b2 k (.int i) (.int j) κ = (rImm (k (.int i) (.int j))).at κ := Eq.trans rfl rfl
theorem rImm_bl (b : Bool) : rImm (.ok (.bl b)) = .ok (.bl b) := Eq.trans rfl rfl
theorem kLen2_lst (ds : List D) (κ : Cells) : kLen2 [.lst ds] κ = .ok (.int ds.length) κ := Eq.trans rfl rfl
def dJ (fs : List (Sc D)) (acc : Str) (δ : Sm) (d : D) (κ : Cells) : Rk D := match d with
  | .str y => if (acc ++ y).length ≤ 16777216 then zJ fs (acc ++ y) δ κ else .bad
  | _ => .bad
theorem zJ_nil (acc : Str) (δ : Sm) (κ : Cells) : zJ [] acc δ κ = .ok (.str acc) κ := Eq.trans rfl rfl
theorem zJ_cons (f : Sc D) (fs : List (Sc D)) (acc : Str) (δ : Sm) (κ : Cells) : zJ (f :: fs) acc δ κ = (f δ κ).bind (dJ fs acc δ) := Eq.trans rfl rfl
theorem nTryC_eq (rs : List Str) (cl : List Cl2) (mb : Sn) (δ : Sm) (κ : Cells) : nTryC rs cl mb δ κ = tryC2 rs cl (mb δ κ) := Eq.trans rfl rfl
theorem hls_eq (m : HS) (fs : List (Str × D)) (δ : Sm) (κ : Cells) : hls m fs δ κ = (m fs δ).at κ := Eq.trans rfl rfl
theorem sYes_eq (δ : Sm) (κ : Cells) : sYes δ κ = .ok true κ := Eq.trans rfl rfl
theorem forC_inv {gt : D → Sm → Res Sm} {b : Sn} (J : Sm → Cells → Prop) : ∀ {ds : List D} {δ : Sm} {κ : Cells}, (∀ d ∈ ds, ∀ δ κ, J δ κ → ∃ δ1 δ2 κ2, gt d δ = .ok δ1 ∧ (b δ1 κ = .nx δ2 κ2 ∨ b δ1 κ = .ct δ2 κ2) ∧ J δ2 κ2) → J δ κ → ∃ δ' κ', forC gt b ds δ κ = .nx δ' κ' ∧ J δ' κ'
  | [], δ, κ, _, h0 => ⟨δ, κ, rfl, h0⟩
  | d :: ds, δ, κ, h, h0 => by
    obtain ⟨δ1, δ2, κ2, h1, h2, h3⟩ := h d (List.mem_cons_self ..) δ κ h0
    obtain ⟨δ', κ', h4, h5⟩ := forC_inv J (ds := ds) (fun x hx => h x (List.mem_cons_of_mem _ hx)) h3
    refine ⟨δ', κ', ?_, h5⟩
    unfold forC
    rw [h1]
    dsimp only
    rcases h2 with h2 | h2 <;> rw [h2] <;> exact h4
end Pd

set_option Elab.async false
set_option linter.all false
set_option maxRecDepth 100000
set_option maxHeartbeats 4000000
namespace Pd
open PySem L2
def keyOf : D → Option Key
  | .int i => some (.inl i)
  | .str x => some (.inr x)
  | _ => none
def dLook : List D → List D → Key → Option D
  | d :: ks, v :: vs, k => if keyOf d = some k then some v else dLook ks vs k
  | _, _, _ => none
def dHas (ks : List D) (k : Key) : Bool := ks.any fun d => decide (keyOf d = some k)
def dRep : List D → List D → Key → D → List D
  | d :: ks, w :: vs, k, v => (if keyOf d = some k then v else w) :: dRep ks vs k v
  | _, vs, _, _ => vs
def dPut (ks vs : List D) (k : Key) (v : D) : Cell := if dHas ks k = true then .dct ks (dRep ks vs k v) else .dct (ks ++ [keyD k]) (vs ++ [v])
def dctOf (κ : Cells) : D → Option (List D × List D)
  | .loc n => match κ[n]? with
    | some (.dct ks vs) => some (ks, vs)
    | _ => none
  | _ => none
def dcrOf (κ : Cells) : D → Option (List D × List D)
  | .loc n => match κ[n]? with
    | some (.dct ks vs) => some (ks, vs)
    | some (.dcf ks vs) => some (ks, vs)
    | _ => none
  | _ => none
def kDix (x y : D) (κ : Cells) : Rk D := match dcrOf κ x, keyOf y with
  | some (ks, vs), some k => (match dLook ks vs k with
    | some v => .ok v κ
    | none => .bad)
  | _, _ => .bad
def kDget (x y z : D) (κ : Cells) : Rk D := match dcrOf κ x, keyOf y with
  | some (ks, vs), some k => (match dLook ks vs k with
    | some v => .ok v κ
    | none => .ok z κ)
  | _, _ => .bad
def zDget (fo fy fz : Sc D) : Sc D := fun δ κ => (fo δ κ).bind fun x κ => match dcrOf κ x with
  | some _ => (fy δ κ).bind fun y κ => (fz δ κ).bind fun z κ => kDget x y z κ
  | none => .bad
def zDnew : Sc D := fun _ κ => .ok (.loc κ.length) (κ ++ [.dct [] []])
def nDput (fo fy fv : Sc D) : Sn := fun δ κ => (fv δ κ).out δ fun v κ => (fo δ κ).out δ fun x κ => (fy δ κ).out δ fun y κ => match x with
  | .loc n => (match dctOf κ (.loc n), keyOf y with
    | some (ks, vs), some k => if vs.length < 16777216 then .nx δ (κ.set n (dPut ks vs k v)) else .bad
    | _, _ => .bad)
  | _ => .bad
section
variable {X : Cx} {ca : Str → Addr} {W : WX} {o i e f value : Expr} {fo fi fe ff fv : Sc D} {pos pos' apos p : Pos}
end
end Pd

set_option Elab.async false
set_option linter.all false
set_option maxRecDepth 100000
set_option maxHeartbeats 4000000
namespace Pd
open PySem L2
theorem sorted_unique : ∀ {xs ys : List Int}, xs.Perm ys → xs.Pairwise (· ≤ ·) → ys.Pairwise (· ≤ ·) → xs = ys
  | [], ys, p, _, _ => p.nil_eq
  | x :: xs, [], p, _, _ => absurd p.symm.nil_eq (by simp)
  | x :: xs, y :: ys, p, h1, h2 => by
    have e : x = y := by
      have a1 : x ∈ y :: ys := p.subset (List.mem_cons_self ..)
      have a2 : y ∈ x :: xs := p.symm.subset (List.mem_cons_self ..)
      rcases List.mem_cons.mp a1 with z | z
      · exact z
      · rcases List.mem_cons.mp a2 with z2 | z2
        · exact z2.symm
        · exact Int.le_antisymm ((List.pairwise_cons.mp h1).1 y z2) ((List.pairwise_cons.mp h2).1 x z)
    subst e
    rw [sorted_unique p.cons_inv (List.pairwise_cons.mp h1).2 (List.pairwise_cons.mp h2).2]
def isort (ns : List Int) : List Int := ns.mergeSort fun a b => decide (a ≤ b)
theorem isort_perm (ns : List Int) : (isort ns).Perm ns := List.mergeSort_perm ns _
theorem isort_sorted (ns : List Int) : (isort ns).Pairwise (· ≤ ·) := by
  have := List.pairwise_mergeSort (le := fun a b : Int => decide (a ≤ b)) (fun a b c h1 h2 => decide_eq_true (Int.le_trans (of_decide_eq_true h1) (of_decide_eq_true h2))) (fun a b => by
    rcases Int.le_total a b with h | h
    · rw [decide_eq_true h]; rfl
    · rw [decide_eq_true h, Bool.or_true]) ns
  exact this.imp fun h => of_decide_eq_true h
def intsOf : List D → Option (List Int)
  | [] => some []
  | .int i :: ds => match intsOf ds with
    | some ns => some (i :: ns)
    | none => none
  | _ => none
theorem intsOf_map (ns : List Int) : intsOf (ns.map D.int) = some ns := by
  induction ns with
  | nil => rfl
  | cons n ns ih =>
    show (match intsOf (ns.map D.int) with | some ns => some (n :: ns) | none => none) = _
    rw [ih]
theorem intsOf_rp {g : G} {H : Hp} : ∀ {ds : List D} {ns : List Int} {vs : List V}, RpA g H vs ds → intsOf ds = some ns → vs = ns.map V.int
  | [], ns, vs, r, e => by
    cases r
    cases e
    rfl
  | d :: ds, ns, vs, r, e => by
    cases r with
    | @cons v vs _ _ q r =>
      cases q with
      | int i =>
        unfold intsOf at e
        cases e1 : intsOf ds with
        | none => rw [e1] at e; exact nomatch e
        | some zs =>
          rw [e1] at e
          cases e
          rw [intsOf_rp r e1]
          rfl
      | _ => exact nomatch e
theorem rpA_ints {g : G} {H : Hp} : ∀ ns : List Int, RpA g H (ns.map V.int) (ns.map D.int)
  | [] => .nil
  | n :: ns => .cons (.int n) (rpA_ints ns)
def kSortI : D → Res D
  | .lst ds => match intsOf ds with
    | some ns => .ok (.lst ((isort ns).map D.int))
    | none => .bad
  | .scr ns => .ok (.lst ((isort ns).map D.int))
  | _ => .bad
section
variable {X : Cx} {ca : Str → Addr} {W : WX} {a : Expr} {es : List Expr} {fl : Sm → Res (List D)} {fl2 : Sc (List D)} {pos p : Pos}
def kListD : List D → Cells → Rk D
  | [d], κ => match dctOf κ d with
    | some (ks, _) => .ok (.lst ks) κ
    | none => .bad
  | _, _ => .bad
def kDictC : List D → Cells → Rk D
  | [d], κ => match dctOf κ d with
    | some (ks, vs) => .ok (.loc κ.length) (κ ++ [.dct ks vs])
    | none => .bad
  | _, _ => .bad
def kLenD : List D → Cells → Rk D
  | [d], κ => match dctOf κ d with
    | some (ks, _) => .ok (.int ks.length) κ
    | none => .bad
  | _, _ => .bad
end
end Pd

set_option Elab.async false
set_option linter.all false
set_option maxRecDepth 100000
set_option maxHeartbeats 4000000
namespace Pd
open PySem L2
variable {vn : Bool}
section
open PySem.W PyProof.Rows Builtin Builtin.Str
variable {prog : Program} {w : World} {A : Around} {E : Value → Shared → Prop} {s : Shared} {K : Frag} {x C f : Addr} {ox : Obj} {od : Option Obj} {Q : Value → Shared → Prop}
end
section
variable {X : Cx} {ca : Str → Addr} {k : Nat} {Ms : List (Str × Fc)}
def rBoO (g : G) (Ms : List (Str × Fc)) : List V → Hp → VK → Prop := fun xs H Q => ∃ H0 κ x d C fs fm, xs = [x] ∧ Sub H0 H ∧ CSt g H0 H κ ∧ Rp g H0 x d ∧ insOf κ d = some (C, fs) ∧ (C, fm) ∈ Ms ∧ PySem.W.findIn g.K (.ref (g.ca C)) "__bool__" = some none ∧
  Post2 g W0 [] H0 H (Rp g) (fun v H' => ∃ n : Int, v = .int n ∧ Q (.bl (n != 0)) H') (spAns isN63 (fm [d] κ))
def kBoO (Ms : List (Str × Fc)) : List D → Cells → Rk D
  | [d], κ => match insOf κ d with
    | some (C, _) => (match Ms.lookup C with
      | some fm => (match spAns isN63 (fm [d] κ) with
        | .ok (.int n) κ' => .ok (.bl (n != 0)) κ'
        | _ => .bad)
      | none => .bad)
    | none => .bad
  | _, _ => .bad
variable {W : WX} {a : Expr} {fl : Sc (List D)} {pos p : Pos}
end
end Pd

set_option Elab.async false
set_option linter.all false
set_option maxRecDepth 100000
set_option maxHeartbeats 4000000
namespace Pd
open PySem L2
section
open PySem.Spec PyProof.Rows
variable {X : Cx} {ca : Str → Addr}
def rSortD : List V → Hp → VK → Prop := fun xs H Q => ∃ (a : Addr) (kvs : List (Key × V)) (ns : List Int), xs = [.ref a] ∧ H a = some (.dK kvs) ∧ kvs.map (·.1) = ns.map Sum.inl ∧
  ∀ (ys : List Int) (p : Addr), ys.Perm ns → ys.Pairwise (· ≤ ·) → H p = none → Q (.ref p) (upd H p (.lst (ys.map V.int)))
def kSortD : List D → Cells → Rk D
  | [d], κ => match dctOf κ d with
    | some (ks, _) => (match intsOf ks with
      | some ns => .ok (.lst ((isort ns).map D.int)) κ
      | none => .bad)
    | none => .bad
  | _, _ => .bad
end
end Pd

set_option Elab.async false
set_option linter.all false
set_option maxRecDepth 100000
set_option maxHeartbeats 4000000
namespace Pd
open PySem L2
section
variable {X : Cx} {ca : Str → Addr} {W : WX} {a : Expr} {fa : Sm → Res D} {fz : Sc D} {pos : Pos}
def rExtR : R2 := fun x y H Q => ∃ l b xs zs, x = .ref l ∧ y = .ref b ∧ H l = some (.lst xs) ∧ Rd H b (.lst zs) ∧ xs.length + zs.length ≤ sizeLine ∧ Q (.ref l) (upd H l (.lst (xs ++ zs)))
def rExdR : V → List V → Hp → VK → Prop := fun x vs H Q => ∃ l b xs zs, x = .ref l ∧ vs = [.ref b] ∧ H l = some (.lst xs) ∧ Rd H b (.lst zs) ∧ xs.length + zs.length ≤ sizeLine ∧ Q .non (upd H l (.lst (xs ++ zs)))
def mExt (i : Nat) (f : Sm → Res D) : Sm → Out := fun δ => match δ[i]? with
  | some (.ol ds) => (f δ).out δ fun d => match d with
    | .lst es => if ds.length + es.length ≤ 16777216 then .nx (δ.set i (.ol (ds ++ es))) else .bad
    | _ => .bad
  | _ => .bad
def nExt (i : Nat) (f : Sc D) : Sn := fun δ κ => match δ[i]? with
  | some (.ol ds) => (f δ κ).out δ fun d κ => match d with
    | .lst es => if ds.length + es.length ≤ 16777216 then .nx (δ.set i (.ol (ds ++ es))) κ else .bad
    | _ => .bad
  | _ => .bad
end
end Pd

set_option Elab.async false
set_option linter.all false
set_option maxRecDepth 100000
set_option maxHeartbeats 4000000
namespace Pd
open PySem L2
def zM1 (k : Str → D → Res D) (fa fb : Sc D) : Sc D := fun δ κ => (fa δ κ).bind fun x κ => match x with
  | .str z => (fb δ κ).bind fun y κ => (k z y).at κ
  | _ => .bad
section
variable {X : Cx} {ca : Str → Addr} {W : WX} {a b : Expr} {es : List Expr} {fa fb : Sc D} {fl : Sc (List D)} {pos p apos : Pos} {x : Str}
end
end Pd

set_option Elab.async false
set_option linter.all false
set_option maxRecDepth 100000
set_option maxHeartbeats 4000000
namespace Pd
open PySem L2
theorem zDnew_eq (δ : Sm) (κ : Cells) : zDnew δ κ = .ok (.loc κ.length) (κ ++ [.dct [] []]) := Eq.trans rfl rfl
def dG3 (x y z : D) (κ : Cells) : Rk D := kDget x y z κ
def dG2 (fz : Sc D) (δ : Sm) (x y : D) (κ : Cells) : Rk D := (fz δ κ).bind (dG3 x y)
def dG (fy fz : Sc D) (δ : Sm) (x : D) (κ : Cells) : Rk D := match dcrOf κ x with
  | some _ => (fy δ κ).bind (dG2 fz δ x)
  | none => .bad
theorem zDget_eq (fo fy fz : Sc D) (δ : Sm) (κ : Cells) : zDget fo fy fz δ κ = (fo δ κ).bind (dG fy fz δ) := Eq.trans rfl rfl
theorem dG2_eq (fz : Sc D) (δ : Sm) (x y : D) (κ : Cells) : dG2 fz δ x y κ = (fz δ κ).bind (dG3 x y) := Eq.trans rfl rfl
def dU3 (δ : Sm) (v x y : D) (κ : Cells) : Ot := match x with
  | .loc n => (match dctOf κ (.loc n), keyOf y with
    | some (ks, vs), some k => if vs.length < 16777216 then .nx δ (κ.set n (dPut ks vs k v)) else .bad
    | _, _ => .bad)
  | _ => .bad
def dU2 (fy : Sc D) (δ : Sm) (v x : D) (κ : Cells) : Ot := (fy δ κ).out δ (dU3 δ v x)
def dU (fo fy : Sc D) (δ : Sm) (v : D) (κ : Cells) : Ot := (fo δ κ).out δ (dU2 fy δ v)
theorem nDput_eq (fo fy fv : Sc D) (δ : Sm) (κ : Cells) : nDput fo fy fv δ κ = (fv δ κ).out δ (dU fo fy δ) := Eq.trans rfl rfl
theorem dU_eq (fo fy : Sc D) (δ : Sm) (v : D) (κ : Cells) : dU fo fy δ v κ = (fo δ κ).out δ (dU2 fy δ v) := Eq.trans rfl rfl
theorem dU2_eq (fy : Sc D) (δ : Sm) (v x : D) (κ : Cells) : dU2 fy δ v x κ = (fy δ κ).out δ (dU3 δ v x) := Eq.trans rfl rfl
def dX (i : Nat) (δ : Sm) (ds : List D) (d : D) (κ : Cells) : Ot := match d with
  | .lst es => if ds.length + es.length ≤ 16777216 then .nx (δ.set i (.ol (ds ++ es))) κ else .bad
  | _ => .bad
def dXo (i : Nat) (f : Sc D) (δ : Sm) (κ : Cells) : Option O → Ot
  | some (.ol ds) => (f δ κ).out δ (dX i δ ds)
  | _ => .bad
theorem nExt_eq (i : Nat) (f : Sc D) (δ : Sm) (κ : Cells) : nExt i f δ κ = dXo i f δ κ δ[i]? := Eq.trans rfl rfl
theorem dXo_ol (i : Nat) (f : Sc D) (δ : Sm) (κ : Cells) (ds : List D) : dXo i f δ κ (some (.ol ds)) = (f δ κ).out δ (dX i δ ds) := Eq.trans rfl rfl
def dMs (k : Str → D → Res D) (z : Str) (y : D) (κ : Cells) : Rk D := (k z y).at κ
def dMx (k : Str → D → Res D) (fb : Sc D) (δ : Sm) (x : D) (κ : Cells) : Rk D := match x with
  | .str z => (fb δ κ).bind (dMs k z)
  | _ => .bad
theorem zM1_eq (k : Str → D → Res D) (fa fb : Sc D) (δ : Sm) (κ : Cells) : zM1 k fa fb δ κ = (fa δ κ).bind (dMx k fb δ) := Eq.trans rfl rfl
theorem dMx_str (k : Str → D → Res D) (fb : Sc D) (δ : Sm) (z : Str) (κ : Cells) : dMx k fb δ (.str z) κ = (fb δ κ).bind (dMs k z) := Eq.trans rfl rfl
theorem dMs_eq (k : Str → D → Res D) (z : Str) (y : D) (κ : Cells) : dMs k z y κ = (k z y).at κ := Eq.trans rfl rfl
theorem zIsO_eq (C : Str) (fa : Sc D) (δ : Sm) (κ : Cells) : zIsO C fa δ κ = (fa δ κ).bind (kIsO C) := Eq.trans rfl rfl
end Pd

set_option Elab.async false
set_option linter.all false
set_option maxRecDepth 100000
set_option maxHeartbeats 4000000
namespace Pd
open PySem L2
theorem lcL_sel {gt : D → Sm → Res Sm} {t : Sm → Res Bool} {e : Sm → Res D} {δ0 : Sm} (c : D → Bool) (v : D → D) : ∀ {ds : List D}, (∀ d ∈ ds, ∃ δ1, gt d δ0 = .ok δ1 ∧ t δ1 = .ok (c d) ∧ (c d = true → e δ1 = .ok (v d))) → lcL gt t e δ0 ds = .ok ((ds.filter c).map v)
  | [], _ => rfl
  | d :: ds, h => by
    obtain ⟨δ1, h1, h2, h3⟩ := h d (List.mem_cons_self ..)
    have ih := lcL_sel c v (ds := ds) fun x hx => h x (List.mem_cons_of_mem _ hx)
    unfold lcL
    rw [h1]
    dsimp only
    rw [h2]
    cases z : c d with
    | true =>
      rw [List.filter_cons_of_pos z, List.map_cons]
      dsimp only
      rw [h3 z]
      dsimp only
      rw [ih]
    | false =>
      rw [List.filter_cons_of_neg (by rw [z]; decide)]
      exact ih
theorem eLc_sel {it : Sm → Res (List D)} {gt : D → Sm → Res Sm} {t : Sm → Res Bool} {e : Sm → Res D} {vs : List Nat} {δ : Sm} {ds : List D} (c : D → Bool) (v : D → D) (hit : it δ = .ok ds) (hl : ds.length ≤ 16777216)
    (h : ∀ d ∈ ds, ∃ δ1, gt d ((wipeD vs δ).map hideO) = .ok δ1 ∧ t δ1 = .ok (c d) ∧ (c d = true → e δ1 = .ok (v d))) : eLc it gt t e vs δ = .ok (.lst ((ds.filter c).map v)) := by
  unfold eLc lcR
  rw [hit]
  simp only [bind_ok, if_pos hl, lcL_sel c v h]
theorem lcC_sel {gt : D → Sm → Res Sm} {t : Sc Bool} {e : Sc D} {δ0 : Sm} {κ : Cells} (c : D → Bool) (v : D → D) : ∀ {ds : List D}, (∀ d ∈ ds, ∃ δ1, gt d δ0 = .ok δ1 ∧ t δ1 κ = .ok (c d) κ ∧ (c d = true → e δ1 κ = .ok (v d) κ)) → lcC gt t e δ0 ds κ = .ok ((ds.filter c).map v) κ
  | [], _ => rfl
  | d :: ds, h => by
    obtain ⟨δ1, h1, h2, h3⟩ := h d (List.mem_cons_self ..)
    have ih := lcC_sel c v (ds := ds) fun x hx => h x (List.mem_cons_of_mem _ hx)
    unfold lcC
    rw [h1]
    dsimp only
    rw [h2]
    cases z : c d with
    | true =>
      rw [List.filter_cons_of_pos z, List.map_cons]
      dsimp only
      rw [h3 z]
      dsimp only
      rw [ih]
    | false =>
      rw [List.filter_cons_of_neg (by rw [z]; decide)]
      exact ih
theorem zLc_sel {it : Sc (List D)} {gt : D → Sm → Res Sm} {t : Sc Bool} {e : Sc D} {vs : List Nat} {δ : Sm} {κ : Cells} {ds : List D} (c : D → Bool) (v : D → D) (hit : it δ κ = .ok ds κ) (hl : ds.length ≤ 16777216)
    (h : ∀ d ∈ ds, ∃ δ1, gt d ((wipeD vs δ).map hideO) = .ok δ1 ∧ t δ1 κ = .ok (c d) κ ∧ (c d = true → e δ1 κ = .ok (v d) κ)) : zLc it gt t e vs δ κ = .ok (.lst ((ds.filter c).map v)) κ := by
  unfold zLc lcRC
  rw [hit]
  simp only [rb_ok, if_pos hl, lcC_sel c v h]
end Pd

set_option Elab.async false
set_option linter.all false
set_option maxRecDepth 100000
set_option maxHeartbeats 4000000
namespace Pd
open PySem L2
def zIt (f : Sc D) : Sc (List D) := fun δ κ => (f δ κ).bind fun d κ => (asL d).at κ
theorem qdi_zIt {X : Cx} {ca : Str → Addr} {W : WX} {tg a : Expr} {fa : Sc D} (h : QD X ca W a fa) : QDI X ca W tg a (zIt fa) := qdi_list h
def dIt (d : D) (κ : Cells) : Rk (List D) := (asL d).at κ
theorem zIt_eq (f : Sc D) (δ : Sm) (κ : Cells) : zIt f δ κ = (f δ κ).bind dIt := Eq.trans rfl rfl
theorem dIt_lst (ds : List D) (κ : Cells) : dIt (.lst ds) κ = .ok ds κ := Eq.trans rfl rfl
end Pd

set_option Elab.async false
set_option linter.all false
set_option maxRecDepth 100000
set_option maxHeartbeats 4000000
namespace Pd
open PySem L2
def nLput (fo fy fv : Sc D) : Sn := fun δ κ => (fv δ κ).out δ fun v κ => (fo δ κ).out δ fun x κ => (fy δ κ).out δ fun y κ => match x, y with
  | .loc n, .int i => (match κ[n]? with
    | some (.lst ds) => (match ixN ds.length i with
      | some j => .nx δ (κ.set n (.lst (ds.set j v)))
      | none => .bad)
    | _ => .bad)
  | _, _ => .bad
section
variable {X : Cx} {ca : Str → Addr} {W : WX} {o i value : Expr} {fo fi fv : Sc D} {pos pos' : Pos}
end
abbrev Stp := Nat → Cells → Option (Option D)
structure ItC (g : G) (A : Hp) (J : It) (f : Stp) : Prop where
  go : ∀ (i : Nat) (d : D) (A1 B1 : Hp) (κ : Cells), Same A A1 → Sub A1 B1 → CSt g A1 B1 κ → f i κ = some (some d) → J.go i B1 ∧ ∀ x B2, J.yld i B1 x B2 → ∃ A2, Grow A1 B1 A2 B2 ∧ Rp g A2 x d
  stop : ∀ (i : Nat) (A1 B1 : Hp) (κ : Cells), Same A A1 → Sub A1 B1 → CSt g A1 B1 κ → f i κ = some none → J.stop i B1
abbrev QDG (X : Cx) (ca : Str → Addr) (W : WX) (tg iter : Expr) (it : Sc Stp) : Prop := PI X tg iter (tC ⟨X.K, ca, X.w⟩ W (ItC ⟨X.K, ca, X.w⟩) it)
def stL (n : Nat) : Stp := fun i κ => match κ[n]? with
  | some (.lst ds) => some ds[i]?
  | _ => none
def stE (n : Nat) : Stp := fun i κ => match κ[n]? with
  | some (.lst ds) => some (ds[i]?.map fun d => .tup [.int (i : Nat), d])
  | _ => none
def stEf (ds : List D) : Stp := fun i _ => some (ds[i]?.map fun d => .tup [.int (i : Nat), d])
theorem stE_ok {g : G} {A : Hp} {l : Addr} {n : Nat} (m : A l = some (cmk n)) : ItC g A (Ite g.K l) (stE n) where
  go := fun i d A1 B1 κ s0 s1 c e => by
    have m1 := s0 _ _ m
    unfold stE at e
    cases e1 : κ[n]? with
    | none => rw [e1] at e; cases e
    | some x =>
      rw [e1] at e
      cases x with
      | lst ds =>
        have e2 : (ds[i]?.map fun d => D.tup [.int (i : Nat), d]) = some d := Option.some.inj e
        cases e3 : ds[i]? with
        | none => rw [e3] at e2; cases e2
        | some d0 =>
          rw [e3] at e2
          cases e2
          obtain ⟨vs, h1, h2⟩ := cellL c m1 e1
          obtain ⟨v, h3, h4⟩ := h2.get e3
          refine ⟨⟨vs, v, .inl (.inl h1), h3⟩, fun x B2 ⟨T, y, hx, hT, hB, hy⟩ => ?_⟩
          subst hB
          have := hy vs (.inl (.inl h1))
          rw [h3] at this
          cases this
          subst hx
          have gn := Grow.new (o := .tup [.int (i : Nat), v]) s1 hT
          exact ⟨_, gn, .tup (SqT.of upd_same) (.cons (.int _) (.one (h4.mono gn.up0)))⟩
      | _ => cases e
  stop := fun i A1 B1 κ s0 s1 c e => by
    have m1 := s0 _ _ m
    unfold stE at e
    cases e1 : κ[n]? with
    | none => rw [e1] at e; cases e
    | some x =>
      rw [e1] at e
      cases x with
      | lst ds =>
        have e2 : (ds[i]?.map fun d => D.tup [.int (i : Nat), d]) = none := Option.some.inj e
        have e3 : ds[i]? = none := by
          cases z : ds[i]? with
          | none => rfl
          | some d => rw [z] at e2; cases e2
        obtain ⟨vs, h1, h2⟩ := cellL c m1 e1
        exact ⟨vs, .inl (.inl h1), by rw [h2.length]; exact List.getElem?_eq_none_iff.mp e3⟩
      | _ => cases e
theorem stEf_ok {g : G} {A : Hp} {l : Addr} {vs : List V} {ds : List D} (q : Rd A l (.lst vs)) (r : RpA g A vs ds) : ItC g A (Ite g.K l) (stEf ds) where
  go := fun i d A1 B1 κ s0 s1 c e => by
    have q1 : SqL g.K B1 l vs := .inl (rdL_in (Sub.to s0 s1) q)
    unfold stEf at e
    have e2 : (ds[i]?.map fun d => D.tup [.int (i : Nat), d]) = some d := Option.some.inj e
    cases e3 : ds[i]? with
    | none => rw [e3] at e2; cases e2
    | some d0 =>
      rw [e3] at e2
      cases e2
      obtain ⟨v, h3, h4⟩ := r.get e3
      refine ⟨⟨vs, v, q1, h3⟩, fun x B2 ⟨T, y, hx, hT, hB, hy⟩ => ?_⟩
      subst hB
      have := hy vs q1
      rw [h3] at this
      cases this
      subst hx
      have gn := Grow.new (o := .tup [.int (i : Nat), v]) s1 hT
      exact ⟨_, gn, .tup (SqT.of upd_same) (.cons (.int _) (.one ((h4.mono s0).mono gn.up0)))⟩
  stop := fun i A1 B1 κ s0 s1 c e => by
    unfold stEf at e
    have e2 : (ds[i]?.map fun d => D.tup [.int (i : Nat), d]) = none := Option.some.inj e
    have e3 : ds[i]? = none := by
      cases z : ds[i]? with
      | none => rfl
      | some d => rw [z] at e2; cases e2
    exact ⟨vs, .inl (rdL_in (Sub.to s0 s1) q), by rw [r.length]; exact List.getElem?_eq_none_iff.mp e3⟩
def forG (gt : D → Sm → Res Sm) (b : Sn) (f : Stp) : Nat → Nat → Sn
  | 0, _, _, _ => .bad
  | m + 1, i, δ, κ => match f i κ with
    | some (some d) => (match gt d δ with
      | .ok δ1 => (match b δ1 κ with
        | .nx δ2 κ2 => forG gt b f m (i + 1) δ2 κ2
        | .ct δ2 κ2 => forG gt b f m (i + 1) δ2 κ2
        | .bk δ2 κ2 => .nx δ2 κ2
        | .rt r κ2 => .rt r κ2
        | .xc c fs δ2 κ2 => .xc c fs δ2 κ2
        | .bad => .bad)
      | _ => .bad)
    | some none => .nx δ κ
    | none => .bad
def nForG (it : Sc Stp) (gt : D → Sm → Res Sm) (b : Sn) : Sn := fun δ κ => (it δ κ).out δ fun f κ => forG gt b f fuelTop 0 δ κ
section
variable {X : Cx} {ca : Str → Addr} {W : WX} {tg iter : Expr} {it : Sc Stp} {gt : D → Sm → Res Sm} {m : Sn} {body : List Stmt} {tgr : TG} {vs : List Nat} {pos : Pos}
theorem qds_forG (hp : PassesOwn (model X.prog X.w) X.A X.env X.xe) (hc : X.calm = true) (hi : QDG X ca W tg iter it) (hg : PG X tg tgr) (hgo : GOk ⟨X.K, ca, X.w⟩ vs tgr gt) (hb : QDSs X ca W body m) (hs : ∀ x, foldedSetIterable iter X.env x = pure x := by intro _; rfl) :
    QDS X ca W (.For tg iter body [] pos) (nForG it gt m) := by
  refine psI (ps_for hp hc hi hg hb hs) fun E σ H h => ?_
  obtain ⟨Hc, H0c, H0, δ, κ, S, p⟩ := h
  refine Post2.out S p fun J f κ1 A B w S1 its p1 => ?_
  have p1' := PostS2.rebase S1 p1
  refine ⟨fun i mm σ H => ∃ A1 δ1 κ1, Stc ⟨X.K, ca, X.w⟩ Hc A A1 H σ δ1 κ1 ∧ PostS2 ⟨X.K, ca, X.w⟩ W Hc A E (forG gt m f mm i δ1 κ1), ⟨fuelTop, A, δ, κ1, S1.rebase, p1'⟩, ?_⟩
  rintro i mm σ2 H2 ⟨A1, δ1, κ2, S2, p2⟩
  cases mm with
  | zero => exact p2.elim
  | succ mm =>
    unfold forG at p2
    cases e : f i κ2 with
    | none => simp only [e] at p2; exact p2.elim
    | some od =>
      cases od with
      | none =>
        simp only [e] at p2
        exact .inl ⟨its.stop i A1 H2 κ2 S2.gr.up0 S2.s0 S2.cs e, p2 σ2 A1 H2 S2⟩
      | some d =>
        simp only [e] at p2
        refine .inr ?_
        obtain ⟨g1, g2⟩ := its.go i d A1 H2 κ2 S2.gr.up0 S2.s0 S2.cs e
        refine ⟨g1, fun σ' H' => ∃ A1 δ1 κ1, Stc ⟨X.K, ca, X.w⟩ Hc A A1 H' σ' δ1 κ1 ∧ PostS2 ⟨X.K, ca, X.w⟩ W Hc A E (forG gt m f mm (i + 1) δ1 κ1), fun σ' H' z => ⟨mm, Nat.lt_succ_self _, z⟩, fun x H3 y => ?_⟩
        obtain ⟨A2, w2, r2⟩ := g2 x H3 y
        cases e1 : gt d δ1 with
        | ok δ2 =>
          simp only [e1] at p2
          have S3 := S2.grow w2.grw (S2.cs.grow w2)
          refine hgo.two Hc A A2 H3 κ2 σ2 δ1 x d δ2 _ S3 r2 e1 fun σ3 _ S4 => ?_
          refine ⟨Hc, A, A2, δ2, κ2, S4, ?_⟩
          cases e2 : m δ2 κ2 with
          | nx δ3 κ3 =>
            simp only [e2] at p2
            exact fun σ4 A4 H4 S4 => ⟨A4, δ3, κ3, S4, p2⟩
          | ct δ3 κ3 =>
            simp only [e2] at p2
            exact fun σ4 A4 H4 S4 => ⟨A4, δ3, κ3, S4, p2⟩
          | bk δ3 κ3 => simp only [e2] at p2; exact p2
          | rt d κ3 => simp only [e2] at p2; exact p2
          | xc c fs δ3 κ3 => simp only [e2] at p2; exact p2
          | bad => simp only [e2] at p2; exact p2
        | xc c fs => simp only [e1] at p2; exact p2.elim
        | bad => simp only [e1] at p2; exact p2.elim
def zStL (f : Sc D) : Sc Stp := fun δ κ => (f δ κ).bind fun d κ => match d with
  | .loc n => (match κ[n]? with
    | some (.lst _) => .ok (stL n) κ
    | _ => .bad)
  | _ => .bad
def zStE (fl : Sc (List D)) : Sc Stp := fun δ κ => (fl δ κ).bind fun ds κ => match ds with
  | [.loc n] => (match κ[n]? with
    | some (.lst _) => .ok (stE n) κ
    | _ => .bad)
  | [.lst ds] => .ok (stEf ds) κ
  | _ => .bad
variable {a : Expr} {fa : Sc D} {fl : Sc (List D)} {p : Pos}
theorem qdg_enum {elts : List Expr} {kk : Nat} {tpos : Pos} (hm : X.mg "enumerate" = none) (ha : QDA X ca W [a] fl) (hg : Gl X "enumerate" := by rfl) (hs : starEach [a] X.env = [(false, eval a X.env)] := by rfl) : QDG X ca W (.Tuple elts kk tpos) (.Call (.Name "enumerate" p) [a] [] pos) (zStE fl) := by
  refine piI (pi_enum hg hm ha hs) fun σ H R h => ?_
  obtain ⟨Hc, H0c, H0, δ, κ, S, p⟩ := h
  refine Post2.bind S p fun xs ds κ1 A B w S1 r p1 => ?_
  cases r with
  | nil => exact p1.elim
  | cons q r =>
    cases r with
    | cons q2 r2 => cases q <;> exact p1.elim
    | nil =>
      cases q with
      | @loc l n q =>
        have p2 : Post2 ⟨X.K, ca, X.w⟩ W σ A B (ItC ⟨X.K, ca, X.w⟩) R (match κ1[n]? with
          | some (.lst _) => .ok (stE n) κ1
          | _ => .bad) := p1
        cases e : κ1[n]? with
        | none => rw [e] at p2; exact p2.elim
        | some c =>
          rw [e] at p2
          cases c with
          | lst ds =>
            obtain ⟨vs, h1, h2⟩ := cellL S1.cs q e
            exact ⟨l, vs, rfl, .inl (.inl h1), Post2.now S1 p2 (stE_ok q)⟩
          | _ => exact p2.elim
      | @lst l vs ds q r => exact ⟨l, vs, rfl, .inl (rdL_in S1.s0 q), Post2.now S1 p1 (stEf_ok q r)⟩
      | _ => exact p1.elim
end
end Pd

set_option Elab.async false
set_option linter.all false
set_option maxRecDepth 100000
set_option maxHeartbeats 4000000
namespace Pd
open PySem L2
def lcG (gt : D → Sm → Res Sm) (t : Sc Bool) (e : Sc D) (δ0 : Sm) (f : Stp) : Nat → Nat → Cells → Rk (List D)
  | 0, _, _ => .bad
  | m + 1, i, κ => match f i κ with
    | some none => .ok [] κ
    | some (some d) => (match gt d δ0 with
      | .ok δ1 => (match t δ1 κ with
        | .ok true κ1 => (match e δ1 κ1 with
          | .ok r κ2 => (match lcG gt t e δ0 f m (i + 1) κ2 with
            | .ok rs κ3 => .ok (r :: rs) κ3
            | _ => .bad)
          | _ => .bad)
        | .ok false κ1 => lcG gt t e δ0 f m (i + 1) κ1
        | _ => .bad)
      | _ => .bad)
    | none => .bad
def lcFuel : Nat := 16777216
def lcRG (it : Sc Stp) (gt : D → Sm → Res Sm) (t : Sc Bool) (e : Sc D) (vs : List Nat) : Sc (List D) := fun δ κ => (it δ κ).bind fun f κ => (match lcG gt t e ((wipeD vs δ).map hideO) f lcFuel 0 κ with
  | .ok rs κ => .ok rs κ
  | _ => .bad)
def zLcG (it : Sc Stp) (gt : D → Sm → Res Sm) (t : Sc Bool) (e : Sc D) (vs : List Nat) : Sc D := fun δ κ => (lcRG it gt t e vs δ κ).bind fun rs κ => .ok (.lst rs) κ
def zLcGC (it : Sc Stp) (gt : D → Sm → Res Sm) (t : Sc Bool) (e : Sc D) (vs : List Nat) : Sc D := fun δ κ => (lcRG it gt t e vs δ κ).bind fun rs κ => .ok (.loc κ.length) (κ ++ [.lst rs])
section
variable {X : Cx} {ca : Str → Addr} {W : WX} {elt tg iter : Expr} {ifs : List Expr} {scope : Scope} {own : List (Str × Nat)} {it : Sc Stp} {gt : D → Sm → Res Sm} {t : Sc Bool} {fe : Sc D} {tgr : TG} {pos : Pos}
variable {i : Nat} {y : Str} {py spos : Pos}
end
end Pd

set_option Elab.async false
set_option linter.all false
set_option maxRecDepth 100000
set_option maxHeartbeats 4000000
namespace Pd
open PySem L2
section
variable {g : G} {Hc H0c H0 H : Hp} {σ : St} {δ : Sm} {κ : Cells} {d : Addr} {n : Nat} {ks vs : List D} {kvs : List (Key × V)}
end
def unlk (n : Nat) (ks vs : List D) : Ot → Ot
  | .nx δ κ => .nx δ (κ.set n (.dct ks vs))
  | .rt d κ => .rt d (κ.set n (.dct ks vs))
  | .bk δ κ => .bk δ (κ.set n (.dct ks vs))
  | .ct δ κ => .ct δ (κ.set n (.dct ks vs))
  | .xc _ _ _ _ => .bad
  | .bad => .bad
def forD (gt : D → Sm → Res Sm) (b : Sn) (n : Nat) (δ : Sm) (d : D) (κ : Cells) : Ot := match d with
  | .loc n' => if n' = n then (match κ[n]? with
    | some (.dcf ks _) => forC gt b ks δ κ
    | _ => .bad) else .bad
  | _ => .bad
def nForD (fo : Sc D) (gt : D → Sm → Res Sm) (b : Sn) : Sn := fun δ κ => match fo δ κ with
  | .ok (.loc n) _ => (match κ[n]? with
    | some (.dct ks vs) => unlk n ks vs ((fo δ (κ.set n (.dcf ks vs))).out δ (forD gt b n δ))
    | _ => .bad)
  | _ => .bad
section
variable {X : Cx} {ca : Str → Addr} {W : WX} {tg o : Expr} {fo : Sc D} {gt : D → Sm → Res Sm} {b : Sn} {body : List Stmt} {tgr : TG} {vs : List Nat} {pos : Pos}
end
end Pd

set_option Elab.async false
set_option linter.all false
set_option maxRecDepth 100000
set_option maxHeartbeats 4000000
namespace Pd
open PySem L2
section
open PySem.SeqAt PyProof.Rows
open AutoSeq1 (wpAny_loadPart')
variable {prog : Program} {w : World} {A : Around} {E : Value → Shared → Prop} {s : Shared} {K : PySem.W.Frag} {x y C f : Addr} {ox oy : Obj} {od ody : Option Obj}
end
end Pd

set_option Elab.async false
set_option linter.all false
set_option maxRecDepth 100000
set_option maxHeartbeats 4000000
namespace Pd
open PySem L2
variable {vn : Bool}
def negB : Rk D → Rk D
  | .ok (.bl b) κ => .ok (.bl (!b)) κ
  | _ => .bad
def kNeO (Ms : List (Str × Fc)) (a b : D) (κ : Cells) : Rk D := match insOf κ a, insOf κ b with
  | some (C, _), some (C', _) => if C' = C then (match Ms.lookup C with
    | some fm => negB (spAns isBl (fm [a, b] κ))
    | none => .bad) else .bad
  | _, _ => .bad
def rNeO (g : G) (Ms : List (Str × Fc)) : R2 := fun x y H Q => ∃ H0 κ d d' C fs fs' fm, Sub H0 H ∧ CSt g H0 H κ ∧ Rp g H0 x d ∧ Rp g H0 y d' ∧ insOf κ d = some (C, fs) ∧ insOf κ d' = some (C, fs') ∧ (C, fm) ∈ Ms ∧ Post2 g W0 [] H0 H (Rp g) Q (negB (spAns isBl (fm [d, d'] κ)))
section
variable {X : Cx} {ca : Str → Addr} {k : Nat} {Ms : List (Str × Fc)}
structure ClsE (K : PySem.W.Frag) (ca : Str → Addr) (C : Str) : Prop where
  ob : PySem.W.mroIn K (ca C) (.type "object") = some true
  ne : PySem.W.findIn K (.ref (ca C)) "__ne__" = some (some (.builtin "object.__ne__"))
def clseB (K : PySem.W.Frag) (c : Str) : Bool := He.eqO (PySem.W.findIn K (.ref (He.ga K c)) "__ne__") (some (some (.builtin "object.__ne__")))
variable {W : WX} {a b : Expr} {fa fb : Sc D} {pos : Pos}
end
section
open PySem.SeqAt PyProof.Rows
open AutoSeq1 (wpAny_loadPart')
end
end Pd

set_option Elab.async false
set_option linter.all false
set_option maxRecDepth 100000
set_option maxHeartbeats 4000000
namespace Pd
open PySem L2
variable {vn : Bool}
section
open PySem.SeqAt PyProof.Rows
open AutoSeq1 (wpAny_loadPart')
end
def okIt (κ : Cells) (d : D) : Bool := match d with
  | .loc n => (match κ[n]? with
    | some (.dct _ _) => true
    | _ => false)
  | d => plIt d
def ninO (fm : Fc) (C : Str) (x : D) : List D → Cells → Rk D
  | [], κ => .ok (.bl true) κ
  | d :: ds, κ => match insOf κ x with
    | some (C', _) => if C' = C ∧ okIt κ d = true then (match spAns isBl (fm [x, d] κ) with
      | .ok (.bl true) κ' => .ok (.bl false) κ'
      | .ok (.bl false) κ' => ninO fm C x ds κ'
      | _ => .bad) else .bad
    | none => .bad
def kNinO (Ms : List (Str × Fc)) (a b : D) (κ : Cells) : Rk D := match insOf κ a with
  | some (C, _) => (match Ms.lookup C, b with
    | some fm, .lst ds => ninO fm C a ds κ
    | _, _ => .bad)
  | none => .bad
structure ClsD (K : PySem.W.Frag) (ca : Str → Addr) (C : Str) : Prop where
  n : ClsN K ca C
  d : PySem.W.subIn K (.ref (ca C)) (.type "dict") = some false
def clsdB (K : PySem.W.Frag) (c : Str) : Bool := clsnB K c && decide (PySem.W.subIn K (.ref (He.ga K c)) (.type "dict") = some false)
def rNinO (g : G) (Ms : List (Str × Fc)) : R2 := fun x y H Q => ∃ H0 κ d C fm l vs ds, Sub H0 H ∧ CSt g H0 H κ ∧ Rp g H0 x d ∧ y = .ref l ∧ Rd H0 l (.lst vs) ∧ RpA g H0 vs ds ∧ (∃ fs, insOf κ d = some (C, fs)) ∧ (C, fm) ∈ Ms ∧ Post2 g W0 [] H0 H (Rp g) Q (ninO fm C d ds κ)
section
variable {X : Cx} {ca : Str → Addr} {k : Nat} {Ms : List (Str × Fc)}
variable {W : WX} {a b : Expr} {fa fb : Sc D} {pos : Pos}
end
end Pd

set_option Elab.async false
set_option linter.all false
set_option maxRecDepth 100000
set_option maxHeartbeats 4000000
namespace Pd
open PySem L2
def dBm (k : D → List D → Cells → Rk D) (fl : Sc (List D)) (δ : Sm) (d : D) (κ : Cells) : Rk D := match lstOf κ d with
  | some _ => (fl δ κ).bind fun ds κ => k d ds κ
  | none => .bad
theorem zBmL_eq (k : D → List D → Cells → Rk D) (fo : Sc D) (fl : Sc (List D)) (δ : Sm) (κ : Cells) : zBmL k fo fl δ κ = (fo δ κ).bind (dBm k fl δ) := Eq.trans rfl rfl
theorem lstOf_loc {n : Nat} {κ : Cells} {ds : List D} (h : κ[n]? = some (.lst ds)) : lstOf κ (.loc n) = some ds := by
  unfold lstOf lstR
  dsimp only
  rw [h]
theorem dBm_ok {k : D → List D → Cells → Rk D} {fl : Sc (List D)} {δ : Sm} {n : Nat} {κ : Cells} {ds : List D} (h : κ[n]? = some (.lst ds)) : dBm k fl δ (.loc n) κ = (fl δ κ).bind (k (.loc n)) := by
  unfold dBm
  rw [lstOf_loc h]
theorem kChg_ok {f : List D → List D → Option (D × List D)} {n : Nat} {as ds ds' : List D} {r : D} {κ : Cells} (h : κ[n]? = some (.lst ds)) (e : f ds as = some (r, ds')) : kChg f (.loc n) as κ = .ok r (κ.set n (.lst ds')) := by
  unfold kChg
  dsimp only
  rw [h]
  dsimp only
  rw [e]
theorem fApp_ok {ds : List D} {x : D} (h : ds.length ≤ 1000000) : fApp ds [x] = some (.non, ds ++ [x]) := by
  unfold fApp
  simp only [show ds.length < 16777216 by omega, if_true]
def dL3 (δ : Sm) (v x y : D) (κ : Cells) : Ot := match x, y with
  | .loc n, .int i => (match κ[n]? with
    | some (.lst ds) => (match ixN ds.length i with
      | some j => .nx δ (κ.set n (.lst (ds.set j v)))
      | none => .bad)
    | _ => .bad)
  | _, _ => .bad
def dL2 (fy : Sc D) (δ : Sm) (v x : D) (κ : Cells) : Ot := (fy δ κ).out δ (dL3 δ v x)
def dL (fo fy : Sc D) (δ : Sm) (v : D) (κ : Cells) : Ot := (fo δ κ).out δ (dL2 fy δ v)
theorem nLput_eq (fo fy fv : Sc D) (δ : Sm) (κ : Cells) : nLput fo fy fv δ κ = (fv δ κ).out δ (dL fo fy δ) := Eq.trans rfl rfl
theorem dL_eq (fo fy : Sc D) (δ : Sm) (v : D) (κ : Cells) : dL fo fy δ v κ = (fo δ κ).out δ (dL2 fy δ v) := Eq.trans rfl rfl
theorem dL2_eq (fy : Sc D) (δ : Sm) (v x : D) (κ : Cells) : dL2 fy δ v x κ = (fy δ κ).out δ (dL3 δ v x) := Eq.trans rfl rfl
theorem kIx2_ok {n : Nat} {i : Int} {κ : Cells} {ds : List D} {d : D} (h : κ[n]? = some (.lst ds)) (e : atD ds i = .ok d) : kIx2 (.loc n) (.int i) κ = .ok d κ := by
  unfold kIx2
  rw [lstOf_loc h]
  dsimp only
  rw [e]
  rfl
theorem kIx2_tup (ds : List D) (i : Int) (κ : Cells) : kIx2 (.tup ds) (.int i) κ = (atD ds i).at κ := Eq.trans rfl rfl
theorem kIx2_lst (ds : List D) (i : Int) (κ : Cells) : kIx2 (.lst ds) (.int i) κ = (atD ds i).at κ := Eq.trans rfl rfl
theorem kLen2_loc {n : Nat} {κ : Cells} {ds : List D} (h : κ[n]? = some (.lst ds)) : kLen2 [.loc n] κ = .ok (.int ds.length) κ := by
  unfold kLen2
  dsimp only
  rw [lstOf_loc h]
theorem kNewL_ok {ds : List D} {κ : Cells} (h : ds.length ≤ 16777216) : kNewL ds κ = .ok (.loc κ.length) (κ ++ [.lst ds]) := if_pos h
theorem unlk_nx (n : Nat) (ks vs : List D) (δ : Sm) (κ : Cells) : unlk n ks vs (.nx δ κ) = .nx δ (κ.set n (.dct ks vs)) := Eq.trans rfl rfl
end Pd

set_option Elab.async false
set_option linter.all false
set_option maxRecDepth 100000
set_option maxHeartbeats 4000000
namespace Pd
open PySem PySem.Spec PyProof.Rows L2 LamX
variable {vn : Bool}
section
variable {X : Cx} {pins : List (Addr × Obj)} {σ : L2.St} {H : Hp} {s : Shared}
def TabK (H : Hp) (q : Str) (ps : Array Value) : Prop := TriplesOk ps.toList ∧ ∀ (pos : Pos) (cv : Value), codeAmong pos ps.toList = some cv → ∃ c, cv = .ref c ∧ H c = some (CodeO c q)
end
section
variable {X : Cx} {pins : List (Addr × Obj)} {σ : L2.St} {H : Hp} {s : Shared}
def lamCv (vn : Bool) (X : Cx) (A : Around) (outer : List Env) (s : Shared) (H : Hp) (E : XK) (scope : Scope) (f c' : Addr) : Cx :=
  { lamCx X A outer s H E scope f c' with xe := fun e s' => wpAny (model X.prog X.w) (A.deeper (lamEnv X scope s.heap.objs.size f c')) (leaving (lamEnv X scope s.heap.objs.size f c') e) (fun _ s'' => CXv vn X.prog X.w outer H s E e s'') (fun e' s'' => CXv vn X.prog X.w outer H s E e' s'') s' }
end
end Pd

set_option Elab.async false
set_option linter.all false
set_option maxRecDepth 100000
set_option maxHeartbeats 4000000
namespace Pd
open PySem PySem.Spec PyProof.Rows L2 LamX
variable {vn : Bool}
def rcvK (kk : D → D) (rs : List Str) (cl : List Cl2) (nS : Nat) : Rk D → Rk D
  | .ok v κ => .ok (kk v) κ
  | .xc c fs κ => if c ∈ rs then (match pickC2 cl c fs (List.replicate nS .no) κ with
    | .rt d κ' => .ok d κ'
    | _ => .bad) else .bad
  | .bad => .bad
def zLam (n : Nat) (mk q : Str) (kk : D → D) (rs : List Str) (cl : List Cl2) (nS : Nat) (fb : Sc D) : Sc D := fun δ κ => match κ[n]? with
  | some (.tab mk' q') => if mk' = mk ∧ q' = q then rcvK kk rs cl nS (fb δ κ) else .bad
  | _ => .bad
theorem codeO_nk {c : Addr} {q : Str} (n : Nat) : CodeO c q ≠ cmk n := fun z => by
  unfold CodeO cmk at z
  cases z
section
variable {g : G} {Hc H0c H0 H : Hp} {σ : L2.St} {δ : Sm} {κ : Cells} {n : Nat} {mk q : Str}
theorem tab_at (c : CSt g H0 H κ) (e : κ[n]? = some (.tab mk q)) : ∃ ps, H0 (tabA g.K mk) = some (cmk n) ∧ H (tabA g.K mk) = some (.tbl ps) ∧ TriplesOk ps.toList ∧ ∀ (pos : Pos) (cv : Value), codeAmong pos ps.toList = some cv → ∃ c, cv = .ref c ∧ H0 c = some (CodeO c q) := by
  have m := c.tb n mk q e
  obtain ⟨a, o, h1, h2, h3⟩ := c.at_ n _ e
  have ea := c.un a _ n h1 m
  subst ea
  cases h3 with
  | tab t k => exact ⟨_, m, h2, t, k⟩
theorem Stc.code (S : Stc g Hc H0c H0 H σ δ κ) (e : κ[n]? = some (.tab mk q)) {c' : Addr} {ps m : Array Value} (h0 : H (tabA g.K mk) = some (.tbl ps)) (hc : H c' = none) (ht : TriplesOk (ps ++ m).toList)
    (ho : ∀ (pos : Pos) (cv : Value), codeAmong pos ps.toList = some cv → ∃ c, cv = .ref c ∧ H0 c = some (CodeO c q)) (hn : ∀ (pos : Pos) (cv : Value), codeAmong pos (ps ++ m).toList = some cv → codeAmong pos ps.toList = some cv ∨ cv = .ref c') :
    Grw H0 H (upd H0 c' (CodeO c' q)) (upd (upd H (tabA g.K mk) (.tbl (ps ++ m))) c' (CodeO c' q)) ∧ CSt g (upd H0 c' (CodeO c' q)) (upd (upd H (tabA g.K mk) (.tbl (ps ++ m))) c' (CodeO c' q)) κ := by
  have mP := S.cs.tb n mk q e
  have nP : tabA g.K mk ≠ c' := fun z => by
    rw [z, hc] at h0
    cases h0
  have w1 := Grw.put (o := .tbl (ps ++ m)) S.s0 mP h0
  have hc1 : upd H (tabA g.K mk) (.tbl (ps ++ m)) c' = none := by
    rw [upd_ne (Ne.symm nP)]
    exact hc
  have gn := Grow.new (o := CodeO c' q) w1.sub hc1 codeO_nk
  refine ⟨w1.trans gn.grw, ⟨fun i x ei => ?_, fun b i hb => S.cs.bd b i (gn.nm b i hb), fun b d i h1 h2 => S.cs.un b d i (gn.nm b i h1) (gn.nm d i h2), fun i P q' ei => gn.up0 _ _ (S.cs.tb i P q' ei)⟩⟩
  obtain ⟨a, u, h1, h2, h3⟩ := S.cs.at_ i x ei
  by_cases z : a = tabA g.K mk
  · subst z
    have ein : i = n := cmk_inj (Option.some.inj (h1.symm.trans mP))
    subst ein
    rw [e] at ei
    cases ei
    refine ⟨_, .tbl (ps ++ m), gn.up0 _ _ mP, by rw [upd_ne nP, upd_same], .tab ht fun pos cv hcv => ?_⟩
    rcases hn pos cv hcv with y | y
    · obtain ⟨c0, y1, y2⟩ := ho pos cv y
      exact ⟨c0, y1, gn.up0 _ _ y2⟩
    · exact ⟨c', y, upd_same⟩
  · have ne : a ≠ c' := fun y => by
      rw [y, hc] at h2
      cases h2
    exact ⟨a, u, gn.up0 _ _ h1, by rw [upd_ne ne, upd_ne z]; exact h2, h3.up gn.up0⟩
end
section
variable {X : Cx} {ca : Str → Addr} {W : WX}
def retTup (tw : Str) : V → Hp → VK → Prop := fun v H Q => [V.str tw, v].length ≤ sizeLine ∧ ∀ p, H p = none → Q (.ref p) (upd H p (.tup [.str tw, v]))
end
end Pd

set_option Elab.async false
set_option linter.all false
set_option maxRecDepth 100000
set_option maxHeartbeats 4000000
namespace Pd
open PySem PySem.Spec PyProof.Rows L2 LamX
variable {vn : Bool}
structure RvE (K : PySem.W.Frag) (mg : Str → Option Value) (x : Str) (st : Stmt) (f : Addr) (fd : FuncData) : Prop where
  d : FunD K x x (defArgs st) (defBody st) (defScope st) [] [] f fd
  m : mg x = some (.ref f)
section
variable {P : Program} {w : World} {K : PySem.W.Frag} {mg : Str → Option Value} {base : Heap} {ca : Str → Addr} {x qual mk : Str} {params : Arguments} {body : List Stmt} {scope : Scope} {dvs : List V} {kws : List (Str × V)} {fd : FuncData} {N ps : List Str} {k n : Nat} {m : Sn}
theorem fn_mkL (F : FunD K x qual params body scope dvs kws (He.fAd K (mk, none)) fd) (S : FnScope N ps scope) (hn : N.length = ps.length + n)
    (hb : ∀ (cdv : Value) (A : Around) (outer : List Env) (s : Shared) (H : Hp) (E : XK), cdv = .ref (He.codeOf K (mk, none)) → Room k (A.deeper (PyProof.Rows.envOfC qual scope s.heap.objs.size (He.fAd K (mk, none)) cdv)) →
      QDSs (cxOf (CXv vn P w) P w K mg base N qual scope (He.fAd K (mk, none)) cdv A outer s H E) ca (fun cls d _ H' => E cls d H') body m) :
    FnOk P w K mg base (CXv vn P w) (k + 1) (He.fAd K (mk, none)) fd ps (spC ⟨K, ca, w⟩ ps.length (runC n m)) := by
  obtain ⟨oc, od, dV, kV, doc, pm, an, cdv, ct, osl, rfl, lk, hcd, _, _⟩ := F.ex
  obtain ⟨c, rfl⟩ := He.codeIn_ref hcd
  have ec := He.codeOf_eq lk (show (PySem.W.fnOf x qual params body scope dV kV doc pm an (.ref c) ct).code = .ref c from rfl)
  refine fn_of lk hcd S (fun vs H Q E h => ?_) (fun A outer s H vs Q E hr h => ⟨_, hb (.ref c) A outer s H E (by rw [ec]) hr, ?_⟩)
  · obtain ⟨H0, κ, ds, _, _, r, l, _⟩ := h
    rw [r.length, l]
  · obtain ⟨H0, κ, ds, s0, c0, r, l, p⟩ := h
    have el : N.length - vs.length = n := by
      rw [r.length, l, hn]
      omega
    refine ⟨H, H0, H0, ds.map O.sh ++ List.replicate n O.no, κ, ⟨⟨[], ?_, List.nodup_nil, fun a ha => nomatch ha⟩, c0, Grw.refl s0⟩, ?_⟩
    · unfold L2.start
      rw [el]
      exact sls_args r
    · unfold runC at p
      cases e : m (ds.map O.sh ++ List.replicate n O.no) κ with
      | nx δ κ' =>
        rw [e] at p
        exact fun σ A B S1 => p .non A B S1.gr S1.cs .non
      | rt d κ' =>
        rw [e] at p
        exact fun v A B w1 c1 r1 => p v A B w1 c1 r1
      | bk δ κ' => rw [e] at p; exact p.elim
      | ct δ κ' => rw [e] at p; exact p.elim
      | xc c fs δ κ' =>
        rw [e] at p
        exact fun ad fvs σ A B S1 q1 q2 => p ad fvs A B S1.gr S1.cs q1 q2
      | bad => rw [e] at p; exact p.elim
end
def tabs (mks : List (Str × Str)) : Cells := mks.map fun p => .tab p.1 p.2
theorem law_spL {K : PySem.W.Frag} {ca : Str → Addr} {w : World} {fm : Fc} (mks : List (Str × Str)) (hnd : (mks.map fun p => tabA K p.1).Nodup) (h : ∀ ns : List Int, ns.length ≤ 63 → ∃ κ, fm [.scr ns] (tabs mks) = .ok (.bl true) κ) (H : Hp) (a : Addr) (ns : List Int) (hl : ns.length ≤ 63)
    (hT : ∀ p ∈ mks, H (tabA K p.1) = some (.tbl #[])) (hS : SqL K H a (ns.map V.int)) : spC ⟨K, ca, w⟩ 1 fm [.ref a] H (fun v _ => v = .bl true) fun _ _ _ => False := by
  classical
  let as := mks.map fun p => tabA K p.1
  let H0 : Hp := fun b => if b ∈ as then some (cmk (as.idxOf b)) else if b = a ∧ Rd H a (.lst (ns.map V.int)) then H a else none
  have inT : ∀ b ∈ as, H b = some (.tbl #[]) := fun b hb => by
    obtain ⟨p, hp, rfl⟩ := List.mem_map.mp hb
    exact hT p hp
  have hin : ∀ b, b ∈ as → H0 b = some (cmk (as.idxOf b)) := fun b hb => if_pos hb
  have hout : ∀ b u, b ∉ as → H0 b = some u → b = a ∧ Rd H a (.lst (ns.map V.int)) ∧ H a = some u := fun b u hb e => by
    have e1 : (if b ∈ as then some (cmk (as.idxOf b)) else if b = a ∧ Rd H a (.lst (ns.map V.int)) then H a else none) = some u := e
    rw [if_neg hb] at e1
    by_cases z : b = a ∧ Rd H a (.lst (ns.map V.int))
    · rw [if_pos z] at e1
      exact ⟨z.1, z.2, e1⟩
    · rw [if_neg z] at e1
      cases e1
  have noM : ∀ b n, b ∉ as → H0 b ≠ some (cmk n) := fun b n hb e => by
    obtain ⟨_, r, e1⟩ := hout b _ hb e
    rcases r with y | ⟨o, y⟩ <;> rw [y] at e1 <;> cases Option.some.inj e1
  have num : ∀ b n, H0 b = some (cmk n) → b ∈ as ∧ as.idxOf b = n := fun b n e => by
    by_cases hb : b ∈ as
    · rw [hin b hb] at e
      exact ⟨hb, cmk_inj (Option.some.inj e)⟩
    · exact absurd e (noM b n hb)
  have atn : ∀ n mk q, (tabs mks)[n]? = some (.tab mk q) → tabA K mk ∈ as ∧ as.idxOf (tabA K mk) = n := fun n mk q e => by
    unfold tabs at e
    rw [List.getElem?_map] at e
    cases e1 : mks[n]? with
    | none => rw [e1] at e; cases e
    | some p =>
      rw [e1] at e
      cases e
      have e2 : as[n]? = some (tabA K p.1) := by
        show (mks.map fun p => tabA K p.1)[n]? = _
        rw [List.getElem?_map, e1]
        rfl
      obtain ⟨h1, h2⟩ := List.getElem?_eq_some_iff.mp e2
      refine ⟨h2 ▸ List.getElem_mem h1, ?_⟩
      rw [← h2]
      exact List.Nodup.idxOf_getElem hnd n h1
  have sub : Sub H0 H := fun b u e => by
    by_cases hb : b ∈ as
    · rw [hin b hb] at e
      exact .inr ⟨⟨_, (Option.some.inj e).symm⟩, by rw [inT b hb]; exact fun z => nomatch z⟩
    · obtain ⟨rfl, _, e1⟩ := hout b u hb e
      exact .inl e1
  have cst : CSt ⟨K, ca, w⟩ H0 H (tabs mks) := by
    refine ⟨fun n c e => ?_, fun b n e => ?_, fun b d n e1 e2 => ?_, fun n mk q e => ?_⟩
    · have e0 := e
      unfold tabs at e0
      rw [List.getElem?_map] at e0
      cases e1 : mks[n]? with
      | none => rw [e1] at e0; cases e0
      | some p =>
        rw [e1] at e0
        cases e0
        obtain ⟨h1, h2⟩ := atn n p.1 p.2 e
        refine ⟨tabA K p.1, .tbl #[], by rw [hin _ h1, h2], inT _ h1, .tab (q := p.2) True.intro fun pos cv z => ?_⟩
        have z' : codeAmong pos [] = some cv := z
        simp [codeAmong] at z'
    · obtain ⟨h1, h2⟩ := num b n e
      rw [← h2]
      have := List.idxOf_lt_length_of_mem h1
      unfold tabs
      rw [List.length_map]
      have e3 : as.length = mks.length := List.length_map ..
      omega
    · obtain ⟨h1, h2⟩ := num b n e1
      obtain ⟨h3, h4⟩ := num d n e2
      have a1 := List.getElem_idxOf (List.idxOf_lt_length_of_mem h1)
      have a2 := List.getElem_idxOf (List.idxOf_lt_length_of_mem h3)
      have : as.idxOf b = as.idxOf d := by omega
      rw [← a1, ← a2]
      simp only [this]
    · obtain ⟨h1, h2⟩ := atn n mk q e
      rw [hin _ h1, h2]
  have scr : SqL K H0 a (ns.map V.int) := by
    rcases hS with y | y
    · have na : a ∉ as := fun z => by
        have := inT a z
        rcases y with y | ⟨o, y⟩ <;> rw [y] at this <;> cases Option.some.inj this
      have e : H0 a = H a := by
        show (if a ∈ as then some (cmk (as.idxOf a)) else if a = a ∧ Rd H a (.lst (ns.map V.int)) then H a else none) = H a
        rw [if_neg na, if_pos ⟨rfl, y⟩]
      rcases y with y | ⟨o, y⟩
      · exact .inl (.inl (e.trans y))
      · exact .inl (.inr ⟨o, e.trans y⟩)
    · exact .inr y
  refine ⟨H0, tabs mks, [.scr ns], sub, cst, .one (.scr scr), rfl, ?_⟩
  obtain ⟨κ, e⟩ := h ns hl
  rw [e]
  intro x A B w c r
  cases r with
  | bl b => rfl
theorem rcvK_ok (kk : D → D) (rs : List Str) (cl : List Cl2) (nS : Nat) (v : D) (κ : Cells) : rcvK kk rs cl nS (.ok v κ) = .ok (kk v) κ := Eq.trans rfl rfl
def asgK (κ : Cells) : Res Sm → Ot
  | .ok δ => .nx δ κ
  | _ => .bad
def dAsgC (gt : D → Sm → Res Sm) (δ : Sm) (d : D) (κ : Cells) : Ot := asgK κ (gt d δ)
theorem nAsg_eq (f : Sc D) (gt : D → Sm → Res Sm) (δ : Sm) (κ : Cells) : nAsg f gt δ κ = (f δ κ).out δ (dAsgC gt δ) := by
  unfold nAsg dAsgC asgK
  rfl
theorem dAsgC_eq (gt : D → Sm → Res Sm) (δ : Sm) (d : D) (κ : Cells) : dAsgC gt δ d κ = asgK κ (gt d δ) := Eq.trans rfl rfl
theorem asgK_ok (δ : Sm) (κ : Cells) : asgK κ (.ok δ) = .nx δ κ := Eq.trans rfl rfl
end Pd

set_option Elab.async false
set_option linter.all false
set_option maxRecDepth 100000
set_option maxHeartbeats 4000000
namespace Pd
open PySem L2
def zoNone : Sc (Option Int) := fun _ κ => .ok none κ
def zoSome (f : Sc D) : Sc (Option Int) := fun δ κ => (f δ κ).bind fun d κ => match d with
  | .int i => .ok (some i) κ
  | _ => .bad
def zSl (k : D → Option Int → Option Int → Res D) (f : Sc D) (lo hi : Sc (Option Int)) : Sc D := fun δ κ => (f δ κ).bind fun d κ => (lo δ κ).bind fun l κ => (hi δ κ).bind fun h κ => (k d l h).at κ
abbrev KSl (g : G) (r : V → Option Int → Option Int → Hp → VK → Prop) (k : D → Option Int → Option Int → Res D) : Prop :=
  ∀ (W : WX) (σ : St) (δ : Sm) (Hc H0c H0 H : Hp) (x : V) (d : D) (l h : Option Int) (Q : VK), Stt g Hc H0c H0 H σ δ → Rp g H0 x d → Post g W σ H0 H (Rp g) Q (k d l h) → r x l h H Q
section
variable {X : Cx} {ca : Str → Addr} {W : WX} {a b : Expr} {fa fb : Sc D} {lo hi : Option Expr} {fo fh : Sc (Option Int)} {pos p2 : Pos}
end
def eOix (i : Nat) (f : Sm → Res D) : Sm → Res D := fun δ => match δ[i]? with
  | some (.ol ds) => (f δ).bind fun y => kIx (.lst ds) y
  | _ => .bad
def mOput (i : Nat) (fi fv : Sm → Res D) : Sm → Out := fun δ => match δ[i]? with
  | some (.ol ds) => (fv δ).out δ fun v => (fi δ).out δ fun y => (match y with
    | .int k => (match ixN ds.length k with
      | some j => .nx (δ.set i (.ol (ds.set j v)))
      | none => .bad)
    | _ => .bad)
  | _ => .bad
def mSetLs (i : Nat) (f : Sm → Res (List D)) : Sm → Out := fun δ => (f δ).out δ fun ds => match ds with
  | [.lst xs] => .nx (δ.set i (.ol xs))
  | [.tup xs] => .nx (δ.set i (.ol xs))
  | _ => .bad
section
variable {X : Cx} {ca : Str → Addr} {W : WX} {a b value : Expr} {es : List Expr} {fa fi fv : Sm → Res D} {fl : Sm → Res (List D)} {pos p : Pos}
end
def zVals : List (Sc D) → Sc (List D)
  | [] => fun _ κ => .ok [] κ
  | f :: fs => fun δ κ => (f δ κ).bind fun d κ => (zVals fs δ κ).bind fun ds κ => .ok (d :: ds) κ
def zDisp (ks : List Str) (fs : List (Sc D)) : Sc D := fun δ κ => (zVals fs δ (κ ++ [.dct [] []])).bind fun ds κ1 => match κ1[κ.length]? with
  | some (.dct [] []) => if ks.Nodup ∧ ks.length = ds.length ∧ ks.length ≤ 15 then .ok (.loc κ.length) (κ1.set κ.length (.dct (ks.map .str) ds)) else .bad
  | _ => .bad
def dispT (g : G) (W : WX) : List Str → List (Sc D) → List (TE × TE)
  | k :: ks, f :: fs => (L2.tC (.str k), Pd.tC g W (Rp g) f) :: dispT g W ks fs
  | _, _ => []
inductive QDP (X : Cx) (ca : Str → Addr) (W : WX) (pos : Pos) : List (Option Expr) → List Expr → List Str → List (Sc D) → Prop
  | nil : QDP X ca W pos [] [] [] []
  | cons {x : Str} {j : Nat} {p : Pos} {e : Expr} {f : Sc D} {ks : List (Option Expr)} {es : List Expr} {xs : List Str} {fs : List (Sc D)} (h : QD X ca W e f) (r : QDP X ca W pos ks es xs fs) : QDP X ca W pos (some (.Constant (.str x) j p) :: ks) (e :: es) (x :: xs) (f :: fs)
end Pd

set_option Elab.async false
set_option linter.all false
set_option maxRecDepth 100000
set_option maxHeartbeats 4000000
namespace Pd
open PySem L2
theorem walk_lawL {l : PySem.W.OpenLaw} {k : Nat} {q : Program} {loose : List Str} {XP : (Str → Option Value) → Heap → Prop} {YP : World → Heap → Prop} {d : DefRec} {x : Str} (mks : List (Str × Str)) (e : d.name = "law")
    (hn : l.most = some 63) (hdf : d.params.defaults = []) (hr : Room k callerA)
    (F : ∀ (w : World) (mg : Str → Option Value) (fa : Addr) (h : Heap), YP w h → h.Ns mainGlobals mg → mg "law" = some (.ref fa) →
      ∃ (K : PySem.W.Frag) (fd : FuncData) (sp : Sp), K.In h ∧ (∀ p ∈ mks, h.get? (tabA K p.1) = some { cls := .none, data := .fields #[] }) ∧ (∀ p ∈ mks, K.lookup (tabA K p.1) = none) ∧ (∀ p ∈ mks, PySem.W.codeHdIn K (He.cT K (p.1, none)).1 (tabA K p.1) = true) ∧
        (∀ (s : Shared) (u : Value), BindsTo s fd ⟨[u], []⟩ [(x, u)]) ∧
        (∀ (H : Hp) (a : Addr) (ns : List Int), ns.length ≤ 63 → (∀ p ∈ mks, H (tabA K p.1) = some (.tbl #[])) → SqL K H a (ns.map V.int) → sp [.ref a] H (fun v _ => v = .bl true) fun _ _ _ => False) ∧
        ∀ base : Heap, K.In base → base.Ns mainGlobals mg → (∀ p ∈ mks, LamX.TabB base mg (He.cT K (p.1, none)).1 (tabA K p.1)) → FnOk l.prog w K mg base (L2.CX l.prog w) k fa fd [x] sp) :
    PySem.W.WalkO q loose XP YP l.row.toRowW d [] (fun f vs => PySem.call f vs) := by
  refine LamX.walk_ofTsE (CX := fun w => L2.CX l.prog w) (x := x) hn (by decide) hdf hr (fun w mg fa h Y G hmg => ?_) (fun w H s e s' z => cx_never H s e s' z)
  rw [e] at hmg
  obtain ⟨K, fd, sp, KX, h1, h2, h3, hb, hsp, hF⟩ := F w mg fa h Y G hmg
  have cv : ∀ {Pr : Addr × Addr → Prop}, (∀ p ∈ mks, Pr ((He.cT K (p.1, none)).1, tabA K p.1)) → ∀ p ∈ mks.map (fun p => ((He.cT K (p.1, none)).1, tabA K p.1)), Pr p := fun hh p hp => by
    obtain ⟨r, hr, rfl⟩ := List.mem_map.mp hp
    exact hh r hr
  have bk : ∀ {Pr : Addr × Addr → Prop}, (∀ p ∈ mks.map (fun p => ((He.cT K (p.1, none)).1, tabA K p.1)), Pr p) → ∀ p ∈ mks, Pr ((He.cT K (p.1, none)).1, tabA K p.1) := fun hh p hp => hh _ (List.mem_map_of_mem (f := fun p => ((He.cT K (p.1, none)).1, tabA K p.1)) hp)
  refine ⟨K, KX, fd, mks.map (fun p => ((He.cT K (p.1, none)).1, tabA K p.1)), sp, cv (Pr := fun p => h.get? p.2 = _) h1, cv (Pr := fun p => K.lookup p.2 = none) h2, cv (Pr := fun p => PySem.W.CodeHd h p.1 p.2) fun p hp => PySem.W.codeHd_of_K KX (h3 p hp), hb, fun H a ns hl _ hT hS => hsp H a ns hl (bk (Pr := fun p => H p.2 = some (.tbl #[])) hT) hS, fun base b1 b2 b3 => hF base b1 b2 (bk (Pr := fun p => LamX.TabB base mg p.1 p.2) b3)⟩
end Pd

set_option Elab.async false
set_option linter.all false
set_option maxRecDepth 100000
set_option maxHeartbeats 4000000
namespace Pd
open PySem L2
def toV : D → V
  | .bl b => .bl b
  | .int i => .int i
  | .str x => .str x
  | _ => .non
theorem Rp.toV {g : G} {H : Hp} {v : V} {d : D} (r : Rp g H v d) (f : Pd.flat d = true) : v = Pd.toV d ∧ flatV v = true := by
  cases r with
  | non => exact ⟨rfl, rfl⟩
  | bl b => exact ⟨rfl, rfl⟩
  | int i => exact ⟨rfl, rfl⟩
  | str x => exact ⟨rfl, rfl⟩
  | _ => cases f
theorem RpA.toV {g : G} {H : Hp} : ∀ {vs : List V} {ds : List D}, RpA g H vs ds → ds.all flat = true → vs = ds.map Pd.toV ∧ vs.all flatV = true
  | _, _, .nil, _ => ⟨rfl, rfl⟩
  | _, _, .cons q r, h => by
    rw [List.all_cons, Bool.and_eq_true] at h
    obtain ⟨h1, h2⟩ := q.toV h.1
    obtain ⟨h3, h4⟩ := RpA.toV r h.2
    rw [List.map_cons, List.all_cons, ← h1, ← h3, h2, h4]
    exact ⟨rfl, rfl⟩
def kInT : D → D → Res D
  | a, .tup ds => if (flat a && ds.all flat) = true then .ok (.bl (inV (toV a) (ds.map toV))) else .bad
  | _, _ => .bad
def kNotInT : D → D → Res D
  | a, .tup ds => if (flat a && ds.all flat) = true then .ok (.bl (!inV (toV a) (ds.map toV))) else .bad
  | _, _ => .bad
section
variable {X : Cx} {ca : Str → Addr}
end
def zRep (fl : Sc (List D)) (fk : Sc D) : Sc D := fun δ κ => (fl δ κ).bind fun ds κ => if ds.length ≤ 16777216 then (fk δ κ).bind fun k κ => (kRepD ds k).at κ else .bad
theorem zoNone_eq (δ : Sm) (κ : Cells) : zoNone δ κ = .ok none κ := Eq.trans rfl rfl
def oSomeC (d : D) (κ : Cells) : Rk (Option Int) := match d with
  | .int i => .ok (some i) κ
  | _ => .bad
theorem zoSome_eq (f : Sc D) (δ : Sm) (κ : Cells) : zoSome f δ κ = (f δ κ).bind oSomeC := Eq.trans rfl rfl
theorem oSomeC_eq (i : Int) (κ : Cells) : oSomeC (.int i) κ = .ok (some i) κ := Eq.trans rfl rfl
def slC3 (k : D → Option Int → Option Int → Res D) (d : D) (l h : Option Int) (κ : Cells) : Rk D := (k d l h).at κ
def slC2 (k : D → Option Int → Option Int → Res D) (hi : Sc (Option Int)) (δ : Sm) (d : D) (l : Option Int) (κ : Cells) : Rk D := (hi δ κ).bind (slC3 k d l)
def slC1 (k : D → Option Int → Option Int → Res D) (lo hi : Sc (Option Int)) (δ : Sm) (d : D) (κ : Cells) : Rk D := (lo δ κ).bind (slC2 k hi δ d)
theorem zSl_eq (k : D → Option Int → Option Int → Res D) (f : Sc D) (lo hi : Sc (Option Int)) (δ : Sm) (κ : Cells) : zSl k f lo hi δ κ = (f δ κ).bind (slC1 k lo hi δ) := Eq.trans rfl rfl
theorem slC1_eq (k : D → Option Int → Option Int → Res D) (lo hi : Sc (Option Int)) (δ : Sm) (d : D) (κ : Cells) : slC1 k lo hi δ d κ = (lo δ κ).bind (slC2 k hi δ d) := Eq.trans rfl rfl
theorem slC2_eq (k : D → Option Int → Option Int → Res D) (hi : Sc (Option Int)) (δ : Sm) (d : D) (l : Option Int) (κ : Cells) : slC2 k hi δ d l κ = (hi δ κ).bind (slC3 k d l) := Eq.trans rfl rfl
theorem slC3_eq (k : D → Option Int → Option Int → Res D) (d : D) (l h : Option Int) (κ : Cells) : slC3 k d l h κ = (k d l h).at κ := Eq.trans rfl rfl
end Pd

set_option Elab.async false
set_option linter.all false
set_option maxRecDepth 100000
set_option maxHeartbeats 4000000
namespace Pd
open PySem L2
def dRp3 (ds : List D) (k : D) (κ : Cells) : Rk D := (kRepD ds k).at κ
def dRp (fk : Sc D) (δ : Sm) (ds : List D) (κ : Cells) : Rk D := if ds.length ≤ 16777216 then (fk δ κ).bind (dRp3 ds) else .bad
theorem zRep_eq (fl : Sc (List D)) (fk : Sc D) (δ : Sm) (κ : Cells) : zRep fl fk δ κ = (fl δ κ).bind (dRp fk δ) := Eq.trans rfl rfl
theorem dRp_1 (fk : Sc D) (δ : Sm) (a : D) (κ : Cells) : dRp fk δ [a] κ = (fk δ κ).bind (dRp3 [a]) := Eq.trans rfl rfl
theorem dRp3_eq (ds : List D) (k : D) (κ : Cells) : dRp3 ds k κ = (kRepD ds k).at κ := Eq.trans rfl rfl
def cOix (ds : List D) (y : D) : Res D := kIx (.lst ds) y
theorem cOix_int (ds : List D) (i : Int) : cOix ds (.int i) = atD ds i := Eq.trans rfl rfl
def cOp2 (i : Nat) (δ : Sm) (ds : List D) (v y : D) : Out := match y with
  | .int k => (match ixN ds.length k with
    | some j => .nx (δ.set i (.ol (ds.set j v)))
    | none => .bad)
  | _ => .bad
def cOp1 (i : Nat) (fi : Sm → Res D) (δ : Sm) (ds : List D) (v : D) : Out := (fi δ).out δ (cOp2 i δ ds v)
theorem mOput_ol {i : Nat} {fi fv : Sm → Res D} {δ : Sm} {ds : List D} (h : δ[i]? = some (.ol ds)) : mOput i fi fv δ = (fv δ).out δ (cOp1 i fi δ ds) := by
  unfold mOput
  rw [h]
  rfl
theorem cOp1_eq (i : Nat) (fi : Sm → Res D) (δ : Sm) (ds : List D) (v : D) : cOp1 i fi δ ds v = (fi δ).out δ (cOp2 i δ ds v) := Eq.trans rfl rfl
def cSls (i : Nat) (δ : Sm) (ds : List D) : Out := match ds with
  | [.lst xs] => .nx (δ.set i (.ol xs))
  | [.tup xs] => .nx (δ.set i (.ol xs))
  | _ => .bad
theorem mSetLs_eq (i : Nat) (f : Sm → Res (List D)) (δ : Sm) : mSetLs i f δ = (f δ).out δ (cSls i δ) := Eq.trans rfl rfl
theorem cSls_lst (i : Nat) (δ : Sm) (xs : List D) : cSls i δ [.lst xs] = .nx (δ.set i (.ol xs)) := Eq.trans rfl rfl
def cOixF (f : Sm → Res D) (δ : Sm) (ds : List D) : Res D := (f δ).bind (cOix ds)
theorem cOixF_eq (f : Sm → Res D) (δ : Sm) (ds : List D) : cOixF f δ ds = (f δ).bind (cOix ds) := Eq.trans rfl rfl
theorem eOix_eq (i : Nat) (f : Sm → Res D) (δ : Sm) : eOix i f δ = (asOl δ[i]?).bind (cOixF f δ) := by
  show (match δ[i]? with | some (.ol ds) => (f δ).bind fun y => kIx (.lst ds) y | _ => .bad) = _
  cases h : δ[i]? with
  | none => rfl
  | some o => cases o <;> rfl
def cOpF (i : Nat) (fi fv : Sm → Res D) (δ : Sm) (ds : List D) : Out := (fv δ).out δ (cOp1 i fi δ ds)
theorem cOpF_eq (i : Nat) (fi fv : Sm → Res D) (δ : Sm) (ds : List D) : cOpF i fi fv δ ds = (fv δ).out δ (cOp1 i fi δ ds) := Eq.trans rfl rfl
theorem mOput_eq (i : Nat) (fi fv : Sm → Res D) (δ : Sm) : mOput i fi fv δ = (asOl δ[i]?).out δ (cOpF i fi fv δ) := by
  cases h : δ[i]? with
  | none =>
    unfold mOput
    rw [h]
    rfl
  | some o =>
    cases o with
    | ol ds =>
      rw [mOput_ol h]
      rfl
    | _ =>
      unfold mOput
      rw [h]
      rfl
end Pd

set_option Elab.async false
set_option linter.all false
set_option maxRecDepth 100000
set_option maxHeartbeats 4000000
namespace Pd
open PySem L2
section
variable {X : Cx} {ca : Str → Addr} {W : WX} {a b : Expr} {es : List Expr} {fa fb : Sc D} {fl : Sc (List D)} {tg : Expr} {pos p : Pos}
def kDin (x y : D) (κ : Cells) : Rk D := match dcrOf κ y, keyOf x with
  | some (ks, vs), some k => .ok (.bl (dLook ks vs k).isSome) κ
  | _, _ => .bad
def kDnin (x y : D) (κ : Cells) : Rk D := match dcrOf κ y, keyOf x with
  | some (ks, vs), some k => .ok (.bl (!(dLook ks vs k).isSome)) κ
  | _, _ => .bad
def zItA (k : List D → Res (List D)) (fl : Sc (List D)) : Sc (List D) := fun δ κ => (fl δ κ).bind fun ds κ => (k ds).at κ
def nSetL (i : Nat) (f : Sc (List D)) : Sn := fun δ κ => (f δ κ).out δ fun ds κ => if ds.length ≤ 16777216 then .nx (δ.set i (.ol ds)) κ else .bad
theorem Stc.layOl {g : G} {Hc H0c H0 H : Hp} {σ : St} {δ : Sm} {κ : Cells} {q : Addr} {vs : List V} {ds : List D} (S : Stc g Hc H0c H0 H σ δ κ) (hq : H q = none) (r : RpA g H0 vs ds) (i : Nat) : Stc g Hc H0c H0 (upd H q (.lst vs)) (σ.set i (some (.ref q))) (δ.set i (.ol ds)) κ := by
  obtain ⟨Hd, T, k⟩ := S.down
  exact S.back k (T.layOl hq r i)
end
def dItA (k : List D → Res (List D)) (ds : List D) (κ : Cells) : Rk (List D) := (k ds).at κ
theorem zItA_eq (k : List D → Res (List D)) (fl : Sc (List D)) (δ : Sm) (κ : Cells) : zItA k fl δ κ = (fl δ κ).bind (dItA k) := Eq.trans rfl rfl
theorem dItA_eq (k : List D → Res (List D)) (ds : List D) (κ : Cells) : dItA k ds κ = (k ds).at κ := Eq.trans rfl rfl
def dSL (i : Nat) (δ : Sm) (ds : List D) (κ : Cells) : Ot := if ds.length ≤ 16777216 then .nx (δ.set i (.ol ds)) κ else .bad
theorem nSetL_eq (i : Nat) (f : Sc (List D)) (δ : Sm) (κ : Cells) : nSetL i f δ κ = (f δ κ).out δ (dSL i δ) := Eq.trans rfl rfl
theorem dSL_0 (i : Nat) (δ : Sm) (κ : Cells) : dSL i δ [] κ = .nx (δ.set i (.ol [])) κ := Eq.trans rfl rfl
theorem dSL_1 (i : Nat) (δ : Sm) (a : D) (κ : Cells) : dSL i δ [a] κ = .nx (δ.set i (.ol [a])) κ := Eq.trans rfl rfl
theorem dSL_2 (i : Nat) (δ : Sm) (a b : D) (κ : Cells) : dSL i δ [a, b] κ = .nx (δ.set i (.ol [a, b])) κ := Eq.trans rfl rfl
end Pd

set_option Elab.async false
set_option linter.all false
set_option maxRecDepth 100000
set_option maxHeartbeats 4000000
namespace Pd
open PySem L2
mutual
def toK : D → Option NestedKey
  | .non => some .none
  | .int i => some (.num i)
  | .str x => some (.text x)
  | .tup ds => (toKs ds).map .tup
  | .bl _ => none
  | .lst _ => none
  | .obj _ _ _ => none
  | .scr _ => none
  | .loc _ => none
  | .dct _ _ => none
  | .dtt _ _ => none
  | .clo _ => none
def toKs : List D → Option (List NestedKey)
  | [] => some []
  | d :: ds => (toK d).bind fun k => (toKs ds).bind fun ks => some (k :: ks)
end
mutual
def kD : NestedKey → D
  | .none => .non
  | .num i => .int i
  | .text x => .str x
  | .tup ks => .tup (kDs ks)
def kDs : List NestedKey → List D
  | [] => []
  | k :: ks => kD k :: kDs ks
end
def tkey (d : D) : Option NestedKey := match toK d with
  | some (.tup ks) => if (NestedKey.tup ks).depth ≤ 8 then some (.tup ks) else none
  | _ => none
mutual
theorem KeyAt.rp {g : G} {H : Hp} : ∀ (k : NestedKey) (v : V), KeyAt g.K H k v → Rp g H v (kD k)
  | .none, _, h => by cases h; exact .non
  | .num _, _, h => by cases h; exact .int _
  | .text _, _, h => by cases h; exact .str _
  | .tup ks, _, h => by
    cases h with
    | tup q r => exact .tup q (KeysAt.rp ks _ r)
theorem KeysAt.rp {g : G} {H : Hp} : ∀ (ks : List NestedKey) (vs : List V), KeysAt g.K H ks vs → RpA g H vs (kDs ks)
  | [], _, h => by cases h; exact .nil
  | k :: ks, _, h => by
    cases h with
    | cons q r => exact .cons (KeyAt.rp k _ q) (KeysAt.rp ks _ r)
end
mutual
theorem KeyAt.sub {K : PySem.W.Frag} {H0 H : Hp} (e : Sub H0 H) : ∀ (k : NestedKey) (v : V), KeyAt K H0 k v → KeyAt K H k v
  | .none, _, h => by cases h; exact .none
  | .num _, _, h => by cases h; exact .num _
  | .text _, _, h => by cases h; exact .text _
  | .tup ks, _, h => by
    cases h with
    | tup q r => exact .tup (sqT_in e q) (KeysAt.sub e ks _ r)
theorem KeysAt.sub {K : PySem.W.Frag} {H0 H : Hp} (e : Sub H0 H) : ∀ (ks : List NestedKey) (vs : List V), KeysAt K H0 ks vs → KeysAt K H ks vs
  | [], _, h => by cases h; exact .nil
  | k :: ks, _, h => by
    cases h with
    | cons q r => exact .cons (KeyAt.sub e k _ q) (KeysAt.sub e ks _ r)
end
mutual
theorem KeyAt.is {X : Cx} {pins : List (Addr × Obj)} {σ : St} {H : Hp} {s : Shared} (I : Inv X pins σ H s) : ∀ (k : NestedKey) (v : V) (u : Value), KeyAt X.K H k v → RelV v u → NestedIs s.heap k u
  | .none, _, _, h, r => by cases h; cases r; exact .none
  | .num _, _, _, h, r => by cases h; obtain ⟨t, rfl⟩ := r; exact .int _ t
  | .text _, _, _, h, r => by cases h; obtain ⟨t, rfl⟩ := r; exact .text _ t
  | .tup ks, _, _, h, r => by
    cases h with
    | @tup a _ vs q rk =>
      cases r
      obtain ⟨its, rv, ⟨o, h1, h2, n, h3⟩, _⟩ := I.tuple q
      exact .tup h1 h2 h3 (by simpa using KeysAt.is I ks vs its rk rv)
theorem KeysAt.is {X : Cx} {pins : List (Addr × Obj)} {σ : St} {H : Hp} {s : Shared} (I : Inv X pins σ H s) : ∀ (ks : List NestedKey) (vs : List V) (us : List Value), KeysAt X.K H ks vs → Vals vs us → NestedAll s.heap ks us
  | [], _, _, h, r => by cases h; cases r; exact .nil
  | k :: ks, _, _, h, r => by
    cases h with
    | cons q rk =>
      cases r with
      | cons r1 r2 => exact .cons (KeyAt.is I k _ _ q r1) (KeysAt.is I ks _ _ rk r2)
end
structure DAt (K : PySem.W.Frag) (w : World) (H : Hp) (a : Addr) (xs : List DEnt) : Prop where
  h : ∃ ep, H a = some (dtO w a xs ep)
  k : ∀ x ∈ xs, KeyAt K H x.1 (.ref x.2.1) ∧ x.1.depth ≤ 8
structure KAt (K : PySem.W.Frag) (H : Hp) (y : V) (k : NestedKey) (b : Addr) : Prop where
  e : y = .ref b
  kk : KeyAt K H k (.ref b)
  dp : k.depth ≤ 8
section
variable {X : Cx} {pins : List (Addr × Obj)} {σ : St} {H : Hp} {s : Shared} {a b : Addr} {xs : List DEnt} {k : NestedKey} {y : V}
theorem DAt.of (I : Inv X pins σ H s) (d : DAt X.K X.w H a xs) : s.heap.DictOfH (nestedKind X.prog X.w) a xs ∧ (a == sysModules) = false ∧ xs.length ≤ sizeLine := by
  obtain ⟨ep, dh⟩ := d.h
  obtain ⟨⟨o, es, h1, h2, h3, h4, h5, h6, h7⟩, _, _⟩ := (show ObjOk X.prog X.w H s.heap a (.ext (dtP X.w a xs ep)) from I.hok a _ dh)
  exact ⟨⟨o, es, ep, h1, h2, h3, h4, fun x hx => ⟨KeyAt.is I _ _ _ (d.k x hx).1 rfl, (d.k x hx).2⟩, h5⟩, h7, h6⟩
theorem KAt.is (I : Inv X pins σ H s) (q : KAt X.K H y k b) : (nestedKind X.prog X.w).is s.heap k b := ⟨KeyAt.is I _ _ _ q.kk rfl, q.dp⟩
theorem DAt.ty (I : Inv X pins σ H s) (d : DAt X.K X.w H a xs) : s.TypeIs (.ref a) "dict" ∧ ∀ b, Value.ref a = .ref b → ∃ ob, s.heap.get? b = some ob ∧ ob.dict = none := by
  obtain ⟨dd, _, _⟩ := d.of I
  refine ⟨dd.typeIs, fun b q => ?_⟩
  cases q
  obtain ⟨ob, _, _, h1, h2, _⟩ := dd
  exact ⟨ob, h1, h2.2.1⟩
end
def rTin (K : PySem.W.Frag) (w : World) (neg : Bool) : R2 := fun y x H Q => ∃ a xs k b, x = .ref a ∧ DAt K w H a xs ∧ KAt K H y k b ∧ Q (.bl (if neg then !(atKey xs k).isSome else (atKey xs k).isSome)) H
def rTix (K : PySem.W.Frag) (w : World) : R2 := fun x y H Q => ∃ a xs k b p v, x = .ref a ∧ DAt K w H a xs ∧ KAt K H y k b ∧ atKey xs k = some p ∧ RelV v p.2 ∧ Q v H
section
variable {X : Cx}
end
end Pd

set_option Elab.async false
set_option linter.all false
set_option maxRecDepth 100000
set_option maxHeartbeats 4000000
namespace Pd
open PySem L2
def tLook (ks : List NestedKey) (vs : List D) (k : NestedKey) : Option D := ((ks.zip vs).find? fun p => decide (p.1 = k)).map (·.2)
def tPutK (ks : List NestedKey) (k : NestedKey) : List NestedKey := if k ∈ ks then ks else ks ++ [k]
def tPutV (ks : List NestedKey) (vs : List D) (k : NestedKey) (v : D) : List D := if k ∈ ks then (ks.zip vs).map fun p => if p.1 = k then v else p.2 else vs ++ [v]
def kTin (y x : D) : Res D := match x, tkey y with
  | .dtt ks _, some k => .ok (.bl (decide (k ∈ ks)))
  | _, _ => .bad
def kTnin (y x : D) : Res D := match x, tkey y with
  | .dtt ks _, some k => .ok (.bl (!decide (k ∈ ks)))
  | _, _ => .bad
def oRes (o : Option D) : Res D := match o with
  | some d => .ok d
  | none => .bad
def kTix (x y : D) : Res D := match x, tkey y with
  | .dtt ks vs, some k => oRes (tLook ks vs k)
  | _, _ => .bad
section
variable {g : G} {H0 H : Hp} {xs : List DEnt} {ks : List NestedKey} {vs : List D}
theorem look_at : ∀ {xs : List DEnt} {ws : List V} {vs : List D}, Vals ws (xs.map (·.2.2)) → RpA g H ws vs → ∀ k : NestedKey, (match atKey xs k with
    | none => tLook (xs.map (·.1)) vs k = none ∧ k ∉ xs.map (·.1)
    | some p => k ∈ xs.map (·.1) ∧ ∃ v d, tLook (xs.map (·.1)) vs k = some d ∧ RelV v p.2 ∧ Rp g H v d)
  | [], _, _, a, b, k => by
    cases a
    cases b
    exact ⟨rfl, by simp⟩
  | x :: xs, _, _, a, b, k => by
    cases a with
    | cons a1 a2 =>
      cases b with
      | @cons _ _ d vs b1 b2 =>
        have ih := look_at a2 b2 k
        by_cases e : x.1 = k
        · have z : atKey (x :: xs) k = some x.2 := by
            unfold atKey
            rw [List.find?_cons_of_pos (by simpa using e)]
            rfl
          rw [z]
          refine ⟨by rw [List.map_cons]; exact List.mem_cons.mpr (.inl e.symm), _, _, ?_, a1, b1⟩
          unfold tLook
          rw [List.map_cons, List.zip_cons_cons, List.find?_cons_of_pos (by simpa using e)]
          rfl
        · have z : atKey (x :: xs) k = atKey xs k := by
            unfold atKey
            rw [List.find?_cons_of_neg (by simpa using e)]
          have y : tLook ((x :: xs).map (·.1)) (d :: vs) k = tLook (xs.map (·.1)) vs k := by
            unfold tLook
            rw [List.map_cons, List.zip_cons_cons, List.find?_cons_of_neg (by simpa using e)]
          rw [z, y]
          cases q : atKey xs k with
          | none =>
            rw [q] at ih
            refine ⟨ih.1, ?_⟩
            rw [List.map_cons, List.mem_cons]
            rintro (h | h)
            · exact e h.symm
            · exact ih.2 h
          | some p =>
            rw [q] at ih
            exact ⟨by rw [List.map_cons]; exact List.mem_cons_of_mem _ ih.1, ih.2⟩
theorem DtR.some_ {k : NestedKey} {p : Addr × Value} (r : DtR g H xs ks vs) (e : atKey xs k = some p) : k ∈ ks ∧ ∃ v d, tLook ks vs k = some d ∧ RelV v p.2 ∧ Rp g H v d := by
  obtain ⟨ws, a, b⟩ := r.rv
  have h := look_at a b k
  rw [e] at h
  rw [r.e]
  exact h
theorem DtR.none_ {k : NestedKey} (r : DtR g H xs ks vs) (e : atKey xs k = none) : tLook ks vs k = none ∧ k ∉ ks := by
  obtain ⟨ws, a, b⟩ := r.rv
  have h := look_at a b k
  rw [e] at h
  rw [r.e]
  exact h
theorem DtR.mem {k : NestedKey} (r : DtR g H xs ks vs) : (atKey xs k).isSome = decide (k ∈ ks) := by
  cases e : atKey xs k with
  | none => exact (decide_eq_false (r.none_ e).2).symm
  | some p => exact (decide_eq_true (r.some_ e).1).symm
theorem DtR.put {k : NestedKey} {b : Addr} {u : Value} {v : V} {d : D} (r : DtR g H xs ks vs) (hk : KeyAt g.K H k (.ref b)) (dp : k.depth ≤ 8) (rv : RelV v u) (rd : Rp g H v d) : DtR g H (storedH xs k b u) (tPutK ks k) (tPutV ks vs k d) := by
  obtain ⟨ws, a1, a2⟩ := r.rv
  cases e : atKey xs k with
  | none =>
    obtain ⟨_, n⟩ := r.none_ e
    rw [storedH_new e]
    unfold tPutK tPutV
    rw [if_neg n, if_neg n]
    refine ⟨by rw [r.e, List.map_append]; rfl, fun q hq => ?_, fun x hx => ?_, ws ++ [v], ?_, a2.append (.one rd)⟩
    · rcases List.mem_append.mp hq with h | h
      · exact r.dp q h
      · rw [List.mem_singleton.mp h]
        exact dp
    · rcases List.mem_append.mp hx with h | h
      · exact r.rk x h
      · rw [List.mem_singleton.mp h]
        exact hk
    · rw [List.map_append]
      exact a1.append (.cons rv .nil)
  | some p =>
    obtain ⟨n, _⟩ := r.some_ e
    rw [storedH_old e]
    unfold tPutK tPutV
    rw [if_pos n, if_pos n]
    have go : ∀ {xs : List DEnt} {ws : List V} {vs : List D}, Vals ws (xs.map (·.2.2)) → RpA g H ws vs → ∃ ws', Vals ws' ((xs.map (putAt k u)).map (·.2.2)) ∧ RpA g H ws' (((xs.map (·.1)).zip vs).map fun p => if p.1 = k then d else p.2) := by
      intro xs
      induction xs with
      | nil =>
        intro ws vs a b
        cases a
        cases b
        exact ⟨[], .nil, .nil⟩
      | cons x xs ih =>
        intro ws vs a b
        cases a with
        | cons c1 c2 =>
          cases b with
          | @cons v1 ws1 d1 vs1 b1 b2 =>
            obtain ⟨ws', h1, h2⟩ := ih c2 b2
            by_cases q : x.1 = k
            · refine ⟨v :: ws', ?_, ?_⟩
              · rw [List.map_cons, List.map_cons, putAt, if_pos q]
                exact .cons rv h1
              · rw [List.map_cons, List.zip_cons_cons, List.map_cons, if_pos q]
                exact .cons rd h2
            · rename_i v1 _
              refine ⟨v1 :: ws', ?_, ?_⟩
              · rw [List.map_cons, List.map_cons, putAt, if_neg q]
                exact .cons c1 h1
              · rw [List.map_cons, List.zip_cons_cons, List.map_cons, if_neg q]
                exact .cons b1 h2
    obtain ⟨ws', h1, h2⟩ := go a1 a2
    refine ⟨by rw [keys_map_putAt]; exact r.e, r.dp, fun x hx => ?_, ws', h1, by rw [r.e]; exact h2⟩
    obtain ⟨y, hy, rfl⟩ := List.mem_map.mp hx
    unfold putAt
    split
    · exact r.rk y hy
    · exact r.rk y hy
end
section
variable {X : Cx} {ca : Str → Addr}
end
section
variable {X : Cx} {ca : Str → Addr} {W : WX} {a b : Expr} {fa fb : Sm → Res D} {pos : Pos}
end
end Pd

set_option Elab.async false
set_option linter.all false
set_option maxRecDepth 100000
set_option maxHeartbeats 4000000
namespace Pd
open PySem L2
section
variable {g : G} {Hc H0c H0 H : Hp} {σ : St} {δ : Sm} {as : List Addr}
end
def tNewE (w : World) : TE := fun _ H Q => ∀ p, H p = none → Q (.ref p) (upd H p (dtO w p [] 0))
def rTput (K : PySem.W.Frag) (w : World) : TSet := fun o i v H Q => ∃ a xs k b, o = .ref a ∧ DAt K w H a xs ∧ KAt K H i k b ∧ xs.length < 16777216 ∧ ∀ u ep, RelV v u → Q (upd H a (dtO w a (storedH xs k b u) ep))
section
variable {X : Cx} {pos : Pos}
def rLenE (K : PySem.W.Frag) (w : World) : List V → Hp → VK → Prop := fun xs H Q => ∃ (p : Addr) (es : List DEnt), xs = [.ref p] ∧ DAt K w H p es ∧ Q (.int ((es.length : Nat) : Int)) H
def rListE (K : PySem.W.Frag) (w : World) : List V → Hp → VK → Prop := fun xs H Q => ∃ (d : Addr) (es : List DEnt), xs = [.ref d] ∧ DAt K w H d es ∧ ∀ p, H p = none → Q (.ref p) (upd H p (.lst ((es.map fun x => x.2.1).map V.ref)))
def tDisp1 (K : PySem.W.Frag) (w : World) (tk tv : TE) : TE := fun σ H Q => ∀ p, H p = none → tk σ (upd H p (dtO w p [] 0)) fun y H1 => tv σ H1 fun v H2 => H2 p = some (dtO w p [] 0) ∧ ∃ k b, KAt K H2 y k b ∧ ∀ u ep, RelV v u → Q (.ref p) (upd H2 p (dtO w p [(k, b, u)] ep))
end
end Pd

set_option Elab.async false
set_option linter.all false
set_option maxRecDepth 100000
set_option maxHeartbeats 4000000
namespace Pd
open PySem L2
def eTix (i : Nat) (f : Sm → Res D) : Sm → Res D := fun δ => match δ[i]? with
  | some (.ot ks vs) => (f δ).bind fun y => kTix (.dtt ks vs) y
  | _ => .bad
def eTin (i : Nat) (f : Sm → Res D) : Sm → Res D := fun δ => (f δ).bind fun y => match δ[i]? with
  | some (.ot ks vs) => kTin y (.dtt ks vs)
  | _ => .bad
def eTnin (i : Nat) (f : Sm → Res D) : Sm → Res D := fun δ => (f δ).bind fun y => match δ[i]? with
  | some (.ot ks vs) => kTnin y (.dtt ks vs)
  | _ => .bad
def tGet (ks : List NestedKey) (vs : List D) (y z : D) : Res D := match tkey y with
  | some k => .ok ((tLook ks vs k).getD z)
  | none => .bad
def eTget (i : Nat) (f h : Sm → Res D) : Sm → Res D := fun δ => match δ[i]? with
  | some (.ot ks vs) => (f δ).bind fun y => (h δ).bind fun z => tGet ks vs y z
  | _ => .bad
def mSetT (i : Nat) : Sm → Out := fun δ => .nx (δ.set i (.ot [] []))
def mSetT1 (i : Nat) (fk fv : Sm → Res D) : Sm → Out := fun δ => (fk δ).out δ fun y => (fv δ).out δ fun v => match tkey y with
  | some k => .nx (δ.set i (.ot [k] [v]))
  | none => .bad
def eT1 (fk fv : Sm → Res D) : Sm → Res D := fun δ => (fk δ).bind fun y => (fv δ).bind fun v => match tkey y with
  | some k => .ok (.dtt [k] [v])
  | none => .bad
def tPut (i : Nat) (δ : Sm) (ks : List NestedKey) (vs : List D) (v y : D) : Out := match tkey y with
  | some k => if ks.length < 16777216 then .nx (δ.set i (.ot (tPutK ks k) (tPutV ks vs k v))) else .bad
  | none => .bad
def mTput (i : Nat) (fk fv : Sm → Res D) : Sm → Out := fun δ => match δ[i]? with
  | some (.ot ks vs) => (fv δ).out δ fun v => (fk δ).out δ fun y => tPut i δ ks vs v y
  | _ => .bad
def tSd (i : Nat) (δ : Sm) (ks : List NestedKey) (vs : List D) (v y : D) : Out := match tkey y with
  | some k => if ks.length < 16777216 then (if k ∈ ks then .nx δ else .nx (δ.set i (.ot (ks ++ [k]) (vs ++ [v])))) else .bad
  | none => .bad
def mTsd (i : Nat) (fk fv : Sm → Res D) : Sm → Out := fun δ => match δ[i]? with
  | some (.ot ks vs) => (fk δ).out δ fun y => (fv δ).out δ fun v => tSd i δ ks vs v y
  | _ => .bad
def kTlen : List D → Res D
  | [.dtt ks _] => .ok (.int ks.length)
  | _ => .bad
def kTlist : List D → Res D
  | [.dtt ks _] => .ok (.lst (ks.map kD))
  | _ => .bad
section
variable {X : Cx} {ca : Str → Addr} {W : WX} {a b : Expr} {fa fb fk fv : Sm → Res D} {pos : Pos}
section
variable {x : Str} {px : Pos}
end
end
end Pd

set_option Elab.async false
set_option linter.all false
set_option maxRecDepth 100000
set_option maxHeartbeats 4000000
namespace Pd
open PySem L2
section
variable {X : Cx} {ca : Str → Addr} {W : WX} {a b : Expr} {fl : Sm → Res (List D)} {p pos : Pos}
end
def asOt : Option O → Res (List NestedKey × List D)
  | some (.ot ks vs) => .ok (ks, vs)
  | _ => .bad
theorem asOt_ot (ks : List NestedKey) (vs : List D) : asOt (some (.ot ks vs)) = .ok (ks, vs) := Eq.trans rfl rfl
def cTix (f : Sm → Res D) (δ : Sm) (p : List NestedKey × List D) : Res D := (f δ).bind (kTix (.dtt p.1 p.2))
theorem cTix_eq (f : Sm → Res D) (δ : Sm) (ks : List NestedKey) (vs : List D) : cTix f δ (ks, vs) = (f δ).bind (kTix (.dtt ks vs)) := Eq.trans rfl rfl
theorem eTix_eq (i : Nat) (f : Sm → Res D) (δ : Sm) : eTix i f δ = (asOt δ[i]?).bind (cTix f δ) := by
  show (match δ[i]? with | some (.ot ks vs) => (f δ).bind fun y => kTix (.dtt ks vs) y | _ => .bad) = _
  cases h : δ[i]? with
  | none => rfl
  | some o => cases o <;> rfl
def cTin2 (y : D) (p : List NestedKey × List D) : Res D := kTin y (.dtt p.1 p.2)
theorem cTin2_eq (y : D) (ks : List NestedKey) (vs : List D) : cTin2 y (ks, vs) = kTin y (.dtt ks vs) := Eq.trans rfl rfl
def cTin (i : Nat) (δ : Sm) (y : D) : Res D := (asOt δ[i]?).bind (cTin2 y)
theorem cTin_eq (i : Nat) (δ : Sm) (y : D) : cTin i δ y = (asOt δ[i]?).bind (cTin2 y) := Eq.trans rfl rfl
theorem eTin_eq (i : Nat) (f : Sm → Res D) (δ : Sm) : eTin i f δ = (f δ).bind (cTin i δ) := by
  show ((f δ).bind fun y => match δ[i]? with | some (.ot ks vs) => kTin y (.dtt ks vs) | _ => .bad) = _
  congr 1
  funext y
  unfold cTin
  cases h : δ[i]? with
  | none => rfl
  | some o => cases o <;> rfl
def cTnin2 (y : D) (p : List NestedKey × List D) : Res D := kTnin y (.dtt p.1 p.2)
theorem cTnin2_eq (y : D) (ks : List NestedKey) (vs : List D) : cTnin2 y (ks, vs) = kTnin y (.dtt ks vs) := Eq.trans rfl rfl
def cTnin (i : Nat) (δ : Sm) (y : D) : Res D := (asOt δ[i]?).bind (cTnin2 y)
theorem cTnin_eq (i : Nat) (δ : Sm) (y : D) : cTnin i δ y = (asOt δ[i]?).bind (cTnin2 y) := Eq.trans rfl rfl
theorem eTnin_eq (i : Nat) (f : Sm → Res D) (δ : Sm) : eTnin i f δ = (f δ).bind (cTnin i δ) := by
  show ((f δ).bind fun y => match δ[i]? with | some (.ot ks vs) => kTnin y (.dtt ks vs) | _ => .bad) = _
  congr 1
  funext y
  unfold cTnin
  cases h : δ[i]? with
  | none => rfl
  | some o => cases o <;> rfl
def cTg2 (p : List NestedKey × List D) (y z : D) : Res D := tGet p.1 p.2 y z
theorem cTg2_eq (ks : List NestedKey) (vs : List D) (y z : D) : cTg2 (ks, vs) y z = tGet ks vs y z := Eq.trans rfl rfl
def cTg1 (h : Sm → Res D) (δ : Sm) (p : List NestedKey × List D) (y : D) : Res D := (h δ).bind (cTg2 p y)
theorem cTg1_eq (h : Sm → Res D) (δ : Sm) (p : List NestedKey × List D) (y : D) : cTg1 h δ p y = (h δ).bind (cTg2 p y) := Eq.trans rfl rfl
def cTg (f h : Sm → Res D) (δ : Sm) (p : List NestedKey × List D) : Res D := (f δ).bind (cTg1 h δ p)
theorem cTg_eq (f h : Sm → Res D) (δ : Sm) (p : List NestedKey × List D) : cTg f h δ p = (f δ).bind (cTg1 h δ p) := Eq.trans rfl rfl
theorem eTget_eq (i : Nat) (f h : Sm → Res D) (δ : Sm) : eTget i f h δ = (asOt δ[i]?).bind (cTg f h δ) := by
  show (match δ[i]? with | some (.ot ks vs) => (f δ).bind fun y => (h δ).bind fun z => tGet ks vs y z | _ => .bad) = _
  cases q : δ[i]? with
  | none => rfl
  | some o => cases o <;> rfl
theorem mSetT_eq (i : Nat) (δ : Sm) : mSetT i δ = .nx (δ.set i (.ot [] [])) := Eq.trans rfl rfl
def cT1b (i : Nat) (δ : Sm) (y v : D) : Out := match tkey y with
  | some k => .nx (δ.set i (.ot [k] [v]))
  | none => .bad
def cT1 (i : Nat) (fv : Sm → Res D) (δ : Sm) (y : D) : Out := (fv δ).out δ (cT1b i δ y)
theorem cT1_eq (i : Nat) (fv : Sm → Res D) (δ : Sm) (y : D) : cT1 i fv δ y = (fv δ).out δ (cT1b i δ y) := Eq.trans rfl rfl
theorem mSetT1_eq (i : Nat) (fk fv : Sm → Res D) (δ : Sm) : mSetT1 i fk fv δ = (fk δ).out δ (cT1 i fv δ) := Eq.trans rfl rfl
def cE1b (y v : D) : Res D := match tkey y with
  | some k => .ok (.dtt [k] [v])
  | none => .bad
def cE1 (fv : Sm → Res D) (δ : Sm) (y : D) : Res D := (fv δ).bind (cE1b y)
theorem cE1_eq (fv : Sm → Res D) (δ : Sm) (y : D) : cE1 fv δ y = (fv δ).bind (cE1b y) := Eq.trans rfl rfl
theorem eT1_eq (fk fv : Sm → Res D) (δ : Sm) : eT1 fk fv δ = (fk δ).bind (cE1 fv δ) := Eq.trans rfl rfl
def cTp2 (i : Nat) (δ : Sm) (p : List NestedKey × List D) (v y : D) : Out := tPut i δ p.1 p.2 v y
def cTp1 (i : Nat) (fk : Sm → Res D) (δ : Sm) (p : List NestedKey × List D) (v : D) : Out := (fk δ).out δ (cTp2 i δ p v)
theorem cTp1_eq (i : Nat) (fk : Sm → Res D) (δ : Sm) (p : List NestedKey × List D) (v : D) : cTp1 i fk δ p v = (fk δ).out δ (cTp2 i δ p v) := Eq.trans rfl rfl
def cTp (i : Nat) (fk fv : Sm → Res D) (δ : Sm) (p : List NestedKey × List D) : Out := (fv δ).out δ (cTp1 i fk δ p)
theorem cTp_eq (i : Nat) (fk fv : Sm → Res D) (δ : Sm) (p : List NestedKey × List D) : cTp i fk fv δ p = (fv δ).out δ (cTp1 i fk δ p) := Eq.trans rfl rfl
theorem mTput_eq (i : Nat) (fk fv : Sm → Res D) (δ : Sm) : mTput i fk fv δ = (asOt δ[i]?).out δ (cTp i fk fv δ) := by
  show (match δ[i]? with | some (.ot ks vs) => (fv δ).out δ fun v => (fk δ).out δ fun y => tPut i δ ks vs v y | _ => .bad) = _
  cases q : δ[i]? with
  | none => rfl
  | some o => cases o <;> rfl
def cTs2 (i : Nat) (δ : Sm) (p : List NestedKey × List D) (y v : D) : Out := tSd i δ p.1 p.2 v y
def cTs1 (i : Nat) (fv : Sm → Res D) (δ : Sm) (p : List NestedKey × List D) (y : D) : Out := (fv δ).out δ (cTs2 i δ p y)
theorem cTs1_eq (i : Nat) (fv : Sm → Res D) (δ : Sm) (p : List NestedKey × List D) (y : D) : cTs1 i fv δ p y = (fv δ).out δ (cTs2 i δ p y) := Eq.trans rfl rfl
def cTs (i : Nat) (fk fv : Sm → Res D) (δ : Sm) (p : List NestedKey × List D) : Out := (fk δ).out δ (cTs1 i fv δ p)
theorem cTs_eq (i : Nat) (fk fv : Sm → Res D) (δ : Sm) (p : List NestedKey × List D) : cTs i fk fv δ p = (fk δ).out δ (cTs1 i fv δ p) := Eq.trans rfl rfl
theorem mTsd_eq (i : Nat) (fk fv : Sm → Res D) (δ : Sm) : mTsd i fk fv δ = (asOt δ[i]?).out δ (cTs i fk fv δ) := by
  show (match δ[i]? with | some (.ot ks vs) => (fk δ).out δ fun y => (fv δ).out δ fun v => tSd i δ ks vs v y | _ => .bad) = _
  cases q : δ[i]? with
  | none => rfl
  | some o => cases o <;> rfl
theorem frz_ot0 (ks : List NestedKey) (vs : List D) (δ : Sm) : frz 0 (.ot ks vs :: δ) = .sh (.dtt ks vs) :: δ := Eq.trans rfl rfl
theorem kTlen_eq (ks : List NestedKey) (vs : List D) : kTlen [.dtt ks vs] = .ok (.int ks.length) := Eq.trans rfl rfl
theorem kTlist_eq (ks : List NestedKey) (vs : List D) : kTlist [.dtt ks vs] = .ok (.lst (ks.map kD)) := Eq.trans rfl rfl
def kP (a b : Int) : NestedKey := .tup [.num a, .num b]
end Pd
namespace Pd
open PySem L2
theorem nFrz_eq (i : Nat) (m : Sn) (δ : Sm) (κ : Cells) : nFrz i m δ κ = m (frz i δ) κ := Eq.trans rfl rfl
theorem dSL_3 (i : Nat) (δ : Sm) (a b c : D) (κ : Cells) : dSL i δ [a, b, c] κ = .nx (δ.set i (.ol [a, b, c])) κ := Eq.trans rfl rfl
def dApp2 (i : Nat) (δ : Sm) (ds : List D) (d : D) (κ : Cells) : Ot := if shortL ds = true then .nx (δ.set i (.ol (ds ++ [d]))) κ else .bad
theorem dApp2_0 (i : Nat) (δ : Sm) (d : D) (κ : Cells) : dApp2 i δ [] d κ = .nx (δ.set i (.ol [d])) κ := Eq.trans rfl rfl
theorem dApp2_1 (i : Nat) (δ : Sm) (a d : D) (κ : Cells) : dApp2 i δ [a] d κ = .nx (δ.set i (.ol [a, d])) κ := Eq.trans rfl rfl
theorem dApp2_2 (i : Nat) (δ : Sm) (a b d : D) (κ : Cells) : dApp2 i δ [a, b] d κ = .nx (δ.set i (.ol [a, b, d])) κ := Eq.trans rfl rfl
def dAppO (i : Nat) (f : Sc D) (δ : Sm) (κ : Cells) : Option O → Ot
  | some (.ol ds) => (f δ κ).out δ (dApp2 i δ ds)
  | _ => .bad
theorem dAppO_ol (i : Nat) (f : Sc D) (δ : Sm) (κ : Cells) (ds : List D) : dAppO i f δ κ (some (.ol ds)) = (f δ κ).out δ (dApp2 i δ ds) := Eq.trans rfl rfl
theorem nApp_eq (i : Nat) (f : Sc D) (δ : Sm) (κ : Cells) : nApp i f δ κ = dAppO i f δ κ δ[i]? := by
  show (match δ[i]? with | some (.ol ds) => (f δ κ).out δ fun d κ => if ds.length < 16777216 then .nx (δ.set i (.ol (ds ++ [d]))) κ else .bad | _ => .bad) = _
  cases h : δ[i]? with
  | none => rfl
  | some o =>
    cases o with
    | ol ds =>
      rw [dAppO_ol]
      show (f δ κ).out δ _ = (f δ κ).out δ _
      congr 1
      funext d κ
      unfold dApp2 shortL
      by_cases z : ds.length < 16777216
      · rw [if_pos z, if_pos (decide_eq_true z)]
      · rw [if_neg z, if_neg (by rw [decide_eq_false z]; decide)]
    | no => rfl
    | sh d => rfl
    | ot ks vs => rfl
theorem mCont_eq (δ : Sm) : mCont δ = .ct δ := Eq.trans rfl rfl
theorem mBreak_eq (δ : Sm) : mBreak δ = .bk δ := Eq.trans rfl rfl
theorem rsv_loc {k n : Nat} {κ : Cells} {ds : List D} (h : κ[n]? = some (.lst ds)) (hp : plainA ds = true) : rsv (k + 1) κ (.loc n) = .lst ds := by
  unfold rsv
  rw [h]
  dsimp only
  rw [rsv_plainA κ k ds hp]
theorem bor_ok {fm : List D → Res D} {ds es : List D} {κ : Cells} {b : Bool} (h : ds.map (rsv rDeep κ) = es) (hp : plainA es = true) (hf : fm es = .ok (.bl b)) : bor fm ds κ = .ok (.bl b) κ := by
  unfold bor
  rw [h, if_pos hp, hf]
  rfl
theorem Row.cop {n : Int} {L : List (Int × Int)} {p : Int × Int} (r : Row n L p) : ∀ q ∈ L, Int.gcd q.1 q.2 = 1 := by
  induction r with
  | one => intro q hq; rw [List.mem_singleton.mp hq]; decide
  | snoc r hb h0 h1 ih =>
    intro q hq
    rcases List.mem_append.mp hq with z | z
    · exact ih q z
    · rw [List.mem_singleton.mp z]
      exact (det_cop hb.det).2
theorem Row.max {n : Int} {L : List (Int × Int)} {p : Int × Int} (r : Row n L p) (hn : 1 ≤ n) : (∀ q ∈ L, Rat.divInt q.1 q.2 ≤ Rat.divInt p.1 p.2) ∧ L.Nodup := by
  induction r with
  | one => exact ⟨fun q hq => by rw [List.mem_singleton.mp hq]; exact Rat.le_refl, by simp⟩
  | @snoc L p q r hb h0 h1 ih =>
    obtain ⟨i1, i2⟩ := ih
    have lt := (dv_lt hb.d1 hb.d2).mpr hb.lt
    refine ⟨fun x hx => ?_, List.nodup_append.mpr ⟨i2, by simp, fun x hx y hy e => ?_⟩⟩
    · rcases List.mem_append.mp hx with z | z
      · have := i1 x z
        grind
      · rw [List.mem_singleton.mp z]
        exact Rat.le_refl
    · rw [List.mem_singleton.mp hy] at e
      have := i1 x hx
      rw [e] at this
      grind
end Pd

set_option Elab.async false
set_option linter.all false
set_option maxRecDepth 100000
set_option maxHeartbeats 4000000
namespace Pd
open PySem L2
end Pd

set_option Elab.async false
set_option linter.all false
set_option maxRecDepth 100000
set_option maxHeartbeats 4000000
namespace Pd
open PySem L2
variable {vn : Bool}
mutual
def toP : D → Option PyData
  | .non => some .none
  | .bl b => some (.bool b)
  | .int i => some (.int i)
  | .str x => some (.str x)
  | .lst xs => (toPs xs).map .list
  | .tup xs => (toPs xs).map .tuple
  | .scr ns => some (.list (ns.map .int))
  | _ => none
def toPs : List D → Option (List PyData)
  | [] => some []
  | x :: xs => match toP x, toPs xs with
    | some p, some ps => some (p :: ps)
    | _, _ => none
end
section
variable {X : Cx} {ca : Str → Addr} {pins : List (Addr × Obj)} {σ : St} {H H0 : Hp} {s : Shared}
theorem reads_ints {h : Heap} : ∀ {ns : List Int} {us : List Value}, Vals (ns.map V.int) us → ReadsAll h us (ns.map .int) []
  | [], _, .nil => .nil
  | n :: ns, _, .cons ⟨t, e⟩ r => by
    subst e
    exact ReadsAll.cons (as := []) (bs := []) (.int n t) (reads_ints r)
mutual
theorem Rp.reads (I : Inv X pins σ H s) (sb : Sub H0 H) : ∀ (d : D) (v : V) (u : Value) (p : PyData), Rp ⟨X.K, ca, X.w⟩ H0 v d → RelV v u → toP d = some p → ∃ as, Reads s.heap u p as
  | .non, v, u, p, r, ru, e => by
    cases r
    cases e
    cases ru
    exact ⟨_, .none⟩
  | .bl b, v, u, p, r, ru, e => by
    cases r
    cases e
    cases ru
    exact ⟨_, .bool b⟩
  | .int i, v, u, p, r, ru, e => by
    cases r
    cases e
    obtain ⟨t, rfl⟩ := ru
    exact ⟨_, .int i t⟩
  | .str x, v, u, p, r, ru, e => by
    cases r
    cases e
    obtain ⟨t, rfl⟩ := ru
    exact ⟨_, .str x t⟩
  | .lst ds, v, u, p, r, ru, e => by
    cases r with
    | @lst a vs _ q r =>
      cases ru
      unfold toP at e
      cases e1 : toPs ds with
      | none => rw [e1] at e; cases e
      | some ps =>
        rw [e1] at e
        cases e
        obtain ⟨its, rv, ⟨o, n, h1, h2, _, h3⟩, _⟩ := I.list (.inl (rdL_in sb q))
        obtain ⟨as, ra⟩ := RpA.reads I sb ds vs its ps r rv e1
        exact ⟨_, .list h1 h2 h3 ra⟩
  | .tup ds, v, u, p, r, ru, e => by
    cases r with
    | @tup a vs _ q r =>
      cases ru
      unfold toP at e
      cases e1 : toPs ds with
      | none => rw [e1] at e; cases e
      | some ps =>
        rw [e1] at e
        cases e
        obtain ⟨its, rv, ⟨o, h1, h2, n, h3⟩, _⟩ := I.tuple (sqT_in sb q)
        obtain ⟨as, ra⟩ := RpA.reads I sb ds vs its ps r rv e1
        exact ⟨_, .tuple h1 h2 h3 ra⟩
  | .scr ns, v, u, p, r, ru, e => by
    cases r with
    | @scr a _ q =>
      cases ru
      cases e
      obtain ⟨its, rv, ⟨o, n, h1, h2, _, h3⟩, _⟩ := I.list (sqL_in sb q)
      exact ⟨_, .list h1 h2 h3 (reads_ints rv)⟩
  | .obj _ _ _, _, _, _, _, _, e => by cases e
  | .loc _, _, _, _, _, _, e => by cases e
  | .dct _ _, _, _, _, _, _, e => by cases e
  | .dtt _ _, _, _, _, _, _, e => by cases e
  | .clo _, _, _, _, _, _, e => by cases e
theorem RpA.reads (I : Inv X pins σ H s) (sb : Sub H0 H) : ∀ (ds : List D) (vs : List V) (us : List Value) (ps : List PyData), RpA ⟨X.K, ca, X.w⟩ H0 vs ds → Vals vs us → toPs ds = some ps → ∃ as, ReadsAll s.heap us ps as
  | [], vs, us, ps, r, ru, e => by
    cases r
    cases ru
    cases e
    exact ⟨_, .nil⟩
  | d :: ds, vs, us, ps, r, ru, e => by
    cases r with
    | @cons v vs' _ _ q r =>
      cases ru with
      | cons r1 r2 =>
        unfold toPs at e
        cases e1 : toP d with
        | none => rw [e1] at e; cases e
        | some p =>
          cases e2 : toPs ds with
          | none => rw [e1, e2] at e; cases e
          | some ps' =>
            rw [e1, e2] at e
            cases e
            obtain ⟨as, ra⟩ := Rp.reads I sb d v _ p q r1 e1
            obtain ⟨bs, rb⟩ := RpA.reads I sb ds vs' _ ps' r r2 e2
            exact ⟨_, .cons ra rb⟩
end
end

def KeyR (X : Cx) (ca : Str → Addr) (P : Hp → Prop) (f : Value) (fm : D → Res D) : Prop :=
  ∀ (pins : List (Addr × Obj)) (s : Shared) (σ : St) (H H0 : Hp) (v : V) (u : Value) (d e : D), Inv X pins σ H s → Sub H0 H → P H0 → Rp ⟨X.K, ca, X.w⟩ H0 v d → RelV v u → fm d = .ok e →
    wpAny (model X.prog X.w) X.A.in1.in1 (call f [u]) (fun r s' => ∃ v' H0' H', Inv X pins σ H' s' ∧ Grow H0 H H0' H' ∧ RelV v' r ∧ Rp ⟨X.K, ca, X.w⟩ H0' v' e) (fun _ _ => False) s
def AllP (h : Heap) (us : List Value) (ps : List PyData) : Prop := PySem.W.EachIs (fun v k => ∃ as, Reads h v k as) us ps
section
variable {X : Cx} {ca : Str → Addr} {pins : List (Addr × Obj)} {σ : St} {H H0 : Hp} {s : Shared}
theorem pin_turn {pins : List (Addr × Obj)} {p : Addr} {o o' : Obj} {s : Shared} (I : Inv X ((p, o) :: pins) σ H s) {h' : Heap} {t' : Nat} (hs : Heap.SameBut p s.heap h') (ho : h'.get? p = some o') (hd : ∀ v, o'.data ≠ .cell v) (h0 : X.s_0.heap.objs.size ≤ p) (hn : ∀ q ∈ X.pn ++ pins, q.1 ≠ p) :
    Inv X ((p, o') :: pins) σ H { s with heap := h', toks := t' } := by
  obtain ⟨e, n, ne, nf, d⟩ := I.pin (p, o) (List.mem_append_right _ (List.mem_cons_self ..))
  have I0 : Inv X pins σ H s := I.pins_of fun q hq => I.pin q (List.mem_append_right _ (List.mem_cons_of_mem _ hq))
  have I1 : Inv X pins σ H { s with heap := h', toks := t' } := I0.turned (it := p) (fun b u hb hu => (hs.2 b hb).trans hu) n ne (.inr h0) (fun x c hc z => by
    obtain ⟨v, oc, h1, h2⟩ := I.cell x c hc
    rw [z] at h1
    have e' : s.heap.get? p = some o := e
    rw [e'] at h1
    cases h1
    exact d _ h2) hn
  refine I1.pins_of fun q hq => ?_
  rcases List.mem_cons.mp hq with rfl | hq
  · exact ⟨ho, n, ne, nf, hd⟩
  · exact I1.pin q (List.mem_append_right _ hq)
theorem pin_track {pins : List (Addr × Obj)} {p c : Addr} {o oc : Obj} {u : HO} {s : Shared} (I : Inv X ((c, oc) :: (p, o) :: pins) σ H s) {h' : Heap} {t' : Nat} (k : ∀ b w, b ≠ p → b ≠ c → s.heap.get? b = some w → h'.get? b = some w)
    (hcp : c ≠ p) (h0 : X.s_0.heap.objs.size ≤ p) (hc0 : X.s_0.heap.objs.size ≤ c) (hn : ∀ q ∈ X.pn ++ pins, q.1 ≠ p ∧ q.1 ≠ c) (new : ObjOk X.prog X.w (upd H p u) h' p u) (nu : (∀ xs, u ≠ .tup xs) ∧ (∀ a b, u ≠ .frz a b) ∧ ∀ ps, u ≠ .tbl ps) : Inv X pins σ (upd H p u) { s with heap := h', toks := t' } := by
  obtain ⟨e1, n1, ne1, nf1, d1⟩ := I.pin (p, o) (List.mem_append_right _ (List.mem_cons_of_mem _ (List.mem_cons_self ..)))
  obtain ⟨e2, n2, ne2, nf2, d2⟩ := I.pin (c, oc) (List.mem_append_right _ (List.mem_cons_self ..))
  have n1 : H p = none := n1
  have n2 : H c = none := n2
  have I0 : Inv X pins σ H s := I.pins_of fun q hq => I.pin q (List.mem_append_right _ (List.mem_cons_of_mem _ (List.mem_cons_of_mem _ hq)))
  have nc : ∀ {a : Addr} {oa : Obj}, s.heap.get? a = some oa → (∀ v, oa.data ≠ .cell v) → ∀ x cc, X.env.cells.lookup x = some cc → cc ≠ a := fun {a oa} e d x cc hcc z => by
    obtain ⟨v, o2, h1, h2⟩ := I.cell x cc hcc
    rw [z, e] at h1
    cases h1
    exact d _ h2
  have np : ∀ b w, H b = some w → b ≠ p := fun b w e z => by rw [z, n1] at e; cases e
  have ncc : ∀ b w, H b = some w → b ≠ c := fun b w e z => by rw [z, n2] at e; cases e
  refine I0.step (g' := s.gens) (d' := s.drawn) (t' := t') (ch := [p, c]) (fun b hb => ?_) (fun b w _ _ hb e _ => ?_) (fun b w _ _ hb e _ => ⟨w.slots, ?_⟩) (fun b w hb e n => ?_) (fun b w hb e => ⟨w, ?_⟩) (fun b xs e => ?_) (fun b a xs e => ?_) (fun b ps e => ⟨#[], ?_⟩) (fun m hm => ?_) ?_ I.bare
  · rcases List.mem_cons.mp hb with rfl | hb
    · exact ⟨.inr h0, ne1, nc e1 d1, fun q hq => (hn q hq).1⟩
    · rw [List.mem_singleton.mp hb]
      exact ⟨.inr hc0, ne2, nc e2 d2, fun q hq => (hn q hq).2⟩
  · exact k b w (fun z => hb (by simp [z])) (fun z => hb (by simp [z])) e
  · exact k b w (fun z => hb (by simp [z])) (fun z => hb (by simp [z])) e
  · rw [upd_ne (fun z => hb (by simp [z]))]
    exact n
  · exact k b w (fun z => hb (by simp [z])) (fun z => hb (by simp [z])) e
  · rw [upd_ne (np b _ e)]
    exact e
  · rw [upd_ne (np b _ e)]
    exact e
  · rw [upd_ne (np b _ e), e]
    simp
  · obtain ⟨o', es, ep, ho, r⟩ := hm
    exact ⟨o', es, ep, k _ o' (Ne.symm ne1) (Ne.symm ne2) ho, r⟩
  · intro b w e
    by_cases hb : b = p
    · subst hb
      rw [upd_same] at e
      cases e
      exact new
    · rw [upd_ne hb] at e
      refine (I.hok b w e).stay (fun cc v hc q => k cc v ?_ ?_ q) (fun cc q => by rw [upd_ne (np cc _ q)]; exact q) fun cc xs q => by rw [upd_ne (np cc _ q)]; exact q
      · rcases hc with rfl | z
        · exact hb
        · exact np cc _ z
      · rcases hc with rfl | z
        · exact ncc cc _ e
        · exact ncc cc _ z
end
end Pd

set_option Elab.async false
set_option linter.all false
set_option maxRecDepth 100000
set_option maxHeartbeats 4000000
namespace Pd
open PySem L2
theorem readsAll_each {h : Heap} : ∀ {us : List Value} {ps : List PyData} {as : List Addr}, ReadsAll h us ps as → AllP h us ps
  | _, _, _, .nil => .nil
  | _, _, _, .cons r t => .cons ⟨_, r⟩ (readsAll_each t)
theorem valsG : ∀ {xs : List V} {us : List Value} {i : Nat} {u : Value}, Vals xs us → us[i]? = some u → ∃ x, xs[i]? = some x ∧ RelV x u
  | _, _, _, _, .nil, e => by simp at e
  | _, _, 0, _, .cons r _, e => by
    simp only [List.getElem?_cons_zero, Option.some.injEq] at e
    subst e
    exact ⟨_, rfl, r⟩
  | _, _, i + 1, u, .cons _ t, e => by
    rw [List.getElem?_cons_succ] at e ⊢
    exact valsG t e
theorem vals_snoc {v : V} {u : Value} (h : RelV v u) : ∀ {xs : List V} {us : List Value}, Vals xs us → Vals (xs ++ [v]) (us ++ [u])
  | _, _, .nil => .cons h .nil
  | _, _, .cons r t => .cons r (vals_snoc h t)
theorem toPs_length : ∀ {ds : List D} {ps : List PyData}, toPs ds = some ps → ps.length = ds.length
  | [], _, e => by cases e; rfl
  | d :: ds, ps, e => by
    unfold toPs at e
    cases e1 : toP d with
    | none => rw [e1] at e; cases e
    | some p =>
      cases e2 : toPs ds with
      | none => rw [e1, e2] at e; cases e
      | some ps' =>
        rw [e1, e2] at e
        cases e
        rw [List.length_cons, List.length_cons, toPs_length e2]
inductive Keyed (fm : D → Res D) : List D → List D → Prop
  | nil : Keyed fm [] []
  | cons {d e : D} {ds es : List D} (h : fm d = .ok e) (t : Keyed fm ds es) : Keyed fm (d :: ds) (e :: es)
theorem Keyed.length {fm : D → Res D} {ds es : List D} (h : Keyed fm ds es) : es.length = ds.length := by
  induction h with
  | nil => rfl
  | cons _ _ ih => rw [List.length_cons, List.length_cons, ih]
theorem Keyed.get {fm : D → Res D} {ds es : List D} (h : Keyed fm ds es) : ∀ {i : Nat} {d : D}, ds[i]? = some d → ∃ e, es[i]? = some e ∧ fm d = .ok e := by
  induction h with
  | nil => intro i d z; simp at z
  | cons h t ih =>
    intro i d z
    cases i with
    | zero =>
      simp only [List.getElem?_cons_zero, Option.some.injEq] at z
      subst z
      exact ⟨_, rfl, h⟩
    | succ i =>
      rw [List.getElem?_cons_succ] at z ⊢
      exact ih z
def keySort (ds : List D) (kz : List PyData) : List D := ((ds.zip kz).mergeSort (PySem.W.dataLe false Prod.snd)).map (·.1)
section
variable {X : Cx} {ca : Str → Addr} {pins : List (Addr × Obj)} {σ : St} {H H0 : Hp} {s : Shared}
theorem each_rp {g : G} : ∀ {vs : List V} {us : List Value} {ds : List D} {kz : List PyData}, Vals vs us → RpA g H0 vs ds → kz.length = ds.length → PySem.W.EachIs (fun u (b : D × PyData) => ∃ v, RelV v u ∧ Rp g H0 v b.1) us (ds.zip kz)
  | _, _, _, kz, .nil, .nil, e => by
    rw [List.zip_nil_left]
    exact .nil
  | _, _, _, [], .cons _ _, .cons _ _, e => by cases e
  | _, _, _, k :: kz, .cons r t, .cons q z, e => .cons ⟨_, r, q⟩ (each_rp t z (by rw [List.length_cons, List.length_cons] at e; omega))
theorem each_back {g : G} : ∀ {us : List Value} {bs : List (D × PyData)}, PySem.W.EachIs (fun u (b : D × PyData) => ∃ v, RelV v u ∧ Rp g H0 v b.1) us bs → ∃ vs, Vals vs us ∧ RpA g H0 vs (bs.map (·.1))
  | _, _, .nil => ⟨[], .nil, .nil⟩
  | _, _, .cons ⟨v, r, q⟩ t => by
    obtain ⟨vs, h1, h2⟩ := each_back t
    exact ⟨v :: vs, .cons r h1, .cons q h2⟩
theorem sortK_run {f l : Addr} {fm : D → Res D} {vs : List V} {ds es : List D} {kz : List PyData} {Q : VK} {P : Hp → Prop} (hf : KeyR X ca P (.ref f) fm) (hP : P H0) (hmo : ∀ A B, Same A B → P A → P B) (hr : Room 0 X.A) (I : Inv X pins σ H s) (sb : Sub H0 H) (hl : SqL X.K H l vs) (r : RpA ⟨X.K, ca, X.w⟩ H0 vs ds) (he : Keyed fm ds es)
    (hk : toPs es = some kz) (hal : PySem.W.AllAlike kz) (hsk : PySem.W.Sortable kz) (hdp : ∀ d ∈ kz, d.depth ≤ 100)
    (q : ∀ ws H0' H' p, Grow H0 H H0' H' → RpA ⟨X.K, ca, X.w⟩ H0' ws (keySort ds kz) → H' p = none → Q (.ref p) (upd H' p (.lst ws))) :
    wpAny (model X.prog X.w) X.A (call (.builtin "sorted") [.ref l] [(Str.ofString "key", .ref f)]) (EP X pins σ Q) X.xe s := by
  obtain ⟨its, rv, hpl, hz⟩ := I.list hl
  have l1 : its.length = ds.length := by rw [← rv.length, r.length]
  have l2 := he.length
  have l3 := toPs_length hk
  have hz1 : its.length ≤ sizeLine := by rw [← rv.length]; exact hz
  refine PySem.W.sorted_of_sort hpl.isList hz1 (PyProof.Rows.ksk_s1 _ _) (fun _ => PyProof.Rows.ksk_l1 _ _) fun E' => ?_
  rw [PyProof.Rows.ksk_t1]
  obtain ⟨a, ea⟩ : ∃ a, a = s.heap.objs.size + 1 := ⟨_, rfl⟩
  have ho := PySem.W.copyHeap_at s.heap its
  rw [← ea] at ho ⊢
  obtain ⟨h1, eh1⟩ : ∃ h1, h1 = PySem.W.copyHeap s.heap its := ⟨_, rfl⟩
  rw [← eh1] at ho ⊢
  obtain ⟨e1, ho1⟩ : ∃ e1, (h1.update a (Obj.mapSeq fun _ => (#[] : Array Value))).get? a = some (PyProof.Rows.seqObj "list" #[] e1) := ⟨_, PyProof.Rows.get?_update_seq ho fun _ => #[]⟩
  obtain ⟨kS, ekS⟩ : ∃ kS, kS = ((h1.update a (Obj.mapSeq fun _ => (#[] : Array Value))).push (PyProof.Rows.seqObj "tuple" its.toArray 0)).objs.size := ⟨_, rfl⟩
  have hsz : kS = h1.objs.size + 1 := by rw [ekS, PyProof.Rows.size_push', Heap.size_update]
  have hah : a < h1.objs.size := Heap.lt_size ho
  have old : ∀ b o, s.heap.get? b = some o → (PySem.W.sortingHeap h1 a its).get? b = some o := fun b o e => by
    rw [eh1, ea]
    exact PySem.W.sorting_copy_old e
  have gK : (PySem.W.sortingHeap h1 a its).get? kS = some (PyProof.Rows.seqObj "list" #[] 0) := by
    rw [ekS]
    exact Heap.get?_push_size _ rfl
  have gA : (PySem.W.sortingHeap h1 a its).get? a = some (PyProof.Rows.seqObj "list" #[] e1) := Heap.get?_push_of_some _ (Heap.get?_push_of_some _ ho1)
  have za : s.heap.objs.size ≤ a := by omega
  have zk : s.heap.objs.size ≤ kS := by omega
  have hka : kS ≠ a := by omega
  have I1 : Inv X ((kS, PyProof.Rows.seqObj "list" #[] 0) :: (a, PyProof.Rows.seqObj "list" #[] e1) :: pins) σ H { s with heap := PySem.W.sortingHeap h1 a its } := by
    have I0 := I.kept (t' := s.toks) old
    refine I0.pins_of fun p hp => ?_
    rcases List.mem_cons.mp hp with rfl | hp
    · exact ⟨gK, I.hok.fresh zk, fun z => absurd I.lt (by rw [← z]; exact Nat.not_lt.mpr zk), I.nofs zk, fun v z => nomatch z⟩
    · rcases List.mem_cons.mp hp with rfl | hp
      · exact ⟨gA, I.hok.fresh za, fun z => absurd I.lt (by rw [← z]; exact Nat.not_lt.mpr za), I.nofs za, fun v z => nomatch z⟩
      · exact I0.pin p (List.mem_append_right _ hp)
  have pn : ∀ p ∈ X.pn ++ pins, p.1 < s.heap.objs.size := fun p hp => Heap.lt_size (I.pin p hp).1
  have h0 : X.s_0.heap.objs.size ≤ s.heap.objs.size := I.sz
  unfold PyProof.Rows.ksk_tree
  refine wpAny_bind (PyProof.Rows.listItems_at ho rfl (wpAny_bind (PyProof.Rows.listUpdate_at ho rfl ?_ (by rw [List.size_toArray]; exact hz1) (Nat.zero_le _))))
  refine wpAny_bind (PyProof.Rows.seqEpoch_at ho1 rfl (wpAny_bind (wpAny_newTuple (wpAny_bind (wpAny_newList (wpAny_holding ?_) (Nat.zero_le _))) hz1)))
  rw [← ekS]
  show wpAny _ _ (PyProof.Rows.ksk_rest a (.ref f) false its.toArray e1 (.ref kS)) _ _ { s with heap := PySem.W.sortingHeap h1 a its }
  unfold PyProof.Rows.ksk_rest
  refine wpAny_bind (wpAny_rule ?_)
  rw [List.forIn_toArray]
  refine wpAny_bind (PyProof.Rows.ksk_fold (fun i s' => ∃ H0' H' kA e, Inv X ((kS, PyProof.Rows.seqObj "list" kA e) :: (a, PyProof.Rows.seqObj "list" #[] e1) :: pins) σ H' s' ∧ Grow H0 H H0' H' ∧ ∃ kvs, Vals kvs kA.toList ∧ RpA ⟨X.K, ca, X.w⟩ H0' kvs (es.take i)) its 0 _
    ⟨H0, H, #[], 0, I1, Grow.refl sb, [], .nil, .nil⟩ ?step ?done)
  case step =>
    rintro j x s' hx ⟨H0', H', kA, e, I', w, kvs, kv, kr⟩
    rw [Nat.zero_add] at kr ⊢
    obtain ⟨v, hv, rvx⟩ := valsG rv hx
    have hjd : j < ds.length := by
      have := (List.getElem?_eq_some_iff.mp hx).1
      omega
    obtain ⟨v', hv', rp⟩ := r.get (List.getElem?_eq_getElem hjd)
    rw [hv] at hv'
    cases hv'
    obtain ⟨ej, hej, hfm⟩ := he.get (List.getElem?_eq_getElem hjd)
    have hkz : kA.size ≤ sizeLine := by
      have e3 : kA.size = min j es.length := by
        rw [← Array.length_toList, ← kv.length, kr.length, List.length_take]
      rw [e3]
      exact Nat.le_trans (Nat.min_le_right _ _) (by rw [l2, ← l1]; exact hz1)
    refine wpAny_bind (wpAny_attempt (wpAny_mono (hf _ s' σ H' H0' v x _ ej I' w.sub (hmo _ _ w.up0 hP) (rp.mono w.up0) rvx hfm) (fun u s'' hu => ?_) fun _ _ z => z.elim))
    obtain ⟨v2, H02, H2, I2, w2, r2, q2⟩ := hu
    have nk : s''.heap.get? kS = some (PyProof.Rows.seqObj "list" kA e) := (I2.pin _ (List.mem_append_right _ (List.mem_cons_self ..))).1
    have sbu := Heap.SameBut.update s''.heap kS (Obj.mapSeq (·.push u))
    have np : ∀ q ∈ X.pn ++ ((a, PyProof.Rows.seqObj "list" #[] e1) :: pins), q.1 ≠ kS := fun q hq => by
      rcases List.mem_append.mp hq with hq | hq
      · exact Nat.ne_of_lt (Nat.lt_of_lt_of_le (pn q (List.mem_append_left _ hq)) zk)
      · rcases List.mem_cons.mp hq with rfl | hq
        · exact Ne.symm hka
        · exact Nat.ne_of_lt (Nat.lt_of_lt_of_le (pn q (List.mem_append_right _ hq)) zk)
    have et : es.take (j + 1) = es.take j ++ [ej] := by rw [List.take_add_one, hej]; rfl
    refine wpAny_bind (PyProof.Rows.listUpdate_at nk rfl (wpAny_pure ⟨rfl, H02, H2, kA.push u, _, pin_turn (t' := s''.toks) I2 sbu (PyProof.Rows.get?_update_seq nk (·.push u)) (fun v z => nomatch z) (Nat.le_trans h0 zk) np, w.trans w2, kvs ++ [v2], ?_, ?_⟩) hkz ?_)
    · rw [Array.toList_push]
      exact vals_snoc r2 kv
    · rw [et]
      exact (kr.mono w2.up0).append (.one q2)
    · rw [Array.size_push]
      omega
  case done =>
    rintro s' ⟨H0', H', kA, e, I', w, kvs, kv, kr⟩
    have et : es.take (0 + its.length) = es := List.take_of_length_le (by omega)
    rw [et] at kr
    have nk : s'.heap.get? kS = some (PyProof.Rows.seqObj "list" kA e) := (I'.pin _ (List.mem_append_right _ (List.mem_cons_self ..))).1
    have na : s'.heap.get? a = some (PyProof.Rows.seqObj "list" #[] e1) := (I'.pin _ (List.mem_append_right _ (List.mem_cons_of_mem _ (List.mem_cons_self ..)))).1
    obtain ⟨as, ra⟩ := RpA.reads I' w.sub es kvs kA.toList kz kr kv hk
    have hk' := readsAll_each ra
    have hks : kA.size = its.length := by
      rw [← Array.length_toList, ← kv.length, kr.length, l2, l1]
    obtain ⟨G1, g1, g2⟩ := restrict s'.heap fun b => !decide (b = kS)
    have gne : ∀ b, b ≠ kS → G1.get? b = s'.heap.get? b := fun b hb => g1 b (by rw [decide_eq_false hb]; rfl)
    have gkS : G1.get? kS = none := g2 kS (by rw [decide_eq_true rfl]; rfl)
    have kp : PySem.W.KeepsBut a G1 s'.heap := fun b o _ eb => by
      by_cases hb : b = kS
      · rw [hb, gkS] at eb
        cases eb
      · rw [← gne b hb]
        exact eb
    refine wpAny_bind (PyProof.Rows.listItems_at nk rfl ?_)
    refine PySem.W.keyH_end (κ := PySem.W.dataKind s'.heap kz) (h₁ := G1) kp gkS nk na hka (PySem.W.SortsAt.data (s := s') hk' hal hsk fun d hd => ?_) hks hz1 fun h3 tk3 c k3 n3 => ⟨rfl, ?_⟩
    · have := hdp d hd
      have := hr.un
      show X.A.units + 1 + 1 + d.depth < cLine
      omega
    · have mz : (ds.zip kz).map Prod.snd = kz := List.map_snd_zip (by omega)
      have ko : PySem.W.KeyedOut false ((ds.zip kz).map Prod.snd) its (PySem.W.sortVals (PySem.W.dataKind s'.heap kz) false kA.toList its) := by
        rw [mz]
        exact ⟨s'.heap, kA.toList, hal, rfl, hk'⟩
      have eo := PySem.W.keyedOut_each (bs := ds.zip kz) Prod.snd ko (each_rp rv (r.mono w.up0) (by omega))
      obtain ⟨ws, h4, h5⟩ := each_back eo
      have lw : ws.length ≤ sizeLine := by
        rw [h4.length, ko.length (by rw [mz]; omega)]
        exact hz1
      refine ⟨.ref a, upd H' a (.lst ws), pin_track (t' := tk3) (u := .lst ws) I' (fun b u hb1 hb2 hu => k3 b u hb1 (by rw [gne b hb2]; exact hu)) hka (Nat.le_trans h0 za) (Nat.le_trans h0 zk) (fun p hp => ?_) ⟨lw, _, c, h4, n3⟩ ⟨(fun _ z => nomatch z), (fun _ _ z => nomatch z), (fun _ z => nomatch z)⟩, rfl, ?_⟩
      · exact ⟨Nat.ne_of_lt (Nat.lt_of_lt_of_le (pn p hp) za), Nat.ne_of_lt (Nat.lt_of_lt_of_le (pn p hp) zk)⟩
      · exact q ws H0' H' a w h5 (I'.pin _ (List.mem_append_right _ (List.mem_cons_of_mem _ (List.mem_cons_self ..)))).2.1
end
end Pd

set_option Elab.async false
set_option linter.all false
set_option maxRecDepth 100000
set_option maxHeartbeats 4000000
namespace Pd
open PySem L2
def keysR (fm : D → Res D) : List D → Option (List D)
  | [] => some []
  | d :: ds => match fm d with
    | .ok e => (keysR fm ds).map (e :: ·)
    | _ => none
theorem keysR_keyed {fm : D → Res D} : ∀ {ds es : List D}, keysR fm ds = some es → Keyed fm ds es
  | [], _, e => by cases e; exact .nil
  | d :: ds, es, e => by
    unfold keysR at e
    cases e1 : fm d with
    | ok x =>
      rw [e1] at e
      cases e2 : keysR fm ds with
      | none => simp only [e2] at e; cases e
      | some ys =>
        simp only [e2] at e
        cases e
        exact .cons e1 (keysR_keyed e2)
    | xc c fs => rw [e1] at e; cases e
    | bad => rw [e1] at e; cases e
def tup1 : PyData → Bool
  | .tuple (_ :: _) => true
  | _ => false
def noTup : PyData → Bool
  | .tuple _ => false
  | .none => false
  | _ => true
def okK (kz : List PyData) : Bool := kz.all (fun d => kz.all (PySem.W.alike d)) && (kz.all tup1 || kz.all noTup) && kz.all (fun d => decide (d.depth ≤ 100))
theorem okK_of {kz : List PyData} (h : okK kz = true) : PySem.W.AllAlike kz ∧ PySem.W.Sortable kz ∧ ∀ d ∈ kz, d.depth ≤ 100 := by
  unfold okK at h
  rw [Bool.and_eq_true, Bool.and_eq_true, Bool.or_eq_true] at h
  obtain ⟨⟨h1, h2⟩, h3⟩ := h
  refine ⟨fun d hd d' hd' => List.all_eq_true.mp (List.all_eq_true.mp h1 d hd) d' hd', ?_, fun d hd => of_decide_eq_true (List.all_eq_true.mp h3 d hd)⟩
  rcases h2 with h2 | h2
  · refine .inl fun d hd => ?_
    have := List.all_eq_true.mp h2 d hd
    unfold tup1 at this
    split at this
    · exact ⟨_, _, rfl⟩
    · cases this
  · refine .inr fun d hd => ?_
    have := List.all_eq_true.mp h2 d hd
    unfold noTup at this
    split at this
    · cases this
    · cases this
    · rename_i n1 n2
      exact ⟨n2, n1⟩
def kSortK (fm : D → Res D) : D → Res D
  | .lst ds => match keysR fm ds with
    | some es => match toPs es with
      | some kz => if okK kz = true then .ok (.lst (keySort ds kz)) else .bad
      | none => .bad
    | none => .bad
  | _ => .bad
def rSortK (X : Cx) (ca : Str → Addr) (fm : D → Res D) : List V → List V → Hp → VK → Prop := fun vs zs H Q => ∃ (l f : Addr) (P : Hp → Prop) (xs : List V) (H0 : Hp) (ds es : List D) (kz : List PyData), vs = [.ref l] ∧ zs = [.ref f] ∧ KeyR X ca P (.ref f) fm ∧ P H0 ∧ (∀ A B, Same A B → P A → P B) ∧ Sub H0 H ∧ SqL X.K H l xs ∧ RpA ⟨X.K, ca, X.w⟩ H0 xs ds ∧
  Keyed fm ds es ∧ toPs es = some kz ∧ okK kz = true ∧ ∀ ws H0' H' p, Grow H0 H H0' H' → RpA ⟨X.K, ca, X.w⟩ H0' ws (keySort ds kz) → H' p = none → Q (.ref p) (upd H' p (.lst ws))
section
variable {X : Cx} {ca : Str → Addr} {W : WX} {a : Expr} {fl : Sm → Res (List D)} {pos p kp kpos : Pos} {fm : D → Res D} {f : Addr} {kn : Str}
theorem cr_sortK (hr : Room 0 X.A) : CallRK X (.builtin "sorted") [Str.ofString "key"] (rSortK X ca fm) := by
  intro pins s σ H vs zs us ws Q I rv rz h
  obtain ⟨l, f, P, xs, H0, ds, es, kz, rfl, rfl, hf, hP, hmo, sb, hl, r, he, hk, ok, q⟩ := h
  obtain rfl := Vals.ref1 rv
  obtain rfl := Vals.ref1 rz
  obtain ⟨h1, h2, h3⟩ := okK_of ok
  exact sortK_run hf hP hmo hr I sb hl r he hk h1 h2 h3 q
end
end Pd

set_option Elab.async false
set_option linter.all false
set_option maxRecDepth 100000
set_option maxHeartbeats 4000000
namespace Pd
open PySem PySem.Spec PyProof.Rows L2 LamX
variable {vn : Bool}
theorem lamO_ok {P : Program} {w : World} {H : Hp} {h : Heap} {f : Addr} {o : Obj} (e : h.get? f = some o) : ObjOk P w H h f (LamO f o) := ⟨e, ⟨o, e⟩, fun h1 h2 p k => k o p⟩
section
variable {X : Cx} {pins : List (Addr × Obj)} {σ : L2.St} {H : Hp} {s : Shared}
theorem lam_newT {c P : Addr} {ps : Array Value} {ar : Arguments} {bd : Expr} {sc : Scope} {pos : Pos} {E : Value → Shared → Prop} {Q : Value → Shared → Prop} (I : Inv X pins σ H s) (TB : TabB X.base X.mg c P) (hc : X.env.code = .ref c) (hP : H P = some (.tbl ps)) (ht : TabK H (X.env.qual ++ "<lambda>") ps)
    (hd : defaultsOf ar X.env = ([], [])) (hf : ∀ y ∈ sc.names, y.2 = .free → ∃ c, X.env.cells.lookup y.1 = some c)
    (k : ∀ (f c' : Addr) (pm ctv : Value) (H1 : Hp) (s' : Shared), ((H1 = H ∧ ∃ pos, codeAmong pos ps.toList = some (.ref c')) ∨ H c' = none ∧ ∃ m, H1 = upd (upd H P (.tbl (ps ++ m))) c' (CodeO c' (X.env.qual ++ "<lambda>")) ∧ TriplesOk (ps ++ m).toList ∧ ∀ (pos : Pos) (cv : Value), codeAmong pos (ps ++ m).toList = some cv → codeAmong pos ps.toList = some cv ∨ cv = .ref c') →
      H1 f = none → H1 c' = some (CodeO c' (X.env.qual ++ "<lambda>")) → Inv X pins σ (upd H1 f (LamO f (PySem.W.kla_obj "<lambda>" (X.env.qual ++ "<lambda>") ar bd sc (cloFrom X.env.cells sc.names []) pm c' ctv))) s' → Q (.ref f) s') :
    wpAny (model X.prog X.w) X.A (eval (.Lambda ar bd sc pos) X.env) Q E s := by
  have gP : s.heap.get? P = some { cls := .none, data := .fields ps } := I.hok P _ hP
  have bP : s.heap.BuiltinsAt X.mg P := TB.bm.keeps I.bk
  refine PySem.W.kla_eval hd ?_
  cases e : codeAmong pos ps.toList with
  | some cv =>
    obtain ⟨c', rfl, hc'⟩ := ht.2 pos cv e
    refine PySem.W.kla_makeFunctionHit (mg := X.mg) (c := c) (P := P) (closure_ok hf) I.ok.glob (I.mod.glob.keeps I.bk) hc (TB.code.keeps I.bk) gP ht.1 e bP fun ctv h' tk hx hz =>
      k h'.objs.size c' _ ctv H _ (.inl ⟨rfl, pos, e⟩) (I.hok.fresh hz) hc' (I.laid (a := h'.objs.size) (t' := tk) (fun b o z => Heap.get?_push_of_some _ (hx b o z)) hz (lamO_ok (Heap.get?_push_size _ rfl)))
  | none =>
    refine PySem.W.kla_makeFunction (mg := X.mg) (c := c) (P := P) (closure_ok hf) I.ok.glob (I.mod.glob.keeps I.bk) hc (TB.code.keeps I.bk) gP ht.1 e TB.gP bP fun c' ctv h' tk hx hge hlt hrec htb => ?_
    obtain ⟨c2, oc, vs, t, e2, h1, h2, h3⟩ := hrec
    cases e2
    have n1 : H c' = none := I.hok.fresh hge
    have le : s.heap.objs.size ≤ h'.objs.size := by omega
    have J := inv_table (t' := tk) (more := #[rawInt pos.line, rawInt pos.col, .ref c']) I hP (fun b o hb z => hx b o hb z) htb hge ⟨oc, vs, t, h1, h2, h3⟩
    have el : (ps ++ #[rawInt pos.line, rawInt pos.col, Value.ref c']).toList = ps.toList ++ [rawInt pos.line, rawInt pos.col, .ref c'] := by simp
    refine k h'.objs.size c' _ ctv _ _ (.inr ⟨n1, _, rfl, ?_, fun p' cv z => ?_⟩) (J.hok.fresh (Nat.le_refl _)) upd_same (J.laid (a := h'.objs.size) (t' := tk) (fun b o z => Heap.get?_push_of_some _ z) (Nat.le_refl _) (lamO_ok (Heap.get?_push_size _ rfl)))
    · rw [el]
      exact PySem.TriplesOk_snoc _ _ _ _ ht.1
    · rw [el] at z
      exact among_app _ ht.1 z
end
def LamP (f c' : Addr) (q : Str) (o : Obj) (H : Hp) : Prop := H f = some (LamO f o) ∧ H c' = some (CodeO c' q)
theorem lamP_mono {f c' : Addr} {q : Str} {o : Obj} (A B : Hp) (s : Same A B) (h : LamP f c' q o A) : LamP f c' q o B := ⟨s _ _ h.1, s _ _ h.2⟩
theorem keyR_lam {X : Cx} {ca : Str → Addr} {f c' : Addr} {q x : Str} {ar : Arguments} {bd : Expr} {sc : Scope} {pm ctv : Value} {k : Nat} {fb : Sm → Res D} (S : FnScope [x] [x] sc) (hr : Room (k + 3) X.A)
    (hbind : ∀ (pm cv ctv u : Value), bindArgs (PySem.W.kla_fn "<lambda>" q ar bd sc [] pm cv ctv) ⟨[u], []⟩ = pure [(x, u)])
    (hbd : ∀ (A : Around) (outer : List Env) (s : Shared) (H : Hp) (E : XK), Room k (A.deeper (envOfC q sc s.heap.objs.size f (.ref c'))) → PD (cxOf (L2.CX X.prog X.w) X.prog X.w X.K X.mg X.base [x] q sc f (.ref c') A outer s H E) ca (fun cls d _ H' => E cls d H') bd fb) :
    KeyR X ca (LamP f c' q (PySem.W.kla_obj "<lambda>" q ar bd sc [] pm c' ctv)) (.ref f) fun d => fb [.sh d] := by
  intro pins s σ H H0 v u d e I sb hP r ru he
  have he : fb [.sh d] = .ok e := he
  have hf1 := sb.get hP.1 lamO_nk
  have hc1 := sb.get hP.2 codeO_nk
  obtain ⟨at_f, _, _⟩ := I.hok f _ hf1
  have at_f : s.heap.get? f = some (PySem.W.kla_obj "<lambda>" q ar bd sc [] pm c' ctv) := at_f
  obtain ⟨⟨oc, vs, t0, o1, o2, o3⟩, _, _⟩ := I.hok c' _ hc1
  have hr1 : Room (k + 1) X.A.in1.in1 := hr.in1.in1
  have hkind : ∀ y ∈ [(x, u)], sc.names.lookup y.1 = some .local ∨ (sc.names.lookup y.1 = some .cell ∧ ((cellsFrom (s.heap.objs.size + 1) sc.names []).lookup y.1).isSome = true) := fun y hy => by
    rw [List.mem_singleton.mp hy]
    rcases S.par x (List.mem_cons_self ..) with z | z
    · exact .inl z
    · exact .inr ⟨z, PySem.W.cellsFrom_some _ _ _ (.inl z)⟩
  have run : codeAny (model X.prog X.w) X.A.in1.in1 (.call (.ref f) ⟨[u], []⟩) (CR (L2.CX X.prog X.w) X.stack X.prog X.w H s (fun v' H' => ∃ H0', Grow H0 H H0' H' ∧ Rp ⟨X.K, ca, X.w⟩ H0' v' e) (fun _ _ _ => False)) s := by
    refine PySem.W.kla_callFunE hr1.depth at_f rfl S.co S.gen rfl ⟨c', oc, vs, t0, rfl, o1, o2, o3⟩ ?_
    rw [hbind]
    refine wpAny_pure (wpAny_newFunctionEnv_cells S.kind hkind fun env hen s1 xx => ?_)
    subst hen
    refine ⟨I.nolimit.keeps xx.toInCall.keep, ?_⟩
    have J : Inv (cxOf (L2.CX X.prog X.w) X.prog X.w X.K X.mg X.base [x] q sc f (.ref c') X.A.in1.in1 X.stack s H (fun _ _ _ => False)) [] (L2.start [x] [v]) H s1 := inv_start (ps := [x]) (us := [u]) S hr1.hd I.env0.in1.in1 rfl (.cons ru .nil) xx
    refine PySem.W.kla_codeExpr (env := envOfC q sc s.heap.objs.size f (.ref c')) (wpAny_mono ((hbd X.A.in1.in1 X.stack s H (fun _ _ _ => False) (hr1.deeper _)).run [] s1 (L2.start [x] [v]) H (fun v' H' => ∃ H0', Grow H0 H H0' H' ∧ Rp ⟨X.K, ca, X.w⟩ H0' v' e) J ⟨H, H0, H0, [.sh d], ?_, ?_⟩) (fun v2 s' ⟨w', H', J', rv, qq⟩ => ?_) fun er s' hq => hq)
    · exact ⟨⟨[], sls_args (n := 0) (.one r), List.nodup_nil, fun a ha => nomatch ha⟩, sb, Same.refl _, Same.refl _, fun _ _ h => h, fun _ _ h => h⟩
    · rw [he]
      exact fun y A B w z => ⟨A, w, z⟩
    · exact ⟨w', H', J'.os, J'.bare, J'.base, J'.hok, rv, qq⟩
  refine wpAny_call (codeAny_mono run fun res s' hq => ?_)
  cases res with
  | error er =>
    obtain ⟨_, _, _, _, _, _, _, _, _, _, _, _, hE⟩ := hq
    exact hE.elim
  | ok fl =>
    cases fl with
    | ret u =>
      obtain ⟨v', H', I', r', H0', w, z⟩ := I.after hq
      exact ⟨v', H0', H', I', w, r', z⟩
    | next => exact hq.elim
    | brk => exact hq.elim
    | cont => exact hq.elim
end Pd

set_option Elab.async false
set_option linter.all false
set_option maxRecDepth 100000
set_option maxHeartbeats 4000000
namespace Pd
open PySem PySem.Spec PyProof.Rows L2 LamX
variable {vn : Bool}
def zSortL (n : Nat) (mk q : Str) (fb : Sm → Res D) (fl : Sc (List D)) : Sc D := fun δ κ => (fl δ κ).bind fun ds κ' => match κ'[n]? with
  | some (.tab mk' q') => if mk' = mk ∧ q' = q then (on1 (kSortK fun d => fb [.sh d]) ds).at κ' else .bad
  | _ => .bad
theorem grw_of {H0 H A H1 H2 A2 : Hp} (a : Grw H0 H A H1) (b : Grow A H1 A2 H2) : Grw H0 H A2 H2 := a.trans b.grw
section
variable {X : Cx} {ca : Str → Addr} {W : WX}
theorem pe_lamT {P c : Addr} {ar : Arguments} {bd : Expr} {sc : Scope} {lp : Pos} {q : Str} (TB : TabB X.base X.mg c P) (hc : X.env.code = .ref c) (hq : X.env.qual ++ "<lambda>" = q) (hd : defaultsOf ar X.env = ([], [])) (hf : ∀ y ∈ sc.names, y.2 ≠ .free) (hcl : cloFrom X.env.cells sc.names [] = []) :
    PE X (.Lambda ar bd sc lp) (fun σ H Q => ∃ ps, H P = some (.tbl ps) ∧ TabK H q ps ∧ ∀ (f c' : Addr) (pm ctv : Value) (H1 : Hp), ((H1 = H ∧ ∃ pos, codeAmong pos ps.toList = some (.ref c')) ∨ H c' = none ∧ ∃ m, H1 = upd (upd H P (.tbl (ps ++ m))) c' (CodeO c' q) ∧ TriplesOk (ps ++ m).toList ∧ ∀ (pos : Pos) (cv : Value), codeAmong pos (ps ++ m).toList = some cv → codeAmong pos ps.toList = some cv ∨ cv = .ref c') →
      H1 f = none → H1 c' = some (CodeO c' q) → Q (.ref f) (upd H1 f (LamO f (PySem.W.kla_obj "<lambda>" q ar bd sc [] pm c' ctv)))) := by
  subst hq
  refine ⟨fun pins s σ H Q I ⟨ps, hP, ht, k⟩ => ?_⟩
  refine lam_newT I TB hc hP ht hd (fun y hy z => absurd z (hf y hy)) fun f c' pm ctv H1 s' hH hfn hco I1 => ?_
  rw [hcl] at I1
  exact ⟨.ref f, _, I1, rfl, k f c' pm ctv H1 hH hfn hco⟩
theorem qd_sortL {mk q x : Str} {ar : Arguments} {a bd : Expr} {sc : Scope} {p lp kpos pos : Pos} {fb : Sm → Res D} {fl : Sc (List D)} {n k : Nat} (hm : X.mg "sorted" = none) (hr : Room (k + 3) X.A) (S : FnScope [x] [x] sc)
    (TB : TabB X.base X.mg (He.codeOf X.K (mk, none)) (tabA X.K mk)) (hcode : X.env.code = .ref (He.codeOf X.K (mk, none))) (hq : X.env.qual ++ "<lambda>" = q) (ha : QDA X ca W [a] fl)
    (hbd : ∀ (A : Around) (outer : List Env) (s : Shared) (H : Hp) (E : XK) (f c' : Addr), Room k (A.deeper (envOfC q sc s.heap.objs.size f (.ref c'))) → PD (cxOf (L2.CX X.prog X.w) X.prog X.w X.K X.mg X.base [x] q sc f (.ref c') A outer s H E) ca (fun cls d _ H' => E cls d H') bd fb)
    (hg : Gl X "sorted" := by rfl) (hd : defaultsOf ar X.env = ([], []) := by rfl) (hcl : cloFrom X.env.cells sc.names [] = [] := by rfl)
    (hbind : ∀ (q : Str) (pm cv ctv u : Value), bindArgs (PySem.W.kla_fn "<lambda>" q ar bd sc [] pm cv ctv) ⟨[u], []⟩ = pure [(x, u)] := by intro _ _ _ _ _; rfl)
    (he : backTo pos (starEach [a] X.env) = (false, eval a X.env) :: backTo pos (starEach [] X.env) := by rfl) (hpl : (backTo pos (starEach [a] X.env)).any (·.1) = false := by rfl)
    (hall : (backToKw pos (keywordEach [⟨some (Str.ofString "key"), .Lambda ar bd sc lp, kpos⟩] X.env)).all (·.1.isSome) = true := by rfl) (hnone : (backToKw pos (keywordEach [⟨some (Str.ofString "key"), .Lambda ar bd sc lp, kpos⟩] X.env)).any (·.1.isNone) = false := by rfl) (hks : (backToKw pos (keywordEach [⟨some (Str.ofString "key"), .Lambda ar bd sc lp, kpos⟩] X.env)).filterMap (·.1) = [Str.ofString "key"] := by rfl) :
    QD X ca W (.Call (.Name "sorted" p) [a] [⟨some (Str.ofString "key"), .Lambda ar bd sc lp, kpos⟩] pos) (zSortL n mk q fb fl) := by
  refine peI (pe_callBK (cr_sortK (ca := ca) (fm := fun d => fb [.sh d]) (hr.mono (Nat.zero_le _))) hg hm (by decide +kernel) ha (pk_cons (pe_lamT TB hcode hq hd S.nofree hcl) pk_nil) (by decide) (by decide) he hpl hall hnone hks) fun σ H Q h => ?_
  obtain ⟨Hc, H0c, H0, δ, κ, S0, pp⟩ := h
  refine Post2.bind S0 pp fun vs ds κ1 A1 B1 w1 S1 r1 pq => ?_
  have p1 : Post2 ⟨X.K, ca, X.w⟩ W σ A1 B1 (Rp ⟨X.K, ca, X.w⟩) Q (match κ1[n]? with
    | some (.tab mk' q') => if mk' = mk ∧ q' = q then (on1 (kSortK fun d => fb [.sh d]) ds).at κ1 else .bad
    | _ => .bad) := pq
  clear pq
  split at p1
  case h_2 => exact p1.elim
  rename_i mk' q' e
  split at p1
  case isFalse => exact p1.elim
  rename_i z
  obtain ⟨rfl, rfl⟩ := z
  obtain ⟨ps, mP, hP, ht, ho⟩ := tab_at S1.cs e
  have tk0 : TabK B1 q' ps := ⟨ht, fun p' cv y => by
    obtain ⟨c0, y1, y2⟩ := ho p' cv y
    exact ⟨c0, y1, S1.s0.get y2 codeO_nk⟩⟩
  refine ⟨ps, hP, tk0, fun f c' pm ctv H1 hH hfn hco => ?_⟩
  have grown : ∃ A, Grw A1 B1 A H1 ∧ CSt ⟨X.K, ca, X.w⟩ A H1 κ1 ∧ A c' = some (CodeO c' q') := by
    rcases hH with ⟨y, pz, hz⟩ | ⟨y1, m, y2, y3, y4⟩
    · subst y
      obtain ⟨c0, y1, y2⟩ := ho pz _ hz
      cases y1
      exact ⟨A1, Grw.refl S1.s0, S1.cs, y2⟩
    · subst y2
      obtain ⟨g1, g2⟩ := S1.code e hP y1 y3 ho y4
      exact ⟨_, g1, g2, upd_same⟩
  obtain ⟨A, w2, c2, hA⟩ := grown
  have gn := Grow.new (o := LamO f (PySem.W.kla_obj "<lambda>" q' ar bd sc [] pm c' ctv)) w2.sub hfn lamO_nk
  have c3 := c2.grow gn
  show rSortK X ca (fun d => fb [.sh d]) vs [.ref f] _ Q
  cases r1 with
  | nil => exact p1.elim
  | @cons v vs' d ds' qq r =>
    cases r with
    | cons _ _ => exact p1.elim
    | nil =>
      have p2 : Post2 ⟨X.K, ca, X.w⟩ W σ A1 B1 (Rp ⟨X.K, ca, X.w⟩) Q ((kSortK (fun d => fb [.sh d]) d).at κ1) := p1
      cases qq with
      | @lst l xs ds qq r =>
        have p3 : Post2 ⟨X.K, ca, X.w⟩ W σ A1 B1 (Rp ⟨X.K, ca, X.w⟩) Q ((match keysR (fun d => fb [.sh d]) ds with
          | some es => match toPs es with
            | some kz => if okK kz = true then Res.ok (D.lst (keySort ds kz)) else .bad
            | none => .bad
          | none => .bad).at κ1) := p2
        cases e1 : keysR (fun d => fb [.sh d]) ds with
        | none => rw [e1] at p3; exact p3.elim
        | some es =>
          rw [e1] at p3
          cases e2 : toPs es with
          | none => simp only [e2] at p3; exact p3.elim
          | some kz =>
            simp only [e2] at p3
            by_cases ok : okK kz = true
            · rw [if_pos ok] at p3
              have up : Same A1 (upd A f (LamO f (PySem.W.kla_obj "<lambda>" q' ar bd sc [] pm c' ctv))) := fun b u z => gn.up0 b u (w2.up0 b u z)
              refine ⟨l, f, _, xs, upd A f (LamO f (PySem.W.kla_obj "<lambda>" q' ar bd sc [] pm c' ctv)), ds, es, kz, rfl, rfl, keyR_lam S hr (hbind q') (fun A outer s H E hr2 => hbd A outer s H E f c' hr2), ⟨upd_same, gn.up0 _ _ hA⟩, lamP_mono, gn.sub, .inl (rdL_in gn.sub (rd_up up qq)), r.mono up, keysR_keyed e1, e2, ok, fun ws H0' H' pa w3 rw' hp => ?_⟩
              have g4 := w3.trans (Grow.new (o := .lst ws) w3.sub hp)
              exact p3 _ _ _ (grw_of w2 (gn.trans g4)) (c3.grow g4) (.lst (.inl upd_same) (rw'.mono (Grow.new w3.sub hp).up0))
            · rw [if_neg ok] at p3
              exact p3.elim
      | _ => exact p2.elim
end
end Pd

set_option Elab.async false
set_option linter.all false
set_option maxRecDepth 100000
set_option maxHeartbeats 4000000
namespace Pd
open PySem L2
def insAt (κ : Cells) (n : Nat) : Option (Str × List (Str × D)) := match κ[n]? with
  | some (.ins C fs) => some (C, fs)
  | _ => none
def lstAt (κ : Cells) (n : Nat) : Option (List D) := match κ[n]? with
  | some (.lst ds) => some ds
  | _ => none
def dFx2 (f : Str) (n m : Nat) (C : Str) (δ : Sm) : D → Cells → Ot
  | .lst es, κ => match lstAt κ m, insAt κ n with
    | some ds, some (C', fs') => if C' = C ∧ fs'.length < 900 ∧ ds.length + es.length ≤ 16777216 then .nx δ ((κ.set m (.lst (ds ++ es))).set n (.ins C (putD f (.loc m) fs'))) else .bad
    | _, _ => .bad
  | _, _ => .bad
def dFx1 (Cs : List Str) (f : Str) (fe : Sc D) (δ : Sm) : D → Cells → Ot
  | .loc n, κ => match insAt κ n with
    | some (C, fs) => if C ∈ Cs then (match fs.lookup f with
      | some (.loc m) => (fe δ κ).out δ (dFx2 f n m C δ)
      | _ => .bad) else .bad
    | none => .bad
  | _, _ => .bad
def nFldExt (Cs : List Str) (f : Str) (fo fe : Sc D) : Sn := fun δ κ => (fo δ κ).out δ (dFx1 Cs f fe δ)
section
variable {X : Cx} {ca : Str → Addr} {W : WX} {o e : Expr} {f : Str} {fo fe : Sc D} {pos tpos : Pos} {Cs : List Str}
end
def dSortL (n : Nat) (mk q : Str) (fb : Sm → Res D) (ds : List D) (κ : Cells) : Rk D := match κ[n]? with
  | some (.tab mk' q') => if mk' = mk ∧ q' = q then (on1 (kSortK fun d => fb [.sh d]) ds).at κ else .bad
  | _ => .bad
end Pd

set_option Elab.async false
set_option linter.all false
set_option maxRecDepth 100000
set_option maxHeartbeats 4000000
namespace Pd
open PySem L2
def kSum : D → Res D
  | .lst ds => match intsOf ds with
    | some ns => .ok (.int ns.sum)
    | none => .bad
  | .scr ns => .ok (.int ns.sum)
  | _ => .bad
def kTupl : List D → Res D
  | [.lst ds] => .ok (.tup ds)
  | [.tup ds] => .ok (.tup ds)
  | _ => .bad
section
variable {X : Cx} {ca : Str → Addr} {W : WX} {a : Expr} {es : List Expr} {fl : Sm → Res (List D)} {fl2 : Sc (List D)} {pos p : Pos}
end
section
variable {g : G} {Hc H0c A B A' H' : Hp} {σ : St} {δ : Sm}
end
section
variable {X : Cx} {ca : Str → Addr} {W : WX} {elt tg iter : Expr} {ifs : List Expr} {scope : Scope} {own : List (Str × Nat)} {it : Sm → Res (List D)} {gt : D → Sm → Res Sm} {t : Sm → Res Bool} {fe : Sm → Res D} {tgr : TG} {pos : Pos}
end
theorem kSum_ok (ns : List Int) : kSum (.lst (ns.map D.int)) = .ok (.int ns.sum) := by
  unfold kSum
  dsimp only
  rw [intsOf_map]
theorem kTupl_lst (ds : List D) : kTupl [.lst ds] = .ok (.tup ds) := Eq.trans rfl rfl
theorem kTupl_tup (ds : List D) : kTupl [.tup ds] = .ok (.tup ds) := Eq.trans rfl rfl
end Pd

set_option Elab.async false
set_option linter.all false
set_option maxRecDepth 100000
set_option maxHeartbeats 4000000
namespace Pd
open PySem L2
structure HasB (bm : List Value) (B : String) : Prop where
  b : bm.contains (.type B) = true
  a : bm.contains (.type "AttributeError") = false
  n : bm.contains (.type "NameError") = false
section
open PySem.W PySem.HandSPX Builtin Builtin.ObjectAttr
variable {M : Model} {prog : Program} {w : World} {A : Around} {E : Value → Shared → Prop} {R : Result → Shared → Prop} {h : Heap} {g : Array GenState} {d : Drawn} {t : Nat} {os : OsState}
variable {nm q : Str} {C N : Addr} {bs bm bmB : List Value} {hdct : Bool} {sn : List Str} {sub : List Value} {ab : Bool} {col : Option Bool} {dd : Option Addr} {k0 k1 k2 k3 k5 : Option Value} {B newId initId : String}
theorem check_new_kw (F : ExcBaseFacts B newId initId bmB) (hT : HasB bm B) {rest : List Value} {kw : List (Str × Value)} {Q : Unit → Shared → Prop}
    (hC : h.get? C = some (excClassObj nm q C N bs bm hdct sn sub ab col dd k0 k1 k2 k3 k5 newId)) (hq : Q () ⟨h, g, d, t, os⟩) : wpAny M A (checkBuiltinCall newId ⟨.ref C :: rest, kw⟩) Q E ⟨h, g, d, t, os⟩ := by
  have hcont : (Value.ref C :: bm).contains (.type B) = true := by rw [List.contains_cons, hT.b, Bool.or_true]
  have hstar := F.noStar
  simp only [checkBuiltinCall, F.newKind, F.newSplit, F.newRow]
  repeat (first | refine wpAny_loadPart_at hC ?_ | (refine wpAny_isSubtype_exc hC ?_; rw [hcont]) | refine wpAny_staticBase_exc hC ?_ | refine wpAny_madeBy_exc hC ?_ | simp only [bne_self_eq_false, Bool.false_eq_true, if_false] | wp_step)
  exact hq
theorem new_kw (F : ExcBaseFacts B newId initId bmB) (hT : HasB bm B) {rest : List Value} {kw : List (Str × Value)}
    (hC : h.get? C = some (excClassObj nm q C N bs bm hdct sn sub ab col dd k0 k1 k2 k3 k5 newId))
    (hq : R (.ok (.ret (.ref (h.objs.size + 1)))) ⟨(h.push { cls := .type "tuple", data := .seq rest.toArray }).push
      { cls := .ref C, data := .fields #[.ref h.objs.size, .none, .none, .none, .bool false, .none] }, g, d, t, os⟩) (hrest : rest.length ≤ sizeLine) :
    codeAny (model prog w) A (.builtin newId ⟨.ref C :: rest, kw⟩) R ⟨h, g, d, t, os⟩ := by
  have hends := F.ends
  have hcB : (Value.ref C :: bm).contains (.type B) = true := by rw [List.contains_cons, hT.b, Bool.or_true]
  have hcA : (Value.ref C :: bm).contains (.type "AttributeError") = false := by rw [List.contains_cons, hT.a]; rfl
  have hcN : (Value.ref C :: bm).contains (.type "NameError") = false := by rw [List.contains_cons, hT.n]; rfl
  refine codeAny_builtinAt F.entry ?_
  unfold Builtin.«BaseException.__new__»
  refine wpAt_bind ?_
  show wpAt _ _ _ (stack >>= _) _ _ _
  refine wpAt_bind (wpAt_stack fun p below => wpAt_of_wpAny ?_)
  wp_walk
  refine wpAt_of_wpAny ?_
  rw [F.owner]
  repeat (first | with_reducible refine wpAny_madeHere_exc F.canon hC ?_ | with_reducible refine wpAny_loadPart_at hC ?_ | (with_reducible refine wpAny_isSubtype_exc hC ?_; first | rw [hcB] | rw [hcA] | rw [hcN]) | wp_step)
  show R _ _
  rw [Heap.size_push]
  exact hq
theorem type_call_kw (F : ExcBaseFacts B newId initId bmB) (hT : HasB bm B) {rest : List Value} {kw : List (Str × Value)} {fI : Addr} {Q : Fin → Shared → Prop}
    (hC : h.get? C = some (excClassObj nm q C N bs bm hdct sn sub ab col dd k0 k1 k2 k3 k5 newId))
    (hi : W.Looks (model prog w) h (typeLookup (.ref C) "__init__") (some (.ref fI))) (hb : ∀ self, W.Looks (model prog w) h (bindSpecial (.ref fI) self) (.ref fI, [self])) (hrest : rest.length ≤ sizeLine)
    (hq : codeAny (model prog w) A (.call (.ref fI) ⟨.ref (h.objs.size + 1) :: rest, kw⟩)
      (fun r s' => match r with | .ok (.ret v) => v = .none ∧ Q (.done (.ret (.ref (h.objs.size + 1)))) s' | .ok _ => False | .error e => E e s')
      ⟨(h.push (W.kdv_tup rest)).push (excO C h.objs.size), g, d, t, os⟩) :
    wpAny (model prog w) A (Builtin.«type.__call__» ⟨.ref C :: rest, kw⟩) Q E ⟨h, g, d, t, os⟩ := by
  repeat (first | with_reducible refine wpAny_loadPart_at hC ?_ | with_reducible refine wpAny_madeBy_exc hC ?_ | wp_step)
  refine codeAny_call_builtin_code (Code.quiet_builtin _ F.quiet) (check_new_kw F hT hC ?_)
  refine new_kw F hT hC ?_ hrest
  show wpAny _ _ _ _ _ _
  have k : ∀ b o, h.get? b = some o → ((h.push (W.kdv_tup rest)).push (excO C h.objs.size)).get? b = some o := fun b o e => Heap.get?_push_of_some _ (Heap.get?_push_of_some _ e)
  have hC₁ := k _ _ hC
  have hget : ((h.push (W.kdv_tup rest)).push (excO C h.objs.size)).get? (h.objs.size + 1) = some (excO C h.objs.size) := by heap_get
  have hcC : (Value.ref C :: bm).contains (.ref C) = true := by simp
  have i1 := hi.keeps k
  have b1 := (hb (.ref (h.objs.size + 1))).keeps k
  unfold isInstance
  repeat (first | with_reducible refine wpAny_loadPart_at hget ?_ | (with_reducible refine wpAny_isSubtype_exc hC₁ ?_; rw [hcC]) | wp_step)
  show wpAny _ _ (typeLookup (.ref C) _) _ _ _
  refine i1.at ?_
  refine wpAny_holding (wpAny_bind (b1.at ?_))
  refine wpAny_bind (wpAny_call (codeAny_mono hq fun r s' z => ?_))
  rcases r with e | (v | _ | _ | _) <;> first | exact z | exact z.elim | skip
  obtain ⟨rfl, z⟩ := z
  first
    | exact wpAny_pure (wpAny_pure z)
    | (wp_walk; exact z)
theorem call_kw (F : ExcBaseFacts B newId initId bmB) (hT : HasB bm B) {rest : List Value} {kw : List (Str × Value)} {fI : Addr}
    (hC : h.get? C = some (excClassObj nm q C N bs bm hdct sn sub ab col dd k0 k1 k2 k3 k5 newId))
    (hi : W.Looks (model prog w) h (typeLookup (.ref C) "__init__") (some (.ref fI))) (hb : ∀ self, W.Looks (model prog w) h (bindSpecial (.ref fI) self) (.ref fI, [self])) (hrest : rest.length ≤ sizeLine)
    (hq : codeAny (model prog w) (A.under (.builtin "type.__call__" ⟨.ref C :: rest, kw⟩)) (.call (.ref fI) ⟨.ref (h.objs.size + 1) :: rest, kw⟩) (W.InitBack (h.objs.size + 1) R)
      ⟨(h.push (W.kdv_tup rest)).push (excO C h.objs.size), g, d, t, os⟩) :
    codeAny (model prog w) A (.call (.ref C) ⟨rest, kw⟩) R ⟨h, g, d, t, os⟩ := by
  have f1 := tc_lookup
  have f2 := tc_bind (.ref C)
  have hTy : (⟨h, g, d, t, os⟩ : Shared).TypeIs (.ref C) "type" := ⟨_, hC, rfl⟩
  refine codeAny_of_tree ?_
  show wpAny _ _ (callAny (.ref C) _) _ _ _
  repeat (any_goals (first | assumption | with_reducible refine wpAny_loadPart_at hC ?_ | wp_step))
  refine ⟨rfl, ?_⟩
  refine codeAny_call_builtin_at (Code.quiet_builtin _ (by decide +kernel)) entry_typeCall (wpAny_check_type_call_sub hC (type_call_kw F hT hC hi hb hrest ?_))
  refine codeAny_mono hq fun r s' z => ?_
  rcases r with e | (v | _ | _ | _) <;> exact z
end
end Pd

set_option Elab.async false
set_option linter.all false
set_option maxRecDepth 100000
set_option maxHeartbeats 4000000
namespace Pd
open PySem L2
variable {vn : Bool}
inductive XSrc where
  | s (x : Str)
  | p (i : Nat)
def XSrc.v (us : List V) : XSrc → V
  | .s x => .str x
  | .p i => us.getD i .non
def XSrc.d (ds : List D) : XSrc → D
  | .s x => .str x
  | .p i => ds.getD i .non
def XSrc.te : XSrc → TE
  | .s x => L2.tC (.str x)
  | .p i => tVar (i + 1)
def accV (us : List V) : List (Str × XSrc) → List (Str × V) → List (Str × V)
  | [], fs => fs
  | (f, s) :: r, fs => accV us r ((f, s.v us) :: fs)
def accD (ds : List D) : List (Str × XSrc) → List (Str × D) → List (Str × D)
  | [], fs => fs
  | (f, s) :: r, fs => accD ds r ((f, s.d ds) :: fs)
theorem rpa_getD {g : G} {H : Hp} : ∀ {us : List V} {ds : List D} (i : Nat), RpA g H us ds → Rp g H (us.getD i .non) (ds.getD i .non)
  | _, _, _, .nil => .non
  | _, _, 0, .cons q _ => q
  | _, _, i + 1, .cons (v := v) (vs := vs) (d := d) (ds := ds) _ r => by
    have := rpa_getD (us := vs) (ds := ds) i r
    simpa using this
theorem XSrc.rp {g : G} {H : Hp} {us : List V} {ds : List D} (h : RpA g H us ds) : ∀ s : XSrc, Rp g H (s.v us) (s.d ds)
  | .s x => .str x
  | .p i => rpa_getD i h
theorem acc_fr {g : G} {H : Hp} {us : List V} {ds : List D} (h : RpA g H us ds) : ∀ (src : List (Str × XSrc)) {fs : List (Str × V)} {gs : List (Str × D)}, FR g H fs gs → FR g H (accV us src fs) (accD ds src gs)
  | [], _, _, q => q
  | (f, s) :: r, fs, gs, q => acc_fr h r (fs := (f, s.v us) :: fs) (gs := (f, s.d ds) :: gs) ⟨by rw [List.map_cons, List.map_cons, q.1], .cons (s.rp h) q.2⟩
def tI (K : PySem.W.Frag) (C : Addr) : List (Str × XSrc) → TS
  | [] => tNext
  | (f, s) :: r => tSeq (tSt K C f (tVar 0) s.te) (tI K C r)
def spXA (C : Addr) (src : List (Str × XSrc)) (m : Nat) : Sp := fun vs H Q _ => ∃ a us, vs = .ref a :: us ∧ us.length = m ∧ H a = some (exo a C none) ∧ ∀ d, H d = none → d ≠ a → Q .non (upd (upd H d (exd d (accV us src []))) a (exo a C (some d)))
theorem te_at {σ : L2.St} {H : Hp} {Q : VK} {us : List V} (hs : ∀ i v, us[i]? = some v → σ[i + 1]? = some (some v)) {m : Nat} (hm : us.length = m) (s : XSrc) (hp : ∀ i, s = .p i → i < m) (h : Q (s.v us) H) : s.te σ H Q := by
  cases s with
  | s x => exact h
  | p i =>
    have hi := hp i rfl
    rw [← hm] at hi
    have e : us[i]? = some us[i] := List.getElem?_eq_getElem hi
    have e2 : us.getD i .non = us[i] := by simp [List.getD, e]
    refine ⟨us[i], hs i _ e, ?_⟩
    have h' : Q (us.getD i .non) H := h
    rw [e2] at h'
    exact h'
theorem upd_idem {H : Hp} {d : Addr} {o : HO} (h : H d = some o) : upd H d o = H := by
  funext b
  by_cases e : b = d
  · rw [e, upd_same, h]
  · rw [upd_ne e]
theorem upd_twice {H : Hp} {d : Addr} {o o' : HO} : upd (upd H d o) d o' = upd H d o' := by
  funext b
  by_cases e : b = d
  · rw [e, upd_same, upd_same]
  · rw [upd_ne e, upd_ne e, upd_ne e]
theorem upd_swap {H : Hp} {a d : Addr} {o o' : HO} (h : d ≠ a) : upd (upd H a o) d o' = upd (upd H d o') a o := by
  funext b
  by_cases e : b = d
  · rw [e, upd_same, upd_ne h, upd_same]
  · by_cases e2 : b = a
    · rw [e2, upd_ne (Ne.symm h), upd_same, upd_same]
    · rw [upd_ne e, upd_ne e2, upd_ne e2, upd_ne e]
theorem tI_later {K : PySem.W.Frag} {C a dx : Addr} {σ : L2.St} {us : List V} {m : Nat} {D : Ends} (h0 : σ[0]? = some (some (.ref a))) (hs : ∀ i v, us[i]? = some v → σ[i + 1]? = some (some v)) (hm : us.length = m) (ne : dx ≠ a) :
    ∀ (src : List (Str × XSrc)) (fs : List (Str × V)) (H : Hp), (∀ x ∈ src, PySem.W.findIn K (.ref C) x.1 = some none ∧ ∀ i, x.2 = .p i → i < m) → H a = some (exo a C (some dx)) → H dx = some (exd dx fs) → fs.length + src.length ≤ 900 → D.nx σ (upd H dx (exd dx (accV us src fs))) → tI K C src D σ H
  | [], fs, H, _, _, hd, _, h => by
    have h' : D.nx σ (upd H dx (exd dx fs)) := h
    rw [upd_idem hd] at h'
    exact h'
  | (f, s) :: r, fs, H, hx, ha, hd, hl, h => by
    rw [List.length_cons] at hl
    have x1 := hx (f, s) (List.mem_cons_self ..)
    refine te_at hs hm s x1.2 ⟨.ref a, h0, a, rfl, x1.1, .inr ⟨dx, fs, ha, hd, by omega, ?_⟩⟩
    refine tI_later h0 hs hm ne r ((f, s.v us) :: fs) _ (fun y hy => hx y (List.mem_cons_of_mem _ hy)) ?_ upd_same (by rw [List.length_cons]; omega) ?_
    · rw [upd_ne (Ne.symm ne)]
      exact ha
    · rw [upd_twice]
      exact h
theorem tI_first {K : PySem.W.Frag} {C a : Addr} {σ : L2.St} {us : List V} {m : Nat} {D : Ends} (h0 : σ[0]? = some (some (.ref a))) (hs : ∀ i v, us[i]? = some v → σ[i + 1]? = some (some v)) (hm : us.length = m)
    (f : Str) (s : XSrc) (r : List (Str × XSrc)) (H : Hp) (hx : ∀ x ∈ (f, s) :: r, PySem.W.findIn K (.ref C) x.1 = some none ∧ ∀ i, x.2 = .p i → i < m) (ha : H a = some (exo a C none)) (hl : r.length ≤ 800) (h : ∀ d, H d = none → d ≠ a → D.nx σ (upd (upd H d (exd d (accV us ((f, s) :: r) []))) a (exo a C (some d)))) : tI K C ((f, s) :: r) D σ H := by
  have x1 := hx (f, s) (List.mem_cons_self ..)
  refine te_at hs hm s x1.2 ⟨.ref a, h0, a, rfl, x1.1, .inl ⟨ha, fun dx hd ne => ?_⟩⟩
  refine tI_later h0 hs hm ne r [(f, s.v us)] _ (fun y hy => hx y (List.mem_cons_of_mem _ hy)) upd_same (by rw [upd_ne ne, upd_same]) (by rw [List.length_cons, List.length_nil]; omega) ?_
  rw [upd_swap ne, upd_twice]
  exact h dx hd ne
theorem start_at (N : List Str) (a : V) (us : List V) : (L2.start N (a :: us))[0]? = some (some a) ∧ ∀ i v, us[i]? = some v → (L2.start N (a :: us))[i + 1]? = some (some v) := by
  unfold L2.start
  refine ⟨by simp, fun i v h => ?_⟩
  have hi : i < us.length := (List.getElem?_eq_some_iff.mp h).1
  rw [List.map_cons, List.cons_append, List.getElem?_cons_succ, List.getElem?_append_left (by rw [List.length_map]; exact hi), List.getElem?_map, h]
  rfl
section
variable {P : Program} {w : World} {K : PySem.W.Frag} {mg : Str → Option Value} {base : Heap} {x qual : Str} {params : Arguments} {body : List Stmt} {scope : Scope} {f C : Addr} {fd : FuncData} {dvs : List V} {ps : List Str}
theorem initA_ok (F : FunD K x qual params body scope dvs [] f fd) (S : FnScope ps ps scope) (f1 : Str) (s1 : XSrc) (r : List (Str × XSrc)) {m : Nat} (hm : ps.length = m + 1) (hx : ∀ x ∈ (f1, s1) :: r, PySem.W.findIn K (.ref C) x.1 = some none ∧ ∀ i, x.2 = .p i → i < m) (hl : r.length ≤ 800)
    (hb : ∀ (cdv : Value) (A : Around) (outer : List Env) (s : Shared) (H : Hp) (E : XK), PSs (cxOf (L2.CX P w) P w K mg base ps qual scope f cdv A outer s H E) body (tI K C ((f1, s1) :: r))) :
    FnOk P w K mg base (L2.CX P w) 1 f fd ps (spXA C ((f1, s1) :: r) m) := by
  refine F.ok S (fun vs H Q E h => ?_) (fun cdv A outer s H vs Q E hr h => ⟨_, hb cdv A outer s H E, ?_⟩)
  · obtain ⟨a, us, rfl, e, _⟩ := h
    rw [List.length_cons, e, hm]
  · obtain ⟨a, us, rfl, e, ha, k⟩ := h
    have sa := start_at ps (.ref a) us
    exact tI_first sa.1 sa.2 e f1 s1 r H hx ha hl k
structure Bx (K : PySem.W.Frag) (fd : FuncData) (ps : List Str) (n : Nat) (ks : List Str) (dvs : List V) (ix : List Pk) : Prop where
  ex : ∃ its : List Value, Vals dvs its ∧ ∀ (s : Shared) (us ws : List Value), K.In s.heap → us.length = n → ws.length = ks.length → BindsTo s fd ⟨us, ks.zip ws⟩ (ps.zip (pick us ws its ix))
theorem bx0 {ks : List Str} (F : FunD K x qual params body scope [] [] f fd) (n : Nat) (ix : List Pk)
    (h : ∀ (kV doc pm : Value) (an : Option Addr) (cdv ct : Value) (us ws : List Value), us.length = n → ws.length = ks.length → bindArgs (PySem.W.fnOf x qual params body scope .none kV doc pm an cdv ct) ⟨us, ks.zip ws⟩ = pure (ps.zip (pick us ws [] ix))) :
    Bx K fd ps n ks [] ix := by
  obtain ⟨oc, od, dV, kV, doc, pm, an, cdv, ct, osl, rfl, lk, hcd, hD, hK⟩ := F.ex
  rcases hD with ⟨_, rfl⟩ | ⟨e, _⟩
  · exact ⟨[], .nil, fun s us ws _ h1 h2 => .of_eq (h kV doc pm an cdv ct us ws h1 h2)⟩
  · exact absurd rfl e
end
def Pk.up : Pk → Pk
  | .p i => .p (i + 1)
  | .k i => .k i
  | .d i => .d i
theorem pick_up {α : Type} (x : α) (us ws its : List α) : ∀ ix : List Pk, pick (x :: us) ws its (.p 0 :: ix.map Pk.up) = x :: pick us ws its ix := by
  have h : ∀ ix : List Pk, pick (x :: us) ws its (ix.map Pk.up) = pick us ws its ix := by
    intro ix
    induction ix with
    | nil => rfl
    | cons k r ih =>
      cases k with
      | p i => rw [List.map_cons]; show _ ++ _ = _ ++ _; rw [ih, List.getElem?_cons_succ]
      | k i => rw [List.map_cons]; show _ ++ _ = _ ++ _; rw [ih]
      | d i => rw [List.map_cons]; show _ ++ _ = _ ++ _; rw [ih]
  intro ix
  show (x :: us)[0]?.toList ++ _ = _
  rw [h]
  rfl
structure BaseK (bm : List Value) (newId : String) : Prop where
  ex : ∃ B initId bmB, ExcBaseFacts B newId initId bmB ∧ HasB bm B
theorem BaseF.k {B : String} {bm : List Value} {newId initId : String} (h : BaseF B bm newId initId) : BaseK bm newId := ⟨_, _, _, h.bf, h.bf.hasB, h.bf.noAttr, h.bf.noName⟩
structure XaE (P : Program) (w : World) (K : PySem.W.Frag) (mg : Str → Option Value) (base : Heap) (ca : Str → Addr) (c : Str) (B : String) (bm : List Value) (newId initId : String) (ps : List Str) (src : List (Str × XSrc)) (m : Nat) (fI : Addr) (fd : FuncData) : Prop where
  bf : BaseK bm newId
  t : XcC K (ca c) bm newId
  iC : PySem.W.findIn K (.ref (ca c)) "__init__" = some (some (.ref fI))
  tI : PySem.W.typeIn K (.ref fI) = some (.type "function")
  g : FnOk P w K mg base (L2.CX P w) 1 fI fd ps (spXA (ca c) src m)
  pl : ps.length = m + 1
  m : mg c = some (.ref (ca c))
section
variable {X : Cx} {ca : Str → Addr} {W : WX} {c x : Str} {B : String} {bm : List Value} {newId initId : String} {ps ks : List Str} {src : List (Str × XSrc)} {m n : Nat} {fI : Addr} {fd : FuncData} {dvs : List V} {dds : List D} {ix : List Pk} {p p' pos : Pos} {e : Expr} {es : List Expr} {kws : List Keyword}
theorem run_mkx {pins : List (Addr × Obj)} {σ : L2.St} {H : Hp} {s : Shared} {Q : XK} {us ws : List Value} {vs zs : List V} (T : XaE X.prog X.w X.K X.mg X.base ca c B bm newId initId ps src m fI fd) (hb : Bx X.K fd ps (n + 1) ks dvs (.p 0 :: ix.map Pk.up)) (hr : Room 2 X.A) 
    (I : Inv X pins σ H s) (r : Vals vs us) (rz : Vals zs ws) (l1 : vs.length = n) (l2 : zs.length = ks.length) (lm : (pick vs zs dvs ix).length = m) (hn : n ≤ 1000)
    (h : ∀ d, H d = none → Q (.ref (ca c)) (some d) (upd H d (.xd (accV (pick vs zs dvs ix) src [])))) :
    wpAny (model X.prog X.w) X.A (call (.ref (ca c)) us (ks.zip ws)) (L2N.MkP X pins σ Q) X.xe s := by
  obtain ⟨nm, q, N, bs, sn, sub, ab, col, dd, k0, k1, k2, k3, k5, hC⟩ := T.t.cls
  obtain ⟨its, rT, bnd⟩ := hb.ex
  obtain ⟨_, _, _, bF, hT⟩ := T.bf.ex
  obtain ⟨hp, g, dr, tk, os⟩ := s
  have hsz : hp.objs.size ≤ hp.objs.size + 1 := Nat.le_succ _
  have hn0 : H (hp.objs.size + 1) = none := I.hok.fresh hsz
  have kk : ∀ b o, hp.get? b = some o → ((hp.push (PySem.W.kdv_tup us)).push (PySem.HandSPX.excO (ca c) hp.objs.size)).get? b = some o := fun b o e => Heap.get?_push_of_some _ (Heap.get?_push_of_some _ e)
  have hget : ((hp.push (PySem.W.kdv_tup us)).push (PySem.HandSPX.excO (ca c) hp.objs.size)).get? (hp.objs.size + 1) = some (PySem.HandSPX.excO (ca c) hp.objs.size) := by heap_get
  have I2 : Inv X pins σ (upd H (hp.objs.size + 1) (exo (hp.objs.size + 1) (ca c) none)) ⟨(hp.push (PySem.W.kdv_tup us)).push (PySem.HandSPX.excO (ca c) hp.objs.size), g, dr, tk, os⟩ :=
    I.laid (t' := tk) (a := hp.objs.size + 1) (o := exo (hp.objs.size + 1) (ca c) none) (h' := (hp.push (PySem.W.kdv_tup us)).push (PySem.HandSPX.excO (ca c) hp.objs.size)) kk hsz (exo_ok hget)
  have r0 : Vals (V.ref (hp.objs.size + 1) :: vs) (Value.ref (hp.objs.size + 1) :: us) := .cons rfl r
  have bt := bnd ⟨(hp.push (PySem.W.kdv_tup us)).push (PySem.HandSPX.excO (ca c) hp.objs.size), g, dr, tk, os⟩ (Value.ref (hp.objs.size + 1) :: us) ws I2.kIn (by rw [List.length_cons, ← r.length, l1]) (by rw [← rz.length, l2])
  have hus : us.length ≤ sizeLine := by
    rw [← r.length, l1, sizeLine_eq]
    omega
  have hq : spXA (ca c) src m (.ref (hp.objs.size + 1) :: pick vs zs dvs ix) (upd H (hp.objs.size + 1) (exo (hp.objs.size + 1) (ca c) none))
      (fun v H2 => v = .non ∧ ∃ (d : Addr) (fs : List (Str × V)), H2 (hp.objs.size + 1) = some (exo (hp.objs.size + 1) (ca c) (some d)) ∧ H2 d = some (exd d fs) ∧ H d = none ∧ Q (.ref (ca c)) (some d) (upd (del H2 (hp.objs.size + 1)) d (.xd fs))) (fun _ _ _ => False) := by
    refine ⟨_, _, rfl, lm, upd_same, fun d hd ne => ⟨rfl, d, accV (pick vs zs dvs ix) src [], upd_same, ?_, ?_, ?_⟩⟩
    · rw [upd_ne ne, upd_same]
    · rw [upd_ne ne] at hd
      exact hd
    · rw [upd_ne ne] at hd
      rw [del_back hn0 ne]
      exact h d hd
  refine wpAny_call (call_kw bF hT (I.kIn _ _ hC) (PySem.W.looks_findIn I.kIn T.iC) (fun self => PySem.W.bind_fn I.kIn self T.tI) hus
    (codeAny_mono (T.g.run _ X.stack _ _ ⟨Value.ref (hp.objs.size + 1) :: us, ks.zip ws⟩ _ _ _ (fun _ _ _ => False) (hr.make (ca c) us (ks.zip ws)) (I2.env0.make (ca c) us (ks.zip ws)) bt (pick_vals r0 rz rT _) (by rw [pick_up]; exact hq)) fun r s' hq' => ?_))
  cases r with
  | error er => exact passL (X := X) pins σ _ _ er s' I2 hq'
  | ok fl =>
    cases fl with
    | ret u =>
      obtain ⟨v, H2, os2, bare2, un2, hok2, rv, ev, d, fs, ea, ed, hd1, q2⟩ := hq'
      subst ev
      obtain ⟨h2, g2, d2, t2, os'⟩ := s'
      exact ⟨rv, mk_endN (raises_own T.t.exC T.t.tyC) I hsz kk un2 hok2 os2 bare2 ea ed hd1 q2⟩
    | next => exact False.elim hq'
    | brk => exact False.elim hq'
    | cont => exact False.elim hq'
def eAcc (src : List (Str × XSrc)) (dds : List D) (ix : List Pk) (fa fk : Sm → Res (List D)) : Sm → Res (List (Str × D)) := fun δ => (fa δ).bind fun ds => (fk δ).bind fun es => .ok (accD (pick ds es dds ix) src [])
def mRaiseA (c : Str) (f : Sm → Res (List (Str × D))) : Sm → Out := fun δ => (f δ).out δ fun fs => .xc c fs δ
abbrev tMk1 (g : G) (W : WX) (C : Addr) (f : Sm → Res (List (Str × D))) : L2.St → Hp → XK → Prop := fun σ H Q => tG g W (FR g) f σ H fun fvs B => ∀ d, B d = none → Q (.ref C) (some d) (upd B d (.xd fvs))
theorem pmk1 {fa fk : Sm → Res (List D)} (T : XaE X.prog X.w X.K X.mg X.base ca c B bm newId initId ps src m fI fd) (hb : Bx X.K fd ps (n + 1) ks dvs (.p 0 :: ix.map Pk.up)) (hd : ∀ H, RpA ⟨X.K, ca, X.w⟩ H dvs dds) (hr : Room 2 X.A)
    (ha : PDA X ca W (e :: es) fa) (hkw : PDK X ca W kws fk) (la : ALen fa n) (lk : ALen fk ks.length) (lm : ∀ ds zs : List D, ds.length = n → zs.length = ks.length → (pick ds zs dds ix).length = m) (hn : n ≤ 1000) (hg : Gl X c := by rfl)
    (hall : (backToKw pos (keywordEach kws X.env)).all (·.1.isSome) = true := by rfl) (hks : (backToKw pos (keywordEach kws X.env)).filterMap (·.1) = ks := by rfl)
    (hdb : (c == ("__debug__" : Str)) = false := by decide) (he : starEach (e :: es) X.env = (false, eval e X.env) :: starEach es X.env := by rfl)
    (hpl : ((backTo pos (starEach (e :: es) X.env)).any (·.1) || (backToKw pos (keywordEach kws X.env)).any (·.1.isNone)) = false := by rfl) :
    L2N.PMk X (.Call (.Name c p) (e :: es) kws pos) (tMk1 ⟨X.K, ca, X.w⟩ W (ca c) (eAcc src dds ix fa fk)) := by
  intro pins s σ H Q I h
  obtain ⟨Hc, H0c, H0, δ, S, pp⟩ := h
  refine wpAny_Call_Name_kw (ld_glob I hg T.m ?_ hdb)
  refine PySem.W.callWith_KW (h₀ := X.base) I.ok.mod.kin T.t.kC hall (thn (ha.run pos pins s σ H (fun vs B => ∃ ds A, fa δ = .ok ds ∧ Stt ⟨X.K, ca, X.w⟩ Hc H0c A B σ δ ∧ RpA ⟨X.K, ca, X.w⟩ A vs ds ∧ Post ⟨X.K, ca, X.w⟩ W σ A B (FR ⟨X.K, ca, X.w⟩) (fun fvs B => ∀ d, B d = none → Q (.ref (ca c)) (some d) (upd B d (.xd fvs))) ((fk δ).bind fun es => .ok (accD (pick ds es dds ix) src []))) I
    (Post.bindE S pp fun vs ds A B e1 w S1 r1 p1 => ⟨ds, A, e1, S1, r1, p1⟩)) fun us s1 ⟨vs, H1, I1, rv, ds, A, e1, S1, r1, p1⟩ => ?_) hpl he
  refine thn (hkw.run pos pins s1 σ H1 (fun zs B => ∃ es A', fk δ = .ok es ∧ Stt ⟨X.K, ca, X.w⟩ Hc H0c A' B σ δ ∧ Same A A' ∧ RpA ⟨X.K, ca, X.w⟩ A' zs es ∧ Post ⟨X.K, ca, X.w⟩ W σ A' B (FR ⟨X.K, ca, X.w⟩) (fun fvs B => ∀ d, B d = none → Q (.ref (ca c)) (some d) (upd B d (.xd fvs))) (.ok (accD (pick ds es dds ix) src []))) I1
    (Post.bindE S1 p1 fun zs es A' B e2 w S2 r2 p2 => ⟨es, A', e2, S2, w.up0, r2, p2⟩)) fun ws s2 ⟨zs, H2, I2, rz, es, A', e2, S2, u2, r2, p2⟩ => ⟨I2.kIn, ?_⟩
  rw [hks]
  have l1 := la δ ds e1
  have l2 := lk δ es e2
  have rp := pick_rpa (r1.mono u2) r2 (hd A') ix
  exact run_mkx T hb hr I2 rv rz (by rw [r1.length]; exact l1) (by rw [r2.length]; exact l2) (by rw [rp.length]; exact lm ds es l1 l2) hn (p2 _ A' H2 (Grow.refl S2.s0) (acc_fr rp src ⟨rfl, .nil⟩))
theorem pds_raiseA {call : Expr} {f : Sm → Res (List (Str × D))} (hc : X.calm = true) (tk : TakesV vn X W) (h : L2N.PMk X call (tMk1 ⟨X.K, ca, X.w⟩ W (ca c) f)) : PDS X ca W (.Raise (some call) none pos) (mRaiseA c f) := by
  refine psI (ps_raiseV hc tk h) fun E σ H h => ?_
  obtain ⟨Hc, H0c, H0, δ, S, p⟩ := h
  refine Post.out S p fun fvs fs A B w S1 r p1 d hd => ?_
  exact p1 d fvs σ A _ (S1.grow (Grow.lay S1.s0 hd)) upd_same r
def zAcc (src : List (Str × XSrc)) (dds : List D) (ix : List Pk) (fa fk : Sc (List D)) : Sc (List (Str × D)) := fun δ κ => (fa δ κ).bind fun ds κ => (fk δ κ).bind fun es κ => .ok (accD (pick ds es dds ix) src []) κ
def nRaiseA (c : Str) (f : Sc (List (Str × D))) : Sn := fun δ κ => (f δ κ).out δ fun fs κ => .xc c fs δ κ
abbrev tMk2 (g : G) (W : WX) (C : Addr) (f : Sc (List (Str × D))) : L2.St → Hp → XK → Prop := fun σ H Q => Pd.tC g W (FR g) f σ H fun fvs B => ∀ d, B d = none → Q (.ref C) (some d) (upd B d (.xd fvs))
end
def cRz (c : Str) (δ : Sm) : List (Str × D) → Out := fun fs => .xc c fs δ
def cAc2 (src : List (Str × XSrc)) (dds : List D) (ix : List Pk) (ds : List D) : List D → Res (List (Str × D)) := fun es => .ok (accD (pick ds es dds ix) src [])
def cAc (src : List (Str × XSrc)) (dds : List D) (ix : List Pk) (fk : Sm → Res (List D)) (δ : Sm) : List D → Res (List (Str × D)) := fun ds => (fk δ).bind (cAc2 src dds ix ds)
theorem mRaiseA_eq (c : Str) (f : Sm → Res (List (Str × D))) (δ : Sm) : mRaiseA c f δ = (f δ).out δ (cRz c δ) := Eq.trans rfl rfl
theorem cRz_eq (c : Str) (δ : Sm) (fs : List (Str × D)) : cRz c δ fs = .xc c fs δ := Eq.trans rfl rfl
theorem eAcc_eq (src : List (Str × XSrc)) (dds : List D) (ix : List Pk) (fa fk : Sm → Res (List D)) (δ : Sm) : eAcc src dds ix fa fk δ = (fa δ).bind (cAc src dds ix fk δ) := Eq.trans rfl rfl
theorem cAc_eq (src : List (Str × XSrc)) (dds : List D) (ix : List Pk) (fk : Sm → Res (List D)) (δ : Sm) (ds : List D) : cAc src dds ix fk δ ds = (fk δ).bind (cAc2 src dds ix ds) := Eq.trans rfl rfl
theorem cAc2_eq (src : List (Str × XSrc)) (dds : List D) (ix : List Pk) (ds es : List D) : cAc2 src dds ix ds es = .ok (accD (pick ds es dds ix) src []) := Eq.trans rfl rfl
theorem accD_nil (ds : List D) (fs : List (Str × D)) : accD ds [] fs = fs := Eq.trans rfl rfl
theorem accD_s (ds : List D) (f x : Str) (r : List (Str × XSrc)) (fs : List (Str × D)) : accD ds ((f, .s x) :: r) fs = accD ds r ((f, .str x) :: fs) := Eq.trans rfl rfl
theorem accD_p0 (d : D) (ds : List D) (f : Str) (r : List (Str × XSrc)) (fs : List (Str × D)) : accD (d :: ds) ((f, .p 0) :: r) fs = accD (d :: ds) r ((f, d) :: fs) := Eq.trans rfl rfl
theorem accD_p1 (d e : D) (ds : List D) (f : Str) (r : List (Str × XSrc)) (fs : List (Str × D)) : accD (d :: e :: ds) ((f, .p 1) :: r) fs = accD (d :: e :: ds) r ((f, e) :: fs) := Eq.trans rfl rfl
def dRz (c : Str) (δ : Sm) : List (Str × D) → Cells → Ot := fun fs κ => .xc c fs δ κ
def dAc2 (src : List (Str × XSrc)) (dds : List D) (ix : List Pk) (ds : List D) : List D → Cells → Rk (List (Str × D)) := fun es κ => .ok (accD (pick ds es dds ix) src []) κ
def dAc (src : List (Str × XSrc)) (dds : List D) (ix : List Pk) (fk : Sc (List D)) (δ : Sm) : List D → Cells → Rk (List (Str × D)) := fun ds κ => (fk δ κ).bind (dAc2 src dds ix ds)
theorem nRaiseA_eq (c : Str) (f : Sc (List (Str × D))) (δ : Sm) (κ : Cells) : nRaiseA c f δ κ = (f δ κ).out δ (dRz c δ) := Eq.trans rfl rfl
theorem dRz_eq (c : Str) (δ : Sm) (fs : List (Str × D)) (κ : Cells) : dRz c δ fs κ = .xc c fs δ κ := Eq.trans rfl rfl
theorem zAcc_eq (src : List (Str × XSrc)) (dds : List D) (ix : List Pk) (fa fk : Sc (List D)) (δ : Sm) (κ : Cells) : zAcc src dds ix fa fk δ κ = (fa δ κ).bind (dAc src dds ix fk δ) := Eq.trans rfl rfl
theorem dAc_eq (src : List (Str × XSrc)) (dds : List D) (ix : List Pk) (fk : Sc (List D)) (δ : Sm) (ds : List D) (κ : Cells) : dAc src dds ix fk δ ds κ = (fk δ κ).bind (dAc2 src dds ix ds) := Eq.trans rfl rfl
theorem dAc2_eq (src : List (Str × XSrc)) (dds : List D) (ix : List Pk) (ds es : List D) (κ : Cells) : dAc2 src dds ix ds es κ = .ok (accD (pick ds es dds ix) src []) κ := Eq.trans rfl rfl
end Pd

set_option Elab.async false
set_option linter.all false
set_option maxRecDepth 100000
set_option maxHeartbeats 4000000
namespace Pd
open PySem L2
def hApp (j : Nat) (f : List (Str × D) → Sm → Res D) : List (Str × D) → Sm → Out := fun fs => mApp j (f fs)
theorem hApp_eq (j : Nat) (f : List (Str × D) → Sm → Res D) (fs : List (Str × D)) (δ : Sm) : hApp j f fs δ = mApp j (f fs) δ := Eq.trans rfl rfl
end Pd

set_option Elab.async false
set_option linter.all false
set_option maxRecDepth 100000
set_option maxHeartbeats 4000000
namespace Pd
open PySem L2
def isTy : BT → String → Bool
  | .int, n => n == "int" || n == "bool"
  | .str, n => n == "str"
  | .bool, n => n == "bool"
  | .list, n => n == "list"
  | .tuple, n => n == "tuple"
def kIsi2 (T : BT) (d : D) (κ : Cells) : Rk D := match tyOf κ d with
  | some (.type n) => .ok (.bl (isTy T n)) κ
  | _ => .bad
def zIsi (T : BT) (fa : Sc D) : Sc D := fun δ κ => (fa δ κ).bind (kIsi2 T)
section
variable {X : Cx} {ca : Str → Addr} {W : WX} {a : Expr} {fa : Sc D} {pos p p2 : Pos}
end
def tLenSetT (K : PySem.W.Frag) (ta : TE) : TE := fun σ H Q => ta σ H fun x H1 => ∃ (l : Addr) (ks : List (Addr × List Int)), x = V.ref l ∧ SqL K H1 l (ks.map fun p => V.ref p.1) ∧ (∀ p ∈ ks, SqT K H1 p.1 (p.2.map V.int)) ∧ ks.length < 64 ∧ ∀ L : List (List Int), L.Nodup → (∀ k, k ∈ L ↔ k ∈ ks.map (·.2)) → Q (.int L.length) H1
def tupI : D → Option (List Int)
  | .tup ds => intsOf ds
  | _ => none
def tupsI : List D → Option (List (List Int))
  | [] => some []
  | d :: ds => match tupI d, tupsI ds with
    | some k, some ks => some (k :: ks)
    | _, _ => none
def dedL : List (List Int) → List (List Int)
  | [] => []
  | k :: ks => if k ∈ ks then dedL ks else k :: dedL ks
def kLenSet : D → Res D
  | .lst ds => match tupsI ds with
    | some ks => if ks.length < 64 then .ok (.int (dedL ks).length) else .bad
    | none => .bad
  | _ => .bad
section
variable {X : Cx} {ca : Str → Addr} {W : WX} {a : Expr} {fa : Sm → Res D} {fz : Sc D} {pos p p2 q : Pos}
end
theorem zIsi_eq (T : BT) (fa : Sc D) (δ : Sm) (κ : Cells) : zIsi T fa δ κ = (fa δ κ).bind (kIsi2 T) := Eq.trans rfl rfl
theorem kIsi2_tup (T : BT) (ds : List D) (κ : Cells) : kIsi2 T (.tup ds) κ = .ok (.bl (isTy T "tuple")) κ := Eq.trans rfl rfl
theorem kIsi2_lst (T : BT) (ds : List D) (κ : Cells) : kIsi2 T (.lst ds) κ = .ok (.bl (isTy T "list")) κ := Eq.trans rfl rfl
end Pd

set_option Elab.async false
set_option linter.all false
set_option maxRecDepth 100000
set_option maxHeartbeats 4000000
namespace Pd
open PySem L2
variable {vn : Bool}
def nTryOk (m : Sn) : Sn := fun δ κ => match m δ κ with
  | .xc _ _ _ _ => .bad
  | o => o
def oTryOk : Ot → Ot
  | .xc _ _ _ _ => .bad
  | o => o
def kDset3 (y z : D) (n : Nat) (κ : Cells) : Rk D := match dctOf κ (.loc n), keyOf y with
  | some (ks, vs), some k => if vs.length < 16777216 then (match dLook ks vs k with
    | some v => .ok v κ
    | none => .ok z (κ.set n (dPut ks vs k z))) else .bad
  | _, _ => .bad
def kDset (fy fz : Sc D) (δ : Sm) (x : D) (κ : Cells) : Rk D := match x with
  | .loc n => (match dctOf κ (.loc n) with
    | some _ => (fy δ κ).bind fun y κ => (fz δ κ).bind fun z κ => kDset3 y z n κ
    | none => .bad)
  | _ => .bad
def zDset (fo fy fz : Sc D) : Sc D := fun δ κ => (fo δ κ).bind (kDset fy fz δ)
def dDs2 (y : D) (n : Nat) : D → Cells → Rk D := fun z κ => kDset3 y z n κ
def dDs (fz : Sc D) (δ : Sm) (n : Nat) : D → Cells → Rk D := fun y κ => (fz δ κ).bind (dDs2 y n)
end Pd

set_option Elab.async false
set_option linter.all false
set_option maxRecDepth 100000
set_option maxHeartbeats 4000000
namespace Pd
open PySem L2
def zItT (f : Sc D) : Sc (List D) := fun δ κ => (f δ κ).bind fun d κ => (asT d).at κ
def dItT (d : D) (κ : Cells) : Rk (List D) := (asT d).at κ
end Pd

set_option Elab.async false
set_option linter.all false
set_option maxRecDepth 100000
set_option maxHeartbeats 4000000
namespace PySem.SeqAt
open AutoSeq1 (wpAny_loadPart')
open MeetsSeq MeetsSeq2 MeetsSeq3 SeqRoads2
section
variable {prog : Program} {w : World}
end
end PySem.SeqAt
namespace Pd
open PySem L2
variable {X : Cx} {ca : Str → Addr} {W : WX} {a b : Expr} {fa fb : Sc D} {pos : Pos}
def rEqNil (K : PySem.W.Frag) : R2 := fun x y H Q => ∃ (l e : Addr) (vs : List V), x = .ref l ∧ y = .ref e ∧ SqL K H l vs ∧ SqL K H e [] ∧ Q (.bl vs.isEmpty) H
def kEqN (x y : D) (κ : Cells) : Rk D := match lstR κ x, lstR κ y with
  | some ds, some [] => .ok (.bl ds.isEmpty) κ
  | _, _ => .bad
end Pd

set_option Elab.async false
set_option linter.all false
set_option maxRecDepth 100000
set_option maxHeartbeats 4000000
namespace Pd
open PySem L2
variable {vn : Bool}
section
variable {P : Program} {w : World} {K : PySem.W.Frag} {mg : Str → Option Value} {base : Heap} {x qual : Str} {params : Arguments} {body : List Stmt} {scope : Scope} {f C : Addr} {fd : FuncData} {dvs : List V} {ps : List Str}
end
section
variable {X : Cx} {ca : Str → Addr} {W : WX} {c x : Str} {B : String} {bm : List Value} {newId initId : String} {ps ks : List Str} {src : List (Str × XSrc)} {m n : Nat} {fI : Addr} {fd : FuncData} {dvs : List V} {dds : List D} {ix : List Pk} {p p' pos : Pos} {e : Expr} {es : List Expr} {kws : List Keyword}
end
section
variable {X : Cx} {W : WX} {o i : Expr} {td ty : TE} {pos : Pos}
end
def nTryKey (fo fy : Sc D) (c : Str) (fr : Sc (List (Str × D))) : Sn := fun δ κ => match fo δ κ with
  | .ok x κ1 => (match fy δ κ1 with
    | .ok y κ2 => (match dctOf κ2 x, keyOf y with
      | some (ks, vs), some k => (match dLook ks vs k with
        | some v => .rt v κ2
        | none => (match fr δ κ2 with
          | .ok fs κ3 => .xc c fs δ κ3
          | _ => .bad))
      | _, _ => .bad)
    | _ => .bad)
  | _ => .bad
end Pd

set_option Elab.async false
set_option linter.all false
set_option maxRecDepth 100000
set_option maxHeartbeats 4000000
namespace Pd
open PySem L2
def dDrops : List D → List D → Key → List D × List D
  | d :: ks, v :: vs, k => if keyOf d = some k then dDrops ks vs k else (d :: (dDrops ks vs k).1, v :: (dDrops ks vs k).2)
  | _, _, _ => ([], [])
def kDpop3 (y : D) (n : Nat) (κ : Cells) : Rk D := match dctOf κ (.loc n), keyOf y with
  | some (ks, vs), some k => (match dLook ks vs k with
    | some v => .ok v (κ.set n (.dct (dDrops ks vs k).1 (dDrops ks vs k).2))
    | none => .bad)
  | _, _ => .bad
def kDpop (fy : Sc D) (δ : Sm) (x : D) (κ : Cells) : Rk D := match x with
  | .loc n => (match dctOf κ (.loc n) with
    | some _ => (fy δ κ).bind fun y κ => kDpop3 y n κ
    | none => .bad)
  | _ => .bad
def zDpop (fo fy : Sc D) : Sc D := fun δ κ => (fo δ κ).bind (kDpop fy δ)
def dDp2 (n : Nat) : D → Cells → Rk D := fun y κ => kDpop3 y n κ
end Pd

set_option Elab.async false
set_option linter.all false
set_option maxRecDepth 100000
set_option maxHeartbeats 4000000
namespace Pd
open PySem PySem.Spec PyProof.Rows L2
section
variable {P : Program} {w : World} {A : Around} {E : Value → Shared → Prop} {s : Shared}
abbrev bareSet (w : World) : Obj := { cls := .type "set", dict := none, data := .set #[] 0 (.fresh 0 0 (!w.params.followText "set-order")) }
end
end Pd
namespace Pd
open PySem L2
def tSortSetI (K : PySem.W.Frag) (ta : TE) : TE := fun σ H Q => ta σ H fun x H1 => ∃ (l : Addr) (ns : List Int), x = V.ref l ∧ SqL K H1 l (ns.map V.int) ∧ ns.length < 64 ∧ ∀ ms : List Int, ms.Pairwise (· < ·) → (∀ k, k ∈ ms ↔ k ∈ ns) → ∀ p, H1 p = none → Q (.ref p) (upd H1 p (.lst (ms.map V.int)))
def dedI : List Int → List Int
  | [] => []
  | k :: ks => if k ∈ ks then dedI ks else k :: dedI ks
def kSortSet : D → Res D
  | .lst ds => match intsOf ds with
    | some ns => if ns.length < 64 then .ok (.lst ((isort (dedI ns)).map D.int)) else .bad
    | none => .bad
  | _ => .bad
end Pd

set_option Elab.async false
set_option linter.all false
set_option maxRecDepth 100000
set_option maxHeartbeats 2000000
namespace Pd
open PySem PySem.W
def obT (n : Nat) (fa : List He.Fa) (fn : List He.DefD) (ts : List He.Tab) (tf : List He.Defn) (ex : Frag → Bool) (s : Shared) : He.AlX := match HandSHeadRun.treeOf s with
  | some x => He.obsX n fa fn ts tf ex (HandSHeadRun.getT x)
  | none => He.obsX n fa fn ts tf ex s.heap.get?
theorem obT_eq {n : Nat} {fa : List He.Fa} {fn : List He.DefD} {ts : List He.Tab} {tf : List He.Defn} {ex : Frag → Bool} (s : Shared) : obT n fa fn ts tf ex s = (He.hookX n fa fn ts tf ex).obs s := by
  unfold obT
  cases e : HandSHeadRun.treeOf s with
  | none => rfl
  | some x =>
    show He.obsX n fa fn ts tf ex (HandSHeadRun.getT x) = _
    rw [← (HandSHeadRun.treeOf_eq e).1]
    exact He.obsX_eq (HandSHeadRun.getT_eq x)
def hookT (n : Nat) (fa : List He.Fa) (fn : List He.DefD) (ts : List He.Tab) (tf : List He.Defn) (ex : Frag → Bool) : Hook where
  α := He.AlX
  obs := obT n fa fn ts tf ex
  val := (He.hookX n fa fn ts tf ex).val
  says := (He.hookX n fa fn ts tf ex).says
  of := fun w s e => (He.hookX n fa fn ts tf ex).of w s (by rw [← obT_eq]; exact e)
  keeps := (He.hookX n fa fn ts tf ex).keeps
def obTB (n : Nat) (fa : List He.Fa) (fn : List He.DefD) (ex : Frag → Bool) (s : Shared) : AlB := match HandSHeadRun.treeOf s with
  | some x => obsB n fa fn ex (HandSHeadRun.getT x)
  | none => obsB n fa fn ex s.heap.get?
theorem obTB_eq {n : Nat} {fa : List He.Fa} {fn : List He.DefD} {ex : Frag → Bool} (s : Shared) : obTB n fa fn ex s = (hookB n fa fn ex).obs s := by
  unfold obTB
  cases e : HandSHeadRun.treeOf s with
  | none => rfl
  | some x =>
    show obsB n fa fn ex (HandSHeadRun.getT x) = _
    rw [← (HandSHeadRun.treeOf_eq e).1]
    exact obsB_eq (HandSHeadRun.getT_eq x)
def hookTB (n : Nat) (fa : List He.Fa) (fn : List He.DefD) (ex : Frag → Bool) : Hook where
  α := AlB
  obs := obTB n fa fn ex
  val := (hookB n fa fn ex).val
  says := (hookB n fa fn ex).says
  of := fun w s e => (hookB n fa fn ex).of w s (by rw [← obTB_eq]; exact e)
  keeps := (hookB n fa fn ex).keeps
end Pd

set_option Elab.async false
set_option linter.all false
set_option maxRecDepth 100000
set_option maxHeartbeats 4000000
namespace Pd
open PySem L2
def tle (a b : Str) : Prop := ¬ b.cps.toList < a.cps.toList
instance : DecidableRel tle := fun a b => inferInstanceAs (Decidable (¬ b.cps.toList < a.cps.toList))
def tsort (ns : List Str) : List Str := ns.mergeSort fun a b => decide (tle a b)
section
open PySem.Spec PyProof.Rows SrtO Srt
variable {prog : Program} {w : World} {A : Around} {E : Value → Shared → Prop} {s : Shared}
def svT : Value → Str
  | .str x _ => x
  | _ => Str.empty
def ltSv (v u : Value) : Bool := decide ((svT v).cps.toList < (svT u).cps.toList)
end
section
open PySem.Spec PyProof.Rows
variable {X : Cx} {ca : Str → Addr}
def rSortT : List V → Hp → VK → Prop := fun xs H Q => ∃ (a : Addr) (kvs : List (Key × V)) (ns : List Str), xs = [.ref a] ∧ H a = some (.dK kvs) ∧ kvs.map (·.1) = ns.map Sum.inr ∧
  ∀ (ys : List Str) (p : Addr), ys.Perm ns → ys.Pairwise tle → H p = none → Q (.ref p) (upd H p (.lst (ys.map V.str)))
def kSortDT : List D → Cells → Rk D
  | [d], κ => match dctOf κ d with
    | some (ks, _) => (match strsOf ks with
      | some ns => .ok (.lst ((tsort ns).map D.str)) κ
      | none => .bad)
    | none => .bad
  | _, _ => .bad
end
end Pd

set_option Elab.async false
set_option linter.all false
set_option maxRecDepth 100000
set_option maxHeartbeats 2000000
namespace Pd
open PySem PySem.W
def fragUB (n : Nat) (g : Addr → Option Obj) : Frag := He.frG g (asU g n [mainGlobals])
def obsUB (n : Nat) (fa : List He.Fa) (fn : List He.DefD) (ex : Frag → Bool) (g : Addr → Option Obj) : AlB := evK (fragUB n g) fun K => (He.obsD fa fn K, ex K)
def obTUB (n : Nat) (fa : List He.Fa) (fn : List He.DefD) (ex : Frag → Bool) (s : Shared) : AlB := match HandSHeadRun.treeOf s with
  | some x => obsUB n fa fn ex (HandSHeadRun.getT x)
  | none => obsUB n fa fn ex s.heap.get?
theorem obTUB_eq {n : Nat} {fa : List He.Fa} {fn : List He.DefD} {ex : Frag → Bool} (s : Shared) : obTUB n fa fn ex s = obsUB n fa fn ex s.heap.get? := by
  unfold obTUB
  cases e : HandSHeadRun.treeOf s with
  | none => rfl
  | some x =>
    show obsUB n fa fn ex (HandSHeadRun.getT x) = _
    rw [← (HandSHeadRun.treeOf_eq e).1, show HandSHeadRun.getT x = x.abs.heap.get? from funext (HandSHeadRun.getT_eq x)]
def hookUB (n : Nat) (fa : List He.Fa) (fn : List He.DefD) (ex : Frag → Bool) : Hook where
  α := AlB
  obs := obTUB n fa fn ex
  val := (hookB n fa fn ex).val
  says := (hookB n fa fn ex).says
  of := fun w s e => by
    have e2 : obsUB n fa fn ex s.heap.get? = (hookB n fa fn ex).val w := by rw [← obTUB_eq]; exact e
    unfold obsUB at e2
    rw [evK_eq] at e2
    exact ⟨_, He.frG_in, congrArg Prod.fst e2, congrArg Prod.snd e2⟩
  keeps := (hookB n fa fn ex).keeps
end Pd

set_option Elab.async false
set_option linter.all false
set_option maxRecDepth 100000
set_option maxHeartbeats 4000000
namespace Pd
open PySem L2
theorem Grw.unlock {H0 H A B : Hp} {d : Addr} {od : Obj} {kvs : List (Key × V)} {n : Nat} (w : Grw H0 (upd H d (.frz od (.dK kvs))) A B) (hd : H d = some (.dK kvs)) (m : H0 d = some (cmk n)) : Grw H0 H A (upd B d (.dK kvs)) where
  up := fun a u e nk => by
    have ne : a ≠ d := fun z => nk n (by rw [z]; exact m)
    rw [upd_ne ne]
    exact w.up a u (by rw [upd_ne ne]; exact e) nk
  th := fun a h => by
    by_cases z : a = d
    · rw [z, upd_same]
      exact fun y => nomatch y
    · rw [upd_ne z]
      exact w.th a (by rw [upd_ne z]; exact h)
  up0 := w.up0
  sub := fun b u e => by
    by_cases z : b = d
    · subst z
      have e2 := w.up0 _ _ m
      rw [e] at e2
      exact .inr ⟨⟨n, Option.some.inj e2⟩, by rw [upd_same]; exact fun y => nomatch y⟩
    · rw [upd_ne z]
      exact w.sub b u e
  fr := fun a h h0 => w.fr a (by
    by_cases z : a = d
    · rw [z, upd_same]
      exact fun y => nomatch y
    · rw [upd_ne z]
      exact h) h0
  lk := fun a od' u e => by
    by_cases z : a = d
    · rw [z, hd] at e
      cases e
    · rw [upd_ne z]
      exact w.lk a od' u (by rw [upd_ne z]; exact e)
def unlkE (n : Nat) (ks vs : List D) : Rk (List D) → Rk D
  | .ok rs κ => .ok (.lst rs) (κ.set n (.dct ks vs))
  | _ => .bad
def lcD3 (gt : D → Sm → Res Sm) (t : Sc Bool) (e : Sc D) (vs : List Nat) (δ : Sm) (ks : List D) (κ : Cells) : Rk (List D) := if ks.length ≤ 16777216 then (match lcC gt t e ((wipeD vs δ).map hideO) ks κ with
  | .ok rs κ => .ok rs κ
  | _ => .bad) else .bad
def lcD2 (gt : D → Sm → Res Sm) (t : Sc Bool) (e : Sc D) (vs : List Nat) (δ : Sm) (n : Nat) (d : D) (κ : Cells) : Rk (List D) := match d with
  | .loc n' => if n' = n then (match κ[n]? with
    | some (.dcf ks _) => lcD3 gt t e vs δ ks κ
    | _ => .bad) else .bad
  | _ => .bad
def zLcD (fo : Sc D) (gt : D → Sm → Res Sm) (t : Sc Bool) (e : Sc D) (vs : List Nat) : Sc D := fun δ κ => match fo δ κ with
  | .ok (.loc n) _ => (match κ[n]? with
    | some (.dct ks vs0) => unlkE n ks vs0 ((fo δ (κ.set n (.dcf ks vs0))).bind (lcD2 gt t e vs δ n))
    | _ => .bad)
  | _ => .bad
section
variable {X : Cx} {ca : Str → Addr} {W : WX} {elt tg iter : Expr} {ifs : List Expr} {scope : Scope} {own : List (Str × Nat)} {fo : Sc D} {gt : D → Sm → Res Sm} {t : Sc Bool} {fe : Sc D} {tgr : TG} {pos : Pos}
end
end Pd

set_option Elab.async false
set_option linter.all false
set_option maxRecDepth 100000
set_option maxHeartbeats 4000000
namespace Pd
open PySem PySem.Spec PyProof.Rows L2 LamX NdefX
variable {vn : Bool}
def kClo : D → List D → Res D
  | .clo i, [.int j] => if 0 < i then .ok (.bl (j % i == 0)) else .bad
  | _, _ => .bad
def eClo (i : Nat) (fa : Sm → Res (List D)) : Sm → Res D := fun δ => (eVar i δ).bind fun d => match d with
  | .clo n => (fa δ).bind fun ds => kClo (.clo n) ds
  | _ => .bad
section
variable {X : Cx} {W : WX}
end
def kGoes (n : Nat) (mk q : Str) : Fc := fun ds κ => match ds, κ[n]? with
  | [.int i], some (.tab mk' q') => if mk' = mk ∧ q' = q then .ok (.clo i) κ else .bad
  | _, _ => .bad
section
variable {P : Program} {w : World} {K : PySem.W.Frag} {mg : Str → Option Value} {base : Heap} {ca : Str → Addr} {x qual mk q : Str} {params ar : Arguments} {body : List Stmt} {bd : Expr} {scope sc : Scope} {lp rp : Pos} {fd : FuncData} {k n : Nat}
end
end Pd

set_option Elab.async false
set_option linter.all false
set_option maxRecDepth 100000
set_option maxHeartbeats 4000000
namespace Pd
open PySem PySem.Spec PyProof.Rows L2
def kRg : D → D → Res D
  | .int i, .int j => if 0 ≤ i ∧ j ≤ 16777216 ∧ i ≤ 16777216 ∧ 0 ≤ j then .ok (.lst ((List.range (j - i).toNat).map fun (k : Nat) => .int (i + k))) else .bad
  | _, _ => .bad
def ixD (d : D) : List D → Nat
  | [] => 0
  | z :: zs => if deq z d then 0 else ixD d zs + 1
def kIndex : D → D → Res D
  | .lst ds, d => if (shp (.lst ds) && shp d && decide (ixD d ds < ds.length)) = true then .ok (.int (ixD d ds)) else .bad
  | _, _ => .bad
def eIndex (fa fb : Sm → Res D) : Sm → Res D := fun δ => (fa δ).bind fun d => match d with
  | .lst ds => (fb δ).bind fun y => kIndex (.lst ds) y
  | _ => .bad
section
variable {X : Cx} {ca : Str → Addr} {W : WX} {a b : Expr} {fa fb : Sm → Res D} {p p2 pos pos2 apos : Pos}
end
end Pd

set_option Elab.async false
set_option linter.all false
set_option maxRecDepth 100000
set_option maxHeartbeats 4000000
namespace Pd
open PySem PySem.Spec PyProof.Rows L2
def kSortIc : List D → Cells → Rk D
  | [d], κ => match lstOf κ d with
    | some ds => (match intsOf ds with
      | some ns => .ok (.lst ((isort ns).map D.int)) κ
      | none => .bad)
    | none => .bad
  | _, _ => .bad
def kRgC : D → D → Cells → Rk D
  | .int i, .int j, κ => if 0 ≤ i ∧ j ≤ 16777216 ∧ i ≤ 16777216 ∧ 0 ≤ j then .ok (.loc κ.length) (κ ++ [.lst ((List.range (j - i).toNat).map fun (k : Nat) => .int (i + k))]) else .bad
  | _, _, _ => .bad
section
variable {X : Cx} {ca : Str → Addr} {W : WX} {a b : Expr} {fa fb : Sc D} {fl : Sc (List D)} {p p2 pos pos2 : Pos}
theorem knc_sortI : KNc ⟨X.K, ca, X.w⟩ (rSortedI X.K) kSortIc := by
  intro W σ δ κ Hc H0c H0 H xs as Q S r p
  cases r with
  | nil => exact p.elim
  | @cons v vs d ds q r =>
    cases r with
    | cons _ _ => exact p.elim
    | nil =>
      unfold kSortIc at p
      dsimp only at p
      cases e : lstOf κ d with
      | none => rw [e] at p; exact p.elim
      | some ds =>
        rw [e] at p
        dsimp only at p
        cases e2 : intsOf ds with
        | none => rw [e2] at p; exact p.elim
        | some ns =>
          rw [e2] at p
          obtain ⟨l, ws, rfl, h1, h2⟩ := lstOf_ok S.cs S.s0 q e
          have e3 := intsOf_rp h2 e2
          subst e3
          refine ⟨l, ns, rfl, h1, fun ns' z g1 g2 hz => ?_⟩
          have e4 := sorted_unique (g1.trans (isort_perm ns).symm) g2 (isort_sorted ns)
          subst e4
          exact Post2.new S p hz (.lst (.inl upd_same) (rpA_ints _))
theorem qd_sortC (hm : X.mg "sorted" = none) (ha : QDA X ca W [a] fl) (hg : Gl X "sorted" := by rfl) (he : starEach [a] X.env = (false, eval a X.env) :: starEach [] X.env := by rfl) : QD X ca W (.Call (.Name "sorted" p) [a] [] pos) (zAc kSortIc fl) :=
  qd_callBc cr_sortedI knc_sortI hm (by decide +kernel) ha hg (by decide) (by decide) he
def zSlC (f : Sc D) (lo hi : Sc (Option Int)) : Sc D := fun δ κ => (f δ κ).bind fun d κ => (lo δ κ).bind fun l κ => (hi δ κ).bind fun h κ => match lstOf κ d with
  | some ds => .ok (.lst (cutD ds l h)) κ
  | none => .bad
end
end Pd

set_option Elab.async false
set_option linter.all false
set_option maxRecDepth 100000
set_option maxHeartbeats 4000000
namespace Pd
open PySem L2
section
variable {i : Nat} {y : Str} {py spos : Pos}
end
end Pd

set_option Elab.async false
set_option linter.all false
set_option maxRecDepth 100000
set_option maxHeartbeats 4000000
namespace Pd
open PySem PySem.Spec PyProof.Rows L2
def mRem (i : Nat) (f : Sm → Res D) : Sm → Out := fun δ => match δ[i]? with
  | some (.ol ds) => (f δ).out δ fun y => match y, intsOf ds with
    | .int k, some ns => if k ∈ ns then .nx (δ.set i (.ol ((ns.erase k).map D.int))) else .bad
    | _, _ => .bad
  | _ => .bad
def kRevS : D → Res D
  | .lst ds => .ok (.lst ds.reverse)
  | _ => .bad
section
variable {X : Cx} {ca : Str → Addr} {W : WX} {a : Expr} {fa : Sm → Res D} {pos : Pos}
end
end Pd

set_option Elab.async false
set_option linter.all false
set_option maxRecDepth 100000
set_option maxHeartbeats 4000000
namespace PySem
open Sem (wp)
def CmpH (prog : Program) (w : World) (A : Around) (h0 : Heap) (P : Nat → Value → Prop) (bt : Nat → Nat → Bool) : Prop :=
  ∀ i j vi vj (s : Shared) (Q : Value → Shared → Prop) (E : Value → Shared → Prop), (∀ b o, h0.get? b = some o → s.heap.get? b = some o) → P i vi → P j vj → Q (.bool (bt i j)) s → wpAny (model prog w) A (richCompare .Lt vi vj) Q E s
section
variable {prog : Program} {w : World} {A : Around} {R : Result → Shared → Prop} {I : Addr} {fp wr : List Addr} {n : Nat} {P : Nat → Value → Prop} {St : Nat → Heap → Prop} {h0 : Heap}
end
section
variable {prog : Program} {w : World} {A : Around} {E : Value → Shared → Prop} {s : Shared} {l : Addr} {items : Array Value}
end
end PySem
namespace Pd
open PySem PySem.Spec PyProof.Rows L2
def tuI : D → Option (List Int)
  | .tup ds => intsOf ds
  | _ => none
def tusI : List D → Option (List (List Int))
  | [] => some []
  | d :: ds => match tuI d, tusI ds with
    | some x, some xs => some (x :: xs)
    | _, _ => none
def btL (L : List (List Int)) (i j : Nat) : Bool := HT.lexLt (L.getD i []) (L.getD j [])
def kMinT : List D → Res D
  | [.lst ds] => match tusI ds with
    | some L => if 0 < L.length then (match ds[argBest (btL L) (L.length - 1)]? with
      | some d => .ok d
      | none => .bad) else .bad
    | none => .bad
  | _ => .bad
section
variable {X : Cx} {ca : Str → Addr} {W : WX} {a : Expr} {fl : Sm → Res (List D)} {pos p : Pos}
end
end Pd

set_option Elab.async false
set_option linter.all false
set_option maxRecDepth 100000
set_option maxHeartbeats 4000000
namespace HT
open PySem PyProof.Rows
section
variable {prog : Program} {w : World} {A : Around} {E : Value → Shared → Prop} {s : Shared}
end
end HT
namespace L2
open PySem PySem.Spec PyProof.Rows
def tRev2 (K : PySem.W.Frag) (te : TE) : TE := fun σ H Q => te σ H fun x H1 => ∃ a y z, x = .ref a ∧ SqT K H1 a [y, z] ∧ ∀ p, H1 p = none → Q (.ref p) (upd H1 p (.tup [z, y]))
end L2
namespace Pd
open PySem PySem.Spec PyProof.Rows L2
def kRev2 : D → Res D
  | .tup [y, z] => .ok (.tup [z, y])
  | _ => .bad
def kRg1 : D → Res D
  | .int j => if 0 ≤ j ∧ j ≤ 16777216 then .ok (.lst ((List.range j.toNat).map fun (k : Nat) => .int (0 + (k : Nat)))) else .bad
  | _ => .bad
section
variable {X : Cx} {ca : Str → Addr} {W : WX} {a b : Expr} {fa fb : Sm → Res D} {p p2 pos pos2 apos : Pos}
end
def kSortSetC (d : D) (κ : Cells) : Rk D := match lstOf κ d with
  | some ds => (match intsOf ds with
    | some ns => if ns.length < 64 then .ok (.lst ((isort (dedI ns)).map D.int)) κ else .bad
    | none => .bad)
  | none => .bad
def zSortSetC (f : Sc D) : Sc D := fun δ κ => (f δ κ).bind kSortSetC
def kSortN : List D → Cells → Rk D
  | [d], κ => match lstOf κ d with
    | some ds => (match intsOf ds with
      | some ns => .ok (.loc κ.length) (κ ++ [.lst ((isort ns).map D.int)])
      | none => .bad)
    | none => .bad
  | _, _ => .bad
section
variable {X : Cx} {ca : Str → Addr} {W : WX} {a : Expr} {fl : Sc (List D)} {p pos : Pos}
end
def kSortP : D → Res D
  | .lst ds => match toPs ds with
    | some kz => if okK kz = true then .ok (.lst (keySort ds kz)) else .bad
    | none => .bad
  | _ => .bad
def rSortP (X : Cx) (ca : Str → Addr) : List V → Hp → VK → Prop := fun vs H Q => ∃ (l : Addr) (xs : List V) (H0 : Hp) (ds : List D) (kz : List PyData), vs = [.ref l] ∧ Sub H0 H ∧ SqL X.K H l xs ∧ RpA ⟨X.K, ca, X.w⟩ H0 xs ds ∧ toPs ds = some kz ∧ okK kz = true ∧
  ∀ ws p, RpA ⟨X.K, ca, X.w⟩ H0 ws (keySort ds kz) → H p = none → Q (.ref p) (upd H p (.lst ws))
theorem each_zip {R : Value → PyData → Prop} : ∀ {us : List Value} {kz : List PyData} {ds : List D}, PySem.W.EachIs R us kz → kz.length = ds.length → PySem.W.EachIs (fun u (b : D × PyData) => R u b.2) us (ds.zip kz)
  | _, _, ds, .nil, _ => by
    rw [List.zip_nil_right]
    exact .nil
  | _, _, [], .cons _ _, e => by cases e
  | _, _, d :: ds, .cons r t, e => .cons r (each_zip t (by rw [List.length_cons, List.length_cons] at e; omega))
section
variable {X : Cx} {ca : Str → Addr} {W : WX} {a : Expr} {fl : Sm → Res (List D)} {pos p : Pos}
theorem cr_sortP (hr : Room 0 X.A) : CallR X (.builtin "sorted") (rSortP X ca) := by
  intro pins s σ H vs us Q I rv h
  obtain ⟨l, xs, H0, ds, kz, rfl, sb, hl, r, hk, ok, q⟩ := h
  obtain ⟨h1, h2, h3⟩ := okK_of ok
  obtain ⟨its, ri, hpl, hz⟩ := I.list hl
  rw [Vals.ref1 rv]
  have l1 : its.length = ds.length := by rw [← ri.length, r.length]
  have l3 := toPs_length hk
  obtain ⟨as, ra⟩ := RpA.reads I sb ds xs its kz r ri hk
  have er := each_zip (ds := ds) (readsAll_each ra) (by omega)
  have mz : (ds.zip kz).map Prod.snd = kz := List.map_snd_zip (by omega)
  have lz : (ds.zip kz).length = ds.length := by rw [List.length_zip]; omega
  refine PySem.W.sorted_data (β := D × PyData) (enc := Prod.snd) (R := fun u b => ∃ v, RelV v u ∧ Rp ⟨X.K, ca, X.w⟩ H0 v b.1) (bs := ds.zip kz) hpl.isList (each_rp ri r (by omega)) er (by rw [mz]; exact h1) (by rw [mz]; exact h2) (by rw [lz, ← l1, ← ri.length]; exact hz) (fun b hb => ?_) fun out ol eo => ?_
  · have hm : b.2 ∈ kz := by
      rw [← mz]
      exact List.mem_map.mpr ⟨b, hb, rfl⟩
    have := h3 _ hm
    have := hr.un
    omega
  · obtain ⟨ws, h4, h5⟩ := each_back eo
    obtain ⟨ep, he'⟩ := PyProof.Rows.sortedAll_at s.heap its out.toArray
    have lw : ws.length ≤ sizeLine := by
      rw [h4.length, ol, lz, ← l1, ← ri.length]
      exact hz
    exact ⟨.ref _, upd H (s.heap.objs.size + 1) (.lst ws), I.laid (t' := s.toks) (fun _ _ => PyProof.Rows.sortedAll_old) (Nat.le_succ _) ⟨lw, out, ep, h4, he'⟩, rfl, q ws _ h5 (I.hok.fresh (Nat.le_succ _))⟩
theorem kn_sortP : KN ⟨X.K, ca, X.w⟩ (rSortP X ca) (on1 kSortP) := fun W σ δ Hc H0c H0 H xs as Q S r p => by
  cases r with
  | nil => exact p.elim
  | @cons v vs d ds' q r =>
    cases r with
    | cons _ _ => exact p.elim
    | nil =>
      cases q with
      | @lst l xs ds q rr =>
        have p2 : Post ⟨X.K, ca, X.w⟩ W σ H0 H (Rp ⟨X.K, ca, X.w⟩) Q (match toPs ds with
          | some kz => if okK kz = true then .ok (.lst (keySort ds kz)) else .bad
          | none => .bad) := p
        cases e : toPs ds with
        | none => rw [e] at p2; exact p2.elim
        | some kz =>
          rw [e] at p2
          dsimp only at p2
          by_cases ok : okK kz = true
          · rw [if_pos ok] at p2
            refine ⟨l, xs, H0, ds, kz, rfl, S.s0, .inl (rdL_in S.s0 q), rr, e, ok, fun ws pn rw' hp => ?_⟩
            exact Post.new S p2 hp (.lst (.inl upd_same) (rw'.mono (Grow.new S.s0 hp).up0))
          · rw [if_neg ok] at p2
            exact p2.elim
      | _ => exact p.elim
theorem pd_sortP (hr : Room 0 X.A) (hm : X.mg "sorted" = none) (ha : PDA X ca W [a] fl) (hg : Gl X "sorted" := by rfl) (he : starEach [a] X.env = (false, eval a X.env) :: starEach [] X.env := by rfl) : PD X ca W (.Call (.Name "sorted" p) [a] [] pos) (eA (on1 kSortP) fl) :=
  pd_callB (cr_sortP hr) kn_sortP hm (by decide +kernel) ha hg (by decide) (by decide) he
end
end Pd

set_option Elab.async false
set_option linter.all false
set_option maxRecDepth 100000
set_option maxHeartbeats 4000000
namespace Pd
open PySem L2 PySem.W PySem.Calls PyProof.Rows PyProof.V PySem.Spec
section
variable {prog : Program} {w : World} {A : Around} {E : Value → Shared → Prop} {s : Shared}
end
def rItemsE (K : PySem.W.Frag) (w : World) : V → Hp → VK → Prop := fun x H Q => ∃ (d : Addr) (es : List DEnt) (ws : List V), x = .ref d ∧ DAt K w H d es ∧ Vals ws (es.map (·.2.2)) ∧
  ∀ (H' : Hp) (p : Addr) (ts : List Addr), Same H H' → H p = none → (∀ t ∈ ts, H t = none) → p ∉ ts → H' p = some (.lst (ts.map V.ref)) → ts.length = es.length →
    (∀ (j : Nat) (t : Addr), ts[j]? = some t → ∃ e v, es[j]? = some e ∧ ws[j]? = some v ∧ H' t = some (.tup [.ref e.2.1, v])) → Q (.ref p) H'
section
variable {X : Cx} {e : Expr} {te : TE} {p apos cpos pos : Pos}
end
def tPairs : List NestedKey → List D → List D
  | k :: ks, v :: vs => .tup [kD k, v] :: tPairs ks vs
  | _, _ => []
def kTitems : D → Res D
  | .dtt ks vs => .ok (.lst (tPairs ks vs))
  | _ => .bad
theorem Grow.many {H0 H H' : Hp} (s : Sub H0 H) (up : Same H H') (N : Addr → Prop) [DecidablePred N] (h1 : ∀ a, N a → H a = none) (h2 : ∀ a n, N a → H' a ≠ some (cmk n)) : Grow H0 H (fun b => if N b then H' b else H0 b) H' where
  up := up
  up0 := fun b u e => by
    by_cases z : N b
    · rw [s.free (h1 b z)] at e
      cases e
    · show (if N b then H' b else H0 b) = some u
      rw [if_neg z]
      exact e
  sub := fun b u e => by
    have e' : (if N b then H' b else H0 b) = some u := e
    by_cases z : N b
    · rw [if_pos z] at e'
      exact .inl e'
    · rw [if_neg z] at e'
      exact s.trans up b u e'
  fr := fun a ha h0 => by
    show (if N a then H' a else H0 a) = none
    by_cases z : N a
    · exact absurd (h1 a z) ha
    · rw [if_neg z]
      exact h0
  nm := fun a n e => by
    have e' : (if N a then H' a else H0 a) = some (cmk n) := e
    by_cases z : N a
    · rw [if_pos z] at e'
      exact absurd e' (h2 a n z)
    · rw [if_neg z] at e'
      exact e'
section
variable {X : Cx} {ca : Str → Addr} {W : WX} {a : Expr} {fa : Sm → Res D} {p apos cpos pos : Pos}
end
def resP : Res D → Res D
  | .ok d => if plain d = true then .ok d else .bad
  | _ => .bad
def eBorT (i : Nat) (f : Sm → Res D) : Sm → Res D := fun δ => match δ[i]? with
  | some (.ot ks vs) => resP (f (δ.set i (.sh (.dtt ks vs))))
  | _ => .bad
end Pd

set_option Elab.async false
set_option linter.all false
set_option maxRecDepth 100000
set_option maxHeartbeats 4000000
namespace Pd
open PySem L2
section
variable {g : G} {Hc H0c H0 H A B A' H' : Hp} {σ : L2.St} {δ : Sm} {κ κ2 : Cells}
end
def nSetLcL (i : Nat) (it : Sc (List D)) (gt : D → Sm → Res Sm) (t : Sc Bool) (fe : Sc D) (vs : List Nat) : Sn := fun δ κ => (lcRC it gt t fe vs δ κ).out δ fun rs κ => .nx (δ.set i (.ol rs)) κ
section
variable {X : Cx} {ca : Str → Addr} {W : WX} {elt tg iter : Expr} {ifs : List Expr} {scope : Scope} {own : List (Str × Nat)} {gt : D → Sm → Res Sm} {tgr : TG} {pos : Pos}
variable {it : Sc (List D)} {t : Sc Bool} {fe : Sc D} {i : Nat} {y : Str} {py spos : Pos}
end
end Pd

set_option Elab.async false
set_option linter.all false
set_option maxRecDepth 100000
set_option maxHeartbeats 4000000
namespace Pd
open PySem PySem.W PySem.Spec PyProof.Rows L2
def Ite (w : World) (d : Addr) (xs : List DEnt) (ep : Nat) : It :=
  ⟨fun i H => H d = some (dtO w d xs ep) ∧ i < xs.length, fun i H x H' => H' = H ∧ ∃ e, xs[i]? = some e ∧ x = .ref e.2.1, fun i H => H d = some (dtO w d xs ep) ∧ xs.length ≤ i⟩
section
variable {X : Cx} {pins : List (Addr × Obj)} {σ : L2.St} {H : Hp} {s : Shared}
end
section
variable {X : Cx} {tg e : Expr} {td : TE}
end
def asTk : D → Res (List D)
  | .dtt ks _ => .ok (ks.map kD)
  | _ => .bad
def eTgetF (fa fk fv : Sm → Res D) : Sm → Res D := fun δ => (fa δ).bind fun d => match d with
  | .dtt ks vs => (fk δ).bind fun y => (fv δ).bind fun z => tGet ks vs y z
  | _ => .bad
section
variable {X : Cx} {ca : Str → Addr} {W : WX} {tg o a b : Expr} {fa fo fk fv : Sm → Res D} {apos cpos : Pos}
end
end Pd

set_option Elab.async false
set_option linter.all false
set_option maxRecDepth 100000
set_option maxHeartbeats 4000000
namespace Pd
open PySem PySem.W PySem.Spec PyProof.Rows L2
def repS (x : Str) (m : Nat) : Str := ⟨(List.replicate m x.cps).foldl (fun a b => a ++ b) #[]⟩
def kRepS : D → D → Res D
  | .str x, .int n => if 0 ≤ n ∧ n ≤ 10000 ∧ x.length ≤ 1000 then .ok (.str (repS x n.toNat)) else .bad
  | _, _ => .bad
section
variable {X : Cx} {W : WX} {ca : Str → Addr}
end
section
variable {X : Cx} {ca : Str → Addr} {W : WX} {a b : Expr} {fa fb : Sm → Res D} {pos : Pos}
end
end Pd
namespace Pd
open PySem L2
section
variable {X : Cx} {ca : Str → Addr} {W : WX} {a b : Expr} {fa fb : Sc D} {pos : Pos}
def rNeNil (K : PySem.W.Frag) : R2 := fun x y H Q => ∃ (l e : Addr) (vs : List V), x = .ref l ∧ y = .ref e ∧ SqL K H l vs ∧ SqL K H e [] ∧ Q (.bl !vs.isEmpty) H
def kNeN (x y : D) (κ : Cells) : Rk D := match lstR κ x, lstR κ y with
  | some ds, some [] => .ok (.bl !ds.isEmpty) κ
  | _, _ => .bad
end
end Pd

set_option Elab.async false
set_option linter.all false
set_option maxRecDepth 100000
set_option maxHeartbeats 4000000
namespace Pd
open PySem L2
section
variable {X : Cx} {ca : Str → Addr} {W : WX} {o a : Expr} {fo : Sc D} {fl : Sc (List D)} {pos apos : Pos}
def fExd : List D → List D → Option (D × List D)
  | ds, [.lst es] => if ds.length + es.length ≤ 16777216 then some (.non, ds ++ es) else none
  | _, _ => none
end
end Pd

set_option Elab.async false
set_option linter.all false
set_option maxRecDepth 100000
set_option maxHeartbeats 4000000
namespace Pd
open PySem L2
def unlkEC (n : Nat) (ks vs : List D) : Rk (List D) → Rk D
  | .ok rs κ => .ok (.loc κ.length) ((κ ++ [Cell.lst rs]).set n (.dct ks vs))
  | _ => .bad
def zLcDC (fo : Sc D) (gt : D → Sm → Res Sm) (t : Sc Bool) (e : Sc D) (vs : List Nat) : Sc D := fun δ κ => match fo δ κ with
  | .ok (.loc n) _ => (match κ[n]? with
    | some (.dct ks vs0) => unlkEC n ks vs0 ((fo δ (κ.set n (.dcf ks vs0))).bind (lcD2 gt t e vs δ n))
    | _ => .bad)
  | _ => .bad
section
variable {X : Cx} {ca : Str → Addr} {W : WX} {elt tg iter : Expr} {ifs : List Expr} {scope : Scope} {own : List (Str × Nat)} {fo : Sc D} {gt : D → Sm → Res Sm} {t : Sc Bool} {fe : Sc D} {tgr : TG} {pos : Pos}
end
section
variable {X : Cx} {ca : Str → Addr} {W : WX} {a : Expr} {fa : Sc D} {pos : Pos}
def revC1 (d : D) (κ : Cells) : Rk D := match d with
  | .lst ds => .ok (.loc κ.length) (κ ++ [.lst ds.reverse])
  | _ => .bad
def zRevC (f : Sc D) : Sc D := fun δ κ => (f δ κ).bind revC1
end
end Pd

set_option Elab.async false
set_option linter.all false
set_option maxRecDepth 100000
set_option maxHeartbeats 4000000
namespace Pd
open PySem L2
variable {vn : Bool}
structure MthH (vn : Bool) (P : Program) (w : World) (K : PySem.W.Frag) (mg : Str → Option Value) (base : Heap) (ca : Str → Addr) (C m : Str) (n : Nat) (ks : List Str) (gD : List D → List D → List D) (k : Nat) (fm : List D → Cells → Rk D) : Prop where
  ex : ∃ (f : Addr) (fd : FuncData) (ps : List Str), Cls K (ca C) ∧ Meth K (ca C) m f ∧ L2H.FnH P w K mg base (CXv vn P w) k f fd ps (spC ⟨K, ca, w⟩ ps.length fm) ∧ Bd ⟨K, ca, w⟩ fd ps n ks gD ∧ ∀ ds es, ds.length = n → es.length = ks.length → (gD ds es).length = ps.length
section
variable (vn : Bool) (P : Program) (w : World) (K : PySem.W.Frag) (mg : Str → Option Value) (base : Heap) (ca : Str → Addr)
structure FnCH (x : Str) (st : Stmt) (dvs : List V) (ps : List Str) (k : Nat) (fm : Fc) (f : Addr) (fd : FuncData) : Prop where
  d : FunD K x x (defArgs st) (defBody st) (defScope st) dvs [] f fd
  g : L2H.FnH P w K mg base (CXv vn P w) k f fd ps (spC ⟨K, ca, w⟩ ps.length fm)
  m : mg x = some (.ref f)
structure MtEH (C m q : Str) (st : Stmt) (dvs : List V) (ps : List Str) (k : Nat) (fm : Fc) (f : Addr) (fd : FuncData) : Prop where
  d : FunD K m q (defArgs st) (defBody st) (defScope st) dvs [] f fd
  g : L2H.FnH P w K mg base (CXv vn P w) k f fd ps (spC ⟨K, ca, w⟩ ps.length fm)
  cl : Cls K (ca C)
  me : Meth K (ca C) m f
end
section
variable {P : Program} {w : World} {K : PySem.W.Frag} {mg : Str → Option Value} {base : Heap} {ca : Str → Addr} {C m q : Str} {st : Stmt} {dvs : List V} {ps ks : List Str} {k n : Nat} {fm : Fc} {f : Addr} {fd : FuncData} {gD : List D → List D → List D}
theorem MtEH.at (h : MtEH vn P w K mg base ca C m q st dvs ps k fm f fd) (hb : Bd ⟨K, ca, w⟩ fd ps n ks gD) (lg : ∀ ds es, ds.length = n → es.length = ks.length → (gD ds es).length = ps.length) : MthH vn P w K mg base ca C m n ks gD k fm := ⟨f, fd, ps, h.cl, h.me, h.g, hb, lg⟩
theorem fnh_z {sp : Sp} (F : L2H.FnH P w K mg base (CXv vn P w) k f fd ps sp) : L2H.FnH P w K mg base (CXv false P w) k f fd ps sp :=
  ⟨F.len, fun A outer s H args us vs Q E p h1 h2 h3 h4 h5 h6 h7 => codeAny_mono (F.run A outer s H args us vs Q E p h1 h2 h3 h4 h5 h6 h7) fun r s' hq => by
    cases r with
    | error e => exact cxv_z hq
    | ok fl => cases fl <;> exact hq⟩
theorem MtEH.z (h : MtEH vn P w K mg base ca C m q st dvs ps k fm f fd) : MtEH false P w K mg base ca C m q st dvs ps k fm f fd := ⟨h.d, fnh_z h.g, h.cl, h.me⟩
theorem FnCH.z {x : Str} (h : FnCH vn P w K mg base ca x st dvs ps k fm f fd) : FnCH false P w K mg base ca x st dvs ps k fm f fd := ⟨h.d, fnh_z h.g, h.m⟩
end
section
variable {P : Program} {w : World} {K : PySem.W.Frag} {mg : Str → Option Value} {base : Heap} {ca : Str → Addr} {x qual : Str} {params : Arguments} {body : List Stmt} {scope : Scope} {dvs : List V} {kws : List (Str × V)} {f : Addr} {fd : FuncData} {ps N : List Str} {k n : Nat} {m : Sn}
end
section
variable {X : Cx} {ca : Str → Addr} {W : WX} {k n : Nat} {ks : List Str} {Ms : List (Str × Fc)} {gD : List D → List D → List D} {m : Str} {apos pos : Pos} {o e : Expr} {es : List Expr} {kws : List Keyword} {fo : Sc D} {fa fk : Sc (List D)}
end
section
variable {X : Cx} {ca : Str → Addr} {W : WX} {k n : Nat} {f : Addr} {fd : FuncData} {ps ks : List Str} {fm : List D → Cells → Rk D} {gD : List D → List D → List D} {x : Str} {p pos : Pos} {e : Expr} {es : List Expr} {kws : List Keyword} {fa fk : Sc (List D)}
end
end Pd

set_option Elab.async false
set_option linter.all false
set_option maxRecDepth 100000
set_option maxHeartbeats 4000000
namespace Pd
open PySem PySem.Spec PyProof.Rows HotX
end Pd

set_option Elab.async false
set_option linter.all false
set_option maxRecDepth 100000
set_option maxHeartbeats 4000000
namespace Pd
open PySem PySem.Spec PySem.Calls PySem.W PyProof.Rows L2
variable {vn : Bool}
abbrev suiteE (X : Cx) (a : Addr) (pn : List (Addr × Obj)) (xe : Value → Shared → Prop) : Cx := { X with A := X.A.mark (some (.ref a)), calm := false, pn := pn, xe := xe }
def wSet (i : Nat) (W : WX) : WX := fun cls d σ H => W cls d (σ.set i none) H
def goneXe (X : Cx) (A' : Around) (n : Str) (ps : Pos) (N : Value → Shared → Prop) : Value → Shared → Prop := fun x s => wpAny (model X.prog X.w) A' (noteFrame x X.env) (fun _ s3 =>
  wpAny (model X.prog X.w) A' (do bindName X.env n .none; unbindBehindTheSuite X.env n ps) (fun _ s4 => wpAny (model X.prog X.w) A' (passOn "try.except-as" x X.env : Sem Flow) (fun _ _ => False) N s4)
    (fun y s4 => wpAny (model X.prog X.w) A' (setFlight x none) (fun _ s5 => N y s5) N s4) s3) N s
def wTryR (K : PySem.W.Frag) (cs : List Value) (i : Nat) (ts : Sut) (Wout : WX) (D : Ends) : WX := fun cls d σ H => ∃ b, exmAny K cls cs = some b ∧ (b = true → ∀ a, H a = none → ts a cls d (endI D i) (σ.set i (some (.ref a))) H) ∧ (b = false → Wout cls d σ H)
def fromC (h : Heap) (a : Addr) (v : Value) : Heap := (h.update a (Obj.mapFields (·.setIfInBounds 3 v))).update a (Obj.mapFields (·.setIfInBounds 4 (.bool true)))
def hdO3 (i : Nat) (o : Ot) : Ot := match o with
  | .nx δ2 κ => .nx (δ2.set i .no) κ
  | .rt r κ => .rt r κ
  | .bk δ2 κ => .bk (δ2.set i .no) κ
  | .ct δ2 κ => .ct (δ2.set i .no) κ
  | .xc c fs δ2 κ => .xc c fs (δ2.set i .no) κ
  | .bad => .bad
def hdI3 (i : Nat) (mh : HS2) (fs : List (Str × D)) (δ : Sm) (κ : Cells) (b : Bool) : Ot := if b = true then hdO3 i (mh fs (δ.set i .no) κ) else .bad
def pickR (i : Nat) (hs : List (Str × HS2)) (c : Str) (fs : List (Str × D)) : Sn := fun δ κ => match hs.lookup c with
  | some mh => hdI3 i mh fs δ κ (ltLen i δ)
  | none => .xc c fs δ κ
def tryR (rs : List Str) (i : Nat) (hs : List (Str × HS2)) (o : Ot) : Ot := match o with
  | .xc c fs δ' κ' => if c ∈ rs then pickR i hs c fs δ' κ' else .bad
  | o => o
def nTryR (rs : List Str) (i : Nat) (hs : List (Str × HS2)) (mb : Sn) : Sn := fun δ κ => tryR rs i hs (mb δ κ)
def tHSR (g : G) (W : WX) (i : Nat) (c : Str) (a : Addr) (cls : Value) (d : Option Addr) (m : HS2) : TS := fun E σ H => ∃ Hc H0c H0 δ κ fs, Stc g Hc H0c H0 H σ δ κ ∧ XCtx g H0 H σ i a cls d c fs ∧ PostS2 g W Hc H0c E (m fs δ κ)
end Pd

set_option Elab.async false
set_option linter.all false
set_option maxRecDepth 100000
set_option maxHeartbeats 4000000
namespace Pd
open PySem PySem.Spec PyProof.Rows L2
variable {vn : Bool}
structure FnG (P : Program) (w : World) (K : PySem.W.Frag) (mg : Str → Option Value) (base : Heap) (CX : CXT) (k : Nat) (f : Addr) (fd : FuncData) (ps : List Str) (sp : Sp) : Prop where
  len : ∀ vs H Q E, sp vs H Q E → vs.length = ps.length
  run : ∀ (A : Around) (outer : List Env) (s : Shared) (H : Hp) (args : Args) (us : List Value) (vs : List V) (Q : VK) (E : XK), Room k A → A.guards = some [] → Env0 P w K mg base A outer s H → BindsTo s fd args (ps.zip us) → Vals vs us → sp vs H Q E →
    codeAny (model P w) A (.call (.ref f) args) (CR CX outer P w H s Q E) s
section
variable {P : Program} {w : World} {K : PySem.W.Frag} {mg : Str → Option Value} {base : Heap} {ca : Str → Addr} {x qual : Str} {params : Arguments} {body : List Stmt} {scope : Scope} {dvs : List V} {kws : List (Str × V)} {f : Addr} {fd : FuncData} {N ps : List Str} {k n : Nat} {m : Sn}
end
section
variable (vn : Bool) (P : Program) (w : World) (K : PySem.W.Frag) (mg : Str → Option Value) (base : Heap) (ca : Str → Addr)
structure FnCG (x : Str) (st : Stmt) (dvs : List V) (ps : List Str) (k : Nat) (fm : Fc) (f : Addr) (fd : FuncData) : Prop where
  d : FunD K x x (defArgs st) (defBody st) (defScope st) dvs [] f fd
  g : FnG P w K mg base (CXv vn P w) k f fd ps (spC ⟨K, ca, w⟩ ps.length fm)
  m : mg x = some (.ref f)
structure MtEG (C m q : Str) (st : Stmt) (dvs : List V) (ps : List Str) (k : Nat) (fm : Fc) (f : Addr) (fd : FuncData) : Prop where
  d : FunD K m q (defArgs st) (defBody st) (defScope st) dvs [] f fd
  g : FnG P w K mg base (CXv vn P w) k f fd ps (spC ⟨K, ca, w⟩ ps.length fm)
  cl : Cls K (ca C)
  me : Meth K (ca C) m f
end
structure MthG (vn : Bool) (P : Program) (w : World) (K : PySem.W.Frag) (mg : Str → Option Value) (base : Heap) (ca : Str → Addr) (C m : Str) (n : Nat) (ks : List Str) (gD : List D → List D → List D) (k : Nat) (fm : Fc) : Prop where
  ex : ∃ (f : Addr) (fd : FuncData) (ps : List Str), Cls K (ca C) ∧ Meth K (ca C) m f ∧ FnG P w K mg base (CXv vn P w) k f fd ps (spC ⟨K, ca, w⟩ ps.length fm) ∧ Bd ⟨K, ca, w⟩ fd ps n ks gD ∧ ∀ ds es, ds.length = n → es.length = ks.length → (gD ds es).length = ps.length
section
variable {P : Program} {w : World} {K : PySem.W.Frag} {mg : Str → Option Value} {base : Heap} {ca : Str → Addr} {C m q : Str} {st : Stmt} {dvs : List V} {ps ks : List Str} {k n : Nat} {fm : Fc} {f : Addr} {fd : FuncData} {gD : List D → List D → List D}
theorem MtEG.at (h : MtEG vn P w K mg base ca C m q st dvs ps k fm f fd) (hb : Bd ⟨K, ca, w⟩ fd ps n ks gD) (lg : ∀ ds es, ds.length = n → es.length = ks.length → (gD ds es).length = ps.length) : MthG vn P w K mg base ca C m n ks gD k fm := ⟨f, fd, ps, h.cl, h.me, h.g, hb, lg⟩
theorem fng_z {sp : Sp} (F : FnG P w K mg base (CXv vn P w) k f fd ps sp) : FnG P w K mg base (CXv false P w) k f fd ps sp :=
  ⟨F.len, fun A outer s H args us vs Q E h1 h2 h3 h4 h5 h6 => PySem.codeAny_mono (F.run A outer s H args us vs Q E h1 h2 h3 h4 h5 h6) fun r s' hq => by
    cases r with
    | error e => exact cxv_z hq
    | ok fl => cases fl <;> exact hq⟩
theorem FnCG.z (h : FnCG vn P w K mg base ca C st dvs ps k fm f fd) : FnCG false P w K mg base ca C st dvs ps k fm f fd := ⟨h.d, fng_z h.g, h.m⟩
theorem MtEG.z (h : MtEG vn P w K mg base ca C m q st dvs ps k fm f fd) : MtEG false P w K mg base ca C m q st dvs ps k fm f fd := ⟨h.d, fng_z h.g, h.cl, h.me⟩
end
def repOk (ps : List PyData) : Bool := PyData.showableAll ps && !PyData.hasDictAll ps && decide (PyData.depthAll ps ≤ 40) && decide ((PyData.list ps).shown.length ≤ 16777216)
def kReprL : List D → Cells → Rk D
  | [d], κ => match lstOf κ d with
    | some ds => (match toPs ds with
      | some ps => if repOk ps = true then .ok (.str (PyData.list ps).shown) κ else .bad
      | none => .bad)
    | none => .bad
  | _, _ => .bad
def rReprL (g : G) : List V → Hp → VK → Prop := fun xs H Q => ∃ H0 κ x d ds ps, xs = [x] ∧ Sub H0 H ∧ CSt g H0 H κ ∧ Rp g H0 x d ∧ lstOf κ d = some ds ∧ toPs ds = some ps ∧ repOk ps = true ∧ Q (.str (PyData.list ps).shown) H
section
variable {X : Cx} {ca : Str → Addr} {pins : List (Addr × Obj)} {σ : L2.St} {H H0 : Hp} {s : Shared}
end
section
variable {X : Cx} {ca : Str → Addr} {W : WX} {a : Expr} {fa : Sc D} {fl : Sc (List D)} {k : Nat} {Ms : List (Str × Fc)} {pos p : Pos}
def zFmtL (f : Sc D) : Sc D := fun δ κ => (f δ κ).bind fun d κ => kReprL [d] κ
def SpOkG (vn : Bool) (P : Program) (w : World) (K : PySem.W.Frag) (mg : Str → Option Value) (base : Heap) (ca : Str → Addr) (m : Str) (k : Nat) (Ms : List (Str × Fc)) (n : Nat) : Prop := ∀ C fm, (C, fm) ∈ Ms → MthG vn P w K mg base ca C m n [] (fun ds _ => ds) k fm
end
end Pd

set_option Elab.async false
set_option linter.all false
set_option maxRecDepth 100000
set_option maxHeartbeats 4000000
namespace Pd
open PySem L2
variable {vn : Bool}
section
variable {X : Cx} {ca : Str → Addr} {W : WX} {k n : Nat} {f : Addr} {fd : FuncData} {ps ks : List Str} {fm : Fc} {gD : List D → List D → List D} {x : Str} {p pos : Pos} {e : Expr} {es : List Expr} {kws : List Keyword} {fa fk : Sc (List D)}
end
end Pd

set_option Elab.async false
set_option linter.all false
set_option maxRecDepth 100000
set_option maxHeartbeats 4000000
namespace Pd
open PySem PySem.Spec PyProof.Rows L2
section
variable {prog : Program} {w : World} {A : Around} {E : Value → Shared → Prop} {s : Shared}
end
section
variable {X : Cx} {tg : Expr}
end
abbrev blkH (X : Cx) (s : Shared) (H : Hp) (scope : Scope) (cenv : Env) (fp : List Addr) : Cx := { X.blk s H scope cenv fp with pn := X.pn }
section
variable {X : Cx}
end
section
variable {X : Cx} {ca : Str → Addr} {W : WX} {elt tg iter : Expr} {ifs : List Expr} {scope : Scope} {own : List (Str × Nat)} {gt : D → Sm → Res Sm} {t : Sc Bool} {fe : Sc D} {tgr : TG} {pos : Pos}
abbrev QDIH (X : Cx) (ca : Str → Addr) (W : WX) (tg iter : Expr) (it : Sc (List D)) : Prop := L2H.PIH X tg iter (Pd.tC ⟨X.K, ca, X.w⟩ W (Its ⟨X.K, ca, X.w⟩) it)
abbrev QDGH (X : Cx) (ca : Str → Addr) (W : WX) (tg iter : Expr) (it : Sc Stp) : Prop := L2H.PIH X tg iter (Pd.tC ⟨X.K, ca, X.w⟩ W (ItC ⟨X.K, ca, X.w⟩) it)
variable {a : Expr} {fa : Sc D} {fl : Sc (List D)} {p : Pos}
end
end Pd

set_option Elab.async false
set_option linter.all false
set_option maxRecDepth 100000
set_option maxHeartbeats 4000000
namespace Pd
open PySem PySem.Spec PyProof.Rows L2 LamX
variable {vn : Bool}
theorem cst_no_xd {g : G} {H0 H : Hp} {κ : Cells} {ad : Addr} {fvs : List (Str × V)} (c : CSt g H0 H κ) (h : H ad = some (.xd fvs)) : ∀ n, H0 ad ≠ some (cmk n) := fun n e => by
  have hl := c.bd ad n e
  obtain ⟨a, o, h1, h2, r⟩ := c.at_ n _ (List.getElem?_eq_getElem hl)
  have ea := c.un a ad n h1 e
  subst ea
  rw [h] at h2
  cases Option.some.inj h2
  generalize κ[n] = cc at r
  cases r with
  | dct r => cases r
structure XP where
  i : Nat
  a : Addr
  cls : Value
  d : Option Addr
  c : Str
  fs : List (Str × D)
abbrev XC (g : G) (H0 H : Hp) (σ : L2.St) (x : XP) : Prop := XCtx g H0 H σ x.i x.a x.cls x.d x.c x.fs
theorem XCtx.grw {g : G} {H0 H H0' H' : Hp} {σ : L2.St} {κ : Cells} {i : Nat} {a : Addr} {cls : Value} {d : Option Addr} {c : Str} {fs : List (Str × D)} (x : XCtx g H0 H σ i a cls d c fs) (cs : CSt g H0 H κ) (w : Grw H0 H H0' H') : XCtx g H0' H' σ i a cls d c fs := by
  obtain ⟨ad, fvs, h1, h2, h3, h4⟩ := x.fl
  exact ⟨x.cl, x.sl, ad, fvs, h1, w.up _ _ h2 (cst_no_xd cs h2), h3, h4.mono w.up0⟩
def tJ {α β : Type} (g : G) (W : WX) (x : XP) (R : Hp → α → β → Prop) (f : Sc β) : L2.St → Hp → (α → Hp → Prop) → Prop := fun σ H Q => ∃ Hc H0c H0 δ κ, Stc g Hc H0c H0 H σ δ κ ∧ XC g H0 H σ x ∧ Post2 g W σ H0 H R Q (f δ κ)
abbrev QJ (X : Cx) (ca : Str → Addr) (W : WX) (x : XP) (e : Expr) (f : Sc D) : Prop := PE X e (tJ ⟨X.K, ca, X.w⟩ W x (Rp ⟨X.K, ca, X.w⟩) f)
abbrev QJA (X : Cx) (ca : Str → Addr) (W : WX) (x : XP) (e : List Expr) (f : Sc (List D)) : Prop := PA X e (tJ ⟨X.K, ca, X.w⟩ W x (RpA ⟨X.K, ca, X.w⟩) f)
abbrev QJK (X : Cx) (ca : Str → Addr) (W : WX) (x : XP) (e : List Keyword) (f : Sc (List D)) : Prop := PK X e (tJ ⟨X.K, ca, X.w⟩ W x (RpA ⟨X.K, ca, X.w⟩) f)
def zXf (fs : List (Str × D)) (n : Str) : Sc D := fun _ κ => match fs.lookup n with
  | some d => .ok d κ
  | none => .bad
section
variable {X : Cx} {ca : Str → Addr} {W : WX} {x : XP} {a e : Expr} {es : List Expr} {fa fo : Sc D} {fl fk : Sc (List D)} {pos p : Pos} {kws : List Keyword} {nm : Option Str} {kpos : Pos}
end
abbrev tMkJ (g : G) (W : WX) (x : XP) (C : Addr) (f : Sc (List (Str × D))) : L2.St → Hp → XK → Prop := fun σ H Q => tJ g W x (FR g) f σ H fun fvs B => ∀ d, B d = none → Q (.ref C) (some d) (upd B d (.xd fvs))
section
variable {X : Cx} {ca : Str → Addr} {W : WX} {x : XP} {c : Str} {B : String} {bm : List Value} {newId initId : String} {ps ks : List Str} {src : List (Str × XSrc)} {m : Nat} {fI : Addr} {fd : FuncData} {dvs : List V} {dds : List D} {ix : List Pk} {p pos : Pos} {kws : List Keyword}
def tSJ (g : G) (W : WX) (x : XP) (m : Sn) : TS := fun E σ H => ∃ Hc H0c H0 δ κ, Stc g Hc H0c H0 H σ δ κ ∧ XC g H0 H σ x ∧ PostS2 g W Hc H0c E (m δ κ)
end
structure LamS1 (sc scope : Scope) (x : Str) : Prop where
  kind : scope.kind = .function
  co : scope.isCoroutine = false
  gen : scope.isGenerator = false
  par : scope.names.lookup x = some .local
  own : ∀ y ∈ scope.names, (y.2 = .local → y.1 = x) ∧ y.2 ≠ .cell
  free : ∀ y ∈ scope.names, y.2 = .free → sc.names.lookup y.1 = some .cell ∨ sc.names.lookup y.1 = some .free
def lamS1B (sc scope : Scope) (x : Str) : Bool :=
  decide (scope.kind = .function) && !scope.isCoroutine && !scope.isGenerator && decide (scope.names.lookup x = some .local) && scope.names.all fun y => (!decide (y.2 = .local) || decide (y.1 = x)) && !decide (y.2 = .cell) && (!decide (y.2 = .free) || decide (sc.names.lookup y.1 = some .cell) || decide (sc.names.lookup y.1 = some .free))
theorem LamS1.has {X : Cx} {scope : Scope} {x : Str} (L : LamS1 X.env.scope scope x) (ok : X.Ok) : ∀ y ∈ scope.names, y.2 = .free → ∃ c, X.env.cells.lookup y.1 = some c := fun y hy e => by
  rcases L.free y hy e with k | k
  · exact ok.has _ (.inl k)
  · exact ok.has _ (.inr k)
def lamC1 (vn : Bool) (X : Cx) (A : Around) (outer : List Env) (s : Shared) (H : Hp) (E : XK) (scope : Scope) (f c' : Addr) (x : Str) : Cx :=
  { lamCx X A outer s H E scope f c' with N := X.N ++ [x], xe := fun e s' => wpAny (model X.prog X.w) (A.deeper (lamEnv X scope s.heap.objs.size f c')) (leaving (lamEnv X scope s.heap.objs.size f c') e) (fun _ s'' => CXv vn X.prog X.w outer H s E e s'') (fun e' s'' => CXv vn X.prog X.w outer H s E e' s'') s' }
section
variable {X : Cx} {pins : List (Addr × Obj)} {σ : L2.St} {H HZ : Hp} {s s1 : Shared}
end
end Pd

set_option Elab.async false
set_option linter.all false
set_option maxRecDepth 100000
set_option maxHeartbeats 4000000
namespace Pd
open PySem PySem.Spec PySem.W PyProof.Rows L2 LamX
variable {vn : Bool}
theorem sls_snoc {g : G} {A B : Hp} {v : V} {d : D} (r : Rp g A v d) : ∀ {σ : L2.St} {δ : Sm} {as : List Addr}, Sls g A B σ δ as → Sls g A B (σ ++ [some v]) (δ ++ [.sh d]) as
  | _, _, _, .nil => Sls.cons (as := []) (bs := []) (.sh r) .nil
  | _, _, _, .cons q h => .cons q (sls_snoc r h)
theorem Stc.snoc {g : G} {Hc H0c H0 H : Hp} {σ : L2.St} {δ : Sm} {κ : Cells} {v : V} {d : D} (S : Stc g Hc H0c H0 H σ δ κ) (r : Rp g H0 v d) : Stc g Hc H0c H0 H (σ ++ [some v]) (δ ++ [.sh d]) κ := by
  obtain ⟨as, h1, h2, h3⟩ := S.own
  exact ⟨⟨as, sls_snoc r h1, h2, h3⟩, S.cs, S.gr⟩
abbrev tsJ (g : G) (W : WX) (i : Nat) (hs' : List (Str × HS2)) : Sut := fun a cls d E σ H => ∃ p, p ∈ hs' ∧ ∃ fs, tSJ g W ⟨i, a, cls, d, p.1, fs⟩ (p.2 fs) E σ H
def zOrc (orc : D → Cells → Rk D) (fl : Sc (List D)) : Sc D := fun δ κ => (fl δ κ).bind fun ds κ => match ds with
  | [d] => orc d κ
  | _ => .bad
def rcvR : Ot → Rk D
  | .rt d κ => .ok d κ
  | .nx _ κ => .ok .non κ
  | .xc c fs _ κ => .xc c fs κ
  | _ => .bad
def bodyR (rs : List Str) (i : Nat) (hs : List (Str × HS2)) (fl : Sc (List D)) (orc : D → Cells → Rk D) : Sn := nTryR rs i hs (nRet (zOrc orc fl))
def zLamR (n : Nat) (mk q : Str) (nS : Nat) (body : (D → Cells → Rk D) → Sn) (fa fb : Sc D) : Sc D := fun δ κ => (fa δ κ).bind fun d κ => match κ[n]? with
  | some (.tab mk' q') => if mk' = mk ∧ q' = q then rcvR (body (fun v κ => fb (δ ++ [.sh v]) κ) (.sh d :: List.replicate nS .no) κ) else .bad
  | _ => .bad
section
variable {X : Cx} {ca : Str → Addr} {W : WX}
end
end Pd

set_option Elab.async false
set_option linter.all false
set_option maxRecDepth 100000
set_option maxHeartbeats 4000000
namespace Pd
open PySem PySem.Spec PyProof.Rows L2
section
variable {prog : Program} {w : World} {A : Around} {E : Value → Shared → Prop} {s : Shared}
end
section
variable {X : Cx} {tg : Expr}
end
section
variable {X : Cx} {ca : Str → Addr} {W : WX} {elt tg iter a b : Expr} {ifs : List Expr} {scope : Scope} {own : List (Str × Nat)} {gt : D → Sm → Res Sm} {it : Sm → Res (List D)} {t : Sm → Res Bool} {fe fa fb : Sm → Res D} {fl : Sm → Res (List D)} {tgr : TG} {pos p : Pos}
abbrev PDIH (X : Cx) (ca : Str → Addr) (W : WX) (tg iter : Expr) (it : Sm → Res (List D)) : Prop := L2H.PIH X tg iter (tG ⟨X.K, ca, X.w⟩ W (Its ⟨X.K, ca, X.w⟩) it)
end
end Pd

set_option Elab.async false
set_option linter.all false
set_option maxRecDepth 100000
set_option maxHeartbeats 4000000
namespace Pd
open PySem PySem.Spec PyProof.Rows L2
def drf1 (κ : Cells) (d : D) : D := match lstR κ d with
  | some ds => .lst ds
  | none => d
def drfL (κ : Cells) : D → D
  | .lst ds => .lst (ds.map (drf1 κ))
  | d => d
section
variable {g : G} {H0 H : Hp} {κ : Cells}
end
def kNeL (x y : D) (κ : Cells) : Rk D := if (shp (drfL κ x) && shp (drfL κ y)) = true then .ok (.bl (!deq (drfL κ x) (drfL κ y))) κ else .bad
def kEqL (x y : D) (κ : Cells) : Rk D := if (shp (drfL κ x) && shp (drfL κ y)) = true then .ok (.bl (deq (drfL κ x) (drfL κ y))) κ else .bad
section
variable {X : Cx} {ca : Str → Addr} {W : WX} {a b : Expr} {fa fb : Sc D} {pos : Pos}
end
section
variable {rs : List Str} {i n nS : Nat} {mk q c c' : Str} {hs : List (Str × HS2)} {fl : Sc (List D)} {fa fb : Sc D} {δ δ' : Sm} {κ κ1 κ2 κ3 κ4 : Cells} {d x v : D} {fs fs' : List (Str × D)}
end
end Pd

set_option Elab.async false
set_option linter.all false
set_option maxRecDepth 100000
set_option maxHeartbeats 4000000
namespace Pd
open PySem PySem.Spec PyProof.Rows L2
def kRepT : D → D → Res D
  | .tup ds, .int k => if ds ≠ [] ∧ 2 ≤ k ∧ k ≤ 1000 ∧ ds.length ≤ 1000 then .ok (.tup (List.replicate k.toNat ds).flatten) else .bad
  | _, _ => .bad
section
variable {X : Cx} {ca : Str → Addr} {W : WX} {a b : Expr} {fa fb : Sm → Res D} {pos : Pos}
end
end Pd

set_option Elab.async false
set_option linter.all false
set_option maxRecDepth 100000
set_option maxHeartbeats 4000000
namespace Pd
open PySem L2
section
variable {X : Cx} {ca : Str → Addr} {W : WX} {o a b : Expr} {fo fa fb : Sc D} {fl : Sc (List D)} {pos apos : Pos}
def fIns : List D → List D → Option (D × List D)
  | ds, [.int i, d] => if ds.length < 1000000 ∧ 0 ≤ i ∧ i < 1000000 then some (.non, ds.take i.toNat ++ [d] ++ ds.drop i.toNat) else none
  | _, _ => none
def fPat : List D → List D → Option (D × List D)
  | ds, [.int i] => if 0 ≤ i ∧ i < 1000000 then (match ds[i.toNat]? with
    | some d => some (d, ds.eraseIdx i.toNat)
    | none => none) else none
  | _, _ => none
theorem RpA.eraseIdx {g : G} {H : Hp} : ∀ {vs : List V} {ds : List D} (n : Nat), RpA g H vs ds → RpA g H (vs.eraseIdx n) (ds.eraseIdx n)
  | _, _, _, .nil => .nil
  | _, _, 0, .cons q r => r
  | _, _, n + 1, .cons q r => .cons q (RpA.eraseIdx n r)
def kSpC (s : Str) : D → Cells → Rk D
  | .str b, κ => if (b.length == 0) = false ∧ s.length + 2 ≤ 16777216 then .ok (.loc κ.length) (κ ++ [.lst ((Txt.split s b).map D.str)]) else .bad
  | _, _ => .bad
def dSpC (fb : Sc D) (δ : Sm) (x : D) (κ : Cells) : Rk D := match x with
  | .str z => (fb δ κ).bind (kSpC z)
  | _ => .bad
def zSpC (fa fb : Sc D) : Sc D := fun δ κ => (fa δ κ).bind (dSpC fb δ)
theorem zSpC_eq (fa fb : Sc D) (δ : Sm) (κ : Cells) : zSpC fa fb δ κ = (fa δ κ).bind (dSpC fb δ) := Eq.trans rfl rfl
theorem dSpC_str (fb : Sc D) (δ : Sm) (z : Str) (κ : Cells) : dSpC fb δ (.str z) κ = (fb δ κ).bind (kSpC z) := Eq.trans rfl rfl
def kJnC (s : Str) (d : D) (κ : Cells) : Rk D := match lstOf κ d with
  | some ds => (kJoin s (.lst ds)).at κ
  | none => .bad
def dJnC (fb : Sc D) (δ : Sm) (x : D) (κ : Cells) : Rk D := match x with
  | .str z => (fb δ κ).bind (kJnC z)
  | _ => .bad
def zJnC (fa fb : Sc D) : Sc D := fun δ κ => (fa δ κ).bind (dJnC fb δ)
theorem zJnC_eq (fa fb : Sc D) (δ : Sm) (κ : Cells) : zJnC fa fb δ κ = (fa δ κ).bind (dJnC fb δ) := Eq.trans rfl rfl
theorem dJnC_str (fb : Sc D) (δ : Sm) (z : Str) (κ : Cells) : dJnC fb δ (.str z) κ = (fb δ κ).bind (kJnC z) := Eq.trans rfl rfl
end
end Pd

set_option Elab.async false
set_option linter.all false
set_option maxRecDepth 100000
set_option maxHeartbeats 4000000
namespace Pd
open PySem L2
section
variable {X : Cx} {ca : Str → Addr} {i : Nat} {c : Str} {a : Addr} {cls : Value} {d : Option Addr} {e : Expr} {fl : List (Str × D) → Sm → Res (List D)} {pos p : Pos}
def hA (k : List D → Res D) (fl : List (Str × D) → Sm → Res (List D)) : List (Str × D) → Sm → Res D := fun fs δ => (fl fs δ).bind k
end
end Pd

set_option Elab.async false
set_option linter.all false
set_option maxRecDepth 100000
set_option maxHeartbeats 4000000
namespace Pd
open PySem PySem.Spec PyProof.Rows L2
variable {vn : Bool}
def toPL (κ : Cells) : D → Option PyData
  | .loc n => match κ[n]? with
    | some (.lst ds) => (toPs ds).map .list
    | _ => none
  | d => toP d
def toPLs (κ : Cells) : List D → Option (List PyData)
  | [] => some []
  | x :: xs => match toPL κ x, toPLs κ xs with
    | some p, some ps => some (p :: ps)
    | _, _ => none
def toPC (κ : Cells) : D → Option PyData
  | .tup xs => (toPLs κ xs).map .tuple
  | d => toPL κ d
def isDsp : PyData → Bool
  | .list _ => true
  | .tuple _ => true
  | _ => false
def repOkP (p : PyData) : Bool := p.showable && !p.hasDict && decide (p.depth ≤ 41) && decide (p.shown.length ≤ 16777216) && isDsp p
def reprT (κ : Cells) : D → Option Str
  | .non => some "None"
  | .str x => if (reprText x).length ≤ 16777216 then some (reprText x) else none
  | d => match toPC κ d with
    | some p => if repOkP p = true then some p.shown else none
    | none => none
def kReprA : List D → Cells → Rk D
  | [d], κ => match reprT κ d with
    | some t => .ok (.str t) κ
    | none => .bad
  | _, _ => .bad
section
variable {X : Cx} {ca : Str → Addr} {pins : List (Addr × Obj)} {σ : L2.St} {H H0 : Hp} {s : Shared} {κ : Cells}
def rReprA (g : G) : List V → Hp → VK → Prop := fun xs H Q => ∃ H0 κ x d t, xs = [x] ∧ Sub H0 H ∧ CSt g H0 H κ ∧ Rp g H0 x d ∧ reprT κ d = some t ∧ Q (.str t) H
end
section
variable {X : Cx} {ca : Str → Addr} {W : WX} {a : Expr} {fl : Sc (List D)} {pos p : Pos} {elt tg iter : Expr} {ifs : List Expr} {scope : Scope} {own : List (Str × Nat)} {gt : D → Sm → Res Sm} {t : Sc Bool} {fe : Sc D} {tgr : TG}
end
end Pd

set_option Elab.async false
set_option linter.all false
set_option maxRecDepth 100000
set_option maxHeartbeats 4000000
namespace Pd
open PySem PySem.Spec PyProof.Rows L2
variable {vn : Bool}
section
variable (vn : Bool) (P : Program) (w : World) (K : PySem.W.Frag) (mg : Str → Option Value) (base : Heap) (ca : Str → Addr)
structure FnEH (x : Str) (st : Stmt) (dvs : List V) (ps : List Str) (k : Nat) (fm : List D → Res D) (f : Addr) (fd : FuncData) : Prop where
  d : FunD K x x (defArgs st) (defBody st) (defScope st) dvs [] f fd
  g : L2H.FnH P w K mg base (CXv vn P w) k f fd ps (spD ⟨K, ca, w⟩ ps.length fm)
  m : mg x = some (.ref f)
end
theorem FnEH.z {P : Program} {w : World} {K : PySem.W.Frag} {mg : Str → Option Value} {base : Heap} {ca : Str → Addr} {x : Str} {st : Stmt} {dvs : List V} {ps : List Str} {k : Nat} {fm : List D → Res D} {f : Addr} {fd : FuncData} (h : FnEH vn P w K mg base ca x st dvs ps k fm f fd) : FnEH false P w K mg base ca x st dvs ps k fm f fd := ⟨h.d, fnh_z h.g, h.m⟩
section
variable {P : Program} {w : World} {K : PySem.W.Frag} {mg : Str → Option Value} {base : Heap} {ca : Str → Addr} {x qual : Str} {params : Arguments} {body : List Stmt} {scope : Scope} {dvs : List V} {kws : List (Str × V)} {f : Addr} {fd : FuncData} {N ps : List Str} {k n : Nat} {m : Sm → Out}
end
section
variable {X : Cx} {ca : Str → Addr} {W : WX} {k n np : Nat} {f : Addr} {fd : FuncData} {ps ks : List Str} {fm : List D → Res D} {gD : List D → List D → List D} {x : Str} {p pos : Pos} {e : Expr} {es : List Expr} {kws : List Keyword} {fa fk : Sm → Res (List D)}
end
section
variable {X : Cx} {ca : Str → Addr} {W : WX} {tg iter c : Expr} {it : Sm → Res (List D)} {gt : D → Sm → Res Sm} {m : Sm → Out} {t : Sm → Res Bool} {body : List Stmt} {tgr : TG} {vs : List Nat} {pos : Pos}
end
section
variable {X : Cx} {ca : Str → Addr} {W : WX} {tg a b : Expr} {fa : Sm → Res D} {fl : Sm → Res (List D)} {pos p : Pos}
end
end Pd

set_option Elab.async false
set_option linter.all false
set_option maxRecDepth 100000
set_option maxHeartbeats 4000000
namespace Pd
open PySem PySem.Spec PyProof.Rows L2
variable {vn : Bool}
def hE1 (k : D → Res D) (f : List (Str × D) → Sm → Res D) : List (Str × D) → Sm → Res D := fun fs δ => (f fs δ).bind k
def hE2 (k : D → D → Res D) (f g : List (Str × D) → Sm → Res D) : List (Str × D) → Sm → Res D := fun fs δ => (f fs δ).bind fun x => (g fs δ).bind fun y => k x y
def hAnd (f g : List (Str × D) → Sm → Res D) : List (Str × D) → Sm → Res D := fun fs δ => (f fs δ).bind fun x => match x with
  | .bl true => g fs δ
  | .bl false => .ok (.bl false)
  | _ => .bad
def hItL (f : List (Str × D) → Sm → Res D) : List (Str × D) → Sm → Res (List D) := fun fs δ => (f fs δ).bind asL
def hLc (it : List (Str × D) → Sm → Res (List D)) (gt : D → Sm → Res Sm) (t : Sm → Res Bool) (fe : Sm → Res D) (vs : List Nat) : List (Str × D) → Sm → Res D := fun fs δ => eLc (it fs) gt t fe vs δ
def hCall (fm : List D → Res D) (gD : List D → List D → List D) (fl : List (Str × D) → Sm → Res (List D)) : List (Str × D) → Sm → Res D := fun fs δ => (fl fs δ).bind fun ds => fm (gD ds [])
def hSet (j : Nat) (f : List (Str × D) → Sm → Res D) (m : List (Str × D) → Sm → Out) : List (Str × D) → Sm → Out := fun fs δ => match f fs δ with
  | .ok d => m fs (δ.set j (.sh d))
  | _ => .bad
section
variable {α β α1 β1 : Type} {g : G} {σ : L2.St} {δ : Sm} {i : Nat} {c : Str} {a : Addr} {cls : Value} {d : Option Addr} {fs : List (Str × D)} {Hc H0c H0 H H0' H' : Hp} {R : Hp → α → β → Prop} {R1 : Hp → α1 → β1 → Prop} {Q : α → Hp → Prop}
end
section
variable {X : Cx} {ca : Str → Addr} {i : Nat} {c : Str} {a : Addr} {cls : Value} {d : Option Addr} {e b : Expr} {es rest : List Expr} {f fa fb : List (Str × D) → Sm → Res D} {fl : List (Str × D) → Sm → Res (List D)} {pos p : Pos}
end
section
variable {X : Cx} {ca : Str → Addr} {i : Nat} {c : Str} {a : Addr} {cls : Value} {d : Option Addr} {elt tg iter : Expr} {ifs : List Expr} {scope : Scope} {own : List (Str × Nat)} {gt : D → Sm → Res Sm} {itf : List (Str × D) → Sm → Res (List D)} {f : List (Str × D) → Sm → Res D} {t : Sm → Res Bool} {fe : Sm → Res D} {tgr : TG} {pos : Pos}
abbrev PDHI (X : Cx) (ca : Str → Addr) (i : Nat) (c : Str) (a : Addr) (cls : Value) (d : Option Addr) (tg iter : Expr) (it : List (Str × D) → Sm → Res (List D)) : Prop := L2H.PIH X tg iter (tH ⟨X.K, ca, X.w⟩ i c a cls d (Its ⟨X.K, ca, X.w⟩) it)
end
end Pd

set_option Elab.async false
set_option linter.all false
set_option maxRecDepth 100000
set_option maxHeartbeats 4000000
namespace Pd
open PySem PySem.Spec PyProof.Rows L2
section
variable {P : Program} {w : World} {A : Around} {E : Value → Shared → Prop} {s : Shared} {it a I x1 : Addr} {sl i : Nat} {es : Array (Int × Value)} {ep : Nat} {t : SetTable}
end
section
variable {P : Program} {w : World} {A : Around} {a I x1 : Addr} {es : Array (Int × Value)} {ep : Nat} {t : SetTable}
end
end Pd

set_option Elab.async false
set_option linter.all false
set_option maxRecDepth 100000
set_option maxHeartbeats 4000000
namespace Pd
open PySem PySem.Spec PyProof.Rows L2
section
variable {P : Program} {w : World} {A A' : Around} {E : Value → Shared → Prop} {s : Shared} {a x1 : Addr} {es : Array (Int × Value)} {ep : Nat} {t : SetTable}
def HotIt (P : Program) (w : World) (A' : Around) (x1 : Addr) (s : Shared) (a : Addr) (es : Array (Int × Value)) (s₂ : Shared) (I : Addr) : Prop :=
  ∃ (fp : List Addr) (St : Nat → Heap → Prop) (out : List Value) (Pv : Nat → Value → Prop), (∀ b o, s.heap.get? b = some o → s₂.heap.get? b = some o) ∧ (s₂.gens = s.gens ∧ s₂.os = s.os) ∧
    s.heap.objs.size ≤ I ∧ (∀ b ∈ fp, b < s.heap.objs.size ∨ s.heap.objs.size ≤ b ∧ b ≤ I) ∧ (∀ b ∈ fp, b < s.heap.objs.size → b = a ∨ b = x1) ∧ out.Perm (es.toList.map (·.2)) ∧ Walks P w A' I fp [I] out.length Pv St ∧ (∀ j v, Pv j v → out[j]? = some v) ∧ St 0 s₂.heap
theorem HotIt.of {s₂ : Shared} {I : Addr} {fp : List Addr} {St : Nat → Heap → Prop} {out : List Value} {Pv : Nat → Value → Prop} {n : Nat} (W : Walks P w A' I fp [I] n Pv St) (hn : out.length = n)
    (k : ∀ b o, s.heap.get? b = some o → s₂.heap.get? b = some o) (g : s₂.gens = s.gens ∧ s₂.os = s.os) (hI : s.heap.objs.size ≤ I) (hfp : ∀ b ∈ fp, b = a ∨ b = x1 ∨ s.heap.objs.size ≤ b ∧ b ≤ I) (ha : a < s.heap.objs.size) (hx : x1 < s.heap.objs.size)
    (hp : out.Perm (es.toList.map (·.2))) (hPv : ∀ j v, Pv j v → out[j]? = some v) (hst : St 0 s₂.heap) : HotIt P w A' x1 s a es s₂ I := by
  subst hn
  refine ⟨fp, St, out, Pv, k, g, hI, fun b hb => ?_, fun b hb hl => ?_, hp, W, hPv, hst⟩
  · rcases hfp b hb with z | z | z
    · exact .inl (z ▸ ha)
    · exact .inl (z ▸ hx)
    · exact .inr z
  · rcases hfp b hb with z | z | z
    · exact .inl z
    · exact .inr z
    · exact absurd hl (Nat.not_lt_of_le z.1)
end
end Pd

set_option Elab.async false
set_option linter.all false
set_option maxRecDepth 100000
set_option maxHeartbeats 4000000
namespace Pd
open PySem PySem.Spec PyProof.Rows L2
section
variable {P : Program} {w : World} {A : Around} {E : Value → Shared → Prop} {s : Shared}
end
end Pd
namespace Pd
open PySem L2
end Pd

set_option Elab.async false
set_option linter.all false
set_option maxRecDepth 100000
set_option maxHeartbeats 4000000
namespace Pd
open PySem L2
end Pd

set_option Elab.async false
set_option linter.all false
set_option maxRecDepth 100000
set_option maxHeartbeats 4000000
namespace Pd
open PySem L2
def intD : D → Bool
  | .int _ => true
  | _ => false
def intV : V → Bool
  | .int _ => true
  | _ => false
def ilD (ds : List D) : Bool := !ds.isEmpty && ds.all intD
def ilV (vs : List V) : Bool := !vs.isEmpty && vs.all intV
def ilO : HO → Bool
  | .lst vs => ilV vs
  | .frz _ (.lst vs) => ilV vs
  | _ => false
mutual
def noI : D → Bool
  | .non => true
  | .bl _ => true
  | .int _ => true
  | .str _ => true
  | .loc _ => true
  | .lst ds => !ilD ds && noIA ds
  | .tup ds => noIA ds
  | .obj _ _ _ => false
  | .scr _ => false
  | .dct _ _ => false
  | .dtt _ _ => false
  | .clo _ => false
def noIA : List D → Bool
  | [] => true
  | d :: ds => noI d && noIA ds
end
def cutH (H0 : Hp) : Hp := fun b => match H0 b with
  | some u => if ilO u = true then none else some u
  | none => none
def slC : O → Bool
  | .no => true
  | .sh d => noI d
  | _ => false
def cleanS (δ : Sm) : Bool := δ.all slC
def ceC : Cell → Bool
  | .lst ds => noIA ds
  | _ => false
def cleanK (κ : Cells) : Bool := κ.all ceC
def jnH (A H0 : Hp) : Hp := fun b => match A b with
  | some u => some u
  | none => H0 b
section
variable {g : G} {H0 H A B : Hp} {κ : Cells}
end
def drH (A : Hp) (a : Addr) : Hp := fun b => if b = a then none else A b
theorem drH_of {A : Hp} {a b : Addr} {u : HO} (h : drH A a b = some u) : b ≠ a ∧ A b = some u := by
  have h' : (if b = a then none else A b) = some u := h
  by_cases z : b = a
  · rw [if_pos z] at h'
    cases h'
  · rw [if_neg z] at h'
    exact ⟨z, h'⟩
theorem drH_ne {A : Hp} {a b : Addr} (h : b ≠ a) : drH A a b = A b := if_neg h
section
variable {g : G} {H0 H A B B' : Hp} {κ : Cells} {a : Addr}
theorem Grw.dr (w : Grw H0 H A B) (h0 : H0 a = none) (h1 : H a = none) (hb : ∀ b, b ≠ a → B' b = B b) : Grw H0 H (drH A a) B' where
  up := fun b u e n => (hb b fun z => by rw [z, h1] at e; cases e).trans (w.up b u e n)
  th := fun b h => by
    rw [hb b fun z => h (by rw [z]; exact h1)]
    exact w.th b h
  up0 := fun b u e => by
    rw [drH_ne (ne_of_none e h0)]
    exact w.up0 b u e
  sub := fun b u e => by
    obtain ⟨n, e⟩ := drH_of e
    rw [hb b n]
    exact w.sub b u e
  fr := fun b h h0 => by
    rw [drH_ne fun z => h (by rw [z]; exact h1)]
    exact w.fr b h h0
  lk := fun b od u e => (hb b fun z => by rw [z, h1] at e; cases e).trans (w.lk b od u e)
end
theorem pe_unl {X : Cx} {e : Expr} {te : TE} (h : PE X e te) : PE X e (fun σ H Q => te σ H fun x H1 => ∃ H2, (H2 = H1 ∨ ∃ d od u, H1 d = some (.frz od u) ∧ H d = none ∧ H2 = upd H1 d u) ∧ Q x H2) := by
  refine ⟨fun pins s σ H Q I hw => ?_⟩
  refine thn (h.run pins s σ H _ I hw) fun v s1 q => ?_
  obtain ⟨x, H1, I1, r, H2, c, q⟩ := q
  refine ⟨x, H2, ?_, r, q⟩
  rcases c with rfl | ⟨d, od, u, h1, h2, rfl⟩
  · exact I1
  · refine I1.unlock h1 fun o' u' e => ?_
    have := I.base.frzs d o' u' e
    rw [h2] at this
    cases this
def newD : Rk D → Rk D
  | .ok (.tup [w, .lst ds]) κ => if (noI w && ilD ds && cleanK κ) = true then .ok (.tup [w, .loc κ.length]) (κ ++ [.lst ds]) else .bad
  | .ok .non κ => .ok .non κ
  | _ => .bad
def zNew (f : Sc D) : Sc D := fun δ κ => if (cleanS δ && cleanK κ) = true then newD (f δ κ) else .bad
end Pd

set_option Elab.async false
set_option linter.all false
set_option maxRecDepth 100000
set_option maxHeartbeats 4000000
namespace Pd
open PySem L2
def lsO : HO → Bool
  | .lst _ => true
  | .frz _ (.lst _) => true
  | _ => false
mutual
def noL : D → Bool
  | .non => true
  | .bl _ => true
  | .int _ => true
  | .str _ => true
  | .loc _ => true
  | .lst _ => false
  | .tup ds => noLA ds
  | .obj _ _ _ => false
  | .scr _ => false
  | .dct _ _ => false
  | .dtt _ _ => false
  | .clo _ => false
def noLA : List D → Bool
  | [] => true
  | d :: ds => noL d && noLA ds
end
mutual
theorem Rp.cutL {g : G} {H H1 : Hp} (hs : ∀ b u, H b = some u → lsO u = false → H1 b = some u) : ∀ (d : D) (v : V), noL d = true → Rp g H v d → Rp g H1 v d
  | .non, _, _, h => by cases h; exact .non
  | .bl _, _, _, h => by cases h; exact .bl _
  | .int _, _, _, h => by cases h; exact .int _
  | .str _, _, _, h => by cases h; exact .str _
  | .loc n, _, _, h => by
    cases h with
    | loc q => exact .loc (hs _ _ q rfl)
  | .lst ds, v, p, h => by cases p
  | .tup ds, v, p, h => by
    cases h with
    | @tup b vs _ q r =>
      refine .tup ?_ (RpA.cutL hs ds vs p r)
      rcases q with (q | ⟨o, q⟩) | q
      · exact .inl (.inl (hs _ _ q rfl))
      · exact .inl (.inr ⟨o, hs _ _ q rfl⟩)
      · exact .inr q
  | .obj _ _ _, _, p, _ => by cases p
  | .scr _, _, p, _ => by cases p
  | .dct _ _, _, p, _ => by cases p
  | .dtt _ _, _, p, _ => by cases p
  | .clo _, _, p, _ => by cases p
theorem RpA.cutL {g : G} {H H1 : Hp} (hs : ∀ b u, H b = some u → lsO u = false → H1 b = some u) : ∀ (ds : List D) (vs : List V), noLA ds = true → RpA g H vs ds → RpA g H1 vs ds
  | [], _, _, h => by cases h; exact .nil
  | d :: ds, _, p, h => by
    have p2 := Bool.and_eq_true_iff.mp (show (noL d && noLA ds) = true from p)
    cases h with
    | cons q r => exact .cons (Rp.cutL hs d _ p2.1 q) (RpA.cutL hs ds _ p2.2 r)
end
def cutLs (H0 : Hp) : Hp := fun b => match H0 b with
  | some u => if lsO u = true then none else some u
  | none => none
theorem cutL_of {H0 : Hp} {b : Addr} {u : HO} (h : cutLs H0 b = some u) : H0 b = some u ∧ lsO u = false := by
  unfold cutLs at h
  cases e : H0 b with
  | none => rw [e] at h; cases h
  | some v =>
    rw [e] at h
    dsimp only at h
    by_cases z : lsO v = true
    · rw [if_pos z] at h
      cases h
    · rw [if_neg z] at h
      cases h
      exact ⟨rfl, by rwa [Bool.not_eq_true] at z⟩
theorem cutL_to {H0 : Hp} {b : Addr} {u : HO} (h : H0 b = some u) (n : lsO u = false) : cutLs H0 b = some u := by
  unfold cutLs
  rw [h]
  dsimp only
  rw [if_neg (by rw [n]; decide)]
theorem cutL_none {H0 : Hp} {b : Addr} {u : HO} (h : H0 b = some u) (n : lsO u = true) : cutLs H0 b = none := by
  unfold cutLs
  rw [h]
  dsimp only
  rw [if_pos n]
def slL : O → Bool
  | .no => true
  | .sh d => noL d
  | _ => false
def cleanSL (δ : Sm) : Bool := δ.all slL
def ceL : Cell → Bool
  | .lst ds => noLA ds
  | .tab _ _ => true
  | _ => false
def cleanKL (κ : Cells) : Bool := κ.all ceL
theorem Sls.cutL {g : G} {H0 H1 H : Hp} {σ : St} {δ : Sm} {as : List Addr} (hs : ∀ b u, H0 b = some u → lsO u = false → H1 b = some u) (h : Sls g H0 H σ δ as) : cleanSL δ = true → Sls g H1 H σ δ [] := by
  induction h with
  | nil => exact fun _ => .nil
  | @cons v1 o1 σ1 δ1 as1 bs1 q1 r1 ih =>
    intro c
    have c2 : (slL o1 && δ1.all slL) = true := c
    rw [Bool.and_eq_true] at c2
    have t := ih c2.2
    cases q1 with
    | no => exact Sls.cons .no t
    | sh q => exact Sls.cons (.sh (Rp.cutL hs _ _ c2.1 q)) t
    | ol q r => exact nomatch c2.1
    | ot q r => exact nomatch c2.1
theorem CSt.cutL {g : G} {H0 H1 H H' : Hp} {κ : Cells} (hs : ∀ b u, H0 b = some u → lsO u = false → H1 b = some u) (hb : ∀ b u, H1 b = some u → H0 b = some u) (hH : ∀ b n, H0 b = some (cmk n) → H' b = H b) (c : CSt g H0 H κ) (k : cleanKL κ = true) : CSt g H1 H' κ where
  at_ := fun n x e => by
    obtain ⟨a, o, h1, h2, h3⟩ := c.at_ n x e
    have kx : ceL x = true := List.all_eq_true.mp k x (List.mem_of_getElem? e)
    refine ⟨a, o, hs _ _ h1 rfl, (hH _ _ h1).trans h2, ?_⟩
    cases h3 with
    | lst r => exact .lst (RpA.cutL hs _ _ kx r)
    | dct r => exact nomatch kx
    | ins r => exact nomatch kx
    | dcf r => exact nomatch kx
    | tab t c =>
      refine .tab t fun pos cv h => ?_
      obtain ⟨x, e1, e2⟩ := c pos cv h
      exact ⟨x, e1, hs _ _ e2 rfl⟩
  bd := fun a n h => c.bd a n (hb _ _ h)
  un := fun a b n h1 h2 => c.un a b n (hb _ _ h1) (hb _ _ h2)
  tb := fun n P q h => hs _ _ (c.tb n P q h) rfl
theorem cutL_sub {H0 H : Hp} (s : Sub H0 H) : Sub (cutLs H0) H := fun b u e => s b u (cutL_of e).1
theorem Stc.cutL {g : G} {Hc H0c H0 H : Hp} {σ : St} {δ : Sm} {κ : Cells} (S : Stc g Hc H0c H0 H σ δ κ) (h1 : cleanSL δ = true) (h2 : cleanKL κ = true) : Stc g H (cutLs H0) (cutLs H0) H σ δ κ := by
  obtain ⟨as, q, _, _⟩ := S.own
  exact ⟨⟨[], q.cutL (fun b u e n => cutL_to e n) h1, List.nodup_nil, fun a ha => nomatch ha⟩, S.cs.cutL (fun b u e n => cutL_to e n) (fun b u e => (cutL_of e).1) (fun _ _ _ => rfl) h2, Grw.refl (cutL_sub S.s0)⟩
def jnL (A H0 : Hp) : Hp := fun b => match A b with
  | some u => some u
  | none => H0 b
theorem jl_l {A H0 : Hp} : Same A (jnL A H0) := fun b u e => by
  unfold jnL
  rw [e]
theorem jl_of {A H0 : Hp} {b : Addr} {u : HO} (h : jnL A H0 b = some u) : A b = some u ∨ A b = none ∧ H0 b = some u := by
  unfold jnL at h
  cases e : A b with
  | none => rw [e] at h; exact .inr ⟨rfl, h⟩
  | some v => rw [e] at h; exact .inl h
section
variable {g : G} {H0 H A B : Hp} {κ : Cells}
theorem jl_r (s : Sub H0 H) (w : Grw (cutLs H0) H A B) : Same H0 (jnL A H0) := fun b u e => by
  by_cases z : lsO u = true
  · have hb : H b ≠ none := by
      rcases s b u e with y | ⟨_, y⟩
      · rw [y]; exact fun z => nomatch z
      · exact y
    have := w.fr b hb (cutL_none e z)
    unfold jnL
    rw [this]
    exact e
  · exact jl_l b u (w.up0 b u (cutL_to e (by rwa [Bool.not_eq_true] at z)))
theorem jl_mk (w : Grw (cutLs H0) H A B) {b : Addr} {n : Nat} (h : jnL A H0 b = some (cmk n)) : A b = some (cmk n) := by
  rcases jl_of h with z | ⟨z1, z2⟩
  · exact z
  · rw [w.up0 b _ (cutL_to z2 rfl)] at z1
    cases z1
theorem Grw.jl (s : Sub H0 H) (w : Grw (cutLs H0) H A B) : Grw H0 H (jnL A H0) B where
  up := fun a u e n => w.up a u e fun k z => n k (cutL_of z).1
  th := w.th
  up0 := jl_r s w
  sub := fun b u e => by
    rcases jl_of e with z | ⟨z1, z2⟩
    · exact w.sub b u z
    · have nk : ∀ n, H0 b ≠ some (cmk n) := fun n y => by
        rw [w.up0 b _ (cutL_to y rfl)] at z1
        cases z1
      rcases s b u z2 with y | ⟨⟨n, rfl⟩, _⟩
      · exact .inl (w.up b u y fun n q => nk n (cutL_of q).1)
      · exact absurd z2 (nk n)
  fr := fun a ha h0 => by
    have c0 : cutLs H0 a = none := by
      unfold cutLs
      rw [h0]
    unfold jnL
    rw [w.fr a ha c0]
    exact h0
  lk := w.lk
theorem CSt.jl (w : Grw (cutLs H0) H A B) (c : CSt g A B κ) : CSt g (jnL A H0) B κ where
  at_ := fun n x e => by
    obtain ⟨a, o, h1, h2, h3⟩ := c.at_ n x e
    exact ⟨a, o, jl_l _ _ h1, h2, h3.up jl_l⟩
  bd := fun a n h => c.bd a n (jl_mk w h)
  un := fun a b n h1 h2 => c.un a b n (jl_mk w h1) (jl_mk w h2)
  tb := fun n P q h => jl_l _ _ (c.tb n P q h)
end
def drL (A : Hp) (a : Addr) : Hp := fun b => if b = a then none else A b
theorem drL_of {A : Hp} {a b : Addr} {u : HO} (h : drL A a b = some u) : b ≠ a ∧ A b = some u := by
  have h' : (if b = a then none else A b) = some u := h
  by_cases z : b = a
  · rw [if_pos z] at h'
    cases h'
  · rw [if_neg z] at h'
    exact ⟨z, h'⟩
theorem drL_ne {A : Hp} {a b : Addr} (h : b ≠ a) : drL A a b = A b := if_neg h
theorem drL_same {A : Hp} {a : Addr} : drL A a a = none := if_pos rfl
section
variable {g : G} {H0 H A B B' : Hp} {κ : Cells} {a : Addr}
theorem Grw.dl (w : Grw H0 H A B) (h0 : H0 a = none) (h1 : H a = none) (hb : ∀ b, b ≠ a → B' b = B b) : Grw H0 H (drL A a) B' where
  up := fun b u e n => (hb b fun z => by rw [z, h1] at e; cases e).trans (w.up b u e n)
  th := fun b h => by
    rw [hb b fun z => h (by rw [z]; exact h1)]
    exact w.th b h
  up0 := fun b u e => by
    rw [drL_ne (ne_of_none e h0)]
    exact w.up0 b u e
  sub := fun b u e => by
    obtain ⟨n, e⟩ := drL_of e
    rw [hb b n]
    exact w.sub b u e
  fr := fun b h h0 => by
    rw [drL_ne fun z => h (by rw [z]; exact h1)]
    exact w.fr b h h0
  lk := fun b od u e => (hb b fun z => by rw [z, h1] at e; cases e).trans (w.lk b od u e)
end
theorem new_cell {g : G} {H0 H A B : Hp} {κ : Cells} {a : Addr} {ds : List D} (s : Sub H0 H) (w : Grw (cutLs H0) H A B) (c : CSt g A B κ) (ck : cleanKL κ = true) (ra : Rp g A (.ref a) (.lst ds)) (nl : noLA ds = true) :
    ∃ A' B', (B' = B ∨ ∃ d od u, B d = some (.frz od u) ∧ H d = none ∧ B' = upd B d u) ∧ Grw H0 H A' B' ∧ CSt g A' B' (κ ++ [.lst ds]) ∧ Rp g A' (.ref a) (.loc κ.length) ∧ ∀ b u, A b = some u → lsO u = false → A' b = some u := by
  cases ra with
  | @lst _ us _ qa ra =>
    have il : ∃ u, A a = some u ∧ lsO u = true ∧ (u = .lst us ∨ ∃ o, u = .frz o (.lst us)) := by
      rcases qa with y | ⟨o, y⟩
      · exact ⟨_, y, rfl, .inl rfl⟩
      · exact ⟨_, y, rfl, .inr ⟨o, rfl⟩⟩
    obtain ⟨u, hu, iL, eu⟩ := il
    have c0 : cutLs H0 a = none := by
      cases y : cutLs H0 a with
      | none => rfl
      | some v =>
        have := w.up0 a v y
        rw [hu] at this
        cases this
        have := (cutL_of y).2
        rw [iL] at this
        cases this
    have ha : H a = none := by
      cases y : H a with
      | none => rfl
      | some v =>
        have := w.fr a (by rw [y]; exact fun z => nomatch z) c0
        rw [hu] at this
        cases this
    have h0 : H0 a = none := s.free ha
    have hB : B a = some u := w.sub.get hu fun n y => by
      rw [y] at iL
      cases iL
    have exB : ∃ B', (B' = B ∨ ∃ d od u, B d = some (.frz od u) ∧ H d = none ∧ B' = upd B d u) ∧ B' a = some (.lst us) ∧ ∀ b, b ≠ a → B' b = B b := by
      rcases eu with rfl | ⟨o, rfl⟩
      · exact ⟨B, .inl rfl, hB, fun _ _ => rfl⟩
      · exact ⟨upd B a (.lst us), .inr ⟨a, o, _, hB, ha, rfl⟩, upd_same, fun b n => upd_ne n⟩
    obtain ⟨B', e1, e2, e3⟩ := exB
    have wj := Grw.jl s w
    have cj := CSt.jl w c
    have wd := wj.dl (B' := B') h0 ha e3
    have hs : ∀ b v, jnL A H0 b = some v → lsO v = false → drL (jnL A H0) a b = some v := fun b v y n => by
      rw [drL_ne]
      · exact y
      · intro k
        rw [k, jl_l a u hu] at y
        cases y
        rw [iL] at n
        cases n
    have cd : CSt g (drL (jnL A H0) a) B' κ := cj.cutL hs (fun b v y => (drL_of y).2) (fun b n y => e3 b fun k => by
      rw [k, jl_l a u hu] at y
      cases y
      cases iL) ck
    have up : Same (drL (jnL A H0) a) (upd (drL (jnL A H0) a) a (cmk κ.length)) := fun b v y => by rw [upd_ne (drL_of y).1]; exact y
    have wm := Grw.mkL (n := κ.length) wd ha e2 drL_same
    have cm := cd.mkL drL_same e2 (.lst (ds := ds) ((RpA.cutL hs _ _ nl (ra.mono jl_l)).mono up))
    exact ⟨_, B', e1, wm, cm, .loc upd_same, fun b v y n => up b v (hs b v (jl_l b v y) n)⟩
def newL : Rk D → Rk D
  | .ok (.lst ds) κ => if (noLA ds && cleanKL κ) = true then .ok (.loc κ.length) (κ ++ [.lst ds]) else .bad
  | .ok (.tup [w, .lst ds]) κ => if (noL w && noLA ds && cleanKL κ) = true then .ok (.tup [w, .loc κ.length]) (κ ++ [.lst ds]) else .bad
  | .xc c fs κ => .xc c fs κ
  | _ => .bad
def zNewL (f : Sc D) : Sc D := fun δ κ => if (cleanSL δ && cleanKL κ) = true then newL (f δ κ) else .bad
theorem qd_newCall {X : Cx} {ca : Str → Addr} {W : WX} {e : Expr} {f : Sc D} (h : QD X ca W e f) : QD X ca W e (zNewL f) := by
  refine peI (pe_unl h) fun σ H Q hh => ?_
  obtain ⟨Hc, H0c, H0, δ, κ, S, p⟩ := hh
  unfold zNewL at p
  by_cases cl : (cleanSL δ && cleanKL κ) = true
  · rw [if_pos cl] at p
    obtain ⟨c1, c2⟩ := Bool.and_eq_true_iff.mp cl
    refine ⟨H, cutLs H0, cutLs H0, δ, κ, S.cutL c1 c2, ?_⟩
    cases ef : f δ κ with
    | bad =>
      rw [ef] at p
      exact p.elim
    | xc c fs κ1 =>
      rw [ef] at p
      intro ad fvs A B w c q1 q2
      exact p ad fvs _ B (Grw.jl S.s0 w) (CSt.jl w c) q1 (q2.up jl_l)
    | ok d κ1 =>
      rw [ef] at p
      intro x A B w c r
      unfold newL at p
      split at p
      · rename_i ds κ2 eq
        cases eq
        by_cases z : (noLA ds && cleanKL κ1) = true
        · rw [if_pos z] at p
          obtain ⟨z1, z2⟩ := Bool.and_eq_true_iff.mp z
          obtain ⟨a, rfl⟩ : ∃ a, x = .ref a := by
            cases r with
            | @lst a _ _ _ _ => exact ⟨a, rfl⟩
          obtain ⟨A', B', e1, wm, cm, rl, _⟩ := new_cell S.s0 w c z2 r z1
          exact ⟨B', e1, p _ _ B' wm cm rl⟩
        · rw [if_neg z] at p
          exact p.elim
      · rename_i w0 ds κ2 eq
        cases eq
        by_cases z : (noL w0 && noLA ds && cleanKL κ1) = true
        · rw [if_pos z] at p
          obtain ⟨z1, z3⟩ := Bool.and_eq_true_iff.mp z
          obtain ⟨z1, z2⟩ := Bool.and_eq_true_iff.mp z1
          cases r with
          | @tup t vs _ q r =>
            cases r with
            | @cons v1 vs1 _ _ r1 r =>
            cases r with
            | @cons v2 vs2 _ _ r2 r =>
            cases r
            obtain ⟨a, rfl⟩ : ∃ a, v2 = .ref a := by
              cases r2 with
              | @lst a _ _ _ _ => exact ⟨a, rfl⟩
            obtain ⟨A', B', e1, wm, cm, rl, up⟩ := new_cell S.s0 w c z3 r2 z2
            refine ⟨B', e1, p _ _ B' wm cm (.tup ?_ (.cons (Rp.cutL up _ _ z1 r1) (.cons rl .nil)))⟩
            rcases q with (y | ⟨o, y⟩) | y
            · exact .inl (.inl (up _ _ y rfl))
            · exact .inl (.inr ⟨o, up _ _ y rfl⟩)
            · exact .inr y
        · rw [if_neg z] at p
          exact p.elim
      · rename_i c' fs' κ' eq
        cases eq
      · exact p.elim
  · rw [if_neg cl] at p
    exact p.elim
theorem zNewL_lst {f : Sc D} {δ : Sm} {κ κ1 : Cells} {ds : List D} (h1 : cleanSL δ = true) (h2 : cleanKL κ = true) (h : f δ κ = .ok (.lst ds) κ1) (h4 : noLA ds = true) (h5 : cleanKL κ1 = true) : zNewL f δ κ = .ok (.loc κ1.length) (κ1 ++ [.lst ds]) := by
  unfold zNewL
  rw [if_pos (by rw [h1, h2]; rfl), h]
  unfold newL
  dsimp only
  rw [if_pos (by rw [h4, h5]; rfl)]
theorem zNewL_tup {f : Sc D} {δ : Sm} {κ κ1 : Cells} {w : D} {ds : List D} (h1 : cleanSL δ = true) (h2 : cleanKL κ = true) (h : f δ κ = .ok (.tup [w, .lst ds]) κ1) (h3 : noL w = true) (h4 : noLA ds = true) (h5 : cleanKL κ1 = true) : zNewL f δ κ = .ok (.tup [w, .loc κ1.length]) (κ1 ++ [.lst ds]) := by
  unfold zNewL
  rw [if_pos (by rw [h1, h2]; rfl), h]
  unfold newL
  dsimp only
  rw [if_pos (by rw [h3, h4, h5]; rfl)]
theorem zNewL_xc {f : Sc D} {δ : Sm} {κ κ1 : Cells} {c : Str} {fs : List (Str × D)} (h1 : cleanSL δ = true) (h2 : cleanKL κ = true) (h : f δ κ = .xc c fs κ1) : zNewL f δ κ = .xc c fs κ1 := by
  unfold zNewL
  rw [if_pos (by rw [h1, h2]; rfl), h]
  rfl
end Pd

set_option Elab.async false
set_option linter.all false
set_option maxRecDepth 100000
set_option maxHeartbeats 4000000
namespace Law
open PySem L2 Pd
def c_MOST_TURNS : D := .int 200
def c_LEAST_CIRCLE : D := .int 2
def c_MOST_CIRCLE : D := .int 120
def c_MOST_COUNT : D := .int 5000
theorem sc_u_law_draws : FnScope ["_law_cell", "_law_sizes", "_law_mixed", "_law_two", "_law_six", "_law_found", "_law_size"] ["_law_cell", "_law_sizes"] (defScope s_u_law_draws) := ⟨rfl, rfl, rfl, by decide +kernel, rfl, by decide +kernel, by decide +kernel⟩
def lb_u_law_draws_0 : Sm → Out :=
  (mSeq (mApp 5 (e2 kMod (eVar 0) (eVar 6)))
    (mSet 0 (e2 kDiv (eVar 0) (eVar 6))))
def tl_u_law_draws_0 : Sm → Out :=
  (mSeq (mSetL 5 aNil)
    (mSeq (mFor (itOf asL (eVar 1)) (gtN 6)
    lb_u_law_draws_0)
    (mFrz 5 (mRet (eVar 5)))))
def sm_u_law_draws : Sm → Out :=
  (mSeq (mIf (tOf (e2 kLt (eA kAbs (aCons (eVar 0) aNil)) (e2 kPow (eC (.int 10)) (eC (.int 18))))) (mSeq (mSet 2 (e2 kMod (e2 kAdd (e2 kMul (eVar 0) (eC (.int 48271))) (eC (.int 11))) (eC (.int 2147483647))))
    (mSeq (mSet 3 (e2 kMod (e2 kAdd (e2 kAdd (e2 kMul (eVar 2) (eVar 2)) (e2 kMul (eC (.int 40692)) (eVar 2))) (eVar 0)) (eC (.int 2147483399))))
    (mSeq (mSet 4 (e2 kMod (e2 kAdd (e2 kMul (eVar 3) (eC (.int 16807))) (eVar 2)) (eC (.int 1000000007))))
    (mSet 0 (e2 kAdd (eVar 3) (e2 kMul (eC (.int 2147483399)) (e2 kAdd (eVar 4) (e2 kMul (eC (.int 1000000007)) (eVar 2))))))))) (mSet 0 (e2 kSub (eA kAbs (aCons (eVar 0) aNil)) (e2 kPow (eC (.int 10)) (eC (.int 18))))))
    tl_u_law_draws_0)
def f_u_law_draws : List D → Res D := runF 5 sm_u_law_draws
theorem sc_u_law_under : FnScope ["_law_cell", "_law_k", "_law_rest", "_law_turn"] ["_law_cell", "_law_k"] (defScope s_u_law_under) := ⟨rfl, rfl, rfl, by decide +kernel, rfl, by decide +kernel, by decide +kernel⟩
def lb_u_law_under_0 : Sm → Out :=
  (mSet 2 (e2 kDiv (eVar 2) (e2 kPow (eC (.int 10)) (eC (.int 9)))))
def tl_u_law_under_0 : Sm → Out :=
  (mSeq (mSet 2 (e2 kSub (eA kAbs (aCons (eVar 0) aNil)) (e2 kPow (eC (.int 10)) (eC (.int 18)))))
    (mSeq (mFor (itA kRng1 (aCons (e2 kAdd (eVar 1) (eC (.int 1))) aNil)) (gtN 3)
    lb_u_law_under_0)
    (mRet (e2 kAdd (e2 kPow (eC (.int 10)) (eC (.int 18))) (eVar 2)))))
def sm_u_law_under : Sm → Out :=
  (mSeq (mIf (tOf (e2 kLt (eA kAbs (aCons (eVar 0) aNil)) (e2 kPow (eC (.int 10)) (eC (.int 18))))) (mRet (e2 kMod (e2 kAdd (e2 kAdd (e2 kMul (eVar 0) (eC (.int 48271))) (e2 kMul (eC (.int 7919)) (eVar 1))) (eC (.int 13))) (eC (.int 2147483647)))) mNext)
    tl_u_law_under_0)
def f_u_law_under : List D → Res D := runF 2 sm_u_law_under
theorem sc_u_law_circles : FnScope ["_law_cell", "_law_many", "_law_upto", "_law_found", "_law_menu", "_law_k", "_law_drawn", "_law_fresh"] ["_law_cell", "_law_many", "_law_upto"] (defScope s_u_law_circles) := ⟨rfl, rfl, rfl, by decide +kernel, rfl, by decide +kernel, by decide +kernel⟩
def lb_u_law_circles_0 : Sn :=
  (nSeq (ls (mSet 6 (eCall f_u_law_draws (pk [] [.p 0, .p 1]) (aCons (e2 kAdd (eCall f_u_law_under (pk [] [.p 0, .p 1]) (aCons (eVar 0) (aCons (eVar 5) aNil)) aNil) (eVar 5)) (aCons (eA kLst (aCons (eC (.int 4)) (aCons (eC (.int 119)) (aCons (eC (.int 12)) aNil)))) aNil)) aNil)))
    (nSeq (ls (mSet 7 (e2 kIx (eA kLst (aCons (e2 kAdd (eC (.int 2)) (e2 kIx (eVar 6) (eC (.int 1)))) (aCons (e2 kAdd (eC (.int 2)) (e2 kIx (eVar 6) (eC (.int 1)))) (aCons (e2 kIx (eVar 4) (e2 kIx (eVar 6) (eC (.int 2)))) (aCons (e2 kAdd (eC (.int 2)) (e2 kIx (eVar 6) (eC (.int 2)))) aNil))))) (e2 kIx (eVar 6) (eC (.int 0))))))
    (nIf (sAnd (sOf (z2b kNotIn (lf (eVar 7)) (lf (eVar 3)))) (lf (tOf (e2 kLe (eVar 7) (eVar 2))))) (nDrop (zBmL (kChg fApp) (lf (eVar 3)) (zCons (lf (eVar 7)) zNil))) nNext)))
def sm_u_law_circles : Sn :=
  (nSeq (nSet 3 (zAc kNewL zNil))
    (nSeq (ls (mSet 4 (eA kLst (aCons (eC (.int 12)) (aCons (eC (.int 16)) (aCons (eC (.int 20)) (aCons (eC (.int 24)) (aCons (eC (.int 30)) (aCons (eC (.int 36)) (aCons (eC (.int 42)) (aCons (eC (.int 49)) (aCons (eC (.int 27)) (aCons (eC (.int 25)) (aCons (eC (.int 60)) (aCons (eC (.int 120)) aNil)))))))))))))))
    (nSeq (nFor (lf (itA kRng1 (aCons (eVar 1) aNil))) (gtN 5)
    lb_u_law_circles_0)
    (ls (mRet (eVar 3))))))
def F_u_law_circles : Fc := runC 5 sm_u_law_circles
theorem sc_u_law_wheel : FnScope ["_law_cell", "_law_drawn", "_law_wheel_here"] ["_law_cell"] (defScope s_u_law_wheel) := ⟨rfl, rfl, rfl, by decide +kernel, rfl, by decide +kernel, by decide +kernel⟩
def sm_u_law_wheel : Sn :=
  (nSeq (ls (mSet 1 (eCall f_u_law_draws (pk [] [.p 0, .p 1]) (aCons (eVar 0) (aCons (eA kLst (aCons (eC (.int 6)) (aCons (eC (.int 200)) (aCons (eC (.int 9)) aNil)))) aNil)) aNil)))
    (nSeq (ls (mSet 2 (e2 kIx (eA kLst (aCons (eC (.int 40)) (aCons (e2 kAdd (eC (.int 1)) (e2 kIx (eVar 1) (eC (.int 1)))) (aCons (eC (.int 1)) (aCons (eC (.int 200)) (aCons (e2 kAdd (eC (.int 1)) (e2 kMod (e2 kIx (eVar 1) (eC (.int 1))) (eC (.int 12)))) (aCons (eC (.int 60)) aNil))))))) (e2 kIx (eVar 1) (eC (.int 0))))))
    (nRet (zA kTup (zCons (lf (eVar 2)) (zCons (zCall F_u_law_circles (pk [] [.p 0, .p 1, .p 2]) (zCons (lf (e2 kAdd (eCall f_u_law_under (pk [] [.p 0, .p 1]) (aCons (eVar 0) (aCons (eC (.int 1)) aNil)) aNil) (eC (.int 5)))) (zCons (lf (e2 kIx (eVar 1) (eC (.int 2)))) (zCons (lf (eC (.int 120))) zNil))) zNil) zNil))))))
def F_u_law_wheel : Fc := runC 2 sm_u_law_wheel
theorem sc_u_law_side : FnScope ["_law_cell", "_law_prime", "_law_many"] ["_law_cell", "_law_prime", "_law_many"] (defScope s_u_law_side) := ⟨rfl, rfl, rfl, by decide +kernel, rfl, by decide +kernel, by decide +kernel⟩
def sm_u_law_side : Sm → Out :=
  (mRet (e2 kMod (e2 kIx (eCall f_u_law_draws (pk [] [.p 0, .p 1]) (aCons (e2 kAdd (eVar 0) (eVar 1)) (aCons (eA kLst (aCons (eVar 1) aNil)) aNil)) aNil) (eC (.int 0))) (eVar 2)))
def f_u_law_side : List D → Res D := runF 0 sm_u_law_side
theorem sc_u_law_gcd : FnScope ["_law_first", "_law_second"] ["_law_first", "_law_second"] (defScope s_u_law_gcd) := ⟨rfl, rfl, rfl, by decide +kernel, rfl, by decide +kernel, by decide +kernel⟩
def lb_u_law_gcd_0 : Sm → Out :=
  (mPar 0 1 (aCons (eVar 1) (aCons (e2 kMod (eVar 0) (eVar 1)) aNil)))
def lt_u_law_gcd_0 : Sm → Res Bool :=
  (tOf (e2 kNe (eVar 1) (eC (.int 0))))
def sm_u_law_gcd : Sm → Out :=
  (mSeq (mSet 0 (eA kAbs (aCons (eVar 0) aNil)))
    (mSeq (mSet 1 (eA kAbs (aCons (eVar 1) aNil)))
    (mSeq (mWhile fuelTop lt_u_law_gcd_0
    lb_u_law_gcd_0)
    (mRet (eVar 0)))))
def f_u_law_gcd : List D → Res D := runF 0 sm_u_law_gcd
theorem sc_u_law_least : FnScope ["_law_numbers", "_law_found", "_law_single"] ["_law_numbers"] (defScope s_u_law_least) := ⟨rfl, rfl, rfl, by decide +kernel, rfl, by decide +kernel, by decide +kernel⟩
def lb_u_law_least_0 : Sm → Out :=
  (mSet 1 (e2 kDiv (e2 kMul (eVar 1) (eVar 2)) (eCall f_u_law_gcd (pk [] [.p 0, .p 1]) (aCons (eVar 1) (aCons (eVar 2) aNil)) aNil)))
def sm_u_law_least : Sm → Out :=
  (mSeq (mSet 1 (eC (.int 1)))
    (mSeq (mFor (itOf asL (eVar 0)) (gtN 2)
    lb_u_law_least_0)
    (mRet (eVar 1))))
def f_u_law_least : List D → Res D := runF 2 sm_u_law_least
theorem sc_u_law_bar : FnScope ["_law_wheel_here", "_law_plates", "_law_strokes", "_law_bound", "_law_rest", "_law_prime", "_law_power", "_law_come_to"] ["_law_wheel_here", "_law_plates", "_law_strokes"] (defScope s_u_law_bar) := ⟨rfl, rfl, rfl, by decide +kernel, rfl, by decide +kernel, by decide +kernel⟩
def lb_u_law_bar_1 : Sm → Out :=
  (mSeq (mSet 4 (e2 kDiv (eVar 4) (eVar 5)))
    (mSeq (mSet 7 (e2 kMul (eVar 7) (eVar 5)))
    (mSet 6 (e2 kAdd (eVar 6) (eC (.int 1))))))
def lt_u_law_bar_1 : Sm → Res Bool :=
  (tOf (e2 kEq (e2 kMod (eVar 4) (eVar 5)) (eC (.int 0))))
def tl_u_law_bar_0 : Sm → Out :=
  (mSeq (mIf (tOf (e2 kNe (e2 kMod (eVar 3) (eVar 7)) (eC (.int 0)))) (mRet (eA kTup (aCons (eVar 5) (aCons (eVar 6) aNil)))) mNext)
    (mSet 5 (e2 kAdd (eVar 5) (eC (.int 1)))))
def lb_u_law_bar_0 : Sm → Out :=
  (mSeq (mSet 6 (eC (.int 0)))
    (mSeq (mSet 7 (eC (.int 1)))
    (mSeq (mWhile fuelTop lt_u_law_bar_1
    lb_u_law_bar_1)
    tl_u_law_bar_0)))
def lt_u_law_bar_0 : Sm → Res Bool :=
  (tOf (e2 kGt (eVar 4) (eC (.int 1))))
def sm_u_law_bar : Sm → Out :=
  (mSeq (mSet 3 (e2 kMul (eVar 0) (eCall f_u_law_least (pk [] [.p 0]) (aCons (eVar 1) aNil) aNil)))
    (mSeq (mSet 4 (eVar 2))
    (mSeq (mSet 5 (eC (.int 2)))
    (mSeq (mWhile fuelTop lt_u_law_bar_0
    lb_u_law_bar_0)
    (mRet (eC .non))))))
def f_u_law_bar : List D → Res D := runF 5 sm_u_law_bar
theorem sc_look_turns : FnScope ["turns"] ["turns"] (defScope s_look_turns) := ⟨rfl, rfl, rfl, by decide +kernel, rfl, by decide +kernel, by decide +kernel⟩
def sm_look_turns : Sm → Out :=
  (mIf (tOr2 (tOf (e2 kLt (eVar 0) (eC (.int 1)))) (tOf (e2 kGt (eVar 0) (eC c_MOST_TURNS)))) (mRaise "BadCount" [("word", .str "bad count")]) mNext)
def f_look_turns : List D → Res D := runF 0 sm_look_turns
theorem sc_look_circles : FnScope ["circles", "circle"] ["circles"] (defScope s_look_circles) := ⟨rfl, rfl, rfl, by decide +kernel, rfl, by decide +kernel, by decide +kernel⟩
def lb_look_circles_0 : Sm → Out :=
  (mIf (tOr2 (tOf (e2 kLt (eVar 1) (eC c_LEAST_CIRCLE))) (tOf (e2 kGt (eVar 1) (eC c_MOST_CIRCLE)))) (mRaise "BadCount" [("word", .str "bad count")]) mNext)
def sm_look_circles : Sm → Out :=
  (mFor (itOf asL (eVar 0)) (gtN 1)
    lb_look_circles_0)
def f_look_circles : List D → Res D := runF 1 sm_look_circles
theorem sc_common : FnScope ["one", "other", "rest"] ["one", "other"] (defScope s_common) := ⟨rfl, rfl, rfl, by decide +kernel, rfl, by decide +kernel, by decide +kernel⟩
def lb_common_0 : Sm → Out :=
  (mSeq (mSet 2 (eVar 0))
    (mSeq (mAug 2 kMod (eVar 1))
    (mSeq (mSet 0 (eVar 1))
    (mSet 1 (eVar 2)))))
def lt_common_0 : Sm → Res Bool :=
  (tOf (e2 kNe (eVar 1) (eC (.int 0))))
def sm_common : Sm → Out :=
  (mSeq (mSet 0 (eA kAbs (aCons (eVar 0) aNil)))
    (mSeq (mSet 1 (eA kAbs (aCons (eVar 1) aNil)))
    (mSeq (mWhile fuelTop lt_common_0
    lb_common_0)
    (mRet (eVar 0)))))
def f_common : List D → Res D := runF 1 sm_common
theorem sc_least_common : FnScope ["numbers", "found", "one"] ["numbers"] (defScope s_least_common) := ⟨rfl, rfl, rfl, by decide +kernel, rfl, by decide +kernel, by decide +kernel⟩
def lb_least_common_0 : Sm → Out :=
  (mAug 1 kMul (e2 kDiv (eVar 2) (eCall f_common (pk [] [.p 0, .p 1]) (aCons (eVar 1) (aCons (eVar 2) aNil)) aNil)))
def sm_least_common : Sm → Out :=
  (mSeq (mSet 1 (eC (.int 1)))
    (mSeq (mFor (itOf asL (eVar 0)) (gtN 2)
    lb_least_common_0)
    (mRet (eVar 1))))
def f_least_common : List D → Res D := runF 2 sm_least_common
theorem sc_finest : FnScope ["turns", "circles"] ["turns", "circles"] (defScope s_finest) := ⟨rfl, rfl, rfl, by decide +kernel, rfl, by decide +kernel, by decide +kernel⟩
def sm_finest : Sm → Out :=
  (mSeq (mDrop (eCall f_look_turns (pk [] [.p 0]) (aCons (eVar 0) aNil) aNil))
    (mSeq (mDrop (eCall f_look_circles (pk [] [.p 0]) (aCons (eVar 1) aNil) aNil))
    (mRet (e2 kMul (eVar 0) (eCall f_least_common (pk [] [.p 0]) (aCons (eVar 1) aNil) aNil)))))
def f_finest : List D → Res D := runF 0 sm_finest
theorem sc_look_count : FnScope ["count"] ["count"] (defScope s_look_count) := ⟨rfl, rfl, rfl, by decide +kernel, rfl, by decide +kernel, by decide +kernel⟩
def sm_look_count : Sm → Out :=
  (mIf (tOr2 (tOf (e2 kLt (eVar 0) (eC (.int 1)))) (tOf (e2 kGt (eVar 0) (eC c_MOST_COUNT)))) (mRaise "BadCount" [("word", .str "bad count")]) mNext)
def f_look_count : List D → Res D := runF 0 sm_look_count
theorem sc_primes_in : FnScope ["count", "found", "prime", "power", "come_to"] ["count"] (defScope s_primes_in) := ⟨rfl, rfl, rfl, by decide +kernel, rfl, by decide +kernel, by decide +kernel⟩
def lb_primes_in_1 : Sm → Out :=
  (mSeq (mAug 0 kDiv (eVar 2))
    (mSeq (mAug 4 kMul (eVar 2))
    (mAug 3 kAdd (eC (.int 1)))))
def lt_primes_in_1 : Sm → Res Bool :=
  (tOf (e2 kEq (e2 kMod (eVar 0) (eVar 2)) (eC (.int 0))))
def tl_primes_in_0 : Sm → Out :=
  (mSeq (mIf (tOf (e2 kGt (eVar 3) (eC (.int 0)))) (mApp 1 (eA kTup (aCons (eVar 2) (aCons (eVar 3) (aCons (eVar 4) aNil))))) mNext)
    (mAug 2 kAdd (eC (.int 1))))
def lb_primes_in_0 : Sm → Out :=
  (mSeq (mSet 3 (eC (.int 0)))
    (mSeq (mSet 4 (eC (.int 1)))
    (mSeq (mWhile fuelTop lt_primes_in_1
    lb_primes_in_1)
    tl_primes_in_0)))
def lt_primes_in_0 : Sm → Res Bool :=
  (tOf (e2 kGt (eVar 0) (eC (.int 1))))
def sm_primes_in : Sm → Out :=
  (mSeq (mSetL 1 aNil)
    (mSeq (mSet 2 (eC (.int 2)))
    (mSeq (mWhile fuelTop lt_primes_in_0
    lb_primes_in_0)
    (mFrz 1 (mRet (eVar 1))))))
def f_primes_in : List D → Res D := runF 4 sm_primes_in
theorem sc_bar : FnScope ["turns", "circles", "count", "bound", "prime", "power", "come_to"] ["turns", "circles", "count"] (defScope s_bar) := ⟨rfl, rfl, rfl, by decide +kernel, rfl, by decide +kernel, by decide +kernel⟩
def lb_bar_0 : Sm → Out :=
  (mIf (tOf (e2 kNe (e2 kMod (eVar 3) (eVar 6)) (eC (.int 0)))) (mRet (eA kTup (aCons (eVar 4) (aCons (eVar 5) aNil)))) mNext)
def sm_bar : Sm → Out :=
  (mSeq (mSet 3 (eCall f_finest (pk [] [.p 0, .p 1]) (aCons (eVar 0) (aCons (eVar 1) aNil)) aNil))
    (mSeq (mDrop (eCall f_look_count (pk [] [.p 0]) (aCons (eVar 2) aNil) aNil))
    (mSeq (mFor (itOf asL (eCall f_primes_in (pk [] [.p 0]) (aCons (eVar 2) aNil) aNil)) (gtT 3 (gtCons (gtN 4) (gtCons (gtN 5) (gtCons (gtN 6) gtNil))))
    lb_bar_0)
    (mRet (eC .non)))))
def f_bar : List D → Res D := runF 4 sm_bar
theorem sc_crowds_of : FnScope ["circles", "found", "circle", "crowd"] ["circles"] (defScope s_crowds_of) := ⟨rfl, rfl, rfl, by decide +kernel, rfl, by decide +kernel, by decide +kernel⟩
def lb_crowds_of_0 : Sn :=
  (ls (mSet 1 (e2 kCat (eVar 1) (eLc (itOf asL (eVar 1)) (gtN 3) tYesD (e2 kCat (eVar 3) (eA kLst (aCons (eVar 2) aNil))) [3]))))
def lam_crowds_of_0 : Sm → Res D :=
  (eA kTup (aCons (eA kLen (aCons (eVar 0) aNil)) (aCons (eVar 0) aNil)))
def sm_crowds_of : Sn :=
  (nSeq (ls (mSet 1 (eA kLst (aCons (eA kLst aNil) aNil))))
    (nSeq (nFor (zIt (zAc kSortIc (zCons (lf (eVar 0)) zNil))) (gtN 2)
    lb_crowds_of_0)
    (nRet (zSortL 0 "crowds_of" "crowds_of.<locals>.<lambda>" lam_crowds_of_0 (zCons (lf (eVar 1)) zNil)))))
def F_crowds_of : Fc := runC 3 sm_crowds_of
theorem sc_few_circles : FnScope ["turns", "circles", "count", "wrong", "fit", "crowd"] ["turns", "circles", "count"] (defScope s_few_circles) := ⟨rfl, rfl, rfl, by decide +kernel, rfl, by decide +kernel, by decide +kernel⟩
def tl_few_circles_0 : Sn :=
  (nSeq (nSet 4 (zLc (zIt (zCall F_crowds_of (pk [] [.p 0]) (zCons (lf (eVar 1)) zNil) zNil)) (gtN 5) (lf (tOf (e2 kEq (e2 kMod (e2 kMul (eVar 0) (eCall f_least_common (pk [] [.p 0]) (aCons (eVar 5) aNil) aNil)) (eVar 2)) (eC (.int 0))))) (lf (eVar 5)) [5]))
    (ls (mRet (e2 kIx (eVar 4) (eC (.int 0))))))
def sm_few_circles : Sn :=
  (nSeq (nSet 3 (zCall (bor f_bar) (pk [] [.p 0, .p 1, .p 2]) (zCons (lf (eVar 0)) (zCons (lf (eVar 1)) (zCons (lf (eVar 2)) zNil))) zNil))
    (nSeq (ls (mIf (tOf (e2 kNotN (eVar 3) (eC .non))) (mRaiseA "Barred" (eAcc [("word", .s "barred"), ("prime", .p 0), ("power", .p 1)] [] [.p 0, .k 0] (aCons (e2 kIx (eVar 3) (eC (.int 0))) aNil) (aCons (e2 kIx (eVar 3) (eC (.int 1))) aNil))) mNext))
    tl_few_circles_0))
def F_few_circles : Fc := runC 3 sm_few_circles
theorem sc_part : FnScope ["number", "under", "by"] ["number", "under"] (defScope s_part) := ⟨rfl, rfl, rfl, by decide +kernel, rfl, by decide +kernel, by decide +kernel⟩
def dd_part : List D := [.int 1]
def tl_part_0 : Sm → Out :=
  (mSeq (mSet 2 (eCall f_common (pk [] [.p 0, .p 1]) (aCons (eVar 0) (aCons (eVar 1) aNil)) aNil))
    (mSeq (mAug 0 kDiv (eVar 2))
    (mSeq (mAug 1 kDiv (eVar 2))
    (mRet (eA kTup (aCons (eVar 0) (aCons (eVar 1) aNil)))))))
def sm_part : Sm → Out :=
  (mSeq (mIf (tOf (e2 kLt (eVar 1) (eC (.int 1)))) (mRaise "BadPart" [("word", .str "bad part")]) mNext)
    tl_part_0)
def f_part : List D → Res D := runF 1 sm_part
theorem sc_less : FnScope ["one", "other"] ["one", "other"] (defScope s_less) := ⟨rfl, rfl, rfl, by decide +kernel, rfl, by decide +kernel, by decide +kernel⟩
def sm_less : Sm → Out :=
  (mRet (eCall f_part (pk dd_part [.p 0, .k 0]) (aCons (e2 kSub (e2 kMul (e2 kIx (eVar 0) (eC (.int 0))) (e2 kIx (eVar 1) (eC (.int 1)))) (e2 kMul (e2 kIx (eVar 1) (eC (.int 0))) (e2 kIx (eVar 0) (eC (.int 1))))) aNil) (aCons (e2 kMul (e2 kIx (eVar 0) (eC (.int 1))) (e2 kIx (eVar 1) (eC (.int 1)))) aNil)))
def f_less : List D → Res D := runF 0 sm_less
theorem sc_holes_of : FnScope ["circle", "left", "rest", "bound", "holes"] ["circle", "left", "rest"] (defScope s_holes_of) := ⟨rfl, rfl, rfl, by decide +kernel, rfl, by decide +kernel, by decide +kernel⟩
def lb_holes_of_0 : Sm → Out :=
  (mIf (tOf (e2 kEq (e2 kMod (eVar 3) (e2 kIx (eCall f_less (pk [] [.p 0, .p 1]) (aCons (eVar 1) (aCons (eCall f_part (pk dd_part [.p 0, .k 0]) (aCons (eVar 4) aNil) (aCons (eVar 0) aNil)) aNil)) aNil) (eC (.int 1)))) (eC (.int 0)))) (mRet (eVar 4)) mNext)
def sm_holes_of : Sm → Out :=
  (mSeq (mSet 3 (eCall f_least_common (pk [] [.p 0]) (aCons (eVar 2) aNil) aNil))
    (mSeq (mFor (itA kRng1 (aCons (eVar 0) aNil)) (gtN 4)
    lb_holes_of_0)
    (mRet (eC (.int 0)))))
def f_holes_of : List D → Res D := runF 2 sm_holes_of
theorem sc_plan : FnScope ["turns", "circles", "count", "few", "left", "moves", "at", "circle", "holes"] ["turns", "circles", "count"] (defScope s_plan) := ⟨rfl, rfl, rfl, by decide +kernel, rfl, by decide +kernel, by decide +kernel⟩
def lb_plan_0 : Sn :=
  (nSeq (ls (mSet 8 (eCall f_holes_of (pk [] [.p 0, .p 1, .p 2]) (aCons (eVar 7) (aCons (eVar 4) (aCons (eSl kSlL (eVar 3) (oSome (e2 kAdd (eVar 6) (eC (.int 1)))) oNone) aNil))) aNil)))
    (nSeq (ls (mSet 4 (eCall f_less (pk [] [.p 0, .p 1]) (aCons (eVar 4) (aCons (eCall f_part (pk dd_part [.p 0, .k 0]) (aCons (eVar 8) aNil) (aCons (eVar 7) aNil)) aNil)) aNil)))
    (ls (mApp 5 (eA kTup (aCons (eVar 7) (aCons (eVar 8) aNil)))))))
def sm_plan : Sn :=
  (nSeq (nSet 3 (zCall F_few_circles (pk [] [.p 0, .p 1, .p 2]) (zCons (lf (eVar 0)) (zCons (lf (eVar 1)) (zCons (lf (eVar 2)) zNil))) zNil))
    (nSeq (ls (mSet 4 (eCall f_part (pk dd_part [.p 0, .k 0]) (aCons (eVar 0) aNil) (aCons (eVar 2) aNil))))
    (nSeq (ls (mSetL 5 aNil))
    (nSeq (nForG (zStE (zCons (lf (eVar 3)) zNil)) (gtT 2 (gtCons (gtN 6) (gtCons (gtN 7) gtNil)))
    lb_plan_0)
    (nFrz 5 (ls (mRet (eA kTup (aCons (e2 kIx (eVar 4) (eC (.int 0))) (aCons (eVar 5) aNil))))))))))
def F_plan : Fc := runC 6 sm_plan
theorem sc_u_law_told : FnScope ["_law_wheel_here", "_law_plates", "_law_strokes", "_law_few", "e"] ["_law_wheel_here", "_law_plates", "_law_strokes", "_law_few"] (defScope s_u_law_told) := ⟨rfl, rfl, rfl, by decide +kernel, rfl, by decide +kernel, by decide +kernel⟩
def hs_u_law_told_0_Barred : HS :=
  (hRet (hTup (hCons (xFld "word") (hCons (xFld "prime") (hCons (xFld "power") (hCons (hBl true) hNil))))))
def cl_u_law_told_0 : List Cl2 :=
  [(some 4, [("Barred", hls hs_u_law_told_0_Barred)])]
theorem tc_u_law_told_0_Barred (fs : List (Str × D)) (δ : Sm) (κ : Cells) : tryC2 ["Barred", "BadCount", "BadPart"] cl_u_law_told_0 (.xc "Barred" fs δ κ) = hdI2 4 (hls hs_u_law_told_0_Barred) fs δ κ (ltLen 4 δ) := by
  rw [tryC2_xc _ _ _ _ (by decide)]; exact pick2_as _ _ _ rfl
def sm_u_law_told : Sn :=
  (nTryC ["Barred", "BadCount", "BadPart"] cl_u_law_told_0 (nSeq (nIf (lf (tOf (eVar 3))) (nRet (zNewL (zCall F_few_circles (pk [] [.p 0, .p 1, .p 2]) (zCons (lf (eVar 0)) (zCons (lf (eVar 1)) (zCons (lf (eVar 2)) zNil))) zNil))) nNext)
    (nRet (zNewL (zCall F_plan (pk [] [.k 2, .k 1, .k 0]) zNil (zCons (lf (eVar 2)) (zCons (lf (eVar 1)) (zCons (lf (eVar 0)) zNil))))))))
def F_u_law_told : Fc := runC 1 sm_u_law_told
theorem sc_u_law_same : FnScope ["_law_found", "_law_due", "_law_k"] ["_law_found", "_law_due"] (defScope s_u_law_same) := ⟨rfl, rfl, rfl, by decide +kernel, rfl, by decide +kernel, by decide +kernel⟩
def sm_u_law_same (rc : List D → Res D) : Sm → Out :=
  (mSeq (mIf (tOf (e2 kIsN (eVar 1) (eC .non))) (mRet (e2 kIsN (eVar 0) (eC .non))) mNext)
    (mSeq (mIf (tOf (e1 (kIsi .str) (eVar 1))) (mRet (eAnd (e1 (kIsi .str) (eVar 0)) (e2 kEq (eVar 0) (eVar 1)))) mNext)
    (mSeq (mIf (tOf (e1 (kIsi .int) (eVar 1))) (mRet (eAnd (e1 (kIsi .int) (eVar 0)) (eAnd (e2 kEq (e1 (kIsi .bool) (eVar 0)) (e1 (kIsi .bool) (eVar 1))) (e2 kEq (eVar 0) (eVar 1))))) mNext)
    (mSeq (mIf (tOr2 (tOf (e2 kNe (e1 (kIsi .list) (eVar 1)) (e1 (kIsi .list) (eVar 0)))) (tOf (e2 kNe (e1 (kIsi .tuple) (eVar 1)) (e1 (kIsi .tuple) (eVar 0))))) (mRet (eC (.bl false))) mNext)
    (mRet (eAnd (e2 kEq (eA kLen (aCons (eVar 0) aNil)) (eA kLen (aCons (eVar 1) aNil))) (eA kAll (aCons (eLc (itA kRng1 (aCons (eA kLen (aCons (eVar 1) aNil)) aNil)) (gtN 2) tYesD (eCall rc (pk [] [.p 0, .p 1]) (aCons (e2 kIx (eVar 0) (eVar 2)) (aCons (e2 kIx (eVar 1) (eVar 2)) aNil)) aNil) [2]) aNil))))))))
def f_u_law_same : Nat → List D → Res D
  | 0 => fun _ => .bad
  | n + 1 => runF 1 (sm_u_law_same (f_u_law_same n))
theorem sc_u_law_choices : FnScope ["_law_row", "_law_found", "_law_one", "_law_some", "_law_length"] ["_law_row"] (defScope s_u_law_choices) := ⟨rfl, rfl, rfl, by decide +kernel, rfl, by decide +kernel, by decide +kernel⟩
def lb_u_law_choices_0 : Sn :=
  (ls (mSet 1 (e2 kCat (eVar 1) (eLc (itOf asL (eVar 1)) (gtN 3) tYesD (e2 kCat (eVar 3) (eA kLst (aCons (eVar 2) aNil))) [3]))))
def sm_u_law_choices : Sn :=
  (nSeq (ls (mSet 1 (eA kLst (aCons (eA kLst aNil) aNil))))
    (nSeq (nFor (zIt (zAc kSortIc (zCons (lf (eVar 0)) zNil))) (gtN 2)
    lb_u_law_choices_0)
    (ls (mRet (eLc (itOf asL (eA (on1 kSortP) (aCons (eLc (itOf asL (eVar 1)) (gtN 3) tYesD (eA kTup (aCons (eA kLen (aCons (eVar 3) aNil)) (aCons (eVar 3) aNil))) [3]) aNil))) (gtT 2 (gtCons (gtN 4) (gtCons (gtN 3) gtNil))) tYesD (eVar 3) [4, 3])))))
def F_u_law_choices : Fc := runC 4 sm_u_law_choices
theorem sc_u_law_low : FnScope ["_law_up", "_law_down", "_law_by"] ["_law_up", "_law_down"] (defScope s_u_law_low) := ⟨rfl, rfl, rfl, by decide +kernel, rfl, by decide +kernel, by decide +kernel⟩
def sm_u_law_low : Sm → Out :=
  (mSeq (mSet 2 (eCall f_u_law_gcd (pk [] [.p 0, .p 1]) (aCons (eVar 0) (aCons (eVar 1) aNil)) aNil))
    (mRet (eA kTup (aCons (e2 kDiv (eVar 0) (eVar 2)) (aCons (e2 kDiv (eVar 1) (eVar 2)) aNil)))))
def f_u_law_low : List D → Res D := runF 1 sm_u_law_low
theorem sc_u_law_plus : FnScope ["_law_one", "_law_other"] ["_law_one", "_law_other"] (defScope s_u_law_plus) := ⟨rfl, rfl, rfl, by decide +kernel, rfl, by decide +kernel, by decide +kernel⟩
def sm_u_law_plus : Sm → Out :=
  (mRet (eCall f_u_law_low (pk [] [.p 0, .p 1]) (aCons (e2 kAdd (e2 kMul (e2 kIx (eVar 0) (eC (.int 0))) (e2 kIx (eVar 1) (eC (.int 1)))) (e2 kMul (e2 kIx (eVar 1) (eC (.int 0))) (e2 kIx (eVar 0) (eC (.int 1))))) (aCons (e2 kMul (e2 kIx (eVar 0) (eC (.int 1))) (e2 kIx (eVar 1) (eC (.int 1)))) aNil)) aNil))
def f_u_law_plus : List D → Res D := runF 0 sm_u_law_plus
theorem sc_u_law_walked : FnScope ["_law_found", "_law_few", "_law_wheel_here", "_law_strokes", "_law_come", "_law_circle", "_law_holes", "_law_move"] ["_law_found", "_law_few", "_law_wheel_here", "_law_strokes"] (defScope s_u_law_walked) := ⟨rfl, rfl, rfl, by decide +kernel, rfl, by decide +kernel, by decide +kernel⟩
def lb_u_law_walked_0 : Sm → Out :=
  (mSeq (mIf (tNot1 (tOf (eCh kLt kLt (eC (.int 0)) (eVar 6) (eVar 5)))) (mRet (eC (.bl false))) mNext)
    (mSet 4 (eCall f_u_law_plus (pk [] [.p 0, .p 1]) (aCons (eVar 4) (aCons (eCall f_u_law_low (pk [] [.p 0, .p 1]) (aCons (eVar 6) (aCons (eVar 5) aNil)) aNil) aNil)) aNil)))
def tl_u_law_walked_0 : Sm → Out :=
  (mSeq (mSet 4 (eA kTup (aCons (e2 kIx (eVar 0) (eC (.int 0))) (aCons (eC (.int 1)) aNil))))
    (mSeq (mFor (itOf asL (e2 kIx (eVar 0) (eC (.int 1)))) (gtT 2 (gtCons (gtN 5) (gtCons (gtN 6) gtNil)))
    lb_u_law_walked_0)
    (mRet (eAnd (e2 kEq (eLc (itOf asL (e2 kIx (eVar 0) (eC (.int 1)))) (gtN 7) tYesD (e2 kIx (eVar 7) (eC (.int 0))) [7]) (eVar 1)) (e2 kEq (eVar 4) (eCall f_u_law_low (pk [] [.p 0, .p 1]) (aCons (eVar 2) (aCons (eVar 3) aNil)) aNil))))))
def sm_u_law_walked : Sm → Out :=
  (mSeq (mIf (tOr2 (tNot1 (tOf (e1 (kIsi .tuple) (eVar 0)))) (tOr2 (tOf (e2 kNe (eA kLen (aCons (eVar 0) aNil)) (eC (.int 2)))) (tNot1 (tOf (e1 (kIsi .list) (e2 kIx (eVar 0) (eC (.int 1)))))))) (mRet (eC (.bl false))) mNext)
    tl_u_law_walked_0)
def f_u_law_walked : List D → Res D := runF 4 sm_u_law_walked
theorem sc_law : FnScope ["_law_script", "_law_cell", "_law_wheel_here", "_law_plates", "_law_drawn", "_law_bits", "_law_k", "_law_some", "_law_whole", "_law_strokes", "_law_wrong", "_law_turn", "_law_found", "_law_few", "_law_one"] ["_law_script"] (defScope s_law) := ⟨rfl, rfl, rfl, by decide +kernel, rfl, by decide +kernel, by decide +kernel⟩
def tl_law_2 : Sn :=
  (nSeq (nDrop (zBmL (kChg fApp) (lf (e2 kIx (eVar 12) (eC (.int 0)))) (zCons (lf (eC (.int 0))) zNil)))
    (nDrop (zBmL (kChg fApp) (lf (e2 kIx (e2 kIx (eVar 12) (eC (.int 1))) (eC (.int 1)))) (zCons (lf (eA kTup (aCons (eC (.int 0)) (aCons (eC (.int 0)) aNil)))) zNil))))
def tl_law_1 : Sn :=
  (nSeq (nSet 13 (z2c kIx2 (zLc (zIt (zCall F_u_law_choices (pk [] [.p 0]) (zCons (lf (eVar 3)) zNil) zNil)) (gtN 14) (lf (tOf (e2 kEq (e2 kMod (e2 kMul (eVar 2) (eCall f_u_law_least (pk [] [.p 0]) (aCons (eVar 14) aNil) aNil)) (eVar 9)) (eC (.int 0))))) (lf (eVar 14)) [14]) (lf (eC (.int 0)))))
    (nSeq (nIf (sOr (sNot (sOf (zCall (bor (f_u_law_same 8)) (pk [] [.p 0, .p 1]) (zCons (lf (e2 kIx (eVar 12) (eC (.int 0)))) (zCons (lf (eVar 13)) zNil)) zNil))) (sNot (sOf (zCall (bor f_u_law_walked) (pk [] [.p 0, .p 1, .p 2, .p 3]) (zCons (lf (e2 kIx (eVar 12) (eC (.int 1)))) (zCons (lf (eVar 13)) (zCons (lf (eVar 2)) (zCons (lf (eVar 9)) zNil)))) zNil)))) (ls (mRet (eC (.bl false)))) nNext)
    tl_law_2))
def lb_law_1 : Sn :=
  (nSeq (nSet 12 (zA kLst (zCons (zCall F_u_law_told (pk [] [.p 0, .p 1, .p 2, .p 3]) (zCons (lf (eVar 2)) (zCons (lf (eVar 3)) (zCons (lf (eVar 9)) (zCons (lf (eC (.bl true))) zNil)))) zNil) (zCons (zCall F_u_law_told (pk [] [.p 0, .p 1, .p 2, .p 3]) (zCons (lf (eVar 2)) (zCons (lf (eVar 3)) (zCons (lf (eVar 9)) (zCons (lf (eC (.bl false))) zNil)))) zNil) zNil))))
    (nSeq (ls (mIf (tOf (e2 kNotN (eVar 10) (eC .non))) (mSeq (mIf (tNot1 (tOf (eCall (f_u_law_same 8) (pk [] [.p 0, .p 1]) (aCons (eVar 12) (aCons (eRep (aCons (eA kTup (aCons (eC (.str "barred")) (aCons (e2 kIx (eVar 10) (eC (.int 0))) (aCons (e2 kIx (eVar 10) (eC (.int 1))) (aCons (eC (.bl true)) aNil))))) aNil) (eC (.int 2))) aNil)) aNil))) (mRet (eC (.bl false))) mNext)
    mCont) mNext))
    tl_law_1))
def tl_law_0 : Sn :=
  (nSeq (ls (mSet 9 (eA kMin2 (aCons (eVar 9) (aCons (eC (.int 5000)) aNil)))))
    (nSeq (nSet 10 (zCall (bor f_u_law_bar) (pk [] [.p 0, .p 1, .p 2]) (zCons (lf (eVar 2)) (zCons (lf (eVar 3)) (zCons (lf (eVar 9)) zNil))) zNil))
    (nFor (lf (itA kRng1 (aCons (eC (.int 2)) aNil))) (gtN 11)
    lb_law_1)))
def lb_law_0 : Sn :=
  (nSeq (nAsg (zCall F_u_law_wheel (pk [] [.p 0]) (zCons (lf (eVar 1)) zNil) zNil) (gtT 2 (gtCons (gtN 2) (gtCons (gtN 3) gtNil))))
    (nSeq (ls (mSet 4 (e2 kCat (eA kLst (aCons (eCall f_u_law_side (pk [] [.p 0, .p 1, .p 2]) (aCons (eVar 1) (aCons (eC (.int 1009)) (aCons (eC (.int 3)) aNil))) aNil) aNil)) (eCall f_u_law_draws (pk [] [.p 0, .p 1]) (aCons (e2 kAdd (eVar 1) (eC (.int 7))) (aCons (eA kLst (aCons (eC (.int 5000)) (aCons (eC (.int 256)) (aCons (eC (.int 40)) aNil)))) aNil)) aNil))))
    (nSeq (ls (mSet 5 (eLc (itA kRng1 (aCons (eC (.int 8)) aNil)) (gtN 6) (tOf (e2 kEq (e2 kMod (e2 kAdd (e2 kIx (eVar 4) (eC (.int 2))) (e2 kMul (eVar 6) (eC (.int 37)))) (eC (.int 3))) (eC (.int 0)))) (eVar 6) [6])))
    (nSeq (nSet 7 (zLc (lf (itOf asL (eVar 5))) (gtN 6) (sOf (z2 kLt (lf (eVar 6)) (zAc kLen2 (zCons (lf (eVar 3)) zNil)))) (z2c kIx2 (lf (eVar 3)) (lf (eVar 6))) [6]))
    (nSeq (ls (mSet 8 (e2 kMul (eVar 2) (eCall f_u_law_least (pk [] [.p 0]) (aCons (eVar 7) aNil) aNil))))
    (nSeq (ls (mSet 9 (e2 kAdd (eC (.int 1)) (e2 kIx (eVar 4) (eC (.int 1))))))
    (nSeq (ls (mIf (tOf (e2 kGt (e2 kIx (eVar 4) (eC (.int 0))) (eC (.int 0)))) (mSet 9 (eCall f_u_law_gcd (pk [] [.p 0, .p 1]) (aCons (eVar 8) (aCons (e2 kMul (e2 kIx (eA kLst (aCons (eC (.int 720720)) (aCons (eC (.int 5040)) (aCons (eC (.int 9240)) aNil)))) (e2 kMod (e2 kIx (eVar 4) (eC (.int 3))) (eC (.int 3)))) (e2 kAdd (eC (.int 1)) (e2 kIx (eVar 4) (eC (.int 3))))) aNil)) aNil)) mNext))
    tl_law_0)))))))
def sm_law : Sn :=
  (nSeq (ls (mSet 0 (eSl kSlL (eVar 0) oNone (oSome (eC (.int 63))))))
    (nSeq (nFor (lf (itOf asL (e2 kCat (eSl kSlL (eVar 0) oNone (oSome (eC (.int 24)))) (eA kLst (aCons (eC (.int 0)) (aCons (eC (.int 1)) aNil)))))) (gtN 1)
    lb_law_0)
    (ls (mRet (eC (.bl true))))))
def F_law : Fc := runC 14 sm_law
section
variable {vn : Bool} {P : Program} {w : World} {K : PySem.W.Frag} {mg : Str → Option Value} {base : Heap} {ca : Str → Addr}
theorem bd_0 {f : Addr} {fd : FuncData} (F : FunD K "_law_draws" "_law_draws" (defArgs s_u_law_draws) (defBody s_u_law_draws) (defScope s_u_law_draws) [] [] f fd) : Bd ⟨K, ca, w⟩ fd ["_law_cell", "_law_sizes"] 2 [] (fun ds es => pick ds es [] [.p 0, .p 1]) :=
  bd0 F 2 [.p 0, .p 1] fun kV doc pm an cdv ct us ws h1 h2 => match us, ws, h1, h2 with | [_, _], [], _, _ => rfl
theorem bd_1 {f : Addr} {fd : FuncData} (F : FunD K "_law_under" "_law_under" (defArgs s_u_law_under) (defBody s_u_law_under) (defScope s_u_law_under) [] [] f fd) : Bd ⟨K, ca, w⟩ fd ["_law_cell", "_law_k"] 2 [] (fun ds es => pick ds es [] [.p 0, .p 1]) :=
  bd0 F 2 [.p 0, .p 1] fun kV doc pm an cdv ct us ws h1 h2 => match us, ws, h1, h2 with | [_, _], [], _, _ => rfl
theorem bd_2 {f : Addr} {fd : FuncData} (F : FunD K "_law_circles" "_law_circles" (defArgs s_u_law_circles) (defBody s_u_law_circles) (defScope s_u_law_circles) [] [] f fd) : Bd ⟨K, ca, w⟩ fd ["_law_cell", "_law_many", "_law_upto"] 3 [] (fun ds es => pick ds es [] [.p 0, .p 1, .p 2]) :=
  bd0 F 3 [.p 0, .p 1, .p 2] fun kV doc pm an cdv ct us ws h1 h2 => match us, ws, h1, h2 with | [_, _, _], [], _, _ => rfl
theorem bd_3 {f : Addr} {fd : FuncData} (F : FunD K "_law_wheel" "_law_wheel" (defArgs s_u_law_wheel) (defBody s_u_law_wheel) (defScope s_u_law_wheel) [] [] f fd) : Bd ⟨K, ca, w⟩ fd ["_law_cell"] 1 [] (fun ds es => pick ds es [] [.p 0]) :=
  bd0 F 1 [.p 0] fun kV doc pm an cdv ct us ws h1 h2 => match us, ws, h1, h2 with | [_], [], _, _ => rfl
theorem bd_4 {f : Addr} {fd : FuncData} (F : FunD K "_law_side" "_law_side" (defArgs s_u_law_side) (defBody s_u_law_side) (defScope s_u_law_side) [] [] f fd) : Bd ⟨K, ca, w⟩ fd ["_law_cell", "_law_prime", "_law_many"] 3 [] (fun ds es => pick ds es [] [.p 0, .p 1, .p 2]) :=
  bd0 F 3 [.p 0, .p 1, .p 2] fun kV doc pm an cdv ct us ws h1 h2 => match us, ws, h1, h2 with | [_, _, _], [], _, _ => rfl
theorem bd_5 {f : Addr} {fd : FuncData} (F : FunD K "_law_gcd" "_law_gcd" (defArgs s_u_law_gcd) (defBody s_u_law_gcd) (defScope s_u_law_gcd) [] [] f fd) : Bd ⟨K, ca, w⟩ fd ["_law_first", "_law_second"] 2 [] (fun ds es => pick ds es [] [.p 0, .p 1]) :=
  bd0 F 2 [.p 0, .p 1] fun kV doc pm an cdv ct us ws h1 h2 => match us, ws, h1, h2 with | [_, _], [], _, _ => rfl
theorem bd_6 {f : Addr} {fd : FuncData} (F : FunD K "_law_least" "_law_least" (defArgs s_u_law_least) (defBody s_u_law_least) (defScope s_u_law_least) [] [] f fd) : Bd ⟨K, ca, w⟩ fd ["_law_numbers"] 1 [] (fun ds es => pick ds es [] [.p 0]) :=
  bd0 F 1 [.p 0] fun kV doc pm an cdv ct us ws h1 h2 => match us, ws, h1, h2 with | [_], [], _, _ => rfl
theorem bd_7 {f : Addr} {fd : FuncData} (F : FunD K "_law_bar" "_law_bar" (defArgs s_u_law_bar) (defBody s_u_law_bar) (defScope s_u_law_bar) [] [] f fd) : Bd ⟨K, ca, w⟩ fd ["_law_wheel_here", "_law_plates", "_law_strokes"] 3 [] (fun ds es => pick ds es [] [.p 0, .p 1, .p 2]) :=
  bd0 F 3 [.p 0, .p 1, .p 2] fun kV doc pm an cdv ct us ws h1 h2 => match us, ws, h1, h2 with | [_, _, _], [], _, _ => rfl
theorem bd_8 {f : Addr} {fd : FuncData} (F : FunD K "look_turns" "look_turns" (defArgs s_look_turns) (defBody s_look_turns) (defScope s_look_turns) [] [] f fd) : Bd ⟨K, ca, w⟩ fd ["turns"] 1 [] (fun ds es => pick ds es [] [.p 0]) :=
  bd0 F 1 [.p 0] fun kV doc pm an cdv ct us ws h1 h2 => match us, ws, h1, h2 with | [_], [], _, _ => rfl
theorem bd_9 {f : Addr} {fd : FuncData} (F : FunD K "look_circles" "look_circles" (defArgs s_look_circles) (defBody s_look_circles) (defScope s_look_circles) [] [] f fd) : Bd ⟨K, ca, w⟩ fd ["circles"] 1 [] (fun ds es => pick ds es [] [.p 0]) :=
  bd0 F 1 [.p 0] fun kV doc pm an cdv ct us ws h1 h2 => match us, ws, h1, h2 with | [_], [], _, _ => rfl
theorem bd_10 {f : Addr} {fd : FuncData} (F : FunD K "common" "common" (defArgs s_common) (defBody s_common) (defScope s_common) [] [] f fd) : Bd ⟨K, ca, w⟩ fd ["one", "other"] 2 [] (fun ds es => pick ds es [] [.p 0, .p 1]) :=
  bd0 F 2 [.p 0, .p 1] fun kV doc pm an cdv ct us ws h1 h2 => match us, ws, h1, h2 with | [_, _], [], _, _ => rfl
theorem bd_11 {f : Addr} {fd : FuncData} (F : FunD K "least_common" "least_common" (defArgs s_least_common) (defBody s_least_common) (defScope s_least_common) [] [] f fd) : Bd ⟨K, ca, w⟩ fd ["numbers"] 1 [] (fun ds es => pick ds es [] [.p 0]) :=
  bd0 F 1 [.p 0] fun kV doc pm an cdv ct us ws h1 h2 => match us, ws, h1, h2 with | [_], [], _, _ => rfl
theorem bd_12 {f : Addr} {fd : FuncData} (F : FunD K "finest" "finest" (defArgs s_finest) (defBody s_finest) (defScope s_finest) [] [] f fd) : Bd ⟨K, ca, w⟩ fd ["turns", "circles"] 2 [] (fun ds es => pick ds es [] [.p 0, .p 1]) :=
  bd0 F 2 [.p 0, .p 1] fun kV doc pm an cdv ct us ws h1 h2 => match us, ws, h1, h2 with | [_, _], [], _, _ => rfl
theorem bd_13 {f : Addr} {fd : FuncData} (F : FunD K "look_count" "look_count" (defArgs s_look_count) (defBody s_look_count) (defScope s_look_count) [] [] f fd) : Bd ⟨K, ca, w⟩ fd ["count"] 1 [] (fun ds es => pick ds es [] [.p 0]) :=
  bd0 F 1 [.p 0] fun kV doc pm an cdv ct us ws h1 h2 => match us, ws, h1, h2 with | [_], [], _, _ => rfl
theorem bd_14 {f : Addr} {fd : FuncData} (F : FunD K "primes_in" "primes_in" (defArgs s_primes_in) (defBody s_primes_in) (defScope s_primes_in) [] [] f fd) : Bd ⟨K, ca, w⟩ fd ["count"] 1 [] (fun ds es => pick ds es [] [.p 0]) :=
  bd0 F 1 [.p 0] fun kV doc pm an cdv ct us ws h1 h2 => match us, ws, h1, h2 with | [_], [], _, _ => rfl
theorem bd_15 {f : Addr} {fd : FuncData} (F : FunD K "bar" "bar" (defArgs s_bar) (defBody s_bar) (defScope s_bar) [] [] f fd) : Bd ⟨K, ca, w⟩ fd ["turns", "circles", "count"] 3 [] (fun ds es => pick ds es [] [.p 0, .p 1, .p 2]) :=
  bd0 F 3 [.p 0, .p 1, .p 2] fun kV doc pm an cdv ct us ws h1 h2 => match us, ws, h1, h2 with | [_, _, _], [], _, _ => rfl
theorem bd_16 {f : Addr} {fd : FuncData} (F : FunD K "crowds_of" "crowds_of" (defArgs s_crowds_of) (defBody s_crowds_of) (defScope s_crowds_of) [] [] f fd) : Bd ⟨K, ca, w⟩ fd ["circles"] 1 [] (fun ds es => pick ds es [] [.p 0]) :=
  bd0 F 1 [.p 0] fun kV doc pm an cdv ct us ws h1 h2 => match us, ws, h1, h2 with | [_], [], _, _ => rfl
theorem bd_17 {f : Addr} {fd : FuncData} (F : FunD K "few_circles" "few_circles" (defArgs s_few_circles) (defBody s_few_circles) (defScope s_few_circles) [] [] f fd) : Bd ⟨K, ca, w⟩ fd ["turns", "circles", "count"] 3 [] (fun ds es => pick ds es [] [.p 0, .p 1, .p 2]) :=
  bd0 F 3 [.p 0, .p 1, .p 2] fun kV doc pm an cdv ct us ws h1 h2 => match us, ws, h1, h2 with | [_, _, _], [], _, _ => rfl
theorem bd_18 {f : Addr} {fd : FuncData} (F : FunD K "part" "part" (defArgs s_part) (defBody s_part) (defScope s_part) [.int 1] [] f fd) : Bd ⟨K, ca, w⟩ fd ["number", "under"] 1 ["under"] (fun ds es => pick ds es dd_part [.p 0, .k 0]) :=
  bd1 F dd_part (by simp) (fun _ => (.cons (.int _) .nil)) 1 [.p 0, .k 0] fun T kV doc pm an cdv ct us ws its h1 h2 h3 => match us, ws, its, h1, h2, h3 with | [_], [_], [_], _, _, _ => ⟨_, rfl, rfl⟩
theorem bd_19 {f : Addr} {fd : FuncData} (F : FunD K "less" "less" (defArgs s_less) (defBody s_less) (defScope s_less) [] [] f fd) : Bd ⟨K, ca, w⟩ fd ["one", "other"] 2 [] (fun ds es => pick ds es [] [.p 0, .p 1]) :=
  bd0 F 2 [.p 0, .p 1] fun kV doc pm an cdv ct us ws h1 h2 => match us, ws, h1, h2 with | [_, _], [], _, _ => rfl
theorem bd_20 {f : Addr} {fd : FuncData} (F : FunD K "holes_of" "holes_of" (defArgs s_holes_of) (defBody s_holes_of) (defScope s_holes_of) [] [] f fd) : Bd ⟨K, ca, w⟩ fd ["circle", "left", "rest"] 3 [] (fun ds es => pick ds es [] [.p 0, .p 1, .p 2]) :=
  bd0 F 3 [.p 0, .p 1, .p 2] fun kV doc pm an cdv ct us ws h1 h2 => match us, ws, h1, h2 with | [_, _, _], [], _, _ => rfl
theorem bd_21 {f : Addr} {fd : FuncData} (F : FunD K "plan" "plan" (defArgs s_plan) (defBody s_plan) (defScope s_plan) [] [] f fd) : Bd ⟨K, ca, w⟩ fd ["turns", "circles", "count"] 0 ["count", "circles", "turns"] (fun ds es => pick ds es [] [.k 2, .k 1, .k 0]) :=
  bd0 F 0 [.k 2, .k 1, .k 0] fun kV doc pm an cdv ct us ws h1 h2 => match us, ws, h1, h2 with | [], [_, _, _], _, _ => rfl
theorem bd_22 {f : Addr} {fd : FuncData} (F : FunD K "_law_told" "_law_told" (defArgs s_u_law_told) (defBody s_u_law_told) (defScope s_u_law_told) [] [] f fd) : Bd ⟨K, ca, w⟩ fd ["_law_wheel_here", "_law_plates", "_law_strokes", "_law_few"] 4 [] (fun ds es => pick ds es [] [.p 0, .p 1, .p 2, .p 3]) :=
  bd0 F 4 [.p 0, .p 1, .p 2, .p 3] fun kV doc pm an cdv ct us ws h1 h2 => match us, ws, h1, h2 with | [_, _, _, _], [], _, _ => rfl
theorem bd_23 {f : Addr} {fd : FuncData} (F : FunD K "_law_same" "_law_same" (defArgs s_u_law_same) (defBody s_u_law_same) (defScope s_u_law_same) [] [] f fd) : Bd ⟨K, ca, w⟩ fd ["_law_found", "_law_due"] 2 [] (fun ds es => pick ds es [] [.p 0, .p 1]) :=
  bd0 F 2 [.p 0, .p 1] fun kV doc pm an cdv ct us ws h1 h2 => match us, ws, h1, h2 with | [_, _], [], _, _ => rfl
theorem bd_24 {f : Addr} {fd : FuncData} (F : FunD K "_law_choices" "_law_choices" (defArgs s_u_law_choices) (defBody s_u_law_choices) (defScope s_u_law_choices) [] [] f fd) : Bd ⟨K, ca, w⟩ fd ["_law_row"] 1 [] (fun ds es => pick ds es [] [.p 0]) :=
  bd0 F 1 [.p 0] fun kV doc pm an cdv ct us ws h1 h2 => match us, ws, h1, h2 with | [_], [], _, _ => rfl
theorem bd_25 {f : Addr} {fd : FuncData} (F : FunD K "_law_low" "_law_low" (defArgs s_u_law_low) (defBody s_u_law_low) (defScope s_u_law_low) [] [] f fd) : Bd ⟨K, ca, w⟩ fd ["_law_up", "_law_down"] 2 [] (fun ds es => pick ds es [] [.p 0, .p 1]) :=
  bd0 F 2 [.p 0, .p 1] fun kV doc pm an cdv ct us ws h1 h2 => match us, ws, h1, h2 with | [_, _], [], _, _ => rfl
theorem bd_26 {f : Addr} {fd : FuncData} (F : FunD K "_law_plus" "_law_plus" (defArgs s_u_law_plus) (defBody s_u_law_plus) (defScope s_u_law_plus) [] [] f fd) : Bd ⟨K, ca, w⟩ fd ["_law_one", "_law_other"] 2 [] (fun ds es => pick ds es [] [.p 0, .p 1]) :=
  bd0 F 2 [.p 0, .p 1] fun kV doc pm an cdv ct us ws h1 h2 => match us, ws, h1, h2 with | [_, _], [], _, _ => rfl
theorem bd_27 {f : Addr} {fd : FuncData} (F : FunD K "_law_walked" "_law_walked" (defArgs s_u_law_walked) (defBody s_u_law_walked) (defScope s_u_law_walked) [] [] f fd) : Bd ⟨K, ca, w⟩ fd ["_law_found", "_law_few", "_law_wheel_here", "_law_strokes"] 4 [] (fun ds es => pick ds es [] [.p 0, .p 1, .p 2, .p 3]) :=
  bd0 F 4 [.p 0, .p 1, .p 2, .p 3] fun kV doc pm an cdv ct us ws h1 h2 => match us, ws, h1, h2 with | [_, _, _, _], [], _, _ => rfl
end
section
variable {vn : Bool} {P : Program} {w : World} {K : PySem.W.Frag} {mg : Str → Option Value} {base : Heap} {ca : Str → Addr}
theorem ok_u_law_draws {f : Addr} {fd : FuncData} (hb_abs : mg "abs" = none) (F : FunD K "_law_draws" "_law_draws" (defArgs s_u_law_draws) (defBody s_u_law_draws) (defScope s_u_law_draws) [] [] f fd) (hm : mg "_law_draws" = some (.ref f)) : FnE vn P w K mg base ca "_law_draws" s_u_law_draws [] ["_law_cell", "_law_sizes"] 1 f_u_law_draws f fd := by
  have sc := sc_u_law_draws
  exact ⟨F, fn_mk (k := 0) F sc_u_law_draws rfl (m := sm_u_law_draws) (fun cdv A outer s H E hr =>
    (pds_cons (pds_if (pdt_lt (pd_abs hb_abs (pda_cons (pd_var 0) pda_nil)) (pd_pow pd_int pd_int)) (pds_cons (pds_set 2 sc.nd (pd_mod (pd_add (pd_mul (pd_var 0) pd_int) pd_int) pd_int))
    (pds_cons (pds_set 3 sc.nd (pd_mod (pd_add (pd_add (pd_mul (pd_var 2) (pd_var 2)) (pd_mul pd_int (pd_var 2))) (pd_var 0)) pd_int))
    (pds_cons (pds_set 4 sc.nd (pd_mod (pd_add (pd_mul (pd_var 3) pd_int) (pd_var 2)) pd_int))
    (pds_one (pds_set 0 sc.nd (pd_add (pd_var 3) (pd_mul pd_int (pd_add (pd_var 4) (pd_mul pd_int (pd_var 2)))))))))) (pds_one (pds_set 0 sc.nd (pd_sub (pd_abs hb_abs (pda_cons (pd_var 0) pda_nil)) (pd_pow pd_int pd_int)))))
    (pds_cons (pds_setL 5 sc.nd pda_nil)
    (pds_cons (pds_for (vs := [6]) passesX rfl (pdi_list (pd_var 1)) (pg_name (i := 6) sc.nd rfl (by first | exact Or.inl rfl | exact Or.inr rfl)) gok_name
    (pds_cons (pds_app 5 (pd_mod (pd_var 0) (pd_var 6)))
    (pds_one (pds_set 0 sc.nd (pd_div (pd_var 0) (pd_var 6))))))
    (pds_mfrz 5 (pds_one (pds_ret (pd_var 5)))))))), hm⟩
end
section
variable {vn : Bool} {P : Program} {w : World} {K : PySem.W.Frag} {mg : Str → Option Value} {base : Heap} {ca : Str → Addr}
theorem ok_u_law_under {f : Addr} {fd : FuncData} (hb_range : mg "range" = none) (hb_abs : mg "abs" = none) (F : FunD K "_law_under" "_law_under" (defArgs s_u_law_under) (defBody s_u_law_under) (defScope s_u_law_under) [] [] f fd) (hm : mg "_law_under" = some (.ref f)) : FnE vn P w K mg base ca "_law_under" s_u_law_under [] ["_law_cell", "_law_k"] 1 f_u_law_under f fd := by
  have sc := sc_u_law_under
  exact ⟨F, fn_mk (k := 0) F sc_u_law_under rfl (m := sm_u_law_under) (fun cdv A outer s H E hr =>
    (pds_cons (pds_if (pdt_lt (pd_abs hb_abs (pda_cons (pd_var 0) pda_nil)) (pd_pow pd_int pd_int)) (pds_one (pds_ret (pd_mod (pd_add (pd_add (pd_mul (pd_var 0) pd_int) (pd_mul pd_int (pd_var 1))) pd_int) pd_int))) pds_nil)
    (pds_cons (pds_set 2 sc.nd (pd_sub (pd_abs hb_abs (pda_cons (pd_var 0) pda_nil)) (pd_pow pd_int pd_int)))
    (pds_cons (pds_for (vs := [3]) passesX rfl (pdi_range1 hb_range (pda_cons (pd_add (pd_var 1) pd_int) pda_nil)) (pg_name (i := 3) sc.nd rfl (by first | exact Or.inl rfl | exact Or.inr rfl)) gok_name
    (pds_one (pds_set 2 sc.nd (pd_div (pd_var 2) (pd_pow pd_int pd_int)))))
    (pds_one (pds_ret (pd_add (pd_pow pd_int pd_int) (pd_var 2)))))))), hm⟩
end
section
variable {vn : Bool} {P : Program} {w : World} {K : PySem.W.Frag} {mg : Str → Option Value} {base : Heap} {ca : Str → Addr}
theorem ok_u_law_circles {f : Addr} {fd : FuncData} {a_u_law_draws : Addr} {d_u_law_draws : FuncData} (h_u_law_draws : FnE vn P w K mg base ca "_law_draws" s_u_law_draws [] ["_law_cell", "_law_sizes"] 1 f_u_law_draws a_u_law_draws d_u_law_draws) {a_u_law_under : Addr} {d_u_law_under : FuncData} (h_u_law_under : FnE vn P w K mg base ca "_law_under" s_u_law_under [] ["_law_cell", "_law_k"] 1 f_u_law_under a_u_law_under d_u_law_under) (hb_range : mg "range" = none) (F : FunD K "_law_circles" "_law_circles" (defArgs s_u_law_circles) (defBody s_u_law_circles) (defScope s_u_law_circles) [] [] f fd) (hm : mg "_law_circles" = some (.ref f)) : FnC vn P w K mg base ca "_law_circles" s_u_law_circles [] ["_law_cell", "_law_many", "_law_upto"] 2 F_u_law_circles f fd := by
  have sc := sc_u_law_circles
  exact ⟨F, fn_mkC (k := 1) F sc_u_law_circles rfl (m := sm_u_law_circles) (fun cdv A outer s H E hr =>
    (qds_cons (qds_set 3 sc.nd (qd_newL qda_nil))
    (qds_cons (qds_ls (pds_set 4 sc.nd (pd_lst (pda_cons pd_int (pda_cons pd_int (pda_cons pd_int (pda_cons pd_int (pda_cons pd_int (pda_cons pd_int (pda_cons pd_int (pda_cons pd_int (pda_cons pd_int (pda_cons pd_int (pda_cons pd_int (pda_cons pd_int pda_nil)))))))))))))))
    (qds_cons (qds_for (vs := [5]) passesX rfl (qdi_lf (pdi_range1 hb_range (pda_cons (pd_var 1) pda_nil))) (pg_name (i := 5) sc.nd rfl (by first | exact Or.inl rfl | exact Or.inr rfl)) gok_name
    (qds_cons (qds_ls (pds_set 6 sc.nd (pd_call h_u_law_draws.g (hr.mono (by decide)) h_u_law_draws.m h_u_law_draws.d.kp (bd_0 h_u_law_draws.d) takesX (pda_cons (pd_add (pd_call h_u_law_under.g (hr.mono (by decide)) h_u_law_under.m h_u_law_under.d.kp (bd_1 h_u_law_under.d) takesX (pda_cons (pd_var 0) (pda_cons (pd_var 5) pda_nil)) pdk_nil (al_cons (al_cons al_nil)) al_nil (fun ds es h1 h2 => match ds, es, h1, h2 with | [_, _], [], _, _ => rfl)) (pd_var 5)) (pda_cons (pd_lst (pda_cons pd_int (pda_cons pd_int (pda_cons pd_int pda_nil)))) pda_nil)) pdk_nil (al_cons (al_cons al_nil)) al_nil (fun ds es h1 h2 => match ds, es, h1, h2 with | [_, _], [], _, _ => rfl))))
    (qds_cons (qds_ls (pds_set 7 sc.nd (pd_sub1 (pd_lst (pda_cons (pd_add pd_int (pd_sub1 (pd_var 6) pd_int)) (pda_cons (pd_add pd_int (pd_sub1 (pd_var 6) pd_int)) (pda_cons (pd_sub1 (pd_var 4) (pd_sub1 (pd_var 6) pd_int)) (pda_cons (pd_add pd_int (pd_sub1 (pd_var 6) pd_int)) pda_nil))))) (pd_sub1 (pd_var 6) pd_int))))
    (qds_one (qds_if (qdt_w (qdw_and (qdt_notInb (hu65 hr) (qd_lf (pd_var 7)) (qd_lf (pd_var 3))) (qdw_and1 (qdt_lf (pdt_le (pd_var 7) (pd_var 2)))))) (qds_one (qds_expr (qd_append (qd_lf (pd_var 3)) (qda_cons (qd_lf (pd_var 7)) qda_nil)))) qds_nil)))))
    (qds_one (qds_ls (pds_ret (pd_var 3)))))))), hm⟩
end
section
variable {vn : Bool} {P : Program} {w : World} {K : PySem.W.Frag} {mg : Str → Option Value} {base : Heap} {ca : Str → Addr}
theorem ok_u_law_wheel {f : Addr} {fd : FuncData} {a_u_law_draws : Addr} {d_u_law_draws : FuncData} (h_u_law_draws : FnE vn P w K mg base ca "_law_draws" s_u_law_draws [] ["_law_cell", "_law_sizes"] 1 f_u_law_draws a_u_law_draws d_u_law_draws) {a_u_law_circles : Addr} {d_u_law_circles : FuncData} (h_u_law_circles : FnC vn P w K mg base ca "_law_circles" s_u_law_circles [] ["_law_cell", "_law_many", "_law_upto"] 2 F_u_law_circles a_u_law_circles d_u_law_circles) {a_u_law_under : Addr} {d_u_law_under : FuncData} (h_u_law_under : FnE vn P w K mg base ca "_law_under" s_u_law_under [] ["_law_cell", "_law_k"] 1 f_u_law_under a_u_law_under d_u_law_under) (F : FunD K "_law_wheel" "_law_wheel" (defArgs s_u_law_wheel) (defBody s_u_law_wheel) (defScope s_u_law_wheel) [] [] f fd) (hm : mg "_law_wheel" = some (.ref f)) : FnC vn P w K mg base ca "_law_wheel" s_u_law_wheel [] ["_law_cell"] 3 F_u_law_wheel f fd := by
  have sc := sc_u_law_wheel
  exact ⟨F, fn_mkC (k := 2) F sc_u_law_wheel rfl (m := sm_u_law_wheel) (fun cdv A outer s H E hr =>
    (qds_cons (qds_ls (pds_set 1 sc.nd (pd_call h_u_law_draws.g (hr.mono (by decide)) h_u_law_draws.m h_u_law_draws.d.kp (bd_0 h_u_law_draws.d) takesX (pda_cons (pd_var 0) (pda_cons (pd_lst (pda_cons pd_int (pda_cons pd_int (pda_cons pd_int pda_nil)))) pda_nil)) pdk_nil (al_cons (al_cons al_nil)) al_nil (fun ds es h1 h2 => match ds, es, h1, h2 with | [_, _], [], _, _ => rfl))))
    (qds_cons (qds_ls (pds_set 2 sc.nd (pd_sub1 (pd_lst (pda_cons pd_int (pda_cons (pd_add pd_int (pd_sub1 (pd_var 1) pd_int)) (pda_cons pd_int (pda_cons pd_int (pda_cons (pd_add pd_int (pd_mod (pd_sub1 (pd_var 1) pd_int) pd_int)) (pda_cons pd_int pda_nil))))))) (pd_sub1 (pd_var 1) pd_int))))
    (qds_one (qds_ret (qd_tup (qda_cons (qd_lf (pd_var 2)) (qda_cons (qd_call h_u_law_circles.g (hr.mono (by decide)) h_u_law_circles.m h_u_law_circles.d.kp (bd_2 h_u_law_circles.d) takesX (qda_cons (qd_lf (pd_add (pd_call h_u_law_under.g (hr.mono (by decide)) h_u_law_under.m h_u_law_under.d.kp (bd_1 h_u_law_under.d) takesX (pda_cons (pd_var 0) (pda_cons pd_int pda_nil)) pdk_nil (al_cons (al_cons al_nil)) al_nil (fun ds es h1 h2 => match ds, es, h1, h2 with | [_, _], [], _, _ => rfl)) pd_int)) (qda_cons (qd_lf (pd_sub1 (pd_var 1) pd_int)) (qda_cons (qd_lf pd_int) qda_nil))) qdk_nil (alc_cons (alc_cons (alc_cons alc_nil))) alc_nil (fun ds es h1 h2 => match ds, es, h1, h2 with | [_, _, _], [], _, _ => rfl)) qda_nil)))))))), hm⟩
end
section
variable {vn : Bool} {P : Program} {w : World} {K : PySem.W.Frag} {mg : Str → Option Value} {base : Heap} {ca : Str → Addr}
theorem ok_u_law_side {f : Addr} {fd : FuncData} {a_u_law_draws : Addr} {d_u_law_draws : FuncData} (h_u_law_draws : FnE vn P w K mg base ca "_law_draws" s_u_law_draws [] ["_law_cell", "_law_sizes"] 1 f_u_law_draws a_u_law_draws d_u_law_draws) (F : FunD K "_law_side" "_law_side" (defArgs s_u_law_side) (defBody s_u_law_side) (defScope s_u_law_side) [] [] f fd) (hm : mg "_law_side" = some (.ref f)) : FnE vn P w K mg base ca "_law_side" s_u_law_side [] ["_law_cell", "_law_prime", "_law_many"] 2 f_u_law_side f fd := by
  have sc := sc_u_law_side
  exact ⟨F, fn_mk (k := 1) F sc_u_law_side rfl (m := sm_u_law_side) (fun cdv A outer s H E hr =>
    (pds_one (pds_ret (pd_mod (pd_sub1 (pd_call h_u_law_draws.g (hr.mono (by decide)) h_u_law_draws.m h_u_law_draws.d.kp (bd_0 h_u_law_draws.d) takesX (pda_cons (pd_add (pd_var 0) (pd_var 1)) (pda_cons (pd_lst (pda_cons (pd_var 1) pda_nil)) pda_nil)) pdk_nil (al_cons (al_cons al_nil)) al_nil (fun ds es h1 h2 => match ds, es, h1, h2 with | [_, _], [], _, _ => rfl)) pd_int) (pd_var 2))))), hm⟩
end
section
variable {vn : Bool} {P : Program} {w : World} {K : PySem.W.Frag} {mg : Str → Option Value} {base : Heap} {ca : Str → Addr}
theorem ok_u_law_gcd {f : Addr} {fd : FuncData} (hb_abs : mg "abs" = none) (F : FunD K "_law_gcd" "_law_gcd" (defArgs s_u_law_gcd) (defBody s_u_law_gcd) (defScope s_u_law_gcd) [] [] f fd) (hm : mg "_law_gcd" = some (.ref f)) : FnE vn P w K mg base ca "_law_gcd" s_u_law_gcd [] ["_law_first", "_law_second"] 1 f_u_law_gcd f fd := by
  have sc := sc_u_law_gcd
  exact ⟨F, fn_mk (k := 0) F sc_u_law_gcd rfl (m := sm_u_law_gcd) (fun cdv A outer s H E hr =>
    (pds_cons (pds_set 0 sc.nd (pd_abs hb_abs (pda_cons (pd_var 0) pda_nil)))
    (pds_cons (pds_set 1 sc.nd (pd_abs hb_abs (pda_cons (pd_var 1) pda_nil)))
    (pds_cons (pds_while fuelTop passesX (pdt_ne (hu64 hr) (pd_var 1) pd_int)
    (pds_one (pds_par (i := 0) (j := 1) rfl sc.nd (by decide) (pda_cons (pd_var 1) (pda_cons (pd_mod (pd_var 0) (pd_var 1)) pda_nil)))))
    (pds_one (pds_ret (pd_var 0))))))), hm⟩
end
section
variable {vn : Bool} {P : Program} {w : World} {K : PySem.W.Frag} {mg : Str → Option Value} {base : Heap} {ca : Str → Addr}
theorem ok_u_law_least {f : Addr} {fd : FuncData} {a_u_law_gcd : Addr} {d_u_law_gcd : FuncData} (h_u_law_gcd : FnE vn P w K mg base ca "_law_gcd" s_u_law_gcd [] ["_law_first", "_law_second"] 1 f_u_law_gcd a_u_law_gcd d_u_law_gcd) (F : FunD K "_law_least" "_law_least" (defArgs s_u_law_least) (defBody s_u_law_least) (defScope s_u_law_least) [] [] f fd) (hm : mg "_law_least" = some (.ref f)) : FnE vn P w K mg base ca "_law_least" s_u_law_least [] ["_law_numbers"] 2 f_u_law_least f fd := by
  have sc := sc_u_law_least
  exact ⟨F, fn_mk (k := 1) F sc_u_law_least rfl (m := sm_u_law_least) (fun cdv A outer s H E hr =>
    (pds_cons (pds_set 1 sc.nd pd_int)
    (pds_cons (pds_for (vs := [2]) passesX rfl (pdi_list (pd_var 0)) (pg_name (i := 2) sc.nd rfl (by first | exact Or.inl rfl | exact Or.inr rfl)) gok_name
    (pds_one (pds_set 1 sc.nd (pd_div (pd_mul (pd_var 1) (pd_var 2)) (pd_call h_u_law_gcd.g (hr.mono (by decide)) h_u_law_gcd.m h_u_law_gcd.d.kp (bd_5 h_u_law_gcd.d) takesX (pda_cons (pd_var 1) (pda_cons (pd_var 2) pda_nil)) pdk_nil (al_cons (al_cons al_nil)) al_nil (fun ds es h1 h2 => match ds, es, h1, h2 with | [_, _], [], _, _ => rfl))))))
    (pds_one (pds_ret (pd_var 1)))))), hm⟩
end
section
variable {vn : Bool} {P : Program} {w : World} {K : PySem.W.Frag} {mg : Str → Option Value} {base : Heap} {ca : Str → Addr}
theorem ok_u_law_bar {f : Addr} {fd : FuncData} {a_u_law_least : Addr} {d_u_law_least : FuncData} (h_u_law_least : FnE vn P w K mg base ca "_law_least" s_u_law_least [] ["_law_numbers"] 2 f_u_law_least a_u_law_least d_u_law_least) (F : FunD K "_law_bar" "_law_bar" (defArgs s_u_law_bar) (defBody s_u_law_bar) (defScope s_u_law_bar) [] [] f fd) (hm : mg "_law_bar" = some (.ref f)) : FnE vn P w K mg base ca "_law_bar" s_u_law_bar [] ["_law_wheel_here", "_law_plates", "_law_strokes"] 3 f_u_law_bar f fd := by
  have sc := sc_u_law_bar
  exact ⟨F, fn_mk (k := 2) F sc_u_law_bar rfl (m := sm_u_law_bar) (fun cdv A outer s H E hr =>
    (pds_cons (pds_set 3 sc.nd (pd_mul (pd_var 0) (pd_call h_u_law_least.g (hr.mono (by decide)) h_u_law_least.m h_u_law_least.d.kp (bd_6 h_u_law_least.d) takesX (pda_cons (pd_var 1) pda_nil) pdk_nil (al_cons al_nil) al_nil (fun ds es h1 h2 => match ds, es, h1, h2 with | [_], [], _, _ => rfl))))
    (pds_cons (pds_set 4 sc.nd (pd_var 2))
    (pds_cons (pds_set 5 sc.nd pd_int)
    (pds_cons (pds_while fuelTop passesX (pdt_gt (pd_var 4) pd_int)
    (pds_cons (pds_set 6 sc.nd pd_int)
    (pds_cons (pds_set 7 sc.nd pd_int)
    (pds_cons (pds_while fuelTop passesX (pdt_eq (hu64 hr) (pd_mod (pd_var 4) (pd_var 5)) pd_int)
    (pds_cons (pds_set 4 sc.nd (pd_div (pd_var 4) (pd_var 5)))
    (pds_cons (pds_set 7 sc.nd (pd_mul (pd_var 7) (pd_var 5)))
    (pds_one (pds_set 6 sc.nd (pd_add (pd_var 6) pd_int))))))
    (pds_cons (pds_if (pdt_ne (hu64 hr) (pd_mod (pd_var 3) (pd_var 7)) pd_int) (pds_one (pds_ret (pd_tup (pda_cons (pd_var 5) (pda_cons (pd_var 6) pda_nil))))) pds_nil)
    (pds_one (pds_set 5 sc.nd (pd_add (pd_var 5) pd_int))))))))
    (pds_one (pds_ret pd_non))))))), hm⟩
end
section
variable {vn : Bool} {P : Program} {w : World} {K : PySem.W.Frag} {mg : Str → Option Value} {base : Heap} {ca : Str → Addr}
theorem ok_look_turns {f : Addr} {fd : FuncData} (hg_MOST_TURNS : GlE K mg ca "MOST_TURNS" c_MOST_TURNS) {ai_BadCount : Addr} {di_BadCount : FuncData} (hx_BadCount : XcE P w K mg base ca "BadCount" "ValueError" [.type "ValueError", .type "Exception", .type "BaseException", .type "object"] "ValueError.__new__" "ValueError.__init__" "bad count" ai_BadCount di_BadCount) (F : FunD K "look_turns" "look_turns" (defArgs s_look_turns) (defBody s_look_turns) (defScope s_look_turns) [] [] f fd) (hm : mg "look_turns" = some (.ref f)) : FnE vn P w K mg base ca "look_turns" s_look_turns [] ["turns"] 3 f_look_turns f fd := by
  have sc := sc_look_turns
  exact ⟨F, fn_mk (k := 2) F sc_look_turns rfl (m := sm_look_turns) (fun cdv A outer s H E hr =>
    (pds_one (pds_if (pdt_w (pdw_or (pdt_lt (pd_var 0) pd_int) (pdw_or1 (pdt_gt (pd_var 0) (pd_globE hg_MOST_TURNS))))) (pds_one (pds_raise0 hx_BadCount.bf hx_BadCount.t hx_BadCount.iC hx_BadCount.tI hx_BadCount.g (hr.mono (by decide)) hx_BadCount.b hx_BadCount.m rfl takesX)) pds_nil))), hm⟩
end
section
variable {vn : Bool} {P : Program} {w : World} {K : PySem.W.Frag} {mg : Str → Option Value} {base : Heap} {ca : Str → Addr}
theorem ok_look_circles {f : Addr} {fd : FuncData} (hg_LEAST_CIRCLE : GlE K mg ca "LEAST_CIRCLE" c_LEAST_CIRCLE) (hg_MOST_CIRCLE : GlE K mg ca "MOST_CIRCLE" c_MOST_CIRCLE) {ai_BadCount : Addr} {di_BadCount : FuncData} (hx_BadCount : XcE P w K mg base ca "BadCount" "ValueError" [.type "ValueError", .type "Exception", .type "BaseException", .type "object"] "ValueError.__new__" "ValueError.__init__" "bad count" ai_BadCount di_BadCount) (F : FunD K "look_circles" "look_circles" (defArgs s_look_circles) (defBody s_look_circles) (defScope s_look_circles) [] [] f fd) (hm : mg "look_circles" = some (.ref f)) : FnE vn P w K mg base ca "look_circles" s_look_circles [] ["circles"] 3 f_look_circles f fd := by
  have sc := sc_look_circles
  exact ⟨F, fn_mk (k := 2) F sc_look_circles rfl (m := sm_look_circles) (fun cdv A outer s H E hr =>
    (pds_one (pds_for (vs := [1]) passesX rfl (pdi_list (pd_var 0)) (pg_name (i := 1) sc.nd rfl (by first | exact Or.inl rfl | exact Or.inr rfl)) gok_name
    (pds_one (pds_if (pdt_w (pdw_or (pdt_lt (pd_var 1) (pd_globE hg_LEAST_CIRCLE)) (pdw_or1 (pdt_gt (pd_var 1) (pd_globE hg_MOST_CIRCLE))))) (pds_one (pds_raise0 hx_BadCount.bf hx_BadCount.t hx_BadCount.iC hx_BadCount.tI hx_BadCount.g (hr.mono (by decide)) hx_BadCount.b hx_BadCount.m rfl takesX)) pds_nil))))), hm⟩
end
section
variable {vn : Bool} {P : Program} {w : World} {K : PySem.W.Frag} {mg : Str → Option Value} {base : Heap} {ca : Str → Addr}
theorem ok_common {f : Addr} {fd : FuncData} (hb_abs : mg "abs" = none) (F : FunD K "common" "common" (defArgs s_common) (defBody s_common) (defScope s_common) [] [] f fd) (hm : mg "common" = some (.ref f)) : FnE vn P w K mg base ca "common" s_common [] ["one", "other"] 1 f_common f fd := by
  have sc := sc_common
  exact ⟨F, fn_mk (k := 0) F sc_common rfl (m := sm_common) (fun cdv A outer s H E hr =>
    (pds_cons (pds_set 0 sc.nd (pd_abs hb_abs (pda_cons (pd_var 0) pda_nil)))
    (pds_cons (pds_set 1 sc.nd (pd_abs hb_abs (pda_cons (pd_var 1) pda_nil)))
    (pds_cons (pds_while fuelTop passesX (pdt_ne (hu64 hr) (pd_var 1) pd_int)
    (pds_cons (pds_set 2 sc.nd (pd_var 0))
    (pds_cons (pds_aug 2 sc.nd iop_mod (k2_I (fun _ _ h => of_decide_eq_true h) fun _ _ _ => .int _) (pd_var 1))
    (pds_cons (pds_set 0 sc.nd (pd_var 1))
    (pds_one (pds_set 1 sc.nd (pd_var 2)))))))
    (pds_one (pds_ret (pd_var 0))))))), hm⟩
end
section
variable {vn : Bool} {P : Program} {w : World} {K : PySem.W.Frag} {mg : Str → Option Value} {base : Heap} {ca : Str → Addr}
theorem ok_least_common {f : Addr} {fd : FuncData} {a_common : Addr} {d_common : FuncData} (h_common : FnE vn P w K mg base ca "common" s_common [] ["one", "other"] 1 f_common a_common d_common) (F : FunD K "least_common" "least_common" (defArgs s_least_common) (defBody s_least_common) (defScope s_least_common) [] [] f fd) (hm : mg "least_common" = some (.ref f)) : FnE vn P w K mg base ca "least_common" s_least_common [] ["numbers"] 2 f_least_common f fd := by
  have sc := sc_least_common
  exact ⟨F, fn_mk (k := 1) F sc_least_common rfl (m := sm_least_common) (fun cdv A outer s H E hr =>
    (pds_cons (pds_set 1 sc.nd pd_int)
    (pds_cons (pds_for (vs := [2]) passesX rfl (pdi_list (pd_var 0)) (pg_name (i := 2) sc.nd rfl (by first | exact Or.inl rfl | exact Or.inr rfl)) gok_name
    (pds_one (pds_aug 1 sc.nd iop_mulW (k2_I (fun _ _ h => mulOk_of h) fun _ _ _ => .int _) (pd_div (pd_var 2) (pd_call h_common.g (hr.mono (by decide)) h_common.m h_common.d.kp (bd_10 h_common.d) takesX (pda_cons (pd_var 1) (pda_cons (pd_var 2) pda_nil)) pdk_nil (al_cons (al_cons al_nil)) al_nil (fun ds es h1 h2 => match ds, es, h1, h2 with | [_, _], [], _, _ => rfl))))))
    (pds_one (pds_ret (pd_var 1)))))), hm⟩
end
section
variable {vn : Bool} {P : Program} {w : World} {K : PySem.W.Frag} {mg : Str → Option Value} {base : Heap} {ca : Str → Addr}
theorem ok_finest {f : Addr} {fd : FuncData} {a_look_turns : Addr} {d_look_turns : FuncData} (h_look_turns : FnE vn P w K mg base ca "look_turns" s_look_turns [] ["turns"] 3 f_look_turns a_look_turns d_look_turns) {a_look_circles : Addr} {d_look_circles : FuncData} (h_look_circles : FnE vn P w K mg base ca "look_circles" s_look_circles [] ["circles"] 3 f_look_circles a_look_circles d_look_circles) {a_least_common : Addr} {d_least_common : FuncData} (h_least_common : FnE vn P w K mg base ca "least_common" s_least_common [] ["numbers"] 2 f_least_common a_least_common d_least_common) (F : FunD K "finest" "finest" (defArgs s_finest) (defBody s_finest) (defScope s_finest) [] [] f fd) (hm : mg "finest" = some (.ref f)) : FnE vn P w K mg base ca "finest" s_finest [] ["turns", "circles"] 4 f_finest f fd := by
  have sc := sc_finest
  exact ⟨F, fn_mk (k := 3) F sc_finest rfl (m := sm_finest) (fun cdv A outer s H E hr =>
    (pds_cons (pds_expr (pd_call h_look_turns.g (hr.mono (by decide)) h_look_turns.m h_look_turns.d.kp (bd_8 h_look_turns.d) takesX (pda_cons (pd_var 0) pda_nil) pdk_nil (al_cons al_nil) al_nil (fun ds es h1 h2 => match ds, es, h1, h2 with | [_], [], _, _ => rfl)))
    (pds_cons (pds_expr (pd_call h_look_circles.g (hr.mono (by decide)) h_look_circles.m h_look_circles.d.kp (bd_9 h_look_circles.d) takesX (pda_cons (pd_var 1) pda_nil) pdk_nil (al_cons al_nil) al_nil (fun ds es h1 h2 => match ds, es, h1, h2 with | [_], [], _, _ => rfl)))
    (pds_one (pds_ret (pd_mul (pd_var 0) (pd_call h_least_common.g (hr.mono (by decide)) h_least_common.m h_least_common.d.kp (bd_11 h_least_common.d) takesX (pda_cons (pd_var 1) pda_nil) pdk_nil (al_cons al_nil) al_nil (fun ds es h1 h2 => match ds, es, h1, h2 with | [_], [], _, _ => rfl)))))))), hm⟩
end
section
variable {vn : Bool} {P : Program} {w : World} {K : PySem.W.Frag} {mg : Str → Option Value} {base : Heap} {ca : Str → Addr}
theorem ok_look_count {f : Addr} {fd : FuncData} (hg_MOST_COUNT : GlE K mg ca "MOST_COUNT" c_MOST_COUNT) {ai_BadCount : Addr} {di_BadCount : FuncData} (hx_BadCount : XcE P w K mg base ca "BadCount" "ValueError" [.type "ValueError", .type "Exception", .type "BaseException", .type "object"] "ValueError.__new__" "ValueError.__init__" "bad count" ai_BadCount di_BadCount) (F : FunD K "look_count" "look_count" (defArgs s_look_count) (defBody s_look_count) (defScope s_look_count) [] [] f fd) (hm : mg "look_count" = some (.ref f)) : FnE vn P w K mg base ca "look_count" s_look_count [] ["count"] 3 f_look_count f fd := by
  have sc := sc_look_count
  exact ⟨F, fn_mk (k := 2) F sc_look_count rfl (m := sm_look_count) (fun cdv A outer s H E hr =>
    (pds_one (pds_if (pdt_w (pdw_or (pdt_lt (pd_var 0) pd_int) (pdw_or1 (pdt_gt (pd_var 0) (pd_globE hg_MOST_COUNT))))) (pds_one (pds_raise0 hx_BadCount.bf hx_BadCount.t hx_BadCount.iC hx_BadCount.tI hx_BadCount.g (hr.mono (by decide)) hx_BadCount.b hx_BadCount.m rfl takesX)) pds_nil))), hm⟩
end
section
variable {vn : Bool} {P : Program} {w : World} {K : PySem.W.Frag} {mg : Str → Option Value} {base : Heap} {ca : Str → Addr}
theorem ok_primes_in {f : Addr} {fd : FuncData}  (F : FunD K "primes_in" "primes_in" (defArgs s_primes_in) (defBody s_primes_in) (defScope s_primes_in) [] [] f fd) (hm : mg "primes_in" = some (.ref f)) : FnE vn P w K mg base ca "primes_in" s_primes_in [] ["count"] 1 f_primes_in f fd := by
  have sc := sc_primes_in
  exact ⟨F, fn_mk (k := 0) F sc_primes_in rfl (m := sm_primes_in) (fun cdv A outer s H E hr =>
    (pds_cons (pds_setL 1 sc.nd pda_nil)
    (pds_cons (pds_set 2 sc.nd pd_int)
    (pds_cons (pds_while fuelTop passesX (pdt_gt (pd_var 0) pd_int)
    (pds_cons (pds_set 3 sc.nd pd_int)
    (pds_cons (pds_set 4 sc.nd pd_int)
    (pds_cons (pds_while fuelTop passesX (pdt_eq (hu64 hr) (pd_mod (pd_var 0) (pd_var 2)) pd_int)
    (pds_cons (pds_aug 0 sc.nd iop_fdivW (k2_I (fun _ _ h => divOk_of h) fun _ _ _ => .int _) (pd_var 2))
    (pds_cons (pds_aug 4 sc.nd iop_mulW (k2_I (fun _ _ h => mulOk_of h) fun _ _ _ => .int _) (pd_var 2))
    (pds_one (pds_aug 3 sc.nd iop_add (k2_I0 fun _ _ _ => .int _) pd_int)))))
    (pds_cons (pds_if (pdt_gt (pd_var 3) pd_int) (pds_one (pds_app 1 (pd_tup (pda_cons (pd_var 2) (pda_cons (pd_var 3) (pda_cons (pd_var 4) pda_nil)))))) pds_nil)
    (pds_one (pds_aug 2 sc.nd iop_add (k2_I0 fun _ _ _ => .int _) pd_int)))))))
    (pds_mfrz 1 (pds_one (pds_ret (pd_var 1)))))))), hm⟩
end
section
variable {vn : Bool} {P : Program} {w : World} {K : PySem.W.Frag} {mg : Str → Option Value} {base : Heap} {ca : Str → Addr}
theorem ok_bar {f : Addr} {fd : FuncData} {a_finest : Addr} {d_finest : FuncData} (h_finest : FnE vn P w K mg base ca "finest" s_finest [] ["turns", "circles"] 4 f_finest a_finest d_finest) {a_look_count : Addr} {d_look_count : FuncData} (h_look_count : FnE vn P w K mg base ca "look_count" s_look_count [] ["count"] 3 f_look_count a_look_count d_look_count) {a_primes_in : Addr} {d_primes_in : FuncData} (h_primes_in : FnE vn P w K mg base ca "primes_in" s_primes_in [] ["count"] 1 f_primes_in a_primes_in d_primes_in) (F : FunD K "bar" "bar" (defArgs s_bar) (defBody s_bar) (defScope s_bar) [] [] f fd) (hm : mg "bar" = some (.ref f)) : FnE vn P w K mg base ca "bar" s_bar [] ["turns", "circles", "count"] 5 f_bar f fd := by
  have sc := sc_bar
  exact ⟨F, fn_mk (k := 4) F sc_bar rfl (m := sm_bar) (fun cdv A outer s H E hr =>
    (pds_cons (pds_set 3 sc.nd (pd_call h_finest.g (hr.mono (by decide)) h_finest.m h_finest.d.kp (bd_12 h_finest.d) takesX (pda_cons (pd_var 0) (pda_cons (pd_var 1) pda_nil)) pdk_nil (al_cons (al_cons al_nil)) al_nil (fun ds es h1 h2 => match ds, es, h1, h2 with | [_, _], [], _, _ => rfl)))
    (pds_cons (pds_expr (pd_call h_look_count.g (hr.mono (by decide)) h_look_count.m h_look_count.d.kp (bd_13 h_look_count.d) takesX (pda_cons (pd_var 2) pda_nil) pdk_nil (al_cons al_nil) al_nil (fun ds es h1 h2 => match ds, es, h1, h2 with | [_], [], _, _ => rfl)))
    (pds_cons (pds_for (vs := [4, 5, 6]) passesX rfl (pdi_list (pd_call h_primes_in.g (hr.mono (by decide)) h_primes_in.m h_primes_in.d.kp (bd_14 h_primes_in.d) takesX (pda_cons (pd_var 2) pda_nil) pdk_nil (al_cons al_nil) al_nil (fun ds es h1 h2 => match ds, es, h1, h2 with | [_], [], _, _ => rfl))) (pg_tup rfl (pgs_cons (pg_name (i := 4) sc.nd rfl (by first | exact Or.inl rfl | exact Or.inr rfl)) (pgs_cons (pg_name (i := 5) sc.nd rfl (by first | exact Or.inl rfl | exact Or.inr rfl)) (pgs_cons (pg_name (i := 6) sc.nd rfl (by first | exact Or.inl rfl | exact Or.inr rfl)) pgs_nil)))) (gok_tup (goks_cons gok_name (goks_cons gok_name (goks_cons gok_name goks_nil))))
    (pds_one (pds_if (pdt_ne (hu64 hr) (pd_mod (pd_var 3) (pd_var 6)) pd_int) (pds_one (pds_ret (pd_tup (pda_cons (pd_var 4) (pda_cons (pd_var 5) pda_nil))))) pds_nil)))
    (pds_one (pds_ret pd_non)))))), hm⟩
end
section
variable {vn : Bool} {P : Program} {w : World} {K : PySem.W.Frag} {mg : Str → Option Value} {base : Heap} {ca : Str → Addr}
theorem ok_crowds_of {fd : FuncData} (hb_sorted : mg "sorted" = none) (hb_len : mg "len" = none) (hTB : LamX.TabB base mg (He.codeOf K ("crowds_of", none)) (tabA K "crowds_of")) (F : FunD K "crowds_of" "crowds_of" (defArgs s_crowds_of) (defBody s_crowds_of) (defScope s_crowds_of) [] [] (He.fAd K ("crowds_of", none)) fd) (hm : mg "crowds_of" = some (.ref (He.fAd K ("crowds_of", none)))) : FnC vn P w K mg base ca "crowds_of" s_crowds_of [] ["circles"] 5 F_crowds_of (He.fAd K ("crowds_of", none)) fd := by
  have sc := sc_crowds_of
  exact ⟨F, fn_mkL (mk := "crowds_of") (k := 4) F sc_crowds_of rfl (m := sm_crowds_of) (fun cdv A outer s H E ec hr =>
    (qds_cons (qds_ls (pds_set 1 sc.nd (pd_lst (pda_cons (pd_lst pda_nil) pda_nil))))
    (qds_cons (qds_for (vs := [2]) passesX rfl (qdi_zIt (qd_sortC hb_sorted (qda_cons (qd_lf (pd_var 0)) qda_nil))) (pg_name (i := 2) sc.nd rfl (by first | exact Or.inl rfl | exact Or.inr rfl)) gok_name
    (qds_one (qds_ls (pds_set 1 sc.nd (pd_cat (pd_var 1) (pd_lc rfl sc.nd (own := [("crowd", 3)]) (pdi_list (pd_var 1)) (blkOk_by (N := ["circles", "found", "circle", "crowd"]) (sc := defScope s_crowds_of) (own := [("crowd", 3)]) (by decide +kernel)) (gok_name) (fun _ _ _ _ _ => (pg_name (i := 3) sc.nd rfl (by first | exact Or.inl rfl | exact Or.inr rfl))) (fun _ _ _ _ _ => pdts_nil) (fun _ _ _ _ _ => (pd_cat (pd_var 3) (pd_lst (pda_cons (pd_var 2) pda_nil))))))))))
    (qds_one (qds_ret (qd_sortL (n := 0) (k := 1) (mk := "crowds_of") (q := "crowds_of.<locals>.<lambda>") (x := "crowd") (fb := lam_crowds_of_0) hb_sorted (hr.mono (by decide)) ⟨rfl, rfl, rfl, by decide +kernel, rfl, by decide +kernel, by decide +kernel⟩ hTB ec (by first | rfl | decide +kernel) (qda_cons (qd_lf (pd_var 1)) qda_nil) (fun A outer s H E f c' hr2 => (pd_tup (pda_cons (pd_len hb_len (pda_cons (pd_var 0) pda_nil)) (pda_cons (pd_var 0) pda_nil)))))))))), hm⟩
end
section
variable {vn : Bool} {P : Program} {w : World} {K : PySem.W.Frag} {mg : Str → Option Value} {base : Heap} {ca : Str → Addr}
theorem ok_few_circles {f : Addr} {fd : FuncData} {a_bar : Addr} {d_bar : FuncData} (h_bar : FnE vn P w K mg base ca "bar" s_bar [] ["turns", "circles", "count"] 5 f_bar a_bar d_bar) {a_crowds_of : Addr} {d_crowds_of : FuncData} (h_crowds_of : FnC vn P w K mg base ca "crowds_of" s_crowds_of [] ["circles"] 5 F_crowds_of a_crowds_of d_crowds_of) {a_least_common : Addr} {d_least_common : FuncData} (h_least_common : FnE vn P w K mg base ca "least_common" s_least_common [] ["numbers"] 2 f_least_common a_least_common d_least_common) {ai_Barred : Addr} {di_Barred : FuncData} (hx_Barred : XaE P w K mg base ca "Barred" "ArithmeticError" [.type "ArithmeticError", .type "Exception", .type "BaseException", .type "object"] "ArithmeticError.__new__" "ArithmeticError.__init__" ["self", "prime", "power"] [("word", .s "barred"), ("prime", .p 0), ("power", .p 1)] 2 ai_Barred di_Barred) (hbx_0 : Bx K di_Barred ["self", "prime", "power"] 2 ["power"] [] (.p 0 :: ([.p 0, .k 0] : List Pk).map Pk.up)) (F : FunD K "few_circles" "few_circles" (defArgs s_few_circles) (defBody s_few_circles) (defScope s_few_circles) [] [] f fd) (hm : mg "few_circles" = some (.ref f)) : FnC vn P w K mg base ca "few_circles" s_few_circles [] ["turns", "circles", "count"] 6 F_few_circles f fd := by
  have sc := sc_few_circles
  exact ⟨F, fn_mkC (k := 5) F sc_few_circles rfl (m := sm_few_circles) (fun cdv A outer s H E hr =>
    (qds_cons (qds_set 3 sc.nd (qd_call (fn_bor h_bar.g) (hr.mono (by decide)) h_bar.m h_bar.d.kp (bd_15 h_bar.d) takesX (qda_cons (qd_lf (pd_var 0)) (qda_cons (qd_lf (pd_var 1)) (qda_cons (qd_lf (pd_var 2)) qda_nil))) qdk_nil (alc_cons (alc_cons (alc_cons alc_nil))) alc_nil (fun ds es h1 h2 => match ds, es, h1, h2 with | [_, _, _], [], _, _ => rfl)))
    (qds_cons (qds_ls (pds_if (pdt_notN (pd_var 3) pd_non) (pds_one (pds_raiseA rfl takesX (pmk1 hx_Barred hbx_0 (fun _ => .nil) (hr.mono (by decide)) (pda_cons (pd_sub1 (pd_var 3) pd_int) pda_nil) (pdk_cons (pd_sub1 (pd_var 3) pd_int) pdk_nil) (al_cons al_nil) (al_cons al_nil) (fun ds es h1 h2 => match ds, es, h1, h2 with | [_], [_], _, _ => rfl) (by decide)))) pds_nil))
    (qds_cons (Pd.qds_setLc 4 rfl sc.nd (own := [("crowd", 5)]) (qdi_zIt (qd_call h_crowds_of.g (hr.mono (by decide)) h_crowds_of.m h_crowds_of.d.kp (bd_16 h_crowds_of.d) takesX (qda_cons (qd_lf (pd_var 1)) qda_nil) qdk_nil (alc_cons alc_nil) alc_nil (fun ds es h1 h2 => match ds, es, h1, h2 with | [_], [], _, _ => rfl))) (blkOk_by (N := ["turns", "circles", "count", "wrong", "fit", "crowd"]) (sc := defScope s_few_circles) (own := [("crowd", 5)]) (by decide +kernel)) (gok_name) (fun _ _ _ _ _ => (pg_name (i := 5) sc.nd rfl (by first | exact Or.inl rfl | exact Or.inr rfl))) (fun _ _ _ _ _ => qdts_one (qdt_lf (pdt_eq (hu64 hr) (pd_mod (pd_mul (pd_var 0) (pd_call h_least_common.g (hr.mono (by decide)) h_least_common.m h_least_common.d.kp (bd_11 h_least_common.d) takesB (pda_cons (pd_var 5) pda_nil) pdk_nil (al_cons al_nil) al_nil (fun ds es h1 h2 => match ds, es, h1, h2 with | [_], [], _, _ => rfl))) (pd_var 2)) pd_int))) (fun _ _ _ _ _ => (qd_lf (pd_var 5))) (sw_true rfl rfl rfl (by decide +kernel)))
    (qds_one (qds_ls (pds_ret (pd_sub1 (pd_var 4) pd_int)))))))), hm⟩
end
section
variable {vn : Bool} {P : Program} {w : World} {K : PySem.W.Frag} {mg : Str → Option Value} {base : Heap} {ca : Str → Addr}
theorem ok_part {f : Addr} {fd : FuncData} {a_common : Addr} {d_common : FuncData} (h_common : FnE vn P w K mg base ca "common" s_common [] ["one", "other"] 1 f_common a_common d_common) {ai_BadPart : Addr} {di_BadPart : FuncData} (hx_BadPart : XcE P w K mg base ca "BadPart" "ZeroDivisionError" [.type "ZeroDivisionError", .type "ArithmeticError", .type "Exception", .type "BaseException", .type "object"] "ZeroDivisionError.__new__" "ZeroDivisionError.__init__" "bad part" ai_BadPart di_BadPart) (F : FunD K "part" "part" (defArgs s_part) (defBody s_part) (defScope s_part) [.int 1] [] f fd) (hm : mg "part" = some (.ref f)) : FnE vn P w K mg base ca "part" s_part [.int 1] ["number", "under"] 3 f_part f fd := by
  have sc := sc_part
  exact ⟨F, fn_mk (k := 2) F sc_part rfl (m := sm_part) (fun cdv A outer s H E hr =>
    (pds_cons (pds_if (pdt_lt (pd_var 1) pd_int) (pds_one (pds_raise0 hx_BadPart.bf hx_BadPart.t hx_BadPart.iC hx_BadPart.tI hx_BadPart.g (hr.mono (by decide)) hx_BadPart.b hx_BadPart.m rfl takesX)) pds_nil)
    (pds_cons (pds_set 2 sc.nd (pd_call h_common.g (hr.mono (by decide)) h_common.m h_common.d.kp (bd_10 h_common.d) takesX (pda_cons (pd_var 0) (pda_cons (pd_var 1) pda_nil)) pdk_nil (al_cons (al_cons al_nil)) al_nil (fun ds es h1 h2 => match ds, es, h1, h2 with | [_, _], [], _, _ => rfl)))
    (pds_cons (pds_aug 0 sc.nd iop_fdivW (k2_I (fun _ _ h => divOk_of h) fun _ _ _ => .int _) (pd_var 2))
    (pds_cons (pds_aug 1 sc.nd iop_fdivW (k2_I (fun _ _ h => divOk_of h) fun _ _ _ => .int _) (pd_var 2))
    (pds_one (pds_ret (pd_tup (pda_cons (pd_var 0) (pda_cons (pd_var 1) pda_nil)))))))))), hm⟩
end
section
variable {vn : Bool} {P : Program} {w : World} {K : PySem.W.Frag} {mg : Str → Option Value} {base : Heap} {ca : Str → Addr}
theorem ok_less {f : Addr} {fd : FuncData} {a_part : Addr} {d_part : FuncData} (h_part : FnE vn P w K mg base ca "part" s_part [.int 1] ["number", "under"] 3 f_part a_part d_part) (F : FunD K "less" "less" (defArgs s_less) (defBody s_less) (defScope s_less) [] [] f fd) (hm : mg "less" = some (.ref f)) : FnE vn P w K mg base ca "less" s_less [] ["one", "other"] 4 f_less f fd := by
  have sc := sc_less
  exact ⟨F, fn_mk (k := 3) F sc_less rfl (m := sm_less) (fun cdv A outer s H E hr =>
    (pds_one (pds_ret (pd_call h_part.g (hr.mono (by decide)) h_part.m h_part.d.kp (bd_18 h_part.d) takesX (pda_cons (pd_sub (pd_mul (pd_sub1 (pd_var 0) pd_int) (pd_sub1 (pd_var 1) pd_int)) (pd_mul (pd_sub1 (pd_var 1) pd_int) (pd_sub1 (pd_var 0) pd_int))) pda_nil) (pdk_cons (pd_mul (pd_sub1 (pd_var 0) pd_int) (pd_sub1 (pd_var 1) pd_int)) pdk_nil) (al_cons al_nil) (al_cons al_nil) (fun ds es h1 h2 => match ds, es, h1, h2 with | [_], [_], _, _ => rfl))))), hm⟩
end
section
variable {vn : Bool} {P : Program} {w : World} {K : PySem.W.Frag} {mg : Str → Option Value} {base : Heap} {ca : Str → Addr}
theorem ok_holes_of {f : Addr} {fd : FuncData} {a_least_common : Addr} {d_least_common : FuncData} (h_least_common : FnE vn P w K mg base ca "least_common" s_least_common [] ["numbers"] 2 f_least_common a_least_common d_least_common) {a_less : Addr} {d_less : FuncData} (h_less : FnE vn P w K mg base ca "less" s_less [] ["one", "other"] 4 f_less a_less d_less) {a_part : Addr} {d_part : FuncData} (h_part : FnE vn P w K mg base ca "part" s_part [.int 1] ["number", "under"] 3 f_part a_part d_part) (hb_range : mg "range" = none) (F : FunD K "holes_of" "holes_of" (defArgs s_holes_of) (defBody s_holes_of) (defScope s_holes_of) [] [] f fd) (hm : mg "holes_of" = some (.ref f)) : FnE vn P w K mg base ca "holes_of" s_holes_of [] ["circle", "left", "rest"] 5 f_holes_of f fd := by
  have sc := sc_holes_of
  exact ⟨F, fn_mk (k := 4) F sc_holes_of rfl (m := sm_holes_of) (fun cdv A outer s H E hr =>
    (pds_cons (pds_set 3 sc.nd (pd_call h_least_common.g (hr.mono (by decide)) h_least_common.m h_least_common.d.kp (bd_11 h_least_common.d) takesX (pda_cons (pd_var 2) pda_nil) pdk_nil (al_cons al_nil) al_nil (fun ds es h1 h2 => match ds, es, h1, h2 with | [_], [], _, _ => rfl)))
    (pds_cons (pds_for (vs := [4]) passesX rfl (pdi_range1 hb_range (pda_cons (pd_var 0) pda_nil)) (pg_name (i := 4) sc.nd rfl (by first | exact Or.inl rfl | exact Or.inr rfl)) gok_name
    (pds_one (pds_if (pdt_eq (hu64 hr) (pd_mod (pd_var 3) (pd_sub1 (pd_call h_less.g (hr.mono (by decide)) h_less.m h_less.d.kp (bd_19 h_less.d) takesX (pda_cons (pd_var 1) (pda_cons (pd_call h_part.g (hr.mono (by decide)) h_part.m h_part.d.kp (bd_18 h_part.d) takesX (pda_cons (pd_var 4) pda_nil) (pdk_cons (pd_var 0) pdk_nil) (al_cons al_nil) (al_cons al_nil) (fun ds es h1 h2 => match ds, es, h1, h2 with | [_], [_], _, _ => rfl)) pda_nil)) pdk_nil (al_cons (al_cons al_nil)) al_nil (fun ds es h1 h2 => match ds, es, h1, h2 with | [_, _], [], _, _ => rfl)) pd_int)) pd_int) (pds_one (pds_ret (pd_var 4))) pds_nil)))
    (pds_one (pds_ret pd_int))))), hm⟩
end
section
variable {vn : Bool} {P : Program} {w : World} {K : PySem.W.Frag} {mg : Str → Option Value} {base : Heap} {ca : Str → Addr}
theorem ok_plan {f : Addr} {fd : FuncData} {a_few_circles : Addr} {d_few_circles : FuncData} (h_few_circles : FnC vn P w K mg base ca "few_circles" s_few_circles [] ["turns", "circles", "count"] 6 F_few_circles a_few_circles d_few_circles) {a_part : Addr} {d_part : FuncData} (h_part : FnE vn P w K mg base ca "part" s_part [.int 1] ["number", "under"] 3 f_part a_part d_part) {a_holes_of : Addr} {d_holes_of : FuncData} (h_holes_of : FnE vn P w K mg base ca "holes_of" s_holes_of [] ["circle", "left", "rest"] 5 f_holes_of a_holes_of d_holes_of) {a_less : Addr} {d_less : FuncData} (h_less : FnE vn P w K mg base ca "less" s_less [] ["one", "other"] 4 f_less a_less d_less) (hb_enumerate : mg "enumerate" = none) (F : FunD K "plan" "plan" (defArgs s_plan) (defBody s_plan) (defScope s_plan) [] [] f fd) (hm : mg "plan" = some (.ref f)) : FnC vn P w K mg base ca "plan" s_plan [] ["turns", "circles", "count"] 7 F_plan f fd := by
  have sc := sc_plan
  exact ⟨F, fn_mkC (k := 6) F sc_plan rfl (m := sm_plan) (fun cdv A outer s H E hr =>
    (qds_cons (qds_set 3 sc.nd (qd_call h_few_circles.g (hr.mono (by decide)) h_few_circles.m h_few_circles.d.kp (bd_17 h_few_circles.d) takesX (qda_cons (qd_lf (pd_var 0)) (qda_cons (qd_lf (pd_var 1)) (qda_cons (qd_lf (pd_var 2)) qda_nil))) qdk_nil (alc_cons (alc_cons (alc_cons alc_nil))) alc_nil (fun ds es h1 h2 => match ds, es, h1, h2 with | [_, _, _], [], _, _ => rfl)))
    (qds_cons (qds_ls (pds_set 4 sc.nd (pd_call h_part.g (hr.mono (by decide)) h_part.m h_part.d.kp (bd_18 h_part.d) takesX (pda_cons (pd_var 0) pda_nil) (pdk_cons (pd_var 2) pdk_nil) (al_cons al_nil) (al_cons al_nil) (fun ds es h1 h2 => match ds, es, h1, h2 with | [_], [_], _, _ => rfl))))
    (qds_cons (qds_ls (pds_setL 5 sc.nd pda_nil))
    (qds_cons (qds_forG (vs := [6, 7]) passesX rfl (qdg_enum hb_enumerate (qda_cons (qd_lf (pd_var 3)) qda_nil)) (pg_tup rfl (pgs_cons (pg_name (i := 6) sc.nd rfl (by first | exact Or.inl rfl | exact Or.inr rfl)) (pgs_cons (pg_name (i := 7) sc.nd rfl (by first | exact Or.inl rfl | exact Or.inr rfl)) pgs_nil))) (gok_tup (goks_cons gok_name (goks_cons gok_name goks_nil)))
    (qds_cons (qds_ls (pds_set 8 sc.nd (pd_call h_holes_of.g (hr.mono (by decide)) h_holes_of.m h_holes_of.d.kp (bd_20 h_holes_of.d) takesX (pda_cons (pd_var 7) (pda_cons (pd_var 4) (pda_cons (pd_sliceL (pd_var 3) (pdo_some (pd_add (pd_var 6) pd_int)) pdo_none) pda_nil))) pdk_nil (al_cons (al_cons (al_cons al_nil))) al_nil (fun ds es h1 h2 => match ds, es, h1, h2 with | [_, _, _], [], _, _ => rfl))))
    (qds_cons (qds_ls (pds_set 4 sc.nd (pd_call h_less.g (hr.mono (by decide)) h_less.m h_less.d.kp (bd_19 h_less.d) takesX (pda_cons (pd_var 4) (pda_cons (pd_call h_part.g (hr.mono (by decide)) h_part.m h_part.d.kp (bd_18 h_part.d) takesX (pda_cons (pd_var 8) pda_nil) (pdk_cons (pd_var 7) pdk_nil) (al_cons al_nil) (al_cons al_nil) (fun ds es h1 h2 => match ds, es, h1, h2 with | [_], [_], _, _ => rfl)) pda_nil)) pdk_nil (al_cons (al_cons al_nil)) al_nil (fun ds es h1 h2 => match ds, es, h1, h2 with | [_, _], [], _, _ => rfl))))
    (qds_one (qds_ls (pds_app 5 (pd_tup (pda_cons (pd_var 7) (pda_cons (pd_var 8) pda_nil)))))))))
    (qds_mfrz 5 (qds_one (qds_ls (pds_ret (pd_tup (pda_cons (pd_sub1 (pd_var 4) pd_int) (pda_cons (pd_var 5) pda_nil)))))))))))), hm⟩
end
section
variable {vn : Bool} {P : Program} {w : World} {K : PySem.W.Frag} {mg : Str → Option Value} {base : Heap} {ca : Str → Addr}
theorem ok_u_law_told {f : Addr} {fd : FuncData} {a_few_circles : Addr} {d_few_circles : FuncData} (h_few_circles : FnC vn P w K mg base ca "few_circles" s_few_circles [] ["turns", "circles", "count"] 6 F_few_circles a_few_circles d_few_circles) {a_plan : Addr} {d_plan : FuncData} (h_plan : FnC vn P w K mg base ca "plan" s_plan [] ["turns", "circles", "count"] 7 F_plan a_plan d_plan) (hb_isinstance : mg "isinstance" = none) (hb_ArithmeticError : mg "ArithmeticError" = none) {ai_Barred : Addr} {di_Barred : FuncData} (hx_Barred : XaE P w K mg base ca "Barred" "ArithmeticError" [.type "ArithmeticError", .type "Exception", .type "BaseException", .type "object"] "ArithmeticError.__new__" "ArithmeticError.__init__" ["self", "prime", "power"] [("word", .s "barred"), ("prime", .p 0), ("power", .p 1)] 2 ai_Barred di_Barred) (hr_Barred : XcR K (ca "Barred")) (hn_Barred_word : PySem.W.findIn K (.ref (ca "Barred")) "word" = some none) (hn_Barred_prime : PySem.W.findIn K (.ref (ca "Barred")) "prime" = some none) (hn_Barred_power : PySem.W.findIn K (.ref (ca "Barred")) "power" = some none) (hk_Barred_ArithmeticError : PySem.W.kitOne K (.ref (ca "Barred")) (.type "ArithmeticError") = some true) (hy_u_law_told_0 : ∀ c' ∈ (["Barred", "BadCount", "BadPart"] : List Str), ∀ k ∈ (["Barred"] : List Str), PySem.W.exmOne K (.ref (ca c')) (.ref (ca k)) = some (c' == k)) (F : FunD K "_law_told" "_law_told" (defArgs s_u_law_told) (defBody s_u_law_told) (defScope s_u_law_told) [] [] f fd) (hm : mg "_law_told" = some (.ref f)) : FnC vn P w K mg base ca "_law_told" s_u_law_told [] ["_law_wheel_here", "_law_plates", "_law_strokes", "_law_few"] 8 F_u_law_told f fd := by
  have sc := sc_u_law_told
  exact ⟨F, fn_mkC (k := 7) F sc_u_law_told rfl (m := sm_u_law_told) (fun cdv A outer s H E hr =>
    (qds_one (qds_tryK (rs := ["Barred", "BadCount", "BadPart"]) (ks := ["Barred"]) (cl := cl_u_law_told_0) rfl rfl sc.nd takesX rfl hy_u_law_told_0 (fun W pn xe tk po => (qds_cons (qds_if (qdt_lf (pdt_val (pd_var 3))) (qds_one (qds_ret (qd_newCall (qd_call h_few_circles.g (hr.mono (by decide)) h_few_circles.m h_few_circles.d.kp (bd_17 h_few_circles.d) tk (qda_cons (qd_lf (pd_var 0)) (qda_cons (qd_lf (pd_var 1)) (qda_cons (qd_lf (pd_var 2)) qda_nil))) qdk_nil (alc_cons (alc_cons (alc_cons alc_nil))) alc_nil (fun ds es h1 h2 => match ds, es, h1, h2 with | [_, _, _], [], _, _ => rfl))))) qds_nil)
    (qds_one (qds_ret (qd_newCall (qd_call0 h_plan.g (hr.mono (by decide)) h_plan.m h_plan.d.kp (bd_21 h_plan.d) tk (qdk_cons (qd_lf (pd_var 2)) (qdk_cons (qd_lf (pd_var 1)) (qdk_cons (qd_lf (pd_var 0)) qdk_nil))) (alc_cons (alc_cons (alc_cons alc_nil))) (fun es h2 => match es, h2 with | [_, _, _], _ => rfl)))))))
    (.as_ (.one ⟨rfl, by decide, .inl hx_Barred.m⟩) (List.forall_mem_cons.mpr ⟨(fun a oe cls d pn hz hf => phs_hls (phs_ret (ph_tup (pha_cons (ph_fld (X := (cxOf (CXv vn P w) P w K mg base ["_law_wheel_here", "_law_plates", "_law_strokes", "_law_few", "e"] "_law_told" (defScope s_u_law_told) f cdv A outer s H E)) hr_Barred.xf hn_Barred_word hz hf) (pha_cons (ph_fld (X := (cxOf (CXv vn P w) P w K mg base ["_law_wheel_here", "_law_plates", "_law_strokes", "_law_few", "e"] "_law_told" (defScope s_u_law_told) f cdv A outer s H E)) hr_Barred.xf hn_Barred_prime hz hf) (pha_cons (ph_fld (X := (cxOf (CXv vn P w) P w K mg base ["_law_wheel_here", "_law_plates", "_law_strokes", "_law_few", "e"] "_law_told" (defScope s_u_law_told) f cdv A outer s H E)) hr_Barred.xf hn_Barred_power hz hf) (pha_cons (ph_isi (X := (cxOf (CXv vn P w) P w K mg base ["_law_wheel_here", "_law_plates", "_law_strokes", "_law_few", "e"] "_law_told" (defScope s_u_law_told) f cdv A outer s H E)) hr_Barred.ec hk_Barred_ArithmeticError hz hf hb_isinstance hb_ArithmeticError (by decide +kernel)) pha_nil))))))), (fun _ h => nomatch h)⟩) .nil)))), hm⟩
end
section
variable {vn : Bool} {P : Program} {w : World} {K : PySem.W.Frag} {mg : Str → Option Value} {base : Heap} {ca : Str → Addr}
theorem ok_u_law_same {f : Addr} {fd : FuncData} (hb_isinstance : mg "isinstance" = none) (hb_str : mg "str" = none) (hb_int : mg "int" = none) (hb_all : mg "all" = none) (hb_list : mg "list" = none) (hb_tuple : mg "tuple" = none) (hb_len : mg "len" = none) (hb_bool : mg "bool" = none) (hb_range : mg "range" = none) (F : FunD K "_law_same" "_law_same" (defArgs s_u_law_same) (defBody s_u_law_same) (defScope s_u_law_same) [] [] f fd) (hm : mg "_law_same" = some (.ref f)) : ∀ n : Nat, FnE vn P w K mg base ca "_law_same" s_u_law_same [] ["_law_found", "_law_due"] (1 + n) (f_u_law_same n) f fd := by
  intro n
  induction n with
  | zero => exact ⟨F, fn_bad, hm⟩
  | succ n ih =>
    have sc := sc_u_law_same
    exact ⟨F, fn_mk (k := 1 + n) F sc_u_law_same rfl (m := sm_u_law_same (f_u_law_same n)) (fun cdv A outer s H E hr =>
    (pds_cons (pds_if (pdt_isN (pd_var 1) pd_non) (pds_one (pds_ret (pd_isN (pd_var 0) pd_non))) pds_nil)
    (pds_cons (pds_if (pdt_val (pd_isi .str hb_isinstance hb_str (by decide +kernel) (pd_var 1))) (pds_one (pds_ret (pd_and (pd_isi .str hb_isinstance hb_str (by decide +kernel) (pd_var 0)) (pd_one (pd_eq (hu64 hr) (pd_var 0) (pd_var 1)))))) pds_nil)
    (pds_cons (pds_if (pdt_val (pd_isi .int hb_isinstance hb_int (by decide +kernel) (pd_var 1))) (pds_one (pds_ret (pd_and (pd_isi .int hb_isinstance hb_int (by decide +kernel) (pd_var 0)) (pd_and (pd_eq (hu64 hr) (pd_isi .bool hb_isinstance hb_bool (by decide +kernel) (pd_var 0)) (pd_isi .bool hb_isinstance hb_bool (by decide +kernel) (pd_var 1))) (pd_one (pd_eq (hu64 hr) (pd_var 0) (pd_var 1))))))) pds_nil)
    (pds_cons (pds_if (pdt_w (pdw_or (pdt_ne (hu64 hr) (pd_isi .list hb_isinstance hb_list (by decide +kernel) (pd_var 1)) (pd_isi .list hb_isinstance hb_list (by decide +kernel) (pd_var 0))) (pdw_or1 (pdt_ne (hu64 hr) (pd_isi .tuple hb_isinstance hb_tuple (by decide +kernel) (pd_var 1)) (pd_isi .tuple hb_isinstance hb_tuple (by decide +kernel) (pd_var 0)))))) (pds_one (pds_ret pd_bl)) pds_nil)
    (pds_one (pds_ret (pd_and (pd_eq (hu64 hr) (pd_len hb_len (pda_cons (pd_var 0) pda_nil)) (pd_len hb_len (pda_cons (pd_var 1) pda_nil))) (pd_one (pd_all rfl hb_all (pda_cons (pd_lc rfl sc.nd (own := [("_law_k", 2)]) (pdi_range1 hb_range (pda_cons (pd_len hb_len (pda_cons (pd_var 1) pda_nil)) pda_nil)) (blkOk_by (N := ["_law_found", "_law_due", "_law_k"]) (sc := defScope s_u_law_same) (own := [("_law_k", 2)]) (by decide +kernel)) (gok_name) (fun _ _ _ _ _ => (pg_name (i := 2) sc.nd rfl (by first | exact Or.inl rfl | exact Or.inr rfl))) (fun _ _ _ _ _ => pdts_nil) (fun _ _ _ _ _ => (pd_call ih.g (hr.mono (by omega)) ih.m ih.d.kp (bd_23 ih.d) takesB (pda_cons (pd_sub1 (pd_var 0) (pd_var 2)) (pda_cons (pd_sub1 (pd_var 1) (pd_var 2)) pda_nil)) pdk_nil (al_cons (al_cons al_nil)) al_nil (fun ds es h1 h2 => match ds, es, h1, h2 with | [_, _], [], _, _ => rfl)))) pda_nil))))))))))), hm⟩
end
section
variable {vn : Bool} {P : Program} {w : World} {K : PySem.W.Frag} {mg : Str → Option Value} {base : Heap} {ca : Str → Addr}
theorem ok_u_law_choices {f : Addr} {fd : FuncData} (hb_sorted : mg "sorted" = none) (hb_len : mg "len" = none) (F : FunD K "_law_choices" "_law_choices" (defArgs s_u_law_choices) (defBody s_u_law_choices) (defScope s_u_law_choices) [] [] f fd) (hm : mg "_law_choices" = some (.ref f)) : FnC vn P w K mg base ca "_law_choices" s_u_law_choices [] ["_law_row"] 1 F_u_law_choices f fd := by
  have sc := sc_u_law_choices
  exact ⟨F, fn_mkC (k := 0) F sc_u_law_choices rfl (m := sm_u_law_choices) (fun cdv A outer s H E hr =>
    (qds_cons (qds_ls (pds_set 1 sc.nd (pd_lst (pda_cons (pd_lst pda_nil) pda_nil))))
    (qds_cons (qds_for (vs := [2]) passesX rfl (qdi_zIt (qd_sortC hb_sorted (qda_cons (qd_lf (pd_var 0)) qda_nil))) (pg_name (i := 2) sc.nd rfl (by first | exact Or.inl rfl | exact Or.inr rfl)) gok_name
    (qds_one (qds_ls (pds_set 1 sc.nd (pd_cat (pd_var 1) (pd_lc rfl sc.nd (own := [("_law_some", 3)]) (pdi_list (pd_var 1)) (blkOk_by (N := ["_law_row", "_law_found", "_law_one", "_law_some", "_law_length"]) (sc := defScope s_u_law_choices) (own := [("_law_some", 3)]) (by decide +kernel)) (gok_name) (fun _ _ _ _ _ => (pg_name (i := 3) sc.nd rfl (by first | exact Or.inl rfl | exact Or.inr rfl))) (fun _ _ _ _ _ => pdts_nil) (fun _ _ _ _ _ => (pd_cat (pd_var 3) (pd_lst (pda_cons (pd_var 2) pda_nil))))))))))
    (qds_one (qds_ls (pds_ret (pd_lc rfl sc.nd (own := [("_law_length", 4), ("_law_some", 3)]) (pdi_list (pd_sortP (hr.mono (by decide)) hb_sorted (pda_cons (pd_lc rfl sc.nd (own := [("_law_some", 3)]) (pdi_list (pd_var 1)) (blkOk_by (N := ["_law_row", "_law_found", "_law_one", "_law_some", "_law_length"]) (sc := defScope s_u_law_choices) (own := [("_law_some", 3)]) (by decide +kernel)) (gok_name) (fun _ _ _ _ _ => (pg_name (i := 3) sc.nd rfl (by first | exact Or.inl rfl | exact Or.inr rfl))) (fun _ _ _ _ _ => pdts_nil) (fun _ _ _ _ _ => (pd_tup (pda_cons (pd_len hb_len (pda_cons (pd_var 3) pda_nil)) (pda_cons (pd_var 3) pda_nil))))) pda_nil))) (blkOk_by (N := ["_law_row", "_law_found", "_law_one", "_law_some", "_law_length"]) (sc := defScope s_u_law_choices) (own := [("_law_length", 4), ("_law_some", 3)]) (by decide +kernel)) ((gok_tup (goks_cons gok_name (goks_cons gok_name goks_nil)))) (fun _ _ _ _ _ => (pg_tup rfl (pgs_cons (pg_name (i := 4) sc.nd rfl (by first | exact Or.inl rfl | exact Or.inr rfl)) (pgs_cons (pg_name (i := 3) sc.nd rfl (by first | exact Or.inl rfl | exact Or.inr rfl)) pgs_nil)))) (fun _ _ _ _ _ => pdts_nil) (fun _ _ _ _ _ => (pd_var 3))))))))), hm⟩
end
section
variable {vn : Bool} {P : Program} {w : World} {K : PySem.W.Frag} {mg : Str → Option Value} {base : Heap} {ca : Str → Addr}
theorem ok_u_law_low {f : Addr} {fd : FuncData} {a_u_law_gcd : Addr} {d_u_law_gcd : FuncData} (h_u_law_gcd : FnE vn P w K mg base ca "_law_gcd" s_u_law_gcd [] ["_law_first", "_law_second"] 1 f_u_law_gcd a_u_law_gcd d_u_law_gcd) (F : FunD K "_law_low" "_law_low" (defArgs s_u_law_low) (defBody s_u_law_low) (defScope s_u_law_low) [] [] f fd) (hm : mg "_law_low" = some (.ref f)) : FnE vn P w K mg base ca "_law_low" s_u_law_low [] ["_law_up", "_law_down"] 2 f_u_law_low f fd := by
  have sc := sc_u_law_low
  exact ⟨F, fn_mk (k := 1) F sc_u_law_low rfl (m := sm_u_law_low) (fun cdv A outer s H E hr =>
    (pds_cons (pds_set 2 sc.nd (pd_call h_u_law_gcd.g (hr.mono (by decide)) h_u_law_gcd.m h_u_law_gcd.d.kp (bd_5 h_u_law_gcd.d) takesX (pda_cons (pd_var 0) (pda_cons (pd_var 1) pda_nil)) pdk_nil (al_cons (al_cons al_nil)) al_nil (fun ds es h1 h2 => match ds, es, h1, h2 with | [_, _], [], _, _ => rfl)))
    (pds_one (pds_ret (pd_tup (pda_cons (pd_div (pd_var 0) (pd_var 2)) (pda_cons (pd_div (pd_var 1) (pd_var 2)) pda_nil))))))), hm⟩
end
section
variable {vn : Bool} {P : Program} {w : World} {K : PySem.W.Frag} {mg : Str → Option Value} {base : Heap} {ca : Str → Addr}
theorem ok_u_law_plus {f : Addr} {fd : FuncData} {a_u_law_low : Addr} {d_u_law_low : FuncData} (h_u_law_low : FnE vn P w K mg base ca "_law_low" s_u_law_low [] ["_law_up", "_law_down"] 2 f_u_law_low a_u_law_low d_u_law_low) (F : FunD K "_law_plus" "_law_plus" (defArgs s_u_law_plus) (defBody s_u_law_plus) (defScope s_u_law_plus) [] [] f fd) (hm : mg "_law_plus" = some (.ref f)) : FnE vn P w K mg base ca "_law_plus" s_u_law_plus [] ["_law_one", "_law_other"] 3 f_u_law_plus f fd := by
  have sc := sc_u_law_plus
  exact ⟨F, fn_mk (k := 2) F sc_u_law_plus rfl (m := sm_u_law_plus) (fun cdv A outer s H E hr =>
    (pds_one (pds_ret (pd_call h_u_law_low.g (hr.mono (by decide)) h_u_law_low.m h_u_law_low.d.kp (bd_25 h_u_law_low.d) takesX (pda_cons (pd_add (pd_mul (pd_sub1 (pd_var 0) pd_int) (pd_sub1 (pd_var 1) pd_int)) (pd_mul (pd_sub1 (pd_var 1) pd_int) (pd_sub1 (pd_var 0) pd_int))) (pda_cons (pd_mul (pd_sub1 (pd_var 0) pd_int) (pd_sub1 (pd_var 1) pd_int)) pda_nil)) pdk_nil (al_cons (al_cons al_nil)) al_nil (fun ds es h1 h2 => match ds, es, h1, h2 with | [_, _], [], _, _ => rfl))))), hm⟩
end
section
variable {vn : Bool} {P : Program} {w : World} {K : PySem.W.Frag} {mg : Str → Option Value} {base : Heap} {ca : Str → Addr}
theorem ok_u_law_walked {f : Addr} {fd : FuncData} {a_u_law_plus : Addr} {d_u_law_plus : FuncData} (h_u_law_plus : FnE vn P w K mg base ca "_law_plus" s_u_law_plus [] ["_law_one", "_law_other"] 3 f_u_law_plus a_u_law_plus d_u_law_plus) {a_u_law_low : Addr} {d_u_law_low : FuncData} (h_u_law_low : FnE vn P w K mg base ca "_law_low" s_u_law_low [] ["_law_up", "_law_down"] 2 f_u_law_low a_u_law_low d_u_law_low) (hb_isinstance : mg "isinstance" = none) (hb_tuple : mg "tuple" = none) (hb_len : mg "len" = none) (hb_list : mg "list" = none) (F : FunD K "_law_walked" "_law_walked" (defArgs s_u_law_walked) (defBody s_u_law_walked) (defScope s_u_law_walked) [] [] f fd) (hm : mg "_law_walked" = some (.ref f)) : FnE vn P w K mg base ca "_law_walked" s_u_law_walked [] ["_law_found", "_law_few", "_law_wheel_here", "_law_strokes"] 4 f_u_law_walked f fd := by
  have sc := sc_u_law_walked
  exact ⟨F, fn_mk (k := 3) F sc_u_law_walked rfl (m := sm_u_law_walked) (fun cdv A outer s H E hr =>
    (pds_cons (pds_if (pdt_w (pdw_or (pdt_not (pdt_val (pd_isi .tuple hb_isinstance hb_tuple (by decide +kernel) (pd_var 0)))) (pdw_or (pdt_ne (hu64 hr) (pd_len hb_len (pda_cons (pd_var 0) pda_nil)) pd_int) (pdw_or1 (pdt_not (pdt_val (pd_isi .list hb_isinstance hb_list (by decide +kernel) (pd_sub1 (pd_var 0) pd_int)))))))) (pds_one (pds_ret pd_bl)) pds_nil)
    (pds_cons (pds_set 4 sc.nd (pd_tup (pda_cons (pd_sub1 (pd_var 0) pd_int) (pda_cons pd_int pda_nil))))
    (pds_cons (pds_for (vs := [5, 6]) passesX rfl (pdi_list (pd_sub1 (pd_var 0) pd_int)) (pg_tup rfl (pgs_cons (pg_name (i := 5) sc.nd rfl (by first | exact Or.inl rfl | exact Or.inr rfl)) (pgs_cons (pg_name (i := 6) sc.nd rfl (by first | exact Or.inl rfl | exact Or.inr rfl)) pgs_nil))) (gok_tup (goks_cons gok_name (goks_cons gok_name goks_nil)))
    (pds_cons (pds_if (pdt_not (pdt_chain op_lt op_lt k2_bl k2_bl pd_int (pd_var 6) (pd_var 5))) (pds_one (pds_ret pd_bl)) pds_nil)
    (pds_one (pds_set 4 sc.nd (pd_call h_u_law_plus.g (hr.mono (by decide)) h_u_law_plus.m h_u_law_plus.d.kp (bd_26 h_u_law_plus.d) takesX (pda_cons (pd_var 4) (pda_cons (pd_call h_u_law_low.g (hr.mono (by decide)) h_u_law_low.m h_u_law_low.d.kp (bd_25 h_u_law_low.d) takesX (pda_cons (pd_var 6) (pda_cons (pd_var 5) pda_nil)) pdk_nil (al_cons (al_cons al_nil)) al_nil (fun ds es h1 h2 => match ds, es, h1, h2 with | [_, _], [], _, _ => rfl)) pda_nil)) pdk_nil (al_cons (al_cons al_nil)) al_nil (fun ds es h1 h2 => match ds, es, h1, h2 with | [_, _], [], _, _ => rfl))))))
    (pds_one (pds_ret (pd_and (pd_eq (hu64 hr) (pd_lc rfl sc.nd (own := [("_law_move", 7)]) (pdi_list (pd_sub1 (pd_var 0) pd_int)) (blkOk_by (N := ["_law_found", "_law_few", "_law_wheel_here", "_law_strokes", "_law_come", "_law_circle", "_law_holes", "_law_move"]) (sc := defScope s_u_law_walked) (own := [("_law_move", 7)]) (by decide +kernel)) (gok_name) (fun _ _ _ _ _ => (pg_name (i := 7) sc.nd rfl (by first | exact Or.inl rfl | exact Or.inr rfl))) (fun _ _ _ _ _ => pdts_nil) (fun _ _ _ _ _ => (pd_sub1 (pd_var 7) pd_int))) (pd_var 1)) (pd_one (pd_eq (hu64 hr) (pd_var 4) (pd_call h_u_law_low.g (hr.mono (by decide)) h_u_law_low.m h_u_law_low.d.kp (bd_25 h_u_law_low.d) takesX (pda_cons (pd_var 2) (pda_cons (pd_var 3) pda_nil)) pdk_nil (al_cons (al_cons al_nil)) al_nil (fun ds es h1 h2 => match ds, es, h1, h2 with | [_, _], [], _, _ => rfl))))))))))), hm⟩
end
section
variable {vn : Bool} {P : Program} {w : World} {K : PySem.W.Frag} {mg : Str → Option Value} {base : Heap} {ca : Str → Addr}
theorem ok_law {f : Addr} {fd : FuncData} {a_u_law_wheel : Addr} {d_u_law_wheel : FuncData} (h_u_law_wheel : FnC vn P w K mg base ca "_law_wheel" s_u_law_wheel [] ["_law_cell"] 3 F_u_law_wheel a_u_law_wheel d_u_law_wheel) {a_u_law_side : Addr} {d_u_law_side : FuncData} (h_u_law_side : FnE vn P w K mg base ca "_law_side" s_u_law_side [] ["_law_cell", "_law_prime", "_law_many"] 2 f_u_law_side a_u_law_side d_u_law_side) {a_u_law_draws : Addr} {d_u_law_draws : FuncData} (h_u_law_draws : FnE vn P w K mg base ca "_law_draws" s_u_law_draws [] ["_law_cell", "_law_sizes"] 1 f_u_law_draws a_u_law_draws d_u_law_draws) {a_u_law_least : Addr} {d_u_law_least : FuncData} (h_u_law_least : FnE vn P w K mg base ca "_law_least" s_u_law_least [] ["_law_numbers"] 2 f_u_law_least a_u_law_least d_u_law_least) {a_u_law_gcd : Addr} {d_u_law_gcd : FuncData} (h_u_law_gcd : FnE vn P w K mg base ca "_law_gcd" s_u_law_gcd [] ["_law_first", "_law_second"] 1 f_u_law_gcd a_u_law_gcd d_u_law_gcd) {a_u_law_bar : Addr} {d_u_law_bar : FuncData} (h_u_law_bar : FnE vn P w K mg base ca "_law_bar" s_u_law_bar [] ["_law_wheel_here", "_law_plates", "_law_strokes"] 3 f_u_law_bar a_u_law_bar d_u_law_bar) {a_u_law_told : Addr} {d_u_law_told : FuncData} (h_u_law_told : FnC vn P w K mg base ca "_law_told" s_u_law_told [] ["_law_wheel_here", "_law_plates", "_law_strokes", "_law_few"] 8 F_u_law_told a_u_law_told d_u_law_told) {a_u_law_same : Addr} {d_u_law_same : FuncData} (h_u_law_same : FnE vn P w K mg base ca "_law_same" s_u_law_same [] ["_law_found", "_law_due"] 9 (f_u_law_same 8) a_u_law_same d_u_law_same) {a_u_law_choices : Addr} {d_u_law_choices : FuncData} (h_u_law_choices : FnC vn P w K mg base ca "_law_choices" s_u_law_choices [] ["_law_row"] 1 F_u_law_choices a_u_law_choices d_u_law_choices) {a_u_law_walked : Addr} {d_u_law_walked : FuncData} (h_u_law_walked : FnE vn P w K mg base ca "_law_walked" s_u_law_walked [] ["_law_found", "_law_few", "_law_wheel_here", "_law_strokes"] 4 f_u_law_walked a_u_law_walked d_u_law_walked) (hb_min : mg "min" = none) (hb_range : mg "range" = none) (hb_len : mg "len" = none) (F : FunD K "law" "law" (defArgs s_law) (defBody s_law) (defScope s_law) [] [] f fd) (hm : mg "law" = some (.ref f)) : FnC vn P w K mg base ca "law" s_law [] ["_law_script"] 10 F_law f fd := by
  have sc := sc_law
  exact ⟨F, fn_mkC (k := 9) F sc_law rfl (m := sm_law) (fun cdv A outer s H E hr =>
    (qds_cons (qds_ls (pds_set 0 sc.nd (pd_sliceL (pd_var 0) pdo_none (pdo_some pd_int))))
    (qds_cons (qds_for (vs := [1]) passesX rfl (qdi_lf (pdi_list (pd_cat (pd_sliceL (pd_var 0) pdo_none (pdo_some pd_int)) (pd_lst (pda_cons pd_int (pda_cons pd_int pda_nil)))))) (pg_name (i := 1) sc.nd rfl (by first | exact Or.inl rfl | exact Or.inr rfl)) gok_name
    (qds_cons (qds_asg (vs := [2, 3]) (qd_call h_u_law_wheel.g (hr.mono (by decide)) h_u_law_wheel.m h_u_law_wheel.d.kp (bd_3 h_u_law_wheel.d) takesX (qda_cons (qd_lf (pd_var 1)) qda_nil) qdk_nil (alc_cons alc_nil) alc_nil (fun ds es h1 h2 => match ds, es, h1, h2 with | [_], [], _, _ => rfl)) (pg_tup rfl (pgs_cons (pg_name (i := 2) sc.nd rfl (by first | exact Or.inl rfl | exact Or.inr rfl)) (pgs_cons (pg_name (i := 3) sc.nd rfl (by first | exact Or.inl rfl | exact Or.inr rfl)) pgs_nil))) (gok_tup (goks_cons gok_name (goks_cons gok_name goks_nil))))
    (qds_cons (qds_ls (pds_set 4 sc.nd (pd_cat (pd_lst (pda_cons (pd_call h_u_law_side.g (hr.mono (by decide)) h_u_law_side.m h_u_law_side.d.kp (bd_4 h_u_law_side.d) takesX (pda_cons (pd_var 1) (pda_cons pd_int (pda_cons pd_int pda_nil))) pdk_nil (al_cons (al_cons (al_cons al_nil))) al_nil (fun ds es h1 h2 => match ds, es, h1, h2 with | [_, _, _], [], _, _ => rfl)) pda_nil)) (pd_call h_u_law_draws.g (hr.mono (by decide)) h_u_law_draws.m h_u_law_draws.d.kp (bd_0 h_u_law_draws.d) takesX (pda_cons (pd_add (pd_var 1) pd_int) (pda_cons (pd_lst (pda_cons pd_int (pda_cons pd_int (pda_cons pd_int pda_nil)))) pda_nil)) pdk_nil (al_cons (al_cons al_nil)) al_nil (fun ds es h1 h2 => match ds, es, h1, h2 with | [_, _], [], _, _ => rfl)))))
    (qds_cons (qds_ls (pds_setLc 5 rfl sc.nd (own := [("_law_k", 6)]) (pdi_range1 hb_range (pda_cons pd_int pda_nil)) (blkOk_by (N := ["_law_script", "_law_cell", "_law_wheel_here", "_law_plates", "_law_drawn", "_law_bits", "_law_k", "_law_some", "_law_whole", "_law_strokes", "_law_wrong", "_law_turn", "_law_found", "_law_few", "_law_one"]) (sc := defScope s_law) (own := [("_law_k", 6)]) (by decide +kernel)) (gok_name) (fun _ _ _ _ _ => (pg_name (i := 6) sc.nd rfl (by first | exact Or.inl rfl | exact Or.inr rfl))) (fun _ _ _ _ _ => pdts_one (pdt_eq (hu64 hr) (pd_mod (pd_add (pd_sub1 (pd_var 4) pd_int) (pd_mul (pd_var 6) pd_int)) pd_int) pd_int)) (fun _ _ _ _ _ => (pd_var 6)) (sw_true rfl rfl rfl (by decide +kernel))))
    (qds_cons (Pd.qds_setLc 7 rfl sc.nd (own := [("_law_k", 6)]) (qdi_lf (pdi_list (pd_var 5))) (blkOk_by (N := ["_law_script", "_law_cell", "_law_wheel_here", "_law_plates", "_law_drawn", "_law_bits", "_law_k", "_law_some", "_law_whole", "_law_strokes", "_law_wrong", "_law_turn", "_law_found", "_law_few", "_law_one"]) (sc := defScope s_law) (own := [("_law_k", 6)]) (by decide +kernel)) (gok_name) (fun _ _ _ _ _ => (pg_name (i := 6) sc.nd rfl (by first | exact Or.inl rfl | exact Or.inr rfl))) (fun _ _ _ _ _ => qdts_one (qdt_cmp op_lt (k2_I0 fun _ _ _ => .bl _) (qd_lf (pd_var 6)) (qd_len hb_len (qda_cons (qd_lf (pd_var 3)) qda_nil)))) (fun _ _ _ _ _ => (qd_sub1 (qd_lf (pd_var 3)) (qd_lf (pd_var 6)))) (sw_true rfl rfl rfl (by decide +kernel)))
    (qds_cons (qds_ls (pds_set 8 sc.nd (pd_mul (pd_var 2) (pd_call h_u_law_least.g (hr.mono (by decide)) h_u_law_least.m h_u_law_least.d.kp (bd_6 h_u_law_least.d) takesX (pda_cons (pd_var 7) pda_nil) pdk_nil (al_cons al_nil) al_nil (fun ds es h1 h2 => match ds, es, h1, h2 with | [_], [], _, _ => rfl)))))
    (qds_cons (qds_ls (pds_set 9 sc.nd (pd_add pd_int (pd_sub1 (pd_var 4) pd_int))))
    (qds_cons (qds_ls (pds_if (pdt_gt (pd_sub1 (pd_var 4) pd_int) pd_int) (pds_one (pds_set 9 sc.nd (pd_call h_u_law_gcd.g (hr.mono (by decide)) h_u_law_gcd.m h_u_law_gcd.d.kp (bd_5 h_u_law_gcd.d) takesX (pda_cons (pd_var 8) (pda_cons (pd_mul (pd_sub1 (pd_lst (pda_cons pd_int (pda_cons pd_int (pda_cons pd_int pda_nil)))) (pd_mod (pd_sub1 (pd_var 4) pd_int) pd_int)) (pd_add pd_int (pd_sub1 (pd_var 4) pd_int))) pda_nil)) pdk_nil (al_cons (al_cons al_nil)) al_nil (fun ds es h1 h2 => match ds, es, h1, h2 with | [_, _], [], _, _ => rfl)))) pds_nil))
    (qds_cons (qds_ls (pds_set 9 sc.nd (pd_min2 rfl hb_min (pda_cons (pd_var 9) (pda_cons pd_int pda_nil)))))
    (qds_cons (qds_set 10 sc.nd (qd_call (fn_bor h_u_law_bar.g) (hr.mono (by decide)) h_u_law_bar.m h_u_law_bar.d.kp (bd_7 h_u_law_bar.d) takesX (qda_cons (qd_lf (pd_var 2)) (qda_cons (qd_lf (pd_var 3)) (qda_cons (qd_lf (pd_var 9)) qda_nil))) qdk_nil (alc_cons (alc_cons (alc_cons alc_nil))) alc_nil (fun ds es h1 h2 => match ds, es, h1, h2 with | [_, _, _], [], _, _ => rfl)))
    (qds_one (qds_for (vs := [11]) passesX rfl (qdi_lf (pdi_range1 hb_range (pda_cons pd_int pda_nil))) (pg_name (i := 11) sc.nd rfl (by first | exact Or.inl rfl | exact Or.inr rfl)) gok_name
    (qds_cons (qds_set 12 sc.nd (qd_lst (qda_cons (qd_call h_u_law_told.g (hr.mono (by decide)) h_u_law_told.m h_u_law_told.d.kp (bd_22 h_u_law_told.d) takesX (qda_cons (qd_lf (pd_var 2)) (qda_cons (qd_lf (pd_var 3)) (qda_cons (qd_lf (pd_var 9)) (qda_cons (qd_lf pd_bl) qda_nil)))) qdk_nil (alc_cons (alc_cons (alc_cons (alc_cons alc_nil)))) alc_nil (fun ds es h1 h2 => match ds, es, h1, h2 with | [_, _, _, _], [], _, _ => rfl)) (qda_cons (qd_call h_u_law_told.g (hr.mono (by decide)) h_u_law_told.m h_u_law_told.d.kp (bd_22 h_u_law_told.d) takesX (qda_cons (qd_lf (pd_var 2)) (qda_cons (qd_lf (pd_var 3)) (qda_cons (qd_lf (pd_var 9)) (qda_cons (qd_lf pd_bl) qda_nil)))) qdk_nil (alc_cons (alc_cons (alc_cons (alc_cons alc_nil)))) alc_nil (fun ds es h1 h2 => match ds, es, h1, h2 with | [_, _, _, _], [], _, _ => rfl)) qda_nil))))
    (qds_cons (qds_ls (pds_if (pdt_notN (pd_var 10) pd_non) (pds_cons (pds_if (pdt_not (pdt_val (pd_call h_u_law_same.g (hr.mono (by decide)) h_u_law_same.m h_u_law_same.d.kp (bd_23 h_u_law_same.d) takesX (pda_cons (pd_var 12) (pda_cons (pd_rep (pda_cons (pd_tup (pda_cons pd_str (pda_cons (pd_sub1 (pd_var 10) pd_int) (pda_cons (pd_sub1 (pd_var 10) pd_int) (pda_cons pd_bl pda_nil))))) pda_nil) pd_int) pda_nil)) pdk_nil (al_cons (al_cons al_nil)) al_nil (fun ds es h1 h2 => match ds, es, h1, h2 with | [_, _], [], _, _ => rfl)))) (pds_one (pds_ret pd_bl)) pds_nil)
    (pds_one pds_continue)) pds_nil))
    (qds_cons (qds_set 13 sc.nd (qd_sub1 (qd_lc rfl sc.nd (own := [("_law_one", 14)]) (qdi_zIt (qd_call h_u_law_choices.g (hr.mono (by decide)) h_u_law_choices.m h_u_law_choices.d.kp (bd_24 h_u_law_choices.d) takesX (qda_cons (qd_lf (pd_var 3)) qda_nil) qdk_nil (alc_cons alc_nil) alc_nil (fun ds es h1 h2 => match ds, es, h1, h2 with | [_], [], _, _ => rfl))) (blkOk_by (N := ["_law_script", "_law_cell", "_law_wheel_here", "_law_plates", "_law_drawn", "_law_bits", "_law_k", "_law_some", "_law_whole", "_law_strokes", "_law_wrong", "_law_turn", "_law_found", "_law_few", "_law_one"]) (sc := defScope s_law) (own := [("_law_one", 14)]) (by decide +kernel)) (gok_name) (fun _ _ _ _ _ => (pg_name (i := 14) sc.nd rfl (by first | exact Or.inl rfl | exact Or.inr rfl))) (fun _ _ _ _ _ => qdts_one (qdt_lf (pdt_eq (hu64 hr) (pd_mod (pd_mul (pd_var 2) (pd_call h_u_law_least.g (hr.mono (by decide)) h_u_law_least.m h_u_law_least.d.kp (bd_6 h_u_law_least.d) takesB (pda_cons (pd_var 14) pda_nil) pdk_nil (al_cons al_nil) al_nil (fun ds es h1 h2 => match ds, es, h1, h2 with | [_], [], _, _ => rfl))) (pd_var 9)) pd_int))) (fun _ _ _ _ _ => (qd_lf (pd_var 14)))) (qd_lf pd_int)))
    (qds_cons (qds_if (qdt_w (qdw_or (qdt_not (qdt_val (qd_call (fn_bor h_u_law_same.g) (hr.mono (by decide)) h_u_law_same.m h_u_law_same.d.kp (bd_23 h_u_law_same.d) takesX (qda_cons (qd_lf (pd_sub1 (pd_var 12) pd_int)) (qda_cons (qd_lf (pd_var 13)) qda_nil)) qdk_nil (alc_cons (alc_cons alc_nil)) alc_nil (fun ds es h1 h2 => match ds, es, h1, h2 with | [_, _], [], _, _ => rfl)))) (qdw_or1 (qdt_not (qdt_val (qd_call (fn_bor h_u_law_walked.g) (hr.mono (by decide)) h_u_law_walked.m h_u_law_walked.d.kp (bd_27 h_u_law_walked.d) takesX (qda_cons (qd_lf (pd_sub1 (pd_var 12) pd_int)) (qda_cons (qd_lf (pd_var 13)) (qda_cons (qd_lf (pd_var 2)) (qda_cons (qd_lf (pd_var 9)) qda_nil)))) qdk_nil (alc_cons (alc_cons (alc_cons (alc_cons alc_nil)))) alc_nil (fun ds es h1 h2 => match ds, es, h1, h2 with | [_, _, _, _], [], _, _ => rfl))))))) (qds_one (qds_ls (pds_ret pd_bl))) qds_nil)
    (qds_cons (qds_expr (qd_append (qd_lf (pd_sub1 (pd_var 12) pd_int)) (qda_cons (qd_lf pd_int) qda_nil)))
    (qds_one (qds_expr (qd_append (qd_lf (pd_sub1 (pd_sub1 (pd_var 12) pd_int) pd_int)) (qda_cons (qd_lf (pd_tup (pda_cons pd_int (pda_cons pd_int pda_nil)))) qda_nil)))))))))))))))))))))
    (qds_one (qds_ls (pds_ret pd_bl)))))), hm⟩
end
theorem bx_0 {K : PySem.W.Frag} {f : Addr} {fd : FuncData} (F : FunD K "__init__" "Barred.__init__" (defArgs si_Barred) (defBody si_Barred) (defScope si_Barred) [] [] f fd) : Bx K fd ["self", "prime", "power"] 2 ["power"] [] (.p 0 :: ([.p 0, .k 0] : List Pk).map Pk.up) :=
  bx0 F 2 (.p 0 :: ([.p 0, .k 0] : List Pk).map Pk.up) fun kV doc pm an cdv ct us ws h1 h2 => match us, ws, h1, h2 with | [_, _], [_], _, _ => rfl
theorem facts {P : Program} {w : World} {K : PySem.W.Frag} {h base : Heap} {mg : Str → Option Value} (X : K.In h) (G : h.Ns mainGlobals mg) (c : He.SaysD fa fn K) (e0 : exb K = true) (TBs : ∀ p ∈ mks, LamX.TabB base mg (He.codeOf K (p.1, none)) (tabA K p.1)) :
    ∃ fd : FuncData, FnC false P w K mg base (He.ga K) "law" s_law [] ["_law_script"] 10 F_law (He.ga K "law") fd := by
  have m_u_law_draws := He.glo_ok X G (c.fact 0 (f := .glo "_law_draws") rfl)
  have m_u_law_under := He.glo_ok X G (c.fact 1 (f := .glo "_law_under") rfl)
  have m_u_law_circles := He.glo_ok X G (c.fact 2 (f := .glo "_law_circles") rfl)
  have m_u_law_wheel := He.glo_ok X G (c.fact 3 (f := .glo "_law_wheel") rfl)
  have m_u_law_side := He.glo_ok X G (c.fact 4 (f := .glo "_law_side") rfl)
  have m_u_law_gcd := He.glo_ok X G (c.fact 5 (f := .glo "_law_gcd") rfl)
  have m_u_law_least := He.glo_ok X G (c.fact 6 (f := .glo "_law_least") rfl)
  have m_u_law_bar := He.glo_ok X G (c.fact 7 (f := .glo "_law_bar") rfl)
  have m_look_turns := He.glo_ok X G (c.fact 8 (f := .glo "look_turns") rfl)
  have m_look_circles := He.glo_ok X G (c.fact 9 (f := .glo "look_circles") rfl)
  have m_common := He.glo_ok X G (c.fact 10 (f := .glo "common") rfl)
  have m_least_common := He.glo_ok X G (c.fact 11 (f := .glo "least_common") rfl)
  have m_finest := He.glo_ok X G (c.fact 12 (f := .glo "finest") rfl)
  have m_look_count := He.glo_ok X G (c.fact 13 (f := .glo "look_count") rfl)
  have m_primes_in := He.glo_ok X G (c.fact 14 (f := .glo "primes_in") rfl)
  have m_bar := He.glo_ok X G (c.fact 15 (f := .glo "bar") rfl)
  have m_crowds_of := He.glo_ok X G (c.fact 16 (f := .glo "crowds_of") rfl)
  have m_few_circles := He.glo_ok X G (c.fact 17 (f := .glo "few_circles") rfl)
  have m_part := He.glo_ok X G (c.fact 18 (f := .glo "part") rfl)
  have m_less := He.glo_ok X G (c.fact 19 (f := .glo "less") rfl)
  have m_holes_of := He.glo_ok X G (c.fact 20 (f := .glo "holes_of") rfl)
  have m_plan := He.glo_ok X G (c.fact 21 (f := .glo "plan") rfl)
  have m_u_law_told := He.glo_ok X G (c.fact 22 (f := .glo "_law_told") rfl)
  have m_u_law_same := He.glo_ok X G (c.fact 23 (f := .glo "_law_same") rfl)
  have m_u_law_choices := He.glo_ok X G (c.fact 24 (f := .glo "_law_choices") rfl)
  have m_u_law_low := He.glo_ok X G (c.fact 25 (f := .glo "_law_low") rfl)
  have m_u_law_plus := He.glo_ok X G (c.fact 26 (f := .glo "_law_plus") rfl)
  have m_u_law_walked := He.glo_ok X G (c.fact 27 (f := .glo "_law_walked") rfl)
  have m_law := He.glo_ok X G (c.fact 28 (f := .glo "law") rfl)
  have mx_BadCount := He.glo_ok X G (c.fact 29 (f := .glo "BadCount") rfl)
  have mx_Barred := He.glo_ok X G (c.fact 30 (f := .glo "Barred") rfl)
  have mx_BadPart := He.glo_ok X G (c.fact 31 (f := .glo "BadPart") rfl)
  have hb_abs := He.free_ok X G (c.fact 36 (f := .free "abs") rfl)
  have hb_range := He.free_ok X G (c.fact 37 (f := .free "range") rfl)
  have hb_sorted := He.free_ok X G (c.fact 38 (f := .free "sorted") rfl)
  have hb_len := He.free_ok X G (c.fact 39 (f := .free "len") rfl)
  have hb_enumerate := He.free_ok X G (c.fact 40 (f := .free "enumerate") rfl)
  have hb_isinstance := He.free_ok X G (c.fact 41 (f := .free "isinstance") rfl)
  have hb_ArithmeticError := He.free_ok X G (c.fact 42 (f := .free "ArithmeticError") rfl)
  have hb_str := He.free_ok X G (c.fact 43 (f := .free "str") rfl)
  have hb_int := He.free_ok X G (c.fact 44 (f := .free "int") rfl)
  have hb_all := He.free_ok X G (c.fact 45 (f := .free "all") rfl)
  have hb_list := He.free_ok X G (c.fact 46 (f := .free "list") rfl)
  have hb_tuple := He.free_ok X G (c.fact 47 (f := .free "tuple") rfl)
  have hb_bool := He.free_ok X G (c.fact 48 (f := .free "bool") rfl)
  have hb_min := He.free_ok X G (c.fact 49 (f := .free "min") rfl)
  replace e0 := ab e0; obtain ⟨e_0, e0⟩ := e0
  replace e0 := ab e0; obtain ⟨e_1, e0⟩ := e0
  replace e0 := ab e0; obtain ⟨e_2, e0⟩ := e0
  replace e0 := ab e0; obtain ⟨e_3, e0⟩ := e0
  replace e0 := ab e0; obtain ⟨e_4, e0⟩ := e0
  replace e0 := ab e0; obtain ⟨e_5, e0⟩ := e0
  have hTB_crowds_of := TBs ("crowds_of", "crowds_of.<locals>.<lambda>") (by decide)
  have xf_BadCount := xcAll_ok e_0
  obtain ⟨fdi_BadCount, Di_BadCount⟩ := c.def_ 29 (d := di_BadCount) rfl
  have hn_BadCount_word := xf_BadCount.no "word" (by decide)
  have hx_BadCount : XcE P w K mg base (He.ga K) "BadCount" "ValueError" [.type "ValueError", .type "Exception", .type "BaseException", .type "object"] "ValueError.__new__" "ValueError.__init__" "bad count" _ _ := ⟨bfValueError, xf_BadCount.t, xf_BadCount.iC, xf_BadCount.tI, init0_ok Di_BadCount sci_BadCount hn_BadCount_word (fun cdv A outer s H E => pss_one (ps_st bfValueError xf_BadCount.t (pv 0) pe_str)), Di_BadCount.bindsN (fun _ _ _ _ _ _ us hl => match us, hl with | [_], _ => rfl), mx_BadCount⟩
  have xf_Barred := xcAll_ok e_1
  obtain ⟨fdi_Barred, Di_Barred⟩ := c.def_ 30 (d := di_Barred) rfl
  have hn_Barred_word := xf_Barred.no "word" (by decide)
  have hn_Barred_prime := xf_Barred.no "prime" (by decide)
  have hn_Barred_power := xf_Barred.no "power" (by decide)
  have hx_Barred : XaE P w K mg base (He.ga K) "Barred" "ArithmeticError" [.type "ArithmeticError", .type "Exception", .type "BaseException", .type "object"] "ArithmeticError.__new__" "ArithmeticError.__init__" ["self", "prime", "power"] [("word", .s "barred"), ("prime", .p 0), ("power", .p 1)] 2 _ _ := ⟨bfArithmeticError.k, xf_Barred.t, xf_Barred.iC, xf_Barred.tI, initA_ok Di_Barred sci_Barred "word" (.s "barred") [("prime", .p 0), ("power", .p 1)] rfl (List.forall_mem_cons.mpr ⟨⟨hn_Barred_word, fun _ h => nomatch h⟩, (List.forall_mem_cons.mpr ⟨⟨hn_Barred_prime, fun i h => by cases h; decide⟩, (List.forall_mem_cons.mpr ⟨⟨hn_Barred_power, fun i h => by cases h; decide⟩, (fun _ h => nomatch h)⟩)⟩)⟩) (by decide) (fun cdv A outer s H E => (pss_cons (ps_stS bfArithmeticError.st xf_Barred.t (pv 0) pe_str) (pss_cons (ps_stS bfArithmeticError.st xf_Barred.t (pv 0) (pv 1)) (pss_cons (ps_stS bfArithmeticError.st xf_Barred.t (pv 0) (pv 2)) pss_nil)))), rfl, mx_Barred⟩
  have hbx_0 := bx_0 Di_Barred
  have hr_Barred := xrAll_ok e_2
  have xf_BadPart := xcAll_ok e_3
  obtain ⟨fdi_BadPart, Di_BadPart⟩ := c.def_ 31 (d := di_BadPart) rfl
  have hn_BadPart_word := xf_BadPart.no "word" (by decide)
  have hx_BadPart : XcE P w K mg base (He.ga K) "BadPart" "ZeroDivisionError" [.type "ZeroDivisionError", .type "ArithmeticError", .type "Exception", .type "BaseException", .type "object"] "ZeroDivisionError.__new__" "ZeroDivisionError.__init__" "bad part" _ _ := ⟨bfZeroDivisionError, xf_BadPart.t, xf_BadPart.iC, xf_BadPart.tI, init0_ok Di_BadPart sci_BadPart hn_BadPart_word (fun cdv A outer s H E => pss_one (ps_st bfZeroDivisionError xf_BadPart.t (pv 0) pe_str)), Di_BadPart.bindsN (fun _ _ _ _ _ _ us hl => match us, hl with | [_], _ => rfl), mx_BadPart⟩
  have hk_Barred_ArithmeticError := of_decide_eq_true e_4
  have hy_u_law_told_0 := exmAll_ok e_5
  obtain ⟨t_MOST_TURNS, g_MOST_TURNS⟩ := He.int_ok X G (c.fact 32 (f := .int "MOST_TURNS" 200) rfl)
  have hg_MOST_TURNS : GlE K mg (He.ga K) "MOST_TURNS" c_MOST_TURNS := ⟨.int _, _, g_MOST_TURNS, ⟨_, rfl⟩, fun _ H => .int _⟩
  obtain ⟨t_LEAST_CIRCLE, g_LEAST_CIRCLE⟩ := He.int_ok X G (c.fact 33 (f := .int "LEAST_CIRCLE" 2) rfl)
  have hg_LEAST_CIRCLE : GlE K mg (He.ga K) "LEAST_CIRCLE" c_LEAST_CIRCLE := ⟨.int _, _, g_LEAST_CIRCLE, ⟨_, rfl⟩, fun _ H => .int _⟩
  obtain ⟨t_MOST_CIRCLE, g_MOST_CIRCLE⟩ := He.int_ok X G (c.fact 34 (f := .int "MOST_CIRCLE" 120) rfl)
  have hg_MOST_CIRCLE : GlE K mg (He.ga K) "MOST_CIRCLE" c_MOST_CIRCLE := ⟨.int _, _, g_MOST_CIRCLE, ⟨_, rfl⟩, fun _ H => .int _⟩
  obtain ⟨t_MOST_COUNT, g_MOST_COUNT⟩ := He.int_ok X G (c.fact 35 (f := .int "MOST_COUNT" 5000) rfl)
  have hg_MOST_COUNT : GlE K mg (He.ga K) "MOST_COUNT" c_MOST_COUNT := ⟨.int _, _, g_MOST_COUNT, ⟨_, rfl⟩, fun _ H => .int _⟩
  obtain ⟨fd_u_law_draws, D_u_law_draws⟩ := c.def_ 0 (d := d_u_law_draws) rfl
  have h_u_law_draws := ok_u_law_draws (vn := true) (P := P) (w := w) (mg := mg) (base := base) (ca := He.ga K) hb_abs D_u_law_draws m_u_law_draws
  obtain ⟨fd_u_law_under, D_u_law_under⟩ := c.def_ 1 (d := d_u_law_under) rfl
  have h_u_law_under := ok_u_law_under (vn := true) (P := P) (w := w) (mg := mg) (base := base) (ca := He.ga K) hb_range hb_abs D_u_law_under m_u_law_under
  obtain ⟨fd_u_law_circles, D_u_law_circles⟩ := c.def_ 2 (d := d_u_law_circles) rfl
  have h_u_law_circles := ok_u_law_circles (vn := true) (P := P) (w := w) (mg := mg) (base := base) (ca := He.ga K) h_u_law_draws h_u_law_under hb_range D_u_law_circles m_u_law_circles
  obtain ⟨fd_u_law_wheel, D_u_law_wheel⟩ := c.def_ 3 (d := d_u_law_wheel) rfl
  have h_u_law_wheel := ok_u_law_wheel (vn := true) (P := P) (w := w) (mg := mg) (base := base) (ca := He.ga K) h_u_law_draws h_u_law_circles h_u_law_under D_u_law_wheel m_u_law_wheel
  obtain ⟨fd_u_law_side, D_u_law_side⟩ := c.def_ 4 (d := d_u_law_side) rfl
  have h_u_law_side := ok_u_law_side (vn := true) (P := P) (w := w) (mg := mg) (base := base) (ca := He.ga K) h_u_law_draws D_u_law_side m_u_law_side
  obtain ⟨fd_u_law_gcd, D_u_law_gcd⟩ := c.def_ 5 (d := d_u_law_gcd) rfl
  have h_u_law_gcd := ok_u_law_gcd (vn := true) (P := P) (w := w) (mg := mg) (base := base) (ca := He.ga K) hb_abs D_u_law_gcd m_u_law_gcd
  obtain ⟨fd_u_law_least, D_u_law_least⟩ := c.def_ 6 (d := d_u_law_least) rfl
  have h_u_law_least := ok_u_law_least (vn := true) (P := P) (w := w) (mg := mg) (base := base) (ca := He.ga K) h_u_law_gcd D_u_law_least m_u_law_least
  obtain ⟨fd_u_law_bar, D_u_law_bar⟩ := c.def_ 7 (d := d_u_law_bar) rfl
  have h_u_law_bar := ok_u_law_bar (vn := true) (P := P) (w := w) (mg := mg) (base := base) (ca := He.ga K) h_u_law_least D_u_law_bar m_u_law_bar
  obtain ⟨fd_look_turns, D_look_turns⟩ := c.def_ 8 (d := d_look_turns) rfl
  have h_look_turns := ok_look_turns (vn := true) (P := P) (w := w) (mg := mg) (base := base) (ca := He.ga K) hg_MOST_TURNS hx_BadCount D_look_turns m_look_turns
  obtain ⟨fd_look_circles, D_look_circles⟩ := c.def_ 9 (d := d_look_circles) rfl
  have h_look_circles := ok_look_circles (vn := true) (P := P) (w := w) (mg := mg) (base := base) (ca := He.ga K) hg_LEAST_CIRCLE hg_MOST_CIRCLE hx_BadCount D_look_circles m_look_circles
  obtain ⟨fd_common, D_common⟩ := c.def_ 10 (d := d_common) rfl
  have h_common := ok_common (vn := true) (P := P) (w := w) (mg := mg) (base := base) (ca := He.ga K) hb_abs D_common m_common
  obtain ⟨fd_least_common, D_least_common⟩ := c.def_ 11 (d := d_least_common) rfl
  have h_least_common := ok_least_common (vn := true) (P := P) (w := w) (mg := mg) (base := base) (ca := He.ga K) h_common D_least_common m_least_common
  obtain ⟨fd_finest, D_finest⟩ := c.def_ 12 (d := d_finest) rfl
  have h_finest := ok_finest (vn := true) (P := P) (w := w) (mg := mg) (base := base) (ca := He.ga K) h_look_turns h_look_circles h_least_common D_finest m_finest
  obtain ⟨fd_look_count, D_look_count⟩ := c.def_ 13 (d := d_look_count) rfl
  have h_look_count := ok_look_count (vn := true) (P := P) (w := w) (mg := mg) (base := base) (ca := He.ga K) hg_MOST_COUNT hx_BadCount D_look_count m_look_count
  obtain ⟨fd_primes_in, D_primes_in⟩ := c.def_ 14 (d := d_primes_in) rfl
  have h_primes_in := ok_primes_in (vn := true) (P := P) (w := w) (mg := mg) (base := base) (ca := He.ga K)  D_primes_in m_primes_in
  obtain ⟨fd_bar, D_bar⟩ := c.def_ 15 (d := d_bar) rfl
  have h_bar := ok_bar (vn := true) (P := P) (w := w) (mg := mg) (base := base) (ca := He.ga K) h_finest h_look_count h_primes_in D_bar m_bar
  obtain ⟨fd_crowds_of, D_crowds_of⟩ := c.def_ 16 (d := d_crowds_of) rfl
  have h_crowds_of := ok_crowds_of (vn := true) (P := P) (w := w) (mg := mg) (base := base) (ca := He.ga K) hb_sorted hb_len hTB_crowds_of D_crowds_of m_crowds_of
  obtain ⟨fd_few_circles, D_few_circles⟩ := c.def_ 17 (d := d_few_circles) rfl
  have h_few_circles := ok_few_circles (vn := true) (P := P) (w := w) (mg := mg) (base := base) (ca := He.ga K) h_bar h_crowds_of h_least_common hx_Barred hbx_0 D_few_circles m_few_circles
  obtain ⟨fd_part, D_part⟩ := c.def_ 18 (d := d_part) rfl
  have h_part := ok_part (vn := true) (P := P) (w := w) (mg := mg) (base := base) (ca := He.ga K) h_common hx_BadPart D_part m_part
  obtain ⟨fd_less, D_less⟩ := c.def_ 19 (d := d_less) rfl
  have h_less := ok_less (vn := true) (P := P) (w := w) (mg := mg) (base := base) (ca := He.ga K) h_part D_less m_less
  obtain ⟨fd_holes_of, D_holes_of⟩ := c.def_ 20 (d := d_holes_of) rfl
  have h_holes_of := ok_holes_of (vn := true) (P := P) (w := w) (mg := mg) (base := base) (ca := He.ga K) h_least_common h_less h_part hb_range D_holes_of m_holes_of
  obtain ⟨fd_plan, D_plan⟩ := c.def_ 21 (d := d_plan) rfl
  have h_plan := ok_plan (vn := true) (P := P) (w := w) (mg := mg) (base := base) (ca := He.ga K) h_few_circles h_part h_holes_of h_less hb_enumerate D_plan m_plan
  obtain ⟨fd_u_law_told, D_u_law_told⟩ := c.def_ 22 (d := d_u_law_told) rfl
  have h_u_law_told := ok_u_law_told (vn := true) (P := P) (w := w) (mg := mg) (base := base) (ca := He.ga K) h_few_circles h_plan hb_isinstance hb_ArithmeticError hx_Barred hr_Barred hn_Barred_word hn_Barred_prime hn_Barred_power hk_Barred_ArithmeticError hy_u_law_told_0 D_u_law_told m_u_law_told
  obtain ⟨fd_u_law_same, D_u_law_same⟩ := c.def_ 23 (d := d_u_law_same) rfl
  have h_u_law_same := (ok_u_law_same (vn := true) (P := P) (w := w) (mg := mg) (base := base) (ca := He.ga K) hb_isinstance hb_str hb_int hb_all hb_list hb_tuple hb_len hb_bool hb_range D_u_law_same m_u_law_same) 8
  obtain ⟨fd_u_law_choices, D_u_law_choices⟩ := c.def_ 24 (d := d_u_law_choices) rfl
  have h_u_law_choices := ok_u_law_choices (vn := true) (P := P) (w := w) (mg := mg) (base := base) (ca := He.ga K) hb_sorted hb_len D_u_law_choices m_u_law_choices
  obtain ⟨fd_u_law_low, D_u_law_low⟩ := c.def_ 25 (d := d_u_law_low) rfl
  have h_u_law_low := ok_u_law_low (vn := true) (P := P) (w := w) (mg := mg) (base := base) (ca := He.ga K) h_u_law_gcd D_u_law_low m_u_law_low
  obtain ⟨fd_u_law_plus, D_u_law_plus⟩ := c.def_ 26 (d := d_u_law_plus) rfl
  have h_u_law_plus := ok_u_law_plus (vn := true) (P := P) (w := w) (mg := mg) (base := base) (ca := He.ga K) h_u_law_low D_u_law_plus m_u_law_plus
  obtain ⟨fd_u_law_walked, D_u_law_walked⟩ := c.def_ 27 (d := d_u_law_walked) rfl
  have h_u_law_walked := ok_u_law_walked (vn := true) (P := P) (w := w) (mg := mg) (base := base) (ca := He.ga K) h_u_law_plus h_u_law_low hb_isinstance hb_tuple hb_len hb_list D_u_law_walked m_u_law_walked
  obtain ⟨fd_law, D_law⟩ := c.def_ 28 (d := d_law) rfl
  have h_law := ok_law (vn := true) (P := P) (w := w) (mg := mg) (base := base) (ca := He.ga K) h_u_law_wheel h_u_law_side h_u_law_draws h_u_law_least h_u_law_gcd h_u_law_bar h_u_law_told h_u_law_same h_u_law_choices h_u_law_walked hb_min hb_range hb_len D_law m_law
  exact ⟨_, h_law.z⟩
end Law

set_option Elab.async false
set_option linter.all false
set_option maxRecDepth 100000
set_option maxHeartbeats 4000000
set_option exponentiation.threshold 5000
namespace Law
open PySem L2 Pd
local macro_rules | `(tactic| walk_at "ev") => `(tactic| simp only [zSpC_eq, dSpC_str, zJnC_eq, dJnC_str, ↓eC_eq, ↓e1_eq, ↓e2_eq, ↓eA_eq, ↓aNil_eq, ↓aCons_eq, ↓eCall_eq, ↓eIf_eq, ↓tOf_eq, ↓tAnd2_eq, ↓tOr2_eq, ↓tNot1_eq, ↓eAnd_eq, ↓eOr_eq, ↓mNext_eq, ↓mSeq_eq, ↓mSet_eq, ↓mRet_eq, ↓mDrop_eq, ↓mRaise_eq, ↓mIf_eq, ↓mAug_eq, ↓mSetL_nil, ↓mSetL_eq, ↓mApp_eq, ↓mFrz_eq, ↓mFor_eq, ↓mWhile_eq, ↓mPar_eq, ↓mAsg_eq, ↓itOf_eq, ↓itA_eq, ↓eSl_eq, ↓oNone_eq, ↓oSome_eq, ↓mTry_eq, ↓hRet_eq, ↓hTup_eq, ↓hCons_eq, ↓hNil_eq, ↓hBl_eq, ↓hLift_eq, ↓runF_eq, ↓mTryC_eq, ↓eCh_eq, ↓eRep_eq, ↓eJ_nil, ↓eJ_cons, ↓eM1_eq, ↓tBor_eq, ↓mRev_eq, bind_ok, bind_xc, out_ok, out_xc, c2_eq, cA2_eq, cA_eq, cC2_eq, cC_eq, cI_t, cI_f, cAnd_t, cAnd_f, cOr_t, cOr_f, cNot_eq, cEA_t, cEA_f, cEO_t, cEO_f, cSet_eq, cDrop_eq, cAug2_eq, cAug_eq, cApp_eq, cFor_eq, cPar_2, asgO_ok, cAsg_eq, pk_eq, cSl2_eq, cSl_eq, asOI_int, hdI_t, hOut_ok, seqO_nx, seqO_rt, seqO_bk, seqO_ct, seqO_xc, finO_rt, finO_nx, finO_xc, slots_cons, slots_S, slots_0, eVar_0, eVar_S, asB_bl, asOl_ol, frz_ol0, frz_S, ltLen_0, ltLen_S, hdO_rt, hdO_nx, hdO_bk, hdO_ct, tryO_rt, tryO_nx, tryO_xc, xFld_0, gtN_eq, gtT_tup, gtCons_cons, gtNil_nil, asL_lst, asT_tup, pick_nil, pick_p, pick_k, pick_d, toList_some, get0, getS, set0, setS, kTup1, kTup2, kTup3, kTup4, kTup5, kTup6, kLst0, kLst1, kLst2, kLst3, kLst4, kLst5, kLst6, kLst7, kLst8, kLst9, kAdd_ok, kSub_ok, kLt_ok, kLe_ok, kGt_ok, kGe_ok, kNeg_ok, kNot_bl, kEq_int, kNe_int, kEq_bl, kNe_bl, kEq_str, kNe_str, kIx_tup, kIx_lst, atD_0, atD_1, atD_2, atD_3, atD_4, atD_5, atD_6, kAbs_ok, abs_eq, kIsN_non, kIsN_int, kIsN_tup, kIsN_lst, kIsN_str, kIsN_bl, kNotN_non, kNotN_int, kNotN_tup, kNotN_lst, kNotN_str, kNotN_bl, kSlL_lst, kSlL_scr, kLen_lst, kLen_tup, cRep_1, tryC_nx, tryC_rt, tryC_bk, tryC_ct, calm_nx, calm_rt, calm_bk, calm_ct, cCh_eq, cCh1_eq, cCh2_t, cCh2_f, pD_0, pD_1, qD_0, qD_1, cM_str, on1_eq, kInt1_t, kInt1_f, noX_ok, frzs_nil, len2, len3, len4, len5, frzs_cons, cRev_ol, asS_str, cSetL_0, cSetL_1, cSetL_2, cSetL_3, kRev_lst, kList_lst, kList_tup, kMin2_eq, kMax2_eq, if_true, Bool.not_true, Bool.not_false, List.cons_append, List.nil_append, List.append_nil, ↓lf_eq, ↓zoNone_eq, ↓zoSome_eq, ↓zSl_eq, ↓zRep_eq, ↓eOix_eq, ↓mOput_eq, ↓mSetLs_eq, ↓ls_eq, ↓nSeq_eq, ↓nNext_eq, ↓nSet_eq, ↓nRet_eq, ↓nDrop_eq, ↓nIf_eq, ↓z1_eq, ↓z2_eq, ↓zNil_eq, ↓zCons_eq, ↓zA_eq, ↓zIf_eq, ↓sOf_eq, ↓sAnd_eq, ↓sOr_eq, ↓sNot_eq, ↓zAnd_eq, ↓zOr_eq, ↓runC_eq, ↓zCall_eq, ↓zFld_eq, ↓zMeth_eq, ↓zMake_eq, ↓nFld_eq, ↓nFor_eq, ↓zAc_eq, ↓z2c_eq, ↓z2b_eq, ↓zJ_nil, ↓zJ_cons, ↓nTryC_eq, ↓hls_eq, ↓sYes_eq, ↓zDnew_eq, ↓zIt_eq, ↓zDget_eq, ↓nDput_eq, ↓nExt_eq, ↓zM1_eq, ↓zIsO_eq, ↓zBmL_eq, ↓nAsg_eq, ↓nLput_eq, rb_ok, rb_xc, oSomeC_eq, slC1_eq, slC2_eq, slC3_eq, dRp_1, dRp3_eq, cOixF_eq, cOix_int, cOpF_eq, cOp1_eq, cSls_lst, ro_ok, ro_xc, at_ok, at_xc, ot_nx, ot_rt, ot_bk, ot_ct, ot_xc, seqK_nx, seqK_rt, seqK_bk, seqK_ct, seqK_xc, dSet_eq, dRet_eq, dDrop_eq, dIf_t, dIf_f, d1_eq, d2_eq, d22_eq, dC_eq, dC2_eq, dA_eq, dI_t, dI_f, dB_bl, dAn_t, dAn_f, dOr_t, dOr_f, dNt_eq, dZa_t, dZa_f, dZo_t, dZo_f, finK_rt, finK_nx, finK_xc, dCl_eq, dCl2_eq, dM2_eq, dM3_eq, dK_eq, dK2_eq, dK3_non, dP_eq, dFo_eq, d2c_eq, d2b_eq, d2b2_int, rImm_bl, kLen2_lst, tryC2_nx, tryC2_rt, tryC2_bk, tryC2_ct, hdI2_t, hdO2_rt, hdO2_nx, dG2_eq, dIt_lst, dU_eq, dU2_eq, dXo_ol, dMx_str, dMs_eq, dL_eq, dL2_eq, kIx2_tup, kIx2_lst, unlk_nx, dAsgC_eq, asgK_ok, rcvK_ok, ↓eTix_eq, ↓eTin_eq, ↓eTnin_eq, ↓eTget_eq, ↓mSetT_eq, ↓mSetT1_eq, ↓eT1_eq, ↓mTput_eq, ↓mTsd_eq, asOt_ot, cTix_eq, cTin2_eq, cTin_eq, cTnin2_eq, cTnin_eq, cTg2_eq, cTg1_eq, cTg_eq, cT1_eq, cE1_eq, cTp1_eq, cTp_eq, cTs1_eq, cTs_eq, ↓nFrz_eq, frz_ot0, kTlen_eq, kTlist_eq, ↓zItA_eq, dItA_eq, ↓nSetL_eq, dSL_0, dSL_1, dSL_2, dSL_3, ↓nApp_eq, dAppO_ol, dApp2_0, dApp2_1, dApp2_2, ↓mCont_eq, ↓mBreak_eq, kSum_ok, kTupl_lst, kTupl_tup, ↓mRaiseA_eq, ↓eAcc_eq, cRz_eq, cAc_eq, cAc2_eq, accD_nil, accD_s, accD_p0, accD_p1, ↓nRaiseA_eq, ↓zAcc_eq, dRz_eq, dAc_eq, dAc2_eq, ↓hApp_eq, ↓zIsi_eq, kIsi2_tup, kIsi2_lst])
local macro_rules
  | `(tactic| k_search [$xs,*]) => do
    let ys ← xs.getElems.mapM fun (x : Lean.TSyntax `term) => match x with
      | `(some $t) => `(Lean.Parser.Tactic.simpLemma| ↓$t:term)
      | _ => `(Lean.Parser.Tactic.simpLemma| $x:term)
    `(tactic| simp only [zSpC_eq, dSpC_str, zJnC_eq, dJnC_str, ↓eC_eq, ↓e1_eq, ↓e2_eq, ↓eA_eq, ↓aNil_eq, ↓aCons_eq, ↓eCall_eq, ↓eIf_eq, ↓tOf_eq, ↓tAnd2_eq, ↓tOr2_eq, ↓tNot1_eq, ↓eAnd_eq, ↓eOr_eq, ↓mNext_eq, ↓mSeq_eq, ↓mSet_eq, ↓mRet_eq, ↓mDrop_eq, ↓mRaise_eq, ↓mIf_eq, ↓mAug_eq, ↓mSetL_nil, ↓mSetL_eq, ↓mApp_eq, ↓mFrz_eq, ↓mFor_eq, ↓mWhile_eq, ↓mPar_eq, ↓mAsg_eq, ↓itOf_eq, ↓itA_eq, ↓eSl_eq, ↓oNone_eq, ↓oSome_eq, ↓mTry_eq, ↓hRet_eq, ↓hTup_eq, ↓hCons_eq, ↓hNil_eq, ↓hBl_eq, ↓hLift_eq, ↓runF_eq, ↓mTryC_eq, ↓eCh_eq, ↓eRep_eq, ↓eJ_nil, ↓eJ_cons, ↓eM1_eq, ↓tBor_eq, ↓mRev_eq, bind_ok, bind_xc, out_ok, out_xc, c2_eq, cA2_eq, cA_eq, cC2_eq, cC_eq, cI_t, cI_f, cAnd_t, cAnd_f, cOr_t, cOr_f, cNot_eq, cEA_t, cEA_f, cEO_t, cEO_f, cSet_eq, cDrop_eq, cAug2_eq, cAug_eq, cApp_eq, cFor_eq, cPar_2, asgO_ok, cAsg_eq, pk_eq, cSl2_eq, cSl_eq, asOI_int, hdI_t, hOut_ok, seqO_nx, seqO_rt, seqO_bk, seqO_ct, seqO_xc, finO_rt, finO_nx, finO_xc, slots_cons, slots_S, slots_0, eVar_0, eVar_S, asB_bl, asOl_ol, frz_ol0, frz_S, ltLen_0, ltLen_S, hdO_rt, hdO_nx, hdO_bk, hdO_ct, tryO_rt, tryO_nx, tryO_xc, xFld_0, gtN_eq, gtT_tup, gtCons_cons, gtNil_nil, asL_lst, asT_tup, pick_nil, pick_p, pick_k, pick_d, toList_some, get0, getS, set0, setS, kTup1, kTup2, kTup3, kTup4, kTup5, kTup6, kLst0, kLst1, kLst2, kLst3, kLst4, kLst5, kLst6, kLst7, kLst8, kLst9, kAdd_ok, kSub_ok, kLt_ok, kLe_ok, kGt_ok, kGe_ok, kNeg_ok, kNot_bl, kEq_int, kNe_int, kEq_bl, kNe_bl, kEq_str, kNe_str, kIx_tup, kIx_lst, atD_0, atD_1, atD_2, atD_3, atD_4, atD_5, atD_6, kAbs_ok, abs_eq, kIsN_non, kIsN_int, kIsN_tup, kIsN_lst, kIsN_str, kIsN_bl, kNotN_non, kNotN_int, kNotN_tup, kNotN_lst, kNotN_str, kNotN_bl, kSlL_lst, kSlL_scr, kLen_lst, kLen_tup, cRep_1, tryC_nx, tryC_rt, tryC_bk, tryC_ct, calm_nx, calm_rt, calm_bk, calm_ct, cCh_eq, cCh1_eq, cCh2_t, cCh2_f, pD_0, pD_1, qD_0, qD_1, cM_str, on1_eq, kInt1_t, kInt1_f, noX_ok, frzs_nil, len2, len3, len4, len5, frzs_cons, cRev_ol, asS_str, cSetL_0, cSetL_1, cSetL_2, cSetL_3, kRev_lst, kList_lst, kList_tup, kMin2_eq, kMax2_eq, if_true, Bool.not_true, Bool.not_false, List.cons_append, List.nil_append, List.append_nil, ↓lf_eq, ↓zoNone_eq, ↓zoSome_eq, ↓zSl_eq, ↓zRep_eq, ↓eOix_eq, ↓mOput_eq, ↓mSetLs_eq, ↓ls_eq, ↓nSeq_eq, ↓nNext_eq, ↓nSet_eq, ↓nRet_eq, ↓nDrop_eq, ↓nIf_eq, ↓z1_eq, ↓z2_eq, ↓zNil_eq, ↓zCons_eq, ↓zA_eq, ↓zIf_eq, ↓sOf_eq, ↓sAnd_eq, ↓sOr_eq, ↓sNot_eq, ↓zAnd_eq, ↓zOr_eq, ↓runC_eq, ↓zCall_eq, ↓zFld_eq, ↓zMeth_eq, ↓zMake_eq, ↓nFld_eq, ↓nFor_eq, ↓zAc_eq, ↓z2c_eq, ↓z2b_eq, ↓zJ_nil, ↓zJ_cons, ↓nTryC_eq, ↓hls_eq, ↓sYes_eq, ↓zDnew_eq, ↓zIt_eq, ↓zDget_eq, ↓nDput_eq, ↓nExt_eq, ↓zM1_eq, ↓zIsO_eq, ↓zBmL_eq, ↓nAsg_eq, ↓nLput_eq, rb_ok, rb_xc, oSomeC_eq, slC1_eq, slC2_eq, slC3_eq, dRp_1, dRp3_eq, cOixF_eq, cOix_int, cOpF_eq, cOp1_eq, cSls_lst, ro_ok, ro_xc, at_ok, at_xc, ot_nx, ot_rt, ot_bk, ot_ct, ot_xc, seqK_nx, seqK_rt, seqK_bk, seqK_ct, seqK_xc, dSet_eq, dRet_eq, dDrop_eq, dIf_t, dIf_f, d1_eq, d2_eq, d22_eq, dC_eq, dC2_eq, dA_eq, dI_t, dI_f, dB_bl, dAn_t, dAn_f, dOr_t, dOr_f, dNt_eq, dZa_t, dZa_f, dZo_t, dZo_f, finK_rt, finK_nx, finK_xc, dCl_eq, dCl2_eq, dM2_eq, dM3_eq, dK_eq, dK2_eq, dK3_non, dP_eq, dFo_eq, d2c_eq, d2b_eq, d2b2_int, rImm_bl, kLen2_lst, tryC2_nx, tryC2_rt, tryC2_bk, tryC2_ct, hdI2_t, hdO2_rt, hdO2_nx, dG2_eq, dIt_lst, dU_eq, dU2_eq, dXo_ol, dMx_str, dMs_eq, dL_eq, dL2_eq, kIx2_tup, kIx2_lst, unlk_nx, dAsgC_eq, asgK_ok, rcvK_ok, ↓eTix_eq, ↓eTin_eq, ↓eTnin_eq, ↓eTget_eq, ↓mSetT_eq, ↓mSetT1_eq, ↓eT1_eq, ↓mTput_eq, ↓mTsd_eq, asOt_ot, cTix_eq, cTin2_eq, cTin_eq, cTnin2_eq, cTnin_eq, cTg2_eq, cTg1_eq, cTg_eq, cT1_eq, cE1_eq, cTp1_eq, cTp_eq, cTs1_eq, cTs_eq, ↓nFrz_eq, frz_ot0, kTlen_eq, kTlist_eq, ↓zItA_eq, dItA_eq, ↓nSetL_eq, dSL_0, dSL_1, dSL_2, dSL_3, ↓nApp_eq, dAppO_ol, dApp2_0, dApp2_1, dApp2_2, ↓mCont_eq, ↓mBreak_eq, kSum_ok, kTupl_lst, kTupl_tup, ↓mRaiseA_eq, ↓eAcc_eq, cRz_eq, cAc_eq, cAc2_eq, accD_nil, accD_s, accD_p0, accD_p1, ↓nRaiseA_eq, ↓zAcc_eq, dRz_eq, dAc_eq, dAc2_eq, ↓hApp_eq, ↓zIsi_eq, kIsi2_tup, kIsi2_lst, $ys,*])
section
theorem common_eq (a b : Int) (hb : b.natAbs < 2 ^ 4000) : f_common [.int a, .int b] = .ok (.int (Int.gcd a b)) := by
  have h0 : ∃ δ', whL lt_common_0 lb_common_0 fuelTop [.sh (.int a.natAbs), .sh (.int b.natAbs), .no] = .nx δ' ∧
      (∃ (x y : Nat) (o : O), δ' = [.sh (.int x), .sh (.int y), o] ∧ Nat.gcd x y = Int.gcd a b) ∧ lt_common_0 δ' = .ok false := by
    refine whL_inv _ (fun δ => match δ with | [_, .sh (.int y), _] => y.natAbs | _ => 0) ?_ _ _ ⟨a.natAbs, b.natAbs, .no, rfl, rfl⟩ (fuelTop_lt (by simpa using hb))
    rintro δ ⟨x, y, o, rfl, hg⟩
    by_cases hy : y = 0
    · right
      subst hy
      rfl
    · left
      have hp : (0 : Int) < (y : Int) := by omega
      have hne : ((y : Int) == 0) = false := by simpa using hy
      constructor
      · unfold lt_common_0
        k_search [hne]
      · refine ⟨[.sh (.int y), .sh (.int ((x % y : Nat) : Int)), .sh (.int ((x % y : Nat) : Int))], ?_, ⟨y, x % y, _, rfl, by rw [gcd_step, hg]⟩, ?_⟩
        · unfold lb_common_0
          k_search [kMod_ok hp]
          rfl
        · show (((x % y : Nat) : Int)).natAbs < ((y : Int)).natAbs
          have := Nat.mod_lt x (Nat.pos_of_ne_zero hy)
          omega
  obtain ⟨δ', q1, ⟨x, y, o, rfl, hg⟩, q2⟩ := h0
  have hy : y = 0 := by
    by_cases hy : y = 0
    · exact hy
    · exfalso
      have hne : ((y : Int) == 0) = false := by simpa using hy
      have z : lt_common_0 [.sh (.int x), .sh (.int y), o] = .ok true := by
        unfold lt_common_0
        k_search [hne]
      rw [z] at q2
      cases q2
  subst hy
  rw [Nat.gcd_zero_right] at hg
  subst hg
  unfold f_common sm_common
  walk_at "ev"
  rw [q1]
  rfl

theorem lgcd_eq (a b : Int) (hb : b.natAbs < 2 ^ 4000) : f_u_law_gcd [.int a, .int b] = .ok (.int (Int.gcd a b)) := by
  have h0 : ∃ δ', whL lt_u_law_gcd_0 lb_u_law_gcd_0 fuelTop [.sh (.int a.natAbs), .sh (.int b.natAbs)] = .nx δ' ∧
      (∃ (x y : Nat), δ' = [.sh (.int x), .sh (.int y)] ∧ Nat.gcd x y = Int.gcd a b) ∧ lt_u_law_gcd_0 δ' = .ok false := by
    refine whL_inv _ (fun δ => match δ with | [_, .sh (.int y)] => y.natAbs | _ => 0) ?_ _ _ ⟨a.natAbs, b.natAbs, rfl, rfl⟩ (fuelTop_lt (by simpa using hb))
    rintro δ ⟨x, y, rfl, hg⟩
    by_cases hy : y = 0
    · right
      subst hy
      rfl
    · left
      have hp : (0 : Int) < (y : Int) := by omega
      have hne : ((y : Int) == 0) = false := by simpa using hy
      constructor
      · unfold lt_u_law_gcd_0
        k_search [hne]
      · refine ⟨[.sh (.int y), .sh (.int ((x % y : Nat) : Int))], ?_, ⟨y, x % y, rfl, by rw [gcd_step, hg]⟩, ?_⟩
        · unfold lb_u_law_gcd_0
          k_search [kMod_ok hp]
          rfl
        · show (((x % y : Nat) : Int)).natAbs < ((y : Int)).natAbs
          have := Nat.mod_lt x (Nat.pos_of_ne_zero hy)
          omega
  obtain ⟨δ', q1, ⟨x, y, rfl, hg⟩, q2⟩ := h0
  have hy : y = 0 := by
    by_cases hy : y = 0
    · exact hy
    · exfalso
      have hne : ((y : Int) == 0) = false := by simpa using hy
      have z : lt_u_law_gcd_0 [.sh (.int x), .sh (.int y)] = .ok true := by
        unfold lt_u_law_gcd_0
        k_search [hne]
      rw [z] at q2
      cases q2
  subst hy
  rw [Nat.gcd_zero_right] at hg
  subst hg
  unfold f_u_law_gcd sm_u_law_gcd
  walk_at "ev"
  rw [q1]
  rfl

theorem part_eq (a b : Int) (h : 0 < b) (hb : b.natAbs < 2 ^ 4000) : f_part [.int a, .int b] = .ok (lowD a b) := by
  have hn : b ≠ 0 := by omega
  have h1 : decide (b < 1) = false := decide_eq_false (by omega)
  unfold f_part sm_part tl_part_0
  walk_at "ev"
  rw [h1]
  walk_at "ev"
  rw [common_eq a b hb]
  walk_at "ev"
  rw [kDiv_ok (gcd_div hn hb)]
  walk_at "ev"
  rw [kDiv_ok (gcd_div hn hb)]
  rfl
theorem llow_eq (a b : Int) (h : b ≠ 0) (hb : b.natAbs < 2 ^ 4000) : f_u_law_low [.int a, .int b] = .ok (lowD a b) := by
  unfold f_u_law_low sm_u_law_low
  walk_at "ev"
  rw [lgcd_eq a b hb]
  walk_at "ev"
  rw [kDiv_ok (gcd_div h hb)]
  walk_at "ev"
  rw [kDiv_ok (gcd_div h hb)]
  rfl

def fine : Nat → D → Bool
  | 0, _ => false
  | n + 1, d => match d with
    | .lst xs => decide (xs.length ≤ 1000000) && xs.all (fine n)
    | .tup xs => decide (xs.length ≤ 1000000) && xs.all (fine n)
    | .obj _ _ _ => false
    | .scr _ => false
    | .loc _ => false
    | .dct _ _ => false
    | .dtt _ _ => false
    | .clo _ => false
    | _ => true
theorem same_items {n : Nat} {xs : List D} {mk : D} (hk : ∀ i : Int, kIx mk (.int i) = atD xs i) (hl : xs.length ≤ 1000000) (ih : ∀ d ∈ xs, f_u_law_same n [d, d] = .ok (.bl true)) (hlen : kLen [mk] = .ok (.int xs.length)) :
    (eAnd (e2 kEq (eA kLen (aCons (eVar 0) aNil)) (eA kLen (aCons (eVar 1) aNil))) (eA kAll (aCons (eLc (itA kRng1 (aCons (eA kLen (aCons (eVar 1) aNil)) aNil)) (gtN 2) tYesD (eCall (f_u_law_same n) (pk [] [.p 0, .p 1]) (aCons (e2 kIx (eVar 0) (eVar 2)) (aCons (e2 kIx (eVar 1) (eVar 2)) aNil)) aNil) [2]) aNil))) [.sh mk, .sh mk, .no] = .ok (.bl true) := by
  have hit : itA kRng1 (aCons (eA kLen (aCons (eVar 1) aNil)) aNil) [.sh mk, .sh mk, .no] = .ok (rangeD 0 xs.length) := by
    walk_at "ev"
    rw [hlen]
    walk_at "ev"
    exact kRng1_nat hl
  have hL := eLc_all (gt := gtN 2) (t := tYesD) (e := eCall (f_u_law_same n) (pk [] [.p 0, .p 1]) (aCons (e2 kIx (eVar 0) (eVar 2)) (aCons (e2 kIx (eVar 1) (eVar 2)) aNil)) aNil) (vs := [2]) (fun _ => .bl true) hit (by rw [rangeD_len]; omega) fun d hd => by
    obtain ⟨i, hi, rfl⟩ := rangeD_mem hd
    have hg : atD xs (0 + ((i : Nat) : Int)) = .ok xs[i] := atD_nat (by omega) (by
      have : (0 + ((i : Nat) : Int)).toNat = i := by omega
      rw [this]
      exact List.getElem?_eq_getElem hi)
    refine ⟨[.sh mk, .sh mk, .sh (.int (0 + ((i : Nat) : Int)))], rfl, rfl, ?_⟩
    k_search [hk, hg]
    exact ih _ (List.getElem_mem hi)
  k_search [hlen, beq_self_eq_true, hL, kAll_true]
theorem same_refl : ∀ (n : Nat) (d : D), fine n d = true → f_u_law_same n [d, d] = .ok (.bl true)
  | 0, d, h => by cases h
  | n + 1, d, h => by
    show runF 1 (sm_u_law_same (f_u_law_same n)) [d, d] = _
    rw [runF_eq]
    unfold sm_u_law_same
    cases d with
    | non => rfl
    | bl b => cases b <;> rfl
    | int i =>
      k_search [kIsi_eq, isD, beq_self_eq_true]
    | str x =>
      k_search [kIsi_eq, isD, beq_self_eq_true]
    | lst xs =>
      have h' : (decide (xs.length ≤ 1000000) && xs.all (fine n)) = true := h
      obtain ⟨h1, h2⟩ := Bool.and_eq_true_iff.mp h'
      have key := same_items (n := n) (mk := .lst xs) (xs := xs) (fun _ => rfl) (of_decide_eq_true h1) (fun d hd => same_refl n d (List.all_eq_true.mp h2 d hd)) rfl
      generalize (eAnd (e2 kEq (eA kLen _) _) _) = q at *
      k_search [kIsi_eq, isD, beq_self_eq_true, key]
    | tup xs =>
      have h' : (decide (xs.length ≤ 1000000) && xs.all (fine n)) = true := h
      obtain ⟨h1, h2⟩ := Bool.and_eq_true_iff.mp h'
      have key := same_items (n := n) (mk := .tup xs) (xs := xs) (fun _ => rfl) (of_decide_eq_true h1) (fun d hd => same_refl n d (List.all_eq_true.mp h2 d hd)) rfl
      generalize (eAnd (e2 kEq (eA kLen _) _) _) = q at *
      k_search [kIsi_eq, isD, beq_self_eq_true, key]
    | obj C ns xs => cases h
    | scr ns => cases h
    | loc n => cases h
    | dct ks vs => cases h
    | dtt ks vs => cases h
    | clo i => cases h

def Drawn : List Int → List Int → Prop
  | [], [] => True
  | r :: rs, z :: zs => (0 ≤ r ∧ r < z) ∧ Drawn rs zs
  | _, _ => False
theorem Drawn.nil {rs : List Int} (h : Drawn rs []) : rs = [] := by
  cases rs with
  | nil => rfl
  | cons r rs => cases h
theorem Drawn.cons {rs : List Int} {z : Int} {zs : List Int} (h : Drawn rs (z :: zs)) : ∃ r rs', rs = r :: rs' ∧ 0 ≤ r ∧ r < z ∧ Drawn rs' zs := by
  cases rs with
  | nil => cases h
  | cons r rs => exact ⟨r, rs, rfl, h.1.1, h.1.2, h.2⟩
theorem draw_loop : ∀ (zs : List Int) (c : Int) (o1 o2 o3 o4 o6 : O) (ds : List D), (∀ z ∈ zs, 0 < z ∧ z.natAbs < 2 ^ 4000) → ds.length + zs.length < 16777216 →
    ∃ rs c' o6', forL (gtN 6) lb_u_law_draws_0 (zs.map D.int) [.sh (.int c), o1, o2, o3, o4, .ol ds, o6] = .nx [.sh (.int c'), o1, o2, o3, o4, .ol (ds ++ rs.map D.int), o6'] ∧ Drawn rs zs
  | [], c, o1, o2, o3, o4, o6, ds, _, _ => ⟨[], c, o6, by simp only [List.map_nil, List.append_nil]; rfl, trivial⟩
  | z :: zs, c, o1, o2, o3, o4, o6, ds, hz, hl => by
    obtain ⟨h0, h1⟩ := hz z (List.mem_cons_self ..)
    obtain ⟨rs, c', o6', h2, h3⟩ := draw_loop zs (c / z) o1 o2 o3 o4 (.sh (.int z)) (ds ++ [.int (c % z)]) (fun x hx => hz x (List.mem_cons_of_mem _ hx)) (by simp only [List.length_append, List.length_cons, List.length_nil] at *; omega)
    refine ⟨c % z :: rs, c', o6', ?_, ⟨Int.emod_nonneg _ (by omega), Int.emod_lt_of_pos _ h0⟩, h3⟩
    have hs : shortL ds = true := shortL_lt (by omega)
    rw [List.map_cons, forL_next (δ1 := [.sh (.int c), o1, o2, o3, o4, .ol ds, .sh (.int z)]) (δ2 := [.sh (.int (c / z)), o1, o2, o3, o4, .ol (ds ++ [.int (c % z)]), .sh (.int z)]) rfl, h2, List.map_cons, List.append_assoc]
    · rfl
    · unfold lb_u_law_draws_0
      walk_at "ev"
      rw [kMod_ok h0]
      walk_at "ev"
      rw [cApp2_ok _ _ _ hs]
      walk_at "ev"
      rw [kDiv_ok (divOk_lt h0 h1 (by omega))]
      walk_at "ev"
theorem pow18 : kPow (.int 10) (.int 18) = .ok (.int 1000000000000000000) := rfl
theorem mul60 {i j : Int} (h : i.natAbs < 1000000000000000000) (h' : j.natAbs < 1000000000000000000) : mulOk i j = true := mulOk_lt (a := 60) (b := 60) (by omega) (by omega) (by omega)
theorem draws_eq (c : Int) (zs : List Int) (hz : ∀ z ∈ zs, 0 < z ∧ z.natAbs < 2 ^ 4000) (hl : zs.length < 16777216) : ∃ rs, f_u_law_draws [.int c, .lst (zs.map D.int)] = .ok (.lst (rs.map D.int)) ∧ Drawn rs zs := by
  have key : ∀ (c : Int) (o2 o3 o4 : O), ∃ rs, finO (tl_u_law_draws_0 [.sh (.int c), .sh (.lst (zs.map D.int)), o2, o3, o4, .no, .no]) = .ok (.lst (rs.map D.int)) ∧ Drawn rs zs := by
    intro c o2 o3 o4
    obtain ⟨rs, c', o6', h2, h3⟩ := draw_loop zs c (.sh (.lst (zs.map D.int))) o2 o3 o4 .no [] hz (by simpa using hl)
    refine ⟨rs, ?_, h3⟩
    unfold tl_u_law_draws_0
    walk_at "ev"
    rw [h2]
    walk_at "ev"
  unfold f_u_law_draws
  rw [runF_eq]
  unfold sm_u_law_draws
  by_cases h : c.natAbs < 1000000000000000000
  · have h1 : decide ((c.natAbs : Int) < 1000000000000000000) = true := decide_eq_true (by omega)
    walk_at "ev"
    rw [pow18]
    walk_at "ev"
    rw [h1]
    walk_at "ev"
    rw [kMul_ok (mul60 h (by omega))]
    walk_at "ev"
    rw [kMod_ok (by omega)]
    walk_at "ev"
    generalize ha : (c * 48271 + 11) % 2147483647 = a
    have ha1 : 0 ≤ a ∧ a < 2147483647 := by omega
    rw [kMul_ok (mul60 (by omega) (by omega))]
    walk_at "ev"
    rw [kMul_ok (mul60 (by omega) (by omega))]
    walk_at "ev"
    rw [kMod_ok (by omega)]
    walk_at "ev"
    generalize hb : (a * a + 40692 * a + c) % 2147483399 = b
    have hb1 : 0 ≤ b ∧ b < 2147483399 := by omega
    rw [kMul_ok (mul60 (by omega) (by omega))]
    walk_at "ev"
    rw [kMod_ok (by omega)]
    walk_at "ev"
    generalize hd : (b * 16807 + a) % 1000000007 = d
    have hd1 : 0 ≤ d ∧ d < 1000000007 := by omega
    rw [kMul_ok (mul60 (by omega) (by omega))]
    walk_at "ev"
    rw [kMul_ok (mulOk_lt (a := 60) (b := 80) (by omega) (by omega) (by omega))]
    walk_at "ev"
    exact key _ _ _ _
  · have h1 : decide ((c.natAbs : Int) < 1000000000000000000) = false := decide_eq_false (by omega)
    walk_at "ev"
    rw [pow18]
    walk_at "ev"
    rw [h1]
    walk_at "ev"
    rw [pow18]
    walk_at "ev"
    exact key _ _ _ _
theorem pow9 : kPow (.int 10) (.int 9) = .ok (.int 1000000000) := rfl

theorem less_q {r s : Rat} {n m : Nat} (hr : Sz n r) (hs : Sz m s) (h : n + m ≤ 3000) : f_less [qD r, qD s] = .ok (qD (r - s)) := by
  have c := bits_mul hr.2 hs.2
  have p1 := r.den_pos
  have p2 := s.den_pos
  have p3 : 0 < r.den * s.den := Nat.mul_pos p1 p2
  have e : ((r.den : Int) * (s.den : Int)).natAbs < 2 ^ 4000 := by
    rw [← Int.natCast_mul, Int.natAbs_natCast]
    exact Nat.lt_of_lt_of_le c (Nat.pow_le_pow_right (by omega) (by omega))
  have e0 : 0 < (r.den : Int) * (s.den : Int) := by rw [← Int.natCast_mul]; omega
  have b1 : (r.den : Int).natAbs < 2 ^ n := by rw [Int.natAbs_natCast]; exact hr.2
  have b2 : (s.den : Int).natAbs < 2 ^ m := by rw [Int.natAbs_natCast]; exact hs.2
  have m1 := mulSz hr.1 b2 (by omega)
  have m2 := mulSz hs.1 b1 (by omega)
  have m3 := mulSz b1 b2 (by omega)
  have m4 := mulSz hr.1 hs.1 (by omega)
  unfold f_less sm_less qD
  k_search [kMul_ok m1, kMul_ok m2, kMul_ok m3, kMul_ok m4, dd_part]
  rw [part_eq _ _ e0 e, low_sub]
  rfl

theorem lplus_q {r s : Rat} {n m : Nat} (hr : Sz n r) (hs : Sz m s) (h : n + m ≤ 3000) : f_u_law_plus [qD r, qD s] = .ok (qD (r + s)) := by
  have c := bits_mul hr.2 hs.2
  have p1 := r.den_pos
  have p2 := s.den_pos
  have p3 : 0 < r.den * s.den := Nat.mul_pos p1 p2
  have e : ((r.den : Int) * (s.den : Int)).natAbs < 2 ^ 4000 := by
    rw [← Int.natCast_mul, Int.natAbs_natCast]
    exact Nat.lt_of_lt_of_le c (Nat.pow_le_pow_right (by omega) (by omega))
  have e0 : 0 < (r.den : Int) * (s.den : Int) := by rw [← Int.natCast_mul]; omega
  have b1 : (r.den : Int).natAbs < 2 ^ n := by rw [Int.natAbs_natCast]; exact hr.2
  have b2 : (s.den : Int).natAbs < 2 ^ m := by rw [Int.natAbs_natCast]; exact hs.2
  have m1 := mulSz hr.1 b2 (by omega)
  have m2 := mulSz hs.1 b1 (by omega)
  have m3 := mulSz b1 b2 (by omega)
  have m4 := mulSz hr.1 hs.1 (by omega)
  unfold f_u_law_plus sm_u_law_plus qD
  k_search [kMul_ok m1, kMul_ok m2, kMul_ok m3, kMul_ok m4]
  rw [llow_eq _ _ (by omega) e, low_add]
  rfl

def natL (cs : List Nat) : List D := cs.map fun n : Nat => D.int (n : Int)
def lcmL (cs : List Nat) : Nat := cs.foldl Nat.lcm 1
theorem natL_len (cs : List Nat) : (natL cs).length = cs.length := by unfold natL; rw [List.length_map]
theorem natL_app (as bs : List Nat) : natL (as ++ bs) = natL as ++ natL bs := by unfold natL; rw [List.map_append]
theorem p200 : (2 : Nat) ^ 200 ≤ 2 ^ 4000 := Nat.pow_le_pow_right (by omega) (by omega)
theorem lcm_le (a b : Nat) : Nat.lcm a b ≤ a * b := Nat.div_le_self _ _
theorem lcm_int (a b : Nat) (h : 0 < b) : (a : Int) * ((b : Int) / (Int.gcd (a : Int) (b : Int) : Int)) = ((Nat.lcm a b : Nat) : Int) ∧ (a : Int) * (b : Int) / (Int.gcd (a : Int) (b : Int) : Int) = ((Nat.lcm a b : Nat) : Int) := by
  have e : Int.gcd (a : Int) (b : Int) = Nat.gcd a b := rfl
  rw [e, ← Int.natCast_mul, ← Int.natCast_ediv, ← Int.natCast_ediv, ← Int.natCast_mul, ← Nat.mul_div_assoc _ (Nat.gcd_dvd_right a b)]
  exact ⟨rfl, rfl⟩
theorem least_bits {a b L : Nat} (h : a * 128 ^ (L + 1) < 2 ^ 200) (hb : b ≤ 120) : a < 2 ^ 200 ∧ a * b < 2 ^ 200 ∧ Nat.lcm a b * 128 ^ L < 2 ^ 200 := by
  have h1 : 1 ≤ 128 ^ L := Nat.one_le_pow _ _ (by omega)
  have h2 : a * 128 ≤ a * 128 ^ (L + 1) := Nat.mul_le_mul_left _ (by rw [Nat.pow_succ]; omega)
  have h3 : a * b ≤ a * 128 := Nat.mul_le_mul_left _ (by omega)
  have h4 : Nat.lcm a b * 128 ^ L ≤ a * 128 * 128 ^ L := Nat.mul_le_mul_right _ (Nat.le_trans (lcm_le a b) h3)
  have h5 : a * 128 * 128 ^ L = a * 128 ^ (L + 1) := by rw [Nat.pow_succ, Nat.mul_assoc, Nat.mul_comm 128]
  have h6 : a ≤ a * 128 := Nat.le_mul_of_pos_right _ (by omega)
  omega
theorem least_loop (o0 : O) : ∀ (cs : List Nat) (a : Nat) (o2 : O), 0 < a → a * 128 ^ cs.length < 2 ^ 200 → (∀ c ∈ cs, 1 ≤ c ∧ c ≤ 120) → ∃ o2', forL (gtN 2) lb_least_common_0 (natL cs) [o0, .sh (.int (a : Nat)), o2] = .nx [o0, .sh (.int ((cs.foldl Nat.lcm a : Nat) : Int)), o2']
  | [], a, o2, _, _, _ => ⟨o2, rfl⟩
  | b :: cs, a, o2, ha, hl, hc => by
    have hb := hc b (List.mem_cons_self ..)
    rw [List.length_cons] at hl
    obtain ⟨b1, b2, b3⟩ := least_bits hl hb.2
    obtain ⟨o2', w⟩ := least_loop o0 cs (Nat.lcm a b) (.sh (.int (b : Nat))) (Nat.lcm_pos ha (by omega)) b3 (fun c h => hc c (List.mem_cons_of_mem _ h))
    refine ⟨o2', ?_⟩
    have big := p200
    have sm : (2 : Nat) ^ 10 ≤ 2 ^ 200 := Nat.pow_le_pow_right (by omega) (by omega)
    have ce := common_eq (a : Int) (b : Int) (by omega)
    have e := (lcm_int a b (by omega)).1
    have g := gcd_div (a := (a : Int)) (b := (b : Int)) (x := (b : Int)) (by omega) (by omega)
    have dl : (b : Int) / (Int.gcd (a : Int) (b : Int) : Int) ≤ (b : Int) := Int.ediv_le_self _ (by omega)
    have d0 : 0 ≤ (b : Int) / (Int.gcd (a : Int) (b : Int) : Int) := Int.ediv_nonneg (by omega) (by omega)
    have mo : mulOk (a : Int) ((b : Int) / (Int.gcd (a : Int) (b : Int) : Int)) = true := mulOk_lt (a := 200) (b := 10) (by omega) (by omega) (by omega)
    show forL (gtN 2) lb_least_common_0 (.int (b : Nat) :: natL cs) _ = _
    rw [forL_next (δ1 := [o0, .sh (.int (a : Nat)), .sh (.int (b : Nat))]) (δ2 := [o0, .sh (.int ((Nat.lcm a b : Nat) : Int)), .sh (.int (b : Nat))]) rfl, w, List.foldl_cons]
    unfold lb_least_common_0
    k_search [ce, kDiv_ok g, kMul_ok mo, e]
theorem bits_len {cs : List Nat} (h : cs.length ≤ 20) : 1 * 128 ^ cs.length < 2 ^ 200 := by
  have : 128 ^ cs.length ≤ 128 ^ 20 := Nat.pow_le_pow_right (by omega) h
  have e : (128 : Nat) ^ 20 = 2 ^ 140 := by decide
  have e2 : (2 : Nat) ^ 140 < 2 ^ 200 := Nat.pow_lt_pow_right (by omega) (by omega)
  omega
def In120 (cs : List Nat) : Prop := ∀ c ∈ cs, 1 ≤ c ∧ c ≤ 120
theorem least_ok {cs : List Nat} (h : In120 cs) (hl : cs.length ≤ 20) : f_least_common [.lst (natL cs)] = .ok (.int ((lcmL cs : Nat) : Int)) := by
  obtain ⟨o2, w⟩ := least_loop (.sh (.lst (natL cs))) cs 1 .no (by omega) (bits_len hl) h
  have w' : forL (gtN 2) lb_least_common_0 (natL cs) [.sh (.lst (natL cs)), .sh (.int 1), .no] = .nx [.sh (.lst (natL cs)), .sh (.int ((lcmL cs : Nat) : Int)), o2] := w
  unfold f_least_common sm_least_common
  k_search [w']
theorem lleast_loop (o0 : O) : ∀ (cs : List Nat) (a : Nat) (o2 : O), 0 < a → a * 128 ^ cs.length < 2 ^ 200 → (∀ c ∈ cs, 1 ≤ c ∧ c ≤ 120) → ∃ o2', forL (gtN 2) lb_u_law_least_0 (natL cs) [o0, .sh (.int (a : Nat)), o2] = .nx [o0, .sh (.int ((cs.foldl Nat.lcm a : Nat) : Int)), o2']
  | [], a, o2, _, _, _ => ⟨o2, rfl⟩
  | b :: cs, a, o2, ha, hl, hc => by
    have hb := hc b (List.mem_cons_self ..)
    rw [List.length_cons] at hl
    obtain ⟨b1, b2, b3⟩ := least_bits hl hb.2
    obtain ⟨o2', w⟩ := lleast_loop o0 cs (Nat.lcm a b) (.sh (.int (b : Nat))) (Nat.lcm_pos ha (by omega)) b3 (fun c h => hc c (List.mem_cons_of_mem _ h))
    refine ⟨o2', ?_⟩
    have big := p200
    have sm : (2 : Nat) ^ 10 ≤ 2 ^ 200 := Nat.pow_le_pow_right (by omega) (by omega)
    have ce := lgcd_eq (a : Int) (b : Int) (by omega)
    have e := (lcm_int a b (by omega)).2
    have g := gcd_div (a := (a : Int)) (b := (b : Int)) (x := (a : Int) * (b : Int)) (by omega) (by omega)
    have mo : mulOk (a : Int) (b : Int) = true := mulOk_lt (a := 200) (b := 10) (by omega) (by omega) (by omega)
    show forL (gtN 2) lb_u_law_least_0 (.int (b : Nat) :: natL cs) _ = _
    rw [forL_next (δ1 := [o0, .sh (.int (a : Nat)), .sh (.int (b : Nat))]) (δ2 := [o0, .sh (.int ((Nat.lcm a b : Nat) : Int)), .sh (.int (b : Nat))]) rfl, w, List.foldl_cons]
    unfold lb_u_law_least_0
    k_search [ce, kMul_ok mo, kDiv_ok g, e]
theorem lleast_ok {cs : List Nat} (h : In120 cs) (hl : cs.length ≤ 20) : f_u_law_least [.lst (natL cs)] = .ok (.int ((lcmL cs : Nat) : Int)) := by
  obtain ⟨o2, w⟩ := lleast_loop (.sh (.lst (natL cs))) cs 1 .no (by omega) (bits_len hl) h
  have w' : forL (gtN 2) lb_u_law_least_0 (natL cs) [.sh (.lst (natL cs)), .sh (.int 1), .no] = .nx [.sh (.lst (natL cs)), .sh (.int ((lcmL cs : Nat) : Int)), o2] := w
  unfold f_u_law_least sm_u_law_least
  k_search [w']
theorem lcmF_pos : ∀ {cs : List Nat} {a : Nat}, 0 < a → In120 cs → 0 < cs.foldl Nat.lcm a
  | [], _, h, _ => h
  | c :: cs, a, h, hc => lcmF_pos (cs := cs) (Nat.lcm_pos h (by have := hc c (List.mem_cons_self ..); omega)) fun x hx => hc x (List.mem_cons_of_mem _ hx)
theorem lcmL_pos {cs : List Nat} (h : In120 cs) : 0 < lcmL cs := lcmF_pos (by omega) h
theorem lcmF_le : ∀ (cs : List Nat) (a : Nat), In120 cs → cs.foldl Nat.lcm a ≤ a * 128 ^ cs.length
  | [], a, _ => by simp
  | c :: cs, a, h => by
    have hc := h c (List.mem_cons_self ..)
    have ih := lcmF_le cs (Nat.lcm a c) fun x hx => h x (List.mem_cons_of_mem _ hx)
    have h1 : Nat.lcm a c ≤ a * 128 := Nat.le_trans (lcm_le a c) (Nat.mul_le_mul_left _ (by omega))
    have h2 : Nat.lcm a c * 128 ^ cs.length ≤ a * 128 * 128 ^ cs.length := Nat.mul_le_mul_right _ h1
    rw [List.foldl_cons, List.length_cons, Nat.pow_succ]
    have h3 : a * 128 * 128 ^ cs.length = a * (128 ^ cs.length * 128) := by rw [Nat.mul_assoc, Nat.mul_comm 128]
    omega
theorem lcmL_lt {cs : List Nat} (h : In120 cs) (hl : cs.length ≤ 20) : lcmL cs < 2 ^ 150 := by
  have := lcmF_le cs 1 h
  have h1 : 128 ^ cs.length ≤ 128 ^ 20 := Nat.pow_le_pow_right (by omega) hl
  have e : (128 : Nat) ^ 20 = 2 ^ 140 := by decide
  have e2 : (2 : Nat) ^ 140 < 2 ^ 150 := Nat.pow_lt_pow_right (by omega) (by omega)
  unfold lcmL
  omega
theorem lcmL_perm {as bs : List Nat} (h : as.Perm bs) : lcmL as = lcmL bs := by
  unfold lcmL
  exact h.foldl_eq' (fun x _ y _ z => by rw [Nat.lcm_assoc, Nat.lcm_comm x y, ← Nat.lcm_assoc]) 1
theorem look_turns_ok {t : Int} (h : 1 ≤ t ∧ t ≤ 200) : f_look_turns [.int t] = .ok .non := by
  have e1 : decide (t < 1) = false := decide_eq_false (by omega)
  have e2 : decide (t > 200) = false := decide_eq_false (by omega)
  have c : c_MOST_TURNS = .int 200 := rfl
  unfold f_look_turns sm_look_turns
  k_search [e1, c, e2]
theorem look_count_ok {t : Int} (h : 1 ≤ t ∧ t ≤ 5000) : f_look_count [.int t] = .ok .non := by
  have e1 : decide (t < 1) = false := decide_eq_false (by omega)
  have e2 : decide (t > 5000) = false := decide_eq_false (by omega)
  have c : c_MOST_COUNT = .int 5000 := rfl
  unfold f_look_count sm_look_count
  k_search [e1, c, e2]
theorem lookc_step (o0 : O) {c : Nat} (h : 2 ≤ c ∧ c ≤ 120) : lb_look_circles_0 [o0, .sh (.int (c : Nat))] = .nx [o0, .sh (.int (c : Nat))] := by
  have e1 : decide ((c : Int) < 2) = false := decide_eq_false (by omega)
  have e2 : decide ((c : Int) > 120) = false := decide_eq_false (by omega)
  have c1 : c_LEAST_CIRCLE = .int 2 := rfl
  have c2 : c_MOST_CIRCLE = .int 120 := rfl
  unfold lb_look_circles_0
  k_search [c1, e1, c2, e2]
theorem lookc_loop (o0 : O) : ∀ (cs : List Nat) (o1 : O), (∀ c ∈ cs, 2 ≤ c ∧ c ≤ 120) → ∃ o1', forL (gtN 1) lb_look_circles_0 (natL cs) [o0, o1] = .nx [o0, o1']
  | [], o1, _ => ⟨o1, rfl⟩
  | c :: cs, o1, h => by
    obtain ⟨o1', w⟩ := lookc_loop o0 cs (.sh (.int (c : Nat))) fun x hx => h x (List.mem_cons_of_mem _ hx)
    refine ⟨o1', ?_⟩
    show forL (gtN 1) lb_look_circles_0 (.int (c : Nat) :: natL cs) _ = _
    rw [forL_next (δ1 := [o0, .sh (.int (c : Nat))]) (δ2 := [o0, .sh (.int (c : Nat))]) rfl (lookc_step o0 (h c (List.mem_cons_self ..))), w]
theorem forL_rt {gt : D → Sm → Res Sm} {b : Sm → Out} {d : D} {ds : List D} {δ δ1 : Sm} {r : D} (h1 : gt d δ = .ok δ1) (h2 : b δ1 = .rt r) : forL gt b (d :: ds) δ = .rt r := by
  show (match gt d δ with | .ok δ1 => _ | _ => _) = _
  rw [h1]
  show (match b δ1 with | .nx δ2 => _ | .ct δ2 => _ | .bk δ2 => _ | .rt r => _ | .xc c fs δ2 => _ | .bad => _) = _
  rw [h2]
theorem look_circles_ok {cs : List Nat} (h : ∀ c ∈ cs, 2 ≤ c ∧ c ≤ 120) : f_look_circles [.lst (natL cs)] = .ok .non := by
  obtain ⟨o1, w⟩ := lookc_loop (.sh (.lst (natL cs))) cs .no h
  unfold f_look_circles sm_look_circles
  k_search [w]
def In2 (cs : List Nat) : Prop := ∀ c ∈ cs, 2 ≤ c ∧ c ≤ 120
theorem In2.i (h : In2 cs) : In120 cs := fun c hc => by have := h c hc; omega
theorem fin_mul {t : Nat} {cs : List Nat} (ht : t ≤ 200) (h : In120 cs) (hl : cs.length ≤ 20) : mulOk (t : Int) ((lcmL cs : Nat) : Int) = true := by
  have := lcmL_lt h hl
  exact mulOk_lt (a := 10) (b := 150) (by omega) (by omega) (by omega)
theorem finest_ok {t : Nat} {cs : List Nat} (ht : 1 ≤ t ∧ t ≤ 200) (h : In2 cs) (hl : cs.length ≤ 20) : f_finest [.int (t : Nat), .lst (natL cs)] = .ok (.int ((t * lcmL cs : Nat) : Int)) := by
  have e : ((t : Int) * ((lcmL cs : Nat) : Int)) = ((t * lcmL cs : Nat) : Int) := by rw [Int.natCast_mul]
  unfold f_finest sm_finest
  k_search [look_turns_ok (t := (t : Int)) (by omega), look_circles_ok h, least_ok h.i hl, kMul_ok (fin_mul ht.2 h.i hl), e]
end
section
def inn (p : Nat) : Nat → Nat → Nat → Nat → Nat × Nat × Nat
  | 0, c, m, k => (c, m, k)
  | n + 1, c, m, k => if c % p = 0 then inn p n (c / p) (m * p) (k + 1) else (c, m, k)
theorem inn_spec {p : Nat} (hp : 2 ≤ p) : ∀ (n c m k : Nat), 1 ≤ c → c ≤ n → ∃ c' j, inn p n c m k = (c', m * p ^ j, k + j) ∧ c = c' * p ^ j ∧ ¬ p ∣ c' ∧ 1 ≤ c'
  | 0, c, m, k, h1, h2 => by omega
  | n + 1, c, m, k, h1, h2 => by
    unfold inn
    by_cases z : c % p = 0
    · rw [if_pos z]
      have e := Nat.div_add_mod c p
      rw [z, Nat.add_zero] at e
      have q1 : 1 ≤ c / p := by
        rcases Nat.eq_zero_or_pos (c / p) with y | y
        · rw [y, Nat.mul_zero] at e; omega
        · exact y
      have q2 : c / p < c := Nat.div_lt_self (by omega) (by omega)
      obtain ⟨c', j, r1, r2, r3, r4⟩ := inn_spec hp n (c / p) (m * p) (k + 1) q1 (by omega)
      refine ⟨c', j + 1, ?_, ?_, r3, r4⟩
      · rw [r1, Nat.pow_succ, Nat.mul_assoc, Nat.mul_comm p, Nat.add_assoc, Nat.add_comm 1]
      · rw [Nat.pow_succ, ← Nat.mul_assoc, ← r2, Nat.mul_comm]
        exact e.symm
    · rw [if_neg z]
      exact ⟨c, 0, by simp, by simp, fun d => z (Nat.mod_eq_zero_of_dvd d), h1⟩
theorem mod_b (c p : Nat) : (((c : Int) % (p : Int)) == 0) = decide (c % p = 0) := by
  rw [← Int.natCast_emod]
  rw [Bool.eq_iff_iff, beq_iff_eq, decide_eq_true_eq]
  omega
theorem inn_loop1 {p : Nat} (hp : 2 ≤ p) (hp2 : p ≤ 10000) (o1 : O) : ∀ (n c m k F : Nat), 1 ≤ c → c ≤ n → n < F → m * c ≤ 10000 → k + n ≤ 100000 → whL lt_primes_in_1 lb_primes_in_1 F [.sh (.int (c : Nat)), o1, .sh (.int (p : Nat)), .sh (.int (k : Nat)), .sh (.int (m : Nat))] = .nx [.sh (.int (((inn p n c m k).1 : Nat) : Int)), o1, .sh (.int (p : Nat)), .sh (.int (((inn p n c m k).2.2 : Nat) : Int)), .sh (.int (((inn p n c m k).2.1 : Nat) : Int))]
  | 0, c, m, k, F, h1, h2, _, _, _ => by omega
  | n + 1, c, m, k, 0, _, _, h, _, _ => by omega
  | n + 1, c, m, k, F + 1, h1, h2, h3, h4, h5 => by
    have big := p200
    have sm : (2 : Nat) ^ 20 ≤ 2 ^ 200 := Nat.pow_le_pow_right (by omega) (by omega)
    unfold inn
    by_cases z : c % p = 0
    · rw [if_pos z]
      have e := Nat.div_add_mod c p
      rw [z, Nat.add_zero] at e
      have q1 : 1 ≤ c / p := by
        rcases Nat.eq_zero_or_pos (c / p) with y | y
        · rw [y, Nat.mul_zero] at e; omega
        · exact y
      have q2 : c / p < c := Nat.div_lt_self (by omega) (by omega)
      have q3 : m * p * (c / p) = m * c := by rw [Nat.mul_assoc, e]
      have mc : m ≤ m * c := Nat.le_mul_of_pos_right _ (by omega)
      have cm : c ≤ 10000 ∨ m = 0 := by
        rcases Nat.eq_zero_or_pos m with y | y
        · exact .inr y
        · exact .inl (Nat.le_trans (Nat.le_mul_of_pos_left _ y) h4)
      have w := inn_loop1 hp hp2 o1 n (c / p) (m * p) (k + 1) F q1 (by omega) (by omega) (by omega) (by omega)
      rw [← w]
      have b := mod_b c p
      rw [decide_eq_true z] at b
      refine whL_next (δ2 := [.sh (.int ((c / p : Nat) : Int)), o1, .sh (.int (p : Nat)), .sh (.int ((k + 1 : Nat) : Int)), .sh (.int ((m * p : Nat) : Int))]) ?_ ?_
      · unfold lt_primes_in_1
        k_search [kMod_ok (show (0 : Int) < (p : Int) by omega), b]
      · have d : divOk (c : Int) (p : Int) = true := divOk_lt (b := 200) (by omega) (by omega) (by omega)
        have mo : mulOk (m : Int) (p : Int) = true := mulOk_lt (a := 20) (b := 20) (by omega) (by omega) (by omega)
        unfold lb_primes_in_1
        k_search [kDiv_ok d, kMul_ok mo]
        rw [Int.natCast_ediv, Int.natCast_mul]
        rfl
    · rw [if_neg z]
      have b := mod_b c p
      rw [decide_eq_false z] at b
      refine whL_stop ?_
      unfold lt_primes_in_1
      k_search [kMod_ok (show (0 : Int) < (p : Int) by omega), b]
theorem inn_loop2 {p : Nat} (hp : 2 ≤ p) (hp2 : p ≤ 10000) (o0 o1 o2 o3 : O) : ∀ (n c m k F : Nat), 1 ≤ c → c ≤ n → n < F → m * c ≤ 10000 → k + n ≤ 100000 → whL lt_u_law_bar_1 lb_u_law_bar_1 F [o0, o1, o2, o3, .sh (.int (c : Nat)), .sh (.int (p : Nat)), .sh (.int (k : Nat)), .sh (.int (m : Nat))] = .nx [o0, o1, o2, o3, .sh (.int (((inn p n c m k).1 : Nat) : Int)), .sh (.int (p : Nat)), .sh (.int (((inn p n c m k).2.2 : Nat) : Int)), .sh (.int (((inn p n c m k).2.1 : Nat) : Int))]
  | 0, c, m, k, F, h1, h2, _, _, _ => by omega
  | n + 1, c, m, k, 0, _, _, h, _, _ => by omega
  | n + 1, c, m, k, F + 1, h1, h2, h3, h4, h5 => by
    have big := p200
    have sm : (2 : Nat) ^ 20 ≤ 2 ^ 200 := Nat.pow_le_pow_right (by omega) (by omega)
    unfold inn
    by_cases z : c % p = 0
    · rw [if_pos z]
      have e := Nat.div_add_mod c p
      rw [z, Nat.add_zero] at e
      have q1 : 1 ≤ c / p := by
        rcases Nat.eq_zero_or_pos (c / p) with y | y
        · rw [y, Nat.mul_zero] at e; omega
        · exact y
      have q2 : c / p < c := Nat.div_lt_self (by omega) (by omega)
      have q3 : m * p * (c / p) = m * c := by rw [Nat.mul_assoc, e]
      have mc : m ≤ m * c := Nat.le_mul_of_pos_right _ (by omega)
      have cm : c ≤ 10000 ∨ m = 0 := by
        rcases Nat.eq_zero_or_pos m with y | y
        · exact .inr y
        · exact .inl (Nat.le_trans (Nat.le_mul_of_pos_left _ y) h4)
      have w := inn_loop2 hp hp2 o0 o1 o2 o3 n (c / p) (m * p) (k + 1) F q1 (by omega) (by omega) (by omega) (by omega)
      rw [← w]
      have b := mod_b c p
      rw [decide_eq_true z] at b
      refine whL_next (δ2 := [o0, o1, o2, o3, .sh (.int ((c / p : Nat) : Int)), .sh (.int (p : Nat)), .sh (.int ((k + 1 : Nat) : Int)), .sh (.int ((m * p : Nat) : Int))]) ?_ ?_
      · unfold lt_u_law_bar_1
        k_search [kMod_ok (show (0 : Int) < (p : Int) by omega), b]
      · have d : divOk (c : Int) (p : Int) = true := divOk_lt (b := 200) (by omega) (by omega) (by omega)
        have mo : mulOk (m : Int) (p : Int) = true := mulOk_lt (a := 20) (b := 20) (by omega) (by omega) (by omega)
        unfold lb_u_law_bar_1
        k_search [kDiv_ok d, kMul_ok mo]
        rw [Int.natCast_ediv, Int.natCast_mul]
        rfl
    · rw [if_neg z]
      have b := mod_b c p
      rw [decide_eq_false z] at b
      refine whL_stop ?_
      unfold lt_u_law_bar_1
      k_search [kMod_ok (show (0 : Int) < (p : Int) by omega), b]
def facs : Nat → Nat → Nat → List (Nat × Nat × Nat)
  | 0, _, _ => []
  | n + 1, c, p => if 1 < c then (if 0 < (inn p c c 1 0).2.2 then [(p, (inn p c c 1 0).2.2, (inn p c c 1 0).2.1)] else []) ++ facs n (inn p c c 1 0).1 (p + 1) else []
def NoDiv (c p : Nat) : Prop := ∀ d, 2 ≤ d → d < p → ¬ d ∣ c
theorem NoDiv.le {c p : Nat} (h : NoDiv c p) (hc : 1 < c) : p ≤ c := by
  by_cases z : p ≤ c
  · exact z
  · exact absurd (Nat.dvd_refl c) (h c (by omega) (by omega))
theorem turn_spec {c p : Nat} (hp : 2 ≤ p) (hc : 1 < c) (hn : NoDiv c p) : ∃ c' j, inn p c c 1 0 = (c', p ^ j, j) ∧ c = c' * p ^ j ∧ 1 ≤ c' ∧ c' ≤ c ∧ NoDiv c' (p + 1) := by
  obtain ⟨c', j, e1, e2, e3, e4⟩ := inn_spec hp c c 1 0 (by omega) (Nat.le_refl _)
  rw [Nat.one_mul, Nat.zero_add] at e1
  have dv : c' ∣ c := ⟨p ^ j, e2⟩
  refine ⟨c', j, e1, e2, e4, Nat.le_of_dvd (by omega) dv, fun d h1 h2 h3 => ?_⟩
  rcases Nat.lt_or_ge d p with z | z
  · exact hn d h1 z (Nat.dvd_trans h3 dv)
  · have : d = p := by omega
    rw [this] at h3
    exact e3 h3
theorem facs_dvd {B : Nat} : ∀ (n c p : Nat), 2 ≤ p → 1 ≤ c → NoDiv c p → c + 1 ≤ p + n → (∀ t ∈ facs n c p, t.2.2 ∣ B) → c ∣ B
  | 0, c, p, hp, hc, hn, hl, _ => by
    by_cases z : 1 < c
    · have := hn.le z
      omega
    · rw [show c = 1 by omega]
      exact Nat.one_dvd B
  | n + 1, c, p, hp, hc, hn, hl, h => by
    by_cases z : 1 < c
    · have pc := hn.le z
      obtain ⟨c', j, e1, e2, e3, e4, e5⟩ := turn_spec hp z hn
      unfold facs at h
      rw [if_pos z, e1] at h
      have ih := facs_dvd (B := B) n c' (p + 1) (by omega) e3 e5 (by omega) fun t ht => h t (List.mem_append_right _ ht)
      rcases Nat.eq_zero_or_pos j with y | y
      · rw [y, Nat.pow_zero, Nat.mul_one] at e2
        rw [e2]
        exact ih
      · have hm : p ^ j ∣ B := by
          have := h (p, j, p ^ j) (List.mem_append_left _ (by dsimp only; rw [if_pos y]; exact List.mem_singleton.mpr rfl))
          exact this
        have cop : Nat.Coprime c' p := by
          have g1 := Nat.gcd_dvd_left c' p
          have g2 := Nat.gcd_dvd_right c' p
          have g0 : 0 < Nat.gcd c' p := Nat.gcd_pos_of_pos_left _ (by omega)
          have g3 := Nat.le_of_dvd (by omega) g2
          rcases Nat.lt_or_ge (Nat.gcd c' p) 2 with w | w
          · exact Nat.coprime_iff_gcd_eq_one.mpr (by omega)
          · exact absurd g1 (e5 _ w (by omega))
        rw [e2]
        exact (cop.pow_right j).mul_dvd_of_dvd_of_dvd ih hm
    · rw [show c = 1 by omega]
      exact Nat.one_dvd B
def facD (t : Nat × Nat × Nat) : D := .tup [.int (t.1 : Nat), .int (t.2.1 : Nat), .int (t.2.2 : Nat)]
theorem facs_loop : ∀ (n c p : Nat) (acc : List D) (F : Nat) (o3 o4 : O), 2 ≤ p → 1 ≤ c → c ≤ 10000 → NoDiv c p → c + 1 ≤ p + n → n < F → acc.length + n ≤ 1000000 →
    ∃ c' p' o3' o4', whL lt_primes_in_0 lb_primes_in_0 F [.sh (.int (c : Nat)), .ol acc, .sh (.int (p : Nat)), o3, o4] = .nx [c', .ol (acc ++ (facs n c p).map facD), p', o3', o4']
  | n, c, p, acc, 0, _, _, _, _, _, _, _, h, _ => by omega
  | n, c, p, acc, F + 1, o3, o4, hp, hc, hc2, hn, hl, hF, ha => by
    by_cases z : 1 < c
    · have pc := hn.le z
      cases n with
      | zero => omega
      | succ n =>
        obtain ⟨c', j, e1, e2, e3, e4, e5⟩ := turn_spec hp z hn
        have big := p200
        have il := inn_loop1 (p := p) hp (by omega) (.ol acc) c c 1 0 fuelTop hc (Nat.le_refl _) (fuelTop_lt (by
          have sm : (2 : Nat) ^ 20 ≤ 2 ^ 200 := Nat.pow_le_pow_right (by omega) (by omega)
          omega)) (by omega) (by omega)
        rw [e1] at il
        dsimp only at il
        have il' : whL lt_primes_in_1 lb_primes_in_1 fuelTop [.sh (.int (c : Nat)), .ol acc, .sh (.int (p : Nat)), .sh (.int 0), .sh (.int 1)] = .nx [.sh (.int (c' : Nat)), .ol acc, .sh (.int (p : Nat)), .sh (.int (j : Nat)), .sh (.int ((p ^ j : Nat) : Int))] := il
        have gt1 : decide ((c : Int) > 1) = true := decide_eq_true (by omega)
        have nxt : ∀ acc' : List D, acc' = acc ++ (if 0 < j then [(p, j, p ^ j)] else []).map facD → lb_primes_in_0 [.sh (.int (c : Nat)), .ol acc, .sh (.int (p : Nat)), o3, o4] = .nx [.sh (.int (c' : Nat)), .ol acc', .sh (.int ((p + 1 : Nat) : Int)), .sh (.int (j : Nat)), .sh (.int ((p ^ j : Nat) : Int))] := by
          intro acc' ea
          have sh : shortL acc = true := shortL_lt (by omega)
          unfold lb_primes_in_0 tl_primes_in_0
          by_cases y : 0 < j
          · have g : decide ((j : Int) > 0) = true := decide_eq_true (by omega)
            rw [if_pos y] at ea
            k_search [il', g, cApp2_ok _ _ _ sh]
            rw [ea]
            rfl
          · have g : decide ((j : Int) > 0) = false := decide_eq_false (by omega)
            rw [if_neg y, List.map_nil, List.append_nil] at ea
            k_search [il', g]
            rw [ea]
            rfl
        obtain ⟨c2, p2, q3, q4, w⟩ := facs_loop n c' (p + 1) (acc ++ (if 0 < j then [(p, j, p ^ j)] else []).map facD) F (.sh (.int (j : Nat))) (.sh (.int ((p ^ j : Nat) : Int))) (by omega) e3 (by omega) e5 (by omega) (by omega) (by
          rw [List.length_append, List.length_map]
          split <;> simp only [List.length_cons, List.length_nil] <;> omega)
        refine ⟨c2, p2, q3, q4, ?_⟩
        rw [whL_next (δ2 := [.sh (.int (c' : Nat)), .ol (acc ++ (if 0 < j then [(p, j, p ^ j)] else []).map facD), .sh (.int ((p + 1 : Nat) : Int)), .sh (.int (j : Nat)), .sh (.int ((p ^ j : Nat) : Int))]) (by unfold lt_primes_in_0; k_search [gt1]) (nxt _ rfl), w]
        have fe : facs (n + 1) c p = (if 0 < j then [(p, j, p ^ j)] else []) ++ facs n c' (p + 1) := by
          rw [facs, if_pos z, e1]
        rw [fe, List.map_append, List.append_assoc]
    · have c1 : c = 1 := by omega
      have gt1 : decide ((c : Int) > 1) = false := decide_eq_false (by omega)
      refine ⟨.sh (.int (c : Nat)), .sh (.int (p : Nat)), o3, o4, ?_⟩
      rw [whL_stop (by unfold lt_primes_in_0; k_search [gt1])]
      cases n with
      | zero => simp [facs]
      | succ n => simp [facs, z]
theorem nodiv2 (c : Nat) : NoDiv c 2 := fun d h1 h2 => by omega
def facL (c : Nat) : List (Nat × Nat × Nat) := facs c c 2
theorem primes_ok {c : Nat} (h1 : 1 ≤ c) (h2 : c ≤ 5000) : f_primes_in [.int (c : Nat)] = .ok (.lst ((facL c).map facD)) := by
  have big := p200
  have sm : (2 : Nat) ^ 20 ≤ 2 ^ 200 := Nat.pow_le_pow_right (by omega) (by omega)
  obtain ⟨c', p', o3, o4, w⟩ := facs_loop c c 2 [] fuelTop .no .no (by omega) h1 (by omega) (nodiv2 c) (by omega) (fuelTop_lt (by omega)) (by rw [List.length_nil]; omega)
  have w' : whL lt_primes_in_0 lb_primes_in_0 fuelTop [.sh (.int (c : Nat)), .ol [], .sh (.int 2), .no, .no] = .nx [c', .ol ([] ++ (facs c c 2).map facD), p', o3, o4] := w
  rw [List.nil_append] at w'
  unfold f_primes_in sm_primes_in
  k_search [w']
  rfl
def barsB (B : Nat) (t : Nat × Nat × Nat) : Bool := !decide (B % t.2.2 = 0)
def barO (B c : Nat) : Option (Nat × Nat × Nat) := (facL c).find? (barsB B)
def barD (B c : Nat) : D := match barO B c with
  | some t => .tup [.int (t.1 : Nat), .int (t.2.1 : Nat)]
  | none => .non
theorem facs_pos : ∀ (n c p : Nat), 2 ≤ p → 1 ≤ c → NoDiv c p → ∀ t ∈ facs n c p, 0 < t.2.2 ∧ t.2.2 ≤ c
  | 0, c, p, _, _, _, t, ht => by cases ht
  | n + 1, c, p, hp, hc, hn, t, ht => by
    unfold facs at ht
    by_cases z : 1 < c
    · rw [if_pos z] at ht
      obtain ⟨c', j, e1, e2, e3, e4, e5⟩ := turn_spec hp z hn
      rw [e1] at ht
      have pj : 0 < p ^ j := Nat.pow_pos (by omega)
      rcases List.mem_append.mp ht with y | y
      · dsimp only at y
        split at y
        · rw [List.mem_singleton.mp y]
          refine ⟨pj, Nat.le_of_dvd (by omega) ⟨c', ?_⟩⟩
          rw [Nat.mul_comm]
          exact e2
        · cases y
      · have := facs_pos n c' (p + 1) (by omega) e3 e5 t y
        exact ⟨this.1, by omega⟩
    · rw [if_neg z] at ht
      cases ht
theorem bar_loop (o0 o1 o2 : O) {B : Nat} : ∀ (ts : List (Nat × Nat × Nat)) (o4 o5 o6 : O), (∀ t ∈ ts, 0 < t.2.2) →
    match ts.find? (barsB B) with
    | some t => forL (gtT 3 (gtCons (gtN 4) (gtCons (gtN 5) (gtCons (gtN 6) gtNil)))) lb_bar_0 (ts.map facD) [o0, o1, o2, .sh (.int (B : Nat)), o4, o5, o6] = .rt (.tup [.int (t.1 : Nat), .int (t.2.1 : Nat)])
    | none => ∃ q4 q5 q6, forL (gtT 3 (gtCons (gtN 4) (gtCons (gtN 5) (gtCons (gtN 6) gtNil)))) lb_bar_0 (ts.map facD) [o0, o1, o2, .sh (.int (B : Nat)), o4, o5, o6] = .nx [o0, o1, o2, .sh (.int (B : Nat)), q4, q5, q6]
  | [], o4, o5, o6, _ => ⟨o4, o5, o6, rfl⟩
  | t :: ts, o4, o5, o6, h => by
    have ht := h t (List.mem_cons_self ..)
    have g : gtT 3 (gtCons (gtN 4) (gtCons (gtN 5) (gtCons (gtN 6) gtNil))) (facD t) [o0, o1, o2, .sh (.int (B : Nat)), o4, o5, o6] = .ok [o0, o1, o2, .sh (.int (B : Nat)), .sh (.int (t.1 : Nat)), .sh (.int (t.2.1 : Nat)), .sh (.int (t.2.2 : Nat))] := by
      unfold facD
      walk_at "ev"
    have b := mod_b B t.2.2
    have km := kMod_ok (i := (B : Int)) (j := (t.2.2 : Int)) (by omega)
    rw [List.find?_cons]
    by_cases z : B % t.2.2 = 0
    · have e : barsB B t = false := by unfold barsB; rw [decide_eq_true z]; rfl
      rw [e]
      rw [decide_eq_true z] at b
      have ih := bar_loop o0 o1 o2 (B := B) ts (.sh (.int (t.1 : Nat))) (.sh (.int (t.2.1 : Nat))) (.sh (.int (t.2.2 : Nat))) (fun x hx => h x (List.mem_cons_of_mem _ hx))
      have st : forL (gtT 3 (gtCons (gtN 4) (gtCons (gtN 5) (gtCons (gtN 6) gtNil)))) lb_bar_0 ((t :: ts).map facD) [o0, o1, o2, .sh (.int (B : Nat)), o4, o5, o6] = forL (gtT 3 (gtCons (gtN 4) (gtCons (gtN 5) (gtCons (gtN 6) gtNil)))) lb_bar_0 (ts.map facD) [o0, o1, o2, .sh (.int (B : Nat)), .sh (.int (t.1 : Nat)), .sh (.int (t.2.1 : Nat)), .sh (.int (t.2.2 : Nat))] := by
        rw [List.map_cons]
        refine forL_next g ?_
        unfold lb_bar_0
        k_search [km, b]
      rw [st]
      exact ih
    · have e : barsB B t = true := by unfold barsB; rw [decide_eq_false z]; rfl
      rw [e]
      rw [decide_eq_false z] at b
      rw [List.map_cons]
      refine forL_rt g ?_
      unfold lb_bar_0
      k_search [km, b]
theorem facL_pos {c : Nat} (h : 1 ≤ c) : ∀ t ∈ facL c, 0 < t.2.2 := fun t ht => (facs_pos c c 2 (by omega) h (nodiv2 c) t ht).1
theorem bar_ok {t : Nat} {cs : List Nat} {c : Nat} (ht : 1 ≤ t ∧ t ≤ 200) (h : In2 cs) (hl : cs.length ≤ 20) (h1 : 1 ≤ c) (h2 : c ≤ 5000) : f_bar [.int (t : Nat), .lst (natL cs), .int (c : Nat)] = .ok (barD (t * lcmL cs) c) := by
  have fo := finest_ok ht h hl
  have lo := look_count_ok (t := (c : Int)) (by omega)
  have pr := primes_ok h1 h2
  have w := bar_loop (.sh (.int (t : Nat))) (.sh (.lst (natL cs))) (.sh (.int (c : Nat))) (B := t * lcmL cs) (facL c) .no .no .no (facL_pos h1)
  unfold f_bar sm_bar barD barO
  cases e : (facL c).find? (barsB (t * lcmL cs)) with
  | some u =>
    rw [e] at w
    k_search [fo, lo, pr, w]
  | none =>
    rw [e] at w
    obtain ⟨q4, q5, q6, w⟩ := w
    k_search [fo, lo, pr, w]
theorem bar_none {B c : Nat} (h1 : 1 ≤ c) (h : barO B c = none) : c ∣ B := by
  unfold barO at h
  rw [List.find?_eq_none] at h
  refine facs_dvd c c 2 (by omega) h1 (nodiv2 c) (by omega) fun t ht => ?_
  have := h t ht
  unfold barsB at this
  have e : B % t.2.2 = 0 := by
    by_cases z : B % t.2.2 = 0
    · exact z
    · rw [decide_eq_false z] at this
      exact absurd rfl this
  exact Nat.dvd_of_mod_eq_zero e
theorem lbar_loop (o0 o1 o2 : O) {B : Nat} : ∀ (n c p F : Nat) (o6 o7 : O), 2 ≤ p → 1 ≤ c → c ≤ 10000 → NoDiv c p → c + 1 ≤ p + n → n < F →
    match (facs n c p).find? (barsB B) with
    | some t => whL lt_u_law_bar_0 lb_u_law_bar_0 F [o0, o1, o2, .sh (.int (B : Nat)), .sh (.int (c : Nat)), .sh (.int (p : Nat)), o6, o7] = .rt (.tup [.int (t.1 : Nat), .int (t.2.1 : Nat)])
    | none => ∃ q4 q5 q6 q7, whL lt_u_law_bar_0 lb_u_law_bar_0 F [o0, o1, o2, .sh (.int (B : Nat)), .sh (.int (c : Nat)), .sh (.int (p : Nat)), o6, o7] = .nx [o0, o1, o2, .sh (.int (B : Nat)), q4, q5, q6, q7]
  | n, c, p, 0, _, _, _, _, _, _, _, h => by omega
  | n, c, p, F + 1, o6, o7, hp, hc, hc2, hn, hl, hF => by
    by_cases z : 1 < c
    · have pc := hn.le z
      cases n with
      | zero => omega
      | succ n =>
        obtain ⟨c', j, e1, e2, e3, e4, e5⟩ := turn_spec hp z hn
        have big := p200
        have il := inn_loop2 (p := p) hp (by omega) o0 o1 o2 (.sh (.int (B : Nat))) c c 1 0 fuelTop hc (Nat.le_refl _) (fuelTop_lt (by
          have sm : (2 : Nat) ^ 20 ≤ 2 ^ 200 := Nat.pow_le_pow_right (by omega) (by omega)
          omega)) (by omega) (by omega)
        rw [e1] at il
        dsimp only at il
        have il' : whL lt_u_law_bar_1 lb_u_law_bar_1 fuelTop [o0, o1, o2, .sh (.int (B : Nat)), .sh (.int (c : Nat)), .sh (.int (p : Nat)), .sh (.int 0), .sh (.int 1)] = .nx [o0, o1, o2, .sh (.int (B : Nat)), .sh (.int (c' : Nat)), .sh (.int (p : Nat)), .sh (.int (j : Nat)), .sh (.int ((p ^ j : Nat) : Int))] := il
        have gt1 : decide ((c : Int) > 1) = true := decide_eq_true (by omega)
        have lt1 : lt_u_law_bar_0 [o0, o1, o2, .sh (.int (B : Nat)), .sh (.int (c : Nat)), .sh (.int (p : Nat)), o6, o7] = .ok true := by unfold lt_u_law_bar_0; k_search [gt1]
        have pj : 0 < p ^ j := Nat.pow_pos (by omega)
        have km := kMod_ok (i := (B : Int)) (j := ((p ^ j : Nat) : Int)) (by omega)
        have b := mod_b B (p ^ j)
        unfold facs
        rw [if_pos z, e1]
        dsimp only
        by_cases y : B % p ^ j = 0
        · rw [decide_eq_true y] at b
          have nf : ((if 0 < j then [(p, j, p ^ j)] else []) ++ facs n c' (p + 1)).find? (barsB B) = (facs n c' (p + 1)).find? (barsB B) := by
            split
            · rw [List.cons_append, List.nil_append, List.find?_cons]
              have e : barsB B (p, j, p ^ j) = false := by unfold barsB; rw [decide_eq_true y]; rfl
              rw [e]
            · rfl
          rw [nf]
          have st : whL lt_u_law_bar_0 lb_u_law_bar_0 (F + 1) [o0, o1, o2, .sh (.int (B : Nat)), .sh (.int (c : Nat)), .sh (.int (p : Nat)), o6, o7] = whL lt_u_law_bar_0 lb_u_law_bar_0 F [o0, o1, o2, .sh (.int (B : Nat)), .sh (.int (c' : Nat)), .sh (.int ((p + 1 : Nat) : Int)), .sh (.int (j : Nat)), .sh (.int ((p ^ j : Nat) : Int))] := by
            refine whL_next lt1 ?_
            unfold lb_u_law_bar_0 tl_u_law_bar_0
            k_search [il', km, b]
            rfl
          rw [st]
          exact lbar_loop o0 o1 o2 (B := B) n c' (p + 1) F _ _ (by omega) e3 (by omega) e5 (by omega) (by omega)
        · have j0 : 0 < j := by
            rcases Nat.eq_zero_or_pos j with w | w
            · rw [w, Nat.pow_zero, Nat.mod_one] at y
              exact absurd rfl y
            · exact w
          rw [decide_eq_false y] at b
          rw [if_pos j0, List.cons_append, List.nil_append, List.find?_cons]
          have e : barsB B (p, j, p ^ j) = true := by unfold barsB; rw [decide_eq_false y]; rfl
          rw [e]
          have bd : lb_u_law_bar_0 [o0, o1, o2, .sh (.int (B : Nat)), .sh (.int (c : Nat)), .sh (.int (p : Nat)), o6, o7] = .rt (.tup [.int (p : Nat), .int (j : Nat)]) := by
            unfold lb_u_law_bar_0 tl_u_law_bar_0
            k_search [il', km, b]
          show (lt_u_law_bar_0 _).out _ _ = _
          rw [lt1]
          show (match lb_u_law_bar_0 _ with | .nx δ2 => _ | .ct δ2 => _ | .bk δ2 => _ | .rt r => _ | .xc c fs δ2 => _ | .bad => _) = _
          rw [bd]
    · have gt1 : decide ((c : Int) > 1) = false := decide_eq_false (by omega)
      have st : whL lt_u_law_bar_0 lb_u_law_bar_0 (F + 1) [o0, o1, o2, .sh (.int (B : Nat)), .sh (.int (c : Nat)), .sh (.int (p : Nat)), o6, o7] = .nx [o0, o1, o2, .sh (.int (B : Nat)), .sh (.int (c : Nat)), .sh (.int (p : Nat)), o6, o7] := whL_stop (by unfold lt_u_law_bar_0; k_search [gt1])
      cases n with
      | zero => exact ⟨_, _, _, _, st⟩
      | succ n =>
        unfold facs
        rw [if_neg z]
        exact ⟨_, _, _, _, st⟩
theorem lbar_ok {t : Nat} {cs : List Nat} {c : Nat} (ht : t ≤ 200) (h : In120 cs) (hl : cs.length ≤ 20) (h1 : 1 ≤ c) (h2 : c ≤ 5000) : f_u_law_bar [.int (t : Nat), .lst (natL cs), .int (c : Nat)] = .ok (barD (t * lcmL cs) c) := by
  have big := p200
  have sm : (2 : Nat) ^ 20 ≤ 2 ^ 200 := Nat.pow_le_pow_right (by omega) (by omega)
  have ll := lleast_ok h hl
  have e : ((t : Int) * ((lcmL cs : Nat) : Int)) = ((t * lcmL cs : Nat) : Int) := by rw [Int.natCast_mul]
  have w := lbar_loop (.sh (.int (t : Nat))) (.sh (.lst (natL cs))) (.sh (.int (c : Nat))) (B := t * lcmL cs) c c 2 fuelTop .no .no (by omega) h1 (by omega) (nodiv2 c) (by omega) (fuelTop_lt (by omega))
  unfold f_u_law_bar sm_u_law_bar barD barO
  cases q : (facL c).find? (barsB (t * lcmL cs)) with
  | some u =>
    have q' : (facs c c 2).find? (barsB (t * lcmL cs)) = some u := q
    rw [q'] at w
    have w' : whL lt_u_law_bar_0 lb_u_law_bar_0 fuelTop [.sh (.int (t : Nat)), .sh (.lst (natL cs)), .sh (.int (c : Nat)), .sh (.int ((t * lcmL cs : Nat) : Int)), .sh (.int (c : Nat)), .sh (.int 2), .no, .no] = .rt (.tup [.int (u.1 : Nat), .int (u.2.1 : Nat)]) := w
    k_search [ll, kMul_ok (fin_mul ht h hl), e, w']
  | none =>
    have q' : (facs c c 2).find? (barsB (t * lcmL cs)) = none := q
    rw [q'] at w
    obtain ⟨q4, q5, q6, q7, w⟩ := w
    have w' : whL lt_u_law_bar_0 lb_u_law_bar_0 fuelTop [.sh (.int (t : Nat)), .sh (.lst (natL cs)), .sh (.int (c : Nat)), .sh (.int ((t * lcmL cs : Nat) : Int)), .sh (.int (c : Nat)), .sh (.int 2), .no, .no] = .nx [.sh (.int (t : Nat)), .sh (.lst (natL cs)), .sh (.int (c : Nat)), .sh (.int ((t * lcmL cs : Nat) : Int)), q4, q5, q6, q7] := w
    k_search [ll, kMul_ok (fin_mul ht h hl), e, w']

end
section
def crD (F : List (List Nat)) : List D := F.map fun cr => D.lst (natL cr)
def crw : List Nat → List (List Nat) → List (List Nat)
  | [], F => F
  | c :: r, F => crw r (F ++ F.map (· ++ [c]))
theorem crD_app (F E : List (List Nat)) : crD (F ++ E) = crD F ++ crD E := by unfold crD; rw [List.map_append]
def appD (c : Nat) : D → D
  | .lst xs => .lst (xs ++ [.int (c : Nat)])
  | d => d
theorem appD_cr (c : Nat) (F : List (List Nat)) : (crD F).map (appD c) = crD (F.map (· ++ [c])) := by
  unfold crD
  rw [List.map_map, List.map_map]
  refine List.map_congr_left fun cr _ => ?_
  show D.lst (natL cr ++ [.int (c : Nat)]) = D.lst (natL (cr ++ [c]))
  rw [natL_app]
  rfl
theorem crw_all {Q : List Nat → Prop} : ∀ (ds : List Nat) (F : List (List Nat)), (∀ cr ∈ F, Q cr) → (∀ cr, Q cr → ∀ c ∈ ds, Q (cr ++ [c])) → ∀ cr ∈ crw ds F, Q cr
  | [], F, h, _, cr, hc => h cr hc
  | c :: ds, F, h, hs, cr, hc => by
    refine crw_all ds _ (fun x hx => ?_) (fun x hx d hd => hs x hx d (List.mem_cons_of_mem _ hd)) cr hc
    rcases List.mem_append.mp hx with y | y
    · exact h x y
    · obtain ⟨z, hz, rfl⟩ := List.mem_map.mp y
      exact hs z (h z hz) c (List.mem_cons_self ..)
theorem crw_len : ∀ (ds : List Nat) (F : List (List Nat)), (crw ds F).length = F.length * 2 ^ ds.length
  | [], F => by simp [crw]
  | c :: ds, F => by
    unfold crw
    rw [crw_len ds, List.length_append, List.length_map, List.length_cons, Nat.pow_succ, Nat.mul_comm (2 ^ ds.length), ← Nat.mul_assoc]
    congr 1
    omega
theorem crw_full : ∀ (ds pre : List Nat) (F : List (List Nat)), pre ∈ F → pre ++ ds ∈ crw ds F
  | [], pre, F, h => by rw [List.append_nil]; exact h
  | c :: ds, pre, F, h => by
    unfold crw
    have := crw_full ds (pre ++ [c]) (F ++ F.map (· ++ [c])) (List.mem_append_right _ (List.mem_map.mpr ⟨pre, h, rfl⟩))
    rw [List.append_assoc] at this
    exact this
theorem crw_max : ∀ (ds : List Nat) (F : List (List Nat)) (k : Nat), (∀ cr ∈ F, cr.length ≤ k) → ∀ cr ∈ crw ds F, cr.length ≤ k + ds.length
  | [], F, k, h, cr, hc => h cr hc
  | c :: ds, F, k, h, cr, hc => by
    have := crw_max ds (F ++ F.map (· ++ [c])) (k + 1) (fun x hx => by
      rcases List.mem_append.mp hx with y | y
      · have := h x y; omega
      · obtain ⟨z, hz, rfl⟩ := List.mem_map.mp y
        have := h z hz
        rw [List.length_append, List.length_cons, List.length_nil]
        omega) cr hc
    rw [List.length_cons]
    omega
def crK (cr : List Nat) : PySem.PyData := .tuple [.int (cr.length : Nat), .list (cr.map fun n : Nat => .int (n : Int))]
def crLe (a b : List Nat) : Bool := PySem.W.dataLe false crK a b
theorem toPs_nat : ∀ cr : List Nat, toPs (natL cr) = some (cr.map fun n : Nat => .int (n : Int))
  | [] => rfl
  | c :: cr => by
    have ih := toPs_nat cr
    show toPs (.int (c : Nat) :: natL cr) = _
    unfold toPs
    rw [ih]
    rfl
theorem toP_cr (cr : List Nat) : toP (.tup [.int (cr.length : Nat), .lst (natL cr)]) = some (crK cr) := by
  unfold toP toPs toPs toPs
  have e1 : toP (.int (cr.length : Nat)) = some (.int (cr.length : Nat)) := rfl
  have e2 : toP (.lst (natL cr)) = some (.list (cr.map fun n : Nat => .int (n : Int))) := by
    unfold toP
    rw [toPs_nat]
    rfl
  rw [e1, e2]
  rfl
theorem lam_cr {cr : List Nat} (h : cr.length ≤ 1000) : lam_crowds_of_0 [.sh (.lst (natL cr))] = .ok (.tup [.int (cr.length : Nat), .lst (natL cr)]) := by
  unfold lam_crowds_of_0
  k_search [natL_len]
theorem keys_cr {fm : D → Res D} (hf : ∀ cr : List Nat, cr.length ≤ 1000 → fm (.lst (natL cr)) = .ok (.tup [.int (cr.length : Nat), .lst (natL cr)])) : ∀ F : List (List Nat), (∀ cr ∈ F, cr.length ≤ 1000) → keysR fm (crD F) = some (F.map fun cr => D.tup [.int (cr.length : Nat), .lst (natL cr)])
  | [], _ => rfl
  | cr :: F, h => by
    have ih := keys_cr hf F fun x hx => h x (List.mem_cons_of_mem _ hx)
    show keysR fm (.lst (natL cr) :: crD F) = _
    unfold keysR
    rw [hf cr (h cr (List.mem_cons_self ..)), ih]
    rfl
theorem toPs_cr : ∀ F : List (List Nat), toPs (F.map fun cr => D.tup [.int (cr.length : Nat), .lst (natL cr)]) = some (F.map crK)
  | [] => rfl
  | cr :: F => by
    have ih := toPs_cr F
    rw [List.map_cons]
    unfold toPs
    rw [toP_cr, ih]
    rfl
theorem alike_nat : ∀ a b : List Nat, PySem.W.alikeAll (a.map fun n : Nat => PySem.PyData.int (n : Int)) (b.map fun n : Nat => PySem.PyData.int (n : Int)) = true
  | [], b => by rw [List.map_nil]; unfold PySem.W.alikeAll; rfl
  | _ :: _, [] => by rw [List.map_cons, List.map_nil]; unfold PySem.W.alikeAll; rfl
  | x :: a, y :: b => by
    rw [List.map_cons, List.map_cons]
    unfold PySem.W.alikeAll
    rw [alike_nat a b]
    unfold PySem.W.alike
    rfl
theorem alike_cr (a b : List Nat) : PySem.W.alike (crK a) (crK b) = true := by
  unfold crK
  have h := alike_nat a b
  simp only [PySem.W.alike, PySem.W.alikeAll, h, Bool.and_self]
theorem depth_nat : ∀ a : List Nat, PySem.PyData.depthAll (a.map fun n : Nat => PySem.PyData.int (n : Int)) ≤ 2
  | [] => by simp [PySem.PyData.depthAll]
  | x :: a => by
    have := depth_nat a
    rw [List.map_cons]
    simp only [PySem.PyData.depthAll, PySem.PyData.depth]
    omega
theorem okK_cr (F : List (List Nat)) : okK (F.map crK) = true := by
  unfold okK
  rw [Bool.and_eq_true, Bool.and_eq_true]
  refine ⟨⟨?_, ?_⟩, ?_⟩
  · refine List.all_eq_true.mpr fun d hd => List.all_eq_true.mpr fun e he => ?_
    obtain ⟨a, _, rfl⟩ := List.mem_map.mp hd
    obtain ⟨b, _, rfl⟩ := List.mem_map.mp he
    exact alike_cr a b
  · rw [Bool.or_eq_true]
    left
    refine List.all_eq_true.mpr fun d hd => ?_
    obtain ⟨a, _, rfl⟩ := List.mem_map.mp hd
    rfl
  · refine List.all_eq_true.mpr fun d hd => ?_
    obtain ⟨a, _, rfl⟩ := List.mem_map.mp hd
    refine decide_eq_true ?_
    have := depth_nat a
    unfold crK
    simp only [PySem.PyData.depth, PySem.PyData.depthAll]
    omega
theorem zip_cr (F : List (List Nat)) : (crD F).zip (F.map crK) = F.map fun cr => (D.lst (natL cr), crK cr) := by
  unfold crD
  induction F with
  | nil => rfl
  | cons cr F ih => rw [List.map_cons, List.map_cons, List.map_cons, List.zip_cons_cons, ih]
theorem sort_cr {F : List (List Nat)} (h : ∀ cr ∈ F, cr.length ≤ 1000) {fm : D → Res D} (hf : ∀ cr : List Nat, cr.length ≤ 1000 → fm (.lst (natL cr)) = .ok (.tup [.int (cr.length : Nat), .lst (natL cr)])) : kSortK fm (.lst (crD F)) = .ok (.lst (crD (F.mergeSort crLe))) := by
  have e := List.map_mergeSort (r := crLe) (s := PySem.W.dataLe false Prod.snd) (f := fun cr => (D.lst (natL cr), crK cr)) (l := F) (fun a _ b _ => rfl)
  show (match keysR fm (crD F) with
    | some es => match toPs es with
      | some kz => if okK kz = true then (Res.ok (.lst (keySort (crD F) kz)) : Res D) else .bad
      | none => .bad
    | none => .bad) = _
  rw [keys_cr hf F h]
  dsimp only
  rw [toPs_cr]
  dsimp only
  rw [if_pos (okK_cr F)]
  unfold keySort
  rw [zip_cr, ← e, List.map_map]
  rfl
def sortN (cs : List Nat) : List Nat := (isort (cs.map fun n : Nat => (n : Int))).map Int.toNat
theorem sortN_cast (cs : List Nat) : (sortN cs).map (fun n : Nat => (n : Int)) = isort (cs.map fun n : Nat => (n : Int)) := by
  unfold sortN
  rw [List.map_map]
  refine Eq.trans (List.map_congr_left fun x hx => ?_) (List.map_id _)
  obtain ⟨n, _, rfl⟩ := List.mem_map.mp ((isort_perm _).mem_iff.mp hx)
  rfl
theorem sortN_perm (cs : List Nat) : (sortN cs).Perm cs := by
  have h := ((isort_perm (cs.map fun n : Nat => (n : Int))).map Int.toNat)
  rw [List.map_map] at h
  have e : cs.map (Int.toNat ∘ fun n : Nat => (n : Int)) = cs := Eq.trans (List.map_congr_left fun n _ => rfl) (List.map_id _)
  rw [e] at h
  exact h
theorem natL_i (cs : List Nat) : natL cs = (cs.map fun n : Nat => (n : Int)).map D.int := by
  unfold natL
  rw [List.map_map]
  rfl
def crowdS (cs : List Nat) : List (List Nat) := (crw (sortN cs) [[]]).mergeSort crLe
theorem mem_crowdS {cs cr : List Nat} : cr ∈ crowdS cs ↔ cr ∈ crw (sortN cs) [[]] := (List.mergeSort_perm _ _).mem_iff
def fitB (t c : Nat) (cr : List Nat) : Bool := decide (t * lcmL cr % c = 0)
def fits (t c : Nat) (cs : List Nat) : List (List Nat) := (crowdS cs).filter (fitB t c)
theorem crowd_in {cs cr : List Nat} (h : In2 cs) (hc : cr ∈ crowdS cs) : In2 cr ∧ cr.length ≤ cs.length := by
  have hc := mem_crowdS.mp hc
  refine ⟨?_, ?_⟩
  · refine crw_all (Q := In2) (sortN cs) [[]] (fun x hx => by rw [List.mem_singleton.mp hx]; exact fun c h => nomatch h) (fun x hx c hcc => ?_) cr hc
    intro y hy
    rcases List.mem_append.mp hy with z | z
    · exact hx y z
    · rw [List.mem_singleton.mp z]
      exact h c ((sortN_perm cs).mem_iff.mp hcc)
  · have := crw_max (sortN cs) [[]] 0 (fun x h => by rw [List.mem_singleton.mp h]; exact Nat.le_refl _) cr hc
    rw [(sortN_perm cs).length_eq] at this
    omega
theorem fits_ne {t c : Nat} {cs : List Nat} (h : c ∣ t * lcmL cs) : fits t c cs ≠ [] := by
  intro e
  have m : sortN cs ∈ fits t c cs := by
    unfold fits
    refine List.mem_filter.mpr ⟨mem_crowdS.mpr ?_, decide_eq_true ?_⟩
    · have := crw_full (sortN cs) [] [[]] (List.mem_singleton.mpr rfl)
      rw [List.nil_append] at this
      exact this
    · rw [lcmL_perm (sortN_perm cs)]
      exact Nat.mod_eq_zero_of_dvd h
  rw [e] at m
  cases m
def fitD (t c : Nat) : D → Bool
  | .lst xs => fitB t c (xs.map fun d => match d with | .int i => i.toNat | _ => 0)
  | _ => false
theorem natL_back (cr : List Nat) : (natL cr).map (fun d => match d with | .int i => i.toNat | _ => 0) = cr := by
  unfold natL
  rw [List.map_map]
  exact Eq.trans (List.map_congr_left fun n _ => rfl) (List.map_id _)
theorem fitD_cr (t c : Nat) (cr : List Nat) : fitD t c (.lst (natL cr)) = fitB t c cr := by
  unfold fitD
  dsimp only
  rw [natL_back]
def fewO (t c : Nat) (cs : List Nat) : List Nat := ((fits t c cs)[0]?).getD []
def prD (cr : List Nat) : D := .tup [.int (cr.length : Nat), .lst (natL cr)]
theorem zip_pr (F : List (List Nat)) : (F.map prD).zip (F.map crK) = F.map fun cr => (prD cr, crK cr) := by
  induction F with
  | nil => rfl
  | cons cr F ih => rw [List.map_cons, List.map_cons, List.map_cons, List.zip_cons_cons, ih]
theorem sort_pr (F : List (List Nat)) : kSortP (.lst (F.map prD)) = .ok (.lst ((F.mergeSort crLe).map prD)) := by
  have e := List.map_mergeSort (r := crLe) (s := PySem.W.dataLe false Prod.snd) (f := fun cr => (prD cr, crK cr)) (l := F) (fun a _ b _ => rfl)
  have tp : toPs (F.map prD) = some (F.map crK) := toPs_cr F
  unfold kSortP
  dsimp only
  rw [tp]
  dsimp only
  rw [if_pos (okK_cr F)]
  unfold keySort
  rw [zip_pr, ← e, List.map_map]
  rfl
end
section
theorem forL_pick {α : Type} {gt : D → Sm → Res Sm} {b : Sm → Out} (f : α → D) (P : α → Bool) (r : α → D) (J : Sm → Prop) : ∀ (xs : List α) (δ : Sm), J δ → (∀ x ∈ xs, ∀ δ, J δ → ∃ δ1, gt (f x) δ = .ok δ1 ∧ (P x = true → b δ1 = .rt (r x)) ∧ (P x = false → ∃ δ2, b δ1 = .nx δ2 ∧ J δ2)) →
    match xs.find? P with
    | some x => forL gt b (xs.map f) δ = .rt (r x)
    | none => ∃ δ', forL gt b (xs.map f) δ = .nx δ' ∧ J δ'
  | [], δ, h, _ => ⟨δ, rfl, h⟩
  | x :: xs, δ, h, hs => by
    obtain ⟨δ1, g, p1, p2⟩ := hs x (List.mem_cons_self ..) δ h
    rw [List.find?_cons]
    cases z : P x with
    | true =>
      dsimp only
      rw [List.map_cons]
      exact forL_rt g (p1 z)
    | false =>
      dsimp only
      obtain ⟨δ2, e, h2⟩ := p2 z
      have st : forL gt b ((x :: xs).map f) δ = forL gt b (xs.map f) δ2 := by
        rw [List.map_cons]
        exact forL_next g e
      rw [st]
      exact forL_pick f P r J xs δ2 h2 fun y hy => hs y (List.mem_cons_of_mem _ hy)
def goodB (rest : List Nat) (left : Rat) (c h : Nat) : Bool := decide (lcmL rest % (left - Rat.divInt (h : Int) (c : Int)).den = 0)
def holeN (rest : List Nat) (left : Rat) (c : Nat) : Nat := ((List.range c).find? (goodB rest left c)).getD 0
theorem holeN_lt (rest : List Nat) (left : Rat) {c : Nat} (h : 1 ≤ c) : holeN rest left c < c := by
  unfold holeN
  cases e : (List.range c).find? (goodB rest left c) with
  | none => exact h
  | some x => exact List.mem_range.mp (List.mem_of_find?_eq_some e)
theorem cp_sz {c h : Nat} (h1 : 1 ≤ c) (h2 : c ≤ 120) (hh : h < c) : Sz 8 (Rat.divInt (h : Int) (c : Int)) := sz_div (by omega) (by omega) (by omega)
theorem cp_ok {c h : Nat} (h1 : 1 ≤ c) (h2 : c ≤ 120) (hh : h < c) : f_part [.int (h : Nat), .int (c : Nat)] = .ok (qD (Rat.divInt (h : Int) (c : Int))) := by
  have big := p200
  have sm : (2 : Nat) ^ 10 ≤ 2 ^ 200 := Nat.pow_le_pow_right (by omega) (by omega)
  have pe := part_eq (h : Int) (c : Int) (by omega) (by omega)
  rw [low_div _ _ (by omega)] at pe
  exact pe
theorem holes_ok {c : Nat} (h1 : 1 ≤ c) (h2 : c ≤ 120) {left : Rat} {n : Nat} (hs : Sz n left) (hn : n ≤ 2000) {rest : List Nat} (hr : In120 rest) (hl : rest.length ≤ 20) :
    f_holes_of [.int (c : Nat), qD left, .lst (natL rest)] = .ok (.int ((holeN rest left c : Nat) : Int)) := by
  have lo := least_ok hr hl
  have rn : kRng1 [.int (c : Nat)] = .ok ((List.range c).map fun h : Nat => D.int (h : Int)) := by
    rw [kRng1_nat (n := c) (by omega)]
    unfold rangeD
    simp only [Int.zero_add]
  have w := forL_pick (gt := gtN 4) (b := lb_holes_of_0) (fun h : Nat => D.int (h : Int)) (goodB rest left c) (fun h : Nat => D.int (h : Int)) (fun δ => ∃ o4, δ = [.sh (.int (c : Nat)), .sh (qD left), .sh (.lst (natL rest)), .sh (.int ((lcmL rest : Nat) : Int)), o4]) (List.range c)
    [.sh (.int (c : Nat)), .sh (qD left), .sh (.lst (natL rest)), .sh (.int ((lcmL rest : Nat) : Int)), .no] ⟨.no, rfl⟩ (by
    rintro h hh δ ⟨o4, rfl⟩
    have hh := List.mem_range.mp hh
    refine ⟨[.sh (.int (c : Nat)), .sh (qD left), .sh (.lst (natL rest)), .sh (.int ((lcmL rest : Nat) : Int)), .sh (.int (h : Nat))], rfl, ?_⟩
    have pe := cp_ok h1 h2 hh
    have le := less_q hs (cp_sz h1 h2 hh) (by omega)
    generalize hq : left - Rat.divInt (h : Int) (c : Int) = q at le
    have km := kMod_ok (i := ((lcmL rest : Nat) : Int)) (j := (q.den : Int)) (den_pos' q)
    have i1 : kIx (qD q) (.int 1) = .ok (.int (q.den : Int)) := rfl
    have b := mod_b (lcmL rest) q.den
    have gb : goodB rest left c h = decide (lcmL rest % q.den = 0) := by unfold goodB; rw [hq]
    rw [gb]
    have body : ∀ o, (Out.nx o = Out.nx o) → True := fun _ _ => trivial
    refine ⟨fun z => ?_, fun z => ⟨[.sh (.int (c : Nat)), .sh (qD left), .sh (.lst (natL rest)), .sh (.int ((lcmL rest : Nat) : Int)), .sh (.int (h : Nat))], ?_, ⟨_, rfl⟩⟩⟩
    · rw [z] at b
      unfold lb_holes_of_0 dd_part
      k_search [pe, le, i1, km, b]
    · rw [z] at b
      unfold lb_holes_of_0 dd_part
      k_search [pe, le, i1, km, b])
  unfold f_holes_of sm_holes_of holeN
  cases e : (List.range c).find? (goodB rest left c) with
  | some x =>
    rw [e] at w
    k_search [lo, rn, w]
    rfl
  | none =>
    rw [e] at w
    obtain ⟨δ', w, ⟨o4, rfl⟩⟩ := w
    k_search [lo, rn, w]
    rfl
def planR : List Nat → Rat → Rat × List (Nat × Nat)
  | [], left => (left, [])
  | c :: r, left => ((planR r (left - Rat.divInt ((holeN r left c : Nat) : Int) (c : Int))).1, (c, holeN r left c) :: (planR r (left - Rat.divInt ((holeN r left c : Nat) : Int) (c : Int))).2)
def movD (m : Nat × Nat) : D := .tup [.int (m.1 : Nat), .int (m.2 : Nat)]
section
variable {κ : Cells}
theorem plan_loop (o0 o1 o2 : O) (few : List Nat) (hf : In2 few) (hl : few.length ≤ 9) : ∀ (r : List Nat) (i fuel : Nat) (left : Rat) (acc : List D) (o6 o7 o8 : O) (n : Nat), few.drop i = r → r.length < fuel → i + r.length = few.length → Sz n left → n + 9 * r.length ≤ 1000 → acc.length + r.length ≤ 1000 →
    ∃ q6 q7 q8, forG (gtT 2 (gtCons (gtN 6) (gtCons (gtN 7) gtNil))) lb_plan_0 (stEf (natL few)) fuel i [o0, o1, o2, .sh (.lst (natL few)), .sh (qD left), .ol acc, o6, o7, o8] κ = .nx [o0, o1, o2, .sh (.lst (natL few)), .sh (qD (planR r left).1), .ol (acc ++ (planR r left).2.map movD), q6, q7, q8] κ
  | [], i, 0, left, acc, o6, o7, o8, n, _, h, _, _, _, _ => absurd h (Nat.not_lt_zero _)
  | _ :: _, i, 0, left, acc, o6, o7, o8, n, _, h, _, _, _, _ => absurd h (Nat.not_lt_zero _)
  | [], i, fuel + 1, left, acc, o6, o7, o8, n, hd, _, hi, _, _, _ => by
    refine ⟨o6, o7, o8, ?_⟩
    rw [List.length_nil] at hi
    have e0 : stEf (natL few) i κ = some none := by
      unfold stEf
      rw [List.getElem?_eq_none (by rw [natL_len]; omega)]
      rfl
    unfold forG
    rw [e0]
    dsimp only
    unfold planR
    rw [List.map_nil, List.append_nil]
  | c :: r, i, fuel + 1, left, acc, o6, o7, o8, n, hd, hfu, hi, hs, hn, ha => by
    rw [List.length_cons] at hfu hi hn ha
    have hil : i < few.length := by omega
    have ec : few[i]? = some c := by
      have := congrArg (·[0]?) hd
      simp only [List.getElem?_drop, Nat.add_zero, List.getElem?_cons_zero] at this
      exact this
    have cm : c ∈ few := List.mem_of_getElem? ec
    have hc := hf c cm
    have hd2 : few.drop (i + 1) = r := by
      rw [← List.tail_drop, hd]
      rfl
    have hr2 : In2 r := fun x hx => hf x (List.mem_of_mem_drop (by rw [hd2]; exact hx))
    have hh := holeN_lt r left (c := c) (by omega)
    have ho := holes_ok (c := c) (by omega) hc.2 hs (by omega) hr2.i (by omega)
    have pe := cp_ok (c := c) (h := holeN r left c) (by omega) hc.2 hh
    have le := less_q hs (cp_sz (by omega) hc.2 hh) (by omega)
    have sz2 := sz_sub hs (cp_sz (c := c) (h := holeN r left c) (by omega) hc.2 hh)
    obtain ⟨q6, q7, q8, w⟩ := plan_loop o0 o1 o2 few hf hl r (i + 1) fuel (left - Rat.divInt ((holeN r left c : Nat) : Int) (c : Int)) (acc ++ [movD (c, holeN r left c)]) (.sh (.int (i : Nat))) (.sh (.int (c : Nat))) (.sh (.int ((holeN r left c : Nat) : Int))) (n + 8 + 1) hd2 (by omega) (by omega) sz2 (by omega) (by rw [List.length_append, List.length_cons, List.length_nil]; omega)
    refine ⟨q6, q7, q8, ?_⟩
    have e0 : stEf (natL few) i κ = some (some (.tup [.int (i : Nat), .int (c : Nat)])) := by
      unfold stEf natL
      rw [List.getElem?_map, ec]
      rfl
    have g : gtT 2 (gtCons (gtN 6) (gtCons (gtN 7) gtNil)) (.tup [.int (i : Nat), .int (c : Nat)]) [o0, o1, o2, .sh (.lst (natL few)), .sh (qD left), .ol acc, o6, o7, o8] = .ok [o0, o1, o2, .sh (.lst (natL few)), .sh (qD left), .ol acc, .sh (.int (i : Nat)), .sh (.int (c : Nat)), o8] := by
      walk_at "ev"
    have cu : cutD (natL few) (some ((i : Int) + 1)) none = natL r := by
      have := cut_drop (fun n : Nat => D.int (n : Int)) few (i + 1)
      rw [show ((i + 1 : Nat) : Int) = (i : Int) + 1 by omega, hd2] at this
      exact this
    have sh : shortL acc = true := shortL_lt (by omega)
    have b : lb_plan_0 [o0, o1, o2, .sh (.lst (natL few)), .sh (qD left), .ol acc, .sh (.int (i : Nat)), .sh (.int (c : Nat)), o8] κ = .nx [o0, o1, o2, .sh (.lst (natL few)), .sh (qD (left - Rat.divInt ((holeN r left c : Nat) : Int) (c : Int))), .ol (acc ++ [movD (c, holeN r left c)]), .sh (.int (i : Nat)), .sh (.int (c : Nat)), .sh (.int ((holeN r left c : Nat) : Int))] κ := by
      unfold lb_plan_0 dd_part
      k_search [cu, ho, pe, le, cApp2_ok _ _ _ sh]
      rfl
    unfold forG
    rw [e0]
    dsimp only
    rw [g]
    dsimp only
    rw [b]
    dsimp only
    rw [w]
    conv => rhs; unfold planR
    rw [List.map_cons, List.append_assoc]
    rfl
def leftQ (t c : Nat) : Rat := Rat.divInt (t : Int) (c : Int)
end
end
section
theorem bez (a b : Nat) : ∃ x y : Int, (a : Int) * x + (b : Int) * y = (Nat.gcd a b : Int) := by
  induction a, b using Nat.gcd.induction with
  | H0 n => exact ⟨0, 1, by simp⟩
  | H1 m n h ih =>
    obtain ⟨x, y, e⟩ := ih
    refine ⟨y - ((n / m : Nat) : Int) * x, x, ?_⟩
    rw [Nat.gcd_rec m n, ← e]
    have z : (n : Int) = (m : Int) * ((n / m : Nat) : Int) + ((n % m : Nat) : Int) := by
      rw [← Int.natCast_mul, ← Int.natCast_add, Nat.div_add_mod]
    rw [Int.mul_sub]
    generalize ((n / m : Nat) : Int) = q at *
    generalize ((n % m : Nat) : Int) = r at *
    rw [z]
    grind
theorem inv_mod {v t : Int} (ht : 0 < t) (h : Int.gcd v t = 1) : ∃ x : Int, t ∣ v * x - 1 := by
  obtain ⟨x, y, e⟩ := bez v.natAbs t.natAbs
  have h' : Nat.gcd v.natAbs t.natAbs = 1 := h
  rw [h'] at e
  have et : ((t.natAbs : Nat) : Int) = t := by omega
  rw [et] at e
  rcases Int.natAbs_eq v with z | z
  · refine ⟨x, -y, ?_⟩
    rw [← z] at e
    grind
  · refine ⟨-x, -y, ?_⟩
    have : ((v.natAbs : Nat) : Int) = -v := by omega
    rw [this] at e
    grind
theorem den_dv' {a k : Int} (hk : 0 < k) : ((Rat.divInt a k).den : Int) ∣ k := by
  have e := low_div a k hk
  unfold lowD qD at e
  have e2 : k / (Int.gcd a k : Int) = ((Rat.divInt a k).den : Int) := by
    have := (List.cons.inj (List.cons.inj (D.tup.inj e)).2).1
    exact D.int.inj this
  rw [← e2]
  obtain ⟨c, hc⟩ := Int.gcd_dvd_right a k
  have g0 : (Int.gcd a k : Int) ≠ 0 := fun z => by rw [z, Int.zero_mul] at hc; omega
  have : k / (Int.gcd a k : Int) = c := Int.ediv_eq_of_eq_mul_right g0 hc
  rw [this]
  exact ⟨(Int.gcd a k : Int), by rw [Int.mul_comm]; exact hc⟩
theorem cof_one {c R u v : Nat} (h1 : Nat.lcm c R = c * u) (h2 : Nat.lcm c R = R * v) (hp : 0 < Nat.lcm c R) : Nat.gcd u v = 1 := by
  obtain ⟨u', eu⟩ := Nat.gcd_dvd_left u v
  obtain ⟨v', ev⟩ := Nat.gcd_dvd_right u v
  generalize Nat.gcd u v = d at *
  subst eu
  subst ev
  have dp : 0 < d := by
    rcases Nat.eq_zero_or_pos d with z | z
    · subst z
      rw [Nat.zero_mul, Nat.mul_zero] at h1
      omega
    · exact z
  have e1 : d * (c * u') = d * (R * v') := by
    rw [Nat.mul_left_comm, ← h1, h2, Nat.mul_left_comm]
  have e2 : c * u' = R * v' := Nat.eq_of_mul_eq_mul_left dp e1
  have dv : Nat.lcm c R ∣ c * u' := Nat.lcm_dvd ⟨u', rfl⟩ ⟨v', e2⟩
  have e3 : Nat.lcm c R = d * (c * u') := by rw [h1, Nat.mul_left_comm]
  have cp : 0 < c * u' := by
    rcases Nat.eq_zero_or_pos (c * u') with z | z
    · rw [z, Nat.mul_zero] at e3
      omega
    · exact z
  have le := Nat.le_of_dvd cp dv
  rw [e3] at le
  have : d * (c * u') ≤ 1 * (c * u') := by omega
  have := Nat.le_of_mul_le_mul_right this cp
  omega
theorem of_den {x : Rat} {k : Int} (hk : 0 < k) (h : ((x.den : Nat) : Int) ∣ k) : ∃ a : Int, x = Rat.divInt a k := by
  obtain ⟨m, e⟩ := h
  have d := den_pos' x
  refine ⟨x.num * m, ?_⟩
  have h1 : Rat.divInt x.num (x.den : Int) = x := Rat.num_divInt_den x
  rw [← h1]
  rw [h1]
  refine h1.symm.trans ((Rat.divInt_eq_divInt_iff (by omega) (by omega)).mpr ?_)
  rw [e]
  grind
theorem holes_ex {c R : Nat} (hc : 1 ≤ c) (hR : 1 ≤ R) {left : Rat} (hd : ((left.den : Nat) : Int) ∣ ((Nat.lcm c R : Nat) : Int)) :
    ∃ h, h < c ∧ (((left - Rat.divInt (h : Int) (c : Int)).den : Nat) : Int) ∣ (R : Int) := by
  obtain ⟨u, h1⟩ := Nat.dvd_lcm_left c R
  obtain ⟨v, h2⟩ := Nat.dvd_lcm_right c R
  have hp : 0 < Nat.lcm c R := Nat.lcm_pos (by omega) (by omega)
  have g := cof_one h1 h2 hp
  have vp : 0 < v := by
    rcases Nat.eq_zero_or_pos v with z | z
    · rw [z, Nat.mul_zero] at h2
      omega
    · exact z
  have vc : v ≤ c := by
    have d : Nat.lcm c R ∣ R * c := Nat.lcm_dvd ⟨R, Nat.mul_comm _ _⟩ ⟨c, rfl⟩
    rw [h2] at d
    exact Nat.le_of_dvd (by omega) (Nat.dvd_of_mul_dvd_mul_left (by omega) d)
  obtain ⟨a, ea⟩ := of_den (by omega) hd
  have g2 : Int.gcd (u : Int) (v : Int) = 1 := g
  obtain ⟨x, y, hy⟩ : ∃ x y : Int, (u : Int) * x - 1 = (v : Int) * y := by
    obtain ⟨x, y, e⟩ := inv_mod (v := (u : Int)) (t := (v : Int)) (by omega) g2
    exact ⟨x, y, e⟩
  have m0 := Int.emod_nonneg (a * x) (show (v : Int) ≠ 0 by omega)
  have m1 := Int.emod_lt_of_pos (a * x) (show (0 : Int) < (v : Int) by omega)
  have m2 := Int.emod_add_mul_ediv (a * x) (v : Int)
  generalize hh : (a * x) % (v : Int) = h at m0 m1 m2
  generalize (a * x) / (v : Int) = q at m2
  refine ⟨h.toNat, by omega, ?_⟩
  have eh : ((h.toNat : Nat) : Int) = h := by omega
  rw [eh]
  -- a = h u + v b
  have eb : a = h * (u : Int) + (v : Int) * (q * (u : Int) - a * y) := by grind
  have e1 : ((Nat.lcm c R : Nat) : Int) = (c : Int) * (u : Int) := by rw [h1, Int.natCast_mul]
  have e2 : ((Nat.lcm c R : Nat) : Int) = (R : Int) * (v : Int) := by rw [h2, Int.natCast_mul]
  have fin : left - Rat.divInt h (c : Int) = Rat.divInt (q * (u : Int) - a * y) (R : Int) := by
    have s : Rat.divInt (q * (u : Int) - a * y) (R : Int) + Rat.divInt h (c : Int) = left := by
      rw [Rat.divInt_add_divInt _ _ (by omega) (by omega), ea]
      refine (Rat.divInt_eq_divInt_iff (by have := Int.mul_pos (show (0 : Int) < (R : Int) by omega) (show (0 : Int) < (c : Int) by omega); omega) (by omega)).mpr ?_
      generalize q * (u : Int) - a * y = b at *
      rw [eb]
      generalize ((Nat.lcm c R : Nat) : Int) = L at *
      grind
    grind
  rw [fin]
  exact den_dv' (by omega)
theorem lcmF_out : ∀ (cs : List Nat) (a b : Nat), cs.foldl Nat.lcm (Nat.lcm a b) = Nat.lcm a (cs.foldl Nat.lcm b)
  | [], _, _ => rfl
  | c :: cs, a, b => by
    rw [List.foldl_cons, List.foldl_cons, Nat.lcm_assoc]
    exact lcmF_out cs a (Nat.lcm b c)
theorem lcmL_cons (c : Nat) (r : List Nat) : lcmL (c :: r) = Nat.lcm c (lcmL r) := by
  unfold lcmL
  rw [List.foldl_cons, Nat.lcm_comm 1 c]
  exact lcmF_out r c 1
def movS : List (Nat × Nat) → Rat
  | [] => 0
  | m :: r => Rat.divInt (m.2 : Int) (m.1 : Int) + movS r
theorem holeN_ok {rest : List Nat} {left : Rat} {c : Nat} (hc : 1 ≤ c) (hr : 1 ≤ lcmL rest) (hd : ((left.den : Nat) : Int) ∣ ((Nat.lcm c (lcmL rest) : Nat) : Int)) :
    (((left - Rat.divInt ((holeN rest left c : Nat) : Int) (c : Int)).den : Nat) : Int) ∣ ((lcmL rest : Nat) : Int) := by
  obtain ⟨h, hl, dv⟩ := holes_ex hc hr hd
  have gb : goodB rest left c h = true := by
    unfold goodB
    rw [decide_eq_true_eq]
    exact Nat.mod_eq_zero_of_dvd (Int.natCast_dvd_natCast.mp dv)
  have so : ((List.range c).find? (goodB rest left c)).isSome = true := by
    rw [List.find?_isSome]
    exact ⟨h, List.mem_range.mpr hl, gb⟩
  obtain ⟨h2, e2⟩ := Option.isSome_iff_exists.mp so
  have g2 := List.find?_some e2
  unfold holeN
  rw [e2]
  unfold goodB at g2
  rw [decide_eq_true_eq] at g2
  exact Int.natCast_dvd_natCast.mpr (Nat.dvd_of_mod_eq_zero g2)
theorem planR_right : ∀ (few : List Nat) (left : Rat), In2 few → ((left.den : Nat) : Int) ∣ ((lcmL few : Nat) : Int) →
    (planR few left).1.den = 1 ∧ left = (planR few left).1 + movS (planR few left).2
  | [], left, _, hd => by
    have hd : ((left.den : Nat) : Int) ∣ 1 := hd
    refine ⟨?_, ?_⟩
    · have := Int.natCast_dvd_natCast.mp (show ((left.den : Nat) : Int) ∣ ((1 : Nat) : Int) from hd)
      exact Nat.dvd_one.mp this
    · show left = left + 0
      grind
  | c :: r, left, hc, hd => by
    have h1 := hc c (List.mem_cons_self ..)
    have hr : In2 r := fun x hx => hc x (List.mem_cons_of_mem _ hx)
    rw [lcmL_cons] at hd
    have hp := lcmL_pos hr.i
    obtain ⟨i1, i2⟩ := planR_right r _ hr (holeN_ok (by omega) hp hd)
    unfold planR
    refine ⟨i1, ?_⟩
    show left = _ + (Rat.divInt _ _ + movS _)
    grind
theorem planR_mem : ∀ (few : List Nat) (left : Rat) (m : Nat × Nat), In2 few → m ∈ (planR few left).2 → m.1 ∈ few ∧ m.2 < m.1
  | [], left, m, _, h => by
    unfold planR at h
    cases h
  | c :: r, left, m, hc, h => by
    have h1 := hc c (List.mem_cons_self ..)
    unfold planR at h
    rcases List.mem_cons.mp h with rfl | z
    · exact ⟨List.mem_cons_self .., holeN_lt _ _ (by omega)⟩
    · obtain ⟨a, b⟩ := planR_mem r _ m (fun x hx => hc x (List.mem_cons_of_mem _ hx)) z
      exact ⟨List.mem_cons_of_mem _ a, b⟩
theorem planR_len : ∀ (few : List Nat) (left : Rat), (planR few left).2.length = few.length
  | [], left => by
    unfold planR
    rfl
  | c :: r, left => by
    unfold planR
    rw [List.length_cons, List.length_cons, planR_len r]

end
section
theorem lunder_ok (c k : Int) (h : 0 ≤ k ∧ k ≤ 1000) : ∃ i : Int, f_u_law_under [.int c, .int k] = .ok (.int i) := by
  unfold f_u_law_under sm_u_law_under tl_u_law_under_0
  by_cases h1 : c.natAbs < 1000000000000000000
  · have hd : decide ((c.natAbs : Int) < 1000000000000000000) = true := decide_eq_true (by omega)
    exact ⟨_, by k_search [pow18, hd, kMul_ok (mul60 h1 (show (48271 : Int).natAbs < 1000000000000000000 by omega)), kMul_ok (mul60 (show (7919 : Int).natAbs < 1000000000000000000 by omega) (show k.natAbs < 1000000000000000000 by omega)), kMod_ok (show (0 : Int) < 2147483647 by omega)]; rfl⟩
  · have hd : decide ((c.natAbs : Int) < 1000000000000000000) = false := decide_eq_false (by omega)
    have hi : inR (k + 1) = true := inR_int (by omega)
    obtain ⟨δ', l1, i, l2⟩ := forL_inv (gt := gtN 3) (b := lb_u_law_under_0) (fun δ => ∃ (i : Int) (o : O), δ = [.sh (.int c), .sh (.int k), .sh (.int i), o]) (ds := rangeD 0 (k + 1).toNat) (δ := [.sh (.int c), .sh (.int k), .sh (.int (c.natAbs - 1000000000000000000)), .no]) (by
      rintro d hd δ ⟨i, o, rfl⟩
      refine ⟨_, [.sh (.int c), .sh (.int k), .sh (.int (i / 1000000000)), .sh d], rfl, ?_, _, _, rfl⟩
      unfold lb_u_law_under_0
      k_search [pow9, kDiv_ok (divOk_lt (i := i) (j := 1000000000) (b := 60) (by omega) (by omega) (by omega))]) ⟨_, _, rfl⟩
    obtain ⟨o, rfl⟩ := l2
    exact ⟨_, by k_search [pow18, hd, kRng1_eq, hi, if_true, l1]; rfl⟩

def addI (L : List Int) (x : Int) : List Int := if x ∈ L then L else L ++ [x]
theorem nice_is (xs : List Int) : nice 2 (.lst (xs.map D.int)) = true := by
  have : niceA 1 (xs.map D.int) = true := niceA_all fun d hd => by
    obtain ⟨x, _, rfl⟩ := List.mem_map.mp hd
    rfl
  simpa only [nice] using this
theorem deq_i (a b : Int) : deq (.int a) (.int b) = decide (a = b) := by
  unfold deq
  simp only [toPy, PyData.eqv]
  rw [Bool.eq_iff_iff, beq_iff_eq, decide_eq_true_eq]
theorem any_i (x : Int) : ∀ xs : List Int, ((xs.map D.int).any fun z => deq z (.int x)) = decide (x ∈ xs)
  | [] => rfl
  | y :: xs => by
    rw [List.map_cons, List.any_cons, any_i x xs, deq_i, Bool.eq_iff_iff]
    simp only [Bool.or_eq_true, decide_eq_true_eq, List.mem_cons]
    constructor
    · rintro (h | h)
      · exact .inl h.symm
      · exact .inr h
    · rintro (h | h)
      · exact .inl h.symm
      · exact .inr h
theorem kNotIn_i (x : Int) (xs : List Int) : kNotIn (.int x) (.lst (xs.map D.int)) = .ok (.bl (!decide (x ∈ xs))) := by
  unfold kNotIn
  dsimp only
  rw [shp_nice (n := 1) (d := .int x) rfl (by omega), shp_nice (nice_is xs) (by omega), any_i]
  rfl
def incD : D → D
  | .int i => .int (1 + i)
  | d => d
theorem kNotIn_n (x : Nat) (xs : List Nat) : kNotIn (.int (x : Nat)) (.lst (natL xs)) = .ok (.bl (!decide (x ∈ xs))) := by
  rw [natL_i, kNotIn_i]
  congr 4
  apply propext
  constructor
  · intro h
    obtain ⟨y, hy, e⟩ := List.mem_map.mp h
    have : y = x := by omega
    exact this ▸ hy
  · intro h
    exact List.mem_map.mpr ⟨x, h, rfl⟩
theorem pickC (j : Int) (h0 : 0 ≤ j) (h1 : j < 12) : ∃ m : Nat, atD [.int 12, .int 16, .int 20, .int 24, .int 30, .int 36, .int 42, .int 49, .int 27, .int 25, .int 60, .int 120] j = .ok (.int (m : Nat)) ∧ 2 ≤ m ∧ m ≤ 120 := by
  rcases (show j = 0 ∨ j = 1 ∨ j = 2 ∨ j = 3 ∨ j = 4 ∨ j = 5 ∨ j = 6 ∨ j = 7 ∨ j = 8 ∨ j = 9 ∨ j = 10 ∨ j = 11 by omega) with rfl | rfl | rfl | rfl | rfl | rfl | rfl | rfl | rfl | rfl | rfl | rfl
  · exact ⟨12, atD_nat (by decide) rfl, by omega, by omega⟩
  · exact ⟨16, atD_nat (by decide) rfl, by omega, by omega⟩
  · exact ⟨20, atD_nat (by decide) rfl, by omega, by omega⟩
  · exact ⟨24, atD_nat (by decide) rfl, by omega, by omega⟩
  · exact ⟨30, atD_nat (by decide) rfl, by omega, by omega⟩
  · exact ⟨36, atD_nat (by decide) rfl, by omega, by omega⟩
  · exact ⟨42, atD_nat (by decide) rfl, by omega, by omega⟩
  · exact ⟨49, atD_nat (by decide) rfl, by omega, by omega⟩
  · exact ⟨27, atD_nat (by decide) rfl, by omega, by omega⟩
  · exact ⟨25, atD_nat (by decide) rfl, by omega, by omega⟩
  · exact ⟨60, atD_nat (by decide) rfl, by omega, by omega⟩
  · exact ⟨120, atD_nat (by decide) rfl, by omega, by omega⟩
theorem kLst12' (a b c d e f g h i j k l : D) : kLst [a, b, c, d, e, f, g, h, i, j, k, l] = .ok (.lst [a, b, c, d, e, f, g, h, i, j, k, l]) := Eq.trans rfl rfl
abbrev menuC : D := .lst [.int 12, .int 16, .int 20, .int 24, .int 30, .int 36, .int 42, .int 49, .int 27, .int 25, .int 60, .int 120]
def addN' (L : List Nat) (x : Nat) : List Nat := if x ∈ L then L else L ++ [x]
theorem side_ok (c p m : Int) (hp : 0 < p ∧ p ≤ 1000000) (hm : 0 < m) : ∃ s : Int, f_u_law_side [.int c, .int p, .int m] = .ok (.int s) ∧ 0 ≤ s ∧ s < m := by
  obtain ⟨rs, f1, h3⟩ := draws_eq (c + p) [p] (by
    intro z hz
    simp only [List.mem_cons, List.not_mem_nil, or_false] at hz
    have := pow_big
    omega) (by simp)
  obtain ⟨r0, rs, rfl, a0, b0, h3⟩ := h3.cons
  have e := h3.nil
  subst e
  simp only [List.map_cons, List.map_nil] at f1
  refine ⟨r0 % m, ?_, Int.emod_nonneg _ (by omega), Int.emod_lt_of_pos _ hm⟩
  unfold f_u_law_side sm_u_law_side
  k_search [f1, kMod_ok hm]
theorem kEq_selfL {n : Nat} {ds : List D} (h : nice n (.lst ds) = true) (hn : n ≤ 64) : kEq (.lst ds) (.lst ds) = .ok (.bl true) := by
  unfold kEq
  have hb : bothS (.lst ds) (.lst ds) = none := rfl
  rw [hb]
  dsimp only
  rw [shp_nice h hn]
  simp only [Bool.and_self, if_true]
  unfold deq
  rw [eqv_refl n _ h]
end
section
theorem forC_nc {gt : D → Sm → Res Sm} {b : Sn} {d : D} {ds : List D} {δ δ1 δ2 : Sm} {κ κ2 : Cells} (h1 : gt d δ = .ok δ1) (h2 : b δ1 κ = .nx δ2 κ2 ∨ b δ1 κ = .ct δ2 κ2) : forC gt b (d :: ds) δ κ = forC gt b ds δ2 κ2 := by
  rw [forC]
  rcases h2 with h2 | h2
  · simp only [h1, h2]
  · simp only [h1, h2]
theorem forC_nx {gt : D → Sm → Res Sm} {b : Sn} {d : D} {ds : List D} {δ δ1 δ2 : Sm} {κ κ2 : Cells} (h1 : gt d δ = .ok δ1) (h2 : b δ1 κ = .nx δ2 κ2) : forC gt b (d :: ds) δ κ = forC gt b ds δ2 κ2 := forC_nc h1 (.inl h2)
theorem bor_imm {fm : List D → Res D} {ds es : List D} {κ : Cells} {d : D} (h : ds.map (rsv rDeep κ) = es) (hp : plainA es = true) (hf : fm es = .ok d) (hi : imm d = true) : bor fm ds κ = .ok d κ := by
  unfold bor
  rw [h, if_pos hp, hf]
  unfold rImm
  dsimp only
  rw [if_pos hi]
  rfl
theorem plain_nat : ∀ cs : List Nat, plainA (natL cs) = true
  | [] => rfl
  | c :: cs => by
    show (plain (.int (c : Nat)) && plainA (natL cs)) = true
    rw [plain_nat cs]
    rfl
theorem rsv_nat {κ : Cells} {m : Nat} {cs : List Nat} (h : κ[m]? = some (.lst (natL cs))) : rsv rDeep κ (.loc m) = .lst (natL cs) := rsv_loc (k := 5) h (plain_nat cs)
theorem kSortIc_nat {κ : Cells} {m : Nat} {cs : List Nat} (h : κ[m]? = some (.lst (natL cs))) : kSortIc [.loc m] κ = .ok (.lst (natL (sortN cs))) κ := by
  unfold kSortIc
  dsimp only
  rw [lstOf_loc h]
  dsimp only
  rw [natL_i, intsOf_map]
  dsimp only
  rw [natL_i, sortN_cast]
section
variable {κ : Cells}
theorem crowd_loopC (o0 : O) : ∀ (ds : List Nat) (F : List (List Nat)) (o2 : O) (k : Nat), F.length * 2 ^ ds.length ≤ 100000 → (∀ cr ∈ F, cr.length ≤ k) → k + ds.length ≤ 1000 → ∃ o2', forC (gtN 2) lb_crowds_of_0 (natL ds) [o0, .sh (.lst (crD F)), o2, .no] κ = .nx [o0, .sh (.lst (crD (crw ds F))), o2', .no] κ
  | [], F, o2, k, _, _, _ => ⟨o2, rfl⟩
  | c :: ds, F, o2, k, h1, h2, h3 => by
    rw [List.length_cons] at h1 h3
    have e1 : (F ++ F.map (· ++ [c])).length * 2 ^ ds.length = F.length * 2 ^ (ds.length + 1) := by
      rw [List.length_append, List.length_map, Nat.pow_succ, Nat.mul_comm (2 ^ ds.length), ← Nat.mul_assoc]
      congr 1
      omega
    have fl : F.length ≤ 100000 := Nat.le_trans (Nat.le_mul_of_pos_right _ (Nat.pow_pos (by omega))) h1
    obtain ⟨o2', w⟩ := crowd_loopC o0 ds (F ++ F.map (· ++ [c])) (.sh (.int (c : Nat))) (k + 1) (by omega) (fun x hx => by
      rcases List.mem_append.mp hx with y | y
      · have := h2 x y; omega
      · obtain ⟨z, hz, rfl⟩ := List.mem_map.mp y
        have := h2 z hz
        rw [List.length_append, List.length_cons, List.length_nil]
        omega) (by omega)
    refine ⟨o2', ?_⟩
    have lc : eLc (itOf asL (eVar 1)) (gtN 3) tYesD (e2 kCat (eVar 3) (eA kLst (aCons (eVar 2) aNil))) [3] [o0, .sh (.lst (crD F)), .sh (.int (c : Nat)), .no] = .ok (.lst (crD (F.map (· ++ [c])))) := by
      rw [← appD_cr]
      refine eLc_all (appD c) (by walk_at "ev") (by unfold crD; rw [List.length_map]; omega) fun d hd => ?_
      unfold crD at hd
      obtain ⟨cr, hcr, rfl⟩ := List.mem_map.mp hd
      have cl := h2 cr hcr
      refine ⟨[hideO o0, .sh (.lst (crD F)), .sh (.int (c : Nat)), .sh (.lst (natL cr))], rfl, rfl, ?_⟩
      have kc : kCat (.lst (natL cr)) (.lst [.int (c : Nat)]) = .ok (.lst (natL cr ++ [.int (c : Nat)])) := kCat_ok (by rw [natL_len]; simp only [List.length_cons, List.length_nil]; omega)
      k_search [kc]
      rfl
    have kc : kCat (.lst (crD F)) (.lst (crD (F.map (· ++ [c])))) = .ok (.lst (crD (F ++ F.map (· ++ [c])))) := by
      rw [kCat_ok (by unfold crD; rw [List.length_map, List.length_map, List.length_map]; omega), crD_app]
    show forC (gtN 2) lb_crowds_of_0 (.int (c : Nat) :: natL ds) _ κ = _
    rw [forC_nx (δ1 := [o0, .sh (.lst (crD F)), .sh (.int (c : Nat)), .no]) (δ2 := [o0, .sh (.lst (crD (F ++ F.map (· ++ [c])))), .sh (.int (c : Nat)), .no]) (κ2 := κ) rfl, w]
    · rfl
    · unfold lb_crowds_of_0
      k_search [some (lc), kc]
theorem choice_loopC (o0 : O) : ∀ (ds : List Nat) (F : List (List Nat)) (o2 : O) (k : Nat), F.length * 2 ^ ds.length ≤ 100000 → (∀ cr ∈ F, cr.length ≤ k) → k + ds.length ≤ 1000 → ∃ o2', forC (gtN 2) lb_u_law_choices_0 (natL ds) [o0, .sh (.lst (crD F)), o2, .no, .no] κ = .nx [o0, .sh (.lst (crD (crw ds F))), o2', .no, .no] κ
  | [], F, o2, k, _, _, _ => ⟨o2, rfl⟩
  | c :: ds, F, o2, k, h1, h2, h3 => by
    rw [List.length_cons] at h1 h3
    have e1 : (F ++ F.map (· ++ [c])).length * 2 ^ ds.length = F.length * 2 ^ (ds.length + 1) := by
      rw [List.length_append, List.length_map, Nat.pow_succ, Nat.mul_comm (2 ^ ds.length), ← Nat.mul_assoc]
      congr 1
      omega
    have fl : F.length ≤ 100000 := Nat.le_trans (Nat.le_mul_of_pos_right _ (Nat.pow_pos (by omega))) h1
    obtain ⟨o2', w⟩ := choice_loopC o0 ds (F ++ F.map (· ++ [c])) (.sh (.int (c : Nat))) (k + 1) (by omega) (fun x hx => by
      rcases List.mem_append.mp hx with y | y
      · have := h2 x y; omega
      · obtain ⟨z, hz, rfl⟩ := List.mem_map.mp y
        have := h2 z hz
        rw [List.length_append, List.length_cons, List.length_nil]
        omega) (by omega)
    refine ⟨o2', ?_⟩
    have lc : eLc (itOf asL (eVar 1)) (gtN 3) tYesD (e2 kCat (eVar 3) (eA kLst (aCons (eVar 2) aNil))) [3] [o0, .sh (.lst (crD F)), .sh (.int (c : Nat)), .no, .no] = .ok (.lst (crD (F.map (· ++ [c])))) := by
      rw [← appD_cr]
      refine eLc_all (appD c) (by walk_at "ev") (by unfold crD; rw [List.length_map]; omega) fun d hd => ?_
      unfold crD at hd
      obtain ⟨cr, hcr, rfl⟩ := List.mem_map.mp hd
      have cl := h2 cr hcr
      refine ⟨[hideO o0, .sh (.lst (crD F)), .sh (.int (c : Nat)), .sh (.lst (natL cr)), .no], rfl, rfl, ?_⟩
      have kc : kCat (.lst (natL cr)) (.lst [.int (c : Nat)]) = .ok (.lst (natL cr ++ [.int (c : Nat)])) := kCat_ok (by rw [natL_len]; simp only [List.length_cons, List.length_nil]; omega)
      k_search [kc]
      rfl
    have kc : kCat (.lst (crD F)) (.lst (crD (F.map (· ++ [c])))) = .ok (.lst (crD (F ++ F.map (· ++ [c])))) := by
      rw [kCat_ok (by unfold crD; rw [List.length_map, List.length_map, List.length_map]; omega), crD_app]
    show forC (gtN 2) lb_u_law_choices_0 (.int (c : Nat) :: natL ds) _ κ = _
    rw [forC_nx (δ1 := [o0, .sh (.lst (crD F)), .sh (.int (c : Nat)), .no, .no]) (δ2 := [o0, .sh (.lst (crD (F ++ F.map (· ++ [c])))), .sh (.int (c : Nat)), .no, .no]) (κ2 := κ) rfl, w]
    · rfl
    · unfold lb_u_law_choices_0
      k_search [some (lc), kc]
theorem crowdsC_ok (hk : κ[0]? = some (.tab "crowds_of" "crowds_of.<locals>.<lambda>")) {cs : List Nat} {m : Nat} (hm : κ[m]? = some (.lst (natL cs))) (hl : cs.length ≤ 9) : F_crowds_of [.loc m] κ = .ok (.lst (crD (crowdS cs))) κ := by
  have sl : (sortN cs).length = cs.length := (sortN_perm cs).length_eq
  have p : 2 ^ (sortN cs).length ≤ 2 ^ 9 := Nat.pow_le_pow_right (by omega) (by omega)
  obtain ⟨o2, w⟩ := crowd_loopC (κ := κ) (.sh (.loc m)) (sortN cs) [[]] .no 0 (by rw [List.length_singleton]; omega) (fun cr h => by rw [List.mem_singleton.mp h]; exact Nat.le_refl _) (by omega)
  have w' : forC (gtN 2) lb_crowds_of_0 (natL (sortN cs)) [.sh (.loc m), .sh (.lst [.lst []]), .no, .no] κ = .nx [.sh (.loc m), .sh (.lst (crD (crw (sortN cs) [[]]))), o2, .no] κ := w
  have ml := crw_max (sortN cs) [[]] 0 (fun cr h => by rw [List.mem_singleton.mp h]; exact Nat.le_refl _)
  have so := sort_cr (F := crw (sortN cs) [[]]) (fm := fun d => lam_crowds_of_0 [.sh d]) (fun cr h => by have := ml cr h; omega) (fun cr h => lam_cr h)
  have zs0 : zSortL 0 "crowds_of" "crowds_of.<locals>.<lambda>" lam_crowds_of_0 (zCons (lf (eVar 1)) zNil) [.sh (.loc m), .sh (.lst (crD (crw (sortN cs) [[]]))), o2, .no] κ = .ok (.lst (crD (crowdS cs))) κ := by
    unfold zSortL
    walk_at "ev"
    rw [hk]
    dsimp only
    rw [if_pos ⟨rfl, rfl⟩]
    show (kSortK (fun d => lam_crowds_of_0 [.sh d]) (.lst (crD (crw (sortN cs) [[]])))).at κ = _
    rw [so]
    rfl
  have ks := kSortIc_nat hm
  unfold F_crowds_of sm_crowds_of
  k_search [ks, w', some (zs0)]
theorem choicesC_ok {cs : List Nat} {m : Nat} (hm : κ[m]? = some (.lst (natL cs))) (hl : cs.length ≤ 9) : F_u_law_choices [.loc m] κ = .ok (.lst (crD (crowdS cs))) κ := by
  have sl : (sortN cs).length = cs.length := (sortN_perm cs).length_eq
  have p : 2 ^ (sortN cs).length ≤ 2 ^ 9 := Nat.pow_le_pow_right (by omega) (by omega)
  obtain ⟨o2, w⟩ := choice_loopC (κ := κ) (.sh (.loc m)) (sortN cs) [[]] .no 0 (by rw [List.length_singleton]; omega) (fun cr h => by rw [List.mem_singleton.mp h]; exact Nat.le_refl _) (by omega)
  have w' : forC (gtN 2) lb_u_law_choices_0 (natL (sortN cs)) [.sh (.loc m), .sh (.lst [.lst []]), .no, .no, .no] κ = .nx [.sh (.loc m), .sh (.lst (crD (crw (sortN cs) [[]]))), o2, .no, .no] κ := w
  have fl : (crw (sortN cs) [[]]).length ≤ 512 := by rw [crw_len, List.length_singleton]; omega
  unfold crowdS
  generalize crw (sortN cs) [[]] = F at w' fl
  have ml : (F.mergeSort crLe).length = F.length := (List.mergeSort_perm F crLe).length_eq
  have lc1 : eLc (itOf asL (eVar 1)) (gtN 3) tYesD (eA kTup (aCons (eA kLen (aCons (eVar 3) aNil)) (aCons (eVar 3) aNil))) [3] [.sh (.loc m), .sh (.lst (crD F)), o2, .no, .no] = .ok (.lst (F.map prD)) := by
    have z := eLc_all (it := itOf asL (eVar 1)) (gt := gtN 3) (t := tYesD) (e := eA kTup (aCons (eA kLen (aCons (eVar 3) aNil)) (aCons (eVar 3) aNil))) (vs := [3]) (δ := [.sh (.loc m), .sh (.lst (crD F)), o2, .no, .no]) (ds := crD F)
      (fun d => match d with | .lst xs => .tup [.int (xs.length : Nat), .lst xs] | d => d) (by walk_at "ev") (by unfold crD; rw [List.length_map]; omega) (fun d hd => by
      obtain ⟨cr, hcr, rfl⟩ := List.mem_map.mp hd
      refine ⟨[.sh (.loc m), .sh (.lst (crD F)), hideO o2, .sh (.lst (natL cr)), .no], rfl, rfl, ?_⟩
      walk_at "ev"
      all_goals rfl)
    rw [z]
    unfold crD
    rw [List.map_map]
    refine congrArg (fun l => Res.ok (D.lst l)) (List.map_congr_left fun cr _ => ?_)
    show D.tup [.int ((natL cr).length : Nat), .lst (natL cr)] = D.tup [.int (cr.length : Nat), .lst (natL cr)]
    rw [natL_len]
  have sp2 := sort_pr F
  have lc2 : eLc (itOf asL (eA (on1 kSortP) (aCons (eLc (itOf asL (eVar 1)) (gtN 3) tYesD (eA kTup (aCons (eA kLen (aCons (eVar 3) aNil)) (aCons (eVar 3) aNil))) [3]) aNil))) (gtT 2 (gtCons (gtN 4) (gtCons (gtN 3) gtNil))) tYesD (eVar 3) [4, 3] [.sh (.loc m), .sh (.lst (crD F)), o2, .no, .no] = .ok (.lst (crD (F.mergeSort crLe))) := by
    have z := eLc_all (it := itOf asL (eA (on1 kSortP) (aCons (eLc (itOf asL (eVar 1)) (gtN 3) tYesD (eA kTup (aCons (eA kLen (aCons (eVar 3) aNil)) (aCons (eVar 3) aNil))) [3]) aNil))) (gt := gtT 2 (gtCons (gtN 4) (gtCons (gtN 3) gtNil))) (t := tYesD) (e := eVar 3) (vs := [4, 3]) (δ := [.sh (.loc m), .sh (.lst (crD F)), o2, .no, .no]) (ds := (F.mergeSort crLe).map prD)
      (fun d => match d with | .tup [_, x] => x | d => d) (by k_search [some (lc1), sp2]) (by rw [List.length_map]; omega) (fun d hd => by
      obtain ⟨cr, hcr, rfl⟩ := List.mem_map.mp hd
      exact ⟨[.sh (.loc m), .sh (.lst (crD F)), hideO o2, .sh (.lst (natL cr)), .sh (.int (cr.length : Nat))], rfl, rfl, rfl⟩)
    rw [z, List.map_map]
    rfl
  have ks := kSortIc_nat hm
  unfold F_u_law_choices sm_u_law_choices
  k_search [ks, w', some (lc2)]
theorem crowd_many {cs : List Nat} (hl : cs.length ≤ 9) : (crowdS cs).length ≤ 512 := by
  have e : (crowdS cs).length = (crw (sortN cs) [[]]).length := (List.mergeSort_perm _ _).length_eq
  have p : 2 ^ (sortN cs).length ≤ 2 ^ 9 := Nat.pow_le_pow_right (by omega) (by rw [(sortN_perm cs).length_eq]; omega)
  rw [e, crw_len, List.length_singleton]
  omega
theorem fewC_ok (hk : κ[0]? = some (.tab "crowds_of" "crowds_of.<locals>.<lambda>")) {t c m : Nat} {cs : List Nat} (hm : κ[m]? = some (.lst (natL cs))) (ht : 1 ≤ t ∧ t ≤ 200) (h : In2 cs) (hl : cs.length ≤ 9) (h1 : 1 ≤ c) (h2 : c ≤ 5000) (hb : barO (t * lcmL cs) c = none) :
    F_few_circles [.int (t : Nat), .loc m, .int (c : Nat)] κ = .ok (.lst (natL (fewO t c cs))) κ ∧ fewO t c cs ∈ fits t c cs := by
  have bo := bar_ok ht h (by omega) h1 h2
  have bd : barD (t * lcmL cs) c = .non := by unfold barD; rw [hb]
  rw [bd] at bo
  have bb : bor f_bar [.int (t : Nat), .loc m, .int (c : Nat)] κ = .ok .non κ := bor_imm (es := [.int (t : Nat), .lst (natL cs), .int (c : Nat)]) (by
    show [rsv rDeep κ (.int (t : Nat)), rsv rDeep κ (.loc m), rsv rDeep κ (.int (c : Nat))] = _
    rw [rsv_nat hm]
    rfl) (by
    show (true && (plainA (natL cs) && _)) = true
    rw [plain_nat]
    rfl) bo rfl
  have dv := bar_none h1 hb
  have ne := fits_ne dv
  have cw := crowdsC_ok hk hm hl
  have cl := crowd_many hl
  have lc : zLc (zIt (zCall F_crowds_of (pk [] [.p 0]) (zCons (lf (eVar 1)) zNil) zNil)) (gtN 5) (lf (tOf (e2 kEq (e2 kMod (e2 kMul (eVar 0) (eCall f_least_common (pk [] [.p 0]) (aCons (eVar 5) aNil) aNil)) (eVar 2)) (eC (.int 0))))) (lf (eVar 5)) [5]
      [.sh (.int (t : Nat)), .sh (.loc m), .sh (.int (c : Nat)), .sh .non, .no, .no] κ = .ok (.lst (crD (fits t c cs))) κ := by
    have z := zLc_sel (it := zIt (zCall F_crowds_of (pk [] [.p 0]) (zCons (lf (eVar 1)) zNil) zNil)) (gt := gtN 5) (t := lf (tOf (e2 kEq (e2 kMod (e2 kMul (eVar 0) (eCall f_least_common (pk [] [.p 0]) (aCons (eVar 5) aNil) aNil)) (eVar 2)) (eC (.int 0))))) (e := lf (eVar 5)) (vs := [5])
      (δ := [.sh (.int (t : Nat)), .sh (.loc m), .sh (.int (c : Nat)), .sh .non, .no, .no]) (κ := κ) (ds := crD (crowdS cs)) (fitD t c) id (by k_search [cw]) (by unfold crD; rw [List.length_map]; omega) (fun d hd => by
      unfold crD at hd
      obtain ⟨cr, hcr, rfl⟩ := List.mem_map.mp hd
      obtain ⟨i1, i2⟩ := crowd_in h hcr
      refine ⟨[.sh (.int (t : Nat)), .sh (.loc m), .sh (.int (c : Nat)), .sh .non, .no, .sh (.lst (natL cr))], rfl, ?_, fun _ => rfl⟩
      have lo := least_ok i1.i (by omega)
      have mo := fin_mul ht.2 i1.i (by omega)
      have km := kMod_ok (i := (t : Int) * ((lcmL cr : Nat) : Int)) (j := (c : Int)) (by omega)
      have b := mod_b (t * lcmL cr) c
      rw [Int.natCast_mul] at b
      rw [fitD_cr]
      k_search [lo, kMul_ok mo, km, b]
      rfl)
    rw [z, List.map_id]
    unfold crD fits
    rw [List.filter_map]
    congr 3
    refine List.filter_congr fun cr _ => ?_
    exact fitD_cr t c cr
  obtain ⟨f0, fr, ef⟩ := List.exists_cons_of_ne_nil ne
  have fo : fewO t c cs = f0 := by unfold fewO; rw [ef]; rfl
  have i0 : atD (crD (fits t c cs)) 0 = .ok (.lst (natL (fewO t c cs))) := by
    rw [ef, fo]
    exact atD_0 _ _
  refine ⟨?_, by rw [fo, ef]; exact List.mem_cons_self ..⟩
  unfold F_few_circles sm_few_circles tl_few_circles_0
  k_search [bb, some (lc), i0]
theorem fewC_barred {t c m : Nat} {cs : List Nat} (hm : κ[m]? = some (.lst (natL cs))) (ht : 1 ≤ t ∧ t ≤ 200) (h : In2 cs) (hl : cs.length ≤ 9) (h1 : 1 ≤ c) (h2 : c ≤ 5000) {u : Nat × Nat × Nat} (hb : barO (t * lcmL cs) c = some u) :
    F_few_circles [.int (t : Nat), .loc m, .int (c : Nat)] κ = .xc "Barred" [("power", .int (u.2.1 : Nat)), ("prime", .int (u.1 : Nat)), ("word", .str "barred")] κ := by
  have bo := bar_ok ht h (by omega) h1 h2
  have bd : barD (t * lcmL cs) c = .tup [.int (u.1 : Nat), .int (u.2.1 : Nat)] := by unfold barD; rw [hb]
  rw [bd] at bo
  have bb : bor f_bar [.int (t : Nat), .loc m, .int (c : Nat)] κ = .ok (.tup [.int (u.1 : Nat), .int (u.2.1 : Nat)]) κ := bor_imm (es := [.int (t : Nat), .lst (natL cs), .int (c : Nat)]) (by
    show [rsv rDeep κ (.int (t : Nat)), rsv rDeep κ (.loc m), rsv rDeep κ (.int (c : Nat))] = _
    rw [rsv_nat hm]
    rfl) (by
    show (true && (plainA (natL cs) && _)) = true
    rw [plain_nat]
    rfl) bo rfl
  unfold F_few_circles sm_few_circles
  k_search [bb]
end
end
section
section
variable {κ : Cells}
theorem planC_ok (hk : κ[0]? = some (.tab "crowds_of" "crowds_of.<locals>.<lambda>")) {t c m : Nat} {cs : List Nat} (hm : κ[m]? = some (.lst (natL cs))) (ht : 1 ≤ t ∧ t ≤ 200) (h : In2 cs) (hl : cs.length ≤ 9) (h1 : 1 ≤ c) (h2 : c ≤ 5000) (hb : barO (t * lcmL cs) c = none) :
    F_plan [.int (t : Nat), .loc m, .int (c : Nat)] κ = .ok (.tup [.int (planR (fewO t c cs) (leftQ t c)).1.num, .lst ((planR (fewO t c cs) (leftQ t c)).2.map movD)]) κ := by
  obtain ⟨fw, fm⟩ := fewC_ok hk hm ht h hl h1 h2 hb
  have big := p200
  have sm : (2 : Nat) ^ 20 ≤ 2 ^ 200 := Nat.pow_le_pow_right (by omega) (by omega)
  have pe := part_eq (t : Int) (c : Int) (by omega) (by omega)
  rw [low_div _ _ (by omega)] at pe
  have pe' : f_part [.int (t : Nat), .int (c : Nat)] = .ok (qD (leftQ t c)) := pe
  have sz : Sz 20 (leftQ t c) := sz_div (by omega) (by omega) (by omega)
  have fi := crowd_in h (List.mem_filter.mp fm).1
  generalize fewO t c cs = few at *
  obtain ⟨q6, q7, q8, w⟩ := plan_loop (κ := κ) (.sh (.int (t : Nat))) (.sh (.loc m)) (.sh (.int (c : Nat))) few fi.1 (by omega) few 0 fuelTop (leftQ t c) [] .no .no .no 20 rfl (fuelTop_lt (by omega)) (by omega) sz (by omega) (by rw [List.length_nil]; omega)
  rw [List.nil_append] at w
  have it : nForG (zStE (zCons (lf (eVar 3)) zNil)) (gtT 2 (gtCons (gtN 6) (gtCons (gtN 7) gtNil))) lb_plan_0 [.sh (.int (t : Nat)), .sh (.loc m), .sh (.int (c : Nat)), .sh (.lst (natL few)), .sh (qD (leftQ t c)), .ol [], .no, .no, .no] κ = .nx [.sh (.int (t : Nat)), .sh (.loc m), .sh (.int (c : Nat)), .sh (.lst (natL few)), .sh (qD (planR few (leftQ t c)).1), .ol ((planR few (leftQ t c)).2.map movD), q6, q7, q8] κ := by
    have z : zStE (zCons (lf (eVar 3)) zNil) [.sh (.int (t : Nat)), .sh (.loc m), .sh (.int (c : Nat)), .sh (.lst (natL few)), .sh (qD (leftQ t c)), .ol [], .no, .no, .no] κ = .ok (stEf (natL few)) κ := by
      unfold zStE
      walk_at "ev"
    unfold nForG
    rw [z]
    exact w
  have i0 : kIx (qD (planR few (leftQ t c)).1) (.int 0) = .ok (.int (planR few (leftQ t c)).1.num) := rfl
  unfold F_plan sm_plan dd_part
  k_search [fw, pe', some (it), i0]
theorem planC_xc {t cs c : D} {C : Str} {fs : List (Str × D)} (h : F_few_circles [t, cs, c] κ = .xc C fs κ) : F_plan [t, cs, c] κ = .xc C fs κ := by
  unfold F_plan sm_plan
  k_search [h]
theorem noLA_nat : ∀ cs : List Nat, noLA (natL cs) = true
  | [] => rfl
  | c :: cs => by
    show (noL (.int (c : Nat)) && noLA (natL cs)) = true
    rw [noLA_nat cs]
    rfl
theorem noLA_mov : ∀ ms : List (Nat × Nat), noLA (ms.map movD) = true
  | [] => rfl
  | m :: ms => by
    rw [List.map_cons]
    show (noL (movD m) && noLA (ms.map movD)) = true
    rw [noLA_mov ms]
    rfl
theorem toldC_few (hk : κ[0]? = some (.tab "crowds_of" "crowds_of.<locals>.<lambda>")) (ck : cleanKL κ = true) {t c m : Nat} {cs : List Nat} (hm : κ[m]? = some (.lst (natL cs))) (ht : 1 ≤ t ∧ t ≤ 200) (h : In2 cs) (hl : cs.length ≤ 9) (h1 : 1 ≤ c) (h2 : c ≤ 5000) (hb : barO (t * lcmL cs) c = none) :
    F_u_law_told [.int (t : Nat), .loc m, .int (c : Nat), .bl true] κ = .ok (.loc κ.length) (κ ++ [.lst (natL (fewO t c cs))]) := by
  have fw := (fewC_ok hk hm ht h hl h1 h2 hb).1
  have call : zCall F_few_circles (pk [] [.p 0, .p 1, .p 2]) (zCons (lf (eVar 0)) (zCons (lf (eVar 1)) (zCons (lf (eVar 2)) zNil))) zNil [.sh (.int (t : Nat)), .sh (.loc m), .sh (.int (c : Nat)), .sh (.bl true), .no] κ = .ok (.lst (natL (fewO t c cs))) κ := by
    k_search [fw]
  have z := zNewL_lst rfl ck call (noLA_nat _) ck
  unfold F_u_law_told sm_u_law_told
  k_search [some (z)]
  all_goals rfl
theorem toldC_plan (hk : κ[0]? = some (.tab "crowds_of" "crowds_of.<locals>.<lambda>")) (ck : cleanKL κ = true) {t c m : Nat} {cs : List Nat} (hm : κ[m]? = some (.lst (natL cs))) (ht : 1 ≤ t ∧ t ≤ 200) (h : In2 cs) (hl : cs.length ≤ 9) (h1 : 1 ≤ c) (h2 : c ≤ 5000) (hb : barO (t * lcmL cs) c = none) :
    F_u_law_told [.int (t : Nat), .loc m, .int (c : Nat), .bl false] κ = .ok (.tup [.int (planR (fewO t c cs) (leftQ t c)).1.num, .loc κ.length]) (κ ++ [.lst ((planR (fewO t c cs) (leftQ t c)).2.map movD)]) := by
  have pl := planC_ok hk hm ht h hl h1 h2 hb
  have call : zCall F_plan (pk [] [.k 2, .k 1, .k 0]) zNil (zCons (lf (eVar 2)) (zCons (lf (eVar 1)) (zCons (lf (eVar 0)) zNil))) [.sh (.int (t : Nat)), .sh (.loc m), .sh (.int (c : Nat)), .sh (.bl false), .no] κ = .ok (.tup [.int (planR (fewO t c cs) (leftQ t c)).1.num, .lst ((planR (fewO t c cs) (leftQ t c)).2.map movD)]) κ := by
    k_search [pl]
  have z := zNewL_tup rfl ck call rfl (noLA_mov _) ck
  unfold F_u_law_told sm_u_law_told
  k_search [some (z)]
  all_goals rfl
def bad2 (u : Nat × Nat × Nat) : D := .tup [.str "barred", .int (u.1 : Nat), .int (u.2.1 : Nat), .bl true]
theorem toldC_bad (ck : cleanKL κ = true) {t c m : Nat} {cs : List Nat} (hm : κ[m]? = some (.lst (natL cs))) (ht : 1 ≤ t ∧ t ≤ 200) (h : In2 cs) (hl : cs.length ≤ 9) (h1 : 1 ≤ c) (h2 : c ≤ 5000) {u : Nat × Nat × Nat} (hb : barO (t * lcmL cs) c = some u) (b : Bool) :
    F_u_law_told [.int (t : Nat), .loc m, .int (c : Nat), .bl b] κ = .ok (bad2 u) κ := by
  have fx := fewC_barred hm ht h hl h1 h2 hb
  have px := planC_xc fx
  cases b with
  | true =>
    have call : zCall F_few_circles (pk [] [.p 0, .p 1, .p 2]) (zCons (lf (eVar 0)) (zCons (lf (eVar 1)) (zCons (lf (eVar 2)) zNil))) zNil [.sh (.int (t : Nat)), .sh (.loc m), .sh (.int (c : Nat)), .sh (.bl true), .no] κ = .xc "Barred" [("power", .int (u.2.1 : Nat)), ("prime", .int (u.1 : Nat)), ("word", .str "barred")] κ := by
      k_search [fx]
    have z := zNewL_xc rfl ck call
    unfold F_u_law_told sm_u_law_told
    k_search [some (z), tc_u_law_told_0_Barred]
    all_goals rfl
  | false =>
    have call : zCall F_plan (pk [] [.k 2, .k 1, .k 0]) zNil (zCons (lf (eVar 2)) (zCons (lf (eVar 1)) (zCons (lf (eVar 0)) zNil))) [.sh (.int (t : Nat)), .sh (.loc m), .sh (.int (c : Nat)), .sh (.bl false), .no] κ = .xc "Barred" [("power", .int (u.2.1 : Nat)), ("prime", .int (u.1 : Nat)), ("word", .str "barred")] κ := by
      k_search [px]
    have z := zNewL_xc rfl ck call
    unfold F_u_law_told sm_u_law_told
    k_search [some (z), tc_u_law_told_0_Barred]
    all_goals rfl
end
end
section
theorem crw_mem : ∀ (ds : List Nat) (F : List (List Nat)) (l : List Nat), l ∈ crw ds F ↔ ∃ p ∈ F, ∃ s, s.Sublist ds ∧ l = p ++ s
  | [], F, l => by
    unfold crw
    constructor
    · intro h
      exact ⟨l, h, [], List.Sublist.refl _, (List.append_nil l).symm⟩
    · rintro ⟨p, hp, s, hs, rfl⟩
      rw [List.sublist_nil.mp hs, List.append_nil]
      exact hp
  | c :: ds, F, l => by
    unfold crw
    rw [crw_mem ds]
    constructor
    · rintro ⟨p, hp, s, hs, rfl⟩
      rcases List.mem_append.mp hp with y | y
      · exact ⟨p, y, s, hs.cons c, rfl⟩
      · obtain ⟨q, hq, rfl⟩ := List.mem_map.mp y
        exact ⟨q, hq, c :: s, List.Sublist.cons_cons c hs, by rw [List.append_assoc]; rfl⟩
    · rintro ⟨p, hp, s, hs, rfl⟩
      cases hs with
      | cons _ h => exact ⟨p, List.mem_append_left _ hp, s, h, rfl⟩
      | @cons_cons s' _ _ h => exact ⟨p ++ [c], List.mem_append_right _ (List.mem_map.mpr ⟨p, hp, rfl⟩), s', h, by rw [List.append_assoc]; rfl⟩
theorem crowd_sub {cs cr : List Nat} : cr ∈ crowdS cs ↔ cr.Sublist (sortN cs) := by
  rw [mem_crowdS, crw_mem]
  constructor
  · rintro ⟨p, hp, s, hs, rfl⟩
    rw [List.mem_singleton.mp hp, List.nil_append]
    exact hs
  · intro h
    exact ⟨[], List.mem_singleton.mpr rfl, cr, h, rfl⟩
theorem crLe_total : PySem.W.TotalLe crLe := PySem.W.sortLe_total (PyProof.Rows.listOrd PyProof.Rows.itemOrd) false fun b => PySem.W.keyToks (crK b)
theorem crLe_len {a b : List Nat} (h : crLe a b = true) : a.length ≤ b.length := by
  have e : crLe a b = !PySem.W.dataLt (crK b) (crK a) := rfl
  rw [e, Bool.not_eq_true'] at h
  unfold crK at h
  rw [PySem.W.dataLt_pair (by simp [PySem.W.alike]) (by have := alike_nat b a; simp only [PySem.W.alike, this])] at h
  by_cases z : (b.length : Int) = (a.length : Int)
  · omega
  · rw [if_neg (by simp only [PyData.eqv, beq_iff_eq]; exact z), PySem.W.dataLt_int, decide_eq_false_iff_not] at h
    omega
theorem few_min {t c : Nat} {cs cr : List Nat} (h : cr ∈ fits t c cs) : (fewO t c cs).length ≤ cr.length := by
  have pw : (fits t c cs).Pairwise (fun a b => crLe a b = true) := by
    unfold fits crowdS
    exact (List.pairwise_mergeSort (fun a b c h1 h2 => crLe_total.trans a b c h1 h2) (fun a b => by
      rcases crLe_total.total a b with z | z
      · rw [z]; rfl
      · rw [z, Bool.or_true]) _).filter _
  unfold fewO
  cases e : fits t c cs with
  | nil =>
    rw [e] at h
    cases h
  | cons f0 fr =>
    rw [e] at h pw
    show f0.length ≤ cr.length
    rcases List.mem_cons.mp h with rfl | z
    · exact Nat.le_refl _
    · exact crLe_len ((List.pairwise_cons.mp pw).1 cr z)
theorem planR_fst : ∀ (few : List Nat) (left : Rat), (planR few left).2.map (·.1) = few
  | [], left => by unfold planR; rfl
  | c :: r, left => by
    unfold planR
    rw [List.map_cons, planR_fst r]
theorem dvd_lcmL : ∀ {cs : List Nat} {c : Nat}, c ∈ cs → c ∣ lcmL cs
  | d :: cs, c, h => by
    rw [lcmL_cons]
    rcases List.mem_cons.mp h with rfl | z
    · exact Nat.dvd_lcm_left _ _
    · exact Nat.dvd_trans (dvd_lcmL z) (Nat.dvd_lcm_right _ _)
theorem movS_app : ∀ a b : List (Nat × Nat), movS (a ++ b) = movS a + movS b
  | [], b => by
    show movS b = 0 + movS b
    grind
  | m :: a, b => by
    show Rat.divInt (m.2 : Int) (m.1 : Int) + movS (a ++ b) = Rat.divInt (m.2 : Int) (m.1 : Int) + movS a + movS b
    rw [movS_app a b]
    grind
theorem div_whole (h : Int) {c u : Nat} (hc : 1 ≤ c) : Rat.divInt h (c : Int) * (((c * u : Nat) : Int) : Rat) = ((h * (u : Int) : Int) : Rat) := by
  rw [← dv_one, ← dv_one, Rat.divInt_mul_divInt, Rat.divInt_eq_divInt_iff (by omega) (by omega), Int.natCast_mul]
  grind
theorem movS_int : ∀ (ms : List (Nat × Nat)) (L : Nat), (∀ m ∈ ms, 1 ≤ m.1 ∧ m.1 ∣ L) → ∃ k : Int, movS ms * (((L : Nat) : Int) : Rat) = (k : Rat)
  | [], L, _ => ⟨0, by show (0 : Rat) * _ = _; rw [Rat.zero_mul]; rfl⟩
  | m :: ms, L, h => by
    obtain ⟨k, e⟩ := movS_int ms L fun x hx => h x (List.mem_cons_of_mem _ hx)
    obtain ⟨h1, u, h2⟩ := h m (List.mem_cons_self ..)
    have d := div_whole (m.2 : Int) (u := u) h1
    rw [← h2] at d
    refine ⟨(m.2 : Int) * (u : Int) + k, ?_⟩
    show (Rat.divInt (m.2 : Int) (m.1 : Int) + movS ms) * _ = _
    rw [Rat.add_mul, d, e, Rat.intCast_add]
theorem hole_pos {t c : Nat} {cs : List Nat} (h : In2 cs) (h1 : 1 ≤ c) (fm : fewO t c cs ∈ fits t c cs) (hd : (((leftQ t c).den : Nat) : Int) ∣ ((lcmL (fewO t c cs) : Nat) : Int)) : ∀ m ∈ (planR (fewO t c cs) (leftQ t c)).2, 0 < m.2 := by
  intro m hm
  rcases Nat.eq_zero_or_pos m.2 with z | z
  · exfalso
    have fi := crowd_in h (List.mem_filter.mp fm).1
    obtain ⟨r1, r2⟩ := planR_right (fewO t c cs) (leftQ t c) fi.1 hd
    have ff := planR_fst (fewO t c cs) (leftQ t c)
    have fn : ∀ cr ∈ fits t c cs, (fewO t c cs).length ≤ cr.length := fun cr hc => few_min hc
    have fsub := crowd_sub.mp (List.mem_filter.mp fm).1
    generalize (planR (fewO t c cs) (leftQ t c)).1 = n at r1 r2
    generalize (planR (fewO t c cs) (leftQ t c)).2 = ms at hm r2 ff
    obtain ⟨A, B, rfl⟩ := List.append_of_mem hm
    have e0 : movS (A ++ m :: B) = movS (A ++ B) := by
      rw [movS_app, movS_app]
      show movS A + (Rat.divInt (m.2 : Int) (m.1 : Int) + movS B) = _
      rw [z]
      show movS A + (Rat.divInt 0 (m.1 : Int) + movS B) = _
      rw [Rat.zero_divInt, Rat.zero_add]
    rw [e0] at r2
    have osub : ((A ++ B).map (·.1)).Sublist (fewO t c cs) := by
      rw [← ff]
      exact ((List.Sublist.refl A).append (List.sublist_cons_self m B)).map _
    have ol : ((A ++ B).map (·.1)).length < (fewO t c cs).length := by
      rw [← ff]
      simp only [List.length_map, List.length_append, List.length_cons]
      omega
    have om : ∀ x ∈ A ++ B, 1 ≤ x.1 ∧ x.1 ∣ lcmL ((A ++ B).map (·.1)) := fun x hx => by
      have : x.1 ∈ (A ++ B).map (·.1) := List.mem_map.mpr ⟨x, hx, rfl⟩
      have i2 := fi.1 x.1 (osub.subset this)
      exact ⟨by omega, dvd_lcmL this⟩
    obtain ⟨k, ek⟩ := movS_int (A ++ B) _ om
    have nn : n = ((n.num : Int) : Rat) := by
      rw [← dv_one]
      have := Rat.num_divInt_den n
      rw [r1] at this
      exact this.symm
    generalize hL : lcmL ((A ++ B).map (·.1)) = L at ek om
    have eq1 : Rat.divInt (t : Int) (c : Int) * (((L : Nat) : Int) : Rat) = ((n.num * (L : Int) + k : Int) : Rat) := by
      have r2' : Rat.divInt (t : Int) (c : Int) = n + movS (A ++ B) := r2
      rw [r2', Rat.add_mul, ek, Rat.intCast_add, Rat.intCast_mul, ← nn]
    rw [← dv_one, ← dv_one, Rat.divInt_mul_divInt, Rat.divInt_eq_divInt_iff (by omega) (by omega)] at eq1
    have dv : c ∣ t * L := by
      refine Int.natCast_dvd_natCast.mp ⟨n.num * (L : Int) + k, ?_⟩
      rw [Int.natCast_mul]
      grind
    have fo : (A ++ B).map (·.1) ∈ fits t c cs := by
      refine List.mem_filter.mpr ⟨crowd_sub.mpr (osub.trans fsub), decide_eq_true ?_⟩
      rw [hL]
      exact Nat.mod_eq_zero_of_dvd dv
    have := fn _ fo
    omega
  · exact z
theorem left_den {t c : Nat} {cs : List Nat} (h1 : 1 ≤ c) (fm : fewO t c cs ∈ fits t c cs) : (((leftQ t c).den : Nat) : Int) ∣ ((lcmL (fewO t c cs) : Nat) : Int) := by
  have dv : c ∣ t * lcmL (fewO t c cs) := Nat.dvd_of_mod_eq_zero (of_decide_eq_true (List.mem_filter.mp fm).2)
  obtain ⟨k, ek⟩ := dv
  have e : leftQ t c * (((lcmL (fewO t c cs) : Nat) : Int) : Rat) = ((k : Int) : Rat) := by
    unfold leftQ
    rw [← dv_one, ← dv_one, Rat.divInt_mul_divInt, Rat.divInt_eq_divInt_iff (by omega) (by omega)]
    have : ((t * lcmL (fewO t c cs) : Nat) : Int) = ((c * k : Nat) : Int) := by rw [ek]
    rw [Int.natCast_mul, Int.natCast_mul] at this
    grind
  generalize lcmL (fewO t c cs) = L at e
  have ed := Rat.num_divInt_den (leftQ t c)
  rw [← ed, ← dv_one, ← dv_one, Rat.divInt_mul_divInt, Rat.divInt_eq_divInt_iff (by have := den_pos' (leftQ t c); omega) (by omega)] at e
  have h3 : (leftQ t c).den ∣ (leftQ t c).num.natAbs * L := by
    have : ((leftQ t c).num * (L : Int)).natAbs = (((leftQ t c).den : Int) * (k : Int)).natAbs := by
      congr 1
      grind
    rw [Int.natAbs_mul, Int.natAbs_mul, Int.natAbs_natCast, Int.natAbs_natCast, Int.natAbs_natCast] at this
    exact ⟨k, this⟩
  exact Int.natCast_dvd_natCast.mpr (Nat.Coprime.dvd_of_dvd_mul_left (leftQ t c).reduced.symm h3)
theorem walk_loop (F W T C o7 : O) : ∀ (ms : List (Nat × Nat)) (acc : Rat) (n : Nat) (o5 o6 : O), Sz n acc → n + 9 * ms.length ≤ 1000 → (∀ m ∈ ms, 0 < m.2 ∧ m.2 < m.1 ∧ m.1 ≤ 120) →
    ∃ q5 q6, forL (gtT 2 (gtCons (gtN 5) (gtCons (gtN 6) gtNil))) lb_u_law_walked_0 (ms.map movD) [F, W, T, C, .sh (qD acc), o5, o6, o7] = .nx [F, W, T, C, .sh (qD (acc + movS ms)), q5, q6, o7]
  | [], acc, n, o5, o6, _, _, _ => ⟨o5, o6, by
    show _ = Out.nx [F, W, T, C, .sh (qD (acc + 0)), o5, o6, o7]
    rw [Rat.add_zero]
    rfl⟩
  | m :: ms, acc, n, o5, o6, hs, hn, hm => by
    rw [List.length_cons] at hn
    obtain ⟨m1, m2, m3⟩ := hm m (List.mem_cons_self ..)
    have szm : Sz 8 (Rat.divInt (m.2 : Int) (m.1 : Int)) := sz_div (by omega) (by omega) (by omega)
    have sm : (2 : Nat) ^ 10 ≤ 2 ^ 4000 := Nat.pow_le_pow_right (by omega) (by omega)
    have lo := llow_eq (m.2 : Int) (m.1 : Int) (by omega) (by omega)
    rw [low_div _ _ (by omega)] at lo
    have pl := lplus_q hs szm (by omega)
    obtain ⟨q5, q6, w⟩ := walk_loop F W T C o7 ms (acc + Rat.divInt (m.2 : Int) (m.1 : Int)) (n + 8 + 1) (.sh (.int (m.1 : Nat))) (.sh (.int (m.2 : Nat))) (sz_add hs szm) (by omega) fun x hx => hm x (List.mem_cons_of_mem _ hx)
    refine ⟨q5, q6, ?_⟩
    have d1 : decide ((0 : Int) < (m.2 : Int)) = true := decide_eq_true (by omega)
    have d2 : decide ((m.2 : Int) < (m.1 : Int)) = true := decide_eq_true (by omega)
    have es : acc + movS (m :: ms) = acc + Rat.divInt (m.2 : Int) (m.1 : Int) + movS ms := by
      show acc + (Rat.divInt (m.2 : Int) (m.1 : Int) + movS ms) = _
      rw [Rat.add_assoc]
    rw [es, List.map_cons]
    rw [forL_next (δ1 := [F, W, T, C, .sh (qD acc), .sh (.int (m.1 : Nat)), .sh (.int (m.2 : Nat)), o7]) (δ2 := [F, W, T, C, .sh (qD (acc + Rat.divInt (m.2 : Int) (m.1 : Int))), .sh (.int (m.1 : Nat)), .sh (.int (m.2 : Nat)), o7]), w]
    · unfold movD
      walk_at "ev"
    · unfold lb_u_law_walked_0
      k_search [d1, d2, lo, pl]
theorem nice_nat (cs : List Nat) : nice 2 (.lst (natL cs)) = true := by
  rw [natL_i]
  exact nice_is _
theorem lwalked_ok {few : List Nat} {ms : List (Nat × Nat)} {n : Int} {t c : Nat} (hf : ms.map (·.1) = few) (hl : ms.length ≤ 9) (hm : ∀ m ∈ ms, 0 < m.2 ∧ m.2 < m.1 ∧ m.1 ≤ 120) {N : Nat} (sn : Sz N (n : Rat)) (hN : N ≤ 900) (ht : t ≤ 200) (h1 : 1 ≤ c) (h2 : c ≤ 5000) (e : leftQ t c = (n : Rat) + movS ms) :
    f_u_law_walked [.tup [.int n, .lst (ms.map movD)], .lst (natL few), .int (t : Nat), .int (c : Nat)] = .ok (.bl true) := by
  have big := p200
  have sm : (2 : Nat) ^ 20 ≤ 2 ^ 4000 := Nat.pow_le_pow_right (by omega) (by omega)
  have qn : qD (n : Rat) = .tup [.int n, .int 1] := rfl
  obtain ⟨q5, q6, w⟩ := walk_loop (.sh (.tup [.int n, .lst (ms.map movD)])) (.sh (.lst (natL few))) (.sh (.int (t : Nat))) (.sh (.int (c : Nat))) .no ms (n : Rat) N .no .no sn (by omega) hm
  rw [qn, ← e] at w
  have lo := llow_eq (t : Int) (c : Int) (by omega) (by omega)
  rw [low_div _ _ (by omega)] at lo
  have lo' : f_u_law_low [.int (t : Nat), .int (c : Nat)] = .ok (qD (leftQ t c)) := lo
  have kq := kEq_q (leftQ t c) (leftQ t c)
  rw [decide_eq_true rfl] at kq
  have ke := kEq_selfL (nice_nat few) (by omega)
  have lc : eLc (itOf asL (e2 kIx (eVar 0) (eC (.int 1)))) (gtN 7) tYesD (e2 kIx (eVar 7) (eC (.int 0))) [7] [.sh (.tup [.int n, .lst (ms.map movD)]), .sh (.lst (natL few)), .sh (.int (t : Nat)), .sh (.int (c : Nat)), .sh (qD (leftQ t c)), q5, q6, .no] = .ok (.lst (natL few)) := by
    have z := eLc_all (it := itOf asL (e2 kIx (eVar 0) (eC (.int 1)))) (gt := gtN 7) (t := tYesD) (e := e2 kIx (eVar 7) (eC (.int 0))) (vs := [7]) (δ := [.sh (.tup [.int n, .lst (ms.map movD)]), .sh (.lst (natL few)), .sh (.int (t : Nat)), .sh (.int (c : Nat)), .sh (qD (leftQ t c)), q5, q6, .no]) (ds := ms.map movD)
      (fun d => match d with | .tup [a, _] => a | d => d) (by walk_at "ev") (by rw [List.length_map]; omega) (fun d hd => by
      obtain ⟨m, _, rfl⟩ := List.mem_map.mp hd
      refine ⟨[.sh (.tup [.int n, .lst (ms.map movD)]), .sh (.lst (natL few)), .sh (.int (t : Nat)), .sh (.int (c : Nat)), .sh (qD (leftQ t c)), hideO q5, hideO q6, .sh (movD m)], rfl, rfl, ?_⟩
      unfold movD
      walk_at "ev")
    rw [z, ← hf, List.map_map]
    unfold natL
    rw [List.map_map]
    rfl
  have l2 : kLen [.tup [.int n, .lst (ms.map movD)]] = .ok (.int ((2 : Nat) : Int)) := rfl
  have n2 : kNe (.int ((2 : Nat) : Int)) (.int 2) = .ok (.bl false) := rfl
  have i1 : kIsi .tuple (.tup [.int n, .lst (ms.map movD)]) = .ok (.bl true) := rfl
  have i2 : kIsi .list (.lst (ms.map movD)) = .ok (.bl true) := rfl
  unfold f_u_law_walked sm_u_law_walked tl_u_law_walked_0
  k_search [l2, n2, i1, i2, w, some (lc), ke, lo', kq]
  all_goals rfl
theorem planR_sz : ∀ (few : List Nat) (left : Rat) (n : Nat), In2 few → Sz n left → Sz (n + 9 * few.length) (planR few left).1
  | [], left, n, _, hs => by unfold planR; exact hs
  | c :: r, left, n, hc, hs => by
    have h1 := hc c (List.mem_cons_self ..)
    have hh := holeN_lt r left (c := c) (by omega)
    have z := planR_sz r (left - Rat.divInt ((holeN r left c : Nat) : Int) (c : Int)) (n + 8 + 1) (fun x hx => hc x (List.mem_cons_of_mem _ hx)) (sz_sub hs (cp_sz (by omega) h1.2 hh))
    unfold planR
    rw [List.length_cons, show n + 9 * (r.length + 1) = n + 8 + 1 + 9 * r.length by omega]
    exact z
end
section
theorem set_last (K : Cells) (a b : Cell) : (K ++ [a]).set K.length b = K ++ [b] := by
  rw [List.set_append_right _ _ (Nat.le_refl _), Nat.sub_self]
  rfl
theorem get_last (K : Cells) (a : Cell) : (K ++ [a])[K.length]? = some a := by
  rw [List.getElem?_append_right (Nat.le_refl _), Nat.sub_self]
  rfl
section
variable {K : Cells}
theorem notIn_cell {κ : Cells} {m : Nat} {cs : List Nat} (h : κ[m]? = some (.lst (natL cs))) (x : Nat) : d2b2 kNotIn (.int (x : Nat)) (.loc m) κ = .ok (.bl (!decide (x ∈ cs))) κ := by
  have ni := kNotIn_n x cs
  have p : (plain (.int (x : Nat)) && plain (.lst (natL cs))) = true := by
    show plainA (natL cs) = true
    exact plain_nat cs
  unfold d2b2
  rw [rsv_nat h]
  show (if (plain (.int (x : Nat)) && plain (.lst (natL cs))) = true then (rImm (kNotIn (.int (x : Nat)) (.lst (natL cs)))).at κ else .bad) = _
  rw [if_pos p, ni]
  rfl
theorem circ_loopC (c m : Int) : ∀ (ks : List Nat) (L : List Nat) (o5 o6 o7 : O), (∀ k ∈ ks, k ≤ 100) → L.length + ks.length ≤ 1000 → In2 L → L.Nodup → ∃ L' q5 q6 q7,
    forC (gtN 5) lb_u_law_circles_0 (natL ks) [.sh (.int c), .sh (.int m), .sh (.int 120), .sh (.loc K.length), .sh menuC, o5, o6, o7] (K ++ [.lst (natL L)]) = .nx [.sh (.int c), .sh (.int m), .sh (.int 120), .sh (.loc K.length), .sh menuC, q5, q6, q7] (K ++ [.lst (natL L')]) ∧ In2 L' ∧ L'.Nodup ∧ L'.length ≤ L.length + ks.length
  | [], L, o5, o6, o7, _, _, hi, hn => ⟨L, o5, o6, o7, rfl, hi, hn, by omega⟩
  | k :: ks, L, o5, o6, o7, hk, hl, hi, hn => by
    rw [List.length_cons] at hl
    obtain ⟨u, lu⟩ := lunder_ok c (k : Int) (by have := hk k (List.mem_cons_self ..); omega)
    obtain ⟨rs, f1, h3⟩ := draws_eq (u + (k : Int)) [4, 119, 12] (by
      intro z hz
      simp only [List.mem_cons, List.not_mem_nil, or_false] at hz
      have := pow_big
      rcases hz with rfl | rfl | rfl <;> omega) (by simp)
    obtain ⟨r0, rs, rfl, a0, b0, h3⟩ := h3.cons
    obtain ⟨r1, rs, rfl, a1, b1, h3⟩ := h3.cons
    obtain ⟨r2, rs, rfl, a2, b2, h3⟩ := h3.cons
    have e := h3.nil
    subst e
    simp only [List.map_cons, List.map_nil] at f1
    obtain ⟨mn, pm, m1, m2⟩ := pickC r2 a2 b2
    obtain ⟨x, px, x1, x2⟩ : ∃ x : Nat, atD [.int (2 + r1), .int (2 + r1), .int (mn : Nat), .int (2 + r2)] r0 = .ok (.int (x : Nat)) ∧ 2 ≤ x ∧ x ≤ 120 := by
      rcases (show r0 = 0 ∨ r0 = 1 ∨ r0 = 2 ∨ r0 = 3 by omega) with rfl | rfl | rfl | rfl
      · exact ⟨(2 + r1).toNat, by rw [atD_0, Int.toNat_of_nonneg (by omega)], by omega, by omega⟩
      · exact ⟨(2 + r1).toNat, by rw [atD_1, Int.toNat_of_nonneg (by omega)], by omega, by omega⟩
      · exact ⟨mn, atD_2 _ _ _ _, m1, m2⟩
      · exact ⟨(2 + r2).toNat, by rw [atD_3, Int.toNat_of_nonneg (by omega)], by omega, by omega⟩
    have hc := get_last K (.lst (natL L))
    have ni := notIn_cell hc x
    have le : decide ((x : Int) ≤ 120) = true := decide_eq_true (by omega)
    have lz : (natL L).length ≤ 1000000 := by rw [natL_len]; omega
    have hi' : In2 (addN' L x) := fun y hy => by
      unfold addN' at hy
      split at hy
      · exact hi y hy
      · rcases List.mem_append.mp hy with z | z
        · exact hi y z
        · rw [List.mem_singleton.mp z]
          exact ⟨x1, x2⟩
    have hn' : (addN' L x).Nodup := by
      unfold addN'
      split
      · exact hn
      · rename_i z
        rw [List.nodup_append]
        refine ⟨hn, by simp, ?_⟩
        intro a ha b hb
        rw [List.mem_singleton.mp hb]
        exact fun e => z (e ▸ ha)
    have al : (addN' L x).length ≤ L.length + 1 := by
      unfold addN'
      split
      · omega
      · rw [List.length_append]
        exact Nat.le_refl _
    obtain ⟨L', q5, q6, q7, w, g1, g2, g3⟩ := circ_loopC c m ks (addN' L x) (.sh (.int (k : Nat))) (.sh (.lst [.int r0, .int r1, .int r2])) (.sh (.int (x : Nat))) (fun y hy => hk y (List.mem_cons_of_mem _ hy)) (by omega) hi' hn'
    refine ⟨L', q5, q6, q7, ?_, g1, g2, by rw [List.length_cons]; omega⟩
    show forC (gtN 5) lb_u_law_circles_0 (.int (k : Nat) :: natL ks) _ _ = _
    rw [forC_nx (δ1 := [.sh (.int c), .sh (.int m), .sh (.int 120), .sh (.loc K.length), .sh menuC, .sh (.int (k : Nat)), o6, o7]) (δ2 := [.sh (.int c), .sh (.int m), .sh (.int 120), .sh (.loc K.length), .sh menuC, .sh (.int (k : Nat)), .sh (.lst [.int r0, .int r1, .int r2]), .sh (.int (x : Nat))]) (κ2 := K ++ [.lst (natL (addN' L x))]) rfl, w]
    unfold lb_u_law_circles_0 addN'
    by_cases z : x ∈ L
    · rw [decide_eq_true z] at ni
      rw [if_pos z]
      k_search [lu, f1, pm, px, ni]
      all_goals rfl
    · rw [decide_eq_false z] at ni
      rw [if_neg z, natL_app]
      k_search [lu, f1, pm, px, ni, le, dBm_ok hc, kChg_ok hc (fApp_ok lz), set_last]
      all_goals rfl
theorem circlesC_ok (c : Int) (m : Nat) (hm : m ≤ 90) : ∃ cs : List Nat, F_u_law_circles [.int c, .int (m : Nat), .int 120] K = .ok (.loc K.length) (K ++ [.lst (natL cs)]) ∧ In2 cs ∧ cs.Nodup ∧ cs.length ≤ m := by
  have rn : kRng1 [.int (m : Nat)] = .ok (natL (List.range m)) := by
    rw [kRng1_nat (n := m) (by omega)]
    unfold rangeD natL
    simp only [Int.zero_add]
  obtain ⟨L', q5, q6, q7, w, g1, g2, g3⟩ := circ_loopC (K := K) c (m : Int) (List.range m) [] .no .no .no (fun k hk => by have := List.mem_range.mp hk; omega) (by rw [List.length_nil, List.length_range]; omega) (fun x h => nomatch h) List.nodup_nil
  have w' : forC (gtN 5) lb_u_law_circles_0 (natL (List.range m)) [.sh (.int c), .sh (.int (m : Nat)), .sh (.int 120), .sh (.loc K.length), .sh menuC, .no, .no, .no] (K ++ [.lst []]) = .nx [.sh (.int c), .sh (.int (m : Nat)), .sh (.int 120), .sh (.loc K.length), .sh menuC, q5, q6, q7] (K ++ [.lst (natL L')]) := w
  refine ⟨L', ?_, g1, g2, by rw [List.length_nil, List.length_range] at g3; omega⟩
  have kn : kNewL [] K = .ok (.loc K.length) (K ++ [.lst []]) := kNewL_ok (by decide)
  unfold F_u_law_circles sm_u_law_circles
  k_search [kLst12', rn, kn, w']
  all_goals rfl
theorem wheelC_ok (c : Int) : ∃ (t : Nat) (cs : List Nat), F_u_law_wheel [.int c] K = .ok (.tup [.int (t : Nat), .loc K.length]) (K ++ [.lst (natL cs)]) ∧ 1 ≤ t ∧ t ≤ 200 ∧ In2 cs ∧ cs.Nodup ∧ cs.length ≤ 8 := by
  obtain ⟨rs, f1, h3⟩ := draws_eq c [6, 200, 9] (by
    intro z hz
    simp only [List.mem_cons, List.not_mem_nil, or_false] at hz
    have := pow_big
    rcases hz with rfl | rfl | rfl <;> omega) (by simp)
  obtain ⟨r0, rs, rfl, a0, b0, h3⟩ := h3.cons
  obtain ⟨r1, rs, rfl, a1, b1, h3⟩ := h3.cons
  obtain ⟨r2, rs, rfl, a2, b2, h3⟩ := h3.cons
  have e := h3.nil
  subst e
  simp only [List.map_cons, List.map_nil] at f1
  have md := Int.emod_nonneg r1 (show (12 : Int) ≠ 0 by omega)
  have md2 := Int.emod_lt_of_pos r1 (show (0 : Int) < 12 by omega)
  obtain ⟨t, pt, t1, t2⟩ : ∃ t : Nat, atD [.int 40, .int (1 + r1), .int 1, .int 200, .int (1 + r1 % 12), .int 60] r0 = .ok (.int (t : Nat)) ∧ 1 ≤ t ∧ t ≤ 200 := by
    rcases (show r0 = 0 ∨ r0 = 1 ∨ r0 = 2 ∨ r0 = 3 ∨ r0 = 4 ∨ r0 = 5 by omega) with rfl | rfl | rfl | rfl | rfl | rfl
    · exact ⟨40, atD_0 _ _, by omega, by omega⟩
    · exact ⟨(1 + r1).toNat, by rw [atD_1, Int.toNat_of_nonneg (by omega)], by omega, by omega⟩
    · exact ⟨1, atD_2 _ _ _ _, by omega, by omega⟩
    · exact ⟨200, atD_3 _ _ _ _ _, by omega, by omega⟩
    · exact ⟨(1 + r1 % 12).toNat, by rw [atD_4, Int.toNat_of_nonneg (by omega)], by omega, by omega⟩
    · exact ⟨60, atD_5 _ _ _ _ _ _ _, by omega, by omega⟩
  obtain ⟨u, lu⟩ := lunder_ok c 1 (by omega)
  obtain ⟨cs, co, c1, c2, c3⟩ := circlesC_ok (K := K) (u + 5) r2.toNat (by omega)
  rw [Int.toNat_of_nonneg a2] at co
  refine ⟨t, cs, ?_, t1, t2, c1, c2, by omega⟩
  have km := kMod_ok (i := r1) (j := 12) (by omega)
  unfold F_u_law_wheel sm_u_law_wheel
  k_search [f1, km, pt, lu, co]
end
end
section
abbrev tb09 : Cell := .tab "crowds_of" "crowds_of.<locals>.<lambda>"
theorem cleanKL_app {κ : Cells} {ds : List D} (h : cleanKL κ = true) (h2 : noLA ds = true) : cleanKL (κ ++ [.lst ds]) = true := by
  unfold cleanKL at h ⊢
  rw [List.all_append, h, Bool.true_and]
  exact Bool.and_eq_true_iff.mpr ⟨h2, rfl⟩
theorem noLA_app : ∀ {a b : List D}, noLA a = true → noLA b = true → noLA (a ++ b) = true
  | [], b, _, h => h
  | d :: a, b, h1, h2 => by
    have z := Bool.and_eq_true_iff.mp (show (noL d && noLA a) = true from h1)
    exact Bool.and_eq_true_iff.mpr ⟨z.1, noLA_app z.2 h2⟩
theorem plain_mov : ∀ ms : List (Nat × Nat), plainA (ms.map movD) = true
  | [] => rfl
  | m :: ms => by
    rw [List.map_cons]
    show (plain (movD m) && plainA (ms.map movD)) = true
    rw [plain_mov ms]
    rfl
theorem fine_nat (cs : List Nat) (h : cs.length ≤ 1000000) : fine 8 (.lst (natL cs)) = true := by
  show (decide ((natL cs).length ≤ 1000000) && (natL cs).all (fine 7)) = true
  rw [natL_len, decide_eq_true h, Bool.true_and, List.all_eq_true]
  intro d hd
  obtain ⟨n, _, rfl⟩ := List.mem_map.mp hd
  rfl
section
variable {κ : Cells}
theorem turn09 (hk : κ[0]? = some tb09) (ck : cleanKL κ = true) {t c m : Nat} {cs : List Nat} (hm : κ[m]? = some (.lst (natL cs))) (ht : 1 ≤ t ∧ t ≤ 200) (h : In2 cs) (hl : cs.length ≤ 8) (h1 : 1 ≤ c) (h2 : c ≤ 5000) (S s1 s4 s5 s6 s7 s8 s11 o12 o13 : O) :
    ∃ q12 q13 κ', (lb_law_1 [S, s1, .sh (.int (t : Nat)), .sh (.loc m), s4, s5, s6, s7, s8, .sh (.int (c : Nat)), .sh (barD (t * lcmL cs) c), s11, o12, o13, .no] κ = .nx [S, s1, .sh (.int (t : Nat)), .sh (.loc m), s4, s5, s6, s7, s8, .sh (.int (c : Nat)), .sh (barD (t * lcmL cs) c), s11, q12, q13, .no] κ' ∨ lb_law_1 [S, s1, .sh (.int (t : Nat)), .sh (.loc m), s4, s5, s6, s7, s8, .sh (.int (c : Nat)), .sh (barD (t * lcmL cs) c), s11, o12, o13, .no] κ = .ct [S, s1, .sh (.int (t : Nat)), .sh (.loc m), s4, s5, s6, s7, s8, .sh (.int (c : Nat)), .sh (barD (t * lcmL cs) c), s11, q12, q13, .no] κ') ∧ cleanKL κ' = true ∧ κ'[0]? = some tb09 ∧ κ'[m]? = some (.lst (natL cs)) := by
  have k0 : 0 < κ.length := (List.getElem?_eq_some_iff.mp hk).1
  have km : m < κ.length := (List.getElem?_eq_some_iff.mp hm).1
  cases hb : barO (t * lcmL cs) c with
  | some u =>
    have bd : barD (t * lcmL cs) c = .tup [.int (u.1 : Nat), .int (u.2.1 : Nat)] := by unfold barD; rw [hb]
    have t1 := toldC_bad ck hm ht h (by omega) h1 h2 hb true
    have t2 := toldC_bad ck hm ht h (by omega) h1 h2 hb false
    rw [bd]
    unfold bad2 at t1 t2
    have sm := same_refl 8 (.lst [.tup [.str "barred", .int (u.1 : Nat), .int (u.2.1 : Nat), .bl true], .tup [.str "barred", .int (u.1 : Nat), .int (u.2.1 : Nat), .bl true]]) rfl
    have rp : kRepD [.tup [.str "barred", .int (u.1 : Nat), .int (u.2.1 : Nat), .bl true]] (.int 2) = .ok (.lst [.tup [.str "barred", .int (u.1 : Nat), .int (u.2.1 : Nat), .bl true], .tup [.str "barred", .int (u.1 : Nat), .int (u.2.1 : Nat), .bl true]]) := by
      rw [show (2 : Int) = ((2 : Nat) : Int) from rfl, kRepD_1 _ _ (by omega)]
      rfl
    refine ⟨.sh (.lst [.tup [.str "barred", .int (u.1 : Nat), .int (u.2.1 : Nat), .bl true], .tup [.str "barred", .int (u.1 : Nat), .int (u.2.1 : Nat), .bl true]]), o13, κ, .inr ?_, ck, hk, hm⟩
    unfold lb_law_1
    k_search [t1, t2, rp, sm]
    all_goals rfl
  | none =>
    have bd : barD (t * lcmL cs) c = .non := by unfold barD; rw [hb]
    rw [bd]
    have t1 := toldC_few hk ck hm ht h (by omega) h1 h2 hb
    obtain ⟨_, fm⟩ := fewC_ok hk hm ht h (by omega) h1 h2 hb
    have fi := crowd_in h (List.mem_filter.mp fm).1
    have hd := left_den (cs := cs) h1 fm
    have hp := hole_pos h h1 fm hd
    obtain ⟨r1, r2⟩ := planR_right (fewO t c cs) (leftQ t c) fi.1 hd
    have ff := planR_fst (fewO t c cs) (leftQ t c)
    have pm := fun x hx => planR_mem (fewO t c cs) (leftQ t c) x fi.1 hx
    have sz : Sz 20 (leftQ t c) := sz_div (by omega) (by omega) (by omega)
    have ps := planR_sz (fewO t c cs) (leftQ t c) 20 fi.1 sz
    have pl := planR_len (fewO t c cs) (leftQ t c)
    have hfit : (fits t c cs)[0]? = some (fewO t c cs) := by
      unfold fewO
      cases e : (fits t c cs)[0]? with
      | some x => rfl
      | none =>
        have z := fits_ne (bar_none h1 hb)
        rw [List.getElem?_eq_none_iff] at e
        exact absurd (List.eq_nil_of_length_eq_zero (Nat.le_zero.mp e)) z
    have ck1 := cleanKL_app ck (noLA_nat (fewO t c cs))
    have hk1 : (κ ++ [.lst (natL (fewO t c cs))])[0]? = some tb09 := by rw [List.getElem?_append_left k0]; exact hk
    have hm1 : (κ ++ [.lst (natL (fewO t c cs))])[m]? = some (.lst (natL cs)) := by rw [List.getElem?_append_left km]; exact hm
    have t2 := toldC_plan hk1 ck1 hm1 ht h (by omega) h1 h2 hb
    have nn : (planR (fewO t c cs) (leftQ t c)).1 = (((planR (fewO t c cs) (leftQ t c)).1.num : Int) : Rat) := by
      rw [← dv_one]
      have := Rat.num_divInt_den (planR (fewO t c cs) (leftQ t c)).1
      rw [r1] at this
      exact this.symm
    rw [nn] at r2 ps
    generalize (planR (fewO t c cs) (leftQ t c)).1.num = n at *
    generalize (planR (fewO t c cs) (leftQ t c)).2 = ms at *
    generalize hfew : fewO t c cs = few at *
    obtain ⟨κ1, hκ1⟩ : ∃ κ1, κ1 = κ ++ [Cell.lst (natL few)] := ⟨_, rfl⟩
    have l1 : κ1.length = κ.length + 1 := by rw [hκ1, List.length_append]; rfl
    rw [← hκ1] at t1 t2 ck1 hk1 hm1
    obtain ⟨κ2, hκ2⟩ : ∃ κ2, κ2 = κ1 ++ [Cell.lst (ms.map movD)] := ⟨_, rfl⟩
    rw [← hκ2] at t2
    have ck2 : cleanKL κ2 = true := by rw [hκ2]; exact cleanKL_app ck1 (noLA_mov ms)
    have hm2 : κ2[m]? = some (.lst (natL cs)) := by rw [hκ2, List.getElem?_append_left (by omega)]; exact hm1
    have g1 : κ2[κ.length]? = some (.lst (natL few)) := by rw [hκ2, List.getElem?_append_left (by omega), hκ1]; exact get_last _ _
    have g2 : κ2[κ1.length]? = some (.lst (ms.map movD)) := by rw [hκ2]; exact get_last _ _
    have cw := choicesC_ok hm2 (show cs.length ≤ 9 by omega)
    have cl := crowd_many (cs := cs) (show cs.length ≤ 9 by omega)
    have lc : zLc (zIt (zCall F_u_law_choices (pk [] [.p 0]) (zCons (lf (eVar 3)) zNil) zNil)) (gtN 14) (lf (tOf (e2 kEq (e2 kMod (e2 kMul (eVar 2) (eCall f_u_law_least (pk [] [.p 0]) (aCons (eVar 14) aNil) aNil)) (eVar 9)) (eC (.int 0))))) (lf (eVar 14)) [14]
        [S, s1, .sh (.int (t : Nat)), .sh (.loc m), s4, s5, s6, s7, s8, .sh (.int (c : Nat)), .sh .non, s11, .sh (.lst [.loc κ.length, .tup [.int n, .loc κ1.length]]), o13, .no] κ2 = .ok (.lst (crD (fits t c cs))) κ2 := by
      have z := zLc_sel (it := zIt (zCall F_u_law_choices (pk [] [.p 0]) (zCons (lf (eVar 3)) zNil) zNil)) (gt := gtN 14) (t := lf (tOf (e2 kEq (e2 kMod (e2 kMul (eVar 2) (eCall f_u_law_least (pk [] [.p 0]) (aCons (eVar 14) aNil) aNil)) (eVar 9)) (eC (.int 0))))) (e := lf (eVar 14)) (vs := [14])
        (δ := [S, s1, .sh (.int (t : Nat)), .sh (.loc m), s4, s5, s6, s7, s8, .sh (.int (c : Nat)), .sh .non, s11, .sh (.lst [.loc κ.length, .tup [.int n, .loc κ1.length]]), o13, .no]) (κ := κ2) (ds := crD (crowdS cs)) (fitD t c) id (by k_search [cw]) (by unfold crD; rw [List.length_map]; omega) (fun d hd => by
        unfold crD at hd
        obtain ⟨cr, hcr, rfl⟩ := List.mem_map.mp hd
        obtain ⟨i1, i2⟩ := crowd_in h hcr
        refine ⟨[hideO S, hideO s1, .sh (.int (t : Nat)), .sh (.loc m), hideO s4, hideO s5, hideO s6, hideO s7, hideO s8, .sh (.int (c : Nat)), .sh .non, hideO s11, .sh (.lst [.loc κ.length, .tup [.int n, .loc κ1.length]]), hideO o13, .sh (.lst (natL cr))], rfl, ?_, fun _ => rfl⟩
        have lo := lleast_ok i1.i (show cr.length ≤ 20 by omega)
        have mo := fin_mul ht.2 i1.i (show cr.length ≤ 20 by omega)
        have km := kMod_ok (i := (t : Int) * ((lcmL cr : Nat) : Int)) (j := (c : Int)) (by omega)
        have b := mod_b (t * lcmL cr) c
        rw [Int.natCast_mul] at b
        rw [fitD_cr]
        k_search [lo, kMul_ok mo, km, b]
        rfl)
      rw [z, List.map_id]
      unfold crD fits
      rw [List.filter_map]
      congr 3
      refine List.filter_congr fun cr _ => ?_
      exact fitD_cr t c cr
    have i0 : atD (crD (fits t c cs)) 0 = .ok (.lst (natL few)) := atD_nat (by decide) (by
      show (crD (fits t c cs))[0]? = _
      unfold crD
      rw [List.getElem?_map, hfit]
      rfl)
    have bs : bor (f_u_law_same 8) [.loc κ.length, .lst (natL few)] κ2 = .ok (.bl true) κ2 := bor_ok (es := [.lst (natL few), .lst (natL few)]) (by
      show [rsv rDeep κ2 (.loc κ.length), rsv rDeep κ2 (.lst (natL few))] = _
      rw [rsv_nat g1, rsv_plain κ2 rDeep (.lst (natL few)) (plain_nat few)]) (by
      show (plainA (natL few) && (plainA (natL few) && true)) = true
      rw [plain_nat]
      rfl) (same_refl 8 _ (fine_nat few (by omega)))
    have lw := lwalked_ok (few := few) (ms := ms) (n := n) (t := t) (c := c) ff (by omega) (fun x hx => ⟨hp x hx, (pm x hx).2, (fi.1 x.1 (pm x hx).1).2⟩) ps (by omega) ht.2 h1 h2 r2
    have bw : bor f_u_law_walked [.tup [.int n, .loc κ1.length], .lst (natL few), .int (t : Nat), .int (c : Nat)] κ2 = .ok (.bl true) κ2 := bor_ok (es := [.tup [.int n, .lst (ms.map movD)], .lst (natL few), .int (t : Nat), .int (c : Nat)]) (by
      show [.tup [.int n, rsv 5 κ2 (.loc κ1.length)], rsv rDeep κ2 (.lst (natL few)), .int (t : Nat), .int (c : Nat)] = _
      rw [rsv_loc (k := 4) g2 (plain_mov ms), rsv_plain κ2 rDeep (.lst (natL few)) (plain_nat few)]) (by
      show ((true && (plainA (ms.map movD) && true)) && (plainA (natL few) && true)) = true
      rw [plain_nat, plain_mov]
      rfl) lw
    have lz : (natL few).length ≤ 1000000 := by rw [natL_len]; omega
    have lz2 : (ms.map movD).length ≤ 1000000 := by rw [List.length_map]; omega
    have g3 : (κ2.set κ.length (.lst (natL few ++ [.int 0])))[κ1.length]? = some (.lst (ms.map movD)) := by
      rw [List.getElem?_set_ne (by omega)]
      exact g2
    refine ⟨.sh (.lst [.loc κ.length, .tup [.int n, .loc κ1.length]]), .sh (.lst (natL few)), (κ2.set κ.length (.lst (natL few ++ [.int 0]))).set κ1.length (.lst (ms.map movD ++ [.tup [.int 0, .int 0]])), .inl ?_, ?_, ?_, ?_⟩
    · unfold lb_law_1 tl_law_1 tl_law_2
      k_search [t1, t2, some (lc), i0, bs, bw, dBm_ok g1, kChg_ok g1 (fApp_ok lz), dBm_ok g3, kChg_ok g3 (fApp_ok lz2)]
      all_goals rfl
    · have e : (κ2.set κ.length (.lst (natL few ++ [.int 0]))).set κ1.length (.lst (ms.map movD ++ [.tup [.int 0, .int 0]])) = κ ++ [.lst (natL few ++ [.int 0])] ++ [.lst (ms.map movD ++ [.tup [.int 0, .int 0]])] := by
        rw [hκ2, hκ1, List.set_append_left _ _ (by rw [List.length_append]; simp), set_last]
        have := set_last (κ ++ [Cell.lst (natL few ++ [.int 0])]) (.lst (ms.map movD)) (.lst (ms.map movD ++ [.tup [.int 0, .int 0]]))
        rw [show (κ ++ [Cell.lst (natL few ++ [.int 0])]).length = (κ ++ [Cell.lst (natL few)]).length by rw [List.length_append, List.length_append]; rfl] at this
        exact this
      rw [e]
      exact cleanKL_app (cleanKL_app ck (noLA_app (noLA_nat few) rfl)) (noLA_app (noLA_mov ms) rfl)
    · rw [List.getElem?_set_ne (by omega), List.getElem?_set_ne (by omega), hκ2, List.getElem?_append_left (by omega)]
      exact hk1
    · rw [List.getElem?_set_ne (by omega), List.getElem?_set_ne (by omega)]
      exact hm2
theorem vals_nat {cs : List Nat} {v : D → D} : ∀ ds : List D, (∀ d ∈ ds, ∃ y ∈ cs, v d = .int ((y : Nat) : Int)) → ∃ sm : List Nat, ds.map v = natL sm ∧ sm.length = ds.length ∧ ∀ y ∈ sm, y ∈ cs
  | [], _ => ⟨[], rfl, rfl, fun y h => nomatch h⟩
  | d :: ds, h => by
    obtain ⟨y, hy, e⟩ := h d (List.mem_cons_self ..)
    obtain ⟨sm, e1, e2, e3⟩ := vals_nat ds fun x hx => h x (List.mem_cons_of_mem _ hx)
    refine ⟨y :: sm, ?_, by rw [List.length_cons, List.length_cons, e2], fun x hx => ?_⟩
    · rw [List.map_cons, e, e1]
      rfl
    · rcases List.mem_cons.mp hx with rfl | z
      · exact hy
      · exact e3 x z
theorem tail09 (hk : κ[0]? = some tb09) (ck : cleanKL κ = true) {t m : Nat} {cs : List Nat} (hm : κ[m]? = some (.lst (natL cs))) (ht : 1 ≤ t ∧ t ≤ 200) (h : In2 cs) (hl : cs.length ≤ 8) {y : Int} (hy : 1 ≤ y) (S s1 s4 s5 s6 s7 s8 o10 o11 o12 o13 : O) :
    ∃ q9 q10 q11 q12 q13 κ', tl_law_0 [S, s1, .sh (.int (t : Nat)), .sh (.loc m), s4, s5, s6, s7, s8, .sh (.int y), o10, o11, o12, o13, .no] κ = .nx [S, s1, .sh (.int (t : Nat)), .sh (.loc m), s4, s5, s6, s7, s8, q9, q10, q11, q12, q13, .no] κ' ∧ cleanKL κ' = true ∧ κ'[0]? = some tb09 := by
  obtain ⟨c, hc, h1, h2⟩ : ∃ c : Nat, kMin2 [.int y, .int 5000] = .ok (.int (c : Nat)) ∧ 1 ≤ c ∧ c ≤ 5000 := by
    rw [kMin2_eq]
    by_cases z : 5000 < y
    · exact ⟨5000, by rw [if_pos z]; rfl, by omega, by omega⟩
    · exact ⟨y.toNat, by rw [if_neg z, Int.toNat_of_nonneg (by omega)], by omega, by omega⟩
  have lb := lbar_ok (t := t) (c := c) ht.2 h.i (show cs.length ≤ 20 by omega) h1 h2
  have bb : bor f_u_law_bar [.int (t : Nat), .loc m, .int (c : Nat)] κ = .ok (barD (t * lcmL cs) c) κ := bor_imm (es := [.int (t : Nat), .lst (natL cs), .int (c : Nat)]) (by
    show [rsv rDeep κ (.int (t : Nat)), rsv rDeep κ (.loc m), rsv rDeep κ (.int (c : Nat))] = _
    rw [rsv_nat hm]
    rfl) (by
    show (true && (plainA (natL cs) && _)) = true
    rw [plain_nat]
    rfl) lb (by
    unfold barD
    cases barO (t * lcmL cs) c <;> rfl)
  have kr : kRng1 [.int 2] = .ok [.int 0, .int 1] := rfl
  obtain ⟨x12, x13, κ1, w1, ck1, hk1, hm1⟩ := turn09 hk ck hm ht h hl h1 h2 S s1 s4 s5 s6 s7 s8 (.sh (.int 0)) o12 o13
  obtain ⟨y12, y13, κ2, w2, ck2, hk2, hm2⟩ := turn09 hk1 ck1 hm1 ht h hl h1 h2 S s1 s4 s5 s6 s7 s8 (.sh (.int 1)) x12 x13
  have w : forC (gtN 11) lb_law_1 [.int 0, .int 1] [S, s1, .sh (.int (t : Nat)), .sh (.loc m), s4, s5, s6, s7, s8, .sh (.int (c : Nat)), .sh (barD (t * lcmL cs) c), o11, o12, o13, .no] κ = .nx [S, s1, .sh (.int (t : Nat)), .sh (.loc m), s4, s5, s6, s7, s8, .sh (.int (c : Nat)), .sh (barD (t * lcmL cs) c), .sh (.int 1), y12, y13, .no] κ2 := by
    rw [forC_nc rfl w1, forC_nc rfl w2]
    rfl
  refine ⟨.sh (.int (c : Nat)), .sh (barD (t * lcmL cs) c), .sh (.int 1), y12, y13, κ2, ?_, ck2, hk2⟩
  unfold tl_law_0
  k_search [hc, bb, kr, w]
theorem cell09 (x : Int) (hk : κ[0]? = some tb09) (ck : cleanKL κ = true) (S o2 o3 o4 o5 o7 o8 o9 o10 o11 o12 o13 : O) :
    ∃ q2 q3 q4 q5 q7 q8 q9 q10 q11 q12 q13 κ', lb_law_0 [S, .sh (.int x), o2, o3, o4, o5, .no, o7, o8, o9, o10, o11, o12, o13, .no] κ = .nx [S, .sh (.int x), q2, q3, q4, q5, .no, q7, q8, q9, q10, q11, q12, q13, .no] κ' ∧ cleanKL κ' = true ∧ κ'[0]? = some tb09 := by
  have k0 : 0 < κ.length := (List.getElem?_eq_some_iff.mp hk).1
  obtain ⟨t, cs, wo, t1, t2, h, _, hl⟩ := wheelC_ok (K := κ) x
  obtain ⟨κ1, hκ1⟩ : ∃ κ1, κ1 = κ ++ [Cell.lst (natL cs)] := ⟨_, rfl⟩
  rw [← hκ1] at wo
  have ck1 : cleanKL κ1 = true := by rw [hκ1]; exact cleanKL_app ck (noLA_nat cs)
  have hk1 : κ1[0]? = some tb09 := by rw [hκ1, List.getElem?_append_left k0]; exact hk
  have hm : κ1[κ.length]? = some (.lst (natL cs)) := by rw [hκ1]; exact get_last _ _
  generalize κ.length = m at *
  obtain ⟨sd, so, sd0, sd1⟩ := side_ok x 1009 3 (by omega) (by omega)
  obtain ⟨rs, f1, h3⟩ := draws_eq (x + 7) [5000, 256, 40] (by
    intro z hz
    simp only [List.mem_cons, List.not_mem_nil, or_false] at hz
    have := pow_big
    rcases hz with rfl | rfl | rfl <;> omega) (by simp)
  obtain ⟨r1, rs, rfl, a1, b1, h3⟩ := h3.cons
  obtain ⟨r2, rs, rfl, a2, b2, h3⟩ := h3.cons
  obtain ⟨r3, rs, rfl, a3, b3, h3⟩ := h3.cons
  have e := h3.nil
  subst e
  simp only [List.map_cons, List.map_nil] at f1
  have kc : kCat (.lst [.int sd]) (.lst [.int r1, .int r2, .int r3]) = .ok (.lst [.int sd, .int r1, .int r2, .int r3]) := kCat_ok (by simp)
  have rn : kRng1 [.int 8] = .ok (rangeD 0 8) := kRng1_nat (n := 8) (by omega)
  have mem8 : ∀ d ∈ rangeD 0 8, ∃ k : Nat, k < 8 ∧ d = .int (k : Int) := fun d hd => by
    unfold rangeD at hd
    obtain ⟨k, hk', rfl⟩ := List.mem_map.mp hd
    exact ⟨k, List.mem_range.mp hk', by rw [Int.zero_add]⟩
  obtain ⟨P, hP⟩ : ∃ P : D → Bool, P = fun d => match d with | .int k => ((r2 + k * 37) % 3 == 0) | _ => false := ⟨_, rfl⟩
  have lb : eLc (itA kRng1 (aCons (eC (.int 8)) aNil)) (gtN 6) (tOf (e2 kEq (e2 kMod (e2 kAdd (e2 kIx (eVar 4) (eC (.int 2))) (e2 kMul (eVar 6) (eC (.int 37)))) (eC (.int 3))) (eC (.int 0)))) (eVar 6) [6] [S, .sh (.int x), .sh (.int (t : Nat)), .sh (.loc m), .sh (.lst [.int sd, .int r1, .int r2, .int r3]), o5, .no, o7, o8, o9, o10, o11, o12, o13, .no] = .ok (.lst ((rangeD 0 8).filter P)) := by
    have z := eLc_sel (it := itA kRng1 (aCons (eC (.int 8)) aNil)) (gt := gtN 6) (t := tOf (e2 kEq (e2 kMod (e2 kAdd (e2 kIx (eVar 4) (eC (.int 2))) (e2 kMul (eVar 6) (eC (.int 37)))) (eC (.int 3))) (eC (.int 0)))) (e := eVar 6) (vs := [6]) (δ := [S, .sh (.int x), .sh (.int (t : Nat)), .sh (.loc m), .sh (.lst [.int sd, .int r1, .int r2, .int r3]), o5, .no, o7, o8, o9, o10, o11, o12, o13, .no]) (ds := rangeD 0 8)
      P id (by k_search [rn]) (by unfold rangeD; simp) (fun d hd => by
      obtain ⟨k, hk', rfl⟩ := mem8 d hd
      refine ⟨[hideO S, .sh (.int x), .sh (.int (t : Nat)), .sh (.loc m), .sh (.lst [.int sd, .int r1, .int r2, .int r3]), hideO o5, .sh (.int (k : Int)), hideO o7, hideO o8, hideO o9, hideO o10, hideO o11, hideO o12, hideO o13, .no], rfl, ?_, fun _ => rfl⟩
      have m1 : mulOk (k : Int) 37 = true := mulOk_lt (a := 60) (b := 60) (by omega) (by omega) (by omega)
      have k3 := kMod_ok (i := r2 + (k : Int) * 37) (j := 3) (by omega)
      rw [hP]
      k_search [kMul_ok m1, k3])
    rw [z, List.map_id]
  have bl8 : ((rangeD 0 8).filter P).length ≤ 8 := Nat.le_trans (List.length_filter_le _ _) (by unfold rangeD; simp)
  have bm : ∀ d ∈ (rangeD 0 8).filter P, ∃ k : Nat, k < 8 ∧ d = .int (k : Int) := fun d hd => mem8 d (List.mem_filter.mp hd).1
  generalize (rangeD 0 8).filter P = bs at lb bl8 bm
  obtain ⟨Q, hQ⟩ : ∃ Q : D → Bool, Q = fun d => match d with | .int k => decide (k < (cs.length : Int)) | _ => false := ⟨_, rfl⟩
  obtain ⟨v, hv⟩ : ∃ v : D → D, v = fun d => match d with | .int k => .int ((cs.getD k.toNat 0 : Nat) : Int) | d => d := ⟨_, rfl⟩
  have ls : zLc (lf (itOf asL (eVar 5))) (gtN 6) (sOf (z2 kLt (lf (eVar 6)) (zAc kLen2 (zCons (lf (eVar 3)) zNil)))) (z2c kIx2 (lf (eVar 3)) (lf (eVar 6))) [6] [S, .sh (.int x), .sh (.int (t : Nat)), .sh (.loc m), .sh (.lst [.int sd, .int r1, .int r2, .int r3]), .sh (.lst bs), .no, o7, o8, o9, o10, o11, o12, o13, .no] κ1 = .ok (.lst ((bs.filter Q).map v)) κ1 := by
    refine zLc_sel (it := lf (itOf asL (eVar 5))) (gt := gtN 6) (t := sOf (z2 kLt (lf (eVar 6)) (zAc kLen2 (zCons (lf (eVar 3)) zNil)))) (e := z2c kIx2 (lf (eVar 3)) (lf (eVar 6))) (vs := [6]) (δ := [S, .sh (.int x), .sh (.int (t : Nat)), .sh (.loc m), .sh (.lst [.int sd, .int r1, .int r2, .int r3]), .sh (.lst bs), .no, o7, o8, o9, o10, o11, o12, o13, .no]) (κ := κ1) (ds := bs) Q v (by walk_at "ev") (by omega) (fun d hd => ?_)
    obtain ⟨k, hk', rfl⟩ := bm d hd
    have kl := kLen2_loc hm
    rw [natL_len] at kl
    refine ⟨[hideO S, .sh (.int x), .sh (.int (t : Nat)), .sh (.loc m), .sh (.lst [.int sd, .int r1, .int r2, .int r3]), .sh (.lst bs), .sh (.int (k : Int)), hideO o7, hideO o8, hideO o9, hideO o10, hideO o11, hideO o12, hideO o13, .no], rfl, ?_, fun z => ?_⟩
    · rw [hQ]
      k_search [kl]
    · rw [hQ] at z
      have z' := of_decide_eq_true z
      have kx : kIx2 (.loc m) (.int (k : Int)) κ1 = .ok (.int ((cs.getD k 0 : Nat) : Int)) κ1 := kIx2_ok hm (atD_nat (by omega) (by
        rw [Int.toNat_natCast]
        unfold natL
        rw [List.getElem?_map, List.getD_eq_getElem?_getD, List.getElem?_eq_getElem (by omega)]
        rfl))
      rw [hv]
      k_search [kx]
      all_goals rfl
  obtain ⟨sm, es, sl, sin⟩ := vals_nat (cs := cs) (v := v) (bs.filter Q) (fun d hd => by
    obtain ⟨hd1, hd2⟩ := List.mem_filter.mp hd
    obtain ⟨k, hk', rfl⟩ := bm d hd1
    rw [hQ] at hd2
    have z' := of_decide_eq_true hd2
    refine ⟨cs.getD k 0, ?_, by rw [hv]; rfl⟩
    rw [List.getD_eq_getElem?_getD, List.getElem?_eq_getElem (by omega)]
    exact List.getElem_mem _)
  rw [es] at ls
  have sl' : sm.length ≤ 8 := by
    have := List.length_filter_le Q bs
    omega
  have sI : In120 sm := fun y hy => h.i y (sin y hy)
  have lo := lleast_ok sI (show sm.length ≤ 20 by omega)
  have mo := fin_mul t2 sI (show sm.length ≤ 20 by omega)
  by_cases zs : sd > 0
  · have d1 : decide (sd > 0) = true := decide_eq_true zs
    have md0 := Int.emod_nonneg r3 (show (3 : Int) ≠ 0 by omega)
    have md1 := Int.emod_lt_of_pos r3 (show (0 : Int) < 3 by omega)
    have k3 := kMod_ok (i := r3) (j := 3) (by omega)
    obtain ⟨b, hb, hb1, hb2⟩ : ∃ b : Int, atD [.int 720720, .int 5040, .int 9240] (r3 % 3) = .ok (.int b) ∧ 1 ≤ b ∧ b ≤ 720720 := by
      rcases (show r3 % 3 = 0 ∨ r3 % 3 = 1 ∨ r3 % 3 = 2 by omega) with z | z | z <;> rw [z]
      · exact ⟨720720, rfl, by omega, by omega⟩
      · exact ⟨5040, rfl, by omega, by omega⟩
      · exact ⟨9240, rfl, by omega, by omega⟩
    have m2 : mulOk b (1 + r3) = true := mulOk_lt (a := 60) (b := 60) (by omega) (by omega) (by omega)
    have bp : 1 ≤ b * (1 + r3) := Int.mul_pos (show 0 < b by omega) (show 0 < 1 + r3 by omega)
    have bu : b * (1 + r3) ≤ 720720 * 41 := Int.mul_le_mul hb2 (by omega) (by omega) (by omega)
    have big : (2 : Nat) ^ 40 ≤ 2 ^ 4000 := Nat.pow_le_pow_right (by omega) (by omega)
    have lg := lgcd_eq ((t : Int) * ((lcmL sm : Nat) : Int)) (b * (1 + r3)) (by omega)
    have gp : 1 ≤ ((Int.gcd ((t : Int) * ((lcmL sm : Nat) : Int)) (b * (1 + r3)) : Nat) : Int) := by
      have : 0 < Int.gcd ((t : Int) * ((lcmL sm : Nat) : Int)) (b * (1 + r3)) := Int.gcd_pos_of_ne_zero_right _ (by omega)
      omega
    obtain ⟨q9, q10, q11, q12, q13, κ', w, ck', hk'⟩ := tail09 hk1 ck1 hm ⟨t1, t2⟩ h hl gp S (.sh (.int x)) (.sh (.lst [.int sd, .int r1, .int r2, .int r3])) (.sh (.lst bs)) .no (.sh (.lst (natL sm))) (.sh (.int ((t : Int) * ((lcmL sm : Nat) : Int)))) o10 o11 o12 o13
    refine ⟨.sh (.int (t : Nat)), .sh (.loc m), .sh (.lst [.int sd, .int r1, .int r2, .int r3]), .sh (.lst bs), .sh (.lst (natL sm)), .sh (.int ((t : Int) * ((lcmL sm : Nat) : Int))), q9, q10, q11, q12, q13, κ', ?_, ck', hk'⟩
    unfold lb_law_0
    k_search [wo, so, f1, kc, some (lb), some (ls), lo, kMul_ok mo, d1, k3, hb, kMul_ok m2, lg, w]
  · have d1 : decide (sd > 0) = false := decide_eq_false zs
    obtain ⟨q9, q10, q11, q12, q13, κ', w, ck', hk'⟩ := tail09 hk1 ck1 hm ⟨t1, t2⟩ h hl (y := 1 + r1) (by omega) S (.sh (.int x)) (.sh (.lst [.int sd, .int r1, .int r2, .int r3])) (.sh (.lst bs)) .no (.sh (.lst (natL sm))) (.sh (.int ((t : Int) * ((lcmL sm : Nat) : Int)))) o10 o11 o12 o13
    refine ⟨.sh (.int (t : Nat)), .sh (.loc m), .sh (.lst [.int sd, .int r1, .int r2, .int r3]), .sh (.lst bs), .sh (.lst (natL sm)), .sh (.int ((t : Int) * ((lcmL sm : Nat) : Int))), q9, q10, q11, q12, q13, κ', ?_, ck', hk'⟩
    unfold lb_law_0
    k_search [wo, so, f1, kc, some (lb), some (ls), lo, kMul_ok mo, d1, w]
end
theorem law_true : ∀ ns : List Int, ns.length ≤ 63 → ∃ k, F_law [.scr ns] (tabs mks) = .ok (.bl true) k := by
  intro ns hns
  have g1 : cutD (ns.map D.int) none (some 63) = ns.map D.int := by
    rw [show (63 : Int) = ((63 : Nat) : Int) from rfl, cut_most, List.take_of_length_le hns]
  have g2 : cutD (ns.map D.int) none (some 24) = (ns.take 24).map D.int := by
    rw [show (24 : Int) = ((24 : Nat) : Int) from rfl, cut_most]
  have kc : kCat (.lst ((ns.take 24).map D.int)) (.lst [.int 0, .int 1]) = .ok (.lst ((ns.take 24 ++ [0, 1]).map D.int)) := by
    rw [kCat_ok (by rw [List.length_map, List.length_take]; simp only [List.length_cons, List.length_nil]; omega), List.map_append]
    rfl
  obtain ⟨δ', κ', w, J⟩ := forC_inv (gt := gtN 1) (b := lb_law_0) (fun δ κ => (∃ o1 o2 o3 o4 o5 o7 o8 o9 o10 o11 o12 o13, δ = [.sh (.lst (ns.map D.int)), o1, o2, o3, o4, o5, .no, o7, o8, o9, o10, o11, o12, o13, .no]) ∧ κ[0]? = some tb09 ∧ cleanKL κ = true) (ds := (ns.take 24 ++ [0, 1]).map D.int) (δ := [.sh (.lst (ns.map D.int)), .no, .no, .no, .no, .no, .no, .no, .no, .no, .no, .no, .no, .no, .no]) (κ := tabs mks) (by
    rintro d hd δ κ ⟨⟨o1, o2, o3, o4, o5, o7, o8, o9, o10, o11, o12, o13, rfl⟩, hk, ck⟩
    obtain ⟨x, _, rfl⟩ := List.mem_map.mp hd
    obtain ⟨q2, q3, q4, q5, q7, q8, q9, q10, q11, q12, q13, κ', w, ck', hk'⟩ := cell09 x hk ck (.sh (.lst (ns.map D.int))) o2 o3 o4 o5 o7 o8 o9 o10 o11 o12 o13
    exact ⟨_, _, κ', rfl, .inl w, ⟨_, _, _, _, _, _, _, _, _, _, _, _, rfl⟩, hk', ck'⟩) ⟨⟨_, _, _, _, _, _, _, _, _, _, _, _, rfl⟩, rfl, rfl⟩
  refine ⟨κ', ?_⟩
  unfold F_law sm_law
  k_search [g1, g2, kc, w]
  all_goals rfl
end
end Law

set_option Elab.async false
set_option linter.all false
set_option maxRecDepth 100000
set_option maxHeartbeats 4000000
open PySem PySem.W PySem.Calls PyProof.Rows
set_option maxRecDepth 100000 in
set_option maxHeartbeats 0 in
theorem PySem.Challenge.cw_nonius_k09_whole_few_circles_and_plans_holds : PySem.Challenge.rw_nonius_k09_whole_few_circles_and_plans.Holds := by
  w_on; o_law
  refine HandSHeadRun.head_any (r := OpenLaw.row PySem.Challenge.rw_nonius_k09_whole_few_circles_and_plans) (q := view (OpenLaw.row PySem.Challenge.rw_nonius_k09_whole_few_circles_and_plans).prog [39]) (H := Law.hk) (ob := Law.ob) (M := 9000) (loose := Law.loose) (d := HandSHeadRun.topDef (OpenLaw.row PySem.Challenge.rw_nonius_k09_whole_few_circles_and_plans).prog 39) (kwd := []) Law.ob_eq
    (by kernel_rfl) (fun s => by kernel_rfl) Law.run (by kernel_rfl) (by kernel_rfl) (by kernel_rfl) (by rfl) (by first | assumption | decide +kernel) (by decide +kernel) ⟨rfl, rfl, rfl, rfl, rfl, by decide +kernel⟩ ?hw ?hc
  case hw => w_witness2
  case hc =>
    refine Pd.walk_lawL (mks := Law.mks) (l := PySem.Challenge.rw_nonius_k09_whole_few_circles_and_plans) (k := 10) (x := "_law_script") (e := by kernel_rfl) rfl (by kernel_rfl) ⟨rfl, by decide, by decide⟩ (fun w mg fa h Y G hmg => ?_)
    obtain ⟨K, KX, cx⟩ := Y
    have c := cx.t.d
    have e0 := cx.more
    have hm := He.glo_ok KX G (c.fact 28 (f := .glo "law") rfl)
    have ef : fa = He.ga K "law" := by
      rw [hm] at hmg
      exact (Value.ref.inj (Option.some.inj hmg)).symm
    subst ef
    have D := c.def_ 28 (d := Law.d_law) rfl
    obtain ⟨fd, D⟩ := D
    refine ⟨K, fd, _, KX, fun p hp => ?_, fun p hp => ?_, fun p hp => ?_, fun s v => L2.FunD.bindsA (ps := ["_law_script"]) D (fun _ _ _ _ _ _ us hl => match us, hl with | [_], _ => rfl) s [v] rfl, fun H a ns hl hT hS => Pd.law_spL (ca := He.ga K) (w := w) Law.mks (by simp [Law.mks]) Law.law_true H a ns hl hT hS, fun base h1 h2 h3 => ?_⟩
    · exact cx.empty (p.1, none) (Law.mks_tf p hp)
    · exact cx.out (p.1, none) (Law.mks_tf p hp)
    · exact cx.hd (p.1, none) (Law.mks_tf p hp)
    obtain ⟨fd2, E2⟩ := Law.facts (P := (PySem.Challenge.rw_nonius_k09_whole_few_circles_and_plans).prog) (w := w) (base := base) KX G c e0 h3
    have z : fd = fd2 := Pd.funD_inj D E2.d
    subst z
    exact E2.g
#print axioms PySem.Challenge.cw_nonius_k09_whole_few_circles_and_plans_holds
